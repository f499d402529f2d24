import PyProof.Rows.All
import Wide.All
import OpenK.AllK
import Wide.FinOn
import HandS.ForMost
import HandS.ForExc
import HandS.Wide
import HandS.Walk
import HandS.Zip
import HandS.IsInst
import HandS.TupAny
import HandS.TupMul
import HandS.Deep
import KE.DataCmp
import KE.DataMinMax
import KE.SortData
import KE.GoesNew
import HandS.Style
import HandS.CallSlots
import HandS.ExcOwn
import HandS.WordsExc
import HandS.Defaults
import HandS.List
import HandS.TryOnly
import HandS.Conv
import HandS.Iter
import PyProof.SliceSyntax
import PyProof.Rows.TupMore
import HandS.EndBits
import HandS.EndTab
import PyProof.ReprRoads
import PyProof.ReprLen
import KE.KDictPairs
import PyProof.Rows.TupTab
import HandS.Small
import HandS.Strs
import PyProof.Rows.ReprOcc
import KE.KStateDown
import Lean
import HandS.Base
import HandS.Call
import HandS.Ends
import HandS.More
import HandS.Words
import HandS.Head0
import HandS.Head1
import HandS.Head2
import HandS.HeadEnd
import HandS.HeadHook1
import HandS.HeadHook2
import HandS.HeadHook3
import HandS.HeadHook4
import HandS.HeadWalk
import PySem.Challenge.RW_evenwheels_k40_whole_mirrored
set_option Elab.async false
set_option linter.all false
set_option maxRecDepth 100000
set_option maxHeartbeats 4000000
/-! G1: a by-value layer over HandS: data as PyData, mutable lists and dicts in a store, expressions and statements as functions -/
namespace G
open PySem PySem.Spec L2
set_option autoImplicit false

/-! ### values, store, outcomes -/
inductive W where
  | d (x : PyData)
  | o (n : Nat)
  | v (x : V)
  /-- data, of tuples that the run has made -/
  | t (x : PyData)
  /-- a tuple of which the object is known; a tuple whose second part is such a one -/
  | u (x : PyData)
  | u2 (x : PyData)
inductive Cell where
  | lst (ws : List W)
  | dic (kvs : List (Key × W))
  | fz (x : PyData)
  /-- a dict by tuples; one that is written no more -/
  | dit (kvs : List (List Key × W))
  | fd (kvs : List (List Key × W))
  /-- a dict by tuples of numbers, whatever tuples they are; one that is written no more -/
  | dix (kvs : List (List Int × W))
  | fdx (kvs : List (List Int × W))
abbrev Sto := List Cell
structure Exn where
  c : Nat
  f : List (Str × PyData)
inductive Out (α : Type) where
  | ok (a : α) (S : Sto)
  | ex (e : Exn) (S : Sto)
  | bad
abbrev Slt := List (Option W)
abbrev Fe (α : Type) := Slt → Sto → Out α
def Out.bind {α β : Type} (r : Out α) (k : α → Sto → Out β) : Out β := match r with
  | .ok a S => k a S
  | .ex e S => .ex e S
  | .bad => .bad
def ofO {α : Type} (r : Option (α × Sto)) : Out α := match r with
  | some (a, S) => .ok a S
  | none => .bad

@[simp] theorem bind_ok {α β : Type} (a : α) (S : Sto) (k : α → Sto → Out β) : (Out.ok a S).bind k = k a S := id rfl
@[simp] theorem bind_ex {α β : Type} (e : Exn) (S : Sto) (k : α → Sto → Out β) : (Out.ex e S).bind k = .ex e S := id rfl
@[simp] theorem bind_bad {α β : Type} (k : α → Sto → Out β) : (Out.bad : Out α).bind k = .bad := id rfl
@[simp] theorem ofO_some {α : Type} (a : α) (S : Sto) : ofO (some (a, S)) = .ok a S := id rfl
@[simp] theorem ofO_none {α : Type} : ofO (none : Option (α × Sto)) = .bad := id rfl

/-! ### worlds -/
structure Wd where
  μ : List Addr
  S : Sto
  H : Hp
def Cell.live : Cell → Bool
  | .fz _ => false
  | .fd _ => false
  | .fdx _ => false
  | _ => true
def Wd.live (w : Wd) (a : Addr) : Prop := ∃ (n : Nat) (c : Cell), w.μ[n]? = some a ∧ w.S[n]? = some c ∧ c.live = true
open Classical in
noncomputable def Wd.im (w : Wd) : Hp := fun a => if w.live a then none else match w.H a with
  | some (.tbl _) => none
  | o => o
theorem Wd.im_eq {w : Wd} {a : Addr} (h : ¬ w.live a) (ht : ∀ ps, w.H a ≠ some (.tbl ps)) : w.im a = w.H a := by
  unfold Wd.im
  rw [if_neg h]
  cases e : w.H a with
  | none => rfl
  | some o =>
    cases o <;> first | rfl | exact absurd e (ht _)
theorem Wd.im_some {w : Wd} {a : Addr} {o : HO} (h : w.im a = some o) : w.H a = some o ∧ ¬ w.live a ∧ ∀ ps, o ≠ .tbl ps := by
  unfold Wd.im at h
  by_cases hl : w.live a
  · rw [if_pos hl] at h; cases h
  · rw [if_neg hl] at h
    cases e : w.H a with
    | none => rw [e] at h; cases h
    | some u =>
      rw [e] at h
      cases u <;> first | (cases h; exact ⟨rfl, hl, fun ps q => by cases q⟩) | cases h
theorem Wd.im_of {w : Wd} {a : Addr} {o : HO} (h : w.H a = some o) (hl : ¬ w.live a) (ht : ∀ ps, o ≠ .tbl ps) : w.im a = some o := by
  rw [Wd.im_eq hl (fun ps q => ht ps (Option.some.inj (h.symm.trans q)))]; exact h
theorem im_sub (w : Wd) : Same w.im w.H := fun _ _ h => (Wd.im_some h).1

/-! ### data -/
section
variable {K : PySem.W.Frag} {H H' : Hp}
theorem SqL.mono (h : Same H H') {a : Addr} {xs : List V} (q : SqL K H a xs) : SqL K H' a xs := h.seq q
theorem SqT.mono (h : Same H H') {a : Addr} {xs : List V} (q : SqT K H a xs) : SqT K H' a xs := by
  rcases q with (q | ⟨o, q⟩) | q
  · exact .inl (.inl (h _ _ q))
  · exact .inl (.inr ⟨o, h _ _ q⟩)
  · exact .inr q
mutual
theorem Dp.mono (h : Same H H') : ∀ {v : V} {d : PyData}, Dp K H v d → Dp K H' v d
  | _, _, .non => .non
  | _, _, .bl b => .bl b
  | _, _, .int i => .int i
  | _, _, .str x => .str x
  | _, _, .lst q r => .lst (SqL.mono h q) (DpAll.mono h r)
  | _, _, .tup q r => .tup (SqT.mono h q) (DpAll.mono h r)
theorem DpAll.mono (h : Same H H') : ∀ {v : List V} {d : List PyData}, DpAll K H v d → DpAll K H' v d
  | _, _, .nil => .nil
  | _, _, .cons q r => .cons (Dp.mono h q) (DpAll.mono h r)
end
end
theorem DpAll.paired {K : PySem.W.Frag} {H : Hp} : ∀ {vs : List V} {ds : List PyData}, DpAll K H vs ds → Paired (Dp K H) vs ds
  | _, _, .nil => .nil
  | _, _, .cons q r => .cons q (DpAll.paired r)
theorem DpAll.of {K : PySem.W.Frag} {H : Hp} : ∀ {vs : List V} {ds : List PyData}, Paired (Dp K H) vs ds → DpAll K H vs ds
  | _, _, .nil => .nil
  | _, _, .cons q r => .cons q (DpAll.of r)

/-! ### values in a world -/
def RW (K : PySem.W.Frag) (w : Wd) (v : V) : W → Prop
  | .d x => Dp K w.im v x
  | .o n => ∃ a, w.μ[n]? = some a ∧ v = .ref a
  | .v x => v = x
  | .t x => ∃ b xs ds, v = .ref b ∧ x = .tuple ds ∧ w.im b = some (.tup xs) ∧ DpAll K w.im xs ds
  | .u x => ∃ b xs ds ob, v = .ref b ∧ x = .tuple ds ∧ w.im b = some (.frz ob (.tup xs)) ∧ ob.cls = .type "tuple" ∧ ob.dict = none ∧ DpAll K w.im xs ds
  | .u2 x => ∃ b c v1 d1 ds xs ys ob, v = .ref b ∧ x = .tuple [d1, .tuple ds] ∧ w.im b = some (.tup xs) ∧ xs = [v1, .ref c] ∧ Dp K w.im v1 d1 ∧ w.im c = some (.frz ob (.tup ys)) ∧ ob.cls = .type "tuple" ∧ ob.dict = none ∧ DpAll K w.im ys ds
/-- an entry of a dict by tuples of numbers -/
def entX (x : List Int × Addr × Value) : DictEntry := ⟨reduceHash (Builtin.Tuple.tupleHashOf (x.1.map hashInt)), .ref x.2.1, x.2.2⟩
def dxP (a : Addr) (xs : List (List Int × Addr × Value)) (h : Heap) : Prop := ∃ o es ep, h.get? a = some o ∧ o.ExactDict ∧ o.data = .dict es ep ∧ es.toList = xs.map entX ∧ (xs.map (·.1)).Nodup
def XE (K : PySem.W.Frag) (w : Wd) (x : List Int × Addr × Value) (q : List Int × W) : Prop := x.1 = q.1 ∧ SqT K w.im x.2.1 (q.1.map V.int) ∧ ∃ v, RelV v x.2.2 ∧ RW K w v q.2
def CellOk (K : PySem.W.Frag) (w : Wd) (a : Addr) : Cell → Prop
  | .lst ws => ∃ vs, w.H a = some (.lst vs) ∧ Paired (RW K w) vs ws
  | .dic kvs => ∃ us, w.H a = some (.dK us) ∧ Paired (fun (p : Key × V) (q : Key × W) => p.1 = q.1 ∧ RW K w p.2 q.2) us kvs
  | .fz x => ∃ vs ds, x = .list ds ∧ w.H a = some (.lst vs) ∧ DpAll K w.im vs ds
  | .dit kvs => ∃ us, w.H a = some (.dT us) ∧ Paired (fun (p : List Key × V) (q : List Key × W) => p.1 = q.1 ∧ RW K w p.2 q.2) us kvs
  | .fd kvs => ∃ o us, w.H a = some (.frz o (.dT us)) ∧ Paired (fun (p : List Key × V) (q : List Key × W) => p.1 = q.1 ∧ RW K w p.2 q.2) us kvs
  | .dix kvs => ∃ xs, w.H a = some (.ext (dxP a xs)) ∧ (a == sysModules) = false ∧ xs.length ≤ 1000000 ∧ Paired (XE K w) xs kvs
  | .fdx kvs => ∃ o xs, w.H a = some (.frz o (.ext (dxP a xs))) ∧ (a == sysModules) = false ∧ xs.length ≤ 1000000 ∧ Paired (XE K w) xs kvs
/-- what the proof of a program knows besides: where its classes stand, what must hold of the heap always -/
structure Gm where
  ca : Nat → Addr
  ok : Hp → Prop
  upd : ∀ H p o, (H p = none ∨ (∃ xs, H p = some (.lst xs)) ∨ (∃ kvs, H p = some (.dK kvs)) ∨ (∃ kvs, H p = some (.dT kvs)) ∨ (∃ φ, H p = some (.ext φ))) → ok H → ok (L2.upd H p o)
structure Good (Γ : Gm) (K : PySem.W.Frag) (w : Wd) : Prop where
  len : w.μ.length = w.S.length
  inj : w.μ.Nodup
  tr : ∀ a ∈ w.μ, ∃ o, w.H a = some o
  cell : ∀ (n : Nat) (a : Addr) (c : Cell), w.μ[n]? = some a → w.S[n]? = some c → CellOk K w a c
  side : Γ.ok w.H
structure Wd.le (w w1 : Wd) : Prop where
  im : Same w.im w1.im
  pre : ∃ ν, w1.μ = w.μ ++ ν
theorem Wd.le.refl (w : Wd) : w.le w := ⟨Same.refl _, [], by simp⟩
theorem Wd.le.trans {w w1 w2 : Wd} (a : w.le w1) (b : w1.le w2) : w.le w2 := by
  obtain ⟨ν, e⟩ := a.pre
  obtain ⟨ν', e'⟩ := b.pre
  exact ⟨a.im.trans b.im, ν ++ ν', by rw [e', e, List.append_assoc]⟩
theorem Wd.le.at {w w1 : Wd} (h : w.le w1) {n : Nat} {a : Addr} (e : w.μ[n]? = some a) : w1.μ[n]? = some a := by
  obtain ⟨ν, q⟩ := h.pre
  rw [q]
  have hn := (List.getElem?_eq_some_iff.mp e).1
  rw [List.getElem?_append_left hn]; exact e
section
variable {K : PySem.W.Frag} {w w1 : Wd}
theorem RW.mono (h : w.le w1) {v : V} : ∀ {x : W}, RW K w v x → RW K w1 v x
  | .d _, r => Dp.mono h.im r
  | .o _, ⟨a, e, q⟩ => ⟨a, h.at e, q⟩
  | .v _, r => r
  | .t _, ⟨b, xs, ds, e1, e2, q, r⟩ => ⟨b, xs, ds, e1, e2, h.im _ _ q, DpAll.mono h.im r⟩
  | .u _, ⟨b, xs, ds, ob, e1, e2, q, c, d, r⟩ => ⟨b, xs, ds, ob, e1, e2, h.im _ _ q, c, d, DpAll.mono h.im r⟩
  | .u2 _, ⟨b, c, v1, d1, ds, xs, ys, ob, e1, e2, q, e3, q1, q2, c1, c2, r⟩ => ⟨b, c, v1, d1, ds, xs, ys, ob, e1, e2, h.im _ _ q, e3, Dp.mono h.im q1, h.im _ _ q2, c1, c2, DpAll.mono h.im r⟩
theorem Paired.imp {α β : Type} {F G : α → β → Prop} (h : ∀ a b, F a b → G a b) : ∀ {l : List α} {m : List β}, Paired F l m → Paired G l m
  | _, _, .nil => .nil
  | _, _, .cons q r => .cons (h _ _ q) (Paired.imp h r)
theorem RW.unt {v : V} {x : PyData} : RW K w v (.t x) → RW K w v (.d x)
  | ⟨_, _, _, e1, e2, q, r⟩ => by
    subst e1 e2
    exact Dp.tup (.inl (.inl q)) r
theorem RW.unu {v : V} {x : PyData} : RW K w v (.u x) → RW K w v (.d x)
  | ⟨_, _, _, _, e1, e2, q, _, _, r⟩ => by
    subst e1 e2
    exact Dp.tup (.inl (.inr ⟨_, q⟩)) r
theorem RW.unu2 {v : V} {x : PyData} : RW K w v (.u2 x) → RW K w v (.d x)
  | ⟨_, _, _, _, _, _, _, _, e1, e2, q, e3, q1, q2, _, _, r⟩ => by
    subst e1 e2 e3
    exact Dp.tup (.inl (.inl q)) (.cons q1 (.cons (Dp.tup (.inl (.inr ⟨_, q2⟩)) r) .nil))
abbrev RWs (K : PySem.W.Frag) (w : Wd) : List V → List W → Prop := Paired (RW K w)
theorem RWs.mono (h : w.le w1) {vs : List V} {xs : List W} (r : RWs K w vs xs) : RWs K w1 vs xs := Paired.imp (fun _ _ q => RW.mono h q) r
end
/-- an exception by its class and its fields -/
def RX (Γ : Gm) (K : PySem.W.Frag) (w : Wd) (cls : Value) (d : Option Addr) (e : Exn) : Prop :=
  cls = .ref (Γ.ca e.c) ∧ match e.f with
    | [] => True
    | fs => ∃ dd us, d = some dd ∧ w.im dd = some (.xd us) ∧ Paired (fun (p : Str × V) (q : Str × PyData) => p.1 = q.1 ∧ Dp K w.im p.2 q.2) us fs

/-! ### what a function's outcome asks -/
section
variable {α β : Type}
def Post (Γ : Gm) (K : PySem.W.Frag) (R : Wd → β → α → Prop) (w : Wd) (σ : St) (Z : WX) (r : Out α) (Q : β → Hp → Prop) : Prop := match r with
  | .ok x S' => ∀ w1 v, w1.S = S' → w.le w1 → Good Γ K w1 → R w1 v x → Q v w1.H
  | .ex e S' => ∀ w1 cls d, w1.S = S' → w.le w1 → Good Γ K w1 → RX Γ K w1 cls d e → Z cls d σ w1.H
  | .bad => False
variable {Γ : Gm} {K : PySem.W.Frag} {R : Wd → β → α → Prop} {w w1 : Wd} {σ : St} {Z : WX} {r : Out α} {Q Q' : β → Hp → Prop}
theorem Post.mono (h : w.le w1) (p : Post Γ K R w σ Z r Q) : Post Γ K R w1 σ Z r Q := by
  cases r with
  | ok x S' => exact fun w2 v e l g q => p w2 v e (h.trans l) g q
  | ex e S' => exact fun w2 c d e l g q => p w2 c d e (h.trans l) g q
  | bad => exact p
theorem Post.imp (p : Post Γ K R w σ Z r Q) (h : ∀ v H, Q v H → Q' v H) : Post Γ K R w σ Z r Q' := by
  cases r with
  | ok x S' => exact fun w2 v e l g q => h _ _ (p w2 v e l g q)
  | ex e S' => exact p
  | bad => exact p
theorem Post.bind {γ δ : Type} {R' : Wd → δ → γ → Prop} {k : α → Sto → Out γ} {Q' : δ → Hp → Prop} (p : Post Γ K R' w σ Z (r.bind k) Q') :
    Post Γ K R w σ Z r fun v H1 => ∃ w1 x, w1.H = H1 ∧ Good Γ K w1 ∧ w.le w1 ∧ R w1 v x ∧ Post Γ K R' w1 σ Z (k x w1.S) Q' := by
  cases r with
  | ok x S' =>
    intro w1 v e l g q
    refine ⟨w1, x, rfl, g, l, q, ?_⟩
    subst e
    exact Post.mono l p
  | ex e S' => exact p
  | bad => exact p
theorem Post.use {x : α} {v : β} (p : Post Γ K R w σ Z (.ok x w.S) Q) (G : Good Γ K w) (h : R w v x) : Q v w.H := p w v rfl (Wd.le.refl w) G h
end
/-- the slots -/
structure Slots (K : PySem.W.Frag) (w : Wd) (σ : St) (ρ : Slt) : Prop where
  len : ρ.length = σ.length
  val : ∀ (i : Nat) (x : W), ρ[i]? = some (some x) → ∃ v, σ[i]? = some (some v) ∧ RW K w v x
theorem Slots.mono {K : PySem.W.Frag} {w w1 : Wd} {σ : St} {ρ : Slt} (h : w.le w1) (s : Slots K w σ ρ) : Slots K w1 σ ρ :=
  ⟨s.len, fun i x e => let ⟨v, a, b⟩ := s.val i x e; ⟨v, a, RW.mono h b⟩⟩
theorem Slots.set {K : PySem.W.Frag} {w : Wd} {σ : St} {ρ : Slt} (s : Slots K w σ ρ) {v : V} {x : W} (r : RW K w v x) (i : Nat) : Slots K w (σ.set i (some v)) (ρ.set i (some x)) := by
  refine ⟨by simp [s.len], fun j y e => ?_⟩
  by_cases h : i = j
  · subst h
    have hl : i < ρ.length := by
      have := (List.getElem?_eq_some_iff.mp e).1
      simpa using this
    rw [List.getElem?_set_self hl] at e
    cases e
    exact ⟨v, by rw [List.getElem?_set_self (by rw [← s.len]; exact hl)], r⟩
  · rw [List.getElem?_set_ne h] at e ⊢
    exact s.val j y e
theorem Slots.unset {K : PySem.W.Frag} {w : Wd} {σ : St} {ρ : Slt} (s : Slots K w σ ρ) (i : Nat) : Slots K w (σ.set i none) (ρ.set i none) := by
  refine ⟨by simp [s.len], fun j y e => ?_⟩
  by_cases h : i = j
  · subst h
    have hl : i < ρ.length := by
      have := (List.getElem?_eq_some_iff.mp e).1
      simpa using this
    rw [List.getElem?_set_self hl] at e
    cases e
  · rw [List.getElem?_set_ne h] at e ⊢
    exact s.val j y e

/-! ### judgements -/
def liftR {α β : Type} (Γ : Gm) (K : PySem.W.Frag) (Z : WX) (R : Wd → β → α → Prop) (f : Fe α) : St → Hp → (β → Hp → Prop) → Prop :=
  fun σ H Q => ∃ w ρ, w.H = H ∧ Good Γ K w ∧ Slots K w σ ρ ∧ Post Γ K R w σ Z (f ρ w.S) Q
def RB (_ : Wd) (b : Bool) (c : Bool) : Prop := b = c
structure VE (Γ : Gm) (X : Cx) (Z : WX) (e : Expr) (f : Fe W) : Prop where
  pe : PE X e (liftR Γ X.K Z (RW X.K) f)
structure VT (Γ : Gm) (X : Cx) (Z : WX) (e : Expr) (f : Fe Bool) : Prop where
  pt : PT X e (liftR Γ X.K Z RB f)
structure VW (Γ : Gm) (X : Cx) (Z : WX) (e : Expr) (f : Fe Bool) : Prop where
  pw : PW X e (liftR Γ X.K Z RB f)
structure VA (Γ : Gm) (X : Cx) (Z : WX) (es : List Expr) (f : Fe (List W)) : Prop where
  pa : PA X es (liftR Γ X.K Z (RWs X.K) f)
theorem PE.mono {X : Cx} {e : Expr} {t t' : TE} (h : PE X e t) (i : ∀ σ H Q, t' σ H Q → t σ H Q) : PE X e t' := ⟨fun pins s σ H Q I q => h.run pins s σ H Q I (i _ _ _ q)⟩
theorem PT.mono {X : Cx} {e : Expr} {t t' : TT} (h : PT X e t) (i : ∀ σ H Q, t' σ H Q → t σ H Q) : PT X e t' := ⟨fun pins s σ H Q I q => h.run pins s σ H Q I (i _ _ _ q)⟩
theorem PW.mono {X : Cx} {e : Expr} {t t' : TT} (h : PW X e t) (i : ∀ σ H Q, t' σ H Q → t σ H Q) : PW X e t' := ⟨fun wh pins s σ H Q I q => h.run wh pins s σ H Q I (i _ _ _ q)⟩
theorem PA.mono {X : Cx} {e : List Expr} {t t' : TA} (h : PA X e t) (i : ∀ σ H Q, t' σ H Q → t σ H Q) : PA X e t' := ⟨fun pos pins s σ H Q I q => h.run pos pins s σ H Q I (i _ _ _ q)⟩
theorem PS.mono {X : Cx} {e : Stmt} {t t' : TS} (h : PS X e t) (i : ∀ D σ H, t' D σ H → t D σ H) : PS X e t' := ⟨fun pins s σ H D I q => h.run pins s σ H D I (i _ _ _ q)⟩
theorem PSs.mono {X : Cx} {e : List Stmt} {t t' : TS} (h : PSs X e t) (i : ∀ D σ H, t' D σ H → t D σ H) : PSs X e t' := ⟨fun pins s σ H D I q => h.run pins s σ H D I (i _ _ _ q)⟩
/-- sequencing inside a reading -/
theorem liftR.bind {α β γ δ : Type} {Γ : Gm} {K : PySem.W.Frag} {Z : WX} {R : Wd → β → α → Prop} {R' : Wd → δ → γ → Prop} {f : Fe α} {k : α → Fe γ} {σ : St} {H : Hp} {Q : δ → Hp → Prop}
    (h : liftR Γ K Z R' (fun ρ S => (f ρ S).bind fun x S1 => k x ρ S1) σ H Q) :
    liftR Γ K Z R f σ H fun v H1 => ∃ x w1 ρ, w1.H = H1 ∧ Good Γ K w1 ∧ Slots K w1 σ ρ ∧ R w1 v x ∧ Post Γ K R' w1 σ Z (k x ρ w1.S) Q := by
  obtain ⟨w, ρ, e, G, s, p⟩ := h
  refine ⟨w, ρ, e, G, s, ?_⟩
  have q := Post.bind (R := R) p
  refine q.imp fun v H1 ⟨w1, x, e1, g1, l, r, p1⟩ => ⟨x, w1, ρ, e1, g1, s.mono l, r, p1⟩
theorem liftR.imp {α β : Type} {Γ : Gm} {K : PySem.W.Frag} {Z : WX} {R : Wd → β → α → Prop} {f : Fe α} {σ : St} {H : Hp} {Q Q' : β → Hp → Prop}
    (h : liftR Γ K Z R f σ H Q) (i : ∀ v H, Q v H → Q' v H) : liftR Γ K Z R f σ H Q' := by
  obtain ⟨w, ρ, e, G, s, p⟩ := h
  exact ⟨w, ρ, e, G, s, p.imp i⟩

/-! ### names, constants -/
section
variable {Γ : Gm} {X : Cx} {Z : WX} {pos : Pos}
def fVar (i : Nat) : Fe W := fun ρ S => match ρ[i]? with
  | some (some x) => .ok x S
  | _ => .bad
theorem ve_var (i : Nat) {x : Str} (hN : X.N[i]? = some x := by rfl) (hv : Vis X.env.scope x := by first | exact Or.inl rfl | exact Or.inr (Or.inl rfl) | exact Or.inr (Or.inr rfl)) (hd : (x == ("__debug__" : Str)) = false := by decide)
    (hcd : (x == ("__classdict__" : Str)) = false := by decide) : VE Γ X Z (.Name x pos) (fVar i) := by
  refine ⟨PE.mono (pe_var hN hv hd hcd) fun σ H Q h => ?_⟩
  obtain ⟨w, ρ, rfl, G, s, p⟩ := h
  unfold fVar at p
  split at p
  · rename_i y e
    obtain ⟨v, e1, r⟩ := s.val i y e
    exact ⟨v, e1, p.use G r⟩
  · exact p.elim
def fC (x : W) : Fe W := fun _ S => .ok x S
theorem ve_int {i j} : VE Γ X Z (.Constant (.int i) j pos) (fC (.d (.int i))) := ⟨PE.mono pe_int fun σ H Q ⟨w, ρ, e, G, s, p⟩ => by subst e; exact p.use G (Dp.int i)⟩
theorem ve_bl {i j} : VE Γ X Z (.Constant (.bool i) j pos) (fC (.d (.bool i))) := ⟨PE.mono pe_bl fun σ H Q ⟨w, ρ, e, G, s, p⟩ => by subst e; exact p.use G (Dp.bl i)⟩
theorem ve_non {j} : VE Γ X Z (.Constant .none j pos) (fC (.d .none)) := ⟨PE.mono pe_non fun σ H Q ⟨w, ρ, e, G, s, p⟩ => by subst e; exact p.use G Dp.non⟩
theorem ve_str {i j} : VE Γ X Z (.Constant (.str i) j pos) (fC (.d (.str i))) := ⟨PE.mono pe_str fun σ H Q ⟨w, ρ, e, G, s, p⟩ => by subst e; exact p.use G (Dp.str i)⟩
/-- a module's constant that is data -/
structure GlD (K : PySem.W.Frag) (mg : Str → Option Value) (x : Str) (d : PyData) : Prop where
  ex : ∃ v u, mg x = some u ∧ RelV v u ∧ ∀ H, Dp K H v d
theorem ve_glob {x : Str} {d : PyData} (h : GlD X.K X.mg x d) (hg : Gl X x := by rfl) (hd : (x == ("__debug__" : Str)) = false := by decide) : VE Γ X Z (.Name x pos) (fC (.d d)) := by
  obtain ⟨v, u, hm, r, q⟩ := h.ex
  exact ⟨PE.mono (pe_glob hg hm r hd) fun σ H Q ⟨w, ρ, e, G, s, p⟩ => by subst e; exact p.use G (show Dp X.K w.im v d from q _)⟩

/-! ### arguments -/
def fNil : Fe (List W) := fun _ S => .ok [] S
def fCons (f : Fe W) (g : Fe (List W)) : Fe (List W) := fun ρ S => (f ρ S).bind fun x S1 => (g ρ S1).bind fun xs S2 => .ok (x :: xs) S2
theorem va_nil : VA Γ X Z [] fNil := ⟨PA.mono pa_nil fun σ H Q ⟨w, ρ, e, G, s, p⟩ => by subst e; exact p.use G Paired.nil⟩
/-- two parts, one behind the other -/
theorem seq2 {α β γ δ ε ζ : Type} {K : PySem.W.Frag} {R : Wd → β → α → Prop} {R1 : Wd → δ → γ → Prop} {R2 : Wd → ζ → ε → Prop} (mono : ∀ w w1 v x, Wd.le w w1 → R w v x → R w1 v x) {f : Fe α} {g : Fe γ} {k : α → γ → Sto → Out ε} {σ : St} {H : Hp} {Q : ζ → Hp → Prop}
    (h : liftR Γ K Z R2 (fun ρ S => (f ρ S).bind fun x S1 => (g ρ S1).bind fun y S2 => k x y S2) σ H Q) :
    liftR Γ K Z R f σ H fun v H1 => liftR Γ K Z R1 g σ H1 fun u H2 => ∃ x y w, w.H = H2 ∧ Good Γ K w ∧ R w v x ∧ R1 w u y ∧ Post Γ K R2 w σ Z (k x y w.S) Q := by
  refine (liftR.bind (k := fun x ρ S1 => (g ρ S1).bind fun y S2 => k x y S2) h).imp fun v H1 ⟨x, w1, ρ, e1, G1, s1, r1, p1⟩ => ?_
  refine ⟨w1, ρ, e1, G1, s1, ?_⟩
  refine (Post.bind (R := R1) p1).imp fun u H2 ⟨w2, y, e2, G2, l, r2, p2⟩ => ?_
  exact ⟨x, y, w2, e2, G2, mono _ _ _ _ l r1, r2, p2⟩
theorem seq1 {α β γ δ : Type} {K : PySem.W.Frag} {R : Wd → β → α → Prop} {R2 : Wd → δ → γ → Prop} {f : Fe α} {k : α → Sto → Out γ} {σ : St} {H : Hp} {Q : δ → Hp → Prop}
    (h : liftR Γ K Z R2 (fun ρ S => (f ρ S).bind fun x S1 => k x S1) σ H Q) :
    liftR Γ K Z R f σ H fun v H1 => ∃ x w, w.H = H1 ∧ Good Γ K w ∧ R w v x ∧ Post Γ K R2 w σ Z (k x w.S) Q :=
  (liftR.bind (k := fun x _ S1 => k x S1) h).imp fun v H1 ⟨x, w1, ρ, e1, G1, s1, r1, p1⟩ => ⟨x, w1, e1, G1, r1, p1⟩
theorem va_cons {e : Expr} {es : List Expr} {f : Fe W} {g : Fe (List W)} (ha : VE Γ X Z e f) (hr : VA Γ X Z es g) (hs : starEach (e :: es) X.env = (false, eval e X.env) :: starEach es X.env := by rfl) : VA Γ X Z (e :: es) (fCons f g) := by
  refine ⟨PA.mono (pa_cons ha.pe hr.pa hs) fun σ H Q h => ?_⟩
  refine liftR.imp (seq2 (R := RW X.K) (R1 := RWs X.K) (k := fun x xs S => .ok (x :: xs) S) (fun _ _ _ _ l r => RW.mono l r) h) fun v H1 h1 => ?_
  refine liftR.imp h1 fun vs H2 ⟨x, xs, w, e, G, r, rs, p⟩ => ?_
  subst e
  exact p.use G (Paired.cons r rs)

/-! ### tests -/
def truth : W → Option Bool
  | .d (.bool b) => some b
  | _ => none
def fTru (f : Fe W) : Fe Bool := fun ρ S => (f ρ S).bind fun x S1 => ofO ((truth x).map fun b => (b, S1))
theorem vt_val {e : Expr} {f : Fe W} (h : VE Γ X Z e f) (he : ∀ whole, isTrue e X.env whole = (do let v ← whole; standAt e.pos; holding [v] (truthy v)) := by intro _; rfl) : VT Γ X Z e (fTru f) := by
  refine ⟨PT.mono (pt_val h.pe he) fun σ H Q q => ?_⟩
  refine liftR.imp (seq1 q) fun v H1 ⟨x, w, e, G, r, p⟩ => ?_
  subst e
  cases x with
  | d x =>
    cases x with
    | bool b => cases (show Dp X.K w.im v (.bool b) from r); exact ⟨b, rfl, p.use G rfl⟩
    | _ => exact p.elim
  | o n => exact p.elim
  | v n => exact p.elim
  | t n => exact p.elim
  | u n => exact p.elim
  | u2 n => exact p.elim
def fNot (f : Fe Bool) : Fe Bool := fun ρ S => (f ρ S).bind fun b S1 => .ok (!b) S1
theorem vt_not {e : Expr} {f : Fe Bool} (h : VT Γ X Z e f) : VT Γ X Z (.UnaryOp .Not e pos) (fNot f) := by
  refine ⟨PT.mono (pt_not h.pt) fun σ H Q q => ?_⟩
  refine liftR.imp (seq1 q) fun v H1 ⟨x, w, e, G, r, p⟩ => ?_
  subst e
  cases (show v = x from r)
  exact p.use G rfl
def fAnd (f g : Fe Bool) : Fe Bool := fun ρ S => (f ρ S).bind fun b S1 => if b = true then g ρ S1 else .ok false S1
def fOr (f g : Fe Bool) : Fe Bool := fun ρ S => (f ρ S).bind fun b S1 => if b = true then .ok true S1 else g ρ S1
theorem vw_and1 {a : Expr} {f : Fe Bool} (h : VT Γ X Z a f) : VW Γ X Z (.BoolOp .And [a] pos) f := ⟨pw_and1 h.pt⟩
theorem vw_or1 {a : Expr} {f : Fe Bool} (h : VT Γ X Z a f) : VW Γ X Z (.BoolOp .Or [a] pos) f := ⟨pw_or1 h.pt⟩
theorem vw_and {a b : Expr} {rest : List Expr} {f g : Fe Bool} (ha : VT Γ X Z a f) (hb : VW Γ X Z (.BoolOp .And (b :: rest) pos) g) : VW Γ X Z (.BoolOp .And (a :: b :: rest) pos) (fAnd f g) := by
  refine ⟨PW.mono (pw_and ha.pt hb.pw) fun σ H Q q => ?_⟩
  refine liftR.imp (liftR.bind (k := fun b ρ S1 => if b = true then g ρ S1 else .ok false S1) q) fun v H1 ⟨x, w, ρ, e, G, s, r, p⟩ => ?_
  subst e
  cases (show v = x from r)
  cases v with
  | true => exact ⟨w, ρ, rfl, G, s, p⟩
  | false => exact Post.use p G rfl
theorem vw_or {a b : Expr} {rest : List Expr} {f g : Fe Bool} (ha : VT Γ X Z a f) (hb : VW Γ X Z (.BoolOp .Or (b :: rest) pos) g) : VW Γ X Z (.BoolOp .Or (a :: b :: rest) pos) (fOr f g) := by
  refine ⟨PW.mono (pw_or ha.pt hb.pw) fun σ H Q q => ?_⟩
  refine liftR.imp (liftR.bind (k := fun b ρ S1 => if b = true then .ok true S1 else g ρ S1) q) fun v H1 ⟨x, w, ρ, e, G, s, r, p⟩ => ?_
  subst e
  cases (show v = x from r)
  cases v with
  | true => exact Post.use p G rfl
  | false => exact ⟨w, ρ, rfl, G, s, p⟩
theorem VW.vt {e : Expr} {f : Fe Bool} (h : VW Γ X Z e f) : VT Γ X Z e f := ⟨h.pw.pt⟩
end
end G
set_option Elab.async false
set_option linter.all false
set_option maxRecDepth 100000
set_option maxHeartbeats 4000000
/-! G2: how worlds change; freezing; sequences -/
namespace G
open PySem PySem.Spec L2
set_option autoImplicit false
section
variable {Γ : Gm} {K : PySem.W.Frag} {w : Wd} {p a : Addr} {o : HO} {n : Nat} {c c' : Cell}
theorem XE.mono {w1 : Wd} (h : w.le w1) {x : List Int × Addr × Value} {q : List Int × W} (z : XE K w x q) : XE K w1 x q := by
  obtain ⟨e1, e2, v, e3, e4⟩ := z
  exact ⟨e1, SqT.mono h.im e2, v, e3, RW.mono h e4⟩
theorem CellOk.mono {w1 : Wd} (h : w.le w1) (e : w1.H a = w.H a) : ∀ {c : Cell}, CellOk K w a c → CellOk K w1 a c
  | .lst ws, ⟨vs, q, r⟩ => ⟨vs, e.trans q, RWs.mono h r⟩
  | .dic kvs, ⟨us, q, r⟩ => ⟨us, e.trans q, Paired.imp (fun _ _ z => ⟨z.1, RW.mono h z.2⟩) r⟩
  | .fz x, ⟨vs, ds, e1, q, r⟩ => ⟨vs, ds, e1, e.trans q, DpAll.mono h.im r⟩
  | .dit kvs, ⟨us, q, r⟩ => ⟨us, e.trans q, Paired.imp (fun _ _ z => ⟨z.1, RW.mono h z.2⟩) r⟩
  | .fd kvs, ⟨o, us, q, r⟩ => ⟨o, us, e.trans q, Paired.imp (fun _ _ z => ⟨z.1, RW.mono h z.2⟩) r⟩
  | .dix kvs, ⟨xs, q, m, l, r⟩ => ⟨xs, e.trans q, m, l, Paired.imp (fun _ _ z => XE.mono h z) r⟩
  | .fdx kvs, ⟨o, xs, q, m, l, r⟩ => ⟨o, xs, e.trans q, m, l, Paired.imp (fun _ _ z => XE.mono h z) r⟩
theorem Good.nin (G : Good Γ K w) (hp : w.H p = none) : p ∉ w.μ := fun h => by
  obtain ⟨o, e⟩ := G.tr p h
  rw [hp] at e; cases e
theorem live_mem {a : Addr} (h : w.live a) : a ∈ w.μ := let ⟨n, _, e, _⟩ := h; List.mem_of_getElem? e
theorem Good.cellAt (G : Good Γ K w) (e : w.S[n]? = some c) : ∃ a, w.μ[n]? = some a := by
  have hn := (List.getElem?_eq_some_iff.mp e).1
  rw [← G.len] at hn
  exact ⟨w.μ[n], by simp [hn]⟩
theorem Good.uniq (G : Good Γ K w) {m : Nat} (h1 : w.μ[n]? = some a) (h2 : w.μ[m]? = some a) : n = m := by
  have hn := (List.getElem?_eq_some_iff.mp h1).1
  exact (List.getElem?_inj hn G.inj).mp (h1.trans h2.symm)
theorem Good.live_iff (G : Good Γ K w) (h1 : w.μ[n]? = some a) (h2 : w.S[n]? = some c) : w.live a ↔ c.live = true := by
  constructor
  · rintro ⟨m, d, e1, e2, e3⟩
    have := G.uniq h1 e1
    subst this
    rw [h2] at e2; cases e2; exact e3
  · intro h; exact ⟨n, c, h1, h2, h⟩
/-- a new object that never changes -/
theorem Good.new (G : Good Γ K w) (hp : w.H p = none) (o : HO) : Good Γ K ⟨w.μ, w.S, upd w.H p o⟩ ∧ w.le ⟨w.μ, w.S, upd w.H p o⟩ := by
  have le : w.le ⟨w.μ, w.S, upd w.H p o⟩ := by
    refine ⟨fun b u e => ?_, [], by simp⟩
    obtain ⟨e1, e2, e3⟩ := Wd.im_some e
    exact Wd.im_of (w := ⟨w.μ, w.S, upd w.H p o⟩) (by show upd w.H p o b = _; rw [upd_ne (ne_of_none e1 hp)]; exact e1) e2 e3
  refine ⟨⟨G.len, G.inj, fun b hb => ?_, fun m b d e1 e2 => ?_, Γ.upd _ _ _ (.inl hp) G.side⟩, le⟩
  · obtain ⟨u, e⟩ := G.tr b hb
    exact ⟨u, by show upd w.H p o b = _; rw [upd_ne (ne_of_none e hp)]; exact e⟩
  · obtain ⟨u, e⟩ := G.tr b (List.mem_of_getElem? e1)
    exact CellOk.mono le (upd_ne (ne_of_none e hp)) (G.cell m b d e1 e2)
/-- a new live object -/
theorem Good.alloc (G : Good Γ K w) (hp : w.H p = none) (o : HO) (hc : ∀ w1, w.le w1 → w1.H p = some o → CellOk K w1 p c) (hl : c.live = true) : Good Γ K ⟨w.μ ++ [p], w.S ++ [c], upd w.H p o⟩ ∧ w.le ⟨w.μ ++ [p], w.S ++ [c], upd w.H p o⟩ := by
  have np := G.nin hp
  have le : w.le ⟨w.μ ++ [p], w.S ++ [c], upd w.H p o⟩ := by
    refine ⟨fun b u e => ?_, [p], rfl⟩
    obtain ⟨e1, e2, e3⟩ := Wd.im_some e
    have nb := ne_of_none e1 hp
    refine Wd.im_of (w := ⟨w.μ ++ [p], w.S ++ [c], upd w.H p o⟩) (by show upd w.H p o b = _; rw [upd_ne nb]; exact e1) ?_ e3
    rintro ⟨m, d, q1, q2, q3⟩
    by_cases hm : m < w.μ.length
    · have q1' : w.μ[m]? = some b := by rw [← List.getElem?_append_left (l₂ := [p]) hm]; exact q1
      have q2' : w.S[m]? = some d := by rw [← List.getElem?_append_left (l₂ := [c]) (by rw [← G.len]; exact hm)]; exact q2
      exact e2 ⟨m, d, q1', q2', q3⟩
    · have q1' : [p][m - w.μ.length]? = some b := by rw [← List.getElem?_append_right (by omega)]; exact q1
      have : b ∈ [p] := List.mem_of_getElem? q1'
      exact nb (by simpa using this)
  refine ⟨⟨by simp [G.len], ?_, fun b hb => ?_, fun m b d e1 e2 => ?_, Γ.upd _ _ _ (.inl hp) G.side⟩, le⟩
  · refine List.nodup_append.mpr ⟨G.inj, by simp, fun x hx y hy => ?_⟩
    have : y = p := by simpa using hy
    subst this
    intro e; subst e; exact np hx
  · rcases List.mem_append.mp hb with hb | hb
    · obtain ⟨u, e⟩ := G.tr b hb
      exact ⟨u, by show upd w.H p o b = _; rw [upd_ne (ne_of_none e hp)]; exact e⟩
    · have : b = p := by simpa using hb
      subst this
      exact ⟨o, upd_same⟩
  · by_cases hm : m < w.μ.length
    · have q1' : w.μ[m]? = some b := by rw [← List.getElem?_append_left (l₂ := [p]) hm]; exact e1
      have q2' : w.S[m]? = some d := by rw [← List.getElem?_append_left (l₂ := [c]) (by rw [← G.len]; exact hm)]; exact e2
      obtain ⟨u, e⟩ := G.tr b (List.mem_of_getElem? q1')
      exact CellOk.mono le (upd_ne (ne_of_none e hp)) (G.cell m b d q1' q2')
    · have q1' : [p][m - w.μ.length]? = some b := by rw [← List.getElem?_append_right (by omega)]; exact e1
      have q2' : [c][m - w.S.length]? = some d := by rw [← List.getElem?_append_right (by rw [← G.len]; omega)]; exact e2
      have h1 : b ∈ [p] := List.mem_of_getElem? q1'
      have h2 : d ∈ [c] := List.mem_of_getElem? q2'
      have h1 : b = p := by simpa using h1
      have h2 : d = c := by simpa using h2
      subst h1 h2
      exact hc _ le upd_same
/-- a live object is written -/
theorem Good.write (G : Good Γ K w) (h1 : w.μ[n]? = some a) (h2 : w.S[n]? = some c) (hl : c.live = true) (o : HO) (hc : ∀ w1, w.le w1 → w1.H a = some o → CellOk K w1 a c') (hl' : c'.live = true) : Good Γ K ⟨w.μ, w.S.set n c', upd w.H a o⟩ ∧ w.le ⟨w.μ, w.S.set n c', upd w.H a o⟩ := by
  have hn := (List.getElem?_eq_some_iff.mp h2).1
  have la : w.live a := ⟨n, c, h1, h2, hl⟩
  have lv : ∀ b, Wd.live ⟨w.μ, w.S.set n c', upd w.H a o⟩ b ↔ w.live b := fun b => by
    constructor
    · rintro ⟨m, d, e1, e2, e3⟩
      by_cases hm : n = m
      · subst hm
        have : b = a := Option.some.inj (e1.symm.trans h1)
        subst this; exact la
      · have e2 : (w.S.set n c')[m]? = some d := e2
        rw [List.getElem?_set_ne hm] at e2
        exact ⟨m, d, e1, e2, e3⟩
    · rintro ⟨m, d, e1, e2, e3⟩
      by_cases hm : n = m
      · subst hm
        exact ⟨n, c', e1, by show (w.S.set n c')[n]? = _; rw [List.getElem?_set_self hn], hl'⟩
      · exact ⟨m, d, e1, by show (w.S.set n c')[m]? = _; rw [List.getElem?_set_ne hm]; exact e2, e3⟩
  have le : w.le ⟨w.μ, w.S.set n c', upd w.H a o⟩ := by
    refine ⟨fun b u e => ?_, [], by simp⟩
    obtain ⟨e1, e2, e3⟩ := Wd.im_some e
    have nb : b ≠ a := fun q => e2 (q ▸ la)
    exact Wd.im_of (w := ⟨w.μ, w.S.set n c', upd w.H a o⟩) (by show upd w.H a o b = _; rw [upd_ne nb]; exact e1) (fun q => e2 ((lv b).mp q)) e3
  have hk : (∃ xs, w.H a = some (.lst xs)) ∨ (∃ kvs, w.H a = some (.dK kvs)) ∨ (∃ kvs, w.H a = some (.dT kvs)) ∨ (∃ φ, w.H a = some (.ext φ)) := by
    have q := G.cell n a c h1 h2
    cases c with
    | lst ws => obtain ⟨vs, e, _⟩ := q; exact .inl ⟨_, e⟩
    | dic kvs => obtain ⟨vs, e, _⟩ := q; exact .inr (.inl ⟨_, e⟩)
    | fz x => cases hl
    | dit kvs => obtain ⟨vs, e, _⟩ := q; exact .inr (.inr (.inl ⟨_, e⟩))
    | fd x => cases hl
    | dix kvs => obtain ⟨vs, e, _⟩ := q; exact .inr (.inr (.inr ⟨_, e⟩))
    | fdx x => cases hl
  refine ⟨⟨by simp [G.len], G.inj, fun b hb => ?_, fun m b d e1 e2 => ?_, Γ.upd _ _ _ (.inr hk) G.side⟩, le⟩
  · by_cases hb' : b = a
    · subst hb'; exact ⟨o, upd_same⟩
    · obtain ⟨u, e⟩ := G.tr b hb
      exact ⟨u, by show upd w.H a o b = _; rw [upd_ne hb']; exact e⟩
  · by_cases hm : n = m
    · subst hm
      have : b = a := Option.some.inj (e1.symm.trans h1)
      subst this
      have e2 : (w.S.set n c')[n]? = some d := e2
      rw [List.getElem?_set_self hn] at e2
      cases e2
      exact hc _ le upd_same
    · have e2 : (w.S.set n c')[m]? = some d := e2
      rw [List.getElem?_set_ne hm] at e2
      have nb : b ≠ a := fun q => hm (G.uniq h1 (q ▸ e1))
      exact CellOk.mono le (upd_ne nb) (G.cell m b d e1 e2)
/-- a live list is frozen -/
theorem Good.freeze (G : Good Γ K w) (h1 : w.μ[n]? = some a) (h2 : ∃ c, w.S[n]? = some c) {vs : List V} {ds : List PyData} (hv : w.H a = some (.lst vs)) (hd : DpAll K w.im vs ds) :
    Good Γ K ⟨w.μ, w.S.set n (.fz (.list ds)), w.H⟩ ∧ w.le ⟨w.μ, w.S.set n (.fz (.list ds)), w.H⟩ ∧ Dp K (Wd.im ⟨w.μ, w.S.set n (.fz (.list ds)), w.H⟩) (.ref a) (.list ds) := by
  obtain ⟨c, h2⟩ := h2
  have hn := (List.getElem?_eq_some_iff.mp h2).1
  have lv : ∀ b, Wd.live ⟨w.μ, w.S.set n (.fz (.list ds)), w.H⟩ b → w.live b ∧ b ≠ a := fun b => by
    rintro ⟨m, d, e1, e2, e3⟩
    by_cases hm : n = m
    · subst hm
      have e2 : (w.S.set n (.fz (.list ds)))[n]? = some d := e2
      rw [List.getElem?_set_self hn] at e2
      cases e2; cases e3
    · have e2 : (w.S.set n (.fz (.list ds)))[m]? = some d := e2
      rw [List.getElem?_set_ne hm] at e2
      exact ⟨⟨m, d, e1, e2, e3⟩, fun q => hm (G.uniq h1 (q ▸ e1))⟩
  have le : w.le ⟨w.μ, w.S.set n (.fz (.list ds)), w.H⟩ := by
    refine ⟨fun b u e => ?_, [], by simp⟩
    obtain ⟨e1, e2, e3⟩ := Wd.im_some e
    exact Wd.im_of (w := ⟨w.μ, w.S.set n (.fz (.list ds)), w.H⟩) e1 (fun q => e2 (lv b q).1) e3
  refine ⟨⟨by simp [G.len], G.inj, G.tr, fun m b d e1 e2 => ?_, G.side⟩, le, ?_⟩
  · by_cases hm : n = m
    · subst hm
      have : b = a := Option.some.inj (e1.symm.trans h1)
      subst this
      have e2 : (w.S.set n (.fz (.list ds)))[n]? = some d := e2
      rw [List.getElem?_set_self hn] at e2
      cases e2
      exact ⟨vs, ds, rfl, hv, DpAll.mono le.im hd⟩
    · have e2 : (w.S.set n (.fz (.list ds)))[m]? = some d := e2
      rw [List.getElem?_set_ne hm] at e2
      exact CellOk.mono le rfl (G.cell m b d e1 e2)
  · refine .lst (xs := vs) (SqL.of (Wd.im_of (w := ⟨w.μ, w.S.set n (.fz (.list ds)), w.H⟩) hv (fun q => (lv a q).2 rfl) (fun ps q => by cases q))) (DpAll.mono le.im hd)
end

/-! ### freezing -/
def frzL (f : W → Sto → Option (PyData × Sto)) : List W → Sto → Option (List PyData × Sto)
  | [], S => some ([], S)
  | x :: xs, S => match f x S with
    | some (d, S1) => match frzL f xs S1 with
      | some (ds, S2) => some (d :: ds, S2)
      | none => none
    | none => none
def frz : Nat → W → Sto → Option (PyData × Sto)
  | _, .d x, S => some (x, S)
  | 0, .o _, _ => none
  | k + 1, .o n, S => match S[n]? with
    | some (.fz x) => some (x, S)
    | some (.lst ws) => match frzL (frz k) ws S with
      | some (ds, S1) => some (.list ds, S1.set n (.fz (.list ds)))
      | none => none
    | _ => none
  | _, .v _, _ => none
  | _, .t x, S => some (x, S)
  | _, .u x, S => some (x, S)
  | _, .u2 x, S => some (x, S)
@[simp] theorem frz_t (k : Nat) (x : PyData) (S : Sto) : frz k (.t x) S = some (x, S) := by cases k <;> rfl
@[simp] theorem frz_u (k : Nat) (x : PyData) (S : Sto) : frz k (.u x) S = some (x, S) := by cases k <;> rfl
@[simp] theorem frz_u2 (k : Nat) (x : PyData) (S : Sto) : frz k (.u2 x) S = some (x, S) := by cases k <;> rfl
@[simp] theorem frz_d (k : Nat) (x : PyData) (S : Sto) : frz k (.d x) S = some (x, S) := by cases k <;> rfl
section
variable {Γ : Gm} {K : PySem.W.Frag}
/-- only the store's record of who may write changes -/
structure Frz (Γ : Gm) (K : PySem.W.Frag) (w : Wd) (S' : Sto) : Prop where
  good : Good Γ K ⟨w.μ, S', w.H⟩
  le : w.le ⟨w.μ, S', w.H⟩
theorem frzL_ok {f : W → Sto → Option (PyData × Sto)} (hf : ∀ (w : Wd) (v : V) (x : W) (d : PyData) (S' : Sto), Good Γ K w → RW K w v x → f x w.S = some (d, S') → Frz Γ K w S' ∧ Dp K (Wd.im ⟨w.μ, S', w.H⟩) v d) :
    ∀ (xs : List W) (w : Wd) (vs : List V) (ds : List PyData) (S' : Sto), Good Γ K w → RWs K w vs xs → frzL f xs w.S = some (ds, S') → Frz Γ K w S' ∧ DpAll K (Wd.im ⟨w.μ, S', w.H⟩) vs ds
  | [], w, vs, ds, S', G, r, h => by
    cases r
    cases h
    exact ⟨⟨G, Wd.le.refl _⟩, .nil⟩
  | x :: xs, w, vs, ds, S', G, r, h => by
    cases r with
    | cons r rs =>
      unfold frzL at h
      split at h
      · rename_i d S1 e1
        split at h
        · rename_i ds' S2 e2
          cases h
          obtain ⟨F, q⟩ := hf w _ x d S1 G r e1
          obtain ⟨F2, q2⟩ := frzL_ok hf xs ⟨w.μ, S1, w.H⟩ _ ds' S' F.good (RWs.mono F.le rs) e2
          exact ⟨⟨F2.good, F.le.trans F2.le⟩, .cons (Dp.mono F2.le.im q) q2⟩
        · cases h
      · cases h
theorem frz_ok : ∀ (k : Nat) (w : Wd) (v : V) (x : W) (d : PyData) (S' : Sto), Good Γ K w → RW K w v x → frz k x w.S = some (d, S') → Frz Γ K w S' ∧ Dp K (Wd.im ⟨w.μ, S', w.H⟩) v d
  | k, w, v, .d x, d, S', G, r, h => by
    rw [frz_d] at h
    cases h
    exact ⟨⟨G, Wd.le.refl _⟩, r⟩
  | 0, w, v, .o n, d, S', G, r, h => by cases h
  | k + 1, w, v, .o n, d, S', G, r, h => by
    obtain ⟨a, ha, rfl⟩ := r
    unfold frz at h
    split at h
    · rename_i y e
      cases h
      obtain ⟨vs, ds, e1, q, r⟩ := G.cell n a _ ha e
      subst e1
      refine ⟨⟨G, Wd.le.refl _⟩, .lst (xs := vs) (SqL.of (Wd.im_of q (fun l => ?_) (fun ps z => by cases z))) r⟩
      rw [G.live_iff ha e] at l
      cases l
    · rename_i ws e
      split at h
      · rename_i ds S1 e1
        cases h
        obtain ⟨vs, q, r⟩ := G.cell n a _ ha e
        obtain ⟨F, p⟩ := frzL_ok (frz_ok k) ws w vs ds S1 G r e1
        have hc : ∃ c, S1[n]? = some c := by
          have hn := (List.getElem?_eq_some_iff.mp ha).1
          have : n < S1.length := by rw [← F.good.len]; exact hn
          exact ⟨S1[n], by simp [this]⟩
        obtain ⟨G2, le2, q2⟩ := Good.freeze F.good (n := n) (a := a) ha hc q p
        exact ⟨⟨G2, F.le.trans le2⟩, q2⟩
      · cases h
    · cases h
  | 0, w, v, .v y, d, S', G, r, h => by cases h
  | _ + 1, w, v, .v y, d, S', G, r, h => by cases h
  | k, w, v, .t x, d, S', G, r, h => by
    rw [frz_t] at h
    cases h
    exact ⟨⟨G, Wd.le.refl _⟩, RW.unt r⟩
  | k, w, v, .u x, d, S', G, r, h => by
    rw [frz_u] at h
    cases h
    exact ⟨⟨G, Wd.le.refl _⟩, RW.unu r⟩
  | k, w, v, .u2 x, d, S', G, r, h => by
    rw [frz_u2] at h
    cases h
    exact ⟨⟨G, Wd.le.refl _⟩, RW.unu2 r⟩
/-- read as data, nothing written -/
def view (x : W) (S : Sto) : Option PyData := (frz 6 x S).map (·.1)
@[simp] theorem view_d (x : PyData) (S : Sto) : view (.d x) S = some x := rfl
theorem view_ok {w : Wd} {v : V} {x : W} {d : PyData} (G : Good Γ K w) (r : RW K w v x) (h : view x w.S = some d) : Dp K w.H v d := by
  unfold view at h
  cases e : frz 6 x w.S with
  | none => rw [e] at h; cases h
  | some p =>
    obtain ⟨d', S'⟩ := p
    rw [e] at h
    cases h
    obtain ⟨F, q⟩ := frz_ok 6 w v x _ S' G r e
    exact Dp.mono (im_sub ⟨w.μ, S', w.H⟩) q
end

/-! ### sequences -/
def seqOf (x : W) (S : Sto) : Option (List W) := match x with
  | .d (.tuple ds) => some (ds.map .d)
  | .d (.list ds) => some (ds.map .d)
  | .o n => match S[n]? with
    | some (.lst ws) => some ws
    | some (.fz (.list ds)) => some (ds.map .d)
    | _ => none
  | _ => none
section
variable {Γ : Gm} {K : PySem.W.Frag} {w : Wd}
theorem rws_data : ∀ {vs : List V} {ds : List PyData}, DpAll K w.im vs ds → RWs K w vs (ds.map .d)
  | _, _, .nil => .nil
  | _, _, .cons q r => .cons q (rws_data r)
theorem rws_of_data : ∀ {vs : List V} {ds : List PyData}, RWs K w vs (ds.map .d) → DpAll K w.im vs ds
  | _, [], r => by cases r; exact .nil
  | _, _ :: _, r => by
    cases r with
    | cons q r => exact .cons q (rws_of_data r)
theorem seqOf_ok {v : V} {x : W} {ws : List W} (G : Good Γ K w) (r : RW K w v x) (h : seqOf x w.S = some ws) : ∃ a vs, v = .ref a ∧ (SqL K w.H a vs ∨ SqT K w.H a vs) ∧ RWs K w vs ws := by
  unfold seqOf at h
  split at h
  · rename_i ds
    cases h
    cases (show Dp K w.im v (.tuple ds) from r) with
    | tup q r => exact ⟨_, _, rfl, .inr (SqT.mono (im_sub w) q), rws_data r⟩
  · rename_i ds
    cases h
    cases (show Dp K w.im v (.list ds) from r) with
    | lst q r => exact ⟨_, _, rfl, .inl (SqL.mono (im_sub w) q), rws_data r⟩
  · rename_i n
    obtain ⟨a, ha, rfl⟩ := r
    split at h
    · rename_i ws' e
      cases h
      obtain ⟨vs, q, r⟩ := G.cell n a _ ha e
      exact ⟨a, vs, rfl, .inl (SqL.of q), r⟩
    · rename_i ds e
      cases h
      obtain ⟨vs, ds', e1, q, r⟩ := G.cell n a _ ha e
      cases e1
      exact ⟨a, vs, rfl, .inl (SqL.of q), rws_data r⟩
    · cases h
  · cases h
end
theorem Paired.len {α β : Type} {F : α → β → Prop} : ∀ {l : List α} {m : List β}, Paired F l m → l.length = m.length
  | _, _, .nil => rfl
  | _, _, .cons _ t => by simp [Paired.len t]
theorem Paired.get {α β : Type} {F : α → β → Prop} : ∀ {l : List α} {m : List β} {i : Nat} {y : β}, Paired F l m → m[i]? = some y → ∃ x, l[i]? = some x ∧ F x y
  | _, _, _, _, .nil, h => by simp at h
  | _, _, 0, _, .cons q t, h => by simp at h; subst h; exact ⟨_, rfl, q⟩
  | _, _, i + 1, _, .cons q t, h => by
    obtain ⟨x, h1, h2⟩ := Paired.get t (i := i) (by simpa using h)
    exact ⟨x, by simpa using h1, h2⟩
theorem Paired.app {α β : Type} {F : α → β → Prop} : ∀ {l l' : List α} {m m' : List β}, Paired F l m → Paired F l' m' → Paired F (l ++ l') (m ++ m')
  | _, _, _, _, .nil, s => s
  | _, _, _, _, .cons q t, s => .cons q (Paired.app t s)
theorem Paired.drop {α β : Type} {F : α → β → Prop} : ∀ {l : List α} {m : List β} (k : Nat), Paired F l m → Paired F (l.drop k) (m.drop k)
  | _, _, 0, s => s
  | _, _, _ + 1, .nil => .nil
  | _, _, k + 1, .cons _ t => Paired.drop k t
theorem Paired.take {α β : Type} {F : α → β → Prop} : ∀ {l : List α} {m : List β} (k : Nat), Paired F l m → Paired F (l.take k) (m.take k)
  | _, _, 0, _ => .nil
  | _, _, _ + 1, .nil => .nil
  | _, _, k + 1, .cons q t => .cons q (Paired.take k t)
theorem Paired.set {α β : Type} {F : α → β → Prop} {x : α} {y : β} (h : F x y) : ∀ {l : List α} {m : List β} (k : Nat), Paired F l m → Paired F (l.set k x) (m.set k y)
  | _, _, _, .nil => .nil
  | _, _, 0, .cons _ t => .cons h t
  | _, _, k + 1, .cons q t => .cons q (Paired.set h k t)
theorem Paired.erase {α β : Type} {F : α → β → Prop} : ∀ {l : List α} {m : List β} (k : Nat), Paired F l m → Paired F (l.eraseIdx k) (m.eraseIdx k)
  | _, _, _, .nil => .nil
  | _, _, 0, .cons _ t => t
  | _, _, k + 1, .cons q t => .cons q (Paired.erase k t)
theorem Paired.rep {α β : Type} {F : α → β → Prop} {l : List α} {m : List β} (h : Paired F l m) : ∀ k : Nat, Paired F (List.replicate k l).flatten (List.replicate k m).flatten
  | 0 => .nil
  | k + 1 => by simp only [List.replicate_succ, List.flatten_cons]; exact Paired.app h (Paired.rep h k)
theorem Paired.revv {α β : Type} {F : α → β → Prop} : ∀ {l : List α} {m : List β}, Paired F l m → Paired F l.reverse m.reverse
  | _, _, .nil => .nil
  | _, _, .cons q t => by simp only [List.reverse_cons]; exact Paired.app (Paired.revv t) (.cons q .nil)
theorem Paired.map_int {K : PySem.W.Frag} {w : Wd} : ∀ {vs : List V} {ns : List Int}, RWs K w vs (ns.map fun i => W.d (.int i)) → vs = ns.map V.int
  | _, [], r => by cases r; rfl
  | _, n :: ns, r => by
    cases r with
    | cons q r =>
      cases (show Dp K w.im _ (.int n) from q)
      rw [Paired.map_int r]; rfl
theorem Paired.atI {α β : Type} {F : α → β → Prop} {l : List α} {m : List β} {i : Int} {y : β} (h : Paired F l m) (e : L2.atI m i = some y) : ∃ x, L2.atI l i = some x ∧ F x y := by
  unfold L2.atI at e ⊢
  rw [Paired.len h]
  cases q : ixN m.length i with
  | none => rw [q] at e; cases e
  | some j => rw [q] at e; exact Paired.get h e
end G
set_option Elab.async false
set_option linter.all false
set_option maxRecDepth 100000
set_option maxHeartbeats 4000000
/-! G3: expressions -/
namespace G
open PySem PySem.Spec L2
set_option autoImplicit false
/-- room for what the operations call -/
def Rm (X : Cx) : Prop := X.A.units + 100 < cLine
theorem rm_of {k : Nat} {X : Cx} (h : Room k X.A) : Rm X := by have := h.un; unfold Rm; omega
/-! ### new and changed objects, as an outcome asks -/
section
variable {Γ : Gm} {K : PySem.W.Frag} {w : Wd} {σ : L2.St} {Z : WX} {Q : VK}
theorem Post.tup {ds : List PyData} {vs : List V} (P : Post Γ K (RW K) w σ Z (.ok (.d (.tuple ds)) w.S) Q) (G : Good Γ K w) (hd : DpAll K w.im vs ds) (p : Addr) (hp : w.H p = none) : Q (.ref p) (upd w.H p (.tup vs)) := by
  obtain ⟨G1, le⟩ := G.new hp (.tup vs)
  refine P ⟨w.μ, w.S, upd w.H p (.tup vs)⟩ (.ref p) rfl le G1 ?_
  exact Dp.tup (SqT.of (Wd.im_of (w := ⟨w.μ, w.S, upd w.H p (.tup vs)⟩) upd_same (fun l => G.nin hp (live_mem (w := ⟨w.μ, w.S, upd w.H p (.tup vs)⟩) l)) (fun ps q => by cases q))) (DpAll.mono le.im hd)
theorem Post.lst {ws : List W} {vs : List V} (P : Post Γ K (RW K) w σ Z (.ok (.o w.S.length) (w.S ++ [.lst ws])) Q) (G : Good Γ K w) (hd : RWs K w vs ws) (p : Addr) (hp : w.H p = none) : Q (.ref p) (upd w.H p (.lst vs)) := by
  obtain ⟨G1, le⟩ := G.alloc (c := .lst ws) hp (.lst vs) (fun w1 l e => ⟨vs, e, RWs.mono l hd⟩) rfl
  refine P ⟨w.μ ++ [p], w.S ++ [.lst ws], upd w.H p (.lst vs)⟩ (.ref p) rfl le G1 ?_
  exact ⟨p, by show (w.μ ++ [p])[w.S.length]? = _; rw [← G.len]; simp, rfl⟩
theorem Post.dic {ws : List (Key × W)} {vs : List (Key × V)} (P : Post Γ K (RW K) w σ Z (.ok (.o w.S.length) (w.S ++ [.dic ws])) Q) (G : Good Γ K w) (hd : Paired (fun (p : Key × V) (q : Key × W) => p.1 = q.1 ∧ RW K w p.2 q.2) vs ws) (p : Addr) (hp : w.H p = none) : Q (.ref p) (upd w.H p (.dK vs)) := by
  obtain ⟨G1, le⟩ := G.alloc (c := .dic ws) hp (.dK vs) (fun w1 l e => ⟨vs, e, Paired.imp (fun _ _ z => ⟨z.1, RW.mono l z.2⟩) hd⟩) rfl
  refine P ⟨w.μ ++ [p], w.S ++ [.dic ws], upd w.H p (.dK vs)⟩ (.ref p) rfl le G1 ?_
  exact ⟨p, by show (w.μ ++ [p])[w.S.length]? = _; rw [← G.len]; simp, rfl⟩
theorem Post.setL {n : Nat} {a : Addr} {c : Cell} {ws : List W} {vs : List V} {v : V} {x : W} (P : Post Γ K (RW K) w σ Z (.ok x (w.S.set n (.lst ws))) Q) (G : Good Γ K w) (h1 : w.μ[n]? = some a) (h2 : w.S[n]? = some c) (hl : c.live = true) (hd : RWs K w vs ws) (hv : RW K w v x) : Q v (upd w.H a (.lst vs)) := by
  obtain ⟨G1, le⟩ := G.write (c' := .lst ws) h1 h2 hl (.lst vs) (fun w1 l e => ⟨vs, e, RWs.mono l hd⟩) rfl
  exact P ⟨w.μ, w.S.set n (.lst ws), upd w.H a (.lst vs)⟩ v rfl le G1 (RW.mono le hv)
end
def hpl (x : W) (S : Sto) : Option (List W) := match x with
  | .o n => match S[n]? with
    | some (.lst ws) => some ws
    | some (.fz (.list ds)) => some (ds.map .d)
    | _ => none
  | _ => none
theorem hpl_ok {Γ : Gm} {K : PySem.W.Frag} {w : Wd} {v : V} {x : W} {ws : List W} (G : Good Γ K w) (r : RW K w v x) (h : hpl x w.S = some ws) : ∃ a vs, v = .ref a ∧ w.H a = some (.lst vs) ∧ RWs K w vs ws := by
  unfold hpl at h
  split at h
  · rename_i n
    obtain ⟨a, ha, rfl⟩ := r
    split at h
    · rename_i ws' e
      cases h
      obtain ⟨vs, q, r⟩ := G.cell n a _ ha e
      exact ⟨a, vs, rfl, q, r⟩
    · rename_i ds e
      cases h
      obtain ⟨vs, ds', e1, q, r⟩ := G.cell n a _ ha e
      cases e1
      exact ⟨a, vs, rfl, q, rws_data r⟩
    · cases h
  · cases h
def szOk (n : Nat) : Bool := decide (n ≤ 1000000)
theorem sz_line {n : Nat} (h : szOk n = true) : n < sizeLine := by
  have : n ≤ 1000000 := of_decide_eq_true h
  rw [sizeLine_eq]; omega
/-! ### operations of two values -/
section
variable {Γ : Gm} {X : Cx} {Z : WX} {pos : Pos}
abbrev Op2 := W → W → Sto → Option (W × Sto)
def fOp2 (g : Op2) (f h : Fe W) : Fe W := fun ρ S => (f ρ S).bind fun x S1 => (h ρ S1).bind fun y S2 => ofO (g x y S2)
def Does2 (Γ : Gm) (X : Cx) (Z : WX) (g : Op2) (r : R2) : Prop := ∀ (w : Wd) (x y : W) (vx vy : V) (σ : L2.St) (Q : VK) (z : W) (S' : Sto), Good Γ X.K w → RW X.K w vx x → RW X.K w vy y → g x y w.S = some (z, S') → Post Γ X.K (RW X.K) w σ Z (.ok z S') Q → r vx vy w.H Q
theorem Does2.use {g : Op2} {r : R2} (hd : Does2 Γ X Z g r) {w : Wd} {x y : W} {vx vy : V} {σ : L2.St} {Q : VK} (G : Good Γ X.K w) (rx : RW X.K w vx x) (ry : RW X.K w vy y) (p : Post Γ X.K (RW X.K) w σ Z (ofO (g x y w.S)) Q) : r vx vy w.H Q := by
  cases e : g x y w.S with
  | none => rw [e] at p; exact p.elim
  | some q =>
    obtain ⟨z, S'⟩ := q
    rw [e] at p
    exact hd w x y vx vy σ Q z S' G rx ry e p
theorem op2_lift {g : Op2} {r : R2} (hd : Does2 Γ X Z g r) {f h : Fe W} {σ : L2.St} {H : Hp} {Q : VK} (q : liftR Γ X.K Z (RW X.K) (fOp2 g f h) σ H Q) : tOp r (liftR Γ X.K Z (RW X.K) f) (liftR Γ X.K Z (RW X.K) h) σ H Q := by
  refine liftR.imp (seq2 (R := RW X.K) (R1 := RW X.K) (k := fun x y S => ofO (g x y S)) (fun _ _ _ _ l r => RW.mono l r) q) fun v H1 h1 => liftR.imp h1 fun u H2 ⟨x, y, w, e, G, rx, ry, p⟩ => ?_
  subst e
  exact hd.use G rx ry p
theorem ve_op {op : Operator} {r : R2} {g : Op2} {a b : Expr} {f h : Fe W} (ho : OpR X (binaryOp op) r) (hd : Does2 Γ X Z g r) (ha : VE Γ X Z a f) (hb : VE Γ X Z b h) : VE Γ X Z (.BinOp a op b pos) (fOp2 g f h) :=
  ⟨PE.mono (pe_op ho ha.pe hb.pe) fun _ _ _ q => op2_lift hd q⟩
theorem ve_cmp {op : CmpOp} {r : R2} {g : Op2} {a b : Expr} {f h : Fe W} (ho : OpR X (compareOp op) r) (hd : Does2 Γ X Z g r) (hm : behindInMarks op b = false) (ha : VE Γ X Z a f) (hb : VE Γ X Z b h) : VE Γ X Z (.Compare a [op] [b] pos) (fOp2 g f h) :=
  ⟨PE.mono (pe_cmpR ho ha.pe hb.pe hm) fun _ _ _ q => op2_lift hd q⟩
def fChain (g g' : Op2) (f h k : Fe W) : Fe W := fun ρ S => (f ρ S).bind fun x S1 => (h ρ S1).bind fun y S2 => (ofO (g x y S2)).bind fun z S3 => match z with
  | .d (.bool true) => (k ρ S3).bind fun u S4 => ofO (g' y u S4)
  | .d (.bool false) => .ok (.d (.bool false)) S3
  | _ => .bad
theorem ve_chain {op op' : CmpOp} {r r' : R2} {g g' : Op2} {a b c : Expr} {f h k : Fe W} (ho : OpR X (compareOp op) r) (hd : Does2 Γ X Z g r) (ho' : OpR X (compareOp op') r') (hd' : Does2 Γ X Z g' r') (ha : VE Γ X Z a f) (hb : VE Γ X Z b h) (hc : VE Γ X Z c k)
    (hpe : ∀ {ta tb tc : TE}, PE X a ta → PE X b tb → PE X c tc → PE X (.Compare a [op, op'] [b, c] pos) (tChain r r' ta tb tc)) : VE Γ X Z (.Compare a [op, op'] [b, c] pos) (fChain g g' f h k) := by
  refine ⟨PE.mono (hpe ha.pe hb.pe hc.pe) fun σ H Q q => ?_⟩
  refine (liftR.bind (R := RW X.K) (k := fun x ρ S1 => (h ρ S1).bind fun y S2 => (ofO (g x y S2)).bind fun z S3 => match z with
    | .d (.bool true) => (k ρ S3).bind fun u S4 => ofO (g' y u S4)
    | .d (.bool false) => .ok (.d (.bool false)) S3
    | _ => .bad) q).imp fun v H1 ⟨x, w1, ρ, e1, G1, s1, r1, p1⟩ => ?_
  refine ⟨w1, ρ, e1, G1, s1, ?_⟩
  refine (Post.bind (R := RW X.K) p1).imp fun u H2 ⟨w2, y, e2, G2, l, r2, p2⟩ => ?_
  subst e2
  refine hd.use G2 (RW.mono l r1) r2 ((Post.bind (R := RW X.K) p2).imp fun z H3 ⟨w3, zz, e3, G3, l3, r3, p3⟩ => ?_)
  subst e3
  have key : ∀ b : Bool, zz = .d (.bool b) → ∃ k', z = .bl k' ∧ if k' = true then liftR Γ X.K Z (RW X.K) k σ w3.H (fun t H4 => r' u t H4 Q) else Q (.bl false) w3.H := fun b eb => by
    subst eb
    cases (show Dp X.K w3.im z (.bool b) from r3)
    refine ⟨b, rfl, ?_⟩
    cases b with
    | true =>
      refine iteT ⟨w3, ρ, rfl, G3, (s1.mono l).mono l3, (Post.bind (R := RW X.K) p3).imp fun t H4 ⟨w4, tt, e4, G4, l4, r4, p4⟩ => ?_⟩
      subst e4
      exact hd'.use G4 (RW.mono l4 (RW.mono l3 r2)) r4 p4
    | false => exact iteF (p3.use G3 (Dp.bl false))
  cases zz with
  | d zd => cases zd <;> first | exact key _ rfl | exact p3.elim
  | o n => exact p3.elim
  | v n => exact p3.elim
  | t n => exact p3.elim
  | u n => exact p3.elim
  | u2 n => exact p3.elim
/-! #### which -/
def gInt (f : Int → Int → PyData) : Op2 := fun x y S => match x, y with
  | .d (.int i), .d (.int j) => some (.d (f i j), S)
  | _, _ => none
theorem gInt_inv {f : Int → Int → PyData} {x y z : W} {S S' : Sto} (h : gInt f x y S = some (z, S')) : ∃ i j, x = .d (.int i) ∧ y = .d (.int j) ∧ z = .d (f i j) ∧ S' = S := by
  unfold gInt at h
  split at h
  · cases h; exact ⟨_, _, rfl, rfl, rfl, rfl⟩
  · cases h
theorem does_int {f : Int → Int → PyData} {v : Int → Int → V} (hv : ∀ i j K H, Dp K H (v i j) (f i j)) : Does2 Γ X Z (gInt f) (rI0 v) := fun w x y vx vy σ Q z S' G rx ry h p => by
  obtain ⟨i, j, rfl, rfl, rfl, rfl⟩ := gInt_inv h
  cases (show Dp X.K w.im vx (.int i) from rx)
  cases (show Dp X.K w.im vy (.int j) from ry)
  exact ⟨i, j, rfl, rfl, p.use G (hv i j _ _)⟩
@[irreducible] def big : Nat := 2 ^ 400000
@[irreducible] def mid : Nat := 2 ^ 8000
def tiny (i : Int) : Bool := decide (-(2 ^ 64) < i ∧ i < 2 ^ 64)
def smal (i : Int) : Bool := decide (i.natAbs < big)
def mulOk (i j : Int) : Bool := tiny i || tiny j || (smal i && smal j)
def gMulI : Op2 := fun x y S => match x, y with
  | .d (.int i), .d (.int j) => if mulOk i j = true then some (.d (.int (i * j)), S) else none
  | _, _ => none
theorem mul_ok {i j : Int} (h : mulOk i j = true) : CMul i j ∨ CMulW i j := by
  unfold mulOk at h
  simp only [Bool.or_eq_true, Bool.and_eq_true] at h
  rcases h with (h | h) | ⟨h1, h2⟩
  · exact .inl (.inl (of_decide_eq_true h))
  · exact .inl (.inr (of_decide_eq_true h))
  · have h1 : i.natAbs < big := of_decide_eq_true h1
    have h2 : j.natAbs < big := of_decide_eq_true h2
    unfold big at h1 h2
    exact .inr (wide_mul h1 h2 (by decide) (by decide) (by decide))
def rMulA : R2 := fun x y H Q => (rI CMul (fun i j => V.int (i * j)) x y H Q ∨ rI CMulW (fun i j => V.int (i * j)) x y H Q)
theorem op_mulA : OpR X (binaryOp .Mult) rMulA := OpR.or op_mul op_mulW
theorem does_mulI : Does2 Γ X Z gMulI rMulA := fun w x y vx vy σ Q z S' G rx ry h p => by
  unfold gMulI at h
  split at h
  · rename_i i j
    split at h
    · rename_i hm
      cases h
      cases (show Dp X.K w.im vx (.int i) from rx)
      cases (show Dp X.K w.im vy (.int j) from ry)
      have q := p.use G (v := V.int (i * j)) (show Dp X.K w.im (V.int (i * j)) (.int (i * j)) from Dp.int _)
      rcases mul_ok hm with c | c
      · exact .inl ⟨i, j, rfl, rfl, c, q⟩
      · exact .inr ⟨i, j, rfl, rfl, c, q⟩
    · cases h
  · cases h
def divOk (j : Int) : Bool := decide (0 < j ∧ j.natAbs < mid)
def divNg (j : Int) : Bool := decide (j < 0 ∧ j.natAbs < mid)
def gDiv : Op2 := fun x y S => match x, y with
  | .d (.int i), .d (.int j) => if divOk j = true then some (.d (.int (i / j)), S) else if divNg j = true then some (.d (.int (i.fdiv j)), S) else none
  | _, _ => none
/-- // by a negative divisor -/
def CDivN (_ j : Int) : Prop := j < 0 ∧ j.natAbs.log2 < 9000
theorem op_fdivN : OpR X (binaryOp .FloorDiv) (rI CDivN fun i j => .int (i.fdiv j)) := opI fun i j _ _ _ _ _ hc q =>
  PyProof.Rows.floordiv_int (fun z => absurd hc.1 (by rw [z]; decide)) q (.inl (PyProof.noPylong_of_log2 hc.2))
def rDivA : R2 := fun x y H Q => (rI CDivW (fun i j => V.int (i / j)) x y H Q ∨ rI CDivN (fun i j => V.int (i.fdiv j)) x y H Q)
theorem op_fdivA : OpR X (binaryOp .FloorDiv) rDivA := OpR.or op_fdivW op_fdivN
theorem does_div : Does2 Γ X Z gDiv rDivA := fun w x y vx vy σ Q z S' G rx ry h p => by
  unfold gDiv at h
  split at h
  · rename_i i j
    split at h
    · rename_i hm
      cases h
      cases (show Dp X.K w.im vx (.int i) from rx)
      cases (show Dp X.K w.im vy (.int j) from ry)
      obtain ⟨h1, h2⟩ := (of_decide_eq_true hm : 0 < j ∧ j.natAbs < mid)
      unfold mid at h2
      exact .inl ⟨i, j, rfl, rfl, wide_div h1 h2 (by decide) (by decide), p.use G (Dp.int _)⟩
    · split at h
      · rename_i hm
        cases h
        cases (show Dp X.K w.im vx (.int i) from rx)
        cases (show Dp X.K w.im vy (.int j) from ry)
        obtain ⟨h1, h2⟩ := (of_decide_eq_true hm : j < 0 ∧ j.natAbs < mid)
        unfold mid at h2
        exact .inr ⟨i, j, rfl, rfl, ⟨h1, Nat.lt_of_lt_of_le (PySem.Flt.log2_lt_of (by decide) h2) (by decide)⟩, p.use G (Dp.int _)⟩
      · cases h
  · cases h
def gMod : Op2 := fun x y S => match x, y with
  | .d (.int i), .d (.int j) => if 0 < j then some (.d (.int (i % j)), S) else none
  | _, _ => none
theorem does_mod : Does2 Γ X Z gMod (rI (fun _ j => 0 < j) fun i j => .int (i % j)) := fun w x y vx vy σ Q z S' G rx ry h p => by
  unfold gMod at h
  split at h
  · rename_i i j
    split at h
    · rename_i hm
      cases h
      cases (show Dp X.K w.im vx (.int i) from rx)
      cases (show Dp X.K w.im vy (.int j) from ry)
      exact ⟨i, j, rfl, rfl, hm, p.use G (Dp.int _)⟩
    · cases h
  · cases h
def gPow : Op2 := fun x y S => match x, y with
  | .d (.int i), .d (.int j) => if 0 ≤ j ∧ j ≤ 1000 ∧ i.natAbs < 2 ^ 64 then some (.d (.int (i ^ j.toNat)), S) else none
  | _, _ => none
theorem does_pow : Does2 Γ X Z gPow (rI CPow fun i j => .int (i ^ j.toNat)) := fun w x y vx vy σ Q z S' G rx ry h p => by
  unfold gPow at h
  split at h
  · rename_i i j
    split at h
    · rename_i hm
      cases h
      cases (show Dp X.K w.im vx (.int i) from rx)
      cases (show Dp X.K w.im vy (.int j) from ry)
      exact ⟨i, j, rfl, rfl, ⟨hm.1, by omega, hm.2.2⟩, p.use G (Dp.int _)⟩
    · cases h
  · cases h
/-! + : numbers, tuples, lists -/
def gAdd : Op2 := fun x y S => match x, y with
  | .d (.int i), .d (.int j) => some (.d (.int (i + j)), S)
  | .d (.tuple xs), .d (.tuple ys) => if szOk (xs.length + ys.length) = true then some (.d (.tuple (xs ++ ys)), S) else none
  | x, y => match hpl x S, hpl y S with
    | some ws, some us => if szOk (ws.length + us.length) = true then some (.o S.length, S ++ [.lst (ws ++ us)]) else none
    | _, _ => none
def rAddA (K : PySem.W.Frag) : R2 := fun x y H Q => (rI0 (fun i j => V.int (i + j)) x y H Q ∨ (rCatA K x y H Q ∨ rCat x y H Q))
theorem op_addA : OpR X (binaryOp .Add) (rAddA X.K) := OpR.or op_add (OpR.or op_catA op_cat)
theorem does_add : Does2 Γ X Z gAdd (rAddA X.K) := fun w x y vx vy σ Q z S' G rx ry h p => by
  unfold gAdd at h
  split at h
  · rename_i i j
    cases h
    cases (show Dp X.K w.im vx (.int i) from rx)
    cases (show Dp X.K w.im vy (.int j) from ry)
    exact .inl ⟨i, j, rfl, rfl, p.use G (Dp.int _)⟩
  · rename_i xs ys
    split at h
    · rename_i hz
      cases h
      refine .inr (.inl ?_)
      cases (show Dp X.K w.im vx (.tuple xs) from rx) with
      | tup q1 d1 =>
        cases (show Dp X.K w.im vy (.tuple ys) from ry) with
        | tup q2 d2 =>
          have l1 := Paired.len (DpAll.paired d1)
          have l2 := Paired.len (DpAll.paired d2)
          refine ⟨_, _, _, _, rfl, rfl, SqT.mono (im_sub w) q1, SqT.mono (im_sub w) q2, by rw [l1, l2]; exact Nat.le_of_lt (sz_line hz), fun e => ?_, fun _ e => ?_, fun _ _ => ?_⟩
          · subst e
            cases d1
            exact p.use G (show Dp X.K w.im _ (.tuple ys) from .tup q2 d2)
          · subst e
            cases d2
            refine p.use G (show Dp X.K w.im _ (.tuple (xs ++ [])) from ?_)
            rw [List.append_nil]
            exact .tup q1 d1
          · exact Post.tup p G (DpAll.of (Paired.app (DpAll.paired d1) (DpAll.paired d2)))
    · cases h
  · split at h
    · rename_i ws us e1 e2
      split at h
      · rename_i hz
        cases h
        obtain ⟨a, vs, rfl, h1, r1⟩ := hpl_ok G rx e1
        obtain ⟨b, us', rfl, h2, r2⟩ := hpl_ok G ry e2
        refine .inr (.inr ⟨a, b, vs, us', rfl, rfl, h1, h2, by rw [Paired.len r1, Paired.len r2]; exact Nat.le_of_lt (sz_line hz), ?_⟩)
        exact Post.lst p G (Paired.app r1 r2)
      · cases h
    · cases h
/-! * : numbers, lists, tuples by a number -/
def gMul : Op2 := fun x y S => match x, y with
  | .d (.int i), .d (.int j) => if mulOk i j = true then some (.d (.int (i * j)), S) else none
  | .d (.tuple xs), .d (.int k) => if xs ≠ [] ∧ 2 ≤ k ∧ k ≤ 1000 ∧ xs.length ≤ 1000 then some (.d (.tuple (List.replicate k.toNat xs).flatten), S) else none
  | x, .d (.int k) => match hpl x S with
    | some ws => if -1000000 ≤ k ∧ k ≤ 1000000 ∧ szOk (ws.length * k.toNat) = true then some (.o S.length, S ++ [.lst (List.replicate k.toNat ws).flatten]) else none
    | none => none
  | _, _ => none
def rMulB (K : PySem.W.Frag) : R2 := fun x y H Q => (rMulA x y H Q ∨ (rRepT K x y H Q ∨ rRep x y H Q))
theorem op_mulB : OpR X (binaryOp .Mult) (rMulB X.K) := OpR.or op_mulA (OpR.or op_repT op_rep)
theorem does_mul : Does2 Γ X Z gMul (rMulB X.K) := fun w x y vx vy σ Q z S' G rx ry h p => by
  unfold gMul at h
  split at h
  · rename_i i j
    split at h
    · rename_i hm
      cases h
      cases (show Dp X.K w.im vx (.int i) from rx)
      cases (show Dp X.K w.im vy (.int j) from ry)
      have q := p.use G (v := V.int (i * j)) (show Dp X.K w.im (V.int (i * j)) (.int (i * j)) from Dp.int _)
      rcases mul_ok hm with c | c
      · exact .inl (.inl ⟨i, j, rfl, rfl, c, q⟩)
      · exact .inl (.inr ⟨i, j, rfl, rfl, c, q⟩)
    · cases h
  · rename_i xs k
    split at h
    · rename_i hm
      cases h
      cases (show Dp X.K w.im vy (.int k) from ry)
      cases (show Dp X.K w.im vx (.tuple xs) from rx) with
      | tup q1 d1 =>
        have l1 := Paired.len (DpAll.paired d1)
        refine .inr (.inl ⟨_, k, _, rfl, rfl, SqT.mono (im_sub w) q1, fun e => hm.1 ?_, hm.2.1, hm.2.2.1, by rw [l1]; exact hm.2.2.2, ?_⟩)
        · subst e; cases d1; rfl
        · exact Post.tup p G (DpAll.of (Paired.rep (DpAll.paired d1) _))
    · cases h
  · rename_i k _ _
    split at h
    · rename_i ws e1
      split at h
      · rename_i hm
        cases h
        cases (show Dp X.K w.im vy (.int k) from ry)
        obtain ⟨a, vs, rfl, h1, r1⟩ := hpl_ok G rx e1
        refine .inr (.inr ⟨a, k, vs, rfl, rfl, h1, by omega, by omega, by rw [Paired.len r1]; exact Nat.le_of_lt (sz_line hm.2.2), ?_⟩)
        exact Post.lst p G (Paired.rep r1 _)
      · cases h
    · cases h
  · cases h
/-! == of data -/
def dEq (neg : Bool) : Op2 := fun x y S => match view x S, view y S with
  | some a, some b => if (SeqAt.shaped a && SeqAt.shaped b) = true then some (.d (.bool (if neg = true then !PyData.eqv a b else PyData.eqv a b)), S) else none
  | _, _ => none
theorem does_eq : Does2 Γ X Z (dEq false) (rEqD X.K) := fun w x y vx vy σ Q z S' G rx ry h p => by
  unfold dEq at h
  split at h
  · rename_i a b e1 e2
    split at h
    · rename_i hs
      cases h
      rw [Bool.and_eq_true] at hs
      exact ⟨a, b, view_ok G rx e1, view_ok G ry e2, hs.1, hs.2, p.use G (Dp.bl _)⟩
    · cases h
  · cases h
theorem does_ne : Does2 Γ X Z (dEq true) (rNeD X.K) := fun w x y vx vy σ Q z S' G rx ry h p => by
  unfold dEq at h
  split at h
  · rename_i a b e1 e2
    split at h
    · rename_i hs
      cases h
      rw [Bool.and_eq_true] at hs
      exact ⟨a, b, view_ok G rx e1, view_ok G ry e2, hs.1, hs.2, p.use G (Dp.bl _)⟩
    · cases h
  · cases h
/-! is None -/
def isNo : W → Bool
  | .d .none => true
  | .v .non => true
  | _ => false
def gIsN (neg : Bool) : Op2 := fun x y S => match y with
  | .d .none => some (.d (.bool (if neg = true then !isNo x else isNo x)), S)
  | _ => none
theorem isNo_ok {K : PySem.W.Frag} {w : Wd} {v : V} {x : W} (r : RW K w v x) : decide (v = .non) = isNo x := by
  cases x with
  | d x =>
    cases x with
    | none => cases (show Dp K w.im v .none from r); rfl
    | bool b => cases (show Dp K w.im v (.bool b) from r); rfl
    | int b => cases (show Dp K w.im v (.int b) from r); rfl
    | str b => cases (show Dp K w.im v (.str b) from r); rfl
    | list b => cases (show Dp K w.im v (.list b) from r); rfl
    | tuple b => cases (show Dp K w.im v (.tuple b) from r); rfl
    | dict b => cases (show Dp K w.im v (.dict b) from r)
  | o n => obtain ⟨a, _, rfl⟩ := r; rfl
  | v n => cases (show v = n from r); cases v <;> rfl
  | t n => obtain ⟨a, _, _, rfl, _⟩ := r; rfl
  | u n => obtain ⟨a, _, _, _, rfl, _⟩ := r; rfl
  | u2 n => obtain ⟨a, _, _, _, _, _, _, _, rfl, _⟩ := r; rfl
theorem does_isN : Does2 Γ X Z (gIsN false) (fun x y H Q => y = .non ∧ Q (.bl (decide (x = .non))) H) := fun w x y vx vy σ Q z S' G rx ry h p => by
  unfold gIsN at h
  split at h
  · cases h
    cases (show Dp X.K w.im vy .none from ry)
    rw [isNo_ok rx]
    exact ⟨rfl, p.use G (Dp.bl _)⟩
  · cases h
theorem does_notN : Does2 Γ X Z (gIsN true) (fun x y H Q => y = .non ∧ Q (.bl (!decide (x = .non))) H) := fun w x y vx vy σ Q z S' G rx ry h p => by
  unfold gIsN at h
  split at h
  · cases h
    cases (show Dp X.K w.im vy .none from ry)
    rw [isNo_ok rx]
    exact ⟨rfl, p.use G (Dp.bl _)⟩
  · cases h
/-! < of data that are alike -/
def gLt (k : PyData → PyData → Bool) : Op2 := fun x y S => match x, y with
  | .d a, .d b => match a with
    | .none => none
    | _ => if (PySem.W.alike a b && decide (a.depth ≤ 60)) = true then some (.d (.bool (k a b)), S) else none
  | _, _ => none
def rLtD (K : PySem.W.Frag) (k : PyData → PyData → Bool) : R2 := fun x y H Q => ∃ a b, Dp K H x a ∧ Dp K H y b ∧ PySem.W.alike a b = true ∧ a ≠ .none ∧ a.depth ≤ 60 ∧ Q (.bl (k a b)) H
theorem op_ltD {op : CmpOp} {k : PyData → PyData → Bool} (hu : Rm X) (rule : ∀ (A : Around) (s : Shared) (a b : Value) (da db : PyData) (as bs : List Addr) (Q E : Value → Shared → Prop), Reads s.heap a da as → Reads s.heap b db bs → PySem.W.alike da db = true → da ≠ .none → A.units + min da.depth db.depth < cLine →
    Q (.bool (k da db)) s → wpAny (model X.prog X.w) A (compareOp op a b) Q E s) : OpR X (compareOp op) (rLtD X.K k) := by
  intro pins s σ H x y v u Q I rx ry h
  obtain ⟨a, b, ha, hb, hal, hn, hd, q⟩ := h
  obtain ⟨as, r1⟩ := Dp.reads I a x v ha rx
  obtain ⟨bs, r2⟩ := Dp.reads I b y u hb ry
  refine rule X.A s v u a b as bs _ _ r1 r2 hal hn (by unfold Rm at hu; omega) ⟨.bl _, H, I, rfl, q⟩
theorem does_lt {k : PyData → PyData → Bool} : Does2 Γ X Z (gLt k) (rLtD X.K k) := fun w x y vx vy σ Q z S' G rx ry h p => by
  unfold gLt at h
  split at h
  · rename_i a b
    split at h
    · cases h
    · rename_i hn
      split at h
      · rename_i hm
        cases h
        rw [Bool.and_eq_true] at hm
        exact ⟨a, b, Dp.mono (im_sub w) rx, Dp.mono (im_sub w) ry, hm.1, hn, of_decide_eq_true hm.2, p.use G (Dp.bl _)⟩
      · cases h
  · cases h
end
end G
set_option Elab.async false
set_option linter.all false
set_option maxRecDepth 100000
set_option maxHeartbeats 4000000
/-! G4: displays, items, slices, calls of built-ins -/
namespace G
open PySem PySem.Spec L2
set_option autoImplicit false
section
variable {Γ : Gm} {X : Cx} {Z : WX} {pos : Pos}
/-! ### displays -/
def fzT (xs : List W) (S : Sto) : Option (PyData × Sto) := match frzL (frz 6) xs S with
  | some (ds, S2) => if szOk ds.length = true then some (.tuple ds, S2) else none
  | none => none
def fTup (f : Fe (List W)) : Fe W := fun ρ S => (f ρ S).bind fun xs S1 => match fzT xs S1 with
  | some (d, S2) => .ok (.d d) S2
  | none => .bad
theorem fzT_ok {K : PySem.W.Frag} {w : Wd} {vs : List V} {xs : List W} {d : PyData} {S' : Sto} (G : Good Γ K w) (r : RWs K w vs xs) (h : fzT xs w.S = some (d, S')) : ∃ ds, d = .tuple ds ∧ szOk ds.length = true ∧ Frz Γ K w S' ∧ DpAll K (Wd.im ⟨w.μ, S', w.H⟩) vs ds := by
  unfold fzT at h
  split at h
  · rename_i ds S2 e
    split at h
    · rename_i hz
      cases h
      obtain ⟨F, q⟩ := frzL_ok (Γ := Γ) (frz_ok 6) xs w vs ds _ G r e
      exact ⟨ds, rfl, hz, F, q⟩
    · cases h
  · cases h
theorem ve_tup {es : List Expr} {f : Fe (List W)} {x1} (h : VA Γ X Z es f) : VE Γ X Z (.Tuple es x1 pos) (fTup f) := by
  refine ⟨PE.mono (pe_tup h.pa) fun σ H Q q => liftR.imp (seq1 (R := RWs X.K) q) fun vs H1 ⟨xs, w, e, G, r, p⟩ => ?_⟩
  subst e
  split at p
  · rename_i d S2 e
    obtain ⟨ds, rfl, hz, F, dd⟩ := fzT_ok G r e
    have p2 : Post Γ X.K (RW X.K) ⟨w.μ, S2, w.H⟩ σ Z (.ok (.d (.tuple ds)) S2) Q := p.mono F.le
    refine ⟨by rw [Paired.len (DpAll.paired dd)]; exact Nat.le_of_lt (sz_line hz), fun pp hp => ?_⟩
    exact Post.tup (w := ⟨w.μ, S2, w.H⟩) p2 F.good dd pp hp
  · exact p.elim
def fLst (f : Fe (List W)) : Fe W := fun ρ S => (f ρ S).bind fun xs S1 => if szOk xs.length = true then .ok (.o S1.length) (S1 ++ [.lst xs]) else .bad
theorem ve_lst {es : List Expr} {f : Fe (List W)} (h : VA Γ X Z es f) : VE Γ X Z (.List es pos) (fLst f) := by
  refine ⟨PE.mono (pe_lst h.pa) fun σ H Q q => liftR.imp (seq1 (R := RWs X.K) q) fun vs H1 ⟨xs, w, e, G, r, p⟩ => ?_⟩
  subst e
  split at p
  · rename_i hz
    exact ⟨by rw [Paired.len r]; exact Nat.le_of_lt (sz_line hz), Post.lst p G r⟩
  · exact p.elim

/-! ### items -/
def gIx : Op2 := fun x y S => match y with
  | .d (.int i) => match seqOf x S with
    | some ws => (L2.atI ws i).map fun z => (z, S)
    | none => none
  | _ => none
theorem does_ix : Does2 Γ X Z gIx (rIx X.K) := fun w x y vx vy σ Q z S' G rx ry h p => by
  unfold gIx at h
  split at h
  · rename_i i
    cases (show Dp X.K w.im vy (.int i) from ry)
    split at h
    · rename_i ws e
      obtain ⟨a, vs, rfl, q, r⟩ := seqOf_ok G rx e
      cases e2 : L2.atI ws i with
      | none => rw [e2] at h; cases h
      | some z' =>
        rw [e2] at h
        cases h
        obtain ⟨v, h1, h2⟩ := Paired.atI r e2
        rcases q with q | q
        · exact .inl ⟨a, vs, i, v, rfl, rfl, q, h1, p.use G h2⟩
        · exact .inr (.inl ⟨a, vs, i, v, rfl, rfl, q, h1, p.use G h2⟩)
    · cases h
  · cases h
theorem ve_ix {a b : Expr} {f h : Fe W} (ha : VE Γ X Z a f) (hb : VE Γ X Z b h) (hs : PlainIx b := by intro _ _; rfl) : VE Γ X Z (.Subscript a b pos) (fOp2 gIx f h) :=
  ⟨PE.mono (pe_ix ix_seq ha.pe hb.pe hs) fun _ _ _ q => op2_lift does_ix q⟩
/-! dicts with keys that are ints or texts -/
def keyOf : W → Option Key
  | .d (.int i) => some (.inl i)
  | .d (.str x) => some (.inr x)
  | _ => none
theorem keyOf_ok {K : PySem.W.Frag} {w : Wd} {v : V} {x : W} {k : Key} (r : RW K w v x) (h : keyOf x = some k) : v = kV k := by
  unfold keyOf at h
  split at h
  · cases h; cases (show Dp K w.im v (.int _) from r); rfl
  · cases h; cases (show Dp K w.im v (.str _) from r); rfl
  · cases h
def dicOf (x : W) (S : Sto) : Option (List (Key × W)) := match x with
  | .o n => match S[n]? with
    | some (.dic kvs) => some kvs
    | _ => none
  | _ => none
theorem dicOf_ok {K : PySem.W.Frag} {w : Wd} {v : V} {x : W} {kvs : List (Key × W)} (G : Good Γ K w) (r : RW K w v x) (h : dicOf x w.S = some kvs) :
    ∃ n a us, x = .o n ∧ v = .ref a ∧ w.μ[n]? = some a ∧ w.S[n]? = some (.dic kvs) ∧ w.H a = some (.dK us) ∧ Paired (fun (p : Key × V) (q : Key × W) => p.1 = q.1 ∧ RW K w p.2 q.2) us kvs := by
  unfold dicOf at h
  split at h
  · rename_i n
    obtain ⟨a, ha, rfl⟩ := r
    split at h
    · rename_i e
      cases h
      obtain ⟨us, q, r⟩ := G.cell n a _ ha e
      exact ⟨n, a, us, rfl, rfl, ha, e, q, r⟩
    · cases h
  · cases h
def lookD {κ : Type} [DecidableEq κ] (kvs : List (κ × W)) (k : κ) : Option W := match kvs with
  | [] => none
  | p :: r => if p.1 = k then some p.2 else lookD r k
def putD {κ : Type} [DecidableEq κ] (kvs : List (κ × W)) (k : κ) (x : W) : List (κ × W) := if (kvs.any fun kv => decide (kv.1 = k)) = true then kvs.map (fun kv => if kv.1 = k then (kv.1, x) else kv) else kvs ++ [(k, x)]
abbrev RKs {κ : Type} (K : PySem.W.Frag) (w : Wd) : List (κ × V) → List (κ × W) → Prop := Paired (fun (p : κ × V) (q : κ × W) => p.1 = q.1 ∧ RW K w p.2 q.2)
theorem lookD_ok {κ : Type} [DecidableEq κ] {K : PySem.W.Frag} {w : Wd} {k : κ} : ∀ {us : List (κ × V)} {kvs : List (κ × W)} {x : W}, RKs K w us kvs → lookD kvs k = some x → ∃ v, valV us k = some v ∧ RW K w v x
  | _, _, _, .nil, h => by cases h
  | (k1, v1) :: us, (k2, x2) :: kvs, x, .cons ⟨e, q⟩ t, h => by
    have e : k1 = k2 := e
    subst e
    unfold lookD at h
    by_cases hk : k1 = k
    · rw [if_pos hk] at h
      cases h
      exact ⟨v1, valV_pos hk, q⟩
    · rw [if_neg hk] at h
      obtain ⟨v, h1, h2⟩ := lookD_ok t h
      exact ⟨v, by rw [valV_neg hk]; exact h1, h2⟩
theorem lookD_none {κ : Type} [DecidableEq κ] {K : PySem.W.Frag} {w : Wd} {k : κ} : ∀ {us : List (κ × V)} {kvs : List (κ × W)}, RKs K w us kvs → lookD kvs k = none → valV us k = none
  | _, _, .nil, h => rfl
  | (k1, v1) :: us, (k2, x2) :: kvs, .cons ⟨e, q⟩ t, h => by
    have e : k1 = k2 := e
    subst e
    unfold lookD at h
    by_cases hk : k1 = k
    · rw [if_pos hk] at h; cases h
    · rw [if_neg hk] at h
      rw [valV_neg hk]; exact lookD_none t h
theorem any_ok {κ : Type} [DecidableEq κ] {K : PySem.W.Frag} {w : Wd} {k : κ} : ∀ {us : List (κ × V)} {kvs : List (κ × W)}, RKs K w us kvs → (us.any fun kv => decide (kv.1 = k)) = (kvs.any fun kv => decide (kv.1 = k))
  | _, _, .nil => rfl
  | _, _, .cons ⟨e, q⟩ t => by simp only [List.any_cons, e, any_ok t]
theorem putD_ok {κ : Type} [DecidableEq κ] {K : PySem.W.Frag} {w : Wd} {k : κ} {us : List (κ × V)} {kvs : List (κ × W)} {v : V} {x : W} (h : RKs K w us kvs) (r : RW K w v x) : RKs K w (putK us k v) (putD kvs k x) := by
  unfold putK putD
  rw [any_ok h]
  split
  · rename_i hc; clear hc; induction h with
    | nil => exact .nil
    | @cons p q us kvs z t ih =>
      refine .cons ?_ ih
      obtain ⟨e, z⟩ := z
      dsimp only
      rw [e]
      by_cases hk : q.1 = k
      · rw [if_pos hk, if_pos hk]; exact ⟨rfl, r⟩
      · rw [if_neg hk, if_neg hk]; exact ⟨e, z⟩
  · exact Paired.app h (.cons ⟨rfl, r⟩ .nil)
theorem putD_len {κ : Type} [DecidableEq κ] (kvs : List (κ × W)) (k : κ) (x : W) : (putD kvs k x).length ≤ kvs.length + 1 := by
  unfold putD; split <;> simp
def gDget : Op2 := fun x y S => match dicOf x S, keyOf y with
  | some kvs, some k => (lookD kvs k).map fun z => (z, S)
  | _, _ => none
theorem ve_dget (hu : Rm X) {a b : Expr} {f h : Fe W} (ha : VE Γ X Z a f) (hb : VE Γ X Z b h) (hs : NoSl b := by intro _ _; rfl) : VE Γ X Z (.Subscript a b pos) (fOp2 gDget f h) := by
  refine ⟨PE.mono (pe_dget (by unfold Rm at hu; omega) ha.pe hb.pe hs) fun σ H Q q => ?_⟩
  refine liftR.imp (seq2 (R := RW X.K) (R1 := RW X.K) (k := fun x y S => ofO (gDget x y S)) (fun _ _ _ _ l r => RW.mono l r) q) fun v H1 h1 => liftR.imp h1 fun u H2 ⟨x, y, w, e, G, rx, ry, p⟩ => ?_
  subst e
  unfold gDget at p
  split at p
  · rename_i kvs k e1 e2
    obtain ⟨n, a, us, rfl, rfl, ha, hn, hH, rr⟩ := dicOf_ok G rx e1
    cases e3 : lookD kvs k with
    | none => rw [e3] at p; exact p.elim
    | some z =>
      rw [e3] at p
      obtain ⟨v', h3, h4⟩ := lookD_ok rr e3
      rw [keyOf_ok ry e2]
      refine ⟨a, v', rfl, ?_, p.use G h4⟩
      rw [← h3]
      exact DGet.k hH
  · exact p.elim

/-! ### slices -/
def fNoP : Fe (Option Int) := fun _ S => .ok none S
def fPart (f : Fe W) : Fe (Option Int) := fun ρ S => (f ρ S).bind fun x S1 => match x with
  | .d (.int i) => .ok (some i) S1
  | _ => .bad
def RO (_ : Wd) (a b : Option Int) : Prop := a = b
structure VO (Γ : Gm) (X : Cx) (Z : WX) (e : Option Expr) (f : Fe (Option Int)) : Prop where
  po : PO X e (liftR Γ X.K Z RO f)
theorem PO.mono {X : Cx} {e : Option Expr} {t t' : TO} (h : PO X e t) (i : ∀ σ H Q, t' σ H Q → t σ H Q) : PO X e t' := ⟨fun pins s σ H Q I q => h.run pins s σ H Q I (i _ _ _ q)⟩
theorem vo_none : VO Γ X Z none fNoP := ⟨PO.mono po_none fun σ H Q ⟨w, ρ, e, G, s, p⟩ => by subst e; exact p.use (R := RO) G rfl⟩
theorem vo_some {e : Expr} {f : Fe W} (h : VE Γ X Z e f) : VO Γ X Z (some e) (fPart f) := by
  refine ⟨PO.mono (po_some h.pe) fun σ H Q q => liftR.imp (seq1 (R := RW X.K) (R2 := RO) q) fun v H1 ⟨x, w, e, G, r, p⟩ => ?_⟩
  subst e
  split at p
  · cases (show Dp X.K w.im v (.int _) from r)
    exact ⟨_, rfl, p.use (R := RO) G rfl⟩
  · exact p.elim
def cutW {α : Type} (xs : List α) (lo hi : Option Int) : List α := (xs.drop (HT.sIx xs.length 0 lo)).take (HT.sIx xs.length xs.length hi - HT.sIx xs.length 0 lo)
theorem Paired.cut {α : Type} {F : V → α → Prop} {l : List V} {m : List α} (h : Paired F l m) (lo hi : Option Int) : Paired F (cutV l lo hi) (cutW m lo hi) := by
  unfold cutV cutW
  rw [Paired.len h]
  exact Paired.take _ (Paired.drop _ h)
def lstOf (x : W) (S : Sto) : Option (List W) := match x with
  | .d (.list ds) => some (ds.map .d)
  | .o n => match S[n]? with
    | some (.lst ws) => some ws
    | some (.fz (.list ds)) => some (ds.map .d)
    | _ => none
  | _ => none
theorem lstOf_ok {K : PySem.W.Frag} {w : Wd} {v : V} {x : W} {ws : List W} (G : Good Γ K w) (r : RW K w v x) (h : lstOf x w.S = some ws) : ∃ a vs, v = .ref a ∧ SqL K w.H a vs ∧ RWs K w vs ws := by
  unfold lstOf at h
  split at h
  · rename_i ds
    cases h
    cases (show Dp K w.im v (.list ds) from r) with
    | lst q r => exact ⟨_, _, rfl, SqL.mono (im_sub w) q, rws_data r⟩
  · rename_i n
    obtain ⟨a, ha, rfl⟩ := r
    split at h
    · rename_i ws' e
      cases h
      obtain ⟨vs, q, r⟩ := G.cell n a _ ha e
      exact ⟨a, vs, rfl, SqL.of q, r⟩
    · rename_i ds e
      cases h
      obtain ⟨vs, ds', e1, q, r⟩ := G.cell n a _ ha e
      cases e1
      exact ⟨a, vs, rfl, SqL.of q, rws_data r⟩
    · cases h
  · cases h
/-- x[lo:hi] of a list or a tuple -/
def gSl (x : W) (lo hi : Option Int) (S : Sto) : Option (W × Sto) := match x with
  | .d (.tuple ds) => some (.d (.tuple (cutW ds lo hi)), S)
  | x => match lstOf x S with
    | some ws => some (.o S.length, S ++ [.lst (cutW ws lo hi)])
    | none => none
def fSl (f : Fe W) (l h : Fe (Option Int)) : Fe W := fun ρ S => (f ρ S).bind fun x S1 => (l ρ S1).bind fun lo S2 => (h ρ S2).bind fun hi S3 => ofO (gSl x lo hi S3)
theorem sl_both : SlR X (fun x lo hi H Q => rSlA X.K x lo hi H Q ∨ rSlL X.K x lo hi H Q) := SlR.or sl_tupA sl_list
theorem cutW_whole {α : Type} (xs : List α) (lo hi : Option Int) (h : HT.sIx xs.length 0 lo = 0 ∧ HT.sIx xs.length xs.length hi = xs.length) : cutW xs lo hi = xs := by
  unfold cutW; rw [h.1, h.2]; simp
theorem gSl_use {w3 : Wd} {x : W} {lo hi : Option Int} {v : V} {σ : L2.St} {Q : VK} (G3 : Good Γ X.K w3) (r : RW X.K w3 v x) (p3 : Post Γ X.K (RW X.K) w3 σ Z (ofO (gSl x lo hi w3.S)) Q) : rSlA X.K v lo hi w3.H Q ∨ rSlL X.K v lo hi w3.H Q := by
  unfold gSl at p3
  split at p3
  · rename_i ds
    cases (show Dp X.K w3.im v (.tuple ds) from r) with
    | tup q1 d1 =>
      have ln := Paired.len (DpAll.paired d1)
      refine .inl ⟨_, _, rfl, SqT.mono (im_sub w3) q1, fun hw => p3.use G3 ?_, fun _ => Post.tup p3 G3 (DpAll.of (Paired.cut (DpAll.paired d1) _ _))⟩
      rw [ln] at hw
      rw [cutW_whole _ _ _ hw]
      exact Dp.tup q1 d1
  · split at p3
    · rename_i ws e
      obtain ⟨a, vs, rfl, q, rr⟩ := lstOf_ok G3 r e
      exact .inr ⟨a, vs, rfl, q, Post.lst p3 G3 (Paired.cut rr _ _)⟩
    · exact p3.elim
theorem ve_slice {e : Expr} {lo hi : Option Expr} {f : Fe W} {l h : Fe (Option Int)} {p2 : Pos} (he : VE Γ X Z e f) (hl : VO Γ X Z lo l) (hh : VO Γ X Z hi h) : VE Γ X Z (.Subscript e (.Slice lo hi none p2) pos) (fSl f l h) := by
  refine ⟨PE.mono (pe_slice sl_both he.pe hl.po hh.po) fun σ H Q q => ?_⟩
  refine (liftR.bind (R := RW X.K) (k := fun x ρ S1 => (l ρ S1).bind fun lo S2 => (h ρ S2).bind fun hi S3 => ofO (gSl x lo hi S3)) q).imp fun v H1 ⟨x, w1, ρ, e1, G1, s1, r1, p1⟩ => ?_
  refine ⟨w1, ρ, e1, G1, s1, (Post.bind (R := RO) p1).imp fun lo' H2 ⟨w2, lo, e2, G2, l2, r2, p2⟩ => ?_⟩
  refine ⟨w2, ρ, e2, G2, s1.mono l2, (Post.bind (R := RO) p2).imp fun hi' H3 ⟨w3, hi, e3, G3, l3, r3, p3⟩ => ?_⟩
  subst e3
  cases (show lo' = lo from r2)
  cases (show hi' = hi from r3)
  exact gSl_use G3 (RW.mono l3 (RW.mono l2 r1)) p3

/-! ### choices, truth as values -/
def fIfE (t : Fe Bool) (f g : Fe W) : Fe W := fun ρ S => (t ρ S).bind fun b S1 => if b = true then f ρ S1 else g ρ S1
theorem ve_if {c a b : Expr} {t : Fe Bool} {f g : Fe W} (hc : VT Γ X Z c t) (ha : VE Γ X Z a f) (hb : VE Γ X Z b g) : VE Γ X Z (.IfExp c a b pos) (fIfE t f g) := by
  refine ⟨PE.mono (pe_ifExp hc.pt ha.pe hb.pe) fun σ H Q q => ?_⟩
  refine (liftR.bind (R := RB) (k := fun b ρ S1 => if b = true then f ρ S1 else g ρ S1) q).imp fun v H1 ⟨x, w1, ρ, e1, G1, s1, r1, p1⟩ => ?_
  cases (show v = x from r1)
  cases v with
  | true => exact ⟨w1, ρ, e1, G1, s1, p1⟩
  | false => exact ⟨w1, ρ, e1, G1, s1, p1⟩
def fAndE (f g : Fe W) : Fe W := fun ρ S => (f ρ S).bind fun x S1 => match x with
  | .d (.bool true) => g ρ S1
  | .d (.bool false) => .ok (.d (.bool false)) S1
  | _ => .bad
def fOrE (f g : Fe W) : Fe W := fun ρ S => (f ρ S).bind fun x S1 => match x with
  | .d (.bool false) => g ρ S1
  | .d (.bool true) => .ok (.d (.bool true)) S1
  | _ => .bad
theorem ve_one {op} {a : Expr} {f : Fe W} (h : VE Γ X Z a f) : VE Γ X Z (.BoolOp op [a] pos) f := ⟨pe_one h.pe⟩
theorem ve_and {a b : Expr} {rest : List Expr} {f g : Fe W} (ha : VE Γ X Z a f) (hb : VE Γ X Z (.BoolOp .And (b :: rest) pos) g) : VE Γ X Z (.BoolOp .And (a :: b :: rest) pos) (fAndE f g) := by
  refine ⟨PE.mono (pe_and ha.pe hb.pe) fun σ H Q q => ?_⟩
  refine (liftR.bind (R := RW X.K) (k := fun x ρ S1 => match x with
    | .d (.bool true) => g ρ S1
    | .d (.bool false) => .ok (.d (.bool false)) S1
    | _ => .bad) q).imp fun v H1 ⟨x, w, ρ, e, G, s, r, p⟩ => ?_
  subst e
  split at p
  · cases (show Dp X.K w.im v (.bool true) from r)
    exact ⟨true, rfl, iteT ⟨w, ρ, rfl, G, s, p⟩⟩
  · cases (show Dp X.K w.im v (.bool false) from r)
    exact ⟨false, rfl, iteF (p.use G (Dp.bl false))⟩
  · exact p.elim
theorem ve_or {a b : Expr} {rest : List Expr} {f g : Fe W} (ha : VE Γ X Z a f) (hb : VE Γ X Z (.BoolOp .Or (b :: rest) pos) g) : VE Γ X Z (.BoolOp .Or (a :: b :: rest) pos) (fOrE f g) := by
  refine ⟨PE.mono (pe_or ha.pe hb.pe) fun σ H Q q => ?_⟩
  refine (liftR.bind (R := RW X.K) (k := fun x ρ S1 => match x with
    | .d (.bool false) => g ρ S1
    | .d (.bool true) => .ok (.d (.bool true)) S1
    | _ => .bad) q).imp fun v H1 ⟨x, w, ρ, e, G, s, r, p⟩ => ?_
  subst e
  split at p
  · cases (show Dp X.K w.im v (.bool false) from r)
    exact ⟨false, rfl, iteF ⟨w, ρ, rfl, G, s, p⟩⟩
  · cases (show Dp X.K w.im v (.bool true) from r)
    exact ⟨true, rfl, iteT (p.use G (Dp.bl true))⟩
  · exact p.elim
def fNotE (f : Fe W) : Fe W := fun ρ S => (f ρ S).bind fun x S1 => match x with
  | .d (.bool b) => .ok (.d (.bool (!b))) S1
  | _ => .bad
theorem ve_not {a : Expr} {f : Fe W} (ha : VE Γ X Z a f) : VE Γ X Z (.UnaryOp .Not a pos) (fNotE f) := by
  refine ⟨PE.mono (pe_not ha.pe) fun σ H Q q => liftR.imp (seq1 (R := RW X.K) q) fun v H1 ⟨x, w, e, G, r, p⟩ => ?_⟩
  subst e
  split at p
  · rename_i b
    cases (show Dp X.K w.im v (.bool b) from r)
    exact ⟨b, rfl, p.use G (Dp.bl _)⟩
  · exact p.elim
def fNeg (f : Fe W) : Fe W := fun ρ S => (f ρ S).bind fun x S1 => match x with
  | .d (.int i) => .ok (.d (.int (-i))) S1
  | _ => .bad
theorem ve_neg {a : Expr} {f : Fe W} (ha : VE Γ X Z a f) : VE Γ X Z (.UnaryOp .USub a pos) (fNeg f) := by
  refine ⟨PE.mono (pe_un un_neg ha.pe) fun σ H Q q => liftR.imp (seq1 (R := RW X.K) q) fun v H1 ⟨x, w, e, G, r, p⟩ => ?_⟩
  subst e
  split at p
  · rename_i b
    cases (show Dp X.K w.im v (.int b) from r)
    exact ⟨b, rfl, p.use G (Dp.int _)⟩
  · exact p.elim

/-! ### calls of built-ins -/
abbrev OpN := List W → Sto → Option (W × Sto)
def fCB (g : OpN) (f : Fe (List W)) : Fe W := fun ρ S => (f ρ S).bind fun xs S1 => ofO (g xs S1)
def DoesN (Γ : Gm) (X : Cx) (Z : WX) (g : OpN) (r : List V → Hp → VK → Prop) : Prop := ∀ (w : Wd) (xs : List W) (vs : List V) (σ : L2.St) (Q : VK) (z : W) (S' : Sto), Good Γ X.K w → RWs X.K w vs xs → g xs w.S = some (z, S') → Post Γ X.K (RW X.K) w σ Z (.ok z S') Q → r vs w.H Q
theorem cb_lift {g : OpN} {r : List V → Hp → VK → Prop} (hd : DoesN Γ X Z g r) {f : Fe (List W)} {σ : L2.St} {H : Hp} {Q : VK} (q : liftR Γ X.K Z (RW X.K) (fCB g f) σ H Q) : tCB r (liftR Γ X.K Z (RWs X.K) f) σ H Q := by
  refine liftR.imp (seq1 (R := RWs X.K) q) fun vs H1 ⟨xs, w, e, G, rx, p⟩ => ?_
  subst e
  cases e : g xs w.S with
  | none => rw [e] at p; exact p.elim
  | some q =>
    obtain ⟨z, S'⟩ := q
    rw [e] at p
    exact hd w xs vs σ Q z S' G rx e p
theorem ve_callB {x id : String} {r : List V → Hp → VK → Prop} {g : OpN} {e : Expr} {es : List Expr} {f : Fe (List W)} {p : Pos} (hc : CallR X (.builtin id) r) (hd : DoesN Γ X Z g r) (hg : Gl X (Str.ofString x)) (hm : X.mg (Str.ofString x) = none) (hv : bootBuiltins (Str.ofString x) = some (.builtin id)) (ha : VA Γ X Z (e :: es) f)
    (hn : Str.ofString x ≠ "__name__" := by decide) (hdb : (Str.ofString x == ("__debug__" : Str)) = false := by decide) (he : starEach (e :: es) X.env = (false, eval e X.env) :: starEach es X.env := by rfl) (hpl : (backTo pos (starEach es X.env)).any (·.1) = false := by rfl) :
    VE Γ X Z (.Call (.Name (Str.ofString x) p) (e :: es) [] pos) (fCB g f) := ⟨PE.mono (pe_callB hc hg hm hv ha.pa hn hdb he hpl) fun _ _ _ q => cb_lift hd q⟩
theorem ve_callTy {x T : String} {r : List V → Hp → VK → Prop} {g : OpN} {e : Expr} {es : List Expr} {f : Fe (List W)} {p : Pos} (hc : CallR X (.type T) r) (hd : DoesN Γ X Z g r) (hg : Gl X (Str.ofString x)) (hm : X.mg (Str.ofString x) = none) (hv : bootBuiltins (Str.ofString x) = some (.type T)) (ha : VA Γ X Z (e :: es) f)
    (hn : Str.ofString x ≠ "__name__" := by decide) (hdb : (Str.ofString x == ("__debug__" : Str)) = false := by decide) (he : starEach (e :: es) X.env = (false, eval e X.env) :: starEach es X.env := by rfl) (hpl : (backTo pos (starEach es X.env)).any (·.1) = false := by rfl) :
    VE Γ X Z (.Call (.Name (Str.ofString x) p) (e :: es) [] pos) (fCB g f) := ⟨PE.mono (pe_callTy hc hg hm hv ha.pa hn hdb he hpl) fun _ _ _ q => cb_lift hd q⟩
/-- a built-in class as a value -/
theorem ve_ty {x : String} {n : String} (hg : Gl X (Str.ofString x)) (hm : X.mg (Str.ofString x) = none) (hv : bootBuiltins (Str.ofString x) = some (.type n)) (hn : Str.ofString x ≠ "__name__" := by decide) (hdb : (Str.ofString x == ("__debug__" : Str)) = false := by decide) :
    VE Γ X Z (.Name (Str.ofString x) pos) (fC (.v (.ty n))) := ⟨PE.mono (pe_bltn hg hm hv (v := .ty n) rfl hn hdb) fun σ H Q ⟨w, ρ, e, G, s, p⟩ => by subst e; exact p.use G (show V.ty n = V.ty n from rfl)⟩
theorem rws_one {K : PySem.W.Frag} {w : Wd} {vs : List V} {x : W} (r : RWs K w vs [x]) : ∃ v, vs = [v] ∧ RW K w v x := by
  cases r with | cons q t => cases t; exact ⟨_, rfl, q⟩
theorem rws_two {K : PySem.W.Frag} {w : Wd} {vs : List V} {x y : W} (r : RWs K w vs [x, y]) : ∃ v u, vs = [v, u] ∧ RW K w v x ∧ RW K w u y := by
  cases r with | cons q t => cases t with | cons q2 t => cases t; exact ⟨_, _, rfl, q, q2⟩
/-! len -/
def gLen : OpN := fun xs S => match xs with
  | [x] => match seqOf x S with
    | some ws => some (.d (.int ws.length), S)
    | none => none
  | _ => none
theorem does_len : DoesN Γ X Z gLen (fun xs H Q => ∃ p ys, xs = [.ref p] ∧ (SqL X.K H p ys ∨ SqT X.K H p ys) ∧ Q (.int ys.length) H) := fun w xs vs σ Q z S' G r h p => by
  unfold gLen at h
  split at h
  · rename_i x
    obtain ⟨v, rfl, rx⟩ := rws_one r
    split at h
    · rename_i ws e
      cases h
      obtain ⟨a, us, rfl, q, rr⟩ := seqOf_ok G rx e
      refine ⟨a, us, rfl, q, ?_⟩
      rw [Paired.len rr]
      exact p.use G (Dp.int _)
    · cases h
  · cases h
/-! sum, all, abs, min, max, int -/
def intsOf : List W → Option (List Int)
  | [] => some []
  | .d (.int i) :: r => match intsOf r with
    | some l => some (i :: l)
    | none => none
  | _ :: _ => none
theorem intsOf_eq : ∀ {ws : List W} {ns : List Int}, intsOf ws = some ns → ws = ns.map fun i => W.d (.int i)
  | [], _, h => by cases h; rfl
  | .d (.int i) :: r, ns, h => by
    unfold intsOf at h
    split at h
    · rename_i l e
      cases h
      rw [intsOf_eq e]; rfl
    · cases h
  | .d .none :: _, _, h => by cases h
  | .d (.bool _) :: _, _, h => by cases h
  | .d (.str _) :: _, _, h => by cases h
  | .d (.list _) :: _, _, h => by cases h
  | .d (.tuple _) :: _, _, h => by cases h
  | .d (.dict _) :: _, _, h => by cases h
  | .o _ :: _, _, h => by cases h
  | .v _ :: _, _, h => by cases h
@[simp] theorem intsOf_map (ns : List Int) : intsOf (ns.map fun i => W.d (.int i)) = some ns := by
  induction ns with
  | nil => rfl
  | cons n ns ih => simp [intsOf, ih]
def blsOf : List W → Option (List Bool)
  | [] => some []
  | .d (.bool i) :: r => match blsOf r with
    | some l => some (i :: l)
    | none => none
  | _ :: _ => none
theorem blsOf_eq {K : PySem.W.Frag} {w : Wd} : ∀ {ws : List W} {bs : List Bool} {vs : List V}, RWs K w vs ws → blsOf ws = some bs → vs = bs.map V.bl
  | [], _, _, r, h => by cases h; cases r; rfl
  | .d (.bool i) :: r, ns, vs, rr, h => by
    unfold blsOf at h
    split at h
    · rename_i l e
      cases h
      cases rr with
      | cons q t =>
        cases (show Dp K w.im _ (.bool i) from q)
        rw [blsOf_eq t e]; rfl
    · cases h
  | .d .none :: _, _, _, _, h => by cases h
  | .d (.int _) :: _, _, _, _, h => by cases h
  | .d (.str _) :: _, _, _, _, h => by cases h
  | .d (.list _) :: _, _, _, _, h => by cases h
  | .d (.tuple _) :: _, _, _, _, h => by cases h
  | .d (.dict _) :: _, _, _, _, h => by cases h
  | .o _ :: _, _, _, _, h => by cases h
  | .v _ :: _, _, _, _, h => by cases h
def gAll (f : List Bool → Bool) : OpN := fun xs S => match xs with
  | [x] => match lstOf x S with
    | some ws => match blsOf ws with
      | some bs => some (.d (.bool (f bs)), S)
      | none => none
    | none => none
  | _ => none
theorem does_all {f : List Bool → Bool} : DoesN Γ X Z (gAll f) (fun vs H Q => ∃ (a : Addr) (bs : List Bool), vs = [V.ref a] ∧ SqL X.K H a (bs.map V.bl) ∧ Q (.bl (f bs)) H) := fun w xs vs σ Q z S' G r h p => by
  unfold gAll at h
  split at h
  · rename_i x
    obtain ⟨v, rfl, rx⟩ := rws_one r
    split at h
    · rename_i ws e
      split at h
      · rename_i bs e2
        cases h
        obtain ⟨a, us, rfl, q, rr⟩ := lstOf_ok G rx e
        have := blsOf_eq rr e2
        subst this
        exact ⟨a, bs, rfl, q, p.use G (Dp.bl _)⟩
      · cases h
    · cases h
  · cases h
def gAbs : OpN := fun xs S => match xs with
  | [.d (.int i)] => some (.d (.int (if i < 0 then -i else i)), S)
  | _ => none
theorem does_abs : DoesN Γ X Z gAbs (fun xs H Q => ∃ i, xs = [.int i] ∧ Q (.int (if i < 0 then -i else i)) H) := fun w xs vs σ Q z S' G r h p => by
  unfold gAbs at h
  split at h
  · rename_i i
    cases h
    obtain ⟨v, rfl, rx⟩ := rws_one r
    cases (show Dp X.K w.im v (.int i) from rx)
    exact ⟨i, rfl, p.use G (Dp.int _)⟩
  · cases h
def gInt1 : OpN := fun xs S => match xs with
  | [.d (.int i)] => some (.d (.int i), S)
  | [.d (.bool b)] => some (.d (.int (if b = true then 1 else 0)), S)
  | _ => none
theorem does_int1 : DoesN Γ X Z gInt1 (fun xs H Q => (∃ i, xs = [.int i] ∧ Q (.int i) H) ∨ ∃ k, xs = [.bl k] ∧ Q (.int (if k then 1 else 0)) H) := fun w xs vs σ Q z S' G r h p => by
  unfold gInt1 at h
  split at h
  · rename_i i
    cases h
    obtain ⟨v, rfl, rx⟩ := rws_one r
    cases (show Dp X.K w.im v (.int i) from rx)
    exact .inl ⟨i, rfl, p.use G (Dp.int _)⟩
  · rename_i i
    cases h
    obtain ⟨v, rfl, rx⟩ := rws_one r
    cases (show Dp X.K w.im v (.bool i) from rx)
    exact .inr ⟨i, rfl, p.use G (Dp.int _)⟩
  · cases h
def gI2 (f : Int → Int → Int) : OpN := fun xs S => match xs with
  | [.d (.int i), .d (.int j)] => some (.d (.int (f i j)), S)
  | _ => none
theorem does_i2 {f : Int → Int → Int} : DoesN Γ X Z (gI2 f) (fun xs H Q => ∃ i j, xs = [.int i, .int j] ∧ Q (.int (f i j)) H) := fun w xs vs σ Q z S' G r h p => by
  unfold gI2 at h
  split at h
  · rename_i i j
    cases h
    obtain ⟨v, u, rfl, rx, ry⟩ := rws_two r
    cases (show Dp X.K w.im v (.int i) from rx)
    cases (show Dp X.K w.im u (.int j) from ry)
    exact ⟨i, j, rfl, p.use G (Dp.int _)⟩
  · cases h
/-! tuple(x), list(x) -/
def gList : OpN := fun xs S => match xs with
  | [x] => match seqOf x S with
    | some ws => some (.o S.length, S ++ [.lst ws])
    | none => none
  | _ => none
theorem does_list : DoesN Γ X Z gList (fun xs H Q => ∃ p ys, xs = [.ref p] ∧ (SqL X.K H p ys ∨ SqT X.K H p ys) ∧ ∀ l, H l = none → Q (.ref l) (upd H l (.lst ys))) := fun w xs vs σ Q z S' G r h p => by
  unfold gList at h
  split at h
  · rename_i x
    obtain ⟨v, rfl, rx⟩ := rws_one r
    split at h
    · rename_i ws e
      cases h
      obtain ⟨a, us, rfl, q, rr⟩ := seqOf_ok G rx e
      exact ⟨a, us, rfl, q, Post.lst p G rr⟩
    · cases h
  · cases h
def gTuple : OpN := fun xs S => match xs with
  | [.d (.tuple ds)] => some (.d (.tuple ds), S)
  | [x] => match lstOf x S with
    | some ws => match frzL (frz 6) ws S with
      | some (ds, S2) => some (.d (.tuple ds), S2)
      | none => none
    | none => none
  | _ => none
theorem does_tuple : DoesN Γ X Z gTuple (fun xs H Q => ∃ p ys, xs = [.ref p] ∧ ((SqL X.K H p ys ∧ ∀ l, H l = none → Q (.ref l) (upd H l (.tup ys))) ∨ (SqT X.K H p ys ∧ Q (.ref p) H))) := fun w xs vs σ Q z S' G r h p => by
  unfold gTuple at h
  split at h
  · rename_i ds
    cases h
    obtain ⟨v, rfl, rx⟩ := rws_one r
    cases (show Dp X.K w.im v (.tuple ds) from rx) with
    | tup q d => exact ⟨_, _, rfl, .inr ⟨SqT.mono (im_sub w) q, p.use G (Dp.tup q d)⟩⟩
  · rename_i x _
    obtain ⟨v, rfl, rx⟩ := rws_one r
    split at h
    · rename_i ws e
      split at h
      · rename_i ds S2 e2
        cases h
        obtain ⟨a, us, rfl, q, rr⟩ := lstOf_ok G rx e
        obtain ⟨F, dd⟩ := frzL_ok (Γ := Γ) (frz_ok 6) ws w us ds _ G rr e2
        refine ⟨a, us, rfl, .inl ⟨q, ?_⟩⟩
        have p2 : Post Γ X.K (RW X.K) ⟨w.μ, S', w.H⟩ σ Z (.ok (.d (.tuple ds)) S') Q := p.mono F.le
        exact Post.tup (w := ⟨w.μ, S', w.H⟩) p2 F.good dd
      · cases h
    · cases h
  · cases h
end
end G
set_option Elab.async false
set_option linter.all false
set_option maxRecDepth 100000
set_option maxHeartbeats 4000000
set_option autoImplicit false
/-! G5: further built-ins, over the heap -/
namespace PySem.AutoSeq1
open PySem
theorem g_extend_tup (l : Addr) (items : Array Value) (n : Nat) (b : Addr) (items2 : Array Value) (n2 : Nat) (dd : Option Addr) (sl : Array (Option Value)) (hs0 : ¬(!items.isEmpty && Builtin.List.listTooLong (items.size + items2.size)) = true) (hs1 : items.size ≤ sizeLine) (hs2 : items.size + items2.size ≤ sizeLine + 1) :
    Meets (Builtin.«list.extend» ⟨[.ref l, .ref b], []⟩) (fun _ R s => s.heap.get? l = some { cls := .type "list", dict := none, data := .seq items n, slots := #[] } ∧ s.heap.get? b = some { cls := .type "tuple", dict := dd, data := .seq items2 n2, slots := sl } ∧ R (.ok (.ret Value.none)) { s with heap := s.heap.update l (Obj.mapSeq fun x => x ++ items2), toks := s.toks }) :=
  .of_wp fun prog w A R s h => by
    obtain ⟨hp, g, d, tk, os⟩ := s; obtain ⟨hl, hb, h⟩ := h; have f1 := idx_int; have f2 := sub_tuple_tuple; have f3 := sub_list_list; have f4 := sub_tuple_list; have f5 := sub_list_tuple;
    have hz' : (items ++ items2).size ≤ sizeLine + 1 := by rw [Array.size_append]; exact hs2
    wp_walk using (wpAny_updateSeq hl rfl (hz := hs1) (_hz' := hz')), wpAny_loadPart' hl, wpAny_loadPart' hb; exact ⟨_, rfl, h⟩
end PySem.AutoSeq1
namespace PySem
open PySem.W
section
variable {prog : Program} {w : World} {A : Around} {E : Value → Shared → Prop} {s : Shared}
theorem g_sum_tup {l : Addr} {xs : Array (Int × Tok)} {Q : Value → Shared → Prop} (hh : A.handled = none) (hl : s.heap.IsTuple l (intItems xs))
    (h : ∀ h' tk t', (∀ b o, s.heap.get? b = some o → h'.get? b = some o) → Q (.int (preSum (numAt xs) xs.size) t') { s with heap := h', toks := tk }) :
    wpAny (model prog w) A (call (.builtin "sum") [.ref l]) Q E s := by
  have hlt : l < s.heap.objs.size := by obtain ⟨_, e, _⟩ := hl; exact Heap.lt_size e
  refine call_sum_walkG (wpAny_pyIter_tuple hl ?_)
  refine ⟨_, [_, l], [_], _, _, _, numAt xs, rfl, Walks.tuple (A := A.in1) hh _ l (Nat.ne_of_lt hlt) (intItems xs), ⟨⟨_, Heap.get?_push_size _ rfl, rfl, rfl⟩, hl.push _⟩, fun b hb => ?_, (fun _ _ => intItems_at), fun h' tk t' hk => ?_⟩
  · show b < (s.heap.push _).objs.size
    rw [Heap.size_push]
    rcases List.mem_cons.mp hb with rfl | hb
    · exact Nat.lt_succ_self _
    · rcases List.mem_cons.mp hb with rfl | hb
      · exact Nat.lt_succ_of_lt hlt
      · cases hb
  · have := h h' tk t' (fun b o e => hk b o (fun hm => by
      have := Heap.lt_size e
      rw [List.mem_singleton.mp hm] at this
      exact Nat.lt_irrefl _ this) (Heap.get?_push_of_some _ e))
    simpa [intItems] using this
theorem g_args_min2 (a b : Value) : argsOk "min" ⟨[a, b], []⟩ := by unfold argsOk; kernel_rfl
theorem g_args_max2 (a b : Value) : argsOk "max" ⟨[a, b], []⟩ := by unfold argsOk; kernel_rfl
theorem g_args_min3 (a b c : Value) : argsOk "min" ⟨[a, b, c], []⟩ := by unfold argsOk; kernel_rfl

theorem g_getD_at {α : Type} {l : List α} {d y : α} {k : Nat} (h : k < l.length) (e : l.getD k d = y) : l[k]? = some y := by
  rw [List.getD_eq_getElem?_getD, List.getElem?_eq_getElem h] at e
  rw [List.getElem?_eq_getElem h]
  exact congrArg some e

theorem g_min2 {a b : Value} {x : PyData} {xs : List PyData} {as : List Addr} {Q : Value → Shared → Prop} (hh : A.handled = none) (hr : ReadsAll s.heap [a, b] (x :: xs) as) (ha : AlikeAll (x :: xs)) (hu : A.units + 1 + PyData.depthAll (x :: xs) < cLine)
    (h : ∀ (i : Nat) v h' tk, [a, b][i]? = some v → (x :: xs)[i]? = some (minD x xs) → (∀ b o, s.heap.get? b = some o → h'.get? b = some o) → Q v { s with heap := h', toks := tk }) :
    wpAny (model prog w) A (call (.builtin "min") [a, b]) Q E s := by
  have hname : (toString "min" ++ toString ".loop" : String) = "min.loop" := by decide
  have hn : [a, b].length = xs.length + 1 := by simpa using readsAll_len (vs := #[a, b]) hr
  refine call_function_tree F.kind_min F.plain_min F.entry_min (g_args_min2 _ _) ?_
  show wpAny _ A.in1 (Builtin.Builtins.bindParams "min" ["key", "default"] 0 ⟨[], []⟩ >>= _) _ _ s
  refine wpAny_bind (wpAny_of_eq (show Builtin.Builtins.bindParams "min" ["key", "default"] 0 ⟨[], []⟩ = pure [none, none] from rfl) ?_)
  show wpAny _ A.in1 (newTuple [a, b] >>= _) _ _ s
  refine wpAny_bind (wpAny_newObj_type ?_)
  have hT : (s.heap.push { cls := .type "tuple", data := .seq #[a, b] }).IsTuple s.heap.objs.size #[a, b] := ⟨_, Heap.get?_push_size _ rfl, rfl, 0, rfl⟩
  have hr1 : ReadsAll (s.heap.push { cls := .type "tuple", data := .seq #[a, b] }) (#[a, b] : Array Value).toList (x :: xs) as := PyProof.Rows.ReadsAll.keeps (fun b o e => Heap.get?_push_of_some _ e) hr
  refine wpAny_bind (iter_tupleW (A := A.in1) (s := { s with heap := s.heap.push { cls := .type "tuple", data := .seq #[a, b] } }) hh hT fun s₂ e W hst hfp hw hkeep => ?_)
  refine wpAny_bind (wpAny_newObj_type ?_)
  have hSf : s₂.heap.objs.size ∉ _ := fun hm => Nat.lt_irrefl _ (hfp _ hm)
  rw [hname]
  refine wpAny_pure ⟨plainId_quiet F.plain_min_loop _, codeAny_min_loop_firstH W _ hw _ (cmpIn_lt (s := { s with heap := s.heap.push { cls := .type "tuple", data := .seq #[a, b] } }) (A := A.in1) hr1 ha (by show A.units + 1 + _ < _; exact hu)) s₂.heap.objs.size hSf (fresh_in hkeep) _ (by show 0 < 2; decide) (fun b o e => Heap.get?_push_of_some _ (hkeep b o e)) (W.frame 0 s₂ _ s₂.toks hst (Nat.le_refl _) fun b _ o e => Heap.get?_push_of_some _ e) (Heap.get?_push_size _ rfl) fun v s' hP hm => ?_⟩
  have m := Moved.drop_new (tk := s₂.toks) hm (Nat.le_refl _)
  obtain ⟨h', tk, rfl, hk'⟩ := moved_old e rfl m
  have e2 := argBest_fold PySem.W.dataLt PyData.none x xs xs.length (Nat.le_refl _)
  rw [List.take_length] at e2
  have e1 : (#[a, b] : Array Value).size - 1 = xs.length := by
    have : (#[a, b] : Array Value).size = [a, b].length := rfl
    omega
  rw [e1] at hP
  refine h _ v h' tk (by simpa using hP) ?_ fun b o eb => hk' b o (Heap.get?_push_of_some _ eb)
  have hlt : argBest (fun i j => PySem.W.dataLt ((x :: xs).getD i PyData.none) ((x :: xs).getD j PyData.none)) xs.length < (x :: xs).length := by
    have := e2.1
    simp only [List.length_cons]; omega
  exact g_getD_at hlt e2.2

theorem g_min3 {a b c : Value} {x : PyData} {xs : List PyData} {as : List Addr} {Q : Value → Shared → Prop} (hh : A.handled = none) (hr : ReadsAll s.heap [a, b, c] (x :: xs) as) (ha : AlikeAll (x :: xs)) (hu : A.units + 1 + PyData.depthAll (x :: xs) < cLine)
    (h : ∀ (i : Nat) v h' tk, [a, b, c][i]? = some v → (x :: xs)[i]? = some (minD x xs) → (∀ b o, s.heap.get? b = some o → h'.get? b = some o) → Q v { s with heap := h', toks := tk }) :
    wpAny (model prog w) A (call (.builtin "min") [a, b, c]) Q E s := by
  have hname : (toString "min" ++ toString ".loop" : String) = "min.loop" := by decide
  have hn : [a, b, c].length = xs.length + 1 := by simpa using readsAll_len (vs := #[a, b, c]) hr
  refine call_function_tree F.kind_min F.plain_min F.entry_min (g_args_min3 _ _ _) ?_
  show wpAny _ A.in1 (Builtin.Builtins.bindParams "min" ["key", "default"] 0 ⟨[], []⟩ >>= _) _ _ s
  refine wpAny_bind (wpAny_of_eq (show Builtin.Builtins.bindParams "min" ["key", "default"] 0 ⟨[], []⟩ = pure [none, none] from rfl) ?_)
  show wpAny _ A.in1 (newTuple [a, b, c] >>= _) _ _ s
  refine wpAny_bind (wpAny_newObj_type ?_)
  have hT : (s.heap.push { cls := .type "tuple", data := .seq #[a, b, c] }).IsTuple s.heap.objs.size #[a, b, c] := ⟨_, Heap.get?_push_size _ rfl, rfl, 0, rfl⟩
  have hr1 : ReadsAll (s.heap.push { cls := .type "tuple", data := .seq #[a, b, c] }) (#[a, b, c] : Array Value).toList (x :: xs) as := PyProof.Rows.ReadsAll.keeps (fun b o e => Heap.get?_push_of_some _ e) hr
  refine wpAny_bind (iter_tupleW (A := A.in1) (s := { s with heap := s.heap.push { cls := .type "tuple", data := .seq #[a, b, c] } }) hh hT fun s₂ e W hst hfp hw hkeep => ?_)
  refine wpAny_bind (wpAny_newObj_type ?_)
  have hSf : s₂.heap.objs.size ∉ _ := fun hm => Nat.lt_irrefl _ (hfp _ hm)
  rw [hname]
  refine wpAny_pure ⟨plainId_quiet F.plain_min_loop _, codeAny_min_loop_firstH W _ hw _ (cmpIn_lt (s := { s with heap := s.heap.push { cls := .type "tuple", data := .seq #[a, b, c] } }) (A := A.in1) hr1 ha (by show A.units + 1 + _ < _; exact hu)) s₂.heap.objs.size hSf (fresh_in hkeep) _ (by show 0 < 3; decide) (fun b o e => Heap.get?_push_of_some _ (hkeep b o e)) (W.frame 0 s₂ _ s₂.toks hst (Nat.le_refl _) fun b _ o e => Heap.get?_push_of_some _ e) (Heap.get?_push_size _ rfl) fun v s' hP hm => ?_⟩
  have m := Moved.drop_new (tk := s₂.toks) hm (Nat.le_refl _)
  obtain ⟨h', tk, rfl, hk'⟩ := moved_old e rfl m
  have e2 := argBest_fold PySem.W.dataLt PyData.none x xs xs.length (Nat.le_refl _)
  rw [List.take_length] at e2
  have e1 : (#[a, b, c] : Array Value).size - 1 = xs.length := by
    have : (#[a, b, c] : Array Value).size = [a, b, c].length := rfl
    omega
  rw [e1] at hP
  refine h _ v h' tk (by simpa using hP) ?_ fun b o eb => hk' b o (Heap.get?_push_of_some _ eb)
  have hlt : argBest (fun i j => PySem.W.dataLt ((x :: xs).getD i PyData.none) ((x :: xs).getD j PyData.none)) xs.length < (x :: xs).length := by
    have := e2.1
    simp only [List.length_cons]; omega
  exact g_getD_at hlt e2.2

theorem g_max2 {a b : Value} {x : PyData} {xs : List PyData} {as : List Addr} {Q : Value → Shared → Prop} (hh : A.handled = none) (hr : ReadsAll s.heap [a, b] (x :: xs) as) (ha : AlikeAll (x :: xs)) (hu : A.units + 1 + PyData.depthAll (x :: xs) < cLine)
    (h : ∀ (i : Nat) v h' tk, [a, b][i]? = some v → (x :: xs)[i]? = some (maxD x xs) → (∀ b o, s.heap.get? b = some o → h'.get? b = some o) → Q v { s with heap := h', toks := tk }) :
    wpAny (model prog w) A (call (.builtin "max") [a, b]) Q E s := by
  have hname : (toString "max" ++ toString ".loop" : String) = "max.loop" := by decide
  have hn : [a, b].length = xs.length + 1 := by simpa using readsAll_len (vs := #[a, b]) hr
  refine call_function_tree F.kind_max F.plain_max F.entry_max (g_args_max2 _ _) ?_
  show wpAny _ A.in1 (Builtin.Builtins.bindParams "max" ["key", "default"] 0 ⟨[], []⟩ >>= _) _ _ s
  refine wpAny_bind (wpAny_of_eq (show Builtin.Builtins.bindParams "max" ["key", "default"] 0 ⟨[], []⟩ = pure [none, none] from rfl) ?_)
  show wpAny _ A.in1 (newTuple [a, b] >>= _) _ _ s
  refine wpAny_bind (wpAny_newObj_type ?_)
  have hT : (s.heap.push { cls := .type "tuple", data := .seq #[a, b] }).IsTuple s.heap.objs.size #[a, b] := ⟨_, Heap.get?_push_size _ rfl, rfl, 0, rfl⟩
  have hr1 : ReadsAll (s.heap.push { cls := .type "tuple", data := .seq #[a, b] }) (#[a, b] : Array Value).toList (x :: xs) as := PyProof.Rows.ReadsAll.keeps (fun b o e => Heap.get?_push_of_some _ e) hr
  refine wpAny_bind (iter_tupleW (A := A.in1) (s := { s with heap := s.heap.push { cls := .type "tuple", data := .seq #[a, b] } }) hh hT fun s₂ e W hst hfp hw hkeep => ?_)
  refine wpAny_bind (wpAny_newObj_type ?_)
  have hSf : s₂.heap.objs.size ∉ _ := fun hm => Nat.lt_irrefl _ (hfp _ hm)
  rw [hname]
  refine wpAny_pure ⟨plainId_quiet F.plain_max_loop _, codeAny_max_loop_firstH W _ hw _ (cmpIn_gt (s := { s with heap := s.heap.push { cls := .type "tuple", data := .seq #[a, b] } }) (A := A.in1) hr1 ha (by show A.units + 1 + _ < _; exact hu)) s₂.heap.objs.size hSf (fresh_in hkeep) _ (by show 0 < 2; decide) (fun b o e => Heap.get?_push_of_some _ (hkeep b o e)) (W.frame 0 s₂ _ s₂.toks hst (Nat.le_refl _) fun b _ o e => Heap.get?_push_of_some _ e) (Heap.get?_push_size _ rfl) fun v s' hP hm => ?_⟩
  have m := Moved.drop_new (tk := s₂.toks) hm (Nat.le_refl _)
  obtain ⟨h', tk, rfl, hk'⟩ := moved_old e rfl m
  have e2 := argBest_fold (fun p q => PySem.W.dataLt q p) PyData.none x xs xs.length (Nat.le_refl _)
  rw [List.take_length] at e2
  have e1 : (#[a, b] : Array Value).size - 1 = xs.length := by
    have : (#[a, b] : Array Value).size = [a, b].length := rfl
    omega
  rw [e1] at hP
  refine h _ v h' tk (by simpa using hP) ?_ fun b o eb => hk' b o (Heap.get?_push_of_some _ eb)
  have hlt : argBest (fun i j => (fun p q => PySem.W.dataLt q p) ((x :: xs).getD i PyData.none) ((x :: xs).getD j PyData.none)) xs.length < (x :: xs).length := by
    have := e2.1
    simp only [List.length_cons]; omega
  exact g_getD_at hlt e2.2

end
end PySem
set_option Elab.async false
set_option linter.all false
set_option maxRecDepth 100000
set_option maxHeartbeats 4000000
/-! G6: calls: further built-ins, methods of lists, own defs -/
namespace G
open PySem PySem.Spec L2
set_option autoImplicit false
section
variable {Γ : Gm} {X : Cx} {Z : WX} {pos : Pos}
/-! ### sum -/
theorem call_sumA (hc : X.calm = true) : CallR X (.builtin "sum") (fun vs H Q => ∃ (a : Addr) (ns : List Int), vs = [V.ref a] ∧ (SqL X.K H a (ns.map V.int) ∨ SqT X.K H a (ns.map V.int)) ∧ Q (.int ns.sum) H) := by
  intro pins s σ H vs us Q I r h
  obtain ⟨a, ns, rfl, q, k⟩ := h
  rcases q with q | q
  · exact cr_sum hc pins s σ H _ us Q I r ⟨a, ns, rfl, q, k⟩
  · obtain ⟨its, rv, hl, _⟩ := I.tuple q
    rw [Vals.ref1 r]
    obtain ⟨xs, e⟩ := (rv.ints).allInts.items
    have hi := rv.ints
    have hn : numsOf (intItems xs).toList = ns := by rw [← e]; exact hi.numsOf
    rw [nums_intItems] at hn
    rw [e] at hl
    refine PySem.g_sum_tup (I.ok.hd hc) hl fun h' tk t' hk => ⟨.int ns.sum, H, I.kept hk, ?_, k⟩
    rw [preSum_eq, List.take_of_length_le (by simp), hn]
    exact ⟨t', rfl⟩
def gSum : OpN := fun xs S => match xs with
  | [x] => match seqOf x S with
    | some ws => match intsOf ws with
      | some ns => some (.d (.int ns.sum), S)
      | none => none
    | none => none
  | _ => none
theorem does_sum : DoesN Γ X Z gSum (fun vs H Q => ∃ (a : Addr) (ns : List Int), vs = [V.ref a] ∧ (SqL X.K H a (ns.map V.int) ∨ SqT X.K H a (ns.map V.int)) ∧ Q (.int ns.sum) H) := fun w xs vs σ Q z S' G r h p => by
  unfold gSum at h
  split at h
  · obtain ⟨v, rfl, rx⟩ := rws_one r
    split at h
    · rename_i ws e
      split at h
      · rename_i ns e2
        cases h
        obtain ⟨a, us, rfl, q, rr⟩ := seqOf_ok G rx e
        rw [intsOf_eq e2] at rr
        rw [Paired.map_int rr] at q
        exact ⟨a, ns, rfl, q, p.use G (Dp.int _)⟩
      · cases h
    · cases h
  · cases h
/-! ### min, max of two, of three; sorted -/
def datsOf : List W → Option (List PyData)
  | [] => some []
  | .d x :: r => match datsOf r with
    | some l => some (x :: l)
    | none => none
  | _ :: _ => none
theorem datsOf_eq : ∀ {ws : List W} {ds : List PyData}, datsOf ws = some ds → ws = ds.map .d
  | [], _, h => by cases h; rfl
  | .d i :: r, ns, h => by
    unfold datsOf at h
    split at h
    · rename_i l e
      cases h
      rw [datsOf_eq e]; rfl
    · cases h
  | .o _ :: _, _, h => by cases h
  | .v _ :: _, _, h => by cases h
@[simp] theorem datsOf_map (ds : List PyData) : datsOf (ds.map .d) = some ds := by
  induction ds with
  | nil => rfl
  | cons n ns ih => simp [datsOf, ih]
def isNn : PyData → Bool
  | .none => true
  | _ => false
def alikeOk (ds : List PyData) : Bool := (ds.all fun d => ds.all fun e => PySem.W.alike d e) && ds.all (fun d => !isNn d && decide (d.depth ≤ 60))
theorem alikeOk_ok {ds : List PyData} (h : alikeOk ds = true) : PySem.W.AllAlike ds ∧ (∀ d ∈ ds, d ≠ .none ∧ d.depth ≤ 60) := by
  unfold alikeOk at h
  simp only [Bool.and_eq_true, List.all_eq_true, decide_eq_true_eq] at h
  refine ⟨fun d hd e he => h.1 d hd e he, fun d hd => ⟨fun z => ?_, (h.2 d hd).2⟩⟩
  have := (h.2 d hd).1
  rw [z] at this
  cases this
theorem depthAll_le {n : Nat} : ∀ {ds : List PyData}, (∀ d ∈ ds, d.depth ≤ n) → PyData.depthAll ds ≤ n
  | [], _ => by simp [PyData.depthAll]
  | d :: ds, h => by
    have h1 := h d (by simp)
    have h2 := depthAll_le (n := n) (ds := ds) fun e he => h e (by simp [he])
    simp only [PyData.depthAll]
    omega
def rMM (K : PySem.W.Frag) (f : PyData → List PyData → PyData) (n : Nat) : List V → Hp → VK → Prop := fun vs H Q => ∃ x xs, DpAll K H vs (x :: xs) ∧ vs.length = n ∧ alikeOk (x :: xs) = true ∧ ∀ (i : Nat) v, vs[i]? = some v → (x :: xs)[i]? = some (f x xs) → Q v H
theorem vals_get' : ∀ {xs : List V} {us : List Value} {i : Nat} {u : Value}, Vals xs us → us[i]? = some u → ∃ x, xs[i]? = some x ∧ RelV x u
  | _, _, _, _, .nil, e => by simp at e
  | _, _, 0, _, .cons r _, e => by simp at e; subst e; exact ⟨_, rfl, r⟩
  | _, _, i + 1, x, .cons _ t, e => by
    obtain ⟨u, h1, h2⟩ := vals_get' (i := i) (u := x) t (by simpa using e)
    exact ⟨u, by simpa using h1, h2⟩
theorem alikeAll_of {ds : List PyData} (h : alikeOk ds = true) : PySem.W.AlikeAll ds := ⟨fun x hx y hy => (alikeOk_ok h).1 x hx y hy, fun x hx => ((alikeOk_ok h).2 x hx).1⟩
theorem vals3 {x y z : V} {us : List Value} (r : Vals [x, y, z] us) : ∃ a b c, us = [a, b, c] := by
  cases r with | cons _ r => cases r with | cons _ r => cases r with | cons _ r => cases r; exact ⟨_, _, _, rfl⟩
theorem call_min2D (hc : X.calm = true) (hu : Rm X) : CallR X (.builtin "min") (rMM X.K PySem.W.minD 2) := by
  intro pins s σ H vs us Q I r h
  obtain ⟨x, xs, d, hn, ho, k⟩ := h
  obtain ⟨v1, v2, rfl⟩ : ∃ v1 v2, vs = [v1, v2] := by
    match vs, hn with
    | [a, b], _ => exact ⟨a, b, rfl⟩
  obtain ⟨a, b, rfl, _, _⟩ := vals2 r
  obtain ⟨as, rr⟩ := Dp.readsAll I (x :: xs) _ _ d r
  refine PySem.g_min2 (I.ok.hd hc) rr (alikeAll_of ho) ?_ fun i v h' tk e1 e2 hk => ?_
  · have := depthAll_le (n := 60) fun e he => ((alikeOk_ok ho).2 e he).2
    unfold Rm at hu; omega
  · obtain ⟨y, h1, h2⟩ := vals_get' r e1
    exact ⟨y, H, I.kept hk, h2, k i y h1 e2⟩
theorem call_max2D (hc : X.calm = true) (hu : Rm X) : CallR X (.builtin "max") (rMM X.K PySem.W.maxD 2) := by
  intro pins s σ H vs us Q I r h
  obtain ⟨x, xs, d, hn, ho, k⟩ := h
  obtain ⟨v1, v2, rfl⟩ : ∃ v1 v2, vs = [v1, v2] := by
    match vs, hn with
    | [a, b], _ => exact ⟨a, b, rfl⟩
  obtain ⟨a, b, rfl, _, _⟩ := vals2 r
  obtain ⟨as, rr⟩ := Dp.readsAll I (x :: xs) _ _ d r
  refine PySem.g_max2 (I.ok.hd hc) rr (alikeAll_of ho) ?_ fun i v h' tk e1 e2 hk => ?_
  · have := depthAll_le (n := 60) fun e he => ((alikeOk_ok ho).2 e he).2
    unfold Rm at hu; omega
  · obtain ⟨y, h1, h2⟩ := vals_get' r e1
    exact ⟨y, H, I.kept hk, h2, k i y h1 e2⟩
theorem call_min3D (hc : X.calm = true) (hu : Rm X) : CallR X (.builtin "min") (rMM X.K PySem.W.minD 3) := by
  intro pins s σ H vs us Q I r h
  obtain ⟨x, xs, d, hn, ho, k⟩ := h
  obtain ⟨v1, v2, v3, rfl⟩ : ∃ v1 v2 v3, vs = [v1, v2, v3] := by
    match vs, hn with
    | [a, b, c], _ => exact ⟨a, b, c, rfl⟩
  obtain ⟨a, b, c, rfl⟩ := vals3 r
  obtain ⟨as, rr⟩ := Dp.readsAll I (x :: xs) _ _ d r
  refine PySem.g_min3 (I.ok.hd hc) rr (alikeAll_of ho) ?_ fun i v h' tk e1 e2 hk => ?_
  · have := depthAll_le (n := 60) fun e he => ((alikeOk_ok ho).2 e he).2
    unfold Rm at hu; omega
  · obtain ⟨y, h1, h2⟩ := vals_get' r e1
    exact ⟨y, H, I.kept hk, h2, k i y h1 e2⟩
def gMM (f : PyData → List PyData → PyData) (n : Nat) : OpN := fun xs S => match datsOf xs with
  | some (x :: r) => if xs.length = n ∧ alikeOk (x :: r) = true then some (.d (f x r), S) else none
  | _ => none
theorem does_mm {f : PyData → List PyData → PyData} {n : Nat} : DoesN Γ X Z (gMM f n) (rMM X.K f n) := fun w xs vs σ Q z S' G r h p => by
  unfold gMM at h
  split at h
  · rename_i x rr e
    split at h
    · rename_i hm
      cases h
      have e' := datsOf_eq e
      subst e'
      have dd := rws_of_data r
      refine ⟨x, rr, DpAll.mono (im_sub w) dd, by rw [Paired.len r]; exact hm.1, hm.2, fun i v h1 h2 => p.use G ?_⟩
      obtain ⟨v', h3, h4⟩ := Paired.get (DpAll.paired dd) h2
      rw [h1] at h3
      cases h3
      exact h4
    · cases h
  · cases h
def isTup1 : PyData → Bool
  | .tuple (_ :: _) => true
  | _ => false
def noTup : PyData → Bool
  | .tuple _ => false
  | .none => false
  | _ => true
def sortOk (ds : List PyData) : Bool := alikeOk ds && (ds.all isTup1 || ds.all noTup) && szOk ds.length
theorem sortable_of {ds : List PyData} (h : (ds.all isTup1 || ds.all noTup) = true) : PySem.W.Sortable ds := by
  rcases Bool.or_eq_true_iff.mp h with h | h
  · refine .inl fun d hd => ?_
    have := List.all_eq_true.mp h d hd
    cases d with
    | tuple l => cases l with
      | nil => cases this
      | cons x r => exact ⟨x, r, rfl⟩
    | _ => cases this
  · refine .inr fun d hd => ?_
    have := List.all_eq_true.mp h d hd
    cases d with
    | tuple l => cases this
    | none => cases this
    | _ => exact ⟨by simp, by simp⟩
def srt (ds : List PyData) : List PyData := ds.mergeSort (PySem.W.dataLe false id)
def rSortD (K : PySem.W.Frag) : List V → Hp → VK → Prop := fun vs H Q => ∃ (a : Addr) (xs : List V) (ds : List PyData) (R : V → PyData → Prop), vs = [V.ref a] ∧ SqL K H a xs ∧ DpAll K H xs ds ∧ sortOk ds = true ∧ Paired R xs ds ∧
  ∀ ys, Paired R ys (srt ds) → ∀ p, H p = none → Q (.ref p) (upd H p (.lst ys))
theorem each_of {R : V → PyData → Prop} : ∀ {xs : List V} {us : List Value} {ds : List PyData}, Vals xs us → Paired R xs ds → PySem.W.EachIs (fun (u : Value) (d : PyData) => ∃ v, RelV v u ∧ R v d) us ds
  | _, _, _, .nil, .nil => .nil
  | _, _, _, .cons r t, .cons q s => .cons ⟨_, r, q⟩ (each_of t s)
theorem of_each {R : V → PyData → Prop} : ∀ {us : List Value} {ds : List PyData}, PySem.W.EachIs (fun (u : Value) (d : PyData) => ∃ v, RelV v u ∧ R v d) us ds → ∃ xs, Vals xs us ∧ Paired R xs ds
  | _, _, .nil => ⟨[], .nil, .nil⟩
  | _, _, .cons ⟨v, r, q⟩ t => by
    obtain ⟨xs, h1, h2⟩ := of_each t
    exact ⟨v :: xs, .cons r h1, .cons q h2⟩
theorem each_reads {h : Heap} : ∀ {us : List Value} {ds : List PyData} {as : List Addr}, ReadsAll h us ds as → PySem.W.EachIs (fun (u : Value) (d : PyData) => ∃ as, Reads h u (id d) as) us ds
  | _, _, _, .nil => .nil
  | _, _, _, .cons r t => .cons ⟨_, r⟩ (each_reads t)
theorem call_sortD (hu : Rm X) : CallR X (.builtin "sorted") (rSortD X.K) := by
  intro pins s σ H vs us Q I r h
  obtain ⟨a, xs, ds, R, rfl, hq, hd, ho, hp, k⟩ := h
  unfold sortOk at ho
  rw [Bool.and_eq_true, Bool.and_eq_true] at ho
  obtain ⟨⟨h1, h2⟩, h3⟩ := ho
  obtain ⟨its, rv, hl, hz⟩ := I.list hq
  obtain ⟨as, rr⟩ := Dp.readsAll I ds _ _ hd rv
  rw [Vals.ref1 r]
  have hlen : ds.length ≤ sizeLine := Nat.le_of_lt (sz_line h3)
  refine PySem.W.sorted_data (β := PyData) (enc := id) (bs := ds) hl.isList (each_of rv hp) (each_reads rr) (by rw [List.map_id]; exact (alikeOk_ok h1).1) (by rw [List.map_id]; exact sortable_of h2) hlen ?_ fun out ho2 he => ?_
  · intro b hb
    have := ((alikeOk_ok h1).2 b hb).2
    unfold Rm at hu
    show X.A.units + 2 + b.depth < cLine
    omega
  · obtain ⟨ys, v1, v2⟩ := of_each he
    obtain ⟨ep, he'⟩ := PyProof.Rows.sortedAll_at s.heap its (List.toArray out)
    have hlen2 : ys.length ≤ sizeLine := by rw [v1.length, ho2]; exact hlen
    exact ⟨.ref _, upd H (s.heap.objs.size + 1) (.lst ys), I.laid (t' := s.toks) (fun _ _ => PyProof.Rows.sortedAll_old) (Nat.le_succ _) ⟨hlen2, out, ep, v1, he'⟩, rfl, k ys v2 _ (I.hok.fresh (Nat.le_succ _))⟩
def gSort : OpN := fun xs S => match xs with
  | [x] => match lstOf x S with
    | some ws => match datsOf ws with
      | some ds => if sortOk ds = true then some (.o S.length, S ++ [.lst ((srt ds).map .d)]) else none
      | none => none
    | none => none
  | _ => none
theorem does_sort : DoesN Γ X Z gSort (rSortD X.K) := fun w xs vs σ Q z S' G r h p => by
  unfold gSort at h
  split at h
  · obtain ⟨v, rfl, rx⟩ := rws_one r
    split at h
    · rename_i ws e
      split at h
      · rename_i ds e2
        split at h
        · rename_i hm
          cases h
          obtain ⟨a, us, rfl, q, rr⟩ := lstOf_ok G rx e
          have e' := datsOf_eq e2
          subst e'
          have dd := rws_of_data rr
          exact ⟨a, us, ds, Dp X.K w.im, rfl, q, DpAll.mono (im_sub w) dd, hm, DpAll.paired dd, fun ys hy => Post.lst p G (rws_data (DpAll.of hy))⟩
        · cases h
      · cases h
    · cases h
  · cases h

/-! ### isinstance -/
inductive Kd where | no | bl | it | st | ls | tp | dc
  deriving DecidableEq
def Kd.name : Kd → String
  | .no => "NoneType" | .bl => "bool" | .it => "int" | .st => "str" | .ls => "list" | .tp => "tuple" | .dc => "dict"
def kdD : PyData → Kd
  | .none => .no | .bool _ => .bl | .int _ => .it | .str _ => .st | .list _ => .ls | .tuple _ => .tp | .dict _ => .dc
def kdC : Option Cell → Option Kd
  | some (.lst _) => some .ls
  | some (.fz _) => some .ls
  | some (.dic _) => some .dc
  | some (.dit _) => none
  | some (.fd _) => none
  | some (.dix _) => none
  | some (.fdx _) => none
  | none => none
def kdOf (x : W) (S : Sto) : Option Kd := match x with
  | .d d => some (kdD d)
  | .o n => kdC S[n]?
  | .v _ => none
  | .t _ => some .tp
  | .u _ => none
  | .u2 _ => none
theorem kdOf_ok {K : PySem.W.Frag} {w : Wd} {v : V} {x : W} {k : Kd} (G : Good Γ K w) (r : RW K w v x) (h : kdOf x w.S = some k) : TyX K w.H v (.type k.name) := by
  cases x with
  | d x =>
    cases h
    cases x with
    | none => cases (show Dp K w.im v .none from r); exact .base .non
    | bool b => cases (show Dp K w.im v (.bool b) from r); exact .base (.bl b)
    | int b => cases (show Dp K w.im v (.int b) from r); exact .base (.int b)
    | str b => cases (show Dp K w.im v (.str b) from r); exact .base (.str b)
    | list b =>
      cases (show Dp K w.im v (.list b) from r) with
      | lst q _ =>
        rcases SqL.mono (im_sub w) q with (q | ⟨o, q⟩) | ⟨o, _, _, q, c, _⟩
        · exact .base (.lst q)
        · exact .base (.frz q)
        · exact .kList q c
    | tuple b =>
      cases (show Dp K w.im v (.tuple b) from r) with
      | tup q _ =>
        rcases SqT.mono (im_sub w) q with (q | ⟨o, q⟩) | ⟨o, _, _, q, c, _⟩
        · exact .base (.tup q)
        · exact .fTuple q
        · exact .kTuple q c
    | dict b => cases (show Dp K w.im v (.dict b) from r)
  | o n =>
    obtain ⟨a, ha, rfl⟩ := r
    have h : kdC w.S[n]? = some k := h
    cases e : w.S[n]? with
    | none => rw [e] at h; cases h
    | some c =>
      rw [e] at h
      have q := G.cell n a _ ha e
      cases c with
      | lst ws => cases h; obtain ⟨vs, q, _⟩ := q; exact .base (.lst q)
      | fz x => cases h; obtain ⟨vs, ds, _, q, _⟩ := q; exact .base (.lst q)
      | dic kvs => cases h; obtain ⟨vs, q, _⟩ := q; exact .base (.dK q)
      | dit kvs => cases h
      | fd kvs => cases h
      | dix kvs => cases h
      | fdx kvs => cases h
  | v y => cases h
  | t y =>
    obtain ⟨a, _, _, rfl, _, q, _⟩ := r
    cases h
    exact .base (.tup (Wd.im_some q).1)
  | u y => cases h
  | u2 y => cases h
def isK (k t : Kd) : Bool := decide (k = t) || (match k, t with | .bl, .it => true | _, _ => false)
theorem isK_ok (k t : Kd) : kitB k.name t.name = some (isK k t) := by
  cases k <;> cases t <;> decide +kernel
def fIsi (t : Kd) (f : Fe W) : Fe W := fun ρ S => (f ρ S).bind fun x S1 => match kdOf x S1 with
  | some k => .ok (.d (.bool (isK k t))) S1
  | none => .bad
theorem ve_isi (t : Kd) {a : Expr} {f : Fe W} {p p2 : Pos} (ha : VE Γ X Z a f) (hg : Gl X "isinstance") (hm : X.mg "isinstance" = none) (hg2 : Gl X (Str.ofString t.name)) (hm2 : X.mg (Str.ofString t.name) = none) (hv2 : bootBuiltins (Str.ofString t.name) = some (.type t.name))
    (hn2 : Str.ofString t.name ≠ "__name__") (hd2 : (Str.ofString t.name == ("__debug__" : Str)) = false)
    (hv : bootBuiltins "isinstance" = some (.builtin "isinstance") := by decide +kernel)
    (he : starEach [a, .Name (Str.ofString t.name) p2] X.env = (false, eval a X.env) :: starEach [.Name (Str.ofString t.name) p2] X.env := by rfl)
    (he2 : starEach [.Name (Str.ofString t.name) p2] X.env = (false, eval (.Name (Str.ofString t.name) p2) X.env) :: starEach [] X.env := by rfl)
    (hpl : (backTo pos (starEach [.Name (Str.ofString t.name) p2] X.env)).any (·.1) = false := by rfl) :
    VE Γ X Z (.Call (.Name "isinstance" p) [a, .Name (Str.ofString t.name) p2] [] pos) (fIsi t f) := by
  refine ⟨PE.mono (pe_callB call_isi hg hm hv (pa_cons ha.pe (pa_cons (pe_bltn (v := .ty t.name) hg2 hm2 hv2 rfl hn2 hd2) pa_nil he2) he) (by decide) (by decide) he hpl) fun σ H Q q => liftR.imp (seq1 (R := RW X.K) q) fun v H1 ⟨x, w, e, G, r, p⟩ => ?_⟩
  subst e
  split at p
  · rename_i k e
    exact ⟨v, .ty t.name, .type k.name, .type t.name, isK k t, rfl, .ty _, kdOf_ok G r e, kit_ty (isK_ok k t), p.use G (Dp.bl _)⟩
  · exact p.elim

/-! ### in, not in: data -/
def rInA (K : PySem.W.Frag) (neg : Bool) : R2 := fun x y H Q => ∃ d ds, Dp K H x d ∧ (Dp K H y (.list ds) ∨ Dp K H y (.tuple ds)) ∧ SeqAt.shaped d = true ∧ SeqAt.shaped (.list ds) = true ∧ Q (.bl (if neg = true then !(ds.any fun z => PyData.eqv z d) else ds.any fun z => PyData.eqv z d)) H
theorem shaped_lt {ds : List PyData} (h : SeqAt.shaped (.list ds) = true) : PyData.canLayAll0 ds = true := SeqAt.canLay_of_shaped h
theorem op_inA (hu : Rm X) : OpR X (compareOp .In) (rInA X.K false) := by
  intro pins s σ H x y v u Q I rx ry h
  obtain ⟨d, ds, hd, he, sd, se, q⟩ := h
  obtain ⟨as, r1⟩ := Dp.reads I d x v hd rx
  have hu : X.A.units + 65 < cLine := by unfold Rm at hu; omega
  rcases he with he | he
  · obtain ⟨bs, r2⟩ := Dp.reads I (.list ds) y u he ry
    exact SeqAt.in_list_reads r2 r1 (shaped_lt se) (SeqAt.canLay_of_shaped sd) (PyProof.Rows.room_in_shaped sd hu) ⟨.bl _, H, I, rfl, q⟩
  · obtain ⟨bs, r2⟩ := Dp.reads I (.tuple ds) y u he ry
    exact SeqAt.in_tuple_reads r2 r1 (shaped_lt se) (SeqAt.canLay_of_shaped sd) (PyProof.Rows.room_in_shaped sd hu) ⟨.bl _, H, I, rfl, q⟩
theorem op_notInA (hu : Rm X) : OpR X (compareOp .NotIn) (rInA X.K true) := by
  intro pins s σ H x y v u Q I rx ry h
  obtain ⟨d, ds, hd, he, sd, se, q⟩ := h
  obtain ⟨as, r1⟩ := Dp.reads I d x v hd rx
  have hu : X.A.units + 65 < cLine := by unfold Rm at hu; omega
  rcases he with he | he
  · obtain ⟨bs, r2⟩ := Dp.reads I (.list ds) y u he ry
    exact SeqAt.notIn_list_reads r2 r1 (shaped_lt se) (SeqAt.canLay_of_shaped sd) (PyProof.Rows.room_in_shaped sd hu) ⟨.bl _, H, I, rfl, q⟩
  · obtain ⟨bs, r2⟩ := Dp.reads I (.tuple ds) y u he ry
    exact SeqAt.notIn_tuple_reads r2 r1 (shaped_lt se) (SeqAt.canLay_of_shaped sd) (PyProof.Rows.room_in_shaped sd hu) ⟨.bl _, H, I, rfl, q⟩
def gIn (neg : Bool) : Op2 := fun x y S => match view x S, view y S with
  | some d, some (.list ds) => if (SeqAt.shaped d && SeqAt.shaped (.list ds)) = true then some (.d (.bool (if neg = true then !(ds.any fun z => PyData.eqv z d) else ds.any fun z => PyData.eqv z d)), S) else none
  | some d, some (.tuple ds) => if (SeqAt.shaped d && SeqAt.shaped (.list ds)) = true then some (.d (.bool (if neg = true then !(ds.any fun z => PyData.eqv z d) else ds.any fun z => PyData.eqv z d)), S) else none
  | _, _ => none
theorem does_in {neg : Bool} : Does2 Γ X Z (gIn neg) (rInA X.K neg) := fun w x y vx vy σ Q z S' G rx ry h p => by
  unfold gIn at h
  split at h
  · rename_i d ds e1 e2
    split at h
    · rename_i hs
      cases h
      rw [Bool.and_eq_true] at hs
      exact ⟨d, ds, view_ok G rx e1, .inl (view_ok G ry e2), hs.1, hs.2, p.use G (Dp.bl _)⟩
    · cases h
  · rename_i d ds e1 e2
    split at h
    · rename_i hs
      cases h
      rw [Bool.and_eq_true] at hs
      exact ⟨d, ds, view_ok G rx e1, .inr (view_ok G ry e2), hs.1, hs.2, p.use G (Dp.bl _)⟩
    · cases h
  · cases h

/-! ### methods of lists -/
abbrev OpM := W → List W → Sto → Option (W × Sto)
def fMt (g : OpM) (f : Fe W) (h : Fe (List W)) : Fe W := fun ρ S => (f ρ S).bind fun x S1 => if (hpl x S1).isSome = true then (h ρ S1).bind fun xs S2 => ofO (g x xs S2) else .bad
def DoesM (Γ : Gm) (X : Cx) (Z : WX) (g : OpM) (r : V → List V → Hp → VK → Prop) : Prop := ∀ (w : Wd) (x : W) (v : V) (xs : List W) (vs : List V) (σ : L2.St) (Q : VK) (z : W) (S' : Sto), Good Γ X.K w → RW X.K w v x → RWs X.K w vs xs → g x xs w.S = some (z, S') → Post Γ X.K (RW X.K) w σ Z (.ok z S') Q → r v vs w.H Q
theorem ve_mt {name : Str} {id : String} {r : V → List V → Hp → VK → Prop} {g : OpM} {o e : Expr} {es : List Expr} {f : Fe W} {h : Fe (List W)} {apos cpos : Pos} (slot : Slot "list" name id) (hty : typeOf (.builtin id) = pure (.type "method_descriptor")) (hm : MtR X id r) (hd : DoesM Γ X Z g r) (ho : VE Γ X Z o f) (ha : VA Γ X Z (e :: es) h)
    (hbase : attributeBase o name X.env (eval o X.env) = eval o X.env := by rfl)
    (hfew : ((backTo cpos (starEach (e :: es) X.env)).all (fun x => !x.1) && (backToKw cpos (keywordEach [] X.env)).all (fun x => x.1.isSome)
      && decide ((e :: es).length + ([] : List Keyword).length + (if ([] : List Keyword).isEmpty then 0 else 1) < 30)) = true := by rfl)
    (hline : (apos.endLine == cpos.line) = true := by rfl) (hs : starEach (e :: es) X.env = (false, eval e X.env) :: starEach es X.env := by rfl) (hplain : (backTo cpos (starEach es X.env)).any (·.1) = false := by rfl) :
    VE Γ X Z (.Call (.Attribute o name apos) (e :: es) [] cpos) (fMt g f h) := by
  refine ⟨PE.mono (pe_bm PySem.F.plainAttrs_list slot hty hm ho.pe ha.pa hbase hfew hline hs hplain) fun σ H Q q => ?_⟩
  refine (liftR.bind (R := RW X.K) (k := fun x ρ S1 => if (hpl x S1).isSome = true then (h ρ S1).bind fun xs S2 => ofO (g x xs S2) else .bad) q).imp fun v H1 ⟨x, w1, ρ, e1, G1, s1, r1, p1⟩ => ?_
  subst e1
  by_cases hh : (hpl x w1.S).isSome = true
  · rw [if_pos hh] at p1
    obtain ⟨ws, hw⟩ := Option.isSome_iff_exists.mp hh
    obtain ⟨a, vs, rfl, hH, _⟩ := hpl_ok G1 r1 hw
    refine ⟨Or.inl ⟨rfl, _, SqL.of hH⟩, w1, ρ, rfl, G1, s1, (Post.bind (R := RWs X.K) p1).imp fun us H2 ⟨w2, xs, e2, G2, l2, r2, p2⟩ => ?_⟩
    subst e2
    cases e : g x xs w2.S with
    | none => rw [e] at p2; exact p2.elim
    | some q =>
      obtain ⟨z, S'⟩ := q
      rw [e] at p2
      exact hd w2 x _ xs us σ Q z S' G2 (RW.mono l2 r1) r2 e p2
  · rw [if_neg hh] at p1; exact p1.elim
def gApp : OpM := fun x xs S => match x, xs with
  | .o n, [y] => match S[n]? with
    | some (.lst ws) => if szOk ws.length = true then some (.d .none, S.set n (.lst (ws ++ [y]))) else none
    | _ => none
  | _, _ => none
theorem does_app : DoesM Γ X Z gApp rAppend := fun w x v xs vs σ Q z S' G r rs h p => by
  unfold gApp at h
  split at h
  · rename_i n y
    obtain ⟨a, ha, rfl⟩ := r
    obtain ⟨u, rfl, ru⟩ := rws_one rs
    split at h
    · rename_i ws e
      split at h
      · rename_i hz
        cases h
        obtain ⟨us, q, rr⟩ := G.cell n a _ ha e
        exact ⟨a, us, u, rfl, rfl, q, by rw [Paired.len rr]; exact sz_line hz, Post.setL p G ha e rfl (Paired.app rr (.cons ru .nil)) (show Dp X.K w.im .non .none from .non)⟩
      · cases h
    · cases h
  · cases h
def gPopAt : OpM := fun x xs S => match x, xs with
  | .o n, [.d (.int i)] => match S[n]? with
    | some (.lst ws) => match ixN ws.length i with
      | some k => if szOk ws.length = true then (ws[k]?).map fun z => (z, S.set n (.lst (ws.eraseIdx k))) else none
      | none => none
    | _ => none
  | _, _ => none
theorem does_popAt : DoesM Γ X Z gPopAt rPopAt := fun w x v xs vs σ Q z S' G r rs h p => by
  unfold gPopAt at h
  split at h
  · rename_i n i
    obtain ⟨a, ha, rfl⟩ := r
    obtain ⟨u, rfl, ru⟩ := rws_one rs
    cases (show Dp X.K w.im u (.int i) from ru)
    split at h
    · rename_i ws e
      split at h
      · rename_i k e2
        split at h
        · rename_i hz
          cases e3 : ws[k]? with
          | none => rw [e3] at h; cases h
          | some z' =>
            rw [e3] at h
            cases h
            obtain ⟨us, q, rr⟩ := G.cell n a _ ha e
            obtain ⟨y, h1, h2⟩ := Paired.get rr e3
            obtain ⟨q1, q2, q3, q4⟩ := ixN_seq e2
            have hz' : ws.length ≤ 1000000 := of_decide_eq_true hz
            exact ⟨a, us, i, k, y, rfl, rfl, q, by omega, by omega, by rw [Paired.len rr]; exact q1, h1, Post.setL p G ha e rfl (Paired.erase k rr) h2⟩
        · cases h
      · cases h
    · cases h
  · cases h
/-- xs.extend(ys), ys a list or a tuple -/
def rExtA (K : PySem.W.Frag) : V → List V → Hp → VK → Prop := fun x vs H Q => ∃ l b xs zs, x = .ref l ∧ vs = [.ref b] ∧ H l = some (.lst xs) ∧ (H b = some (.lst zs) ∨ SqT K H b zs) ∧ xs.length + zs.length ≤ sizeLine ∧ Q .non (upd H l (.lst (xs ++ zs)))
theorem mt_extA : MtR X "list.extend" (rExtA X.K) := by
  intro pins s σ H x vs v us Q I rx rv h
  obtain ⟨l, b, xs, zs, rfl, rfl, hH, hB, hz, q⟩ := h
  rcases hB with hB | hB
  · exact mt_extend pins s σ H _ _ v us Q I rx rv ⟨l, b, xs, zs, rfl, rfl, hH, hB, hz, q⟩
  · cases rx
    obtain ⟨u, rfl, ru⟩ := rv.one
    cases ru
    obtain ⟨z, its, n, r, hl, e⟩ := I.lstM hH
    obtain ⟨its2, r2, ⟨o2, e2, hc2, n2, hd2⟩, hz2⟩ := I.tuple hB
    obtain ⟨c2, dd, dt2, sl⟩ := o2
    simp only at hc2 hd2
    subst hc2 hd2
    have hl2 := r2.length
    have hsz : its.toArray.size + its2.toArray.size ≤ sizeLine := by rw [List.size_toArray, List.size_toArray]; omega
    have hlong : ¬ (!its.toArray.isEmpty && Builtin.List.listTooLong (its.toArray.size + its2.toArray.size)) = true := by
      rw [notLongL hsz, Bool.and_false]
      exact Bool.false_ne_true
    refine call_meets F.slot_list_extend ⟨_, e, rfl⟩ F.entry_list_extend (F.args_list_extend_2 _ _)
      (AutoSeq1.g_extend_tup l its.toArray n b its2.toArray n2 dd sl hlong (by rw [List.size_toArray]; omega) (by omega)) ⟨e, e2, ?_⟩
    refine ⟨.non, _, I.lset (its' := its ++ its2) hH e (by simp) (r.append r2) ?_, rfl, q⟩
    rw [List.length_append]
    omega
def gExt : OpM := fun x xs S => match x, xs with
  | .o n, [.d (.tuple ds)] => match S[n]? with
    | some (.lst ws) => if szOk (ws.length + ds.length) = true then some (.d .none, S.set n (.lst (ws ++ ds.map .d))) else none
    | _ => none
  | .o n, [y] => match S[n]?, hpl y S with
    | some (.lst ws), some us => if szOk (ws.length + us.length) = true then some (.d .none, S.set n (.lst (ws ++ us))) else none
    | _, _ => none
  | _, _ => none
theorem does_ext : DoesM Γ X Z gExt (rExtA X.K) := fun w x v xs vs σ Q z S' G r rs h p => by
  unfold gExt at h
  split at h
  · rename_i n ds
    obtain ⟨a, ha, rfl⟩ := r
    obtain ⟨u, rfl, ru⟩ := rws_one rs
    split at h
    · rename_i ws e
      split at h
      · rename_i hz
        cases h
        obtain ⟨us, q, rr⟩ := G.cell n a _ ha e
        cases (show Dp X.K w.im u (.tuple ds) from ru) with
        | tup q2 d2 => exact ⟨a, _, us, _, rfl, rfl, q, .inr (SqT.mono (im_sub w) q2), by rw [Paired.len rr, Paired.len (DpAll.paired d2)]; exact Nat.le_of_lt (sz_line hz), Post.setL p G ha e rfl (Paired.app rr (rws_data d2)) (show Dp X.K w.im .non .none from .non)⟩
      · cases h
    · cases h
  · rename_i n y _
    obtain ⟨a, ha, rfl⟩ := r
    obtain ⟨u, rfl, ru⟩ := rws_one rs
    split at h
    · rename_i ws us' e e2
      split at h
      · rename_i hz
        cases h
        obtain ⟨us, q, rr⟩ := G.cell n a _ ha e
        obtain ⟨b, zs, rfl, q2, r2⟩ := hpl_ok G ru e2
        exact ⟨a, b, us, zs, rfl, rfl, q, .inl q2, by rw [Paired.len rr, Paired.len r2]; exact Nat.le_of_lt (sz_line hz), Post.setL p G ha e rfl (Paired.app rr r2) (show Dp X.K w.im .non .none from .non)⟩
      · cases h
    · cases h
  · cases h
end
end G
set_option Elab.async false
set_option linter.all false
set_option maxRecDepth 100000
set_option maxHeartbeats 4000000
/-! G7: statements, loops, comprehensions, defs -/
namespace G
open PySem PySem.Spec L2
set_option autoImplicit false
inductive Fl where
  | nx (ρ : Slt) (S : Sto)
  | rt (x : W) (S : Sto)
  | bk (ρ : Slt) (S : Sto)
  | ct (ρ : Slt) (S : Sto)
  | ex (e : Exn) (ρ : Slt) (S : Sto)
  | bad
abbrev Fs := Slt → Sto → Fl
def Out.fl {α : Type} (ρ : Slt) (r : Out α) (k : α → Sto → Fl) : Fl := match r with
  | .ok a S => k a S
  | .ex e S => .ex e ρ S
  | .bad => .bad
@[simp] theorem fl_ok {α : Type} (a : α) (S : Sto) (ρ : Slt) (k : α → Sto → Fl) : (Out.ok a S).fl ρ k = k a S := id rfl
@[simp] theorem fl_ex {α : Type} (e : Exn) (S : Sto) (ρ : Slt) (k : α → Sto → Fl) : (Out.ex e S).fl ρ k = .ex e ρ S := id rfl
@[simp] theorem fl_bad {α : Type} (ρ : Slt) (k : α → Sto → Fl) : (Out.bad : Out α).fl ρ k = .bad := id rfl
section
variable (Γ : Gm) (K : PySem.W.Frag)
def PostS (w : Wd) (Z : WX) (r : Fl) (D : Ends) : Prop := match r with
  | .nx ρ S' => ∀ w1 σ1, w1.S = S' → w.le w1 → Good Γ K w1 → Slots K w1 σ1 ρ → D.nx σ1 w1.H
  | .rt x S' => ∀ w1 v, w1.S = S' → w.le w1 → Good Γ K w1 → RW K w1 v x → D.rt v w1.H
  | .bk ρ S' => ∀ w1 σ1, w1.S = S' → w.le w1 → Good Γ K w1 → Slots K w1 σ1 ρ → D.bk σ1 w1.H
  | .ct ρ S' => ∀ w1 σ1, w1.S = S' → w.le w1 → Good Γ K w1 → Slots K w1 σ1 ρ → D.ct σ1 w1.H
  | .ex e ρ S' => ∀ w1 σ1 cls d, w1.S = S' → w.le w1 → Good Γ K w1 → Slots K w1 σ1 ρ → RX Γ K w1 cls d e → Z cls d σ1 w1.H
  | .bad => False
end
section
variable {Γ : Gm} {K : PySem.W.Frag} {w w1 : Wd} {Z : WX} {r : Fl} {D : Ends}
theorem PostS.mono (h : w.le w1) (p : PostS Γ K w Z r D) : PostS Γ K w1 Z r D := by
  cases r with
  | nx ρ S' => exact fun w2 v e l g q => p w2 v e (h.trans l) g q
  | rt ρ S' => exact fun w2 v e l g q => p w2 v e (h.trans l) g q
  | bk ρ S' => exact fun w2 v e l g q => p w2 v e (h.trans l) g q
  | ct ρ S' => exact fun w2 v e l g q => p w2 v e (h.trans l) g q
  | ex e ρ S' => exact fun w2 v c d e l g q => p w2 v c d e (h.trans l) g q
  | bad => exact p
theorem PostS.nx_use {ρ : Slt} {σ : L2.St} (p : PostS Γ K w Z (.nx ρ w.S) D) (G : Good Γ K w) (s : Slots K w σ ρ) : D.nx σ w.H := p w σ rfl (Wd.le.refl w) G s
theorem PostS.rt_use {x : W} {v : V} (p : PostS Γ K w Z (.rt x w.S) D) (G : Good Γ K w) (s : RW K w v x) : D.rt v w.H := p w v rfl (Wd.le.refl w) G s
end
def liftS (Γ : Gm) (K : PySem.W.Frag) (Z : WX) (f : Fs) : TS := fun D σ H => ∃ w ρ, w.H = H ∧ Good Γ K w ∧ Slots K w σ ρ ∧ PostS Γ K w Z (f ρ w.S) D
structure VS (Γ : Gm) (X : Cx) (Z : WX) (st : Stmt) (f : Fs) : Prop where
  ps : PS X st (liftS Γ X.K Z f)
structure VB (Γ : Gm) (X : Cx) (Z : WX) (st : List Stmt) (f : Fs) : Prop where
  ps : PSs X st (liftS Γ X.K Z f)
section
variable {Γ : Gm} {X : Cx} {Z : WX} {pos : Pos}
theorem liftS.out {α β : Type} {R : Wd → β → α → Prop} {f : Fe α} {k : α → Slt → Sto → Fl} {D : Ends} {σ : L2.St} {H : Hp} (h : liftS Γ X.K Z (fun ρ S => (f ρ S).fl ρ fun x S1 => k x ρ S1) D σ H) :
    liftR Γ X.K Z R f σ H fun v H1 => ∃ x w1 ρ, w1.H = H1 ∧ Good Γ X.K w1 ∧ Slots X.K w1 σ ρ ∧ R w1 v x ∧ PostS Γ X.K w1 Z (k x ρ w1.S) D := by
  obtain ⟨w, ρ, e, G, s, p⟩ := h
  refine ⟨w, ρ, e, G, s, ?_⟩
  replace p : PostS Γ X.K w Z ((f ρ w.S).fl ρ fun x S1 => k x ρ S1) D := p
  cases q : f ρ w.S with
  | ok x S' =>
    rw [q] at p
    intro w1 v e1 l g r
    subst e1
    exact ⟨x, w1, ρ, rfl, g, s.mono l, r, PostS.mono l p⟩
  | ex e S' =>
    rw [q] at p
    exact fun w1 c d e1 l g r => p w1 σ c d e1 l g (s.mono l) r
  | bad => rw [q] at p; exact p
/-! ### small statements -/
def fSkip : Fs := fun ρ S => .nx ρ S
def fSeq (f g : Fs) : Fs := fun ρ S => match f ρ S with
  | .nx ρ1 S1 => g ρ1 S1
  | r => r
def fExp (f : Fe W) : Fs := fun ρ S => (f ρ S).fl ρ fun _ S1 => .nx ρ S1
def fRet (f : Fe W) : Fs := fun ρ S => (f ρ S).fl ρ fun x S1 => .rt x S1
def fRetN : Fs := fun _ S => .rt (.d .none) S
def fSet (i : Nat) (f : Fe W) : Fs := fun ρ S => (f ρ S).fl ρ fun x S1 => .nx (ρ.set i (some x)) S1
def fIf (c : Fe Bool) (f g : Fs) : Fs := fun ρ S => (c ρ S).fl ρ fun b S1 => if b = true then f ρ S1 else g ρ S1
def fBad : Fs := fun _ _ => .bad
theorem vb_nil : VB Γ X Z [] fSkip := ⟨PSs.mono pss_nil fun D σ H ⟨w, ρ, e, G, s, p⟩ => by subst e; exact PostS.nx_use p G s⟩
theorem seq_lift {f g : Fs} {D : Ends} {σ : L2.St} {H : Hp} (h : liftS Γ X.K Z (fSeq f g) D σ H) : liftS Γ X.K Z f { D with nx := liftS Γ X.K Z g D } σ H := by
  obtain ⟨w, ρ, e, G, s, p⟩ := h
  refine ⟨w, ρ, e, G, s, ?_⟩
  unfold fSeq at p
  cases q : f ρ w.S with
  | nx ρ1 S1 =>
    rw [q] at p
    intro w1 σ1 e1 l g r
    subst e1
    exact ⟨w1, ρ1, rfl, g, r, PostS.mono l p⟩
  | rt x S1 => rw [q] at p; exact p
  | bk x S1 => rw [q] at p; exact p
  | ct x S1 => rw [q] at p; exact p
  | ex x y S1 => rw [q] at p; exact p
  | bad => rw [q] at p; exact p
theorem vb_cons {st : Stmt} {rest : List Stmt} {f g : Fs} (h1 : VS Γ X Z st f) (h2 : VB Γ X Z rest g) : VB Γ X Z (st :: rest) (fSeq f g) := ⟨PSs.mono (pss_cons h1.ps h2.ps) fun _ _ _ h => seq_lift h⟩
theorem vb_one {st : Stmt} {f : Fs} (h1 : VS Γ X Z st f) : VB Γ X Z [st] f := ⟨pss_one h1.ps⟩
theorem vs_pass : VS Γ X Z (.Pass pos) fSkip := ⟨PS.mono ps_pass fun D σ H ⟨w, ρ, e, G, s, p⟩ => by subst e; exact PostS.nx_use p G s⟩
def fBrk : Fs := fun ρ S => .bk ρ S
def fCon : Fs := fun ρ S => .ct ρ S
theorem vs_break : VS Γ X Z (.Break pos) fBrk := ⟨PS.mono ps_break fun D σ H ⟨w, ρ, e, G, s, p⟩ => by subst e; exact p w σ rfl (Wd.le.refl w) G s⟩
theorem vs_continue : VS Γ X Z (.Continue pos) fCon := ⟨PS.mono ps_continue fun D σ H ⟨w, ρ, e, G, s, p⟩ => by subst e; exact p w σ rfl (Wd.le.refl w) G s⟩
theorem vs_bad {st : Stmt} : VS Γ X Z st fBad := ⟨PS.mono ps_never fun D σ H ⟨w, ρ, e, G, s, p⟩ => p.elim⟩
theorem vs_expr {e : Expr} {f : Fe W} (h : VE Γ X Z e f) (hs : swapsWith e none pos.line X.env = pure false := by rfl) : VS Γ X Z (.Expr e pos) (fExp f) :=
  ⟨PS.mono (ps_expr h.pe hs) fun D σ H q => (liftS.out (R := RW X.K) (k := fun _ ρ S1 => .nx ρ S1) q).imp fun v H1 ⟨x, w, ρ, e, G, s, r, p⟩ => by subst e; exact PostS.nx_use p G s⟩
theorem vs_ret {e : Expr} {f : Fe W} (h : VE Γ X Z e f) : VS Γ X Z (.Return (some e) pos) (fRet f) :=
  ⟨PS.mono (ps_ret h.pe) fun D σ H q => (liftS.out (R := RW X.K) (k := fun x _ S1 => .rt x S1) q).imp fun v H1 ⟨x, w, ρ, e, G, s, r, p⟩ => by subst e; exact PostS.rt_use p G r⟩
theorem vs_retN : VS Γ X Z (.Return none pos) fRetN := ⟨PS.mono ps_retN fun D σ H ⟨w, ρ, e, G, s, p⟩ => by subst e; exact PostS.rt_use (v := .non) p G Dp.non⟩
theorem vs_set (i : Nat) {x : Str} {e : Expr} {f : Fe W} {p' : Pos} (h : VE Γ X Z e f) (hN : X.N.Nodup) (hi : X.N[i]? = some x := by rfl) (hx : Loc X.env.scope x := by first | exact Or.inl rfl | exact Or.inr rfl)
    (hs : swapsWith e (some (.Name x p')) pos.line X.env = pure false := by rfl) (hf : X.fn x = true ∨ X.env.scope.names.lookup x = some .local := by first | exact .inl rfl | exact .inr rfl) : VS Γ X Z (.Assign [.Name x p'] e pos) (fSet i f) :=
  ⟨PS.mono (ps_set hN hi hx h.pe hs hf) fun D σ H q => (liftS.out (R := RW X.K) (k := fun x ρ S1 => .nx (ρ.set i (some x)) S1) q).imp fun v H1 ⟨x, w, ρ, e, G, s, r, p⟩ => by subst e; exact PostS.nx_use p G (s.set r i)⟩
theorem vs_if {c : Expr} {a b : List Stmt} {t : Fe Bool} {f g : Fs} (hc : VT Γ X Z c t) (ha : VB Γ X Z a f) (hb : VB Γ X Z b g) : VS Γ X Z (.If c a b pos) (fIf t f g) :=
  ⟨PS.mono (ps_if hc.pt ha.ps hb.ps) fun D σ H q => (liftS.out (R := RB) (k := fun b ρ S1 => if b = true then f ρ S1 else g ρ S1) q).imp fun v H1 ⟨x, w, ρ, e, G, s, r, p⟩ => by
    cases (show v = x from r)
    cases v with
    | true => exact ⟨w, ρ, e, G, s, p⟩
    | false => exact ⟨w, ρ, e, G, s, p⟩⟩

/-! ### targets -/
abbrev Gt := W → Slt → Sto → Option Slt
theorem wipe_cons (σ : L2.St) (i : Nat) (vs : List Nat) : wipe σ (i :: vs) = (wipe σ vs).set i none := rfl
theorem wipe_get : ∀ (σ : L2.St) (vs : List Nat) (i : Nat), (wipe σ vs)[i]? = if i ∈ vs ∧ i < σ.length then some none else σ[i]?
  | σ, [], i => by simp [wipe]
  | σ, v :: vs, i => by
    rw [wipe_cons]
    by_cases h : v = i
    · subst h
      by_cases hl : v < σ.length
      · rw [List.getElem?_set_self (by rw [wipe_length]; exact hl), if_pos ⟨by simp, hl⟩]
      · rw [List.getElem?_eq_none (by rw [List.length_set, wipe_length]; omega), if_neg (fun z => hl z.2), List.getElem?_eq_none (by omega)]
    · rw [List.getElem?_set_ne h, wipe_get σ vs i]
      have : (i ∈ v :: vs) ↔ i ∈ vs := by
        simp only [List.mem_cons]
        exact ⟨fun z => z.resolve_left (fun e => h e.symm), .inr⟩
      simp only [this]
theorem wipe_set {σ : L2.St} {vs : List Nat} {i : Nat} {v : Option V} (h : i ∈ vs) : wipe (σ.set i v) vs = wipe σ vs := by
  apply List.ext_getElem?
  intro j
  rw [wipe_get, wipe_get]
  by_cases hj : i = j
  · subst hj
    by_cases hl : i < σ.length
    · rw [if_pos ⟨h, by simpa using hl⟩, if_pos ⟨h, hl⟩]
    · rw [if_neg (fun z => hl (by simpa using z.2)), if_neg (fun z => hl z.2)]
      rw [List.getElem?_eq_none (by simpa using Nat.le_of_not_lt hl), List.getElem?_eq_none (Nat.le_of_not_lt hl)]
  · rw [List.getElem?_set_ne hj]
    simp only [List.length_set]
def liftG (Γ : Gm) (K : PySem.W.Frag) (is : List Nat) (g : Gt) : TG := fun v σ H Q => ∃ w ρ x ρ', w.H = H ∧ Good Γ K w ∧ Slots K w σ ρ ∧ RW K w v x ∧ g x ρ w.S = some ρ' ∧
  ∀ σ1, Slots K w σ1 ρ' → (∀ vs : List Nat, (∀ i ∈ is, i ∈ vs) → wipe σ1 vs = wipe σ vs) → Q σ1 H
def liftGs (Γ : Gm) (K : PySem.W.Frag) (is : List Nat) (g : List W → Slt → Sto → Option Slt) : TGs := fun vs σ H Q => ∃ w ρ xs ρ', w.H = H ∧ Good Γ K w ∧ Slots K w σ ρ ∧ RWs K w vs xs ∧ g xs ρ w.S = some ρ' ∧
  ∀ σ1, Slots K w σ1 ρ' → (∀ vs : List Nat, (∀ i ∈ is, i ∈ vs) → wipe σ1 vs = wipe σ vs) → Q σ1 H
structure VG (Γ : Gm) (X : Cx) (e : Expr) (is : List Nat) (g : Gt) : Prop where
  pg : PG X e (liftG Γ X.K is g)
structure VGs (Γ : Gm) (X : Cx) (e : List Expr) (is : List Nat) (g : List W → Slt → Sto → Option Slt) : Prop where
  pg : PGs X e (liftGs Γ X.K is g)
theorem PG.mono {X : Cx} {e : Expr} {t t' : TG} (h : PG X e t) (i : ∀ v σ H Q, t' v σ H Q → t v σ H Q) : PG X e t' := ⟨fun pins s σ H v u Q I r q => h.run pins s σ H v u Q I r (i _ _ _ _ q)⟩
theorem PGs.mono {X : Cx} {e : List Expr} {t t' : TGs} (h : PGs X e t) (i : ∀ v σ H Q, t' v σ H Q → t v σ H Q) : PGs X e t' := ⟨fun pins s σ H v u Q I r q => h.run pins s σ H v u Q I r (i _ _ _ _ q)⟩
theorem PG.or {X : Cx} {e : Expr} {t t' : TG} (h : PG X e t) (h' : PG X e t') : PG X e (fun v σ H Q => t v σ H Q ∨ t' v σ H Q) := ⟨fun pins s σ H v u Q I r q => q.elim (h.run pins s σ H v u Q I r) (h'.run pins s σ H v u Q I r)⟩
def gNm (i : Nat) : Gt := fun x ρ _ => some (ρ.set i (some x))
theorem vg_name (i : Nat) {x : Str} (hN : X.N.Nodup) (hi : X.N[i]? = some x := by rfl) (hx : Loc X.env.scope x := by first | exact Or.inl rfl | exact Or.inr rfl) (hf : X.fn x = true ∨ X.env.scope.names.lookup x = some .local := by first | exact .inl rfl | exact .inr rfl) : VG Γ X (.Name x pos) [i] (gNm i) := by
  refine ⟨PG.mono (pg_name hN hi hx hf) fun v σ H Q ⟨w, ρ, x, ρ', e, G, s, r, eg, h⟩ => ?_⟩
  cases eg
  exact h _ (s.set r i) fun vs hv => wipe_set (hv i (by simp))
def gsNil : List W → Slt → Sto → Option Slt := fun xs ρ _ => match xs with
  | [] => some ρ
  | _ => none
def gsCons (g : Gt) (gs : List W → Slt → Sto → Option Slt) : List W → Slt → Sto → Option Slt := fun xs ρ S => match xs with
  | x :: r => match g x ρ S with
    | some ρ1 => gs r ρ1 S
    | none => none
  | [] => none
theorem vgs_nil : VGs Γ X [] [] gsNil := by
  refine ⟨PGs.mono pgs_nil fun v σ H Q ⟨w, ρ, xs, ρ', e, G, s, r, eg, h⟩ => ?_⟩
  cases xs with
  | nil => cases r; cases eg; exact ⟨rfl, h _ s fun _ _ => rfl⟩
  | cons x r => cases eg
theorem vgs_cons {e : Expr} {es : List Expr} {is js : List Nat} {g : Gt} {gs : List W → Slt → Sto → Option Slt} (h1 : VG Γ X e is g) (h2 : VGs Γ X es js gs)
    (hs : (assignEach (e :: es) X.env).map (·.2) = assign e X.env :: (assignEach es X.env).map (·.2) := by rfl) : VGs Γ X (e :: es) (is ++ js) (gsCons g gs) := by
  refine ⟨PGs.mono (pgs_cons h1.pg h2.pg hs) fun vs σ H Q ⟨w, ρ, xs, ρ', e, G, s, r, eg, h⟩ => ?_⟩
  unfold gsCons at eg
  cases xs with
  | nil => cases eg
  | cons x xr =>
    cases r with
    | cons q t =>
      dsimp only at eg
      split at eg
      · rename_i ρ1 e1
        refine ⟨_, _, rfl, w, ρ, x, ρ1, e, G, s, q, e1, fun σ1 s1 hw1 => ?_⟩
        refine ⟨w, ρ1, xr, ρ', e, G, s1, t, eg, fun σ2 s2 hw2 => h σ2 s2 fun vs hv => ?_⟩
        rw [hw2 vs (fun i hi => hv i (by simp [hi])), hw1 vs (fun i hi => hv i (by simp [hi]))]
      · cases eg
/-- a, b, .. = a tuple or a list -/
def gTp (n : Nat) (gs : List W → Slt → Sto → Option Slt) : Gt := fun x ρ S => match seqOf x S with
  | some ws => if ws.length = n then gs ws ρ S else none
  | none => none
theorem vg_tup {es : List Expr} {k : Nat} {is : List Nat} {gs : List W → Slt → Sto → Option Slt} {n : Nat} (h : VGs Γ X es is gs) (hc : X.calm = true := by rfl)
    (hn : (assignEach es X.env).length = n := by rfl) (hst : (assignEach es X.env).findIdx? (·.1) = none := by rfl) : VG Γ X (.Tuple es k pos) is (gTp n gs) := by
  refine ⟨PG.mono (PG.or (pg_tup hc h.pg hn hst) (pg_lst hc h.pg hn hst)) fun v σ H Q ⟨w, ρ, x, ρ', e, G, s, r, eg, k⟩ => ?_⟩
  unfold gTp at eg
  split at eg
  · rename_i ws e1
    split at eg
    · rename_i hl
      obtain ⟨a, vs, rfl, q, rr⟩ := seqOf_ok G r e1
      have e' := e
      subst e'
      rcases q with q | q
      · exact .inr ⟨a, vs, rfl, q, by rw [Paired.len rr]; exact hl, w, ρ, ws, ρ', rfl, G, s, rr, eg, k⟩
      · exact .inl ⟨a, vs, rfl, q, by rw [Paired.len rr]; exact hl, w, ρ, ws, ρ', rfl, G, s, rr, eg, k⟩
    · cases eg
  · cases eg
def fAsg (g : Gt) (f : Fe W) : Fs := fun ρ S => (f ρ S).fl ρ fun x S1 => match g x ρ S1 with
  | some ρ1 => .nx ρ1 S1
  | none => .bad
theorem vs_asg {tg e : Expr} {is : List Nat} {f : Fe W} {g : Gt} (he : VE Γ X Z e f) (hg : VG Γ X tg is g) (hs : swapsWithSole [tg] e pos.line X.env = pure false := by rfl) (hw : swappedStores [tg] e X.env = pure none := by rfl)
    (h1 : (assignEach [tg] X.env).map (·.2) = [assign tg X.env] := by rfl) : VS Γ X Z (.Assign [tg] e pos) (fAsg g f) := by
  refine ⟨PS.mono (ps_asg he.pe hg.pg hs hw h1) fun D σ H q => (liftS.out (R := RW X.K) (k := fun x ρ S1 => match g x ρ S1 with
    | some ρ1 => .nx ρ1 S1
    | none => .bad) q).imp fun v H1 ⟨x, w, ρ, e, G, s, r, p⟩ => ?_⟩
  split at p
  · rename_i ρ1 e1
    subst e
    exact ⟨w, ρ, x, ρ1, rfl, G, s, r, e1, fun σ1 s1 _ => PostS.nx_use p G s1⟩
  · exact p.elim
def fPar (i j : Nat) (f : Fe (List W)) : Fs := fun ρ S => (f ρ S).fl ρ fun xs S1 => match xs with
  | [x, y] => .nx ((ρ.set i (some x)).set j (some y)) S1
  | _ => .bad
theorem vs_par (i j : Nat) {x y : Str} {a b : Expr} {f : Fe (List W)} {px py pt : Pos} {kt k2 pt2} (ha : VA Γ X Z [a, b] f) (hN : X.N.Nodup) (hw : swappedStores [.Tuple [.Name x px, .Name y py] kt pt] (.Tuple [a, b] k2 pt2) X.env = pure (some [x, y]))
    (hc : X.calm = true := by rfl) (hi : X.N[i]? = some x := by rfl) (hj : X.N[j]? = some y := by rfl) (hij : i ≠ j := by decide)
    (hx : X.env.scope.names.lookup x = some .local := by rfl) (hy : X.env.scope.names.lookup y = some .local := by rfl)
    (hs : swapsWithSole [.Tuple [.Name x px, .Name y py] kt pt] (.Tuple [a, b] k2 pt2) pos.line X.env = pure false := by rfl) : VS Γ X Z (.Assign [.Tuple [.Name x px, .Name y py] kt pt] (.Tuple [a, b] k2 pt2) pos) (fPar i j f) := by
  refine ⟨PS.mono (ps_par hc hN hi hj hij hx hy ha.pa hw hs) fun D σ H q => (liftS.out (R := RWs X.K) (k := fun xs ρ S1 => match xs with
    | [x, y] => .nx ((ρ.set i (some x)).set j (some y)) S1
    | _ => .bad) q).imp fun v H1 ⟨xs, w, ρ, e, G, s, r, p⟩ => ?_⟩
  split at p
  · subst e
    obtain ⟨v1, v2, rfl, r1, r2⟩ := rws_two r
    exact ⟨v1, v2, rfl, PostS.nx_use p G ((s.set r1 i).set r2 j)⟩
  · exact p.elim
end
end G
set_option Elab.async false
set_option linter.all false
set_option maxRecDepth 100000
set_option maxHeartbeats 4000000
/-! G8: loops, comprehensions -/
namespace G
open PySem PySem.Spec L2
set_option autoImplicit false
/-! ### what is walked -/
structure WalkD (Γ : Gm) (K : PySem.W.Frag) (w : Wd) (J : It) (ds : List PyData) : Prop where
  ex : ∃ (G : Hp → Prop) (Y : Nat → Hp → V → Hp → Prop), Walk J ds.length G Y ∧ (∀ w', w.le w' → Good Γ K w' → G w'.H) ∧
    ∀ (i : Nat) (w' : Wd) (x : V) (H' : Hp), i < ds.length → w.le w' → Good Γ K w' → Y i w'.H x H' → ∃ w'', w''.H = H' ∧ w''.S = w'.S ∧ w'.le w'' ∧ Good Γ K w'' ∧ ∃ y, ds[i]? = some y ∧ RW K w'' x (.d y)
structure VI (Γ : Gm) (X : Cx) (Z : WX) (tg iter : Expr) (f : Fe (List PyData)) : Prop where
  pi : PI X tg iter (liftR Γ X.K Z (WalkD Γ X.K) f)
theorem PI.mono {X : Cx} {tg e : Expr} {t t' : TI} (h : PI X tg e t) (i : ∀ σ H Q, t' σ H Q → t σ H Q) : PI X tg e t' := ⟨fun pins s σ H R I q => h.run pins s σ H R I (i _ _ _ q)⟩
section
variable {Γ : Gm} {X : Cx} {Z : WX} {pos : Pos}
theorem walkD_tup {K : PySem.W.Frag} {w : Wd} {a : Addr} {xs : List V} {ds : List PyData} (q : SqT K w.im a xs) (d : DpAll K w.im xs ds) : WalkD Γ K w (Itt K a) ds := by
  have hl := Paired.len (DpAll.paired d)
  refine ⟨fun H => SqT K H a xs, YAt xs, ?_, fun w' l _ => SqT.mono (im_sub w') (SqT.mono l.im q), fun i w' x H' hi l G ⟨e1, e2⟩ => ?_⟩
  · rw [← hl]; exact walk_tup
  · subst e1
    refine ⟨w', rfl, rfl, Wd.le.refl _, G, ds[i], by simp [hi], ?_⟩
    obtain ⟨x', h1, h2⟩ := Paired.get (DpAll.paired d) (i := i) (y := ds[i]) (by simp [hi])
    rw [e2] at h1
    cases h1
    exact Dp.mono l.im h2
theorem walkD_lst {K : PySem.W.Frag} {w : Wd} {a : Addr} {xs : List V} {ds : List PyData} (q : SqL K w.im a xs) (d : DpAll K w.im xs ds) : WalkD Γ K w (Itl K a) ds := by
  have hl := Paired.len (DpAll.paired d)
  refine ⟨fun H => SqL K H a xs, YAt xs, ?_, fun w' l _ => SqL.mono (im_sub w') (SqL.mono l.im q), fun i w' x H' hi l G ⟨e1, e2⟩ => ?_⟩
  · rw [← hl]; exact walk_list
  · subst e1
    refine ⟨w', rfl, rfl, Wd.le.refl _, G, ds[i], by simp [hi], ?_⟩
    obtain ⟨x', h1, h2⟩ := Paired.get (DpAll.paired d) (i := i) (y := ds[i]) (by simp [hi])
    rw [e2] at h1
    cases h1
    exact Dp.mono l.im h2
theorem WalkD.mono {K : PySem.W.Frag} {w w1 : Wd} {J : It} {ds : List PyData} (l : w.le w1) (h : WalkD Γ K w J ds) : WalkD Γ K w1 J ds := by
  obtain ⟨G, Y, a, b, c⟩ := h.ex
  exact ⟨G, Y, a, fun w' l' g => b w' (l.trans l') g, fun i w' x H' hi l' g y => c i w' x H' hi (l.trans l') g y⟩
/-- the items as data, for good -/
def itemsOf (x : W) (S : Sto) : Option (List PyData × Sto) := match frz 6 x S with
  | some (.tuple ds, S1) => some (ds, S1)
  | some (.list ds, S1) => some (ds, S1)
  | _ => none
theorem itemsOf_ok {K : PySem.W.Frag} {w : Wd} {v : V} {x : W} {ds : List PyData} {S1 : Sto} (G : Good Γ K w) (r : RW K w v x) (h : itemsOf x w.S = some (ds, S1)) :
    Frz Γ K w S1 ∧ ∃ a xs, v = .ref a ∧ (SqT K (Wd.im ⟨w.μ, S1, w.H⟩) a xs ∨ SqL K (Wd.im ⟨w.μ, S1, w.H⟩) a xs) ∧ DpAll K (Wd.im ⟨w.μ, S1, w.H⟩) xs ds := by
  unfold itemsOf at h
  split at h
  · rename_i e
    cases h
    obtain ⟨F, d⟩ := frz_ok (Γ := Γ) 6 w v x _ _ G r e
    cases d with
    | tup q d => exact ⟨F, _, _, rfl, .inl q, d⟩
  · rename_i e
    cases h
    obtain ⟨F, d⟩ := frz_ok (Γ := Γ) 6 w v x _ _ G r e
    cases d with
    | lst q d => exact ⟨F, _, _, rfl, .inr q, d⟩
  · cases h
def fIt (f : Fe W) : Fe (List PyData) := fun ρ S => (f ρ S).bind fun x S1 => ofO (itemsOf x S1)
theorem it_lst {tg : Expr} {pins : List (Addr × Obj)} {σ : L2.St} {H1 : Hp} {s1 : Shared} {R : It → Hp → Prop} {a : Addr} {xs : List V} (I1 : Inv X pins σ H1 s1) (hq : SqL X.K H1 a xs) (q : R (Itl X.K a) H1) :
    wpAny (model X.prog X.w) X.A (pyIter (.ref a)) (PIE X pins σ tg R) X.xe s1 := by
  obtain ⟨its, rv, p, hz⟩ := I1.list hq
  refine wpAny_pyIter_list p.isList ?_
  refine ⟨s1.heap.objs.size, [s1.heap.objs.size], _, _, H1, rfl, I1.kept (t' := s1.toks) fun b o e => Heap.get?_push_of_some _ e, turn_list a _, ⟨_, Heap.get?_push_size _ rfl, rfl, rfl⟩, fun b hb => ?_, q⟩
  have e : b = s1.heap.objs.size := by simpa using hb
  subst e
  exact I1.fpOk (Nat.le_refl _) (I1.hok.fresh (Nat.le_refl _))
theorem it_tup {tg : Expr} {pins : List (Addr × Obj)} {σ : L2.St} {H1 : Hp} {s1 : Shared} {R : It → Hp → Prop} {a : Addr} {xs : List V} (I1 : Inv X pins σ H1 s1) (hq : SqT X.K H1 a xs) (q : R (Itt X.K a) H1) :
    wpAny (model X.prog X.w) X.A (pyIter (.ref a)) (PIE X pins σ tg R) X.xe s1 := by
  obtain ⟨its, rv, p, hz⟩ := I1.tuple hq
  refine wpAny_pyIter_tuple (show s1.heap.IsTuple a its.toArray from p) ?_
  refine ⟨s1.heap.objs.size, [s1.heap.objs.size], _, _, H1, rfl, I1.kept (t' := s1.toks) fun b o e => Heap.get?_push_of_some _ e, turn_tuple a _, ⟨_, Heap.get?_push_size _ rfl, rfl, rfl⟩, fun b hb => ?_, q⟩
  have e : b = s1.heap.objs.size := by simpa using hb
  subst e
  exact I1.fpOk (Nat.le_refl _) (I1.hok.fresh (Nat.le_refl _))
theorem vi_val {tg e : Expr} {f : Fe W} (h : VE Γ X Z e f) : VI Γ X Z tg e (fIt f) := by
  refine ⟨⟨fun pins s σ H R I q => ?_⟩⟩
  have h1 := seq1 (R := RW X.K) (R2 := WalkD Γ X.K) (k := fun x S => ofO (itemsOf x S)) q
  refine thn (h.pe.run pins s σ H _ I h1) fun u s1 ⟨v, H1, I1, r1, x, w, e, G, r, p⟩ => ?_
  subst e
  cases e : itemsOf x w.S with
  | none => rw [e] at p; exact p.elim
  | some y =>
    obtain ⟨ds, S1⟩ := y
    rw [e] at p
    obtain ⟨F, a, xs, rfl, q, d⟩ := itemsOf_ok G r e
    cases r1
    rcases q with q | q
    · have q' : SqT X.K w.H a xs := SqT.mono (im_sub ⟨w.μ, S1, w.H⟩) q
      exact it_tup I1 q' (p ⟨w.μ, S1, w.H⟩ (Itt X.K a) rfl F.le F.good (walkD_tup q d))
    · have q' : SqL X.K w.H a xs := SqL.mono (im_sub ⟨w.μ, S1, w.H⟩) q
      exact it_lst I1 q' (p ⟨w.μ, S1, w.H⟩ (Itl X.K a) rfl F.le F.good (walkD_lst q d))

/-! ### ranges -/
def rngD (lo : Int) (n : Nat) : List PyData := (List.range n).map fun i => .int (lo + (i : Nat))
theorem walkD_rng {K : PySem.W.Frag} {w : Wd} {lo : Int} {n : Nat} : WalkD Γ K w (Itr lo n) (rngD lo n) := by
  refine ⟨fun _ => True, YFn fun i => .int (lo + i), ?_, fun _ _ _ => trivial, fun i w' x H' hi l G ⟨e1, e2⟩ => ?_⟩
  · have : (rngD lo n).length = n := by simp [rngD]
    rw [this]; exact walk_range
  · subst e1
    have hi' : i < n := by simpa [rngD] using hi
    refine ⟨w', rfl, rfl, Wd.le.refl _, G, .int (lo + (i : Nat)), by simp [rngD, hi'], ?_⟩
    subst e2
    exact Dp.int _
def rOk (i : Int) : Bool := decide (-1000000 ≤ i ∧ i ≤ 1000000)
def fR1 (f : Fe (List W)) : Fe (List PyData) := fun ρ S => (f ρ S).bind fun xs S1 => match xs with
  | [.d (.int j)] => if rOk j = true then .ok (rngD 0 j.toNat) S1 else .bad
  | _ => .bad
theorem vi_r1 {tg a : Expr} {f : Fe (List W)} {p : Pos} (ha : VA Γ X Z [a] f) (hm : X.mg "range" = none) (hg : Gl X "range" := by rfl) (hs : starEach [a] X.env = [(false, eval a X.env)] := by rfl) : VI Γ X Z tg (.Call (.Name "range" p) [a] [] pos) (fR1 f) := by
  refine ⟨PI.mono (pi_range1 hg hm ha.pa hs) fun σ H R q => liftR.imp (seq1 (R := RWs X.K) (R2 := WalkD Γ X.K) q) fun vs H1 ⟨xs, w, e, G, r, p⟩ => ?_⟩
  subst e
  split at p
  · rename_i j
    split at p
    · rename_i hj
      obtain ⟨v, rfl, rv⟩ := rws_one r
      cases (show Dp X.K w.im v (.int j) from rv)
      have hj' : -1000000 ≤ j ∧ j ≤ 1000000 := of_decide_eq_true hj
      exact ⟨j, rfl, by omega, by omega, p.use (R := WalkD Γ X.K) G walkD_rng⟩
    · exact p.elim
  · exact p.elim
def fR2 (f : Fe (List W)) : Fe (List PyData) := fun ρ S => (f ρ S).bind fun xs S1 => match xs with
  | [.d (.int i), .d (.int j)] => if (rOk i && rOk j) = true then .ok (rngD i (j - i).toNat) S1 else .bad
  | _ => .bad
theorem vi_r2 {tg a b : Expr} {f : Fe (List W)} {p : Pos} (ha : VA Γ X Z [a, b] f) (hm : X.mg "range" = none) (hg : Gl X "range" := by rfl) (hs : starEach [a, b] X.env = [(false, eval a X.env), (false, eval b X.env)] := by rfl) (hs2 : starEach [b] X.env = [(false, eval b X.env)] := by rfl) :
    VI Γ X Z tg (.Call (.Name "range" p) [a, b] [] pos) (fR2 f) := by
  refine ⟨PI.mono (pi_range2 hg hm ha.pa hs hs2) fun σ H R q => liftR.imp (seq1 (R := RWs X.K) (R2 := WalkD Γ X.K) q) fun vs H1 ⟨xs, w, e, G, r, p⟩ => ?_⟩
  subst e
  split at p
  · rename_i i j
    split at p
    · rename_i hj
      obtain ⟨v, u, rfl, rv, ru⟩ := rws_two r
      cases (show Dp X.K w.im v (.int i) from rv)
      cases (show Dp X.K w.im u (.int j) from ru)
      rw [Bool.and_eq_true] at hj
      have h1 : -1000000 ≤ i ∧ i ≤ 1000000 := of_decide_eq_true hj.1
      have h2 : -1000000 ≤ j ∧ j ≤ 1000000 := of_decide_eq_true hj.2
      exact ⟨i, j, rfl, ⟨by omega, by omega, by omega, by omega⟩, p.use (R := WalkD Γ X.K) G walkD_rng⟩
    · exact p.elim
  · exact p.elim

/-! ### for -/
def forD (g : Gt) (b : Fs) : List PyData → Fs
  | [], ρ, S => .nx ρ S
  | d :: ds, ρ, S => match g (.d d) ρ S with
    | none => .bad
    | some ρ1 => match b ρ1 S with
      | .nx ρ2 S2 => forD g b ds ρ2 S2
      | .ct ρ2 S2 => forD g b ds ρ2 S2
      | .bk ρ2 S2 => .nx ρ2 S2
      | r => r
def fFor (f : Fe (List PyData)) (g : Gt) (b : Fs) : Fs := fun ρ S => (f ρ S).fl ρ fun ds S1 => forD g b ds ρ S1
theorem vs_for {tg iter : Expr} {body : List Stmt} {is : List Nat} {f : Fe (List PyData)} {g : Gt} {b : Fs} (hp : PassesOwn (model X.prog X.w) X.A X.env X.xe) (hi : VI Γ X Z tg iter f) (hg : VG Γ X tg is g) (hb : VB Γ X Z body b) (hc : X.calm = true := by rfl)
    (hs : ∀ x, foldedSetIterable iter X.env x = pure x := by intro _; rfl) : VS Γ X Z (.For tg iter body [] pos) (fFor f g b) := by
  refine ⟨PS.mono (ps_for hp hc hi.pi hg.pg hb.ps hs) fun D σ H q => (liftS.out (R := WalkD Γ X.K) (k := fun ds ρ S1 => forD g b ds ρ S1) q).imp fun J H1 ⟨ds, w, ρ, e, G, s, r, p⟩ => ?_⟩
  subst e
  obtain ⟨GG, Y, wk, hG, hY⟩ := r.ex
  refine for_it wk (fun i σ H => ∃ w' ρ', w'.H = H ∧ w.le w' ∧ Good Γ X.K w' ∧ Slots X.K w' σ ρ' ∧ PostS Γ X.K w' Z (forD g b (ds.drop i) ρ' w'.S) D) ⟨w, ρ, rfl, Wd.le.refl w, G, s, p⟩ ?_ ?_ ?_
  · rintro i σ H hi ⟨w', ρ', rfl, l, G', s', p'⟩
    exact hG w' l G'
  · rintro i x σ H H' hi ⟨w', ρ', rfl, l, G', s', p'⟩ y
    obtain ⟨w2, rfl, eS, l2, G2, z, hz, rz⟩ := hY i w' x H' hi l G' y
    have hd : ds.drop i = z :: ds.drop (i + 1) := by
      have hh : ds[i] = z := by
        rw [List.getElem?_eq_getElem hi] at hz
        exact Option.some.inj hz
      rw [← hh]
      exact List.drop_eq_getElem_cons hi
    rw [hd] at p'
    have p2 := PostS.mono l2 p'
    rw [← eS] at p2
    unfold forD at p2
    split at p2
    · exact p2.elim
    · rename_i ρ1 eg
      refine ⟨w2, ρ', .d z, ρ1, rfl, G2, s'.mono l2, rz, eg, fun σ1 s1 _ => ?_⟩
      refine ⟨w2, ρ1, rfl, G2, s1, ?_⟩
      cases eb : b ρ1 w2.S with
      | nx ρ2 S2 =>
        rw [eb] at p2
        intro w3 σ3 e3 l3 G3 s3
        subst e3
        exact ⟨w3, ρ2, rfl, l.trans (l2.trans l3), G3, s3, PostS.mono l3 p2⟩
      | ct ρ2 S2 =>
        rw [eb] at p2
        intro w3 σ3 e3 l3 G3 s3
        subst e3
        exact ⟨w3, ρ2, rfl, l.trans (l2.trans l3), G3, s3, PostS.mono l3 p2⟩
      | bk ρ2 S2 => rw [eb] at p2; exact p2
      | rt x S2 => rw [eb] at p2; exact p2
      | ex e ρ2 S2 => rw [eb] at p2; exact p2
      | bad => rw [eb] at p2; exact p2
  · rintro σ H ⟨w', ρ', rfl, l, G', s', p'⟩
    rw [List.drop_length] at p'
    exact PostS.nx_use p' G' s'

/-! ### while -/
def whD (c : Fe Bool) (b : Fs) : Nat → Fs
  | 0, _, _ => .bad
  | n + 1, ρ, S => (c ρ S).fl ρ fun t S1 => if t = true then (match b ρ S1 with
      | .nx ρ2 S2 => whD c b n ρ2 S2
      | .ct ρ2 S2 => whD c b n ρ2 S2
      | .bk ρ2 S2 => .nx ρ2 S2
      | r => r) else .nx ρ S1
open Classical in
noncomputable def fWh (c : Fe Bool) (b : Fs) : Fs := fun ρ S => if h : ∃ n, whD c b n ρ S ≠ .bad then whD c b h.choose ρ S else .bad
theorem whD_more {c : Fe Bool} {b : Fs} : ∀ {n m : Nat} {ρ : Slt} {S : Sto}, n ≤ m → whD c b n ρ S ≠ .bad → whD c b m ρ S = whD c b n ρ S
  | 0, _, _, _, _, h => absurd rfl h
  | n + 1, 0, _, _, hm, _ => by omega
  | n + 1, m + 1, ρ, S, hm, h => by
    unfold whD at h ⊢
    cases ec : c ρ S with
    | ok t S1 =>
      simp only [ec, Out.fl] at h ⊢
      cases t with
      | false => rfl
      | true =>
        simp only [if_true] at h ⊢
        cases eb : b ρ S1 with
        | nx ρ2 S2 =>
          simp only [eb] at h ⊢
          exact whD_more (by omega) h
        | ct ρ2 S2 =>
          simp only [eb] at h ⊢
          exact whD_more (by omega) h
        | bk _ _ => rfl
        | rt _ _ => rfl
        | ex _ _ _ => rfl
        | bad => rfl
    | ex e S1 => rfl
    | bad => rfl
theorem fWh_eq {c : Fe Bool} {b : Fs} {n : Nat} {ρ : Slt} {S : Sto} (h : whD c b n ρ S ≠ .bad) : fWh c b ρ S = whD c b n ρ S := by
  have hx : ∃ n, whD c b n ρ S ≠ .bad := ⟨n, h⟩
  unfold fWh
  rw [dif_pos hx]
  rcases Nat.le_total n hx.choose with z | z
  · exact whD_more z h
  · exact (whD_more z hx.choose_spec).symm
theorem fWh_ex {c : Fe Bool} {b : Fs} {ρ : Slt} {S : Sto} (h : fWh c b ρ S ≠ .bad) : ∃ n, fWh c b ρ S = whD c b n ρ S := by
  unfold fWh at h ⊢
  by_cases hx : ∃ n, whD c b n ρ S ≠ .bad
  · exact ⟨hx.choose, by rw [dif_pos hx]⟩
  · rw [dif_neg hx] at h
    exact absurd rfl h
theorem vs_while {c : Expr} {body : List Stmt} {t : Fe Bool} {b : Fs} (hp : PassesOwn (model X.prog X.w) X.A X.env X.xe) (hc : VT Γ X Z c t) (hb : VB Γ X Z body b) : VS Γ X Z (.While c body [] pos) (fWh t b) := by
  refine ⟨PS.mono (ps_while hp hc.pt hb.ps) fun D σ H ⟨w, ρ, e, G, s, p⟩ => ?_⟩
  subst e
  have hne : fWh t b ρ w.S ≠ .bad := fun z => by rw [z] at p; exact p
  obtain ⟨n, en⟩ := fWh_ex hne
  rw [en] at p
  refine ⟨fun m σ H => ∃ w' ρ', w'.H = H ∧ Good Γ X.K w' ∧ Slots X.K w' σ ρ' ∧ PostS Γ X.K w' Z (whD t b m ρ' w'.S) D, ⟨n, w, ρ, rfl, G, s, p⟩, ?_⟩
  rintro m σ H ⟨w', ρ', rfl, G', s', p'⟩
  cases m with
  | zero => exact p'.elim
  | succ m =>
    have q : liftS Γ X.K Z (fun ρ S => (t ρ S).fl ρ fun tt S1 => if tt = true then (match b ρ S1 with
      | .nx ρ2 S2 => whD t b m ρ2 S2
      | .ct ρ2 S2 => whD t b m ρ2 S2
      | .bk ρ2 S2 => .nx ρ2 S2
      | r => r) else .nx ρ S1) D σ w'.H := ⟨w', ρ', rfl, G', s', p'⟩
    refine (liftS.out (R := RB) (k := fun tt ρ S1 => if tt = true then (match b ρ S1 with
      | .nx ρ2 S2 => whD t b m ρ2 S2
      | .ct ρ2 S2 => whD t b m ρ2 S2
      | .bk ρ2 S2 => .nx ρ2 S2
      | r => r) else .nx ρ S1) q).imp fun v H1 ⟨x, w1, ρ1, e1, G1, s1, r1, p1⟩ => ?_
    cases (show v = x from r1)
    subst e1
    cases v with
    | false => exact iteF (PostS.nx_use p1 G1 s1)
    | true =>
      refine iteT ⟨fun σ' H' => ∃ w' ρ', w'.H = H' ∧ Good Γ X.K w' ∧ Slots X.K w' σ' ρ' ∧ PostS Γ X.K w' Z (whD t b m ρ' w'.S) D, fun σ' H' h => ⟨m, Nat.lt_succ_self m, h⟩, ?_⟩
      refine ⟨w1, ρ1, rfl, G1, s1, ?_⟩
      simp only [if_true] at p1
      cases eb : b ρ1 w1.S with
      | nx ρ2 S2 =>
        rw [eb] at p1
        intro w3 σ3 e3 l3 G3 s3
        subst e3
        exact ⟨w3, ρ2, rfl, G3, s3, PostS.mono l3 p1⟩
      | ct ρ2 S2 =>
        rw [eb] at p1
        intro w3 σ3 e3 l3 G3 s3
        subst e3
        exact ⟨w3, ρ2, rfl, G3, s3, PostS.mono l3 p1⟩
      | bk ρ2 S2 => rw [eb] at p1; exact p1
      | rt x S2 => rw [eb] at p1; exact p1
      | ex e ρ2 S2 => rw [eb] at p1; exact p1
      | bad => rw [eb] at p1; exact p1
end
end G
set_option Elab.async false
set_option linter.all false
set_option maxRecDepth 100000
set_option maxHeartbeats 4000000
/-! G9: list comprehensions -/
namespace G
open PySem PySem.Spec L2
set_option autoImplicit false
/-- a comprehension's loop, from any heap -/
theorem lcw {J : It} {n : Nat} {G : Hp → Prop} {Y : Nat → Hp → V → Hp → Prop} (w : Walk J n G Y) {g : TG} {tt : TT} {te : TE} {vs : List Nat} {σ : L2.St} {H0 : Hp} {D : Addr} {Qd : Hp → Prop} (Pv : Nat → Hp → Prop) (h0 : Pv 0 H0) (hG : ∀ i H, i ≤ n → Pv i H → G H)
    (hs : ∀ i x H H', i < n → Pv i H → Y i H x H' → g x (wipe σ vs) H' fun σ2 H2 => wipe σ2 vs = wipe σ vs ∧ tt σ2 H2 fun b H3 =>
      if b = true then te σ2 H3 fun y H4 => ∃ acc, H4 D = some (.lst acc) ∧ acc.length < sizeLine ∧ Pv (i + 1) (upd H4 D (.lst (acc ++ [y]))) else Pv (i + 1) H3) (hd : ∀ H, Pv n H → Qd H) :
    ∃ W : Nat → Nat → Hp → Prop, (∃ m, W 0 m H0) ∧ ∀ i m H, W i m H →
      (J.stop i H ∧ Qd H) ∨ (J.go i H ∧ ∃ Nx : Hp → Prop, (∀ H', Nx H' → ∃ m', m' < m ∧ W (i + 1) m' H') ∧ ∀ x H', J.yld i H x H' → g x (wipe σ vs) H' fun σ2 H2 => wipe σ2 vs = wipe σ vs ∧ tt σ2 H2 fun b H3 =>
        if b = true then te σ2 H3 fun y H4 => ∃ acc, H4 D = some (.lst acc) ∧ acc.length < sizeLine ∧ Nx (upd H4 D (.lst (acc ++ [y]))) else Nx H3) := by
  refine ⟨fun i m H => m = n - i ∧ i ≤ n ∧ Pv i H, ⟨n, by simp, Nat.zero_le _, h0⟩, ?_⟩
  rintro i m H ⟨rfl, hi, p⟩
  have q := hG i H hi p
  by_cases hlt : i < n
  · refine .inr ⟨w.goes i H hlt q, Pv (i + 1), fun H' p' => ⟨n - (i + 1), by omega, rfl, hlt, p'⟩, fun x H' y => hs i x H H' hlt p (w.yields i H x H' hlt q y)⟩
  · have e : i = n := by omega
    subst e
    exact .inl ⟨w.stops H q, hd H p⟩
abbrev noZ : WX := fun _ _ _ _ => False
def wipeR (ρ : Slt) : List Nat → Slt
  | [] => ρ
  | v :: vs => (wipeR ρ vs).set v none
theorem Slots.wipe {K : PySem.W.Frag} {w : Wd} {σ : L2.St} {ρ : Slt} (s : Slots K w σ ρ) : ∀ vs : List Nat, Slots K w (L2.wipe σ vs) (wipeR ρ vs)
  | [] => s
  | v :: vs => (Slots.wipe s vs).unset v
theorem wipe_idem (σ : L2.St) (vs : List Nat) : wipe (wipe σ vs) vs = wipe σ vs := by
  apply List.ext_getElem?
  intro j
  rw [wipe_get, wipe_get]
  by_cases h : j ∈ vs ∧ j < σ.length
  · rw [if_pos ⟨h.1, by rw [wipe_length]; exact h.2⟩, if_pos h]
  · rw [if_neg (fun z => h ⟨z.1, by rw [wipe_length] at z; exact z.2⟩), if_neg h]
def noX {α : Type} (r : Out α) : Out α := match r with
  | .ex _ _ => .bad
  | r => r
@[simp] theorem noX_ok {α : Type} (a : α) (S : Sto) : noX (Out.ok a S) = .ok a S := id rfl
@[simp] theorem noX_bad {α : Type} : noX (Out.bad : Out α) = .bad := id rfl
@[simp] theorem noX_ex {α : Type} (e : Exn) (S : Sto) : noX (Out.ex e S : Out α) = .bad := id rfl
def compD (g : Gt) (t : Fe Bool) (e : Fe W) (n : Nat) : List PyData → Slt → Sto → Out Unit
  | [], _, S => .ok () S
  | d :: ds, ρ, S => match g (.d d) ρ S with
    | none => .bad
    | some ρ1 => (t ρ1 S).bind fun b S1 => if b = true then (e ρ1 S1).bind fun y S2 => match S2[n]? with
        | some (.lst acc) => if szOk acc.length = true then compD g t e n ds ρ (S2.set n (.lst (acc ++ [y]))) else .bad
        | _ => .bad
      else compD g t e n ds ρ S1
def fLc (f : Fe (List PyData)) (g : Gt) (t : Fe Bool) (e : Fe W) (vs : List Nat) : Fe W := fun ρ S => (f ρ S).bind fun ds S1 =>
  (noX (compD g t e S1.length ds (wipeR ρ vs) (S1 ++ [.lst []]))).bind fun _ S2 => .ok (.o S1.length) S2
structure VTs (Γ : Gm) (X : Cx) (Z : WX) (ifs : List Expr) (f : Fe Bool) : Prop where
  pts : PTs X ifs (liftR Γ X.K Z RB f)
def fYes : Fe Bool := fun _ S => .ok true S
section
variable {Γ : Gm} {X : Cx} {Z : WX} {pos : Pos}
theorem vts_nil : VTs Γ X Z [] fYes := ⟨⟨fun pins s σ H Q I ⟨w, ρ, e, G, s', p⟩ => by subst e; exact pts_nil.run pins s σ _ Q I (Post.use (R := RB) p G rfl)⟩⟩
theorem vts_one {c : Expr} {f : Fe Bool} (h : VT Γ X Z c f) : VTs Γ X Z [c] f := ⟨pts_one h.pt⟩
abbrev RU (D : Addr) (n : Nat) : Wd → Unit → Unit → Prop := fun w _ _ => w.μ[n]? = some D
theorem Post.noS {α β : Type} {K : PySem.W.Frag} {R : Wd → β → α → Prop} {w : Wd} {σ σ' : L2.St} {r : Out α} {Q : β → Hp → Prop} (p : Post Γ K R w σ noZ r Q) : Post Γ K R w σ' noZ r Q := by
  cases r with
  | ok x S => exact p
  | ex e S => exact fun w1 c d e l g r => p w1 c d e l g r
  | bad => exact p
/-- one turn of a comprehension's loop -/
theorem turnC {g : Gt} {t : Fe Bool} {e : Fe W} {n : Nat} {vs is : List Nat} (his : ∀ i ∈ is, i ∈ vs) {D : Addr} {ds : List PyData} {z : PyData} {ρw : Slt} {σ : L2.St} {w2 : Wd} {x : V} {Qd : Hp → Prop} {Pn : Hp → Prop}
    (G2 : Good Γ X.K w2) (sw : Slots X.K w2 (wipe σ vs) ρw) (rz : RW X.K w2 x (.d z)) (hD : w2.μ[n]? = some D)
    (p : Post Γ X.K (RU D n) w2 σ noZ (compD g t e n (z :: ds) ρw w2.S) (fun _ H => Qd H))
    (hn : ∀ w', w2.le w' → Good Γ X.K w' → w'.μ[n]? = some D → Post Γ X.K (RU D n) w' σ noZ (compD g t e n ds ρw w'.S) (fun _ H => Qd H) → Pn w'.H) :
    liftG Γ X.K is g x (wipe σ vs) w2.H fun σ2 H2 => wipe σ2 vs = wipe σ vs ∧ liftR Γ X.K noZ RB t σ2 H2 fun b H3 =>
      if b = true then liftR Γ X.K noZ (RW X.K) e σ2 H3 fun y H4 => ∃ acc, H4 D = some (.lst acc) ∧ acc.length < sizeLine ∧ Pn (upd H4 D (.lst (acc ++ [y]))) else Pn H3 := by
  unfold compD at p
  split at p
  · exact p.elim
  · rename_i ρ1 eg
    refine ⟨w2, ρw, .d z, ρ1, rfl, G2, sw, rz, eg, fun σ1 s1 hw => ⟨(hw vs his).trans (wipe_idem σ vs), w2, ρ1, rfl, G2, s1, ?_⟩⟩
    refine (Post.noS (Post.bind (R := RB) p)).imp fun v H3 ⟨w3, b, e3, G3, l3, rb, p3⟩ => ?_
    subst e3
    cases (show v = b from rb)
    cases v with
    | false => exact iteF (hn w3 l3 G3 (l3.at hD) p3)
    | true =>
      simp only [if_true] at p3
      refine iteT ⟨w3, ρ1, rfl, G3, s1.mono l3, (Post.noS (Post.bind (R := RW X.K) p3)).imp fun y H4 ⟨w4, yy, e4, G4, l4, ry, p4⟩ => ?_⟩
      subst e4
      split at p4
      · rename_i acc ea
        split at p4
        · rename_i hz
          have hD4 : w4.μ[n]? = some D := l4.at (l3.at hD)
          obtain ⟨us, hu, ru⟩ := G4.cell n D _ hD4 ea
          refine ⟨us, hu, by rw [Paired.len ru]; exact sz_line hz, ?_⟩
          obtain ⟨G5, l5⟩ := G4.write (c' := .lst (acc ++ [yy])) hD4 ea rfl (.lst (us ++ [y])) (fun w1 l e => ⟨_, e, RWs.mono l (Paired.app ru (.cons ry .nil))⟩) rfl
          exact hn ⟨w4.μ, w4.S.set n (.lst (acc ++ [yy])), upd w4.H D (.lst (us ++ [y]))⟩ (l3.trans (l4.trans l5)) G5 hD4 (Post.mono l5 p4)
        · exact p4.elim
      · exact p4.elim
theorem lc_lift {f : Fe (List PyData)} {g : Gt} {t : Fe Bool} {e : Fe W} {vs is : List Nat} (his : ∀ i ∈ is, i ∈ vs) {σ : L2.St} {H : Hp} {Q : VK} (q : liftR Γ X.K Z (RW X.K) (fLc f g t e vs) σ H Q) :
    tLc (liftR Γ X.K Z (WalkD Γ X.K) f) (liftG Γ X.K is g) (liftR Γ X.K noZ RB t) (liftR Γ X.K noZ (RW X.K) e) vs σ H Q := by
  refine (liftR.bind (R := WalkD Γ X.K) (k := fun ds ρ S1 => (noX (compD g t e S1.length ds (wipeR ρ vs) (S1 ++ [.lst []]))).bind fun _ S2 => .ok (W.o S1.length) S2) q).imp fun J H1 ⟨ds, w, ρ, e1, G, s, r, p⟩ => ?_
  subst e1
  intro D hD
  obtain ⟨G1, l1⟩ := G.alloc (c := .lst []) hD (.lst []) (fun w1 l e => ⟨[], e, .nil⟩) rfl
  have hD1 : (Wd.mk (w.μ ++ [D]) (w.S ++ [.lst []]) (upd w.H D (.lst []))).μ[w.S.length]? = some D := by
    show (w.μ ++ [D])[w.S.length]? = _
    rw [← G.len]; simp
  have p1 : Post Γ X.K (RU D w.S.length) ⟨w.μ ++ [D], w.S ++ [.lst []], upd w.H D (.lst [])⟩ σ noZ (compD g t e w.S.length ds (wipeR ρ vs) (w.S ++ [.lst []])) (fun _ H => Q (.ref D) H) := by
    cases ec : compD g t e w.S.length ds (wipeR ρ vs) (w.S ++ [.lst []]) with
    | ok u S2 =>
      rw [ec] at p
      exact fun w2 v e2 l2 G2 r2 => p w2 (.ref D) e2 (l1.trans l2) G2 ⟨D, r2, rfl⟩
    | ex e S2 => rw [ec] at p; exact p.elim
    | bad => rw [ec] at p; exact p.elim
  obtain ⟨GG, Y, wk, hG, hY⟩ := r.ex
  refine lcw wk (fun i H => ∃ w', w'.H = H ∧ w.le w' ∧ Good Γ X.K w' ∧ w'.μ[w.S.length]? = some D ∧ Post Γ X.K (RU D w.S.length) w' σ noZ (compD g t e w.S.length (ds.drop i) (wipeR ρ vs) w'.S) (fun _ H => Q (.ref D) H))
    ⟨_, rfl, l1, G1, hD1, p1⟩ ?_ ?_ ?_
  · rintro i H hi ⟨w', rfl, l, G', hD', p'⟩
    exact hG w' l G'
  · rintro i x H H' hi ⟨w', rfl, l, G', hD', p'⟩ y
    obtain ⟨w2, rfl, eS, l2, G2, z, hz, rz⟩ := hY i w' x H' hi l G' y
    have hd : ds.drop i = z :: ds.drop (i + 1) := by
      have hh : ds[i] = z := by
        rw [List.getElem?_eq_getElem hi] at hz
        exact Option.some.inj hz
      rw [← hh]
      exact List.drop_eq_getElem_cons hi
    rw [hd] at p'
    have p2 := Post.mono l2 p'
    rw [← eS] at p2
    exact turnC his G2 ((s.mono (l.trans l2)).wipe vs) rz (l2.at hD') p2 fun w' l' G' hD' p' => ⟨w', rfl, l.trans (l2.trans l'), G', hD', p'⟩
  · rintro H ⟨w', rfl, l, G', hD', p'⟩
    rw [List.drop_length] at p'
    exact Post.use (R := RU D w.S.length) (v := ()) p' G' hD'
theorem ve_lc {elt tg iter : Expr} {ifs : List Expr} {scope : Scope} (own : List (Str × Nat)) {f : Fe (List PyData)} {g : Gt} {t : Fe Bool} {e : Fe W} {is : List Nat} (hN : X.N.Nodup) (hi : VI Γ X Z tg iter f) (ok : BlkOk X.N X.env.scope scope own)
    (hg : ∀ (s : Shared) (H : Hp) (C : Addr) (cl : List (Str × Addr)) (fp : List Addr), VG Γ (X.blk s H scope (compEnvC scope cl C X.env) fp) tg is g) (ht : ∀ (s : Shared) (H : Hp) (C : Addr) (cl : List (Str × Addr)) (fp : List Addr), VTs Γ (X.blk s H scope (compEnvC scope cl C X.env) fp) noZ ifs t)
    (he : ∀ (s : Shared) (H : Hp) (C : Addr) (cl : List (Str × Addr)) (fp : List Addr), VE Γ (X.blk s H scope (compEnvC scope cl C X.env) fp) noZ elt e) (his : ∀ i ∈ is, i ∈ own.map (·.2) := by decide) (hc : X.calm = true := by rfl) (hs : ∀ x, foldedSetIterable iter X.env x = pure x := by intro _; rfl) :
    VE Γ X Z (.ListComp elt [⟨tg, iter, ifs, 0⟩] scope pos) (fLc f g t e (own.map (·.2))) :=
  ⟨PE.mono (pe_lc (g := liftG Γ X.K is g) (tt := liftR Γ X.K noZ RB t) (te := liftR Γ X.K noZ (RW X.K) e) hc hN hi.pi ok (fun s H C cl fp => (hg s H C cl fp).pg) (fun s H C cl fp => (ht s H C cl fp).pts) (fun s H C cl fp => (he s H C cl fp).pe) hs) fun _ _ _ q => lc_lift (X := X) his q⟩
theorem vs_setLc (i : Nat) {y : Str} {py : Pos} {elt tg iter : Expr} {ifs : List Expr} {scope : Scope} (own : List (Str × Nat)) {spos : Pos} {f : Fe (List PyData)} {g : Gt} {t : Fe Bool} {e : Fe W} {is : List Nat} (hN : X.N.Nodup)
    (hsw : swapsWith (.ListComp elt [⟨tg, iter, ifs, 0⟩] scope pos) (some (.Name y py)) spos.line X.env = pure true) (hi : VI Γ X Z tg iter f) (ok : BlkOk X.N X.env.scope scope own)
    (hg : ∀ (s : Shared) (H : Hp) (C : Addr) (cl : List (Str × Addr)) (fp : List Addr), VG Γ (X.blk s H scope (compEnvC scope cl C X.env) fp) tg is g) (ht : ∀ (s : Shared) (H : Hp) (C : Addr) (cl : List (Str × Addr)) (fp : List Addr), VTs Γ (X.blk s H scope (compEnvC scope cl C X.env) fp) noZ ifs t)
    (he : ∀ (s : Shared) (H : Hp) (C : Addr) (cl : List (Str × Addr)) (fp : List Addr), VE Γ (X.blk s H scope (compEnvC scope cl C X.env) fp) noZ elt e) (his : ∀ i ∈ is, i ∈ own.map (·.2) := by decide) (hc : X.calm = true := by rfl) (hy : X.N[i]? = some y := by rfl) (hyl : X.env.scope.names.lookup y = some .local := by rfl) (hs : ∀ x, foldedSetIterable iter X.env x = pure x := by intro _; rfl) :
    VS Γ X Z (.Assign [.Name y py] (.ListComp elt [⟨tg, iter, ifs, 0⟩] scope pos) spos) (fSet i (fLc f g t e (own.map (·.2)))) := by
  refine ⟨PS.mono (ps_setLc (g := liftG Γ X.K is g) (tt := liftR Γ X.K noZ RB t) (te := liftR Γ X.K noZ (RW X.K) e) hc hN hy hyl hsw hi.pi ok (fun s H C cl fp => (hg s H C cl fp).pg) (fun s H C cl fp => (ht s H C cl fp).pts) (fun s H C cl fp => (he s H C cl fp).pe) hs) fun D σ H q => ?_⟩
  refine lc_lift (X := X) his ((liftS.out (R := RW X.K) (k := fun x ρ S1 => .nx (ρ.set i (some x)) S1) q).imp fun v H1 ⟨x, w, ρ, e, G, s, r, p⟩ => ?_)
  subst e
  exact PostS.nx_use p G (s.set r i)

/-! ### two for -/
def compD2 (g : Gt) (t : Fe Bool) (f1 : Fe (List PyData)) (g1 : Gt) (t1 : Fe Bool) (e : Fe W) (vs1 : List Nat) (n : Nat) : List PyData → Slt → Sto → Out Unit
  | [], _, S => .ok () S
  | d :: ds, ρ, S => match g (.d d) ρ S with
    | none => .bad
    | some ρ1 => (t ρ1 S).bind fun b S1 => if b = true then (f1 ρ1 S1).bind fun ds1 S2 => (compD g1 t1 e n ds1 (wipeR ρ1 vs1) S2).bind fun _ S3 => compD2 g t f1 g1 t1 e vs1 n ds ρ S3
      else compD2 g t f1 g1 t1 e vs1 n ds ρ S1
def fLc2 (f : Fe (List PyData)) (g : Gt) (t : Fe Bool) (f1 : Fe (List PyData)) (g1 : Gt) (t1 : Fe Bool) (e : Fe W) (vs vs1 : List Nat) : Fe W := fun ρ S => (f ρ S).bind fun ds S1 =>
  (noX (compD2 g t f1 g1 t1 e vs1 S1.length ds (wipeR ρ vs) (S1 ++ [.lst []]))).bind fun _ S2 => .ok (.o S1.length) S2
theorem Post.andThen {α β γ δ : Type} {K : PySem.W.Frag} {R : Wd → β → α → Prop} {R' : Wd → δ → γ → Prop} {w : Wd} {σ : L2.St} {r : Out α} {k : α → Sto → Out γ} {Q : δ → Hp → Prop} (p : Post Γ K R' w σ Z (r.bind k) Q) :
    Post Γ K R w σ Z r fun v H1 => ∃ w1 x, w1.H = H1 ∧ Good Γ K w1 ∧ w.le w1 ∧ R w1 v x ∧ Post Γ K R' w1 σ Z (k x w1.S) Q := Post.bind p
theorem lc2_lift {f : Fe (List PyData)} {g : Gt} {t : Fe Bool} {f1 : Fe (List PyData)} {g1 : Gt} {t1 : Fe Bool} {e : Fe W} {vs is vs1 is1 : List Nat} (his : ∀ i ∈ is, i ∈ vs) (his1 : ∀ i ∈ is1, i ∈ vs1) {σ : L2.St} {H : Hp} {Q : VK} (q : liftR Γ X.K Z (RW X.K) (fLc2 f g t f1 g1 t1 e vs vs1) σ H Q) :
    tLc2 (liftR Γ X.K Z (WalkD Γ X.K) f) (liftG Γ X.K is g) (liftR Γ X.K noZ RB t) (liftR Γ X.K noZ (WalkD Γ X.K) f1) (liftG Γ X.K is1 g1) (liftR Γ X.K noZ RB t1) (liftR Γ X.K noZ (RW X.K) e) vs vs1 σ H Q := by
  refine (liftR.bind (R := WalkD Γ X.K) (k := fun ds ρ S1 => (noX (compD2 g t f1 g1 t1 e vs1 S1.length ds (wipeR ρ vs) (S1 ++ [.lst []]))).bind fun _ S2 => .ok (W.o S1.length) S2) q).imp fun J H1 ⟨ds, w, ρ, e1, G, s, r, p⟩ => ?_
  subst e1
  intro D hD
  obtain ⟨G1, l1⟩ := G.alloc (c := .lst []) hD (.lst []) (fun w1 l e => ⟨[], e, .nil⟩) rfl
  have hD1 : (Wd.mk (w.μ ++ [D]) (w.S ++ [.lst []]) (upd w.H D (.lst []))).μ[w.S.length]? = some D := by
    show (w.μ ++ [D])[w.S.length]? = _
    rw [← G.len]; simp
  have p1 : Post Γ X.K (RU D w.S.length) ⟨w.μ ++ [D], w.S ++ [.lst []], upd w.H D (.lst [])⟩ σ noZ (compD2 g t f1 g1 t1 e vs1 w.S.length ds (wipeR ρ vs) (w.S ++ [.lst []])) (fun _ H => Q (.ref D) H) := by
    cases ec : compD2 g t f1 g1 t1 e vs1 w.S.length ds (wipeR ρ vs) (w.S ++ [.lst []]) with
    | ok u S2 =>
      rw [ec] at p
      exact fun w2 v e2 l2 G2 r2 => p w2 (.ref D) e2 (l1.trans l2) G2 ⟨D, r2, rfl⟩
    | ex e S2 => rw [ec] at p; exact p.elim
    | bad => rw [ec] at p; exact p.elim
  obtain ⟨GG, Y, wk, hG, hY⟩ := r.ex
  generalize hn : w.S.length = n at p1 hD1
  refine ⟨fun i m H => m = ds.length - i ∧ i ≤ ds.length ∧ ∃ w', w'.H = H ∧ w.le w' ∧ Good Γ X.K w' ∧ w'.μ[n]? = some D ∧ Post Γ X.K (RU D n) w' σ noZ (compD2 g t f1 g1 t1 e vs1 n (ds.drop i) (wipeR ρ vs) w'.S) (fun _ H => Q (.ref D) H),
    ⟨ds.length, by simp, Nat.zero_le _, _, rfl, l1, G1, hD1, p1⟩, ?_⟩
  rintro i m H ⟨rfl, hi, w', rfl, l, G', hD', p'⟩
  by_cases hlt : i < ds.length
  · refine .inr ⟨wk.goes i _ hlt (hG w' l G'), fun H => ∃ w', w'.H = H ∧ w.le w' ∧ Good Γ X.K w' ∧ w'.μ[n]? = some D ∧ Post Γ X.K (RU D n) w' σ noZ (compD2 g t f1 g1 t1 e vs1 n (ds.drop (i + 1)) (wipeR ρ vs) w'.S) (fun _ H => Q (.ref D) H), fun H' p' => ⟨ds.length - (i + 1), by omega, rfl, hlt, p'⟩, fun x H' y => ?_⟩
    obtain ⟨w2, rfl, eS, l2, G2, z, hz, rz⟩ := hY i w' x H' hlt l G' (wk.yields i _ x H' hlt (hG w' l G') y)
    have hd : ds.drop i = z :: ds.drop (i + 1) := by
      have hh : ds[i] = z := by
        rw [List.getElem?_eq_getElem hlt] at hz
        exact Option.some.inj hz
      rw [← hh]
      exact List.drop_eq_getElem_cons hlt
    rw [hd] at p'
    have p2 := Post.mono l2 p'
    rw [← eS] at p2
    unfold compD2 at p2
    split at p2
    · exact p2.elim
    · rename_i ρ1 eg
      have sw := (s.mono (l.trans l2)).wipe vs
      refine ⟨w2, wipeR ρ vs, .d z, ρ1, rfl, G2, sw, rz, eg, fun σ1 s1 hw => ⟨(hw vs his).trans (wipe_idem σ vs), w2, ρ1, rfl, G2, s1, ?_⟩⟩
      refine (Post.noS (Post.bind (R := RB) p2)).imp fun v H3 ⟨w3, b, e3, G3, l3, rb, p3⟩ => ?_
      subst e3
      cases (show v = b from rb)
      cases v with
      | false => exact iteF ⟨w3, rfl, l.trans (l2.trans l3), G3, l3.at (l2.at hD'), p3⟩
      | true =>
        simp only [if_true] at p3
        refine iteT ⟨w3, ρ1, rfl, G3, s1.mono l3, (Post.noS (Post.bind (R := WalkD Γ X.K) p3)).imp fun J1 H4 ⟨w4, ds1, e4, G4, l4, r1, p4⟩ => ?_⟩
        subst e4
        obtain ⟨GG1, Y1, wk1, hG1, hY1⟩ := r1.ex
        have hD4 : w4.μ[n]? = some D := l4.at (l3.at (l2.at hD'))
        have l04 : w.le w4 := l.trans (l2.trans (l3.trans l4))
        have p5 : Post Γ X.K (RU D n) w4 σ noZ (compD g1 t1 e n ds1 (wipeR ρ1 vs1) w4.S) (fun _ H => ∃ w', w'.H = H ∧ w.le w' ∧ Good Γ X.K w' ∧ w'.μ[n]? = some D ∧ Post Γ X.K (RU D n) w' σ noZ (compD2 g t f1 g1 t1 e vs1 n (ds.drop (i + 1)) (wipeR ρ vs) w'.S) (fun _ H => Q (.ref D) H)) := by
          refine (Post.bind (R := RU D n) p4).imp fun _ H5 ⟨w5, _, e5, G5, l5, h5, p5⟩ => ⟨w5, e5, l04.trans l5, G5, h5, p5⟩
        refine lcw wk1 (fun j H => ∃ w', w'.H = H ∧ w4.le w' ∧ Good Γ X.K w' ∧ w'.μ[n]? = some D ∧ Post Γ X.K (RU D n) w' σ1 noZ (compD g1 t1 e n (ds1.drop j) (wipeR ρ1 vs1) w'.S) (fun _ H => ∃ w', w'.H = H ∧ w.le w' ∧ Good Γ X.K w' ∧ w'.μ[n]? = some D ∧ Post Γ X.K (RU D n) w' σ noZ (compD2 g t f1 g1 t1 e vs1 n (ds.drop (i + 1)) (wipeR ρ vs) w'.S) (fun _ H => Q (.ref D) H)))
          ⟨w4, rfl, Wd.le.refl _, G4, hD4, p5.noS⟩ ?_ ?_ ?_
        · rintro j H hj ⟨w', rfl, l', G', hD', p'⟩
          exact hG1 w' l' G'
        · rintro j x H H' hj ⟨w', rfl, l', G', hD', p'⟩ y
          obtain ⟨w6, rfl, eS6, l6, G6, z6, hz6, rz6⟩ := hY1 j w' x H' hj l' G' y
          have hd6 : ds1.drop j = z6 :: ds1.drop (j + 1) := by
            have hh : ds1[j] = z6 := by
              rw [List.getElem?_eq_getElem hj] at hz6
              exact Option.some.inj hz6
            rw [← hh]
            exact List.drop_eq_getElem_cons hj
          rw [hd6] at p'
          have p6 := Post.mono l6 p'
          rw [← eS6] at p6
          exact turnC his1 G6 (((s1.mono l3).mono (l4.trans (l'.trans l6))).wipe vs1) rz6 (l6.at hD') p6 fun w' l'' G' hD' p' => ⟨w', rfl, l'.trans (l6.trans l''), G', hD', p'⟩
        · rintro H ⟨w', rfl, l', G', hD', p'⟩
          rw [List.drop_length] at p'
          exact Post.use (R := RU D n) (v := ()) p' G' hD'
  · have e : i = ds.length := by omega
    subst e
    rw [List.drop_length] at p'
    exact .inl ⟨wk.stops _ (hG w' l G'), Post.use (R := RU D n) (v := ()) p' G' hD'⟩
theorem ve_lc2 {elt tg iter tg1 iter1 : Expr} {ifs ifs1 : List Expr} {scope : Scope} (own : List (Str × Nat)) (vs1 : List Nat) {f f1 : Fe (List PyData)} {g g1 : Gt} {t t1 : Fe Bool} {e : Fe W} {is is1 : List Nat} (hN : X.N.Nodup) (hi : VI Γ X Z tg iter f) (ok : BlkOk X.N X.env.scope scope own)
    (hg : ∀ (s : Shared) (H : Hp) (C : Addr) (cl : List (Str × Addr)) (fp : List Addr), VG Γ (X.blk s H scope (compEnvC scope cl C X.env) fp) tg is g) (ht : ∀ (s : Shared) (H : Hp) (C : Addr) (cl : List (Str × Addr)) (fp : List Addr), VTs Γ (X.blk s H scope (compEnvC scope cl C X.env) fp) noZ ifs t)
    (hi1 : ∀ (s : Shared) (H : Hp) (C : Addr) (cl : List (Str × Addr)) (fp : List Addr), VI Γ (X.blk s H scope (compEnvC scope cl C X.env) fp) noZ tg1 iter1 f1)
    (hg1 : ∀ (s : Shared) (H : Hp) (C : Addr) (cl : List (Str × Addr)) (fp : List Addr), VG Γ (X.blk s H scope (compEnvC scope cl C X.env) fp) tg1 is1 g1) (ht1 : ∀ (s : Shared) (H : Hp) (C : Addr) (cl : List (Str × Addr)) (fp : List Addr), VTs Γ (X.blk s H scope (compEnvC scope cl C X.env) fp) noZ ifs1 t1)
    (he : ∀ (s : Shared) (H : Hp) (C : Addr) (cl : List (Str × Addr)) (fp : List Addr), VE Γ (X.blk s H scope (compEnvC scope cl C X.env) fp) noZ elt e) (his : ∀ i ∈ is, i ∈ own.map (·.2) := by decide) (his1 : ∀ i ∈ is1, i ∈ vs1 := by decide) (hv : ∀ i ∈ vs1, i ∈ own.map (·.2) := by decide) (hc : X.calm = true := by rfl) (hs : ∀ x, foldedSetIterable iter X.env x = pure x := by intro _; rfl) (hs1 : ∀ env x, foldedSetIterable iter1 env x = pure x := by intro _ _; rfl) :
    VE Γ X Z (.ListComp elt [⟨tg, iter, ifs, 0⟩, ⟨tg1, iter1, ifs1, 0⟩] scope pos) (fLc2 f g t f1 g1 t1 e (own.map (·.2)) vs1) :=
  ⟨PE.mono (pe_lc2 (g := liftG Γ X.K is g) (tt := liftR Γ X.K noZ RB t) (wi1 := liftR Γ X.K noZ (WalkD Γ X.K) f1) (g1 := liftG Γ X.K is1 g1) (tt1 := liftR Γ X.K noZ RB t1) (te := liftR Γ X.K noZ (RW X.K) e) hc hN hi.pi ok hv (fun s H C cl fp => (hg s H C cl fp).pg) (fun s H C cl fp => (ht s H C cl fp).pts) (fun s H C cl fp => (hi1 s H C cl fp).pi) (fun s H C cl fp => (hg1 s H C cl fp).pg) (fun s H C cl fp => (ht1 s H C cl fp).pts) (fun s H C cl fp => (he s H C cl fp).pe) hs hs1) fun _ _ _ q => lc2_lift (X := X) his his1 q⟩
end
end G
set_option Elab.async false
set_option linter.all false
set_option maxRecDepth 100000
set_option maxHeartbeats 4000000
/-! G10: enumerate, zip over lists and tuples -/
namespace G
open PySem PySem.Spec L2
set_option autoImplicit false
/-- a list or a tuple at a, by its items -/
def SqA (K : PySem.W.Frag) (tup : Bool) (H : Hp) (a : Addr) (xs : List V) : Prop := match tup with
  | true => SqT K H a xs
  | false => SqL K H a xs
def itAt (tup : Bool) (it a : Addr) (i : Nat) (h : Heap) : Prop := match tup with
  | true => h.IsTupleIter it a i
  | false => h.IsListIter it a i
def conAt (tup : Bool) (a : Addr) (items : Array Value) (h : Heap) : Prop := match tup with
  | true => h.IsTuple a items
  | false => h.IsList a items
def itObj (tup : Bool) (a : Addr) : Obj := match tup with
  | true => { cls := .type "tuple_iterator", data := .fields #[.ref a, .int 0 0] }
  | false => { cls := .type "list_iterator", data := .fields #[.ref a, .int 0 0] }
theorem itAt_obj {tup : Bool} {it a : Addr} {i : Nat} {h : Heap} (x : itAt tup it a i h) : ∃ o, h.get? it = some o ∧ ∀ v, o.data ≠ .cell v := by
  cases tup <;> (obtain ⟨o, h1, h2, h3⟩ := x; exact ⟨o, h1, fun v q => by rw [h3] at q; cases q⟩)
theorem itAt_keep {tup : Bool} {it a : Addr} {i : Nat} {h h' : Heap} (x : itAt tup it a i h) (k : ∀ o, h.get? it = some o → h'.get? it = some o) : itAt tup it a i h' := by
  cases tup <;> (obtain ⟨o, h1, h2, h3⟩ := x; exact ⟨o, k _ h1, h2, h3⟩)
theorem itAt_new {tup : Bool} {it a : Addr} {h : Heap} (x : h.get? it = some (itObj tup a)) : itAt tup it a 0 h := by
  cases tup <;> exact ⟨_, x, rfl, rfl⟩
theorem drawsA {P : Program} {w : World} {A : Around} (hh : A.handled = none) (tup : Bool) (it a : Addr) (hne : a ≠ it) (items : Array Value) :
    Draws P w A it [it, a] items.size (fun i v => items[i]? = some v) (fun i h => itAt tup it a i h ∧ conAt tup a items h) := by
  cases tup
  · exact Draws.list hh it a hne items
  · exact Draws.tuple hh it a hne items
theorem beginsA (tup : Bool) (a : Addr) (items : Array Value) : Begins (.ref a) (itObj tup a) (conAt tup a items) := by
  cases tup
  · exact begins_list a items
  · exact begins_tuple a items
section
variable {X : Cx} {pins : List (Addr × Obj)} {σ : L2.St} {H : Hp} {s : Shared}
theorem seqA_of {tup : Bool} {a : Addr} {xs : List V} (I : Inv X pins σ H s) (q : SqA X.K tup H a xs) : ∃ its : List Value, Vals xs its ∧ conAt tup a its.toArray s.heap ∧ xs.length ≤ sizeLine := by
  cases tup
  · obtain ⟨its, r, p, z⟩ := I.list q; exact ⟨its, r, p.isList, z⟩
  · obtain ⟨its, r, p, z⟩ := I.tuple q; exact ⟨its, r, p, z⟩
theorem seqA_inj {tup : Bool} {a : Addr} {xs ys : List V} (I : Inv X pins σ H s) (h : SqA X.K tup H a xs) (h' : SqA X.K tup H a ys) : xs = ys := by
  cases tup
  · exact I.list_inj h h'
  · exact I.tuple_inj h h'
theorem conAt_lt {tup : Bool} {a : Addr} {items : Array Value} {h : Heap} (x : conAt tup a items h) : a < h.objs.size := by
  cases tup
  · obtain ⟨o, e, _⟩ := x; exact Heap.lt_size e
  · obtain ⟨o, e, _⟩ := x; exact Heap.lt_size e
/-- behind a turn that laid a tuple -/
theorem inv_turnT {fp wr : List Addr} {T : Addr} {us : List Value} {vs : List V} {h' : Heap} {tk : Nat} (I : Inv X pins σ H s) (hf : ∀ b ∈ fp, FpOk X pins H b) (hw : ∀ b ∈ wr, b ∈ fp) (k : ∀ b o, b ∉ wr → s.heap.get? b = some o → h'.get? b = some o)
    (hT : s.heap.objs.size ≤ T) (tp : h'.IsTuple T us.toArray) (rv : Vals vs us) (hz : vs.length ≤ sizeLine) : Inv X pins σ (upd H T (.tup vs)) { s with heap := h', toks := tk } := by
  refine I.turnedNew (ch := fp) (fun b o hb e => k b o (fun z => hb (hw b z)) e) hf hT ?_
  exact ⟨hz, us, rv, tp⟩
end
/-! ### enumerate -/
def ItE (K : PySem.W.Frag) (tup : Bool) (a : Addr) : It :=
  ⟨fun i H => ∃ (xs : List V) (x : V), SqA K tup H a xs ∧ xs[i]? = some x, fun i H v H' => ∃ T x, v = .ref T ∧ H T = none ∧ H' = upd H T (.tup [.int (i : Nat), x]) ∧ ∀ xs, SqA K tup H a xs → xs[i]? = some x, fun i H => ∃ xs : List V, SqA K tup H a xs ∧ xs.length = i⟩
theorem turn_enumA {P : Program} {w : World} {K : PySem.W.Frag} {elts : List Expr} {kk : Nat} {tpos : Pos} (tup : Bool) (a e it : Addr) :
    Turn P w K (.Tuple elts kk tpos) (ItE K tup a) [e, it] e (fun i h => (∃ old, IsEnum h e it (0 + ((i : Nat) : Int)) old) ∧ itAt tup it a i h ∧ e ≠ it ∧ a ≠ e ∧ a ≠ it) where
  mem := by simp
  obj := fun i h st b hb => by
    obtain ⟨⟨old, he⟩, hi, _⟩ := st
    have e' : b = e ∨ b = it := by simpa using hb
    rcases e' with z | z
    · rw [z]; exact ⟨_, he, fun v q => nomatch q⟩
    · rw [z]; exact itAt_obj hi
  keep := fun i h h' st k => let ⟨⟨old, he⟩, hi, hne⟩ := st; ⟨⟨old, k e (by simp) _ he⟩, itAt_keep hi fun o q => k it (by simp) o q, hne⟩
  item := by
    intro X hP hw hK hc i pins s σ H E I hf st hg
    subst hP hw hK
    obtain ⟨⟨old, he⟩, hit, hne, h1, h2⟩ := st
    obtain ⟨xs, x, hq, hx⟩ := hg
    obtain ⟨its, rv, con, hz⟩ := seqA_of I hq
    obtain ⟨u, hu, ru⟩ := rv.get hx
    have W := GoesN.enumFrom (elts := elts) (x1 := kk) (pos := tpos) 0 (drawsA (P := X.prog) (w := X.w) (A := X.A.in1) (I.ok.hd hc) tup it a h2 its.toArray) e hne (by simp [hne, Ne.symm h1]) (by simp)
    have hi : i < its.toArray.size := by
      have := (List.getElem?_eq_some_iff.mp hu).1
      simpa using this
    refine wpAny_mono (W.goes i s (fun v s2 => ∃ x' H', Inv X pins σ H' s2 ∧ RelV x' v ∧ (ItE X.K tup a).yld i H x' H' ∧ ((∃ old, IsEnum s2.heap e it (0 + (((i + 1 : Nat)) : Int)) old) ∧ itAt tup it a (i + 1) s2.heap ∧ e ≠ it ∧ a ≠ e ∧ a ≠ it) ∧ ∀ b ∈ [e, it], H' b = none) E hi ⟨⟨old, he⟩, hit, con⟩ ?_) (fun r s1 ⟨v, e1, h3⟩ => ⟨v, e1, h3⟩) (fun _ _ h => h)
    rintro v h' tk ⟨T, t, y, rfl, hT, hy, tp⟩ ⟨⟨old', he'⟩, hit', _⟩ k htk
    have hyu : y = u := by
      have : its[i]? = some y := by simpa using hy
      rw [hu] at this; exact (Option.some.inj this).symm
    subst hyu
    have e0 : (0 : Int) + (i : Int) = (i : Int) := by omega
    rw [e0] at tp
    have I1 := inv_turnT I (tk := tk) (fp := [e, it]) (wr := [e, it]) (us := [.int (i : Nat) t, y]) (vs := [.int (i : Nat), x]) hf (fun _ h => h) k hT tp (.cons ⟨_, rfl⟩ (.cons ru .nil)) (by show 2 ≤ sizeLine; decide)
    refine ⟨.ref T, _, I1, rfl, ⟨T, x, rfl, I.hok.fresh hT, rfl, fun ys hy => by rw [seqA_inj I hy hq]; exact hx⟩, ⟨⟨old', he'⟩, hit', hne, h1, h2⟩, fun b hb => ?_⟩
    have hb' : b < s.heap.objs.size := by
      have e' : b = e ∨ b = it := by simpa using hb
      rcases e' with z | z
      · rw [z]; exact Heap.lt_size he
      · rw [z]; obtain ⟨o, q, _⟩ := itAt_obj hit; exact Heap.lt_size q
    rw [upd_ne (Nat.ne_of_lt (Nat.lt_of_lt_of_le hb' hT))]
    exact (hf b hb).1
  done := by
    intro X hP hw hK hc i pins s σ H E I hf st hg
    subst hP hw hK
    obtain ⟨⟨old, he⟩, hit, hne, h1, h2⟩ := st
    obtain ⟨xs, hq, hx⟩ := hg
    obtain ⟨its, rv, con, hz⟩ := seqA_of I hq
    have W := GoesN.enumFrom (elts := elts) (x1 := kk) (pos := tpos) 0 (drawsA (P := X.prog) (w := X.w) (A := X.A.in1) (I.ok.hd hc) tup it a h2 its.toArray) e hne (by simp [hne, Ne.symm h1]) (by simp)
    have hi : i = its.toArray.size := by
      have := rv.length
      simp; omega
    subst hi
    refine wpAny_mono (W.stops s (fun s1 => Inv X pins σ H s1) E ⟨⟨old, he⟩, hit, con⟩ fun h' tk k htk => ?_) (fun r s1 h => h) (fun _ _ h => h)
    exact I.turnedL (t' := tk) (ch := [e, it]) k hf
  self := fun A i s Q E st h => let ⟨⟨_, he⟩, _⟩ := st; wpAny_pyIter_enum he h
section
variable {Γ : Gm} {X : Cx} {Z : WX} {pos : Pos}
def enumD (ds : List PyData) : List PyData := (ds.zipIdx).map fun p => .tuple [.int (p.2 : Nat), p.1]
theorem walkE {K : PySem.W.Frag} {w : Wd} {tup : Bool} {a : Addr} {xs : List V} {ds : List PyData} (q : SqA K tup w.im a xs) (d : DpAll K w.im xs ds) : WalkD Γ K w (ItE K tup a) (enumD ds) := by
  have hl := Paired.len (DpAll.paired d)
  have hle : (enumD ds).length = ds.length := by simp [enumD]
  refine ⟨fun H => SqA K tup H a xs, fun i H x H' => (ItE K tup a).yld i H x H', ⟨fun i H hi q => ?_, fun H q => ⟨xs, q, by rw [hle]; exact hl⟩, fun i H x H' hi q y => y⟩, fun w' l _ => ?_, fun i w' x H' hi l G' ⟨T, y, e1, e2, e3, e4⟩ => ?_⟩
  · rw [hle, ← hl] at hi
    exact ⟨xs, xs[i], q, by simp [hi]⟩
  · cases tup
    · exact SqL.mono (im_sub w') (SqL.mono l.im q)
    · exact SqT.mono (im_sub w') (SqT.mono l.im q)
  · subst e1 e3
    rw [hle] at hi
    have qq : SqA K tup w'.H a xs := by
      cases tup
      · exact SqL.mono (im_sub w') (SqL.mono l.im q)
      · exact SqT.mono (im_sub w') (SqT.mono l.im q)
    have ey := e4 xs qq
    obtain ⟨x', h1, h2⟩ := Paired.get (DpAll.paired d) (i := i) (y := ds[i]) (by simp [hi])
    rw [ey] at h1
    cases h1
    obtain ⟨G1, l1⟩ := G'.new e2 (.tup [.int (i : Nat), y])
    refine ⟨⟨w'.μ, w'.S, upd w'.H T (.tup [.int (i : Nat), y])⟩, rfl, rfl, l1, G1, .tuple [.int (i : Nat), ds[i]], by simp [enumD, hi], ?_⟩
    exact Dp.tup (SqT.of (Wd.im_of (w := ⟨w'.μ, w'.S, upd w'.H T (.tup [.int (i : Nat), y])⟩) upd_same (fun z => G'.nin e2 (live_mem (w := ⟨w'.μ, w'.S, upd w'.H T (.tup [.int (i : Nat), y])⟩) z)) (fun ps z => by cases z))) (.cons (.int _) (.cons (Dp.mono (l.trans l1).im h2) .nil))
def fEn (f : Fe (List W)) : Fe (List PyData) := fun ρ S => (f ρ S).bind fun xs S1 => match xs with
  | [x] => (ofO (itemsOf x S1)).bind fun ds S2 => .ok (enumD ds) S2
  | _ => .bad
end
end G
namespace PySem
set_option maxHeartbeats 2000000 in
theorem g_enum_new1 {v : Value} {o : Obj} {H : Heap → Prop} (B : Begins v o H) :
    Meets (Builtin.«enumerate.__new__» ⟨[.type "enumerate", v], []⟩) (fun _ R s => H s.heap ∧
      R (.ok (.ret (.ref (s.heap.push o).objs.size))) { s with heap := (s.heap.push o).push { cls := .type "enumerate", data := .fields #[.none, .bool false, .ref s.heap.objs.size, rawInt 0, .none, .none] } }) :=
  .of_wp fun prog w A R s h => by
    obtain ⟨hp, g, d, tk, os⟩ := s; obtain ⟨h1, h⟩ := h
    have hsub := sub_enumerate
    have q1 : ∀ {A' : Around} {E : Value → Shared → Prop} {Q : Value → Shared → Prop}, Q (.ref hp.objs.size) ⟨hp.push o, g, d, tk, os⟩ → wpAny (model prog w) A' (pyIter v) Q E ⟨hp, g, d, tk, os⟩ :=
      fun q => B.iter prog w _ _ ⟨hp, g, d, tk, os⟩ _ h1 q
    wp_walk using q1
    refine wpAny_stack_any fun st => wpAny_pure ?_
    split
    · rename_i c _ _ _ _ _
      cases (c == Value.type "enumerate")
      · wp_walk using q1
        exact ⟨_, rfl, h⟩
      · wp_walk using q1
        exact ⟨_, rfl, h⟩
    · wp_walk using q1
      exact ⟨_, rfl, h⟩
section
variable {prog : Program} {w : World} {A : Around} {E : Value → Shared → Prop} {s : Shared}
theorem g_enum_begins {v : Value} {o : Obj} {H : Heap → Prop} {Q : Value → Shared → Prop} (B : Begins v o H) (h1 : H s.heap)
    (h : ∀ h', IsEnum h' (s.heap.objs.size + 1) s.heap.objs.size 0 .none → h'.get? s.heap.objs.size = some o → h'.objs.size = s.heap.objs.size + 2 →
      (∀ b o, s.heap.get? b = some o → h'.get? b = some o) → Q (.ref (s.heap.objs.size + 1)) { s with heap := h' }) :
    wpAny (model prog w) A (call (.type "enumerate") [v]) Q E s := by
  refine callType_new F.called_enumerate (by decide) (F.typeCall_enumerate_1 _) (F.newCall_enumerate_1 _) (fun obj => F.args_object_init_2 obj _) F.entry_enumerate_new
    (g_enum_new1 B) ⟨h1, ?_⟩
  have hz : (s.heap.push o).objs.size = s.heap.objs.size + 1 := Heap.size_push ..
  show _ ∧ _
  rw [hz]
  have he : IsEnum ((s.heap.push o).push { cls := .type "enumerate", data := .fields #[.none, .bool false, .ref s.heap.objs.size, rawInt 0, .none, .none] }) (s.heap.objs.size + 1) s.heap.objs.size 0 .none := by
    have := Heap.get?_push_size (s.heap.push o) (o := { cls := .type "enumerate", data := .fields #[.none, .bool false, .ref s.heap.objs.size, rawInt 0, .none, .none] }) rfl
    rw [hz] at this; exact this
  refine ⟨⟨_, he, rfl⟩, h _ he (Heap.get?_push_of_some _ (Heap.get?_push_size _ B.free)) (by rw [Heap.size_push, hz]) fun b o x => Heap.get?_push_of_some _ (Heap.get?_push_of_some _ x)⟩
end
end PySem
namespace G
open PySem PySem.Spec L2
section
variable {Γ : Gm} {X : Cx} {Z : WX} {pos : Pos}
theorem fresh_fp {pins : List (Addr × Obj)} {σ : L2.St} {H1 : Hp} {s1 : Shared} (I1 : Inv X pins σ H1 s1) {b : Addr} (h : s1.heap.objs.size ≤ b) : FpOk X pins H1 b := I1.fpOk h (I1.hok.fresh h)
theorem pi_enumA {e : Expr} {ta : TA} {p pos tpos : Pos} {elts : List Expr} {kk : Nat} (hg : Gl X "enumerate") (hm : X.mg "enumerate" = none) (ha : PA X [e] ta) (hs : starEach [e] X.env = [(false, eval e X.env)] := by rfl) :
    PI X (.Tuple elts kk tpos) (.Call (.Name "enumerate" p) [e] [] pos) (fun σ H R => ta σ H fun vs H1 => ∃ tup a xs, vs = [.ref a] ∧ SqA X.K tup H1 a xs ∧ R (ItE X.K tup a) H1) := by
  refine ⟨fun pins s σ H R I h => ?_⟩
  refine PyProof.Rows.Call_ (ld_blt I hg hm PyProof.Rows.boot_enumerate (PyProof.Rows.callWith_type1 (thn (ha.run pos pins s σ H _ I h) fun us s1 ⟨vs, H1, I1, r1, q1⟩ => ?_) hs rfl))
  obtain ⟨tup, a, xs, ex, hq, q⟩ := q1
  subst ex
  cases r1 with
  | cons r rr =>
    cases rr
    cases r
    obtain ⟨its, rv, con, hz⟩ := seqA_of I1 hq
    refine PySem.g_enum_begins (beginsA tup a its.toArray) con fun h' he hit hsz hk => wpAny_pyIter_enum he ?_
    have I2 : Inv X pins σ H1 { s1 with heap := h' } := I1.kept (t' := s1.toks) hk
    have lt := conAt_lt con
    refine ⟨s1.heap.objs.size + 1, [s1.heap.objs.size + 1, s1.heap.objs.size], _, _, H1, rfl, I2, turn_enumA tup a (s1.heap.objs.size + 1) s1.heap.objs.size, ⟨⟨.none, he⟩, itAt_new hit, Nat.succ_ne_self _, Nat.ne_of_lt (Nat.lt_succ_of_lt lt), Nat.ne_of_lt lt⟩, fun b hb => ?_, q⟩
    have e' : b = s1.heap.objs.size + 1 ∨ b = s1.heap.objs.size := by simpa using hb
    refine fresh_fp I1 ?_
    rcases e' with z | z
    · rw [z]; exact Nat.le_add_right _ _
    · rw [z]; exact Nat.le_refl _
theorem vi_enum {e : Expr} {f : Fe (List W)} {p tpos : Pos} {elts : List Expr} {kk : Nat} (ha : VA Γ X Z [e] f) (hm : X.mg "enumerate" = none) (hg : Gl X "enumerate" := by rfl) (hs : starEach [e] X.env = [(false, eval e X.env)] := by rfl) :
    VI Γ X Z (.Tuple elts kk tpos) (.Call (.Name "enumerate" p) [e] [] pos) (fEn f) := by
  refine ⟨PI.mono (pi_enumA hg hm ha.pa hs) fun σ H R q => liftR.imp (seq1 (R := RWs X.K) (R2 := WalkD Γ X.K) q) fun vs H1 ⟨xs, w, e, G, r, p⟩ => ?_⟩
  subst e
  split at p
  · rename_i x
    obtain ⟨v, rfl, rx⟩ := rws_one r
    cases e : itemsOf x w.S with
    | none => rw [e] at p; exact p.elim
    | some y =>
      obtain ⟨ds, S1⟩ := y
      rw [e] at p
      obtain ⟨F, a, xs, rfl, q, d⟩ := itemsOf_ok G rx e
      rcases q with q | q
      · exact ⟨true, a, xs, rfl, SqT.mono (im_sub ⟨w.μ, S1, w.H⟩) q, p ⟨w.μ, S1, w.H⟩ (ItE X.K true a) rfl F.le F.good (walkE (tup := true) q d)⟩
      · exact ⟨false, a, xs, rfl, SqL.mono (im_sub ⟨w.μ, S1, w.H⟩) q, p ⟨w.μ, S1, w.H⟩ (ItE X.K false a) rfl F.le F.good (walkE (tup := false) q d)⟩
  · exact p.elim
theorem off_ne {a N : Addr} (h : a < N) : a ≠ N := Nat.ne_of_lt h
theorem off_ne1 {a N : Addr} (h : a < N) : a ≠ N + 1 := Nat.ne_of_lt (Nat.lt_succ_of_lt h)
theorem off_ne2 {a N : Addr} (h : a < N) : a ≠ N + 2 := Nat.ne_of_lt (Nat.lt_succ_of_lt (Nat.lt_succ_of_lt h))
theorem rws_three {K : PySem.W.Frag} {w : Wd} {vs : List V} {x y z : W} (r : RWs K w vs [x, y, z]) : ∃ v u t, vs = [v, u, t] ∧ RW K w v x ∧ RW K w u y ∧ RW K w t z := by
  cases r with | cons q t => cases t with | cons q2 t => cases t with | cons q3 t => cases t; exact ⟨_, _, _, rfl, q, q2, q3⟩

/-! ### zip of 2 -/
def ItZ2 (K : PySem.W.Frag) (t1 t2 : Bool) (a1 a2 : Addr) : It :=
  ⟨fun i H => ∃ (xs1 xs2 : List V) (y1 y2 : V), SqA K t1 H a1 xs1 ∧ xs1[i]? = some y1 ∧ SqA K t2 H a2 xs2 ∧ xs2[i]? = some y2, fun i H v H' => ∃ T y1 y2, v = .ref T ∧ H T = none ∧ H' = upd H T (.tup [y1, y2]) ∧ (∀ xs, SqA K t1 H a1 xs → xs[i]? = some y1) ∧ (∀ xs, SqA K t2 H a2 xs → xs[i]? = some y2), fun i H => ∃ xs1 xs2 : List V, SqA K t1 H a1 xs1 ∧ SqA K t2 H a2 xs2 ∧ min xs1.length xs2.length = i⟩
theorem turn_zip2 {P : Program} {w : World} {K : PySem.W.Frag} {elts : List Expr} {kk : Nat} {tpos : Pos} (t1 t2 : Bool) (a1 a2 z TI TO i1 i2 : Addr) :
    Turn P w K (.Tuple elts kk tpos) (ItZ2 K t1 t2 a1 a2) [z, TI, TO, i1, i2] z (fun i h => IsZip h z TI TO .none ∧ IsTupOf2 h TI (.ref i1) (.ref i2) ∧ (∃ b1 b2, IsTupOf2 h TO b1 b2) ∧ itAt t1 i1 a1 i h ∧ itAt t2 i2 a2 i h ∧ ZipSep2 z TI TO i1 i2 [i1, a1] [i2, a2] ∧ a1 ≠ i1 ∧ a2 ≠ i2) where
  mem := by simp
  obj := fun i h st b hb => by
    obtain ⟨hz, hI, ⟨b1, b2, hO⟩, q1, q2, sp, _⟩ := st
    have e' : b = z ∨ b = TI ∨ b = TO ∨ b = i1 ∨ b = i2 := by simpa using hb
    rcases e' with e | e | e | e | e
    · rw [e]; exact ⟨_, hz, fun v q => nomatch q⟩
    · rw [e]; exact ⟨_, hI, fun v q => nomatch q⟩
    · rw [e]; exact ⟨_, hO, fun v q => nomatch q⟩
    · rw [e]; exact itAt_obj q1
    · rw [e]; exact itAt_obj q2
  keep := fun i h h' st k => by
    obtain ⟨hz, hI, ⟨b1, b2, hO⟩, q1, q2, sp⟩ := st
    exact ⟨k z (by simp) _ hz, k TI (by simp) _ hI, ⟨b1, b2, k TO (by simp) _ hO⟩, itAt_keep q1 (fun o q => k i1 (by simp) o q), itAt_keep q2 (fun o q => k i2 (by simp) o q), sp⟩
  item := by
    intro X hP hw hK hc i pins s σ H E I hf st hg
    subst hP hw hK
    obtain ⟨hz, hI, hO, q1, q2, sp, ne1, ne2⟩ := st
    obtain ⟨xs1, xs2, y1, y2, hq1, hx1, hq2, hx2⟩ := hg
    obtain ⟨its1, rv1, con1, hz1⟩ := seqA_of I hq1
    obtain ⟨u1, hu1, ru1⟩ := rv1.get hx1
    have lt1 : i < its1.toArray.size := by
      have := (List.getElem?_eq_some_iff.mp hu1).1
      simpa using this
    obtain ⟨its2, rv2, con2, hz2⟩ := seqA_of I hq2
    obtain ⟨u2, hu2, ru2⟩ := rv2.get hx2
    have lt2 : i < its2.toArray.size := by
      have := (List.getElem?_eq_some_iff.mp hu2).1
      simpa using this
    have W := GoesN.zip2 (elts := elts) (x1 := kk) (pos := tpos) sp (drawsA (P := X.prog) (w := X.w) (A := X.A.in1) (I.ok.hd hc) t1 i1 a1 ne1 its1.toArray) (drawsA (P := X.prog) (w := X.w) (A := X.A.in1) (I.ok.hd hc) t2 i2 a2 ne2 its2.toArray)
    refine wpAny_mono (W.goes i s (fun v s2 => ∃ x' H', Inv X pins σ H' s2 ∧ RelV x' v ∧ (ItZ2 X.K t1 t2 a1 a2).yld i H x' H' ∧ (IsZip s2.heap z TI TO .none ∧ IsTupOf2 s2.heap TI (.ref i1) (.ref i2) ∧ (∃ b1 b2, IsTupOf2 s2.heap TO b1 b2) ∧ itAt t1 i1 a1 (i + 1) s2.heap ∧ itAt t2 i2 a2 (i + 1) s2.heap ∧ ZipSep2 z TI TO i1 i2 [i1, a1] [i2, a2] ∧ a1 ≠ i1 ∧ a2 ≠ i2) ∧ ∀ b ∈ [z, TI, TO, i1, i2], H' b = none) E (by omega) ⟨hz, hI, hO, ⟨q1, con1⟩, ⟨q2, con2⟩⟩ ?_) (fun r s1 ⟨v, e1, h3⟩ => ⟨v, e1, h3⟩) (fun _ _ h => h)
    rintro v h' tk ⟨T, z1, z2, rfl, hT, e1, e2, tp⟩ ⟨hz', hI', hO', ⟨q1', _⟩, ⟨q2', _⟩⟩ k htk
    have ee1 : z1 = u1 := by
      have : its1[i]? = some z1 := by simpa using e1
      rw [hu1] at this; exact (Option.some.inj this).symm
    subst ee1
    have ee2 : z2 = u2 := by
      have : its2[i]? = some z2 := by simpa using e2
      rw [hu2] at this; exact (Option.some.inj this).symm
    subst ee2
    have I1 := inv_turnT I (tk := tk) (fp := [z, TI, TO, i1, i2]) (wr := [z, TO, i1, i2]) (us := [z1, z2]) (vs := [y1, y2]) hf (by simp) k hT tp (.cons ru1 (.cons ru2 (.nil))) (by show 2 ≤ sizeLine; decide)
    refine ⟨.ref T, _, I1, rfl, ⟨T, y1, y2, rfl, I.hok.fresh hT, rfl, (fun ys hy => by rw [seqA_inj I hy hq1]; exact hx1), (fun ys hy => by rw [seqA_inj I hy hq2]; exact hx2)⟩, ⟨hz', hI', hO', q1', q2', sp, ne1, ne2⟩, fun b hb => ?_⟩
    have hb' : b < s.heap.objs.size := by
      obtain ⟨b1, b2, hO⟩ := hO
      have e' : b = z ∨ b = TI ∨ b = TO ∨ b = i1 ∨ b = i2 := by simpa using hb
      rcases e' with e | e | e | e | e
      · rw [e]; exact Heap.lt_size hz
      · rw [e]; exact Heap.lt_size hI
      · rw [e]; exact Heap.lt_size hO
      · rw [e]; obtain ⟨o, q, _⟩ := itAt_obj q1; exact Heap.lt_size q
      · rw [e]; obtain ⟨o, q, _⟩ := itAt_obj q2; exact Heap.lt_size q
    rw [upd_ne (Nat.ne_of_lt (Nat.lt_of_lt_of_le hb' hT))]
    exact (hf b hb).1
  done := by
    intro X hP hw hK hc i pins s σ H E I hf st hg
    subst hP hw hK
    obtain ⟨hz, hI, hO, q1, q2, sp, ne1, ne2⟩ := st
    obtain ⟨xs1, xs2, hq1, hq2, hx⟩ := hg
    obtain ⟨its1, rv1, con1, hz1⟩ := seqA_of I hq1
    have ln1 : its1.toArray.size = xs1.length := by have := rv1.length; simp; omega
    obtain ⟨its2, rv2, con2, hz2⟩ := seqA_of I hq2
    have ln2 : its2.toArray.size = xs2.length := by have := rv2.length; simp; omega
    have W := GoesN.zip2 (elts := elts) (x1 := kk) (pos := tpos) sp (drawsA (P := X.prog) (w := X.w) (A := X.A.in1) (I.ok.hd hc) t1 i1 a1 ne1 its1.toArray) (drawsA (P := X.prog) (w := X.w) (A := X.A.in1) (I.ok.hd hc) t2 i2 a2 ne2 its2.toArray)
    rw [ln1, ln2, hx] at W
    refine wpAny_mono (W.stops s (fun s1 => Inv X pins σ H s1) E ⟨hz, hI, hO, ⟨q1, con1⟩, ⟨q2, con2⟩⟩ fun h' tk k htk => ?_) (fun r s1 h => h) (fun _ _ h => h)
    exact I.turnedL (t' := tk) (ch := [z, TI, TO, i1, i2]) (fun b o hb e => k b o (fun z => hb (by simp at z ⊢; rcases z with z | z | z | z <;> simp [z])) e) hf
  self := fun A i s Q E st h => wpAny_pyIter_zip st.1 h
def zipD2 (ds1 ds2 : List PyData) : List PyData := (ds1.zip ds2).map fun p => .tuple [p.1, p.2]
theorem walkZ2 {K : PySem.W.Frag} {w : Wd} {t1 t2 : Bool} {a1 a2 : Addr} {xs1 xs2 : List V} {ds1 ds2 : List PyData} (q1 : SqA K t1 w.im a1 xs1) (d1 : DpAll K w.im xs1 ds1) (q2 : SqA K t2 w.im a2 xs2) (d2 : DpAll K w.im xs2 ds2) : WalkD Γ K w (ItZ2 K t1 t2 a1 a2) (zipD2 ds1 ds2) := by
  have hl1 := Paired.len (DpAll.paired d1)
  have hl2 := Paired.len (DpAll.paired d2)
  have hle : (zipD2 ds1 ds2).length = min xs1.length xs2.length := by simp [zipD2, hl1, hl2]
  have up : ∀ {t : Bool} {a : Addr} {xs : List V} (w' : Wd), w.le w' → SqA K t w.im a xs → SqA K t w'.H a xs := fun {t a xs} w' l q => by
    cases t
    · exact SqL.mono (im_sub w') (SqL.mono l.im q)
    · exact SqT.mono (im_sub w') (SqT.mono l.im q)
  refine ⟨fun H => SqA K t1 H a1 xs1 ∧ SqA K t2 H a2 xs2, fun i H x H' => (ItZ2 K t1 t2 a1 a2).yld i H x H', ⟨fun i H hi ⟨q1, q2⟩ => ?_, fun H ⟨q1, q2⟩ => ⟨xs1, xs2, q1, q2, hle.symm⟩, fun i H x H' hi q y => y⟩, fun w' l _ => ⟨up w' l q1, up w' l q2⟩, fun i w' x H' hi l G' ⟨T, y1, y2, e1, e2, e3, f1, f2⟩ => ?_⟩
  · rw [hle] at hi
    have h1 : i < xs1.length := by omega
    have h2 : i < xs2.length := by omega
    exact ⟨xs1, xs2, xs1[i], xs2[i], q1, by simp [h1], q2, by simp [h2]⟩
  · subst e1 e3
    rw [hle] at hi
    have i1 : i < ds1.length := by omega
    have ey1 := f1 xs1 (up w' l q1)
    obtain ⟨x1, m1, p1⟩ := Paired.get (DpAll.paired d1) (i := i) (y := ds1[i]) (by simp [i1])
    rw [ey1] at m1
    cases m1
    have i2 : i < ds2.length := by omega
    have ey2 := f2 xs2 (up w' l q2)
    obtain ⟨x2, m2, p2⟩ := Paired.get (DpAll.paired d2) (i := i) (y := ds2[i]) (by simp [i2])
    rw [ey2] at m2
    cases m2
    obtain ⟨G1, l1⟩ := G'.new e2 (.tup [y1, y2])
    refine ⟨⟨w'.μ, w'.S, upd w'.H T (.tup [y1, y2])⟩, rfl, rfl, l1, G1, .tuple [ds1[i], ds2[i]], by simp [zipD2, i1, i2, List.getElem?_zip_eq_some], ?_⟩
    exact Dp.tup (SqT.of (Wd.im_of (w := ⟨w'.μ, w'.S, upd w'.H T (.tup [y1, y2])⟩) upd_same (fun z => G'.nin e2 (live_mem (w := ⟨w'.μ, w'.S, upd w'.H T (.tup [y1, y2])⟩) z)) (fun ps z => by cases z))) (.cons (Dp.mono (l.trans l1).im p1) (.cons (Dp.mono (l.trans l1).im p2) (.nil)))
theorem pi_zip2 {c1 c2 : Expr} {ta : TA} {p pos tpos : Pos} {elts : List Expr} {kk : Nat} (hg : Gl X "zip") (hm : X.mg "zip" = none) (ha : PA X [c1, c2] ta) (hs : starEach [c1, c2] X.env = (false, eval c1 X.env) :: starEach [c2] X.env := by rfl) (hpl : (backTo pos (starEach [c2] X.env)).any (·.1) = false := by rfl) :
    PI X (.Tuple elts kk tpos) (.Call (.Name "zip" p) [c1, c2] [] pos) (fun σ H R => ta σ H fun vs H1 => ∃ t1 t2 a1 a2 xs1 xs2, vs = [.ref a1, .ref a2] ∧ SqA X.K t1 H1 a1 xs1 ∧ SqA X.K t2 H1 a2 xs2 ∧ R (ItZ2 X.K t1 t2 a1 a2) H1) := by
  refine ⟨fun pins s σ H R I h => ?_⟩
  refine PyProof.Rows.Call_ (ld_blt I hg hm PyProof.Rows.boot_zip (PyProof.Rows.callWith_type1 (thn (ha.run pos pins s σ H _ I h) fun us s1 ⟨vs, H1, I1, r1, q1⟩ => ?_) hs hpl))
  obtain ⟨t1, t2, a1, a2, xs1, xs2, ex, hq1, hq2, q⟩ := q1
  subst ex
  cases r1 with
  | cons r r1 =>
    cases r
    cases r1 with
    | cons r r1 =>
      cases r
      cases r1
      obtain ⟨its1, rv1, con1, hz1⟩ := seqA_of I1 hq1
      have lt1 := conAt_lt con1
      obtain ⟨its2, rv2, con2, hz2⟩ := seqA_of I1 hq2
      have lt2 := conAt_lt con2
      refine PySem.zip_begins2 (beginsA t1 a1 its1.toArray) (beginsA t2 a2 its2.toArray) con1 con2 fun h' hzz hI hO hi1 hi2 hsz hk => wpAny_pyIter_zip hzz ?_
      have I2 : Inv X pins σ H1 { s1 with heap := h' } := I1.kept (t' := s1.toks) hk
      have sp := PySem.zip_sep2 (N := s1.heap.objs.size) (fp1 := [a1]) (fp2 := [a2]) (by simpa using lt1) (by simpa using lt2)
      refine ⟨s1.heap.objs.size + 4, [s1.heap.objs.size + 4, s1.heap.objs.size + 2, s1.heap.objs.size + 3, s1.heap.objs.size, s1.heap.objs.size + 1], _, _, H1, rfl, I2, turn_zip2 t1 t2 a1 a2 (s1.heap.objs.size + 4) (s1.heap.objs.size + 2) (s1.heap.objs.size + 3) (s1.heap.objs.size) (s1.heap.objs.size + 1), ⟨hzz, hI, ⟨_, _, hO⟩, itAt_new hi1, itAt_new hi2, sp, off_ne lt1, off_ne1 lt2⟩, fun b hb => ?_, q⟩
      refine fresh_fp I1 ?_
      have e' : b = s1.heap.objs.size + 4 ∨ b = s1.heap.objs.size + 2 ∨ b = s1.heap.objs.size + 3 ∨ b = s1.heap.objs.size ∨ b = s1.heap.objs.size + 1 := by simpa using hb
      rcases e' with e | e | e | e | e <;> rw [e]
      all_goals first | exact Nat.le_refl _ | exact Nat.le_add_right _ _
def fZ2 (f : Fe (List W)) : Fe (List PyData) := fun ρ S => (f ρ S).bind fun xs S1 => match xs with
  | [x1, x2] => (ofO (itemsOf x1 S1)).bind fun ds1 S2 => (ofO (itemsOf x2 S2)).bind fun ds2 S3 => .ok (zipD2 ds1 ds2) S3
  | _ => .bad
theorem vi_zip2 {c1 c2 : Expr} {f : Fe (List W)} {p tpos : Pos} {elts : List Expr} {kk : Nat} (ha : VA Γ X Z [c1, c2] f) (hm : X.mg "zip" = none) (hg : Gl X "zip" := by rfl) (hs : starEach [c1, c2] X.env = (false, eval c1 X.env) :: starEach [c2] X.env := by rfl) (hpl : (backTo pos (starEach [c2] X.env)).any (·.1) = false := by rfl) :
    VI Γ X Z (.Tuple elts kk tpos) (.Call (.Name "zip" p) [c1, c2] [] pos) (fZ2 f) := by
  refine ⟨PI.mono (pi_zip2 hg hm ha.pa hs hpl) fun σ H R q => liftR.imp (seq1 (R := RWs X.K) (R2 := WalkD Γ X.K) q) fun vs H1 ⟨xs, w, e, G, r, p⟩ => ?_⟩
  subst e
  split at p
  · rename_i x1 x2
    obtain ⟨v1, v2, rfl, r1, r2⟩ := rws_two r
    cases e1 : itemsOf x1 w.S with
    | none => rw [e1] at p; exact p.elim
    | some y =>
      obtain ⟨ds1, T1⟩ := y
      rw [e1] at p
      simp only [ofO, Out.bind] at p
      obtain ⟨F1, a1, xs1, hv1, q1, d1⟩ := itemsOf_ok G r1 e1
      cases e2 : itemsOf x2 T1 with
      | none => rw [e2] at p; exact p.elim
      | some y =>
        obtain ⟨ds2, T2⟩ := y
        rw [e2] at p
        simp only [ofO, Out.bind] at p
        obtain ⟨F2, a2, xs2, hv2, q2, d2⟩ := itemsOf_ok F1.good (RW.mono F1.le r2) e2
        have g1 : ∃ t, SqA X.K t (Wd.im ⟨w.μ, T2, w.H⟩) a1 xs1 := q1.elim (fun q => ⟨true, SqT.mono F2.le.im q⟩) (fun q => ⟨false, SqL.mono F2.le.im q⟩)
        replace d1 := DpAll.mono F2.le.im d1
        have g2 : ∃ t, SqA X.K t (Wd.im ⟨w.μ, T2, w.H⟩) a2 xs2 := q2.elim (fun q => ⟨true, q⟩) (fun q => ⟨false, q⟩)
        obtain ⟨t1, g1⟩ := g1
        obtain ⟨t2, g2⟩ := g2
        subst hv1 hv2
        have dn : ∀ {t : Bool} {a : Addr} {xs : List V}, SqA X.K t (Wd.im ⟨w.μ, T2, w.H⟩) a xs → SqA X.K t w.H a xs := fun {t a xs} q => by
          cases t
          · exact SqL.mono (im_sub ⟨w.μ, T2, w.H⟩) q
          · exact SqT.mono (im_sub ⟨w.μ, T2, w.H⟩) q
        exact ⟨t1, t2, a1, a2, xs1, xs2, rfl, dn g1, dn g2, p ⟨w.μ, T2, w.H⟩ (ItZ2 X.K t1 t2 a1 a2) rfl (F1.le.trans F2.le) F2.good (walkZ2 g1 d1 g2 d2)⟩
  · exact p.elim

/-! ### zip of 3 -/
def ItZ3 (K : PySem.W.Frag) (t1 t2 t3 : Bool) (a1 a2 a3 : Addr) : It :=
  ⟨fun i H => ∃ (xs1 xs2 xs3 : List V) (y1 y2 y3 : V), SqA K t1 H a1 xs1 ∧ xs1[i]? = some y1 ∧ SqA K t2 H a2 xs2 ∧ xs2[i]? = some y2 ∧ SqA K t3 H a3 xs3 ∧ xs3[i]? = some y3, fun i H v H' => ∃ T y1 y2 y3, v = .ref T ∧ H T = none ∧ H' = upd H T (.tup [y1, y2, y3]) ∧ (∀ xs, SqA K t1 H a1 xs → xs[i]? = some y1) ∧ (∀ xs, SqA K t2 H a2 xs → xs[i]? = some y2) ∧ (∀ xs, SqA K t3 H a3 xs → xs[i]? = some y3), fun i H => ∃ xs1 xs2 xs3 : List V, SqA K t1 H a1 xs1 ∧ SqA K t2 H a2 xs2 ∧ SqA K t3 H a3 xs3 ∧ min (min xs1.length xs2.length) xs3.length = i⟩
theorem turn_zip3 {P : Program} {w : World} {K : PySem.W.Frag} {elts : List Expr} {kk : Nat} {tpos : Pos} (t1 t2 t3 : Bool) (a1 a2 a3 z TI TO i1 i2 i3 : Addr) :
    Turn P w K (.Tuple elts kk tpos) (ItZ3 K t1 t2 t3 a1 a2 a3) [z, TI, TO, i1, i2, i3] z (fun i h => IsZip h z TI TO .none ∧ IsTupOf3 h TI (.ref i1) (.ref i2) (.ref i3) ∧ (∃ b1 b2 b3, IsTupOf3 h TO b1 b2 b3) ∧ itAt t1 i1 a1 i h ∧ itAt t2 i2 a2 i h ∧ itAt t3 i3 a3 i h ∧ ZipSep3 z TI TO i1 i2 i3 [i1, a1] [i2, a2] [i3, a3] ∧ a1 ≠ i1 ∧ a2 ≠ i2 ∧ a3 ≠ i3) where
  mem := by simp
  obj := fun i h st b hb => by
    obtain ⟨hz, hI, ⟨b1, b2, b3, hO⟩, q1, q2, q3, sp, _⟩ := st
    have e' : b = z ∨ b = TI ∨ b = TO ∨ b = i1 ∨ b = i2 ∨ b = i3 := by simpa using hb
    rcases e' with e | e | e | e | e | e
    · rw [e]; exact ⟨_, hz, fun v q => nomatch q⟩
    · rw [e]; exact ⟨_, hI, fun v q => nomatch q⟩
    · rw [e]; exact ⟨_, hO, fun v q => nomatch q⟩
    · rw [e]; exact itAt_obj q1
    · rw [e]; exact itAt_obj q2
    · rw [e]; exact itAt_obj q3
  keep := fun i h h' st k => by
    obtain ⟨hz, hI, ⟨b1, b2, b3, hO⟩, q1, q2, q3, sp⟩ := st
    exact ⟨k z (by simp) _ hz, k TI (by simp) _ hI, ⟨b1, b2, b3, k TO (by simp) _ hO⟩, itAt_keep q1 (fun o q => k i1 (by simp) o q), itAt_keep q2 (fun o q => k i2 (by simp) o q), itAt_keep q3 (fun o q => k i3 (by simp) o q), sp⟩
  item := by
    intro X hP hw hK hc i pins s σ H E I hf st hg
    subst hP hw hK
    obtain ⟨hz, hI, hO, q1, q2, q3, sp, ne1, ne2, ne3⟩ := st
    obtain ⟨xs1, xs2, xs3, y1, y2, y3, hq1, hx1, hq2, hx2, hq3, hx3⟩ := hg
    obtain ⟨its1, rv1, con1, hz1⟩ := seqA_of I hq1
    obtain ⟨u1, hu1, ru1⟩ := rv1.get hx1
    have lt1 : i < its1.toArray.size := by
      have := (List.getElem?_eq_some_iff.mp hu1).1
      simpa using this
    obtain ⟨its2, rv2, con2, hz2⟩ := seqA_of I hq2
    obtain ⟨u2, hu2, ru2⟩ := rv2.get hx2
    have lt2 : i < its2.toArray.size := by
      have := (List.getElem?_eq_some_iff.mp hu2).1
      simpa using this
    obtain ⟨its3, rv3, con3, hz3⟩ := seqA_of I hq3
    obtain ⟨u3, hu3, ru3⟩ := rv3.get hx3
    have lt3 : i < its3.toArray.size := by
      have := (List.getElem?_eq_some_iff.mp hu3).1
      simpa using this
    have W := GoesN.zip3 (elts := elts) (x1 := kk) (pos := tpos) sp (drawsA (P := X.prog) (w := X.w) (A := X.A.in1) (I.ok.hd hc) t1 i1 a1 ne1 its1.toArray) (drawsA (P := X.prog) (w := X.w) (A := X.A.in1) (I.ok.hd hc) t2 i2 a2 ne2 its2.toArray) (drawsA (P := X.prog) (w := X.w) (A := X.A.in1) (I.ok.hd hc) t3 i3 a3 ne3 its3.toArray)
    refine wpAny_mono (W.goes i s (fun v s2 => ∃ x' H', Inv X pins σ H' s2 ∧ RelV x' v ∧ (ItZ3 X.K t1 t2 t3 a1 a2 a3).yld i H x' H' ∧ (IsZip s2.heap z TI TO .none ∧ IsTupOf3 s2.heap TI (.ref i1) (.ref i2) (.ref i3) ∧ (∃ b1 b2 b3, IsTupOf3 s2.heap TO b1 b2 b3) ∧ itAt t1 i1 a1 (i + 1) s2.heap ∧ itAt t2 i2 a2 (i + 1) s2.heap ∧ itAt t3 i3 a3 (i + 1) s2.heap ∧ ZipSep3 z TI TO i1 i2 i3 [i1, a1] [i2, a2] [i3, a3] ∧ a1 ≠ i1 ∧ a2 ≠ i2 ∧ a3 ≠ i3) ∧ ∀ b ∈ [z, TI, TO, i1, i2, i3], H' b = none) E (by omega) ⟨hz, hI, hO, ⟨q1, con1⟩, ⟨q2, con2⟩, ⟨q3, con3⟩⟩ ?_) (fun r s1 ⟨v, e1, h3⟩ => ⟨v, e1, h3⟩) (fun _ _ h => h)
    rintro v h' tk ⟨T, z1, z2, z3, rfl, hT, e1, e2, e3, tp⟩ ⟨hz', hI', hO', ⟨q1', _⟩, ⟨q2', _⟩, ⟨q3', _⟩⟩ k htk
    have ee1 : z1 = u1 := by
      have : its1[i]? = some z1 := by simpa using e1
      rw [hu1] at this; exact (Option.some.inj this).symm
    subst ee1
    have ee2 : z2 = u2 := by
      have : its2[i]? = some z2 := by simpa using e2
      rw [hu2] at this; exact (Option.some.inj this).symm
    subst ee2
    have ee3 : z3 = u3 := by
      have : its3[i]? = some z3 := by simpa using e3
      rw [hu3] at this; exact (Option.some.inj this).symm
    subst ee3
    have I1 := inv_turnT I (tk := tk) (fp := [z, TI, TO, i1, i2, i3]) (wr := [z, TO, i1, i2, i3]) (us := [z1, z2, z3]) (vs := [y1, y2, y3]) hf (by simp) k hT tp (.cons ru1 (.cons ru2 (.cons ru3 (.nil)))) (by show 3 ≤ sizeLine; decide)
    refine ⟨.ref T, _, I1, rfl, ⟨T, y1, y2, y3, rfl, I.hok.fresh hT, rfl, (fun ys hy => by rw [seqA_inj I hy hq1]; exact hx1), (fun ys hy => by rw [seqA_inj I hy hq2]; exact hx2), (fun ys hy => by rw [seqA_inj I hy hq3]; exact hx3)⟩, ⟨hz', hI', hO', q1', q2', q3', sp, ne1, ne2, ne3⟩, fun b hb => ?_⟩
    have hb' : b < s.heap.objs.size := by
      obtain ⟨b1, b2, b3, hO⟩ := hO
      have e' : b = z ∨ b = TI ∨ b = TO ∨ b = i1 ∨ b = i2 ∨ b = i3 := by simpa using hb
      rcases e' with e | e | e | e | e | e
      · rw [e]; exact Heap.lt_size hz
      · rw [e]; exact Heap.lt_size hI
      · rw [e]; exact Heap.lt_size hO
      · rw [e]; obtain ⟨o, q, _⟩ := itAt_obj q1; exact Heap.lt_size q
      · rw [e]; obtain ⟨o, q, _⟩ := itAt_obj q2; exact Heap.lt_size q
      · rw [e]; obtain ⟨o, q, _⟩ := itAt_obj q3; exact Heap.lt_size q
    rw [upd_ne (Nat.ne_of_lt (Nat.lt_of_lt_of_le hb' hT))]
    exact (hf b hb).1
  done := by
    intro X hP hw hK hc i pins s σ H E I hf st hg
    subst hP hw hK
    obtain ⟨hz, hI, hO, q1, q2, q3, sp, ne1, ne2, ne3⟩ := st
    obtain ⟨xs1, xs2, xs3, hq1, hq2, hq3, hx⟩ := hg
    obtain ⟨its1, rv1, con1, hz1⟩ := seqA_of I hq1
    have ln1 : its1.toArray.size = xs1.length := by have := rv1.length; simp; omega
    obtain ⟨its2, rv2, con2, hz2⟩ := seqA_of I hq2
    have ln2 : its2.toArray.size = xs2.length := by have := rv2.length; simp; omega
    obtain ⟨its3, rv3, con3, hz3⟩ := seqA_of I hq3
    have ln3 : its3.toArray.size = xs3.length := by have := rv3.length; simp; omega
    have W := GoesN.zip3 (elts := elts) (x1 := kk) (pos := tpos) sp (drawsA (P := X.prog) (w := X.w) (A := X.A.in1) (I.ok.hd hc) t1 i1 a1 ne1 its1.toArray) (drawsA (P := X.prog) (w := X.w) (A := X.A.in1) (I.ok.hd hc) t2 i2 a2 ne2 its2.toArray) (drawsA (P := X.prog) (w := X.w) (A := X.A.in1) (I.ok.hd hc) t3 i3 a3 ne3 its3.toArray)
    rw [ln1, ln2, ln3, hx] at W
    refine wpAny_mono (W.stops s (fun s1 => Inv X pins σ H s1) E ⟨hz, hI, hO, ⟨q1, con1⟩, ⟨q2, con2⟩, ⟨q3, con3⟩⟩ fun h' tk k htk => ?_) (fun r s1 h => h) (fun _ _ h => h)
    exact I.turnedL (t' := tk) (ch := [z, TI, TO, i1, i2, i3]) (fun b o hb e => k b o (fun z => hb (by simp at z ⊢; rcases z with z | z | z | z | z <;> simp [z])) e) hf
  self := fun A i s Q E st h => wpAny_pyIter_zip st.1 h
def zipD3 (ds1 ds2 ds3 : List PyData) : List PyData := ((ds1.zip ds2).zip ds3).map fun p => .tuple [p.1.1, p.1.2, p.2]
theorem walkZ3 {K : PySem.W.Frag} {w : Wd} {t1 t2 t3 : Bool} {a1 a2 a3 : Addr} {xs1 xs2 xs3 : List V} {ds1 ds2 ds3 : List PyData} (q1 : SqA K t1 w.im a1 xs1) (d1 : DpAll K w.im xs1 ds1) (q2 : SqA K t2 w.im a2 xs2) (d2 : DpAll K w.im xs2 ds2) (q3 : SqA K t3 w.im a3 xs3) (d3 : DpAll K w.im xs3 ds3) : WalkD Γ K w (ItZ3 K t1 t2 t3 a1 a2 a3) (zipD3 ds1 ds2 ds3) := by
  have hl1 := Paired.len (DpAll.paired d1)
  have hl2 := Paired.len (DpAll.paired d2)
  have hl3 := Paired.len (DpAll.paired d3)
  have hle : (zipD3 ds1 ds2 ds3).length = min (min xs1.length xs2.length) xs3.length := by simp [zipD3, hl1, hl2, hl3]
  have up : ∀ {t : Bool} {a : Addr} {xs : List V} (w' : Wd), w.le w' → SqA K t w.im a xs → SqA K t w'.H a xs := fun {t a xs} w' l q => by
    cases t
    · exact SqL.mono (im_sub w') (SqL.mono l.im q)
    · exact SqT.mono (im_sub w') (SqT.mono l.im q)
  refine ⟨fun H => SqA K t1 H a1 xs1 ∧ SqA K t2 H a2 xs2 ∧ SqA K t3 H a3 xs3, fun i H x H' => (ItZ3 K t1 t2 t3 a1 a2 a3).yld i H x H', ⟨fun i H hi ⟨q1, q2, q3⟩ => ?_, fun H ⟨q1, q2, q3⟩ => ⟨xs1, xs2, xs3, q1, q2, q3, hle.symm⟩, fun i H x H' hi q y => y⟩, fun w' l _ => ⟨up w' l q1, up w' l q2, up w' l q3⟩, fun i w' x H' hi l G' ⟨T, y1, y2, y3, e1, e2, e3, f1, f2, f3⟩ => ?_⟩
  · rw [hle] at hi
    have h1 : i < xs1.length := by omega
    have h2 : i < xs2.length := by omega
    have h3 : i < xs3.length := by omega
    exact ⟨xs1, xs2, xs3, xs1[i], xs2[i], xs3[i], q1, by simp [h1], q2, by simp [h2], q3, by simp [h3]⟩
  · subst e1 e3
    rw [hle] at hi
    have i1 : i < ds1.length := by omega
    have ey1 := f1 xs1 (up w' l q1)
    obtain ⟨x1, m1, p1⟩ := Paired.get (DpAll.paired d1) (i := i) (y := ds1[i]) (by simp [i1])
    rw [ey1] at m1
    cases m1
    have i2 : i < ds2.length := by omega
    have ey2 := f2 xs2 (up w' l q2)
    obtain ⟨x2, m2, p2⟩ := Paired.get (DpAll.paired d2) (i := i) (y := ds2[i]) (by simp [i2])
    rw [ey2] at m2
    cases m2
    have i3 : i < ds3.length := by omega
    have ey3 := f3 xs3 (up w' l q3)
    obtain ⟨x3, m3, p3⟩ := Paired.get (DpAll.paired d3) (i := i) (y := ds3[i]) (by simp [i3])
    rw [ey3] at m3
    cases m3
    obtain ⟨G1, l1⟩ := G'.new e2 (.tup [y1, y2, y3])
    refine ⟨⟨w'.μ, w'.S, upd w'.H T (.tup [y1, y2, y3])⟩, rfl, rfl, l1, G1, .tuple [ds1[i], ds2[i], ds3[i]], by simp [zipD3, i1, i2, i3, List.getElem?_zip_eq_some]; exact ⟨_, _, _, ⟨⟨rfl, rfl⟩, rfl⟩, rfl, rfl, rfl⟩, ?_⟩
    exact Dp.tup (SqT.of (Wd.im_of (w := ⟨w'.μ, w'.S, upd w'.H T (.tup [y1, y2, y3])⟩) upd_same (fun z => G'.nin e2 (live_mem (w := ⟨w'.μ, w'.S, upd w'.H T (.tup [y1, y2, y3])⟩) z)) (fun ps z => by cases z))) (.cons (Dp.mono (l.trans l1).im p1) (.cons (Dp.mono (l.trans l1).im p2) (.cons (Dp.mono (l.trans l1).im p3) (.nil))))
theorem pi_zip3 {c1 c2 c3 : Expr} {ta : TA} {p pos tpos : Pos} {elts : List Expr} {kk : Nat} (hg : Gl X "zip") (hm : X.mg "zip" = none) (ha : PA X [c1, c2, c3] ta) (hs : starEach [c1, c2, c3] X.env = (false, eval c1 X.env) :: starEach [c2, c3] X.env := by rfl) (hpl : (backTo pos (starEach [c2, c3] X.env)).any (·.1) = false := by rfl) :
    PI X (.Tuple elts kk tpos) (.Call (.Name "zip" p) [c1, c2, c3] [] pos) (fun σ H R => ta σ H fun vs H1 => ∃ t1 t2 t3 a1 a2 a3 xs1 xs2 xs3, vs = [.ref a1, .ref a2, .ref a3] ∧ SqA X.K t1 H1 a1 xs1 ∧ SqA X.K t2 H1 a2 xs2 ∧ SqA X.K t3 H1 a3 xs3 ∧ R (ItZ3 X.K t1 t2 t3 a1 a2 a3) H1) := by
  refine ⟨fun pins s σ H R I h => ?_⟩
  refine PyProof.Rows.Call_ (ld_blt I hg hm PyProof.Rows.boot_zip (PyProof.Rows.callWith_type1 (thn (ha.run pos pins s σ H _ I h) fun us s1 ⟨vs, H1, I1, r1, q1⟩ => ?_) hs hpl))
  obtain ⟨t1, t2, t3, a1, a2, a3, xs1, xs2, xs3, ex, hq1, hq2, hq3, q⟩ := q1
  subst ex
  cases r1 with
  | cons r r1 =>
    cases r
    cases r1 with
    | cons r r1 =>
      cases r
      cases r1 with
      | cons r r1 =>
        cases r
        cases r1
        obtain ⟨its1, rv1, con1, hz1⟩ := seqA_of I1 hq1
        have lt1 := conAt_lt con1
        obtain ⟨its2, rv2, con2, hz2⟩ := seqA_of I1 hq2
        have lt2 := conAt_lt con2
        obtain ⟨its3, rv3, con3, hz3⟩ := seqA_of I1 hq3
        have lt3 := conAt_lt con3
        refine PySem.zip_begins3 (beginsA t1 a1 its1.toArray) (beginsA t2 a2 its2.toArray) (beginsA t3 a3 its3.toArray) con1 con2 con3 fun h' hzz hI hO hi1 hi2 hi3 hsz hk => wpAny_pyIter_zip hzz ?_
        have I2 : Inv X pins σ H1 { s1 with heap := h' } := I1.kept (t' := s1.toks) hk
        have sp := PySem.zip_sep3 (N := s1.heap.objs.size) (fp1 := [a1]) (fp2 := [a2]) (fp3 := [a3]) (by simpa using lt1) (by simpa using lt2) (by simpa using lt3)
        refine ⟨s1.heap.objs.size + 5, [s1.heap.objs.size + 5, s1.heap.objs.size + 3, s1.heap.objs.size + 4, s1.heap.objs.size, s1.heap.objs.size + 1, s1.heap.objs.size + 2], _, _, H1, rfl, I2, turn_zip3 t1 t2 t3 a1 a2 a3 (s1.heap.objs.size + 5) (s1.heap.objs.size + 3) (s1.heap.objs.size + 4) (s1.heap.objs.size) (s1.heap.objs.size + 1) (s1.heap.objs.size + 2), ⟨hzz, hI, ⟨_, _, _, hO⟩, itAt_new hi1, itAt_new hi2, itAt_new hi3, sp, off_ne lt1, off_ne1 lt2, off_ne2 lt3⟩, fun b hb => ?_, q⟩
        refine fresh_fp I1 ?_
        have e' : b = s1.heap.objs.size + 5 ∨ b = s1.heap.objs.size + 3 ∨ b = s1.heap.objs.size + 4 ∨ b = s1.heap.objs.size ∨ b = s1.heap.objs.size + 1 ∨ b = s1.heap.objs.size + 2 := by simpa using hb
        rcases e' with e | e | e | e | e | e <;> rw [e]
        all_goals first | exact Nat.le_refl _ | exact Nat.le_add_right _ _
def fZ3 (f : Fe (List W)) : Fe (List PyData) := fun ρ S => (f ρ S).bind fun xs S1 => match xs with
  | [x1, x2, x3] => (ofO (itemsOf x1 S1)).bind fun ds1 S2 => (ofO (itemsOf x2 S2)).bind fun ds2 S3 => (ofO (itemsOf x3 S3)).bind fun ds3 S4 => .ok (zipD3 ds1 ds2 ds3) S4
  | _ => .bad
theorem vi_zip3 {c1 c2 c3 : Expr} {f : Fe (List W)} {p tpos : Pos} {elts : List Expr} {kk : Nat} (ha : VA Γ X Z [c1, c2, c3] f) (hm : X.mg "zip" = none) (hg : Gl X "zip" := by rfl) (hs : starEach [c1, c2, c3] X.env = (false, eval c1 X.env) :: starEach [c2, c3] X.env := by rfl) (hpl : (backTo pos (starEach [c2, c3] X.env)).any (·.1) = false := by rfl) :
    VI Γ X Z (.Tuple elts kk tpos) (.Call (.Name "zip" p) [c1, c2, c3] [] pos) (fZ3 f) := by
  refine ⟨PI.mono (pi_zip3 hg hm ha.pa hs hpl) fun σ H R q => liftR.imp (seq1 (R := RWs X.K) (R2 := WalkD Γ X.K) q) fun vs H1 ⟨xs, w, e, G, r, p⟩ => ?_⟩
  subst e
  split at p
  · rename_i x1 x2 x3
    obtain ⟨v1, v2, v3, rfl, r1, r2, r3⟩ := rws_three r
    cases e1 : itemsOf x1 w.S with
    | none => rw [e1] at p; exact p.elim
    | some y =>
      obtain ⟨ds1, T1⟩ := y
      rw [e1] at p
      simp only [ofO, Out.bind] at p
      obtain ⟨F1, a1, xs1, hv1, q1, d1⟩ := itemsOf_ok G r1 e1
      cases e2 : itemsOf x2 T1 with
      | none => rw [e2] at p; exact p.elim
      | some y =>
        obtain ⟨ds2, T2⟩ := y
        rw [e2] at p
        simp only [ofO, Out.bind] at p
        obtain ⟨F2, a2, xs2, hv2, q2, d2⟩ := itemsOf_ok F1.good (RW.mono F1.le r2) e2
        cases e3 : itemsOf x3 T2 with
        | none => rw [e3] at p; exact p.elim
        | some y =>
          obtain ⟨ds3, T3⟩ := y
          rw [e3] at p
          simp only [ofO, Out.bind] at p
          obtain ⟨F3, a3, xs3, hv3, q3, d3⟩ := itemsOf_ok F2.good (RW.mono (F1.le.trans F2.le) r3) e3
          have g1 : ∃ t, SqA X.K t (Wd.im ⟨w.μ, T3, w.H⟩) a1 xs1 := q1.elim (fun q => ⟨true, SqT.mono (F2.le.trans F3.le).im q⟩) (fun q => ⟨false, SqL.mono (F2.le.trans F3.le).im q⟩)
          replace d1 := DpAll.mono (F2.le.trans F3.le).im d1
          have g2 : ∃ t, SqA X.K t (Wd.im ⟨w.μ, T3, w.H⟩) a2 xs2 := q2.elim (fun q => ⟨true, SqT.mono F3.le.im q⟩) (fun q => ⟨false, SqL.mono F3.le.im q⟩)
          replace d2 := DpAll.mono F3.le.im d2
          have g3 : ∃ t, SqA X.K t (Wd.im ⟨w.μ, T3, w.H⟩) a3 xs3 := q3.elim (fun q => ⟨true, q⟩) (fun q => ⟨false, q⟩)
          obtain ⟨t1, g1⟩ := g1
          obtain ⟨t2, g2⟩ := g2
          obtain ⟨t3, g3⟩ := g3
          subst hv1 hv2 hv3
          have dn : ∀ {t : Bool} {a : Addr} {xs : List V}, SqA X.K t (Wd.im ⟨w.μ, T3, w.H⟩) a xs → SqA X.K t w.H a xs := fun {t a xs} q => by
            cases t
            · exact SqL.mono (im_sub ⟨w.μ, T3, w.H⟩) q
            · exact SqT.mono (im_sub ⟨w.μ, T3, w.H⟩) q
          exact ⟨t1, t2, t3, a1, a2, a3, xs1, xs2, xs3, rfl, dn g1, dn g2, dn g3, p ⟨w.μ, T3, w.H⟩ (ItZ3 X.K t1 t2 t3 a1 a2 a3) rfl ((F1.le.trans F2.le).trans F3.le) F3.good (walkZ3 g1 d1 g2 d2 g3 d3)⟩
  · exact p.elim
end
end G
set_option Elab.async false
set_option linter.all false
set_option maxRecDepth 100000
set_option maxHeartbeats 4000000
/-! G11: own calls, defs, stores into lists and dicts, displays of dicts, tuple * small numbers -/
namespace G
open PySem PySem.Spec L2
set_option autoImplicit false
section
variable {X : Cx}
/-! ### tuple * 1, tuple * 0 -/
theorem tuple_mul1 (l : Addr) (items : Array Value) (n : Nat) (x : Int) (u : Tok) (c0 : (decide (x < -(2 ^ 63)) || decide (x ≥ 2 ^ 63)) = false) (c1 : (items.isEmpty || x == 1) = true) :
    Meets (Builtin.«tuple.__mul__» ⟨[.ref l, .int x u], []⟩) (fun _ R s => (∃ dd sl, s.heap.get? l = some { cls := .type "tuple", dict := dd, data := .seq items n, slots := sl }) ∧
      R (.ok (.ret (Value.ref l))) s) :=
  .of_wp fun prog w A R s h => by
    obtain ⟨hp, g, d, tk, os⟩ := s
    obtain ⟨⟨dd, sl, hl⟩, h⟩ := h
    have f1 := AutoSeq1.idx_int
    wp_walk using wpAny_loadPart' hl
    repeat (first
      | (refine wpAny_ite_false (decide_eq_false (by rw [c0]; exact Bool.false_ne_true)) ?_; wp_walk using wpAny_loadPart' hl)
      | (refine wpAny_ite_true (decide_eq_true (by rw [c1])) ?_; wp_walk using wpAny_loadPart' hl))
    exact ⟨_, rfl, h⟩
theorem tuple_mul0 (l : Addr) (items : Array Value) (n : Nat) (dd : Option Addr) (sl : Array (Option Value)) (x : Int) (u : Tok) (c0 : (decide (x < -(2 ^ 63)) || decide (x ≥ 2 ^ 63)) = false) (c1 : (items.isEmpty || x == 1) = false) (c2 : (decide (x ≤ 0) || items.isEmpty) = true) :
    Meets (Builtin.«tuple.__mul__» ⟨[.ref l, .int x u], []⟩) (fun _ R s => s.heap.get? l = some { cls := .type "tuple", dict := dd, data := .seq items n, slots := sl } ∧
      R (.ok (.ret (Value.ref s.heap.objs.size))) { s with heap := s.heap.push { cls := Value.type "tuple", data := Data.seq #[] }, toks := s.toks }) :=
  .of_wp fun prog w A R s h => by
    obtain ⟨hp, g, d, tk, os⟩ := s
    obtain ⟨hl, h⟩ := h
    have f1 := AutoSeq1.idx_int
    wp_walk using wpAny_loadPart' hl
    repeat (first
      | (refine wpAny_ite_false (decide_eq_false (by rw [c0]; exact Bool.false_ne_true)) ?_; wp_walk using wpAny_loadPart' hl)
      | (refine wpAny_ite_false (decide_eq_false (by rw [c1]; exact Bool.false_ne_true)) ?_; wp_walk using wpAny_loadPart' hl)
      | (refine wpAny_ite_true (decide_eq_true (by rw [c2])) ?_; wp_walk using wpAny_loadPart' hl))
    exact ⟨_, rfl, h⟩
def rRepT1 (K : PySem.W.Frag) : R2 := fun x y H Q => ∃ l k xs, x = .ref l ∧ y = .int k ∧ SqT K H l xs ∧ -1000 ≤ k ∧ k ≤ 1000 ∧ ((k = 1 ∨ xs = []) ∧ Q (.ref l) H ∨ xs ≠ [] ∧ k ≤ 0 ∧ ∀ p, H p = none → Q (.ref p) (upd H p (.tup [])))
theorem op_repT1 : OpR X (binaryOp .Mult) (rRepT1 X.K) := by
  intro pins s σ H x y v u Q I rx ry h
  obtain ⟨l, k, xs, rfl, rfl, hT, h1, h2, q⟩ := h
  cases rx
  obtain ⟨t, rfl⟩ := ry
  obtain ⟨its, r, ⟨⟨cls, dd, data, sl⟩, ho, hc, n, hd⟩, hs⟩ := I.tuple hT
  simp only at hc hd
  subst hc hd
  have c0 : (decide (k < -(2 ^ 63)) || decide (k ≥ 2 ^ 63)) = false := by
    rw [decide_eq_false (by omega), decide_eq_false (by omega)] <;> rfl
  have hem : its.toArray.isEmpty = xs.isEmpty := by
    have := r.length
    cases its <;> cases xs <;> simp_all
  refine wpAny_binaryOp_repeat_ref (T := "tuple") (U := "int") (by decide) ⟨_, ho, rfl⟩ (fun s' => typeIs_int s' k t) noFill_tuple_mul F.fills_int_mul F.slot_int_rmul repeat_tuple F.slot_int_index.lookup
    (call_meets F.slot_int_rmul (typeIs_int s k t) F.entry_int_rmul (F.args_int_rmul_2 _ _) (int_rmul_tuple k t l its.toArray n dd sl)
      ⟨ho, rfl, ⟨_, ho, rfl⟩, ?_⟩)
  rcases q with ⟨e, q⟩ | ⟨e1, e2, q⟩
  · have c1 : (its.toArray.isEmpty || k == 1) = true := by
      rw [hem]
      rcases e with e | e <;> subst e <;> simp
    exact call_meets F.slot_tuple_mul ⟨_, ho, rfl⟩ F.entry_tuple_mul (F.args_tuple_mul_2 _ _) (tuple_mul1 l its.toArray n k t c0 c1) ⟨⟨_, _, ho⟩, .ref l, H, I, rfl, q⟩
  · have hx : xs.isEmpty = false := by cases xs <;> simp_all
    have c1 : (its.toArray.isEmpty || k == 1) = false := by
      rw [hem, hx, Bool.false_or]
      exact beq_eq_false_iff_ne.mpr (by omega)
    have c2 : (decide (k ≤ 0) || its.toArray.isEmpty) = true := by
      rw [decide_eq_true e2, Bool.true_or]
    refine call_meets F.slot_tuple_mul ⟨_, ho, rfl⟩ F.entry_tuple_mul (F.args_tuple_mul_2 _ _) (tuple_mul0 l its.toArray n dd sl k t c0 c1 c2) ⟨ho, ?_⟩
    refine ⟨.ref s.heap.objs.size, _, I.laid (t' := s.toks) (o := .tup []) (fun b ob q => Heap.get?_push_of_some _ q) (Nat.le_refl _) ?_, rfl, q _ (I.hok.fresh (Nat.le_refl _))⟩
    exact ⟨Nat.zero_le _, [], .nil, PyProof.Rows.IsTup.new _ _⟩
variable {Γ : Gm} {Z : WX} {pos : Pos}
def gMulT : Op2 := fun x y S => match x, y with
  | .d (.tuple xs), .d (.int k) => if (k = 1 ∨ xs = []) ∧ -1000 ≤ k ∧ k ≤ 1000 then some (.d (.tuple xs), S) else if k ≤ 0 ∧ -1000 ≤ k then some (.d (.tuple []), S) else gMul x y S
  | x, y => gMul x y S
def rMulC (K : PySem.W.Frag) : R2 := fun x y H Q => rRepT1 K x y H Q ∨ rMulB K x y H Q
theorem op_mulC : OpR X (binaryOp .Mult) (rMulC X.K) := OpR.or op_repT1 op_mulB
theorem does_mulC : Does2 Γ X Z gMulT (rMulC X.K) := fun w x y vx vy σ Q z S' G rx ry h p => by
  unfold gMulT at h
  split at h
  · rename_i xs k
    split at h
    · rename_i hm
      cases h
      cases (show Dp X.K w.im vy (.int k) from ry)
      have rx' := rx
      cases (show Dp X.K w.im vx (.tuple xs) from rx) with
      | tup q1 d1 =>
        have l1 := Paired.len (DpAll.paired d1)
        refine .inl ⟨_, k, _, rfl, rfl, SqT.mono (im_sub w) q1, hm.2.1, hm.2.2, .inl ⟨hm.1.imp id fun e => ?_, p.use G rx'⟩⟩
        subst e; cases d1; rfl
    · split at h
      · rename_i hn hm
        cases h
        cases (show Dp X.K w.im vy (.int k) from ry)
        cases (show Dp X.K w.im vx (.tuple xs) from rx) with
        | tup q1 d1 =>
          have hne : xs ≠ [] := fun e => hn ⟨.inr e, hm.2, by omega⟩
          refine .inl ⟨_, k, _, rfl, rfl, SqT.mono (im_sub w) q1, hm.2, by omega, .inr ⟨fun e => hne ?_, hm.1, ?_⟩⟩
          · subst e; cases d1; rfl
          · exact Post.tup p G (DpAll.of .nil)
      · exact .inr (does_mul w _ _ vx vy σ Q z S' G rx ry h p)
  · exact .inr (does_mul w _ _ vx vy σ Q z S' G rx ry h p)
end
end G
set_option Elab.async false
set_option linter.all false
set_option maxRecDepth 100000
set_option maxHeartbeats 4000000
/-! G12: own calls, defs, stores into lists and dicts, displays of dicts -/
namespace G
open PySem PySem.Spec L2 PyProof.Rows
set_option autoImplicit false
abbrev Fn := List W → Sto → Out W
/-! ### a def's promise by values -/
def spOf (Γ : Gm) (K : PySem.W.Frag) (n : Nat) (F : Fn) : Sp := fun vs H Q E => vs.length = n ∧ ∃ w ws, w.H = H ∧ Good Γ K w ∧ RWs K w vs ws ∧ Post Γ K (RW K) w [] (fun c d _ H => E c d H) (F ws w.S) Q
/-- a def: n values are handed in, dws fill up -/
structure Cal (Γ : Gm) (P : Program) (wd : World) (K : PySem.W.Frag) (mg : Str → Option Value) (base : Heap) (k : Nat) (x : Str) (n : Nat) (dws : List PyData) (F : Fn) : Prop where
  ex : ∃ (f : Addr) (fd : FuncData) (ps : List Str) (ds : List Value) (dvs : List V), mg x = some (.ref f) ∧ PySem.W.keepIn K (.ref f) = true ∧ Binds K fd ps ds ∧ Vals dvs ds ∧ (∀ H, DpAll K H dvs dws) ∧ n + dws.length = ps.length ∧ FnOk P wd K mg base (L2.CX P wd) k f fd ps (spOf Γ K ps.length F)
def ofD (ds : List PyData) : List W := ds.map W.d
theorem rws_ofD {K : PySem.W.Frag} {w : Wd} : ∀ {vs : List V} {ds : List PyData}, DpAll K w.im vs ds → RWs K w vs (ofD ds)
  | _, _, .nil => .nil
  | _, _, .cons q r => .cons q (rws_ofD r)
def fCall (n : Nat) (dws : List PyData) (F : Fn) (f : Fe (List W)) : Fe W := fun ρ S => (f ρ S).bind fun xs S1 => if xs.length = n then F (xs ++ ofD dws) S1 else .bad
def startR (n : Nat) (ws : List W) : Slt := ws.map some ++ List.replicate (n - ws.length) none
def runB (n : Nat) (b : Fs) : Fn := fun ws S => match b (startR n ws) S with
  | .nx _ S1 => .ok (.d .none) S1
  | .rt x S1 => .ok x S1
  | .ex e _ S1 => .ex e S1
  | _ => .bad
section
variable {Γ : Gm} {X : Cx} {Z : WX} {pos : Pos}
theorem Post.zed {α β : Type} {K : PySem.W.Frag} {R : Wd → β → α → Prop} {w : Wd} {σ σ' : L2.St} {Z Z' : WX} {r : Out α} {Q : β → Hp → Prop} (p : Post Γ K R w σ Z r Q) (h : ∀ c d H, Z c d σ H → Z' c d σ' H) : Post Γ K R w σ' Z' r Q := by
  cases r with
  | ok x S => exact p
  | ex e S => exact fun w1 c d e l g r => h _ _ _ (p w1 c d e l g r)
  | bad => exact p
theorem ve_call {k : Nat} {x : Str} {n : Nat} {dws : List PyData} {F : Fn} {e : Expr} {es : List Expr} {f : Fe (List W)} {p : Pos} (C : Cal Γ X.prog X.w X.K X.mg X.base k x n dws F) (tk : Takes X Z) (hr : Room k X.A) (ha : VA Γ X Z (e :: es) f) (hg : Gl X x := by rfl)
    (hdb : (x == ("__debug__" : Str)) = false := by decide) (he : starEach (e :: es) X.env = (false, eval e X.env) :: starEach es X.env := by rfl) (hpl : (backTo pos (starEach es X.env)).any (·.1) = false := by rfl) :
    VE Γ X Z (.Call (.Name x p) (e :: es) [] pos) (fCall n dws F f) := by
  obtain ⟨fa, fd, ps, ds, dvs, hm, hk, hb, hv, hd, hl, Fo⟩ := C.ex
  refine ⟨PE.mono (pe_callSD Fo hr hg hm hk hb hv (fun σ => passAt tk σ) ha.pa hdb he hpl) fun σ H Q q => ?_⟩
  refine liftR.imp (seq1 (R := RWs X.K) q) fun vs H1 ⟨xs, w, e, G, r, p⟩ => ?_
  subst e
  split at p
  · rename_i hn
    refine ⟨?_, w, _, rfl, G, Paired.app r (rws_ofD (hd _)), Post.zed p fun c d H z => z⟩
    have h1 := Paired.len r
    have h2 := Paired.len (DpAll.paired (hd w.H))
    rw [List.length_append]; omega
  · exact p.elim
theorem slots_start {K : PySem.W.Frag} {w : Wd} {N : List Str} {vs : List V} {ws : List W} (r : RWs K w vs ws) : Slots K w (L2.start N vs) (startR N.length ws) := by
  have hl := Paired.len r
  refine ⟨by simp [L2.start, startR, hl], fun i x e => ?_⟩
  unfold startR at e
  by_cases h : i < ws.length
  · rw [List.getElem?_append_left (by simpa using h), List.getElem?_map] at e
    cases e1 : ws[i]? with
    | none => rw [e1] at e; cases e
    | some y =>
      rw [e1] at e
      cases e
      obtain ⟨v, h1, h2⟩ := Paired.get r e1
      refine ⟨v, ?_, h2⟩
      unfold L2.start
      rw [List.getElem?_append_left (by rw [List.length_map]; omega), List.getElem?_map, h1]
      rfl
  · rw [List.getElem?_append_right (by simpa using Nat.le_of_not_lt h), List.getElem?_replicate] at e
    split at e <;> cases e
theorem fn_rule {P : Program} {wd : World} {K : PySem.W.Frag} {mg : Str → Option Value} {base : Heap} {k : Nat} {x qual : Str} {params : Arguments} {body : List Stmt} {scope : Scope} {dvs : List V} {kws : List (Str × V)} {f : Addr} {fd : FuncData} {N ps : List Str} {b : Fs}
    (F : FunD K x qual params body scope dvs kws f fd) (S : FnScope N ps scope)
    (hb : ∀ (cdv : Value) (A : Around) (outer : List Env) (s : Shared) (H : Hp) (E : XK), Room k (A.deeper (envOfC qual scope s.heap.objs.size f cdv)) → VB Γ (cxOf (L2.CX P wd) P wd K mg base N qual scope f cdv A outer s H E) (fun c d _ H => E c d H) body b) :
    FnOk P wd K mg base (L2.CX P wd) (k + 1) f fd ps (spOf Γ K ps.length (runB N.length b)) := by
  refine F.ok S (fun vs H Q E h => h.1) (fun cdv A outer s H vs Q E hr h => ⟨_, (hb cdv A outer s H E hr).ps, ?_⟩)
  obtain ⟨hl, w, ws, rfl, G, r, p⟩ := h
  refine ⟨w, startR N.length ws, rfl, G, slots_start r, ?_⟩
  unfold runB at p
  cases e : b (startR N.length ws) w.S with
  | nx ρ S1 =>
    rw [e] at p
    exact fun w1 σ1 e1 l g q => p w1 .non e1 l g Dp.non
  | rt x S1 => rw [e] at p; exact fun w1 v e1 l g q => p w1 v e1 l g q
  | ex x ρ S1 =>
    rw [e] at p
    exact fun w1 σ1 c d e1 l g q z => p w1 c d e1 l g z
  | bk _ _ => rw [e] at p; exact p.elim
  | ct _ _ => rw [e] at p; exact p.elim
  | bad => rw [e] at p; exact p.elim
/-- how a call of a def without defaults binds -/
theorem Cal.of {P : Program} {wd : World} {K : PySem.W.Frag} {mg : Str → Option Value} {base : Heap} {k : Nat} {x qual : Str} {params : Arguments} {body : List Stmt} {scope : Scope} {kws : List (Str × V)} {f : Addr} {fd : FuncData} {ps : List Str} {F : Fn} {n : Nat}
    (D : FunD K x qual params body scope [] kws f fd) (hm : mg x = some (.ref f)) (hn : n = ps.length) (h : ∀ (kV doc pm : Value) (an : Option Addr) (cdv ct : Value) (us : List Value), us.length = ps.length → bindArgs (PySem.W.fnOf x qual params body scope .none kV doc pm an cdv ct) ⟨us, []⟩ = pure (ps.zip us))
    (o : FnOk P wd K mg base (L2.CX P wd) k f fd ps (spOf Γ K ps.length F)) : Cal Γ P wd K mg base k x n [] F :=
  ⟨f, fd, ps, [], [], hm, D.kp, D.bindsN h, .nil, fun _ => .nil, by simpa using hn, o⟩
theorem Cal.mono {P : Program} {wd : World} {K : PySem.W.Frag} {mg : Str → Option Value} {base : Heap} {j k : Nat} {x : Str} {n : Nat} {dws : List PyData} {F : Fn} (C : Cal Γ P wd K mg base j x n dws F) (h : j ≤ k) : Cal Γ P wd K mg base k x n dws F := by
  obtain ⟨fa, fd, ps, ds, dvs, hm, hk, hb, hv, hd, hl, Fo⟩ := C.ex
  exact ⟨fa, fd, ps, ds, dvs, hm, hk, hb, hv, hd, hl, Fo.mono h⟩

/-! ### a, b, c = x, y, z -/
def fPar3 (i j l : Nat) (f : Fe (List W)) : Fs := fun ρ S => (f ρ S).fl ρ fun xs S1 => match xs with
  | [x, y, z] => .nx (((ρ.set i (some x)).set j (some y)).set l (some z)) S1
  | _ => .bad
theorem vs_par3 (i j l : Nat) {x y z : Str} {a b c : Expr} {f : Fe (List W)} {px py pz pt : Pos} {kt k2 pt2} (ha : VA Γ X Z [a, b, c] f) (hN : X.N.Nodup) (hw : swappedStores [.Tuple [.Name x px, .Name y py, .Name z pz] kt pt] (.Tuple [a, b, c] k2 pt2) X.env = pure (some [x, y, z]))
    (hc : X.calm = true := by rfl) (hi : X.N[i]? = some x := by rfl) (hj : X.N[j]? = some y := by rfl) (hl : X.N[l]? = some z := by rfl) (hij : i ≠ j := by decide) (hil : i ≠ l := by decide) (hjl : j ≠ l := by decide)
    (hx : X.env.scope.names.lookup x = some .local := by rfl) (hy : X.env.scope.names.lookup y = some .local := by rfl) (hz : X.env.scope.names.lookup z = some .local := by rfl)
    (hs : swapsWithSole [.Tuple [.Name x px, .Name y py, .Name z pz] kt pt] (.Tuple [a, b, c] k2 pt2) pos.line X.env = pure false := by rfl) : VS Γ X Z (.Assign [.Tuple [.Name x px, .Name y py, .Name z pz] kt pt] (.Tuple [a, b, c] k2 pt2) pos) (fPar3 i j l f) := by
  refine ⟨PS.mono (ps_par3 hc hN hi hj hl hij hil hjl hx hy hz ha.pa hw hs) fun D σ H q => (liftS.out (R := RWs X.K) (k := fun xs ρ S1 => match xs with
    | [x, y, z] => .nx (((ρ.set i (some x)).set j (some y)).set l (some z)) S1
    | _ => .bad) q).imp fun v H1 ⟨xs, w, ρ, e, G, s, r, p⟩ => ?_⟩
  split at p
  · subst e
    obtain ⟨v1, v2, v3, rfl, r1, r2, r3⟩ := rws_three r
    exact ⟨v1, v2, v3, rfl, PostS.nx_use p G (((s.set r1 i).set r2 j).set r3 l)⟩
  · exact p.elim

theorem flpost {α β : Type} {K : PySem.W.Frag} {R : Wd → β → α → Prop} {w : Wd} {σ : L2.St} {ρ : Slt} {r : Out α} {k : α → Sto → Fl} {D : Ends} (p : PostS Γ K w Z (r.fl ρ k) D) (s : Slots K w σ ρ) :
    Post Γ K R w σ Z r fun v H1 => ∃ x w1, w1.H = H1 ∧ Good Γ K w1 ∧ w.le w1 ∧ R w1 v x ∧ PostS Γ K w1 Z (k x w1.S) D := by
  cases r with
  | ok x S =>
    intro w1 v e l g q
    subst e
    exact ⟨x, w1, rfl, g, l, q, PostS.mono l p⟩
  | ex e S => exact fun w1 c d e1 l g q => p w1 σ c d e1 l g (s.mono l) q
  | bad => exact p
/-! ### o[i] = x -/
def ixS (n : Nat) (k : Int) : Option Nat := if -1000000 ≤ k ∧ k ≤ 1000000 then ixN n k else none
def putL (x y z : W) (S : Sto) : Option Sto := match x, y with
  | .o n, .d (.int k) => match S[n]? with
    | some (.lst ws) => (ixN ws.length k).map fun j => S.set n (.lst (ws.set j z))
    | _ => none
  | _, _ => none
def fPutL (fo fi fv : Fe W) : Fs := fun ρ S => (fv ρ S).fl ρ fun z S1 => (fo ρ S1).fl ρ fun x S2 => (fi ρ S2).fl ρ fun y S3 => match putL x y z S3 with
  | some S4 => .nx ρ S4
  | none => .bad
theorem vs_putL {o i e : Expr} {fo fi fv : Fe W} {p' : Pos} (he : VE Γ X Z e fv) (ho : VE Γ X Z o fo) (hi : VE Γ X Z i fi)
    (ha : ∀ v, assign (.Subscript o i p') X.env v = (do
      let ov ← holding [v] (eval o X.env)
      let iv ← holding [v, ov] (eval i X.env)
      standAt p'
      holding [v, ov, iv] (setItem ov iv v)
      release [v, ov, iv] []) := by intro _; rfl)
    (hs : swapsWithSole [.Subscript o i p'] e pos.line X.env = pure false := by rfl) (hw : swappedStores [.Subscript o i p'] e X.env = pure none := by rfl)
    (h1 : (assignEach [.Subscript o i p'] X.env).map (·.2) = [assign (.Subscript o i p') X.env] := by rfl) : VS Γ X Z (.Assign [.Subscript o i p'] e pos) (fPutL fo fi fv) := by
  refine ⟨PS.mono (ps_asg he.pe (pg_sub ho.pe hi.pe set_list ha) hs hw h1) fun D σ H q => ?_⟩
  refine (liftS.out (R := RW X.K) (k := fun z ρ S1 => (fo ρ S1).fl ρ fun x S2 => (fi ρ S2).fl ρ fun y S3 => match putL x y z S3 with
    | some S4 => .nx ρ S4
    | none => .bad) q).imp fun v H1 ⟨z, w1, ρ1, e1, G1, s1, r1, p1⟩ => ?_
  subst e1
  refine ⟨w1, ρ1, rfl, G1, s1, (flpost (R := RW X.K) p1 s1).imp fun o H2 ⟨x, w2, e2, G2, l2, rx, p2⟩ => ?_⟩
  subst e2
  refine ⟨w2, ρ1, rfl, G2, s1.mono l2, (flpost (R := RW X.K) p2 (s1.mono l2)).imp fun i H3 ⟨y, w3, e3, G3, l3, ry, p3⟩ => ?_⟩
  subst e3
  split at p3
  · rename_i S4 e4
    unfold putL at e4
    split at e4
    · rename_i n k _
      split at e4
      · rename_i ws ew
        obtain ⟨j, hj, rfl⟩ := Option.map_eq_some_iff.mp e4
        obtain ⟨a, ha2, rfl⟩ := RW.mono l3 rx
        obtain ⟨vs, hv, rv⟩ := G3.cell n a _ ha2 ew
        cases (show Dp X.K w3.im i (.int k) from ry)
        refine ⟨a, vs, k, j, rfl, rfl, hv, by rw [Paired.len rv]; exact hj, ?_⟩
        have rz := RW.mono (l2.trans l3) r1
        obtain ⟨G5, l5⟩ := G3.write (c' := .lst (ws.set j z)) ha2 ew rfl (.lst (vs.set j v)) (fun w1 l e => ⟨_, e, RWs.mono l (Paired.set rz j rv)⟩) rfl
        exact PostS.nx_use (w := ⟨w3.μ, w3.S.set n (.lst (ws.set j z)), upd w3.H a (.lst (vs.set j v))⟩) (PostS.mono l5 p3) G5 ((s1.mono (l2.trans l3)).mono l5)
      · cases e4
    · cases e4
  · exact p3.elim
/-! ### d[k] = x -/
def putDk (x y z : W) (S : Sto) : Option Sto := match x, keyOf y with
  | .o n, some k => match S[n]? with
    | some (.dic kvs) => if szOk kvs.length = true then some (S.set n (.dic (putD kvs k z))) else none
    | _ => none
  | _, _ => none
def fPutD (fo fi fv : Fe W) : Fs := fun ρ S => (fv ρ S).fl ρ fun z S1 => (fo ρ S1).fl ρ fun x S2 => (fi ρ S2).fl ρ fun y S3 => match putDk x y z S3 with
  | some S4 => .nx ρ S4
  | none => .bad
theorem vs_putD {o i e : Expr} {fo fi fv : Fe W} {p' : Pos} (hu : Rm X) (he : VE Γ X Z e fv) (ho : VE Γ X Z o fo) (hi : VE Γ X Z i fi)
    (hs : swapsWith e (some (.Subscript o i p')) pos.line X.env = pure false := by rfl) : VS Γ X Z (.Assign [.Subscript o i p'] e pos) (fPutD fo fi fv) := by
  refine ⟨PS.mono (ps_dput (by unfold Rm at hu; omega) ho.pe hi.pe he.pe hs) fun D σ H q => ?_⟩
  refine (liftS.out (R := RW X.K) (k := fun z ρ S1 => (fo ρ S1).fl ρ fun x S2 => (fi ρ S2).fl ρ fun y S3 => match putDk x y z S3 with
    | some S4 => .nx ρ S4
    | none => .bad) q).imp fun v H1 ⟨z, w1, ρ1, e1, G1, s1, r1, p1⟩ => ?_
  subst e1
  refine ⟨w1, ρ1, rfl, G1, s1, (flpost (R := RW X.K) p1 s1).imp fun o H2 ⟨x, w2, e2, G2, l2, rx, p2⟩ => ?_⟩
  subst e2
  refine ⟨w2, ρ1, rfl, G2, s1.mono l2, (flpost (R := RW X.K) p2 (s1.mono l2)).imp fun i H3 ⟨y, w3, e3, G3, l3, ry, p3⟩ => ?_⟩
  subst e3
  split at p3
  · rename_i S4 e4
    unfold putDk at e4
    split at e4
    · rename_i n k ek _
      split at e4
      · rename_i kvs ew
        split at e4
        · rename_i hz
          cases e4
          obtain ⟨a, ha2, rfl⟩ := RW.mono l3 rx
          obtain ⟨us, hv, rv⟩ := G3.cell n a _ ha2 ew
          have rz := RW.mono (l2.trans l3) r1
          have hl := Paired.len rv
          refine ⟨a, upd w3.H a (.dK (putK us k v)), rfl, .inl ⟨us, k, hv, keyOf_ok ry ek, by rw [hl]; exact sz_line hz, rfl⟩, ?_⟩
          obtain ⟨G5, l5⟩ := G3.write (c' := .dic (putD kvs k z)) ha2 ew rfl (.dK (putK us k v)) (fun w1 l e => ⟨_, e, Paired.imp (fun _ _ q => ⟨q.1, RW.mono l q.2⟩) (putD_ok rv rz)⟩) rfl
          exact PostS.nx_use (w := ⟨w3.μ, w3.S.set n (.dic (putD kvs k z)), upd w3.H a (.dK (putK us k v))⟩) (PostS.mono l5 p3) G5 ((s1.mono (l2.trans l3)).mono l5)
        · cases e4
      · cases e4
    · cases e4
  · exact p3.elim
end
end G
set_option Elab.async false
set_option linter.all false
set_option maxRecDepth 100000
set_option maxHeartbeats 4000000
/-! G13: displays of dicts, try of what raises nothing -/
namespace G
open PySem PySem.Spec L2 PyProof.Rows
set_option autoImplicit false
def evP : List (Fe W × Fe W) → Fe (List (Key × W))
  | [], _, S => .ok [] S
  | (f, g) :: r, ρ, S => (f ρ S).bind fun x S1 => match keyOf x with
    | some k => (g ρ S1).bind fun y S2 => (evP r ρ S2).bind fun kvs S3 => .ok ((k, y) :: kvs) S3
    | none => .bad
def mergeD (kvs more : List (Key × W)) : List (Key × W) := more.foldl (fun acc kv => putD acc kv.1 kv.2) kvs
def fDisp (ps : List (Fe W × Fe W)) : Fe W := fun ρ S => (evP ps ρ (S ++ [.dic []])).bind fun kvs S1 => match S1[S.length]? with
  | some (.dic []) => .ok (.o S.length) (S1.set S.length (.dic (mergeD [] kvs)))
  | _ => .bad
section
variable {Γ : Gm} {X : Cx} {Z : WX} {pos : Pos}
def trsOf (Γ : Gm) (K : PySem.W.Frag) (Z : WX) (ps : List (Fe W × Fe W)) : List (TE × TE) := ps.map fun p => (liftR Γ K Z (RW K) p.1, liftR Γ K Z (RW K) p.2)
structure VPs (Γ : Gm) (X : Cx) (Z : WX) (pos : Pos) (keys : List (Option Expr)) (values : List Expr) (ps : List (Fe W × Fe W)) : Prop where
  pp : PPs X pos keys values (trsOf Γ X.K Z ps)
theorem vps_nil : VPs Γ X Z pos [] [] [] := ⟨pps_nil⟩
theorem vps_cons {k v : Expr} {ks : List (Option Expr)} {vs : List Expr} {f g : Fe W} {ps : List (Fe W × Fe W)} (hk : VE Γ X Z k f) (hv : VE Γ X Z v g) (hr : VPs Γ X Z pos ks vs ps) : VPs Γ X Z pos (some k :: ks) (v :: vs) ((f, g) :: ps) := ⟨pps_cons hk.pe hv.pe hr.pp⟩
def RKV (K : PySem.W.Frag) (w : Wd) : List (V × V) → List (Key × W) → Prop := Paired fun p q => p.1 = kV q.1 ∧ RW K w p.2 q.2
theorem RKV.mono {K : PySem.W.Frag} {w w1 : Wd} (l : w.le w1) {ps : List (V × V)} {kvs : List (Key × W)} (r : RKV K w ps kvs) : RKV K w1 ps kvs := Paired.imp (fun _ _ q => ⟨q.1, RW.mono l q.2⟩) r
theorem pairs_lift {K : PySem.W.Frag} : ∀ {ps : List (Fe W × Fe W)} {w : Wd} {ρ : Slt} {σ : L2.St} {Q : List (V × V) → Hp → Prop}, Good Γ K w → Slots K w σ ρ → Post Γ K (RKV K) w σ Z (evP ps ρ w.S) Q → tPairs (trsOf Γ K Z ps) σ w.H Q
  | [], w, ρ, σ, Q, G, s, p => p w [] rfl (Wd.le.refl _) G .nil
  | (f, g) :: r, w, ρ, σ, Q, G, s, p => by
    unfold evP at p
    refine ⟨w, ρ, rfl, G, s, (Post.bind (R := RW K) p).imp fun v H1 ⟨w1, x, e1, G1, l1, rx, p1⟩ => ?_⟩
    subst e1
    split at p1
    · rename_i k ek
      refine ⟨w1, ρ, rfl, G1, s.mono l1, (Post.bind (R := RW K) p1).imp fun u H2 ⟨w2, y, e2, G2, l2, ry, p2⟩ => ?_⟩
      subst e2
      refine pairs_lift G2 (s.mono (l1.trans l2)) ((Post.bind (R := RKV K) p2).imp fun qs H3 ⟨w3, kvs, e3, G3, l3, rk, p3⟩ => ?_)
      subst e3
      exact p3 w3 ((v, u) :: qs) rfl (Wd.le.refl _) G3 (.cons ⟨keyOf_ok rx ek, RW.mono l3 ry⟩ rk)
    · exact p1.elim
theorem rkv_keys {K : PySem.W.Frag} {w : Wd} : ∀ {ps : List (V × V)} {kvs : List (Key × W)}, RKV K w ps kvs → ∃ us : List (Key × V), ps = us.map (fun kv => (kV kv.1, kv.2)) ∧ Paired (fun (p : Key × V) (q : Key × W) => p.1 = q.1 ∧ RW K w p.2 q.2) us kvs
  | _, _, .nil => ⟨[], rfl, .nil⟩
  | _, _, .cons (a := a) (b := b) q r => by
    obtain ⟨us, e, h⟩ := rkv_keys r
    exact ⟨(b.1, a.2) :: us, by rw [List.map_cons, ← e, ← q.1], .cons ⟨rfl, q.2⟩ h⟩
theorem merge_ok {K : PySem.W.Frag} {w : Wd} : ∀ {more : List (Key × V)} {mo : List (Key × W)} {us : List (Key × V)} {kvs : List (Key × W)}, Paired (fun (p : Key × V) (q : Key × W) => p.1 = q.1 ∧ RW K w p.2 q.2) more mo →
    Paired (fun (p : Key × V) (q : Key × W) => p.1 = q.1 ∧ RW K w p.2 q.2) us kvs → Paired (fun (p : Key × V) (q : Key × W) => p.1 = q.1 ∧ RW K w p.2 q.2) (mergeK us more) (mergeD kvs mo)
  | _, _, _, _, .nil, h => h
  | _, _, _, _, .cons (a := a) (b := b) q r, h => by
    show Paired _ (mergeK (putK _ a.1 a.2) _) (mergeD (putD _ b.1 b.2) _)
    rw [q.1]
    exact merge_ok r (putD_ok h q.2)
theorem evP_len : ∀ {ps : List (Fe W × Fe W)} {ρ : Slt} {S S' : Sto} {kvs : List (Key × W)}, evP ps ρ S = .ok kvs S' → kvs.length = ps.length
  | [], _, _, _, _, h => by cases h; rfl
  | (f, g) :: r, ρ, S, S', kvs, h => by
    unfold evP at h
    cases e1 : f ρ S with
    | bad => simp [e1] at h
    | ex e T => simp [e1] at h
    | ok x S1 =>
      simp only [e1, Out.bind] at h
      split at h
      · cases e2 : g ρ S1 with
        | bad => simp [e2] at h
        | ex e T => simp [e2] at h
        | ok y S2 =>
          simp only [e2, Out.bind] at h
          cases e3 : evP r ρ S2 with
          | bad => simp [e3] at h
          | ex e T => simp [e3] at h
          | ok z S3 =>
            simp only [e3] at h
            cases h
            have := evP_len e3
            simp [this]
      · cases h
theorem ve_disp {keys : List (Option Expr)} {values : List Expr} {ps : List (Fe W × Fe W)} (h : VPs Γ X Z pos keys values ps) (hall : keys.all (·.isSome) = true := by rfl) (hl : keys.length = values.length := by rfl) (h0 : keys ≠ [] := by (intro z; cases z)) (h15 : keys.length ≤ 15 := by decide) (h16 : ps.length ≤ 15 := by decide) :
    VE Γ X Z (.Dict keys values pos) (fDisp ps) := by
  refine ⟨PE.mono (pe_disp h.pp hall hl h0 h15) fun σ H Q ⟨w, ρ, e, G, s, p⟩ => ?_⟩
  subst e
  intro D hD
  unfold fDisp at p
  obtain ⟨G1, l1⟩ := G.alloc (c := .dic []) hD (.dK []) (fun w1 l e => ⟨[], e, .nil⟩) rfl
  have hD1 : (Wd.mk (w.μ ++ [D]) (w.S ++ [.dic []]) (upd w.H D (.dK []))).μ[w.S.length]? = some D := by
    show (w.μ ++ [D])[w.S.length]? = _
    rw [← G.len]; simp
  have p1 := Post.mono l1 p
  cases ee : evP ps ρ (w.S ++ [.dic []]) with
  | bad => rw [ee] at p1; exact p1.elim
  | ex e S1 =>
    refine pairs_lift (w := ⟨w.μ ++ [D], w.S ++ [.dic []], upd w.H D (.dK [])⟩) G1 (s.mono l1) ?_
    rw [ee] at p1 ⊢
    exact p1
  | ok kvs S1 =>
    refine pairs_lift (w := ⟨w.μ ++ [D], w.S ++ [.dic []], upd w.H D (.dK [])⟩) G1 (s.mono l1) ?_
    have hlen := evP_len ee
    rw [ee] at p1 ⊢
    intro w2 vs e2 l2 G2 rk
    simp only [Out.bind] at p1
    have p2 := Post.mono l2 p1
    subst e2
    have hD2 : w2.μ[w.S.length]? = some D := l2.at hD1
    split at p2
    · rename_i ec
      obtain ⟨us0, hu0, r0⟩ := G2.cell _ D _ hD2 ec
      cases r0
      obtain ⟨us, eu, ru⟩ := rkv_keys rk
      have hl2 := Paired.len ru
      refine ⟨hu0, us, eu, by omega, ?_⟩
      have rm := merge_ok ru (us := []) (kvs := []) .nil
      obtain ⟨G3, l3⟩ := G2.write (c' := .dic (mergeD [] kvs)) hD2 ec rfl (.dK (mergeK [] us)) (fun w1 l e => ⟨_, e, Paired.imp (fun _ _ q => ⟨q.1, RW.mono l q.2⟩) rm⟩) rfl
      exact p2 ⟨w2.μ, w2.S.set w.S.length (.dic (mergeD [] kvs)), upd w2.H D (.dK (mergeK [] us))⟩ (.ref D) rfl l3 G3 ⟨D, hD2, rfl⟩
    · exact p2.elim
/-! ### try of what raises nothing -/
def fTry0 (b : Fs) : Fs := fun ρ S => match b ρ S with
  | .ex _ _ _ => .bad
  | r => r
theorem vs_try0 {body : List Stmt} {h0 : ExceptHandler} {hs : List ExceptHandler} {b : Fs} (hb : VB Γ X.nox noZ body b) : VS Γ X Z (.Try body (h0 :: hs) [] [] pos) (fTry0 b) := by
  refine ⟨PS.mono (ps_try_thru0 hb.ps) fun D σ H ⟨w, ρ, e, G, s, p⟩ => ⟨w, ρ, e, G, s, ?_⟩⟩
  unfold fTry0 at p
  cases eb : b ρ w.S with
  | ex _ _ _ => rw [eb] at p; exact p.elim
  | nx _ _ => rw [eb] at p; exact p
  | rt _ _ => rw [eb] at p; exact p
  | bk _ _ => rw [eb] at p; exact p
  | ct _ _ => rw [eb] at p; exact p
  | bad => rw [eb] at p; exact p
end
end G
set_option Elab.async false
set_option linter.all false
set_option maxRecDepth 100000
set_option maxHeartbeats 4000000
/-! G14: short names for a printer of derivations -/
namespace G
open PySem PySem.Spec L2 PyProof.Rows
set_option autoImplicit false
section
variable {Γ : Gm} {X : Cx} {Z : WX} {pos : Pos} {a b c : Expr} {f g h : Fe W}
abbrev gSub : Op2 := gInt fun i j => .int (i - j)
theorem ve_add (ha : VE Γ X Z a f) (hb : VE Γ X Z b g) : VE Γ X Z (.BinOp a .Add b pos) (fOp2 gAdd f g) := ve_op op_addA does_add ha hb
theorem ve_sub (ha : VE Γ X Z a f) (hb : VE Γ X Z b g) : VE Γ X Z (.BinOp a .Sub b pos) (fOp2 gSub f g) := ve_op op_sub (does_int fun _ _ _ _ => Dp.int _) ha hb
theorem ve_mul (ha : VE Γ X Z a f) (hb : VE Γ X Z b g) : VE Γ X Z (.BinOp a .Mult b pos) (fOp2 gMulT f g) := ve_op op_mulC does_mulC ha hb
theorem ve_fdv (ha : VE Γ X Z a f) (hb : VE Γ X Z b g) : VE Γ X Z (.BinOp a .FloorDiv b pos) (fOp2 gDiv f g) := ve_op op_fdivA does_div ha hb
theorem ve_md (ha : VE Γ X Z a f) (hb : VE Γ X Z b g) : VE Γ X Z (.BinOp a .Mod b pos) (fOp2 gMod f g) := ve_op op_mod does_mod ha hb
theorem ve_pw (ha : VE Γ X Z a f) (hb : VE Γ X Z b g) : VE Γ X Z (.BinOp a .Pow b pos) (fOp2 gPow f g) := ve_op op_pow does_pow ha hb
theorem rmu (hu : Rm X) : X.A.units + 64 < cLine := by unfold Rm at hu; omega
abbrev cLt : Op2 := gLt PySem.W.dataLt
abbrev cGt : Op2 := gLt fun x y => PySem.W.dataLt y x
abbrev cLe : Op2 := gLt fun x y => !PySem.W.dataLt y x
abbrev cGe : Op2 := gLt fun x y => !PySem.W.dataLt x y
theorem ol_lt (hu : Rm X) : OpR X (compareOp .Lt) (rLtD X.K PySem.W.dataLt) := op_ltD hu fun A s a b da db as bs Q E r1 r2 h1 h2 h3 q => PySem.W.lt_data r1 r2 h1 h2 h3 q
theorem ol_gt (hu : Rm X) : OpR X (compareOp .Gt) (rLtD X.K fun x y => PySem.W.dataLt y x) := op_ltD hu fun A s a b da db as bs Q E r1 r2 h1 h2 h3 q => PySem.W.gt_data r1 r2 h1 h2 h3 q
theorem ol_le (hu : Rm X) : OpR X (compareOp .LtE) (rLtD X.K fun x y => !PySem.W.dataLt y x) := op_ltD hu fun A s a b da db as bs Q E r1 r2 h1 h2 h3 q => PySem.W.le_data r1 r2 h1 h2 h3 q
theorem ol_ge (hu : Rm X) : OpR X (compareOp .GtE) (rLtD X.K fun x y => !PySem.W.dataLt x y) := op_ltD hu fun A s a b da db as bs Q E r1 r2 h1 h2 h3 q => PySem.W.ge_data r1 r2 h1 h2 h3 q
theorem ve_eq (hu : Rm X) (ha : VE Γ X Z a f) (hb : VE Γ X Z b g) : VE Γ X Z (.Compare a [.Eq] [b] pos) (fOp2 (dEq false) f g) := ve_cmp (op_eqD (rmu hu)) does_eq (nomark _) ha hb
theorem ve_ne (hu : Rm X) (ha : VE Γ X Z a f) (hb : VE Γ X Z b g) : VE Γ X Z (.Compare a [.NotEq] [b] pos) (fOp2 (dEq true) f g) := ve_cmp (op_neD (rmu hu)) does_ne (nomark _) ha hb
theorem ve_lt (hu : Rm X) (ha : VE Γ X Z a f) (hb : VE Γ X Z b g) : VE Γ X Z (.Compare a [.Lt] [b] pos) (fOp2 (cLt) f g) := ve_cmp (ol_lt hu) does_lt (nomark _) ha hb
theorem ve_gt (hu : Rm X) (ha : VE Γ X Z a f) (hb : VE Γ X Z b g) : VE Γ X Z (.Compare a [.Gt] [b] pos) (fOp2 (cGt) f g) := ve_cmp (ol_gt hu) does_lt (nomark _) ha hb
theorem ve_le (hu : Rm X) (ha : VE Γ X Z a f) (hb : VE Γ X Z b g) : VE Γ X Z (.Compare a [.LtE] [b] pos) (fOp2 (cLe) f g) := ve_cmp (ol_le hu) does_lt (nomark _) ha hb
theorem ve_ge (hu : Rm X) (ha : VE Γ X Z a f) (hb : VE Γ X Z b g) : VE Γ X Z (.Compare a [.GtE] [b] pos) (fOp2 (cGe) f g) := ve_cmp (ol_ge hu) does_lt (nomark _) ha hb
theorem ve_isN (ha : VE Γ X Z a f) (hb : VE Γ X Z b g) : VE Γ X Z (.Compare a [.Is] [b] pos) (fOp2 (gIsN false) f g) := ve_cmp op_isN does_isN (nomark _) ha hb
theorem ve_isnN (ha : VE Γ X Z a f) (hb : VE Γ X Z b g) : VE Γ X Z (.Compare a [.IsNot] [b] pos) (fOp2 (gIsN true) f g) := ve_cmp op_notN does_notN (nomark _) ha hb
theorem ve_in (hu : Rm X) (ha : VE Γ X Z a f) (hb : VE Γ X Z b g) (hm : behindInMarks .In b = false := by with_unfolding_all rfl) : VE Γ X Z (.Compare a [.In] [b] pos) (fOp2 (gIn false) f g) := ve_cmp (op_inA hu) does_in hm ha hb
theorem ve_nin (hu : Rm X) (ha : VE Γ X Z a f) (hb : VE Γ X Z b g) (hm : behindInMarks .NotIn b = false := by with_unfolding_all rfl) : VE Γ X Z (.Compare a [.NotIn] [b] pos) (fOp2 (gIn true) f g) := ve_cmp (op_notInA hu) does_in hm ha hb
theorem ve_eqeq (hu : Rm X) (ha : VE Γ X Z a f) (hb : VE Γ X Z b g) (hc : VE Γ X Z c h) (hm : lastMarks [.Eq, .Eq] [b, c] = false := by with_unfolding_all rfl) : VE Γ X Z (.Compare a [.Eq, .Eq] [b, c] pos) (fChain (dEq false) (dEq false) f g h) := ve_chain (op_eqD (rmu hu)) does_eq (op_eqD (rmu hu)) does_eq ha hb hc fun x y z => pe_chain (op_eqD (rmu hu)) (op_eqD (rmu hu)) x y z hm
theorem ve_eqne (hu : Rm X) (ha : VE Γ X Z a f) (hb : VE Γ X Z b g) (hc : VE Γ X Z c h) (hm : lastMarks [.Eq, .NotEq] [b, c] = false := by with_unfolding_all rfl) : VE Γ X Z (.Compare a [.Eq, .NotEq] [b, c] pos) (fChain (dEq false) (dEq true) f g h) := ve_chain (op_eqD (rmu hu)) does_eq (op_neD (rmu hu)) does_ne ha hb hc fun x y z => pe_chain (op_eqD (rmu hu)) (op_neD (rmu hu)) x y z hm
theorem ve_nene (hu : Rm X) (ha : VE Γ X Z a f) (hb : VE Γ X Z b g) (hc : VE Γ X Z c h) (hm : lastMarks [.NotEq, .NotEq] [b, c] = false := by with_unfolding_all rfl) : VE Γ X Z (.Compare a [.NotEq, .NotEq] [b, c] pos) (fChain (dEq true) (dEq true) f g h) := ve_chain (op_neD (rmu hu)) does_ne (op_neD (rmu hu)) does_ne ha hb hc fun x y z => pe_chain (op_neD (rmu hu)) (op_neD (rmu hu)) x y z hm
theorem ve_ltlt (hu : Rm X) (ha : VE Γ X Z a f) (hb : VE Γ X Z b g) (hc : VE Γ X Z c h) (hm : lastMarks [.Lt, .Lt] [b, c] = false := by with_unfolding_all rfl) : VE Γ X Z (.Compare a [.Lt, .Lt] [b, c] pos) (fChain (cLt) (cLt) f g h) := ve_chain (ol_lt hu) does_lt (ol_lt hu) does_lt ha hb hc fun x y z => pe_chain (ol_lt hu) (ol_lt hu) x y z hm
theorem ve_ltle (hu : Rm X) (ha : VE Γ X Z a f) (hb : VE Γ X Z b g) (hc : VE Γ X Z c h) (hm : lastMarks [.Lt, .LtE] [b, c] = false := by with_unfolding_all rfl) : VE Γ X Z (.Compare a [.Lt, .LtE] [b, c] pos) (fChain (cLt) (cLe) f g h) := ve_chain (ol_lt hu) does_lt (ol_le hu) does_lt ha hb hc fun x y z => pe_chain (ol_lt hu) (ol_le hu) x y z hm
theorem ve_gtgt (hu : Rm X) (ha : VE Γ X Z a f) (hb : VE Γ X Z b g) (hc : VE Γ X Z c h) (hm : lastMarks [.Gt, .Gt] [b, c] = false := by with_unfolding_all rfl) : VE Γ X Z (.Compare a [.Gt, .Gt] [b, c] pos) (fChain (cGt) (cGt) f g h) := ve_chain (ol_gt hu) does_lt (ol_gt hu) does_lt ha hb hc fun x y z => pe_chain (ol_gt hu) (ol_gt hu) x y z hm
theorem ve_lelt (hu : Rm X) (ha : VE Γ X Z a f) (hb : VE Γ X Z b g) (hc : VE Γ X Z c h) (hm : lastMarks [.LtE, .Lt] [b, c] = false := by with_unfolding_all rfl) : VE Γ X Z (.Compare a [.LtE, .Lt] [b, c] pos) (fChain (cLe) (cLt) f g h) := ve_chain (ol_le hu) does_lt (ol_lt hu) does_lt ha hb hc fun x y z => pe_chain (ol_le hu) (ol_lt hu) x y z hm
theorem ve_lele (hu : Rm X) (ha : VE Γ X Z a f) (hb : VE Γ X Z b g) (hc : VE Γ X Z c h) (hm : lastMarks [.LtE, .LtE] [b, c] = false := by with_unfolding_all rfl) : VE Γ X Z (.Compare a [.LtE, .LtE] [b, c] pos) (fChain (cLe) (cLe) f g h) := ve_chain (ol_le hu) does_lt (ol_le hu) does_lt ha hb hc fun x y z => pe_chain (ol_le hu) (ol_le hu) x y z hm
theorem ve_gege (hu : Rm X) (ha : VE Γ X Z a f) (hb : VE Γ X Z b g) (hc : VE Γ X Z c h) (hm : lastMarks [.GtE, .GtE] [b, c] = false := by with_unfolding_all rfl) : VE Γ X Z (.Compare a [.GtE, .GtE] [b, c] pos) (fChain (cGe) (cGe) f g h) := ve_chain (ol_ge hu) does_lt (ol_ge hu) does_lt ha hb hc fun x y z => pe_chain (ol_ge hu) (ol_ge hu) x y z hm
theorem bc_len {fa : Fe (List W)} (hm : X.mg "len" = none) (ha : VA Γ X Z [a] fa) {p : Pos} (hg : Gl X "len" := by rfl) (he : starEach [a] X.env = (false, eval a X.env) :: starEach [] X.env := by rfl) (hpl : (backTo pos (starEach [] X.env)).any (·.1) = false := by rfl) : VE Γ X Z (.Call (.Name "len" p) [a] [] pos) (fCB (gLen) fa) := ve_callB (x := "len") (call_len_seq) does_len hg hm (by decide +kernel) ha (by decide +kernel) (by decide +kernel) he hpl
theorem bc_abs {fa : Fe (List W)} (hm : X.mg "abs" = none) (ha : VA Γ X Z [a] fa) {p : Pos} (hg : Gl X "abs" := by rfl) (he : starEach [a] X.env = (false, eval a X.env) :: starEach [] X.env := by rfl) (hpl : (backTo pos (starEach [] X.env)).any (·.1) = false := by rfl) : VE Γ X Z (.Call (.Name "abs" p) [a] [] pos) (fCB (gAbs) fa) := ve_callB (x := "abs") (call_abs) does_abs hg hm (by decide +kernel) ha (by decide +kernel) (by decide +kernel) he hpl
theorem bc_list {fa : Fe (List W)} (hm : X.mg "list" = none) (ha : VA Γ X Z [a] fa) {p : Pos} (hg : Gl X "list" := by rfl) (he : starEach [a] X.env = (false, eval a X.env) :: starEach [] X.env := by rfl) (hpl : (backTo pos (starEach [] X.env)).any (·.1) = false := by rfl) : VE Γ X Z (.Call (.Name "list" p) [a] [] pos) (fCB (gList) fa) := ve_callTy (x := "list") (call_list_of) does_list hg hm (by decide +kernel) ha (by decide +kernel) (by decide +kernel) he hpl
theorem bc_tuple {fa : Fe (List W)} (hm : X.mg "tuple" = none) (ha : VA Γ X Z [a] fa) {p : Pos} (hg : Gl X "tuple" := by rfl) (he : starEach [a] X.env = (false, eval a X.env) :: starEach [] X.env := by rfl) (hpl : (backTo pos (starEach [] X.env)).any (·.1) = false := by rfl) : VE Γ X Z (.Call (.Name "tuple" p) [a] [] pos) (fCB (gTuple) fa) := ve_callTy (x := "tuple") (call_tuple_of) does_tuple hg hm (by decide +kernel) ha (by decide +kernel) (by decide +kernel) he hpl
theorem bc_int {fa : Fe (List W)} (hm : X.mg "int" = none) (ha : VA Γ X Z [a] fa) {p : Pos} (hg : Gl X "int" := by rfl) (he : starEach [a] X.env = (false, eval a X.env) :: starEach [] X.env := by rfl) (hpl : (backTo pos (starEach [] X.env)).any (·.1) = false := by rfl) : VE Γ X Z (.Call (.Name "int" p) [a] [] pos) (fCB (gInt1) fa) := ve_callTy (x := "int") (call_int1) does_int1 hg hm (by decide +kernel) ha (by decide +kernel) (by decide +kernel) he hpl
theorem bc_sum {fa : Fe (List W)} (hm : X.mg "sum" = none) (hc : X.calm = true) (ha : VA Γ X Z [a] fa) {p : Pos} (hg : Gl X "sum" := by rfl) (he : starEach [a] X.env = (false, eval a X.env) :: starEach [] X.env := by rfl) (hpl : (backTo pos (starEach [] X.env)).any (·.1) = false := by rfl) : VE Γ X Z (.Call (.Name "sum" p) [a] [] pos) (fCB (gSum) fa) := ve_callB (x := "sum") (call_sumA hc) does_sum hg hm (by decide +kernel) ha (by decide +kernel) (by decide +kernel) he hpl
theorem bc_all {fa : Fe (List W)} (hm : X.mg "all" = none) (hc : X.calm = true) (ha : VA Γ X Z [a] fa) {p : Pos} (hg : Gl X "all" := by rfl) (he : starEach [a] X.env = (false, eval a X.env) :: starEach [] X.env := by rfl) (hpl : (backTo pos (starEach [] X.env)).any (·.1) = false := by rfl) : VE Γ X Z (.Call (.Name "all" p) [a] [] pos) (fCB (gAll fun bs => bs.all id) fa) := ve_callB (x := "all") (cr_all hc) does_all hg hm (by decide +kernel) ha (by decide +kernel) (by decide +kernel) he hpl
theorem bc_any {fa : Fe (List W)} (hm : X.mg "any" = none) (hc : X.calm = true) (ha : VA Γ X Z [a] fa) {p : Pos} (hg : Gl X "any" := by rfl) (he : starEach [a] X.env = (false, eval a X.env) :: starEach [] X.env := by rfl) (hpl : (backTo pos (starEach [] X.env)).any (·.1) = false := by rfl) : VE Γ X Z (.Call (.Name "any" p) [a] [] pos) (fCB (gAll fun bs => bs.any id) fa) := ve_callB (x := "any") (cr_any hc) does_all hg hm (by decide +kernel) ha (by decide +kernel) (by decide +kernel) he hpl
theorem bc_min2 {fa : Fe (List W)} (hm : X.mg "min" = none) (hc : X.calm = true) (hu : Rm X) (ha : VA Γ X Z [a, b] fa) {p : Pos} (hg : Gl X "min" := by rfl) (he : starEach [a, b] X.env = (false, eval a X.env) :: starEach [b] X.env := by rfl) (hpl : (backTo pos (starEach [b] X.env)).any (·.1) = false := by rfl) : VE Γ X Z (.Call (.Name "min" p) [a, b] [] pos) (fCB (gMM PySem.W.minD 2) fa) := ve_callB (x := "min") (call_min2D hc hu) does_mm hg hm (by decide +kernel) ha (by decide +kernel) (by decide +kernel) he hpl
theorem bc_max2 {fa : Fe (List W)} (hm : X.mg "max" = none) (hc : X.calm = true) (hu : Rm X) (ha : VA Γ X Z [a, b] fa) {p : Pos} (hg : Gl X "max" := by rfl) (he : starEach [a, b] X.env = (false, eval a X.env) :: starEach [b] X.env := by rfl) (hpl : (backTo pos (starEach [b] X.env)).any (·.1) = false := by rfl) : VE Γ X Z (.Call (.Name "max" p) [a, b] [] pos) (fCB (gMM PySem.W.maxD 2) fa) := ve_callB (x := "max") (call_max2D hc hu) does_mm hg hm (by decide +kernel) ha (by decide +kernel) (by decide +kernel) he hpl
theorem bc_min3 {fa : Fe (List W)} (hm : X.mg "min" = none) (hc : X.calm = true) (hu : Rm X) (ha : VA Γ X Z [a, b, c] fa) {p : Pos} (hg : Gl X "min" := by rfl) (he : starEach [a, b, c] X.env = (false, eval a X.env) :: starEach [b, c] X.env := by rfl) (hpl : (backTo pos (starEach [b, c] X.env)).any (·.1) = false := by rfl) : VE Γ X Z (.Call (.Name "min" p) [a, b, c] [] pos) (fCB (gMM PySem.W.minD 3) fa) := ve_callB (x := "min") (call_min3D hc hu) does_mm hg hm (by decide +kernel) ha (by decide +kernel) (by decide +kernel) he hpl
theorem bc_sorted {fa : Fe (List W)} (hm : X.mg "sorted" = none) (hu : Rm X) (ha : VA Γ X Z [a] fa) {p : Pos} (hg : Gl X "sorted" := by rfl) (he : starEach [a] X.env = (false, eval a X.env) :: starEach [] X.env := by rfl) (hpl : (backTo pos (starEach [] X.env)).any (·.1) = false := by rfl) : VE Γ X Z (.Call (.Name "sorted" p) [a] [] pos) (fCB (gSort) fa) := ve_callB (x := "sorted") (call_sortD hu) does_sort hg hm (by decide +kernel) ha (by decide +kernel) (by decide +kernel) he hpl
theorem bi_int (hm : X.mg "isinstance" = none) (hm2 : X.mg "int" = none) (ha : VE Γ X Z a f) {p p2 : Pos} (hg : Gl X "isinstance" := by rfl) (hg2 : Gl X "int" := by rfl)
    (he : starEach [a, .Name "int" p2] X.env = (false, eval a X.env) :: starEach [.Name "int" p2] X.env := by rfl)
    (he2 : starEach [.Name "int" p2] X.env = (false, eval (.Name "int" p2) X.env) :: starEach [] X.env := by rfl)
    (hpl : (backTo pos (starEach [.Name "int" p2] X.env)).any (·.1) = false := by rfl) : VE Γ X Z (.Call (.Name "isinstance" p) [a, .Name "int" p2] [] pos) (fIsi .it f) := ve_isi .it ha hg hm hg2 hm2 (by decide +kernel) (by decide +kernel) (by decide +kernel) (by decide +kernel) he he2 hpl
theorem bi_bool (hm : X.mg "isinstance" = none) (hm2 : X.mg "bool" = none) (ha : VE Γ X Z a f) {p p2 : Pos} (hg : Gl X "isinstance" := by rfl) (hg2 : Gl X "bool" := by rfl)
    (he : starEach [a, .Name "bool" p2] X.env = (false, eval a X.env) :: starEach [.Name "bool" p2] X.env := by rfl)
    (he2 : starEach [.Name "bool" p2] X.env = (false, eval (.Name "bool" p2) X.env) :: starEach [] X.env := by rfl)
    (hpl : (backTo pos (starEach [.Name "bool" p2] X.env)).any (·.1) = false := by rfl) : VE Γ X Z (.Call (.Name "isinstance" p) [a, .Name "bool" p2] [] pos) (fIsi .bl f) := ve_isi .bl ha hg hm hg2 hm2 (by decide +kernel) (by decide +kernel) (by decide +kernel) (by decide +kernel) he he2 hpl
theorem bi_tuple (hm : X.mg "isinstance" = none) (hm2 : X.mg "tuple" = none) (ha : VE Γ X Z a f) {p p2 : Pos} (hg : Gl X "isinstance" := by rfl) (hg2 : Gl X "tuple" := by rfl)
    (he : starEach [a, .Name "tuple" p2] X.env = (false, eval a X.env) :: starEach [.Name "tuple" p2] X.env := by rfl)
    (he2 : starEach [.Name "tuple" p2] X.env = (false, eval (.Name "tuple" p2) X.env) :: starEach [] X.env := by rfl)
    (hpl : (backTo pos (starEach [.Name "tuple" p2] X.env)).any (·.1) = false := by rfl) : VE Γ X Z (.Call (.Name "isinstance" p) [a, .Name "tuple" p2] [] pos) (fIsi .tp f) := ve_isi .tp ha hg hm hg2 hm2 (by decide +kernel) (by decide +kernel) (by decide +kernel) (by decide +kernel) he he2 hpl
theorem bi_list (hm : X.mg "isinstance" = none) (hm2 : X.mg "list" = none) (ha : VE Γ X Z a f) {p p2 : Pos} (hg : Gl X "isinstance" := by rfl) (hg2 : Gl X "list" := by rfl)
    (he : starEach [a, .Name "list" p2] X.env = (false, eval a X.env) :: starEach [.Name "list" p2] X.env := by rfl)
    (he2 : starEach [.Name "list" p2] X.env = (false, eval (.Name "list" p2) X.env) :: starEach [] X.env := by rfl)
    (hpl : (backTo pos (starEach [.Name "list" p2] X.env)).any (·.1) = false := by rfl) : VE Γ X Z (.Call (.Name "isinstance" p) [a, .Name "list" p2] [] pos) (fIsi .ls f) := ve_isi .ls ha hg hm hg2 hm2 (by decide +kernel) (by decide +kernel) (by decide +kernel) (by decide +kernel) he he2 hpl
theorem bi_dict (hm : X.mg "isinstance" = none) (hm2 : X.mg "dict" = none) (ha : VE Γ X Z a f) {p p2 : Pos} (hg : Gl X "isinstance" := by rfl) (hg2 : Gl X "dict" := by rfl)
    (he : starEach [a, .Name "dict" p2] X.env = (false, eval a X.env) :: starEach [.Name "dict" p2] X.env := by rfl)
    (he2 : starEach [.Name "dict" p2] X.env = (false, eval (.Name "dict" p2) X.env) :: starEach [] X.env := by rfl)
    (hpl : (backTo pos (starEach [.Name "dict" p2] X.env)).any (·.1) = false := by rfl) : VE Γ X Z (.Call (.Name "isinstance" p) [a, .Name "dict" p2] [] pos) (fIsi .dc f) := ve_isi .dc ha hg hm hg2 hm2 (by decide +kernel) (by decide +kernel) (by decide +kernel) (by decide +kernel) he he2 hpl
theorem bi_str (hm : X.mg "isinstance" = none) (hm2 : X.mg "str" = none) (ha : VE Γ X Z a f) {p p2 : Pos} (hg : Gl X "isinstance" := by rfl) (hg2 : Gl X "str" := by rfl)
    (he : starEach [a, .Name "str" p2] X.env = (false, eval a X.env) :: starEach [.Name "str" p2] X.env := by rfl)
    (he2 : starEach [.Name "str" p2] X.env = (false, eval (.Name "str" p2) X.env) :: starEach [] X.env := by rfl)
    (hpl : (backTo pos (starEach [.Name "str" p2] X.env)).any (·.1) = false := by rfl) : VE Γ X Z (.Call (.Name "isinstance" p) [a, .Name "str" p2] [] pos) (fIsi .st f) := ve_isi .st ha hg hm hg2 hm2 (by decide +kernel) (by decide +kernel) (by decide +kernel) (by decide +kernel) he he2 hpl
theorem bm_append {o e : Expr} {fo : Fe W} {fe : Fe (List W)} {apos cpos : Pos} (ho : VE Γ X Z o fo) (ha : VA Γ X Z [e] fe)
    (hbase : attributeBase o "append" X.env (eval o X.env) = eval o X.env := by rfl)
    (hfew : ((backTo cpos (starEach [e] X.env)).all (fun x => !x.1) && (backToKw cpos (keywordEach [] X.env)).all (fun x => x.1.isSome)
      && decide ([e].length + ([] : List Keyword).length + (if ([] : List Keyword).isEmpty then 0 else 1) < 30)) = true := by rfl)
    (hline : (apos.endLine == cpos.line) = true := by rfl) (hs : starEach [e] X.env = (false, eval e X.env) :: starEach [] X.env := by rfl) (hplain : (backTo cpos (starEach [] X.env)).any (·.1) = false := by rfl) :
    VE Γ X Z (.Call (.Attribute o "append" apos) [e] [] cpos) (fMt gApp fo fe) := ve_mt PySem.F.slot_list_append PySem.F.type_list_append mt_append does_app ho ha hbase hfew hline hs hplain
theorem bm_pop {o e : Expr} {fo : Fe W} {fe : Fe (List W)} {apos cpos : Pos} (ho : VE Γ X Z o fo) (ha : VA Γ X Z [e] fe)
    (hbase : attributeBase o "pop" X.env (eval o X.env) = eval o X.env := by rfl)
    (hfew : ((backTo cpos (starEach [e] X.env)).all (fun x => !x.1) && (backToKw cpos (keywordEach [] X.env)).all (fun x => x.1.isSome)
      && decide ([e].length + ([] : List Keyword).length + (if ([] : List Keyword).isEmpty then 0 else 1) < 30)) = true := by rfl)
    (hline : (apos.endLine == cpos.line) = true := by rfl) (hs : starEach [e] X.env = (false, eval e X.env) :: starEach [] X.env := by rfl) (hplain : (backTo cpos (starEach [] X.env)).any (·.1) = false := by rfl) :
    VE Γ X Z (.Call (.Attribute o "pop" apos) [e] [] cpos) (fMt gPopAt fo fe) := ve_mt PySem.F.slot_list_pop PySem.F.type_list_pop mt_popAt does_popAt ho ha hbase hfew hline hs hplain
theorem bm_extend {o e : Expr} {fo : Fe W} {fe : Fe (List W)} {apos cpos : Pos} (ho : VE Γ X Z o fo) (ha : VA Γ X Z [e] fe)
    (hbase : attributeBase o "extend" X.env (eval o X.env) = eval o X.env := by rfl)
    (hfew : ((backTo cpos (starEach [e] X.env)).all (fun x => !x.1) && (backToKw cpos (keywordEach [] X.env)).all (fun x => x.1.isSome)
      && decide ([e].length + ([] : List Keyword).length + (if ([] : List Keyword).isEmpty then 0 else 1) < 30)) = true := by rfl)
    (hline : (apos.endLine == cpos.line) = true := by rfl) (hs : starEach [e] X.env = (false, eval e X.env) :: starEach [] X.env := by rfl) (hplain : (backTo cpos (starEach [] X.env)).any (·.1) = false := by rfl) :
    VE Γ X Z (.Call (.Attribute o "extend" apos) [e] [] cpos) (fMt gExt fo fe) := ve_mt PySem.F.slot_list_extend PySem.F.type_list_extend mt_extA does_ext ho ha hbase hfew hline hs hplain
/-- what is read of a module's constant -/
theorem gl_int {K : PySem.W.Frag} {mg : Str → Option Value} {x : Str} {i : Int} (h : ∃ t, mg x = some (.int i t)) : GlD K mg x (.int i) := by
  obtain ⟨t, e⟩ := h
  exact ⟨.int i, _, e, ⟨t, rfl⟩, fun H => Dp.int i⟩
theorem gl_tup {K : PySem.W.Frag} {mg : Str → Option Value} {x : Str} {q : Addr} {vs : List V} {ds : List PyData} (e : mg x = some (.ref q)) (h : ∀ H, SqT K H q vs) (d : ∀ H, DpAll K H vs ds) : GlD K mg x (.tuple ds) :=
  ⟨.ref q, _, e, rfl, fun H => Dp.tup (h H) (d H)⟩
end
end G
set_option Elab.async false
set_option linter.all false
set_option maxRecDepth 100000
set_option maxHeartbeats 4000000
/-! G15: a def with defaults, all handed in -/
namespace G
open PySem PySem.Spec L2 PyProof.Rows
set_option autoImplicit false
theorem Cal.ofAll {Γ : Gm} {P : Program} {wd : World} {K : PySem.W.Frag} {mg : Str → Option Value} {base : Heap} {k : Nat} {x qual : Str} {params : Arguments} {body : List Stmt} {scope : Scope} {dvs : List V} {kws : List (Str × V)} {f : Addr} {fd : FuncData} {ps : List Str} {F : Fn} {n : Nat}
    (D : FunD K x qual params body scope dvs kws f fd) (hm : mg x = some (.ref f)) (hn : n = ps.length) (hd : dvs ≠ [])
    (h : ∀ (T : Addr) (kV doc pm : Value) (an : Option Addr) (cdv ct : Value) (us its : List Value), us.length = ps.length → its.length = dvs.length →
      ∃ k, bindArgs (PySem.W.fnOf x qual params body scope (.ref T) kV doc pm an cdv ct) ⟨us, []⟩ = seqItems? (.ref T) >>= k ∧ k (some its.toArray) = pure (ps.zip us))
    (o : FnOk P wd K mg base (L2.CX P wd) k f fd ps (spOf Γ K ps.length F)) : Cal Γ P wd K mg base k x n [] F := by
  obtain ⟨ds, hv, hb⟩ := D.binds1 (ps := ps) ps.length dvs.length hd (by simp) fun T kV doc pm an cdv ct us its hu hi => by
    obtain ⟨k, h1, h2⟩ := h T kV doc pm an cdv ct us its hu hi
    exact ⟨k, h1, by rw [h2, ← hi, List.drop_length, List.append_nil]⟩
  rw [List.drop_length] at hv
  cases hv
  exact ⟨f, fd, ps, [], [], hm, D.kp, hb, .nil, fun _ => .nil, by simpa using hn, o⟩
end G
set_option Elab.async false
set_option linter.all false
set_option maxRecDepth 100000
set_option maxHeartbeats 4000000
/-! G16: comparisons as tests -/
namespace G
open PySem PySem.Spec L2 PyProof.Rows
set_option autoImplicit false
section
variable {Γ : Gm} {X : Cx} {Z : WX} {pos : Pos} {a b c : Expr} {f g h : Fe W}
theorem tru_lift {f : Fe W} {σ : L2.St} {H : Hp} {Q : Bool → Hp → Prop} (q : liftR Γ X.K Z RB (fTru f) σ H Q) : liftR Γ X.K Z (RW X.K) f σ H fun v H1 => ∃ k, v = .bl k ∧ Q k H1 := by
  refine liftR.imp (seq1 q) fun v H1 ⟨x, w, e, G, r, p⟩ => ?_
  subst e
  cases x with
  | d x =>
    cases x with
    | bool b => cases (show Dp X.K w.im v (.bool b) from r); exact ⟨b, rfl, p.use G rfl⟩
    | _ => exact p.elim
  | o n => exact p.elim
  | v n => exact p.elim
  | t n => exact p.elim
  | u n => exact p.elim
  | u2 n => exact p.elim
theorem vt_cmp {op : CmpOp} {r : R2} {k : Op2} (ho : OpR X (compareOp op) r) (hd : Does2 Γ X Z k r) (hm : behindInMarks op b = false) (ha : VE Γ X Z a f) (hb : VE Γ X Z b g) : VT Γ X Z (.Compare a [op] [b] pos) (fTru (fOp2 k f g)) :=
  ⟨PT.mono (pt_cmpR ho ha.pe hb.pe hm) fun _ _ _ q => op2_lift hd (tru_lift q)⟩
theorem chain_lift {r r' : R2} {g g' : Op2} {f h k : Fe W} (hd : Does2 Γ X Z g r) (hd' : Does2 Γ X Z g' r') {σ : L2.St} {H : Hp} {Q : VK} (q : liftR Γ X.K Z (RW X.K) (fChain g g' f h k) σ H Q) :
    tChain r r' (liftR Γ X.K Z (RW X.K) f) (liftR Γ X.K Z (RW X.K) h) (liftR Γ X.K Z (RW X.K) k) σ H Q := by
  refine (liftR.bind (R := RW X.K) (k := fun x ρ S1 => (h ρ S1).bind fun y S2 => (ofO (g x y S2)).bind fun z S3 => match z with
    | .d (.bool true) => (k ρ S3).bind fun u S4 => ofO (g' y u S4)
    | .d (.bool false) => .ok (.d (.bool false)) S3
    | _ => .bad) q).imp fun v H1 ⟨x, w1, ρ, e1, G1, s1, r1, p1⟩ => ?_
  refine ⟨w1, ρ, e1, G1, s1, ?_⟩
  refine (Post.bind (R := RW X.K) p1).imp fun u H2 ⟨w2, y, e2, G2, l, r2, p2⟩ => ?_
  subst e2
  refine hd.use G2 (RW.mono l r1) r2 ((Post.bind (R := RW X.K) p2).imp fun z H3 ⟨w3, zz, e3, G3, l3, r3, p3⟩ => ?_)
  subst e3
  have key : ∀ b : Bool, zz = .d (.bool b) → ∃ k', z = .bl k' ∧ if k' = true then liftR Γ X.K Z (RW X.K) k σ w3.H (fun t H4 => r' u t H4 Q) else Q (.bl false) w3.H := fun b eb => by
    subst eb
    cases (show Dp X.K w3.im z (.bool b) from r3)
    refine ⟨b, rfl, ?_⟩
    cases b with
    | true =>
      refine iteT ⟨w3, ρ, rfl, G3, (s1.mono l).mono l3, (Post.bind (R := RW X.K) p3).imp fun t H4 ⟨w4, tt, e4, G4, l4, r4, p4⟩ => ?_⟩
      subst e4
      exact hd'.use G4 (RW.mono l4 (RW.mono l3 r2)) r4 p4
    | false => exact iteF (p3.use G3 (Dp.bl false))
  cases zz with
  | d zd => cases zd <;> first | exact key _ rfl | exact p3.elim
  | o n => exact p3.elim
  | v n => exact p3.elim
  | t n => exact p3.elim
  | u n => exact p3.elim
  | u2 n => exact p3.elim
theorem vt_eq (hu : Rm X) (ha : VE Γ X Z a f) (hb : VE Γ X Z b g) : VT Γ X Z (.Compare a [.Eq] [b] pos) (fTru (fOp2 (dEq false) f g)) := vt_cmp (op_eqD (rmu hu)) does_eq (nomark _) ha hb
theorem vt_ne (hu : Rm X) (ha : VE Γ X Z a f) (hb : VE Γ X Z b g) : VT Γ X Z (.Compare a [.NotEq] [b] pos) (fTru (fOp2 (dEq true) f g)) := vt_cmp (op_neD (rmu hu)) does_ne (nomark _) ha hb
theorem vt_lt (hu : Rm X) (ha : VE Γ X Z a f) (hb : VE Γ X Z b g) : VT Γ X Z (.Compare a [.Lt] [b] pos) (fTru (fOp2 (cLt) f g)) := vt_cmp (ol_lt hu) does_lt (nomark _) ha hb
theorem vt_gt (hu : Rm X) (ha : VE Γ X Z a f) (hb : VE Γ X Z b g) : VT Γ X Z (.Compare a [.Gt] [b] pos) (fTru (fOp2 (cGt) f g)) := vt_cmp (ol_gt hu) does_lt (nomark _) ha hb
theorem vt_le (hu : Rm X) (ha : VE Γ X Z a f) (hb : VE Γ X Z b g) : VT Γ X Z (.Compare a [.LtE] [b] pos) (fTru (fOp2 (cLe) f g)) := vt_cmp (ol_le hu) does_lt (nomark _) ha hb
theorem vt_ge (hu : Rm X) (ha : VE Γ X Z a f) (hb : VE Γ X Z b g) : VT Γ X Z (.Compare a [.GtE] [b] pos) (fTru (fOp2 (cGe) f g)) := vt_cmp (ol_ge hu) does_lt (nomark _) ha hb
theorem vt_isN (ha : VE Γ X Z a f) (hb : VE Γ X Z b g) : VT Γ X Z (.Compare a [.Is] [b] pos) (fTru (fOp2 (gIsN false) f g)) := vt_cmp op_isN does_isN (nomark _) ha hb
theorem vt_isnN (ha : VE Γ X Z a f) (hb : VE Γ X Z b g) : VT Γ X Z (.Compare a [.IsNot] [b] pos) (fTru (fOp2 (gIsN true) f g)) := vt_cmp op_notN does_notN (nomark _) ha hb
theorem vt_in (hu : Rm X) (ha : VE Γ X Z a f) (hb : VE Γ X Z b g) (hm : behindInMarks .In b = false := by with_unfolding_all rfl) : VT Γ X Z (.Compare a [.In] [b] pos) (fTru (fOp2 (gIn false) f g)) := vt_cmp (op_inA hu) does_in hm ha hb
theorem vt_nin (hu : Rm X) (ha : VE Γ X Z a f) (hb : VE Γ X Z b g) (hm : behindInMarks .NotIn b = false := by with_unfolding_all rfl) : VT Γ X Z (.Compare a [.NotIn] [b] pos) (fTru (fOp2 (gIn true) f g)) := vt_cmp (op_notInA hu) does_in hm ha hb
theorem vt_eqeq (hu : Rm X) (ha : VE Γ X Z a f) (hb : VE Γ X Z b g) (hc : VE Γ X Z c h) (hm : lastMarks [.Eq, .Eq] [b, c] = false := by with_unfolding_all rfl) : VT Γ X Z (.Compare a [.Eq, .Eq] [b, c] pos) (fTru (fChain (dEq false) (dEq false) f g h)) := ⟨PT.mono (pt_chain (op_eqD (rmu hu)) (op_eqD (rmu hu)) ha.pe hb.pe hc.pe hm) fun _ _ _ q => chain_lift does_eq does_eq (tru_lift q)⟩
theorem vt_eqne (hu : Rm X) (ha : VE Γ X Z a f) (hb : VE Γ X Z b g) (hc : VE Γ X Z c h) (hm : lastMarks [.Eq, .NotEq] [b, c] = false := by with_unfolding_all rfl) : VT Γ X Z (.Compare a [.Eq, .NotEq] [b, c] pos) (fTru (fChain (dEq false) (dEq true) f g h)) := ⟨PT.mono (pt_chain (op_eqD (rmu hu)) (op_neD (rmu hu)) ha.pe hb.pe hc.pe hm) fun _ _ _ q => chain_lift does_eq does_ne (tru_lift q)⟩
theorem vt_nene (hu : Rm X) (ha : VE Γ X Z a f) (hb : VE Γ X Z b g) (hc : VE Γ X Z c h) (hm : lastMarks [.NotEq, .NotEq] [b, c] = false := by with_unfolding_all rfl) : VT Γ X Z (.Compare a [.NotEq, .NotEq] [b, c] pos) (fTru (fChain (dEq true) (dEq true) f g h)) := ⟨PT.mono (pt_chain (op_neD (rmu hu)) (op_neD (rmu hu)) ha.pe hb.pe hc.pe hm) fun _ _ _ q => chain_lift does_ne does_ne (tru_lift q)⟩
theorem vt_ltlt (hu : Rm X) (ha : VE Γ X Z a f) (hb : VE Γ X Z b g) (hc : VE Γ X Z c h) (hm : lastMarks [.Lt, .Lt] [b, c] = false := by with_unfolding_all rfl) : VT Γ X Z (.Compare a [.Lt, .Lt] [b, c] pos) (fTru (fChain (cLt) (cLt) f g h)) := ⟨PT.mono (pt_chain (ol_lt hu) (ol_lt hu) ha.pe hb.pe hc.pe hm) fun _ _ _ q => chain_lift does_lt does_lt (tru_lift q)⟩
theorem vt_ltle (hu : Rm X) (ha : VE Γ X Z a f) (hb : VE Γ X Z b g) (hc : VE Γ X Z c h) (hm : lastMarks [.Lt, .LtE] [b, c] = false := by with_unfolding_all rfl) : VT Γ X Z (.Compare a [.Lt, .LtE] [b, c] pos) (fTru (fChain (cLt) (cLe) f g h)) := ⟨PT.mono (pt_chain (ol_lt hu) (ol_le hu) ha.pe hb.pe hc.pe hm) fun _ _ _ q => chain_lift does_lt does_lt (tru_lift q)⟩
theorem vt_gtgt (hu : Rm X) (ha : VE Γ X Z a f) (hb : VE Γ X Z b g) (hc : VE Γ X Z c h) (hm : lastMarks [.Gt, .Gt] [b, c] = false := by with_unfolding_all rfl) : VT Γ X Z (.Compare a [.Gt, .Gt] [b, c] pos) (fTru (fChain (cGt) (cGt) f g h)) := ⟨PT.mono (pt_chain (ol_gt hu) (ol_gt hu) ha.pe hb.pe hc.pe hm) fun _ _ _ q => chain_lift does_lt does_lt (tru_lift q)⟩
theorem vt_lelt (hu : Rm X) (ha : VE Γ X Z a f) (hb : VE Γ X Z b g) (hc : VE Γ X Z c h) (hm : lastMarks [.LtE, .Lt] [b, c] = false := by with_unfolding_all rfl) : VT Γ X Z (.Compare a [.LtE, .Lt] [b, c] pos) (fTru (fChain (cLe) (cLt) f g h)) := ⟨PT.mono (pt_chain (ol_le hu) (ol_lt hu) ha.pe hb.pe hc.pe hm) fun _ _ _ q => chain_lift does_lt does_lt (tru_lift q)⟩
theorem vt_lele (hu : Rm X) (ha : VE Γ X Z a f) (hb : VE Γ X Z b g) (hc : VE Γ X Z c h) (hm : lastMarks [.LtE, .LtE] [b, c] = false := by with_unfolding_all rfl) : VT Γ X Z (.Compare a [.LtE, .LtE] [b, c] pos) (fTru (fChain (cLe) (cLe) f g h)) := ⟨PT.mono (pt_chain (ol_le hu) (ol_le hu) ha.pe hb.pe hc.pe hm) fun _ _ _ q => chain_lift does_lt does_lt (tru_lift q)⟩
theorem vt_gege (hu : Rm X) (ha : VE Γ X Z a f) (hb : VE Γ X Z b g) (hc : VE Γ X Z c h) (hm : lastMarks [.GtE, .GtE] [b, c] = false := by with_unfolding_all rfl) : VT Γ X Z (.Compare a [.GtE, .GtE] [b, c] pos) (fTru (fChain (cGe) (cGe) f g h)) := ⟨PT.mono (pt_chain (ol_ge hu) (ol_ge hu) ha.pe hb.pe hc.pe hm) fun _ _ _ q => chain_lift does_lt does_lt (tru_lift q)⟩
end
end G
set_option Elab.async false
set_option linter.all false
set_option maxRecDepth 100000
set_option maxHeartbeats 4000000
/-! G17: tuples that the run made, dicts by tuples -/
namespace G
open PySem PySem.Spec L2 PyProof.Rows
set_option autoImplicit false
/-! ### keys as data -/
def kDat : Key → PyData
  | .inl i => .int i
  | .inr x => .str x
def keyD1 : PyData → Option Key
  | .int i => some (.inl i)
  | .str x => some (.inr x)
  | _ => none
def keysL : List PyData → Option (List Key)
  | [] => some []
  | d :: r => match keyD1 d with
    | some k => (keysL r).map (k :: ·)
    | none => none
def keysD : PyData → Option (List Key)
  | .tuple ds => keysL ds
  | _ => none
def keyT (ks : List Key) : PyData := .tuple (ks.map kDat)
section
variable {K : PySem.W.Frag} {H : Hp}
theorem key1_v {v : V} {d : PyData} {k : Key} (h : keyD1 d = some k) (r : Dp K H v d) : v = kV k := by
  cases r <;> simp only [keyD1] at h <;> cases h <;> rfl
theorem keys_v : ∀ {ds : List PyData} {vs : List V} {ks : List Key}, keysL ds = some ks → DpAll K H vs ds → vs = ks.map kV
  | [], _, ks, h, r => by
    cases r
    cases (show some [] = some ks from h)
    rfl
  | d :: ds, _, ks, h, r => by
    cases r with
    | cons q t =>
      unfold keysL at h
      split at h
      · rename_i k ek
        obtain ⟨ks', e1, rfl⟩ := Option.map_eq_some_iff.mp h
        rw [key1_v ek q, keys_v e1 t]
        rfl
      · cases h
theorem kdat_ok : ∀ k : Key, Dp K H (kV k) (kDat k)
  | .inl i => .int i
  | .inr x => .str x
theorem kdats_ok : ∀ ks : List Key, DpAll K H (ks.map kV) (ks.map kDat)
  | [] => .nil
  | k :: r => .cons (kdat_ok k) (kdats_ok r)
end
theorem keys_kdat : ∀ ks : List Key, keysL (ks.map kDat) = some ks
  | [] => rfl
  | .inl i :: r => by
    show (keysL (r.map kDat)).map _ = _
    rw [keys_kdat r]
    rfl
  | .inr i :: r => by
    show (keysL (r.map kDat)).map _ = _
    rw [keys_kdat r]
    rfl
section
variable {Γ : Gm} {X : Cx} {Z : WX} {pos : Pos}
/-- a tuple that the heap holds is none that may be written -/
theorem Good.tup_im {K : PySem.W.Frag} {w : Wd} (G : Good Γ K w) {q : Addr} {xs : List V} (h : w.H q = some (.tup xs)) : w.im q = some (.tup xs) := by
  refine Wd.im_of h ?_ (fun ps z => by cases z)
  rintro ⟨n, c, e1, e2, e3⟩
  have z := G.cell n q c e1 e2
  cases c with
  | lst ws => obtain ⟨vs, e, _⟩ := z; rw [h] at e; cases e
  | dic ws => obtain ⟨vs, e, _⟩ := z; rw [h] at e; cases e
  | dit ws => obtain ⟨vs, e, _⟩ := z; rw [h] at e; cases e
  | fz x => cases e3
  | fd x => cases e3
  | dix ws => obtain ⟨vs, e, _⟩ := z; rw [h] at e; cases e
  | fdx x => cases e3
/-- a dict is written no more -/
theorem Good.lockD {K : PySem.W.Frag} {w : Wd} {n : Nat} {a : Addr} {kvs : List (List Key × W)} {us : List (List Key × V)} (G : Good Γ K w) (h1 : w.μ[n]? = some a) (h2 : w.S[n]? = some (.dit kvs)) (hH : w.H a = some (.dT us)) (hr : RKs K w us kvs) (od : Obj) :
    Good Γ K ⟨w.μ, w.S.set n (.fd kvs), upd w.H a (.frz od (.dT us))⟩ ∧ w.le ⟨w.μ, w.S.set n (.fd kvs), upd w.H a (.frz od (.dT us))⟩ := by
  have hn := (List.getElem?_eq_some_iff.mp h2).1
  have la : w.live a := ⟨n, _, h1, h2, rfl⟩
  have lv : ∀ b, Wd.live ⟨w.μ, w.S.set n (.fd kvs), upd w.H a (.frz od (.dT us))⟩ b → w.live b := by
    rintro b ⟨m, d, e1, e2, e3⟩
    by_cases hm : n = m
    · subst hm
      replace e2 : (w.S.set n (.fd kvs))[n]? = some d := e2
      rw [List.getElem?_set_self hn] at e2
      cases e2
      cases e3
    · replace e2 : (w.S.set n (.fd kvs))[m]? = some d := e2
      rw [List.getElem?_set_ne hm] at e2
      exact ⟨m, d, e1, e2, e3⟩
  have le : w.le ⟨w.μ, w.S.set n (.fd kvs), upd w.H a (.frz od (.dT us))⟩ := by
    refine ⟨fun b u e => ?_, [], by simp⟩
    obtain ⟨e1, e2, e3⟩ := Wd.im_some e
    have nb : b ≠ a := fun q => e2 (q ▸ la)
    exact Wd.im_of (w := ⟨w.μ, w.S.set n (.fd kvs), upd w.H a (.frz od (.dT us))⟩) (by show upd w.H a _ b = _; rw [upd_ne nb]; exact e1) (fun q => e2 (lv b q)) e3
  refine ⟨⟨by simp [G.len], G.inj, fun b hb => ?_, fun m b d e1 e2 => ?_, Γ.upd _ _ _ (.inr (.inr (.inr (.inl ⟨us, hH⟩)))) G.side⟩, le⟩
  · by_cases hb' : b = a
    · exact ⟨.frz od (.dT us), by subst hb'; exact upd_same⟩
    · obtain ⟨u, e⟩ := G.tr b hb
      exact ⟨u, by show upd w.H a _ b = _; rw [upd_ne hb']; exact e⟩
  · replace e2 : (w.S.set n (.fd kvs))[m]? = some d := e2
    by_cases hm : n = m
    · subst hm
      obtain rfl : b = a := Option.some.inj (e1.symm.trans h1)
      rw [List.getElem?_set_self hn] at e2
      cases e2
      exact ⟨od, us, upd_same, Paired.imp (fun _ _ z => ⟨z.1, RW.mono le z.2⟩) hr⟩
    · rw [List.getElem?_set_ne hm] at e2
      have nb : b ≠ a := fun q => hm (G.uniq h1 (q ▸ e1))
      exact CellOk.mono le (upd_ne nb) (G.cell m b d e1 e2)

/-! ### displays of tuples that are known to be the run's -/
def fTupT (f : Fe (List W)) : Fe W := fun ρ S => (f ρ S).bind fun xs S1 => match fzT xs S1 with
  | some (d, S2) => .ok (.t d) S2
  | none => .bad
theorem ve_tupT {es : List Expr} {f : Fe (List W)} {x1} (h : VA Γ X Z es f) : VE Γ X Z (.Tuple es x1 pos) (fTupT f) := by
  refine ⟨PE.mono (pe_tup h.pa) fun σ H Q q => liftR.imp (seq1 (R := RWs X.K) q) ?_⟩
  rintro vs H1 ⟨xs, w, rfl, G, r, p⟩
  split at p
  · rename_i d S2 e
    obtain ⟨ds, rfl, hz, F, dd⟩ := fzT_ok G r e
    have hl := Paired.len (DpAll.paired dd)
    refine ⟨by have := sz_line hz; omega, fun q hq => ?_⟩
    obtain ⟨G1, l1⟩ := F.good.new hq (.tup vs)
    refine (Post.mono F.le p) ⟨w.μ, S2, upd w.H q (.tup vs)⟩ (.ref q) rfl l1 G1 ⟨q, vs, ds, rfl, rfl, ?_, DpAll.mono l1.im dd⟩
    exact G1.tup_im upd_same
  · exact p.elim
def unT : W → W
  | .t x => .d x
  | .u x => .d x
  | .u2 x => .d x
  | x => x
def fVarD (i : Nat) : Fe W := fun ρ S => (fVar i ρ S).bind fun x S1 => .ok (unT x) S1
theorem unT_ok {K : PySem.W.Frag} {w : Wd} {v : V} : ∀ {x : W}, RW K w v x → RW K w v (unT x)
  | .d _, r => r
  | .o _, r => r
  | .v _, r => r
  | .t _, r => RW.unt r
  | .u _, r => RW.unu r
  | .u2 _, r => RW.unu2 r
theorem ve_varD (i : Nat) {e : Expr} (h : VE Γ X Z e (fVar i)) : VE Γ X Z e (fVarD i) := by
  refine ⟨PE.mono h.pe fun σ H Q q => liftR.imp (seq1 (R := RW X.K) q) ?_⟩
  rintro v H1 ⟨x, w, rfl, G, r, p⟩
  exact p.use G (unT_ok r)
/-! ### {}, d[k] = x, d[k] -/
def fNewT : Fe W := fun _ S => .ok (.o S.length) (S ++ [.dit []])
theorem ve_newT : VE Γ X Z (.Dict [] [] pos) fNewT := by
  refine ⟨PE.mono pe_dnewT ?_⟩
  rintro σ H Q ⟨w, ρ, rfl, G, s, p⟩ q hq
  obtain ⟨G1, l1⟩ := G.alloc (c := .dit []) hq (.dT []) (fun w1 l e => ⟨[], e, .nil⟩) rfl
  exact p ⟨w.μ ++ [q], w.S ++ [.dit []], upd w.H q (.dT [])⟩ (.ref q) rfl l1 G1 ⟨q, by show (w.μ ++ [q])[w.S.length]? = _; rw [← G.len]; simp, rfl⟩
def putTk (x y z : W) (S : Sto) : Option Sto := match x, y with
  | .o n, .t d => match keysD d, S[n]? with
    | some ks, some (.dit kvs) => if szOk kvs.length = true then some (S.set n (.dit (putD kvs ks z))) else none
    | _, _ => none
  | _, _ => none
def fPutT (fo fi fv : Fe W) : Fs := fun ρ S => (fv ρ S).fl ρ fun z S1 => (fo ρ S1).fl ρ fun x S2 => (fi ρ S2).fl ρ fun y S3 => match putTk x y z S3 with
  | some S4 => .nx ρ S4
  | none => .bad
theorem vs_putT {o i e : Expr} {fo fi fv : Fe W} {p' : Pos} (hu : Rm X) (he : VE Γ X Z e fv) (ho : VE Γ X Z o fo) (hi : VE Γ X Z i fi)
    (hs : swapsWith e (some (.Subscript o i p')) pos.line X.env = pure false := by rfl) : VS Γ X Z (.Assign [.Subscript o i p'] e pos) (fPutT fo fi fv) := by
  have hu' : X.A.units + 1 < cLine := by unfold Rm at hu; omega
  refine ⟨PS.mono (ps_dput hu' ho.pe hi.pe he.pe hs) fun D σ H q => ?_⟩
  refine (liftS.out (R := RW X.K) (k := fun z ρ S1 => (fo ρ S1).fl ρ fun x S2 => (fi ρ S2).fl ρ fun y S3 => match putTk x y z S3 with
    | some S4 => .nx ρ S4
    | none => .bad) q).imp ?_
  rintro v H1 ⟨z, w1, ρ1, rfl, G1, s1, rz, p1⟩
  refine ⟨w1, ρ1, rfl, G1, s1, (flpost (R := RW X.K) p1 s1).imp ?_⟩
  rintro o' H2 ⟨x, w2, rfl, G2, l2, rx, p2⟩
  refine ⟨w2, ρ1, rfl, G2, s1.mono l2, (flpost (R := RW X.K) p2 (s1.mono l2)).imp ?_⟩
  rintro i' H3 ⟨y, w3, rfl, G3, l3, ry, p3⟩
  cases e4 : putTk x y z w3.S with
  | none => rw [e4] at p3; exact p3.elim
  | some S4 =>
    rw [e4] at p3
    unfold putTk at e4
    split at e4
    · rename_i n d
      split at e4
      · rename_i ks kvs ek ew
        split at e4
        · rename_i hz
          cases e4
          obtain ⟨a, ha, rfl⟩ := RW.mono l3 rx
          obtain ⟨us, hv, rv⟩ := G3.cell n a _ ha ew
          obtain ⟨b, xs, ds, rfl, rfl, hb, dd⟩ := ry
          obtain rfl := keys_v ek dd
          have rz3 := RW.mono (l2.trans l3) rz
          have hl : us.length = kvs.length := Paired.len rv
          have hz2 := sz_line hz
          obtain ⟨G5, l5⟩ := G3.write (c' := .dit (putD kvs ks z)) ha ew rfl (.dT (putK us ks v)) (fun w1 l e => ⟨_, e, Paired.imp (fun _ _ q => ⟨q.1, RW.mono l q.2⟩) (putD_ok rv rz3)⟩) rfl
          refine ⟨a, upd w3.H a (.dT (putK us ks v)), rfl, .inr ⟨us, ks, b, hv, rfl, (Wd.im_some hb).1, by omega, rfl⟩, ?_⟩
          exact PostS.nx_use (w := ⟨w3.μ, w3.S.set n (.dit (putD kvs ks z)), upd w3.H a (.dT (putK us ks v))⟩) (PostS.mono l5 p3) G5 ((s1.mono (l2.trans l3)).mono l5)
        · cases e4
      · cases e4
    · cases e4
end
end G
set_option Elab.async false
set_option linter.all false
set_option maxRecDepth 100000
set_option maxHeartbeats 4000000
/-! G18: reading and walking dicts by tuples -/
namespace G
open PySem PySem.Spec L2 PyProof.Rows
set_option autoImplicit false
section
variable {Γ : Gm} {X : Cx} {Z : WX} {pos : Pos}
/-! ### d[k], k any tuple -/
def tTget (K : PySem.W.Frag) (td ty : TE) : TE := fun σ H Q => td σ H fun x H1 => ty σ H1 fun y H2 => ∃ (a b : Addr) (us : List (List Key × V)) (ks : List Key) (v : V), x = .ref a ∧ y = .ref b ∧ Rd H2 a (.dT us) ∧ SqT K H2 b (ks.map kV) ∧ valV us ks = some v ∧ Q v H2
theorem pe_tget {o i : Expr} {td ty : TE} (hu : Rm X) (ho : PE X o td) (hi : PE X i ty) (hs : NoSl i) : PE X (.Subscript o i pos) (tTget X.K td ty) := by
  constructor
  intro pins s σ H Q I q
  refine subD_of PySem.F.slot_dict_getitem.lookup hs (thn (ho.run pins s σ H _ I q) ?_)
  rintro u s1 ⟨x, H1, I1, rx, q1⟩
  refine thn (hi.run pins s1 σ H1 _ I1 q1) ?_
  rintro iv s2 ⟨y, H2, I2, ry, a, b, us, ks, v, rfl, rfl, hd, hk, hv, q2⟩
  obtain rfl : u = Value.ref a := rx
  obtain rfl : iv = Value.ref b := ry
  obtain ⟨_, _, xs, rel, dd⟩ := dt_rd I2.hok hd
  obtain ⟨its, rv, ⟨ob, e1, e2, n, e3⟩, _⟩ := I2.tuple hk
  refine ⟨dd.typeIs, ?_⟩
  have kk : (tupleKind (mixKind X.prog X.w)).is s2.heap ks b := ⟨ob, its.toArray, n, e1, e2, e3, by simpa using items_are rv⟩
  have rv2 := rel.val ks
  rw [hv] at rv2
  obtain ⟨c, hc, rc⟩ := RelO.some_of rv2
  obtain ⟨p, hp, rfl⟩ := Option.map_eq_some_iff.mp hc
  refine wpAny_getItem_heap (tupleKind_room_in1 (by unfold Rm at hu; omega)) kk dd hp ?_
  exact ⟨v, H2, I2.tok _, rc, q2⟩
def ditOf (x : W) (S : Sto) : Option (List (List Key × W)) := match x with
  | .o n => match S[n]? with
    | some (.dit kvs) => some kvs
    | some (.fd kvs) => some kvs
    | _ => none
  | _ => none
theorem ditOf_ok {K : PySem.W.Frag} {w : Wd} {v : V} {x : W} {kvs : List (List Key × W)} (G : Good Γ K w) (r : RW K w v x) (h : ditOf x w.S = some kvs) : ∃ a us, v = .ref a ∧ Rd w.H a (.dT us) ∧ RKs K w us kvs := by
  cases x with
  | o n =>
    obtain ⟨a, ha, rfl⟩ := r
    unfold ditOf at h
    dsimp only at h
    split at h
    · rename_i e
      cases h
      obtain ⟨us, q, r⟩ := G.cell n a _ ha e
      exact ⟨a, us, rfl, .inl q, r⟩
    · rename_i e
      cases h
      obtain ⟨o, us, q, r⟩ := G.cell n a _ ha e
      exact ⟨a, us, rfl, .inr ⟨o, q⟩, r⟩
    · cases h
  | _ => cases h
def gTget : Op2 := fun x y S => match ditOf x S, y with
  | some kvs, .d d => match keysD d with
    | some ks => (lookD kvs ks).map fun z => (z, S)
    | none => none
  | _, _ => none
theorem ve_tget (hu : Rm X) {a b : Expr} {f h : Fe W} (ha : VE Γ X Z a f) (hb : VE Γ X Z b h) (hs : NoSl b := by intro _ _; rfl) : VE Γ X Z (.Subscript a b pos) (fOp2 gTget f h) := by
  refine ⟨PE.mono (pe_tget hu ha.pe hb.pe hs) fun σ H Q q => ?_⟩
  refine liftR.imp (seq2 (R := RW X.K) (R1 := RW X.K) (k := fun x y S => ofO (gTget x y S)) (fun _ _ _ _ l r => RW.mono l r) q) fun v H1 h1 => liftR.imp h1 ?_
  rintro u H2 ⟨x, y, w, rfl, G, rx, ry, p⟩
  cases e : gTget x y w.S with
  | none => rw [e] at p; exact p.elim
  | some zz =>
    rw [e] at p
    unfold gTget at e
    split at e
    · rename_i kvs d e1
      split at e
      · rename_i ks e2
        obtain ⟨z, e3, rfl⟩ := Option.map_eq_some_iff.mp e
        obtain ⟨a, us, rfl, hd, rr⟩ := ditOf_ok G rx e1
        obtain ⟨v', h3, h4⟩ := lookD_ok rr e3
        cases d <;> first | (cases e2; done) | skip
        cases (show Dp X.K w.im u (.tuple _) from ry) with
        | tup q r =>
          obtain rfl := keys_v e2 r
          exact ⟨a, _, us, ks, v', rfl, rfl, hd, SqT.mono (im_sub w) q, h3, p.use G h4⟩
      · cases e
    · cases e
/-! ### list(d) -/
def keysW (kvs : List (List Key × W)) : List PyData := kvs.map fun kv => keyT kv.1
def gListT : OpN := fun xs S => match xs with
  | [x] => match ditOf x S with
    | some kvs => some (.o S.length, S ++ [.lst ((keysW kvs).map .d)])
    | none => none
  | _ => none
theorem keys_rw {K : PySem.W.Frag} {w : Wd} (G : Good Γ K w) : ∀ {us : List (List Key × V)} {kvs : List (List Key × W)} {bs : List Addr}, RKs K w us kvs → IsKeys w.H us bs → RWs K w (bs.map V.ref) ((keysW kvs).map .d)
  | _, _, _, .nil, h => by cases h; exact .nil
  | _, _, _, .cons (a := p) (b := q) ⟨e, _⟩ t, h => by
    cases h with
    | cons z hs =>
      refine .cons ?_ (keys_rw G t hs)
      show Dp K w.im _ (keyT q.1)
      rw [← e]
      exact Dp.tup (.inl (.inl (G.tup_im z))) (kdats_ok p.1)
theorem does_listT : DoesN Γ X Z gListT (fun xs H Q => ∃ d us, xs = [V.ref d] ∧ Rd H d (.dT us) ∧ ∀ p bs, H p = none → IsKeys H us bs → Q (.ref p) (upd H p (.lst (bs.map V.ref)))) := fun w xs vs σ Q z S' G r h p => by
  unfold gListT at h
  split at h
  · rename_i x
    split at h
    · rename_i kvs e1
      cases h
      obtain ⟨v, rfl, rx⟩ := rws_one r
      obtain ⟨a, us, rfl, hd, rr⟩ := ditOf_ok G rx e1
      exact ⟨a, us, rfl, hd, fun q bs hq hb => Post.lst p G (keys_rw G rr hb) q hq⟩
    · cases h
  · cases h
theorem bc_listT {a : Expr} {fa : Fe (List W)} (hm : X.mg "list" = none) (hc : X.calm = true) (ha : VA Γ X Z [a] fa) {p : Pos} (hg : Gl X "list" := by rfl) (he : starEach [a] X.env = (false, eval a X.env) :: starEach [] X.env := by rfl) (hpl : (backTo pos (starEach [] X.env)).any (·.1) = false := by rfl) :
    VE Γ X Z (.Call (.Name "list" p) [a] [] pos) (fCB gListT fa) := ve_callTy (x := "list") (call_list_dT hc) does_listT hg hm (by decide +kernel) ha (by decide +kernel) (by decide +kernel) he hpl
/-! ### for k in d: d is written no more -/
def tLocked (td : TE) : TE := fun σ H Q => td σ H fun x H1 => ∃ (d : Addr) (us : List (List Key × V)), x = .ref d ∧ ((H1 d = some (.dT us) ∧ ∀ od, Q x (upd H1 d (.frz od (.dT us)))) ∨ ∃ o, H1 d = some (.frz o (.dT us)) ∧ Q x H1)
theorem pe_locked {e : Expr} {td : TE} (h : PE X e td) : PE X e (tLocked td) := by
  constructor
  intro pins s σ H Q I q
  refine thn (h.run pins s σ H _ I q) ?_
  rintro u s1 ⟨x, H1, I1, rx, d, us, rfl, ⟨hd, q1⟩ | ⟨o, hd, q1⟩⟩
  · obtain ⟨od, I2⟩ := I1.lock hd trivial
    exact ⟨_, _, I2, rx, q1 od⟩
  · exact ⟨_, _, I1, rx, q1⟩
def fKeys (f : Fe W) : Fe (List PyData) := fun ρ S => (f ρ S).bind fun x S1 => match x with
  | .o n => match S1[n]? with
    | some (.dit kvs) => .ok (keysW kvs) (S1.set n (.fd kvs))
    | some (.fd kvs) => .ok (keysW kvs) S1
    | _ => .bad
  | _ => .bad
theorem walkD_keys {K : PySem.W.Frag} {w : Wd} {a : Addr} {o : Obj} {us : List (List Key × V)} {kvs : List (List Key × W)} (h : w.im a = some (.frz o (.dT us))) (hr : RKs K w us kvs) : WalkD Γ K w (Itkt a o us) (keysW kvs) := by
  have hl : us.length = (keysW kvs).length := by unfold keysW; rw [List.length_map]; exact Paired.len hr
  refine ⟨fun H => H a = some (.frz o (.dT us)), _, by rw [← hl]; exact walk_keysT, fun w' l g => (Wd.im_some (l.im _ _ h)).1, ?_⟩
  rintro i w' x H' hi l g ⟨rfl, k, v, q, e1, rfl, e2⟩
  refine ⟨w', rfl, rfl, Wd.le.refl _, g, keyT k, ?_, Dp.tup (.inl (.inl (g.tup_im e2))) (kdats_ok k)⟩
  have hz : i < kvs.length := by unfold keysW at hi; simpa using hi
  obtain ⟨p, e3, e4, _⟩ := Paired.get hr (i := i) (y := kvs[i]) (by simp [hz])
  rw [e1] at e3
  cases e3
  unfold keysW
  rw [List.getElem?_map, List.getElem?_eq_getElem hz]
  show some (keyT _) = _
  rw [← e4]
theorem vi_keys {tg e : Expr} {f : Fe W} (h : VE Γ X Z e f) : VI Γ X Z tg e (fKeys f) := by
  refine ⟨PI.mono (pi_keys (pe_locked h.pe)) fun σ H R q => ?_⟩
  have h1 := seq1 (R := RW X.K) (R2 := WalkD Γ X.K) (k := fun x S => match x with
    | .o n => match S[n]? with
      | some (.dit kvs) => Out.ok (keysW kvs) (S.set n (.fd kvs))
      | some (.fd kvs) => .ok (keysW kvs) S
      | _ => .bad
    | _ => .bad) q
  refine liftR.imp h1 ?_
  rintro v H1 ⟨x, w, rfl, G, rx, p⟩
  cases x with
  | o n =>
    obtain ⟨a, ha, rfl⟩ := rx
    dsimp only at p
    split at p
    · rename_i kvs e
      obtain ⟨us, hH, rr⟩ := G.cell n a _ ha e
      refine ⟨a, us, rfl, .inl ⟨hH, fun od => ⟨a, od, rfl, .inr ⟨us, upd_same, ?_⟩⟩⟩⟩
      obtain ⟨G2, l2⟩ := G.lockD ha e hH rr od
      have hn := (List.getElem?_eq_some_iff.mp e).1
      refine p ⟨w.μ, w.S.set n (.fd kvs), upd w.H a (.frz od (.dT us))⟩ _ rfl l2 G2 (walkD_keys ?_ (Paired.imp (fun _ _ z => ⟨z.1, RW.mono l2 z.2⟩) rr))
      refine Wd.im_of (w := ⟨w.μ, w.S.set n (.fd kvs), upd w.H a (.frz od (.dT us))⟩) upd_same ?_ (fun ps z => by cases z)
      intro lv
      rw [G2.live_iff ha (show (w.S.set n (.fd kvs))[n]? = some (.fd kvs) from List.getElem?_set_self hn)] at lv
      cases lv
    · rename_i kvs e
      obtain ⟨o, us, hH, rr⟩ := G.cell n a _ ha e
      refine ⟨a, us, rfl, .inr ⟨o, hH, a, o, rfl, .inr ⟨us, hH, ?_⟩⟩⟩
      refine p w _ rfl (Wd.le.refl w) G (walkD_keys ?_ rr)
      refine Wd.im_of hH ?_ (fun ps z => by cases z)
      intro lv
      rw [G.live_iff ha e] at lv
      cases lv
    · exact p.elim
  | _ => exact p.elim
end
end G
set_option Elab.async false
set_option linter.all false
set_option maxRecDepth 100000
set_option maxHeartbeats 4000000
/-! G19: walking a list of the run's own tuples; raise and except; t[:0:-1] -/
namespace G
open PySem PySem.Spec L2 PyProof.Rows
set_option autoImplicit false
/-! ### for x in a list of tuples that the run has made -/
structure WalkT (Γ : Gm) (K : PySem.W.Frag) (w : Wd) (J : It) (ds : List PyData) : Prop where
  ex : ∃ (G : Hp → Prop) (Y : Nat → Hp → V → Hp → Prop), Walk J ds.length G Y ∧ (∀ w', w.le w' → Good Γ K w' → G w'.H) ∧
    ∀ (i : Nat) (w' : Wd) (x : V) (H' : Hp), i < ds.length → w.le w' → Good Γ K w' → Y i w'.H x H' → H' = w'.H ∧ ∃ y, ds[i]? = some y ∧ RW K w' x (.t y)
structure VIT (Γ : Gm) (X : Cx) (Z : WX) (tg iter : Expr) (f : Fe (List PyData)) : Prop where
  pi : PI X tg iter (liftR Γ X.K Z (WalkT Γ X.K) f)
def tsOf : List W → Option (List PyData)
  | [] => some []
  | .t x :: r => (tsOf r).map (x :: ·)
  | _ :: _ => none
def itemsT (x : W) (S : Sto) : Option (List PyData × Sto) := match x with
  | .o n => match S[n]? with
    | some (.lst ws) => (tsOf ws).map fun ds => (ds, S.set n (.fz (.list ds)))
    | _ => none
  | _ => none
def fItT (f : Fe W) : Fe (List PyData) := fun ρ S => (f ρ S).bind fun x S1 => ofO (itemsT x S1)
def forT (g : Gt) (b : Fs) : List PyData → Fs
  | [], ρ, S => .nx ρ S
  | d :: ds, ρ, S => match g (.t d) ρ S with
    | none => .bad
    | some ρ1 => match b ρ1 S with
      | .nx ρ2 S2 => forT g b ds ρ2 S2
      | .ct ρ2 S2 => forT g b ds ρ2 S2
      | .bk ρ2 S2 => .nx ρ2 S2
      | r => r
def fForT (f : Fe (List PyData)) (g : Gt) (b : Fs) : Fs := fun ρ S => (f ρ S).fl ρ fun ds S1 => forT g b ds ρ S1
/-- an exception, by its class -/
def fRaise (c : Nat) : Fs := fun ρ S => .ex ⟨c, []⟩ ρ S
def fTryC (c : Nat) (b h : Fs) : Fs := fun ρ S => match b ρ S with
  | .ex e ρ1 S1 => if e.c = c then h ρ1 S1 else .bad
  | r => r
section
variable {Γ : Gm} {X : Cx} {Z : WX} {pos : Pos}
theorem tsOf_ok {K : PySem.W.Frag} {w : Wd} : ∀ {ws : List W} {vs : List V} {ds : List PyData}, RWs K w vs ws → tsOf ws = some ds → Paired (fun v d => RW K w v (.t d)) vs ds
  | [], _, _, .nil, h => by cases h; exact .nil
  | .t x :: r, _, _, .cons q t, h => by
    obtain ⟨ds', e, rfl⟩ := Option.map_eq_some_iff.mp h
    exact .cons q (tsOf_ok t e)
  | .d x :: r, _, _, _, h => by cases h
  | .o x :: r, _, _, _, h => by cases h
  | .v x :: r, _, _, _, h => by cases h
theorem dps_of {K : PySem.W.Frag} {w : Wd} : ∀ {vs : List V} {ds : List PyData}, Paired (fun v d => RW K w v (.t d)) vs ds → DpAll K w.im vs ds
  | _, _, .nil => .nil
  | _, _, .cons q t => .cons (RW.unt q) (dps_of t)
theorem vi_valT {tg e : Expr} {f : Fe W} (h : VE Γ X Z e f) : VIT Γ X Z tg e (fItT f) := by
  constructor
  constructor
  intro pins s σ H R I q
  have h1 := seq1 (R := RW X.K) (R2 := WalkT Γ X.K) (k := fun x S => ofO (itemsT x S)) q
  refine thn (h.pe.run pins s σ H _ I h1) ?_
  rintro u s1 ⟨v, H1, I1, r1, x, w, rfl, G, r, p⟩
  cases e : itemsT x w.S with
  | none => rw [e] at p; exact p.elim
  | some y =>
    rw [e] at p
    cases x with
    | o n =>
      obtain ⟨a, ha, rfl⟩ := r
      unfold itemsT at e
      dsimp only at e
      split at e
      · rename_i ws ew
        obtain ⟨ds, e2, rfl⟩ := Option.map_eq_some_iff.mp e
        obtain ⟨vs, hv, rr⟩ := G.cell n a _ ha ew
        have tt := tsOf_ok rr e2
        obtain ⟨G2, l2, d2⟩ := G.freeze ha ⟨_, ew⟩ hv (dps_of tt)
        cases r1
        refine it_lst I1 (SqL.of hv) (p ⟨w.μ, w.S.set n (.fz (.list ds)), w.H⟩ (Itl X.K a) rfl l2 G2 ?_)
        have hn := (List.getElem?_eq_some_iff.mp ew).1
        have hi0 : Wd.im ⟨w.μ, w.S.set n (.fz (.list ds)), w.H⟩ a = some (.lst vs) := by
          refine Wd.im_of (w := ⟨w.μ, w.S.set n (.fz (.list ds)), w.H⟩) hv ?_ (fun ps z => by cases z)
          intro lv
          rw [G2.live_iff ha (show (w.S.set n (.fz (.list ds)))[n]? = some (.fz (.list ds)) from List.getElem?_set_self hn)] at lv
          cases lv
        have hl : vs.length = ds.length := Paired.len tt
        refine ⟨fun H => SqL X.K H a vs, YAt vs, by rw [← hl]; exact walk_list, fun w' l g => SqL.of (Wd.im_some (l.im _ _ hi0)).1, ?_⟩
        rintro i w' x H' hi l g ⟨rfl, hx⟩
        obtain ⟨x', e3, e4⟩ := Paired.get tt (i := i) (y := ds[i]) (by simp [hi])
        rw [hx] at e3
        cases e3
        exact ⟨rfl, ds[i], by simp [hi], RW.mono (l2.trans l) e4⟩
      · cases e
    | _ => cases e
theorem vs_forT {tg iter : Expr} {body : List Stmt} {is : List Nat} {f : Fe (List PyData)} {g : Gt} {b : Fs} (hp : PassesOwn (model X.prog X.w) X.A X.env X.xe) (hi : VIT Γ X Z tg iter f) (hg : VG Γ X tg is g) (hb : VB Γ X Z body b) (hc : X.calm = true := by rfl)
    (hs : ∀ x, foldedSetIterable iter X.env x = pure x := by intro _; rfl) : VS Γ X Z (.For tg iter body [] pos) (fForT f g b) := by
  refine ⟨PS.mono (ps_for hp hc hi.pi hg.pg hb.ps hs) fun D σ H q => (liftS.out (R := WalkT Γ X.K) (k := fun ds ρ S1 => forT g b ds ρ S1) q).imp ?_⟩
  rintro J H1 ⟨ds, w, ρ, rfl, G, s, r, p⟩
  obtain ⟨GG, Y, wk, hG, hY⟩ := r.ex
  refine for_it wk (fun i σ H => ∃ w' ρ', w'.H = H ∧ w.le w' ∧ Good Γ X.K w' ∧ Slots X.K w' σ ρ' ∧ PostS Γ X.K w' Z (forT g b (ds.drop i) ρ' w'.S) D) ⟨w, ρ, rfl, Wd.le.refl w, G, s, p⟩ ?_ ?_ ?_
  · rintro i σ H hi ⟨w', ρ', rfl, l, G', s', p'⟩
    exact hG w' l G'
  · rintro i x σ H H' hi ⟨w', ρ', rfl, l, G', s', p'⟩ y
    obtain ⟨rfl, z, hz, rz⟩ := hY i w' x H' hi l G' y
    have hd : ds.drop i = z :: ds.drop (i + 1) := by
      rw [List.getElem?_eq_getElem hi] at hz
      rw [← Option.some.inj hz]
      exact List.drop_eq_getElem_cons hi
    rw [hd] at p'
    unfold forT at p'
    split at p'
    · exact p'.elim
    · rename_i ρ1 eg
      refine ⟨w', ρ', .t z, ρ1, rfl, G', s', rz, eg, fun σ1 s1 _ => ⟨w', ρ1, rfl, G', s1, ?_⟩⟩
      cases eb : b ρ1 w'.S with
      | nx ρ2 S2 =>
        rw [eb] at p'
        rintro w3 σ3 rfl l3 G3 s3
        exact ⟨w3, ρ2, rfl, l.trans l3, G3, s3, PostS.mono l3 p'⟩
      | ct ρ2 S2 =>
        rw [eb] at p'
        rintro w3 σ3 rfl l3 G3 s3
        exact ⟨w3, ρ2, rfl, l.trans l3, G3, s3, PostS.mono l3 p'⟩
      | bk ρ2 S2 => rw [eb] at p'; exact p'
      | rt x S2 => rw [eb] at p'; exact p'
      | ex e ρ2 S2 => rw [eb] at p'; exact p'
      | bad => rw [eb] at p'; exact p'
  · rintro σ H ⟨w', ρ', rfl, l, G', s', p'⟩
    rw [List.drop_length] at p'
    exact PostS.nx_use p' G' s'
/-! ### raise X('..'), try .. except X -/
def leBase : List Value := [.type "LookupError", .type "Exception", .type "BaseException", .type "object"]
/-- an own class over LookupError, without __init__ -/
structure ExF (Γ : Gm) (K : PySem.W.Frag) (mg : Str → Option Value) (x : Str) (c : Nat) : Prop where
  g : mg x = some (.ref (Γ.ca c))
  k : PySem.W.keepIn K (.ref (Γ.ca c)) = true
  q : PySem.W.excIn K (Γ.ca c) leBase "LookupError.__new__" = true
  b : PySem.W.subIn K (.ref (Γ.ca c)) (.type "BaseException") = some true
  t : PySem.W.typeIn K (.ref (Γ.ca c)) = some (.type "type")
  m : PySem.W.exmOne K (.ref (Γ.ca c)) (.ref (Γ.ca c)) = some true
theorem vs_raise {x m : Str} {j : Nat} {p p2 p3 : Pos} {c : Nat} (F : ExF Γ X.K X.mg x c) (tk : Takes X Z) (hc : X.calm = true := by rfl) (hg : Gl X x := by rfl) (hdb : (x == ("__debug__" : Str)) = false := by decide) :
    VS Γ X Z (.Raise (some (.Call (.Name x p) [.Constant (.str m) j p2] [] p3)) none pos) (fRaise c) := by
  have hk := ps_raise (pos := pos) hc tk (pmk_own (X := X) (x := x) (m := m) (j := j) (p := p) (p2 := p2) (pos := p3) PySem.F.excBase_LookupError F.q F.g F.k (raises_own F.b F.t) hg hdb)
  refine ⟨PS.mono hk ?_⟩
  rintro D σ H ⟨w, ρ, rfl, G, s, p⟩
  exact p w σ (.ref (Γ.ca c)) none rfl (Wd.le.refl w) G s ⟨rfl, trivial⟩
theorem vs_tryC {x : Str} {c : Nat} {body suite : List Stmt} {b0 : Stmt} {np pos' : Pos} {b h : Fs} (F : ExF Γ X.K X.mg x c) (tk : Takes X Z) (hs : X.stack = X.env :: X.outer) (hf : X.env.frame = some X.env.locals) (hg : Gl X x) (hdb : (x == ("__debug__" : Str)) = false)
    (hb : ∀ (W' : WX) (pn : List (Addr × Obj)) (xe : Value → Shared → Prop), Takes (X.tr pn xe) W' → PassesOwn (model X.prog X.w) X.A X.env xe → VB Γ (X.tr pn xe) W' body b)
    (hh : ∀ (a : Addr) (pn : List (Addr × Obj)), VB Γ (X.suite a pn) Z (b0 :: suite) h) :
    VS Γ X Z (.Try body [.ExceptHandler (some (.Name x np)) none (b0 :: suite) pos'] [] [] pos) (fTryC c b h) := by
  have hk := ps_try_only (X := X) (body := body) (suite := suite) (b₀ := b0) (np := np) (pos := pos) (pos' := pos') hs hf ⟨hg, hdb, .inl F.g⟩ tk (tb := fun W' => liftS Γ X.K W' b) (fun W' pn xe t ps => (hb W' pn xe t ps).ps) (ts := fun _ _ _ => liftS Γ X.K Z h) (fun a oe cls d pn _ _ => (hh a ((a, oe) :: pn)).ps)
  refine ⟨PS.mono hk ?_⟩
  rintro D σ H ⟨w, ρ, rfl, G, s, p⟩
  refine ⟨w, ρ, rfl, G, s, ?_⟩
  unfold fTryC at p
  cases eb : b ρ w.S with
  | ex e ρ1 S1 =>
    rw [eb] at p
    dsimp only at p
    split at p
    · rename_i he
      rintro w1 σ1 cls d rfl l1 G1 s1 ⟨hcls, _⟩
      refine ⟨true, ?_, fun _ a _ => ⟨w1, ρ1, rfl, G1, s1, PostS.mono l1 p⟩, fun z => by cases z⟩
      rw [hcls, he]
      exact F.m
    · exact p.elim
  | nx ρ1 S1 => rw [eb] at p; exact p
  | rt x S1 => rw [eb] at p; exact p
  | bk ρ1 S1 => rw [eb] at p; exact p
  | ct ρ1 S1 => rw [eb] at p; exact p
  | bad => rw [eb] at p; exact p
end
end G
set_option Elab.async false
set_option linter.all false
set_option maxRecDepth 100000
set_option maxHeartbeats 4000000
/-! G20: t[:0:-1] of a tuple -/
namespace G
open PySem PySem.Spec L2 PyProof.Rows
set_option autoImplicit false
section
variable {prog : Program} {w : World} {A : Around} {E : Value → Shared → Prop} {s : Shared}
theorem fm_map {α β : Type} {f : α → Option β} {g : α → β} : ∀ {l : List α}, (∀ k ∈ l, f k = some (g k)) → l.filterMap f = l.map g
  | [], _ => rfl
  | k :: r, h => by
    rw [List.filterMap_cons_some (h k List.mem_cons_self), fm_map fun z hz => h z (List.mem_cons_of_mem _ hz)]
    rfl
/-- the places of a cut from the end down to the second -/
theorem adj_back (n : Nat) : Builtin.Slice.sliceAdjust none (some 0) (-1) (n : Int) = ((n : Int) - 1, min 0 ((n : Int) - 1)) := rfl
theorem places_back (n : Nat) : Builtin.Slice.slicePlaces ((n : Int) - 1) (min 0 ((n : Int) - 1)) (-1) = n - 1 := by
  unfold Builtin.Slice.slicePlaces
  have h0 : ¬ ((-1 : Int) > 0) := by decide
  have h1 : (-(-1) : Int) = 1 := by decide
  rw [if_neg h0, h1, Int.ediv_one]
  split <;> omega
theorem back_picked (xs : List Value) : ((List.range (xs.length - 1)).filterMap fun (k : Nat) => xs.toArray[(((xs.length : Int) - 1) + (k : Int) * (-1)).toNat]?) = (xs.drop 1).reverse := by
  cases xs with
  | nil => rfl
  | cons x r =>
    have e : ∀ k ∈ List.range r.length, (x :: r).toArray[((((x :: r).length : Nat) : Int) - 1 + (k : Int) * (-1)).toNat]? = some (r.reverse.getD k .none) := by
      intro k hk
      have hk' : k < r.length := List.mem_range.mp hk
      have e1 : ((((x :: r).length : Nat) : Int) - 1 + (k : Int) * (-1)).toNat = (r.length - 1 - k) + 1 := by
        rw [List.length_cons]; omega
      rw [e1, List.getElem?_toArray, List.getElem?_cons_succ, List.getD_eq_getElem?_getD, List.getElem?_reverse hk']
      have : r.length - 1 - k < r.length := by omega
      rw [List.getElem?_eq_getElem this]
      rfl
    show (List.range r.length).filterMap _ = r.reverse
    rw [fm_map e]
    apply List.ext_getElem
    · simp
    · intro i h1 h2
      have h3 : i < r.reverse.length := h2
      simp [List.getD_eq_getElem?_getD, List.getElem?_eq_getElem h3]
theorem applied_back {sl : Addr} {t1 t2 : Tok} {n : Nat} {Q : Int × Int × Nat → Shared → Prop} (hs : s.heap.IsSliceOf sl .none (.int 0 t1) (.int (-1) t2)) (h : Q ((n : Int) - 1, -1, n - 1) s) :
    wpAny (model prog w) A (Builtin.Slice.sliceApplied (.ref sl) (pure (n : Int))) Q E s := by
  obtain ⟨ob, hget, hcls, hdata⟩ := id hs
  unfold Builtin.Slice.sliceApplied
  refine wpAny_bind ?_
  unfold Builtin.Slice.sliceFields
  refine wpAny_bind (wpAny_field hget hdata (x := .none) rfl ?_)
  refine wpAny_bind (wpAny_field hget hdata (x := .int 0 t1) rfl ?_)
  refine wpAny_bind (wpAny_field hget hdata (x := .int (-1) t2) rfl (wpAny_pure ?_))
  refine wpAny_bind (slicePart_int ?_)
  dsimp only [Option.getD_some]
  have hz : ¬ (((-1 : Int) == 0) = true) := by decide
  rw [if_neg hz]
  refine wpAny_bind (slicePart_none (wpAny_bind (slicePart_int (wpAny_bind (wpAny_pure ?_)))))
  rw [adj_back]
  dsimp only
  rw [places_back]
  exact wpAny_pure h
theorem tuple_back {t sl : Addr} {its : List Value} {t1 t2 : Tok} {Q : Value → Shared → Prop} (hT : IsTup s.heap t its.toArray) (hs : s.heap.IsSliceOf sl .none (.int 0 t1) (.int (-1) t2)) (hz : its.length ≤ sizeLine)
    (h : Q (.ref s.heap.objs.size) { s with heap := s.heap.push { cls := .type "tuple", data := .seq ((its.drop 1).reverse).toArray } }) : wpAny (model prog w) A (getItem (.ref t) (.ref sl)) Q E s := by
  have hfit : sizeOk (.seq ((its.drop 1).reverse).toArray) := by
    show ((its.drop 1).reverse).toArray.size ≤ sizeLine
    simp only [List.size_toArray, List.length_reverse, List.length_drop]
    omega
  obtain ⟨ob, hget, hcls, hdata⟩ := id hs
  have hS : s.TypeIs (.ref sl) "slice" := ⟨ob, hget, hcls⟩
  unfold getItem
  try with_reducible refine wpAny_holding ?_
  first | refine wpAny_bind (wpAny_pure ?_) | skip
  refine wpAny_bind (wpAny_sequenceKey hT.typeIs (by decide) ?_)
  refine wpAny_bind (wpAny_callSpecial?_slot (name := Str.ofString "__getitem__") hT.typeIs PyProof.Rows.slot_tuple_getitem (wpAny_call_entry PyProof.Rows.slot_tuple_getitem hT.typeIs entry_tuple_getitem ?_ (args_tuple_getitem _ _)))
  show wpAny _ _ (Builtin.Tuple.tupleItemsOf (.ref t) >>= _) _ _ s
  refine wpAny_bind (tupleItemsOf_ hT (wpAny_bind (wpAny_typeOf hS ?_)))
  rw [if_pos (by decide)]
  refine wpAny_bind (applied_back (n := its.length) hs ?_)
  have hne : ¬ ((((its.length : Int) - 1) == 0 && (-1 : Int) == 1 && (its.length - 1) == its.toArray.size) = true) := by
    rw [Bool.and_eq_true, Bool.and_eq_true]
    exact fun z => absurd z.1.2 (by decide)
  dsimp only
  rw [if_neg hne, back_picked]
  first
    | exact wpAny_bind (m := Builtin.Tuple.tupleExact _) (wpAny_newObj_type (wpAny_pure ⟨_, rfl, wpAny_pure h⟩) hfit)
    | exact wpAny_bind (m := Builtin.Tuple.tupleExact _) (wpAny_newObj_type (wpAny_bind (wpAny_pure (wpAny_pure ⟨_, rfl, wpAny_pure h⟩))) hfit)
end
section
variable {Γ : Gm} {X : Cx} {Z : WX} {pos : Pos}
def tBack (K : PySem.W.Frag) (te : TE) : TE := fun σ H Q => te σ H fun x H1 => ∃ (a : Addr) (xs : List V), x = .ref a ∧ SqT K H1 a xs ∧ ∀ q, H1 q = none → Q (.ref q) (upd H1 q (.tup (xs.drop 1).reverse))
theorem pe_back {e : Expr} {te : TE} {j1 j2 : Nat} {p1 p2 p3 p4 : Pos} (he : PE X e te) : PE X (.Subscript e (.Slice none (some (.Constant (.int 0) j1 p1)) (some (.UnaryOp .USub (.Constant (.int 1) j2 p2) p3)) p4) pos) (tBack X.K te) := by
  constructor
  intro pins s σ H Q I q
  refine Subscript_ (thn (he.run pins s σ H _ I q) ?_)
  rintro v s1 ⟨x, H1, I1, rx, a, xs, rfl, hx, q1⟩
  refine wpAny_Slice ?_
  rw [evalPart_none]
  refine wpAny_pure ?_
  rw [evalPart_some]
  refine thn ((pe_int (X := X) (i := 0) (j := j1) (pos := p1)).run pins s1 σ H1 (fun y H2 => y = .int 0 ∧ H2 = H1) I1 ⟨rfl, rfl⟩) ?_
  rintro y s2 ⟨_, _, I2, ry, rfl, rfl⟩
  rw [evalPart_some]
  refine thn ((pe_un (pos := p3) un_neg (pe_int (X := X) (i := 1) (j := j2) (pos := p2))).run pins s2 σ _ (fun y H2 => y = .int (-1) ∧ H2 = _) I2 ⟨1, rfl, rfl, rfl⟩) ?_
  rintro z s3 ⟨_, _, I3, rz, rfl, rfl⟩
  obtain ⟨ta, rfl⟩ := ry
  obtain ⟨tb, rfl⟩ := rz
  obtain rfl : v = Value.ref a := rx
  obtain ⟨its, rv, hT, hz⟩ := I3.tuple hx
  have hl := rv.length
  have I4 : Inv X pins σ _ { s3 with heap := s3.heap.push { cls := .type "slice", data := .fields #[.none, .int 0 ta, .int (-1) tb] } } := I3.kept (t' := s3.toks) fun b ob q => Heap.get?_push_of_some _ q
  obtain ⟨its', rv', hT', hz'⟩ := I4.tuple hx
  have key := tuple_back (prog := X.prog) (w := X.w) (A := X.A) (E := X.xe) (Q := EP X pins σ Q) hT' (Heap.IsSliceOf.new s3.heap .none (.int 0 ta) (.int (-1) tb)) (by have := rv'.length; omega) (by
    refine ⟨.ref _, _, I4.laid (t' := s3.toks) (o := .tup (xs.drop 1).reverse) (fun b ob q => Heap.get?_push_of_some _ q) (Nat.le_refl _) ?_, rfl, q1 _ (I4.hok.fresh (Nat.le_refl _))⟩
    refine ⟨by simp only [List.length_reverse, List.length_drop]; omega, _, Vals.reverse (rv'.drop 1), IsTup.new _ _⟩)
  exact PyProof.Rows.tail_any (ops := [.ref a, .ref s3.heap.objs.size]) hT'.typeIs PyProof.Rows.slot_tuple_getitem.lookup key (by with_unfolding_all rfl)
def revT : W → Option W
  | .d (.tuple ds) => some (.d (.tuple (ds.drop 1).reverse))
  | _ => none
def fBack (f : Fe W) : Fe W := fun ρ S => (f ρ S).bind fun x S1 => ofO ((revT x).map fun y => (y, S1))
theorem ve_back {e : Expr} {f : Fe W} {j1 j2 : Nat} {p1 p2 p3 p4 : Pos} (he : VE Γ X Z e f) : VE Γ X Z (.Subscript e (.Slice none (some (.Constant (.int 0) j1 p1)) (some (.UnaryOp .USub (.Constant (.int 1) j2 p2) p3)) p4) pos) (fBack f) := by
  refine ⟨PE.mono (pe_back he.pe) fun σ H Q q => liftR.imp (seq1 (R := RW X.K) q) ?_⟩
  rintro v H1 ⟨x, w, rfl, G, rx, p⟩
  cases e : revT x with
  | none => rw [e] at p; exact p.elim
  | some y =>
    rw [e] at p
    unfold revT at e
    split at e
    · rename_i ds
      cases e
      cases (show Dp X.K w.im v (.tuple ds) from rx) with
      | tup q r =>
        refine ⟨_, _, rfl, SqT.mono (im_sub w) q, Post.tup p G (DpAll.of (Paired.revv (Paired.drop 1 (DpAll.paired r))))⟩
    · cases e
end
end G
set_option Elab.async false
set_option linter.all false
set_option maxRecDepth 100000
set_option maxHeartbeats 4000000
/-! G21: defs that may ask for repr: no repr stands beneath them -/
namespace G
open PySem PySem.Spec L2 PyProof.Rows
set_option autoImplicit false
/-- a def's promise where no repr is under way beneath -/
structure FnG (P : Program) (wd : World) (K : PySem.W.Frag) (mg : Str → Option Value) (base : Heap) (k : Nat) (f : Addr) (fd : FuncData) (ps : List Str) (sp : Sp) : Prop where
  len : ∀ vs H Q E, sp vs H Q E → vs.length = ps.length
  run : ∀ (A : Around) (outer : List Env) (s : Shared) (H : Hp) (us : List Value) (vs : List V) (Q : VK) (E : XK), A.guards = some [] → Room k A → Env0 P wd K mg base A outer s H → BindsTo s fd ⟨us, []⟩ (ps.zip us) → Vals vs us → sp vs H Q E →
    codeAny (model P wd) A (.call (.ref f) ⟨us, []⟩) (CR (L2.CX P wd) outer P wd H s Q E) s
/-- a def that may ask for repr, called by place with all its arguments -/
structure CalG (Γ : Gm) (P : Program) (wd : World) (K : PySem.W.Frag) (mg : Str → Option Value) (base : Heap) (k : Nat) (x : Str) (n : Nat) (F : Fn) : Prop where
  ex : ∃ (f : Addr) (fd : FuncData) (ps : List Str), mg x = some (.ref f) ∧ PySem.W.keepIn K (.ref f) = true ∧ (∀ (s : Shared) (us : List Value), us.length = ps.length → BindsTo s fd ⟨us, []⟩ (ps.zip us)) ∧ n = ps.length ∧ FnG P wd K mg base k f fd ps (spOf Γ K ps.length F)
section
variable {Γ : Gm} {P : Program} {wd : World} {K : PySem.W.Frag} {mg : Str → Option Value} {base : Heap}
theorem start_post {N : List Str} {n : Nat} {b : Fs} {vs : List V} {H : Hp} {Q : VK} {E : XK} (h : spOf Γ K n (runB N.length b) vs H Q E) : liftS Γ K (fun c d _ H => E c d H) b { nx := fun _ H' => Q .non H', rt := Q } (L2.start N vs) H := by
  obtain ⟨hl, w, ws, rfl, G, r, p⟩ := h
  refine ⟨w, startR N.length ws, rfl, G, slots_start r, ?_⟩
  unfold runB at p
  cases e : b (startR N.length ws) w.S with
  | nx ρ S1 => rw [e] at p; exact fun w1 σ1 e1 l g q => p w1 .non e1 l g Dp.non
  | rt x S1 => rw [e] at p; exact fun w1 v e1 l g q => p w1 v e1 l g q
  | ex x ρ S1 => rw [e] at p; exact fun w1 σ1 c d e1 l g q z => p w1 c d e1 l g z
  | bk _ _ => rw [e] at p; exact p.elim
  | ct _ _ => rw [e] at p; exact p.elim
  | bad => rw [e] at p; exact p.elim
theorem fnG_rule {k : Nat} {x qual : Str} {params : Arguments} {body : List Stmt} {scope : Scope} {dvs : List V} {kws : List (Str × V)} {f : Addr} {fd : FuncData} {N ps : List Str} {b : Fs}
    (F : FunD K x qual params body scope dvs kws f fd) (S : FnScope N ps scope)
    (hb : ∀ (cdv : Value) (A : Around) (outer : List Env) (s : Shared) (H : Hp) (E : XK), (A.deeper (envOfC qual scope s.heap.objs.size f cdv)).guards = some [] → Room k (A.deeper (envOfC qual scope s.heap.objs.size f cdv)) → VB Γ (cxOf (L2.CX P wd) P wd K mg base N qual scope f cdv A outer s H E) (fun c d _ H => E c d H) body b) :
    FnG P wd K mg base (k + 1) f fd ps (spOf Γ K ps.length (runB N.length b)) := by
  obtain ⟨oc, od, dV, kV, doc, pm, an, cdv, ct, osl, rfl, lk, hcd, _, _⟩ := F.ex
  refine ⟨fun vs H Q E h => h.1, ?_⟩
  intro A outer s H us vs Q E hgd hr e0 hbd r hsp
  have kin : K.In s.heap := e0.mod.kin.keeps fun c o e => (e0.bs c o e).1
  have nolim : s.heap.NoLimit := e0.mod.nolimit.keeps fun c o e => (e0.bs c o e).1
  have kinds : ((ps.zip us).all fun y => scope.names.lookup y.1 == some .local || scope.names.lookup y.1 == some .cell) = true := by
    rw [List.all_eq_true]
    intro y hy
    have hm : y.1 ∈ ps := (List.of_mem_zip (a := y.1) (b := y.2) hy).1
    rcases S.par y.1 hm with q | q
    · rw [q]; rfl
    · rw [q]; rfl
  refine Att.call_fn kin nolim lk hcd hr.depth hbd kinds ?_ S.co S.gen S.kind
  intro s1 x1
  have hv : vs.length = ps.length := hsp.1
  have I := inv_start (CX := L2.CX P wd) (N := N) (E := E) S hr.hd e0 hv r x1
  have hrun := (hb cdv A outer s H E hgd (hr.deeper _)).ps.run [] s1 (L2.start N vs) H _ I (start_post hsp)
  refine wpAny_mono hrun ?_ (fun _ _ z => z)
  intro fl s' hs
  cases fl with
  | ret u =>
    obtain ⟨v, σ', H', J, rv, q⟩ := hs
    exact ⟨v, H', J.os, J.bare, J.base, J.hok, rv, q⟩
  | next =>
    obtain ⟨σ', H', J, q⟩ := hs
    exact ⟨.non, H', J.os, J.bare, J.base, J.hok, rfl, q⟩
  | brk => exact hs.choose_spec.choose_spec.2.elim
  | cont => exact hs.choose_spec.choose_spec.2.elim
end
section
variable {Γ : Gm} {X : Cx} {Z : WX} {pos : Pos}
theorem ve_callG {k : Nat} {x : Str} {n : Nat} {F : Fn} {e : Expr} {es : List Expr} {f : Fe (List W)} {p : Pos} (C : CalG Γ X.prog X.w X.K X.mg X.base k x n F) (hgd : X.A.guards = some []) (tk : Takes X Z) (hr : Room k X.A) (ha : VA Γ X Z (e :: es) f) (hg : Gl X x := by rfl)
    (hdb : (x == ("__debug__" : Str)) = false := by decide) (he : starEach (e :: es) X.env = (false, eval e X.env) :: starEach es X.env := by rfl) (hpl : (backTo pos (starEach es X.env)).any (·.1) = false := by rfl) :
    VE Γ X Z (.Call (.Name x p) (e :: es) [] pos) (fCall n [] F f) := by
  obtain ⟨fa, fd, ps, hm, hk, hb, hn, Fo⟩ := C.ex
  constructor
  constructor
  intro pins s σ H Q I q
  refine wpAny_Call_Name_kw (ld_glob I hg hm ?_ hdb)
  have q1 := seq1 (R := RWs X.K) q
  refine PySem.W.callWith_K (h₀ := X.base) I.ok.mod.kin hk (thn (ha.pa.run pos pins s σ H _ I q1) ?_) he hpl
  rintro us s1 ⟨vs, H1, I1, r, xs, w, rfl, G, rx, p1⟩
  refine ⟨I1.kIn, ?_⟩
  split at p1
  · rename_i hl
    have hv : vs.length = ps.length := by rw [Paired.len rx, hl, hn]
    have hu : us.length = ps.length := by rw [← r.length]; exact hv
    rw [show xs ++ ofD [] = xs from List.append_nil xs] at p1
    have hsp : spOf Γ X.K ps.length F vs w.H Q (WE Z σ) := ⟨hv, w, xs, rfl, G, rx, Post.zed p1 fun _ _ _ z => z⟩
    refine wpAny_call (codeAny_mono (Fo.run X.A X.stack s1 w.H us vs Q (WE Z σ) hgd hr I1.env0 (hb s1 us hu) r hsp) ?_)
    intro res s2 h2
    cases res with
    | error ev => exact passAt tk σ pins w.H s1 ev s2 I1 h2
    | ok fl =>
      cases fl with
      | ret u => exact I1.after h2
      | next => exact h2.elim
      | brk => exact h2.elim
      | cont => exact h2.elim
  · exact p1.elim
/-! ### the law's own call -/
theorem end_law {l : PySem.W.OpenLaw} {n k : Nat} {q : Program} {loose : List Str} {XP : (Str → Option Value) → Heap → Prop} {YP : World → Heap → Prop} {d : DefRec} {x : Str}
    (hn : l.most = some n) (hn2 : n ≤ sizeLine) (hdf : d.params.defaults = []) (hr : Room k callerA)
    (F : ∀ (w : World) (mg : Str → Option Value) (fa : Addr) (h : Heap), YP w h → h.Ns mainGlobals mg → mg d.name = some (.ref fa) → ∃ (K : PySem.W.Frag) (fd : FuncData) (sp : Sp), K.In h ∧ (∀ (s : Shared) (u : Value), BindsTo s fd ⟨[u], []⟩ [(x, u)]) ∧
      (∀ (H : Hp) (a : Addr) (ns : List Int), ns.length ≤ n → SqL K H a (ns.map V.int) → sp [.ref a] H (fun v _ => v = .bl true) fun _ _ _ => False) ∧ ∀ base : Heap, K.In base → base.Ns mainGlobals mg → FnG l.prog w K mg base k fa fd [x] sp) :
    PySem.W.WalkO q loose XP YP l.row.toRowW d [] (fun f vs => PySem.call f vs) := by
  refine Att.attach_callB hn hdf ?_
  intro w s0 s1 mg mb fa o pm cd doc a vs ns G Y ho hd hcd hmg hobj hints hlen _ hgens
  obtain ⟨K, fd, sp, kin, hbind, hsp, hF⟩ := F w mg fa _ Y G.T.g hmg
  have rv := vals_ints hints
  have hz : (ns.map V.int).length ≤ sizeLine := by rw [List.length_map]; exact Nat.le_trans hlen hn2
  -- the script is told apart unless it is the module's own
  obtain ⟨H, hH, hS, hok⟩ : ∃ H : Hp, (∀ b, H b = none ∨ b = a ∧ K.lookup a = none ∧ H a = some (.frz { cls := .type "list", data := .seq vs.toArray } (.lst (ns.map V.int)))) ∧ SqL K H a (ns.map V.int) ∧ HOk l.prog w H s1.heap := by
    cases hk : K.lookup a with
    | some ob =>
      have e1 := kin a ob hk
      rw [hobj] at e1
      cases e1
      refine ⟨fun _ => none, fun _ => .inl rfl, .inr ⟨_, vs.toArray, _, hk, rfl, rfl, rfl, ?_, by simpa using rv⟩, fun b u z => (by cases z)⟩
      rw [List.size_toArray, hints.length]
      exact Nat.le_trans hlen hn2
    | none =>
      refine ⟨upd (fun _ => none) a (.frz { cls := .type "list", data := .seq vs.toArray } (.lst (ns.map V.int))), fun b => ?_, .inl (.inr ⟨_, upd_same⟩), fun b u z => ?_⟩
      · by_cases hb : b = a
        · exact .inr ⟨hb, rfl, upd_same⟩
        · exact .inl (upd_ne hb)
      · by_cases hb : b = a
        · subst hb
          rw [upd_same] at z
          cases z
          exact ⟨hobj, hz, vs, _, rv, hobj⟩
        · rw [upd_ne hb] at z
          cases z
  have clear : ∀ (b : Addr) (ob : Obj), s1.heap.get? b = some ob → (∃ es ep, ob.data = .dict es ep) ∨ K.lookup b ≠ none → H b = none := fun b ob e h => by
    rcases hH b with z | ⟨rfl, z1, _⟩
    · exact z
    · rcases h with ⟨es, ep, h⟩ | h
      · rw [hobj] at e
        cases e
        cases h
      · exact absurd z1 h
  have ns_in : ∀ (b : Addr) (m : Str → Option Value), s1.heap.Ns b m → (hidT s1.heap H).Ns b m := fun b m h => by
    obtain ⟨ob, es, ep, e1, e2, e3⟩ := h
    exact ⟨ob, es, ep, hidT_get e1 (clear b ob e1 (.inl ⟨es, ep, e2⟩)), e2, e3⟩
  have kinB : K.In (hidT s1.heap H) := fun b ob e => hidT_get (kin b ob e) (clear b ob (kin b ob e) (.inr (by rw [e]; simp)))
  obtain ⟨mc, c1, c2⟩ := G.T.nolimit
  have md : L2.Mod K mg (hidT s1.heap H) := ⟨kinB, ns_in _ _ G.T.g, ⟨mb, ns_in _ _ G.T.b, G.T.builtins⟩, ⟨mc, ns_in _ _ c1, c2⟩⟩
  have e0 : Env0 l.prog w K mg (hidT s1.heap H) callerA [] s1 H := by
    refine ⟨rfl, md, fun b ob e => of_hidT e, Nat.le_of_eq (hidT_size _ _), trivial, fun b hb => ?_, hok, .of_eq hgens⟩
    cases hb
  have hrun := (hF _ kinB (ns_in _ _ G.T.g)).run callerA [] s1 H [.ref a] [.ref a] _ _ rfl hr e0 (hbind s1 (.ref a)) (.cons rfl .nil) (hsp H a ns hlen hS)
  refine codeAny_mono hrun ?_
  intro res s' h
  cases res with
  | error ev =>
    obtain ⟨_, _, _, _, _, _, _, _, _, _, _, _, z⟩ := h
    exact z.elim
  | ok fl =>
    cases fl with
    | next => exact h.elim
    | brk => exact h.elim
    | cont => exact h.elim
    | ret u =>
      obtain ⟨v, H', hos, hbare, un, hok', r', rfl⟩ := h
      obtain rfl : u = Value.bool true := r'
      refine ⟨rfl, OldK.of_keep fun b ob e => ?_, hos, hbare⟩
      rcases hH b with z | ⟨rfl, _, z⟩
      · exact un.keep b ob e z (fun hm => by cases hm) (fun hm => by cases hm)
      · have z2 := (hok' b _ (un.frzs b _ _ z)).1
        rw [hobj] at e
        cases e
        exact z2
end
end G
set_option Elab.async false
set_option linter.all false
set_option maxRecDepth 100000
set_option maxHeartbeats 4000000
/-! G22: repr of lists and tuples -/
namespace G
open PySem PySem.Spec L2 PyProof.Rows
set_option autoImplicit false
def reprOk (d : PyData) : Bool := d.showable && (!d.hasDict && (((d.leavesShort 2000 && decide (d.weight ≤ 8000)) || (d.leavesShort 198 && decide (d.weight ≤ 80000))) && decide (d.depth ≤ 60)))
def isBox : PyData → Bool
  | .list _ => true
  | .tuple _ => true
  | .int _ => true
  | .bool _ => true
  | .none => true
  | .str _ => true
  | .dict _ => false
def gRepr : OpN := fun xs S => match xs with
  | [x] => match view x S with
    | some d => if (isBox d && reprOk d) = true then some (.d (.str d.shown), S) else none
    | none => none
  | _ => none
def rRepr (K : PySem.W.Frag) : List V → Hp → VK → Prop := fun xs H Q => ∃ (v : V) (d : PyData), xs = [v] ∧ Dp K H v d ∧ (isBox d && reprOk d) = true ∧ Q (.str d.shown) H
section
variable {Γ : Gm} {X : Cx} {Z : WX} {pos : Pos}
theorem call_reprD (hgd : X.A.guards = some []) (hu : Rm X) : CallR X (.builtin "repr") (rRepr X.K) := by
  intro pins s σ H xs us Q I r h
  obtain ⟨v, d, rfl, hd, ok, q⟩ := h
  obtain ⟨u, rfl, ru⟩ := r.one
  rw [Bool.and_eq_true] at ok
  obtain ⟨box, ok⟩ := ok
  unfold reprOk at ok
  simp only [Bool.and_eq_true, Bool.or_eq_true, decide_eq_true_eq, Bool.not_eq_true'] at ok
  obtain ⟨o1, o2, o3, o5⟩ := ok
  obtain ⟨as, rd⟩ := Dp.reads I d v u hd ru
  have hsz : d.shown.length ≤ sizeLine := by
    rw [sizeLine_eq]
    rcases o3 with ⟨o3, o4⟩ | ⟨o3, o4⟩
    · have h1 := PyData.shown_le 2000 (by decide) d o3
      have h2 : (2000 + 2) * d.weight ≤ (2000 + 2) * 8000 := Nat.mul_le_mul_left _ o4
      omega
    · have h1 := PyData.shown_le 198 (by decide) d o3
      have h2 : (198 + 2) * d.weight ≤ (198 + 2) * 80000 := Nat.mul_le_mul_left _ o4
      omega
  have hun : X.A.units + (d.depth + 1) < cLine := by unfold Rm at hu; omega
  have go : ∀ a, u = .ref a → wpAny (model X.prog X.w) X.A (call (.builtin "repr") [u]) (EP X pins σ Q) X.xe s := fun a e => by
    subst e
    exact repr_of_reads' rd o1 (PyData.noDict_hsm o2) hgd hun (fun _ _ e => e) (fun h' t tk hk => ⟨.str _, H, I.kept (t' := tk) hk, ⟨t, rfl⟩, q⟩) hsz
  cases hd with
  | lst q1 q2 => exact go _ ru
  | tup q1 q2 => exact go _ ru
  | int i =>
    obtain ⟨t, rfl⟩ := ru
    exact P.repr_of_int (of_decide_eq_true o1) ⟨.str _, H, I.tok _, ⟨_, rfl⟩, q⟩
  | bl b =>
    cases ru
    cases b
    · exact P.repr_of_bool ⟨.str _, H, I.tok _, ⟨_, rfl⟩, q⟩
    · exact P.repr_of_bool ⟨.str _, H, I.tok _, ⟨_, rfl⟩, q⟩
  | non =>
    cases ru
    exact P.repr_of_none ⟨.str _, H, I.tok _, ⟨_, rfl⟩, q⟩
  | str x =>
    obtain ⟨t, rfl⟩ := ru
    exact P.repr_of_str (h := ⟨.str _, H, I.tok _, ⟨_, rfl⟩, q⟩) hsz
theorem does_repr : DoesN Γ X Z gRepr (rRepr X.K) := fun w xs vs σ Q z S' G r h p => by
  unfold gRepr at h
  split at h
  · rename_i x
    split at h
    · rename_i d e
      split at h
      · rename_i ok
        cases h
        obtain ⟨v, rfl, rx⟩ := rws_one r
        exact ⟨v, d, rfl, view_ok G rx e, ok, p.use G (Dp.str _)⟩
      · cases h
    · cases h
  · cases h
theorem bc_repr {a : Expr} {fa : Fe (List W)} (hm : X.mg "repr" = none) (hgd : X.A.guards = some []) (hu : Rm X) (ha : VA Γ X Z [a] fa) {p : Pos} (hg : Gl X "repr" := by rfl) (he : starEach [a] X.env = (false, eval a X.env) :: starEach [] X.env := by rfl) (hpl : (backTo pos (starEach [] X.env)).any (·.1) = false := by rfl) :
    VE Γ X Z (.Call (.Name "repr" p) [a] [] pos) (fCB gRepr fa) := ve_callB (x := "repr") (call_reprD hgd hu) does_repr hg hm (by decide +kernel) ha (by decide +kernel) (by decide +kernel) he hpl
end
end G
set_option Elab.async false
set_option linter.all false
set_option maxRecDepth 100000
set_option maxHeartbeats 4000000
/-! G24: dicts by tuples of numbers, whatever tuples they are: the rules -/
namespace G
open PySem PySem.Spec L2 PyProof.Rows
set_option autoImplicit false
abbrev XL := List (List Int × Addr × Value)
def KIn (K : PySem.W.Frag) (H : Hp) (xs : XL) : Prop := ∀ x ∈ xs, SqT K H x.2.1 (x.1.map V.int)
section
variable {P : Program} {wd : World}
theorem ints_are : ∀ {ks : List Int} {us : List Value}, Vals (ks.map V.int) us → ItemsAre (PySem.intKind P wd) ks us
  | [], _, h => by cases h; exact .nil
  | k :: ks, _, h => by
    cases h with
    | cons q t =>
      obtain ⟨tk, rfl⟩ := q
      exact .cons (by show Value.isInt k (.int k tk) = true; simp [Value.isInt]) (ints_are t)
end
theorem dxP_stay {a : Addr} {xs : XL} {h1 h2 : Heap} (x : dxP a xs h1) (e : ∀ o, h1.get? a = some o → h2.get? a = some o) : dxP a xs h2 := by
  obtain ⟨o, es, ep, h, r⟩ := x
  exact ⟨o, es, ep, e o h, r⟩
theorem dxP_obj {P : Program} {wd : World} {H : Hp} {h : Heap} {a : Addr} {xs : XL} (x : dxP a xs h) : ObjOk P wd H h a (.ext (dxP a xs)) := by
  refine ⟨x, ?_, fun h1 h2 y e => dxP_stay y e⟩
  obtain ⟨o, _, _, e, _⟩ := x
  exact ⟨o, e⟩
theorem dxP_of {P : Program} {wd : World} {h : Heap} {a : Addr} {xs : XL} (x : h.DictOfH (tupleKind (PySem.intKind P wd)) a xs) : dxP a xs h := by
  obtain ⟨o, es, ep, h1, h2, h3, h4, _, h5⟩ := x
  exact ⟨o, es, ep, h1, h2, h3, h4, h5⟩
section
variable {X : Cx} {pins : List (Addr × Obj)} {σ : L2.St} {H : Hp} {s : Shared} {a b : Addr} {xs : XL} {ks : List Int}
theorem is_key (I : Inv X pins σ H s) (h : SqT X.K H b (ks.map V.int)) : (tupleKind (PySem.intKind X.prog X.w)).is s.heap ks b := by
  obtain ⟨its, rv, ⟨o, e1, e2, n, e3⟩, _⟩ := I.tuple h
  exact ⟨o, its.toArray, n, e1, e2, e3, by simpa using ints_are rv⟩
theorem dx_rd (I : Inv X pins σ H s) (h : Rd H a (.ext (dxP a xs))) : dxP a xs s.heap := by
  have := h.ok I.hok
  exact this.1
theorem dx_of (I : Inv X pins σ H s) (h : Rd H a (.ext (dxP a xs))) (hk : KIn X.K H xs) : s.heap.DictOfH (tupleKind (PySem.intKind X.prog X.w)) a xs := by
  obtain ⟨o, es, ep, h1, h2, h3, h4, h5⟩ := dx_rd I h
  exact ⟨o, es, ep, h1, h2, h3, h4, fun x hx => is_key I (hk x hx), h5⟩
end
section
variable {X : Cx} {pos : Pos}
/-! {} -/
def tNewX : TE := fun σ H Q => ∀ p, H p = none → (p == sysModules) = false → Q (.ref p) (upd H p (.ext (dxP p [])))
theorem pe_newX : PE X (.Dict [] [] pos) tNewX := by
  refine ⟨fun pins s σ H Q I h => ?_⟩
  refine wpAny_Dict_empty ?_
  have nw : dxP s.heap.objs.size [] (s.heap.push { cls := .type "dict", data := .dict #[] }) := ⟨_, #[], 0, Heap.get?_push_size _ rfl, ⟨rfl, rfl, rfl⟩, rfl, rfl, List.nodup_nil⟩
  have hs : (s.heap.objs.size == sysModules) = false := beq_eq_false_iff_ne.mpr (Nat.ne_of_gt I.big)
  exact ⟨.ref s.heap.objs.size, _, I.laid (a := s.heap.objs.size) (o := .ext (dxP s.heap.objs.size [])) (t' := s.toks) (fun _ _ q => Heap.get?_push_of_some _ q) (Nat.le_refl _) (dxP_obj nw), rfl, h _ (I.hok.fresh (Nat.le_refl _)) hs⟩
/-! d[k] = v -/
def tPutX (K : PySem.W.Frag) (td ty tv : TE) : TS := fun D σ H => tv σ H fun v H1 => td σ H1 fun x H2 => ty σ H2 fun y H3 => ∃ (a b : Addr) (xs : XL) (ks : List Int), x = .ref a ∧ y = .ref b ∧ H3 a = some (.ext (dxP a xs)) ∧ KIn K H3 xs ∧ SqT K H3 b (ks.map V.int) ∧ xs.length ≤ 1000000 ∧
  ∀ u, RelV v u → D.nx σ (upd H3 a (.ext (dxP a (storedH xs ks b u))))
theorem ps_putX {o i value : Expr} {td ty tv : TE} {pos' : Pos} (hu : Rm X) (ho : PE X o td) (hi : PE X i ty) (hv : PE X value tv) (hs : swapsWith value (some (.Subscript o i pos')) pos.line X.env = pure false) :
    PS X (.Assign [.Subscript o i pos'] value pos) (tPutX X.K td ty tv) := by
  constructor
  intro pins s σ H D I h
  refine wpAny_Assign_Subscript (thn (hv.run pins s σ H _ I h) ?_) hs
  rintro r s1 ⟨v, H1, I1, rv, q1⟩
  refine thn (ho.run pins s1 σ H1 _ I1 q1) ?_
  rintro u s2 ⟨x, H2, I2, rx, q2⟩
  refine thn (hi.run pins s2 σ H2 _ I2 q2) ?_
  rintro iv s3 ⟨y, H3, I3, ry, a, b, xs, ks, rfl, rfl, hd, hk, hb, hl, q3⟩
  obtain rfl : u = Value.ref a := rx
  obtain rfl : iv = Value.ref b := ry
  have hm := dx_of I3 (.inl hd) hk
  refine wpAny_setItem_heap (hsz := by rw [sizeLine_eq]; omega) (tupleKind_room_in1 (by unfold Rm at hu; omega)) (is_key I3 hb) hm fun h' hm' sb => ?_
  have hx' := dxP_of hm'
  obtain ⟨o', _, _, e', _⟩ := id hx'
  exact ⟨σ, _, I3.write (x := a) (e := a) (t' := _) (h' := h') (by rw [hd]; trivial) (.inl rfl) (fun c u hc e => (sb.2 c hc).trans e) ⟨o', e'⟩ (dxP_obj hx'), q3 r rv⟩
/-! k in d -/
def rInX (K : PySem.W.Frag) (neg : Bool) : R2 := fun x y H Q => ∃ (a b : Addr) (xs : XL) (ks : List Int), x = .ref b ∧ y = .ref a ∧ Rd H a (.ext (dxP a xs)) ∧ (a == sysModules) = false ∧ KIn K H xs ∧ SqT K H b (ks.map V.int) ∧ Q (.bl (if neg = true then !(atKey xs ks).isSome else (atKey xs ks).isSome)) H
theorem op_inX (hu : Rm X) : OpR X (compareOp .In) (rInX X.K false) := by
  intro pins s σ H x y v u Q I rx ry h
  obtain ⟨a, b, xs, ks, rfl, rfl, hd, hs, hk, hb, q⟩ := h
  obtain rfl : v = Value.ref b := rx
  obtain rfl : u = Value.ref a := ry
  exact wpAny_in_heap (tupleKind_room_in1 (by unfold Rm at hu; omega)) (is_key I hb) hs (dx_of I hd hk) ⟨.bl (atKey xs ks).isSome, H, I.tok _, rfl, q⟩
theorem op_notInX (hu : Rm X) : OpR X (compareOp .NotIn) (rInX X.K true) := by
  intro pins s σ H x y v u Q I rx ry h
  obtain ⟨a, b, xs, ks, rfl, rfl, hd, hs, hk, hb, q⟩ := h
  obtain rfl : v = Value.ref b := rx
  obtain rfl : u = Value.ref a := ry
  exact wpAny_notIn_heap (tupleKind_room_in1 (by unfold Rm at hu; omega)) (is_key I hb) hs (dx_of I hd hk) ⟨.bl (!(atKey xs ks).isSome), H, I.tok _, rfl, q⟩
/-! d[k] -/
def tGetX (K : PySem.W.Frag) (td ty : TE) : TE := fun σ H Q => td σ H fun x H1 => ty σ H1 fun y H2 => ∃ (a b : Addr) (xs : XL) (ks : List Int) (p : Addr × Value) (v : V), x = .ref a ∧ y = .ref b ∧ Rd H2 a (.ext (dxP a xs)) ∧ KIn K H2 xs ∧ SqT K H2 b (ks.map V.int) ∧ atKey xs ks = some p ∧ RelV v p.2 ∧ Q v H2
theorem pe_getX {o i : Expr} {td ty : TE} (hu : Rm X) (ho : PE X o td) (hi : PE X i ty) (hs : NoSl i) : PE X (.Subscript o i pos) (tGetX X.K td ty) := by
  constructor
  intro pins s σ H Q I q
  refine subD_of PySem.F.slot_dict_getitem.lookup hs (thn (ho.run pins s σ H _ I q) ?_)
  rintro u s1 ⟨x, H1, I1, rx, q1⟩
  refine thn (hi.run pins s1 σ H1 _ I1 q1) ?_
  rintro iv s2 ⟨y, H2, I2, ry, a, b, xs, ks, p, v, rfl, rfl, hd, hk, hb, hp, rp, q2⟩
  obtain rfl : u = Value.ref a := rx
  obtain rfl : iv = Value.ref b := ry
  have hm := dx_of I2 hd hk
  exact ⟨hm.typeIs, wpAny_getItem_heap (tupleKind_room_in1 (by unfold Rm at hu; omega)) (is_key I2 hb) hm hp ⟨v, H2, I2.tok _, rp, q2⟩⟩
/-! for k in d -/
def tLockX (td : TE) : TE := fun σ H Q => td σ H fun x H1 => ∃ (d : Addr) (xs : XL), x = .ref d ∧ ((H1 d = some (.ext (dxP d xs)) ∧ ∀ od, Q x (upd H1 d (.frz od (.ext (dxP d xs))))) ∨ ∃ o, H1 d = some (.frz o (.ext (dxP d xs))) ∧ Q x H1)
theorem pe_lockX {e : Expr} {td : TE} (h : PE X e td) : PE X e (tLockX td) := by
  constructor
  intro pins s σ H Q I q
  refine thn (h.run pins s σ H _ I q) ?_
  rintro u s1 ⟨x, H1, I1, rx, d, xs, rfl, ⟨hd, q1⟩ | ⟨o, hd, q1⟩⟩
  · obtain ⟨od, I2⟩ := I1.lock hd trivial
    exact ⟨_, _, I2, rx, q1 od⟩
  · exact ⟨_, _, I1, rx, q1⟩
def Itx (d : Addr) (o : Obj) (xs : XL) : It :=
  ⟨fun i H => H d = some (.frz o (.ext (dxP d xs))) ∧ i < xs.length, fun i H x H' => H' = H ∧ ∃ y, xs[i]? = some y ∧ x = .ref y.2.1, fun i H => H d = some (.frz o (.ext (dxP d xs))) ∧ xs.length ≤ i⟩
theorem frz_dx {pins : List (Addr × Obj)} {σ : L2.St} {H : Hp} {s : Shared} {d : Addr} {o : Obj} {xs : XL} (I : Inv X pins σ H s) (h : H d = some (.frz o (.ext (dxP d xs)))) :
    s.heap.get? d = some o ∧ o.ExactDict ∧ ∃ (es : Array DictEntry) (ep : Nat), o.data = .dict es ep ∧ es.size = xs.length ∧ es.toList = xs.map entX := by
  obtain ⟨hd, hx, _⟩ := I.hok d _ h
  obtain ⟨o', es, ep, e1, e2, e3, e4, _⟩ := hx
  rw [hd] at e1
  cases e1
  refine ⟨hd, e2, es, ep, e3, ?_, e4⟩
  rw [← Array.length_toList, e4, List.length_map]
theorem turn_keysX {P : Program} {w : World} {K : PySem.W.Frag} {tg : Expr} {d : Addr} {o : Obj} {es : Array DictEntry} {ep : Nat} {xs : XL} (it : Addr) (hod : o.data = .dict es ep) : Turn P w K tg (Itx d o xs) [it] it (fun i h => h.IsKeyIter it d i xs.length ep) where
  mem := by simp
  obj := fun i h st b hb => by
    obtain rfl : b = it := by simpa using hb
    obtain ⟨oi, e, c, dd⟩ := st
    exact ⟨oi, e, fun v z => by rw [dd] at z; cases z⟩
  keep := fun i h h' st k => st.at fun oi e => k it (by simp) oi e
  item := by
    intro X hP hw hK hc i pins s σ H E I hf st hg
    subst hP hw hK
    obtain ⟨hd, hi⟩ := hg
    obtain ⟨f0, f1, f2, f3, f4, f5⟩ := hf it (by simp)
    obtain ⟨hgd, hx, es', ep', hdt, hsz, hes⟩ := frz_dx I hd
    obtain ⟨rfl, rfl⟩ := dict_ep hod hdt
    have hy : xs[i]? = some xs[i] := List.getElem?_eq_getElem hi
    have hen : es'[i]? = some (entX xs[i]) := by rw [← Array.getElem?_toList, hes, List.getElem?_map, hy]; rfl
    refine next_key_item st hgd hdt hsz hen fun h' st' sb => ?_
    have I1 : Inv X pins σ H { s with heap := h' } := I.turned (t' := s.toks) (fun b ob hb e => (sb.2 b hb).trans e) f0 f1 f3 f4 f5
    obtain ⟨oi, e, c, dd⟩ := id st'
    exact ⟨_, rfl, go_of (s := { s with heap := h' }) e c dd (by decide) ⟨.ref xs[i].2.1, H, I1, rfl, ⟨rfl, xs[i], hy, rfl⟩, st', fun b hb => (hf b hb).1⟩⟩
  done := by
    intro X hP hw hK hc i pins s σ H E I hf st hg
    subst hP hw hK
    obtain ⟨hd, hi⟩ := hg
    obtain ⟨f0, f1, f2, f3, f4, f5⟩ := hf it (by simp)
    obtain ⟨hgd, hx, es', ep', hdt, hsz, hes⟩ := frz_dx I hd
    obtain ⟨rfl, rfl⟩ := dict_ep hod hdt
    exact next_key_end (I.ok.hd hc) st hgd hdt hsz hi fun h' eb => ⟨rfl, I.turned (t' := s.toks) (fun b ob hb e => eb b ob hb e) f0 f1 f3 f4 f5⟩
  self := fun A i s Q E st h => wpAny_pyIter_keyiter st h
def iKeysX (td : TE) : TI := fun σ H R => td σ H fun x H1 => ∃ (d : Addr) (o : Obj) (xs : XL), x = .ref d ∧ (d == sysModules) = false ∧ H1 d = some (.frz o (.ext (dxP d xs))) ∧ R (Itx d o xs) H1
theorem pi_keysX {tg e : Expr} {td : TE} (he : PE X e td) : PI X tg e (iKeysX td) := by
  constructor
  intro pins s σ H R I h
  refine thn (he.run pins s σ H _ I h) ?_
  rintro u s1 ⟨x, H1, I1, rx, d, o, xs, rfl, hs, hd, q⟩
  obtain rfl : u = Value.ref d := rx
  obtain ⟨hgd, hx, es, ep, hdt, hsz, _⟩ := frz_dx I1 hd
  refine iter_keys hs hgd hx hdt (pi_one (tk := s1.toks) I1 _ (turn_keysX _ hdt) ⟨_, Heap.get?_push_size _ rfl, rfl, ?_⟩ q)
  rw [hsz]
  rfl
end
end G
set_option Elab.async false
set_option linter.all false
set_option maxRecDepth 100000
set_option maxHeartbeats 4000000
/-! G25: dicts by tuples of numbers, by values -/
namespace G
open PySem PySem.Spec L2 PyProof.Rows
set_option autoImplicit false
def intsL : List PyData → Option (List Int)
  | [] => some []
  | .int i :: r => (intsL r).map (i :: ·)
  | _ :: _ => none
def keyI : PyData → Option (List Int)
  | .tuple ds => intsL ds
  | _ => none
def tupI (ks : List Int) : PyData := .tuple (ks.map PyData.int)
section
variable {K : PySem.W.Frag} {H : Hp}
theorem ints_v : ∀ {ds : List PyData} {vs : List V} {ks : List Int}, intsL ds = some ks → DpAll K H vs ds → vs = ks.map V.int
  | [], _, ks, h, r => by
    cases r
    cases (show some [] = some ks from h)
    rfl
  | d :: ds, _, ks, h, r => by
    cases r with
    | cons q t =>
      cases q <;> first | (cases h; done) | skip
      obtain ⟨ks', e1, rfl⟩ := Option.map_eq_some_iff.mp (show (intsL ds).map _ = some ks from h)
      rw [ints_v e1 t]
      rfl
theorem ints_dp : ∀ ks : List Int, DpAll K H (ks.map V.int) (ks.map PyData.int)
  | [] => .nil
  | k :: r => .cons (.int k) (ints_dp r)
theorem keyI_v {d : PyData} {v : V} {ks : List Int} (h : keyI d = some ks) (r : Dp K H v d) : ∃ b, v = .ref b ∧ SqT K H b (ks.map V.int) := by
  cases r with
  | tup q r =>
    obtain rfl := ints_v h r
    exact ⟨_, rfl, q⟩
  | _ => cases h
end
@[simp] theorem intsL_map : ∀ ks : List Int, intsL (ks.map PyData.int) = some ks
  | [] => rfl
  | k :: r => by
    show (intsL (r.map PyData.int)).map _ = _
    rw [intsL_map r]
    rfl
section
variable {K : PySem.W.Frag} {w : Wd} {xs : XL} {kvs : List (List Int × W)} {ks : List Int}
theorem XE.kin : ∀ {xs : XL} {kvs : List (List Int × W)}, Paired (XE K w) xs kvs → KIn K w.H xs
  | _, _, .nil => fun x hx => by cases hx
  | _, _, .cons (a := x) (b := q) ⟨e1, e2, _⟩ t => fun y hy => by
    rcases List.mem_cons.mp hy with h | h
    · rw [h, e1]; exact SqT.mono (im_sub w) e2
    · exact XE.kin t y h
theorem xe_at : ∀ {xs : XL} {kvs : List (List Int × W)}, Paired (XE K w) xs kvs → (atKey xs ks).isSome = (lookD kvs ks).isSome ∧ ∀ z, lookD kvs ks = some z → ∃ p v, atKey xs ks = some p ∧ RelV v p.2 ∧ RW K w v z
  | _, _, .nil => ⟨rfl, fun z h => by cases h⟩
  | _, _, .cons (a := x) (b := q) (l₁ := xs) (l₂ := kvs) ⟨e1, _, v, e3, e4⟩ t => by
    obtain ⟨i1, i2⟩ := xe_at t
    have eA : atKey (x :: xs) ks = if x.1 = ks then some x.2 else atKey xs ks := by
      unfold atKey
      rw [List.find?_cons]
      by_cases h : x.1 = ks
      · simp [h]
      · simp [h]
    have eL : lookD (q :: kvs) ks = if x.1 = ks then some q.2 else lookD kvs ks := by
      show (if q.1 = ks then some q.2 else lookD kvs ks) = _
      rw [e1]
    rw [eA, eL]
    by_cases h : x.1 = ks
    · simp only [if_pos h]
      exact ⟨rfl, fun z hz => by cases hz; exact ⟨x.2, v, rfl, e3, e4⟩⟩
    · simp only [if_neg h]
      exact ⟨i1, i2⟩
theorem xe_any : ∀ {xs : XL} {kvs : List (List Int × W)}, Paired (XE K w) xs kvs → (kvs.any fun kv => decide (kv.1 = ks)) = (atKey xs ks).isSome
  | _, _, .nil => rfl
  | _, _, .cons (a := x) (b := q) (l₁ := xs) (l₂ := kvs) ⟨e1, _⟩ t => by
    have eA : atKey (x :: xs) ks = if x.1 = ks then some x.2 else atKey xs ks := by
      unfold atKey
      rw [List.find?_cons]
      by_cases h : x.1 = ks
      · simp [h]
      · simp [h]
    rw [List.any_cons, xe_any t, eA, ← e1]
    by_cases h : x.1 = ks
    · simp [h]
    · simp [h]
theorem xe_put {b : Addr} {u : Value} {v : V} {z : W} (h : Paired (XE K w) xs kvs) (hb : SqT K w.im b (ks.map V.int)) (rv : RelV v u) (rz : RW K w v z) : Paired (XE K w) (storedH xs ks b u) (putD kvs ks z) := by
  unfold storedH putD
  rw [xe_any h]
  by_cases hk : (atKey xs ks).isSome = true
  · rw [if_pos hk, if_pos hk]
    have : ∀ {xs : XL} {kvs : List (List Int × W)}, Paired (XE K w) xs kvs → Paired (XE K w) (xs.map (putAt ks u)) (kvs.map fun kv => if kv.1 = ks then (kv.1, z) else kv) := by
      intro xs kvs h
      induction h with
      | nil => exact .nil
      | @cons x q xs kvs hq t ih =>
        refine .cons ?_ ih
        obtain ⟨e1, e2, e3⟩ := hq
        unfold putAt
        show XE K w (if x.1 = ks then (x.1, x.2.1, u) else x) (if q.1 = ks then (q.1, z) else q)
        rw [← e1]
        by_cases hx : x.1 = ks
        · rw [if_pos hx, if_pos hx]
          exact ⟨rfl, by rw [e1]; exact e2, v, rv, rz⟩
        · rw [if_neg hx, if_neg hx]
          exact ⟨e1, e2, e3⟩
    exact this h
  · rw [if_neg hk, if_neg hk]
    exact Paired.app h (.cons ⟨rfl, hb, v, rv, rz⟩ .nil)
theorem storedH_len (xs : XL) (ks : List Int) (b : Addr) (u : Value) : (storedH xs ks b u).length ≤ xs.length + 1 := by
  unfold storedH
  split <;> simp
end
/-! {} -/
def fNewX : Fe W := fun _ S => .ok (.o S.length) (S ++ [.dix []])
def dixOf (x : W) (S : Sto) : Option (List (List Int × W)) := match x with
  | .o n => match S[n]? with
    | some (.dix kvs) => some kvs
    | some (.fdx kvs) => some kvs
    | _ => none
  | _ => none
theorem dixOf_ok {Γ : Gm} {K : PySem.W.Frag} {w : Wd} {v : V} {x : W} {kvs : List (List Int × W)} (G : Good Γ K w) (r : RW K w v x) (h : dixOf x w.S = some kvs) : ∃ a xs, v = .ref a ∧ Rd w.H a (.ext (dxP a xs)) ∧ (a == sysModules) = false ∧ xs.length ≤ 1000000 ∧ Paired (XE K w) xs kvs := by
  cases x with
  | o n =>
    obtain ⟨a, ha, rfl⟩ := r
    unfold dixOf at h
    dsimp only at h
    split at h
    · rename_i e
      cases h
      obtain ⟨xs, q, r⟩ := G.cell n a _ ha e
      exact ⟨a, xs, rfl, .inl q, r⟩
    · rename_i e
      cases h
      obtain ⟨o, xs, q, r⟩ := G.cell n a _ ha e
      exact ⟨a, xs, rfl, .inr ⟨o, q⟩, r⟩
    · cases h
  | _ => cases h
section
variable {Γ : Gm} {X : Cx} {Z : WX} {pos : Pos}
theorem ve_newX : VE Γ X Z (.Dict [] [] pos) fNewX := by
  refine ⟨PE.mono pe_newX ?_⟩
  rintro σ H Q ⟨w, ρ, rfl, G, s, p⟩ q hq hs
  obtain ⟨G1, l1⟩ := G.alloc (c := .dix []) hq (.ext (dxP q [])) (fun w1 l e => ⟨[], e, hs, by simp, .nil⟩) rfl
  exact p ⟨w.μ ++ [q], w.S ++ [.dix []], upd w.H q (.ext (dxP q []))⟩ (.ref q) rfl l1 G1 ⟨q, by show (w.μ ++ [q])[w.S.length]? = _; rw [← G.len]; simp, rfl⟩
/-! d[k] = v -/
def putXk (x y z : W) (S : Sto) : Option Sto := match x, y with
  | .o n, .d d => match keyI d, S[n]? with
    | some ks, some (.dix kvs) => if kvs.length < 1000000 then some (S.set n (.dix (putD kvs ks z))) else none
    | _, _ => none
  | _, _ => none
def fPutX (fo fi fv : Fe W) : Fs := fun ρ S => (fv ρ S).fl ρ fun z S1 => (fo ρ S1).fl ρ fun x S2 => (fi ρ S2).fl ρ fun y S3 => match putXk x y z S3 with
  | some S4 => .nx ρ S4
  | none => .bad
theorem vs_putX {o i e : Expr} {fo fi fv : Fe W} {p' : Pos} (hu : Rm X) (he : VE Γ X Z e fv) (ho : VE Γ X Z o fo) (hi : VE Γ X Z i fi)
    (hs : swapsWith e (some (.Subscript o i p')) pos.line X.env = pure false := by rfl) : VS Γ X Z (.Assign [.Subscript o i p'] e pos) (fPutX fo fi fv) := by
  refine ⟨PS.mono (ps_putX hu ho.pe hi.pe he.pe hs) fun D σ H q => ?_⟩
  refine (liftS.out (R := RW X.K) (k := fun z ρ S1 => (fo ρ S1).fl ρ fun x S2 => (fi ρ S2).fl ρ fun y S3 => match putXk x y z S3 with
    | some S4 => .nx ρ S4
    | none => .bad) q).imp ?_
  rintro v H1 ⟨z, w1, ρ1, rfl, G1, s1, rz, p1⟩
  refine ⟨w1, ρ1, rfl, G1, s1, (flpost (R := RW X.K) p1 s1).imp ?_⟩
  rintro o' H2 ⟨x, w2, rfl, G2, l2, rx, p2⟩
  refine ⟨w2, ρ1, rfl, G2, s1.mono l2, (flpost (R := RW X.K) p2 (s1.mono l2)).imp ?_⟩
  rintro i' H3 ⟨y, w3, rfl, G3, l3, ry, p3⟩
  cases e4 : putXk x y z w3.S with
  | none => rw [e4] at p3; exact p3.elim
  | some S4 =>
    rw [e4] at p3
    unfold putXk at e4
    split at e4
    · rename_i n d
      split at e4
      · rename_i ks kvs ek ew
        split at e4
        · rename_i hz
          cases e4
          obtain ⟨a, ha, rfl⟩ := RW.mono l3 rx
          obtain ⟨xs, hv, hsm, hln, rv⟩ := G3.cell n a _ ha ew
          obtain ⟨b, rfl, hb⟩ := keyI_v ek ry
          have rz3 := RW.mono (l2.trans l3) rz
          have hl : xs.length = kvs.length := Paired.len rv
          refine ⟨a, b, xs, ks, rfl, rfl, hv, XE.kin rv, SqT.mono (im_sub w3) hb, by omega, fun u ru => ?_⟩
          have hst := storedH_len xs ks b u
          obtain ⟨G5, l5⟩ := G3.write (c' := .dix (putD kvs ks z)) ha ew rfl (.ext (dxP a (storedH xs ks b u))) (fun w1 l e => ⟨_, e, hsm, by omega, Paired.imp (fun _ _ q => XE.mono l q) (xe_put rv hb ru rz3)⟩) rfl
          exact PostS.nx_use (w := ⟨w3.μ, w3.S.set n (.dix (putD kvs ks z)), upd w3.H a (.ext (dxP a (storedH xs ks b u)))⟩) (PostS.mono l5 p3) G5 ((s1.mono (l2.trans l3)).mono l5)
        · cases e4
      · cases e4
    · cases e4
/-! k in d -/
def gInX (neg : Bool) : Op2 := fun x y S => match x, dixOf y S with
  | .d d, some kvs => match keyI d with
    | some ks => some (.d (.bool (if neg = true then !(lookD kvs ks).isSome else (lookD kvs ks).isSome)), S)
    | none => none
  | _, _ => none
theorem does_inX {neg : Bool} : Does2 Γ X Z (gInX neg) (rInX X.K neg) := fun w x y vx vy σ Q z S' G rx ry h p => by
  unfold gInX at h
  split at h
  · rename_i d kvs e1
    split at h
    · rename_i ks ek
      cases h
      obtain ⟨a, xs, rfl, hd, hs, _, rr⟩ := dixOf_ok G ry e1
      obtain ⟨b, rfl, hb⟩ := keyI_v ek rx
      refine ⟨a, b, xs, ks, rfl, rfl, hd, hs, XE.kin rr, SqT.mono (im_sub w) hb, ?_⟩
      rw [(xe_at rr).1]
      exact p.use G (Dp.bl _)
    · cases h
  · cases h
section
variable {a b : Expr} {f g : Fe W}
theorem ve_inX (hu : Rm X) (ha : VE Γ X Z a f) (hb : VE Γ X Z b g) (hm : behindInMarks .In b = false := by with_unfolding_all rfl) : VE Γ X Z (.Compare a [.In] [b] pos) (fOp2 (gInX false) f g) := ve_cmp (op_inX hu) does_inX hm ha hb
theorem ve_ninX (hu : Rm X) (ha : VE Γ X Z a f) (hb : VE Γ X Z b g) (hm : behindInMarks .NotIn b = false := by with_unfolding_all rfl) : VE Γ X Z (.Compare a [.NotIn] [b] pos) (fOp2 (gInX true) f g) := ve_cmp (op_notInX hu) does_inX hm ha hb
theorem vt_inX (hu : Rm X) (ha : VE Γ X Z a f) (hb : VE Γ X Z b g) (hm : behindInMarks .In b = false := by with_unfolding_all rfl) : VT Γ X Z (.Compare a [.In] [b] pos) (fTru (fOp2 (gInX false) f g)) := vt_cmp (op_inX hu) does_inX hm ha hb
theorem vt_ninX (hu : Rm X) (ha : VE Γ X Z a f) (hb : VE Γ X Z b g) (hm : behindInMarks .NotIn b = false := by with_unfolding_all rfl) : VT Γ X Z (.Compare a [.NotIn] [b] pos) (fTru (fOp2 (gInX true) f g)) := vt_cmp (op_notInX hu) does_inX hm ha hb
end
/-! d[k] -/
def gXget : Op2 := fun x y S => match dixOf x S, y with
  | some kvs, .d d => match keyI d with
    | some ks => (lookD kvs ks).map fun z => (z, S)
    | none => none
  | _, _ => none
theorem ve_xget (hu : Rm X) {a b : Expr} {f h : Fe W} (ha : VE Γ X Z a f) (hb : VE Γ X Z b h) (hs : NoSl b := by intro _ _; rfl) : VE Γ X Z (.Subscript a b pos) (fOp2 gXget f h) := by
  refine ⟨PE.mono (pe_getX hu ha.pe hb.pe hs) fun σ H Q q => ?_⟩
  refine liftR.imp (seq2 (R := RW X.K) (R1 := RW X.K) (k := fun x y S => ofO (gXget x y S)) (fun _ _ _ _ l r => RW.mono l r) q) fun v H1 h1 => liftR.imp h1 ?_
  rintro u H2 ⟨x, y, w, rfl, G, rx, ry, p⟩
  cases e : gXget x y w.S with
  | none => rw [e] at p; exact p.elim
  | some zz =>
    rw [e] at p
    unfold gXget at e
    split at e
    · rename_i kvs d e1
      split at e
      · rename_i ks e2
        obtain ⟨z, e3, rfl⟩ := Option.map_eq_some_iff.mp e
        obtain ⟨a, xs, rfl, hd, hs, _, rr⟩ := dixOf_ok G rx e1
        obtain ⟨b, rfl, hb⟩ := keyI_v e2 ry
        obtain ⟨pp, v', h3, h4, h5⟩ := (xe_at rr).2 z e3
        exact ⟨a, b, xs, ks, pp, v', rfl, rfl, hd, XE.kin rr, SqT.mono (im_sub w) hb, h3, h4, p.use G h5⟩
      · cases e
    · cases e
/-! for k in d -/
def keysX (kvs : List (List Int × W)) : List PyData := kvs.map fun q => tupI q.1
def fKeysX (f : Fe W) : Fe (List PyData) := fun ρ S => (f ρ S).bind fun x S1 => match x with
  | .o n => match S1[n]? with
    | some (.dix kvs) => .ok (keysX kvs) (S1.set n (.fdx kvs))
    | some (.fdx kvs) => .ok (keysX kvs) S1
    | _ => .bad
  | _ => .bad
theorem Good.lockX {K : PySem.W.Frag} {w : Wd} {n : Nat} {a : Addr} {kvs : List (List Int × W)} {xs : XL} (G : Good Γ K w) (h1 : w.μ[n]? = some a) (h2 : w.S[n]? = some (.dix kvs)) (hH : w.H a = some (.ext (dxP a xs))) (hs : (a == sysModules) = false) (hl : xs.length ≤ 1000000) (hr : Paired (XE K w) xs kvs) (od : Obj) :
    Good Γ K ⟨w.μ, w.S.set n (.fdx kvs), upd w.H a (.frz od (.ext (dxP a xs)))⟩ ∧ w.le ⟨w.μ, w.S.set n (.fdx kvs), upd w.H a (.frz od (.ext (dxP a xs)))⟩ := by
  have hn := (List.getElem?_eq_some_iff.mp h2).1
  have la : w.live a := ⟨n, _, h1, h2, rfl⟩
  have lv : ∀ b, Wd.live ⟨w.μ, w.S.set n (.fdx kvs), upd w.H a (.frz od (.ext (dxP a xs)))⟩ b → w.live b := by
    rintro b ⟨m, d, e1, e2, e3⟩
    by_cases hm : n = m
    · subst hm
      replace e2 : (w.S.set n (.fdx kvs))[n]? = some d := e2
      rw [List.getElem?_set_self hn] at e2
      cases e2
      cases e3
    · replace e2 : (w.S.set n (.fdx kvs))[m]? = some d := e2
      rw [List.getElem?_set_ne hm] at e2
      exact ⟨m, d, e1, e2, e3⟩
  have le : w.le ⟨w.μ, w.S.set n (.fdx kvs), upd w.H a (.frz od (.ext (dxP a xs)))⟩ := by
    refine ⟨fun b u e => ?_, [], by simp⟩
    obtain ⟨e1, e2, e3⟩ := Wd.im_some e
    have nb : b ≠ a := fun q => e2 (q ▸ la)
    exact Wd.im_of (w := ⟨w.μ, w.S.set n (.fdx kvs), upd w.H a (.frz od (.ext (dxP a xs)))⟩) (by show upd w.H a _ b = _; rw [upd_ne nb]; exact e1) (fun q => e2 (lv b q)) e3
  refine ⟨⟨by simp [G.len], G.inj, fun b hb => ?_, fun m b d e1 e2 => ?_, Γ.upd _ _ _ (.inr (.inr (.inr (.inr ⟨_, hH⟩)))) G.side⟩, le⟩
  · by_cases hb' : b = a
    · exact ⟨.frz od (.ext (dxP a xs)), by subst hb'; exact upd_same⟩
    · obtain ⟨u, e⟩ := G.tr b hb
      exact ⟨u, by show upd w.H a _ b = _; rw [upd_ne hb']; exact e⟩
  · replace e2 : (w.S.set n (.fdx kvs))[m]? = some d := e2
    by_cases hm : n = m
    · subst hm
      obtain rfl : b = a := Option.some.inj (e1.symm.trans h1)
      rw [List.getElem?_set_self hn] at e2
      cases e2
      exact ⟨od, xs, upd_same, hs, hl, Paired.imp (fun _ _ z => XE.mono le z) hr⟩
    · rw [List.getElem?_set_ne hm] at e2
      have nb : b ≠ a := fun q => hm (G.uniq h1 (q ▸ e1))
      exact CellOk.mono le (upd_ne nb) (G.cell m b d e1 e2)
theorem walkD_keysX {K : PySem.W.Frag} {w : Wd} {a : Addr} {o : Obj} {xs : XL} {kvs : List (List Int × W)} (h : w.im a = some (.frz o (.ext (dxP a xs)))) (hr : Paired (XE K w) xs kvs) : WalkD Γ K w (Itx a o xs) (keysX kvs) := by
  have hl : xs.length = (keysX kvs).length := by unfold keysX; rw [List.length_map]; exact Paired.len hr
  refine ⟨fun H => H a = some (.frz o (.ext (dxP a xs))), fun i H x H' => H' = H ∧ ∃ y, xs[i]? = some y ∧ x = .ref y.2.1, ?_, fun w' l g => (Wd.im_some (l.im _ _ h)).1, ?_⟩
  · rw [← hl]
    exact ⟨fun _ _ hi q => ⟨q, hi⟩, fun _ q => ⟨q, Nat.le_refl _⟩, fun _ _ _ _ _ _ y => y⟩
  · rintro i w' x H' hi l g ⟨rfl, y, e1, rfl⟩
    have hz : i < kvs.length := by unfold keysX at hi; simpa using hi
    obtain ⟨p, e3, e4, e5, _⟩ := Paired.get hr (i := i) (y := kvs[i]) (by simp [hz])
    rw [e1] at e3
    cases e3
    refine ⟨w', rfl, rfl, Wd.le.refl _, g, tupI kvs[i].1, ?_, Dp.tup (SqT.mono l.im e5) (ints_dp _)⟩
    unfold keysX
    rw [List.getElem?_map, List.getElem?_eq_getElem hz]
    rfl
theorem vi_keysX {tg e : Expr} {f : Fe W} (h : VE Γ X Z e f) : VI Γ X Z tg e (fKeysX f) := by
  refine ⟨PI.mono (pi_keysX (pe_lockX h.pe)) fun σ H R q => ?_⟩
  have h1 := seq1 (R := RW X.K) (R2 := WalkD Γ X.K) (k := fun x S => match x with
    | .o n => match S[n]? with
      | some (.dix kvs) => Out.ok (keysX kvs) (S.set n (.fdx kvs))
      | some (.fdx kvs) => .ok (keysX kvs) S
      | _ => .bad
    | _ => .bad) q
  refine liftR.imp h1 ?_
  rintro v H1 ⟨x, w, rfl, G, rx, p⟩
  cases x with
  | o n =>
    obtain ⟨a, ha, rfl⟩ := rx
    dsimp only at p
    split at p
    · rename_i kvs e
      obtain ⟨xs, hH, hs, hl, rr⟩ := G.cell n a _ ha e
      refine ⟨a, xs, rfl, .inl ⟨hH, fun od => ⟨a, od, xs, rfl, hs, upd_same, ?_⟩⟩⟩
      obtain ⟨G2, l2⟩ := G.lockX ha e hH hs hl rr od
      have hn := (List.getElem?_eq_some_iff.mp e).1
      refine p ⟨w.μ, w.S.set n (.fdx kvs), upd w.H a (.frz od (.ext (dxP a xs)))⟩ _ rfl l2 G2 (walkD_keysX ?_ (Paired.imp (fun _ _ z => XE.mono l2 z) rr))
      refine Wd.im_of (w := ⟨w.μ, w.S.set n (.fdx kvs), upd w.H a (.frz od (.ext (dxP a xs)))⟩) upd_same ?_ (fun ps z => by cases z)
      intro lv
      rw [G2.live_iff ha (show (w.S.set n (.fdx kvs))[n]? = some (.fdx kvs) from List.getElem?_set_self hn)] at lv
      cases lv
    · rename_i kvs e
      obtain ⟨o, xs, hH, hs, hl, rr⟩ := G.cell n a _ ha e
      refine ⟨a, xs, rfl, .inr ⟨o, hH, a, o, xs, rfl, hs, hH, ?_⟩⟩
      refine p w _ rfl (Wd.le.refl w) G (walkD_keysX ?_ rr)
      refine Wd.im_of hH ?_ (fun ps z => by cases z)
      intro lv
      rw [G.live_iff ha e] at lv
      cases lv
    · exact p.elim
  | _ => exact p.elim
end
end G
set_option Elab.async false
set_option linter.all false
set_option maxRecDepth 100000
set_option maxHeartbeats 4000000
/-! G26: dict(list of pairs), keys tuples of numbers -/
namespace G
open PySem PySem.Spec L2 PyProof.Rows
set_option autoImplicit false
/-- a pair: its tuple, its key, where the key stands, what it holds -/
structure Pq where
  p : Addr
  ks : List Int
  b : Addr
  v : V
def pqX (e : Pq) (u : Value) : List Int × Addr × Value := (e.ks, e.b, u)
def pqV (e : Pq) (u : Value) : Value × Value := (.ref e.b, u)
section
variable {X : Cx} {pins : List (Addr × Obj)} {σ : L2.St} {H : Hp} {s : Shared}
def PqOk (K : PySem.W.Frag) (H : Hp) (e : Pq) : Prop := SqT K H e.p [.ref e.b, e.v] ∧ SqT K H e.b (e.ks.map V.int)
theorem pq_vals (I : Inv X pins σ H s) : ∀ es : List Pq, (∀ e ∈ es, PqOk X.K H e) → ∃ us : List Value, Paired (fun (e : Pq) u => RelV e.v u ∧ s.heap.IsTuple e.p #[.ref e.b, u]) es us
  | [], _ => ⟨[], .nil⟩
  | e :: es, h => by
    obtain ⟨us, r⟩ := pq_vals I es fun x hx => h x (by simp [hx])
    obtain ⟨its, rv, ht, _⟩ := I.tuple (h e (by simp)).1
    obtain ⟨u, y, ei, ru, ry⟩ := vals2 rv
    subst ei
    obtain rfl : u = Value.ref e.b := ru
    exact ⟨y :: us, .cons ⟨ry, ht⟩ r⟩
theorem paired_zip {α β : Type} {F : α → β → Prop} : ∀ {l : List α} {m : List β}, Paired F l m → ∀ {j : Nat} {y : α × β}, (l.zip m)[j]? = some y → l[j]? = some y.1 ∧ m[j]? = some y.2 ∧ F y.1 y.2
  | _, _, .nil, j, y, h => by simp at h
  | _, _, .cons q t, 0, y, h => by
    simp at h
    subst h
    exact ⟨rfl, rfl, q⟩
  | _, _, .cons q t, j + 1, y, h => by
    simp only [List.zip_cons_cons, List.getElem?_cons_succ] at h ⊢
    exact paired_zip t h
def rDictX (K : PySem.W.Frag) : List V → Hp → VK → Prop := fun as H Q => ∃ (a : Addr) (es : List Pq), as = [.ref a] ∧ SqL K H a (es.map fun e => V.ref e.p) ∧ es.length ≤ 1000000 ∧ (∀ e ∈ es, PqOk K H e) ∧
  ∀ (p : Addr) (us : List Value), H p = none → (p == sysModules) = false → Paired (fun (e : Pq) u => RelV e.v u) es us → Q (.ref p) (upd H p (.ext (dxP p (storedAllH [] ((es.zip us).map fun y => pqX y.1 y.2)))))
theorem call_dictX (hu : Rm X) (hc : X.calm = true) : CallR X (.type "dict") (rDictX X.K) := by
  intro pins s σ H as vs Q I r h
  obtain ⟨a, es, rfl, hq, hl, hes, q⟩ := h
  obtain ⟨u, eu, rx⟩ := vals1 r
  subst eu
  cases rx
  obtain ⟨its, rv, ⟨o, n, ho, hcl, hd, hdat⟩, hz⟩ := I.list hq
  obtain ⟨us, pr⟩ := pq_vals I es hes
  have hlen : es.length = us.length := Paired.len pr
  have ei : its = es.map fun e => Value.ref e.p := by
    have : es.map (fun e => V.ref e.p) = (es.map Pq.p).map V.ref := by rw [List.map_map]; rfl
    rw [this] at rv
    have := refs_at rv
    rw [this, List.map_map]
    rfl
  subst ei
  let ps : List (Value × Value) := (es.zip us).map fun y => pqV y.1 y.2
  let xs : XL := (es.zip us).map fun y => pqX y.1 y.2
  let Ts : Nat → Addr := fun j => (es.map Pq.p).getD j 0
  have hzl : (es.zip us).length = es.length := by simp [hlen]
  have hpl : ps.length = es.length := by show ((es.zip us).map _).length = _; rw [List.length_map, hzl]
  have hxl : xs.length = es.length := by show ((es.zip us).map _).length = _; rw [List.length_map, hzl]
  have P := PairArg.list (prog := X.prog) (w := X.w) a (es.map fun e => Value.ref e.p).toArray Ts ps
  have items : PairItems s.heap (es.map fun e => Value.ref e.p).toArray Ts ps := by
    refine ⟨by simp [hpl], fun j k v hj => ?_⟩
    have hj' : ((es.zip us)[j]?).map (fun y => pqV y.1 y.2) = some (k, v) := by rw [← List.getElem?_map]; exact hj
    obtain ⟨y, hy, e⟩ := Option.map_eq_some_iff.mp hj'
    obtain ⟨e1, e2, e3⟩ := paired_zip pr hy
    cases e
    have hT : Ts j = y.1.p := by
      show (es.map Pq.p).getD j 0 = _
      rw [List.getD_eq_getElem?_getD, List.getElem?_map, e1]
      rfl
    refine ⟨?_, ?_⟩
    · rw [hT]
      simp [e1]
    · rw [hT]
      exact .inl e3.2
  have hst : KeysStay (tupleKind (PySem.intKind X.prog X.w)) s.heap s.heap.objs.size [] xs := by
    intro h' hk x hx
    obtain ⟨y, hy, rfl⟩ := List.mem_map.mp hx
    have hmem := (List.of_mem_zip (a := y.1) (b := y.2) hy).1
    obtain ⟨ob, items, m, e1, e2, e3, e4⟩ := is_key I (hes _ hmem).2
    exact ⟨ob, items, m, hk _ _ (Nat.ne_of_lt (Heap.lt_size e1)) (by simp) e1, e2, e3, e4⟩
  refine call_dict_pairsH (knd := tupleKind (PySem.intKind X.prog X.w)) (ps := xs) P (I.ok.hd hc) (show X.A.units + 1 + 1 < cLine by unfold Rm at hu; omega) ⟨⟨o, n, ho, hcl, hd, hdat⟩, items⟩ ⟨by omega, fun i key v hi => ?_⟩ hst (by rw [hpl, sizeLine_eq]; omega) fun h' tk hd' hk => ?_
  · have hi' : ((es.zip us)[i]?).map (fun y => pqV y.1 y.2) = some (key, v) := by rw [← List.getElem?_map]; exact hi
    obtain ⟨y, hy, e⟩ := Option.map_eq_some_iff.mp hi'
    cases e
    refine ⟨y.1.ks, y.1.b, ?_, rfl⟩
    show ((es.zip us).map _)[i]? = _
    rw [List.getElem?_map, hy]
    rfl
  · have hs : (s.heap.objs.size == sysModules) = false := beq_eq_false_iff_ne.mpr (Nat.ne_of_gt I.big)
    exact ⟨.ref s.heap.objs.size, _, I.laid (a := s.heap.objs.size) (o := .ext (dxP s.heap.objs.size (storedAllH [] xs))) (t' := tk) (fun b o e => hk b o (by simp) e) (Nat.le_refl _) (dxP_obj (dxP_of hd')), rfl,
      q _ us (I.hok.fresh (Nat.le_refl _)) hs (Paired.imp (fun _ _ z => z.1) pr)⟩
end
/-! by values -/
def pairX : W → Option (List Int × PyData)
  | .d (.tuple [k, v]) => (keyI k).map fun ks => (ks, v)
  | _ => none
def pairsX : List W → Option (List (List Int × PyData))
  | [] => some []
  | x :: r => match pairX x, pairsX r with
    | some p, some ps => some (p :: ps)
    | _, _ => none
def putAll (ps : List (List Int × PyData)) : List (List Int × W) := ps.foldl (fun acc p => putD acc p.1 (.d p.2)) []
def gDictX : OpN := fun xs S => match xs with
  | [x] => match lstOf x S with
    | some ws => match pairsX ws with
      | some ps => if ws.length ≤ 1000000 then some (.o S.length, S ++ [.dix (putAll ps)]) else none
      | none => none
    | none => none
  | _ => none
section
variable {Γ : Gm} {X : Cx} {Z : WX} {pos : Pos}
theorem pairs_ok {K : PySem.W.Frag} {w : Wd} : ∀ {ws : List W} {vs : List V} {ps : List (List Int × PyData)}, RWs K w vs ws → pairsX ws = some ps → ∃ es : List Pq, vs = es.map (fun e => V.ref e.p) ∧ Paired (fun (e : Pq) (p : List Int × PyData) => SqT K w.im e.p [.ref e.b, e.v] ∧ SqT K w.im e.b (e.ks.map V.int) ∧ e.ks = p.1 ∧ Dp K w.im e.v p.2) es ps
  | [], _, _, .nil, h => by cases h; exact ⟨[], rfl, .nil⟩
  | x :: r, _, ps, .cons q t, h => by
    unfold pairsX at h
    split at h
    · rename_i p ps' e1 e2
      cases h
      obtain ⟨es, rfl, rr⟩ := pairs_ok t e2
      unfold pairX at e1
      split at e1
      · rename_i k v
        obtain ⟨ks, ek, rfl⟩ := Option.map_eq_some_iff.mp e1
        cases (show Dp K w.im _ (.tuple [k, v]) from q) with
        | tup q1 r1 =>
          cases r1 with
          | cons qk r2 =>
            cases r2 with
            | cons qv r3 =>
              cases r3
              obtain ⟨b, rfl, hb⟩ := keyI_v ek qk
              exact ⟨⟨_, ks, b, _⟩ :: es, rfl, .cons ⟨q1, hb, rfl, qv⟩ rr⟩
      · cases e1
    · cases h
theorem xe_all {K : PySem.W.Frag} {w : Wd} : ∀ {es : List Pq} {ps : List (List Int × PyData)} {us : List Value} {xs : XL} {kvs : List (List Int × W)}, Paired (fun (e : Pq) (p : List Int × PyData) => SqT K w.im e.p [.ref e.b, e.v] ∧ SqT K w.im e.b (e.ks.map V.int) ∧ e.ks = p.1 ∧ Dp K w.im e.v p.2) es ps →
    Paired (fun (e : Pq) u => RelV e.v u) es us → Paired (XE K w) xs kvs → Paired (XE K w) (storedAllH xs ((es.zip us).map fun y => pqX y.1 y.2)) (ps.foldl (fun acc p => putD acc p.1 (.d p.2)) kvs)
  | _, _, _, xs, kvs, .nil, .nil, h => h
  | _, _, _, xs, kvs, .cons (a := e) (b := p) (l₁ := es) (l₂ := ps) ⟨_, q2, q3, q4⟩ t, .cons (b := u) (l₂ := us) ru t2, h => by
    show Paired (XE K w) (storedAllH (storedH xs e.ks e.b u) ((es.zip us).map fun y => pqX y.1 y.2)) (ps.foldl (fun acc p => putD acc p.1 (.d p.2)) (putD kvs p.1 (.d p.2)))
    refine xe_all t t2 ?_
    rw [← q3]
    exact xe_put h q2 ru q4
theorem storedAll_len (ps : XL) : (storedAllH [] ps).length ≤ ps.length := by
  have := storedAllH_length ps []
  simpa using this
theorem does_dictX : DoesN Γ X Z gDictX (rDictX X.K) := fun w xs vs σ Q z S' G r h p => by
  unfold gDictX at h
  split at h
  · rename_i x
    split at h
    · rename_i ws e1
      split at h
      · rename_i ps e2
        split at h
        · rename_i hz
          cases h
          obtain ⟨v, rfl, rx⟩ := rws_one r
          obtain ⟨a, us, rfl, q, rr⟩ := lstOf_ok G rx e1
          obtain ⟨es, rfl, pr⟩ := pairs_ok rr e2
          have hl : es.length = ws.length := by have := Paired.len rr; simpa using this
          refine ⟨a, es, rfl, q, by omega, fun e he => ?_, fun d us hd hs ru => ?_⟩
          · obtain ⟨i, hi⟩ := List.getElem?_of_mem he
            have : ∀ {es : List Pq} {ps : List (List Int × PyData)}, Paired (fun (e : Pq) (p : List Int × PyData) => SqT X.K w.im e.p [.ref e.b, e.v] ∧ SqT X.K w.im e.b (e.ks.map V.int) ∧ e.ks = p.1 ∧ Dp X.K w.im e.v p.2) es ps → ∀ e ∈ es, PqOk X.K w.H e := by
              intro es ps pr
              induction pr with
              | nil => intro e h; cases h
              | cons q t ih =>
                intro e h
                rcases List.mem_cons.mp h with h | h
                · rw [h]; exact ⟨SqT.mono (im_sub w) q.1, SqT.mono (im_sub w) q.2.1⟩
                · exact ih e h
            exact this pr e he
          · have hx := xe_all (xs := []) (kvs := []) pr ru .nil
            have h1 := storedAll_len ((es.zip us).map fun y => pqX y.1 y.2)
            have h2 : ((es.zip us).map fun y => pqX y.1 y.2).length ≤ es.length := by simp; omega
            obtain ⟨G1, l1⟩ := G.alloc (c := .dix (putAll ps)) hd (.ext (dxP d (storedAllH [] ((es.zip us).map fun y => pqX y.1 y.2)))) (fun w1 l e => ⟨_, e, hs, by omega, Paired.imp (fun _ _ z => XE.mono l z) hx⟩) rfl
            refine p ⟨w.μ ++ [d], w.S ++ [.dix (putAll ps)], upd w.H d (.ext (dxP d (storedAllH [] ((es.zip us).map fun y => pqX y.1 y.2))))⟩ (.ref d) rfl l1 G1 ?_
            exact ⟨d, by show (w.μ ++ [d])[w.S.length]? = _; rw [← G.len]; simp, rfl⟩
        · cases h
      · cases h
    · cases h
  · cases h
theorem bc_dictX {a : Expr} {fa : Fe (List W)} (hm : X.mg "dict" = none) (hc : X.calm = true) (hu : Rm X) (ha : VA Γ X Z [a] fa) {p : Pos} (hg : Gl X "dict" := by rfl) (he : starEach [a] X.env = (false, eval a X.env) :: starEach [] X.env := by rfl) (hpl : (backTo pos (starEach [] X.env)).any (·.1) = false := by rfl) :
    VE Γ X Z (.Call (.Name "dict" p) [a] [] pos) (fCB gDictX fa) := ve_callTy (x := "dict") (call_dictX hu hc) does_dictX hg hm (by decide +kernel) ha (by decide +kernel) (by decide +kernel) he hpl
/-! max(list) -/
def maxI (x : Int) : List Int → Int
  | [] => x
  | y :: r => maxI (if y > x then y else x) r
theorem maxI_ok : ∀ (l : List Int) (x : Int), maxI x l ∈ x :: l ∧ ∀ y ∈ x :: l, y ≤ maxI x l
  | [], x => ⟨by simp [maxI], fun y hy => by simp at hy; simp [maxI, hy]⟩
  | z :: r, x => by
    obtain ⟨h1, h2⟩ := maxI_ok r (if z > x then z else x)
    show maxI (if z > x then z else x) r ∈ x :: z :: r ∧ ∀ y ∈ x :: z :: r, y ≤ maxI (if z > x then z else x) r
    have h3 := h2 (if z > x then z else x) (by simp)
    have h4 : x ≤ (if z > x then z else x) ∧ z ≤ (if z > x then z else x) := by split <;> omega
    refine ⟨?_, fun y hy => ?_⟩
    · rcases List.mem_cons.mp h1 with h | h
      · rw [h]
        split <;> simp
      · simp [h]
    · rcases List.mem_cons.mp hy with h | h
      · subst h
        exact Int.le_trans h4.1 h3
      · rcases List.mem_cons.mp h with h | h
        · subst h
          exact Int.le_trans h4.2 h3
        · exact h2 y (by simp [h])
def gMaxL : OpN := fun xs S => match xs with
  | [x] => match lstOf x S with
    | some ws => match intsOf ws with
      | some (n :: ns) => some (.d (.int (maxI n ns)), S)
      | _ => none
    | none => none
  | _ => none
theorem does_maxL : DoesN Γ X Z gMaxL (rMax X.K) := fun w xs vs σ Q z S' G r h p => by
  unfold gMaxL at h
  split at h
  · rename_i x
    split at h
    · rename_i ws e1
      split at h
      · rename_i n ns e2
        cases h
        obtain ⟨v, rfl, rx⟩ := rws_one r
        obtain ⟨a, us, rfl, q, rr⟩ := lstOf_ok G rx e1
        rw [intsOf_eq e2] at rr
        rw [Paired.map_int rr] at q
        refine ⟨a, n :: ns, rfl, q, by simp, fun m h1 h2 => ?_⟩
        obtain ⟨h3, h4⟩ := maxI_ok ns n
        obtain rfl : m = maxI n ns := Int.le_antisymm (h4 m h1) (h2 _ h3)
        exact p.use G (Dp.int _)
      · cases h
    · cases h
  · cases h
theorem bc_maxL {a : Expr} {fa : Fe (List W)} (hm : X.mg "max" = none) (hc : X.calm = true) (ha : VA Γ X Z [a] fa) {p : Pos} (hg : Gl X "max" := by rfl) (he : starEach [a] X.env = (false, eval a X.env) :: starEach [] X.env := by rfl) (hpl : (backTo pos (starEach [] X.env)).any (·.1) = false := by rfl) :
    VE Γ X Z (.Call (.Name "max" p) [a] [] pos) (fCB gMaxL fa) := ve_callB (x := "max") (cr_max hc) does_maxL hg hm (by decide +kernel) ha (by decide +kernel) (by decide +kernel) he hpl
end
end G
set_option Elab.async false
set_option linter.all false
set_option maxRecDepth 100000
set_option maxHeartbeats 4000000
/-! G27: t1, t2 = a, b with parts as targets; calls by names -/
namespace G
open PySem PySem.Spec L2 PyProof.Rows
set_option autoImplicit false
abbrev Tg := W → Slt → Sto → Fl
def tgE (Q : L2.St → Hp → Prop) : Ends := { nx := Q, rt := fun _ _ => False }
def liftT (Γ : Gm) (K : PySem.W.Frag) (Z : WX) (g : Tg) : TG := fun v σ H Q => ∃ w ρ x, w.H = H ∧ Good Γ K w ∧ Slots K w σ ρ ∧ RW K w v x ∧ PostS Γ K w Z (g x ρ w.S) (tgE Q)
structure VTg (Γ : Gm) (X : Cx) (Z : WX) (e : Expr) (g : Tg) : Prop where
  pg : PG X e (liftT Γ X.K Z g)
def tgN (i : Nat) : Tg := fun x ρ S => .nx (ρ.set i (some x)) S
def tgL (fo fi : Fe W) : Tg := fun z ρ S => (fo ρ S).fl ρ fun x S2 => (fi ρ S2).fl ρ fun y S3 => match putL x y z S3 with
  | some S4 => .nx ρ S4
  | none => .bad
def tgD (fo fi : Fe W) : Tg := fun z ρ S => (fo ρ S).fl ρ fun x S2 => (fi ρ S2).fl ρ fun y S3 => match putDk x y z S3 with
  | some S4 => .nx ρ S4
  | none => .bad
def toT : Fl → Fl
  | .nx ρ S => .nx ρ S
  | .ex e ρ S => .ex e ρ S
  | _ => .bad
def fPar2T (ta : Fe (List W)) (g1 g2 : Tg) : Fs := fun ρ S => (ta ρ S).fl ρ fun xs S1 => match xs with
  | [x, y] => match g1 x ρ S1 with
    | .nx ρ1 S2 => toT (g2 y ρ1 S2)
    | .ex e ρ1 S2 => .ex e ρ1 S2
    | _ => .bad
  | _ => .bad
section
variable {Γ : Gm} {X : Cx} {Z : WX} {pos : Pos}
theorem postT {w : Wd} {r : Fl} {D : Ends} (p : PostS Γ X.K w Z (toT r) D) : PostS Γ X.K w Z r (tgE D.nx) := by
  cases r <;> first | exact p | exact p.elim
theorem vtg_name (i : Nat) {x : Str} (hN : X.N.Nodup) (hi : X.N[i]? = some x := by rfl) (hx : Loc X.env.scope x := by first | exact Or.inl rfl | exact Or.inr rfl) (hf : X.fn x = true ∨ X.env.scope.names.lookup x = some .local := by first | exact .inl rfl | exact .inr rfl) : VTg Γ X Z (.Name x pos) (tgN i) := by
  refine ⟨PG.mono (pg_name hN hi hx hf) ?_⟩
  rintro v σ H Q ⟨w, ρ, x, rfl, G, s, r, p⟩
  exact p w (σ.set i (some v)) rfl (Wd.le.refl w) G (s.set r i)
theorem vtg_L {o i : Expr} {fo fi : Fe W} {p' : Pos} (ho : VE Γ X Z o fo) (hi : VE Γ X Z i fi)
    (ha : ∀ v, assign (.Subscript o i p') X.env v = (do
      let ov ← holding [v] (eval o X.env)
      let iv ← holding [v, ov] (eval i X.env)
      standAt p'
      holding [v, ov, iv] (setItem ov iv v)
      release [v, ov, iv] []) := by intro _; rfl) : VTg Γ X Z (.Subscript o i p') (tgL fo fi) := by
  refine ⟨PG.mono (pg_sub ho.pe hi.pe set_list ha) ?_⟩
  rintro v σ H Q ⟨w1, ρ1, z, rfl, G1, s1, r1, p1⟩
  refine ⟨w1, ρ1, rfl, G1, s1, (flpost (R := RW X.K) p1 s1).imp ?_⟩
  rintro o' H2 ⟨x, w2, rfl, G2, l2, rx, p2⟩
  refine ⟨w2, ρ1, rfl, G2, s1.mono l2, (flpost (R := RW X.K) p2 (s1.mono l2)).imp ?_⟩
  rintro i' H3 ⟨y, w3, rfl, G3, l3, ry, p3⟩
  cases e4 : putL x y z w3.S with
  | none => rw [e4] at p3; exact p3.elim
  | some S4 =>
    rw [e4] at p3
    unfold putL at e4
    split at e4
    · rename_i n k
      split at e4
      · rename_i ws ew
        obtain ⟨j, hj, rfl⟩ := Option.map_eq_some_iff.mp e4
        obtain ⟨a, ha2, rfl⟩ := RW.mono l3 rx
        obtain ⟨vs, hv, rv⟩ := G3.cell n a _ ha2 ew
        cases (show Dp X.K w3.im i' (.int k) from ry)
        refine ⟨a, vs, k, j, rfl, rfl, hv, by rw [Paired.len rv]; exact hj, ?_⟩
        have rz := RW.mono (l2.trans l3) r1
        obtain ⟨G5, l5⟩ := G3.write (c' := .lst (ws.set j z)) ha2 ew rfl (.lst (vs.set j v)) (fun w1 l e => ⟨_, e, RWs.mono l (Paired.set rz j rv)⟩) rfl
        exact PostS.nx_use (w := ⟨w3.μ, w3.S.set n (.lst (ws.set j z)), upd w3.H a (.lst (vs.set j v))⟩) (D := tgE Q) (PostS.mono l5 p3) G5 ((s1.mono (l2.trans l3)).mono l5)
      · cases e4
    · cases e4
theorem vtg_D {o i : Expr} {fo fi : Fe W} {p' : Pos} (hu : Rm X) (ho : VE Γ X Z o fo) (hi : VE Γ X Z i fi)
    (ha : ∀ v, assign (.Subscript o i p') X.env v = (do
      let ov ← holding [v] (eval o X.env)
      let iv ← holding [v, ov] (eval i X.env)
      standAt p'
      holding [v, ov, iv] (setItem ov iv v)
      release [v, ov, iv] []) := by intro _; rfl) : VTg Γ X Z (.Subscript o i p') (tgD fo fi) := by
  refine ⟨PG.mono (pg_sub ho.pe hi.pe (set_dict (by unfold Rm at hu; omega)) ha) ?_⟩
  rintro v σ H Q ⟨w1, ρ1, z, rfl, G1, s1, r1, p1⟩
  refine ⟨w1, ρ1, rfl, G1, s1, (flpost (R := RW X.K) p1 s1).imp ?_⟩
  rintro o' H2 ⟨x, w2, rfl, G2, l2, rx, p2⟩
  refine ⟨w2, ρ1, rfl, G2, s1.mono l2, (flpost (R := RW X.K) p2 (s1.mono l2)).imp ?_⟩
  rintro i' H3 ⟨y, w3, rfl, G3, l3, ry, p3⟩
  cases e4 : putDk x y z w3.S with
  | none => rw [e4] at p3; exact p3.elim
  | some S4 =>
    rw [e4] at p3
    unfold putDk at e4
    split at e4
    · rename_i n k ek
      split at e4
      · rename_i kvs ew
        split at e4
        · rename_i hz
          cases e4
          obtain ⟨a, ha2, rfl⟩ := RW.mono l3 rx
          obtain ⟨us, hv, rv⟩ := G3.cell n a _ ha2 ew
          have rz := RW.mono (l2.trans l3) r1
          have hl : us.length = kvs.length := Paired.len rv
          have hz2 := sz_line hz
          obtain ⟨G5, l5⟩ := G3.write (c' := .dic (putD kvs k z)) ha2 ew rfl (.dK (putK us k v)) (fun w1 l e => ⟨_, e, Paired.imp (fun _ _ q => ⟨q.1, RW.mono l q.2⟩) (putD_ok rv rz)⟩) rfl
          refine ⟨a, _, rfl, .inl ⟨us, k, hv, keyOf_ok ry ek, by omega, rfl⟩, ?_⟩
          exact PostS.nx_use (w := ⟨w3.μ, w3.S.set n (.dic (putD kvs k z)), upd w3.H a (.dK (putK us k v))⟩) (D := tgE Q) (PostS.mono l5 p3) G5 ((s1.mono (l2.trans l3)).mono l5)
        · cases e4
      · cases e4
    · cases e4
theorem vs_par2T {t1 t2 a b : Expr} {ta : Fe (List W)} {g1 g2 : Tg} {kt k2 : Nat} {pt pt2 : Pos} (ha : VA Γ X Z [a, b] ta) (h1 : VTg Γ X Z t1 g1) (h2 : VTg Γ X Z t2 g2) (hc : X.calm = true := by rfl)
    (hs : swapsWithSole [.Tuple [t1, t2] kt pt] (.Tuple [a, b] k2 pt2) pos.line X.env = pure false := by rfl) (hw : swappedStores [.Tuple [t1, t2] kt pt] (.Tuple [a, b] k2 pt2) X.env = pure none := by rfl)
    (e1 : (assignEach [.Tuple [t1, t2] kt pt] X.env).map (·.2) = [assign (.Tuple [t1, t2] kt pt) X.env] := by rfl)
    (hn : (assignEach [t1, t2] X.env).length = 2 := by rfl) (hst : (assignEach [t1, t2] X.env).findIdx? (·.1) = none := by rfl)
    (c1 : (assignEach [t1, t2] X.env).map (·.2) = assign t1 X.env :: (assignEach [t2] X.env).map (·.2) := by rfl) (c2 : (assignEach [t2] X.env).map (·.2) = assign t2 X.env :: (assignEach [] X.env).map (·.2) := by rfl) :
    VS Γ X Z (.Assign [.Tuple [t1, t2] kt pt] (.Tuple [a, b] k2 pt2) pos) (fPar2T ta g1 g2) := by
  refine ⟨PS.mono (ps_asg (pe_tup ha.pa) (pg_tup hc (pgs_cons h1.pg (pgs_cons h2.pg pgs_nil c2) c1) hn hst) hs hw e1) fun D σ H q => ?_⟩
  refine (liftS.out (R := RWs X.K) (k := fun xs ρ S1 => match xs with
    | [x, y] => match g1 x ρ S1 with
      | .nx ρ1 S2 => toT (g2 y ρ1 S2)
      | .ex e ρ1 S2 => .ex e ρ1 S2
      | _ => .bad
    | _ => .bad) q).imp ?_
  rintro vs H1 ⟨xs, w1, ρ1, rfl, G1, s1, r1, p1⟩
  split at p1
  · rename_i x y
    obtain ⟨v, u, rfl, rx, ry⟩ := rws_two r1
    refine ⟨by rw [sizeLine_eq]; simp, fun q hq => ⟨q, [v, u], rfl, SqT.of upd_same, rfl, v, [u], rfl, ?_⟩⟩
    obtain ⟨G2, l2⟩ := G1.new hq (.tup [v, u])
    refine ⟨⟨w1.μ, w1.S, upd w1.H q (.tup [v, u])⟩, ρ1, x, rfl, G2, s1.mono l2, RW.mono l2 rx, ?_⟩
    show PostS Γ X.K _ Z (g1 x ρ1 w1.S) _
    cases e : g1 x ρ1 w1.S with
    | nx ρ2 S2 =>
      rw [e] at p1
      rintro w3 σ3 rfl l3 G3 s3
      have p3 := postT (PostS.mono (l2.trans l3) p1)
      refine ⟨u, [], rfl, w3, ρ2, y, rfl, G3, s3, RW.mono (l2.trans l3) ry, ?_⟩
      cases e3 : g2 y ρ2 w3.S with
      | nx ρ4 S4 =>
        rw [e3] at p3
        exact fun w5 σ5 h5 l5 G5 s5 => ⟨rfl, p3 w5 σ5 h5 l5 G5 s5⟩
      | ex e ρ4 S4 => rw [e3] at p3; exact p3
      | rt x S4 => rw [e3] at p3; exact p3
      | bk ρ4 S4 => rw [e3] at p3; exact p3
      | ct ρ4 S4 => rw [e3] at p3; exact p3
      | bad => rw [e3] at p3; exact p3
    | ex e ρ2 S2 =>
      rw [e] at p1
      exact PostS.mono l2 p1
    | rt x S2 => rw [e] at p1; exact p1.elim
    | bk ρ2 S2 => rw [e] at p1; exact p1.elim
    | ct ρ2 S2 => rw [e] at p1; exact p1.elim
    | bad => rw [e] at p1; exact p1.elim
  · exact p1.elim
end
end G
set_option Elab.async false
set_option linter.all false
set_option maxRecDepth 100000
set_option maxHeartbeats 4000000
/-! G28: f(a = .., b = ..) -/
namespace G
open PySem PySem.Spec L2 PyProof.Rows
set_option autoImplicit false
/-- a def called with all its parameters by name: the i-th parameter is the (ix i)-th keyword -/
structure CalK (Γ : Gm) (P : Program) (wd : World) (K : PySem.W.Frag) (mg : Str → Option Value) (base : Heap) (k : Nat) (x : Str) (ks : List Str) (ix : List Nat) (F : Fn) : Prop where
  ex : ∃ (f : Addr) (fd : FuncData) (ps : List Str), mg x = some (.ref f) ∧ PySem.W.keepIn K (.ref f) = true ∧ (∀ (s : Shared) (ws : List Value), ws.length = ks.length → BindsTo s fd ⟨[], ks.zip ws⟩ (ps.zip (ix.map fun i => ws.getD i .none))) ∧ ix.length = ps.length ∧ FnOk P wd K mg base (L2.CX P wd) k f fd ps (spOf Γ K ps.length F)
def fCallK (n : Nat) (ix : List Nat) (F : Fn) (f : Fe (List W)) : Fe W := fun ρ S => (f ρ S).bind fun xs S1 => if xs.length = n then F (ix.map fun i => xs.getD i (.d .none)) S1 else .bad
structure VK2 (Γ : Gm) (X : Cx) (Z : WX) (kws : List Keyword) (f : Fe (List W)) : Prop where
  pk : PK X kws (liftR Γ X.K Z (RWs X.K) f)
theorem PK.mono {X : Cx} {kws : List Keyword} {t t' : TA} (h : PK X kws t) (i : ∀ σ H Q, t' σ H Q → t σ H Q) : PK X kws t' := ⟨fun pos pins s σ H Q I q => h.run pos pins s σ H Q I (i _ _ _ q)⟩
theorem vals_getD : ∀ {zs : List V} {ws : List Value}, Vals zs ws → ∀ i, RelV (zs.getD i .non) (ws.getD i .none)
  | _, _, .nil, i => by simp; rfl
  | _, _, .cons q t, 0 => by simpa using q
  | _, _, .cons q t, i + 1 => by simpa using vals_getD t i
theorem vals_ix {zs : List V} {ws : List Value} (h : Vals zs ws) : ∀ ix : List Nat, Vals (ix.map fun i => zs.getD i .non) (ix.map fun i => ws.getD i .none)
  | [] => .nil
  | i :: r => .cons (vals_getD h i) (vals_ix h r)
theorem rws_getD {K : PySem.W.Frag} {w : Wd} : ∀ {zs : List V} {ws : List W}, RWs K w zs ws → ∀ i, RW K w (zs.getD i .non) (ws.getD i (.d .none))
  | _, _, .nil, i => by simp; exact Dp.non
  | _, _, .cons q t, 0 => by simpa using q
  | _, _, .cons q t, i + 1 => by simpa using rws_getD t i
theorem rws_ix {K : PySem.W.Frag} {w : Wd} {zs : List V} {ws : List W} (h : RWs K w zs ws) : ∀ ix : List Nat, RWs K w (ix.map fun i => zs.getD i .non) (ix.map fun i => ws.getD i (.d .none))
  | [] => .nil
  | i :: r => .cons (rws_getD h i) (rws_ix h r)
theorem FunD.bindsK {K : PySem.W.Frag} {x qual : Str} {params : Arguments} {body : List Stmt} {scope : Scope} {kws : List (Str × V)} {f : Addr} {fd : FuncData} {ps ks : List Str} {ix : List Nat} (F : FunD K x qual params body scope [] kws f fd)
    (h : ∀ (kV doc pm : Value) (an : Option Addr) (cdv ct : Value) (ws : List Value), ws.length = ks.length → bindArgs (PySem.W.fnOf x qual params body scope .none kV doc pm an cdv ct) ⟨[], ks.zip ws⟩ = pure (ps.zip (ix.map fun i => ws.getD i .none))) (s : Shared) (ws : List Value) (hl : ws.length = ks.length) : BindsTo s fd ⟨[], ks.zip ws⟩ (ps.zip (ix.map fun i => ws.getD i .none)) := by
  obtain ⟨oc, od, dV, kV, doc, pm, an, cdv, ct, osl, rfl, lk, hcd, hD, hK⟩ := F.ex
  rcases hD with ⟨_, rfl⟩ | ⟨e, _⟩
  · exact .of_eq (h kV doc pm an cdv ct ws hl)
  · exact absurd rfl e
section
variable {Γ : Gm} {X : Cx} {Z : WX} {pos : Pos}
theorem vk_nil : VK2 Γ X Z [] fNil := ⟨PK.mono pk_nil fun σ H Q ⟨w, ρ, e, G, s, p⟩ => by subst e; exact p.use G Paired.nil⟩
theorem vk_cons {nm : Option Str} {e : Expr} {kpos : Pos} {kws : List Keyword} {f : Fe W} {g : Fe (List W)} (ha : VE Γ X Z e f) (hr : VK2 Γ X Z kws g) : VK2 Γ X Z (⟨nm, e, kpos⟩ :: kws) (fCons f g) := by
  refine ⟨PK.mono (pk_cons ha.pe hr.pk) fun σ H Q h => ?_⟩
  refine liftR.imp (seq2 (R := RW X.K) (R1 := RWs X.K) (k := fun x xs S => .ok (x :: xs) S) (fun _ _ _ _ l r => RW.mono l r) h) fun v H1 h1 => ?_
  refine liftR.imp h1 ?_
  rintro vs H2 ⟨x, xs, w, rfl, G, r, rs, p⟩
  exact p.use G (Paired.cons r rs)
theorem ve_callKw {k : Nat} {x : Str} {ks : List Str} {ix : List Nat} {F : Fn} {kws : List Keyword} {f : Fe (List W)} {p : Pos} (C : CalK Γ X.prog X.w X.K X.mg X.base k x ks ix F) (tk : Takes X Z) (hr : Room k X.A) (ha : VK2 Γ X Z kws f) (hg : Gl X x := by rfl)
    (hdb : (x == ("__debug__" : Str)) = false := by decide) (hall : (backToKw pos (keywordEach kws X.env)).all (·.1.isSome) = true := by rfl) (hks : (backToKw pos (keywordEach kws X.env)).filterMap (·.1) = ks := by rfl)
    (hpl : ((backTo pos (starEach [] X.env)).any (·.1) || (backToKw pos (keywordEach kws X.env)).any (·.1.isNone)) = false := by rfl) :
    VE Γ X Z (.Call (.Name x p) [] kws pos) (fCallK ks.length ix F f) := by
  obtain ⟨fa, fd, ps, hm, hk, hb, hn, Fo⟩ := C.ex
  constructor
  constructor
  intro pins s σ H Q I q
  refine wpAny_Call_Name_kw (ld_glob I hg hm ?_ hdb)
  have q1 := seq1 (R := RWs X.K) q
  refine PySem.W.callWith_KW0 (h₀ := X.base) I.ok.mod.kin hk hall (thn (ha.pk.run pos pins s σ H _ I q1) ?_) hpl
  rintro ws s1 ⟨zs, H1, I1, r, xs, w, rfl, G, rx, p1⟩
  refine ⟨I1.kIn, ?_⟩
  rw [hks]
  split at p1
  · rename_i hl
    have hz : zs.length = ks.length := by rw [Paired.len rx, hl]
    have hw : ws.length = ks.length := by rw [← r.length]; exact hz
    have hsp : spOf Γ X.K ps.length F (ix.map fun i => zs.getD i .non) w.H Q (WE Z σ) := ⟨by rw [List.length_map, hn], w, _, rfl, G, rws_ix rx ix, Post.zed p1 fun _ _ _ z => z⟩
    refine wpAny_call (codeAny_mono (Fo.run X.A X.stack s1 w.H ⟨[], ks.zip ws⟩ (ix.map fun i => ws.getD i .none) _ Q (WE Z σ) hr I1.env0 (hb s1 ws hw) (vals_ix r ix) hsp) ?_)
    intro res s2 h2
    cases res with
    | error ev => exact passAt tk σ pins w.H s1 ev s2 I1 h2
    | ok fl =>
      cases fl with
      | ret u => exact I1.after h2
      | next => exact h2.elim
      | brk => exact h2.elim
      | cont => exact h2.elim
  · exact p1.elim
end
end G
set_option Elab.async false
set_option linter.all false
set_option maxRecDepth 100000
set_option maxHeartbeats 4000000
/-! G29: tuples of which the object is known, and the first place of an equal thing in them -/
namespace G
open PySem PySem.Spec L2 PyProof.Rows
set_option autoImplicit false
/-! ### tuple(list), the new object known -/
def kT (its : List Value) : Obj := { cls := .type "tuple", data := .seq its.toArray }
section
variable {X : Cx}
theorem call_tuple_known : CallR X (.type "tuple") (fun xs H Q => ∃ p ys, xs = [.ref p] ∧ SqL X.K H p ys ∧ ∀ l ob, H l = none → ob.cls = .type "tuple" → ob.dict = none → Q (.ref l) (upd H l (.frz ob (.tup ys)))) := by
  intro pins s σ H xs us Q I r ⟨p, ys, e, hq, q⟩
  subst e
  obtain ⟨v, e1, e2⟩ := vals1 r
  subst e1
  cases e2
  obtain ⟨its, rv, pl, hz⟩ := I.list hq
  have hn := rv.length
  refine call_tuple_list (items := its.toArray) pl.isList (fun h1 keep => ?_) (by rw [List.size_toArray]; omega)
  have J : Inv X pins σ H { s with heap := h1 } := I.kept (t' := s.toks) keep
  have fr := J.hok.fresh (Nat.le_refl h1.objs.size)
  refine ⟨.ref h1.objs.size, _, J.laid (o := .frz (kT its) (.tup ys)) (t' := s.toks) (fun b o e => Heap.get?_push_of_some _ e) (Nat.le_refl _) ?_, rfl, q _ (kT its) fr rfl rfl⟩
  exact ⟨Heap.get?_push_size _ rfl, hz, its, rv, IsTup.new _ _⟩
end
section
variable {Γ : Gm} {X : Cx} {Z : WX} {pos : Pos}
theorem Good.frz_im {K : PySem.W.Frag} {w : Wd} {a : Addr} {ob : Obj} {xs : List V} (G : Good Γ K w) (h : w.H a = some (.frz ob (.tup xs))) : w.im a = some (.frz ob (.tup xs)) := by
  refine Wd.im_of h (fun l => ?_) (fun ps q => by cases q)
  obtain ⟨n, c, e1, e2, e3⟩ := l
  have q := G.cell n a c e1 e2
  cases c with
  | lst ws => obtain ⟨vs, q, _⟩ := q; rw [h] at q; cases q
  | dic ws => obtain ⟨vs, q, _⟩ := q; rw [h] at q; cases q
  | dit ws => obtain ⟨vs, q, _⟩ := q; rw [h] at q; cases q
  | dix ws => obtain ⟨vs, q, _⟩ := q; rw [h] at q; cases q
  | fz x => cases e3
  | fd x => cases e3
  | fdx x => cases e3
def gTupU : OpN := fun xs S => match xs with
  | [x] => match lstOf x S with
    | some ws => match frzL (frz 6) ws S with
      | some (ds, S2) => some (.u (.tuple ds), S2)
      | none => none
    | none => none
  | _ => none
theorem does_tupU : DoesN Γ X Z gTupU (fun xs H Q => ∃ p ys, xs = [.ref p] ∧ SqL X.K H p ys ∧ ∀ l ob, H l = none → ob.cls = .type "tuple" → ob.dict = none → Q (.ref l) (upd H l (.frz ob (.tup ys)))) := by
  intro w xs vs σ Q z S' G r h p
  unfold gTupU at h
  split at h
  · rename_i x
    obtain ⟨v, rfl, rx⟩ := rws_one r
    split at h
    · rename_i ws e
      split at h
      · rename_i ds S2 e2
        cases h
        obtain ⟨a, us, rfl, q, rr⟩ := lstOf_ok G rx e
        obtain ⟨F, dd⟩ := frzL_ok (Γ := Γ) (frz_ok 6) ws w us ds _ G rr e2
        refine ⟨a, us, rfl, q, fun l ob hl hc hd => ?_⟩
        obtain ⟨G1, l1⟩ := F.good.new hl (.frz ob (.tup us))
        exact (Post.mono F.le p) ⟨w.μ, S', upd w.H l (.frz ob (.tup us))⟩ (.ref l) rfl l1 G1 ⟨l, us, ds, ob, rfl, rfl, G1.frz_im upd_same, hc, hd, DpAll.mono l1.im dd⟩
      · cases h
    · cases h
  · cases h
theorem bc_tupU {a : Expr} {fa : Fe (List W)} (hm : X.mg "tuple" = none) (ha : VA Γ X Z [a] fa) {p : Pos} (hg : Gl X "tuple" := by rfl) (he : starEach [a] X.env = (false, eval a X.env) :: starEach [] X.env := by rfl) (hpl : (backTo pos (starEach [] X.env)).any (·.1) = false := by rfl) :
    VE Γ X Z (.Call (.Name "tuple" p) [a] [] pos) (fCB gTupU fa) := ve_callTy (x := "tuple") call_tuple_known does_tupU hg hm (by decide +kernel) ha (by decide +kernel) (by decide +kernel) he hpl
/-! ### (e, t), t known -/
def fPairU (f : Fe (List W)) : Fe W := fun ρ S => (f ρ S).bind fun xs S1 => match xs with
  | [.d x, .u y] => .ok (.u2 (.tuple [x, y])) S1
  | _ => .bad
theorem ve_pairU {es : List Expr} {f : Fe (List W)} {x1} (h : VA Γ X Z es f) : VE Γ X Z (.Tuple es x1 pos) (fPairU f) := by
  refine ⟨PE.mono (pe_tup h.pa) fun σ H Q q => liftR.imp (seq1 (R := RWs X.K) q) ?_⟩
  rintro vs H1 ⟨xs, w, rfl, G, r, p⟩
  split at p
  · rename_i x y
    obtain ⟨v, u, rfl, rx, b, ys, ds, ob, rfl, rfl, q, c, d, dd⟩ := rws_two r
    refine ⟨by show 2 ≤ sizeLine; decide, fun a ha => ?_⟩
    obtain ⟨G1, l1⟩ := G.new ha (.tup [v, .ref b])
    exact p ⟨w.μ, w.S, upd w.H a (.tup [v, .ref b])⟩ (.ref a) rfl l1 G1 ⟨a, b, v, x, ds, _, ys, ob, rfl, rfl, G1.tup_im upd_same, rfl, Dp.mono l1.im rx, l1.im _ _ q, c, d, DpAll.mono l1.im dd⟩
  · exact p.elim
/-! ### e[1] -/
def gSnd : Op2 := fun x y S => match x, y with
  | .u2 (.tuple [_, t]), .d (.int 1) => some (.u t, S)
  | _, _ => none
theorem does_snd : Does2 Γ X Z gSnd (rIx X.K) := by
  intro w x y vx vy σ Q z S' G rx ry h p
  unfold gSnd at h
  split at h
  · cases h
    cases (show Dp X.K w.im vy (.int 1) from ry)
    obtain ⟨b, c, v1, d1, ds, xs, ys, ob, rfl, e2, q, rfl, q1, q2, c1, c2, dd⟩ := rx
    cases e2
    exact .inr (.inl ⟨b, [v1, .ref c], 1, .ref c, rfl, rfl, SqT.of ((Wd.im_some q).1), rfl, p.use G ⟨c, ys, ds, ob, rfl, rfl, q2, c1, c2, dd⟩⟩)
  · cases h
theorem ve_snd {a b : Expr} {f h : Fe W} (ha : VE Γ X Z a f) (hb : VE Γ X Z b h) (hs : PlainIx b := by intro _ _; rfl) : VE Γ X Z (.Subscript a b pos) (fOp2 gSnd f h) :=
  ⟨PE.mono (pe_ix ix_seq ha.pe hb.pe hs) fun _ _ _ q => op2_lift does_snd q⟩
/-- known no more -/
def fUnT (f : Fe W) : Fe W := fun ρ S => (f ρ S).bind fun x S1 => .ok (unT x) S1
theorem ve_unT {e : Expr} {f : Fe W} (h : VE Γ X Z e f) : VE Γ X Z e (fUnT f) := by
  refine ⟨PE.mono h.pe fun σ H Q q => liftR.imp (seq1 (R := RW X.K) q) ?_⟩
  rintro v H1 ⟨x, w, rfl, G, r, p⟩
  exact p.use G (unT_ok r)
end
/-! ### t.index(x) -/
/-- the first place at which an equal one stands -/
def rTIdx (K : PySem.W.Frag) : V → List V → Hp → VK → Prop := fun x xs H Q => ∃ (y : V) (d : PyData) (ds : List PyData) (j : Nat), xs = [y] ∧ Dp K H x (.tuple ds) ∧ Dp K H y d ∧ SeqAt.shaped (.list ds) = true ∧ SeqAt.shaped d = true ∧
  (ds.findIdx? fun z => PyData.eqv z d) = some j ∧ Q (.int (j : Nat)) H
section
variable {Γ : Gm} {X : Cx} {Z : WX} {pos : Pos}
theorem mt_tidx (hu : Rm X) : MtR X "tuple.index" (rTIdx X.K) := by
  intro pins s σ H x xs v us Q I rx rxs h
  obtain ⟨y, d, ds, j, rfl, hx, hy, sl, sd, hj, q⟩ := h
  obtain ⟨uy, rfl, ry⟩ := rxs.one
  obtain ⟨bs, ry2⟩ := Dp.reads I d y uy hy ry
  have lay : PyData.canLayAll0 ds = true := SeqAt.canLay_of_shaped sl
  have room : X.A.units + 1 + min (PyData.depthAll ds) d.depth < cLine := room_in_shaped sd (by unfold Rm at hu; omega)
  cases hx with
  | tup ht ha =>
    rename_i p us
    obtain rfl : v = Value.ref p := rx
    obtain ⟨its, rv, ⟨⟨cls, dd, data, sls⟩, ho, hc, n, hdt⟩, hlen⟩ := I.tuple ht
    simp only at hc hdt
    subst hc hdt
    obtain ⟨as, rd⟩ := Dp.readsAll I ds _ its ha rv
    have hn : its.length = ds.length := SeqAt.ReadsAll.length ds its as rd
    have hmap : its.map (SeqAt.readOf s.heap) = ds := SeqAt.readsAll_map ds its as lay rd
    obtain ⟨hjd, hit, hno⟩ := List.findIdx?_eq_some_iff_getElem.mp hj
    have hjs : j < its.toArray.size := by rw [List.size_toArray]; omega
    have val : ∀ (i : Nat) (hi : i < its.toArray.size) (hd : i < ds.length), SeqAt.readOf s.heap its.toArray[i] = ds[i] := fun i hi hd => by
      have hi' : i < its.length := by rw [List.size_toArray] at hi; exact hi
      have e : (its.map (SeqAt.readOf s.heap))[i]? = some ds[i] := by rw [hmap]; exact List.getElem?_eq_getElem hd
      rw [List.getElem?_map, List.getElem?_eq_getElem hi'] at e
      have e2 := Option.some.inj e
      simpa using e2
    have code := TI.tuple_indexAt p its.toArray n dd sls uy (fun u => PyData.eqv (SeqAt.readOf s.heap u) d) j hjs (by
      show PyData.eqv (SeqAt.readOf s.heap its.toArray[j]) d = true
      rw [val j hjs hjd]
      exact hit) (fun i hi hij => by
      have hid : i < ds.length := by omega
      show PyData.eqv (SeqAt.readOf s.heap its.toArray[i]) d = false
      rw [val i hi hid]
      have := hno i hij
      simpa using this)
    have items := SeqAt.items_eqAt (vs := its.toArray) (show ReadsAll s.heap its.toArray.toList ds as from rd) ry2 lay (SeqAt.canLay_of_shaped sd) room
    exact call_meets PySem.F.slot_tuple_index ⟨_, ho, rfl⟩ PySem.F.entry_tuple_index (PySem.F.args_tuple_index_2 _ _) code ⟨ho, items, ⟨.int (j : Nat), H, I.tok _, ⟨_, rfl⟩, q⟩⟩
def gTIdx : OpM := fun x xs S => match x, xs with
  | .u (.tuple ds), [y] => match view y S with
    | some d => if (SeqAt.shaped (.list ds) && SeqAt.shaped d) = true then (ds.findIdx? fun z => PyData.eqv z d).map fun j => (.d (.int (j : Nat)), S) else none
    | none => none
  | _, _ => none
def isU : W → Bool
  | .u (.tuple _) => true
  | _ => false
def fMtU (f : Fe W) (h : Fe (List W)) : Fe W := fun ρ S => (f ρ S).bind fun x S1 => if isU x = true then (h ρ S1).bind fun xs S2 => ofO (gTIdx x xs S2) else .bad
theorem pe_idx {o e : Expr} {to : TE} {t : TA} {r : V → List V → Hp → VK → Prop} {apos cpos : Pos} (hm : MtR X "tuple.index" r) (ho : PE X o to) (ha : PA X [e] t)
    (hbase : attributeBase o "index" X.env (eval o X.env) = eval o X.env)
    (hfew : ((backTo cpos (starEach [e] X.env)).all (fun x => !x.1) && (backToKw cpos (keywordEach [] X.env)).all (fun x => x.1.isSome)
      && decide ([e].length + ([] : List Keyword).length + (if ([] : List Keyword).isEmpty then 0 else 1) < 30)) = true)
    (hline : (apos.endLine == cpos.line) = true) (hs : starEach [e] X.env = (false, eval e X.env) :: starEach [] X.env) (hplain : (backTo cpos (starEach [] X.env)).any (·.1) = false) :
    PE X (.Call (.Attribute o "index" apos) [e] [] cpos) (fun σ H Q => to σ H fun x H1 => (∃ a ob u, x = .ref a ∧ H1 a = some (.frz ob u) ∧ ob.cls = .type "tuple" ∧ ob.dict = none) ∧ t σ H1 fun xs H2 => r x xs H2 Q) := by
  constructor
  intro pins s σ H Q I h
  apply wpAny_Call_method_late hbase hfew hline rfl
  apply thn (ho.run pins s σ H _ I h)
  rintro v s1 ⟨x, H1, I1, r1, ⟨⟨a, ob, u, e1, hq, hc, hd⟩, q1⟩⟩
  subst e1
  obtain rfl : v = Value.ref a := r1
  have there := (I1.hok a _ hq).1
  refine ⟨"tuple", "tuple.index", PySem.F.plainAttrs_tuple, PySem.F.slot_tuple_index, PySem.F.type_tuple_index, ⟨ob, there, hc⟩, fun b eb => ⟨ob, by cases eb; exact there, hd⟩, ?_⟩
  have run := ha.run cpos pins s1 σ H1 _ I1 q1
  rw [hs] at run ⊢
  apply Calls.callWith_builtin
  · show (false || (backTo cpos (starEach [] X.env)).any (·.1)) = false
    rw [hplain]
    rfl
  · exact Calls.evalArgs_plain (thn run fun us s2 ⟨vs, H2, I2, r2, q2⟩ => hm pins s2 σ H2 (.ref a) vs (.ref a) us Q I2 rfl r2 q2)
theorem bm_index {o e : Expr} {fo : Fe W} {fe : Fe (List W)} {apos cpos : Pos} (hu : Rm X) (ho : VE Γ X Z o fo) (ha : VA Γ X Z [e] fe)
    (hbase : attributeBase o "index" X.env (eval o X.env) = eval o X.env := by rfl)
    (hfew : ((backTo cpos (starEach [e] X.env)).all (fun x => !x.1) && (backToKw cpos (keywordEach [] X.env)).all (fun x => x.1.isSome)
      && decide ([e].length + ([] : List Keyword).length + (if ([] : List Keyword).isEmpty then 0 else 1) < 30)) = true := by rfl)
    (hline : (apos.endLine == cpos.line) = true := by rfl) (hs : starEach [e] X.env = (false, eval e X.env) :: starEach [] X.env := by rfl) (hplain : (backTo cpos (starEach [] X.env)).any (·.1) = false := by rfl) :
    VE Γ X Z (.Call (.Attribute o "index" apos) [e] [] cpos) (fMtU fo fe) := by
  refine ⟨PE.mono (pe_idx (mt_tidx hu) ho.pe ha.pa hbase hfew hline hs hplain) fun σ H Q q => ?_⟩
  refine (liftR.bind (R := RW X.K) (k := fun x ρ S1 => if isU x = true then (fe ρ S1).bind fun xs S2 => ofO (gTIdx x xs S2) else .bad) q).imp ?_
  rintro v H1 ⟨x, w1, ρ, rfl, G1, s1, r1, p1⟩
  split at p1
  · rename_i hx
    cases x with
    | u x =>
      cases x with
      | tuple ds =>
        have r0 := r1
        obtain ⟨b, us, ds', ob, rfl, eds, q1, hc, hd, dd⟩ := r1
        cases eds
        refine ⟨⟨b, ob, _, rfl, (Wd.im_some q1).1, hc, hd⟩, w1, ρ, rfl, G1, s1, (Post.bind (R := RWs X.K) p1).imp ?_⟩
        rintro us2 H2 ⟨w2, xs, rfl, G2, l2, r2, p2⟩
        cases e : gTIdx (.u (.tuple ds)) xs w2.S with
        | none => rw [e] at p2; exact p2.elim
        | some zz =>
          rw [e] at p2
          unfold gTIdx at e
          split at e
          · rename_i ds2 y heq
            cases heq
            split at e
            · rename_i d ed
              split at e
              · rename_i hsh
                rw [Bool.and_eq_true] at hsh
                obtain ⟨j, hj, rfl⟩ := Option.map_eq_some_iff.mp e
                obtain ⟨vy, rfl, ry⟩ := rws_one r2
                have rd : RW X.K w2 (.ref b) (.d (.tuple ds)) := RW.unu (RW.mono l2 r0)
                exact ⟨vy, d, ds, j, rfl, Dp.mono (im_sub w2) rd, view_ok G2 ry ed, hsh.1, hsh.2, hj, p2.use G2 (Dp.int _)⟩
              · cases e
            · cases e
          · cases e
      | _ => cases hx
    | _ => cases hx
  · exact p1.elim
end
end G
set_option Elab.async false
set_option linter.all false
set_option maxRecDepth 100000
set_option maxHeartbeats 4000000
namespace G
open PySem PySem.Spec L2 PyProof.Rows
set_option autoImplicit false
noncomputable def B_is_whole : Fs := (fRet (fAndE (fIsi .it (fVar 0)) (fNotE (fIsi .bl (fVar 0)))))
noncomputable def R_is_whole : Fn := runB 1 B_is_whole
noncomputable def B_common : Fs := (fSeq (fPar 0 1 (fCons (fCB gAbs (fCons (fVar 0) fNil)) (fCons (fCB gAbs (fCons (fVar 1) fNil)) fNil)))
  (fSeq (fWh (fTru (fOp2 (dEq true) (fVar 1) (fC (.d (.int 0))))) (fPar 0 1 (fCons (fVar 1) (fCons (fOp2 gMod (fVar 0) (fVar 1)) fNil))))
  (fRet (fVar 0))))
noncomputable def R_common : Fn := runB 2 B_common
noncomputable def B_is_nought : Fs := (fRet (fOp2 (dEq false) (fOp2 gIx (fVar 0) (fC (.d (.int 0)))) (fC (.d (.int 0)))))
noncomputable def R_is_nought : Fn := runB 1 B_is_nought
noncomputable def B_is_shaped : Fs := (fSeq (fIf (fOr (fNot (fTru (fIsi .tp (fVar 1)))) (fTru (fOp2 (dEq true) (fCB gLen (fCons (fVar 1) fNil)) (fCB gLen (fCons (fVar 0) fNil))))) (fRet (fC (.d (.bool false)))) fSkip)
  (fRet (fCB (gAll fun bs => bs.all id) (fCons (fLc (fZ2 (fCons (fVar 1) (fCons (fVar 0) fNil))) (gTp 2 (gsCons (gNm 2) (gsCons (gNm 3) gsNil))) fYes (fAndE (fIsi .tp (fVar 2)) (fOp2 (dEq false) (fCB gLen (fCons (fVar 2) fNil)) (fVar 3))) [2, 3]) fNil))))
noncomputable def R_is_shaped : Fn := runB 4 B_is_shaped
noncomputable def B_own_one_at : Fs := (fRet (fCB gTuple (fCons (fLc (fEn (fCons (fOp2 gIx (fVar 0) (fC (.d (.int 0)))) fNil)) (gTp 2 (gsCons (gNm 3) (gsCons (gNm 4) gsNil))) fYes (fCB gTuple (fCons (fLc (fR1 (fCons (fVar 4) fNil)) (gNm 2) fYes (fIfE (fTru (fOp2 (dEq false) (fTup (fCons (fVar 3) (fCons (fVar 2) fNil))) (fVar 1))) (fC (.d (.tuple [.int 1, .int 1]))) (fC (.d (.tuple [.int 0, .int 1])))) [2]) fNil)) [3, 4]) fNil)))
noncomputable def R_own_one_at : Fn := runB 5 B_own_one_at
noncomputable def B_mirror_spot : Fs := (fSeq (fAsg (gTp 2 (gsCons (gNm 2) (gsCons (gNm 3) gsNil))) (fVar 1))
  (fRet (fTup (fCons (fVar 2) (fCons (fOp2 gMod (fOp2 gSub (fC (.d (.int 1))) (fVar 3)) (fOp2 gIx (fVar 0) (fVar 2))) fNil)))))
noncomputable def R_mirror_spot : Fn := runB 4 B_mirror_spot
noncomputable def B_own_turned : Fs := (fRet (fCB gTuple (fCons (fLc (fIt (fVar 0)) (gNm 1) fYes (fOp2 gAdd (fSl (fVar 1) fNoP (fPart (fC (.d (.int 1))))) (fBack (fVar 1))) [1]) fNil)))
noncomputable def R_own_turned : Fn := runB 2 B_own_turned
noncomputable def B_flat : Fs := (fRet (fLc2 (fIt (fVar 0)) (gNm 1) fYes (fIt (fVar 1)) (gNm 2) fYes (fVar 2) [1, 2] [2]))
noncomputable def R_flat : Fn := runB 3 B_flat
noncomputable def B__law_mixed : Fs := (fSeq (fSet 2 (fOp2 gAdd (fOp2 gAdd (fOp2 gMod (fVar 0) (fOp2 gIx (fLst (fCons (fC (.d (.int 1000000007))) (fCons (fC (.d (.int 998244353))) (fCons (fC (.d (.int 2147483629))) (fCons (fC (.d (.int 1000000009))) fNil))))) (fOp2 gMod (fVar 1) (fC (.d (.int 4)))))) (fOp2 gMulT (fC (.d (.int 7919))) (fVar 1))) (fC (.d (.int 13)))))
  (fRet (fOp2 gMod (fOp2 gMulT (fOp2 gMod (fOp2 gMulT (fVar 2) (fVar 2)) (fC (.d (.int 2147483647)))) (fC (.d (.int 48271)))) (fC (.d (.int 2147483647))))))
noncomputable def R__law_mixed : Fn := runB 3 B__law_mixed
noncomputable def B__law_draw : Fs := (fRet (fDisp [((fC (.d (.str "left"))), (fIfE (fTru (fOp2 cGe (fVar 0) (fOp2 gPow (fC (.d (.int 10))) (fC (.d (.int 18)))))) (fVar 0) (fC (.d (.int 0))))), ((fC (.d (.str "cell"))), (fVar 0)), ((fC (.d (.str "turns"))), (fOp2 gMulT (fC (.d (.int 1000))) (fVar 1)))]))
noncomputable def R__law_draw : Fn := runB 2 B__law_draw
noncomputable def B__law_lowest : Fs := (fSeq (fPar 2 3 (fCons (fCB gAbs (fCons (fVar 0) fNil)) (fCons (fVar 1) fNil)))
  (fSeq (fWh (fTru (fOp2 (dEq true) (fVar 3) (fC (.d (.int 0))))) (fPar 2 3 (fCons (fVar 3) (fCons (fOp2 gMod (fVar 2) (fVar 3)) fNil))))
  (fRet (fTup (fCons (fOp2 gDiv (fVar 0) (fVar 2)) (fCons (fOp2 gDiv (fVar 1) (fVar 2)) fNil))))))
noncomputable def R__law_lowest : Fn := runB 4 B__law_lowest
noncomputable def B__law_flat : Fs := (fSeq (fSet 1 (fLst fNil))
  (fSeq (fFor (fIt (fVar 0)) (gNm 2) (fExp (fMt gExt (fVar 1) (fCons (fVar 2) fNil))))
  (fRet (fVar 1))))
noncomputable def R__law_flat : Fn := runB 3 B__law_flat
noncomputable def B__law_mirror : Fs := (fSeq (fSet 1 (fLst fNil))
  (fSeq (fFor (fIt (fOp2 gIx (fVar 0) (fC (.d (.int 1))))) (gNm 2) (fExp (fMt gApp (fVar 1) (fCons (fCB gTuple (fCons (fCB gSort (fCons (fLc (fIt (fVar 2)) (gTp 2 (gsCons (gNm 3) (gsCons (gNm 4) gsNil))) fYes (fTup (fCons (fVar 3) (fCons (fOp2 gMod (fOp2 gSub (fC (.d (.int 1))) (fVar 4)) (fOp2 gIx (fOp2 gIx (fVar 0) (fC (.d (.int 0)))) (fVar 3))) fNil))) [3, 4]) fNil)) fNil)) fNil))))
  (fRet (fPairU (fCons (fOp2 gIx (fVar 0) (fC (.d (.int 0)))) (fCons (fCB gTupU (fCons (fCB gSort (fCons (fVar 1) fNil)) fNil)) fNil))))))
noncomputable def R__law_mirror : Fn := runB 5 B__law_mirror
noncomputable def B__law_turned : Fs := (fRet (fCB gTuple (fCons (fLc (fIt (fVar 0)) (gNm 2) fYes (fCB gTuple (fCons (fLc (fR1 (fCons (fCB gLen (fCons (fVar 2) fNil)) fNil)) (gNm 1) fYes (fOp2 gIx (fVar 2) (fOp2 gMod (fOp2 gSub (fC (.d (.int 0))) (fVar 1)) (fCB gLen (fCons (fVar 2) fNil)))) [1]) fNil)) [2]) fNil)))
noncomputable def R__law_turned : Fn := runB 3 B__law_turned
noncomputable def B_is_fraction : Fs := (fSeq (fIf (fOr (fNot (fTru (fIsi .tp (fVar 0)))) (fOr (fTru (fOp2 (dEq true) (fCB gLen (fCons (fVar 0) fNil)) (fC (.d (.int 2))))) (fOr (fNot (fTru (fCall 1 [] R_is_whole (fCons (fOp2 gIx (fVar 0) (fC (.d (.int 0)))) fNil)))) (fNot (fTru (fCall 1 [] R_is_whole (fCons (fOp2 gIx (fVar 0) (fC (.d (.int 1)))) fNil))))))) (fRet (fC (.d (.bool false)))) fSkip)
  (fRet (fAndE (fOp2 cGt (fOp2 gIx (fVar 0) (fC (.d (.int 1)))) (fC (.d (.int 0)))) (fOp2 (dEq false) (fCall 2 [] R_common (fCons (fOp2 gIx (fVar 0) (fC (.d (.int 0)))) (fCons (fOp2 gIx (fVar 0) (fC (.d (.int 1)))) fNil))) (fC (.d (.int 1)))))))
noncomputable def R_is_fraction : Fn := runB 1 B_is_fraction
noncomputable def B_lowest : Fs := (fSeq (fSet 2 (fIfE (fTru (fOp2 cGt (fVar 1) (fC (.d (.int 0))))) (fCall 2 [] R_common (fCons (fVar 0) (fCons (fVar 1) fNil))) (fOp2 gSub (fC (.d (.int 0))) (fCall 2 [] R_common (fCons (fVar 0) (fCons (fVar 1) fNil))))))
  (fRet (fTup (fCons (fOp2 gDiv (fVar 0) (fVar 2)) (fCons (fOp2 gDiv (fVar 1) (fVar 2)) fNil)))))
noncomputable def R_lowest : Fn := runB 3 B_lowest
noncomputable def B_are_counts : Fs := (fSeq (fIf (fOr (fNot (fTru (fIsi .tp (fVar 0)))) (fNot (fTru (fChain cLe cLe (fC (.d (.int 1))) (fCB gLen (fCons (fVar 0) fNil)) (fC (.d (.int 16))))))) (fRet (fC (.d (.bool false)))) fSkip)
  (fRet (fAndE (fCB (gAll fun bs => bs.all id) (fCons (fLc (fIt (fVar 0)) (gNm 1) fYes (fAndE (fCall 1 [] R_is_whole (fCons (fVar 1) fNil)) (fOp2 cGt (fVar 1) (fC (.d (.int 0))))) [1]) fNil)) (fOp2 cLe (fCB gSum (fCons (fVar 0) fNil)) (fC (.d (.int 30)))))))
noncomputable def R_are_counts : Fn := runB 2 B_are_counts
noncomputable def B_is_spot : Fs := (fSeq (fIf (fOr (fNot (fTru (fIsi .tp (fVar 1)))) (fOr (fTru (fOp2 (dEq true) (fCB gLen (fCons (fVar 1) fNil)) (fC (.d (.int 2))))) (fOr (fNot (fTru (fCall 1 [] R_is_whole (fCons (fOp2 gIx (fVar 1) (fC (.d (.int 0)))) fNil)))) (fNot (fTru (fCall 1 [] R_is_whole (fCons (fOp2 gIx (fVar 1) (fC (.d (.int 1)))) fNil))))))) (fRet (fC (.d (.bool false)))) fSkip)
  (fRet (fAndE (fChain cLe cLt (fC (.d (.int 0))) (fOp2 gIx (fVar 1) (fC (.d (.int 0)))) (fCB gLen (fCons (fVar 0) fNil))) (fChain cLe cLt (fC (.d (.int 0))) (fOp2 gIx (fVar 1) (fC (.d (.int 1)))) (fOp2 gIx (fVar 0) (fOp2 gIx (fVar 1) (fC (.d (.int 0)))))))))
noncomputable def R_is_spot : Fn := runB 2 B_is_spot
noncomputable def B_need_beats : Fs := (fIf (fOr (fNot (fTru (fCall 1 [] R_is_whole (fCons (fVar 0) fNil)))) (fNot (fTru (fChain cLe cLe (fC (.d (.int 0))) (fVar 0) (fC (.d (.int 300))))))) fBad fSkip)
noncomputable def R_need_beats : Fn := runB 1 B_need_beats
noncomputable def B_mirror_pair : Fs := (fRet (fCB gTuple (fCons (fCB gSort (fCons (fLc (fIt (fVar 1)) (gNm 2) fYes (fCall 2 [] R_mirror_spot (fCons (fVar 0) (fCons (fVar 2) fNil))) [2]) fNil)) fNil)))
noncomputable def R_mirror_pair : Fn := runB 3 B_mirror_pair
noncomputable def B_need_own_touch : Fs := (fIf (fOr (fNot (fTru (fCall 1 [] R_is_whole (fCons (fVar 1) fNil)))) (fNot (fTru (fChain cLe cLt (fC (.d (.int 0))) (fVar 1) (fCB gLen (fCons (fOp2 gIx (fVar 0) (fC (.d (.int 1)))) fNil)))))) fBad fSkip)
noncomputable def R_need_own_touch : Fn := runB 2 B_need_own_touch
noncomputable def B__law_digit : Fs := (fSeq (fIf (fTru (fOp2 (dEq false) (fOp2 gDget (fVar 0) (fC (.d (.str "left")))) (fC (.d (.int 0))))) (fFor (fR1 (fCons (fC (.d (.int 4))) fNil)) (gNm 2) (fSeq (fPutD (fVar 0) (fC (.d (.str "turns"))) (fOp2 gAdd (fOp2 gDget (fVar 0) (fC (.d (.str "turns")))) (fC (.d (.int 1)))))
  (fPutD (fVar 0) (fC (.d (.str "left"))) (fOp2 gAdd (fOp2 gMulT (fOp2 gDget (fVar 0) (fC (.d (.str "left")))) (fC (.d (.int 2147483647)))) (fCall 2 [] R__law_mixed (fCons (fOp2 gDget (fVar 0) (fC (.d (.str "cell")))) (fCons (fOp2 gDget (fVar 0) (fC (.d (.str "turns")))) fNil))))))) fSkip)
  (fSeq (fSet 3 (fOp2 gMod (fOp2 gDget (fVar 0) (fC (.d (.str "left")))) (fVar 1)))
  (fSeq (fPutD (fVar 0) (fC (.d (.str "left"))) (fOp2 gDiv (fOp2 gDget (fVar 0) (fC (.d (.str "left")))) (fVar 1)))
  (fRet (fVar 3)))))
noncomputable def R__law_digit : Fn := runB 4 B__law_digit
noncomputable def B__law_plus : Fs := (fRet (fCall 2 [] R__law_lowest (fCons (fOp2 gAdd (fOp2 gMulT (fOp2 gIx (fVar 0) (fC (.d (.int 0)))) (fOp2 gIx (fVar 1) (fC (.d (.int 1))))) (fOp2 gMulT (fOp2 gIx (fVar 1) (fC (.d (.int 0)))) (fOp2 gIx (fVar 0) (fC (.d (.int 1)))))) (fCons (fOp2 gMulT (fOp2 gIx (fVar 0) (fC (.d (.int 1)))) (fOp2 gIx (fVar 1) (fC (.d (.int 1))))) fNil))))
noncomputable def R__law_plus : Fn := runB 2 B__law_plus
noncomputable def B__law_times : Fs := (fRet (fCall 2 [] R__law_lowest (fCons (fOp2 gMulT (fOp2 gIx (fVar 0) (fC (.d (.int 0)))) (fOp2 gIx (fVar 1) (fC (.d (.int 0))))) (fCons (fOp2 gMulT (fOp2 gIx (fVar 0) (fC (.d (.int 1)))) (fOp2 gIx (fVar 1) (fC (.d (.int 1))))) fNil))))
noncomputable def R__law_times : Fn := runB 2 B__law_times
noncomputable def B_plus : Fs := (fRet (fCall 2 [] R_lowest (fCons (fOp2 gAdd (fOp2 gMulT (fOp2 gIx (fVar 0) (fC (.d (.int 0)))) (fOp2 gIx (fVar 1) (fC (.d (.int 1))))) (fOp2 gMulT (fOp2 gIx (fVar 1) (fC (.d (.int 0)))) (fOp2 gIx (fVar 0) (fC (.d (.int 1)))))) (fCons (fOp2 gMulT (fOp2 gIx (fVar 0) (fC (.d (.int 1)))) (fOp2 gIx (fVar 1) (fC (.d (.int 1))))) fNil))))
noncomputable def R_plus : Fn := runB 2 B_plus
noncomputable def B_times : Fs := (fRet (fCall 2 [] R_lowest (fCons (fOp2 gMulT (fOp2 gIx (fVar 0) (fC (.d (.int 0)))) (fOp2 gIx (fVar 1) (fC (.d (.int 0))))) (fCons (fOp2 gMulT (fOp2 gIx (fVar 0) (fC (.d (.int 1)))) (fOp2 gIx (fVar 1) (fC (.d (.int 1))))) fNil))))
noncomputable def R_times : Fn := runB 2 B_times
noncomputable def B_half : Fs := (fRet (fCall 2 [] R_lowest (fCons (fOp2 gIx (fVar 0) (fC (.d (.int 0)))) (fCons (fOp2 gMulT (fC (.d (.int 2))) (fOp2 gIx (fVar 0) (fC (.d (.int 1))))) fNil))))
noncomputable def R_half : Fn := runB 1 B_half
noncomputable def B_is_touch : Fs := (fSeq (fIf (fOr (fNot (fTru (fIsi .tp (fVar 1)))) (fTru (fOp2 (dEq true) (fCB gLen (fCons (fVar 1) fNil)) (fC (.d (.int 2)))))) (fRet (fC (.d (.bool false)))) fSkip)
  (fRet (fAndE (fCall 2 [] R_is_spot (fCons (fVar 0) (fCons (fOp2 gIx (fVar 1) (fC (.d (.int 0)))) fNil))) (fAndE (fCall 2 [] R_is_spot (fCons (fVar 0) (fCons (fOp2 gIx (fVar 1) (fC (.d (.int 1)))) fNil))) (fOp2 cLt (fOp2 gIx (fVar 1) (fC (.d (.int 0)))) (fOp2 gIx (fVar 1) (fC (.d (.int 1)))))))))
noncomputable def R_is_touch : Fn := runB 2 B_is_touch
noncomputable def B_need_own_load : Fs := (fSeq (fIf (fNot (fTru (fCall 2 [] R_is_shaped (fCons (fOp2 gIx (fVar 0) (fC (.d (.int 0)))) (fCons (fVar 1) fNil))))) fBad fSkip)
  (fFor (fEn (fCons (fVar 1) fNil)) (gTp 2 (gsCons (gNm 2) (gsCons (gNm 3) gsNil))) (fFor (fEn (fCons (fVar 3) fNil)) (gTp 2 (gsCons (gNm 4) (gsCons (gNm 5) gsNil))) (fIf (fNot (fTru (fCall 1 [] R_is_fraction (fCons (fVar 5) fNil)))) fBad fSkip))))
noncomputable def R_need_own_load : Fn := runB 6 B_need_own_load
noncomputable def B_own_mirror : Fs := (fSeq (fAsg (gTp 2 (gsCons (gNm 1) (gsCons (gNm 2) gsNil))) (fVar 0))
  (fRet (fPairU (fCons (fVar 1) (fCons (fCB gTupU (fCons (fCB gSort (fCons (fLc (fIt (fVar 2)) (gNm 3) fYes (fCall 2 [] R_mirror_pair (fCons (fVar 1) (fCons (fVar 3) fNil))) [3]) fNil)) fNil)) fNil)))))
noncomputable def R_own_mirror : Fn := runB 4 B_own_mirror
noncomputable def B__law_counts : Fs := (fSeq (fPar 2 3 (fCons (fOp2 gIx (fLst (fCons (fC (.d (.int 1))) (fCons (fC (.d (.int 2))) (fCons (fC (.d (.int 2))) (fCons (fC (.d (.int 3))) (fCons (fC (.d (.int 4))) (fCons (fC (.d (.int 6))) fNil))))))) (fCall 2 [] R__law_digit (fCons (fVar 0) (fCons (fC (.d (.int 6))) fNil)))) (fCons (fLst fNil) fNil)))
  (fSeq (fFor (fR1 (fCons (fOp2 gAdd (fC (.d (.int 1))) (fCall 2 [] R__law_digit (fCons (fVar 0) (fCons (fC (.d (.int 6))) fNil)))) fNil)) (gNm 4) (fSeq (fSet 5 (fCB (gMM PySem.W.minD 3) (fCons (fC (.d (.int 12))) (fCons (fOp2 gMulT (fVar 2) (fOp2 gAdd (fC (.d (.int 1))) (fCall 2 [] R__law_digit (fCons (fVar 0) (fCons (fC (.d (.int 4))) fNil))))) (fCons (fOp2 gSub (fVar 1) (fCB gSum (fCons (fVar 3) fNil))) fNil)))))
  (fSet 3 (fOp2 gAdd (fVar 3) (fOp2 gMulT (fLst (fCons (fVar 5) fNil)) (fCB gInt1 (fCons (fOp2 cGt (fVar 5) (fC (.d (.int 0)))) fNil)))))))
  (fRet (fCB gTuple (fCons (fVar 3) fNil)))))
noncomputable def R__law_counts : Fn := runB 6 B__law_counts
noncomputable def B__law_touches : Fs := (fSeq (fPar 3 4 (fCons (fLst fNil) (fCons (fLst fNil) fNil)))
  (fSeq (fFor (fEn (fCons (fVar 1) fNil)) (gTp 2 (gsCons (gNm 5) (gsCons (gNm 6) gsNil))) (fSet 3 (fOp2 gAdd (fVar 3) (fLc (fR1 (fCons (fVar 6) fNil)) (gNm 7) fYes (fTup (fCons (fVar 5) (fCons (fVar 7) fNil))) [7]))))
  (fSeq (fFor (fR1 (fCons (fCall 2 [] R__law_digit (fCons (fVar 0) (fCons (fOp2 gAdd (fVar 2) (fC (.d (.int 1)))) fNil))) fNil)) (gNm 8) (fIf (fTru (fOp2 cGt (fCB gLen (fCons (fVar 3) fNil)) (fC (.d (.int 1))))) (fSeq (fSet 9 (fMt gPopAt (fVar 3) (fCons (fCall 2 [] R__law_digit (fCons (fVar 0) (fCons (fCB gLen (fCons (fVar 3) fNil)) fNil))) fNil)))
  (fSeq (fSet 10 (fMt gPopAt (fVar 3) (fCons (fCall 2 [] R__law_digit (fCons (fVar 0) (fCons (fCB gLen (fCons (fVar 3) fNil)) fNil))) fNil)))
  (fExp (fMt gApp (fVar 4) (fCons (fTup (fCons (fCB (gMM PySem.W.minD 2) (fCons (fVar 9) (fCons (fVar 10) fNil))) (fCons (fCB (gMM PySem.W.maxD 2) (fCons (fVar 9) (fCons (fVar 10) fNil))) fNil))) fNil))))) fSkip))
  (fRet (fCB gTuple (fCons (fCB gSort (fCons (fVar 4) fNil)) fNil))))))
noncomputable def R__law_touches : Fn := runB 11 B__law_touches
noncomputable def B__law_load : Fs := (fSeq (fSet 3 (fLst fNil))
  (fSeq (fFor (fIt (fVar 1)) (gNm 4) (fSeq (fSet 5 (fLc (fR1 (fCons (fVar 4) fNil)) (gNm 6) fYes (fTup (fCons (fOp2 gSub (fCall 2 [] R__law_digit (fCons (fVar 0) (fCons (fOp2 gAdd (fOp2 gMulT (fC (.d (.int 2))) (fVar 2)) (fC (.d (.int 1)))) fNil))) (fVar 2)) (fCons (fOp2 gAdd (fC (.d (.int 1))) (fCall 2 [] R__law_digit (fCons (fVar 0) (fCons (fC (.d (.int 3))) fNil)))) fNil))) [6]))
  (fExp (fMt gApp (fVar 3) (fCons (fCB gTuple (fCons (fLc (fIt (fVar 5)) (gTp 2 (gsCons (gNm 7) (gsCons (gNm 8) gsNil))) fYes (fCall 2 [] R__law_lowest (fCons (fVar 7) (fCons (fVar 8) fNil))) [7, 8]) fNil)) fNil)))))
  (fRet (fCB gTuple (fCons (fVar 3) fNil)))))
noncomputable def R__law_load : Fn := runB 9 B__law_load
noncomputable def B__law_pairing : Fs := (fSeq (fSet 2 (fTup (fCons (fC (.d (.int 0))) (fCons (fC (.d (.int 1))) fNil))))
  (fSeq (fFor (fZ2 (fCons (fVar 0) (fCons (fVar 1) fNil))) (gTp 2 (gsCons (gNm 3) (gsCons (gNm 4) gsNil))) (fSet 2 (fCall 2 [] R__law_plus (fCons (fVar 2) (fCons (fCall 2 [] R__law_times (fCons (fVar 3) (fCons (fVar 4) fNil))) fNil)))))
  (fRet (fVar 2))))
noncomputable def R__law_pairing : Fn := runB 5 B__law_pairing
noncomputable def B_touches_misfit : Fs := (fSeq (fSet 2 (fLst fNil))
  (fSeq (fFor (fEn (fCons (fVar 1) fNil)) (gTp 2 (gsCons (gNm 3) (gsCons (gNm 4) gsNil))) (fSeq (fIf (fOr (fNot (fTru (fCall 2 [] R_is_touch (fCons (fVar 0) (fCons (fVar 4) fNil))))) (fAnd (fTru (fOp2 cGt (fVar 3) (fC (.d (.int 0))))) (fNot (fTru (fOp2 cLt (fOp2 gIx (fVar 1) (fOp2 gSub (fVar 3) (fC (.d (.int 1))))) (fVar 4)))))) (fRet (fVar 3)) fSkip)
  (fSeq (fIf (fOr (fTru (fOp2 (gIn false) (fOp2 gIx (fVar 4) (fC (.d (.int 0)))) (fVar 2))) (fTru (fOp2 (gIn false) (fOp2 gIx (fVar 4) (fC (.d (.int 1)))) (fVar 2)))) (fRet (fVar 3)) fSkip)
  (fExp (fMt gExt (fVar 2) (fCons (fVar 4) fNil))))))
  (fRet (fC (.d .none)))))
noncomputable def R_touches_misfit : Fn := runB 5 B_touches_misfit
noncomputable def B_own_read : Fs := (fRet (fCB gTuple (fCons (fLc (fIt (fOp2 gIx (fVar 0) (fC (.d (.int 1))))) (gTp 2 (gsCons (gNm 2) (gsCons (gNm 3) gsNil))) fYes (fCall 1 [] R_half (fCons (fCall 2 [] R_plus (fCons (fOp2 gIx (fOp2 gIx (fVar 1) (fOp2 gIx (fVar 2) (fC (.d (.int 0))))) (fOp2 gIx (fVar 2) (fC (.d (.int 1))))) (fCons (fOp2 gIx (fOp2 gIx (fVar 1) (fOp2 gIx (fVar 3) (fC (.d (.int 0))))) (fOp2 gIx (fVar 3) (fC (.d (.int 1))))) fNil))) fNil)) [2, 3]) fNil)))
noncomputable def R_own_read : Fn := runB 4 B_own_read
noncomputable def B_own_mirror_touch : Fs := (fRet (fMtU (fOp2 gSnd (fCall 1 [] R_own_mirror (fCons (fVar 0) fNil)) (fC (.d (.int 1)))) (fCons (fCall 2 [] R_mirror_pair (fCons (fOp2 gIx (fVar 0) (fC (.d (.int 0)))) (fCons (fOp2 gIx (fOp2 gIx (fVar 0) (fC (.d (.int 1)))) (fVar 1)) fNil))) fNil)))
noncomputable def R_own_mirror_touch : Fn := runB 2 B_own_mirror_touch
noncomputable def B_pairing : Fs := (fSeq (fSet 2 (fC (.d (.tuple [.int 0, .int 1]))))
  (fSeq (fFor (fZ2 (fCons (fVar 0) (fCons (fVar 1) fNil))) (gTp 2 (gsCons (gNm 3) (gsCons (gNm 4) gsNil))) (fIf (fAnd (fNot (fTru (fCall 1 [] R_is_nought (fCons (fVar 3) fNil)))) (fNot (fTru (fCall 1 [] R_is_nought (fCons (fVar 4) fNil))))) (fSet 2 (fCall 2 [] R_plus (fCons (fVar 2) (fCons (fCall 2 [] R_times (fCons (fVar 3) (fCons (fVar 4) fNil))) fNil)))) fSkip))
  (fRet (fVar 2))))
noncomputable def R_pairing : Fn := runB 5 B_pairing
noncomputable def B__law_machine : Fs := (fSeq (fSet 2 (fCall 2 [] R__law_counts (fCons (fVar 0) (fCons (fVar 1) fNil))))
  (fRet (fTup (fCons (fVar 2) (fCons (fCall 3 [] R__law_touches (fCons (fVar 0) (fCons (fVar 2) (fCons (fC (.d (.int 8))) fNil)))) fNil)))))
noncomputable def R__law_machine : Fn := runB 3 B__law_machine
noncomputable def B_need_machine : Fs := (fSeq (fIf (fOr (fNot (fTru (fIsi .tp (fVar 0)))) (fTru (fOp2 (dEq true) (fCB gLen (fCons (fVar 0) fNil)) (fC (.d (.int 2)))))) fBad fSkip)
  (fSeq (fAsg (gTp 2 (gsCons (gNm 1) (gsCons (gNm 2) gsNil))) (fVar 0))
  (fSeq (fIf (fNot (fTru (fCall 1 [] R_are_counts (fCons (fVar 1) fNil)))) fBad fSkip)
  (fSeq (fIf (fOr (fNot (fTru (fIsi .tp (fVar 2)))) (fTru (fOp2 cGt (fCB gLen (fCons (fVar 2) fNil)) (fC (.d (.int 8)))))) fBad fSkip)
  (fSeq (fSet 3 (fCall 2 [] R_touches_misfit (fCons (fVar 1) (fCons (fVar 2) fNil))))
  (fIf (fTru (fOp2 (gIsN true) (fVar 3) (fC (.d .none)))) fBad fSkip))))))
noncomputable def R_need_machine : Fn := runB 4 B_need_machine
noncomputable def B_own_beat : Fs := (fSeq (fSet 2 (fLc (fIt (fVar 1)) (gNm 3) fYes (fCB gList (fCons (fVar 3) fNil)) [3]))
  (fSeq (fFor (fZ2 (fCons (fOp2 gIx (fVar 0) (fC (.d (.int 1)))) (fCons (fCall 2 [] R_own_read (fCons (fVar 0) (fCons (fVar 1) fNil))) fNil))) (gTp 2 (gsCons (gNm 4) (gsCons (gNm 5) gsNil))) (fFor (fIt (fVar 4)) (gTp 2 (gsCons (gNm 6) (gsCons (gNm 7) gsNil))) (fPutL (fOp2 gIx (fVar 2) (fVar 6)) (fVar 7) (fVar 5))))
  (fRet (fCB gTuple (fCons (fLc (fIt (fVar 2)) (gNm 3) fYes (fCB gTuple (fCons (fOp2 gAdd (fSl (fVar 3) (fPart (fC (.d (.int 1)))) fNoP) (fSl (fVar 3) fNoP (fPart (fC (.d (.int 1)))))) fNil)) [3]) fNil)))))
noncomputable def R_own_beat : Fn := runB 8 B_own_beat
noncomputable def B__law_touching : Fs := (fSeq (fSet 2 (fCall 2 [] R__law_machine (fCons (fVar 0) (fCons (fVar 1) fNil))))
  (fSeq (fIf (fTru (fOp2 (dEq true) (fOp2 gIx (fVar 2) (fC (.d (.int 1)))) (fTup fNil))) (fRet (fVar 2)) fSkip)
  (fRet (fTup (fCons (fTup (fCons (fC (.d (.int 2))) (fCons (fC (.d (.int 3))) fNil))) (fCons (fTup (fCons (fTup (fCons (fTup (fCons (fC (.d (.int 0))) (fCons (fCall 2 [] R__law_digit (fCons (fVar 0) (fCons (fC (.d (.int 2))) fNil))) fNil))) (fCons (fTup (fCons (fC (.d (.int 1))) (fCons (fCall 2 [] R__law_digit (fCons (fVar 0) (fCons (fC (.d (.int 3))) fNil))) fNil))) fNil))) fNil)) fNil))))))
noncomputable def R__law_touching : Fn := runB 3 B__law_touching
noncomputable def B_need_load : Fs := (fSeq (fExp (fCall 1 [] R_need_machine (fCons (fVar 0) fNil)))
  (fExp (fCall 2 [] R_need_own_load (fCons (fVar 0) (fCons (fVar 1) fNil)))))
noncomputable def R_need_load : Fn := runB 2 B_need_load
noncomputable def B_one_at : Fs := (fSeq (fExp (fCall 1 [] R_need_machine (fCons (fVar 0) fNil)))
  (fSeq (fIf (fNot (fTru (fCall 2 [] R_is_spot (fCons (fOp2 gIx (fVar 0) (fC (.d (.int 0)))) (fCons (fVar 1) fNil))))) fBad fSkip)
  (fRet (fCall 2 [] R_own_one_at (fCons (fVar 0) (fCons (fVar 1) fNil))))))
noncomputable def R_one_at : Fn := runB 2 B_one_at
noncomputable def B_mirror : Fs := (fSeq (fExp (fCall 1 [] R_need_machine (fCons (fVar 0) fNil)))
  (fRet (fUnT (fCall 1 [] R_own_mirror (fCons (fVar 0) fNil)))))
noncomputable def R_mirror : Fn := runB 1 B_mirror
noncomputable def B_mirror_touch : Fs := (fSeq (fExp (fCall 1 [] R_need_machine (fCons (fVar 0) fNil)))
  (fSeq (fExp (fCall 2 [] R_need_own_touch (fCons (fVar 0) (fCons (fVar 1) fNil))))
  (fRet (fCall 2 [] R_own_mirror_touch (fCons (fVar 0) (fCons (fVar 1) fNil))))))
noncomputable def R_mirror_touch : Fn := runB 2 B_mirror_touch
noncomputable def B_behind : Fs := (fSeq (fExp (fCall 2 [] R_need_load (fCons (fVar 0) (fCons (fVar 1) fNil))))
  (fSeq (fExp (fCall 1 [] R_need_beats (fCons (fVar 2) fNil)))
  (fSeq (fSet 3 (fVar 1))
  (fSeq (fFor (fR1 (fCons (fVar 2) fNil)) (gNm 4) (fSet 3 (fCall 2 [] R_own_beat (fCons (fVar 0) (fCons (fVar 3) fNil)))))
  (fRet (fVar 3))))))
noncomputable def R_behind : Fn := runB 5 B_behind
noncomputable def B_turned : Fs := (fSeq (fExp (fCall 2 [] R_need_load (fCons (fVar 0) (fCons (fVar 1) fNil))))
  (fRet (fCall 1 [] R_own_turned (fCons (fVar 1) fNil))))
noncomputable def R_turned : Fn := runB 2 B_turned
noncomputable def B_paired : Fs := (fSeq (fExp (fCall 2 [] R_need_load (fCons (fVar 0) (fCons (fVar 1) fNil))))
  (fSeq (fExp (fCall 2 [] R_need_own_load (fCons (fVar 0) (fCons (fVar 2) fNil))))
  (fRet (fCall 2 [] R_pairing (fCons (fCall 1 [] R_flat (fCons (fVar 1) fNil)) (fCons (fCall 1 [] R_flat (fCons (fVar 2) fNil)) fNil))))))
noncomputable def R_paired : Fn := runB 3 B_paired
noncomputable def B__law_named_right : Fs := (fSeq (fIf (fOr (fTru (fOp2 (dEq true) (fCB gRepr (fCons (fCall 1 [] R_mirror (fCons (fVar 0) fNil)) fNil)) (fCB gRepr (fCons (fVarD 1) fNil)))) (fTru (fOp2 (dEq true) (fCB gRepr (fCons (fCall 1 [] R_mirror (fCons (fVarD 1) fNil)) fNil)) (fCB gRepr (fCons (fVar 0) fNil))))) (fRet (fC (.d (.bool false)))) fSkip)
  (fSeq (fFor (fEn (fCons (fOp2 gIx (fVar 0) (fC (.d (.int 1)))) fNil)) (gTp 2 (gsCons (gNm 2) (gsCons (gNm 3) gsNil))) (fSeq (fSet 4 (fCall 2 [] R_mirror_touch (fCons (fVar 0) (fCons (fVar 2) fNil))))
  (fSeq (fSet 5 (fCB gSort (fCons (fLc (fIt (fVar 3)) (gTp 2 (gsCons (gNm 6) (gsCons (gNm 7) gsNil))) fYes (fTup (fCons (fVar 6) (fCons (fOp2 gMod (fOp2 gSub (fC (.d (.int 1))) (fVar 7)) (fOp2 gIx (fOp2 gIx (fVar 0) (fC (.d (.int 0)))) (fVar 6))) fNil))) [6, 7]) fNil)))
  (fIf (fOr (fTru (fOp2 (dEq true) (fCB gRepr (fCons (fVar 4) fNil)) (fCB gRepr (fCons (fMtU (fOp2 gSnd (fVar 1) (fC (.d (.int 1)))) (fCons (fCB gTuple (fCons (fVar 5) fNil)) fNil)) fNil)))) (fTru (fOp2 (dEq true) (fCall 2 [] R_mirror_touch (fCons (fVarD 1) (fCons (fVar 4) fNil))) (fVar 2)))) (fRet (fC (.d (.bool false)))) fSkip))))
  (fSeq (fAsg (gTp 2 (gsCons (gNm 8) (gsCons (gNm 9) gsNil))) (fTup (fCons (fTup (fCons (fTup (fCons (fC (.d (.int 3))) (fCons (fC (.d (.int 1))) (fCons (fC (.d (.int 2))) fNil)))) (fCons (fTup fNil) fNil))) (fCons (fTup (fCons (fTup (fCons (fTup (fCons (fC (.d (.int 1))) (fCons (fC (.d (.int 1))) fNil))) (fCons (fTup (fCons (fC (.d (.int 2))) (fCons (fC (.d (.int 1))) fNil))) (fCons (fTup (fCons (fC (.d (.int 3))) (fCons (fC (.d (.int 1))) fNil))) fNil)))) (fCons (fTup (fCons (fTup (fCons (fC (.d (.int 4))) (fCons (fC (.d (.int 1))) fNil))) fNil)) (fCons (fTup (fCons (fTup (fCons (fC (.d (.int 5))) (fCons (fC (.d (.int 1))) fNil))) (fCons (fTup (fCons (fC (.d (.int 6))) (fCons (fC (.d (.int 1))) fNil))) fNil))) fNil)))) fNil))))
  (fSeq (fSet 10 (fTup (fCons (fTup (fCons (fTup (fCons (fC (.d (.int 1))) (fCons (fC (.d (.int 1))) fNil))) (fCons (fTup (fCons (fC (.d (.int 3))) (fCons (fC (.d (.int 1))) fNil))) (fCons (fTup (fCons (fC (.d (.int 2))) (fCons (fC (.d (.int 1))) fNil))) fNil)))) (fCons (fTup (fCons (fTup (fCons (fC (.d (.int 4))) (fCons (fC (.d (.int 1))) fNil))) fNil)) (fCons (fTup (fCons (fTup (fCons (fC (.d (.int 5))) (fCons (fC (.d (.int 1))) fNil))) (fCons (fTup (fCons (fC (.d (.int 6))) (fCons (fC (.d (.int 1))) fNil))) fNil))) fNil)))))
  (fRet (fAndE (fOp2 (dEq false) (fCall 1 [] R_mirror (fCons (fVar 8) fNil)) (fVar 8)) (fOp2 (dEq false) (fCall 2 [] R_turned (fCons (fVar 8) (fCons (fVar 9) fNil))) (fVar 10))))))))
noncomputable def R__law_named_right : Fn := runB 11 B__law_named_right
noncomputable def B_own_spots : Fs := (fRet (fCB gTuple (fCons (fLc2 (fEn (fCons (fVar 0) fNil)) (gTp 2 (gsCons (gNm 1) (gsCons (gNm 2) gsNil))) fYes (fR1 (fCons (fVar 2) fNil)) (gNm 3) fYes (fTup (fCons (fVar 1) (fCons (fVar 3) fNil))) [1, 2, 3] [3]) fNil)))
noncomputable def R_own_spots : Fn := runB 4 B_own_spots
noncomputable def B_fraction : Fs := (fSeq (fIf (fOr (fNot (fTru (fCall 1 [] R_is_whole (fCons (fVar 0) fNil)))) (fOr (fNot (fTru (fCall 1 [] R_is_whole (fCons (fVar 1) fNil)))) (fTru (fOp2 (dEq false) (fVar 1) (fC (.d (.int 0))))))) fBad fSkip)
  (fRet (fCall 2 [] R_lowest (fCons (fVar 0) (fCons (fVar 1) fNil)))))
noncomputable def R_fraction : Fn := runB 2 B_fraction
noncomputable def B_less : Fs := (fRet (fCall 2 [] R_lowest (fCons (fOp2 gSub (fOp2 gMulT (fOp2 gIx (fVar 0) (fC (.d (.int 0)))) (fOp2 gIx (fVar 1) (fC (.d (.int 1))))) (fOp2 gMulT (fOp2 gIx (fVar 1) (fC (.d (.int 0)))) (fOp2 gIx (fVar 0) (fC (.d (.int 1)))))) (fCons (fOp2 gMulT (fOp2 gIx (fVar 0) (fC (.d (.int 1)))) (fOp2 gIx (fVar 1) (fC (.d (.int 1))))) fNil))))
noncomputable def R_less : Fn := runB 2 B_less
noncomputable def B__law_read : Fs := (fSeq (fSet 2 (fLst fNil))
  (fSeq (fFor (fIt (fOp2 gIx (fVar 0) (fC (.d (.int 1))))) (gTp 2 (gsCons (gTp 2 (gsCons (gNm 3) (gsCons (gNm 4) gsNil))) (gsCons (gTp 2 (gsCons (gNm 5) (gsCons (gNm 6) gsNil))) gsNil))) (fSeq (fSet 7 (fCall 2 [] R__law_plus (fCons (fOp2 gIx (fOp2 gIx (fVar 1) (fVar 3)) (fVar 4)) (fCons (fOp2 gIx (fOp2 gIx (fVar 1) (fVar 5)) (fVar 6)) fNil))))
  (fExp (fMt gApp (fVar 2) (fCons (fCall 2 [] R__law_lowest (fCons (fOp2 gIx (fVar 7) (fC (.d (.int 0)))) (fCons (fOp2 gMulT (fC (.d (.int 2))) (fOp2 gIx (fVar 7) (fC (.d (.int 1))))) fNil))) fNil)))))
  (fRet (fCB gTuple (fCons (fVar 2) fNil)))))
noncomputable def R__law_read : Fn := runB 8 B__law_read
noncomputable def B__law_squares : Fs := (fSeq (fSet 1 (fTup (fCons (fC (.d (.int 0))) (fCons (fC (.d (.int 1))) fNil))))
  (fSeq (fFor (fIt (fVar 0)) (gNm 2) (fFor (fIt (fVar 2)) (gTp 2 (gsCons (gNm 3) (gsCons (gNm 4) gsNil))) (fSet 1 (fCall 2 [] R__law_plus (fCons (fVar 1) (fCons (fCall 2 [] R__law_lowest (fCons (fOp2 gMulT (fVar 3) (fVar 3)) (fCons (fOp2 gMulT (fVar 4) (fVar 4)) fNil))) fNil))))))
  (fRet (fVar 1))))
noncomputable def R__law_squares : Fn := runB 5 B__law_squares
noncomputable def B__law_met : Fs := (fSeq (fSet 2 (fTup (fCons (fC (.d (.int 0))) (fCons (fC (.d (.int 1))) fNil))))
  (fSeq (fFor (fIt (fOp2 gIx (fVar 0) (fC (.d (.int 1))))) (gTp 2 (gsCons (gTp 2 (gsCons (gNm 3) (gsCons (gNm 4) gsNil))) (gsCons (gTp 2 (gsCons (gNm 5) (gsCons (gNm 6) gsNil))) gsNil))) (fSeq (fSet 7 (fCall 2 [] R__law_plus (fCons (fOp2 gIx (fOp2 gIx (fVar 1) (fVar 3)) (fVar 4)) (fCons (fTup (fCons (fOp2 gSub (fC (.d (.int 0))) (fOp2 gIx (fOp2 gIx (fOp2 gIx (fVar 1) (fVar 5)) (fVar 6)) (fC (.d (.int 0))))) (fCons (fOp2 gIx (fOp2 gIx (fOp2 gIx (fVar 1) (fVar 5)) (fVar 6)) (fC (.d (.int 1)))) fNil))) fNil))))
  (fSet 2 (fCall 2 [] R__law_plus (fCons (fVar 2) (fCons (fCall 2 [] R__law_lowest (fCons (fOp2 gMulT (fOp2 gIx (fVar 7) (fC (.d (.int 0)))) (fOp2 gIx (fVar 7) (fC (.d (.int 0))))) (fCons (fOp2 gMulT (fOp2 gMulT (fC (.d (.int 2))) (fOp2 gIx (fVar 7) (fC (.d (.int 1))))) (fOp2 gIx (fVar 7) (fC (.d (.int 1))))) fNil))) fNil))))))
  (fRet (fVar 2))))
noncomputable def R__law_met : Fn := runB 8 B__law_met
noncomputable def B__law_beat : Fs := (fSeq (fSet 2 (fLc (fIt (fVar 1)) (gNm 3) fYes (fCB gList (fCons (fVar 3) fNil)) [3]))
  (fSeq (fFor (fZ2 (fCons (fOp2 gIx (fVar 0) (fC (.d (.int 1)))) (fCons (fCall 2 [] R__law_read (fCons (fVar 0) (fCons (fVar 1) fNil))) fNil))) (gTp 2 (gsCons (gNm 4) (gsCons (gNm 5) gsNil))) (fFor (fIt (fVar 4)) (gTp 2 (gsCons (gNm 6) (gsCons (gNm 7) gsNil))) (fPutL (fOp2 gIx (fVar 2) (fVar 6)) (fVar 7) (fVar 5))))
  (fRet (fCB gTuple (fCons (fLc (fIt (fVar 2)) (gNm 3) fYes (fCB gTuple (fCons (fLc (fR1 (fCons (fCB gLen (fCons (fVar 3) fNil)) fNil)) (gNm 7) fYes (fOp2 gIx (fVar 3) (fOp2 gMod (fOp2 gAdd (fVar 7) (fC (.d (.int 1)))) (fCB gLen (fCons (fVar 3) fNil)))) [7]) fNil)) [3]) fNil)))))
noncomputable def R__law_beat : Fn := runB 8 B__law_beat
noncomputable def B_spots : Fs := (fSeq (fExp (fCall 1 [] R_need_machine (fCons (fVar 0) fNil)))
  (fRet (fCall 1 [] R_own_spots (fCons (fOp2 gIx (fVar 0) (fC (.d (.int 0)))) fNil))))
noncomputable def R_spots : Fn := runB 1 B_spots
noncomputable def B_is_load : Fs := (fSeq (fExp (fCall 1 [] R_need_machine (fCons (fVar 0) fNil)))
  (fSeq (fTry0 (fExp (fCall 2 [] R_need_own_load (fCons (fVar 0) (fCons (fVar 1) fNil)))))
  (fRet (fC (.d (.bool true))))))
noncomputable def R_is_load : Fn := runB 2 B_is_load
noncomputable def B_empty : Fs := (fSeq (fExp (fCall 1 [] R_need_machine (fCons (fVar 0) fNil)))
  (fRet (fCB gTuple (fCons (fLc (fIt (fOp2 gIx (fVar 0) (fC (.d (.int 0))))) (gNm 1) fYes (fOp2 gMulT (fTup (fCons (fC (.d (.tuple [.int 0, .int 1]))) fNil)) (fVar 1)) [1]) fNil))))
noncomputable def R_empty : Fn := runB 2 B_empty
noncomputable def B_added : Fs := (fSeq (fExp (fCall 2 [] R_need_load (fCons (fVar 0) (fCons (fVar 1) fNil))))
  (fSeq (fExp (fCall 2 [] R_need_own_load (fCons (fVar 0) (fCons (fVar 2) fNil))))
  (fRet (fCB gTuple (fCons (fLc (fZ2 (fCons (fVar 1) (fCons (fVar 2) fNil))) (gTp 2 (gsCons (gNm 5) (gsCons (gNm 6) gsNil))) fYes (fCB gTuple (fCons (fLc (fZ2 (fCons (fVar 5) (fCons (fVar 6) fNil))) (gTp 2 (gsCons (gNm 3) (gsCons (gNm 4) gsNil))) fYes (fCall 2 [] R_plus (fCons (fVar 3) (fCons (fVar 4) fNil))) [3, 4]) fNil)) [5, 6]) fNil)))))
noncomputable def R_added : Fn := runB 7 B_added
noncomputable def B_scaled : Fs := (fSeq (fExp (fCall 2 [] R_need_load (fCons (fVar 0) (fCons (fVar 1) fNil))))
  (fSeq (fIf (fNot (fTru (fCall 1 [] R_is_fraction (fCons (fVar 2) fNil)))) fBad fSkip)
  (fRet (fCB gTuple (fCons (fLc (fIt (fVar 1)) (gNm 4) fYes (fCB gTuple (fCons (fLc (fIt (fVar 4)) (gNm 3) fYes (fCall 2 [] R_times (fCons (fVar 3) (fCons (fVar 2) fNil))) [3]) fNil)) [4]) fNil)))))
noncomputable def R_scaled : Fn := runB 5 B_scaled
noncomputable def B_held : Fs := (fSeq (fExp (fCall 2 [] R_need_load (fCons (fVar 0) (fCons (fVar 1) fNil))))
  (fSeq (fSet 2 (fC (.d (.tuple [.int 0, .int 1]))))
  (fSeq (fFor (fIt (fVar 1)) (gNm 3) (fFor (fIt (fVar 3)) (gNm 4) (fSet 2 (fCall 2 [] R_plus (fCons (fVar 2) (fCons (fVar 4) fNil))))))
  (fRet (fVar 2)))))
noncomputable def R_held : Fn := runB 5 B_held
noncomputable def B_squares : Fs := (fSeq (fExp (fCall 2 [] R_need_load (fCons (fVar 0) (fCons (fVar 1) fNil))))
  (fSeq (fSet 2 (fC (.d (.tuple [.int 0, .int 1]))))
  (fSeq (fFor (fIt (fVar 1)) (gNm 3) (fFor (fIt (fVar 3)) (gNm 4) (fSet 2 (fCall 2 [] R_plus (fCons (fVar 2) (fCons (fCall 2 [] R_times (fCons (fVar 4) (fCons (fVar 4) fNil))) fNil))))))
  (fRet (fVar 2)))))
noncomputable def R_squares : Fn := runB 5 B_squares
noncomputable def B_read : Fs := (fSeq (fExp (fCall 2 [] R_need_load (fCons (fVar 0) (fCons (fVar 1) fNil))))
  (fRet (fCall 2 [] R_own_read (fCons (fVar 0) (fCons (fVar 1) fNil)))))
noncomputable def R_read : Fn := runB 2 B_read
noncomputable def B_beat : Fs := (fSeq (fExp (fCall 2 [] R_need_load (fCons (fVar 0) (fCons (fVar 1) fNil))))
  (fRet (fCall 2 [] R_own_beat (fCons (fVar 0) (fCons (fVar 1) fNil)))))
noncomputable def R_beat : Fn := runB 2 B_beat
noncomputable def B_readings : Fs := (fSeq (fExp (fCall 2 [] R_need_load (fCons (fVar 0) (fCons (fVar 1) fNil))))
  (fSeq (fExp (fCall 1 [] R_need_beats (fCons (fVar 2) fNil)))
  (fSeq (fPar 3 4 (fCons (fLst fNil) (fCons (fVar 1) fNil)))
  (fSeq (fFor (fR1 (fCons (fVar 2) fNil)) (gNm 5) (fSeq (fExp (fMt gApp (fVar 3) (fCons (fCall 2 [] R_own_read (fCons (fVar 0) (fCons (fVar 4) fNil))) fNil)))
  (fSet 4 (fCall 2 [] R_own_beat (fCons (fVar 0) (fCons (fVar 4) fNil))))))
  (fRet (fVar 3))))))
noncomputable def R_readings : Fn := runB 6 B_readings
noncomputable def B_put_on : Fs := (fSeq (fSet 2 (fLst fNil))
  (fSeq (fFor (fEn (fCons (fVar 0) fNil)) (gTp 2 (gsCons (gNm 3) (gsCons (gNm 4) gsNil))) (fExp (fMt gApp (fVar 2) (fCons (fCB gTuple (fCons (fLc (fR1 (fCons (fVar 4) fNil)) (gNm 5) fYes (fIfE (fTru (fOp2 (gIn false) (fTup (fCons (fVar 3) (fCons (fVar 5) fNil))) (fVar 1))) (fC (.d (.tuple [.int 1, .int 2]))) (fC (.d (.tuple [.int 0, .int 1])))) [5]) fNil)) fNil))))
  (fRet (fCB gTuple (fCons (fVar 2) fNil)))))
noncomputable def R_put_on : Fn := runB 6 B_put_on
noncomputable def B_back_spots : Fs := (fRet (fLc (fIt (fVar 1)) (gTp 2 (gsCons (gNm 2) (gsCons (gNm 3) gsNil))) fYes (fTup (fCons (fVar 2) (fCons (fOp2 gMod (fOp2 gSub (fC (.d (.int 0))) (fVar 3)) (fOp2 gIx (fVar 0) (fVar 2))) fNil))) [2, 3]))
noncomputable def R_back_spots : Fn := runB 4 B_back_spots
noncomputable def B__law_spots : Fs := (fSeq (fSet 1 (fLst fNil))
  (fSeq (fFor (fEn (fCons (fVar 0) fNil)) (gTp 2 (gsCons (gNm 2) (gsCons (gNm 3) gsNil))) (fSet 1 (fOp2 gAdd (fVar 1) (fLc (fR1 (fCons (fVar 3) fNil)) (gNm 4) fYes (fTupT (fCons (fVar 2) (fCons (fVar 4) fNil))) [4]))))
  (fRet (fVar 1))))
noncomputable def R__law_spots : Fn := runB 5 B__law_spots
noncomputable def B__law_one_at : Fs := (fSeq (fSet 2 (fLc (fIt (fVar 0)) (gNm 3) fYes (fOp2 gMulT (fLst (fCons (fTup (fCons (fC (.d (.int 0))) (fCons (fC (.d (.int 1))) fNil))) fNil)) (fVar 3)) [3]))
  (fSeq (fPutL (fOp2 gIx (fVar 2) (fOp2 gIx (fVar 1) (fC (.d (.int 0))))) (fOp2 gIx (fVar 1) (fC (.d (.int 1)))) (fTup (fCons (fC (.d (.int 1))) (fCons (fC (.d (.int 1))) fNil))))
  (fRet (fCB gTuple (fCons (fLc (fIt (fVar 2)) (gNm 4) fYes (fCB gTuple (fCons (fVar 4) fNil)) [4]) fNil)))))
noncomputable def R__law_one_at : Fn := runB 5 B__law_one_at
noncomputable def B_first_backs : Fs := (fRet (fLc (fIt (fVar 1)) (gNm 2) fYes (fCall 2 [] R_put_on (fCons (fOp2 gIx (fVar 0) (fC (.d (.int 0)))) (fCons (fCall 2 [] R_back_spots (fCons (fOp2 gIx (fVar 0) (fC (.d (.int 0)))) (fCons (fOp2 gIx (fOp2 gIx (fVar 0) (fC (.d (.int 1)))) (fVar 2)) fNil))) fNil))) [2]))
noncomputable def R_first_backs : Fn := runB 3 B_first_backs
noncomputable def B__law_less : Fs := (fRet (fCall 2 [] R__law_lowest (fCons (fOp2 gSub (fOp2 gMulT (fOp2 gIx (fVar 0) (fC (.d (.int 0)))) (fOp2 gIx (fVar 1) (fC (.d (.int 1))))) (fOp2 gMulT (fOp2 gIx (fVar 1) (fC (.d (.int 0)))) (fOp2 gIx (fVar 0) (fC (.d (.int 1)))))) (fCons (fOp2 gMulT (fOp2 gIx (fVar 0) (fC (.d (.int 1)))) (fOp2 gIx (fVar 1) (fC (.d (.int 1))))) fNil))))
noncomputable def R__law_less : Fn := runB 2 B__law_less
noncomputable def B__law_over : Fs := (fSeq (fPar 2 3 (fCons (fOp2 gMulT (fOp2 gIx (fVar 0) (fC (.d (.int 0)))) (fOp2 gIx (fVar 1) (fC (.d (.int 1))))) (fCons (fOp2 gMulT (fOp2 gIx (fVar 0) (fC (.d (.int 1)))) (fOp2 gIx (fVar 1) (fC (.d (.int 0))))) fNil)))
  (fRet (fCall 2 [] R__law_lowest (fCons (fIfE (fTru (fOp2 cGt (fVar 3) (fC (.d (.int 0))))) (fVar 2) (fOp2 gSub (fC (.d (.int 0))) (fVar 2))) (fCons (fCB gAbs (fCons (fVar 3) fNil)) fNil)))))
noncomputable def R__law_over : Fn := runB 4 B__law_over
noncomputable def B_over : Fs := (fSeq (fIf (fTru (fCall 1 [] R_is_nought (fCons (fVar 1) fNil))) fBad fSkip)
  (fRet (fCall 2 [] R_lowest (fCons (fOp2 gMulT (fOp2 gIx (fVar 0) (fC (.d (.int 0)))) (fOp2 gIx (fVar 1) (fC (.d (.int 1))))) (fCons (fOp2 gMulT (fOp2 gIx (fVar 0) (fC (.d (.int 1)))) (fOp2 gIx (fVar 1) (fC (.d (.int 0))))) fNil)))))
noncomputable def R_over : Fn := runB 2 B_over
noncomputable def B__law_with : Fs := (fSeq (fSet 3 (fLc (fIt (fVar 0)) (gNm 4) fYes (fCB gList (fCons (fVar 4) fNil)) [4]))
  (fSeq (fPutL (fOp2 gIx (fVar 3) (fOp2 gIx (fVar 1) (fC (.d (.int 0))))) (fOp2 gIx (fVar 1) (fC (.d (.int 1)))) (fCall 2 [] R__law_plus (fCons (fOp2 gIx (fOp2 gIx (fVar 3) (fOp2 gIx (fVar 1) (fC (.d (.int 0))))) (fOp2 gIx (fVar 1) (fC (.d (.int 1))))) (fCons (fVar 2) fNil))))
  (fRet (fCB gTuple (fCons (fLc (fIt (fVar 3)) (gNm 4) fYes (fCB gTuple (fCons (fVar 4) fNil)) [4]) fNil)))))
noncomputable def R__law_with : Fn := runB 5 B__law_with
noncomputable def B_lacking : Fs := (fRet (fCall 2 [] R_less (fCons (fVar 2) (fCons (fCall 2 [] R_pairing (fCons (fCall 1 [] R_flat (fCons (fVar 1) fNil)) (fCons (fCall 1 [] R_flat (fCons (fVar 0) fNil)) fNil))) fNil))))
noncomputable def R_lacking : Fn := runB 3 B_lacking
noncomputable def B__law_behind : Fs := (fSeq (fFor (fR1 (fCons (fVar 2) fNil)) (gNm 3) (fSet 1 (fCall 2 [] R__law_beat (fCons (fVar 0) (fCons (fVar 1) fNil)))))
  (fRet (fVar 1)))
noncomputable def R__law_behind : Fn := runB 4 B__law_behind
noncomputable def B_row_of : Fs := (fSeq (fExp (fCall 1 [] R_need_machine (fCons (fVar 0) fNil)))
  (fSeq (fExp (fCall 2 [] R_need_own_touch (fCons (fVar 0) (fCons (fVar 1) fNil))))
  (fSeq (fExp (fCall 1 [] R_need_beats (fCons (fVar 2) fNil)))
  (fSeq (fPar 3 4 (fCons (fCall 1 [] R_own_mirror (fCons (fVar 0) fNil)) (fCons (fOp2 gIx (fCall 2 [] R_first_backs (fCons (fVar 0) (fCons (fTup (fCons (fVar 1) fNil)) fNil))) (fC (.d (.int 0)))) fNil)))
  (fSeq (fFor (fR1 (fCons (fVar 2) fNil)) (gNm 5) (fSet 4 (fCall 2 [] R_own_beat (fCons (fVar 3) (fCons (fVar 4) fNil)))))
  (fRet (fCall 1 [] R_own_turned (fCons (fVar 4) fNil))))))))
noncomputable def R_row_of : Fn := runB 6 B_row_of
noncomputable def B__law_told_by : Fs := (fRet (fOp2 gIx (fCall 2 [] R__law_read (fCons (fVar 0) (fCons (fCall 3 [] R__law_behind (fCons (fVar 0) (fCons (fVar 1) (fCons (fVar 3) fNil)))) fNil))) (fVar 2)))
noncomputable def R__law_told_by : Fn := runB 4 B__law_told_by
noncomputable def B_aim : Fs := (fSeq (fExp (fCall 2 [] R_need_load (fCons (fVar 0) (fCons (fVar 1) fNil))))
  (fSeq (fExp (fCall 2 [] R_need_own_touch (fCons (fVar 0) (fCons (fVar 2) fNil))))
  (fSeq (fExp (fCall 1 [] R_need_beats (fCons (fVar 3) fNil)))
  (fSeq (fIf (fNot (fTru (fCall 2 [] R_is_spot (fCons (fOp2 gIx (fVar 0) (fC (.d (.int 0)))) (fCons (fVar 4) fNil))))) fBad fSkip)
  (fSeq (fIf (fNot (fTru (fCall 1 [] R_is_fraction (fCons (fVar 5) fNil)))) fBad fSkip)
  (fSeq (fSet 6 (fCall 3 [] R_row_of (fCons (fVar 0) (fCons (fVar 2) (fCons (fVar 3) fNil)))))
  (fSeq (fSet 7 (fOp2 gIx (fOp2 gIx (fVar 6) (fOp2 gIx (fVar 4) (fC (.d (.int 0))))) (fOp2 gIx (fVar 4) (fC (.d (.int 1))))))
  (fSeq (fIf (fTru (fCall 1 [] R_is_nought (fCons (fVar 7) fNil))) (fRaise 0) fSkip)
  (fRet (fCall 2 [] R_over (fCons (fCall 3 [] R_lacking (fCons (fVar 1) (fCons (fVar 6) (fCons (fVar 5) fNil)))) (fCons (fVar 7) fNil))))))))))))
noncomputable def R_aim : Fn := runB 8 B_aim
noncomputable def B_least_aim : Fs := (fSeq (fExp (fCall 2 [] R_need_load (fCons (fVar 0) (fCons (fVar 1) fNil))))
  (fSeq (fExp (fCall 2 [] R_need_own_touch (fCons (fVar 0) (fCons (fVar 2) fNil))))
  (fSeq (fExp (fCall 1 [] R_need_beats (fCons (fVar 3) fNil)))
  (fSeq (fIf (fNot (fTru (fCall 1 [] R_is_fraction (fCons (fVar 4) fNil)))) fBad fSkip)
  (fSeq (fSet 5 (fCall 3 [] R_row_of (fCons (fVar 0) (fCons (fVar 2) (fCons (fVar 3) fNil)))))
  (fSeq (fSet 6 (fCall 2 [] R_over (fCons (fCall 3 [] R_lacking (fCons (fVar 1) (fCons (fVar 5) (fCons (fVar 4) fNil)))) (fCons (fCall 2 [] R_pairing (fCons (fCall 1 [] R_flat (fCons (fVar 5) fNil)) (fCons (fCall 1 [] R_flat (fCons (fVar 5) fNil)) fNil))) fNil))))
  (fRet (fCB gTuple (fCons (fLc (fIt (fVar 5)) (gNm 8) fYes (fCB gTuple (fCons (fLc (fIt (fVar 8)) (gNm 7) fYes (fCall 2 [] R_times (fCons (fVar 7) (fCons (fVar 6) fNil))) [7]) fNil)) [8]) fNil)))))))))
noncomputable def R_least_aim : Fn := runB 9 B_least_aim
noncomputable def B__law_aimed : Fs := (fSeq (fSet 6 (fLst fNil))
  (fSeq (fTryC 0 (fSet 6 (fLst (fCons (fCall 6 [] R_aim (fCons (fVar 0) (fCons (fVar 1) (fCons (fVar 2) (fCons (fVar 3) (fCons (fVar 4) (fCons (fVar 5) fNil))))))) fNil))) (fSet 6 (fLst fNil)))
  (fRet (fVar 6))))
noncomputable def R__law_aimed : Fn := runB 7 B__law_aimed
noncomputable def B__law_least_right : Fs := (fSeq (fSet 6 (fCall 5 [] R_least_aim (fCons (fVar 0) (fCons (fVar 1) (fCons (fVar 2) (fCons (fVar 3) (fCons (fVar 4) fNil)))))))
  (fSeq (fSet 7 (fCB gTuple (fCons (fLc (fZ2 (fCons (fVar 1) (fCons (fVar 6) fNil))) (gTp 2 (gsCons (gNm 10) (gsCons (gNm 11) gsNil))) fYes (fCB gTuple (fCons (fLc (fZ2 (fCons (fVar 10) (fCons (fVar 11) fNil))) (gTp 2 (gsCons (gNm 8) (gsCons (gNm 9) gsNil))) fYes (fCall 2 [] R__law_plus (fCons (fVar 8) (fCons (fVar 9) fNil))) [8, 9]) fNil)) [10, 11]) fNil)))
  (fSeq (fIf (fTru (fOp2 (dEq true) (fCall 4 [] R__law_told_by (fCons (fVar 0) (fCons (fVar 7) (fCons (fVar 2) (fCons (fVar 3) fNil))))) (fVar 4))) (fRet (fC (.d (.bool false)))) fSkip)
  (fSeq (fSet 12 (fCall 2 [] R__law_less (fCons (fVar 4) (fCons (fCall 4 [] R__law_told_by (fCons (fVar 0) (fCons (fVar 1) (fCons (fVar 2) (fCons (fVar 3) fNil))))) fNil))))
  (fSeq (fSet 13 (fTup (fCons (fC (.d (.int 0))) (fCons (fC (.d (.int 1))) fNil))))
  (fSeq (fFor (fKeys (fVar 5)) (gNm 14) (fSet 13 (fCall 2 [] R__law_plus (fCons (fVar 13) (fCons (fCall 2 [] R__law_times (fCons (fOp2 gTget (fVar 5) (fVar 14)) (fCons (fOp2 gTget (fVar 5) (fVar 14)) fNil))) fNil)))))
  (fSeq (fSet 15 (fCall 2 [] R__law_over (fCons (fVar 12) (fCons (fVar 13) fNil))))
  (fRet (fOp2 (dEq false) (fLc (fKeys (fVar 5)) (gNm 14) (fTru (fOp2 (dEq true) (fOp2 gIx (fOp2 gIx (fVar 6) (fOp2 gIx (fVar 14) (fC (.d (.int 0))))) (fOp2 gIx (fVar 14) (fC (.d (.int 1))))) (fCall 2 [] R__law_times (fCons (fOp2 gTget (fVar 5) (fVar 14)) (fCons (fVar 15) fNil))))) (fVar 14) [14]) (fLst fNil))))))))))
noncomputable def R__law_least_right : Fn := runB 16 B__law_least_right
noncomputable def B_law : Fs := (fSeq (fFor (fEn (fCons (fOp2 gAdd (fSl (fVar 0) fNoP (fPart (fC (.d (.int 1))))) (fLst (fCons (fCB gSum (fCons (fVar 0) fNil)) fNil))) fNil)) (gTp 2 (gsCons (gNm 1) (gsCons (gNm 2) gsNil))) (fSeq (fSet 3 (fCall 2 [] R__law_draw (fCons (fVar 2) (fCons (fVar 1) fNil))))
  (fSeq (fSet 4 (fCall 2 [] R__law_touching (fCons (fVar 3) (fCons (fC (.d (.int 10))) fNil))))
  (fSeq (fPar 5 6 (fCons (fOp2 gIx (fVar 4) (fC (.d (.int 0)))) (fCons (fCall 1 [] R__law_mirror (fCons (fVar 4) fNil)) fNil)))
  (fSeq (fPar 7 8 (fCons (fCall 3 [] R__law_load (fCons (fVar 3) (fCons (fVar 5) (fCons (fC (.d (.int 3))) fNil)))) (fCons (fCall 3 [] R__law_load (fCons (fVar 3) (fCons (fVar 5) (fCons (fC (.d (.int 3))) fNil)))) fNil)))
  (fSeq (fPar 9 10 (fCons (fCB gRepr (fCons (fTup (fCons (fVar 4) (fCons (fVar 7) (fCons (fVar 8) fNil)))) fNil)) (fCons (fCall 2 [] R__law_digit (fCons (fVar 3) (fCons (fC (.d (.int 10))) fNil))) fNil)))
  (fSeq (fIf (fNot (fTru (fCall 2 [] R__law_named_right (fCons (fVar 4) (fCons (fVar 6) fNil))))) (fRet (fC (.d (.bool false)))) fSkip)
  (fSeq (fIf (fTru (fOp2 (dEq true) (fCB gRepr (fCons (fLst (fCons (fCall 2 [] R_turned (fCons (fVar 4) (fCons (fVar 7) fNil))) (fCons (fCall 2 [] R_turned (fCons (fVar 4) (fCons (fCall 2 [] R_turned (fCons (fVar 4) (fCons (fVar 7) fNil))) fNil))) fNil))) fNil)) (fCB gRepr (fCons (fLst (fCons (fCall 1 [] R__law_turned (fCons (fVar 7) fNil)) (fCons (fVar 7) fNil))) fNil)))) (fRet (fC (.d (.bool false)))) fSkip)
  (fSeq (fIf (fTru (fOp2 (dEq true) (fCB gRepr (fCons (fCall 3 [] R_paired (fCons (fVar 4) (fCons (fVar 7) (fCons (fVar 8) fNil)))) fNil)) (fCB gRepr (fCons (fCall 2 [] R__law_pairing (fCons (fCall 1 [] R__law_flat (fCons (fVar 7) fNil)) (fCons (fCall 1 [] R__law_flat (fCons (fVar 8) fNil)) fNil))) fNil)))) (fRet (fC (.d (.bool false)))) fSkip)
  (fSeq (fSet 11 (fCall 1 [] R__law_turned (fCons (fCall 3 [] R_behind (fCons (fVarD 6) (fCons (fCall 1 [] R__law_turned (fCons (fVar 8) fNil)) (fCons (fVar 10) fNil)))) fNil)))
  (fSeq (fSet 12 (fCall 3 [] R_paired (fCons (fVar 4) (fCons (fCall 3 [] R_behind (fCons (fVar 4) (fCons (fVar 7) (fCons (fVar 10) fNil)))) (fCons (fVar 8) fNil)))))
  (fSeq (fIf (fOr (fTru (fOp2 (dEq true) (fCB gRepr (fCons (fVar 12) fNil)) (fCB gRepr (fCons (fCall 3 [] R_paired (fCons (fVar 4) (fCons (fVar 7) (fCons (fVar 11) fNil)))) fNil)))) (fTru (fOp2 (dEq true) (fCB gRepr (fCons (fTup (fCons (fVar 4) (fCons (fVar 7) (fCons (fVar 8) fNil)))) fNil)) (fVar 9)))) (fRet (fC (.d (.bool false)))) fSkip)
  (fSeq (fPar 13 14 (fCons (fCall 2 [] R__law_digit (fCons (fVar 3) (fCons (fCB gLen (fCons (fVar 5) fNil)) fNil))) (fCons (fCall 2 [] R__law_digit (fCons (fVar 3) (fCons (fCB gLen (fCons (fVar 5) fNil)) fNil))) fNil)))
  (fSeq (fPar 15 16 (fCons (fCall 2 [] R__law_digit (fCons (fVar 3) (fCons (fOp2 gIx (fVar 5) (fVar 13)) fNil))) (fCons (fCall 2 [] R__law_digit (fCons (fVar 3) (fCons (fOp2 gIx (fVar 5) (fVar 14)) fNil))) fNil)))
  (fSeq (fSet 12 (fOp2 gIx (fOp2 gIx (fCall 3 [] R_behind (fCons (fVar 4) (fCons (fCall 2 [] R_one_at (fCons (fVar 4) (fCons (fTup (fCons (fVar 13) (fCons (fVar 15) fNil))) fNil))) (fCons (fVar 10) fNil)))) (fVar 14)) (fVar 16)))
  (fSeq (fSet 17 (fCall 3 [] R_behind (fCons (fVarD 6) (fCons (fCall 2 [] R_one_at (fCons (fVarD 6) (fCons (fTup (fCons (fVar 14) (fCons (fOp2 gMod (fOp2 gSub (fC (.d (.int 0))) (fVar 16)) (fOp2 gIx (fVar 5) (fVar 14))) fNil))) fNil))) (fCons (fVar 10) fNil)))))
  (fIf (fTru (fOp2 (dEq true) (fVar 12) (fOp2 gIx (fOp2 gIx (fVar 17) (fVar 13)) (fOp2 gMod (fOp2 gSub (fC (.d (.int 0))) (fVar 15)) (fOp2 gIx (fVar 5) (fVar 13)))))) (fRet (fC (.d (.bool false)))) fSkip)))))))))))))))))
  (fSeq (fAsg (gTp 2 (gsCons (gNm 18) (gsCons (gNm 19) gsNil))) (fTup (fCons (fTup (fCons (fTup (fCons (fC (.d (.int 3))) (fCons (fC (.d (.int 1))) (fCons (fC (.d (.int 2))) fNil)))) (fCons (fTup fNil) fNil))) (fCons (fTup (fCons (fTup (fCons (fTup (fCons (fC (.d (.int 1))) (fCons (fC (.d (.int 1))) fNil))) (fCons (fTup (fCons (fC (.d (.int 2))) (fCons (fC (.d (.int 1))) fNil))) (fCons (fTup (fCons (fC (.d (.int 3))) (fCons (fC (.d (.int 1))) fNil))) fNil)))) (fCons (fTup (fCons (fTup (fCons (fC (.d (.int 4))) (fCons (fC (.d (.int 1))) fNil))) fNil)) (fCons (fTup (fCons (fTup (fCons (fC (.d (.int 5))) (fCons (fC (.d (.int 1))) fNil))) (fCons (fTup (fCons (fC (.d (.int 6))) (fCons (fC (.d (.int 1))) fNil))) fNil))) fNil)))) fNil))))
  (fSeq (fSet 17 (fTup (fCons (fTup (fCons (fTup (fCons (fC (.d (.int 1))) (fCons (fC (.d (.int 1))) fNil))) (fCons (fTup (fCons (fC (.d (.int 3))) (fCons (fC (.d (.int 1))) fNil))) (fCons (fTup (fCons (fC (.d (.int 2))) (fCons (fC (.d (.int 1))) fNil))) fNil)))) (fCons (fTup (fCons (fTup (fCons (fC (.d (.int 4))) (fCons (fC (.d (.int 1))) fNil))) fNil)) (fCons (fTup (fCons (fTup (fCons (fC (.d (.int 5))) (fCons (fC (.d (.int 1))) fNil))) (fCons (fTup (fCons (fC (.d (.int 6))) (fCons (fC (.d (.int 1))) fNil))) fNil))) fNil)))))
  (fRet (fAndE (fOp2 (dEq false) (fCall 1 [] R_mirror (fCons (fVar 18) fNil)) (fVar 18)) (fOp2 (dEq false) (fCall 2 [] R_turned (fCons (fVar 18) (fCons (fVar 19) fNil))) (fVar 17)))))))
noncomputable def R_law : Fn := runB 20 B_law
end G
set_option Elab.async false
set_option linter.all false
set_option maxRecDepth 100000
set_option maxHeartbeats 4000000
/-! M1: what the functions of fractions tell -/
namespace G
open PySem PySem.Spec L2 PyProof.Rows
set_option autoImplicit false
/-! ### stepping -/
@[simp] theorem st_seq (f g : Fs) (ρ : Slt) (S : Sto) : fSeq f g ρ S = match f ρ S with | .nx ρ1 S1 => g ρ1 S1 | r => r := id rfl
@[simp] theorem st_ret (f : Fe W) (ρ : Slt) (S : Sto) : fRet f ρ S = (f ρ S).fl ρ fun x S1 => .rt x S1 := id rfl
@[simp] theorem st_set (i : Nat) (f : Fe W) (ρ : Slt) (S : Sto) : fSet i f ρ S = (f ρ S).fl ρ fun x S1 => .nx (ρ.set i (some x)) S1 := id rfl
@[simp] theorem st_exp (f : Fe W) (ρ : Slt) (S : Sto) : fExp f ρ S = (f ρ S).fl ρ fun _ S1 => .nx ρ S1 := id rfl
@[simp] theorem st_if (c : Fe Bool) (f g : Fs) (ρ : Slt) (S : Sto) : fIf c f g ρ S = (c ρ S).fl ρ fun b S1 => if b = true then f ρ S1 else g ρ S1 := id rfl
@[simp] theorem st_skip (ρ : Slt) (S : Sto) : fSkip ρ S = .nx ρ S := id rfl
@[simp] theorem st_bad (ρ : Slt) (S : Sto) : fBad ρ S = .bad := id rfl
@[simp] theorem st_retN (ρ : Slt) (S : Sto) : fRetN ρ S = .rt (.d .none) S := id rfl
@[simp] theorem st_par (i j : Nat) (f : Fe (List W)) (ρ : Slt) (S : Sto) : fPar i j f ρ S = (f ρ S).fl ρ fun xs S1 => match xs with | [x, y] => .nx ((ρ.set i (some x)).set j (some y)) S1 | _ => .bad := id rfl
@[simp] theorem st_par3 (i j l : Nat) (f : Fe (List W)) (ρ : Slt) (S : Sto) : fPar3 i j l f ρ S = (f ρ S).fl ρ fun xs S1 => match xs with | [x, y, z] => .nx (((ρ.set i (some x)).set j (some y)).set l (some z)) S1 | _ => .bad := id rfl
@[simp] theorem st_asg (g : Gt) (f : Fe W) (ρ : Slt) (S : Sto) : fAsg g f ρ S = (f ρ S).fl ρ fun x S1 => match g x ρ S1 with | some ρ1 => .nx ρ1 S1 | none => .bad := id rfl
@[simp] theorem st_for (f : Fe (List PyData)) (g : Gt) (b : Fs) (ρ : Slt) (S : Sto) : fFor f g b ρ S = (f ρ S).fl ρ fun ds S1 => forD g b ds ρ S1 := id rfl
@[simp] theorem ev_var (i : Nat) (ρ : Slt) (S : Sto) : fVar i ρ S = match ρ[i]? with | some (some x) => .ok x S | _ => .bad := id rfl
@[simp] theorem ev_c (x : W) (ρ : Slt) (S : Sto) : fC x ρ S = .ok x S := id rfl
@[simp] theorem ev_nil (ρ : Slt) (S : Sto) : fNil ρ S = .ok [] S := id rfl
@[simp] theorem ev_cons (f : Fe W) (g : Fe (List W)) (ρ : Slt) (S : Sto) : fCons f g ρ S = (f ρ S).bind fun x S1 => (g ρ S1).bind fun xs S2 => .ok (x :: xs) S2 := id rfl
@[simp] theorem ev_op2 (g : Op2) (f h : Fe W) (ρ : Slt) (S : Sto) : fOp2 g f h ρ S = (f ρ S).bind fun x S1 => (h ρ S1).bind fun y S2 => ofO (g x y S2) := id rfl
@[simp] theorem ev_call (n : Nat) (dws : List PyData) (F : Fn) (f : Fe (List W)) (ρ : Slt) (S : Sto) : fCall n dws F f ρ S = (f ρ S).bind fun xs S1 => if xs.length = n then F (xs ++ ofD dws) S1 else .bad := id rfl
theorem ev_cb (g : OpN) (f : Fe (List W)) (ρ : Slt) (S : Sto) : fCB g f ρ S = (f ρ S).bind fun xs S1 => ofO (g xs S1) := id rfl
@[simp] theorem ev_len (f : Fe (List W)) (ρ : Slt) (S : Sto) : fCB gLen f ρ S = (f ρ S).bind fun xs S1 => ofO (gLen xs S1) := id rfl
@[simp] theorem ev_abs (f : Fe (List W)) (ρ : Slt) (S : Sto) : fCB gAbs f ρ S = (f ρ S).bind fun xs S1 => ofO (gAbs xs S1) := id rfl
@[simp] theorem ev_sum (f : Fe (List W)) (ρ : Slt) (S : Sto) : fCB gSum f ρ S = (f ρ S).bind fun xs S1 => ofO (gSum xs S1) := id rfl
@[simp] theorem ev_int (f : Fe (List W)) (ρ : Slt) (S : Sto) : fCB gInt1 f ρ S = (f ρ S).bind fun xs S1 => ofO (gInt1 xs S1) := id rfl
@[simp] theorem ev_sort (f : Fe (List W)) (ρ : Slt) (S : Sto) : fCB gSort f ρ S = (f ρ S).bind fun xs S1 => ofO (gSort xs S1) := id rfl
@[simp] theorem ev_list (f : Fe (List W)) (ρ : Slt) (S : Sto) : fCB gList f ρ S = (f ρ S).bind fun xs S1 => ofO (gList xs S1) := id rfl
@[simp] theorem ev_mm (k : PyData → List PyData → PyData) (n : Nat) (f : Fe (List W)) (ρ : Slt) (S : Sto) : fCB (gMM k n) f ρ S = (f ρ S).bind fun xs S1 => ofO (gMM k n xs S1) := id rfl
@[simp] theorem ev_tru (f : Fe W) (ρ : Slt) (S : Sto) : fTru f ρ S = (f ρ S).bind fun x S1 => ofO ((truth x).map fun b => (b, S1)) := id rfl
@[simp] theorem ev_not (f : Fe Bool) (ρ : Slt) (S : Sto) : fNot f ρ S = (f ρ S).bind fun b S1 => .ok (!b) S1 := id rfl
@[simp] theorem ev_and (f g : Fe Bool) (ρ : Slt) (S : Sto) : fAnd f g ρ S = (f ρ S).bind fun b S1 => if b = true then g ρ S1 else .ok false S1 := id rfl
@[simp] theorem ev_or (f g : Fe Bool) (ρ : Slt) (S : Sto) : fOr f g ρ S = (f ρ S).bind fun b S1 => if b = true then .ok true S1 else g ρ S1 := id rfl
@[simp] theorem ev_ife (t : Fe Bool) (f g : Fe W) (ρ : Slt) (S : Sto) : fIfE t f g ρ S = (t ρ S).bind fun b S1 => if b = true then f ρ S1 else g ρ S1 := id rfl
@[simp] theorem ofD_nil : ofD [] = [] := id rfl
@[simp] theorem truth_b (b : Bool) : truth (.d (.bool b)) = some b := id rfl
@[simp] theorem add_int (i j : Int) (S : Sto) : gAdd (.d (.int i)) (.d (.int j)) S = some (.d (.int (i + j)), S) := id rfl
@[simp] theorem sub_int (i j : Int) (S : Sto) : gInt (fun i j => .int (i - j)) (.d (.int i)) (.d (.int j)) S = some (.d (.int (i - j)), S) := id rfl
theorem mul_int {i j : Int} (h : mulOk i j = true) (S : Sto) : gMulT (.d (.int i)) (.d (.int j)) S = some (.d (.int (i * j)), S) := by
  show (if mulOk i j = true then _ else _) = _
  rw [if_pos h]
theorem mod_int {i j : Int} (h : 0 < j) (S : Sto) : gMod (.d (.int i)) (.d (.int j)) S = some (.d (.int (i % j)), S) := by
  show (if 0 < j then _ else _) = _
  rw [if_pos h]
theorem div_int {i j : Int} (h : 0 < j) (h2 : j.natAbs < mid) (S : Sto) : gDiv (.d (.int i)) (.d (.int j)) S = some (.d (.int (i / j)), S) := by
  show (if divOk j = true then _ else _) = _
  have : divOk j = true := decide_eq_true ⟨h, h2⟩
  rw [if_pos this]
theorem dEq_d {a b : PyData} (neg : Bool) (ha : SeqAt.shaped a = true) (hb : SeqAt.shaped b = true) (S : Sto) : dEq neg (.d a) (.d b) S = some (.d (.bool (if neg = true then !PyData.eqv a b else PyData.eqv a b)), S) := by
  unfold dEq
  simp only [view_d]
  rw [if_pos (by rw [ha, hb]; rfl)]
theorem sh_int (i : Int) : SeqAt.shaped (.int i) = true := rfl
@[simp] theorem ne_int (i j : Int) (S : Sto) : dEq true (.d (.int i)) (.d (.int j)) S = some (.d (.bool (!decide (i = j))), S) := by
  rw [dEq_d true (sh_int i) (sh_int j)]
  simp [PyData.eqv]
  rfl
@[simp] theorem eq_int (i j : Int) (S : Sto) : dEq false (.d (.int i)) (.d (.int j)) S = some (.d (.bool (decide (i = j))), S) := by
  rw [dEq_d false (sh_int i) (sh_int j)]
  simp [PyData.eqv]
  rfl
theorem gLt_int (k : PyData → PyData → Bool) (i j : Int) (S : Sto) : gLt k (.d (.int i)) (.d (.int j)) S = some (.d (.bool (k (.int i) (.int j))), S) := by
  unfold gLt
  simp [PySem.W.alike, PyData.depth]
@[simp] theorem lt_int' (i j : Int) (S : Sto) : cLt (.d (.int i)) (.d (.int j)) S = some (.d (.bool (decide (i < j))), S) := by
  rw [cLt, gLt_int, PySem.W.dataLt_int]
@[simp] theorem gt_int' (i j : Int) (S : Sto) : cGt (.d (.int i)) (.d (.int j)) S = some (.d (.bool (decide (j < i))), S) := by
  rw [cGt, gLt_int, PySem.W.dataLt_int]
@[simp] theorem le_int' (i j : Int) (S : Sto) : cLe (.d (.int i)) (.d (.int j)) S = some (.d (.bool (decide (i ≤ j))), S) := by
  rw [cLe, gLt_int, PySem.W.dataLt_int]
  congr 4
  rw [← decide_not, decide_eq_decide]
  omega
@[simp] theorem ge_int' (i j : Int) (S : Sto) : cGe (.d (.int i)) (.d (.int j)) S = some (.d (.bool (decide (j ≤ i))), S) := by
  rw [cGe, gLt_int, PySem.W.dataLt_int]
  congr 4
  rw [← decide_not, decide_eq_decide]
  omega
@[simp] theorem abs_int (i : Int) (S : Sto) : gAbs [.d (.int i)] S = some (.d (.int (if i < 0 then -i else i)), S) := id rfl
theorem abs_nat (i : Int) : (if i < 0 then -i else i) = ((i.natAbs : Nat) : Int) := by split <;> omega
/-! ### common -/
theorem common_wh (a : Nat) : ∀ (n b a : Nat) (S : Sto) (i j : Nat) (ρ : Slt), b < n → i ≠ j → i < ρ.length → j < ρ.length → ρ[i]? = some (some (.d (.int a))) → ρ[j]? = some (some (.d (.int b))) →
    whD (fTru (fOp2 (dEq true) (fVar j) (fC (.d (.int 0))))) (fPar i j (fCons (fVar j) (fCons (fOp2 gMod (fVar i) (fVar j)) fNil))) n ρ S = .nx ((ρ.set i (some (.d (.int (Nat.gcd a b))))).set j (some (.d (.int 0)))) S
  | 0, b, a, S, i, j, ρ, h, _, _, _, _, _ => by omega
  | n + 1, b, a, S, i, j, ρ, h, hij, hi, hj, ei, ej => by
    unfold whD
    by_cases hb : b = 0
    · subst hb
      simp [ej]
      have e1 : ρ.set i (some (W.d (PyData.int (a : Int)))) = ρ := by
        apply List.ext_getElem?; intro k
        by_cases hk : i = k
        · subst hk; rw [List.getElem?_set_self hi, ei]
        · rw [List.getElem?_set_ne hk]
      have e2 : ρ.set j (some (W.d (PyData.int 0))) = ρ := by
        apply List.ext_getElem?; intro k
        by_cases hk : j = k
        · subst hk; rw [List.getElem?_set_self hj, ej]; rfl
        · rw [List.getElem?_set_ne hk]
      rw [e1, e2]
    · have hb' : (0 : Int) < (b : Int) := by omega
      have hz : ¬ ((b : Int) = 0) := by omega
      simp [ej, ei, mod_int hb', hb, hz]
      have := common_wh a n (a % b) b S i j ((ρ.set i (some (.d (.int b)))).set j (some (.d (.int ((a % b : Nat) : Int))))) (by have := Nat.mod_lt a (Nat.pos_of_ne_zero hb); omega) hij (by simpa using hi) (by simpa using hj)
        (by rw [List.getElem?_set_ne (Ne.symm hij), List.getElem?_set_self hi]) (by rw [List.getElem?_set_self (by simpa using hj)])
      have e3 : ((a : Int) % (b : Int)) = ((a % b : Nat) : Int) := by omega
      rw [e3, this]
      congr 1
      have c1 : ∀ (l : Slt) (x y z : Option W), ((l.set i x).set j y).set i z = (l.set i z).set j y := fun l x y z => by rw [List.set_comm y z (Ne.symm hij), List.set_set]
      rw [c1, List.set_set, Nat.gcd_comm a b, Nat.gcd_rec b a, Nat.gcd_comm b (a % b)]
theorem common_fW (a b : Nat) (S : Sto) (i j : Nat) (ρ : Slt) (hij : i ≠ j) (hi : i < ρ.length) (hj : j < ρ.length) (ei : ρ[i]? = some (some (.d (.int a)))) (ej : ρ[j]? = some (some (.d (.int b)))) :
    fWh (fTru (fOp2 (dEq true) (fVar j) (fC (.d (.int 0))))) (fPar i j (fCons (fVar j) (fCons (fOp2 gMod (fVar i) (fVar j)) fNil))) ρ S = .nx ((ρ.set i (some (.d (.int (Nat.gcd a b))))).set j (some (.d (.int 0)))) S := by
  have e := common_wh 0 (b + 1) b a S i j ρ (Nat.lt_succ_self b) hij hi hj ei ej
  rw [fWh_eq (n := b + 1) (by rw [e]; intro z; cases z), e]
@[simp] theorem r_common (a b : Int) (S : Sto) : R_common [.d (.int a), .d (.int b)] S = .ok (.d (.int (Int.gcd a b))) S := by
  unfold R_common runB B_common
  simp [startR, abs_nat]
  rw [common_fW a.natAbs b.natAbs S 0 1 _ (by decide) (by simp) (by simp) rfl rfl]
  simp [Int.gcd]
end G
set_option Elab.async false
set_option linter.all false
set_option maxRecDepth 100000
set_option maxHeartbeats 4000000
/-! M2: fractions -/
namespace G
open PySem PySem.Spec L2 PyProof.Rows
set_option autoImplicit false
theorem lt_mid {n : Nat} (h : n < 2 ^ 7000) : n < mid := by
  unfold mid
  exact Nat.lt_of_lt_of_le h (Nat.pow_le_pow_right (by decide) (by decide))
theorem lt_big {n : Nat} (h : n < 2 ^ 7000) : n < big := by
  unfold big
  exact Nat.lt_of_lt_of_le h (Nat.pow_le_pow_right (by decide) (by decide))
theorem mulOk_of {i j : Int} (hi : i.natAbs < 2 ^ 7000) (hj : j.natAbs < 2 ^ 7000) : mulOk i j = true := by
  unfold mulOk smal
  simp [lt_big hi, lt_big hj]
def fr (q : Rat) : PyData := .tuple [.int q.num, .int q.den]
/-- small fractions -/
def Sm (n : Nat) (q : Rat) : Prop := q.num.natAbs < 2 ^ n ∧ q.den < 2 ^ n
theorem rat_eq (p : Rat) : (p.num : Rat) / (p.den : Rat) = p := by
  have h := Rat.mkRat_self p
  rw [Rat.mkRat_eq_div] at h
  exact_mod_cast h
theorem den_pos (p : Rat) : (0 : Int) < (p.den : Int) := by have := p.den_pos; omega
theorem den_ne (p : Rat) : (p.den : Rat) ≠ 0 := by
  intro h
  have h1 := p.den_nz
  exact h1 (by exact_mod_cast h)
@[simp] theorem ix_two0 (a b : PyData) (S : Sto) : gIx (.d (.tuple [a, b])) (.d (.int 0)) S = some (.d a, S) := id rfl
@[simp] theorem ix_two1 (a b : PyData) (S : Sto) : gIx (.d (.tuple [a, b])) (.d (.int 1)) S = some (.d b, S) := id rfl
@[simp] theorem fTup_d2 (f g : Fe W) (ρ : Slt) (S : Sto) : fTup (fCons f (fCons g fNil)) ρ S = (f ρ S).bind fun x S1 => (g ρ S1).bind fun y S2 => match fzT [x, y] S2 with | some (d, S2) => .ok (.d d) S2 | none => .bad := by
  unfold fTup
  simp only [ev_cons, ev_nil, Out.bind]
  cases f ρ S with
  | ok x S1 => simp only []; cases g ρ S1 <;> rfl
  | ex e S1 => rfl
  | bad => rfl
@[simp] theorem fzT_d2 (a b : PyData) (S : Sto) : fzT [.d a, .d b] S = some (.tuple [a, b], S) := by
  unfold fzT frzL frzL frzL
  simp only [frz_d]
  rfl
theorem low_eq {t b : Int} (hb : 0 < b) : fr (Rat.divInt t b) = .tuple [.int (t / (Int.gcd t b : Nat)), .int (b / (Int.gcd t b : Nat))] := by
  unfold fr
  rw [Rat.num_divInt, Rat.den_divInt]
  have h1 : b.sign = 1 := Int.sign_eq_one_of_pos hb
  have h2 : ¬ b = 0 := by omega
  rw [h1, if_neg h2, Int.one_mul, Int.gcd_comm b t]
  have h3 : b = (b.natAbs : Int) := by omega
  congr 4
  rw [Int.natCast_ediv, Int.natAbs_of_nonneg (by omega)]
theorem gcd_lt {t b : Int} (hb : 0 < b) (hs : b.natAbs < 2 ^ 7000) : 0 < ((Int.gcd t b : Nat) : Int) ∧ (((Int.gcd t b : Nat) : Int)).natAbs < mid := by
  have h1 : 0 < Int.gcd t b := Int.gcd_pos_of_ne_zero_right _ (by omega)
  have h2 : Int.gcd t b ≤ b.natAbs := Nat.le_of_dvd (by omega) (Int.gcd_dvd_natAbs_right t b)
  refine ⟨by omega, ?_⟩
  rw [Int.natAbs_natCast]
  exact lt_mid (by omega)
theorem r_lowest {t b : Int} (hb : 0 < b) (hs : b.natAbs < 2 ^ 7000) (S : Sto) : R_lowest [.d (.int t), .d (.int b)] S = .ok (.d (fr (Rat.divInt t b))) S := by
  unfold R_lowest runB B_lowest
  have hg := gcd_lt (t := t) hb hs
  simp [startR, hb, div_int hg.1 hg.2, low_eq hb]
theorem r__law_lowest {t b : Int} (hb : 0 < b) (hs : b.natAbs < 2 ^ 7000) (S : Sto) : R__law_lowest [.d (.int t), .d (.int b)] S = .ok (.d (fr (Rat.divInt t b))) S := by
  unfold R__law_lowest runB B__law_lowest
  have hg := gcd_lt (t := t) hb hs
  have hbn : b = ((b.natAbs : Nat) : Int) := by omega
  simp [startR, abs_nat]
  rw [common_fW t.natAbs b.natAbs S 2 3 _ (by decide) (by simp) (by simp) rfl (by rw [← hbn]; rfl)]
  have e : ((t.natAbs.gcd b.natAbs : Nat) : Int) = ((Int.gcd t b : Nat) : Int) := rfl
  simp [e, div_int hg.1 hg.2, low_eq hb]
/-! ### sums and products -/
theorem add_div (p q : Rat) : Rat.divInt (p.num * q.den + q.num * p.den) (p.den * q.den) = p + q := by
  have h1 := rat_eq p
  have h2 := rat_eq q
  have h3 := den_ne p
  have h4 := den_ne q
  rw [Rat.divInt_eq_div]
  push_cast
  grind
theorem sub_div (p q : Rat) : Rat.divInt (p.num * q.den - q.num * p.den) (p.den * q.den) = p - q := by
  have h1 := rat_eq p
  have h2 := rat_eq q
  have h3 := den_ne p
  have h4 := den_ne q
  rw [Rat.divInt_eq_div]
  push_cast
  grind
theorem mul_div (p q : Rat) : Rat.divInt (p.num * q.num) (p.den * q.den) = p * q := by
  have h1 := rat_eq p
  have h2 := rat_eq q
  have h3 := den_ne p
  have h4 := den_ne q
  rw [Rat.divInt_eq_div]
  push_cast
  grind
theorem half_div (p : Rat) : Rat.divInt p.num (2 * p.den) = p / 2 := by
  have h1 := rat_eq p
  have h3 := den_ne p
  rw [Rat.divInt_eq_div]
  push_cast
  grind
theorem pow_mul_lt {a b n m k : Nat} (ha : a < 2 ^ n) (hb : b < 2 ^ m) (h : n + m ≤ k) : a * b < 2 ^ k := by
  have h1 : a * b < 2 ^ n * 2 ^ m := by
    rcases Nat.eq_zero_or_pos b with hz | hz
    · subst hz
      have := Nat.pow_pos (n := n) (show 0 < 2 by decide)
      have := Nat.pow_pos (n := m) (show 0 < 2 by decide)
      have := Nat.mul_pos (Nat.pow_pos (n := n) (show 0 < 2 by decide)) (Nat.pow_pos (n := m) (show 0 < 2 by decide))
      omega
    · exact Nat.mul_lt_mul_of_lt_of_le ha (Nat.le_of_lt hb) (Nat.pow_pos (by decide))
  rw [← Nat.pow_add] at h1
  exact Nat.lt_of_lt_of_le h1 (Nat.pow_le_pow_right (by decide) h)
theorem Sm.mono {n m : Nat} {q : Rat} (h : Sm n q) (l : n ≤ m) : Sm m q := ⟨Nat.lt_of_lt_of_le h.1 (Nat.pow_le_pow_right (by decide) l), Nat.lt_of_lt_of_le h.2 (Nat.pow_le_pow_right (by decide) l)⟩
section
variable {n m : Nat} {p q : Rat}
theorem sm_nd (hp : Sm n p) (hl : n ≤ 3000) : p.num.natAbs < 2 ^ 7000 ∧ ((p.den : Nat) : Int).natAbs < 2 ^ 7000 := by
  have h := hp.mono (m := 7000) (by omega)
  exact ⟨h.1, by rw [Int.natAbs_natCast]; exact h.2⟩
theorem sm_dd (hp : Sm n p) (hq : Sm m q) (hl : n ≤ 3000) (hm : m ≤ 3000) : ((p.den : Int) * (q.den : Int)).natAbs < 2 ^ 7000 := by
  rw [Int.natAbs_mul, Int.natAbs_natCast, Int.natAbs_natCast]
  exact pow_mul_lt hp.2 hq.2 (by omega)
theorem dd_pos (p q : Rat) : 0 < (p.den : Int) * (q.den : Int) := Int.mul_pos (den_pos p) (den_pos q)
theorem mo_nd (hp : Sm n p) (hq : Sm m q) (hl : n ≤ 3000) (hm : m ≤ 3000) : mulOk p.num q.den = true := mulOk_of (sm_nd hp hl).1 (sm_nd hq hm).2
theorem mo_dd (hp : Sm n p) (hq : Sm m q) (hl : n ≤ 3000) (hm : m ≤ 3000) : mulOk p.den q.den = true := mulOk_of (sm_nd hp hl).2 (sm_nd hq hm).2
theorem mo_nn (hp : Sm n p) (hq : Sm m q) (hl : n ≤ 3000) (hm : m ≤ 3000) : mulOk p.num q.num = true := mulOk_of (sm_nd hp hl).1 (sm_nd hq hm).1
theorem r_plus (hp : Sm n p) (hq : Sm m q) (S : Sto) (hl : n ≤ 3000 := by omega) (hm : m ≤ 3000 := by omega) : R_plus [.d (fr p), .d (fr q)] S = .ok (.d (fr (p + q))) S := by
  unfold R_plus runB B_plus fr
  simp [startR, mul_int (mo_nd hp hq hl hm), mul_int (mo_nd hq hp hm hl), mul_int (mo_dd hp hq hl hm)]
  rw [r_lowest (dd_pos p q) (sm_dd hp hq hl hm), add_div]
  rfl
theorem r_less (hp : Sm n p) (hq : Sm m q) (S : Sto) (hl : n ≤ 3000 := by omega) (hm : m ≤ 3000 := by omega) : R_less [.d (fr p), .d (fr q)] S = .ok (.d (fr (p - q))) S := by
  unfold R_less runB B_less fr
  simp [startR, mul_int (mo_nd hp hq hl hm), mul_int (mo_nd hq hp hm hl), mul_int (mo_dd hp hq hl hm)]
  rw [r_lowest (dd_pos p q) (sm_dd hp hq hl hm), sub_div]
  rfl
theorem r_times (hp : Sm n p) (hq : Sm m q) (S : Sto) (hl : n ≤ 3000 := by omega) (hm : m ≤ 3000 := by omega) : R_times [.d (fr p), .d (fr q)] S = .ok (.d (fr (p * q))) S := by
  unfold R_times runB B_times fr
  simp [startR, mul_int (mo_nn hp hq hl hm), mul_int (mo_dd hp hq hl hm)]
  rw [r_lowest (dd_pos p q) (sm_dd hp hq hl hm), mul_div]
  rfl
theorem two_small : (2 : Int).natAbs < 2 ^ 7000 := Nat.lt_of_lt_of_le (show 2 < 2 ^ 2 by decide) (Nat.pow_le_pow_right (by decide) (by decide))
theorem half_b (hp : Sm n p) (hl : n ≤ 3000) : 0 < 2 * (p.den : Int) ∧ (2 * (p.den : Int)).natAbs < 2 ^ 7000 := by
  refine ⟨by have := den_pos p; omega, ?_⟩
  rw [Int.natAbs_mul, Int.natAbs_natCast]
  exact pow_mul_lt (n := 2) (m := n) (by decide) hp.2 (by omega)
theorem r_half (hp : Sm n p) (S : Sto) (hl : n ≤ 3000 := by omega) : R_half [.d (fr p)] S = .ok (.d (fr (p / 2))) S := by
  unfold R_half runB B_half fr
  simp [startR, mul_int (mulOk_of two_small (sm_nd hp hl).2)]
  rw [r_lowest (half_b hp hl).1 (half_b hp hl).2, half_div]
  rfl
theorem r__law_plus (hp : Sm n p) (hq : Sm m q) (S : Sto) (hl : n ≤ 3000 := by omega) (hm : m ≤ 3000 := by omega) : R__law_plus [.d (fr p), .d (fr q)] S = .ok (.d (fr (p + q))) S := by
  unfold R__law_plus runB B__law_plus fr
  simp [startR, mul_int (mo_nd hp hq hl hm), mul_int (mo_nd hq hp hm hl), mul_int (mo_dd hp hq hl hm)]
  rw [r__law_lowest (dd_pos p q) (sm_dd hp hq hl hm), add_div]
  rfl
end
/-! ### sizes by a common bottom and a bound -/
/-- the bottom divides D, the worth is at most M -/
structure Bd (D : Nat) (M : Nat) (q : Rat) : Prop where
  dv : q.den ∣ D
  le : q ≤ M
  ge : -(M : Rat) ≤ q
theorem isW_int (S : Sto) (i : Int) : R_is_whole [.d (.int i)] S = .ok (.d (.bool true)) S := by
  unfold R_is_whole runB B_is_whole
  simp [startR, fAndE, fIsi, fNotE, kdOf, kdD, isK]
end G
set_option Elab.async false
set_option linter.all false
set_option maxRecDepth 100000
set_option maxHeartbeats 4000000
/-! M3: comprehensions and loops, evaluated -/
namespace G
open PySem PySem.Spec L2 PyProof.Rows
set_option autoImplicit false
/-- gives x, and only new cells -/
def Pu {α : Type} (r : Out α) (S : Sto) (x : α) : Prop := ∃ T, r = .ok x (S ++ T)
theorem Pu.of {α : Type} {r : Out α} {S : Sto} {x : α} (h : r = .ok x S) : Pu r S x := ⟨[], by rw [h, List.append_nil]⟩
@[simp] theorem set_len_app (S : Sto) (c d : Cell) (T : Sto) : (S ++ c :: T).set S.length d = S ++ d :: T := by
  rw [List.set_append_right _ _ (Nat.le_refl _)]; simp
@[simp] theorem get_len_app (S : Sto) (c : Cell) (T : Sto) : (S ++ c :: T)[S.length]? = some c := by simp
theorem compD_ok {α : Type} {mk : α → PyData} {g : Gt} {e : Fe W} {n : Nat} {ρ : Slt} {yf : α → W} : ∀ (ds : List α) (acc : List W) (S T0 : Sto),
    (∀ d ∈ ds, ∃ ρ1, (∀ S, g (.d (mk d)) ρ S = some ρ1) ∧ ∀ S, Pu (e ρ1 S) S (yf d)) → acc.length + ds.length ≤ 1000000 → n = S.length → ∃ T', compD g fYes e n (ds.map mk) ρ (S ++ .lst acc :: T0) = .ok () (S ++ .lst (acc ++ ds.map yf) :: T')
  | [], acc, S, T0, h, hz, hn => ⟨T0, by simp [compD]⟩
  | d :: ds, acc, S, T0, h, hz, hn => by
    obtain ⟨ρ1, h1, h2⟩ := h d (by simp)
    obtain ⟨T1, e1⟩ := h2 (S ++ .lst acc :: T0)
    subst hn
    rw [List.map_cons]
    unfold compD
    rw [h1]
    simp only [fYes, bind_ok, if_true, e1, List.append_assoc, List.cons_append, get_len_app, set_len_app]
    rw [if_pos (by unfold szOk; simp at hz ⊢; omega)]
    obtain ⟨T', e'⟩ := compD_ok ds (acc ++ [yf d]) S (T0 ++ T1) (fun d hd => h d (by simp [hd])) (by simp at hz ⊢; omega) rfl
    exact ⟨T', by rw [e']; simp⟩
theorem fLc_ok {α : Type} {mk : α → PyData} {f : Fe (List PyData)} {g : Gt} {e : Fe W} {vs : List Nat} {ρ : Slt} {S T0 : Sto} {ds : List α} (yf : α → W) (hf : f ρ S = .ok (ds.map mk) (S ++ T0)) (hz : ds.length ≤ 1000000)
    (h : ∀ d ∈ ds, ∃ ρ1, (∀ S, g (.d (mk d)) (wipeR ρ vs) S = some ρ1) ∧ ∀ S, Pu (e ρ1 S) S (yf d)) : ∃ T, fLc f g fYes e vs ρ S = .ok (.o (S ++ T0).length) (S ++ T0 ++ .lst (ds.map yf) :: T) := by
  unfold fLc
  rw [hf]
  obtain ⟨T, e1⟩ := compD_ok (n := (S ++ T0).length) ds [] (S ++ T0) [] h (by simpa using hz) rfl
  rw [List.nil_append] at e1
  refine ⟨T, ?_⟩
  simp only [bind_ok, e1, noX_ok]
theorem frzL_ds : ∀ (k : Nat) (ds : List PyData) (S : Sto), frzL (frz k) (ds.map W.d) S = some (ds, S)
  | _, [], S => rfl
  | k, d :: ds, S => by
    unfold frzL
    simp only [List.map_cons, frz_d]
    show (match frzL (frz k) (ds.map W.d) S with | some (ds_1, S2) => some (d :: ds_1, S2) | none => none) = _
    rw [frzL_ds k ds S]
/-- tuple of a list of data -/
theorem gTuple_o {n : Nat} {S : Sto} {ds : List PyData} (h : S[n]? = some (.lst (ds.map W.d))) : gTuple [.o n] S = some (.d (.tuple ds), S) := by
  show (match lstOf (.o n) S with | some ws => (match frzL (frz 6) ws S with | some (ds, S2) => some (W.d (.tuple ds), S2) | none => none) | none => none) = _
  have : lstOf (.o n) S = some (ds.map W.d) := by
    unfold lstOf
    simp only [h]
  rw [this]
  simp only [frzL_ds]
theorem tupLc {α : Type} {f : Fe (List PyData)} {g : Gt} {e : Fe W} {vs : List Nat} {ρ : Slt} {S : Sto} (ds : List α) (mk : α → PyData) (y : α → PyData) (hf : Pu (f ρ S) S (ds.map mk)) (hz : ds.length ≤ 1000000)
    (h : ∀ d ∈ ds, ∃ ρ1, (∀ S, g (.d (mk d)) (wipeR ρ vs) S = some ρ1) ∧ ∀ S, Pu (e ρ1 S) S (.d (y d))) : Pu (fCB gTuple (fCons (fLc f g fYes e vs) fNil) ρ S) S (.d (.tuple (ds.map y))) := by
  obtain ⟨T0, hf⟩ := hf
  obtain ⟨T, e1⟩ := fLc_ok (fun d => .d (y d)) hf hz h
  refine ⟨T0 ++ .lst (ds.map fun d => .d (y d)) :: T, ?_⟩
  simp only [ev_cb, ev_cons, ev_nil, e1, bind_ok]
  rw [gTuple_o (ds := ds.map y) (by rw [get_len_app]; simp [List.map_map, Function.comp_def])]
  simp
theorem blsOf_map : ∀ (bs : List Bool), blsOf (bs.map fun b => W.d (.bool b)) = some bs
  | [] => rfl
  | b :: bs => by
    show (match blsOf (bs.map fun b => W.d (.bool b)) with | some l => some (b :: l) | none => none) = _
    rw [blsOf_map bs]
theorem gAll_o {F : List Bool → Bool} {n : Nat} {S : Sto} {bs : List Bool} (h : S[n]? = some (.lst (bs.map fun b => W.d (.bool b)))) : gAll F [.o n] S = some (.d (.bool (F bs)), S) := by
  unfold gAll lstOf
  simp only [h, blsOf_map]
theorem allLc {α : Type} {F : List Bool → Bool} {f : Fe (List PyData)} {g : Gt} {e : Fe W} {vs : List Nat} {ρ : Slt} {S : Sto} (ds : List α) (mk : α → PyData) (y : α → Bool) (hf : Pu (f ρ S) S (ds.map mk)) (hz : ds.length ≤ 1000000)
    (h : ∀ d ∈ ds, ∃ ρ1, (∀ S, g (.d (mk d)) (wipeR ρ vs) S = some ρ1) ∧ ∀ S, Pu (e ρ1 S) S (.d (.bool (y d)))) : Pu (fCB (gAll F) (fCons (fLc f g fYes e vs) fNil) ρ S) S (.d (.bool (F (ds.map y)))) := by
  obtain ⟨T0, hf⟩ := hf
  obtain ⟨T, e1⟩ := fLc_ok (fun d => .d (.bool (y d))) hf hz h
  refine ⟨T0 ++ .lst (ds.map fun d => .d (.bool (y d))) :: T, ?_⟩
  simp only [ev_cb, ev_cons, ev_nil, e1, bind_ok]
  rw [gAll_o (bs := ds.map y) (by rw [get_len_app]; simp [List.map_map, Function.comp_def])]
  simp
/-! two for -/
theorem compD2_ok {α β : Type} {mk : α → PyData} {mk1 : α → β → PyData} {g : Gt} {f1 : Fe (List PyData)} {g1 : Gt} {e : Fe W} {vs1 : List Nat} {n : Nat} {ρ : Slt} {ds1 : α → List β} {yf : α → β → W} : ∀ (ds : List α) (acc : List W) (S T0 : Sto),
    (∀ d ∈ ds, ∃ ρ1, (∀ S, g (.d (mk d)) ρ S = some ρ1) ∧ (∀ S, Pu (f1 ρ1 S) S ((ds1 d).map (mk1 d))) ∧ ∀ d1 ∈ ds1 d, ∃ ρ2, (∀ S, g1 (.d (mk1 d d1)) (wipeR ρ1 vs1) S = some ρ2) ∧ ∀ S, Pu (e ρ2 S) S (yf d d1)) →
    acc.length + (ds.flatMap ds1).length ≤ 1000000 → n = S.length → ∃ T', compD2 g fYes f1 g1 fYes e vs1 n (ds.map mk) ρ (S ++ .lst acc :: T0) = .ok () (S ++ .lst (acc ++ ds.flatMap fun d => (ds1 d).map (yf d)) :: T')
  | [], acc, S, T0, h, hz, hn => ⟨T0, by simp [compD2]⟩
  | d :: ds, acc, S, T0, h, hz, hn => by
    obtain ⟨ρ1, h1, h2, h3⟩ := h d (by simp)
    obtain ⟨T1, e1⟩ := h2 (S ++ .lst acc :: T0)
    subst hn
    rw [List.map_cons]
    unfold compD2
    rw [h1]
    simp only [fYes, bind_ok, if_true, e1, List.append_assoc, List.cons_append]
    obtain ⟨T2, e2⟩ := compD_ok (n := S.length) (ds1 d) acc S (T0 ++ T1) h3 (by simp at hz ⊢; omega) rfl
    rw [e2]
    obtain ⟨T', e'⟩ := compD2_ok ds (acc ++ (ds1 d).map (yf d)) S T2 (fun d hd => h d (by simp [hd])) (by simp at hz ⊢; omega) rfl
    refine ⟨T', ?_⟩
    simp only [bind_ok]
    rw [e']
    simp
theorem fLc2_ok {α β : Type} {mk : α → PyData} {mk1 : α → β → PyData} {f : Fe (List PyData)} {g : Gt} {f1 : Fe (List PyData)} {g1 : Gt} {e : Fe W} {vs vs1 : List Nat} {ρ : Slt} {S T0 : Sto} {ds : List α} (ds1 : α → List β) (yf : α → β → W) (hf : f ρ S = .ok (ds.map mk) (S ++ T0)) (hz : (ds.flatMap ds1).length ≤ 1000000)
    (h : ∀ d ∈ ds, ∃ ρ1, (∀ S, g (.d (mk d)) (wipeR ρ vs) S = some ρ1) ∧ (∀ S, Pu (f1 ρ1 S) S ((ds1 d).map (mk1 d))) ∧ ∀ d1 ∈ ds1 d, ∃ ρ2, (∀ S, g1 (.d (mk1 d d1)) (wipeR ρ1 vs1) S = some ρ2) ∧ ∀ S, Pu (e ρ2 S) S (yf d d1)) :
    ∃ T, fLc2 f g fYes f1 g1 fYes e vs vs1 ρ S = .ok (.o (S ++ T0).length) (S ++ T0 ++ .lst (ds.flatMap fun d => (ds1 d).map (yf d)) :: T) := by
  unfold fLc2
  rw [hf]
  obtain ⟨T, e1⟩ := compD2_ok (n := (S ++ T0).length) (yf := yf) ds [] (S ++ T0) [] h (by simpa using hz) rfl
  rw [List.nil_append] at e1
  refine ⟨T, ?_⟩
  simp only [bind_ok, e1, noX_ok]
theorem tupLc2 {α β : Type} {f : Fe (List PyData)} {g : Gt} {f1 : Fe (List PyData)} {g1 : Gt} {e : Fe W} {vs vs1 : List Nat} {ρ : Slt} {S : Sto} (ds : List α) (mk : α → PyData) (ds1 : α → List β) (mk1 : α → β → PyData) (y : α → β → PyData) (hf : Pu (f ρ S) S (ds.map mk)) (hz : (ds.flatMap ds1).length ≤ 1000000)
    (h : ∀ d ∈ ds, ∃ ρ1, (∀ S, g (.d (mk d)) (wipeR ρ vs) S = some ρ1) ∧ (∀ S, Pu (f1 ρ1 S) S ((ds1 d).map (mk1 d))) ∧ ∀ d1 ∈ ds1 d, ∃ ρ2, (∀ S, g1 (.d (mk1 d d1)) (wipeR ρ1 vs1) S = some ρ2) ∧ ∀ S, Pu (e ρ2 S) S (.d (y d d1))) :
    Pu (fCB gTuple (fCons (fLc2 f g fYes f1 g1 fYes e vs vs1) fNil) ρ S) S (.d (.tuple (ds.flatMap fun d => (ds1 d).map (y d)))) := by
  obtain ⟨T0, hf⟩ := hf
  obtain ⟨T, e1⟩ := fLc2_ok ds1 (fun d d1 => .d (y d d1)) hf hz h
  refine ⟨T0 ++ .lst (ds.flatMap fun d => (ds1 d).map fun d1 => .d (y d d1)) :: T, ?_⟩
  simp only [ev_cb, ev_cons, ev_nil, e1, bind_ok]
  rw [gTuple_o (ds := ds.flatMap fun d => (ds1 d).map (y d)) (by rw [get_len_app]; simp [List.map_flatMap, List.map_map, Function.comp_def])]
  simp
/-! ### targets, iterables -/
@[simp] theorem gt_nm (i : Nat) (x : W) (ρ : Slt) (S : Sto) : gNm i x ρ S = some (ρ.set i (some x)) := id rfl
@[simp] theorem gt_tp2 (g h : Gt) (a b : PyData) (ρ : Slt) (S : Sto) : gTp 2 (gsCons g (gsCons h gsNil)) (.d (.tuple [a, b])) ρ S = match g (.d a) ρ S with | some ρ1 => (match h (.d b) ρ1 S with | some ρ2 => some ρ2 | none => none) | none => none := id rfl
@[simp] theorem gt_tp3 (g h k : Gt) (a b c : PyData) (ρ : Slt) (S : Sto) : gTp 3 (gsCons g (gsCons h (gsCons k gsNil))) (.d (.tuple [a, b, c])) ρ S = match g (.d a) ρ S with | some ρ1 => (match h (.d b) ρ1 S with | some ρ2 => (match k (.d c) ρ2 S with | some ρ3 => some ρ3 | none => none) | none => none) | none => none := id rfl
@[simp] theorem it_ev (f : Fe W) (ρ : Slt) (S : Sto) : fIt f ρ S = (f ρ S).bind fun x S1 => ofO (itemsOf x S1) := id rfl
@[simp] theorem items_t (ds : List PyData) (S : Sto) : itemsOf (.d (.tuple ds)) S = some (ds, S) := id rfl
@[simp] theorem items_l (ds : List PyData) (S : Sto) : itemsOf (.d (.list ds)) S = some (ds, S) := id rfl
@[simp] theorem en_ev (f : Fe W) (ρ : Slt) (S : Sto) : fEn (fCons f fNil) ρ S = (f ρ S).bind fun x S1 => (ofO (itemsOf x S1)).bind fun ds S2 => .ok (enumD ds) S2 := by
  unfold fEn
  simp only [ev_cons, ev_nil]
  cases f ρ S <;> rfl
@[simp] theorem z2_ev (f g : Fe W) (ρ : Slt) (S : Sto) : fZ2 (fCons f (fCons g fNil)) ρ S = (f ρ S).bind fun x S1 => (g ρ S1).bind fun y S2 => (ofO (itemsOf x S2)).bind fun ds1 S3 => (ofO (itemsOf y S3)).bind fun ds2 S4 => .ok (zipD2 ds1 ds2) S4 := by
  unfold fZ2
  simp only [ev_cons, ev_nil]
  cases f ρ S with
  | ok x S1 => simp only [bind_ok]; cases g ρ S1 <;> rfl
  | ex _ _ => rfl
  | bad => rfl
@[simp] theorem z3_ev (f g h : Fe W) (ρ : Slt) (S : Sto) : fZ3 (fCons f (fCons g (fCons h fNil))) ρ S = (f ρ S).bind fun x S1 => (g ρ S1).bind fun y S2 => (h ρ S2).bind fun z S2 => (ofO (itemsOf x S2)).bind fun ds1 S3 => (ofO (itemsOf y S3)).bind fun ds2 S4 => (ofO (itemsOf z S4)).bind fun ds3 S5 => .ok (zipD3 ds1 ds2 ds3) S5 := by
  unfold fZ3
  simp only [ev_cons, ev_nil]
  cases f ρ S with
  | ok x S1 =>
    simp only [bind_ok]
    cases g ρ S1 with
    | ok y S2 => simp only [bind_ok]; cases h ρ S2 <;> rfl
    | ex _ _ => rfl
    | bad => rfl
  | ex _ _ => rfl
  | bad => rfl
theorem r1_ev (f : Fe W) (ρ : Slt) (S S' : Sto) (j : Int) (h : f ρ S = .ok (.d (.int j)) S') (hj : -1000000 ≤ j ∧ j ≤ 1000000) : fR1 (fCons f fNil) ρ S = .ok (rngD 0 j.toNat) S' := by
  unfold fR1
  simp only [ev_cons, ev_nil, h, bind_ok]
  rw [if_pos (show rOk j = true from decide_eq_true hj)]
theorem r2_ev (f g : Fe W) (ρ : Slt) (S S1 S2 : Sto) (i j : Int) (h : f ρ S = .ok (.d (.int i)) S1) (h2 : g ρ S1 = .ok (.d (.int j)) S2) (hi : -1000000 ≤ i ∧ i ≤ 1000000) (hj : -1000000 ≤ j ∧ j ≤ 1000000) : fR2 (fCons f (fCons g fNil)) ρ S = .ok (rngD i (j - i).toNat) S2 := by
  unfold fR2
  simp only [ev_cons, ev_nil, h, h2, bind_ok]
  rw [if_pos (by rw [show rOk i = true from decide_eq_true hi, show rOk j = true from decide_eq_true hj]; rfl)]
/-! ### for -/
theorem forD_nx {g : Gt} {b : Fs} (I : List PyData → Slt → Sto → Prop) (step : ∀ d ds ρ S, I (d :: ds) ρ S → ∃ ρ1, g (.d d) ρ S = some ρ1 ∧ ∃ ρ2 S2, b ρ1 S = .nx ρ2 S2 ∧ I ds ρ2 S2) :
    ∀ (ds : List PyData) (ρ : Slt) (S : Sto), I ds ρ S → ∃ ρ' S', forD g b ds ρ S = .nx ρ' S' ∧ I [] ρ' S'
  | [], ρ, S, h => ⟨ρ, S, rfl, h⟩
  | d :: ds, ρ, S, h => by
    obtain ⟨ρ1, h1, ρ2, S2, h2, h3⟩ := step d ds ρ S h
    obtain ⟨ρ', S', h4, h5⟩ := forD_nx I step ds ρ2 S2 h3
    refine ⟨ρ', S', ?_, h5⟩
    unfold forD
    rw [h1]
    simp only [h2, h4]
end G
set_option Elab.async false
set_option linter.all false
set_option maxRecDepth 100000
set_option maxHeartbeats 4000000
/-! M4: machines -/
namespace G
open PySem PySem.Spec L2 PyProof.Rows
set_option autoImplicit false
@[simp] theorem ev_isi (t : Kd) (f : Fe W) (ρ : Slt) (S : Sto) : fIsi t f ρ S = (f ρ S).bind fun x S1 => match kdOf x S1 with | some k => .ok (.d (.bool (isK k t))) S1 | none => .bad := id rfl
@[simp] theorem kd_d (x : PyData) (S : Sto) : kdOf (.d x) S = some (kdD x) := by cases x <;> rfl
@[simp] theorem kd_t (xs : List PyData) : kdD (.tuple xs) = .tp := id rfl
@[simp] theorem kd_i (i : Int) : kdD (.int i) = .it := id rfl
@[simp] theorem isK_tp : isK .tp .tp = true := id rfl
@[simp] theorem isK_it : isK .it .it = true := id rfl
@[simp] theorem isK_ib : isK .it .bl = false := id rfl
@[simp] theorem ev_andE (f g : Fe W) (ρ : Slt) (S : Sto) : fAndE f g ρ S = (f ρ S).bind fun x S1 => match x with | .d (.bool true) => g ρ S1 | .d (.bool false) => .ok (.d (.bool false)) S1 | _ => .bad := by
  unfold fAndE
  rfl
theorem atI_nat {α : Type} {xs : List α} {i : Nat} {x : α} (h : xs[i]? = some x) : L2.atI xs (i : Int) = some x := by
  have hl := (List.getElem?_eq_some_iff.mp h).1
  unfold L2.atI L2.ixN
  rw [if_pos (by omega), if_pos (by omega)]
  simpa using h
theorem ix_nat {ds : List PyData} {i : Nat} {d : PyData} (h : ds[i]? = some d) (S : Sto) : gIx (.d (.tuple ds)) (.d (.int i)) S = some (.d d, S) := by
  show (L2.atI (ds.map W.d) (i : Int)).map (fun z => (z, S)) = _
  rw [atI_nat (x := .d d) (by rw [List.getElem?_map, h]; rfl)]
  rfl
@[simp] theorem len_t (ds : List PyData) (S : Sto) : gLen [.d (.tuple ds)] S = some (.d (.int ds.length), S) := by
  show some (W.d (.int ((ds.map W.d).length : Nat)), S) = _
  rw [List.length_map]
theorem intsOf_ds (ns : List Int) : intsOf ((ns.map PyData.int).map W.d) = some ns := by
  rw [List.map_map]
  exact intsOf_map ns
theorem sum_t (ns : List Int) (S : Sto) : gSum [.d (.tuple (ns.map PyData.int))] S = some (.d (.int ns.sum), S) := by
  show (match intsOf ((ns.map PyData.int).map W.d) with | some ns => some (W.d (.int ns.sum), S) | none => none) = _
  rw [intsOf_ds]
@[simp] theorem ev_chain (g g' : Op2) (f h k : Fe W) (ρ : Slt) (S : Sto) : fChain g g' f h k ρ S = (f ρ S).bind fun x S1 => (h ρ S1).bind fun y S2 => (ofO (g x y S2)).bind fun z S3 => match z with
  | .d (.bool true) => (k ρ S3).bind fun u S4 => ofO (g' y u S4)
  | .d (.bool false) => .ok (.d (.bool false)) S3
  | _ => .bad := id rfl
@[simp] theorem isW (i : Int) (S : Sto) : R_is_whole [.d (.int i)] S = .ok (.d (.bool true)) S := isW_int S i
@[simp] theorem r_is_fraction (q : Rat) (S : Sto) : R_is_fraction [.d (fr q)] S = .ok (.d (.bool true)) S := by
  unfold R_is_fraction runB B_is_fraction fr
  have h1 := q.den_pos
  have h2 : Int.gcd q.num q.den = 1 := q.reduced
  simp [startR, h1, h2]
/-! ### spots, touches, machines -/
abbrev Spot := Nat × Nat
abbrev Tch := Spot × Spot
def sD (s : Spot) : PyData := .tuple [.int s.1, .int s.2]
def tcD (t : Tch) : PyData := .tuple [sD t.1, sD t.2]
def csD (cs : List Nat) : PyData := .tuple (cs.map fun c => .int (c : Nat))
def tsD (ts : List Tch) : PyData := .tuple (ts.map tcD)
structure Mach where
  cs : List Nat
  ts : List Tch
def mD (m : Mach) : PyData := .tuple [csD m.cs, tsD m.ts]
def okS (cs : List Nat) (s : Spot) : Prop := ∃ c, cs[s.1]? = some c ∧ s.2 < c
def ltS (s t : Spot) : Prop := s.1 < t.1 ∨ s.1 = t.1 ∧ s.2 < t.2
instance (s t : Spot) : Decidable (ltS s t) := inferInstanceAs (Decidable (_ ∨ _))
def ltT (a b : Tch) : Prop := ltS a.1 b.1 ∨ a.1 = b.1 ∧ ltS a.2 b.2
def spotsOf (ts : List Tch) : List Spot := ts.flatMap fun t => [t.1, t.2]
structure Ok (m : Mach) : Prop where
  ne : m.cs ≠ []
  l16 : m.cs.length ≤ 16
  pos : ∀ c ∈ m.cs, 0 < c
  s30 : m.cs.sum ≤ 30
  l8 : m.ts.length ≤ 8
  good : ∀ t ∈ m.ts, okS m.cs t.1 ∧ okS m.cs t.2 ∧ ltS t.1 t.2
  srt : m.ts.Pairwise ltT
  nd : (spotsOf m.ts).Nodup
theorem csD_ints (cs : List Nat) : csD cs = .tuple ((cs.map fun c : Nat => (c : Int)).map PyData.int) := by
  unfold csD
  rw [List.map_map]
  rfl
theorem sum_cast (cs : List Nat) : (cs.map fun c : Nat => (c : Int)).sum = ((cs.sum : Nat) : Int) := by
  induction cs with
  | nil => rfl
  | cons c cs ih => simp [ih]
theorem r_are_counts {cs : List Nat} (h1 : cs ≠ []) (h2 : cs.length ≤ 16) (h3 : ∀ c ∈ cs, 0 < c) (h4 : cs.sum ≤ 30) (S : Sto) : Pu (R_are_counts [.d (csD cs)] S) S (.d (.bool true)) := by
  unfold R_are_counts runB B_are_counts
  have hl : 1 ≤ cs.length := by cases cs with
    | nil => exact absurd rfl h1
    | cons a b => simp
  have a1 : ((1 : Int) ≤ (cs.length : Int)) := by omega
  have a2 : ((cs.length : Int) ≤ 16) := by omega
  obtain ⟨T, e⟩ := allLc (F := fun bs => bs.all id) (f := fIt (fVar 0)) (g := gNm 1) (e := fAndE (fCall 1 [] R_is_whole (fCons (fVar 1) fNil)) (fOp2 cGt (fVar 1) (fC (.d (.int 0))))) (vs := [1]) (ρ := [some (.d (csD cs)), none]) (S := S) cs (fun c => .int (c : Nat)) (fun _ => true)
    (.of (by simp [csD])) (by omega) (fun c hc => by
      refine ⟨_, fun S => rfl, fun S => .of ?_⟩
      have := h3 c hc
      simp [wipeR, this])
  refine ⟨T, ?_⟩
  have e3 : ((cs.map fun _ => true).all id) = true := by simp
  rw [e3] at e
  have e4 : gSum [.d (csD cs)] (S ++ T) = some (.d (.int (cs.sum : Nat)), S ++ T) := by rw [csD_ints, sum_t, sum_cast]
  have a3 : ((cs.sum : Nat) : Int) ≤ 30 := by omega
  have e2 : ∀ S, gLen [.d (csD cs)] S = some (.d (.int (cs.length : Nat)), S) := fun S => by unfold csD; rw [len_t, List.length_map]
  have e5 : kdD (csD cs) = .tp := rfl
  simp [startR, e, e4, a3, e2, a1, a2, e5]
theorem r_is_spot {cs : List Nat} {s : Spot} (h : okS cs s) (S : Sto) : R_is_spot [.d (csD cs), .d (sD s)] S = .ok (.d (.bool true)) S := by
  obtain ⟨c, h1, h2⟩ := h
  have hl := (List.getElem?_eq_some_iff.mp h1).1
  unfold R_is_spot runB B_is_spot sD
  have e1 : gIx (.d (csD cs)) (.d (.int (s.1 : Nat))) S = some (.d (.int (c : Nat)), S) := ix_nat (by rw [List.getElem?_map, h1]; rfl) S
  have a1 : (0 : Int) ≤ (s.1 : Int) := by omega
  have a2 : (0 : Int) ≤ (s.2 : Int) := by omega
  have a3 : (s.1 : Int) < (cs.length : Int) := by omega
  have a4 : (s.2 : Int) < (c : Int) := by omega
  have e2 : gLen [.d (csD cs)] S = some (.d (.int (cs.length : Nat)), S) := by unfold csD; rw [len_t, List.length_map]
  simp [startR, e1, e2, a1, a2, a3, a4]
theorem al_s (s t : Spot) : PySem.W.alike (sD s) (sD t) = true := by simp [sD, PySem.W.alike, PySem.W.alikeAll]
theorem lt_s (s t : Spot) : PySem.W.dataLt (sD s) (sD t) = decide (ltS s t) := by
  unfold sD
  rw [PySem.W.dataLt_ii]
  rw [decide_eq_decide]
  unfold ltS
  omega
theorem eqv_s (s t : Spot) : PyData.eqv (sD s) (sD t) = decide (s = t) := by
  obtain ⟨a, b⟩ := s
  obtain ⟨c, d⟩ := t
  simp only [sD, PyData.eqv, PyData.eqvAll, Bool.and_true, Prod.mk.injEq]
  rw [Bool.eq_iff_iff]
  simp only [Bool.and_eq_true, beq_iff_eq, decide_eq_true_eq]
  omega
theorem cLt_s (s t : Spot) (S : Sto) : cLt (.d (sD s)) (.d (sD t)) S = some (.d (.bool (decide (ltS s t))), S) := by
  rw [← lt_s]
  show (if (PySem.W.alike (sD s) (sD t) && decide ((sD s).depth ≤ 60)) = true then some (W.d (.bool (PySem.W.dataLt (sD s) (sD t))), S) else none) = _
  rw [if_pos (by rw [al_s]; rfl)]
theorem r_is_touch {cs : List Nat} {t : Tch} (h1 : okS cs t.1) (h2 : okS cs t.2) (h3 : ltS t.1 t.2) (S : Sto) : R_is_touch [.d (csD cs), .d (tcD t)] S = .ok (.d (.bool true)) S := by
  unfold R_is_touch runB B_is_touch tcD
  simp [startR, r_is_spot h1, r_is_spot h2, cLt_s, h3]
theorem al_t (s t : Tch) : PySem.W.alike (tcD s) (tcD t) = true := by simp [tcD, PySem.W.alike, PySem.W.alikeAll, al_s]
theorem ltS_irr (s : Spot) : ¬ ltS s s := by unfold ltS; omega
theorem lt_t (a b : Tch) : PySem.W.dataLt (tcD a) (tcD b) = true ↔ ltT a b := by
  unfold tcD
  rw [PySem.W.dataLt_pair (al_s _ _) (al_s _ _), eqv_s, eqv_s, lt_s, lt_s]
  unfold ltT
  by_cases h1 : a.1 = b.1 <;> by_cases h2 : a.2 = b.2 <;> simp [h1, h2, ltS_irr]
theorem cLt_t {a b : Tch} (h : ltT a b) (S : Sto) : cLt (.d (tcD a)) (.d (tcD b)) S = some (.d (.bool true), S) := by
  show (if (PySem.W.alike (tcD a) (tcD b) && decide ((tcD a).depth ≤ 60)) = true then some (W.d (.bool (PySem.W.dataLt (tcD a) (tcD b))), S) else none) = _
  rw [if_pos (by rw [al_t]; rfl), (lt_t a b).mpr h]
/-! the loop over the touches -/
theorem spotsOf_app (a b : List Tch) : spotsOf (a ++ b) = spotsOf a ++ spotsOf b := by simp [spotsOf]
@[simp] theorem gt_tp2' (g h : Gt) (a b : PyData) (ρ : Slt) (S : Sto) : gTp 2 (gsCons g (gsCons h gsNil)) (.d (.tuple [a, b])) ρ S = match g (.d a) ρ S with | some ρ1 => (match h (.d b) ρ1 S with | some ρ2 => some ρ2 | none => none) | none => none := id rfl
theorem shp_s (s : Spot) : SeqAt.shaped (sD s) = true := rfl
theorem shp_ss : ∀ l : List Spot, SeqAt.shaped (.list (l.map sD)) = true := fun l => by
  have h1 : ∀ l : List Spot, PyData.canLayAll0 (l.map sD) = true := fun l => by
    induction l with
    | nil => rfl
    | cons a l ih => simp [PyData.canLayAll0, ih, sD, PyData.canLay0]
  have h2 : ∀ l : List Spot, PyData.depthAll (l.map sD) ≤ 1 := fun l => by
    induction l with
    | nil => simp [PyData.depthAll]
    | cons a l ih => simp only [List.map_cons, PyData.depthAll]; have : (sD a).depth = 1 := rfl; omega
  unfold SeqAt.shaped
  rw [Bool.and_eq_true]
  refine ⟨by simp only [PyData.canLay0]; exact h1 l, decide_eq_true ?_⟩
  simp only [PyData.depth]
  have := h2 l
  omega
theorem view_o {k : Nat} {S : Sto} {ds : List PyData} (h : S[k]? = some (.lst (ds.map W.d))) : view (.o k) S = some (.list ds) := by
  unfold view
  have : frz 6 (.o k) S = some (.list ds, S.set k (.fz (.list ds))) := by
    show (match S[k]? with | some (.fz x) => some (x, S) | some (.lst ws) => (match frzL (frz 5) ws S with | some (ds, S1) => some (PyData.list ds, S1.set k (.fz (.list ds))) | none => none) | _ => none) = _
    rw [h]
    simp only [frzL_ds]
  rw [this]
  rfl
def spW (l : List Spot) : List W := (l.map sD).map W.d
@[simp] theorem ev_mt (g : OpM) (f : Fe W) (h : Fe (List W)) (ρ : Slt) (S : Sto) : fMt g f h ρ S = (f ρ S).bind fun x S1 => if (hpl x S1).isSome = true then (h ρ S1).bind fun xs S2 => ofO (g x xs S2) else .bad := id rfl
theorem in_spots {k : Nat} {S : Sto} {l : List Spot} (s : Spot) (h : S[k]? = some (.lst (spW l))) : gIn false (.d (sD s)) (.o k) S = some (.d (.bool (decide (s ∈ l))), S) := by
  unfold gIn
  rw [view_d, view_o h]
  simp only []
  rw [if_pos (by rw [shp_s, shp_ss]; rfl)]
  congr 4
  show (if false = true then _ else _) = _
  rw [if_neg Bool.false_ne_true, Bool.eq_iff_iff, decide_eq_true_eq, List.any_eq_true]
  constructor
  · rintro ⟨x, hx, e⟩
    obtain ⟨t, ht, rfl⟩ := List.mem_map.mp hx
    rw [eqv_s, decide_eq_true_eq] at e
    exact e ▸ ht
  · intro hs
    exact ⟨sD s, List.mem_map_of_mem hs, by rw [eqv_s]; exact decide_eq_true rfl⟩
theorem ext_spots {k : Nat} {S : Sto} {l : List Spot} (t : Tch) (h : S[k]? = some (.lst (spW l))) (hl : l.length ≤ 100) : gExt (.o k) [.d (tcD t)] S = some (.d .none, S.set k (.lst (spW (l ++ [t.1, t.2])))) := by
  unfold gExt tcD
  simp only [h]
  rw [if_pos (by unfold szOk spW; simp; omega)]
  simp [spW]
theorem enum_cons {α : Type} (F : α → PyData) (a : α) (r : List α) (n : Nat) : (((a :: r).map F).zipIdx n).map (fun p => PyData.tuple [.int (p.2 : Nat), p.1]) = .tuple [.int (n : Nat), F a] :: ((r.map F).zipIdx (n + 1)).map (fun p => PyData.tuple [.int (p.2 : Nat), p.1]) := by simp
theorem spots_len (ts : List Tch) : (spotsOf ts).length = 2 * ts.length := by
  induction ts with
  | nil => rfl
  | cons t ts ih => simp [spotsOf] at ih ⊢; omega
theorem r_touches_misfit {m : Mach} (ok : Ok m) (S : Sto) : Pu (R_touches_misfit [.d (csD m.cs), .d (tsD m.ts)] S) S (.d .none) := by
  unfold R_touches_misfit runB B_touches_misfit
  have key := forD_nx (g := gTp 2 (gsCons (gNm 3) (gsCons (gNm 4) gsNil))) (b := (fSeq (fIf (fOr (fNot (fTru (fCall 2 [] R_is_touch (fCons (fVar 0) (fCons (fVar 4) fNil))))) (fAnd (fTru (fOp2 cGt (fVar 3) (fC (.d (.int 0))))) (fNot (fTru (fOp2 cLt (fOp2 gIx (fVar 1) (fOp2 gSub (fVar 3) (fC (.d (.int 1))))) (fVar 4)))))) (fRet (fVar 3)) fSkip)
      (fSeq (fIf (fOr (fTru (fOp2 (gIn false) (fOp2 gIx (fVar 4) (fC (.d (.int 0)))) (fVar 2))) (fTru (fOp2 (gIn false) (fOp2 gIx (fVar 4) (fC (.d (.int 1)))) (fVar 2)))) (fRet (fVar 3)) fSkip)
      (fExp (fMt gExt (fVar 2) (fCons (fVar 4) fNil))))))
    (fun ds ρ S' => ∃ (pre post : List Tch) (j1 j2 : Option W) (T : Sto), m.ts = pre ++ post ∧ ds = ((post.map tcD).zipIdx pre.length).map (fun p => PyData.tuple [.int (p.2 : Nat), p.1]) ∧ ρ = [some (.d (csD m.cs)), some (.d (tsD m.ts)), some (.o S.length), j1, j2] ∧ S' = S ++ .lst (spW (spotsOf pre)) :: T)
    (by
      rintro d ds ρ S' ⟨pre, post, j1, j2, T, hts, hd, rfl, rfl⟩
      cases post with
      | nil => cases hd
      | cons t post =>
        rw [enum_cons] at hd
        injection hd with h1 h2
        subst h1
        refine ⟨_, rfl, ?_⟩
        have ht : t ∈ m.ts := by rw [hts]; simp
        obtain ⟨g1, g2, g3⟩ := ok.good t ht
        have hnd := ok.nd
        rw [hts, spotsOf_app] at hnd
        have hnin : ∀ s ∈ spotsOf pre, s ≠ t.1 ∧ s ≠ t.2 := fun s hs => by
          have q := (List.nodup_append.mp hnd).2.2 s hs
          exact ⟨q _ (by simp [spotsOf]), q _ (by simp [spotsOf])⟩
        have n1 : ¬ t.1 ∈ spotsOf pre := fun z => (hnin _ z).1 rfl
        have n2 : ¬ t.2 ∈ spotsOf pre := fun z => (hnin _ z).2 rfl
        have hlen := ok.l8
        rw [hts] at hlen
        have hl2 : (spotsOf pre).length ≤ 100 := by rw [spots_len]; simp at hlen; omega
        have e1 := fun s => in_spots (k := S.length) (S := S ++ .lst (spW (spotsOf pre)) :: T) (l := spotsOf pre) s (get_len_app S _ T)
        have e2 := ext_spots (k := S.length) (S := S ++ .lst (spW (spotsOf pre)) :: T) (l := spotsOf pre) t (get_len_app S _ T) hl2
        have e3 : hpl (.o S.length) (S ++ .lst (spW (spotsOf pre)) :: T) = some (spW (spotsOf pre)) := by
          unfold hpl
          simp only [get_len_app]
        have i0 : ∀ S, gIx (.d (tcD t)) (.d (.int 0)) S = some (.d (sD t.1), S) := fun S => rfl
        have i1 : ∀ S, gIx (.d (tcD t)) (.d (.int 1)) S = some (.d (sD t.2), S) := fun S => rfl
        have fin : ∃ (pre' post' : List Tch) (j1 j2 : Option W) (T' : Sto), m.ts = pre' ++ post' ∧ ds = ((post'.map tcD).zipIdx pre'.length).map (fun p => PyData.tuple [.int (p.2 : Nat), p.1]) ∧ [some (.d (csD m.cs)), some (.d (tsD m.ts)), some (.o S.length), some (.d (.int (pre.length : Nat))), some (.d (tcD t))] = [some (.d (csD m.cs)), some (.d (tsD m.ts)), some (.o S.length), j1, j2] ∧
            (S ++ Cell.lst (spW (spotsOf pre ++ [t.1, t.2])) :: T) = S ++ .lst (spW (spotsOf pre')) :: T' :=
          ⟨pre ++ [t], post, _, _, T, by rw [hts]; simp, by rw [h2]; simp, rfl, by rw [spotsOf_app]; rfl⟩
        by_cases hp : pre = []
        · subst hp
          refine ⟨_, _, ?_, fin⟩
          simp [r_is_touch g1 g2 g3, i0, i1, e1, e2, e3, n1, n2]
        · obtain ⟨u, hu⟩ : ∃ u, pre.getLast? = some u := by
            cases h : pre.getLast? with
            | none => exact absurd (List.getLast?_eq_none_iff.mp h) hp
            | some u => exact ⟨u, rfl⟩
          have hpl : 0 < pre.length := List.length_pos_iff.mpr hp
          have hpl' : (0 : Int) < (pre.length : Int) := by omega
          have hu2 : pre[pre.length - 1]? = some u := by rw [List.getLast?_eq_getElem?] at hu; exact hu
          have i2 : ∀ S, gIx (.d (tsD m.ts)) (.d (.int ((pre.length : Int) - 1))) S = some (.d (tcD u), S) := fun S => by
            have : ((pre.length : Int) - 1) = ((pre.length - 1 : Nat) : Int) := by omega
            rw [this]
            refine ix_nat ?_ S
            rw [List.getElem?_map, hts, List.getElem?_append_left (by omega), hu2]
            rfl
          have hlt : ltT u t := by
            have q := ok.srt
            rw [hts] at q
            exact (List.pairwise_append.mp q).2.2 u (List.mem_of_getElem? hu2) t (by simp)
          refine ⟨_, _, ?_, fin⟩
          simp [r_is_touch g1 g2 g3, i0, i1, i2, cLt_t hlt, e1, e2, e3, n1, n2, hpl]
          )
    (enumD (m.ts.map tcD)) [some (.d (csD m.cs)), some (.d (tsD m.ts)), some (.o S.length), none, none] (S ++ [.lst []]) ⟨[], m.ts, none, none, [], rfl, rfl, rfl, rfl⟩
  obtain ⟨ρ', S', h1, pre, post, j1, j2, T, hts, hd, rfl, rfl⟩ := key
  refine ⟨.lst (spW (spotsOf pre)) :: T, ?_⟩
  simp only [startR, List.map_cons, List.map_nil, List.length_cons, List.length_nil]
  have e5 : fLst fNil [some (.d (csD m.cs)), some (.d (tsD m.ts)), none, none, none] S = .ok (.o S.length) (S ++ [.lst []]) := rfl
  have e6 : ∀ S, itemsOf (.d (tsD m.ts)) S = some (m.ts.map tcD, S) := fun S => rfl
  simp [e5, e6, h1]
@[simp] theorem isn_no (S : Sto) : gIsN true (.d .none) (.d .none) S = some (.d (.bool false), S) := id rfl
theorem r_need_machine {m : Mach} (ok : Ok m) (S : Sto) : Pu (R_need_machine [.d (mD m)] S) S (.d .none) := by
  obtain ⟨T1, e1⟩ := r_are_counts ok.ne ok.l16 ok.pos ok.s30 S
  obtain ⟨T2, e2⟩ := r_touches_misfit ok (S ++ T1)
  refine ⟨T1 ++ T2, ?_⟩
  unfold R_need_machine runB B_need_machine mD
  have a1 : ¬ ((8 : Int) < (m.ts.length : Int)) := by have := ok.l8; omega
  have e3 : kdD (tsD m.ts) = .tp := rfl
  have e4 : ∀ S, gLen [.d (tsD m.ts)] S = some (.d (.int (m.ts.length : Nat)), S) := fun S => by unfold tsD; rw [len_t, List.length_map]
  simp [startR, e1, e2, e3, e4, a1]
end G
set_option Elab.async false
set_option linter.all false
set_option maxRecDepth 100000
set_option maxHeartbeats 4000000
/-! M5: sizes of fractions, loads -/
namespace G
open PySem PySem.Spec L2 PyProof.Rows
set_option autoImplicit false
theorem den_dvd {q : Rat} {D : Nat} : q.den ∣ D ↔ ∃ k : Int, q * (D : Rat) = (k : Rat) := by
  have h1 := rat_eq q
  have h2 := den_ne q
  constructor
  · rintro ⟨e, rfl⟩
    refine ⟨q.num * e, ?_⟩
    push_cast
    grind
  · rintro ⟨k, hk⟩
    have h3 : (q.num : Rat) * (D : Rat) = (k : Rat) * (q.den : Rat) := by grind
    have h4 : q.num * (D : Int) = k * (q.den : Int) := by exact_mod_cast h3
    have h5 : (q.den : Int) ∣ q.num * (D : Int) := ⟨k, by rw [h4, Int.mul_comm]⟩
    have h6 : q.den ∣ q.num.natAbs * D := by
      have := Int.natAbs_dvd_natAbs.mpr h5
      rwa [Int.natAbs_mul, Int.natAbs_natCast, Int.natAbs_natCast] at this
    exact Nat.Coprime.dvd_of_dvd_mul_left (Nat.Coprime.symm q.reduced) h6
section
variable {D E M N : Nat} {p q : Rat}
theorem Bd.add (hp : Bd D M p) (hq : Bd D N q) : Bd D (M + N) (p + q) := by
  obtain ⟨k, hk⟩ := den_dvd.mp hp.dv
  obtain ⟨l, hl⟩ := den_dvd.mp hq.dv
  refine ⟨den_dvd.mpr ⟨k + l, ?_⟩, ?_, ?_⟩
  · push_cast; grind
  · have := hp.le; have := hq.le; push_cast; grind
  · have := hp.ge; have := hq.ge; push_cast; grind
theorem Bd.neg (hp : Bd D M p) : Bd D M (-p) := by
  obtain ⟨k, hk⟩ := den_dvd.mp hp.dv
  refine ⟨den_dvd.mpr ⟨-k, ?_⟩, ?_, ?_⟩
  · push_cast; grind
  · have := hp.ge; grind
  · have := hp.le; grind
theorem Bd.sub (hp : Bd D M p) (hq : Bd D N q) : Bd D (M + N) (p - q) := by
  have := hp.add hq.neg
  rwa [← Rat.sub_eq_add_neg] at this
theorem mul_le' {a b m n : Rat} (h1 : a ≤ m) (h2 : -m ≤ a) (h3 : b ≤ n) (h4 : -n ≤ b) : a * b ≤ m * n ∧ -(m * n) ≤ a * b := by
  have e1 : 0 ≤ (m - a) * (n - b) := Rat.mul_nonneg (by grind) (by grind)
  have e2 : 0 ≤ (m - a) * (n + b) := Rat.mul_nonneg (by grind) (by grind)
  have e3 : 0 ≤ (m + a) * (n - b) := Rat.mul_nonneg (by grind) (by grind)
  have e4 : 0 ≤ (m + a) * (n + b) := Rat.mul_nonneg (by grind) (by grind)
  constructor <;> grind
theorem Bd.mul (hp : Bd D M p) (hq : Bd E N q) : Bd (D * E) (M * N) (p * q) := by
  obtain ⟨k, hk⟩ := den_dvd.mp hp.dv
  obtain ⟨l, hl⟩ := den_dvd.mp hq.dv
  have h := mul_le' hp.le hp.ge hq.le hq.ge
  refine ⟨den_dvd.mpr ⟨k * l, ?_⟩, ?_, ?_⟩
  · push_cast; grind
  · push_cast; exact h.1
  · push_cast; exact h.2
theorem Bd.half (hp : Bd D M p) (hq : Bd D M q) : Bd (D * 2) M ((p + q) / 2) := by
  obtain ⟨k, hk⟩ := den_dvd.mp hp.dv
  obtain ⟨l, hl⟩ := den_dvd.mp hq.dv
  refine ⟨den_dvd.mpr ⟨k + l, ?_⟩, ?_, ?_⟩
  · push_cast; grind
  · have := hp.le; have := hq.le; grind
  · have := hp.ge; have := hq.ge; grind
theorem Bd.mono (hp : Bd D M p) (h1 : D ∣ E) (h2 : M ≤ N) : Bd E N p := by
  have : (M : Rat) ≤ (N : Rat) := by exact_mod_cast h2
  refine ⟨Nat.dvd_trans hp.dv h1, ?_, ?_⟩
  · have := hp.le; grind
  · have := hp.ge; grind
theorem Bd.sm {n : Nat} (hp : Bd D M p) (h0 : 0 < D) (h1 : D < 2 ^ n) (h2 : M * D < 2 ^ n) : Sm n p := by
  have hle : p.den ≤ D := Nat.le_of_dvd h0 hp.dv
  refine ⟨?_, by omega⟩
  have e := rat_eq p
  have hd := den_ne p
  have hdp : (0 : Rat) < (p.den : Rat) := by exact_mod_cast p.den_pos
  have a1 : (p.num : Rat) ≤ ((M * p.den : Nat) : Rat) := by
    have : (p.num : Rat) = p * p.den := by grind
    rw [this]
    push_cast
    exact Rat.mul_le_mul_of_nonneg_right hp.le (by grind)
  have a2 : -((M * p.den : Nat) : Rat) ≤ (p.num : Rat) := by
    have : (p.num : Rat) = p * p.den := by grind
    rw [this]
    push_cast
    have h3 := Rat.mul_le_mul_of_nonneg_right hp.ge (c := (p.den : Rat)) (by grind)
    grind
  have b1 : p.num ≤ ((M * p.den : Nat) : Int) := by exact_mod_cast a1
  have b2 : -((M * p.den : Nat) : Int) ≤ p.num := by
    refine Rat.intCast_le_intCast.mp ?_
    push_cast at a2 ⊢
    exact a2
  have b3 : M * p.den ≤ M * D := Nat.mul_le_mul_left M hle
  omega
theorem Bd.zero : Bd D M 0 := by
  have h : (0 : Rat) ≤ (M : Rat) := by exact_mod_cast Nat.zero_le M
  refine ⟨by rw [show (0 : Rat).den = 1 from rfl]; exact Nat.one_dvd _, h, by grind⟩
theorem Bd.one : Bd 1 1 1 := ⟨Nat.dvd_refl _, by decide, by decide⟩
end
end G
set_option Elab.async false
set_option linter.all false
set_option maxRecDepth 100000
set_option maxHeartbeats 4000000
/-! M6: loads -/
namespace G
open PySem PySem.Spec L2 PyProof.Rows
set_option autoImplicit false
abbrev Load := Spot → Rat
def rowD (f : Load) (q : Nat × Nat) : PyData := .tuple ((List.range q.1).map fun p => fr (f (q.2, p)))
def ldD (cs : List Nat) (f : Load) : PyData := .tuple (cs.zipIdx.map (rowD f))
theorem zip2_map {α : Type} (l : List α) (F H : α → PyData) : zipD2 (l.map F) (l.map H) = l.map fun x => .tuple [F x, H x] := by
  unfold zipD2
  induction l with
  | nil => rfl
  | cons a l ih => simp only [List.map_cons, List.zip_cons_cons, ih]
theorem cs_zip (cs : List Nat) (F : Nat → PyData) : cs.map F = cs.zipIdx.map fun q => F q.1 := by
  have : (cs.zipIdx.map Prod.fst) = cs := by simp
  conv => lhs; rw [← this]
  rw [List.map_map]
  rfl
@[simp] theorem len_row (f : Load) (q : Nat × Nat) (S : Sto) : gLen [.d (rowD f q)] S = some (.d (.int (q.1 : Nat)), S) := by
  unfold rowD
  rw [len_t]; simp
@[simp] theorem len_cs (cs : List Nat) (S : Sto) : gLen [.d (csD cs)] S = some (.d (.int (cs.length : Nat)), S) := by
  unfold csD
  rw [len_t]; simp
@[simp] theorem len_ld (cs : List Nat) (f : Load) (S : Sto) : gLen [.d (ldD cs f)] S = some (.d (.int (cs.length : Nat)), S) := by
  unfold ldD
  rw [len_t]; simp
@[simp] theorem kd_row (f : Load) (q : Nat × Nat) : kdD (rowD f q) = .tp := id rfl
@[simp] theorem kd_ld (cs : List Nat) (f : Load) : kdD (ldD cs f) = .tp := id rfl
@[simp] theorem kd_cs (cs : List Nat) : kdD (csD cs) = .tp := id rfl
@[simp] theorem items_ld (cs : List Nat) (f : Load) (S : Sto) : itemsOf (.d (ldD cs f)) S = some (cs.zipIdx.map (rowD f), S) := id rfl
@[simp] theorem items_cs (cs : List Nat) (S : Sto) : itemsOf (.d (csD cs)) S = some (cs.map (fun c => .int (c : Nat)), S) := id rfl
@[simp] theorem items_row (f : Load) (q : Nat × Nat) (S : Sto) : itemsOf (.d (rowD f q)) S = some ((List.range q.1).map fun p => fr (f (q.2, p)), S) := id rfl
@[simp] theorem items_ts (ts : List Tch) (S : Sto) : itemsOf (.d (tsD ts)) S = some (ts.map tcD, S) := id rfl
@[simp] theorem ix_m0 (m : Mach) (S : Sto) : gIx (.d (mD m)) (.d (.int 0)) S = some (.d (csD m.cs), S) := id rfl
@[simp] theorem ix_m1 (m : Mach) (S : Sto) : gIx (.d (mD m)) (.d (.int 1)) S = some (.d (tsD m.ts), S) := id rfl
/-- few cells -/
structure Few (cs : List Nat) : Prop where
  len : cs.length ≤ 16
  one : ∀ c ∈ cs, c ≤ 30
theorem Ok.few {m : Mach} (ok : Ok m) : Few m.cs := ⟨ok.l16, fun c hc => by
  have : ∀ l : List Nat, c ∈ l → c ≤ l.sum := fun l => by
    induction l with
    | nil => intro h; cases h
    | cons a l ih =>
      intro h
      rcases List.mem_cons.mp h with rfl | h
      · simp
      · have := ih h; simp; omega
  have := this _ hc
  have := ok.s30
  omega⟩
theorem Few.z {cs : List Nat} (h : Few cs) {q : Nat × Nat} (hq : q ∈ cs.zipIdx) : q.1 ≤ 30 := by
  obtain ⟨c, i⟩ := q
  exact h.one c (by have := List.mem_zipIdx hq; rw [this.2.2]; exact List.getElem_mem _)
theorem r_is_shaped {cs : List Nat} (h : Few cs) (f : Load) (S : Sto) : Pu (R_is_shaped [.d (csD cs), .d (ldD cs f)] S) S (.d (.bool true)) := by
  have hl := h.len
  obtain ⟨T, e⟩ := allLc (F := fun bs => bs.all id) (f := fZ2 (fCons (fVar 1) (fCons (fVar 0) fNil))) (g := gTp 2 (gsCons (gNm 2) (gsCons (gNm 3) gsNil))) (e := fAndE (fIsi .tp (fVar 2)) (fOp2 (dEq false) (fCB gLen (fCons (fVar 2) fNil)) (fVar 3))) (vs := [2, 3])
    (ρ := [some (.d (csD cs)), some (.d (ldD cs f)), none, none]) (S := S) cs.zipIdx (fun q => .tuple [rowD f q, .int (q.1 : Nat)]) (fun _ => true)
    (.of (by simp [cs_zip cs fun c => PyData.int (c : Nat), zip2_map])) (by simp; omega) (fun q hq => ⟨_, fun S => rfl, fun S => .of (by simp [wipeR])⟩)
  refine ⟨T, ?_⟩
  have e3 : ((cs.zipIdx.map fun _ => true).all id) = true := by simp
  rw [e3] at e
  unfold R_is_shaped runB B_is_shaped
  simp [startR, e]
theorem r_need_own_load {m : Mach} (h : Few m.cs) (f : Load) (S : Sto) : Pu (R_need_own_load [.d (mD m), .d (ldD m.cs f)] S) S (.d .none) := by
  obtain ⟨T, e⟩ := r_is_shaped h f S
  refine ⟨T, ?_⟩
  have inner : ∀ (q : Nat × Nat) (a b c d j4 j5 : Option W) (S' : Sto), ∃ k4 k5, forD (gTp 2 (gsCons (gNm 4) (gsCons (gNm 5) gsNil))) (fIf (fNot (fTru (fCall 1 [] R_is_fraction (fCons (fVar 5) fNil)))) fBad fSkip) (enumD ((List.range q.1).map fun p => fr (f (q.2, p)))) [a, b, c, d, j4, j5] S' = .nx [a, b, c, d, k4, k5] S' := fun q a b c d j4 j5 S' => by
    obtain ⟨ρ', S'', h1, _, k4, k5, rfl, rfl⟩ := forD_nx (g := gTp 2 (gsCons (gNm 4) (gsCons (gNm 5) gsNil))) (b := fIf (fNot (fTru (fCall 1 [] R_is_fraction (fCons (fVar 5) fNil)))) fBad fSkip)
      (fun ds ρ S'' => (∀ x ∈ ds, ∃ (i : Int) (y : Rat), x = .tuple [.int i, fr y]) ∧ ∃ k4 k5, ρ = [a, b, c, d, k4, k5] ∧ S'' = S') (by
        rintro x ds ρ S'' ⟨hx, k4, k5, rfl, rfl⟩
        obtain ⟨i, y, rfl⟩ := hx x (by simp)
        refine ⟨_, rfl, [a, b, c, d, some (.d (.int i)), some (.d (fr y))], S'', ?_, fun x hx' => hx x (by simp [hx']), _, _, rfl, rfl⟩
        simp) (enumD ((List.range q.1).map fun p => fr (f (q.2, p)))) [a, b, c, d, j4, j5] S' ⟨fun x hx => by
          unfold enumD at hx
          obtain ⟨⟨y, i⟩, hy, rfl⟩ := List.mem_map.mp hx
          have := (List.mem_zipIdx hy).2.2
          simp at this
          exact ⟨_, _, by rw [this]⟩, _, _, rfl, rfl⟩
    exact ⟨k4, k5, h1⟩
  obtain ⟨ρ', S'', h1, _, k2, k3, k4, k5, rfl, rfl⟩ := forD_nx (g := gTp 2 (gsCons (gNm 2) (gsCons (gNm 3) gsNil))) (b := fFor (fEn (fCons (fVar 3) fNil)) (gTp 2 (gsCons (gNm 4) (gsCons (gNm 5) gsNil))) (fIf (fNot (fTru (fCall 1 [] R_is_fraction (fCons (fVar 5) fNil)))) fBad fSkip))
    (fun ds ρ S'' => (∀ x ∈ ds, ∃ (i : Int) (q : Nat × Nat), x = .tuple [.int i, rowD f q]) ∧ ∃ k2 k3 k4 k5, ρ = [some (.d (mD m)), some (.d (ldD m.cs f)), k2, k3, k4, k5] ∧ S'' = S ++ T) (by
      rintro x ds ρ S'' ⟨hx, k2, k3, k4, k5, rfl, rfl⟩
      obtain ⟨i, q, rfl⟩ := hx x (by simp)
      obtain ⟨l4, l5, hi⟩ := inner q (some (.d (mD m))) (some (.d (ldD m.cs f))) (some (.d (.int i))) (some (.d (rowD f q))) k4 k5 (S ++ T)
      refine ⟨_, rfl, [some (.d (mD m)), some (.d (ldD m.cs f)), some (.d (.int i)), some (.d (rowD f q)), l4, l5], S ++ T, ?_, fun x hx' => hx x (by simp [hx']), _, _, l4, l5, rfl, rfl⟩
      simp [hi]) (enumD (m.cs.zipIdx.map (rowD f))) [some (.d (mD m)), some (.d (ldD m.cs f)), none, none, none, none] (S ++ T) ⟨fun x hx => by
        unfold enumD at hx
        obtain ⟨⟨y, i⟩, hy, rfl⟩ := List.mem_map.mp hx
        have := (List.mem_zipIdx hy).2.2
        simp at this
        exact ⟨_, _, by rw [this]⟩, _, _, _, _, rfl, rfl⟩
  unfold R_need_own_load runB B_need_own_load
  simp [startR, e, h1]
theorem r_need_load {m : Mach} (ok : Ok m) (f : Load) (S : Sto) : Pu (R_need_load [.d (mD m), .d (ldD m.cs f)] S) S (.d .none) := by
  obtain ⟨T1, e1⟩ := r_need_machine ok S
  obtain ⟨T2, e2⟩ := r_need_own_load ok.few f (S ++ T1)
  refine ⟨T1 ++ T2, ?_⟩
  unfold R_need_load runB B_need_load
  simp [startR, e1, e2]
theorem r_is_load {m : Mach} (ok : Ok m) (f : Load) (S : Sto) : Pu (R_is_load [.d (mD m), .d (ldD m.cs f)] S) S (.d (.bool true)) := by
  obtain ⟨T1, e1⟩ := r_need_machine ok S
  obtain ⟨T2, e2⟩ := r_need_own_load ok.few f (S ++ T1)
  refine ⟨T1 ++ T2, ?_⟩
  unfold R_is_load runB B_is_load
  simp [startR, e1, e2, fTry0]
/-! ### loads made of loads -/
theorem rows_eq (cs : List Nat) (f : Load) (F : Nat × Nat → PyData) (h : ∀ q ∈ cs.zipIdx, F q = rowD f q) : PyData.tuple (cs.zipIdx.map F) = ldD cs f := by
  unfold ldD
  rw [List.map_congr_left h]
theorem zip2_rows (f g : Load) (q : Nat × Nat) : zipD2 ((List.range q.1).map fun p => fr (f (q.2, p))) ((List.range q.1).map fun p => fr (g (q.2, p))) = (List.range q.1).map fun p => .tuple [fr (f (q.2, p)), fr (g (q.2, p))] := zip2_map _ _ _
theorem r_added {m : Mach} (ok : Ok m) {f g : Load} {n k : Nat} (hf : ∀ s, Sm n (f s)) (hg : ∀ s, Sm k (g s)) (S : Sto) (hl : n ≤ 3000 := by omega) (hm : k ≤ 3000 := by omega) :
    Pu (R_added [.d (mD m), .d (ldD m.cs f), .d (ldD m.cs g)] S) S (.d (ldD m.cs fun s => f s + g s)) := by
  have fw := ok.few
  have hlen := fw.len
  obtain ⟨T1, e1⟩ := r_need_load ok f S
  obtain ⟨T2, e2⟩ := r_need_own_load fw g (S ++ T1)
  obtain ⟨T3, e3⟩ := tupLc (f := fZ2 (fCons (fVar 1) (fCons (fVar 2) fNil))) (g := gTp 2 (gsCons (gNm 5) (gsCons (gNm 6) gsNil)))
    (e := fCB gTuple (fCons (fLc (fZ2 (fCons (fVar 5) (fCons (fVar 6) fNil))) (gTp 2 (gsCons (gNm 3) (gsCons (gNm 4) gsNil))) fYes (fCall 2 [] R_plus (fCons (fVar 3) (fCons (fVar 4) fNil))) [3, 4]) fNil)) (vs := [5, 6])
    (ρ := [some (.d (mD m)), some (.d (ldD m.cs f)), some (.d (ldD m.cs g)), none, none, none, none]) (S := S ++ T1 ++ T2) m.cs.zipIdx (fun q => .tuple [rowD f q, rowD g q]) (rowD fun s => f s + g s)
    (.of (by simp [zip2_map])) (by simp; omega) (fun q hq => ⟨_, fun S => rfl, fun S =>
      have hc := fw.z hq
      tupLc (List.range q.1) (fun p => .tuple [fr (f (q.2, p)), fr (g (q.2, p))]) (fun p => fr (f (q.2, p) + g (q.2, p))) (.of (by simp [wipeR, zip2_rows])) (by simp; omega) (fun p hp => ⟨_, fun S => rfl, fun S => .of (by
        simp [wipeR, r_plus (hf (q.2, p)) (hg (q.2, p)) S hl hm])⟩)⟩)
  refine ⟨T1 ++ T2 ++ T3, ?_⟩
  unfold R_added runB B_added
  have e4 : PyData.tuple (m.cs.zipIdx.map (rowD fun s => f s + g s)) = ldD m.cs fun s => f s + g s := rfl
  rw [e4] at e3
  simp only [List.append_assoc] at e2 e3 ⊢
  simp [startR, e1, e2, e3]
theorem r_scaled {m : Mach} (ok : Ok m) {f : Load} {c : Rat} {n k : Nat} (hf : ∀ s, Sm n (f s)) (hg : Sm k c) (S : Sto) (hl : n ≤ 3000 := by omega) (hm : k ≤ 3000 := by omega) :
    Pu (R_scaled [.d (mD m), .d (ldD m.cs f), .d (fr c)] S) S (.d (ldD m.cs fun s => f s * c)) := by
  have fw := ok.few
  have hlen := fw.len
  obtain ⟨T1, e1⟩ := r_need_load ok f S
  obtain ⟨T3, e3⟩ := tupLc (f := fIt (fVar 1)) (g := gNm 4)
    (e := fCB gTuple (fCons (fLc (fIt (fVar 4)) (gNm 3) fYes (fCall 2 [] R_times (fCons (fVar 3) (fCons (fVar 2) fNil))) [3]) fNil)) (vs := [4])
    (ρ := [some (.d (mD m)), some (.d (ldD m.cs f)), some (.d (fr c)), none, none]) (S := S ++ T1) m.cs.zipIdx (rowD f) (rowD fun s => f s * c)
    (.of (by simp)) (by simp; omega) (fun q hq => ⟨_, fun S => rfl, fun S =>
      have hc := fw.z hq
      tupLc (List.range q.1) (fun p => fr (f (q.2, p))) (fun p => fr (f (q.2, p) * c)) (.of (by simp [wipeR])) (by simp; omega) (fun p hp => ⟨_, fun S => rfl, fun S => .of (by
        simp [wipeR, r_times (hf (q.2, p)) hg S hl hm])⟩)⟩)
  refine ⟨T1 ++ T3, ?_⟩
  unfold R_scaled runB B_scaled
  have e4 : PyData.tuple (m.cs.zipIdx.map (rowD fun s => f s * c)) = ldD m.cs fun s => f s * c := rfl
  rw [e4] at e3
  simp only [List.append_assoc] at e3 ⊢
  simp [startR, e1, e3]
theorem fr0 : PyData.tuple [.int 0, .int 1] = fr 0 := rfl
theorem fr1 : PyData.tuple [.int 1, .int 1] = fr 1 := rfl
theorem gMulT_rep (c : Nat) (h0 : 0 < c) (h : c ≤ 30) (S : Sto) : gMulT (.d (.tuple [fr 0])) (.d (.int (c : Nat))) S = some (.d (.tuple (List.replicate c (fr 0))), S) := by
  by_cases h1 : c = 1
  · subst h1
    rfl
  · unfold gMulT
    simp only []
    rw [if_neg (by rintro ⟨h2 | h2, _⟩ <;> first | omega | cases h2), if_neg (by omega)]
    unfold gMul
    simp only []
    rw [if_pos ⟨by simp, by omega, by omega, by simp⟩]
    simp [List.flatten_replicate_singleton]
theorem r_empty {m : Mach} (ok : Ok m) (S : Sto) : Pu (R_empty [.d (mD m)] S) S (.d (ldD m.cs fun _ => 0)) := by
  have fw := ok.few
  have hlen := fw.len
  obtain ⟨T1, e1⟩ := r_need_machine ok S
  obtain ⟨T3, e3⟩ := tupLc (f := fIt (fOp2 gIx (fVar 0) (fC (.d (.int 0))))) (g := gNm 1)
    (e := fOp2 gMulT (fTup (fCons (fC (.d (.tuple [.int 0, .int 1]))) fNil)) (fVar 1)) (vs := [1])
    (ρ := [some (.d (mD m)), none]) (S := S ++ T1) m.cs.zipIdx (fun q => .int (q.1 : Nat)) (rowD fun _ => 0)
    (.of (by simp [← cs_zip m.cs fun c => PyData.int (c : Nat)])) (by simp; omega) (fun q hq => ⟨_, fun S => rfl, fun S => by
      have hc := fw.z hq
      have h0 : 0 < q.1 := ok.pos _ (by have := List.mem_zipIdx (x := q.1) (i := q.2) hq; rw [this.2.2]; exact List.getElem_mem _)
      have e5 : fTup (fCons (fC (.d (.tuple [.int 0, .int 1]))) fNil) [some (.d (mD m)), some (.d (.int (q.1 : Nat)))] S = .ok (.d (.tuple [fr 0])) S := rfl
      have e6 : PyData.tuple (List.replicate q.1 (fr 0)) = rowD (fun _ => 0) q := by
        unfold rowD
        congr 1
        rw [List.map_const']
        simp
      refine .of ?_
      simp [wipeR, e5, gMulT_rep q.1 h0 hc, e6]⟩)
  refine ⟨T1 ++ T3, ?_⟩
  unfold R_empty runB B_empty
  have e4 : PyData.tuple (m.cs.zipIdx.map (rowD fun _ => 0)) = ldD m.cs fun _ => 0 := rfl
  rw [e4] at e3
  simp only [List.append_assoc] at e3 ⊢
  simp [startR, e1, e3]
end G
set_option Elab.async false
set_option linter.all false
set_option maxRecDepth 100000
set_option maxHeartbeats 4000000
/-! M7: spots, sums over cells, readings -/
namespace G
open PySem PySem.Spec L2 PyProof.Rows
set_option autoImplicit false
def cellsZ (zs : List (Nat × Nat)) : List Spot := zs.flatMap fun q => (List.range q.1).map fun p => (q.2, p)
def cells (cs : List Nat) : List Spot := cellsZ cs.zipIdx
theorem rng_map (c : Nat) : rngD 0 c = (List.range c).map fun p => .int (p : Nat) := by
  unfold rngD
  congr 1
  funext i
  simp
theorem r_own_spots {cs : List Nat} (fw : Few cs) (S : Sto) : Pu (R_own_spots [.d (csD cs)] S) S (.d (.tuple ((cells cs).map sD))) := by
  have hlen := fw.len
  have hz : (cs.zipIdx.flatMap fun q => List.range q.1).length ≤ 1000000 := by
    have : ∀ l : List (Nat × Nat), (∀ q ∈ l, q.1 ≤ 30) → (l.flatMap fun q => List.range q.1).length ≤ 30 * l.length := fun l h => by
      induction l with
      | nil => simp
      | cons a l ih =>
        have h1 := h a (by simp)
        have h2 := ih fun q hq => h q (by simp [hq])
        simp at h2 ⊢
        omega
    have := this cs.zipIdx fun q hq => fw.z hq
    simp only [List.length_zipIdx] at this
    omega
  obtain ⟨T, e⟩ := tupLc2 (f := fEn (fCons (fVar 0) fNil)) (g := gTp 2 (gsCons (gNm 1) (gsCons (gNm 2) gsNil))) (f1 := fR1 (fCons (fVar 2) fNil)) (g1 := gNm 3) (e := fTup (fCons (fVar 1) (fCons (fVar 3) fNil))) (vs := [1, 2, 3]) (vs1 := [3])
    (ρ := [some (.d (csD cs)), none, none, none]) (S := S) cs.zipIdx (fun q => .tuple [.int (q.2 : Nat), .int (q.1 : Nat)]) (fun q => List.range q.1) (fun q p => .int (p : Nat)) (fun q p => sD (q.2, p))
    (.of (by simp [enumD, List.zipIdx_map])) hz (fun q hq => ⟨_, fun S => rfl, fun S => .of (by
      have hc := fw.z hq
      rw [r1_ev _ _ S S (q.1 : Nat) (by simp [wipeR]) (by omega)]
      simp [rng_map]), fun p hp => ⟨_, fun S => rfl, fun S => .of (by simp [wipeR, sD])⟩⟩)
  refine ⟨T, ?_⟩
  unfold R_own_spots runB B_own_spots
  have e4 : (cs.zipIdx.flatMap fun q => (List.range q.1).map fun p => sD (q.2, p)) = (cells cs).map sD := by
    unfold cells cellsZ
    rw [List.map_flatMap]
    simp [List.map_map, Function.comp_def]
  rw [e4] at e
  simp [startR, e]
theorem r_spots {m : Mach} (ok : Ok m) (S : Sto) : Pu (R_spots [.d (mD m)] S) S (.d (.tuple ((cells m.cs).map sD))) := by
  obtain ⟨T1, e1⟩ := r_need_machine ok S
  obtain ⟨T2, e2⟩ := r_own_spots ok.few (S ++ T1)
  refine ⟨T1 ++ T2, ?_⟩
  unfold R_spots runB B_spots
  simp only [List.append_assoc] at e2 ⊢
  simp [startR, e1, e2]
theorem r_one_at {m : Mach} (ok : Ok m) {s : Spot} (hs : okS m.cs s) (S : Sto) : Pu (R_one_at [.d (mD m), .d (sD s)] S) S (.d (ldD m.cs fun t => if t = s then 1 else 0)) := by
  have fw := ok.few
  have hlen := fw.len
  obtain ⟨T1, e1⟩ := r_need_machine ok S
  obtain ⟨T3, e3⟩ := tupLc (f := fEn (fCons (fOp2 gIx (fVar 0) (fC (.d (.int 0)))) fNil)) (g := gTp 2 (gsCons (gNm 3) (gsCons (gNm 4) gsNil)))
    (e := fCB gTuple (fCons (fLc (fR1 (fCons (fVar 4) fNil)) (gNm 2) fYes (fIfE (fTru (fOp2 (dEq false) (fTup (fCons (fVar 3) (fCons (fVar 2) fNil))) (fVar 1))) (fC (.d (.tuple [.int 1, .int 1]))) (fC (.d (.tuple [.int 0, .int 1])))) [2]) fNil)) (vs := [3, 4])
    (ρ := [some (.d (mD m)), some (.d (sD s)), none, none, none]) (S := S ++ T1) m.cs.zipIdx (fun q => .tuple [.int (q.2 : Nat), .int (q.1 : Nat)]) (rowD fun t => if t = s then 1 else 0)
    (.of (by simp [enumD, List.zipIdx_map])) (by simp; omega) (fun q hq => ⟨_, fun S => rfl, fun S =>
      have hc := fw.z hq
      tupLc (List.range q.1) (fun p => .int (p : Nat)) (fun p => fr (if (q.2, p) = s then 1 else 0)) (.of (by
        rw [r1_ev _ _ S S (q.1 : Nat) (by simp [wipeR]) (by omega)]
        simp [rng_map])) (by simp; omega) (fun p hp => ⟨_, fun S => rfl, fun S => .of (by
          have e5 : dEq false (.d (.tuple [.int (q.2 : Nat), .int (p : Nat)])) (.d (sD s)) S = some (.d (.bool (decide ((q.2, p) = s))), S) := by
            show dEq false (.d (sD (q.2, p))) (.d (sD s)) S = _
            rw [dEq_d false (shp_s _) (shp_s _), eqv_s]
            rfl
          by_cases hd : (q.2, p) = s
          · simp [wipeR, e5, hd, fr1]
          · simp [wipeR, e5, hd, fr0])⟩)⟩)
  refine ⟨T1 ++ T3, ?_⟩
  unfold R_one_at runB B_one_at
  have e4 : PyData.tuple (m.cs.zipIdx.map (rowD fun t => if t = s then 1 else 0)) = ldD m.cs fun t => if t = s then 1 else 0 := rfl
  rw [e4] at e3
  have e6 : R_own_one_at [.d (mD m), .d (sD s)] (S ++ T1) = .ok (.d (ldD m.cs fun t => if t = s then 1 else 0)) (S ++ T1 ++ T3) := by
    unfold R_own_one_at runB B_own_one_at
    simp [startR] at e3 ⊢
    rw [e3]
    simp
  simp only [List.append_assoc] at e6 ⊢
  simp [startR, e1, r_is_spot hs, e6]
end G
set_option Elab.async false
set_option linter.all false
set_option maxRecDepth 100000
set_option maxHeartbeats 4000000
/-! M8: sums over cells, readings -/
namespace G
open PySem PySem.Spec L2 PyProof.Rows
set_option autoImplicit false
/-- a running sum in slot j -/
theorem sum_row {E : Fe W} {op : Rat → Rat → Rat} {P : Nat → Rat → Prop} {a0 a1 a3 : Option W} {Q : Rat → Prop} (hE : ∀ k acc x S, k < 100 → P k acc → Q x → E [a0, a1, some (.d (fr acc)), a3, some (.d (fr x))] S = .ok (.d (fr (op acc x))) S ∧ P (k + 1) (op acc x)) :
    ∀ (xs : List Rat) (k : Nat) (acc : Rat) (j : Option W) (S : Sto), k + xs.length ≤ 100 → P k acc → (∀ x ∈ xs, Q x) → ∃ j', forD (gNm 4) (fSet 2 E) (xs.map fr) [a0, a1, some (.d (fr acc)), a3, j] S = .nx [a0, a1, some (.d (fr (xs.foldl op acc))), a3, j'] S ∧ P (k + xs.length) (xs.foldl op acc)
  | [], k, acc, j, S, hk, hp, hq => ⟨j, rfl, hp⟩
  | x :: xs, k, acc, j, S, hk, hp, hq => by
    simp only [List.length_cons] at hk
    obtain ⟨h1, h2⟩ := hE k acc x S (by omega) hp (hq x (by simp))
    obtain ⟨j', h3, h4⟩ := sum_row hE xs (k + 1) (op acc x) (some (.d (fr x))) S (by omega) h2 fun y hy => hq y (by simp [hy])
    refine ⟨j', ?_, ?_⟩
    · rw [List.map_cons]
      unfold forD
      simp only [gt_nm, List.set_cons_zero, List.set_cons_succ, st_set, h1, fl_ok]
      exact h3
    · have e : k + (x :: xs).length = k + 1 + xs.length := by simp; omega
      rw [e]
      exact h4
theorem sum_rows {E : Fe W} {op : Rat → Rat → Rat} {P : Nat → Rat → Prop} {a0 a1 : Option W} {f : Load} {Q : Rat → Prop} (hf : ∀ s, Q (f s)) (hE : ∀ k acc x a3 S, k < 100 → P k acc → Q x → E [a0, a1, some (.d (fr acc)), a3, some (.d (fr x))] S = .ok (.d (fr (op acc x))) S ∧ P (k + 1) (op acc x)) :
    ∀ (zs : List (Nat × Nat)) (k : Nat) (acc : Rat) (j3 j4 : Option W) (S : Sto), k + (cellsZ zs).length ≤ 100 → P k acc → ∃ k3 k4, forD (gNm 3) (fFor (fIt (fVar 3)) (gNm 4) (fSet 2 E)) (zs.map (rowD f)) [a0, a1, some (.d (fr acc)), j3, j4] S = .nx [a0, a1, some (.d (fr ((cellsZ zs).foldl (fun a s => op a (f s)) acc))), k3, k4] S ∧ P (k + (cellsZ zs).length) ((cellsZ zs).foldl (fun a s => op a (f s)) acc)
  | [], k, acc, j3, j4, S, hk, hp => ⟨j3, j4, rfl, hp⟩
  | q :: zs, k, acc, j3, j4, S, hk, hp => by
    have ec : cellsZ (q :: zs) = (List.range q.1).map (fun p => (q.2, p)) ++ cellsZ zs := rfl
    rw [ec] at hk ⊢
    simp only [List.length_append, List.length_map, List.length_range] at hk
    obtain ⟨j', h1, h2⟩ := sum_row (E := E) (op := op) (P := P) (a0 := a0) (a1 := a1) (a3 := some (.d (rowD f q))) (Q := Q) (fun k acc x S hk hp hq => hE k acc x _ S hk hp hq) ((List.range q.1).map fun p => f (q.2, p)) k acc j4 S (by simp; omega) hp (fun x hx => by
      obtain ⟨p, _, rfl⟩ := List.mem_map.mp hx
      exact hf _)
    have e1 : ((List.range q.1).map fun p => f (q.2, p)).foldl op acc = ((List.range q.1).map (fun p => (q.2, p))).foldl (fun a s => op a (f s)) acc := by
      rw [List.foldl_map, List.foldl_map]
    rw [e1] at h1 h2
    obtain ⟨k3, k4, h3, h4⟩ := sum_rows hf hE zs (k + q.1) _ (some (.d (rowD f q))) j' S (by omega) (by simpa using h2)
    refine ⟨k3, k4, ?_, ?_⟩
    · rw [List.map_cons]
      unfold forD
      have e2 : (((List.range q.1).map fun p => f (q.2, p)).map fr) = (List.range q.1).map fun p => fr (f (q.2, p)) := by rw [List.map_map]; rfl
      rw [e2] at h1
      simp only [gt_nm, List.set_cons_zero, List.set_cons_succ, st_for, it_ev, ev_var, List.getElem?_cons_zero, List.getElem?_cons_succ, bind_ok, items_row, ofO_some, fl_ok, h1, List.foldl_append]
      exact h3
    · rw [List.foldl_append]
      have e : k + ((List.range q.1).map (fun p => (q.2, p)) ++ cellsZ zs).length = k + q.1 + (cellsZ zs).length := by simp; omega
      rw [e]
      exact h4
def heldF (cs : List Nat) (f : Load) : Rat := (cells cs).foldl (fun a s => a + f s) 0
def sqF (cs : List Nat) (f : Load) : Rat := (cells cs).foldl (fun a s => a + f s * f s) 0
theorem cells_len {cs : List Nat} : (cells cs).length = cs.sum := by
  have : ∀ zs : List (Nat × Nat), (cellsZ zs).length = (zs.map Prod.fst).sum := fun zs => by
    induction zs with
    | nil => rfl
    | cons a zs ih => simp [cellsZ] at ih ⊢ <;> omega
  unfold cells
  rw [this]
  rw [List.zipIdx_map_fst]
theorem r_held {m : Mach} (ok : Ok m) {f : Load} {D M n : Nat} (hf : ∀ s, Bd D M (f s)) (h0 : 0 < D) (h1 : D < 2 ^ n) (h2 : 101 * M * D < 2 ^ n) (hn : n ≤ 3000) (S : Sto) : Pu (R_held [.d (mD m), .d (ldD m.cs f)] S) S (.d (fr (heldF m.cs f))) := by
  obtain ⟨T1, e1⟩ := r_need_load ok f S
  have hl : (cellsZ m.cs.zipIdx).length ≤ 30 := by have := ok.s30; have := cells_len (cs := m.cs); unfold cells at this; omega
  obtain ⟨k3, k4, e2, _⟩ := sum_rows (E := fCall 2 [] R_plus (fCons (fVar 2) (fCons (fVar 4) fNil))) (op := fun a x => a + x) (P := fun k q => Bd D (k * M) q) (a0 := some (.d (mD m))) (a1 := some (.d (ldD m.cs f))) (f := f) (Q := fun x => Bd D M x) hf (fun k acc x a3 S hk hp hq => by
    have b1 : Sm n acc := hp.sm h0 h1 (by
      have : k * M * D ≤ 101 * M * D := Nat.mul_le_mul_right D (Nat.mul_le_mul_right M (by omega))
      omega)
    have b2 : Sm n x := hq.sm h0 h1 (by
      have : 1 * M * D ≤ 101 * M * D := Nat.mul_le_mul_right D (Nat.mul_le_mul_right M (by omega))
      rw [Nat.one_mul] at this
      omega)
    refine ⟨by simp [r_plus b1 b2 S hn hn], ?_⟩
    have := hp.add hq
    rw [Nat.succ_mul]
    exact this) m.cs.zipIdx 0 0 none none (S ++ T1) (by omega) (by rw [Nat.zero_mul]; exact Bd.zero)
  refine ⟨T1, ?_⟩
  unfold R_held runB B_held
  have e3 : (cellsZ m.cs.zipIdx).foldl (fun a s => a + f s) 0 = heldF m.cs f := rfl
  rw [e3] at e2
  simp [startR, e1, fr0, e2]
theorem r_squares {m : Mach} (ok : Ok m) {f : Load} {D M n : Nat} (hf : ∀ s, Bd D M (f s)) (h0 : 0 < D) (h1 : D * D < 2 ^ n) (h2 : 101 * (M * M) * (D * D) < 2 ^ n) (hn : n ≤ 3000) (S : Sto) : Pu (R_squares [.d (mD m), .d (ldD m.cs f)] S) S (.d (fr (sqF m.cs f))) := by
  obtain ⟨T1, e1⟩ := r_need_load ok f S
  have hl : (cellsZ m.cs.zipIdx).length ≤ 30 := by have := ok.s30; have := cells_len (cs := m.cs); unfold cells at this; omega
  have h00 : 0 < D * D := Nat.mul_pos h0 h0
  have hDD : D ≤ D * D := Nat.le_mul_of_pos_left D h0
  have hM : M * D ≤ 101 * (M * M) * (D * D) := by
    rcases Nat.eq_zero_or_pos M with hz | hz
    · subst hz; simp
    · calc M * D ≤ (M * M) * (D * D) := Nat.mul_le_mul (Nat.le_mul_of_pos_left M hz) hDD
        _ ≤ 101 * (M * M) * (D * D) := Nat.mul_le_mul_right _ (by omega)
  obtain ⟨k3, k4, e2, _⟩ := sum_rows (E := fCall 2 [] R_plus (fCons (fVar 2) (fCons (fCall 2 [] R_times (fCons (fVar 4) (fCons (fVar 4) fNil))) fNil))) (op := fun a x => a + x * x) (P := fun k q => Bd (D * D) (k * (M * M)) q) (a0 := some (.d (mD m))) (a1 := some (.d (ldD m.cs f))) (f := f) (Q := fun x => Bd D M x) hf (fun k acc x a3 S hk hp hq => by
    have b1 : Sm n acc := hp.sm h00 h1 (by
      have : k * (M * M) * (D * D) ≤ 101 * (M * M) * (D * D) := Nat.mul_le_mul_right _ (Nat.mul_le_mul_right _ (by omega))
      omega)
    have b2 : Sm n x := hq.sm h0 (by omega) (by omega)
    have b4 := hq.mul hq
    have b3 : Sm n (x * x) := b4.sm h00 h1 (by
      have : 1 * (M * M) * (D * D) ≤ 101 * (M * M) * (D * D) := Nat.mul_le_mul_right _ (Nat.mul_le_mul_right _ (by omega))
      rw [Nat.one_mul] at this
      omega)
    refine ⟨by simp [r_times b2 b2 S hn hn, r_plus b1 b3 S hn hn], ?_⟩
    have := hp.add b4
    rw [Nat.succ_mul]
    exact this) m.cs.zipIdx 0 0 none none (S ++ T1) (by omega) (by rw [Nat.zero_mul]; exact Bd.zero)
  refine ⟨T1, ?_⟩
  unfold R_squares runB B_squares
  have e3 : (cellsZ m.cs.zipIdx).foldl (fun a s => a + f s * f s) 0 = sqF m.cs f := rfl
  rw [e3] at e2
  simp [startR, e1, fr0, e2]
/-! ### readings -/
theorem zipIdx_at {cs : List Nat} {w c : Nat} (h : cs[w]? = some c) : cs.zipIdx[w]? = some (c, w) := by simp [List.getElem?_zipIdx, h]
theorem ix_ld {cs : List Nat} {f : Load} {s : Spot} {c : Nat} (h : cs[s.1]? = some c) (S : Sto) : gIx (.d (ldD cs f)) (.d (.int (s.1 : Nat))) S = some (.d (rowD f (c, s.1)), S) :=
  ix_nat (by rw [List.getElem?_map, zipIdx_at h]; rfl) S
theorem ix_row {f : Load} {c w p : Nat} (h : p < c) (S : Sto) : gIx (.d (rowD f (c, w))) (.d (.int (p : Nat))) S = some (.d (fr (f (w, p))), S) :=
  ix_nat (by rw [List.getElem?_map, List.getElem?_range h]; rfl) S
def rdF (f : Load) (t : Tch) : Rat := (f t.1 + f t.2) / 2
@[simp] theorem ix_s0 (s : Spot) (S : Sto) : gIx (.d (sD s)) (.d (.int 0)) S = some (.d (.int (s.1 : Nat)), S) := id rfl
@[simp] theorem ix_s1 (s : Spot) (S : Sto) : gIx (.d (sD s)) (.d (.int 1)) S = some (.d (.int (s.2 : Nat)), S) := id rfl
theorem r_own_read {m : Mach} (ok : Ok m) {f : Load} {D M n : Nat} (hf : ∀ s, Bd D M (f s)) (h0 : 0 < D) (hD : D < 2 ^ n) (hM : 101 * M * D < 2 ^ n) (hn : n ≤ 3000) (S : Sto) : Pu (R_own_read [.d (mD m), .d (ldD m.cs f)] S) S (.d (.tuple (m.ts.map fun t => fr (rdF f t)))) := by
  have h8 := ok.l8
  obtain ⟨T, e⟩ := tupLc (f := fIt (fOp2 gIx (fVar 0) (fC (.d (.int 1))))) (g := gTp 2 (gsCons (gNm 2) (gsCons (gNm 3) gsNil))) (e := fCall 1 [] R_half (fCons (fCall 2 [] R_plus (fCons (fOp2 gIx (fOp2 gIx (fVar 1) (fOp2 gIx (fVar 2) (fC (.d (.int 0))))) (fOp2 gIx (fVar 2) (fC (.d (.int 1))))) (fCons (fOp2 gIx (fOp2 gIx (fVar 1) (fOp2 gIx (fVar 3) (fC (.d (.int 0))))) (fOp2 gIx (fVar 3) (fC (.d (.int 1))))) fNil))) fNil)) (vs := [2, 3])
    (ρ := [some (.d (mD m)), some (.d (ldD m.cs f)), none, none]) (S := S) m.ts tcD (fun t => fr (rdF f t)) (.of (by simp)) (by omega) (fun t ht => ⟨_, fun S => rfl, fun S => .of (by
      obtain ⟨⟨c1, h1, h2⟩, ⟨c2, h3, h4⟩, _⟩ := ok.good t ht
      have sm : ∀ s, Sm n (f s) := fun s => (hf s).sm h0 hD (by
        have : 1 * M * D ≤ 101 * M * D := Nat.mul_le_mul_right D (Nat.mul_le_mul_right M (by omega))
        rw [Nat.one_mul] at this
        omega)
      have b := r_plus (sm t.1) (sm t.2) S (by omega) (by omega)
      have b2 : Sm n (f t.1 + f t.2) := ((hf t.1).add (hf t.2)).sm h0 hD (by
        have : (M + M) * D ≤ 101 * M * D := Nat.mul_le_mul_right D (by omega)
        omega)
      simp [wipeR, ix_ld h1, ix_ld h3, ix_row h2, ix_row h4, b, r_half b2 S (by omega), rdF])⟩)
  refine ⟨T, ?_⟩
  unfold R_own_read runB B_own_read
  simp [startR, e]
end G
set_option Elab.async false
set_option linter.all false
set_option maxRecDepth 100000
set_option maxHeartbeats 4000000
/-! M9: a beat -/
namespace G
open PySem PySem.Spec L2 PyProof.Rows
set_option autoImplicit false
def rl (g : Load) (q : Nat × Nat) : List PyData := (List.range q.1).map fun p => fr (g (q.2, p))
def rc (g : Load) (q : Nat × Nat) : Cell := .lst ((rl g q).map W.d)
def asO (k n : Nat) : List W := (List.range n).map fun i => .o (k + i)
theorem asO_cons (k n : Nat) : asO k (n + 1) = .o k :: asO (k + 1) n := by
  unfold asO
  rw [List.range_succ_eq_map]
  simp [List.map_map, Function.comp_def, Nat.add_assoc, Nat.add_comm 1]
theorem comp_rows (f : Load) (ρ : Slt) (S : Sto) (h3 : 3 < ρ.length) : ∀ (zs : List (Nat × Nat)) (acc : List W) (T : Sto), acc.length + zs.length ≤ 1000000 →
    compD (gNm 3) fYes (fCB gList (fCons (fVar 3) fNil)) S.length (zs.map (rowD f)) ρ (S ++ .lst acc :: T) = .ok () (S ++ .lst (acc ++ asO (S.length + 1 + T.length) zs.length) :: (T ++ zs.map (rc f)))
  | [], acc, T, hz => by simp [compD, asO]
  | q :: zs, acc, T, hz => by
    rw [List.map_cons]
    unfold compD
    have e1 : gList [.d (rowD f q)] (S ++ .lst acc :: T) = some (.o (S ++ .lst acc :: T).length, (S ++ .lst acc :: T) ++ [rc f q]) := rfl
    simp only [gt_nm, fYes, bind_ok, if_true, ev_list, ev_cons, ev_nil, ev_var, List.getElem?_set_self h3, e1, ofO_some]
    simp only [List.append_assoc, List.cons_append, get_len_app, set_len_app]
    rw [if_pos (by unfold szOk; simp at hz ⊢; omega)]
    have ih := comp_rows f ρ S h3 zs (acc ++ [.o (S ++ .lst acc :: T).length]) (T ++ [rc f q]) (by simp at hz ⊢; omega)
    rw [ih, List.length_cons, asO_cons]
    simp [Nat.add_assoc, Nat.add_comm, Nat.add_left_comm]
/-- the store with the rows open -/
def RS (cs : List Nat) (S : Sto) (g : Load) (T : Sto) : Sto := S ++ .lst (asO (S.length + 1) cs.length) :: (cs.zipIdx.map (rc g) ++ T)
def updL (g : Load) (s : Spot) (v : Rat) : Load := fun t => if t = s then v else g t
theorem RS_k (cs : List Nat) (S : Sto) (g : Load) (T : Sto) : (RS cs S g T)[S.length]? = some (.lst (asO (S.length + 1) cs.length)) := get_len_app _ _ _
theorem RS_at {cs : List Nat} {w c : Nat} (h : cs[w]? = some c) (S : Sto) (g : Load) (T : Sto) : (RS cs S g T)[S.length + 1 + w]? = some (rc g (c, w)) := by
  have hl := (List.getElem?_eq_some_iff.mp h).1
  unfold RS
  rw [List.getElem?_append_right (by omega), show S.length + 1 + w - S.length = w + 1 from by omega, List.getElem?_cons_succ, List.getElem?_append_left (by simpa using hl), List.getElem?_map, zipIdx_at h]
  rfl
theorem RS_set {cs : List Nat} {s : Spot} {c : Nat} (h : cs[s.1]? = some c) (S : Sto) (g : Load) (T : Sto) (v : Rat) : (RS cs S g T).set (S.length + 1 + s.1) (.lst (((rl g (c, s.1)).map W.d).set s.2 (.d (fr v)))) = RS cs S (updL g s v) T := by
  have hl := (List.getElem?_eq_some_iff.mp h).1
  unfold RS
  rw [List.set_append_right _ _ (by omega), show S.length + 1 + s.1 - S.length = s.1 + 1 from by omega, List.set_cons_succ, List.set_append_left _ _ (by simpa using hl)]
  congr 3
  apply List.ext_getElem?
  intro j
  by_cases hj : s.1 = j
  · subst hj
    rw [List.getElem?_set_self (by simpa using hl), List.getElem?_map, zipIdx_at h]
    simp only [Option.map_some, rc]
    congr 2
    apply List.ext_getElem?
    intro p
    by_cases hp : s.2 = p
    · subst hp
      by_cases hc : s.2 < c
      · rw [List.getElem?_set_self (by simp [rl, hc])]
        simp [rl, List.getElem?_range hc, updL]
      · rw [List.getElem?_eq_none (by simp [rl]; omega), List.getElem?_eq_none (by simp [rl]; omega)]
    · rw [List.getElem?_set_ne hp]
      by_cases hc : p < c
      · have : ¬ ((s.1, p) = s) := fun z => hp (by rw [← z])
        simp [rl, List.getElem?_range hc, updL, this]
      · rw [List.getElem?_eq_none (by simp [rl]; omega), List.getElem?_eq_none (by simp [rl]; omega)]
  · rw [List.getElem?_set_ne hj, List.getElem?_map, List.getElem?_map]
    cases hq : cs.zipIdx[j]? with
    | none => rfl
    | some q =>
      have hq2 : q.2 = j := by
        rw [List.getElem?_zipIdx] at hq
        cases hc : cs[j]? with
        | none => rw [hc] at hq; cases hq
        | some c' => rw [hc] at hq; cases hq; simp
      simp only [Option.map_some, rc, rl]
      congr 4
      funext p
      have : ¬ ((q.2, p) = s) := fun z => hj (by rw [← z]; exact hq2.symm ▸ rfl)
      simp [updL, this]
theorem ix_rows {cs : List Nat} {w c : Nat} (h : cs[w]? = some c) (S : Sto) (g : Load) (T : Sto) : gIx (.o S.length) (.d (.int (w : Nat))) (RS cs S g T) = some (.o (S.length + 1 + w), RS cs S g T) := by
  have hl := (List.getElem?_eq_some_iff.mp h).1
  unfold gIx
  have e : seqOf (.o S.length) (RS cs S g T) = some (asO (S.length + 1) cs.length) := by
    unfold seqOf
    simp only [RS_k]
  simp only [e]
  rw [atI_nat (x := .o (S.length + 1 + w)) (by unfold asO; rw [List.getElem?_map, List.getElem?_range hl]; rfl)]
  rfl
theorem put_rows {cs : List Nat} {s : Spot} (h : okS cs s) (S : Sto) (g : Load) (T : Sto) (v : Rat) : putL (.o (S.length + 1 + s.1)) (.d (.int (s.2 : Nat))) (.d (fr v)) (RS cs S g T) = some (RS cs S (updL g s v) T) := by
  obtain ⟨c, h1, h2⟩ := h
  unfold putL
  simp only [RS_at h1]
  have e : L2.ixN ((rl g (c, s.1)).map W.d).length ((s.2 : Nat) : Int) = some s.2 := by
    unfold L2.ixN
    rw [if_pos (by omega), if_pos (by simp [rl]; omega)]
    simp
  unfold rc
  simp only [e, Option.map_some]
  rw [RS_set h1]
def aftF (f : Load) (ts : List Tch) (g : Load) : Load := ts.foldl (fun g t => updL (updL g t.1 (rdF f t)) t.2 (rdF f t)) g
@[simp] theorem st_putL (fo fi fv : Fe W) (ρ : Slt) (S : Sto) : fPutL fo fi fv ρ S = (fv ρ S).fl ρ fun z S1 => (fo ρ S1).fl ρ fun x S2 => (fi ρ S2).fl ρ fun y S3 => match putL x y z S3 with
  | some S4 => .nx ρ S4
  | none => .bad := id rfl
theorem forD_nil (g : Gt) (b : Fs) (ρ : Slt) (S : Sto) : forD g b [] ρ S = .nx ρ S := id rfl
theorem forD_cons (g : Gt) (b : Fs) (d : PyData) (ds : List PyData) (ρ : Slt) (S : Sto) : forD g b (d :: ds) ρ S = match g (.d d) ρ S with
  | none => .bad
  | some ρ1 => match b ρ1 S with
    | .nx ρ2 S2 => forD g b ds ρ2 S2
    | .ct ρ2 S2 => forD g b ds ρ2 S2
    | .bk ρ2 S2 => .nx ρ2 S2
    | r => r := id rfl
theorem beat_loop {cs : List Nat} {f : Load} {S T : Sto} {a0 a1 a3 : Option W} : ∀ (ts : List Tch) (g : Load) (j4 j5 j6 j7 : Option W), (∀ t ∈ ts, okS cs t.1 ∧ okS cs t.2) → ∃ k4 k5 k6 k7,
    forD (gTp 2 (gsCons (gNm 4) (gsCons (gNm 5) gsNil))) (fFor (fIt (fVar 4)) (gTp 2 (gsCons (gNm 6) (gsCons (gNm 7) gsNil))) (fPutL (fOp2 gIx (fVar 2) (fVar 6)) (fVar 7) (fVar 5))) (ts.map fun t => .tuple [tcD t, fr (rdF f t)]) [a0, a1, some (.o S.length), a3, j4, j5, j6, j7] (RS cs S g T) =
      .nx [a0, a1, some (.o S.length), a3, k4, k5, k6, k7] (RS cs S (aftF f ts g) T)
  | [], g, j4, j5, j6, j7, h => ⟨j4, j5, j6, j7, rfl⟩
  | t :: ts, g, j4, j5, j6, j7, h => by
    obtain ⟨h1, h2⟩ := h t (by simp)
    obtain ⟨c1, h11, _⟩ := id h1
    obtain ⟨c2, h21, _⟩ := id h2
    obtain ⟨k4, k5, k6, k7, ih⟩ := beat_loop (f := f) (S := S) (T := T) (a0 := a0) (a1 := a1) (a3 := a3) ts (updL (updL g t.1 (rdF f t)) t.2 (rdF f t)) (some (.d (tcD t))) (some (.d (fr (rdF f t)))) (some (.d (.int (t.2.1 : Nat)))) (some (.d (.int (t.2.2 : Nat)))) fun u hu => h u (by simp [hu])
    refine ⟨k4, k5, k6, k7, ?_⟩
    rw [List.map_cons]
    have et : itemsOf (.d (tcD t)) (RS cs S g T) = some ([sD t.1, sD t.2], RS cs S g T) := rfl
    have s1 : ∀ (ρ : Slt) (S' : Sto) (s : Spot), gTp 2 (gsCons (gNm 6) (gsCons (gNm 7) gsNil)) (.d (sD s)) ρ S' = some ((ρ.set 6 (some (.d (.int (s.1 : Nat))))).set 7 (some (.d (.int (s.2 : Nat))))) := fun ρ S' s => rfl
    simp only [forD_cons, forD_nil, gt_tp2, gt_nm, List.set_cons_zero, List.set_cons_succ, st_for, it_ev, ev_var, List.getElem?_cons_zero, List.getElem?_cons_succ, bind_ok, et, ofO_some, fl_ok, s1, st_putL, ev_op2, ix_rows h11, put_rows h1, ix_rows h21, put_rows h2]
    exact ih
/-! the rows are closed -/
def fzc (g : Load) (q : Nat × Nat) : Cell := .fz (.list (rl g q))
theorem frz_rows (g : Load) : ∀ (zs : List (Nat × Nat)) (P T : Sto), frzL (frz 5) (asO P.length zs.length) (P ++ (zs.map (rc g) ++ T)) = some (zs.map fun q => .list (rl g q), P ++ (zs.map (fzc g) ++ T))
  | [], P, T => rfl
  | q :: zs, P, T => by
    rw [List.length_cons, asO_cons]
    unfold frzL
    have e1 : frz 5 (.o P.length) (P ++ ((q :: zs).map (rc g) ++ T)) = some (.list (rl g q), P ++ (fzc g q :: (zs.map (rc g) ++ T))) := by
      show (match (P ++ ((q :: zs).map (rc g) ++ T))[P.length]? with | some (.fz x) => some (x, P ++ ((q :: zs).map (rc g) ++ T)) | some (.lst ws) => (match frzL (frz 4) ws (P ++ ((q :: zs).map (rc g) ++ T)) with | some (ds, S1) => some (PyData.list ds, S1.set P.length (.fz (.list ds))) | none => none) | _ => none) = _
      rw [List.map_cons, List.cons_append, get_len_app]
      simp only [rc, frzL_ds, set_len_app]
      rfl
    rw [e1]
    have ih := frz_rows g zs (P ++ [fzc g q]) T
    simp only [List.length_append, List.length_cons, List.length_nil, Nat.zero_add, List.append_assoc, List.cons_append, List.nil_append] at ih
    simp only [ih, List.map_cons, List.cons_append]
theorem items_rows (cs : List Nat) (S : Sto) (g : Load) (T : Sto) : ∃ T', itemsOf (.o S.length) (RS cs S g T) = some (cs.zipIdx.map fun q => .list (rl g q), S ++ T') := by
  have e := frz_rows g cs.zipIdx (S ++ [.lst (asO (S.length + 1) cs.length)]) T
  simp only [List.length_append, List.length_cons, List.length_nil, Nat.zero_add, List.append_assoc, List.cons_append, List.nil_append, List.length_zipIdx] at e
  refine ⟨.fz (.list (cs.zipIdx.map fun q => .list (rl g q))) :: (cs.zipIdx.map (fzc g) ++ T), ?_⟩
  unfold itemsOf
  have e2 : frz 6 (.o S.length) (RS cs S g T) = some (.list (cs.zipIdx.map fun q => .list (rl g q)), S ++ .fz (.list (cs.zipIdx.map fun q => .list (rl g q))) :: (cs.zipIdx.map (fzc g) ++ T)) := by
    show (match (RS cs S g T)[S.length]? with | some (.fz x) => some (x, RS cs S g T) | some (.lst ws) => (match frzL (frz 5) ws (RS cs S g T) with | some (ds, S1) => some (PyData.list ds, S1.set S.length (.fz (.list ds))) | none => none) | _ => none) = _
    rw [RS_k]
    unfold RS
    simp only [e, set_len_app]
  rw [e2]
theorem cut_hi (xs : List W) : cutW xs (some 1) none = xs.drop 1 := by
  unfold cutW
  cases xs with
  | nil => rfl
  | cons a xs => simp [HT.sIx, Nat.min_def]
theorem cut_lo (xs : List W) : cutW xs none (some 1) = xs.take 1 := by
  unfold cutW
  cases xs with
  | nil => rfl
  | cons a xs => simp [HT.sIx, Nat.min_def]
theorem rot_row (g : Load) (q : Nat × Nat) (h : 0 < q.1) : (rl g q).drop 1 ++ (rl g q).take 1 = (List.range q.1).map fun p => fr (g (q.2, (p + 1) % q.1)) := by
  obtain ⟨c, w⟩ := q
  simp only at h
  unfold rl
  simp only []
  apply List.ext_getElem?
  intro i
  by_cases h1 : i + 1 < c
  · rw [List.getElem?_append_left (by simp; omega), List.getElem?_drop, List.getElem?_map, List.getElem?_map, List.getElem?_range (by omega), List.getElem?_range (by omega)]
    simp [Nat.mod_eq_of_lt h1, Nat.add_comm]
  · by_cases h2 : i + 1 = c
    · subst h2
      rw [List.getElem?_append_right (by simp)]
      simp
    · rw [List.getElem?_eq_none (by simp; omega), List.getElem?_eq_none (by simp; omega)]
end G
set_option Elab.async false
set_option linter.all false
set_option maxRecDepth 100000
set_option maxHeartbeats 4000000
/-! M10: beats -/
namespace G
open PySem PySem.Spec L2 PyProof.Rows
set_option autoImplicit false
@[simp] theorem part1 (ρ : Slt) (S : Sto) : fPart (fC (.d (.int 1))) ρ S = .ok (some 1) S := rfl
@[simp] theorem noP (ρ : Slt) (S : Sto) : fNoP ρ S = .ok none S := id rfl
@[simp] theorem ev_sl (f : Fe W) (l h : Fe (Option Int)) (ρ : Slt) (S : Sto) : fSl f l h ρ S = (f ρ S).bind fun x S1 => (l ρ S1).bind fun lo S2 => (h ρ S2).bind fun hi S3 => ofO (gSl x lo hi S3) := id rfl
theorem sl_l (ds : List PyData) (lo hi : Option Int) (S : Sto) : gSl (.d (.list ds)) lo hi S = some (.o S.length, S ++ [.lst (cutW (ds.map W.d) lo hi)]) := rfl
theorem rot_ev (g : Load) (q : Nat × Nat) (h : 0 < q.1) (hc : q.1 ≤ 30) (a0 a1 a2 a4 a5 a6 a7 : Option W) (S : Sto) :
    Pu (fCB gTuple (fCons (fOp2 gAdd (fSl (fVar 3) (fPart (fC (.d (.int 1)))) fNoP) (fSl (fVar 3) fNoP (fPart (fC (.d (.int 1)))))) fNil) [a0, a1, a2, some (.d (.list (rl g q))), a4, a5, a6, a7] S) S (.d (.tuple ((List.range q.1).map fun p => fr (g (q.2, (p + 1) % q.1))))) := by
  have hl : (rl g q).length = q.1 := by simp [rl]
  refine ⟨[.lst ((rl g q).map W.d |>.drop 1), .lst ((rl g q).map W.d |>.take 1), .lst (((rl g q).drop 1 ++ (rl g q).take 1).map W.d)], ?_⟩
  have e1 : gAdd (.o S.length) (.o (S.length + 1)) (S ++ [.lst ((rl g q).map W.d |>.drop 1), .lst ((rl g q).map W.d |>.take 1)]) = some (.o (S.length + 2), S ++ [.lst ((rl g q).map W.d |>.drop 1), .lst ((rl g q).map W.d |>.take 1), .lst (((rl g q).drop 1 ++ (rl g q).take 1).map W.d)]) := by
    have h1 : hpl (.o S.length) (S ++ [.lst ((rl g q).map W.d |>.drop 1), .lst ((rl g q).map W.d |>.take 1)]) = some ((rl g q).map W.d |>.drop 1) := by
      unfold hpl
      simp only [get_len_app]
    have h2 : hpl (.o (S.length + 1)) (S ++ [.lst ((rl g q).map W.d |>.drop 1), .lst ((rl g q).map W.d |>.take 1)]) = some ((rl g q).map W.d |>.take 1) := by
      have h3 : (S ++ [Cell.lst ((rl g q).map W.d |>.drop 1), Cell.lst ((rl g q).map W.d |>.take 1)])[S.length + 1]? = some (Cell.lst ((rl g q).map W.d |>.take 1)) := by
        rw [List.getElem?_append_right (by omega)]
        simp
      unfold hpl
      simp only [h3]
    unfold gAdd
    simp only [h1, h2]
    rw [if_pos (by unfold szOk; simp; omega)]
    simp
  have e2 : gTuple [.o (S.length + 2)] (S ++ [.lst ((rl g q).map W.d |>.drop 1), .lst ((rl g q).map W.d |>.take 1), .lst (((rl g q).drop 1 ++ (rl g q).take 1).map W.d)]) = some (.d (.tuple ((rl g q).drop 1 ++ (rl g q).take 1)), S ++ [.lst ((rl g q).map W.d |>.drop 1), .lst ((rl g q).map W.d |>.take 1), .lst (((rl g q).drop 1 ++ (rl g q).take 1).map W.d)]) :=
    gTuple_o (by rw [List.getElem?_append_right (by omega)]; simp)
  rw [rot_row g q h] at e2
  rw [rot_row g q h] at e1 ⊢
  simp only [ev_cb, ev_cons, ev_nil, ev_op2, ev_sl, ev_var, List.getElem?_cons_zero, List.getElem?_cons_succ, bind_ok, part1, noP, sl_l, cut_hi, cut_lo, ofO_some, List.append_assoc, List.length_append, List.length_cons, List.length_nil, List.cons_append, List.nil_append, Nat.zero_add, e1, e2]
theorem tupLc' {α : Type} {f : Fe (List PyData)} {g : Gt} {e : Fe W} {vs : List Nat} {ρ : Slt} {S S0 : Sto} (ds : List α) (mk : α → PyData) (y : α → PyData) (hf : f ρ S = .ok (ds.map mk) S0) (hz : ds.length ≤ 1000000)
    (h : ∀ d ∈ ds, ∃ ρ1, (∀ S, g (.d (mk d)) (wipeR ρ vs) S = some ρ1) ∧ ∀ S, Pu (e ρ1 S) S (.d (y d))) : ∃ T, fCB gTuple (fCons (fLc f g fYes e vs) fNil) ρ S = .ok (.d (.tuple (ds.map y))) (S0 ++ T) := by
  obtain ⟨T, e1⟩ := compD_ok (n := S0.length) (yf := fun d => W.d (y d)) ds [] S0 [] h (by simpa using hz) rfl
  rw [List.nil_append] at e1
  refine ⟨.lst (ds.map fun d => .d (y d)) :: T, ?_⟩
  have e2 : fLc f g fYes e vs ρ S = .ok (.o S0.length) (S0 ++ .lst (ds.map fun d => .d (y d)) :: T) := by
    unfold fLc
    rw [hf]
    simp only [bind_ok, e1, noX_ok]
  simp only [ev_cb, ev_cons, ev_nil, e2, bind_ok]
  rw [gTuple_o (ds := ds.map y) (by rw [get_len_app]; simp [List.map_map, Function.comp_def])]
  simp
def beatF (m : Mach) (f : Load) : Load := fun s => aftF f m.ts f (s.1, (s.2 + 1) % (m.cs.getD s.1 1))
theorem r_own_beat {m : Mach} (ok : Ok m) {f : Load} {D M n : Nat} (hf : ∀ s, Bd D M (f s)) (h0 : 0 < D) (hD : D < 2 ^ n) (hM : 101 * M * D < 2 ^ n) (hn : n ≤ 3000) (S : Sto) : Pu (R_own_beat [.d (mD m), .d (ldD m.cs f)] S) S (.d (ldD m.cs (beatF m f))) := by
  have fw := ok.few
  have hlen := fw.len
  have c1 := comp_rows f (wipeR [some (.d (mD m)), some (.d (ldD m.cs f)), none, none, none, none, none, none] [3]) S (by simp [wipeR]) m.cs.zipIdx [] [] (by simp; omega)
  simp only [List.length_nil, Nat.add_zero, List.nil_append, List.length_zipIdx] at c1
  have e1 : fLc (fIt (fVar 1)) (gNm 3) fYes (fCB gList (fCons (fVar 3) fNil)) [3] [some (.d (mD m)), some (.d (ldD m.cs f)), none, none, none, none, none, none] S = .ok (.o S.length) (RS m.cs S f []) := by
    unfold fLc
    simp only [it_ev, ev_var, List.getElem?_cons_zero, List.getElem?_cons_succ, bind_ok, items_ld, ofO_some]
    rw [show S ++ [Cell.lst []] = S ++ Cell.lst [] :: [] from rfl, c1]
    simp [RS]
  obtain ⟨T2, e2⟩ := r_own_read ok hf h0 hD hM hn (RS m.cs S f [])
  have e3 : RS m.cs S f [] ++ T2 = RS m.cs S f T2 := by simp [RS]
  rw [e3] at e2
  obtain ⟨k4, k5, k6, k7, e4⟩ := beat_loop (cs := m.cs) (f := f) (S := S) (T := T2) (a0 := some (.d (mD m))) (a1 := some (.d (ldD m.cs f))) (a3 := none) m.ts f none none none none fun t ht => ⟨(ok.good t ht).1, (ok.good t ht).2.1⟩
  obtain ⟨T3, e5⟩ := items_rows m.cs S (aftF f m.ts f) T2
  obtain ⟨T4, e6⟩ := tupLc' (f := fIt (fVar 2)) (g := gNm 3) (e := fCB gTuple (fCons (fOp2 gAdd (fSl (fVar 3) (fPart (fC (.d (.int 1)))) fNoP) (fSl (fVar 3) fNoP (fPart (fC (.d (.int 1)))))) fNil)) (vs := [3])
    (ρ := [some (.d (mD m)), some (.d (ldD m.cs f)), some (.o S.length), none, k4, k5, k6, k7]) (S := RS m.cs S (aftF f m.ts f) T2) (S0 := S ++ T3) m.cs.zipIdx (fun q => .list (rl (aftF f m.ts f) q)) (rowD (beatF m f)) (by simp [e5]) (by simp; omega) (fun q hq => ⟨_, fun S => rfl, fun S' => by
      have hc := fw.z hq
      have hz := List.mem_zipIdx (x := q.1) (i := q.2) hq
      have h0 : 0 < q.1 := ok.pos _ (by rw [hz.2.2]; exact List.getElem_mem _)
      have hx := rot_ev (aftF f m.ts f) q h0 hc (some (.d (mD m))) (some (.d (ldD m.cs f))) (some (.o S.length)) k4 k5 k6 k7 S'
      have hy : PyData.tuple ((List.range q.1).map fun p => fr (aftF f m.ts f (q.2, (p + 1) % q.1))) = rowD (beatF m f) q := by
        unfold rowD beatF
        congr 1
        apply List.map_congr_left
        intro p _
        have hg : m.cs.getD q.2 1 = q.1 := by
          rw [List.getD_eq_getElem?_getD, hz.2.2]
          have hlt : q.2 < m.cs.length := by have := hz.2.1; omega
          simp [List.getElem?_eq_getElem hlt]
        simp only [hg]
      rw [hy] at hx
      exact hx⟩)
  refine ⟨T3 ++ T4, ?_⟩
  unfold R_own_beat runB B_own_beat
  have e7 : PyData.tuple (m.cs.zipIdx.map (rowD (beatF m f))) = ldD m.cs (beatF m f) := rfl
  rw [e7] at e6
  have e8 : ∀ S', itemsOf (.d (.tuple (m.ts.map fun t => fr (rdF f t)))) S' = some (m.ts.map fun t => fr (rdF f t), S') := fun S' => rfl
  simp only [List.append_assoc] at e6
  simp [startR, e1, e2, e8, zip2_map, e4, e6]
end G
set_option Elab.async false
set_option linter.all false
set_option maxRecDepth 100000
set_option maxHeartbeats 4000000
/-! M11: behind, readings -/
namespace G
open PySem PySem.Spec L2 PyProof.Rows
set_option autoImplicit false
theorem aft_cases (f : Load) : ∀ (ts : List Tch) (g : Load) (s : Spot), aftF f ts g s = g s ∨ ∃ t ∈ ts, aftF f ts g s = rdF f t
  | [], g, s => .inl rfl
  | t :: ts, g, s => by
    rcases aft_cases f ts (updL (updL g t.1 (rdF f t)) t.2 (rdF f t)) s with h | ⟨u, hu, h⟩
    · have e : aftF f (t :: ts) g s = aftF f ts (updL (updL g t.1 (rdF f t)) t.2 (rdF f t)) s := rfl
      rw [e, h]
      unfold updL
      by_cases h1 : s = t.2
      · exact .inr ⟨t, by simp, by simp [h1]⟩
      · by_cases h2 : s = t.1
        · refine .inr ⟨t, by simp, ?_⟩
          rw [if_neg h1, if_pos h2]
        · left
          rw [if_neg h1, if_neg h2]
    · exact .inr ⟨u, by simp [hu], h⟩
theorem Bd.beat {m : Mach} {f : Load} {D M : Nat} (hf : ∀ s, Bd D M (f s)) : ∀ s, Bd (D * 2) M (beatF m f s) := fun s => by
  unfold beatF
  rcases aft_cases f m.ts f (s.1, (s.2 + 1) % (m.cs.getD s.1 1)) with h | ⟨t, _, h⟩
  · rw [h]; exact (hf _).mono ⟨2, rfl⟩ (Nat.le_refl _)
  · rw [h]; exact (hf _).half (hf _)
def beatN (m : Mach) : Nat → Load → Load
  | 0, f => f
  | k + 1, f => beatN m k (beatF m f)
theorem Bd.beatN {m : Mach} {M : Nat} : ∀ (k : Nat) {D : Nat} {f : Load}, (∀ s, Bd D M (f s)) → ∀ s, Bd (D * 2 ^ k) M (beatN m k f s)
  | 0, D, f, hf, s => by
    rw [Nat.pow_zero, Nat.mul_one]
    exact hf s
  | k + 1, D, f, hf, s => by
    have h := Bd.beatN (m := m) (f := beatF m f) k (Bd.beat hf) s
    have e : D * 2 ^ (k + 1) = D * 2 * 2 ^ k := by rw [Nat.pow_succ, Nat.mul_comm (2 ^ k) 2, Nat.mul_assoc]
    rw [e]
    exact h
/-- room for so many beats -/
structure Rmb (D M n k : Nat) : Prop where
  pos : 0 < D
  d : D * 2 ^ k < 2 ^ n
  m : 101 * M * (D * 2 ^ k) < 2 ^ n
  n : n ≤ 3000
theorem Rmb.here {D M n k : Nat} (h : Rmb D M n k) : D < 2 ^ n ∧ 101 * M * D < 2 ^ n := by
  have h1 : D ≤ D * 2 ^ k := Nat.le_mul_of_pos_right D (Nat.pow_pos (by decide))
  have h2 : 101 * M * D ≤ 101 * M * (D * 2 ^ k) := Nat.mul_le_mul_left _ h1
  exact ⟨Nat.lt_of_le_of_lt h1 h.d, Nat.lt_of_le_of_lt h2 h.m⟩
theorem Rmb.next {D M n k : Nat} (h : Rmb D M n (k + 1)) : Rmb (D * 2) M n k := by
  have e : D * 2 ^ (k + 1) = D * 2 * 2 ^ k := by rw [Nat.pow_succ, Nat.mul_comm (2 ^ k) 2, Nat.mul_assoc]
  exact ⟨by have := h.pos; omega, by rw [← e]; exact h.d, by rw [← e]; exact h.m, h.n⟩
theorem r_beat {m : Mach} (ok : Ok m) {f : Load} {D M n k : Nat} (hf : ∀ s, Bd D M (f s)) (hr : Rmb D M n k) (S : Sto) : Pu (R_beat [.d (mD m), .d (ldD m.cs f)] S) S (.d (ldD m.cs (beatF m f))) := by
  obtain ⟨T1, e1⟩ := r_need_load ok f S
  obtain ⟨T2, e2⟩ := r_own_beat ok hf hr.pos hr.here.1 hr.here.2 hr.n (S ++ T1)
  refine ⟨T1 ++ T2, ?_⟩
  unfold R_beat runB B_beat
  simp only [List.append_assoc] at e2 ⊢
  simp [startR, e1, e2]
def rdD (m : Mach) (f : Load) : PyData := .tuple (m.ts.map fun t => fr (rdF f t))
theorem r_read {m : Mach} (ok : Ok m) {f : Load} {D M n k : Nat} (hf : ∀ s, Bd D M (f s)) (hr : Rmb D M n k) (S : Sto) : Pu (R_read [.d (mD m), .d (ldD m.cs f)] S) S (.d (rdD m f)) := by
  obtain ⟨T1, e1⟩ := r_need_load ok f S
  obtain ⟨T2, e2⟩ := r_own_read ok hf hr.pos hr.here.1 hr.here.2 hr.n (S ++ T1)
  refine ⟨T1 ++ T2, ?_⟩
  unfold R_read runB B_read
  simp only [List.append_assoc] at e2 ⊢
  simp [startR, e1, e2, rdD]
theorem r_need_beats {k : Nat} (hk : k ≤ 300) (S : Sto) : R_need_beats [.d (.int (k : Nat))] S = .ok (.d .none) S := by
  unfold R_need_beats runB B_need_beats
  have h1 : (0 : Int) ≤ (k : Int) := by omega
  have h2 : (k : Int) ≤ 300 := by omega
  simp [startR, h1, h2]
theorem behind_loop {m : Mach} (ok : Ok m) {M n : Nat} {a0 a1 a2 : Option W} (ha : a0 = some (.d (mD m))) : ∀ (k i : Nat) (D : Nat) (f : Load) (j4 : Option W) (S : Sto), (∀ s, Bd D M (f s)) → Rmb D M n k → ∃ T k4,
    forD (gNm 4) (fSet 3 (fCall 2 [] R_own_beat (fCons (fVar 0) (fCons (fVar 3) fNil)))) ((List.range' i k).map fun p => .int (p : Nat)) [a0, a1, a2, some (.d (ldD m.cs f)), j4] S = .nx [a0, a1, a2, some (.d (ldD m.cs (beatN m k f))), k4] (S ++ T)
  | 0, i, D, f, j4, S, hf, hr => ⟨[], j4, by simp [forD_nil, beatN]⟩
  | k + 1, i, D, f, j4, S, hf, hr => by
    obtain ⟨T1, e1⟩ := r_own_beat ok hf hr.pos hr.here.1 hr.here.2 hr.n S
    obtain ⟨T2, k4, e2⟩ := behind_loop ok ha k (i + 1) (D * 2) (beatF m f) (some (.d (.int (i : Nat)))) (S ++ T1) (Bd.beat hf) hr.next
    refine ⟨T1 ++ T2, k4, ?_⟩
    subst ha
    rw [List.range'_succ, List.map_cons]
    simp only [forD_cons, gt_nm, List.set_cons_zero, List.set_cons_succ, st_set, ev_call, ev_cons, ev_nil, ev_var, List.getElem?_cons_zero, List.getElem?_cons_succ, bind_ok, List.length_cons, List.length_nil, Nat.zero_add, Nat.reduceAdd, if_true, ofD_nil, List.append_nil, e1, fl_ok]
    rw [e2, List.append_assoc]
    rfl
theorem rng' (k : Nat) : rngD 0 k = (List.range' 0 k).map fun p => .int (p : Nat) := by
  rw [rng_map, List.range_eq_range']
theorem r_behind {m : Mach} (ok : Ok m) {f : Load} {D M n k : Nat} (hf : ∀ s, Bd D M (f s)) (hr : Rmb D M n k) (hk : k ≤ 300) (S : Sto) : Pu (R_behind [.d (mD m), .d (ldD m.cs f), .d (.int (k : Nat))] S) S (.d (ldD m.cs (beatN m k f))) := by
  obtain ⟨T1, e1⟩ := r_need_load ok f S
  obtain ⟨T2, k4, e2⟩ := behind_loop ok (a0 := some (.d (mD m))) (a1 := some (.d (ldD m.cs f))) (a2 := some (.d (.int (k : Nat)))) rfl k 0 D f none (S ++ T1) hf hr
  refine ⟨T1 ++ T2, ?_⟩
  unfold R_behind runB B_behind
  have e3 : fR1 (fCons (fVar 2) fNil) [some (.d (mD m)), some (.d (ldD m.cs f)), some (.d (.int (k : Nat))), some (.d (ldD m.cs f)), none] (S ++ T1) = .ok ((List.range' 0 k).map fun p => .int (p : Nat)) (S ++ T1) := by
    rw [r1_ev _ _ (S ++ T1) (S ++ T1) (k : Nat) (by simp) (by omega), ← rng']
    simp
  simp [startR, e1, r_need_beats hk, e3, e2]
/-! readings -/
def rdsN (m : Mach) : Nat → Load → List PyData
  | 0, _ => []
  | k + 1, f => rdD m f :: rdsN m k (beatF m f)
theorem app_o {S : Sto} {ws : List W} {T : Sto} (x : W) (hl : ws.length ≤ 1000) : gApp (.o S.length) [x] (S ++ .lst ws :: T) = some (.d .none, S ++ .lst (ws ++ [x]) :: T) := by
  unfold gApp
  simp only [get_len_app, set_len_app]
  rw [if_pos (by unfold szOk; simp; omega)]
theorem hpl_o {S : Sto} {ws : List W} {T : Sto} : hpl (.o S.length) (S ++ .lst ws :: T) = some ws := by
  unfold hpl
  simp only [get_len_app]
theorem readings_loop {m : Mach} (ok : Ok m) {M n : Nat} {a0 a1 a2 : Option W} {S : Sto} (ha : a0 = some (.d (mD m))) : ∀ (k i : Nat) (D : Nat) (f : Load) (j5 : Option W) (ws : List W) (T : Sto), (∀ s, Bd D M (f s)) → Rmb D M n k → ws.length + k ≤ 1000 → ∃ T' k5 g,
    forD (gNm 5) (fSeq (fExp (fMt gApp (fVar 3) (fCons (fCall 2 [] R_own_read (fCons (fVar 0) (fCons (fVar 4) fNil))) fNil))) (fSet 4 (fCall 2 [] R_own_beat (fCons (fVar 0) (fCons (fVar 4) fNil))))) ((List.range' i k).map fun p => .int (p : Nat)) [a0, a1, a2, some (.o S.length), some (.d (ldD m.cs f)), j5] (S ++ .lst ws :: T) =
      .nx [a0, a1, a2, some (.o S.length), g, k5] (S ++ .lst (ws ++ (rdsN m k f).map W.d) :: T')
  | 0, i, D, f, j5, ws, T, hf, hr, hz => ⟨T, j5, _, by simp [forD_nil, rdsN]; rfl⟩
  | k + 1, i, D, f, j5, ws, T, hf, hr, hz => by
    obtain ⟨T1, e1⟩ := r_own_read ok hf hr.pos hr.here.1 hr.here.2 hr.n (S ++ .lst ws :: T)
    obtain ⟨T2, e2⟩ := r_own_beat ok hf hr.pos hr.here.1 hr.here.2 hr.n (S ++ .lst (ws ++ [.d (rdD m f)]) :: (T ++ T1))
    obtain ⟨T3, k5, g, e3⟩ := readings_loop ok ha k (i + 1) (D * 2) (beatF m f) (some (.d (.int (i : Nat)))) (ws ++ [.d (rdD m f)]) (T ++ T1 ++ T2) (Bd.beat hf) hr.next (by simp; omega)
    refine ⟨T3, k5, g, ?_⟩
    subst ha
    have e4 : PyData.tuple (m.ts.map fun t => fr (rdF f t)) = rdD m f := rfl
    rw [e4] at e1
    rw [List.range'_succ, List.map_cons]
    simp only [List.append_assoc, List.cons_append] at e1 e2 e3
    simp only [forD_cons, gt_nm, List.set_cons_zero, List.set_cons_succ, st_seq, st_exp, ev_mt, st_set, ev_call, ev_cons, ev_nil, ev_var, List.getElem?_cons_zero, List.getElem?_cons_succ, bind_ok, hpl_o, Option.isSome_some, List.length_cons, List.length_nil, Nat.zero_add, Nat.reduceAdd, if_true, ofD_nil, List.append_nil, e1, app_o (.d (rdD m f)) (show ws.length ≤ 1000 by omega), ofO_some, fl_ok, e2]
    rw [e3]
    simp [rdsN]
theorem r_readings {m : Mach} (ok : Ok m) {f : Load} {D M n k : Nat} (hf : ∀ s, Bd D M (f s)) (hr : Rmb D M n k) (hk : k ≤ 300) (S : Sto) : ∃ T1 T2, R_readings [.d (mD m), .d (ldD m.cs f), .d (.int (k : Nat))] S = .ok (.o (S ++ T1).length) (S ++ T1 ++ .lst ((rdsN m k f).map W.d) :: T2) := by
  obtain ⟨T1, e1⟩ := r_need_load ok f S
  obtain ⟨T2, k5, g, e2⟩ := readings_loop ok (a0 := some (.d (mD m))) (a1 := some (.d (ldD m.cs f))) (a2 := some (.d (.int (k : Nat)))) (S := S ++ T1) rfl k 0 D f none [] [] hf hr (by simp; omega)
  refine ⟨T1, T2, ?_⟩
  unfold R_readings runB B_readings
  have e3 : fR1 (fCons (fVar 2) fNil) [some (.d (mD m)), some (.d (ldD m.cs f)), some (.d (.int (k : Nat))), some (.o (S ++ T1).length), some (.d (ldD m.cs f)), none] ((S ++ T1) ++ [.lst []]) = .ok ((List.range' 0 k).map fun p => .int (p : Nat)) ((S ++ T1) ++ [.lst []]) := by
    rw [r1_ev _ _ ((S ++ T1) ++ [Cell.lst []]) ((S ++ T1) ++ [Cell.lst []]) (k : Nat) (by simp) (by omega), ← rng']
    simp
  have e4 : ∀ ρ : Slt, fLst fNil ρ (S ++ T1) = .ok (.o (S ++ T1).length) ((S ++ T1) ++ [.lst []]) := fun ρ => rfl
  rw [List.nil_append] at e2
  generalize hS : S ++ T1 = S1 at *
  simp [startR, e1, r_need_beats hk, e4, e3, e2]
end G
set_option Elab.async false
set_option linter.all false
set_option maxRecDepth 100000
set_option maxHeartbeats 4000000
/-! M12: what the law draws -/
namespace G
open PySem PySem.Spec L2 PyProof.Rows
set_option autoImplicit false
def stC (l c t : Int) : Cell := .dic [(.inr "left", .d (.int l)), (.inr "cell", .d (.int c)), (.inr "turns", .d (.int t))]
def StA (n b : Nat) (S : Sto) : Prop := ∃ l c t : Int, S[n]? = some (stC l c t) ∧ 0 ≤ t ∧ t ≤ b
structure Kp (n : Nat) (S S' : Sto) : Prop where
  len : S.length ≤ S'.length
  same : ∀ i, i < S.length → i ≠ n → S'[i]? = S[i]?
theorem Kp.refl (n : Nat) (S : Sto) : Kp n S S := ⟨Nat.le_refl _, fun _ _ _ => rfl⟩
theorem Kp.trans {n : Nat} {S S1 S2 : Sto} (a : Kp n S S1) (b : Kp n S1 S2) : Kp n S S2 := ⟨Nat.le_trans a.len b.len, fun i h1 h2 => (b.same i (Nat.lt_of_lt_of_le h1 a.len) h2).trans (a.same i h1 h2)⟩
theorem Kp.app (n : Nat) (S T : Sto) : Kp n S (S ++ T) := ⟨by simp, fun i h _ => List.getElem?_append_left h⟩
theorem StA.app {n b : Nat} {S : Sto} (h : StA n b S) (T : Sto) : StA n b (S ++ T) := by
  obtain ⟨l, c, t, e, h1⟩ := h
  exact ⟨l, c, t, by rw [List.getElem?_append_left (List.getElem?_eq_some_iff.mp e).1]; exact e, h1⟩
theorem StA.lt {n b : Nat} {S : Sto} (h : StA n b S) : n < S.length := by
  obtain ⟨l, c, t, e, h1⟩ := h
  exact (List.getElem?_eq_some_iff.mp e).1
theorem get_l {n : Nat} {S : Sto} {l c t : Int} (h : S[n]? = some (stC l c t)) : gDget (.o n) (.d (.str "left")) S = some (.d (.int l), S) := by
  unfold gDget dicOf
  simp only [h, stC]
  rfl
theorem get_c {n : Nat} {S : Sto} {l c t : Int} (h : S[n]? = some (stC l c t)) : gDget (.o n) (.d (.str "cell")) S = some (.d (.int c), S) := by
  unfold gDget dicOf
  simp only [h, stC]
  rfl
theorem get_t {n : Nat} {S : Sto} {l c t : Int} (h : S[n]? = some (stC l c t)) : gDget (.o n) (.d (.str "turns")) S = some (.d (.int t), S) := by
  unfold gDget dicOf
  simp only [h, stC]
  rfl
theorem put_l {n : Nat} {S : Sto} {l c t : Int} (v : Int) (h : S[n]? = some (stC l c t)) : putDk (.o n) (.d (.str "left")) (.d (.int v)) S = some (S.set n (stC v c t)) := by
  unfold putDk
  simp only [keyOf, h, stC]
  rfl
theorem put_t {n : Nat} {S : Sto} {l c t : Int} (v : Int) (h : S[n]? = some (stC l c t)) : putDk (.o n) (.d (.str "turns")) (.d (.int v)) S = some (S.set n (stC l c v)) := by
  unfold putDk
  simp only [keyOf, h, stC]
  rfl
theorem StA.set {n b : Nat} {S : Sto} (h : n < S.length) {l c t : Int} (h1 : 0 ≤ t) (h2 : t ≤ b) : StA n b (S.set n (stC l c t)) := ⟨l, c, t, by rw [List.getElem?_set_self h], h1, h2⟩
theorem Kp.set (n : Nat) (S : Sto) (c : Cell) : Kp n S (S.set n c) := ⟨by simp, fun i _ h => List.getElem?_set_ne (Ne.symm h)⟩
theorem gPow_k (S : Sto) : gPow (.d (.int 10)) (.d (.int 18)) S = some (.d (.int 1000000000000000000), S) := rfl
@[simp] theorem st_putD (fo fi fv : Fe W) (ρ : Slt) (S : Sto) : fPutD fo fi fv ρ S = (fv ρ S).fl ρ fun z S1 => (fo ρ S1).fl ρ fun x S2 => (fi ρ S2).fl ρ fun y S3 => match putDk x y z S3 with
  | some S4 => .nx ρ S4
  | none => .bad := id rfl
theorem small64 {i : Int} (h0 : 0 ≤ i) (h : i ≤ 2 ^ 62) : mulOk i i = true := by
  unfold mulOk tiny
  have : -18446744073709551616 < i ∧ i < 18446744073709551616 := by omega
  simp [this]
theorem tiny_r {i j : Int} (h : -(2 ^ 64) < j ∧ j < 2 ^ 64) : mulOk i j = true := by
  unfold mulOk tiny
  have h' := h
  simp only [Int.reducePow, Int.reduceNeg] at h'
  simp [h']
theorem tiny_l {i j : Int} (h : -(2 ^ 64) < i ∧ i < 2 ^ 64) : mulOk i j = true := by
  unfold mulOk tiny
  have h' := h
  simp only [Int.reducePow, Int.reduceNeg] at h'
  simp [h']
theorem ix_mods (k : Int) (S : Sto) : ∃ p : Int, 0 < p ∧ p < 2147483648 ∧ gIx (.o S.length) (.d (.int (k % 4))) (S ++ [.lst [.d (.int 1000000007), .d (.int 998244353), .d (.int 2147483629), .d (.int 1000000009)]]) = some (.d (.int p), S ++ [.lst [.d (.int 1000000007), .d (.int 998244353), .d (.int 2147483629), .d (.int 1000000009)]]) := by
  have e : seqOf (.o S.length) (S ++ [.lst [.d (.int 1000000007), .d (.int 998244353), .d (.int 2147483629), .d (.int 1000000009)]]) = some [.d (.int 1000000007), .d (.int 998244353), .d (.int 2147483629), .d (.int 1000000009)] := by
    unfold seqOf
    simp only [get_len_app]
  have h1 : 0 ≤ k % 4 := Int.emod_nonneg _ (by decide)
  have h2 : k % 4 < 4 := Int.emod_lt_of_pos _ (by decide)
  have h3 : k % 4 = 0 ∨ k % 4 = 1 ∨ k % 4 = 2 ∨ k % 4 = 3 := by omega
  unfold gIx
  simp only [e]
  rcases h3 with h | h | h | h <;> rw [h] <;> exact ⟨_, by decide, by decide, rfl⟩
theorem r_mixed (c k : Int) (h0 : 0 ≤ k) (h1 : k ≤ 2 ^ 40) (S : Sto) : ∃ v : Int, Pu (R__law_mixed [.d (.int c), .d (.int k)] S) S (.d (.int v)) := by
  obtain ⟨p, hp0, hp1, e1⟩ := ix_mods k S
  have e2 : ∀ ρ : Slt, fLst (fCons (fC (.d (.int 1000000007))) (fCons (fC (.d (.int 998244353))) (fCons (fC (.d (.int 2147483629))) (fCons (fC (.d (.int 1000000009))) fNil)))) ρ S = .ok (.o S.length) (S ++ [.lst [.d (.int 1000000007), .d (.int 998244353), .d (.int 2147483629), .d (.int 1000000009)]]) := fun ρ => rfl
  have a1 : 0 ≤ c % p := Int.emod_nonneg _ (by omega)
  have a2 : c % p < p := Int.emod_lt_of_pos _ hp0
  have a3 : mulOk (c % p + 7919 * k + 13) (c % p + 7919 * k + 13) = true := small64 (by omega) (by omega)
  refine ⟨(c % p + 7919 * k + 13) * (c % p + 7919 * k + 13) % 2147483647 * 48271 % 2147483647, [.lst [.d (.int 1000000007), .d (.int 998244353), .d (.int 2147483629), .d (.int 1000000009)]], ?_⟩
  unfold R__law_mixed runB B__law_mixed
  simp [startR, e2, mod_int (show (0 : Int) < 4 by decide), e1, mod_int hp0, mul_int (tiny_l (i := 7919) (j := k) (by omega)), mul_int a3, mod_int (show (0 : Int) < 2147483647 by decide), mul_int (tiny_r (i := (c % p + 7919 * k + 13) * (c % p + 7919 * k + 13) % 2147483647) (j := 48271) (by omega))]
noncomputable def digBody : Fs := (fSeq (fPutD (fVar 0) (fC (.d (.str "turns"))) (fOp2 gAdd (fOp2 gDget (fVar 0) (fC (.d (.str "turns")))) (fC (.d (.int 1)))))
  (fPutD (fVar 0) (fC (.d (.str "left"))) (fOp2 gAdd (fOp2 gMulT (fOp2 gDget (fVar 0) (fC (.d (.str "left")))) (fC (.d (.int 2147483647)))) (fCall 2 [] R__law_mixed (fCons (fOp2 gDget (fVar 0) (fC (.d (.str "cell")))) (fCons (fOp2 gDget (fVar 0) (fC (.d (.str "turns")))) fNil))))))
theorem dig_loop {n : Nat} {a1 a3 : Option W} : ∀ (ds : List PyData) (b : Nat) (j : Option W) (S : Sto), StA n b S → b + ds.length ≤ 2 ^ 40 → ∃ j' S', forD (gNm 2) digBody ds [some (.o n), a1, j, a3] S = .nx [some (.o n), a1, j', a3] S' ∧ StA n (b + ds.length) S' ∧ Kp n S S'
  | [], b, j, S, h, hb => ⟨j, S, rfl, h, Kp.refl n S⟩
  | d :: ds, b, j, S, h, hb => by
    have hn := h.lt
    obtain ⟨l, c, t, e, h1, h2⟩ := h
    simp only [List.length_cons] at hb
    have g1 : (S.set n (stC l c (t + 1)))[n]? = some (stC l c (t + 1)) := by rw [List.getElem?_set_self hn]
    obtain ⟨v, T, ev⟩ := r_mixed c (t + 1) (by omega) (by omega) (S.set n (stC l c (t + 1)))
    have g2 : (S.set n (stC l c (t + 1)) ++ T)[n]? = some (stC l c (t + 1)) := by rw [List.getElem?_append_left (by simpa using hn)]; exact g1
    have hk : Kp n S ((S.set n (stC l c (t + 1)) ++ T).set n (stC (l * 2147483647 + v) c (t + 1))) := ((Kp.set n S _).trans (Kp.app n _ T)).trans (Kp.set n _ _)
    have hs : StA n (b + 1) ((S.set n (stC l c (t + 1)) ++ T).set n (stC (l * 2147483647 + v) c (t + 1))) := StA.set (by simp; omega) (by omega) (by omega)
    obtain ⟨j', S', e1, e2, e3⟩ := dig_loop (n := n) (a1 := a1) (a3 := a3) ds (b + 1) (some (.d d)) _ hs (by omega)
    refine ⟨j', S', ?_, by rw [List.length_cons, show b + (ds.length + 1) = b + 1 + ds.length by omega]; exact e2, hk.trans e3⟩
    rw [forD_cons]
    have eb : digBody [some (.o n), a1, some (.d d), a3] S = .nx [some (.o n), a1, some (.d d), a3] ((S.set n (stC l c (t + 1)) ++ T).set n (stC (l * 2147483647 + v) c (t + 1))) := by
      unfold digBody
      simp [get_t e, put_t (t + 1) e, get_l g1, get_c g1, get_t g1, mul_int (tiny_r (i := l) (j := 2147483647) (by omega)), ev, put_l (l * 2147483647 + v) g2]
    simp only [gt_nm, List.set_cons_zero, List.set_cons_succ, eb]
    exact e1
theorem r_digit {n b : Nat} {S : Sto} (h : StA n b S) (hb : b + 4 ≤ 2 ^ 40) {z : Int} (hz : 0 < z) (hz2 : z < 2 ^ 60) : ∃ (v : Int) (S' : Sto), R__law_digit [.o n, .d (.int z)] S = .ok (.d (.int v)) S' ∧ 0 ≤ v ∧ v < z ∧ StA n (b + 4) S' ∧ Kp n S S' := by
  have hzm : z.natAbs < mid := lt_mid (Nat.lt_of_lt_of_le (show z.natAbs < 2 ^ 60 by omega) (Nat.pow_le_pow_right (by decide) (by decide)))
  have key : ∃ (S1 : Sto) (j : Option W), fIf (fTru (fOp2 (dEq false) (fOp2 gDget (fVar 0) (fC (.d (.str "left")))) (fC (.d (.int 0))))) (fFor (fR1 (fCons (fC (.d (.int 4))) fNil)) (gNm 2) digBody) fSkip [some (.o n), some (.d (.int z)), none, none] S = .nx [some (.o n), some (.d (.int z)), j, none] S1 ∧ StA n (b + 4) S1 ∧ Kp n S S1 := by
    obtain ⟨l, c, t, e, h1, h2⟩ := id h
    by_cases hl : l = 0
    · obtain ⟨j', S', e1, e2, e3⟩ := dig_loop (n := n) (a1 := some (.d (.int z))) (a3 := none) (rngD 0 4) b none S h (by simp [rngD]; omega)
      refine ⟨S', j', ?_, by simpa [rngD] using e2, e3⟩
      have er : ∀ ρ : Slt, fR1 (fCons (fC (.d (.int 4))) fNil) ρ S = .ok (rngD 0 4) S := fun ρ => r1_ev _ _ S S 4 rfl (by decide)
      simp [get_l e, hl, er, e1]
    · exact ⟨S, none, by simp [get_l e, hl], ⟨l, c, t, e, h1, by omega⟩, Kp.refl n S⟩
  obtain ⟨S1, j, e1, s1, k1⟩ := key
  obtain ⟨l, c, t, e, h1, h2⟩ := id s1
  refine ⟨l % z, S1.set n (stC (l / z) c t), ?_, Int.emod_nonneg _ (by omega), Int.emod_lt_of_pos _ hz, StA.set s1.lt h1 h2, k1.trans (Kp.set n S1 _)⟩
  unfold R__law_digit runB B__law_digit
  unfold digBody at e1
  simp only [startR, List.map_cons, List.map_nil, List.length_cons, List.length_nil, st_seq]
  simp [st_seq] at e1 ⊢
  rw [e1]
  simp [get_l e, mod_int hz, div_int hz hzm, put_l (l / z) e]
end G
set_option Elab.async false
set_option linter.all false
set_option maxRecDepth 100000
set_option maxHeartbeats 4000000
/-! M13: counts drawn -/
namespace G
open PySem PySem.Spec L2 PyProof.Rows
set_option autoImplicit false
theorem seq_o {S : Sto} {a : Nat} {ws : List W} (h : S[a]? = some (.lst ws)) : seqOf (.o a) S = some ws := by
  unfold seqOf
  simp only [h]
theorem hpl_a {S : Sto} {a : Nat} {ws : List W} (h : S[a]? = some (.lst ws)) : hpl (.o a) S = some ws := by
  unfold hpl
  simp only [h]
theorem ix_o {S : Sto} {a : Nat} {ws : List W} (h : S[a]? = some (.lst ws)) {i : Nat} {x : W} (hi : ws[i]? = some x) : gIx (.o a) (.d (.int (i : Nat))) S = some (x, S) := by
  unfold gIx
  simp only [seq_o h, atI_nat hi]
  rfl
def iW (l : List Int) : List W := l.map fun i => W.d (.int i)
theorem sum_o {S : Sto} {a : Nat} {l : List Int} (h : S[a]? = some (.lst (iW l))) : gSum [.o a] S = some (.d (.int l.sum), S) := by
  unfold gSum
  simp only [seq_o h]
  have : intsOf (iW l) = some l := intsOf_map l
  rw [this]
theorem mm_ints {f : PyData → List PyData → PyData} {n : Nat} (x : Int) (l : List Int) (hl : (x :: l).length = n) (S : Sto) : gMM f n ((x :: l).map fun i => W.d (.int i)) S = some (.d (f (.int x) (l.map .int)), S) := by
  have e1 : ∀ l : List Int, datsOf (l.map fun i => W.d (.int i)) = some (l.map .int) := fun l => by
    induction l with
    | nil => rfl
    | cons a l ih =>
      show (match datsOf (l.map fun i => W.d (.int i)) with | some l' => some (PyData.int a :: l') | none => none) = _
      rw [ih]
      rfl
  have e2 : ∀ l : List Int, alikeOk (l.map .int) = true := fun l => by
    unfold alikeOk
    simp [PySem.W.alike, isNn, PyData.depth]
  unfold gMM
  rw [e1]
  simp only [List.map_cons]
  rw [if_pos ⟨by simpa using hl, e2 (x :: l)⟩]
theorem min3_i (x y z : Int) (S : Sto) : gMM PySem.W.minD 3 [.d (.int x), .d (.int y), .d (.int z)] S = some (.d (.int (min (min x y) z)), S) := by
  have := mm_ints (f := PySem.W.minD) (n := 3) x [y, z] rfl S
  rw [PySem.W.minD_ints] at this
  exact this
theorem mul_o {S : Sto} {a : Nat} {ws : List W} (h : S[a]? = some (.lst ws)) (k : Int) (h0 : 0 ≤ k) (h1 : k ≤ 1) (hz : ws.length ≤ 1000) : gMulT (.o a) (.d (.int k)) S = some (.o S.length, S ++ [.lst (List.replicate k.toNat ws).flatten]) := by
  show gMul (.o a) (.d (.int k)) S = _
  unfold gMul
  simp only [hpl_a h]
  have hs : szOk (ws.length * k.toNat) = true := by
    unfold szOk
    have : k = 0 ∨ k = 1 := by omega
    rcases this with rfl | rfl <;> simp <;> omega
  rw [if_pos ⟨by omega, by omega, hs⟩]
theorem add_o {S : Sto} {a c : Nat} {ws us : List W} (h : S[a]? = some (.lst ws)) (h2 : S[c]? = some (.lst us)) (hz : ws.length + us.length ≤ 1000) : gAdd (.o a) (.o c) S = some (.o S.length, S ++ [.lst (ws ++ us)]) := by
  unfold gAdd
  simp only [hpl_a h, hpl_a h2]
  rw [if_pos (by unfold szOk; simp; omega)]
noncomputable def cntBody : Fs := (fSeq (fSet 5 (fCB (gMM PySem.W.minD 3) (fCons (fC (.d (.int 12))) (fCons (fOp2 gMulT (fVar 2) (fOp2 gAdd (fC (.d (.int 1))) (fCall 2 [] R__law_digit (fCons (fVar 0) (fCons (fC (.d (.int 4))) fNil))))) (fCons (fOp2 gSub (fVar 1) (fCB gSum (fCons (fVar 3) fNil))) fNil)))))
  (fSet 3 (fOp2 gAdd (fVar 3) (fOp2 gMulT (fLst (fCons (fVar 5) fNil)) (fCB gInt1 (fCons (fOp2 cGt (fVar 5) (fC (.d (.int 0)))) fNil))))))
theorem cnt_turn {n b : Nat} {most bb : Int} (hb1 : 1 ≤ bb) (hb2 : bb ≤ 6) {S : Sto} {a : Nat} {l : List Int} {j4 j5 : Option W} (h : StA n b S) (hb : b + 4 ≤ 2 ^ 40) (ha : S[a]? = some (.lst (iW l))) (han : a ≠ n) (hl : l.length ≤ 100) (hs : l.sum ≤ most) :
    ∃ (one : Int) (S' : Sto) (a' : Nat), cntBody [some (.o n), some (.d (.int most)), some (.d (.int bb)), some (.o a), j4, j5] S = .nx [some (.o n), some (.d (.int most)), some (.d (.int bb)), some (.o a'), j4, some (.d (.int one))] S' ∧ a' ≠ n ∧
      S'[a']? = some (.lst (iW (if 0 < one then l ++ [one] else l))) ∧ (l.sum < most → 0 < one) ∧ one ≤ most - l.sum ∧ one ≤ 12 ∧ StA n (b + 4) S' ∧ Kp n S S' := by
  obtain ⟨v, S1, e1, v0, v1, s1, k1⟩ := r_digit h hb (z := 4) (by decide) (by decide)
  have hal : a < S.length := (List.getElem?_eq_some_iff.mp ha).1
  have ha1 : S1[a]? = some (.lst (iW l)) := by rw [k1.same a hal han]; exact ha
  have hn1 := s1.lt
  obtain ⟨one, hone⟩ : ∃ one : Int, one = min (min 12 (bb * (1 + v))) (most - l.sum) := ⟨_, rfl⟩
  have hp : 1 ≤ bb * (1 + v) := by
    have : (1 : Int) * 1 ≤ bb * (1 + v) := Int.mul_le_mul hb1 (by omega) (by decide) (by omega)
    omega
  have ho1 : l.sum < most → 0 < one := fun q => by omega
  have ho2 : one ≤ most - l.sum := by omega
  have ho3 : one ≤ 12 := by omega
  -- the new lists
  have al1 : S1.length ≠ n := by omega
  have hla : a < S1.length := (List.getElem?_eq_some_iff.mp ha1).1
  obtain ⟨k, hk⟩ : ∃ k : Int, k = if 0 < one then 1 else 0 := ⟨_, rfl⟩
  have hk0 : 0 ≤ k := by rw [hk]; split <;> omega
  have hk1 : k ≤ 1 := by rw [hk]; split <;> omega
  have f1 : (List.replicate k.toNat [W.d (.int one)]).flatten = if 0 < one then [W.d (.int one)] else [] := by
    rw [hk]
    split <;> rfl
  have e2 := mul_o (S := S1 ++ [Cell.lst [.d (.int one)]]) (a := S1.length) (ws := [.d (.int one)]) (get_len_app _ _ _) k hk0 hk1 (by simp)
  rw [f1] at e2
  have e3 := add_o (S := S1 ++ [Cell.lst [.d (.int one)]] ++ [Cell.lst (if 0 < one then [W.d (.int one)] else [])]) (a := a) (c := (S1 ++ [Cell.lst [.d (.int one)]]).length) (ws := iW l) (us := if 0 < one then [W.d (.int one)] else []) (by
    rw [List.append_assoc, List.getElem?_append_left hla]; exact ha1) (get_len_app _ _ _) (by unfold iW; rw [List.length_map]; split <;> simp <;> omega)
  refine ⟨one, S1 ++ [Cell.lst [.d (.int one)]] ++ [Cell.lst (if 0 < one then [W.d (.int one)] else [])] ++ [Cell.lst (iW l ++ if 0 < one then [W.d (.int one)] else [])], (S1 ++ [Cell.lst [.d (.int one)]] ++ [Cell.lst (if 0 < one then [W.d (.int one)] else [])]).length, ?_, by simp; omega, ?_, ho1, ho2, ho3, ((s1.app _).app _).app _, k1.trans (((Kp.app n _ _).trans (Kp.app n _ _)).trans (Kp.app n _ _))⟩
  · have e4 : gInt1 [.d (.bool (decide (0 < one)))] (S1 ++ [Cell.lst [.d (.int one)]]) = some (.d (.int k), S1 ++ [Cell.lst [.d (.int one)]]) := by
      show some (W.d (.int (if decide (0 < one) = true then 1 else 0)), S1 ++ [Cell.lst [.d (.int one)]]) = _
      rw [hk]
      by_cases q : 0 < one <;> simp [q]
    have e5 : ∀ ρ : Slt, ρ[5]? = some (some (.d (.int one))) → fLst (fCons (fVar 5) fNil) ρ S1 = .ok (.o S1.length) (S1 ++ [Cell.lst [.d (.int one)]]) := fun ρ hρ => by
      unfold fLst
      simp only [ev_cons, ev_nil, ev_var, hρ, bind_ok]
      rfl
    have e6 : min (min 12 (bb * (1 + v))) (most - l.sum) = one := hone.symm
    unfold cntBody
    simp only [st_seq, st_set, ev_mm, ev_cons, ev_nil, ev_c, ev_op2, ev_var, ev_call, ev_sum, ev_int, List.getElem?_cons_zero, List.getElem?_cons_succ, bind_ok, List.length_cons, List.length_nil, Nat.zero_add, Nat.reduceAdd, if_true, ofD_nil, List.append_nil, e1, add_int, ofO_some, mul_int (tiny_l (i := bb) (j := 1 + v) (by omega)), sum_o ha1, sub_int, min3_i, fl_ok, e6, List.set_cons_zero, List.set_cons_succ, gt_int']
    rw [e5 _ rfl]
    simp only [bind_ok, List.getElem?_cons_zero, List.getElem?_cons_succ, ofO_some, gt_int', e4, e2, e3, fl_ok]
  · rw [get_len_app]
    by_cases q : 0 < one <;> simp [q, iW]
end G
set_option Elab.async false
set_option linter.all false
set_option maxRecDepth 100000
set_option maxHeartbeats 4000000
/-! M14: counts drawn, all -/
namespace G
open PySem PySem.Spec L2 PyProof.Rows
set_option autoImplicit false
/-- a row of counts so far -/
structure CsOk (most : Int) (l : List Int) : Prop where
  pos : ∀ c ∈ l, 0 < c
  sum : l.sum ≤ most
theorem cnt_loop {n : Nat} {most bb : Int} (hm : 0 < most) (hb1 : 1 ≤ bb) (hb2 : bb ≤ 6) : ∀ (ds : List PyData) (b : Nat) (S : Sto) (a : Nat) (l : List Int) (j4 j5 : Option W), StA n b S → b + 4 * ds.length ≤ 2 ^ 40 → S[a]? = some (.lst (iW l)) → a ≠ n → l.length + ds.length ≤ 100 → CsOk most l →
    ∃ (S' : Sto) (a' : Nat) (l' : List Int) (k4 k5 : Option W), forD (gNm 4) cntBody ds [some (.o n), some (.d (.int most)), some (.d (.int bb)), some (.o a), j4, j5] S = .nx [some (.o n), some (.d (.int most)), some (.d (.int bb)), some (.o a'), k4, k5] S' ∧ a' ≠ n ∧
      S'[a']? = some (.lst (iW l')) ∧ CsOk most l' ∧ l'.length ≤ l.length + ds.length ∧ (l ≠ [] ∨ ds ≠ [] → l' ≠ []) ∧ StA n (b + 4 * ds.length) S' ∧ Kp n S S'
  | [], b, S, a, l, j4, j5, h, hb, ha, han, hl, hs => ⟨S, a, l, j4, j5, rfl, han, ha, hs, by simp, fun q => q.elim id (fun z => absurd rfl z), h, Kp.refl n S⟩
  | d :: ds, b, S, a, l, j4, j5, h, hb, ha, han, hl, hs => by
    simp only [List.length_cons] at hb hl
    obtain ⟨one, S1, a1, e1, h1, h2, h3, h4, h5, s1, k1⟩ := cnt_turn (j4 := some (.d d)) (j5 := j5) hb1 hb2 h (by omega) ha han (by omega) hs.sum
    have hs1 : CsOk most (if 0 < one then l ++ [one] else l) := by
      split
      · rename_i q
        refine ⟨fun c hc => ?_, by rw [List.sum_append]; simp; omega⟩
        rcases List.mem_append.mp hc with hc | hc
        · exact hs.pos c hc
        · have : c = one := by simpa using hc
          omega
      · exact hs
    have hl1 : (if 0 < one then l ++ [one] else l).length ≤ l.length + 1 := by split <;> simp
    obtain ⟨S', a', l', k4, k5, e2, g1, g2, g3, g4, g5, s2, k2⟩ := cnt_loop hm hb1 hb2 ds (b + 4) S1 a1 _ (some (.d d)) (some (.d (.int one))) s1 (by omega) h2 h1 (by omega) hs1
    refine ⟨S', a', l', k4, k5, ?_, g1, g2, g3, by rw [List.length_cons]; omega, fun _ => g5 (.inl ?_), by rw [List.length_cons, show b + 4 * (ds.length + 1) = b + 4 + 4 * ds.length by omega]; exact s2, k1.trans k2⟩
    · rw [forD_cons]
      simp only [gt_nm, List.set_cons_zero, List.set_cons_succ, e1]
      exact e2
    · by_cases hle : l = []
      · subst hle
        have : 0 < one := h3 (by simpa using hm)
        rw [if_pos this]
        simp
      · split
        · simp
        · exact hle
theorem ixBy (v : Int) (h0 : 0 ≤ v) (h1 : v < 6) {S : Sto} {a : Nat} (h : S[a]? = some (.lst (iW [1, 2, 2, 3, 4, 6]))) : ∃ bb : Int, 1 ≤ bb ∧ bb ≤ 6 ∧ gIx (.o a) (.d (.int v)) S = some (.d (.int bb), S) := by
  have h3 : v = 0 ∨ v = 1 ∨ v = 2 ∨ v = 3 ∨ v = 4 ∨ v = 5 := by omega
  unfold gIx
  simp only [seq_o h]
  rcases h3 with h | h | h | h | h | h <;> rw [h] <;> exact ⟨_, by decide, by decide, rfl⟩
theorem r_counts {n b : Nat} {S : Sto} (h : StA n b S) (hb : b + 40 ≤ 2 ^ 40) {most : Nat} (hm : 0 < most) : ∃ (cs : List Nat) (S' : Sto), R__law_counts [.o n, .d (.int (most : Nat))] S = .ok (.d (csD cs)) S' ∧ cs ≠ [] ∧ cs.length ≤ 6 ∧ (∀ c ∈ cs, 0 < c) ∧ cs.sum ≤ most ∧ StA n (b + 40) S' ∧ Kp n S S' := by
  obtain ⟨v, S1, e1, v0, v1, s1, k1⟩ := r_digit (h.app [Cell.lst (iW [1, 2, 2, 3, 4, 6])]) (by omega) (z := 6) (by decide) (by decide)
  have hn := h.lt
  have a1 : S1[S.length]? = some (.lst (iW [1, 2, 2, 3, 4, 6])) := by rw [k1.same S.length (by simp) (by omega), get_len_app]
  obtain ⟨bb, hb1, hb2, e2⟩ := ixBy v v0 v1 a1
  have hl1 : S1.length ≠ n := by have := s1.lt; omega
  obtain ⟨u, S2, e3, u0, u1, s2, k2⟩ := r_digit (s1.app [Cell.lst (iW [])]) (by omega) (z := 6) (by decide) (by decide)
  have a2 : S2[S1.length]? = some (.lst (iW [])) := by rw [k2.same S1.length (by simp) hl1, get_len_app]
  have hr : (rngD 0 (1 + u).toNat).length = (1 + u).toNat := by simp [rngD]
  obtain ⟨S3, a', l', k4, k5, e4, g1, g2, g3, g4, g5, s3, k3⟩ := cnt_loop (n := n) (most := (most : Nat)) (bb := bb) (by omega) hb1 hb2 (rngD 0 (1 + u).toNat) (b + 8) S2 S1.length [] none none (by simpa using s2) (by rw [hr]; omega) a2 hl1 (by rw [hr]; simp; omega) ⟨fun c hc => (by cases hc), (by simp)⟩
  have hc : ∃ cs : List Nat, l' = cs.map (fun c : Nat => (c : Int)) := by
    refine ⟨l'.map Int.toNat, ?_⟩
    rw [List.map_map]
    have : ∀ l : List Int, (∀ c ∈ l, 0 < c) → l = l.map ((fun c : Nat => (c : Int)) ∘ Int.toNat) := fun l h => by
      induction l with
      | nil => rfl
      | cons x l ih =>
        rw [List.map_cons, ← ih fun c hc => h c (by simp [hc])]
        have := h x (by simp)
        simp only [Function.comp]
        congr 1
        omega
    exact this l' g3.pos
  obtain ⟨cs, rfl⟩ := hc
  have eR : ∀ ρ : Slt, fR1 (fCons (fOp2 gAdd (fC (.d (.int 1))) (fCall 2 [] R__law_digit (fCons (fVar 0) (fCons (fC (.d (.int 6))) fNil)))) fNil) [some (.o n), some (.d (.int (most : Nat))), some (.d (.int bb)), some (.o S1.length), none, none] (S1 ++ [Cell.lst (iW [])]) = .ok (rngD 0 (1 + u).toNat) S2 := fun _ =>
    r1_ev _ _ _ _ (1 + u) (by simp [e3]) (by omega)
  refine ⟨cs, S3, ?_, ?_, ?_, ?_, ?_, ?_, ?_⟩
  · have eL : ∀ ρ : Slt, fLst (fCons (fC (.d (.int 1))) (fCons (fC (.d (.int 2))) (fCons (fC (.d (.int 2))) (fCons (fC (.d (.int 3))) (fCons (fC (.d (.int 4))) (fCons (fC (.d (.int 6))) fNil)))))) ρ S = .ok (.o S.length) (S ++ [Cell.lst (iW [1, 2, 2, 3, 4, 6])]) := fun ρ => rfl
    have eN : ∀ ρ : Slt, fLst fNil ρ S1 = .ok (.o S1.length) (S1 ++ [Cell.lst (iW [])]) := fun ρ => rfl
    have eT : ∀ ρ : Slt, ρ[3]? = some (some (.o a')) → fCB gTuple (fCons (fVar 3) fNil) ρ S3 = .ok (.d (csD cs)) S3 := fun ρ hρ => by
      simp only [ev_cb, ev_cons, ev_nil, ev_var, hρ, bind_ok]
      rw [gTuple_o (ds := (cs.map fun c : Nat => (c : Int)).map PyData.int) (by rw [g2]; simp [iW, List.map_map, Function.comp_def]), csD_ints]
      rfl
    unfold cntBody at e4
    unfold R__law_counts runB B__law_counts
    simp only [startR, List.map_cons, List.map_nil, List.length_cons, List.length_nil, Nat.zero_add, Nat.reduceAdd, Nat.reduceSub, List.replicate, List.cons_append, List.nil_append, st_seq, st_par, ev_cons, ev_nil, ev_op2, eL, ev_call, ev_var, ev_c, List.getElem?_cons_zero, List.getElem?_cons_succ, bind_ok, if_true, ofD_nil, List.append_nil, e1, e2, eN, ofO_some, fl_ok, List.set_cons_zero, List.set_cons_succ, st_for, eR []]
    simp only [e4, fl_ok, st_ret]
    rw [eT _ rfl]
    rfl
  · intro hc
    subst hc
    exact g5 (.inr (by intro z; rw [z] at hr; simp at hr; omega)) rfl
  · have := g4
    rw [List.length_map, hr] at this
    simp at this
    omega
  · intro c hc
    have := g3.pos (c : Int) (List.mem_map_of_mem hc)
    omega
  · have := g3.sum
    rw [sum_cast] at this
    omega
  · obtain ⟨l, c, t, z1, z2, z3⟩ := s3
    exact ⟨l, c, t, z1, z2, by rw [hr] at z3; omega⟩
  · exact (((Kp.app n S _).trans k1).trans ((Kp.app n S1 _).trans k2)).trans k3
end G
set_option Elab.async false
set_option linter.all false
set_option maxRecDepth 100000
set_option maxHeartbeats 4000000
/-! M15: touches drawn -/
namespace G
open PySem PySem.Spec L2 PyProof.Rows
set_option autoImplicit false
theorem ltT_iff (a b : Tch) : ltT a b ↔ a.1.1 < b.1.1 ∨ (a.1.1 = b.1.1 ∧ (a.1.2 < b.1.2 ∨ (a.1.2 = b.1.2 ∧ (a.2.1 < b.2.1 ∨ (a.2.1 = b.2.1 ∧ a.2.2 < b.2.2))))) := by
  obtain ⟨⟨a1, a2⟩, ⟨a3, a4⟩⟩ := a
  obtain ⟨⟨b1, b2⟩, ⟨b3, b4⟩⟩ := b
  simp only [ltT, ltS, Prod.mk.injEq]
  omega
theorem tch_eq (a b : Tch) : a = b ↔ a.1.1 = b.1.1 ∧ a.1.2 = b.1.2 ∧ a.2.1 = b.2.1 ∧ a.2.2 = b.2.2 := by
  obtain ⟨⟨a1, a2⟩, ⟨a3, a4⟩⟩ := a
  obtain ⟨⟨b1, b2⟩, ⟨b3, b4⟩⟩ := b
  simp only [Prod.mk.injEq]
  constructor
  · rintro ⟨⟨h1, h2⟩, h3, h4⟩; exact ⟨h1, h2, h3, h4⟩
  · rintro ⟨h1, h2, h3, h4⟩; exact ⟨⟨h1, h2⟩, h3, h4⟩
instance (a b : Tch) : Decidable (ltT a b) := decidable_of_iff _ (ltT_iff a b).symm
def leT (a b : Tch) : Bool := !decide (ltT b a)
theorem dle_t (a b : Tch) : PySem.W.dataLe false id (tcD a) (tcD b) = leT a b := by
  show (!PySem.W.dataLt (tcD b) (tcD a)) = leT a b
  unfold leT
  congr 1
  rw [Bool.eq_iff_iff, lt_t, decide_eq_true_eq]
theorem srt_t (ts : List Tch) (hnd : ts.Nodup) : ∃ us : List Tch, srt (ts.map tcD) = us.map tcD ∧ us.Perm ts ∧ us.Pairwise ltT := by
  refine ⟨ts.mergeSort leT, ?_, List.mergeSort_perm _ _, ?_⟩
  · unfold srt
    rw [List.map_mergeSort (s := PySem.W.dataLe false id)]
    intro a _ b _
    exact (dle_t a b).symm
  · have h1 := List.pairwise_mergeSort (le := leT) (fun a b c h1 h2 => by
      unfold leT at h1 h2 ⊢
      simp only [Bool.not_eq_true', decide_eq_false_iff_not, ltT_iff] at h1 h2 ⊢
      omega) (fun a b => by
      unfold leT
      by_cases h : ltT b a
      · have : ¬ ltT a b := by rw [ltT_iff] at h ⊢; omega
        simp [this]
      · simp [h]) ts
    have h2 : (ts.mergeSort leT).Nodup := (List.mergeSort_perm ts leT).nodup_iff.mpr hnd
    refine (List.Pairwise.and h1 h2).imp ?_
    rintro a b ⟨h3, h4⟩
    unfold leT at h3
    simp only [Bool.not_eq_true', decide_eq_false_iff_not] at h3
    rw [ltT_iff] at h3 ⊢
    rw [Ne, tch_eq] at h4
    omega
def tW (ts : List Tch) : List W := (ts.map tcD).map W.d
theorem map_erase {α β : Type} (f : α → β) : ∀ (l : List α) (i : Nat), (l.map f).eraseIdx i = (l.eraseIdx i).map f
  | [], i => rfl
  | a :: l, 0 => rfl
  | a :: l, i + 1 => by simp [map_erase f l i]
theorem pop_o {S : Sto} {a : Nat} {fl : List Spot} (h : S[a]? = some (.lst (spW fl))) {i : Nat} {s : Spot} (hi : fl[i]? = some s) (hl : fl.length ≤ 100) : gPopAt (.o a) [.d (.int (i : Nat))] S = some (.d (sD s), S.set a (.lst (spW (fl.eraseIdx i)))) := by
  have hlt := (List.getElem?_eq_some_iff.mp hi).1
  have e0 : (spW fl).length = fl.length := by simp [spW]
  have e1 : L2.ixN (spW fl).length ((i : Nat) : Int) = some i := by
    unfold L2.ixN
    rw [if_pos (by omega), if_pos (by rw [e0]; omega)]
    simp
  have e2 : (spW fl)[i]? = some (.d (sD s)) := by simp [spW, hi]
  have e3 : (spW fl).eraseIdx i = spW (fl.eraseIdx i) := by
    unfold spW
    rw [map_erase, map_erase]
  unfold gPopAt
  simp only [h, e1, e2, e3]
  rw [if_pos (by unfold szOk; rw [e0]; simp; omega)]
  rfl
theorem al2 (s t : Spot) : alikeOk [sD s, sD t] = true := by
  unfold alikeOk
  have h : ∀ s : Spot, isNn (sD s) = false ∧ (sD s).depth ≤ 60 := fun s => ⟨rfl, by show 1 ≤ 60; decide⟩
  simp [al_s, (h s).1, (h t).1, (h s).2, (h t).2]
theorem mm_s {f : PyData → List PyData → PyData} (s t : Spot) (S : Sto) : gMM f 2 [.d (sD s), .d (sD t)] S = some (.d (f (sD s) [sD t]), S) := by
  show (if ([W.d (sD s), W.d (sD t)] : List W).length = 2 ∧ alikeOk [sD s, sD t] = true then some (W.d (f (sD s) [sD t]), S) else none) = _
  rw [if_pos ⟨rfl, al2 s t⟩]
def mkT (s t : Spot) : Tch := if ltS t s then (t, s) else (s, t)
theorem min_s (s t : Spot) : PySem.W.minD (sD s) [sD t] = sD (mkT s t).1 := by
  show (if PySem.W.dataLt (sD t) (sD s) = true then sD t else sD s) = _
  rw [lt_s]
  unfold mkT
  by_cases h : ltS t s <;> simp [h]
theorem max_s (s t : Spot) (hne : s ≠ t) : PySem.W.maxD (sD s) [sD t] = sD (mkT s t).2 := by
  show (if PySem.W.dataLt (sD s) (sD t) = true then sD t else sD s) = _
  rw [lt_s]
  unfold mkT
  have h0 : ¬ (s.1 = t.1 ∧ s.2 = t.2) := fun z => hne (Prod.ext z.1 z.2)
  by_cases h : ltS t s
  · have : ¬ ltS s t := by unfold ltS at h ⊢; omega
    simp [h, this]
  · have : ltS s t := by unfold ltS at h ⊢; omega
    simp [h, this]
theorem mkT_lt (s t : Spot) (hne : s ≠ t) : ltS (mkT s t).1 (mkT s t).2 := by
  have h0 : ¬ (s.1 = t.1 ∧ s.2 = t.2) := fun z => hne (Prod.ext z.1 z.2)
  unfold mkT
  by_cases h : ltS t s
  · simp [h]
  · have : ltS s t := by unfold ltS at h ⊢; omega
    simp [h, this]
theorem mkT_perm (s t : Spot) : [(mkT s t).1, (mkT s t).2].Perm [s, t] := by
  unfold mkT
  by_cases h : ltS t s
  · simp only [h, if_true]; exact List.Perm.swap _ _ _
  · simp only [h, if_false]; exact List.Perm.refl _
end G
set_option Elab.async false
set_option linter.all false
set_option maxRecDepth 100000
set_option maxHeartbeats 4000000
/-! M16: touches drawn, the loops -/
namespace G
open PySem PySem.Spec L2 PyProof.Rows
set_option autoImplicit false
noncomputable def freeBody : Fs := (fSet 3 (fOp2 gAdd (fVar 3) (fLc (fR1 (fCons (fVar 6) fNil)) (gNm 7) fYes (fTup (fCons (fVar 5) (fCons (fVar 7) fNil))) [7])))
theorem spW_app (a b : List Spot) : spW (a ++ b) = spW a ++ spW b := by simp [spW]
theorem free_loop {n : Nat} {a0 a1 a2 a4 : Option W} : ∀ (zs : List (Nat × Nat)) (S : Sto) (a : Nat) (fl : List Spot) (j5 j6 j7 j8 j9 j10 : Option W), S[a]? = some (.lst (spW fl)) → (∀ q ∈ zs, q.1 ≤ 30) → fl.length + (cellsZ zs).length ≤ 100 →
    ∃ (T : Sto) (a' : Nat) (k5 k6 : Option W), forD (gTp 2 (gsCons (gNm 5) (gsCons (gNm 6) gsNil))) freeBody (zs.map fun q => .tuple [.int (q.2 : Nat), .int (q.1 : Nat)]) [a0, a1, a2, some (.o a), a4, j5, j6, j7, j8, j9, j10] S = .nx [a0, a1, a2, some (.o a'), a4, k5, k6, j7, j8, j9, j10] (S ++ T) ∧ (S ++ T)[a']? = some (.lst (spW (fl ++ cellsZ zs))) ∧ (a' = a ∨ S.length ≤ a')
  | [], S, a, fl, j5, j6, j7, j8, j9, j10, h, hz, hl => ⟨[], a, j5, j6, by simp [forD_nil], by simpa [cellsZ] using h, .inl rfl⟩
  | q :: zs, S, a, fl, j5, j6, j7, j8, j9, j10, h, hz, hl => by
    have ec : cellsZ (q :: zs) = (List.range q.1).map (fun p => (q.2, p)) ++ cellsZ zs := rfl
    rw [ec] at hl ⊢
    simp only [List.length_append, List.length_map, List.length_range] at hl
    have hq := hz q (by simp)
    obtain ⟨T1, e1⟩ := fLc_ok (α := Nat) (mk := fun p => .int (p : Nat)) (f := fR1 (fCons (fVar 6) fNil)) (g := gNm 7) (e := fTup (fCons (fVar 5) (fCons (fVar 7) fNil))) (vs := [7]) (ρ := [a0, a1, a2, some (.o a), a4, some (.d (.int (q.2 : Nat))), some (.d (.int (q.1 : Nat))), j7, j8, j9, j10]) (S := S) (T0 := []) (ds := List.range q.1) (fun p => .d (sD (q.2, p))) (by
      rw [r1_ev _ _ S S (q.1 : Nat) (by simp) (by omega), List.append_nil]
      simp [rng_map]) (by simp; omega) (fun p hp => ⟨_, fun S => rfl, fun S => .of (by simp [wipeR, sD])⟩)
    simp only [List.append_nil] at e1
    have es : (List.range q.1).map (fun p => W.d (sD (q.2, p))) = spW ((List.range q.1).map fun p => (q.2, p)) := by simp [spW, List.map_map, Function.comp_def]
    rw [es] at e1
    have hal := (List.getElem?_eq_some_iff.mp h).1
    have h1 : (S ++ Cell.lst (spW ((List.range q.1).map fun p => (q.2, p))) :: T1)[a]? = some (.lst (spW fl)) := by rw [List.getElem?_append_left hal]; exact h
    have e2 := add_o (S := S ++ Cell.lst (spW ((List.range q.1).map fun p => (q.2, p))) :: T1) (a := a) (c := S.length) h1 (get_len_app _ _ _) (by simp [spW]; omega)
    rw [← spW_app] at e2
    obtain ⟨T2, a', k5, k6, e3, h3, h4⟩ := free_loop (n := n) (a0 := a0) (a1 := a1) (a2 := a2) (a4 := a4) zs (S ++ Cell.lst (spW ((List.range q.1).map fun p => (q.2, p))) :: T1 ++ [Cell.lst (spW (fl ++ (List.range q.1).map fun p => (q.2, p)))]) (S ++ Cell.lst (spW ((List.range q.1).map fun p => (q.2, p))) :: T1).length (fl ++ (List.range q.1).map fun p => (q.2, p)) (some (.d (.int (q.2 : Nat)))) (some (.d (.int (q.1 : Nat)))) j7 j8 j9 j10 (get_len_app _ _ _) (fun q hq => hz q (by simp [hq])) (by simp; omega)
    refine ⟨Cell.lst (spW ((List.range q.1).map fun p => (q.2, p))) :: T1 ++ [Cell.lst (spW (fl ++ (List.range q.1).map fun p => (q.2, p)))] ++ T2, a', k5, k6, ?_, ?_, ?_⟩
    · rw [List.map_cons, forD_cons]
      simp only [gt_tp2, gt_nm, List.set_cons_zero, List.set_cons_succ]
      unfold freeBody at e3 ⊢
      simp only [st_set, ev_op2, ev_var, List.getElem?_cons_zero, List.getElem?_cons_succ, bind_ok, e1, e2, ofO_some, fl_ok, List.set_cons_zero, List.set_cons_succ]
      rw [e3]
      simp
    · simpa [List.append_assoc] using h3
    · right
      rcases h4 with h4 | h4
      · rw [h4]; simp
      · simp at h4 ⊢; omega
noncomputable def popBody : Fs := (fIf (fTru (fOp2 cGt (fCB gLen (fCons (fVar 3) fNil)) (fC (.d (.int 1))))) (fSeq (fSet 9 (fMt gPopAt (fVar 3) (fCons (fCall 2 [] R__law_digit (fCons (fVar 0) (fCons (fCB gLen (fCons (fVar 3) fNil)) fNil))) fNil)))
  (fSeq (fSet 10 (fMt gPopAt (fVar 3) (fCons (fCall 2 [] R__law_digit (fCons (fVar 0) (fCons (fCB gLen (fCons (fVar 3) fNil)) fNil))) fNil)))
  (fExp (fMt gApp (fVar 4) (fCons (fTup (fCons (fCB (gMM PySem.W.minD 2) (fCons (fVar 9) (fCons (fVar 10) fNil))) (fCons (fCB (gMM PySem.W.maxD 2) (fCons (fVar 9) (fCons (fVar 10) fNil))) fNil))) fNil))))) fSkip)
theorem len_o {S : Sto} {a : Nat} {ws : List W} (h : S[a]? = some (.lst ws)) : gLen [.o a] S = some (.d (.int ws.length), S) := by
  unfold gLen
  simp only [seq_o h]
theorem one_pop {n b : Nat} {S : Sto} {a : Nat} {fl : List Spot} (h : StA n b S) (hb : b + 4 ≤ 2 ^ 40) (ha : S[a]? = some (.lst (spW fl))) (han : a ≠ n) (h0 : 0 < fl.length) (hl : fl.length ≤ 100) : ∃ (i : Nat) (s : Spot) (S' : Sto), fl[i]? = some s ∧
    (∀ ρ : Slt, ρ[0]? = some (some (.o n)) → ρ[3]? = some (some (.o a)) → fMt gPopAt (fVar 3) (fCons (fCall 2 [] R__law_digit (fCons (fVar 0) (fCons (fCB gLen (fCons (fVar 3) fNil)) fNil))) fNil) ρ S = .ok (.d (sD s)) S') ∧
    S'[a]? = some (.lst (spW (fl.eraseIdx i))) ∧ StA n (b + 4) S' ∧ S.length ≤ S'.length ∧ ∀ i, i < S.length → i ≠ n → i ≠ a → S'[i]? = S[i]? := by
  obtain ⟨v, S1, e1, v0, v1, s1, k1⟩ := r_digit h hb (z := (fl.length : Nat)) (by omega) (by omega)
  have hal := (List.getElem?_eq_some_iff.mp ha).1
  have ha1 : S1[a]? = some (.lst (spW fl)) := by rw [k1.same a hal han]; exact ha
  have hal1 := (List.getElem?_eq_some_iff.mp ha1).1
  have hv : v = ((v.toNat : Nat) : Int) := by omega
  have hlt : v.toNat < fl.length := by omega
  refine ⟨v.toNat, fl[v.toNat], S1.set a (.lst (spW (fl.eraseIdx v.toNat))), List.getElem?_eq_getElem hlt, fun ρ h0 h3 => ?_, by rw [List.getElem?_set_self hal1], ?_, by rw [List.length_set]; exact k1.len, fun i hi hin hia => by rw [List.getElem?_set_ne (Ne.symm hia)]; exact k1.same i hi hin⟩
  · have e2 := pop_o ha1 (List.getElem?_eq_getElem hlt) hl
    rw [← hv] at e2
    have e3 : (spW fl).length = fl.length := by simp [spW]
    simp only [ev_mt, ev_var, h3, bind_ok, hpl_a ha, Option.isSome_some, if_true, ev_cons, ev_nil, ev_call, h0, ev_len, len_o ha, e3, ofO_some, List.length_cons, List.length_nil, Nat.zero_add, Nat.reduceAdd, ofD_nil, List.append_nil, e1, e2]
  · obtain ⟨l, c, t, z1, z2⟩ := s1
    exact ⟨l, c, t, by rw [List.getElem?_set_ne han]; exact z1, z2⟩
end G
set_option Elab.async false
set_option linter.all false
set_option maxRecDepth 100000
set_option maxHeartbeats 4000000
/-! M17: touches drawn -/
namespace G
open PySem PySem.Spec L2 PyProof.Rows
set_option autoImplicit false
theorem erase_perm {α : Type} : ∀ (l : List α) (i : Nat) (x : α), l[i]? = some x → l.Perm (x :: l.eraseIdx i)
  | [], i, x, h => by simp at h
  | a :: l, 0, x, h => by
    simp at h
    subst h
    exact List.Perm.refl _
  | a :: l, i + 1, x, h => by
    simp at h
    have := erase_perm l i x h
    rw [List.eraseIdx_cons_succ]
    exact (List.Perm.cons a this).trans (List.Perm.swap _ _ _)
theorem erase_len {α : Type} (l : List α) (i : Nat) (x : α) (h : l[i]? = some x) : (l.eraseIdx i).length + 1 = l.length := by
  have := (erase_perm l i x h).length_eq
  simpa using this.symm
theorem app_t {S : Sto} {c : Nat} {ts : List Tch} (t : Tch) (h : S[c]? = some (.lst (tW ts))) (hl : ts.length ≤ 100) : gApp (.o c) [.d (tcD t)] S = some (.d .none, S.set c (.lst (tW (ts ++ [t])))) := by
  unfold gApp
  simp only [h]
  rw [if_pos (by unfold szOk tW; simp; omega)]
  simp [tW]
theorem pop_loop {n : Nat} {cl : List Spot} (hcl : cl.Nodup) {a1 a2 k5 k6 k7 : Option W} : ∀ (ds : List PyData) (b : Nat) (S : Sto) (a c : Nat) (fl : List Spot) (ts : List Tch) (j8 j9 j10 : Option W), StA n b S → b + 8 * ds.length ≤ 2 ^ 40 → S[a]? = some (.lst (spW fl)) → S[c]? = some (.lst (tW ts)) → a ≠ n → c ≠ n → a ≠ c →
    fl.length ≤ 100 → ts.length + ds.length ≤ 50 → (spotsOf ts ++ fl).Perm cl → (∀ t ∈ ts, ltS t.1 t.2) →
    ∃ (S' : Sto) (ts' : List Tch) (fl' : List Spot) (l8 l9 l10 : Option W), forD (gNm 8) popBody ds [some (.o n), a1, a2, some (.o a), some (.o c), k5, k6, k7, j8, j9, j10] S = .nx [some (.o n), a1, a2, some (.o a), some (.o c), k5, k6, k7, l8, l9, l10] S' ∧ S'[c]? = some (.lst (tW ts')) ∧ ts'.length ≤ ts.length + ds.length ∧
      (spotsOf ts' ++ fl').Perm cl ∧ (∀ t ∈ ts', ltS t.1 t.2) ∧ StA n (b + 8 * ds.length) S' ∧ S.length ≤ S'.length ∧ ∀ i, i < S.length → i ≠ n → i ≠ a → i ≠ c → S'[i]? = S[i]?
  | [], b, S, a, c, fl, ts, j8, j9, j10, h, hb, ha, hc, han, hcn, hac, hf, ht, hp, hlt => ⟨S, ts, fl, j8, j9, j10, rfl, hc, by simp, hp, hlt, h, Nat.le_refl _, fun _ _ _ _ _ => rfl⟩
  | d :: ds, b, S, a, c, fl, ts, j8, j9, j10, h, hb, ha, hc, han, hcn, hac, hf, ht, hp, hlt => by
    simp only [List.length_cons] at hb ht
    have lw : (spW fl).length = fl.length := by simp [spW]
    by_cases h1 : 1 < fl.length
    · obtain ⟨i1, s1, S1, f1, p1, g1, st1, n1, m1⟩ := one_pop h (by omega) ha han (by omega) hf
      have hl1 := erase_len fl i1 s1 f1
      obtain ⟨i2, s2, S2, f2, p2, g2, st2, n2, m2⟩ := one_pop st1 (by omega) g1 han (by omega) (by omega)
      have hcl0 := (List.getElem?_eq_some_iff.mp hc).1
      have hc1 : S1[c]? = some (.lst (tW ts)) := by rw [m1 c hcl0 hcn (Ne.symm hac)]; exact hc
      have hc2 : S2[c]? = some (.lst (tW ts)) := by rw [m2 c (by omega) hcn (Ne.symm hac)]; exact hc1
      have hcl2 := (List.getElem?_eq_some_iff.mp hc2).1
      have hal2 := (List.getElem?_eq_some_iff.mp g2).1
      have q1 := erase_perm fl i1 s1 f1
      have q2 := erase_perm (fl.eraseIdx i1) i2 s2 f2
      have q3 : fl.Perm (s1 :: s2 :: (fl.eraseIdx i1).eraseIdx i2) := q1.trans (List.Perm.cons s1 q2)
      have hnd : (s1 :: s2 :: (fl.eraseIdx i1).eraseIdx i2).Nodup := by
        have := (hp.nodup_iff).mpr hcl
        exact q3.nodup_iff.mp (List.nodup_append.mp this).2.1
      have hne : s1 ≠ s2 := fun z => by
        rw [List.nodup_cons] at hnd
        exact hnd.1 (by simp [z])
      have st3 : StA n (b + 4 + 4) (S2.set c (.lst (tW (ts ++ [mkT s1 s2])))) := by
        obtain ⟨l, cc, t, z1, z2⟩ := st2
        exact ⟨l, cc, t, by rw [List.getElem?_set_ne hcn]; exact z1, z2⟩
      have hp2 : (spotsOf (ts ++ [mkT s1 s2]) ++ (fl.eraseIdx i1).eraseIdx i2).Perm cl := by
        refine List.Perm.trans ?_ hp
        rw [spotsOf_app, List.append_assoc]
        refine List.Perm.append_left _ ?_
        refine List.Perm.trans ?_ q3.symm
        exact List.Perm.append_right _ (mkT_perm s1 s2)
      obtain ⟨S', ts', fl', l8, l9, l10, e3, r1, r2, r3, r4, r5, r6, r7⟩ := pop_loop hcl (a1 := a1) (a2 := a2) (k5 := k5) (k6 := k6) (k7 := k7) ds (b + 4 + 4) (S2.set c (.lst (tW (ts ++ [mkT s1 s2])))) a c ((fl.eraseIdx i1).eraseIdx i2) (ts ++ [mkT s1 s2]) (some (.d d)) (some (.d (sD s1))) (some (.d (sD s2))) st3 (by omega)
        (by rw [List.getElem?_set_ne (Ne.symm hac)]; exact g2) (by rw [List.getElem?_set_self hcl2]) han hcn hac (by have := erase_len _ i2 s2 f2; omega) (by simp; omega) hp2 (fun t ht' => by
          rcases List.mem_append.mp ht' with ht' | ht'
          · exact hlt t ht'
          · have : t = mkT s1 s2 := by simpa using ht'
            rw [this]
            exact mkT_lt s1 s2 hne)
      refine ⟨S', ts', fl', l8, l9, l10, ?_, r1, by simp at r2 ⊢; omega, r3, r4, by rw [List.length_cons, show b + 8 * (ds.length + 1) = b + 4 + 4 + 8 * ds.length by omega]; exact r5, by rw [List.length_set] at r6; omega, fun i hi hin hia hic => ?_⟩
      · have et : ∀ S, fzT [.d (sD (mkT s1 s2).1), .d (sD (mkT s1 s2).2)] S = some (tcD (mkT s1 s2), S) := fun S => fzT_d2 _ _ S
        have a1' : (1 : Int) < (fl.length : Int) := by omega
        rw [forD_cons]
        simp only [gt_nm, List.set_cons_zero, List.set_cons_succ]
        unfold popBody at e3 ⊢
        rw [st_if]
        simp only [ev_tru, ev_op2, ev_len, ev_cons, ev_nil, ev_var, ev_c, List.getElem?_cons_zero, List.getElem?_cons_succ, bind_ok, len_o ha, lw, ofO_some, gt_int', decide_eq_true a1', truth_b, Option.map_some, fl_ok, if_true, st_seq, st_set]
        rw [p1 _ rfl rfl]
        simp only [fl_ok, List.set_cons_zero, List.set_cons_succ]
        rw [p2 _ rfl rfl]
        simp only [fl_ok, List.set_cons_zero, List.set_cons_succ, st_exp]
        rw [ev_mt]
        simp only [ev_var, List.getElem?_cons_zero, List.getElem?_cons_succ, bind_ok, hpl_a hc2, Option.isSome_some, if_true, ev_cons, ev_nil, fTup_d2, ev_mm, mm_s, ofO_some, min_s, max_s s1 s2 hne, et, app_t (mkT s1 s2) hc2 (by omega), fl_ok]
        exact e3
      · rw [r7 i (by rw [List.length_set]; omega) hin hia hic, List.getElem?_set_ne (Ne.symm hic), m2 i (by omega) hin hia, m1 i hi hin hia]
    · obtain ⟨S', ts', fl', l8, l9, l10, e3, r1, r2, r3, r4, r5, r6, r7⟩ := pop_loop hcl (a1 := a1) (a2 := a2) (k5 := k5) (k6 := k6) (k7 := k7) ds b S a c fl ts (some (.d d)) j9 j10 h (by omega) ha hc han hcn hac hf (by omega) hp hlt
      refine ⟨S', ts', fl', l8, l9, l10, ?_, r1, by simp; omega, r3, r4, ?_, r6, r7⟩
      · have a1' : ¬ ((1 : Int) < (fl.length : Int)) := by omega
        rw [forD_cons]
        simp only [gt_nm, List.set_cons_zero, List.set_cons_succ]
        unfold popBody at e3 ⊢
        rw [st_if]
        simp only [ev_tru, ev_op2, ev_len, ev_cons, ev_nil, ev_var, ev_c, List.getElem?_cons_zero, List.getElem?_cons_succ, bind_ok, len_o ha, lw, ofO_some, gt_int', decide_eq_false a1', truth_b, Option.map_some, fl_ok, Bool.false_eq_true, if_false, st_skip]
        exact e3
      · obtain ⟨l, cc, t, z1, z2, z3⟩ := r5
        exact ⟨l, cc, t, z1, z2, by rw [List.length_cons]; omega⟩
end G
set_option Elab.async false
set_option linter.all false
set_option maxRecDepth 100000
set_option maxHeartbeats 4000000
/-! M18: machines drawn -/
namespace G
open PySem PySem.Spec L2 PyProof.Rows
set_option autoImplicit false
theorem cells_mem (cs : List Nat) (s : Spot) : s ∈ cells cs ↔ okS cs s := by
  unfold cells cellsZ okS
  rw [List.mem_flatMap]
  constructor
  · rintro ⟨q, hq, hs⟩
    obtain ⟨p, hp, rfl⟩ := List.mem_map.mp hs
    have hz := List.mem_zipIdx (x := q.1) (i := q.2) hq
    have hlt : q.2 < cs.length := by have := hz.2.1; omega
    refine ⟨q.1, ?_, by simpa using hp⟩
    rw [List.getElem?_eq_getElem hlt, hz.2.2]
    simp
  · rintro ⟨c, h1, h2⟩
    refine ⟨(c, s.1), List.mem_of_getElem? (zipIdx_at h1), ?_⟩
    exact List.mem_map.mpr ⟨s.2, by simpa using h2, rfl⟩
theorem cells_nodup (cs : List Nat) : (cells cs).Nodup := by
  unfold cells cellsZ
  rw [List.Nodup, List.pairwise_flatMap]
  refine ⟨fun q hq => ?_, ?_⟩
  · rw [List.pairwise_map]
    refine List.Pairwise.imp ?_ (List.nodup_range (n := q.1))
    intro a b hab z
    exact hab (by injection z)
  · have h1 : (cs.zipIdx.map Prod.snd).Nodup := by
      rw [List.zipIdx_map_snd]
      exact List.nodup_range'
    rw [List.Nodup, List.pairwise_map] at h1
    refine h1.imp ?_
    intro a b hab x hx y hy z
    obtain ⟨p, _, rfl⟩ := List.mem_map.mp hx
    obtain ⟨r, _, rfl⟩ := List.mem_map.mp hy
    exact hab (by injection z)
theorem datsOf_ds : ∀ ds : List PyData, datsOf (ds.map W.d) = some ds
  | [] => rfl
  | d :: ds => by
    show (match datsOf (ds.map W.d) with | some l => some (d :: l) | none => none) = _
    rw [datsOf_ds ds]
theorem sortOk_t (ts : List Tch) (hl : ts.length ≤ 1000) : sortOk (ts.map tcD) = true := by
  have h1 : ∀ t : Tch, isNn (tcD t) = false ∧ (tcD t).depth ≤ 60 ∧ isTup1 (tcD t) = true := fun t => ⟨rfl, by show 2 ≤ 60; decide, rfl⟩
  unfold sortOk alikeOk szOk
  simp [al_t, (h1 _).1, (h1 _).2.1, (h1 _).2.2]
  omega
theorem sort_o {S : Sto} {c : Nat} {ts us : List Tch} (h : S[c]? = some (.lst (tW ts))) (hl : ts.length ≤ 1000) (hs : srt (ts.map tcD) = us.map tcD) : gSort [.o c] S = some (.o S.length, S ++ [.lst (tW us)]) := by
  unfold gSort
  have : lstOf (.o c) S = some (tW ts) := by
    unfold lstOf
    simp only [h]
  simp only [this, tW, datsOf_ds]
  rw [if_pos (sortOk_t ts hl), hs]
theorem spotsOf_mem (ts : List Tch) (t : Tch) (h : t ∈ ts) : t.1 ∈ spotsOf ts ∧ t.2 ∈ spotsOf ts := by
  unfold spotsOf
  exact ⟨List.mem_flatMap.mpr ⟨t, h, by simp⟩, List.mem_flatMap.mpr ⟨t, h, by simp⟩⟩
theorem r_touches {n b : Nat} {S : Sto} (h : StA n b S) (hb : b + 100 ≤ 2 ^ 40) {cs : List Nat} (hz : ∀ q ∈ cs.zipIdx, q.1 ≤ 30) (hs : cs.sum ≤ 30) : ∃ (ts : List Tch) (S' : Sto), R__law_touches [.o n, .d (csD cs), .d (.int 8)] S = .ok (.d (tsD ts)) S' ∧
    ts.length ≤ 8 ∧ (∀ t ∈ ts, okS cs t.1 ∧ okS cs t.2 ∧ ltS t.1 t.2) ∧ ts.Pairwise ltT ∧ (spotsOf ts).Nodup ∧ StA n (b + 100) S' ∧ Kp n S S' := by
  have hn := h.lt
  have hcl := cells_len (cs := cs)
  let S0 : Sto := S ++ [Cell.lst (spW [])] ++ [Cell.lst (tW [])]
  have hS0 : S0 = S ++ [Cell.lst (spW [])] ++ [Cell.lst (tW [])] := rfl
  have l0 : S0.length = S.length + 2 := by simp [hS0]
  have a0 : S0[S.length]? = some (.lst (spW [])) := by rw [hS0, List.append_assoc]; exact get_len_app _ _ _
  obtain ⟨T, a, k5, k6, e1, h1, h2⟩ := free_loop (n := n) (a0 := some (.o n)) (a1 := some (.d (csD cs))) (a2 := some (.d (.int 8))) (a4 := some (.o (S.length + 1))) cs.zipIdx S0 S.length [] none none none none none none a0 hz (by simp; unfold cells at hcl; omega)
  rw [List.nil_append] at h1
  have hc0 : (S0 ++ T)[S.length + 1]? = some (.lst (tW [])) := by
    rw [List.getElem?_append_left (by omega), hS0, List.getElem?_append_right (by simp)]
    simp
  have st0 : StA n b (S0 ++ T) := ((h.app _).app _).app T
  obtain ⟨v, S1, e2, v0, v1, st1, k1⟩ := r_digit st0 (by omega) (z := 9) (by decide) (by decide)
  have han : a ≠ n := by rcases h2 with h2 | h2 <;> omega
  have hac : a ≠ S.length + 1 := by rcases h2 with h2 | h2 <;> omega
  have hal := (List.getElem?_eq_some_iff.mp h1).1
  have g1 : S1[a]? = some (.lst (spW (cells cs))) := by rw [k1.same a hal han]; exact h1
  have g2 : S1[S.length + 1]? = some (.lst (tW [])) := by rw [k1.same _ (by simp; omega) (by omega)]; exact hc0
  have hr : (rngD 0 v.toNat).length = v.toNat := by simp [rngD]
  obtain ⟨S2, ts, fl, l8, l9, l10, e3, r1, r2, r3, r4, r5, r6, r7⟩ := pop_loop (n := n) (cells_nodup cs) (a1 := some (.d (csD cs))) (a2 := some (.d (.int 8))) (k5 := k5) (k6 := k6) (k7 := none) (rngD 0 v.toNat) (b + 4) S1 a (S.length + 1) (cells cs) [] none none none st1 (by rw [hr]; omega) g1 g2 han (by omega) hac (by omega) (by rw [hr]; simp; omega) (by simp [spotsOf]) (fun t ht => by cases ht)
  have hnd : (spotsOf ts ++ fl).Nodup := r3.nodup_iff.mpr (cells_nodup cs)
  have hnd1 := (List.nodup_append.mp hnd).1
  have htnd : ts.Nodup := by
    have : ∀ l : List Tch, (spotsOf l).Nodup → l.Nodup := fun l => by
      induction l with
      | nil => intro _; exact List.nodup_nil
      | cons t l ih =>
        intro hl
        have e : spotsOf (t :: l) = [t.1, t.2] ++ spotsOf l := rfl
        rw [e] at hl
        obtain ⟨_, h2, h3⟩ := List.nodup_append.mp hl
        rw [List.nodup_cons]
        exact ⟨fun z => h3 t.1 (by simp) t.1 (spotsOf_mem l t z).1 rfl, ih h2⟩
    exact this ts hnd1
  obtain ⟨us, q1, q2, q3⟩ := srt_t ts htnd
  have hlen : ts.length ≤ 8 := by rw [hr] at r2; simp at r2; omega
  have e4 := sort_o r1 (by omega) q1
  refine ⟨us, S2 ++ [Cell.lst (tW us)], ?_, by rw [q2.length_eq]; exact hlen, fun t ht => ?_, q3, ?_, ?_, ?_⟩
  · have eA : ∀ ρ : Slt, fLst fNil ρ S = .ok (.o S.length) (S ++ [Cell.lst (spW [])]) := fun ρ => rfl
    have eB : ∀ ρ : Slt, fLst fNil ρ (S ++ [Cell.lst (spW [])]) = .ok (.o (S.length + 1)) S0 := fun ρ => by
      show Out.ok (W.o (S ++ [Cell.lst (spW [])]).length) ((S ++ [Cell.lst (spW [])]) ++ [Cell.lst []]) = _
      simp [hS0, tW]
    have eZ : enumD (cs.map fun c => PyData.int (c : Nat)) = cs.zipIdx.map fun q => .tuple [.int (q.2 : Nat), .int (q.1 : Nat)] := by simp [enumD, List.zipIdx_map]
    have eR : fR1 (fCons (fCall 2 [] R__law_digit (fCons (fVar 0) (fCons (fOp2 gAdd (fVar 2) (fC (.d (.int 1)))) fNil))) fNil) [some (.o n), some (.d (csD cs)), some (.d (.int 8)), some (.o a), some (.o (S.length + 1)), k5, k6, none, none, none, none] (S0 ++ T) = .ok (rngD 0 v.toNat) S1 := r1_ev _ _ _ _ v (by simp [e2]) (by omega)
    have eT : ∀ ρ : Slt, ρ[4]? = some (some (.o (S.length + 1))) → fCB gTuple (fCons (fCB gSort (fCons (fVar 4) fNil)) fNil) ρ S2 = .ok (.d (tsD us)) (S2 ++ [Cell.lst (tW us)]) := fun ρ hρ => by
      simp only [ev_cb, ev_cons, ev_nil, ev_var, hρ, bind_ok, e4, ofO_some]
      have hg : (S2 ++ [Cell.lst (tW us)])[S2.length]? = some (Cell.lst ((us.map tcD).map W.d)) := get_len_app S2 (Cell.lst (tW us)) []
      rw [gTuple_o hg]
      rfl
    unfold freeBody at e1
    unfold popBody at e3
    unfold R__law_touches runB B__law_touches
    simp only [startR, List.map_cons, List.map_nil, List.length_cons, List.length_nil, Nat.zero_add, Nat.reduceAdd, Nat.reduceSub, List.replicate, List.cons_append, List.nil_append, st_seq, st_par, ev_cons, ev_nil, eA, eB, bind_ok, fl_ok, List.set_cons_zero, List.set_cons_succ, st_for, en_ev, ev_var, List.getElem?_cons_zero, List.getElem?_cons_succ, items_cs, ofO_some, eZ, e1, eR]
    simp only [e3, fl_ok, st_ret]
    rw [eT _ rfl]
    rfl
  · have ht' := q2.mem_iff.mp ht
    obtain ⟨m1, m2⟩ := spotsOf_mem ts t ht'
    exact ⟨(cells_mem cs _).mp (r3.mem_iff.mp (List.mem_append_left _ m1)), (cells_mem cs _).mp (r3.mem_iff.mp (List.mem_append_left _ m2)), r4 t ht'⟩
  · exact (List.Perm.flatMap_right _ q2).nodup_iff.mpr hnd1
  · obtain ⟨l, c, t, z1, z2, z3⟩ := r5
    refine ⟨l, c, t, by rw [List.getElem?_append_left (List.getElem?_eq_some_iff.mp z1).1]; exact z1, z2, by rw [hr] at z3; omega⟩
  · have kk : Kp n S S2 := by
      have ks0 : Kp n S (S0 ++ T) := by rw [hS0, List.append_assoc, List.append_assoc]; exact Kp.app n S _
      have ks1 := ks0.trans k1
      refine ⟨Nat.le_trans ks1.len r6, fun i hi hin => ?_⟩
      rw [r7 i (Nat.lt_of_lt_of_le hi ks1.len) hin (by rcases h2 with h2 | h2 <;> omega) (by omega)]
      exact ks1.same i hi hin
    exact kk.trans (Kp.app n S2 _)
theorem r_machine {n b : Nat} {S : Sto} (h : StA n b S) (hb : b + 140 ≤ 2 ^ 40) {most : Nat} (hm : 0 < most) (hm2 : most ≤ 30) : ∃ (m : Mach) (S' : Sto), R__law_machine [.o n, .d (.int (most : Nat))] S = .ok (.d (mD m)) S' ∧ Ok m ∧ m.cs.sum ≤ most ∧ StA n (b + 140) S' ∧ Kp n S S' := by
  obtain ⟨cs, S1, e1, c1, c2, c3, c4, s1, k1⟩ := r_counts h (by omega) hm
  have hone : ∀ c ∈ cs, c ≤ cs.sum := fun c hc => by
    have : ∀ l : List Nat, c ∈ l → c ≤ l.sum := fun l => by
      induction l with
      | nil => intro h; cases h
      | cons a l ih =>
        intro h
        rcases List.mem_cons.mp h with rfl | h
        · simp
        · have := ih h; simp; omega
    exact this cs hc
  have hz : ∀ q ∈ cs.zipIdx, q.1 ≤ 30 := fun q hq => by
    have hz := List.mem_zipIdx (x := q.1) (i := q.2) hq
    have := hone q.1 (by rw [hz.2.2]; exact List.getElem_mem _)
    omega
  obtain ⟨ts, S2, e2, t1, t2, t3, t4, s2, k2⟩ := r_touches s1 (by omega) hz (by omega)
  refine ⟨⟨cs, ts⟩, S2, ?_, ⟨c1, by simp only []; omega, c3, by simp only []; omega, t1, t2, t3, t4⟩, c4, s2, k1.trans k2⟩
  unfold R__law_machine runB B__law_machine
  have e3 : fzT [.d (csD cs), .d (tsD ts)] S2 = some (mD ⟨cs, ts⟩, S2) := fzT_d2 _ _ _
  simp [startR, e1, e2, e3]
end G
set_option Elab.async false
set_option linter.all false
set_option maxRecDepth 100000
set_option maxHeartbeats 4000000
/-! M19: loads drawn -/
namespace G
open PySem PySem.Spec L2 PyProof.Rows
set_option autoImplicit false
noncomputable def pairE : Fe W := fTup (fCons (fOp2 gSub (fCall 2 [] R__law_digit (fCons (fVar 0) (fCons (fOp2 gAdd (fOp2 gMulT (fC (.d (.int 2))) (fVar 2)) (fC (.d (.int 1)))) fNil))) (fVar 2)) (fCons (fOp2 gAdd (fC (.d (.int 1))) (fCall 2 [] R__law_digit (fCons (fVar 0) (fCons (fC (.d (.int 3))) fNil)))) fNil))
def prD (x : Int × Int) : PyData := .tuple [.int x.1, .int x.2]
def okP (span : Nat) (x : Int × Int) : Prop := -(span : Int) ≤ x.1 ∧ x.1 ≤ span ∧ 1 ≤ x.2 ∧ x.2 ≤ 3
theorem pair_ev {n b span : Nat} (hsp : span ≤ 1000) {S : Sto} (h : StA n b S) (hb : b + 8 ≤ 2 ^ 40) : ∃ (x : Int × Int) (S' : Sto), (∀ ρ : Slt, ρ[0]? = some (some (.o n)) → ρ[2]? = some (some (.d (.int (span : Nat)))) → pairE ρ S = .ok (.d (prD x)) S') ∧ okP span x ∧ StA n (b + 8) S' ∧ Kp n S S' := by
  obtain ⟨v, S1, e1, v0, v1, s1, k1⟩ := r_digit h (by omega) (z := 2 * (span : Int) + 1) (by omega) (by omega)
  obtain ⟨u, S2, e2, u0, u1, s2, k2⟩ := r_digit s1 (by omega) (z := 3) (by decide) (by decide)
  refine ⟨(v - span, 1 + u), S2, fun ρ h0 h2 => ?_, ⟨by simp only []; omega, by simp only []; omega, by simp only []; omega, by simp only []; omega⟩, s2, k1.trans k2⟩
  have et : ∀ S, fzT [.d (.int (v - span)), .d (.int (1 + u))] S = some (prD (v - span, 1 + u), S) := fun S => fzT_d2 _ _ S
  unfold pairE
  simp only [fTup_d2, ev_op2, ev_call, ev_cons, ev_nil, ev_var, ev_c, h0, h2, bind_ok, mul_int (tiny_l (i := 2) (j := (span : Int)) (by omega)), ofO_some, add_int, List.length_cons, List.length_nil, Nat.zero_add, Nat.reduceAdd, if_true, ofD_nil, List.append_nil, e1, sub_int, e2, et]
theorem pairs_comp {n span : Nat} (hsp : span ≤ 1000) {k : Nat} (hkn : k ≠ n) {ρ : Slt} (h0 : ρ[0]? = some (some (.o n))) (h2 : ρ[2]? = some (some (.d (.int (span : Nat))))) : ∀ (ds : List PyData) (b : Nat) (S : Sto) (acc : List (Int × Int)), StA n b S → b + 8 * ds.length ≤ 2 ^ 40 →
    S[k]? = some (.lst ((acc.map prD).map W.d)) → acc.length + ds.length ≤ 1000 → (∀ x ∈ acc, okP span x) → ∃ (S' : Sto) (xs : List (Int × Int)), compD (gNm 6) fYes pairE k ds ρ S = .ok () S' ∧ S'[k]? = some (.lst ((xs.map prD).map W.d)) ∧ xs.length = acc.length + ds.length ∧ (∀ x ∈ xs, okP span x) ∧
      StA n (b + 8 * ds.length) S' ∧ S.length ≤ S'.length ∧ ∀ i, i < S.length → i ≠ n → i ≠ k → S'[i]? = S[i]?
  | [], b, S, acc, h, hb, hk, hl, ho => ⟨S, acc, rfl, hk, by simp, ho, h, Nat.le_refl _, fun _ _ _ _ => rfl⟩
  | d :: ds, b, S, acc, h, hb, hk, hl, ho => by
    simp only [List.length_cons] at hb hl
    obtain ⟨x, S1, e1, hx, s1, k1⟩ := pair_ev hsp h (by omega)
    have hkl := (List.getElem?_eq_some_iff.mp hk).1
    have hk1 : S1[k]? = some (.lst ((acc.map prD).map W.d)) := by rw [k1.same k hkl hkn]; exact hk
    have hkl1 := (List.getElem?_eq_some_iff.mp hk1).1
    have s2 : StA n (b + 8) (S1.set k (.lst (((acc ++ [x]).map prD).map W.d))) := by
      obtain ⟨l, c, t, z1, z2⟩ := s1
      exact ⟨l, c, t, by rw [List.getElem?_set_ne hkn]; exact z1, z2⟩
    obtain ⟨S', xs, e2, r1, r2, r3, r4, r5, r6⟩ := pairs_comp hsp hkn h0 h2 ds (b + 8) _ (acc ++ [x]) s2 (by omega) (by rw [List.getElem?_set_self hkl1]) (by simp; omega) (fun y hy => by
      rcases List.mem_append.mp hy with hy | hy
      · exact ho y hy
      · have : y = x := by simpa using hy
        rw [this]; exact hx)
    refine ⟨S', xs, ?_, r1, by rw [r2]; simp; omega, r3, by rw [List.length_cons, show b + 8 * (ds.length + 1) = b + 8 + 8 * ds.length by omega]; exact r4, by rw [List.length_set] at r5; exact Nat.le_trans k1.len r5, fun i hi hin hik => ?_⟩
    · unfold compD
      have hρ0 : (ρ.set 6 (some (.d d)))[0]? = some (some (.o n)) := by rw [List.getElem?_set_ne (by decide)]; exact h0
      have hρ2 : (ρ.set 6 (some (.d d)))[2]? = some (some (.d (.int (span : Nat)))) := by rw [List.getElem?_set_ne (by decide)]; exact h2
      simp only [gt_nm, fYes, bind_ok, if_true, e1 _ hρ0 hρ2, hk1]
      rw [if_pos (by unfold szOk; simp; omega)]
      have e3 : (acc.map prD).map W.d ++ [W.d (prD x)] = ((acc ++ [x]).map prD).map W.d := by simp
      rw [e3]
      exact e2
    · rw [r6 i (by rw [List.length_set]; exact Nat.lt_of_lt_of_le hi k1.len) hin hik, List.getElem?_set_ne (Ne.symm hik), k1.same i hi hin]
def qOf (x : Int × Int) : Rat := Rat.divInt x.1 x.2
theorem bd_q {span : Nat} {x : Int × Int} (h : okP span x) : Bd 6 span (qOf x) := by
  obtain ⟨a, c⟩ := x
  obtain ⟨h1, h2, h3, h4⟩ := h
  simp only at h1 h2 h3 h4
  unfold qOf
  simp only [Rat.divInt_eq_div]
  have c1 : (1 : Rat) ≤ (c : Rat) := by exact_mod_cast h3
  have c0 : (c : Rat) ≠ 0 := by intro z; rw [z] at c1; exact absurd c1 (by decide)
  have a1 : -(span : Rat) ≤ (a : Rat) := by
    have : ((-(span : Int) : Int) : Rat) ≤ (a : Rat) := by exact_mod_cast h1
    push_cast at this
    exact this
  have a2 : (a : Rat) ≤ (span : Rat) := by exact_mod_cast h2
  have s0 : (0 : Rat) ≤ (span : Rat) := by exact_mod_cast Nat.zero_le span
  have q1 : (a : Rat) / (c : Rat) * c = a := by grind
  refine ⟨den_dvd.mpr ?_, ?_, ?_⟩
  · have : c = 1 ∨ c = 2 ∨ c = 3 := by omega
    rcases this with rfl | rfl | rfl
    · exact ⟨a * 6, by push_cast; grind⟩
    · exact ⟨a * 3, by push_cast; grind⟩
    · exact ⟨a * 2, by push_cast; grind⟩
  · have : c = 1 ∨ c = 2 ∨ c = 3 := by omega
    rcases this with rfl | rfl | rfl <;> push_cast <;> grind
  · have : c = 1 ∨ c = 2 ∨ c = 3 := by omega
    rcases this with rfl | rfl | rfl <;> push_cast <;> grind
end G
set_option Elab.async false
set_option linter.all false
set_option maxRecDepth 100000
set_option maxHeartbeats 4000000
/-! M20: loads drawn -/
namespace G
open PySem PySem.Spec L2 PyProof.Rows
set_option autoImplicit false
def rwD (xs : List Rat) : PyData := .tuple (xs.map fr)
noncomputable def loadBody : Fs := (fSeq (fSet 5 (fLc (fR1 (fCons (fVar 4) fNil)) (gNm 6) fYes pairE [6]))
  (fExp (fMt gApp (fVar 3) (fCons (fCB gTuple (fCons (fLc (fIt (fVar 5)) (gTp 2 (gsCons (gNm 7) (gsCons (gNm 8) gsNil))) fYes (fCall 2 [] R__law_lowest (fCons (fVar 7) (fCons (fVar 8) fNil))) [7, 8]) fNil)) fNil))))
def rwW (rows : List (List Rat)) : List W := (rows.map rwD).map W.d
theorem items_pairs {S : Sto} {k : Nat} {xs : List (Int × Int)} (h : S[k]? = some (.lst ((xs.map prD).map W.d))) : itemsOf (.o k) S = some (xs.map prD, S.set k (.fz (.list (xs.map prD)))) := by
  unfold itemsOf
  have e : frz 6 (.o k) S = some (.list (xs.map prD), S.set k (.fz (.list (xs.map prD)))) := by
    show (match S[k]? with | some (.fz x) => some (x, S) | some (.lst ws) => (match frzL (frz 5) ws S with | some (ds, S1) => some (PyData.list ds, S1.set k (.fz (.list ds))) | none => none) | _ => none) = _
    rw [h]
    simp only [frzL_ds]
  rw [e]
theorem load_turn {n b span : Nat} (hsp : span ≤ 1000) {S : Sto} {F : Nat} {rows : List (List Rat)} {c : Nat} {a1 j5 j6 j7 j8 : Option W} (h : StA n b S) (hb : b + 8 * c ≤ 2 ^ 40) (hF : S[F]? = some (.lst (rwW rows))) (hFn : F ≠ n) (hc : c ≤ 30) (hr : rows.length ≤ 100) :
    ∃ (S' : Sto) (xs : List Rat) (k5 : Option W), loadBody [some (.o n), a1, some (.d (.int (span : Nat))), some (.o F), some (.d (.int (c : Nat))), j5, j6, j7, j8] S = .nx [some (.o n), a1, some (.d (.int (span : Nat))), some (.o F), some (.d (.int (c : Nat))), k5, j6, j7, j8] S' ∧
      xs.length = c ∧ (∀ x ∈ xs, Bd 6 span x) ∧ S'[F]? = some (.lst (rwW (rows ++ [xs]))) ∧ StA n (b + 8 * c) S' ∧ S.length ≤ S'.length ∧ ∀ i, i < S.length → i ≠ n → i ≠ F → S'[i]? = S[i]? := by
  have hn := h.lt
  have hFl := (List.getElem?_eq_some_iff.mp hF).1
  have hlr : ((List.range c).map fun p => PyData.int (p : Nat)).length = c := by simp
  obtain ⟨S1, xs, e1, g1, g2, g3, g4, g5, g6⟩ := pairs_comp (n := n) (span := span) hsp (k := S.length) (by omega) (ρ := wipeR [some (.o n), a1, some (.d (.int (span : Nat))), some (.o F), some (.d (.int (c : Nat))), j5, j6, j7, j8] [6]) rfl rfl ((List.range c).map fun p => .int (p : Nat)) b (S ++ [Cell.lst []]) [] (h.app _) (by rw [hlr]; exact hb) (get_len_app _ _ _) (by rw [hlr]; simp; omega) (fun x hx => by cases hx)
  rw [hlr] at g2 g4
  simp only [List.length_nil, Nat.zero_add] at g2
  have hF1 : S1[F]? = some (.lst (rwW rows)) := by
    rw [g6 F (by simp; omega) hFn (by omega), List.getElem?_append_left hFl]
    exact hF
  have hkl := (List.getElem?_eq_some_iff.mp g1).1
  have hFl1 := (List.getElem?_eq_some_iff.mp hF1).1
  obtain ⟨T, e2⟩ := tupLc' (f := fIt (fVar 5)) (g := gTp 2 (gsCons (gNm 7) (gsCons (gNm 8) gsNil))) (e := fCall 2 [] R__law_lowest (fCons (fVar 7) (fCons (fVar 8) fNil))) (vs := [7, 8]) (ρ := [some (.o n), a1, some (.d (.int (span : Nat))), some (.o F), some (.d (.int (c : Nat))), some (.o S.length), j6, j7, j8]) (S := S1) (S0 := S1.set S.length (.fz (.list (xs.map prD)))) xs prD (fun x => fr (qOf x))
    (by simp only [it_ev, ev_var, List.getElem?_cons_zero, List.getElem?_cons_succ, bind_ok, items_pairs g1, ofO_some]) (by omega) (fun x hx => ⟨_, fun S => rfl, fun S => .of (by
      obtain ⟨h1, h2, h3, h4⟩ := g3 x hx
      have hx0 : 0 < x.2 := by omega
      simp [wipeR, r__law_lowest hx0 (show x.2.natAbs < 2 ^ 7000 from Nat.lt_of_lt_of_le (show x.2.natAbs < 2 ^ 2 by omega) (Nat.pow_le_pow_right (by decide) (by decide))) S, qOf])⟩)
  have eX : PyData.tuple (xs.map fun x => fr (qOf x)) = rwD (xs.map qOf) := by unfold rwD; rw [List.map_map]; rfl
  rw [eX] at e2
  have hF2 : (S1.set S.length (.fz (.list (xs.map prD))) ++ T)[F]? = some (.lst (rwW rows)) := by
    rw [List.getElem?_append_left (by rw [List.length_set]; exact hFl1), List.getElem?_set_ne (by omega)]
    exact hF1
  have hFl2 := (List.getElem?_eq_some_iff.mp hF2).1
  have eA : gApp (.o F) [.d (rwD (xs.map qOf))] (S1.set S.length (.fz (.list (xs.map prD))) ++ T) = some (.d .none, (S1.set S.length (.fz (.list (xs.map prD))) ++ T).set F (.lst (rwW (rows ++ [xs.map qOf])))) := by
    unfold gApp
    simp only [hF2]
    rw [if_pos (by unfold szOk rwW; simp; omega)]
    simp [rwW]
  refine ⟨(S1.set S.length (.fz (.list (xs.map prD))) ++ T).set F (.lst (rwW (rows ++ [xs.map qOf]))), xs.map qOf, some (.o S.length), ?_, by rw [List.length_map]; exact g2, fun x hx => ?_, by rw [List.getElem?_set_self hFl2], ?_, ?_, fun i hi hin hiF => ?_⟩
  · have eL : fLc (fR1 (fCons (fVar 4) fNil)) (gNm 6) fYes pairE [6] [some (.o n), a1, some (.d (.int (span : Nat))), some (.o F), some (.d (.int (c : Nat))), j5, j6, j7, j8] S = .ok (.o S.length) S1 := by
      unfold fLc
      rw [r1_ev _ _ S S (c : Nat) (by simp) (by omega)]
      simp only [bind_ok, Int.toNat_natCast, rng_map, e1, noX_ok]
    unfold loadBody
    simp only [st_seq, st_set, eL, fl_ok, List.set_cons_zero, List.set_cons_succ, st_exp]
    rw [ev_mt]
    simp only [ev_var, List.getElem?_cons_zero, List.getElem?_cons_succ, bind_ok, hpl_a hF1, Option.isSome_some, if_true, ev_cons, ev_nil, e2, eA, ofO_some, fl_ok]
  · obtain ⟨y, hy, rfl⟩ := List.mem_map.mp hx
    exact bd_q (g3 y hy)
  · obtain ⟨l, cc, t, z1, z2⟩ := g4
    have z3 := (List.getElem?_eq_some_iff.mp z1).1
    exact ⟨l, cc, t, by rw [List.getElem?_set_ne hFn, List.getElem?_append_left (by rw [List.length_set]; exact z3), List.getElem?_set_ne (by omega)]; exact z1, z2⟩
  · rw [List.length_set, List.length_append, List.length_set]
    simp at g5
    omega
  · have hil : i < S1.length := by simp at g5; omega
    rw [List.getElem?_set_ne (Ne.symm hiF), List.getElem?_append_left (by rw [List.length_set]; exact hil), List.getElem?_set_ne (by omega), g6 i (by simp; omega) hin (by omega), List.getElem?_append_left hi]
theorem load_loop {n span : Nat} (hsp : span ≤ 1000) {F : Nat} (hFn : F ≠ n) {a1 j6 j7 j8 : Option W} : ∀ (cs : List Nat) (b : Nat) (S : Sto) (rows : List (List Rat)) (j4 j5 : Option W), StA n b S → b + 8 * cs.sum ≤ 2 ^ 40 → S[F]? = some (.lst (rwW rows)) → (∀ c ∈ cs, c ≤ 30) → rows.length + cs.length ≤ 100 → (∀ r ∈ rows, ∀ x ∈ r, Bd 6 span x) →
    ∃ (S' : Sto) (more : List (List Rat)) (k4 k5 : Option W), forD (gNm 4) loadBody (cs.map fun c => .int (c : Nat)) [some (.o n), a1, some (.d (.int (span : Nat))), some (.o F), j4, j5, j6, j7, j8] S = .nx [some (.o n), a1, some (.d (.int (span : Nat))), some (.o F), k4, k5, j6, j7, j8] S' ∧
      S'[F]? = some (.lst (rwW (rows ++ more))) ∧ more.map List.length = cs ∧ (∀ r ∈ rows ++ more, ∀ x ∈ r, Bd 6 span x) ∧ StA n (b + 8 * cs.sum) S' ∧ S.length ≤ S'.length ∧ ∀ i, i < S.length → i ≠ n → i ≠ F → S'[i]? = S[i]?
  | [], b, S, rows, j4, j5, h, hb, hF, hc, hr, ho => ⟨S, [], j4, j5, rfl, by simpa using hF, rfl, by simpa using ho, by simpa using h, Nat.le_refl _, fun _ _ _ _ => rfl⟩
  | c :: cs, b, S, rows, j4, j5, h, hb, hF, hc, hr, ho => by
    simp only [List.length_cons, List.sum_cons] at hb hr
    obtain ⟨S1, xs, k5, e1, x1, x2, x3, x4, x5, x6⟩ := load_turn (a1 := a1) (j5 := j5) (j6 := j6) (j7 := j7) (j8 := j8) hsp (c := c) h (by omega) hF hFn (hc c (by simp)) (by omega)
    obtain ⟨S2, more, l4, l5, e2, y1, y2, y3, y4, y5, y6⟩ := load_loop hsp hFn (a1 := a1) (j6 := j6) (j7 := j7) (j8 := j8) cs (b + 8 * c) S1 (rows ++ [xs]) (some (.d (.int (c : Nat)))) k5 x4 (by omega) x3 (fun d hd => hc d (by simp [hd])) (by simp; omega) (fun r hr x hx => by
      rcases List.mem_append.mp hr with hr | hr
      · exact ho r hr x hx
      · have : r = xs := by simpa using hr
        rw [this] at hx
        exact x2 x hx)
    refine ⟨S2, xs :: more, l4, l5, ?_, by simpa using y1, by rw [List.map_cons, x1, y2], by simpa using y3, by rw [List.sum_cons, show b + 8 * (c + cs.sum) = b + 8 * c + 8 * cs.sum by omega]; exact y4, Nat.le_trans x5 y5, fun i hi hin hiF => (y6 i (Nat.lt_of_lt_of_le hi x5) hin hiF).trans (x6 i hi hin hiF)⟩
    rw [List.map_cons, forD_cons]
    simp only [gt_nm, List.set_cons_zero, List.set_cons_succ, e1]
    exact e2
def ofRows (rows : List (List Rat)) : Load := fun s => ((rows[s.1]?.getD [])[s.2]?).getD 0
theorem rows_ld {cs : List Nat} {rows : List (List Rat)} (h : rows.map List.length = cs) : PyData.tuple (rows.map rwD) = ldD cs (ofRows rows) := by
  unfold ldD
  congr 1
  apply List.ext_getElem?
  intro w
  rw [List.getElem?_map, List.getElem?_map, List.getElem?_zipIdx]
  subst h
  rw [List.getElem?_map]
  cases hw : rows[w]? with
  | none => rfl
  | some xs =>
    simp only [Option.map_some, Option.some.injEq]
    unfold rwD rowD
    simp only []
    congr 1
    apply List.ext_getElem?
    intro p
    rw [List.getElem?_map, List.getElem?_map]
    by_cases hp : p < xs.length
    · rw [List.getElem?_range hp, List.getElem?_eq_getElem hp]
      simp [ofRows, hw, List.getElem?_eq_getElem hp]
    · rw [List.getElem?_eq_none (by omega), List.getElem?_eq_none (by simpa using Nat.le_of_not_lt hp)]
      rfl
theorem r_load {n b span : Nat} (hsp : span ≤ 1000) {S : Sto} (h : StA n b S) (hb : b + 240 ≤ 2 ^ 40) {cs : List Nat} (hc : ∀ c ∈ cs, c ≤ 30) (hl : cs.length ≤ 16) (hs : cs.sum ≤ 30) : ∃ (f : Load) (S' : Sto), R__law_load [.o n, .d (csD cs), .d (.int (span : Nat))] S = .ok (.d (ldD cs f)) S' ∧ (∀ s, Bd 6 span (f s)) ∧ StA n (b + 240) S' ∧ Kp n S S' := by
  have hn := h.lt
  obtain ⟨S1, rows, k4, k5, e1, g1, g2, g3, g4, g5, g6⟩ := load_loop (n := n) hsp (F := S.length) (by omega) (a1 := some (.d (csD cs))) (j6 := none) (j7 := none) (j8 := none) cs b (S ++ [Cell.lst []]) [] none none (h.app _) (by omega) (get_len_app _ _ _) hc (by simp; omega) (fun r hr => by cases hr)
  rw [List.nil_append] at g1 g3
  refine ⟨ofRows rows, S1, ?_, fun s => ?_, ?_, ?_⟩
  · have eA : ∀ ρ : Slt, fLst fNil ρ S = .ok (.o S.length) (S ++ [Cell.lst []]) := fun ρ => rfl
    have eT : ∀ ρ : Slt, ρ[3]? = some (some (.o S.length)) → fCB gTuple (fCons (fVar 3) fNil) ρ S1 = .ok (.d (ldD cs (ofRows rows))) S1 := fun ρ hρ => by
      simp only [ev_cb, ev_cons, ev_nil, ev_var, hρ, bind_ok]
      rw [gTuple_o (ds := rows.map rwD) g1, rows_ld g2]
      rfl
    unfold loadBody pairE at e1
    unfold R__law_load runB B__law_load
    simp only [startR, List.map_cons, List.map_nil, List.length_cons, List.length_nil, Nat.zero_add, Nat.reduceAdd, Nat.reduceSub, List.replicate, List.cons_append, List.nil_append, st_seq, st_set, eA, bind_ok, fl_ok, List.set_cons_zero, List.set_cons_succ, st_for, it_ev, ev_var, List.getElem?_cons_zero, List.getElem?_cons_succ, items_cs, ofO_some]
    simp only [e1, fl_ok, st_ret]
    rw [eT _ rfl]
    rfl
  · unfold ofRows
    cases hw : rows[s.1]? with
    | none => simp; exact Bd.zero
    | some xs =>
      simp only [Option.getD_some]
      cases hx : xs[s.2]? with
      | none => simp; exact Bd.zero
      | some x =>
        simp only [Option.getD_some]
        exact g3 xs (List.mem_of_getElem? hw) x (List.mem_of_getElem? hx)
  · obtain ⟨l, cc, t, z1, z2, z3⟩ := g4
    exact ⟨l, cc, t, z1, z2, by omega⟩
  · refine ⟨by simp at g5; omega, fun i hi hin => ?_⟩
    rw [g6 i (by simp; omega) hin (by omega), List.getElem?_append_left hi]
end G
set_option Elab.async false
set_option linter.all false
set_option maxRecDepth 100000
set_option maxHeartbeats 4000000
/-! M21: the law's own readings, beats, sums -/
namespace G
open PySem PySem.Spec L2 PyProof.Rows
set_option autoImplicit false
@[simp] theorem gt_tt (t : Tch) (ρ : Slt) (S : Sto) (i j k l : Nat) : gTp 2 (gsCons (gTp 2 (gsCons (gNm i) (gsCons (gNm j) gsNil))) (gsCons (gTp 2 (gsCons (gNm k) (gsCons (gNm l) gsNil))) gsNil)) (.d (tcD t)) ρ S = some ((((ρ.set i (some (.d (.int (t.1.1 : Nat))))).set j (some (.d (.int (t.1.2 : Nat))))).set k (some (.d (.int (t.2.1 : Nat))))).set l (some (.d (.int (t.2.2 : Nat))))) := id rfl
@[simp] theorem ix_f0 (q : Rat) (S : Sto) : gIx (.d (fr q)) (.d (.int 0)) S = some (.d (.int q.num), S) := id rfl
@[simp] theorem ix_f1 (q : Rat) (S : Sto) : gIx (.d (fr q)) (.d (.int 1)) S = some (.d (.int (q.den : Nat)), S) := id rfl
section
variable {D M n k : Nat}
theorem Rmb.sm (hr : Rmb D M n k) {q : Rat} (h : Bd D M q) : Sm n q := h.sm hr.pos hr.here.1 (by
  have h1 := hr.here.2
  have : 1 * M * D ≤ 101 * M * D := Nat.mul_le_mul_right D (Nat.mul_le_mul_right M (by omega))
  rw [Nat.one_mul] at this
  omega)
theorem Rmb.sm2 (hr : Rmb D M n k) {p q : Rat} (h : Bd D M p) (h2 : Bd D M q) : Sm n (p + q) := (h.add h2).sm hr.pos hr.here.1 (by
  have h1 := hr.here.2
  have : (M + M) * D ≤ 101 * M * D := Nat.mul_le_mul_right D (by omega)
  omega)
end
noncomputable def lrBody : Fs := (fSeq (fSet 7 (fCall 2 [] R__law_plus (fCons (fOp2 gIx (fOp2 gIx (fVar 1) (fVar 3)) (fVar 4)) (fCons (fOp2 gIx (fOp2 gIx (fVar 1) (fVar 5)) (fVar 6)) fNil))))
  (fExp (fMt gApp (fVar 2) (fCons (fCall 2 [] R__law_lowest (fCons (fOp2 gIx (fVar 7) (fC (.d (.int 0)))) (fCons (fOp2 gMulT (fC (.d (.int 2))) (fOp2 gIx (fVar 7) (fC (.d (.int 1))))) fNil))) fNil))))
theorem lr_loop {cs : List Nat} {f : Load} {D M n kk : Nat} (hf : ∀ s, Bd D M (f s)) (hr : Rmb D M n kk) {a0 : Option W} {S T : Sto} : ∀ (ts : List Tch) (acc : List Rat) (j3 j4 j5 j6 j7 : Option W), (∀ t ∈ ts, okS cs t.1 ∧ okS cs t.2) → acc.length + ts.length ≤ 1000 → ∃ k3 k4 k5 k6 k7,
    forD (gTp 2 (gsCons (gTp 2 (gsCons (gNm 3) (gsCons (gNm 4) gsNil))) (gsCons (gTp 2 (gsCons (gNm 5) (gsCons (gNm 6) gsNil))) gsNil))) lrBody (ts.map tcD) [a0, some (.d (ldD cs f)), some (.o S.length), j3, j4, j5, j6, j7] (S ++ .lst ((acc.map fr).map W.d) :: T) =
      .nx [a0, some (.d (ldD cs f)), some (.o S.length), k3, k4, k5, k6, k7] (S ++ .lst (((acc ++ ts.map (rdF f)).map fr).map W.d) :: T)
  | [], acc, j3, j4, j5, j6, j7, h, hl => ⟨j3, j4, j5, j6, j7, by simp [forD_nil]⟩
  | t :: ts, acc, j3, j4, j5, j6, j7, h, hl => by
    obtain ⟨⟨c1, h1, h2⟩, ⟨c2, h3, h4⟩⟩ := h t (by simp)
    simp only [List.length_cons] at hl
    obtain ⟨k3, k4, k5, k6, k7, ih⟩ := lr_loop hf hr (a0 := a0) (S := S) (T := T) ts (acc ++ [rdF f t]) (some (.d (.int (t.1.1 : Nat)))) (some (.d (.int (t.1.2 : Nat)))) (some (.d (.int (t.2.1 : Nat)))) (some (.d (.int (t.2.2 : Nat)))) (some (.d (fr (f t.1 + f t.2)))) (fun u hu => h u (by simp [hu])) (by simp; omega)
    refine ⟨k3, k4, k5, k6, k7, ?_⟩
    have b1 := hr.sm (hf t.1)
    have b2 := hr.sm (hf t.2)
    have b3 := hr.sm2 (hf t.1) (hf t.2)
    have eL : ∀ S, R__law_lowest [.d (.int (f t.1 + f t.2).num), .d (.int (2 * ((f t.1 + f t.2).den : Int)))] S = .ok (.d (fr (rdF f t))) S := fun S => by
      rw [r__law_lowest (half_b b3 hr.n).1 (half_b b3 hr.n).2, half_div]
      rfl
    have eA := app_o (S := S) (ws := (acc.map fr).map W.d) (T := T) (.d (fr (rdF f t))) (by simp; omega)
    have eW : (acc.map fr).map W.d ++ [W.d (fr (rdF f t))] = ((acc ++ [rdF f t]).map fr).map W.d := by simp
    rw [eW] at eA
    rw [List.map_cons, forD_cons]
    simp only [gt_tt, List.set_cons_zero, List.set_cons_succ]
    unfold lrBody at ih ⊢
    simp only [st_seq, st_set, ev_call, ev_cons, ev_nil, ev_op2, ev_var, ev_c, List.getElem?_cons_zero, List.getElem?_cons_succ, bind_ok, ix_ld h1, ix_ld h3, ix_row h2, ix_row h4, ofO_some, List.length_cons, List.length_nil, Nat.zero_add, Nat.reduceAdd, if_true, ofD_nil, List.append_nil, r__law_plus b1 b2 _ hr.n hr.n, fl_ok, List.set_cons_zero, List.set_cons_succ, st_exp]
    rw [ev_mt]
    simp only [ev_call, ev_cons, ev_nil, ev_op2, ev_var, ev_c, List.getElem?_cons_zero, List.getElem?_cons_succ, bind_ok, hpl_o, Option.isSome_some, if_true, ix_f0, ix_f1, ofO_some, mul_int (mulOk_of two_small (sm_nd b3 hr.n).2), List.length_cons, List.length_nil, Nat.zero_add, Nat.reduceAdd, ofD_nil, List.append_nil, eL, eA, fl_ok]
    rw [ih]
    simp
theorem r_lread {m : Mach} (ok : Ok m) {f : Load} {D M n kk : Nat} (hf : ∀ s, Bd D M (f s)) (hr : Rmb D M n kk) (S : Sto) : Pu (R__law_read [.d (mD m), .d (ldD m.cs f)] S) S (.d (rdD m f)) := by
  obtain ⟨k3, k4, k5, k6, k7, e1⟩ := lr_loop hf hr (cs := m.cs) (a0 := some (.d (mD m))) (S := S) (T := []) m.ts [] none none none none none (fun t ht => ⟨(ok.good t ht).1, (ok.good t ht).2.1⟩) (by have := ok.l8; simp; omega)
  refine ⟨[.lst (((m.ts.map (rdF f)).map fr).map W.d)], ?_⟩
  have eA : ∀ ρ : Slt, fLst fNil ρ S = .ok (.o S.length) (S ++ [Cell.lst []]) := fun ρ => rfl
  rw [List.nil_append] at e1
  have eT : ∀ ρ : Slt, ρ[2]? = some (some (.o S.length)) → fCB gTuple (fCons (fVar 2) fNil) ρ (S ++ [.lst (((m.ts.map (rdF f)).map fr).map W.d)]) = .ok (.d (rdD m f)) (S ++ [.lst (((m.ts.map (rdF f)).map fr).map W.d)]) := fun ρ hρ => by
    simp only [ev_cb, ev_cons, ev_nil, ev_var, hρ, bind_ok]
    rw [gTuple_o (ds := (m.ts.map (rdF f)).map fr) (get_len_app _ _ _), List.map_map]
    rfl
  unfold lrBody at e1
  unfold R__law_read runB B__law_read
  simp only [startR, List.map_cons, List.map_nil, List.length_cons, List.length_nil, Nat.zero_add, Nat.reduceAdd, Nat.reduceSub, List.replicate, List.cons_append, List.nil_append, st_seq, st_set, eA, bind_ok, fl_ok, List.set_cons_zero, List.set_cons_succ, st_for, it_ev, ev_op2, ev_c, ev_var, List.getElem?_cons_zero, List.getElem?_cons_succ, ix_m1, items_ts, ofO_some]
  rw [show S ++ [Cell.lst []] = S ++ Cell.lst ((([] : List Rat).map fr).map W.d) :: [] from rfl, e1]
  simp only [st_ret]
  rw [eT _ rfl]
  rfl
end G
set_option Elab.async false
set_option linter.all false
set_option maxRecDepth 100000
set_option maxHeartbeats 4000000
/-! M22: the law's own beat, squares, what met -/
namespace G
open PySem PySem.Spec L2 PyProof.Rows
set_option autoImplicit false
theorem len_l (ds : List PyData) (S : Sto) : gLen [.d (.list ds)] S = some (.d (.int ds.length), S) := by
  show some (W.d (.int ((ds.map W.d).length : Nat)), S) = _
  rw [List.length_map]
theorem ix_l {ds : List PyData} {i : Nat} {d : PyData} (h : ds[i]? = some d) (S : Sto) : gIx (.d (.list ds)) (.d (.int i)) S = some (.d d, S) := by
  show (L2.atI (ds.map W.d) (i : Int)).map (fun z => (z, S)) = _
  rw [atI_nat (x := .d d) (by rw [List.getElem?_map, h]; rfl)]
  rfl
theorem lrot_ev (g : Load) (q : Nat × Nat) (h : 0 < q.1) (hc : q.1 ≤ 30) (a0 a1 a2 a4 a5 a6 a7 : Option W) (S : Sto) :
    Pu (fCB gTuple (fCons (fLc (fR1 (fCons (fCB gLen (fCons (fVar 3) fNil)) fNil)) (gNm 7) fYes (fOp2 gIx (fVar 3) (fOp2 gMod (fOp2 gAdd (fVar 7) (fC (.d (.int 1)))) (fCB gLen (fCons (fVar 3) fNil)))) [7]) fNil) [a0, a1, a2, some (.d (.list (rl g q))), a4, a5, a6, a7] S) S (.d (.tuple ((List.range q.1).map fun p => fr (g (q.2, (p + 1) % q.1))))) := by
  have hl : (rl g q).length = q.1 := by simp [rl]
  refine tupLc (List.range q.1) (fun p => .int (p : Nat)) (fun p => fr (g (q.2, (p + 1) % q.1))) (.of ?_) (by simp; omega) (fun p hp => ⟨_, fun S => rfl, fun S => .of ?_⟩)
  · rw [r1_ev _ _ S S (q.1 : Nat) (by simp [len_l, hl]) (by omega)]
    simp [rng_map]
  · have h1 : (0 : Int) < (q.1 : Int) := by omega
    have h2 : (p + 1) % q.1 < q.1 := Nat.mod_lt _ h
    have h3 : ((p : Int) + 1) % (q.1 : Int) = (((p + 1) % q.1 : Nat) : Int) := by push_cast; rfl
    have h4 : (rl g q)[(p + 1) % q.1]? = some (fr (g (q.2, (p + 1) % q.1))) := by simp [rl, List.getElem?_range h2]
    have e1 : gMod (.d (.int ((p : Int) + 1))) (.d (.int (q.1 : Nat))) S = some (.d (.int (((p + 1) % q.1 : Nat) : Int)), S) := by rw [mod_int h1, h3]
    simp only [wipeR, List.set_cons_zero, List.set_cons_succ, ev_op2, ev_var, ev_c, ev_len, ev_cons, ev_nil, List.getElem?_cons_zero, List.getElem?_cons_succ, bind_ok, add_int, ofO_some, len_l, hl, e1, ix_l h4]
theorem r_lbeat {m : Mach} (ok : Ok m) {f : Load} {D M n kk : Nat} (hf : ∀ s, Bd D M (f s)) (hr : Rmb D M n kk) (S : Sto) : Pu (R__law_beat [.d (mD m), .d (ldD m.cs f)] S) S (.d (ldD m.cs (beatF m f))) := by
  have fw := ok.few
  have hlen := fw.len
  have c1 := comp_rows f (wipeR [some (.d (mD m)), some (.d (ldD m.cs f)), none, none, none, none, none, none] [3]) S (by simp [wipeR]) m.cs.zipIdx [] [] (by simp; omega)
  simp only [List.length_nil, Nat.add_zero, List.nil_append, List.length_zipIdx] at c1
  have e1 : fLc (fIt (fVar 1)) (gNm 3) fYes (fCB gList (fCons (fVar 3) fNil)) [3] [some (.d (mD m)), some (.d (ldD m.cs f)), none, none, none, none, none, none] S = .ok (.o S.length) (RS m.cs S f []) := by
    unfold fLc
    simp only [it_ev, ev_var, List.getElem?_cons_zero, List.getElem?_cons_succ, bind_ok, items_ld, ofO_some]
    rw [show S ++ [Cell.lst []] = S ++ Cell.lst [] :: [] from rfl, c1]
    simp [RS]
  obtain ⟨T2, e2⟩ := r_lread ok hf hr (RS m.cs S f [])
  have e3 : RS m.cs S f [] ++ T2 = RS m.cs S f T2 := by simp [RS]
  rw [e3] at e2
  obtain ⟨k4, k5, k6, k7, e4⟩ := beat_loop (cs := m.cs) (f := f) (S := S) (T := T2) (a0 := some (.d (mD m))) (a1 := some (.d (ldD m.cs f))) (a3 := none) m.ts f none none none none fun t ht => ⟨(ok.good t ht).1, (ok.good t ht).2.1⟩
  obtain ⟨T3, e5⟩ := items_rows m.cs S (aftF f m.ts f) T2
  obtain ⟨T4, e6⟩ := tupLc' (f := fIt (fVar 2)) (g := gNm 3) (e := fCB gTuple (fCons (fLc (fR1 (fCons (fCB gLen (fCons (fVar 3) fNil)) fNil)) (gNm 7) fYes (fOp2 gIx (fVar 3) (fOp2 gMod (fOp2 gAdd (fVar 7) (fC (.d (.int 1)))) (fCB gLen (fCons (fVar 3) fNil)))) [7]) fNil)) (vs := [3])
    (ρ := [some (.d (mD m)), some (.d (ldD m.cs f)), some (.o S.length), none, k4, k5, k6, k7]) (S := RS m.cs S (aftF f m.ts f) T2) (S0 := S ++ T3) m.cs.zipIdx (fun q => .list (rl (aftF f m.ts f) q)) (rowD (beatF m f)) (by simp [e5]) (by simp; omega) (fun q hq => ⟨_, fun S => rfl, fun S' => by
      have hc := fw.z hq
      have hz := List.mem_zipIdx (x := q.1) (i := q.2) hq
      have h0 : 0 < q.1 := ok.pos _ (by rw [hz.2.2]; exact List.getElem_mem _)
      have hx := lrot_ev (aftF f m.ts f) q h0 hc (some (.d (mD m))) (some (.d (ldD m.cs f))) (some (.o S.length)) k4 k5 k6 k7 S'
      have hy : PyData.tuple ((List.range q.1).map fun p => fr (aftF f m.ts f (q.2, (p + 1) % q.1))) = rowD (beatF m f) q := by
        unfold rowD beatF
        congr 1
        apply List.map_congr_left
        intro p _
        have hg : m.cs.getD q.2 1 = q.1 := by
          rw [List.getD_eq_getElem?_getD, hz.2.2]
          have hlt : q.2 < m.cs.length := by have := hz.2.1; omega
          simp [List.getElem?_eq_getElem hlt]
        simp only [hg]
      rw [hy] at hx
      exact hx⟩)
  refine ⟨T3 ++ T4, ?_⟩
  unfold R__law_beat runB B__law_beat
  have e7 : PyData.tuple (m.cs.zipIdx.map (rowD (beatF m f))) = ldD m.cs (beatF m f) := rfl
  rw [e7] at e6
  have e8 : ∀ S', itemsOf (.d (rdD m f)) S' = some (m.ts.map fun t => fr (rdF f t), S') := fun S' => rfl
  simp only [List.append_assoc] at e6
  simp [startR, e1, e2, e8, zip2_map, e4, e6]
/-! squares -/
theorem lsq_row {a0 a2 : Option W} {P : Nat → Rat → Prop} {Q : Rat → Prop} {E : Fe W} {op : Rat → Rat → Rat} (hE : ∀ k acc x S, k < 100 → P k acc → Q x → E [a0, some (.d (fr acc)), a2, some (.d (.int x.num)), some (.d (.int (x.den : Nat)))] S = .ok (.d (fr (op acc x))) S ∧ P (k + 1) (op acc x)) :
    ∀ (xs : List Rat) (k : Nat) (acc : Rat) (j3 j4 : Option W) (S : Sto), k + xs.length ≤ 100 → P k acc → (∀ x ∈ xs, Q x) → ∃ k3 k4, forD (gTp 2 (gsCons (gNm 3) (gsCons (gNm 4) gsNil))) (fSet 1 E) (xs.map fr) [a0, some (.d (fr acc)), a2, j3, j4] S = .nx [a0, some (.d (fr (xs.foldl op acc))), a2, k3, k4] S ∧ P (k + xs.length) (xs.foldl op acc)
  | [], k, acc, j3, j4, S, hk, hp, hq => ⟨j3, j4, rfl, hp⟩
  | x :: xs, k, acc, j3, j4, S, hk, hp, hq => by
    simp only [List.length_cons] at hk
    obtain ⟨h1, h2⟩ := hE k acc x S (by omega) hp (hq x (by simp))
    obtain ⟨k3, k4, h3, h4⟩ := lsq_row hE xs (k + 1) (op acc x) (some (.d (.int x.num))) (some (.d (.int (x.den : Nat)))) S (by omega) h2 fun y hy => hq y (by simp [hy])
    refine ⟨k3, k4, ?_, ?_⟩
    · rw [List.map_cons, forD_cons]
      have et : gTp 2 (gsCons (gNm 3) (gsCons (gNm 4) gsNil)) (.d (fr x)) [a0, some (.d (fr acc)), a2, j3, j4] S = some [a0, some (.d (fr acc)), a2, some (.d (.int x.num)), some (.d (.int (x.den : Nat)))] := rfl
      simp only [et, st_set, h1, fl_ok, List.set_cons_zero, List.set_cons_succ]
      exact h3
    · rw [List.length_cons, show k + (xs.length + 1) = k + 1 + xs.length by omega]
      exact h4
theorem lsq_rows {a0 : Option W} {P : Nat → Rat → Prop} {Q : Rat → Prop} {E : Fe W} {op : Rat → Rat → Rat} {f : Load} (hf : ∀ s, Q (f s)) (hE : ∀ k acc x a2 S, k < 100 → P k acc → Q x → E [a0, some (.d (fr acc)), a2, some (.d (.int x.num)), some (.d (.int (x.den : Nat)))] S = .ok (.d (fr (op acc x))) S ∧ P (k + 1) (op acc x)) :
    ∀ (zs : List (Nat × Nat)) (k : Nat) (acc : Rat) (j2 j3 j4 : Option W) (S : Sto), k + (cellsZ zs).length ≤ 100 → P k acc → ∃ k2 k3 k4, forD (gNm 2) (fFor (fIt (fVar 2)) (gTp 2 (gsCons (gNm 3) (gsCons (gNm 4) gsNil))) (fSet 1 E)) (zs.map (rowD f)) [a0, some (.d (fr acc)), j2, j3, j4] S =
      .nx [a0, some (.d (fr ((cellsZ zs).foldl (fun a s => op a (f s)) acc))), k2, k3, k4] S
  | [], k, acc, j2, j3, j4, S, hk, hp => ⟨j2, j3, j4, rfl⟩
  | q :: zs, k, acc, j2, j3, j4, S, hk, hp => by
    have ec : cellsZ (q :: zs) = (List.range q.1).map (fun p => (q.2, p)) ++ cellsZ zs := rfl
    rw [ec] at hk ⊢
    simp only [List.length_append, List.length_map, List.length_range] at hk
    obtain ⟨l3, l4, h1, h2⟩ := lsq_row (E := E) (op := op) (P := P) (a0 := a0) (a2 := some (.d (rowD f q))) (Q := Q) (fun k acc x S hk hp hq => hE k acc x _ S hk hp hq) ((List.range q.1).map fun p => f (q.2, p)) k acc j3 j4 S (by simp; omega) hp (fun x hx => by
      obtain ⟨p, _, rfl⟩ := List.mem_map.mp hx
      exact hf _)
    have e1 : ((List.range q.1).map fun p => f (q.2, p)).foldl op acc = ((List.range q.1).map (fun p => (q.2, p))).foldl (fun a s => op a (f s)) acc := by
      rw [List.foldl_map, List.foldl_map]
    rw [e1] at h1 h2
    obtain ⟨k2, k3, k4, h3⟩ := lsq_rows hf hE zs (k + q.1) _ (some (.d (rowD f q))) l3 l4 S (by omega) (by simpa using h2)
    refine ⟨k2, k3, k4, ?_⟩
    have e2 : (((List.range q.1).map fun p => f (q.2, p)).map fr) = (List.range q.1).map fun p => fr (f (q.2, p)) := by rw [List.map_map]; rfl
    rw [e2] at h1
    rw [List.map_cons, forD_cons]
    simp only [gt_nm, List.set_cons_zero, List.set_cons_succ, st_for, it_ev, ev_var, List.getElem?_cons_zero, List.getElem?_cons_succ, bind_ok, items_row, ofO_some, fl_ok, h1, List.foldl_append]
    exact h3
/-- room for squares -/
structure Rmq (D M n : Nat) : Prop where
  pos : 0 < D
  d : 2 * (D * D) < 2 ^ n
  m : 1000 * (M * M) * (2 * (D * D)) < 2 ^ n
  n : n ≤ 3000
theorem Rmq.sm {D M n : Nat} (h : Rmq D M n) {q : Rat} {E N : Nat} (hq : Bd E N q) (h0 : 0 < E) (h1 : E ≤ 2 * (D * D)) (h2 : N ≤ 1000 * (M * M)) : Sm n q :=
  hq.sm h0 (Nat.lt_of_le_of_lt h1 h.d) (Nat.lt_of_le_of_lt (Nat.mul_le_mul h2 h1) h.m)
theorem sq_le (D : Nat) (h : 0 < D) : D ≤ D * D := Nat.le_mul_of_pos_left D h
theorem Rmq.one {D M n : Nat} (h : Rmq D M n) {q : Rat} (hq : Bd D M q) : Sm n q := by
  have h1 := sq_le D h.pos
  rcases Nat.eq_zero_or_pos M with hz | hz
  · exact h.sm hq h.pos (by omega) (by omega)
  · have := sq_le M hz
    exact h.sm hq h.pos (by omega) (by omega)
theorem r_lsquares {cs : List Nat} (hs : cs.sum ≤ 30) {f : Load} {D M n : Nat} (hf : ∀ s, Bd D M (f s)) (hr : Rmq D M n) (S : Sto) : R__law_squares [.d (ldD cs f)] S = .ok (.d (fr (sqF cs f))) S := by
  have hl : (cellsZ cs.zipIdx).length ≤ 30 := by have := cells_len (cs := cs); unfold cells at this; omega
  have h00 : 0 < D * D := Nat.mul_pos hr.pos hr.pos
  obtain ⟨k2, k3, k4, e2⟩ := lsq_rows (E := fCall 2 [] R__law_plus (fCons (fVar 1) (fCons (fCall 2 [] R__law_lowest (fCons (fOp2 gMulT (fVar 3) (fVar 3)) (fCons (fOp2 gMulT (fVar 4) (fVar 4)) fNil))) fNil))) (op := fun a x => a + x * x) (P := fun k q => Bd (D * D) (k * (M * M)) q) (a0 := some (.d (ldD cs f))) (f := f) (Q := fun x => Bd D M x) hf (fun k acc x a2 S hk hp hq => by
    have b1 : Sm n acc := hr.sm hp h00 (by omega) (Nat.mul_le_mul_right _ (by omega))
    have b2 : Sm n x := hr.one hq
    have b4 := hq.mul hq
    have b3 : Sm n (x * x) := hr.sm b4 h00 (by omega) (by omega)
    have eL : ∀ S, R__law_lowest [.d (.int (x.num * x.num)), .d (.int ((x.den : Int) * (x.den : Int)))] S = .ok (.d (fr (x * x))) S := fun S => by
      rw [r__law_lowest (dd_pos x x) (sm_dd b2 b2 hr.n hr.n), mul_div]
    refine ⟨?_, ?_⟩
    · simp [mul_int (mo_nn b2 b2 hr.n hr.n), mul_int (mo_dd b2 b2 hr.n hr.n), eL, r__law_plus b1 b3 _ hr.n hr.n]
    · have := hp.add b4
      rw [Nat.succ_mul]
      exact this) cs.zipIdx 0 0 none none none S (by omega) (by rw [Nat.zero_mul]; exact Bd.zero)
  unfold R__law_squares runB B__law_squares
  have e3 : (cellsZ cs.zipIdx).foldl (fun a s => a + f s * f s) 0 = sqF cs f := rfl
  rw [e3] at e2
  have e4 : fzT [.d (.int 0), .d (.int 1)] S = some (fr 0, S) := fzT_d2 _ _ _
  simp [startR, e4, e2]
end G
set_option Elab.async false
set_option linter.all false
set_option maxRecDepth 100000
set_option maxHeartbeats 4000000
/-! M23: what met -/
namespace G
open PySem PySem.Spec L2 PyProof.Rows
set_option autoImplicit false
noncomputable def metBody : Fs := (fSeq (fSet 7 (fCall 2 [] R__law_plus (fCons (fOp2 gIx (fOp2 gIx (fVar 1) (fVar 3)) (fVar 4)) (fCons (fTup (fCons (fOp2 gSub (fC (.d (.int 0))) (fOp2 gIx (fOp2 gIx (fOp2 gIx (fVar 1) (fVar 5)) (fVar 6)) (fC (.d (.int 0))))) (fCons (fOp2 gIx (fOp2 gIx (fOp2 gIx (fVar 1) (fVar 5)) (fVar 6)) (fC (.d (.int 1)))) fNil))) fNil))))
  (fSet 2 (fCall 2 [] R__law_plus (fCons (fVar 2) (fCons (fCall 2 [] R__law_lowest (fCons (fOp2 gMulT (fOp2 gIx (fVar 7) (fC (.d (.int 0)))) (fOp2 gIx (fVar 7) (fC (.d (.int 0))))) (fCons (fOp2 gMulT (fOp2 gMulT (fC (.d (.int 2))) (fOp2 gIx (fVar 7) (fC (.d (.int 1))))) (fOp2 gIx (fVar 7) (fC (.d (.int 1))))) fNil))) fNil)))))
def gapF (f : Load) (t : Tch) : Rat := f t.1 - f t.2
def metF (f : Load) (ts : List Tch) : Rat := ts.foldl (fun a t => a + gapF f t * gapF f t / 2) 0
theorem fr_neg (q : Rat) : fr (-q) = .tuple [.int (0 - q.num), .int (q.den : Nat)] := by
  unfold fr
  rw [Rat.neg_num, Rat.neg_den, Int.zero_sub]
theorem hsq_div (q : Rat) : Rat.divInt (q.num * q.num) (2 * q.den * q.den) = q * q / 2 := by
  have h1 := rat_eq q
  have h3 := den_ne q
  rw [Rat.divInt_eq_div]
  push_cast
  grind
theorem met_loop {cs : List Nat} {f : Load} {D M n : Nat} (hf : ∀ s, Bd D M (f s)) (hr : Rmq D M n) (hn : n ≤ 1400) {a0 : Option W} : ∀ (ts : List Tch) (k : Nat) (acc : Rat) (j3 j4 j5 j6 j7 : Option W) (S : Sto), (∀ t ∈ ts, okS cs t.1 ∧ okS cs t.2) → k + ts.length ≤ 8 → Bd (2 * (D * D)) (k * (4 * (M * M))) acc → ∃ k3 k4 k5 k6 k7,
    forD (gTp 2 (gsCons (gTp 2 (gsCons (gNm 3) (gsCons (gNm 4) gsNil))) (gsCons (gTp 2 (gsCons (gNm 5) (gsCons (gNm 6) gsNil))) gsNil))) metBody (ts.map tcD) [a0, some (.d (ldD cs f)), some (.d (fr acc)), j3, j4, j5, j6, j7] S =
      .nx [a0, some (.d (ldD cs f)), some (.d (fr (ts.foldl (fun a t => a + gapF f t * gapF f t / 2) acc))), k3, k4, k5, k6, k7] S
  | [], k, acc, j3, j4, j5, j6, j7, S, h, hl, hp => ⟨j3, j4, j5, j6, j7, rfl⟩
  | t :: ts, k, acc, j3, j4, j5, j6, j7, S, h, hl, hp => by
    obtain ⟨⟨c1, h1, h2⟩, ⟨c2, h3, h4⟩⟩ := h t (by simp)
    simp only [List.length_cons] at hl
    have hM : M ≤ M * M := by
      rcases Nat.eq_zero_or_pos M with hz | hz
      · omega
      · exact sq_le M hz
    have hDD := sq_le D hr.pos
    have hpos : 0 < D * D := Nat.mul_pos hr.pos hr.pos
    have hg : Bd D (M + M) (gapF f t) := (hf t.1).sub (hf t.2)
    have hgg := hg.mul hg
    have hgh : Bd (2 * (D * D)) (4 * (M * M)) (gapF f t * gapF f t / 2) := by
      have e : gapF f t * gapF f t / 2 = (gapF f t * gapF f t + 0) / 2 := by grind
      rw [e, Nat.mul_comm 2]
      have z := hgg.half (Bd.zero (D := D * D) (M := (M + M) * (M + M)))
      have e2 : (M + M) * (M + M) = 4 * (M * M) := by grind
      rw [e2] at z
      exact z
    have b1 := hr.one (hf t.1)
    have b2 := hr.one (hf t.2)
    have b2' : Sm n (-f t.2) := hr.one (hf t.2).neg
    have b3 : Sm n (gapF f t) := hr.sm hg hr.pos (by omega) (by omega)
    have b4 : Sm n acc := hr.sm hp (by omega) (by omega) (by
      have : k * (4 * (M * M)) ≤ 8 * (4 * (M * M)) := Nat.mul_le_mul_right _ (by omega)
      omega)
    have b5 : Sm n (gapF f t * gapF f t / 2) := hr.sm hgh (by omega) (by omega) (by omega)
    have hp2 : Bd (2 * (D * D)) ((k + 1) * (4 * (M * M))) (acc + gapF f t * gapF f t / 2) := by
      have z := hp.add hgh
      have e : k * (4 * (M * M)) + 4 * (M * M) = (k + 1) * (4 * (M * M)) := by grind
      rw [e] at z
      exact z
    obtain ⟨k3, k4, k5, k6, k7, ih⟩ := met_loop hf hr hn (a0 := a0) ts (k + 1) (acc + gapF f t * gapF f t / 2) (some (.d (.int (t.1.1 : Nat)))) (some (.d (.int (t.1.2 : Nat)))) (some (.d (.int (t.2.1 : Nat)))) (some (.d (.int (t.2.2 : Nat)))) (some (.d (fr (gapF f t)))) S (fun u hu => h u (by simp [hu])) (by omega) hp2
    refine ⟨k3, k4, k5, k6, k7, ?_⟩
    have eN : ∀ S, fzT [.d (.int (0 - (f t.2).num)), .d (.int ((f t.2).den : Nat))] S = some (fr (-f t.2), S) := fun S => by rw [fr_neg]; exact fzT_d2 _ _ S
    have eG : f t.1 + -f t.2 = gapF f t := by unfold gapF; rw [Rat.sub_eq_add_neg]
    have eL : ∀ S, R__law_lowest [.d (.int ((gapF f t).num * (gapF f t).num)), .d (.int (2 * ((gapF f t).den : Int) * ((gapF f t).den : Int)))] S = .ok (.d (fr (gapF f t * gapF f t / 2))) S := fun S => by
      have p1 : (0 : Int) < 2 * ((gapF f t).den : Int) * ((gapF f t).den : Int) := Int.mul_pos (by have := den_pos (gapF f t); omega) (den_pos _)
      have p2 : (2 * ((gapF f t).den : Int) * ((gapF f t).den : Int)).natAbs < 2 ^ 7000 := by
        rw [Int.natAbs_mul, Int.natAbs_mul, Int.natAbs_natCast]
        have q1 : (2 : Int).natAbs * (gapF f t).den < 2 ^ (2 + n) := pow_mul_lt (n := 2) (m := n) (by decide) b3.2 (by omega)
        exact pow_mul_lt q1 b3.2 (by omega)
      rw [r__law_lowest p1 p2, hsq_div]
    have m1 : mulOk (2 * ((gapF f t).den : Int)) ((gapF f t).den : Int) = true := mulOk_of (half_b b3 (by omega)).2 (sm_nd b3 (by omega)).2
    rw [List.map_cons, forD_cons]
    simp only [gt_tt, List.set_cons_zero, List.set_cons_succ]
    unfold metBody at ih ⊢
    simp only [st_seq, st_set, ev_call, ev_cons, ev_nil, ev_op2, ev_var, ev_c, List.getElem?_cons_zero, List.getElem?_cons_succ, bind_ok, ix_ld h1, ix_ld h3, ix_row h2, ix_row h4, ofO_some, fTup_d2, ix_f0, ix_f1, sub_int, eN, List.length_cons, List.length_nil, Nat.zero_add, Nat.reduceAdd, if_true, ofD_nil, List.append_nil, r__law_plus b1 b2' _ (show n ≤ 3000 by omega) (show n ≤ 3000 by omega), eG, fl_ok, List.set_cons_zero, List.set_cons_succ,
      mul_int (mo_nn b3 b3 (show n ≤ 3000 by omega) (show n ≤ 3000 by omega)), mul_int (mulOk_of two_small (sm_nd b3 (show n ≤ 3000 by omega)).2), mul_int m1, eL, r__law_plus b4 b5 _ (show n ≤ 3000 by omega) (show n ≤ 3000 by omega)]
    exact ih
theorem r_met {m : Mach} (ok : Ok m) {f : Load} {D M n : Nat} (hf : ∀ s, Bd D M (f s)) (hr : Rmq D M n) (hn : n ≤ 1400) (S : Sto) : R__law_met [.d (mD m), .d (ldD m.cs f)] S = .ok (.d (fr (metF f m.ts))) S := by
  obtain ⟨k3, k4, k5, k6, k7, e1⟩ := met_loop hf hr hn (cs := m.cs) (a0 := some (.d (mD m))) m.ts 0 0 none none none none none S (fun t ht => ⟨(ok.good t ht).1, (ok.good t ht).2.1⟩) (by have := ok.l8; omega) (by rw [Nat.zero_mul]; exact Bd.zero)
  unfold metBody at e1
  unfold R__law_met runB B__law_met
  have e4 : fzT [.d (.int 0), .d (.int 1)] S = some (fr 0, S) := fzT_d2 _ _ _
  have e5 : m.ts.foldl (fun a t => a + gapF f t * gapF f t / 2) 0 = metF f m.ts := rfl
  rw [e5] at e1
  simp only [startR, List.map_cons, List.map_nil, List.length_cons, List.length_nil, Nat.zero_add, Nat.reduceAdd, Nat.reduceSub, List.replicate, List.cons_append, List.nil_append, st_seq, st_set, fTup_d2, ev_c, bind_ok, e4, fl_ok, List.set_cons_zero, List.set_cons_succ, st_for, it_ev, ev_op2, ev_var, List.getElem?_cons_zero, List.getElem?_cons_succ, ix_m1, items_ts, ofO_some]
  simp only [e1, st_ret, ev_var, List.getElem?_cons_zero, List.getElem?_cons_succ, fl_ok]
end G
set_option Elab.async false
set_option linter.all false
set_option maxRecDepth 100000
set_option maxHeartbeats 4000000
/-! M24: the plain laws of a beat -/
namespace G
open PySem PySem.Spec L2 PyProof.Rows
set_option autoImplicit false
/-- a sum over a list -/
def sm {α : Type} (h : α → Rat) : List α → Rat
  | [] => 0
  | x :: l => h x + sm h l
theorem sm_fold {α : Type} (h : α → Rat) : ∀ (l : List α) (a : Rat), l.foldl (fun a s => a + h s) a = a + sm h l
  | [], a => by simp [sm, Rat.add_zero]
  | x :: l, a => by
    rw [List.foldl_cons, sm_fold h l, sm]
    grind
theorem sm_app {α : Type} (h : α → Rat) : ∀ l l' : List α, sm h (l ++ l') = sm h l + sm h l'
  | [], l' => by simp [sm, Rat.zero_add]
  | x :: l, l' => by
    rw [List.cons_append, sm, sm, sm_app h l l']
    grind
theorem sm_perm {α : Type} (h : α → Rat) {l l' : List α} (p : l.Perm l') : sm h l = sm h l' := by
  induction p with
  | nil => rfl
  | cons x _ ih => rw [sm, sm, ih]
  | swap x y l => simp only [sm]; grind
  | trans _ _ h1 h2 => rw [h1, h2]
theorem sm_congr {α : Type} {h h' : α → Rat} : ∀ {l : List α}, (∀ x ∈ l, h x = h' x) → sm h l = sm h' l
  | [], _ => rfl
  | x :: l, e => by rw [sm, sm, e x (by simp), sm_congr fun y hy => e y (by simp [hy])]
theorem sm_map {α β : Type} (h : β → Rat) (g : α → β) : ∀ l : List α, sm h (l.map g) = sm (fun x => h (g x)) l
  | [] => rfl
  | x :: l => by rw [List.map_cons, sm, sm, sm_map h g l]
theorem sm_upd (φ : Rat → Rat) (g : Load) (s : Spot) (v : Rat) : ∀ l : List Spot, l.Nodup → s ∈ l → sm (fun t => φ (updL g s v t)) l = sm (fun t => φ (g t)) l - φ (g s) + φ v
  | [], _, h => by cases h
  | x :: l, hn, h => by
    rw [List.nodup_cons] at hn
    rw [sm, sm]
    by_cases hx : x = s
    · subst hx
      have e : sm (fun t => φ (updL g x v t)) l = sm (fun t => φ (g t)) l := sm_congr fun t ht => by
        have : ¬ t = x := fun z => hn.1 (z ▸ ht)
        simp [updL, this]
      rw [e]
      simp [updL]
      grind
    · have h2 : s ∈ l := by
        rcases List.mem_cons.mp h with h | h
        · exact absurd h.symm hx
        · exact h
      rw [sm_upd φ g s v l hn.2 h2]
      simp [updL, hx]
      grind
theorem sm_aft (φ : Rat → Rat) (f : Load) {l : List Spot} (hl : l.Nodup) : ∀ (ts : List Tch) (g : Load), (spotsOf ts).Nodup → (∀ s ∈ spotsOf ts, s ∈ l ∧ g s = f s) → sm (fun s => φ (aftF f ts g s)) l = sm (fun s => φ (g s)) l + sm (fun t => 2 * φ (rdF f t) - φ (f t.1) - φ (f t.2)) ts
  | [], g, _, _ => by simp [aftF, sm, Rat.add_zero]
  | t :: ts, g, hn, h => by
    have e : spotsOf (t :: ts) = t.1 :: t.2 :: spotsOf ts := rfl
    rw [e] at hn h
    rw [List.nodup_cons, List.nodup_cons] at hn
    obtain ⟨n1, n2, n3⟩ := hn
    have h12 : t.1 ≠ t.2 := fun z => n1 (by rw [z]; simp)
    obtain ⟨m1, v1⟩ := h t.1 (by simp)
    obtain ⟨m2, v2⟩ := h t.2 (by simp)
    have ih := sm_aft φ f hl ts (updL (updL g t.1 (rdF f t)) t.2 (rdF f t)) n3 (fun s hs => by
      refine ⟨(h s (by simp [hs])).1, ?_⟩
      have a1 : s ≠ t.1 := fun z => n1 (by rw [← z]; simp [hs])
      have a2 : s ≠ t.2 := fun z => n2 (by rw [← z]; exact hs)
      simp [updL, a1, a2, (h s (by simp [hs])).2])
    have e2 : aftF f (t :: ts) g = aftF f ts (updL (updL g t.1 (rdF f t)) t.2 (rdF f t)) := rfl
    rw [e2, ih, sm_upd φ _ t.2 _ l hl m2, sm_upd φ g t.1 _ l hl m1]
    have e3 : updL g t.1 (rdF f t) t.2 = g t.2 := by simp [updL, Ne.symm h12]
    rw [e3, v1, v2]
    simp only [sm]
    grind
/-! turning -/
theorem rot_perm (c w : Nat) (h : 0 < c) : ((List.range c).map fun p => ((w, (p + 1) % c) : Spot)).Perm ((List.range c).map fun p => (w, p)) := by
  obtain ⟨c, rfl⟩ : ∃ d, c = d + 1 := ⟨c - 1, by omega⟩
  have e1 : ((List.range (c + 1)).map fun p => ((w, (p + 1) % (c + 1)) : Spot)) = ((List.range c).map fun p => (w, p + 1)) ++ [(w, 0)] := by
    rw [List.range_succ, List.map_append]
    congr 1
    · apply List.map_congr_left
      intro p hp
      have : p < c := by simpa using hp
      rw [Nat.mod_eq_of_lt (by omega)]
    · simp
  have e2 : ((List.range (c + 1)).map fun p => ((w, p) : Spot)) = (w, 0) :: (List.range c).map fun p => (w, p + 1) := by
    rw [List.range_succ_eq_map]
    simp [List.map_map, Function.comp_def]
  rw [e1, e2]
  exact List.perm_append_singleton _ _
theorem sm_turn {cs : List Nat} (hp : ∀ c ∈ cs, 0 < c) (h : Spot → Rat) : sm (fun s => h (s.1, (s.2 + 1) % (cs.getD s.1 1))) (cells cs) = sm h (cells cs) := by
  have : ∀ zs : List (Nat × Nat), (∀ q ∈ zs, cs.getD q.2 1 = q.1 ∧ 0 < q.1) → sm (fun s => h (s.1, (s.2 + 1) % (cs.getD s.1 1))) (cellsZ zs) = sm h (cellsZ zs) := fun zs hz => by
    induction zs with
    | nil => rfl
    | cons q zs ih =>
      have ec : cellsZ (q :: zs) = (List.range q.1).map (fun p => (q.2, p)) ++ cellsZ zs := rfl
      obtain ⟨h1, h2⟩ := hz q (by simp)
      rw [ec, sm_app, sm_app, ih fun r hr => hz r (by simp [hr]), sm_map]
      congr 1
      have e1 : sm (fun p => h ((q.2, p).1, ((q.2, p).2 + 1) % cs.getD (q.2, p).1 1)) (List.range q.1) = sm h ((List.range q.1).map fun p => (q.2, (p + 1) % q.1)) := by
        rw [sm_map]
        simp only [h1]
      rw [e1]
      exact sm_perm h (rot_perm q.1 q.2 h2)
  refine this cs.zipIdx fun q hq => ?_
  have hz := List.mem_zipIdx (x := q.1) (i := q.2) hq
  have hlt : q.2 < cs.length := by have := hz.2.1; omega
  have e : cs[q.2]? = some q.1 := by rw [List.getElem?_eq_getElem hlt, hz.2.2]; simp
  exact ⟨by rw [List.getD_eq_getElem?_getD, e]; rfl, hp _ (by rw [hz.2.2]; exact List.getElem_mem _)⟩
theorem spots_in {m : Mach} (ok : Ok m) : ∀ s ∈ spotsOf m.ts, s ∈ cells m.cs := fun s hs => by
  unfold spotsOf at hs
  obtain ⟨t, ht, h⟩ := List.mem_flatMap.mp hs
  have g := ok.good t ht
  rw [cells_mem]
  rcases List.mem_cons.mp h with rfl | h
  · exact g.1
  · have : s = t.2 := by simpa using h
    rw [this]; exact g.2.1
theorem sm_beat {m : Mach} (ok : Ok m) (φ : Rat → Rat) (f : Load) : sm (fun s => φ (beatF m f s)) (cells m.cs) = sm (fun s => φ (f s)) (cells m.cs) + sm (fun t => 2 * φ (rdF f t) - φ (f t.1) - φ (f t.2)) m.ts := by
  have e1 : sm (fun s => φ (beatF m f s)) (cells m.cs) = sm (fun s => φ (aftF f m.ts f s)) (cells m.cs) := sm_turn ok.pos fun s => φ (aftF f m.ts f s)
  rw [e1]
  exact sm_aft φ f (cells_nodup m.cs) m.ts f ok.nd fun s hs => ⟨spots_in ok s hs, rfl⟩
theorem held_sm (cs : List Nat) (f : Load) : heldF cs f = sm f (cells cs) := by
  unfold heldF
  rw [sm_fold, Rat.zero_add]
theorem sq_sm (cs : List Nat) (f : Load) : sqF cs f = sm (fun s => f s * f s) (cells cs) := by
  unfold sqF
  rw [sm_fold (fun s => f s * f s), Rat.zero_add]
theorem met_sm (f : Load) (ts : List Tch) : metF f ts = sm (fun t => gapF f t * gapF f t / 2) ts := by
  unfold metF
  rw [sm_fold (fun t => gapF f t * gapF f t / 2), Rat.zero_add]
theorem held_beat {m : Mach} (ok : Ok m) (f : Load) : heldF m.cs (beatF m f) = heldF m.cs f := by
  have h := sm_beat ok (fun x => x) f
  have z : ∀ ts : List Tch, sm (fun t => 2 * rdF f t - f t.1 - f t.2) ts = 0 := fun ts => by
    induction ts with
    | nil => rfl
    | cons t ts ih =>
      rw [sm, ih]
      unfold rdF
      grind
  rw [held_sm, held_sm]
  rw [z, Rat.add_zero] at h
  exact h
theorem sq_beat {m : Mach} (ok : Ok m) (f : Load) : sqF m.cs (beatF m f) + metF f m.ts = sqF m.cs f := by
  have h := sm_beat ok (fun x => x * x) f
  have z : ∀ ts : List Tch, sm (fun t => 2 * (rdF f t * rdF f t) - f t.1 * f t.1 - f t.2 * f t.2) ts + sm (fun t => gapF f t * gapF f t / 2) ts = 0 := fun ts => by
    induction ts with
    | nil => simp [sm, Rat.add_zero]
    | cons t ts ih =>
      rw [sm, sm]
      unfold rdF gapF at *
      grind
  rw [sq_sm, sq_sm, met_sm]
  have hz := z m.ts
  rw [h]
  grind
/-! sums of loads -/
theorem rd_lin (f g : Load) (c : Rat) (t : Tch) : rdF (fun s => f s + g s * c) t = rdF f t + rdF g t * c := by
  unfold rdF
  grind
theorem aft_lin (f g : Load) (c : Rat) : ∀ (ts : List Tch) (F G : Load) (s : Spot), aftF (fun s => f s + g s * c) ts (fun s => F s + G s * c) s = aftF f ts F s + aftF g ts G s * c
  | [], F, G, s => rfl
  | t :: ts, F, G, s => by
    have e : updL (updL (fun s => F s + G s * c) t.1 (rdF (fun s => f s + g s * c) t)) t.2 (rdF (fun s => f s + g s * c) t) = fun s => (updL (updL F t.1 (rdF f t)) t.2 (rdF f t)) s + (updL (updL G t.1 (rdF g t)) t.2 (rdF g t)) s * c := by
      funext u
      rw [rd_lin]
      unfold updL
      by_cases h1 : u = t.2
      · simp [h1]
      · by_cases h2 : u = t.1
        · simp [h1, h2]
        · simp [h1, h2]
    show aftF (fun s => f s + g s * c) ts (updL (updL (fun s => F s + G s * c) t.1 (rdF (fun s => f s + g s * c) t)) t.2 (rdF (fun s => f s + g s * c) t)) s = _
    rw [e, aft_lin f g c ts]
    rfl
theorem beat_lin (m : Mach) (f g : Load) (c : Rat) : beatF m (fun s => f s + g s * c) = fun s => beatF m f s + beatF m g s * c := by
  funext s
  unfold beatF
  exact aft_lin f g c m.ts f g _
theorem beatN_lin (m : Mach) (c : Rat) : ∀ (k : Nat) (f g : Load), beatN m k (fun s => f s + g s * c) = fun s => beatN m k f s + beatN m k g s * c
  | 0, f, g => rfl
  | k + 1, f, g => by
    show beatN m k (beatF m fun s => f s + g s * c) = _
    rw [beat_lin, beatN_lin m c k]
    rfl
theorem beatN_add (m : Mach) : ∀ (i j : Nat) (f : Load), beatN m j (beatN m i f) = beatN m (i + j) f
  | 0, j, f => by rw [Nat.zero_add]; rfl
  | i + 1, j, f => by
    rw [show i + 1 + j = (i + j) + 1 by omega]
    exact beatN_add m i j (beatF m f)
theorem ld_congr {cs : List Nat} {f g : Load} (h : ∀ s ∈ cells cs, f s = g s) : ldD cs f = ldD cs g := by
  unfold ldD
  congr 1
  apply List.map_congr_left
  intro q hq
  unfold rowD
  congr 1
  apply List.map_congr_left
  intro p hp
  rw [h (q.2, p)]
  unfold cells cellsZ
  exact List.mem_flatMap.mpr ⟨q, hq, List.mem_map_of_mem hp⟩
/-- each load of its spots -/
def basF (f : Load) (l : List Spot) (g : Load) : Load := l.foldl (fun g s => fun t => g t + (if t = s then 1 else 0) * f s) g
theorem bas_at (f : Load) : ∀ (l : List Spot) (g : Load) (t : Spot), l.Nodup → basF f l g t = if t ∈ l then g t + f t else g t
  | [], g, t, _ => by simp [basF]
  | s :: l, g, t, hn => by
    rw [List.nodup_cons] at hn
    show basF f l (fun t => g t + (if t = s then 1 else 0) * f s) t = _
    rw [bas_at f l _ t hn.2]
    by_cases h1 : t = s
    · subst h1
      simp [hn.1]
    · by_cases h2 : t ∈ l
      · simp [h1, h2, Rat.add_zero]
      · simp [h1, h2, Rat.add_zero]
end G
set_option Elab.async false
set_option linter.all false
set_option maxRecDepth 100000
set_option maxHeartbeats 4000000
/-! M25: equal data, one turn of the law's going -/
namespace G
open PySem PySem.Spec L2 PyProof.Rows
set_option autoImplicit false
/-- data of numbers and rows, so deep at most -/
structure Pl (n : Nat) (d : PyData) : Prop where
  lay : d.canLay0 = true
  dep : d.depth ≤ n
  ref : PyData.eqv d d = true
theorem pl_int (i : Int) : Pl 0 (.int i) := ⟨rfl, Nat.le_refl 0, by simp [PyData.eqv]⟩
theorem pl_all {n : Nat} : ∀ {l : List PyData}, (∀ x ∈ l, Pl n x) → PyData.canLayAll0 l = true ∧ PyData.depthAll l ≤ n ∧ PyData.eqvAll l l = true
  | [], _ => ⟨rfl, Nat.zero_le _, rfl⟩
  | x :: l, h => by
    obtain ⟨h1, h2, h3⟩ := pl_all fun y hy => h y (List.mem_cons_of_mem _ hy)
    have hx := h x (by simp)
    refine ⟨?_, ?_, ?_⟩
    · simp only [PyData.canLayAll0, hx.lay, h1, Bool.and_self]
    · simp only [PyData.depthAll]; have := hx.dep; omega
    · simp only [PyData.eqvAll, hx.ref, h3, Bool.and_self]
theorem pl_tup {n : Nat} {l : List PyData} (h : ∀ x ∈ l, Pl n x) : Pl (n + 1) (.tuple l) := by
  obtain ⟨h1, h2, h3⟩ := pl_all h
  exact ⟨by simp only [PyData.canLay0, h1], by simp only [PyData.depth]; omega, by simp only [PyData.eqv, h3]⟩
theorem pl_lst {n : Nat} {l : List PyData} (h : ∀ x ∈ l, Pl n x) : Pl (n + 1) (.list l) := by
  obtain ⟨h1, h2, h3⟩ := pl_all h
  exact ⟨by simp only [PyData.canLay0, h1], by simp only [PyData.depth]; omega, by simp only [PyData.eqv, h3]⟩
theorem Pl.shp {n : Nat} {d : PyData} (h : Pl n d) (hn : n ≤ 64) : SeqAt.shaped d = true := by
  unfold SeqAt.shaped
  rw [h.lay, Bool.true_and, decide_eq_true_eq]
  have := h.dep
  omega
theorem pl_fr (q : Rat) : Pl 1 (fr q) := pl_tup fun x hx => by
  simp only [List.mem_cons, List.not_mem_nil, or_false] at hx
  rcases hx with rfl | rfl <;> exact pl_int _
theorem pl_row (f : Load) (q : Nat × Nat) : Pl 2 (rowD f q) := pl_tup fun x hx => by
  obtain ⟨p, _, rfl⟩ := List.mem_map.mp hx
  exact pl_fr _
theorem pl_ld (cs : List Nat) (f : Load) : Pl 3 (ldD cs f) := pl_tup fun x hx => by
  obtain ⟨p, _, rfl⟩ := List.mem_map.mp hx
  exact pl_row _ _
theorem pl_rd (m : Mach) (f : Load) : Pl 2 (rdD m f) := pl_tup fun x hx => by
  obtain ⟨p, _, rfl⟩ := List.mem_map.mp hx
  exact pl_fr _
theorem ne_self {n : Nat} {d : PyData} (h : Pl n d) (hn : n ≤ 64) (S : Sto) : dEq true (.d d) (.d d) S = some (.d (.bool false), S) := by
  rw [dEq_d true (h.shp hn) (h.shp hn), h.ref]
  rfl
theorem eq_self' {n : Nat} {d : PyData} (h : Pl n d) (hn : n ≤ 64) (S : Sto) : dEq false (.d d) (.d d) S = some (.d (.bool true), S) := by
  rw [dEq_d false (h.shp hn) (h.shp hn), h.ref]
  rfl
theorem ne_lists {n : Nat} {l : List PyData} {S : Sto} {a b : Nat} (ha : S[a]? = some (.lst (l.map W.d))) (hb : S[b]? = some (.lst (l.map W.d))) (h : ∀ x ∈ l, Pl n x) (hn : n + 1 ≤ 64) : dEq true (.o a) (.o b) S = some (.d (.bool false), S) := by
  have hl := pl_lst h
  unfold dEq
  rw [view_o ha, view_o hb]
  simp only []
  rw [if_pos (by rw [hl.shp hn]; rfl), hl.ref]
  rfl
theorem ix_last {S : Sto} {ws : List W} {T : Sto} (x : W) : gIx (.o S.length) (.d (.int (-1))) (S ++ .lst (ws ++ [x]) :: T) = some (x, S ++ .lst (ws ++ [x]) :: T) := by
  unfold gIx
  have e : seqOf (.o S.length) (S ++ .lst (ws ++ [x]) :: T) = some (ws ++ [x]) := seq_o (get_len_app _ _ _)
  simp only [e]
  have e2 : L2.atI (ws ++ [x]) (-1) = some x := by
    unfold L2.atI L2.ixN
    rw [if_neg (by decide), if_pos (by simp; omega)]
    have e3 : (-1 + ((ws ++ [x]).length : Int)).toNat = ws.length := by simp; omega
    rw [Option.bind_some, e3]
    simp
  rw [e2]
  rfl
@[simp] theorem ev_neg1 (ρ : Slt) (S : Sto) : fNeg (fC (.d (.int 1))) ρ S = .ok (.d (.int (-1))) S := rfl
theorem Rmq.mono {D E M n : Nat} (h : Rmq E M n) (h0 : 0 < D) (hd : D ≤ E) : Rmq D M n := by
  have h1 : D * D ≤ E * E := Nat.mul_le_mul hd hd
  exact ⟨h0, Nat.lt_of_le_of_lt (Nat.mul_le_mul_left 2 h1) h.d, Nat.lt_of_le_of_lt (Nat.mul_le_mul_left _ (Nat.mul_le_mul_left 2 h1)) h.m, h.n⟩
theorem Rmq.l {D M n : Nat} (h : Rmq D M n) : D * D < 2 ^ n ∧ 101 * (M * M) * (D * D) < 2 ^ n := by
  have h1 := h.d
  have h2 : 101 * (M * M) * (D * D) ≤ 1000 * (M * M) * (2 * (D * D)) := Nat.mul_le_mul (Nat.mul_le_mul_right _ (by omega)) (by omega)
  exact ⟨by omega, Nat.lt_of_le_of_lt h2 h.m⟩
theorem Rmq.one' {D M n : Nat} (h : Rmq D M n) : D < 2 ^ n ∧ 101 * M * D < 2 ^ n := by
  have h1 := sq_le D h.pos
  have h3 := h.l
  refine ⟨by omega, ?_⟩
  rcases Nat.eq_zero_or_pos M with hz | hz
  · subst hz
    simp
    exact Nat.pow_pos (by decide)
  · have : 101 * M * D ≤ 101 * (M * M) * (D * D) := Nat.mul_le_mul (Nat.mul_le_mul_left _ (sq_le M hz)) h1
    omega
theorem fold_bd {f : Load} {D M : Nat} (hf : ∀ s, Bd D M (f s)) : ∀ (l : List Spot) (k : Nat) (a : Rat), Bd (D * D) (k * (M * M)) a → Bd (D * D) ((k + l.length) * (M * M)) (l.foldl (fun a s => a + f s * f s) a)
  | [], k, a, h => by simpa using h
  | s :: l, k, a, h => by
    rw [List.foldl_cons, List.length_cons, show k + (l.length + 1) = k + 1 + l.length by omega]
    refine fold_bd hf l (k + 1) _ ?_
    have := h.add ((hf s).mul (hf s))
    rw [Nat.succ_mul]
    exact this
theorem sq_bd {m : Mach} (ok : Ok m) {f : Load} {D M n : Nat} (hf : ∀ s, Bd D M (f s)) (hq : Rmq D M n) : Sm n (sqF m.cs f) := by
  have h := fold_bd hf (cells m.cs) 0 0 (by rw [Nat.zero_mul]; exact Bd.zero)
  have hl := cells_len (cs := m.cs)
  have hs := ok.s30
  exact hq.sm h (Nat.mul_pos hq.pos hq.pos) (by omega) (Nat.mul_le_mul_right _ (by omega))
theorem metf_bd {f : Load} {D M : Nat} (hf : ∀ s, Bd D M (f s)) : ∀ (ts : List Tch) (k : Nat) (a : Rat), Bd (2 * (D * D)) (k * (4 * (M * M))) a → Bd (2 * (D * D)) ((k + ts.length) * (4 * (M * M))) (ts.foldl (fun a t => a + gapF f t * gapF f t / 2) a)
  | [], k, a, h => by simpa using h
  | t :: ts, k, a, h => by
    rw [List.foldl_cons, List.length_cons, show k + (ts.length + 1) = k + 1 + ts.length by omega]
    refine metf_bd hf ts (k + 1) _ ?_
    have hg : Bd D (M + M) (gapF f t) := (hf t.1).sub (hf t.2)
    have hgg := hg.mul hg
    have e : gapF f t * gapF f t / 2 = (gapF f t * gapF f t + 0) / 2 := by grind
    have z := hgg.half (Bd.zero (D := D * D) (M := (M + M) * (M + M)))
    have e2 : (M + M) * (M + M) = 4 * (M * M) := by grind
    rw [e2, ← e, Nat.mul_comm (D * D) 2] at z
    have y := h.add z
    have e3 : k * (4 * (M * M)) + 4 * (M * M) = (k + 1) * (4 * (M * M)) := by grind
    rw [e3] at y
    exact y
theorem met_bd {m : Mach} (ok : Ok m) {f : Load} {D M n : Nat} (hf : ∀ s, Bd D M (f s)) (hq : Rmq D M n) : Sm n (metF f m.ts) := by
  have h := metf_bd hf m.ts 0 0 (by rw [Nat.zero_mul]; exact Bd.zero)
  have hl := ok.l8
  have hp := Nat.mul_pos hq.pos hq.pos
  exact hq.sm h (by omega) (by omega) (by
    have : (0 + m.ts.length) * (4 * (M * M)) ≤ 8 * (4 * (M * M)) := Nat.mul_le_mul_right _ (by omega)
    omega)
end G
set_option Elab.async false
set_option linter.all false
set_option maxRecDepth 100000
set_option maxHeartbeats 4000000
/-! N1: the mirror: the row that a touch reads after some beats is what the mirrored machine makes of a half at both its spots -/
namespace G
open PySem PySem.Spec L2 PyProof.Rows
set_option autoImplicit false
/-- (a - p) mod c -/
def ngm (a p c : Nat) : Nat := (((a : Int) - (p : Int)) % (c : Int)).toNat
theorem ngm_cast {a p c : Nat} (h : 0 < c) : ((ngm a p c : Nat) : Int) = ((a : Int) - (p : Int)) % (c : Int) := by
  unfold ngm
  have := Int.emod_nonneg ((a : Int) - (p : Int)) (show (c : Int) ≠ 0 by omega)
  omega
theorem ngm_lt {a p c : Nat} (h : 0 < c) : ngm a p c < c := by
  have h1 := ngm_cast (a := a) (p := p) h
  have h2 := Int.emod_lt_of_pos ((a : Int) - (p : Int)) (show (0 : Int) < c by omega)
  omega
theorem ngm_ngm {a p c : Nat} (h : p < c) : ngm a (ngm a p c) c = p := by
  have h0 : 0 < c := by omega
  have h1 := ngm_cast (a := a) (p := ngm a p c) h0
  have h3 := ngm_cast (a := a) (p := p) h0
  rw [h3] at h1
  have h2 : ((a : Int) - ((a : Int) - (p : Int)) % (c : Int)) % (c : Int) = (p : Int) := by
    have e := Int.mul_ediv_add_emod ((a : Int) - (p : Int)) (c : Int)
    have e2 : (a : Int) - ((a : Int) - (p : Int)) % (c : Int) = (p : Int) + (c : Int) * (((a : Int) - (p : Int)) / (c : Int)) := by omega
    rw [e2, Int.add_mul_emod_self_left]
    exact Int.emod_eq_of_lt (by omega) (by omega)
  omega
theorem ngm_next {p c : Nat} (h : p < c) : ngm 1 ((p + 1) % c) c = ngm 0 p c := by
  have h0 : 0 < c := by omega
  have h1 := ngm_cast (a := 1) (p := (p + 1) % c) h0
  have h2 := ngm_cast (a := 0) (p := p) h0
  have h3 : (((1 : Nat) : Int) - (((p + 1) % c : Nat) : Int)) % (c : Int) = (((0 : Nat) : Int) - (p : Int)) % (c : Int) := by
    rw [Int.natCast_emod, Int.sub_emod, Int.emod_emod_of_dvd _ (Int.dvd_refl _), ← Int.sub_emod]
    congr 1
    omega
  omega
def flp (a : Nat) (cs : List Nat) (s : Spot) : Spot := (s.1, ngm a s.2 (cs.getD s.1 1))
theorem cnt_of {cs : List Nat} {s : Spot} (h : okS cs s) : s.2 < cs.getD s.1 1 := by
  obtain ⟨c, h1, h2⟩ := h
  rw [List.getD_eq_getElem?_getD, h1]
  exact h2
theorem flp_ok {a : Nat} {cs : List Nat} {s : Spot} (h : okS cs s) : okS cs (flp a cs s) := by
  have h3 := cnt_of h
  obtain ⟨c, h1, h2⟩ := h
  refine ⟨c, h1, ?_⟩
  have e : cs.getD s.1 1 = c := by rw [List.getD_eq_getElem?_getD, h1]; rfl
  show ngm a s.2 (cs.getD s.1 1) < c
  rw [e]
  exact ngm_lt (by omega)
theorem flp_flp {a : Nat} {cs : List Nat} {s : Spot} (h : okS cs s) : flp a cs (flp a cs s) = s := by
  show (s.1, ngm a (ngm a s.2 (cs.getD s.1 1)) (cs.getD s.1 1)) = s
  rw [ngm_ngm (cnt_of h)]
theorem flp_next {cs : List Nat} {s : Spot} (h : okS cs s) : flp 1 cs (s.1, (s.2 + 1) % cs.getD s.1 1) = flp 0 cs s := by
  show (s.1, ngm 1 ((s.2 + 1) % cs.getD s.1 1) (cs.getD s.1 1)) = (s.1, _)
  rw [ngm_next (cnt_of h)]
theorem flp_inj {a : Nat} {cs : List Nat} {s t : Spot} (h1 : okS cs s) (h2 : okS cs t) (e : flp a cs s = flp a cs t) : s = t := by
  rw [← flp_flp (a := a) h1, e, flp_flp h2]
theorem flp_perm (a : Nat) (cs : List Nat) : ((cells cs).map (flp a cs)).Perm (cells cs) := by
  have nd : ((cells cs).map (flp a cs)).Nodup := by
    rw [List.Nodup, List.pairwise_map]
    have h0 := cells_nodup cs
    refine List.Pairwise.imp_of_mem ?_ h0
    intro x y hx hy hne z
    exact hne (flp_inj ((cells_mem cs x).mp hx) ((cells_mem cs y).mp hy) z)
  rw [List.perm_ext_iff_of_nodup nd (cells_nodup cs)]
  intro s
  rw [List.mem_map]
  constructor
  · rintro ⟨t, ht, rfl⟩
    exact (cells_mem cs _).mpr (flp_ok ((cells_mem cs t).mp ht))
  · intro hs
    have h := (cells_mem cs s).mp hs
    exact ⟨flp a cs s, (cells_mem cs _).mpr (flp_ok h), flp_flp h⟩
theorem sm_flp (a : Nat) (cs : List Nat) (h : Spot → Rat) : sm (fun s => h (flp a cs s)) (cells cs) = sm h (cells cs) := by
  rw [← sm_map h (flp a cs)]
  exact sm_perm h (flp_perm a cs)
/-! what a touch does to a load -/
theorem aft_not (f : Load) : ∀ (ts : List Tch) (g : Load) (s : Spot), s ∉ spotsOf ts → aftF f ts g s = g s
  | [], g, s, _ => rfl
  | t :: ts, g, s, h => by
    have e : spotsOf (t :: ts) = t.1 :: t.2 :: spotsOf ts := rfl
    rw [e] at h
    simp only [List.mem_cons, not_or] at h
    show aftF f ts (updL (updL g t.1 (rdF f t)) t.2 (rdF f t)) s = g s
    rw [aft_not f ts _ s h.2.2]
    simp [updL, h.1, h.2.1]
theorem aft_in (f : Load) : ∀ (ts : List Tch) (g : Load) (t : Tch) (s : Spot), (spotsOf ts).Nodup → t ∈ ts → (s = t.1 ∨ s = t.2) → aftF f ts g s = rdF f t
  | [], _, _, _, _, h, _ => by cases h
  | u :: ts, g, t, s, hn, h, hs => by
    have e : spotsOf (u :: ts) = u.1 :: u.2 :: spotsOf ts := rfl
    rw [e, List.nodup_cons, List.nodup_cons] at hn
    obtain ⟨n1, n2, n3⟩ := hn
    show aftF f ts (updL (updL g u.1 (rdF f u)) u.2 (rdF f u)) s = rdF f t
    rcases List.mem_cons.mp h with rfl | h
    · have hno : s ∉ spotsOf ts := by
        rcases hs with rfl | rfl
        · exact fun z => n1 (by simp [z])
        · exact n2
      rw [aft_not f ts _ s hno]
      rcases hs with rfl | rfl <;> simp [updL]
    · exact aft_in f ts _ t s n3 h hs
theorem sm_updW (w g : Load) (s : Spot) (v : Rat) : ∀ l : List Spot, l.Nodup → s ∈ l → sm (fun t => w t * updL g s v t) l = sm (fun t => w t * g t) l - w s * g s + w s * v
  | [], _, h => by cases h
  | x :: l, hn, h => by
    rw [List.nodup_cons] at hn
    rw [sm, sm]
    by_cases hx : x = s
    · subst hx
      have e : sm (fun t => w t * updL g x v t) l = sm (fun t => w t * g t) l := sm_congr fun t ht => by
        have : ¬ t = x := fun z => hn.1 (z ▸ ht)
        simp [updL, this]
      rw [e]
      simp [updL]
      grind
    · have h2 : s ∈ l := (List.mem_cons.mp h).resolve_left (Ne.symm hx)
      rw [sm_updW w g s v l hn.2 h2]
      simp [updL, hx]
      grind
theorem sm_aftW (w f : Load) {l : List Spot} (hl : l.Nodup) : ∀ (ts : List Tch) (g : Load), (spotsOf ts).Nodup → (∀ s ∈ spotsOf ts, s ∈ l ∧ g s = f s) → sm (fun s => w s * aftF f ts g s) l = sm (fun s => w s * g s) l - sm (fun t => gapF w t * gapF f t / 2) ts
  | [], g, _, _ => by
    simp only [aftF, List.foldl_nil, sm]
    grind
  | t :: ts, g, hn, h => by
    have e : spotsOf (t :: ts) = t.1 :: t.2 :: spotsOf ts := rfl
    rw [e] at hn h
    rw [List.nodup_cons, List.nodup_cons] at hn
    obtain ⟨n1, n2, n3⟩ := hn
    have h12 : t.1 ≠ t.2 := fun z => n1 (by rw [z]; simp)
    obtain ⟨m1, v1⟩ := h t.1 (by simp)
    obtain ⟨m2, v2⟩ := h t.2 (by simp)
    have ih := sm_aftW w f hl ts (updL (updL g t.1 (rdF f t)) t.2 (rdF f t)) n3 (fun s hs => by
      have a1 : s ≠ t.1 := fun z => n1 (by rw [← z]; simp [hs])
      have a2 : s ≠ t.2 := fun z => n2 (by rw [← z]; exact hs)
      exact ⟨(h s (by simp [hs])).1, by simp [updL, a1, a2, (h s (by simp [hs])).2]⟩)
    show sm (fun s => w s * aftF f ts (updL (updL g t.1 (rdF f t)) t.2 (rdF f t)) s) l = _
    rw [ih, sm_updW w _ t.2 _ l hl m2, sm_updW w g t.1 _ l hl m1]
    have e3 : updL g t.1 (rdF f t) t.2 = g t.2 := by simp [updL, Ne.symm h12]
    rw [e3, v1, v2]
    simp only [sm]
    unfold rdF gapF
    grind
theorem aft_adj {m : Mach} (ok : Ok m) (w f : Load) : sm (fun s => w s * aftF f m.ts f s) (cells m.cs) = sm (fun s => aftF w m.ts w s * f s) (cells m.cs) := by
  have h1 := sm_aftW w f (cells_nodup m.cs) m.ts f ok.nd (fun s hs => ⟨spots_in ok s hs, rfl⟩)
  have h2 := sm_aftW f w (cells_nodup m.cs) m.ts w ok.nd (fun s hs => ⟨spots_in ok s hs, rfl⟩)
  have e1 : sm (fun s => aftF w m.ts w s * f s) (cells m.cs) = sm (fun s => f s * aftF w m.ts w s) (cells m.cs) := sm_congr fun s _ => by grind
  have e2 : sm (fun s => f s * w s) (cells m.cs) = sm (fun s => w s * f s) (cells m.cs) := sm_congr fun s _ => by grind
  have e3 : sm (fun t => gapF f t * gapF w t / 2) m.ts = sm (fun t => gapF w t * gapF f t / 2) m.ts := sm_congr fun s _ => by grind
  rw [h1, e1, h2, e2, e3]
/-! the mirrored machine -/
def mirT (cs : List Nat) (t : Tch) : Tch := mkT (flp 1 cs t.1) (flp 1 cs t.2)
/-- a machine that is the mirror of another, in whatever order its touches were found -/
structure Mir (m m' : Mach) : Prop where
  ok : Ok m'
  cs : m'.cs = m.cs
  ts : m'.ts.Perm (m.ts.map (mirT m.cs))
theorem mirT_mem (cs : List Nat) (t : Tch) (s : Spot) : (s = (mirT cs t).1 ∨ s = (mirT cs t).2) ↔ (s = flp 1 cs t.1 ∨ s = flp 1 cs t.2) := by
  unfold mirT mkT
  split
  · exact Or.comm
  · exact Iff.rfl
theorem rd_mir (cs : List Nat) (g : Load) (t : Tch) : rdF g (mirT cs t) = rdF (fun s => g (flp 1 cs s)) t := by
  unfold rdF mirT mkT
  split
  · show (g _ + g _) / 2 = _
    grind
  · rfl
theorem mir_aft {m m' : Mach} (ok : Ok m) (h : Mir m m') (g : Load) {s : Spot} (hs : s ∈ cells m.cs) : aftF g m'.ts g (flp 1 m.cs s) = aftF (fun s => g (flp 1 m.cs s)) m.ts (fun s => g (flp 1 m.cs s)) s := by
  have ho := (cells_mem _ s).mp hs
  by_cases hin : s ∈ spotsOf m.ts
  · obtain ⟨t, ht, hst⟩ := List.mem_flatMap.mp hin
    have hst' : s = t.1 ∨ s = t.2 := by simpa using hst
    rw [aft_in _ m.ts _ t s ok.nd ht hst']
    have hm : mirT m.cs t ∈ m'.ts := h.ts.mem_iff.mpr (List.mem_map.mpr ⟨t, ht, rfl⟩)
    rw [aft_in g m'.ts g (mirT m.cs t) _ h.ok.nd hm ((mirT_mem m.cs t _).mpr (by rcases hst' with rfl | rfl <;> simp)), rd_mir]
  · rw [aft_not _ m.ts _ s hin, aft_not g m'.ts g]
    intro z
    obtain ⟨t', ht', hst⟩ := List.mem_flatMap.mp z
    obtain ⟨t, ht, rfl⟩ := List.mem_map.mp (h.ts.mem_iff.mp ht')
    have g1 := ok.good t ht
    have hst' : flp 1 m.cs s = (mirT m.cs t).1 ∨ flp 1 m.cs s = (mirT m.cs t).2 := by simpa using hst
    rcases (mirT_mem m.cs t _).mp hst' with e | e
    · exact hin (List.mem_flatMap.mpr ⟨t, ht, by simp [flp_inj ho g1.1 e]⟩)
    · exact hin (List.mem_flatMap.mpr ⟨t, ht, by simp [flp_inj ho g1.2.1 e]⟩)
/-- one beat, told by the mirror -/
theorem beat_adj {m m' : Mach} (ok : Ok m) (h : Mir m m') (g f : Load) : sm (fun s => beatF m' g (flp 0 m.cs s) * f s) (cells m.cs) = sm (fun s => g (flp 0 m.cs s) * beatF m f s) (cells m.cs) := by
  have e1 : sm (fun s => g (flp 0 m.cs s) * beatF m f s) (cells m.cs) = sm (fun s => g (flp 1 m.cs s) * aftF f m.ts f s) (cells m.cs) := by
    rw [← sm_turn ok.pos (fun s => g (flp 1 m.cs s) * aftF f m.ts f s)]
    refine sm_congr fun s hs => ?_
    show _ = g (flp 1 m.cs (s.1, (s.2 + 1) % m.cs.getD s.1 1)) * _
    rw [flp_next ((cells_mem _ s).mp hs)]
    rfl
  rw [e1, aft_adj ok]
  refine sm_congr fun s hs => ?_
  have ho := (cells_mem _ s).mp hs
  rw [← mir_aft ok h g hs]
  congr 1
  show aftF g m'.ts g (s.1, (ngm 0 s.2 (m.cs.getD s.1 1) + 1) % m'.cs.getD s.1 1) = aftF g m'.ts g (s.1, ngm 1 s.2 (m.cs.getD s.1 1))
  rw [h.cs]
  have hc := cnt_of ho
  have h0 : 0 < m.cs.getD s.1 1 := by omega
  have e2 : (ngm 0 s.2 (m.cs.getD s.1 1) + 1) % m.cs.getD s.1 1 = ngm 1 s.2 (m.cs.getD s.1 1) := by
    have h2 := ngm_cast (a := 0) (p := s.2) h0
    have h3 := ngm_cast (a := 1) (p := s.2) h0
    have h4 : (((ngm 0 s.2 (m.cs.getD s.1 1) + 1) % m.cs.getD s.1 1 : Nat) : Int) = (((1 : Nat) : Int) - (s.2 : Int)) % ((m.cs.getD s.1 1 : Nat) : Int) := by
      rw [Int.natCast_emod, Int.natCast_add, h2, Int.add_emod, Int.emod_emod_of_dvd _ (Int.dvd_refl _), ← Int.add_emod]
      congr 1
      omega
    omega
  rw [e2]
theorem beatN_adj {m m' : Mach} (ok : Ok m) (h : Mir m m') (f : Load) : ∀ (k : Nat) (g : Load), sm (fun s => beatN m' k g (flp 0 m.cs s) * f s) (cells m.cs) = sm (fun s => g (flp 0 m.cs s) * beatN m k f s) (cells m.cs)
  | 0, g => rfl
  | k + 1, g => by
    show sm (fun s => beatN m' k (beatF m' g) (flp 0 m.cs s) * f s) (cells m.cs) = _
    rw [beatN_adj ok h f k (beatF m' g), beat_adj ok h g (beatN m k f)]
    refine sm_congr fun s _ => ?_
    have e : beatF m (beatN m k f) = beatN m (k + 1) f := by
      have := beatN_add m k 1 f
      exact this
    rw [e]
/-- where the mirror starts -/
def srcF (cs : List Nat) (t : Tch) : Load := fun s => if s = flp 0 cs t.1 ∨ s = flp 0 cs t.2 then 1 / 2 else 0
theorem sm_two {l : List Spot} (hl : l.Nodup) {a b : Spot} (ha : a ∈ l) (hb : b ∈ l) (hne : a ≠ b) (f : Load) : sm (fun s => (if s = a ∨ s = b then 1 / 2 else 0) * f s) l = (f a + f b) / 2 := by
  have h1 := sm_updW f (fun _ => 0) a (1 / 2) l hl ha
  have h2 := sm_updW f (updL (fun _ => 0) a (1 / 2)) b (1 / 2) l hl hb
  have e0 : sm (fun t => f t * (fun _ => (0 : Rat)) t) l = 0 := by
    clear h1 h2 ha hb hl
    induction l with
    | nil => rfl
    | cons x l ih => rw [sm, ih]; grind
  have e1 : sm (fun s => (if s = a ∨ s = b then 1 / 2 else 0) * f s) l = sm (fun t => f t * updL (updL (fun _ => 0) a (1 / 2)) b (1 / 2) t) l := sm_congr fun s _ => by
    unfold updL
    by_cases hb : s = b
    · simp [hb]; grind
    · by_cases ha : s = a
      · simp [ha, hb]; grind
      · simp [ha, hb]
  rw [e1, h2, h1, e0]
  simp [updL, Ne.symm hne]
  grind
/-- the row that a touch reads after k beats -/
def rowF (m' : Mach) (cs : List Nat) (t : Tch) (k : Nat) : Load := fun s => beatN m' k (srcF cs t) (flp 0 cs s)
theorem row_reads {m m' : Mach} (ok : Ok m) (h : Mir m m') {t : Tch} (ht : t ∈ m.ts) (k : Nat) (f : Load) : sm (fun s => rowF m' m.cs t k s * f s) (cells m.cs) = rdF (beatN m k f) t := by
  have g1 := ok.good t ht
  unfold rowF
  rw [beatN_adj ok h f k (srcF m.cs t)]
  have e1 : sm (fun s => srcF m.cs t (flp 0 m.cs s) * beatN m k f s) (cells m.cs) = sm (fun s => (if s = t.1 ∨ s = t.2 then 1 / 2 else 0) * beatN m k f s) (cells m.cs) := sm_congr fun s hs => by
    have ho := (cells_mem _ s).mp hs
    congr 1
    unfold srcF
    have i1 : flp 0 m.cs s = flp 0 m.cs t.1 ↔ s = t.1 := ⟨fun z => flp_inj ho g1.1 z, fun z => by rw [z]⟩
    have i2 : flp 0 m.cs s = flp 0 m.cs t.2 ↔ s = t.2 := ⟨fun z => flp_inj ho g1.2.1 z, fun z => by rw [z]⟩
    simp only [i1, i2]
  have hne : t.1 ≠ t.2 := fun z => by
    have := g1.2.2
    rw [z] at this
    exact ltS_irr _ this
  rw [e1, sm_two (cells_nodup m.cs) ((cells_mem _ _).mpr g1.1) ((cells_mem _ _).mpr g1.2.1) hne]
  rfl
/-- a row's part at a spot is what one there reads -/
theorem sm_one {l : List Spot} (hl : l.Nodup) {a : Spot} (ha : a ∈ l) (w : Load) : sm (fun s => w s * (if s = a then 1 else 0)) l = w a := by
  have h1 := sm_updW w (fun _ => 0) a 1 l hl ha
  have e0 : sm (fun t => w t * (fun _ => (0 : Rat)) t) l = 0 := by
    clear h1 ha hl
    induction l with
    | nil => rfl
    | cons x l ih => rw [sm, ih]; grind
  rw [e0] at h1
  have e1 : sm (fun s => w s * (if s = a then 1 else 0)) l = sm (fun t => w t * updL (fun _ => 0) a 1 t) l := sm_congr fun s _ => by
    unfold updL
    rfl
  rw [e1, h1]
  grind
theorem row_at {m m' : Mach} (ok : Ok m) (h : Mir m m') {t : Tch} (ht : t ∈ m.ts) (k : Nat) {s : Spot} (hs : okS m.cs s) : rowF m' m.cs t k s = rdF (beatN m k fun u => if u = s then 1 else 0) t := by
  rw [← row_reads ok h ht k]
  exact (sm_one (cells_nodup m.cs) ((cells_mem _ _).mpr hs) _).symm
theorem beat_ones (m : Mach) (c : Rat) : beatF m (fun _ => c) = fun _ => c := by
  funext s
  unfold beatF
  rcases aft_cases (fun _ => c) m.ts (fun _ => c) (s.1, (s.2 + 1) % m.cs.getD s.1 1) with e | ⟨t, _, e⟩
  · exact e
  · rw [e]
    unfold rdF
    grind
theorem beatN_ones (m : Mach) (c : Rat) : ∀ k, beatN m k (fun _ => c) = fun _ => c
  | 0 => rfl
  | k + 1 => by
    show beatN m k (beatF m fun _ => c) = _
    rw [beat_ones, beatN_ones m c k]
theorem row_sum {m m' : Mach} (ok : Ok m) (h : Mir m m') {t : Tch} (ht : t ∈ m.ts) (k : Nat) : sm (rowF m' m.cs t k) (cells m.cs) = 1 := by
  have h1 := row_reads ok h ht k (fun _ => 1)
  rw [beatN_ones] at h1
  have e : sm (rowF m' m.cs t k) (cells m.cs) = sm (fun s => rowF m' m.cs t k s * 1) (cells m.cs) := sm_congr fun s _ => by grind
  rw [e, h1]
  unfold rdF
  grind
theorem sq_nonneg (w : Load) : ∀ l : List Spot, 0 ≤ sm (fun s => w s * w s) l ∧ (sm (fun s => w s * w s) l = 0 → ∀ s ∈ l, w s = 0)
  | [] => ⟨by simp [sm], fun _ s h => by cases h⟩
  | x :: l => by
    obtain ⟨h1, h2⟩ := sq_nonneg w l
    have hx : 0 ≤ w x * w x := by
      rcases (Rat.le_total : 0 ≤ w x ∨ w x ≤ 0) with h | h
      · exact Rat.mul_nonneg h h
      · have := Rat.mul_nonneg (show 0 ≤ -(w x) by grind) (show 0 ≤ -(w x) by grind)
        grind
    rw [sm]
    refine ⟨by grind, fun e s hs => ?_⟩
    have e1 : w x * w x = 0 := by grind
    have e2 : sm (fun s => w s * w s) l = 0 := by grind
    rcases List.mem_cons.mp hs with rfl | hs
    · rcases Rat.mul_eq_zero.mp e1 with h | h <;> exact h
    · exact h2 e2 s hs
theorem row_sq {m m' : Mach} (ok : Ok m) (h : Mir m m') {t : Tch} (ht : t ∈ m.ts) (k : Nat) : 0 < sm (fun s => rowF m' m.cs t k s * rowF m' m.cs t k s) (cells m.cs) := by
  obtain ⟨h1, h2⟩ := sq_nonneg (rowF m' m.cs t k) (cells m.cs)
  by_cases e : sm (fun s => rowF m' m.cs t k s * rowF m' m.cs t k s) (cells m.cs) = 0
  · exfalso
    have h3 := row_sum ok h ht k
    have h4 := h2 e
    have z : ∀ l : List Spot, (∀ s ∈ l, rowF m' m.cs t k s = 0) → sm (rowF m' m.cs t k) l = 0 := fun l => by
      induction l with
      | nil => intro _; rfl
      | cons x l ih =>
        intro hl
        rw [sm, ih fun s hs => hl s (by simp [hs]), hl x (by simp)]
        grind
    rw [z _ h4] at h3
    exact absurd h3 (by decide)
  · grind
end G
set_option Elab.async false
set_option linter.all false
set_option maxRecDepth 100000
set_option maxHeartbeats 4000000
/-! N2: over; the law's less, times, over; mirrored spots, touches, machines -/
namespace G
open PySem PySem.Spec L2 PyProof.Rows
set_option autoImplicit false
theorem r_is_nought (q : Rat) (S : Sto) : R_is_nought [.d (fr q)] S = .ok (.d (.bool (decide (q = 0)))) S := by
  unfold R_is_nought runB B_is_nought
  have e : decide (q.num = 0) = decide (q = 0) := by simp [Rat.num_eq_zero]
  simp [startR, e]
theorem div_neg' {i g : Int} (h : 0 < g) (h2 : g.natAbs < mid) (hd : g ∣ i) (S : Sto) : gDiv (.d (.int i)) (.d (.int (-g))) S = some (.d (.int ((-i) / g)), S) := by
  unfold gDiv divOk divNg
  dsimp only
  have e1 : ¬ (decide (0 < -g ∧ (-g).natAbs < mid) = true) := by
    intro z
    have := (of_decide_eq_true z : 0 < -g ∧ (-g).natAbs < mid)
    omega
  have e2 : decide (-g < 0 ∧ (-g).natAbs < mid) = true := decide_eq_true ⟨by omega, by rw [Int.natAbs_neg]; exact h2⟩
  rw [if_neg e1, if_pos e2]
  congr 4
  rw [Int.fdiv_eq_ediv_of_dvd (Int.neg_dvd.mpr hd), Int.ediv_neg, Int.neg_ediv_of_dvd hd]
theorem r_lowest_neg {t b : Int} (hb : b < 0) (hs : b.natAbs < 2 ^ 7000) (S : Sto) : R_lowest [.d (.int t), .d (.int b)] S = .ok (.d (fr (Rat.divInt t b))) S := by
  unfold R_lowest runB B_lowest
  have hb' : 0 < -b := by omega
  have hg := gcd_lt (t := -t) hb' (by rw [Int.natAbs_neg]; exact hs)
  rw [Int.gcd_neg, Int.neg_gcd] at hg
  have hn : ¬ (0 < b) := by omega
  have e := low_eq (t := -t) hb'
  rw [Rat.neg_divInt_neg, Int.gcd_neg, Int.neg_gcd] at e
  have d1 : ((Int.gcd t b : Nat) : Int) ∣ t := Int.gcd_dvd_left ..
  have d2 : ((Int.gcd t b : Nat) : Int) ∣ b := Int.gcd_dvd_right ..
  simp [startR, hn, div_neg' hg.1 hg.2 d1, div_neg' hg.1 hg.2 d2, e]
theorem over_div (p q : Rat) : Rat.divInt (p.num * q.den) (p.den * q.num) = p / q := by
  rw [Rat.div_def, Rat.inv_def, ← Rat.divInt_mul_divInt, Rat.num_divInt_den]
theorem num_ne {q : Rat} (h : q ≠ 0) : q.num ≠ 0 := fun z => h (Rat.num_eq_zero.mp z)
section
variable {n m : Nat} {p q : Rat}
theorem sm_dn (hp : Sm n p) (hq : Sm m q) (hl : n ≤ 3000) (hm : m ≤ 3000) : ((p.den : Int) * q.num).natAbs < 2 ^ 7000 := by
  rw [Int.natAbs_mul, Int.natAbs_natCast]
  exact pow_mul_lt hp.2 hq.1 (by omega)
theorem mo_dn (hp : Sm n p) (hq : Sm m q) (hl : n ≤ 3000) (hm : m ≤ 3000) : mulOk p.den q.num = true := mulOk_of (sm_nd hp hl).2 (sm_nd hq hm).1
theorem r_over (hp : Sm n p) (hq : Sm m q) (h0 : q ≠ 0) (S : Sto) (hl : n ≤ 3000 := by omega) (hm : m ≤ 3000 := by omega) : R_over [.d (fr p), .d (fr q)] S = .ok (.d (fr (p / q))) S := by
  unfold R_over runB B_over
  have e0 : decide (q = 0) = false := decide_eq_false h0
  have hd := den_pos p
  have hz := num_ne h0
  have key : ∀ S, R_lowest [.d (.int (p.num * q.den)), .d (.int (p.den * q.num))] S = .ok (.d (fr (p / q))) S := fun S => by
    rw [← over_div]
    rcases Int.lt_or_gt_of_ne hz with h | h
    · exact r_lowest_neg (Int.mul_neg_of_pos_of_neg hd h) (sm_dn hp hq hl hm) S
    · exact r_lowest (Int.mul_pos hd h) (sm_dn hp hq hl hm) S
  simp [startR, r_is_nought, e0, mul_int (mo_nd hp hq hl hm), mul_int (mo_dn hp hq hl hm), key]
theorem r__law_less (hp : Sm n p) (hq : Sm m q) (S : Sto) (hl : n ≤ 3000 := by omega) (hm : m ≤ 3000 := by omega) : R__law_less [.d (fr p), .d (fr q)] S = .ok (.d (fr (p - q))) S := by
  unfold R__law_less runB B__law_less
  have key := r__law_lowest (t := p.num * q.den - q.num * p.den) (dd_pos p q) (sm_dd hp hq hl hm) S
  rw [sub_div] at key
  simp [startR, mul_int (mo_nd hp hq hl hm), mul_int (mo_nd hq hp hm hl), mul_int (mo_dd hp hq hl hm), key]
theorem r__law_times (hp : Sm n p) (hq : Sm m q) (S : Sto) (hl : n ≤ 3000 := by omega) (hm : m ≤ 3000 := by omega) : R__law_times [.d (fr p), .d (fr q)] S = .ok (.d (fr (p * q))) S := by
  unfold R__law_times runB B__law_times
  have key := r__law_lowest (t := p.num * q.num) (dd_pos p q) (sm_dd hp hq hl hm) S
  rw [mul_div] at key
  simp [startR, mul_int (mo_nn hp hq hl hm), mul_int (mo_dd hp hq hl hm), key]
theorem r__law_over (hp : Sm n p) (hq : Sm m q) (h0 : q ≠ 0) (S : Sto) (hl : n ≤ 3000 := by omega) (hm : m ≤ 3000 := by omega) : R__law_over [.d (fr p), .d (fr q)] S = .ok (.d (fr (p / q))) S := by
  unfold R__law_over runB B__law_over
  have hd := den_pos p
  have hz := num_ne h0
  have hs := sm_dn hp hq hl hm
  rcases Int.lt_or_gt_of_ne hz with h | h
  · have hb : (p.den : Int) * q.num < 0 := Int.mul_neg_of_pos_of_neg hd h
    have hn : ¬ (0 < (p.den : Int) * q.num) := by omega
    have key := r__law_lowest (t := -(p.num * q.den)) (b := -(p.den * q.num)) (by omega) (by rw [Int.natAbs_neg]; exact hs) S
    rw [Rat.neg_divInt_neg, over_div] at key
    simp [startR, mul_int (mo_nd hp hq hl hm), mul_int (mo_dn hp hq hl hm), hn, hb, key]
  · have hb : 0 < (p.den : Int) * q.num := Int.mul_pos hd h
    have hn : ¬ ((p.den : Int) * q.num < 0) := by omega
    have key := r__law_lowest (t := p.num * q.den) hb hs S
    rw [over_div] at key
    simp [startR, mul_int (mo_nd hp hq hl hm), mul_int (mo_dn hp hq hl hm), hn, hb, key]
end
/-! spots, touches, machines in the mirror -/
theorem ix_cs {cs : List Nat} {w c : Nat} (h : cs[w]? = some c) (S : Sto) : gIx (.d (csD cs)) (.d (.int (w : Nat))) S = some (.d (.int (c : Nat)), S) := ix_nat (by simp [h]) S
theorem gt_s (s : Spot) (i j : Nat) (ρ : Slt) (S : Sto) : gTp 2 (gsCons (gNm i) (gsCons (gNm j) gsNil)) (.d (sD s)) ρ S = some ((ρ.set i (some (.d (.int (s.1 : Nat))))).set j (some (.d (.int (s.2 : Nat))))) := id rfl
theorem r_mirror_spot {cs : List Nat} {s : Spot} (h : okS cs s) (S : Sto) : R_mirror_spot [.d (csD cs), .d (sD s)] S = .ok (.d (sD (flp 1 cs s))) S := by
  unfold R_mirror_spot runB B_mirror_spot
  have hc := cnt_of h
  obtain ⟨c, h1, h2⟩ := h
  have e : cs.getD s.1 1 = c := by rw [List.getD_eq_getElem?_getD, h1]; rfl
  have h0 : (0 : Int) < (c : Int) := by omega
  have e2 : ((1 : Int) - (s.2 : Int)) % (c : Int) = ((ngm 1 s.2 c : Nat) : Int) := (ngm_cast (a := 1) (by omega)).symm
  have e3 : sD (flp 1 cs s) = .tuple [.int (s.1 : Nat), .int (ngm 1 s.2 c : Nat)] := by
    unfold flp sD
    rw [e]
  simp [startR, gt_s, ix_cs h1, mod_int h0, e2, e3]
theorem srt_s (a b : Spot) : srt [sD a, sD b] = [sD (mkT a b).1, sD (mkT a b).2] := by
  unfold srt mkT
  have e : PySem.W.dataLe false id (sD a) (sD b) = !decide (ltS b a) := by
    show (!PySem.W.dataLt (sD b) (sD a)) = _
    rw [lt_s]
  by_cases h : ltS b a
  · rw [decide_eq_true h] at e
    simp [List.mergeSort, List.MergeSort.Internal.splitInTwo, List.merge, e, h]
  · rw [decide_eq_false h] at e
    simp [List.mergeSort, List.MergeSort.Internal.splitInTwo, List.merge, e, h]
theorem sortOk_s (l : List Spot) (hl : l.length ≤ 1000) : sortOk (l.map sD) = true := by
  have h1 : ∀ t : Spot, isNn (sD t) = false ∧ (sD t).depth ≤ 60 ∧ isTup1 (sD t) = true := fun t => ⟨rfl, by show 1 ≤ 60; decide, rfl⟩
  unfold sortOk alikeOk szOk
  simp [al_s, (h1 _).1, (h1 _).2.1, (h1 _).2.2]
  omega
theorem gSort_o {n : Nat} {S : Sto} {ds : List PyData} (h : S[n]? = some (.lst (ds.map W.d))) (ho : sortOk ds = true) : gSort [.o n] S = some (.o S.length, S ++ [.lst ((srt ds).map W.d)]) := by
  unfold gSort
  have : lstOf (.o n) S = some (ds.map W.d) := by
    unfold lstOf
    simp only [h]
  simp only [this, datsOf_ds]
  rw [if_pos ho]
theorem r_mirror_pair {cs : List Nat} {t : Tch} (h1 : okS cs t.1) (h2 : okS cs t.2) (S : Sto) : Pu (R_mirror_pair [.d (csD cs), .d (tcD t)] S) S (.d (tcD (mirT cs t))) := by
  obtain ⟨T, e⟩ := fLc_ok (f := fIt (fVar 1)) (g := gNm 2) (e := fCall 2 [] R_mirror_spot (fCons (fVar 0) (fCons (fVar 2) fNil))) (vs := [2]) (ρ := [some (.d (csD cs)), some (.d (tcD t)), none]) (S := S) (T0 := []) (ds := [t.1, t.2]) (mk := sD) (fun s => .d (sD (flp 1 cs s)))
    (by simp [tcD]) (by simp) (fun s hs => ⟨_, fun S => rfl, fun S => .of (by
      have ho : okS cs s := by
        rcases List.mem_cons.mp hs with rfl | hs
        · exact h1
        · rw [show s = t.2 by simpa using hs]; exact h2
      simp [wipeR, r_mirror_spot ho])⟩)
  rw [List.append_nil] at e
  have e2 : gSort [.o S.length] (S ++ .lst ([t.1, t.2].map fun s => W.d (sD (flp 1 cs s))) :: T) = some (.o (S ++ .lst ([t.1, t.2].map fun s => W.d (sD (flp 1 cs s))) :: T).length, (S ++ .lst ([t.1, t.2].map fun s => W.d (sD (flp 1 cs s))) :: T) ++ [.lst ((srt ([flp 1 cs t.1, flp 1 cs t.2].map sD)).map W.d)]) :=
    gSort_o (by rw [get_len_app]; rfl) (sortOk_s _ (by simp))
  unfold R_mirror_pair runB B_mirror_pair
  have e3 : srt ([flp 1 cs t.1, flp 1 cs t.2].map sD) = [sD (mirT cs t).1, sD (mirT cs t).2] := srt_s _ _
  rw [e3] at e2
  refine ⟨.lst ([t.1, t.2].map fun s => W.d (sD (flp 1 cs s))) :: (T ++ [.lst ([sD (mirT cs t).1, sD (mirT cs t).2].map W.d)]), ?_⟩
  have e4 : gTuple [.o (S ++ .lst ([t.1, t.2].map fun s => W.d (sD (flp 1 cs s))) :: T).length] ((S ++ .lst ([t.1, t.2].map fun s => W.d (sD (flp 1 cs s))) :: T) ++ [.lst ([sD (mirT cs t).1, sD (mirT cs t).2].map W.d)]) = some (.d (.tuple [sD (mirT cs t).1, sD (mirT cs t).2]), _) := gTuple_o (get_len_app _ _ [])
  simp only [startR, List.map_cons, List.map_nil, List.length_cons, List.length_nil, Nat.zero_add, Nat.reduceAdd, Nat.reduceSub, List.replicate, List.cons_append, List.nil_append, st_ret, ev_cb, ev_cons, ev_nil] at e e2 e4 ⊢
  simp only [e, bind_ok, e2, ofO_some, e4, fl_ok]
  simp [tcD]
end G
set_option Elab.async false
set_option linter.all false
set_option maxRecDepth 100000
set_option maxHeartbeats 4000000
/-! N3: turned, flat, pairing -/
namespace G
open PySem PySem.Spec L2 PyProof.Rows
set_option autoImplicit false
theorem r_need_own_touch {m : Mach} {i : Nat} (h : i < m.ts.length) (S : Sto) : R_need_own_touch [.d (mD m), .d (.int (i : Nat))] S = .ok (.d .none) S := by
  unfold R_need_own_touch runB B_need_own_touch
  have h1 : (0 : Int) ≤ (i : Int) := by omega
  have h2 : (i : Int) < ((m.ts.length : Nat) : Int) := by omega
  have e : gLen [.d (tsD m.ts)] S = some (.d (.int (m.ts.length : Nat)), S) := by
    rw [tsD, len_t, List.length_map]
  simp [startR, h1, h2, e]
/-! turned -/
theorem back_row (g : Nat → PyData) (c : Nat) (h : 0 < c) : ((List.range c).map g).take 1 ++ (((List.range c).map g).drop 1).reverse = (List.range c).map fun p => g (ngm 0 p c) := by
  apply List.ext_getElem
  · simp; omega
  · intro i h1 h2
    have hi : i < c := by simpa using h2
    rw [List.getElem_map, List.getElem_range]
    have hc := ngm_cast (a := 0) (p := i) h
    by_cases h0 : i = 0
    · subst h0
      rw [List.getElem_append_left (by simp; omega)]
      have : ngm 0 0 c = 0 := by
        have e : (((0 : Nat) : Int) - ((0 : Nat) : Int)) % (c : Int) = 0 := by simp
        omega
      simp [this]
    · have e : (((0 : Nat) : Int) - (i : Int)) % (c : Int) = (c : Int) - (i : Int) := by
        have e1 : (((0 : Nat) : Int) - (i : Int)) = ((c : Int) - (i : Int)) + (c : Int) * (-1) := by omega
        rw [e1, Int.add_mul_emod_self_left]
        exact Int.emod_eq_of_lt (by omega) (by omega)
      have e2 : ngm 0 i c = c - i := by omega
      have hm : min 1 c = 1 := by omega
      rw [List.getElem_append_right (by simp; omega)]
      simp only [List.length_take, List.length_map, List.length_range, hm, List.getElem_reverse, List.getElem_drop, List.length_drop, List.getElem_map, List.getElem_range]
      rw [e2]
      congr 1
      omega
@[simp] theorem ev_back (f : Fe W) (ρ : Slt) (S : Sto) : fBack f ρ S = (f ρ S).bind fun x S1 => ofO ((revT x).map fun y => (y, S1)) := id rfl
theorem sl_t (ds : List PyData) (lo hi : Option Int) (S : Sto) : gSl (.d (.tuple ds)) lo hi S = some (.d (.tuple (cutW ds lo hi)), S) := id rfl
theorem add_t {xs ys : List PyData} (h : xs.length + ys.length ≤ 1000000) (S : Sto) : gAdd (.d (.tuple xs)) (.d (.tuple ys)) S = some (.d (.tuple (xs ++ ys)), S) := by
  unfold gAdd
  dsimp only
  rw [if_pos (by unfold szOk; exact decide_eq_true h)]
theorem cut_lo' (xs : List PyData) : cutW xs none (some 1) = xs.take 1 := by
  unfold cutW HT.sIx
  simp
theorem r_own_turned {cs : List Nat} (hp : ∀ c ∈ cs, 0 < c) (fw : Few cs) (f : Load) (S : Sto) : Pu (R_own_turned [.d (ldD cs f)] S) S (.d (ldD cs fun s => f (flp 0 cs s))) := by
  have hl := fw.len
  obtain ⟨T, e⟩ := tupLc (f := fIt (fVar 0)) (g := gNm 1) (e := fOp2 gAdd (fSl (fVar 1) fNoP (fPart (fC (.d (.int 1))))) (fBack (fVar 1))) (vs := [1]) (ρ := [some (.d (ldD cs f)), none]) (S := S) cs.zipIdx (rowD f) (rowD fun s => f (flp 0 cs s))
    (.of (by simp)) (by simp; omega) (fun q hq => ⟨_, fun S => rfl, fun S => .of (by
      have hz := List.mem_zipIdx (x := q.1) (i := q.2) hq
      have hlt : q.2 < cs.length := by have := hz.2.1; omega
      have hq1 : cs[q.2]? = some q.1 := by rw [List.getElem?_eq_getElem hlt, hz.2.2]; simp
      have h0 : 0 < q.1 := hp _ (List.mem_of_getElem? hq1)
      have hc := fw.z hq
      have hg : cs.getD q.2 1 = q.1 := by rw [List.getD_eq_getElem?_getD, hq1]; rfl
      have e1 : rowD f q = .tuple ((List.range q.1).map fun p => fr (f (q.2, p))) := rfl
      have e2 := back_row (fun p => fr (f (q.2, p))) q.1 h0
      have e3 : PyData.tuple ((List.range q.1).map fun p => fr (f (q.2, ngm 0 p q.1))) = rowD (fun s => f (flp 0 cs s)) q := by
        unfold rowD flp
        simp only [hg]
      have e4 := add_t (xs := ((List.range q.1).map fun p => fr (f (q.2, p))).take 1) (ys := (((List.range q.1).map fun p => fr (f (q.2, p))).drop 1).reverse) (by simp; omega) S
      rw [e2, e3] at e4
      simp only [wipeR, List.set_cons_zero, List.set_cons_succ, ev_op2, ev_sl, ev_back, ev_var, List.getElem?_cons_zero, List.getElem?_cons_succ, bind_ok, noP, part1, e1, sl_t, cut_lo', ofO_some, revT, Option.map_some, e4])⟩)
  refine ⟨T, ?_⟩
  unfold R_own_turned runB B_own_turned
  simp only [startR, List.map_cons, List.map_nil, List.length_cons, List.length_nil, Nat.zero_add, Nat.reduceAdd, Nat.reduceSub, List.replicate, List.cons_append, List.nil_append, st_ret] at e ⊢
  rw [e]
  rfl
/-! flat, pairing -/
def flW (cs : List Nat) (f : Load) : List W := ((cells cs).map fun s => fr (f s)).map W.d
theorem r_flat {cs : List Nat} (hs : cs.sum ≤ 30) (f : Load) (S : Sto) : ∃ T, R_flat [.d (ldD cs f)] S = .ok (.o S.length) (S ++ .lst (flW cs f) :: T) := by
  have hl := cells_len (cs := cs)
  have hlen : (cs.zipIdx.flatMap fun q => List.range q.1).length = cs.sum := by
    rw [← hl]
    unfold cells cellsZ
    rw [List.length_flatMap, List.length_flatMap]
    simp
  obtain ⟨T, e⟩ := fLc2_ok (f := fIt (fVar 0)) (g := gNm 1) (f1 := fIt (fVar 1)) (g1 := gNm 2) (e := fVar 2) (vs := [1, 2]) (vs1 := [2]) (ρ := [some (.d (ldD cs f)), none, none]) (S := S) (T0 := []) (ds := cs.zipIdx) (mk := rowD f) (mk1 := fun q p => fr (f (q.2, p))) (fun q => List.range q.1) (fun q p => .d (fr (f (q.2, p))))
    (by simp) (by rw [hlen]; omega) (fun q hq => ⟨_, fun S => rfl, fun S => .of (by simp [wipeR]), fun p hp => ⟨_, fun S => rfl, fun S => .of (by simp [wipeR])⟩⟩)
  rw [List.append_nil] at e
  have ew : (cs.zipIdx.flatMap fun q => (List.range q.1).map fun p => W.d (fr (f (q.2, p)))) = flW cs f := by
    unfold flW cells cellsZ
    simp [List.map_flatMap, List.map_map, Function.comp_def]
  rw [ew] at e
  refine ⟨T, ?_⟩
  unfold R_flat runB B_flat
  simp only [startR, List.map_cons, List.map_nil, List.length_cons, List.length_nil, Nat.zero_add, Nat.reduceAdd, Nat.reduceSub, List.replicate, List.cons_append, List.nil_append, st_ret]
  rw [e]
  rfl
noncomputable def pairBody : Fs := fIf (fAnd (fNot (fTru (fCall 1 [] R_is_nought (fCons (fVar 3) fNil)))) (fNot (fTru (fCall 1 [] R_is_nought (fCons (fVar 4) fNil))))) (fSet 2 (fCall 2 [] R_plus (fCons (fVar 2) (fCons (fCall 2 [] R_times (fCons (fVar 3) (fCons (fVar 4) fNil))) fNil)))) fSkip
/-- room for a pairing -/
structure Rmp (D M E N n : Nat) : Prop where
  d : 0 < D
  e : 0 < E
  p : D * E < 2 ^ n
  q : 101 * (M * N) * (D * E) < 2 ^ n
  n : n ≤ 3000
theorem Rmp.sum {D M E N n k : Nat} (h : Rmp D M E N n) (hk : k ≤ 101) {q : Rat} (hq : Bd (D * E) (k * (M * N)) q) : Sm n q :=
  hq.sm (Nat.mul_pos h.d h.e) h.p (Nat.lt_of_le_of_lt (Nat.mul_le_mul_right _ (Nat.mul_le_mul_right _ hk)) h.q)
theorem mul_le_of {a b c : Nat} (h : 0 < c) (l : a ≤ b) : a ≤ b * c := Nat.le_trans l (Nat.le_mul_of_pos_right _ h)
theorem Bd.zeroM {D : Nat} {q : Rat} (h : Bd D 0 q) : q = 0 := by
  have h1 := h.le
  have h2 := h.ge
  have e : ((0 : Nat) : Rat) = 0 := rfl
  rw [e] at h1 h2
  grind
theorem Rmp.sl {D M E N n : Nat} (h : Rmp D M E N n) (hN : 0 < N) {q : Rat} (hq : Bd D M q) : Sm n q := by
  refine hq.sm h.d (Nat.lt_of_le_of_lt (Nat.le_mul_of_pos_right _ h.e) h.p) (Nat.lt_of_le_of_lt ?_ h.q)
  have h1 : M ≤ 101 * (M * N) := by
    have := Nat.le_mul_of_pos_right M hN
    omega
  exact Nat.mul_le_mul h1 (Nat.le_mul_of_pos_right _ h.e)
theorem Rmp.sr {D M E N n : Nat} (h : Rmp D M E N n) (hM : 0 < M) {q : Rat} (hq : Bd E N q) : Sm n q := by
  refine hq.sm h.e (Nat.lt_of_le_of_lt (Nat.le_mul_of_pos_left _ h.d) h.p) (Nat.lt_of_le_of_lt ?_ h.q)
  have h1 : N ≤ 101 * (M * N) := by
    have := Nat.le_mul_of_pos_left N hM
    omega
  exact Nat.mul_le_mul h1 (Nat.le_mul_of_pos_left _ h.d)
theorem pair_loop {f g : Load} {D M E N n : Nat} (hf : ∀ s, Bd D M (f s)) (hg : ∀ s, Bd E N (g s)) (hM : 0 < M) (hN : 0 < N) (hr : Rmp D M E N n) {a0 a1 : Option W} : ∀ (l : List Spot) (k : Nat) (acc : Rat) (j3 j4 : Option W) (S : Sto), k + l.length ≤ 100 → Bd (D * E) (k * (M * N)) acc → ∃ k3 k4,
    forD (gTp 2 (gsCons (gNm 3) (gsCons (gNm 4) gsNil))) pairBody (l.map fun s => .tuple [fr (f s), fr (g s)]) [a0, a1, some (.d (fr acc)), j3, j4] S = .nx [a0, a1, some (.d (fr (acc + sm (fun s => f s * g s) l))), k3, k4] S
  | [], k, acc, j3, j4, S, hk, ha => ⟨j3, j4, by simp [forD_nil, sm, Rat.add_zero]⟩
  | s :: l, k, acc, j3, j4, S, hk, ha => by
    have hl : k + 1 + l.length ≤ 100 := by simp at hk; omega
    have hpr : Bd (D * E) (M * N) (f s * g s) := (hf s).mul (hg s)
    have ha2 : Bd (D * E) ((k + 1) * (M * N)) (acc + f s * g s) := by
      have := ha.add hpr
      rw [Nat.succ_mul]
      exact this
    obtain ⟨k3, k4, ih⟩ := pair_loop hf hg hM hN hr (a0 := a0) (a1 := a1) l (k + 1) (acc + f s * g s) (some (.d (fr (f s)))) (some (.d (fr (g s)))) S hl ha2
    refine ⟨k3, k4, ?_⟩
    have s1 := hr.sl hN (hf s)
    have s2 := hr.sr hM (hg s)
    have s3 := hr.sum (by omega) ha
    have s4 := hr.sum (k := 1) (by omega) (by rw [Nat.one_mul]; exact hpr)
    have nn := hr.n
    rw [List.map_cons, forD_cons]
    have eg : gTp 2 (gsCons (gNm 3) (gsCons (gNm 4) gsNil)) (.d (.tuple [fr (f s), fr (g s)])) [a0, a1, some (.d (fr acc)), j3, j4] S = some [a0, a1, some (.d (fr acc)), some (.d (fr (f s))), some (.d (fr (g s)))] := rfl
    rw [eg]
    have eb : pairBody [a0, a1, some (.d (fr acc)), some (.d (fr (f s))), some (.d (fr (g s)))] S = .nx [a0, a1, some (.d (fr (acc + f s * g s))), some (.d (fr (f s))), some (.d (fr (g s)))] S := by
      unfold pairBody
      by_cases h1 : f s = 0
      · have z : acc + f s * g s = acc := by rw [h1]; grind
        rw [z]
        simp [r_is_nought, decide_eq_true h1]
      · by_cases h2 : g s = 0
        · have z : acc + f s * g s = acc := by rw [h2]; grind
          rw [z]
          simp [r_is_nought, decide_eq_false h1, decide_eq_true h2]
        · simp [r_is_nought, decide_eq_false h1, decide_eq_false h2, r_times s1 s2 S nn nn, r_plus s3 s4 S nn nn]
    dsimp only
    rw [eb]
    dsimp only
    rw [ih, sm]
    congr 5
    congr 1
    grind
/-- pairing(flat(f), flat(g)) -/
theorem pair_flat {cs : List Nat} (hs : cs.sum ≤ 30) {f g : Load} {D M E N n : Nat} (hf : ∀ s, Bd D M (f s)) (hg : ∀ s, Bd E N (g s)) (hM : 0 < M) (hN : 0 < N) (hr : Rmp D M E N n) (S : Sto) : ∃ T1 T2 T3,
    R_flat [.d (ldD cs f)] S = .ok (.o S.length) (S ++ T1) ∧ R_flat [.d (ldD cs g)] (S ++ T1) = .ok (.o (S ++ T1).length) (S ++ T2) ∧ R_pairing [.o S.length, .o (S ++ T1).length] (S ++ T2) = .ok (.d (fr (sm (fun s => f s * g s) (cells cs)))) (S ++ T3) := by
  obtain ⟨T1, e1⟩ := r_flat hs f S
  obtain ⟨T2, e2⟩ := r_flat hs g (S ++ .lst (flW cs f) :: T1)
  have i1 : itemsOf (.o S.length) (S ++ .lst (flW cs f) :: T1 ++ .lst (flW cs g) :: T2) = some ((cells cs).map fun s => fr (f s), S ++ .fz (.list ((cells cs).map fun s => fr (f s))) :: (T1 ++ .lst (flW cs g) :: T2)) := by
    have e : (S ++ .lst (flW cs f) :: T1 ++ .lst (flW cs g) :: T2) = S ++ .lst (flW cs f) :: (T1 ++ .lst (flW cs g) :: T2) := by simp
    unfold itemsOf
    rw [e]
    have : frz 6 (.o S.length) (S ++ .lst (flW cs f) :: (T1 ++ .lst (flW cs g) :: T2)) = some (.list ((cells cs).map fun s => fr (f s)), S ++ .fz (.list ((cells cs).map fun s => fr (f s))) :: (T1 ++ .lst (flW cs g) :: T2)) := by
      unfold frz
      simp only [get_len_app]
      unfold flW
      simp only [frzL_ds, set_len_app]
    rw [this]
  have i2 : itemsOf (.o (S ++ .lst (flW cs f) :: T1).length) (S ++ .fz (.list ((cells cs).map fun s => fr (f s))) :: (T1 ++ .lst (flW cs g) :: T2)) = some ((cells cs).map fun s => fr (g s), S ++ .fz (.list ((cells cs).map fun s => fr (f s))) :: (T1 ++ .fz (.list ((cells cs).map fun s => fr (g s))) :: T2)) := by
    have e : (S ++ .lst (flW cs f) :: T1).length = (S ++ .fz (.list ((cells cs).map fun s => fr (f s))) :: T1).length := by simp
    have e' : S ++ .fz (.list ((cells cs).map fun s => fr (f s))) :: (T1 ++ .lst (flW cs g) :: T2) = (S ++ .fz (.list ((cells cs).map fun s => fr (f s))) :: T1) ++ .lst (flW cs g) :: T2 := by simp
    unfold itemsOf
    rw [e, e']
    have e3 : S ++ .fz (.list ((cells cs).map fun s => fr (f s))) :: (T1 ++ .fz (.list ((cells cs).map fun s => fr (g s))) :: T2) = (S ++ .fz (.list ((cells cs).map fun s => fr (f s))) :: T1) ++ .fz (.list ((cells cs).map fun s => fr (g s))) :: T2 := by simp
    rw [e3]
    generalize S ++ .fz (.list ((cells cs).map fun s => fr (f s))) :: T1 = U
    have : frz 6 (.o U.length) (U ++ .lst (flW cs g) :: T2) = some (.list ((cells cs).map fun s => fr (g s)), U ++ .fz (.list ((cells cs).map fun s => fr (g s))) :: T2) := by
      unfold frz
      simp only [get_len_app]
      unfold flW
      simp only [frzL_ds, set_len_app]
    rw [this]
  have hl := cells_len (cs := cs)
  obtain ⟨k3, k4, e3⟩ := pair_loop hf hg hM hN hr (a0 := some (.o S.length)) (a1 := some (.o (S ++ .lst (flW cs f) :: T1).length)) (cells cs) 0 0 none none (S ++ .fz (.list ((cells cs).map fun s => fr (f s))) :: (T1 ++ .fz (.list ((cells cs).map fun s => fr (g s))) :: T2)) (by omega) Bd.zero
  refine ⟨.lst (flW cs f) :: T1, .lst (flW cs f) :: (T1 ++ .lst (flW cs g) :: T2), .fz (.list ((cells cs).map fun s => fr (f s))) :: (T1 ++ .fz (.list ((cells cs).map fun s => fr (g s))) :: T2), e1, by rw [e2]; simp, ?_⟩
  have e0 : (S ++ .lst (flW cs f) :: T1 ++ .lst (flW cs g) :: T2) = S ++ .lst (flW cs f) :: (T1 ++ .lst (flW cs g) :: T2) := by simp
  rw [e0] at i1
  rw [Rat.zero_add] at e3
  unfold pairBody at e3
  unfold R_pairing runB B_pairing
  simp only [startR, List.map_cons, List.map_nil, List.length_cons, List.length_nil, Nat.zero_add, Nat.reduceAdd, Nat.reduceSub, List.replicate, List.cons_append, List.nil_append, st_seq, st_set, ev_c, fl_ok, List.set_cons_zero, List.set_cons_succ, st_for, fr0]
  rw [z2_ev]
  simp only [ev_var, List.getElem?_cons_zero, List.getElem?_cons_succ, bind_ok, i1, ofO_some, i2, zip2_map, fl_ok, e3, st_ret]
end G
set_option Elab.async false
set_option linter.all false
set_option maxRecDepth 100000
set_option maxHeartbeats 4000000
/-! K1: lists in lists: what they say, how they are frozen -/
namespace G
open PySem PySem.Spec L2 PyProof.Rows
set_option autoImplicit false
theorem pre_of {S U : Sto} (hl : S.length ≤ U.length) (h : ∀ i, i < S.length → U[i]? = S[i]?) : ∃ T, U = S ++ T := by
  refine ⟨U.drop S.length, ?_⟩
  apply List.ext_getElem?
  intro i
  by_cases hi : i < S.length
  · rw [List.getElem?_append_left hi, h i hi]
  · rw [List.getElem?_append_right (by omega), List.getElem?_drop]
    congr 1
    omega
/-- what x says in the store -/
def Den (S : Sto) : Nat → W → PyData → Prop
  | _, .d x, y => x = y
  | 0, _, _ => False
  | k + 1, .o n, y => S[n]? = some (.fz y) ∨ ∃ ws ds, S[n]? = some (.lst ws) ∧ y = .list ds ∧ Paired (Den S k) ws ds
  | _ + 1, _, _ => False
/-- .. and all open lists that it reaches are such as p allows -/
def Lay (S : Sto) (p : Nat → Prop) : Nat → W → PyData → Prop
  | _, .d x, y => x = y
  | 0, _, _ => False
  | k + 1, .o n, y => S[n]? = some (.fz y) ∨ ∃ ws ds, p n ∧ S[n]? = some (.lst ws) ∧ y = .list ds ∧ Paired (Lay S p k) ws ds
  | _ + 1, _, _ => False
theorem Paired.mem2 {α β : Type} {F G : α → β → Prop} (h : ∀ a b, F a b → G a b) {l : List α} {m : List β} (r : Paired F l m) : Paired G l m := Paired.imp h r
theorem Paired.det {α β : Type} {F G : α → β → Prop} (h : ∀ a b c, F a b → G a c → b = c) : ∀ {l : List α} {m n : List β}, Paired F l m → Paired G l n → m = n
  | _, _, _, .nil, .nil => rfl
  | _, _, _, .cons a r, .cons b s => by rw [h _ _ _ a b, Paired.det h r s]
theorem den_d (S : Sto) (k : Nat) (x : PyData) : Den S k (.d x) x := by cases k <;> exact rfl
theorem lay_d (S : Sto) (p : Nat → Prop) (k : Nat) (x : PyData) : Lay S p k (.d x) x := by cases k <;> exact rfl
theorem den_dd {S : Sto} {k : Nat} {x y : PyData} (h : Den S k (.d x) y) : x = y := by cases k <;> exact h
theorem lay_dd {S : Sto} {p : Nat → Prop} {k : Nat} {x y : PyData} (h : Lay S p k (.d x) y) : x = y := by cases k <;> exact h
theorem Den.det {S : Sto} : ∀ (k j : Nat) (x : W) (d e : PyData), Den S k x d → Den S j x e → d = e
  | k, j, .d x, d, e, h, g => (den_dd h).symm.trans (den_dd g)
  | 0, _, .o n, _, _, h, _ => h.elim
  | k + 1, 0, .o n, _, _, _, g => g.elim
  | k + 1, j + 1, .o n, d, e, h, g => by
    rcases h with h | ⟨ws, ds, h1, rfl, h2⟩
    · rcases g with g | ⟨ws', ds', g1, rfl, g2⟩
      · rw [h] at g
        cases g
        rfl
      · rw [h] at g1
        cases g1
    · rcases g with g | ⟨ws', ds', g1, rfl, g2⟩
      · rw [h1] at g
        cases g
      · rw [h1] at g1
        cases g1
        rw [Paired.det (fun a b c x y => Den.det k j a b c x y) h2 g2]
  | 0, _, .v _, _, _, h, _ => h.elim
  | _ + 1, _, .v _, _, _, h, _ => h.elim
  | 0, _, .t _, _, _, h, _ => h.elim
  | 0, _, .u _, _, _, h, _ => h.elim
  | 0, _, .u2 _, _, _, h, _ => h.elim
  | _ + 1, _, .t _, _, _, h, _ => h.elim
  | _ + 1, _, .u _, _, _, h, _ => h.elim
  | _ + 1, _, .u2 _, _, _, h, _ => h.elim
theorem Lay.den {S : Sto} {p : Nat → Prop} : ∀ {k : Nat} {x : W} {d : PyData}, Lay S p k x d → Den S k x d
  | k, .d x, d, h => by rw [← lay_dd h]; exact den_d S k x
  | 0, .o n, _, h => h.elim
  | k + 1, .o n, d, h => by
    rcases h with h | ⟨ws, ds, _, h1, h2, h3⟩
    · exact .inl h
    · exact .inr ⟨ws, ds, h1, h2, Paired.imp (fun _ _ z => Lay.den z) h3⟩
  | 0, .v _, _, h => h.elim
  | _ + 1, .v _, _, h => h.elim
  | 0, .t _, _, h => h.elim
  | 0, .u _, _, h => h.elim
  | 0, .u2 _, _, h => h.elim
  | _ + 1, .t _, _, h => h.elim
  | _ + 1, .u _, _, h => h.elim
  | _ + 1, .u2 _, _, h => h.elim
theorem Lay.weak {S : Sto} {p q : Nat → Prop} (hpq : ∀ n, p n → q n) : ∀ {k : Nat} {x : W} {d : PyData}, Lay S p k x d → Lay S q k x d
  | k, .d x, d, h => by rw [← lay_dd h]; exact lay_d S q k x
  | 0, .o n, _, h => h.elim
  | k + 1, .o n, d, h => by
    rcases h with h | ⟨ws, ds, h0, h1, h2, h3⟩
    · exact .inl h
    · exact .inr ⟨ws, ds, hpq _ h0, h1, h2, Paired.imp (fun _ _ z => Lay.weak hpq z) h3⟩
  | 0, .v _, _, h => h.elim
  | _ + 1, .v _, _, h => h.elim
  | 0, .t _, _, h => h.elim
  | 0, .u _, _, h => h.elim
  | 0, .u2 _, _, h => h.elim
  | _ + 1, .t _, _, h => h.elim
  | _ + 1, .u _, _, h => h.elim
  | _ + 1, .u2 _, _, h => h.elim
theorem Lay.up {S : Sto} {p : Nat → Prop} : ∀ {k : Nat} {x : W} {d : PyData}, Lay S p k x d → Lay S p (k + 1) x d
  | k, .d x, d, h => by rw [← lay_dd h]; exact lay_d S p _ x
  | 0, .o n, _, h => h.elim
  | k + 1, .o n, d, h => by
    rcases h with h | ⟨ws, ds, h0, h1, h2, h3⟩
    · exact .inl h
    · exact .inr ⟨ws, ds, h0, h1, h2, Paired.imp (fun _ _ z => Lay.up z) h3⟩
  | 0, .v _, _, h => h.elim
  | _ + 1, .v _, _, h => h.elim
  | 0, .t _, _, h => h.elim
  | 0, .u _, _, h => h.elim
  | 0, .u2 _, _, h => h.elim
  | _ + 1, .t _, _, h => h.elim
  | _ + 1, .u _, _, h => h.elim
  | _ + 1, .u2 _, _, h => h.elim
theorem Lay.lt {S : Sto} {p : Nat → Prop} : ∀ {k : Nat} {x : W} {d : PyData}, Lay S p k x d → Lay S (fun m => p m ∧ m < S.length) k x d
  | k, .d x, d, h => by rw [← lay_dd h]; exact lay_d S _ k x
  | 0, .o n, _, h => h.elim
  | k + 1, .o n, d, h => by
    rcases h with h | ⟨ws, ds, h0, h1, h2, h3⟩
    · exact .inl h
    · exact .inr ⟨ws, ds, ⟨h0, (List.getElem?_eq_some_iff.mp h1).1⟩, h1, h2, Paired.imp (fun _ _ z => Lay.lt z) h3⟩
  | 0, .v _, _, h => h.elim
  | _ + 1, .v _, _, h => h.elim
  | 0, .t _, _, h => h.elim
  | 0, .u _, _, h => h.elim
  | 0, .u2 _, _, h => h.elim
  | _ + 1, .t _, _, h => h.elim
  | _ + 1, .u _, _, h => h.elim
  | _ + 1, .u2 _, _, h => h.elim
/-- the store has grown, lists that q allows may have been frozen as they said -/
structure Gr (q : Nat → Prop) (V V' : Sto) : Prop where
  len : V.length ≤ V'.length
  at_ : ∀ n, n < V.length → V'[n]? = V[n]? ∨ (q n ∧ ∃ ws y, V[n]? = some (.lst ws) ∧ V'[n]? = some (.fz y) ∧ ∀ k d, Den V k (.o n) d → d = y)
theorem Gr.refl (q : Nat → Prop) (V : Sto) : Gr q V V := ⟨Nat.le_refl _, fun _ _ => .inl rfl⟩
theorem Gr.app (q : Nat → Prop) (V T : Sto) : Gr q V (V ++ T) := ⟨by simp, fun n h => .inl (List.getElem?_append_left h)⟩
theorem Gr.fz {q : Nat → Prop} {V V' : Sto} (g : Gr q V V') {n : Nat} {y : PyData} (h : V[n]? = some (.fz y)) : V'[n]? = some (.fz y) := by
  rcases g.at_ n (List.getElem?_eq_some_iff.mp h).1 with e | ⟨_, ws, z, e, _⟩
  · rw [e]; exact h
  · rw [h] at e; cases e
theorem Den.mono {q : Nat → Prop} {V V' : Sto} (g : Gr q V V') : ∀ {k : Nat} {x : W} {d : PyData}, Den V k x d → Den V' k x d
  | k, .d x, d, h => by rw [← den_dd h]; exact den_d V' k x
  | 0, .o n, _, h => h.elim
  | k + 1, .o n, d, h => by
    rcases id h with h0 | ⟨ws, ds, h1, h2, h3⟩
    · exact .inl (g.fz h0)
    · rcases g.at_ n (List.getElem?_eq_some_iff.mp h1).1 with e | ⟨_, ws', y, e1, e2, e3⟩
      · exact .inr ⟨ws, ds, by rw [e]; exact h1, h2, Paired.imp (fun _ _ z => Den.mono g z) h3⟩
      · rw [e3 (k + 1) d h]
        exact .inl e2
  | 0, .v _, _, h => h.elim
  | _ + 1, .v _, _, h => h.elim
  | 0, .t _, _, h => h.elim
  | 0, .u _, _, h => h.elim
  | 0, .u2 _, _, h => h.elim
  | _ + 1, .t _, _, h => h.elim
  | _ + 1, .u _, _, h => h.elim
  | _ + 1, .u2 _, _, h => h.elim
theorem Lay.mono {q p : Nat → Prop} {V V' : Sto} (g : Gr q V V') : ∀ {k : Nat} {x : W} {d : PyData}, Lay V p k x d → Lay V' p k x d
  | k, .d x, d, h => by rw [← lay_dd h]; exact lay_d V' p k x
  | 0, .o n, _, h => h.elim
  | k + 1, .o n, d, h => by
    rcases id h with h0 | ⟨ws, ds, hp, h1, h2, h3⟩
    · exact .inl (g.fz h0)
    · rcases g.at_ n (List.getElem?_eq_some_iff.mp h1).1 with e | ⟨_, ws', y, e1, e2, e3⟩
      · exact .inr ⟨ws, ds, hp, by rw [e]; exact h1, h2, Paired.imp (fun _ _ z => Lay.mono g z) h3⟩
      · rw [e3 (k + 1) d (Lay.den h)]
        exact .inl e2
  | 0, .v _, _, h => h.elim
  | _ + 1, .v _, _, h => h.elim
  | 0, .t _, _, h => h.elim
  | 0, .u _, _, h => h.elim
  | 0, .u2 _, _, h => h.elim
  | _ + 1, .t _, _, h => h.elim
  | _ + 1, .u _, _, h => h.elim
  | _ + 1, .u2 _, _, h => h.elim
theorem Gr.trans {q : Nat → Prop} {U V X : Sto} (a : Gr q U V) (b : Gr q V X) : Gr q U X := by
  refine ⟨Nat.le_trans a.len b.len, fun n hn => ?_⟩
  rcases b.at_ n (Nat.lt_of_lt_of_le hn a.len) with e | ⟨hq, ws, y, e1, e2, e3⟩
  · rcases a.at_ n hn with e' | ⟨hq, ws, y, f1, f2, f3⟩
    · exact .inl (e.trans e')
    · exact .inr ⟨hq, ws, y, f1, by rw [e]; exact f2, f3⟩
  · rcases a.at_ n hn with e' | ⟨_, ws', y', f1, f2, f3⟩
    · exact .inr ⟨hq, ws, y, by rw [← e']; exact e1, e2, fun k d h => e3 k d (Den.mono a h)⟩
    · rw [f2] at e1; cases e1
theorem Gr.weak {p q : Nat → Prop} (h : ∀ n, p n → q n) {V V' : Sto} (g : Gr p V V') : Gr q V V' :=
  ⟨g.len, fun n hn => (g.at_ n hn).imp id fun ⟨a, b⟩ => ⟨h n a, b⟩⟩
/-- a cell beyond is written -/
theorem Gr.set {q : Nat → Prop} {V V' : Sto} (g : Gr q V V') {n : Nat} (h : V.length ≤ n) (c : Cell) : Gr q V (V'.set n c) :=
  ⟨by rw [List.length_set]; exact g.len, fun m hm => by rw [List.getElem?_set_ne (by omega)]; exact g.at_ m hm⟩
theorem Gr.keep {q : Nat → Prop} {V V' : Sto} (g : Gr q V V') {n : Nat} {c : Cell} (h : V[n]? = some c) (hq : ¬ q n) : V'[n]? = some c := by
  rcases g.at_ n (List.getElem?_eq_some_iff.mp h).1 with e | ⟨z, _⟩
  · rw [e]; exact h
  · exact absurd z hq
theorem Gr.pre {q : Nat → Prop} {S T V' : Sto} (g : Gr q (S ++ T) V') (h : ∀ n, q n → S.length ≤ n) : ∃ T', V' = S ++ T' := by
  refine pre_of (by have := g.len; simp at this; omega) fun i hi => ?_
  rcases g.at_ i (by simp; omega) with e | ⟨z, _⟩
  · rw [e, List.getElem?_append_left hi]
  · have := h i z; omega
/-- an open list that x does not reach is written -/
theorem Lay.set {V : Sto} {p : Nat → Prop} {n : Nat} {ws : List W} (hn : V[n]? = some (.lst ws)) (hp : ¬ p n) (c : Cell) : ∀ {k : Nat} {x : W} {d : PyData}, Lay V p k x d → Lay (V.set n c) p k x d
  | k, .d x, d, h => by rw [← lay_dd h]; exact lay_d _ p k x
  | 0, .o m, _, h => h.elim
  | k + 1, .o m, d, h => by
    rcases h with h0 | ⟨ws', ds, hq, h1, h2, h3⟩
    · refine .inl ?_
      rw [List.getElem?_set_ne]
      · exact h0
      · intro z
        rw [z, h0] at hn
        cases hn
    · refine .inr ⟨ws', ds, hq, ?_, h2, Paired.imp (fun _ _ z => Lay.set hn hp c z) h3⟩
      rw [List.getElem?_set_ne]
      · exact h1
      · intro z
        exact hp (z ▸ hq)
  | 0, .v _, _, h => h.elim
  | _ + 1, .v _, _, h => h.elim
  | 0, .t _, _, h => h.elim
  | 0, .u _, _, h => h.elim
  | 0, .u2 _, _, h => h.elim
  | _ + 1, .t _, _, h => h.elim
  | _ + 1, .u _, _, h => h.elim
  | _ + 1, .u2 _, _, h => h.elim
theorem frzL_lay {p : Nat → Prop} {k : Nat} (ih : ∀ (V : Sto) (x : W) (d : PyData), Lay V p k x d → ∃ V', frz k x V = some (d, V') ∧ Gr p V V') : ∀ (ws : List W) (ds : List PyData) (V : Sto), Paired (Lay V p k) ws ds → ∃ V', frzL (frz k) ws V = some (ds, V') ∧ Gr p V V'
  | [], _, V, h => by
    cases h
    exact ⟨V, rfl, Gr.refl p V⟩
  | w :: ws, _, V, h => by
    cases h with
    | cons h1 h2 =>
      obtain ⟨V1, e1, g1⟩ := ih V w _ h1
      obtain ⟨V2, e2, g2⟩ := frzL_lay ih ws _ V1 (Paired.imp (fun _ _ z => Lay.mono g1 z) h2)
      refine ⟨V2, ?_, g1.trans g2⟩
      unfold frzL
      simp only [e1, e2]
theorem frz_lay {p : Nat → Prop} : ∀ (k : Nat) (V : Sto) (x : W) (d : PyData), Lay V p k x d → ∃ V', frz k x V = some (d, V') ∧ Gr p V V'
  | k, V, .d x, d, h => by
    rw [← lay_dd h]
    exact ⟨V, frz_d k x V, Gr.refl p V⟩
  | 0, V, .o n, _, h => h.elim
  | k + 1, V, .o n, d, h => by
    rcases id h with h0 | ⟨ws, ds, hp, h1, rfl, h3⟩
    · refine ⟨V, ?_, Gr.refl p V⟩
      unfold frz
      simp only [h0]
    · obtain ⟨V1, e1, g1⟩ := frzL_lay (fun V x d => frz_lay k V x d) ws ds V h3
      have hn := (List.getElem?_eq_some_iff.mp h1).1
      refine ⟨V1.set n (.fz (.list ds)), ?_, ⟨by rw [List.length_set]; exact g1.len, fun m hm => ?_⟩⟩
      · unfold frz
        simp only [h1, e1]
      · by_cases hmn : n = m
        · subst hmn
          refine .inr ⟨hp, ws, .list ds, h1, List.getElem?_set_self (Nat.lt_of_lt_of_le hn g1.len), fun j e he => ?_⟩
          exact Den.det j (k + 1) (.o n) e (.list ds) he (Lay.den h)
        · rw [List.getElem?_set_ne hmn]
          exact g1.at_ m hm
  | 0, _, .v _, _, h => h.elim
  | _ + 1, _, .v _, _, h => h.elim
  | 0, _, .t _, _, h => h.elim
  | 0, _, .u _, _, h => h.elim
  | 0, _, .u2 _, _, h => h.elim
  | _ + 1, _, .t _, _, h => h.elim
  | _ + 1, _, .u _, _, h => h.elim
  | _ + 1, _, .u2 _, _, h => h.elim
theorem items_lay {p : Nat → Prop} {V : Sto} {x : W} {ds : List PyData} (h : Lay V p 6 x (.list ds)) : ∃ V', itemsOf x V = some (ds, V') ∧ Gr p V V' := by
  obtain ⟨V', e, g⟩ := frz_lay 6 V x _ h
  refine ⟨V', ?_, g⟩
  unfold itemsOf
  rw [e]
/-- a new open list of things that say ds -/
theorem lay_new {V T : Sto} {p : Nat → Prop} {ws : List W} {ds : List PyData} {k : Nat} (hp : p V.length) (h : Paired (Lay (V ++ .lst ws :: T) p k) ws ds) : Lay (V ++ .lst ws :: T) p (k + 1) (.o V.length) (.list ds) :=
  .inr ⟨ws, ds, hp, get_len_app _ _ _, rfl, h⟩
theorem lay_ds {V : Sto} {p : Nat → Prop} {k : Nat} : ∀ ds : List PyData, Paired (Lay V p k) (ds.map W.d) ds
  | [] => .nil
  | d :: ds => .cons (lay_d V p k d) (lay_ds ds)
/-! comprehensions whose items may be lists -/
theorem compD_lay {α : Type} {mk : α → PyData} {g0 : Gt} {e : Fe W} {n : Nat} {ρ : Slt} {y : α → PyData} {k : Nat} {p : Nat → Prop} {I : Sto → Prop} {V0 : Sto} (hn : n = V0.length) (hI : ∀ V V', I V → Gr (fun m => p m ∧ m ≠ n) V V' → I V') (hI2 : ∀ V c ws, V[n]? = some (.lst ws) → I V → I (V.set n c)) :
    ∀ (ds : List α) (V : Sto) (acc : List W) (ad : List PyData), (∀ d ∈ ds, ∃ ρ1, (∀ S, g0 (.d (mk d)) ρ S = some ρ1) ∧ ∀ V, I V → n < V.length → ∃ w V', e ρ1 V = .ok w V' ∧ Gr (fun m => p m ∧ m ≠ n) V V' ∧ Lay V' (fun m => p m ∧ m ≠ n) k w (y d)) →
      acc.length + ds.length ≤ 100000 → I V → V[n]? = some (.lst acc) → Paired (Lay V (fun m => p m ∧ m ≠ n) k) acc ad → Gr p V0 V →
      ∃ V' ws, compD g0 fYes e n (ds.map mk) ρ V = .ok () V' ∧ V'[n]? = some (.lst ws) ∧ Paired (Lay V' (fun m => p m ∧ m ≠ n) k) ws (ad ++ ds.map y) ∧ Gr p V0 V' ∧ I V'
  | [], V, acc, ad, h, hz, hv, hc, ha, hg => ⟨V, acc, rfl, hc, by simpa using ha, hg, hv⟩
  | d :: ds, V, acc, ad, h, hz, hv, hc, ha, hg => by
    obtain ⟨ρ1, h1, h2⟩ := h d (by simp)
    obtain ⟨w, V1, e1, g1, l1⟩ := h2 V hv (List.getElem?_eq_some_iff.mp hc).1
    have hc1 : V1[n]? = some (.lst acc) := g1.keep hc (fun z => z.2 rfl)
    have hnp : ¬ (fun m => p m ∧ m ≠ n) n := fun z => z.2 rfl
    have hl1 := (List.getElem?_eq_some_iff.mp hc1).1
    have a1 : Paired (Lay (V1.set n (.lst (acc ++ [w]))) (fun m => p m ∧ m ≠ n) k) (acc ++ [w]) (ad ++ [y d]) :=
      Paired.app (Paired.imp (fun _ _ z => Lay.set hc1 hnp _ (Lay.mono g1 z)) ha) (.cons (Lay.set hc1 hnp _ l1) .nil)
    have hz' : acc.length + 1 + ds.length ≤ 100000 := by simp at hz; omega
    obtain ⟨V', ws, e2, q1, q2, q3, q4⟩ := compD_lay (mk := mk) (g0 := g0) (e := e) (ρ := ρ) (y := y) (k := k) (p := p) (I := I) (V0 := V0) hn hI hI2 ds (V1.set n (.lst (acc ++ [w]))) (acc ++ [w]) (ad ++ [y d]) (fun x hx => h x (by simp [hx])) (by simp; omega) (hI2 V1 _ acc hc1 (hI V V1 hv g1)) (List.getElem?_set_self hl1) a1 ((hg.trans (g1.weak fun m z => z.1)).set (by omega) _)
    refine ⟨V', ws, ?_, q1, by simpa using q2, q3, q4⟩
    rw [List.map_cons]
    unfold compD
    rw [h1]
    simp only [fYes, bind_ok, if_true, e1, hc1]
    rw [if_pos (by unfold szOk; simp; omega)]
    exact e2
theorem fLc_lay {α : Type} {mk : α → PyData} {f : Fe (List PyData)} {g0 : Gt} {e : Fe W} {vs : List Nat} {ρ : Slt} {y : α → PyData} {k : Nat} {p : Nat → Prop} {I : Sto → Prop} {V V0 : Sto} {ds : List α} (hf : f ρ V = .ok (ds.map mk) V0) (hz : ds.length ≤ 100000) (hp : p V0.length)
    (hI : ∀ V V', I V → Gr (fun m => p m ∧ m ≠ V0.length) V V' → I V') (hI2 : ∀ V c ws, V[V0.length]? = some (.lst ws) → I V → I (V.set V0.length c)) (h0 : I V0)
    (h : ∀ d ∈ ds, ∃ ρ1, (∀ S, g0 (.d (mk d)) (wipeR ρ vs) S = some ρ1) ∧ ∀ V, I V → V0.length < V.length → ∃ w V', e ρ1 V = .ok w V' ∧ Gr (fun m => p m ∧ m ≠ V0.length) V V' ∧ Lay V' (fun m => p m ∧ m ≠ V0.length) k w (y d)) :
    ∃ V', fLc f g0 fYes e vs ρ V = .ok (.o V0.length) V' ∧ Lay V' p (k + 1) (.o V0.length) (.list (ds.map y)) ∧ Gr p V0 V' ∧ I V' := by
  obtain ⟨V', ws, e1, q1, q2, q3, q4⟩ := compD_lay (V0 := V0) rfl hI hI2 ds (V0 ++ [.lst []]) [] [] h (by simpa using hz) (hI V0 _ h0 (Gr.app _ V0 [.lst []])) (get_len_app _ _ []) .nil (Gr.app p V0 _)
  refine ⟨V', ?_, .inr ⟨ws, ds.map y, hp, q1, rfl, by simpa using Paired.imp (fun _ _ z => Lay.weak (fun m z => z.1) z) q2⟩, q3, q4⟩
  unfold fLc
  rw [hf]
  simp only [bind_ok, e1, noX_ok]
theorem Lay.six {V : Sto} {p : Nat → Prop} {x : W} {d : PyData} (h : Lay V p 1 x d) : Lay V p 6 x d := h.up.up.up.up.up
theorem Lay.six3 {V : Sto} {p : Nat → Prop} {x : W} {d : PyData} (h : Lay V p 3 x d) : Lay V p 6 x d := h.up.up.up
theorem gTuple_lay {V : Sto} {p : Nat → Prop} {n : Nat} {ds : List PyData} (h : Lay V p 6 (.o n) (.list ds)) : ∃ V', gTuple [.o n] V = some (.d (.tuple ds), V') ∧ Gr p V V' := by
  rcases h with h | ⟨ws, ds', hp, h1, h2, h3⟩
  · refine ⟨V, ?_, Gr.refl p V⟩
    show (match lstOf (.o n) V with | some ws => (match frzL (frz 6) ws V with | some (ds, S2) => some (W.d (.tuple ds), S2) | none => none) | none => none) = _
    have e : lstOf (.o n) V = some (ds.map W.d) := by
      unfold lstOf
      simp only [h]
    rw [e]
    simp only [frzL_ds]
  · cases h2
    obtain ⟨V', e, g⟩ := frzL_lay (k := 6) (fun V x d => frz_lay 6 V x d) ws ds V (Paired.imp (fun _ _ z => Lay.up z) h3)
    refine ⟨V', ?_, g⟩
    show (match lstOf (.o n) V with | some ws => (match frzL (frz 6) ws V with | some (ds, S2) => some (W.d (.tuple ds), S2) | none => none) | none => none) = _
    have e2 : lstOf (.o n) V = some ws := by
      unfold lstOf
      simp only [h1]
    rw [e2]
    simp only [e]
end G
set_option Elab.async false
set_option linter.all false
set_option maxRecDepth 100000
set_option maxHeartbeats 4000000
/-! K2: what may be shown; windows, looks -/
namespace G
open PySem PySem.Spec L2 PyProof.Rows
set_option autoImplicit false
/-! sizes of what is shown -/
structure Rp (w dep : Nat) (d : PyData) : Prop where
  s : d.showable = true
  n : d.hasDict = false
  l : d.leavesShort 198 = true
  w : d.weight ≤ w
  t : ∀ k, 200 ≤ k → k ∉ d.shown.cps.toList
  d : d.depth ≤ dep
theorem rp_int {i : Int} {n : Nat} (h : i.natAbs < 2 ^ n) (hn : n ≤ 190) : Rp n 0 (.int i) := by
  have hlog : i.natAbs.log2 < 190 ∧ (i ≠ 0 → i.natAbs.log2 + 1 ≤ n) := by
    by_cases h0 : i = 0
    · subst h0
      exact ⟨by decide, fun z => absurd rfl z⟩
    · have := (Nat.log2_lt (by omega : i.natAbs ≠ 0)).mpr h
      exact ⟨by omega, fun _ => by omega⟩
  refine ⟨?_, by simp only [PyData.hasDict], ?_, ?_, fun k hk => shown_int_free' (by omega) i, by simp [PyData.depth]⟩
  · simp only [PyData.showable, decide_eq_true_eq]
    have := hlog.1; omega
  · have e : (PyData.int i).shown.length = (toString i).length := by rw [PyData.shown_int]; exact PySem.ofString_length _
    have l : (PyData.int i).shown.length ≤ 198 := by
      rw [e]
      exact Nat.le_trans (PySem.int_text_length_le (k := 190) (by decide) hlog.1) (by decide)
    simp only [PyData.leavesShort, decide_eq_true_eq]
    exact l
  · simp only [PyData.weight]
    by_cases h0 : i = 0
    · simp [h0]
    · have e : (i == 0) = false := by simpa using h0
      rw [e, if_neg Bool.false_ne_true]
      exact hlog.2 h0
theorem rp_all {w dep : Nat} : ∀ {l : List PyData}, (∀ x ∈ l, Rp w dep x) → PyData.showableAll l = true ∧ PyData.hasDictAll l = false ∧ PyData.leavesShortAll 198 l = true ∧ PyData.weightAll l ≤ l.length * (w + 1) ∧ PyData.depthAll l ≤ dep
  | [], _ => ⟨by simp only [PyData.showableAll], by simp only [PyData.hasDictAll], by simp only [PyData.leavesShortAll], by simp [PyData.weightAll], by simp [PyData.depthAll]⟩
  | x :: l, h => by
    obtain ⟨h1, h2, h3, h4, h5⟩ := rp_all (l := l) fun y hy => h y (by simp [hy])
    have hx := h x (by simp)
    refine ⟨?_, ?_, ?_, ?_, ?_⟩
    · simp only [PyData.showableAll, hx.s, h1, Bool.and_self]
    · simp only [PyData.hasDictAll, hx.n, h2, Bool.or_self]
    · simp only [PyData.leavesShortAll, hx.l, h3, Bool.and_self]
    · simp only [PyData.weightAll, List.length_cons, Nat.succ_mul]
      have := hx.w
      omega
    · simp only [PyData.depthAll]
      have := hx.d
      omega
theorem tup_free {k : Nat} (hk : 200 ≤ k) {l : List PyData} (h : ∀ x ∈ l, k ∉ x.shown.cps.toList) : k ∉ (PyData.tuple l).shown.cps.toList := by
  rw [PyData.shown_tuple, ← PyData.shownAll_length l]
  intro hm
  rw [mem_cps_append, mem_cps_append, signs_lparen, mem_join, signs_tuple_end] at hm
  rcases hm with ((hm | (⟨t, ht, hc⟩ | ⟨hl, hm⟩)) | hm)
  · simp at hm; omega
  · exact shownAll_free h t ht hc
  · rw [signs_sep] at hm
    simp at hm; omega
  · split at hm
    · simp at hm; omega
    · simp at hm; omega
theorem rp_tup {w dep : Nat} {l : List PyData} (h : ∀ x ∈ l, Rp w dep x) : Rp (l.length * (w + 1)) (dep + 1) (.tuple l) := by
  obtain ⟨h1, h2, h3, h4, h5⟩ := rp_all h
  exact ⟨by simp only [PyData.showable, h1], by simp only [PyData.hasDict, h2], by simp only [PyData.leavesShort, h3], by simp only [PyData.weight]; exact h4, fun k hk => tup_free hk fun x hx => (h x hx).t k hk, by simp only [PyData.depth]; omega⟩
theorem Rp.mono {w w' dep dep' : Nat} {d : PyData} (h : Rp w dep d) (h1 : w ≤ w') (h2 : dep ≤ dep') : Rp w' dep' d := ⟨h.s, h.n, h.l, Nat.le_trans h.w h1, h.t, Nat.le_trans h.d h2⟩
theorem rp_fr {n : Nat} {q : Rat} (h : Sm n q) (hn : n ≤ 190) : Rp (2 * (n + 1)) 1 (fr q) := by
  have := rp_tup (l := [.int q.num, .int q.den]) (w := n) (dep := 0) (fun x hx => by
    simp only [List.mem_cons, List.not_mem_nil, or_false] at hx
    rcases hx with rfl | rfl
    · exact rp_int h.1 hn
    · exact rp_int (by rw [Int.natAbs_natCast]; exact h.2) hn)
  exact this
theorem repr_ok {w dep : Nat} {d : PyData} (h : Rp w dep d) (hb : isBox d = true) (hw : w ≤ 80000) (hd : dep ≤ 60) (S : Sto) : gRepr [.d d] S = some (.d (.str d.shown), S) := by
  have ok : reprOk d = true := by
    unfold reprOk
    simp only [h.s, h.n, h.l, Bool.not_false, Bool.true_and, Bool.and_eq_true, Bool.or_eq_true, decide_eq_true_eq]
    exact ⟨.inr (Nat.le_trans h.w hw), Nat.le_trans h.d hd⟩
  unfold gRepr
  simp only [view_d, hb, ok, Bool.and_self, if_true]
@[simp] theorem ev_repr (f : Fe (List W)) (ρ : Slt) (S : Sto) : fCB gRepr f ρ S = (f ρ S).bind fun xs S1 => ofO (gRepr xs S1) := id rfl
theorem Rp.ok {w dep : Nat} {d : PyData} (h : Rp w dep d) : SeqAt.shaped (.str d.shown) = true := by
  unfold SeqAt.shaped
  simp only [PyData.canLay0, PyData.strOk, PyData.depth, Nat.zero_le, decide_true, Bool.and_true]
  rw [Array.all_eq_true']
  intro x hx
  have := h.t x
  simp only [decide_eq_true_eq]
  by_cases h2 : 200 ≤ x
  · exact absurd (Array.mem_toList_iff.mpr hx) (this h2)
  · omega
theorem ne_str {a : Str} (ha : SeqAt.shaped (.str a) = true) (S : Sto) : dEq true (.d (.str a)) (.d (.str a)) S = some (.d (.bool false), S) := by
  rw [dEq_d true ha ha]
  have : PyData.eqv (.str a) (.str a) = true := by simp [PyData.eqv]
  rw [this]
  rfl
theorem rp_row {f : Load} {n : Nat} (hf : ∀ s, Sm n (f s)) (hn : n ≤ 190) (q : Nat × Nat) : Rp (q.1 * (2 * (n + 1) + 1)) 2 (rowD f q) := by
  have := rp_tup (l := (List.range q.1).map fun p => fr (f (q.2, p))) (w := 2 * (n + 1)) (dep := 1) (fun x hx => by
    obtain ⟨p, _, rfl⟩ := List.mem_map.mp hx
    exact rp_fr (hf _) hn)
  rw [List.length_map, List.length_range] at this
  exact this
theorem weightAll_sum : ∀ l : List PyData, ∀ (F : PyData → Nat), (∀ x ∈ l, x.weight ≤ F x) → PyData.weightAll l ≤ (l.map fun x => F x + 1).sum
  | [], F, _ => by simp [PyData.weightAll]
  | x :: l, F, h => by
    have h1 := weightAll_sum l F fun y hy => h y (by simp [hy])
    have h2 := h x (by simp)
    simp only [PyData.weightAll, List.map_cons, List.sum_cons]
    omega
theorem rp_ld {cs : List Nat} (hl : cs.length ≤ 16) (hs : cs.sum ≤ 30) {f : Load} {n : Nat} (hf : ∀ s, Sm n (f s)) (hn : n ≤ 60) : Rp 3800 3 (ldD cs f) := by
  obtain ⟨h1, h2, h3, _, h5⟩ := rp_all (l := cs.zipIdx.map (rowD f)) (w := 100000) (dep := 2) (fun x hx => by
    obtain ⟨q, hq, rfl⟩ := List.mem_map.mp hx
    refine (rp_row hf (by omega) q).mono ?_ (Nat.le_refl _)
    have hz := List.mem_zipIdx (x := q.1) (i := q.2) hq
    have hm : q.1 ∈ cs := by rw [hz.2.2]; exact List.getElem_mem _
    have hc : q.1 ≤ cs.sum := by
      have : ∀ l : List Nat, q.1 ∈ l → q.1 ≤ l.sum := fun l => by
        induction l with
        | nil => intro h; cases h
        | cons a l ih =>
          intro h
          rcases List.mem_cons.mp h with h | h
          · simp; omega
          · have := ih h; simp; omega
      exact this cs hm
    have : q.1 * (2 * (n + 1) + 1) ≤ 30 * 123 := Nat.mul_le_mul (by omega) (by omega)
    omega)
  refine ⟨by unfold ldD; simp only [PyData.showable, h1], by unfold ldD; simp only [PyData.hasDict, h2], by unfold ldD; simp only [PyData.leavesShort, h3], ?_, fun k hk => tup_free hk fun x hx => by
    obtain ⟨q, _, rfl⟩ := List.mem_map.mp hx
    exact (rp_row hf (by omega) q).t k hk, by unfold ldD; simp only [PyData.depth]; omega⟩
  have hw : ∀ zs : List (Nat × Nat), PyData.weightAll (zs.map (rowD f)) ≤ (zs.map (·.1)).sum * (2 * (n + 1) + 1) + zs.length := fun zs => by
    induction zs with
    | nil => simp [PyData.weightAll]
    | cons q zs ih =>
      have := (rp_row hf (by omega) q).w
      simp only [List.map_cons, PyData.weightAll, List.sum_cons, List.length_cons, Nat.add_mul]
      omega
  have := hw cs.zipIdx
  unfold ldD
  simp only [PyData.weight]
  have e : (cs.zipIdx.map (·.1)) = cs := by simp
  rw [e] at this
  have h2 : cs.sum * (2 * (n + 1) + 1) ≤ 30 * 123 := Nat.mul_le_mul hs (by omega)
  simp at this
  omega
theorem rp_m {m : Mach} (ok : Ok m) : Rp 800 4 (mD m) := by
  have h1 : Rp 200 4 (csD m.cs) := by
    have := rp_tup (l := m.cs.map fun c => PyData.int (c : Nat)) (w := 5) (dep := 0) (fun x hx => by
      obtain ⟨c, hc, rfl⟩ := List.mem_map.mp hx
      have := ok.few.one c hc
      exact rp_int (by rw [Int.natAbs_natCast]; omega) (by decide))
    have hl := ok.l16
    exact this.mono (by rw [List.length_map]; omega) (by decide)
  have hsp : ∀ s, okS m.cs s → Rp 12 1 (sD s) := fun s hs => by
    obtain ⟨c, q1, q2⟩ := hs
    have hc := ok.few.one c (List.mem_of_getElem? q1)
    have hi := (List.getElem?_eq_some_iff.mp q1).1
    have hl := ok.l16
    have := rp_tup (l := [.int (s.1 : Nat), .int (s.2 : Nat)]) (w := 5) (dep := 0) (fun x hx => by
      simp only [List.mem_cons, List.not_mem_nil, or_false] at hx
      rcases hx with rfl | rfl
      · exact rp_int (by rw [Int.natAbs_natCast]; omega) (by decide)
      · exact rp_int (by rw [Int.natAbs_natCast]; omega) (by decide))
    exact this
  have h2 : Rp 300 4 (tsD m.ts) := by
    have := rp_tup (l := m.ts.map tcD) (w := 26) (dep := 2) (fun x hx => by
      obtain ⟨t, ht, rfl⟩ := List.mem_map.mp hx
      have g := ok.good t ht
      have := rp_tup (l := [sD t.1, sD t.2]) (w := 12) (dep := 1) (fun x hx => by
        simp only [List.mem_cons, List.not_mem_nil, or_false] at hx
        rcases hx with rfl | rfl
        · exact hsp _ g.1
        · exact hsp _ g.2.1)
      exact this)
    have hl := ok.l8
    exact this.mono (by rw [List.length_map]; omega) (by decide)
  obtain ⟨a1, a2, a3, a4, a5⟩ := rp_all (l := [csD m.cs, tsD m.ts]) (w := 300) (dep := 4) (fun x hx => by
    simp only [List.mem_cons, List.not_mem_nil, or_false] at hx
    rcases hx with rfl | rfl
    · exact h1.mono (by decide) (Nat.le_refl _)
    · exact h2)
  have hc : (csD m.cs).depth ≤ 1 := by
    have := (rp_tup (l := m.cs.map fun c => PyData.int (c : Nat)) (w := 5) (dep := 0) (fun x hx => by
      obtain ⟨c, hc, rfl⟩ := List.mem_map.mp hx
      have := ok.few.one c hc
      exact rp_int (by rw [Int.natAbs_natCast]; omega) (by decide))).d
    exact this
  have ht : (tsD m.ts).depth ≤ 3 := by
    have := (rp_tup (l := m.ts.map tcD) (w := 26) (dep := 2) (fun x hx => by
      obtain ⟨t, ht, rfl⟩ := List.mem_map.mp hx
      have g := ok.good t ht
      have := rp_tup (l := [sD t.1, sD t.2]) (w := 12) (dep := 1) (fun x hx => by
        simp only [List.mem_cons, List.not_mem_nil, or_false] at hx
        rcases hx with rfl | rfl
        · exact hsp _ g.1
        · exact hsp _ g.2.1)
      exact this)).d
    exact this
  refine ⟨by unfold mD; simp only [PyData.showable, a1], by unfold mD; simp only [PyData.hasDict, a2], by unfold mD; simp only [PyData.leavesShort, a3], by unfold mD; simp only [PyData.weight]; simp at a4; omega, fun k hk => tup_free hk fun x hx => by
    simp only [List.mem_cons, List.not_mem_nil, or_false] at hx
    rcases hx with rfl | rfl
    · exact h1.t k hk
    · exact h2.t k hk, ?_⟩
  unfold mD
  simp only [PyData.depth, PyData.depthAll]
  omega
end G
set_option Elab.async false
set_option linter.all false
set_option maxRecDepth 100000
set_option maxHeartbeats 4000000
/-! K3: the law's shaped, flat, pairing -/
namespace G
open PySem PySem.Spec L2 PyProof.Rows
set_option autoImplicit false
/-- cuts of x are new lists of ds -/
def SqW (S : Sto) (x : W) (ds : List PyData) : Prop := ∀ (T : Sto) (lo hi : Option Int), gSl x lo hi (S ++ T) = some (.o (S ++ T).length, S ++ T ++ [.lst ((cutW ds lo hi).map W.d)])
theorem cutW_map {α β : Type} (f : α → β) (l : List α) (lo hi : Option Int) : cutW (l.map f) lo hi = (cutW l lo hi).map f := by
  unfold cutW
  simp only [List.length_map, List.map_drop, List.map_take]
theorem sqW_l (S : Sto) (ds : List PyData) : SqW S (.d (.list ds)) ds := fun T lo hi => by
  rw [sl_l, cutW_map]
theorem sqW_o {S : Sto} {a : Nat} {ds : List PyData} (h : S[a]? = some (.lst (ds.map W.d))) : SqW S (.o a) ds := fun T lo hi => by
  have e : lstOf (.o a) (S ++ T) = some (ds.map W.d) := by
    unfold lstOf
    dsimp only
    rw [List.getElem?_append_left (List.getElem?_eq_some_iff.mp h).1, h]
  show (match lstOf (.o a) (S ++ T) with | some ws => some (W.o (S ++ T).length, S ++ T ++ [Cell.lst (cutW ws lo hi)]) | none => none) = _
  rw [e]
  dsimp only
  rw [cutW_map]
theorem cut_mid (pre mid post : List PyData) : cutW (pre ++ (mid ++ post)) (some ((pre.length : Nat) : Int)) (some (((pre.length : Nat) : Int) + ((mid.length : Nat) : Int))) = mid := by
  have e : ((pre.length : Nat) : Int) + ((mid.length : Nat) : Int) = ((pre.length + mid.length : Nat) : Int) := by omega
  unfold cutW
  rw [e, HT.sIx_nat, HT.sIx_nat]
  have h1 : min pre.length (pre ++ (mid ++ post)).length = pre.length := by simp
  have h2 : min (pre.length + mid.length) (pre ++ (mid ++ post)).length = pre.length + mid.length := by simp
  rw [h1, h2, List.drop_left, Nat.add_sub_cancel_left, List.take_left]
theorem part_i {f : Fe W} {ρ : Slt} {S S' : Sto} {i : Int} (h : f ρ S = .ok (.d (.int i)) S') : fPart f ρ S = .ok (some i) S' := by
  unfold fPart
  rw [h]
  rfl
noncomputable def shBody : Fs := (fSeq (fExp (fMt gApp (fVar 2) (fCons (fCB gTuple (fCons (fSl (fVar 1) (fPart (fVar 3)) (fPart (fOp2 gAdd (fVar 3) (fVar 4)))) fNil)) fNil)))
  (fSet 3 (fOp2 gAdd (fVar 3) (fVar 4))))
def rowG (F : Spot → PyData) (q : Nat × Nat) : PyData := .tuple ((List.range q.1).map fun p => F (q.2, p))
theorem sh_loop {F : Spot → PyData} {S : Sto} {a0 : Option W} {x : W} : ∀ (zs : List (Nat × Nat)) (pre acc : List PyData) (T : Sto) (j : Option W), SqW S x (pre ++ (cellsZ zs).map F) → acc.length + zs.length ≤ 100 → ∃ T' k l,
    forD (gNm 4) shBody (zs.map fun q => .int (q.1 : Nat)) [a0, some x, some (.o S.length), some (.d (.int (pre.length : Nat))), j] (S ++ .lst (acc.map W.d) :: T) = .nx [a0, some x, some (.o S.length), k, l] (S ++ .lst ((acc ++ zs.map (rowG F)).map W.d) :: T')
  | [], pre, acc, T, j, hx, hl => ⟨T, _, j, by simp [forD_nil]; rfl⟩
  | q :: zs, pre, acc, T, j, hx, hl => by
    have hl' : acc.length + 1 + zs.length ≤ 100 := by simp at hl; omega
    obtain ⟨mid, hmid⟩ : ∃ mid : List PyData, mid = (List.range q.1).map fun p => F (q.2, p) := ⟨_, rfl⟩
    have hml : mid.length = q.1 := by rw [hmid]; simp
    have ec : (cellsZ (q :: zs)).map F = mid ++ (cellsZ zs).map F := by
      rw [hmid]
      unfold cellsZ
      simp [List.map_map, Function.comp_def]
    rw [ec] at hx
    have e1 := hx (.lst (acc.map W.d) :: T) (some ((pre.length : Nat) : Int)) (some (((pre.length : Nat) : Int) + ((mid.length : Nat) : Int)))
    rw [cut_mid, hml] at e1
    have e2 := gTuple_o (n := (S ++ .lst (acc.map W.d) :: T).length) (S := S ++ .lst (acc.map W.d) :: T ++ [.lst (mid.map W.d)]) (ds := mid) (get_len_app _ _ _)
    have ea := app_o (S := S) (ws := acc.map W.d) (T := T ++ [.lst (mid.map W.d)]) (.d (.tuple mid)) (by simp; omega)
    have eac : acc.map W.d ++ [W.d (.tuple mid)] = (acc ++ [PyData.tuple mid]).map W.d := by simp
    rw [eac] at ea
    have hx' : SqW S x (pre ++ mid ++ (cellsZ zs).map F) := by rw [List.append_assoc]; exact hx
    obtain ⟨T', k, l, e4⟩ := sh_loop (S := S) (a0 := a0) (x := x) zs (pre ++ mid) (acc ++ [.tuple mid]) (T ++ [.lst (mid.map W.d)]) (some (.d (.int (q.1 : Nat)))) hx' (by simp; omega)
    refine ⟨T', k, l, ?_⟩
    rw [List.map_cons, forD_cons, gt_nm]
    simp only [List.set_cons_zero, List.set_cons_succ]
    have p1 : ∀ S, fPart (fVar 3) [a0, some x, some (.o (S : Sto).length), some (.d (.int (pre.length : Nat))), some (.d (.int (q.1 : Nat)))] S = .ok (some ((pre.length : Nat) : Int)) S := fun S => part_i rfl
    have hlen : (((pre ++ mid).length : Nat) : Int) = ((pre.length : Nat) : Int) + ((q.1 : Nat) : Int) := by rw [List.length_append, hml]; omega
    rw [hlen] at e4
    have eb : shBody [a0, some x, some (.o S.length), some (.d (.int (pre.length : Nat))), some (.d (.int (q.1 : Nat)))] (S ++ .lst (acc.map W.d) :: T) = .nx [a0, some x, some (.o S.length), some (.d (.int (((pre.length : Nat) : Int) + ((q.1 : Nat) : Int)))), some (.d (.int (q.1 : Nat)))] (S ++ .lst ((acc ++ [PyData.tuple mid]).map W.d) :: (T ++ [.lst (mid.map W.d)])) := by
      unfold shBody
      rw [st_seq, st_exp, ev_mt]
      have q1 : ∀ S', fPart (fVar 3) [a0, some x, some (.o S.length), some (.d (.int (pre.length : Nat))), some (.d (.int (q.1 : Nat)))] S' = .ok (some ((pre.length : Nat) : Int)) S' := fun S' => part_i rfl
      have q2 : ∀ S', fPart (fOp2 gAdd (fVar 3) (fVar 4)) [a0, some x, some (.o S.length), some (.d (.int (pre.length : Nat))), some (.d (.int (q.1 : Nat)))] S' = .ok (some (((pre.length : Nat) : Int) + ((q.1 : Nat) : Int))) S' := fun S' => part_i rfl
      simp only [List.append_assoc, List.cons_append] at e1 e2 ea
      simp only [ev_var, List.getElem?_cons_zero, List.getElem?_cons_succ, bind_ok, hpl_o, Option.isSome_some, if_true, ev_cons, ev_cb, ev_sl, q1, q2, e1, ofO_some, ev_nil, e2, ea, fl_ok, st_set, ev_op2, add_int, List.set_cons_zero, List.set_cons_succ]
    rw [eb]
    dsimp only
    rw [e4]
    simp [rowG, hmid]
theorem rowG_fr (f : Load) (q : Nat × Nat) : rowG (fun s => fr (f s)) q = rowD f q := rfl
theorem shaped_ld {cs : List Nat} (f : Load) : PyData.tuple (cs.zipIdx.map (rowG fun s => fr (f s))) = ldD cs f := rfl
/-! flat -/
theorem fl_loop {f : Load} {S : Sto} {a0 : Option W} : ∀ (zs : List (Nat × Nat)) (acc : List PyData) (j : Option W), acc.length + (cellsZ zs).length ≤ 1000 → ∃ k,
    forD (gNm 2) (fExp (fMt gExt (fVar 1) (fCons (fVar 2) fNil))) (zs.map (rowD f)) [a0, some (.o S.length), j] (S ++ [.lst (acc.map W.d)]) = .nx [a0, some (.o S.length), k] (S ++ [.lst ((acc ++ (cellsZ zs).map fun s => fr (f s)).map W.d)])
  | [], acc, j, hl => ⟨j, by simp [forD_nil, cellsZ]⟩
  | q :: zs, acc, j, hl => by
    obtain ⟨mid, hmid⟩ : ∃ mid : List PyData, mid = (List.range q.1).map fun p => fr (f (q.2, p)) := ⟨_, rfl⟩
    have hr : rowD f q = .tuple mid := by rw [hmid]; rfl
    have ec : (cellsZ (q :: zs)).map (fun s => fr (f s)) = mid ++ (cellsZ zs).map fun s => fr (f s) := by
      rw [hmid]
      unfold cellsZ
      simp [List.map_map, Function.comp_def]
    have hlc : (cellsZ (q :: zs)).length = mid.length + (cellsZ zs).length := by
      have := congrArg List.length ec
      simpa using this
    have ee : gExt (.o S.length) [.d (.tuple mid)] (S ++ [.lst (acc.map W.d)]) = some (.d .none, S ++ [.lst ((acc ++ mid).map W.d)]) := by
      unfold gExt
      simp only [get_len_app]
      rw [if_pos (by unfold szOk; simp; omega)]
      simp
    obtain ⟨k, e1⟩ := fl_loop (f := f) (S := S) (a0 := a0) zs (acc ++ mid) (some (.d (.tuple mid))) (by simp; omega)
    refine ⟨k, ?_⟩
    rw [List.map_cons, forD_cons, gt_nm, hr]
    simp only [List.set_cons_zero, List.set_cons_succ]
    have hh : hpl (.o S.length) (S ++ [.lst (acc.map W.d)]) = some (acc.map W.d) := hpl_o
    rw [st_exp, ev_mt]
    simp only [ev_var, List.getElem?_cons_zero, List.getElem?_cons_succ, bind_ok, hh, Option.isSome_some, if_true, ev_cons, ev_nil, ee, ofO_some, fl_ok]
    rw [e1, ec]
    simp
theorem r_lflat {cs : List Nat} (hs : cs.sum ≤ 30) (f : Load) (S : Sto) : R__law_flat [.d (ldD cs f)] S = .ok (.o S.length) (S ++ [.lst (flW cs f)]) := by
  have hcl := cells_len (cs := cs)
  obtain ⟨k, e1⟩ := fl_loop (f := f) (S := S) (a0 := some (.d (ldD cs f))) cs.zipIdx [] none (by simp; unfold cells at hcl; omega)
  rw [List.nil_append, List.map_nil] at e1
  have eA : ∀ ρ : Slt, fLst fNil ρ S = .ok (.o S.length) (S ++ [Cell.lst []]) := fun ρ => rfl
  unfold R__law_flat runB B__law_flat
  simp only [startR, List.map_cons, List.map_nil, List.length_cons, List.length_nil, Nat.zero_add, Nat.reduceAdd, Nat.reduceSub, List.replicate, List.cons_append, List.nil_append, st_seq, st_set, eA, bind_ok, fl_ok, List.set_cons_zero, List.set_cons_succ, st_for, it_ev, ev_var, List.getElem?_cons_zero, List.getElem?_cons_succ, items_ld, ofO_some, e1, st_ret]
  rfl
/-! pairing -/
theorem lpair_loop {f g : Load} {D M E N n : Nat} (hf : ∀ s, Bd D M (f s)) (hg : ∀ s, Bd E N (g s)) (hM : 0 < M) (hN : 0 < N) (hr : Rmp D M E N n) {a0 a1 : Option W} : ∀ (l : List Spot) (k : Nat) (acc : Rat) (j3 j4 : Option W) (S : Sto), k + l.length ≤ 100 → Bd (D * E) (k * (M * N)) acc → ∃ k3 k4,
    forD (gTp 2 (gsCons (gNm 3) (gsCons (gNm 4) gsNil))) (fSet 2 (fCall 2 [] R__law_plus (fCons (fVar 2) (fCons (fCall 2 [] R__law_times (fCons (fVar 3) (fCons (fVar 4) fNil))) fNil)))) (l.map fun s => .tuple [fr (f s), fr (g s)]) [a0, a1, some (.d (fr acc)), j3, j4] S = .nx [a0, a1, some (.d (fr (acc + sm (fun s => f s * g s) l))), k3, k4] S
  | [], k, acc, j3, j4, S, hk, ha => ⟨j3, j4, by simp [forD_nil, sm, Rat.add_zero]⟩
  | s :: l, k, acc, j3, j4, S, hk, ha => by
    have hl : k + 1 + l.length ≤ 100 := by simp at hk; omega
    have hpr : Bd (D * E) (M * N) (f s * g s) := (hf s).mul (hg s)
    have ha2 : Bd (D * E) ((k + 1) * (M * N)) (acc + f s * g s) := by
      have := ha.add hpr
      rw [Nat.succ_mul]
      exact this
    obtain ⟨k3, k4, ih⟩ := lpair_loop hf hg hM hN hr (a0 := a0) (a1 := a1) l (k + 1) (acc + f s * g s) (some (.d (fr (f s)))) (some (.d (fr (g s)))) S hl ha2
    refine ⟨k3, k4, ?_⟩
    have s1 := hr.sl hN (hf s)
    have s2 := hr.sr hM (hg s)
    have s3 := hr.sum (by omega) ha
    have s4 := hr.sum (k := 1) (by omega) (by rw [Nat.one_mul]; exact hpr)
    have nn := hr.n
    rw [List.map_cons, forD_cons]
    have eg : gTp 2 (gsCons (gNm 3) (gsCons (gNm 4) gsNil)) (.d (.tuple [fr (f s), fr (g s)])) [a0, a1, some (.d (fr acc)), j3, j4] S = some [a0, a1, some (.d (fr acc)), some (.d (fr (f s))), some (.d (fr (g s)))] := rfl
    rw [eg]
    simp only [st_set, ev_call, ev_cons, ev_nil, ev_var, List.getElem?_cons_zero, List.getElem?_cons_succ, bind_ok, List.length_cons, List.length_nil, Nat.zero_add, Nat.reduceAdd, if_true, ofD_nil, List.append_nil, r__law_times s1 s2 S nn nn, r__law_plus s3 s4 S nn nn, fl_ok, List.set_cons_zero, List.set_cons_succ]
    rw [ih, sm]
    congr 5
    congr 1
    grind
theorem r_lpairing {f g : Load} {D M E N n : Nat} (hf : ∀ s, Bd D M (f s)) (hg : ∀ s, Bd E N (g s)) (hM : 0 < M) (hN : 0 < N) (hr : Rmp D M E N n) {l : List Spot} (hl : l.length ≤ 100) {x y : W} {S S1 S2 : Sto}
    (h1 : itemsOf x S = some (l.map fun s => fr (f s), S1)) (h2 : itemsOf y S1 = some (l.map fun s => fr (g s), S2)) : R__law_pairing [x, y] S = .ok (.d (fr (sm (fun s => f s * g s) l))) S2 := by
  obtain ⟨k3, k4, e⟩ := lpair_loop hf hg hM hN hr (a0 := some x) (a1 := some y) l 0 0 none none S2 (by omega) (by rw [Nat.zero_mul]; exact Bd.zero)
  have e0 : ∀ (ρ : Slt) (S : Sto), fTup (fCons (fC (.d (.int 0))) (fCons (fC (.d (.int 1))) fNil)) ρ S = .ok (.d (fr 0)) S := fun ρ S => rfl
  have ez := zip2_map l (fun s => fr (f s)) (fun s => fr (g s))
  unfold R__law_pairing runB B__law_pairing
  simp only [startR, List.map_cons, List.map_nil, List.length_cons, List.length_nil, Nat.zero_add, Nat.reduceAdd, Nat.reduceSub, List.replicate, List.cons_append, List.nil_append, st_seq, st_set, e0, fl_ok, List.set_cons_zero, List.set_cons_succ, st_for, z2_ev, ev_var, List.getElem?_cons_zero, List.getElem?_cons_succ, bind_ok, h1, h2, ofO_some, ez, e, st_ret]
  simp [Rat.zero_add]
end G
set_option Elab.async false
set_option linter.all false
set_option maxRecDepth 100000
set_option maxHeartbeats 4000000
/-! K6: a machine with touches, a window drawn -/
namespace G
open PySem PySem.Spec L2 PyProof.Rows
set_option autoImplicit false
theorem StA.up {n b c : Nat} {S : Sto} (h : StA n b S) (l : b ≤ c) : StA n c S := by
  obtain ⟨x, y, t, e, h1, h2⟩ := h
  exact ⟨x, y, t, e, h1, by omega⟩
theorem pl_s (s : Spot) : Pl 1 (sD s) := pl_tup fun x hx => by
  simp only [List.mem_cons, List.not_mem_nil, or_false] at hx
  rcases hx with rfl | rfl <;> exact pl_int _
theorem pl_tc (t : Tch) : Pl 2 (tcD t) := pl_tup fun x hx => by
  simp only [List.mem_cons, List.not_mem_nil, or_false] at hx
  rcases hx with rfl | rfl <;> exact pl_s _
theorem pl_ts (ts : List Tch) : Pl 3 (tsD ts) := pl_tup fun x hx => by
  obtain ⟨t, _, rfl⟩ := List.mem_map.mp hx
  exact pl_tc t
theorem some_ts (ts : List Tch) (S : Sto) : dEq true (.d (tsD ts)) (.d (.tuple [])) S = some (.d (.bool (!decide (ts = []))), S) := by
  rw [dEq_d true ((pl_ts ts).shp (by decide)) rfl]
  cases ts with
  | nil => rfl
  | cons t ts => rfl
def m2 (a b : Nat) : Mach := ⟨[2, 3], [((0, a), (1, b))]⟩
theorem m2_ok {a b : Nat} (ha : a < 2) (hb : b < 3) : Ok (m2 a b) := by
  refine ⟨by simp [m2], by simp [m2], fun c hc => ?_, by simp [m2], by simp [m2], fun t' ht' => ?_, by simp [m2], ?_⟩
  · simp only [m2, List.mem_cons, List.not_mem_nil, or_false] at hc
    rcases hc with rfl | rfl <;> decide
  · have e : t' = ((0, a), (1, b)) := by simpa [m2] using ht'
    subst e
    exact ⟨⟨2, rfl, ha⟩, ⟨3, rfl, hb⟩, .inl (show (0 : Nat) < 1 by decide)⟩
  · show (spotsOf [((0, a), (1, b))]).Nodup
    simp [spotsOf]
theorem fTup_d1 (f : Fe W) (ρ : Slt) (S : Sto) : fTup (fCons f fNil) ρ S = (f ρ S).bind fun x S1 => match fzT [x] S1 with | some (d, S2) => .ok (.d d) S2 | none => .bad := by
  unfold fTup
  simp only [ev_cons, ev_nil, Out.bind]
  cases f ρ S <;> rfl
theorem fzT_d1 (a : PyData) (S : Sto) : fzT [.d a] S = some (.tuple [a], S) := rfl
theorem r_touching {n b : Nat} {S : Sto} (h : StA n b S) (hb : b + 150 ≤ 2 ^ 40) : ∃ (m : Mach) (S' : Sto), R__law_touching [.o n, .d (.int 10)] S = .ok (.d (mD m)) S' ∧ Ok m ∧ m.ts ≠ [] ∧ StA n (b + 148) S' := by
  obtain ⟨m, S1, e1, ok, _, s1, _⟩ := r_machine h (by omega) (most := 10) (by decide) (by decide)
  have e1' : R__law_machine [.o n, .d (.int 10)] S = .ok (.d (mD m)) S1 := e1
  have eN : ∀ (ρ : Slt) (S : Sto), fTup fNil ρ S = .ok (.d (.tuple [])) S := fun ρ S => rfl
  by_cases hz : m.ts = []
  · obtain ⟨x, S2, e2, x0, x1, s2, _⟩ := r_digit s1 (by omega) (z := 2) (by decide) (by decide)
    obtain ⟨y, S3, e3, y0, y1, s3, _⟩ := r_digit s2 (by omega) (z := 3) (by decide) (by decide)
    obtain ⟨a, rfl⟩ : ∃ a : Nat, x = a := ⟨x.toNat, by omega⟩
    obtain ⟨c, rfl⟩ : ∃ c : Nat, y = c := ⟨y.toNat, by omega⟩
    refine ⟨m2 a c, S3, ?_, m2_ok (by omega) (by omega), by simp [m2], s3⟩
    unfold R__law_touching runB B__law_touching
    simp only [startR, List.map_cons, List.map_nil, List.length_cons, List.length_nil, Nat.zero_add, Nat.reduceAdd, Nat.reduceSub, List.replicate, List.cons_append, List.nil_append, st_seq, st_set, ev_call, ev_cons, ev_nil, ev_var, List.getElem?_cons_zero, List.getElem?_cons_succ, bind_ok, if_true, ofD_nil, List.append_nil, e1', fl_ok, List.set_cons_zero, List.set_cons_succ, st_if, ev_tru, ev_op2, ev_c, ix_m1, ofO_some, eN, some_ts, decide_eq_true hz, Bool.not_true, truth_b, Option.map_some, Bool.false_eq_true, if_false, st_skip, st_ret, fTup_d2, fTup_d1, fzT_d2, fzT_d1, e2, e3]
    rfl
  · refine ⟨m, S1, ?_, ok, hz, s1.up (by omega)⟩
    unfold R__law_touching runB B__law_touching
    simp only [startR, List.map_cons, List.map_nil, List.length_cons, List.length_nil, Nat.zero_add, Nat.reduceAdd, Nat.reduceSub, List.replicate, List.cons_append, List.nil_append, st_seq, st_set, ev_call, ev_cons, ev_nil, ev_var, List.getElem?_cons_zero, List.getElem?_cons_succ, bind_ok, if_true, ofD_nil, List.append_nil, e1', fl_ok, List.set_cons_zero, List.set_cons_succ, st_if, ev_tru, ev_op2, ev_c, ix_m1, ofO_some, eN, some_ts, decide_eq_false hz, Bool.not_false, truth_b, Option.map_some, st_ret]
/-! the window -/
end G
set_option Elab.async false
set_option linter.all false
set_option maxRecDepth 100000
set_option maxHeartbeats 4000000
/-! Q1: the mirror, known; the number of a touch by it -/
namespace G
open PySem PySem.Spec L2 PyProof.Rows
set_option autoImplicit false
theorem ltT_irr (a : Tch) : ¬ ltT a a := fun h => by rcases h with h | ⟨_, h⟩ <;> exact ltS_irr _ h
theorem ltT_asym {a b : Tch} (h : ltT a b) (h2 : ltT b a) : False := by
  rw [ltT_iff] at h h2
  omega
theorem sorted_one : ∀ {us vs : List Tch}, us.Pairwise ltT → vs.Pairwise ltT → us.Perm vs → us = vs
  | [], vs, _, _, h => h.nil_eq
  | u :: us, [], _, _, h => by simpa using h.length_eq
  | u :: us, v :: vs, h1, h2, h => by
    have h1' := List.pairwise_cons.mp h1
    have h2' := List.pairwise_cons.mp h2
    have e : u = v := by
      rcases List.mem_cons.mp (h.mem_iff.mp (List.mem_cons_self (a := u))) with e | m1
      · exact e
      rcases List.mem_cons.mp (h.mem_iff.mpr (List.mem_cons_self (a := v))) with e | m2
      · exact e.symm
      exact (ltT_asym (h1'.1 v m2) (h2'.1 u m1)).elim
    subst e
    rw [sorted_one h1'.2 h2'.2 ((List.perm_cons u).mp h)]
theorem Mir.one {m m' m'' : Mach} (h : Mir m m') (h2 : Mir m m'') : m' = m'' := by
  obtain ⟨cs, ts⟩ := m'
  obtain ⟨cs2, ts2⟩ := m''
  obtain rfl : cs = m.cs := h.cs
  obtain rfl : cs2 = m.cs := h2.cs
  rw [show ts = ts2 from sorted_one h.ok.srt h2.ok.srt (h.ts.trans h2.ts.symm)]
theorem ltS_trans {a b c : Spot} (h : ltS a b) (h2 : ltS b c) : ltS a c := by
  unfold ltS at h h2 ⊢
  omega
theorem mkT_eq {t : Tch} (h : ltS t.1 t.2) : mkT t.1 t.2 = t := by
  unfold mkT
  rw [if_neg fun z => ltS_irr t.1 (ltS_trans h z)]
theorem mir_mem {m : Mach} (ok : Ok m) : ∀ t ∈ m.ts, okS m.cs t.1 ∧ okS m.cs t.2 ∧ flp 1 m.cs t.1 ≠ flp 1 m.cs t.2 := fun t ht => by
  have g := ok.good t ht
  refine ⟨g.1, g.2.1, fun z => ?_⟩
  have := g.2.2
  rw [flp_inj g.1 g.2.1 z] at this
  exact ltS_irr _ this
theorem mkT_comm {a b : Spot} (h : a ≠ b) : mkT a b = mkT b a := by
  unfold mkT
  by_cases h1 : ltS b a
  · rw [if_pos h1, if_neg fun z => ltS_irr a (ltS_trans z h1)]
  · rw [if_neg h1]
    by_cases h2 : ltS a b
    · rw [if_pos h2]
    · exact absurd (show a = b by
        unfold ltS at h1 h2
        ext <;> omega) h
theorem mir_mir {m : Mach} (ok : Ok m) {t : Tch} (ht : t ∈ m.ts) : mirT m.cs (mirT m.cs t) = t := by
  obtain ⟨h1, h2, h3⟩ := mir_mem ok t ht
  have g := ok.good t ht
  have e : mkT t.1 t.2 = t := mkT_eq g.2.2
  have ne : t.1 ≠ t.2 := fun z => h3 (by rw [z])
  have k : ∀ s, (mkT (flp 1 m.cs t.1) (flp 1 m.cs t.2)) = s → mkT (flp 1 m.cs s.1) (flp 1 m.cs s.2) = t := fun s hs => by
    unfold mkT at hs
    split at hs
    · subst hs
      show mkT (flp 1 m.cs (flp 1 m.cs t.2)) (flp 1 m.cs (flp 1 m.cs t.1)) = t
      rw [flp_flp h1, flp_flp h2, mkT_comm fun z => ne z.symm, e]
    · subst hs
      show mkT (flp 1 m.cs (flp 1 m.cs t.1)) (flp 1 m.cs (flp 1 m.cs t.2)) = t
      rw [flp_flp h1, flp_flp h2, e]
  exact k _ rfl
theorem Mir.symm {m m' : Mach} (ok : Ok m) (h : Mir m m') : Mir m' m := by
  refine ⟨ok, h.cs.symm, ?_⟩
  have e : (m.ts.map (mirT m.cs)).map (mirT m.cs) = m.ts := by
    rw [List.map_map]
    conv => rhs; rw [← List.map_id m.ts]
    exact List.map_congr_left fun t ht => mir_mir ok ht
  rw [h.cs]
  have := h.ts.map (mirT m.cs)
  rw [e] at this
  exact this.symm
theorem mir_touches {m : Mach} (ok : Ok m) : (spotsOf (m.ts.map (mirT m.cs))).Nodup ∧ (m.ts.map (mirT m.cs)).Nodup := by
  have hsp : ∀ l : List Tch, (spotsOf (l.map (mirT m.cs))).Perm ((spotsOf l).map (flp 1 m.cs)) := fun l => by
    induction l with
    | nil => exact List.Perm.refl _
    | cons t l ih => exact (mkT_perm _ _).append ih
  have hspok : ∀ s ∈ spotsOf m.ts, okS m.cs s := fun s hs => (cells_mem _ s).mp (spots_in ok s hs)
  have hnd0 : ((spotsOf m.ts).map (flp 1 m.cs)).Nodup := by
    rw [List.Nodup, List.pairwise_map]
    refine List.Pairwise.imp_of_mem ?_ ok.nd
    intro x y hx hy hne z
    exact hne (flp_inj (hspok x hx) (hspok y hy) z)
  have hnd : (spotsOf (m.ts.map (mirT m.cs))).Nodup := (hsp m.ts).nodup_iff.mpr hnd0
  refine ⟨hnd, ?_⟩
  have : ∀ l : List Tch, (spotsOf l).Nodup → l.Nodup := fun l => by
    induction l with
    | nil => intro _; exact List.nodup_nil
    | cons t l ih =>
      intro hl
      have e : spotsOf (t :: l) = t.1 :: ([t.2] ++ spotsOf l) := rfl
      rw [e, List.nodup_cons] at hl
      rw [List.nodup_cons]
      exact ⟨fun z => hl.1 (by simp [(spotsOf_mem l t z).1]), ih (List.nodup_append.mp hl.2).2.1⟩
  exact this _ hnd
theorem mir_ex {m : Mach} (ok : Ok m) : ∃ m', Mir m m' ∧ srt ((m.ts.map (mirT m.cs)).map tcD) = m'.ts.map tcD := by
  obtain ⟨hnd, htn⟩ := mir_touches ok
  obtain ⟨us, q1, q2, q3⟩ := srt_t (m.ts.map (mirT m.cs)) htn
  have hl8 : us.length ≤ 8 := by rw [q2.length_eq, List.length_map]; exact ok.l8
  refine ⟨⟨m.cs, us⟩, ⟨⟨ok.ne, ok.l16, ok.pos, ok.s30, hl8, fun t' ht' => ?_, q3, (List.Perm.flatMap_right _ q2).nodup_iff.mpr hnd⟩, rfl, q2⟩, q1⟩
  obtain ⟨t, ht, rfl⟩ := List.mem_map.mp (q2.mem_iff.mp ht')
  obtain ⟨g1, g2, g3⟩ := mir_mem ok t ht
  have k1 := flp_ok (a := 1) g1
  have k2 := flp_ok (a := 1) g2
  refine ⟨?_, ?_, mkT_lt _ _ g3⟩
  · show okS m.cs (mkT _ _).1
    unfold mkT
    split <;> assumption
  · show okS m.cs (mkT _ _).2
    unfold mkT
    split <;> assumption
theorem mir_srt {m m' : Mach} (ok : Ok m) (h : Mir m m') : srt ((m.ts.map (mirT m.cs)).map tcD) = m'.ts.map tcD := by
  obtain ⟨m'', h2, e⟩ := mir_ex ok
  rw [h.one h2]
  exact e
/-! ### the runs -/
@[simp] theorem ev_tupU (f : Fe (List W)) (ρ : Slt) (S : Sto) : fCB gTupU f ρ S = (f ρ S).bind fun xs S1 => ofO (gTupU xs S1) := id rfl
theorem gTupU_o {n : Nat} {S : Sto} {ds : List PyData} (h : S[n]? = some (.lst (ds.map W.d))) : gTupU [.o n] S = some (.u (.tuple ds), S) := by
  have e : lstOf (.o n) S = some (ds.map W.d) := by
    unfold lstOf
    simp only [h]
  unfold gTupU
  simp only [e, frzL_ds]
theorem pairU_ev (f g : Fe W) (ρ : Slt) (S : Sto) : fPairU (fCons f (fCons g fNil)) ρ S = (f ρ S).bind fun x S1 => (g ρ S1).bind fun y S2 => match x, y with | .d x, .u y => .ok (.u2 (.tuple [x, y])) S2 | _, _ => .bad := by
  unfold fPairU
  simp only [ev_cons, ev_nil, Out.bind]
  cases f ρ S with
  | ok x S1 =>
    dsimp only
    cases g ρ S1 with
    | ok y S2 => dsimp only; cases x <;> cases y <;> rfl
    | ex e S2 => rfl
    | bad => rfl
  | ex e S1 => rfl
  | bad => rfl
theorem r_own_mirror {m m' : Mach} (ok : Ok m) (h : Mir m m') (S : Sto) : Pu (R_own_mirror [.d (mD m)] S) S (.u2 (mD m')) := by
  have ml := ok.l8
  obtain ⟨T, e⟩ := fLc_ok (f := fIt (fVar 2)) (g := gNm 3) (e := fCall 2 [] R_mirror_pair (fCons (fVar 1) (fCons (fVar 3) fNil))) (vs := [3]) (ρ := [some (.d (mD m)), some (.d (csD m.cs)), some (.d (tsD m.ts)), none]) (S := S) (T0 := []) (ds := m.ts) (mk := tcD) (fun t => .d (tcD (mirT m.cs t)))
    (by simp) (by omega) (fun t ht => ⟨_, fun S => rfl, fun S => by
      obtain ⟨T, e⟩ := r_mirror_pair (mir_mem ok t ht).1 (mir_mem ok t ht).2.1 S
      exact ⟨T, by simp [wipeR, e]⟩⟩)
  rw [List.append_nil] at e
  have ew : m.ts.map (fun t => W.d (tcD (mirT m.cs t))) = ((m.ts.map (mirT m.cs)).map tcD).map W.d := by simp [List.map_map, Function.comp_def]
  rw [ew] at e
  have e2 := gSort_o (n := S.length) (S := S ++ .lst (((m.ts.map (mirT m.cs)).map tcD).map W.d) :: T) (get_len_app _ _ _) (sortOk_t _ (by rw [List.length_map]; omega))
  rw [mir_srt ok h] at e2
  have e4 := gTupU_o (n := (S ++ .lst (((m.ts.map (mirT m.cs)).map tcD).map W.d) :: T).length) (S := (S ++ .lst (((m.ts.map (mirT m.cs)).map tcD).map W.d) :: T) ++ [.lst ((m'.ts.map tcD).map W.d)]) (get_len_app _ _ [])
  refine ⟨.lst (((m.ts.map (mirT m.cs)).map tcD).map W.d) :: (T ++ [.lst ((m'.ts.map tcD).map W.d)]), ?_⟩
  unfold R_own_mirror runB B_own_mirror
  have e0 : ∀ (ρ : Slt) (S : Sto), gTp 2 (gsCons (gNm 1) (gsCons (gNm 2) gsNil)) (.d (mD m)) ρ S = some ((ρ.set 1 (some (.d (csD m.cs)))).set 2 (some (.d (tsD m.ts)))) := fun ρ S => rfl
  simp only [startR, List.map_cons, List.map_nil, List.length_cons, List.length_nil, Nat.zero_add, Nat.reduceAdd, Nat.reduceSub, List.replicate, List.cons_append, List.nil_append, st_seq, st_asg, ev_var, List.getElem?_cons_zero, bind_ok, fl_ok, e0, List.set_cons_zero, List.set_cons_succ, st_ret, pairU_ev, ev_tupU, ev_sort, ev_cons, ev_nil, List.getElem?_cons_succ, e, e2, ofO_some, e4]
  simp [mD, tsD, csD, h.cs]
theorem r_mirror {m m' : Mach} (ok : Ok m) (h : Mir m m') (S : Sto) : Pu (R_mirror [.d (mD m)] S) S (.d (mD m')) := by
  obtain ⟨T1, e1⟩ := r_need_machine ok S
  obtain ⟨T2, e2⟩ := r_own_mirror ok h (S ++ T1)
  refine ⟨T1 ++ T2, ?_⟩
  unfold R_mirror runB B_mirror
  have eU : ∀ (f : Fe W) (ρ : Slt) (S : Sto), fUnT f ρ S = (f ρ S).bind fun x S1 => .ok (unT x) S1 := fun f ρ S => id rfl
  simp only [startR, List.map_cons, List.map_nil, List.length_cons, List.length_nil, Nat.zero_add, Nat.reduceAdd, Nat.reduceSub, List.replicate, List.cons_append, List.nil_append, st_seq, st_exp, ev_call, ev_cons, ev_nil, ev_var, List.getElem?_cons_zero, bind_ok, if_true, ofD_nil, List.append_nil, e1, fl_ok, st_ret, eU, e2]
  rw [List.append_assoc]
  rfl
theorem eqv_t (a b : Tch) : PyData.eqv (tcD a) (tcD b) = decide (a = b) := by
  show (PyData.eqv (sD a.1) (sD b.1) && (PyData.eqv (sD a.2) (sD b.2) && true)) = _
  rw [eqv_s, eqv_s, Bool.and_true, ← Bool.decide_and]
  exact decide_eq_decide.mpr ⟨fun ⟨h1, h2⟩ => Prod.ext h1 h2, fun h => by subst h; exact ⟨rfl, rfl⟩⟩
theorem shp_ts (ts : List Tch) : SeqAt.shaped (.list (ts.map tcD)) = true := by
  have : Pl 3 (.list (ts.map tcD)) := pl_lst fun x hx => by
    obtain ⟨t, _, rfl⟩ := List.mem_map.mp hx
    exact pl_tc t
  exact this.shp (by decide)
theorem idx_t {ts : List Tch} (hn : ts.Nodup) {j : Nat} {t : Tch} (h : ts[j]? = some t) (S : Sto) : gTIdx (.u (tsD ts)) [.d (tcD t)] S = some (.d (.int (j : Nat)), S) := by
  have hj := (List.getElem?_eq_some_iff.mp h).1
  have ht := (List.getElem?_eq_some_iff.mp h).2
  have e : ((ts.map tcD).findIdx? fun z => PyData.eqv z (tcD t)) = some j := by
    rw [List.findIdx?_eq_some_iff_getElem]
    refine ⟨by simpa using hj, ?_, fun i hi => ?_⟩
    · rw [List.getElem_map, eqv_t, ht]
      simp
    · rw [List.getElem_map, eqv_t]
      simp only [decide_eq_true_eq]
      intro z
      exact (List.pairwise_iff_getElem.mp hn) i j (by omega) hj hi (z.trans ht.symm)
  show (match view (.d (tcD t)) S with | some d => if (SeqAt.shaped (.list (ts.map tcD)) && SeqAt.shaped d) = true then (((ts.map tcD).findIdx? fun z => PyData.eqv z d).map fun j => (W.d (.int (j : Nat)), S)) else none | none => none) = _
  simp only [view_d, shp_ts, (pl_tc t).shp (by decide), Bool.and_self, if_true, e, Option.map_some]
theorem Ok.tnd {m : Mach} (ok : Ok m) : m.ts.Nodup := List.Pairwise.imp (fun {a b} (h : ltT a b) (e : a = b) => ltT_irr b (by rw [e] at h; exact h)) ok.srt
end G
set_option Elab.async false
set_option linter.all false
set_option maxRecDepth 100000
set_option maxHeartbeats 4000000
/-! Q2: numbers of touches by the mirror; the law's own mirror and turning -/
namespace G
open PySem PySem.Spec L2 PyProof.Rows
set_option autoImplicit false
@[simp] theorem ev_mtU (f : Fe W) (h : Fe (List W)) (ρ : Slt) (S : Sto) : fMtU f h ρ S = (f ρ S).bind fun x S1 => if isU x = true then (h ρ S1).bind fun xs S2 => ofO (gTIdx x xs S2) else .bad := id rfl
theorem snd_m (m : Mach) (S : Sto) : gSnd (.u2 (mD m)) (.d (.int 1)) S = some (.u (tsD m.ts), S) := id rfl
theorem isU_ts (ts : List Tch) : isU (.u (tsD ts)) = true := id rfl
theorem ix_ts {ts : List Tch} {i : Nat} {t : Tch} (h : ts[i]? = some t) (S : Sto) : gIx (.d (tsD ts)) (.d (.int (i : Nat))) S = some (.d (tcD t), S) := ix_nat (by rw [List.getElem?_map, h]; rfl) S
theorem r_mirror_touch {m m' : Mach} (ok : Ok m) (h : Mir m m') {i j : Nat} {t : Tch} (hi : m.ts[i]? = some t) (hj : m'.ts[j]? = some (mirT m.cs t)) (S : Sto) : Pu (R_mirror_touch [.d (mD m), .d (.int (i : Nat))] S) S (.d (.int (j : Nat))) := by
  obtain ⟨T1, e1⟩ := r_need_machine ok S
  have e2 := r_need_own_touch (List.getElem?_eq_some_iff.mp hi).1 (S ++ T1)
  obtain ⟨T3, e3⟩ := r_own_mirror ok h (S ++ T1)
  have hm := mir_mem ok t (List.mem_of_getElem? hi)
  obtain ⟨T4, e4⟩ := r_mirror_pair hm.1 hm.2.1 (S ++ T1 ++ T3)
  have e5 := idx_t h.ok.tnd hj (S ++ T1 ++ T3 ++ T4)
  have e6 : R_own_mirror_touch [.d (mD m), .d (.int (i : Nat))] (S ++ T1) = .ok (.d (.int (j : Nat))) (S ++ T1 ++ T3 ++ T4) := by
    unfold R_own_mirror_touch runB B_own_mirror_touch
    simp only [startR, List.map_cons, List.map_nil, List.length_cons, List.length_nil, Nat.zero_add, Nat.reduceAdd, Nat.reduceSub, List.replicate, List.cons_append, List.nil_append, st_ret, ev_mtU, ev_op2, ev_call, ev_cons, ev_nil, ev_var, ev_c, List.getElem?_cons_zero, List.getElem?_cons_succ, bind_ok, if_true, ofD_nil, List.append_nil, e3, snd_m, ofO_some, isU_ts, ix_m0, ix_m1, ix_ts hi, e4, e5, fl_ok]
  refine ⟨T1 ++ (T3 ++ T4), ?_⟩
  unfold R_mirror_touch runB B_mirror_touch
  simp only [startR, List.map_cons, List.map_nil, List.length_cons, List.length_nil, Nat.zero_add, Nat.reduceAdd, Nat.reduceSub, List.replicate, List.cons_append, List.nil_append, st_seq, st_exp, ev_call, ev_cons, ev_nil, ev_var, List.getElem?_cons_zero, List.getElem?_cons_succ, bind_ok, if_true, ofD_nil, List.append_nil, e1, fl_ok, e2, st_ret, e6, List.append_assoc]
/-! the law's own -/
noncomputable def pairC (iT a b : Nat) : Fe W := fLc (fIt (fVar iT)) (gTp 2 (gsCons (gNm a) (gsCons (gNm b) gsNil))) fYes (fTup (fCons (fVar a) (fCons (fOp2 gMod (fOp2 gSub (fC (.d (.int 1))) (fVar b)) (fOp2 gIx (fOp2 gIx (fVar 0) (fC (.d (.int 0)))) (fVar a))) fNil))) [a, b]
theorem pair_comp {m : Mach} (ok : Ok m) {t : Tch} (ht : t ∈ m.ts) {iT a b : Nat} {ρ : Slt} (h0 : ρ[0]? = some (some (.d (mD m)))) (hT : ρ[iT]? = some (some (.d (tcD t)))) (ha : a < ρ.length) (hb : b < ρ.length) (hab : a ≠ b) (ha0 : a ≠ 0) (hb0 : b ≠ 0) (S : Sto) :
    ∃ T, pairC iT a b ρ S = .ok (.o S.length) (S ++ .lst ([sD (flp 1 m.cs t.1), sD (flp 1 m.cs t.2)].map W.d) :: T) := by
  have hm := mir_mem ok t ht
  obtain ⟨T, e⟩ := fLc_ok (f := fIt (fVar iT)) (g := gTp 2 (gsCons (gNm a) (gsCons (gNm b) gsNil))) (e := fTup (fCons (fVar a) (fCons (fOp2 gMod (fOp2 gSub (fC (.d (.int 1))) (fVar b)) (fOp2 gIx (fOp2 gIx (fVar 0) (fC (.d (.int 0)))) (fVar a))) fNil))) (vs := [a, b])
    (ρ := ρ) (S := S) (T0 := []) (ds := [t.1, t.2]) (mk := sD) (fun s => .d (sD (flp 1 m.cs s))) (by
      simp only [it_ev, ev_var, hT, bind_ok, List.append_nil]
      rfl) (by simp) (fun s hs => ⟨_, fun S => gt_s s a b _ S, fun S => .of (by
        have ho : okS m.cs s := by
          rcases List.mem_cons.mp hs with rfl | hs
          · exact hm.1
          · rw [show s = t.2 by simpa using hs]; exact hm.2.1
        have hc := cnt_of ho
        obtain ⟨c, h1, h2⟩ := ho
        have e : m.cs.getD s.1 1 = c := by rw [List.getD_eq_getElem?_getD, h1]; rfl
        have p0 : (0 : Int) < (c : Int) := by omega
        have e2 : ((1 : Int) - (s.2 : Int)) % (c : Int) = ((ngm 1 s.2 c : Nat) : Int) := (ngm_cast (a := 1) (by omega)).symm
        have e3 : sD (flp 1 m.cs s) = .tuple [.int (s.1 : Nat), .int (ngm 1 s.2 c : Nat)] := by
          unfold flp sD
          rw [e]
        have r0 : (((wipeR ρ [a, b]).set a (some (.d (.int (s.1 : Nat))))).set b (some (.d (.int (s.2 : Nat)))))[0]? = some (some (.d (mD m))) := by
          simp only [wipeR]
          rw [List.getElem?_set_ne hb0, List.getElem?_set_ne ha0, List.getElem?_set_ne ha0, List.getElem?_set_ne hb0, h0]
        have ra : (((wipeR ρ [a, b]).set a (some (.d (.int (s.1 : Nat))))).set b (some (.d (.int (s.2 : Nat)))))[a]? = some (some (.d (.int (s.1 : Nat)))) := by
          rw [List.getElem?_set_ne (Ne.symm hab), List.getElem?_set_self (by simp [wipeR]; exact ha)]
        have rb : (((wipeR ρ [a, b]).set a (some (.d (.int (s.1 : Nat))))).set b (some (.d (.int (s.2 : Nat)))))[b]? = some (some (.d (.int (s.2 : Nat)))) := by
          rw [List.getElem?_set_self (by simp [wipeR]; exact hb)]
        rw [fTup_d2]
        simp only [ev_var, ra, bind_ok, ev_op2, ev_c, rb, sub_int, ofO_some, r0, ix_m0, ix_cs h1, mod_int p0, e2, fzT_d2]
        rw [e3])⟩)
  rw [List.append_nil] at e
  exact ⟨T, e⟩
theorem pair_sorted {m : Mach} {t : Tch} {S : Sto} {k : Nat} (h : S[k]? = some (.lst ([sD (flp 1 m.cs t.1), sD (flp 1 m.cs t.2)].map W.d))) :
    gSort [.o k] S = some (.o S.length, S ++ [.lst ([sD (mirT m.cs t).1, sD (mirT m.cs t).2].map W.d)]) := by
  have e3 : srt ([flp 1 m.cs t.1, flp 1 m.cs t.2].map sD) = [sD (mirT m.cs t).1, sD (mirT m.cs t).2] := srt_s _ _
  rw [← e3]
  exact gSort_o h (sortOk_s _ (by simp))
noncomputable def lmBody : Fs := (fExp (fMt gApp (fVar 1) (fCons (fCB gTuple (fCons (fCB gSort (fCons (fLc (fIt (fVar 2)) (gTp 2 (gsCons (gNm 3) (gsCons (gNm 4) gsNil))) fYes (fTup (fCons (fVar 3) (fCons (fOp2 gMod (fOp2 gSub (fC (.d (.int 1))) (fVar 4)) (fOp2 gIx (fOp2 gIx (fVar 0) (fC (.d (.int 0)))) (fVar 3))) fNil))) [3, 4]) fNil)) fNil)) fNil)))
theorem lm_loop {m : Mach} (ok : Ok m) {S : Sto} : ∀ (ts acc : List Tch) (T : Sto) (j : Option W), (∀ t ∈ ts, t ∈ m.ts) → acc.length + ts.length ≤ 100 → ∃ T' k,
    forD (gNm 2) lmBody (ts.map tcD) [some (.d (mD m)), some (.o S.length), j, none, none] (S ++ .lst (tW acc) :: T) =
      .nx [some (.d (mD m)), some (.o S.length), k, none, none] (S ++ .lst (tW (acc ++ ts.map (mirT m.cs))) :: T')
  | [], acc, T, j, h, hl => ⟨T, j, by simp [forD_nil]⟩
  | t :: ts, acc, T, j, h, hl => by
    have ht := h t (by simp)
    obtain ⟨T1, e1⟩ := pair_comp ok ht (iT := 2) (a := 3) (b := 4) (ρ := [some (.d (mD m)), some (.o S.length), some (.d (tcD t)), none, none]) rfl rfl (by simp) (by simp) (by decide) (by decide) (by decide) (S ++ .lst (tW acc) :: T)
    unfold pairC at e1
    have e2 := pair_sorted (m := m) (t := t) (S := S ++ .lst (tW acc) :: T ++ .lst ([sD (flp 1 m.cs t.1), sD (flp 1 m.cs t.2)].map W.d) :: T1) (get_len_app _ _ _)
    have e3 := gTuple_o (n := (S ++ .lst (tW acc) :: T ++ .lst ([sD (flp 1 m.cs t.1), sD (flp 1 m.cs t.2)].map W.d) :: T1).length) (S := S ++ .lst (tW acc) :: T ++ .lst ([sD (flp 1 m.cs t.1), sD (flp 1 m.cs t.2)].map W.d) :: T1 ++ [.lst ([sD (mirT m.cs t).1, sD (mirT m.cs t).2].map W.d)]) (get_len_app _ _ [])
    have e3' : PyData.tuple [sD (mirT m.cs t).1, sD (mirT m.cs t).2] = tcD (mirT m.cs t) := rfl
    rw [e3'] at e3
    obtain ⟨T2, hT2⟩ : ∃ T2, T2 = T ++ .lst ([sD (flp 1 m.cs t.1), sD (flp 1 m.cs t.2)].map W.d) :: T1 ++ [.lst ([sD (mirT m.cs t).1, sD (mirT m.cs t).2].map W.d)] := ⟨_, rfl⟩
    have eS : S ++ .lst (tW acc) :: T ++ .lst ([sD (flp 1 m.cs t.1), sD (flp 1 m.cs t.2)].map W.d) :: T1 ++ [.lst ([sD (mirT m.cs t).1, sD (mirT m.cs t).2].map W.d)] = S ++ .lst (tW acc) :: T2 := by rw [hT2]; simp
    have e4 : gApp (.o S.length) [.d (tcD (mirT m.cs t))] (S ++ .lst (tW acc) :: T2) = some (.d .none, S ++ .lst (tW (acc ++ [mirT m.cs t])) :: T2) := by
      rw [app_t (mirT m.cs t) (get_len_app _ _ _) (by simp at hl; omega), set_len_app]
    obtain ⟨T', k, ih⟩ := lm_loop ok ts (acc ++ [mirT m.cs t]) T2 (some (.d (tcD t))) (fun u hu => h u (by simp [hu])) (by simp at hl ⊢; omega)
    refine ⟨T', k, ?_⟩
    rw [List.map_cons, forD_cons, gt_nm]
    simp only [List.set_cons_zero, List.set_cons_succ]
    unfold lmBody
    simp only [st_exp, ev_mt, ev_var, List.getElem?_cons_zero, List.getElem?_cons_succ, bind_ok, hpl_o, Option.isSome_some, if_true, ev_cons, ev_nil, ev_cb]
    rw [e1]
    simp only [bind_ok, e2, ofO_some, e3]
    rw [eS, e4]
    simp only [ofO_some, fl_ok]
    unfold lmBody at ih
    rw [ih]
    simp
theorem r_lmirror {m m' : Mach} (ok : Ok m) (h : Mir m m') (S : Sto) : Pu (R__law_mirror [.d (mD m)] S) S (.u2 (mD m')) := by
  have ml := ok.l8
  obtain ⟨T1, k, e1⟩ := lm_loop ok (S := S) m.ts [] [] none (fun _ h => h) (by simp; omega)
  rw [List.nil_append] at e1
  have e2 : gSort [.o S.length] (S ++ .lst (tW (m.ts.map (mirT m.cs))) :: T1) = some (.o (S ++ .lst (tW (m.ts.map (mirT m.cs))) :: T1).length, S ++ .lst (tW (m.ts.map (mirT m.cs))) :: T1 ++ [.lst ((m'.ts.map tcD).map W.d)]) := by
    have := gSort_o (n := S.length) (S := S ++ .lst (tW (m.ts.map (mirT m.cs))) :: T1) (ds := (m.ts.map (mirT m.cs)).map tcD) (get_len_app _ _ _) (sortOk_t _ (by rw [List.length_map]; omega))
    rw [mir_srt ok h] at this
    exact this
  have e4 := gTupU_o (n := (S ++ .lst (tW (m.ts.map (mirT m.cs))) :: T1).length) (S := S ++ .lst (tW (m.ts.map (mirT m.cs))) :: T1 ++ [.lst ((m'.ts.map tcD).map W.d)]) (get_len_app _ _ [])
  refine ⟨.lst (tW (m.ts.map (mirT m.cs))) :: (T1 ++ [.lst ((m'.ts.map tcD).map W.d)]), ?_⟩
  unfold R__law_mirror runB B__law_mirror
  have eL : ∀ ρ : Slt, fLst fNil ρ S = .ok (.o S.length) (S ++ [.lst (tW [])]) := fun ρ => rfl
  have eT : ∀ S : Sto, itemsOf (.d (tsD m.ts)) S = some (m.ts.map tcD, S) := fun S => rfl
  unfold lmBody at e1
  simp only [startR, List.map_cons, List.map_nil, List.length_cons, List.length_nil, Nat.zero_add, Nat.reduceAdd, Nat.reduceSub, List.replicate, List.cons_append, List.nil_append, st_seq, st_set, eL, fl_ok, List.set_cons_zero, List.set_cons_succ, st_for, it_ev, ev_op2, ev_var, ev_c, List.getElem?_cons_zero, List.getElem?_cons_succ, bind_ok, ix_m1, ofO_some, eT, e1, st_ret, pairU_ev, ix_m0, ev_tupU, ev_sort, ev_cons, ev_nil, e2, e4]
  simp [mD, tsD, csD, h.cs]
theorem r_lturned {cs : List Nat} (hp : ∀ c ∈ cs, 0 < c) (fw : Few cs) (f : Load) (S : Sto) : Pu (R__law_turned [.d (ldD cs f)] S) S (.d (ldD cs fun s => f (flp 0 cs s))) := by
  have hl := fw.len
  obtain ⟨T, e⟩ := tupLc (f := fIt (fVar 0)) (g := gNm 2) (e := fCB gTuple (fCons (fLc (fR1 (fCons (fCB gLen (fCons (fVar 2) fNil)) fNil)) (gNm 1) fYes (fOp2 gIx (fVar 2) (fOp2 gMod (fOp2 gSub (fC (.d (.int 0))) (fVar 1)) (fCB gLen (fCons (fVar 2) fNil)))) [1]) fNil)) (vs := [2]) (ρ := [some (.d (ldD cs f)), none, none]) (S := S) cs.zipIdx (rowD f) (rowD fun s => f (flp 0 cs s))
    (.of (by simp)) (by simp; omega) (fun q hq => ⟨_, fun S => rfl, fun S => by
      have hz := List.mem_zipIdx (x := q.1) (i := q.2) hq
      have hlt : q.2 < cs.length := by have := hz.2.1; omega
      have hq1 : cs[q.2]? = some q.1 := by rw [List.getElem?_eq_getElem hlt, hz.2.2]; simp
      have h0 : 0 < q.1 := hp _ (List.mem_of_getElem? hq1)
      have hc := fw.z hq
      have hg : cs.getD q.2 1 = q.1 := by rw [List.getD_eq_getElem?_getD, hq1]; rfl
      have eLn : ∀ S, gLen [.d (rowD f q)] S = some (.d (.int (q.1 : Nat)), S) := fun S => by
        rw [show rowD f q = .tuple ((List.range q.1).map fun p => fr (f (q.2, p))) from rfl, len_t]
        simp
      have := tupLc (f := fR1 (fCons (fCB gLen (fCons (fVar 2) fNil)) fNil)) (g := gNm 1) (e := fOp2 gIx (fVar 2) (fOp2 gMod (fOp2 gSub (fC (.d (.int 0))) (fVar 1)) (fCB gLen (fCons (fVar 2) fNil)))) (vs := [1]) (ρ := [some (.d (ldD cs f)), none, some (.d (rowD f q))]) (S := S)
        (List.range q.1) (fun p => .int (p : Nat)) (fun p => fr (f (flp 0 cs (q.2, p)))) (.of (by
          rw [r1_ev _ _ S S (q.1 : Nat) (by simp only [ev_len, ev_cons, ev_nil, ev_var, List.getElem?_cons_zero, List.getElem?_cons_succ, bind_ok, eLn, ofO_some]) (by omega)]
          simp [rng_map])) (by simp; omega) (fun p hp => ⟨_, fun S => rfl, fun S => .of (by
            have hpl : p < q.1 := List.mem_range.mp hp
            have e1 : flp 0 cs (q.2, p) = (q.2, ngm 0 p q.1) := by unfold flp; rw [hg]
            have e2 : (0 - (p : Int)) % (q.1 : Int) = ((ngm 0 p q.1 : Nat) : Int) := (ngm_cast (a := 0) h0).symm
            have e3 := ix_row (f := f) (w := q.2) (ngm_lt (a := 0) (p := p) h0) S
            have p0 : (0 : Int) < (q.1 : Int) := by omega
            simp only [wipeR, List.set_cons_zero, List.set_cons_succ, ev_op2, ev_len, ev_cons, ev_nil, ev_var, ev_c, List.getElem?_cons_zero, List.getElem?_cons_succ, bind_ok, sub_int, ofO_some, eLn, mod_int p0, e2, e1]
            rw [e3]
            rfl)⟩)
      exact this⟩)
  refine ⟨T, ?_⟩
  unfold R__law_turned runB B__law_turned
  simp only [startR, List.map_cons, List.map_nil, List.length_cons, List.length_nil, Nat.zero_add, Nat.reduceAdd, Nat.reduceSub, List.replicate, List.cons_append, List.nil_append, st_ret] at e ⊢
  rw [e]
  rfl
theorem r_turned {m : Mach} (ok : Ok m) (f : Load) (S : Sto) : Pu (R_turned [.d (mD m), .d (ldD m.cs f)] S) S (.d (ldD m.cs fun s => f (flp 0 m.cs s))) := by
  obtain ⟨T1, e1⟩ := r_need_load ok f S
  obtain ⟨T2, e2⟩ := r_own_turned ok.pos ok.few f (S ++ T1)
  refine ⟨T1 ++ T2, ?_⟩
  unfold R_turned runB B_turned
  simp only [startR, List.map_cons, List.map_nil, List.length_cons, List.length_nil, Nat.zero_add, Nat.reduceAdd, Nat.reduceSub, List.replicate, List.cons_append, List.nil_append, st_seq, st_exp, ev_call, ev_cons, ev_nil, ev_var, List.getElem?_cons_zero, List.getElem?_cons_succ, bind_ok, if_true, ofD_nil, List.append_nil, e1, fl_ok, st_ret, e2, List.append_assoc]
theorem ld_turn2 {cs : List Nat} (f : Load) : ldD cs (fun s => (fun s => f (flp 0 cs s)) (flp 0 cs s)) = ldD cs f := by
  refine rows_eq cs f _ fun q hq => ?_
  unfold rowD
  congr 1
  refine List.map_congr_left fun p hp => ?_
  have ho : okS cs (q.2, p) := by
    have hz := List.mem_zipIdx (x := q.1) (i := q.2) hq
    have hlt : q.2 < cs.length := by have := hz.2.1; omega
    exact ⟨q.1, by rw [List.getElem?_eq_getElem hlt, hz.2.2]; simp, List.mem_range.mp hp⟩
  show fr (f (flp 0 cs (flp 0 cs (q.2, p)))) = _
  rw [flp_flp ho]
theorem r_paired {m : Mach} (ok : Ok m) {f g : Load} {D M E N n : Nat} (hf : ∀ s, Bd D M (f s)) (hg : ∀ s, Bd E N (g s)) (hM : 0 < M) (hN : 0 < N) (hr : Rmp D M E N n) (S : Sto) :
    Pu (R_paired [.d (mD m), .d (ldD m.cs f), .d (ldD m.cs g)] S) S (.d (fr (sm (fun s => f s * g s) (cells m.cs)))) := by
  obtain ⟨T1, e1⟩ := r_need_load ok f S
  obtain ⟨T2, e2⟩ := r_need_own_load ok.few g (S ++ T1)
  obtain ⟨T3, T4, T5, e3, e4, e5⟩ := pair_flat ok.s30 hf hg hM hN hr (S ++ T1 ++ T2)
  refine ⟨T1 ++ (T2 ++ T5), ?_⟩
  unfold R_paired runB B_paired
  simp only [startR, List.map_cons, List.map_nil, List.length_cons, List.length_nil, Nat.zero_add, Nat.reduceAdd, Nat.reduceSub, List.replicate, List.cons_append, List.nil_append, st_seq, st_exp, ev_call, ev_cons, ev_nil, ev_var, List.getElem?_cons_zero, List.getElem?_cons_succ, bind_ok, if_true, ofD_nil, List.append_nil, e1, fl_ok, e2, st_ret, e3, e4, e5]
  simp only [List.append_assoc]
/-! repr -/
theorem fTup_d3 (f g h : Fe W) (ρ : Slt) (S : Sto) : fTup (fCons f (fCons g (fCons h fNil))) ρ S = (f ρ S).bind fun x S1 => (g ρ S1).bind fun y S2 => (h ρ S2).bind fun z S3 => match fzT [x, y, z] S3 with | some (d, S2) => .ok (.d d) S2 | none => .bad := by
  unfold fTup
  simp only [ev_cons, ev_nil, Out.bind]
  cases f ρ S with
  | ok x S1 =>
    dsimp only
    cases g ρ S1 with
    | ok y S2 => dsimp only; cases h ρ S2 <;> rfl
    | ex e S => rfl
    | bad => rfl
  | ex e S => rfl
  | bad => rfl
theorem fzT_d3 (a b c : PyData) (S : Sto) : fzT [.d a, .d b, .d c] S = some (.tuple [a, b, c], S) := rfl
theorem lst_free {k : Nat} (hk : 200 ≤ k) {l : List PyData} (h : ∀ x ∈ l, k ∉ x.shown.cps.toList) : k ∉ (PyData.list l).shown.cps.toList := by
  rw [PyData.shown_list]
  intro hm
  rw [mem_cps_append, mem_cps_append, signs_lbrack, mem_join, signs_rbrack] at hm
  rcases hm with ((hm | (⟨t, ht, hc⟩ | ⟨hl, hm⟩)) | hm)
  · simp at hm; omega
  · exact shownAll_free h t ht hc
  · rw [signs_sep] at hm
    simp at hm; omega
  · simp at hm; omega
theorem rp_lst {w dep : Nat} {l : List PyData} (h : ∀ x ∈ l, Rp w dep x) : Rp (l.length * (w + 1)) (dep + 1) (.list l) := by
  obtain ⟨h1, h2, h3, h4, h5⟩ := rp_all h
  exact ⟨by simp only [PyData.showable, h1], by simp only [PyData.hasDict, h2], by simp only [PyData.leavesShort, h3], by simp only [PyData.weight]; exact h4, fun k hk => lst_free hk fun x hx => (h x hx).t k hk, by simp only [PyData.depth]; omega⟩
theorem repr_o {w dep : Nat} {l : List PyData} (h : Rp w dep (.list l)) (hw : w ≤ 80000) (hd : dep ≤ 60) {S : Sto} {q : Nat} (hq : S[q]? = some (.lst (l.map W.d))) : gRepr [.o q] S = some (.d (.str (PyData.list l).shown), S) := by
  have := repr_ok h rfl hw hd S
  unfold gRepr at this ⊢
  simp only [view_d] at this
  simp only [view_o hq]
  exact this
end G
set_option Elab.async false
set_option linter.all false
set_option maxRecDepth 100000
set_option maxHeartbeats 4000000
/-! Q3: whether the mirror and the names of its touches are right -/
namespace G
open PySem PySem.Spec L2 PyProof.Rows
set_option autoImplicit false
/-! the machine by hand -/
def mB : Mach := ⟨[3, 1, 2], []⟩
theorem mB_ok : Ok mB := by
  refine ⟨by simp [mB], by simp [mB], fun c hc => ?_, by simp [mB], by simp [mB], fun t ht => ?_, by simp [mB], by simp [mB, spotsOf]⟩
  · simp only [mB, List.mem_cons, List.not_mem_nil, or_false] at hc
    rcases hc with rfl | rfl | rfl <;> decide
  · simp [mB] at ht
theorem mB_mir : Mir mB mB := ⟨mB_ok, rfl, List.Perm.refl _⟩
def fB : Load := fun s => (([1, 2, 3, 4, 5, 6] : List Rat).getD ([0, 3, 4].getD s.1 0 + s.2) 0)
def ldB : PyData := .tuple [.tuple [.tuple [.int 1, .int 1], .tuple [.int 2, .int 1], .tuple [.int 3, .int 1]], .tuple [.tuple [.int 4, .int 1]], .tuple [.tuple [.int 5, .int 1], .tuple [.int 6, .int 1]]]
def duB : PyData := .tuple [.tuple [.tuple [.int 1, .int 1], .tuple [.int 3, .int 1], .tuple [.int 2, .int 1]], .tuple [.tuple [.int 4, .int 1]], .tuple [.tuple [.int 5, .int 1], .tuple [.int 6, .int 1]]]
def mbD : PyData := .tuple [.tuple [.int 3, .int 1, .int 2], .tuple []]
theorem ldB_eq : ldD mB.cs fB = ldB := rfl
theorem duB_eq : ldD mB.cs (fun s => fB (flp 0 mB.cs s)) = duB := rfl
theorem mbD_eq : mD mB = mbD := rfl
theorem hand_mirror (S : Sto) : Pu (R_mirror [.d mbD] S) S (.d mbD) := r_mirror mB_ok mB_mir S
theorem hand_turned (S : Sto) : Pu (R_turned [.d mbD, .d ldB] S) S (.d duB) := r_turned mB_ok fB S
theorem pl_mb : Pl 4 mbD := pl_tup fun x hx => by
  simp only [List.mem_cons, List.not_mem_nil, or_false] at hx
  rcases hx with rfl | rfl
  · exact ⟨rfl, by decide, rfl⟩
  · exact ⟨rfl, by decide, rfl⟩
theorem pl_du : Pl 3 duB := by
  rw [← duB_eq]
  exact pl_ld _ _

noncomputable def nrBody : Fs := (fSeq (fSet 4 (fCall 2 [] R_mirror_touch (fCons (fVar 0) (fCons (fVar 2) fNil))))
  (fSeq (fSet 5 (fCB gSort (fCons (pairC 3 6 7) fNil)))
  (fIf (fOr (fTru (fOp2 (dEq true) (fCB gRepr (fCons (fVar 4) fNil)) (fCB gRepr (fCons (fMtU (fOp2 gSnd (fVar 1) (fC (.d (.int 1)))) (fCons (fCB gTuple (fCons (fVar 5) fNil)) fNil)) fNil)))) (fTru (fOp2 (dEq true) (fCall 2 [] R_mirror_touch (fCons (fVarD 1) (fCons (fVar 4) fNil))) (fVar 2)))) (fRet (fC (.d (.bool false)))) fSkip)))
@[simp] theorem ev_varD (i : Nat) (ρ : Slt) (S : Sto) : fVarD i ρ S = (fVar i ρ S).bind fun x S1 => .ok (unT x) S1 := id rfl
theorem unT_u2 (x : PyData) : unT (.u2 x) = .d x := rfl
theorem rp_small {i : Nat} (h : i < 16) : Rp 10 0 (.int (i : Nat)) := rp_int (by rw [Int.natAbs_natCast]; exact Nat.lt_of_lt_of_le h (by decide)) (by decide)
theorem nr_loop {m m' : Mach} (ok : Ok m) (h : Mir m m') {a8 a9 a10 : Option W} : ∀ (ts : List Tch) (i : Nat) (S : Sto) (j2 j3 j4 j5 j6 j7 : Option W), m.ts.drop i = ts → ∃ T k2 k3 k4 k5 k6 k7,
    forD (gTp 2 (gsCons (gNm 2) (gsCons (gNm 3) gsNil))) nrBody (((ts.map tcD).zipIdx i).map fun p => PyData.tuple [.int (p.2 : Nat), p.1]) [some (.d (mD m)), some (.u2 (mD m')), j2, j3, j4, j5, j6, j7, a8, a9, a10] S =
      .nx [some (.d (mD m)), some (.u2 (mD m')), k2, k3, k4, k5, k6, k7, a8, a9, a10] (S ++ T)
  | [], i, S, j2, j3, j4, j5, j6, j7, hd => ⟨[], j2, j3, j4, j5, j6, j7, by simp [forD_nil]⟩
  | t :: ts, i, S, j2, j3, j4, j5, j6, j7, hd => by
    have hi : m.ts[i]? = some t := by
      have := List.getElem?_drop (xs := m.ts) (i := i) (j := 0)
      rw [hd] at this
      simpa using this.symm
    have hin := List.mem_of_getElem? hi
    obtain ⟨j, hj⟩ := List.getElem?_of_mem (h.ts.mem_iff.mpr (List.mem_map_of_mem (f := mirT m.cs) hin))
    have hj8 : j < 16 := by
      have := (List.getElem?_eq_some_iff.mp hj).1
      have := h.ok.l8
      omega
    obtain ⟨T1, e1⟩ := r_mirror_touch ok h hi hj S
    obtain ⟨T2, e2⟩ := pair_comp ok hin (iT := 3) (a := 6) (b := 7) (ρ := [some (.d (mD m)), some (.u2 (mD m')), some (.d (.int (i : Nat))), some (.d (tcD t)), some (.d (.int (j : Nat))), j5, j6, j7, a8, a9, a10]) rfl rfl (by simp) (by simp) (by decide) (by decide) (by decide) (S ++ T1)
    have e3 := pair_sorted (m := m) (t := t) (S := S ++ T1 ++ .lst ([sD (flp 1 m.cs t.1), sD (flp 1 m.cs t.2)].map W.d) :: T2) (get_len_app _ _ _)
    obtain ⟨S3, hS3⟩ : ∃ S3, S3 = S ++ T1 ++ .lst ([sD (flp 1 m.cs t.1), sD (flp 1 m.cs t.2)].map W.d) :: T2 := ⟨_, rfl⟩
    rw [← hS3] at e2 e3
    have e4 := gTuple_o (n := S3.length) (S := S3 ++ [.lst ([sD (mirT m.cs t).1, sD (mirT m.cs t).2].map W.d)]) (get_len_app _ _ [])
    rw [show PyData.tuple [sD (mirT m.cs t).1, sD (mirT m.cs t).2] = tcD (mirT m.cs t) from rfl] at e4
    have e5 := idx_t h.ok.tnd hj (S3 ++ [.lst ([sD (mirT m.cs t).1, sD (mirT m.cs t).2].map W.d)])
    have rp := rp_small hj8
    have e6 := repr_ok rp rfl (by decide) (by decide) (S3 ++ [.lst ([sD (mirT m.cs t).1, sD (mirT m.cs t).2].map W.d)])
    obtain ⟨T7, e7⟩ := r_mirror_touch h.ok (h.symm ok) hj (j := i) (by rw [h.cs, mir_mir ok hin]; exact hi) (S3 ++ [.lst ([sD (mirT m.cs t).1, sD (mirT m.cs t).2].map W.d)])
    obtain ⟨T, k2, k3, k4, k5, k6, k7, ih⟩ := nr_loop ok h (a8 := a8) (a9 := a9) (a10 := a10) ts (i + 1) (S3 ++ [.lst ([sD (mirT m.cs t).1, sD (mirT m.cs t).2].map W.d)] ++ T7) (some (.d (.int (i : Nat)))) (some (.d (tcD t))) (some (.d (.int (j : Nat)))) (some (.o S3.length)) j6 j7 (by
      have := congrArg (List.drop 1) hd
      rw [List.drop_drop] at this
      rw [this]
      rfl)
    refine ⟨T1 ++ .lst ([sD (flp 1 m.cs t.1), sD (flp 1 m.cs t.2)].map W.d) :: T2 ++ [.lst ([sD (mirT m.cs t).1, sD (mirT m.cs t).2].map W.d)] ++ T7 ++ T, k2, k3, k4, k5, k6, k7, ?_⟩
    rw [enum_cons, forD_cons, gt_tp2]
    simp only [gt_nm, List.set_cons_zero, List.set_cons_succ]
    unfold nrBody
    simp only [st_seq, st_set, ev_call, ev_cons, ev_nil, ev_var, List.getElem?_cons_zero, List.getElem?_cons_succ, bind_ok, List.length_cons, List.length_nil, Nat.zero_add, Nat.reduceAdd, if_true, ofD_nil, List.append_nil, e1, fl_ok, List.set_cons_zero, List.set_cons_succ, ev_sort, e2, e3, ofO_some, st_if, ev_or, ev_tru, ev_op2, ev_repr, ev_mtU, ev_c, snd_m, isU_ts, ev_cb, e4, e5, e6, ne_str rp.ok, truth_b, Option.map_some, Bool.false_eq_true, if_false, ev_varD, unT_u2, e7, ne_int, decide_true, Bool.not_true, st_skip]
    unfold nrBody at ih
    rw [ih, hS3]
    simp
end G
set_option Elab.async false
set_option linter.all false
set_option maxRecDepth 100000
set_option maxHeartbeats 4000000
/-! Q4: names right; what a turn of the law needs -/
namespace G
open PySem PySem.Spec L2 PyProof.Rows
set_option autoImplicit false
noncomputable def e3 (a b c : Int) : Fe W := fTup (fCons (fC (.d (.int a))) (fCons (fC (.d (.int b))) (fCons (fC (.d (.int c))) fNil)))
noncomputable def q2 (a : Int) : Fe W := fTup (fCons (fC (.d (.int a))) (fCons (fC (.d (.int 1))) fNil))
noncomputable def bareE : Fe W := fTup (fCons (fTup (fCons (e3 3 1 2) (fCons (fTup fNil) fNil))) (fCons (fTup (fCons (fTup (fCons (q2 1) (fCons (q2 2) (fCons (q2 3) fNil)))) (fCons (fTup (fCons (q2 4) fNil)) (fCons (fTup (fCons (q2 5) (fCons (q2 6) fNil))) fNil)))) fNil))
noncomputable def dueE : Fe W := fTup (fCons (fTup (fCons (q2 1) (fCons (q2 3) (fCons (q2 2) fNil)))) (fCons (fTup (fCons (q2 4) fNil)) (fCons (fTup (fCons (q2 5) (fCons (q2 6) fNil))) fNil)))
theorem bare_ev (ρ : Slt) (S : Sto) : bareE ρ S = .ok (.d (.tuple [mbD, ldB])) S := rfl
theorem due_ev (ρ : Slt) (S : Sto) : dueE ρ S = .ok (.d duB) S := rfl
noncomputable def handE (a b c : Nat) : Fe W := fAndE (fOp2 (dEq false) (fCall 1 [] R_mirror (fCons (fVar a) fNil)) (fVar a)) (fOp2 (dEq false) (fCall 2 [] R_turned (fCons (fVar a) (fCons (fVar b) fNil))) (fVar c))
theorem hand_ev {a b c : Nat} {ρ : Slt} (ha : ρ[a]? = some (some (.d mbD))) (hb : ρ[b]? = some (some (.d ldB))) (hc : ρ[c]? = some (some (.d duB))) (S : Sto) : Pu (handE a b c ρ S) S (.d (.bool true)) := by
  obtain ⟨T1, e1⟩ := hand_mirror S
  obtain ⟨T2, e2⟩ := hand_turned (S ++ T1)
  refine ⟨T1 ++ T2, ?_⟩
  unfold handE
  simp only [ev_andE, ev_op2, ev_call, ev_cons, ev_nil, ev_var, ha, hb, hc, bind_ok, List.length_cons, List.length_nil, Nat.zero_add, Nat.reduceAdd, if_true, ofD_nil, List.append_nil, e1, eq_self' pl_mb (by decide), ofO_some, e2, eq_self' pl_du (by decide), List.append_assoc]
theorem r_named_right {m m' : Mach} (ok : Ok m) (h : Mir m m') (S : Sto) : Pu (R__law_named_right [.d (mD m), .u2 (mD m')] S) S (.d (.bool true)) := by
  obtain ⟨T1, e1⟩ := r_mirror ok h S
  obtain ⟨T2, e2⟩ := r_mirror h.ok (h.symm ok) (S ++ T1)
  have rp1 := rp_m h.ok
  have rp2 := rp_m ok
  have r1 := fun S => repr_ok rp1 rfl (by decide) (by decide) S
  have r2 := fun S => repr_ok rp2 rfl (by decide) (by decide) S
  obtain ⟨T3, k2, k3, k4, k5, k6, k7, e3'⟩ := nr_loop ok h (a8 := none) (a9 := none) (a10 := none) m.ts 0 (S ++ T1 ++ T2) none none none none none none rfl
  obtain ⟨T4, e4⟩ := hand_ev (a := 8) (b := 9) (c := 10) (ρ := [some (.d (mD m)), some (.u2 (mD m')), k2, k3, k4, k5, k6, k7, some (.d mbD), some (.d ldB), some (.d duB)]) rfl rfl rfl (S ++ T1 ++ T2 ++ T3)
  refine ⟨T1 ++ (T2 ++ (T3 ++ T4)), ?_⟩
  have eT : ∀ S : Sto, itemsOf (.d (tsD m.ts)) S = some (m.ts.map tcD, S) := fun S => rfl
  have eE : enumD (m.ts.map tcD) = ((m.ts.map tcD).zipIdx 0).map fun p => PyData.tuple [.int (p.2 : Nat), p.1] := rfl
  have eB := bare_ev
  have eD := due_ev
  have gt9 : ∀ (ρ : Slt) (x y : PyData) (S : Sto), gTp 2 (gsCons (gNm 8) (gsCons (gNm 9) gsNil)) (.d (.tuple [x, y])) ρ S = some ((ρ.set 8 (some (.d x))).set 9 (some (.d y))) := fun ρ x y S => rfl
  unfold bareE e3 q2 at eB
  unfold dueE q2 at eD
  unfold handE at e4
  unfold nrBody pairC at e3'
  unfold R__law_named_right runB B__law_named_right
  simp only [startR, List.map_cons, List.map_nil, List.length_cons, List.length_nil, Nat.zero_add, Nat.reduceAdd, Nat.reduceSub, List.replicate, List.cons_append, List.nil_append, st_seq, st_if, ev_or, ev_tru, ev_op2, ev_repr, ev_call, ev_cons, ev_nil, ev_var, ev_varD, unT_u2, List.getElem?_cons_zero, List.getElem?_cons_succ, bind_ok, if_true, ofD_nil, List.append_nil, e1, r1, ofO_some, ne_str rp1.ok, truth_b, Option.map_some, Bool.false_eq_true, if_false, e2, r2, ne_str rp2.ok, fl_ok, st_skip, st_for, en_ev, ev_c, ix_m1, eT, eE, e3', st_asg, eB, gt9, List.set_cons_zero, List.set_cons_succ, st_set, eD, st_ret, e4]
  simp only [List.append_assoc]
/-! sums of bounded things -/
theorem bd_sum {f : Load} {D M : Nat} (h : ∀ s, Bd D M (f s)) : ∀ l : List Spot, Bd D (l.length * M) (sm f l)
  | [] => by
    rw [List.length_nil, Nat.zero_mul]
    exact Bd.zero
  | s :: l => by
    have := (h s).add (bd_sum h l)
    rw [List.length_cons, Nat.succ_mul, Nat.add_comm]
    exact this
theorem rp_pair {cs : List Nat} (hs : cs.sum ≤ 30) {f g : Load} {D M E N n : Nat} (hf : ∀ s, Bd D M (f s)) (hg : ∀ s, Bd E N (g s)) (hr : Rmp D M E N n) (hn : n ≤ 190) : Rp (2 * (n + 1)) 1 (fr (sm (fun s => f s * g s) (cells cs))) := by
  have h1 := bd_sum (f := fun s => f s * g s) (fun s => (hf s).mul (hg s)) (cells cs)
  rw [cells_len] at h1
  exact rp_fr (hr.sum (k := cs.sum) (by omega) h1) hn
theorem rmp_k {k : Nat} (hk : k ≤ 9) : Rmp (6 * 2 ^ k) 3 6 3 30 := by
  have h1 : (2 : Nat) ^ k ≤ 2 ^ 9 := Nat.pow_le_pow_right (by decide) hk
  have h0 : 0 < (2 : Nat) ^ k := Nat.pow_pos (by decide)
  have h2 : (2 : Nat) ^ 9 = 512 := by decide
  have h3 : (2 : Nat) ^ 30 = 1073741824 := by decide
  exact ⟨by omega, by decide, by omega, by omega, by decide⟩
theorem rmp_k' {k : Nat} (hk : k ≤ 9) : Rmp 6 3 (6 * 2 ^ k) 3 30 := by
  have h1 : (2 : Nat) ^ k ≤ 2 ^ 9 := Nat.pow_le_pow_right (by decide) hk
  have h0 : 0 < (2 : Nat) ^ k := Nat.pow_pos (by decide)
  have h2 : (2 : Nat) ^ 9 = 512 := by decide
  have h3 : (2 : Nat) ^ 30 = 1073741824 := by decide
  exact ⟨by decide, by omega, by omega, by omega, by decide⟩
theorem rmb_k {D M k : Nat} (h0 : 0 < D) (hD : D ≤ 6) (hM : M ≤ 3) (hk : k ≤ 9) : Rmb D M 60 k := by
  have h1 : (2 : Nat) ^ k ≤ 2 ^ 9 := Nat.pow_le_pow_right (by decide) hk
  have h2 : (2 : Nat) ^ 9 = 512 := by decide
  have h3 : (2 : Nat) ^ 60 = 1152921504606846976 := by decide
  have h4 : D * 2 ^ k ≤ 6 * 2 ^ 9 := Nat.mul_le_mul hD h1
  have h5 : 101 * M * (D * 2 ^ k) ≤ 101 * 3 * (6 * 2 ^ 9) := Nat.mul_le_mul (by omega) h4
  exact ⟨h0, by omega, by omega, by decide⟩
/-! the law over beats -/
theorem adj_pair {m m' : Mach} (ok : Ok m) (h : Mir m m') (f g : Load) (k : Nat) :
    sm (fun s => beatN m k f s * g s) (cells m.cs) = sm (fun s => f s * beatN m' k (fun s => g (flp 0 m.cs s)) (flp 0 m.cs s)) (cells m.cs) := by
  have e := beatN_adj ok h f k fun s => g (flp 0 m.cs s)
  have e1 : sm (fun s => f s * beatN m' k (fun s => g (flp 0 m.cs s)) (flp 0 m.cs s)) (cells m.cs) = sm (fun s => beatN m' k (fun s => g (flp 0 m.cs s)) (flp 0 m.cs s) * f s) (cells m.cs) := sm_congr fun s _ => by grind
  have e2 : sm (fun s => beatN m k f s * g s) (cells m.cs) = sm (fun s => g (flp 0 m.cs (flp 0 m.cs s)) * beatN m k f s) (cells m.cs) := sm_congr fun s hs => by
    rw [flp_flp ((cells_mem _ s).mp hs)]
    grind
  rw [e1, e2, e]
abbrev unL (s : Spot) : Load := fun t => if t = s then 1 else 0
theorem adj_spot {m m' : Mach} (ok : Ok m) (h : Mir m m') {s u : Spot} (hs : okS m.cs s) (hu : okS m.cs u) (k : Nat) : beatN m k (unL s) u = beatN m' k (unL (flp 0 m.cs u)) (flp 0 m.cs s) := by
  have e := beatN_adj ok h (unL s) k (unL (flp 0 m.cs u))
  have e1 := sm_one (cells_nodup m.cs) ((cells_mem _ s).mpr hs) fun t => beatN m' k (unL (flp 0 m.cs u)) (flp 0 m.cs t)
  have e2 := sm_one (cells_nodup m.cs) ((cells_mem _ u).mpr hu) fun t => beatN m k (unL s) t
  have e3 : sm (fun t => unL (flp 0 m.cs u) (flp 0 m.cs t) * beatN m k (unL s) t) (cells m.cs) = sm (fun t => beatN m k (unL s) t * (if t = u then 1 else 0)) (cells m.cs) := sm_congr fun t ht => by
    by_cases hz : t = u
    · subst hz
      simp [unL]
    · have : ¬ flp 0 m.cs t = flp 0 m.cs u := fun z => hz (flp_inj ((cells_mem _ t).mp ht) hu z)
      simp [unL, hz, this]
  rw [e3, e2] at e
  rw [← e]
  exact e1
end G
set_option Elab.async false
set_option linter.all false
set_option maxRecDepth 100000
set_option maxHeartbeats 4000000
/-! Q5: a turn of the law -/
namespace G
open PySem PySem.Spec L2 PyProof.Rows
set_option autoImplicit false
theorem r_draw (cell k : Int) (hk : 0 ≤ k) (hk2 : k ≤ 1000) (S : Sto) : ∃ l : Int, R__law_draw [.d (.int cell), .d (.int k)] S = .ok (.o S.length) (S ++ [stC l cell (1000 * k)]) := by
  have e0 : ∀ S, gMulT (.d (.int 1000)) (.d (.int k)) S = some (.d (.int (1000 * k)), S) := fun S => mul_int (tiny_l (by omega)) S
  by_cases h : (1000000000000000000 : Int) ≤ cell
  · refine ⟨cell, ?_⟩
    unfold R__law_draw runB B__law_draw
    simp only [startR, List.map_cons, List.map_nil, List.length_cons, List.length_nil, st_ret, fDisp, evP, ev_c, keyOf, bind_ok, ev_ife, ev_tru, ev_op2, ev_var, List.cons_append, List.nil_append, List.getElem?_cons_zero, List.getElem?_cons_succ, gPow_k, ofO_some, ge_int', decide_eq_true h, truth_b, Option.map_some, if_true, e0, get_len_app, set_len_app, fl_ok]
    rfl
  · refine ⟨0, ?_⟩
    unfold R__law_draw runB B__law_draw
    simp only [startR, List.map_cons, List.map_nil, List.length_cons, List.length_nil, st_ret, fDisp, evP, ev_c, keyOf, bind_ok, ev_ife, ev_tru, ev_op2, ev_var, List.cons_append, List.nil_append, List.getElem?_cons_zero, List.getElem?_cons_succ, gPow_k, ofO_some, ge_int', decide_eq_false h, truth_b, Option.map_some, Bool.false_eq_true, if_false, e0, get_len_app, set_len_app, fl_ok]
    rfl
theorem rp_kept3 {m : Mach} (ok : Ok m) {f g : Load} (hf : ∀ s, Bd 6 3 (f s)) (hg : ∀ s, Bd 6 3 (g s)) : Rp 80000 5 (.tuple [mD m, ldD m.cs f, ldD m.cs g]) := by
  have := rp_tup (l := [mD m, ldD m.cs f, ldD m.cs g]) (w := 3800) (dep := 4) (fun x hx => by
    simp only [List.mem_cons, List.not_mem_nil, or_false] at hx
    rcases hx with rfl | rfl | rfl
    · exact (rp_m ok).mono (by decide) (by decide)
    · exact (rp_ld ok.l16 ok.s30 (fun s => (hf s).sm (n := 20) (by decide) (by decide) (by decide)) (by decide)).mono (by decide) (by decide)
    · exact (rp_ld ok.l16 ok.s30 (fun s => (hg s).sm (n := 20) (by decide) (by decide) (by decide)) (by decide)).mono (by decide) (by decide))
  exact this.mono (show 3 * 3801 ≤ 80000 by decide) (by decide)
theorem rp_two {m : Mach} (ok : Ok m) {f g : Load} (hf : ∀ s, Bd 6 3 (f s)) (hg : ∀ s, Bd 6 3 (g s)) : Rp 80000 5 (.list [ldD m.cs f, ldD m.cs g]) := by
  have := rp_lst (l := [ldD m.cs f, ldD m.cs g]) (w := 3800) (dep := 4) (fun x hx => by
    simp only [List.mem_cons, List.not_mem_nil, or_false] at hx
    rcases hx with rfl | rfl
    · exact (rp_ld ok.l16 ok.s30 (fun s => (hf s).sm (n := 20) (by decide) (by decide) (by decide)) (by decide)).mono (by decide) (by decide)
    · exact (rp_ld ok.l16 ok.s30 (fun s => (hg s).sm (n := 20) (by decide) (by decide) (by decide)) (by decide)).mono (by decide) (by decide))
  exact this.mono (show 2 * 3801 ≤ 80000 by decide) (by decide)
/-- both lists flat, by the law -/
theorem lpair_flat {cs : List Nat} (hs : cs.sum ≤ 30) {f g : Load} {D M E N n : Nat} (hf : ∀ s, Bd D M (f s)) (hg : ∀ s, Bd E N (g s)) (hM : 0 < M) (hN : 0 < N) (hr : Rmp D M E N n) (S : Sto) : ∃ T1 T2 T3,
    R__law_flat [.d (ldD cs f)] S = .ok (.o S.length) (S ++ T1) ∧ R__law_flat [.d (ldD cs g)] (S ++ T1) = .ok (.o (S ++ T1).length) (S ++ T2) ∧ R__law_pairing [.o S.length, .o (S ++ T1).length] (S ++ T2) = .ok (.d (fr (sm (fun s => f s * g s) (cells cs)))) (S ++ T3) := by
  have e1 := r_lflat hs f S
  have e2 := r_lflat hs g (S ++ [.lst (flW cs f)])
  have fz1 : ∀ (f : Load) (A : Sto) (B : Sto), itemsOf (.o A.length) (A ++ .lst (flW cs f) :: B) = some ((cells cs).map fun s => fr (f s), A ++ .fz (.list ((cells cs).map fun s => fr (f s))) :: B) := fun f A B => by
    unfold itemsOf
    have : frz 6 (.o A.length) (A ++ .lst (flW cs f) :: B) = some (.list ((cells cs).map fun s => fr (f s)), A ++ .fz (.list ((cells cs).map fun s => fr (f s))) :: B) := by
      unfold frz
      simp only [get_len_app]
      unfold flW
      simp only [frzL_ds, set_len_app]
    rw [this]
  have i1 := fz1 f S [.lst (flW cs g)]
  have i2 := fz1 g (S ++ [.fz (.list ((cells cs).map fun s => fr (f s)))]) []
  have el : (S ++ [Cell.fz (.list ((cells cs).map fun s => fr (f s)))]).length = (S ++ [Cell.lst (flW cs f)]).length := by simp
  rw [el] at i2
  have e3 := r_lpairing hf hg hM hN hr (l := cells cs) (by rw [cells_len]; omega) (x := .o S.length) (y := .o (S ++ [Cell.lst (flW cs f)]).length) (S := S ++ .lst (flW cs f) :: [.lst (flW cs g)]) (S1 := S ++ .fz (.list ((cells cs).map fun s => fr (f s))) :: [.lst (flW cs g)])
    (S2 := S ++ [.fz (.list ((cells cs).map fun s => fr (f s)))] ++ [.fz (.list ((cells cs).map fun s => fr (g s)))]) i1 (by
      have : S ++ Cell.fz (.list ((cells cs).map fun s => fr (f s))) :: [.lst (flW cs g)] = S ++ [Cell.fz (.list ((cells cs).map fun s => fr (f s)))] ++ [.lst (flW cs g)] := by simp
      rw [this]
      exact i2)
  refine ⟨[.lst (flW cs f)], [.lst (flW cs f), .lst (flW cs g)], [.fz (.list ((cells cs).map fun s => fr (f s))), .fz (.list ((cells cs).map fun s => fr (g s)))], e1, ?_, ?_⟩
  · rw [e2]; simp
  · rw [e3]; simp
noncomputable def lawBody : Fs := (fSeq (fSet 3 (fCall 2 [] R__law_draw (fCons (fVar 2) (fCons (fVar 1) fNil))))
  (fSeq (fSet 4 (fCall 2 [] R__law_touching (fCons (fVar 3) (fCons (fC (.d (.int 10))) fNil))))
  (fSeq (fPar 5 6 (fCons (fOp2 gIx (fVar 4) (fC (.d (.int 0)))) (fCons (fCall 1 [] R__law_mirror (fCons (fVar 4) fNil)) fNil)))
  (fSeq (fPar 7 8 (fCons (fCall 3 [] R__law_load (fCons (fVar 3) (fCons (fVar 5) (fCons (fC (.d (.int 3))) fNil)))) (fCons (fCall 3 [] R__law_load (fCons (fVar 3) (fCons (fVar 5) (fCons (fC (.d (.int 3))) fNil)))) fNil)))
  (fSeq (fPar 9 10 (fCons (fCB gRepr (fCons (fTup (fCons (fVar 4) (fCons (fVar 7) (fCons (fVar 8) fNil)))) fNil)) (fCons (fCall 2 [] R__law_digit (fCons (fVar 3) (fCons (fC (.d (.int 10))) fNil))) fNil)))
  (fSeq (fIf (fNot (fTru (fCall 2 [] R__law_named_right (fCons (fVar 4) (fCons (fVar 6) fNil))))) (fRet (fC (.d (.bool false)))) fSkip)
  (fSeq (fIf (fTru (fOp2 (dEq true) (fCB gRepr (fCons (fLst (fCons (fCall 2 [] R_turned (fCons (fVar 4) (fCons (fVar 7) fNil))) (fCons (fCall 2 [] R_turned (fCons (fVar 4) (fCons (fCall 2 [] R_turned (fCons (fVar 4) (fCons (fVar 7) fNil))) fNil))) fNil))) fNil)) (fCB gRepr (fCons (fLst (fCons (fCall 1 [] R__law_turned (fCons (fVar 7) fNil)) (fCons (fVar 7) fNil))) fNil)))) (fRet (fC (.d (.bool false)))) fSkip)
  (fSeq (fIf (fTru (fOp2 (dEq true) (fCB gRepr (fCons (fCall 3 [] R_paired (fCons (fVar 4) (fCons (fVar 7) (fCons (fVar 8) fNil)))) fNil)) (fCB gRepr (fCons (fCall 2 [] R__law_pairing (fCons (fCall 1 [] R__law_flat (fCons (fVar 7) fNil)) (fCons (fCall 1 [] R__law_flat (fCons (fVar 8) fNil)) fNil))) fNil)))) (fRet (fC (.d (.bool false)))) fSkip)
  (fSeq (fSet 11 (fCall 1 [] R__law_turned (fCons (fCall 3 [] R_behind (fCons (fVarD 6) (fCons (fCall 1 [] R__law_turned (fCons (fVar 8) fNil)) (fCons (fVar 10) fNil)))) fNil)))
  (fSeq (fSet 12 (fCall 3 [] R_paired (fCons (fVar 4) (fCons (fCall 3 [] R_behind (fCons (fVar 4) (fCons (fVar 7) (fCons (fVar 10) fNil)))) (fCons (fVar 8) fNil)))))
  (fSeq (fIf (fOr (fTru (fOp2 (dEq true) (fCB gRepr (fCons (fVar 12) fNil)) (fCB gRepr (fCons (fCall 3 [] R_paired (fCons (fVar 4) (fCons (fVar 7) (fCons (fVar 11) fNil)))) fNil)))) (fTru (fOp2 (dEq true) (fCB gRepr (fCons (fTup (fCons (fVar 4) (fCons (fVar 7) (fCons (fVar 8) fNil)))) fNil)) (fVar 9)))) (fRet (fC (.d (.bool false)))) fSkip)
  (fSeq (fPar 13 14 (fCons (fCall 2 [] R__law_digit (fCons (fVar 3) (fCons (fCB gLen (fCons (fVar 5) fNil)) fNil))) (fCons (fCall 2 [] R__law_digit (fCons (fVar 3) (fCons (fCB gLen (fCons (fVar 5) fNil)) fNil))) fNil)))
  (fSeq (fPar 15 16 (fCons (fCall 2 [] R__law_digit (fCons (fVar 3) (fCons (fOp2 gIx (fVar 5) (fVar 13)) fNil))) (fCons (fCall 2 [] R__law_digit (fCons (fVar 3) (fCons (fOp2 gIx (fVar 5) (fVar 14)) fNil))) fNil)))
  (fSeq (fSet 12 (fOp2 gIx (fOp2 gIx (fCall 3 [] R_behind (fCons (fVar 4) (fCons (fCall 2 [] R_one_at (fCons (fVar 4) (fCons (fTup (fCons (fVar 13) (fCons (fVar 15) fNil))) fNil))) (fCons (fVar 10) fNil)))) (fVar 14)) (fVar 16)))
  (fSeq (fSet 17 (fCall 3 [] R_behind (fCons (fVarD 6) (fCons (fCall 2 [] R_one_at (fCons (fVarD 6) (fCons (fTup (fCons (fVar 14) (fCons (fOp2 gMod (fOp2 gSub (fC (.d (.int 0))) (fVar 16)) (fOp2 gIx (fVar 5) (fVar 14))) fNil))) fNil))) (fCons (fVar 10) fNil)))))
  (fIf (fTru (fOp2 (dEq true) (fVar 12) (fOp2 gIx (fOp2 gIx (fVar 17) (fVar 13)) (fOp2 gMod (fOp2 gSub (fC (.d (.int 0))) (fVar 15)) (fOp2 gIx (fVar 5) (fVar 13)))))) (fRet (fC (.d (.bool false)))) fSkip))))))))))))))))
theorem bd_one (s : Spot) : ∀ t, Bd 1 1 ((fun t => if t = s then 1 else 0 : Load) t) := fun t => by
  by_cases ht : t = s
  · simp only [ht, if_true]
    exact Bd.one
  · simp only [ht, if_false]
    exact Bd.zero
theorem Pu.op {α : Type} {r : Out α} {S : Sto} {x : α} (h : Pu r S x) : ∃ S', r = .ok x S' ∧ ∃ T, S' = S ++ T := by
  obtain ⟨T, e⟩ := h
  exact ⟨_, e, T, rfl⟩
theorem StA.ext {n b : Nat} {S S' : Sto} (h : StA n b S) (x : ∃ T, S' = S ++ T) : StA n b S' := by
  obtain ⟨T, rfl⟩ := x
  exact h.app T
theorem fLst2 (f g : Fe W) (ρ : Slt) (S : Sto) : fLst (fCons f (fCons g fNil)) ρ S = (f ρ S).bind fun x S1 => (g ρ S1).bind fun y S2 => Out.ok (.o S2.length) (S2 ++ [.lst [x, y]]) := by
  unfold fLst
  simp only [ev_cons, ev_nil, Out.bind]
  cases f ρ S with
  | ok x S1 => dsimp only; cases g ρ S1 <;> rfl
  | ex e S => rfl
  | bad => rfl
theorem sS (a b : Nat) : PyData.tuple [.int (a : Nat), .int (b : Nat)] = sD (a, b) := rfl
theorem law_turn (i cell : Int) (hi : 0 ≤ i) (hi2 : i ≤ 1000) {a0 j3 j4 j5 j6 j7 j8 j9 j10 j11 j12 j13 j14 j15 j16 j17 j18 j19 : Option W} (S : Sto) : ∃ (k3 k4 k5 k6 k7 k8 k9 k10 k11 k12 k13 k14 k15 k16 k17 : Option W) (S' : Sto),
    lawBody [a0, some (.d (.int i)), some (.d (.int cell)), j3, j4, j5, j6, j7, j8, j9, j10, j11, j12, j13, j14, j15, j16, j17, j18, j19] S =
      .nx [a0, some (.d (.int i)), some (.d (.int cell)), k3, k4, k5, k6, k7, k8, k9, k10, k11, k12, k13, k14, k15, k16, k17, j18, j19] S' := by
  obtain ⟨l, e1⟩ := r_draw cell i hi hi2 S
  have s1 : StA S.length 1000000 (S ++ [stC l cell (1000 * i)]) := ⟨l, cell, 1000 * i, get_len_app _ _ _, by omega, by omega⟩
  obtain ⟨m, S2, e2, ok, hne, s2⟩ := r_touching s1 (by omega)
  obtain ⟨m', hm, _⟩ := mir_ex ok
  have fw := ok.few
  obtain ⟨S3, e3, x3⟩ := (r_lmirror ok hm S2).op
  obtain ⟨f, S4, e4, hf, s4, _⟩ := r_load (span := 3) (by decide) (s2.ext x3) (by omega) (cs := m.cs) fw.one fw.len ok.s30
  have e4' : R__law_load [.o S.length, .d (csD m.cs), .d (.int 3)] S3 = .ok (.d (ldD m.cs f)) S4 := e4
  obtain ⟨g, S5, e5, hg, s5, _⟩ := r_load (span := 3) (by decide) s4 (by omega) (cs := m.cs) fw.one fw.len ok.s30
  have e5' : R__law_load [.o S.length, .d (csD m.cs), .d (.int 3)] S4 = .ok (.d (ldD m.cs g)) S5 := e5
  have rpk := rp_kept3 ok hf hg
  have e6 := fun S => repr_ok rpk rfl (by decide) (by decide) S
  obtain ⟨kz, S6, e7, k0, k1, s6, _⟩ := r_digit s5 (by omega) (z := 10) (by decide) (by decide)
  obtain ⟨k, rfl⟩ : ∃ k : Nat, kz = (k : Int) := ⟨kz.toNat, by omega⟩
  have hk : k ≤ 9 := by omega
  obtain ⟨S8, e8, x8⟩ := (r_named_right ok hm S6).op
  -- turned
  have hfT : ∀ s, Bd 6 3 ((fun s => f (flp 0 m.cs s)) s) := fun s => hf _
  have hgT : ∀ s, Bd 6 3 ((fun s => g (flp 0 m.cs s)) s) := fun s => hg _
  obtain ⟨S9, e9, x9⟩ := (r_turned ok f S8).op
  obtain ⟨S10, e10, x10⟩ := (r_turned ok f S9).op
  obtain ⟨S11, e11, x11⟩ := (r_turned ok (fun s => f (flp 0 m.cs s)) S10).op
  rw [ld_turn2] at e11
  have rp2 := rp_two ok hfT hf
  have q1 : gRepr [.o S11.length] (S11 ++ [.lst [.d (ldD m.cs (fun s => f (flp 0 m.cs s))), .d (ldD m.cs f)]]) = some (_, _) := repr_o rp2 (by decide) (by decide) (get_len_app _ _ [])
  obtain ⟨S12, e12, x12⟩ := (r_lturned ok.pos fw f (S11 ++ [.lst [.d (ldD m.cs (fun s => f (flp 0 m.cs s))), .d (ldD m.cs f)]])).op
  have q2 : gRepr [.o S12.length] (S12 ++ [.lst [.d (ldD m.cs (fun s => f (flp 0 m.cs s))), .d (ldD m.cs f)]]) = some (_, _) := repr_o rp2 (by decide) (by decide) (get_len_app _ _ [])
  -- paired
  have rm0 : Rmp 6 3 6 3 30 := rmp_k (k := 0) (by decide)
  obtain ⟨S13, e13, x13⟩ := (r_paired ok hf hg (by decide) (by decide) rm0 (S12 ++ [.lst [.d (ldD m.cs (fun s => f (flp 0 m.cs s))), .d (ldD m.cs f)]])).op
  obtain ⟨T14, T15, T16, e14, e15, e16⟩ := lpair_flat ok.s30 hf hg (by decide) (by decide) rm0 S13
  have rpp := rp_pair ok.s30 hf hg rm0 (by decide)
  have q3 := fun S => repr_ok rpp rfl (by decide) (by decide) S
  -- over beats
  obtain ⟨S17, e17, x17⟩ := (r_lturned ok.pos fw g (S13 ++ T16)).op
  have fw' : Few m'.cs := by rw [hm.cs]; exact fw
  obtain ⟨S18, e18, x18⟩ := (r_behind hm.ok hgT (rmb_k (k := k) (by decide) (by decide) (by decide) hk) (by omega) S17).op
  rw [hm.cs] at e18
  obtain ⟨S19, e19, x19⟩ := (r_lturned ok.pos fw (beatN m' k fun s => g (flp 0 m.cs s)) S18).op
  obtain ⟨S20, e20, x20⟩ := (r_behind ok hf (rmb_k (k := k) (by decide) (by decide) (by decide) hk) (by omega) S19).op
  have hfk : ∀ s, Bd (6 * 2 ^ k) 3 (beatN m k f s) := Bd.beatN k hf
  have hgk : ∀ s, Bd (6 * 2 ^ k) 3 ((fun s => beatN m' k (fun s => g (flp 0 m.cs s)) (flp 0 m.cs s)) s) := fun s => Bd.beatN k hgT _
  obtain ⟨S21, e21, x21⟩ := (r_paired ok hfk hg (by decide) (by decide) (rmp_k hk) S20).op
  obtain ⟨S22, e22, x22⟩ := (r_paired ok hf hgk (by decide) (by decide) (rmp_k' hk) S21).op
  have rpb := rp_pair ok.s30 hfk hg (rmp_k hk) (by decide)
  rw [adj_pair ok hm f g k] at e21 rpb
  have q4 := fun S => repr_ok rpb rfl (by decide) (by decide) S
  have s7 : StA S.length 1001000 S22 := by
    exact ((((((((((((((s6.ext x8).ext x9).ext x10).ext x11).app _).ext x12).app _).ext x13).app _).ext x17).ext x18).ext x19).ext x20).ext x21 |>.ext x22).up (by omega)
  -- digits
  have hl := ok.l16
  have h0 : 0 < m.cs.length := List.length_pos_iff.mpr ok.ne
  have eLn : ∀ S, gLen [.d (csD m.cs)] S = some (.d (.int (m.cs.length : Nat)), S) := fun S => by
    rw [show csD m.cs = .tuple (m.cs.map fun c => .int (c : Nat)) from rfl, len_t, List.length_map]
  obtain ⟨w, S23, e23, w0, w1, s8, _⟩ := r_digit s7 (by omega) (z := (m.cs.length : Nat)) (by omega) (by omega)
  obtain ⟨w, rfl⟩ : ∃ k : Nat, w = (k : Int) := ⟨w.toNat, by omega⟩
  obtain ⟨v, S24, e24, v0, v1, s9, _⟩ := r_digit s8 (by omega) (z := (m.cs.length : Nat)) (by omega) (by omega)
  obtain ⟨v, rfl⟩ : ∃ k : Nat, v = (k : Int) := ⟨v.toNat, by omega⟩
  obtain ⟨c, hc⟩ : ∃ c, m.cs[w]? = some c := ⟨_, List.getElem?_eq_getElem (by omega)⟩
  obtain ⟨d, hd⟩ : ∃ c, m.cs[v]? = some c := ⟨_, List.getElem?_eq_getElem (by omega)⟩
  have c0 := ok.pos c (List.mem_of_getElem? hc)
  have d0 := ok.pos d (List.mem_of_getElem? hd)
  have c30 := fw.one c (List.mem_of_getElem? hc)
  have d30 := fw.one d (List.mem_of_getElem? hd)
  obtain ⟨p, S25, e25, p0, p1, s10, _⟩ := r_digit s9 (by omega) (z := (c : Nat)) (by omega) (by omega)
  obtain ⟨p, rfl⟩ : ∃ k : Nat, p = (k : Int) := ⟨p.toNat, by omega⟩
  obtain ⟨x, S26, e26, x0, x1, s11, _⟩ := r_digit s10 (by omega) (z := (d : Nat)) (by omega) (by omega)
  obtain ⟨x, rfl⟩ : ∃ k : Nat, x = (k : Int) := ⟨x.toNat, by omega⟩
  have hs : okS m.cs (w, p) := ⟨c, hc, by show p < c; omega⟩
  have hu : okS m.cs (v, x) := ⟨d, hd, by show x < d; omega⟩
  have g1 : flp 0 m.cs (w, p) = (w, ngm 0 p c) := by
    unfold flp
    rw [List.getD_eq_getElem?_getD, hc]
    rfl
  have g2 : flp 0 m.cs (v, x) = (v, ngm 0 x d) := by
    unfold flp
    rw [List.getD_eq_getElem?_getD, hd]
    rfl
  obtain ⟨S27, e27, _⟩ := (r_one_at ok hs S26).op
  obtain ⟨S28, e28, _⟩ := (r_behind ok (bd_one (w, p)) (rmb_k (k := k) (by decide) (by decide) (by decide) hk) (by omega) S27).op
  have hu' : okS m'.cs (v, ngm 0 x d) := by rw [hm.cs, ← g2]; exact flp_ok hu
  obtain ⟨S29, e29, _⟩ := (r_one_at hm.ok hu' S28).op
  obtain ⟨S30, e30, _⟩ := (r_behind hm.ok (bd_one (v, ngm 0 x d)) (rmb_k (k := k) (by decide) (by decide) (by decide) hk) (by omega) S29).op
  rw [hm.cs] at e29 e30
  have adj := adj_spot ok hm hs hu k
  rw [g1, g2] at adj
  have e31 : ∀ S, gIx (.d (ldD m.cs (beatN m k (unL (w, p))))) (.d (.int (v : Nat))) S = some (.d (rowD (beatN m k (unL (w, p))) (d, v)), S) := fun S => ix_ld (s := (v, x)) hd S
  have e32 : ∀ S, gIx (.d (rowD (beatN m k (unL (w, p))) (d, v))) (.d (.int (x : Nat))) S = some (.d (fr (beatN m k (unL (w, p)) (v, x))), S) := fun S => ix_row (by omega) S
  have e33 : ∀ S, gIx (.d (ldD m.cs (beatN m' k (unL (v, ngm 0 x d))))) (.d (.int (w : Nat))) S = some (.d (rowD (beatN m' k (unL (v, ngm 0 x d))) (c, w)), S) := fun S => ix_ld (s := (w, p)) hc S
  have e34 : ∀ S, gIx (.d (rowD (beatN m' k (unL (v, ngm 0 x d))) (c, w))) (.d (.int (ngm 0 p c : Nat))) S = some (.d (fr (beatN m' k (unL (v, ngm 0 x d)) (w, ngm 0 p c))), S) := fun S => ix_row (ngm_lt c0) S
  rw [adj] at e32
  have n1 : (0 - (x : Int)) % (d : Int) = ((ngm 0 x d : Nat) : Int) := (ngm_cast (a := 0) d0).symm
  have n2 : (0 - (p : Int)) % (c : Int) = ((ngm 0 p c : Nat) : Int) := (ngm_cast (a := 0) c0).symm
  have dp : (0 : Int) < (d : Int) := by omega
  have cp : (0 : Int) < (c : Int) := by omega
  refine ⟨some (.o S.length), some (.d (mD m)), some (.d (csD m.cs)), some (.u2 (mD m')), some (.d (ldD m.cs f)), some (.d (ldD m.cs g)), some (.d (.str (PyData.tuple [mD m, ldD m.cs f, ldD m.cs g]).shown)), some (.d (.int (k : Nat))), some (.d (ldD m.cs fun s => beatN m' k (fun s => g (flp 0 m.cs s)) (flp 0 m.cs s))), some (.d (fr (beatN m' k (unL (v, ngm 0 x d)) (w, ngm 0 p c)))), some (.d (.int (w : Nat))), some (.d (.int (v : Nat))), some (.d (.int (p : Nat))), some (.d (.int (x : Nat))), some (.d (ldD m.cs (beatN m' k (unL (v, ngm 0 x d))))), S30, ?_⟩
  unfold lawBody
  simp only [st_seq, st_set, ev_call, ev_cons, ev_nil, ev_var, ev_c, List.getElem?_cons_zero, List.getElem?_cons_succ, bind_ok, List.length_cons, List.length_nil, Nat.zero_add, Nat.reduceAdd, if_true, ofD_nil, List.append_nil, e1, fl_ok, List.set_cons_zero, List.set_cons_succ, e2, st_par, ev_op2, ix_m0, ofO_some, e3, e4', e5', fTup_d3, fzT_d3, ev_repr, e6, e7, st_if, ev_not, ev_tru, e8, truth_b, Option.map_some, Bool.not_true, Bool.false_eq_true, if_false, st_skip, fLst2, e9, e10, e11, q1, e12, q2, ne_str rp2.ok, e13, e14, e15, e16, q3, ne_str rpp.ok, ev_varD, unT_u2, e17, e18, e19, e20, e21, ev_or, q4, e22, ne_str rpb.ok, ne_str rpk.ok, ev_len, eLn, e23, e24, ix_cs hc, ix_cs hd, e25, e26, fTup_d2, fzT_d2, sS, e27, e28, e31, e32, sub_int, mod_int dp, n1, e29, e30, e33, mod_int cp, n2, e34, ne_self (pl_fr _) (by decide)]
end G
set_option Elab.async false
set_option linter.all false
set_option maxRecDepth 100000
set_option maxHeartbeats 4000000
/-! Q6: the law's end -/
namespace G
open PySem PySem.Spec L2 PyProof.Rows
set_option autoImplicit false
theorem law_true (ns : List Int) (h : ns.length ≤ 63) : ∃ S', R_law [.d (.list (ns.map PyData.int))] [] = .ok (.d (.bool true)) S' := by
  have e0 : (ns.map PyData.int).map W.d = iW ns := by simp [iW, List.map_map, Function.comp_def]
  have c1 : cutW (iW ns) none (some 1) = iW (ns.take 1) := by
    rw [cut_lo]
    simp [iW]
  have eS : ∀ ρ : Slt, ρ[0]? = some (some (.d (.list (ns.map PyData.int)))) → fSl (fVar 0) fNoP (fPart (fC (.d (.int 1)))) ρ [] = .ok (.o 0) [.lst (iW (ns.take 1))] := fun ρ hρ => by
    simp only [ev_sl, ev_var, hρ, bind_ok, noP, part1, sl_l, e0, c1, ofO_some]
    rfl
  have eU : ∀ S, gSum [.d (.list (ns.map PyData.int))] S = some (.d (.int ns.sum), S) := fun S => by
    show (match intsOf ((ns.map PyData.int).map W.d) with | some ns => some (W.d (.int ns.sum), S) | none => none) = _
    rw [intsOf_ds]
  have eL : ∀ ρ : Slt, ρ[0]? = some (some (.d (.list (ns.map PyData.int)))) → fLst (fCons (fCB gSum (fCons (fVar 0) fNil)) fNil) ρ [.lst (iW (ns.take 1))] = .ok (.o 1) [.lst (iW (ns.take 1)), .lst (iW [ns.sum])] := fun ρ hρ => by
    unfold fLst
    simp only [ev_cons, ev_nil, ev_sum, ev_var, hρ, bind_ok, eU, ofO_some]
    rfl
  have eA : gAdd (.o 0) (.o 1) [.lst (iW (ns.take 1)), .lst (iW [ns.sum])] = some (.o 2, [.lst (iW (ns.take 1)), .lst (iW [ns.sum]), .lst (iW (ns.take 1) ++ iW [ns.sum])]) :=
    add_o (S := [.lst (iW (ns.take 1)), .lst (iW [ns.sum])]) (a := 0) (c := 1) rfl rfl (by simp [iW]; omega)
  obtain ⟨xs, hxs⟩ : ∃ xs : List Int, xs = ns.take 1 ++ [ns.sum] := ⟨_, rfl⟩
  have eW : iW (ns.take 1) ++ iW [ns.sum] = (xs.map PyData.int).map W.d := by rw [hxs]; simp [iW, List.map_map, Function.comp_def]
  rw [eW] at eA
  have eI : itemsOf (.o 2) [.lst (iW (ns.take 1)), .lst (iW [ns.sum]), .lst ((xs.map PyData.int).map W.d)] = some (xs.map PyData.int, [.lst (iW (ns.take 1)), .lst (iW [ns.sum]), .fz (.list (xs.map PyData.int))]) := by
    unfold itemsOf
    have e : frz 6 (.o 2) [.lst (iW (ns.take 1)), .lst (iW [ns.sum]), .lst ((xs.map PyData.int).map W.d)] = some (.list (xs.map PyData.int), [.lst (iW (ns.take 1)), .lst (iW [ns.sum]), .fz (.list (xs.map PyData.int))]) := by
      show (match frzL (frz 5) ((xs.map PyData.int).map W.d) [.lst (iW (ns.take 1)), .lst (iW [ns.sum]), .lst ((xs.map PyData.int).map W.d)] with | some (ds, S1) => some (PyData.list ds, S1.set 2 (.fz (.list ds))) | none => none) = _
      rw [frzL_ds]
      rfl
    rw [e]
  have hlen : xs.length ≤ 4 := by rw [hxs]; simp; omega
  obtain ⟨ρ', S', h1, _, hF⟩ := forD_nx (g := gTp 2 (gsCons (gNm 1) (gsCons (gNm 2) gsNil))) (b := lawBody) (fun ds ρ S => (∀ x ∈ ds, ∃ i cell : Int, x = .tuple [.int i, .int cell] ∧ 0 ≤ i ∧ i ≤ 1000) ∧ ∃ a0 j1 j2 j3 j4 j5 j6 j7 j8 j9 j10 j11 j12 j13 j14 j15 j16 j17 j18 j19, ρ = [a0, j1, j2, j3, j4, j5, j6, j7, j8, j9, j10, j11, j12, j13, j14, j15, j16, j17, j18, j19]) (by
    rintro x ds ρ S ⟨hx, a0, j1, j2, j3, j4, j5, j6, j7, j8, j9, j10, j11, j12, j13, j14, j15, j16, j17, j18, j19, rfl⟩
    obtain ⟨i, cell, rfl, hi, hi2⟩ := hx x (by simp)
    obtain ⟨k3, k4, k5, k6, k7, k8, k9, k10, k11, k12, k13, k14, k15, k16, k17, S2, e⟩ := law_turn i cell hi hi2 (a0 := a0) (j3 := j3) (j4 := j4) (j5 := j5) (j6 := j6) (j7 := j7) (j8 := j8) (j9 := j9) (j10 := j10) (j11 := j11) (j12 := j12) (j13 := j13) (j14 := j14) (j15 := j15) (j16 := j16) (j17 := j17) (j18 := j18) (j19 := j19) S
    exact ⟨_, rfl, _, S2, e, fun y hy => hx y (by simp [hy]), _, _, _, _, _, _, _, _, _, _, _, _, _, _, _, _, _, _, _, _, rfl⟩) (enumD (xs.map PyData.int)) [some (.d (.list (ns.map PyData.int))), none, none, none, none, none, none, none, none, none, none, none, none, none, none, none, none, none, none, none] [.lst (iW (ns.take 1)), .lst (iW [ns.sum]), .fz (.list (xs.map PyData.int))]
    ⟨fun x hx => by
      unfold enumD at hx
      obtain ⟨⟨y, i⟩, hy, rfl⟩ := List.mem_map.mp hx
      have hz := List.mem_zipIdx hy
      have hl := hz.2.1
      simp at hl
      obtain ⟨cell, hc⟩ : ∃ cell : Int, y = .int cell := by
        have := hz.2.2
        simp at this
        exact ⟨_, this⟩
      exact ⟨(i : Nat), cell, by rw [hc], by omega, by omega⟩, _, _, _, _, _, _, _, _, _, _, _, _, _, _, _, _, _, _, _, _, rfl⟩
  obtain ⟨a0, j1, j2, j3, j4, j5, j6, j7, j8, j9, j10, j11, j12, j13, j14, j15, j16, j17, j18, j19, rfl⟩ := hF
  obtain ⟨S2, e2, _⟩ := (hand_ev (a := 18) (b := 19) (c := 17) (ρ := [a0, j1, j2, j3, j4, j5, j6, j7, j8, j9, j10, j11, j12, j13, j14, j15, j16, some (.d duB), some (.d mbD), some (.d ldB)]) rfl rfl rfl S').op
  have eB := bare_ev
  have eD := due_ev
  have gt18 : ∀ (ρ : Slt) (x y : PyData) (S : Sto), gTp 2 (gsCons (gNm 18) (gsCons (gNm 19) gsNil)) (.d (.tuple [x, y])) ρ S = some ((ρ.set 18 (some (.d x))).set 19 (some (.d y))) := fun ρ x y S => rfl
  unfold bareE e3 q2 at eB
  unfold dueE q2 at eD
  unfold handE at e2
  refine ⟨S2, ?_⟩
  unfold lawBody at h1
  unfold R_law runB B_law
  simp only [startR, List.map_cons, List.map_nil, List.length_cons, List.length_nil, Nat.zero_add, Nat.reduceAdd, Nat.reduceSub, List.replicate, List.cons_append, List.nil_append]
  rw [st_seq]
  have eF : ∀ ρ : Slt, ρ[0]? = some (some (.d (.list (ns.map PyData.int)))) → fEn (fCons (fOp2 gAdd (fSl (fVar 0) fNoP (fPart (fC (.d (.int 1))))) (fLst (fCons (fCB gSum (fCons (fVar 0) fNil)) fNil))) fNil) ρ [] = .ok (enumD (xs.map PyData.int)) [.lst (iW (ns.take 1)), .lst (iW [ns.sum]), .fz (.list (xs.map PyData.int))] := fun ρ hρ => by
    rw [en_ev, ev_op2, eS _ hρ]
    simp only [bind_ok]
    rw [eL _ hρ]
    simp only [bind_ok, eA, ofO_some, eI]
  rw [st_for, eF _ rfl, fl_ok, h1]
  dsimp only
  simp only [st_seq, st_asg, eB, fl_ok, gt18, List.set_cons_zero, List.set_cons_succ, st_set, eD, st_ret, e2]
end G
set_option Elab.async false
set_option linter.all false
set_option maxRecDepth 100000
set_option maxHeartbeats 4000000
namespace G
open PySem PySem.Spec L2 PyProof.Rows
set_option autoImplicit false
abbrev mods : List Stmt := PySem.Challenge.pw_evenwheels_k40_whole_mirrored.main.body
abbrev s_is_whole : Stmt := mods.getD 11 (.Pass ⟨0, 0, 0, 0⟩)
abbrev s_common : Stmt := mods.getD 12 (.Pass ⟨0, 0, 0, 0⟩)
abbrev s_is_nought : Stmt := mods.getD 18 (.Pass ⟨0, 0, 0, 0⟩)
abbrev s_is_shaped : Stmt := mods.getD 30 (.Pass ⟨0, 0, 0, 0⟩)
abbrev s_own_one_at : Stmt := mods.getD 33 (.Pass ⟨0, 0, 0, 0⟩)
abbrev s_mirror_spot : Stmt := mods.getD 40 (.Pass ⟨0, 0, 0, 0⟩)
abbrev s_own_turned : Stmt := mods.getD 47 (.Pass ⟨0, 0, 0, 0⟩)
abbrev s_flat : Stmt := mods.getD 49 (.Pass ⟨0, 0, 0, 0⟩)
abbrev s__law_mixed : Stmt := mods.getD 53 (.Pass ⟨0, 0, 0, 0⟩)
abbrev s__law_draw : Stmt := mods.getD 54 (.Pass ⟨0, 0, 0, 0⟩)
abbrev s__law_lowest : Stmt := mods.getD 59 (.Pass ⟨0, 0, 0, 0⟩)
abbrev s__law_flat : Stmt := mods.getD 64 (.Pass ⟨0, 0, 0, 0⟩)
abbrev s__law_mirror : Stmt := mods.getD 66 (.Pass ⟨0, 0, 0, 0⟩)
abbrev s__law_turned : Stmt := mods.getD 67 (.Pass ⟨0, 0, 0, 0⟩)
abbrev s_is_fraction : Stmt := mods.getD 13 (.Pass ⟨0, 0, 0, 0⟩)
abbrev s_lowest : Stmt := mods.getD 14 (.Pass ⟨0, 0, 0, 0⟩)
abbrev s_are_counts : Stmt := mods.getD 23 (.Pass ⟨0, 0, 0, 0⟩)
abbrev s_is_spot : Stmt := mods.getD 24 (.Pass ⟨0, 0, 0, 0⟩)
abbrev s_need_beats : Stmt := mods.getD 37 (.Pass ⟨0, 0, 0, 0⟩)
abbrev s_mirror_pair : Stmt := mods.getD 41 (.Pass ⟨0, 0, 0, 0⟩)
abbrev s_need_own_touch : Stmt := mods.getD 44 (.Pass ⟨0, 0, 0, 0⟩)
abbrev s__law_digit : Stmt := mods.getD 55 (.Pass ⟨0, 0, 0, 0⟩)
abbrev s__law_plus : Stmt := mods.getD 60 (.Pass ⟨0, 0, 0, 0⟩)
abbrev s__law_times : Stmt := mods.getD 61 (.Pass ⟨0, 0, 0, 0⟩)
abbrev s_plus : Stmt := mods.getD 15 (.Pass ⟨0, 0, 0, 0⟩)
abbrev s_times : Stmt := mods.getD 16 (.Pass ⟨0, 0, 0, 0⟩)
abbrev s_half : Stmt := mods.getD 17 (.Pass ⟨0, 0, 0, 0⟩)
abbrev s_is_touch : Stmt := mods.getD 25 (.Pass ⟨0, 0, 0, 0⟩)
abbrev s_need_own_load : Stmt := mods.getD 31 (.Pass ⟨0, 0, 0, 0⟩)
abbrev s_own_mirror : Stmt := mods.getD 42 (.Pass ⟨0, 0, 0, 0⟩)
abbrev s__law_counts : Stmt := mods.getD 56 (.Pass ⟨0, 0, 0, 0⟩)
abbrev s__law_touches : Stmt := mods.getD 57 (.Pass ⟨0, 0, 0, 0⟩)
abbrev s__law_load : Stmt := mods.getD 63 (.Pass ⟨0, 0, 0, 0⟩)
abbrev s__law_pairing : Stmt := mods.getD 65 (.Pass ⟨0, 0, 0, 0⟩)
abbrev s_touches_misfit : Stmt := mods.getD 26 (.Pass ⟨0, 0, 0, 0⟩)
abbrev s_own_read : Stmt := mods.getD 35 (.Pass ⟨0, 0, 0, 0⟩)
abbrev s_own_mirror_touch : Stmt := mods.getD 45 (.Pass ⟨0, 0, 0, 0⟩)
abbrev s_pairing : Stmt := mods.getD 50 (.Pass ⟨0, 0, 0, 0⟩)
abbrev s__law_machine : Stmt := mods.getD 58 (.Pass ⟨0, 0, 0, 0⟩)
abbrev s_need_machine : Stmt := mods.getD 27 (.Pass ⟨0, 0, 0, 0⟩)
abbrev s_own_beat : Stmt := mods.getD 36 (.Pass ⟨0, 0, 0, 0⟩)
abbrev s__law_touching : Stmt := mods.getD 62 (.Pass ⟨0, 0, 0, 0⟩)
abbrev s_need_load : Stmt := mods.getD 32 (.Pass ⟨0, 0, 0, 0⟩)
abbrev s_one_at : Stmt := mods.getD 34 (.Pass ⟨0, 0, 0, 0⟩)
abbrev s_mirror : Stmt := mods.getD 43 (.Pass ⟨0, 0, 0, 0⟩)
abbrev s_mirror_touch : Stmt := mods.getD 46 (.Pass ⟨0, 0, 0, 0⟩)
abbrev s_behind : Stmt := mods.getD 38 (.Pass ⟨0, 0, 0, 0⟩)
abbrev s_turned : Stmt := mods.getD 48 (.Pass ⟨0, 0, 0, 0⟩)
abbrev s_paired : Stmt := mods.getD 51 (.Pass ⟨0, 0, 0, 0⟩)
abbrev s__law_named_right : Stmt := mods.getD 68 (.Pass ⟨0, 0, 0, 0⟩)
abbrev s_law : Stmt := mods.getD 69 (.Pass ⟨0, 0, 0, 0⟩)
structure Txt (Γ : Gm) (K : PySem.W.Frag) (mg : Str → Option Value) : Prop where
  z_abs : mg "abs" = none
  z_all : mg "all" = none
  z_bool : mg "bool" = none
  z_enumerate : mg "enumerate" = none
  z_int : mg "int" = none
  z_isinstance : mg "isinstance" = none
  z_len : mg "len" = none
  z_list : mg "list" = none
  z_max : mg "max" = none
  z_min : mg "min" = none
  z_range : mg "range" = none
  z_repr : mg "repr" = none
  z_sorted : mg "sorted" = none
  z_sum : mg "sum" = none
  z_tuple : mg "tuple" = none
  z_zip : mg "zip" = none
  c_MOST_BEATS : GlD K mg "MOST_BEATS" (.int 300)
  c_MOST_CELLS : GlD K mg "MOST_CELLS" (.int 30)
  c_MOST_TOUCHES : GlD K mg "MOST_TOUCHES" (.int 8)
  c_MOST_WHEELS : GlD K mg "MOST_WHEELS" (.int 16)
  c_NOUGHT : GlD K mg "NOUGHT" (.tuple [.int 0, .int 1])
  c_ONE : GlD K mg "ONE" (.tuple [.int 1, .int 1])
section
variable {Γ : Gm} {P : Program} {wd : World} {K : PySem.W.Frag} {mg : Str → Option Value} {base : Heap}
theorem sc_is_whole : FnScope ["thing"] ["thing"] (defScope s_is_whole) := ⟨rfl, rfl, rfl, by decide +kernel, rfl, by decide +kernel, by decide +kernel⟩
theorem fo_is_whole (T : Txt Γ K mg)  {f : Addr} {fd : FuncData} (F : FunD K "is_whole" "is_whole" (defArgs s_is_whole) (defBody s_is_whole) (defScope s_is_whole) [] [] f fd) : FnOk P wd K mg base (L2.CX P wd) 1 f fd ["thing"] (spOf Γ K 1 R_is_whole) := by
  have S := sc_is_whole
  refine fn_rule F sc_is_whole fun cdv A outer s H E hr => ?_
  have tk : Takes (cxOf (L2.CX P wd) P wd K mg base ["thing"] "is_whole" (defScope s_is_whole) f cdv A outer s H E) (fun c d _ H => E c d H) := takes_of rfl rfl rfl rfl
  have rm : Rm (cxOf (L2.CX P wd) P wd K mg base ["thing"] "is_whole" (defScope s_is_whole) f cdv A outer s H E) := rm_of hr
  exact (vb_one (vs_ret (ve_and (bi_int T.z_isinstance T.z_int (ve_var 0)) (ve_one (ve_not (bi_bool T.z_isinstance T.z_bool (ve_var 0)))))))
theorem ok_is_whole (T : Txt Γ K mg)  {f : Addr} {fd : FuncData} (F : FunD K "is_whole" "is_whole" (defArgs s_is_whole) (defBody s_is_whole) (defScope s_is_whole) [] [] f fd) (hm : mg "is_whole" = some (.ref f)) : Cal Γ P wd K mg base 1 "is_whole" 1 [] R_is_whole :=
  Cal.of F hm rfl (fun _ _ _ _ _ _ us hl => match us, hl with | [_], _ => rfl) (fo_is_whole T  F)
theorem sc_common : FnScope ["one", "other"] ["one", "other"] (defScope s_common) := ⟨rfl, rfl, rfl, by decide +kernel, rfl, by decide +kernel, by decide +kernel⟩
theorem fo_common (T : Txt Γ K mg)  {f : Addr} {fd : FuncData} (F : FunD K "common" "common" (defArgs s_common) (defBody s_common) (defScope s_common) [] [] f fd) : FnOk P wd K mg base (L2.CX P wd) 1 f fd ["one", "other"] (spOf Γ K 2 R_common) := by
  have S := sc_common
  refine fn_rule F sc_common fun cdv A outer s H E hr => ?_
  have tk : Takes (cxOf (L2.CX P wd) P wd K mg base ["one", "other"] "common" (defScope s_common) f cdv A outer s H E) (fun c d _ H => E c d H) := takes_of rfl rfl rfl rfl
  have rm : Rm (cxOf (L2.CX P wd) P wd K mg base ["one", "other"] "common" (defScope s_common) f cdv A outer s H E) := rm_of hr
  exact (vb_cons (vs_par 0 1 (va_cons (bc_abs T.z_abs  (va_cons (ve_var 0) va_nil)) (va_cons (bc_abs T.z_abs  (va_cons (ve_var 1) va_nil)) va_nil)) S.nd (by rfl))
    (vb_cons (vs_while PassesOwn.leaving (vt_ne rm (ve_var 1) ve_int) (vb_one (vs_par 0 1 (va_cons (ve_var 1) (va_cons (ve_md (ve_var 0) (ve_var 1)) va_nil)) S.nd (by rfl))))
    (vb_one (vs_ret (ve_var 0)))))
theorem ok_common (T : Txt Γ K mg)  {f : Addr} {fd : FuncData} (F : FunD K "common" "common" (defArgs s_common) (defBody s_common) (defScope s_common) [] [] f fd) (hm : mg "common" = some (.ref f)) : Cal Γ P wd K mg base 1 "common" 2 [] R_common :=
  Cal.of F hm rfl (fun _ _ _ _ _ _ us hl => match us, hl with | [_, _], _ => rfl) (fo_common T  F)
theorem sc_is_nought : FnScope ["one"] ["one"] (defScope s_is_nought) := ⟨rfl, rfl, rfl, by decide +kernel, rfl, by decide +kernel, by decide +kernel⟩
theorem fo_is_nought (T : Txt Γ K mg)  {f : Addr} {fd : FuncData} (F : FunD K "is_nought" "is_nought" (defArgs s_is_nought) (defBody s_is_nought) (defScope s_is_nought) [] [] f fd) : FnOk P wd K mg base (L2.CX P wd) 1 f fd ["one"] (spOf Γ K 1 R_is_nought) := by
  have S := sc_is_nought
  refine fn_rule F sc_is_nought fun cdv A outer s H E hr => ?_
  have tk : Takes (cxOf (L2.CX P wd) P wd K mg base ["one"] "is_nought" (defScope s_is_nought) f cdv A outer s H E) (fun c d _ H => E c d H) := takes_of rfl rfl rfl rfl
  have rm : Rm (cxOf (L2.CX P wd) P wd K mg base ["one"] "is_nought" (defScope s_is_nought) f cdv A outer s H E) := rm_of hr
  exact (vb_one (vs_ret (ve_eq rm (ve_ix (ve_var 0) ve_int) ve_int)))
theorem ok_is_nought (T : Txt Γ K mg)  {f : Addr} {fd : FuncData} (F : FunD K "is_nought" "is_nought" (defArgs s_is_nought) (defBody s_is_nought) (defScope s_is_nought) [] [] f fd) (hm : mg "is_nought" = some (.ref f)) : Cal Γ P wd K mg base 1 "is_nought" 1 [] R_is_nought :=
  Cal.of F hm rfl (fun _ _ _ _ _ _ us hl => match us, hl with | [_], _ => rfl) (fo_is_nought T  F)
theorem sc_is_shaped : FnScope ["counts", "thing", "row", "count"] ["counts", "thing"] (defScope s_is_shaped) := ⟨rfl, rfl, rfl, by decide +kernel, rfl, by decide +kernel, by decide +kernel⟩
theorem fo_is_shaped (T : Txt Γ K mg)  {f : Addr} {fd : FuncData} (F : FunD K "is_shaped" "is_shaped" (defArgs s_is_shaped) (defBody s_is_shaped) (defScope s_is_shaped) [] [] f fd) : FnOk P wd K mg base (L2.CX P wd) 1 f fd ["counts", "thing"] (spOf Γ K 2 R_is_shaped) := by
  have S := sc_is_shaped
  refine fn_rule F sc_is_shaped fun cdv A outer s H E hr => ?_
  have tk : Takes (cxOf (L2.CX P wd) P wd K mg base ["counts", "thing", "row", "count"] "is_shaped" (defScope s_is_shaped) f cdv A outer s H E) (fun c d _ H => E c d H) := takes_of rfl rfl rfl rfl
  have rm : Rm (cxOf (L2.CX P wd) P wd K mg base ["counts", "thing", "row", "count"] "is_shaped" (defScope s_is_shaped) f cdv A outer s H E) := rm_of hr
  exact (vb_cons (vs_if (VW.vt (vw_or (vt_not (vt_val (bi_tuple T.z_isinstance T.z_tuple (ve_var 1)))) (vw_or1 (vt_ne rm (bc_len T.z_len  (va_cons (ve_var 1) va_nil)) (bc_len T.z_len  (va_cons (ve_var 0) va_nil)))))) (vb_one (vs_ret ve_bl)) vb_nil)
    (vb_one (vs_ret (bc_all T.z_all rfl (va_cons (ve_lc [("row", 2), ("count", 3)] S.nd (vi_zip2 (va_cons (ve_var 1) (va_cons (ve_var 0) va_nil)) T.z_zip) (blkOk_by (by rfl)) (fun _ _ _ _ _ => (vg_tup (vgs_cons (vg_name 2 S.nd) (vgs_cons (vg_name 3 S.nd) vgs_nil)))) (fun _ _ _ _ _ => vts_nil) (fun _ _ _ _ _ => (ve_and (bi_tuple T.z_isinstance T.z_tuple (ve_var 2)) (ve_one (ve_eq (by exact rm) (bc_len T.z_len  (va_cons (ve_var 2) va_nil)) (ve_var 3)))))) va_nil)))))
theorem ok_is_shaped (T : Txt Γ K mg)  {f : Addr} {fd : FuncData} (F : FunD K "is_shaped" "is_shaped" (defArgs s_is_shaped) (defBody s_is_shaped) (defScope s_is_shaped) [] [] f fd) (hm : mg "is_shaped" = some (.ref f)) : Cal Γ P wd K mg base 1 "is_shaped" 2 [] R_is_shaped :=
  Cal.of F hm rfl (fun _ _ _ _ _ _ us hl => match us, hl with | [_, _], _ => rfl) (fo_is_shaped T  F)
theorem sc_own_one_at : FnScope ["machine", "spot", "place", "wheel", "count"] ["machine", "spot"] (defScope s_own_one_at) := ⟨rfl, rfl, rfl, by decide +kernel, rfl, by decide +kernel, by decide +kernel⟩
theorem fo_own_one_at (T : Txt Γ K mg)  {f : Addr} {fd : FuncData} (F : FunD K "own_one_at" "own_one_at" (defArgs s_own_one_at) (defBody s_own_one_at) (defScope s_own_one_at) [] [] f fd) : FnOk P wd K mg base (L2.CX P wd) 1 f fd ["machine", "spot"] (spOf Γ K 2 R_own_one_at) := by
  have S := sc_own_one_at
  refine fn_rule F sc_own_one_at fun cdv A outer s H E hr => ?_
  have tk : Takes (cxOf (L2.CX P wd) P wd K mg base ["machine", "spot", "place", "wheel", "count"] "own_one_at" (defScope s_own_one_at) f cdv A outer s H E) (fun c d _ H => E c d H) := takes_of rfl rfl rfl rfl
  have rm : Rm (cxOf (L2.CX P wd) P wd K mg base ["machine", "spot", "place", "wheel", "count"] "own_one_at" (defScope s_own_one_at) f cdv A outer s H E) := rm_of hr
  exact (vb_one (vs_ret (bc_tuple T.z_tuple  (va_cons (ve_lc [("wheel", 3), ("count", 4)] S.nd (vi_enum (va_cons (ve_ix (ve_var 0) ve_int) va_nil) T.z_enumerate) (blkOk_by (by rfl)) (fun _ _ _ _ _ => (vg_tup (vgs_cons (vg_name 3 S.nd) (vgs_cons (vg_name 4 S.nd) vgs_nil)))) (fun _ _ _ _ _ => vts_nil) (fun _ _ _ _ _ => (bc_tuple T.z_tuple  (va_cons (ve_lc [("place", 2)] S.nd (vi_r1 (va_cons (ve_var 4) va_nil) T.z_range) (blkOk_by (by rfl)) (fun _ _ _ _ _ => (vg_name 2 S.nd)) (fun _ _ _ _ _ => vts_nil) (fun _ _ _ _ _ => (ve_if (vt_eq (by exact rm) (ve_tup (va_cons (ve_var 3) (va_cons (ve_var 2) va_nil))) (ve_var 1)) (ve_glob T.c_ONE) (ve_glob T.c_NOUGHT)))) va_nil)))) va_nil))))
theorem ok_own_one_at (T : Txt Γ K mg)  {f : Addr} {fd : FuncData} (F : FunD K "own_one_at" "own_one_at" (defArgs s_own_one_at) (defBody s_own_one_at) (defScope s_own_one_at) [] [] f fd) (hm : mg "own_one_at" = some (.ref f)) : Cal Γ P wd K mg base 1 "own_one_at" 2 [] R_own_one_at :=
  Cal.of F hm rfl (fun _ _ _ _ _ _ us hl => match us, hl with | [_, _], _ => rfl) (fo_own_one_at T  F)
theorem sc_mirror_spot : FnScope ["counts", "spot", "wheel", "place"] ["counts", "spot"] (defScope s_mirror_spot) := ⟨rfl, rfl, rfl, by decide +kernel, rfl, by decide +kernel, by decide +kernel⟩
theorem fo_mirror_spot (T : Txt Γ K mg)  {f : Addr} {fd : FuncData} (F : FunD K "mirror_spot" "mirror_spot" (defArgs s_mirror_spot) (defBody s_mirror_spot) (defScope s_mirror_spot) [] [] f fd) : FnOk P wd K mg base (L2.CX P wd) 1 f fd ["counts", "spot"] (spOf Γ K 2 R_mirror_spot) := by
  have S := sc_mirror_spot
  refine fn_rule F sc_mirror_spot fun cdv A outer s H E hr => ?_
  have tk : Takes (cxOf (L2.CX P wd) P wd K mg base ["counts", "spot", "wheel", "place"] "mirror_spot" (defScope s_mirror_spot) f cdv A outer s H E) (fun c d _ H => E c d H) := takes_of rfl rfl rfl rfl
  have rm : Rm (cxOf (L2.CX P wd) P wd K mg base ["counts", "spot", "wheel", "place"] "mirror_spot" (defScope s_mirror_spot) f cdv A outer s H E) := rm_of hr
  exact (vb_cons (vs_asg (ve_var 1) (vg_tup (vgs_cons (vg_name 2 S.nd) (vgs_cons (vg_name 3 S.nd) vgs_nil))))
    (vb_one (vs_ret (ve_tup (va_cons (ve_var 2) (va_cons (ve_md (ve_sub ve_int (ve_var 3)) (ve_ix (ve_var 0) (ve_var 2))) va_nil))))))
theorem ok_mirror_spot (T : Txt Γ K mg)  {f : Addr} {fd : FuncData} (F : FunD K "mirror_spot" "mirror_spot" (defArgs s_mirror_spot) (defBody s_mirror_spot) (defScope s_mirror_spot) [] [] f fd) (hm : mg "mirror_spot" = some (.ref f)) : Cal Γ P wd K mg base 1 "mirror_spot" 2 [] R_mirror_spot :=
  Cal.of F hm rfl (fun _ _ _ _ _ _ us hl => match us, hl with | [_, _], _ => rfl) (fo_mirror_spot T  F)
theorem sc_own_turned : FnScope ["load", "row"] ["load"] (defScope s_own_turned) := ⟨rfl, rfl, rfl, by decide +kernel, rfl, by decide +kernel, by decide +kernel⟩
theorem fo_own_turned (T : Txt Γ K mg)  {f : Addr} {fd : FuncData} (F : FunD K "own_turned" "own_turned" (defArgs s_own_turned) (defBody s_own_turned) (defScope s_own_turned) [] [] f fd) : FnOk P wd K mg base (L2.CX P wd) 1 f fd ["load"] (spOf Γ K 1 R_own_turned) := by
  have S := sc_own_turned
  refine fn_rule F sc_own_turned fun cdv A outer s H E hr => ?_
  have tk : Takes (cxOf (L2.CX P wd) P wd K mg base ["load", "row"] "own_turned" (defScope s_own_turned) f cdv A outer s H E) (fun c d _ H => E c d H) := takes_of rfl rfl rfl rfl
  have rm : Rm (cxOf (L2.CX P wd) P wd K mg base ["load", "row"] "own_turned" (defScope s_own_turned) f cdv A outer s H E) := rm_of hr
  exact (vb_one (vs_ret (bc_tuple T.z_tuple  (va_cons (ve_lc [("row", 1)] S.nd (vi_val (ve_var 0)) (blkOk_by (by rfl)) (fun _ _ _ _ _ => (vg_name 1 S.nd)) (fun _ _ _ _ _ => vts_nil) (fun _ _ _ _ _ => (ve_add (ve_slice (ve_var 1) vo_none (vo_some ve_int)) (ve_back (ve_var 1))))) va_nil))))
theorem ok_own_turned (T : Txt Γ K mg)  {f : Addr} {fd : FuncData} (F : FunD K "own_turned" "own_turned" (defArgs s_own_turned) (defBody s_own_turned) (defScope s_own_turned) [] [] f fd) (hm : mg "own_turned" = some (.ref f)) : Cal Γ P wd K mg base 1 "own_turned" 1 [] R_own_turned :=
  Cal.of F hm rfl (fun _ _ _ _ _ _ us hl => match us, hl with | [_], _ => rfl) (fo_own_turned T  F)
theorem sc_flat : FnScope ["load", "row", "one"] ["load"] (defScope s_flat) := ⟨rfl, rfl, rfl, by decide +kernel, rfl, by decide +kernel, by decide +kernel⟩
theorem fo_flat (T : Txt Γ K mg)  {f : Addr} {fd : FuncData} (F : FunD K "flat" "flat" (defArgs s_flat) (defBody s_flat) (defScope s_flat) [] [] f fd) : FnOk P wd K mg base (L2.CX P wd) 1 f fd ["load"] (spOf Γ K 1 R_flat) := by
  have S := sc_flat
  refine fn_rule F sc_flat fun cdv A outer s H E hr => ?_
  have tk : Takes (cxOf (L2.CX P wd) P wd K mg base ["load", "row", "one"] "flat" (defScope s_flat) f cdv A outer s H E) (fun c d _ H => E c d H) := takes_of rfl rfl rfl rfl
  have rm : Rm (cxOf (L2.CX P wd) P wd K mg base ["load", "row", "one"] "flat" (defScope s_flat) f cdv A outer s H E) := rm_of hr
  exact (vb_one (vs_ret (ve_lc2 [("row", 1), ("one", 2)] [2] S.nd (vi_val (ve_var 0)) (blkOk_by (by rfl)) (fun _ _ _ _ _ => (vg_name 1 S.nd)) (fun _ _ _ _ _ => vts_nil) (fun _ _ _ _ _ => (vi_val (ve_var 1))) (fun _ _ _ _ _ => (vg_name 2 S.nd)) (fun _ _ _ _ _ => vts_nil) (fun _ _ _ _ _ => (ve_var 2)))))
theorem ok_flat (T : Txt Γ K mg)  {f : Addr} {fd : FuncData} (F : FunD K "flat" "flat" (defArgs s_flat) (defBody s_flat) (defScope s_flat) [] [] f fd) (hm : mg "flat" = some (.ref f)) : Cal Γ P wd K mg base 1 "flat" 1 [] R_flat :=
  Cal.of F hm rfl (fun _ _ _ _ _ _ us hl => match us, hl with | [_], _ => rfl) (fo_flat T  F)
theorem sc__law_mixed : FnScope ["cell", "k", "mixed"] ["cell", "k"] (defScope s__law_mixed) := ⟨rfl, rfl, rfl, by decide +kernel, rfl, by decide +kernel, by decide +kernel⟩
theorem fo__law_mixed (T : Txt Γ K mg)  {f : Addr} {fd : FuncData} (F : FunD K "_law_mixed" "_law_mixed" (defArgs s__law_mixed) (defBody s__law_mixed) (defScope s__law_mixed) [] [] f fd) : FnOk P wd K mg base (L2.CX P wd) 1 f fd ["cell", "k"] (spOf Γ K 2 R__law_mixed) := by
  have S := sc__law_mixed
  refine fn_rule F sc__law_mixed fun cdv A outer s H E hr => ?_
  have tk : Takes (cxOf (L2.CX P wd) P wd K mg base ["cell", "k", "mixed"] "_law_mixed" (defScope s__law_mixed) f cdv A outer s H E) (fun c d _ H => E c d H) := takes_of rfl rfl rfl rfl
  have rm : Rm (cxOf (L2.CX P wd) P wd K mg base ["cell", "k", "mixed"] "_law_mixed" (defScope s__law_mixed) f cdv A outer s H E) := rm_of hr
  exact (vb_cons (vs_set 2 (ve_add (ve_add (ve_md (ve_var 0) (ve_ix (ve_lst (va_cons ve_int (va_cons ve_int (va_cons ve_int (va_cons ve_int va_nil))))) (ve_md (ve_var 1) ve_int))) (ve_mul ve_int (ve_var 1))) ve_int) S.nd)
    (vb_one (vs_ret (ve_md (ve_mul (ve_md (ve_mul (ve_var 2) (ve_var 2)) ve_int) ve_int) ve_int))))
theorem ok__law_mixed (T : Txt Γ K mg)  {f : Addr} {fd : FuncData} (F : FunD K "_law_mixed" "_law_mixed" (defArgs s__law_mixed) (defBody s__law_mixed) (defScope s__law_mixed) [] [] f fd) (hm : mg "_law_mixed" = some (.ref f)) : Cal Γ P wd K mg base 1 "_law_mixed" 2 [] R__law_mixed :=
  Cal.of F hm rfl (fun _ _ _ _ _ _ us hl => match us, hl with | [_, _], _ => rfl) (fo__law_mixed T  F)
theorem sc__law_draw : FnScope ["cell", "k"] ["cell", "k"] (defScope s__law_draw) := ⟨rfl, rfl, rfl, by decide +kernel, rfl, by decide +kernel, by decide +kernel⟩
theorem fo__law_draw (T : Txt Γ K mg)  {f : Addr} {fd : FuncData} (F : FunD K "_law_draw" "_law_draw" (defArgs s__law_draw) (defBody s__law_draw) (defScope s__law_draw) [] [] f fd) : FnOk P wd K mg base (L2.CX P wd) 1 f fd ["cell", "k"] (spOf Γ K 2 R__law_draw) := by
  have S := sc__law_draw
  refine fn_rule F sc__law_draw fun cdv A outer s H E hr => ?_
  have tk : Takes (cxOf (L2.CX P wd) P wd K mg base ["cell", "k"] "_law_draw" (defScope s__law_draw) f cdv A outer s H E) (fun c d _ H => E c d H) := takes_of rfl rfl rfl rfl
  have rm : Rm (cxOf (L2.CX P wd) P wd K mg base ["cell", "k"] "_law_draw" (defScope s__law_draw) f cdv A outer s H E) := rm_of hr
  exact (vb_one (vs_ret (ve_disp (vps_cons ve_str (ve_if (vt_ge rm (ve_var 0) (ve_pw ve_int ve_int)) (ve_var 0) ve_int) (vps_cons ve_str (ve_var 0) (vps_cons ve_str (ve_mul ve_int (ve_var 1)) vps_nil))))))
theorem ok__law_draw (T : Txt Γ K mg)  {f : Addr} {fd : FuncData} (F : FunD K "_law_draw" "_law_draw" (defArgs s__law_draw) (defBody s__law_draw) (defScope s__law_draw) [] [] f fd) (hm : mg "_law_draw" = some (.ref f)) : Cal Γ P wd K mg base 1 "_law_draw" 2 [] R__law_draw :=
  Cal.of F hm rfl (fun _ _ _ _ _ _ us hl => match us, hl with | [_, _], _ => rfl) (fo__law_draw T  F)
theorem sc__law_lowest : FnScope ["top", "bottom", "one", "other"] ["top", "bottom"] (defScope s__law_lowest) := ⟨rfl, rfl, rfl, by decide +kernel, rfl, by decide +kernel, by decide +kernel⟩
theorem fo__law_lowest (T : Txt Γ K mg)  {f : Addr} {fd : FuncData} (F : FunD K "_law_lowest" "_law_lowest" (defArgs s__law_lowest) (defBody s__law_lowest) (defScope s__law_lowest) [] [] f fd) : FnOk P wd K mg base (L2.CX P wd) 1 f fd ["top", "bottom"] (spOf Γ K 2 R__law_lowest) := by
  have S := sc__law_lowest
  refine fn_rule F sc__law_lowest fun cdv A outer s H E hr => ?_
  have tk : Takes (cxOf (L2.CX P wd) P wd K mg base ["top", "bottom", "one", "other"] "_law_lowest" (defScope s__law_lowest) f cdv A outer s H E) (fun c d _ H => E c d H) := takes_of rfl rfl rfl rfl
  have rm : Rm (cxOf (L2.CX P wd) P wd K mg base ["top", "bottom", "one", "other"] "_law_lowest" (defScope s__law_lowest) f cdv A outer s H E) := rm_of hr
  exact (vb_cons (vs_par 2 3 (va_cons (bc_abs T.z_abs  (va_cons (ve_var 0) va_nil)) (va_cons (ve_var 1) va_nil)) S.nd (by rfl))
    (vb_cons (vs_while PassesOwn.leaving (vt_ne rm (ve_var 3) ve_int) (vb_one (vs_par 2 3 (va_cons (ve_var 3) (va_cons (ve_md (ve_var 2) (ve_var 3)) va_nil)) S.nd (by rfl))))
    (vb_one (vs_ret (ve_tup (va_cons (ve_fdv (ve_var 0) (ve_var 2)) (va_cons (ve_fdv (ve_var 1) (ve_var 2)) va_nil)))))))
theorem ok__law_lowest (T : Txt Γ K mg)  {f : Addr} {fd : FuncData} (F : FunD K "_law_lowest" "_law_lowest" (defArgs s__law_lowest) (defBody s__law_lowest) (defScope s__law_lowest) [] [] f fd) (hm : mg "_law_lowest" = some (.ref f)) : Cal Γ P wd K mg base 1 "_law_lowest" 2 [] R__law_lowest :=
  Cal.of F hm rfl (fun _ _ _ _ _ _ us hl => match us, hl with | [_, _], _ => rfl) (fo__law_lowest T  F)
theorem sc__law_flat : FnScope ["load", "found", "row"] ["load"] (defScope s__law_flat) := ⟨rfl, rfl, rfl, by decide +kernel, rfl, by decide +kernel, by decide +kernel⟩
theorem fo__law_flat (T : Txt Γ K mg)  {f : Addr} {fd : FuncData} (F : FunD K "_law_flat" "_law_flat" (defArgs s__law_flat) (defBody s__law_flat) (defScope s__law_flat) [] [] f fd) : FnOk P wd K mg base (L2.CX P wd) 1 f fd ["load"] (spOf Γ K 1 R__law_flat) := by
  have S := sc__law_flat
  refine fn_rule F sc__law_flat fun cdv A outer s H E hr => ?_
  have tk : Takes (cxOf (L2.CX P wd) P wd K mg base ["load", "found", "row"] "_law_flat" (defScope s__law_flat) f cdv A outer s H E) (fun c d _ H => E c d H) := takes_of rfl rfl rfl rfl
  have rm : Rm (cxOf (L2.CX P wd) P wd K mg base ["load", "found", "row"] "_law_flat" (defScope s__law_flat) f cdv A outer s H E) := rm_of hr
  exact (vb_cons (vs_set 1 (ve_lst va_nil) S.nd)
    (vb_cons (vs_for PassesOwn.leaving (vi_val (ve_var 0)) (vg_name 2 S.nd) (vb_one (vs_expr (bm_extend (ve_var 1) (va_cons (ve_var 2) va_nil)))))
    (vb_one (vs_ret (ve_var 1)))))
theorem ok__law_flat (T : Txt Γ K mg)  {f : Addr} {fd : FuncData} (F : FunD K "_law_flat" "_law_flat" (defArgs s__law_flat) (defBody s__law_flat) (defScope s__law_flat) [] [] f fd) (hm : mg "_law_flat" = some (.ref f)) : Cal Γ P wd K mg base 1 "_law_flat" 1 [] R__law_flat :=
  Cal.of F hm rfl (fun _ _ _ _ _ _ us hl => match us, hl with | [_], _ => rfl) (fo__law_flat T  F)
theorem sc__law_mirror : FnScope ["machine", "found", "touch", "wheel", "place"] ["machine"] (defScope s__law_mirror) := ⟨rfl, rfl, rfl, by decide +kernel, rfl, by decide +kernel, by decide +kernel⟩
theorem fo__law_mirror (T : Txt Γ K mg)  {f : Addr} {fd : FuncData} (F : FunD K "_law_mirror" "_law_mirror" (defArgs s__law_mirror) (defBody s__law_mirror) (defScope s__law_mirror) [] [] f fd) : FnOk P wd K mg base (L2.CX P wd) 1 f fd ["machine"] (spOf Γ K 1 R__law_mirror) := by
  have S := sc__law_mirror
  refine fn_rule F sc__law_mirror fun cdv A outer s H E hr => ?_
  have tk : Takes (cxOf (L2.CX P wd) P wd K mg base ["machine", "found", "touch", "wheel", "place"] "_law_mirror" (defScope s__law_mirror) f cdv A outer s H E) (fun c d _ H => E c d H) := takes_of rfl rfl rfl rfl
  have rm : Rm (cxOf (L2.CX P wd) P wd K mg base ["machine", "found", "touch", "wheel", "place"] "_law_mirror" (defScope s__law_mirror) f cdv A outer s H E) := rm_of hr
  exact (vb_cons (vs_set 1 (ve_lst va_nil) S.nd)
    (vb_cons (vs_for PassesOwn.leaving (vi_val (ve_ix (ve_var 0) ve_int)) (vg_name 2 S.nd) (vb_one (vs_expr (bm_append (ve_var 1) (va_cons (bc_tuple T.z_tuple  (va_cons (bc_sorted T.z_sorted rm (va_cons (ve_lc [("wheel", 3), ("place", 4)] S.nd (vi_val (ve_var 2)) (blkOk_by (by rfl)) (fun _ _ _ _ _ => (vg_tup (vgs_cons (vg_name 3 S.nd) (vgs_cons (vg_name 4 S.nd) vgs_nil)))) (fun _ _ _ _ _ => vts_nil) (fun _ _ _ _ _ => (ve_tup (va_cons (ve_var 3) (va_cons (ve_md (ve_sub ve_int (ve_var 4)) (ve_ix (ve_ix (ve_var 0) ve_int) (ve_var 3))) va_nil))))) va_nil)) va_nil)) va_nil)))))
    (vb_one (vs_ret (ve_pairU (va_cons (ve_ix (ve_var 0) ve_int) (va_cons (bc_tupU T.z_tuple (va_cons (bc_sorted T.z_sorted rm (va_cons (ve_var 1) va_nil)) va_nil)) va_nil)))))))
theorem ok__law_mirror (T : Txt Γ K mg)  {f : Addr} {fd : FuncData} (F : FunD K "_law_mirror" "_law_mirror" (defArgs s__law_mirror) (defBody s__law_mirror) (defScope s__law_mirror) [] [] f fd) (hm : mg "_law_mirror" = some (.ref f)) : Cal Γ P wd K mg base 1 "_law_mirror" 1 [] R__law_mirror :=
  Cal.of F hm rfl (fun _ _ _ _ _ _ us hl => match us, hl with | [_], _ => rfl) (fo__law_mirror T  F)
theorem sc__law_turned : FnScope ["load", "at", "row"] ["load"] (defScope s__law_turned) := ⟨rfl, rfl, rfl, by decide +kernel, rfl, by decide +kernel, by decide +kernel⟩
theorem fo__law_turned (T : Txt Γ K mg)  {f : Addr} {fd : FuncData} (F : FunD K "_law_turned" "_law_turned" (defArgs s__law_turned) (defBody s__law_turned) (defScope s__law_turned) [] [] f fd) : FnOk P wd K mg base (L2.CX P wd) 1 f fd ["load"] (spOf Γ K 1 R__law_turned) := by
  have S := sc__law_turned
  refine fn_rule F sc__law_turned fun cdv A outer s H E hr => ?_
  have tk : Takes (cxOf (L2.CX P wd) P wd K mg base ["load", "at", "row"] "_law_turned" (defScope s__law_turned) f cdv A outer s H E) (fun c d _ H => E c d H) := takes_of rfl rfl rfl rfl
  have rm : Rm (cxOf (L2.CX P wd) P wd K mg base ["load", "at", "row"] "_law_turned" (defScope s__law_turned) f cdv A outer s H E) := rm_of hr
  exact (vb_one (vs_ret (bc_tuple T.z_tuple  (va_cons (ve_lc [("row", 2)] S.nd (vi_val (ve_var 0)) (blkOk_by (by rfl)) (fun _ _ _ _ _ => (vg_name 2 S.nd)) (fun _ _ _ _ _ => vts_nil) (fun _ _ _ _ _ => (bc_tuple T.z_tuple  (va_cons (ve_lc [("at", 1)] S.nd (vi_r1 (va_cons (bc_len T.z_len  (va_cons (ve_var 2) va_nil)) va_nil) T.z_range) (blkOk_by (by rfl)) (fun _ _ _ _ _ => (vg_name 1 S.nd)) (fun _ _ _ _ _ => vts_nil) (fun _ _ _ _ _ => (ve_ix (ve_var 2) (ve_md (ve_sub ve_int (ve_var 1)) (bc_len T.z_len  (va_cons (ve_var 2) va_nil)))))) va_nil)))) va_nil))))
theorem ok__law_turned (T : Txt Γ K mg)  {f : Addr} {fd : FuncData} (F : FunD K "_law_turned" "_law_turned" (defArgs s__law_turned) (defBody s__law_turned) (defScope s__law_turned) [] [] f fd) (hm : mg "_law_turned" = some (.ref f)) : Cal Γ P wd K mg base 1 "_law_turned" 1 [] R__law_turned :=
  Cal.of F hm rfl (fun _ _ _ _ _ _ us hl => match us, hl with | [_], _ => rfl) (fo__law_turned T  F)
theorem sc_is_fraction : FnScope ["thing"] ["thing"] (defScope s_is_fraction) := ⟨rfl, rfl, rfl, by decide +kernel, rfl, by decide +kernel, by decide +kernel⟩
theorem fo_is_fraction (T : Txt Γ K mg) (C_is_whole : Cal Γ P wd K mg base 1 "is_whole" 1 [] R_is_whole) (C_common : Cal Γ P wd K mg base 1 "common" 2 [] R_common) {f : Addr} {fd : FuncData} (F : FunD K "is_fraction" "is_fraction" (defArgs s_is_fraction) (defBody s_is_fraction) (defScope s_is_fraction) [] [] f fd) : FnOk P wd K mg base (L2.CX P wd) 2 f fd ["thing"] (spOf Γ K 1 R_is_fraction) := by
  have S := sc_is_fraction
  refine fn_rule F sc_is_fraction fun cdv A outer s H E hr => ?_
  have tk : Takes (cxOf (L2.CX P wd) P wd K mg base ["thing"] "is_fraction" (defScope s_is_fraction) f cdv A outer s H E) (fun c d _ H => E c d H) := takes_of rfl rfl rfl rfl
  have rm : Rm (cxOf (L2.CX P wd) P wd K mg base ["thing"] "is_fraction" (defScope s_is_fraction) f cdv A outer s H E) := rm_of hr
  exact (vb_cons (vs_if (VW.vt (vw_or (vt_not (vt_val (bi_tuple T.z_isinstance T.z_tuple (ve_var 0)))) (vw_or (vt_ne rm (bc_len T.z_len  (va_cons (ve_var 0) va_nil)) ve_int) (vw_or (vt_not (vt_val (ve_call C_is_whole tk (hr.mono (by decide)) (va_cons (ve_ix (ve_var 0) ve_int) va_nil)))) (vw_or1 (vt_not (vt_val (ve_call C_is_whole tk (hr.mono (by decide)) (va_cons (ve_ix (ve_var 0) ve_int) va_nil))))))))) (vb_one (vs_ret ve_bl)) vb_nil)
    (vb_one (vs_ret (ve_and (ve_gt rm (ve_ix (ve_var 0) ve_int) ve_int) (ve_one (ve_eq rm (ve_call C_common tk (hr.mono (by decide)) (va_cons (ve_ix (ve_var 0) ve_int) (va_cons (ve_ix (ve_var 0) ve_int) va_nil))) ve_int))))))
theorem ok_is_fraction (T : Txt Γ K mg) (C_is_whole : Cal Γ P wd K mg base 1 "is_whole" 1 [] R_is_whole) (C_common : Cal Γ P wd K mg base 1 "common" 2 [] R_common) {f : Addr} {fd : FuncData} (F : FunD K "is_fraction" "is_fraction" (defArgs s_is_fraction) (defBody s_is_fraction) (defScope s_is_fraction) [] [] f fd) (hm : mg "is_fraction" = some (.ref f)) : Cal Γ P wd K mg base 2 "is_fraction" 1 [] R_is_fraction :=
  Cal.of F hm rfl (fun _ _ _ _ _ _ us hl => match us, hl with | [_], _ => rfl) (fo_is_fraction T C_is_whole C_common F)
theorem sc_lowest : FnScope ["top", "bottom", "part"] ["top", "bottom"] (defScope s_lowest) := ⟨rfl, rfl, rfl, by decide +kernel, rfl, by decide +kernel, by decide +kernel⟩
theorem fo_lowest (T : Txt Γ K mg) (C_common : Cal Γ P wd K mg base 1 "common" 2 [] R_common) {f : Addr} {fd : FuncData} (F : FunD K "lowest" "lowest" (defArgs s_lowest) (defBody s_lowest) (defScope s_lowest) [] [] f fd) : FnOk P wd K mg base (L2.CX P wd) 2 f fd ["top", "bottom"] (spOf Γ K 2 R_lowest) := by
  have S := sc_lowest
  refine fn_rule F sc_lowest fun cdv A outer s H E hr => ?_
  have tk : Takes (cxOf (L2.CX P wd) P wd K mg base ["top", "bottom", "part"] "lowest" (defScope s_lowest) f cdv A outer s H E) (fun c d _ H => E c d H) := takes_of rfl rfl rfl rfl
  have rm : Rm (cxOf (L2.CX P wd) P wd K mg base ["top", "bottom", "part"] "lowest" (defScope s_lowest) f cdv A outer s H E) := rm_of hr
  exact (vb_cons (vs_set 2 (ve_if (vt_gt rm (ve_var 1) ve_int) (ve_call C_common tk (hr.mono (by decide)) (va_cons (ve_var 0) (va_cons (ve_var 1) va_nil))) (ve_sub ve_int (ve_call C_common tk (hr.mono (by decide)) (va_cons (ve_var 0) (va_cons (ve_var 1) va_nil))))) S.nd)
    (vb_one (vs_ret (ve_tup (va_cons (ve_fdv (ve_var 0) (ve_var 2)) (va_cons (ve_fdv (ve_var 1) (ve_var 2)) va_nil))))))
theorem ok_lowest (T : Txt Γ K mg) (C_common : Cal Γ P wd K mg base 1 "common" 2 [] R_common) {f : Addr} {fd : FuncData} (F : FunD K "lowest" "lowest" (defArgs s_lowest) (defBody s_lowest) (defScope s_lowest) [] [] f fd) (hm : mg "lowest" = some (.ref f)) : Cal Γ P wd K mg base 2 "lowest" 2 [] R_lowest :=
  Cal.of F hm rfl (fun _ _ _ _ _ _ us hl => match us, hl with | [_, _], _ => rfl) (fo_lowest T C_common F)
theorem sc_are_counts : FnScope ["thing", "one"] ["thing"] (defScope s_are_counts) := ⟨rfl, rfl, rfl, by decide +kernel, rfl, by decide +kernel, by decide +kernel⟩
theorem fo_are_counts (T : Txt Γ K mg) (C_is_whole : Cal Γ P wd K mg base 1 "is_whole" 1 [] R_is_whole) {f : Addr} {fd : FuncData} (F : FunD K "are_counts" "are_counts" (defArgs s_are_counts) (defBody s_are_counts) (defScope s_are_counts) [] [] f fd) : FnOk P wd K mg base (L2.CX P wd) 2 f fd ["thing"] (spOf Γ K 1 R_are_counts) := by
  have S := sc_are_counts
  refine fn_rule F sc_are_counts fun cdv A outer s H E hr => ?_
  have tk : Takes (cxOf (L2.CX P wd) P wd K mg base ["thing", "one"] "are_counts" (defScope s_are_counts) f cdv A outer s H E) (fun c d _ H => E c d H) := takes_of rfl rfl rfl rfl
  have rm : Rm (cxOf (L2.CX P wd) P wd K mg base ["thing", "one"] "are_counts" (defScope s_are_counts) f cdv A outer s H E) := rm_of hr
  exact (vb_cons (vs_if (VW.vt (vw_or (vt_not (vt_val (bi_tuple T.z_isinstance T.z_tuple (ve_var 0)))) (vw_or1 (vt_not (vt_lele rm ve_int (bc_len T.z_len  (va_cons (ve_var 0) va_nil)) (ve_glob T.c_MOST_WHEELS)))))) (vb_one (vs_ret ve_bl)) vb_nil)
    (vb_one (vs_ret (ve_and (bc_all T.z_all rfl (va_cons (ve_lc [("one", 1)] S.nd (vi_val (ve_var 0)) (blkOk_by (by rfl)) (fun _ _ _ _ _ => (vg_name 1 S.nd)) (fun _ _ _ _ _ => vts_nil) (fun _ _ _ _ _ => (ve_and (ve_call C_is_whole takes0 (hr.mono (by decide)) (va_cons (ve_var 1) va_nil)) (ve_one (ve_gt (by exact rm) (ve_var 1) ve_int))))) va_nil)) (ve_one (ve_le rm (bc_sum T.z_sum rfl (va_cons (ve_var 0) va_nil)) (ve_glob T.c_MOST_CELLS)))))))
theorem ok_are_counts (T : Txt Γ K mg) (C_is_whole : Cal Γ P wd K mg base 1 "is_whole" 1 [] R_is_whole) {f : Addr} {fd : FuncData} (F : FunD K "are_counts" "are_counts" (defArgs s_are_counts) (defBody s_are_counts) (defScope s_are_counts) [] [] f fd) (hm : mg "are_counts" = some (.ref f)) : Cal Γ P wd K mg base 2 "are_counts" 1 [] R_are_counts :=
  Cal.of F hm rfl (fun _ _ _ _ _ _ us hl => match us, hl with | [_], _ => rfl) (fo_are_counts T C_is_whole F)
theorem sc_is_spot : FnScope ["counts", "thing"] ["counts", "thing"] (defScope s_is_spot) := ⟨rfl, rfl, rfl, by decide +kernel, rfl, by decide +kernel, by decide +kernel⟩
theorem fo_is_spot (T : Txt Γ K mg) (C_is_whole : Cal Γ P wd K mg base 1 "is_whole" 1 [] R_is_whole) {f : Addr} {fd : FuncData} (F : FunD K "is_spot" "is_spot" (defArgs s_is_spot) (defBody s_is_spot) (defScope s_is_spot) [] [] f fd) : FnOk P wd K mg base (L2.CX P wd) 2 f fd ["counts", "thing"] (spOf Γ K 2 R_is_spot) := by
  have S := sc_is_spot
  refine fn_rule F sc_is_spot fun cdv A outer s H E hr => ?_
  have tk : Takes (cxOf (L2.CX P wd) P wd K mg base ["counts", "thing"] "is_spot" (defScope s_is_spot) f cdv A outer s H E) (fun c d _ H => E c d H) := takes_of rfl rfl rfl rfl
  have rm : Rm (cxOf (L2.CX P wd) P wd K mg base ["counts", "thing"] "is_spot" (defScope s_is_spot) f cdv A outer s H E) := rm_of hr
  exact (vb_cons (vs_if (VW.vt (vw_or (vt_not (vt_val (bi_tuple T.z_isinstance T.z_tuple (ve_var 1)))) (vw_or (vt_ne rm (bc_len T.z_len  (va_cons (ve_var 1) va_nil)) ve_int) (vw_or (vt_not (vt_val (ve_call C_is_whole tk (hr.mono (by decide)) (va_cons (ve_ix (ve_var 1) ve_int) va_nil)))) (vw_or1 (vt_not (vt_val (ve_call C_is_whole tk (hr.mono (by decide)) (va_cons (ve_ix (ve_var 1) ve_int) va_nil))))))))) (vb_one (vs_ret ve_bl)) vb_nil)
    (vb_one (vs_ret (ve_and (ve_lelt rm ve_int (ve_ix (ve_var 1) ve_int) (bc_len T.z_len  (va_cons (ve_var 0) va_nil))) (ve_one (ve_lelt rm ve_int (ve_ix (ve_var 1) ve_int) (ve_ix (ve_var 0) (ve_ix (ve_var 1) ve_int))))))))
theorem ok_is_spot (T : Txt Γ K mg) (C_is_whole : Cal Γ P wd K mg base 1 "is_whole" 1 [] R_is_whole) {f : Addr} {fd : FuncData} (F : FunD K "is_spot" "is_spot" (defArgs s_is_spot) (defBody s_is_spot) (defScope s_is_spot) [] [] f fd) (hm : mg "is_spot" = some (.ref f)) : Cal Γ P wd K mg base 2 "is_spot" 2 [] R_is_spot :=
  Cal.of F hm rfl (fun _ _ _ _ _ _ us hl => match us, hl with | [_, _], _ => rfl) (fo_is_spot T C_is_whole F)
theorem sc_need_beats : FnScope ["beats"] ["beats"] (defScope s_need_beats) := ⟨rfl, rfl, rfl, by decide +kernel, rfl, by decide +kernel, by decide +kernel⟩
theorem fo_need_beats (T : Txt Γ K mg) (C_is_whole : Cal Γ P wd K mg base 1 "is_whole" 1 [] R_is_whole) {f : Addr} {fd : FuncData} (F : FunD K "need_beats" "need_beats" (defArgs s_need_beats) (defBody s_need_beats) (defScope s_need_beats) [] [] f fd) : FnOk P wd K mg base (L2.CX P wd) 2 f fd ["beats"] (spOf Γ K 1 R_need_beats) := by
  have S := sc_need_beats
  refine fn_rule F sc_need_beats fun cdv A outer s H E hr => ?_
  have tk : Takes (cxOf (L2.CX P wd) P wd K mg base ["beats"] "need_beats" (defScope s_need_beats) f cdv A outer s H E) (fun c d _ H => E c d H) := takes_of rfl rfl rfl rfl
  have rm : Rm (cxOf (L2.CX P wd) P wd K mg base ["beats"] "need_beats" (defScope s_need_beats) f cdv A outer s H E) := rm_of hr
  exact (vb_one (vs_if (VW.vt (vw_or (vt_not (vt_val (ve_call C_is_whole tk (hr.mono (by decide)) (va_cons (ve_var 0) va_nil)))) (vw_or1 (vt_not (vt_lele rm ve_int (ve_var 0) (ve_glob T.c_MOST_BEATS)))))) (vb_one vs_bad) vb_nil))
theorem ok_need_beats (T : Txt Γ K mg) (C_is_whole : Cal Γ P wd K mg base 1 "is_whole" 1 [] R_is_whole) {f : Addr} {fd : FuncData} (F : FunD K "need_beats" "need_beats" (defArgs s_need_beats) (defBody s_need_beats) (defScope s_need_beats) [] [] f fd) (hm : mg "need_beats" = some (.ref f)) : Cal Γ P wd K mg base 2 "need_beats" 1 [] R_need_beats :=
  Cal.of F hm rfl (fun _ _ _ _ _ _ us hl => match us, hl with | [_], _ => rfl) (fo_need_beats T C_is_whole F)
theorem sc_mirror_pair : FnScope ["counts", "touch", "spot"] ["counts", "touch"] (defScope s_mirror_pair) := ⟨rfl, rfl, rfl, by decide +kernel, rfl, by decide +kernel, by decide +kernel⟩
theorem fo_mirror_pair (T : Txt Γ K mg) (C_mirror_spot : Cal Γ P wd K mg base 1 "mirror_spot" 2 [] R_mirror_spot) {f : Addr} {fd : FuncData} (F : FunD K "mirror_pair" "mirror_pair" (defArgs s_mirror_pair) (defBody s_mirror_pair) (defScope s_mirror_pair) [] [] f fd) : FnOk P wd K mg base (L2.CX P wd) 2 f fd ["counts", "touch"] (spOf Γ K 2 R_mirror_pair) := by
  have S := sc_mirror_pair
  refine fn_rule F sc_mirror_pair fun cdv A outer s H E hr => ?_
  have tk : Takes (cxOf (L2.CX P wd) P wd K mg base ["counts", "touch", "spot"] "mirror_pair" (defScope s_mirror_pair) f cdv A outer s H E) (fun c d _ H => E c d H) := takes_of rfl rfl rfl rfl
  have rm : Rm (cxOf (L2.CX P wd) P wd K mg base ["counts", "touch", "spot"] "mirror_pair" (defScope s_mirror_pair) f cdv A outer s H E) := rm_of hr
  exact (vb_one (vs_ret (bc_tuple T.z_tuple  (va_cons (bc_sorted T.z_sorted rm (va_cons (ve_lc [("spot", 2)] S.nd (vi_val (ve_var 1)) (blkOk_by (by rfl)) (fun _ _ _ _ _ => (vg_name 2 S.nd)) (fun _ _ _ _ _ => vts_nil) (fun _ _ _ _ _ => (ve_call C_mirror_spot takes0 (hr.mono (by decide)) (va_cons (ve_var 0) (va_cons (ve_var 2) va_nil))))) va_nil)) va_nil))))
theorem ok_mirror_pair (T : Txt Γ K mg) (C_mirror_spot : Cal Γ P wd K mg base 1 "mirror_spot" 2 [] R_mirror_spot) {f : Addr} {fd : FuncData} (F : FunD K "mirror_pair" "mirror_pair" (defArgs s_mirror_pair) (defBody s_mirror_pair) (defScope s_mirror_pair) [] [] f fd) (hm : mg "mirror_pair" = some (.ref f)) : Cal Γ P wd K mg base 2 "mirror_pair" 2 [] R_mirror_pair :=
  Cal.of F hm rfl (fun _ _ _ _ _ _ us hl => match us, hl with | [_, _], _ => rfl) (fo_mirror_pair T C_mirror_spot F)
theorem sc_need_own_touch : FnScope ["machine", "touch"] ["machine", "touch"] (defScope s_need_own_touch) := ⟨rfl, rfl, rfl, by decide +kernel, rfl, by decide +kernel, by decide +kernel⟩
theorem fo_need_own_touch (T : Txt Γ K mg) (C_is_whole : Cal Γ P wd K mg base 1 "is_whole" 1 [] R_is_whole) {f : Addr} {fd : FuncData} (F : FunD K "need_own_touch" "need_own_touch" (defArgs s_need_own_touch) (defBody s_need_own_touch) (defScope s_need_own_touch) [] [] f fd) : FnOk P wd K mg base (L2.CX P wd) 2 f fd ["machine", "touch"] (spOf Γ K 2 R_need_own_touch) := by
  have S := sc_need_own_touch
  refine fn_rule F sc_need_own_touch fun cdv A outer s H E hr => ?_
  have tk : Takes (cxOf (L2.CX P wd) P wd K mg base ["machine", "touch"] "need_own_touch" (defScope s_need_own_touch) f cdv A outer s H E) (fun c d _ H => E c d H) := takes_of rfl rfl rfl rfl
  have rm : Rm (cxOf (L2.CX P wd) P wd K mg base ["machine", "touch"] "need_own_touch" (defScope s_need_own_touch) f cdv A outer s H E) := rm_of hr
  exact (vb_one (vs_if (VW.vt (vw_or (vt_not (vt_val (ve_call C_is_whole tk (hr.mono (by decide)) (va_cons (ve_var 1) va_nil)))) (vw_or1 (vt_not (vt_lelt rm ve_int (ve_var 1) (bc_len T.z_len  (va_cons (ve_ix (ve_var 0) ve_int) va_nil))))))) (vb_one vs_bad) vb_nil))
theorem ok_need_own_touch (T : Txt Γ K mg) (C_is_whole : Cal Γ P wd K mg base 1 "is_whole" 1 [] R_is_whole) {f : Addr} {fd : FuncData} (F : FunD K "need_own_touch" "need_own_touch" (defArgs s_need_own_touch) (defBody s_need_own_touch) (defScope s_need_own_touch) [] [] f fd) (hm : mg "need_own_touch" = some (.ref f)) : Cal Γ P wd K mg base 2 "need_own_touch" 2 [] R_need_own_touch :=
  Cal.of F hm rfl (fun _ _ _ _ _ _ us hl => match us, hl with | [_, _], _ => rfl) (fo_need_own_touch T C_is_whole F)
theorem sc__law_digit : FnScope ["state", "size", "j", "found"] ["state", "size"] (defScope s__law_digit) := ⟨rfl, rfl, rfl, by decide +kernel, rfl, by decide +kernel, by decide +kernel⟩
theorem fo__law_digit (T : Txt Γ K mg) (C__law_mixed : Cal Γ P wd K mg base 1 "_law_mixed" 2 [] R__law_mixed) {f : Addr} {fd : FuncData} (F : FunD K "_law_digit" "_law_digit" (defArgs s__law_digit) (defBody s__law_digit) (defScope s__law_digit) [] [] f fd) : FnOk P wd K mg base (L2.CX P wd) 2 f fd ["state", "size"] (spOf Γ K 2 R__law_digit) := by
  have S := sc__law_digit
  refine fn_rule F sc__law_digit fun cdv A outer s H E hr => ?_
  have tk : Takes (cxOf (L2.CX P wd) P wd K mg base ["state", "size", "j", "found"] "_law_digit" (defScope s__law_digit) f cdv A outer s H E) (fun c d _ H => E c d H) := takes_of rfl rfl rfl rfl
  have rm : Rm (cxOf (L2.CX P wd) P wd K mg base ["state", "size", "j", "found"] "_law_digit" (defScope s__law_digit) f cdv A outer s H E) := rm_of hr
  exact (vb_cons (vs_if (vt_eq rm (ve_dget rm (ve_var 0) ve_str) ve_int) (vb_one (vs_for PassesOwn.leaving (vi_r1 (va_cons ve_int va_nil) T.z_range) (vg_name 2 S.nd) (vb_cons (vs_putD rm (ve_add (ve_dget rm (ve_var 0) ve_str) ve_int) (ve_var 0) ve_str)
    (vb_one (vs_putD rm (ve_add (ve_mul (ve_dget rm (ve_var 0) ve_str) ve_int) (ve_call C__law_mixed tk (hr.mono (by decide)) (va_cons (ve_dget rm (ve_var 0) ve_str) (va_cons (ve_dget rm (ve_var 0) ve_str) va_nil)))) (ve_var 0) ve_str))))) vb_nil)
    (vb_cons (vs_set 3 (ve_md (ve_dget rm (ve_var 0) ve_str) (ve_var 1)) S.nd)
    (vb_cons (vs_putD rm (ve_fdv (ve_dget rm (ve_var 0) ve_str) (ve_var 1)) (ve_var 0) ve_str)
    (vb_one (vs_ret (ve_var 3))))))
theorem ok__law_digit (T : Txt Γ K mg) (C__law_mixed : Cal Γ P wd K mg base 1 "_law_mixed" 2 [] R__law_mixed) {f : Addr} {fd : FuncData} (F : FunD K "_law_digit" "_law_digit" (defArgs s__law_digit) (defBody s__law_digit) (defScope s__law_digit) [] [] f fd) (hm : mg "_law_digit" = some (.ref f)) : Cal Γ P wd K mg base 2 "_law_digit" 2 [] R__law_digit :=
  Cal.of F hm rfl (fun _ _ _ _ _ _ us hl => match us, hl with | [_, _], _ => rfl) (fo__law_digit T C__law_mixed F)
theorem sc__law_plus : FnScope ["one", "other"] ["one", "other"] (defScope s__law_plus) := ⟨rfl, rfl, rfl, by decide +kernel, rfl, by decide +kernel, by decide +kernel⟩
theorem fo__law_plus (T : Txt Γ K mg) (C__law_lowest : Cal Γ P wd K mg base 1 "_law_lowest" 2 [] R__law_lowest) {f : Addr} {fd : FuncData} (F : FunD K "_law_plus" "_law_plus" (defArgs s__law_plus) (defBody s__law_plus) (defScope s__law_plus) [] [] f fd) : FnOk P wd K mg base (L2.CX P wd) 2 f fd ["one", "other"] (spOf Γ K 2 R__law_plus) := by
  have S := sc__law_plus
  refine fn_rule F sc__law_plus fun cdv A outer s H E hr => ?_
  have tk : Takes (cxOf (L2.CX P wd) P wd K mg base ["one", "other"] "_law_plus" (defScope s__law_plus) f cdv A outer s H E) (fun c d _ H => E c d H) := takes_of rfl rfl rfl rfl
  have rm : Rm (cxOf (L2.CX P wd) P wd K mg base ["one", "other"] "_law_plus" (defScope s__law_plus) f cdv A outer s H E) := rm_of hr
  exact (vb_one (vs_ret (ve_call C__law_lowest tk (hr.mono (by decide)) (va_cons (ve_add (ve_mul (ve_ix (ve_var 0) ve_int) (ve_ix (ve_var 1) ve_int)) (ve_mul (ve_ix (ve_var 1) ve_int) (ve_ix (ve_var 0) ve_int))) (va_cons (ve_mul (ve_ix (ve_var 0) ve_int) (ve_ix (ve_var 1) ve_int)) va_nil)))))
theorem ok__law_plus (T : Txt Γ K mg) (C__law_lowest : Cal Γ P wd K mg base 1 "_law_lowest" 2 [] R__law_lowest) {f : Addr} {fd : FuncData} (F : FunD K "_law_plus" "_law_plus" (defArgs s__law_plus) (defBody s__law_plus) (defScope s__law_plus) [] [] f fd) (hm : mg "_law_plus" = some (.ref f)) : Cal Γ P wd K mg base 2 "_law_plus" 2 [] R__law_plus :=
  Cal.of F hm rfl (fun _ _ _ _ _ _ us hl => match us, hl with | [_, _], _ => rfl) (fo__law_plus T C__law_lowest F)
theorem sc__law_times : FnScope ["one", "other"] ["one", "other"] (defScope s__law_times) := ⟨rfl, rfl, rfl, by decide +kernel, rfl, by decide +kernel, by decide +kernel⟩
theorem fo__law_times (T : Txt Γ K mg) (C__law_lowest : Cal Γ P wd K mg base 1 "_law_lowest" 2 [] R__law_lowest) {f : Addr} {fd : FuncData} (F : FunD K "_law_times" "_law_times" (defArgs s__law_times) (defBody s__law_times) (defScope s__law_times) [] [] f fd) : FnOk P wd K mg base (L2.CX P wd) 2 f fd ["one", "other"] (spOf Γ K 2 R__law_times) := by
  have S := sc__law_times
  refine fn_rule F sc__law_times fun cdv A outer s H E hr => ?_
  have tk : Takes (cxOf (L2.CX P wd) P wd K mg base ["one", "other"] "_law_times" (defScope s__law_times) f cdv A outer s H E) (fun c d _ H => E c d H) := takes_of rfl rfl rfl rfl
  have rm : Rm (cxOf (L2.CX P wd) P wd K mg base ["one", "other"] "_law_times" (defScope s__law_times) f cdv A outer s H E) := rm_of hr
  exact (vb_one (vs_ret (ve_call C__law_lowest tk (hr.mono (by decide)) (va_cons (ve_mul (ve_ix (ve_var 0) ve_int) (ve_ix (ve_var 1) ve_int)) (va_cons (ve_mul (ve_ix (ve_var 0) ve_int) (ve_ix (ve_var 1) ve_int)) va_nil)))))
theorem ok__law_times (T : Txt Γ K mg) (C__law_lowest : Cal Γ P wd K mg base 1 "_law_lowest" 2 [] R__law_lowest) {f : Addr} {fd : FuncData} (F : FunD K "_law_times" "_law_times" (defArgs s__law_times) (defBody s__law_times) (defScope s__law_times) [] [] f fd) (hm : mg "_law_times" = some (.ref f)) : Cal Γ P wd K mg base 2 "_law_times" 2 [] R__law_times :=
  Cal.of F hm rfl (fun _ _ _ _ _ _ us hl => match us, hl with | [_, _], _ => rfl) (fo__law_times T C__law_lowest F)
theorem sc_plus : FnScope ["one", "other"] ["one", "other"] (defScope s_plus) := ⟨rfl, rfl, rfl, by decide +kernel, rfl, by decide +kernel, by decide +kernel⟩
theorem fo_plus (T : Txt Γ K mg) (C_lowest : Cal Γ P wd K mg base 2 "lowest" 2 [] R_lowest) {f : Addr} {fd : FuncData} (F : FunD K "plus" "plus" (defArgs s_plus) (defBody s_plus) (defScope s_plus) [] [] f fd) : FnOk P wd K mg base (L2.CX P wd) 3 f fd ["one", "other"] (spOf Γ K 2 R_plus) := by
  have S := sc_plus
  refine fn_rule F sc_plus fun cdv A outer s H E hr => ?_
  have tk : Takes (cxOf (L2.CX P wd) P wd K mg base ["one", "other"] "plus" (defScope s_plus) f cdv A outer s H E) (fun c d _ H => E c d H) := takes_of rfl rfl rfl rfl
  have rm : Rm (cxOf (L2.CX P wd) P wd K mg base ["one", "other"] "plus" (defScope s_plus) f cdv A outer s H E) := rm_of hr
  exact (vb_one (vs_ret (ve_call C_lowest tk (hr.mono (by decide)) (va_cons (ve_add (ve_mul (ve_ix (ve_var 0) ve_int) (ve_ix (ve_var 1) ve_int)) (ve_mul (ve_ix (ve_var 1) ve_int) (ve_ix (ve_var 0) ve_int))) (va_cons (ve_mul (ve_ix (ve_var 0) ve_int) (ve_ix (ve_var 1) ve_int)) va_nil)))))
theorem ok_plus (T : Txt Γ K mg) (C_lowest : Cal Γ P wd K mg base 2 "lowest" 2 [] R_lowest) {f : Addr} {fd : FuncData} (F : FunD K "plus" "plus" (defArgs s_plus) (defBody s_plus) (defScope s_plus) [] [] f fd) (hm : mg "plus" = some (.ref f)) : Cal Γ P wd K mg base 3 "plus" 2 [] R_plus :=
  Cal.of F hm rfl (fun _ _ _ _ _ _ us hl => match us, hl with | [_, _], _ => rfl) (fo_plus T C_lowest F)
theorem sc_times : FnScope ["one", "other"] ["one", "other"] (defScope s_times) := ⟨rfl, rfl, rfl, by decide +kernel, rfl, by decide +kernel, by decide +kernel⟩
theorem fo_times (T : Txt Γ K mg) (C_lowest : Cal Γ P wd K mg base 2 "lowest" 2 [] R_lowest) {f : Addr} {fd : FuncData} (F : FunD K "times" "times" (defArgs s_times) (defBody s_times) (defScope s_times) [] [] f fd) : FnOk P wd K mg base (L2.CX P wd) 3 f fd ["one", "other"] (spOf Γ K 2 R_times) := by
  have S := sc_times
  refine fn_rule F sc_times fun cdv A outer s H E hr => ?_
  have tk : Takes (cxOf (L2.CX P wd) P wd K mg base ["one", "other"] "times" (defScope s_times) f cdv A outer s H E) (fun c d _ H => E c d H) := takes_of rfl rfl rfl rfl
  have rm : Rm (cxOf (L2.CX P wd) P wd K mg base ["one", "other"] "times" (defScope s_times) f cdv A outer s H E) := rm_of hr
  exact (vb_one (vs_ret (ve_call C_lowest tk (hr.mono (by decide)) (va_cons (ve_mul (ve_ix (ve_var 0) ve_int) (ve_ix (ve_var 1) ve_int)) (va_cons (ve_mul (ve_ix (ve_var 0) ve_int) (ve_ix (ve_var 1) ve_int)) va_nil)))))
theorem ok_times (T : Txt Γ K mg) (C_lowest : Cal Γ P wd K mg base 2 "lowest" 2 [] R_lowest) {f : Addr} {fd : FuncData} (F : FunD K "times" "times" (defArgs s_times) (defBody s_times) (defScope s_times) [] [] f fd) (hm : mg "times" = some (.ref f)) : Cal Γ P wd K mg base 3 "times" 2 [] R_times :=
  Cal.of F hm rfl (fun _ _ _ _ _ _ us hl => match us, hl with | [_, _], _ => rfl) (fo_times T C_lowest F)
theorem sc_half : FnScope ["one"] ["one"] (defScope s_half) := ⟨rfl, rfl, rfl, by decide +kernel, rfl, by decide +kernel, by decide +kernel⟩
theorem fo_half (T : Txt Γ K mg) (C_lowest : Cal Γ P wd K mg base 2 "lowest" 2 [] R_lowest) {f : Addr} {fd : FuncData} (F : FunD K "half" "half" (defArgs s_half) (defBody s_half) (defScope s_half) [] [] f fd) : FnOk P wd K mg base (L2.CX P wd) 3 f fd ["one"] (spOf Γ K 1 R_half) := by
  have S := sc_half
  refine fn_rule F sc_half fun cdv A outer s H E hr => ?_
  have tk : Takes (cxOf (L2.CX P wd) P wd K mg base ["one"] "half" (defScope s_half) f cdv A outer s H E) (fun c d _ H => E c d H) := takes_of rfl rfl rfl rfl
  have rm : Rm (cxOf (L2.CX P wd) P wd K mg base ["one"] "half" (defScope s_half) f cdv A outer s H E) := rm_of hr
  exact (vb_one (vs_ret (ve_call C_lowest tk (hr.mono (by decide)) (va_cons (ve_ix (ve_var 0) ve_int) (va_cons (ve_mul ve_int (ve_ix (ve_var 0) ve_int)) va_nil)))))
theorem ok_half (T : Txt Γ K mg) (C_lowest : Cal Γ P wd K mg base 2 "lowest" 2 [] R_lowest) {f : Addr} {fd : FuncData} (F : FunD K "half" "half" (defArgs s_half) (defBody s_half) (defScope s_half) [] [] f fd) (hm : mg "half" = some (.ref f)) : Cal Γ P wd K mg base 3 "half" 1 [] R_half :=
  Cal.of F hm rfl (fun _ _ _ _ _ _ us hl => match us, hl with | [_], _ => rfl) (fo_half T C_lowest F)
theorem sc_is_touch : FnScope ["counts", "thing"] ["counts", "thing"] (defScope s_is_touch) := ⟨rfl, rfl, rfl, by decide +kernel, rfl, by decide +kernel, by decide +kernel⟩
theorem fo_is_touch (T : Txt Γ K mg) (C_is_spot : Cal Γ P wd K mg base 2 "is_spot" 2 [] R_is_spot) {f : Addr} {fd : FuncData} (F : FunD K "is_touch" "is_touch" (defArgs s_is_touch) (defBody s_is_touch) (defScope s_is_touch) [] [] f fd) : FnOk P wd K mg base (L2.CX P wd) 3 f fd ["counts", "thing"] (spOf Γ K 2 R_is_touch) := by
  have S := sc_is_touch
  refine fn_rule F sc_is_touch fun cdv A outer s H E hr => ?_
  have tk : Takes (cxOf (L2.CX P wd) P wd K mg base ["counts", "thing"] "is_touch" (defScope s_is_touch) f cdv A outer s H E) (fun c d _ H => E c d H) := takes_of rfl rfl rfl rfl
  have rm : Rm (cxOf (L2.CX P wd) P wd K mg base ["counts", "thing"] "is_touch" (defScope s_is_touch) f cdv A outer s H E) := rm_of hr
  exact (vb_cons (vs_if (VW.vt (vw_or (vt_not (vt_val (bi_tuple T.z_isinstance T.z_tuple (ve_var 1)))) (vw_or1 (vt_ne rm (bc_len T.z_len  (va_cons (ve_var 1) va_nil)) ve_int)))) (vb_one (vs_ret ve_bl)) vb_nil)
    (vb_one (vs_ret (ve_and (ve_call C_is_spot tk (hr.mono (by decide)) (va_cons (ve_var 0) (va_cons (ve_ix (ve_var 1) ve_int) va_nil))) (ve_and (ve_call C_is_spot tk (hr.mono (by decide)) (va_cons (ve_var 0) (va_cons (ve_ix (ve_var 1) ve_int) va_nil))) (ve_one (ve_lt rm (ve_ix (ve_var 1) ve_int) (ve_ix (ve_var 1) ve_int))))))))
theorem ok_is_touch (T : Txt Γ K mg) (C_is_spot : Cal Γ P wd K mg base 2 "is_spot" 2 [] R_is_spot) {f : Addr} {fd : FuncData} (F : FunD K "is_touch" "is_touch" (defArgs s_is_touch) (defBody s_is_touch) (defScope s_is_touch) [] [] f fd) (hm : mg "is_touch" = some (.ref f)) : Cal Γ P wd K mg base 3 "is_touch" 2 [] R_is_touch :=
  Cal.of F hm rfl (fun _ _ _ _ _ _ us hl => match us, hl with | [_, _], _ => rfl) (fo_is_touch T C_is_spot F)
theorem sc_need_own_load : FnScope ["machine", "thing", "wheel", "row", "place", "one"] ["machine", "thing"] (defScope s_need_own_load) := ⟨rfl, rfl, rfl, by decide +kernel, rfl, by decide +kernel, by decide +kernel⟩
theorem fo_need_own_load (T : Txt Γ K mg) (C_is_shaped : Cal Γ P wd K mg base 1 "is_shaped" 2 [] R_is_shaped) (C_is_fraction : Cal Γ P wd K mg base 2 "is_fraction" 1 [] R_is_fraction) {f : Addr} {fd : FuncData} (F : FunD K "need_own_load" "need_own_load" (defArgs s_need_own_load) (defBody s_need_own_load) (defScope s_need_own_load) [] [] f fd) : FnOk P wd K mg base (L2.CX P wd) 3 f fd ["machine", "thing"] (spOf Γ K 2 R_need_own_load) := by
  have S := sc_need_own_load
  refine fn_rule F sc_need_own_load fun cdv A outer s H E hr => ?_
  have tk : Takes (cxOf (L2.CX P wd) P wd K mg base ["machine", "thing", "wheel", "row", "place", "one"] "need_own_load" (defScope s_need_own_load) f cdv A outer s H E) (fun c d _ H => E c d H) := takes_of rfl rfl rfl rfl
  have rm : Rm (cxOf (L2.CX P wd) P wd K mg base ["machine", "thing", "wheel", "row", "place", "one"] "need_own_load" (defScope s_need_own_load) f cdv A outer s H E) := rm_of hr
  exact (vb_cons (vs_if (vt_not (vt_val (ve_call C_is_shaped tk (hr.mono (by decide)) (va_cons (ve_ix (ve_var 0) ve_int) (va_cons (ve_var 1) va_nil))))) (vb_one vs_bad) vb_nil)
    (vb_one (vs_for PassesOwn.leaving (vi_enum (va_cons (ve_var 1) va_nil) T.z_enumerate) (vg_tup (vgs_cons (vg_name 2 S.nd) (vgs_cons (vg_name 3 S.nd) vgs_nil))) (vb_one (vs_for PassesOwn.leaving (vi_enum (va_cons (ve_var 3) va_nil) T.z_enumerate) (vg_tup (vgs_cons (vg_name 4 S.nd) (vgs_cons (vg_name 5 S.nd) vgs_nil))) (vb_one (vs_if (vt_not (vt_val (ve_call C_is_fraction tk (hr.mono (by decide)) (va_cons (ve_var 5) va_nil)))) (vb_one vs_bad) vb_nil)))))))
theorem ok_need_own_load (T : Txt Γ K mg) (C_is_shaped : Cal Γ P wd K mg base 1 "is_shaped" 2 [] R_is_shaped) (C_is_fraction : Cal Γ P wd K mg base 2 "is_fraction" 1 [] R_is_fraction) {f : Addr} {fd : FuncData} (F : FunD K "need_own_load" "need_own_load" (defArgs s_need_own_load) (defBody s_need_own_load) (defScope s_need_own_load) [] [] f fd) (hm : mg "need_own_load" = some (.ref f)) : Cal Γ P wd K mg base 3 "need_own_load" 2 [] R_need_own_load :=
  Cal.of F hm rfl (fun _ _ _ _ _ _ us hl => match us, hl with | [_, _], _ => rfl) (fo_need_own_load T C_is_shaped C_is_fraction F)
theorem sc_own_mirror : FnScope ["machine", "counts", "touches", "touch"] ["machine"] (defScope s_own_mirror) := ⟨rfl, rfl, rfl, by decide +kernel, rfl, by decide +kernel, by decide +kernel⟩
theorem fo_own_mirror (T : Txt Γ K mg) (C_mirror_pair : Cal Γ P wd K mg base 2 "mirror_pair" 2 [] R_mirror_pair) {f : Addr} {fd : FuncData} (F : FunD K "own_mirror" "own_mirror" (defArgs s_own_mirror) (defBody s_own_mirror) (defScope s_own_mirror) [] [] f fd) : FnOk P wd K mg base (L2.CX P wd) 3 f fd ["machine"] (spOf Γ K 1 R_own_mirror) := by
  have S := sc_own_mirror
  refine fn_rule F sc_own_mirror fun cdv A outer s H E hr => ?_
  have tk : Takes (cxOf (L2.CX P wd) P wd K mg base ["machine", "counts", "touches", "touch"] "own_mirror" (defScope s_own_mirror) f cdv A outer s H E) (fun c d _ H => E c d H) := takes_of rfl rfl rfl rfl
  have rm : Rm (cxOf (L2.CX P wd) P wd K mg base ["machine", "counts", "touches", "touch"] "own_mirror" (defScope s_own_mirror) f cdv A outer s H E) := rm_of hr
  exact (vb_cons (vs_asg (ve_var 0) (vg_tup (vgs_cons (vg_name 1 S.nd) (vgs_cons (vg_name 2 S.nd) vgs_nil))))
    (vb_one (vs_ret (ve_pairU (va_cons (ve_var 1) (va_cons (bc_tupU T.z_tuple (va_cons (bc_sorted T.z_sorted rm (va_cons (ve_lc [("touch", 3)] S.nd (vi_val (ve_var 2)) (blkOk_by (by rfl)) (fun _ _ _ _ _ => (vg_name 3 S.nd)) (fun _ _ _ _ _ => vts_nil) (fun _ _ _ _ _ => (ve_call C_mirror_pair takes0 (hr.mono (by decide)) (va_cons (ve_var 1) (va_cons (ve_var 3) va_nil))))) va_nil)) va_nil)) va_nil))))))
theorem ok_own_mirror (T : Txt Γ K mg) (C_mirror_pair : Cal Γ P wd K mg base 2 "mirror_pair" 2 [] R_mirror_pair) {f : Addr} {fd : FuncData} (F : FunD K "own_mirror" "own_mirror" (defArgs s_own_mirror) (defBody s_own_mirror) (defScope s_own_mirror) [] [] f fd) (hm : mg "own_mirror" = some (.ref f)) : Cal Γ P wd K mg base 3 "own_mirror" 1 [] R_own_mirror :=
  Cal.of F hm rfl (fun _ _ _ _ _ _ us hl => match us, hl with | [_], _ => rfl) (fo_own_mirror T C_mirror_pair F)
theorem sc__law_counts : FnScope ["state", "most", "by", "found", "j", "one"] ["state", "most"] (defScope s__law_counts) := ⟨rfl, rfl, rfl, by decide +kernel, rfl, by decide +kernel, by decide +kernel⟩
theorem fo__law_counts (T : Txt Γ K mg) (C__law_digit : Cal Γ P wd K mg base 2 "_law_digit" 2 [] R__law_digit) {f : Addr} {fd : FuncData} (F : FunD K "_law_counts" "_law_counts" (defArgs s__law_counts) (defBody s__law_counts) (defScope s__law_counts) [] [] f fd) : FnOk P wd K mg base (L2.CX P wd) 3 f fd ["state", "most"] (spOf Γ K 2 R__law_counts) := by
  have S := sc__law_counts
  refine fn_rule F sc__law_counts fun cdv A outer s H E hr => ?_
  have tk : Takes (cxOf (L2.CX P wd) P wd K mg base ["state", "most", "by", "found", "j", "one"] "_law_counts" (defScope s__law_counts) f cdv A outer s H E) (fun c d _ H => E c d H) := takes_of rfl rfl rfl rfl
  have rm : Rm (cxOf (L2.CX P wd) P wd K mg base ["state", "most", "by", "found", "j", "one"] "_law_counts" (defScope s__law_counts) f cdv A outer s H E) := rm_of hr
  exact (vb_cons (vs_par 2 3 (va_cons (ve_ix (ve_lst (va_cons ve_int (va_cons ve_int (va_cons ve_int (va_cons ve_int (va_cons ve_int (va_cons ve_int va_nil))))))) (ve_call C__law_digit tk (hr.mono (by decide)) (va_cons (ve_var 0) (va_cons ve_int va_nil)))) (va_cons (ve_lst va_nil) va_nil)) S.nd (by rfl))
    (vb_cons (vs_for PassesOwn.leaving (vi_r1 (va_cons (ve_add ve_int (ve_call C__law_digit tk (hr.mono (by decide)) (va_cons (ve_var 0) (va_cons ve_int va_nil)))) va_nil) T.z_range) (vg_name 4 S.nd) (vb_cons (vs_set 5 (bc_min3 T.z_min rfl rm (va_cons ve_int (va_cons (ve_mul (ve_var 2) (ve_add ve_int (ve_call C__law_digit tk (hr.mono (by decide)) (va_cons (ve_var 0) (va_cons ve_int va_nil))))) (va_cons (ve_sub (ve_var 1) (bc_sum T.z_sum rfl (va_cons (ve_var 3) va_nil))) va_nil)))) S.nd)
    (vb_one (vs_set 3 (ve_add (ve_var 3) (ve_mul (ve_lst (va_cons (ve_var 5) va_nil)) (bc_int T.z_int  (va_cons (ve_gt rm (ve_var 5) ve_int) va_nil)))) S.nd))))
    (vb_one (vs_ret (bc_tuple T.z_tuple  (va_cons (ve_var 3) va_nil))))))
theorem ok__law_counts (T : Txt Γ K mg) (C__law_digit : Cal Γ P wd K mg base 2 "_law_digit" 2 [] R__law_digit) {f : Addr} {fd : FuncData} (F : FunD K "_law_counts" "_law_counts" (defArgs s__law_counts) (defBody s__law_counts) (defScope s__law_counts) [] [] f fd) (hm : mg "_law_counts" = some (.ref f)) : Cal Γ P wd K mg base 3 "_law_counts" 2 [] R__law_counts :=
  Cal.of F hm rfl (fun _ _ _ _ _ _ us hl => match us, hl with | [_, _], _ => rfl) (fo__law_counts T C__law_digit F)
theorem sc__law_touches : FnScope ["state", "wheels", "most", "free", "found", "wheel", "count", "at", "j", "one", "far"] ["state", "wheels", "most"] (defScope s__law_touches) := ⟨rfl, rfl, rfl, by decide +kernel, rfl, by decide +kernel, by decide +kernel⟩
theorem fo__law_touches (T : Txt Γ K mg) (C__law_digit : Cal Γ P wd K mg base 2 "_law_digit" 2 [] R__law_digit) {f : Addr} {fd : FuncData} (F : FunD K "_law_touches" "_law_touches" (defArgs s__law_touches) (defBody s__law_touches) (defScope s__law_touches) [] [] f fd) : FnOk P wd K mg base (L2.CX P wd) 3 f fd ["state", "wheels", "most"] (spOf Γ K 3 R__law_touches) := by
  have S := sc__law_touches
  refine fn_rule F sc__law_touches fun cdv A outer s H E hr => ?_
  have tk : Takes (cxOf (L2.CX P wd) P wd K mg base ["state", "wheels", "most", "free", "found", "wheel", "count", "at", "j", "one", "far"] "_law_touches" (defScope s__law_touches) f cdv A outer s H E) (fun c d _ H => E c d H) := takes_of rfl rfl rfl rfl
  have rm : Rm (cxOf (L2.CX P wd) P wd K mg base ["state", "wheels", "most", "free", "found", "wheel", "count", "at", "j", "one", "far"] "_law_touches" (defScope s__law_touches) f cdv A outer s H E) := rm_of hr
  exact (vb_cons (vs_par 3 4 (va_cons (ve_lst va_nil) (va_cons (ve_lst va_nil) va_nil)) S.nd (by rfl))
    (vb_cons (vs_for PassesOwn.leaving (vi_enum (va_cons (ve_var 1) va_nil) T.z_enumerate) (vg_tup (vgs_cons (vg_name 5 S.nd) (vgs_cons (vg_name 6 S.nd) vgs_nil))) (vb_one (vs_set 3 (ve_add (ve_var 3) (ve_lc [("at", 7)] S.nd (vi_r1 (va_cons (ve_var 6) va_nil) T.z_range) (blkOk_by (by rfl)) (fun _ _ _ _ _ => (vg_name 7 S.nd)) (fun _ _ _ _ _ => vts_nil) (fun _ _ _ _ _ => (ve_tup (va_cons (ve_var 5) (va_cons (ve_var 7) va_nil)))))) S.nd)))
    (vb_cons (vs_for PassesOwn.leaving (vi_r1 (va_cons (ve_call C__law_digit tk (hr.mono (by decide)) (va_cons (ve_var 0) (va_cons (ve_add (ve_var 2) ve_int) va_nil))) va_nil) T.z_range) (vg_name 8 S.nd) (vb_one (vs_if (vt_gt rm (bc_len T.z_len  (va_cons (ve_var 3) va_nil)) ve_int) (vb_cons (vs_set 9 (bm_pop (ve_var 3) (va_cons (ve_call C__law_digit tk (hr.mono (by decide)) (va_cons (ve_var 0) (va_cons (bc_len T.z_len  (va_cons (ve_var 3) va_nil)) va_nil))) va_nil)) S.nd)
    (vb_cons (vs_set 10 (bm_pop (ve_var 3) (va_cons (ve_call C__law_digit tk (hr.mono (by decide)) (va_cons (ve_var 0) (va_cons (bc_len T.z_len  (va_cons (ve_var 3) va_nil)) va_nil))) va_nil)) S.nd)
    (vb_one (vs_expr (bm_append (ve_var 4) (va_cons (ve_tup (va_cons (bc_min2 T.z_min rfl rm (va_cons (ve_var 9) (va_cons (ve_var 10) va_nil))) (va_cons (bc_max2 T.z_max rfl rm (va_cons (ve_var 9) (va_cons (ve_var 10) va_nil))) va_nil))) va_nil)))))) vb_nil)))
    (vb_one (vs_ret (bc_tuple T.z_tuple  (va_cons (bc_sorted T.z_sorted rm (va_cons (ve_var 4) va_nil)) va_nil)))))))
theorem ok__law_touches (T : Txt Γ K mg) (C__law_digit : Cal Γ P wd K mg base 2 "_law_digit" 2 [] R__law_digit) {f : Addr} {fd : FuncData} (F : FunD K "_law_touches" "_law_touches" (defArgs s__law_touches) (defBody s__law_touches) (defScope s__law_touches) [] [] f fd) (hm : mg "_law_touches" = some (.ref f)) : Cal Γ P wd K mg base 3 "_law_touches" 3 [] R__law_touches :=
  Cal.of F hm rfl (fun _ _ _ _ _ _ us hl => match us, hl with | [_, _, _], _ => rfl) (fo__law_touches T C__law_digit F)
theorem sc__law_load : FnScope ["state", "wheels", "span", "found", "count", "some", "j", "top", "bottom"] ["state", "wheels", "span"] (defScope s__law_load) := ⟨rfl, rfl, rfl, by decide +kernel, rfl, by decide +kernel, by decide +kernel⟩
theorem fo__law_load (T : Txt Γ K mg) (C__law_digit : Cal Γ P wd K mg base 2 "_law_digit" 2 [] R__law_digit) (C__law_lowest : Cal Γ P wd K mg base 1 "_law_lowest" 2 [] R__law_lowest) {f : Addr} {fd : FuncData} (F : FunD K "_law_load" "_law_load" (defArgs s__law_load) (defBody s__law_load) (defScope s__law_load) [] [] f fd) : FnOk P wd K mg base (L2.CX P wd) 3 f fd ["state", "wheels", "span"] (spOf Γ K 3 R__law_load) := by
  have S := sc__law_load
  refine fn_rule F sc__law_load fun cdv A outer s H E hr => ?_
  have tk : Takes (cxOf (L2.CX P wd) P wd K mg base ["state", "wheels", "span", "found", "count", "some", "j", "top", "bottom"] "_law_load" (defScope s__law_load) f cdv A outer s H E) (fun c d _ H => E c d H) := takes_of rfl rfl rfl rfl
  have rm : Rm (cxOf (L2.CX P wd) P wd K mg base ["state", "wheels", "span", "found", "count", "some", "j", "top", "bottom"] "_law_load" (defScope s__law_load) f cdv A outer s H E) := rm_of hr
  exact (vb_cons (vs_set 3 (ve_lst va_nil) S.nd)
    (vb_cons (vs_for PassesOwn.leaving (vi_val (ve_var 1)) (vg_name 4 S.nd) (vb_cons (vs_setLc 5 [("j", 6)] S.nd (by rfl) (vi_r1 (va_cons (ve_var 4) va_nil) T.z_range) (blkOk_by (by rfl)) (fun _ _ _ _ _ => (vg_name 6 S.nd)) (fun _ _ _ _ _ => vts_nil) (fun _ _ _ _ _ => (ve_tup (va_cons (ve_sub (ve_call C__law_digit takes0 (hr.mono (by decide)) (va_cons (ve_var 0) (va_cons (ve_add (ve_mul ve_int (ve_var 2)) ve_int) va_nil))) (ve_var 2)) (va_cons (ve_add ve_int (ve_call C__law_digit takes0 (hr.mono (by decide)) (va_cons (ve_var 0) (va_cons ve_int va_nil)))) va_nil)))))
    (vb_one (vs_expr (bm_append (ve_var 3) (va_cons (bc_tuple T.z_tuple  (va_cons (ve_lc [("top", 7), ("bottom", 8)] S.nd (vi_val (ve_var 5)) (blkOk_by (by rfl)) (fun _ _ _ _ _ => (vg_tup (vgs_cons (vg_name 7 S.nd) (vgs_cons (vg_name 8 S.nd) vgs_nil)))) (fun _ _ _ _ _ => vts_nil) (fun _ _ _ _ _ => (ve_call C__law_lowest takes0 (hr.mono (by decide)) (va_cons (ve_var 7) (va_cons (ve_var 8) va_nil))))) va_nil)) va_nil))))))
    (vb_one (vs_ret (bc_tuple T.z_tuple  (va_cons (ve_var 3) va_nil))))))
theorem ok__law_load (T : Txt Γ K mg) (C__law_digit : Cal Γ P wd K mg base 2 "_law_digit" 2 [] R__law_digit) (C__law_lowest : Cal Γ P wd K mg base 1 "_law_lowest" 2 [] R__law_lowest) {f : Addr} {fd : FuncData} (F : FunD K "_law_load" "_law_load" (defArgs s__law_load) (defBody s__law_load) (defScope s__law_load) [] [] f fd) (hm : mg "_law_load" = some (.ref f)) : Cal Γ P wd K mg base 3 "_law_load" 3 [] R__law_load :=
  Cal.of F hm rfl (fun _ _ _ _ _ _ us hl => match us, hl with | [_, _, _], _ => rfl) (fo__law_load T C__law_digit C__law_lowest F)
theorem sc__law_pairing : FnScope ["one", "other", "found", "thing", "far"] ["one", "other"] (defScope s__law_pairing) := ⟨rfl, rfl, rfl, by decide +kernel, rfl, by decide +kernel, by decide +kernel⟩
theorem fo__law_pairing (T : Txt Γ K mg) (C__law_plus : Cal Γ P wd K mg base 2 "_law_plus" 2 [] R__law_plus) (C__law_times : Cal Γ P wd K mg base 2 "_law_times" 2 [] R__law_times) {f : Addr} {fd : FuncData} (F : FunD K "_law_pairing" "_law_pairing" (defArgs s__law_pairing) (defBody s__law_pairing) (defScope s__law_pairing) [] [] f fd) : FnOk P wd K mg base (L2.CX P wd) 3 f fd ["one", "other"] (spOf Γ K 2 R__law_pairing) := by
  have S := sc__law_pairing
  refine fn_rule F sc__law_pairing fun cdv A outer s H E hr => ?_
  have tk : Takes (cxOf (L2.CX P wd) P wd K mg base ["one", "other", "found", "thing", "far"] "_law_pairing" (defScope s__law_pairing) f cdv A outer s H E) (fun c d _ H => E c d H) := takes_of rfl rfl rfl rfl
  have rm : Rm (cxOf (L2.CX P wd) P wd K mg base ["one", "other", "found", "thing", "far"] "_law_pairing" (defScope s__law_pairing) f cdv A outer s H E) := rm_of hr
  exact (vb_cons (vs_set 2 (ve_tup (va_cons ve_int (va_cons ve_int va_nil))) S.nd)
    (vb_cons (vs_for PassesOwn.leaving (vi_zip2 (va_cons (ve_var 0) (va_cons (ve_var 1) va_nil)) T.z_zip) (vg_tup (vgs_cons (vg_name 3 S.nd) (vgs_cons (vg_name 4 S.nd) vgs_nil))) (vb_one (vs_set 2 (ve_call C__law_plus tk (hr.mono (by decide)) (va_cons (ve_var 2) (va_cons (ve_call C__law_times tk (hr.mono (by decide)) (va_cons (ve_var 3) (va_cons (ve_var 4) va_nil))) va_nil))) S.nd)))
    (vb_one (vs_ret (ve_var 2)))))
theorem ok__law_pairing (T : Txt Γ K mg) (C__law_plus : Cal Γ P wd K mg base 2 "_law_plus" 2 [] R__law_plus) (C__law_times : Cal Γ P wd K mg base 2 "_law_times" 2 [] R__law_times) {f : Addr} {fd : FuncData} (F : FunD K "_law_pairing" "_law_pairing" (defArgs s__law_pairing) (defBody s__law_pairing) (defScope s__law_pairing) [] [] f fd) (hm : mg "_law_pairing" = some (.ref f)) : Cal Γ P wd K mg base 3 "_law_pairing" 2 [] R__law_pairing :=
  Cal.of F hm rfl (fun _ _ _ _ _ _ us hl => match us, hl with | [_, _], _ => rfl) (fo__law_pairing T C__law_plus C__law_times F)
theorem sc_touches_misfit : FnScope ["counts", "touches", "known", "number", "touch"] ["counts", "touches"] (defScope s_touches_misfit) := ⟨rfl, rfl, rfl, by decide +kernel, rfl, by decide +kernel, by decide +kernel⟩
theorem fo_touches_misfit (T : Txt Γ K mg) (C_is_touch : Cal Γ P wd K mg base 3 "is_touch" 2 [] R_is_touch) {f : Addr} {fd : FuncData} (F : FunD K "touches_misfit" "touches_misfit" (defArgs s_touches_misfit) (defBody s_touches_misfit) (defScope s_touches_misfit) [] [] f fd) : FnOk P wd K mg base (L2.CX P wd) 4 f fd ["counts", "touches"] (spOf Γ K 2 R_touches_misfit) := by
  have S := sc_touches_misfit
  refine fn_rule F sc_touches_misfit fun cdv A outer s H E hr => ?_
  have tk : Takes (cxOf (L2.CX P wd) P wd K mg base ["counts", "touches", "known", "number", "touch"] "touches_misfit" (defScope s_touches_misfit) f cdv A outer s H E) (fun c d _ H => E c d H) := takes_of rfl rfl rfl rfl
  have rm : Rm (cxOf (L2.CX P wd) P wd K mg base ["counts", "touches", "known", "number", "touch"] "touches_misfit" (defScope s_touches_misfit) f cdv A outer s H E) := rm_of hr
  exact (vb_cons (vs_set 2 (ve_lst va_nil) S.nd)
    (vb_cons (vs_for PassesOwn.leaving (vi_enum (va_cons (ve_var 1) va_nil) T.z_enumerate) (vg_tup (vgs_cons (vg_name 3 S.nd) (vgs_cons (vg_name 4 S.nd) vgs_nil))) (vb_cons (vs_if (VW.vt (vw_or (vt_not (vt_val (ve_call C_is_touch tk (hr.mono (by decide)) (va_cons (ve_var 0) (va_cons (ve_var 4) va_nil))))) (vw_or1 (VW.vt (vw_and (vt_gt rm (ve_var 3) ve_int) (vw_and1 (vt_not (vt_lt rm (ve_ix (ve_var 1) (ve_sub (ve_var 3) ve_int)) (ve_var 4))))))))) (vb_one (vs_ret (ve_var 3))) vb_nil)
    (vb_cons (vs_if (VW.vt (vw_or (vt_in rm (ve_ix (ve_var 4) ve_int) (ve_var 2)) (vw_or1 (vt_in rm (ve_ix (ve_var 4) ve_int) (ve_var 2))))) (vb_one (vs_ret (ve_var 3))) vb_nil)
    (vb_one (vs_expr (bm_extend (ve_var 2) (va_cons (ve_var 4) va_nil)))))))
    (vb_one (vs_ret ve_non))))
theorem ok_touches_misfit (T : Txt Γ K mg) (C_is_touch : Cal Γ P wd K mg base 3 "is_touch" 2 [] R_is_touch) {f : Addr} {fd : FuncData} (F : FunD K "touches_misfit" "touches_misfit" (defArgs s_touches_misfit) (defBody s_touches_misfit) (defScope s_touches_misfit) [] [] f fd) (hm : mg "touches_misfit" = some (.ref f)) : Cal Γ P wd K mg base 4 "touches_misfit" 2 [] R_touches_misfit :=
  Cal.of F hm rfl (fun _ _ _ _ _ _ us hl => match us, hl with | [_, _], _ => rfl) (fo_touches_misfit T C_is_touch F)
theorem sc_own_read : FnScope ["machine", "load", "one", "far"] ["machine", "load"] (defScope s_own_read) := ⟨rfl, rfl, rfl, by decide +kernel, rfl, by decide +kernel, by decide +kernel⟩
theorem fo_own_read (T : Txt Γ K mg) (C_half : Cal Γ P wd K mg base 3 "half" 1 [] R_half) (C_plus : Cal Γ P wd K mg base 3 "plus" 2 [] R_plus) {f : Addr} {fd : FuncData} (F : FunD K "own_read" "own_read" (defArgs s_own_read) (defBody s_own_read) (defScope s_own_read) [] [] f fd) : FnOk P wd K mg base (L2.CX P wd) 4 f fd ["machine", "load"] (spOf Γ K 2 R_own_read) := by
  have S := sc_own_read
  refine fn_rule F sc_own_read fun cdv A outer s H E hr => ?_
  have tk : Takes (cxOf (L2.CX P wd) P wd K mg base ["machine", "load", "one", "far"] "own_read" (defScope s_own_read) f cdv A outer s H E) (fun c d _ H => E c d H) := takes_of rfl rfl rfl rfl
  have rm : Rm (cxOf (L2.CX P wd) P wd K mg base ["machine", "load", "one", "far"] "own_read" (defScope s_own_read) f cdv A outer s H E) := rm_of hr
  exact (vb_one (vs_ret (bc_tuple T.z_tuple  (va_cons (ve_lc [("one", 2), ("far", 3)] S.nd (vi_val (ve_ix (ve_var 0) ve_int)) (blkOk_by (by rfl)) (fun _ _ _ _ _ => (vg_tup (vgs_cons (vg_name 2 S.nd) (vgs_cons (vg_name 3 S.nd) vgs_nil)))) (fun _ _ _ _ _ => vts_nil) (fun _ _ _ _ _ => (ve_call C_half takes0 (hr.mono (by decide)) (va_cons (ve_call C_plus takes0 (hr.mono (by decide)) (va_cons (ve_ix (ve_ix (ve_var 1) (ve_ix (ve_var 2) ve_int)) (ve_ix (ve_var 2) ve_int)) (va_cons (ve_ix (ve_ix (ve_var 1) (ve_ix (ve_var 3) ve_int)) (ve_ix (ve_var 3) ve_int)) va_nil))) va_nil)))) va_nil))))
theorem ok_own_read (T : Txt Γ K mg) (C_half : Cal Γ P wd K mg base 3 "half" 1 [] R_half) (C_plus : Cal Γ P wd K mg base 3 "plus" 2 [] R_plus) {f : Addr} {fd : FuncData} (F : FunD K "own_read" "own_read" (defArgs s_own_read) (defBody s_own_read) (defScope s_own_read) [] [] f fd) (hm : mg "own_read" = some (.ref f)) : Cal Γ P wd K mg base 4 "own_read" 2 [] R_own_read :=
  Cal.of F hm rfl (fun _ _ _ _ _ _ us hl => match us, hl with | [_, _], _ => rfl) (fo_own_read T C_half C_plus F)
theorem sc_own_mirror_touch : FnScope ["machine", "touch"] ["machine", "touch"] (defScope s_own_mirror_touch) := ⟨rfl, rfl, rfl, by decide +kernel, rfl, by decide +kernel, by decide +kernel⟩
theorem fo_own_mirror_touch (T : Txt Γ K mg) (C_own_mirror : Cal Γ P wd K mg base 3 "own_mirror" 1 [] R_own_mirror) (C_mirror_pair : Cal Γ P wd K mg base 2 "mirror_pair" 2 [] R_mirror_pair) {f : Addr} {fd : FuncData} (F : FunD K "own_mirror_touch" "own_mirror_touch" (defArgs s_own_mirror_touch) (defBody s_own_mirror_touch) (defScope s_own_mirror_touch) [] [] f fd) : FnOk P wd K mg base (L2.CX P wd) 4 f fd ["machine", "touch"] (spOf Γ K 2 R_own_mirror_touch) := by
  have S := sc_own_mirror_touch
  refine fn_rule F sc_own_mirror_touch fun cdv A outer s H E hr => ?_
  have tk : Takes (cxOf (L2.CX P wd) P wd K mg base ["machine", "touch"] "own_mirror_touch" (defScope s_own_mirror_touch) f cdv A outer s H E) (fun c d _ H => E c d H) := takes_of rfl rfl rfl rfl
  have rm : Rm (cxOf (L2.CX P wd) P wd K mg base ["machine", "touch"] "own_mirror_touch" (defScope s_own_mirror_touch) f cdv A outer s H E) := rm_of hr
  exact (vb_one (vs_ret (bm_index rm (ve_snd (ve_call C_own_mirror tk (hr.mono (by decide)) (va_cons (ve_var 0) va_nil)) ve_int) (va_cons (ve_call C_mirror_pair tk (hr.mono (by decide)) (va_cons (ve_ix (ve_var 0) ve_int) (va_cons (ve_ix (ve_ix (ve_var 0) ve_int) (ve_var 1)) va_nil))) va_nil))))
theorem ok_own_mirror_touch (T : Txt Γ K mg) (C_own_mirror : Cal Γ P wd K mg base 3 "own_mirror" 1 [] R_own_mirror) (C_mirror_pair : Cal Γ P wd K mg base 2 "mirror_pair" 2 [] R_mirror_pair) {f : Addr} {fd : FuncData} (F : FunD K "own_mirror_touch" "own_mirror_touch" (defArgs s_own_mirror_touch) (defBody s_own_mirror_touch) (defScope s_own_mirror_touch) [] [] f fd) (hm : mg "own_mirror_touch" = some (.ref f)) : Cal Γ P wd K mg base 4 "own_mirror_touch" 2 [] R_own_mirror_touch :=
  Cal.of F hm rfl (fun _ _ _ _ _ _ us hl => match us, hl with | [_, _], _ => rfl) (fo_own_mirror_touch T C_own_mirror C_mirror_pair F)
theorem sc_pairing : FnScope ["one", "other", "found", "thing", "far"] ["one", "other"] (defScope s_pairing) := ⟨rfl, rfl, rfl, by decide +kernel, rfl, by decide +kernel, by decide +kernel⟩
theorem fo_pairing (T : Txt Γ K mg) (C_is_nought : Cal Γ P wd K mg base 1 "is_nought" 1 [] R_is_nought) (C_plus : Cal Γ P wd K mg base 3 "plus" 2 [] R_plus) (C_times : Cal Γ P wd K mg base 3 "times" 2 [] R_times) {f : Addr} {fd : FuncData} (F : FunD K "pairing" "pairing" (defArgs s_pairing) (defBody s_pairing) (defScope s_pairing) [] [] f fd) : FnOk P wd K mg base (L2.CX P wd) 4 f fd ["one", "other"] (spOf Γ K 2 R_pairing) := by
  have S := sc_pairing
  refine fn_rule F sc_pairing fun cdv A outer s H E hr => ?_
  have tk : Takes (cxOf (L2.CX P wd) P wd K mg base ["one", "other", "found", "thing", "far"] "pairing" (defScope s_pairing) f cdv A outer s H E) (fun c d _ H => E c d H) := takes_of rfl rfl rfl rfl
  have rm : Rm (cxOf (L2.CX P wd) P wd K mg base ["one", "other", "found", "thing", "far"] "pairing" (defScope s_pairing) f cdv A outer s H E) := rm_of hr
  exact (vb_cons (vs_set 2 (ve_glob T.c_NOUGHT) S.nd)
    (vb_cons (vs_for PassesOwn.leaving (vi_zip2 (va_cons (ve_var 0) (va_cons (ve_var 1) va_nil)) T.z_zip) (vg_tup (vgs_cons (vg_name 3 S.nd) (vgs_cons (vg_name 4 S.nd) vgs_nil))) (vb_one (vs_if (VW.vt (vw_and (vt_not (vt_val (ve_call C_is_nought tk (hr.mono (by decide)) (va_cons (ve_var 3) va_nil)))) (vw_and1 (vt_not (vt_val (ve_call C_is_nought tk (hr.mono (by decide)) (va_cons (ve_var 4) va_nil))))))) (vb_one (vs_set 2 (ve_call C_plus tk (hr.mono (by decide)) (va_cons (ve_var 2) (va_cons (ve_call C_times tk (hr.mono (by decide)) (va_cons (ve_var 3) (va_cons (ve_var 4) va_nil))) va_nil))) S.nd)) vb_nil)))
    (vb_one (vs_ret (ve_var 2)))))
theorem ok_pairing (T : Txt Γ K mg) (C_is_nought : Cal Γ P wd K mg base 1 "is_nought" 1 [] R_is_nought) (C_plus : Cal Γ P wd K mg base 3 "plus" 2 [] R_plus) (C_times : Cal Γ P wd K mg base 3 "times" 2 [] R_times) {f : Addr} {fd : FuncData} (F : FunD K "pairing" "pairing" (defArgs s_pairing) (defBody s_pairing) (defScope s_pairing) [] [] f fd) (hm : mg "pairing" = some (.ref f)) : Cal Γ P wd K mg base 4 "pairing" 2 [] R_pairing :=
  Cal.of F hm rfl (fun _ _ _ _ _ _ us hl => match us, hl with | [_, _], _ => rfl) (fo_pairing T C_is_nought C_plus C_times F)
theorem sc__law_machine : FnScope ["state", "most", "wheels"] ["state", "most"] (defScope s__law_machine) := ⟨rfl, rfl, rfl, by decide +kernel, rfl, by decide +kernel, by decide +kernel⟩
theorem fo__law_machine (T : Txt Γ K mg) (C__law_counts : Cal Γ P wd K mg base 3 "_law_counts" 2 [] R__law_counts) (C__law_touches : Cal Γ P wd K mg base 3 "_law_touches" 3 [] R__law_touches) {f : Addr} {fd : FuncData} (F : FunD K "_law_machine" "_law_machine" (defArgs s__law_machine) (defBody s__law_machine) (defScope s__law_machine) [] [] f fd) : FnOk P wd K mg base (L2.CX P wd) 4 f fd ["state", "most"] (spOf Γ K 2 R__law_machine) := by
  have S := sc__law_machine
  refine fn_rule F sc__law_machine fun cdv A outer s H E hr => ?_
  have tk : Takes (cxOf (L2.CX P wd) P wd K mg base ["state", "most", "wheels"] "_law_machine" (defScope s__law_machine) f cdv A outer s H E) (fun c d _ H => E c d H) := takes_of rfl rfl rfl rfl
  have rm : Rm (cxOf (L2.CX P wd) P wd K mg base ["state", "most", "wheels"] "_law_machine" (defScope s__law_machine) f cdv A outer s H E) := rm_of hr
  exact (vb_cons (vs_set 2 (ve_call C__law_counts tk (hr.mono (by decide)) (va_cons (ve_var 0) (va_cons (ve_var 1) va_nil))) S.nd)
    (vb_one (vs_ret (ve_tup (va_cons (ve_var 2) (va_cons (ve_call C__law_touches tk (hr.mono (by decide)) (va_cons (ve_var 0) (va_cons (ve_var 2) (va_cons ve_int va_nil)))) va_nil))))))
theorem ok__law_machine (T : Txt Γ K mg) (C__law_counts : Cal Γ P wd K mg base 3 "_law_counts" 2 [] R__law_counts) (C__law_touches : Cal Γ P wd K mg base 3 "_law_touches" 3 [] R__law_touches) {f : Addr} {fd : FuncData} (F : FunD K "_law_machine" "_law_machine" (defArgs s__law_machine) (defBody s__law_machine) (defScope s__law_machine) [] [] f fd) (hm : mg "_law_machine" = some (.ref f)) : Cal Γ P wd K mg base 4 "_law_machine" 2 [] R__law_machine :=
  Cal.of F hm rfl (fun _ _ _ _ _ _ us hl => match us, hl with | [_, _], _ => rfl) (fo__law_machine T C__law_counts C__law_touches F)
theorem sc_need_machine : FnScope ["thing", "counts", "touches", "wrong"] ["thing"] (defScope s_need_machine) := ⟨rfl, rfl, rfl, by decide +kernel, rfl, by decide +kernel, by decide +kernel⟩
theorem fo_need_machine (T : Txt Γ K mg) (C_are_counts : Cal Γ P wd K mg base 2 "are_counts" 1 [] R_are_counts) (C_touches_misfit : Cal Γ P wd K mg base 4 "touches_misfit" 2 [] R_touches_misfit) {f : Addr} {fd : FuncData} (F : FunD K "need_machine" "need_machine" (defArgs s_need_machine) (defBody s_need_machine) (defScope s_need_machine) [] [] f fd) : FnOk P wd K mg base (L2.CX P wd) 5 f fd ["thing"] (spOf Γ K 1 R_need_machine) := by
  have S := sc_need_machine
  refine fn_rule F sc_need_machine fun cdv A outer s H E hr => ?_
  have tk : Takes (cxOf (L2.CX P wd) P wd K mg base ["thing", "counts", "touches", "wrong"] "need_machine" (defScope s_need_machine) f cdv A outer s H E) (fun c d _ H => E c d H) := takes_of rfl rfl rfl rfl
  have rm : Rm (cxOf (L2.CX P wd) P wd K mg base ["thing", "counts", "touches", "wrong"] "need_machine" (defScope s_need_machine) f cdv A outer s H E) := rm_of hr
  exact (vb_cons (vs_if (VW.vt (vw_or (vt_not (vt_val (bi_tuple T.z_isinstance T.z_tuple (ve_var 0)))) (vw_or1 (vt_ne rm (bc_len T.z_len  (va_cons (ve_var 0) va_nil)) ve_int)))) (vb_one vs_bad) vb_nil)
    (vb_cons (vs_asg (ve_var 0) (vg_tup (vgs_cons (vg_name 1 S.nd) (vgs_cons (vg_name 2 S.nd) vgs_nil))))
    (vb_cons (vs_if (vt_not (vt_val (ve_call C_are_counts tk (hr.mono (by decide)) (va_cons (ve_var 1) va_nil)))) (vb_one vs_bad) vb_nil)
    (vb_cons (vs_if (VW.vt (vw_or (vt_not (vt_val (bi_tuple T.z_isinstance T.z_tuple (ve_var 2)))) (vw_or1 (vt_gt rm (bc_len T.z_len  (va_cons (ve_var 2) va_nil)) (ve_glob T.c_MOST_TOUCHES))))) (vb_one vs_bad) vb_nil)
    (vb_cons (vs_set 3 (ve_call C_touches_misfit tk (hr.mono (by decide)) (va_cons (ve_var 1) (va_cons (ve_var 2) va_nil))) S.nd)
    (vb_one (vs_if (vt_isnN (ve_var 3) ve_non) (vb_one vs_bad) vb_nil)))))))
theorem ok_need_machine (T : Txt Γ K mg) (C_are_counts : Cal Γ P wd K mg base 2 "are_counts" 1 [] R_are_counts) (C_touches_misfit : Cal Γ P wd K mg base 4 "touches_misfit" 2 [] R_touches_misfit) {f : Addr} {fd : FuncData} (F : FunD K "need_machine" "need_machine" (defArgs s_need_machine) (defBody s_need_machine) (defScope s_need_machine) [] [] f fd) (hm : mg "need_machine" = some (.ref f)) : Cal Γ P wd K mg base 5 "need_machine" 1 [] R_need_machine :=
  Cal.of F hm rfl (fun _ _ _ _ _ _ us hl => match us, hl with | [_], _ => rfl) (fo_need_machine T C_are_counts C_touches_misfit F)
theorem sc_own_beat : FnScope ["machine", "load", "rows", "row", "touch", "reading", "wheel", "place"] ["machine", "load"] (defScope s_own_beat) := ⟨rfl, rfl, rfl, by decide +kernel, rfl, by decide +kernel, by decide +kernel⟩
theorem fo_own_beat (T : Txt Γ K mg) (C_own_read : Cal Γ P wd K mg base 4 "own_read" 2 [] R_own_read) {f : Addr} {fd : FuncData} (F : FunD K "own_beat" "own_beat" (defArgs s_own_beat) (defBody s_own_beat) (defScope s_own_beat) [] [] f fd) : FnOk P wd K mg base (L2.CX P wd) 5 f fd ["machine", "load"] (spOf Γ K 2 R_own_beat) := by
  have S := sc_own_beat
  refine fn_rule F sc_own_beat fun cdv A outer s H E hr => ?_
  have tk : Takes (cxOf (L2.CX P wd) P wd K mg base ["machine", "load", "rows", "row", "touch", "reading", "wheel", "place"] "own_beat" (defScope s_own_beat) f cdv A outer s H E) (fun c d _ H => E c d H) := takes_of rfl rfl rfl rfl
  have rm : Rm (cxOf (L2.CX P wd) P wd K mg base ["machine", "load", "rows", "row", "touch", "reading", "wheel", "place"] "own_beat" (defScope s_own_beat) f cdv A outer s H E) := rm_of hr
  exact (vb_cons (vs_setLc 2 [("row", 3)] S.nd (by rfl) (vi_val (ve_var 1)) (blkOk_by (by rfl)) (fun _ _ _ _ _ => (vg_name 3 S.nd)) (fun _ _ _ _ _ => vts_nil) (fun _ _ _ _ _ => (bc_list T.z_list  (va_cons (ve_var 3) va_nil))))
    (vb_cons (vs_for PassesOwn.leaving (vi_zip2 (va_cons (ve_ix (ve_var 0) ve_int) (va_cons (ve_call C_own_read tk (hr.mono (by decide)) (va_cons (ve_var 0) (va_cons (ve_var 1) va_nil))) va_nil)) T.z_zip) (vg_tup (vgs_cons (vg_name 4 S.nd) (vgs_cons (vg_name 5 S.nd) vgs_nil))) (vb_one (vs_for PassesOwn.leaving (vi_val (ve_var 4)) (vg_tup (vgs_cons (vg_name 6 S.nd) (vgs_cons (vg_name 7 S.nd) vgs_nil))) (vb_one (vs_putL (ve_var 5) (ve_ix (ve_var 2) (ve_var 6)) (ve_var 7))))))
    (vb_one (vs_ret (bc_tuple T.z_tuple  (va_cons (ve_lc [("row", 3)] S.nd (vi_val (ve_var 2)) (blkOk_by (by rfl)) (fun _ _ _ _ _ => (vg_name 3 S.nd)) (fun _ _ _ _ _ => vts_nil) (fun _ _ _ _ _ => (bc_tuple T.z_tuple  (va_cons (ve_add (ve_slice (ve_var 3) (vo_some ve_int) vo_none) (ve_slice (ve_var 3) vo_none (vo_some ve_int))) va_nil)))) va_nil))))))
theorem ok_own_beat (T : Txt Γ K mg) (C_own_read : Cal Γ P wd K mg base 4 "own_read" 2 [] R_own_read) {f : Addr} {fd : FuncData} (F : FunD K "own_beat" "own_beat" (defArgs s_own_beat) (defBody s_own_beat) (defScope s_own_beat) [] [] f fd) (hm : mg "own_beat" = some (.ref f)) : Cal Γ P wd K mg base 5 "own_beat" 2 [] R_own_beat :=
  Cal.of F hm rfl (fun _ _ _ _ _ _ us hl => match us, hl with | [_, _], _ => rfl) (fo_own_beat T C_own_read F)
theorem sc__law_touching : FnScope ["state", "most", "machine"] ["state", "most"] (defScope s__law_touching) := ⟨rfl, rfl, rfl, by decide +kernel, rfl, by decide +kernel, by decide +kernel⟩
theorem fo__law_touching (T : Txt Γ K mg) (C__law_machine : Cal Γ P wd K mg base 4 "_law_machine" 2 [] R__law_machine) (C__law_digit : Cal Γ P wd K mg base 2 "_law_digit" 2 [] R__law_digit) {f : Addr} {fd : FuncData} (F : FunD K "_law_touching" "_law_touching" (defArgs s__law_touching) (defBody s__law_touching) (defScope s__law_touching) [] [] f fd) : FnOk P wd K mg base (L2.CX P wd) 5 f fd ["state", "most"] (spOf Γ K 2 R__law_touching) := by
  have S := sc__law_touching
  refine fn_rule F sc__law_touching fun cdv A outer s H E hr => ?_
  have tk : Takes (cxOf (L2.CX P wd) P wd K mg base ["state", "most", "machine"] "_law_touching" (defScope s__law_touching) f cdv A outer s H E) (fun c d _ H => E c d H) := takes_of rfl rfl rfl rfl
  have rm : Rm (cxOf (L2.CX P wd) P wd K mg base ["state", "most", "machine"] "_law_touching" (defScope s__law_touching) f cdv A outer s H E) := rm_of hr
  exact (vb_cons (vs_set 2 (ve_call C__law_machine tk (hr.mono (by decide)) (va_cons (ve_var 0) (va_cons (ve_var 1) va_nil))) S.nd)
    (vb_cons (vs_if (vt_ne rm (ve_ix (ve_var 2) ve_int) (ve_tup va_nil)) (vb_one (vs_ret (ve_var 2))) vb_nil)
    (vb_one (vs_ret (ve_tup (va_cons (ve_tup (va_cons ve_int (va_cons ve_int va_nil))) (va_cons (ve_tup (va_cons (ve_tup (va_cons (ve_tup (va_cons ve_int (va_cons (ve_call C__law_digit tk (hr.mono (by decide)) (va_cons (ve_var 0) (va_cons ve_int va_nil))) va_nil))) (va_cons (ve_tup (va_cons ve_int (va_cons (ve_call C__law_digit tk (hr.mono (by decide)) (va_cons (ve_var 0) (va_cons ve_int va_nil))) va_nil))) va_nil))) va_nil)) va_nil)))))))
theorem ok__law_touching (T : Txt Γ K mg) (C__law_machine : Cal Γ P wd K mg base 4 "_law_machine" 2 [] R__law_machine) (C__law_digit : Cal Γ P wd K mg base 2 "_law_digit" 2 [] R__law_digit) {f : Addr} {fd : FuncData} (F : FunD K "_law_touching" "_law_touching" (defArgs s__law_touching) (defBody s__law_touching) (defScope s__law_touching) [] [] f fd) (hm : mg "_law_touching" = some (.ref f)) : Cal Γ P wd K mg base 5 "_law_touching" 2 [] R__law_touching :=
  Cal.of F hm rfl (fun _ _ _ _ _ _ us hl => match us, hl with | [_, _], _ => rfl) (fo__law_touching T C__law_machine C__law_digit F)
theorem sc_need_load : FnScope ["machine", "thing"] ["machine", "thing"] (defScope s_need_load) := ⟨rfl, rfl, rfl, by decide +kernel, rfl, by decide +kernel, by decide +kernel⟩
theorem fo_need_load (T : Txt Γ K mg) (C_need_machine : Cal Γ P wd K mg base 5 "need_machine" 1 [] R_need_machine) (C_need_own_load : Cal Γ P wd K mg base 3 "need_own_load" 2 [] R_need_own_load) {f : Addr} {fd : FuncData} (F : FunD K "need_load" "need_load" (defArgs s_need_load) (defBody s_need_load) (defScope s_need_load) [] [] f fd) : FnOk P wd K mg base (L2.CX P wd) 6 f fd ["machine", "thing"] (spOf Γ K 2 R_need_load) := by
  have S := sc_need_load
  refine fn_rule F sc_need_load fun cdv A outer s H E hr => ?_
  have tk : Takes (cxOf (L2.CX P wd) P wd K mg base ["machine", "thing"] "need_load" (defScope s_need_load) f cdv A outer s H E) (fun c d _ H => E c d H) := takes_of rfl rfl rfl rfl
  have rm : Rm (cxOf (L2.CX P wd) P wd K mg base ["machine", "thing"] "need_load" (defScope s_need_load) f cdv A outer s H E) := rm_of hr
  exact (vb_cons (vs_expr (ve_call C_need_machine tk (hr.mono (by decide)) (va_cons (ve_var 0) va_nil)))
    (vb_one (vs_expr (ve_call C_need_own_load tk (hr.mono (by decide)) (va_cons (ve_var 0) (va_cons (ve_var 1) va_nil))))))
theorem ok_need_load (T : Txt Γ K mg) (C_need_machine : Cal Γ P wd K mg base 5 "need_machine" 1 [] R_need_machine) (C_need_own_load : Cal Γ P wd K mg base 3 "need_own_load" 2 [] R_need_own_load) {f : Addr} {fd : FuncData} (F : FunD K "need_load" "need_load" (defArgs s_need_load) (defBody s_need_load) (defScope s_need_load) [] [] f fd) (hm : mg "need_load" = some (.ref f)) : Cal Γ P wd K mg base 6 "need_load" 2 [] R_need_load :=
  Cal.of F hm rfl (fun _ _ _ _ _ _ us hl => match us, hl with | [_, _], _ => rfl) (fo_need_load T C_need_machine C_need_own_load F)
theorem sc_one_at : FnScope ["machine", "spot"] ["machine", "spot"] (defScope s_one_at) := ⟨rfl, rfl, rfl, by decide +kernel, rfl, by decide +kernel, by decide +kernel⟩
theorem fo_one_at (T : Txt Γ K mg) (C_need_machine : Cal Γ P wd K mg base 5 "need_machine" 1 [] R_need_machine) (C_is_spot : Cal Γ P wd K mg base 2 "is_spot" 2 [] R_is_spot) (C_own_one_at : Cal Γ P wd K mg base 1 "own_one_at" 2 [] R_own_one_at) {f : Addr} {fd : FuncData} (F : FunD K "one_at" "one_at" (defArgs s_one_at) (defBody s_one_at) (defScope s_one_at) [] [] f fd) : FnOk P wd K mg base (L2.CX P wd) 6 f fd ["machine", "spot"] (spOf Γ K 2 R_one_at) := by
  have S := sc_one_at
  refine fn_rule F sc_one_at fun cdv A outer s H E hr => ?_
  have tk : Takes (cxOf (L2.CX P wd) P wd K mg base ["machine", "spot"] "one_at" (defScope s_one_at) f cdv A outer s H E) (fun c d _ H => E c d H) := takes_of rfl rfl rfl rfl
  have rm : Rm (cxOf (L2.CX P wd) P wd K mg base ["machine", "spot"] "one_at" (defScope s_one_at) f cdv A outer s H E) := rm_of hr
  exact (vb_cons (vs_expr (ve_call C_need_machine tk (hr.mono (by decide)) (va_cons (ve_var 0) va_nil)))
    (vb_cons (vs_if (vt_not (vt_val (ve_call C_is_spot tk (hr.mono (by decide)) (va_cons (ve_ix (ve_var 0) ve_int) (va_cons (ve_var 1) va_nil))))) (vb_one vs_bad) vb_nil)
    (vb_one (vs_ret (ve_call C_own_one_at tk (hr.mono (by decide)) (va_cons (ve_var 0) (va_cons (ve_var 1) va_nil)))))))
theorem ok_one_at (T : Txt Γ K mg) (C_need_machine : Cal Γ P wd K mg base 5 "need_machine" 1 [] R_need_machine) (C_is_spot : Cal Γ P wd K mg base 2 "is_spot" 2 [] R_is_spot) (C_own_one_at : Cal Γ P wd K mg base 1 "own_one_at" 2 [] R_own_one_at) {f : Addr} {fd : FuncData} (F : FunD K "one_at" "one_at" (defArgs s_one_at) (defBody s_one_at) (defScope s_one_at) [] [] f fd) (hm : mg "one_at" = some (.ref f)) : Cal Γ P wd K mg base 6 "one_at" 2 [] R_one_at :=
  Cal.of F hm rfl (fun _ _ _ _ _ _ us hl => match us, hl with | [_, _], _ => rfl) (fo_one_at T C_need_machine C_is_spot C_own_one_at F)
theorem sc_mirror : FnScope ["machine"] ["machine"] (defScope s_mirror) := ⟨rfl, rfl, rfl, by decide +kernel, rfl, by decide +kernel, by decide +kernel⟩
theorem fo_mirror (T : Txt Γ K mg) (C_need_machine : Cal Γ P wd K mg base 5 "need_machine" 1 [] R_need_machine) (C_own_mirror : Cal Γ P wd K mg base 3 "own_mirror" 1 [] R_own_mirror) {f : Addr} {fd : FuncData} (F : FunD K "mirror" "mirror" (defArgs s_mirror) (defBody s_mirror) (defScope s_mirror) [] [] f fd) : FnOk P wd K mg base (L2.CX P wd) 6 f fd ["machine"] (spOf Γ K 1 R_mirror) := by
  have S := sc_mirror
  refine fn_rule F sc_mirror fun cdv A outer s H E hr => ?_
  have tk : Takes (cxOf (L2.CX P wd) P wd K mg base ["machine"] "mirror" (defScope s_mirror) f cdv A outer s H E) (fun c d _ H => E c d H) := takes_of rfl rfl rfl rfl
  have rm : Rm (cxOf (L2.CX P wd) P wd K mg base ["machine"] "mirror" (defScope s_mirror) f cdv A outer s H E) := rm_of hr
  exact (vb_cons (vs_expr (ve_call C_need_machine tk (hr.mono (by decide)) (va_cons (ve_var 0) va_nil)))
    (vb_one (vs_ret (ve_unT (ve_call C_own_mirror tk (hr.mono (by decide)) (va_cons (ve_var 0) va_nil))))))
theorem ok_mirror (T : Txt Γ K mg) (C_need_machine : Cal Γ P wd K mg base 5 "need_machine" 1 [] R_need_machine) (C_own_mirror : Cal Γ P wd K mg base 3 "own_mirror" 1 [] R_own_mirror) {f : Addr} {fd : FuncData} (F : FunD K "mirror" "mirror" (defArgs s_mirror) (defBody s_mirror) (defScope s_mirror) [] [] f fd) (hm : mg "mirror" = some (.ref f)) : Cal Γ P wd K mg base 6 "mirror" 1 [] R_mirror :=
  Cal.of F hm rfl (fun _ _ _ _ _ _ us hl => match us, hl with | [_], _ => rfl) (fo_mirror T C_need_machine C_own_mirror F)
theorem sc_mirror_touch : FnScope ["machine", "touch"] ["machine", "touch"] (defScope s_mirror_touch) := ⟨rfl, rfl, rfl, by decide +kernel, rfl, by decide +kernel, by decide +kernel⟩
theorem fo_mirror_touch (T : Txt Γ K mg) (C_need_machine : Cal Γ P wd K mg base 5 "need_machine" 1 [] R_need_machine) (C_need_own_touch : Cal Γ P wd K mg base 2 "need_own_touch" 2 [] R_need_own_touch) (C_own_mirror_touch : Cal Γ P wd K mg base 4 "own_mirror_touch" 2 [] R_own_mirror_touch) {f : Addr} {fd : FuncData} (F : FunD K "mirror_touch" "mirror_touch" (defArgs s_mirror_touch) (defBody s_mirror_touch) (defScope s_mirror_touch) [] [] f fd) : FnOk P wd K mg base (L2.CX P wd) 6 f fd ["machine", "touch"] (spOf Γ K 2 R_mirror_touch) := by
  have S := sc_mirror_touch
  refine fn_rule F sc_mirror_touch fun cdv A outer s H E hr => ?_
  have tk : Takes (cxOf (L2.CX P wd) P wd K mg base ["machine", "touch"] "mirror_touch" (defScope s_mirror_touch) f cdv A outer s H E) (fun c d _ H => E c d H) := takes_of rfl rfl rfl rfl
  have rm : Rm (cxOf (L2.CX P wd) P wd K mg base ["machine", "touch"] "mirror_touch" (defScope s_mirror_touch) f cdv A outer s H E) := rm_of hr
  exact (vb_cons (vs_expr (ve_call C_need_machine tk (hr.mono (by decide)) (va_cons (ve_var 0) va_nil)))
    (vb_cons (vs_expr (ve_call C_need_own_touch tk (hr.mono (by decide)) (va_cons (ve_var 0) (va_cons (ve_var 1) va_nil))))
    (vb_one (vs_ret (ve_call C_own_mirror_touch tk (hr.mono (by decide)) (va_cons (ve_var 0) (va_cons (ve_var 1) va_nil)))))))
theorem ok_mirror_touch (T : Txt Γ K mg) (C_need_machine : Cal Γ P wd K mg base 5 "need_machine" 1 [] R_need_machine) (C_need_own_touch : Cal Γ P wd K mg base 2 "need_own_touch" 2 [] R_need_own_touch) (C_own_mirror_touch : Cal Γ P wd K mg base 4 "own_mirror_touch" 2 [] R_own_mirror_touch) {f : Addr} {fd : FuncData} (F : FunD K "mirror_touch" "mirror_touch" (defArgs s_mirror_touch) (defBody s_mirror_touch) (defScope s_mirror_touch) [] [] f fd) (hm : mg "mirror_touch" = some (.ref f)) : Cal Γ P wd K mg base 6 "mirror_touch" 2 [] R_mirror_touch :=
  Cal.of F hm rfl (fun _ _ _ _ _ _ us hl => match us, hl with | [_, _], _ => rfl) (fo_mirror_touch T C_need_machine C_need_own_touch C_own_mirror_touch F)
theorem sc_behind : FnScope ["machine", "load", "beats", "found", "turn"] ["machine", "load", "beats"] (defScope s_behind) := ⟨rfl, rfl, rfl, by decide +kernel, rfl, by decide +kernel, by decide +kernel⟩
theorem fo_behind (T : Txt Γ K mg) (C_need_load : Cal Γ P wd K mg base 6 "need_load" 2 [] R_need_load) (C_need_beats : Cal Γ P wd K mg base 2 "need_beats" 1 [] R_need_beats) (C_own_beat : Cal Γ P wd K mg base 5 "own_beat" 2 [] R_own_beat) {f : Addr} {fd : FuncData} (F : FunD K "behind" "behind" (defArgs s_behind) (defBody s_behind) (defScope s_behind) [] [] f fd) : FnOk P wd K mg base (L2.CX P wd) 7 f fd ["machine", "load", "beats"] (spOf Γ K 3 R_behind) := by
  have S := sc_behind
  refine fn_rule F sc_behind fun cdv A outer s H E hr => ?_
  have tk : Takes (cxOf (L2.CX P wd) P wd K mg base ["machine", "load", "beats", "found", "turn"] "behind" (defScope s_behind) f cdv A outer s H E) (fun c d _ H => E c d H) := takes_of rfl rfl rfl rfl
  have rm : Rm (cxOf (L2.CX P wd) P wd K mg base ["machine", "load", "beats", "found", "turn"] "behind" (defScope s_behind) f cdv A outer s H E) := rm_of hr
  exact (vb_cons (vs_expr (ve_call C_need_load tk (hr.mono (by decide)) (va_cons (ve_var 0) (va_cons (ve_var 1) va_nil))))
    (vb_cons (vs_expr (ve_call C_need_beats tk (hr.mono (by decide)) (va_cons (ve_var 2) va_nil)))
    (vb_cons (vs_set 3 (ve_var 1) S.nd)
    (vb_cons (vs_for PassesOwn.leaving (vi_r1 (va_cons (ve_var 2) va_nil) T.z_range) (vg_name 4 S.nd) (vb_one (vs_set 3 (ve_call C_own_beat tk (hr.mono (by decide)) (va_cons (ve_var 0) (va_cons (ve_var 3) va_nil))) S.nd)))
    (vb_one (vs_ret (ve_var 3)))))))
theorem ok_behind (T : Txt Γ K mg) (C_need_load : Cal Γ P wd K mg base 6 "need_load" 2 [] R_need_load) (C_need_beats : Cal Γ P wd K mg base 2 "need_beats" 1 [] R_need_beats) (C_own_beat : Cal Γ P wd K mg base 5 "own_beat" 2 [] R_own_beat) {f : Addr} {fd : FuncData} (F : FunD K "behind" "behind" (defArgs s_behind) (defBody s_behind) (defScope s_behind) [] [] f fd) (hm : mg "behind" = some (.ref f)) : Cal Γ P wd K mg base 7 "behind" 3 [] R_behind :=
  Cal.of F hm rfl (fun _ _ _ _ _ _ us hl => match us, hl with | [_, _, _], _ => rfl) (fo_behind T C_need_load C_need_beats C_own_beat F)
theorem sc_turned : FnScope ["machine", "load"] ["machine", "load"] (defScope s_turned) := ⟨rfl, rfl, rfl, by decide +kernel, rfl, by decide +kernel, by decide +kernel⟩
theorem fo_turned (T : Txt Γ K mg) (C_need_load : Cal Γ P wd K mg base 6 "need_load" 2 [] R_need_load) (C_own_turned : Cal Γ P wd K mg base 1 "own_turned" 1 [] R_own_turned) {f : Addr} {fd : FuncData} (F : FunD K "turned" "turned" (defArgs s_turned) (defBody s_turned) (defScope s_turned) [] [] f fd) : FnOk P wd K mg base (L2.CX P wd) 7 f fd ["machine", "load"] (spOf Γ K 2 R_turned) := by
  have S := sc_turned
  refine fn_rule F sc_turned fun cdv A outer s H E hr => ?_
  have tk : Takes (cxOf (L2.CX P wd) P wd K mg base ["machine", "load"] "turned" (defScope s_turned) f cdv A outer s H E) (fun c d _ H => E c d H) := takes_of rfl rfl rfl rfl
  have rm : Rm (cxOf (L2.CX P wd) P wd K mg base ["machine", "load"] "turned" (defScope s_turned) f cdv A outer s H E) := rm_of hr
  exact (vb_cons (vs_expr (ve_call C_need_load tk (hr.mono (by decide)) (va_cons (ve_var 0) (va_cons (ve_var 1) va_nil))))
    (vb_one (vs_ret (ve_call C_own_turned tk (hr.mono (by decide)) (va_cons (ve_var 1) va_nil)))))
theorem ok_turned (T : Txt Γ K mg) (C_need_load : Cal Γ P wd K mg base 6 "need_load" 2 [] R_need_load) (C_own_turned : Cal Γ P wd K mg base 1 "own_turned" 1 [] R_own_turned) {f : Addr} {fd : FuncData} (F : FunD K "turned" "turned" (defArgs s_turned) (defBody s_turned) (defScope s_turned) [] [] f fd) (hm : mg "turned" = some (.ref f)) : Cal Γ P wd K mg base 7 "turned" 2 [] R_turned :=
  Cal.of F hm rfl (fun _ _ _ _ _ _ us hl => match us, hl with | [_, _], _ => rfl) (fo_turned T C_need_load C_own_turned F)
theorem sc_paired : FnScope ["machine", "load", "other"] ["machine", "load", "other"] (defScope s_paired) := ⟨rfl, rfl, rfl, by decide +kernel, rfl, by decide +kernel, by decide +kernel⟩
theorem fo_paired (T : Txt Γ K mg) (C_need_load : Cal Γ P wd K mg base 6 "need_load" 2 [] R_need_load) (C_need_own_load : Cal Γ P wd K mg base 3 "need_own_load" 2 [] R_need_own_load) (C_pairing : Cal Γ P wd K mg base 4 "pairing" 2 [] R_pairing) (C_flat : Cal Γ P wd K mg base 1 "flat" 1 [] R_flat) {f : Addr} {fd : FuncData} (F : FunD K "paired" "paired" (defArgs s_paired) (defBody s_paired) (defScope s_paired) [] [] f fd) : FnOk P wd K mg base (L2.CX P wd) 7 f fd ["machine", "load", "other"] (spOf Γ K 3 R_paired) := by
  have S := sc_paired
  refine fn_rule F sc_paired fun cdv A outer s H E hr => ?_
  have tk : Takes (cxOf (L2.CX P wd) P wd K mg base ["machine", "load", "other"] "paired" (defScope s_paired) f cdv A outer s H E) (fun c d _ H => E c d H) := takes_of rfl rfl rfl rfl
  have rm : Rm (cxOf (L2.CX P wd) P wd K mg base ["machine", "load", "other"] "paired" (defScope s_paired) f cdv A outer s H E) := rm_of hr
  exact (vb_cons (vs_expr (ve_call C_need_load tk (hr.mono (by decide)) (va_cons (ve_var 0) (va_cons (ve_var 1) va_nil))))
    (vb_cons (vs_expr (ve_call C_need_own_load tk (hr.mono (by decide)) (va_cons (ve_var 0) (va_cons (ve_var 2) va_nil))))
    (vb_one (vs_ret (ve_call C_pairing tk (hr.mono (by decide)) (va_cons (ve_call C_flat tk (hr.mono (by decide)) (va_cons (ve_var 1) va_nil)) (va_cons (ve_call C_flat tk (hr.mono (by decide)) (va_cons (ve_var 2) va_nil)) va_nil)))))))
theorem ok_paired (T : Txt Γ K mg) (C_need_load : Cal Γ P wd K mg base 6 "need_load" 2 [] R_need_load) (C_need_own_load : Cal Γ P wd K mg base 3 "need_own_load" 2 [] R_need_own_load) (C_pairing : Cal Γ P wd K mg base 4 "pairing" 2 [] R_pairing) (C_flat : Cal Γ P wd K mg base 1 "flat" 1 [] R_flat) {f : Addr} {fd : FuncData} (F : FunD K "paired" "paired" (defArgs s_paired) (defBody s_paired) (defScope s_paired) [] [] f fd) (hm : mg "paired" = some (.ref f)) : Cal Γ P wd K mg base 7 "paired" 3 [] R_paired :=
  Cal.of F hm rfl (fun _ _ _ _ _ _ us hl => match us, hl with | [_, _, _], _ => rfl) (fo_paired T C_need_load C_need_own_load C_pairing C_flat F)
theorem sc__law_named_right : FnScope ["machine", "other", "number", "touch", "far", "pair", "wheel", "place", "bare", "load", "due"] ["machine", "other"] (defScope s__law_named_right) := ⟨rfl, rfl, rfl, by decide +kernel, rfl, by decide +kernel, by decide +kernel⟩
theorem fo__law_named_right (T : Txt Γ K mg) (C_mirror : Cal Γ P wd K mg base 6 "mirror" 1 [] R_mirror) (C_mirror_touch : Cal Γ P wd K mg base 6 "mirror_touch" 2 [] R_mirror_touch) (C_turned : Cal Γ P wd K mg base 7 "turned" 2 [] R_turned) {f : Addr} {fd : FuncData} (F : FunD K "_law_named_right" "_law_named_right" (defArgs s__law_named_right) (defBody s__law_named_right) (defScope s__law_named_right) [] [] f fd) : FnG P wd K mg base 8 f fd ["machine", "other"] (spOf Γ K 2 R__law_named_right) := by
  have S := sc__law_named_right
  refine fnG_rule F sc__law_named_right fun cdv A outer s H E gd hr => ?_
  have tk : Takes (cxOf (L2.CX P wd) P wd K mg base ["machine", "other", "number", "touch", "far", "pair", "wheel", "place", "bare", "load", "due"] "_law_named_right" (defScope s__law_named_right) f cdv A outer s H E) (fun c d _ H => E c d H) := takes_of rfl rfl rfl rfl
  have rm : Rm (cxOf (L2.CX P wd) P wd K mg base ["machine", "other", "number", "touch", "far", "pair", "wheel", "place", "bare", "load", "due"] "_law_named_right" (defScope s__law_named_right) f cdv A outer s H E) := rm_of hr
  exact (vb_cons (vs_if (VW.vt (vw_or (vt_ne rm (bc_repr T.z_repr gd rm (va_cons (ve_call C_mirror tk (hr.mono (by decide)) (va_cons (ve_var 0) va_nil)) va_nil)) (bc_repr T.z_repr gd rm (va_cons (ve_varD 1 (ve_var 1)) va_nil))) (vw_or1 (vt_ne rm (bc_repr T.z_repr gd rm (va_cons (ve_call C_mirror tk (hr.mono (by decide)) (va_cons (ve_varD 1 (ve_var 1)) va_nil)) va_nil)) (bc_repr T.z_repr gd rm (va_cons (ve_var 0) va_nil)))))) (vb_one (vs_ret ve_bl)) vb_nil)
    (vb_cons (vs_for PassesOwn.leaving (vi_enum (va_cons (ve_ix (ve_var 0) ve_int) va_nil) T.z_enumerate) (vg_tup (vgs_cons (vg_name 2 S.nd) (vgs_cons (vg_name 3 S.nd) vgs_nil))) (vb_cons (vs_set 4 (ve_call C_mirror_touch tk (hr.mono (by decide)) (va_cons (ve_var 0) (va_cons (ve_var 2) va_nil))) S.nd)
    (vb_cons (vs_set 5 (bc_sorted T.z_sorted rm (va_cons (ve_lc [("wheel", 6), ("place", 7)] S.nd (vi_val (ve_var 3)) (blkOk_by (by rfl)) (fun _ _ _ _ _ => (vg_tup (vgs_cons (vg_name 6 S.nd) (vgs_cons (vg_name 7 S.nd) vgs_nil)))) (fun _ _ _ _ _ => vts_nil) (fun _ _ _ _ _ => (ve_tup (va_cons (ve_var 6) (va_cons (ve_md (ve_sub ve_int (ve_var 7)) (ve_ix (ve_ix (ve_var 0) ve_int) (ve_var 6))) va_nil))))) va_nil)) S.nd)
    (vb_one (vs_if (VW.vt (vw_or (vt_ne rm (bc_repr T.z_repr gd rm (va_cons (ve_var 4) va_nil)) (bc_repr T.z_repr gd rm (va_cons (bm_index rm (ve_snd (ve_var 1) ve_int) (va_cons (bc_tuple T.z_tuple  (va_cons (ve_var 5) va_nil)) va_nil)) va_nil))) (vw_or1 (vt_ne rm (ve_call C_mirror_touch tk (hr.mono (by decide)) (va_cons (ve_varD 1 (ve_var 1)) (va_cons (ve_var 4) va_nil))) (ve_var 2))))) (vb_one (vs_ret ve_bl)) vb_nil)))))
    (vb_cons (vs_asg (ve_tup (va_cons (ve_tup (va_cons (ve_tup (va_cons ve_int (va_cons ve_int (va_cons ve_int va_nil)))) (va_cons (ve_tup va_nil) va_nil))) (va_cons (ve_tup (va_cons (ve_tup (va_cons (ve_tup (va_cons ve_int (va_cons ve_int va_nil))) (va_cons (ve_tup (va_cons ve_int (va_cons ve_int va_nil))) (va_cons (ve_tup (va_cons ve_int (va_cons ve_int va_nil))) va_nil)))) (va_cons (ve_tup (va_cons (ve_tup (va_cons ve_int (va_cons ve_int va_nil))) va_nil)) (va_cons (ve_tup (va_cons (ve_tup (va_cons ve_int (va_cons ve_int va_nil))) (va_cons (ve_tup (va_cons ve_int (va_cons ve_int va_nil))) va_nil))) va_nil)))) va_nil))) (vg_tup (vgs_cons (vg_name 8 S.nd) (vgs_cons (vg_name 9 S.nd) vgs_nil))))
    (vb_cons (vs_set 10 (ve_tup (va_cons (ve_tup (va_cons (ve_tup (va_cons ve_int (va_cons ve_int va_nil))) (va_cons (ve_tup (va_cons ve_int (va_cons ve_int va_nil))) (va_cons (ve_tup (va_cons ve_int (va_cons ve_int va_nil))) va_nil)))) (va_cons (ve_tup (va_cons (ve_tup (va_cons ve_int (va_cons ve_int va_nil))) va_nil)) (va_cons (ve_tup (va_cons (ve_tup (va_cons ve_int (va_cons ve_int va_nil))) (va_cons (ve_tup (va_cons ve_int (va_cons ve_int va_nil))) va_nil))) va_nil)))) S.nd)
    (vb_one (vs_ret (ve_and (ve_eq rm (ve_call C_mirror tk (hr.mono (by decide)) (va_cons (ve_var 8) va_nil)) (ve_var 8)) (ve_one (ve_eq rm (ve_call C_turned tk (hr.mono (by decide)) (va_cons (ve_var 8) (va_cons (ve_var 9) va_nil))) (ve_var 10))))))))))
theorem ok__law_named_right (T : Txt Γ K mg) (C_mirror : Cal Γ P wd K mg base 6 "mirror" 1 [] R_mirror) (C_mirror_touch : Cal Γ P wd K mg base 6 "mirror_touch" 2 [] R_mirror_touch) (C_turned : Cal Γ P wd K mg base 7 "turned" 2 [] R_turned) {f : Addr} {fd : FuncData} (F : FunD K "_law_named_right" "_law_named_right" (defArgs s__law_named_right) (defBody s__law_named_right) (defScope s__law_named_right) [] [] f fd) (hm : mg "_law_named_right" = some (.ref f)) : CalG Γ P wd K mg base 8 "_law_named_right" 2 R__law_named_right :=
  ⟨f, fd, ["machine", "other"], hm, F.kp, fun s us hl => FunD.bindsA (ps := ["machine", "other"]) F (fun _ _ _ _ _ _ us hl => match us, hl with | [_, _], _ => rfl) s us hl, rfl, fo__law_named_right T C_mirror C_mirror_touch C_turned F⟩
theorem sc_law : FnScope ["script", "k", "cell", "state", "machine", "wheels", "other", "one", "far", "kept", "beats", "back", "told", "wheel", "goal", "place", "spot", "due", "bare", "load"] ["script"] (defScope s_law) := ⟨rfl, rfl, rfl, by decide +kernel, rfl, by decide +kernel, by decide +kernel⟩
theorem fo_law (T : Txt Γ K mg) (C__law_draw : Cal Γ P wd K mg base 1 "_law_draw" 2 [] R__law_draw) (C__law_touching : Cal Γ P wd K mg base 5 "_law_touching" 2 [] R__law_touching) (C__law_mirror : Cal Γ P wd K mg base 1 "_law_mirror" 1 [] R__law_mirror) (C__law_load : Cal Γ P wd K mg base 3 "_law_load" 3 [] R__law_load) (C__law_digit : Cal Γ P wd K mg base 2 "_law_digit" 2 [] R__law_digit) (C__law_named_right : CalG Γ P wd K mg base 8 "_law_named_right" 2 R__law_named_right) (C_turned : Cal Γ P wd K mg base 7 "turned" 2 [] R_turned) (C__law_turned : Cal Γ P wd K mg base 1 "_law_turned" 1 [] R__law_turned) (C_paired : Cal Γ P wd K mg base 7 "paired" 3 [] R_paired) (C__law_pairing : Cal Γ P wd K mg base 3 "_law_pairing" 2 [] R__law_pairing) (C__law_flat : Cal Γ P wd K mg base 1 "_law_flat" 1 [] R__law_flat) (C_behind : Cal Γ P wd K mg base 7 "behind" 3 [] R_behind) (C_one_at : Cal Γ P wd K mg base 6 "one_at" 2 [] R_one_at) (C_mirror : Cal Γ P wd K mg base 6 "mirror" 1 [] R_mirror) {f : Addr} {fd : FuncData} (F : FunD K "law" "law" (defArgs s_law) (defBody s_law) (defScope s_law) [] [] f fd) : FnG P wd K mg base 9 f fd ["script"] (spOf Γ K 1 R_law) := by
  have S := sc_law
  refine fnG_rule F sc_law fun cdv A outer s H E gd hr => ?_
  have tk : Takes (cxOf (L2.CX P wd) P wd K mg base ["script", "k", "cell", "state", "machine", "wheels", "other", "one", "far", "kept", "beats", "back", "told", "wheel", "goal", "place", "spot", "due", "bare", "load"] "law" (defScope s_law) f cdv A outer s H E) (fun c d _ H => E c d H) := takes_of rfl rfl rfl rfl
  have rm : Rm (cxOf (L2.CX P wd) P wd K mg base ["script", "k", "cell", "state", "machine", "wheels", "other", "one", "far", "kept", "beats", "back", "told", "wheel", "goal", "place", "spot", "due", "bare", "load"] "law" (defScope s_law) f cdv A outer s H E) := rm_of hr
  exact (vb_cons (vs_for PassesOwn.leaving (vi_enum (va_cons (ve_add (ve_slice (ve_var 0) vo_none (vo_some ve_int)) (ve_lst (va_cons (bc_sum T.z_sum rfl (va_cons (ve_var 0) va_nil)) va_nil))) va_nil) T.z_enumerate) (vg_tup (vgs_cons (vg_name 1 S.nd) (vgs_cons (vg_name 2 S.nd) vgs_nil))) (vb_cons (vs_set 3 (ve_call C__law_draw tk (hr.mono (by decide)) (va_cons (ve_var 2) (va_cons (ve_var 1) va_nil))) S.nd)
    (vb_cons (vs_set 4 (ve_call C__law_touching tk (hr.mono (by decide)) (va_cons (ve_var 3) (va_cons ve_int va_nil))) S.nd)
    (vb_cons (vs_par 5 6 (va_cons (ve_ix (ve_var 4) ve_int) (va_cons (ve_call C__law_mirror tk (hr.mono (by decide)) (va_cons (ve_var 4) va_nil)) va_nil)) S.nd (by rfl))
    (vb_cons (vs_par 7 8 (va_cons (ve_call C__law_load tk (hr.mono (by decide)) (va_cons (ve_var 3) (va_cons (ve_var 5) (va_cons ve_int va_nil)))) (va_cons (ve_call C__law_load tk (hr.mono (by decide)) (va_cons (ve_var 3) (va_cons (ve_var 5) (va_cons ve_int va_nil)))) va_nil)) S.nd (by rfl))
    (vb_cons (vs_par 9 10 (va_cons (bc_repr T.z_repr gd rm (va_cons (ve_tup (va_cons (ve_var 4) (va_cons (ve_var 7) (va_cons (ve_var 8) va_nil)))) va_nil)) (va_cons (ve_call C__law_digit tk (hr.mono (by decide)) (va_cons (ve_var 3) (va_cons ve_int va_nil))) va_nil)) S.nd (by rfl))
    (vb_cons (vs_if (vt_not (vt_val (ve_callG C__law_named_right gd tk (hr.mono (by decide)) (va_cons (ve_var 4) (va_cons (ve_var 6) va_nil))))) (vb_one (vs_ret ve_bl)) vb_nil)
    (vb_cons (vs_if (vt_ne rm (bc_repr T.z_repr gd rm (va_cons (ve_lst (va_cons (ve_call C_turned tk (hr.mono (by decide)) (va_cons (ve_var 4) (va_cons (ve_var 7) va_nil))) (va_cons (ve_call C_turned tk (hr.mono (by decide)) (va_cons (ve_var 4) (va_cons (ve_call C_turned tk (hr.mono (by decide)) (va_cons (ve_var 4) (va_cons (ve_var 7) va_nil))) va_nil))) va_nil))) va_nil)) (bc_repr T.z_repr gd rm (va_cons (ve_lst (va_cons (ve_call C__law_turned tk (hr.mono (by decide)) (va_cons (ve_var 7) va_nil)) (va_cons (ve_var 7) va_nil))) va_nil))) (vb_one (vs_ret ve_bl)) vb_nil)
    (vb_cons (vs_if (vt_ne rm (bc_repr T.z_repr gd rm (va_cons (ve_call C_paired tk (hr.mono (by decide)) (va_cons (ve_var 4) (va_cons (ve_var 7) (va_cons (ve_var 8) va_nil)))) va_nil)) (bc_repr T.z_repr gd rm (va_cons (ve_call C__law_pairing tk (hr.mono (by decide)) (va_cons (ve_call C__law_flat tk (hr.mono (by decide)) (va_cons (ve_var 7) va_nil)) (va_cons (ve_call C__law_flat tk (hr.mono (by decide)) (va_cons (ve_var 8) va_nil)) va_nil))) va_nil))) (vb_one (vs_ret ve_bl)) vb_nil)
    (vb_cons (vs_set 11 (ve_call C__law_turned tk (hr.mono (by decide)) (va_cons (ve_call C_behind tk (hr.mono (by decide)) (va_cons (ve_varD 6 (ve_var 6)) (va_cons (ve_call C__law_turned tk (hr.mono (by decide)) (va_cons (ve_var 8) va_nil)) (va_cons (ve_var 10) va_nil)))) va_nil)) S.nd)
    (vb_cons (vs_set 12 (ve_call C_paired tk (hr.mono (by decide)) (va_cons (ve_var 4) (va_cons (ve_call C_behind tk (hr.mono (by decide)) (va_cons (ve_var 4) (va_cons (ve_var 7) (va_cons (ve_var 10) va_nil)))) (va_cons (ve_var 8) va_nil)))) S.nd)
    (vb_cons (vs_if (VW.vt (vw_or (vt_ne rm (bc_repr T.z_repr gd rm (va_cons (ve_var 12) va_nil)) (bc_repr T.z_repr gd rm (va_cons (ve_call C_paired tk (hr.mono (by decide)) (va_cons (ve_var 4) (va_cons (ve_var 7) (va_cons (ve_var 11) va_nil)))) va_nil))) (vw_or1 (vt_ne rm (bc_repr T.z_repr gd rm (va_cons (ve_tup (va_cons (ve_var 4) (va_cons (ve_var 7) (va_cons (ve_var 8) va_nil)))) va_nil)) (ve_var 9))))) (vb_one (vs_ret ve_bl)) vb_nil)
    (vb_cons (vs_par 13 14 (va_cons (ve_call C__law_digit tk (hr.mono (by decide)) (va_cons (ve_var 3) (va_cons (bc_len T.z_len  (va_cons (ve_var 5) va_nil)) va_nil))) (va_cons (ve_call C__law_digit tk (hr.mono (by decide)) (va_cons (ve_var 3) (va_cons (bc_len T.z_len  (va_cons (ve_var 5) va_nil)) va_nil))) va_nil)) S.nd (by rfl))
    (vb_cons (vs_par 15 16 (va_cons (ve_call C__law_digit tk (hr.mono (by decide)) (va_cons (ve_var 3) (va_cons (ve_ix (ve_var 5) (ve_var 13)) va_nil))) (va_cons (ve_call C__law_digit tk (hr.mono (by decide)) (va_cons (ve_var 3) (va_cons (ve_ix (ve_var 5) (ve_var 14)) va_nil))) va_nil)) S.nd (by rfl))
    (vb_cons (vs_set 12 (ve_ix (ve_ix (ve_call C_behind tk (hr.mono (by decide)) (va_cons (ve_var 4) (va_cons (ve_call C_one_at tk (hr.mono (by decide)) (va_cons (ve_var 4) (va_cons (ve_tup (va_cons (ve_var 13) (va_cons (ve_var 15) va_nil))) va_nil))) (va_cons (ve_var 10) va_nil)))) (ve_var 14)) (ve_var 16)) S.nd)
    (vb_cons (vs_set 17 (ve_call C_behind tk (hr.mono (by decide)) (va_cons (ve_varD 6 (ve_var 6)) (va_cons (ve_call C_one_at tk (hr.mono (by decide)) (va_cons (ve_varD 6 (ve_var 6)) (va_cons (ve_tup (va_cons (ve_var 14) (va_cons (ve_md (ve_sub ve_int (ve_var 16)) (ve_ix (ve_var 5) (ve_var 14))) va_nil))) va_nil))) (va_cons (ve_var 10) va_nil)))) S.nd)
    (vb_one (vs_if (vt_ne rm (ve_var 12) (ve_ix (ve_ix (ve_var 17) (ve_var 13)) (ve_md (ve_sub ve_int (ve_var 15)) (ve_ix (ve_var 5) (ve_var 13))))) (vb_one (vs_ret ve_bl)) vb_nil))))))))))))))))))
    (vb_cons (vs_asg (ve_tup (va_cons (ve_tup (va_cons (ve_tup (va_cons ve_int (va_cons ve_int (va_cons ve_int va_nil)))) (va_cons (ve_tup va_nil) va_nil))) (va_cons (ve_tup (va_cons (ve_tup (va_cons (ve_tup (va_cons ve_int (va_cons ve_int va_nil))) (va_cons (ve_tup (va_cons ve_int (va_cons ve_int va_nil))) (va_cons (ve_tup (va_cons ve_int (va_cons ve_int va_nil))) va_nil)))) (va_cons (ve_tup (va_cons (ve_tup (va_cons ve_int (va_cons ve_int va_nil))) va_nil)) (va_cons (ve_tup (va_cons (ve_tup (va_cons ve_int (va_cons ve_int va_nil))) (va_cons (ve_tup (va_cons ve_int (va_cons ve_int va_nil))) va_nil))) va_nil)))) va_nil))) (vg_tup (vgs_cons (vg_name 18 S.nd) (vgs_cons (vg_name 19 S.nd) vgs_nil))))
    (vb_cons (vs_set 17 (ve_tup (va_cons (ve_tup (va_cons (ve_tup (va_cons ve_int (va_cons ve_int va_nil))) (va_cons (ve_tup (va_cons ve_int (va_cons ve_int va_nil))) (va_cons (ve_tup (va_cons ve_int (va_cons ve_int va_nil))) va_nil)))) (va_cons (ve_tup (va_cons (ve_tup (va_cons ve_int (va_cons ve_int va_nil))) va_nil)) (va_cons (ve_tup (va_cons (ve_tup (va_cons ve_int (va_cons ve_int va_nil))) (va_cons (ve_tup (va_cons ve_int (va_cons ve_int va_nil))) va_nil))) va_nil)))) S.nd)
    (vb_one (vs_ret (ve_and (ve_eq rm (ve_call C_mirror tk (hr.mono (by decide)) (va_cons (ve_var 18) va_nil)) (ve_var 18)) (ve_one (ve_eq rm (ve_call C_turned tk (hr.mono (by decide)) (va_cons (ve_var 18) (va_cons (ve_var 19) va_nil))) (ve_var 17)))))))))
end
end G
set_option Elab.async false
set_option linter.all false
set_option maxRecDepth 100000
set_option maxHeartbeats 0
namespace G
open PySem PySem.Spec PyProof.Rows L2
def d_is_whole : He.DefD := ⟨("is_whole", none), "is_whole", "is_whole", defArgs s_is_whole, defBody s_is_whole, defScope s_is_whole, [], []⟩
def d_common : He.DefD := ⟨("common", none), "common", "common", defArgs s_common, defBody s_common, defScope s_common, [], []⟩
def d_is_nought : He.DefD := ⟨("is_nought", none), "is_nought", "is_nought", defArgs s_is_nought, defBody s_is_nought, defScope s_is_nought, [], []⟩
def d_is_shaped : He.DefD := ⟨("is_shaped", none), "is_shaped", "is_shaped", defArgs s_is_shaped, defBody s_is_shaped, defScope s_is_shaped, [], []⟩
def d_own_one_at : He.DefD := ⟨("own_one_at", none), "own_one_at", "own_one_at", defArgs s_own_one_at, defBody s_own_one_at, defScope s_own_one_at, [], []⟩
def d_mirror_spot : He.DefD := ⟨("mirror_spot", none), "mirror_spot", "mirror_spot", defArgs s_mirror_spot, defBody s_mirror_spot, defScope s_mirror_spot, [], []⟩
def d_own_turned : He.DefD := ⟨("own_turned", none), "own_turned", "own_turned", defArgs s_own_turned, defBody s_own_turned, defScope s_own_turned, [], []⟩
def d_flat : He.DefD := ⟨("flat", none), "flat", "flat", defArgs s_flat, defBody s_flat, defScope s_flat, [], []⟩
def d__law_mixed : He.DefD := ⟨("_law_mixed", none), "_law_mixed", "_law_mixed", defArgs s__law_mixed, defBody s__law_mixed, defScope s__law_mixed, [], []⟩
def d__law_draw : He.DefD := ⟨("_law_draw", none), "_law_draw", "_law_draw", defArgs s__law_draw, defBody s__law_draw, defScope s__law_draw, [], []⟩
def d__law_lowest : He.DefD := ⟨("_law_lowest", none), "_law_lowest", "_law_lowest", defArgs s__law_lowest, defBody s__law_lowest, defScope s__law_lowest, [], []⟩
def d__law_flat : He.DefD := ⟨("_law_flat", none), "_law_flat", "_law_flat", defArgs s__law_flat, defBody s__law_flat, defScope s__law_flat, [], []⟩
def d__law_mirror : He.DefD := ⟨("_law_mirror", none), "_law_mirror", "_law_mirror", defArgs s__law_mirror, defBody s__law_mirror, defScope s__law_mirror, [], []⟩
def d__law_turned : He.DefD := ⟨("_law_turned", none), "_law_turned", "_law_turned", defArgs s__law_turned, defBody s__law_turned, defScope s__law_turned, [], []⟩
def d_is_fraction : He.DefD := ⟨("is_fraction", none), "is_fraction", "is_fraction", defArgs s_is_fraction, defBody s_is_fraction, defScope s_is_fraction, [], []⟩
def d_lowest : He.DefD := ⟨("lowest", none), "lowest", "lowest", defArgs s_lowest, defBody s_lowest, defScope s_lowest, [], []⟩
def d_are_counts : He.DefD := ⟨("are_counts", none), "are_counts", "are_counts", defArgs s_are_counts, defBody s_are_counts, defScope s_are_counts, [], []⟩
def d_is_spot : He.DefD := ⟨("is_spot", none), "is_spot", "is_spot", defArgs s_is_spot, defBody s_is_spot, defScope s_is_spot, [], []⟩
def d_need_beats : He.DefD := ⟨("need_beats", none), "need_beats", "need_beats", defArgs s_need_beats, defBody s_need_beats, defScope s_need_beats, [], []⟩
def d_mirror_pair : He.DefD := ⟨("mirror_pair", none), "mirror_pair", "mirror_pair", defArgs s_mirror_pair, defBody s_mirror_pair, defScope s_mirror_pair, [], []⟩
def d_need_own_touch : He.DefD := ⟨("need_own_touch", none), "need_own_touch", "need_own_touch", defArgs s_need_own_touch, defBody s_need_own_touch, defScope s_need_own_touch, [], []⟩
def d__law_digit : He.DefD := ⟨("_law_digit", none), "_law_digit", "_law_digit", defArgs s__law_digit, defBody s__law_digit, defScope s__law_digit, [], []⟩
def d__law_plus : He.DefD := ⟨("_law_plus", none), "_law_plus", "_law_plus", defArgs s__law_plus, defBody s__law_plus, defScope s__law_plus, [], []⟩
def d__law_times : He.DefD := ⟨("_law_times", none), "_law_times", "_law_times", defArgs s__law_times, defBody s__law_times, defScope s__law_times, [], []⟩
def d_plus : He.DefD := ⟨("plus", none), "plus", "plus", defArgs s_plus, defBody s_plus, defScope s_plus, [], []⟩
def d_times : He.DefD := ⟨("times", none), "times", "times", defArgs s_times, defBody s_times, defScope s_times, [], []⟩
def d_half : He.DefD := ⟨("half", none), "half", "half", defArgs s_half, defBody s_half, defScope s_half, [], []⟩
def d_is_touch : He.DefD := ⟨("is_touch", none), "is_touch", "is_touch", defArgs s_is_touch, defBody s_is_touch, defScope s_is_touch, [], []⟩
def d_need_own_load : He.DefD := ⟨("need_own_load", none), "need_own_load", "need_own_load", defArgs s_need_own_load, defBody s_need_own_load, defScope s_need_own_load, [], []⟩
def d_own_mirror : He.DefD := ⟨("own_mirror", none), "own_mirror", "own_mirror", defArgs s_own_mirror, defBody s_own_mirror, defScope s_own_mirror, [], []⟩
def d__law_counts : He.DefD := ⟨("_law_counts", none), "_law_counts", "_law_counts", defArgs s__law_counts, defBody s__law_counts, defScope s__law_counts, [], []⟩
def d__law_touches : He.DefD := ⟨("_law_touches", none), "_law_touches", "_law_touches", defArgs s__law_touches, defBody s__law_touches, defScope s__law_touches, [], []⟩
def d__law_load : He.DefD := ⟨("_law_load", none), "_law_load", "_law_load", defArgs s__law_load, defBody s__law_load, defScope s__law_load, [], []⟩
def d__law_pairing : He.DefD := ⟨("_law_pairing", none), "_law_pairing", "_law_pairing", defArgs s__law_pairing, defBody s__law_pairing, defScope s__law_pairing, [], []⟩
def d_touches_misfit : He.DefD := ⟨("touches_misfit", none), "touches_misfit", "touches_misfit", defArgs s_touches_misfit, defBody s_touches_misfit, defScope s_touches_misfit, [], []⟩
def d_own_read : He.DefD := ⟨("own_read", none), "own_read", "own_read", defArgs s_own_read, defBody s_own_read, defScope s_own_read, [], []⟩
def d_own_mirror_touch : He.DefD := ⟨("own_mirror_touch", none), "own_mirror_touch", "own_mirror_touch", defArgs s_own_mirror_touch, defBody s_own_mirror_touch, defScope s_own_mirror_touch, [], []⟩
def d_pairing : He.DefD := ⟨("pairing", none), "pairing", "pairing", defArgs s_pairing, defBody s_pairing, defScope s_pairing, [], []⟩
def d__law_machine : He.DefD := ⟨("_law_machine", none), "_law_machine", "_law_machine", defArgs s__law_machine, defBody s__law_machine, defScope s__law_machine, [], []⟩
def d_need_machine : He.DefD := ⟨("need_machine", none), "need_machine", "need_machine", defArgs s_need_machine, defBody s_need_machine, defScope s_need_machine, [], []⟩
def d_own_beat : He.DefD := ⟨("own_beat", none), "own_beat", "own_beat", defArgs s_own_beat, defBody s_own_beat, defScope s_own_beat, [], []⟩
def d__law_touching : He.DefD := ⟨("_law_touching", none), "_law_touching", "_law_touching", defArgs s__law_touching, defBody s__law_touching, defScope s__law_touching, [], []⟩
def d_need_load : He.DefD := ⟨("need_load", none), "need_load", "need_load", defArgs s_need_load, defBody s_need_load, defScope s_need_load, [], []⟩
def d_one_at : He.DefD := ⟨("one_at", none), "one_at", "one_at", defArgs s_one_at, defBody s_one_at, defScope s_one_at, [], []⟩
def d_mirror : He.DefD := ⟨("mirror", none), "mirror", "mirror", defArgs s_mirror, defBody s_mirror, defScope s_mirror, [], []⟩
def d_mirror_touch : He.DefD := ⟨("mirror_touch", none), "mirror_touch", "mirror_touch", defArgs s_mirror_touch, defBody s_mirror_touch, defScope s_mirror_touch, [], []⟩
def d_behind : He.DefD := ⟨("behind", none), "behind", "behind", defArgs s_behind, defBody s_behind, defScope s_behind, [], []⟩
def d_turned : He.DefD := ⟨("turned", none), "turned", "turned", defArgs s_turned, defBody s_turned, defScope s_turned, [], []⟩
def d_paired : He.DefD := ⟨("paired", none), "paired", "paired", defArgs s_paired, defBody s_paired, defScope s_paired, [], []⟩
def d__law_named_right : He.DefD := ⟨("_law_named_right", none), "_law_named_right", "_law_named_right", defArgs s__law_named_right, defBody s__law_named_right, defScope s__law_named_right, [], []⟩
def d_law : He.DefD := ⟨("law", none), "law", "law", defArgs s_law, defBody s_law, defScope s_law, [], []⟩
def fn0 : List He.DefD := [d_is_whole, d_common, d_is_nought, d_is_shaped, d_own_one_at, d_mirror_spot, d_own_turned, d_flat, d__law_mixed, d__law_draw, d__law_lowest, d__law_flat, d__law_mirror, d__law_turned, d_is_fraction, d_lowest, d_are_counts, d_is_spot, d_need_beats, d_mirror_pair, d_need_own_touch, d__law_digit, d__law_plus, d__law_times, d_plus]
def fn1 : List He.DefD := [d_times, d_half, d_is_touch, d_need_own_load, d_own_mirror, d__law_counts, d__law_touches, d__law_load, d__law_pairing, d_touches_misfit, d_own_read, d_own_mirror_touch, d_pairing, d__law_machine, d_need_machine, d_own_beat, d__law_touching, d_need_load, d_one_at, d_mirror, d_mirror_touch, d_behind, d_turned, d_paired, d__law_named_right]
def fn2 : List He.DefD := [d_law]
def fn : List He.DefD := fn0 ++ fn1 ++ fn2
def fa0 : List He.Fa := [.glo "is_whole", .glo "common", .glo "is_nought", .glo "is_shaped", .glo "own_one_at", .glo "mirror_spot", .glo "own_turned", .glo "flat", .glo "_law_mixed", .glo "_law_draw", .glo "_law_lowest", .glo "_law_flat", .glo "_law_mirror", .glo "_law_turned", .glo "is_fraction", .glo "lowest", .glo "are_counts", .glo "is_spot", .glo "need_beats", .glo "mirror_pair", .glo "need_own_touch", .glo "_law_digit", .glo "_law_plus", .glo "_law_times", .glo "plus"]
def fa1 : List He.Fa := [.glo "times", .glo "half", .glo "is_touch", .glo "need_own_load", .glo "own_mirror", .glo "_law_counts", .glo "_law_touches", .glo "_law_load", .glo "_law_pairing", .glo "touches_misfit", .glo "own_read", .glo "own_mirror_touch", .glo "pairing", .glo "_law_machine", .glo "need_machine", .glo "own_beat", .glo "_law_touching", .glo "need_load", .glo "one_at", .glo "mirror", .glo "mirror_touch", .glo "behind", .glo "turned", .glo "paired", .glo "_law_named_right"]
def fa2 : List He.Fa := [.glo "law", .free "abs", .free "all", .free "bool", .free "enumerate", .free "int", .free "isinstance", .free "len", .free "list", .free "max", .free "min", .free "range", .free "repr", .free "sorted", .free "sum", .free "tuple", .free "zip", .int "MOST_BEATS" 300, .int "MOST_CELLS" 30, .int "MOST_TOUCHES" 8, .int "MOST_WHEELS" 16, .glo "NOUGHT", .glo "ONE"]
def fa : List He.Fa := fa0 ++ fa1 ++ fa2
/-- an own class over LookupError, by what the fragment says -/
def excB (K : PySem.W.Frag) (x : Str) : Bool := PySem.W.keepIn K (.ref (He.ga K x)) && (PySem.W.excIn K (He.ga K x) leBase "LookupError.__new__" && (decide (PySem.W.subIn K (.ref (He.ga K x)) (.type "BaseException") = some true) &&
  (decide (PySem.W.typeIn K (.ref (He.ga K x)) = some (.type "type")) && decide (PySem.W.exmOne K (.ref (He.ga K x)) (.ref (He.ga K x)) = some true))))
theorem excB_ok {Γ : Gm} {K : PySem.W.Frag} {mg : Str → Option Value} {x : Str} {c : Nat} (h : excB K x = true) (g : mg x = some (.ref (He.ga K x))) (e : Γ.ca c = He.ga K x) : ExF Γ K mg x c := by
  unfold excB at h
  simp only [Bool.and_eq_true, decide_eq_true_eq] at h
  obtain ⟨h1, h2, h3, h4, h5⟩ := h
  exact ⟨by rw [e]; exact g, by rw [e]; exact h1, by rw [e]; exact h2, by rw [e]; exact h3, by rw [e]; exact h4, by rw [e]; exact h5⟩
def ex (K : PySem.W.Frag) : Bool := He.tupB K "NOUGHT" [.int 0, .int 1] && He.tupB K "ONE" [.int 1, .int 1]
def lo0 : List Str := ["WheelError", "BadMachine", "BadLoad", "BadSpot", "OutOfPlace", "MissError", "NoTouch", "NOUGHT", "ONE", "is_whole", "common", "is_fraction", "lowest", "plus", "times", "half", "is_nought", "MOST_WHEELS", "MOST_CELLS", "MOST_TOUCHES", "are_counts", "is_spot", "is_touch", "touches_misfit", "need_machine"]
def lo1 : List Str := ["MOST_BEATS", "is_shaped", "need_own_load", "need_load", "own_one_at", "one_at", "own_read", "own_beat", "need_beats", "behind", "mirror_spot", "mirror_pair", "own_mirror", "mirror", "need_own_touch", "own_mirror_touch", "mirror_touch", "own_turned", "turned", "flat", "pairing", "paired", "_law_mixed", "_law_draw", "_law_digit"]
def lo2 : List Str := ["_law_counts", "_law_touches", "_law_machine", "_law_lowest", "_law_plus", "_law_times", "_law_touching", "_law_load", "_law_flat", "_law_pairing", "_law_mirror", "_law_turned", "_law_named_right"]
def lo : List Str := lo0 ++ lo1 ++ lo2
abbrev R : PySem.W.OpenRow := PySem.W.OpenLaw.row PySem.Challenge.rw_evenwheels_k40_whole_mirrored
abbrev hk : PySem.W.Hook := He.hookX 4 fa fn [] [] ex
def ob (s : PySem.W.SharedT) : He.AlX := He.obsX 4 fa fn [] [] ex (HandSHeadRun.getT s)
theorem ob_eq (s : PySem.W.SharedT) : ob s = hk.obs s.abs := He.obsX_eq (HandSHeadRun.getT_eq s)
theorem run (w : World) : HandSHeadRun.RunEq R (PySem.W.view R.prog [69]) hk ob 40000 lo w := by
  intro os
  kernel_rfl
def gm (K : PySem.W.Frag) : Gm := ⟨fun c => 0, fun _ => True, fun _ _ _ _ _ => trivial⟩
theorem facts {P : Program} {wd : World} {K : PySem.W.Frag} {h : Heap} {mg : Str → Option Value} {f : Addr} (X : K.In h) (G : h.Ns mainGlobals mg) (hfa : mg ("law" : Str) = some (.ref f)) (c : He.SaysD fa fn K) (ce : ex K = true) :
    ∃ fd : FuncData, (∀ (s : Shared) (v : Value), BindsTo s fd ⟨[v], []⟩ [("script", v)]) ∧ ∀ base : Heap, K.In base → base.Ns mainGlobals mg → FnG P wd K mg base 9 f fd ["script"] (spOf (gm K) K 1 R_law) := by
  unfold ex at ce
  simp only [Bool.and_eq_true] at ce
  obtain ⟨fd_is_whole, F_is_whole⟩ := c.def_ 0 (d := d_is_whole) (by rfl)
  have g_is_whole := He.glo_ok X G (c.fact 0 (f := .glo "is_whole") (by rfl))
  obtain ⟨fd_common, F_common⟩ := c.def_ 1 (d := d_common) (by rfl)
  have g_common := He.glo_ok X G (c.fact 1 (f := .glo "common") (by rfl))
  obtain ⟨fd_is_nought, F_is_nought⟩ := c.def_ 2 (d := d_is_nought) (by rfl)
  have g_is_nought := He.glo_ok X G (c.fact 2 (f := .glo "is_nought") (by rfl))
  obtain ⟨fd_is_shaped, F_is_shaped⟩ := c.def_ 3 (d := d_is_shaped) (by rfl)
  have g_is_shaped := He.glo_ok X G (c.fact 3 (f := .glo "is_shaped") (by rfl))
  obtain ⟨fd_own_one_at, F_own_one_at⟩ := c.def_ 4 (d := d_own_one_at) (by rfl)
  have g_own_one_at := He.glo_ok X G (c.fact 4 (f := .glo "own_one_at") (by rfl))
  obtain ⟨fd_mirror_spot, F_mirror_spot⟩ := c.def_ 5 (d := d_mirror_spot) (by rfl)
  have g_mirror_spot := He.glo_ok X G (c.fact 5 (f := .glo "mirror_spot") (by rfl))
  obtain ⟨fd_own_turned, F_own_turned⟩ := c.def_ 6 (d := d_own_turned) (by rfl)
  have g_own_turned := He.glo_ok X G (c.fact 6 (f := .glo "own_turned") (by rfl))
  obtain ⟨fd_flat, F_flat⟩ := c.def_ 7 (d := d_flat) (by rfl)
  have g_flat := He.glo_ok X G (c.fact 7 (f := .glo "flat") (by rfl))
  obtain ⟨fd__law_mixed, F__law_mixed⟩ := c.def_ 8 (d := d__law_mixed) (by rfl)
  have g__law_mixed := He.glo_ok X G (c.fact 8 (f := .glo "_law_mixed") (by rfl))
  obtain ⟨fd__law_draw, F__law_draw⟩ := c.def_ 9 (d := d__law_draw) (by rfl)
  have g__law_draw := He.glo_ok X G (c.fact 9 (f := .glo "_law_draw") (by rfl))
  obtain ⟨fd__law_lowest, F__law_lowest⟩ := c.def_ 10 (d := d__law_lowest) (by rfl)
  have g__law_lowest := He.glo_ok X G (c.fact 10 (f := .glo "_law_lowest") (by rfl))
  obtain ⟨fd__law_flat, F__law_flat⟩ := c.def_ 11 (d := d__law_flat) (by rfl)
  have g__law_flat := He.glo_ok X G (c.fact 11 (f := .glo "_law_flat") (by rfl))
  obtain ⟨fd__law_mirror, F__law_mirror⟩ := c.def_ 12 (d := d__law_mirror) (by rfl)
  have g__law_mirror := He.glo_ok X G (c.fact 12 (f := .glo "_law_mirror") (by rfl))
  obtain ⟨fd__law_turned, F__law_turned⟩ := c.def_ 13 (d := d__law_turned) (by rfl)
  have g__law_turned := He.glo_ok X G (c.fact 13 (f := .glo "_law_turned") (by rfl))
  obtain ⟨fd_is_fraction, F_is_fraction⟩ := c.def_ 14 (d := d_is_fraction) (by rfl)
  have g_is_fraction := He.glo_ok X G (c.fact 14 (f := .glo "is_fraction") (by rfl))
  obtain ⟨fd_lowest, F_lowest⟩ := c.def_ 15 (d := d_lowest) (by rfl)
  have g_lowest := He.glo_ok X G (c.fact 15 (f := .glo "lowest") (by rfl))
  obtain ⟨fd_are_counts, F_are_counts⟩ := c.def_ 16 (d := d_are_counts) (by rfl)
  have g_are_counts := He.glo_ok X G (c.fact 16 (f := .glo "are_counts") (by rfl))
  obtain ⟨fd_is_spot, F_is_spot⟩ := c.def_ 17 (d := d_is_spot) (by rfl)
  have g_is_spot := He.glo_ok X G (c.fact 17 (f := .glo "is_spot") (by rfl))
  obtain ⟨fd_need_beats, F_need_beats⟩ := c.def_ 18 (d := d_need_beats) (by rfl)
  have g_need_beats := He.glo_ok X G (c.fact 18 (f := .glo "need_beats") (by rfl))
  obtain ⟨fd_mirror_pair, F_mirror_pair⟩ := c.def_ 19 (d := d_mirror_pair) (by rfl)
  have g_mirror_pair := He.glo_ok X G (c.fact 19 (f := .glo "mirror_pair") (by rfl))
  obtain ⟨fd_need_own_touch, F_need_own_touch⟩ := c.def_ 20 (d := d_need_own_touch) (by rfl)
  have g_need_own_touch := He.glo_ok X G (c.fact 20 (f := .glo "need_own_touch") (by rfl))
  obtain ⟨fd__law_digit, F__law_digit⟩ := c.def_ 21 (d := d__law_digit) (by rfl)
  have g__law_digit := He.glo_ok X G (c.fact 21 (f := .glo "_law_digit") (by rfl))
  obtain ⟨fd__law_plus, F__law_plus⟩ := c.def_ 22 (d := d__law_plus) (by rfl)
  have g__law_plus := He.glo_ok X G (c.fact 22 (f := .glo "_law_plus") (by rfl))
  obtain ⟨fd__law_times, F__law_times⟩ := c.def_ 23 (d := d__law_times) (by rfl)
  have g__law_times := He.glo_ok X G (c.fact 23 (f := .glo "_law_times") (by rfl))
  obtain ⟨fd_plus, F_plus⟩ := c.def_ 24 (d := d_plus) (by rfl)
  have g_plus := He.glo_ok X G (c.fact 24 (f := .glo "plus") (by rfl))
  obtain ⟨fd_times, F_times⟩ := c.def_ 25 (d := d_times) (by rfl)
  have g_times := He.glo_ok X G (c.fact 25 (f := .glo "times") (by rfl))
  obtain ⟨fd_half, F_half⟩ := c.def_ 26 (d := d_half) (by rfl)
  have g_half := He.glo_ok X G (c.fact 26 (f := .glo "half") (by rfl))
  obtain ⟨fd_is_touch, F_is_touch⟩ := c.def_ 27 (d := d_is_touch) (by rfl)
  have g_is_touch := He.glo_ok X G (c.fact 27 (f := .glo "is_touch") (by rfl))
  obtain ⟨fd_need_own_load, F_need_own_load⟩ := c.def_ 28 (d := d_need_own_load) (by rfl)
  have g_need_own_load := He.glo_ok X G (c.fact 28 (f := .glo "need_own_load") (by rfl))
  obtain ⟨fd_own_mirror, F_own_mirror⟩ := c.def_ 29 (d := d_own_mirror) (by rfl)
  have g_own_mirror := He.glo_ok X G (c.fact 29 (f := .glo "own_mirror") (by rfl))
  obtain ⟨fd__law_counts, F__law_counts⟩ := c.def_ 30 (d := d__law_counts) (by rfl)
  have g__law_counts := He.glo_ok X G (c.fact 30 (f := .glo "_law_counts") (by rfl))
  obtain ⟨fd__law_touches, F__law_touches⟩ := c.def_ 31 (d := d__law_touches) (by rfl)
  have g__law_touches := He.glo_ok X G (c.fact 31 (f := .glo "_law_touches") (by rfl))
  obtain ⟨fd__law_load, F__law_load⟩ := c.def_ 32 (d := d__law_load) (by rfl)
  have g__law_load := He.glo_ok X G (c.fact 32 (f := .glo "_law_load") (by rfl))
  obtain ⟨fd__law_pairing, F__law_pairing⟩ := c.def_ 33 (d := d__law_pairing) (by rfl)
  have g__law_pairing := He.glo_ok X G (c.fact 33 (f := .glo "_law_pairing") (by rfl))
  obtain ⟨fd_touches_misfit, F_touches_misfit⟩ := c.def_ 34 (d := d_touches_misfit) (by rfl)
  have g_touches_misfit := He.glo_ok X G (c.fact 34 (f := .glo "touches_misfit") (by rfl))
  obtain ⟨fd_own_read, F_own_read⟩ := c.def_ 35 (d := d_own_read) (by rfl)
  have g_own_read := He.glo_ok X G (c.fact 35 (f := .glo "own_read") (by rfl))
  obtain ⟨fd_own_mirror_touch, F_own_mirror_touch⟩ := c.def_ 36 (d := d_own_mirror_touch) (by rfl)
  have g_own_mirror_touch := He.glo_ok X G (c.fact 36 (f := .glo "own_mirror_touch") (by rfl))
  obtain ⟨fd_pairing, F_pairing⟩ := c.def_ 37 (d := d_pairing) (by rfl)
  have g_pairing := He.glo_ok X G (c.fact 37 (f := .glo "pairing") (by rfl))
  obtain ⟨fd__law_machine, F__law_machine⟩ := c.def_ 38 (d := d__law_machine) (by rfl)
  have g__law_machine := He.glo_ok X G (c.fact 38 (f := .glo "_law_machine") (by rfl))
  obtain ⟨fd_need_machine, F_need_machine⟩ := c.def_ 39 (d := d_need_machine) (by rfl)
  have g_need_machine := He.glo_ok X G (c.fact 39 (f := .glo "need_machine") (by rfl))
  obtain ⟨fd_own_beat, F_own_beat⟩ := c.def_ 40 (d := d_own_beat) (by rfl)
  have g_own_beat := He.glo_ok X G (c.fact 40 (f := .glo "own_beat") (by rfl))
  obtain ⟨fd__law_touching, F__law_touching⟩ := c.def_ 41 (d := d__law_touching) (by rfl)
  have g__law_touching := He.glo_ok X G (c.fact 41 (f := .glo "_law_touching") (by rfl))
  obtain ⟨fd_need_load, F_need_load⟩ := c.def_ 42 (d := d_need_load) (by rfl)
  have g_need_load := He.glo_ok X G (c.fact 42 (f := .glo "need_load") (by rfl))
  obtain ⟨fd_one_at, F_one_at⟩ := c.def_ 43 (d := d_one_at) (by rfl)
  have g_one_at := He.glo_ok X G (c.fact 43 (f := .glo "one_at") (by rfl))
  obtain ⟨fd_mirror, F_mirror⟩ := c.def_ 44 (d := d_mirror) (by rfl)
  have g_mirror := He.glo_ok X G (c.fact 44 (f := .glo "mirror") (by rfl))
  obtain ⟨fd_mirror_touch, F_mirror_touch⟩ := c.def_ 45 (d := d_mirror_touch) (by rfl)
  have g_mirror_touch := He.glo_ok X G (c.fact 45 (f := .glo "mirror_touch") (by rfl))
  obtain ⟨fd_behind, F_behind⟩ := c.def_ 46 (d := d_behind) (by rfl)
  have g_behind := He.glo_ok X G (c.fact 46 (f := .glo "behind") (by rfl))
  obtain ⟨fd_turned, F_turned⟩ := c.def_ 47 (d := d_turned) (by rfl)
  have g_turned := He.glo_ok X G (c.fact 47 (f := .glo "turned") (by rfl))
  obtain ⟨fd_paired, F_paired⟩ := c.def_ 48 (d := d_paired) (by rfl)
  have g_paired := He.glo_ok X G (c.fact 48 (f := .glo "paired") (by rfl))
  obtain ⟨fd__law_named_right, F__law_named_right⟩ := c.def_ 49 (d := d__law_named_right) (by rfl)
  have g__law_named_right := He.glo_ok X G (c.fact 49 (f := .glo "_law_named_right") (by rfl))
  obtain ⟨fd_law, F_law⟩ := c.def_ 50 (d := d_law) (by rfl)
  have g_law := He.glo_ok X G (c.fact 50 (f := .glo "law") (by rfl))
  have T : Txt (gm K) K mg := ⟨He.free_ok X G (c.fact 51 (f := .free "abs") (by rfl)), He.free_ok X G (c.fact 52 (f := .free "all") (by rfl)), He.free_ok X G (c.fact 53 (f := .free "bool") (by rfl)), He.free_ok X G (c.fact 54 (f := .free "enumerate") (by rfl)), He.free_ok X G (c.fact 55 (f := .free "int") (by rfl)), He.free_ok X G (c.fact 56 (f := .free "isinstance") (by rfl)), He.free_ok X G (c.fact 57 (f := .free "len") (by rfl)), He.free_ok X G (c.fact 58 (f := .free "list") (by rfl)), He.free_ok X G (c.fact 59 (f := .free "max") (by rfl)), He.free_ok X G (c.fact 60 (f := .free "min") (by rfl)), He.free_ok X G (c.fact 61 (f := .free "range") (by rfl)), He.free_ok X G (c.fact 62 (f := .free "repr") (by rfl)), He.free_ok X G (c.fact 63 (f := .free "sorted") (by rfl)), He.free_ok X G (c.fact 64 (f := .free "sum") (by rfl)), He.free_ok X G (c.fact 65 (f := .free "tuple") (by rfl)), He.free_ok X G (c.fact 66 (f := .free "zip") (by rfl)), gl_int (He.int_ok X G (c.fact 67 (f := .int "MOST_BEATS" 300) (by rfl))), gl_int (He.int_ok X G (c.fact 68 (f := .int "MOST_CELLS" 30) (by rfl))), gl_int (He.int_ok X G (c.fact 69 (f := .int "MOST_TOUCHES" 8) (by rfl))), gl_int (He.int_ok X G (c.fact 70 (f := .int "MOST_WHEELS" 16) (by rfl))), gl_tup (He.glo_ok X G (c.fact 71 (f := .glo "NOUGHT") (by rfl))) (He.tupB_ok ce.1) (fun _ => .cons (.int 0) (.cons (.int 1) (.nil))), gl_tup (He.glo_ok X G (c.fact 72 (f := .glo "ONE") (by rfl))) (He.tupB_ok ce.2) (fun _ => .cons (.int 1) (.cons (.int 1) (.nil)))⟩
  have e := hfa.symm.trans g_law
  cases e
  have b := FunD.bindsA (ps := ["script"]) F_law fun _ _ _ _ _ _ us hl => match us, hl with | [_], _ => rfl
  refine ⟨fd_law, fun s v => b s [v] rfl, fun base _ _ => ?_⟩
  have C_is_whole : Cal (gm K) P wd K mg base 1 "is_whole" 1 [] R_is_whole := ok_is_whole T  F_is_whole g_is_whole
  have C_common : Cal (gm K) P wd K mg base 1 "common" 2 [] R_common := ok_common T  F_common g_common
  have C_is_nought : Cal (gm K) P wd K mg base 1 "is_nought" 1 [] R_is_nought := ok_is_nought T  F_is_nought g_is_nought
  have C_is_shaped : Cal (gm K) P wd K mg base 1 "is_shaped" 2 [] R_is_shaped := ok_is_shaped T  F_is_shaped g_is_shaped
  have C_own_one_at : Cal (gm K) P wd K mg base 1 "own_one_at" 2 [] R_own_one_at := ok_own_one_at T  F_own_one_at g_own_one_at
  have C_mirror_spot : Cal (gm K) P wd K mg base 1 "mirror_spot" 2 [] R_mirror_spot := ok_mirror_spot T  F_mirror_spot g_mirror_spot
  have C_own_turned : Cal (gm K) P wd K mg base 1 "own_turned" 1 [] R_own_turned := ok_own_turned T  F_own_turned g_own_turned
  have C_flat : Cal (gm K) P wd K mg base 1 "flat" 1 [] R_flat := ok_flat T  F_flat g_flat
  have C__law_mixed : Cal (gm K) P wd K mg base 1 "_law_mixed" 2 [] R__law_mixed := ok__law_mixed T  F__law_mixed g__law_mixed
  have C__law_draw : Cal (gm K) P wd K mg base 1 "_law_draw" 2 [] R__law_draw := ok__law_draw T  F__law_draw g__law_draw
  have C__law_lowest : Cal (gm K) P wd K mg base 1 "_law_lowest" 2 [] R__law_lowest := ok__law_lowest T  F__law_lowest g__law_lowest
  have C__law_flat : Cal (gm K) P wd K mg base 1 "_law_flat" 1 [] R__law_flat := ok__law_flat T  F__law_flat g__law_flat
  have C__law_mirror : Cal (gm K) P wd K mg base 1 "_law_mirror" 1 [] R__law_mirror := ok__law_mirror T  F__law_mirror g__law_mirror
  have C__law_turned : Cal (gm K) P wd K mg base 1 "_law_turned" 1 [] R__law_turned := ok__law_turned T  F__law_turned g__law_turned
  have C_is_fraction : Cal (gm K) P wd K mg base 2 "is_fraction" 1 [] R_is_fraction := ok_is_fraction T C_is_whole C_common F_is_fraction g_is_fraction
  have C_lowest : Cal (gm K) P wd K mg base 2 "lowest" 2 [] R_lowest := ok_lowest T C_common F_lowest g_lowest
  have C_are_counts : Cal (gm K) P wd K mg base 2 "are_counts" 1 [] R_are_counts := ok_are_counts T C_is_whole F_are_counts g_are_counts
  have C_is_spot : Cal (gm K) P wd K mg base 2 "is_spot" 2 [] R_is_spot := ok_is_spot T C_is_whole F_is_spot g_is_spot
  have C_need_beats : Cal (gm K) P wd K mg base 2 "need_beats" 1 [] R_need_beats := ok_need_beats T C_is_whole F_need_beats g_need_beats
  have C_mirror_pair : Cal (gm K) P wd K mg base 2 "mirror_pair" 2 [] R_mirror_pair := ok_mirror_pair T C_mirror_spot F_mirror_pair g_mirror_pair
  have C_need_own_touch : Cal (gm K) P wd K mg base 2 "need_own_touch" 2 [] R_need_own_touch := ok_need_own_touch T C_is_whole F_need_own_touch g_need_own_touch
  have C__law_digit : Cal (gm K) P wd K mg base 2 "_law_digit" 2 [] R__law_digit := ok__law_digit T C__law_mixed F__law_digit g__law_digit
  have C__law_plus : Cal (gm K) P wd K mg base 2 "_law_plus" 2 [] R__law_plus := ok__law_plus T C__law_lowest F__law_plus g__law_plus
  have C__law_times : Cal (gm K) P wd K mg base 2 "_law_times" 2 [] R__law_times := ok__law_times T C__law_lowest F__law_times g__law_times
  have C_plus : Cal (gm K) P wd K mg base 3 "plus" 2 [] R_plus := ok_plus T C_lowest F_plus g_plus
  have C_times : Cal (gm K) P wd K mg base 3 "times" 2 [] R_times := ok_times T C_lowest F_times g_times
  have C_half : Cal (gm K) P wd K mg base 3 "half" 1 [] R_half := ok_half T C_lowest F_half g_half
  have C_is_touch : Cal (gm K) P wd K mg base 3 "is_touch" 2 [] R_is_touch := ok_is_touch T C_is_spot F_is_touch g_is_touch
  have C_need_own_load : Cal (gm K) P wd K mg base 3 "need_own_load" 2 [] R_need_own_load := ok_need_own_load T C_is_shaped C_is_fraction F_need_own_load g_need_own_load
  have C_own_mirror : Cal (gm K) P wd K mg base 3 "own_mirror" 1 [] R_own_mirror := ok_own_mirror T C_mirror_pair F_own_mirror g_own_mirror
  have C__law_counts : Cal (gm K) P wd K mg base 3 "_law_counts" 2 [] R__law_counts := ok__law_counts T C__law_digit F__law_counts g__law_counts
  have C__law_touches : Cal (gm K) P wd K mg base 3 "_law_touches" 3 [] R__law_touches := ok__law_touches T C__law_digit F__law_touches g__law_touches
  have C__law_load : Cal (gm K) P wd K mg base 3 "_law_load" 3 [] R__law_load := ok__law_load T C__law_digit C__law_lowest F__law_load g__law_load
  have C__law_pairing : Cal (gm K) P wd K mg base 3 "_law_pairing" 2 [] R__law_pairing := ok__law_pairing T C__law_plus C__law_times F__law_pairing g__law_pairing
  have C_touches_misfit : Cal (gm K) P wd K mg base 4 "touches_misfit" 2 [] R_touches_misfit := ok_touches_misfit T C_is_touch F_touches_misfit g_touches_misfit
  have C_own_read : Cal (gm K) P wd K mg base 4 "own_read" 2 [] R_own_read := ok_own_read T C_half C_plus F_own_read g_own_read
  have C_own_mirror_touch : Cal (gm K) P wd K mg base 4 "own_mirror_touch" 2 [] R_own_mirror_touch := ok_own_mirror_touch T C_own_mirror C_mirror_pair F_own_mirror_touch g_own_mirror_touch
  have C_pairing : Cal (gm K) P wd K mg base 4 "pairing" 2 [] R_pairing := ok_pairing T C_is_nought C_plus C_times F_pairing g_pairing
  have C__law_machine : Cal (gm K) P wd K mg base 4 "_law_machine" 2 [] R__law_machine := ok__law_machine T C__law_counts C__law_touches F__law_machine g__law_machine
  have C_need_machine : Cal (gm K) P wd K mg base 5 "need_machine" 1 [] R_need_machine := ok_need_machine T C_are_counts C_touches_misfit F_need_machine g_need_machine
  have C_own_beat : Cal (gm K) P wd K mg base 5 "own_beat" 2 [] R_own_beat := ok_own_beat T C_own_read F_own_beat g_own_beat
  have C__law_touching : Cal (gm K) P wd K mg base 5 "_law_touching" 2 [] R__law_touching := ok__law_touching T C__law_machine C__law_digit F__law_touching g__law_touching
  have C_need_load : Cal (gm K) P wd K mg base 6 "need_load" 2 [] R_need_load := ok_need_load T C_need_machine C_need_own_load F_need_load g_need_load
  have C_one_at : Cal (gm K) P wd K mg base 6 "one_at" 2 [] R_one_at := ok_one_at T C_need_machine C_is_spot C_own_one_at F_one_at g_one_at
  have C_mirror : Cal (gm K) P wd K mg base 6 "mirror" 1 [] R_mirror := ok_mirror T C_need_machine C_own_mirror F_mirror g_mirror
  have C_mirror_touch : Cal (gm K) P wd K mg base 6 "mirror_touch" 2 [] R_mirror_touch := ok_mirror_touch T C_need_machine C_need_own_touch C_own_mirror_touch F_mirror_touch g_mirror_touch
  have C_behind : Cal (gm K) P wd K mg base 7 "behind" 3 [] R_behind := ok_behind T C_need_load C_need_beats C_own_beat F_behind g_behind
  have C_turned : Cal (gm K) P wd K mg base 7 "turned" 2 [] R_turned := ok_turned T C_need_load C_own_turned F_turned g_turned
  have C_paired : Cal (gm K) P wd K mg base 7 "paired" 3 [] R_paired := ok_paired T C_need_load C_need_own_load C_pairing C_flat F_paired g_paired
  have C__law_named_right : CalG (gm K) P wd K mg base 8 "_law_named_right" 2 R__law_named_right := ok__law_named_right T C_mirror C_mirror_touch C_turned F__law_named_right g__law_named_right
  exact fo_law T C__law_draw C__law_touching C__law_mirror C__law_load C__law_digit C__law_named_right C_turned C__law_turned C_paired C__law_pairing C__law_flat C_behind C_one_at C_mirror F_law
theorem good0 {K : PySem.W.Frag} {H : Hp} : Good (gm K) K ⟨[], [], H⟩ :=
  ⟨rfl, List.nodup_nil, fun a h => (by cases h), fun n a c h => (by cases h), trivial⟩
theorem im0 {H : Hp} {a : Addr} {o : HO} (h : H a = some o) (ht : ∀ ps, o ≠ .tbl ps) : (Wd.mk [] [] H).im a = some o :=
  Wd.im_of (w := ⟨[], [], H⟩) h (fun ⟨n, c, e, _⟩ => by cases e) ht
theorem dpInts {K : PySem.W.Frag} {H : Hp} : ∀ ns : List Int, DpAll K H (ns.map V.int) (ns.map PyData.int)
  | [] => .nil
  | n :: r => .cons (.int n) (dpInts r)
theorem sp_law {K : PySem.W.Frag} {H : Hp} {a : Addr} {ns : List Int} (hl : ns.length ≤ 63) (hS : SqL K H a (ns.map V.int)) : spOf (gm K) K 1 R_law [.ref a] H (fun v _ => v = .bl true) fun _ _ _ => False := by
  obtain ⟨S', e⟩ := law_true ns hl
  have hS' : SqL K (Wd.mk [] [] H).im a (ns.map V.int) := by
    rcases hS with h | h
    · rcases h with h | ⟨o, h⟩
      · exact .inl (.inl (im0 h fun ps z => by cases z))
      · exact .inl (.inr ⟨o, im0 h fun ps z => by cases z⟩)
    · exact .inr h
  refine ⟨rfl, ⟨[], [], H⟩, [.d (.list (ns.map PyData.int))], rfl, good0, .cons (show Dp K _ _ _ from .lst hS' (dpInts ns)) .nil, ?_⟩
  show Post (gm K) K (RW K) ⟨[], [], H⟩ [] _ (R_law _ []) _
  rw [e]
  intro w1 v _ _ _ r
  cases (show Dp K w1.im v (.bool true) from r)
  rfl
end G
open PySem PySem.W PySem.Calls PyProof.Rows
theorem PySem.Challenge.cw_evenwheels_k40_whole_mirrored_holds : PySem.Challenge.rw_evenwheels_k40_whole_mirrored.Holds := by
  w_on; o_law
  refine HandSHeadRun.head_any (r := OpenLaw.row PySem.Challenge.rw_evenwheels_k40_whole_mirrored) (q := view (OpenLaw.row PySem.Challenge.rw_evenwheels_k40_whole_mirrored).prog [69]) (H := G.hk) (ob := G.ob) (M := 40000) (loose := G.lo) (d := HandSHeadRun.topDef (OpenLaw.row PySem.Challenge.rw_evenwheels_k40_whole_mirrored).prog 69) (kwd := []) G.ob_eq
    (by kernel_rfl) (fun s => by kernel_rfl) G.run (by kernel_rfl) (by kernel_rfl) (by kernel_rfl) (by rfl) (by first | assumption | decide +kernel) (by decide +kernel) ⟨rfl, rfl, rfl, rfl, rfl, by decide +kernel⟩ ?hw ?hc
  case hw => w_witness2
  case hc =>
    refine G.end_law (l := PySem.Challenge.rw_evenwheels_k40_whole_mirrored) (n := 63) (k := 9) (x := "script") rfl (by decide) (by kernel_rfl) ⟨rfl, by decide, by decide⟩ ?F
    case F =>
      intro w mg fa h Y G0 hmg0
      obtain ⟨K, KX, c⟩ := Y
      have hmg : mg ("law" : PySem.Str) = some (.ref fa) := by
        have e : (HandSHeadRun.topDef (OpenLaw.row PySem.Challenge.rw_evenwheels_k40_whole_mirrored).prog 69).name = ("law" : PySem.Str) := by kernel_rfl
        rw [← e]
        exact hmg0
      obtain ⟨fd, hb, hF⟩ := G.facts (P := (PySem.Challenge.rw_evenwheels_k40_whole_mirrored).prog) (wd := w) KX G0 hmg c.t.d c.more
      exact ⟨K, fd, G.spOf (G.gm K) K 1 G.R_law, KX, hb, (fun H a ns hl hS => G.sp_law hl hS), (fun base hK hG => hF base hK hG)⟩
