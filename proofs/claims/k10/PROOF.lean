import PyProof.Rows.All
import Wide.All
import OpenK.AllK
import Wide.FinOn
import HandS.ForMost
import HandS.ForExc
import HandS.Wide
import HandS.Walk
import HandS.Zip
import HandS.IsInst
import HandS.TupAny
import HandS.TupMul
import HandS.Deep
import KE.DataCmp
import KE.DataMinMax
import KE.SortData
import KE.GoesNew
import HandS.Style
import HandS.CallSlots
import HandS.ExcOwn
import HandS.WordsExc
import HandS.Defaults
import HandS.List
import HandS.TryOnly
import HandS.Conv
import HandS.Iter
import PyProof.SliceSyntax
import PyProof.Rows.TupMore
import HandS.EndBits
import HandS.EndTab
import PyProof.ReprRoads
import PyProof.ReprLen
import KE.KDictPairs
import PyProof.Rows.TupTab
import HandS.Small
import HandS.Strs
import HandS.SetFor
import HandS.WordsDict
import PyProof.DictUpdate
import PyProof.SliceList
import HandS.DictTup
import HandS.SetKeys
import HandS.TupSets
import KE.KDictWalk
import HandS.TupLen
import HandS.Lambda
import HandS.ExcIs
import HandS.ExcField
import HandS.ExcValue
import KE.KTryMore
import KE.SortKeyHeap
import PyProof.Rows.CallKwBuiltin
import PyProof.Rows.CallKw2
import HandS.NestedK
import HandS.HeadHook4
import KE.KDictCopyH
import PyProof.Rows.CountFlat
import PyProof.SumWalkG
import PyProof.Rows.SeqMore
import PyProof.Rows.ReprOcc
import KE.KStateDown
import Lean
import HandS.Base
import HandS.Call
import HandS.Ends
import HandS.More
import HandS.Words
import HandS.Head0
import HandS.Head1
import HandS.Head2
import HandS.HeadEnd
import HandS.HeadHook1
import HandS.HeadHook2
import HandS.HeadHook3
import HandS.HeadWalk
import PySem.Challenge.RW_evenwheels_k10_ways_and_lots
set_option Elab.async false
set_option linter.all false
set_option maxRecDepth 100000
set_option maxHeartbeats 4000000
/-! G1: a by-value layer over HandS: data as PyData, mutable lists and dicts in a store, expressions and statements as functions -/
namespace G
open PySem PySem.Spec L2
set_option autoImplicit false

/-! ### values, store, outcomes -/
/-- an item of a tuple that holds objects -/
inductive Wi where
  | d (x : PyData)
  | o (n : Nat)
inductive W where
  | d (x : PyData)
  | o (n : Nat)
  | v (x : V)
  /-- data, of tuples that the run has made -/
  | t (x : PyData)
  /-- a tuple of which the object is known; a tuple whose second part is such a one -/
  | u (x : PyData)
  | u2 (x : PyData)
  /-- a tuple that holds objects -/
  | w (xs : List Wi)
  /-- an exception object held as a value: its class, that class's number, its fields -/
  | xc (cls : Addr) (c : Nat) (f : List (Str × PyData))
inductive Cell where
  | lst (ws : List W)
  | dic (kvs : List (Key × W))
  | fz (x : PyData)
  /-- a dict by tuples; one that is written no more -/
  | dit (kvs : List (List Key × W))
  | fd (kvs : List (List Key × W))
  /-- a dict by tuples of numbers, whatever tuples they are; one that is written no more -/
  | dix (kvs : List (List Int × W))
  | fdx (kvs : List (List Int × W))
abbrev Sto := List Cell
structure Exn where
  c : Nat
  f : List (Str × PyData)
inductive Out (α : Type) where
  | ok (a : α) (S : Sto)
  | ex (e : Exn) (S : Sto)
  | bad
abbrev Slt := List (Option W)
abbrev Fe (α : Type) := Slt → Sto → Out α
def Out.bind {α β : Type} (r : Out α) (k : α → Sto → Out β) : Out β := match r with
  | .ok a S => k a S
  | .ex e S => .ex e S
  | .bad => .bad
def ofO {α : Type} (r : Option (α × Sto)) : Out α := match r with
  | some (a, S) => .ok a S
  | none => .bad

@[simp] theorem bind_ok {α β : Type} (a : α) (S : Sto) (k : α → Sto → Out β) : (Out.ok a S).bind k = k a S := id rfl
@[simp] theorem bind_ex {α β : Type} (e : Exn) (S : Sto) (k : α → Sto → Out β) : (Out.ex e S).bind k = .ex e S := id rfl
@[simp] theorem bind_bad {α β : Type} (k : α → Sto → Out β) : (Out.bad : Out α).bind k = .bad := id rfl
@[simp] theorem ofO_some {α : Type} (a : α) (S : Sto) : ofO (some (a, S)) = .ok a S := id rfl
@[simp] theorem ofO_none {α : Type} : ofO (none : Option (α × Sto)) = .bad := id rfl

/-! ### worlds -/
structure Wd where
  μ : List Addr
  S : Sto
  H : Hp
def Cell.live : Cell → Bool
  | .fz _ => false
  | .fd _ => false
  | .fdx _ => false
  | _ => true
def Wd.live (w : Wd) (a : Addr) : Prop := ∃ (n : Nat) (c : Cell), w.μ[n]? = some a ∧ w.S[n]? = some c ∧ c.live = true
open Classical in
noncomputable def Wd.im (w : Wd) : Hp := fun a => if w.live a then none else match w.H a with
  | some (.tbl _) => none
  | o => o
theorem Wd.im_eq {w : Wd} {a : Addr} (h : ¬ w.live a) (ht : ∀ ps, w.H a ≠ some (.tbl ps)) : w.im a = w.H a := by
  unfold Wd.im
  rw [if_neg h]
  cases e : w.H a with
  | none => rfl
  | some o =>
    cases o <;> first | rfl | exact absurd e (ht _)
theorem Wd.im_some {w : Wd} {a : Addr} {o : HO} (h : w.im a = some o) : w.H a = some o ∧ ¬ w.live a ∧ ∀ ps, o ≠ .tbl ps := by
  unfold Wd.im at h
  by_cases hl : w.live a
  · rw [if_pos hl] at h; cases h
  · rw [if_neg hl] at h
    cases e : w.H a with
    | none => rw [e] at h; cases h
    | some u =>
      rw [e] at h
      cases u <;> first | (cases h; exact ⟨rfl, hl, fun ps q => by cases q⟩) | cases h
theorem Wd.im_of {w : Wd} {a : Addr} {o : HO} (h : w.H a = some o) (hl : ¬ w.live a) (ht : ∀ ps, o ≠ .tbl ps) : w.im a = some o := by
  rw [Wd.im_eq hl (fun ps q => ht ps (Option.some.inj (h.symm.trans q)))]; exact h
theorem im_sub (w : Wd) : Same w.im w.H := fun _ _ h => (Wd.im_some h).1

/-! ### data -/
section
variable {K : PySem.W.Frag} {H H' : Hp}
theorem SqL.mono (h : Same H H') {a : Addr} {xs : List V} (q : SqL K H a xs) : SqL K H' a xs := h.seq q
theorem SqT.mono (h : Same H H') {a : Addr} {xs : List V} (q : SqT K H a xs) : SqT K H' a xs := by
  rcases q with (q | ⟨o, q⟩) | q
  · exact .inl (.inl (h _ _ q))
  · exact .inl (.inr ⟨o, h _ _ q⟩)
  · exact .inr q
mutual
theorem Dp.mono (h : Same H H') : ∀ {v : V} {d : PyData}, Dp K H v d → Dp K H' v d
  | _, _, .non => .non
  | _, _, .bl b => .bl b
  | _, _, .int i => .int i
  | _, _, .str x => .str x
  | _, _, .lst q r => .lst (SqL.mono h q) (DpAll.mono h r)
  | _, _, .tup q r => .tup (SqT.mono h q) (DpAll.mono h r)
theorem DpAll.mono (h : Same H H') : ∀ {v : List V} {d : List PyData}, DpAll K H v d → DpAll K H' v d
  | _, _, .nil => .nil
  | _, _, .cons q r => .cons (Dp.mono h q) (DpAll.mono h r)
end
end
theorem DpAll.paired {K : PySem.W.Frag} {H : Hp} : ∀ {vs : List V} {ds : List PyData}, DpAll K H vs ds → Paired (Dp K H) vs ds
  | _, _, .nil => .nil
  | _, _, .cons q r => .cons q (DpAll.paired r)
theorem DpAll.of {K : PySem.W.Frag} {H : Hp} : ∀ {vs : List V} {ds : List PyData}, Paired (Dp K H) vs ds → DpAll K H vs ds
  | _, _, .nil => .nil
  | _, _, .cons q r => .cons q (DpAll.of r)

/-! ### values in a world -/
def RI (K : PySem.W.Frag) (w : Wd) (v : V) : Wi → Prop
  | .d x => Dp K w.im v x
  | .o n => ∃ a, w.μ[n]? = some a ∧ v = .ref a
/-- an exception object of the class cls at a, its dict d -/
def CtO (cls : Addr) (d : Option Addr) (a : Addr) : HO := .ext fun h => ∃ (oe : Obj) (vs : Array Value), h.get? a = some oe ∧ oe.cls = .ref cls ∧ oe.dict = d ∧ oe.data = .fields vs
def RW (K : PySem.W.Frag) (w : Wd) (v : V) : W → Prop
  | .d x => Dp K w.im v x
  | .o n => ∃ a, w.μ[n]? = some a ∧ v = .ref a
  | .v x => v = x
  | .t x => ∃ b xs ds, v = .ref b ∧ x = .tuple ds ∧ w.im b = some (.tup xs) ∧ DpAll K w.im xs ds
  | .u x => ∃ b xs ds ob, v = .ref b ∧ x = .tuple ds ∧ w.im b = some (.frz ob (.tup xs)) ∧ ob.cls = .type "tuple" ∧ ob.dict = none ∧ DpAll K w.im xs ds
  | .u2 x => ∃ b c v1 d1 ds xs ys ob, v = .ref b ∧ x = .tuple [d1, .tuple ds] ∧ w.im b = some (.tup xs) ∧ xs = [v1, .ref c] ∧ Dp K w.im v1 d1 ∧ w.im c = some (.frz ob (.tup ys)) ∧ ob.cls = .type "tuple" ∧ ob.dict = none ∧ DpAll K w.im ys ds
  | .w xs => ∃ b vs, v = .ref b ∧ w.im b = some (.tup vs) ∧ Paired (RI K w) vs xs
  | .xc cls _ f => ∃ a d, v = .ref a ∧ w.im a = some (CtO cls d a) ∧ (f = [] ∧ d = none ∨ f ≠ [] ∧ ∃ dd us, d = some dd ∧ w.im dd = some (.xd us) ∧ Paired (fun (p : Str × V) (q : Str × PyData) => p.1 = q.1 ∧ Dp K w.im p.2 q.2) us f)
/-- an entry of a dict by tuples of numbers -/
def entX (x : List Int × Addr × Value) : DictEntry := ⟨reduceHash (Builtin.Tuple.tupleHashOf (x.1.map hashInt)), .ref x.2.1, x.2.2⟩
def dxP (a : Addr) (xs : List (List Int × Addr × Value)) (h : Heap) : Prop := ∃ o es ep, h.get? a = some o ∧ o.ExactDict ∧ o.data = .dict es ep ∧ es.toList = xs.map entX ∧ (xs.map (·.1)).Nodup
def XE (K : PySem.W.Frag) (w : Wd) (x : List Int × Addr × Value) (q : List Int × W) : Prop := x.1 = q.1 ∧ SqT K w.im x.2.1 (q.1.map V.int) ∧ ∃ v, RelV v x.2.2 ∧ RW K w v q.2
def CellOk (K : PySem.W.Frag) (w : Wd) (a : Addr) : Cell → Prop
  | .lst ws => ∃ vs, w.H a = some (.lst vs) ∧ Paired (RW K w) vs ws
  | .dic kvs => ∃ us, w.H a = some (.dK us) ∧ Paired (fun (p : Key × V) (q : Key × W) => p.1 = q.1 ∧ RW K w p.2 q.2) us kvs
  | .fz x => ∃ vs ds, x = .list ds ∧ w.H a = some (.lst vs) ∧ DpAll K w.im vs ds
  | .dit kvs => ∃ us, w.H a = some (.dT us) ∧ Paired (fun (p : List Key × V) (q : List Key × W) => p.1 = q.1 ∧ RW K w p.2 q.2) us kvs
  | .fd kvs => ∃ o us, w.H a = some (.frz o (.dT us)) ∧ Paired (fun (p : List Key × V) (q : List Key × W) => p.1 = q.1 ∧ RW K w p.2 q.2) us kvs
  | .dix kvs => ∃ xs, w.H a = some (.ext (dxP a xs)) ∧ (a == sysModules) = false ∧ xs.length ≤ 1000000 ∧ Paired (XE K w) xs kvs
  | .fdx kvs => ∃ o xs, w.H a = some (.frz o (.ext (dxP a xs))) ∧ (a == sysModules) = false ∧ xs.length ≤ 1000000 ∧ Paired (XE K w) xs kvs
structure Wd.le (w w1 : Wd) : Prop where
  im : Same w.im w1.im
  pre : ∃ ν, w1.μ = w.μ ++ ν
theorem Wd.le.refl (w : Wd) : w.le w := ⟨Same.refl _, [], by simp⟩
theorem Wd.le.trans {w w1 w2 : Wd} (a : w.le w1) (b : w1.le w2) : w.le w2 := by
  obtain ⟨ν, e⟩ := a.pre
  obtain ⟨ν', e'⟩ := b.pre
  exact ⟨a.im.trans b.im, ν ++ ν', by rw [e', e, List.append_assoc]⟩
/-- what the proof of a program knows besides: where its classes stand, what must hold of the heap always -/
structure Gm where
  ca : Nat → Addr
  ok : Hp → Prop
  upd : ∀ H p o, (H p = none ∨ (∃ xs, H p = some (.lst xs)) ∨ (∃ kvs, H p = some (.dK kvs)) ∨ (∃ kvs, H p = some (.dT kvs)) ∨ (∃ xs, H p = some (.ext (dxP p xs)))) → ok H → ok (L2.upd H p o)
  /-- what holds of the worlds from some world on -/
  sub : Wd → Prop
  mono : ∀ w w1 : Wd, sub w → w.le w1 → sub w1
structure Good (Γ : Gm) (K : PySem.W.Frag) (w : Wd) : Prop where
  len : w.μ.length = w.S.length
  inj : w.μ.Nodup
  tr : ∀ a ∈ w.μ, ∃ o, w.H a = some o
  cell : ∀ (n : Nat) (a : Addr) (c : Cell), w.μ[n]? = some a → w.S[n]? = some c → CellOk K w a c
  side : Γ.ok w.H
  hold : Γ.sub w
theorem Wd.le.at {w w1 : Wd} (h : w.le w1) {n : Nat} {a : Addr} (e : w.μ[n]? = some a) : w1.μ[n]? = some a := by
  obtain ⟨ν, q⟩ := h.pre
  rw [q]
  have hn := (List.getElem?_eq_some_iff.mp e).1
  rw [List.getElem?_append_left hn]; exact e
section
variable {K : PySem.W.Frag} {w w1 : Wd}
theorem Paired.imp {α β : Type} {F G : α → β → Prop} (h : ∀ a b, F a b → G a b) : ∀ {l : List α} {m : List β}, Paired F l m → Paired G l m
  | _, _, .nil => .nil
  | _, _, .cons q r => .cons (h _ _ q) (Paired.imp h r)
theorem RI.mono (h : w.le w1) {v : V} : ∀ {x : Wi}, RI K w v x → RI K w1 v x
  | .d _, r => Dp.mono h.im r
  | .o _, ⟨a, e, q⟩ => ⟨a, h.at e, q⟩
theorem RW.mono (h : w.le w1) {v : V} : ∀ {x : W}, RW K w v x → RW K w1 v x
  | .d _, r => Dp.mono h.im r
  | .o _, ⟨a, e, q⟩ => ⟨a, h.at e, q⟩
  | .v _, r => r
  | .t _, ⟨b, xs, ds, e1, e2, q, r⟩ => ⟨b, xs, ds, e1, e2, h.im _ _ q, DpAll.mono h.im r⟩
  | .u _, ⟨b, xs, ds, ob, e1, e2, q, c, d, r⟩ => ⟨b, xs, ds, ob, e1, e2, h.im _ _ q, c, d, DpAll.mono h.im r⟩
  | .u2 _, ⟨b, c, v1, d1, ds, xs, ys, ob, e1, e2, q, e3, q1, q2, c1, c2, r⟩ => ⟨b, c, v1, d1, ds, xs, ys, ob, e1, e2, h.im _ _ q, e3, Dp.mono h.im q1, h.im _ _ q2, c1, c2, DpAll.mono h.im r⟩
  | .w _, ⟨b, vs, e1, q, r⟩ => ⟨b, vs, e1, h.im _ _ q, Paired.imp (fun _ _ z => RI.mono h z) r⟩
  | .xc _ _ _, ⟨a, d, e1, q, r⟩ => ⟨a, d, e1, h.im _ _ q, r.imp id fun ⟨hn, dd, us, e2, q2, r2⟩ => ⟨hn, dd, us, e2, h.im _ _ q2, Paired.imp (fun _ _ z => ⟨z.1, Dp.mono h.im z.2⟩) r2⟩⟩
theorem RW.unt {v : V} {x : PyData} : RW K w v (.t x) → RW K w v (.d x)
  | ⟨_, _, _, e1, e2, q, r⟩ => by
    subst e1 e2
    exact Dp.tup (.inl (.inl q)) r
theorem RW.unu {v : V} {x : PyData} : RW K w v (.u x) → RW K w v (.d x)
  | ⟨_, _, _, _, e1, e2, q, _, _, r⟩ => by
    subst e1 e2
    exact Dp.tup (.inl (.inr ⟨_, q⟩)) r
theorem RW.unu2 {v : V} {x : PyData} : RW K w v (.u2 x) → RW K w v (.d x)
  | ⟨_, _, _, _, _, _, _, _, e1, e2, q, e3, q1, q2, _, _, r⟩ => by
    subst e1 e2 e3
    exact Dp.tup (.inl (.inl q)) (.cons q1 (.cons (Dp.tup (.inl (.inr ⟨_, q2⟩)) r) .nil))
abbrev RWs (K : PySem.W.Frag) (w : Wd) : List V → List W → Prop := Paired (RW K w)
theorem RWs.mono (h : w.le w1) {vs : List V} {xs : List W} (r : RWs K w vs xs) : RWs K w1 vs xs := Paired.imp (fun _ _ q => RW.mono h q) r
end
/-- an exception by its class and its fields -/
def RX (Γ : Gm) (K : PySem.W.Frag) (w : Wd) (cls : Value) (d : Option Addr) (e : Exn) : Prop :=
  cls = .ref (Γ.ca e.c) ∧ match e.f with
    | [] => d = none
    | fs => ∃ dd us, d = some dd ∧ w.im dd = some (.xd us) ∧ Paired (fun (p : Str × V) (q : Str × PyData) => p.1 = q.1 ∧ Dp K w.im p.2 q.2) us fs

/-! ### what a function's outcome asks -/
section
variable {α β : Type}
def Post (Γ : Gm) (K : PySem.W.Frag) (R : Wd → β → α → Prop) (w : Wd) (σ : St) (Z : WX) (r : Out α) (Q : β → Hp → Prop) : Prop := match r with
  | .ok x S' => ∀ w1 v, w1.S = S' → w.le w1 → Good Γ K w1 → R w1 v x → Q v w1.H
  | .ex e S' => ∀ w1 cls d, w1.S = S' → w.le w1 → Good Γ K w1 → RX Γ K w1 cls d e → Z cls d σ w1.H
  | .bad => False
variable {Γ : Gm} {K : PySem.W.Frag} {R : Wd → β → α → Prop} {w w1 : Wd} {σ : St} {Z : WX} {r : Out α} {Q Q' : β → Hp → Prop}
theorem Post.mono (h : w.le w1) (p : Post Γ K R w σ Z r Q) : Post Γ K R w1 σ Z r Q := by
  cases r with
  | ok x S' => exact fun w2 v e l g q => p w2 v e (h.trans l) g q
  | ex e S' => exact fun w2 c d e l g q => p w2 c d e (h.trans l) g q
  | bad => exact p
theorem Post.imp (p : Post Γ K R w σ Z r Q) (h : ∀ v H, Q v H → Q' v H) : Post Γ K R w σ Z r Q' := by
  cases r with
  | ok x S' => exact fun w2 v e l g q => h _ _ (p w2 v e l g q)
  | ex e S' => exact p
  | bad => exact p
theorem Post.bind {γ δ : Type} {R' : Wd → δ → γ → Prop} {k : α → Sto → Out γ} {Q' : δ → Hp → Prop} (p : Post Γ K R' w σ Z (r.bind k) Q') :
    Post Γ K R w σ Z r fun v H1 => ∃ w1 x, w1.H = H1 ∧ Good Γ K w1 ∧ w.le w1 ∧ R w1 v x ∧ Post Γ K R' w1 σ Z (k x w1.S) Q' := by
  cases r with
  | ok x S' =>
    intro w1 v e l g q
    refine ⟨w1, x, rfl, g, l, q, ?_⟩
    subst e
    exact Post.mono l p
  | ex e S' => exact p
  | bad => exact p
theorem Post.use {x : α} {v : β} (p : Post Γ K R w σ Z (.ok x w.S) Q) (G : Good Γ K w) (h : R w v x) : Q v w.H := p w v rfl (Wd.le.refl w) G h
end
/-- the slots -/
structure Slots (K : PySem.W.Frag) (w : Wd) (σ : St) (ρ : Slt) : Prop where
  len : ρ.length = σ.length
  val : ∀ (i : Nat) (x : W), ρ[i]? = some (some x) → ∃ v, σ[i]? = some (some v) ∧ RW K w v x
theorem Slots.mono {K : PySem.W.Frag} {w w1 : Wd} {σ : St} {ρ : Slt} (h : w.le w1) (s : Slots K w σ ρ) : Slots K w1 σ ρ :=
  ⟨s.len, fun i x e => let ⟨v, a, b⟩ := s.val i x e; ⟨v, a, RW.mono h b⟩⟩
theorem Slots.set {K : PySem.W.Frag} {w : Wd} {σ : St} {ρ : Slt} (s : Slots K w σ ρ) {v : V} {x : W} (r : RW K w v x) (i : Nat) : Slots K w (σ.set i (some v)) (ρ.set i (some x)) := by
  refine ⟨by simp [s.len], fun j y e => ?_⟩
  by_cases h : i = j
  · subst h
    have hl : i < ρ.length := by
      have := (List.getElem?_eq_some_iff.mp e).1
      simpa using this
    rw [List.getElem?_set_self hl] at e
    cases e
    exact ⟨v, by rw [List.getElem?_set_self (by rw [← s.len]; exact hl)], r⟩
  · rw [List.getElem?_set_ne h] at e ⊢
    exact s.val j y e
theorem Slots.unset {K : PySem.W.Frag} {w : Wd} {σ : St} {ρ : Slt} (s : Slots K w σ ρ) (i : Nat) : Slots K w (σ.set i none) (ρ.set i none) := by
  refine ⟨by simp [s.len], fun j y e => ?_⟩
  by_cases h : i = j
  · subst h
    have hl : i < ρ.length := by
      have := (List.getElem?_eq_some_iff.mp e).1
      simpa using this
    rw [List.getElem?_set_self hl] at e
    cases e
  · rw [List.getElem?_set_ne h] at e ⊢
    exact s.val j y e

/-! ### judgements -/
def liftR {α β : Type} (Γ : Gm) (K : PySem.W.Frag) (Z : WX) (R : Wd → β → α → Prop) (f : Fe α) : St → Hp → (β → Hp → Prop) → Prop :=
  fun σ H Q => ∃ w ρ, w.H = H ∧ Good Γ K w ∧ Slots K w σ ρ ∧ Post Γ K R w σ Z (f ρ w.S) Q
def RB (_ : Wd) (b : Bool) (c : Bool) : Prop := b = c
structure VE (Γ : Gm) (X : Cx) (Z : WX) (e : Expr) (f : Fe W) : Prop where
  pe : PE X e (liftR Γ X.K Z (RW X.K) f)
structure VT (Γ : Gm) (X : Cx) (Z : WX) (e : Expr) (f : Fe Bool) : Prop where
  pt : PT X e (liftR Γ X.K Z RB f)
structure VW (Γ : Gm) (X : Cx) (Z : WX) (e : Expr) (f : Fe Bool) : Prop where
  pw : PW X e (liftR Γ X.K Z RB f)
structure VA (Γ : Gm) (X : Cx) (Z : WX) (es : List Expr) (f : Fe (List W)) : Prop where
  pa : PA X es (liftR Γ X.K Z (RWs X.K) f)
theorem PE.mono {X : Cx} {e : Expr} {t t' : TE} (h : PE X e t) (i : ∀ σ H Q, t' σ H Q → t σ H Q) : PE X e t' := ⟨fun pins s σ H Q I q => h.run pins s σ H Q I (i _ _ _ q)⟩
theorem PT.mono {X : Cx} {e : Expr} {t t' : TT} (h : PT X e t) (i : ∀ σ H Q, t' σ H Q → t σ H Q) : PT X e t' := ⟨fun pins s σ H Q I q => h.run pins s σ H Q I (i _ _ _ q)⟩
theorem PW.mono {X : Cx} {e : Expr} {t t' : TT} (h : PW X e t) (i : ∀ σ H Q, t' σ H Q → t σ H Q) : PW X e t' := ⟨fun wh pins s σ H Q I q => h.run wh pins s σ H Q I (i _ _ _ q)⟩
theorem PA.mono {X : Cx} {e : List Expr} {t t' : TA} (h : PA X e t) (i : ∀ σ H Q, t' σ H Q → t σ H Q) : PA X e t' := ⟨fun pos pins s σ H Q I q => h.run pos pins s σ H Q I (i _ _ _ q)⟩
theorem PS.mono {X : Cx} {e : Stmt} {t t' : TS} (h : PS X e t) (i : ∀ D σ H, t' D σ H → t D σ H) : PS X e t' := ⟨fun pins s σ H D I q => h.run pins s σ H D I (i _ _ _ q)⟩
theorem PSs.mono {X : Cx} {e : List Stmt} {t t' : TS} (h : PSs X e t) (i : ∀ D σ H, t' D σ H → t D σ H) : PSs X e t' := ⟨fun pins s σ H D I q => h.run pins s σ H D I (i _ _ _ q)⟩
/-- sequencing inside a reading -/
theorem liftR.bind {α β γ δ : Type} {Γ : Gm} {K : PySem.W.Frag} {Z : WX} {R : Wd → β → α → Prop} {R' : Wd → δ → γ → Prop} {f : Fe α} {k : α → Fe γ} {σ : St} {H : Hp} {Q : δ → Hp → Prop}
    (h : liftR Γ K Z R' (fun ρ S => (f ρ S).bind fun x S1 => k x ρ S1) σ H Q) :
    liftR Γ K Z R f σ H fun v H1 => ∃ x w1 ρ, w1.H = H1 ∧ Good Γ K w1 ∧ Slots K w1 σ ρ ∧ R w1 v x ∧ Post Γ K R' w1 σ Z (k x ρ w1.S) Q := by
  obtain ⟨w, ρ, e, G, s, p⟩ := h
  refine ⟨w, ρ, e, G, s, ?_⟩
  have q := Post.bind (R := R) p
  refine q.imp fun v H1 ⟨w1, x, e1, g1, l, r, p1⟩ => ⟨x, w1, ρ, e1, g1, s.mono l, r, p1⟩
theorem liftR.imp {α β : Type} {Γ : Gm} {K : PySem.W.Frag} {Z : WX} {R : Wd → β → α → Prop} {f : Fe α} {σ : St} {H : Hp} {Q Q' : β → Hp → Prop}
    (h : liftR Γ K Z R f σ H Q) (i : ∀ v H, Q v H → Q' v H) : liftR Γ K Z R f σ H Q' := by
  obtain ⟨w, ρ, e, G, s, p⟩ := h
  exact ⟨w, ρ, e, G, s, p.imp i⟩

/-! ### names, constants -/
section
variable {Γ : Gm} {X : Cx} {Z : WX} {pos : Pos}
def fVar (i : Nat) : Fe W := fun ρ S => match ρ[i]? with
  | some (some x) => .ok x S
  | _ => .bad
theorem ve_var (i : Nat) {x : Str} (hN : X.N[i]? = some x := by rfl) (hv : Vis X.env.scope x := by first | exact Or.inl rfl | exact Or.inr (Or.inl rfl) | exact Or.inr (Or.inr rfl)) (hd : (x == ("__debug__" : Str)) = false := by decide)
    (hcd : (x == ("__classdict__" : Str)) = false := by decide) : VE Γ X Z (.Name x pos) (fVar i) := by
  refine ⟨PE.mono (pe_var hN hv hd hcd) fun σ H Q h => ?_⟩
  obtain ⟨w, ρ, rfl, G, s, p⟩ := h
  unfold fVar at p
  split at p
  · rename_i y e
    obtain ⟨v, e1, r⟩ := s.val i y e
    exact ⟨v, e1, p.use G r⟩
  · exact p.elim
def fC (x : W) : Fe W := fun _ S => .ok x S
theorem ve_int {i j} : VE Γ X Z (.Constant (.int i) j pos) (fC (.d (.int i))) := ⟨PE.mono pe_int fun σ H Q ⟨w, ρ, e, G, s, p⟩ => by subst e; exact p.use G (Dp.int i)⟩
theorem ve_bl {i j} : VE Γ X Z (.Constant (.bool i) j pos) (fC (.d (.bool i))) := ⟨PE.mono pe_bl fun σ H Q ⟨w, ρ, e, G, s, p⟩ => by subst e; exact p.use G (Dp.bl i)⟩
theorem ve_non {j} : VE Γ X Z (.Constant .none j pos) (fC (.d .none)) := ⟨PE.mono pe_non fun σ H Q ⟨w, ρ, e, G, s, p⟩ => by subst e; exact p.use G Dp.non⟩
theorem ve_str {i j} : VE Γ X Z (.Constant (.str i) j pos) (fC (.d (.str i))) := ⟨PE.mono pe_str fun σ H Q ⟨w, ρ, e, G, s, p⟩ => by subst e; exact p.use G (Dp.str i)⟩
/-- a module's constant that is data -/
structure GlD (K : PySem.W.Frag) (mg : Str → Option Value) (x : Str) (d : PyData) : Prop where
  ex : ∃ v u, mg x = some u ∧ RelV v u ∧ ∀ H, Dp K H v d
theorem ve_glob {x : Str} {d : PyData} (h : GlD X.K X.mg x d) (hg : Gl X x := by rfl) (hd : (x == ("__debug__" : Str)) = false := by decide) : VE Γ X Z (.Name x pos) (fC (.d d)) := by
  obtain ⟨v, u, hm, r, q⟩ := h.ex
  exact ⟨PE.mono (pe_glob hg hm r hd) fun σ H Q ⟨w, ρ, e, G, s, p⟩ => by subst e; exact p.use G (show Dp X.K w.im v d from q _)⟩

/-! ### arguments -/
def fNil : Fe (List W) := fun _ S => .ok [] S
def fCons (f : Fe W) (g : Fe (List W)) : Fe (List W) := fun ρ S => (f ρ S).bind fun x S1 => (g ρ S1).bind fun xs S2 => .ok (x :: xs) S2
theorem va_nil : VA Γ X Z [] fNil := ⟨PA.mono pa_nil fun σ H Q ⟨w, ρ, e, G, s, p⟩ => by subst e; exact p.use G Paired.nil⟩
/-- two parts, one behind the other -/
theorem seq2 {α β γ δ ε ζ : Type} {K : PySem.W.Frag} {R : Wd → β → α → Prop} {R1 : Wd → δ → γ → Prop} {R2 : Wd → ζ → ε → Prop} (mono : ∀ w w1 v x, Wd.le w w1 → R w v x → R w1 v x) {f : Fe α} {g : Fe γ} {k : α → γ → Sto → Out ε} {σ : St} {H : Hp} {Q : ζ → Hp → Prop}
    (h : liftR Γ K Z R2 (fun ρ S => (f ρ S).bind fun x S1 => (g ρ S1).bind fun y S2 => k x y S2) σ H Q) :
    liftR Γ K Z R f σ H fun v H1 => liftR Γ K Z R1 g σ H1 fun u H2 => ∃ x y w, w.H = H2 ∧ Good Γ K w ∧ R w v x ∧ R1 w u y ∧ Post Γ K R2 w σ Z (k x y w.S) Q := by
  refine (liftR.bind (k := fun x ρ S1 => (g ρ S1).bind fun y S2 => k x y S2) h).imp fun v H1 ⟨x, w1, ρ, e1, G1, s1, r1, p1⟩ => ?_
  refine ⟨w1, ρ, e1, G1, s1, ?_⟩
  refine (Post.bind (R := R1) p1).imp fun u H2 ⟨w2, y, e2, G2, l, r2, p2⟩ => ?_
  exact ⟨x, y, w2, e2, G2, mono _ _ _ _ l r1, r2, p2⟩
theorem seq1 {α β γ δ : Type} {K : PySem.W.Frag} {R : Wd → β → α → Prop} {R2 : Wd → δ → γ → Prop} {f : Fe α} {k : α → Sto → Out γ} {σ : St} {H : Hp} {Q : δ → Hp → Prop}
    (h : liftR Γ K Z R2 (fun ρ S => (f ρ S).bind fun x S1 => k x S1) σ H Q) :
    liftR Γ K Z R f σ H fun v H1 => ∃ x w, w.H = H1 ∧ Good Γ K w ∧ R w v x ∧ Post Γ K R2 w σ Z (k x w.S) Q :=
  (liftR.bind (k := fun x _ S1 => k x S1) h).imp fun v H1 ⟨x, w1, ρ, e1, G1, s1, r1, p1⟩ => ⟨x, w1, e1, G1, r1, p1⟩
theorem va_cons {e : Expr} {es : List Expr} {f : Fe W} {g : Fe (List W)} (ha : VE Γ X Z e f) (hr : VA Γ X Z es g) (hs : starEach (e :: es) X.env = (false, eval e X.env) :: starEach es X.env := by rfl) : VA Γ X Z (e :: es) (fCons f g) := by
  refine ⟨PA.mono (pa_cons ha.pe hr.pa hs) fun σ H Q h => ?_⟩
  refine liftR.imp (seq2 (R := RW X.K) (R1 := RWs X.K) (k := fun x xs S => .ok (x :: xs) S) (fun _ _ _ _ l r => RW.mono l r) h) fun v H1 h1 => ?_
  refine liftR.imp h1 fun vs H2 ⟨x, xs, w, e, G, r, rs, p⟩ => ?_
  subst e
  exact p.use G (Paired.cons r rs)

/-! ### tests -/
def truth : W → Option Bool
  | .d (.bool b) => some b
  | _ => none
def fTru (f : Fe W) : Fe Bool := fun ρ S => (f ρ S).bind fun x S1 => ofO ((truth x).map fun b => (b, S1))
theorem vt_val {e : Expr} {f : Fe W} (h : VE Γ X Z e f) (he : ∀ whole, isTrue e X.env whole = (do let v ← whole; standAt e.pos; holding [v] (truthy v)) := by intro _; rfl) : VT Γ X Z e (fTru f) := by
  refine ⟨PT.mono (pt_val h.pe he) fun σ H Q q => ?_⟩
  refine liftR.imp (seq1 q) fun v H1 ⟨x, w, e, G, r, p⟩ => ?_
  subst e
  cases x with
  | d x =>
    cases x with
    | bool b => cases (show Dp X.K w.im v (.bool b) from r); exact ⟨b, rfl, p.use G rfl⟩
    | _ => exact p.elim
  | o n => exact p.elim
  | v n => exact p.elim
  | t n => exact p.elim
  | u n => exact p.elim
  | u2 n => exact p.elim
  | w n => exact p.elim
  | xc a b c => exact p.elim
def fNot (f : Fe Bool) : Fe Bool := fun ρ S => (f ρ S).bind fun b S1 => .ok (!b) S1
theorem vt_not {e : Expr} {f : Fe Bool} (h : VT Γ X Z e f) : VT Γ X Z (.UnaryOp .Not e pos) (fNot f) := by
  refine ⟨PT.mono (pt_not h.pt) fun σ H Q q => ?_⟩
  refine liftR.imp (seq1 q) fun v H1 ⟨x, w, e, G, r, p⟩ => ?_
  subst e
  cases (show v = x from r)
  exact p.use G rfl
def fAnd (f g : Fe Bool) : Fe Bool := fun ρ S => (f ρ S).bind fun b S1 => if b = true then g ρ S1 else .ok false S1
def fOr (f g : Fe Bool) : Fe Bool := fun ρ S => (f ρ S).bind fun b S1 => if b = true then .ok true S1 else g ρ S1
theorem vw_and1 {a : Expr} {f : Fe Bool} (h : VT Γ X Z a f) : VW Γ X Z (.BoolOp .And [a] pos) f := ⟨pw_and1 h.pt⟩
theorem vw_or1 {a : Expr} {f : Fe Bool} (h : VT Γ X Z a f) : VW Γ X Z (.BoolOp .Or [a] pos) f := ⟨pw_or1 h.pt⟩
theorem vw_and {a b : Expr} {rest : List Expr} {f g : Fe Bool} (ha : VT Γ X Z a f) (hb : VW Γ X Z (.BoolOp .And (b :: rest) pos) g) : VW Γ X Z (.BoolOp .And (a :: b :: rest) pos) (fAnd f g) := by
  refine ⟨PW.mono (pw_and ha.pt hb.pw) fun σ H Q q => ?_⟩
  refine liftR.imp (liftR.bind (k := fun b ρ S1 => if b = true then g ρ S1 else .ok false S1) q) fun v H1 ⟨x, w, ρ, e, G, s, r, p⟩ => ?_
  subst e
  cases (show v = x from r)
  cases v with
  | true => exact ⟨w, ρ, rfl, G, s, p⟩
  | false => exact Post.use p G rfl
theorem vw_or {a b : Expr} {rest : List Expr} {f g : Fe Bool} (ha : VT Γ X Z a f) (hb : VW Γ X Z (.BoolOp .Or (b :: rest) pos) g) : VW Γ X Z (.BoolOp .Or (a :: b :: rest) pos) (fOr f g) := by
  refine ⟨PW.mono (pw_or ha.pt hb.pw) fun σ H Q q => ?_⟩
  refine liftR.imp (liftR.bind (k := fun b ρ S1 => if b = true then .ok true S1 else g ρ S1) q) fun v H1 ⟨x, w, ρ, e, G, s, r, p⟩ => ?_
  subst e
  cases (show v = x from r)
  cases v with
  | true => exact Post.use p G rfl
  | false => exact ⟨w, ρ, rfl, G, s, p⟩
theorem VW.vt {e : Expr} {f : Fe Bool} (h : VW Γ X Z e f) : VT Γ X Z e f := ⟨h.pw.pt⟩
end
end G
set_option Elab.async false
set_option linter.all false
set_option maxRecDepth 100000
set_option maxHeartbeats 4000000
/-! G2: how worlds change; freezing; sequences -/
namespace G
open PySem PySem.Spec L2
set_option autoImplicit false
section
variable {Γ : Gm} {K : PySem.W.Frag} {w : Wd} {p a : Addr} {o : HO} {n : Nat} {c c' : Cell}
theorem XE.mono {w1 : Wd} (h : w.le w1) {x : List Int × Addr × Value} {q : List Int × W} (z : XE K w x q) : XE K w1 x q := by
  obtain ⟨e1, e2, v, e3, e4⟩ := z
  exact ⟨e1, SqT.mono h.im e2, v, e3, RW.mono h e4⟩
theorem CellOk.mono {w1 : Wd} (h : w.le w1) (e : w1.H a = w.H a) : ∀ {c : Cell}, CellOk K w a c → CellOk K w1 a c
  | .lst ws, ⟨vs, q, r⟩ => ⟨vs, e.trans q, RWs.mono h r⟩
  | .dic kvs, ⟨us, q, r⟩ => ⟨us, e.trans q, Paired.imp (fun _ _ z => ⟨z.1, RW.mono h z.2⟩) r⟩
  | .fz x, ⟨vs, ds, e1, q, r⟩ => ⟨vs, ds, e1, e.trans q, DpAll.mono h.im r⟩
  | .dit kvs, ⟨us, q, r⟩ => ⟨us, e.trans q, Paired.imp (fun _ _ z => ⟨z.1, RW.mono h z.2⟩) r⟩
  | .fd kvs, ⟨o, us, q, r⟩ => ⟨o, us, e.trans q, Paired.imp (fun _ _ z => ⟨z.1, RW.mono h z.2⟩) r⟩
  | .dix kvs, ⟨xs, q, m, l, r⟩ => ⟨xs, e.trans q, m, l, Paired.imp (fun _ _ z => XE.mono h z) r⟩
  | .fdx kvs, ⟨o, xs, q, m, l, r⟩ => ⟨o, xs, e.trans q, m, l, Paired.imp (fun _ _ z => XE.mono h z) r⟩
theorem Good.nin (G : Good Γ K w) (hp : w.H p = none) : p ∉ w.μ := fun h => by
  obtain ⟨o, e⟩ := G.tr p h
  rw [hp] at e; cases e
theorem live_mem {a : Addr} (h : w.live a) : a ∈ w.μ := let ⟨n, _, e, _⟩ := h; List.mem_of_getElem? e
theorem Good.uniq (G : Good Γ K w) {m : Nat} (h1 : w.μ[n]? = some a) (h2 : w.μ[m]? = some a) : n = m := by
  have hn := (List.getElem?_eq_some_iff.mp h1).1
  exact (List.getElem?_inj hn G.inj).mp (h1.trans h2.symm)
theorem Good.live_iff (G : Good Γ K w) (h1 : w.μ[n]? = some a) (h2 : w.S[n]? = some c) : w.live a ↔ c.live = true := by
  constructor
  · rintro ⟨m, d, e1, e2, e3⟩
    have := G.uniq h1 e1
    subst this
    rw [h2] at e2; cases e2; exact e3
  · intro h; exact ⟨n, c, h1, h2, h⟩
/-- a new object that never changes -/
theorem Good.new (G : Good Γ K w) (hp : w.H p = none) (o : HO) : Good Γ K ⟨w.μ, w.S, upd w.H p o⟩ ∧ w.le ⟨w.μ, w.S, upd w.H p o⟩ := by
  have le : w.le ⟨w.μ, w.S, upd w.H p o⟩ := by
    refine ⟨fun b u e => ?_, [], by simp⟩
    obtain ⟨e1, e2, e3⟩ := Wd.im_some e
    exact Wd.im_of (w := ⟨w.μ, w.S, upd w.H p o⟩) (by show upd w.H p o b = _; rw [upd_ne (ne_of_none e1 hp)]; exact e1) e2 e3
  refine ⟨⟨G.len, G.inj, fun b hb => ?_, fun m b d e1 e2 => ?_, Γ.upd _ _ _ (.inl hp) G.side, Γ.mono _ _ G.hold le⟩, le⟩
  · obtain ⟨u, e⟩ := G.tr b hb
    exact ⟨u, by show upd w.H p o b = _; rw [upd_ne (ne_of_none e hp)]; exact e⟩
  · obtain ⟨u, e⟩ := G.tr b (List.mem_of_getElem? e1)
    exact CellOk.mono le (upd_ne (ne_of_none e hp)) (G.cell m b d e1 e2)
/-- a new live object -/
theorem Good.alloc (G : Good Γ K w) (hp : w.H p = none) (o : HO) (hc : ∀ w1, w.le w1 → w1.H p = some o → CellOk K w1 p c) (hl : c.live = true) : Good Γ K ⟨w.μ ++ [p], w.S ++ [c], upd w.H p o⟩ ∧ w.le ⟨w.μ ++ [p], w.S ++ [c], upd w.H p o⟩ := by
  have np := G.nin hp
  have le : w.le ⟨w.μ ++ [p], w.S ++ [c], upd w.H p o⟩ := by
    refine ⟨fun b u e => ?_, [p], rfl⟩
    obtain ⟨e1, e2, e3⟩ := Wd.im_some e
    have nb := ne_of_none e1 hp
    refine Wd.im_of (w := ⟨w.μ ++ [p], w.S ++ [c], upd w.H p o⟩) (by show upd w.H p o b = _; rw [upd_ne nb]; exact e1) ?_ e3
    rintro ⟨m, d, q1, q2, q3⟩
    by_cases hm : m < w.μ.length
    · have q1' : w.μ[m]? = some b := by rw [← List.getElem?_append_left (l₂ := [p]) hm]; exact q1
      have q2' : w.S[m]? = some d := by rw [← List.getElem?_append_left (l₂ := [c]) (by rw [← G.len]; exact hm)]; exact q2
      exact e2 ⟨m, d, q1', q2', q3⟩
    · have q1' : [p][m - w.μ.length]? = some b := by rw [← List.getElem?_append_right (by omega)]; exact q1
      have : b ∈ [p] := List.mem_of_getElem? q1'
      exact nb (by simpa using this)
  refine ⟨⟨by simp [G.len], ?_, fun b hb => ?_, fun m b d e1 e2 => ?_, Γ.upd _ _ _ (.inl hp) G.side, Γ.mono _ _ G.hold le⟩, le⟩
  · refine List.nodup_append.mpr ⟨G.inj, by simp, fun x hx y hy => ?_⟩
    have : y = p := by simpa using hy
    subst this
    intro e; subst e; exact np hx
  · rcases List.mem_append.mp hb with hb | hb
    · obtain ⟨u, e⟩ := G.tr b hb
      exact ⟨u, by show upd w.H p o b = _; rw [upd_ne (ne_of_none e hp)]; exact e⟩
    · have : b = p := by simpa using hb
      subst this
      exact ⟨o, upd_same⟩
  · by_cases hm : m < w.μ.length
    · have q1' : w.μ[m]? = some b := by rw [← List.getElem?_append_left (l₂ := [p]) hm]; exact e1
      have q2' : w.S[m]? = some d := by rw [← List.getElem?_append_left (l₂ := [c]) (by rw [← G.len]; exact hm)]; exact e2
      obtain ⟨u, e⟩ := G.tr b (List.mem_of_getElem? q1')
      exact CellOk.mono le (upd_ne (ne_of_none e hp)) (G.cell m b d q1' q2')
    · have q1' : [p][m - w.μ.length]? = some b := by rw [← List.getElem?_append_right (by omega)]; exact e1
      have q2' : [c][m - w.S.length]? = some d := by rw [← List.getElem?_append_right (by rw [← G.len]; omega)]; exact e2
      have h1 : b ∈ [p] := List.mem_of_getElem? q1'
      have h2 : d ∈ [c] := List.mem_of_getElem? q2'
      have h1 : b = p := by simpa using h1
      have h2 : d = c := by simpa using h2
      subst h1 h2
      exact hc _ le upd_same
/-- a live object is written -/
theorem Good.write (G : Good Γ K w) (h1 : w.μ[n]? = some a) (h2 : w.S[n]? = some c) (hl : c.live = true) (o : HO) (hc : ∀ w1, w.le w1 → w1.H a = some o → CellOk K w1 a c') (hl' : c'.live = true) : Good Γ K ⟨w.μ, w.S.set n c', upd w.H a o⟩ ∧ w.le ⟨w.μ, w.S.set n c', upd w.H a o⟩ := by
  have hn := (List.getElem?_eq_some_iff.mp h2).1
  have la : w.live a := ⟨n, c, h1, h2, hl⟩
  have lv : ∀ b, Wd.live ⟨w.μ, w.S.set n c', upd w.H a o⟩ b ↔ w.live b := fun b => by
    constructor
    · rintro ⟨m, d, e1, e2, e3⟩
      by_cases hm : n = m
      · subst hm
        have : b = a := Option.some.inj (e1.symm.trans h1)
        subst this; exact la
      · have e2 : (w.S.set n c')[m]? = some d := e2
        rw [List.getElem?_set_ne hm] at e2
        exact ⟨m, d, e1, e2, e3⟩
    · rintro ⟨m, d, e1, e2, e3⟩
      by_cases hm : n = m
      · subst hm
        exact ⟨n, c', e1, by show (w.S.set n c')[n]? = _; rw [List.getElem?_set_self hn], hl'⟩
      · exact ⟨m, d, e1, by show (w.S.set n c')[m]? = _; rw [List.getElem?_set_ne hm]; exact e2, e3⟩
  have le : w.le ⟨w.μ, w.S.set n c', upd w.H a o⟩ := by
    refine ⟨fun b u e => ?_, [], by simp⟩
    obtain ⟨e1, e2, e3⟩ := Wd.im_some e
    have nb : b ≠ a := fun q => e2 (q ▸ la)
    exact Wd.im_of (w := ⟨w.μ, w.S.set n c', upd w.H a o⟩) (by show upd w.H a o b = _; rw [upd_ne nb]; exact e1) (fun q => e2 ((lv b).mp q)) e3
  have hk : (∃ xs, w.H a = some (.lst xs)) ∨ (∃ kvs, w.H a = some (.dK kvs)) ∨ (∃ kvs, w.H a = some (.dT kvs)) ∨ (∃ xs, w.H a = some (.ext (dxP a xs))) := by
    have q := G.cell n a c h1 h2
    cases c with
    | lst ws => obtain ⟨vs, e, _⟩ := q; exact .inl ⟨_, e⟩
    | dic kvs => obtain ⟨vs, e, _⟩ := q; exact .inr (.inl ⟨_, e⟩)
    | fz x => cases hl
    | dit kvs => obtain ⟨vs, e, _⟩ := q; exact .inr (.inr (.inl ⟨_, e⟩))
    | fd x => cases hl
    | dix kvs => obtain ⟨vs, e, _⟩ := q; exact .inr (.inr (.inr ⟨_, e⟩))
    | fdx x => cases hl
  refine ⟨⟨by simp [G.len], G.inj, fun b hb => ?_, fun m b d e1 e2 => ?_, Γ.upd _ _ _ (.inr hk) G.side, Γ.mono _ _ G.hold le⟩, le⟩
  · by_cases hb' : b = a
    · subst hb'; exact ⟨o, upd_same⟩
    · obtain ⟨u, e⟩ := G.tr b hb
      exact ⟨u, by show upd w.H a o b = _; rw [upd_ne hb']; exact e⟩
  · by_cases hm : n = m
    · subst hm
      have : b = a := Option.some.inj (e1.symm.trans h1)
      subst this
      have e2 : (w.S.set n c')[n]? = some d := e2
      rw [List.getElem?_set_self hn] at e2
      cases e2
      exact hc _ le upd_same
    · have e2 : (w.S.set n c')[m]? = some d := e2
      rw [List.getElem?_set_ne hm] at e2
      have nb : b ≠ a := fun q => hm (G.uniq h1 (q ▸ e1))
      exact CellOk.mono le (upd_ne nb) (G.cell m b d e1 e2)
/-- a live list is frozen -/
theorem Good.freeze (G : Good Γ K w) (h1 : w.μ[n]? = some a) (h2 : ∃ c, w.S[n]? = some c) {vs : List V} {ds : List PyData} (hv : w.H a = some (.lst vs)) (hd : DpAll K w.im vs ds) :
    Good Γ K ⟨w.μ, w.S.set n (.fz (.list ds)), w.H⟩ ∧ w.le ⟨w.μ, w.S.set n (.fz (.list ds)), w.H⟩ ∧ Dp K (Wd.im ⟨w.μ, w.S.set n (.fz (.list ds)), w.H⟩) (.ref a) (.list ds) := by
  obtain ⟨c, h2⟩ := h2
  have hn := (List.getElem?_eq_some_iff.mp h2).1
  have lv : ∀ b, Wd.live ⟨w.μ, w.S.set n (.fz (.list ds)), w.H⟩ b → w.live b ∧ b ≠ a := fun b => by
    rintro ⟨m, d, e1, e2, e3⟩
    by_cases hm : n = m
    · subst hm
      have e2 : (w.S.set n (.fz (.list ds)))[n]? = some d := e2
      rw [List.getElem?_set_self hn] at e2
      cases e2; cases e3
    · have e2 : (w.S.set n (.fz (.list ds)))[m]? = some d := e2
      rw [List.getElem?_set_ne hm] at e2
      exact ⟨⟨m, d, e1, e2, e3⟩, fun q => hm (G.uniq h1 (q ▸ e1))⟩
  have le : w.le ⟨w.μ, w.S.set n (.fz (.list ds)), w.H⟩ := by
    refine ⟨fun b u e => ?_, [], by simp⟩
    obtain ⟨e1, e2, e3⟩ := Wd.im_some e
    exact Wd.im_of (w := ⟨w.μ, w.S.set n (.fz (.list ds)), w.H⟩) e1 (fun q => e2 (lv b q).1) e3
  refine ⟨⟨by simp [G.len], G.inj, G.tr, fun m b d e1 e2 => ?_, G.side, Γ.mono _ _ G.hold le⟩, le, ?_⟩
  · by_cases hm : n = m
    · subst hm
      have : b = a := Option.some.inj (e1.symm.trans h1)
      subst this
      have e2 : (w.S.set n (.fz (.list ds)))[n]? = some d := e2
      rw [List.getElem?_set_self hn] at e2
      cases e2
      exact ⟨vs, ds, rfl, hv, DpAll.mono le.im hd⟩
    · have e2 : (w.S.set n (.fz (.list ds)))[m]? = some d := e2
      rw [List.getElem?_set_ne hm] at e2
      exact CellOk.mono le rfl (G.cell m b d e1 e2)
  · refine .lst (xs := vs) (SqL.of (Wd.im_of (w := ⟨w.μ, w.S.set n (.fz (.list ds)), w.H⟩) hv (fun q => (lv a q).2 rfl) (fun ps q => by cases q))) (DpAll.mono le.im hd)
end

/-! ### freezing -/
def frzL (f : W → Sto → Option (PyData × Sto)) : List W → Sto → Option (List PyData × Sto)
  | [], S => some ([], S)
  | x :: xs, S => match f x S with
    | some (d, S1) => match frzL f xs S1 with
      | some (ds, S2) => some (d :: ds, S2)
      | none => none
    | none => none
def frz : Nat → W → Sto → Option (PyData × Sto)
  | _, .d x, S => some (x, S)
  | 0, .o _, _ => none
  | k + 1, .o n, S => match S[n]? with
    | some (.fz x) => some (x, S)
    | some (.lst ws) => match frzL (frz k) ws S with
      | some (ds, S1) => some (.list ds, S1.set n (.fz (.list ds)))
      | none => none
    | _ => none
  | _, .v _, _ => none
  | _, .t x, S => some (x, S)
  | _, .u x, S => some (x, S)
  | _, .u2 x, S => some (x, S)
  | _, .w _, _ => none
  | _, .xc _ _ _, _ => none
@[simp] theorem frz_t (k : Nat) (x : PyData) (S : Sto) : frz k (.t x) S = some (x, S) := by cases k <;> rfl
@[simp] theorem frz_u (k : Nat) (x : PyData) (S : Sto) : frz k (.u x) S = some (x, S) := by cases k <;> rfl
@[simp] theorem frz_u2 (k : Nat) (x : PyData) (S : Sto) : frz k (.u2 x) S = some (x, S) := by cases k <;> rfl
@[simp] theorem frz_d (k : Nat) (x : PyData) (S : Sto) : frz k (.d x) S = some (x, S) := by cases k <;> rfl
section
variable {Γ : Gm} {K : PySem.W.Frag}
/-- only the store's record of who may write changes -/
structure Frz (Γ : Gm) (K : PySem.W.Frag) (w : Wd) (S' : Sto) : Prop where
  good : Good Γ K ⟨w.μ, S', w.H⟩
  le : w.le ⟨w.μ, S', w.H⟩
theorem frzL_ok {f : W → Sto → Option (PyData × Sto)} (hf : ∀ (w : Wd) (v : V) (x : W) (d : PyData) (S' : Sto), Good Γ K w → RW K w v x → f x w.S = some (d, S') → Frz Γ K w S' ∧ Dp K (Wd.im ⟨w.μ, S', w.H⟩) v d) :
    ∀ (xs : List W) (w : Wd) (vs : List V) (ds : List PyData) (S' : Sto), Good Γ K w → RWs K w vs xs → frzL f xs w.S = some (ds, S') → Frz Γ K w S' ∧ DpAll K (Wd.im ⟨w.μ, S', w.H⟩) vs ds
  | [], w, vs, ds, S', G, r, h => by
    cases r
    cases h
    exact ⟨⟨G, Wd.le.refl _⟩, .nil⟩
  | x :: xs, w, vs, ds, S', G, r, h => by
    cases r with
    | cons r rs =>
      unfold frzL at h
      split at h
      · rename_i d S1 e1
        split at h
        · rename_i ds' S2 e2
          cases h
          obtain ⟨F, q⟩ := hf w _ x d S1 G r e1
          obtain ⟨F2, q2⟩ := frzL_ok hf xs ⟨w.μ, S1, w.H⟩ _ ds' S' F.good (RWs.mono F.le rs) e2
          exact ⟨⟨F2.good, F.le.trans F2.le⟩, .cons (Dp.mono F2.le.im q) q2⟩
        · cases h
      · cases h
theorem frz_ok : ∀ (k : Nat) (w : Wd) (v : V) (x : W) (d : PyData) (S' : Sto), Good Γ K w → RW K w v x → frz k x w.S = some (d, S') → Frz Γ K w S' ∧ Dp K (Wd.im ⟨w.μ, S', w.H⟩) v d
  | k, w, v, .d x, d, S', G, r, h => by
    rw [frz_d] at h
    cases h
    exact ⟨⟨G, Wd.le.refl _⟩, r⟩
  | 0, w, v, .o n, d, S', G, r, h => by cases h
  | k + 1, w, v, .o n, d, S', G, r, h => by
    obtain ⟨a, ha, rfl⟩ := r
    unfold frz at h
    split at h
    · rename_i y e
      cases h
      obtain ⟨vs, ds, e1, q, r⟩ := G.cell n a _ ha e
      subst e1
      refine ⟨⟨G, Wd.le.refl _⟩, .lst (xs := vs) (SqL.of (Wd.im_of q (fun l => ?_) (fun ps z => by cases z))) r⟩
      rw [G.live_iff ha e] at l
      cases l
    · rename_i ws e
      split at h
      · rename_i ds S1 e1
        cases h
        obtain ⟨vs, q, r⟩ := G.cell n a _ ha e
        obtain ⟨F, p⟩ := frzL_ok (frz_ok k) ws w vs ds S1 G r e1
        have hc : ∃ c, S1[n]? = some c := by
          have hn := (List.getElem?_eq_some_iff.mp ha).1
          have : n < S1.length := by rw [← F.good.len]; exact hn
          exact ⟨S1[n], by simp [this]⟩
        obtain ⟨G2, le2, q2⟩ := Good.freeze F.good (n := n) (a := a) ha hc q p
        exact ⟨⟨G2, F.le.trans le2⟩, q2⟩
      · cases h
    · cases h
  | 0, w, v, .v y, d, S', G, r, h => by cases h
  | _ + 1, w, v, .v y, d, S', G, r, h => by cases h
  | k, w, v, .t x, d, S', G, r, h => by
    rw [frz_t] at h
    cases h
    exact ⟨⟨G, Wd.le.refl _⟩, RW.unt r⟩
  | k, w, v, .u x, d, S', G, r, h => by
    rw [frz_u] at h
    cases h
    exact ⟨⟨G, Wd.le.refl _⟩, RW.unu r⟩
  | k, w, v, .u2 x, d, S', G, r, h => by
    rw [frz_u2] at h
    cases h
    exact ⟨⟨G, Wd.le.refl _⟩, RW.unu2 r⟩
  | 0, w, v, .w y, d, S', G, r, h => by cases h
  | _ + 1, w, v, .w y, d, S', G, r, h => by cases h
  | 0, w, v, .xc _ _ _, d, S', G, r, h => by cases h
  | _ + 1, w, v, .xc _ _ _, d, S', G, r, h => by cases h
/-- read as data, nothing written -/
def view (x : W) (S : Sto) : Option PyData := (frz 6 x S).map (·.1)
@[simp] theorem view_d (x : PyData) (S : Sto) : view (.d x) S = some x := rfl
theorem view_ok {w : Wd} {v : V} {x : W} {d : PyData} (G : Good Γ K w) (r : RW K w v x) (h : view x w.S = some d) : Dp K w.H v d := by
  unfold view at h
  cases e : frz 6 x w.S with
  | none => rw [e] at h; cases h
  | some p =>
    obtain ⟨d', S'⟩ := p
    rw [e] at h
    cases h
    obtain ⟨F, q⟩ := frz_ok 6 w v x _ S' G r e
    exact Dp.mono (im_sub ⟨w.μ, S', w.H⟩) q
end

/-! ### sequences -/
def Wi.w : Wi → W
  | .d x => .d x
  | .o n => .o n
theorem ri_rw {K : PySem.W.Frag} {w : Wd} {v : V} : ∀ {x : Wi}, RI K w v x → RW K w v x.w
  | .d _, r => r
  | .o _, r => r
theorem ris_rws {K : PySem.W.Frag} {w : Wd} : ∀ {vs : List V} {xs : List Wi}, Paired (RI K w) vs xs → RWs K w vs (xs.map Wi.w)
  | _, _, .nil => .nil
  | _, _, .cons q r => .cons (ri_rw q) (ris_rws r)
def seqOf (x : W) (S : Sto) : Option (List W) := match x with
  | .d (.tuple ds) => some (ds.map .d)
  | .d (.list ds) => some (ds.map .d)
  | .o n => match S[n]? with
    | some (.lst ws) => some ws
    | some (.fz (.list ds)) => some (ds.map .d)
    | _ => none
  | .w xs => some (xs.map Wi.w)
  | _ => none
section
variable {Γ : Gm} {K : PySem.W.Frag} {w : Wd}
theorem rws_data : ∀ {vs : List V} {ds : List PyData}, DpAll K w.im vs ds → RWs K w vs (ds.map .d)
  | _, _, .nil => .nil
  | _, _, .cons q r => .cons q (rws_data r)
theorem rws_of_data : ∀ {vs : List V} {ds : List PyData}, RWs K w vs (ds.map .d) → DpAll K w.im vs ds
  | _, [], r => by cases r; exact .nil
  | _, _ :: _, r => by
    cases r with
    | cons q r => exact .cons q (rws_of_data r)
theorem seqOf_ok {v : V} {x : W} {ws : List W} (G : Good Γ K w) (r : RW K w v x) (h : seqOf x w.S = some ws) : ∃ a vs, v = .ref a ∧ (SqL K w.H a vs ∨ SqT K w.H a vs) ∧ RWs K w vs ws := by
  unfold seqOf at h
  split at h
  · rename_i ds
    cases h
    cases (show Dp K w.im v (.tuple ds) from r) with
    | tup q r => exact ⟨_, _, rfl, .inr (SqT.mono (im_sub w) q), rws_data r⟩
  · rename_i ds
    cases h
    cases (show Dp K w.im v (.list ds) from r) with
    | lst q r => exact ⟨_, _, rfl, .inl (SqL.mono (im_sub w) q), rws_data r⟩
  · rename_i n
    obtain ⟨a, ha, rfl⟩ := r
    split at h
    · rename_i ws' e
      cases h
      obtain ⟨vs, q, r⟩ := G.cell n a _ ha e
      exact ⟨a, vs, rfl, .inl (SqL.of q), r⟩
    · rename_i ds e
      cases h
      obtain ⟨vs, ds', e1, q, r⟩ := G.cell n a _ ha e
      cases e1
      exact ⟨a, vs, rfl, .inl (SqL.of q), rws_data r⟩
    · cases h
  · rename_i xs
    cases h
    obtain ⟨b, vs, rfl, q, r⟩ := r
    exact ⟨b, vs, rfl, .inr (SqT.of (Wd.im_some q).1), ris_rws r⟩
  · cases h
end
theorem Paired.len {α β : Type} {F : α → β → Prop} : ∀ {l : List α} {m : List β}, Paired F l m → l.length = m.length
  | _, _, .nil => rfl
  | _, _, .cons _ t => by simp [Paired.len t]
theorem Paired.get {α β : Type} {F : α → β → Prop} : ∀ {l : List α} {m : List β} {i : Nat} {y : β}, Paired F l m → m[i]? = some y → ∃ x, l[i]? = some x ∧ F x y
  | _, _, _, _, .nil, h => by simp at h
  | _, _, 0, _, .cons q t, h => by simp at h; subst h; exact ⟨_, rfl, q⟩
  | _, _, i + 1, _, .cons q t, h => by
    obtain ⟨x, h1, h2⟩ := Paired.get t (i := i) (by simpa using h)
    exact ⟨x, by simpa using h1, h2⟩
theorem Paired.app {α β : Type} {F : α → β → Prop} : ∀ {l l' : List α} {m m' : List β}, Paired F l m → Paired F l' m' → Paired F (l ++ l') (m ++ m')
  | _, _, _, _, .nil, s => s
  | _, _, _, _, .cons q t, s => .cons q (Paired.app t s)
theorem Paired.drop {α β : Type} {F : α → β → Prop} : ∀ {l : List α} {m : List β} (k : Nat), Paired F l m → Paired F (l.drop k) (m.drop k)
  | _, _, 0, s => s
  | _, _, _ + 1, .nil => .nil
  | _, _, k + 1, .cons _ t => Paired.drop k t
theorem Paired.take {α β : Type} {F : α → β → Prop} : ∀ {l : List α} {m : List β} (k : Nat), Paired F l m → Paired F (l.take k) (m.take k)
  | _, _, 0, _ => .nil
  | _, _, _ + 1, .nil => .nil
  | _, _, k + 1, .cons q t => .cons q (Paired.take k t)
theorem Paired.set {α β : Type} {F : α → β → Prop} {x : α} {y : β} (h : F x y) : ∀ {l : List α} {m : List β} (k : Nat), Paired F l m → Paired F (l.set k x) (m.set k y)
  | _, _, _, .nil => .nil
  | _, _, 0, .cons _ t => .cons h t
  | _, _, k + 1, .cons q t => .cons q (Paired.set h k t)
theorem Paired.erase {α β : Type} {F : α → β → Prop} : ∀ {l : List α} {m : List β} (k : Nat), Paired F l m → Paired F (l.eraseIdx k) (m.eraseIdx k)
  | _, _, _, .nil => .nil
  | _, _, 0, .cons _ t => t
  | _, _, k + 1, .cons q t => .cons q (Paired.erase k t)
theorem Paired.rep {α β : Type} {F : α → β → Prop} {l : List α} {m : List β} (h : Paired F l m) : ∀ k : Nat, Paired F (List.replicate k l).flatten (List.replicate k m).flatten
  | 0 => .nil
  | k + 1 => by simp only [List.replicate_succ, List.flatten_cons]; exact Paired.app h (Paired.rep h k)
theorem Paired.map_int {K : PySem.W.Frag} {w : Wd} : ∀ {vs : List V} {ns : List Int}, RWs K w vs (ns.map fun i => W.d (.int i)) → vs = ns.map V.int
  | _, [], r => by cases r; rfl
  | _, n :: ns, r => by
    cases r with
    | cons q r =>
      cases (show Dp K w.im _ (.int n) from q)
      rw [Paired.map_int r]; rfl
theorem Paired.atI {α β : Type} {F : α → β → Prop} {l : List α} {m : List β} {i : Int} {y : β} (h : Paired F l m) (e : L2.atI m i = some y) : ∃ x, L2.atI l i = some x ∧ F x y := by
  unfold L2.atI at e ⊢
  rw [Paired.len h]
  cases q : ixN m.length i with
  | none => rw [q] at e; cases e
  | some j => rw [q] at e; exact Paired.get h e
end G
set_option Elab.async false
set_option linter.all false
set_option maxRecDepth 100000
set_option maxHeartbeats 4000000
/-! G3: expressions -/
namespace G
open PySem PySem.Spec L2
set_option autoImplicit false
/-- room for what the operations call -/
def Rm (X : Cx) : Prop := X.A.units + 100 < cLine
theorem rm_of {k : Nat} {X : Cx} (h : Room k X.A) : Rm X := by have := h.un; unfold Rm; omega
/-! ### new and changed objects, as an outcome asks -/
section
variable {Γ : Gm} {K : PySem.W.Frag} {w : Wd} {σ : L2.St} {Z : WX} {Q : VK}
theorem Post.tup {ds : List PyData} {vs : List V} (P : Post Γ K (RW K) w σ Z (.ok (.d (.tuple ds)) w.S) Q) (G : Good Γ K w) (hd : DpAll K w.im vs ds) (p : Addr) (hp : w.H p = none) : Q (.ref p) (upd w.H p (.tup vs)) := by
  obtain ⟨G1, le⟩ := G.new hp (.tup vs)
  refine P ⟨w.μ, w.S, upd w.H p (.tup vs)⟩ (.ref p) rfl le G1 ?_
  exact Dp.tup (SqT.of (Wd.im_of (w := ⟨w.μ, w.S, upd w.H p (.tup vs)⟩) upd_same (fun l => G.nin hp (live_mem (w := ⟨w.μ, w.S, upd w.H p (.tup vs)⟩) l)) (fun ps q => by cases q))) (DpAll.mono le.im hd)
theorem Post.lst {ws : List W} {vs : List V} (P : Post Γ K (RW K) w σ Z (.ok (.o w.S.length) (w.S ++ [.lst ws])) Q) (G : Good Γ K w) (hd : RWs K w vs ws) (p : Addr) (hp : w.H p = none) : Q (.ref p) (upd w.H p (.lst vs)) := by
  obtain ⟨G1, le⟩ := G.alloc (c := .lst ws) hp (.lst vs) (fun w1 l e => ⟨vs, e, RWs.mono l hd⟩) rfl
  refine P ⟨w.μ ++ [p], w.S ++ [.lst ws], upd w.H p (.lst vs)⟩ (.ref p) rfl le G1 ?_
  exact ⟨p, by show (w.μ ++ [p])[w.S.length]? = _; rw [← G.len]; simp, rfl⟩
theorem Post.dic {ws : List (Key × W)} {vs : List (Key × V)} (P : Post Γ K (RW K) w σ Z (.ok (.o w.S.length) (w.S ++ [.dic ws])) Q) (G : Good Γ K w) (hd : Paired (fun (p : Key × V) (q : Key × W) => p.1 = q.1 ∧ RW K w p.2 q.2) vs ws) (p : Addr) (hp : w.H p = none) : Q (.ref p) (upd w.H p (.dK vs)) := by
  obtain ⟨G1, le⟩ := G.alloc (c := .dic ws) hp (.dK vs) (fun w1 l e => ⟨vs, e, Paired.imp (fun _ _ z => ⟨z.1, RW.mono l z.2⟩) hd⟩) rfl
  refine P ⟨w.μ ++ [p], w.S ++ [.dic ws], upd w.H p (.dK vs)⟩ (.ref p) rfl le G1 ?_
  exact ⟨p, by show (w.μ ++ [p])[w.S.length]? = _; rw [← G.len]; simp, rfl⟩
theorem Post.setL {n : Nat} {a : Addr} {c : Cell} {ws : List W} {vs : List V} {v : V} {x : W} (P : Post Γ K (RW K) w σ Z (.ok x (w.S.set n (.lst ws))) Q) (G : Good Γ K w) (h1 : w.μ[n]? = some a) (h2 : w.S[n]? = some c) (hl : c.live = true) (hd : RWs K w vs ws) (hv : RW K w v x) : Q v (upd w.H a (.lst vs)) := by
  obtain ⟨G1, le⟩ := G.write (c' := .lst ws) h1 h2 hl (.lst vs) (fun w1 l e => ⟨vs, e, RWs.mono l hd⟩) rfl
  exact P ⟨w.μ, w.S.set n (.lst ws), upd w.H a (.lst vs)⟩ v rfl le G1 (RW.mono le hv)
end
def hpl (x : W) (S : Sto) : Option (List W) := match x with
  | .o n => match S[n]? with
    | some (.lst ws) => some ws
    | some (.fz (.list ds)) => some (ds.map .d)
    | _ => none
  | _ => none
theorem hpl_ok {Γ : Gm} {K : PySem.W.Frag} {w : Wd} {v : V} {x : W} {ws : List W} (G : Good Γ K w) (r : RW K w v x) (h : hpl x w.S = some ws) : ∃ a vs, v = .ref a ∧ w.H a = some (.lst vs) ∧ RWs K w vs ws := by
  unfold hpl at h
  split at h
  · rename_i n
    obtain ⟨a, ha, rfl⟩ := r
    split at h
    · rename_i ws' e
      cases h
      obtain ⟨vs, q, r⟩ := G.cell n a _ ha e
      exact ⟨a, vs, rfl, q, r⟩
    · rename_i ds e
      cases h
      obtain ⟨vs, ds', e1, q, r⟩ := G.cell n a _ ha e
      cases e1
      exact ⟨a, vs, rfl, q, rws_data r⟩
    · cases h
  · cases h
def szOk (n : Nat) : Bool := decide (n ≤ 1000000)
theorem sz_line {n : Nat} (h : szOk n = true) : n < sizeLine := by
  have : n ≤ 1000000 := of_decide_eq_true h
  rw [sizeLine_eq]; omega
/-! ### operations of two values -/
section
variable {Γ : Gm} {X : Cx} {Z : WX} {pos : Pos}
abbrev Op2 := W → W → Sto → Option (W × Sto)
def fOp2 (g : Op2) (f h : Fe W) : Fe W := fun ρ S => (f ρ S).bind fun x S1 => (h ρ S1).bind fun y S2 => ofO (g x y S2)
def Does2 (Γ : Gm) (X : Cx) (Z : WX) (g : Op2) (r : R2) : Prop := ∀ (w : Wd) (x y : W) (vx vy : V) (σ : L2.St) (Q : VK) (z : W) (S' : Sto), Good Γ X.K w → RW X.K w vx x → RW X.K w vy y → g x y w.S = some (z, S') → Post Γ X.K (RW X.K) w σ Z (.ok z S') Q → r vx vy w.H Q
theorem Does2.use {g : Op2} {r : R2} (hd : Does2 Γ X Z g r) {w : Wd} {x y : W} {vx vy : V} {σ : L2.St} {Q : VK} (G : Good Γ X.K w) (rx : RW X.K w vx x) (ry : RW X.K w vy y) (p : Post Γ X.K (RW X.K) w σ Z (ofO (g x y w.S)) Q) : r vx vy w.H Q := by
  cases e : g x y w.S with
  | none => rw [e] at p; exact p.elim
  | some q =>
    obtain ⟨z, S'⟩ := q
    rw [e] at p
    exact hd w x y vx vy σ Q z S' G rx ry e p
theorem op2_lift {g : Op2} {r : R2} (hd : Does2 Γ X Z g r) {f h : Fe W} {σ : L2.St} {H : Hp} {Q : VK} (q : liftR Γ X.K Z (RW X.K) (fOp2 g f h) σ H Q) : tOp r (liftR Γ X.K Z (RW X.K) f) (liftR Γ X.K Z (RW X.K) h) σ H Q := by
  refine liftR.imp (seq2 (R := RW X.K) (R1 := RW X.K) (k := fun x y S => ofO (g x y S)) (fun _ _ _ _ l r => RW.mono l r) q) fun v H1 h1 => liftR.imp h1 fun u H2 ⟨x, y, w, e, G, rx, ry, p⟩ => ?_
  subst e
  exact hd.use G rx ry p
theorem ve_op {op : Operator} {r : R2} {g : Op2} {a b : Expr} {f h : Fe W} (ho : OpR X (binaryOp op) r) (hd : Does2 Γ X Z g r) (ha : VE Γ X Z a f) (hb : VE Γ X Z b h) : VE Γ X Z (.BinOp a op b pos) (fOp2 g f h) :=
  ⟨PE.mono (pe_op ho ha.pe hb.pe) fun _ _ _ q => op2_lift hd q⟩
theorem ve_cmp {op : CmpOp} {r : R2} {g : Op2} {a b : Expr} {f h : Fe W} (ho : OpR X (compareOp op) r) (hd : Does2 Γ X Z g r) (hm : behindInMarks op b = false) (ha : VE Γ X Z a f) (hb : VE Γ X Z b h) : VE Γ X Z (.Compare a [op] [b] pos) (fOp2 g f h) :=
  ⟨PE.mono (pe_cmpR ho ha.pe hb.pe hm) fun _ _ _ q => op2_lift hd q⟩
def fChain (g g' : Op2) (f h k : Fe W) : Fe W := fun ρ S => (f ρ S).bind fun x S1 => (h ρ S1).bind fun y S2 => (ofO (g x y S2)).bind fun z S3 => match z with
  | .d (.bool true) => (k ρ S3).bind fun u S4 => ofO (g' y u S4)
  | .d (.bool false) => .ok (.d (.bool false)) S3
  | _ => .bad
theorem ve_chain {op op' : CmpOp} {r r' : R2} {g g' : Op2} {a b c : Expr} {f h k : Fe W} (ho : OpR X (compareOp op) r) (hd : Does2 Γ X Z g r) (ho' : OpR X (compareOp op') r') (hd' : Does2 Γ X Z g' r') (ha : VE Γ X Z a f) (hb : VE Γ X Z b h) (hc : VE Γ X Z c k)
    (hpe : ∀ {ta tb tc : TE}, PE X a ta → PE X b tb → PE X c tc → PE X (.Compare a [op, op'] [b, c] pos) (tChain r r' ta tb tc)) : VE Γ X Z (.Compare a [op, op'] [b, c] pos) (fChain g g' f h k) := by
  refine ⟨PE.mono (hpe ha.pe hb.pe hc.pe) fun σ H Q q => ?_⟩
  refine (liftR.bind (R := RW X.K) (k := fun x ρ S1 => (h ρ S1).bind fun y S2 => (ofO (g x y S2)).bind fun z S3 => match z with
    | .d (.bool true) => (k ρ S3).bind fun u S4 => ofO (g' y u S4)
    | .d (.bool false) => .ok (.d (.bool false)) S3
    | _ => .bad) q).imp fun v H1 ⟨x, w1, ρ, e1, G1, s1, r1, p1⟩ => ?_
  refine ⟨w1, ρ, e1, G1, s1, ?_⟩
  refine (Post.bind (R := RW X.K) p1).imp fun u H2 ⟨w2, y, e2, G2, l, r2, p2⟩ => ?_
  subst e2
  refine hd.use G2 (RW.mono l r1) r2 ((Post.bind (R := RW X.K) p2).imp fun z H3 ⟨w3, zz, e3, G3, l3, r3, p3⟩ => ?_)
  subst e3
  have key : ∀ b : Bool, zz = .d (.bool b) → ∃ k', z = .bl k' ∧ if k' = true then liftR Γ X.K Z (RW X.K) k σ w3.H (fun t H4 => r' u t H4 Q) else Q (.bl false) w3.H := fun b eb => by
    subst eb
    cases (show Dp X.K w3.im z (.bool b) from r3)
    refine ⟨b, rfl, ?_⟩
    cases b with
    | true =>
      refine iteT ⟨w3, ρ, rfl, G3, (s1.mono l).mono l3, (Post.bind (R := RW X.K) p3).imp fun t H4 ⟨w4, tt, e4, G4, l4, r4, p4⟩ => ?_⟩
      subst e4
      exact hd'.use G4 (RW.mono l4 (RW.mono l3 r2)) r4 p4
    | false => exact iteF (p3.use G3 (Dp.bl false))
  cases zz with
  | d zd => cases zd <;> first | exact key _ rfl | exact p3.elim
  | o n => exact p3.elim
  | v n => exact p3.elim
  | t n => exact p3.elim
  | u n => exact p3.elim
  | u2 n => exact p3.elim
  | w n => exact p3.elim
  | xc a b c => exact p3.elim
/-! #### which -/
def gInt (f : Int → Int → PyData) : Op2 := fun x y S => match x, y with
  | .d (.int i), .d (.int j) => some (.d (f i j), S)
  | _, _ => none
theorem gInt_inv {f : Int → Int → PyData} {x y z : W} {S S' : Sto} (h : gInt f x y S = some (z, S')) : ∃ i j, x = .d (.int i) ∧ y = .d (.int j) ∧ z = .d (f i j) ∧ S' = S := by
  unfold gInt at h
  split at h
  · cases h; exact ⟨_, _, rfl, rfl, rfl, rfl⟩
  · cases h
theorem does_int {f : Int → Int → PyData} {v : Int → Int → V} (hv : ∀ i j K H, Dp K H (v i j) (f i j)) : Does2 Γ X Z (gInt f) (rI0 v) := fun w x y vx vy σ Q z S' G rx ry h p => by
  obtain ⟨i, j, rfl, rfl, rfl, rfl⟩ := gInt_inv h
  cases (show Dp X.K w.im vx (.int i) from rx)
  cases (show Dp X.K w.im vy (.int j) from ry)
  exact ⟨i, j, rfl, rfl, p.use G (hv i j _ _)⟩
@[irreducible] def big : Nat := 2 ^ 400000
@[irreducible] def mid : Nat := 2 ^ 8000
def tiny (i : Int) : Bool := decide (-(2 ^ 64) < i ∧ i < 2 ^ 64)
def smal (i : Int) : Bool := decide (i.natAbs < big)
def mulOk (i j : Int) : Bool := tiny i || tiny j || (smal i && smal j)
theorem mul_ok {i j : Int} (h : mulOk i j = true) : CMul i j ∨ CMulW i j := by
  unfold mulOk at h
  simp only [Bool.or_eq_true, Bool.and_eq_true] at h
  rcases h with (h | h) | ⟨h1, h2⟩
  · exact .inl (.inl (of_decide_eq_true h))
  · exact .inl (.inr (of_decide_eq_true h))
  · have h1 : i.natAbs < big := of_decide_eq_true h1
    have h2 : j.natAbs < big := of_decide_eq_true h2
    unfold big at h1 h2
    exact .inr (wide_mul h1 h2 (by decide) (by decide) (by decide))
def rMulA : R2 := fun x y H Q => (rI CMul (fun i j => V.int (i * j)) x y H Q ∨ rI CMulW (fun i j => V.int (i * j)) x y H Q)
theorem op_mulA : OpR X (binaryOp .Mult) rMulA := OpR.or op_mul op_mulW
def divOk (j : Int) : Bool := decide (0 < j ∧ j.natAbs < mid)
def divNg (j : Int) : Bool := decide (j < 0 ∧ j.natAbs < mid)
def gDiv : Op2 := fun x y S => match x, y with
  | .d (.int i), .d (.int j) => if divOk j = true then some (.d (.int (i / j)), S) else if divNg j = true then some (.d (.int (i.fdiv j)), S) else none
  | _, _ => none
/-- // by a negative divisor -/
def CDivN (_ j : Int) : Prop := j < 0 ∧ j.natAbs.log2 < 9000
theorem op_fdivN : OpR X (binaryOp .FloorDiv) (rI CDivN fun i j => .int (i.fdiv j)) := opI fun i j _ _ _ _ _ hc q =>
  PyProof.Rows.floordiv_int (fun z => absurd hc.1 (by rw [z]; decide)) q (.inl (PyProof.noPylong_of_log2 hc.2))
def rDivA : R2 := fun x y H Q => (rI CDivW (fun i j => V.int (i / j)) x y H Q ∨ rI CDivN (fun i j => V.int (i.fdiv j)) x y H Q)
theorem op_fdivA : OpR X (binaryOp .FloorDiv) rDivA := OpR.or op_fdivW op_fdivN
theorem does_div : Does2 Γ X Z gDiv rDivA := fun w x y vx vy σ Q z S' G rx ry h p => by
  unfold gDiv at h
  split at h
  · rename_i i j
    split at h
    · rename_i hm
      cases h
      cases (show Dp X.K w.im vx (.int i) from rx)
      cases (show Dp X.K w.im vy (.int j) from ry)
      obtain ⟨h1, h2⟩ := (of_decide_eq_true hm : 0 < j ∧ j.natAbs < mid)
      unfold mid at h2
      exact .inl ⟨i, j, rfl, rfl, wide_div h1 h2 (by decide) (by decide), p.use G (Dp.int _)⟩
    · split at h
      · rename_i hm
        cases h
        cases (show Dp X.K w.im vx (.int i) from rx)
        cases (show Dp X.K w.im vy (.int j) from ry)
        obtain ⟨h1, h2⟩ := (of_decide_eq_true hm : j < 0 ∧ j.natAbs < mid)
        unfold mid at h2
        exact .inr ⟨i, j, rfl, rfl, ⟨h1, Nat.lt_of_lt_of_le (PySem.Flt.log2_lt_of (by decide) h2) (by decide)⟩, p.use G (Dp.int _)⟩
      · cases h
  · cases h
def gMod : Op2 := fun x y S => match x, y with
  | .d (.int i), .d (.int j) => if 0 < j then some (.d (.int (i % j)), S) else none
  | _, _ => none
theorem does_mod : Does2 Γ X Z gMod (rI (fun _ j => 0 < j) fun i j => .int (i % j)) := fun w x y vx vy σ Q z S' G rx ry h p => by
  unfold gMod at h
  split at h
  · rename_i i j
    split at h
    · rename_i hm
      cases h
      cases (show Dp X.K w.im vx (.int i) from rx)
      cases (show Dp X.K w.im vy (.int j) from ry)
      exact ⟨i, j, rfl, rfl, hm, p.use G (Dp.int _)⟩
    · cases h
  · cases h
def gPow : Op2 := fun x y S => match x, y with
  | .d (.int i), .d (.int j) => if 0 ≤ j ∧ j ≤ 1000 ∧ i.natAbs < 2 ^ 64 then some (.d (.int (i ^ j.toNat)), S) else none
  | _, _ => none
theorem does_pow : Does2 Γ X Z gPow (rI CPow fun i j => .int (i ^ j.toNat)) := fun w x y vx vy σ Q z S' G rx ry h p => by
  unfold gPow at h
  split at h
  · rename_i i j
    split at h
    · rename_i hm
      cases h
      cases (show Dp X.K w.im vx (.int i) from rx)
      cases (show Dp X.K w.im vy (.int j) from ry)
      exact ⟨i, j, rfl, rfl, ⟨hm.1, by omega, hm.2.2⟩, p.use G (Dp.int _)⟩
    · cases h
  · cases h
/-! + : numbers, tuples, lists -/
def gAdd : Op2 := fun x y S => match x, y with
  | .d (.int i), .d (.int j) => some (.d (.int (i + j)), S)
  | .d (.tuple xs), .d (.tuple ys) => if szOk (xs.length + ys.length) = true then some (.d (.tuple (xs ++ ys)), S) else none
  | x, y => match hpl x S, hpl y S with
    | some ws, some us => if szOk (ws.length + us.length) = true then some (.o S.length, S ++ [.lst (ws ++ us)]) else none
    | _, _ => none
def rAddA (K : PySem.W.Frag) : R2 := fun x y H Q => (rI0 (fun i j => V.int (i + j)) x y H Q ∨ (rCatA K x y H Q ∨ rCat x y H Q))
theorem op_addA : OpR X (binaryOp .Add) (rAddA X.K) := OpR.or op_add (OpR.or op_catA op_cat)
theorem does_add : Does2 Γ X Z gAdd (rAddA X.K) := fun w x y vx vy σ Q z S' G rx ry h p => by
  unfold gAdd at h
  split at h
  · rename_i i j
    cases h
    cases (show Dp X.K w.im vx (.int i) from rx)
    cases (show Dp X.K w.im vy (.int j) from ry)
    exact .inl ⟨i, j, rfl, rfl, p.use G (Dp.int _)⟩
  · rename_i xs ys
    split at h
    · rename_i hz
      cases h
      refine .inr (.inl ?_)
      cases (show Dp X.K w.im vx (.tuple xs) from rx) with
      | tup q1 d1 =>
        cases (show Dp X.K w.im vy (.tuple ys) from ry) with
        | tup q2 d2 =>
          have l1 := Paired.len (DpAll.paired d1)
          have l2 := Paired.len (DpAll.paired d2)
          refine ⟨_, _, _, _, rfl, rfl, SqT.mono (im_sub w) q1, SqT.mono (im_sub w) q2, by rw [l1, l2]; exact Nat.le_of_lt (sz_line hz), fun e => ?_, fun _ e => ?_, fun _ _ => ?_⟩
          · subst e
            cases d1
            exact p.use G (show Dp X.K w.im _ (.tuple ys) from .tup q2 d2)
          · subst e
            cases d2
            refine p.use G (show Dp X.K w.im _ (.tuple (xs ++ [])) from ?_)
            rw [List.append_nil]
            exact .tup q1 d1
          · exact Post.tup p G (DpAll.of (Paired.app (DpAll.paired d1) (DpAll.paired d2)))
    · cases h
  · split at h
    · rename_i ws us e1 e2
      split at h
      · rename_i hz
        cases h
        obtain ⟨a, vs, rfl, h1, r1⟩ := hpl_ok G rx e1
        obtain ⟨b, us', rfl, h2, r2⟩ := hpl_ok G ry e2
        refine .inr (.inr ⟨a, b, vs, us', rfl, rfl, h1, h2, by rw [Paired.len r1, Paired.len r2]; exact Nat.le_of_lt (sz_line hz), ?_⟩)
        exact Post.lst p G (Paired.app r1 r2)
      · cases h
    · cases h
/-! * : numbers, lists, tuples by a number -/
def gMul : Op2 := fun x y S => match x, y with
  | .d (.int i), .d (.int j) => if mulOk i j = true then some (.d (.int (i * j)), S) else none
  | .d (.tuple xs), .d (.int k) => if xs ≠ [] ∧ 2 ≤ k ∧ k ≤ 1000 ∧ xs.length ≤ 1000 then some (.d (.tuple (List.replicate k.toNat xs).flatten), S) else none
  | x, .d (.int k) => match hpl x S with
    | some ws => if -1000000 ≤ k ∧ k ≤ 1000000 ∧ szOk (ws.length * k.toNat) = true then some (.o S.length, S ++ [.lst (List.replicate k.toNat ws).flatten]) else none
    | none => none
  | _, _ => none
def rMulB (K : PySem.W.Frag) : R2 := fun x y H Q => (rMulA x y H Q ∨ (rRepT K x y H Q ∨ rRep x y H Q))
theorem op_mulB : OpR X (binaryOp .Mult) (rMulB X.K) := OpR.or op_mulA (OpR.or op_repT op_rep)
theorem does_mul : Does2 Γ X Z gMul (rMulB X.K) := fun w x y vx vy σ Q z S' G rx ry h p => by
  unfold gMul at h
  split at h
  · rename_i i j
    split at h
    · rename_i hm
      cases h
      cases (show Dp X.K w.im vx (.int i) from rx)
      cases (show Dp X.K w.im vy (.int j) from ry)
      have q := p.use G (v := V.int (i * j)) (show Dp X.K w.im (V.int (i * j)) (.int (i * j)) from Dp.int _)
      rcases mul_ok hm with c | c
      · exact .inl (.inl ⟨i, j, rfl, rfl, c, q⟩)
      · exact .inl (.inr ⟨i, j, rfl, rfl, c, q⟩)
    · cases h
  · rename_i xs k
    split at h
    · rename_i hm
      cases h
      cases (show Dp X.K w.im vy (.int k) from ry)
      cases (show Dp X.K w.im vx (.tuple xs) from rx) with
      | tup q1 d1 =>
        have l1 := Paired.len (DpAll.paired d1)
        refine .inr (.inl ⟨_, k, _, rfl, rfl, SqT.mono (im_sub w) q1, fun e => hm.1 ?_, hm.2.1, hm.2.2.1, by rw [l1]; exact hm.2.2.2, ?_⟩)
        · subst e; cases d1; rfl
        · exact Post.tup p G (DpAll.of (Paired.rep (DpAll.paired d1) _))
    · cases h
  · rename_i k _ _
    split at h
    · rename_i ws e1
      split at h
      · rename_i hm
        cases h
        cases (show Dp X.K w.im vy (.int k) from ry)
        obtain ⟨a, vs, rfl, h1, r1⟩ := hpl_ok G rx e1
        refine .inr (.inr ⟨a, k, vs, rfl, rfl, h1, by omega, by omega, by rw [Paired.len r1]; exact Nat.le_of_lt (sz_line hm.2.2), ?_⟩)
        exact Post.lst p G (Paired.rep r1 _)
      · cases h
    · cases h
  · cases h
/-! == of data -/
def dEq (neg : Bool) : Op2 := fun x y S => match view x S, view y S with
  | some a, some b => if (SeqAt.shaped a && SeqAt.shaped b) = true then some (.d (.bool (if neg = true then !PyData.eqv a b else PyData.eqv a b)), S) else none
  | _, _ => none
theorem does_eq : Does2 Γ X Z (dEq false) (rEqD X.K) := fun w x y vx vy σ Q z S' G rx ry h p => by
  unfold dEq at h
  split at h
  · rename_i a b e1 e2
    split at h
    · rename_i hs
      cases h
      rw [Bool.and_eq_true] at hs
      exact ⟨a, b, view_ok G rx e1, view_ok G ry e2, hs.1, hs.2, p.use G (Dp.bl _)⟩
    · cases h
  · cases h
theorem does_ne : Does2 Γ X Z (dEq true) (rNeD X.K) := fun w x y vx vy σ Q z S' G rx ry h p => by
  unfold dEq at h
  split at h
  · rename_i a b e1 e2
    split at h
    · rename_i hs
      cases h
      rw [Bool.and_eq_true] at hs
      exact ⟨a, b, view_ok G rx e1, view_ok G ry e2, hs.1, hs.2, p.use G (Dp.bl _)⟩
    · cases h
  · cases h
/-! is None -/
def isNo : W → Bool
  | .d .none => true
  | .v .non => true
  | _ => false
def gIsN (neg : Bool) : Op2 := fun x y S => match y with
  | .d .none => some (.d (.bool (if neg = true then !isNo x else isNo x)), S)
  | _ => none
theorem isNo_ok {K : PySem.W.Frag} {w : Wd} {v : V} {x : W} (r : RW K w v x) : decide (v = .non) = isNo x := by
  cases x with
  | d x =>
    cases x with
    | none => cases (show Dp K w.im v .none from r); rfl
    | bool b => cases (show Dp K w.im v (.bool b) from r); rfl
    | int b => cases (show Dp K w.im v (.int b) from r); rfl
    | str b => cases (show Dp K w.im v (.str b) from r); rfl
    | list b => cases (show Dp K w.im v (.list b) from r); rfl
    | tuple b => cases (show Dp K w.im v (.tuple b) from r); rfl
    | dict b => cases (show Dp K w.im v (.dict b) from r)
  | o n => obtain ⟨a, _, rfl⟩ := r; rfl
  | v n => cases (show v = n from r); cases v <;> rfl
  | t n => obtain ⟨a, _, _, rfl, _⟩ := r; rfl
  | u n => obtain ⟨a, _, _, _, rfl, _⟩ := r; rfl
  | u2 n => obtain ⟨a, _, _, _, _, _, _, _, rfl, _⟩ := r; rfl
  | w n => obtain ⟨a, _, rfl, _⟩ := r; rfl
  | xc _ _ _ => obtain ⟨a, _, rfl, _⟩ := r; rfl
theorem does_isN : Does2 Γ X Z (gIsN false) (fun x y H Q => y = .non ∧ Q (.bl (decide (x = .non))) H) := fun w x y vx vy σ Q z S' G rx ry h p => by
  unfold gIsN at h
  split at h
  · cases h
    cases (show Dp X.K w.im vy .none from ry)
    rw [isNo_ok rx]
    exact ⟨rfl, p.use G (Dp.bl _)⟩
  · cases h
theorem does_notN : Does2 Γ X Z (gIsN true) (fun x y H Q => y = .non ∧ Q (.bl (!decide (x = .non))) H) := fun w x y vx vy σ Q z S' G rx ry h p => by
  unfold gIsN at h
  split at h
  · cases h
    cases (show Dp X.K w.im vy .none from ry)
    rw [isNo_ok rx]
    exact ⟨rfl, p.use G (Dp.bl _)⟩
  · cases h
/-! < of data that are alike -/
def gLt (k : PyData → PyData → Bool) : Op2 := fun x y S => match x, y with
  | .d a, .d b => match a with
    | .none => none
    | _ => if (PySem.W.alike a b && decide (a.depth ≤ 60)) = true then some (.d (.bool (k a b)), S) else none
  | _, _ => none
def rLtD (K : PySem.W.Frag) (k : PyData → PyData → Bool) : R2 := fun x y H Q => ∃ a b, Dp K H x a ∧ Dp K H y b ∧ PySem.W.alike a b = true ∧ a ≠ .none ∧ a.depth ≤ 60 ∧ Q (.bl (k a b)) H
theorem op_ltD {op : CmpOp} {k : PyData → PyData → Bool} (hu : Rm X) (rule : ∀ (A : Around) (s : Shared) (a b : Value) (da db : PyData) (as bs : List Addr) (Q E : Value → Shared → Prop), Reads s.heap a da as → Reads s.heap b db bs → PySem.W.alike da db = true → da ≠ .none → A.units + min da.depth db.depth < cLine →
    Q (.bool (k da db)) s → wpAny (model X.prog X.w) A (compareOp op a b) Q E s) : OpR X (compareOp op) (rLtD X.K k) := by
  intro pins s σ H x y v u Q I rx ry h
  obtain ⟨a, b, ha, hb, hal, hn, hd, q⟩ := h
  obtain ⟨as, r1⟩ := Dp.reads I a x v ha rx
  obtain ⟨bs, r2⟩ := Dp.reads I b y u hb ry
  refine rule X.A s v u a b as bs _ _ r1 r2 hal hn (by unfold Rm at hu; omega) ⟨.bl _, H, I, rfl, q⟩
theorem does_lt {k : PyData → PyData → Bool} : Does2 Γ X Z (gLt k) (rLtD X.K k) := fun w x y vx vy σ Q z S' G rx ry h p => by
  unfold gLt at h
  split at h
  · rename_i a b
    split at h
    · cases h
    · rename_i hn
      split at h
      · rename_i hm
        cases h
        rw [Bool.and_eq_true] at hm
        exact ⟨a, b, Dp.mono (im_sub w) rx, Dp.mono (im_sub w) ry, hm.1, hn, of_decide_eq_true hm.2, p.use G (Dp.bl _)⟩
      · cases h
  · cases h
end
end G
set_option Elab.async false
set_option linter.all false
set_option maxRecDepth 100000
set_option maxHeartbeats 4000000
/-! G4: displays, items, slices, calls of built-ins -/
namespace G
open PySem PySem.Spec L2
set_option autoImplicit false
section
variable {Γ : Gm} {X : Cx} {Z : WX} {pos : Pos}
/-! ### displays -/
def fzT (xs : List W) (S : Sto) : Option (PyData × Sto) := match frzL (frz 6) xs S with
  | some (ds, S2) => if szOk ds.length = true then some (.tuple ds, S2) else none
  | none => none
def fTup (f : Fe (List W)) : Fe W := fun ρ S => (f ρ S).bind fun xs S1 => match fzT xs S1 with
  | some (d, S2) => .ok (.d d) S2
  | none => .bad
theorem fzT_ok {K : PySem.W.Frag} {w : Wd} {vs : List V} {xs : List W} {d : PyData} {S' : Sto} (G : Good Γ K w) (r : RWs K w vs xs) (h : fzT xs w.S = some (d, S')) : ∃ ds, d = .tuple ds ∧ szOk ds.length = true ∧ Frz Γ K w S' ∧ DpAll K (Wd.im ⟨w.μ, S', w.H⟩) vs ds := by
  unfold fzT at h
  split at h
  · rename_i ds S2 e
    split at h
    · rename_i hz
      cases h
      obtain ⟨F, q⟩ := frzL_ok (Γ := Γ) (frz_ok 6) xs w vs ds _ G r e
      exact ⟨ds, rfl, hz, F, q⟩
    · cases h
  · cases h
theorem ve_tup {es : List Expr} {f : Fe (List W)} {x1} (h : VA Γ X Z es f) : VE Γ X Z (.Tuple es x1 pos) (fTup f) := by
  refine ⟨PE.mono (pe_tup h.pa) fun σ H Q q => liftR.imp (seq1 (R := RWs X.K) q) fun vs H1 ⟨xs, w, e, G, r, p⟩ => ?_⟩
  subst e
  split at p
  · rename_i d S2 e
    obtain ⟨ds, rfl, hz, F, dd⟩ := fzT_ok G r e
    have p2 : Post Γ X.K (RW X.K) ⟨w.μ, S2, w.H⟩ σ Z (.ok (.d (.tuple ds)) S2) Q := p.mono F.le
    refine ⟨by rw [Paired.len (DpAll.paired dd)]; exact Nat.le_of_lt (sz_line hz), fun pp hp => ?_⟩
    exact Post.tup (w := ⟨w.μ, S2, w.H⟩) p2 F.good dd pp hp
  · exact p.elim
def fLst (f : Fe (List W)) : Fe W := fun ρ S => (f ρ S).bind fun xs S1 => if szOk xs.length = true then .ok (.o S1.length) (S1 ++ [.lst xs]) else .bad
theorem ve_lst {es : List Expr} {f : Fe (List W)} (h : VA Γ X Z es f) : VE Γ X Z (.List es pos) (fLst f) := by
  refine ⟨PE.mono (pe_lst h.pa) fun σ H Q q => liftR.imp (seq1 (R := RWs X.K) q) fun vs H1 ⟨xs, w, e, G, r, p⟩ => ?_⟩
  subst e
  split at p
  · rename_i hz
    exact ⟨by rw [Paired.len r]; exact Nat.le_of_lt (sz_line hz), Post.lst p G r⟩
  · exact p.elim

/-! ### items -/
def gIx : Op2 := fun x y S => match y with
  | .d (.int i) => match seqOf x S with
    | some ws => (L2.atI ws i).map fun z => (z, S)
    | none => none
  | _ => none
theorem does_ix : Does2 Γ X Z gIx (rIx X.K) := fun w x y vx vy σ Q z S' G rx ry h p => by
  unfold gIx at h
  split at h
  · rename_i i
    cases (show Dp X.K w.im vy (.int i) from ry)
    split at h
    · rename_i ws e
      obtain ⟨a, vs, rfl, q, r⟩ := seqOf_ok G rx e
      cases e2 : L2.atI ws i with
      | none => rw [e2] at h; cases h
      | some z' =>
        rw [e2] at h
        cases h
        obtain ⟨v, h1, h2⟩ := Paired.atI r e2
        rcases q with q | q
        · exact .inl ⟨a, vs, i, v, rfl, rfl, q, h1, p.use G h2⟩
        · exact .inr (.inl ⟨a, vs, i, v, rfl, rfl, q, h1, p.use G h2⟩)
    · cases h
  · cases h
theorem ve_ix {a b : Expr} {f h : Fe W} (ha : VE Γ X Z a f) (hb : VE Γ X Z b h) (hs : PlainIx b := by intro _ _; rfl) : VE Γ X Z (.Subscript a b pos) (fOp2 gIx f h) :=
  ⟨PE.mono (pe_ix ix_seq ha.pe hb.pe hs) fun _ _ _ q => op2_lift does_ix q⟩
/-! dicts with keys that are ints or texts -/
def keyOf : W → Option Key
  | .d (.int i) => some (.inl i)
  | .d (.str x) => some (.inr x)
  | _ => none
theorem keyOf_ok {K : PySem.W.Frag} {w : Wd} {v : V} {x : W} {k : Key} (r : RW K w v x) (h : keyOf x = some k) : v = kV k := by
  unfold keyOf at h
  split at h
  · cases h; cases (show Dp K w.im v (.int _) from r); rfl
  · cases h; cases (show Dp K w.im v (.str _) from r); rfl
  · cases h
def dicOf (x : W) (S : Sto) : Option (List (Key × W)) := match x with
  | .o n => match S[n]? with
    | some (.dic kvs) => some kvs
    | _ => none
  | _ => none
theorem dicOf_ok {K : PySem.W.Frag} {w : Wd} {v : V} {x : W} {kvs : List (Key × W)} (G : Good Γ K w) (r : RW K w v x) (h : dicOf x w.S = some kvs) :
    ∃ n a us, x = .o n ∧ v = .ref a ∧ w.μ[n]? = some a ∧ w.S[n]? = some (.dic kvs) ∧ w.H a = some (.dK us) ∧ Paired (fun (p : Key × V) (q : Key × W) => p.1 = q.1 ∧ RW K w p.2 q.2) us kvs := by
  unfold dicOf at h
  split at h
  · rename_i n
    obtain ⟨a, ha, rfl⟩ := r
    split at h
    · rename_i e
      cases h
      obtain ⟨us, q, r⟩ := G.cell n a _ ha e
      exact ⟨n, a, us, rfl, rfl, ha, e, q, r⟩
    · cases h
  · cases h
def lookD {κ : Type} [DecidableEq κ] (kvs : List (κ × W)) (k : κ) : Option W := match kvs with
  | [] => none
  | p :: r => if p.1 = k then some p.2 else lookD r k
def putD {κ : Type} [DecidableEq κ] (kvs : List (κ × W)) (k : κ) (x : W) : List (κ × W) := if (kvs.any fun kv => decide (kv.1 = k)) = true then kvs.map (fun kv => if kv.1 = k then (kv.1, x) else kv) else kvs ++ [(k, x)]
abbrev RKs {κ : Type} (K : PySem.W.Frag) (w : Wd) : List (κ × V) → List (κ × W) → Prop := Paired (fun (p : κ × V) (q : κ × W) => p.1 = q.1 ∧ RW K w p.2 q.2)
theorem lookD_ok {κ : Type} [DecidableEq κ] {K : PySem.W.Frag} {w : Wd} {k : κ} : ∀ {us : List (κ × V)} {kvs : List (κ × W)} {x : W}, RKs K w us kvs → lookD kvs k = some x → ∃ v, valV us k = some v ∧ RW K w v x
  | _, _, _, .nil, h => by cases h
  | (k1, v1) :: us, (k2, x2) :: kvs, x, .cons ⟨e, q⟩ t, h => by
    have e : k1 = k2 := e
    subst e
    unfold lookD at h
    by_cases hk : k1 = k
    · rw [if_pos hk] at h
      cases h
      exact ⟨v1, valV_pos hk, q⟩
    · rw [if_neg hk] at h
      obtain ⟨v, h1, h2⟩ := lookD_ok t h
      exact ⟨v, by rw [valV_neg hk]; exact h1, h2⟩
theorem any_ok {κ : Type} [DecidableEq κ] {K : PySem.W.Frag} {w : Wd} {k : κ} : ∀ {us : List (κ × V)} {kvs : List (κ × W)}, RKs K w us kvs → (us.any fun kv => decide (kv.1 = k)) = (kvs.any fun kv => decide (kv.1 = k))
  | _, _, .nil => rfl
  | _, _, .cons ⟨e, q⟩ t => by simp only [List.any_cons, e, any_ok t]
theorem putD_ok {κ : Type} [DecidableEq κ] {K : PySem.W.Frag} {w : Wd} {k : κ} {us : List (κ × V)} {kvs : List (κ × W)} {v : V} {x : W} (h : RKs K w us kvs) (r : RW K w v x) : RKs K w (putK us k v) (putD kvs k x) := by
  unfold putK putD
  rw [any_ok h]
  split
  · rename_i hc; clear hc; induction h with
    | nil => exact .nil
    | @cons p q us kvs z t ih =>
      refine .cons ?_ ih
      obtain ⟨e, z⟩ := z
      dsimp only
      rw [e]
      by_cases hk : q.1 = k
      · rw [if_pos hk, if_pos hk]; exact ⟨rfl, r⟩
      · rw [if_neg hk, if_neg hk]; exact ⟨e, z⟩
  · exact Paired.app h (.cons ⟨rfl, r⟩ .nil)
def gDget : Op2 := fun x y S => match dicOf x S, keyOf y with
  | some kvs, some k => (lookD kvs k).map fun z => (z, S)
  | _, _ => none
theorem ve_dget (hu : Rm X) {a b : Expr} {f h : Fe W} (ha : VE Γ X Z a f) (hb : VE Γ X Z b h) (hs : NoSl b := by intro _ _; rfl) : VE Γ X Z (.Subscript a b pos) (fOp2 gDget f h) := by
  refine ⟨PE.mono (pe_dget (by unfold Rm at hu; omega) ha.pe hb.pe hs) fun σ H Q q => ?_⟩
  refine liftR.imp (seq2 (R := RW X.K) (R1 := RW X.K) (k := fun x y S => ofO (gDget x y S)) (fun _ _ _ _ l r => RW.mono l r) q) fun v H1 h1 => liftR.imp h1 fun u H2 ⟨x, y, w, e, G, rx, ry, p⟩ => ?_
  subst e
  unfold gDget at p
  split at p
  · rename_i kvs k e1 e2
    obtain ⟨n, a, us, rfl, rfl, ha, hn, hH, rr⟩ := dicOf_ok G rx e1
    cases e3 : lookD kvs k with
    | none => rw [e3] at p; exact p.elim
    | some z =>
      rw [e3] at p
      obtain ⟨v', h3, h4⟩ := lookD_ok rr e3
      rw [keyOf_ok ry e2]
      refine ⟨a, v', rfl, ?_, p.use G h4⟩
      rw [← h3]
      exact DGet.k hH
  · exact p.elim

/-! ### slices -/
def fNoP : Fe (Option Int) := fun _ S => .ok none S
def fPart (f : Fe W) : Fe (Option Int) := fun ρ S => (f ρ S).bind fun x S1 => match x with
  | .d (.int i) => .ok (some i) S1
  | _ => .bad
def RO (_ : Wd) (a b : Option Int) : Prop := a = b
structure VO (Γ : Gm) (X : Cx) (Z : WX) (e : Option Expr) (f : Fe (Option Int)) : Prop where
  po : PO X e (liftR Γ X.K Z RO f)
theorem PO.mono {X : Cx} {e : Option Expr} {t t' : TO} (h : PO X e t) (i : ∀ σ H Q, t' σ H Q → t σ H Q) : PO X e t' := ⟨fun pins s σ H Q I q => h.run pins s σ H Q I (i _ _ _ q)⟩
theorem vo_none : VO Γ X Z none fNoP := ⟨PO.mono po_none fun σ H Q ⟨w, ρ, e, G, s, p⟩ => by subst e; exact p.use (R := RO) G rfl⟩
theorem vo_some {e : Expr} {f : Fe W} (h : VE Γ X Z e f) : VO Γ X Z (some e) (fPart f) := by
  refine ⟨PO.mono (po_some h.pe) fun σ H Q q => liftR.imp (seq1 (R := RW X.K) (R2 := RO) q) fun v H1 ⟨x, w, e, G, r, p⟩ => ?_⟩
  subst e
  split at p
  · cases (show Dp X.K w.im v (.int _) from r)
    exact ⟨_, rfl, p.use (R := RO) G rfl⟩
  · exact p.elim
def cutW {α : Type} (xs : List α) (lo hi : Option Int) : List α := (xs.drop (HT.sIx xs.length 0 lo)).take (HT.sIx xs.length xs.length hi - HT.sIx xs.length 0 lo)
theorem Paired.cut {α : Type} {F : V → α → Prop} {l : List V} {m : List α} (h : Paired F l m) (lo hi : Option Int) : Paired F (cutV l lo hi) (cutW m lo hi) := by
  unfold cutV cutW
  rw [Paired.len h]
  exact Paired.take _ (Paired.drop _ h)
def lstOf (x : W) (S : Sto) : Option (List W) := match x with
  | .d (.list ds) => some (ds.map .d)
  | .o n => match S[n]? with
    | some (.lst ws) => some ws
    | some (.fz (.list ds)) => some (ds.map .d)
    | _ => none
  | _ => none
theorem lstOf_ok {K : PySem.W.Frag} {w : Wd} {v : V} {x : W} {ws : List W} (G : Good Γ K w) (r : RW K w v x) (h : lstOf x w.S = some ws) : ∃ a vs, v = .ref a ∧ SqL K w.H a vs ∧ RWs K w vs ws := by
  unfold lstOf at h
  split at h
  · rename_i ds
    cases h
    cases (show Dp K w.im v (.list ds) from r) with
    | lst q r => exact ⟨_, _, rfl, SqL.mono (im_sub w) q, rws_data r⟩
  · rename_i n
    obtain ⟨a, ha, rfl⟩ := r
    split at h
    · rename_i ws' e
      cases h
      obtain ⟨vs, q, r⟩ := G.cell n a _ ha e
      exact ⟨a, vs, rfl, SqL.of q, r⟩
    · rename_i ds e
      cases h
      obtain ⟨vs, ds', e1, q, r⟩ := G.cell n a _ ha e
      cases e1
      exact ⟨a, vs, rfl, SqL.of q, rws_data r⟩
    · cases h
  · cases h
/-- x[lo:hi] of a list or a tuple -/
def gSl (x : W) (lo hi : Option Int) (S : Sto) : Option (W × Sto) := match x with
  | .d (.tuple ds) => some (.d (.tuple (cutW ds lo hi)), S)
  | x => match lstOf x S with
    | some ws => some (.o S.length, S ++ [.lst (cutW ws lo hi)])
    | none => none
def fSl (f : Fe W) (l h : Fe (Option Int)) : Fe W := fun ρ S => (f ρ S).bind fun x S1 => (l ρ S1).bind fun lo S2 => (h ρ S2).bind fun hi S3 => ofO (gSl x lo hi S3)
theorem sl_both : SlR X (fun x lo hi H Q => rSlA X.K x lo hi H Q ∨ rSlL X.K x lo hi H Q) := SlR.or sl_tupA sl_list
theorem cutW_whole {α : Type} (xs : List α) (lo hi : Option Int) (h : HT.sIx xs.length 0 lo = 0 ∧ HT.sIx xs.length xs.length hi = xs.length) : cutW xs lo hi = xs := by
  unfold cutW; rw [h.1, h.2]; simp
theorem gSl_use {w3 : Wd} {x : W} {lo hi : Option Int} {v : V} {σ : L2.St} {Q : VK} (G3 : Good Γ X.K w3) (r : RW X.K w3 v x) (p3 : Post Γ X.K (RW X.K) w3 σ Z (ofO (gSl x lo hi w3.S)) Q) : rSlA X.K v lo hi w3.H Q ∨ rSlL X.K v lo hi w3.H Q := by
  unfold gSl at p3
  split at p3
  · rename_i ds
    cases (show Dp X.K w3.im v (.tuple ds) from r) with
    | tup q1 d1 =>
      have ln := Paired.len (DpAll.paired d1)
      refine .inl ⟨_, _, rfl, SqT.mono (im_sub w3) q1, fun hw => p3.use G3 ?_, fun _ => Post.tup p3 G3 (DpAll.of (Paired.cut (DpAll.paired d1) _ _))⟩
      rw [ln] at hw
      rw [cutW_whole _ _ _ hw]
      exact Dp.tup q1 d1
  · split at p3
    · rename_i ws e
      obtain ⟨a, vs, rfl, q, rr⟩ := lstOf_ok G3 r e
      exact .inr ⟨a, vs, rfl, q, Post.lst p3 G3 (Paired.cut rr _ _)⟩
    · exact p3.elim
theorem ve_slice {e : Expr} {lo hi : Option Expr} {f : Fe W} {l h : Fe (Option Int)} {p2 : Pos} (he : VE Γ X Z e f) (hl : VO Γ X Z lo l) (hh : VO Γ X Z hi h) : VE Γ X Z (.Subscript e (.Slice lo hi none p2) pos) (fSl f l h) := by
  refine ⟨PE.mono (pe_slice sl_both he.pe hl.po hh.po) fun σ H Q q => ?_⟩
  refine (liftR.bind (R := RW X.K) (k := fun x ρ S1 => (l ρ S1).bind fun lo S2 => (h ρ S2).bind fun hi S3 => ofO (gSl x lo hi S3)) q).imp fun v H1 ⟨x, w1, ρ, e1, G1, s1, r1, p1⟩ => ?_
  refine ⟨w1, ρ, e1, G1, s1, (Post.bind (R := RO) p1).imp fun lo' H2 ⟨w2, lo, e2, G2, l2, r2, p2⟩ => ?_⟩
  refine ⟨w2, ρ, e2, G2, s1.mono l2, (Post.bind (R := RO) p2).imp fun hi' H3 ⟨w3, hi, e3, G3, l3, r3, p3⟩ => ?_⟩
  subst e3
  cases (show lo' = lo from r2)
  cases (show hi' = hi from r3)
  exact gSl_use G3 (RW.mono l3 (RW.mono l2 r1)) p3

/-! ### choices, truth as values -/
def fIfE (t : Fe Bool) (f g : Fe W) : Fe W := fun ρ S => (t ρ S).bind fun b S1 => if b = true then f ρ S1 else g ρ S1
theorem ve_if {c a b : Expr} {t : Fe Bool} {f g : Fe W} (hc : VT Γ X Z c t) (ha : VE Γ X Z a f) (hb : VE Γ X Z b g) : VE Γ X Z (.IfExp c a b pos) (fIfE t f g) := by
  refine ⟨PE.mono (pe_ifExp hc.pt ha.pe hb.pe) fun σ H Q q => ?_⟩
  refine (liftR.bind (R := RB) (k := fun b ρ S1 => if b = true then f ρ S1 else g ρ S1) q).imp fun v H1 ⟨x, w1, ρ, e1, G1, s1, r1, p1⟩ => ?_
  cases (show v = x from r1)
  cases v with
  | true => exact ⟨w1, ρ, e1, G1, s1, p1⟩
  | false => exact ⟨w1, ρ, e1, G1, s1, p1⟩
def fAndE (f g : Fe W) : Fe W := fun ρ S => (f ρ S).bind fun x S1 => match x with
  | .d (.bool true) => g ρ S1
  | .d (.bool false) => .ok (.d (.bool false)) S1
  | _ => .bad
theorem ve_one {op} {a : Expr} {f : Fe W} (h : VE Γ X Z a f) : VE Γ X Z (.BoolOp op [a] pos) f := ⟨pe_one h.pe⟩
theorem ve_and {a b : Expr} {rest : List Expr} {f g : Fe W} (ha : VE Γ X Z a f) (hb : VE Γ X Z (.BoolOp .And (b :: rest) pos) g) : VE Γ X Z (.BoolOp .And (a :: b :: rest) pos) (fAndE f g) := by
  refine ⟨PE.mono (pe_and ha.pe hb.pe) fun σ H Q q => ?_⟩
  refine (liftR.bind (R := RW X.K) (k := fun x ρ S1 => match x with
    | .d (.bool true) => g ρ S1
    | .d (.bool false) => .ok (.d (.bool false)) S1
    | _ => .bad) q).imp fun v H1 ⟨x, w, ρ, e, G, s, r, p⟩ => ?_
  subst e
  split at p
  · cases (show Dp X.K w.im v (.bool true) from r)
    exact ⟨true, rfl, iteT ⟨w, ρ, rfl, G, s, p⟩⟩
  · cases (show Dp X.K w.im v (.bool false) from r)
    exact ⟨false, rfl, iteF (p.use G (Dp.bl false))⟩
  · exact p.elim
def fNotE (f : Fe W) : Fe W := fun ρ S => (f ρ S).bind fun x S1 => match x with
  | .d (.bool b) => .ok (.d (.bool (!b))) S1
  | _ => .bad
theorem ve_not {a : Expr} {f : Fe W} (ha : VE Γ X Z a f) : VE Γ X Z (.UnaryOp .Not a pos) (fNotE f) := by
  refine ⟨PE.mono (pe_not ha.pe) fun σ H Q q => liftR.imp (seq1 (R := RW X.K) q) fun v H1 ⟨x, w, e, G, r, p⟩ => ?_⟩
  subst e
  split at p
  · rename_i b
    cases (show Dp X.K w.im v (.bool b) from r)
    exact ⟨b, rfl, p.use G (Dp.bl _)⟩
  · exact p.elim
def fNeg (f : Fe W) : Fe W := fun ρ S => (f ρ S).bind fun x S1 => match x with
  | .d (.int i) => .ok (.d (.int (-i))) S1
  | _ => .bad
theorem ve_neg {a : Expr} {f : Fe W} (ha : VE Γ X Z a f) : VE Γ X Z (.UnaryOp .USub a pos) (fNeg f) := by
  refine ⟨PE.mono (pe_un un_neg ha.pe) fun σ H Q q => liftR.imp (seq1 (R := RW X.K) q) fun v H1 ⟨x, w, e, G, r, p⟩ => ?_⟩
  subst e
  split at p
  · rename_i b
    cases (show Dp X.K w.im v (.int b) from r)
    exact ⟨b, rfl, p.use G (Dp.int _)⟩
  · exact p.elim

/-! ### calls of built-ins -/
abbrev OpN := List W → Sto → Option (W × Sto)
def fCB (g : OpN) (f : Fe (List W)) : Fe W := fun ρ S => (f ρ S).bind fun xs S1 => ofO (g xs S1)
def DoesN (Γ : Gm) (X : Cx) (Z : WX) (g : OpN) (r : List V → Hp → VK → Prop) : Prop := ∀ (w : Wd) (xs : List W) (vs : List V) (σ : L2.St) (Q : VK) (z : W) (S' : Sto), Good Γ X.K w → RWs X.K w vs xs → g xs w.S = some (z, S') → Post Γ X.K (RW X.K) w σ Z (.ok z S') Q → r vs w.H Q
theorem cb_lift {g : OpN} {r : List V → Hp → VK → Prop} (hd : DoesN Γ X Z g r) {f : Fe (List W)} {σ : L2.St} {H : Hp} {Q : VK} (q : liftR Γ X.K Z (RW X.K) (fCB g f) σ H Q) : tCB r (liftR Γ X.K Z (RWs X.K) f) σ H Q := by
  refine liftR.imp (seq1 (R := RWs X.K) q) fun vs H1 ⟨xs, w, e, G, rx, p⟩ => ?_
  subst e
  cases e : g xs w.S with
  | none => rw [e] at p; exact p.elim
  | some q =>
    obtain ⟨z, S'⟩ := q
    rw [e] at p
    exact hd w xs vs σ Q z S' G rx e p
theorem ve_callB {x id : String} {r : List V → Hp → VK → Prop} {g : OpN} {e : Expr} {es : List Expr} {f : Fe (List W)} {p : Pos} (hc : CallR X (.builtin id) r) (hd : DoesN Γ X Z g r) (hg : Gl X (Str.ofString x)) (hm : X.mg (Str.ofString x) = none) (hv : bootBuiltins (Str.ofString x) = some (.builtin id)) (ha : VA Γ X Z (e :: es) f)
    (hn : Str.ofString x ≠ "__name__" := by decide) (hdb : (Str.ofString x == ("__debug__" : Str)) = false := by decide) (he : starEach (e :: es) X.env = (false, eval e X.env) :: starEach es X.env := by rfl) (hpl : (backTo pos (starEach es X.env)).any (·.1) = false := by rfl) :
    VE Γ X Z (.Call (.Name (Str.ofString x) p) (e :: es) [] pos) (fCB g f) := ⟨PE.mono (pe_callB hc hg hm hv ha.pa hn hdb he hpl) fun _ _ _ q => cb_lift hd q⟩
theorem ve_callTy {x T : String} {r : List V → Hp → VK → Prop} {g : OpN} {e : Expr} {es : List Expr} {f : Fe (List W)} {p : Pos} (hc : CallR X (.type T) r) (hd : DoesN Γ X Z g r) (hg : Gl X (Str.ofString x)) (hm : X.mg (Str.ofString x) = none) (hv : bootBuiltins (Str.ofString x) = some (.type T)) (ha : VA Γ X Z (e :: es) f)
    (hn : Str.ofString x ≠ "__name__" := by decide) (hdb : (Str.ofString x == ("__debug__" : Str)) = false := by decide) (he : starEach (e :: es) X.env = (false, eval e X.env) :: starEach es X.env := by rfl) (hpl : (backTo pos (starEach es X.env)).any (·.1) = false := by rfl) :
    VE Γ X Z (.Call (.Name (Str.ofString x) p) (e :: es) [] pos) (fCB g f) := ⟨PE.mono (pe_callTy hc hg hm hv ha.pa hn hdb he hpl) fun _ _ _ q => cb_lift hd q⟩
theorem rws_one {K : PySem.W.Frag} {w : Wd} {vs : List V} {x : W} (r : RWs K w vs [x]) : ∃ v, vs = [v] ∧ RW K w v x := by
  cases r with | cons q t => cases t; exact ⟨_, rfl, q⟩
theorem rws_two {K : PySem.W.Frag} {w : Wd} {vs : List V} {x y : W} (r : RWs K w vs [x, y]) : ∃ v u, vs = [v, u] ∧ RW K w v x ∧ RW K w u y := by
  cases r with | cons q t => cases t with | cons q2 t => cases t; exact ⟨_, _, rfl, q, q2⟩
/-! len -/
def gLen : OpN := fun xs S => match xs with
  | [x] => match seqOf x S with
    | some ws => some (.d (.int ws.length), S)
    | none => none
  | _ => none
theorem does_len : DoesN Γ X Z gLen (fun xs H Q => ∃ p ys, xs = [.ref p] ∧ (SqL X.K H p ys ∨ SqT X.K H p ys) ∧ Q (.int ys.length) H) := fun w xs vs σ Q z S' G r h p => by
  unfold gLen at h
  split at h
  · rename_i x
    obtain ⟨v, rfl, rx⟩ := rws_one r
    split at h
    · rename_i ws e
      cases h
      obtain ⟨a, us, rfl, q, rr⟩ := seqOf_ok G rx e
      refine ⟨a, us, rfl, q, ?_⟩
      rw [Paired.len rr]
      exact p.use G (Dp.int _)
    · cases h
  · cases h
/-! sum, all, abs, min, max, int -/
def intsOf : List W → Option (List Int)
  | [] => some []
  | .d (.int i) :: r => match intsOf r with
    | some l => some (i :: l)
    | none => none
  | _ :: _ => none
theorem intsOf_eq : ∀ {ws : List W} {ns : List Int}, intsOf ws = some ns → ws = ns.map fun i => W.d (.int i)
  | [], _, h => by cases h; rfl
  | .d (.int i) :: r, ns, h => by
    unfold intsOf at h
    split at h
    · rename_i l e
      cases h
      rw [intsOf_eq e]; rfl
    · cases h
  | .d .none :: _, _, h => by cases h
  | .d (.bool _) :: _, _, h => by cases h
  | .d (.str _) :: _, _, h => by cases h
  | .d (.list _) :: _, _, h => by cases h
  | .d (.tuple _) :: _, _, h => by cases h
  | .d (.dict _) :: _, _, h => by cases h
  | .o _ :: _, _, h => by cases h
  | .v _ :: _, _, h => by cases h
@[simp] theorem intsOf_map (ns : List Int) : intsOf (ns.map fun i => W.d (.int i)) = some ns := by
  induction ns with
  | nil => rfl
  | cons n ns ih => simp [intsOf, ih]
def blsOf : List W → Option (List Bool)
  | [] => some []
  | .d (.bool i) :: r => match blsOf r with
    | some l => some (i :: l)
    | none => none
  | _ :: _ => none
theorem blsOf_eq {K : PySem.W.Frag} {w : Wd} : ∀ {ws : List W} {bs : List Bool} {vs : List V}, RWs K w vs ws → blsOf ws = some bs → vs = bs.map V.bl
  | [], _, _, r, h => by cases h; cases r; rfl
  | .d (.bool i) :: r, ns, vs, rr, h => by
    unfold blsOf at h
    split at h
    · rename_i l e
      cases h
      cases rr with
      | cons q t =>
        cases (show Dp K w.im _ (.bool i) from q)
        rw [blsOf_eq t e]; rfl
    · cases h
  | .d .none :: _, _, _, _, h => by cases h
  | .d (.int _) :: _, _, _, _, h => by cases h
  | .d (.str _) :: _, _, _, _, h => by cases h
  | .d (.list _) :: _, _, _, _, h => by cases h
  | .d (.tuple _) :: _, _, _, _, h => by cases h
  | .d (.dict _) :: _, _, _, _, h => by cases h
  | .o _ :: _, _, _, _, h => by cases h
  | .v _ :: _, _, _, _, h => by cases h
def gAll (f : List Bool → Bool) : OpN := fun xs S => match xs with
  | [x] => match lstOf x S with
    | some ws => match blsOf ws with
      | some bs => some (.d (.bool (f bs)), S)
      | none => none
    | none => none
  | _ => none
theorem does_all {f : List Bool → Bool} : DoesN Γ X Z (gAll f) (fun vs H Q => ∃ (a : Addr) (bs : List Bool), vs = [V.ref a] ∧ SqL X.K H a (bs.map V.bl) ∧ Q (.bl (f bs)) H) := fun w xs vs σ Q z S' G r h p => by
  unfold gAll at h
  split at h
  · rename_i x
    obtain ⟨v, rfl, rx⟩ := rws_one r
    split at h
    · rename_i ws e
      split at h
      · rename_i bs e2
        cases h
        obtain ⟨a, us, rfl, q, rr⟩ := lstOf_ok G rx e
        have := blsOf_eq rr e2
        subst this
        exact ⟨a, bs, rfl, q, p.use G (Dp.bl _)⟩
      · cases h
    · cases h
  · cases h
def gAbs : OpN := fun xs S => match xs with
  | [.d (.int i)] => some (.d (.int (if i < 0 then -i else i)), S)
  | _ => none
def gInt1 : OpN := fun xs S => match xs with
  | [.d (.int i)] => some (.d (.int i), S)
  | [.d (.bool b)] => some (.d (.int (if b = true then 1 else 0)), S)
  | _ => none
theorem does_int1 : DoesN Γ X Z gInt1 (fun xs H Q => (∃ i, xs = [.int i] ∧ Q (.int i) H) ∨ ∃ k, xs = [.bl k] ∧ Q (.int (if k then 1 else 0)) H) := fun w xs vs σ Q z S' G r h p => by
  unfold gInt1 at h
  split at h
  · rename_i i
    cases h
    obtain ⟨v, rfl, rx⟩ := rws_one r
    cases (show Dp X.K w.im v (.int i) from rx)
    exact .inl ⟨i, rfl, p.use G (Dp.int _)⟩
  · rename_i i
    cases h
    obtain ⟨v, rfl, rx⟩ := rws_one r
    cases (show Dp X.K w.im v (.bool i) from rx)
    exact .inr ⟨i, rfl, p.use G (Dp.int _)⟩
  · cases h
/-! tuple(x), list(x) -/
def gList : OpN := fun xs S => match xs with
  | [x] => match seqOf x S with
    | some ws => some (.o S.length, S ++ [.lst ws])
    | none => none
  | _ => none
def gTuple : OpN := fun xs S => match xs with
  | [.d (.tuple ds)] => some (.d (.tuple ds), S)
  | [x] => match lstOf x S with
    | some ws => match frzL (frz 6) ws S with
      | some (ds, S2) => some (.d (.tuple ds), S2)
      | none => none
    | none => none
  | _ => none
theorem does_tuple : DoesN Γ X Z gTuple (fun xs H Q => ∃ p ys, xs = [.ref p] ∧ ((SqL X.K H p ys ∧ ∀ l, H l = none → Q (.ref l) (upd H l (.tup ys))) ∨ (SqT X.K H p ys ∧ Q (.ref p) H))) := fun w xs vs σ Q z S' G r h p => by
  unfold gTuple at h
  split at h
  · rename_i ds
    cases h
    obtain ⟨v, rfl, rx⟩ := rws_one r
    cases (show Dp X.K w.im v (.tuple ds) from rx) with
    | tup q d => exact ⟨_, _, rfl, .inr ⟨SqT.mono (im_sub w) q, p.use G (Dp.tup q d)⟩⟩
  · rename_i x _
    obtain ⟨v, rfl, rx⟩ := rws_one r
    split at h
    · rename_i ws e
      split at h
      · rename_i ds S2 e2
        cases h
        obtain ⟨a, us, rfl, q, rr⟩ := lstOf_ok G rx e
        obtain ⟨F, dd⟩ := frzL_ok (Γ := Γ) (frz_ok 6) ws w us ds _ G rr e2
        refine ⟨a, us, rfl, .inl ⟨q, ?_⟩⟩
        have p2 : Post Γ X.K (RW X.K) ⟨w.μ, S', w.H⟩ σ Z (.ok (.d (.tuple ds)) S') Q := p.mono F.le
        exact Post.tup (w := ⟨w.μ, S', w.H⟩) p2 F.good dd
      · cases h
    · cases h
  · cases h
end
end G
set_option Elab.async false
set_option linter.all false
set_option maxRecDepth 100000
set_option maxHeartbeats 4000000
set_option autoImplicit false
/-! G5: further built-ins, over the heap -/
namespace PySem.AutoSeq1
open PySem
theorem g_extend_tup (l : Addr) (items : Array Value) (n : Nat) (b : Addr) (items2 : Array Value) (n2 : Nat) (dd : Option Addr) (sl : Array (Option Value)) (hs0 : ¬(!items.isEmpty && Builtin.List.listTooLong (items.size + items2.size)) = true) (hs1 : items.size ≤ sizeLine) (hs2 : items.size + items2.size ≤ sizeLine + 1) :
    Meets (Builtin.«list.extend» ⟨[.ref l, .ref b], []⟩) (fun _ R s => s.heap.get? l = some { cls := .type "list", dict := none, data := .seq items n, slots := #[] } ∧ s.heap.get? b = some { cls := .type "tuple", dict := dd, data := .seq items2 n2, slots := sl } ∧ R (.ok (.ret Value.none)) { s with heap := s.heap.update l (Obj.mapSeq fun x => x ++ items2), toks := s.toks }) :=
  .of_wp fun prog w A R s h => by
    obtain ⟨hp, g, d, tk, os⟩ := s; obtain ⟨hl, hb, h⟩ := h; have f1 := idx_int; have f2 := sub_tuple_tuple; have f3 := sub_list_list; have f4 := sub_tuple_list; have f5 := sub_list_tuple;
    have hz' : (items ++ items2).size ≤ sizeLine + 1 := by rw [Array.size_append]; exact hs2
    wp_walk using (wpAny_updateSeq hl rfl (hz := hs1) (_hz' := hz')), wpAny_loadPart' hl, wpAny_loadPart' hb; exact ⟨_, rfl, h⟩
end PySem.AutoSeq1
namespace PySem
open PySem.W
section
variable {prog : Program} {w : World} {A : Around} {E : Value → Shared → Prop} {s : Shared}
theorem g_sum_tup {l : Addr} {xs : Array (Int × Tok)} {Q : Value → Shared → Prop} (hh : A.handled = none) (hl : s.heap.IsTuple l (intItems xs))
    (h : ∀ h' tk t', (∀ b o, s.heap.get? b = some o → h'.get? b = some o) → Q (.int (preSum (numAt xs) xs.size) t') { s with heap := h', toks := tk }) :
    wpAny (model prog w) A (call (.builtin "sum") [.ref l]) Q E s := by
  have hlt : l < s.heap.objs.size := by obtain ⟨_, e, _⟩ := hl; exact Heap.lt_size e
  refine call_sum_walkG (wpAny_pyIter_tuple hl ?_)
  refine ⟨_, [_, l], [_], _, _, _, numAt xs, rfl, Walks.tuple (A := A.in1) hh _ l (Nat.ne_of_lt hlt) (intItems xs), ⟨⟨_, Heap.get?_push_size _ rfl, rfl, rfl⟩, hl.push _⟩, fun b hb => ?_, (fun _ _ => intItems_at), fun h' tk t' hk => ?_⟩
  · show b < (s.heap.push _).objs.size
    rw [Heap.size_push]
    rcases List.mem_cons.mp hb with rfl | hb
    · exact Nat.lt_succ_self _
    · rcases List.mem_cons.mp hb with rfl | hb
      · exact Nat.lt_succ_of_lt hlt
      · cases hb
  · have := h h' tk t' (fun b o e => hk b o (fun hm => by
      have := Heap.lt_size e
      rw [List.mem_singleton.mp hm] at this
      exact Nat.lt_irrefl _ this) (Heap.get?_push_of_some _ e))
    simpa [intItems] using this
theorem g_args_min2 (a b : Value) : argsOk "min" ⟨[a, b], []⟩ := by unfold argsOk; kernel_rfl
theorem g_args_max2 (a b : Value) : argsOk "max" ⟨[a, b], []⟩ := by unfold argsOk; kernel_rfl
theorem g_getD_at {α : Type} {l : List α} {d y : α} {k : Nat} (h : k < l.length) (e : l.getD k d = y) : l[k]? = some y := by
  rw [List.getD_eq_getElem?_getD, List.getElem?_eq_getElem h] at e
  rw [List.getElem?_eq_getElem h]
  exact congrArg some e

theorem g_min2 {a b : Value} {x : PyData} {xs : List PyData} {as : List Addr} {Q : Value → Shared → Prop} (hh : A.handled = none) (hr : ReadsAll s.heap [a, b] (x :: xs) as) (ha : AlikeAll (x :: xs)) (hu : A.units + 1 + PyData.depthAll (x :: xs) < cLine)
    (h : ∀ (i : Nat) v h' tk, [a, b][i]? = some v → (x :: xs)[i]? = some (minD x xs) → (∀ b o, s.heap.get? b = some o → h'.get? b = some o) → Q v { s with heap := h', toks := tk }) :
    wpAny (model prog w) A (call (.builtin "min") [a, b]) Q E s := by
  have hname : (toString "min" ++ toString ".loop" : String) = "min.loop" := by decide
  have hn : [a, b].length = xs.length + 1 := by simpa using readsAll_len (vs := #[a, b]) hr
  refine call_function_tree F.kind_min F.plain_min F.entry_min (g_args_min2 _ _) ?_
  show wpAny _ A.in1 (Builtin.Builtins.bindParams "min" ["key", "default"] 0 ⟨[], []⟩ >>= _) _ _ s
  refine wpAny_bind (wpAny_of_eq (show Builtin.Builtins.bindParams "min" ["key", "default"] 0 ⟨[], []⟩ = pure [none, none] from rfl) ?_)
  show wpAny _ A.in1 (newTuple [a, b] >>= _) _ _ s
  refine wpAny_bind (wpAny_newObj_type ?_)
  have hT : (s.heap.push { cls := .type "tuple", data := .seq #[a, b] }).IsTuple s.heap.objs.size #[a, b] := ⟨_, Heap.get?_push_size _ rfl, rfl, 0, rfl⟩
  have hr1 : ReadsAll (s.heap.push { cls := .type "tuple", data := .seq #[a, b] }) (#[a, b] : Array Value).toList (x :: xs) as := PyProof.Rows.ReadsAll.keeps (fun b o e => Heap.get?_push_of_some _ e) hr
  refine wpAny_bind (iter_tupleW (A := A.in1) (s := { s with heap := s.heap.push { cls := .type "tuple", data := .seq #[a, b] } }) hh hT fun s₂ e W hst hfp hw hkeep => ?_)
  refine wpAny_bind (wpAny_newObj_type ?_)
  have hSf : s₂.heap.objs.size ∉ _ := fun hm => Nat.lt_irrefl _ (hfp _ hm)
  rw [hname]
  refine wpAny_pure ⟨plainId_quiet F.plain_min_loop _, codeAny_min_loop_firstH W _ hw _ (cmpIn_lt (s := { s with heap := s.heap.push { cls := .type "tuple", data := .seq #[a, b] } }) (A := A.in1) hr1 ha (by show A.units + 1 + _ < _; exact hu)) s₂.heap.objs.size hSf (fresh_in hkeep) _ (by show 0 < 2; decide) (fun b o e => Heap.get?_push_of_some _ (hkeep b o e)) (W.frame 0 s₂ _ s₂.toks hst (Nat.le_refl _) fun b _ o e => Heap.get?_push_of_some _ e) (Heap.get?_push_size _ rfl) fun v s' hP hm => ?_⟩
  have m := Moved.drop_new (tk := s₂.toks) hm (Nat.le_refl _)
  obtain ⟨h', tk, rfl, hk'⟩ := moved_old e rfl m
  have e2 := argBest_fold PySem.W.dataLt PyData.none x xs xs.length (Nat.le_refl _)
  rw [List.take_length] at e2
  have e1 : (#[a, b] : Array Value).size - 1 = xs.length := by
    have : (#[a, b] : Array Value).size = [a, b].length := rfl
    omega
  rw [e1] at hP
  refine h _ v h' tk (by simpa using hP) ?_ fun b o eb => hk' b o (Heap.get?_push_of_some _ eb)
  have hlt : argBest (fun i j => PySem.W.dataLt ((x :: xs).getD i PyData.none) ((x :: xs).getD j PyData.none)) xs.length < (x :: xs).length := by
    have := e2.1
    simp only [List.length_cons]; omega
  exact g_getD_at hlt e2.2

theorem g_max2 {a b : Value} {x : PyData} {xs : List PyData} {as : List Addr} {Q : Value → Shared → Prop} (hh : A.handled = none) (hr : ReadsAll s.heap [a, b] (x :: xs) as) (ha : AlikeAll (x :: xs)) (hu : A.units + 1 + PyData.depthAll (x :: xs) < cLine)
    (h : ∀ (i : Nat) v h' tk, [a, b][i]? = some v → (x :: xs)[i]? = some (maxD x xs) → (∀ b o, s.heap.get? b = some o → h'.get? b = some o) → Q v { s with heap := h', toks := tk }) :
    wpAny (model prog w) A (call (.builtin "max") [a, b]) Q E s := by
  have hname : (toString "max" ++ toString ".loop" : String) = "max.loop" := by decide
  have hn : [a, b].length = xs.length + 1 := by simpa using readsAll_len (vs := #[a, b]) hr
  refine call_function_tree F.kind_max F.plain_max F.entry_max (g_args_max2 _ _) ?_
  show wpAny _ A.in1 (Builtin.Builtins.bindParams "max" ["key", "default"] 0 ⟨[], []⟩ >>= _) _ _ s
  refine wpAny_bind (wpAny_of_eq (show Builtin.Builtins.bindParams "max" ["key", "default"] 0 ⟨[], []⟩ = pure [none, none] from rfl) ?_)
  show wpAny _ A.in1 (newTuple [a, b] >>= _) _ _ s
  refine wpAny_bind (wpAny_newObj_type ?_)
  have hT : (s.heap.push { cls := .type "tuple", data := .seq #[a, b] }).IsTuple s.heap.objs.size #[a, b] := ⟨_, Heap.get?_push_size _ rfl, rfl, 0, rfl⟩
  have hr1 : ReadsAll (s.heap.push { cls := .type "tuple", data := .seq #[a, b] }) (#[a, b] : Array Value).toList (x :: xs) as := PyProof.Rows.ReadsAll.keeps (fun b o e => Heap.get?_push_of_some _ e) hr
  refine wpAny_bind (iter_tupleW (A := A.in1) (s := { s with heap := s.heap.push { cls := .type "tuple", data := .seq #[a, b] } }) hh hT fun s₂ e W hst hfp hw hkeep => ?_)
  refine wpAny_bind (wpAny_newObj_type ?_)
  have hSf : s₂.heap.objs.size ∉ _ := fun hm => Nat.lt_irrefl _ (hfp _ hm)
  rw [hname]
  refine wpAny_pure ⟨plainId_quiet F.plain_max_loop _, codeAny_max_loop_firstH W _ hw _ (cmpIn_gt (s := { s with heap := s.heap.push { cls := .type "tuple", data := .seq #[a, b] } }) (A := A.in1) hr1 ha (by show A.units + 1 + _ < _; exact hu)) s₂.heap.objs.size hSf (fresh_in hkeep) _ (by show 0 < 2; decide) (fun b o e => Heap.get?_push_of_some _ (hkeep b o e)) (W.frame 0 s₂ _ s₂.toks hst (Nat.le_refl _) fun b _ o e => Heap.get?_push_of_some _ e) (Heap.get?_push_size _ rfl) fun v s' hP hm => ?_⟩
  have m := Moved.drop_new (tk := s₂.toks) hm (Nat.le_refl _)
  obtain ⟨h', tk, rfl, hk'⟩ := moved_old e rfl m
  have e2 := argBest_fold (fun p q => PySem.W.dataLt q p) PyData.none x xs xs.length (Nat.le_refl _)
  rw [List.take_length] at e2
  have e1 : (#[a, b] : Array Value).size - 1 = xs.length := by
    have : (#[a, b] : Array Value).size = [a, b].length := rfl
    omega
  rw [e1] at hP
  refine h _ v h' tk (by simpa using hP) ?_ fun b o eb => hk' b o (Heap.get?_push_of_some _ eb)
  have hlt : argBest (fun i j => (fun p q => PySem.W.dataLt q p) ((x :: xs).getD i PyData.none) ((x :: xs).getD j PyData.none)) xs.length < (x :: xs).length := by
    have := e2.1
    simp only [List.length_cons]; omega
  exact g_getD_at hlt e2.2

end
end PySem
set_option Elab.async false
set_option linter.all false
set_option maxRecDepth 100000
set_option maxHeartbeats 4000000
/-! G6: calls: further built-ins, methods of lists, own defs -/
namespace G
open PySem PySem.Spec L2
set_option autoImplicit false
section
variable {Γ : Gm} {X : Cx} {Z : WX} {pos : Pos}
/-! ### sum -/
theorem call_sumA (hc : X.calm = true) : CallR X (.builtin "sum") (fun vs H Q => ∃ (a : Addr) (ns : List Int), vs = [V.ref a] ∧ (SqL X.K H a (ns.map V.int) ∨ SqT X.K H a (ns.map V.int)) ∧ Q (.int ns.sum) H) := by
  intro pins s σ H vs us Q I r h
  obtain ⟨a, ns, rfl, q, k⟩ := h
  rcases q with q | q
  · exact cr_sum hc pins s σ H _ us Q I r ⟨a, ns, rfl, q, k⟩
  · obtain ⟨its, rv, hl, _⟩ := I.tuple q
    rw [Vals.ref1 r]
    obtain ⟨xs, e⟩ := (rv.ints).allInts.items
    have hi := rv.ints
    have hn : numsOf (intItems xs).toList = ns := by rw [← e]; exact hi.numsOf
    rw [nums_intItems] at hn
    rw [e] at hl
    refine PySem.g_sum_tup (I.ok.hd hc) hl fun h' tk t' hk => ⟨.int ns.sum, H, I.kept hk, ?_, k⟩
    rw [preSum_eq, List.take_of_length_le (by simp), hn]
    exact ⟨t', rfl⟩
def gSum : OpN := fun xs S => match xs with
  | [x] => match seqOf x S with
    | some ws => match intsOf ws with
      | some ns => some (.d (.int ns.sum), S)
      | none => none
    | none => none
  | _ => none
theorem does_sum : DoesN Γ X Z gSum (fun vs H Q => ∃ (a : Addr) (ns : List Int), vs = [V.ref a] ∧ (SqL X.K H a (ns.map V.int) ∨ SqT X.K H a (ns.map V.int)) ∧ Q (.int ns.sum) H) := fun w xs vs σ Q z S' G r h p => by
  unfold gSum at h
  split at h
  · obtain ⟨v, rfl, rx⟩ := rws_one r
    split at h
    · rename_i ws e
      split at h
      · rename_i ns e2
        cases h
        obtain ⟨a, us, rfl, q, rr⟩ := seqOf_ok G rx e
        rw [intsOf_eq e2] at rr
        rw [Paired.map_int rr] at q
        exact ⟨a, ns, rfl, q, p.use G (Dp.int _)⟩
      · cases h
    · cases h
  · cases h
/-! ### min, max of two, of three; sorted -/
def datsOf : List W → Option (List PyData)
  | [] => some []
  | .d x :: r => match datsOf r with
    | some l => some (x :: l)
    | none => none
  | _ :: _ => none
theorem datsOf_eq : ∀ {ws : List W} {ds : List PyData}, datsOf ws = some ds → ws = ds.map .d
  | [], _, h => by cases h; rfl
  | .d i :: r, ns, h => by
    unfold datsOf at h
    split at h
    · rename_i l e
      cases h
      rw [datsOf_eq e]; rfl
    · cases h
  | .o _ :: _, _, h => by cases h
  | .v _ :: _, _, h => by cases h
@[simp] theorem datsOf_map (ds : List PyData) : datsOf (ds.map .d) = some ds := by
  induction ds with
  | nil => rfl
  | cons n ns ih => simp [datsOf, ih]
def isNn : PyData → Bool
  | .none => true
  | _ => false
def alikeOk (ds : List PyData) : Bool := (ds.all fun d => ds.all fun e => PySem.W.alike d e) && ds.all (fun d => !isNn d && decide (d.depth ≤ 60))
theorem alikeOk_ok {ds : List PyData} (h : alikeOk ds = true) : PySem.W.AllAlike ds ∧ (∀ d ∈ ds, d ≠ .none ∧ d.depth ≤ 60) := by
  unfold alikeOk at h
  simp only [Bool.and_eq_true, List.all_eq_true, decide_eq_true_eq] at h
  refine ⟨fun d hd e he => h.1 d hd e he, fun d hd => ⟨fun z => ?_, (h.2 d hd).2⟩⟩
  have := (h.2 d hd).1
  rw [z] at this
  cases this
theorem depthAll_le {n : Nat} : ∀ {ds : List PyData}, (∀ d ∈ ds, d.depth ≤ n) → PyData.depthAll ds ≤ n
  | [], _ => by simp [PyData.depthAll]
  | d :: ds, h => by
    have h1 := h d (by simp)
    have h2 := depthAll_le (n := n) (ds := ds) fun e he => h e (by simp [he])
    simp only [PyData.depthAll]
    omega
def rMM (K : PySem.W.Frag) (f : PyData → List PyData → PyData) (n : Nat) : List V → Hp → VK → Prop := fun vs H Q => ∃ x xs, DpAll K H vs (x :: xs) ∧ vs.length = n ∧ alikeOk (x :: xs) = true ∧ ∀ (i : Nat) v, vs[i]? = some v → (x :: xs)[i]? = some (f x xs) → Q v H
theorem vals_get' : ∀ {xs : List V} {us : List Value} {i : Nat} {u : Value}, Vals xs us → us[i]? = some u → ∃ x, xs[i]? = some x ∧ RelV x u
  | _, _, _, _, .nil, e => by simp at e
  | _, _, 0, _, .cons r _, e => by simp at e; subst e; exact ⟨_, rfl, r⟩
  | _, _, i + 1, x, .cons _ t, e => by
    obtain ⟨u, h1, h2⟩ := vals_get' (i := i) (u := x) t (by simpa using e)
    exact ⟨u, by simpa using h1, h2⟩
theorem alikeAll_of {ds : List PyData} (h : alikeOk ds = true) : PySem.W.AlikeAll ds := ⟨fun x hx y hy => (alikeOk_ok h).1 x hx y hy, fun x hx => ((alikeOk_ok h).2 x hx).1⟩
theorem call_min2D (hc : X.calm = true) (hu : Rm X) : CallR X (.builtin "min") (rMM X.K PySem.W.minD 2) := by
  intro pins s σ H vs us Q I r h
  obtain ⟨x, xs, d, hn, ho, k⟩ := h
  obtain ⟨v1, v2, rfl⟩ : ∃ v1 v2, vs = [v1, v2] := by
    match vs, hn with
    | [a, b], _ => exact ⟨a, b, rfl⟩
  obtain ⟨a, b, rfl, _, _⟩ := vals2 r
  obtain ⟨as, rr⟩ := Dp.readsAll I (x :: xs) _ _ d r
  refine PySem.g_min2 (I.ok.hd hc) rr (alikeAll_of ho) ?_ fun i v h' tk e1 e2 hk => ?_
  · have := depthAll_le (n := 60) fun e he => ((alikeOk_ok ho).2 e he).2
    unfold Rm at hu; omega
  · obtain ⟨y, h1, h2⟩ := vals_get' r e1
    exact ⟨y, H, I.kept hk, h2, k i y h1 e2⟩
theorem call_max2D (hc : X.calm = true) (hu : Rm X) : CallR X (.builtin "max") (rMM X.K PySem.W.maxD 2) := by
  intro pins s σ H vs us Q I r h
  obtain ⟨x, xs, d, hn, ho, k⟩ := h
  obtain ⟨v1, v2, rfl⟩ : ∃ v1 v2, vs = [v1, v2] := by
    match vs, hn with
    | [a, b], _ => exact ⟨a, b, rfl⟩
  obtain ⟨a, b, rfl, _, _⟩ := vals2 r
  obtain ⟨as, rr⟩ := Dp.readsAll I (x :: xs) _ _ d r
  refine PySem.g_max2 (I.ok.hd hc) rr (alikeAll_of ho) ?_ fun i v h' tk e1 e2 hk => ?_
  · have := depthAll_le (n := 60) fun e he => ((alikeOk_ok ho).2 e he).2
    unfold Rm at hu; omega
  · obtain ⟨y, h1, h2⟩ := vals_get' r e1
    exact ⟨y, H, I.kept hk, h2, k i y h1 e2⟩
def gMM (f : PyData → List PyData → PyData) (n : Nat) : OpN := fun xs S => match datsOf xs with
  | some (x :: r) => if xs.length = n ∧ alikeOk (x :: r) = true then some (.d (f x r), S) else none
  | _ => none
theorem does_mm {f : PyData → List PyData → PyData} {n : Nat} : DoesN Γ X Z (gMM f n) (rMM X.K f n) := fun w xs vs σ Q z S' G r h p => by
  unfold gMM at h
  split at h
  · rename_i x rr e
    split at h
    · rename_i hm
      cases h
      have e' := datsOf_eq e
      subst e'
      have dd := rws_of_data r
      refine ⟨x, rr, DpAll.mono (im_sub w) dd, by rw [Paired.len r]; exact hm.1, hm.2, fun i v h1 h2 => p.use G ?_⟩
      obtain ⟨v', h3, h4⟩ := Paired.get (DpAll.paired dd) h2
      rw [h1] at h3
      cases h3
      exact h4
    · cases h
  · cases h
def isTup1 : PyData → Bool
  | .tuple (_ :: _) => true
  | _ => false
def noTup : PyData → Bool
  | .tuple _ => false
  | .none => false
  | _ => true
def sortOk (ds : List PyData) : Bool := alikeOk ds && (ds.all isTup1 || ds.all noTup) && szOk ds.length
theorem sortable_of {ds : List PyData} (h : (ds.all isTup1 || ds.all noTup) = true) : PySem.W.Sortable ds := by
  rcases Bool.or_eq_true_iff.mp h with h | h
  · refine .inl fun d hd => ?_
    have := List.all_eq_true.mp h d hd
    cases d with
    | tuple l => cases l with
      | nil => cases this
      | cons x r => exact ⟨x, r, rfl⟩
    | _ => cases this
  · refine .inr fun d hd => ?_
    have := List.all_eq_true.mp h d hd
    cases d with
    | tuple l => cases this
    | none => cases this
    | _ => exact ⟨by simp, by simp⟩
def srt (ds : List PyData) : List PyData := ds.mergeSort (PySem.W.dataLe false id)
def rSortD (K : PySem.W.Frag) : List V → Hp → VK → Prop := fun vs H Q => ∃ (a : Addr) (xs : List V) (ds : List PyData) (R : V → PyData → Prop), vs = [V.ref a] ∧ SqL K H a xs ∧ DpAll K H xs ds ∧ sortOk ds = true ∧ Paired R xs ds ∧
  ∀ ys, Paired R ys (srt ds) → ∀ p, H p = none → Q (.ref p) (upd H p (.lst ys))
theorem each_of {R : V → PyData → Prop} : ∀ {xs : List V} {us : List Value} {ds : List PyData}, Vals xs us → Paired R xs ds → PySem.W.EachIs (fun (u : Value) (d : PyData) => ∃ v, RelV v u ∧ R v d) us ds
  | _, _, _, .nil, .nil => .nil
  | _, _, _, .cons r t, .cons q s => .cons ⟨_, r, q⟩ (each_of t s)
theorem of_each {R : V → PyData → Prop} : ∀ {us : List Value} {ds : List PyData}, PySem.W.EachIs (fun (u : Value) (d : PyData) => ∃ v, RelV v u ∧ R v d) us ds → ∃ xs, Vals xs us ∧ Paired R xs ds
  | _, _, .nil => ⟨[], .nil, .nil⟩
  | _, _, .cons ⟨v, r, q⟩ t => by
    obtain ⟨xs, h1, h2⟩ := of_each t
    exact ⟨v :: xs, .cons r h1, .cons q h2⟩
theorem each_reads {h : Heap} : ∀ {us : List Value} {ds : List PyData} {as : List Addr}, ReadsAll h us ds as → PySem.W.EachIs (fun (u : Value) (d : PyData) => ∃ as, Reads h u (id d) as) us ds
  | _, _, _, .nil => .nil
  | _, _, _, .cons r t => .cons ⟨_, r⟩ (each_reads t)
theorem call_sortD (hu : Rm X) : CallR X (.builtin "sorted") (rSortD X.K) := by
  intro pins s σ H vs us Q I r h
  obtain ⟨a, xs, ds, R, rfl, hq, hd, ho, hp, k⟩ := h
  unfold sortOk at ho
  rw [Bool.and_eq_true, Bool.and_eq_true] at ho
  obtain ⟨⟨h1, h2⟩, h3⟩ := ho
  obtain ⟨its, rv, hl, hz⟩ := I.list hq
  obtain ⟨as, rr⟩ := Dp.readsAll I ds _ _ hd rv
  rw [Vals.ref1 r]
  have hlen : ds.length ≤ sizeLine := Nat.le_of_lt (sz_line h3)
  refine PySem.W.sorted_data (β := PyData) (enc := id) (bs := ds) hl.isList (each_of rv hp) (each_reads rr) (by rw [List.map_id]; exact (alikeOk_ok h1).1) (by rw [List.map_id]; exact sortable_of h2) hlen ?_ fun out ho2 he => ?_
  · intro b hb
    have := ((alikeOk_ok h1).2 b hb).2
    unfold Rm at hu
    show X.A.units + 2 + b.depth < cLine
    omega
  · obtain ⟨ys, v1, v2⟩ := of_each he
    obtain ⟨ep, he'⟩ := PyProof.Rows.sortedAll_at s.heap its (List.toArray out)
    have hlen2 : ys.length ≤ sizeLine := by rw [v1.length, ho2]; exact hlen
    exact ⟨.ref _, upd H (s.heap.objs.size + 1) (.lst ys), I.laid (t' := s.toks) (fun _ _ => PyProof.Rows.sortedAll_old) (Nat.le_succ _) ⟨hlen2, out, ep, v1, he'⟩, rfl, k ys v2 _ (I.hok.fresh (Nat.le_succ _))⟩
def gSort : OpN := fun xs S => match xs with
  | [x] => match lstOf x S with
    | some ws => match datsOf ws with
      | some ds => if sortOk ds = true then some (.o S.length, S ++ [.lst ((srt ds).map .d)]) else none
      | none => none
    | none => none
  | _ => none
theorem does_sort : DoesN Γ X Z gSort (rSortD X.K) := fun w xs vs σ Q z S' G r h p => by
  unfold gSort at h
  split at h
  · obtain ⟨v, rfl, rx⟩ := rws_one r
    split at h
    · rename_i ws e
      split at h
      · rename_i ds e2
        split at h
        · rename_i hm
          cases h
          obtain ⟨a, us, rfl, q, rr⟩ := lstOf_ok G rx e
          have e' := datsOf_eq e2
          subst e'
          have dd := rws_of_data rr
          exact ⟨a, us, ds, Dp X.K w.im, rfl, q, DpAll.mono (im_sub w) dd, hm, DpAll.paired dd, fun ys hy => Post.lst p G (rws_data (DpAll.of hy))⟩
        · cases h
      · cases h
    · cases h
  · cases h

/-! ### isinstance -/
inductive Kd where | no | bl | it | st | ls | tp | dc
  deriving DecidableEq
def Kd.name : Kd → String
  | .no => "NoneType" | .bl => "bool" | .it => "int" | .st => "str" | .ls => "list" | .tp => "tuple" | .dc => "dict"
def kdD : PyData → Kd
  | .none => .no | .bool _ => .bl | .int _ => .it | .str _ => .st | .list _ => .ls | .tuple _ => .tp | .dict _ => .dc
def kdC : Option Cell → Option Kd
  | some (.lst _) => some .ls
  | some (.fz _) => some .ls
  | some (.dic _) => some .dc
  | some (.dit _) => none
  | some (.fd _) => none
  | some (.dix _) => none
  | some (.fdx _) => none
  | none => none
def kdOf (x : W) (S : Sto) : Option Kd := match x with
  | .d d => some (kdD d)
  | .o n => kdC S[n]?
  | .v _ => none
  | .t _ => some .tp
  | .u _ => none
  | .u2 _ => none
  | .w _ => none
  | .xc _ _ _ => none
theorem kdOf_ok {K : PySem.W.Frag} {w : Wd} {v : V} {x : W} {k : Kd} (G : Good Γ K w) (r : RW K w v x) (h : kdOf x w.S = some k) : TyX K w.H v (.type k.name) := by
  cases x with
  | d x =>
    cases h
    cases x with
    | none => cases (show Dp K w.im v .none from r); exact .base .non
    | bool b => cases (show Dp K w.im v (.bool b) from r); exact .base (.bl b)
    | int b => cases (show Dp K w.im v (.int b) from r); exact .base (.int b)
    | str b => cases (show Dp K w.im v (.str b) from r); exact .base (.str b)
    | list b =>
      cases (show Dp K w.im v (.list b) from r) with
      | lst q _ =>
        rcases SqL.mono (im_sub w) q with (q | ⟨o, q⟩) | ⟨o, _, _, q, c, _⟩
        · exact .base (.lst q)
        · exact .base (.frz q)
        · exact .kList q c
    | tuple b =>
      cases (show Dp K w.im v (.tuple b) from r) with
      | tup q _ =>
        rcases SqT.mono (im_sub w) q with (q | ⟨o, q⟩) | ⟨o, _, _, q, c, _⟩
        · exact .base (.tup q)
        · exact .fTuple q
        · exact .kTuple q c
    | dict b => cases (show Dp K w.im v (.dict b) from r)
  | o n =>
    obtain ⟨a, ha, rfl⟩ := r
    have h : kdC w.S[n]? = some k := h
    cases e : w.S[n]? with
    | none => rw [e] at h; cases h
    | some c =>
      rw [e] at h
      have q := G.cell n a _ ha e
      cases c with
      | lst ws => cases h; obtain ⟨vs, q, _⟩ := q; exact .base (.lst q)
      | fz x => cases h; obtain ⟨vs, ds, _, q, _⟩ := q; exact .base (.lst q)
      | dic kvs => cases h; obtain ⟨vs, q, _⟩ := q; exact .base (.dK q)
      | dit kvs => cases h
      | fd kvs => cases h
      | dix kvs => cases h
      | fdx kvs => cases h
  | v y => cases h
  | t y =>
    obtain ⟨a, _, _, rfl, _, q, _⟩ := r
    cases h
    exact .base (.tup (Wd.im_some q).1)
  | u y => cases h
  | u2 y => cases h
  | w y => cases h
  | xc _ _ _ => cases h
def isK (k t : Kd) : Bool := decide (k = t) || (match k, t with | .bl, .it => true | _, _ => false)
theorem isK_ok (k t : Kd) : kitB k.name t.name = some (isK k t) := by
  cases k <;> cases t <;> decide +kernel
def fIsi (t : Kd) (f : Fe W) : Fe W := fun ρ S => (f ρ S).bind fun x S1 => match kdOf x S1 with
  | some k => .ok (.d (.bool (isK k t))) S1
  | none => .bad
theorem ve_isi (t : Kd) {a : Expr} {f : Fe W} {p p2 : Pos} (ha : VE Γ X Z a f) (hg : Gl X "isinstance") (hm : X.mg "isinstance" = none) (hg2 : Gl X (Str.ofString t.name)) (hm2 : X.mg (Str.ofString t.name) = none) (hv2 : bootBuiltins (Str.ofString t.name) = some (.type t.name))
    (hn2 : Str.ofString t.name ≠ "__name__") (hd2 : (Str.ofString t.name == ("__debug__" : Str)) = false)
    (hv : bootBuiltins "isinstance" = some (.builtin "isinstance") := by decide +kernel)
    (he : starEach [a, .Name (Str.ofString t.name) p2] X.env = (false, eval a X.env) :: starEach [.Name (Str.ofString t.name) p2] X.env := by rfl)
    (he2 : starEach [.Name (Str.ofString t.name) p2] X.env = (false, eval (.Name (Str.ofString t.name) p2) X.env) :: starEach [] X.env := by rfl)
    (hpl : (backTo pos (starEach [.Name (Str.ofString t.name) p2] X.env)).any (·.1) = false := by rfl) :
    VE Γ X Z (.Call (.Name "isinstance" p) [a, .Name (Str.ofString t.name) p2] [] pos) (fIsi t f) := by
  refine ⟨PE.mono (pe_callB call_isi hg hm hv (pa_cons ha.pe (pa_cons (pe_bltn (v := .ty t.name) hg2 hm2 hv2 rfl hn2 hd2) pa_nil he2) he) (by decide) (by decide) he hpl) fun σ H Q q => liftR.imp (seq1 (R := RW X.K) q) fun v H1 ⟨x, w, e, G, r, p⟩ => ?_⟩
  subst e
  split at p
  · rename_i k e
    exact ⟨v, .ty t.name, .type k.name, .type t.name, isK k t, rfl, .ty _, kdOf_ok G r e, kit_ty (isK_ok k t), p.use G (Dp.bl _)⟩
  · exact p.elim

/-! ### in, not in: data -/
def rInA (K : PySem.W.Frag) (neg : Bool) : R2 := fun x y H Q => ∃ d ds, Dp K H x d ∧ (Dp K H y (.list ds) ∨ Dp K H y (.tuple ds)) ∧ SeqAt.shaped d = true ∧ SeqAt.shaped (.list ds) = true ∧ Q (.bl (if neg = true then !(ds.any fun z => PyData.eqv z d) else ds.any fun z => PyData.eqv z d)) H
theorem shaped_lt {ds : List PyData} (h : SeqAt.shaped (.list ds) = true) : PyData.canLayAll0 ds = true := SeqAt.canLay_of_shaped h
theorem op_inA (hu : Rm X) : OpR X (compareOp .In) (rInA X.K false) := by
  intro pins s σ H x y v u Q I rx ry h
  obtain ⟨d, ds, hd, he, sd, se, q⟩ := h
  obtain ⟨as, r1⟩ := Dp.reads I d x v hd rx
  have hu : X.A.units + 65 < cLine := by unfold Rm at hu; omega
  rcases he with he | he
  · obtain ⟨bs, r2⟩ := Dp.reads I (.list ds) y u he ry
    exact SeqAt.in_list_reads r2 r1 (shaped_lt se) (SeqAt.canLay_of_shaped sd) (PyProof.Rows.room_in_shaped sd hu) ⟨.bl _, H, I, rfl, q⟩
  · obtain ⟨bs, r2⟩ := Dp.reads I (.tuple ds) y u he ry
    exact SeqAt.in_tuple_reads r2 r1 (shaped_lt se) (SeqAt.canLay_of_shaped sd) (PyProof.Rows.room_in_shaped sd hu) ⟨.bl _, H, I, rfl, q⟩
theorem op_notInA (hu : Rm X) : OpR X (compareOp .NotIn) (rInA X.K true) := by
  intro pins s σ H x y v u Q I rx ry h
  obtain ⟨d, ds, hd, he, sd, se, q⟩ := h
  obtain ⟨as, r1⟩ := Dp.reads I d x v hd rx
  have hu : X.A.units + 65 < cLine := by unfold Rm at hu; omega
  rcases he with he | he
  · obtain ⟨bs, r2⟩ := Dp.reads I (.list ds) y u he ry
    exact SeqAt.notIn_list_reads r2 r1 (shaped_lt se) (SeqAt.canLay_of_shaped sd) (PyProof.Rows.room_in_shaped sd hu) ⟨.bl _, H, I, rfl, q⟩
  · obtain ⟨bs, r2⟩ := Dp.reads I (.tuple ds) y u he ry
    exact SeqAt.notIn_tuple_reads r2 r1 (shaped_lt se) (SeqAt.canLay_of_shaped sd) (PyProof.Rows.room_in_shaped sd hu) ⟨.bl _, H, I, rfl, q⟩
def gIn (neg : Bool) : Op2 := fun x y S => match view x S, view y S with
  | some d, some (.list ds) => if (SeqAt.shaped d && SeqAt.shaped (.list ds)) = true then some (.d (.bool (if neg = true then !(ds.any fun z => PyData.eqv z d) else ds.any fun z => PyData.eqv z d)), S) else none
  | some d, some (.tuple ds) => if (SeqAt.shaped d && SeqAt.shaped (.list ds)) = true then some (.d (.bool (if neg = true then !(ds.any fun z => PyData.eqv z d) else ds.any fun z => PyData.eqv z d)), S) else none
  | _, _ => none
theorem does_in {neg : Bool} : Does2 Γ X Z (gIn neg) (rInA X.K neg) := fun w x y vx vy σ Q z S' G rx ry h p => by
  unfold gIn at h
  split at h
  · rename_i d ds e1 e2
    split at h
    · rename_i hs
      cases h
      rw [Bool.and_eq_true] at hs
      exact ⟨d, ds, view_ok G rx e1, .inl (view_ok G ry e2), hs.1, hs.2, p.use G (Dp.bl _)⟩
    · cases h
  · rename_i d ds e1 e2
    split at h
    · rename_i hs
      cases h
      rw [Bool.and_eq_true] at hs
      exact ⟨d, ds, view_ok G rx e1, .inr (view_ok G ry e2), hs.1, hs.2, p.use G (Dp.bl _)⟩
    · cases h
  · cases h

/-! ### methods of lists -/
abbrev OpM := W → List W → Sto → Option (W × Sto)
def fMt (g : OpM) (f : Fe W) (h : Fe (List W)) : Fe W := fun ρ S => (f ρ S).bind fun x S1 => if (hpl x S1).isSome = true then (h ρ S1).bind fun xs S2 => ofO (g x xs S2) else .bad
def DoesM (Γ : Gm) (X : Cx) (Z : WX) (g : OpM) (r : V → List V → Hp → VK → Prop) : Prop := ∀ (w : Wd) (x : W) (v : V) (xs : List W) (vs : List V) (σ : L2.St) (Q : VK) (z : W) (S' : Sto), Good Γ X.K w → RW X.K w v x → RWs X.K w vs xs → g x xs w.S = some (z, S') → Post Γ X.K (RW X.K) w σ Z (.ok z S') Q → r v vs w.H Q
theorem ve_mt {name : Str} {id : String} {r : V → List V → Hp → VK → Prop} {g : OpM} {o e : Expr} {es : List Expr} {f : Fe W} {h : Fe (List W)} {apos cpos : Pos} (slot : Slot "list" name id) (hty : typeOf (.builtin id) = pure (.type "method_descriptor")) (hm : MtR X id r) (hd : DoesM Γ X Z g r) (ho : VE Γ X Z o f) (ha : VA Γ X Z (e :: es) h)
    (hbase : attributeBase o name X.env (eval o X.env) = eval o X.env := by rfl)
    (hfew : ((backTo cpos (starEach (e :: es) X.env)).all (fun x => !x.1) && (backToKw cpos (keywordEach [] X.env)).all (fun x => x.1.isSome)
      && decide ((e :: es).length + ([] : List Keyword).length + (if ([] : List Keyword).isEmpty then 0 else 1) < 30)) = true := by rfl)
    (hline : (apos.endLine == cpos.line) = true := by rfl) (hs : starEach (e :: es) X.env = (false, eval e X.env) :: starEach es X.env := by rfl) (hplain : (backTo cpos (starEach es X.env)).any (·.1) = false := by rfl) :
    VE Γ X Z (.Call (.Attribute o name apos) (e :: es) [] cpos) (fMt g f h) := by
  refine ⟨PE.mono (pe_bm PySem.F.plainAttrs_list slot hty hm ho.pe ha.pa hbase hfew hline hs hplain) fun σ H Q q => ?_⟩
  refine (liftR.bind (R := RW X.K) (k := fun x ρ S1 => if (hpl x S1).isSome = true then (h ρ S1).bind fun xs S2 => ofO (g x xs S2) else .bad) q).imp fun v H1 ⟨x, w1, ρ, e1, G1, s1, r1, p1⟩ => ?_
  subst e1
  by_cases hh : (hpl x w1.S).isSome = true
  · rw [if_pos hh] at p1
    obtain ⟨ws, hw⟩ := Option.isSome_iff_exists.mp hh
    obtain ⟨a, vs, rfl, hH, _⟩ := hpl_ok G1 r1 hw
    refine ⟨Or.inl ⟨rfl, _, SqL.of hH⟩, w1, ρ, rfl, G1, s1, (Post.bind (R := RWs X.K) p1).imp fun us H2 ⟨w2, xs, e2, G2, l2, r2, p2⟩ => ?_⟩
    subst e2
    cases e : g x xs w2.S with
    | none => rw [e] at p2; exact p2.elim
    | some q =>
      obtain ⟨z, S'⟩ := q
      rw [e] at p2
      exact hd w2 x _ xs us σ Q z S' G2 (RW.mono l2 r1) r2 e p2
  · rw [if_neg hh] at p1; exact p1.elim
def gApp : OpM := fun x xs S => match x, xs with
  | .o n, [y] => match S[n]? with
    | some (.lst ws) => if szOk ws.length = true then some (.d .none, S.set n (.lst (ws ++ [y]))) else none
    | _ => none
  | _, _ => none
theorem does_app : DoesM Γ X Z gApp rAppend := fun w x v xs vs σ Q z S' G r rs h p => by
  unfold gApp at h
  split at h
  · rename_i n y
    obtain ⟨a, ha, rfl⟩ := r
    obtain ⟨u, rfl, ru⟩ := rws_one rs
    split at h
    · rename_i ws e
      split at h
      · rename_i hz
        cases h
        obtain ⟨us, q, rr⟩ := G.cell n a _ ha e
        exact ⟨a, us, u, rfl, rfl, q, by rw [Paired.len rr]; exact sz_line hz, Post.setL p G ha e rfl (Paired.app rr (.cons ru .nil)) (show Dp X.K w.im .non .none from .non)⟩
      · cases h
    · cases h
  · cases h
def gPopAt : OpM := fun x xs S => match x, xs with
  | .o n, [.d (.int i)] => match S[n]? with
    | some (.lst ws) => match ixN ws.length i with
      | some k => if szOk ws.length = true then (ws[k]?).map fun z => (z, S.set n (.lst (ws.eraseIdx k))) else none
      | none => none
    | _ => none
  | _, _ => none
theorem does_popAt : DoesM Γ X Z gPopAt rPopAt := fun w x v xs vs σ Q z S' G r rs h p => by
  unfold gPopAt at h
  split at h
  · rename_i n i
    obtain ⟨a, ha, rfl⟩ := r
    obtain ⟨u, rfl, ru⟩ := rws_one rs
    cases (show Dp X.K w.im u (.int i) from ru)
    split at h
    · rename_i ws e
      split at h
      · rename_i k e2
        split at h
        · rename_i hz
          cases e3 : ws[k]? with
          | none => rw [e3] at h; cases h
          | some z' =>
            rw [e3] at h
            cases h
            obtain ⟨us, q, rr⟩ := G.cell n a _ ha e
            obtain ⟨y, h1, h2⟩ := Paired.get rr e3
            obtain ⟨q1, q2, q3, q4⟩ := ixN_seq e2
            have hz' : ws.length ≤ 1000000 := of_decide_eq_true hz
            exact ⟨a, us, i, k, y, rfl, rfl, q, by omega, by omega, by rw [Paired.len rr]; exact q1, h1, Post.setL p G ha e rfl (Paired.erase k rr) h2⟩
        · cases h
      · cases h
    · cases h
  · cases h
/-- xs.extend(ys), ys a list or a tuple -/
def rExtA (K : PySem.W.Frag) : V → List V → Hp → VK → Prop := fun x vs H Q => ∃ l b xs zs, x = .ref l ∧ vs = [.ref b] ∧ H l = some (.lst xs) ∧ (H b = some (.lst zs) ∨ SqT K H b zs) ∧ xs.length + zs.length ≤ sizeLine ∧ Q .non (upd H l (.lst (xs ++ zs)))
theorem mt_extA : MtR X "list.extend" (rExtA X.K) := by
  intro pins s σ H x vs v us Q I rx rv h
  obtain ⟨l, b, xs, zs, rfl, rfl, hH, hB, hz, q⟩ := h
  rcases hB with hB | hB
  · exact mt_extend pins s σ H _ _ v us Q I rx rv ⟨l, b, xs, zs, rfl, rfl, hH, hB, hz, q⟩
  · cases rx
    obtain ⟨u, rfl, ru⟩ := rv.one
    cases ru
    obtain ⟨z, its, n, r, hl, e⟩ := I.lstM hH
    obtain ⟨its2, r2, ⟨o2, e2, hc2, n2, hd2⟩, hz2⟩ := I.tuple hB
    obtain ⟨c2, dd, dt2, sl⟩ := o2
    simp only at hc2 hd2
    subst hc2 hd2
    have hl2 := r2.length
    have hsz : its.toArray.size + its2.toArray.size ≤ sizeLine := by rw [List.size_toArray, List.size_toArray]; omega
    have hlong : ¬ (!its.toArray.isEmpty && Builtin.List.listTooLong (its.toArray.size + its2.toArray.size)) = true := by
      rw [notLongL hsz, Bool.and_false]
      exact Bool.false_ne_true
    refine call_meets F.slot_list_extend ⟨_, e, rfl⟩ F.entry_list_extend (F.args_list_extend_2 _ _)
      (AutoSeq1.g_extend_tup l its.toArray n b its2.toArray n2 dd sl hlong (by rw [List.size_toArray]; omega) (by omega)) ⟨e, e2, ?_⟩
    refine ⟨.non, _, I.lset (its' := its ++ its2) hH e (by simp) (r.append r2) ?_, rfl, q⟩
    rw [List.length_append]
    omega
def gExt : OpM := fun x xs S => match x, xs with
  | .o n, [.d (.tuple ds)] => match S[n]? with
    | some (.lst ws) => if szOk (ws.length + ds.length) = true then some (.d .none, S.set n (.lst (ws ++ ds.map .d))) else none
    | _ => none
  | .o n, [y] => match S[n]?, hpl y S with
    | some (.lst ws), some us => if szOk (ws.length + us.length) = true then some (.d .none, S.set n (.lst (ws ++ us))) else none
    | _, _ => none
  | _, _ => none
theorem does_ext : DoesM Γ X Z gExt (rExtA X.K) := fun w x v xs vs σ Q z S' G r rs h p => by
  unfold gExt at h
  split at h
  · rename_i n ds
    obtain ⟨a, ha, rfl⟩ := r
    obtain ⟨u, rfl, ru⟩ := rws_one rs
    split at h
    · rename_i ws e
      split at h
      · rename_i hz
        cases h
        obtain ⟨us, q, rr⟩ := G.cell n a _ ha e
        cases (show Dp X.K w.im u (.tuple ds) from ru) with
        | tup q2 d2 => exact ⟨a, _, us, _, rfl, rfl, q, .inr (SqT.mono (im_sub w) q2), by rw [Paired.len rr, Paired.len (DpAll.paired d2)]; exact Nat.le_of_lt (sz_line hz), Post.setL p G ha e rfl (Paired.app rr (rws_data d2)) (show Dp X.K w.im .non .none from .non)⟩
      · cases h
    · cases h
  · rename_i n y _
    obtain ⟨a, ha, rfl⟩ := r
    obtain ⟨u, rfl, ru⟩ := rws_one rs
    split at h
    · rename_i ws us' e e2
      split at h
      · rename_i hz
        cases h
        obtain ⟨us, q, rr⟩ := G.cell n a _ ha e
        obtain ⟨b, zs, rfl, q2, r2⟩ := hpl_ok G ru e2
        exact ⟨a, b, us, zs, rfl, rfl, q, .inl q2, by rw [Paired.len rr, Paired.len r2]; exact Nat.le_of_lt (sz_line hz), Post.setL p G ha e rfl (Paired.app rr r2) (show Dp X.K w.im .non .none from .non)⟩
      · cases h
    · cases h
  · cases h
end
end G
set_option Elab.async false
set_option linter.all false
set_option maxRecDepth 100000
set_option maxHeartbeats 4000000
/-! G7: statements, loops, comprehensions, defs -/
namespace G
open PySem PySem.Spec L2
set_option autoImplicit false
inductive Fl where
  | nx (ρ : Slt) (S : Sto)
  | rt (x : W) (S : Sto)
  | bk (ρ : Slt) (S : Sto)
  | ct (ρ : Slt) (S : Sto)
  | ex (e : Exn) (ρ : Slt) (S : Sto)
  | bad
abbrev Fs := Slt → Sto → Fl
def Out.fl {α : Type} (ρ : Slt) (r : Out α) (k : α → Sto → Fl) : Fl := match r with
  | .ok a S => k a S
  | .ex e S => .ex e ρ S
  | .bad => .bad
@[simp] theorem fl_ok {α : Type} (a : α) (S : Sto) (ρ : Slt) (k : α → Sto → Fl) : (Out.ok a S).fl ρ k = k a S := id rfl
@[simp] theorem fl_ex {α : Type} (e : Exn) (S : Sto) (ρ : Slt) (k : α → Sto → Fl) : (Out.ex e S).fl ρ k = .ex e ρ S := id rfl
@[simp] theorem fl_bad {α : Type} (ρ : Slt) (k : α → Sto → Fl) : (Out.bad : Out α).fl ρ k = .bad := id rfl
section
variable (Γ : Gm) (K : PySem.W.Frag)
def PostS (w : Wd) (Z : WX) (r : Fl) (D : Ends) : Prop := match r with
  | .nx ρ S' => ∀ w1 σ1, w1.S = S' → w.le w1 → Good Γ K w1 → Slots K w1 σ1 ρ → D.nx σ1 w1.H
  | .rt x S' => ∀ w1 v, w1.S = S' → w.le w1 → Good Γ K w1 → RW K w1 v x → D.rt v w1.H
  | .bk ρ S' => ∀ w1 σ1, w1.S = S' → w.le w1 → Good Γ K w1 → Slots K w1 σ1 ρ → D.bk σ1 w1.H
  | .ct ρ S' => ∀ w1 σ1, w1.S = S' → w.le w1 → Good Γ K w1 → Slots K w1 σ1 ρ → D.ct σ1 w1.H
  | .ex e ρ S' => ∀ w1 σ1 cls d, w1.S = S' → w.le w1 → Good Γ K w1 → Slots K w1 σ1 ρ → RX Γ K w1 cls d e → Z cls d σ1 w1.H
  | .bad => False
end
section
variable {Γ : Gm} {K : PySem.W.Frag} {w w1 : Wd} {Z : WX} {r : Fl} {D : Ends}
theorem PostS.mono (h : w.le w1) (p : PostS Γ K w Z r D) : PostS Γ K w1 Z r D := by
  cases r with
  | nx ρ S' => exact fun w2 v e l g q => p w2 v e (h.trans l) g q
  | rt ρ S' => exact fun w2 v e l g q => p w2 v e (h.trans l) g q
  | bk ρ S' => exact fun w2 v e l g q => p w2 v e (h.trans l) g q
  | ct ρ S' => exact fun w2 v e l g q => p w2 v e (h.trans l) g q
  | ex e ρ S' => exact fun w2 v c d e l g q => p w2 v c d e (h.trans l) g q
  | bad => exact p
theorem PostS.nx_use {ρ : Slt} {σ : L2.St} (p : PostS Γ K w Z (.nx ρ w.S) D) (G : Good Γ K w) (s : Slots K w σ ρ) : D.nx σ w.H := p w σ rfl (Wd.le.refl w) G s
theorem PostS.rt_use {x : W} {v : V} (p : PostS Γ K w Z (.rt x w.S) D) (G : Good Γ K w) (s : RW K w v x) : D.rt v w.H := p w v rfl (Wd.le.refl w) G s
end
def liftS (Γ : Gm) (K : PySem.W.Frag) (Z : WX) (f : Fs) : TS := fun D σ H => ∃ w ρ, w.H = H ∧ Good Γ K w ∧ Slots K w σ ρ ∧ PostS Γ K w Z (f ρ w.S) D
structure VS (Γ : Gm) (X : Cx) (Z : WX) (st : Stmt) (f : Fs) : Prop where
  ps : PS X st (liftS Γ X.K Z f)
structure VB (Γ : Gm) (X : Cx) (Z : WX) (st : List Stmt) (f : Fs) : Prop where
  ps : PSs X st (liftS Γ X.K Z f)
section
variable {Γ : Gm} {X : Cx} {Z : WX} {pos : Pos}
theorem liftS.out {α β : Type} {R : Wd → β → α → Prop} {f : Fe α} {k : α → Slt → Sto → Fl} {D : Ends} {σ : L2.St} {H : Hp} (h : liftS Γ X.K Z (fun ρ S => (f ρ S).fl ρ fun x S1 => k x ρ S1) D σ H) :
    liftR Γ X.K Z R f σ H fun v H1 => ∃ x w1 ρ, w1.H = H1 ∧ Good Γ X.K w1 ∧ Slots X.K w1 σ ρ ∧ R w1 v x ∧ PostS Γ X.K w1 Z (k x ρ w1.S) D := by
  obtain ⟨w, ρ, e, G, s, p⟩ := h
  refine ⟨w, ρ, e, G, s, ?_⟩
  replace p : PostS Γ X.K w Z ((f ρ w.S).fl ρ fun x S1 => k x ρ S1) D := p
  cases q : f ρ w.S with
  | ok x S' =>
    rw [q] at p
    intro w1 v e1 l g r
    subst e1
    exact ⟨x, w1, ρ, rfl, g, s.mono l, r, PostS.mono l p⟩
  | ex e S' =>
    rw [q] at p
    exact fun w1 c d e1 l g r => p w1 σ c d e1 l g (s.mono l) r
  | bad => rw [q] at p; exact p
/-! ### small statements -/
def fSkip : Fs := fun ρ S => .nx ρ S
def fSeq (f g : Fs) : Fs := fun ρ S => match f ρ S with
  | .nx ρ1 S1 => g ρ1 S1
  | r => r
def fExp (f : Fe W) : Fs := fun ρ S => (f ρ S).fl ρ fun _ S1 => .nx ρ S1
def fRet (f : Fe W) : Fs := fun ρ S => (f ρ S).fl ρ fun x S1 => .rt x S1
def fRetN : Fs := fun _ S => .rt (.d .none) S
def fSet (i : Nat) (f : Fe W) : Fs := fun ρ S => (f ρ S).fl ρ fun x S1 => .nx (ρ.set i (some x)) S1
def fIf (c : Fe Bool) (f g : Fs) : Fs := fun ρ S => (c ρ S).fl ρ fun b S1 => if b = true then f ρ S1 else g ρ S1
def fBad : Fs := fun _ _ => .bad
theorem vb_nil : VB Γ X Z [] fSkip := ⟨PSs.mono pss_nil fun D σ H ⟨w, ρ, e, G, s, p⟩ => by subst e; exact PostS.nx_use p G s⟩
theorem seq_lift {f g : Fs} {D : Ends} {σ : L2.St} {H : Hp} (h : liftS Γ X.K Z (fSeq f g) D σ H) : liftS Γ X.K Z f { D with nx := liftS Γ X.K Z g D } σ H := by
  obtain ⟨w, ρ, e, G, s, p⟩ := h
  refine ⟨w, ρ, e, G, s, ?_⟩
  unfold fSeq at p
  cases q : f ρ w.S with
  | nx ρ1 S1 =>
    rw [q] at p
    intro w1 σ1 e1 l g r
    subst e1
    exact ⟨w1, ρ1, rfl, g, r, PostS.mono l p⟩
  | rt x S1 => rw [q] at p; exact p
  | bk x S1 => rw [q] at p; exact p
  | ct x S1 => rw [q] at p; exact p
  | ex x y S1 => rw [q] at p; exact p
  | bad => rw [q] at p; exact p
theorem vb_cons {st : Stmt} {rest : List Stmt} {f g : Fs} (h1 : VS Γ X Z st f) (h2 : VB Γ X Z rest g) : VB Γ X Z (st :: rest) (fSeq f g) := ⟨PSs.mono (pss_cons h1.ps h2.ps) fun _ _ _ h => seq_lift h⟩
theorem vb_one {st : Stmt} {f : Fs} (h1 : VS Γ X Z st f) : VB Γ X Z [st] f := ⟨pss_one h1.ps⟩
theorem vs_bad {st : Stmt} : VS Γ X Z st fBad := ⟨PS.mono ps_never fun D σ H ⟨w, ρ, e, G, s, p⟩ => p.elim⟩
theorem vs_expr {e : Expr} {f : Fe W} (h : VE Γ X Z e f) (hs : swapsWith e none pos.line X.env = pure false := by rfl) : VS Γ X Z (.Expr e pos) (fExp f) :=
  ⟨PS.mono (ps_expr h.pe hs) fun D σ H q => (liftS.out (R := RW X.K) (k := fun _ ρ S1 => .nx ρ S1) q).imp fun v H1 ⟨x, w, ρ, e, G, s, r, p⟩ => by subst e; exact PostS.nx_use p G s⟩
theorem vs_ret {e : Expr} {f : Fe W} (h : VE Γ X Z e f) : VS Γ X Z (.Return (some e) pos) (fRet f) :=
  ⟨PS.mono (ps_ret h.pe) fun D σ H q => (liftS.out (R := RW X.K) (k := fun x _ S1 => .rt x S1) q).imp fun v H1 ⟨x, w, ρ, e, G, s, r, p⟩ => by subst e; exact PostS.rt_use p G r⟩
theorem vs_set (i : Nat) {x : Str} {e : Expr} {f : Fe W} {p' : Pos} (h : VE Γ X Z e f) (hN : X.N.Nodup) (hi : X.N[i]? = some x := by rfl) (hx : Loc X.env.scope x := by first | exact Or.inl rfl | exact Or.inr rfl)
    (hs : swapsWith e (some (.Name x p')) pos.line X.env = pure false := by rfl) (hf : X.fn x = true ∨ X.env.scope.names.lookup x = some .local := by first | exact .inl rfl | exact .inr rfl) : VS Γ X Z (.Assign [.Name x p'] e pos) (fSet i f) :=
  ⟨PS.mono (ps_set hN hi hx h.pe hs hf) fun D σ H q => (liftS.out (R := RW X.K) (k := fun x ρ S1 => .nx (ρ.set i (some x)) S1) q).imp fun v H1 ⟨x, w, ρ, e, G, s, r, p⟩ => by subst e; exact PostS.nx_use p G (s.set r i)⟩
theorem vs_if {c : Expr} {a b : List Stmt} {t : Fe Bool} {f g : Fs} (hc : VT Γ X Z c t) (ha : VB Γ X Z a f) (hb : VB Γ X Z b g) : VS Γ X Z (.If c a b pos) (fIf t f g) :=
  ⟨PS.mono (ps_if hc.pt ha.ps hb.ps) fun D σ H q => (liftS.out (R := RB) (k := fun b ρ S1 => if b = true then f ρ S1 else g ρ S1) q).imp fun v H1 ⟨x, w, ρ, e, G, s, r, p⟩ => by
    cases (show v = x from r)
    cases v with
    | true => exact ⟨w, ρ, e, G, s, p⟩
    | false => exact ⟨w, ρ, e, G, s, p⟩⟩

/-! ### targets -/
abbrev Gt := W → Slt → Sto → Option Slt
theorem wipe_cons (σ : L2.St) (i : Nat) (vs : List Nat) : wipe σ (i :: vs) = (wipe σ vs).set i none := rfl
theorem wipe_get : ∀ (σ : L2.St) (vs : List Nat) (i : Nat), (wipe σ vs)[i]? = if i ∈ vs ∧ i < σ.length then some none else σ[i]?
  | σ, [], i => by simp [wipe]
  | σ, v :: vs, i => by
    rw [wipe_cons]
    by_cases h : v = i
    · subst h
      by_cases hl : v < σ.length
      · rw [List.getElem?_set_self (by rw [wipe_length]; exact hl), if_pos ⟨by simp, hl⟩]
      · rw [List.getElem?_eq_none (by rw [List.length_set, wipe_length]; omega), if_neg (fun z => hl z.2), List.getElem?_eq_none (by omega)]
    · rw [List.getElem?_set_ne h, wipe_get σ vs i]
      have : (i ∈ v :: vs) ↔ i ∈ vs := by
        simp only [List.mem_cons]
        exact ⟨fun z => z.resolve_left (fun e => h e.symm), .inr⟩
      simp only [this]
theorem wipe_set {σ : L2.St} {vs : List Nat} {i : Nat} {v : Option V} (h : i ∈ vs) : wipe (σ.set i v) vs = wipe σ vs := by
  apply List.ext_getElem?
  intro j
  rw [wipe_get, wipe_get]
  by_cases hj : i = j
  · subst hj
    by_cases hl : i < σ.length
    · rw [if_pos ⟨h, by simpa using hl⟩, if_pos ⟨h, hl⟩]
    · rw [if_neg (fun z => hl (by simpa using z.2)), if_neg (fun z => hl z.2)]
      rw [List.getElem?_eq_none (by simpa using Nat.le_of_not_lt hl), List.getElem?_eq_none (Nat.le_of_not_lt hl)]
  · rw [List.getElem?_set_ne hj]
    simp only [List.length_set]
def liftG (Γ : Gm) (K : PySem.W.Frag) (is : List Nat) (g : Gt) : TG := fun v σ H Q => ∃ w ρ x ρ', w.H = H ∧ Good Γ K w ∧ Slots K w σ ρ ∧ RW K w v x ∧ g x ρ w.S = some ρ' ∧
  ∀ σ1, Slots K w σ1 ρ' → (∀ vs : List Nat, (∀ i ∈ is, i ∈ vs) → wipe σ1 vs = wipe σ vs) → Q σ1 H
def liftGs (Γ : Gm) (K : PySem.W.Frag) (is : List Nat) (g : List W → Slt → Sto → Option Slt) : TGs := fun vs σ H Q => ∃ w ρ xs ρ', w.H = H ∧ Good Γ K w ∧ Slots K w σ ρ ∧ RWs K w vs xs ∧ g xs ρ w.S = some ρ' ∧
  ∀ σ1, Slots K w σ1 ρ' → (∀ vs : List Nat, (∀ i ∈ is, i ∈ vs) → wipe σ1 vs = wipe σ vs) → Q σ1 H
structure VG (Γ : Gm) (X : Cx) (e : Expr) (is : List Nat) (g : Gt) : Prop where
  pg : PG X e (liftG Γ X.K is g)
structure VGs (Γ : Gm) (X : Cx) (e : List Expr) (is : List Nat) (g : List W → Slt → Sto → Option Slt) : Prop where
  pg : PGs X e (liftGs Γ X.K is g)
theorem PG.mono {X : Cx} {e : Expr} {t t' : TG} (h : PG X e t) (i : ∀ v σ H Q, t' v σ H Q → t v σ H Q) : PG X e t' := ⟨fun pins s σ H v u Q I r q => h.run pins s σ H v u Q I r (i _ _ _ _ q)⟩
theorem PGs.mono {X : Cx} {e : List Expr} {t t' : TGs} (h : PGs X e t) (i : ∀ v σ H Q, t' v σ H Q → t v σ H Q) : PGs X e t' := ⟨fun pins s σ H v u Q I r q => h.run pins s σ H v u Q I r (i _ _ _ _ q)⟩
theorem PG.or {X : Cx} {e : Expr} {t t' : TG} (h : PG X e t) (h' : PG X e t') : PG X e (fun v σ H Q => t v σ H Q ∨ t' v σ H Q) := ⟨fun pins s σ H v u Q I r q => q.elim (h.run pins s σ H v u Q I r) (h'.run pins s σ H v u Q I r)⟩
def gNm (i : Nat) : Gt := fun x ρ _ => some (ρ.set i (some x))
theorem vg_name (i : Nat) {x : Str} (hN : X.N.Nodup) (hi : X.N[i]? = some x := by rfl) (hx : Loc X.env.scope x := by first | exact Or.inl rfl | exact Or.inr rfl) (hf : X.fn x = true ∨ X.env.scope.names.lookup x = some .local := by first | exact .inl rfl | exact .inr rfl) : VG Γ X (.Name x pos) [i] (gNm i) := by
  refine ⟨PG.mono (pg_name hN hi hx hf) fun v σ H Q ⟨w, ρ, x, ρ', e, G, s, r, eg, h⟩ => ?_⟩
  cases eg
  exact h _ (s.set r i) fun vs hv => wipe_set (hv i (by simp))
def gsNil : List W → Slt → Sto → Option Slt := fun xs ρ _ => match xs with
  | [] => some ρ
  | _ => none
def gsCons (g : Gt) (gs : List W → Slt → Sto → Option Slt) : List W → Slt → Sto → Option Slt := fun xs ρ S => match xs with
  | x :: r => match g x ρ S with
    | some ρ1 => gs r ρ1 S
    | none => none
  | [] => none
theorem vgs_nil : VGs Γ X [] [] gsNil := by
  refine ⟨PGs.mono pgs_nil fun v σ H Q ⟨w, ρ, xs, ρ', e, G, s, r, eg, h⟩ => ?_⟩
  cases xs with
  | nil => cases r; cases eg; exact ⟨rfl, h _ s fun _ _ => rfl⟩
  | cons x r => cases eg
theorem vgs_cons {e : Expr} {es : List Expr} {is js : List Nat} {g : Gt} {gs : List W → Slt → Sto → Option Slt} (h1 : VG Γ X e is g) (h2 : VGs Γ X es js gs)
    (hs : (assignEach (e :: es) X.env).map (·.2) = assign e X.env :: (assignEach es X.env).map (·.2) := by rfl) : VGs Γ X (e :: es) (is ++ js) (gsCons g gs) := by
  refine ⟨PGs.mono (pgs_cons h1.pg h2.pg hs) fun vs σ H Q ⟨w, ρ, xs, ρ', e, G, s, r, eg, h⟩ => ?_⟩
  unfold gsCons at eg
  cases xs with
  | nil => cases eg
  | cons x xr =>
    cases r with
    | cons q t =>
      dsimp only at eg
      split at eg
      · rename_i ρ1 e1
        refine ⟨_, _, rfl, w, ρ, x, ρ1, e, G, s, q, e1, fun σ1 s1 hw1 => ?_⟩
        refine ⟨w, ρ1, xr, ρ', e, G, s1, t, eg, fun σ2 s2 hw2 => h σ2 s2 fun vs hv => ?_⟩
        rw [hw2 vs (fun i hi => hv i (by simp [hi])), hw1 vs (fun i hi => hv i (by simp [hi]))]
      · cases eg
/-- a, b, .. = a tuple or a list -/
def gTp (n : Nat) (gs : List W → Slt → Sto → Option Slt) : Gt := fun x ρ S => match seqOf x S with
  | some ws => if ws.length = n then gs ws ρ S else none
  | none => none
theorem vg_tup {es : List Expr} {k : Nat} {is : List Nat} {gs : List W → Slt → Sto → Option Slt} {n : Nat} (h : VGs Γ X es is gs) (hc : X.calm = true := by rfl)
    (hn : (assignEach es X.env).length = n := by rfl) (hst : (assignEach es X.env).findIdx? (·.1) = none := by rfl) : VG Γ X (.Tuple es k pos) is (gTp n gs) := by
  refine ⟨PG.mono (PG.or (pg_tup hc h.pg hn hst) (pg_lst hc h.pg hn hst)) fun v σ H Q ⟨w, ρ, x, ρ', e, G, s, r, eg, k⟩ => ?_⟩
  unfold gTp at eg
  split at eg
  · rename_i ws e1
    split at eg
    · rename_i hl
      obtain ⟨a, vs, rfl, q, rr⟩ := seqOf_ok G r e1
      have e' := e
      subst e'
      rcases q with q | q
      · exact .inr ⟨a, vs, rfl, q, by rw [Paired.len rr]; exact hl, w, ρ, ws, ρ', rfl, G, s, rr, eg, k⟩
      · exact .inl ⟨a, vs, rfl, q, by rw [Paired.len rr]; exact hl, w, ρ, ws, ρ', rfl, G, s, rr, eg, k⟩
    · cases eg
  · cases eg
def fAsg (g : Gt) (f : Fe W) : Fs := fun ρ S => (f ρ S).fl ρ fun x S1 => match g x ρ S1 with
  | some ρ1 => .nx ρ1 S1
  | none => .bad
theorem vs_asg {tg e : Expr} {is : List Nat} {f : Fe W} {g : Gt} (he : VE Γ X Z e f) (hg : VG Γ X tg is g) (hs : swapsWithSole [tg] e pos.line X.env = pure false := by rfl) (hw : swappedStores [tg] e X.env = pure none := by rfl)
    (h1 : (assignEach [tg] X.env).map (·.2) = [assign tg X.env] := by rfl) : VS Γ X Z (.Assign [tg] e pos) (fAsg g f) := by
  refine ⟨PS.mono (ps_asg he.pe hg.pg hs hw h1) fun D σ H q => (liftS.out (R := RW X.K) (k := fun x ρ S1 => match g x ρ S1 with
    | some ρ1 => .nx ρ1 S1
    | none => .bad) q).imp fun v H1 ⟨x, w, ρ, e, G, s, r, p⟩ => ?_⟩
  split at p
  · rename_i ρ1 e1
    subst e
    exact ⟨w, ρ, x, ρ1, rfl, G, s, r, e1, fun σ1 s1 _ => PostS.nx_use p G s1⟩
  · exact p.elim
def fPar (i j : Nat) (f : Fe (List W)) : Fs := fun ρ S => (f ρ S).fl ρ fun xs S1 => match xs with
  | [x, y] => .nx ((ρ.set i (some x)).set j (some y)) S1
  | _ => .bad
theorem vs_par (i j : Nat) {x y : Str} {a b : Expr} {f : Fe (List W)} {px py pt : Pos} {kt k2 pt2} (ha : VA Γ X Z [a, b] f) (hN : X.N.Nodup) (hw : swappedStores [.Tuple [.Name x px, .Name y py] kt pt] (.Tuple [a, b] k2 pt2) X.env = pure (some [x, y]))
    (hc : X.calm = true := by rfl) (hi : X.N[i]? = some x := by rfl) (hj : X.N[j]? = some y := by rfl) (hij : i ≠ j := by decide)
    (hx : X.env.scope.names.lookup x = some .local := by rfl) (hy : X.env.scope.names.lookup y = some .local := by rfl)
    (hs : swapsWithSole [.Tuple [.Name x px, .Name y py] kt pt] (.Tuple [a, b] k2 pt2) pos.line X.env = pure false := by rfl) : VS Γ X Z (.Assign [.Tuple [.Name x px, .Name y py] kt pt] (.Tuple [a, b] k2 pt2) pos) (fPar i j f) := by
  refine ⟨PS.mono (ps_par hc hN hi hj hij hx hy ha.pa hw hs) fun D σ H q => (liftS.out (R := RWs X.K) (k := fun xs ρ S1 => match xs with
    | [x, y] => .nx ((ρ.set i (some x)).set j (some y)) S1
    | _ => .bad) q).imp fun v H1 ⟨xs, w, ρ, e, G, s, r, p⟩ => ?_⟩
  split at p
  · subst e
    obtain ⟨v1, v2, rfl, r1, r2⟩ := rws_two r
    exact ⟨v1, v2, rfl, PostS.nx_use p G ((s.set r1 i).set r2 j)⟩
  · exact p.elim
end
end G
set_option Elab.async false
set_option linter.all false
set_option maxRecDepth 100000
set_option maxHeartbeats 4000000
/-! G8: loops, comprehensions -/
namespace G
open PySem PySem.Spec L2
set_option autoImplicit false
/-! ### what is walked -/
structure WalkD (Γ : Gm) (K : PySem.W.Frag) (w : Wd) (J : It) (ds : List PyData) : Prop where
  ex : ∃ (G : Hp → Prop) (Y : Nat → Hp → V → Hp → Prop), Walk J ds.length G Y ∧ (∀ w', w.le w' → Good Γ K w' → G w'.H) ∧
    ∀ (i : Nat) (w' : Wd) (x : V) (H' : Hp), i < ds.length → w.le w' → Good Γ K w' → Y i w'.H x H' → ∃ w'', w''.H = H' ∧ w''.S = w'.S ∧ w'.le w'' ∧ Good Γ K w'' ∧ ∃ y, ds[i]? = some y ∧ RW K w'' x (.d y)
structure VI (Γ : Gm) (X : Cx) (Z : WX) (tg iter : Expr) (f : Fe (List PyData)) : Prop where
  pi : PI X tg iter (liftR Γ X.K Z (WalkD Γ X.K) f)
theorem PI.mono {X : Cx} {tg e : Expr} {t t' : TI} (h : PI X tg e t) (i : ∀ σ H Q, t' σ H Q → t σ H Q) : PI X tg e t' := ⟨fun pins s σ H R I q => h.run pins s σ H R I (i _ _ _ q)⟩
section
variable {Γ : Gm} {X : Cx} {Z : WX} {pos : Pos}
theorem walkD_tup {K : PySem.W.Frag} {w : Wd} {a : Addr} {xs : List V} {ds : List PyData} (q : SqT K w.im a xs) (d : DpAll K w.im xs ds) : WalkD Γ K w (Itt K a) ds := by
  have hl := Paired.len (DpAll.paired d)
  refine ⟨fun H => SqT K H a xs, YAt xs, ?_, fun w' l _ => SqT.mono (im_sub w') (SqT.mono l.im q), fun i w' x H' hi l G ⟨e1, e2⟩ => ?_⟩
  · rw [← hl]; exact walk_tup
  · subst e1
    refine ⟨w', rfl, rfl, Wd.le.refl _, G, ds[i], by simp [hi], ?_⟩
    obtain ⟨x', h1, h2⟩ := Paired.get (DpAll.paired d) (i := i) (y := ds[i]) (by simp [hi])
    rw [e2] at h1
    cases h1
    exact Dp.mono l.im h2
theorem walkD_lst {K : PySem.W.Frag} {w : Wd} {a : Addr} {xs : List V} {ds : List PyData} (q : SqL K w.im a xs) (d : DpAll K w.im xs ds) : WalkD Γ K w (Itl K a) ds := by
  have hl := Paired.len (DpAll.paired d)
  refine ⟨fun H => SqL K H a xs, YAt xs, ?_, fun w' l _ => SqL.mono (im_sub w') (SqL.mono l.im q), fun i w' x H' hi l G ⟨e1, e2⟩ => ?_⟩
  · rw [← hl]; exact walk_list
  · subst e1
    refine ⟨w', rfl, rfl, Wd.le.refl _, G, ds[i], by simp [hi], ?_⟩
    obtain ⟨x', h1, h2⟩ := Paired.get (DpAll.paired d) (i := i) (y := ds[i]) (by simp [hi])
    rw [e2] at h1
    cases h1
    exact Dp.mono l.im h2
theorem WalkD.mono {K : PySem.W.Frag} {w w1 : Wd} {J : It} {ds : List PyData} (l : w.le w1) (h : WalkD Γ K w J ds) : WalkD Γ K w1 J ds := by
  obtain ⟨G, Y, a, b, c⟩ := h.ex
  exact ⟨G, Y, a, fun w' l' g => b w' (l.trans l') g, fun i w' x H' hi l' g y => c i w' x H' hi (l.trans l') g y⟩
/-- the items as data, for good -/
def itemsOf (x : W) (S : Sto) : Option (List PyData × Sto) := match frz 6 x S with
  | some (.tuple ds, S1) => some (ds, S1)
  | some (.list ds, S1) => some (ds, S1)
  | _ => none
theorem itemsOf_ok {K : PySem.W.Frag} {w : Wd} {v : V} {x : W} {ds : List PyData} {S1 : Sto} (G : Good Γ K w) (r : RW K w v x) (h : itemsOf x w.S = some (ds, S1)) :
    Frz Γ K w S1 ∧ ∃ a xs, v = .ref a ∧ (SqT K (Wd.im ⟨w.μ, S1, w.H⟩) a xs ∨ SqL K (Wd.im ⟨w.μ, S1, w.H⟩) a xs) ∧ DpAll K (Wd.im ⟨w.μ, S1, w.H⟩) xs ds := by
  unfold itemsOf at h
  split at h
  · rename_i e
    cases h
    obtain ⟨F, d⟩ := frz_ok (Γ := Γ) 6 w v x _ _ G r e
    cases d with
    | tup q d => exact ⟨F, _, _, rfl, .inl q, d⟩
  · rename_i e
    cases h
    obtain ⟨F, d⟩ := frz_ok (Γ := Γ) 6 w v x _ _ G r e
    cases d with
    | lst q d => exact ⟨F, _, _, rfl, .inr q, d⟩
  · cases h
def fIt (f : Fe W) : Fe (List PyData) := fun ρ S => (f ρ S).bind fun x S1 => ofO (itemsOf x S1)
theorem it_lst {tg : Expr} {pins : List (Addr × Obj)} {σ : L2.St} {H1 : Hp} {s1 : Shared} {R : It → Hp → Prop} {a : Addr} {xs : List V} (I1 : Inv X pins σ H1 s1) (hq : SqL X.K H1 a xs) (q : R (Itl X.K a) H1) :
    wpAny (model X.prog X.w) X.A (pyIter (.ref a)) (PIE X pins σ tg R) X.xe s1 := by
  obtain ⟨its, rv, p, hz⟩ := I1.list hq
  refine wpAny_pyIter_list p.isList ?_
  refine ⟨s1.heap.objs.size, [s1.heap.objs.size], _, _, H1, rfl, I1.kept (t' := s1.toks) fun b o e => Heap.get?_push_of_some _ e, turn_list a _, ⟨_, Heap.get?_push_size _ rfl, rfl, rfl⟩, fun b hb => ?_, q⟩
  have e : b = s1.heap.objs.size := by simpa using hb
  subst e
  exact I1.fpOk (Nat.le_refl _) (I1.hok.fresh (Nat.le_refl _))
theorem it_tup {tg : Expr} {pins : List (Addr × Obj)} {σ : L2.St} {H1 : Hp} {s1 : Shared} {R : It → Hp → Prop} {a : Addr} {xs : List V} (I1 : Inv X pins σ H1 s1) (hq : SqT X.K H1 a xs) (q : R (Itt X.K a) H1) :
    wpAny (model X.prog X.w) X.A (pyIter (.ref a)) (PIE X pins σ tg R) X.xe s1 := by
  obtain ⟨its, rv, p, hz⟩ := I1.tuple hq
  refine wpAny_pyIter_tuple (show s1.heap.IsTuple a its.toArray from p) ?_
  refine ⟨s1.heap.objs.size, [s1.heap.objs.size], _, _, H1, rfl, I1.kept (t' := s1.toks) fun b o e => Heap.get?_push_of_some _ e, turn_tuple a _, ⟨_, Heap.get?_push_size _ rfl, rfl, rfl⟩, fun b hb => ?_, q⟩
  have e : b = s1.heap.objs.size := by simpa using hb
  subst e
  exact I1.fpOk (Nat.le_refl _) (I1.hok.fresh (Nat.le_refl _))
theorem vi_val {tg e : Expr} {f : Fe W} (h : VE Γ X Z e f) : VI Γ X Z tg e (fIt f) := by
  refine ⟨⟨fun pins s σ H R I q => ?_⟩⟩
  have h1 := seq1 (R := RW X.K) (R2 := WalkD Γ X.K) (k := fun x S => ofO (itemsOf x S)) q
  refine thn (h.pe.run pins s σ H _ I h1) fun u s1 ⟨v, H1, I1, r1, x, w, e, G, r, p⟩ => ?_
  subst e
  cases e : itemsOf x w.S with
  | none => rw [e] at p; exact p.elim
  | some y =>
    obtain ⟨ds, S1⟩ := y
    rw [e] at p
    obtain ⟨F, a, xs, rfl, q, d⟩ := itemsOf_ok G r e
    cases r1
    rcases q with q | q
    · have q' : SqT X.K w.H a xs := SqT.mono (im_sub ⟨w.μ, S1, w.H⟩) q
      exact it_tup I1 q' (p ⟨w.μ, S1, w.H⟩ (Itt X.K a) rfl F.le F.good (walkD_tup q d))
    · have q' : SqL X.K w.H a xs := SqL.mono (im_sub ⟨w.μ, S1, w.H⟩) q
      exact it_lst I1 q' (p ⟨w.μ, S1, w.H⟩ (Itl X.K a) rfl F.le F.good (walkD_lst q d))

/-! ### ranges -/
def rngD (lo : Int) (n : Nat) : List PyData := (List.range n).map fun i => .int (lo + (i : Nat))
theorem walkD_rng {K : PySem.W.Frag} {w : Wd} {lo : Int} {n : Nat} : WalkD Γ K w (Itr lo n) (rngD lo n) := by
  refine ⟨fun _ => True, YFn fun i => .int (lo + i), ?_, fun _ _ _ => trivial, fun i w' x H' hi l G ⟨e1, e2⟩ => ?_⟩
  · have : (rngD lo n).length = n := by simp [rngD]
    rw [this]; exact walk_range
  · subst e1
    have hi' : i < n := by simpa [rngD] using hi
    refine ⟨w', rfl, rfl, Wd.le.refl _, G, .int (lo + (i : Nat)), by simp [rngD, hi'], ?_⟩
    subst e2
    exact Dp.int _
def rOk (i : Int) : Bool := decide (-1000000 ≤ i ∧ i ≤ 1000000)
def fR1 (f : Fe (List W)) : Fe (List PyData) := fun ρ S => (f ρ S).bind fun xs S1 => match xs with
  | [.d (.int j)] => if rOk j = true then .ok (rngD 0 j.toNat) S1 else .bad
  | _ => .bad
theorem vi_r1 {tg a : Expr} {f : Fe (List W)} {p : Pos} (ha : VA Γ X Z [a] f) (hm : X.mg "range" = none) (hg : Gl X "range" := by rfl) (hs : starEach [a] X.env = [(false, eval a X.env)] := by rfl) : VI Γ X Z tg (.Call (.Name "range" p) [a] [] pos) (fR1 f) := by
  refine ⟨PI.mono (pi_range1 hg hm ha.pa hs) fun σ H R q => liftR.imp (seq1 (R := RWs X.K) (R2 := WalkD Γ X.K) q) fun vs H1 ⟨xs, w, e, G, r, p⟩ => ?_⟩
  subst e
  split at p
  · rename_i j
    split at p
    · rename_i hj
      obtain ⟨v, rfl, rv⟩ := rws_one r
      cases (show Dp X.K w.im v (.int j) from rv)
      have hj' : -1000000 ≤ j ∧ j ≤ 1000000 := of_decide_eq_true hj
      exact ⟨j, rfl, by omega, by omega, p.use (R := WalkD Γ X.K) G walkD_rng⟩
    · exact p.elim
  · exact p.elim
def fR2 (f : Fe (List W)) : Fe (List PyData) := fun ρ S => (f ρ S).bind fun xs S1 => match xs with
  | [.d (.int i), .d (.int j)] => if (rOk i && rOk j) = true then .ok (rngD i (j - i).toNat) S1 else .bad
  | _ => .bad
theorem vi_r2 {tg a b : Expr} {f : Fe (List W)} {p : Pos} (ha : VA Γ X Z [a, b] f) (hm : X.mg "range" = none) (hg : Gl X "range" := by rfl) (hs : starEach [a, b] X.env = [(false, eval a X.env), (false, eval b X.env)] := by rfl) (hs2 : starEach [b] X.env = [(false, eval b X.env)] := by rfl) :
    VI Γ X Z tg (.Call (.Name "range" p) [a, b] [] pos) (fR2 f) := by
  refine ⟨PI.mono (pi_range2 hg hm ha.pa hs hs2) fun σ H R q => liftR.imp (seq1 (R := RWs X.K) (R2 := WalkD Γ X.K) q) fun vs H1 ⟨xs, w, e, G, r, p⟩ => ?_⟩
  subst e
  split at p
  · rename_i i j
    split at p
    · rename_i hj
      obtain ⟨v, u, rfl, rv, ru⟩ := rws_two r
      cases (show Dp X.K w.im v (.int i) from rv)
      cases (show Dp X.K w.im u (.int j) from ru)
      rw [Bool.and_eq_true] at hj
      have h1 : -1000000 ≤ i ∧ i ≤ 1000000 := of_decide_eq_true hj.1
      have h2 : -1000000 ≤ j ∧ j ≤ 1000000 := of_decide_eq_true hj.2
      exact ⟨i, j, rfl, ⟨by omega, by omega, by omega, by omega⟩, p.use (R := WalkD Γ X.K) G walkD_rng⟩
    · exact p.elim
  · exact p.elim

/-! ### for -/
def forD (g : Gt) (b : Fs) : List PyData → Fs
  | [], ρ, S => .nx ρ S
  | d :: ds, ρ, S => match g (.d d) ρ S with
    | none => .bad
    | some ρ1 => match b ρ1 S with
      | .nx ρ2 S2 => forD g b ds ρ2 S2
      | .ct ρ2 S2 => forD g b ds ρ2 S2
      | .bk ρ2 S2 => .nx ρ2 S2
      | r => r
def fFor (f : Fe (List PyData)) (g : Gt) (b : Fs) : Fs := fun ρ S => (f ρ S).fl ρ fun ds S1 => forD g b ds ρ S1
theorem vs_for {tg iter : Expr} {body : List Stmt} {is : List Nat} {f : Fe (List PyData)} {g : Gt} {b : Fs} (hp : PassesOwn (model X.prog X.w) X.A X.env X.xe) (hi : VI Γ X Z tg iter f) (hg : VG Γ X tg is g) (hb : VB Γ X Z body b) (hc : X.calm = true := by rfl)
    (hs : ∀ x, foldedSetIterable iter X.env x = pure x := by intro _; rfl) : VS Γ X Z (.For tg iter body [] pos) (fFor f g b) := by
  refine ⟨PS.mono (ps_for hp hc hi.pi hg.pg hb.ps hs) fun D σ H q => (liftS.out (R := WalkD Γ X.K) (k := fun ds ρ S1 => forD g b ds ρ S1) q).imp fun J H1 ⟨ds, w, ρ, e, G, s, r, p⟩ => ?_⟩
  subst e
  obtain ⟨GG, Y, wk, hG, hY⟩ := r.ex
  refine for_it wk (fun i σ H => ∃ w' ρ', w'.H = H ∧ w.le w' ∧ Good Γ X.K w' ∧ Slots X.K w' σ ρ' ∧ PostS Γ X.K w' Z (forD g b (ds.drop i) ρ' w'.S) D) ⟨w, ρ, rfl, Wd.le.refl w, G, s, p⟩ ?_ ?_ ?_
  · rintro i σ H hi ⟨w', ρ', rfl, l, G', s', p'⟩
    exact hG w' l G'
  · rintro i x σ H H' hi ⟨w', ρ', rfl, l, G', s', p'⟩ y
    obtain ⟨w2, rfl, eS, l2, G2, z, hz, rz⟩ := hY i w' x H' hi l G' y
    have hd : ds.drop i = z :: ds.drop (i + 1) := by
      have hh : ds[i] = z := by
        rw [List.getElem?_eq_getElem hi] at hz
        exact Option.some.inj hz
      rw [← hh]
      exact List.drop_eq_getElem_cons hi
    rw [hd] at p'
    have p2 := PostS.mono l2 p'
    rw [← eS] at p2
    unfold forD at p2
    split at p2
    · exact p2.elim
    · rename_i ρ1 eg
      refine ⟨w2, ρ', .d z, ρ1, rfl, G2, s'.mono l2, rz, eg, fun σ1 s1 _ => ?_⟩
      refine ⟨w2, ρ1, rfl, G2, s1, ?_⟩
      cases eb : b ρ1 w2.S with
      | nx ρ2 S2 =>
        rw [eb] at p2
        intro w3 σ3 e3 l3 G3 s3
        subst e3
        exact ⟨w3, ρ2, rfl, l.trans (l2.trans l3), G3, s3, PostS.mono l3 p2⟩
      | ct ρ2 S2 =>
        rw [eb] at p2
        intro w3 σ3 e3 l3 G3 s3
        subst e3
        exact ⟨w3, ρ2, rfl, l.trans (l2.trans l3), G3, s3, PostS.mono l3 p2⟩
      | bk ρ2 S2 => rw [eb] at p2; exact p2
      | rt x S2 => rw [eb] at p2; exact p2
      | ex e ρ2 S2 => rw [eb] at p2; exact p2
      | bad => rw [eb] at p2; exact p2
  · rintro σ H ⟨w', ρ', rfl, l, G', s', p'⟩
    rw [List.drop_length] at p'
    exact PostS.nx_use p' G' s'

/-! ### while -/
def whD (c : Fe Bool) (b : Fs) : Nat → Fs
  | 0, _, _ => .bad
  | n + 1, ρ, S => (c ρ S).fl ρ fun t S1 => if t = true then (match b ρ S1 with
      | .nx ρ2 S2 => whD c b n ρ2 S2
      | .ct ρ2 S2 => whD c b n ρ2 S2
      | .bk ρ2 S2 => .nx ρ2 S2
      | r => r) else .nx ρ S1
open Classical in
noncomputable def fWh (c : Fe Bool) (b : Fs) : Fs := fun ρ S => if h : ∃ n, whD c b n ρ S ≠ .bad then whD c b h.choose ρ S else .bad
theorem whD_more {c : Fe Bool} {b : Fs} : ∀ {n m : Nat} {ρ : Slt} {S : Sto}, n ≤ m → whD c b n ρ S ≠ .bad → whD c b m ρ S = whD c b n ρ S
  | 0, _, _, _, _, h => absurd rfl h
  | n + 1, 0, _, _, hm, _ => by omega
  | n + 1, m + 1, ρ, S, hm, h => by
    unfold whD at h ⊢
    cases ec : c ρ S with
    | ok t S1 =>
      simp only [ec, Out.fl] at h ⊢
      cases t with
      | false => rfl
      | true =>
        simp only [if_true] at h ⊢
        cases eb : b ρ S1 with
        | nx ρ2 S2 =>
          simp only [eb] at h ⊢
          exact whD_more (by omega) h
        | ct ρ2 S2 =>
          simp only [eb] at h ⊢
          exact whD_more (by omega) h
        | bk _ _ => rfl
        | rt _ _ => rfl
        | ex _ _ _ => rfl
        | bad => rfl
    | ex e S1 => rfl
    | bad => rfl
theorem fWh_eq {c : Fe Bool} {b : Fs} {n : Nat} {ρ : Slt} {S : Sto} (h : whD c b n ρ S ≠ .bad) : fWh c b ρ S = whD c b n ρ S := by
  have hx : ∃ n, whD c b n ρ S ≠ .bad := ⟨n, h⟩
  unfold fWh
  rw [dif_pos hx]
  rcases Nat.le_total n hx.choose with z | z
  · exact whD_more z h
  · exact (whD_more z hx.choose_spec).symm
theorem fWh_ex {c : Fe Bool} {b : Fs} {ρ : Slt} {S : Sto} (h : fWh c b ρ S ≠ .bad) : ∃ n, fWh c b ρ S = whD c b n ρ S := by
  unfold fWh at h ⊢
  by_cases hx : ∃ n, whD c b n ρ S ≠ .bad
  · exact ⟨hx.choose, by rw [dif_pos hx]⟩
  · rw [dif_neg hx] at h
    exact absurd rfl h
theorem vs_while {c : Expr} {body : List Stmt} {t : Fe Bool} {b : Fs} (hp : PassesOwn (model X.prog X.w) X.A X.env X.xe) (hc : VT Γ X Z c t) (hb : VB Γ X Z body b) : VS Γ X Z (.While c body [] pos) (fWh t b) := by
  refine ⟨PS.mono (ps_while hp hc.pt hb.ps) fun D σ H ⟨w, ρ, e, G, s, p⟩ => ?_⟩
  subst e
  have hne : fWh t b ρ w.S ≠ .bad := fun z => by rw [z] at p; exact p
  obtain ⟨n, en⟩ := fWh_ex hne
  rw [en] at p
  refine ⟨fun m σ H => ∃ w' ρ', w'.H = H ∧ Good Γ X.K w' ∧ Slots X.K w' σ ρ' ∧ PostS Γ X.K w' Z (whD t b m ρ' w'.S) D, ⟨n, w, ρ, rfl, G, s, p⟩, ?_⟩
  rintro m σ H ⟨w', ρ', rfl, G', s', p'⟩
  cases m with
  | zero => exact p'.elim
  | succ m =>
    have q : liftS Γ X.K Z (fun ρ S => (t ρ S).fl ρ fun tt S1 => if tt = true then (match b ρ S1 with
      | .nx ρ2 S2 => whD t b m ρ2 S2
      | .ct ρ2 S2 => whD t b m ρ2 S2
      | .bk ρ2 S2 => .nx ρ2 S2
      | r => r) else .nx ρ S1) D σ w'.H := ⟨w', ρ', rfl, G', s', p'⟩
    refine (liftS.out (R := RB) (k := fun tt ρ S1 => if tt = true then (match b ρ S1 with
      | .nx ρ2 S2 => whD t b m ρ2 S2
      | .ct ρ2 S2 => whD t b m ρ2 S2
      | .bk ρ2 S2 => .nx ρ2 S2
      | r => r) else .nx ρ S1) q).imp fun v H1 ⟨x, w1, ρ1, e1, G1, s1, r1, p1⟩ => ?_
    cases (show v = x from r1)
    subst e1
    cases v with
    | false => exact iteF (PostS.nx_use p1 G1 s1)
    | true =>
      refine iteT ⟨fun σ' H' => ∃ w' ρ', w'.H = H' ∧ Good Γ X.K w' ∧ Slots X.K w' σ' ρ' ∧ PostS Γ X.K w' Z (whD t b m ρ' w'.S) D, fun σ' H' h => ⟨m, Nat.lt_succ_self m, h⟩, ?_⟩
      refine ⟨w1, ρ1, rfl, G1, s1, ?_⟩
      simp only [if_true] at p1
      cases eb : b ρ1 w1.S with
      | nx ρ2 S2 =>
        rw [eb] at p1
        intro w3 σ3 e3 l3 G3 s3
        subst e3
        exact ⟨w3, ρ2, rfl, G3, s3, PostS.mono l3 p1⟩
      | ct ρ2 S2 =>
        rw [eb] at p1
        intro w3 σ3 e3 l3 G3 s3
        subst e3
        exact ⟨w3, ρ2, rfl, G3, s3, PostS.mono l3 p1⟩
      | bk ρ2 S2 => rw [eb] at p1; exact p1
      | rt x S2 => rw [eb] at p1; exact p1
      | ex e ρ2 S2 => rw [eb] at p1; exact p1
      | bad => rw [eb] at p1; exact p1
end
end G
set_option Elab.async false
set_option linter.all false
set_option maxRecDepth 100000
set_option maxHeartbeats 4000000
/-! G9: list comprehensions -/
namespace G
open PySem PySem.Spec L2
set_option autoImplicit false
/-- a comprehension's loop, from any heap -/
theorem lcw {J : It} {n : Nat} {G : Hp → Prop} {Y : Nat → Hp → V → Hp → Prop} (w : Walk J n G Y) {g : TG} {tt : TT} {te : TE} {vs : List Nat} {σ : L2.St} {H0 : Hp} {D : Addr} {Qd : Hp → Prop} (Pv : Nat → Hp → Prop) (h0 : Pv 0 H0) (hG : ∀ i H, i ≤ n → Pv i H → G H)
    (hs : ∀ i x H H', i < n → Pv i H → Y i H x H' → g x (wipe σ vs) H' fun σ2 H2 => wipe σ2 vs = wipe σ vs ∧ tt σ2 H2 fun b H3 =>
      if b = true then te σ2 H3 fun y H4 => ∃ acc, H4 D = some (.lst acc) ∧ acc.length < sizeLine ∧ Pv (i + 1) (upd H4 D (.lst (acc ++ [y]))) else Pv (i + 1) H3) (hd : ∀ H, Pv n H → Qd H) :
    ∃ W : Nat → Nat → Hp → Prop, (∃ m, W 0 m H0) ∧ ∀ i m H, W i m H →
      (J.stop i H ∧ Qd H) ∨ (J.go i H ∧ ∃ Nx : Hp → Prop, (∀ H', Nx H' → ∃ m', m' < m ∧ W (i + 1) m' H') ∧ ∀ x H', J.yld i H x H' → g x (wipe σ vs) H' fun σ2 H2 => wipe σ2 vs = wipe σ vs ∧ tt σ2 H2 fun b H3 =>
        if b = true then te σ2 H3 fun y H4 => ∃ acc, H4 D = some (.lst acc) ∧ acc.length < sizeLine ∧ Nx (upd H4 D (.lst (acc ++ [y]))) else Nx H3) := by
  refine ⟨fun i m H => m = n - i ∧ i ≤ n ∧ Pv i H, ⟨n, by simp, Nat.zero_le _, h0⟩, ?_⟩
  rintro i m H ⟨rfl, hi, p⟩
  have q := hG i H hi p
  by_cases hlt : i < n
  · refine .inr ⟨w.goes i H hlt q, Pv (i + 1), fun H' p' => ⟨n - (i + 1), by omega, rfl, hlt, p'⟩, fun x H' y => hs i x H H' hlt p (w.yields i H x H' hlt q y)⟩
  · have e : i = n := by omega
    subst e
    exact .inl ⟨w.stops H q, hd H p⟩
abbrev noZ : WX := fun _ _ _ _ => False
def wipeR (ρ : Slt) : List Nat → Slt
  | [] => ρ
  | v :: vs => (wipeR ρ vs).set v none
theorem Slots.wipe {K : PySem.W.Frag} {w : Wd} {σ : L2.St} {ρ : Slt} (s : Slots K w σ ρ) : ∀ vs : List Nat, Slots K w (L2.wipe σ vs) (wipeR ρ vs)
  | [] => s
  | v :: vs => (Slots.wipe s vs).unset v
theorem wipe_idem (σ : L2.St) (vs : List Nat) : wipe (wipe σ vs) vs = wipe σ vs := by
  apply List.ext_getElem?
  intro j
  rw [wipe_get, wipe_get]
  by_cases h : j ∈ vs ∧ j < σ.length
  · rw [if_pos ⟨h.1, by rw [wipe_length]; exact h.2⟩, if_pos h]
  · rw [if_neg (fun z => h ⟨z.1, by rw [wipe_length] at z; exact z.2⟩), if_neg h]
def noX {α : Type} (r : Out α) : Out α := match r with
  | .ex _ _ => .bad
  | r => r
@[simp] theorem noX_ok {α : Type} (a : α) (S : Sto) : noX (Out.ok a S) = .ok a S := id rfl
@[simp] theorem noX_bad {α : Type} : noX (Out.bad : Out α) = .bad := id rfl
@[simp] theorem noX_ex {α : Type} (e : Exn) (S : Sto) : noX (Out.ex e S : Out α) = .bad := id rfl
def compD (g : Gt) (t : Fe Bool) (e : Fe W) (n : Nat) : List PyData → Slt → Sto → Out Unit
  | [], _, S => .ok () S
  | d :: ds, ρ, S => match g (.d d) ρ S with
    | none => .bad
    | some ρ1 => (t ρ1 S).bind fun b S1 => if b = true then (e ρ1 S1).bind fun y S2 => match S2[n]? with
        | some (.lst acc) => if szOk acc.length = true then compD g t e n ds ρ (S2.set n (.lst (acc ++ [y]))) else .bad
        | _ => .bad
      else compD g t e n ds ρ S1
def fLc (f : Fe (List PyData)) (g : Gt) (t : Fe Bool) (e : Fe W) (vs : List Nat) : Fe W := fun ρ S => (f ρ S).bind fun ds S1 =>
  (noX (compD g t e S1.length ds (wipeR ρ vs) (S1 ++ [.lst []]))).bind fun _ S2 => .ok (.o S1.length) S2
structure VTs (Γ : Gm) (X : Cx) (Z : WX) (ifs : List Expr) (f : Fe Bool) : Prop where
  pts : PTs X ifs (liftR Γ X.K Z RB f)
def fYes : Fe Bool := fun _ S => .ok true S
section
variable {Γ : Gm} {X : Cx} {Z : WX} {pos : Pos}
theorem vts_nil : VTs Γ X Z [] fYes := ⟨⟨fun pins s σ H Q I ⟨w, ρ, e, G, s', p⟩ => by subst e; exact pts_nil.run pins s σ _ Q I (Post.use (R := RB) p G rfl)⟩⟩
theorem vts_one {c : Expr} {f : Fe Bool} (h : VT Γ X Z c f) : VTs Γ X Z [c] f := ⟨pts_one h.pt⟩
abbrev RU (D : Addr) (n : Nat) : Wd → Unit → Unit → Prop := fun w _ _ => w.μ[n]? = some D
theorem Post.noS {α β : Type} {K : PySem.W.Frag} {R : Wd → β → α → Prop} {w : Wd} {σ σ' : L2.St} {r : Out α} {Q : β → Hp → Prop} (p : Post Γ K R w σ noZ r Q) : Post Γ K R w σ' noZ r Q := by
  cases r with
  | ok x S => exact p
  | ex e S => exact fun w1 c d e l g r => p w1 c d e l g r
  | bad => exact p
/-- one turn of a comprehension's loop -/
theorem turnC {g : Gt} {t : Fe Bool} {e : Fe W} {n : Nat} {vs is : List Nat} (his : ∀ i ∈ is, i ∈ vs) {D : Addr} {ds : List PyData} {z : PyData} {ρw : Slt} {σ : L2.St} {w2 : Wd} {x : V} {Qd : Hp → Prop} {Pn : Hp → Prop}
    (G2 : Good Γ X.K w2) (sw : Slots X.K w2 (wipe σ vs) ρw) (rz : RW X.K w2 x (.d z)) (hD : w2.μ[n]? = some D)
    (p : Post Γ X.K (RU D n) w2 σ noZ (compD g t e n (z :: ds) ρw w2.S) (fun _ H => Qd H))
    (hn : ∀ w', w2.le w' → Good Γ X.K w' → w'.μ[n]? = some D → Post Γ X.K (RU D n) w' σ noZ (compD g t e n ds ρw w'.S) (fun _ H => Qd H) → Pn w'.H) :
    liftG Γ X.K is g x (wipe σ vs) w2.H fun σ2 H2 => wipe σ2 vs = wipe σ vs ∧ liftR Γ X.K noZ RB t σ2 H2 fun b H3 =>
      if b = true then liftR Γ X.K noZ (RW X.K) e σ2 H3 fun y H4 => ∃ acc, H4 D = some (.lst acc) ∧ acc.length < sizeLine ∧ Pn (upd H4 D (.lst (acc ++ [y]))) else Pn H3 := by
  unfold compD at p
  split at p
  · exact p.elim
  · rename_i ρ1 eg
    refine ⟨w2, ρw, .d z, ρ1, rfl, G2, sw, rz, eg, fun σ1 s1 hw => ⟨(hw vs his).trans (wipe_idem σ vs), w2, ρ1, rfl, G2, s1, ?_⟩⟩
    refine (Post.noS (Post.bind (R := RB) p)).imp fun v H3 ⟨w3, b, e3, G3, l3, rb, p3⟩ => ?_
    subst e3
    cases (show v = b from rb)
    cases v with
    | false => exact iteF (hn w3 l3 G3 (l3.at hD) p3)
    | true =>
      simp only [if_true] at p3
      refine iteT ⟨w3, ρ1, rfl, G3, s1.mono l3, (Post.noS (Post.bind (R := RW X.K) p3)).imp fun y H4 ⟨w4, yy, e4, G4, l4, ry, p4⟩ => ?_⟩
      subst e4
      split at p4
      · rename_i acc ea
        split at p4
        · rename_i hz
          have hD4 : w4.μ[n]? = some D := l4.at (l3.at hD)
          obtain ⟨us, hu, ru⟩ := G4.cell n D _ hD4 ea
          refine ⟨us, hu, by rw [Paired.len ru]; exact sz_line hz, ?_⟩
          obtain ⟨G5, l5⟩ := G4.write (c' := .lst (acc ++ [yy])) hD4 ea rfl (.lst (us ++ [y])) (fun w1 l e => ⟨_, e, RWs.mono l (Paired.app ru (.cons ry .nil))⟩) rfl
          exact hn ⟨w4.μ, w4.S.set n (.lst (acc ++ [yy])), upd w4.H D (.lst (us ++ [y]))⟩ (l3.trans (l4.trans l5)) G5 hD4 (Post.mono l5 p4)
        · exact p4.elim
      · exact p4.elim
theorem lc_lift {f : Fe (List PyData)} {g : Gt} {t : Fe Bool} {e : Fe W} {vs is : List Nat} (his : ∀ i ∈ is, i ∈ vs) {σ : L2.St} {H : Hp} {Q : VK} (q : liftR Γ X.K Z (RW X.K) (fLc f g t e vs) σ H Q) :
    tLc (liftR Γ X.K Z (WalkD Γ X.K) f) (liftG Γ X.K is g) (liftR Γ X.K noZ RB t) (liftR Γ X.K noZ (RW X.K) e) vs σ H Q := by
  refine (liftR.bind (R := WalkD Γ X.K) (k := fun ds ρ S1 => (noX (compD g t e S1.length ds (wipeR ρ vs) (S1 ++ [.lst []]))).bind fun _ S2 => .ok (W.o S1.length) S2) q).imp fun J H1 ⟨ds, w, ρ, e1, G, s, r, p⟩ => ?_
  subst e1
  intro D hD
  obtain ⟨G1, l1⟩ := G.alloc (c := .lst []) hD (.lst []) (fun w1 l e => ⟨[], e, .nil⟩) rfl
  have hD1 : (Wd.mk (w.μ ++ [D]) (w.S ++ [.lst []]) (upd w.H D (.lst []))).μ[w.S.length]? = some D := by
    show (w.μ ++ [D])[w.S.length]? = _
    rw [← G.len]; simp
  have p1 : Post Γ X.K (RU D w.S.length) ⟨w.μ ++ [D], w.S ++ [.lst []], upd w.H D (.lst [])⟩ σ noZ (compD g t e w.S.length ds (wipeR ρ vs) (w.S ++ [.lst []])) (fun _ H => Q (.ref D) H) := by
    cases ec : compD g t e w.S.length ds (wipeR ρ vs) (w.S ++ [.lst []]) with
    | ok u S2 =>
      rw [ec] at p
      exact fun w2 v e2 l2 G2 r2 => p w2 (.ref D) e2 (l1.trans l2) G2 ⟨D, r2, rfl⟩
    | ex e S2 => rw [ec] at p; exact p.elim
    | bad => rw [ec] at p; exact p.elim
  obtain ⟨GG, Y, wk, hG, hY⟩ := r.ex
  refine lcw wk (fun i H => ∃ w', w'.H = H ∧ w.le w' ∧ Good Γ X.K w' ∧ w'.μ[w.S.length]? = some D ∧ Post Γ X.K (RU D w.S.length) w' σ noZ (compD g t e w.S.length (ds.drop i) (wipeR ρ vs) w'.S) (fun _ H => Q (.ref D) H))
    ⟨_, rfl, l1, G1, hD1, p1⟩ ?_ ?_ ?_
  · rintro i H hi ⟨w', rfl, l, G', hD', p'⟩
    exact hG w' l G'
  · rintro i x H H' hi ⟨w', rfl, l, G', hD', p'⟩ y
    obtain ⟨w2, rfl, eS, l2, G2, z, hz, rz⟩ := hY i w' x H' hi l G' y
    have hd : ds.drop i = z :: ds.drop (i + 1) := by
      have hh : ds[i] = z := by
        rw [List.getElem?_eq_getElem hi] at hz
        exact Option.some.inj hz
      rw [← hh]
      exact List.drop_eq_getElem_cons hi
    rw [hd] at p'
    have p2 := Post.mono l2 p'
    rw [← eS] at p2
    exact turnC his G2 ((s.mono (l.trans l2)).wipe vs) rz (l2.at hD') p2 fun w' l' G' hD' p' => ⟨w', rfl, l.trans (l2.trans l'), G', hD', p'⟩
  · rintro H ⟨w', rfl, l, G', hD', p'⟩
    rw [List.drop_length] at p'
    exact Post.use (R := RU D w.S.length) (v := ()) p' G' hD'
theorem ve_lc {elt tg iter : Expr} {ifs : List Expr} {scope : Scope} (own : List (Str × Nat)) {f : Fe (List PyData)} {g : Gt} {t : Fe Bool} {e : Fe W} {is : List Nat} (hN : X.N.Nodup) (hi : VI Γ X Z tg iter f) (ok : BlkOk X.N X.env.scope scope own)
    (hg : ∀ (s : Shared) (H : Hp) (C : Addr) (cl : List (Str × Addr)) (fp : List Addr), VG Γ (X.blk s H scope (compEnvC scope cl C X.env) fp) tg is g) (ht : ∀ (s : Shared) (H : Hp) (C : Addr) (cl : List (Str × Addr)) (fp : List Addr), VTs Γ (X.blk s H scope (compEnvC scope cl C X.env) fp) noZ ifs t)
    (he : ∀ (s : Shared) (H : Hp) (C : Addr) (cl : List (Str × Addr)) (fp : List Addr), VE Γ (X.blk s H scope (compEnvC scope cl C X.env) fp) noZ elt e) (his : ∀ i ∈ is, i ∈ own.map (·.2) := by decide) (hc : X.calm = true := by rfl) (hs : ∀ x, foldedSetIterable iter X.env x = pure x := by intro _; rfl) :
    VE Γ X Z (.ListComp elt [⟨tg, iter, ifs, 0⟩] scope pos) (fLc f g t e (own.map (·.2))) :=
  ⟨PE.mono (pe_lc (g := liftG Γ X.K is g) (tt := liftR Γ X.K noZ RB t) (te := liftR Γ X.K noZ (RW X.K) e) hc hN hi.pi ok (fun s H C cl fp => (hg s H C cl fp).pg) (fun s H C cl fp => (ht s H C cl fp).pts) (fun s H C cl fp => (he s H C cl fp).pe) hs) fun _ _ _ q => lc_lift (X := X) his q⟩
theorem vs_setLc (i : Nat) {y : Str} {py : Pos} {elt tg iter : Expr} {ifs : List Expr} {scope : Scope} (own : List (Str × Nat)) {spos : Pos} {f : Fe (List PyData)} {g : Gt} {t : Fe Bool} {e : Fe W} {is : List Nat} (hN : X.N.Nodup)
    (hsw : swapsWith (.ListComp elt [⟨tg, iter, ifs, 0⟩] scope pos) (some (.Name y py)) spos.line X.env = pure true) (hi : VI Γ X Z tg iter f) (ok : BlkOk X.N X.env.scope scope own)
    (hg : ∀ (s : Shared) (H : Hp) (C : Addr) (cl : List (Str × Addr)) (fp : List Addr), VG Γ (X.blk s H scope (compEnvC scope cl C X.env) fp) tg is g) (ht : ∀ (s : Shared) (H : Hp) (C : Addr) (cl : List (Str × Addr)) (fp : List Addr), VTs Γ (X.blk s H scope (compEnvC scope cl C X.env) fp) noZ ifs t)
    (he : ∀ (s : Shared) (H : Hp) (C : Addr) (cl : List (Str × Addr)) (fp : List Addr), VE Γ (X.blk s H scope (compEnvC scope cl C X.env) fp) noZ elt e) (his : ∀ i ∈ is, i ∈ own.map (·.2) := by decide) (hc : X.calm = true := by rfl) (hy : X.N[i]? = some y := by rfl) (hyl : X.env.scope.names.lookup y = some .local := by rfl) (hs : ∀ x, foldedSetIterable iter X.env x = pure x := by intro _; rfl) :
    VS Γ X Z (.Assign [.Name y py] (.ListComp elt [⟨tg, iter, ifs, 0⟩] scope pos) spos) (fSet i (fLc f g t e (own.map (·.2)))) := by
  refine ⟨PS.mono (ps_setLc (g := liftG Γ X.K is g) (tt := liftR Γ X.K noZ RB t) (te := liftR Γ X.K noZ (RW X.K) e) hc hN hy hyl hsw hi.pi ok (fun s H C cl fp => (hg s H C cl fp).pg) (fun s H C cl fp => (ht s H C cl fp).pts) (fun s H C cl fp => (he s H C cl fp).pe) hs) fun D σ H q => ?_⟩
  refine lc_lift (X := X) his ((liftS.out (R := RW X.K) (k := fun x ρ S1 => .nx (ρ.set i (some x)) S1) q).imp fun v H1 ⟨x, w, ρ, e, G, s, r, p⟩ => ?_)
  subst e
  exact PostS.nx_use p G (s.set r i)

/-! ### two for -/
end
end G
set_option Elab.async false
set_option linter.all false
set_option maxRecDepth 100000
set_option maxHeartbeats 4000000
/-! G10: enumerate, zip over lists and tuples -/
namespace G
open PySem PySem.Spec L2
set_option autoImplicit false
/-- a list or a tuple at a, by its items -/
def SqA (K : PySem.W.Frag) (tup : Bool) (H : Hp) (a : Addr) (xs : List V) : Prop := match tup with
  | true => SqT K H a xs
  | false => SqL K H a xs
def itAt (tup : Bool) (it a : Addr) (i : Nat) (h : Heap) : Prop := match tup with
  | true => h.IsTupleIter it a i
  | false => h.IsListIter it a i
def conAt (tup : Bool) (a : Addr) (items : Array Value) (h : Heap) : Prop := match tup with
  | true => h.IsTuple a items
  | false => h.IsList a items
def itObj (tup : Bool) (a : Addr) : Obj := match tup with
  | true => { cls := .type "tuple_iterator", data := .fields #[.ref a, .int 0 0] }
  | false => { cls := .type "list_iterator", data := .fields #[.ref a, .int 0 0] }
theorem itAt_obj {tup : Bool} {it a : Addr} {i : Nat} {h : Heap} (x : itAt tup it a i h) : ∃ o, h.get? it = some o ∧ ∀ v, o.data ≠ .cell v := by
  cases tup <;> (obtain ⟨o, h1, h2, h3⟩ := x; exact ⟨o, h1, fun v q => by rw [h3] at q; cases q⟩)
theorem itAt_keep {tup : Bool} {it a : Addr} {i : Nat} {h h' : Heap} (x : itAt tup it a i h) (k : ∀ o, h.get? it = some o → h'.get? it = some o) : itAt tup it a i h' := by
  cases tup <;> (obtain ⟨o, h1, h2, h3⟩ := x; exact ⟨o, k _ h1, h2, h3⟩)
theorem itAt_new {tup : Bool} {it a : Addr} {h : Heap} (x : h.get? it = some (itObj tup a)) : itAt tup it a 0 h := by
  cases tup <;> exact ⟨_, x, rfl, rfl⟩
theorem drawsA {P : Program} {w : World} {A : Around} (hh : A.handled = none) (tup : Bool) (it a : Addr) (hne : a ≠ it) (items : Array Value) :
    Draws P w A it [it, a] items.size (fun i v => items[i]? = some v) (fun i h => itAt tup it a i h ∧ conAt tup a items h) := by
  cases tup
  · exact Draws.list hh it a hne items
  · exact Draws.tuple hh it a hne items
theorem beginsA (tup : Bool) (a : Addr) (items : Array Value) : Begins (.ref a) (itObj tup a) (conAt tup a items) := by
  cases tup
  · exact begins_list a items
  · exact begins_tuple a items
section
variable {X : Cx} {pins : List (Addr × Obj)} {σ : L2.St} {H : Hp} {s : Shared}
theorem seqA_of {tup : Bool} {a : Addr} {xs : List V} (I : Inv X pins σ H s) (q : SqA X.K tup H a xs) : ∃ its : List Value, Vals xs its ∧ conAt tup a its.toArray s.heap ∧ xs.length ≤ sizeLine := by
  cases tup
  · obtain ⟨its, r, p, z⟩ := I.list q; exact ⟨its, r, p.isList, z⟩
  · obtain ⟨its, r, p, z⟩ := I.tuple q; exact ⟨its, r, p, z⟩
theorem seqA_inj {tup : Bool} {a : Addr} {xs ys : List V} (I : Inv X pins σ H s) (h : SqA X.K tup H a xs) (h' : SqA X.K tup H a ys) : xs = ys := by
  cases tup
  · exact I.list_inj h h'
  · exact I.tuple_inj h h'
theorem conAt_lt {tup : Bool} {a : Addr} {items : Array Value} {h : Heap} (x : conAt tup a items h) : a < h.objs.size := by
  cases tup
  · obtain ⟨o, e, _⟩ := x; exact Heap.lt_size e
  · obtain ⟨o, e, _⟩ := x; exact Heap.lt_size e
/-- behind a turn that laid a tuple -/
theorem inv_turnT {fp wr : List Addr} {T : Addr} {us : List Value} {vs : List V} {h' : Heap} {tk : Nat} (I : Inv X pins σ H s) (hf : ∀ b ∈ fp, FpOk X pins H b) (hw : ∀ b ∈ wr, b ∈ fp) (k : ∀ b o, b ∉ wr → s.heap.get? b = some o → h'.get? b = some o)
    (hT : s.heap.objs.size ≤ T) (tp : h'.IsTuple T us.toArray) (rv : Vals vs us) (hz : vs.length ≤ sizeLine) : Inv X pins σ (upd H T (.tup vs)) { s with heap := h', toks := tk } := by
  refine I.turnedNew (ch := fp) (fun b o hb e => k b o (fun z => hb (hw b z)) e) hf hT ?_
  exact ⟨hz, us, rv, tp⟩
end
/-! ### enumerate -/
def ItE (K : PySem.W.Frag) (tup : Bool) (a : Addr) : It :=
  ⟨fun i H => ∃ (xs : List V) (x : V), SqA K tup H a xs ∧ xs[i]? = some x, fun i H v H' => ∃ T x, v = .ref T ∧ H T = none ∧ H' = upd H T (.tup [.int (i : Nat), x]) ∧ ∀ xs, SqA K tup H a xs → xs[i]? = some x, fun i H => ∃ xs : List V, SqA K tup H a xs ∧ xs.length = i⟩
theorem turn_enumA {P : Program} {w : World} {K : PySem.W.Frag} {elts : List Expr} {kk : Nat} {tpos : Pos} (tup : Bool) (a e it : Addr) :
    Turn P w K (.Tuple elts kk tpos) (ItE K tup a) [e, it] e (fun i h => (∃ old, IsEnum h e it (0 + ((i : Nat) : Int)) old) ∧ itAt tup it a i h ∧ e ≠ it ∧ a ≠ e ∧ a ≠ it) where
  mem := by simp
  obj := fun i h st b hb => by
    obtain ⟨⟨old, he⟩, hi, _⟩ := st
    have e' : b = e ∨ b = it := by simpa using hb
    rcases e' with z | z
    · rw [z]; exact ⟨_, he, fun v q => nomatch q⟩
    · rw [z]; exact itAt_obj hi
  keep := fun i h h' st k => let ⟨⟨old, he⟩, hi, hne⟩ := st; ⟨⟨old, k e (by simp) _ he⟩, itAt_keep hi fun o q => k it (by simp) o q, hne⟩
  item := by
    intro X hP hw hK hc i pins s σ H E I hf st hg
    subst hP hw hK
    obtain ⟨⟨old, he⟩, hit, hne, h1, h2⟩ := st
    obtain ⟨xs, x, hq, hx⟩ := hg
    obtain ⟨its, rv, con, hz⟩ := seqA_of I hq
    obtain ⟨u, hu, ru⟩ := rv.get hx
    have W := GoesN.enumFrom (elts := elts) (x1 := kk) (pos := tpos) 0 (drawsA (P := X.prog) (w := X.w) (A := X.A.in1) (I.ok.hd hc) tup it a h2 its.toArray) e hne (by simp [hne, Ne.symm h1]) (by simp)
    have hi : i < its.toArray.size := by
      have := (List.getElem?_eq_some_iff.mp hu).1
      simpa using this
    refine wpAny_mono (W.goes i s (fun v s2 => ∃ x' H', Inv X pins σ H' s2 ∧ RelV x' v ∧ (ItE X.K tup a).yld i H x' H' ∧ ((∃ old, IsEnum s2.heap e it (0 + (((i + 1 : Nat)) : Int)) old) ∧ itAt tup it a (i + 1) s2.heap ∧ e ≠ it ∧ a ≠ e ∧ a ≠ it) ∧ ∀ b ∈ [e, it], H' b = none) E hi ⟨⟨old, he⟩, hit, con⟩ ?_) (fun r s1 ⟨v, e1, h3⟩ => ⟨v, e1, h3⟩) (fun _ _ h => h)
    rintro v h' tk ⟨T, t, y, rfl, hT, hy, tp⟩ ⟨⟨old', he'⟩, hit', _⟩ k htk
    have hyu : y = u := by
      have : its[i]? = some y := by simpa using hy
      rw [hu] at this; exact (Option.some.inj this).symm
    subst hyu
    have e0 : (0 : Int) + (i : Int) = (i : Int) := by omega
    rw [e0] at tp
    have I1 := inv_turnT I (tk := tk) (fp := [e, it]) (wr := [e, it]) (us := [.int (i : Nat) t, y]) (vs := [.int (i : Nat), x]) hf (fun _ h => h) k hT tp (.cons ⟨_, rfl⟩ (.cons ru .nil)) (by show 2 ≤ sizeLine; decide)
    refine ⟨.ref T, _, I1, rfl, ⟨T, x, rfl, I.hok.fresh hT, rfl, fun ys hy => by rw [seqA_inj I hy hq]; exact hx⟩, ⟨⟨old', he'⟩, hit', hne, h1, h2⟩, fun b hb => ?_⟩
    have hb' : b < s.heap.objs.size := by
      have e' : b = e ∨ b = it := by simpa using hb
      rcases e' with z | z
      · rw [z]; exact Heap.lt_size he
      · rw [z]; obtain ⟨o, q, _⟩ := itAt_obj hit; exact Heap.lt_size q
    rw [upd_ne (Nat.ne_of_lt (Nat.lt_of_lt_of_le hb' hT))]
    exact (hf b hb).1
  done := by
    intro X hP hw hK hc i pins s σ H E I hf st hg
    subst hP hw hK
    obtain ⟨⟨old, he⟩, hit, hne, h1, h2⟩ := st
    obtain ⟨xs, hq, hx⟩ := hg
    obtain ⟨its, rv, con, hz⟩ := seqA_of I hq
    have W := GoesN.enumFrom (elts := elts) (x1 := kk) (pos := tpos) 0 (drawsA (P := X.prog) (w := X.w) (A := X.A.in1) (I.ok.hd hc) tup it a h2 its.toArray) e hne (by simp [hne, Ne.symm h1]) (by simp)
    have hi : i = its.toArray.size := by
      have := rv.length
      simp; omega
    subst hi
    refine wpAny_mono (W.stops s (fun s1 => Inv X pins σ H s1) E ⟨⟨old, he⟩, hit, con⟩ fun h' tk k htk => ?_) (fun r s1 h => h) (fun _ _ h => h)
    exact I.turnedL (t' := tk) (ch := [e, it]) k hf
  self := fun A i s Q E st h => let ⟨⟨_, he⟩, _⟩ := st; wpAny_pyIter_enum he h
section
variable {Γ : Gm} {X : Cx} {Z : WX} {pos : Pos}
def enumD (ds : List PyData) : List PyData := (ds.zipIdx).map fun p => .tuple [.int (p.2 : Nat), p.1]
theorem walkE {K : PySem.W.Frag} {w : Wd} {tup : Bool} {a : Addr} {xs : List V} {ds : List PyData} (q : SqA K tup w.im a xs) (d : DpAll K w.im xs ds) : WalkD Γ K w (ItE K tup a) (enumD ds) := by
  have hl := Paired.len (DpAll.paired d)
  have hle : (enumD ds).length = ds.length := by simp [enumD]
  refine ⟨fun H => SqA K tup H a xs, fun i H x H' => (ItE K tup a).yld i H x H', ⟨fun i H hi q => ?_, fun H q => ⟨xs, q, by rw [hle]; exact hl⟩, fun i H x H' hi q y => y⟩, fun w' l _ => ?_, fun i w' x H' hi l G' ⟨T, y, e1, e2, e3, e4⟩ => ?_⟩
  · rw [hle, ← hl] at hi
    exact ⟨xs, xs[i], q, by simp [hi]⟩
  · cases tup
    · exact SqL.mono (im_sub w') (SqL.mono l.im q)
    · exact SqT.mono (im_sub w') (SqT.mono l.im q)
  · subst e1 e3
    rw [hle] at hi
    have qq : SqA K tup w'.H a xs := by
      cases tup
      · exact SqL.mono (im_sub w') (SqL.mono l.im q)
      · exact SqT.mono (im_sub w') (SqT.mono l.im q)
    have ey := e4 xs qq
    obtain ⟨x', h1, h2⟩ := Paired.get (DpAll.paired d) (i := i) (y := ds[i]) (by simp [hi])
    rw [ey] at h1
    cases h1
    obtain ⟨G1, l1⟩ := G'.new e2 (.tup [.int (i : Nat), y])
    refine ⟨⟨w'.μ, w'.S, upd w'.H T (.tup [.int (i : Nat), y])⟩, rfl, rfl, l1, G1, .tuple [.int (i : Nat), ds[i]], by simp [enumD, hi], ?_⟩
    exact Dp.tup (SqT.of (Wd.im_of (w := ⟨w'.μ, w'.S, upd w'.H T (.tup [.int (i : Nat), y])⟩) upd_same (fun z => G'.nin e2 (live_mem (w := ⟨w'.μ, w'.S, upd w'.H T (.tup [.int (i : Nat), y])⟩) z)) (fun ps z => by cases z))) (.cons (.int _) (.cons (Dp.mono (l.trans l1).im h2) .nil))
def fEn (f : Fe (List W)) : Fe (List PyData) := fun ρ S => (f ρ S).bind fun xs S1 => match xs with
  | [x] => (ofO (itemsOf x S1)).bind fun ds S2 => .ok (enumD ds) S2
  | _ => .bad
end
end G
namespace PySem
set_option maxHeartbeats 2000000 in
theorem g_enum_new1 {v : Value} {o : Obj} {H : Heap → Prop} (B : Begins v o H) :
    Meets (Builtin.«enumerate.__new__» ⟨[.type "enumerate", v], []⟩) (fun _ R s => H s.heap ∧
      R (.ok (.ret (.ref (s.heap.push o).objs.size))) { s with heap := (s.heap.push o).push { cls := .type "enumerate", data := .fields #[.none, .bool false, .ref s.heap.objs.size, rawInt 0, .none, .none] } }) :=
  .of_wp fun prog w A R s h => by
    obtain ⟨hp, g, d, tk, os⟩ := s; obtain ⟨h1, h⟩ := h
    have hsub := sub_enumerate
    have q1 : ∀ {A' : Around} {E : Value → Shared → Prop} {Q : Value → Shared → Prop}, Q (.ref hp.objs.size) ⟨hp.push o, g, d, tk, os⟩ → wpAny (model prog w) A' (pyIter v) Q E ⟨hp, g, d, tk, os⟩ :=
      fun q => B.iter prog w _ _ ⟨hp, g, d, tk, os⟩ _ h1 q
    wp_walk using q1
    refine wpAny_stack_any fun st => wpAny_pure ?_
    split
    · rename_i c _ _ _ _ _
      cases (c == Value.type "enumerate")
      · wp_walk using q1
        exact ⟨_, rfl, h⟩
      · wp_walk using q1
        exact ⟨_, rfl, h⟩
    · wp_walk using q1
      exact ⟨_, rfl, h⟩
section
variable {prog : Program} {w : World} {A : Around} {E : Value → Shared → Prop} {s : Shared}
theorem g_enum_begins {v : Value} {o : Obj} {H : Heap → Prop} {Q : Value → Shared → Prop} (B : Begins v o H) (h1 : H s.heap)
    (h : ∀ h', IsEnum h' (s.heap.objs.size + 1) s.heap.objs.size 0 .none → h'.get? s.heap.objs.size = some o → h'.objs.size = s.heap.objs.size + 2 →
      (∀ b o, s.heap.get? b = some o → h'.get? b = some o) → Q (.ref (s.heap.objs.size + 1)) { s with heap := h' }) :
    wpAny (model prog w) A (call (.type "enumerate") [v]) Q E s := by
  refine callType_new F.called_enumerate (by decide) (F.typeCall_enumerate_1 _) (F.newCall_enumerate_1 _) (fun obj => F.args_object_init_2 obj _) F.entry_enumerate_new
    (g_enum_new1 B) ⟨h1, ?_⟩
  have hz : (s.heap.push o).objs.size = s.heap.objs.size + 1 := Heap.size_push ..
  show _ ∧ _
  rw [hz]
  have he : IsEnum ((s.heap.push o).push { cls := .type "enumerate", data := .fields #[.none, .bool false, .ref s.heap.objs.size, rawInt 0, .none, .none] }) (s.heap.objs.size + 1) s.heap.objs.size 0 .none := by
    have := Heap.get?_push_size (s.heap.push o) (o := { cls := .type "enumerate", data := .fields #[.none, .bool false, .ref s.heap.objs.size, rawInt 0, .none, .none] }) rfl
    rw [hz] at this; exact this
  refine ⟨⟨_, he, rfl⟩, h _ he (Heap.get?_push_of_some _ (Heap.get?_push_size _ B.free)) (by rw [Heap.size_push, hz]) fun b o x => Heap.get?_push_of_some _ (Heap.get?_push_of_some _ x)⟩
end
end PySem
namespace G
open PySem PySem.Spec L2
section
variable {Γ : Gm} {X : Cx} {Z : WX} {pos : Pos}
theorem fresh_fp {pins : List (Addr × Obj)} {σ : L2.St} {H1 : Hp} {s1 : Shared} (I1 : Inv X pins σ H1 s1) {b : Addr} (h : s1.heap.objs.size ≤ b) : FpOk X pins H1 b := I1.fpOk h (I1.hok.fresh h)
theorem pi_enumA {e : Expr} {ta : TA} {p pos tpos : Pos} {elts : List Expr} {kk : Nat} (hg : Gl X "enumerate") (hm : X.mg "enumerate" = none) (ha : PA X [e] ta) (hs : starEach [e] X.env = [(false, eval e X.env)] := by rfl) :
    PI X (.Tuple elts kk tpos) (.Call (.Name "enumerate" p) [e] [] pos) (fun σ H R => ta σ H fun vs H1 => ∃ tup a xs, vs = [.ref a] ∧ SqA X.K tup H1 a xs ∧ R (ItE X.K tup a) H1) := by
  refine ⟨fun pins s σ H R I h => ?_⟩
  refine PyProof.Rows.Call_ (ld_blt I hg hm PyProof.Rows.boot_enumerate (PyProof.Rows.callWith_type1 (thn (ha.run pos pins s σ H _ I h) fun us s1 ⟨vs, H1, I1, r1, q1⟩ => ?_) hs rfl))
  obtain ⟨tup, a, xs, ex, hq, q⟩ := q1
  subst ex
  cases r1 with
  | cons r rr =>
    cases rr
    cases r
    obtain ⟨its, rv, con, hz⟩ := seqA_of I1 hq
    refine PySem.g_enum_begins (beginsA tup a its.toArray) con fun h' he hit hsz hk => wpAny_pyIter_enum he ?_
    have I2 : Inv X pins σ H1 { s1 with heap := h' } := I1.kept (t' := s1.toks) hk
    have lt := conAt_lt con
    refine ⟨s1.heap.objs.size + 1, [s1.heap.objs.size + 1, s1.heap.objs.size], _, _, H1, rfl, I2, turn_enumA tup a (s1.heap.objs.size + 1) s1.heap.objs.size, ⟨⟨.none, he⟩, itAt_new hit, Nat.succ_ne_self _, Nat.ne_of_lt (Nat.lt_succ_of_lt lt), Nat.ne_of_lt lt⟩, fun b hb => ?_, q⟩
    have e' : b = s1.heap.objs.size + 1 ∨ b = s1.heap.objs.size := by simpa using hb
    refine fresh_fp I1 ?_
    rcases e' with z | z
    · rw [z]; exact Nat.le_add_right _ _
    · rw [z]; exact Nat.le_refl _
theorem vi_enum {e : Expr} {f : Fe (List W)} {p tpos : Pos} {elts : List Expr} {kk : Nat} (ha : VA Γ X Z [e] f) (hm : X.mg "enumerate" = none) (hg : Gl X "enumerate" := by rfl) (hs : starEach [e] X.env = [(false, eval e X.env)] := by rfl) :
    VI Γ X Z (.Tuple elts kk tpos) (.Call (.Name "enumerate" p) [e] [] pos) (fEn f) := by
  refine ⟨PI.mono (pi_enumA hg hm ha.pa hs) fun σ H R q => liftR.imp (seq1 (R := RWs X.K) (R2 := WalkD Γ X.K) q) fun vs H1 ⟨xs, w, e, G, r, p⟩ => ?_⟩
  subst e
  split at p
  · rename_i x
    obtain ⟨v, rfl, rx⟩ := rws_one r
    cases e : itemsOf x w.S with
    | none => rw [e] at p; exact p.elim
    | some y =>
      obtain ⟨ds, S1⟩ := y
      rw [e] at p
      obtain ⟨F, a, xs, rfl, q, d⟩ := itemsOf_ok G rx e
      rcases q with q | q
      · exact ⟨true, a, xs, rfl, SqT.mono (im_sub ⟨w.μ, S1, w.H⟩) q, p ⟨w.μ, S1, w.H⟩ (ItE X.K true a) rfl F.le F.good (walkE (tup := true) q d)⟩
      · exact ⟨false, a, xs, rfl, SqL.mono (im_sub ⟨w.μ, S1, w.H⟩) q, p ⟨w.μ, S1, w.H⟩ (ItE X.K false a) rfl F.le F.good (walkE (tup := false) q d)⟩
  · exact p.elim
theorem rws_three {K : PySem.W.Frag} {w : Wd} {vs : List V} {x y z : W} (r : RWs K w vs [x, y, z]) : ∃ v u t, vs = [v, u, t] ∧ RW K w v x ∧ RW K w u y ∧ RW K w t z := by
  cases r with | cons q t => cases t with | cons q2 t => cases t with | cons q3 t => cases t; exact ⟨_, _, _, rfl, q, q2, q3⟩

/-! ### zip of 2 -/
def zipD2 (ds1 ds2 : List PyData) : List PyData := (ds1.zip ds2).map fun p => .tuple [p.1, p.2]
def fZ2 (f : Fe (List W)) : Fe (List PyData) := fun ρ S => (f ρ S).bind fun xs S1 => match xs with
  | [x1, x2] => (ofO (itemsOf x1 S1)).bind fun ds1 S2 => (ofO (itemsOf x2 S2)).bind fun ds2 S3 => .ok (zipD2 ds1 ds2) S3
  | _ => .bad
/-! ### zip of 3 -/
def zipD3 (ds1 ds2 ds3 : List PyData) : List PyData := ((ds1.zip ds2).zip ds3).map fun p => .tuple [p.1.1, p.1.2, p.2]
def fZ3 (f : Fe (List W)) : Fe (List PyData) := fun ρ S => (f ρ S).bind fun xs S1 => match xs with
  | [x1, x2, x3] => (ofO (itemsOf x1 S1)).bind fun ds1 S2 => (ofO (itemsOf x2 S2)).bind fun ds2 S3 => (ofO (itemsOf x3 S3)).bind fun ds3 S4 => .ok (zipD3 ds1 ds2 ds3) S4
  | _ => .bad
end
end G
set_option Elab.async false
set_option linter.all false
set_option maxRecDepth 100000
set_option maxHeartbeats 4000000
/-! G11: own calls, defs, stores into lists and dicts, displays of dicts, tuple * small numbers -/
namespace G
open PySem PySem.Spec L2
set_option autoImplicit false
section
variable {X : Cx}
/-! ### tuple * 1, tuple * 0 -/
theorem tuple_mul1 (l : Addr) (items : Array Value) (n : Nat) (x : Int) (u : Tok) (c0 : (decide (x < -(2 ^ 63)) || decide (x ≥ 2 ^ 63)) = false) (c1 : (items.isEmpty || x == 1) = true) :
    Meets (Builtin.«tuple.__mul__» ⟨[.ref l, .int x u], []⟩) (fun _ R s => (∃ dd sl, s.heap.get? l = some { cls := .type "tuple", dict := dd, data := .seq items n, slots := sl }) ∧
      R (.ok (.ret (Value.ref l))) s) :=
  .of_wp fun prog w A R s h => by
    obtain ⟨hp, g, d, tk, os⟩ := s
    obtain ⟨⟨dd, sl, hl⟩, h⟩ := h
    have f1 := AutoSeq1.idx_int
    wp_walk using wpAny_loadPart' hl
    repeat (first
      | (refine wpAny_ite_false (decide_eq_false (by rw [c0]; exact Bool.false_ne_true)) ?_; wp_walk using wpAny_loadPart' hl)
      | (refine wpAny_ite_true (decide_eq_true (by rw [c1])) ?_; wp_walk using wpAny_loadPart' hl))
    exact ⟨_, rfl, h⟩
theorem tuple_mul0 (l : Addr) (items : Array Value) (n : Nat) (dd : Option Addr) (sl : Array (Option Value)) (x : Int) (u : Tok) (c0 : (decide (x < -(2 ^ 63)) || decide (x ≥ 2 ^ 63)) = false) (c1 : (items.isEmpty || x == 1) = false) (c2 : (decide (x ≤ 0) || items.isEmpty) = true) :
    Meets (Builtin.«tuple.__mul__» ⟨[.ref l, .int x u], []⟩) (fun _ R s => s.heap.get? l = some { cls := .type "tuple", dict := dd, data := .seq items n, slots := sl } ∧
      R (.ok (.ret (Value.ref s.heap.objs.size))) { s with heap := s.heap.push { cls := Value.type "tuple", data := Data.seq #[] }, toks := s.toks }) :=
  .of_wp fun prog w A R s h => by
    obtain ⟨hp, g, d, tk, os⟩ := s
    obtain ⟨hl, h⟩ := h
    have f1 := AutoSeq1.idx_int
    wp_walk using wpAny_loadPart' hl
    repeat (first
      | (refine wpAny_ite_false (decide_eq_false (by rw [c0]; exact Bool.false_ne_true)) ?_; wp_walk using wpAny_loadPart' hl)
      | (refine wpAny_ite_false (decide_eq_false (by rw [c1]; exact Bool.false_ne_true)) ?_; wp_walk using wpAny_loadPart' hl)
      | (refine wpAny_ite_true (decide_eq_true (by rw [c2])) ?_; wp_walk using wpAny_loadPart' hl))
    exact ⟨_, rfl, h⟩
def rRepT1 (K : PySem.W.Frag) : R2 := fun x y H Q => ∃ l k xs, x = .ref l ∧ y = .int k ∧ SqT K H l xs ∧ -1000 ≤ k ∧ k ≤ 1000 ∧ ((k = 1 ∨ xs = []) ∧ Q (.ref l) H ∨ xs ≠ [] ∧ k ≤ 0 ∧ ∀ p, H p = none → Q (.ref p) (upd H p (.tup [])))
theorem op_repT1 : OpR X (binaryOp .Mult) (rRepT1 X.K) := by
  intro pins s σ H x y v u Q I rx ry h
  obtain ⟨l, k, xs, rfl, rfl, hT, h1, h2, q⟩ := h
  cases rx
  obtain ⟨t, rfl⟩ := ry
  obtain ⟨its, r, ⟨⟨cls, dd, data, sl⟩, ho, hc, n, hd⟩, hs⟩ := I.tuple hT
  simp only at hc hd
  subst hc hd
  have c0 : (decide (k < -(2 ^ 63)) || decide (k ≥ 2 ^ 63)) = false := by
    rw [decide_eq_false (by omega), decide_eq_false (by omega)] <;> rfl
  have hem : its.toArray.isEmpty = xs.isEmpty := by
    have := r.length
    cases its <;> cases xs <;> simp_all
  refine wpAny_binaryOp_repeat_ref (T := "tuple") (U := "int") (by decide) ⟨_, ho, rfl⟩ (fun s' => typeIs_int s' k t) noFill_tuple_mul F.fills_int_mul F.slot_int_rmul repeat_tuple F.slot_int_index.lookup
    (call_meets F.slot_int_rmul (typeIs_int s k t) F.entry_int_rmul (F.args_int_rmul_2 _ _) (int_rmul_tuple k t l its.toArray n dd sl)
      ⟨ho, rfl, ⟨_, ho, rfl⟩, ?_⟩)
  rcases q with ⟨e, q⟩ | ⟨e1, e2, q⟩
  · have c1 : (its.toArray.isEmpty || k == 1) = true := by
      rw [hem]
      rcases e with e | e <;> subst e <;> simp
    exact call_meets F.slot_tuple_mul ⟨_, ho, rfl⟩ F.entry_tuple_mul (F.args_tuple_mul_2 _ _) (tuple_mul1 l its.toArray n k t c0 c1) ⟨⟨_, _, ho⟩, .ref l, H, I, rfl, q⟩
  · have hx : xs.isEmpty = false := by cases xs <;> simp_all
    have c1 : (its.toArray.isEmpty || k == 1) = false := by
      rw [hem, hx, Bool.false_or]
      exact beq_eq_false_iff_ne.mpr (by omega)
    have c2 : (decide (k ≤ 0) || its.toArray.isEmpty) = true := by
      rw [decide_eq_true e2, Bool.true_or]
    refine call_meets F.slot_tuple_mul ⟨_, ho, rfl⟩ F.entry_tuple_mul (F.args_tuple_mul_2 _ _) (tuple_mul0 l its.toArray n dd sl k t c0 c1 c2) ⟨ho, ?_⟩
    refine ⟨.ref s.heap.objs.size, _, I.laid (t' := s.toks) (o := .tup []) (fun b ob q => Heap.get?_push_of_some _ q) (Nat.le_refl _) ?_, rfl, q _ (I.hok.fresh (Nat.le_refl _))⟩
    exact ⟨Nat.zero_le _, [], .nil, PyProof.Rows.IsTup.new _ _⟩
variable {Γ : Gm} {Z : WX} {pos : Pos}
def gMulT : Op2 := fun x y S => match x, y with
  | .d (.tuple xs), .d (.int k) => if (k = 1 ∨ xs = []) ∧ -1000 ≤ k ∧ k ≤ 1000 then some (.d (.tuple xs), S) else if k ≤ 0 ∧ -1000 ≤ k then some (.d (.tuple []), S) else gMul x y S
  | x, y => gMul x y S
def rMulC (K : PySem.W.Frag) : R2 := fun x y H Q => rRepT1 K x y H Q ∨ rMulB K x y H Q
theorem op_mulC : OpR X (binaryOp .Mult) (rMulC X.K) := OpR.or op_repT1 op_mulB
theorem does_mulC : Does2 Γ X Z gMulT (rMulC X.K) := fun w x y vx vy σ Q z S' G rx ry h p => by
  unfold gMulT at h
  split at h
  · rename_i xs k
    split at h
    · rename_i hm
      cases h
      cases (show Dp X.K w.im vy (.int k) from ry)
      have rx' := rx
      cases (show Dp X.K w.im vx (.tuple xs) from rx) with
      | tup q1 d1 =>
        have l1 := Paired.len (DpAll.paired d1)
        refine .inl ⟨_, k, _, rfl, rfl, SqT.mono (im_sub w) q1, hm.2.1, hm.2.2, .inl ⟨hm.1.imp id fun e => ?_, p.use G rx'⟩⟩
        subst e; cases d1; rfl
    · split at h
      · rename_i hn hm
        cases h
        cases (show Dp X.K w.im vy (.int k) from ry)
        cases (show Dp X.K w.im vx (.tuple xs) from rx) with
        | tup q1 d1 =>
          have hne : xs ≠ [] := fun e => hn ⟨.inr e, hm.2, by omega⟩
          refine .inl ⟨_, k, _, rfl, rfl, SqT.mono (im_sub w) q1, hm.2, by omega, .inr ⟨fun e => hne ?_, hm.1, ?_⟩⟩
          · subst e; cases d1; rfl
          · exact Post.tup p G (DpAll.of .nil)
      · exact .inr (does_mul w _ _ vx vy σ Q z S' G rx ry h p)
  · exact .inr (does_mul w _ _ vx vy σ Q z S' G rx ry h p)
end
end G
set_option Elab.async false
set_option linter.all false
set_option maxRecDepth 100000
set_option maxHeartbeats 4000000
/-! G12: own calls, defs, stores into lists and dicts, displays of dicts -/
namespace G
open PySem PySem.Spec L2 PyProof.Rows
set_option autoImplicit false
abbrev Fn := List W → Sto → Out W
/-! ### a def's promise by values -/
def spOf (Γ : Gm) (K : PySem.W.Frag) (n : Nat) (F : Fn) : Sp := fun vs H Q E => vs.length = n ∧ ∃ w ws, w.H = H ∧ Good Γ K w ∧ RWs K w vs ws ∧ Post Γ K (RW K) w [] (fun c d _ H => E c d H) (F ws w.S) Q
/-- a def: n values are handed in, dws fill up -/
structure Cal (Γ : Gm) (P : Program) (wd : World) (K : PySem.W.Frag) (mg : Str → Option Value) (base : Heap) (k : Nat) (x : Str) (n : Nat) (dws : List PyData) (F : Fn) : Prop where
  ex : ∃ (f : Addr) (fd : FuncData) (ps : List Str) (ds : List Value) (dvs : List V), mg x = some (.ref f) ∧ PySem.W.keepIn K (.ref f) = true ∧ Binds K fd ps ds ∧ Vals dvs ds ∧ (∀ H, DpAll K H dvs dws) ∧ n + dws.length = ps.length ∧ FnOk P wd K mg base (L2.CX P wd) k f fd ps (spOf Γ K ps.length F)
def ofD (ds : List PyData) : List W := ds.map W.d
theorem rws_ofD {K : PySem.W.Frag} {w : Wd} : ∀ {vs : List V} {ds : List PyData}, DpAll K w.im vs ds → RWs K w vs (ofD ds)
  | _, _, .nil => .nil
  | _, _, .cons q r => .cons q (rws_ofD r)
def fCall (n : Nat) (dws : List PyData) (F : Fn) (f : Fe (List W)) : Fe W := fun ρ S => (f ρ S).bind fun xs S1 => if xs.length = n then F (xs ++ ofD dws) S1 else .bad
def startR (n : Nat) (ws : List W) : Slt := ws.map some ++ List.replicate (n - ws.length) none
def runB (n : Nat) (b : Fs) : Fn := fun ws S => match b (startR n ws) S with
  | .nx _ S1 => .ok (.d .none) S1
  | .rt x S1 => .ok x S1
  | .ex e _ S1 => .ex e S1
  | _ => .bad
section
variable {Γ : Gm} {X : Cx} {Z : WX} {pos : Pos}
theorem Post.zed {α β : Type} {K : PySem.W.Frag} {R : Wd → β → α → Prop} {w : Wd} {σ σ' : L2.St} {Z Z' : WX} {r : Out α} {Q : β → Hp → Prop} (p : Post Γ K R w σ Z r Q) (h : ∀ c d H, Z c d σ H → Z' c d σ' H) : Post Γ K R w σ' Z' r Q := by
  cases r with
  | ok x S => exact p
  | ex e S => exact fun w1 c d e l g r => h _ _ _ (p w1 c d e l g r)
  | bad => exact p
theorem ve_call {k : Nat} {x : Str} {n : Nat} {dws : List PyData} {F : Fn} {e : Expr} {es : List Expr} {f : Fe (List W)} {p : Pos} (C : Cal Γ X.prog X.w X.K X.mg X.base k x n dws F) (tk : Takes X Z) (hr : Room k X.A) (ha : VA Γ X Z (e :: es) f) (hg : Gl X x := by rfl)
    (hdb : (x == ("__debug__" : Str)) = false := by decide) (he : starEach (e :: es) X.env = (false, eval e X.env) :: starEach es X.env := by rfl) (hpl : (backTo pos (starEach es X.env)).any (·.1) = false := by rfl) :
    VE Γ X Z (.Call (.Name x p) (e :: es) [] pos) (fCall n dws F f) := by
  obtain ⟨fa, fd, ps, ds, dvs, hm, hk, hb, hv, hd, hl, Fo⟩ := C.ex
  refine ⟨PE.mono (pe_callSD Fo hr hg hm hk hb hv (fun σ => passAt tk σ) ha.pa hdb he hpl) fun σ H Q q => ?_⟩
  refine liftR.imp (seq1 (R := RWs X.K) q) fun vs H1 ⟨xs, w, e, G, r, p⟩ => ?_
  subst e
  split at p
  · rename_i hn
    refine ⟨?_, w, _, rfl, G, Paired.app r (rws_ofD (hd _)), Post.zed p fun c d H z => z⟩
    have h1 := Paired.len r
    have h2 := Paired.len (DpAll.paired (hd w.H))
    rw [List.length_append]; omega
  · exact p.elim
theorem slots_start {K : PySem.W.Frag} {w : Wd} {N : List Str} {vs : List V} {ws : List W} (r : RWs K w vs ws) : Slots K w (L2.start N vs) (startR N.length ws) := by
  have hl := Paired.len r
  refine ⟨by simp [L2.start, startR, hl], fun i x e => ?_⟩
  unfold startR at e
  by_cases h : i < ws.length
  · rw [List.getElem?_append_left (by simpa using h), List.getElem?_map] at e
    cases e1 : ws[i]? with
    | none => rw [e1] at e; cases e
    | some y =>
      rw [e1] at e
      cases e
      obtain ⟨v, h1, h2⟩ := Paired.get r e1
      refine ⟨v, ?_, h2⟩
      unfold L2.start
      rw [List.getElem?_append_left (by rw [List.length_map]; omega), List.getElem?_map, h1]
      rfl
  · rw [List.getElem?_append_right (by simpa using Nat.le_of_not_lt h), List.getElem?_replicate] at e
    split at e <;> cases e
theorem fn_rule {P : Program} {wd : World} {K : PySem.W.Frag} {mg : Str → Option Value} {base : Heap} {k : Nat} {x qual : Str} {params : Arguments} {body : List Stmt} {scope : Scope} {dvs : List V} {kws : List (Str × V)} {f : Addr} {fd : FuncData} {N ps : List Str} {b : Fs}
    (F : FunD K x qual params body scope dvs kws f fd) (S : FnScope N ps scope)
    (hb : ∀ (cdv : Value) (A : Around) (outer : List Env) (s : Shared) (H : Hp) (E : XK), Room k (A.deeper (envOfC qual scope s.heap.objs.size f cdv)) → VB Γ (cxOf (L2.CX P wd) P wd K mg base N qual scope f cdv A outer s H E) (fun c d _ H => E c d H) body b) :
    FnOk P wd K mg base (L2.CX P wd) (k + 1) f fd ps (spOf Γ K ps.length (runB N.length b)) := by
  refine F.ok S (fun vs H Q E h => h.1) (fun cdv A outer s H vs Q E hr h => ⟨_, (hb cdv A outer s H E hr).ps, ?_⟩)
  obtain ⟨hl, w, ws, rfl, G, r, p⟩ := h
  refine ⟨w, startR N.length ws, rfl, G, slots_start r, ?_⟩
  unfold runB at p
  cases e : b (startR N.length ws) w.S with
  | nx ρ S1 =>
    rw [e] at p
    exact fun w1 σ1 e1 l g q => p w1 .non e1 l g Dp.non
  | rt x S1 => rw [e] at p; exact fun w1 v e1 l g q => p w1 v e1 l g q
  | ex x ρ S1 =>
    rw [e] at p
    exact fun w1 σ1 c d e1 l g q z => p w1 c d e1 l g z
  | bk _ _ => rw [e] at p; exact p.elim
  | ct _ _ => rw [e] at p; exact p.elim
  | bad => rw [e] at p; exact p.elim
/-- how a call of a def without defaults binds -/
theorem Cal.of {P : Program} {wd : World} {K : PySem.W.Frag} {mg : Str → Option Value} {base : Heap} {k : Nat} {x qual : Str} {params : Arguments} {body : List Stmt} {scope : Scope} {kws : List (Str × V)} {f : Addr} {fd : FuncData} {ps : List Str} {F : Fn} {n : Nat}
    (D : FunD K x qual params body scope [] kws f fd) (hm : mg x = some (.ref f)) (hn : n = ps.length) (h : ∀ (kV doc pm : Value) (an : Option Addr) (cdv ct : Value) (us : List Value), us.length = ps.length → bindArgs (PySem.W.fnOf x qual params body scope .none kV doc pm an cdv ct) ⟨us, []⟩ = pure (ps.zip us))
    (o : FnOk P wd K mg base (L2.CX P wd) k f fd ps (spOf Γ K ps.length F)) : Cal Γ P wd K mg base k x n [] F :=
  ⟨f, fd, ps, [], [], hm, D.kp, D.bindsN h, .nil, fun _ => .nil, by simpa using hn, o⟩
theorem Cal.mono {P : Program} {wd : World} {K : PySem.W.Frag} {mg : Str → Option Value} {base : Heap} {j k : Nat} {x : Str} {n : Nat} {dws : List PyData} {F : Fn} (C : Cal Γ P wd K mg base j x n dws F) (h : j ≤ k) : Cal Γ P wd K mg base k x n dws F := by
  obtain ⟨fa, fd, ps, ds, dvs, hm, hk, hb, hv, hd, hl, Fo⟩ := C.ex
  exact ⟨fa, fd, ps, ds, dvs, hm, hk, hb, hv, hd, hl, Fo.mono h⟩

/-! ### a, b, c = x, y, z -/
def fPar3 (i j l : Nat) (f : Fe (List W)) : Fs := fun ρ S => (f ρ S).fl ρ fun xs S1 => match xs with
  | [x, y, z] => .nx (((ρ.set i (some x)).set j (some y)).set l (some z)) S1
  | _ => .bad
theorem vs_par3 (i j l : Nat) {x y z : Str} {a b c : Expr} {f : Fe (List W)} {px py pz pt : Pos} {kt k2 pt2} (ha : VA Γ X Z [a, b, c] f) (hN : X.N.Nodup) (hw : swappedStores [.Tuple [.Name x px, .Name y py, .Name z pz] kt pt] (.Tuple [a, b, c] k2 pt2) X.env = pure (some [x, y, z]))
    (hc : X.calm = true := by rfl) (hi : X.N[i]? = some x := by rfl) (hj : X.N[j]? = some y := by rfl) (hl : X.N[l]? = some z := by rfl) (hij : i ≠ j := by decide) (hil : i ≠ l := by decide) (hjl : j ≠ l := by decide)
    (hx : X.env.scope.names.lookup x = some .local := by rfl) (hy : X.env.scope.names.lookup y = some .local := by rfl) (hz : X.env.scope.names.lookup z = some .local := by rfl)
    (hs : swapsWithSole [.Tuple [.Name x px, .Name y py, .Name z pz] kt pt] (.Tuple [a, b, c] k2 pt2) pos.line X.env = pure false := by rfl) : VS Γ X Z (.Assign [.Tuple [.Name x px, .Name y py, .Name z pz] kt pt] (.Tuple [a, b, c] k2 pt2) pos) (fPar3 i j l f) := by
  refine ⟨PS.mono (ps_par3 hc hN hi hj hl hij hil hjl hx hy hz ha.pa hw hs) fun D σ H q => (liftS.out (R := RWs X.K) (k := fun xs ρ S1 => match xs with
    | [x, y, z] => .nx (((ρ.set i (some x)).set j (some y)).set l (some z)) S1
    | _ => .bad) q).imp fun v H1 ⟨xs, w, ρ, e, G, s, r, p⟩ => ?_⟩
  split at p
  · subst e
    obtain ⟨v1, v2, v3, rfl, r1, r2, r3⟩ := rws_three r
    exact ⟨v1, v2, v3, rfl, PostS.nx_use p G (((s.set r1 i).set r2 j).set r3 l)⟩
  · exact p.elim

theorem flpost {α β : Type} {K : PySem.W.Frag} {R : Wd → β → α → Prop} {w : Wd} {σ : L2.St} {ρ : Slt} {r : Out α} {k : α → Sto → Fl} {D : Ends} (p : PostS Γ K w Z (r.fl ρ k) D) (s : Slots K w σ ρ) :
    Post Γ K R w σ Z r fun v H1 => ∃ x w1, w1.H = H1 ∧ Good Γ K w1 ∧ w.le w1 ∧ R w1 v x ∧ PostS Γ K w1 Z (k x w1.S) D := by
  cases r with
  | ok x S =>
    intro w1 v e l g q
    subst e
    exact ⟨x, w1, rfl, g, l, q, PostS.mono l p⟩
  | ex e S => exact fun w1 c d e1 l g q => p w1 σ c d e1 l g (s.mono l) q
  | bad => exact p
/-! ### o[i] = x -/
def putL (x y z : W) (S : Sto) : Option Sto := match x, y with
  | .o n, .d (.int k) => match S[n]? with
    | some (.lst ws) => (ixN ws.length k).map fun j => S.set n (.lst (ws.set j z))
    | _ => none
  | _, _ => none
def fPutL (fo fi fv : Fe W) : Fs := fun ρ S => (fv ρ S).fl ρ fun z S1 => (fo ρ S1).fl ρ fun x S2 => (fi ρ S2).fl ρ fun y S3 => match putL x y z S3 with
  | some S4 => .nx ρ S4
  | none => .bad
theorem vs_putL {o i e : Expr} {fo fi fv : Fe W} {p' : Pos} (he : VE Γ X Z e fv) (ho : VE Γ X Z o fo) (hi : VE Γ X Z i fi)
    (ha : ∀ v, assign (.Subscript o i p') X.env v = (do
      let ov ← holding [v] (eval o X.env)
      let iv ← holding [v, ov] (eval i X.env)
      standAt p'
      holding [v, ov, iv] (setItem ov iv v)
      release [v, ov, iv] []) := by intro _; rfl)
    (hs : swapsWithSole [.Subscript o i p'] e pos.line X.env = pure false := by rfl) (hw : swappedStores [.Subscript o i p'] e X.env = pure none := by rfl)
    (h1 : (assignEach [.Subscript o i p'] X.env).map (·.2) = [assign (.Subscript o i p') X.env] := by rfl) : VS Γ X Z (.Assign [.Subscript o i p'] e pos) (fPutL fo fi fv) := by
  refine ⟨PS.mono (ps_asg he.pe (pg_sub ho.pe hi.pe set_list ha) hs hw h1) fun D σ H q => ?_⟩
  refine (liftS.out (R := RW X.K) (k := fun z ρ S1 => (fo ρ S1).fl ρ fun x S2 => (fi ρ S2).fl ρ fun y S3 => match putL x y z S3 with
    | some S4 => .nx ρ S4
    | none => .bad) q).imp fun v H1 ⟨z, w1, ρ1, e1, G1, s1, r1, p1⟩ => ?_
  subst e1
  refine ⟨w1, ρ1, rfl, G1, s1, (flpost (R := RW X.K) p1 s1).imp fun o H2 ⟨x, w2, e2, G2, l2, rx, p2⟩ => ?_⟩
  subst e2
  refine ⟨w2, ρ1, rfl, G2, s1.mono l2, (flpost (R := RW X.K) p2 (s1.mono l2)).imp fun i H3 ⟨y, w3, e3, G3, l3, ry, p3⟩ => ?_⟩
  subst e3
  split at p3
  · rename_i S4 e4
    unfold putL at e4
    split at e4
    · rename_i n k _
      split at e4
      · rename_i ws ew
        obtain ⟨j, hj, rfl⟩ := Option.map_eq_some_iff.mp e4
        obtain ⟨a, ha2, rfl⟩ := RW.mono l3 rx
        obtain ⟨vs, hv, rv⟩ := G3.cell n a _ ha2 ew
        cases (show Dp X.K w3.im i (.int k) from ry)
        refine ⟨a, vs, k, j, rfl, rfl, hv, by rw [Paired.len rv]; exact hj, ?_⟩
        have rz := RW.mono (l2.trans l3) r1
        obtain ⟨G5, l5⟩ := G3.write (c' := .lst (ws.set j z)) ha2 ew rfl (.lst (vs.set j v)) (fun w1 l e => ⟨_, e, RWs.mono l (Paired.set rz j rv)⟩) rfl
        exact PostS.nx_use (w := ⟨w3.μ, w3.S.set n (.lst (ws.set j z)), upd w3.H a (.lst (vs.set j v))⟩) (PostS.mono l5 p3) G5 ((s1.mono (l2.trans l3)).mono l5)
      · cases e4
    · cases e4
  · exact p3.elim
/-! ### d[k] = x -/
def putDk (x y z : W) (S : Sto) : Option Sto := match x, keyOf y with
  | .o n, some k => match S[n]? with
    | some (.dic kvs) => if szOk kvs.length = true then some (S.set n (.dic (putD kvs k z))) else none
    | _ => none
  | _, _ => none
def fPutD (fo fi fv : Fe W) : Fs := fun ρ S => (fv ρ S).fl ρ fun z S1 => (fo ρ S1).fl ρ fun x S2 => (fi ρ S2).fl ρ fun y S3 => match putDk x y z S3 with
  | some S4 => .nx ρ S4
  | none => .bad
theorem vs_putD {o i e : Expr} {fo fi fv : Fe W} {p' : Pos} (hu : Rm X) (he : VE Γ X Z e fv) (ho : VE Γ X Z o fo) (hi : VE Γ X Z i fi)
    (hs : swapsWith e (some (.Subscript o i p')) pos.line X.env = pure false := by rfl) : VS Γ X Z (.Assign [.Subscript o i p'] e pos) (fPutD fo fi fv) := by
  refine ⟨PS.mono (ps_dput (by unfold Rm at hu; omega) ho.pe hi.pe he.pe hs) fun D σ H q => ?_⟩
  refine (liftS.out (R := RW X.K) (k := fun z ρ S1 => (fo ρ S1).fl ρ fun x S2 => (fi ρ S2).fl ρ fun y S3 => match putDk x y z S3 with
    | some S4 => .nx ρ S4
    | none => .bad) q).imp fun v H1 ⟨z, w1, ρ1, e1, G1, s1, r1, p1⟩ => ?_
  subst e1
  refine ⟨w1, ρ1, rfl, G1, s1, (flpost (R := RW X.K) p1 s1).imp fun o H2 ⟨x, w2, e2, G2, l2, rx, p2⟩ => ?_⟩
  subst e2
  refine ⟨w2, ρ1, rfl, G2, s1.mono l2, (flpost (R := RW X.K) p2 (s1.mono l2)).imp fun i H3 ⟨y, w3, e3, G3, l3, ry, p3⟩ => ?_⟩
  subst e3
  split at p3
  · rename_i S4 e4
    unfold putDk at e4
    split at e4
    · rename_i n k ek _
      split at e4
      · rename_i kvs ew
        split at e4
        · rename_i hz
          cases e4
          obtain ⟨a, ha2, rfl⟩ := RW.mono l3 rx
          obtain ⟨us, hv, rv⟩ := G3.cell n a _ ha2 ew
          have rz := RW.mono (l2.trans l3) r1
          have hl := Paired.len rv
          refine ⟨a, upd w3.H a (.dK (putK us k v)), rfl, .inl ⟨us, k, hv, keyOf_ok ry ek, by rw [hl]; exact sz_line hz, rfl⟩, ?_⟩
          obtain ⟨G5, l5⟩ := G3.write (c' := .dic (putD kvs k z)) ha2 ew rfl (.dK (putK us k v)) (fun w1 l e => ⟨_, e, Paired.imp (fun _ _ q => ⟨q.1, RW.mono l q.2⟩) (putD_ok rv rz)⟩) rfl
          exact PostS.nx_use (w := ⟨w3.μ, w3.S.set n (.dic (putD kvs k z)), upd w3.H a (.dK (putK us k v))⟩) (PostS.mono l5 p3) G5 ((s1.mono (l2.trans l3)).mono l5)
        · cases e4
      · cases e4
    · cases e4
  · exact p3.elim
end
end G
set_option Elab.async false
set_option linter.all false
set_option maxRecDepth 100000
set_option maxHeartbeats 4000000
/-! G13: displays of dicts, try of what raises nothing -/
namespace G
open PySem PySem.Spec L2 PyProof.Rows
set_option autoImplicit false
def evP : List (Fe W × Fe W) → Fe (List (Key × W))
  | [], _, S => .ok [] S
  | (f, g) :: r, ρ, S => (f ρ S).bind fun x S1 => match keyOf x with
    | some k => (g ρ S1).bind fun y S2 => (evP r ρ S2).bind fun kvs S3 => .ok ((k, y) :: kvs) S3
    | none => .bad
def mergeD (kvs more : List (Key × W)) : List (Key × W) := more.foldl (fun acc kv => putD acc kv.1 kv.2) kvs
def fDisp (ps : List (Fe W × Fe W)) : Fe W := fun ρ S => (evP ps ρ (S ++ [.dic []])).bind fun kvs S1 => match S1[S.length]? with
  | some (.dic []) => .ok (.o S.length) (S1.set S.length (.dic (mergeD [] kvs)))
  | _ => .bad
section
variable {Γ : Gm} {X : Cx} {Z : WX} {pos : Pos}
def trsOf (Γ : Gm) (K : PySem.W.Frag) (Z : WX) (ps : List (Fe W × Fe W)) : List (TE × TE) := ps.map fun p => (liftR Γ K Z (RW K) p.1, liftR Γ K Z (RW K) p.2)
structure VPs (Γ : Gm) (X : Cx) (Z : WX) (pos : Pos) (keys : List (Option Expr)) (values : List Expr) (ps : List (Fe W × Fe W)) : Prop where
  pp : PPs X pos keys values (trsOf Γ X.K Z ps)
theorem vps_nil : VPs Γ X Z pos [] [] [] := ⟨pps_nil⟩
theorem vps_cons {k v : Expr} {ks : List (Option Expr)} {vs : List Expr} {f g : Fe W} {ps : List (Fe W × Fe W)} (hk : VE Γ X Z k f) (hv : VE Γ X Z v g) (hr : VPs Γ X Z pos ks vs ps) : VPs Γ X Z pos (some k :: ks) (v :: vs) ((f, g) :: ps) := ⟨pps_cons hk.pe hv.pe hr.pp⟩
def RKV (K : PySem.W.Frag) (w : Wd) : List (V × V) → List (Key × W) → Prop := Paired fun p q => p.1 = kV q.1 ∧ RW K w p.2 q.2
theorem RKV.mono {K : PySem.W.Frag} {w w1 : Wd} (l : w.le w1) {ps : List (V × V)} {kvs : List (Key × W)} (r : RKV K w ps kvs) : RKV K w1 ps kvs := Paired.imp (fun _ _ q => ⟨q.1, RW.mono l q.2⟩) r
theorem pairs_lift {K : PySem.W.Frag} : ∀ {ps : List (Fe W × Fe W)} {w : Wd} {ρ : Slt} {σ : L2.St} {Q : List (V × V) → Hp → Prop}, Good Γ K w → Slots K w σ ρ → Post Γ K (RKV K) w σ Z (evP ps ρ w.S) Q → tPairs (trsOf Γ K Z ps) σ w.H Q
  | [], w, ρ, σ, Q, G, s, p => p w [] rfl (Wd.le.refl _) G .nil
  | (f, g) :: r, w, ρ, σ, Q, G, s, p => by
    unfold evP at p
    refine ⟨w, ρ, rfl, G, s, (Post.bind (R := RW K) p).imp fun v H1 ⟨w1, x, e1, G1, l1, rx, p1⟩ => ?_⟩
    subst e1
    split at p1
    · rename_i k ek
      refine ⟨w1, ρ, rfl, G1, s.mono l1, (Post.bind (R := RW K) p1).imp fun u H2 ⟨w2, y, e2, G2, l2, ry, p2⟩ => ?_⟩
      subst e2
      refine pairs_lift G2 (s.mono (l1.trans l2)) ((Post.bind (R := RKV K) p2).imp fun qs H3 ⟨w3, kvs, e3, G3, l3, rk, p3⟩ => ?_)
      subst e3
      exact p3 w3 ((v, u) :: qs) rfl (Wd.le.refl _) G3 (.cons ⟨keyOf_ok rx ek, RW.mono l3 ry⟩ rk)
    · exact p1.elim
theorem rkv_keys {K : PySem.W.Frag} {w : Wd} : ∀ {ps : List (V × V)} {kvs : List (Key × W)}, RKV K w ps kvs → ∃ us : List (Key × V), ps = us.map (fun kv => (kV kv.1, kv.2)) ∧ Paired (fun (p : Key × V) (q : Key × W) => p.1 = q.1 ∧ RW K w p.2 q.2) us kvs
  | _, _, .nil => ⟨[], rfl, .nil⟩
  | _, _, .cons (a := a) (b := b) q r => by
    obtain ⟨us, e, h⟩ := rkv_keys r
    exact ⟨(b.1, a.2) :: us, by rw [List.map_cons, ← e, ← q.1], .cons ⟨rfl, q.2⟩ h⟩
theorem merge_ok {K : PySem.W.Frag} {w : Wd} : ∀ {more : List (Key × V)} {mo : List (Key × W)} {us : List (Key × V)} {kvs : List (Key × W)}, Paired (fun (p : Key × V) (q : Key × W) => p.1 = q.1 ∧ RW K w p.2 q.2) more mo →
    Paired (fun (p : Key × V) (q : Key × W) => p.1 = q.1 ∧ RW K w p.2 q.2) us kvs → Paired (fun (p : Key × V) (q : Key × W) => p.1 = q.1 ∧ RW K w p.2 q.2) (mergeK us more) (mergeD kvs mo)
  | _, _, _, _, .nil, h => h
  | _, _, _, _, .cons (a := a) (b := b) q r, h => by
    show Paired _ (mergeK (putK _ a.1 a.2) _) (mergeD (putD _ b.1 b.2) _)
    rw [q.1]
    exact merge_ok r (putD_ok h q.2)
theorem evP_len : ∀ {ps : List (Fe W × Fe W)} {ρ : Slt} {S S' : Sto} {kvs : List (Key × W)}, evP ps ρ S = .ok kvs S' → kvs.length = ps.length
  | [], _, _, _, _, h => by cases h; rfl
  | (f, g) :: r, ρ, S, S', kvs, h => by
    unfold evP at h
    cases e1 : f ρ S with
    | bad => simp [e1] at h
    | ex e T => simp [e1] at h
    | ok x S1 =>
      simp only [e1, Out.bind] at h
      split at h
      · cases e2 : g ρ S1 with
        | bad => simp [e2] at h
        | ex e T => simp [e2] at h
        | ok y S2 =>
          simp only [e2, Out.bind] at h
          cases e3 : evP r ρ S2 with
          | bad => simp [e3] at h
          | ex e T => simp [e3] at h
          | ok z S3 =>
            simp only [e3] at h
            cases h
            have := evP_len e3
            simp [this]
      · cases h
theorem ve_disp {keys : List (Option Expr)} {values : List Expr} {ps : List (Fe W × Fe W)} (h : VPs Γ X Z pos keys values ps) (hall : keys.all (·.isSome) = true := by rfl) (hl : keys.length = values.length := by rfl) (h0 : keys ≠ [] := by (intro z; cases z)) (h15 : keys.length ≤ 15 := by decide) (h16 : ps.length ≤ 15 := by decide) :
    VE Γ X Z (.Dict keys values pos) (fDisp ps) := by
  refine ⟨PE.mono (pe_disp h.pp hall hl h0 h15) fun σ H Q ⟨w, ρ, e, G, s, p⟩ => ?_⟩
  subst e
  intro D hD
  unfold fDisp at p
  obtain ⟨G1, l1⟩ := G.alloc (c := .dic []) hD (.dK []) (fun w1 l e => ⟨[], e, .nil⟩) rfl
  have hD1 : (Wd.mk (w.μ ++ [D]) (w.S ++ [.dic []]) (upd w.H D (.dK []))).μ[w.S.length]? = some D := by
    show (w.μ ++ [D])[w.S.length]? = _
    rw [← G.len]; simp
  have p1 := Post.mono l1 p
  cases ee : evP ps ρ (w.S ++ [.dic []]) with
  | bad => rw [ee] at p1; exact p1.elim
  | ex e S1 =>
    refine pairs_lift (w := ⟨w.μ ++ [D], w.S ++ [.dic []], upd w.H D (.dK [])⟩) G1 (s.mono l1) ?_
    rw [ee] at p1 ⊢
    exact p1
  | ok kvs S1 =>
    refine pairs_lift (w := ⟨w.μ ++ [D], w.S ++ [.dic []], upd w.H D (.dK [])⟩) G1 (s.mono l1) ?_
    have hlen := evP_len ee
    rw [ee] at p1 ⊢
    intro w2 vs e2 l2 G2 rk
    simp only [Out.bind] at p1
    have p2 := Post.mono l2 p1
    subst e2
    have hD2 : w2.μ[w.S.length]? = some D := l2.at hD1
    split at p2
    · rename_i ec
      obtain ⟨us0, hu0, r0⟩ := G2.cell _ D _ hD2 ec
      cases r0
      obtain ⟨us, eu, ru⟩ := rkv_keys rk
      have hl2 := Paired.len ru
      refine ⟨hu0, us, eu, by omega, ?_⟩
      have rm := merge_ok ru (us := []) (kvs := []) .nil
      obtain ⟨G3, l3⟩ := G2.write (c' := .dic (mergeD [] kvs)) hD2 ec rfl (.dK (mergeK [] us)) (fun w1 l e => ⟨_, e, Paired.imp (fun _ _ q => ⟨q.1, RW.mono l q.2⟩) rm⟩) rfl
      exact p2 ⟨w2.μ, w2.S.set w.S.length (.dic (mergeD [] kvs)), upd w2.H D (.dK (mergeK [] us))⟩ (.ref D) rfl l3 G3 ⟨D, hD2, rfl⟩
    · exact p2.elim
/-! ### try of what raises nothing -/
end
end G
set_option Elab.async false
set_option linter.all false
set_option maxRecDepth 100000
set_option maxHeartbeats 4000000
/-! G14: short names for a printer of derivations -/
namespace G
open PySem PySem.Spec L2 PyProof.Rows
set_option autoImplicit false
section
variable {Γ : Gm} {X : Cx} {Z : WX} {pos : Pos} {a b c : Expr} {f g h : Fe W}
abbrev gSub : Op2 := gInt fun i j => .int (i - j)
theorem ve_add (ha : VE Γ X Z a f) (hb : VE Γ X Z b g) : VE Γ X Z (.BinOp a .Add b pos) (fOp2 gAdd f g) := ve_op op_addA does_add ha hb
theorem ve_sub (ha : VE Γ X Z a f) (hb : VE Γ X Z b g) : VE Γ X Z (.BinOp a .Sub b pos) (fOp2 gSub f g) := ve_op op_sub (does_int fun _ _ _ _ => Dp.int _) ha hb
theorem ve_mul (ha : VE Γ X Z a f) (hb : VE Γ X Z b g) : VE Γ X Z (.BinOp a .Mult b pos) (fOp2 gMulT f g) := ve_op op_mulC does_mulC ha hb
theorem ve_fdv (ha : VE Γ X Z a f) (hb : VE Γ X Z b g) : VE Γ X Z (.BinOp a .FloorDiv b pos) (fOp2 gDiv f g) := ve_op op_fdivA does_div ha hb
theorem ve_md (ha : VE Γ X Z a f) (hb : VE Γ X Z b g) : VE Γ X Z (.BinOp a .Mod b pos) (fOp2 gMod f g) := ve_op op_mod does_mod ha hb
theorem ve_pw (ha : VE Γ X Z a f) (hb : VE Γ X Z b g) : VE Γ X Z (.BinOp a .Pow b pos) (fOp2 gPow f g) := ve_op op_pow does_pow ha hb
theorem rmu (hu : Rm X) : X.A.units + 64 < cLine := by unfold Rm at hu; omega
abbrev cLt : Op2 := gLt PySem.W.dataLt
abbrev cGt : Op2 := gLt fun x y => PySem.W.dataLt y x
abbrev cLe : Op2 := gLt fun x y => !PySem.W.dataLt y x
abbrev cGe : Op2 := gLt fun x y => !PySem.W.dataLt x y
theorem ol_lt (hu : Rm X) : OpR X (compareOp .Lt) (rLtD X.K PySem.W.dataLt) := op_ltD hu fun A s a b da db as bs Q E r1 r2 h1 h2 h3 q => PySem.W.lt_data r1 r2 h1 h2 h3 q
theorem ol_gt (hu : Rm X) : OpR X (compareOp .Gt) (rLtD X.K fun x y => PySem.W.dataLt y x) := op_ltD hu fun A s a b da db as bs Q E r1 r2 h1 h2 h3 q => PySem.W.gt_data r1 r2 h1 h2 h3 q
theorem ol_le (hu : Rm X) : OpR X (compareOp .LtE) (rLtD X.K fun x y => !PySem.W.dataLt y x) := op_ltD hu fun A s a b da db as bs Q E r1 r2 h1 h2 h3 q => PySem.W.le_data r1 r2 h1 h2 h3 q
theorem ol_ge (hu : Rm X) : OpR X (compareOp .GtE) (rLtD X.K fun x y => !PySem.W.dataLt x y) := op_ltD hu fun A s a b da db as bs Q E r1 r2 h1 h2 h3 q => PySem.W.ge_data r1 r2 h1 h2 h3 q
theorem ve_lt (hu : Rm X) (ha : VE Γ X Z a f) (hb : VE Γ X Z b g) : VE Γ X Z (.Compare a [.Lt] [b] pos) (fOp2 (cLt) f g) := ve_cmp (ol_lt hu) does_lt (nomark _) ha hb
theorem ve_gt (hu : Rm X) (ha : VE Γ X Z a f) (hb : VE Γ X Z b g) : VE Γ X Z (.Compare a [.Gt] [b] pos) (fOp2 (cGt) f g) := ve_cmp (ol_gt hu) does_lt (nomark _) ha hb
theorem ve_le (hu : Rm X) (ha : VE Γ X Z a f) (hb : VE Γ X Z b g) : VE Γ X Z (.Compare a [.LtE] [b] pos) (fOp2 (cLe) f g) := ve_cmp (ol_le hu) does_lt (nomark _) ha hb
theorem ve_lelt (hu : Rm X) (ha : VE Γ X Z a f) (hb : VE Γ X Z b g) (hc : VE Γ X Z c h) (hm : lastMarks [.LtE, .Lt] [b, c] = false := by with_unfolding_all rfl) : VE Γ X Z (.Compare a [.LtE, .Lt] [b, c] pos) (fChain (cLe) (cLt) f g h) := ve_chain (ol_le hu) does_lt (ol_lt hu) does_lt ha hb hc fun x y z => pe_chain (ol_le hu) (ol_lt hu) x y z hm
theorem bc_len {fa : Fe (List W)} (hm : X.mg "len" = none) (ha : VA Γ X Z [a] fa) {p : Pos} (hg : Gl X "len" := by rfl) (he : starEach [a] X.env = (false, eval a X.env) :: starEach [] X.env := by rfl) (hpl : (backTo pos (starEach [] X.env)).any (·.1) = false := by rfl) : VE Γ X Z (.Call (.Name "len" p) [a] [] pos) (fCB (gLen) fa) := ve_callB (x := "len") (call_len_seq) does_len hg hm (by decide +kernel) ha (by decide +kernel) (by decide +kernel) he hpl
theorem bc_tuple {fa : Fe (List W)} (hm : X.mg "tuple" = none) (ha : VA Γ X Z [a] fa) {p : Pos} (hg : Gl X "tuple" := by rfl) (he : starEach [a] X.env = (false, eval a X.env) :: starEach [] X.env := by rfl) (hpl : (backTo pos (starEach [] X.env)).any (·.1) = false := by rfl) : VE Γ X Z (.Call (.Name "tuple" p) [a] [] pos) (fCB (gTuple) fa) := ve_callTy (x := "tuple") (call_tuple_of) does_tuple hg hm (by decide +kernel) ha (by decide +kernel) (by decide +kernel) he hpl
theorem bc_int {fa : Fe (List W)} (hm : X.mg "int" = none) (ha : VA Γ X Z [a] fa) {p : Pos} (hg : Gl X "int" := by rfl) (he : starEach [a] X.env = (false, eval a X.env) :: starEach [] X.env := by rfl) (hpl : (backTo pos (starEach [] X.env)).any (·.1) = false := by rfl) : VE Γ X Z (.Call (.Name "int" p) [a] [] pos) (fCB (gInt1) fa) := ve_callTy (x := "int") (call_int1) does_int1 hg hm (by decide +kernel) ha (by decide +kernel) (by decide +kernel) he hpl
theorem bc_sum {fa : Fe (List W)} (hm : X.mg "sum" = none) (hc : X.calm = true) (ha : VA Γ X Z [a] fa) {p : Pos} (hg : Gl X "sum" := by rfl) (he : starEach [a] X.env = (false, eval a X.env) :: starEach [] X.env := by rfl) (hpl : (backTo pos (starEach [] X.env)).any (·.1) = false := by rfl) : VE Γ X Z (.Call (.Name "sum" p) [a] [] pos) (fCB (gSum) fa) := ve_callB (x := "sum") (call_sumA hc) does_sum hg hm (by decide +kernel) ha (by decide +kernel) (by decide +kernel) he hpl
theorem bc_all {fa : Fe (List W)} (hm : X.mg "all" = none) (hc : X.calm = true) (ha : VA Γ X Z [a] fa) {p : Pos} (hg : Gl X "all" := by rfl) (he : starEach [a] X.env = (false, eval a X.env) :: starEach [] X.env := by rfl) (hpl : (backTo pos (starEach [] X.env)).any (·.1) = false := by rfl) : VE Γ X Z (.Call (.Name "all" p) [a] [] pos) (fCB (gAll fun bs => bs.all id) fa) := ve_callB (x := "all") (cr_all hc) does_all hg hm (by decide +kernel) ha (by decide +kernel) (by decide +kernel) he hpl
theorem bc_min2 {fa : Fe (List W)} (hm : X.mg "min" = none) (hc : X.calm = true) (hu : Rm X) (ha : VA Γ X Z [a, b] fa) {p : Pos} (hg : Gl X "min" := by rfl) (he : starEach [a, b] X.env = (false, eval a X.env) :: starEach [b] X.env := by rfl) (hpl : (backTo pos (starEach [b] X.env)).any (·.1) = false := by rfl) : VE Γ X Z (.Call (.Name "min" p) [a, b] [] pos) (fCB (gMM PySem.W.minD 2) fa) := ve_callB (x := "min") (call_min2D hc hu) does_mm hg hm (by decide +kernel) ha (by decide +kernel) (by decide +kernel) he hpl
theorem bc_max2 {fa : Fe (List W)} (hm : X.mg "max" = none) (hc : X.calm = true) (hu : Rm X) (ha : VA Γ X Z [a, b] fa) {p : Pos} (hg : Gl X "max" := by rfl) (he : starEach [a, b] X.env = (false, eval a X.env) :: starEach [b] X.env := by rfl) (hpl : (backTo pos (starEach [b] X.env)).any (·.1) = false := by rfl) : VE Γ X Z (.Call (.Name "max" p) [a, b] [] pos) (fCB (gMM PySem.W.maxD 2) fa) := ve_callB (x := "max") (call_max2D hc hu) does_mm hg hm (by decide +kernel) ha (by decide +kernel) (by decide +kernel) he hpl
theorem bc_sorted {fa : Fe (List W)} (hm : X.mg "sorted" = none) (hu : Rm X) (ha : VA Γ X Z [a] fa) {p : Pos} (hg : Gl X "sorted" := by rfl) (he : starEach [a] X.env = (false, eval a X.env) :: starEach [] X.env := by rfl) (hpl : (backTo pos (starEach [] X.env)).any (·.1) = false := by rfl) : VE Γ X Z (.Call (.Name "sorted" p) [a] [] pos) (fCB (gSort) fa) := ve_callB (x := "sorted") (call_sortD hu) does_sort hg hm (by decide +kernel) ha (by decide +kernel) (by decide +kernel) he hpl
theorem bi_int (hm : X.mg "isinstance" = none) (hm2 : X.mg "int" = none) (ha : VE Γ X Z a f) {p p2 : Pos} (hg : Gl X "isinstance" := by rfl) (hg2 : Gl X "int" := by rfl)
    (he : starEach [a, .Name "int" p2] X.env = (false, eval a X.env) :: starEach [.Name "int" p2] X.env := by rfl)
    (he2 : starEach [.Name "int" p2] X.env = (false, eval (.Name "int" p2) X.env) :: starEach [] X.env := by rfl)
    (hpl : (backTo pos (starEach [.Name "int" p2] X.env)).any (·.1) = false := by rfl) : VE Γ X Z (.Call (.Name "isinstance" p) [a, .Name "int" p2] [] pos) (fIsi .it f) := ve_isi .it ha hg hm hg2 hm2 (by decide +kernel) (by decide +kernel) (by decide +kernel) (by decide +kernel) he he2 hpl
theorem bi_bool (hm : X.mg "isinstance" = none) (hm2 : X.mg "bool" = none) (ha : VE Γ X Z a f) {p p2 : Pos} (hg : Gl X "isinstance" := by rfl) (hg2 : Gl X "bool" := by rfl)
    (he : starEach [a, .Name "bool" p2] X.env = (false, eval a X.env) :: starEach [.Name "bool" p2] X.env := by rfl)
    (he2 : starEach [.Name "bool" p2] X.env = (false, eval (.Name "bool" p2) X.env) :: starEach [] X.env := by rfl)
    (hpl : (backTo pos (starEach [.Name "bool" p2] X.env)).any (·.1) = false := by rfl) : VE Γ X Z (.Call (.Name "isinstance" p) [a, .Name "bool" p2] [] pos) (fIsi .bl f) := ve_isi .bl ha hg hm hg2 hm2 (by decide +kernel) (by decide +kernel) (by decide +kernel) (by decide +kernel) he he2 hpl
theorem bi_tuple (hm : X.mg "isinstance" = none) (hm2 : X.mg "tuple" = none) (ha : VE Γ X Z a f) {p p2 : Pos} (hg : Gl X "isinstance" := by rfl) (hg2 : Gl X "tuple" := by rfl)
    (he : starEach [a, .Name "tuple" p2] X.env = (false, eval a X.env) :: starEach [.Name "tuple" p2] X.env := by rfl)
    (he2 : starEach [.Name "tuple" p2] X.env = (false, eval (.Name "tuple" p2) X.env) :: starEach [] X.env := by rfl)
    (hpl : (backTo pos (starEach [.Name "tuple" p2] X.env)).any (·.1) = false := by rfl) : VE Γ X Z (.Call (.Name "isinstance" p) [a, .Name "tuple" p2] [] pos) (fIsi .tp f) := ve_isi .tp ha hg hm hg2 hm2 (by decide +kernel) (by decide +kernel) (by decide +kernel) (by decide +kernel) he he2 hpl
theorem bm_append {o e : Expr} {fo : Fe W} {fe : Fe (List W)} {apos cpos : Pos} (ho : VE Γ X Z o fo) (ha : VA Γ X Z [e] fe)
    (hbase : attributeBase o "append" X.env (eval o X.env) = eval o X.env := by rfl)
    (hfew : ((backTo cpos (starEach [e] X.env)).all (fun x => !x.1) && (backToKw cpos (keywordEach [] X.env)).all (fun x => x.1.isSome)
      && decide ([e].length + ([] : List Keyword).length + (if ([] : List Keyword).isEmpty then 0 else 1) < 30)) = true := by rfl)
    (hline : (apos.endLine == cpos.line) = true := by rfl) (hs : starEach [e] X.env = (false, eval e X.env) :: starEach [] X.env := by rfl) (hplain : (backTo cpos (starEach [] X.env)).any (·.1) = false := by rfl) :
    VE Γ X Z (.Call (.Attribute o "append" apos) [e] [] cpos) (fMt gApp fo fe) := ve_mt PySem.F.slot_list_append PySem.F.type_list_append mt_append does_app ho ha hbase hfew hline hs hplain
theorem bm_pop {o e : Expr} {fo : Fe W} {fe : Fe (List W)} {apos cpos : Pos} (ho : VE Γ X Z o fo) (ha : VA Γ X Z [e] fe)
    (hbase : attributeBase o "pop" X.env (eval o X.env) = eval o X.env := by rfl)
    (hfew : ((backTo cpos (starEach [e] X.env)).all (fun x => !x.1) && (backToKw cpos (keywordEach [] X.env)).all (fun x => x.1.isSome)
      && decide ([e].length + ([] : List Keyword).length + (if ([] : List Keyword).isEmpty then 0 else 1) < 30)) = true := by rfl)
    (hline : (apos.endLine == cpos.line) = true := by rfl) (hs : starEach [e] X.env = (false, eval e X.env) :: starEach [] X.env := by rfl) (hplain : (backTo cpos (starEach [] X.env)).any (·.1) = false := by rfl) :
    VE Γ X Z (.Call (.Attribute o "pop" apos) [e] [] cpos) (fMt gPopAt fo fe) := ve_mt PySem.F.slot_list_pop PySem.F.type_list_pop mt_popAt does_popAt ho ha hbase hfew hline hs hplain
theorem bm_extend {o e : Expr} {fo : Fe W} {fe : Fe (List W)} {apos cpos : Pos} (ho : VE Γ X Z o fo) (ha : VA Γ X Z [e] fe)
    (hbase : attributeBase o "extend" X.env (eval o X.env) = eval o X.env := by rfl)
    (hfew : ((backTo cpos (starEach [e] X.env)).all (fun x => !x.1) && (backToKw cpos (keywordEach [] X.env)).all (fun x => x.1.isSome)
      && decide ([e].length + ([] : List Keyword).length + (if ([] : List Keyword).isEmpty then 0 else 1) < 30)) = true := by rfl)
    (hline : (apos.endLine == cpos.line) = true := by rfl) (hs : starEach [e] X.env = (false, eval e X.env) :: starEach [] X.env := by rfl) (hplain : (backTo cpos (starEach [] X.env)).any (·.1) = false := by rfl) :
    VE Γ X Z (.Call (.Attribute o "extend" apos) [e] [] cpos) (fMt gExt fo fe) := ve_mt PySem.F.slot_list_extend PySem.F.type_list_extend mt_extA does_ext ho ha hbase hfew hline hs hplain
/-- what is read of a module's constant -/
theorem gl_int {K : PySem.W.Frag} {mg : Str → Option Value} {x : Str} {i : Int} (h : ∃ t, mg x = some (.int i t)) : GlD K mg x (.int i) := by
  obtain ⟨t, e⟩ := h
  exact ⟨.int i, _, e, ⟨t, rfl⟩, fun H => Dp.int i⟩
end
end G
set_option Elab.async false
set_option linter.all false
set_option maxRecDepth 100000
set_option maxHeartbeats 4000000
/-! G15: a def with defaults, all handed in -/
namespace G
open PySem PySem.Spec L2 PyProof.Rows
set_option autoImplicit false
end G
set_option Elab.async false
set_option linter.all false
set_option maxRecDepth 100000
set_option maxHeartbeats 4000000
/-! G16: comparisons as tests -/
namespace G
open PySem PySem.Spec L2 PyProof.Rows
set_option autoImplicit false
section
variable {Γ : Gm} {X : Cx} {Z : WX} {pos : Pos} {a b c : Expr} {f g h : Fe W}
theorem tru_lift {f : Fe W} {σ : L2.St} {H : Hp} {Q : Bool → Hp → Prop} (q : liftR Γ X.K Z RB (fTru f) σ H Q) : liftR Γ X.K Z (RW X.K) f σ H fun v H1 => ∃ k, v = .bl k ∧ Q k H1 := by
  refine liftR.imp (seq1 q) fun v H1 ⟨x, w, e, G, r, p⟩ => ?_
  subst e
  cases x with
  | d x =>
    cases x with
    | bool b => cases (show Dp X.K w.im v (.bool b) from r); exact ⟨b, rfl, p.use G rfl⟩
    | _ => exact p.elim
  | o n => exact p.elim
  | v n => exact p.elim
  | t n => exact p.elim
  | u n => exact p.elim
  | u2 n => exact p.elim
  | w n => exact p.elim
  | xc a b c => exact p.elim
theorem vt_cmp {op : CmpOp} {r : R2} {k : Op2} (ho : OpR X (compareOp op) r) (hd : Does2 Γ X Z k r) (hm : behindInMarks op b = false) (ha : VE Γ X Z a f) (hb : VE Γ X Z b g) : VT Γ X Z (.Compare a [op] [b] pos) (fTru (fOp2 k f g)) :=
  ⟨PT.mono (pt_cmpR ho ha.pe hb.pe hm) fun _ _ _ q => op2_lift hd (tru_lift q)⟩
theorem chain_lift {r r' : R2} {g g' : Op2} {f h k : Fe W} (hd : Does2 Γ X Z g r) (hd' : Does2 Γ X Z g' r') {σ : L2.St} {H : Hp} {Q : VK} (q : liftR Γ X.K Z (RW X.K) (fChain g g' f h k) σ H Q) :
    tChain r r' (liftR Γ X.K Z (RW X.K) f) (liftR Γ X.K Z (RW X.K) h) (liftR Γ X.K Z (RW X.K) k) σ H Q := by
  refine (liftR.bind (R := RW X.K) (k := fun x ρ S1 => (h ρ S1).bind fun y S2 => (ofO (g x y S2)).bind fun z S3 => match z with
    | .d (.bool true) => (k ρ S3).bind fun u S4 => ofO (g' y u S4)
    | .d (.bool false) => .ok (.d (.bool false)) S3
    | _ => .bad) q).imp fun v H1 ⟨x, w1, ρ, e1, G1, s1, r1, p1⟩ => ?_
  refine ⟨w1, ρ, e1, G1, s1, ?_⟩
  refine (Post.bind (R := RW X.K) p1).imp fun u H2 ⟨w2, y, e2, G2, l, r2, p2⟩ => ?_
  subst e2
  refine hd.use G2 (RW.mono l r1) r2 ((Post.bind (R := RW X.K) p2).imp fun z H3 ⟨w3, zz, e3, G3, l3, r3, p3⟩ => ?_)
  subst e3
  have key : ∀ b : Bool, zz = .d (.bool b) → ∃ k', z = .bl k' ∧ if k' = true then liftR Γ X.K Z (RW X.K) k σ w3.H (fun t H4 => r' u t H4 Q) else Q (.bl false) w3.H := fun b eb => by
    subst eb
    cases (show Dp X.K w3.im z (.bool b) from r3)
    refine ⟨b, rfl, ?_⟩
    cases b with
    | true =>
      refine iteT ⟨w3, ρ, rfl, G3, (s1.mono l).mono l3, (Post.bind (R := RW X.K) p3).imp fun t H4 ⟨w4, tt, e4, G4, l4, r4, p4⟩ => ?_⟩
      subst e4
      exact hd'.use G4 (RW.mono l4 (RW.mono l3 r2)) r4 p4
    | false => exact iteF (p3.use G3 (Dp.bl false))
  cases zz with
  | d zd => cases zd <;> first | exact key _ rfl | exact p3.elim
  | o n => exact p3.elim
  | v n => exact p3.elim
  | t n => exact p3.elim
  | u n => exact p3.elim
  | u2 n => exact p3.elim
  | w n => exact p3.elim
  | xc a b c => exact p3.elim
theorem vt_eq (hu : Rm X) (ha : VE Γ X Z a f) (hb : VE Γ X Z b g) : VT Γ X Z (.Compare a [.Eq] [b] pos) (fTru (fOp2 (dEq false) f g)) := vt_cmp (op_eqD (rmu hu)) does_eq (nomark _) ha hb
theorem vt_ne (hu : Rm X) (ha : VE Γ X Z a f) (hb : VE Γ X Z b g) : VT Γ X Z (.Compare a [.NotEq] [b] pos) (fTru (fOp2 (dEq true) f g)) := vt_cmp (op_neD (rmu hu)) does_ne (nomark _) ha hb
theorem vt_lt (hu : Rm X) (ha : VE Γ X Z a f) (hb : VE Γ X Z b g) : VT Γ X Z (.Compare a [.Lt] [b] pos) (fTru (fOp2 (cLt) f g)) := vt_cmp (ol_lt hu) does_lt (nomark _) ha hb
theorem vt_gt (hu : Rm X) (ha : VE Γ X Z a f) (hb : VE Γ X Z b g) : VT Γ X Z (.Compare a [.Gt] [b] pos) (fTru (fOp2 (cGt) f g)) := vt_cmp (ol_gt hu) does_lt (nomark _) ha hb
theorem vt_ge (hu : Rm X) (ha : VE Γ X Z a f) (hb : VE Γ X Z b g) : VT Γ X Z (.Compare a [.GtE] [b] pos) (fTru (fOp2 (cGe) f g)) := vt_cmp (ol_ge hu) does_lt (nomark _) ha hb
theorem vt_isN (ha : VE Γ X Z a f) (hb : VE Γ X Z b g) : VT Γ X Z (.Compare a [.Is] [b] pos) (fTru (fOp2 (gIsN false) f g)) := vt_cmp op_isN does_isN (nomark _) ha hb
theorem vt_isnN (ha : VE Γ X Z a f) (hb : VE Γ X Z b g) : VT Γ X Z (.Compare a [.IsNot] [b] pos) (fTru (fOp2 (gIsN true) f g)) := vt_cmp op_notN does_notN (nomark _) ha hb
theorem vt_in (hu : Rm X) (ha : VE Γ X Z a f) (hb : VE Γ X Z b g) (hm : behindInMarks .In b = false := by with_unfolding_all rfl) : VT Γ X Z (.Compare a [.In] [b] pos) (fTru (fOp2 (gIn false) f g)) := vt_cmp (op_inA hu) does_in hm ha hb
theorem vt_nin (hu : Rm X) (ha : VE Γ X Z a f) (hb : VE Γ X Z b g) (hm : behindInMarks .NotIn b = false := by with_unfolding_all rfl) : VT Γ X Z (.Compare a [.NotIn] [b] pos) (fTru (fOp2 (gIn true) f g)) := vt_cmp (op_notInA hu) does_in hm ha hb
theorem vt_lelt (hu : Rm X) (ha : VE Γ X Z a f) (hb : VE Γ X Z b g) (hc : VE Γ X Z c h) (hm : lastMarks [.LtE, .Lt] [b, c] = false := by with_unfolding_all rfl) : VT Γ X Z (.Compare a [.LtE, .Lt] [b, c] pos) (fTru (fChain (cLe) (cLt) f g h)) := ⟨PT.mono (pt_chain (ol_le hu) (ol_lt hu) ha.pe hb.pe hc.pe hm) fun _ _ _ q => chain_lift does_lt does_lt (tru_lift q)⟩
theorem vt_lele (hu : Rm X) (ha : VE Γ X Z a f) (hb : VE Γ X Z b g) (hc : VE Γ X Z c h) (hm : lastMarks [.LtE, .LtE] [b, c] = false := by with_unfolding_all rfl) : VT Γ X Z (.Compare a [.LtE, .LtE] [b, c] pos) (fTru (fChain (cLe) (cLe) f g h)) := ⟨PT.mono (pt_chain (ol_le hu) (ol_le hu) ha.pe hb.pe hc.pe hm) fun _ _ _ q => chain_lift does_lt does_lt (tru_lift q)⟩
end
end G
set_option Elab.async false
set_option linter.all false
set_option maxRecDepth 100000
set_option maxHeartbeats 4000000
/-! G17: tuples that the run made, dicts by tuples -/
namespace G
open PySem PySem.Spec L2 PyProof.Rows
set_option autoImplicit false
/-! ### keys as data -/
section
variable {K : PySem.W.Frag} {H : Hp}
end
section
variable {Γ : Gm} {X : Cx} {Z : WX} {pos : Pos}
/-- a tuple that the heap holds is none that may be written -/
theorem Good.tup_im {K : PySem.W.Frag} {w : Wd} (G : Good Γ K w) {q : Addr} {xs : List V} (h : w.H q = some (.tup xs)) : w.im q = some (.tup xs) := by
  refine Wd.im_of h ?_ (fun ps z => by cases z)
  rintro ⟨n, c, e1, e2, e3⟩
  have z := G.cell n q c e1 e2
  cases c with
  | lst ws => obtain ⟨vs, e, _⟩ := z; rw [h] at e; cases e
  | dic ws => obtain ⟨vs, e, _⟩ := z; rw [h] at e; cases e
  | dit ws => obtain ⟨vs, e, _⟩ := z; rw [h] at e; cases e
  | fz x => cases e3
  | fd x => cases e3
  | dix ws => obtain ⟨vs, e, _⟩ := z; rw [h] at e; cases e
  | fdx x => cases e3
/-! ### displays of tuples that are known to be the run's -/
/-! ### {}, d[k] = x, d[k] -/
end
end G
set_option Elab.async false
set_option linter.all false
set_option maxRecDepth 100000
set_option maxHeartbeats 4000000
/-! G18: reading and walking dicts by tuples -/
namespace G
open PySem PySem.Spec L2 PyProof.Rows
set_option autoImplicit false
section
variable {Γ : Gm} {X : Cx} {Z : WX} {pos : Pos}
/-! ### d[k], k any tuple -/
/-! ### list(d) -/
/-! ### for k in d: d is written no more -/
end
end G
set_option Elab.async false
set_option linter.all false
set_option maxRecDepth 100000
set_option maxHeartbeats 4000000
/-! G19: walking a list of the run's own tuples; raise and except; t[:0:-1] -/
namespace G
open PySem PySem.Spec L2 PyProof.Rows
set_option autoImplicit false
/-! ### for x in a list of tuples that the run has made -/
structure WalkT (Γ : Gm) (K : PySem.W.Frag) (w : Wd) (J : It) (ds : List PyData) : Prop where
  ex : ∃ (G : Hp → Prop) (Y : Nat → Hp → V → Hp → Prop), Walk J ds.length G Y ∧ (∀ w', w.le w' → Good Γ K w' → G w'.H) ∧
    ∀ (i : Nat) (w' : Wd) (x : V) (H' : Hp), i < ds.length → w.le w' → Good Γ K w' → Y i w'.H x H' → H' = w'.H ∧ ∃ y, ds[i]? = some y ∧ RW K w' x (.t y)
structure VIT (Γ : Gm) (X : Cx) (Z : WX) (tg iter : Expr) (f : Fe (List PyData)) : Prop where
  pi : PI X tg iter (liftR Γ X.K Z (WalkT Γ X.K) f)
/-- an exception, by its class -/
def fRaise (c : Nat) : Fs := fun ρ S => .ex ⟨c, []⟩ ρ S
section
variable {Γ : Gm} {X : Cx} {Z : WX} {pos : Pos}
/-! ### raise X('..'), try .. except X -/
def leBase : List Value := [.type "LookupError", .type "Exception", .type "BaseException", .type "object"]
/-- an own class over LookupError, without __init__ -/
structure ExF (Γ : Gm) (K : PySem.W.Frag) (mg : Str → Option Value) (x : Str) (c : Nat) : Prop where
  g : mg x = some (.ref (Γ.ca c))
  k : PySem.W.keepIn K (.ref (Γ.ca c)) = true
  q : PySem.W.excIn K (Γ.ca c) leBase "LookupError.__new__" = true
  b : PySem.W.subIn K (.ref (Γ.ca c)) (.type "BaseException") = some true
  t : PySem.W.typeIn K (.ref (Γ.ca c)) = some (.type "type")
  m : PySem.W.exmOne K (.ref (Γ.ca c)) (.ref (Γ.ca c)) = some true
theorem vs_raise {x m : Str} {j : Nat} {p p2 p3 : Pos} {c : Nat} (F : ExF Γ X.K X.mg x c) (tk : Takes X Z) (hc : X.calm = true := by rfl) (hg : Gl X x := by rfl) (hdb : (x == ("__debug__" : Str)) = false := by decide) :
    VS Γ X Z (.Raise (some (.Call (.Name x p) [.Constant (.str m) j p2] [] p3)) none pos) (fRaise c) := by
  have hk := ps_raise (pos := pos) hc tk (pmk_own (X := X) (x := x) (m := m) (j := j) (p := p) (p2 := p2) (pos := p3) PySem.F.excBase_LookupError F.q F.g F.k (raises_own F.b F.t) hg hdb)
  refine ⟨PS.mono hk ?_⟩
  rintro D σ H ⟨w, ρ, rfl, G, s, p⟩
  exact p w σ (.ref (Γ.ca c)) none rfl (Wd.le.refl w) G s ⟨rfl, rfl⟩
end
end G
set_option Elab.async false
set_option linter.all false
set_option maxRecDepth 100000
set_option maxHeartbeats 4000000
/-! G20: t[:0:-1] of a tuple -/
namespace G
open PySem PySem.Spec L2 PyProof.Rows
set_option autoImplicit false
section
variable {prog : Program} {w : World} {A : Around} {E : Value → Shared → Prop} {s : Shared}
end
section
variable {Γ : Gm} {X : Cx} {Z : WX} {pos : Pos}
end
end G
set_option Elab.async false
set_option linter.all false
set_option maxRecDepth 100000
set_option maxHeartbeats 4000000
/-! G21: defs that may ask for repr: no repr stands beneath them -/
namespace G
open PySem PySem.Spec L2 PyProof.Rows
set_option autoImplicit false
/-- a def's promise where no repr is under way beneath -/
structure FnG (P : Program) (wd : World) (K : PySem.W.Frag) (mg : Str → Option Value) (base : Heap) (k : Nat) (f : Addr) (fd : FuncData) (ps : List Str) (sp : Sp) : Prop where
  len : ∀ vs H Q E, sp vs H Q E → vs.length = ps.length
  run : ∀ (A : Around) (outer : List Env) (s : Shared) (H : Hp) (us : List Value) (vs : List V) (Q : VK) (E : XK), A.guards = some [] → Room k A → Env0 P wd K mg base A outer s H → BindsTo s fd ⟨us, []⟩ (ps.zip us) → Vals vs us → sp vs H Q E →
    codeAny (model P wd) A (.call (.ref f) ⟨us, []⟩) (CR (L2.CX P wd) outer P wd H s Q E) s
/-- a def that may ask for repr, called by place with all its arguments -/
structure CalG (Γ : Gm) (P : Program) (wd : World) (K : PySem.W.Frag) (mg : Str → Option Value) (base : Heap) (k : Nat) (x : Str) (n : Nat) (F : Fn) : Prop where
  ex : ∃ (f : Addr) (fd : FuncData) (ps : List Str), mg x = some (.ref f) ∧ PySem.W.keepIn K (.ref f) = true ∧ (∀ (s : Shared) (us : List Value), us.length = ps.length → BindsTo s fd ⟨us, []⟩ (ps.zip us)) ∧ n = ps.length ∧ FnG P wd K mg base k f fd ps (spOf Γ K ps.length F)
section
variable {Γ : Gm} {P : Program} {wd : World} {K : PySem.W.Frag} {mg : Str → Option Value} {base : Heap}
theorem start_post {N : List Str} {n : Nat} {b : Fs} {vs : List V} {H : Hp} {Q : VK} {E : XK} (h : spOf Γ K n (runB N.length b) vs H Q E) : liftS Γ K (fun c d _ H => E c d H) b { nx := fun _ H' => Q .non H', rt := Q } (L2.start N vs) H := by
  obtain ⟨hl, w, ws, rfl, G, r, p⟩ := h
  refine ⟨w, startR N.length ws, rfl, G, slots_start r, ?_⟩
  unfold runB at p
  cases e : b (startR N.length ws) w.S with
  | nx ρ S1 => rw [e] at p; exact fun w1 σ1 e1 l g q => p w1 .non e1 l g Dp.non
  | rt x S1 => rw [e] at p; exact fun w1 v e1 l g q => p w1 v e1 l g q
  | ex x ρ S1 => rw [e] at p; exact fun w1 σ1 c d e1 l g q z => p w1 c d e1 l g z
  | bk _ _ => rw [e] at p; exact p.elim
  | ct _ _ => rw [e] at p; exact p.elim
  | bad => rw [e] at p; exact p.elim
theorem fnG_rule {k : Nat} {x qual : Str} {params : Arguments} {body : List Stmt} {scope : Scope} {dvs : List V} {kws : List (Str × V)} {f : Addr} {fd : FuncData} {N ps : List Str} {b : Fs}
    (F : FunD K x qual params body scope dvs kws f fd) (S : FnScope N ps scope)
    (hb : ∀ (cdv : Value) (A : Around) (outer : List Env) (s : Shared) (H : Hp) (E : XK), (A.deeper (envOfC qual scope s.heap.objs.size f cdv)).guards = some [] → Room k (A.deeper (envOfC qual scope s.heap.objs.size f cdv)) → VB Γ (cxOf (L2.CX P wd) P wd K mg base N qual scope f cdv A outer s H E) (fun c d _ H => E c d H) body b) :
    FnG P wd K mg base (k + 1) f fd ps (spOf Γ K ps.length (runB N.length b)) := by
  obtain ⟨oc, od, dV, kV, doc, pm, an, cdv, ct, osl, rfl, lk, hcd, _, _⟩ := F.ex
  refine ⟨fun vs H Q E h => h.1, ?_⟩
  intro A outer s H us vs Q E hgd hr e0 hbd r hsp
  have kin : K.In s.heap := e0.mod.kin.keeps fun c o e => (e0.bs c o e).1
  have nolim : s.heap.NoLimit := e0.mod.nolimit.keeps fun c o e => (e0.bs c o e).1
  have kinds : ((ps.zip us).all fun y => scope.names.lookup y.1 == some .local || scope.names.lookup y.1 == some .cell) = true := by
    rw [List.all_eq_true]
    intro y hy
    have hm : y.1 ∈ ps := (List.of_mem_zip (a := y.1) (b := y.2) hy).1
    rcases S.par y.1 hm with q | q
    · rw [q]; rfl
    · rw [q]; rfl
  refine Att.call_fn kin nolim lk hcd hr.depth hbd kinds ?_ S.co S.gen S.kind
  intro s1 x1
  have hv : vs.length = ps.length := hsp.1
  have I := inv_start (CX := L2.CX P wd) (N := N) (E := E) S hr.hd e0 hv r x1
  have hrun := (hb cdv A outer s H E hgd (hr.deeper _)).ps.run [] s1 (L2.start N vs) H _ I (start_post hsp)
  refine wpAny_mono hrun ?_ (fun _ _ z => z)
  intro fl s' hs
  cases fl with
  | ret u =>
    obtain ⟨v, σ', H', J, rv, q⟩ := hs
    exact ⟨v, H', J.os, J.bare, J.base, J.hok, rv, q⟩
  | next =>
    obtain ⟨σ', H', J, q⟩ := hs
    exact ⟨.non, H', J.os, J.bare, J.base, J.hok, rfl, q⟩
  | brk => exact hs.choose_spec.choose_spec.2.elim
  | cont => exact hs.choose_spec.choose_spec.2.elim
end
section
variable {Γ : Gm} {X : Cx} {Z : WX} {pos : Pos}
theorem ve_callG {k : Nat} {x : Str} {n : Nat} {F : Fn} {e : Expr} {es : List Expr} {f : Fe (List W)} {p : Pos} (C : CalG Γ X.prog X.w X.K X.mg X.base k x n F) (hgd : X.A.guards = some []) (tk : Takes X Z) (hr : Room k X.A) (ha : VA Γ X Z (e :: es) f) (hg : Gl X x := by rfl)
    (hdb : (x == ("__debug__" : Str)) = false := by decide) (he : starEach (e :: es) X.env = (false, eval e X.env) :: starEach es X.env := by rfl) (hpl : (backTo pos (starEach es X.env)).any (·.1) = false := by rfl) :
    VE Γ X Z (.Call (.Name x p) (e :: es) [] pos) (fCall n [] F f) := by
  obtain ⟨fa, fd, ps, hm, hk, hb, hn, Fo⟩ := C.ex
  constructor
  constructor
  intro pins s σ H Q I q
  refine wpAny_Call_Name_kw (ld_glob I hg hm ?_ hdb)
  have q1 := seq1 (R := RWs X.K) q
  refine PySem.W.callWith_K (h₀ := X.base) I.ok.mod.kin hk (thn (ha.pa.run pos pins s σ H _ I q1) ?_) he hpl
  rintro us s1 ⟨vs, H1, I1, r, xs, w, rfl, G, rx, p1⟩
  refine ⟨I1.kIn, ?_⟩
  split at p1
  · rename_i hl
    have hv : vs.length = ps.length := by rw [Paired.len rx, hl, hn]
    have hu : us.length = ps.length := by rw [← r.length]; exact hv
    rw [show xs ++ ofD [] = xs from List.append_nil xs] at p1
    have hsp : spOf Γ X.K ps.length F vs w.H Q (WE Z σ) := ⟨hv, w, xs, rfl, G, rx, Post.zed p1 fun _ _ _ z => z⟩
    refine wpAny_call (codeAny_mono (Fo.run X.A X.stack s1 w.H us vs Q (WE Z σ) hgd hr I1.env0 (hb s1 us hu) r hsp) ?_)
    intro res s2 h2
    cases res with
    | error ev => exact passAt tk σ pins w.H s1 ev s2 I1 h2
    | ok fl =>
      cases fl with
      | ret u => exact I1.after h2
      | next => exact h2.elim
      | brk => exact h2.elim
      | cont => exact h2.elim
  · exact p1.elim
/-! ### the law's own call -/
end
end G
set_option Elab.async false
set_option linter.all false
set_option maxRecDepth 100000
set_option maxHeartbeats 4000000
/-! G22: repr of lists and tuples -/
namespace G
open PySem PySem.Spec L2 PyProof.Rows
set_option autoImplicit false
def reprOk (d : PyData) : Bool := d.showable && (!d.hasDict && (((d.leavesShort 2000 && decide (d.weight ≤ 8000)) || (d.leavesShort 198 && decide (d.weight ≤ 80000))) && decide (d.depth ≤ 60)))
def isBox : PyData → Bool
  | .list _ => true
  | .tuple _ => true
  | .int _ => true
  | .bool _ => true
  | .none => true
  | .str _ => true
  | .dict _ => false
def gRepr : OpN := fun xs S => match xs with
  | [x] => match view x S with
    | some d => if (isBox d && reprOk d) = true then some (.d (.str d.shown), S) else none
    | none => none
  | _ => none
def rRepr (K : PySem.W.Frag) : List V → Hp → VK → Prop := fun xs H Q => ∃ (v : V) (d : PyData), xs = [v] ∧ Dp K H v d ∧ (isBox d && reprOk d) = true ∧ Q (.str d.shown) H
section
variable {Γ : Gm} {X : Cx} {Z : WX} {pos : Pos}
theorem call_reprD (hgd : X.A.guards = some []) (hu : Rm X) : CallR X (.builtin "repr") (rRepr X.K) := by
  intro pins s σ H xs us Q I r h
  obtain ⟨v, d, rfl, hd, ok, q⟩ := h
  obtain ⟨u, rfl, ru⟩ := r.one
  rw [Bool.and_eq_true] at ok
  obtain ⟨box, ok⟩ := ok
  unfold reprOk at ok
  simp only [Bool.and_eq_true, Bool.or_eq_true, decide_eq_true_eq, Bool.not_eq_true'] at ok
  obtain ⟨o1, o2, o3, o5⟩ := ok
  obtain ⟨as, rd⟩ := Dp.reads I d v u hd ru
  have hsz : d.shown.length ≤ sizeLine := by
    rw [sizeLine_eq]
    rcases o3 with ⟨o3, o4⟩ | ⟨o3, o4⟩
    · have h1 := PyData.shown_le 2000 (by decide) d o3
      have h2 : (2000 + 2) * d.weight ≤ (2000 + 2) * 8000 := Nat.mul_le_mul_left _ o4
      omega
    · have h1 := PyData.shown_le 198 (by decide) d o3
      have h2 : (198 + 2) * d.weight ≤ (198 + 2) * 80000 := Nat.mul_le_mul_left _ o4
      omega
  have hun : X.A.units + (d.depth + 1) < cLine := by unfold Rm at hu; omega
  have go : ∀ a, u = .ref a → wpAny (model X.prog X.w) X.A (call (.builtin "repr") [u]) (EP X pins σ Q) X.xe s := fun a e => by
    subst e
    exact repr_of_reads' rd o1 (PyData.noDict_hsm o2) hgd hun (fun _ _ e => e) (fun h' t tk hk => ⟨.str _, H, I.kept (t' := tk) hk, ⟨t, rfl⟩, q⟩) hsz
  cases hd with
  | lst q1 q2 => exact go _ ru
  | tup q1 q2 => exact go _ ru
  | int i =>
    obtain ⟨t, rfl⟩ := ru
    exact P.repr_of_int (of_decide_eq_true o1) ⟨.str _, H, I.tok _, ⟨_, rfl⟩, q⟩
  | bl b =>
    cases ru
    cases b
    · exact P.repr_of_bool ⟨.str _, H, I.tok _, ⟨_, rfl⟩, q⟩
    · exact P.repr_of_bool ⟨.str _, H, I.tok _, ⟨_, rfl⟩, q⟩
  | non =>
    cases ru
    exact P.repr_of_none ⟨.str _, H, I.tok _, ⟨_, rfl⟩, q⟩
  | str x =>
    obtain ⟨t, rfl⟩ := ru
    exact P.repr_of_str (h := ⟨.str _, H, I.tok _, ⟨_, rfl⟩, q⟩) hsz
theorem does_repr : DoesN Γ X Z gRepr (rRepr X.K) := fun w xs vs σ Q z S' G r h p => by
  unfold gRepr at h
  split at h
  · rename_i x
    split at h
    · rename_i d e
      split at h
      · rename_i ok
        cases h
        obtain ⟨v, rfl, rx⟩ := rws_one r
        exact ⟨v, d, rfl, view_ok G rx e, ok, p.use G (Dp.str _)⟩
      · cases h
    · cases h
  · cases h
theorem bc_repr {a : Expr} {fa : Fe (List W)} (hm : X.mg "repr" = none) (hgd : X.A.guards = some []) (hu : Rm X) (ha : VA Γ X Z [a] fa) {p : Pos} (hg : Gl X "repr" := by rfl) (he : starEach [a] X.env = (false, eval a X.env) :: starEach [] X.env := by rfl) (hpl : (backTo pos (starEach [] X.env)).any (·.1) = false := by rfl) :
    VE Γ X Z (.Call (.Name "repr" p) [a] [] pos) (fCB gRepr fa) := ve_callB (x := "repr") (call_reprD hgd hu) does_repr hg hm (by decide +kernel) ha (by decide +kernel) (by decide +kernel) he hpl
end
end G
set_option Elab.async false
set_option linter.all false
set_option maxRecDepth 100000
set_option maxHeartbeats 4000000
/-! G24: dicts by tuples of numbers, whatever tuples they are: the rules -/
namespace G
open PySem PySem.Spec L2 PyProof.Rows
set_option autoImplicit false
abbrev XL := List (List Int × Addr × Value)
def KIn (K : PySem.W.Frag) (H : Hp) (xs : XL) : Prop := ∀ x ∈ xs, SqT K H x.2.1 (x.1.map V.int)
section
variable {P : Program} {wd : World}
theorem ints_are : ∀ {ks : List Int} {us : List Value}, Vals (ks.map V.int) us → ItemsAre (PySem.intKind P wd) ks us
  | [], _, h => by cases h; exact .nil
  | k :: ks, _, h => by
    cases h with
    | cons q t =>
      obtain ⟨tk, rfl⟩ := q
      exact .cons (by show Value.isInt k (.int k tk) = true; simp [Value.isInt]) (ints_are t)
end
theorem dxP_stay {a : Addr} {xs : XL} {h1 h2 : Heap} (x : dxP a xs h1) (e : ∀ o, h1.get? a = some o → h2.get? a = some o) : dxP a xs h2 := by
  obtain ⟨o, es, ep, h, r⟩ := x
  exact ⟨o, es, ep, e o h, r⟩
theorem dxP_obj {P : Program} {wd : World} {H : Hp} {h : Heap} {a : Addr} {xs : XL} (x : dxP a xs h) : ObjOk P wd H h a (.ext (dxP a xs)) := by
  refine ⟨x, ?_, fun h1 h2 y e => dxP_stay y e⟩
  obtain ⟨o, _, _, e, _⟩ := x
  exact ⟨o, e⟩
theorem dxP_of {P : Program} {wd : World} {h : Heap} {a : Addr} {xs : XL} (x : h.DictOfH (tupleKind (PySem.intKind P wd)) a xs) : dxP a xs h := by
  obtain ⟨o, es, ep, h1, h2, h3, h4, _, h5⟩ := x
  exact ⟨o, es, ep, h1, h2, h3, h4, h5⟩
section
variable {X : Cx} {pins : List (Addr × Obj)} {σ : L2.St} {H : Hp} {s : Shared} {a b : Addr} {xs : XL} {ks : List Int}
theorem is_key (I : Inv X pins σ H s) (h : SqT X.K H b (ks.map V.int)) : (tupleKind (PySem.intKind X.prog X.w)).is s.heap ks b := by
  obtain ⟨its, rv, ⟨o, e1, e2, n, e3⟩, _⟩ := I.tuple h
  exact ⟨o, its.toArray, n, e1, e2, e3, by simpa using ints_are rv⟩
theorem dx_rd (I : Inv X pins σ H s) (h : Rd H a (.ext (dxP a xs))) : dxP a xs s.heap := by
  have := h.ok I.hok
  exact this.1
theorem dx_of (I : Inv X pins σ H s) (h : Rd H a (.ext (dxP a xs))) (hk : KIn X.K H xs) : s.heap.DictOfH (tupleKind (PySem.intKind X.prog X.w)) a xs := by
  obtain ⟨o, es, ep, h1, h2, h3, h4, h5⟩ := dx_rd I h
  exact ⟨o, es, ep, h1, h2, h3, h4, fun x hx => is_key I (hk x hx), h5⟩
end
section
variable {X : Cx} {pos : Pos}
/-! {} -/
def tNewX : TE := fun σ H Q => ∀ p, H p = none → (p == sysModules) = false → Q (.ref p) (upd H p (.ext (dxP p [])))
theorem pe_newX : PE X (.Dict [] [] pos) tNewX := by
  refine ⟨fun pins s σ H Q I h => ?_⟩
  refine wpAny_Dict_empty ?_
  have nw : dxP s.heap.objs.size [] (s.heap.push { cls := .type "dict", data := .dict #[] }) := ⟨_, #[], 0, Heap.get?_push_size _ rfl, ⟨rfl, rfl, rfl⟩, rfl, rfl, List.nodup_nil⟩
  have hs : (s.heap.objs.size == sysModules) = false := beq_eq_false_iff_ne.mpr (Nat.ne_of_gt I.big)
  exact ⟨.ref s.heap.objs.size, _, I.laid (a := s.heap.objs.size) (o := .ext (dxP s.heap.objs.size [])) (t' := s.toks) (fun _ _ q => Heap.get?_push_of_some _ q) (Nat.le_refl _) (dxP_obj nw), rfl, h _ (I.hok.fresh (Nat.le_refl _)) hs⟩
/-! d[k] = v -/
def tPutX (K : PySem.W.Frag) (td ty tv : TE) : TS := fun D σ H => tv σ H fun v H1 => td σ H1 fun x H2 => ty σ H2 fun y H3 => ∃ (a b : Addr) (xs : XL) (ks : List Int), x = .ref a ∧ y = .ref b ∧ H3 a = some (.ext (dxP a xs)) ∧ KIn K H3 xs ∧ SqT K H3 b (ks.map V.int) ∧ xs.length ≤ 1000000 ∧
  ∀ u, RelV v u → D.nx σ (upd H3 a (.ext (dxP a (storedH xs ks b u))))
theorem ps_putX {o i value : Expr} {td ty tv : TE} {pos' : Pos} (hu : Rm X) (ho : PE X o td) (hi : PE X i ty) (hv : PE X value tv) (hs : swapsWith value (some (.Subscript o i pos')) pos.line X.env = pure false) :
    PS X (.Assign [.Subscript o i pos'] value pos) (tPutX X.K td ty tv) := by
  constructor
  intro pins s σ H D I h
  refine wpAny_Assign_Subscript (thn (hv.run pins s σ H _ I h) ?_) hs
  rintro r s1 ⟨v, H1, I1, rv, q1⟩
  refine thn (ho.run pins s1 σ H1 _ I1 q1) ?_
  rintro u s2 ⟨x, H2, I2, rx, q2⟩
  refine thn (hi.run pins s2 σ H2 _ I2 q2) ?_
  rintro iv s3 ⟨y, H3, I3, ry, a, b, xs, ks, rfl, rfl, hd, hk, hb, hl, q3⟩
  obtain rfl : u = Value.ref a := rx
  obtain rfl : iv = Value.ref b := ry
  have hm := dx_of I3 (.inl hd) hk
  refine wpAny_setItem_heap (hsz := by rw [sizeLine_eq]; omega) (tupleKind_room_in1 (by unfold Rm at hu; omega)) (is_key I3 hb) hm fun h' hm' sb => ?_
  have hx' := dxP_of hm'
  obtain ⟨o', _, _, e', _⟩ := id hx'
  exact ⟨σ, _, I3.write (x := a) (e := a) (t' := _) (h' := h') (by rw [hd]; trivial) (.inl rfl) (fun c u hc e => (sb.2 c hc).trans e) ⟨o', e'⟩ (dxP_obj hx'), q3 r rv⟩
/-! k in d -/
def rInX (K : PySem.W.Frag) (neg : Bool) : R2 := fun x y H Q => ∃ (a b : Addr) (xs : XL) (ks : List Int), x = .ref b ∧ y = .ref a ∧ Rd H a (.ext (dxP a xs)) ∧ (a == sysModules) = false ∧ KIn K H xs ∧ SqT K H b (ks.map V.int) ∧ Q (.bl (if neg = true then !(atKey xs ks).isSome else (atKey xs ks).isSome)) H
theorem op_inX (hu : Rm X) : OpR X (compareOp .In) (rInX X.K false) := by
  intro pins s σ H x y v u Q I rx ry h
  obtain ⟨a, b, xs, ks, rfl, rfl, hd, hs, hk, hb, q⟩ := h
  obtain rfl : v = Value.ref b := rx
  obtain rfl : u = Value.ref a := ry
  exact wpAny_in_heap (tupleKind_room_in1 (by unfold Rm at hu; omega)) (is_key I hb) hs (dx_of I hd hk) ⟨.bl (atKey xs ks).isSome, H, I.tok _, rfl, q⟩
theorem op_notInX (hu : Rm X) : OpR X (compareOp .NotIn) (rInX X.K true) := by
  intro pins s σ H x y v u Q I rx ry h
  obtain ⟨a, b, xs, ks, rfl, rfl, hd, hs, hk, hb, q⟩ := h
  obtain rfl : v = Value.ref b := rx
  obtain rfl : u = Value.ref a := ry
  exact wpAny_notIn_heap (tupleKind_room_in1 (by unfold Rm at hu; omega)) (is_key I hb) hs (dx_of I hd hk) ⟨.bl (!(atKey xs ks).isSome), H, I.tok _, rfl, q⟩
/-! d[k] -/
def tGetX (K : PySem.W.Frag) (td ty : TE) : TE := fun σ H Q => td σ H fun x H1 => ty σ H1 fun y H2 => ∃ (a b : Addr) (xs : XL) (ks : List Int) (p : Addr × Value) (v : V), x = .ref a ∧ y = .ref b ∧ Rd H2 a (.ext (dxP a xs)) ∧ KIn K H2 xs ∧ SqT K H2 b (ks.map V.int) ∧ atKey xs ks = some p ∧ RelV v p.2 ∧ Q v H2
theorem pe_getX {o i : Expr} {td ty : TE} (hu : Rm X) (ho : PE X o td) (hi : PE X i ty) (hs : NoSl i) : PE X (.Subscript o i pos) (tGetX X.K td ty) := by
  constructor
  intro pins s σ H Q I q
  refine subD_of PySem.F.slot_dict_getitem.lookup hs (thn (ho.run pins s σ H _ I q) ?_)
  rintro u s1 ⟨x, H1, I1, rx, q1⟩
  refine thn (hi.run pins s1 σ H1 _ I1 q1) ?_
  rintro iv s2 ⟨y, H2, I2, ry, a, b, xs, ks, p, v, rfl, rfl, hd, hk, hb, hp, rp, q2⟩
  obtain rfl : u = Value.ref a := rx
  obtain rfl : iv = Value.ref b := ry
  have hm := dx_of I2 hd hk
  exact ⟨hm.typeIs, wpAny_getItem_heap (tupleKind_room_in1 (by unfold Rm at hu; omega)) (is_key I2 hb) hm hp ⟨v, H2, I2.tok _, rp, q2⟩⟩
/-! for k in d -/
def tLockX (td : TE) : TE := fun σ H Q => td σ H fun x H1 => ∃ (d : Addr) (xs : XL), x = .ref d ∧ ((H1 d = some (.ext (dxP d xs)) ∧ ∀ od, Q x (upd H1 d (.frz od (.ext (dxP d xs))))) ∨ ∃ o, H1 d = some (.frz o (.ext (dxP d xs))) ∧ Q x H1)
theorem pe_lockX {e : Expr} {td : TE} (h : PE X e td) : PE X e (tLockX td) := by
  constructor
  intro pins s σ H Q I q
  refine thn (h.run pins s σ H _ I q) ?_
  rintro u s1 ⟨x, H1, I1, rx, d, xs, rfl, ⟨hd, q1⟩ | ⟨o, hd, q1⟩⟩
  · obtain ⟨od, I2⟩ := I1.lock hd trivial
    exact ⟨_, _, I2, rx, q1 od⟩
  · exact ⟨_, _, I1, rx, q1⟩
def Itx (d : Addr) (o : Obj) (xs : XL) : It :=
  ⟨fun i H => H d = some (.frz o (.ext (dxP d xs))) ∧ i < xs.length, fun i H x H' => H' = H ∧ ∃ y, xs[i]? = some y ∧ x = .ref y.2.1, fun i H => H d = some (.frz o (.ext (dxP d xs))) ∧ xs.length ≤ i⟩
theorem frz_dx {pins : List (Addr × Obj)} {σ : L2.St} {H : Hp} {s : Shared} {d : Addr} {o : Obj} {xs : XL} (I : Inv X pins σ H s) (h : H d = some (.frz o (.ext (dxP d xs)))) :
    s.heap.get? d = some o ∧ o.ExactDict ∧ ∃ (es : Array DictEntry) (ep : Nat), o.data = .dict es ep ∧ es.size = xs.length ∧ es.toList = xs.map entX := by
  obtain ⟨hd, hx, _⟩ := I.hok d _ h
  obtain ⟨o', es, ep, e1, e2, e3, e4, _⟩ := hx
  rw [hd] at e1
  cases e1
  refine ⟨hd, e2, es, ep, e3, ?_, e4⟩
  rw [← Array.length_toList, e4, List.length_map]
theorem turn_keysX {P : Program} {w : World} {K : PySem.W.Frag} {tg : Expr} {d : Addr} {o : Obj} {es : Array DictEntry} {ep : Nat} {xs : XL} (it : Addr) (hod : o.data = .dict es ep) : Turn P w K tg (Itx d o xs) [it] it (fun i h => h.IsKeyIter it d i xs.length ep) where
  mem := by simp
  obj := fun i h st b hb => by
    obtain rfl : b = it := by simpa using hb
    obtain ⟨oi, e, c, dd⟩ := st
    exact ⟨oi, e, fun v z => by rw [dd] at z; cases z⟩
  keep := fun i h h' st k => st.at fun oi e => k it (by simp) oi e
  item := by
    intro X hP hw hK hc i pins s σ H E I hf st hg
    subst hP hw hK
    obtain ⟨hd, hi⟩ := hg
    obtain ⟨f0, f1, f2, f3, f4, f5⟩ := hf it (by simp)
    obtain ⟨hgd, hx, es', ep', hdt, hsz, hes⟩ := frz_dx I hd
    obtain ⟨rfl, rfl⟩ := dict_ep hod hdt
    have hy : xs[i]? = some xs[i] := List.getElem?_eq_getElem hi
    have hen : es'[i]? = some (entX xs[i]) := by rw [← Array.getElem?_toList, hes, List.getElem?_map, hy]; rfl
    refine next_key_item st hgd hdt hsz hen fun h' st' sb => ?_
    have I1 : Inv X pins σ H { s with heap := h' } := I.turned (t' := s.toks) (fun b ob hb e => (sb.2 b hb).trans e) f0 f1 f3 f4 f5
    obtain ⟨oi, e, c, dd⟩ := id st'
    exact ⟨_, rfl, go_of (s := { s with heap := h' }) e c dd (by decide) ⟨.ref xs[i].2.1, H, I1, rfl, ⟨rfl, xs[i], hy, rfl⟩, st', fun b hb => (hf b hb).1⟩⟩
  done := by
    intro X hP hw hK hc i pins s σ H E I hf st hg
    subst hP hw hK
    obtain ⟨hd, hi⟩ := hg
    obtain ⟨f0, f1, f2, f3, f4, f5⟩ := hf it (by simp)
    obtain ⟨hgd, hx, es', ep', hdt, hsz, hes⟩ := frz_dx I hd
    obtain ⟨rfl, rfl⟩ := dict_ep hod hdt
    exact next_key_end (I.ok.hd hc) st hgd hdt hsz hi fun h' eb => ⟨rfl, I.turned (t' := s.toks) (fun b ob hb e => eb b ob hb e) f0 f1 f3 f4 f5⟩
  self := fun A i s Q E st h => wpAny_pyIter_keyiter st h
def iKeysX (td : TE) : TI := fun σ H R => td σ H fun x H1 => ∃ (d : Addr) (o : Obj) (xs : XL), x = .ref d ∧ (d == sysModules) = false ∧ H1 d = some (.frz o (.ext (dxP d xs))) ∧ R (Itx d o xs) H1
theorem pi_keysX {tg e : Expr} {td : TE} (he : PE X e td) : PI X tg e (iKeysX td) := by
  constructor
  intro pins s σ H R I h
  refine thn (he.run pins s σ H _ I h) ?_
  rintro u s1 ⟨x, H1, I1, rx, d, o, xs, rfl, hs, hd, q⟩
  obtain rfl : u = Value.ref d := rx
  obtain ⟨hgd, hx, es, ep, hdt, hsz, _⟩ := frz_dx I1 hd
  refine iter_keys hs hgd hx hdt (pi_one (tk := s1.toks) I1 _ (turn_keysX _ hdt) ⟨_, Heap.get?_push_size _ rfl, rfl, ?_⟩ q)
  rw [hsz]
  rfl
end
end G
set_option Elab.async false
set_option linter.all false
set_option maxRecDepth 100000
set_option maxHeartbeats 4000000
/-! G25: dicts by tuples of numbers, by values -/
namespace G
open PySem PySem.Spec L2 PyProof.Rows
set_option autoImplicit false
def intsL : List PyData → Option (List Int)
  | [] => some []
  | .int i :: r => (intsL r).map (i :: ·)
  | _ :: _ => none
def keyI : PyData → Option (List Int)
  | .tuple ds => intsL ds
  | _ => none
def tupI (ks : List Int) : PyData := .tuple (ks.map PyData.int)
section
variable {K : PySem.W.Frag} {H : Hp}
theorem ints_v : ∀ {ds : List PyData} {vs : List V} {ks : List Int}, intsL ds = some ks → DpAll K H vs ds → vs = ks.map V.int
  | [], _, ks, h, r => by
    cases r
    cases (show some [] = some ks from h)
    rfl
  | d :: ds, _, ks, h, r => by
    cases r with
    | cons q t =>
      cases q <;> first | (cases h; done) | skip
      obtain ⟨ks', e1, rfl⟩ := Option.map_eq_some_iff.mp (show (intsL ds).map _ = some ks from h)
      rw [ints_v e1 t]
      rfl
theorem ints_dp : ∀ ks : List Int, DpAll K H (ks.map V.int) (ks.map PyData.int)
  | [] => .nil
  | k :: r => .cons (.int k) (ints_dp r)
theorem keyI_v {d : PyData} {v : V} {ks : List Int} (h : keyI d = some ks) (r : Dp K H v d) : ∃ b, v = .ref b ∧ SqT K H b (ks.map V.int) := by
  cases r with
  | tup q r =>
    obtain rfl := ints_v h r
    exact ⟨_, rfl, q⟩
  | _ => cases h
end
@[simp] theorem intsL_map : ∀ ks : List Int, intsL (ks.map PyData.int) = some ks
  | [] => rfl
  | k :: r => by
    show (intsL (r.map PyData.int)).map _ = _
    rw [intsL_map r]
    rfl
section
variable {K : PySem.W.Frag} {w : Wd} {xs : XL} {kvs : List (List Int × W)} {ks : List Int}
theorem XE.kin : ∀ {xs : XL} {kvs : List (List Int × W)}, Paired (XE K w) xs kvs → KIn K w.H xs
  | _, _, .nil => fun x hx => by cases hx
  | _, _, .cons (a := x) (b := q) ⟨e1, e2, _⟩ t => fun y hy => by
    rcases List.mem_cons.mp hy with h | h
    · rw [h, e1]; exact SqT.mono (im_sub w) e2
    · exact XE.kin t y h
theorem xe_at : ∀ {xs : XL} {kvs : List (List Int × W)}, Paired (XE K w) xs kvs → (atKey xs ks).isSome = (lookD kvs ks).isSome ∧ ∀ z, lookD kvs ks = some z → ∃ p v, atKey xs ks = some p ∧ RelV v p.2 ∧ RW K w v z
  | _, _, .nil => ⟨rfl, fun z h => by cases h⟩
  | _, _, .cons (a := x) (b := q) (l₁ := xs) (l₂ := kvs) ⟨e1, _, v, e3, e4⟩ t => by
    obtain ⟨i1, i2⟩ := xe_at t
    have eA : atKey (x :: xs) ks = if x.1 = ks then some x.2 else atKey xs ks := by
      unfold atKey
      rw [List.find?_cons]
      by_cases h : x.1 = ks
      · simp [h]
      · simp [h]
    have eL : lookD (q :: kvs) ks = if x.1 = ks then some q.2 else lookD kvs ks := by
      show (if q.1 = ks then some q.2 else lookD kvs ks) = _
      rw [e1]
    rw [eA, eL]
    by_cases h : x.1 = ks
    · simp only [if_pos h]
      exact ⟨rfl, fun z hz => by cases hz; exact ⟨x.2, v, rfl, e3, e4⟩⟩
    · simp only [if_neg h]
      exact ⟨i1, i2⟩
theorem xe_any : ∀ {xs : XL} {kvs : List (List Int × W)}, Paired (XE K w) xs kvs → (kvs.any fun kv => decide (kv.1 = ks)) = (atKey xs ks).isSome
  | _, _, .nil => rfl
  | _, _, .cons (a := x) (b := q) (l₁ := xs) (l₂ := kvs) ⟨e1, _⟩ t => by
    have eA : atKey (x :: xs) ks = if x.1 = ks then some x.2 else atKey xs ks := by
      unfold atKey
      rw [List.find?_cons]
      by_cases h : x.1 = ks
      · simp [h]
      · simp [h]
    rw [List.any_cons, xe_any t, eA, ← e1]
    by_cases h : x.1 = ks
    · simp [h]
    · simp [h]
theorem xe_put {b : Addr} {u : Value} {v : V} {z : W} (h : Paired (XE K w) xs kvs) (hb : SqT K w.im b (ks.map V.int)) (rv : RelV v u) (rz : RW K w v z) : Paired (XE K w) (storedH xs ks b u) (putD kvs ks z) := by
  unfold storedH putD
  rw [xe_any h]
  by_cases hk : (atKey xs ks).isSome = true
  · rw [if_pos hk, if_pos hk]
    have : ∀ {xs : XL} {kvs : List (List Int × W)}, Paired (XE K w) xs kvs → Paired (XE K w) (xs.map (putAt ks u)) (kvs.map fun kv => if kv.1 = ks then (kv.1, z) else kv) := by
      intro xs kvs h
      induction h with
      | nil => exact .nil
      | @cons x q xs kvs hq t ih =>
        refine .cons ?_ ih
        obtain ⟨e1, e2, e3⟩ := hq
        unfold putAt
        show XE K w (if x.1 = ks then (x.1, x.2.1, u) else x) (if q.1 = ks then (q.1, z) else q)
        rw [← e1]
        by_cases hx : x.1 = ks
        · rw [if_pos hx, if_pos hx]
          exact ⟨rfl, by rw [e1]; exact e2, v, rv, rz⟩
        · rw [if_neg hx, if_neg hx]
          exact ⟨e1, e2, e3⟩
    exact this h
  · rw [if_neg hk, if_neg hk]
    exact Paired.app h (.cons ⟨rfl, hb, v, rv, rz⟩ .nil)
theorem storedH_len (xs : XL) (ks : List Int) (b : Addr) (u : Value) : (storedH xs ks b u).length ≤ xs.length + 1 := by
  unfold storedH
  split <;> simp
end
/-! {} -/
def fNewX : Fe W := fun _ S => .ok (.o S.length) (S ++ [.dix []])
def dixOf (x : W) (S : Sto) : Option (List (List Int × W)) := match x with
  | .o n => match S[n]? with
    | some (.dix kvs) => some kvs
    | some (.fdx kvs) => some kvs
    | _ => none
  | _ => none
theorem dixOf_ok {Γ : Gm} {K : PySem.W.Frag} {w : Wd} {v : V} {x : W} {kvs : List (List Int × W)} (G : Good Γ K w) (r : RW K w v x) (h : dixOf x w.S = some kvs) : ∃ a xs, v = .ref a ∧ Rd w.H a (.ext (dxP a xs)) ∧ (a == sysModules) = false ∧ xs.length ≤ 1000000 ∧ Paired (XE K w) xs kvs := by
  cases x with
  | o n =>
    obtain ⟨a, ha, rfl⟩ := r
    unfold dixOf at h
    dsimp only at h
    split at h
    · rename_i e
      cases h
      obtain ⟨xs, q, r⟩ := G.cell n a _ ha e
      exact ⟨a, xs, rfl, .inl q, r⟩
    · rename_i e
      cases h
      obtain ⟨o, xs, q, r⟩ := G.cell n a _ ha e
      exact ⟨a, xs, rfl, .inr ⟨o, q⟩, r⟩
    · cases h
  | _ => cases h
section
variable {Γ : Gm} {X : Cx} {Z : WX} {pos : Pos}
theorem ve_newX : VE Γ X Z (.Dict [] [] pos) fNewX := by
  refine ⟨PE.mono pe_newX ?_⟩
  rintro σ H Q ⟨w, ρ, rfl, G, s, p⟩ q hq hs
  obtain ⟨G1, l1⟩ := G.alloc (c := .dix []) hq (.ext (dxP q [])) (fun w1 l e => ⟨[], e, hs, by simp, .nil⟩) rfl
  exact p ⟨w.μ ++ [q], w.S ++ [.dix []], upd w.H q (.ext (dxP q []))⟩ (.ref q) rfl l1 G1 ⟨q, by show (w.μ ++ [q])[w.S.length]? = _; rw [← G.len]; simp, rfl⟩
/-! d[k] = v -/
def putXk (x y z : W) (S : Sto) : Option Sto := match x, y with
  | .o n, .d d => match keyI d, S[n]? with
    | some ks, some (.dix kvs) => if kvs.length < 1000000 then some (S.set n (.dix (putD kvs ks z))) else none
    | _, _ => none
  | _, _ => none
def fPutX (fo fi fv : Fe W) : Fs := fun ρ S => (fv ρ S).fl ρ fun z S1 => (fo ρ S1).fl ρ fun x S2 => (fi ρ S2).fl ρ fun y S3 => match putXk x y z S3 with
  | some S4 => .nx ρ S4
  | none => .bad
theorem vs_putX {o i e : Expr} {fo fi fv : Fe W} {p' : Pos} (hu : Rm X) (he : VE Γ X Z e fv) (ho : VE Γ X Z o fo) (hi : VE Γ X Z i fi)
    (hs : swapsWith e (some (.Subscript o i p')) pos.line X.env = pure false := by rfl) : VS Γ X Z (.Assign [.Subscript o i p'] e pos) (fPutX fo fi fv) := by
  refine ⟨PS.mono (ps_putX hu ho.pe hi.pe he.pe hs) fun D σ H q => ?_⟩
  refine (liftS.out (R := RW X.K) (k := fun z ρ S1 => (fo ρ S1).fl ρ fun x S2 => (fi ρ S2).fl ρ fun y S3 => match putXk x y z S3 with
    | some S4 => .nx ρ S4
    | none => .bad) q).imp ?_
  rintro v H1 ⟨z, w1, ρ1, rfl, G1, s1, rz, p1⟩
  refine ⟨w1, ρ1, rfl, G1, s1, (flpost (R := RW X.K) p1 s1).imp ?_⟩
  rintro o' H2 ⟨x, w2, rfl, G2, l2, rx, p2⟩
  refine ⟨w2, ρ1, rfl, G2, s1.mono l2, (flpost (R := RW X.K) p2 (s1.mono l2)).imp ?_⟩
  rintro i' H3 ⟨y, w3, rfl, G3, l3, ry, p3⟩
  cases e4 : putXk x y z w3.S with
  | none => rw [e4] at p3; exact p3.elim
  | some S4 =>
    rw [e4] at p3
    unfold putXk at e4
    split at e4
    · rename_i n d
      split at e4
      · rename_i ks kvs ek ew
        split at e4
        · rename_i hz
          cases e4
          obtain ⟨a, ha, rfl⟩ := RW.mono l3 rx
          obtain ⟨xs, hv, hsm, hln, rv⟩ := G3.cell n a _ ha ew
          obtain ⟨b, rfl, hb⟩ := keyI_v ek ry
          have rz3 := RW.mono (l2.trans l3) rz
          have hl : xs.length = kvs.length := Paired.len rv
          refine ⟨a, b, xs, ks, rfl, rfl, hv, XE.kin rv, SqT.mono (im_sub w3) hb, by omega, fun u ru => ?_⟩
          have hst := storedH_len xs ks b u
          obtain ⟨G5, l5⟩ := G3.write (c' := .dix (putD kvs ks z)) ha ew rfl (.ext (dxP a (storedH xs ks b u))) (fun w1 l e => ⟨_, e, hsm, by omega, Paired.imp (fun _ _ q => XE.mono l q) (xe_put rv hb ru rz3)⟩) rfl
          exact PostS.nx_use (w := ⟨w3.μ, w3.S.set n (.dix (putD kvs ks z)), upd w3.H a (.ext (dxP a (storedH xs ks b u)))⟩) (PostS.mono l5 p3) G5 ((s1.mono (l2.trans l3)).mono l5)
        · cases e4
      · cases e4
    · cases e4
/-! k in d -/
def gInX (neg : Bool) : Op2 := fun x y S => match x, dixOf y S with
  | .d d, some kvs => match keyI d with
    | some ks => some (.d (.bool (if neg = true then !(lookD kvs ks).isSome else (lookD kvs ks).isSome)), S)
    | none => none
  | _, _ => none
theorem does_inX {neg : Bool} : Does2 Γ X Z (gInX neg) (rInX X.K neg) := fun w x y vx vy σ Q z S' G rx ry h p => by
  unfold gInX at h
  split at h
  · rename_i d kvs e1
    split at h
    · rename_i ks ek
      cases h
      obtain ⟨a, xs, rfl, hd, hs, _, rr⟩ := dixOf_ok G ry e1
      obtain ⟨b, rfl, hb⟩ := keyI_v ek rx
      refine ⟨a, b, xs, ks, rfl, rfl, hd, hs, XE.kin rr, SqT.mono (im_sub w) hb, ?_⟩
      rw [(xe_at rr).1]
      exact p.use G (Dp.bl _)
    · cases h
  · cases h
section
variable {a b : Expr} {f g : Fe W}
theorem vt_inX (hu : Rm X) (ha : VE Γ X Z a f) (hb : VE Γ X Z b g) (hm : behindInMarks .In b = false := by with_unfolding_all rfl) : VT Γ X Z (.Compare a [.In] [b] pos) (fTru (fOp2 (gInX false) f g)) := vt_cmp (op_inX hu) does_inX hm ha hb
theorem vt_ninX (hu : Rm X) (ha : VE Γ X Z a f) (hb : VE Γ X Z b g) (hm : behindInMarks .NotIn b = false := by with_unfolding_all rfl) : VT Γ X Z (.Compare a [.NotIn] [b] pos) (fTru (fOp2 (gInX true) f g)) := vt_cmp (op_notInX hu) does_inX hm ha hb
end
/-! d[k] -/
def gXget : Op2 := fun x y S => match dixOf x S, y with
  | some kvs, .d d => match keyI d with
    | some ks => (lookD kvs ks).map fun z => (z, S)
    | none => none
  | _, _ => none
theorem ve_xget (hu : Rm X) {a b : Expr} {f h : Fe W} (ha : VE Γ X Z a f) (hb : VE Γ X Z b h) (hs : NoSl b := by intro _ _; rfl) : VE Γ X Z (.Subscript a b pos) (fOp2 gXget f h) := by
  refine ⟨PE.mono (pe_getX hu ha.pe hb.pe hs) fun σ H Q q => ?_⟩
  refine liftR.imp (seq2 (R := RW X.K) (R1 := RW X.K) (k := fun x y S => ofO (gXget x y S)) (fun _ _ _ _ l r => RW.mono l r) q) fun v H1 h1 => liftR.imp h1 ?_
  rintro u H2 ⟨x, y, w, rfl, G, rx, ry, p⟩
  cases e : gXget x y w.S with
  | none => rw [e] at p; exact p.elim
  | some zz =>
    rw [e] at p
    unfold gXget at e
    split at e
    · rename_i kvs d e1
      split at e
      · rename_i ks e2
        obtain ⟨z, e3, rfl⟩ := Option.map_eq_some_iff.mp e
        obtain ⟨a, xs, rfl, hd, hs, _, rr⟩ := dixOf_ok G rx e1
        obtain ⟨b, rfl, hb⟩ := keyI_v e2 ry
        obtain ⟨pp, v', h3, h4, h5⟩ := (xe_at rr).2 z e3
        exact ⟨a, b, xs, ks, pp, v', rfl, rfl, hd, XE.kin rr, SqT.mono (im_sub w) hb, h3, h4, p.use G h5⟩
      · cases e
    · cases e
/-! for k in d -/
def keysX (kvs : List (List Int × W)) : List PyData := kvs.map fun q => tupI q.1
def fKeysX (f : Fe W) : Fe (List PyData) := fun ρ S => (f ρ S).bind fun x S1 => match x with
  | .o n => match S1[n]? with
    | some (.dix kvs) => .ok (keysX kvs) (S1.set n (.fdx kvs))
    | some (.fdx kvs) => .ok (keysX kvs) S1
    | _ => .bad
  | _ => .bad
theorem Good.lockX {K : PySem.W.Frag} {w : Wd} {n : Nat} {a : Addr} {kvs : List (List Int × W)} {xs : XL} (G : Good Γ K w) (h1 : w.μ[n]? = some a) (h2 : w.S[n]? = some (.dix kvs)) (hH : w.H a = some (.ext (dxP a xs))) (hs : (a == sysModules) = false) (hl : xs.length ≤ 1000000) (hr : Paired (XE K w) xs kvs) (od : Obj) :
    Good Γ K ⟨w.μ, w.S.set n (.fdx kvs), upd w.H a (.frz od (.ext (dxP a xs)))⟩ ∧ w.le ⟨w.μ, w.S.set n (.fdx kvs), upd w.H a (.frz od (.ext (dxP a xs)))⟩ := by
  have hn := (List.getElem?_eq_some_iff.mp h2).1
  have la : w.live a := ⟨n, _, h1, h2, rfl⟩
  have lv : ∀ b, Wd.live ⟨w.μ, w.S.set n (.fdx kvs), upd w.H a (.frz od (.ext (dxP a xs)))⟩ b → w.live b := by
    rintro b ⟨m, d, e1, e2, e3⟩
    by_cases hm : n = m
    · subst hm
      replace e2 : (w.S.set n (.fdx kvs))[n]? = some d := e2
      rw [List.getElem?_set_self hn] at e2
      cases e2
      cases e3
    · replace e2 : (w.S.set n (.fdx kvs))[m]? = some d := e2
      rw [List.getElem?_set_ne hm] at e2
      exact ⟨m, d, e1, e2, e3⟩
  have le : w.le ⟨w.μ, w.S.set n (.fdx kvs), upd w.H a (.frz od (.ext (dxP a xs)))⟩ := by
    refine ⟨fun b u e => ?_, [], by simp⟩
    obtain ⟨e1, e2, e3⟩ := Wd.im_some e
    have nb : b ≠ a := fun q => e2 (q ▸ la)
    exact Wd.im_of (w := ⟨w.μ, w.S.set n (.fdx kvs), upd w.H a (.frz od (.ext (dxP a xs)))⟩) (by show upd w.H a _ b = _; rw [upd_ne nb]; exact e1) (fun q => e2 (lv b q)) e3
  refine ⟨⟨by simp [G.len], G.inj, fun b hb => ?_, fun m b d e1 e2 => ?_, Γ.upd _ _ _ (.inr (.inr (.inr (.inr ⟨_, hH⟩)))) G.side, Γ.mono _ _ G.hold le⟩, le⟩
  · by_cases hb' : b = a
    · exact ⟨.frz od (.ext (dxP a xs)), by subst hb'; exact upd_same⟩
    · obtain ⟨u, e⟩ := G.tr b hb
      exact ⟨u, by show upd w.H a _ b = _; rw [upd_ne hb']; exact e⟩
  · replace e2 : (w.S.set n (.fdx kvs))[m]? = some d := e2
    by_cases hm : n = m
    · subst hm
      obtain rfl : b = a := Option.some.inj (e1.symm.trans h1)
      rw [List.getElem?_set_self hn] at e2
      cases e2
      exact ⟨od, xs, upd_same, hs, hl, Paired.imp (fun _ _ z => XE.mono le z) hr⟩
    · rw [List.getElem?_set_ne hm] at e2
      have nb : b ≠ a := fun q => hm (G.uniq h1 (q ▸ e1))
      exact CellOk.mono le (upd_ne nb) (G.cell m b d e1 e2)
theorem walkD_keysX {K : PySem.W.Frag} {w : Wd} {a : Addr} {o : Obj} {xs : XL} {kvs : List (List Int × W)} (h : w.im a = some (.frz o (.ext (dxP a xs)))) (hr : Paired (XE K w) xs kvs) : WalkD Γ K w (Itx a o xs) (keysX kvs) := by
  have hl : xs.length = (keysX kvs).length := by unfold keysX; rw [List.length_map]; exact Paired.len hr
  refine ⟨fun H => H a = some (.frz o (.ext (dxP a xs))), fun i H x H' => H' = H ∧ ∃ y, xs[i]? = some y ∧ x = .ref y.2.1, ?_, fun w' l g => (Wd.im_some (l.im _ _ h)).1, ?_⟩
  · rw [← hl]
    exact ⟨fun _ _ hi q => ⟨q, hi⟩, fun _ q => ⟨q, Nat.le_refl _⟩, fun _ _ _ _ _ _ y => y⟩
  · rintro i w' x H' hi l g ⟨rfl, y, e1, rfl⟩
    have hz : i < kvs.length := by unfold keysX at hi; simpa using hi
    obtain ⟨p, e3, e4, e5, _⟩ := Paired.get hr (i := i) (y := kvs[i]) (by simp [hz])
    rw [e1] at e3
    cases e3
    refine ⟨w', rfl, rfl, Wd.le.refl _, g, tupI kvs[i].1, ?_, Dp.tup (SqT.mono l.im e5) (ints_dp _)⟩
    unfold keysX
    rw [List.getElem?_map, List.getElem?_eq_getElem hz]
    rfl
theorem vi_keysX {tg e : Expr} {f : Fe W} (h : VE Γ X Z e f) : VI Γ X Z tg e (fKeysX f) := by
  refine ⟨PI.mono (pi_keysX (pe_lockX h.pe)) fun σ H R q => ?_⟩
  have h1 := seq1 (R := RW X.K) (R2 := WalkD Γ X.K) (k := fun x S => match x with
    | .o n => match S[n]? with
      | some (.dix kvs) => Out.ok (keysX kvs) (S.set n (.fdx kvs))
      | some (.fdx kvs) => .ok (keysX kvs) S
      | _ => .bad
    | _ => .bad) q
  refine liftR.imp h1 ?_
  rintro v H1 ⟨x, w, rfl, G, rx, p⟩
  cases x with
  | o n =>
    obtain ⟨a, ha, rfl⟩ := rx
    dsimp only at p
    split at p
    · rename_i kvs e
      obtain ⟨xs, hH, hs, hl, rr⟩ := G.cell n a _ ha e
      refine ⟨a, xs, rfl, .inl ⟨hH, fun od => ⟨a, od, xs, rfl, hs, upd_same, ?_⟩⟩⟩
      obtain ⟨G2, l2⟩ := G.lockX ha e hH hs hl rr od
      have hn := (List.getElem?_eq_some_iff.mp e).1
      refine p ⟨w.μ, w.S.set n (.fdx kvs), upd w.H a (.frz od (.ext (dxP a xs)))⟩ _ rfl l2 G2 (walkD_keysX ?_ (Paired.imp (fun _ _ z => XE.mono l2 z) rr))
      refine Wd.im_of (w := ⟨w.μ, w.S.set n (.fdx kvs), upd w.H a (.frz od (.ext (dxP a xs)))⟩) upd_same ?_ (fun ps z => by cases z)
      intro lv
      rw [G2.live_iff ha (show (w.S.set n (.fdx kvs))[n]? = some (.fdx kvs) from List.getElem?_set_self hn)] at lv
      cases lv
    · rename_i kvs e
      obtain ⟨o, xs, hH, hs, hl, rr⟩ := G.cell n a _ ha e
      refine ⟨a, xs, rfl, .inr ⟨o, hH, a, o, xs, rfl, hs, hH, ?_⟩⟩
      refine p w _ rfl (Wd.le.refl w) G (walkD_keysX ?_ rr)
      refine Wd.im_of hH ?_ (fun ps z => by cases z)
      intro lv
      rw [G.live_iff ha e] at lv
      cases lv
    · exact p.elim
  | _ => exact p.elim
end
end G
set_option Elab.async false
set_option linter.all false
set_option maxRecDepth 100000
set_option maxHeartbeats 4000000
/-! G26: dict(list of pairs), keys tuples of numbers -/
namespace G
open PySem PySem.Spec L2 PyProof.Rows
set_option autoImplicit false
/-- a pair: its tuple, its key, where the key stands, what it holds -/
structure Pq where
  p : Addr
  ks : List Int
  b : Addr
  v : V
section
variable {X : Cx} {pins : List (Addr × Obj)} {σ : L2.St} {H : Hp} {s : Shared}
end
/-! by values -/
section
variable {Γ : Gm} {X : Cx} {Z : WX} {pos : Pos}
/-! max(list) -/
end
end G
set_option Elab.async false
set_option linter.all false
set_option maxRecDepth 100000
set_option maxHeartbeats 4000000
/-! G27: t1, t2 = a, b with parts as targets; calls by names -/
namespace G
open PySem PySem.Spec L2 PyProof.Rows
set_option autoImplicit false
abbrev Tg := W → Slt → Sto → Fl
def tgE (Q : L2.St → Hp → Prop) : Ends := { nx := Q, rt := fun _ _ => False }
def liftT (Γ : Gm) (K : PySem.W.Frag) (Z : WX) (g : Tg) : TG := fun v σ H Q => ∃ w ρ x, w.H = H ∧ Good Γ K w ∧ Slots K w σ ρ ∧ RW K w v x ∧ PostS Γ K w Z (g x ρ w.S) (tgE Q)
structure VTg (Γ : Gm) (X : Cx) (Z : WX) (e : Expr) (g : Tg) : Prop where
  pg : PG X e (liftT Γ X.K Z g)
def tgN (i : Nat) : Tg := fun x ρ S => .nx (ρ.set i (some x)) S
def tgD (fo fi : Fe W) : Tg := fun z ρ S => (fo ρ S).fl ρ fun x S2 => (fi ρ S2).fl ρ fun y S3 => match putDk x y z S3 with
  | some S4 => .nx ρ S4
  | none => .bad
def toT : Fl → Fl
  | .nx ρ S => .nx ρ S
  | .ex e ρ S => .ex e ρ S
  | _ => .bad
def fPar2T (ta : Fe (List W)) (g1 g2 : Tg) : Fs := fun ρ S => (ta ρ S).fl ρ fun xs S1 => match xs with
  | [x, y] => match g1 x ρ S1 with
    | .nx ρ1 S2 => toT (g2 y ρ1 S2)
    | .ex e ρ1 S2 => .ex e ρ1 S2
    | _ => .bad
  | _ => .bad
section
variable {Γ : Gm} {X : Cx} {Z : WX} {pos : Pos}
theorem postT {w : Wd} {r : Fl} {D : Ends} (p : PostS Γ X.K w Z (toT r) D) : PostS Γ X.K w Z r (tgE D.nx) := by
  cases r <;> first | exact p | exact p.elim
theorem vtg_name (i : Nat) {x : Str} (hN : X.N.Nodup) (hi : X.N[i]? = some x := by rfl) (hx : Loc X.env.scope x := by first | exact Or.inl rfl | exact Or.inr rfl) (hf : X.fn x = true ∨ X.env.scope.names.lookup x = some .local := by first | exact .inl rfl | exact .inr rfl) : VTg Γ X Z (.Name x pos) (tgN i) := by
  refine ⟨PG.mono (pg_name hN hi hx hf) ?_⟩
  rintro v σ H Q ⟨w, ρ, x, rfl, G, s, r, p⟩
  exact p w (σ.set i (some v)) rfl (Wd.le.refl w) G (s.set r i)
theorem vtg_D {o i : Expr} {fo fi : Fe W} {p' : Pos} (hu : Rm X) (ho : VE Γ X Z o fo) (hi : VE Γ X Z i fi)
    (ha : ∀ v, assign (.Subscript o i p') X.env v = (do
      let ov ← holding [v] (eval o X.env)
      let iv ← holding [v, ov] (eval i X.env)
      standAt p'
      holding [v, ov, iv] (setItem ov iv v)
      release [v, ov, iv] []) := by intro _; rfl) : VTg Γ X Z (.Subscript o i p') (tgD fo fi) := by
  refine ⟨PG.mono (pg_sub ho.pe hi.pe (set_dict (by unfold Rm at hu; omega)) ha) ?_⟩
  rintro v σ H Q ⟨w1, ρ1, z, rfl, G1, s1, r1, p1⟩
  refine ⟨w1, ρ1, rfl, G1, s1, (flpost (R := RW X.K) p1 s1).imp ?_⟩
  rintro o' H2 ⟨x, w2, rfl, G2, l2, rx, p2⟩
  refine ⟨w2, ρ1, rfl, G2, s1.mono l2, (flpost (R := RW X.K) p2 (s1.mono l2)).imp ?_⟩
  rintro i' H3 ⟨y, w3, rfl, G3, l3, ry, p3⟩
  cases e4 : putDk x y z w3.S with
  | none => rw [e4] at p3; exact p3.elim
  | some S4 =>
    rw [e4] at p3
    unfold putDk at e4
    split at e4
    · rename_i n k ek
      split at e4
      · rename_i kvs ew
        split at e4
        · rename_i hz
          cases e4
          obtain ⟨a, ha2, rfl⟩ := RW.mono l3 rx
          obtain ⟨us, hv, rv⟩ := G3.cell n a _ ha2 ew
          have rz := RW.mono (l2.trans l3) r1
          have hl : us.length = kvs.length := Paired.len rv
          have hz2 := sz_line hz
          obtain ⟨G5, l5⟩ := G3.write (c' := .dic (putD kvs k z)) ha2 ew rfl (.dK (putK us k v)) (fun w1 l e => ⟨_, e, Paired.imp (fun _ _ q => ⟨q.1, RW.mono l q.2⟩) (putD_ok rv rz)⟩) rfl
          refine ⟨a, _, rfl, .inl ⟨us, k, hv, keyOf_ok ry ek, by omega, rfl⟩, ?_⟩
          exact PostS.nx_use (w := ⟨w3.μ, w3.S.set n (.dic (putD kvs k z)), upd w3.H a (.dK (putK us k v))⟩) (D := tgE Q) (PostS.mono l5 p3) G5 ((s1.mono (l2.trans l3)).mono l5)
        · cases e4
      · cases e4
    · cases e4
theorem vs_par2T {t1 t2 a b : Expr} {ta : Fe (List W)} {g1 g2 : Tg} {kt k2 : Nat} {pt pt2 : Pos} (ha : VA Γ X Z [a, b] ta) (h1 : VTg Γ X Z t1 g1) (h2 : VTg Γ X Z t2 g2) (hc : X.calm = true := by rfl)
    (hs : swapsWithSole [.Tuple [t1, t2] kt pt] (.Tuple [a, b] k2 pt2) pos.line X.env = pure false := by rfl) (hw : swappedStores [.Tuple [t1, t2] kt pt] (.Tuple [a, b] k2 pt2) X.env = pure none := by rfl)
    (e1 : (assignEach [.Tuple [t1, t2] kt pt] X.env).map (·.2) = [assign (.Tuple [t1, t2] kt pt) X.env] := by rfl)
    (hn : (assignEach [t1, t2] X.env).length = 2 := by rfl) (hst : (assignEach [t1, t2] X.env).findIdx? (·.1) = none := by rfl)
    (c1 : (assignEach [t1, t2] X.env).map (·.2) = assign t1 X.env :: (assignEach [t2] X.env).map (·.2) := by rfl) (c2 : (assignEach [t2] X.env).map (·.2) = assign t2 X.env :: (assignEach [] X.env).map (·.2) := by rfl) :
    VS Γ X Z (.Assign [.Tuple [t1, t2] kt pt] (.Tuple [a, b] k2 pt2) pos) (fPar2T ta g1 g2) := by
  refine ⟨PS.mono (ps_asg (pe_tup ha.pa) (pg_tup hc (pgs_cons h1.pg (pgs_cons h2.pg pgs_nil c2) c1) hn hst) hs hw e1) fun D σ H q => ?_⟩
  refine (liftS.out (R := RWs X.K) (k := fun xs ρ S1 => match xs with
    | [x, y] => match g1 x ρ S1 with
      | .nx ρ1 S2 => toT (g2 y ρ1 S2)
      | .ex e ρ1 S2 => .ex e ρ1 S2
      | _ => .bad
    | _ => .bad) q).imp ?_
  rintro vs H1 ⟨xs, w1, ρ1, rfl, G1, s1, r1, p1⟩
  split at p1
  · rename_i x y
    obtain ⟨v, u, rfl, rx, ry⟩ := rws_two r1
    refine ⟨by rw [sizeLine_eq]; simp, fun q hq => ⟨q, [v, u], rfl, SqT.of upd_same, rfl, v, [u], rfl, ?_⟩⟩
    obtain ⟨G2, l2⟩ := G1.new hq (.tup [v, u])
    refine ⟨⟨w1.μ, w1.S, upd w1.H q (.tup [v, u])⟩, ρ1, x, rfl, G2, s1.mono l2, RW.mono l2 rx, ?_⟩
    show PostS Γ X.K _ Z (g1 x ρ1 w1.S) _
    cases e : g1 x ρ1 w1.S with
    | nx ρ2 S2 =>
      rw [e] at p1
      rintro w3 σ3 rfl l3 G3 s3
      have p3 := postT (PostS.mono (l2.trans l3) p1)
      refine ⟨u, [], rfl, w3, ρ2, y, rfl, G3, s3, RW.mono (l2.trans l3) ry, ?_⟩
      cases e3 : g2 y ρ2 w3.S with
      | nx ρ4 S4 =>
        rw [e3] at p3
        exact fun w5 σ5 h5 l5 G5 s5 => ⟨rfl, p3 w5 σ5 h5 l5 G5 s5⟩
      | ex e ρ4 S4 => rw [e3] at p3; exact p3
      | rt x S4 => rw [e3] at p3; exact p3
      | bk ρ4 S4 => rw [e3] at p3; exact p3
      | ct ρ4 S4 => rw [e3] at p3; exact p3
      | bad => rw [e3] at p3; exact p3
    | ex e ρ2 S2 =>
      rw [e] at p1
      exact PostS.mono l2 p1
    | rt x S2 => rw [e] at p1; exact p1.elim
    | bk ρ2 S2 => rw [e] at p1; exact p1.elim
    | ct ρ2 S2 => rw [e] at p1; exact p1.elim
    | bad => rw [e] at p1; exact p1.elim
  · exact p1.elim
end
end G
set_option Elab.async false
set_option linter.all false
set_option maxRecDepth 100000
set_option maxHeartbeats 4000000
/-! G28: f(a = .., b = ..) -/
namespace G
open PySem PySem.Spec L2 PyProof.Rows
set_option autoImplicit false
/-- a def called with all its parameters by name: the i-th parameter is the (ix i)-th keyword -/
structure CalK (Γ : Gm) (P : Program) (wd : World) (K : PySem.W.Frag) (mg : Str → Option Value) (base : Heap) (k : Nat) (x : Str) (ks : List Str) (ix : List Nat) (F : Fn) : Prop where
  ex : ∃ (f : Addr) (fd : FuncData) (ps : List Str), mg x = some (.ref f) ∧ PySem.W.keepIn K (.ref f) = true ∧ (∀ (s : Shared) (ws : List Value), ws.length = ks.length → BindsTo s fd ⟨[], ks.zip ws⟩ (ps.zip (ix.map fun i => ws.getD i .none))) ∧ ix.length = ps.length ∧ FnOk P wd K mg base (L2.CX P wd) k f fd ps (spOf Γ K ps.length F)
def fCallK (n : Nat) (ix : List Nat) (F : Fn) (f : Fe (List W)) : Fe W := fun ρ S => (f ρ S).bind fun xs S1 => if xs.length = n then F (ix.map fun i => xs.getD i (.d .none)) S1 else .bad
structure VK2 (Γ : Gm) (X : Cx) (Z : WX) (kws : List Keyword) (f : Fe (List W)) : Prop where
  pk : PK X kws (liftR Γ X.K Z (RWs X.K) f)
theorem PK.mono {X : Cx} {kws : List Keyword} {t t' : TA} (h : PK X kws t) (i : ∀ σ H Q, t' σ H Q → t σ H Q) : PK X kws t' := ⟨fun pos pins s σ H Q I q => h.run pos pins s σ H Q I (i _ _ _ q)⟩
theorem vals_getD : ∀ {zs : List V} {ws : List Value}, Vals zs ws → ∀ i, RelV (zs.getD i .non) (ws.getD i .none)
  | _, _, .nil, i => by simp; rfl
  | _, _, .cons q t, 0 => by simpa using q
  | _, _, .cons q t, i + 1 => by simpa using vals_getD t i
theorem vals_ix {zs : List V} {ws : List Value} (h : Vals zs ws) : ∀ ix : List Nat, Vals (ix.map fun i => zs.getD i .non) (ix.map fun i => ws.getD i .none)
  | [] => .nil
  | i :: r => .cons (vals_getD h i) (vals_ix h r)
theorem rws_getD {K : PySem.W.Frag} {w : Wd} : ∀ {zs : List V} {ws : List W}, RWs K w zs ws → ∀ i, RW K w (zs.getD i .non) (ws.getD i (.d .none))
  | _, _, .nil, i => by simp; exact Dp.non
  | _, _, .cons q t, 0 => by simpa using q
  | _, _, .cons q t, i + 1 => by simpa using rws_getD t i
theorem rws_ix {K : PySem.W.Frag} {w : Wd} {zs : List V} {ws : List W} (h : RWs K w zs ws) : ∀ ix : List Nat, RWs K w (ix.map fun i => zs.getD i .non) (ix.map fun i => ws.getD i (.d .none))
  | [] => .nil
  | i :: r => .cons (rws_getD h i) (rws_ix h r)
theorem FunD.bindsK {K : PySem.W.Frag} {x qual : Str} {params : Arguments} {body : List Stmt} {scope : Scope} {kws : List (Str × V)} {f : Addr} {fd : FuncData} {ps ks : List Str} {ix : List Nat} (F : FunD K x qual params body scope [] kws f fd)
    (h : ∀ (kV doc pm : Value) (an : Option Addr) (cdv ct : Value) (ws : List Value), ws.length = ks.length → bindArgs (PySem.W.fnOf x qual params body scope .none kV doc pm an cdv ct) ⟨[], ks.zip ws⟩ = pure (ps.zip (ix.map fun i => ws.getD i .none))) (s : Shared) (ws : List Value) (hl : ws.length = ks.length) : BindsTo s fd ⟨[], ks.zip ws⟩ (ps.zip (ix.map fun i => ws.getD i .none)) := by
  obtain ⟨oc, od, dV, kV, doc, pm, an, cdv, ct, osl, rfl, lk, hcd, hD, hK⟩ := F.ex
  rcases hD with ⟨_, rfl⟩ | ⟨e, _⟩
  · exact .of_eq (h kV doc pm an cdv ct ws hl)
  · exact absurd rfl e
section
variable {Γ : Gm} {X : Cx} {Z : WX} {pos : Pos}
theorem vk_nil : VK2 Γ X Z [] fNil := ⟨PK.mono pk_nil fun σ H Q ⟨w, ρ, e, G, s, p⟩ => by subst e; exact p.use G Paired.nil⟩
theorem vk_cons {nm : Option Str} {e : Expr} {kpos : Pos} {kws : List Keyword} {f : Fe W} {g : Fe (List W)} (ha : VE Γ X Z e f) (hr : VK2 Γ X Z kws g) : VK2 Γ X Z (⟨nm, e, kpos⟩ :: kws) (fCons f g) := by
  refine ⟨PK.mono (pk_cons ha.pe hr.pk) fun σ H Q h => ?_⟩
  refine liftR.imp (seq2 (R := RW X.K) (R1 := RWs X.K) (k := fun x xs S => .ok (x :: xs) S) (fun _ _ _ _ l r => RW.mono l r) h) fun v H1 h1 => ?_
  refine liftR.imp h1 ?_
  rintro vs H2 ⟨x, xs, w, rfl, G, r, rs, p⟩
  exact p.use G (Paired.cons r rs)
theorem ve_callKw {k : Nat} {x : Str} {ks : List Str} {ix : List Nat} {F : Fn} {kws : List Keyword} {f : Fe (List W)} {p : Pos} (C : CalK Γ X.prog X.w X.K X.mg X.base k x ks ix F) (tk : Takes X Z) (hr : Room k X.A) (ha : VK2 Γ X Z kws f) (hg : Gl X x := by rfl)
    (hdb : (x == ("__debug__" : Str)) = false := by decide) (hall : (backToKw pos (keywordEach kws X.env)).all (·.1.isSome) = true := by rfl) (hks : (backToKw pos (keywordEach kws X.env)).filterMap (·.1) = ks := by rfl)
    (hpl : ((backTo pos (starEach [] X.env)).any (·.1) || (backToKw pos (keywordEach kws X.env)).any (·.1.isNone)) = false := by rfl) :
    VE Γ X Z (.Call (.Name x p) [] kws pos) (fCallK ks.length ix F f) := by
  obtain ⟨fa, fd, ps, hm, hk, hb, hn, Fo⟩ := C.ex
  constructor
  constructor
  intro pins s σ H Q I q
  refine wpAny_Call_Name_kw (ld_glob I hg hm ?_ hdb)
  have q1 := seq1 (R := RWs X.K) q
  refine PySem.W.callWith_KW0 (h₀ := X.base) I.ok.mod.kin hk hall (thn (ha.pk.run pos pins s σ H _ I q1) ?_) hpl
  rintro ws s1 ⟨zs, H1, I1, r, xs, w, rfl, G, rx, p1⟩
  refine ⟨I1.kIn, ?_⟩
  rw [hks]
  split at p1
  · rename_i hl
    have hz : zs.length = ks.length := by rw [Paired.len rx, hl]
    have hw : ws.length = ks.length := by rw [← r.length]; exact hz
    have hsp : spOf Γ X.K ps.length F (ix.map fun i => zs.getD i .non) w.H Q (WE Z σ) := ⟨by rw [List.length_map, hn], w, _, rfl, G, rws_ix rx ix, Post.zed p1 fun _ _ _ z => z⟩
    refine wpAny_call (codeAny_mono (Fo.run X.A X.stack s1 w.H ⟨[], ks.zip ws⟩ (ix.map fun i => ws.getD i .none) _ Q (WE Z σ) hr I1.env0 (hb s1 ws hw) (vals_ix r ix) hsp) ?_)
    intro res s2 h2
    cases res with
    | error ev => exact passAt tk σ pins w.H s1 ev s2 I1 h2
    | ok fl =>
      cases fl with
      | ret u => exact I1.after h2
      | next => exact h2.elim
      | brk => exact h2.elim
      | cont => exact h2.elim
  · exact p1.elim
end
end G
set_option Elab.async false
set_option linter.all false
set_option maxRecDepth 100000
set_option maxHeartbeats 4000000
/-! G29: tuples of which the object is known, and the first place of an equal thing in them -/
namespace G
open PySem PySem.Spec L2 PyProof.Rows
set_option autoImplicit false
/-! ### tuple(list), the new object known -/
section
variable {X : Cx}
end
section
variable {Γ : Gm} {X : Cx} {Z : WX} {pos : Pos}
/-! ### (e, t), t known -/
/-! ### e[1] -/
end
/-! ### t.index(x) -/
section
variable {Γ : Gm} {X : Cx} {Z : WX} {pos : Pos}
end
end G
set_option Elab.async false
set_option linter.all false
set_option maxRecDepth 100000
set_option maxHeartbeats 4000000
/-! G30: list(range(n)), sorted(set(list)), min(list), list.pop(), more of dicts by numbers, tuples of objects -/
namespace G
open PySem PySem.Spec L2 PyProof.Rows
set_option autoImplicit false
section
variable {P : Program} {w : World} {A : Around} {E : Value → Shared → Prop} {s : Shared}
/-- an empty set -/
def o0 (w : World) : Obj := { cls := .type "set", dict := none, data := .set #[] 0 (.fresh 0 0 (!w.params.followText "set-order")) }
/-- filling a new set by a list of numbers -/
theorem fill_set {l S : Addr} {its : Array Value} (ns : List Int) {R : Result → Shared → Prop} (hh : A.handled = none) (hS : s.heap.get? S = some (o0 w)) (hl : s.heap.IsList l its) (hit : IntsAre its.toList ns) (hb : ns.length + 1 < scanBound)
    (h : ∀ h' tk c, SetR w h' S (fun j => decide (j ∈ ns)) c → c ≤ ns.length → (∀ b o, b ≠ S → s.heap.get? b = some o → h'.get? b = some o) → R (.ok (.ret .none)) { s with heap := h', toks := tk }) :
    codeAny (model P w) A (.call (.builtin "set.__init__") ⟨[.ref S, .ref l], []⟩) R s := by
  have tS : s.TypeIs (.ref S) "set" := ⟨_, hS, rfl⟩
  refine codeAny_call_builtin PySem.F.called_set.init.plain PySem.F.entry_set_init (check_set_init_1 tS ?_)
  unfold Builtin.«set.__init__» noKeywords Builtin.Frozenset.updateFrom
  have hl2 := hl
  obtain ⟨⟨c0, d0, da0, sl0⟩, hol, rfl, n0, rfl⟩ := hl2
  have s1 := PySem.F.sub_list_set
  have s2 := PySem.F.sub_list_frozenset
  have ne : (Value.type "list" == Value.type "dict") = false := by decide
  unfold o0 at hS
  generalize hPI : pyIter = PI
  wp_walk
  subst hPI
  have lneS : l ≠ S := fun e => by
    rw [e, hS] at hol
    have this : Value.type "set" = Value.type "list" := congrArg Obj.cls (Option.some.inj hol)
    exact absurd this (by decide)
  have hlt : l < s.heap.objs.size := Heap.lt_size hol
  have hSt : S < s.heap.objs.size := Heap.lt_size hS
  refine wpAny_pyIter_list hl (wpAny_bind (wpAny_runValue ?_))
  have n1 : A.in1.in1.handled = none := by simp [hh]
  have fresh : l ≠ s.heap.objs.size := Nat.ne_of_lt hlt
  have sz : its.size = ns.length := by rw [← Array.length_toList]; exact IntsAre.length hit
  refine set_update_ints ((Walks.list n1 s.heap.objs.size l fresh its).toS) S ?_ ns sz hb ?_ its.size 0 _ rfl (Nat.zero_le _) ⟨⟨_, Heap.get?_push_size _ rfl, rfl, rfl⟩, hl.push _⟩ ⟨0, Nat.le_refl 0, setR_new_at (Heap.get?_push_of_some _ hS)⟩ ?_
  · intro m
    simp only [List.mem_cons, List.not_mem_nil, or_false] at m
    rcases m with m | m
    · exact Nat.ne_of_lt hSt m
    · exact lneS m.symm
  · intro i v hv
    have hi : i < ns.length := by rw [← sz]; exact (Array.getElem?_eq_some_iff.mp hv).1
    obtain ⟨t, e⟩ := IntsAre.int_at hit i v (by rw [Array.getElem?_toList]; exact hv)
    exact ⟨_, t, List.getElem?_eq_getElem hi, by rw [e, List.getD_eq_getElem?_getD, List.getElem?_eq_getElem hi]; rfl⟩
  · intro s' c mv hc hR
    have e : s' = { s with heap := s'.heap, toks := s'.toks } := by
      have e1 : s'.gens = s.gens := mv.gens
      have e2 := mv.drawn
      have e3 := mv.os
      obtain ⟨a1, a2, a3, a4, a5⟩ := s'
      simp only at e1 e2 e3
      subst e1 e2 e3
      rfl
    refine wpAny_pure ?_
    show wpAny _ _ (ret Value.none) _ _ s'
    refine wpAny_pure ?_
    rw [e]
    refine h s'.heap s'.toks c hR (by rw [← sz]; exact hc) fun b o hne hb => mv.heap b o ?_ (Heap.get?_push_of_some _ hb)
    simp only [List.mem_cons, List.not_mem_nil, or_false, not_or]
    exact ⟨hne, Nat.ne_of_lt (Heap.lt_size hb)⟩
/-- set(list of numbers) -/
theorem new_set {l : Addr} {its : Array Value} (ns : List Int) {Q : Value → Shared → Prop} (hh : A.handled = none) (hl : s.heap.IsList l its) (hit : IntsAre its.toList ns) (hb : ns.length + 1 < scanBound)
    (h : ∀ h' tk c, SetR w h' s.heap.objs.size (fun j => decide (j ∈ ns)) c → c ≤ ns.length → (∀ b o, s.heap.get? b = some o → h'.get? b = some o) → Q (.ref s.heap.objs.size) { s with heap := h', toks := tk }) :
    wpAny (model P w) A (call (.type "set") [.ref l]) Q E s := by
  have T := PySem.F.called_set
  obtain ⟨c, tl, mro⟩ := T.mro
  have t1 := T.made
  have t2 := T.sub
  have t3 := T.notType
  have t4 := T.canCreate
  have t5 := PySem.F.typeCall_set_1 (.ref l)
  refine wpAny_call (codeAny_of_tree ?_)
  show wpAny _ _ (callAny (.type "set") _) _ _ _
  refine wpAny_pure ⟨Code.quiet_builtin _ (by decide +kernel), codeAny_builtin PySem.F.entry_type_call ?_⟩
  rw [Around.under_plain (weight_type_call_type "set" [.ref l] []) rfl]
  repeat (any_goals (first | assumption | wp_step))
  refine codeAny_mono (code_set_led1 (.ref l) (E := E) (Q₁ := fun obj s₁ => obj = .ref s.heap.objs.size ∧ s₁ = { s with heap := s.heap.push (o0 w) }) ⟨rfl, rfl⟩) fun r s1 made => ?_
  match r, made with
  | .error e, made => exact made
  | .ok (.ret obj), made =>
    obtain ⟨e1, e2⟩ := made
    subst e1 e2
    have hS : (s.heap.push (o0 w)).get? s.heap.objs.size = some (o0 w) := Heap.get?_push_size _ rfl
    have tS : Shared.TypeIs { s with heap := s.heap.push (o0 w) } (.ref s.heap.objs.size) "set" := ⟨_, hS, rfl⟩
    have i1 := PySem.F.called_set.init.lookup
    have i2 := PySem.F.called_set.init.bind (.ref s.heap.objs.size)
    repeat (any_goals (first | assumption | wp_step))
    refine fill_set (A := A.in1) ns (by simp [hh]) hS (hl.push _) hit hb fun h' tk c hR hc keep => ?_
    have fin := h h' tk c hR hc fun b o e => keep b o (Nat.ne_of_lt (Heap.lt_size e)) (Heap.get?_push_of_some _ e)
    repeat (any_goals (first | assumption | wp_step))
    all_goals exact fin
end
/-! ### list(range(n)) -/
section
variable {Γ : Gm} {X : Cx} {Z : WX} {pos : Pos}
def fListR (f : Fe W) : Fe W := fun ρ S => (f ρ S).bind fun x S1 => match x with
  | .d (.int n) => if rOk n = true then .ok (.o S1.length) (S1 ++ [.lst ((List.range n.toNat).map fun i => W.d (.int (i : Nat)))]) else .bad
  | _ => .bad
theorem rws_rng {K : PySem.W.Frag} {w : Wd} (n : Int) : ∀ l : List Nat, RWs K w (l.map fun i => V.int (0 + (i : Nat))) (l.map fun i => W.d (.int (i : Nat)))
  | [] => .nil
  | i :: l => .cons (by show Dp K w.im (V.int (0 + (i : Nat))) (.int (i : Nat)); rw [Int.zero_add]; exact Dp.int _) (rws_rng n l)
theorem ve_listR {a : Expr} {f : Fe W} {p p2 pos2 : Pos} (hm : X.mg "list" = none) (hm2 : X.mg "range" = none) (hc : X.calm = true) (ha : VE Γ X Z a f) (hg : Gl X "list" := by rfl) (hg2 : Gl X "range" := by rfl)
    (na : starEach [a] X.env = (false, eval a X.env) :: starEach [] X.env := by rfl) (nb : starEach [.Call (.Name "range" p2) [a] [] pos2] X.env = (false, eval (.Call (.Name "range" p2) [a] [] pos2) X.env) :: starEach [] X.env := by rfl) :
    VE Γ X Z (.Call (.Name "list" p) [.Call (.Name "range" p2) [a] [] pos2] [] pos) (fListR f) := by
  refine ⟨PE.mono (pe_listRg hc hg hm (prg_1 hg2 hm2 ha.pe na) nb) fun σ H Q q => liftR.imp (seq1 (R := RW X.K) q) ?_⟩
  rintro v H1 ⟨x, w, rfl, G, r, p⟩
  split at p
  · rename_i n
    split at p
    · rename_i hn
      have hn' : -1000000 ≤ n ∧ n ≤ 1000000 := of_decide_eq_true hn
      cases (show Dp X.K w.im v (.int n) from r)
      refine ⟨n, rfl, ⟨by omega, by omega, by omega, by omega, by omega⟩, fun l hl => ?_⟩
      have e : rgV 0 n = (List.range n.toNat).map fun i => V.int (0 + (i : Nat)) := by unfold rgV; rw [Int.sub_zero]
      rw [e]
      exact Post.lst p G (rws_rng n _) l hl
    · exact p.elim
  · exact p.elim
/-! ### sorted(set(list)) -/
/-- the members, rising -/
def insU (x : Int) : List Int → List Int
  | [] => [x]
  | y :: l => if x < y then x :: y :: l else if x = y then y :: l else y :: insU x l
def sset (ns : List Int) : List Int := ns.foldr insU []
theorem insU_mem (x k : Int) : ∀ l : List Int, k ∈ insU x l ↔ k = x ∨ k ∈ l
  | [] => by simp [insU]
  | y :: l => by
    unfold insU
    split
    · simp
    · split
      · rename_i h; subst h; simp
      · rw [List.mem_cons, insU_mem x k l, List.mem_cons]
        constructor <;> rintro (h | h | h) <;> simp [h]
theorem insU_pw (x : Int) : ∀ l : List Int, l.Pairwise (· < ·) → (insU x l).Pairwise (· < ·)
  | [], _ => by simp [insU]
  | y :: l, h => by
    have h' := List.pairwise_cons.mp h
    unfold insU
    split
    · rename_i hx
      refine List.pairwise_cons.mpr ⟨fun z hz => ?_, h⟩
      rcases List.mem_cons.mp hz with e | e
      · omega
      · have := h'.1 z e; omega
    · split
      · exact h
      · refine List.pairwise_cons.mpr ⟨fun z hz => ?_, insU_pw x l h'.2⟩
        rcases (insU_mem x z l).mp hz with e | e
        · omega
        · exact h'.1 z e
theorem sset_mem (ns : List Int) (k : Int) : k ∈ sset ns ↔ k ∈ ns := by
  induction ns with
  | nil => simp [sset]
  | cons x ns ih =>
    show k ∈ insU x (sset ns) ↔ _
    rw [insU_mem, ih, List.mem_cons]
theorem sset_pw (ns : List Int) : (sset ns).Pairwise (· < ·) := by
  induction ns with
  | nil => simp [sset]
  | cons x ns ih => exact insU_pw x _ ih
theorem rising_one : ∀ {l m : List Int}, l.Pairwise (· < ·) → m.Pairwise (· < ·) → (∀ k, k ∈ l ↔ k ∈ m) → l = m
  | [], [], _, _, _ => rfl
  | [], y :: m, _, _, h => by have := (h y).mpr (by simp); simp at this
  | x :: l, [], _, _, h => by have := (h x).mp (by simp); simp at this
  | x :: l, y :: m, hl, hm, h => by
    have hl' := List.pairwise_cons.mp hl
    have hm' := List.pairwise_cons.mp hm
    have e : x = y := by
      rcases List.mem_cons.mp ((h x).mp (by simp)) with e | e
      · exact e
      rcases List.mem_cons.mp ((h y).mpr (by simp)) with e2 | e2
      · exact e2.symm
      have := hm'.1 x e
      have := hl'.1 y e2
      omega
    subst e
    congr 1
    refine rising_one hl'.2 hm'.2 fun k => ⟨fun hk => ?_, fun hk => ?_⟩
    · rcases List.mem_cons.mp ((h k).mp (List.mem_cons_of_mem _ hk)) with e | e
      · have := hl'.1 k hk; omega
      · exact e
    · rcases List.mem_cons.mp ((h k).mpr (List.mem_cons_of_mem _ hk)) with e | e
      · have := hm'.1 k hk; omega
      · exact e
def rSetL (K : PySem.W.Frag) (wd : World) : List V → Hp → VK → Prop := fun xs H Q => ∃ (a : Addr) (ns : List Int), xs = [V.ref a] ∧ SqL K H a (ns.map V.int) ∧ ns.length < 64 ∧ ∀ p c, H p = none → c < 64 → Q (.ref p) (upd H p (SetO wd p (fun j => decide (j ∈ ns)) c))
theorem cr_setL (hc : X.calm = true) : CallR X (.type "set") (rSetL X.K X.w) := by
  intro pins s σ H vs us Q I r ⟨a, ns, e, hs, hn, q⟩
  subst e
  obtain ⟨u, e1, e2⟩ := vals1 r
  subst e1
  cases e2
  obtain ⟨its, rv, hl, _⟩ := I.list hs
  refine new_set ns (I.ok.hd hc) hl.isList rv.ints (by have : (66 : Nat) ≤ scanBound := by decide
                                                       omega) fun h' tk c hR hc' keep => ?_
  exact ⟨.ref s.heap.objs.size, _, I.laid (t' := tk) keep (Nat.le_refl _) (setO_new hR), rfl, q _ c (I.hok.fresh (Nat.le_refl _)) (by omega)⟩
def fSortSet (f : Fe (List W)) : Fe W := fun ρ S => (f ρ S).bind fun xs S1 => match xs with
  | [x] => match lstOf x S1 with
    | some ws => match intsOf ws with
      | some ns => if ns.length < 64 then .ok (.o S1.length) (S1 ++ [.lst ((sset ns).map fun i => W.d (.int i))]) else .bad
      | none => .bad
    | none => .bad
  | _ => .bad
theorem rws_ints {K : PySem.W.Frag} {w : Wd} : ∀ l : List Int, RWs K w (l.map V.int) (l.map fun i => W.d (.int i))
  | [] => .nil
  | i :: l => .cons (Dp.int i) (rws_ints l)
theorem ve_sortSet {a : Expr} {fa : Fe (List W)} {p p2 pos2 : Pos} (hm : X.mg "sorted" = none) (hm2 : X.mg "set" = none) (hc : X.calm = true) (ha : VA Γ X Z [a] fa) (hg : Gl X "sorted" := by rfl) (hg2 : Gl X "set" := by rfl)
    (he : starEach [a] X.env = (false, eval a X.env) :: starEach [] X.env := by rfl) (hpl : (backTo pos2 (starEach [] X.env)).any (·.1) = false := by rfl)
    (he2 : starEach [.Call (.Name "set" p2) [a] [] pos2] X.env = (false, eval (.Call (.Name "set" p2) [a] [] pos2) X.env) :: starEach [] X.env := by rfl) (hpl2 : (backTo pos (starEach [] X.env)).any (·.1) = false := by rfl) :
    VE Γ X Z (.Call (.Name "sorted" p) [.Call (.Name "set" p2) [a] [] pos2] [] pos) (fSortSet fa) := by
  have p1 := pe_callTy (x := "set") (pos := pos2) (p := p2) (cr_setL hc) hg2 hm2 (by decide +kernel) ha.pa (by decide +kernel) (by decide +kernel) he hpl
  have p2' := pe_callB (x := "sorted") (pos := pos) (p := p) (cr_sortedSet hc) hg hm (by decide +kernel) (pa_cons p1 pa_nil he2) (by decide +kernel) (by decide +kernel) he2 hpl2
  refine ⟨PE.mono p2' fun σ H Q q => liftR.imp (seq1 (R := RWs X.K) q) ?_⟩
  rintro vs H1 ⟨xs, w, rfl, G, r, p⟩
  split at p
  · rename_i x
    split at p
    · rename_i ws e1
      split at p
      · rename_i ns e2
        split at p
        · rename_i hn
          obtain ⟨v, rfl, rx⟩ := rws_one r
          obtain ⟨a, us, rfl, q, rr⟩ := lstOf_ok G rx e1
          rw [intsOf_eq e2] at rr
          rw [Paired.map_int rr] at q
          refine ⟨a, ns, rfl, q, hn, fun b c hb hc' => ⟨b, _, c, rfl, upd_same, hc', fun ms l pw mem _ hl => ?_⟩⟩
          have e3 : ms = sset ns := rising_one pw (sset_pw ns) fun k => by
            rw [mem, sset_mem]
            exact decide_eq_true_iff
          subst e3
          obtain ⟨G1, l1⟩ := G.new hb (SetO X.w b (fun j => decide (j ∈ ns)) c)
          exact Post.lst (w := ⟨w.μ, w.S, upd w.H b (SetO X.w b (fun j => decide (j ∈ ns)) c)⟩) (Post.mono l1 p) G1 (rws_ints _) l hl
        · exact p.elim
      · exact p.elim
    · exact p.elim
  · exact p.elim
/-! ### min(list) -/
/-! ### list.pop() -/
/-! ### k in d, len(d), d.update(e): dicts by numbers -/
end
end G
set_option Elab.async false
set_option linter.all false
set_option maxRecDepth 100000
set_option maxHeartbeats 4000000
/-! G31: tests of dicts by numbers, len(d), d.update(e), tuples of objects -/
namespace G
open PySem PySem.Spec L2 PyProof.Rows
set_option autoImplicit false
section
variable {Γ : Gm} {X : Cx} {Z : WX} {pos : Pos}
/-! len(d) -/
def gLenD : OpN := fun xs S => match xs with
  | [x] => match dicOf x S with
    | some kvs => some (.d (.int (kvs.length : Nat)), S)
    | none => none
  | _ => none
/-! d.update(e) -/
def fMtD (g : OpM) (f : Fe W) (h : Fe (List W)) : Fe W := fun ρ S => (f ρ S).bind fun x S1 => if (dicOf x S1).isSome = true then (h ρ S1).bind fun xs S2 => ofO (g x xs S2) else .bad
/-! {} keyed by numbers -/
/-! tuples of objects -/
def toI : W → Option Wi
  | .d x => some (.d x)
  | .o n => some (.o n)
  | _ => none
def toIs : List W → Option (List Wi)
  | [] => some []
  | x :: r => match toI x, toIs r with
    | some y, some ys => some (y :: ys)
    | _, _ => none
theorem toI_ok {K : PySem.W.Frag} {w : Wd} {v : V} {x : W} {y : Wi} (r : RW K w v x) (h : toI x = some y) : RI K w v y := by
  unfold toI at h
  split at h
  · cases h; exact r
  · cases h; exact r
  · cases h
theorem toIs_ok {K : PySem.W.Frag} {w : Wd} : ∀ {vs : List V} {xs : List W} {ys : List Wi}, RWs K w vs xs → toIs xs = some ys → Paired (RI K w) vs ys
  | _, [], _, r, h => by cases h; cases r; exact .nil
  | _, x :: xs, ys, r, h => by
    cases r with
    | cons q t =>
      unfold toIs at h
      split at h
      · rename_i y ys' e1 e2
        cases h
        exact .cons (toI_ok q e1) (toIs_ok t e2)
      · cases h
def fTupW (f : Fe (List W)) : Fe W := fun ρ S => (f ρ S).bind fun xs S1 => match toIs xs with
  | some ys => if szOk ys.length = true then .ok (.w ys) S1 else .bad
  | none => .bad
theorem ve_tupW {es : List Expr} {f : Fe (List W)} {x1} (h : VA Γ X Z es f) : VE Γ X Z (.Tuple es x1 pos) (fTupW f) := by
  refine ⟨PE.mono (pe_tup h.pa) fun σ H Q q => liftR.imp (seq1 (R := RWs X.K) q) ?_⟩
  rintro vs H1 ⟨xs, w, rfl, G, r, p⟩
  split at p
  · rename_i ys e
    split at p
    · rename_i hz
      have rr := toIs_ok r e
      have hl := Paired.len rr
      refine ⟨by have := sz_line hz; omega, fun q hq => ?_⟩
      obtain ⟨G1, l1⟩ := G.new hq (.tup vs)
      exact p ⟨w.μ, w.S, upd w.H q (.tup vs)⟩ (.ref q) rfl l1 G1 ⟨q, vs, rfl, G1.tup_im upd_same, Paired.imp (fun _ _ z => RI.mono l1 z) rr⟩
    · exact p.elim
  · exact p.elim
end
end G
set_option Elab.async false
set_option linter.all false
set_option maxRecDepth 100000
set_option maxHeartbeats 4000000
/-! G32: sorted(tuple). collect of a tuple goes the library's way of collect_list; then the library's list.sort over the new list. -/
namespace PySem.W
open PySem PySem.Calls PyProof.Rows
section
variable {prog : Program} {w : World} {A : Around} {E : Value → Shared → Prop} {s : Shared}
end
end PySem.W
namespace G
open PySem PySem.Spec L2 PyProof.Rows
set_option autoImplicit false
section
variable {Γ : Gm} {X : Cx} {Z : WX} {pos : Pos}
/-! list + list, either of them data -/
end
end G
set_option Elab.async false
set_option linter.all false
set_option maxRecDepth 100000
set_option maxHeartbeats 4000000
/-! G33: e[::-1] of a list -/
namespace G
open PySem PySem.Spec L2 PyProof.Rows
set_option autoImplicit false
section
variable {Γ : Gm} {X : Cx} {Z : WX} {pos : Pos}
end
end G
set_option Elab.async false
set_option linter.all false
set_option maxRecDepth 100000
set_option maxHeartbeats 4000000
/-! G34: is, is not, between truths; tuple(range(n)) needs no rule of its own where the list is laid first -/
namespace G
open PySem PySem.Spec L2 PyProof.Rows
set_option autoImplicit false
section
variable {Γ : Gm} {X : Cx} {Z : WX} {pos : Pos}
variable {a b : Expr} {f g : Fe W}
end
end G
set_option Elab.async false
set_option linter.all false
set_option maxRecDepth 100000
set_option maxHeartbeats 4000000
/-! G35: sorted(d.items()), sorted(d), d.setdefault(k, x) of dicts by tuples of numbers -/
namespace PySem.W
open PySem PySem.Calls PyProof.Rows
section
variable {prog : Program} {w : World} {A : Around} {E : Value → Shared → Prop} {s : Shared}
end
end PySem.W
namespace G
open PySem PySem.Spec L2 PyProof.Rows
set_option autoImplicit false
/-! ### tuples laid anew -/
section
variable {X : Cx} {pins : List (Addr × Obj)} {σ : L2.St} {H0 : Hp} {s : Shared} {h' : Heap} {tk : Nat}
end
/-! ### d.items() -/
section
variable {X : Cx} {o e f : Expr} {td ty tx : TE} {apos cpos pos : Pos}
/-! d.setdefault(k, x) -/
end
/-! ### sorted(d.items()) -/
/-- a pair that the view makes: its tuple, the entry, its value -/
structure Qd where
  a : Addr
  x : List Int × Addr × Value
  v : V
  d : PyData
def Qd.row (q : Qd) : PyData := .tuple [tupI q.x.1, q.d]
def Qd.t (q : Qd) : Addr × List V := (q.a, [.ref q.x.2.1, q.v])
section
variable {X : Cx}
/-! ### sorted(d) -/
end
end G
set_option Elab.async false
set_option linter.all false
set_option maxRecDepth 100000
set_option maxHeartbeats 4000000
/-! G36: sorted(d.items()), sorted(d), d.setdefault(k, x) by values -/
namespace G
open PySem PySem.Spec L2 PyProof.Rows
set_option autoImplicit false
section
variable {Γ : Gm} {X : Cx} {Z : WX} {pos : Pos}
/-! sorted(d) -/
/-! d.setdefault(k, x) -/
end
end G
set_option Elab.async false
set_option linter.all false
set_option maxRecDepth 100000
set_option maxHeartbeats 4000000
/-! G37: l.index(x), sorted(set(pairs)), len(set(pairs)), min(tuple), dict(pairs) keyed by numbers, for v in d.values() -/
namespace G
open PySem PySem.Spec L2 PyProof.Rows
set_option autoImplicit false
section
variable {Γ : Gm} {X : Cx} {Z : WX} {pos : Pos}
/-! ### l.index(x) -/
theorem dp_list_ref {K : PySem.W.Frag} {H : Hp} {v : V} {ds : List PyData} (h : Dp K H v (.list ds)) : ∃ a, v = .ref a := by
  cases h with
  | lst q r => exact ⟨_, rfl⟩
/-! ### min of a tuple of numbers -/
/-! ### dict(list of pairs), keys numbers -/
/-! ### sorted(set(xs)), len(set(xs)), xs a list of pairs of small numbers -/
def PtOk (K : PySem.W.Frag) (w : Wd) (p : Addr × List Int) (c : Int) : Prop := SqT K w.im p.1 (p.2.map V.int) ∧ ∃ a b, p.2 = [a, b] ∧ (0 ≤ a ∧ a < 64) ∧ (0 ≤ b ∧ b < 64) ∧ c = a * 64 + b
theorem PtOk.code {K : PySem.W.Frag} {w : Wd} {p : Addr × List Int} {c : Int} (h : PtOk K w p c) : TS.code 64 p.2 = c ∧ p.2.length = 2 ∧ TS.Bd 64 p.2 ∧ p.2 = [c / 64, c % 64] := by
  obtain ⟨_, a, b, e, ha, hb, rfl⟩ := h
  rw [e]
  refine ⟨code_pair a b, rfl, fun m hm => ?_, ?_⟩
  · simp at hm
    rcases hm with rfl | rfl
    · exact ha
    · exact hb
  · have h1 : (a * 64 + b) / 64 = a := by omega
    have h2 : (a * 64 + b) % 64 = b := by omega
    rw [h1, h2]
end
end G
set_option Elab.async false
set_option linter.all false
set_option maxRecDepth 100000
set_option maxHeartbeats 4000000
/-! G38: len(d), for v in d.values(), d a dict by tuples of numbers -/
namespace G
open PySem PySem.Spec L2 PyProof.Rows
set_option autoImplicit false
section
variable {Γ : Gm} {X : Cx} {Z : WX} {pos : Pos}
/-! ### len(d) -/
/-! ### for v in d.values() -/
end
end G
set_option Elab.async false
set_option linter.all false
set_option maxRecDepth 100000
set_option maxHeartbeats 4000000
/-! G39: a call of an own def without arguments -/
namespace G
open PySem PySem.Spec L2 PyProof.Rows
set_option autoImplicit false
section
variable {Γ : Gm} {X : Cx} {Z : WX} {pos : Pos}
end
end G
set_option Elab.async false
set_option linter.all false
set_option maxRecDepth 100000
set_option maxHeartbeats 4000000
/-! G40: tables of code objects in the worlds; lambdas handed to an own def -/
namespace G
open PySem PySem.Spec L2 PyProof.Rows
set_option autoImplicit false
/-! ### tables stay -/
/-- a heap with one object at an address -/
def heapAt (a : Addr) (o : Obj) : Heap := { objs := Array.replicate (a + 1) o }
theorem heapAt_get {a : Addr} {o : Obj} (h : o.isFreed = false) : (heapAt a o).get? a = some o := by
  unfold heapAt Heap.get?
  have e : (Array.replicate (a + 1) o)[a]? = some o := by simp [Array.getElem?_replicate]
  show (match (Array.replicate (a + 1) o)[a]? with | some ⟨_, _, .freed, _⟩ => none | o => o) = some o
  rw [e]
  obtain ⟨c, d, dt, sl⟩ := o
  cases dt <;> first | rfl | cases h
theorem codeO_dx {c : Addr} {q : Str} {xs : List (List Int × Addr × Value)} : LamX.CodeO c q ≠ .ext (dxP c xs) := fun z => by
  unfold LamX.CodeO at z
  have e : (fun h : Heap => ∃ (oc : Obj) (vs : Array Value) (t : Tok), h.get? c = some oc ∧ oc.data = .fields vs ∧ vs[1]? = some (.str q t)) = dxP c xs := HO.ext.inj z
  have h1 := heapAt_get (a := c) (o := { cls := .none, data := .fields #[.none, .str q 0] }) rfl
  have h2 : dxP c xs (heapAt c { cls := .none, data := .fields #[.none, .str q 0] }) := by
    rw [← e]
    exact ⟨_, _, 0, h1, rfl, rfl⟩
  obtain ⟨o, es, ep, h3, _, h4, _⟩ := h2
  rw [h1] at h3
  cases h3
  cases h4
theorem tabs_upd {T : List (Addr × Str)} {H : Hp} {p : Addr} {o : HO} (hp : H p = none ∨ (∃ xs, H p = some (.lst xs)) ∨ (∃ kvs, H p = some (.dK kvs)) ∨ (∃ kvs, H p = some (.dT kvs)) ∨ (∃ xs, H p = some (.ext (dxP p xs)))) (h : LamX.Tabs T H) : LamX.Tabs T (L2.upd H p o) := by
  have other : ∀ b u, H b = some u → ((∃ ps, u = .tbl ps) ∨ ∃ q, u = LamX.CodeO b q) → b ≠ p := fun b u e k z => by
    subst z
    rcases hp with q | ⟨xs, q⟩ | ⟨xs, q⟩ | ⟨xs, q⟩ | ⟨xs, q⟩ <;> rw [q] at e <;> cases e <;> rcases k with ⟨_, k⟩ | ⟨_, k⟩ <;> first | (cases k; done) | (unfold LamX.CodeO at k; cases k; done) | exact codeO_dx k.symm
  intro x hx
  obtain ⟨ps, h1, h2, h3⟩ := h x hx
  refine ⟨ps, by rw [upd_ne (other _ _ h1 (.inl ⟨_, rfl⟩))]; exact h1, h2, fun pos cv hc => ?_⟩
  obtain ⟨c, e1, e2⟩ := h3 pos cv hc
  exact ⟨c, e1, by rw [upd_ne (other _ _ e2 (.inr ⟨_, rfl⟩))]; exact e2⟩
def gmT (ca : Nat → Addr) (T : List (Addr × Str)) : Gm := ⟨ca, LamX.Tabs T, fun _ _ _ hp h => tabs_upd hp h, fun _ => True, fun _ _ _ _ => trivial⟩
end G
set_option Elab.async false
set_option linter.all false
set_option maxRecDepth 100000
set_option maxHeartbeats 4000000
/-! G41: a try whose one clause keeps what it caught: try: body / except C as n: m = n; the object is tracked from then on -/
namespace G
open PySem PySem.Spec L2 PyProof.Rows
set_option autoImplicit false
section
variable {X : Cx} {pins : List (Addr × Obj)} {σ : L2.St} {H : Hp} {s sI s' : Shared} {B : Heap} {a : Addr} {cls : Value} {d : Option Addr}
/-- an object that stands in the heap, untracked so far and not there at the entry, is tracked from now on -/
theorem track {φ : Heap → Prop} (I : Inv X pins σ H s) (na : H a = none) (n0 : X.s_0.heap.get? a = none) (nL : a ≠ X.env.locals) (nC : ∀ x c, X.env.cells.lookup x = some c → c ≠ a) (nP : ∀ p ∈ X.pn ++ pins, p.1 ≠ a)
    (new : ObjOk X.prog X.w (upd H a (.ext φ)) s.heap a (.ext φ)) : Inv X pins σ (upd H a (.ext φ)) s where
  ok := I.ok
  os := I.os
  bare := I.bare
  base := {
    keep := I.base.keep
    slot := I.base.slot
    there := I.base.there
    free := fun b o e n hx => by
      have hb : b ≠ a := fun z => by rw [z, n0] at e; cases e
      rw [upd_ne hb]
      exact I.base.free b o e n hx
    tups := fun b xs e => by
      have q := I.base.tups b xs e
      rw [upd_ne (ne_of_none q na)]
      exact q
    frzs := fun b o u e => by
      have q := I.base.frzs b o u e
      rw [upd_ne (ne_of_none q na)]
      exact q
    tbls := fun b ps e => by
      obtain ⟨more, q⟩ := I.base.tbls b ps e
      exact ⟨more, by rw [upd_ne (ne_of_none q na)]; exact q⟩ }
  loc := I.loc
  cell := I.cell
  free := by rw [upd_ne (Ne.symm nL)]; exact I.free
  freeC := fun x c e => by rw [upd_ne (nC x c e)]; exact I.freeC x c e
  pin := fun p hp => by
    obtain ⟨e, n, r⟩ := I.pin p hp
    exact ⟨e, by rw [upd_ne (nP p hp)]; exact n, r⟩
  hok := I.hok.laidN (fun _ _ e => e) na new
  len := I.len
/-- the ground beneath an exception in the air: sI is the state without it -/
structure Gnd (X : Cx) (pins : List (Addr × Obj)) (σ : L2.St) (H : Hp) (a : Addr) (B : Heap) (sI s' : Shared) : Prop where
  inv : Inv X pins σ H sI
  nb : ∀ b o, sI.heap.get? b = some o → b ∉ frs X.stack → B.get? b = some o
  up : sI.heap.UpToSlots s'.heap
  na : H a = none
  os : s'.os = sI.os
  ag : AllBare s'.gens
/-- what is known where the exception flies and nothing else is otherwise -/
structure Down (X : Cx) (pins : List (Addr × Obj)) (σ : L2.St) (H : Hp) (a : Addr) (cls : Value) (d : Option Addr) (s : Shared) : Prop where
  inv : Inv X pins σ H s
  ob : ∃ oe vs, s.heap.get? a = some oe ∧ Zc cls d oe ∧ oe.data = .fields vs
  nF : a ∉ frs X.stack
  na : H a = none
  n0 : X.ex = [] → X.s_0.heap.get? a = none
  nP : ∀ p ∈ X.pn ++ pins, p.1 ≠ a
theorem Gnd.down (g : Gnd X pins σ H a B sI s') {h : Heap} (fl : HandSPX.FlyingZ B X.stack a (Zc cls d) h) (up : s'.heap.UpToSlots h) : Down X pins σ H a cls d { s' with heap := h } := by
  obtain ⟨oe, vs, he, hz, hd⟩ := fl.there
  have nF : a ∉ frs X.stack := fun hm => by
    obtain ⟨_, o, e, nf⟩ := fl.2.2.1.mem hm
    rw [he] at e
    cases e
    exact nf _ hd
  have gone : sI.heap.get? a = none := by
    cases e : sI.heap.get? a with
    | none => rfl
    | some o =>
      have q := g.nb a o e nF
      rw [fl.2.1] at q
      cases q
  refine ⟨g.inv.landed g.nb fl.1 (g.up.trans up) g.os g.ag, ⟨oe, vs, he, hz, hd⟩, nF, g.na, fun hx => ?_, fun p hp z => ?_⟩
  · cases e : X.s_0.heap.get? a with
    | none => rfl
    | some o =>
      obtain ⟨o', q⟩ := g.inv.base.there a o e (by rw [hx]; exact fun z => nomatch z)
      rw [gone] at q
      cases q
  · have q := (g.inv.pin p hp).1
    rw [z, gone] at q
    cases q
theorem Down.nL (D : Down X pins σ H a cls d s) (hs : X.stack = X.env :: X.outer) (hf : X.env.frame = some X.env.locals) : a ≠ X.env.locals := fun z =>
  D.nF (List.mem_filterMap.mpr ⟨X.env, by rw [hs]; exact List.mem_cons_self, by rw [hf, z]⟩)
theorem Down.nFs (D : Down X pins σ H a cls d s) (hs : X.stack = X.env :: X.outer) : a ∉ X.fs := fun hm => by
  obtain ⟨e, he, q⟩ := List.mem_filterMap.mp hm
  exact D.nF (List.mem_filterMap.mpr ⟨e, by rw [hs]; exact List.mem_cons_of_mem _ he, q⟩)
theorem Down.nC (D : Down X pins σ H a cls d s) : ∀ x c, X.env.cells.lookup x = some c → c ≠ a := fun x c e z => by
  obtain ⟨oe, vs, he, _, hd⟩ := D.ob
  obtain ⟨v, o, ho, hc⟩ := D.inv.cell x c e
  rw [z, he] at ho
  cases ho
  rw [hd] at hc
  cases hc
end
end G
set_option Elab.async false
set_option linter.all false
set_option maxRecDepth 100000
set_option maxHeartbeats 4000000
/-! G42: try: body / except C as n: m = n, all that the body may raise being caught -/
namespace G
open PySem PySem.Spec L2 PyProof.Rows
set_option autoImplicit false
theorem flying_keeps {B h h' : Heap} {l : List Env} {a : Addr} {Z : Obj → Prop} (f : HandSPX.FlyingZ B l a Z h) (k : ∀ b o, h.get? b = some o → h'.get? b = some o) : HandSPX.FlyingZ B l a Z h' := by
  obtain ⟨h1, h2, h3, oe, vs, T, oT, ts, q1, q2, q3, q4, q5, q6, q7, q8, q9⟩ := f
  exact ⟨fun b o e => k b o (h1 b o e), h2, Heap.FunFrames.of_keeps (fun b o e _ => ⟨o, k b o e, rfl⟩) h3, oe, vs, T, oT, ts, k _ _ q1, q2, q3, q4, q5, q6, k _ _ q7, q8, q9⟩
/-- the clause's test: exceptions of the class cls match -/
def Match (X : Cx) (te : Expr) (cls : Value) : Prop := ∀ (a : Addr) (oe : Obj) (d : Option Addr) (pn pins : List (Addr × Obj)) (σ : L2.St) (H : Hp) (s : Shared) (Q : Bool → Shared → Prop) (E : Value → Shared → Prop),
  Inv (X.suite a ((a, oe) :: pn)) pins σ H s → s.heap.get? a = some oe → Zc cls d oe → (∀ h', (∀ b o, s.heap.get? b = some o → h'.get? b = some o) → Q true { s with heap := h' }) →
  wpAny (model X.prog X.w) (X.A.mark (some (.ref a))) (eval te X.env) (fun c s₁ => wpAny (model X.prog X.w) (X.A.mark (some (.ref a))) (excMatches (.ref a) c) Q E s₁) E s
/-- what the try wishes of an exception of its body -/
def wKeep (X : Cx) (te : Expr) (i j : Nat) (D : Ends) : WX := fun cls d σ H => ∃ C : Addr, cls = .ref C ∧ Match X te (.ref C) ∧ ∀ a, H a = none → D.nx (((σ.set i (some (.ref a))).set j (some (.ref a))).set i none) (upd H a (CtO C d a))
section
variable {X : Cx} {te : Expr} {n m : Str} {i j : Nat} {body : List Stmt} {np mp ap pos pos' : Pos} {tb : WX → TS}
theorem ct_ok {P : Program} {w : World} {H : Hp} {h : Heap} {a C : Addr} {d : Option Addr} {oe : Obj} {vs : Array Value} (e : h.get? a = some oe) (z : Zc (.ref C) d oe) (hd : oe.data = .fields vs) : ObjOk P w H h a (CtO C d a) :=
  ⟨⟨oe, vs, e, z.1, z.2, hd⟩, ⟨oe, e⟩, fun _ _ ⟨o, v, q, r⟩ k => ⟨o, v, k o q, r⟩⟩
theorem ps_try_keep (hs : X.stack = X.env :: X.outer) (hf : X.env.frame = some X.env.locals) (hx : X.ex = []) (hN : X.N.Nodup) (hi : X.N[i]? = some n) (hj : X.N[j]? = some m) (hln : X.env.kindOf n = some .local) (hlm : X.env.scope.names.lookup m = some .local) (hij : i ≠ j)
    (hd : (n == ("__debug__" : Str)) = false) (hcd : (n == ("__classdict__" : Str)) = false) (hsw : swapsWith (.Name n np) (some (.Name m mp)) ap.line X.env = pure false)
    (hb : ∀ (W : WX) (pn : List (Addr × Obj)) (xe : Value → Shared → Prop), Takes (X.tr pn xe) W → PassesOwn (model X.prog X.w) X.A X.env xe → PSs (X.tr pn xe) body (tb W)) :
    PS X (.Try body [.ExceptHandler (some te) (some n) [.Assign [.Name m mp] (.Name n np) ap] pos'] [] [] pos) (fun D σ H => tb (wKeep X te i j D) D σ H) := by
  refine ⟨fun pins s σ H D I h => wpAny_Try_except ?_⟩
  have ok := I.ok
  have run := (hb (wKeep X te i j D) (X.pn ++ pins) (fun e s₁ => wpAny (model X.prog X.w) X.A (noteFrame e X.env) (fun _ s₂ => wpAny (model X.prog X.w) X.A (setFlight e none)
    (fun _ s₃ => wpAny (model X.prog X.w) X.A (handleBy e X.env [.ExceptHandler (some te) (some n) [.Assign [.Name m mp] (.Name n np) ap] pos']) (SP X pins D) X.xe s₃) X.xe s₂) X.xe s₁) ?land PassesOwn.looking).run [] s σ H D (I.toTry _) h
  · refine wpAny_mono run (fun f s1 hsp => ?_) fun _ _ z => z
    cases f with
    | next =>
      obtain ⟨σ', H', J, q⟩ := hsp
      exact wpAny_execs_nil ⟨σ', H', J.ofTry ok, q⟩
    | brk =>
      obtain ⟨σ', H', J, q⟩ := hsp
      exact ⟨σ', H', J.ofTry ok, q⟩
    | cont =>
      obtain ⟨σ', H', J, q⟩ := hsp
      exact ⟨σ', H', J.ofTry ok, q⟩
    | ret u =>
      obtain ⟨v, σ', H', J, r, q⟩ := hsp
      exact ⟨v, σ', H', J.ofTry ok, r, q⟩
  case land =>
    rintro u s' ⟨a, B, sI, pins', σ', H', cls, d, rfl, J', nb, up, sky, na, os, ag, C, rfl, hm, hD⟩
    have g : Gnd X pins σ' H' a B sI s' := ⟨J'.ofTry ok, nb, up, na, os, ag⟩
    have sky' : Sky B (X.env :: X.outer) a (Zc (.ref C) d) X.env.locals s'.heap := by rw [← hs]; exact sky
    refine Sky.land Zc.steady (by rw [ok.frames, hs]) hf sky' fun h3 fl3 up3 => ?_
    have D3 := g.down (by rw [hs]; exact fl3) up3
    obtain ⟨oe3, vs3, he3, hz3, hd3⟩ := D3.ob
    refine wpAny_handleBy_cons (codeAny_handlers_test (hm a oe3 d (X.pn ++ pins) [] σ' H' _ _ _ (D3.inv.suite he3 hd3 na (D3.nL hs hf) (D3.nFs hs)) he3 hz3 fun h4 k4 => ?_)) (by intro q; cases q)
    refine codeAny_handlers_suite_as ?_
    refine HandSPX.lands_againZ (flying_keeps fl3 k4) fun h5 fl5 up5 => ?_
    have D5 := g.down (by rw [hs]; exact fl5) ((up3.trans (Heap.UpToSlots.of_keeps k4)).trans up5)
    obtain ⟨oe5, vs5, he5, hz5, hd5⟩ := D5.ob
    refine store_ok (X := X.suite a ((a, oe5) :: (X.pn ++ pins))) (v := .ref a) (D5.inv.suite he5 hd5 na (D5.nL hs hf) (D5.nFs hs)) hN hi (.inl hln) rfl (fun s6 S6 => ?_) (.inr hln)
    have su := pss_one (ps_set (X := X.suite a ((a, oe5) :: (X.pn ++ pins))) (pos := ap) (pos' := mp) hN hj (.inl hlm) (pe_var (X := X.suite a ((a, oe5) :: (X.pn ++ pins))) (pos := np) hi (.inl hln) hd hcd) hsw (.inr hlm))
    have hil : i < σ'.length := by
      rw [D5.inv.len]
      exact (List.getElem?_eq_some_iff.mp hi).1
    refine wpAny_mono (su.run [] s6 _ H' { nx := fun σ6 H6 => σ6 = (σ'.set i (some (.ref a))).set j (some (.ref a)) ∧ H6 = H', rt := fun _ _ => False } S6 ⟨.ref a, List.getElem?_set_self hil, rfl, rfl⟩) (fun f s7 hsp => ?_) fun _ _ z => z.elim
    cases f with
    | next =>
      obtain ⟨σ7, H7, S7, rfl, rfl⟩ := hsp
      obtain ⟨he7, _, _, _, _⟩ := S7.pin (a, oe5) (List.mem_append_left _ List.mem_cons_self)
      have J7 := S7.unsuite ok
      have T7 := track (φ := fun h => ∃ (oe : Obj) (vs : Array Value), h.get? a = some oe ∧ oe.cls = .ref C ∧ oe.dict = d ∧ oe.data = .fields vs) J7 na (D5.n0 hx) (D5.nL hs hf) D5.nC D5.nP (ct_ok he7 hz5 hd5)
      exact gone_ok T7 hN hi hln fun s8 J8 => ⟨_, _, J8, hD a na⟩
    | brk => exact hsp.elim fun _ z => z.elim fun _ z => z.2.elim
    | cont => exact hsp.elim fun _ z => z.elim fun _ z => z.2.elim
    | ret u => exact hsp.elim fun _ z => z.elim fun _ z => z.elim fun _ z => z.2.2.elim
end
end G
set_option Elab.async false
set_option linter.all false
set_option maxRecDepth 100000
set_option maxHeartbeats 4000000
/-! G43: tests of except clauses: one class, two classes -/
namespace G
open PySem PySem.Spec L2 PyProof.Rows
set_option autoImplicit false
section
variable {X : Cx} {x x1 x2 : Str} {C : Addr} {c c1 c2 : Value} {p p1 p2 tpos : Pos} {kk : Nat}
theorem match_two (h1 : Gl X x1) (d1 : (x1 == ("__debug__" : Str)) = false) (m1 : X.mg x1 = some c1) (h2 : Gl X x2) (d2 : (x2 == ("__debug__" : Str)) = false) (m2 : X.mg x2 = some c2) (hx : PySem.W.exmAny X.K (.ref C) [c1, c2] = some true) :
    Match X (.Tuple [.Name x1 p1, .Name x2 p2] kk tpos) (.ref C) := by
  intro a oe d pn pins σ H s Q E I he hz q
  refine wpAny_Tuple ?_
  refine wpAny_items_cons (ld_glob (X := X.suite a ((a, oe) :: pn)) I h1 m1 ?_ d1)
  refine wpAny_items_cons (ld_glob (X := X.suite a ((a, oe) :: pn)) I h2 m2 ?_ d2)
  refine wpAny_items_nil ⟨by size_fits, ?_⟩
  have kp : ∀ b o, s.heap.get? b = some o → (s.heap.push { cls := .type "tuple", data := .seq [c1, c2].toArray }).get? b = some o := fun _ _ z => Heap.get?_push_of_some _ z
  have LT : PySem.W.Looks (model X.prog X.w) (s.heap.push { cls := .type "tuple", data := .seq [c1, c2].toArray }) (typeOf (.ref a)) (.ref C) := fun A Q E s k q => wpAny_typeOf_ref (k _ _ (kp _ _ he)) (by rw [hz.1]; exact q)
  exact (PySem.W.exm_tup2 (M := model X.prog X.w) (I.kIn.keeps kp) LT (Heap.get?_push_size s.heap rfl) hx).here (q _ kp)
end
end G
set_option Elab.async false
set_option linter.all false
set_option maxRecDepth 100000
set_option maxHeartbeats 4000000
/-! G44: a deed (a lambda without parameters) handed to an own def that does it within a try -/
namespace G
open PySem PySem.Spec L2 PyProof.Rows
set_option autoImplicit false
/-! ### outcomes that do not depend on where the deed lies -/
open Classical in
noncomputable def allF (R : Addr → Out W) : Out W := if h : ∃ r, ∀ f, R f = r then h.choose else .bad
theorem allF_eq {R : Addr → Out W} {r : Out W} (h : ∀ f, R f = r) : allF R = r := by
  unfold allF
  rw [dif_pos ⟨r, h⟩]
  have q := (⟨r, h⟩ : ∃ r, ∀ f, R f = r).choose_spec
  exact (q 0).symm.trans (h 0)
theorem allF_cases (R : Addr → Out W) : allF R = .bad ∨ ∀ f, R f = allF R := by
  by_cases h : ∃ r, ∀ f, R f = r
  · obtain ⟨r, h⟩ := h
    exact .inr fun f => (h f).trans (allF_eq h).symm
  · exact .inl (by unfold allF; rw [dif_neg h])
/-! ### worlds from some world on -/
def dG (Γ : Gm) (w0 : Wd) : Gm := ⟨Γ.ca, Γ.ok, Γ.upd, fun w => Γ.sub w ∧ w0.le w, fun w w1 h l => ⟨Γ.mono w w1 h.1 l, h.2.trans l⟩⟩
section
variable {Γ : Gm} {K : PySem.W.Frag} {w w0 w1 : Wd}
theorem Good.dG (G : Good Γ K w) (l : w0.le w) : Good (dG Γ w0) K w := ⟨G.len, G.inj, G.tr, G.cell, G.side, G.hold, l⟩
theorem Good.unD (G : Good (G.dG Γ w0) K w) : Good Γ K w := ⟨G.len, G.inj, G.tr, G.cell, G.side, G.hold.1⟩
theorem Good.since (G : Good (G.dG Γ w0) K w) : w0.le w := G.hold.2
theorem RX.toXc {cls : Value} {d : Option Addr} {e : Exn} {a : Addr} (r : RX Γ K w cls d e) (l : w.le w1) (h : w1.im a = some (CtO (Γ.ca e.c) d a)) : RW K w1 (.ref a) (.xc (Γ.ca e.c) e.c e.f) := by
  refine ⟨a, d, rfl, h, ?_⟩
  obtain ⟨_, r2⟩ := r
  cases hf : e.f with
  | nil =>
    rw [hf] at r2
    exact .inl ⟨rfl, r2⟩
  | cons x t =>
    rw [hf] at r2
    obtain ⟨dd, us, e1, e2, e3⟩ := r2
    exact .inr ⟨fun z => (by cases z), dd, us, e1, l.im _ _ e2, Paired.imp (fun _ _ z => ⟨z.1, Dp.mono l.im z.2⟩) e3⟩
end
/-- try: t = deed() / except C as n: m = n. Slots: t at v, n at i, m at j, the deed at 0; behind an exception all other slots are forgotten -/
def fTryD (ca : Nat → Addr) (cs : List Nat) (f : Addr) (g : Sto → Out W) (v j : Nat) : Fs := fun ρ S => match ρ[0]? with
  | some (some (W.v (V.ref f'))) => if f' = f then (match g S with
      | .ok x S1 => .nx (ρ.set v (some x)) S1
      | .ex e S1 => if e.c ∈ cs then .nx ((List.replicate ρ.length none).set j (some (.xc (ca e.c) e.c e.f))) S1 else .bad
      | .bad => .bad) else .bad
  | _ => .bad
/-- what is known of the deed that lies at f -/
structure Deed (Γ : Gm) (Z0 : Cx) (a : Str) (f c' : Addr) (q : Str) (w0 : Wd) (g : Sto → Out W) : Prop where
  ex : ∃ tl : XK → Hp → VK → Prop,
    (∀ (W : WX) (pn : List (Addr × Obj)) (xe : Value → Shared → Prop) (E : XK) (p1 p2 : Pos), Takes (Z0.tr pn xe) W → (∀ cls d σ' H', E cls d H' → W cls d σ' H') →
      PE (Z0.tr pn xe) (.Call (.Name a p1) [] [] p2) (fun σZ HZ Q => σZ[0]? = some (some (.ref f)) ∧ HZ c' = some (LamX.CodeO c' q) ∧ tl E HZ Q)) ∧
    (∀ (w1 : Wd) (E : XK) (Q1 : VK), w0.le w1 → Good Γ Z0.K w1 → Post Γ Z0.K (RW Z0.K) w1 [] (fun c d _ H => E c d H) (g w1.S) Q1 → tl E w1.H Q1)
  code : w0.im c' = some (LamX.CodeO c' q)
theorem slots_one {K : PySem.W.Frag} {w : Wd} {σ : L2.St} {n j : Nat} {u : V} {x : W} (hn : σ.length = n) (h : j < n → σ[j]? = some (some u)) (r : RW K w u x) : Slots K w σ ((List.replicate n none).set j (some x)) := by
  refine ⟨by simp [hn], fun k y e => ?_⟩
  by_cases hk : j = k
  · subst hk
    by_cases hl : j < n
    · rw [List.getElem?_set_self (by simpa using hl)] at e
      cases e
      exact ⟨u, h hl, r⟩
    · rw [List.getElem?_eq_none (by simpa using hl)] at e
      cases e
  · rw [List.getElem?_set_ne hk, List.getElem?_replicate] at e
    split at e <;> cases e
section
variable {Γ : Gm} {Z0 : Cx} {Zw : WX} {a n m t q : Str} {f c' : Addr} {w0 : Wd} {g : Sto → Out W} {te : Expr} {cs : List Nat} {v i j : Nat} {tp p1 p2 ap0 np mp ap pos pos' : Pos}
theorem vs_tryD (DD : Deed Γ Z0 a f c' q w0 g) (hM : ∀ c ∈ cs, Match Z0.nox te (.ref (Γ.ca c))) (hs : Z0.stack = Z0.env :: Z0.outer) (hf : Z0.env.frame = some Z0.env.locals) (hx : Z0.ex = []) (hN : Z0.N.Nodup)
    (hi : Z0.N[i]? = some n) (hj : Z0.N[j]? = some m) (hv : Z0.N[v]? = some t) (hln : Z0.env.kindOf n = some .local) (hlm : Z0.env.scope.names.lookup m = some .local) (hlt : Z0.env.scope.names.lookup t = some .local) (hij : i ≠ j)
    (hd : (n == ("__debug__" : Str)) = false) (hcd : (n == ("__classdict__" : Str)) = false) (hsw : swapsWith (.Name n np) (some (.Name m mp)) ap.line Z0.env = pure false) (hsw0 : swapsWith (.Call (.Name a p1) [] [] p2) (some (.Name t tp)) ap0.line Z0.env = pure false) :
    VS (dG Γ w0) Z0.nox Zw (.Try [.Assign [.Name t tp] (.Call (.Name a p1) [] [] p2) ap0] [.ExceptHandler (some te) (some n) [.Assign [.Name m mp] (.Name n np) ap] pos'] [] [] pos) (fTryD Γ.ca cs f g v j) := by
  obtain ⟨tl, act, tell⟩ := DD.ex
  refine ⟨PS.mono (ps_try_keep (X := Z0.nox) (i := i) (j := j) (tb := fun W D σ H => ∃ Ech : XK, (∀ cls d σ' H', σ'.length = σ.length → Ech cls d H' → W cls d σ' H') ∧ σ[0]? = some (some (.ref f)) ∧ H c' = some (LamX.CodeO c' q) ∧ tl Ech H (fun u H1 => D.nx (σ.set v (some u)) H1))
    hs hf hx hN hi hj hln hlm hij hd hcd hsw (fun W pn xe tk _ => ⟨fun pins s' σ H' D I h' => ?_⟩)) fun D σ H h => ?_⟩
  · obtain ⟨Ech, hW, h1, h2, h3⟩ := h'
    have tk' : Takes (Z0.tr pn xe) (fun cls d σ' H' => σ'.length = σ.length → W cls d σ' H') := fun u s1 ⟨a1, B, sI, pins, σ1, H1, cls, d, e, J, nb, up, sky, na, os, ag, w⟩ =>
      tk u s1 ⟨a1, B, sI, pins, σ1, H1, cls, d, e, J, nb, up, sky, na, os, ag, w (J.len.trans I.len.symm)⟩
    have hp := act _ pn xe Ech p1 p2 tk' (fun cls d σ' H' e hl => hW cls d σ' H' hl e)
    have hq := pss_one (ps_set (X := Z0.tr pn xe) (pos := ap0) (pos' := tp) hN hv (.inl hlt) hp hsw0 (.inr hlt))
    exact hq.run pins s' σ H' D I ⟨h1, h2, h3⟩
  · obtain ⟨w, ρ, rfl, G, s, p⟩ := h
    unfold fTryD at p
    split at p
    · rename_i f' e0
      split at p
      · rename_i ef
        subst ef
        obtain ⟨u0, hu, r0⟩ := s.val 0 _ e0
        cases (show u0 = .ref f' from r0)
        have hc := (Wd.im_some (G.since.im _ _ DD.code)).1
        refine ⟨fun cls d H' => ∀ σ', σ'.length = σ.length → wKeep Z0.nox te i j D cls d σ' H', fun cls d σ' H' hl e => e σ' hl, hu, hc, tell w _ _ G.since G.unD ?_⟩
        cases eg : g w.S with
        | bad => rw [eg] at p; exact p.elim
        | ok x S1 =>
          rw [eg] at p
          intro w1 u e l G1 r
          exact p w1 _ e l (G1.dG (G.since.trans l)) ((s.mono l).set r v)
        | ex e S1 =>
          rw [eg] at p
          dsimp only at p
          split at p
          · rename_i hcs
            intro w1 cls d e1 l G1 rx σ' hl
            refine ⟨Γ.ca e.c, rx.1, hM _ hcs, fun b hb => ?_⟩
            obtain ⟨G2, l2⟩ := G1.new hb (CtO (Γ.ca e.c) d b)
            refine p ⟨w1.μ, w1.S, upd w1.H b (CtO (Γ.ca e.c) d b)⟩ _ e1 (l.trans l2) (G2.dG (G.since.trans (l.trans l2))) ?_
            have nb := G1.nin hb
            refine slots_one (by simp [hl, s.len]) (u := .ref b) (fun hjl => ?_) (rx.toXc l2 (Wd.im_of upd_same (fun lv => nb (live_mem lv)) fun ps z => by unfold CtO at z; cases z))
            rw [List.getElem?_set_ne hij, List.getElem?_set_self (by have := s.len; simp; omega)]
          · exact p.elim
      · exact p.elim
    · exact p.elim
end
end G
set_option Elab.async false
set_option linter.all false
set_option maxRecDepth 100000
set_option maxHeartbeats 4000000
/-! G45: tuple(range(n)); a try whose clause keeps what it caught, the body being any suite; isinstance of what was caught -/
namespace G
open PySem PySem.Spec L2 PyProof.Rows
set_option autoImplicit false
section
variable {Γ : Gm} {X : Cx} {Z : WX} {pos : Pos}
/-! ### tuple(range(n)) -/
/-! ### try: body / except C as n: m = n -/
/-! ### isinstance(caught, C) -/
def rIsX (K : PySem.W.Frag) : List V → Hp → VK → Prop := fun xs H Q => ∃ (a D : Addr) (c : V) (cv : Value) (b : Bool), xs = [.ref a, c] ∧ H a = some (CtO D none a) ∧ ExcC K D ∧ (∀ u, RelV c u → u = cv) ∧ PySem.W.kitOne K (.ref D) cv = some b ∧ Q (.bl b) H
theorem call_isX : CallR X (.builtin "isinstance") (rIsX X.K) := by
  intro pins s σ H xs us Q I r h
  obtain ⟨a, D, c, cv, b, rfl, ht, C, hcv, e, q⟩ := h
  obtain ⟨u1, u2, rfl, r1, r2⟩ := vals2 r
  cases (show u1 = .ref a from r1)
  cases hcv _ r2
  obtain ⟨⟨oe, vs, hget, h1, h2, hv⟩, _⟩ := I.hok a _ ht
  have J : PySem.W.InstAt s.heap a oe D none := by
    obtain ⟨oc, od, oda, osl⟩ := oe
    dsimp only at h1 h2 hv
    subst h1 h2 hv
    exact ⟨hget, rfl, rfl, trivial⟩
  exact PySem.W.kia_one (PySem.W.handS_kitx_exc C.hg C.hk C.hs C.hd C.ha C.hn C.ht C.hm) I.kIn J e (fun z => nomatch z) fun tk => ⟨.bl b, H, I.kept (t' := tk) fun _ _ z => z, rfl, q⟩
/-- what isinstance answers of the own classes, by numbers -/
structure ExI (Γ : Gm) (K : PySem.W.Frag) (c : Nat) (cv : Value) (b : Bool) : Prop where
  cls : ExcC K (Γ.ca c)
  kit : PySem.W.kitOne K (.ref (Γ.ca c)) cv = some b
def fIsX (ca : Nat → Addr) (kd : List (Nat × Bool)) (f : Fe W) : Fe W := fun ρ S => (f ρ S).bind fun x S1 => match x with
  | .xc cls c [] => if cls = ca c then (match kd.lookup c with
    | some b => .ok (.d (.bool b)) S1
    | none => .bad) else .bad
  | _ => .bad
theorem ve_isT {a : Expr} {f : Fe W} {p p2 : Pos} {t : String} {kd : List (Nat × Bool)} (hk : ∀ c b, kd.lookup c = some b → ExI Γ X.K c (.type t) b) (hm : X.mg "isinstance" = none) (hm2 : X.mg (Str.ofString t) = none) (ha : VE Γ X Z a f) (hg : Gl X "isinstance" := by rfl) (hg2 : Gl X (Str.ofString t) := by rfl) (hv2 : bootBuiltins (Str.ofString t) = some (.type t) := by decide +kernel)
    (hn2 : Str.ofString t ≠ "__name__" := by decide +kernel) (hd2 : (Str.ofString t == ("__debug__" : Str)) = false := by decide +kernel) (hv : bootBuiltins "isinstance" = some (.builtin "isinstance") := by decide +kernel)
    (he : starEach [a, .Name (Str.ofString t) p2] X.env = (false, eval a X.env) :: starEach [.Name (Str.ofString t) p2] X.env := by rfl)
    (he2 : starEach [.Name (Str.ofString t) p2] X.env = (false, eval (.Name (Str.ofString t) p2) X.env) :: starEach [] X.env := by rfl)
    (hpl : (backTo pos (starEach [.Name (Str.ofString t) p2] X.env)).any (·.1) = false := by rfl) :
    VE Γ X Z (.Call (.Name "isinstance" p) [a, .Name (Str.ofString t) p2] [] pos) (fIsX Γ.ca kd f) := by
  refine ⟨PE.mono (pe_callB call_isX hg hm hv (pa_cons ha.pe (pa_cons (pe_bltn (v := .ty t) hg2 hm2 hv2 rfl hn2 hd2) pa_nil he2) he) (by decide) (by decide) he hpl) fun σ H Q q => liftR.imp (seq1 (R := RW X.K) q) fun v H1 ⟨x, w, e, G, r, p⟩ => ?_⟩
  subst e
  split at p
  · rename_i cls c
    split at p
    · rename_i hc
      subst hc
      split at p
      · rename_i b hb
        obtain ⟨a, d, rfl, h, h2⟩ := r
        have hd : d = none := by
          rcases h2 with h2 | h2
          · exact h2.2
          · exact absurd rfl h2.1
        subst hd
        exact ⟨a, Γ.ca c, .ty t, .type t, b, rfl, (Wd.im_some h).1, (hk c b hb).cls, fun u e => e, (hk c b hb).kit, p.use G (Dp.bl _)⟩
      · exact p.elim
    · exact p.elim
  · exact p.elim
end
end G
set_option Elab.async false
set_option linter.all false
set_option maxRecDepth 100000
set_option maxHeartbeats 4000000
/-! G46: t1, t2 = a, b where the names are cells: a tuple that the run makes and takes apart again, whatever its parts are -/
namespace G
open PySem PySem.Spec L2 PyProof.Rows
set_option autoImplicit false
section
variable {Γ : Gm} {X : Cx} {Z : WX} {pos : Pos}
end
end G
set_option Elab.async false
set_option linter.all false
set_option maxRecDepth 100000
set_option maxHeartbeats 4000000
/-! G47: sorted(rows, key=lambda row: (len(row), row)) -/
namespace G
open PySem PySem.Spec L2 PyProof.Rows
set_option autoImplicit false
/-! ### worlds where tables grow -/
theorem cell_nt {K : PySem.W.Frag} {w : Wd} {a : Addr} {c : Cell} (h : CellOk K w a c) : ∃ o, w.H a = some o ∧ ∀ ps, o ≠ .tbl ps := by
  cases c with
  | lst ws => obtain ⟨vs, e, _⟩ := h; exact ⟨_, e, fun ps z => by cases z⟩
  | dic kvs => obtain ⟨us, e, _⟩ := h; exact ⟨_, e, fun ps z => by cases z⟩
  | fz x => obtain ⟨vs, ds, _, e, _⟩ := h; exact ⟨_, e, fun ps z => by cases z⟩
  | dit kvs => obtain ⟨us, e, _⟩ := h; exact ⟨_, e, fun ps z => by cases z⟩
  | fd kvs => obtain ⟨o, us, e, _⟩ := h; exact ⟨_, e, fun ps z => by cases z⟩
  | dix kvs => obtain ⟨us, e, _⟩ := h; exact ⟨_, e, fun ps z => by cases z⟩
  | fdx kvs => obtain ⟨o, us, e, _⟩ := h; exact ⟨_, e, fun ps z => by cases z⟩
theorem le_extN {w : Wd} {H1 : Hp} (e : LamX.ExtN w.H H1) : w.le ⟨w.μ, w.S, H1⟩ := by
  refine ⟨fun a o h => ?_, [], by simp⟩
  obtain ⟨h1, h2, h3⟩ := Wd.im_some h
  exact Wd.im_of (w := ⟨w.μ, w.S, H1⟩) (e a o h1 h3) h2 h3
theorem cell_extN {K : PySem.W.Frag} {w : Wd} {H1 : Hp} (e : LamX.ExtN w.H H1) {a : Addr} {c : Cell} (h : CellOk K w a c) : CellOk K ⟨w.μ, w.S, H1⟩ a c := by
  have l := le_extN e
  cases c with
  | lst ws =>
    obtain ⟨vs, q, r⟩ := h
    exact ⟨vs, e _ _ q (fun ps z => by cases z), RWs.mono l r⟩
  | dic kvs =>
    obtain ⟨us, q, r⟩ := h
    exact ⟨us, e _ _ q (fun ps z => by cases z), Paired.imp (fun _ _ z => ⟨z.1, RW.mono l z.2⟩) r⟩
  | fz x =>
    obtain ⟨vs, ds, q0, q, r⟩ := h
    exact ⟨vs, ds, q0, e _ _ q (fun ps z => by cases z), DpAll.mono l.im r⟩
  | dit kvs =>
    obtain ⟨us, q, r⟩ := h
    exact ⟨us, e _ _ q (fun ps z => by cases z), Paired.imp (fun _ _ z => ⟨z.1, RW.mono l z.2⟩) r⟩
  | fd kvs =>
    obtain ⟨o, us, q, r⟩ := h
    exact ⟨o, us, e _ _ q (fun ps z => by cases z), Paired.imp (fun _ _ z => ⟨z.1, RW.mono l z.2⟩) r⟩
  | dix kvs =>
    obtain ⟨us, q, q1, q2, r⟩ := h
    exact ⟨us, e _ _ q (fun ps z => by cases z), q1, q2, Paired.imp (fun _ _ ⟨a1, a2, v, a3, a4⟩ => ⟨a1, SqT.mono l.im a2, v, a3, RW.mono l a4⟩) r⟩
  | fdx kvs =>
    obtain ⟨o, us, q, q1, q2, r⟩ := h
    exact ⟨o, us, e _ _ q (fun ps z => by cases z), q1, q2, Paired.imp (fun _ _ ⟨a1, a2, v, a3, a4⟩ => ⟨a1, SqT.mono l.im a2, v, a3, RW.mono l a4⟩) r⟩
theorem Good.extN {K : PySem.W.Frag} {ca : Nat → Addr} {T : List (Addr × Str)} {w : Wd} {H1 : Hp} (G : Good (gmT ca T) K w) (e : LamX.ExtN w.H H1) (t : LamX.Tabs T H1) : Good (gmT ca T) K ⟨w.μ, w.S, H1⟩ where
  len := G.len
  inj := G.inj
  tr := fun a ha => by
    obtain ⟨n, hn⟩ := List.mem_iff_getElem?.mp ha
    have hl := (List.getElem?_eq_some_iff.mp hn).1
    have hs : ∃ c, w.S[n]? = some c := ⟨_, List.getElem?_eq_getElem (by rw [← G.len]; exact hl)⟩
    obtain ⟨c, hc⟩ := hs
    obtain ⟨o, ho, nt⟩ := cell_nt (G.cell n a c hn hc)
    exact ⟨o, e a o ho nt⟩
  cell := fun n a c h1 h2 => cell_extN e (G.cell n a c h1 h2)
  side := t
  hold := trivial
/-! ### the key of a row -/
/-! ### the lambda's call -/
section
variable {prog : Program} {w : World}
end
end G
set_option Elab.async false
set_option linter.all false
set_option maxRecDepth 100000
set_option maxHeartbeats 4000000
/-! G48: sorted(rows, key=lambda row: (len(row), row)), by value -/
namespace G
open PySem PySem.Spec L2 PyProof.Rows
set_option autoImplicit false
section
variable {ca : Nat → Addr} {T : List (Addr × Str)} {X : Cx} {Z : WX} {pos : Pos}
end
end G
set_option Elab.async false
set_option linter.all false
set_option maxRecDepth 100000
set_option maxHeartbeats 4000000
/-! G49: defs that make lambdas: their code objects and tables; the end of a law with such -/
namespace G
open PySem PySem.Spec L2 PyProof.Rows
set_option autoImplicit false
/-- what a def that makes a lambda asks of its own code object -/
structure LamF (K : PySem.W.Frag) (mg : Str → Option Value) (base : Heap) (T : List (Addr × Str)) (cdv : Value) (q : Str) : Prop where
  ex : ∃ c P : Addr, cdv = .ref c ∧ LamX.TabB base mg c P ∧ (P, q) ∈ T ∧ ∀ p ∈ T, p.1 = P → p.2 = q
section
variable {Γ : Gm} {P : Program} {wd : World} {K : PySem.W.Frag} {mg : Str → Option Value} {base : Heap}
theorem fnG_ruleC {k : Nat} {x qual : Str} {params : Arguments} {body : List Stmt} {scope : Scope} {dvs : List V} {kws : List (Str × V)} {f : Addr} {fd : FuncData} {N ps : List Str} {b : Fs}
    (F : FunD K x qual params body scope dvs kws f fd) (S : FnScope N ps scope)
    (hb : ∀ (cdv : Value) (A : Around) (outer : List Env) (s : Shared) (H : Hp) (E : XK), fd.code = cdv → (A.deeper (envOfC qual scope s.heap.objs.size f cdv)).guards = some [] → Room k (A.deeper (envOfC qual scope s.heap.objs.size f cdv)) → VB Γ (cxOf (L2.CX P wd) P wd K mg base N qual scope f cdv A outer s H E) (fun c d _ H => E c d H) body b) :
    FnG P wd K mg base (k + 1) f fd ps (spOf Γ K ps.length (runB N.length b)) := by
  obtain ⟨oc, od, dV, kV, doc, pm, an, cdv, ct, osl, rfl, lk, hcd, h1, h2⟩ := F.ex
  refine ⟨fun vs H Q E h => h.1, fun A outer s H us vs Q E hgd hr e0 hbd r hsp => ?_⟩
  have F' : FunD K x qual params body scope dvs kws f (PySem.W.fnOf x qual params body scope dV kV doc pm an cdv ct) := F
  have kin : K.In s.heap := e0.mod.kin.keeps fun c o e => (e0.bs c o e).1
  have nolim : s.heap.NoLimit := e0.mod.nolimit.keeps fun c o e => (e0.bs c o e).1
  have kinds : ((ps.zip us).all fun y => scope.names.lookup y.1 == some .local || scope.names.lookup y.1 == some .cell) = true := by
    rw [List.all_eq_true]
    intro y hy
    have hm : y.1 ∈ ps := (List.of_mem_zip (a := y.1) (b := y.2) hy).1
    rcases S.par y.1 hm with q | q
    · rw [q]; rfl
    · rw [q]; rfl
  refine Att.call_fn kin nolim lk hcd hr.depth hbd kinds ?_ S.co S.gen S.kind
  intro s1 x1
  have I := inv_start (CX := L2.CX P wd) (N := N) (E := E) S hr.hd e0 hsp.1 r x1
  have hrun := (hb cdv A outer s H E rfl hgd (hr.deeper _)).ps.run [] s1 (L2.start N vs) H _ I (start_post hsp)
  refine wpAny_mono hrun ?_ (fun _ _ z => z)
  intro fl s' hs
  cases fl with
  | ret u =>
    obtain ⟨v, σ', H', J, rv, q⟩ := hs
    exact ⟨v, H', J.os, J.bare, J.base, J.hok, rv, q⟩
  | next =>
    obtain ⟨σ', H', J, q⟩ := hs
    exact ⟨.non, H', J.os, J.bare, J.base, J.hok, rfl, q⟩
  | brk => exact hs.choose_spec.choose_spec.2.elim
  | cont => exact hs.choose_spec.choose_spec.2.elim
end
/-! ### the law's own call, with tables -/
theorem end_lawT {l : PySem.W.OpenLaw} {n k : Nat} {q : Program} {loose : List Str} {XP : (Str → Option Value) → Heap → Prop} {YP : World → Heap → Prop} {d : DefRec} {x : Str}
    (hn : l.most = some n) (hn2 : n ≤ sizeLine) (hdf : d.params.defaults = []) (hr : Room k callerA)
    (F : ∀ (w : World) (mg : Str → Option Value) (fa : Addr) (h : Heap), YP w h → h.Ns mainGlobals mg → mg d.name = some (.ref fa) → ∃ (K : PySem.W.Frag) (fd : FuncData) (sp : Sp) (cs : List (Addr × Addr)), K.In h ∧
      (∀ p ∈ cs, h.get? p.2 = some { cls := .none, data := .fields #[] }) ∧ (∀ p ∈ cs, K.lookup p.2 = none) ∧ (∀ p ∈ cs, PySem.W.codeHdIn K p.1 p.2 = true) ∧ (∀ (s : Shared) (u : Value), BindsTo s fd ⟨[u], []⟩ [(x, u)]) ∧
      (∀ (H : Hp) (a : Addr) (ns : List Int), ns.length ≤ n → (∀ p ∈ cs, H p.2 = some (.tbl #[])) → SqL K H a (ns.map V.int) → sp [.ref a] H (fun v _ => v = .bl true) fun _ _ _ => False) ∧
      ∀ base : Heap, K.In base → base.Ns mainGlobals mg → (∀ p ∈ cs, LamX.TabB base mg p.1 p.2) → FnG l.prog w K mg base k fa fd [x] sp) :
    PySem.W.WalkO q loose XP YP l.row.toRowW d [] (fun f vs => PySem.call f vs) := by
  refine Att.attach_callB hn hdf ?_
  intro w s0 s1 mg mb fa o pm cd doc a vs ns G Y ho hd hcd hmg hobj hints hlen _ hgens
  obtain ⟨K, fd, sp, cs, kin, tE, tN, tC, hbind, hsp, hF⟩ := F w mg fa _ Y G.T.g hmg
  have rv := vals_ints hints
  have hz : (ns.map V.int).length ≤ sizeLine := by rw [List.length_map]; exact Nat.le_trans hlen hn2
  obtain ⟨tabs, htabs⟩ : ∃ tabs, tabs = cs.map (·.2) := ⟨_, rfl⟩
  have inT : ∀ p ∈ cs, p.2 ∈ tabs := fun p hp => by rw [htabs]; exact List.mem_map.mpr ⟨p, hp, rfl⟩
  have ofT : ∀ b ∈ tabs, ∃ p ∈ cs, p.2 = b := fun b hb => by
    rw [htabs] at hb
    exact List.mem_map.mp hb
  have isT : ∀ b ∈ tabs, s1.heap.get? b = some { cls := .none, data := .fields #[] } ∧ K.lookup b = none := fun b hb => by
    obtain ⟨p, hp, rfl⟩ := ofT b hb
    exact ⟨tE p hp, tN p hp⟩
  have aT : a ∉ tabs := fun z => by
    have h1 := (isT a z).1
    rw [hobj] at h1
    have h2 := congrArg Obj.data (Option.some.inj h1)
    cases h2
  obtain ⟨tb, htb⟩ : ∃ tb : Hp, tb = fun b => if b ∈ tabs then some (.tbl #[]) else none := ⟨_, rfl⟩
  have tb_in : ∀ b ∈ tabs, tb b = some (.tbl #[]) := fun b hb => by rw [htb]; exact if_pos hb
  have tb_out : ∀ b, b ∉ tabs → tb b = none := fun b hb => by rw [htb]; exact if_neg hb
  -- the script is told apart unless it is the module's own
  obtain ⟨H, hH, hS, hok⟩ : ∃ H : Hp, (∀ b, (b ∉ tabs ∧ H b = none) ∨ (b ∈ tabs ∧ H b = some (.tbl #[])) ∨ b = a ∧ K.lookup a = none ∧ H a = some (.frz { cls := .type "list", data := .seq vs.toArray } (.lst (ns.map V.int)))) ∧ SqL K H a (ns.map V.int) ∧ HOk l.prog w H s1.heap := by
    cases hk : K.lookup a with
    | some ob =>
      have e1 := kin a ob hk
      rw [hobj] at e1
      cases e1
      refine ⟨tb, fun b => ?_, .inr ⟨_, vs.toArray, _, hk, rfl, rfl, rfl, ?_, by simpa using rv⟩, fun b u z => ?_⟩
      · by_cases hb : b ∈ tabs
        · exact .inr (.inl ⟨hb, tb_in b hb⟩)
        · exact .inl ⟨hb, tb_out b hb⟩
      · rw [List.size_toArray, hints.length]
        exact Nat.le_trans hlen hn2
      · by_cases hb : b ∈ tabs
        · rw [tb_in b hb] at z
          cases z
          exact (isT b hb).1
        · rw [tb_out b hb] at z
          cases z
    | none =>
      refine ⟨upd tb a (.frz { cls := .type "list", data := .seq vs.toArray } (.lst (ns.map V.int))), fun b => ?_, .inl (.inr ⟨_, upd_same⟩), fun b u z => ?_⟩
      · by_cases hb : b = a
        · exact .inr (.inr ⟨hb, rfl, upd_same⟩)
        · by_cases hb2 : b ∈ tabs
          · exact .inr (.inl ⟨hb2, by rw [upd_ne hb]; exact tb_in b hb2⟩)
          · exact .inl ⟨hb2, by rw [upd_ne hb]; exact tb_out b hb2⟩
      · by_cases hb : b = a
        · subst hb
          rw [upd_same] at z
          cases z
          exact ⟨hobj, hz, vs, _, rv, hobj⟩
        · rw [upd_ne hb] at z
          by_cases hb2 : b ∈ tabs
          · rw [tb_in b hb2] at z
            cases z
            exact (isT b hb2).1
          · rw [tb_out b hb2] at z
            cases z
  have tabH : ∀ p ∈ cs, H p.2 = some (.tbl #[]) := fun p hp => by
    rcases hH p.2 with ⟨z, _⟩ | ⟨_, z⟩ | ⟨z, _⟩
    · exact absurd (inT p hp) z
    · exact z
    · exact absurd (by rw [← z]; exact inT p hp) aT
  have clear : ∀ (b : Addr) (ob : Obj), s1.heap.get? b = some ob → ((∀ us m, ob.data ≠ .seq us m) ∧ ob.data ≠ .fields #[]) ∨ K.lookup b ≠ none → H b = none := fun b ob e h => by
    rcases hH b with ⟨_, z⟩ | ⟨z, _⟩ | ⟨rfl, z1, _⟩
    · exact z
    · obtain ⟨t1, t2⟩ := isT b z
      rcases h with h | h
      · rw [t1] at e
        cases e
        exact absurd rfl h.2
      · exact absurd t2 h
    · rcases h with h | h
      · rw [hobj] at e
        cases e
        exact absurd rfl (h.1 _ _)
      · exact absurd z1 h
  have ns_in : ∀ (b : Addr) (m : Str → Option Value), s1.heap.Ns b m → (hidT s1.heap H).Ns b m := fun b m h => by
    obtain ⟨ob, es, ep, e1, e2, e3⟩ := h
    exact ⟨ob, es, ep, hidT_get e1 (clear b ob e1 (.inl ⟨fun us m z => (by rw [e2] at z; cases z), fun z => (by rw [e2] at z; cases z)⟩)), e2, e3⟩
  have kinB : K.In (hidT s1.heap H) := fun b ob e => hidT_get (kin b ob e) (clear b ob (kin b ob e) (.inr (by rw [e]; simp)))
  obtain ⟨mc, c1, c2⟩ := G.T.nolimit
  have md : L2.Mod K mg (hidT s1.heap H) := ⟨kinB, ns_in _ _ G.T.g, ⟨mb, ns_in _ _ G.T.b, G.T.builtins⟩, ⟨mc, ns_in _ _ c1, c2⟩⟩
  have e0 : Env0 l.prog w K mg (hidT s1.heap H) callerA [] s1 H := by
    refine ⟨rfl, md, fun b ob e => of_hidT e, Nat.le_of_eq (hidT_size _ _), trivial, fun b hb => ?_, hok, .of_eq hgens⟩
    cases hb
  have gns := G.T.g
  have TB : ∀ p ∈ cs, LamX.TabB (hidT s1.heap H) mg p.1 p.2 := fun p hp => by
    have hTp := tE p hp
    have nG : mainGlobals ≠ p.2 := fun z => by
      obtain ⟨ob, es, ep, e, hd, _⟩ := gns
      rw [z, hTp] at e
      cases e
      cases hd
    refine NdefX.tabB_of_K kinB (tC p hp) ?_ nG
    obtain ⟨bm, ob, b1, b2, b3, b4, b5, b6⟩ := G.T.bmain
    have n1 : bm ≠ mainGlobals := fun z => by
      obtain ⟨ob2, es, ep, e, hd, _⟩ := gns
      rw [z, e] at b3
      cases b3
      rw [hd] at b6
      cases b6
    have n2 : bm ≠ p.2 := fun z => by
      rw [z, hTp] at b3
      cases b3
      cases b6
    exact ⟨bm, ob, b1, b2, n1, n2, hidT_get b3 (clear bm ob b3 (.inl ⟨fun us m z => (by rw [b6] at z; cases z), fun z => (by rw [b6] at z; cases z)⟩)), b4, b5, b6⟩
  have hrun := (hF _ kinB (ns_in _ _ G.T.g) TB).run callerA [] s1 H [.ref a] [.ref a] _ _ rfl hr e0 (hbind s1 (.ref a)) (.cons rfl .nil) (hsp H a ns hlen tabH hS)
  refine codeAny_mono hrun ?_
  intro res s' h
  cases res with
  | error ev =>
    obtain ⟨_, _, _, _, _, _, _, _, _, _, _, _, z⟩ := h
    exact z.elim
  | ok fl =>
    cases fl with
    | next => exact h.elim
    | brk => exact h.elim
    | cont => exact h.elim
    | ret u =>
      obtain ⟨v, H', hos, hbare, un, hok', r', rfl⟩ := h
      obtain rfl : u = Value.bool true := r'
      have old : ∀ b ob, b ∉ tabs → s1.heap.get? b = some ob → s'.heap.get? b = some ob := fun b ob nb e => by
        rcases hH b with ⟨_, z⟩ | ⟨z, _⟩ | ⟨rfl, _, z⟩
        · exact un.keep b ob e z (fun hm => by cases hm) (fun hm => by cases hm)
        · exact absurd z nb
        · have z2 := (hok' b _ (un.frzs b _ _ z)).1
          rw [hobj] at e
          cases e
          exact z2
      have grow : ∀ p ∈ cs, ∃ more : Array Value, s'.heap.get? p.2 = some { cls := .none, data := .fields more } := fun p hp => by
        obtain ⟨more, z⟩ := un.tbls p.2 #[] (tabH p hp)
        exact ⟨_, hok' p.2 _ z⟩
      refine ⟨rfl, ⟨fun b ob e => ?_, fun b ob e => ?_⟩, hos, hbare⟩
      · by_cases hb : b ∈ tabs
        · obtain ⟨p, hp, rfl⟩ := ofT b hb
          obtain ⟨more, hm⟩ := grow p hp
          rw [tE p hp] at e
          cases e
          have C := PySem.W.codeHd_of_K (h := s1.heap) kin (tC p hp)
          exact .inr (.inl ⟨(C.tab (tE p hp)).isCodeTable, rfl, #[], more, rfl, by rw [Array.empty_append]; exact hm⟩)
        · exact .inl (old b ob hb e)
      · by_cases hb : b ∈ tabs
        · obtain ⟨p, hp, rfl⟩ := ofT b hb
          obtain ⟨more, hm⟩ := grow p hp
          exact ⟨_, hm⟩
        · exact ⟨ob, old b ob hb e⟩
end G
set_option Elab.async false
set_option linter.all false
set_option maxRecDepth 100000
set_option maxHeartbeats 4000000
/-! G50: a def's code object and table, by what the fragment says -/
namespace G
open PySem PySem.Spec L2 PyProof.Rows
set_option autoImplicit false
theorem lamF_of {K : PySem.W.Frag} {mg : Str → Option Value} {base : Heap} {T : List (Addr × Str)} {x qual q : Str} {params : Arguments} {body : List Stmt} {scope : Scope} {dvs : List V} {kws : List (Str × V)} {p : Str × Option Str} {fd : FuncData}
    (F : FunD K x qual params body scope dvs kws (He.fAd K p) fd) (TB : LamX.TabB base mg (He.cT K p).1 (He.cT K p).2) (hm : ((He.cT K p).2, q) ∈ T) (hu : ∀ p' ∈ T, p'.1 = (He.cT K p).2 → p'.2 = q) : ∀ cdv, fd.code = cdv → LamF K mg base T cdv q := by
  rintro cdv rfl
  obtain ⟨oc, od, dV, kV, doc, pm, an, cdv, ct, osl, rfl, lk, hcd, _, _⟩ := F.ex
  obtain ⟨c, hc⟩ := He.codeIn_ref hcd
  have e := He.codeOf_eq (K := K) (p := p) lk (c := c) hc
  have e1 : (He.cT K p).1 = c := e
  exact ⟨c, (He.cT K p).2, hc, by rw [← e1]; exact TB, hm, hu⟩
end G
set_option Elab.async false
set_option linter.all false
set_option maxRecDepth 100000
set_option maxHeartbeats 4000000
/-! G51: x = [.. for .. for ..] -/
namespace G
open PySem PySem.Spec L2 PyProof.Rows
set_option autoImplicit false
section
variable {Γ : Gm} {X : Cx} {Z : WX} {pos : Pos}
end
end G
set_option Elab.async false
set_option linter.all false
set_option maxRecDepth 100000
set_option maxHeartbeats 4000000
/-! G52: defs that call themselves; d.update(e) of dicts by tuples of numbers; an own error over ValueError raised; except (A, B) as n; isinstance(caught, an own class) -/
namespace G
open PySem PySem.Spec L2 PyProof.Rows
set_option autoImplicit false
/-! ### nothing is promised -/
/-! ### d.update(e) -/
section
variable {Γ : Gm} {X : Cx} {Z : WX} {pos : Pos}
/-! ### raise X('m'), X over ValueError -/
def veBase : List Value := [.type "ValueError", .type "Exception", .type "BaseException", .type "object"]
structure ExV (Γ : Gm) (K : PySem.W.Frag) (mg : Str → Option Value) (x : Str) (c : Nat) : Prop where
  g : mg x = some (.ref (Γ.ca c))
  k : PySem.W.keepIn K (.ref (Γ.ca c)) = true
  q : PySem.W.excIn K (Γ.ca c) veBase "ValueError.__new__" = true
  b : PySem.W.subIn K (.ref (Γ.ca c)) (.type "BaseException") = some true
  t : PySem.W.typeIn K (.ref (Γ.ca c)) = some (.type "type")
theorem vs_raiseV {x m : Str} {j : Nat} {p p2 p3 : Pos} {c : Nat} (F : ExV Γ X.K X.mg x c) (tk : Takes X Z) (hc : X.calm = true := by rfl) (hg : Gl X x := by rfl) (hdb : (x == ("__debug__" : Str)) = false := by decide) :
    VS Γ X Z (.Raise (some (.Call (.Name x p) [.Constant (.str m) j p2] [] p3)) none pos) (fRaise c) := by
  have hk := ps_raise (pos := pos) hc tk (pmk_own (X := X) (x := x) (m := m) (j := j) (p := p) (p2 := p2) (pos := p3) PySem.F.excBase_ValueError F.q F.g F.k (raises_own F.b F.t) hg hdb)
  refine ⟨PS.mono hk ?_⟩
  rintro D σ H ⟨w, ρ, rfl, G, s, p⟩
  exact p w σ (.ref (Γ.ca c)) none rfl (Wd.le.refl w) G s ⟨rfl, rfl⟩
/-! ### except (A, B) -/
structure ExM (Γ : Gm) (K : PySem.W.Frag) (mg : Str → Option Value) (x1 x2 : Str) (cs : List Nat) : Prop where
  ex : ∃ c1 c2, mg x1 = some c1 ∧ mg x2 = some c2 ∧ ∀ c ∈ cs, PySem.W.exmAny K (.ref (Γ.ca c)) [c1, c2] = some true
theorem match_exs {x1 x2 : Str} {cs : List Nat} {p1 p2 tpos : Pos} {kk} (F : ExM Γ X.K X.mg x1 x2 cs) (h1 : Gl X x1) (d1 : (x1 == ("__debug__" : Str)) = false) (h2 : Gl X x2) (d2 : (x2 == ("__debug__" : Str)) = false) : ∀ c ∈ cs, Match X (.Tuple [.Name x1 p1, .Name x2 p2] kk tpos) (.ref (Γ.ca c)) := fun c hc => by
  obtain ⟨c1, c2, m1, m2, h⟩ := F.ex
  exact match_two h1 d1 m1 h2 d2 m2 (h c hc)
/-! ### isinstance(caught, an own class) -/
structure ExO (Γ : Gm) (K : PySem.W.Frag) (mg : Str → Option Value) (t : Str) (kd : List (Nat × Bool)) : Prop where
  ex : ∃ D : Addr, mg t = some (.ref D) ∧ ∀ c b, kd.lookup c = some b → ExI Γ K c (.ref D) b
theorem ve_isO {a : Expr} {f : Fe W} {p p2 : Pos} {t : Str} {kd : List (Nat × Bool)} (hk : ExO Γ X.K X.mg t kd) (hm : X.mg "isinstance" = none) (ha : VE Γ X Z a f) (hg : Gl X "isinstance" := by rfl) (hg2 : Gl X t := by rfl) (hd2 : (t == ("__debug__" : Str)) = false := by decide +kernel) (hv : bootBuiltins "isinstance" = some (.builtin "isinstance") := by decide +kernel)
    (he : starEach [a, .Name t p2] X.env = (false, eval a X.env) :: starEach [.Name t p2] X.env := by rfl)
    (he2 : starEach [.Name t p2] X.env = (false, eval (.Name t p2) X.env) :: starEach [] X.env := by rfl)
    (hpl : (backTo pos (starEach [.Name t p2] X.env)).any (·.1) = false := by rfl) :
    VE Γ X Z (.Call (.Name "isinstance" p) [a, .Name t p2] [] pos) (fIsX Γ.ca kd f) := by
  obtain ⟨D, hD, hkd⟩ := hk.ex
  refine ⟨PE.mono (pe_callB call_isX hg hm hv (pa_cons ha.pe (pa_cons (pe_glob (v := V.ref D) hg2 hD rfl hd2) pa_nil he2) he) (by decide) (by decide) he hpl) fun σ H Q q => liftR.imp (seq1 (R := RW X.K) q) fun v H1 ⟨x, w, e, G, r, p⟩ => ?_⟩
  subst e
  split at p
  · rename_i cls c
    split at p
    · rename_i hc
      subst hc
      split at p
      · rename_i b hb
        obtain ⟨a, d, rfl, h, h2⟩ := r
        have hd : d = none := by
          rcases h2 with h2 | h2
          · exact h2.2
          · exact absurd rfl h2.1
        subst hd
        exact ⟨a, Γ.ca c, V.ref D, .ref D, b, rfl, (Wd.im_some h).1, (hkd c b hb).cls, fun u e => e, (hkd c b hb).kit, p.use G (Dp.bl _)⟩
      · exact p.elim
    · exact p.elim
  · exact p.elim
end
end G
set_option Elab.async false
set_option linter.all false
set_option maxRecDepth 100000
set_option maxHeartbeats 4000000
/-! G53: x(lambda: e), where x is an own def that does the deed it is handed -/
namespace G
open PySem PySem.Spec L2 PyProof.Rows
set_option autoImplicit false
/-- x(lambda: e): what x makes of the deed, wherever it lies -/
noncomputable def fSaid (R : Addr → (Sto → Out W) → Fn) (eL : Fe W) : Fe W := fun ρ S => match allF fun f => R f (fun S' => eL ρ S') [.v (.ref f)] S with
  | .ok x S1 => .ok x S1
  | _ => .bad
theorem live_ncode {Γ : Gm} {K : PySem.W.Frag} {w : Wd} (G : Good Γ K w) {a : Addr} {q : Str} (h : w.H a = some (LamX.CodeO a q)) : ¬ w.live a := by
  rintro ⟨n, c, h1, h2, h3⟩
  have hc := G.cell n a c h1 h2
  have ne : ∀ o : HO, w.H a = some o → o = LamX.CodeO a q := fun o e => by rw [h] at e; cases e; rfl
  cases c with
  | lst ws => obtain ⟨vs, e, _⟩ := hc; exact absurd (ne _ e) (fun z => by unfold LamX.CodeO at z; cases z)
  | dic kvs => obtain ⟨us, e, _⟩ := hc; exact absurd (ne _ e) (fun z => by unfold LamX.CodeO at z; cases z)
  | fz x => cases h3
  | dit kvs => obtain ⟨us, e, _⟩ := hc; exact absurd (ne _ e) (fun z => by unfold LamX.CodeO at z; cases z)
  | fd kvs => cases h3
  | dix kvs => obtain ⟨us, e, _⟩ := hc; exact absurd (ne _ e).symm codeO_dx
  | fdx kvs => cases h3
/-- a def that does a deed -/
structure CalD (Γ : Gm) (P : Program) (wd : World) (K : PySem.W.Frag) (mg : Str → Option Value) (base : Heap) (k : Nat) (x a : Str) (R : Addr → (Sto → Out W) → Fn) : Prop where
  ex : ∃ (ga : Addr) (fd : FuncData) (params : Arguments) (body : List Stmt) (scope : Scope) (N : List Str) (b : Addr → (Sto → Out W) → Fs),
    mg x = some (.ref ga) ∧ FunD K x x params body scope [] [] ga fd ∧ FnScope N [a] scope ∧ N[0]? = some a ∧ Vis scope a ∧
    (∀ (kV doc pm : Value) (an : Option Addr) (cdv ct : Value) (us : List Value), us.length = 1 → bindArgs (PySem.W.fnOf x x params body scope .none kV doc pm an cdv ct) ⟨us, []⟩ = pure ([a].zip us)) ∧
    (∀ f g, R f g = runB N.length (b f g)) ∧
    ∀ (A : Around) (outer : List Env) (s : Shared) (H : Hp) (f c' : Addr) (q : Str) (w0 : Wd) (g : Sto → Out W) (cdv : Value), Room k (A.deeper (envOfC x scope s.heap.objs.size ga cdv)) →
      Deed Γ (cxOf C8.CX0 P wd K mg base N x scope ga cdv A outer s H C8.E0) a f c' q w0 g → VB (dG Γ w0) (cxOf C8.CX0 P wd K mg base N x scope ga cdv A outer s H C8.E0).nox (fun _ _ _ _ => False) body (b f g)
/-- what the def makes of the lambda's reading -/
def ttD (Γ : Gm) (K : PySem.W.Frag) (R : Addr → (Sto → Out W) → Fn) : (XK → Hp → VK → Prop) → Hp → VK → Prop := fun tl H Q => ∃ (w : Wd) (g : Sto → Out W), w.H = H ∧ Good Γ K w ∧
  (∀ (w1 : Wd) (E : XK) (Q1 : VK), w.le w1 → Good Γ K w1 → Post Γ K (RW K) w1 [] (fun c d _ H => E c d H) (g w1.S) Q1 → tl E w1.H Q1) ∧
  ∀ f : Addr, Post Γ K (RW K) w [] (fun _ _ _ _ => False) (R f g [.v (.ref f)] w.S) Q
section
variable {X : Cx} {Z : WX}
theorem post_dG {α β : Type} {Γ : Gm} {K : PySem.W.Frag} {R : Wd → β → α → Prop} {w w0 : Wd} {σ : L2.St} {Z : WX} {r : Out α} {Q : β → Hp → Prop} (p : Post Γ K R w σ Z r Q) : Post (dG Γ w0) K R w σ Z r Q := by
  cases r with
  | ok x S' => exact fun w1 v e l G r => p w1 v e l G.unD r
  | ex e S' => exact fun w1 c d e1 l G r => p w1 c d e1 l G.unD r
  | bad => exact p
theorem gives_said {Γ : Gm} {k : Nat} {x a q : Str} {ga : Addr} {cdv : Value} {body : List Stmt} {scope : Scope} {N : List Str} {b : Addr → (Sto → Out W) → Fs} {R : Addr → (Sto → Out W) → Fn} (hR : ∀ f g, R f g = runB N.length (b f g)) (hr : Room (k + 1) X.A)
    (hB : ∀ (A : Around) (outer : List Env) (s : Shared) (H : Hp) (f c' : Addr) (q : Str) (w0 : Wd) (g : Sto → Out W) (cdv : Value), Room k (A.deeper (envOfC x scope s.heap.objs.size ga cdv)) →
      Deed Γ (cxOf C8.CX0 X.prog X.w X.K X.mg X.base N x scope ga cdv A outer s H C8.E0) a f c' q w0 g → VB (dG Γ w0) (cxOf C8.CX0 X.prog X.w X.K X.mg X.base N x scope ga cdv A outer s H C8.E0).nox (fun _ _ _ _ => False) body (b f g)) :
    LamX.GivesTo X N x scope ga cdv body a q (ttD Γ X.K R) := by
  rintro f c' s H Q tl act hc ⟨w, g, rfl, G, tell, p⟩
  have im : w.im c' = some (LamX.CodeO c' q) := Wd.im_of hc (live_ncode G hc) (fun ps => LamX.codeO_ne ps)
  refine ⟨_, (hB X.A X.stack s w.H f c' q w g cdv (hr.deeper _) ⟨⟨tl, act, tell⟩, im⟩).ps, ?_⟩
  have p1 := p f
  rw [hR] at p1
  have sp : spOf (dG Γ w) X.K 1 (runB N.length (b f g)) [.ref f] w.H Q (fun _ _ _ => False) := ⟨rfl, w, [.v (.ref f)], rfl, G.dG (Wd.le.refl w), .cons rfl .nil, post_dG p1⟩
  exact start_post sp
theorem ve_said {ca : Nat → Addr} {T0 : List (Addr × Str)} {j k : Nat} {x a : Str} {R : Addr → (Sto → Out W) → Fn} {c P : Addr} {params : Arguments} {body : Expr} {scope : Scope} {p lpos pos : Pos} {eL : Fe W}
    (C : CalD (gmT ca T0) X.prog X.w X.K X.mg X.base k x a R) (TB : LamX.TabB X.base X.mg c P) (hcode : X.env.code = .ref c) (hmT : (P, X.env.qual ++ "<lambda>") ∈ T0) (hu : ∀ p ∈ T0, p.1 = P → p.2 = X.env.qual ++ "<lambda>") (hr : Room (j + 2) X.A) (hk : k ≤ j + 1) (L : LamX.LamS X.env.scope scope)
    (hbody : ∀ (A : Around) (outer : List Env) (s : Shared) (H : Hp) (E : XK) (f c' : Addr), Room j (A.deeper (LamX.lamEnv X scope s.heap.objs.size f c')) → VE (gmT ca T0) (LamX.lamCx X A outer s H E scope f c') (fun c d _ H => E c d H) body eL)
    (hdef : defaultsOf params X.env = ([], []) := by rfl) (hbind : ∀ (q : Str) (cl : List (Str × Addr)) (pm cv ctv : Value), bindArgs (PySem.W.kla_fn "<lambda>" q params body scope cl pm cv ctv) ⟨[], []⟩ = pure [] := by intros; rfl)
    (hg : Gl X x := by rfl) (hdb : (x == ("__debug__" : Str)) = false := by decide) (hd : (a == ("__debug__" : Str)) = false := by decide) (hcd : (a == ("__classdict__" : Str)) = false := by decide) :
    VE (gmT ca T0) X Z (.Call (.Name x p) [.Lambda params body scope lpos] [] pos) (fSaid R eL) := by
  obtain ⟨ga, fd, params', bodyg, sg, Ng, b, hm, F, Sg, hN0, hva, hbd, hR, hB⟩ := C.ex
  have bn := F.bindsN (ps := [a]) hbd
  obtain ⟨oc, od, dV, kV, doc, pm, an, cdv, ct, osl, rfl, lk, hcdc, _, _⟩ := F.ex
  refine ⟨PE.mono (LamX.pe_lamcall (T := T0) (k := j) (t := fun E => liftR (gmT ca T0) X.K (fun c d _ H => E c d H) (RW X.K) eL) (TT := ttD (gmT ca T0) X.K R) hg hm F.kp lk hcdc bn Sg hN0 hva
    (gives_said hR (hr.mono (by omega)) hB) TB hcode hmT hu hr L hdef hbind (fun A outer s H E f c' h => (hbody A outer s H E f c' h).pe) hdb hd hcd) fun σ H Q h => ?_⟩
  obtain ⟨w, ρ, rfl, G, sl, p⟩ := h
  refine ⟨G.side, fun H1 eN t1 => ?_⟩
  have l1 := le_extN eN
  have G1 := G.extN eN t1
  unfold fSaid at p
  rcases allF_cases (fun f => R f (fun S' => eL ρ S') [.v (.ref f)] w.S) with hb | ha
  · rw [hb] at p
    exact p.elim
  · cases e : allF (fun f => R f (fun S' => eL ρ S') [.v (.ref f)] w.S) with
    | bad => rw [e] at p; exact p.elim
    | ex y S1 => rw [e] at p; exact p.elim
    | ok y S1 =>
      rw [e] at p ha
      refine ⟨⟨w.μ, w.S, H1⟩, fun S' => eL ρ S', rfl, G1, fun w2 E Q1 l2 G2 p2 => ⟨w2, ρ, rfl, G2, sl.mono (l1.trans l2), ?_⟩, fun f => ?_⟩
      · exact Post.zed p2 fun _ _ _ z => z
      · have hf := ha f
        show Post (gmT ca T0) X.K (RW X.K) _ [] _ (R f (fun S' => eL ρ S') [.v (.ref f)] w.S) Q
        rw [hf]
        exact fun w2 v e2 l2 G2 r2 => p w2 v e2 (l1.trans l2) G2 r2
end
/-! ### what holds of worlds holds of those from some world on -/
section
variable {Γ : Gm} {P : Program} {wd : World} {K : PySem.W.Frag} {mg : Str → Option Value} {base : Heap} {w0 : Wd}
end
end G
set_option Elab.async false
set_option linter.all false
set_option maxRecDepth 100000
set_option maxHeartbeats 4000000
/-! G54: facts in worlds from some world on; some.count(True), isinstance(caught, (A, B, C, D)) -/
namespace G
open PySem PySem.Spec L2 PyProof.Rows
set_option autoImplicit false
section
variable {Γ : Gm} {P : Program} {wd : World} {K : PySem.W.Frag} {mg : Str → Option Value} {base : Heap} {w0 : Wd} {x y : Str} {c n k : Nat} {cv : Value} {b : Bool} {cs : List Nat} {kd : List (Nat × Bool)} {dws : List PyData} {F : Fn}
theorem ExF.dg (h : ExF Γ K mg x c) : ExF (dG Γ w0) K mg x c := ⟨h.g, h.k, h.q, h.b, h.t, h.m⟩
theorem ExV.dg (h : ExV Γ K mg x c) : ExV (dG Γ w0) K mg x c := ⟨h.g, h.k, h.q, h.b, h.t⟩
theorem ExI.dg (h : ExI Γ K c cv b) : ExI (dG Γ w0) K c cv b := ⟨h.cls, h.kit⟩
theorem ExM.dg (h : ExM Γ K mg x y cs) : ExM (dG Γ w0) K mg x y cs := by
  obtain ⟨c1, c2, a, b, e⟩ := h.ex
  exact ⟨⟨c1, c2, a, b, e⟩⟩
theorem ExO.dg (h : ExO Γ K mg x kd) : ExO (dG Γ w0) K mg x kd := by
  obtain ⟨D, a, e⟩ := h.ex
  exact ⟨⟨D, a, fun c b q => (e c b q).dg⟩⟩
theorem spOf_dG {vs : List V} {H : Hp} {Q : VK} {E : XK} (h : spOf (dG Γ w0) K n F vs H Q E) : spOf Γ K n F vs H Q E := by
  obtain ⟨hl, w, ws, e, G, r, p⟩ := h
  refine ⟨hl, w, ws, e, G.unD, r, ?_⟩
  cases q : F ws w.S with
  | ok z S' => rw [q] at p; exact fun w1 v e1 l G1 r1 => p w1 v e1 l (G1.dG (G.since.trans l)) r1
  | ex z S' => rw [q] at p; exact fun w1 cl d e1 l G1 r1 => p w1 cl d e1 l (G1.dG (G.since.trans l)) r1
  | bad => rw [q] at p; exact p
theorem Cal.dg (h : Cal Γ P wd K mg base k x n dws F) : Cal (dG Γ w0) P wd K mg base k x n dws F := by
  obtain ⟨f, fd, ps, ds, dvs, h1, h2, h3, h4, h5, h6, h7⟩ := h.ex
  exact ⟨f, fd, ps, ds, dvs, h1, h2, h3, h4, h5, h6, h7.imp fun _ _ _ _ q => spOf_dG q⟩
end
section
variable {Γ : Gm} {X : Cx} {Z : WX} {pos : Pos}
/-! ### some.count(True) -/
def boolsOf : List PyData → Option (List Bool)
  | [] => some []
  | .bool b :: l => (boolsOf l).map (b :: ·)
  | _ :: _ => none
theorem boolsOf_eq : ∀ {ds : List PyData} {bs : List Bool}, boolsOf ds = some bs → ds = bs.map PyData.bool
  | [], bs, h => by cases h; rfl
  | .bool b :: l, bs, h => by
    unfold boolsOf at h
    obtain ⟨cs, hc, rfl⟩ := Option.map_eq_some_iff.mp h
    rw [boolsOf_eq hc]
    rfl
  | .none :: _, _, h => by cases h
  | .int _ :: _, _, h => by cases h
  | .str _ :: _, _, h => by cases h
  | .list _ :: _, _, h => by cases h
  | .tuple _ :: _, _, h => by cases h
  | .dict _ :: _, _, h => by cases h
def gCountB : OpM := fun x xs S => match xs with
  | [.d (.bool k)] => match view x S with
    | some (.list ds) => (boolsOf ds).map fun bs => (W.d (.int (bs.count k : Nat)), S)
    | _ => none
  | _ => none
def rCountB (K : PySem.W.Frag) : V → List V → Hp → VK → Prop := fun x xs H Q => ∃ (a : Addr) (bs : List Bool) (k : Bool), x = V.ref a ∧ xs = [.bl k] ∧ Dp K H (V.ref a) (.list (bs.map PyData.bool)) ∧ Q (.int (bs.count k : Nat)) H
theorem countIn_bools (k : Bool) : ∀ bs : List Bool, countIn (.bool k) (bs.map PyData.bool) = ((bs.count k : Nat) : Int)
  | [] => rfl
  | b :: bs => by
    rw [List.map_cons, countIn, countIn_bools k bs, List.count_cons]
    simp only [same]
    by_cases h : b = k
    · simp [h]; omega
    · have : (b == k) = false := by simpa using h
      simp [this]
theorem mt_countB : MtR X "list.count" (rCountB X.K) := by
  intro pins s σ H x xs v us Q I rx rxs h
  obtain ⟨a, bs, k, rfl, rfl, hl, q⟩ := h
  cases rx
  obtain ⟨u, rfl, ru⟩ := rxs.one
  cases (show u = Value.bool k from ru)
  cases hl with
  | lst hs ha =>
    obtain ⟨its, rv, ⟨oo, nn, ho, hc, hdn, hd⟩, hlen⟩ := I.list hs
    have hli : s.heap.IsList a its.toArray := ⟨oo, ho, hc, nn, hd⟩
    obtain ⟨as, h4⟩ := Dp.readsAll I _ _ its ha rv
    refine count_list_bools (as := as) hli h4 (by rw [List.all_map, List.all_eq_true]; intro z _; rfl) ⟨.int (bs.count k : Nat), H, I.tok _, ⟨s.toks, ?_⟩, q⟩
    rw [countIn_bools]
theorem does_countB : DoesM Γ X Z gCountB (rCountB X.K) := fun w x v xs vs σ Q z S' G r rs h p => by
  unfold gCountB at h
  split at h
  · rename_i k
    split at h
    · rename_i ds e1
      obtain ⟨bs, hb, e⟩ := Option.map_eq_some_iff.mp h
      cases e
      obtain ⟨vy, rfl, ry⟩ := rws_one rs
      have dl := view_ok G r e1
      obtain ⟨a, rfl⟩ := dp_list_ref dl
      rw [boolsOf_eq hb] at dl
      cases (show Dp X.K w.im vy (.bool k) from ry)
      exact ⟨a, bs, k, rfl, rfl, dl, p.use G (Dp.int _)⟩
    · cases h
  · cases h
theorem bm_countB {o e : Expr} {fo : Fe W} {fe : Fe (List W)} {apos cpos : Pos} (ho : VE Γ X Z o fo) (ha : VA Γ X Z [e] fe)
    (hbase : attributeBase o "count" X.env (eval o X.env) = eval o X.env := by rfl)
    (hfew : ((backTo cpos (starEach [e] X.env)).all (fun x => !x.1) && (backToKw cpos (keywordEach [] X.env)).all (fun x => x.1.isSome)
      && decide ([e].length + ([] : List Keyword).length + (if ([] : List Keyword).isEmpty then 0 else 1) < 30)) = true := by rfl)
    (hline : (apos.endLine == cpos.line) = true := by rfl) (hs : starEach [e] X.env = (false, eval e X.env) :: starEach [] X.env := by rfl) (hplain : (backTo cpos (starEach [] X.env)).any (·.1) = false := by rfl) :
    VE Γ X Z (.Call (.Attribute o "count" apos) [e] [] cpos) (fMt gCountB fo fe) := ve_mt PySem.F.slot_list_count PySem.F.type_list_count mt_countB does_countB ho ha hbase hfew hline hs hplain
/-! ### isinstance(caught, (A, B, C, D)) -/
def rIsXT (K : PySem.W.Frag) : List V → Hp → VK → Prop := fun xs H Q => ∃ (a tp D : Addr) (Ds : List Addr) (b : Bool), xs = [.ref a, .ref tp] ∧ H a = some (CtO D none a) ∧ H tp = some (.tup (Ds.map V.ref)) ∧ ExcC K D ∧ PySem.W.kitAny K (.ref D) (Ds.map Value.ref) = some b ∧ Q (.bl b) H
theorem vals_refs : ∀ {Ds : List Addr} {us : List Value}, Vals (Ds.map V.ref) us → us = Ds.map Value.ref
  | [], _, .nil => rfl
  | D :: Ds, _, .cons r rs => by
    rw [List.map_cons, vals_refs rs]
    cases (show _ = Value.ref D from r)
    rfl
theorem call_isXT : CallR X (.builtin "isinstance") (rIsXT X.K) := by
  intro pins s σ H xs us Q I r h
  obtain ⟨a, tp, D, Ds, b, rfl, ht, hT, C, e, q⟩ := h
  obtain ⟨u1, u2, rfl, r1, r2⟩ := vals2 r
  cases (show u1 = .ref a from r1)
  cases (show u2 = .ref tp from r2)
  obtain ⟨⟨oe, vs, hget, h1, h2, hv⟩, _⟩ := I.hok a _ ht
  have J : PySem.W.InstAt s.heap a oe D none := by
    obtain ⟨oc, od, oda, osl⟩ := oe
    dsimp only at h1 h2 hv
    subst h1 h2 hv
    exact ⟨hget, rfl, rfl, trivial⟩
  obtain ⟨_, its, rv, o, k1, k2, n, k3⟩ := (show ObjOk X.prog X.w H s.heap tp (.tup (Ds.map V.ref)) from I.hok tp _ hT)
  rw [vals_refs rv] at k3
  obtain ⟨oc, od, dt, sl⟩ := o
  simp only at k2 k3
  subst k2 k3
  exact PySem.W.kia_tup (PySem.W.handS_kitx_exc C.hg C.hk C.hs C.hd C.ha C.hn C.ht C.hm) I.kIn J k1 e (fun z => nomatch z) fun tk => ⟨.bl b, H, I.kept (t' := tk) fun _ _ z => z, rfl, q⟩
/-- what isinstance answers of the own classes, by numbers, four classes being asked of -/
structure ExT (Γ : Gm) (K : PySem.W.Frag) (mg : Str → Option Value) (t1 t2 t3 t4 : Str) (kd : List (Nat × Bool)) : Prop where
  ex : ∃ D1 D2 D3 D4 : Addr, mg t1 = some (.ref D1) ∧ mg t2 = some (.ref D2) ∧ mg t3 = some (.ref D3) ∧ mg t4 = some (.ref D4) ∧ ∀ c b, kd.lookup c = some b → ExcC K (Γ.ca c) ∧ PySem.W.kitAny K (.ref (Γ.ca c)) [.ref D1, .ref D2, .ref D3, .ref D4] = some b
theorem ExT.dg {K : PySem.W.Frag} {mg : Str → Option Value} {t1 t2 t3 t4 : Str} {kd : List (Nat × Bool)} {w0 : Wd} (h : ExT Γ K mg t1 t2 t3 t4 kd) : ExT (dG Γ w0) K mg t1 t2 t3 t4 kd := by
  obtain ⟨D1, D2, D3, D4, m1, m2, m3, m4, e⟩ := h.ex
  exact ⟨⟨D1, D2, D3, D4, m1, m2, m3, m4, e⟩⟩
theorem ve_isT4 {a : Expr} {f : Fe W} {p q1 q2 q3 q4 tp : Pos} {kk} {t1 t2 t3 t4 : Str} {kd : List (Nat × Bool)} (hk : ExT Γ X.K X.mg t1 t2 t3 t4 kd) (hm : X.mg "isinstance" = none) (ha : VE Γ X Z a f) (hg : Gl X "isinstance" := by rfl)
    (g1 : Gl X t1 := by rfl) (g2 : Gl X t2 := by rfl) (g3 : Gl X t3 := by rfl) (g4 : Gl X t4 := by rfl) (d1 : (t1 == ("__debug__" : Str)) = false := by decide +kernel) (d2 : (t2 == ("__debug__" : Str)) = false := by decide +kernel) (d3 : (t3 == ("__debug__" : Str)) = false := by decide +kernel) (d4 : (t4 == ("__debug__" : Str)) = false := by decide +kernel)
    (hv : bootBuiltins "isinstance" = some (.builtin "isinstance") := by decide +kernel)
    (he : starEach [a, .Tuple [.Name t1 q1, .Name t2 q2, .Name t3 q3, .Name t4 q4] kk tp] X.env = (false, eval a X.env) :: starEach [.Tuple [.Name t1 q1, .Name t2 q2, .Name t3 q3, .Name t4 q4] kk tp] X.env := by rfl)
    (he2 : starEach [.Tuple [.Name t1 q1, .Name t2 q2, .Name t3 q3, .Name t4 q4] kk tp] X.env = (false, eval (.Tuple [.Name t1 q1, .Name t2 q2, .Name t3 q3, .Name t4 q4] kk tp) X.env) :: starEach [] X.env := by rfl)
    (s1 : starEach [.Name t1 q1, .Name t2 q2, .Name t3 q3, .Name t4 q4] X.env = (false, eval (.Name t1 q1) X.env) :: starEach [.Name t2 q2, .Name t3 q3, .Name t4 q4] X.env := by rfl) (s2 : starEach [.Name t2 q2, .Name t3 q3, .Name t4 q4] X.env = (false, eval (.Name t2 q2) X.env) :: starEach [.Name t3 q3, .Name t4 q4] X.env := by rfl)
    (s3 : starEach [.Name t3 q3, .Name t4 q4] X.env = (false, eval (.Name t3 q3) X.env) :: starEach [.Name t4 q4] X.env := by rfl) (s4 : starEach [.Name t4 q4] X.env = (false, eval (.Name t4 q4) X.env) :: starEach [] X.env := by rfl)
    (hpl : (backTo pos (starEach [.Tuple [.Name t1 q1, .Name t2 q2, .Name t3 q3, .Name t4 q4] kk tp] X.env)).any (·.1) = false := by rfl) :
    VE Γ X Z (.Call (.Name "isinstance" p) [a, .Tuple [.Name t1 q1, .Name t2 q2, .Name t3 q3, .Name t4 q4] kk tp] [] pos) (fIsX Γ.ca kd f) := by
  obtain ⟨D1, D2, D3, D4, m1, m2, m3, m4, hkd⟩ := hk.ex
  refine ⟨PE.mono (pe_callB call_isXT hg hm hv (pa_cons ha.pe (pa_cons (pe_tup (pa_cons (pe_glob (v := V.ref D1) g1 m1 rfl d1) (pa_cons (pe_glob (v := V.ref D2) g2 m2 rfl d2) (pa_cons (pe_glob (v := V.ref D3) g3 m3 rfl d3) (pa_cons (pe_glob (v := V.ref D4) g4 m4 rfl d4) pa_nil s4) s3) s2) s1)) pa_nil he2) he) (by decide) (by decide) he hpl) fun σ H Q q => liftR.imp (seq1 (R := RW X.K) q) fun v H1 ⟨x, w, e, G, r, p⟩ => ?_⟩
  subst e
  split at p
  · rename_i cls c
    split at p
    · rename_i hc
      subst hc
      split at p
      · rename_i b hb
        obtain ⟨a, d, rfl, h, h2⟩ := r
        have hd : d = none := by
          rcases h2 with h2 | h2
          · exact h2.2
          · exact absurd rfl h2.1
        subst hd
        obtain ⟨k1, k2⟩ := hkd c b hb
        have ha := (Wd.im_some h).1
        refine ⟨by show 4 ≤ sizeLine; rw [sizeLine_eq]; decide, fun pp hp => ?_⟩
        obtain ⟨G2, l2⟩ := G.new hp (.tup [V.ref D1, V.ref D2, V.ref D3, V.ref D4])
        refine ⟨a, pp, Γ.ca c, [D1, D2, D3, D4], b, rfl, ?_, upd_same, k1, k2, ?_⟩
        · rw [upd_ne (ne_of_none ha hp)]
          exact ha
        · exact p ⟨w.μ, w.S, upd w.H pp (.tup [V.ref D1, V.ref D2, V.ref D3, V.ref D4])⟩ _ rfl l2 G2 (Dp.bl _)
      · exact p.elim
    · exact p.elim
  · exact p.elim
end
end G
set_option Elab.async false
set_option linter.all false
set_option maxRecDepth 100000
set_option maxHeartbeats 4000000
/-! G55: sum(lists, []) -/
namespace PySem
open Sem (wp)
open PySem.Spec L2 PyProof.Rows
theorem g_args_sum2 (a b : Value) : argsOk "sum" ⟨[a, b], []⟩ := by unfold argsOk; kernel_rfl
theorem g_sub_list_str : isSubtype (.type "list") (.type "str") = pure false := by rw [isSubtype_type]; kernel_rfl
theorem g_sub_list_bytes : isSubtype (.type "list") (.type "bytes") = pure false := by rw [isSubtype_type]; kernel_rfl
theorem g_sub_list_bytearray : isSubtype (.type "list") (.type "bytearray") = pure false := by rw [isSubtype_type]; kernel_rfl
section
variable {prog : Program} {w : World} {A : Around} {R : Result → Shared → Prop} {I : Addr} {fp wr : List Addr} {St : Nat → Heap → Prop} {h0 : Heap}
theorem g_addP {E : Value → Shared → Prop} {s : Shared} {a b : Addr} {xs ys : List Value} {Q : Value → Shared → Prop} (ha : PlainL s.heap a xs.toArray) (hb : PlainL s.heap b ys.toArray) (hz : xs.length + ys.length ≤ sizeLine)
    (h : Q (.ref s.heap.objs.size) { s with heap := s.heap.push { cls := .type "list", data := .seq (xs ++ ys).toArray } }) : wpAny (model prog w) A (binaryOp .Add (.ref a) (.ref b)) Q E s := by
  obtain ⟨⟨cls, dd, data, sl⟩, n, e, hc, hd, hdt⟩ := ha
  obtain ⟨⟨cls2, dd2, data2, sl2⟩, n2, e2, hc2, hd2, hdt2⟩ := hb
  simp only at hc hd hdt hc2 hd2 hdt2
  subst hc hd hdt hc2 hd2 hdt2
  refine concat_meets ⟨_, e, rfl⟩ ⟨_, e2, rfl⟩ noFill_list_add seq_list_add PySem.F.slot_list_add PySem.F.entry_list_add (PySem.F.args_list_add_2 _ _) (list_addW a b xs.toArray ys.toArray n n2 none none sl sl2 (by simp; omega)) ⟨e, e2, ?_⟩
  have ea : xs.toArray ++ ys.toArray = (xs ++ ys).toArray := by simp
  rw [ea]
  exact h
/-- what is summed so far lies at acc -/
theorem g_sumL_loop (its : List (Addr × List Value)) (W : Walks prog w A.in1 I fp wr its.length (fun i v => ∃ p, its[i]? = some p ∧ v = .ref p.1) St) (S : Addr) (hSf : ∀ b ∈ fp, b < S) (h00 : ∀ b o, h0.get? b = some o → b ∉ wr ∧ b ≠ S)
    (hold : ∀ p ∈ its, PlainL h0 p.1 p.2.toArray) (hz : (its.flatMap (·.2)).length ≤ sizeLine) :
    ∀ (r d : List (Addr × List Value)) (s : Shared) (acc : Addr) (c : Nat), its = d ++ r → St d.length s.heap → s.heap.get? S = some { cls := .type "list", dict := none, data := .seq #[.ref acc] c, slots := #[] } →
    PlainL s.heap acc (d.flatMap (·.2)).toArray → acc ∉ wr → acc ≠ S → (∀ b o, h0.get? b = some o → s.heap.get? b = some o) → (r = [] → S < acc ∧ ∃ n, s.heap.get? acc = some { cls := .type "list", data := .seq (d.flatMap (·.2)).toArray n }) →
    (∀ acc' h' tk, (∃ n, h'.get? acc' = some { cls := .type "list", data := .seq (its.flatMap (·.2)).toArray n }) → S < acc' → (∀ b o, h0.get? b = some o → h'.get? b = some o) → R (.ok (.ret (.ref acc'))) { s with heap := h', toks := tk }) →
    codeAny (model prog w) A (.builtin "sum.loop" ⟨[.ref I, .ref S, rawInt 2, rawInt 0], []⟩) R s
  | [], d, s, acc, c, hd, hst, hS, ha, hw, hne, hk0, hlt, hR => by
    rw [List.append_nil] at hd
    subst hd
    refine codeAny_builtin F.entry_sum_loop ?_
    rw [Around.under_plainId F.plain_sum_loop _]
    show wpAny _ A.in1 (seqItems? (.ref S) >>= _) _ _ s
    refine wpAny_bind (wpAny_seqItems hS rfl ?_)
    show wpAny _ A.in1 (tryCatch (pyNext (.ref I)) _ >>= _) _ _ s
    refine wpAny_bind (wpAny_tryCatch (W.done s _ _ hst fun h' tk hk' => ?_))
    obtain ⟨h1, n, e⟩ := hlt rfl
    exact wpAny_pure (hR acc h' tk ⟨n, hk' _ _ hw e⟩ h1 fun b o e => hk' b o (h00 b o e).1 (hk0 b o e))
  | p :: r, d, s, acc, c, hd, hst, hS, ha, hw, hne, hk0, hlt, hR => by
    have hi : d.length < its.length := by rw [hd]; simp
    have hp : its[d.length]? = some p := by rw [hd, List.getElem?_append_right (Nat.le_refl _)]; simp
    have hpm : p ∈ its := List.mem_of_getElem? hp
    have hSw : S ∉ wr := fun h => Nat.lt_irrefl _ (hSf _ (W.sub _ h))
    refine codeAny_builtin F.entry_sum_loop ?_
    rw [Around.under_plainId F.plain_sum_loop _]
    show wpAny _ A.in1 (seqItems? (.ref S) >>= _) _ _ s
    refine wpAny_bind (wpAny_seqItems hS rfl ?_)
    show wpAny _ A.in1 (tryCatch (pyNext (.ref I)) _ >>= _) _ _ s
    refine wpAny_bind (wpAny_tryCatch (W.item d.length s _ _ hi hst fun v h' tk hP hst' hk' => ?_))
    obtain ⟨p', hp', rfl⟩ := hP
    cases hp.symm.trans hp'
    have hS' := hk' S _ hSw hS
    have ha' : PlainL h' acc (d.flatMap (·.2)).toArray := by
      obtain ⟨o, n, e, q⟩ := ha
      exact ⟨o, n, hk' _ _ hw e, q⟩
    have k1 : ∀ b o, h0.get? b = some o → h'.get? b = some o := fun b o e => hk' b o (h00 b o e).1 (hk0 b o e)
    have hb' : PlainL h' p.1 p.2.toArray := by
      obtain ⟨o, n, e, q⟩ := hold p hpm
      exact ⟨o, n, k1 _ _ e, q⟩
    have hl : (d.flatMap (·.2)).length + p.2.length ≤ sizeLine := by
      rw [hd, List.flatMap_append, List.flatMap_cons, List.length_append, List.length_append] at hz
      omega
    show wpAny _ A.in1 ((holding [Value.ref p.1] (binaryOp .Add (.ref acc) (.ref p.1))).attempt >>= _) _ _ _
    refine wpAny_bind (wpAny_attempt (wpAny_holding (g_addP ha' hb' hl ?_)))
    have hSl : S < h'.objs.size := Heap.lt_size hS'
    have nS : h'.objs.size ≠ S := Nat.ne_of_gt hSl
    have hS2 : (h'.push { cls := .type "list", data := .seq ((d.flatMap (·.2)) ++ p.2).toArray }).get? S = some { cls := .type "list", dict := none, data := .seq #[.ref acc] c, slots := #[] } := Heap.get?_push_of_some _ hS'
    show wpAny _ A.in1 (updateSeq S (fun _ => #[Value.ref h'.objs.size]) >>= _) _ _ _
    refine wpAny_bind ?_
    refine wpAny_updateSeq hS2 rfl ?_
    have hS3 := Heap.get?_update_self (Obj.mapSeq fun _ => #[Value.ref h'.objs.size]) hS2 rfl
    refine wpAny_bind (wpAny_letGo ?_)
    refine wpAny_bind ?_
    refine wpAny_updateSeq hS3 rfl (wpAny_pure ⟨plainId_quiet F.plain_sum_loop _, ?_⟩)
    have keep : ∀ b o, b ≠ S → h'.get? b = some o → (((h'.push { cls := .type "list", data := .seq ((d.flatMap (·.2)) ++ p.2).toArray }).update S (Obj.mapSeq fun _ => #[Value.ref h'.objs.size])).update S (Obj.mapSeq fun _ => #[Value.ref h'.objs.size])).get? b = some o := fun b o hb e =>
      (Heap.get?_update_other _ _ (Ne.symm hb)).trans ((Heap.get?_update_other _ _ (Ne.symm hb)).trans (Heap.get?_push_of_some _ e))
    have hfS : ∀ b ∈ fp, b ≠ S := fun b hb => Nat.ne_of_lt (hSf b hb)
    have nw : (((h'.push { cls := .type "list", data := .seq ((d.flatMap (·.2)) ++ p.2).toArray }).update S (Obj.mapSeq fun _ => #[Value.ref h'.objs.size])).update S (Obj.mapSeq fun _ => #[Value.ref h'.objs.size])).get? h'.objs.size = some { cls := .type "list", data := .seq ((d ++ [p]).flatMap (·.2)).toArray } := by
      rw [List.flatMap_append, List.flatMap_cons, List.flatMap_nil, List.append_nil]
      exact (Heap.get?_update_other _ _ (Ne.symm nS)).trans ((Heap.get?_update_other _ _ (Ne.symm nS)).trans (Heap.get?_push_size _ rfl))
    refine g_sumL_loop its W S hSf h00 hold hz r (d ++ [p]) _ h'.objs.size _ (by rw [hd]; simp) (by rw [List.length_append]; exact W.frame _ _ _ hst' fun b hb o e => keep b o (hfS b hb) e) (Heap.get?_update_self _ hS3 rfl) ?_ ?_ nS (fun b o e => keep b o (h00 b o e).2 (k1 b o e)) (fun _ => ⟨hSl, 0, nw⟩) fun acc'' h'' tk'' q1 q2 q3 => hR acc'' h'' tk'' q1 q2 q3
    · exact ⟨_, 0, nw, rfl, rfl, rfl⟩
    · exact fun h => Nat.lt_asymm (hSf _ (W.sub _ h)) hSl
theorem g_sum_lists {E : Value → Shared → Prop} {s : Shared} {l e : Addr} {its : List (Addr × List Value)} {Q : Value → Shared → Prop} (hh : A.handled = none) (hl : PlainL s.heap l (its.map fun p => Value.ref p.1).toArray) (he : PlainL s.heap e #[])
    (hold : ∀ p ∈ its, PlainL s.heap p.1 p.2.toArray) (hz : (its.flatMap (·.2)).length ≤ sizeLine) (h1 : its ≠ [])
    (h : ∀ acc h' tk, (∃ n, h'.get? acc = some { cls := .type "list", data := .seq (its.flatMap (·.2)).toArray n }) → s.heap.objs.size ≤ acc → (∀ b o, s.heap.get? b = some o → h'.get? b = some o) → Q (.ref acc) { s with heap := h', toks := tk }) :
    wpAny (model prog w) A (call (.builtin "sum") [.ref l, .ref e]) Q E s := by
  have hli : s.heap.IsList l (its.map fun p => Value.ref p.1).toArray := by
    obtain ⟨o, n, q1, q2, q3, q4⟩ := hl
    exact ⟨o, q1, q2, n, q4⟩
  have hlt : l < s.heap.objs.size := by obtain ⟨_, q, _⟩ := hli; exact Heap.lt_size q
  have tE : ∀ g t, Shared.TypeIs { s with heap := s.heap.push g, toks := t } (.ref e) "list" := fun g t => by
    obtain ⟨o, n, q1, q2, q3, q4⟩ := he
    exact ⟨_, Heap.get?_push_of_some _ q1, q2⟩
  refine call_function_tree F.kind_sum F.plain_sum F.entry_sum (g_args_sum2 _ _) ?_
  unfold Builtin.«sum»
  simp only [List.length_cons, List.length_nil]
  rw [if_neg (by decide)]
  refine wpAny_bind (wpAny_of_eq (show Builtin.Builtins.bindParams "sum" ["start"] 0 ⟨[Value.ref e], []⟩ = pure [some (.ref e)] from rfl) ?_)
  refine wpAny_bind (wpAny_pyIter_list hli ?_)
  refine wpAny_bind (wpAny_pure ?_)
  simp only [List.forIn_cons, List.forIn_nil]
  refine wpAny_bind (wpAny_bind (wpAny_bind (wpAny_isInstance (T := "list") (b := false) (tE _ _) g_sub_list_str ?_)))
  simp only [Bool.false_eq_true, if_false]
  refine wpAny_pure (wpAny_bind (wpAny_bind (wpAny_isInstance (T := "list") (b := false) (tE _ _) g_sub_list_bytes ?_)))
  simp only [Bool.false_eq_true, if_false]
  refine wpAny_pure (wpAny_bind (wpAny_bind (wpAny_isInstance (T := "list") (b := false) (tE _ _) g_sub_list_bytearray ?_)))
  simp only [Bool.false_eq_true, if_false]
  refine wpAny_pure (wpAny_pure ?_)
  refine wpAny_bind (wpAny_newObj_type ?_)
  have W0 := Walks.list (prog := prog) (w := w) (A := A.in1) hh s.heap.objs.size l (Nat.ne_of_lt hlt) (its.map fun p => Value.ref p.1).toArray
  have hn : (its.map fun p => Value.ref p.1).toArray.size = its.length := by simp
  rw [hn] at W0
  have W : Walks prog w A.in1 s.heap.objs.size [s.heap.objs.size, l] [s.heap.objs.size] its.length (fun i v => ∃ p, its[i]? = some p ∧ v = .ref p.1) (fun i h => h.IsListIter s.heap.objs.size l i ∧ h.IsList l (its.map fun p => Value.ref p.1).toArray) :=
    ⟨W0.sub, W0.frame, fun i s Q E hi st hQ => W0.item i s Q E hi st fun v h' tk hP => hQ v h' tk (by
      rw [List.getElem?_toArray, List.getElem?_map] at hP
      obtain ⟨p, q1, q2⟩ := Option.map_eq_some_iff.mp hP
      exact ⟨p, q1, q2.symm⟩), W0.done, W0.self⟩
  have hsz : (s.heap.push { cls := .type "list_iterator", data := .fields #[.ref l, .int 0 0] }).objs.size = s.heap.objs.size + 1 := Heap.size_push _ _
  have old : ∀ b o, s.heap.get? b = some o → b < s.heap.objs.size := fun b o q => Heap.lt_size q
  obtain ⟨oe, ne, e1, e2, e3, e4⟩ := he
  have elt := old _ _ e1
  refine wpAny_pure ⟨plainId_quiet F.plain_sum_loop _, g_sumL_loop (h0 := s.heap) its W _ (fun b hb => ?_) (fun b o q => ⟨?_, ?_⟩) hold hz its [] _ e 0 rfl ?_ (Heap.get?_push_size _ rfl) ⟨oe, ne, Heap.get?_push_of_some _ (Heap.get?_push_of_some _ e1), e2, e3, e4⟩ ?_ ?_ (fun b o q => Heap.get?_push_of_some _ (Heap.get?_push_of_some _ q)) (fun z => absurd z h1) fun acc h' tk q1 q2 q3 => h acc h' tk q1 ?_ q3⟩
  · rw [hsz]
    simp only [List.mem_cons, List.not_mem_nil, or_false] at hb
    rcases hb with hb | hb
    · rw [hb]; exact Nat.lt_succ_self _
    · rw [hb]; exact Nat.lt_succ_of_lt hlt
  · exact fun z => Nat.ne_of_lt (old b o q) (List.mem_singleton.mp z)
  · rw [hsz]; exact Nat.ne_of_lt (Nat.lt_succ_of_lt (old b o q))
  · exact ⟨⟨_, Heap.get?_push_of_some _ (Heap.get?_push_size _ rfl), rfl, rfl⟩, (hli.push _).push _⟩
  · exact fun z => Nat.ne_of_lt elt (List.mem_singleton.mp z)
  · rw [hsz]; exact Nat.ne_of_lt (Nat.lt_succ_of_lt elt)
  · rw [hsz] at q2; exact Nat.le_of_lt (Nat.lt_of_succ_lt q2)
end
end PySem
namespace G
open PySem PySem.Spec L2 PyProof.Rows
set_option autoImplicit false
section
variable {Γ : Gm} {X : Cx} {Z : WX} {pos : Pos}
def rSumL (K : PySem.W.Frag) : List V → Hp → VK → Prop := fun vs H Q => ∃ (l e : Addr) (ls : List (Addr × List V)), vs = [V.ref l, V.ref e] ∧ SqL K H l (ls.map fun p => V.ref p.1) ∧ SqL K H e [] ∧ (∀ p ∈ ls, SqL K H p.1 p.2) ∧ ls ≠ [] ∧ (ls.flatMap (·.2)).length ≤ sizeLine ∧
  ∀ p, H p = none → Q (.ref p) (upd H p (.lst (ls.flatMap (·.2))))
theorem lists_of {pins : List (Addr × Obj)} {s : Shared} {σ : L2.St} {H : Hp} (I : Inv X pins σ H s) : ∀ {ls : List (Addr × List V)}, (∀ p ∈ ls, SqL X.K H p.1 p.2) →
    ∃ its : List (Addr × List Value), its.map (·.1) = ls.map (·.1) ∧ (∀ p ∈ its, PlainL s.heap p.1 p.2.toArray) ∧ Vals (ls.flatMap (·.2)) (its.flatMap (·.2))
  | [], _ => ⟨[], rfl, fun _ h => (by cases h), .nil⟩
  | p :: ls, h => by
    obtain ⟨its, e1, e2, e3⟩ := lists_of I (ls := ls) fun q hq => h q (by simp [hq])
    obtain ⟨it, rv, hl, _⟩ := I.list (h p (by simp))
    refine ⟨(p.1, it) :: its, by rw [List.map_cons, List.map_cons, e1], fun q hq => ?_, by rw [List.flatMap_cons, List.flatMap_cons]; exact rv.append e3⟩
    rcases List.mem_cons.mp hq with rfl | hq
    · exact hl
    · exact e2 q hq
theorem call_sumLs (hc : X.calm = true) : CallR X (.builtin "sum") (rSumL X.K) := by
  intro pins s σ H vs us Q I r h
  obtain ⟨l, e, ls, rfl, hl, he, hs, h1, hz, q⟩ := h
  obtain ⟨u1, u2, rfl, r1, r2⟩ := vals2 r
  cases (show u1 = .ref l from r1)
  cases (show u2 = .ref e from r2)
  obtain ⟨its, e1, e2, e3⟩ := lists_of I hs
  obtain ⟨il, rl, pl, _⟩ := I.list hl
  obtain ⟨ie, re, pe, _⟩ := I.list he
  cases re
  have eil : il = its.map fun p => Value.ref p.1 := by
    have := vals_refs (Ds := ls.map (·.1)) (us := il) (by rw [List.map_map]; exact rl)
    rw [this, ← e1, List.map_map]
    rfl
  rw [eil] at pl
  have lz := e3.length
  refine PySem.g_sum_lists (I.ok.hd hc) pl pe e2 (by omega) (fun z => h1 (by rw [z] at e1; simpa using e1.symm)) fun acc h' tk ⟨n, ha⟩ hn hk => ?_
  have hf : H acc = none := I.hok.fresh hn
  exact ⟨.ref acc, upd H acc (.lst (ls.flatMap (·.2))), I.laid (t' := tk) hk hn ⟨hz, its.flatMap (·.2), n, e3, ha⟩, rfl, q acc hf⟩
/-! ### sum(lists, []) -/
def lstsOf : List W → Sto → Option (List (List W))
  | [], _ => some []
  | x :: xs, S => match lstOf x S, lstsOf xs S with
    | some ws, some r => some (ws :: r)
    | _, _ => none
def gSumL : OpN := fun xs S => match xs with
  | [x, y] => match lstOf x S, lstOf y S with
    | some ws, some [] => match lstsOf ws S with
      | some (r :: rs) => if szOk (r :: rs).flatten.length = true then some (.o S.length, S ++ [.lst (r :: rs).flatten]) else none
      | _ => none
    | _, _ => none
  | _ => none
theorem lstsOf_ok {w : Wd} (G : Good Γ X.K w) : ∀ {vs : List V} {ws : List W} {rs : List (List W)}, RWs X.K w vs ws → lstsOf ws w.S = some rs →
    ∃ ls : List (Addr × List V), vs = ls.map (fun p => V.ref p.1) ∧ (∀ p ∈ ls, SqL X.K w.H p.1 p.2) ∧ RWs X.K w (ls.flatMap (·.2)) rs.flatten ∧ ls.length = rs.length
  | _, [], rs, r, h => by
    cases r
    cases h
    exact ⟨[], rfl, fun _ h => (by cases h), .nil, rfl⟩
  | _, x :: xs, rs, r, h => by
    unfold lstsOf at h
    split at h
    · rename_i us r' e1 e2
      cases h
      cases r with
      | cons rx rr =>
        obtain ⟨a, vs', rfl, h1, h2⟩ := lstOf_ok G rx e1
        obtain ⟨ls, rfl, h3, h4, h5⟩ := lstsOf_ok G rr e2
        refine ⟨(a, vs') :: ls, rfl, fun p hp => ?_, by rw [List.flatMap_cons, List.flatten_cons]; exact Paired.app h2 h4, by simp [h5]⟩
        rcases List.mem_cons.mp hp with rfl | hp
        · exact h1
        · exact h3 p hp
    · cases h
theorem does_sumL : DoesN Γ X Z gSumL (rSumL X.K) := fun w xs vs σ Q z S' G r h p => by
  unfold gSumL at h
  split at h
  · rename_i x y
    split at h
    · rename_i ws e1 e2
      split at h
      · rename_i r0 rs e3
        split at h
        · rename_i hz
          cases h
          obtain ⟨vx, vy, rfl, rx, ry⟩ := rws_two r
          obtain ⟨l, us, rfl, h1, h2⟩ := lstOf_ok G rx e1
          obtain ⟨e, ue, rfl, h3, h4⟩ := lstOf_ok G ry e2
          cases h4
          obtain ⟨ls, rfl, h5, h6, h7⟩ := lstsOf_ok G h2 e3
          have hne : ls ≠ [] := fun z => (by subst z; cases h7)
          refine ⟨l, e, ls, rfl, h1, h3, h5, hne, by rw [Paired.len h6]; exact Nat.le_of_lt (sz_line hz), Post.lst p G h6⟩
        · cases h
      · cases h
    · cases h
  · cases h
theorem bc_sumL {a b : Expr} {fa : Fe (List W)} (hm : X.mg "sum" = none) (ha : VA Γ X Z [a, b] fa) {p : Pos} (hc : X.calm = true := by rfl) (hg : Gl X "sum" := by rfl) (he : starEach [a, b] X.env = (false, eval a X.env) :: starEach [b] X.env := by rfl) (hpl : (backTo pos (starEach [b] X.env)).any (·.1) = false := by rfl) : VE Γ X Z (.Call (.Name "sum" p) [a, b] [] pos) (fCB (gSumL) fa) := ve_callB (x := "sum") (call_sumLs hc) does_sumL hg hm (by decide +kernel) ha (by decide +kernel) (by decide +kernel) he hpl
/-- the body of a lambda -/
theorem lam_body {e : Expr} {f : Fe W} (h : Takes X Z → Rm X → VE Γ X Z e f) (t : Takes X Z) (r : Rm X) : VE Γ X Z e f := h t r
end
end G
set_option Elab.async false
set_option linter.all false
set_option maxRecDepth 100000
set_option maxHeartbeats 4000000
/-! G56: a part of a dict by tuples of numbers as a target among others -/
namespace G
open PySem PySem.Spec L2 PyProof.Rows
set_option autoImplicit false
section
variable {Γ : Gm} {X : Cx} {Z : WX} {pos : Pos}
def rSetX (K : PySem.W.Frag) : TSet := fun o i v H Q => ∃ (a b : Addr) (xs : XL) (ks : List Int), o = .ref a ∧ i = .ref b ∧ H a = some (.ext (dxP a xs)) ∧ KIn K H xs ∧ SqT K H b (ks.map V.int) ∧ xs.length ≤ 1000000 ∧ ∀ u, RelV v u → Q (upd H a (.ext (dxP a (storedH xs ks b u))))
theorem set_X (hu : Rm X) : PSet X (rSetX X.K) := by
  intro pins s σ H o i v ov iv u Q I ro ri rv h
  obtain ⟨a, b, xs, ks, rfl, rfl, hd, hk, hb, hl, q⟩ := h
  obtain rfl : ov = Value.ref a := ro
  obtain rfl : iv = Value.ref b := ri
  refine wpAny_setItem_heap (hsz := by rw [sizeLine_eq]; omega) (tupleKind_room_in1 (by unfold Rm at hu; omega)) (is_key I hb) (dx_of I (.inl hd) hk) fun h' hm' sb => ?_
  have hx := dxP_of hm'
  obtain ⟨o', _, _, e', _⟩ := id hx
  exact ⟨_, I.write (x := a) (e := a) (t' := _) (h' := h') (by rw [hd]; trivial) (.inl rfl) (fun c u hc e => (sb.2 c hc).trans e) ⟨o', e'⟩ (dxP_obj hx), q u rv⟩
def tgX (fo fi : Fe W) : Tg := fun z ρ S => (fo ρ S).fl ρ fun x S2 => (fi ρ S2).fl ρ fun y S3 => match putXk x y z S3 with
  | some S4 => .nx ρ S4
  | none => .bad
theorem vtg_X {o i : Expr} {fo fi : Fe W} {p' : Pos} (hu : Rm X) (ho : VE Γ X Z o fo) (hi : VE Γ X Z i fi)
    (ha : ∀ v, assign (.Subscript o i p') X.env v = (do
      let ov ← holding [v] (eval o X.env)
      let iv ← holding [v, ov] (eval i X.env)
      standAt p'
      holding [v, ov, iv] (setItem ov iv v)
      release [v, ov, iv] []) := by intro _; rfl) : VTg Γ X Z (.Subscript o i p') (tgX fo fi) := by
  refine ⟨PG.mono (pg_sub ho.pe hi.pe (set_X hu) ha) ?_⟩
  rintro v σ H Q ⟨w1, ρ1, z, rfl, G1, s1, rz, p1⟩
  refine ⟨w1, ρ1, rfl, G1, s1, (flpost (R := RW X.K) p1 s1).imp ?_⟩
  rintro o' H2 ⟨x, w2, rfl, G2, l2, rx, p2⟩
  refine ⟨w2, ρ1, rfl, G2, s1.mono l2, (flpost (R := RW X.K) p2 (s1.mono l2)).imp ?_⟩
  rintro i' H3 ⟨y, w3, rfl, G3, l3, ry, p3⟩
  cases e4 : putXk x y z w3.S with
  | none => rw [e4] at p3; exact p3.elim
  | some S4 =>
    rw [e4] at p3
    unfold putXk at e4
    split at e4
    · rename_i n d
      split at e4
      · rename_i ks kvs ek ew
        split at e4
        · rename_i hz
          cases e4
          obtain ⟨a, ha, rfl⟩ := RW.mono l3 rx
          obtain ⟨xs, hv, hsm, hln, rv⟩ := G3.cell n a _ ha ew
          obtain ⟨b, rfl, hb⟩ := keyI_v ek ry
          have rz3 := RW.mono (l2.trans l3) rz
          have hl : xs.length = kvs.length := Paired.len rv
          refine ⟨a, b, xs, ks, rfl, rfl, hv, XE.kin rv, SqT.mono (im_sub w3) hb, by omega, fun u ru => ?_⟩
          have hst := storedH_len xs ks b u
          obtain ⟨G5, l5⟩ := G3.write (c' := .dix (putD kvs ks z)) ha ew rfl (.ext (dxP a (storedH xs ks b u))) (fun w1 l e => ⟨_, e, hsm, by omega, Paired.imp (fun _ _ q => XE.mono l q) (xe_put rv hb ru rz3)⟩) rfl
          exact PostS.nx_use (w := ⟨w3.μ, w3.S.set n (.dix (putD kvs ks z)), upd w3.H a (.ext (dxP a (storedH xs ks b u)))⟩) (D := tgE Q) (PostS.mono l5 p3) G5 ((s1.mono (l2.trans l3)).mono l5)
        · cases e4
      · cases e4
    · cases e4
end
end G
set_option Elab.async false
set_option linter.all false
set_option maxRecDepth 100000
set_option maxHeartbeats 4000000
namespace G
open PySem PySem.Spec L2 PyProof.Rows
set_option autoImplicit false
noncomputable def B_is_whole : Fs := (fRet (fAndE (fIsi .it (fVar 0)) (fNotE (fIsi .bl (fVar 0)))))
noncomputable def R_is_whole : Fn := runB 1 B_is_whole
noncomputable def B_own_lots : Fs := (fSeq (fSet 1 (fListR (fCB gLen (fCons (fOp2 gIx (fVar 0) (fC (.d (.int 0)))) fNil))))
  (fSeq (fFor (fIt (fOp2 gIx (fVar 0) (fC (.d (.int 1))))) (gTp 2 (gsCons (gNm 2) (gsCons (gNm 3) gsNil))) (fSeq (fAsg (gTp 2 (gsCons (gNm 4) (gsCons (gNm 5) gsNil))) (fCB gSort (fCons (fLst (fCons (fOp2 gIx (fVar 1) (fOp2 gIx (fVar 2) (fC (.d (.int 0))))) (fCons (fOp2 gIx (fVar 1) (fOp2 gIx (fVar 3) (fC (.d (.int 0))))) fNil))) fNil)))
  (fSet 1 (fLc (fIt (fVar 1)) (gNm 6) fYes (fIfE (fTru (fOp2 (dEq false) (fVar 6) (fVar 5))) (fVar 4) (fVar 6)) [6]))))
  (fSeq (fSet 7 (fLst fNil))
  (fSeq (fFor (fIt (fSortSet (fCons (fVar 1) fNil))) (gNm 4) (fExp (fMt gApp (fVar 7) (fCons (fCB gTuple (fCons (fLc (fEn (fCons (fVar 1) fNil)) (gTp 2 (gsCons (gNm 8) (gsCons (gNm 6) gsNil))) (fTru (fOp2 (dEq false) (fVar 6) (fVar 4))) (fVar 8) [8, 6]) fNil)) fNil))))
  (fRet (fCB gTuple (fCons (fVar 7) fNil)))))))
noncomputable def R_own_lots : Fn := runB 9 B_own_lots
noncomputable def B_touches_at : Fs := (fSeq (fSet 1 fNewX)
  (fSeq (fFor (fEn (fCons (fOp2 gIx (fVar 0) (fC (.d (.int 1)))) fNil)) (gTp 2 (gsCons (gNm 2) (gsCons (gNm 3) gsNil))) (fFor (fIt (fVar 3)) (gNm 4) (fPutX (fVar 1) (fVar 4) (fVar 2))))
  (fRet (fVar 1))))
noncomputable def R_touches_at : Fn := runB 5 B_touches_at
noncomputable def B_met_from : Fs := (fSeq (fAsg (gTp 2 (gsCons (gNm 4) (gsCons (gNm 5) gsNil))) (fVar 2))
  (fSeq (fSet 6 (fOp2 gIx (fOp2 gIx (fVar 0) (fC (.d (.int 0)))) (fVar 4)))
  (fSeq (fFor (fR2 (fCons (fC (.d (.int 1))) (fCons (fOp2 gAdd (fVar 6) (fC (.d (.int 1)))) fNil))) (gNm 7) (fSeq (fSet 8 (fTup (fCons (fVar 4) (fCons (fOp2 gMod (fOp2 gAdd (fVar 5) (fOp2 gMulT (fVar 3) (fVar 7))) (fVar 6)) fNil))))
  (fIf (fTru (fOp2 (gInX false) (fVar 8) (fVar 1))) (fRet (fTup (fCons (fOp2 gXget (fVar 1) (fVar 8)) (fCons (fVar 7) fNil)))) fSkip)))
  (fRaise 1))))
noncomputable def R_met_from : Fn := runB 9 B_met_from
noncomputable def B__law_begun : Fs := (fSeq (fSet 1 (fOp2 gAdd (fC (.d (.int 15485863))) (fOp2 gMulT (fC (.d (.int 37))) (fCB gLen (fCons (fVar 0) fNil)))))
  (fSeq (fFor (fEn (fCons (fVar 0) fNil)) (gTp 2 (gsCons (gNm 2) (gsCons (gNm 3) gsNil))) (fSet 1 (fOp2 gMod (fOp2 gAdd (fOp2 gAdd (fOp2 gMulT (fVar 1) (fC (.d (.int 998244353)))) (fVar 3)) (fOp2 gMulT (fC (.d (.int 104723))) (fVar 2))) (fC (.d (.int 2305843009213693951))))))
  (fRet (fDisp [((fC (.d (.str "run"))), (fVar 1)), ((fC (.d (.str "great"))), (fLc (fIt (fVar 0)) (gNm 3) (fTru (fOp2 cGe (fVar 3) (fOp2 gPow (fC (.d (.int 10))) (fC (.d (.int 18)))))) (fVar 3) [3])), ((fC (.d (.str "turn"))), (fC (.d (.int 0))))]))))
noncomputable def R__law_begun : Fn := runB 4 B__law_begun
noncomputable def B__law_next : Fs := (fSeq (fPar2T (fCons (fOp2 gAdd (fOp2 gDget (fVar 0) (fC (.d (.str "turn")))) (fC (.d (.int 1)))) (fCons (fOp2 gDget (fVar 0) (fC (.d (.str "great")))) fNil)) (tgD (fVar 0) (fC (.d (.str "turn")))) (tgN 2))
  (fSeq (fSet 3 (fOp2 gMod (fOp2 gDget (fVar 0) (fC (.d (.str "turn")))) (fCB (gMM PySem.W.maxD 2) (fCons (fC (.d (.int 1))) (fCons (fCB gLen (fCons (fVar 2) fNil)) fNil)))))
  (fSeq (fIf (fAnd (fTru (fOp2 (dEq true) (fVar 2) (fLst fNil))) (fTru (fOp2 cGt (fOp2 gIx (fVar 2) (fVar 3)) (fC (.d (.int 0)))))) (fSeq (fSet 4 (fOp2 gMod (fOp2 gIx (fVar 2) (fVar 3)) (fVar 1)))
  (fSeq (fPutL (fVar 2) (fVar 3) (fOp2 gDiv (fOp2 gIx (fVar 2) (fVar 3)) (fVar 1)))
  (fRet (fVar 4)))) fSkip)
  (fSeq (fSet 5 (fOp2 gAdd (fOp2 gAdd (fOp2 gMulT (fOp2 gDget (fVar 0) (fC (.d (.str "run")))) (fC (.d (.int 6364136223846793)))) (fOp2 gMulT (fC (.d (.int 1442695040888963))) (fOp2 gDget (fVar 0) (fC (.d (.str "turn")))))) (fC (.d (.int 11)))))
  (fSeq (fPutD (fVar 0) (fC (.d (.str "run"))) (fOp2 gMod (fVar 5) (fC (.d (.int 2305843009213693951)))))
  (fRet (fOp2 gMod (fOp2 gDiv (fOp2 gDget (fVar 0) (fC (.d (.str "run")))) (fC (.d (.int 32749)))) (fVar 1))))))))
noncomputable def R__law_next : Fn := runB 6 B__law_next
noncomputable def B__law_places : Fs := (fSeq (fSet 1 (fLst fNil))
  (fSeq (fFor (fEn (fCons (fVar 0) fNil)) (gTp 2 (gsCons (gNm 2) (gsCons (gNm 3) gsNil))) (fExp (fMt gExt (fVar 1) (fCons (fLc (fR1 (fCons (fVar 3) fNil)) (gNm 4) fYes (fTup (fCons (fVar 2) (fCons (fVar 4) fNil))) [4]) fNil))))
  (fRet (fVar 1))))
noncomputable def R__law_places : Fn := runB 5 B__law_places
noncomputable def B__law_said (ca : Nat → Addr) (f : Addr) (g : Sto → Out W) : Fs := (fSeq (fAsg (gTp 2 (gsCons (gNm 1) (gsCons (gNm 2) gsNil))) (fTup (fCons (fC (.d .none)) (fCons (fC (.d .none)) fNil))))
  (fSeq (fTryD ca [0, 1] f g 2 1)
  (fSeq (fIf (fTru (fOp2 (gIsN false) (fVar 1) (fC (.d .none)))) (fRet (fLst (fCons (fVar 2) fNil))) fSkip)
  (fSeq (fSet 4 (fLst (fCons (fIsX ca [(0, false), (1, false)] (fVar 1)) (fCons (fIsX ca [(0, false), (1, false)] (fVar 1)) (fCons (fIsX ca [(0, false), (1, false)] (fVar 1)) (fCons (fIsX ca [(0, false), (1, false)] (fVar 1)) fNil))))))
  (fSeq (fSet 4 (fOp2 gAdd (fVar 4) (fLst (fCons (fIsX ca [(0, true), (1, false)] (fVar 1)) (fCons (fIsX ca [(0, false), (1, true)] (fVar 1)) fNil)))))
  (fSeq (fSet 5 (fIsX ca [(0, false), (1, false)] (fVar 1)))
  (fSeq (fSet 6 (fLst (fCons (fIsX ca [(0, true), (1, false)] (fVar 1)) (fCons (fIsX ca [(0, false), (1, true)] (fVar 1)) fNil))))
  (fSeq (fIf (fOr (fTru (fOp2 (dEq true) (fMt gCountB (fVar 4) (fCons (fC (.d (.bool true))) fNil)) (fC (.d (.int 1))))) (fOr (fTru (fVar 5)) (fTru (fOp2 (dEq true) (fVar 6) (fLst (fCons (fNotE (fOp2 gIx (fVar 4) (fC (.d (.int 5))))) (fCons (fOp2 gIx (fVar 4) (fC (.d (.int 5)))) fNil))))))) (fRet (fTup (fCons (fC (.d (.str "other"))) fNil))) fSkip)
  (fSeq (fIf (fOr (fTru (fOp2 gIx (fVar 4) (fC (.d (.int 4))))) (fTru (fOp2 gIx (fVar 4) (fC (.d (.int 5)))))) (fRet (fIfE (fTru (fOp2 gIx (fVar 4) (fC (.d (.int 4))))) (fTup (fCons (fC (.d (.str "place"))) fNil)) (fTup (fCons (fC (.d (.str "touch"))) fNil)))) fSkip)
  fBad)))))))))
noncomputable def R__law_said (ca : Nat → Addr) (f : Addr) (g : Sto → Out W) : Fn := runB 7 (B__law_said ca f g)
noncomputable def B__law_joined : Fs := (fSeq (fSet 1 (fLc (fR1 (fCons (fCB gLen (fCons (fOp2 gIx (fVar 0) (fC (.d (.int 0)))) fNil)) fNil)) (gNm 2) fYes (fLst (fCons (fVar 2) fNil)) [2]))
  (fSeq (fFor (fIt (fOp2 gIx (fVar 0) (fC (.d (.int 1))))) (gTp 2 (gsCons (gNm 3) (gsCons (gNm 4) gsNil))) (fSeq (fSet 5 (fLc (fIt (fVar 1)) (gNm 6) (fOr (fTru (fOp2 (gIn false) (fOp2 gIx (fVar 3) (fC (.d (.int 0)))) (fVar 6))) (fTru (fOp2 (gIn false) (fOp2 gIx (fVar 4) (fC (.d (.int 0)))) (fVar 6)))) (fVar 6) [6]))
  (fSet 1 (fOp2 gAdd (fLc (fIt (fVar 1)) (gNm 6) (fTru (fOp2 (gIn true) (fVar 6) (fVar 5))) (fVar 6) [6]) (fLst (fCons (fCB gSort (fCons (fCB gSumL (fCons (fVar 5) (fCons (fLst fNil) fNil))) fNil)) fNil))))))
  (fRet (fCB gTuple (fCons (fCB gSort (fCons (fLc (fIt (fVar 1)) (gNm 6) fYes (fCB gTuple (fCons (fVar 6) fNil)) [6]) fNil)) fNil)))))
noncomputable def R__law_joined : Fn := runB 7 B__law_joined
noncomputable def B__law_numbers : Fs := (fSeq (fSet 1 fNewX)
  (fSeq (fFor (fEn (fCons (fOp2 gIx (fVar 0) (fC (.d (.int 1)))) fNil)) (gTp 2 (gsCons (gNm 2) (gsCons (gNm 3) gsNil))) (fPar2T (fCons (fVar 2) (fCons (fVar 2) fNil)) (tgX (fVar 1) (fOp2 gIx (fVar 3) (fC (.d (.int 0))))) (tgX (fVar 1) (fOp2 gIx (fVar 3) (fC (.d (.int 1)))))))
  (fRet (fVar 1))))
noncomputable def R__law_numbers : Fn := runB 4 B__law_numbers
noncomputable def B__law_rolled : Fs := (fSeq (fPar 3 4 (fCons (fVar 2) (fCons (fC (.d (.int 0))) fNil)))
  (fSeq (fWh (fOr (fTru (fOp2 (dEq false) (fVar 4) (fC (.d (.int 0))))) (fTru (fOp2 (gInX true) (fVar 3) (fVar 1)))) (fPar 3 4 (fCons (fTup (fCons (fOp2 gIx (fVar 3) (fC (.d (.int 0)))) (fCons (fIfE (fTru (fOp2 cGt (fOp2 gIx (fVar 3) (fC (.d (.int 1)))) (fC (.d (.int 0))))) (fOp2 gSub (fOp2 gIx (fVar 3) (fC (.d (.int 1)))) (fC (.d (.int 1)))) (fOp2 gSub (fOp2 gIx (fOp2 gIx (fVar 0) (fC (.d (.int 0)))) (fOp2 gIx (fVar 3) (fC (.d (.int 0))))) (fC (.d (.int 1))))) fNil))) (fCons (fOp2 gAdd (fVar 4) (fC (.d (.int 1)))) fNil))))
  (fRet (fTup (fCons (fOp2 gXget (fVar 1) (fVar 2)) (fCons (fVar 2) (fCons (fOp2 gXget (fVar 1) (fVar 3)) (fCons (fVar 4) fNil))))))))
noncomputable def R__law_rolled : Fn := runB 5 B__law_rolled
noncomputable def B_are_counts : Fs := (fSeq (fIf (fOr (fNot (fTru (fIsi .tp (fVar 0)))) (fNot (fTru (fChain cLe cLe (fC (.d (.int 1))) (fCB gLen (fCons (fVar 0) fNil)) (fC (.d (.int 16))))))) (fRet (fC (.d (.bool false)))) fSkip)
  (fRet (fAndE (fCB (gAll fun bs => bs.all id) (fCons (fLc (fIt (fVar 0)) (gNm 1) fYes (fAndE (fCall 1 [] R_is_whole (fCons (fVar 1) fNil)) (fOp2 cGt (fVar 1) (fC (.d (.int 0))))) [1]) fNil)) (fOp2 cLe (fCB gSum (fCons (fVar 0) fNil)) (fC (.d (.int 30)))))))
noncomputable def R_are_counts : Fn := runB 2 B_are_counts
noncomputable def B_is_spot : Fs := (fSeq (fIf (fOr (fNot (fTru (fIsi .tp (fVar 1)))) (fOr (fTru (fOp2 (dEq true) (fCB gLen (fCons (fVar 1) fNil)) (fC (.d (.int 2))))) (fOr (fNot (fTru (fCall 1 [] R_is_whole (fCons (fOp2 gIx (fVar 1) (fC (.d (.int 0)))) fNil)))) (fNot (fTru (fCall 1 [] R_is_whole (fCons (fOp2 gIx (fVar 1) (fC (.d (.int 1)))) fNil))))))) (fRet (fC (.d (.bool false)))) fSkip)
  (fRet (fAndE (fChain cLe cLt (fC (.d (.int 0))) (fOp2 gIx (fVar 1) (fC (.d (.int 0)))) (fCB gLen (fCons (fVar 0) fNil))) (fChain cLe cLt (fC (.d (.int 0))) (fOp2 gIx (fVar 1) (fC (.d (.int 1)))) (fOp2 gIx (fVar 0) (fOp2 gIx (fVar 1) (fC (.d (.int 0)))))))))
noncomputable def R_is_spot : Fn := runB 2 B_is_spot
noncomputable def B_need_wheel : Fs := (fIf (fOr (fNot (fTru (fCall 1 [] R_is_whole (fCons (fVar 1) fNil)))) (fNot (fTru (fChain cLe cLt (fC (.d (.int 0))) (fVar 1) (fCB gLen (fCons (fOp2 gIx (fVar 0) (fC (.d (.int 0)))) fNil)))))) (fRaise 0) fSkip)
noncomputable def R_need_wheel : Fn := runB 2 B_need_wheel
noncomputable def B_own_lot_of : Fs := (fRet (fOp2 gIx (fLc (fIt (fCall 1 [] R_own_lots (fCons (fVar 0) fNil))) (gNm 2) (fTru (fOp2 (gIn false) (fVar 1) (fVar 2))) (fVar 2) [2]) (fC (.d (.int 0)))))
noncomputable def R_own_lot_of : Fn := runB 3 B_own_lot_of
noncomputable def B_own_way : Fs := (fSeq (fAsg (gTp 2 (gsCons (gNm 3) (gsCons (gNm 4) gsNil))) (fCall 4 [] R_met_from (fCons (fVar 0) (fCons (fVar 1) (fCons (fVar 2) (fCons (fNeg (fC (.d (.int 1)))) fNil))))))
  (fRet (fTup (fCons (fOp2 gXget (fVar 1) (fVar 2)) (fCons (fVar 2) (fCons (fVar 3) (fCons (fVar 4) fNil)))))))
noncomputable def R_own_way : Fn := runB 5 B_own_way
noncomputable def B__law_rims : Fs := (fSeq (fPar3 1 2 3 (fCons (fCall 2 [] R__law_next (fCons (fVar 0) (fCons (fC (.d (.int 8))) fNil))) (fCons (fOp2 gIx (fLst (fCons (fC (.d (.int 1))) (fCons (fC (.d (.int 2))) (fCons (fC (.d (.int 2))) (fCons (fC (.d (.int 3))) (fCons (fC (.d (.int 4))) (fCons (fC (.d (.int 6))) fNil))))))) (fCall 2 [] R__law_next (fCons (fVar 0) (fCons (fC (.d (.int 6))) fNil)))) (fCons (fLst fNil) fNil))))
  (fSeq (fIf (fTru (fOp2 (dEq false) (fVar 1) (fC (.d (.int 0))))) (fRet (fOp2 gIx (fLst (fCons (fTup (fCons (fC (.d (.int 30))) fNil)) (fCons (fOp2 gMulT (fTup (fCons (fC (.d (.int 1))) fNil)) (fC (.d (.int 16)))) (fCons (fTup (fCons (fC (.d (.int 1))) fNil)) (fCons (fTup (fCons (fC (.d (.int 12))) (fCons (fC (.d (.int 12))) (fCons (fC (.d (.int 6))) fNil)))) (fCons (fOp2 gMulT (fTup (fCons (fC (.d (.int 2))) fNil)) (fC (.d (.int 15)))) (fCons (fTup (fCons (fC (.d (.int 15))) (fCons (fC (.d (.int 15))) fNil))) (fCons (fTup (fCons (fC (.d (.int 7))) (fCons (fC (.d (.int 11))) (fCons (fC (.d (.int 12))) fNil)))) (fCons (fTup (fCons (fC (.d (.int 1))) (fCons (fC (.d (.int 29))) fNil))) fNil))))))))) (fCall 2 [] R__law_next (fCons (fVar 0) (fCons (fC (.d (.int 8))) fNil))))) fSkip)
  (fSeq (fFor (fR1 (fCons (fOp2 gAdd (fC (.d (.int 1))) (fCall 2 [] R__law_next (fCons (fVar 0) (fCons (fC (.d (.int 5))) fNil)))) fNil)) (gNm 4) (fSeq (fSet 5 (fCB (gMM PySem.W.minD 2) (fCons (fOp2 gMulT (fVar 2) (fOp2 gAdd (fC (.d (.int 1))) (fCall 2 [] R__law_next (fCons (fVar 0) (fCons (fC (.d (.int 4))) fNil))))) (fCons (fOp2 gSub (fC (.d (.int 30))) (fCB gSum (fCons (fVar 3) fNil))) fNil))))
  (fSet 3 (fOp2 gAdd (fVar 3) (fOp2 gMulT (fLst (fCons (fVar 5) fNil)) (fCB gInt1 (fCons (fOp2 cGt (fVar 5) (fC (.d (.int 0)))) fNil)))))))
  (fRet (fCB gTuple (fCons (fVar 3) fNil))))))
noncomputable def R__law_rims : Fn := runB 6 B__law_rims
noncomputable def B_is_touch : Fs := (fSeq (fIf (fOr (fNot (fTru (fIsi .tp (fVar 1)))) (fTru (fOp2 (dEq true) (fCB gLen (fCons (fVar 1) fNil)) (fC (.d (.int 2)))))) (fRet (fC (.d (.bool false)))) fSkip)
  (fRet (fAndE (fCall 2 [] R_is_spot (fCons (fVar 0) (fCons (fOp2 gIx (fVar 1) (fC (.d (.int 0)))) fNil))) (fAndE (fCall 2 [] R_is_spot (fCons (fVar 0) (fCons (fOp2 gIx (fVar 1) (fC (.d (.int 1)))) fNil))) (fOp2 cLt (fOp2 gIx (fVar 1) (fC (.d (.int 0)))) (fOp2 gIx (fVar 1) (fC (.d (.int 1)))))))))
noncomputable def R_is_touch : Fn := runB 2 B_is_touch
noncomputable def B_own_web : Fs := (fSeq (fSet 1 (fCall 1 [] R_touches_at (fCons (fVar 0) fNil)))
  (fRet (fCB gTuple (fCons (fCB gSort (fCons (fLc (fKeysX (fVar 1)) (gNm 2) fYes (fCall 3 [] R_own_way (fCons (fVar 0) (fCons (fVar 1) (fCons (fVar 2) fNil)))) [2]) fNil)) fNil))))
noncomputable def R_own_web : Fn := runB 3 B_own_web
noncomputable def B_need_spot : Fs := (fIf (fNot (fTru (fCall 2 [] R_is_spot (fCons (fOp2 gIx (fVar 0) (fC (.d (.int 0)))) (fCons (fVar 1) fNil))))) fBad fSkip)
noncomputable def R_need_spot : Fn := runB 2 B_need_spot
noncomputable def B__law_machine : Fs := (fSeq (fPar 1 2 (fCons (fCall 1 [] R__law_rims (fCons (fVar 0) fNil)) (fCons (fLst fNil) fNil)))
  (fSeq (fSet 3 (fCall 1 [] R__law_places (fCons (fVar 1) fNil)))
  (fSeq (fFor (fR1 (fCons (fCall 2 [] R__law_next (fCons (fVar 0) (fCons (fC (.d (.int 9))) fNil))) fNil)) (gNm 4) (fIf (fTru (fOp2 cGt (fCB gLen (fCons (fVar 3) fNil)) (fC (.d (.int 1))))) (fSeq (fSet 5 (fMt gPopAt (fVar 3) (fCons (fCall 2 [] R__law_next (fCons (fVar 0) (fCons (fCB gLen (fCons (fVar 3) fNil)) fNil))) fNil)))
  (fSeq (fSet 6 (fMt gPopAt (fVar 3) (fCons (fCall 2 [] R__law_next (fCons (fVar 0) (fCons (fCB gLen (fCons (fVar 3) fNil)) fNil))) fNil)))
  (fExp (fMt gApp (fVar 2) (fCons (fTup (fCons (fCB (gMM PySem.W.minD 2) (fCons (fVar 5) (fCons (fVar 6) fNil))) (fCons (fCB (gMM PySem.W.maxD 2) (fCons (fVar 5) (fCons (fVar 6) fNil))) fNil))) fNil))))) fSkip))
  (fRet (fTup (fCons (fVar 1) (fCons (fCB gTuple (fCons (fCB gSort (fCons (fVar 2) fNil)) fNil)) fNil)))))))
noncomputable def R__law_machine : Fn := runB 7 B__law_machine
noncomputable def B_touches_misfit : Fs := (fSeq (fSet 2 (fLst fNil))
  (fSeq (fFor (fEn (fCons (fVar 1) fNil)) (gTp 2 (gsCons (gNm 3) (gsCons (gNm 4) gsNil))) (fSeq (fIf (fOr (fNot (fTru (fCall 2 [] R_is_touch (fCons (fVar 0) (fCons (fVar 4) fNil))))) (fAnd (fTru (fOp2 cGt (fVar 3) (fC (.d (.int 0))))) (fNot (fTru (fOp2 cLt (fOp2 gIx (fVar 1) (fOp2 gSub (fVar 3) (fC (.d (.int 1))))) (fVar 4)))))) (fRet (fVar 3)) fSkip)
  (fSeq (fIf (fOr (fTru (fOp2 (gIn false) (fOp2 gIx (fVar 4) (fC (.d (.int 0)))) (fVar 2))) (fTru (fOp2 (gIn false) (fOp2 gIx (fVar 4) (fC (.d (.int 1)))) (fVar 2)))) (fRet (fVar 3)) fSkip)
  (fExp (fMt gExt (fVar 2) (fCons (fVar 4) fNil))))))
  (fRet (fC (.d .none)))))
noncomputable def R_touches_misfit : Fn := runB 5 B_touches_misfit
noncomputable def B_need_machine : Fs := (fSeq (fIf (fOr (fNot (fTru (fIsi .tp (fVar 0)))) (fTru (fOp2 (dEq true) (fCB gLen (fCons (fVar 0) fNil)) (fC (.d (.int 2)))))) fBad fSkip)
  (fSeq (fAsg (gTp 2 (gsCons (gNm 1) (gsCons (gNm 2) gsNil))) (fVar 0))
  (fSeq (fIf (fNot (fTru (fCall 1 [] R_are_counts (fCons (fVar 1) fNil)))) fBad fSkip)
  (fSeq (fIf (fOr (fNot (fTru (fIsi .tp (fVar 2)))) (fTru (fOp2 cGt (fCB gLen (fCons (fVar 2) fNil)) (fC (.d (.int 8)))))) fBad fSkip)
  (fSeq (fSet 3 (fCall 2 [] R_touches_misfit (fCons (fVar 1) (fCons (fVar 2) fNil))))
  (fIf (fTru (fOp2 (gIsN true) (fVar 3) (fC (.d .none)))) fBad fSkip))))))
noncomputable def R_need_machine : Fn := runB 4 B_need_machine
noncomputable def B_lots : Fs := (fSeq (fExp (fCall 1 [] R_need_machine (fCons (fVar 0) fNil)))
  (fRet (fCall 1 [] R_own_lots (fCons (fVar 0) fNil))))
noncomputable def R_lots : Fn := runB 1 B_lots
noncomputable def B_lot_of : Fs := (fSeq (fExp (fCall 1 [] R_need_machine (fCons (fVar 0) fNil)))
  (fSeq (fExp (fCall 2 [] R_need_wheel (fCons (fVar 0) (fCons (fVar 1) fNil))))
  (fRet (fCall 2 [] R_own_lot_of (fCons (fVar 0) (fCons (fVar 1) fNil))))))
noncomputable def R_lot_of : Fn := runB 2 B_lot_of
noncomputable def B_web : Fs := (fSeq (fExp (fCall 1 [] R_need_machine (fCons (fVar 0) fNil)))
  (fRet (fCall 1 [] R_own_web (fCons (fVar 0) fNil))))
noncomputable def R_web : Fn := runB 1 B_web
noncomputable def B_way_from : Fs := (fSeq (fExp (fCall 1 [] R_need_machine (fCons (fVar 0) fNil)))
  (fSeq (fExp (fCall 2 [] R_need_spot (fCons (fVar 0) (fCons (fVar 1) fNil))))
  (fSeq (fSet 2 (fCall 1 [] R_touches_at (fCons (fVar 0) fNil)))
  (fSeq (fIf (fTru (fOp2 (gInX true) (fVar 1) (fVar 2))) (fRaise 1) fSkip)
  (fRet (fCall 3 [] R_own_way (fCons (fVar 0) (fCons (fVar 2) (fCons (fVar 1) fNil)))))))))
noncomputable def R_way_from : Fn := runB 3 B_way_from
noncomputable def B_ways_to : Fs := (fSeq (fExp (fCall 1 [] R_need_machine (fCons (fVar 0) fNil)))
  (fSeq (fIf (fOr (fNot (fTru (fCall 1 [] R_is_whole (fCons (fVar 1) fNil)))) (fNot (fTru (fChain cLe cLt (fC (.d (.int 0))) (fVar 1) (fCB gLen (fCons (fOp2 gIx (fVar 0) (fC (.d (.int 1)))) fNil)))))) (fRaise 1) fSkip)
  (fRet (fCB gTuple (fCons (fLc (fIt (fCall 1 [] R_own_web (fCons (fVar 0) fNil))) (gNm 2) (fTru (fOp2 (dEq false) (fOp2 gIx (fVar 2) (fC (.d (.int 2)))) (fVar 1))) (fVar 2) [2]) fNil)))))
noncomputable def R_ways_to : Fn := runB 3 B_ways_to
noncomputable def B__law_right : Fs := (fSeq (fAsg (gTp 2 (gsCons (gNm 1) (gsCons (gNm 2) gsNil))) (fTupW (fCons (fCall 1 [] R__law_joined (fCons (fVar 0) fNil)) (fCons (fCall 1 [] R__law_numbers (fCons (fVar 0) fNil)) fNil))))
  (fSeq (fIf (fTru (fOp2 (dEq true) (fCB gRepr (fCons (fLst (fCons (fCall 1 [] R_lots (fCons (fVar 0) fNil)) (fCons (fCallK 1 [0] R_lots (fCons (fVar 0) fNil)) fNil))) fNil)) (fCB gRepr (fCons (fLst (fCons (fVar 1) (fCons (fVar 1) fNil))) fNil)))) (fRet (fC (.d (.bool false)))) fSkip)
  (fSeq (fFor (fR1 (fCons (fCB gLen (fCons (fOp2 gIx (fVar 0) (fC (.d (.int 0)))) fNil)) fNil)) (gNm 3) (fIf (fTru (fOp2 (dEq true) (fCB gRepr (fCons (fCall 2 [] R_lot_of (fCons (fVar 0) (fCons (fVar 3) fNil))) fNil)) (fCB gRepr (fCons (fOp2 gIx (fLc (fIt (fVar 1)) (gNm 4) (fTru (fOp2 (gIn false) (fVar 3) (fVar 4))) (fVar 4) [4]) (fC (.d (.int 0)))) fNil)))) (fRet (fC (.d (.bool false)))) fSkip))
  (fSeq (fSet 5 (fCB gSort (fCons (fLc (fKeysX (fVar 2)) (gNm 6) fYes (fCall 3 [] R__law_rolled (fCons (fVar 0) (fCons (fVar 2) (fCons (fVar 6) fNil)))) [6]) fNil)))
  (fSeq (fIf (fOr (fTru (fOp2 (dEq true) (fCB gRepr (fCons (fCall 1 [] R_web (fCons (fVar 0) fNil)) fNil)) (fCB gRepr (fCons (fCB gTuple (fCons (fVar 5) fNil)) fNil)))) (fTru (fOp2 (dEq true) (fLc (fIt (fVar 5)) (gNm 7) (fTru (fOp2 (dEq true) (fCall 2 [] R_way_from (fCons (fVar 0) (fCons (fOp2 gIx (fVar 7) (fC (.d (.int 1)))) fNil))) (fVar 7))) (fVar 7) [7]) (fLst fNil)))) (fRet (fC (.d (.bool false)))) fSkip)
  (fSeq (fFor (fR1 (fCons (fCB gLen (fCons (fOp2 gIx (fVar 0) (fC (.d (.int 1)))) fNil)) fNil)) (gNm 3) (fSeq (fSet 8 (fCall 2 [] R_ways_to (fCons (fVar 0) (fCons (fVar 3) fNil))))
  (fIf (fOr (fTru (fOp2 (dEq true) (fCB gRepr (fCons (fVar 8) fNil)) (fCB gRepr (fCons (fCB gTuple (fCons (fLc (fIt (fVar 5)) (gNm 7) (fTru (fOp2 (dEq false) (fOp2 gIx (fVar 7) (fC (.d (.int 2)))) (fVar 3))) (fVar 7) [7]) fNil)) fNil)))) (fTru (fOp2 (dEq true) (fCB gLen (fCons (fVar 8) fNil)) (fC (.d (.int 2)))))) (fRet (fC (.d (.bool false)))) fSkip)))
  (fSeq (fFor (fEn (fCons (fOp2 gIx (fVar 0) (fC (.d (.int 0)))) fNil)) (gTp 2 (gsCons (gNm 3) (gsCons (gNm 9) gsNil))) (fSeq (fSet 10 (fLc (fIt (fCall 1 [] R_web (fCons (fVar 0) fNil))) (gNm 7) (fTru (fOp2 (dEq false) (fOp2 gIx (fOp2 gIx (fVar 7) (fC (.d (.int 1)))) (fC (.d (.int 0)))) (fVar 3))) (fOp2 gIx (fVar 7) (fC (.d (.int 3)))) [7]))
  (fIf (fAnd (fTru (fOp2 (dEq true) (fVar 10) (fLst fNil))) (fTru (fOp2 (dEq true) (fCB gSum (fCons (fVar 10) fNil)) (fVar 9)))) (fRet (fC (.d (.bool false)))) fSkip)))
  (fRet (fC (.d (.bool true)))))))))))
noncomputable def R__law_right : Fn := runB 11 B__law_right
noncomputable def B_common : Fs := (fSeq (fPar 0 1 (fCons (fCB gAbs (fCons (fVar 0) fNil)) (fCons (fCB gAbs (fCons (fVar 1) fNil)) fNil)))
  (fSeq (fWh (fTru (fOp2 (dEq true) (fVar 1) (fC (.d (.int 0))))) (fPar 0 1 (fCons (fVar 1) (fCons (fOp2 gMod (fVar 0) (fVar 1)) fNil))))
  (fRet (fVar 0))))
noncomputable def R_common : Fn := runB 2 B_common
noncomputable def B_is_fraction : Fs := (fSeq (fIf (fOr (fNot (fTru (fIsi .tp (fVar 0)))) (fOr (fTru (fOp2 (dEq true) (fCB gLen (fCons (fVar 0) fNil)) (fC (.d (.int 2))))) (fOr (fNot (fTru (fCall 1 [] R_is_whole (fCons (fOp2 gIx (fVar 0) (fC (.d (.int 0)))) fNil)))) (fNot (fTru (fCall 1 [] R_is_whole (fCons (fOp2 gIx (fVar 0) (fC (.d (.int 1)))) fNil))))))) (fRet (fC (.d (.bool false)))) fSkip)
  (fRet (fAndE (fOp2 cGt (fOp2 gIx (fVar 0) (fC (.d (.int 1)))) (fC (.d (.int 0)))) (fOp2 (dEq false) (fCall 2 [] R_common (fCons (fOp2 gIx (fVar 0) (fC (.d (.int 0)))) (fCons (fOp2 gIx (fVar 0) (fC (.d (.int 1)))) fNil))) (fC (.d (.int 1)))))))
noncomputable def R_is_fraction : Fn := runB 1 B_is_fraction
noncomputable def B_law (ca : Nat → Addr) : Fs := (fSeq (fSet 1 (fCall 1 [] R__law_begun (fCons (fVar 0) fNil)))
  (fSeq (fFor (fR1 (fCons (fOp2 gAdd (fC (.d (.int 4))) (fCB (gMM PySem.W.minD 2) (fCons (fC (.d (.int 4))) (fCons (fOp2 gDiv (fCB gLen (fCons (fVar 0) fNil)) (fC (.d (.int 6)))) fNil)))) fNil)) (gNm 2) (fSeq (fSet 3 (fCall 1 [] R__law_machine (fCons (fVar 1) fNil)))
  (fSeq (fPar 4 5 (fCons (fCB gRepr (fCons (fVar 3) fNil)) (fCons (fLc (fIt (fCall 1 [] R__law_places (fCons (fOp2 gIx (fVar 3) (fC (.d (.int 0)))) fNil))) (gNm 6) (fTru (fOp2 (gInX true) (fVar 6) (fCall 1 [] R__law_numbers (fCons (fVar 3) fNil)))) (fVar 6) [6]) fNil)))
  (fSeq (fIf (fOr (fNot (fTru (fCall 1 [] R__law_right (fCons (fVar 3) fNil)))) (fOr (fNot (fTru (fCall 1 [] R__law_right (fCons (fVar 3) fNil)))) (fTru (fOp2 (dEq true) (fCB gRepr (fCons (fVar 3) fNil)) (fVar 4))))) (fRet (fC (.d (.bool false)))) fSkip)
  (fFor (fIt (fOp2 gAdd (fSl (fVar 5) fNoP (fPart (fC (.d (.int 2))))) (fSl (fVar 5) (fPart (fNeg (fC (.d (.int 1))))) fNoP))) (gNm 7) (fIf (fTru (fOp2 (dEq true) (fSaid (R__law_said ca) (fCall 2 [] R_way_from (fCons (fVar 3) (fCons (fVar 7) fNil)))) (fTup (fCons (fC (.d (.str "touch"))) fNil)))) (fRet (fC (.d (.bool false)))) fSkip))))))
  (fRet (fC (.d (.bool true))))))
noncomputable def R_law (ca : Nat → Addr) : Fn := runB 8 (B_law ca)
end G
set_option Elab.async false
set_option linter.all false
set_option maxRecDepth 100000
set_option maxHeartbeats 4000000
/-! M1: what the functions of fractions tell -/
namespace G
open PySem PySem.Spec L2 PyProof.Rows
set_option autoImplicit false
/-! ### stepping -/
@[simp] theorem st_seq (f g : Fs) (ρ : Slt) (S : Sto) : fSeq f g ρ S = match f ρ S with | .nx ρ1 S1 => g ρ1 S1 | r => r := id rfl
@[simp] theorem st_ret (f : Fe W) (ρ : Slt) (S : Sto) : fRet f ρ S = (f ρ S).fl ρ fun x S1 => .rt x S1 := id rfl
@[simp] theorem st_set (i : Nat) (f : Fe W) (ρ : Slt) (S : Sto) : fSet i f ρ S = (f ρ S).fl ρ fun x S1 => .nx (ρ.set i (some x)) S1 := id rfl
@[simp] theorem st_exp (f : Fe W) (ρ : Slt) (S : Sto) : fExp f ρ S = (f ρ S).fl ρ fun _ S1 => .nx ρ S1 := id rfl
@[simp] theorem st_if (c : Fe Bool) (f g : Fs) (ρ : Slt) (S : Sto) : fIf c f g ρ S = (c ρ S).fl ρ fun b S1 => if b = true then f ρ S1 else g ρ S1 := id rfl
@[simp] theorem st_skip (ρ : Slt) (S : Sto) : fSkip ρ S = .nx ρ S := id rfl
@[simp] theorem st_bad (ρ : Slt) (S : Sto) : fBad ρ S = .bad := id rfl
@[simp] theorem st_retN (ρ : Slt) (S : Sto) : fRetN ρ S = .rt (.d .none) S := id rfl
@[simp] theorem st_par (i j : Nat) (f : Fe (List W)) (ρ : Slt) (S : Sto) : fPar i j f ρ S = (f ρ S).fl ρ fun xs S1 => match xs with | [x, y] => .nx ((ρ.set i (some x)).set j (some y)) S1 | _ => .bad := id rfl
@[simp] theorem st_par3 (i j l : Nat) (f : Fe (List W)) (ρ : Slt) (S : Sto) : fPar3 i j l f ρ S = (f ρ S).fl ρ fun xs S1 => match xs with | [x, y, z] => .nx (((ρ.set i (some x)).set j (some y)).set l (some z)) S1 | _ => .bad := id rfl
@[simp] theorem st_asg (g : Gt) (f : Fe W) (ρ : Slt) (S : Sto) : fAsg g f ρ S = (f ρ S).fl ρ fun x S1 => match g x ρ S1 with | some ρ1 => .nx ρ1 S1 | none => .bad := id rfl
@[simp] theorem st_for (f : Fe (List PyData)) (g : Gt) (b : Fs) (ρ : Slt) (S : Sto) : fFor f g b ρ S = (f ρ S).fl ρ fun ds S1 => forD g b ds ρ S1 := id rfl
@[simp] theorem ev_var (i : Nat) (ρ : Slt) (S : Sto) : fVar i ρ S = match ρ[i]? with | some (some x) => .ok x S | _ => .bad := id rfl
@[simp] theorem ev_c (x : W) (ρ : Slt) (S : Sto) : fC x ρ S = .ok x S := id rfl
@[simp] theorem ev_nil (ρ : Slt) (S : Sto) : fNil ρ S = .ok [] S := id rfl
@[simp] theorem ev_cons (f : Fe W) (g : Fe (List W)) (ρ : Slt) (S : Sto) : fCons f g ρ S = (f ρ S).bind fun x S1 => (g ρ S1).bind fun xs S2 => .ok (x :: xs) S2 := id rfl
@[simp] theorem ev_op2 (g : Op2) (f h : Fe W) (ρ : Slt) (S : Sto) : fOp2 g f h ρ S = (f ρ S).bind fun x S1 => (h ρ S1).bind fun y S2 => ofO (g x y S2) := id rfl
@[simp] theorem ev_call (n : Nat) (dws : List PyData) (F : Fn) (f : Fe (List W)) (ρ : Slt) (S : Sto) : fCall n dws F f ρ S = (f ρ S).bind fun xs S1 => if xs.length = n then F (xs ++ ofD dws) S1 else .bad := id rfl
theorem ev_cb (g : OpN) (f : Fe (List W)) (ρ : Slt) (S : Sto) : fCB g f ρ S = (f ρ S).bind fun xs S1 => ofO (g xs S1) := id rfl
@[simp] theorem ev_len (f : Fe (List W)) (ρ : Slt) (S : Sto) : fCB gLen f ρ S = (f ρ S).bind fun xs S1 => ofO (gLen xs S1) := id rfl
@[simp] theorem ev_abs (f : Fe (List W)) (ρ : Slt) (S : Sto) : fCB gAbs f ρ S = (f ρ S).bind fun xs S1 => ofO (gAbs xs S1) := id rfl
@[simp] theorem ev_sum (f : Fe (List W)) (ρ : Slt) (S : Sto) : fCB gSum f ρ S = (f ρ S).bind fun xs S1 => ofO (gSum xs S1) := id rfl
@[simp] theorem ev_int (f : Fe (List W)) (ρ : Slt) (S : Sto) : fCB gInt1 f ρ S = (f ρ S).bind fun xs S1 => ofO (gInt1 xs S1) := id rfl
@[simp] theorem ev_sort (f : Fe (List W)) (ρ : Slt) (S : Sto) : fCB gSort f ρ S = (f ρ S).bind fun xs S1 => ofO (gSort xs S1) := id rfl
@[simp] theorem ev_list (f : Fe (List W)) (ρ : Slt) (S : Sto) : fCB gList f ρ S = (f ρ S).bind fun xs S1 => ofO (gList xs S1) := id rfl
@[simp] theorem ev_mm (k : PyData → List PyData → PyData) (n : Nat) (f : Fe (List W)) (ρ : Slt) (S : Sto) : fCB (gMM k n) f ρ S = (f ρ S).bind fun xs S1 => ofO (gMM k n xs S1) := id rfl
@[simp] theorem ev_tru (f : Fe W) (ρ : Slt) (S : Sto) : fTru f ρ S = (f ρ S).bind fun x S1 => ofO ((truth x).map fun b => (b, S1)) := id rfl
@[simp] theorem ev_not (f : Fe Bool) (ρ : Slt) (S : Sto) : fNot f ρ S = (f ρ S).bind fun b S1 => .ok (!b) S1 := id rfl
@[simp] theorem ev_and (f g : Fe Bool) (ρ : Slt) (S : Sto) : fAnd f g ρ S = (f ρ S).bind fun b S1 => if b = true then g ρ S1 else .ok false S1 := id rfl
@[simp] theorem ev_or (f g : Fe Bool) (ρ : Slt) (S : Sto) : fOr f g ρ S = (f ρ S).bind fun b S1 => if b = true then .ok true S1 else g ρ S1 := id rfl
@[simp] theorem ev_ife (t : Fe Bool) (f g : Fe W) (ρ : Slt) (S : Sto) : fIfE t f g ρ S = (t ρ S).bind fun b S1 => if b = true then f ρ S1 else g ρ S1 := id rfl
@[simp] theorem ofD_nil : ofD [] = [] := id rfl
@[simp] theorem truth_b (b : Bool) : truth (.d (.bool b)) = some b := id rfl
@[simp] theorem add_int (i j : Int) (S : Sto) : gAdd (.d (.int i)) (.d (.int j)) S = some (.d (.int (i + j)), S) := id rfl
@[simp] theorem sub_int (i j : Int) (S : Sto) : gInt (fun i j => .int (i - j)) (.d (.int i)) (.d (.int j)) S = some (.d (.int (i - j)), S) := id rfl
theorem mul_int {i j : Int} (h : mulOk i j = true) (S : Sto) : gMulT (.d (.int i)) (.d (.int j)) S = some (.d (.int (i * j)), S) := by
  show (if mulOk i j = true then _ else _) = _
  rw [if_pos h]
theorem mod_int {i j : Int} (h : 0 < j) (S : Sto) : gMod (.d (.int i)) (.d (.int j)) S = some (.d (.int (i % j)), S) := by
  show (if 0 < j then _ else _) = _
  rw [if_pos h]
theorem div_int {i j : Int} (h : 0 < j) (h2 : j.natAbs < mid) (S : Sto) : gDiv (.d (.int i)) (.d (.int j)) S = some (.d (.int (i / j)), S) := by
  show (if divOk j = true then _ else _) = _
  have : divOk j = true := decide_eq_true ⟨h, h2⟩
  rw [if_pos this]
theorem dEq_d {a b : PyData} (neg : Bool) (ha : SeqAt.shaped a = true) (hb : SeqAt.shaped b = true) (S : Sto) : dEq neg (.d a) (.d b) S = some (.d (.bool (if neg = true then !PyData.eqv a b else PyData.eqv a b)), S) := by
  unfold dEq
  simp only [view_d]
  rw [if_pos (by rw [ha, hb]; rfl)]
theorem sh_int (i : Int) : SeqAt.shaped (.int i) = true := rfl
@[simp] theorem ne_int (i j : Int) (S : Sto) : dEq true (.d (.int i)) (.d (.int j)) S = some (.d (.bool (!decide (i = j))), S) := by
  rw [dEq_d true (sh_int i) (sh_int j)]
  simp [PyData.eqv]
  rfl
@[simp] theorem eq_int (i j : Int) (S : Sto) : dEq false (.d (.int i)) (.d (.int j)) S = some (.d (.bool (decide (i = j))), S) := by
  rw [dEq_d false (sh_int i) (sh_int j)]
  simp [PyData.eqv]
  rfl
theorem gLt_int (k : PyData → PyData → Bool) (i j : Int) (S : Sto) : gLt k (.d (.int i)) (.d (.int j)) S = some (.d (.bool (k (.int i) (.int j))), S) := by
  unfold gLt
  simp [PySem.W.alike, PyData.depth]
@[simp] theorem lt_int' (i j : Int) (S : Sto) : cLt (.d (.int i)) (.d (.int j)) S = some (.d (.bool (decide (i < j))), S) := by
  rw [cLt, gLt_int, PySem.W.dataLt_int]
@[simp] theorem gt_int' (i j : Int) (S : Sto) : cGt (.d (.int i)) (.d (.int j)) S = some (.d (.bool (decide (j < i))), S) := by
  rw [cGt, gLt_int, PySem.W.dataLt_int]
@[simp] theorem le_int' (i j : Int) (S : Sto) : cLe (.d (.int i)) (.d (.int j)) S = some (.d (.bool (decide (i ≤ j))), S) := by
  rw [cLe, gLt_int, PySem.W.dataLt_int]
  congr 4
  rw [← decide_not, decide_eq_decide]
  omega
@[simp] theorem ge_int' (i j : Int) (S : Sto) : cGe (.d (.int i)) (.d (.int j)) S = some (.d (.bool (decide (j ≤ i))), S) := by
  rw [cGe, gLt_int, PySem.W.dataLt_int]
  congr 4
  rw [← decide_not, decide_eq_decide]
  omega
@[simp] theorem abs_int (i : Int) (S : Sto) : gAbs [.d (.int i)] S = some (.d (.int (if i < 0 then -i else i)), S) := id rfl
theorem abs_nat (i : Int) : (if i < 0 then -i else i) = ((i.natAbs : Nat) : Int) := by split <;> omega
/-! ### common -/
theorem common_wh (a : Nat) : ∀ (n b a : Nat) (S : Sto) (i j : Nat) (ρ : Slt), b < n → i ≠ j → i < ρ.length → j < ρ.length → ρ[i]? = some (some (.d (.int a))) → ρ[j]? = some (some (.d (.int b))) →
    whD (fTru (fOp2 (dEq true) (fVar j) (fC (.d (.int 0))))) (fPar i j (fCons (fVar j) (fCons (fOp2 gMod (fVar i) (fVar j)) fNil))) n ρ S = .nx ((ρ.set i (some (.d (.int (Nat.gcd a b))))).set j (some (.d (.int 0)))) S
  | 0, b, a, S, i, j, ρ, h, _, _, _, _, _ => by omega
  | n + 1, b, a, S, i, j, ρ, h, hij, hi, hj, ei, ej => by
    unfold whD
    by_cases hb : b = 0
    · subst hb
      simp [ej]
      have e1 : ρ.set i (some (W.d (PyData.int (a : Int)))) = ρ := by
        apply List.ext_getElem?; intro k
        by_cases hk : i = k
        · subst hk; rw [List.getElem?_set_self hi, ei]
        · rw [List.getElem?_set_ne hk]
      have e2 : ρ.set j (some (W.d (PyData.int 0))) = ρ := by
        apply List.ext_getElem?; intro k
        by_cases hk : j = k
        · subst hk; rw [List.getElem?_set_self hj, ej]; rfl
        · rw [List.getElem?_set_ne hk]
      rw [e1, e2]
    · have hb' : (0 : Int) < (b : Int) := by omega
      have hz : ¬ ((b : Int) = 0) := by omega
      simp [ej, ei, mod_int hb', hb, hz]
      have := common_wh a n (a % b) b S i j ((ρ.set i (some (.d (.int b)))).set j (some (.d (.int ((a % b : Nat) : Int))))) (by have := Nat.mod_lt a (Nat.pos_of_ne_zero hb); omega) hij (by simpa using hi) (by simpa using hj)
        (by rw [List.getElem?_set_ne (Ne.symm hij), List.getElem?_set_self hi]) (by rw [List.getElem?_set_self (by simpa using hj)])
      have e3 : ((a : Int) % (b : Int)) = ((a % b : Nat) : Int) := by omega
      rw [e3, this]
      congr 1
      have c1 : ∀ (l : Slt) (x y z : Option W), ((l.set i x).set j y).set i z = (l.set i z).set j y := fun l x y z => by rw [List.set_comm y z (Ne.symm hij), List.set_set]
      rw [c1, List.set_set, Nat.gcd_comm a b, Nat.gcd_rec b a, Nat.gcd_comm b (a % b)]
theorem common_fW (a b : Nat) (S : Sto) (i j : Nat) (ρ : Slt) (hij : i ≠ j) (hi : i < ρ.length) (hj : j < ρ.length) (ei : ρ[i]? = some (some (.d (.int a)))) (ej : ρ[j]? = some (some (.d (.int b)))) :
    fWh (fTru (fOp2 (dEq true) (fVar j) (fC (.d (.int 0))))) (fPar i j (fCons (fVar j) (fCons (fOp2 gMod (fVar i) (fVar j)) fNil))) ρ S = .nx ((ρ.set i (some (.d (.int (Nat.gcd a b))))).set j (some (.d (.int 0)))) S := by
  have e := common_wh 0 (b + 1) b a S i j ρ (Nat.lt_succ_self b) hij hi hj ei ej
  rw [fWh_eq (n := b + 1) (by rw [e]; intro z; cases z), e]
@[simp] theorem r_common (a b : Int) (S : Sto) : R_common [.d (.int a), .d (.int b)] S = .ok (.d (.int (Int.gcd a b))) S := by
  unfold R_common runB B_common
  simp [startR, abs_nat]
  rw [common_fW a.natAbs b.natAbs S 0 1 _ (by decide) (by simp) (by simp) rfl rfl]
  simp [Int.gcd]
end G
set_option Elab.async false
set_option linter.all false
set_option maxRecDepth 100000
set_option maxHeartbeats 4000000
/-! M2: fractions -/
namespace G
open PySem PySem.Spec L2 PyProof.Rows
set_option autoImplicit false
theorem lt_mid {n : Nat} (h : n < 2 ^ 7000) : n < mid := by
  unfold mid
  exact Nat.lt_of_lt_of_le h (Nat.pow_le_pow_right (by decide) (by decide))
theorem lt_big {n : Nat} (h : n < 2 ^ 7000) : n < big := by
  unfold big
  exact Nat.lt_of_lt_of_le h (Nat.pow_le_pow_right (by decide) (by decide))
theorem mulOk_of {i j : Int} (hi : i.natAbs < 2 ^ 7000) (hj : j.natAbs < 2 ^ 7000) : mulOk i j = true := by
  unfold mulOk smal
  simp [lt_big hi, lt_big hj]
def fr (q : Rat) : PyData := .tuple [.int q.num, .int q.den]
/-- small fractions -/
def Sm (n : Nat) (q : Rat) : Prop := q.num.natAbs < 2 ^ n ∧ q.den < 2 ^ n
theorem rat_eq (p : Rat) : (p.num : Rat) / (p.den : Rat) = p := by
  have h := Rat.mkRat_self p
  rw [Rat.mkRat_eq_div] at h
  exact_mod_cast h
theorem den_pos (p : Rat) : (0 : Int) < (p.den : Int) := by have := p.den_pos; omega
theorem den_ne (p : Rat) : (p.den : Rat) ≠ 0 := by
  intro h
  have h1 := p.den_nz
  exact h1 (by exact_mod_cast h)
@[simp] theorem ix_two0 (a b : PyData) (S : Sto) : gIx (.d (.tuple [a, b])) (.d (.int 0)) S = some (.d a, S) := id rfl
@[simp] theorem ix_two1 (a b : PyData) (S : Sto) : gIx (.d (.tuple [a, b])) (.d (.int 1)) S = some (.d b, S) := id rfl
@[simp] theorem fTup_d2 (f g : Fe W) (ρ : Slt) (S : Sto) : fTup (fCons f (fCons g fNil)) ρ S = (f ρ S).bind fun x S1 => (g ρ S1).bind fun y S2 => match fzT [x, y] S2 with | some (d, S2) => .ok (.d d) S2 | none => .bad := by
  unfold fTup
  simp only [ev_cons, ev_nil, Out.bind]
  cases f ρ S with
  | ok x S1 => simp only []; cases g ρ S1 <;> rfl
  | ex e S1 => rfl
  | bad => rfl
@[simp] theorem fzT_d2 (a b : PyData) (S : Sto) : fzT [.d a, .d b] S = some (.tuple [a, b], S) := by
  unfold fzT frzL frzL frzL
  simp only [frz_d]
  rfl
/-! ### sums and products -/
theorem Sm.mono {n m : Nat} {q : Rat} (h : Sm n q) (l : n ≤ m) : Sm m q := ⟨Nat.lt_of_lt_of_le h.1 (Nat.pow_le_pow_right (by decide) l), Nat.lt_of_lt_of_le h.2 (Nat.pow_le_pow_right (by decide) l)⟩
section
variable {n m : Nat} {p q : Rat}
end
/-! ### sizes by a common bottom and a bound -/
/-- the bottom divides D, the worth is at most M -/
structure Bd (D : Nat) (M : Nat) (q : Rat) : Prop where
  dv : q.den ∣ D
  le : q ≤ M
  ge : -(M : Rat) ≤ q
theorem isW_int (S : Sto) (i : Int) : R_is_whole [.d (.int i)] S = .ok (.d (.bool true)) S := by
  unfold R_is_whole runB B_is_whole
  simp [startR, fAndE, fIsi, fNotE, kdOf, kdD, isK]
end G
set_option Elab.async false
set_option linter.all false
set_option maxRecDepth 100000
set_option maxHeartbeats 4000000
/-! M3: comprehensions and loops, evaluated -/
namespace G
open PySem PySem.Spec L2 PyProof.Rows
set_option autoImplicit false
/-- gives x, and only new cells -/
def Pu {α : Type} (r : Out α) (S : Sto) (x : α) : Prop := ∃ T, r = .ok x (S ++ T)
theorem Pu.of {α : Type} {r : Out α} {S : Sto} {x : α} (h : r = .ok x S) : Pu r S x := ⟨[], by rw [h, List.append_nil]⟩
@[simp] theorem set_len_app (S : Sto) (c d : Cell) (T : Sto) : (S ++ c :: T).set S.length d = S ++ d :: T := by
  rw [List.set_append_right _ _ (Nat.le_refl _)]; simp
@[simp] theorem get_len_app (S : Sto) (c : Cell) (T : Sto) : (S ++ c :: T)[S.length]? = some c := by simp
theorem compD_ok {α : Type} {mk : α → PyData} {g : Gt} {e : Fe W} {n : Nat} {ρ : Slt} {yf : α → W} : ∀ (ds : List α) (acc : List W) (S T0 : Sto),
    (∀ d ∈ ds, ∃ ρ1, (∀ S, g (.d (mk d)) ρ S = some ρ1) ∧ ∀ S, Pu (e ρ1 S) S (yf d)) → acc.length + ds.length ≤ 1000000 → n = S.length → ∃ T', compD g fYes e n (ds.map mk) ρ (S ++ .lst acc :: T0) = .ok () (S ++ .lst (acc ++ ds.map yf) :: T')
  | [], acc, S, T0, h, hz, hn => ⟨T0, by simp [compD]⟩
  | d :: ds, acc, S, T0, h, hz, hn => by
    obtain ⟨ρ1, h1, h2⟩ := h d (by simp)
    obtain ⟨T1, e1⟩ := h2 (S ++ .lst acc :: T0)
    subst hn
    rw [List.map_cons]
    unfold compD
    rw [h1]
    simp only [fYes, bind_ok, if_true, e1, List.append_assoc, List.cons_append, get_len_app, set_len_app]
    rw [if_pos (by unfold szOk; simp at hz ⊢; omega)]
    obtain ⟨T', e'⟩ := compD_ok ds (acc ++ [yf d]) S (T0 ++ T1) (fun d hd => h d (by simp [hd])) (by simp at hz ⊢; omega) rfl
    exact ⟨T', by rw [e']; simp⟩
theorem fLc_ok {α : Type} {mk : α → PyData} {f : Fe (List PyData)} {g : Gt} {e : Fe W} {vs : List Nat} {ρ : Slt} {S T0 : Sto} {ds : List α} (yf : α → W) (hf : f ρ S = .ok (ds.map mk) (S ++ T0)) (hz : ds.length ≤ 1000000)
    (h : ∀ d ∈ ds, ∃ ρ1, (∀ S, g (.d (mk d)) (wipeR ρ vs) S = some ρ1) ∧ ∀ S, Pu (e ρ1 S) S (yf d)) : ∃ T, fLc f g fYes e vs ρ S = .ok (.o (S ++ T0).length) (S ++ T0 ++ .lst (ds.map yf) :: T) := by
  unfold fLc
  rw [hf]
  obtain ⟨T, e1⟩ := compD_ok (n := (S ++ T0).length) ds [] (S ++ T0) [] h (by simpa using hz) rfl
  rw [List.nil_append] at e1
  refine ⟨T, ?_⟩
  simp only [bind_ok, e1, noX_ok]
theorem frzL_ds : ∀ (k : Nat) (ds : List PyData) (S : Sto), frzL (frz k) (ds.map W.d) S = some (ds, S)
  | _, [], S => rfl
  | k, d :: ds, S => by
    unfold frzL
    simp only [List.map_cons, frz_d]
    show (match frzL (frz k) (ds.map W.d) S with | some (ds_1, S2) => some (d :: ds_1, S2) | none => none) = _
    rw [frzL_ds k ds S]
/-- tuple of a list of data -/
theorem gTuple_o {n : Nat} {S : Sto} {ds : List PyData} (h : S[n]? = some (.lst (ds.map W.d))) : gTuple [.o n] S = some (.d (.tuple ds), S) := by
  show (match lstOf (.o n) S with | some ws => (match frzL (frz 6) ws S with | some (ds, S2) => some (W.d (.tuple ds), S2) | none => none) | none => none) = _
  have : lstOf (.o n) S = some (ds.map W.d) := by
    unfold lstOf
    simp only [h]
  rw [this]
  simp only [frzL_ds]
theorem blsOf_map : ∀ (bs : List Bool), blsOf (bs.map fun b => W.d (.bool b)) = some bs
  | [] => rfl
  | b :: bs => by
    show (match blsOf (bs.map fun b => W.d (.bool b)) with | some l => some (b :: l) | none => none) = _
    rw [blsOf_map bs]
theorem gAll_o {F : List Bool → Bool} {n : Nat} {S : Sto} {bs : List Bool} (h : S[n]? = some (.lst (bs.map fun b => W.d (.bool b)))) : gAll F [.o n] S = some (.d (.bool (F bs)), S) := by
  unfold gAll lstOf
  simp only [h, blsOf_map]
theorem allLc {α : Type} {F : List Bool → Bool} {f : Fe (List PyData)} {g : Gt} {e : Fe W} {vs : List Nat} {ρ : Slt} {S : Sto} (ds : List α) (mk : α → PyData) (y : α → Bool) (hf : Pu (f ρ S) S (ds.map mk)) (hz : ds.length ≤ 1000000)
    (h : ∀ d ∈ ds, ∃ ρ1, (∀ S, g (.d (mk d)) (wipeR ρ vs) S = some ρ1) ∧ ∀ S, Pu (e ρ1 S) S (.d (.bool (y d)))) : Pu (fCB (gAll F) (fCons (fLc f g fYes e vs) fNil) ρ S) S (.d (.bool (F (ds.map y)))) := by
  obtain ⟨T0, hf⟩ := hf
  obtain ⟨T, e1⟩ := fLc_ok (fun d => .d (.bool (y d))) hf hz h
  refine ⟨T0 ++ .lst (ds.map fun d => .d (.bool (y d))) :: T, ?_⟩
  simp only [ev_cb, ev_cons, ev_nil, e1, bind_ok]
  rw [gAll_o (bs := ds.map y) (by rw [get_len_app]; simp [List.map_map, Function.comp_def])]
  simp
/-! two for -/
/-! ### targets, iterables -/
@[simp] theorem gt_nm (i : Nat) (x : W) (ρ : Slt) (S : Sto) : gNm i x ρ S = some (ρ.set i (some x)) := id rfl
@[simp] theorem gt_tp2 (g h : Gt) (a b : PyData) (ρ : Slt) (S : Sto) : gTp 2 (gsCons g (gsCons h gsNil)) (.d (.tuple [a, b])) ρ S = match g (.d a) ρ S with | some ρ1 => (match h (.d b) ρ1 S with | some ρ2 => some ρ2 | none => none) | none => none := id rfl
@[simp] theorem gt_tp3 (g h k : Gt) (a b c : PyData) (ρ : Slt) (S : Sto) : gTp 3 (gsCons g (gsCons h (gsCons k gsNil))) (.d (.tuple [a, b, c])) ρ S = match g (.d a) ρ S with | some ρ1 => (match h (.d b) ρ1 S with | some ρ2 => (match k (.d c) ρ2 S with | some ρ3 => some ρ3 | none => none) | none => none) | none => none := id rfl
@[simp] theorem it_ev (f : Fe W) (ρ : Slt) (S : Sto) : fIt f ρ S = (f ρ S).bind fun x S1 => ofO (itemsOf x S1) := id rfl
@[simp] theorem items_t (ds : List PyData) (S : Sto) : itemsOf (.d (.tuple ds)) S = some (ds, S) := id rfl
@[simp] theorem items_l (ds : List PyData) (S : Sto) : itemsOf (.d (.list ds)) S = some (ds, S) := id rfl
@[simp] theorem en_ev (f : Fe W) (ρ : Slt) (S : Sto) : fEn (fCons f fNil) ρ S = (f ρ S).bind fun x S1 => (ofO (itemsOf x S1)).bind fun ds S2 => .ok (enumD ds) S2 := by
  unfold fEn
  simp only [ev_cons, ev_nil]
  cases f ρ S <;> rfl
@[simp] theorem z2_ev (f g : Fe W) (ρ : Slt) (S : Sto) : fZ2 (fCons f (fCons g fNil)) ρ S = (f ρ S).bind fun x S1 => (g ρ S1).bind fun y S2 => (ofO (itemsOf x S2)).bind fun ds1 S3 => (ofO (itemsOf y S3)).bind fun ds2 S4 => .ok (zipD2 ds1 ds2) S4 := by
  unfold fZ2
  simp only [ev_cons, ev_nil]
  cases f ρ S with
  | ok x S1 => simp only [bind_ok]; cases g ρ S1 <;> rfl
  | ex _ _ => rfl
  | bad => rfl
@[simp] theorem z3_ev (f g h : Fe W) (ρ : Slt) (S : Sto) : fZ3 (fCons f (fCons g (fCons h fNil))) ρ S = (f ρ S).bind fun x S1 => (g ρ S1).bind fun y S2 => (h ρ S2).bind fun z S2 => (ofO (itemsOf x S2)).bind fun ds1 S3 => (ofO (itemsOf y S3)).bind fun ds2 S4 => (ofO (itemsOf z S4)).bind fun ds3 S5 => .ok (zipD3 ds1 ds2 ds3) S5 := by
  unfold fZ3
  simp only [ev_cons, ev_nil]
  cases f ρ S with
  | ok x S1 =>
    simp only [bind_ok]
    cases g ρ S1 with
    | ok y S2 => simp only [bind_ok]; cases h ρ S2 <;> rfl
    | ex _ _ => rfl
    | bad => rfl
  | ex _ _ => rfl
  | bad => rfl
theorem r1_ev (f : Fe W) (ρ : Slt) (S S' : Sto) (j : Int) (h : f ρ S = .ok (.d (.int j)) S') (hj : -1000000 ≤ j ∧ j ≤ 1000000) : fR1 (fCons f fNil) ρ S = .ok (rngD 0 j.toNat) S' := by
  unfold fR1
  simp only [ev_cons, ev_nil, h, bind_ok]
  rw [if_pos (show rOk j = true from decide_eq_true hj)]
theorem r2_ev (f g : Fe W) (ρ : Slt) (S S1 S2 : Sto) (i j : Int) (h : f ρ S = .ok (.d (.int i)) S1) (h2 : g ρ S1 = .ok (.d (.int j)) S2) (hi : -1000000 ≤ i ∧ i ≤ 1000000) (hj : -1000000 ≤ j ∧ j ≤ 1000000) : fR2 (fCons f (fCons g fNil)) ρ S = .ok (rngD i (j - i).toNat) S2 := by
  unfold fR2
  simp only [ev_cons, ev_nil, h, h2, bind_ok]
  rw [if_pos (by rw [show rOk i = true from decide_eq_true hi, show rOk j = true from decide_eq_true hj]; rfl)]
/-! ### for -/
theorem forD_nx {g : Gt} {b : Fs} (I : List PyData → Slt → Sto → Prop) (step : ∀ d ds ρ S, I (d :: ds) ρ S → ∃ ρ1, g (.d d) ρ S = some ρ1 ∧ ∃ ρ2 S2, b ρ1 S = .nx ρ2 S2 ∧ I ds ρ2 S2) :
    ∀ (ds : List PyData) (ρ : Slt) (S : Sto), I ds ρ S → ∃ ρ' S', forD g b ds ρ S = .nx ρ' S' ∧ I [] ρ' S'
  | [], ρ, S, h => ⟨ρ, S, rfl, h⟩
  | d :: ds, ρ, S, h => by
    obtain ⟨ρ1, h1, ρ2, S2, h2, h3⟩ := step d ds ρ S h
    obtain ⟨ρ', S', h4, h5⟩ := forD_nx I step ds ρ2 S2 h3
    refine ⟨ρ', S', ?_, h5⟩
    unfold forD
    rw [h1]
    simp only [h2, h4]
end G
set_option Elab.async false
set_option linter.all false
set_option maxRecDepth 100000
set_option maxHeartbeats 4000000
/-! M4: machines -/
namespace G
open PySem PySem.Spec L2 PyProof.Rows
set_option autoImplicit false
@[simp] theorem ev_isi (t : Kd) (f : Fe W) (ρ : Slt) (S : Sto) : fIsi t f ρ S = (f ρ S).bind fun x S1 => match kdOf x S1 with | some k => .ok (.d (.bool (isK k t))) S1 | none => .bad := id rfl
@[simp] theorem kd_d (x : PyData) (S : Sto) : kdOf (.d x) S = some (kdD x) := by cases x <;> rfl
@[simp] theorem kd_t (xs : List PyData) : kdD (.tuple xs) = .tp := id rfl
@[simp] theorem kd_i (i : Int) : kdD (.int i) = .it := id rfl
@[simp] theorem isK_tp : isK .tp .tp = true := id rfl
@[simp] theorem isK_it : isK .it .it = true := id rfl
@[simp] theorem isK_ib : isK .it .bl = false := id rfl
@[simp] theorem ev_andE (f g : Fe W) (ρ : Slt) (S : Sto) : fAndE f g ρ S = (f ρ S).bind fun x S1 => match x with | .d (.bool true) => g ρ S1 | .d (.bool false) => .ok (.d (.bool false)) S1 | _ => .bad := by
  unfold fAndE
  rfl
theorem atI_nat {α : Type} {xs : List α} {i : Nat} {x : α} (h : xs[i]? = some x) : L2.atI xs (i : Int) = some x := by
  have hl := (List.getElem?_eq_some_iff.mp h).1
  unfold L2.atI L2.ixN
  rw [if_pos (by omega), if_pos (by omega)]
  simpa using h
theorem ix_nat {ds : List PyData} {i : Nat} {d : PyData} (h : ds[i]? = some d) (S : Sto) : gIx (.d (.tuple ds)) (.d (.int i)) S = some (.d d, S) := by
  show (L2.atI (ds.map W.d) (i : Int)).map (fun z => (z, S)) = _
  rw [atI_nat (x := .d d) (by rw [List.getElem?_map, h]; rfl)]
  rfl
@[simp] theorem len_t (ds : List PyData) (S : Sto) : gLen [.d (.tuple ds)] S = some (.d (.int ds.length), S) := by
  show some (W.d (.int ((ds.map W.d).length : Nat)), S) = _
  rw [List.length_map]
theorem intsOf_ds (ns : List Int) : intsOf ((ns.map PyData.int).map W.d) = some ns := by
  rw [List.map_map]
  exact intsOf_map ns
theorem sum_t (ns : List Int) (S : Sto) : gSum [.d (.tuple (ns.map PyData.int))] S = some (.d (.int ns.sum), S) := by
  show (match intsOf ((ns.map PyData.int).map W.d) with | some ns => some (W.d (.int ns.sum), S) | none => none) = _
  rw [intsOf_ds]
@[simp] theorem ev_chain (g g' : Op2) (f h k : Fe W) (ρ : Slt) (S : Sto) : fChain g g' f h k ρ S = (f ρ S).bind fun x S1 => (h ρ S1).bind fun y S2 => (ofO (g x y S2)).bind fun z S3 => match z with
  | .d (.bool true) => (k ρ S3).bind fun u S4 => ofO (g' y u S4)
  | .d (.bool false) => .ok (.d (.bool false)) S3
  | _ => .bad := id rfl
@[simp] theorem isW (i : Int) (S : Sto) : R_is_whole [.d (.int i)] S = .ok (.d (.bool true)) S := isW_int S i
@[simp] theorem r_is_fraction (q : Rat) (S : Sto) : R_is_fraction [.d (fr q)] S = .ok (.d (.bool true)) S := by
  unfold R_is_fraction runB B_is_fraction fr
  have h1 := q.den_pos
  have h2 : Int.gcd q.num q.den = 1 := q.reduced
  simp [startR, h1, h2]
/-! ### spots, touches, machines -/
abbrev Spot := Nat × Nat
abbrev Tch := Spot × Spot
def sD (s : Spot) : PyData := .tuple [.int s.1, .int s.2]
def tcD (t : Tch) : PyData := .tuple [sD t.1, sD t.2]
def csD (cs : List Nat) : PyData := .tuple (cs.map fun c => .int (c : Nat))
def tsD (ts : List Tch) : PyData := .tuple (ts.map tcD)
structure Mach where
  cs : List Nat
  ts : List Tch
def mD (m : Mach) : PyData := .tuple [csD m.cs, tsD m.ts]
def okS (cs : List Nat) (s : Spot) : Prop := ∃ c, cs[s.1]? = some c ∧ s.2 < c
def ltS (s t : Spot) : Prop := s.1 < t.1 ∨ s.1 = t.1 ∧ s.2 < t.2
instance (s t : Spot) : Decidable (ltS s t) := inferInstanceAs (Decidable (_ ∨ _))
def ltT (a b : Tch) : Prop := ltS a.1 b.1 ∨ a.1 = b.1 ∧ ltS a.2 b.2
def spotsOf (ts : List Tch) : List Spot := ts.flatMap fun t => [t.1, t.2]
structure Ok (m : Mach) : Prop where
  ne : m.cs ≠ []
  l16 : m.cs.length ≤ 16
  pos : ∀ c ∈ m.cs, 0 < c
  s30 : m.cs.sum ≤ 30
  l8 : m.ts.length ≤ 8
  good : ∀ t ∈ m.ts, okS m.cs t.1 ∧ okS m.cs t.2 ∧ ltS t.1 t.2
  srt : m.ts.Pairwise ltT
  nd : (spotsOf m.ts).Nodup
theorem csD_ints (cs : List Nat) : csD cs = .tuple ((cs.map fun c : Nat => (c : Int)).map PyData.int) := by
  unfold csD
  rw [List.map_map]
  rfl
theorem sum_cast (cs : List Nat) : (cs.map fun c : Nat => (c : Int)).sum = ((cs.sum : Nat) : Int) := by
  induction cs with
  | nil => rfl
  | cons c cs ih => simp [ih]
theorem r_are_counts {cs : List Nat} (h1 : cs ≠ []) (h2 : cs.length ≤ 16) (h3 : ∀ c ∈ cs, 0 < c) (h4 : cs.sum ≤ 30) (S : Sto) : Pu (R_are_counts [.d (csD cs)] S) S (.d (.bool true)) := by
  unfold R_are_counts runB B_are_counts
  have hl : 1 ≤ cs.length := by cases cs with
    | nil => exact absurd rfl h1
    | cons a b => simp
  have a1 : ((1 : Int) ≤ (cs.length : Int)) := by omega
  have a2 : ((cs.length : Int) ≤ 16) := by omega
  obtain ⟨T, e⟩ := allLc (F := fun bs => bs.all id) (f := fIt (fVar 0)) (g := gNm 1) (e := fAndE (fCall 1 [] R_is_whole (fCons (fVar 1) fNil)) (fOp2 cGt (fVar 1) (fC (.d (.int 0))))) (vs := [1]) (ρ := [some (.d (csD cs)), none]) (S := S) cs (fun c => .int (c : Nat)) (fun _ => true)
    (.of (by simp [csD])) (by omega) (fun c hc => by
      refine ⟨_, fun S => rfl, fun S => .of ?_⟩
      have := h3 c hc
      simp [wipeR, this])
  refine ⟨T, ?_⟩
  have e3 : ((cs.map fun _ => true).all id) = true := by simp
  rw [e3] at e
  have e4 : gSum [.d (csD cs)] (S ++ T) = some (.d (.int (cs.sum : Nat)), S ++ T) := by rw [csD_ints, sum_t, sum_cast]
  have a3 : ((cs.sum : Nat) : Int) ≤ 30 := by omega
  have e2 : ∀ S, gLen [.d (csD cs)] S = some (.d (.int (cs.length : Nat)), S) := fun S => by unfold csD; rw [len_t, List.length_map]
  have e5 : kdD (csD cs) = .tp := rfl
  simp [startR, e, e4, a3, e2, a1, a2, e5]
theorem r_is_spot {cs : List Nat} {s : Spot} (h : okS cs s) (S : Sto) : R_is_spot [.d (csD cs), .d (sD s)] S = .ok (.d (.bool true)) S := by
  obtain ⟨c, h1, h2⟩ := h
  have hl := (List.getElem?_eq_some_iff.mp h1).1
  unfold R_is_spot runB B_is_spot sD
  have e1 : gIx (.d (csD cs)) (.d (.int (s.1 : Nat))) S = some (.d (.int (c : Nat)), S) := ix_nat (by rw [List.getElem?_map, h1]; rfl) S
  have a1 : (0 : Int) ≤ (s.1 : Int) := by omega
  have a2 : (0 : Int) ≤ (s.2 : Int) := by omega
  have a3 : (s.1 : Int) < (cs.length : Int) := by omega
  have a4 : (s.2 : Int) < (c : Int) := by omega
  have e2 : gLen [.d (csD cs)] S = some (.d (.int (cs.length : Nat)), S) := by unfold csD; rw [len_t, List.length_map]
  simp [startR, e1, e2, a1, a2, a3, a4]
theorem al_s (s t : Spot) : PySem.W.alike (sD s) (sD t) = true := by simp [sD, PySem.W.alike, PySem.W.alikeAll]
theorem lt_s (s t : Spot) : PySem.W.dataLt (sD s) (sD t) = decide (ltS s t) := by
  unfold sD
  rw [PySem.W.dataLt_ii]
  rw [decide_eq_decide]
  unfold ltS
  omega
theorem eqv_s (s t : Spot) : PyData.eqv (sD s) (sD t) = decide (s = t) := by
  obtain ⟨a, b⟩ := s
  obtain ⟨c, d⟩ := t
  simp only [sD, PyData.eqv, PyData.eqvAll, Bool.and_true, Prod.mk.injEq]
  rw [Bool.eq_iff_iff]
  simp only [Bool.and_eq_true, beq_iff_eq, decide_eq_true_eq]
  omega
theorem cLt_s (s t : Spot) (S : Sto) : cLt (.d (sD s)) (.d (sD t)) S = some (.d (.bool (decide (ltS s t))), S) := by
  rw [← lt_s]
  show (if (PySem.W.alike (sD s) (sD t) && decide ((sD s).depth ≤ 60)) = true then some (W.d (.bool (PySem.W.dataLt (sD s) (sD t))), S) else none) = _
  rw [if_pos (by rw [al_s]; rfl)]
theorem r_is_touch {cs : List Nat} {t : Tch} (h1 : okS cs t.1) (h2 : okS cs t.2) (h3 : ltS t.1 t.2) (S : Sto) : R_is_touch [.d (csD cs), .d (tcD t)] S = .ok (.d (.bool true)) S := by
  unfold R_is_touch runB B_is_touch tcD
  simp [startR, r_is_spot h1, r_is_spot h2, cLt_s, h3]
theorem al_t (s t : Tch) : PySem.W.alike (tcD s) (tcD t) = true := by simp [tcD, PySem.W.alike, PySem.W.alikeAll, al_s]
theorem ltS_irr (s : Spot) : ¬ ltS s s := by unfold ltS; omega
theorem lt_t (a b : Tch) : PySem.W.dataLt (tcD a) (tcD b) = true ↔ ltT a b := by
  unfold tcD
  rw [PySem.W.dataLt_pair (al_s _ _) (al_s _ _), eqv_s, eqv_s, lt_s, lt_s]
  unfold ltT
  by_cases h1 : a.1 = b.1 <;> by_cases h2 : a.2 = b.2 <;> simp [h1, h2, ltS_irr]
theorem cLt_t {a b : Tch} (h : ltT a b) (S : Sto) : cLt (.d (tcD a)) (.d (tcD b)) S = some (.d (.bool true), S) := by
  show (if (PySem.W.alike (tcD a) (tcD b) && decide ((tcD a).depth ≤ 60)) = true then some (W.d (.bool (PySem.W.dataLt (tcD a) (tcD b))), S) else none) = _
  rw [if_pos (by rw [al_t]; rfl), (lt_t a b).mpr h]
/-! the loop over the touches -/
theorem spotsOf_app (a b : List Tch) : spotsOf (a ++ b) = spotsOf a ++ spotsOf b := by simp [spotsOf]
@[simp] theorem gt_tp2' (g h : Gt) (a b : PyData) (ρ : Slt) (S : Sto) : gTp 2 (gsCons g (gsCons h gsNil)) (.d (.tuple [a, b])) ρ S = match g (.d a) ρ S with | some ρ1 => (match h (.d b) ρ1 S with | some ρ2 => some ρ2 | none => none) | none => none := id rfl
theorem shp_s (s : Spot) : SeqAt.shaped (sD s) = true := rfl
theorem shp_ss : ∀ l : List Spot, SeqAt.shaped (.list (l.map sD)) = true := fun l => by
  have h1 : ∀ l : List Spot, PyData.canLayAll0 (l.map sD) = true := fun l => by
    induction l with
    | nil => rfl
    | cons a l ih => simp [PyData.canLayAll0, ih, sD, PyData.canLay0]
  have h2 : ∀ l : List Spot, PyData.depthAll (l.map sD) ≤ 1 := fun l => by
    induction l with
    | nil => simp [PyData.depthAll]
    | cons a l ih => simp only [List.map_cons, PyData.depthAll]; have : (sD a).depth = 1 := rfl; omega
  unfold SeqAt.shaped
  rw [Bool.and_eq_true]
  refine ⟨by simp only [PyData.canLay0]; exact h1 l, decide_eq_true ?_⟩
  simp only [PyData.depth]
  have := h2 l
  omega
theorem view_o {k : Nat} {S : Sto} {ds : List PyData} (h : S[k]? = some (.lst (ds.map W.d))) : view (.o k) S = some (.list ds) := by
  unfold view
  have : frz 6 (.o k) S = some (.list ds, S.set k (.fz (.list ds))) := by
    show (match S[k]? with | some (.fz x) => some (x, S) | some (.lst ws) => (match frzL (frz 5) ws S with | some (ds, S1) => some (PyData.list ds, S1.set k (.fz (.list ds))) | none => none) | _ => none) = _
    rw [h]
    simp only [frzL_ds]
  rw [this]
  rfl
def spW (l : List Spot) : List W := (l.map sD).map W.d
@[simp] theorem ev_mt (g : OpM) (f : Fe W) (h : Fe (List W)) (ρ : Slt) (S : Sto) : fMt g f h ρ S = (f ρ S).bind fun x S1 => if (hpl x S1).isSome = true then (h ρ S1).bind fun xs S2 => ofO (g x xs S2) else .bad := id rfl
theorem in_spots {k : Nat} {S : Sto} {l : List Spot} (s : Spot) (h : S[k]? = some (.lst (spW l))) : gIn false (.d (sD s)) (.o k) S = some (.d (.bool (decide (s ∈ l))), S) := by
  unfold gIn
  rw [view_d, view_o h]
  simp only []
  rw [if_pos (by rw [shp_s, shp_ss]; rfl)]
  congr 4
  show (if false = true then _ else _) = _
  rw [if_neg Bool.false_ne_true, Bool.eq_iff_iff, decide_eq_true_eq, List.any_eq_true]
  constructor
  · rintro ⟨x, hx, e⟩
    obtain ⟨t, ht, rfl⟩ := List.mem_map.mp hx
    rw [eqv_s, decide_eq_true_eq] at e
    exact e ▸ ht
  · intro hs
    exact ⟨sD s, List.mem_map_of_mem hs, by rw [eqv_s]; exact decide_eq_true rfl⟩
theorem ext_spots {k : Nat} {S : Sto} {l : List Spot} (t : Tch) (h : S[k]? = some (.lst (spW l))) (hl : l.length ≤ 100) : gExt (.o k) [.d (tcD t)] S = some (.d .none, S.set k (.lst (spW (l ++ [t.1, t.2])))) := by
  unfold gExt tcD
  simp only [h]
  rw [if_pos (by unfold szOk spW; simp; omega)]
  simp [spW]
theorem enum_cons {α : Type} (F : α → PyData) (a : α) (r : List α) (n : Nat) : (((a :: r).map F).zipIdx n).map (fun p => PyData.tuple [.int (p.2 : Nat), p.1]) = .tuple [.int (n : Nat), F a] :: ((r.map F).zipIdx (n + 1)).map (fun p => PyData.tuple [.int (p.2 : Nat), p.1]) := by simp
theorem spots_len (ts : List Tch) : (spotsOf ts).length = 2 * ts.length := by
  induction ts with
  | nil => rfl
  | cons t ts ih => simp [spotsOf] at ih ⊢; omega
theorem r_touches_misfit {m : Mach} (ok : Ok m) (S : Sto) : Pu (R_touches_misfit [.d (csD m.cs), .d (tsD m.ts)] S) S (.d .none) := by
  unfold R_touches_misfit runB B_touches_misfit
  have key := forD_nx (g := gTp 2 (gsCons (gNm 3) (gsCons (gNm 4) gsNil))) (b := (fSeq (fIf (fOr (fNot (fTru (fCall 2 [] R_is_touch (fCons (fVar 0) (fCons (fVar 4) fNil))))) (fAnd (fTru (fOp2 cGt (fVar 3) (fC (.d (.int 0))))) (fNot (fTru (fOp2 cLt (fOp2 gIx (fVar 1) (fOp2 gSub (fVar 3) (fC (.d (.int 1))))) (fVar 4)))))) (fRet (fVar 3)) fSkip)
      (fSeq (fIf (fOr (fTru (fOp2 (gIn false) (fOp2 gIx (fVar 4) (fC (.d (.int 0)))) (fVar 2))) (fTru (fOp2 (gIn false) (fOp2 gIx (fVar 4) (fC (.d (.int 1)))) (fVar 2)))) (fRet (fVar 3)) fSkip)
      (fExp (fMt gExt (fVar 2) (fCons (fVar 4) fNil))))))
    (fun ds ρ S' => ∃ (pre post : List Tch) (j1 j2 : Option W) (T : Sto), m.ts = pre ++ post ∧ ds = ((post.map tcD).zipIdx pre.length).map (fun p => PyData.tuple [.int (p.2 : Nat), p.1]) ∧ ρ = [some (.d (csD m.cs)), some (.d (tsD m.ts)), some (.o S.length), j1, j2] ∧ S' = S ++ .lst (spW (spotsOf pre)) :: T)
    (by
      rintro d ds ρ S' ⟨pre, post, j1, j2, T, hts, hd, rfl, rfl⟩
      cases post with
      | nil => cases hd
      | cons t post =>
        rw [enum_cons] at hd
        injection hd with h1 h2
        subst h1
        refine ⟨_, rfl, ?_⟩
        have ht : t ∈ m.ts := by rw [hts]; simp
        obtain ⟨g1, g2, g3⟩ := ok.good t ht
        have hnd := ok.nd
        rw [hts, spotsOf_app] at hnd
        have hnin : ∀ s ∈ spotsOf pre, s ≠ t.1 ∧ s ≠ t.2 := fun s hs => by
          have q := (List.nodup_append.mp hnd).2.2 s hs
          exact ⟨q _ (by simp [spotsOf]), q _ (by simp [spotsOf])⟩
        have n1 : ¬ t.1 ∈ spotsOf pre := fun z => (hnin _ z).1 rfl
        have n2 : ¬ t.2 ∈ spotsOf pre := fun z => (hnin _ z).2 rfl
        have hlen := ok.l8
        rw [hts] at hlen
        have hl2 : (spotsOf pre).length ≤ 100 := by rw [spots_len]; simp at hlen; omega
        have e1 := fun s => in_spots (k := S.length) (S := S ++ .lst (spW (spotsOf pre)) :: T) (l := spotsOf pre) s (get_len_app S _ T)
        have e2 := ext_spots (k := S.length) (S := S ++ .lst (spW (spotsOf pre)) :: T) (l := spotsOf pre) t (get_len_app S _ T) hl2
        have e3 : hpl (.o S.length) (S ++ .lst (spW (spotsOf pre)) :: T) = some (spW (spotsOf pre)) := by
          unfold hpl
          simp only [get_len_app]
        have i0 : ∀ S, gIx (.d (tcD t)) (.d (.int 0)) S = some (.d (sD t.1), S) := fun S => rfl
        have i1 : ∀ S, gIx (.d (tcD t)) (.d (.int 1)) S = some (.d (sD t.2), S) := fun S => rfl
        have fin : ∃ (pre' post' : List Tch) (j1 j2 : Option W) (T' : Sto), m.ts = pre' ++ post' ∧ ds = ((post'.map tcD).zipIdx pre'.length).map (fun p => PyData.tuple [.int (p.2 : Nat), p.1]) ∧ [some (.d (csD m.cs)), some (.d (tsD m.ts)), some (.o S.length), some (.d (.int (pre.length : Nat))), some (.d (tcD t))] = [some (.d (csD m.cs)), some (.d (tsD m.ts)), some (.o S.length), j1, j2] ∧
            (S ++ Cell.lst (spW (spotsOf pre ++ [t.1, t.2])) :: T) = S ++ .lst (spW (spotsOf pre')) :: T' :=
          ⟨pre ++ [t], post, _, _, T, by rw [hts]; simp, by rw [h2]; simp, rfl, by rw [spotsOf_app]; rfl⟩
        by_cases hp : pre = []
        · subst hp
          refine ⟨_, _, ?_, fin⟩
          simp [r_is_touch g1 g2 g3, i0, i1, e1, e2, e3, n1, n2]
        · obtain ⟨u, hu⟩ : ∃ u, pre.getLast? = some u := by
            cases h : pre.getLast? with
            | none => exact absurd (List.getLast?_eq_none_iff.mp h) hp
            | some u => exact ⟨u, rfl⟩
          have hpl : 0 < pre.length := List.length_pos_iff.mpr hp
          have hpl' : (0 : Int) < (pre.length : Int) := by omega
          have hu2 : pre[pre.length - 1]? = some u := by rw [List.getLast?_eq_getElem?] at hu; exact hu
          have i2 : ∀ S, gIx (.d (tsD m.ts)) (.d (.int ((pre.length : Int) - 1))) S = some (.d (tcD u), S) := fun S => by
            have : ((pre.length : Int) - 1) = ((pre.length - 1 : Nat) : Int) := by omega
            rw [this]
            refine ix_nat ?_ S
            rw [List.getElem?_map, hts, List.getElem?_append_left (by omega), hu2]
            rfl
          have hlt : ltT u t := by
            have q := ok.srt
            rw [hts] at q
            exact (List.pairwise_append.mp q).2.2 u (List.mem_of_getElem? hu2) t (by simp)
          refine ⟨_, _, ?_, fin⟩
          simp [r_is_touch g1 g2 g3, i0, i1, i2, cLt_t hlt, e1, e2, e3, n1, n2, hpl]
          )
    (enumD (m.ts.map tcD)) [some (.d (csD m.cs)), some (.d (tsD m.ts)), some (.o S.length), none, none] (S ++ [.lst []]) ⟨[], m.ts, none, none, [], rfl, rfl, rfl, rfl⟩
  obtain ⟨ρ', S', h1, pre, post, j1, j2, T, hts, hd, rfl, rfl⟩ := key
  refine ⟨.lst (spW (spotsOf pre)) :: T, ?_⟩
  simp only [startR, List.map_cons, List.map_nil, List.length_cons, List.length_nil]
  have e5 : fLst fNil [some (.d (csD m.cs)), some (.d (tsD m.ts)), none, none, none] S = .ok (.o S.length) (S ++ [.lst []]) := rfl
  have e6 : ∀ S, itemsOf (.d (tsD m.ts)) S = some (m.ts.map tcD, S) := fun S => rfl
  simp [e5, e6, h1]
@[simp] theorem isn_no (S : Sto) : gIsN true (.d .none) (.d .none) S = some (.d (.bool false), S) := id rfl
theorem r_need_machine {m : Mach} (ok : Ok m) (S : Sto) : Pu (R_need_machine [.d (mD m)] S) S (.d .none) := by
  obtain ⟨T1, e1⟩ := r_are_counts ok.ne ok.l16 ok.pos ok.s30 S
  obtain ⟨T2, e2⟩ := r_touches_misfit ok (S ++ T1)
  refine ⟨T1 ++ T2, ?_⟩
  unfold R_need_machine runB B_need_machine mD
  have a1 : ¬ ((8 : Int) < (m.ts.length : Int)) := by have := ok.l8; omega
  have e3 : kdD (tsD m.ts) = .tp := rfl
  have e4 : ∀ S, gLen [.d (tsD m.ts)] S = some (.d (.int (m.ts.length : Nat)), S) := fun S => by unfold tsD; rw [len_t, List.length_map]
  simp [startR, e1, e2, e3, e4, a1]
end G
set_option Elab.async false
set_option linter.all false
set_option maxRecDepth 100000
set_option maxHeartbeats 4000000
/-! M5: sizes of fractions, loads -/
namespace G
open PySem PySem.Spec L2 PyProof.Rows
set_option autoImplicit false
theorem den_dvd {q : Rat} {D : Nat} : q.den ∣ D ↔ ∃ k : Int, q * (D : Rat) = (k : Rat) := by
  have h1 := rat_eq q
  have h2 := den_ne q
  constructor
  · rintro ⟨e, rfl⟩
    refine ⟨q.num * e, ?_⟩
    push_cast
    grind
  · rintro ⟨k, hk⟩
    have h3 : (q.num : Rat) * (D : Rat) = (k : Rat) * (q.den : Rat) := by grind
    have h4 : q.num * (D : Int) = k * (q.den : Int) := by exact_mod_cast h3
    have h5 : (q.den : Int) ∣ q.num * (D : Int) := ⟨k, by rw [h4, Int.mul_comm]⟩
    have h6 : q.den ∣ q.num.natAbs * D := by
      have := Int.natAbs_dvd_natAbs.mpr h5
      rwa [Int.natAbs_mul, Int.natAbs_natCast, Int.natAbs_natCast] at this
    exact Nat.Coprime.dvd_of_dvd_mul_left (Nat.Coprime.symm q.reduced) h6
section
variable {D E M N : Nat} {p q : Rat}
theorem Bd.add (hp : Bd D M p) (hq : Bd D N q) : Bd D (M + N) (p + q) := by
  obtain ⟨k, hk⟩ := den_dvd.mp hp.dv
  obtain ⟨l, hl⟩ := den_dvd.mp hq.dv
  refine ⟨den_dvd.mpr ⟨k + l, ?_⟩, ?_, ?_⟩
  · push_cast; grind
  · have := hp.le; have := hq.le; push_cast; grind
  · have := hp.ge; have := hq.ge; push_cast; grind
theorem Bd.neg (hp : Bd D M p) : Bd D M (-p) := by
  obtain ⟨k, hk⟩ := den_dvd.mp hp.dv
  refine ⟨den_dvd.mpr ⟨-k, ?_⟩, ?_, ?_⟩
  · push_cast; grind
  · have := hp.ge; grind
  · have := hp.le; grind
theorem Bd.sub (hp : Bd D M p) (hq : Bd D N q) : Bd D (M + N) (p - q) := by
  have := hp.add hq.neg
  rwa [← Rat.sub_eq_add_neg] at this
theorem Bd.half (hp : Bd D M p) (hq : Bd D M q) : Bd (D * 2) M ((p + q) / 2) := by
  obtain ⟨k, hk⟩ := den_dvd.mp hp.dv
  obtain ⟨l, hl⟩ := den_dvd.mp hq.dv
  refine ⟨den_dvd.mpr ⟨k + l, ?_⟩, ?_, ?_⟩
  · push_cast; grind
  · have := hp.le; have := hq.le; grind
  · have := hp.ge; have := hq.ge; grind
theorem Bd.mono (hp : Bd D M p) (h1 : D ∣ E) (h2 : M ≤ N) : Bd E N p := by
  have : (M : Rat) ≤ (N : Rat) := by exact_mod_cast h2
  refine ⟨Nat.dvd_trans hp.dv h1, ?_, ?_⟩
  · have := hp.le; grind
  · have := hp.ge; grind
theorem Bd.sm {n : Nat} (hp : Bd D M p) (h0 : 0 < D) (h1 : D < 2 ^ n) (h2 : M * D < 2 ^ n) : Sm n p := by
  have hle : p.den ≤ D := Nat.le_of_dvd h0 hp.dv
  refine ⟨?_, by omega⟩
  have e := rat_eq p
  have hd := den_ne p
  have hdp : (0 : Rat) < (p.den : Rat) := by exact_mod_cast p.den_pos
  have a1 : (p.num : Rat) ≤ ((M * p.den : Nat) : Rat) := by
    have : (p.num : Rat) = p * p.den := by grind
    rw [this]
    push_cast
    exact Rat.mul_le_mul_of_nonneg_right hp.le (by grind)
  have a2 : -((M * p.den : Nat) : Rat) ≤ (p.num : Rat) := by
    have : (p.num : Rat) = p * p.den := by grind
    rw [this]
    push_cast
    have h3 := Rat.mul_le_mul_of_nonneg_right hp.ge (c := (p.den : Rat)) (by grind)
    grind
  have b1 : p.num ≤ ((M * p.den : Nat) : Int) := by exact_mod_cast a1
  have b2 : -((M * p.den : Nat) : Int) ≤ p.num := by
    refine Rat.intCast_le_intCast.mp ?_
    push_cast at a2 ⊢
    exact a2
  have b3 : M * p.den ≤ M * D := Nat.mul_le_mul_left M hle
  omega
theorem Bd.zero : Bd D M 0 := by
  have h : (0 : Rat) ≤ (M : Rat) := by exact_mod_cast Nat.zero_le M
  refine ⟨by rw [show (0 : Rat).den = 1 from rfl]; exact Nat.one_dvd _, h, by grind⟩
theorem Bd.one : Bd 1 1 1 := ⟨Nat.dvd_refl _, by decide, by decide⟩
end
end G
set_option Elab.async false
set_option linter.all false
set_option maxRecDepth 100000
set_option maxHeartbeats 4000000
/-! M6: loads -/
namespace G
open PySem PySem.Spec L2 PyProof.Rows
set_option autoImplicit false
abbrev Load := Spot → Rat
def rowD (f : Load) (q : Nat × Nat) : PyData := .tuple ((List.range q.1).map fun p => fr (f (q.2, p)))
def ldD (cs : List Nat) (f : Load) : PyData := .tuple (cs.zipIdx.map (rowD f))
@[simp] theorem len_row (f : Load) (q : Nat × Nat) (S : Sto) : gLen [.d (rowD f q)] S = some (.d (.int (q.1 : Nat)), S) := by
  unfold rowD
  rw [len_t]; simp
@[simp] theorem len_cs (cs : List Nat) (S : Sto) : gLen [.d (csD cs)] S = some (.d (.int (cs.length : Nat)), S) := by
  unfold csD
  rw [len_t]; simp
@[simp] theorem len_ld (cs : List Nat) (f : Load) (S : Sto) : gLen [.d (ldD cs f)] S = some (.d (.int (cs.length : Nat)), S) := by
  unfold ldD
  rw [len_t]; simp
@[simp] theorem kd_row (f : Load) (q : Nat × Nat) : kdD (rowD f q) = .tp := id rfl
@[simp] theorem kd_ld (cs : List Nat) (f : Load) : kdD (ldD cs f) = .tp := id rfl
@[simp] theorem kd_cs (cs : List Nat) : kdD (csD cs) = .tp := id rfl
@[simp] theorem items_ld (cs : List Nat) (f : Load) (S : Sto) : itemsOf (.d (ldD cs f)) S = some (cs.zipIdx.map (rowD f), S) := id rfl
@[simp] theorem items_cs (cs : List Nat) (S : Sto) : itemsOf (.d (csD cs)) S = some (cs.map (fun c => .int (c : Nat)), S) := id rfl
@[simp] theorem items_row (f : Load) (q : Nat × Nat) (S : Sto) : itemsOf (.d (rowD f q)) S = some ((List.range q.1).map fun p => fr (f (q.2, p)), S) := id rfl
@[simp] theorem items_ts (ts : List Tch) (S : Sto) : itemsOf (.d (tsD ts)) S = some (ts.map tcD, S) := id rfl
@[simp] theorem ix_m0 (m : Mach) (S : Sto) : gIx (.d (mD m)) (.d (.int 0)) S = some (.d (csD m.cs), S) := id rfl
@[simp] theorem ix_m1 (m : Mach) (S : Sto) : gIx (.d (mD m)) (.d (.int 1)) S = some (.d (tsD m.ts), S) := id rfl
/-- few cells -/
structure Few (cs : List Nat) : Prop where
  len : cs.length ≤ 16
  one : ∀ c ∈ cs, c ≤ 30
theorem Ok.few {m : Mach} (ok : Ok m) : Few m.cs := ⟨ok.l16, fun c hc => by
  have : ∀ l : List Nat, c ∈ l → c ≤ l.sum := fun l => by
    induction l with
    | nil => intro h; cases h
    | cons a l ih =>
      intro h
      rcases List.mem_cons.mp h with rfl | h
      · simp
      · have := ih h; simp; omega
  have := this _ hc
  have := ok.s30
  omega⟩
theorem Few.z {cs : List Nat} (h : Few cs) {q : Nat × Nat} (hq : q ∈ cs.zipIdx) : q.1 ≤ 30 := by
  obtain ⟨c, i⟩ := q
  exact h.one c (by have := List.mem_zipIdx hq; rw [this.2.2]; exact List.getElem_mem _)
/-! ### loads made of loads -/
end G
set_option Elab.async false
set_option linter.all false
set_option maxRecDepth 100000
set_option maxHeartbeats 4000000
/-! M7: spots, sums over cells, readings -/
namespace G
open PySem PySem.Spec L2 PyProof.Rows
set_option autoImplicit false
def cellsZ (zs : List (Nat × Nat)) : List Spot := zs.flatMap fun q => (List.range q.1).map fun p => (q.2, p)
def cells (cs : List Nat) : List Spot := cellsZ cs.zipIdx
theorem rng_map (c : Nat) : rngD 0 c = (List.range c).map fun p => .int (p : Nat) := by
  unfold rngD
  congr 1
  funext i
  simp
end G
set_option Elab.async false
set_option linter.all false
set_option maxRecDepth 100000
set_option maxHeartbeats 4000000
/-! M8: sums over cells, readings -/
namespace G
open PySem PySem.Spec L2 PyProof.Rows
set_option autoImplicit false
theorem cells_len {cs : List Nat} : (cells cs).length = cs.sum := by
  have : ∀ zs : List (Nat × Nat), (cellsZ zs).length = (zs.map Prod.fst).sum := fun zs => by
    induction zs with
    | nil => rfl
    | cons a zs ih => simp [cellsZ] at ih ⊢ <;> omega
  unfold cells
  rw [this]
  rw [List.zipIdx_map_fst]
/-! ### readings -/
theorem zipIdx_at {cs : List Nat} {w c : Nat} (h : cs[w]? = some c) : cs.zipIdx[w]? = some (c, w) := by simp [List.getElem?_zipIdx, h]
def rdF (f : Load) (t : Tch) : Rat := (f t.1 + f t.2) / 2
@[simp] theorem ix_s0 (s : Spot) (S : Sto) : gIx (.d (sD s)) (.d (.int 0)) S = some (.d (.int (s.1 : Nat)), S) := id rfl
@[simp] theorem ix_s1 (s : Spot) (S : Sto) : gIx (.d (sD s)) (.d (.int 1)) S = some (.d (.int (s.2 : Nat)), S) := id rfl
end G
set_option Elab.async false
set_option linter.all false
set_option maxRecDepth 100000
set_option maxHeartbeats 4000000
/-! M9: a beat -/
namespace G
open PySem PySem.Spec L2 PyProof.Rows
set_option autoImplicit false
def rl (g : Load) (q : Nat × Nat) : List PyData := (List.range q.1).map fun p => fr (g (q.2, p))
def updL (g : Load) (s : Spot) (v : Rat) : Load := fun t => if t = s then v else g t
def aftF (f : Load) (ts : List Tch) (g : Load) : Load := ts.foldl (fun g t => updL (updL g t.1 (rdF f t)) t.2 (rdF f t)) g
@[simp] theorem st_putL (fo fi fv : Fe W) (ρ : Slt) (S : Sto) : fPutL fo fi fv ρ S = (fv ρ S).fl ρ fun z S1 => (fo ρ S1).fl ρ fun x S2 => (fi ρ S2).fl ρ fun y S3 => match putL x y z S3 with
  | some S4 => .nx ρ S4
  | none => .bad := id rfl
theorem forD_nil (g : Gt) (b : Fs) (ρ : Slt) (S : Sto) : forD g b [] ρ S = .nx ρ S := id rfl
theorem forD_cons (g : Gt) (b : Fs) (d : PyData) (ds : List PyData) (ρ : Slt) (S : Sto) : forD g b (d :: ds) ρ S = match g (.d d) ρ S with
  | none => .bad
  | some ρ1 => match b ρ1 S with
    | .nx ρ2 S2 => forD g b ds ρ2 S2
    | .ct ρ2 S2 => forD g b ds ρ2 S2
    | .bk ρ2 S2 => .nx ρ2 S2
    | r => r := id rfl
/-! the rows are closed -/
end G
set_option Elab.async false
set_option linter.all false
set_option maxRecDepth 100000
set_option maxHeartbeats 4000000
/-! M10: beats -/
namespace G
open PySem PySem.Spec L2 PyProof.Rows
set_option autoImplicit false
@[simp] theorem part1 (ρ : Slt) (S : Sto) : fPart (fC (.d (.int 1))) ρ S = .ok (some 1) S := rfl
@[simp] theorem noP (ρ : Slt) (S : Sto) : fNoP ρ S = .ok none S := id rfl
@[simp] theorem ev_sl (f : Fe W) (l h : Fe (Option Int)) (ρ : Slt) (S : Sto) : fSl f l h ρ S = (f ρ S).bind fun x S1 => (l ρ S1).bind fun lo S2 => (h ρ S2).bind fun hi S3 => ofO (gSl x lo hi S3) := id rfl
def beatF (m : Mach) (f : Load) : Load := fun s => aftF f m.ts f (s.1, (s.2 + 1) % (m.cs.getD s.1 1))
end G
set_option Elab.async false
set_option linter.all false
set_option maxRecDepth 100000
set_option maxHeartbeats 4000000
/-! M11: behind, readings -/
namespace G
open PySem PySem.Spec L2 PyProof.Rows
set_option autoImplicit false
theorem aft_cases (f : Load) : ∀ (ts : List Tch) (g : Load) (s : Spot), aftF f ts g s = g s ∨ ∃ t ∈ ts, aftF f ts g s = rdF f t
  | [], g, s => .inl rfl
  | t :: ts, g, s => by
    rcases aft_cases f ts (updL (updL g t.1 (rdF f t)) t.2 (rdF f t)) s with h | ⟨u, hu, h⟩
    · have e : aftF f (t :: ts) g s = aftF f ts (updL (updL g t.1 (rdF f t)) t.2 (rdF f t)) s := rfl
      rw [e, h]
      unfold updL
      by_cases h1 : s = t.2
      · exact .inr ⟨t, by simp, by simp [h1]⟩
      · by_cases h2 : s = t.1
        · refine .inr ⟨t, by simp, ?_⟩
          rw [if_neg h1, if_pos h2]
        · left
          rw [if_neg h1, if_neg h2]
    · exact .inr ⟨u, by simp [hu], h⟩
theorem Bd.beat {m : Mach} {f : Load} {D M : Nat} (hf : ∀ s, Bd D M (f s)) : ∀ s, Bd (D * 2) M (beatF m f s) := fun s => by
  unfold beatF
  rcases aft_cases f m.ts f (s.1, (s.2 + 1) % (m.cs.getD s.1 1)) with h | ⟨t, _, h⟩
  · rw [h]; exact (hf _).mono ⟨2, rfl⟩ (Nat.le_refl _)
  · rw [h]; exact (hf _).half (hf _)
def beatN (m : Mach) : Nat → Load → Load
  | 0, f => f
  | k + 1, f => beatN m k (beatF m f)
theorem Bd.beatN {m : Mach} {M : Nat} : ∀ (k : Nat) {D : Nat} {f : Load}, (∀ s, Bd D M (f s)) → ∀ s, Bd (D * 2 ^ k) M (beatN m k f s)
  | 0, D, f, hf, s => by
    rw [Nat.pow_zero, Nat.mul_one]
    exact hf s
  | k + 1, D, f, hf, s => by
    have h := Bd.beatN (m := m) (f := beatF m f) k (Bd.beat hf) s
    have e : D * 2 ^ (k + 1) = D * 2 * 2 ^ k := by rw [Nat.pow_succ, Nat.mul_comm (2 ^ k) 2, Nat.mul_assoc]
    rw [e]
    exact h
/-- room for so many beats -/
structure Rmb (D M n k : Nat) : Prop where
  pos : 0 < D
  d : D * 2 ^ k < 2 ^ n
  m : 101 * M * (D * 2 ^ k) < 2 ^ n
  n : n ≤ 3000
theorem Rmb.here {D M n k : Nat} (h : Rmb D M n k) : D < 2 ^ n ∧ 101 * M * D < 2 ^ n := by
  have h1 : D ≤ D * 2 ^ k := Nat.le_mul_of_pos_right D (Nat.pow_pos (by decide))
  have h2 : 101 * M * D ≤ 101 * M * (D * 2 ^ k) := Nat.mul_le_mul_left _ h1
  exact ⟨Nat.lt_of_le_of_lt h1 h.d, Nat.lt_of_le_of_lt h2 h.m⟩
theorem Rmb.next {D M n k : Nat} (h : Rmb D M n (k + 1)) : Rmb (D * 2) M n k := by
  have e : D * 2 ^ (k + 1) = D * 2 * 2 ^ k := by rw [Nat.pow_succ, Nat.mul_comm (2 ^ k) 2, Nat.mul_assoc]
  exact ⟨by have := h.pos; omega, by rw [← e]; exact h.d, by rw [← e]; exact h.m, h.n⟩
theorem rng' (k : Nat) : rngD 0 k = (List.range' 0 k).map fun p => .int (p : Nat) := by
  rw [rng_map, List.range_eq_range']
/-! readings -/
theorem hpl_o {S : Sto} {ws : List W} {T : Sto} : hpl (.o S.length) (S ++ .lst ws :: T) = some ws := by
  unfold hpl
  simp only [get_len_app]
end G
set_option Elab.async false
set_option linter.all false
set_option maxRecDepth 100000
set_option maxHeartbeats 4000000
/-! M12: what the law draws -/
namespace G
open PySem PySem.Spec L2 PyProof.Rows
set_option autoImplicit false
def stC (l c t : Int) : Cell := .dic [(.inr "left", .d (.int l)), (.inr "cell", .d (.int c)), (.inr "turns", .d (.int t))]
def StA (n b : Nat) (S : Sto) : Prop := ∃ l c t : Int, S[n]? = some (stC l c t) ∧ 0 ≤ t ∧ t ≤ b
structure Kp (n : Nat) (S S' : Sto) : Prop where
  len : S.length ≤ S'.length
  same : ∀ i, i < S.length → i ≠ n → S'[i]? = S[i]?
theorem Kp.refl (n : Nat) (S : Sto) : Kp n S S := ⟨Nat.le_refl _, fun _ _ _ => rfl⟩
theorem Kp.trans {n : Nat} {S S1 S2 : Sto} (a : Kp n S S1) (b : Kp n S1 S2) : Kp n S S2 := ⟨Nat.le_trans a.len b.len, fun i h1 h2 => (b.same i (Nat.lt_of_lt_of_le h1 a.len) h2).trans (a.same i h1 h2)⟩
theorem Kp.app (n : Nat) (S T : Sto) : Kp n S (S ++ T) := ⟨by simp, fun i h _ => List.getElem?_append_left h⟩
theorem StA.app {n b : Nat} {S : Sto} (h : StA n b S) (T : Sto) : StA n b (S ++ T) := by
  obtain ⟨l, c, t, e, h1⟩ := h
  exact ⟨l, c, t, by rw [List.getElem?_append_left (List.getElem?_eq_some_iff.mp e).1]; exact e, h1⟩
theorem StA.lt {n b : Nat} {S : Sto} (h : StA n b S) : n < S.length := by
  obtain ⟨l, c, t, e, h1⟩ := h
  exact (List.getElem?_eq_some_iff.mp e).1
theorem StA.set {n b : Nat} {S : Sto} (h : n < S.length) {l c t : Int} (h1 : 0 ≤ t) (h2 : t ≤ b) : StA n b (S.set n (stC l c t)) := ⟨l, c, t, by rw [List.getElem?_set_self h], h1, h2⟩
theorem Kp.set (n : Nat) (S : Sto) (c : Cell) : Kp n S (S.set n c) := ⟨by simp, fun i _ h => List.getElem?_set_ne (Ne.symm h)⟩
theorem gPow_k (S : Sto) : gPow (.d (.int 10)) (.d (.int 18)) S = some (.d (.int 1000000000000000000), S) := rfl
@[simp] theorem st_putD (fo fi fv : Fe W) (ρ : Slt) (S : Sto) : fPutD fo fi fv ρ S = (fv ρ S).fl ρ fun z S1 => (fo ρ S1).fl ρ fun x S2 => (fi ρ S2).fl ρ fun y S3 => match putDk x y z S3 with
  | some S4 => .nx ρ S4
  | none => .bad := id rfl
theorem tiny_r {i j : Int} (h : -(2 ^ 64) < j ∧ j < 2 ^ 64) : mulOk i j = true := by
  unfold mulOk tiny
  have h' := h
  simp only [Int.reducePow, Int.reduceNeg] at h'
  simp [h']
theorem tiny_l {i j : Int} (h : -(2 ^ 64) < i ∧ i < 2 ^ 64) : mulOk i j = true := by
  unfold mulOk tiny
  have h' := h
  simp only [Int.reducePow, Int.reduceNeg] at h'
  simp [h']
end G
set_option Elab.async false
set_option linter.all false
set_option maxRecDepth 100000
set_option maxHeartbeats 4000000
/-! M13: counts drawn -/
namespace G
open PySem PySem.Spec L2 PyProof.Rows
set_option autoImplicit false
theorem seq_o {S : Sto} {a : Nat} {ws : List W} (h : S[a]? = some (.lst ws)) : seqOf (.o a) S = some ws := by
  unfold seqOf
  simp only [h]
theorem hpl_a {S : Sto} {a : Nat} {ws : List W} (h : S[a]? = some (.lst ws)) : hpl (.o a) S = some ws := by
  unfold hpl
  simp only [h]
theorem ix_o {S : Sto} {a : Nat} {ws : List W} (h : S[a]? = some (.lst ws)) {i : Nat} {x : W} (hi : ws[i]? = some x) : gIx (.o a) (.d (.int (i : Nat))) S = some (x, S) := by
  unfold gIx
  simp only [seq_o h, atI_nat hi]
  rfl
def iW (l : List Int) : List W := l.map fun i => W.d (.int i)
theorem sum_o {S : Sto} {a : Nat} {l : List Int} (h : S[a]? = some (.lst (iW l))) : gSum [.o a] S = some (.d (.int l.sum), S) := by
  unfold gSum
  simp only [seq_o h]
  have : intsOf (iW l) = some l := intsOf_map l
  rw [this]
theorem mm_ints {f : PyData → List PyData → PyData} {n : Nat} (x : Int) (l : List Int) (hl : (x :: l).length = n) (S : Sto) : gMM f n ((x :: l).map fun i => W.d (.int i)) S = some (.d (f (.int x) (l.map .int)), S) := by
  have e1 : ∀ l : List Int, datsOf (l.map fun i => W.d (.int i)) = some (l.map .int) := fun l => by
    induction l with
    | nil => rfl
    | cons a l ih =>
      show (match datsOf (l.map fun i => W.d (.int i)) with | some l' => some (PyData.int a :: l') | none => none) = _
      rw [ih]
      rfl
  have e2 : ∀ l : List Int, alikeOk (l.map .int) = true := fun l => by
    unfold alikeOk
    simp [PySem.W.alike, isNn, PyData.depth]
  unfold gMM
  rw [e1]
  simp only [List.map_cons]
  rw [if_pos ⟨by simpa using hl, e2 (x :: l)⟩]
theorem mul_o {S : Sto} {a : Nat} {ws : List W} (h : S[a]? = some (.lst ws)) (k : Int) (h0 : 0 ≤ k) (h1 : k ≤ 1) (hz : ws.length ≤ 1000) : gMulT (.o a) (.d (.int k)) S = some (.o S.length, S ++ [.lst (List.replicate k.toNat ws).flatten]) := by
  show gMul (.o a) (.d (.int k)) S = _
  unfold gMul
  simp only [hpl_a h]
  have hs : szOk (ws.length * k.toNat) = true := by
    unfold szOk
    have : k = 0 ∨ k = 1 := by omega
    rcases this with rfl | rfl <;> simp <;> omega
  rw [if_pos ⟨by omega, by omega, hs⟩]
theorem add_o {S : Sto} {a c : Nat} {ws us : List W} (h : S[a]? = some (.lst ws)) (h2 : S[c]? = some (.lst us)) (hz : ws.length + us.length ≤ 1000) : gAdd (.o a) (.o c) S = some (.o S.length, S ++ [.lst (ws ++ us)]) := by
  unfold gAdd
  simp only [hpl_a h, hpl_a h2]
  rw [if_pos (by unfold szOk; simp; omega)]
end G
set_option Elab.async false
set_option linter.all false
set_option maxRecDepth 100000
set_option maxHeartbeats 4000000
/-! M14: counts drawn, all -/
namespace G
open PySem PySem.Spec L2 PyProof.Rows
set_option autoImplicit false
/-- a row of counts so far -/
structure CsOk (most : Int) (l : List Int) : Prop where
  pos : ∀ c ∈ l, 0 < c
  sum : l.sum ≤ most
theorem ixBy (v : Int) (h0 : 0 ≤ v) (h1 : v < 6) {S : Sto} {a : Nat} (h : S[a]? = some (.lst (iW [1, 2, 2, 3, 4, 6]))) : ∃ bb : Int, 1 ≤ bb ∧ bb ≤ 6 ∧ gIx (.o a) (.d (.int v)) S = some (.d (.int bb), S) := by
  have h3 : v = 0 ∨ v = 1 ∨ v = 2 ∨ v = 3 ∨ v = 4 ∨ v = 5 := by omega
  unfold gIx
  simp only [seq_o h]
  rcases h3 with h | h | h | h | h | h <;> rw [h] <;> exact ⟨_, by decide, by decide, rfl⟩
end G
set_option Elab.async false
set_option linter.all false
set_option maxRecDepth 100000
set_option maxHeartbeats 4000000
/-! M15: touches drawn -/
namespace G
open PySem PySem.Spec L2 PyProof.Rows
set_option autoImplicit false
theorem ltT_iff (a b : Tch) : ltT a b ↔ a.1.1 < b.1.1 ∨ (a.1.1 = b.1.1 ∧ (a.1.2 < b.1.2 ∨ (a.1.2 = b.1.2 ∧ (a.2.1 < b.2.1 ∨ (a.2.1 = b.2.1 ∧ a.2.2 < b.2.2))))) := by
  obtain ⟨⟨a1, a2⟩, ⟨a3, a4⟩⟩ := a
  obtain ⟨⟨b1, b2⟩, ⟨b3, b4⟩⟩ := b
  simp only [ltT, ltS, Prod.mk.injEq]
  omega
theorem tch_eq (a b : Tch) : a = b ↔ a.1.1 = b.1.1 ∧ a.1.2 = b.1.2 ∧ a.2.1 = b.2.1 ∧ a.2.2 = b.2.2 := by
  obtain ⟨⟨a1, a2⟩, ⟨a3, a4⟩⟩ := a
  obtain ⟨⟨b1, b2⟩, ⟨b3, b4⟩⟩ := b
  simp only [Prod.mk.injEq]
  constructor
  · rintro ⟨⟨h1, h2⟩, h3, h4⟩; exact ⟨h1, h2, h3, h4⟩
  · rintro ⟨h1, h2, h3, h4⟩; exact ⟨⟨h1, h2⟩, h3, h4⟩
instance (a b : Tch) : Decidable (ltT a b) := decidable_of_iff _ (ltT_iff a b).symm
def leT (a b : Tch) : Bool := !decide (ltT b a)
theorem dle_t (a b : Tch) : PySem.W.dataLe false id (tcD a) (tcD b) = leT a b := by
  show (!PySem.W.dataLt (tcD b) (tcD a)) = leT a b
  unfold leT
  congr 1
  rw [Bool.eq_iff_iff, lt_t, decide_eq_true_eq]
theorem srt_t (ts : List Tch) (hnd : ts.Nodup) : ∃ us : List Tch, srt (ts.map tcD) = us.map tcD ∧ us.Perm ts ∧ us.Pairwise ltT := by
  refine ⟨ts.mergeSort leT, ?_, List.mergeSort_perm _ _, ?_⟩
  · unfold srt
    rw [List.map_mergeSort (s := PySem.W.dataLe false id)]
    intro a _ b _
    exact (dle_t a b).symm
  · have h1 := List.pairwise_mergeSort (le := leT) (fun a b c h1 h2 => by
      unfold leT at h1 h2 ⊢
      simp only [Bool.not_eq_true', decide_eq_false_iff_not, ltT_iff] at h1 h2 ⊢
      omega) (fun a b => by
      unfold leT
      by_cases h : ltT b a
      · have : ¬ ltT a b := by rw [ltT_iff] at h ⊢; omega
        simp [this]
      · simp [h]) ts
    have h2 : (ts.mergeSort leT).Nodup := (List.mergeSort_perm ts leT).nodup_iff.mpr hnd
    refine (List.Pairwise.and h1 h2).imp ?_
    rintro a b ⟨h3, h4⟩
    unfold leT at h3
    simp only [Bool.not_eq_true', decide_eq_false_iff_not] at h3
    rw [ltT_iff] at h3 ⊢
    rw [Ne, tch_eq] at h4
    omega
def tW (ts : List Tch) : List W := (ts.map tcD).map W.d
theorem map_erase {α β : Type} (f : α → β) : ∀ (l : List α) (i : Nat), (l.map f).eraseIdx i = (l.eraseIdx i).map f
  | [], i => rfl
  | a :: l, 0 => rfl
  | a :: l, i + 1 => by simp [map_erase f l i]
theorem pop_o {S : Sto} {a : Nat} {fl : List Spot} (h : S[a]? = some (.lst (spW fl))) {i : Nat} {s : Spot} (hi : fl[i]? = some s) (hl : fl.length ≤ 100) : gPopAt (.o a) [.d (.int (i : Nat))] S = some (.d (sD s), S.set a (.lst (spW (fl.eraseIdx i)))) := by
  have hlt := (List.getElem?_eq_some_iff.mp hi).1
  have e0 : (spW fl).length = fl.length := by simp [spW]
  have e1 : L2.ixN (spW fl).length ((i : Nat) : Int) = some i := by
    unfold L2.ixN
    rw [if_pos (by omega), if_pos (by rw [e0]; omega)]
    simp
  have e2 : (spW fl)[i]? = some (.d (sD s)) := by simp [spW, hi]
  have e3 : (spW fl).eraseIdx i = spW (fl.eraseIdx i) := by
    unfold spW
    rw [map_erase, map_erase]
  unfold gPopAt
  simp only [h, e1, e2, e3]
  rw [if_pos (by unfold szOk; rw [e0]; simp; omega)]
  rfl
theorem al2 (s t : Spot) : alikeOk [sD s, sD t] = true := by
  unfold alikeOk
  have h : ∀ s : Spot, isNn (sD s) = false ∧ (sD s).depth ≤ 60 := fun s => ⟨rfl, by show 1 ≤ 60; decide⟩
  simp [al_s, (h s).1, (h t).1, (h s).2, (h t).2]
theorem mm_s {f : PyData → List PyData → PyData} (s t : Spot) (S : Sto) : gMM f 2 [.d (sD s), .d (sD t)] S = some (.d (f (sD s) [sD t]), S) := by
  show (if ([W.d (sD s), W.d (sD t)] : List W).length = 2 ∧ alikeOk [sD s, sD t] = true then some (W.d (f (sD s) [sD t]), S) else none) = _
  rw [if_pos ⟨rfl, al2 s t⟩]
def mkT (s t : Spot) : Tch := if ltS t s then (t, s) else (s, t)
theorem min_s (s t : Spot) : PySem.W.minD (sD s) [sD t] = sD (mkT s t).1 := by
  show (if PySem.W.dataLt (sD t) (sD s) = true then sD t else sD s) = _
  rw [lt_s]
  unfold mkT
  by_cases h : ltS t s <;> simp [h]
theorem max_s (s t : Spot) (hne : s ≠ t) : PySem.W.maxD (sD s) [sD t] = sD (mkT s t).2 := by
  show (if PySem.W.dataLt (sD s) (sD t) = true then sD t else sD s) = _
  rw [lt_s]
  unfold mkT
  have h0 : ¬ (s.1 = t.1 ∧ s.2 = t.2) := fun z => hne (Prod.ext z.1 z.2)
  by_cases h : ltS t s
  · have : ¬ ltS s t := by unfold ltS at h ⊢; omega
    simp [h, this]
  · have : ltS s t := by unfold ltS at h ⊢; omega
    simp [h, this]
theorem mkT_lt (s t : Spot) (hne : s ≠ t) : ltS (mkT s t).1 (mkT s t).2 := by
  have h0 : ¬ (s.1 = t.1 ∧ s.2 = t.2) := fun z => hne (Prod.ext z.1 z.2)
  unfold mkT
  by_cases h : ltS t s
  · simp [h]
  · have : ltS s t := by unfold ltS at h ⊢; omega
    simp [h, this]
theorem mkT_perm (s t : Spot) : [(mkT s t).1, (mkT s t).2].Perm [s, t] := by
  unfold mkT
  by_cases h : ltS t s
  · simp only [h, if_true]; exact List.Perm.swap _ _ _
  · simp only [h, if_false]; exact List.Perm.refl _
end G
set_option Elab.async false
set_option linter.all false
set_option maxRecDepth 100000
set_option maxHeartbeats 4000000
/-! M16: touches drawn, the loops -/
namespace G
open PySem PySem.Spec L2 PyProof.Rows
set_option autoImplicit false
theorem spW_app (a b : List Spot) : spW (a ++ b) = spW a ++ spW b := by simp [spW]
theorem len_o {S : Sto} {a : Nat} {ws : List W} (h : S[a]? = some (.lst ws)) : gLen [.o a] S = some (.d (.int ws.length), S) := by
  unfold gLen
  simp only [seq_o h]
end G
set_option Elab.async false
set_option linter.all false
set_option maxRecDepth 100000
set_option maxHeartbeats 4000000
/-! M17: touches drawn -/
namespace G
open PySem PySem.Spec L2 PyProof.Rows
set_option autoImplicit false
theorem erase_perm {α : Type} : ∀ (l : List α) (i : Nat) (x : α), l[i]? = some x → l.Perm (x :: l.eraseIdx i)
  | [], i, x, h => by simp at h
  | a :: l, 0, x, h => by
    simp at h
    subst h
    exact List.Perm.refl _
  | a :: l, i + 1, x, h => by
    simp at h
    have := erase_perm l i x h
    rw [List.eraseIdx_cons_succ]
    exact (List.Perm.cons a this).trans (List.Perm.swap _ _ _)
theorem erase_len {α : Type} (l : List α) (i : Nat) (x : α) (h : l[i]? = some x) : (l.eraseIdx i).length + 1 = l.length := by
  have := (erase_perm l i x h).length_eq
  simpa using this.symm
theorem app_t {S : Sto} {c : Nat} {ts : List Tch} (t : Tch) (h : S[c]? = some (.lst (tW ts))) (hl : ts.length ≤ 100) : gApp (.o c) [.d (tcD t)] S = some (.d .none, S.set c (.lst (tW (ts ++ [t])))) := by
  unfold gApp
  simp only [h]
  rw [if_pos (by unfold szOk tW; simp; omega)]
  simp [tW]
end G
set_option Elab.async false
set_option linter.all false
set_option maxRecDepth 100000
set_option maxHeartbeats 4000000
/-! M18: machines drawn -/
namespace G
open PySem PySem.Spec L2 PyProof.Rows
set_option autoImplicit false
theorem cells_mem (cs : List Nat) (s : Spot) : s ∈ cells cs ↔ okS cs s := by
  unfold cells cellsZ okS
  rw [List.mem_flatMap]
  constructor
  · rintro ⟨q, hq, hs⟩
    obtain ⟨p, hp, rfl⟩ := List.mem_map.mp hs
    have hz := List.mem_zipIdx (x := q.1) (i := q.2) hq
    have hlt : q.2 < cs.length := by have := hz.2.1; omega
    refine ⟨q.1, ?_, by simpa using hp⟩
    rw [List.getElem?_eq_getElem hlt, hz.2.2]
    simp
  · rintro ⟨c, h1, h2⟩
    refine ⟨(c, s.1), List.mem_of_getElem? (zipIdx_at h1), ?_⟩
    exact List.mem_map.mpr ⟨s.2, by simpa using h2, rfl⟩
theorem cells_nodup (cs : List Nat) : (cells cs).Nodup := by
  unfold cells cellsZ
  rw [List.Nodup, List.pairwise_flatMap]
  refine ⟨fun q hq => ?_, ?_⟩
  · rw [List.pairwise_map]
    refine List.Pairwise.imp ?_ (List.nodup_range (n := q.1))
    intro a b hab z
    exact hab (by injection z)
  · have h1 : (cs.zipIdx.map Prod.snd).Nodup := by
      rw [List.zipIdx_map_snd]
      exact List.nodup_range'
    rw [List.Nodup, List.pairwise_map] at h1
    refine h1.imp ?_
    intro a b hab x hx y hy z
    obtain ⟨p, _, rfl⟩ := List.mem_map.mp hx
    obtain ⟨r, _, rfl⟩ := List.mem_map.mp hy
    exact hab (by injection z)
theorem datsOf_ds : ∀ ds : List PyData, datsOf (ds.map W.d) = some ds
  | [] => rfl
  | d :: ds => by
    show (match datsOf (ds.map W.d) with | some l => some (d :: l) | none => none) = _
    rw [datsOf_ds ds]
theorem sortOk_t (ts : List Tch) (hl : ts.length ≤ 1000) : sortOk (ts.map tcD) = true := by
  have h1 : ∀ t : Tch, isNn (tcD t) = false ∧ (tcD t).depth ≤ 60 ∧ isTup1 (tcD t) = true := fun t => ⟨rfl, by show 2 ≤ 60; decide, rfl⟩
  unfold sortOk alikeOk szOk
  simp [al_t, (h1 _).1, (h1 _).2.1, (h1 _).2.2]
  omega
theorem sort_o {S : Sto} {c : Nat} {ts us : List Tch} (h : S[c]? = some (.lst (tW ts))) (hl : ts.length ≤ 1000) (hs : srt (ts.map tcD) = us.map tcD) : gSort [.o c] S = some (.o S.length, S ++ [.lst (tW us)]) := by
  unfold gSort
  have : lstOf (.o c) S = some (tW ts) := by
    unfold lstOf
    simp only [h]
  simp only [this, tW, datsOf_ds]
  rw [if_pos (sortOk_t ts hl), hs]
theorem spotsOf_mem (ts : List Tch) (t : Tch) (h : t ∈ ts) : t.1 ∈ spotsOf ts ∧ t.2 ∈ spotsOf ts := by
  unfold spotsOf
  exact ⟨List.mem_flatMap.mpr ⟨t, h, by simp⟩, List.mem_flatMap.mpr ⟨t, h, by simp⟩⟩
end G
set_option Elab.async false
set_option linter.all false
set_option maxRecDepth 100000
set_option maxHeartbeats 4000000
/-! M19: loads drawn -/
namespace G
open PySem PySem.Spec L2 PyProof.Rows
set_option autoImplicit false
end G
set_option Elab.async false
set_option linter.all false
set_option maxRecDepth 100000
set_option maxHeartbeats 4000000
/-! M20: loads drawn -/
namespace G
open PySem PySem.Spec L2 PyProof.Rows
set_option autoImplicit false
end G
set_option Elab.async false
set_option linter.all false
set_option maxRecDepth 100000
set_option maxHeartbeats 4000000
/-! M21: the law's own readings, beats, sums -/
namespace G
open PySem PySem.Spec L2 PyProof.Rows
set_option autoImplicit false
@[simp] theorem gt_tt (t : Tch) (ρ : Slt) (S : Sto) (i j k l : Nat) : gTp 2 (gsCons (gTp 2 (gsCons (gNm i) (gsCons (gNm j) gsNil))) (gsCons (gTp 2 (gsCons (gNm k) (gsCons (gNm l) gsNil))) gsNil)) (.d (tcD t)) ρ S = some ((((ρ.set i (some (.d (.int (t.1.1 : Nat))))).set j (some (.d (.int (t.1.2 : Nat))))).set k (some (.d (.int (t.2.1 : Nat))))).set l (some (.d (.int (t.2.2 : Nat))))) := id rfl
@[simp] theorem ix_f0 (q : Rat) (S : Sto) : gIx (.d (fr q)) (.d (.int 0)) S = some (.d (.int q.num), S) := id rfl
@[simp] theorem ix_f1 (q : Rat) (S : Sto) : gIx (.d (fr q)) (.d (.int 1)) S = some (.d (.int (q.den : Nat)), S) := id rfl
section
variable {D M n k : Nat}
theorem Rmb.sm (hr : Rmb D M n k) {q : Rat} (h : Bd D M q) : Sm n q := h.sm hr.pos hr.here.1 (by
  have h1 := hr.here.2
  have : 1 * M * D ≤ 101 * M * D := Nat.mul_le_mul_right D (Nat.mul_le_mul_right M (by omega))
  rw [Nat.one_mul] at this
  omega)
end
end G
set_option Elab.async false
set_option linter.all false
set_option maxRecDepth 100000
set_option maxHeartbeats 4000000
/-! M22: the law's own beat, squares, what met -/
namespace G
open PySem PySem.Spec L2 PyProof.Rows
set_option autoImplicit false
theorem len_l (ds : List PyData) (S : Sto) : gLen [.d (.list ds)] S = some (.d (.int ds.length), S) := by
  show some (W.d (.int ((ds.map W.d).length : Nat)), S) = _
  rw [List.length_map]
/-! squares -/
/-- room for squares -/
structure Rmq (D M n : Nat) : Prop where
  pos : 0 < D
  d : 2 * (D * D) < 2 ^ n
  m : 1000 * (M * M) * (2 * (D * D)) < 2 ^ n
  n : n ≤ 3000
theorem Rmq.sm {D M n : Nat} (h : Rmq D M n) {q : Rat} {E N : Nat} (hq : Bd E N q) (h0 : 0 < E) (h1 : E ≤ 2 * (D * D)) (h2 : N ≤ 1000 * (M * M)) : Sm n q :=
  hq.sm h0 (Nat.lt_of_le_of_lt h1 h.d) (Nat.lt_of_le_of_lt (Nat.mul_le_mul h2 h1) h.m)
theorem sq_le (D : Nat) (h : 0 < D) : D ≤ D * D := Nat.le_mul_of_pos_left D h
theorem Rmq.one {D M n : Nat} (h : Rmq D M n) {q : Rat} (hq : Bd D M q) : Sm n q := by
  have h1 := sq_le D h.pos
  rcases Nat.eq_zero_or_pos M with hz | hz
  · exact h.sm hq h.pos (by omega) (by omega)
  · have := sq_le M hz
    exact h.sm hq h.pos (by omega) (by omega)
end G
set_option Elab.async false
set_option linter.all false
set_option maxRecDepth 100000
set_option maxHeartbeats 4000000
/-! M23: what met -/
namespace G
open PySem PySem.Spec L2 PyProof.Rows
set_option autoImplicit false
end G
set_option Elab.async false
set_option linter.all false
set_option maxRecDepth 100000
set_option maxHeartbeats 4000000
/-! M24: the plain laws of a beat -/
namespace G
open PySem PySem.Spec L2 PyProof.Rows
set_option autoImplicit false
/-- a sum over a list -/
def sm {α : Type} (h : α → Rat) : List α → Rat
  | [] => 0
  | x :: l => h x + sm h l
/-! turning -/
theorem spots_in {m : Mach} (ok : Ok m) : ∀ s ∈ spotsOf m.ts, s ∈ cells m.cs := fun s hs => by
  unfold spotsOf at hs
  obtain ⟨t, ht, h⟩ := List.mem_flatMap.mp hs
  have g := ok.good t ht
  rw [cells_mem]
  rcases List.mem_cons.mp h with rfl | h
  · exact g.1
  · have : s = t.2 := by simpa using h
    rw [this]; exact g.2.1
/-! sums of loads -/
end G
set_option Elab.async false
set_option linter.all false
set_option maxRecDepth 100000
set_option maxHeartbeats 4000000
/-! M25: equal data, one turn of the law's going -/
namespace G
open PySem PySem.Spec L2 PyProof.Rows
set_option autoImplicit false
/-- data of numbers and rows, so deep at most -/
structure Pl (n : Nat) (d : PyData) : Prop where
  lay : d.canLay0 = true
  dep : d.depth ≤ n
  ref : PyData.eqv d d = true
theorem pl_int (i : Int) : Pl 0 (.int i) := ⟨rfl, Nat.le_refl 0, by simp [PyData.eqv]⟩
theorem pl_all {n : Nat} : ∀ {l : List PyData}, (∀ x ∈ l, Pl n x) → PyData.canLayAll0 l = true ∧ PyData.depthAll l ≤ n ∧ PyData.eqvAll l l = true
  | [], _ => ⟨rfl, Nat.zero_le _, rfl⟩
  | x :: l, h => by
    obtain ⟨h1, h2, h3⟩ := pl_all fun y hy => h y (List.mem_cons_of_mem _ hy)
    have hx := h x (by simp)
    refine ⟨?_, ?_, ?_⟩
    · simp only [PyData.canLayAll0, hx.lay, h1, Bool.and_self]
    · simp only [PyData.depthAll]; have := hx.dep; omega
    · simp only [PyData.eqvAll, hx.ref, h3, Bool.and_self]
theorem pl_tup {n : Nat} {l : List PyData} (h : ∀ x ∈ l, Pl n x) : Pl (n + 1) (.tuple l) := by
  obtain ⟨h1, h2, h3⟩ := pl_all h
  exact ⟨by simp only [PyData.canLay0, h1], by simp only [PyData.depth]; omega, by simp only [PyData.eqv, h3]⟩
theorem pl_lst {n : Nat} {l : List PyData} (h : ∀ x ∈ l, Pl n x) : Pl (n + 1) (.list l) := by
  obtain ⟨h1, h2, h3⟩ := pl_all h
  exact ⟨by simp only [PyData.canLay0, h1], by simp only [PyData.depth]; omega, by simp only [PyData.eqv, h3]⟩
theorem Pl.shp {n : Nat} {d : PyData} (h : Pl n d) (hn : n ≤ 64) : SeqAt.shaped d = true := by
  unfold SeqAt.shaped
  rw [h.lay, Bool.true_and, decide_eq_true_eq]
  have := h.dep
  omega
theorem ne_self {n : Nat} {d : PyData} (h : Pl n d) (hn : n ≤ 64) (S : Sto) : dEq true (.d d) (.d d) S = some (.d (.bool false), S) := by
  rw [dEq_d true (h.shp hn) (h.shp hn), h.ref]
  rfl
@[simp] theorem ev_neg1 (ρ : Slt) (S : Sto) : fNeg (fC (.d (.int 1))) ρ S = .ok (.d (.int (-1))) S := rfl
theorem Rmq.mono {D E M n : Nat} (h : Rmq E M n) (h0 : 0 < D) (hd : D ≤ E) : Rmq D M n := by
  have h1 : D * D ≤ E * E := Nat.mul_le_mul hd hd
  exact ⟨h0, Nat.lt_of_le_of_lt (Nat.mul_le_mul_left 2 h1) h.d, Nat.lt_of_le_of_lt (Nat.mul_le_mul_left _ (Nat.mul_le_mul_left 2 h1)) h.m, h.n⟩
theorem Rmq.l {D M n : Nat} (h : Rmq D M n) : D * D < 2 ^ n ∧ 101 * (M * M) * (D * D) < 2 ^ n := by
  have h1 := h.d
  have h2 : 101 * (M * M) * (D * D) ≤ 1000 * (M * M) * (2 * (D * D)) := Nat.mul_le_mul (Nat.mul_le_mul_right _ (by omega)) (by omega)
  exact ⟨by omega, Nat.lt_of_le_of_lt h2 h.m⟩
end G
set_option Elab.async false
set_option linter.all false
set_option maxRecDepth 100000
set_option maxHeartbeats 4000000
/-! T1: wheels that hang together, in plain Lean -/
namespace G
open PySem PySem.Spec L2 PyProof.Rows
set_option autoImplicit false
inductive Con (ts : List Tch) : Nat → Nat → Prop
  | refl (a : Nat) : Con ts a a
  | one {a : Nat} (t : Tch) (h : t ∈ ts) : Con ts a t.1.1 → Con ts a t.2.1
  | two {a : Nat} (t : Tch) (h : t ∈ ts) : Con ts a t.2.1 → Con ts a t.1.1
section
variable {ts us : List Tch} {a b c n : Nat}
theorem Con.trans (h : Con ts a b) (h2 : Con ts b c) : Con ts a c := by
  induction h2 with
  | refl => exact h
  | one t ht _ ih => exact .one t ht ih
  | two t ht _ ih => exact .two t ht ih
theorem Con.symm (h : Con ts a b) : Con ts b a := by
  induction h with
  | refl => exact .refl _
  | one t ht _ ih => exact Con.trans (.two t ht (.refl _)) ih
  | two t ht _ ih => exact Con.trans (.one t ht (.refl _)) ih
theorem Con.mono (s : ∀ t ∈ ts, t ∈ us) (h : Con ts a b) : Con us a b := by
  induction h with
  | refl => exact .refl _
  | one t ht _ ih => exact .one t (s t ht) ih
  | two t ht _ ih => exact .two t (s t ht) ih
def lv (l : List Nat) (w : Nat) : Nat := l.getD w 0
/-- of each wheel the least one that it hangs together with -/
structure Lst (n : Nat) (ts : List Tch) (l : List Nat) : Prop where
  len : l.length = n
  le : ∀ w, w < n → lv l w ≤ w
  con : ∀ w, w < n → Con ts w (lv l w)
  eq : ∀ t ∈ ts, lv l t.1.1 = lv l t.2.1
theorem Lst.same {l : List Nat} (h : Lst n ts l) (c : Con ts a b) : lv l a = lv l b := by
  induction c with
  | refl => rfl
  | one t ht _ ih => rw [ih, h.eq t ht]
  | two t ht _ ih => rw [ih, h.eq t ht]
theorem Lst.lt {l : List Nat} (h : Lst n ts l) {w : Nat} (hw : w < n) : lv l w < n := Nat.lt_of_le_of_lt (h.le w hw) hw
theorem Lst.idem {l : List Nat} (h : Lst n ts l) {w : Nat} (hw : w < n) : lv l (lv l w) = lv l w := (h.same (h.con w hw)).symm
theorem Lst.iff {l : List Nat} (h : Lst n ts l) (ha : a < n) (hb : b < n) : lv l a = lv l b ↔ Con ts a b :=
  ⟨fun e => (h.con a ha).trans (e ▸ (h.con b hb).symm), h.same⟩
theorem lv_ext {l l' : List Nat} (hl : l.length = n) (hl' : l'.length = n) (h : ∀ w, w < n → lv l w = lv l' w) : l = l' := by
  apply List.ext_getElem (by rw [hl, hl'])
  intro i h1 h2
  have := h i (by omega)
  unfold lv at this
  rw [List.getD_eq_getElem?_getD, List.getD_eq_getElem?_getD, List.getElem?_eq_getElem h1, List.getElem?_eq_getElem h2] at this
  exact this
theorem Lst.low {l : List Nat} (h : Lst n ts l) {w v : Nat} (hv : v < n) (c : Con ts w v) : lv l w ≤ v := by
  rw [h.same c]
  exact h.le v hv
theorem Lst.uniq {l l' : List Nat} (h : Lst n ts l) (h' : Lst n ts l') : l = l' := lv_ext h.len h'.len fun w hw =>
  Nat.le_antisymm (h.low (h'.lt hw) (h'.con w hw)) (h'.low (h.lt hw) (h.con w hw))
theorem lv_map {l : List Nat} (f : Nat → Nat) {w : Nat} (hw : w < l.length) : lv (l.map f) w = f (lv l w) := by
  unfold lv
  rw [List.getD_eq_getElem?_getD, List.getD_eq_getElem?_getD, List.getElem?_map, List.getElem?_eq_getElem hw]
  rfl
theorem lst_range (n : Nat) : Lst n [] (List.range n) := by
  have e : ∀ w, w < n → lv (List.range n) w = w := fun w hw => by
    unfold lv
    rw [List.getD_eq_getElem?_getD, List.getElem?_eq_getElem (by simpa using hw)]
    simp
  exact ⟨by simp, fun w hw => by rw [e w hw]; exact Nat.le_refl _, fun w hw => by rw [e w hw]; exact .refl _, fun t ht => by cases ht⟩
/-- a touch joins two -/
def joinF (l : List Nat) (t : Tch) : List Nat := l.map fun x => if x = max (lv l t.1.1) (lv l t.2.1) then min (lv l t.1.1) (lv l t.2.1) else x
theorem Lst.join {l : List Nat} (h : Lst n ts l) {t : Tch} (h1 : t.1.1 < n) (h2 : t.2.1 < n) (hts : ∀ u ∈ ts, u.1.1 < n ∧ u.2.1 < n) : Lst n (ts ++ [t]) (joinF l t) := by
  have e : ∀ w, w < n → lv (joinF l t) w = if lv l w = max (lv l t.1.1) (lv l t.2.1) then min (lv l t.1.1) (lv l t.2.1) else lv l w := fun w hw => lv_map _ (by rw [h.len]; exact hw)
  have sub : ∀ u ∈ ts, u ∈ ts ++ [t] := fun u hu => by simp [hu]
  have c12 : Con (ts ++ [t]) t.1.1 t.2.1 := .one t (by simp) (.refl _)
  refine ⟨by unfold joinF; rw [List.length_map, h.len], fun w hw => ?_, fun w hw => ?_, fun u hu => ?_⟩
  · rw [e w hw]
    have := h.le w hw
    split <;> omega
  · rw [e w hw]
    have cw := (h.con w hw).mono sub
    split
    · rename_i hm
      have k1 := (h.con _ h1).mono sub
      have k2 := (h.con _ h2).mono sub
      have ca : Con (ts ++ [t]) (lv l t.1.1) (lv l t.2.1) := (k1.symm.trans c12).trans k2
      by_cases hle : lv l t.1.1 ≤ lv l t.2.1
      · rw [Nat.max_eq_right hle] at hm
        rw [Nat.min_eq_left hle]
        rw [hm] at cw
        exact cw.trans ca.symm
      · rw [Nat.max_eq_left (by omega)] at hm
        rw [Nat.min_eq_right (by omega)]
        rw [hm] at cw
        exact cw.trans ca
    · exact cw
  · rcases List.mem_append.mp hu with hu | hu
    · obtain ⟨q1, q2⟩ := hts u hu
      rw [e _ q1, e _ q2, h.eq u hu]
    · have : u = t := by simpa using hu
      subst this
      rw [e _ h1, e _ h2]
      by_cases hle : lv l u.1.1 ≤ lv l u.2.1
      · rw [Nat.max_eq_right hle, Nat.min_eq_left hle]
        split <;> split <;> omega
      · rw [Nat.max_eq_left (by omega), Nat.min_eq_right (by omega)]
        split <;> split <;> omega
/-- by the program -/
def lowsP (n : Nat) (ts : List Tch) : List Nat := ts.foldl joinF (List.range n)
theorem lst_fold (hts : ∀ u ∈ ts, u.1.1 < n ∧ u.2.1 < n) : Lst n ts (lowsP n ts) := by
  have : ∀ (vs us : List Tch) (l : List Nat), Lst n us l → (∀ u ∈ us ++ vs, u.1.1 < n ∧ u.2.1 < n) → Lst n (us ++ vs) (vs.foldl joinF l) := fun vs => by
    induction vs with
    | nil => intro us l h _; simpa using h
    | cons t vs ih =>
      intro us l h hu
      have ht := hu t (by simp)
      have := ih (us ++ [t]) (joinF l t) (h.join ht.1 ht.2 fun u hu' => hu u (by simp [hu'])) (fun u hu' => hu u (by simpa using hu'))
      simpa using this
  have := this ts [] (List.range n) (lst_range n) (by simpa using hts)
  rw [List.nil_append] at this
  exact this
/-! by the law's own sweeps -/
def lowerF (l : List Nat) (t : Tch) : List Nat := (l.set t.1.1 (min (lv l t.1.1) (lv l t.2.1))).set t.2.1 (min (lv l t.1.1) (lv l t.2.1))
def sweep (ts : List Tch) (l : List Nat) : List Nat := ts.foldl lowerF l
theorem lv_set {l : List Nat} {i x w : Nat} (hi : i < l.length) : lv (l.set i x) w = if i = w then x else lv l w := by
  unfold lv
  rw [List.getD_eq_getElem?_getD, List.getD_eq_getElem?_getD]
  by_cases h : i = w
  · subst h
    rw [List.getElem?_set_self hi, if_pos rfl]
    rfl
  · rw [List.getElem?_set_ne h, if_neg h]
theorem lower_at {l : List Nat} {t : Tch} (h1 : t.1.1 < l.length) (h2 : t.2.1 < l.length) (w : Nat) : lv (lowerF l t) w = if w = t.1.1 ∨ w = t.2.1 then min (lv l t.1.1) (lv l t.2.1) else lv l w := by
  unfold lowerF
  rw [lv_set (by simpa using h2), lv_set h1]
  by_cases e2 : t.2.1 = w
  · rw [if_pos e2, if_pos (.inr e2.symm)]
  · rw [if_neg e2]
    by_cases e1 : t.1.1 = w
    · rw [if_pos e1, if_pos (.inl e1.symm)]
    · rw [if_neg e1, if_neg (by rintro (h | h); exact e1 h.symm; exact e2 h.symm)]
/-- what holds all along: at least the least, got less -/
structure Mid (n : Nat) (ts : List Tch) (m l : List Nat) : Prop where
  len : l.length = n
  lo : ∀ w, w < n → lv m w ≤ lv l w
  le : ∀ w, w < n → lv l w ≤ w
theorem Mid.step {m l : List Nat} (hm : Lst n ts m) (h : Mid n ts m l) {t : Tch} (ht : t ∈ ts) (h1 : t.1.1 < n) (h2 : t.2.1 < n) : Mid n ts m (lowerF l t) ∧ ∀ w, lv (lowerF l t) w ≤ lv l w := by
  have e := fun w => lower_at (l := l) (t := t) (by rw [h.len]; exact h1) (by rw [h.len]; exact h2) w
  have eq := hm.eq t ht
  have l1 := h.lo _ h1
  have l2 := h.lo _ h2
  have g1 := h.le _ h1
  have g2 := h.le _ h2
  refine ⟨⟨by unfold lowerF; simp [h.len], fun w hw => ?_, fun w hw => ?_⟩, fun w => ?_⟩
  · rw [e]
    split
    · rename_i hc
      rcases hc with rfl | rfl <;> omega
    · exact h.lo w hw
  · rw [e]
    split
    · rename_i hc
      rcases hc with rfl | rfl <;> omega
    · exact h.le w hw
  · rw [e]
    split
    · rename_i hc
      rcases hc with rfl | rfl <;> omega
    · exact Nat.le_refl _
def sweeps (ts : List Tch) : Nat → List Nat → List Nat
  | 0, l => l
  | k + 1, l => sweeps ts k (sweep ts l)
/-! lots -/
/-- the lot of a least wheel -/
def lotL (n : Nat) (l : List Nat) (low : Nat) : List Nat := (List.range n).filter fun w => decide (lv l w = low)
theorem lotL_mem {l : List Nat} {low w : Nat} : w ∈ lotL n l low ↔ w < n ∧ lv l w = low := by
  unfold lotL
  simp
end
end G
set_option Elab.async false
set_option linter.all false
set_option maxRecDepth 100000
set_option maxHeartbeats 4000000
/-! T2: shifts of a lot, in plain Lean -/
namespace G
open PySem PySem.Spec L2 PyProof.Rows
set_option autoImplicit false
abbrev Sh := List (Nat × Int)
def look : Sh → Nat → Option Int
  | [], _ => none
  | (k, v) :: r, w => if k = w then some v else look r w
def lk (F : Sh) (w : Nat) : Int := (look F w).getD 0
def keys (F : Sh) : List Nat := F.map (·.1)
theorem look_app : ∀ (F G : Sh) (w : Nat), look (F ++ G) w = match look F w with | some v => some v | none => look G w
  | [], G, w => rfl
  | (k, v) :: r, G, w => by
    show (if k = w then some v else look (r ++ G) w) = match (if k = w then some v else look r w) with | some v => some v | none => look G w
    by_cases h : k = w
    · simp [h]
    · simp only [h, if_false]
      exact look_app r G w
theorem look_mem : ∀ {F : Sh} {w : Nat}, (look F w).isSome = true ↔ w ∈ keys F
  | [], w => by simp [look, keys]
  | (k, v) :: r, w => by
    show (if k = w then some v else look r w).isSome = true ↔ w ∈ k :: keys r
    by_cases h : k = w
    · simp [h]
    · simp only [h, if_false, List.mem_cons]
      rw [look_mem (F := r)]
      exact ⟨.inr, fun q => q.resolve_left fun z => h z.symm⟩
theorem look_none {F : Sh} {w : Nat} : look F w = none ↔ w ∉ keys F := by
  rw [← look_mem]
  cases look F w <;> simp
theorem look_some {F : Sh} {w : Nat} (h : w ∈ keys F) : look F w = some (lk F w) := by
  have := look_mem.mpr h
  unfold lk
  cases e : look F w with
  | none => rw [e] at this; cases this
  | some v => rfl
theorem keys_app (F G : Sh) : keys (F ++ G) = keys F ++ keys G := by simp [keys]
theorem lk_app {F G : Sh} {w : Nat} (h : w ∈ keys F) : lk (F ++ G) w = lk F w := by
  unfold lk
  rw [look_app, look_some h]
theorem nodup_le : ∀ {l m : List Nat}, l.Nodup → (∀ x ∈ l, x ∈ m) → l.length ≤ m.length
  | [], m, _, _ => Nat.zero_le _
  | x :: l, m, h, s => by
    have h' := List.nodup_cons.mp h
    have hx := s x (by simp)
    have := nodup_le (l := l) (m := m.erase x) h'.2 fun y hy => by
      have hne : y ≠ x := fun e => h'.1 (e ▸ hy)
      exact (List.mem_erase_of_ne hne).mpr (s y (by simp [hy]))
    rw [List.length_erase_of_mem hx] at this
    have : 0 < m.length := List.length_pos_of_mem hx
    rw [List.length_cons]
    omega
/-! ### by the program -/
def put1 (F : Sh) (a b : Spot) : Sh := if a.1 ∈ keys F ∧ b.1 ∉ keys F then F ++ [(b.1, lk F a.1 + (a.2 : Nat) - (b.2 : Nat))] else F
def putT (F : Sh) (t : Tch) : Sh := put1 (put1 F t.1 t.2) t.2 t.1
def passF (ts : List Tch) (F : Sh) : Sh := ts.foldl putT F
/-- shifts by which all touches of a lot are alike -/
def Kap (ts : List Tch) (r : Nat) (p : Int) (κ : Nat → Int) : Prop := ∀ t ∈ ts, Con ts r t.1.1 → p ∣ κ t.1.1 + (t.1.2 : Nat) - κ t.2.1 - (t.2.2 : Nat)
structure Tr (ts : List Tch) (r : Nat) (F : Sh) : Prop where
  nd : (keys F).Nodup
  root : look F r = some 0
  con : ∀ w ∈ keys F, Con ts r w
  sh : ∀ (κ : Nat → Int) (p : Int), Kap ts r p κ → ∀ w ∈ keys F, p ∣ κ w - κ r - lk F w
section
variable {ts us : List Tch} {r : Nat} {F : Sh}
theorem tr_root (ts : List Tch) (r : Nat) : Tr ts r [(r, 0)] := by
  have e : look [(r, (0 : Int))] r = some 0 := by simp [look]
  refine ⟨by simp [keys], e, fun w hw => ?_, fun κ p _ w hw => ?_⟩
  · simp [keys] at hw; subst hw; exact .refl _
  · simp [keys] at hw; subst hw
    unfold lk
    rw [e]
    simp
/-- two spots of a touch, either ahead -/
def Ends (ts : List Tch) (a b : Spot) : Prop := (a, b) ∈ ts ∨ (b, a) ∈ ts
theorem Ends.con {a b : Spot} (h : Ends ts a b) : Con ts a.1 b.1 := by
  rcases h with h | h
  · exact .one (a, b) h (.refl _)
  · exact .two (b, a) h (.refl _)
theorem Kap.ends {p : Int} {κ : Nat → Int} (k : Kap ts r p κ) {a b : Spot} (h : Ends ts a b) (c : Con ts r a.1) : p ∣ κ a.1 + (a.2 : Nat) - κ b.1 - (b.2 : Nat) := by
  rcases h with q | q
  · exact k _ q c
  · have := k _ q (c.trans (Ends.con (.inr q)))
    have e : κ a.1 + (a.2 : Nat) - κ b.1 - (b.2 : Nat) = -(κ b.1 + (b.2 : Nat) - κ a.1 - (a.2 : Nat)) := by omega
    rw [e]
    exact Int.dvd_neg.mpr this
theorem Tr.put (h : Tr ts r F) {a b : Spot} (e : Ends ts a b) : Tr ts r (put1 F a b) := by
  unfold put1
  split
  · rename_i hc
    obtain ⟨ha, hb⟩ := hc
    have ca := h.con _ ha
    refine ⟨?_, ?_, fun w hw => ?_, fun κ p k w hw => ?_⟩
    · rw [keys_app, List.nodup_append]
      exact ⟨h.nd, by simp [keys], fun x hx y hy => by simp [keys] at hy; subst hy; exact fun z => hb (z ▸ hx)⟩
    · rw [look_app, h.root]
    · rw [keys_app] at hw
      rcases List.mem_append.mp hw with hw | hw
      · exact h.con w hw
      · simp [keys] at hw; subst hw
        exact ca.trans e.con
    · rw [keys_app] at hw
      rcases List.mem_append.mp hw with hw | hw
      · rw [lk_app hw]
        exact h.sh κ p k w hw
      · simp [keys] at hw; subst hw
        have e1 : lk (F ++ [(b.1, lk F a.1 + (a.2 : Nat) - (b.2 : Nat))]) b.1 = lk F a.1 + (a.2 : Nat) - (b.2 : Nat) := by
          conv => lhs; unfold lk
          rw [look_app, look_none.mpr hb]
          simp [look]
          rfl
        rw [e1]
        have d1 := h.sh κ p k a.1 ha
        have d2 := k.ends e ca
        have : κ b.1 - κ r - (lk F a.1 + (a.2 : Nat) - (b.2 : Nat)) = (κ a.1 - κ r - lk F a.1) - (κ a.1 + (a.2 : Nat) - κ b.1 - (b.2 : Nat)) := by omega
        rw [this]
        exact Int.dvd_sub d1 d2
  · exact h
theorem Tr.putT (h : Tr ts r F) {t : Tch} (ht : t ∈ ts) : Tr ts r (G.putT F t) := (h.put (.inl ht)).put (.inr ht)
theorem Tr.pass : ∀ {us : List Tch} {F : Sh}, Tr ts r F → (∀ t ∈ us, t ∈ ts) → Tr ts r (us.foldl G.putT F)
  | [], _, h, _ => h
  | t :: us, _, h, s => Tr.pass (us := us) (h.putT (s t (by simp))) fun u hu => s u (by simp [hu])
theorem put1_sub (F : Sh) (a b : Spot) : (∀ w ∈ keys F, w ∈ keys (put1 F a b)) ∧ F.length ≤ (put1 F a b).length := by
  unfold put1
  split
  · exact ⟨fun w hw => by rw [keys_app]; simp [hw], by simp⟩
  · exact ⟨fun w hw => hw, Nat.le_refl _⟩
theorem putT_sub (F : Sh) (t : Tch) : (∀ w ∈ keys F, w ∈ keys (G.putT F t)) ∧ F.length ≤ (G.putT F t).length := by
  obtain ⟨a1, a2⟩ := put1_sub F t.1 t.2
  obtain ⟨b1, b2⟩ := put1_sub (put1 F t.1 t.2) t.2 t.1
  exact ⟨fun w hw => b1 w (a1 w hw), Nat.le_trans a2 b2⟩
theorem pass_sub : ∀ (us : List Tch) (F : Sh), (∀ w ∈ keys F, w ∈ keys (us.foldl G.putT F)) ∧ F.length ≤ (us.foldl G.putT F).length
  | [], F => ⟨fun w h => h, Nat.le_refl _⟩
  | t :: us, F => by
    obtain ⟨a1, a2⟩ := putT_sub F t
    obtain ⟨b1, b2⟩ := pass_sub us (G.putT F t)
    exact ⟨fun w hw => b1 w (a1 w hw), Nat.le_trans a2 b2⟩
/-- a pass that can grow grows -/
theorem pass_grows : ∀ {us : List Tch} {F : Sh} {t : Tch}, t ∈ us → ¬ (t.1.1 ∈ keys F ↔ t.2.1 ∈ keys F) → F.length < (us.foldl G.putT F).length
  | u :: us, F, t, ht, hn => by
    obtain ⟨b1, b2⟩ := pass_sub us (G.putT F u)
    obtain ⟨a1, a2⟩ := putT_sub F u
    by_cases hl : F.length < (G.putT F u).length
    · exact Nat.lt_of_lt_of_le hl b2
    have same : G.putT F u = F := by
      unfold G.putT at hl ⊢
      have q1 := (put1_sub F u.1 u.2).2
      have q2 := (put1_sub (put1 F u.1 u.2) u.2 u.1).2
      have e1 : put1 F u.1 u.2 = F := by
        unfold put1 at q1 q2 hl ⊢
        split
        · rename_i hc
          exfalso
          rw [if_pos hc] at q2 hl
          simp at q2 hl
          omega
        · rfl
      rw [e1] at hl ⊢
      unfold put1 at hl ⊢
      split
      · rename_i hc
        rw [if_pos hc] at hl
        simp at hl
      · rfl
    rcases List.mem_cons.mp ht with e | ht
    · subst e
      exfalso
      apply hn
      unfold G.putT at same
      have q1 := (put1_sub F t.1 t.2).2
      have q2 := (put1_sub (put1 F t.1 t.2) t.2 t.1).2
      have k1 : ¬ (t.1.1 ∈ keys F ∧ t.2.1 ∉ keys F) := fun hc => by
        have : (put1 F t.1 t.2).length = F.length + 1 := by unfold put1; rw [if_pos hc]; simp
        have := congrArg List.length same
        omega
      have e1 : put1 F t.1 t.2 = F := by unfold put1; rw [if_neg k1]
      rw [e1] at same
      have k2 : ¬ (t.2.1 ∈ keys F ∧ t.1.1 ∉ keys F) := fun hc => by
        have : (put1 F t.2 t.1).length = F.length + 1 := by unfold put1; rw [if_pos hc]; simp
        have := congrArg List.length same
        omega
      exact ⟨fun x => Classical.not_not.mp fun y => k1 ⟨x, y⟩, fun x => Classical.not_not.mp fun y => k2 ⟨x, y⟩⟩
    · show F.length < (us.foldl G.putT (G.putT F u)).length
      rw [same]
      exact pass_grows ht hn
/-- the wheels of a lot -/
structure Lot (n : Nat) (ts : List Tch) (r : Nat) (L : List Nat) : Prop where
  hd : L.head? = some r
  nd : L.Nodup
  mem : ∀ w, w ∈ L ↔ w < n ∧ Con ts r w
theorem Lot.root {n : Nat} {L : List Nat} (h : Lot n ts r L) : r < n := by
  have : r ∈ L := List.mem_of_head? h.hd
  exact ((h.mem r).mp this).1
theorem con_lt {n : Nat} (hts : ∀ t ∈ ts, t.1.1 < n ∧ t.2.1 < n) (hr : r < n) {w : Nat} (c : Con ts r w) : w < n := by
  induction c with
  | refl => exact hr
  | one t ht _ _ => exact (hts t ht).2
  | two t ht _ _ => exact (hts t ht).1
theorem closed_all (hr : r ∈ keys F) (hall : ∀ t ∈ ts, (t.1.1 ∈ keys F ↔ t.2.1 ∈ keys F)) : ∀ w, Con ts r w → w ∈ keys F := fun w c => by
  induction c with
  | refl => exact hr
  | one t ht _ ih => exact (hall t ht).mp ih
  | two t ht _ ih => exact (hall t ht).mpr ih
theorem Tr.mem_root (h : Tr ts r F) : r ∈ keys F := look_mem.mp (by rw [h.root]; rfl)
theorem Tr.grow {n : Nat} {L : List Nat} (h : Tr ts r F) (hL : Lot n ts r L) (hl : F.length < L.length) : F.length < (passF ts F).length := by
  apply Classical.byContradiction
  intro hn
  have hall : ∀ t ∈ ts, (t.1.1 ∈ keys F ↔ t.2.1 ∈ keys F) := fun t ht => Classical.not_not.mp fun z => hn (pass_grows ht z)
  have := nodup_le hL.nd (m := keys F) fun w hw => closed_all h.mem_root hall w ((hL.mem w).mp hw).2
  rw [show (keys F).length = F.length by simp [keys]] at this
  omega
theorem Tr.le {n : Nat} {L : List Nat} (h : Tr ts r F) (hL : Lot n ts r L) (hts : ∀ t ∈ ts, t.1.1 < n ∧ t.2.1 < n) : F.length ≤ L.length := by
  have := nodup_le h.nd (m := L) fun w hw => (hL.mem w).mpr ⟨con_lt hts hL.root (h.con w hw), h.con w hw⟩
  rwa [show (keys F).length = F.length by simp [keys]] at this
/-- all passes -/
def growF (ts : List Tch) (N : Nat) : Nat → Sh → Sh
  | 0, F => F
  | k + 1, F => if F.length < N then growF ts N k (passF ts F) else F
theorem grow_ok {n : Nat} {L : List Nat} (hL : Lot n ts r L) (hts : ∀ t ∈ ts, t.1.1 < n ∧ t.2.1 < n) : ∀ (k : Nat) (F : Sh), Tr ts r F → L.length ≤ F.length + k → Tr ts r (growF ts L.length k F) ∧ (growF ts L.length k F).length = L.length
  | 0, F, h, hk => ⟨h, Nat.le_antisymm (h.le hL hts) (by show L.length ≤ F.length; omega)⟩
  | k + 1, F, h, hk => by
    unfold growF
    split
    · rename_i hl
      have := h.grow hL hl
      exact grow_ok hL hts k _ (h.pass fun t ht => ht) (by omega)
    · exact ⟨h, Nat.le_antisymm (h.le hL hts) (by omega)⟩
end
def shF (ts : List Tch) (r N : Nat) : Sh := growF ts N N [(r, 0)]
theorem sh_ok {ts : List Tch} {r n : Nat} {L : List Nat} (hL : Lot n ts r L) (hts : ∀ t ∈ ts, t.1.1 < n ∧ t.2.1 < n) : Tr ts r (shF ts r L.length) ∧ (shF ts r L.length).length = L.length := grow_ok hL hts _ _ (tr_root ts r) (by omega)
/-! ### the greatest number -/
def leftF (F : Sh) (t : Tch) : Int := lk F t.1.1 + (t.1.2 : Nat) - lk F t.2.1 - (t.2.2 : Nat)
def gcdL (g : Nat) (l : List Int) : Nat := l.foldl (fun a x => Int.gcd a x) g
section
variable {cs : List Nat} {ts : List Tch} {r : Nat} {L : List Nat}
def gOf (cs : List Nat) (ts : List Tch) (L : List Nat) (F : Sh) : Nat := gcdL (gcdL 0 (L.map fun w => ((cs.getD w 0 : Nat) : Int))) ((ts.filter fun t => decide (t.1.1 ∈ keys F)).map (leftF F))
/-- p divides all counts of the lot and has shifts -/
def Fits (cs : List Nat) (ts : List Tch) (r : Nat) (p : Nat) : Prop := (∀ w, w < cs.length → Con ts r w → p ∣ cs.getD w 0) ∧ ∃ κ, Kap ts r p κ
end
end G
set_option Elab.async false
set_option linter.all false
set_option maxRecDepth 100000
set_option maxHeartbeats 4000000
/-! T3: the law's own way from wheel to wheel, in plain Lean -/
namespace G
open PySem PySem.Spec L2 PyProof.Rows
set_option autoImplicit false
abbrev Fd := Sh × List Nat
def dueF (p : Int) (F : Sh) (a b : Spot) : Int := (lk F a.1 + (a.2 : Nat) - (b.2 : Nat)) % p
section
variable {p : Int} {ts : List Tch} {r : Nat}
structure Ds (p : Int) (ts : List Tch) (r : Nat) (s : Fd) : Prop where
  nd : (keys s.1).Nodup
  root : look s.1 r = some 0
  con : ∀ w ∈ keys s.1, Con ts r w
  tk : ∀ w ∈ s.2, w ∈ keys s.1
  rng : ∀ w ∈ keys s.1, 0 ≤ lk s.1 w ∧ lk s.1 w < p
/-- grown from -/
structure Gw (s s' : Fd) : Prop where
  sub : ∀ w ∈ keys s.1, w ∈ keys s'.1
  lk : ∀ w ∈ keys s.1, lk s'.1 w = lk s.1 w
  todo : ∀ w ∈ s.2, w ∈ s'.2
  new : ∀ w ∈ keys s'.1, w ∈ keys s.1 ∨ w ∈ s'.2
  bal : s'.2.length + s.1.length = s.2.length + s'.1.length
theorem Gw.refl (s : Fd) : Gw s s := ⟨fun _ h => h, fun _ _ => rfl, fun _ h => h, fun _ h => .inl h, rfl⟩
theorem Gw.trans {a b c : Fd} (h : Gw a b) (k : Gw b c) : Gw a c :=
  ⟨fun w q => k.sub w (h.sub w q), fun w q => (k.lk w (h.sub w q)).trans (h.lk w q), fun w q => k.todo w (h.todo w q), fun w q => by
    rcases k.new w q with q | q
    · rcases h.new w q with q | q
      · exact .inl q
      · exact .inr (k.todo w q)
    · exact .inr q, by have := h.bal; have := k.bal; omega⟩
def Sat (p : Int) (F : Sh) (q : Spot × Spot) : Prop := q.2.1 ∈ keys F ∧ lk F q.2.1 = dueF p F q.1 q.2
theorem Sat.grow {s s' : Fd} (g : Gw s s') {q : Spot × Spot} (ha : q.1.1 ∈ keys s.1) (h : Sat p s.1 q) : Sat p s'.1 q := by
  refine ⟨g.sub _ h.1, ?_⟩
  rw [g.lk _ h.1, h.2]
  unfold dueF
  rw [g.lk _ ha]
end
end G
set_option Elab.async false
set_option linter.all false
set_option maxRecDepth 100000
set_option maxHeartbeats 4000000
/-! T4: tools of runs: what stays below, lists open or frozen, comprehensions -/
namespace G
open PySem PySem.Spec L2 PyProof.Rows
set_option autoImplicit false
/-- all below b stays -/
structure Fr (b : Nat) (S S' : Sto) : Prop where
  le : S.length ≤ S'.length
  at_ : ∀ i, i < b → S'[i]? = S[i]?
theorem Fr.refl (b : Nat) (S : Sto) : Fr b S S := ⟨Nat.le_refl _, fun _ _ => rfl⟩
theorem Fr.trans {b : Nat} {S S1 S2 : Sto} (h : Fr b S S1) (k : Fr b S1 S2) : Fr b S S2 := ⟨Nat.le_trans h.le k.le, fun i hi => (k.at_ i hi).trans (h.at_ i hi)⟩
theorem Fr.set {b n : Nat} {S S' : Sto} (h : Fr b S S') (hn : b ≤ n) (c : Cell) : Fr b S (S'.set n c) := ⟨by rw [List.length_set]; exact h.le, fun i hi => by rw [List.getElem?_set_ne (by omega)]; exact h.at_ i hi⟩
theorem Fr.app {b : Nat} {S S' : Sto} (h : Fr b S S') (hb : b ≤ S.length) (T : Sto) : Fr b S (S' ++ T) := ⟨by have := h.le; simp; omega, fun i hi => by rw [List.getElem?_append_left (by have := h.le; omega)]; exact h.at_ i hi⟩
theorem Fr.weak {b c : Nat} {S S' : Sto} (h : Fr b S S') (l : c ≤ b) : Fr c S S' := ⟨h.le, fun i hi => h.at_ i (by omega)⟩
theorem Fr.ext {S S' : Sto} (h : Fr S.length S S') : ∃ T, S' = S ++ T := by
  refine ⟨S'.drop S.length, ?_⟩
  apply List.ext_getElem?
  intro i
  by_cases hi : i < S.length
  · rw [List.getElem?_append_left hi, h.at_ i hi]
  · rw [List.getElem?_append_right (by omega), List.getElem?_drop]
    congr 1
    omega
theorem Fr.pu {α : Type} {r : Out α} {S S' : Sto} {x : α} (h : Fr S.length S S') (e : r = .ok x S') : Pu r S x := by
  obtain ⟨T, rfl⟩ := h.ext
  exact ⟨T, e⟩
theorem Fr.of {S S' : Sto} (b : Nat) (hb : b ≤ S.length) (x : ∃ T, S' = S ++ T) : Fr b S S' := by
  obtain ⟨T, rfl⟩ := x
  exact (Fr.refl b S).app hb T
theorem Pu.op {α : Type} {r : Out α} {S : Sto} {x : α} (h : Pu r S x) : ∃ S', r = .ok x S' ∧ ∃ T, S' = S ++ T := by
  obtain ⟨T, e⟩ := h
  exact ⟨_, e, T, rfl⟩
/-- a list of data, open or frozen -/
def Rd (V : Sto) (a : Nat) (ds : List PyData) : Prop := V[a]? = some (.lst (ds.map W.d)) ∨ V[a]? = some (.fz (.list ds))
theorem Rd.lt {V : Sto} {a : Nat} {ds : List PyData} (h : Rd V a ds) : a < V.length := by
  rcases h with h | h <;> exact (List.getElem?_eq_some_iff.mp h).1
theorem Rd.keep {V V' : Sto} {a : Nat} {ds : List PyData} (h : Rd V a ds) (e : V'[a]? = V[a]?) : Rd V' a ds := by
  unfold Rd
  rw [e]
  exact h
theorem Rd.set {V : Sto} {a n : Nat} {ds : List PyData} (h : Rd V a ds) (hn : n ≠ a) (c : Cell) : Rd (V.set n c) a ds := h.keep (List.getElem?_set_ne hn)
theorem Rd.app {V : Sto} {a : Nat} {ds : List PyData} (h : Rd V a ds) (T : Sto) : Rd (V ++ T) a ds := h.keep (List.getElem?_append_left h.lt)
theorem Rd.items {V : Sto} {a : Nat} {ds : List PyData} (h : Rd V a ds) : itemsOf (.o a) V = some (ds, V.set a (.fz (.list ds))) ∧ Rd (V.set a (.fz (.list ds))) a ds := by
  have hl := h.lt
  refine ⟨?_, .inr (List.getElem?_set_self hl)⟩
  unfold itemsOf
  rcases h with h | h
  · have : frz 6 (.o a) V = some (.list ds, V.set a (.fz (.list ds))) := by
      unfold frz
      simp only [h, frzL_ds]
    rw [this]
  · have e : V.set a (.fz (.list ds)) = V := by
      apply List.ext_getElem?
      intro i
      by_cases hi : a = i
      · subst hi
        rw [List.getElem?_set_self hl, h]
      · rw [List.getElem?_set_ne hi]
    have : frz 6 (.o a) V = some (.list ds, V) := by
      unfold frz
      simp only [h]
    rw [this, e]
theorem Rd.seq {V : Sto} {a : Nat} {ds : List PyData} (h : Rd V a ds) : seqOf (.o a) V = some (ds.map W.d) := by
  unfold seqOf
  rcases h with h | h <;> simp only [h]
theorem Rd.ix {V : Sto} {a i : Nat} {ds : List PyData} {d : PyData} (h : Rd V a ds) (hi : ds[i]? = some d) : gIx (.o a) (.d (.int (i : Nat))) V = some (.d d, V) := by
  unfold gIx
  simp only [h.seq]
  have e : L2.atI (ds.map W.d) (i : Int) = some (W.d d) := atI_nat (by rw [List.getElem?_map, hi]; rfl)
  rw [e]
  rfl
theorem Rd.len {V : Sto} {a : Nat} {ds : List PyData} (h : Rd V a ds) : gLen [.o a] V = some (.d (.int (ds.length : Nat)), V) := by
  unfold gLen
  simp only [h.seq, List.length_map]
theorem Rd.view {V : Sto} {a : Nat} {ds : List PyData} (h : Rd V a ds) : view (.o a) V = some (.list ds) := by
  rcases h with h | h
  · exact view_o h
  · unfold G.view
    have : frz 6 (.o a) V = some (.list ds, V) := by
      unfold frz
      simp only [h]
    rw [this]
    rfl
theorem Rd.det {V : Sto} {a : Nat} {ds es : List PyData} (h : Rd V a ds) (k : Rd V a es) : ds = es := by
  have := h.view
  rw [k.view] at this
  cases this
  rfl
/-! comprehensions -/
theorem compD_gen {α : Type} {mk : α → PyData} {g : Gt} {t : Fe Bool} {e : Fe W} {n : Nat} {ρ : Slt} {c : α → Bool} {y : α → PyData} {I : Sto → Prop} (hset : ∀ V x, I V → n < V.length → I (V.set n x)) : ∀ (ds : List α) (acc : List PyData) (V : Sto),
    (∀ d ∈ ds, ∃ ρ1, (∀ V, g (.d (mk d)) ρ V = some ρ1) ∧ ∀ V, I V → n < V.length → ∃ V1, t ρ1 V = .ok (c d) V1 ∧ I V1 ∧ V.length ≤ V1.length ∧ V1[n]? = V[n]? ∧ (c d = true → ∃ V2, e ρ1 V1 = .ok (.d (y d)) V2 ∧ I V2 ∧ V1.length ≤ V2.length ∧ V2[n]? = V1[n]?)) →
    acc.length + ds.length ≤ 100000 → I V → V[n]? = some (.lst (acc.map W.d)) →
    ∃ V', compD g t e n (ds.map mk) ρ V = .ok () V' ∧ I V' ∧ V.length ≤ V'.length ∧ V'[n]? = some (.lst ((acc ++ (ds.filter c).map y).map W.d))
  | [], acc, V, h, hz, hI, hn => ⟨V, rfl, hI, Nat.le_refl _, by simpa using hn⟩
  | d :: ds, acc, V, h, hz, hI, hn => by
    obtain ⟨ρ1, h1, h2⟩ := h d (by simp)
    have hlt := (List.getElem?_eq_some_iff.mp hn).1
    obtain ⟨V1, e1, I1, l1, n1, h3⟩ := h2 V hI hlt
    have hr : ∀ d ∈ ds, _ := fun d hd => h d (by simp [hd])
    rw [List.map_cons]
    unfold compD
    rw [h1]
    simp only [e1, bind_ok]
    cases hc : c d with
    | false =>
      obtain ⟨V', e', i', l', n'⟩ := compD_gen hset ds acc V1 hr (by simp at hz ⊢; omega) I1 (by rw [n1]; exact hn)
      refine ⟨V', by simpa using e', i', by omega, ?_⟩
      rw [List.filter_cons, hc]
      simpa using n'
    | true =>
      obtain ⟨V2, e2, I2, l2, n2⟩ := h3 hc
      have k2 : V2[n]? = some (.lst (acc.map W.d)) := by rw [n2, n1]; exact hn
      have hlt2 := (List.getElem?_eq_some_iff.mp k2).1
      obtain ⟨V', e', i', l', n'⟩ := compD_gen hset ds (acc ++ [y d]) (V2.set n (.lst ((acc ++ [y d]).map W.d))) hr (by simp at hz ⊢; omega) (hset _ _ I2 hlt2) (List.getElem?_set_self hlt2)
      refine ⟨V', ?_, i', by rw [List.length_set] at l'; omega, ?_⟩
      · simp only [if_true, e2, bind_ok, k2]
        rw [if_pos (by unfold szOk; simp at hz ⊢; omega)]
        simpa using e'
      · rw [List.filter_cons, hc]
        simpa using n'
theorem lc_gen {α : Type} {mk : α → PyData} {f : Fe (List PyData)} {g : Gt} {t : Fe Bool} {e : Fe W} {vs : List Nat} {ρ : Slt} {S S0 : Sto} {ds : List α} (c : α → Bool) (y : α → PyData) (I : Sto → Prop) (hf : f ρ S = .ok (ds.map mk) S0) (hz : ds.length ≤ 100000)
    (hset : ∀ V x, I V → S0.length < V.length → I (V.set S0.length x)) (h0 : I (S0 ++ [.lst []]))
    (h : ∀ d ∈ ds, ∃ ρ1, (∀ V, g (.d (mk d)) (wipeR ρ vs) V = some ρ1) ∧ ∀ V, I V → S0.length < V.length → ∃ V1, t ρ1 V = .ok (c d) V1 ∧ I V1 ∧ V.length ≤ V1.length ∧ V1[S0.length]? = V[S0.length]? ∧ (c d = true → ∃ V2, e ρ1 V1 = .ok (.d (y d)) V2 ∧ I V2 ∧ V1.length ≤ V2.length ∧ V2[S0.length]? = V1[S0.length]?)) :
    ∃ V', fLc f g t e vs ρ S = .ok (.o S0.length) V' ∧ I V' ∧ S0.length < V'.length ∧ V'[S0.length]? = some (.lst (((ds.filter c).map y).map W.d)) := by
  obtain ⟨V', e1, i1, l1, n1⟩ := compD_gen hset ds [] (S0 ++ [.lst []]) h (by simpa using hz) h0 (by rw [get_len_app]; rfl)
  refine ⟨V', ?_, i1, by simp at l1; omega, by simpa using n1⟩
  unfold fLc
  rw [hf]
  simp only [bind_ok, e1, noX_ok]
theorem lc_yes {α : Type} {mk : α → PyData} {f : Fe (List PyData)} {g : Gt} {e : Fe W} {vs : List Nat} {ρ : Slt} {S S0 : Sto} {ds : List α} (y : α → PyData) (I : Sto → Prop) (hf : f ρ S = .ok (ds.map mk) S0) (hz : ds.length ≤ 100000)
    (hset : ∀ V x, I V → S0.length < V.length → I (V.set S0.length x)) (h0 : I (S0 ++ [.lst []]))
    (h : ∀ d ∈ ds, ∃ ρ1, (∀ V, g (.d (mk d)) (wipeR ρ vs) V = some ρ1) ∧ ∀ V, I V → S0.length < V.length → ∃ V2, e ρ1 V = .ok (.d (y d)) V2 ∧ I V2 ∧ V.length ≤ V2.length ∧ V2[S0.length]? = V[S0.length]?) :
    ∃ V', fLc f g fYes e vs ρ S = .ok (.o S0.length) V' ∧ I V' ∧ S0.length < V'.length ∧ V'[S0.length]? = some (.lst ((ds.map y).map W.d)) := by
  have := lc_gen (fun _ => true) y I hf hz hset h0 (t := fYes) (e := e) (g := g) (vs := vs) (fun d hd => by
    obtain ⟨ρ1, a, b⟩ := h d hd
    refine ⟨ρ1, a, fun V hV hl => ⟨V, rfl, hV, Nat.le_refl _, rfl, fun _ => ?_⟩⟩
    exact b V hV hl)
  rw [List.filter_eq_self.mpr (fun _ _ => rfl)] at this
  exact this
/-- tuple([..]) -/
theorem tup_gen {α : Type} {mk : α → PyData} {f : Fe (List PyData)} {g : Gt} {t : Fe Bool} {e : Fe W} {vs : List Nat} {ρ : Slt} {S S0 : Sto} {ds : List α} (c : α → Bool) (y : α → PyData) (I : Sto → Prop) (hf : f ρ S = .ok (ds.map mk) S0) (hz : ds.length ≤ 100000)
    (hset : ∀ V x, I V → S0.length < V.length → I (V.set S0.length x)) (h0 : I (S0 ++ [.lst []]))
    (h : ∀ d ∈ ds, ∃ ρ1, (∀ V, g (.d (mk d)) (wipeR ρ vs) V = some ρ1) ∧ ∀ V, I V → S0.length < V.length → ∃ V1, t ρ1 V = .ok (c d) V1 ∧ I V1 ∧ V.length ≤ V1.length ∧ V1[S0.length]? = V[S0.length]? ∧ (c d = true → ∃ V2, e ρ1 V1 = .ok (.d (y d)) V2 ∧ I V2 ∧ V1.length ≤ V2.length ∧ V2[S0.length]? = V1[S0.length]?)) :
    ∃ V', fCB gTuple (fCons (fLc f g t e vs) fNil) ρ S = .ok (.d (.tuple ((ds.filter c).map y))) V' ∧ I V' ∧ S0.length < V'.length := by
  obtain ⟨V', e1, i1, l1, n1⟩ := lc_gen c y I hf hz hset h0 h
  refine ⟨V', ?_, i1, l1⟩
  simp only [ev_cb, ev_cons, ev_nil, e1, bind_ok, gTuple_o n1, ofO_some]
/-! machines, less asked -/
structure Wm (m : Mach) : Prop where
  ne : m.cs ≠ []
  l16 : m.cs.length ≤ 16
  pos : ∀ c ∈ m.cs, 0 < c
  s30 : m.cs.sum ≤ 30
  l9 : m.ts.length ≤ 9
  good : ∀ t ∈ m.ts, okS m.cs t.1 ∧ okS m.cs t.2
theorem Ok.wm {m : Mach} (ok : Ok m) : Wm m := ⟨ok.ne, ok.l16, ok.pos, ok.s30, by have := ok.l8; omega, fun t ht => ⟨(ok.good t ht).1, (ok.good t ht).2.1⟩⟩
theorem okS_lt {cs : List Nat} {s : Spot} (h : okS cs s) : s.1 < cs.length := by
  obtain ⟨c, h1, _⟩ := h
  exact (List.getElem?_eq_some_iff.mp h1).1
theorem Wm.ts_lt {m : Mach} (h : Wm m) : ∀ t ∈ m.ts, t.1.1 < m.cs.length ∧ t.2.1 < m.cs.length := fun t ht => ⟨okS_lt (h.good t ht).1, okS_lt (h.good t ht).2⟩
theorem Wm.n0 {m : Mach} (h : Wm m) : 0 < m.cs.length := List.length_pos_iff.mpr h.ne
def nD (l : List Nat) : List PyData := l.map fun w => .int (w : Nat)
theorem nD_at {l : List Nat} {i : Nat} (h : i < l.length) : (nD l)[i]? = some (.int (lv l i : Nat)) := by
  unfold nD lv
  rw [List.getElem?_map, List.getD_eq_getElem?_getD, List.getElem?_eq_getElem h]
  rfl
end G
set_option Elab.async false
set_option linter.all false
set_option maxRecDepth 100000
set_option maxHeartbeats 4000000
/-! T5: lots, by the program -/
namespace G
open PySem PySem.Spec L2 PyProof.Rows
set_option autoImplicit false
/-! lots of wheels as data -/
def lowsI (l : List Nat) : List Int := sset (l.map fun w : Nat => (w : Int))
def lotOf (n : Nat) (l : List Nat) (low : Int) : List Nat := (List.range n).filter fun w => decide (((lv l w : Nat) : Int) = low)
def lotsOf (n : Nat) (l : List Nat) : List (List Nat) := (lowsI l).map (lotOf n l)
def wlD (L : List Nat) : PyData := .tuple (nD L)
theorem ints_n (l : List Nat) : intsOf ((nD l).map W.d) = some (l.map fun w : Nat => (w : Int)) := by
  have := intsOf_ds (l.map fun w : Nat => (w : Int))
  have e : (l.map fun w : Nat => (w : Int)).map PyData.int = nD l := by unfold nD; rw [List.map_map]; rfl
  rw [e] at this
  exact this
theorem gSort_o {n : Nat} {S : Sto} {ds : List PyData} (h : S[n]? = some (.lst (ds.map W.d))) (ho : sortOk ds = true) : gSort [.o n] S = some (.o S.length, S ++ [.lst ((srt ds).map W.d)]) := by
  unfold gSort
  have : lstOf (.o n) S = some (ds.map W.d) := by
    unfold lstOf
    simp only [h]
  simp only [this, datsOf_ds]
  rw [if_pos ho]
theorem srt_2 (a b : Int) : srt [.int a, .int b] = [.int (min a b), .int (max a b)] := by
  unfold srt
  have e : PySem.W.dataLe false id (.int a) (.int b) = !decide (b < a) := by
    show (!PySem.W.dataLt (.int b) (.int a)) = _
    rw [PySem.W.dataLt_int]
  by_cases h : b < a
  · rw [decide_eq_true h] at e
    simp [List.mergeSort, List.MergeSort.Internal.splitInTwo, List.merge, e]
    omega
  · rw [decide_eq_false h] at e
    simp [List.mergeSort, List.MergeSort.Internal.splitInTwo, List.merge, e]
    omega
noncomputable def olBody : Fs := (fSeq (fAsg (gTp 2 (gsCons (gNm 4) (gsCons (gNm 5) gsNil))) (fCB gSort (fCons (fLst (fCons (fOp2 gIx (fVar 1) (fOp2 gIx (fVar 2) (fC (.d (.int 0))))) (fCons (fOp2 gIx (fVar 1) (fOp2 gIx (fVar 3) (fC (.d (.int 0))))) fNil))) fNil)))
  (fSet 1 (fLc (fIt (fVar 1)) (gNm 6) fYes (fIfE (fTru (fOp2 (dEq false) (fVar 6) (fVar 5))) (fVar 4) (fVar 6)) [6])))
theorem fLst2 (f g : Fe W) (ρ : Slt) (S : Sto) : fLst (fCons f (fCons g fNil)) ρ S = (f ρ S).bind fun x S1 => (g ρ S1).bind fun y S2 => Out.ok (.o S2.length) (S2 ++ [.lst [x, y]]) := by
  unfold fLst
  simp only [ev_cons, ev_nil, Out.bind]
  cases f ρ S with
  | ok x S1 => dsimp only; cases g ρ S1 <;> rfl
  | ex e S => rfl
  | bad => rfl
theorem gt_lst2 {V : Sto} {a : Nat} {x y : PyData} (h : Rd V a [x, y]) (i j : Nat) (ρ : Slt) : gTp 2 (gsCons (gNm i) (gsCons (gNm j) gsNil)) (.o a) ρ V = some ((ρ.set i (some (.d x))).set j (some (.d y))) := by
  unfold gTp
  simp only [h.seq]
  rfl
theorem ol_turn {n b : Nat} {S V : Sto} {a0 a7 a8 : Option W} {a : Nat} {l : List Nat} {t : Tch} (hl : l.length ≤ 100) (h1 : t.1.1 < l.length) (h2 : t.2.1 < l.length) (hfr : Fr b S V) (hb : b ≤ S.length) (hab : b ≤ a) (hr : Rd V a (nD l)) (j4 j5 j6 : Option W) :
    ∃ V' a' k4 k5 k6, olBody [a0, some (.o a), some (.d (sD t.1)), some (.d (sD t.2)), j4, j5, j6, a7, a8] V = .nx [a0, some (.o a'), some (.d (sD t.1)), some (.d (sD t.2)), k4, k5, k6, a7, a8] V' ∧ Fr b S V' ∧ b ≤ a' ∧ V'[a']? = some (.lst ((nD (joinF l t)).map W.d)) := by
  obtain ⟨lo, hlo⟩ : ∃ lo : Nat, lo = min (lv l t.1.1) (lv l t.2.1) := ⟨_, rfl⟩
  obtain ⟨hi, hhi⟩ : ∃ hi : Nat, hi = max (lv l t.1.1) (lv l t.2.1) := ⟨_, rfl⟩
  have g1 := hr.ix (nD_at h1)
  have g2 := hr.ix (nD_at h2)
  have so : sortOk [.int ((lv l t.1.1 : Nat) : Int), .int ((lv l t.2.1 : Nat) : Int)] = true := by
    rfl
  have gs := gSort_o (n := V.length) (S := V ++ [.lst ([PyData.int ((lv l t.1.1 : Nat) : Int), .int ((lv l t.2.1 : Nat) : Int)].map W.d)]) (get_len_app _ _ []) so
  rw [srt_2] at gs
  have eI : min ((lv l t.1.1 : Nat) : Int) ((lv l t.2.1 : Nat) : Int) = (lo : Int) := by omega
  have eX : max ((lv l t.1.1 : Nat) : Int) ((lv l t.2.1 : Nat) : Int) = (hi : Int) := by omega
  rw [eI, eX] at gs
  obtain ⟨V1, hV1⟩ : ∃ V1, V1 = V ++ [.lst ([PyData.int ((lv l t.1.1 : Nat) : Int), .int ((lv l t.2.1 : Nat) : Int)].map W.d)] := ⟨_, rfl⟩
  rw [← hV1] at gs
  have r1 : Rd (V1 ++ [.lst ([PyData.int (lo : Int), .int (hi : Int)].map W.d)]) V1.length [.int (lo : Int), .int (hi : Int)] := .inl (get_len_app _ _ [])
  have gt := gt_lst2 r1 4 5 [a0, some (.o a), some (.d (sD t.1)), some (.d (sD t.2)), j4, j5, j6, a7, a8]
  obtain ⟨V2, hV2⟩ : ∃ V2, V2 = V1 ++ [.lst ([PyData.int (lo : Int), .int (hi : Int)].map W.d)] := ⟨_, rfl⟩
  rw [← hV2] at gs gt
  have rV2 : Rd V2 a (nD l) := by rw [hV2, hV1]; exact (hr.app _).app _
  have fV2 : Fr b S V2 := by rw [hV2, hV1]; exact (hfr.app hb _).app hb _
  obtain ⟨i1, i2⟩ := rV2.items
  have lenS : (V2.set a (.fz (.list (nD l)))).length = V2.length := List.length_set
  have bV : b ≤ V2.length := by have := fV2.le; omega
  obtain ⟨V3, e3, i3, l3, n3⟩ := lc_yes (f := fIt (fVar 1)) (g := gNm 6) (e := fIfE (fTru (fOp2 (dEq false) (fVar 6) (fVar 5))) (fVar 4) (fVar 6)) (vs := [6])
    (ρ := [a0, some (.o a), some (.d (sD t.1)), some (.d (sD t.2)), some (.d (.int (lo : Int))), some (.d (.int (hi : Int))), j6, a7, a8]) (S := V2) (S0 := V2.set a (.fz (.list (nD l)))) (ds := l) (mk := fun w => .int (w : Nat)) (fun x => .int ((if x = hi then lo else x : Nat) : Int)) (Fr b S) (by
      simp only [it_ev, ev_var, List.getElem?_cons_zero, List.getElem?_cons_succ, bind_ok, i1, ofO_some]
      rfl) (by omega) (fun V x hV hl => hV.set (by rw [lenS]; omega) x) ((fV2.set hab _).app hb _) (fun x hx => ⟨_, fun V => rfl, fun V hV hl => ⟨V, by
        by_cases hxh : x = hi
        · subst hxh
          simp [wipeR]
        · have : ¬ ((x : Int) = (hi : Int)) := by omega
          simp [wipeR, this, hxh], hV, Nat.le_refl _, rfl⟩⟩)
  have ej : l.map (fun x => PyData.int ((if x = hi then lo else x : Nat) : Int)) = nD (joinF l t) := by
    unfold nD joinF
    rw [List.map_map, ← hlo, ← hhi]
    rfl
  rw [ej] at n3
  refine ⟨V3, V2.length, some (.d (.int (lo : Int))), some (.d (.int (hi : Int))), j6, ?_, i3, bV, by rw [← lenS]; exact n3⟩
  unfold olBody
  simp only [st_seq, st_asg, ev_sort, ev_cons, ev_nil, fLst2, ev_op2, ev_var, ev_c, List.getElem?_cons_zero, List.getElem?_cons_succ, bind_ok, ix_s0, ofO_some, g1, g2]
  have gs' : gSort [.o V.length] (V ++ [.lst [W.d (.int ((lv l t.1.1 : Nat) : Int)), W.d (.int ((lv l t.2.1 : Nat) : Int))]]) = some (.o V1.length, V2) := by rw [← gs, hV1]; rfl
  rw [gs']
  simp only [ofO_some, fl_ok, gt, List.set_cons_zero, List.set_cons_succ, st_set, e3, lenS]

theorem ol_loop {b : Nat} {S : Sto} (hb : b ≤ S.length) {a0 a7 a8 : Option W} {N : Nat} (hN : N ≤ 100) : ∀ (ts : List Tch) (l : List Nat) (V : Sto) (a : Nat) (j2 j3 j4 j5 j6 : Option W), l.length = N → (∀ t ∈ ts, t.1.1 < N ∧ t.2.1 < N) → Fr b S V → b ≤ a → V[a]? = some (.lst ((nD l).map W.d)) → ∃ V' a' k2 k3 k4 k5 k6,
    forD (gTp 2 (gsCons (gNm 2) (gsCons (gNm 3) gsNil))) olBody (ts.map tcD) [a0, some (.o a), j2, j3, j4, j5, j6, a7, a8] V = .nx [a0, some (.o a'), k2, k3, k4, k5, k6, a7, a8] V' ∧ Fr b S V' ∧ b ≤ a' ∧ V'[a']? = some (.lst ((nD (ts.foldl joinF l)).map W.d))
  | [], l, V, a, j2, j3, j4, j5, j6, hl, ht, hf, hab, hr => ⟨V, a, j2, j3, j4, j5, j6, rfl, hf, hab, hr⟩
  | t :: ts, l, V, a, j2, j3, j4, j5, j6, hl, ht, hf, hab, hr => by
    obtain ⟨h1, h2⟩ := ht t (by simp)
    obtain ⟨V1, a1, k4, k5, k6, e1, f1, b1, r1⟩ := ol_turn (n := N) (a0 := a0) (a7 := a7) (a8 := a8) (l := l) (t := t) (by omega) (by omega) (by omega) hf hb hab (.inl hr) j4 j5 j6
    obtain ⟨V2, a2, m2, m3, m4, m5, m6, e2, f2, b2, r2⟩ := ol_loop hb (a0 := a0) (a7 := a7) (a8 := a8) hN ts (joinF l t) V1 a1 (some (.d (sD t.1))) (some (.d (sD t.2))) k4 k5 k6 (by unfold joinF; rw [List.length_map]; exact hl) (fun u hu => ht u (by simp [hu])) f1 b1 r1
    refine ⟨V2, a2, m2, m3, m4, m5, m6, ?_, f2, b2, r2⟩
    rw [List.map_cons, forD_cons]
    have eg : ∀ (ρ : Slt) (V : Sto), gTp 2 (gsCons (gNm 2) (gsCons (gNm 3) gsNil)) (.d (tcD t)) ρ V = some ((ρ.set 2 (some (.d (sD t.1)))).set 3 (some (.d (sD t.2)))) := fun ρ V => rfl
    rw [eg]
    simp only [List.set_cons_zero, List.set_cons_succ, e1]
    exact e2
theorem en_nD (l : List Nat) : enumD (nD l) = (List.range l.length).map fun w => .tuple [.int (w : Nat), .int (lv l w : Nat)] := by
  unfold enumD
  apply List.ext_getElem
  · simp [nD]
  · intro i h1 h2
    have hi : i < l.length := by simpa [nD] using h1
    have := nD_at hi
    rw [List.getElem?_eq_getElem (by simpa [nD] using hi)] at this
    have e := Option.some.inj this
    simp only [List.getElem_map, List.getElem_zipIdx, List.getElem_range, e]
    simp
noncomputable def lotC (iL iW iN iO : Nat) : Fe W := fCB gTuple (fCons (fLc (fEn (fCons (fVar iL) fNil)) (gTp 2 (gsCons (gNm iW) (gsCons (gNm iN) gsNil))) (fTru (fOp2 (dEq false) (fVar iN) (fVar iO))) (fVar iW) [iW, iN]) fNil)
/-- the tuple of the wheels of a lot -/
theorem lot_comp {l : List Nat} (hl : l.length ≤ 100) {iL iW iN iO a : Nat} {low : Int} {ρ : Slt} {V : Sto} (I : Sto → Prop) (hr : Rd V a (nD l)) (hL : ρ[iL]? = some (some (.o a))) (hO : ρ[iO]? = some (some (.d (.int low)))) (hW : iW < ρ.length) (hN : iN < ρ.length) (hWN : iW ≠ iN) (hWO : iW ≠ iO) (hNO : iN ≠ iO)
    (hI : ∀ V' : Sto, V.length ≤ V'.length → (∀ i, i < V.length → i ≠ a → V'[i]? = V[i]?) → Rd V' a (nD l) → I V') :
    ∃ V', lotC iL iW iN iO ρ V = .ok (.d (wlD (lotOf l.length l low))) V' ∧ I V' ∧ V.length ≤ V'.length := by
  obtain ⟨i1, i2⟩ := hr.items
  have lenS : (V.set a (.fz (.list (nD l)))).length = V.length := List.length_set
  have ha := hr.lt
  let J : Sto → Prop := fun V' => V.length ≤ V'.length ∧ (∀ i, i < V.length → i ≠ a → V'[i]? = V[i]?) ∧ Rd V' a (nD l)
  obtain ⟨V', e', ⟨j1, j2, j3⟩, l'⟩ := tup_gen (f := fEn (fCons (fVar iL) fNil)) (g := gTp 2 (gsCons (gNm iW) (gsCons (gNm iN) gsNil))) (t := fTru (fOp2 (dEq false) (fVar iN) (fVar iO))) (e := fVar iW) (vs := [iW, iN]) (ρ := ρ) (S := V) (S0 := V.set a (.fz (.list (nD l))))
    (ds := List.range l.length) (mk := fun w => .tuple [.int (w : Nat), .int (lv l w : Nat)]) (fun w => decide (((lv l w : Nat) : Int) = low)) (fun w => .int (w : Nat)) J (by
      simp only [en_ev, ev_var, hL, bind_ok, i1, ofO_some, en_nD]) (by simp; omega)
    (fun V1 x hV hn => ⟨by rw [List.length_set]; exact hV.1, fun i hi hia => by rw [List.getElem?_set_ne (by omega)]; exact hV.2.1 i hi hia, hV.2.2.set (by omega) x⟩)
    ⟨by simp, fun i hi hia => by rw [List.getElem?_append_left (by rw [lenS]; exact hi), List.getElem?_set_ne (Ne.symm hia)], i2.app _⟩
    (fun w hw => ⟨_, fun V => rfl, fun V1 hV hn => ⟨V1, by
      have q1 : (((wipeR ρ [iW, iN]).set iW (some (.d (.int (w : Nat))))).set iN (some (.d (.int (lv l w : Nat)))))[iN]? = some (some (.d (.int (lv l w : Nat)))) := by
        rw [List.getElem?_set_self (by simp [wipeR]; exact hN)]
      have q2 : (((wipeR ρ [iW, iN]).set iW (some (.d (.int (w : Nat))))).set iN (some (.d (.int (lv l w : Nat)))))[iO]? = some (some (.d (.int low))) := by
        simp only [wipeR]
        rw [List.getElem?_set_ne hNO, List.getElem?_set_ne hWO, List.getElem?_set_ne hWO, List.getElem?_set_ne hNO, hO]
      simp only [ev_tru, ev_op2, ev_var]
      rw [q1, q2]
      simp, hV, Nat.le_refl _, rfl, fun _ => ⟨V1, by
      have q3 : (((wipeR ρ [iW, iN]).set iW (some (.d (.int (w : Nat))))).set iN (some (.d (.int (lv l w : Nat)))))[iW]? = some (some (.d (.int (w : Nat)))) := by
        rw [List.getElem?_set_ne (Ne.symm hWN), List.getElem?_set_self (by simp [wipeR]; exact hW)]
      simp only [ev_var, q3], hV, Nat.le_refl _, rfl⟩⟩⟩)
  exact ⟨V', e', hI V' j1 j2 j3, j1⟩
end G
set_option Elab.async false
set_option linter.all false
set_option maxRecDepth 100000
set_option maxHeartbeats 4000000
/-! T6: own_lots -/
namespace G
open PySem PySem.Spec L2 PyProof.Rows
set_option autoImplicit false
theorem app_at {V : Sto} {F : Nat} {acc : List PyData} (x : PyData) (h : V[F]? = some (.lst (acc.map W.d))) (hl : acc.length ≤ 1000) : gApp (.o F) [.d x] V = some (.d .none, V.set F (.lst ((acc ++ [x]).map W.d))) := by
  unfold gApp
  simp only [h]
  rw [if_pos (by unfold szOk; simp; omega)]
  simp
theorem hpl_at {V : Sto} {F : Nat} {ws : List W} (h : V[F]? = some (.lst ws)) : hpl (.o F) V = some ws := by
  unfold hpl
  simp only [h]
noncomputable def apBody : Fs := (fExp (fMt gApp (fVar 7) (fCons (lotC 1 8 6 4) fNil)))
theorem ap_loop {b a F : Nat} {S : Sto} {l : List Nat} (hb : b ≤ S.length) (hl : l.length ≤ 100) (hab : b ≤ a) (hF : b ≤ F) (haF : a ≠ F) {a0 a2 a3 a5 : Option W} : ∀ (lows : List Int) (acc : List PyData) (V : Sto) (j4 j6 j8 : Option W), acc.length + lows.length ≤ 500 → Fr b S V → Rd V a (nD l) → V[F]? = some (.lst (acc.map W.d)) → ∃ V' k4,
    forD (gNm 4) apBody (lows.map PyData.int) [a0, some (.o a), a2, a3, j4, a5, j6, some (.o F), j8] V = .nx [a0, some (.o a), a2, a3, k4, a5, j6, some (.o F), j8] V' ∧ Fr b S V' ∧ V'[F]? = some (.lst ((acc ++ lows.map fun low => wlD (lotOf l.length l low)).map W.d))
  | [], acc, V, j4, j6, j8, hz, hf, hr, hF' => ⟨V, j4, rfl, hf, by simpa using hF'⟩
  | low :: lows, acc, V, j4, j6, j8, hz, hf, hr, hF' => by
    have hFl := (List.getElem?_eq_some_iff.mp hF').1
    obtain ⟨V1, e1, ⟨f1, r1, n1⟩, l1⟩ := lot_comp hl (iL := 1) (iW := 8) (iN := 6) (iO := 4) (a := a) (low := low) (ρ := [a0, some (.o a), a2, a3, some (.d (.int low)), a5, j6, some (.o F), j8]) (V := V) (fun V' => Fr b S V' ∧ Rd V' a (nD l) ∧ V'[F]? = some (.lst (acc.map W.d))) hr rfl rfl (by simp) (by simp) (by decide) (by decide) (by decide)
      (fun V' hle hk hr' => ⟨⟨by have := hf.le; omega, fun i hi => by rw [hk i (by have := hf.le; omega) (by omega)]; exact hf.at_ i hi⟩, hr', by rw [hk F hFl (Ne.symm haF)]; exact hF'⟩)
    obtain ⟨V', k4, e2, f2, n2⟩ := ap_loop hb hl hab hF haF (a0 := a0) (a2 := a2) (a3 := a3) (a5 := a5) lows (acc ++ [wlD (lotOf l.length l low)]) (V1.set F (.lst ((acc ++ [wlD (lotOf l.length l low)]).map W.d))) (some (.d (.int low))) j6 j8 (by simp at hz ⊢; omega) (f1.set hF _) (r1.set (Ne.symm haF) _) (List.getElem?_set_self (by omega))
    refine ⟨V', k4, ?_, f2, by simpa using n2⟩
    rw [List.map_cons, forD_cons, gt_nm]
    simp only [List.set_cons_zero, List.set_cons_succ]
    unfold apBody
    simp only [st_exp, ev_mt, ev_var, List.getElem?_cons_zero, List.getElem?_cons_succ, bind_ok, hpl_at hF', Option.isSome_some, if_true, ev_cons, ev_nil, e1, app_at _ n1 (show acc.length ≤ 1000 by simp at hz; omega), ofO_some, fl_ok]
    unfold apBody at e2
    rw [e2]
theorem sortSet_ev {f : Fe (List W)} {ρ : Slt} {V V1 : Sto} {a : Nat} {l : List Nat} (hf : f ρ V = .ok [.o a] V1) (h : V1[a]? = some (.lst ((nD l).map W.d))) (hl : l.length < 64) :
    fSortSet f ρ V = .ok (.o V1.length) (V1 ++ [.lst (((lowsI l).map PyData.int).map W.d)]) := by
  unfold fSortSet
  rw [hf]
  simp only [bind_ok]
  have e1 : lstOf (.o a) V1 = some ((nD l).map W.d) := by
    unfold lstOf
    simp only [h]
  rw [e1]
  simp only [ints_n]
  rw [if_pos (by simpa using hl)]
  unfold lowsI
  simp [List.map_map, Function.comp_def]
theorem insU_len (x : Int) : ∀ l : List Int, (insU x l).length ≤ l.length + 1
  | [] => by simp [insU]
  | y :: l => by
    unfold insU
    split
    · simp
    · split
      · simp
      · have := insU_len x l; simp; omega
theorem sset_len (l : List Int) : (sset l).length ≤ l.length := by
  induction l with
  | nil => simp [sset]
  | cons x l ih =>
    have := insU_len x (sset l)
    show (insU x (sset l)).length ≤ _
    simp
    omega
theorem lows_len (l : List Nat) : (lowsI l).length ≤ l.length := by
  have := sset_len (l.map fun w : Nat => (w : Int))
  rw [List.length_map] at this
  exact this
def losD (n : Nat) (l : List Nat) : List PyData := (lotsOf n l).map wlD
theorem len_csD (cs : List Nat) (S : Sto) : gLen [.d (csD cs)] S = some (.d (.int (cs.length : Nat)), S) := by
  rw [show csD cs = .tuple (cs.map fun c => .int (c : Nat)) from rfl, len_t, List.length_map]
theorem listR_ev {f : Fe W} {ρ : Slt} {V V1 : Sto} {n : Nat} (hf : f ρ V = .ok (.d (.int (n : Nat))) V1) (hn : n ≤ 1000) : fListR f ρ V = .ok (.o V1.length) (V1 ++ [.lst ((nD (List.range n)).map W.d)]) := by
  unfold fListR
  rw [hf]
  simp only [bind_ok]
  rw [if_pos (by unfold rOk; exact decide_eq_true (by omega))]
  unfold nD
  simp [List.map_map, Function.comp_def]
theorem r_own_lots {m : Mach} (h : Wm m) (S : Sto) : Pu (R_own_lots [.d (mD m)] S) S (.d (.tuple (losD m.cs.length (lowsP m.cs.length m.ts)))) := by
  have hn := h.l16
  have e0 := fun (ρ : Slt) (hρ : ρ[0]? = some (some (.d (mD m)))) (V : Sto) => listR_ev (f := fCB gLen (fCons (fOp2 gIx (fVar 0) (fC (.d (.int 0)))) fNil)) (ρ := ρ) (V := V) (V1 := V) (n := m.cs.length) (by
    simp only [ev_len, ev_cons, ev_nil, ev_op2, ev_var, ev_c, hρ, bind_ok, ix_m0, ofO_some, len_csD]) (by omega)
  have f0 : Fr S.length S (S ++ [.lst ((nD (List.range m.cs.length)).map W.d)]) := (Fr.refl _ _).app (Nat.le_refl _) _
  obtain ⟨V1, a1, k2, k3, k4, k5, k6, e1, f1, b1, r1⟩ := ol_loop (b := S.length) (S := S) (Nat.le_refl _) (a0 := some (.d (mD m))) (a7 := none) (a8 := none) (N := m.cs.length) (by omega) m.ts (List.range m.cs.length) (S ++ [.lst ((nD (List.range m.cs.length)).map W.d)]) S.length none none none none none (by simp) h.ts_lt f0 (Nat.le_refl _) (get_len_app _ _ [])
  obtain ⟨l, hl⟩ : ∃ l, l = m.ts.foldl joinF (List.range m.cs.length) := ⟨_, rfl⟩
  rw [← hl] at r1
  have hll : l.length = m.cs.length := by rw [hl]; exact (lst_fold h.ts_lt).len
  have ha1 := (List.getElem?_eq_some_iff.mp r1).1
  have r1' : (V1 ++ [Cell.lst []])[a1]? = some (.lst ((nD l).map W.d)) := by rw [List.getElem?_append_left ha1]; exact r1
  have e2 := fun (ρ : Slt) (hρ : ρ[1]? = some (some (.o a1))) => sortSet_ev (f := fCons (fVar 1) fNil) (ρ := ρ) (V := V1 ++ [.lst []]) (V1 := V1 ++ [.lst []]) (a := a1) (l := l) (by simp only [ev_cons, ev_nil, ev_var, hρ, bind_ok]) r1' (by omega)
  have r2 : Rd (V1 ++ [Cell.lst []] ++ [Cell.lst (((lowsI l).map PyData.int).map W.d)]) (V1 ++ [Cell.lst []]).length ((lowsI l).map PyData.int) := .inl (get_len_app _ _ [])
  obtain ⟨i2, _⟩ := r2.items
  obtain ⟨V2, hV2⟩ : ∃ V2, V2 = (V1 ++ [Cell.lst []] ++ [Cell.lst (((lowsI l).map PyData.int).map W.d)]).set (V1 ++ [Cell.lst []]).length (.fz (.list ((lowsI l).map PyData.int))) := ⟨_, rfl⟩
  rw [← hV2] at i2
  have lenV : (V1 ++ [Cell.lst []]).length = V1.length + 1 := by simp
  have f2 : Fr S.length S V2 := by
    rw [hV2]
    have := f1.le
    exact ((f1.app (Nat.le_refl _) _).app (Nat.le_refl _) _).set (by omega) _
  have r3 : Rd V2 a1 (nD l) := by
    rw [hV2]
    refine Rd.set ?_ (by omega) _
    exact Rd.app (.inl r1') _
  have r4 : V2[V1.length]? = some (.lst (([] : List PyData).map W.d)) := by
    rw [hV2, List.getElem?_set_ne (by omega), List.getElem?_append_left (by omega), get_len_app]
    rfl
  have lz := lows_len l
  have hF := f1.le
  obtain ⟨V3, m4, e3, f3, r5⟩ := ap_loop (b := S.length) (a := a1) (F := V1.length) (S := S) (l := l) (Nat.le_refl _) (by omega) b1 hF (by omega) (a0 := some (.d (mD m))) (a2 := k2) (a3 := k3) (a5 := k5) (lowsI l) [] V2 k4 k6 none (by simp; omega) f2 r3 r4
  rw [List.nil_append] at r5
  have e5 := gTuple_o r5
  have ed : (lowsI l).map (fun low => wlD (lotOf l.length l low)) = losD m.cs.length (lowsP m.cs.length m.ts) := by
    unfold losD lotsOf lowsP
    rw [← hl, List.map_map, hll]
    rfl
  rw [ed] at e5
  refine f3.pu (S' := V3) ?_
  unfold R_own_lots runB B_own_lots
  have eL : ∀ (ρ : Slt) (V : Sto), fLst fNil ρ V = .ok (.o V.length) (V ++ [.lst []]) := fun ρ V => rfl
  have eT : ∀ S : Sto, itemsOf (.d (tsD m.ts)) S = some (m.ts.map tcD, S) := fun S => rfl
  unfold olBody at e1
  unfold apBody lotC at e3
  simp only [startR, List.map_cons, List.map_nil, List.length_cons, List.length_nil, Nat.zero_add, Nat.reduceAdd, Nat.reduceSub, List.replicate, List.cons_append, List.nil_append, st_seq, st_set, e0, fl_ok, List.set_cons_zero, List.set_cons_succ, st_for, it_ev, ev_op2, ev_var, ev_c, List.getElem?_cons_zero, List.getElem?_cons_succ, bind_ok, ix_m1, ofO_some, eT, e1, eL, e2, i2, e3, st_ret, ev_cb, ev_cons, ev_nil, e5]
end G
set_option Elab.async false
set_option linter.all false
set_option maxRecDepth 100000
set_option maxHeartbeats 4000000
/-! T7: the law's own lots -/
namespace G
open PySem PySem.Spec L2 PyProof.Rows
set_option autoImplicit false
theorem min2_i (x y : Int) (S : Sto) : gMM PySem.W.minD 2 [.d (.int x), .d (.int y)] S = some (.d (.int (min x y)), S) := by
  have := mm_ints (f := PySem.W.minD) (n := 2) x [y] rfl S
  rw [PySem.W.minD_ints] at this
  exact this
end G
set_option Elab.async false
set_option linter.all false
set_option maxRecDepth 100000
set_option maxHeartbeats 4000000
/-! T8: whole shifts and the greatest number, by the program -/
namespace G
open PySem PySem.Spec L2 PyProof.Rows
set_option autoImplicit false
def shKv (F : Sh) : List (Key × W) := F.map fun p => (.inl ((p.1 : Nat) : Int), .d (.int p.2))
def shC (F : Sh) : Cell := .dic (shKv F)
@[simp] theorem ev_lenD (f : Fe (List W)) (ρ : Slt) (S : Sto) : fCB gLenD f ρ S = (f ρ S).bind fun xs S1 => ofO (gLenD xs S1) := id rfl
end G
set_option Elab.async false
set_option linter.all false
set_option maxRecDepth 100000
set_option maxHeartbeats 4000000
/-! T9: own_g; the law's own fit -/
namespace G
open PySem PySem.Spec L2 PyProof.Rows
set_option autoImplicit false
/-- the greatest number of a lot -/
def gL (m : Mach) (L : List Nat) : Nat := gOf m.cs m.ts L (shF m.ts (L.headD 0) L.length)
theorem Lot.headD {n r : Nat} {ts : List Tch} {L : List Nat} (h : Lot n ts r L) : L.headD 0 = r := by
  have := h.hd
  cases L with
  | nil => cases this
  | cons a L => cases this; rfl
end G
set_option Elab.async false
set_option linter.all false
set_option maxRecDepth 100000
set_option maxHeartbeats 4000000
/-! T10: the law's own fit -/
namespace G
open PySem PySem.Spec L2 PyProof.Rows
set_option autoImplicit false
theorem pl_nD (l : List Nat) : ∀ x ∈ nD l, Pl 0 x := fun x hx => by
  obtain ⟨w, _, rfl⟩ := List.mem_map.mp hx
  exact pl_int _
/-- the store of a way under way -/
structure Fst (b : Nat) (S : Sto) (k q : Nat) (V : Sto) (s : Fd) : Prop where
  fr : Fr b S V
  hk : V[k]? = some (shC s.1)
  hq : V[q]? = some (.lst ((nD s.2).map W.d))
end G
set_option Elab.async false
set_option linter.all false
set_option maxRecDepth 100000
set_option maxHeartbeats 4000000
/-! T11: the law's own fit, whole; its greatest number -/
namespace G
open PySem PySem.Spec L2 PyProof.Rows
set_option autoImplicit false
section
variable {b k q : Nat} {S : Sto} {p : Int} {here : Nat} {a0 a1 : Option W}
end
end G
set_option Elab.async false
set_option linter.all false
set_option maxRecDepth 100000
set_option maxHeartbeats 4000000
/-! T12: the law's own greatest numbers, and all of a machine -/
namespace G
open PySem PySem.Spec L2 PyProof.Rows
set_option autoImplicit false
theorem lots_lot {n : Nat} {ts : List Tch} (hts : ∀ t ∈ ts, t.1.1 < n ∧ t.2.1 < n) {L : List Nat} (h : L ∈ lotsOf n (lowsP n ts)) : ∃ r, Lot n ts r L ∧ L = lotOf n (lowsP n ts) ((r : Nat) : Int) ∧ lv (lowsP n ts) r = r := by
  have hm := lst_fold hts
  obtain ⟨low, h1, rfl⟩ := List.mem_map.mp h
  unfold lowsI at h1
  rw [sset_mem] at h1
  obtain ⟨x, hx, rfl⟩ := List.mem_map.mp h1
  obtain ⟨w, hw, hwx⟩ := List.getElem_of_mem hx
  have hwn : w < n := by rw [← hm.len]; exact hw
  have ex : x = lv (lowsP n ts) w := by
    unfold lv
    rw [List.getD_eq_getElem?_getD, List.getElem?_eq_getElem hw]
    exact hwx.symm
  have hxn : x < n := by rw [ex]; exact hm.lt hwn
  have hxx : lv (lowsP n ts) x = x := by rw [ex]; exact hm.idem hwn
  refine ⟨x, ⟨?_, ?_, fun v => ?_⟩, rfl, hxx⟩
  · unfold lotOf
    rw [List.head?_filter, List.find?_range_eq_some]
    refine ⟨decide_eq_true (by rw [hxx]), by simpa using hxn, fun j hj => ?_⟩
    have := hm.le j (by omega)
    simp
    omega
  · exact List.Pairwise.filter _ List.nodup_range
  · unfold lotOf
    rw [List.mem_filter, List.mem_range]
    constructor
    · rintro ⟨h1, h2⟩
      have h2 := of_decide_eq_true h2
      refine ⟨h1, ?_⟩
      have : lv (lowsP n ts) v = x := by omega
      rw [← this]
      exact (hm.con v h1).symm
    · rintro ⟨h1, h2⟩
      refine ⟨h1, decide_eq_true ?_⟩
      have := hm.same h2
      rw [hxx] at this
      omega
end G
set_option Elab.async false
set_option linter.all false
set_option maxRecDepth 100000
set_option maxHeartbeats 4000000
/-! T13: tables by spots (from k11) -/
namespace G
open PySem PySem.Spec L2 PyProof.Rows
set_option autoImplicit false
def nmb (ts : List Tch) (s : Spot) : Nat := ts.findIdx fun t => decide (s = t.1 ∨ s = t.2)
theorem nmb_of : ∀ {ts : List Tch} {k : Nat} {t : Tch} {s : Spot}, (spotsOf ts).Nodup → ts[k]? = some t → (s = t.1 ∨ s = t.2) → nmb ts s = k
  | [], k, t, s, _, h, _ => by simp at h
  | u :: ts, 0, t, s, hn, h, hs => by
    have e : u = t := by simpa using h
    subst e
    unfold nmb
    rw [List.findIdx_cons]
    simp [hs]
  | u :: ts, k + 1, t, s, hn, h, hs => by
    have h' : ts[k]? = some t := by simpa using h
    have e : spotsOf (u :: ts) = u.1 :: u.2 :: spotsOf ts := rfl
    rw [e, List.nodup_cons, List.nodup_cons] at hn
    obtain ⟨n1, n2, n3⟩ := hn
    have hin : s ∈ spotsOf ts := List.mem_flatMap.mpr ⟨t, List.mem_of_getElem? h', by simpa using hs⟩
    have a1 : s ≠ u.1 := fun z => n1 (by rw [← z]; simp [hin])
    have a2 : s ≠ u.2 := fun z => n2 (by rw [← z]; exact hin)
    have ih := nmb_of n3 h' hs
    unfold nmb at ih ⊢
    have hd : decide (s = u.1 ∨ s = u.2) = false := decide_eq_false (by simp [a1, a2])
    rw [List.findIdx_cons, hd, ih]
    rfl
theorem nmb_spec {ts : List Tch} (hn : (spotsOf ts).Nodup) {s : Spot} (h : s ∈ spotsOf ts) : ∃ t, ts[nmb ts s]? = some t ∧ (s = t.1 ∨ s = t.2) := by
  obtain ⟨t, ht, hs⟩ := List.mem_flatMap.mp h
  obtain ⟨k, hk⟩ := List.mem_iff_getElem?.mp ht
  have hs' : s = t.1 ∨ s = t.2 := by simpa using hs
  exact ⟨t, by rw [nmb_of hn hk hs']; exact hk, hs'⟩
def spK (s : Spot) : List Int := [(s.1 : Int), (s.2 : Int)]
theorem spK_inj {s t : Spot} (h : spK s = spK t) : s = t := by
  unfold spK at h
  injection h with h1 h2
  injection h2 with h2 _
  exact Prod.ext (by omega) (by omega)
@[simp] theorem keyI_s (s : Spot) : keyI (sD s) = some (spK s) := rfl
def tabL (h : Spot → PyData) (l : List Spot) : List (List Int × W) := l.map fun s => (spK s, .d (h s))
theorem look_in (h : Spot → PyData) {s : Spot} : ∀ {l : List Spot}, s ∈ l → lookD (tabL h l) (spK s) = some (.d (h s))
  | t :: l, hs => by
    show (if spK t = spK s then some (W.d (h t)) else lookD (tabL h l) (spK s)) = _
    by_cases e : t = s
    · subst e
      rw [if_pos rfl]
    · rw [if_neg (fun z => e (spK_inj z))]
      exact look_in h ((List.mem_cons.mp hs).resolve_left (fun z => e z.symm))
theorem look_out (h : Spot → PyData) {s : Spot} : ∀ {l : List Spot}, s ∉ l → lookD (tabL h l) (spK s) = none
  | [], _ => rfl
  | t :: l, hs => by
    show (if spK t = spK s then some (W.d (h t)) else lookD (tabL h l) (spK s)) = _
    simp only [List.mem_cons, not_or] at hs
    rw [if_neg (fun z => hs.1 (spK_inj z).symm)]
    exact look_out h hs.2
theorem put_new (h : Spot → PyData) {s : Spot} {l : List Spot} (hs : s ∉ l) : putD (tabL h l) (spK s) (.d (h s)) = tabL h (l ++ [s]) := by
  unfold putD
  have e : ((tabL h l).any fun kv => decide (kv.1 = spK s)) = false := by
    rw [List.any_eq_false]
    intro x hx
    obtain ⟨t, ht, rfl⟩ := List.mem_map.mp hx
    simp only [decide_eq_true_eq]
    intro z
    exact hs (spK_inj z ▸ ht)
  rw [e, if_neg Bool.false_ne_true]
  unfold tabL
  simp
theorem keys_tab (h : Spot → PyData) (l : List Spot) : keysX (tabL h l) = l.map sD := by
  unfold keysX tabL
  rw [List.map_map]
  rfl
/-! a table stands -/
def Tab (S : Sto) (n : Nat) (h : Spot → PyData) (l : List Spot) : Prop := dixOf (.o n) S = some (tabL h l)
theorem tab_d {S : Sto} {n : Nat} {h : Spot → PyData} {l : List Spot} (e : S[n]? = some (.dix (tabL h l))) : Tab S n h l := by
  unfold Tab dixOf
  simp only [e]
theorem tab_f {S : Sto} {n : Nat} {h : Spot → PyData} {l : List Spot} (e : S[n]? = some (.fdx (tabL h l))) : Tab S n h l := by
  unfold Tab dixOf
  simp only [e]
theorem Tab.keep {S U : Sto} {n : Nat} {h : Spot → PyData} {l : List Spot} (t : Tab S n h l) (e : U[n]? = S[n]?) : Tab U n h l := by
  unfold Tab dixOf at t ⊢
  simp only [e]
  exact t
theorem Tab.lt {S : Sto} {n : Nat} {h : Spot → PyData} {l : List Spot} (t : Tab S n h l) : n < S.length := by
  unfold Tab dixOf at t
  simp only [] at t
  rcases Nat.lt_or_ge n S.length with z | z
  · exact z
  · rw [List.getElem?_eq_none z] at t
    cases t
theorem Tab.app {S : Sto} {n : Nat} {h : Spot → PyData} {l : List Spot} (t : Tab S n h l) (T : Sto) : Tab (S ++ T) n h l := t.keep (List.getElem?_append_left t.lt)
theorem Tab.get {S : Sto} {n : Nat} {h : Spot → PyData} {l : List Spot} (t : Tab S n h l) {s : Spot} (hs : s ∈ l) : gXget (.o n) (.d (sD s)) S = some (.d (h s), S) := by
  unfold gXget
  unfold Tab at t
  simp only [t, keyI_s, look_in h hs, Option.map_some]
theorem Tab.is {S : Sto} {n : Nat} {h : Spot → PyData} {l : List Spot} (t : Tab S n h l) (s : Spot) : gInX false (.d (sD s)) (.o n) S = some (.d (.bool (decide (s ∈ l))), S) := by
  unfold gInX
  unfold Tab at t
  simp only [t, keyI_s]
  by_cases hs : s ∈ l
  · rw [look_in h hs, decide_eq_true hs]
    rfl
  · rw [look_out h hs, decide_eq_false hs]
    rfl
theorem Tab.keys {S : Sto} {n : Nat} {h : Spot → PyData} {l : List Spot} (t : Tab S n h l) : ∃ U, (∀ (f : Fe W) (ρ : Slt) (S0 : Sto), f ρ S0 = .ok (.o n) S → fKeysX f ρ S0 = .ok (l.map sD) U) ∧ Tab U n h l ∧ U.length = S.length ∧ ∀ i, i ≠ n → U[i]? = S[i]? := by
  unfold Tab dixOf at t
  simp only [] at t
  have hn : n < S.length := by
    rcases Nat.lt_or_ge n S.length with z | z
    · exact z
    · rw [List.getElem?_eq_none z] at t
      cases t
  cases e : S[n]? with
  | none => rw [e] at t; cases t
  | some c =>
    rw [e] at t
    cases c with
    | dix kvs =>
      have ek : kvs = tabL h l := by simpa using t
      subst ek
      refine ⟨S.set n (.fdx (tabL h l)), fun f ρ S0 ef => ?_, tab_f (List.getElem?_set_self hn), by simp, fun i hi => List.getElem?_set_ne (Ne.symm hi)⟩
      unfold fKeysX
      simp only [ef, bind_ok, e, keys_tab]
    | fdx kvs =>
      have ek : kvs = tabL h l := by simpa using t
      subst ek
      refine ⟨S, fun f ρ S0 ef => ?_, tab_f e, rfl, fun i hi => rfl⟩
      unfold fKeysX
      simp only [ef, bind_ok, e, keys_tab]
    | _ => cases t
/-! the touch of each spot -/
def numD (m : Mach) (s : Spot) : PyData := .int (nmb m.ts s : Nat)
theorem putX_n {S : Sto} {n : Nat} {h : Spot → PyData} {l : List Spot} {s : Spot} (e : S[n]? = some (.dix (tabL h l))) (hs : s ∉ l) (hl : l.length ≤ 1000) : putXk (.o n) (.d (sD s)) (.d (h s)) S = some (S.set n (.dix (tabL h (l ++ [s])))) := by
  unfold putXk
  simp only [keyI_s, e]
  rw [if_pos (by unfold tabL; simp; omega), put_new h hs]
theorem st_putX (fo fi fv : Fe W) (ρ : Slt) (S : Sto) : fPutX fo fi fv ρ S = (fv ρ S).fl ρ fun z S1 => (fo ρ S1).fl ρ fun x S2 => (fi ρ S2).fl ρ fun y S3 => match putXk x y z S3 with
  | some S4 => .nx ρ S4
  | none => .bad := rfl
theorem ta_loop {m : Mach} (ok : Ok m) {S : Sto} {a0 : Option W} : ∀ (ts us : List Tch) (j2 j3 j4 : Option W), us ++ ts = m.ts → ∃ k2 k3 k4,
    forD (gTp 2 (gsCons (gNm 2) (gsCons (gNm 3) gsNil))) (fFor (fIt (fVar 3)) (gNm 4) (fPutX (fVar 1) (fVar 4) (fVar 2))) (((ts.map tcD).zipIdx us.length).map fun p => PyData.tuple [.int (p.2 : Nat), p.1]) [a0, some (.o S.length), j2, j3, j4] (S ++ [.dix (tabL (numD m) (spotsOf us))]) = .nx [a0, some (.o S.length), k2, k3, k4] (S ++ [.dix (tabL (numD m) (spotsOf m.ts))])
  | [], us, j2, j3, j4, e => by
    rw [List.append_nil] at e
    subst e
    exact ⟨j2, j3, j4, rfl⟩
  | t :: ts, us, j2, j3, j4, e => by
    have hn := ok.nd
    have h8 := ok.l8
    have hk : m.ts[us.length]? = some t := by rw [← e]; simp
    have n1 : nmb m.ts t.1 = us.length := nmb_of hn hk (.inl rfl)
    have n2 : nmb m.ts t.2 = us.length := nmb_of hn hk (.inr rfl)
    have es : spotsOf m.ts = spotsOf us ++ (t.1 :: t.2 :: spotsOf ts) := by rw [← e, spotsOf_app]; rfl
    have hl : (spotsOf us).length ≤ 16 := by
      have := spots_len m.ts
      rw [es] at this
      simp at this
      omega
    rw [es, List.nodup_append] at hn
    obtain ⟨_, hn2, hn3⟩ := hn
    have h1 : t.1 ∉ spotsOf us := fun z => hn3 _ z _ (by simp) rfl
    have h2 : t.2 ∉ spotsOf us ++ [t.1] := fun z => by
      rcases List.mem_append.mp z with z | z
      · exact hn3 _ z _ (by simp) rfl
      · rw [List.nodup_cons] at hn2
        have : t.2 = t.1 := by simpa using z
        exact hn2.1 (by rw [← this]; simp)
    obtain ⟨k2, k3, k4, ih⟩ := ta_loop ok (S := S) (a0 := a0) ts (us ++ [t]) (some (.d (.int (us.length : Nat)))) (some (.d (tcD t))) (some (.d (sD t.2))) (by simpa using e)
    refine ⟨k2, k3, k4, ?_⟩
    rw [enum_cons, forD_cons]
    have eg : gTp 2 (gsCons (gNm 2) (gsCons (gNm 3) gsNil)) (.d (.tuple [.int (us.length : Nat), tcD t])) [a0, some (.o S.length), j2, j3, j4] (S ++ [.dix (tabL (numD m) (spotsOf us))]) = some [a0, some (.o S.length), some (.d (.int (us.length : Nat))), some (.d (tcD t)), j4] := rfl
    rw [eg]
    dsimp only
    have p1 := putX_n (S := S ++ [.dix (tabL (numD m) (spotsOf us))]) (h := numD m) (s := t.1) (get_len_app _ _ _) h1 (by omega)
    rw [set_len_app] at p1
    have p2 := putX_n (S := S ++ [.dix (tabL (numD m) (spotsOf us ++ [t.1]))]) (h := numD m) (s := t.2) (get_len_app _ _ _) h2 (by simp; omega)
    rw [set_len_app] at p2
    have e1 : numD m t.1 = .int (us.length : Nat) := by unfold numD; rw [n1]
    have e2 : numD m t.2 = .int (us.length : Nat) := by unfold numD; rw [n2]
    rw [e1] at p1
    rw [e2] at p2
    have ei : ∀ V, itemsOf (.d (tcD t)) V = some ([sD t.1, sD t.2], V) := fun V => rfl
    have ea : spotsOf us ++ [t.1] ++ [t.2] = spotsOf (us ++ [t]) := by rw [spotsOf_app]; simp [spotsOf]
    rw [ea] at p2
    have el : us.length + 1 = (us ++ [t]).length := by simp
    rw [el]
    simp only [st_for, it_ev, ev_var, List.getElem?_cons_zero, List.getElem?_cons_succ, bind_ok, ei, ofO_some, fl_ok, forD_cons, forD_nil, gt_nm, List.set_cons_zero, List.set_cons_succ, st_putX, p1, p2]
    exact ih
theorem r_touches_at {m : Mach} (ok : Ok m) (S : Sto) : R_touches_at [.d (mD m)] S = .ok (.o S.length) (S ++ [.dix (tabL (numD m) (spotsOf m.ts))]) := by
  obtain ⟨k2, k3, k4, e1⟩ := ta_loop ok (S := S) (a0 := some (.d (mD m))) m.ts [] none none none rfl
  have eA : ∀ ρ : Slt, fNewX ρ S = .ok (.o S.length) (S ++ [.dix []]) := fun ρ => rfl
  have ez : enumD (m.ts.map tcD) = ((m.ts.map tcD).zipIdx 0).map fun p => PyData.tuple [.int (p.2 : Nat), p.1] := rfl
  have e0 : tabL (numD m) (spotsOf []) = [] := rfl
  rw [e0, List.length_nil] at e1
  unfold R_touches_at runB B_touches_at
  simp only [startR, List.map_cons, List.map_nil, List.length_cons, List.length_nil, Nat.zero_add, Nat.reduceAdd, Nat.reduceSub, List.replicate, List.cons_append, List.nil_append, st_seq, st_set, eA, fl_ok, List.set_cons_zero, List.set_cons_succ, st_for, en_ev, ev_op2, ev_var, List.getElem?_cons_zero, List.getElem?_cons_succ, ev_c, bind_ok, ix_m1, ofO_some, items_ts, ez, e1, st_ret]
end G
set_option Elab.async false
set_option linter.all false
set_option maxRecDepth 100000
set_option maxHeartbeats 4000000
/-! T14: one touch more, in plain Lean -/
namespace G
open PySem PySem.Spec L2 PyProof.Rows
set_option autoImplicit false
section
variable {cs : List Nat} {ts us : List Tch} {r a b : Nat} {p : Nat}
theorem Kap.congr {p : Int} {κ : Nat → Int} (c : Con ts r a) (k : Kap ts r p κ) : Kap ts a p κ := fun t ht h => k t ht (c.trans h)
theorem Fits.congr (c : Con ts r a) : Fits cs ts r p ↔ Fits cs ts a p :=
  ⟨fun h => ⟨fun w hw k => h.1 w hw (c.trans k), let ⟨κ, k⟩ := h.2; ⟨κ, k.congr c⟩⟩, fun h => ⟨fun w hw k => h.1 w hw (c.symm.trans k), let ⟨κ, k⟩ := h.2; ⟨κ, k.congr c.symm⟩⟩⟩
/-- one touch more -/
def OneMore (ts us : List Tch) (t : Tch) : Prop := ∀ u, u ∈ us ↔ u ∈ ts ∨ u = t
variable {t : Tch}
theorem OneMore.sub (h : OneMore ts us t) {x y : Nat} (c : Con ts x y) : Con us x y := c.mono fun u hu => (h u).mpr (.inl hu)
theorem OneMore.edge (h : OneMore ts us t) : Con us t.1.1 t.2.1 := .one t ((h t).mpr (.inr rfl)) (.refl _)
/-- of one lot: nothing new hangs together -/
theorem OneMore.same (h : OneMore ts us t) (c : Con ts t.1.1 t.2.1) {x y : Nat} : Con us x y ↔ Con ts x y := by
  refine ⟨fun k => ?_, h.sub⟩
  induction k with
  | refl => exact .refl _
  | one u hu _ ih =>
    rcases (h u).mp hu with hu | rfl
    · exact .one u hu ih
    · exact ih.trans c
  | two u hu _ ih =>
    rcases (h u).mp hu with hu | rfl
    · exact .two u hu ih
    · exact ih.trans c.symm
/-- of two lots: they are one -/
theorem OneMore.two (h : OneMore ts us t) {x : Nat} : Con us t.1.1 x ↔ Con ts t.1.1 x ∨ Con ts t.2.1 x := by
  constructor
  · intro k
    generalize hz : t.1.1 = z at k
    induction k with
    | refl => subst hz; exact .inl (.refl _)
    | one u hu _ ih =>
      rcases (h u).mp hu with hu | rfl
      · rcases ih with k | k
        · exact .inl (.one u hu k)
        · exact .inr (.one u hu k)
      · exact .inr (.refl _)
    | two u hu _ ih =>
      rcases (h u).mp hu with hu | rfl
      · rcases ih with k | k
        · exact .inl (.two u hu k)
        · exact .inr (.two u hu k)
      · rw [← hz]; exact .inl (.refl _)
  · rintro (k | k)
    · exact h.sub k
    · exact h.edge.trans (h.sub k)
theorem OneMore.far (h : OneMore ts us t) {z x : Nat} (hz : ¬ Con us t.1.1 z) : Con us z x ↔ Con ts z x := by
  refine ⟨fun k => ?_, h.sub⟩
  induction k with
  | refl => exact .refl _
  | one u hu hk ih =>
    rcases (h u).mp hu with hu | rfl
    · exact .one u hu ih
    · exact absurd hk.symm hz
  | two u hu hk ih =>
    rcases (h u).mp hu with hu | rfl
    · exact .two u hu ih
    · exact absurd (h.edge.trans hk.symm) hz
end
/-! the lot of a wheel -/
def lotAt (n : Nat) (ts : List Tch) (w : Nat) : List Nat := lotOf n (lowsP n ts) ((lv (lowsP n ts) w : Nat) : Int)
theorem lot_at {n : Nat} {ts : List Tch} (hts : ∀ t ∈ ts, t.1.1 < n ∧ t.2.1 < n) {w : Nat} (hw : w < n) : lotAt n ts w ∈ lotsOf n (lowsP n ts) ∧ w ∈ lotAt n ts w ∧ Lot n ts (lv (lowsP n ts) w) (lotAt n ts w) := by
  have hm := lst_fold hts
  have h1 : lotAt n ts w ∈ lotsOf n (lowsP n ts) := by
    refine List.mem_map.mpr ⟨_, ?_, rfl⟩
    unfold lowsI
    rw [sset_mem]
    refine List.mem_map.mpr ⟨lv (lowsP n ts) w, ?_, rfl⟩
    unfold lv
    rw [List.getD_eq_getElem?_getD, List.getElem?_eq_getElem (by rw [hm.len]; exact hw)]
    exact List.getElem_mem _
  obtain ⟨r, hL, e, _⟩ := lots_lot hts h1
  have hmem : w ∈ lotAt n ts w := by
    unfold lotAt lotOf
    simp [hw]
  have hrw := (hL.mem w).mp hmem
  have hr := hL.root
  have : r = lv (lowsP n ts) w := by
    have h2 : r ∈ lotAt n ts w := (hL.mem r).mpr ⟨hr, .refl _⟩
    unfold lotAt lotOf at h2
    have h3 := of_decide_eq_true (List.mem_filter.mp h2).2
    have h4 : lv (lowsP n ts) r = r := by
      obtain ⟨r', hL', _, e'⟩ := lots_lot hts h1
      have : r' = r := by
        have := hL.headD
        rw [hL'.headD] at this
        exact this
      rw [this] at e'
      exact e'
    omega
  refine ⟨h1, hmem, ?_⟩
  rw [← this]
  exact hL
/-- the only lot that has a wheel -/
theorem lot_only {n : Nat} {ts : List Tch} (hts : ∀ t ∈ ts, t.1.1 < n ∧ t.2.1 < n) {L : List Nat} (h : L ∈ lotsOf n (lowsP n ts)) {w : Nat} (hw : w ∈ L) : L = lotAt n ts w := by
  obtain ⟨r, hL, e, er⟩ := lots_lot hts h
  have c := (hL.mem w).mp hw
  have := (lst_fold hts).same c.2
  rw [er] at this
  unfold lotAt
  rw [← this]
  exact e
end G
set_option Elab.async false
set_option linter.all false
set_option maxRecDepth 100000
set_option maxHeartbeats 4000000
/-! T15: free spots, pairs of them -/
namespace G
open PySem PySem.Spec L2 PyProof.Rows
set_option autoImplicit false
theorem Tab.nis {S : Sto} {n : Nat} {h : Spot → PyData} {l : List Spot} (t : Tab S n h l) (s : Spot) : gInX true (.d (sD s)) (.o n) S = some (.d (.bool (decide (s ∉ l))), S) := by
  unfold gInX
  unfold Tab at t
  simp only [t, keyI_s]
  by_cases hs : s ∈ l
  · rw [look_in h hs, decide_eq_false (fun z => z hs)]
    rfl
  · rw [look_out h hs, decide_eq_true hs]
    rfl
/-! pairs -/
end G
set_option Elab.async false
set_option linter.all false
set_option maxRecDepth 100000
set_option maxHeartbeats 4000000
/-! T16: how a machine stands: numbers of lots, whole shifts, greatest numbers -/
namespace G
open PySem PySem.Spec L2 PyProof.Rows
set_option autoImplicit false
def numF : Nat → List (List Nat) → Sh
  | _, [] => []
  | i, L :: Ls => (L.map fun w => (w, (i : Int))) ++ numF (i + 1) Ls
def movF (ts : List Tch) : List (List Nat) → Sh
  | [] => []
  | L :: Ls => shF ts (L.headD 0) L.length ++ movF ts Ls
@[simp] theorem ev_mtD (g : OpM) (f : Fe W) (h : Fe (List W)) (ρ : Slt) (S : Sto) : fMtD g f h ρ S = (f ρ S).bind fun x S1 => if (dicOf x S1).isSome = true then (h ρ S1).bind fun xs S2 => ofO (g x xs S2) else .bad := id rfl
theorem Lot.keys {m : Mach} (h : Wm m) {r : Nat} {L : List Nat} (hL : Lot m.cs.length m.ts r L) : (∀ w ∈ G.keys (shF m.ts (L.headD 0) L.length), w ∈ L) ∧ (G.keys (shF m.ts (L.headD 0) L.length)).Nodup ∧ (shF m.ts (L.headD 0) L.length).length = L.length := by
  rw [hL.headD]
  obtain ⟨tr, hl⟩ := sh_ok hL h.ts_lt
  exact ⟨fun w hw => (hL.mem w).mpr ⟨con_lt h.ts_lt hL.root (tr.con w hw), tr.con w hw⟩, tr.nd, hl⟩
end G
set_option Elab.async false
set_option linter.all false
set_option maxRecDepth 100000
set_option maxHeartbeats 4000000
/-! T17: a machine's standing read: g_with, is_idle, idle_pairs -/
namespace G
open PySem PySem.Spec L2 PyProof.Rows
set_option autoImplicit false
def lotsM (m : Mach) : List (List Nat) := lotsOf m.cs.length (lowsP m.cs.length m.ts)
def atM (m : Mach) (w : Nat) : List Nat := lotAt m.cs.length m.ts w
def shM (m : Mach) : Sh := movF m.ts (lotsM m)
theorem lots_nodup {m : Mach} (h : Wm m) : (lotsM m).flatten.Nodup := by
  unfold List.Nodup
  rw [List.pairwise_flatten]
  refine ⟨fun L hL => ?_, ?_⟩
  · obtain ⟨r, hr, _, _⟩ := lots_lot h.ts_lt hL
    exact hr.nd
  · unfold lotsM lotsOf
    rw [List.pairwise_map]
    refine (sset_pw _).imp fun {a c} hac x hx y hy e => ?_
    subst e
    unfold lotOf at hx hy
    have h1 := of_decide_eq_true (List.mem_filter.mp hx).2
    have h2 := of_decide_eq_true (List.mem_filter.mp hy).2
    omega
theorem lots_small {m : Mach} (h : Wm m) : (lotsM m).length ≤ 16 ∧ (lotsM m).flatten.length ≤ 16 := by
  have h16 := h.l16
  have ll := lows_len (lowsP m.cs.length m.ts)
  rw [(lst_fold h.ts_lt).len] at ll
  refine ⟨by unfold lotsM lotsOf; rw [List.length_map]; omega, ?_⟩
  have := nodup_le (lots_nodup h) (m := List.range m.cs.length) fun w hw => by
    obtain ⟨L, hL, hwL⟩ := List.mem_flatten.mp hw
    obtain ⟨r, hr, _, _⟩ := lots_lot h.ts_lt hL
    simpa using ((hr.mem w).mp hwL).1
  simp only [List.length_range] at this
  omega
structure StOk (m : Mach) (b : Nat) (V : Sto) (d1 d2 d3 : Nat) : Prop where
  l1 : d1 < b
  l2 : d2 < b
  l3 : d3 < b
  n : V[d1]? = some (shC (numF 0 (lotsM m)))
  s : V[d2]? = some (shC (shM m))
  w : V[d3]? = some (.lst (((lotsM m).map fun L => PyData.int (gL m L : Nat)).map W.d))
theorem StOk.fr {m : Mach} {b d1 d2 d3 : Nat} {V V' : Sto} (h : StOk m b V d1 d2 d3) (f : Fr b V V') : StOk m b V' d1 d2 d3 :=
  ⟨h.l1, h.l2, h.l3, by rw [f.at_ _ h.l1]; exact h.n, by rw [f.at_ _ h.l2]; exact h.s, by rw [f.at_ _ h.l3]; exact h.w⟩
/-! reading it -/
end G
set_option Elab.async false
set_option linter.all false
set_option maxRecDepth 100000
set_option maxHeartbeats 4000000
/-! T18: the law's own free spots and one touch more -/
namespace G
open PySem PySem.Spec L2 PyProof.Rows
set_option autoImplicit false
/-! one touch more -/
end G
set_option Elab.async false
set_option linter.all false
set_option maxRecDepth 100000
set_option maxHeartbeats 4000000
/-! T19: one touch more, the plain law -/
namespace G
open PySem PySem.Spec L2 PyProof.Rows
set_option autoImplicit false
section
variable {m : Mach} {us : List Tch} {s o : Spot}
/-! lots and numbers alike -/
theorem eqv_n : ∀ a c : List Nat, PyData.eqvAll (nD a) (nD c) = decide (a = c)
  | [], [] => by simp [nD, PyData.eqvAll]
  | [], y :: c => by simp [nD, PyData.eqvAll]
  | x :: a, [] => by simp [nD, PyData.eqvAll]
  | x :: a, y :: c => by
    show PyData.eqvAll (.int (x : Nat) :: nD a) (.int (y : Nat) :: nD c) = _
    simp only [PyData.eqvAll, PyData.eqv, eqv_n a c]
    rw [Bool.eq_iff_iff]
    simp
    intro _
    omega
end
end G
set_option Elab.async false
set_option linter.all false
set_option maxRecDepth 100000
set_option maxHeartbeats 4000000
/-! T20: sizes of what is shown (from k11) -/
namespace G
open PySem PySem.Spec L2 PyProof.Rows
set_option autoImplicit false
/-! sizes of what is shown -/
structure Rp (w dep : Nat) (d : PyData) : Prop where
  s : d.showable = true
  n : d.hasDict = false
  l : d.leavesShort 198 = true
  w : d.weight ≤ w
  t : ∀ k, 200 ≤ k → k ∉ d.shown.cps.toList
  d : d.depth ≤ dep
theorem rp_int {i : Int} {n : Nat} (h : i.natAbs < 2 ^ n) (hn : n ≤ 190) : Rp n 0 (.int i) := by
  have hlog : i.natAbs.log2 < 190 ∧ (i ≠ 0 → i.natAbs.log2 + 1 ≤ n) := by
    by_cases h0 : i = 0
    · subst h0
      exact ⟨by decide, fun z => absurd rfl z⟩
    · have := (Nat.log2_lt (by omega : i.natAbs ≠ 0)).mpr h
      exact ⟨by omega, fun _ => by omega⟩
  refine ⟨?_, by simp only [PyData.hasDict], ?_, ?_, fun k hk => shown_int_free' (by omega) i, by simp [PyData.depth]⟩
  · simp only [PyData.showable, decide_eq_true_eq]
    have := hlog.1; omega
  · have e : (PyData.int i).shown.length = (toString i).length := by rw [PyData.shown_int]; exact PySem.ofString_length _
    have l : (PyData.int i).shown.length ≤ 198 := by
      rw [e]
      exact Nat.le_trans (PySem.int_text_length_le (k := 190) (by decide) hlog.1) (by decide)
    simp only [PyData.leavesShort, decide_eq_true_eq]
    exact l
  · simp only [PyData.weight]
    by_cases h0 : i = 0
    · simp [h0]
    · have e : (i == 0) = false := by simpa using h0
      rw [e, if_neg Bool.false_ne_true]
      exact hlog.2 h0
theorem rp_all {w dep : Nat} : ∀ {l : List PyData}, (∀ x ∈ l, Rp w dep x) → PyData.showableAll l = true ∧ PyData.hasDictAll l = false ∧ PyData.leavesShortAll 198 l = true ∧ PyData.weightAll l ≤ l.length * (w + 1) ∧ PyData.depthAll l ≤ dep
  | [], _ => ⟨by simp only [PyData.showableAll], by simp only [PyData.hasDictAll], by simp only [PyData.leavesShortAll], by simp [PyData.weightAll], by simp [PyData.depthAll]⟩
  | x :: l, h => by
    obtain ⟨h1, h2, h3, h4, h5⟩ := rp_all (l := l) fun y hy => h y (by simp [hy])
    have hx := h x (by simp)
    refine ⟨?_, ?_, ?_, ?_, ?_⟩
    · simp only [PyData.showableAll, hx.s, h1, Bool.and_self]
    · simp only [PyData.hasDictAll, hx.n, h2, Bool.or_self]
    · simp only [PyData.leavesShortAll, hx.l, h3, Bool.and_self]
    · simp only [PyData.weightAll, List.length_cons, Nat.succ_mul]
      have := hx.w
      omega
    · simp only [PyData.depthAll]
      have := hx.d
      omega
theorem tup_free {k : Nat} (hk : 200 ≤ k) {l : List PyData} (h : ∀ x ∈ l, k ∉ x.shown.cps.toList) : k ∉ (PyData.tuple l).shown.cps.toList := by
  rw [PyData.shown_tuple, ← PyData.shownAll_length l]
  intro hm
  rw [mem_cps_append, mem_cps_append, signs_lparen, mem_join, signs_tuple_end] at hm
  rcases hm with ((hm | (⟨t, ht, hc⟩ | ⟨hl, hm⟩)) | hm)
  · simp at hm; omega
  · exact shownAll_free h t ht hc
  · rw [signs_sep] at hm
    simp at hm; omega
  · split at hm
    · simp at hm; omega
    · simp at hm; omega
theorem rp_tup {w dep : Nat} {l : List PyData} (h : ∀ x ∈ l, Rp w dep x) : Rp (l.length * (w + 1)) (dep + 1) (.tuple l) := by
  obtain ⟨h1, h2, h3, h4, h5⟩ := rp_all h
  exact ⟨by simp only [PyData.showable, h1], by simp only [PyData.hasDict, h2], by simp only [PyData.leavesShort, h3], by simp only [PyData.weight]; exact h4, fun k hk => tup_free hk fun x hx => (h x hx).t k hk, by simp only [PyData.depth]; omega⟩
theorem Rp.mono {w w' dep dep' : Nat} {d : PyData} (h : Rp w dep d) (h1 : w ≤ w') (h2 : dep ≤ dep') : Rp w' dep' d := ⟨h.s, h.n, h.l, Nat.le_trans h.w h1, h.t, Nat.le_trans h.d h2⟩
theorem repr_ok {w dep : Nat} {d : PyData} (h : Rp w dep d) (hb : isBox d = true) (hw : w ≤ 80000) (hd : dep ≤ 60) (S : Sto) : gRepr [.d d] S = some (.d (.str d.shown), S) := by
  have ok : reprOk d = true := by
    unfold reprOk
    simp only [h.s, h.n, h.l, Bool.not_false, Bool.true_and, Bool.and_eq_true, Bool.or_eq_true, decide_eq_true_eq]
    exact ⟨.inr (Nat.le_trans h.w hw), Nat.le_trans h.d hd⟩
  unfold gRepr
  simp only [view_d, hb, ok, Bool.and_self, if_true]
@[simp] theorem ev_repr (f : Fe (List W)) (ρ : Slt) (S : Sto) : fCB gRepr f ρ S = (f ρ S).bind fun xs S1 => ofO (gRepr xs S1) := id rfl
theorem Rp.ok {w dep : Nat} {d : PyData} (h : Rp w dep d) : SeqAt.shaped (.str d.shown) = true := by
  unfold SeqAt.shaped
  simp only [PyData.canLay0, PyData.strOk, PyData.depth, Nat.zero_le, decide_true, Bool.and_true]
  rw [Array.all_eq_true']
  intro x hx
  have := h.t x
  simp only [decide_eq_true_eq]
  by_cases h2 : 200 ≤ x
  · exact absurd (Array.mem_toList_iff.mpr hx) (this h2)
  · omega
theorem ne_str {a : Str} (ha : SeqAt.shaped (.str a) = true) (S : Sto) : dEq true (.d (.str a)) (.d (.str a)) S = some (.d (.bool false), S) := by
  rw [dEq_d true ha ha]
  have : PyData.eqv (.str a) (.str a) = true := by simp [PyData.eqv]
  rw [this]
  rfl
theorem lst_free {k : Nat} (hk : 200 ≤ k) {l : List PyData} (h : ∀ x ∈ l, k ∉ x.shown.cps.toList) : k ∉ (PyData.list l).shown.cps.toList := by
  rw [PyData.shown_list]
  intro hm
  rw [mem_cps_append, mem_cps_append, signs_lbrack, mem_join, signs_rbrack] at hm
  rcases hm with ((hm | (⟨t, ht, hc⟩ | ⟨hl, hm⟩)) | hm)
  · simp at hm; omega
  · exact shownAll_free h t ht hc
  · rw [signs_sep] at hm
    simp at hm; omega
  · simp at hm; omega
theorem rp_lst {w dep : Nat} {l : List PyData} (h : ∀ x ∈ l, Rp w dep x) : Rp (l.length * (w + 1)) (dep + 1) (.list l) := by
  obtain ⟨h1, h2, h3, h4, h5⟩ := rp_all h
  exact ⟨by simp only [PyData.showable, h1], by simp only [PyData.hasDict, h2], by simp only [PyData.leavesShort, h3], by simp only [PyData.weight]; exact h4, fun k hk => lst_free hk fun x hx => (h x hx).t k hk, by simp only [PyData.depth]; omega⟩
theorem repr_o {w dep : Nat} {l : List PyData} (h : Rp w dep (.list l)) (hw : w ≤ 80000) (hd : dep ≤ 60) {S : Sto} {q : Nat} (hq : S[q]? = some (.lst (l.map W.d))) : gRepr [.o q] S = some (.d (.str (PyData.list l).shown), S) := by
  have := repr_ok h rfl hw hd S
  unfold gRepr at this ⊢
  simp only [view_d] at this
  simp only [view_o hq]
  exact this
end G
set_option Elab.async false
set_option linter.all false
set_option maxRecDepth 100000
set_option maxHeartbeats 4000000
/-! T21: a pair more, by the law -/
namespace G
open PySem PySem.Spec L2 PyProof.Rows
set_option autoImplicit false
theorem in_n (a : Nat) (L : List Nat) (V : Sto) : gIn false (.d (.int (a : Nat))) (.d (wlD L)) V = some (.d (.bool (decide (a ∈ L))), V) := by
  have s2 := (pl_lst (pl_nD L)).shp (by decide)
  have s1 : SeqAt.shaped (.int (a : Nat)) = true := (pl_int _).shp (by decide)
  unfold gIn
  rw [view_d, view_d]
  simp only [wlD]
  rw [if_pos (by rw [s1, s2]; rfl)]
  have e : ((nD L).any fun z => PyData.eqv z (.int (a : Nat))) = decide (a ∈ L) := by
    rw [Bool.eq_iff_iff, decide_eq_true_iff, List.any_eq_true]
    unfold nD
    constructor
    · rintro ⟨x, hx, e⟩
      obtain ⟨w, hw, rfl⟩ := List.mem_map.mp hx
      simp only [PyData.eqv, beq_iff_eq] at e
      have : w = a := by omega
      exact this ▸ hw
    · intro hm
      exact ⟨_, List.mem_map_of_mem hm, by simp [PyData.eqv]⟩
  rw [e]
  rfl
end G
set_option Elab.async false
set_option linter.all false
set_option maxRecDepth 100000
set_option maxHeartbeats 4000000
/-! N1: the mirror: the row that a touch reads after some beats is what the mirrored machine makes of a half at both its spots -/
namespace G
open PySem PySem.Spec L2 PyProof.Rows
set_option autoImplicit false
/-- (a - p) mod c -/
def ngm (a p c : Nat) : Nat := (((a : Int) - (p : Int)) % (c : Int)).toNat
def flp (a : Nat) (cs : List Nat) (s : Spot) : Spot := (s.1, ngm a s.2 (cs.getD s.1 1))
theorem cnt_of {cs : List Nat} {s : Spot} (h : okS cs s) : s.2 < cs.getD s.1 1 := by
  obtain ⟨c, h1, h2⟩ := h
  rw [List.getD_eq_getElem?_getD, h1]
  exact h2
/-! what a touch does to a load -/
/-! the mirrored machine -/
def mirT (cs : List Nat) (t : Tch) : Tch := mkT (flp 1 cs t.1) (flp 1 cs t.2)
/-- a machine that is the mirror of another, in whatever order its touches were found -/
structure Mir (m m' : Mach) : Prop where
  ok : Ok m'
  cs : m'.cs = m.cs
  ts : m'.ts.Perm (m.ts.map (mirT m.cs))
end G
set_option Elab.async false
set_option linter.all false
set_option maxRecDepth 100000
set_option maxHeartbeats 4000000

/-! Q1: the next touched spot of a wheel, forth and back -/
namespace G
open PySem PySem.Spec L2 PyProof.Rows
set_option autoImplicit false

/-- so many places on (or back) -/
def stp (cs : List Nat) (d : Int) (s : Spot) (g : Nat) : Spot := (s.1, (((s.2 : Int) + d * g) % (cs.getD s.1 1 : Nat)).toNat)
theorem stp_cast {cs : List Nat} {d : Int} {s : Spot} {g : Nat} (h : okS cs s) : (((stp cs d s g).2 : Nat) : Int) = ((s.2 : Int) + d * g) % (cs.getD s.1 1 : Nat) := by
  have h0 := cnt_of h
  have := Int.emod_nonneg ((s.2 : Int) + d * g) (show ((cs.getD s.1 1 : Nat) : Int) ≠ 0 by omega)
  unfold stp
  simp only []
  omega
theorem stp_ok {cs : List Nat} {d : Int} {s : Spot} {g : Nat} (h : okS cs s) : okS cs (stp cs d s g) := by
  have h0 := cnt_of h
  have h1 := stp_cast (d := d) (g := g) h
  have h2 := Int.emod_lt_of_pos ((s.2 : Int) + d * g) (show (0 : Int) < ((cs.getD s.1 1 : Nat) : Int) by omega)
  obtain ⟨c, e1, e2⟩ := h
  refine ⟨c, e1, ?_⟩
  have e : cs.getD s.1 1 = c := by rw [List.getD_eq_getElem?_getD, e1]; rfl
  rw [e] at h1 h2
  omega
theorem self_mod {cs : List Nat} {s : Spot} (h : okS cs s) : (s.2 : Int) % (cs.getD s.1 1 : Nat) = s.2 := by
  have h0 := cnt_of h
  exact Int.emod_eq_of_lt (by omega) (by omega)
theorem stp_zero {cs : List Nat} {d : Int} {s : Spot} (h : okS cs s) : stp cs d s 0 = s := by
  have h1 := self_mod h
  unfold stp
  have e : (s.2 : Int) + d * (0 : Nat) = s.2 := by omega
  rw [e, h1]
  simp
theorem stp_all {cs : List Nat} {d : Int} {s : Spot} (h : okS cs s) : stp cs d s (cs.getD s.1 1) = s := by
  have h1 := self_mod h
  unfold stp
  rw [Int.add_mul_emod_self_right, h1]
  simp
/-- steps in a row -/
theorem stp_stp {cs : List Nat} {d e : Int} {s : Spot} {g k : Nat} (h : okS cs s) : ((((stp cs d s g).2 : Nat) : Int) + e * k) % (cs.getD s.1 1 : Nat) = ((s.2 : Int) + d * g + e * k) % (cs.getD s.1 1 : Nat) := by
  rw [stp_cast h, Int.add_emod, Int.emod_emod_of_dvd _ (Int.dvd_refl _), ← Int.add_emod]
/-- forth and back -/
theorem stp_back {cs : List Nat} {s : Spot} {g k : Nat} (h : okS cs s) (hk : k ≤ g) : stp cs (-1) (stp cs 1 s g) k = stp cs 1 s (g - k) := by
  have h1 := stp_stp (d := 1) (e := -1) (g := g) (k := k) h
  show (s.1, _) = (s.1, _)
  congr 2
  show ((((stp cs 1 s g).2 : Nat) : Int) + -1 * k) % (cs.getD s.1 1 : Nat) = _
  rw [h1]
  congr 1
  have : ((g - k : Nat) : Int) = g - k := by omega
  rw [this]
  omega
theorem stp_forth {cs : List Nat} {s : Spot} {g k : Nat} (h : okS cs s) (hk : k ≤ g) : stp cs 1 (stp cs (-1) s g) k = stp cs (-1) s (g - k) := by
  have h1 := stp_stp (d := -1) (e := 1) (g := g) (k := k) h
  show (s.1, _) = (s.1, _)
  congr 2
  show ((((stp cs (-1) s g).2 : Nat) : Int) + 1 * k) % (cs.getD s.1 1 : Nat) = _
  rw [h1]
  congr 1
  have : ((g - k : Nat) : Int) = g - k := by omega
  rw [this]
  omega
/-- how far the first touched spot is -/
def gapN (m : Mach) (d : Int) (s : Spot) : Nat := ((List.range' 1 (m.cs.getD s.1 1)).find? fun g => decide (stp m.cs d s g ∈ spotsOf m.ts)).getD 1
structure GapS (m : Mach) (d : Int) (s : Spot) (g : Nat) : Prop where
  pos : 1 ≤ g
  le : g ≤ m.cs.getD s.1 1
  hit : stp m.cs d s g ∈ spotsOf m.ts
  free : ∀ j, 1 ≤ j → j < g → stp m.cs d s j ∉ spotsOf m.ts
theorem find_gap {m : Mach} (ok : Ok m) (d : Int) {s : Spot} (hs : s ∈ spotsOf m.ts) : (List.range' 1 (m.cs.getD s.1 1)).find? (fun g => decide (stp m.cs d s g ∈ spotsOf m.ts)) = some (gapN m d s) ∧ GapS m d s (gapN m d s) := by
  have ho := (cells_mem _ s).mp (spots_in ok s hs)
  have h0 := cnt_of ho
  cases e : (List.range' 1 (m.cs.getD s.1 1)).find? fun g => decide (stp m.cs d s g ∈ spotsOf m.ts) with
  | none =>
    rw [List.find?_eq_none] at e
    have := e (m.cs.getD s.1 1) (by rw [List.mem_range'_1]; omega)
    rw [stp_all ho] at this
    exact absurd (decide_eq_true hs) this
  | some g =>
    have eg : gapN m d s = g := by unfold gapN; rw [e]; rfl
    rw [eg]
    refine ⟨rfl, ?_⟩
    rw [List.find?_range'_eq_some] at e
    obtain ⟨e1, e2, e3⟩ := e
    rw [List.mem_range'_1] at e2
    exact ⟨e2.1, by omega, of_decide_eq_true e1, fun j h1 h2 => by
      have := e3 j h1 h2
      simpa using this⟩
theorem GapS.uniq {m : Mach} {d : Int} {s : Spot} {g k : Nat} (h1 : GapS m d s g) (h2 : GapS m d s k) : g = k := by
  rcases Nat.lt_trichotomy g k with h | h | h
  · exact absurd h1.hit (h2.free g h1.pos h)
  · exact h
  · exact absurd h2.hit (h1.free k h2.pos h)
def gls (m : Mach) (d : Int) (s : Spot) : Spot := stp m.cs d s (gapN m d s)
/-! there and back -/
theorem gap_back {m : Mach} (ok : Ok m) {s : Spot} (hs : s ∈ spotsOf m.ts) : GapS m (-1) (gls m 1 s) (gapN m 1 s) := by
  have ho := (cells_mem _ s).mp (spots_in ok s hs)
  have h := (find_gap ok 1 hs).2
  refine ⟨h.pos, h.le, ?_, fun j h1 h2 => ?_⟩
  · unfold gls
    rw [stp_back ho (Nat.le_refl _), Nat.sub_self, stp_zero ho]
    exact hs
  · unfold gls
    rw [stp_back ho (by omega)]
    exact h.free _ (by omega) (by omega)
theorem gap_forth {m : Mach} (ok : Ok m) {s : Spot} (hs : s ∈ spotsOf m.ts) : GapS m 1 (gls m (-1) s) (gapN m (-1) s) := by
  have ho := (cells_mem _ s).mp (spots_in ok s hs)
  have h := (find_gap ok (-1) hs).2
  refine ⟨h.pos, h.le, ?_, fun j h1 h2 => ?_⟩
  · unfold gls
    rw [stp_forth ho (Nat.le_refl _), Nat.sub_self, stp_zero ho]
    exact hs
  · unfold gls
    rw [stp_forth ho (by omega)]
    exact h.free _ (by omega) (by omega)
theorem gls_in {m : Mach} (ok : Ok m) {d : Int} {s : Spot} (hs : s ∈ spotsOf m.ts) : gls m d s ∈ spotsOf m.ts := (find_gap ok d hs).2.hit
theorem gls_back {m : Mach} (ok : Ok m) {s : Spot} (hs : s ∈ spotsOf m.ts) : gapN m (-1) (gls m 1 s) = gapN m 1 s ∧ gls m (-1) (gls m 1 s) = s := by
  have ho := (cells_mem _ s).mp (spots_in ok s hs)
  have e := GapS.uniq (find_gap ok (-1) (gls_in ok (d := 1) hs)).2 (gap_back ok hs)
  refine ⟨e, ?_⟩
  unfold gls at e ⊢
  rw [e, stp_back ho (Nat.le_refl _), Nat.sub_self, stp_zero ho]
theorem gls_forth {m : Mach} (ok : Ok m) {s : Spot} (hs : s ∈ spotsOf m.ts) : gapN m 1 (gls m (-1) s) = gapN m (-1) s ∧ gls m 1 (gls m (-1) s) = s := by
  have ho := (cells_mem _ s).mp (spots_in ok s hs)
  have e := GapS.uniq (find_gap ok 1 (gls_in ok (d := -1) hs)).2 (gap_forth ok hs)
  refine ⟨e, ?_⟩
  unfold gls at e ⊢
  rw [e, stp_forth ho (Nat.le_refl _), Nat.sub_self, stp_zero ho]
end G
set_option Elab.async false
set_option linter.all false
set_option maxRecDepth 100000
set_option maxHeartbeats 4000000

/-! Q2: where all simple closed ways are so many times a number, it fits -/
namespace G
open PySem PySem.Spec L2 PyProof.Rows
set_option autoImplicit false

section
variable {m : Mach}
/-- the touch of a spot, the one met behind it, how far -/
def nb (m : Mach) (s : Spot) : Nat := nmb m.ts s
def nx (m : Mach) (s : Spot) : Nat := nmb m.ts (gls m (-1) s)
def gp (m : Mach) (s : Spot) : Nat := gapN m (-1) s
/-- by these spots from touch to touch -/
def Chn (m : Mach) : Nat → List Spot → Nat → Prop
  | u, [], v => u = v
  | u, s :: row, v => s ∈ spotsOf m.ts ∧ nb m s = u ∧ Chn m (nx m s) row v
theorem spot_ok (ok : Ok m) {s : Spot} (hs : s ∈ spotsOf m.ts) : okS m.cs s := (cells_mem _ s).mp (spots_in ok s hs)
/-! ### rows that come back -/
/-- a way that comes back, no touch twice, its least spot ahead -/
structure Smp (m : Mach) (s : Spot) (row : List Spot) : Prop where
  back : Chn m (nb m s) (s :: row) (nb m s)
  nd : ((s :: row).map (nb m)).Nodup
  lt : ∀ x ∈ row, ltS s x
/-! ### shifts by these -/
end
end G
set_option Elab.async false
set_option linter.all false
set_option maxRecDepth 100000
set_option maxHeartbeats 4000000

/-! Q3: all simple closed ways, by going on -/
namespace G
open PySem PySem.Spec L2 PyProof.Rows
set_option autoImplicit false

section
variable {m : Mach}
structure WayOk (m : Mach) (h : Spot) (way : List Spot) : Prop where
  hd : ∃ r, way = h :: r
  back : Chn m (nb m h) way (nb m h)
end
end G
set_option Elab.async false
set_option linter.all false
set_option maxRecDepth 100000
set_option maxHeartbeats 4000000

/-! Q4: the ways from a spot, by the program -/
namespace G
open PySem PySem.Spec L2 PyProof.Rows
set_option autoImplicit false

/-! what is met -/
def metD (m : Mach) (d : Int) (s : Spot) : PyData := .tuple [.int (nmb m.ts (gls m d s) : Nat), .int (gapN m d s : Nat)]
noncomputable def mfBody : Fs := (fSeq (fSet 8 (fTup (fCons (fVar 4) (fCons (fOp2 gMod (fOp2 gAdd (fVar 5) (fOp2 gMulT (fVar 3) (fVar 7))) (fVar 6)) fNil))))
  (fIf (fTru (fOp2 (gInX false) (fVar 8) (fVar 1))) (fRet (fTup (fCons (fOp2 gXget (fVar 1) (fVar 8)) (fCons (fVar 7) fNil)))) fSkip))
theorem mf_loop {m : Mach} {S : Sto} {n : Nat} {d : Int} {s : Spot} {a0 a2 : Option W} (ho : okS m.cs s) (ht : Tab S n (numD m) (spotsOf m.ts)) (hd : d = 1 ∨ d = -1) : ∀ (l : List Nat) (j7 j8 : Option W) (g : Nat), (∀ x ∈ l, x ≤ 1000) → l.find? (fun g => decide (stp m.cs d s g ∈ spotsOf m.ts)) = some g →
    forD (gNm 7) mfBody (l.map fun x => .int (x : Nat)) [a0, some (.o n), a2, some (.d (.int d)), some (.d (.int (s.1 : Nat))), some (.d (.int (s.2 : Nat))), some (.d (.int (m.cs.getD s.1 1 : Nat))), j7, j8] S = .rt (.d (.tuple [.int (nmb m.ts (stp m.cs d s g) : Nat), .int (g : Nat)])) S
  | [], j7, j8, g, hx, h => by cases h
  | x :: l, j7, j8, g, hx, h => by
    have h0 := cnt_of ho
    have hb : (0 : Int) < ((m.cs.getD s.1 1 : Nat) : Int) := by omega
    have hx1 := hx x (by simp)
    have hm : mulOk d (x : Int) = true := mulOk_of (Nat.lt_of_lt_of_le (show d.natAbs < 2 ^ 1 by omega) (Nat.pow_le_pow_right (by decide) (by decide))) (Nat.lt_of_lt_of_le (show ((x : Nat) : Int).natAbs < 2 ^ 10 by omega) (Nat.pow_le_pow_right (by decide) (by decide)))
    have e8 : ∀ (ρ : Slt), ρ[3]? = some (some (.d (.int d))) → ρ[4]? = some (some (.d (.int (s.1 : Nat)))) → ρ[5]? = some (some (.d (.int (s.2 : Nat)))) → ρ[6]? = some (some (.d (.int (m.cs.getD s.1 1 : Nat)))) → ρ[7]? = some (some (.d (.int (x : Nat)))) →
        fTup (fCons (fVar 4) (fCons (fOp2 gMod (fOp2 gAdd (fVar 5) (fOp2 gMulT (fVar 3) (fVar 7))) (fVar 6)) fNil)) ρ S = .ok (.d (sD (stp m.cs d s x))) S := fun ρ h3 h4 h5 h6 h7 => by
      have ef : sD (stp m.cs d s x) = .tuple [.int (s.1 : Nat), .int (((s.2 : Int) + d * x) % (m.cs.getD s.1 1 : Nat))] := by
        show PyData.tuple [.int (s.1 : Nat), .int (((stp m.cs d s x).2 : Nat) : Int)] = _
        rw [stp_cast ho]
      rw [ef]
      simp only [fTup_d2, ev_op2, ev_var, h3, h4, h5, h6, h7, bind_ok, mul_int hm, ofO_some, add_int, mod_int hb, fzT_d2]
    rw [List.map_cons, forD_cons]
    simp only [gt_nm, List.set_cons_zero, List.set_cons_succ]
    have e9 := e8 [a0, some (.o n), a2, some (.d (.int d)), some (.d (.int (s.1 : Nat))), some (.d (.int (s.2 : Nat))), some (.d (.int (m.cs.getD s.1 1 : Nat))), some (.d (.int (x : Nat))), j8] rfl rfl rfl rfl rfl
    rw [List.find?_cons] at h
    by_cases hin : stp m.cs d s x ∈ spotsOf m.ts
    · rw [decide_eq_true hin] at h
      have eg : x = g := by simpa using h
      subst eg
      have e10 := ht.get hin
      unfold mfBody
      simp only [st_seq, st_set, e9, fl_ok, List.set_cons_zero, List.set_cons_succ, st_if, ev_tru, ev_op2, ev_var, List.getElem?_cons_zero, List.getElem?_cons_succ, bind_ok, ht.is, ofO_some, decide_eq_true hin, truth_b, Option.map_some, if_true, st_ret, fTup_d2, e10, numD, fzT_d2]
    · rw [decide_eq_false hin] at h
      have ih := mf_loop ho ht hd l (some (.d (.int (x : Nat)))) (some (.d (sD (stp m.cs d s x)))) g (a0 := a0) (a2 := a2) (fun y hy => hx y (by simp [hy])) h
      unfold mfBody at ih ⊢
      simp only [st_seq, st_set, e9, fl_ok, List.set_cons_zero, List.set_cons_succ, st_if, ev_tru, ev_op2, ev_var, List.getElem?_cons_zero, List.getElem?_cons_succ, bind_ok, ht.is, ofO_some, decide_eq_false hin, truth_b, Option.map_some, Bool.false_eq_true, if_false, st_skip]
      exact ih
theorem ix_csS {cs : List Nat} {s : Spot} (h : okS cs s) (S : Sto) : gIx (.d (csD cs)) (.d (.int (s.1 : Nat))) S = some (.d (.int (cs.getD s.1 1 : Nat)), S) := by
  obtain ⟨c, h1, h2⟩ := h
  unfold csD
  rw [ix_nat (d := .int (c : Nat)) (by rw [List.getElem?_map, h1]; rfl), List.getD_eq_getElem?_getD, h1]
  rfl
theorem rng1 (c : Nat) : rngD 1 c = (List.range' 1 c).map fun p => .int (p : Nat) := by
  have h := rng' (c + 1)
  unfold rngD at h ⊢
  rw [List.range'_eq_map_range]
  simp only [List.map_map]
  apply List.map_congr_left
  intro i _
  simp
theorem cnt_le {m : Mach} (ok : Ok m) {s : Spot} (h : okS m.cs s) : m.cs.getD s.1 1 ≤ 30 := by
  obtain ⟨c, h1, h2⟩ := h
  rw [List.getD_eq_getElem?_getD, h1]
  exact ok.few.one c (List.mem_of_getElem? h1)
theorem r_met_from {m : Mach} (ok : Ok m) {S : Sto} {n : Nat} {d : Int} {s : Spot} (hs : s ∈ spotsOf m.ts) (ht : Tab S n (numD m) (spotsOf m.ts)) (hd : d = 1 ∨ d = -1) : R_met_from [.d (mD m), .o n, .d (sD s), .d (.int d)] S = .ok (.d (metD m d s)) S := by
  have ho := (cells_mem _ s).mp (spots_in ok s hs)
  have hc := cnt_le ok ho
  obtain ⟨e1, _⟩ := find_gap ok d hs
  have e2 := mf_loop (a0 := some (.d (mD m))) (a2 := some (.d (sD s))) ho ht hd (List.range' 1 (m.cs.getD s.1 1)) none none _ (fun x hx => by rw [List.mem_range'_1] at hx; omega) e1
  have eg : ∀ ρ : Slt, ρ.length = 9 → gTp 2 (gsCons (gNm 4) (gsCons (gNm 5) gsNil)) (.d (sD s)) ρ S = some ((ρ.set 4 (some (.d (.int (s.1 : Nat))))).set 5 (some (.d (.int (s.2 : Nat))))) := fun ρ _ => rfl
  have er : fR2 (fCons (fC (.d (.int 1))) (fCons (fOp2 gAdd (fVar 6) (fC (.d (.int 1)))) fNil)) [some (.d (mD m)), some (.o n), some (.d (sD s)), some (.d (.int d)), some (.d (.int (s.1 : Nat))), some (.d (.int (s.2 : Nat))), some (.d (.int (m.cs.getD s.1 1 : Nat))), none, none] S = .ok ((List.range' 1 (m.cs.getD s.1 1)).map fun p => .int (p : Nat)) S := by
    rw [r2_ev _ _ _ S S S 1 ((m.cs.getD s.1 1 : Nat) + 1) rfl (by simp) (by omega) (by omega), ← rng1]
    congr 2
    omega
  unfold mfBody at e2
  unfold R_met_from runB B_met_from
  simp only [startR, List.map_cons, List.map_nil, List.length_cons, List.length_nil, Nat.zero_add, Nat.reduceAdd, Nat.reduceSub, List.replicate, List.cons_append, List.nil_append, st_seq, st_asg, ev_var, List.getElem?_cons_zero, List.getElem?_cons_succ, fl_ok, eg, List.set_cons_zero, List.set_cons_succ, st_set, ev_op2, ev_c, bind_ok, ix_m0, ofO_some, ix_csS ho, st_for, er, e2]
  rfl
theorem perm_map {α β : Type} (F : α → β) {m n : List β} (h : m.Perm n) : ∀ l : List α, n = l.map F → ∃ l' : List α, l'.Perm l ∧ m = l'.map F := by
  induction h with
  | nil => intro l e; exact ⟨l, List.Perm.refl _, e⟩
  | cons x h ih =>
    intro l e
    cases l with
    | nil => cases e
    | cons a l =>
      rw [List.map_cons] at e
      injection e with e1 e2
      obtain ⟨l', h1, h2⟩ := ih l e2
      exact ⟨a :: l', h1.cons a, by rw [List.map_cons, h2, e1]⟩
  | swap x y r =>
    intro l e
    match l, e with
    | a :: b :: l, e =>
      rw [List.map_cons, List.map_cons] at e
      injection e with e1 e2
      injection e2 with e2 e3
      exact ⟨b :: a :: l, List.Perm.swap a b l, by rw [List.map_cons, List.map_cons, e1, e2, e3]⟩
  | trans h1 h2 ih1 ih2 =>
    intro l e
    obtain ⟨l2, p2, e2⟩ := ih2 l e
    obtain ⟨l1, p1, e1⟩ := ih1 l2 e2
    exact ⟨l1, p1.trans p2, e1⟩
def wayD (m : Mach) (s : Spot) : PyData := .tuple [.int (nmb m.ts s : Nat), sD s, .int (nmb m.ts (gls m (-1) s) : Nat), .int (gapN m (-1) s : Nat)]
theorem ix_way2 (m : Mach) (s : Spot) (S : Sto) : gIx (.d (wayD m s)) (.d (.int 2)) S = some (.d (.int (nmb m.ts (gls m (-1) s) : Nat)), S) := rfl
theorem ix_way3 (m : Mach) (s : Spot) (S : Sto) : gIx (.d (wayD m s)) (.d (.int 3)) S = some (.d (.int (gapN m (-1) s : Nat)), S) := rfl
theorem fzT_d4 (a b c d : PyData) (S : Sto) : fzT [.d a, .d b, .d c, .d d] S = some (.tuple [a, b, c, d], S) := by
  have := frzL_ds 6 [a, b, c, d] S
  unfold fzT
  rw [show ([.d a, .d b, .d c, .d d] : List W) = [a, b, c, d].map W.d from rfl, this]
  rfl
theorem ev_tup (f : Fe (List W)) (ρ : Slt) (S : Sto) : fTup f ρ S = (f ρ S).bind fun xs S1 => match fzT xs S1 with
  | some (d, S2) => .ok (.d d) S2
  | none => .bad := rfl
theorem r_own_way {m : Mach} (ok : Ok m) {S : Sto} {n : Nat} {s : Spot} (hs : s ∈ spotsOf m.ts) (ht : Tab S n (numD m) (spotsOf m.ts)) : R_own_way [.d (mD m), .o n, .d (sD s)] S = .ok (.d (wayD m s)) S := by
  have e1 := r_met_from ok hs ht (.inr rfl)
  have eg : ∀ ρ : Slt, gTp 2 (gsCons (gNm 3) (gsCons (gNm 4) gsNil)) (.d (metD m (-1) s)) ρ S = some ((ρ.set 3 (some (.d (.int (nmb m.ts (gls m (-1) s) : Nat))))).set 4 (some (.d (.int (gapN m (-1) s : Nat))))) := fun ρ => rfl
  have e2 := ht.get hs
  unfold R_own_way runB B_own_way
  simp only [startR, List.map_cons, List.map_nil, List.length_cons, List.length_nil, Nat.zero_add, Nat.reduceAdd, Nat.reduceSub, List.replicate, List.cons_append, List.nil_append, st_seq, st_asg, ev_call, ev_cons, ev_nil, ev_var, List.getElem?_cons_zero, List.getElem?_cons_succ, ev_neg1, bind_ok, if_true, ofD_nil, List.append_nil, e1, fl_ok, eg, List.set_cons_zero, List.set_cons_succ, st_ret, ev_tup, ev_op2, e2, ofO_some, numD, fzT_d4]
  rfl
end G
set_option Elab.async false
set_option linter.all false
set_option maxRecDepth 100000
set_option maxHeartbeats 4000000
/-! L1: the draw that goes on (great cells first, then a run) -/
namespace G
open PySem PySem.Spec L2 PyProof.Rows
set_option autoImplicit false
def stN (r : Int) (g : Nat) (t : Int) : Cell := .dic [(.inr "run", .d (.int r)), (.inr "great", .o g), (.inr "turn", .d (.int t))]
def StN (n g : Nat) (S : Sto) : Prop := ∃ (r t : Int) (gs : List Int), S[n]? = some (stN r g t) ∧ S[g]? = some (.lst (iW gs)) ∧ gs.length ≤ 100
structure Kn (n g : Nat) (S S' : Sto) : Prop where
  len : S.length ≤ S'.length
  same : ∀ i, i < S.length → i ≠ n → i ≠ g → S'[i]? = S[i]?
theorem Kn.refl (n g : Nat) (S : Sto) : Kn n g S S := ⟨Nat.le_refl _, fun _ _ _ _ => rfl⟩
theorem Kn.trans {n g : Nat} {S S1 S2 : Sto} (a : Kn n g S S1) (b : Kn n g S1 S2) : Kn n g S S2 := ⟨Nat.le_trans a.len b.len, fun i h1 h2 h3 => (b.same i (Nat.lt_of_lt_of_le h1 a.len) h2 h3).trans (a.same i h1 h2 h3)⟩
theorem Kn.app (n g : Nat) (S T : Sto) : Kn n g S (S ++ T) := ⟨by simp, fun i h _ _ => List.getElem?_append_left h⟩
theorem Kn.setn (n g : Nat) (S : Sto) (c : Cell) : Kn n g S (S.set n c) := ⟨by simp, fun i _ h _ => List.getElem?_set_ne (Ne.symm h)⟩
theorem Kn.setg (n g : Nat) (S : Sto) (c : Cell) : Kn n g S (S.set g c) := ⟨by simp, fun i _ _ h => List.getElem?_set_ne (Ne.symm h)⟩
theorem Kn.keep {n g : Nat} {S S' : Sto} (k : Kn n g S S') {i : Nat} {c : Cell} (h : S[i]? = some c) (h1 : i ≠ n) (h2 : i ≠ g) : S'[i]? = some c := by
  rw [k.same i (List.getElem?_eq_some_iff.mp h).1 h1 h2]; exact h
theorem StN.app {n g : Nat} {S : Sto} (h : StN n g S) (T : Sto) : StN n g (S ++ T) := by
  obtain ⟨r, t, gs, e1, e2, e3⟩ := h
  exact ⟨r, t, gs, by rw [List.getElem?_append_left (List.getElem?_eq_some_iff.mp e1).1]; exact e1, by rw [List.getElem?_append_left (List.getElem?_eq_some_iff.mp e2).1]; exact e2, e3⟩
theorem StN.lt {n g : Nat} {S : Sto} (h : StN n g S) : n < S.length ∧ g < S.length ∧ n ≠ g := by
  obtain ⟨r, t, gs, e1, e2, e3⟩ := h
  refine ⟨(List.getElem?_eq_some_iff.mp e1).1, (List.getElem?_eq_some_iff.mp e2).1, fun z => ?_⟩
  rw [z, e2] at e1
  cases e1
/-- another cell is written -/
theorem StN.set {n g a : Nat} {S : Sto} (h : StN n g S) (h1 : a ≠ n) (h2 : a ≠ g) (c : Cell) : StN n g (S.set a c) := by
  obtain ⟨r, t, gs, e1, e2, e3⟩ := h
  exact ⟨r, t, gs, by rw [List.getElem?_set_ne h1]; exact e1, by rw [List.getElem?_set_ne h2]; exact e2, e3⟩
section
variable {n g : Nat} {S : Sto} {r t : Int}
theorem nget_r (h : S[n]? = some (stN r g t)) : gDget (.o n) (.d (.str "run")) S = some (.d (.int r), S) := by
  unfold gDget dicOf
  simp only [h, stN]
  rfl
theorem nget_g (h : S[n]? = some (stN r g t)) : gDget (.o n) (.d (.str "great")) S = some (.o g, S) := by
  unfold gDget dicOf
  simp only [h, stN]
  rfl
theorem nget_t (h : S[n]? = some (stN r g t)) : gDget (.o n) (.d (.str "turn")) S = some (.d (.int t), S) := by
  unfold gDget dicOf
  simp only [h, stN]
  rfl
theorem nput_r (v : Int) (h : S[n]? = some (stN r g t)) : putDk (.o n) (.d (.str "run")) (.d (.int v)) S = some (S.set n (stN v g t)) := by
  unfold putDk
  simp only [keyOf, h, stN]
  rfl
theorem nput_t (v : Int) (h : S[n]? = some (stN r g t)) : putDk (.o n) (.d (.str "turn")) (.d (.int v)) S = some (S.set n (stN r g v)) := by
  unfold putDk
  simp only [keyOf, h, stN]
  rfl
end
theorem ne_nil_o {S : Sto} {a c : Nat} {l : List PyData} (ha : S[a]? = some (.lst (l.map W.d))) (hc : S[c]? = some (.lst [])) (h : ∀ x ∈ l, Pl 0 x) : dEq true (.o a) (.o c) S = some (.d (.bool (!decide (l = []))), S) := by
  have hl := pl_lst h
  have hc' : S[c]? = some (.lst (([] : List PyData).map W.d)) := hc
  unfold dEq
  rw [view_o ha, view_o hc']
  simp only []
  rw [if_pos (by rw [hl.shp (by decide)]; rfl)]
  cases l with
  | nil => rfl
  | cons x l => rfl
theorem max2_i (x y : Int) (S : Sto) : gMM PySem.W.maxD 2 [.d (.int x), .d (.int y)] S = some (.d (.int (max x y)), S) := by
  have := mm_ints (f := PySem.W.maxD) (n := 2) x [y] rfl S
  rw [PySem.W.maxD_ints] at this
  exact this
theorem iW_ds (l : List Int) : iW l = (l.map PyData.int).map W.d := by simp [iW, List.map_map, Function.comp_def]
theorem putL_o {S : Sto} {a i : Nat} {ws : List W} (h : S[a]? = some (.lst ws)) (hi : i < ws.length) (z : W) : putL (.o a) (.d (.int (i : Nat))) z S = some (S.set a (.lst (ws.set i z))) := by
  unfold putL
  simp only [h]
  have : ixN ws.length ((i : Nat) : Int) = some i := by
    unfold ixN
    simp
    omega
  rw [this]
  rfl
theorem r_next {n g : Nat} {S : Sto} (h : StN n g S) {z : Int} (hz : 0 < z) (hz2 : z < 2 ^ 60) : ∃ (v : Int) (S' : Sto), R__law_next [.o n, .d (.int z)] S = .ok (.d (.int v)) S' ∧ 0 ≤ v ∧ v < z ∧ StN n g S' ∧ Kn n g S S' := by
  have hzm : z.natAbs < mid := lt_mid (Nat.lt_of_lt_of_le (show z.natAbs < 2 ^ 60 by omega) (Nat.pow_le_pow_right (by decide) (by decide)))
  obtain ⟨hn, hg, hng⟩ := h.lt
  obtain ⟨r, t, gs, e1, e2, e3⟩ := id h
  obtain ⟨S1, hS1⟩ : ∃ S1, S1 = S.set n (stN r g (t + 1)) := ⟨_, rfl⟩
  have q1 : S1[n]? = some (stN r g (t + 1)) := by rw [hS1, List.getElem?_set_self hn]
  have q2 : S1[g]? = some (.lst (iW gs)) := by rw [hS1, List.getElem?_set_ne hng]; exact e2
  have k1 : Kn n g S S1 := by rw [hS1]; exact Kn.setn n g S _
  obtain ⟨m, hm⟩ : ∃ m : Int, m = max 1 (gs.length : Int) := ⟨_, rfl⟩
  have hm0 : 0 < m := by omega
  obtain ⟨a, ha⟩ : ∃ a : Int, a = (t + 1) % m := ⟨_, rfl⟩
  have a0 : 0 ≤ a := by rw [ha]; exact Int.emod_nonneg _ (by omega)
  have a1 : a < m := by rw [ha]; exact Int.emod_lt_of_pos _ hm0
  have eL : gLen [.o g] S1 = some (.d (.int gs.length), S1) := by
    rw [len_o q2]
    simp [iW]
  have p1 : fPar2T (fCons (fOp2 gAdd (fOp2 gDget (fVar 0) (fC (.d (.str "turn")))) (fC (.d (.int 1)))) (fCons (fOp2 gDget (fVar 0) (fC (.d (.str "great")))) fNil)) (tgD (fVar 0) (fC (.d (.str "turn")))) (tgN 2) [some (.o n), some (.d (.int z)), none, none, none, none] S =
      .nx [some (.o n), some (.d (.int z)), some (.o g), none, none, none] S1 := by
    unfold fPar2T tgD tgN
    simp [nget_t e1, nget_g e1, nput_t (t + 1) e1, toT, hS1]
  have p2 : fSet 3 (fOp2 gMod (fOp2 gDget (fVar 0) (fC (.d (.str "turn")))) (fCB (gMM PySem.W.maxD 2) (fCons (fC (.d (.int 1))) (fCons (fCB gLen (fCons (fVar 2) fNil)) fNil)))) [some (.o n), some (.d (.int z)), some (.o g), none, none, none] S1 =
      .nx [some (.o n), some (.d (.int z)), some (.o g), some (.d (.int a)), none, none] S1 := by
    simp [nget_t q1, eL, max2_i, ← hm, mod_int hm0, ha]
  have q1' : ∀ T, (S1 ++ T)[n]? = some (stN r g (t + 1)) := fun T => by rw [List.getElem?_append_left (List.getElem?_eq_some_iff.mp q1).1]; exact q1
  have q2' : ∀ T, (S1 ++ T)[g]? = some (.lst (iW gs)) := fun T => by rw [List.getElem?_append_left (List.getElem?_eq_some_iff.mp q2).1]; exact q2
  have eA : ∀ ρ : Slt, fLst fNil ρ S1 = .ok (.o S1.length) (S1 ++ [Cell.lst []]) := fun ρ => rfl
  have eN : dEq true (.o g) (.o S1.length) (S1 ++ [Cell.lst []]) = some (.d (.bool (!decide (gs.map PyData.int = []))), S1 ++ [Cell.lst []]) := ne_nil_o (by rw [← iW_ds]; exact q2' _) (get_len_app _ _ _) (fun x hx => by
    obtain ⟨i, _, rfl⟩ := List.mem_map.mp hx
    exact pl_int _)
  -- what follows if no great cell is left
  have run : ∀ (S2 : Sto), S2[n]? = some (stN r g (t + 1)) → S2[g]? = some (.lst (iW gs)) → ∃ (v : Int) (S' : Sto), (fSeq (fSet 5 (fOp2 gAdd (fOp2 gAdd (fOp2 gMulT (fOp2 gDget (fVar 0) (fC (.d (.str "run")))) (fC (.d (.int 6364136223846793)))) (fOp2 gMulT (fC (.d (.int 1442695040888963))) (fOp2 gDget (fVar 0) (fC (.d (.str "turn")))))) (fC (.d (.int 11)))))
      (fSeq (fPutD (fVar 0) (fC (.d (.str "run"))) (fOp2 gMod (fVar 5) (fC (.d (.int 2305843009213693951)))))
      (fRet (fOp2 gMod (fOp2 gDiv (fOp2 gDget (fVar 0) (fC (.d (.str "run")))) (fC (.d (.int 32749)))) (fVar 1))))) [some (.o n), some (.d (.int z)), some (.o g), some (.d (.int a)), none, none] S2 = .rt (.d (.int v)) S' ∧ 0 ≤ v ∧ v < z ∧ StN n g S' ∧ Kn n g S2 S' := by
    intro S2 w1 w2
    obtain ⟨x, hx⟩ : ∃ x : Int, x = (r * 6364136223846793 + 1442695040888963 * (t + 1) + 11) % 2305843009213693951 := ⟨_, rfl⟩
    have w3 : (S2.set n (stN x g (t + 1)))[n]? = some (stN x g (t + 1)) := List.getElem?_set_self (List.getElem?_eq_some_iff.mp w1).1
    refine ⟨x / 32749 % z, S2.set n (stN x g (t + 1)), ?_, Int.emod_nonneg _ (by omega), Int.emod_lt_of_pos _ hz, ⟨x, t + 1, gs, w3, by rw [List.getElem?_set_ne hng]; exact w2, e3⟩, Kn.setn n g S2 _⟩
    simp [nget_r w1, nget_t w1, mul_int (tiny_r (i := r) (j := 6364136223846793) (by omega)), mul_int (tiny_l (i := 1442695040888963) (j := t + 1) (by omega)), mod_int (show (0 : Int) < 2305843009213693951 by decide), nput_r _ w1, ← hx, nget_r w3, div_int (show (0 : Int) < 32749 by decide) (lt_mid (Nat.lt_of_lt_of_le (show (32749 : Int).natAbs < 2 ^ 20 by decide) (Nat.pow_le_pow_right (by decide) (by decide)))), mod_int hz]
  by_cases hgs : gs = []
  · obtain ⟨v, S', e4, v0, v1, s', k'⟩ := run (S1 ++ [.lst []]) (q1' _) (q2' _)
    refine ⟨v, S', ?_, v0, v1, s', (k1.trans (Kn.app n g S1 _)).trans k'⟩
    have hgs' : gs.map PyData.int = [] := by rw [hgs]; rfl
    unfold R__law_next runB B__law_next
    simp only [startR, List.map_cons, List.map_nil, List.length_cons, List.length_nil, Nat.zero_add, Nat.reduceAdd, Nat.reduceSub, List.replicate, List.cons_append, List.nil_append]
    rw [st_seq, p1]
    dsimp only
    rw [st_seq, p2]
    dsimp only
    rw [st_seq, st_if]
    simp only [ev_and, ev_tru, ev_op2, ev_var, List.getElem?_cons_zero, List.getElem?_cons_succ, bind_ok, eA, eN, ofO_some, decide_eq_true hgs', Bool.not_true, truth_b, Option.map_some, Bool.false_eq_true, if_false, fl_ok, st_skip, e4]
  · have hgs' : gs.map PyData.int ≠ [] := fun z => hgs (List.map_eq_nil_iff.mp z)
    have hl : 0 < gs.length := List.length_pos_iff.mpr hgs
    obtain ⟨i, hi⟩ : ∃ i : Nat, a = i := ⟨a.toNat, by omega⟩
    have hil : i < gs.length := by omega
    subst hi
    have hx : (iW gs)[i]? = some (.d (.int gs[i])) := by
      unfold iW
      rw [List.getElem?_map, List.getElem?_eq_getElem hil]
      rfl
    have eX : ∀ T, gIx (.o g) (.d (.int (i : Nat))) (S1 ++ T) = some (.d (.int gs[i]), S1 ++ T) := fun T => ix_o (q2' T) hx
    have hil' : i < (iW gs).length := by unfold iW; rw [List.length_map]; exact hil
    by_cases hp : 0 < gs[i]
    · have eP := putL_o (q2' [Cell.lst []]) hil' (.d (.int (gs[i] / z)))
      have eW : (iW gs).set i (.d (.int (gs[i] / z))) = iW (gs.set i (gs[i] / z)) := by
        unfold iW
        rw [List.map_set]
      rw [eW] at eP
      have hg1 : g < (S1 ++ [Cell.lst []]).length := (List.getElem?_eq_some_iff.mp (q2' _)).1
      refine ⟨gs[i] % z, (S1 ++ [Cell.lst []]).set g (.lst (iW (gs.set i (gs[i] / z)))), ?_, Int.emod_nonneg _ (by omega), Int.emod_lt_of_pos _ hz, ⟨r, t + 1, gs.set i (gs[i] / z), by rw [List.getElem?_set_ne (Ne.symm hng)]; exact q1' _, List.getElem?_set_self hg1, by rw [List.length_set]; exact e3⟩, (k1.trans (Kn.app n g S1 _)).trans (Kn.setg n g _ _)⟩
      unfold R__law_next runB B__law_next
      simp only [startR, List.map_cons, List.map_nil, List.length_cons, List.length_nil, Nat.zero_add, Nat.reduceAdd, Nat.reduceSub, List.replicate, List.cons_append, List.nil_append]
      rw [st_seq, p1]
      dsimp only
      rw [st_seq, p2]
      dsimp only
      rw [st_seq, st_if]
      simp only [ev_and, ev_tru, ev_op2, ev_var, List.getElem?_cons_zero, List.getElem?_cons_succ, bind_ok, eA, eN, ofO_some, decide_eq_false hgs', Bool.not_false, truth_b, Option.map_some, if_true, eX, ev_c, gt_int', decide_eq_true hp, fl_ok, st_seq, st_set, mod_int hz, List.set_cons_zero, List.set_cons_succ, st_putL, div_int hz hzm, eP, st_ret]
    · obtain ⟨v, S', e4, v0, v1, s', k'⟩ := run (S1 ++ [.lst []]) (q1' _) (q2' _)
      refine ⟨v, S', ?_, v0, v1, s', (k1.trans (Kn.app n g S1 _)).trans k'⟩
      unfold R__law_next runB B__law_next
      simp only [startR, List.map_cons, List.map_nil, List.length_cons, List.length_nil, Nat.zero_add, Nat.reduceAdd, Nat.reduceSub, List.replicate, List.cons_append, List.nil_append]
      rw [st_seq, p1]
      dsimp only
      rw [st_seq, p2]
      dsimp only
      rw [st_seq, st_if]
      simp only [ev_and, ev_tru, ev_op2, ev_var, List.getElem?_cons_zero, List.getElem?_cons_succ, bind_ok, eA, eN, ofO_some, decide_eq_false hgs', Bool.not_false, truth_b, Option.map_some, if_true, eX, ev_c, gt_int', decide_eq_false hp, Bool.false_eq_true, if_false, fl_ok, st_skip, e4]
end G
set_option Elab.async false
set_option linter.all false
set_option maxRecDepth 100000
set_option maxHeartbeats 4000000
/-! L2: rims drawn -/
namespace G
open PySem PySem.Spec L2 PyProof.Rows
set_option autoImplicit false
noncomputable def rimBody : Fs := (fSeq (fSet 5 (fCB (gMM PySem.W.minD 2) (fCons (fOp2 gMulT (fVar 2) (fOp2 gAdd (fC (.d (.int 1))) (fCall 2 [] R__law_next (fCons (fVar 0) (fCons (fC (.d (.int 4))) fNil))))) (fCons (fOp2 gSub (fC (.d (.int 30))) (fCB gSum (fCons (fVar 3) fNil))) fNil))))
  (fSet 3 (fOp2 gAdd (fVar 3) (fOp2 gMulT (fLst (fCons (fVar 5) fNil)) (fCB gInt1 (fCons (fOp2 cGt (fVar 5) (fC (.d (.int 0)))) fNil))))))
theorem rim_turn {n g : Nat} {bb : Int} (hb1 : 1 ≤ bb) (hb2 : bb ≤ 6) {S : Sto} {a : Nat} {l : List Int} {j1 j4 j5 : Option W} (h : StN n g S) (ha : S[a]? = some (.lst (iW l))) (han : a ≠ n) (hag : a ≠ g) (hl : l.length ≤ 100) (hs : l.sum ≤ 30) :
    ∃ (one : Int) (S' : Sto) (a' : Nat), rimBody [some (.o n), j1, some (.d (.int bb)), some (.o a), j4, j5] S = .nx [some (.o n), j1, some (.d (.int bb)), some (.o a'), j4, some (.d (.int one))] S' ∧ a' ≠ n ∧ a' ≠ g ∧
      S'[a']? = some (.lst (iW (if 0 < one then l ++ [one] else l))) ∧ (l.sum < 30 → 0 < one) ∧ one ≤ 30 - l.sum ∧ StN n g S' ∧ Kn n g S S' := by
  obtain ⟨v, S1, e1, v0, v1, s1, k1⟩ := r_next h (z := 4) (by decide) (by decide)
  have ha1 : S1[a]? = some (.lst (iW l)) := k1.keep ha han hag
  obtain ⟨hn1, hg1, _⟩ := s1.lt
  obtain ⟨one, hone⟩ : ∃ one : Int, one = min (bb * (1 + v)) (30 - l.sum) := ⟨_, rfl⟩
  have hp : 1 ≤ bb * (1 + v) := by
    have : (1 : Int) * 1 ≤ bb * (1 + v) := Int.mul_le_mul hb1 (by omega) (by decide) (by omega)
    omega
  have ho1 : l.sum < 30 → 0 < one := fun q => by omega
  have ho2 : one ≤ 30 - l.sum := by omega
  have hla : a < S1.length := (List.getElem?_eq_some_iff.mp ha1).1
  obtain ⟨k, hk⟩ : ∃ k : Int, k = if 0 < one then 1 else 0 := ⟨_, rfl⟩
  have hk0 : 0 ≤ k := by rw [hk]; split <;> omega
  have hk1 : k ≤ 1 := by rw [hk]; split <;> omega
  have f1 : (List.replicate k.toNat [W.d (.int one)]).flatten = if 0 < one then [W.d (.int one)] else [] := by
    rw [hk]
    split <;> rfl
  have e2 := mul_o (S := S1 ++ [Cell.lst [.d (.int one)]]) (a := S1.length) (ws := [.d (.int one)]) (get_len_app _ _ _) k hk0 hk1 (by simp)
  rw [f1] at e2
  have e3 := add_o (S := S1 ++ [Cell.lst [.d (.int one)]] ++ [Cell.lst (if 0 < one then [W.d (.int one)] else [])]) (a := a) (c := (S1 ++ [Cell.lst [.d (.int one)]]).length) (ws := iW l) (us := if 0 < one then [W.d (.int one)] else []) (by
    rw [List.append_assoc, List.getElem?_append_left hla]; exact ha1) (get_len_app _ _ _) (by unfold iW; rw [List.length_map]; split <;> simp <;> omega)
  refine ⟨one, S1 ++ [Cell.lst [.d (.int one)]] ++ [Cell.lst (if 0 < one then [W.d (.int one)] else [])] ++ [Cell.lst (iW l ++ if 0 < one then [W.d (.int one)] else [])], (S1 ++ [Cell.lst [.d (.int one)]] ++ [Cell.lst (if 0 < one then [W.d (.int one)] else [])]).length, ?_, by simp; omega, by simp; omega, ?_, ho1, ho2, ((s1.app _).app _).app _, k1.trans (((Kn.app n g _ _).trans (Kn.app n g _ _)).trans (Kn.app n g _ _))⟩
  · have e4 : gInt1 [.d (.bool (decide (0 < one)))] (S1 ++ [Cell.lst [.d (.int one)]]) = some (.d (.int k), S1 ++ [Cell.lst [.d (.int one)]]) := by
      show some (W.d (.int (if decide (0 < one) = true then 1 else 0)), S1 ++ [Cell.lst [.d (.int one)]]) = _
      rw [hk]
      by_cases q : 0 < one <;> simp [q]
    have e5 : ∀ ρ : Slt, ρ[5]? = some (some (.d (.int one))) → fLst (fCons (fVar 5) fNil) ρ S1 = .ok (.o S1.length) (S1 ++ [Cell.lst [.d (.int one)]]) := fun ρ hρ => by
      unfold fLst
      simp only [ev_cons, ev_nil, ev_var, hρ, bind_ok]
      rfl
    have e6 : min (bb * (1 + v)) (30 - l.sum) = one := hone.symm
    unfold rimBody
    simp only [st_seq, st_set, ev_mm, ev_cons, ev_nil, ev_c, ev_op2, ev_var, ev_call, ev_sum, ev_int, List.getElem?_cons_zero, List.getElem?_cons_succ, bind_ok, List.length_cons, List.length_nil, Nat.zero_add, Nat.reduceAdd, if_true, ofD_nil, List.append_nil, e1, add_int, ofO_some, mul_int (tiny_l (i := bb) (j := 1 + v) (by omega)), sum_o ha1, sub_int, min2_i, fl_ok, e6, List.set_cons_zero, List.set_cons_succ, gt_int']
    rw [e5 _ rfl]
    simp only [bind_ok, List.getElem?_cons_zero, List.getElem?_cons_succ, ofO_some, gt_int', e4, e2, e3, fl_ok]
  · rw [get_len_app]
    by_cases q : 0 < one
    · rw [if_pos q, if_pos q]
      unfold iW
      rw [List.map_append]
      rfl
    · rw [if_neg q, if_neg q, List.append_nil]
theorem rim_loop {n g : Nat} {bb : Int} (hb1 : 1 ≤ bb) (hb2 : bb ≤ 6) {j1 : Option W} : ∀ (ds : List PyData) (S : Sto) (a : Nat) (l : List Int) (j4 j5 : Option W), StN n g S → S[a]? = some (.lst (iW l)) → a ≠ n → a ≠ g → l.length + ds.length ≤ 100 → CsOk 30 l →
    ∃ (S' : Sto) (a' : Nat) (l' : List Int) (k4 k5 : Option W), forD (gNm 4) rimBody ds [some (.o n), j1, some (.d (.int bb)), some (.o a), j4, j5] S = .nx [some (.o n), j1, some (.d (.int bb)), some (.o a'), k4, k5] S' ∧ a' ≠ n ∧ a' ≠ g ∧
      S'[a']? = some (.lst (iW l')) ∧ CsOk 30 l' ∧ l'.length ≤ l.length + ds.length ∧ (l ≠ [] ∨ ds ≠ [] → l' ≠ []) ∧ StN n g S' ∧ Kn n g S S'
  | [], S, a, l, j4, j5, h, ha, han, hag, hl, hs => ⟨S, a, l, j4, j5, rfl, han, hag, ha, hs, by simp, fun q => q.elim id (fun z => absurd rfl z), h, Kn.refl n g S⟩
  | d :: ds, S, a, l, j4, j5, h, ha, han, hag, hl, hs => by
    simp only [List.length_cons] at hl
    obtain ⟨one, S1, a1, e1, h1, h1g, h2, h3, h4, s1, k1⟩ := rim_turn (j1 := j1) (j4 := some (.d d)) (j5 := j5) hb1 hb2 h ha han hag (by omega) hs.sum
    have hs1 : CsOk 30 (if 0 < one then l ++ [one] else l) := by
      split
      · rename_i q
        refine ⟨fun c hc => ?_, by rw [List.sum_append]; simp; omega⟩
        rcases List.mem_append.mp hc with hc | hc
        · exact hs.pos c hc
        · have : c = one := by simpa using hc
          omega
      · exact hs
    have hl1 : (if 0 < one then l ++ [one] else l).length ≤ l.length + 1 := by split <;> simp
    obtain ⟨S', a', l', k4, k5, e2, g1, g1g, g2, g3, g4, g5, s2, k2⟩ := rim_loop hb1 hb2 ds S1 a1 _ (some (.d d)) (some (.d (.int one))) s1 h2 h1 h1g (by omega) hs1
    refine ⟨S', a', l', k4, k5, ?_, g1, g1g, g2, g3, by rw [List.length_cons]; omega, fun _ => g5 (.inl ?_), s2, k1.trans k2⟩
    · rw [forD_cons]
      simp only [gt_nm, List.set_cons_zero, List.set_cons_succ, e1]
      exact e2
    · by_cases hle : l = []
      · subst hle
        have : 0 < one := h3 (by simp)
        rw [if_pos this]
        simp
      · split
        · simp
        · exact hle
theorem nats_of : ∀ l : List Int, (∀ c ∈ l, 0 < c) → ∃ cs : List Nat, l = cs.map (fun c : Nat => (c : Int))
  | [], _ => ⟨[], rfl⟩
  | x :: l, h => by
    obtain ⟨cs, e⟩ := nats_of l fun c hc => h c (by simp [hc])
    have := h x (by simp)
    refine ⟨x.toNat :: cs, ?_⟩
    rw [List.map_cons, ← e]
    congr 1
    omega
structure Rim (cs : List Nat) : Prop where
  ne : cs ≠ []
  len : cs.length ≤ 16
  pos : ∀ c ∈ cs, 0 < c
  sum : cs.sum ≤ 30
def rims8 : List (List Nat) := [[30], List.replicate 16 1, [1], [12, 12, 6], List.replicate 15 2, [15, 15], [7, 11, 12], [1, 29]]
theorem rims8_ok : ∀ cs ∈ rims8, Rim cs := by
  intro cs h
  simp only [rims8, List.mem_cons, List.not_mem_nil, or_false] at h
  rcases h with rfl | rfl | rfl | rfl | rfl | rfl | rfl | rfl <;> exact ⟨by decide, by decide, by decide, by decide⟩
noncomputable def rims8E : Fe W := fLst (fCons (fTup (fCons (fC (.d (.int 30))) fNil)) (fCons (fOp2 gMulT (fTup (fCons (fC (.d (.int 1))) fNil)) (fC (.d (.int 16)))) (fCons (fTup (fCons (fC (.d (.int 1))) fNil)) (fCons (fTup (fCons (fC (.d (.int 12))) (fCons (fC (.d (.int 12))) (fCons (fC (.d (.int 6))) fNil)))) (fCons (fOp2 gMulT (fTup (fCons (fC (.d (.int 2))) fNil)) (fC (.d (.int 15)))) (fCons (fTup (fCons (fC (.d (.int 15))) (fCons (fC (.d (.int 15))) fNil))) (fCons (fTup (fCons (fC (.d (.int 7))) (fCons (fC (.d (.int 11))) (fCons (fC (.d (.int 12))) fNil)))) (fCons (fTup (fCons (fC (.d (.int 1))) (fCons (fC (.d (.int 29))) fNil))) fNil))))))))
theorem rims8_ev (ρ : Slt) (S : Sto) : rims8E ρ S = .ok (.o S.length) (S ++ [.lst (rims8.map fun cs => .d (csD cs))]) := rfl
theorem r_rims {n g : Nat} {S : Sto} (h : StN n g S) : ∃ (cs : List Nat) (S' : Sto), R__law_rims [.o n] S = .ok (.d (csD cs)) S' ∧ Rim cs ∧ StN n g S' ∧ Kn n g S S' := by
  obtain ⟨v, S1, e1, v0, v1, s1, k1⟩ := r_next h (z := 8) (by decide) (by decide)
  obtain ⟨u, S2, e2, u0, u1, s2, k2⟩ := r_next (s1.app [Cell.lst (iW [1, 2, 2, 3, 4, 6])]) (z := 6) (by decide) (by decide)
  obtain ⟨hn1, hg1, _⟩ := s1.lt
  have a1 : S2[S1.length]? = some (.lst (iW [1, 2, 2, 3, 4, 6])) := k2.keep (get_len_app _ _ _) (by omega) (by omega)
  obtain ⟨bb, hb1, hb2, e3⟩ := ixBy u u0 u1 a1
  have eB : ∀ ρ : Slt, fLst (fCons (fC (.d (.int 1))) (fCons (fC (.d (.int 2))) (fCons (fC (.d (.int 2))) (fCons (fC (.d (.int 3))) (fCons (fC (.d (.int 4))) (fCons (fC (.d (.int 6))) fNil)))))) ρ S1 = .ok (.o S1.length) (S1 ++ [Cell.lst (iW [1, 2, 2, 3, 4, 6])]) := fun ρ => rfl
  have eA : ∀ ρ : Slt, fLst fNil ρ S2 = .ok (.o S2.length) (S2 ++ [Cell.lst []]) := fun ρ => rfl
  have k12 : Kn n g S (S2 ++ [Cell.lst []]) := ((k1.trans (Kn.app n g S1 _)).trans k2).trans (Kn.app n g S2 _)
  have s2' : StN n g (S2 ++ [Cell.lst []]) := s2.app _
  obtain ⟨hn2, hg2, _⟩ := s2.lt
  by_cases hv : v = 0
  · obtain ⟨x, S3, e4, x0, x1, s3, k3⟩ := r_next (s2'.app [.lst (rims8.map fun cs => .d (csD cs))]) (z := 8) (by decide) (by decide)
    obtain ⟨i, rfl⟩ : ∃ i : Nat, x = i := ⟨x.toNat, by omega⟩
    have hi : i < rims8.length := by show i < 8; omega
    have a3 : S3[(S2 ++ [Cell.lst []]).length]? = some (.lst (rims8.map fun cs => .d (csD cs))) := k3.keep (get_len_app _ _ _) (by simp; omega) (by simp; omega)
    have e5 : gIx (.o (S2 ++ [Cell.lst []]).length) (.d (.int (i : Nat))) S3 = some (.d (csD rims8[i]), S3) := ix_o a3 (by rw [List.getElem?_map, List.getElem?_eq_getElem hi]; rfl)
    refine ⟨rims8[i], S3, ?_, rims8_ok _ (List.getElem_mem _), s3, (k12.trans (Kn.app n g _ _)).trans k3⟩
    have e6 := fun ρ => rims8_ev ρ (S2 ++ [Cell.lst []])
    unfold rims8E at e6
    unfold R__law_rims runB B__law_rims
    simp only [startR, List.map_cons, List.map_nil, List.length_cons, List.length_nil, Nat.zero_add, Nat.reduceAdd, Nat.reduceSub, List.replicate, List.cons_append, List.nil_append, st_seq, st_par3, ev_cons, ev_nil, ev_call, ev_c, ev_var, List.getElem?_cons_zero, List.getElem?_cons_succ, bind_ok, if_true, ofD_nil, List.append_nil, e1, ev_op2, eB, e2, e3, ofO_some, eA, fl_ok, List.set_cons_zero, List.set_cons_succ, st_if, ev_tru, eq_int, decide_eq_true hv, truth_b, Option.map_some, st_ret, e6, e4, e5]
  · obtain ⟨y, S3, e4, y0, y1, s3, k3⟩ := r_next s2' (z := 5) (by decide) (by decide)
    have a3 : S3[S2.length]? = some (.lst (iW [])) := k3.keep (get_len_app _ _ _) (by omega) (by omega)
    have hr : (rngD 0 (1 + y).toNat).length = (1 + y).toNat := by simp [rngD]
    obtain ⟨S4, a', l', k4, k5, e5, g1, g1g, g2, g3, g4, g5, s4, k4'⟩ := rim_loop (n := n) (g := g) (bb := bb) hb1 hb2 (j1 := some (.d (.int v))) (rngD 0 (1 + y).toNat) S3 S2.length [] none none s3 a3 (by omega) (by omega) (by rw [hr]; simp; omega) ⟨fun c hc => (by cases hc), (by simp)⟩
    obtain ⟨cs, rfl⟩ := nats_of l' g3.pos
    have eR : ∀ ρ : Slt, ρ[0]? = some (some (.o n)) → fR1 (fCons (fOp2 gAdd (fC (.d (.int 1))) (fCall 2 [] R__law_next (fCons (fVar 0) (fCons (fC (.d (.int 5))) fNil)))) fNil) ρ (S2 ++ [Cell.lst []]) = .ok (rngD 0 (1 + y).toNat) S3 := fun ρ hρ =>
      r1_ev _ _ _ _ (1 + y) (by simp [hρ, e4]) (by omega)
    have eC : csD cs = .tuple ((cs.map (fun c : Nat => (c : Int))).map PyData.int) := by unfold csD; rw [List.map_map]; rfl
    have eT := gTuple_o (n := a') (S := S4) (ds := (cs.map (fun c : Nat => (c : Int))).map PyData.int) (by rw [← iW_ds]; exact g2)
    refine ⟨cs, S4, ?_, ⟨fun z => g5 (.inr ?_) (by rw [z]; rfl), ?_, fun c hc => ?_, ?_⟩, s4, (k12.trans k3).trans k4'⟩
    · unfold rimBody at e5
      unfold R__law_rims runB B__law_rims
      simp only [startR, List.map_cons, List.map_nil, List.length_cons, List.length_nil, Nat.zero_add, Nat.reduceAdd, Nat.reduceSub, List.replicate, List.cons_append, List.nil_append, st_seq, st_par3, ev_cons, ev_nil, ev_call, ev_c, ev_var, List.getElem?_cons_zero, List.getElem?_cons_succ, bind_ok, if_true, ofD_nil, List.append_nil, e1, ev_op2, eB, e2, e3, ofO_some, eA, fl_ok, List.set_cons_zero, List.set_cons_succ, st_if, ev_tru, eq_int, decide_eq_false hv, truth_b, Option.map_some, Bool.false_eq_true, if_false, st_skip, st_for]
      rw [eR _ rfl]
      simp only [fl_ok, e5, st_ret, ev_cb, ev_cons, ev_nil, ev_var, List.getElem?_cons_zero, List.getElem?_cons_succ, bind_ok, eT, ofO_some]
      rw [eC]
    · intro z
      have := congrArg List.length z
      rw [hr] at this
      simp at this
      omega
    · have : cs.length ≤ (rngD 0 (1 + y).toNat).length := by simpa using g4
      rw [hr] at this
      omega
    · have := g3.pos (c : Int) (List.mem_map.mpr ⟨c, hc, rfl⟩)
      omega
    · have := g3.sum
      rw [sum_cast] at this
      omega
end G
set_option Elab.async false
set_option linter.all false
set_option maxRecDepth 100000
set_option maxHeartbeats 4000000
/-! L3: places, a machine drawn -/
namespace G
open PySem PySem.Spec L2 PyProof.Rows
set_option autoImplicit false
noncomputable def plBody : Fs := (fExp (fMt gExt (fVar 1) (fCons (fLc (fR1 (fCons (fVar 3) fNil)) (gNm 4) fYes (fTup (fCons (fVar 2) (fCons (fVar 4) fNil))) [4]) fNil)))
theorem pl_loop {S : Sto} {a0 : Option W} : ∀ (zs : List (Nat × Nat)) (acc : List Spot) (T : Sto) (j2 j3 j4 : Option W), (∀ q ∈ zs, q.1 ≤ 30) → acc.length + (cellsZ zs).length ≤ 100 → ∃ T' k2 k3,
    forD (gTp 2 (gsCons (gNm 2) (gsCons (gNm 3) gsNil))) plBody (zs.map fun q => .tuple [.int (q.2 : Nat), .int (q.1 : Nat)]) [a0, some (.o S.length), j2, j3, j4] (S ++ .lst (spW acc) :: T) = .nx [a0, some (.o S.length), k2, k3, j4] (S ++ .lst (spW (acc ++ cellsZ zs)) :: T')
  | [], acc, T, j2, j3, j4, hz, hl => ⟨T, j2, j3, by simp [forD_nil, cellsZ]⟩
  | q :: zs, acc, T, j2, j3, j4, hz, hl => by
    have hq := hz q (by simp)
    have ec : cellsZ (q :: zs) = ((List.range q.1).map fun p => (q.2, p)) ++ cellsZ zs := by unfold cellsZ; simp
    rw [ec] at hl
    simp only [List.length_append, List.length_map, List.length_range] at hl
    obtain ⟨T1, e1⟩ := fLc_ok (f := fR1 (fCons (fVar 3) fNil)) (g := gNm 4) (e := fTup (fCons (fVar 2) (fCons (fVar 4) fNil))) (vs := [4]) (ρ := [a0, some (.o S.length), some (.d (.int (q.2 : Nat))), some (.d (.int (q.1 : Nat))), j4]) (S := S ++ .lst (spW acc) :: T) (T0 := []) (ds := List.range q.1) (mk := fun p => .int (p : Nat)) (fun p => .d (sD (q.2, p)))
      (by rw [r1_ev _ _ _ _ (q.1 : Nat) (by simp; rfl) (by omega)]; simp [rng_map]) (by simp; omega) (fun p hp => ⟨_, fun S => rfl, fun S => .of (by simp only [wipeR, List.set_cons_zero, List.set_cons_succ, fTup_d2, ev_var, List.getElem?_cons_zero, List.getElem?_cons_succ, bind_ok, fzT_d2]; rfl)⟩)
    rw [List.append_nil] at e1
    have ee : gExt (.o S.length) [.o (S ++ .lst (spW acc) :: T).length] (S ++ .lst (spW acc) :: T ++ .lst ((List.range q.1).map fun p => .d (sD (q.2, p))) :: T1) = some (.d .none, S ++ .lst (spW (acc ++ (List.range q.1).map fun p => (q.2, p))) :: (T ++ .lst ((List.range q.1).map fun p => .d (sD (q.2, p))) :: T1)) := by
      unfold gExt
      have h1 : (S ++ .lst (spW acc) :: T ++ .lst ((List.range q.1).map fun p => .d (sD (q.2, p))) :: T1)[S.length]? = some (.lst (spW acc)) := by rw [List.append_assoc, List.cons_append]; exact get_len_app _ _ _
      have h2 : hpl (.o (S ++ .lst (spW acc) :: T).length) (S ++ .lst (spW acc) :: T ++ .lst ((List.range q.1).map fun p => .d (sD (q.2, p))) :: T1) = some ((List.range q.1).map fun p => W.d (sD (q.2, p))) := hpl_a (get_len_app _ _ _)
      simp only [h1, h2]
      rw [if_pos (by unfold szOk spW; simp; omega)]
      congr 2
      rw [List.append_assoc, List.cons_append, set_len_app, spW_app]
      unfold spW
      simp only [List.map_map]
      rfl
    obtain ⟨T', k2, k3, e4⟩ := pl_loop (S := S) (a0 := a0) zs (acc ++ (List.range q.1).map fun p => (q.2, p)) (T ++ .lst ((List.range q.1).map fun p => .d (sD (q.2, p))) :: T1) (some (.d (.int (q.2 : Nat)))) (some (.d (.int (q.1 : Nat)))) j4 (fun x hx => hz x (by simp [hx])) (by simp; omega)
    refine ⟨T', k2, k3, ?_⟩
    rw [List.map_cons, forD_cons]
    have eg : gTp 2 (gsCons (gNm 2) (gsCons (gNm 3) gsNil)) (.d (.tuple [.int (q.2 : Nat), .int (q.1 : Nat)])) [a0, some (.o S.length), j2, j3, j4] (S ++ .lst (spW acc) :: T) = some [a0, some (.o S.length), some (.d (.int (q.2 : Nat))), some (.d (.int (q.1 : Nat))), j4] := rfl
    rw [eg]
    dsimp only
    have eb : plBody [a0, some (.o S.length), some (.d (.int (q.2 : Nat))), some (.d (.int (q.1 : Nat))), j4] (S ++ .lst (spW acc) :: T) = .nx [a0, some (.o S.length), some (.d (.int (q.2 : Nat))), some (.d (.int (q.1 : Nat))), j4] (S ++ .lst (spW (acc ++ (List.range q.1).map fun p => (q.2, p))) :: (T ++ .lst ((List.range q.1).map fun p => .d (sD (q.2, p))) :: T1)) := by
      unfold plBody
      rw [st_exp, ev_mt]
      simp only [ev_var, List.getElem?_cons_zero, List.getElem?_cons_succ, bind_ok, hpl_o, Option.isSome_some, if_true, ev_cons, e1, ev_nil, ee, ofO_some, fl_ok]
    rw [eb]
    dsimp only
    rw [e4, ec, List.append_assoc]
theorem r_places {cs : List Nat} (h30 : ∀ c ∈ cs, c ≤ 30) (hs : cs.sum ≤ 30) (S : Sto) : ∃ T, R__law_places [.d (csD cs)] S = .ok (.o S.length) (S ++ .lst (spW (cells cs)) :: T) := by
  have hcl := cells_len (cs := cs)
  obtain ⟨T, k2, k3, e1⟩ := pl_loop (S := S) (a0 := some (.d (csD cs))) cs.zipIdx [] [] none none none (fun q hq => h30 q.1 (by
    have hz := List.mem_zipIdx (x := q.1) (i := q.2) hq
    rw [hz.2.2]; exact List.getElem_mem _)) (by simp; unfold cells at hcl; omega)
  rw [List.nil_append] at e1
  have eA : ∀ ρ : Slt, fLst fNil ρ S = .ok (.o S.length) (S ++ [Cell.lst []]) := fun ρ => rfl
  have eZ : enumD (cs.map fun c => PyData.int (c : Nat)) = cs.zipIdx.map fun q => .tuple [.int (q.2 : Nat), .int (q.1 : Nat)] := by simp [enumD, List.zipIdx_map]
  refine ⟨T, ?_⟩
  unfold plBody at e1
  unfold R__law_places runB B__law_places
  simp only [startR, List.map_cons, List.map_nil, List.length_cons, List.length_nil, Nat.zero_add, Nat.reduceAdd, Nat.reduceSub, List.replicate, List.cons_append, List.nil_append, st_seq, st_set, eA, bind_ok, fl_ok, List.set_cons_zero, List.set_cons_succ, st_for, en_ev, ev_var, List.getElem?_cons_zero, List.getElem?_cons_succ, items_cs, ofO_some, eZ]
  have e1' : forD (gTp 2 (gsCons (gNm 2) (gsCons (gNm 3) gsNil))) (fExp (fMt gExt (fVar 1) (fCons (fLc (fR1 (fCons (fVar 3) fNil)) (gNm 4) fYes (fTup (fCons (fVar 2) (fCons (fVar 4) fNil))) [4]) fNil))) (cs.zipIdx.map fun q => .tuple [.int (q.2 : Nat), .int (q.1 : Nat)]) [some (.d (csD cs)), some (.o S.length), none, none, none] (S ++ [Cell.lst []]) = _ := e1
  rw [e1']
  simp only [st_ret, ev_var, List.getElem?_cons_zero, List.getElem?_cons_succ, bind_ok, fl_ok]
  rfl
/-! popping -/
noncomputable def popN : Fs := (fIf (fTru (fOp2 cGt (fCB gLen (fCons (fVar 3) fNil)) (fC (.d (.int 1))))) (fSeq (fSet 5 (fMt gPopAt (fVar 3) (fCons (fCall 2 [] R__law_next (fCons (fVar 0) (fCons (fCB gLen (fCons (fVar 3) fNil)) fNil))) fNil)))
  (fSeq (fSet 6 (fMt gPopAt (fVar 3) (fCons (fCall 2 [] R__law_next (fCons (fVar 0) (fCons (fCB gLen (fCons (fVar 3) fNil)) fNil))) fNil)))
  (fExp (fMt gApp (fVar 2) (fCons (fTup (fCons (fCB (gMM PySem.W.minD 2) (fCons (fVar 5) (fCons (fVar 6) fNil))) (fCons (fCB (gMM PySem.W.maxD 2) (fCons (fVar 5) (fCons (fVar 6) fNil))) fNil))) fNil))))) fSkip)
theorem pop_one {n g : Nat} {S : Sto} {a : Nat} {fl : List Spot} (h : StN n g S) (ha : S[a]? = some (.lst (spW fl))) (han : a ≠ n) (hag : a ≠ g) (h0 : 0 < fl.length) (hl : fl.length ≤ 100) : ∃ (i : Nat) (s : Spot) (S' : Sto), fl[i]? = some s ∧
    (∀ ρ : Slt, ρ[0]? = some (some (.o n)) → ρ[3]? = some (some (.o a)) → fMt gPopAt (fVar 3) (fCons (fCall 2 [] R__law_next (fCons (fVar 0) (fCons (fCB gLen (fCons (fVar 3) fNil)) fNil))) fNil) ρ S = .ok (.d (sD s)) S') ∧
    S'[a]? = some (.lst (spW (fl.eraseIdx i))) ∧ StN n g S' ∧ S.length ≤ S'.length ∧ ∀ i, i < S.length → i ≠ n → i ≠ g → i ≠ a → S'[i]? = S[i]? := by
  obtain ⟨v, S1, e1, v0, v1, s1, k1⟩ := r_next h (z := (fl.length : Nat)) (by omega) (by omega)
  have ha1 : S1[a]? = some (.lst (spW fl)) := k1.keep ha han hag
  have hal1 := (List.getElem?_eq_some_iff.mp ha1).1
  have hv : v = ((v.toNat : Nat) : Int) := by omega
  have hlt : v.toNat < fl.length := by omega
  refine ⟨v.toNat, fl[v.toNat], S1.set a (.lst (spW (fl.eraseIdx v.toNat))), List.getElem?_eq_getElem hlt, fun ρ h0 h3 => ?_, by rw [List.getElem?_set_self hal1], s1.set han hag _, by rw [List.length_set]; exact k1.len, fun i hi hin hig hia => by rw [List.getElem?_set_ne (Ne.symm hia)]; exact k1.same i hi hin hig⟩
  have e2 := pop_o ha1 (List.getElem?_eq_getElem hlt) hl
  rw [← hv] at e2
  have e3 : (spW fl).length = fl.length := by simp [spW]
  simp only [ev_mt, ev_var, h3, bind_ok, hpl_a ha, Option.isSome_some, if_true, ev_cons, ev_nil, ev_call, h0, ev_len, len_o ha, e3, ofO_some, List.length_cons, List.length_nil, Nat.zero_add, Nat.reduceAdd, ofD_nil, List.append_nil, e1, e2]
theorem popN_loop {n g : Nat} {cl : List Spot} (hcl : cl.Nodup) {a1 : Option W} : ∀ (ds : List PyData) (S : Sto) (a c : Nat) (fl : List Spot) (ts : List Tch) (j4 j5 j6 : Option W), StN n g S → S[a]? = some (.lst (spW fl)) → S[c]? = some (.lst (tW ts)) → a ≠ n → a ≠ g → c ≠ n → c ≠ g → a ≠ c →
    fl.length ≤ 100 → ts.length + ds.length ≤ 50 → (spotsOf ts ++ fl).Perm cl → (∀ t ∈ ts, ltS t.1 t.2) →
    ∃ (S' : Sto) (ts' : List Tch) (fl' : List Spot) (l4 l5 l6 : Option W), forD (gNm 4) popN ds [some (.o n), a1, some (.o c), some (.o a), j4, j5, j6] S = .nx [some (.o n), a1, some (.o c), some (.o a), l4, l5, l6] S' ∧ S'[c]? = some (.lst (tW ts')) ∧ ts'.length ≤ ts.length + ds.length ∧
      (spotsOf ts' ++ fl').Perm cl ∧ (∀ t ∈ ts', ltS t.1 t.2) ∧ StN n g S' ∧ S.length ≤ S'.length ∧ ∀ i, i < S.length → i ≠ n → i ≠ g → i ≠ a → i ≠ c → S'[i]? = S[i]?
  | [], S, a, c, fl, ts, j4, j5, j6, h, ha, hc, han, hag, hcn, hcg, hac, hf, ht, hp, hlt => ⟨S, ts, fl, j4, j5, j6, rfl, hc, by simp, hp, hlt, h, Nat.le_refl _, fun _ _ _ _ _ _ => rfl⟩
  | d :: ds, S, a, c, fl, ts, j4, j5, j6, h, ha, hc, han, hag, hcn, hcg, hac, hf, ht, hp, hlt => by
    simp only [List.length_cons] at ht
    have lw : (spW fl).length = fl.length := by simp [spW]
    by_cases h1 : 1 < fl.length
    · obtain ⟨i1, s1, S1, f1, p1, g1, st1, n1, m1⟩ := pop_one h ha han hag (by omega) hf
      have hl1 := erase_len fl i1 s1 f1
      obtain ⟨i2, s2, S2, f2, p2, g2, st2, n2, m2⟩ := pop_one st1 g1 han hag (by omega) (by omega)
      have hcl0 := (List.getElem?_eq_some_iff.mp hc).1
      have hc1 : S1[c]? = some (.lst (tW ts)) := by rw [m1 c hcl0 hcn hcg (Ne.symm hac)]; exact hc
      have hc2 : S2[c]? = some (.lst (tW ts)) := by rw [m2 c (by omega) hcn hcg (Ne.symm hac)]; exact hc1
      have hcl2 := (List.getElem?_eq_some_iff.mp hc2).1
      have q1 := erase_perm fl i1 s1 f1
      have q2 := erase_perm (fl.eraseIdx i1) i2 s2 f2
      have q3 : fl.Perm (s1 :: s2 :: (fl.eraseIdx i1).eraseIdx i2) := q1.trans (List.Perm.cons s1 q2)
      have hnd : (s1 :: s2 :: (fl.eraseIdx i1).eraseIdx i2).Nodup := by
        have := (hp.nodup_iff).mpr hcl
        exact q3.nodup_iff.mp (List.nodup_append.mp this).2.1
      have hne : s1 ≠ s2 := fun z => by
        rw [List.nodup_cons] at hnd
        exact hnd.1 (by simp [z])
      have hp2 : (spotsOf (ts ++ [mkT s1 s2]) ++ (fl.eraseIdx i1).eraseIdx i2).Perm cl := by
        refine List.Perm.trans ?_ hp
        rw [spotsOf_app, List.append_assoc]
        refine List.Perm.append_left _ ?_
        refine List.Perm.trans ?_ q3.symm
        exact List.Perm.append_right _ (mkT_perm s1 s2)
      obtain ⟨S', ts', fl', l4, l5, l6, e3, r1, r2, r3, r4, r5, r6, r7⟩ := popN_loop hcl (a1 := a1) ds (S2.set c (.lst (tW (ts ++ [mkT s1 s2])))) a c ((fl.eraseIdx i1).eraseIdx i2) (ts ++ [mkT s1 s2]) (some (.d d)) (some (.d (sD s1))) (some (.d (sD s2))) (st2.set hcn hcg _)
        (by rw [List.getElem?_set_ne (Ne.symm hac)]; exact g2) (by rw [List.getElem?_set_self hcl2]) han hag hcn hcg hac (by have := erase_len _ i2 s2 f2; omega) (by simp; omega) hp2 (fun t ht' => by
          rcases List.mem_append.mp ht' with ht' | ht'
          · exact hlt t ht'
          · have : t = mkT s1 s2 := by simpa using ht'
            rw [this]
            exact mkT_lt s1 s2 hne)
      refine ⟨S', ts', fl', l4, l5, l6, ?_, r1, by simp at r2 ⊢; omega, r3, r4, r5, by rw [List.length_set] at r6; omega, fun i hi hin hig hia hic => ?_⟩
      · have et : ∀ S, fzT [.d (sD (mkT s1 s2).1), .d (sD (mkT s1 s2).2)] S = some (tcD (mkT s1 s2), S) := fun S => fzT_d2 _ _ S
        have a1' : (1 : Int) < (fl.length : Int) := by omega
        rw [forD_cons]
        simp only [gt_nm, List.set_cons_zero, List.set_cons_succ]
        unfold popN at e3 ⊢
        rw [st_if]
        simp only [ev_tru, ev_op2, ev_len, ev_cons, ev_nil, ev_var, ev_c, List.getElem?_cons_zero, List.getElem?_cons_succ, bind_ok, len_o ha, lw, ofO_some, gt_int', decide_eq_true a1', truth_b, Option.map_some, fl_ok, if_true, st_seq, st_set]
        rw [p1 _ rfl rfl]
        simp only [fl_ok, List.set_cons_zero, List.set_cons_succ]
        rw [p2 _ rfl rfl]
        simp only [fl_ok, List.set_cons_zero, List.set_cons_succ, st_exp]
        rw [ev_mt]
        simp only [ev_var, List.getElem?_cons_zero, List.getElem?_cons_succ, bind_ok, hpl_a hc2, Option.isSome_some, if_true, ev_cons, ev_nil, fTup_d2, ev_mm, mm_s, ofO_some, min_s, max_s s1 s2 hne, et, app_t (mkT s1 s2) hc2 (by omega), fl_ok]
        exact e3
      · rw [r7 i (by rw [List.length_set]; omega) hin hig hia hic, List.getElem?_set_ne (Ne.symm hic), m2 i (by omega) hin hig hia, m1 i hi hin hig hia]
    · obtain ⟨S', ts', fl', l4, l5, l6, e3, r1, r2, r3, r4, r5, r6, r7⟩ := popN_loop hcl (a1 := a1) ds S a c fl ts (some (.d d)) j5 j6 h ha hc han hag hcn hcg hac hf (by omega) hp hlt
      refine ⟨S', ts', fl', l4, l5, l6, ?_, r1, by simp; omega, r3, r4, r5, r6, r7⟩
      have a1' : ¬ ((1 : Int) < (fl.length : Int)) := by omega
      rw [forD_cons]
      simp only [gt_nm, List.set_cons_zero, List.set_cons_succ]
      unfold popN at e3 ⊢
      rw [st_if]
      simp only [ev_tru, ev_op2, ev_len, ev_cons, ev_nil, ev_var, ev_c, List.getElem?_cons_zero, List.getElem?_cons_succ, bind_ok, len_o ha, lw, ofO_some, gt_int', decide_eq_false a1', truth_b, Option.map_some, fl_ok, Bool.false_eq_true, if_false, st_skip]
      exact e3
theorem r_mach {n g : Nat} {S : Sto} (h : StN n g S) : ∃ (m : Mach) (S' : Sto), R__law_machine [.o n] S = .ok (.d (mD m)) S' ∧ Ok m ∧ StN n g S' ∧ Kn n g S S' := by
  obtain ⟨cs, S1, e1, rim, s1, k1⟩ := r_rims h
  have h30 : ∀ c ∈ cs, c ≤ 30 := fun c hc => by
    have : ∀ l : List Nat, c ∈ l → c ≤ l.sum := fun l => by
      induction l with
      | nil => intro h; cases h
      | cons a l ih =>
        intro h
        rcases List.mem_cons.mp h with rfl | h
        · simp
        · have := ih h; simp; omega
    have := this cs hc
    have := rim.sum
    omega
  have hsum := rim.sum
  have hcl := cells_len (cs := cs)
  obtain ⟨T, e2⟩ := r_places h30 hsum (S1 ++ [Cell.lst []])
  obtain ⟨hn1, hg1, _⟩ := s1.lt
  obtain ⟨S2, hS2⟩ : ∃ S2, S2 = S1 ++ [Cell.lst []] ++ .lst (spW (cells cs)) :: T := ⟨_, rfl⟩
  rw [← hS2] at e2
  have s2 : StN n g S2 := by rw [hS2]; exact (s1.app _).app _
  have k2 : Kn n g S S2 := by rw [hS2]; exact (k1.trans (Kn.app n g S1 _)).trans (Kn.app n g _ _)
  have c2 : S2[S1.length]? = some (.lst (tW [])) := by rw [hS2, List.append_assoc]; exact get_len_app _ _ _
  have a2 : S2[(S1 ++ [Cell.lst []]).length]? = some (.lst (spW (cells cs))) := by rw [hS2]; exact get_len_app _ _ _
  obtain ⟨v, S3, e3, v0, v1, s3, k3⟩ := r_next s2 (z := 9) (by decide) (by decide)
  have hlen1 : (S1 ++ [Cell.lst []]).length = S1.length + 1 := by simp
  rw [hlen1] at a2 e2
  have c3 := k3.keep c2 (by omega) (by omega)
  have a3 := k3.keep a2 (by omega) (by omega)
  have hr : (rngD 0 v.toNat).length = v.toNat := by simp [rngD]
  obtain ⟨S4, ts, fl, l4, l5, l6, e4, r1, r2, r3, r4, r5, r6, r7⟩ := popN_loop (n := n) (g := g) (cells_nodup cs) (a1 := some (.d (csD cs))) (rngD 0 v.toNat) S3 (S1.length + 1) S1.length (cells cs) [] none none none s3 a3 c3 (by omega) (by omega) (by omega) (by omega) (by omega) (by omega) (by rw [hr]; simp; omega) (by simp [spotsOf]) (fun t ht => by cases ht)
  have hnd : (spotsOf ts ++ fl).Nodup := r3.nodup_iff.mpr (cells_nodup cs)
  have hnd1 := (List.nodup_append.mp hnd).1
  have htnd : ts.Nodup := by
    have : ∀ l : List Tch, (spotsOf l).Nodup → l.Nodup := fun l => by
      induction l with
      | nil => intro _; exact List.nodup_nil
      | cons t l ih =>
        intro hl
        have e : spotsOf (t :: l) = [t.1, t.2] ++ spotsOf l := rfl
        rw [e] at hl
        obtain ⟨_, h2, h3⟩ := List.nodup_append.mp hl
        rw [List.nodup_cons]
        exact ⟨fun z => h3 t.1 (by simp) t.1 (spotsOf_mem l t z).1 rfl, ih h2⟩
    exact this ts hnd1
  obtain ⟨us, q1, q2, q3⟩ := srt_t ts htnd
  have hlen : ts.length ≤ 8 := by rw [hr] at r2; simp at r2; omega
  have e5 := sort_o r1 (by omega) q1
  have ok : Ok ⟨cs, us⟩ := ⟨rim.ne, rim.len, rim.pos, rim.sum, by show us.length ≤ 8; rw [q2.length_eq]; exact hlen, fun t ht => by
    have ht' := q2.mem_iff.mp ht
    obtain ⟨m1, m2⟩ := spotsOf_mem ts t ht'
    exact ⟨(cells_mem cs _).mp (r3.mem_iff.mp (List.mem_append_left _ m1)), (cells_mem cs _).mp (r3.mem_iff.mp (List.mem_append_left _ m2)), r4 t ht'⟩, q3, (List.Perm.flatMap_right _ q2).nodup_iff.mpr hnd1⟩
  have k4 : Kn n g S S4 := by
    have kk := k2.trans k3
    refine ⟨Nat.le_trans kk.len r6, fun i hi hin hig => ?_⟩
    have hle := k1.len
    rw [r7 i (Nat.lt_of_lt_of_le hi kk.len) hin hig (by omega) (by omega)]
    exact kk.same i hi hin hig
  refine ⟨⟨cs, us⟩, S4 ++ [Cell.lst (tW us)], ?_, ok, r5.app _, k4.trans (Kn.app n g S4 _)⟩
  have eA : ∀ ρ : Slt, fLst fNil ρ S1 = .ok (.o S1.length) (S1 ++ [Cell.lst []]) := fun ρ => rfl
  have eR : ∀ ρ : Slt, ρ[0]? = some (some (.o n)) → fR1 (fCons (fCall 2 [] R__law_next (fCons (fVar 0) (fCons (fC (.d (.int 9))) fNil))) fNil) ρ S2 = .ok (rngD 0 v.toNat) S3 := fun ρ hρ => r1_ev _ _ _ _ v (by simp [hρ, e3]) (by omega)
  have hg : gTuple [.o S4.length] (S4 ++ [Cell.lst (tW us)]) = some (.d (tsD us), S4 ++ [Cell.lst (tW us)]) := gTuple_o (ds := us.map tcD) (get_len_app S4 (Cell.lst (tW us)) [])
  have ez : fzT [.d (csD cs), .d (tsD us)] (S4 ++ [Cell.lst (tW us)]) = some (mD ⟨cs, us⟩, S4 ++ [Cell.lst (tW us)]) := fzT_d2 _ _ _
  unfold popN at e4
  unfold R__law_machine runB B__law_machine
  simp only [startR, List.map_cons, List.map_nil, List.length_cons, List.length_nil, Nat.zero_add, Nat.reduceAdd, Nat.reduceSub, List.replicate, List.cons_append, List.nil_append, st_seq, st_par, ev_cons, ev_nil, ev_call, ev_var, List.getElem?_cons_zero, List.getElem?_cons_succ, bind_ok, if_true, ofD_nil, List.append_nil, e1, eA, fl_ok, List.set_cons_zero, List.set_cons_succ, st_set, e2, st_for]
  rw [eR _ rfl]
  simp only [fl_ok, e4, st_ret, fTup_d2, ev_var, List.getElem?_cons_zero, List.getElem?_cons_succ, bind_ok, ev_cb, ev_cons, ev_nil, e5, ofO_some, hg, ez]
end G
set_option Elab.async false
set_option linter.all false
set_option maxRecDepth 100000
set_option maxHeartbeats 4000000

/-! H1: the law's numbers of spots, its own rolled ways -/
namespace G
open PySem PySem.Spec L2 PyProof.Rows
set_option autoImplicit false

section
variable {m : Mach} {s : Spot}
theorem st_p2T (ta : Fe (List W)) (g1 g2 : Tg) (ρ : Slt) (S : Sto) : fPar2T ta g1 g2 ρ S = (ta ρ S).fl ρ fun xs S1 => match xs with
  | [x, y] => match g1 x ρ S1 with
    | .nx ρ1 S2 => toT (g2 y ρ1 S2)
    | .ex e ρ1 S2 => .ex e ρ1 S2
    | _ => .bad
  | _ => .bad := rfl
theorem st_tgX (fo fi : Fe W) (z : W) (ρ : Slt) (S : Sto) : tgX fo fi z ρ S = (fo ρ S).fl ρ fun x S2 => (fi ρ S2).fl ρ fun y S3 => match putXk x y z S3 with
  | some S4 => .nx ρ S4
  | none => .bad := rfl
theorem toT_nx (ρ : Slt) (S : Sto) : toT (.nx ρ S) = .nx ρ S := rfl
theorem ix_t0 (t : Tch) (S : Sto) : gIx (.d (tcD t)) (.d (.int 0)) S = some (.d (sD t.1), S) := rfl
theorem ix_t1 (t : Tch) (S : Sto) : gIx (.d (tcD t)) (.d (.int 1)) S = some (.d (sD t.2), S) := rfl
noncomputable def nmB : Fs := (fPar2T (fCons (fVar 2) (fCons (fVar 2) fNil)) (tgX (fVar 1) (fOp2 gIx (fVar 3) (fC (.d (.int 0))))) (tgX (fVar 1) (fOp2 gIx (fVar 3) (fC (.d (.int 1))))))
theorem nm_loop (ok : Ok m) {S : Sto} {a0 : Option W} : ∀ (ts us : List Tch) (j2 j3 : Option W), us ++ ts = m.ts → ∃ k2 k3,
    forD (gTp 2 (gsCons (gNm 2) (gsCons (gNm 3) gsNil))) nmB (((ts.map tcD).zipIdx us.length).map fun p => PyData.tuple [.int (p.2 : Nat), p.1]) [a0, some (.o S.length), j2, j3] (S ++ [.dix (tabL (numD m) (spotsOf us))]) = .nx [a0, some (.o S.length), k2, k3] (S ++ [.dix (tabL (numD m) (spotsOf m.ts))])
  | [], us, j2, j3, e => by
    rw [List.append_nil] at e
    subst e
    exact ⟨j2, j3, rfl⟩
  | t :: ts, us, j2, j3, e => by
    have hn := ok.nd
    have h8 := ok.l8
    have hk : m.ts[us.length]? = some t := by rw [← e]; simp
    have n1 : nmb m.ts t.1 = us.length := nmb_of hn hk (.inl rfl)
    have n2 : nmb m.ts t.2 = us.length := nmb_of hn hk (.inr rfl)
    have es : spotsOf m.ts = spotsOf us ++ (t.1 :: t.2 :: spotsOf ts) := by rw [← e, spotsOf_app]; rfl
    have hl : (spotsOf us).length ≤ 16 := by
      have := spots_len m.ts
      rw [es] at this
      simp at this
      omega
    rw [es, List.nodup_append] at hn
    obtain ⟨_, hn2, hn3⟩ := hn
    have h1 : t.1 ∉ spotsOf us := fun z => hn3 _ z _ (by simp) rfl
    have h2 : t.2 ∉ spotsOf us ++ [t.1] := fun z => by
      rcases List.mem_append.mp z with z | z
      · exact hn3 _ z _ (by simp) rfl
      · rw [List.nodup_cons] at hn2
        have : t.2 = t.1 := by simpa using z
        exact hn2.1 (by rw [← this]; simp)
    obtain ⟨k2, k3, ih⟩ := nm_loop ok (S := S) (a0 := a0) ts (us ++ [t]) (some (.d (.int (us.length : Nat)))) (some (.d (tcD t))) (by simpa using e)
    refine ⟨k2, k3, ?_⟩
    rw [enum_cons, forD_cons]
    have eg : gTp 2 (gsCons (gNm 2) (gsCons (gNm 3) gsNil)) (.d (.tuple [.int (us.length : Nat), tcD t])) [a0, some (.o S.length), j2, j3] (S ++ [.dix (tabL (numD m) (spotsOf us))]) = some [a0, some (.o S.length), some (.d (.int (us.length : Nat))), some (.d (tcD t))] := rfl
    rw [eg]
    dsimp only
    have p1 := putX_n (S := S ++ [.dix (tabL (numD m) (spotsOf us))]) (h := numD m) (s := t.1) (get_len_app _ _ _) h1 (by omega)
    rw [set_len_app] at p1
    have p2 := putX_n (S := S ++ [.dix (tabL (numD m) (spotsOf us ++ [t.1]))]) (h := numD m) (s := t.2) (get_len_app _ _ _) h2 (by simp; omega)
    rw [set_len_app] at p2
    have e1 : numD m t.1 = .int (us.length : Nat) := by unfold numD; rw [n1]
    have e2 : numD m t.2 = .int (us.length : Nat) := by unfold numD; rw [n2]
    rw [e1] at p1
    rw [e2] at p2
    have ea : spotsOf us ++ [t.1] ++ [t.2] = spotsOf (us ++ [t]) := by rw [spotsOf_app]; simp [spotsOf]
    rw [ea] at p2
    have el : us.length + 1 = (us ++ [t]).length := by simp
    rw [el]
    have eB : nmB [a0, some (.o S.length), some (.d (.int (us.length : Nat))), some (.d (tcD t))] (S ++ [.dix (tabL (numD m) (spotsOf us))]) = .nx [a0, some (.o S.length), some (.d (.int (us.length : Nat))), some (.d (tcD t))] (S ++ [.dix (tabL (numD m) (spotsOf (us ++ [t])))]) := by
      unfold nmB
      simp only [st_p2T, st_tgX, ev_cons, ev_nil, ev_var, ev_op2, ev_c, List.getElem?_cons_zero, List.getElem?_cons_succ, bind_ok, ix_t0, ix_t1, ofO_some, fl_ok, p1, p2, toT_nx]
    rw [eB]
    exact ih
theorem r_law_numbers (ok : Ok m) (S : Sto) : R__law_numbers [.d (mD m)] S = .ok (.o S.length) (S ++ [.dix (tabL (numD m) (spotsOf m.ts))]) := by
  obtain ⟨k2, k3, e1⟩ := nm_loop ok (S := S) (a0 := some (.d (mD m))) m.ts [] none none rfl
  have eA : ∀ ρ : Slt, fNewX ρ S = .ok (.o S.length) (S ++ [.dix []]) := fun ρ => rfl
  have ez : enumD (m.ts.map tcD) = ((m.ts.map tcD).zipIdx 0).map fun p => PyData.tuple [.int (p.2 : Nat), p.1] := rfl
  have e0 : tabL (numD m) (spotsOf []) = [] := rfl
  rw [e0, List.length_nil] at e1
  unfold nmB at e1
  unfold R__law_numbers runB B__law_numbers
  simp only [startR, List.map_cons, List.map_nil, List.length_cons, List.length_nil, Nat.zero_add, Nat.reduceAdd, Nat.reduceSub, List.replicate, List.cons_append, List.nil_append, st_seq, st_set, st_ret, st_if, st_exp, st_par, st_skip, ev_call, ev_cons, ev_nil, ev_var, ev_c, ev_op2, ev_tru, ev_or, ev_and, ev_not, List.getElem?_cons_zero, List.getElem?_cons_succ, bind_ok, ofO_some, if_true, ofD_nil, List.append_nil, fl_ok, List.set_cons_zero, List.set_cons_succ, truth_b, Option.map_some, Bool.not_true, Bool.not_false, Bool.false_eq_true, if_false, eA, st_for, en_ev, ix_m1, items_ts, ez, e1]
/-! ### rolled -/
theorem emod_pred {x c : Int} (hc : 0 < c) : (x - 1) % c = if 0 < x % c then x % c - 1 else c - 1 := by
  have h1 := Int.emod_nonneg x (by omega : c ≠ 0)
  have h2 := Int.emod_lt_of_pos x hc
  have h3 := Int.mul_ediv_add_emod x c
  split
  · rename_i h
    have e : x - 1 = (x % c - 1) + c * (x / c) := by omega
    rw [e, Int.add_mul_emod_self_left, Int.emod_eq_of_lt (by omega) (by omega)]
  · have hz : x % c = 0 := by omega
    have e : x - 1 = (c - 1) + c * (x / c - 1) := by
      rw [Int.mul_sub]
      omega
    rw [e, Int.add_mul_emod_self_left, Int.emod_eq_of_lt (by omega) (by omega)]
noncomputable def rlC : Fe Bool := (fOr (fTru (fOp2 (dEq false) (fVar 4) (fC (.d (.int 0))))) (fTru (fOp2 (gInX true) (fVar 3) (fVar 1))))
noncomputable def rlB : Fs := (fPar 3 4 (fCons (fTup (fCons (fOp2 gIx (fVar 3) (fC (.d (.int 0)))) (fCons (fIfE (fTru (fOp2 cGt (fOp2 gIx (fVar 3) (fC (.d (.int 1)))) (fC (.d (.int 0))))) (fOp2 gSub (fOp2 gIx (fVar 3) (fC (.d (.int 1)))) (fC (.d (.int 1)))) (fOp2 gSub (fOp2 gIx (fOp2 gIx (fVar 0) (fC (.d (.int 0)))) (fOp2 gIx (fVar 3) (fC (.d (.int 0))))) (fC (.d (.int 1))))) fNil))) (fCons (fOp2 gAdd (fVar 4) (fC (.d (.int 1)))) fNil)))
theorem rl_turn (ho : okS m.cs s) {a1 a2 : Option W} (g : Nat) (S : Sto) : rlB [some (.d (mD m)), a1, a2, some (.d (sD (stp m.cs (-1) s g))), some (.d (.int (g : Nat)))] S = .nx [some (.d (mD m)), a1, a2, some (.d (sD (stp m.cs (-1) s (g + 1)))), some (.d (.int ((g + 1 : Nat) : Int)))] S := by
  have ho' := stp_ok (d := -1) (g := g) ho
  have h0 := cnt_of ho
  have hb : (0 : Int) < ((m.cs.getD s.1 1 : Nat) : Int) := by omega
  have c1 := stp_cast (d := -1) (g := g) ho
  have c2 := stp_cast (d := -1) (g := g + 1) ho
  have ep := emod_pred (x := (s.2 : Int) + -1 * (g : Nat)) hb
  have ec : (s.2 : Int) + -1 * ((g + 1 : Nat) : Int) = (s.2 : Int) + -1 * (g : Nat) - 1 := by omega
  rw [ec, ep, ← c1] at c2
  have w1 : (stp m.cs (-1) s g).1 = s.1 := rfl
  have i0 : ∀ V, gIx (.d (sD (stp m.cs (-1) s g))) (.d (.int 0)) V = some (.d (.int (s.1 : Nat)), V) := fun V => rfl
  have i1 : ∀ V, gIx (.d (sD (stp m.cs (-1) s g))) (.d (.int 1)) V = some (.d (.int ((stp m.cs (-1) s g).2 : Nat)), V) := fun V => rfl
  have ic := ix_csS ho
  have ef : sD (stp m.cs (-1) s (g + 1)) = .tuple [.int (s.1 : Nat), .int ((stp m.cs (-1) s (g + 1)).2 : Nat)] := rfl
  rw [ef, c2]
  unfold rlB
  by_cases h : (0 : Int) < ((stp m.cs (-1) s g).2 : Nat)
  · rw [if_pos h]
    simp only [startR, List.map_cons, List.map_nil, List.length_cons, List.length_nil, Nat.zero_add, Nat.reduceAdd, Nat.reduceSub, List.replicate, List.cons_append, List.nil_append, st_seq, st_set, st_ret, st_if, st_exp, st_par, st_skip, ev_call, ev_cons, ev_nil, ev_var, ev_c, ev_op2, ev_tru, ev_or, ev_and, ev_not, List.getElem?_cons_zero, List.getElem?_cons_succ, bind_ok, ofO_some, if_true, ofD_nil, List.append_nil, fl_ok, List.set_cons_zero, List.set_cons_succ, truth_b, Option.map_some, Bool.not_true, Bool.not_false, Bool.false_eq_true, if_false, ev_tup, i0, i1, ev_ife, gt_int', decide_eq_true h, sub_int, fzT_d2, add_int]
    rfl
  · rw [if_neg h]
    simp only [startR, List.map_cons, List.map_nil, List.length_cons, List.length_nil, Nat.zero_add, Nat.reduceAdd, Nat.reduceSub, List.replicate, List.cons_append, List.nil_append, st_seq, st_set, st_ret, st_if, st_exp, st_par, st_skip, ev_call, ev_cons, ev_nil, ev_var, ev_c, ev_op2, ev_tru, ev_or, ev_and, ev_not, List.getElem?_cons_zero, List.getElem?_cons_succ, bind_ok, ofO_some, if_true, ofD_nil, List.append_nil, fl_ok, List.set_cons_zero, List.set_cons_succ, truth_b, Option.map_some, Bool.not_true, Bool.not_false, Bool.false_eq_true, if_false, ev_tup, i0, i1, ev_ife, gt_int', decide_eq_false h, ix_m0, ic, sub_int, fzT_d2, add_int]
    rfl
theorem rl_loop (ok : Ok m) (hs : s ∈ spotsOf m.ts) {n : Nat} {S : Sto} (ht : Tab S n (numD m) (spotsOf m.ts)) {a2 : Option W} : ∀ (k g : Nat), g + k = gapN m (-1) s → whD rlC rlB (k + 1) [some (.d (mD m)), some (.o n), a2, some (.d (sD (stp m.cs (-1) s g))), some (.d (.int (g : Nat)))] S = .nx [some (.d (mD m)), some (.o n), a2, some (.d (sD (gls m (-1) s))), some (.d (.int (gapN m (-1) s : Nat)))] S
  | 0, g, hk => by
    have G := (find_gap ok (-1) hs).2
    have hp := G.pos
    have e : g = gapN m (-1) s := by omega
    have z0 : decide (((g : Nat) : Int) = 0) = false := decide_eq_false (by omega)
    have ec : rlC [some (.d (mD m)), some (.o n), a2, some (.d (sD (stp m.cs (-1) s g))), some (.d (.int (g : Nat)))] S = .ok false S := by
      unfold rlC
      simp only [startR, List.map_cons, List.map_nil, List.length_cons, List.length_nil, Nat.zero_add, Nat.reduceAdd, Nat.reduceSub, List.replicate, List.cons_append, List.nil_append, st_seq, st_set, st_ret, st_if, st_exp, st_par, st_skip, ev_call, ev_cons, ev_nil, ev_var, ev_c, ev_op2, ev_tru, ev_or, ev_and, ev_not, List.getElem?_cons_zero, List.getElem?_cons_succ, bind_ok, ofO_some, if_true, ofD_nil, List.append_nil, fl_ok, List.set_cons_zero, List.set_cons_succ, truth_b, Option.map_some, Bool.not_true, Bool.not_false, Bool.false_eq_true, if_false, eq_int, z0, ht.nis]
      rw [e, decide_eq_false (fun z => z G.hit)]
    unfold whD
    rw [ec, fl_ok, if_neg Bool.false_ne_true, e]
    rfl
  | k + 1, g, hk => by
    have ho := spot_ok ok hs
    have G := (find_gap ok (-1) hs).2
    have ec : rlC [some (.d (mD m)), some (.o n), a2, some (.d (sD (stp m.cs (-1) s g))), some (.d (.int (g : Nat)))] S = .ok true S := by
      unfold rlC
      by_cases h0 : g = 0
      · have z0 : decide (((g : Nat) : Int) = 0) = true := decide_eq_true (by omega)
        simp only [startR, List.map_cons, List.map_nil, List.length_cons, List.length_nil, Nat.zero_add, Nat.reduceAdd, Nat.reduceSub, List.replicate, List.cons_append, List.nil_append, st_seq, st_set, st_ret, st_if, st_exp, st_par, st_skip, ev_call, ev_cons, ev_nil, ev_var, ev_c, ev_op2, ev_tru, ev_or, ev_and, ev_not, List.getElem?_cons_zero, List.getElem?_cons_succ, bind_ok, ofO_some, if_true, ofD_nil, List.append_nil, fl_ok, List.set_cons_zero, List.set_cons_succ, truth_b, Option.map_some, Bool.not_true, Bool.not_false, Bool.false_eq_true, if_false, eq_int, z0]
      · have z0 : decide (((g : Nat) : Int) = 0) = false := decide_eq_false (by omega)
        simp only [startR, List.map_cons, List.map_nil, List.length_cons, List.length_nil, Nat.zero_add, Nat.reduceAdd, Nat.reduceSub, List.replicate, List.cons_append, List.nil_append, st_seq, st_set, st_ret, st_if, st_exp, st_par, st_skip, ev_call, ev_cons, ev_nil, ev_var, ev_c, ev_op2, ev_tru, ev_or, ev_and, ev_not, List.getElem?_cons_zero, List.getElem?_cons_succ, bind_ok, ofO_some, if_true, ofD_nil, List.append_nil, fl_ok, List.set_cons_zero, List.set_cons_succ, truth_b, Option.map_some, Bool.not_true, Bool.not_false, Bool.false_eq_true, if_false, eq_int, z0, ht.nis]
        rw [decide_eq_true (G.free g (by omega) (by omega))]
    have ih := rl_loop ok hs ht (a2 := a2) k (g + 1) (by omega)
    unfold whD
    rw [ec, fl_ok, if_pos rfl, rl_turn ho]
    exact ih
theorem r_law_rolled (ok : Ok m) (hs : s ∈ spotsOf m.ts) {n : Nat} {S : Sto} (ht : Tab S n (numD m) (spotsOf m.ts)) : R__law_rolled [.d (mD m), .o n, .d (sD s)] S = .ok (.d (wayD m s)) S := by
  have ho := spot_ok ok hs
  have G := (find_gap ok (-1) hs).2
  have w := rl_loop ok hs ht (a2 := some (.d (sD s))) (gapN m (-1) s) 0 (by omega)
  rw [stp_zero ho] at w
  have w2 := fWh_eq (n := gapN m (-1) s + 1) (c := rlC) (b := rlB) (ρ := [some (.d (mD m)), some (.o n), some (.d (sD s)), some (.d (sD s)), some (.d (.int ((0 : Nat) : Int)))]) (S := S) (by rw [w]; intro z; cases z)
  rw [w] at w2
  have w3 : fWh rlC rlB [some (.d (mD m)), some (.o n), some (.d (sD s)), some (.d (sD s)), some (.d (.int 0))] S = _ := w2
  have eg := ht.get G.hit
  have eg2 : gXget (.o n) (.d (sD (gls m (-1) s))) S = some (.d (numD m (gls m (-1) s)), S) := eg
  have es := ht.get hs
  unfold rlC rlB at w3
  unfold R__law_rolled runB B__law_rolled
  simp only [startR, List.map_cons, List.map_nil, List.length_cons, List.length_nil, Nat.zero_add, Nat.reduceAdd, Nat.reduceSub, List.replicate, List.cons_append, List.nil_append, st_seq, st_set, st_ret, st_if, st_exp, st_par, st_skip, ev_call, ev_cons, ev_nil, ev_var, ev_c, ev_op2, ev_tru, ev_or, ev_and, ev_not, List.getElem?_cons_zero, List.getElem?_cons_succ, bind_ok, ofO_some, if_true, ofD_nil, List.append_nil, fl_ok, List.set_cons_zero, List.set_cons_succ, truth_b, Option.map_some, Bool.not_true, Bool.not_false, Bool.false_eq_true, if_false, w3, ev_tup, es, eg2, numD, fzT_d4]
  rfl
end
end G
set_option Elab.async false
set_option linter.all false
set_option maxRecDepth 100000
set_option maxHeartbeats 4000000

/-! H2: all ways, ways from spots, ways to touches, by the program -/
namespace G
open PySem PySem.Spec L2 PyProof.Rows
set_option autoImplicit false

section
variable {m : Mach} {s : Spot}
theorem pu_fr {α : Type} {r : Out α} {S : Sto} {x : α} (h : Pu r S x) : ∃ V, r = .ok x V ∧ Fr S.length S V := by
  obtain ⟨T, e⟩ := h
  exact ⟨S ++ T, e, (Fr.refl _ _).app (Nat.le_refl _) T⟩
/-- sorted lists without repeats that have the same members are one -/
theorem alike_way (a b : Spot) : PySem.W.alike (wayD m a) (wayD m b) = true := by
  have h := al_s a b
  unfold wayD
  simp only [PySem.W.alike, PySem.W.alikeAll, h, Bool.and_true, Bool.and_self]
theorem sortOk_ways (l : List Spot) (hl : l.length ≤ 1000) : sortOk (l.map (wayD m)) = true := by
  unfold sortOk alikeOk szOk
  simp only [Bool.and_eq_true, List.all_eq_true, Bool.or_eq_true, decide_eq_true_eq]
  refine ⟨⟨⟨fun d hd e he => ?_, fun d hd => ?_⟩, .inl fun d hd => ?_⟩, by rw [List.length_map]; omega⟩
  · obtain ⟨a, _, rfl⟩ := List.mem_map.mp hd
    obtain ⟨b, _, rfl⟩ := List.mem_map.mp he
    exact alike_way a b
  · obtain ⟨a, _, rfl⟩ := List.mem_map.mp hd
    exact ⟨rfl, by show 2 ≤ 60; decide⟩
  · obtain ⟨a, _, rfl⟩ := List.mem_map.mp hd
    rfl
theorem ways_srt (m : Mach) : ∃ us : List Spot, us.Perm (spotsOf m.ts) ∧ srt ((spotsOf m.ts).map (wayD m)) = us.map (wayD m) :=
  perm_map (wayD m) (List.mergeSort_perm _ _) (spotsOf m.ts) rfl
noncomputable def usW (m : Mach) : List Spot := (ways_srt m).choose
theorem usW_perm (m : Mach) : (usW m).Perm (spotsOf m.ts) := (ways_srt m).choose_spec.1
theorem usW_srt (m : Mach) : srt ((spotsOf m.ts).map (wayD m)) = (usW m).map (wayD m) := (ways_srt m).choose_spec.2
theorem usW_in {m : Mach} {s : Spot} (h : s ∈ usW m) : s ∈ spotsOf m.ts := (usW_perm m).mem_iff.mp h
theorem usW_len (ok : Ok m) : (usW m).length ≤ 16 := by
  have h8 := ok.l8
  have := spots_len m.ts
  rw [(usW_perm m).length_eq]
  omega
noncomputable def wsD (m : Mach) : PyData := .tuple ((usW m).map (wayD m))
theorem ways_lc (ok : Ok m) {i vi : Nat} {e : Fe W} {vs : List Nat} {ρ : Slt} {S : Sto} {n : Nat} (ht : Tab S n (numD m) (spotsOf m.ts)) (hρ : fVar i ρ S = .ok (.o n) S)
    (hg : ∀ s ∈ spotsOf m.ts, ∃ ρ1, (∀ V, gNm vi (.d (sD s)) (wipeR ρ vs) V = some ρ1) ∧ ∀ V, Tab V n (numD m) (spotsOf m.ts) → e ρ1 V = .ok (.d (wayD m s)) V) :
    ∃ V', fLc (fKeysX (fVar i)) (gNm vi) fYes e vs ρ S = .ok (.o S.length) V' ∧ (S.length < V'.length ∧ ∀ j, j < S.length → j ≠ n → V'[j]? = S[j]?) ∧ Tab V' n (numD m) (spotsOf m.ts) ∧ V'[S.length]? = some (.lst (((spotsOf m.ts).map (wayD m)).map W.d)) := by
  have h8 := ok.l8
  have hsl := spots_len m.ts
  obtain ⟨U, k1, k2, k3, k4⟩ := ht.keys
  have hn := ht.lt
  have e0 := k1 (fVar i) ρ S hρ
  obtain ⟨V', e1, ⟨i1, i2, i3⟩, l1, n1⟩ := lc_yes (f := fKeysX (fVar i)) (g := gNm vi) (e := e) (vs := vs) (ρ := ρ) (S := S) (S0 := U) (ds := spotsOf m.ts) (mk := sD) (wayD m) (fun V => (∀ j, j < S.length → j ≠ n → V[j]? = S[j]?) ∧ Tab V n (numD m) (spotsOf m.ts) ∧ S.length ≤ V.length) e0 (by omega)
    (fun V x hV hl => ⟨fun j h1 h2 => by rw [List.getElem?_set_ne (by omega)]; exact hV.1 j h1 h2, hV.2.1.keep (List.getElem?_set_ne (by omega)), by rw [List.length_set]; exact hV.2.2⟩)
    ⟨fun j h1 h2 => by rw [List.getElem?_append_left (by omega)]; exact k4 j h2, k2.app _, by simp; omega⟩
    (fun s hs => by
      obtain ⟨ρ1, a, b⟩ := hg s hs
      exact ⟨ρ1, a, fun V hV hl => ⟨V, b V hV.2.1, hV, Nat.le_refl _, rfl⟩⟩)
  rw [k3] at e1 l1 n1
  exact ⟨V', e1, ⟨l1, i1⟩, i2, n1⟩
theorem r_own_web (ok : Ok m) (S : Sto) : ∃ V, R_own_web [.d (mD m)] S = .ok (.d (wsD m)) V ∧ Fr S.length S V := by
  have h8 := ok.l8
  have hsl := spots_len m.ts
  have e1 := r_touches_at ok S
  obtain ⟨V1, hV1⟩ : ∃ V1, V1 = S ++ [Cell.dix (tabL (numD m) (spotsOf m.ts))] := ⟨_, rfl⟩
  rw [← hV1] at e1
  have l1 : V1.length = S.length + 1 := by rw [hV1]; simp
  have t1 : Tab V1 S.length (numD m) (spotsOf m.ts) := by rw [hV1]; exact tab_d (get_len_app _ _ _)
  obtain ⟨V2, e2, ⟨l2, q2⟩, t2, n2⟩ := ways_lc ok (i := 1) (vi := 2) (e := fCall 3 [] R_own_way (fCons (fVar 0) (fCons (fVar 1) (fCons (fVar 2) fNil)))) (vs := [2]) (ρ := [some (.d (mD m)), some (.o S.length), none]) t1 rfl
    (fun s hs => ⟨_, fun V => rfl, fun V hV => by
      have e := r_own_way ok hs hV
      simp only [wipeR, startR, List.map_cons, List.map_nil, List.length_cons, List.length_nil, Nat.zero_add, Nat.reduceAdd, Nat.reduceSub, List.replicate, List.cons_append, List.nil_append, st_seq, st_set, st_ret, st_if, st_exp, st_par, st_skip, ev_call, ev_cons, ev_nil, ev_var, ev_c, ev_op2, ev_tru, ev_or, ev_and, ev_not, List.getElem?_cons_zero, List.getElem?_cons_succ, bind_ok, ofO_some, if_true, ofD_nil, List.append_nil, fl_ok, List.set_cons_zero, List.set_cons_succ, truth_b, Option.map_some, Bool.not_true, Bool.not_false, Bool.false_eq_true, if_false, e]⟩)
  have e3 := gSort_o n2 (sortOk_ways _ (by omega))
  rw [usW_srt] at e3
  have e4 : gTuple [.o V2.length] (V2 ++ [.lst (((usW m).map (wayD m)).map W.d)]) = some (.d (wsD m), V2 ++ [.lst (((usW m).map (wayD m)).map W.d)]) := gTuple_o (get_len_app _ _ _)
  have f2 : Fr S.length S V2 := ⟨by omega, fun j hj => by rw [q2 j (by omega) (by omega), hV1, List.getElem?_append_left hj]⟩
  refine ⟨V2 ++ [.lst (((usW m).map (wayD m)).map W.d)], ?_, f2.app (Nat.le_refl _) _⟩
  unfold R_own_web runB B_own_web
  simp only [startR, List.map_cons, List.map_nil, List.length_cons, List.length_nil, Nat.zero_add, Nat.reduceAdd, Nat.reduceSub, List.replicate, List.cons_append, List.nil_append, st_seq, st_set, st_ret, st_if, st_exp, st_par, st_skip, ev_call, ev_cons, ev_nil, ev_var, ev_c, ev_op2, ev_tru, ev_or, ev_and, ev_not, List.getElem?_cons_zero, List.getElem?_cons_succ, bind_ok, ofO_some, if_true, ofD_nil, List.append_nil, fl_ok, List.set_cons_zero, List.set_cons_succ, truth_b, Option.map_some, Bool.not_true, Bool.not_false, Bool.false_eq_true, if_false, e1, ev_cb, ev_sort, e2, e3, e4]
theorem r_web (ok : Ok m) (S : Sto) : ∃ V, R_web [.d (mD m)] S = .ok (.d (wsD m)) V ∧ Fr S.length S V := by
  obtain ⟨V1, e1, f1⟩ := pu_fr (r_need_machine ok S)
  obtain ⟨V2, e2, f2⟩ := r_own_web ok V1
  refine ⟨V2, ?_, f1.trans (f2.weak f1.le)⟩
  unfold R_web runB B_web
  simp only [startR, List.map_cons, List.map_nil, List.length_cons, List.length_nil, Nat.zero_add, Nat.reduceAdd, Nat.reduceSub, List.replicate, List.cons_append, List.nil_append, st_seq, st_set, st_ret, st_if, st_exp, st_par, st_skip, ev_call, ev_cons, ev_nil, ev_var, ev_c, ev_op2, ev_tru, ev_or, ev_and, ev_not, List.getElem?_cons_zero, List.getElem?_cons_succ, bind_ok, ofO_some, if_true, ofD_nil, List.append_nil, fl_ok, List.set_cons_zero, List.set_cons_succ, truth_b, Option.map_some, Bool.not_true, Bool.not_false, Bool.false_eq_true, if_false, e1, e2]
theorem r_need_spot (ho : okS m.cs s) (S : Sto) : R_need_spot [.d (mD m), .d (sD s)] S = .ok (.d .none) S := by
  unfold R_need_spot runB B_need_spot
  simp only [startR, List.map_cons, List.map_nil, List.length_cons, List.length_nil, Nat.zero_add, Nat.reduceAdd, Nat.reduceSub, List.replicate, List.cons_append, List.nil_append, st_seq, st_set, st_ret, st_if, st_exp, st_par, st_skip, ev_call, ev_cons, ev_nil, ev_var, ev_c, ev_op2, ev_tru, ev_or, ev_and, ev_not, List.getElem?_cons_zero, List.getElem?_cons_succ, bind_ok, ofO_some, if_true, ofD_nil, List.append_nil, fl_ok, List.set_cons_zero, List.set_cons_succ, truth_b, Option.map_some, Bool.not_true, Bool.not_false, Bool.false_eq_true, if_false, ix_m0, r_is_spot ho]
theorem r_way_from (ok : Ok m) (hs : s ∈ spotsOf m.ts) (S : Sto) : ∃ V, R_way_from [.d (mD m), .d (sD s)] S = .ok (.d (wayD m s)) V ∧ Fr S.length S V := by
  obtain ⟨V1, e1, f1⟩ := pu_fr (r_need_machine ok S)
  have e2 := r_need_spot (spot_ok ok hs) V1
  have e3 := r_touches_at ok V1
  obtain ⟨V2, hV2⟩ : ∃ V2, V2 = V1 ++ [Cell.dix (tabL (numD m) (spotsOf m.ts))] := ⟨_, rfl⟩
  rw [← hV2] at e3
  have t2 : Tab V2 V1.length (numD m) (spotsOf m.ts) := by rw [hV2]; exact tab_d (get_len_app _ _ _)
  have e4 := r_own_way ok hs t2
  have i1 := t2.nis s
  rw [decide_eq_false (fun z => z hs)] at i1
  refine ⟨V2, ?_, f1.trans (by rw [hV2]; exact ((Fr.refl _ _).app (Nat.le_refl _) _).weak f1.le)⟩
  unfold R_way_from runB B_way_from
  simp only [startR, List.map_cons, List.map_nil, List.length_cons, List.length_nil, Nat.zero_add, Nat.reduceAdd, Nat.reduceSub, List.replicate, List.cons_append, List.nil_append, st_seq, st_set, st_ret, st_if, st_exp, st_par, st_skip, ev_call, ev_cons, ev_nil, ev_var, ev_c, ev_op2, ev_tru, ev_or, ev_and, ev_not, List.getElem?_cons_zero, List.getElem?_cons_succ, bind_ok, ofO_some, if_true, ofD_nil, List.append_nil, fl_ok, List.set_cons_zero, List.set_cons_succ, truth_b, Option.map_some, Bool.not_true, Bool.not_false, Bool.false_eq_true, if_false, e1, e2, e3, i1, e4]
theorem r_way_free (ok : Ok m) (ho : okS m.cs s) (hs : s ∉ spotsOf m.ts) (S : Sto) : ∃ V, R_way_from [.d (mD m), .d (sD s)] S = .ex ⟨1, []⟩ V ∧ Fr S.length S V := by
  obtain ⟨V1, e1, f1⟩ := pu_fr (r_need_machine ok S)
  have e2 := r_need_spot ho V1
  have e3 := r_touches_at ok V1
  obtain ⟨V2, hV2⟩ : ∃ V2, V2 = V1 ++ [Cell.dix (tabL (numD m) (spotsOf m.ts))] := ⟨_, rfl⟩
  rw [← hV2] at e3
  have t2 : Tab V2 V1.length (numD m) (spotsOf m.ts) := by rw [hV2]; exact tab_d (get_len_app _ _ _)
  have i1 := t2.nis s
  rw [decide_eq_true hs] at i1
  refine ⟨V2, ?_, f1.trans (by rw [hV2]; exact ((Fr.refl _ _).app (Nat.le_refl _) _).weak f1.le)⟩
  unfold R_way_from runB B_way_from
  simp only [startR, List.map_cons, List.map_nil, List.length_cons, List.length_nil, Nat.zero_add, Nat.reduceAdd, Nat.reduceSub, List.replicate, List.cons_append, List.nil_append, st_seq, st_set, st_ret, st_if, st_exp, st_par, st_skip, ev_call, ev_cons, ev_nil, ev_var, ev_c, ev_op2, ev_tru, ev_or, ev_and, ev_not, List.getElem?_cons_zero, List.getElem?_cons_succ, bind_ok, ofO_some, if_true, ofD_nil, List.append_nil, fl_ok, List.set_cons_zero, List.set_cons_succ, truth_b, Option.map_some, Bool.not_true, Bool.not_false, Bool.false_eq_true, if_false, e1, e2, e3, i1]
  rfl
/-- the ways that come to a touch -/
noncomputable def wtD (m : Mach) (k : Nat) : PyData := .tuple (((usW m).filter fun s => decide (nx m s = k)).map (wayD m))
theorem r_ways_to (ok : Ok m) {k : Nat} (hk : k < m.ts.length) (S : Sto) : ∃ V, R_ways_to [.d (mD m), .d (.int (k : Nat))] S = .ok (.d (wtD m k)) V ∧ Fr S.length S V := by
  obtain ⟨V1, e1, f1⟩ := pu_fr (r_need_machine ok S)
  obtain ⟨V2, e2, f2⟩ := r_own_web ok V1
  have hl := usW_len ok
  have e4 : ∀ S, gLen [.d (tsD m.ts)] S = some (.d (.int (m.ts.length : Nat)), S) := fun S => by unfold tsD; rw [len_t, List.length_map]
  have a1 : (0 : Int) ≤ (k : Int) := by omega
  have a2 : (k : Int) < (m.ts.length : Int) := by omega
  have eI : itemsOf (.d (wsD m)) V2 = some ((usW m).map (wayD m), V2) := rfl
  obtain ⟨V3, e3, f3, _⟩ := tup_gen (f := fIt (fCall 1 [] R_own_web (fCons (fVar 0) fNil))) (g := gNm 2) (t := fTru (fOp2 (dEq false) (fOp2 gIx (fVar 2) (fC (.d (.int 2)))) (fVar 1))) (e := fVar 2) (vs := [2]) (ρ := [some (.d (mD m)), some (.d (.int (k : Nat))), none]) (S := V1) (S0 := V2) (ds := usW m) (mk := wayD m)
    (fun s => decide (nx m s = k)) (wayD m) (Fr V1.length V1) (by
      simp only [it_ev, startR, List.map_cons, List.map_nil, List.length_cons, List.length_nil, Nat.zero_add, Nat.reduceAdd, Nat.reduceSub, List.replicate, List.cons_append, List.nil_append, st_seq, st_set, st_ret, st_if, st_exp, st_par, st_skip, ev_call, ev_cons, ev_nil, ev_var, ev_c, ev_op2, ev_tru, ev_or, ev_and, ev_not, List.getElem?_cons_zero, List.getElem?_cons_succ, bind_ok, ofO_some, if_true, ofD_nil, List.append_nil, fl_ok, List.set_cons_zero, List.set_cons_succ, truth_b, Option.map_some, Bool.not_true, Bool.not_false, Bool.false_eq_true, if_false, e2, eI]) (by omega) (fun V x hV hl => hV.set (by have := f2.le; omega) x) (f2.app (Nat.le_refl _) _)
    (fun s hs => ⟨_, fun V => rfl, fun V hV hl => ⟨V, by
      simp only [wipeR, startR, List.map_cons, List.map_nil, List.length_cons, List.length_nil, Nat.zero_add, Nat.reduceAdd, Nat.reduceSub, List.replicate, List.cons_append, List.nil_append, st_seq, st_set, st_ret, st_if, st_exp, st_par, st_skip, ev_call, ev_cons, ev_nil, ev_var, ev_c, ev_op2, ev_tru, ev_or, ev_and, ev_not, List.getElem?_cons_zero, List.getElem?_cons_succ, bind_ok, ofO_some, if_true, ofD_nil, List.append_nil, fl_ok, List.set_cons_zero, List.set_cons_succ, truth_b, Option.map_some, Bool.not_true, Bool.not_false, Bool.false_eq_true, if_false, ix_way2, eq_int]
      congr 1
      unfold nx
      exact decide_eq_decide.mpr (by omega), hV, Nat.le_refl _, rfl, fun _ => ⟨V, rfl, hV, Nat.le_refl _, rfl⟩⟩⟩)
  refine ⟨V3, ?_, f1.trans (f3.weak f1.le)⟩
  unfold R_ways_to runB B_ways_to
  simp [startR, e1, e4, a1, a2]
  rw [e3]
  rfl
end
end G
set_option Elab.async false
set_option linter.all false
set_option maxRecDepth 100000
set_option maxHeartbeats 4000000

/-! H3: rows of wheels, joined touch by touch, are the lots -/
namespace G
open PySem PySem.Spec L2 PyProof.Rows
set_option autoImplicit false

theorem inc_uniq : ∀ {a b : List Nat}, a.Pairwise (· < ·) → b.Pairwise (· < ·) → (∀ x, x ∈ a ↔ x ∈ b) → a = b
  | [], [], _, _, _ => rfl
  | [], b :: bs, _, _, h => absurd ((h b).mpr (by simp)) (by simp)
  | a :: as, [], _, _, h => absurd ((h a).mp (by simp)) (by simp)
  | a :: as, b :: bs, h1, h2, h => by
    rw [List.pairwise_cons] at h1 h2
    have e : a = b := by
      have m1 := (h a).mp (by simp)
      have m2 := (h b).mpr (by simp)
      rcases List.mem_cons.mp m1 with k | k
      · exact k
      · rcases List.mem_cons.mp m2 with k2 | k2
        · exact k2.symm
        · have := h1.1 b k2
          have := h2.1 a k
          omega
    subst e
    rw [inc_uniq h1.2 h2.2 fun x => ?_]
    constructor
    · intro hx
      rcases List.mem_cons.mp ((h x).mp (by simp [hx])) with k | k
      · have := h1.1 x hx
        omega
      · exact k
    · intro hx
      rcases List.mem_cons.mp ((h x).mpr (by simp [hx])) with k | k
      · have := h2.1 x hx
        omega
      · exact k
section
variable {n : Nat} {ts : List Tch}
def blk (n : Nat) (ts : List Tch) (w : Nat) : List Nat := lotL n (lowsP n ts) (lv (lowsP n ts) w)
theorem blk_pw (w : Nat) : (blk n ts w).Pairwise (· < ·) := (List.pairwise_lt_range).filter _
theorem blk_mem (hts : ∀ t ∈ ts, t.1.1 < n ∧ t.2.1 < n) {w v : Nat} (hw : w < n) : v ∈ blk n ts w ↔ v < n ∧ Con ts v w := by
  unfold blk
  rw [lotL_mem]
  constructor
  · rintro ⟨h1, h2⟩
    exact ⟨h1, ((lst_fold hts).iff h1 hw).mp h2⟩
  · rintro ⟨h1, h2⟩
    exact ⟨h1, ((lst_fold hts).iff h1 hw).mpr h2⟩
theorem blk_eq (hts : ∀ t ∈ ts, t.1.1 < n ∧ t.2.1 < n) {w v : Nat} (hw : w < n) (hv : v < n) (c : Con ts v w) : blk n ts v = blk n ts w := inc_uniq (blk_pw _) (blk_pw _) fun x => by
  rw [blk_mem hts hv, blk_mem hts hw]
  exact ⟨fun h => ⟨h.1, h.2.trans c⟩, fun h => ⟨h.1, h.2.trans c.symm⟩⟩
theorem con_app {t : Tch} {v w : Nat} : Con (ts ++ [t]) v w ↔ Con ts v w ∨ (Con ts v t.1.1 ∧ Con ts t.2.1 w) ∨ (Con ts v t.2.1 ∧ Con ts t.1.1 w) := by
  constructor
  · intro h
    induction h with
    | refl => exact .inl (.refl _)
    | one u hu _ ih =>
      rcases List.mem_append.mp hu with k | k
      · rcases ih with i | ⟨i, j⟩ | ⟨i, j⟩
        · exact .inl (.one u k i)
        · exact .inr (.inl ⟨i, .one u k j⟩)
        · exact .inr (.inr ⟨i, .one u k j⟩)
      · rw [List.mem_singleton.mp k] at ih ⊢
        rcases ih with i | ⟨i, j⟩ | ⟨i, j⟩
        · exact .inr (.inl ⟨i, .refl _⟩)
        · exact .inl (i.trans j.symm)
        · exact .inl i
    | two u hu _ ih =>
      rcases List.mem_append.mp hu with k | k
      · rcases ih with i | ⟨i, j⟩ | ⟨i, j⟩
        · exact .inl (.two u k i)
        · exact .inr (.inl ⟨i, .two u k j⟩)
        · exact .inr (.inr ⟨i, .two u k j⟩)
      · rw [List.mem_singleton.mp k] at ih ⊢
        rcases ih with i | ⟨i, j⟩ | ⟨i, j⟩
        · exact .inr (.inr ⟨i, .refl _⟩)
        · exact .inl i
        · exact .inl (i.trans j.symm)
  · have up : ∀ {x y}, Con ts x y → Con (ts ++ [t]) x y := fun h => h.mono fun u hu => List.mem_append_left _ hu
    have ed : Con (ts ++ [t]) t.1.1 t.2.1 := .one t (by simp) (.refl _)
    rintro (h | ⟨h, k⟩ | ⟨h, k⟩)
    · exact up h
    · exact ((up h).trans ed).trans (up k)
    · exact ((up h).trans ed.symm).trans (up k)
structure Jr (n : Nat) (ts : List Tch) (rows : List (List Nat)) : Prop where
  nd : rows.Nodup
  mem : ∀ r, r ∈ rows ↔ ∃ w, w < n ∧ r = blk n ts w
theorem jr_start (n : Nat) : Jr n [] ((List.range n).map fun k => [k]) := by
  have hb : ∀ w, w < n → blk n [] w = [w] := fun w hw => inc_uniq (blk_pw _) (by simp) fun x => by
    rw [blk_mem (by intro t ht; cases ht) hw]
    constructor
    · rintro ⟨h1, h2⟩
      have : x = w := by
        have l := (lst_range n)
        have e := (l.iff h1 hw).mpr h2
        have lx : ∀ y, y < n → lv (List.range n) y = y := fun y hy => by
          unfold lv
          rw [List.getD_eq_getElem?_getD, List.getElem?_range hy]
          rfl
        rw [lx x h1, lx w hw] at e
        exact e
      simp [this]
    · intro h
      have : x = w := by simpa using h
      subst this
      exact ⟨hw, ((lst_range n).iff hw hw).mp rfl⟩
  refine ⟨?_, fun r => ?_⟩
  · refine List.Pairwise.map _ (fun a b h => ?_) List.nodup_range
    intro z
    cases z
    exact h rfl
  · rw [List.mem_map]
    constructor
    · rintro ⟨k, hk, rfl⟩
      exact ⟨k, List.mem_range.mp hk, (hb k (List.mem_range.mp hk)).symm⟩
    · rintro ⟨w, hw, rfl⟩
      exact ⟨w, List.mem_range.mpr hw, (hb w hw).symm⟩
def someR (a b : Nat) (rows : List (List Nat)) : List (List Nat) := rows.filter fun r => decide (a ∈ r ∨ b ∈ r)
theorem jr_some (hts : ∀ t ∈ ts, t.1.1 < n ∧ t.2.1 < n) {rows : List (List Nat)} (J : Jr n ts rows) {a b : Nat} (ha : a < n) (hb : b < n) (r : List Nat) : r ∈ someR a b rows ↔ r = blk n ts a ∨ r = blk n ts b := by
  unfold someR
  rw [List.mem_filter, J.mem, decide_eq_true_iff]
  constructor
  · rintro ⟨⟨w, hw, rfl⟩, h⟩
    rw [blk_mem hts hw, blk_mem hts hw] at h
    rcases h with h | h
    · exact .inl (blk_eq hts ha hw h.2.symm)
    · exact .inr (blk_eq hts hb hw h.2.symm)
  · rintro (rfl | rfl)
    · exact ⟨⟨a, ha, rfl⟩, .inl ((blk_mem hts ha).mpr ⟨ha, ((lst_fold hts).iff ha ha).mp rfl⟩)⟩
    · exact ⟨⟨b, hb, rfl⟩, .inr ((blk_mem hts hb).mpr ⟨hb, ((lst_fold hts).iff hb hb).mp rfl⟩)⟩
theorem jr_flat (hts : ∀ t ∈ ts, t.1.1 < n ∧ t.2.1 < n) {rows : List (List Nat)} (J : Jr n ts rows) {p : List Nat → Bool} : (rows.filter p).flatten.Nodup := by
  refine List.pairwise_flatten.mpr ⟨fun l hl => ?_, ?_⟩
  · obtain ⟨w, _, rfl⟩ := (J.mem l).mp (List.mem_filter.mp hl).1
    exact (blk_pw w).imp fun h => Nat.ne_of_lt h
  · refine List.Pairwise.imp_of_mem ?_ (J.nd.filter p)
    intro x y hx hy hne z hz1 z' hz2' ez
    have hz2 : z ∈ y := by rw [ez]; exact hz2'
    obtain ⟨w, hw, rfl⟩ := (J.mem x).mp (List.mem_filter.mp hx).1
    obtain ⟨v, hv, rfl⟩ := (J.mem y).mp (List.mem_filter.mp hy).1
    have c1 := (blk_mem hts hw).mp hz1
    have c2 := (blk_mem hts hv).mp hz2
    exact hne (blk_eq hts hv hw (c1.2.symm.trans c2.2))
theorem jr_step (hts : ∀ t ∈ ts, t.1.1 < n ∧ t.2.1 < n) {rows : List (List Nat)} (J : Jr n ts rows) {t : Tch} (ha : t.1.1 < n) (hb : t.2.1 < n) {us : List Nat} (hu : us.Perm (someR t.1.1 t.2.1 rows).flatten) (hp : us.Pairwise (· < ·)) :
    Jr n (ts ++ [t]) (rows.filter (fun r => !decide (r ∈ someR t.1.1 t.2.1 rows)) ++ [us]) := by
  have hts' : ∀ u ∈ ts ++ [t], u.1.1 < n ∧ u.2.1 < n := fun u hu => by
    rcases List.mem_append.mp hu with h | h
    · exact hts u h
    · rw [List.mem_singleton.mp h]; exact ⟨ha, hb⟩
  have rf : ∀ {w}, w < n → Con ts w w := fun hw => ((lst_fold hts).iff hw hw).mp rfl
  have rf' : ∀ {w}, w < n → Con (ts ++ [t]) w w := fun hw => ((lst_fold hts').iff hw hw).mp rfl
  have mu : ∀ v, v ∈ us ↔ v < n ∧ (Con ts v t.1.1 ∨ Con ts v t.2.1) := fun v => by
    rw [hu.mem_iff, List.mem_flatten]
    constructor
    · rintro ⟨l, hl, hv⟩
      rcases (jr_some hts J ha hb l).mp hl with rfl | rfl
      · have := (blk_mem hts ha).mp hv
        exact ⟨this.1, .inl this.2⟩
      · have := (blk_mem hts hb).mp hv
        exact ⟨this.1, .inr this.2⟩
    · rintro ⟨h1, h2 | h2⟩
      · exact ⟨_, (jr_some hts J ha hb _).mpr (.inl rfl), (blk_mem hts ha).mpr ⟨h1, h2⟩⟩
      · exact ⟨_, (jr_some hts J ha hb _).mpr (.inr rfl), (blk_mem hts hb).mpr ⟨h1, h2⟩⟩
  have eu : us = blk n (ts ++ [t]) t.1.1 := inc_uniq hp (blk_pw _) fun v => by
    rw [mu, blk_mem hts' ha, con_app]
    constructor
    · rintro ⟨h1, h2 | h2⟩
      · exact ⟨h1, .inl h2⟩
      · exact ⟨h1, .inr (.inr ⟨h2, rf ha⟩)⟩
    · rintro ⟨h1, h2 | ⟨h2, _⟩ | ⟨h2, _⟩⟩
      · exact ⟨h1, .inl h2⟩
      · exact ⟨h1, .inl h2⟩
      · exact ⟨h1, .inr h2⟩
  have far : ∀ {w}, w < n → ¬ Con ts w t.1.1 → ¬ Con ts w t.2.1 → blk n ts w = blk n (ts ++ [t]) w := fun hw n1 n2 => inc_uniq (blk_pw _) (blk_pw _) fun v => by
    rw [blk_mem hts hw, blk_mem hts' hw, con_app]
    constructor
    · exact fun h => ⟨h.1, .inl h.2⟩
    · rintro ⟨h1, h2 | ⟨_, h2⟩ | ⟨_, h2⟩⟩
      · exact ⟨h1, h2⟩
      · exact absurd h2.symm n2
      · exact absurd h2.symm n1
  have nin : ∀ {w}, w < n → (blk n ts w ∉ someR t.1.1 t.2.1 rows ↔ ¬ Con ts w t.1.1 ∧ ¬ Con ts w t.2.1) := fun {w} hw => by
    rw [jr_some hts J ha hb]
    constructor
    · exact fun h => ⟨fun c => h (.inl (blk_eq hts ha hw c)), fun c => h (.inr (blk_eq hts hb hw c))⟩
    · rintro ⟨n1, n2⟩ (h | h)
      · have : w ∈ blk n ts t.1.1 := by rw [← h]; exact (blk_mem hts hw).mpr ⟨hw, rf hw⟩
        exact n1 ((blk_mem hts ha).mp this).2
      · have : w ∈ blk n ts t.2.1 := by rw [← h]; exact (blk_mem hts hw).mpr ⟨hw, rf hw⟩
        exact n2 ((blk_mem hts hb).mp this).2
  have fm : ∀ r, r ∈ rows.filter (fun r => !decide (r ∈ someR t.1.1 t.2.1 rows)) ↔ ∃ w, w < n ∧ r = blk n ts w ∧ ¬ Con ts w t.1.1 ∧ ¬ Con ts w t.2.1 := fun r => by
    rw [List.mem_filter, J.mem]
    simp only [Bool.not_eq_true', decide_eq_false_iff_not]
    constructor
    · rintro ⟨⟨w, hw, rfl⟩, h⟩
      exact ⟨w, hw, rfl, (nin hw).mp h⟩
    · rintro ⟨w, hw, rfl, h⟩
      exact ⟨⟨w, hw, rfl⟩, (nin hw).mpr h⟩
  refine ⟨?_, fun r => ?_⟩
  · rw [List.nodup_append]
    refine ⟨J.nd.filter _, by simp, fun x hx y hy z => ?_⟩
    have hy' : y = us := by simpa using hy
    obtain ⟨w, hw, e, n1, n2⟩ := (fm x).mp hx
    have : t.1.1 ∈ blk n ts w := by
      rw [← e, z, hy']
      exact (mu _).mpr ⟨ha, .inl (rf ha)⟩
    exact n1 ((blk_mem hts hw).mp this).2.symm
  · rw [List.mem_append, fm, List.mem_singleton]
    constructor
    · rintro (⟨w, hw, rfl, n1, n2⟩ | rfl)
      · exact ⟨w, hw, far hw n1 n2⟩
      · exact ⟨_, ha, eu⟩
    · rintro ⟨w, hw, rfl⟩
      by_cases c1 : Con ts w t.1.1
      · exact .inr (by rw [eu]; exact blk_eq hts' ha hw (con_app.mpr (.inl c1)))
      · by_cases c2 : Con ts w t.2.1
        · exact .inr (by rw [eu]; exact blk_eq hts' ha hw (con_app.mpr (.inr (.inr ⟨c2, rf ha⟩))))
        · exact .inl ⟨w, hw, (far hw c1 c2).symm, c1, c2⟩
end
end G
set_option Elab.async false
set_option linter.all false
set_option maxRecDepth 100000
set_option maxHeartbeats 4000000

/-! H4: rows sorted -/
namespace G
open PySem PySem.Spec L2 PyProof.Rows
set_option autoImplicit false

theorem dle_n (a b : Nat) : PySem.W.dataLe false id (.int (a : Nat)) (.int (b : Nat)) = decide (a ≤ b) := by
  show (!PySem.W.dataLt (.int (b : Nat)) (.int (a : Nat))) = decide (a ≤ b)
  rw [PySem.W.dataLt_int, ← decide_not]
  exact decide_eq_decide.mpr (by omega)
theorem srt_nat (l : List Nat) (hnd : l.Nodup) : ∃ us : List Nat, srt (nD l) = nD us ∧ us.Perm l ∧ us.Pairwise (· < ·) := by
  refine ⟨l.mergeSort (fun a b => decide (a ≤ b)), ?_, List.mergeSort_perm _ _, ?_⟩
  · unfold srt nD
    rw [List.map_mergeSort (s := PySem.W.dataLe false id)]
    intro a _ b _
    exact (dle_n a b).symm
  · have h1 := List.pairwise_mergeSort (le := fun a b : Nat => decide (a ≤ b)) (fun a b c h1 h2 => by
      rw [decide_eq_true_iff] at h1 h2 ⊢
      omega) (fun a b => by
      rcases Nat.le_total a b with h | h <;> simp [h]) l
    have h2 : (l.mergeSort fun a b => decide (a ≤ b)).Nodup := (List.mergeSort_perm l _).nodup_iff.mpr hnd
    refine (List.Pairwise.and h1 h2).imp ?_
    rintro a b ⟨h3, h4⟩
    rw [decide_eq_true_iff] at h3
    omega
theorem same_le {α : Type} {le : α → α → Bool} : ∀ {l l' : List α}, l.Perm l' → l.Pairwise (fun a b => le a b = true) → l'.Pairwise (fun a b => le a b = true) → (∀ a ∈ l', ∀ b ∈ l', le a b = true → le b a = true → a = b) → l = l'
  | [], l', p, _, _, _ => (List.nil_perm.mp p).symm
  | a :: l, l', p, h1, h2, h3 => by
    cases l' with
    | nil => exact absurd p.length_eq (by simp)
    | cons b l' =>
      rw [List.pairwise_cons] at h1 h2
      have ma : a ∈ b :: l' := p.mem_iff.mp (by simp)
      have mb : b ∈ a :: l := p.mem_iff.mpr (by simp)
      have e : a = b := by
        rcases List.mem_cons.mp ma with k | k
        · exact k
        · rcases List.mem_cons.mp mb with k2 | k2
          · exact k2.symm
          · exact h3 a ma b (by simp) (h1.1 b k2) (h2.1 a k)
      subst e
      rw [same_le (List.perm_cons a |>.mp p) h1.2 h2.2 fun x hx y hy => h3 x (by simp [hx]) y (by simp [hy])]
section
variable {n : Nat} {ts : List Tch}
theorem blk_head (hts : ∀ t ∈ ts, t.1.1 < n ∧ t.2.1 < n) {w : Nat} (hw : w < n) : ∃ r, blk n ts w = lv (lowsP n ts) w :: r := by
  have L := lst_fold hts
  have hm : lv (lowsP n ts) w ∈ blk n ts w := (blk_mem hts hw).mpr ⟨L.lt hw, (L.con w hw).symm⟩
  cases e : blk n ts w with
  | nil => rw [e] at hm; cases hm
  | cons x r =>
    have pw := blk_pw (n := n) (ts := ts) w
    rw [e] at hm pw
    rw [List.pairwise_cons] at pw
    have hx : x ∈ blk n ts w := by rw [e]; simp
    obtain ⟨h1, h2⟩ := (blk_mem hts hw).mp hx
    have h3 : lv (lowsP n ts) x ≤ x := L.le x h1
    rw [L.same h2] at h3
    rcases List.mem_cons.mp hm with k | k
    · exact ⟨r, by rw [k]⟩
    · have := pw.1 _ k
      omega
theorem lots_mem (hts : ∀ t ∈ ts, t.1.1 < n ∧ t.2.1 < n) (r : List Nat) : r ∈ lotsOf n (lowsP n ts) ↔ ∃ w, w < n ∧ r = blk n ts w := by
  have L := lst_fold hts
  have el : ∀ k : Nat, lotOf n (lowsP n ts) ((k : Nat) : Int) = lotL n (lowsP n ts) k := fun k => by
    unfold lotOf lotL
    refine List.filter_congr fun w _ => ?_
    exact decide_eq_decide.mpr (by omega)
  unfold lotsOf lowsI
  rw [List.mem_map]
  constructor
  · rintro ⟨low, h1, rfl⟩
    rw [sset_mem, List.mem_map] at h1
    obtain ⟨k, hk, rfl⟩ := h1
    obtain ⟨w, hw, e⟩ := List.mem_iff_getElem.mp hk
    have hwn : w < n := by rw [← L.len]; exact hw
    refine ⟨w, hwn, ?_⟩
    rw [el]
    unfold blk
    have : lv (lowsP n ts) w = k := by
      unfold lv
      rw [List.getD_eq_getElem?_getD, List.getElem?_eq_getElem hw, e]
      rfl
    rw [this]
  · rintro ⟨w, hw, rfl⟩
    refine ⟨((lv (lowsP n ts) w : Nat) : Int), ?_, by rw [el]; rfl⟩
    rw [sset_mem, List.mem_map]
    refine ⟨lv (lowsP n ts) w, ?_, rfl⟩
    unfold lv
    rw [List.getD_eq_getElem?_getD, List.getElem?_eq_getElem (by rw [L.len]; exact hw)]
    exact List.getElem_mem _
theorem lots_pw (hts : ∀ t ∈ ts, t.1.1 < n ∧ t.2.1 < n) : (lotsOf n (lowsP n ts)).Pairwise fun a b => a.headD 0 < b.headD 0 := by
  have L := lst_fold hts
  have hd : ∀ low ∈ lowsI (lowsP n ts), (((lotOf n (lowsP n ts) low).headD 0 : Nat) : Int) = low := fun low h1 => by
    unfold lowsI at h1
    rw [sset_mem, List.mem_map] at h1
    obtain ⟨k, hk, rfl⟩ := h1
    obtain ⟨w, hw, e⟩ := List.mem_iff_getElem.mp hk
    have hwn : w < n := by rw [← L.len]; exact hw
    have ek : lv (lowsP n ts) w = k := by
      unfold lv
      rw [List.getD_eq_getElem?_getD, List.getElem?_eq_getElem hw, e]
      rfl
    have el : lotOf n (lowsP n ts) ((k : Nat) : Int) = blk n ts w := by
      unfold lotOf blk lotL
      refine List.filter_congr fun w _ => ?_
      exact decide_eq_decide.mpr (by omega)
    obtain ⟨r, er⟩ := blk_head hts hwn
    rw [el, er, ek]
    rfl
  unfold lotsOf
  rw [List.pairwise_map]
  refine List.Pairwise.imp_of_mem ?_ (sset_pw _)
  intro a b ha hb hab
  have h1 := hd a ha
  have h2 := hd b hb
  omega
theorem dlt_self_n : ∀ a : List Nat, PySem.W.dataLt (wlD a) (wlD a) = false := fun a => PyProof.Rows.lex_irrefl (O := PyProof.Rows.itemOrd) _
theorem dle_heads {x y : Nat} {a b : List Nat} (h : x ≠ y) : PySem.W.dataLe false id (wlD (x :: a)) (wlD (y :: b)) = decide (x ≤ y) := by
  show (!PySem.W.dataLt (wlD (y :: b)) (wlD (x :: a))) = _
  have e : PySem.W.dataLt (wlD (y :: b)) (wlD (x :: a)) = decide (((y : Nat) : Int) < (x : Nat)) := by
    show PyProof.Rows.lexLt PyProof.Rows.itemOrd (Sum.inl 1 :: Sum.inl ((y : Nat) : Int) :: _) (Sum.inl 1 :: Sum.inl ((x : Nat) : Int) :: _) = _
    rw [PyProof.Rows.lex_self (O := PyProof.Rows.itemOrd), PyProof.Rows.lex_diff (O := PyProof.Rows.itemOrd) (x := Sum.inl ((y : Nat) : Int)) (y := Sum.inl ((x : Nat) : Int)) (fun z => h (by have := Sum.inl.inj z; omega))]
    rfl
  rw [e, ← decide_not]
  exact decide_eq_decide.mpr (by omega)
theorem srt_rows (hts : ∀ t ∈ ts, t.1.1 < n ∧ t.2.1 < n) {rows : List (List Nat)} (J : Jr n ts rows) : srt (rows.map wlD) = (lotsOf n (lowsP n ts)).map wlD := by
  have key : ∀ a ∈ rows, ∀ b ∈ rows, decide (a.headD 0 ≤ b.headD 0) = PySem.W.dataLe false id (wlD a) (wlD b) := fun a ha b hb => by
    obtain ⟨w, hw, rfl⟩ := (J.mem a).mp ha
    obtain ⟨v, hv, rfl⟩ := (J.mem b).mp hb
    obtain ⟨r1, e1⟩ := blk_head hts hw
    obtain ⟨r2, e2⟩ := blk_head hts hv
    by_cases h : lv (lowsP n ts) w = lv (lowsP n ts) v
    · have e : blk n ts w = blk n ts v := by unfold blk; rw [h]
      rw [e]
      show _ = !PySem.W.dataLt (wlD (blk n ts v)) (wlD (blk n ts v))
      rw [dlt_self_n]
      simp
    · rw [e1, e2, dle_heads h]
      rfl
  have e0 : srt (rows.map wlD) = (rows.mergeSort fun a b => decide (a.headD 0 ≤ b.headD 0)).map wlD := by
    unfold srt
    rw [List.map_mergeSort (s := PySem.W.dataLe false id)]
    exact key
  rw [e0]
  congr 1
  have pw := lots_pw hts
  have nd : (lotsOf n (lowsP n ts)).Nodup := pw.imp fun h z => by rw [z] at h; exact Nat.lt_irrefl _ h
  have pm : rows.Perm (lotsOf n (lowsP n ts)) := (List.perm_ext_iff_of_nodup J.nd nd).mpr fun r => by rw [J.mem, lots_mem hts]
  refine same_le ((List.mergeSort_perm _ _).trans pm) (List.pairwise_mergeSort (le := fun a b : List Nat => decide (a.headD 0 ≤ b.headD 0)) (fun a b c h1 h2 => by
      rw [decide_eq_true_iff] at h1 h2 ⊢
      omega) (fun a b => by
      rcases Nat.le_total (a.headD 0) (b.headD 0) with h | h <;> simp only [decide_eq_true h, Bool.or_true, Bool.true_or]) rows) (pw.imp fun h => decide_eq_true (Nat.le_of_lt h)) fun a ha b hb h1 h2 => ?_
  rw [decide_eq_true_iff] at h1 h2
  obtain ⟨w, hw, rfl⟩ := (lots_mem hts a).mp ha
  obtain ⟨v, hv, rfl⟩ := (lots_mem hts b).mp hb
  obtain ⟨r1, e1⟩ := blk_head hts hw
  obtain ⟨r2, e2⟩ := blk_head hts hv
  rw [e1, e2] at h1 h2
  have h : lv (lowsP n ts) w = lv (lowsP n ts) v := Nat.le_antisymm h1 h2
  unfold blk
  rw [h]
end
end G
set_option Elab.async false
set_option linter.all false
set_option maxRecDepth 100000
set_option maxHeartbeats 4000000
/-! K1: lists in lists: what they say, how they are frozen -/
namespace G
open PySem PySem.Spec L2 PyProof.Rows
set_option autoImplicit false
/-- what x says in the store -/
def Den (S : Sto) : Nat → W → PyData → Prop
  | _, .d x, y => x = y
  | 0, _, _ => False
  | k + 1, .o n, y => S[n]? = some (.fz y) ∨ ∃ ws ds, S[n]? = some (.lst ws) ∧ y = .list ds ∧ Paired (Den S k) ws ds
  | _ + 1, _, _ => False
/-- .. and all open lists that it reaches are such as p allows -/
def Lay (S : Sto) (p : Nat → Prop) : Nat → W → PyData → Prop
  | _, .d x, y => x = y
  | 0, _, _ => False
  | k + 1, .o n, y => S[n]? = some (.fz y) ∨ ∃ ws ds, p n ∧ S[n]? = some (.lst ws) ∧ y = .list ds ∧ Paired (Lay S p k) ws ds
  | _ + 1, _, _ => False
theorem Paired.det {α β : Type} {F G : α → β → Prop} (h : ∀ a b c, F a b → G a c → b = c) : ∀ {l : List α} {m n : List β}, Paired F l m → Paired G l n → m = n
  | _, _, _, .nil, .nil => rfl
  | _, _, _, .cons a r, .cons b s => by rw [h _ _ _ a b, Paired.det h r s]
theorem den_d (S : Sto) (k : Nat) (x : PyData) : Den S k (.d x) x := by cases k <;> exact rfl
theorem lay_d (S : Sto) (p : Nat → Prop) (k : Nat) (x : PyData) : Lay S p k (.d x) x := by cases k <;> exact rfl
theorem den_dd {S : Sto} {k : Nat} {x y : PyData} (h : Den S k (.d x) y) : x = y := by cases k <;> exact h
theorem lay_dd {S : Sto} {p : Nat → Prop} {k : Nat} {x y : PyData} (h : Lay S p k (.d x) y) : x = y := by cases k <;> exact h
theorem Den.det {S : Sto} : ∀ (k j : Nat) (x : W) (d e : PyData), Den S k x d → Den S j x e → d = e
  | k, j, .d x, d, e, h, g => (den_dd h).symm.trans (den_dd g)
  | 0, _, .o n, _, _, h, _ => h.elim
  | k + 1, 0, .o n, _, _, _, g => g.elim
  | k + 1, j + 1, .o n, d, e, h, g => by
    rcases h with h | ⟨ws, ds, h1, rfl, h2⟩
    · rcases g with g | ⟨ws', ds', g1, rfl, g2⟩
      · rw [h] at g
        cases g
        rfl
      · rw [h] at g1
        cases g1
    · rcases g with g | ⟨ws', ds', g1, rfl, g2⟩
      · rw [h1] at g
        cases g
      · rw [h1] at g1
        cases g1
        rw [Paired.det (fun a b c x y => Den.det k j a b c x y) h2 g2]
  | 0, _, .v _, _, _, h, _ => h.elim
  | _ + 1, _, .v _, _, _, h, _ => h.elim
  | 0, _, .t _, _, _, h, _ => h.elim
  | 0, _, .u _, _, _, h, _ => h.elim
  | 0, _, .u2 _, _, _, h, _ => h.elim
  | 0, _, .w _, _, _, h, _ => h.elim
  | 0, _, .xc _ _ _, _, _, h, _ => h.elim
  | _ + 1, _, .t _, _, _, h, _ => h.elim
  | _ + 1, _, .u _, _, _, h, _ => h.elim
  | _ + 1, _, .u2 _, _, _, h, _ => h.elim
  | _ + 1, _, .w _, _, _, h, _ => h.elim
  | _ + 1, _, .xc _ _ _, _, _, h, _ => h.elim
theorem Lay.den {S : Sto} {p : Nat → Prop} : ∀ {k : Nat} {x : W} {d : PyData}, Lay S p k x d → Den S k x d
  | k, .d x, d, h => by rw [← lay_dd h]; exact den_d S k x
  | 0, .o n, _, h => h.elim
  | k + 1, .o n, d, h => by
    rcases h with h | ⟨ws, ds, _, h1, h2, h3⟩
    · exact .inl h
    · exact .inr ⟨ws, ds, h1, h2, Paired.imp (fun _ _ z => Lay.den z) h3⟩
  | 0, .v _, _, h => h.elim
  | _ + 1, .v _, _, h => h.elim
  | 0, .t _, _, h => h.elim
  | 0, .u _, _, h => h.elim
  | 0, .u2 _, _, h => h.elim
  | 0, .w _, _, h => h.elim
  | 0, .xc _ _ _, _, h => h.elim
  | _ + 1, .t _, _, h => h.elim
  | _ + 1, .u _, _, h => h.elim
  | _ + 1, .u2 _, _, h => h.elim
  | _ + 1, .w _, _, h => h.elim
  | _ + 1, .xc _ _ _, _, h => h.elim
theorem Lay.weak {S : Sto} {p q : Nat → Prop} (hpq : ∀ n, p n → q n) : ∀ {k : Nat} {x : W} {d : PyData}, Lay S p k x d → Lay S q k x d
  | k, .d x, d, h => by rw [← lay_dd h]; exact lay_d S q k x
  | 0, .o n, _, h => h.elim
  | k + 1, .o n, d, h => by
    rcases h with h | ⟨ws, ds, h0, h1, h2, h3⟩
    · exact .inl h
    · exact .inr ⟨ws, ds, hpq _ h0, h1, h2, Paired.imp (fun _ _ z => Lay.weak hpq z) h3⟩
  | 0, .v _, _, h => h.elim
  | _ + 1, .v _, _, h => h.elim
  | 0, .t _, _, h => h.elim
  | 0, .u _, _, h => h.elim
  | 0, .u2 _, _, h => h.elim
  | 0, .w _, _, h => h.elim
  | 0, .xc _ _ _, _, h => h.elim
  | _ + 1, .t _, _, h => h.elim
  | _ + 1, .u _, _, h => h.elim
  | _ + 1, .u2 _, _, h => h.elim
  | _ + 1, .w _, _, h => h.elim
  | _ + 1, .xc _ _ _, _, h => h.elim
theorem Lay.up {S : Sto} {p : Nat → Prop} : ∀ {k : Nat} {x : W} {d : PyData}, Lay S p k x d → Lay S p (k + 1) x d
  | k, .d x, d, h => by rw [← lay_dd h]; exact lay_d S p _ x
  | 0, .o n, _, h => h.elim
  | k + 1, .o n, d, h => by
    rcases h with h | ⟨ws, ds, h0, h1, h2, h3⟩
    · exact .inl h
    · exact .inr ⟨ws, ds, h0, h1, h2, Paired.imp (fun _ _ z => Lay.up z) h3⟩
  | 0, .v _, _, h => h.elim
  | _ + 1, .v _, _, h => h.elim
  | 0, .t _, _, h => h.elim
  | 0, .u _, _, h => h.elim
  | 0, .u2 _, _, h => h.elim
  | 0, .w _, _, h => h.elim
  | 0, .xc _ _ _, _, h => h.elim
  | _ + 1, .t _, _, h => h.elim
  | _ + 1, .u _, _, h => h.elim
  | _ + 1, .u2 _, _, h => h.elim
  | _ + 1, .w _, _, h => h.elim
  | _ + 1, .xc _ _ _, _, h => h.elim
theorem Lay.lt {S : Sto} {p : Nat → Prop} : ∀ {k : Nat} {x : W} {d : PyData}, Lay S p k x d → Lay S (fun m => p m ∧ m < S.length) k x d
  | k, .d x, d, h => by rw [← lay_dd h]; exact lay_d S _ k x
  | 0, .o n, _, h => h.elim
  | k + 1, .o n, d, h => by
    rcases h with h | ⟨ws, ds, h0, h1, h2, h3⟩
    · exact .inl h
    · exact .inr ⟨ws, ds, ⟨h0, (List.getElem?_eq_some_iff.mp h1).1⟩, h1, h2, Paired.imp (fun _ _ z => Lay.lt z) h3⟩
  | 0, .v _, _, h => h.elim
  | _ + 1, .v _, _, h => h.elim
  | 0, .t _, _, h => h.elim
  | 0, .u _, _, h => h.elim
  | 0, .u2 _, _, h => h.elim
  | 0, .w _, _, h => h.elim
  | 0, .xc _ _ _, _, h => h.elim
  | _ + 1, .t _, _, h => h.elim
  | _ + 1, .u _, _, h => h.elim
  | _ + 1, .u2 _, _, h => h.elim
  | _ + 1, .w _, _, h => h.elim
  | _ + 1, .xc _ _ _, _, h => h.elim
/-- the store has grown, lists that q allows may have been frozen as they said -/
structure Gr (q : Nat → Prop) (V V' : Sto) : Prop where
  len : V.length ≤ V'.length
  at_ : ∀ n, n < V.length → V'[n]? = V[n]? ∨ (q n ∧ ∃ ws y, V[n]? = some (.lst ws) ∧ V'[n]? = some (.fz y) ∧ ∀ k d, Den V k (.o n) d → d = y)
theorem Gr.refl (q : Nat → Prop) (V : Sto) : Gr q V V := ⟨Nat.le_refl _, fun _ _ => .inl rfl⟩
theorem Gr.app (q : Nat → Prop) (V T : Sto) : Gr q V (V ++ T) := ⟨by simp, fun n h => .inl (List.getElem?_append_left h)⟩
theorem Gr.fz {q : Nat → Prop} {V V' : Sto} (g : Gr q V V') {n : Nat} {y : PyData} (h : V[n]? = some (.fz y)) : V'[n]? = some (.fz y) := by
  rcases g.at_ n (List.getElem?_eq_some_iff.mp h).1 with e | ⟨_, ws, z, e, _⟩
  · rw [e]; exact h
  · rw [h] at e; cases e
theorem Den.mono {q : Nat → Prop} {V V' : Sto} (g : Gr q V V') : ∀ {k : Nat} {x : W} {d : PyData}, Den V k x d → Den V' k x d
  | k, .d x, d, h => by rw [← den_dd h]; exact den_d V' k x
  | 0, .o n, _, h => h.elim
  | k + 1, .o n, d, h => by
    rcases id h with h0 | ⟨ws, ds, h1, h2, h3⟩
    · exact .inl (g.fz h0)
    · rcases g.at_ n (List.getElem?_eq_some_iff.mp h1).1 with e | ⟨_, ws', y, e1, e2, e3⟩
      · exact .inr ⟨ws, ds, by rw [e]; exact h1, h2, Paired.imp (fun _ _ z => Den.mono g z) h3⟩
      · rw [e3 (k + 1) d h]
        exact .inl e2
  | 0, .v _, _, h => h.elim
  | _ + 1, .v _, _, h => h.elim
  | 0, .t _, _, h => h.elim
  | 0, .u _, _, h => h.elim
  | 0, .u2 _, _, h => h.elim
  | 0, .w _, _, h => h.elim
  | 0, .xc _ _ _, _, h => h.elim
  | _ + 1, .t _, _, h => h.elim
  | _ + 1, .u _, _, h => h.elim
  | _ + 1, .u2 _, _, h => h.elim
  | _ + 1, .w _, _, h => h.elim
  | _ + 1, .xc _ _ _, _, h => h.elim
theorem Lay.mono {q p : Nat → Prop} {V V' : Sto} (g : Gr q V V') : ∀ {k : Nat} {x : W} {d : PyData}, Lay V p k x d → Lay V' p k x d
  | k, .d x, d, h => by rw [← lay_dd h]; exact lay_d V' p k x
  | 0, .o n, _, h => h.elim
  | k + 1, .o n, d, h => by
    rcases id h with h0 | ⟨ws, ds, hp, h1, h2, h3⟩
    · exact .inl (g.fz h0)
    · rcases g.at_ n (List.getElem?_eq_some_iff.mp h1).1 with e | ⟨_, ws', y, e1, e2, e3⟩
      · exact .inr ⟨ws, ds, hp, by rw [e]; exact h1, h2, Paired.imp (fun _ _ z => Lay.mono g z) h3⟩
      · rw [e3 (k + 1) d (Lay.den h)]
        exact .inl e2
  | 0, .v _, _, h => h.elim
  | _ + 1, .v _, _, h => h.elim
  | 0, .t _, _, h => h.elim
  | 0, .u _, _, h => h.elim
  | 0, .u2 _, _, h => h.elim
  | 0, .w _, _, h => h.elim
  | 0, .xc _ _ _, _, h => h.elim
  | _ + 1, .t _, _, h => h.elim
  | _ + 1, .u _, _, h => h.elim
  | _ + 1, .u2 _, _, h => h.elim
  | _ + 1, .w _, _, h => h.elim
  | _ + 1, .xc _ _ _, _, h => h.elim
theorem Gr.trans {q : Nat → Prop} {U V X : Sto} (a : Gr q U V) (b : Gr q V X) : Gr q U X := by
  refine ⟨Nat.le_trans a.len b.len, fun n hn => ?_⟩
  rcases b.at_ n (Nat.lt_of_lt_of_le hn a.len) with e | ⟨hq, ws, y, e1, e2, e3⟩
  · rcases a.at_ n hn with e' | ⟨hq, ws, y, f1, f2, f3⟩
    · exact .inl (e.trans e')
    · exact .inr ⟨hq, ws, y, f1, by rw [e]; exact f2, f3⟩
  · rcases a.at_ n hn with e' | ⟨_, ws', y', f1, f2, f3⟩
    · exact .inr ⟨hq, ws, y, by rw [← e']; exact e1, e2, fun k d h => e3 k d (Den.mono a h)⟩
    · rw [f2] at e1; cases e1
theorem Gr.weak {p q : Nat → Prop} (h : ∀ n, p n → q n) {V V' : Sto} (g : Gr p V V') : Gr q V V' :=
  ⟨g.len, fun n hn => (g.at_ n hn).imp id fun ⟨a, b⟩ => ⟨h n a, b⟩⟩
/-- a cell beyond is written -/
theorem Gr.set {q : Nat → Prop} {V V' : Sto} (g : Gr q V V') {n : Nat} (h : V.length ≤ n) (c : Cell) : Gr q V (V'.set n c) :=
  ⟨by rw [List.length_set]; exact g.len, fun m hm => by rw [List.getElem?_set_ne (by omega)]; exact g.at_ m hm⟩
theorem Gr.keep {q : Nat → Prop} {V V' : Sto} (g : Gr q V V') {n : Nat} {c : Cell} (h : V[n]? = some c) (hq : ¬ q n) : V'[n]? = some c := by
  rcases g.at_ n (List.getElem?_eq_some_iff.mp h).1 with e | ⟨z, _⟩
  · rw [e]; exact h
  · exact absurd z hq
/-- an open list that x does not reach is written -/
theorem Lay.set {V : Sto} {p : Nat → Prop} {n : Nat} {ws : List W} (hn : V[n]? = some (.lst ws)) (hp : ¬ p n) (c : Cell) : ∀ {k : Nat} {x : W} {d : PyData}, Lay V p k x d → Lay (V.set n c) p k x d
  | k, .d x, d, h => by rw [← lay_dd h]; exact lay_d _ p k x
  | 0, .o m, _, h => h.elim
  | k + 1, .o m, d, h => by
    rcases h with h0 | ⟨ws', ds, hq, h1, h2, h3⟩
    · refine .inl ?_
      rw [List.getElem?_set_ne]
      · exact h0
      · intro z
        rw [z, h0] at hn
        cases hn
    · refine .inr ⟨ws', ds, hq, ?_, h2, Paired.imp (fun _ _ z => Lay.set hn hp c z) h3⟩
      rw [List.getElem?_set_ne]
      · exact h1
      · intro z
        exact hp (z ▸ hq)
  | 0, .v _, _, h => h.elim
  | _ + 1, .v _, _, h => h.elim
  | 0, .t _, _, h => h.elim
  | 0, .u _, _, h => h.elim
  | 0, .u2 _, _, h => h.elim
  | 0, .w _, _, h => h.elim
  | 0, .xc _ _ _, _, h => h.elim
  | _ + 1, .t _, _, h => h.elim
  | _ + 1, .u _, _, h => h.elim
  | _ + 1, .u2 _, _, h => h.elim
  | _ + 1, .w _, _, h => h.elim
  | _ + 1, .xc _ _ _, _, h => h.elim
theorem frzL_lay {p : Nat → Prop} {k : Nat} (ih : ∀ (V : Sto) (x : W) (d : PyData), Lay V p k x d → ∃ V', frz k x V = some (d, V') ∧ Gr p V V') : ∀ (ws : List W) (ds : List PyData) (V : Sto), Paired (Lay V p k) ws ds → ∃ V', frzL (frz k) ws V = some (ds, V') ∧ Gr p V V'
  | [], _, V, h => by
    cases h
    exact ⟨V, rfl, Gr.refl p V⟩
  | w :: ws, _, V, h => by
    cases h with
    | cons h1 h2 =>
      obtain ⟨V1, e1, g1⟩ := ih V w _ h1
      obtain ⟨V2, e2, g2⟩ := frzL_lay ih ws _ V1 (Paired.imp (fun _ _ z => Lay.mono g1 z) h2)
      refine ⟨V2, ?_, g1.trans g2⟩
      unfold frzL
      simp only [e1, e2]
theorem frz_lay {p : Nat → Prop} : ∀ (k : Nat) (V : Sto) (x : W) (d : PyData), Lay V p k x d → ∃ V', frz k x V = some (d, V') ∧ Gr p V V'
  | k, V, .d x, d, h => by
    rw [← lay_dd h]
    exact ⟨V, frz_d k x V, Gr.refl p V⟩
  | 0, V, .o n, _, h => h.elim
  | k + 1, V, .o n, d, h => by
    rcases id h with h0 | ⟨ws, ds, hp, h1, rfl, h3⟩
    · refine ⟨V, ?_, Gr.refl p V⟩
      unfold frz
      simp only [h0]
    · obtain ⟨V1, e1, g1⟩ := frzL_lay (fun V x d => frz_lay k V x d) ws ds V h3
      have hn := (List.getElem?_eq_some_iff.mp h1).1
      refine ⟨V1.set n (.fz (.list ds)), ?_, ⟨by rw [List.length_set]; exact g1.len, fun m hm => ?_⟩⟩
      · unfold frz
        simp only [h1, e1]
      · by_cases hmn : n = m
        · subst hmn
          refine .inr ⟨hp, ws, .list ds, h1, List.getElem?_set_self (Nat.lt_of_lt_of_le hn g1.len), fun j e he => ?_⟩
          exact Den.det j (k + 1) (.o n) e (.list ds) he (Lay.den h)
        · rw [List.getElem?_set_ne hmn]
          exact g1.at_ m hm
  | 0, _, .v _, _, h => h.elim
  | _ + 1, _, .v _, _, h => h.elim
  | 0, _, .t _, _, h => h.elim
  | 0, _, .u _, _, h => h.elim
  | 0, _, .u2 _, _, h => h.elim
  | 0, _, .w _, _, h => h.elim
  | 0, _, .xc _ _ _, _, h => h.elim
  | _ + 1, _, .t _, _, h => h.elim
  | _ + 1, _, .u _, _, h => h.elim
  | _ + 1, _, .u2 _, _, h => h.elim
  | _ + 1, _, .w _, _, h => h.elim
  | _ + 1, _, .xc _ _ _, _, h => h.elim
theorem lay_ds {V : Sto} {p : Nat → Prop} {k : Nat} : ∀ ds : List PyData, Paired (Lay V p k) (ds.map W.d) ds
  | [] => .nil
  | d :: ds => .cons (lay_d V p k d) (lay_ds ds)
/-! comprehensions whose items may be lists -/
theorem compD_lay {α : Type} {mk : α → PyData} {g0 : Gt} {e : Fe W} {n : Nat} {ρ : Slt} {y : α → PyData} {k : Nat} {p : Nat → Prop} {I : Sto → Prop} {V0 : Sto} (hn : n = V0.length) (hI : ∀ V V', I V → Gr (fun m => p m ∧ m ≠ n) V V' → I V') (hI2 : ∀ V c ws, V[n]? = some (.lst ws) → I V → I (V.set n c)) :
    ∀ (ds : List α) (V : Sto) (acc : List W) (ad : List PyData), (∀ d ∈ ds, ∃ ρ1, (∀ S, g0 (.d (mk d)) ρ S = some ρ1) ∧ ∀ V, I V → n < V.length → ∃ w V', e ρ1 V = .ok w V' ∧ Gr (fun m => p m ∧ m ≠ n) V V' ∧ Lay V' (fun m => p m ∧ m ≠ n) k w (y d)) →
      acc.length + ds.length ≤ 100000 → I V → V[n]? = some (.lst acc) → Paired (Lay V (fun m => p m ∧ m ≠ n) k) acc ad → Gr p V0 V →
      ∃ V' ws, compD g0 fYes e n (ds.map mk) ρ V = .ok () V' ∧ V'[n]? = some (.lst ws) ∧ Paired (Lay V' (fun m => p m ∧ m ≠ n) k) ws (ad ++ ds.map y) ∧ Gr p V0 V' ∧ I V'
  | [], V, acc, ad, h, hz, hv, hc, ha, hg => ⟨V, acc, rfl, hc, by simpa using ha, hg, hv⟩
  | d :: ds, V, acc, ad, h, hz, hv, hc, ha, hg => by
    obtain ⟨ρ1, h1, h2⟩ := h d (by simp)
    obtain ⟨w, V1, e1, g1, l1⟩ := h2 V hv (List.getElem?_eq_some_iff.mp hc).1
    have hc1 : V1[n]? = some (.lst acc) := g1.keep hc (fun z => z.2 rfl)
    have hnp : ¬ (fun m => p m ∧ m ≠ n) n := fun z => z.2 rfl
    have hl1 := (List.getElem?_eq_some_iff.mp hc1).1
    have a1 : Paired (Lay (V1.set n (.lst (acc ++ [w]))) (fun m => p m ∧ m ≠ n) k) (acc ++ [w]) (ad ++ [y d]) :=
      Paired.app (Paired.imp (fun _ _ z => Lay.set hc1 hnp _ (Lay.mono g1 z)) ha) (.cons (Lay.set hc1 hnp _ l1) .nil)
    have hz' : acc.length + 1 + ds.length ≤ 100000 := by simp at hz; omega
    obtain ⟨V', ws, e2, q1, q2, q3, q4⟩ := compD_lay (mk := mk) (g0 := g0) (e := e) (ρ := ρ) (y := y) (k := k) (p := p) (I := I) (V0 := V0) hn hI hI2 ds (V1.set n (.lst (acc ++ [w]))) (acc ++ [w]) (ad ++ [y d]) (fun x hx => h x (by simp [hx])) (by simp; omega) (hI2 V1 _ acc hc1 (hI V V1 hv g1)) (List.getElem?_set_self hl1) a1 ((hg.trans (g1.weak fun m z => z.1)).set (by omega) _)
    refine ⟨V', ws, ?_, q1, by simpa using q2, q3, q4⟩
    rw [List.map_cons]
    unfold compD
    rw [h1]
    simp only [fYes, bind_ok, if_true, e1, hc1]
    rw [if_pos (by unfold szOk; simp; omega)]
    exact e2
theorem fLc_lay {α : Type} {mk : α → PyData} {f : Fe (List PyData)} {g0 : Gt} {e : Fe W} {vs : List Nat} {ρ : Slt} {y : α → PyData} {k : Nat} {p : Nat → Prop} {I : Sto → Prop} {V V0 : Sto} {ds : List α} (hf : f ρ V = .ok (ds.map mk) V0) (hz : ds.length ≤ 100000) (hp : p V0.length)
    (hI : ∀ V V', I V → Gr (fun m => p m ∧ m ≠ V0.length) V V' → I V') (hI2 : ∀ V c ws, V[V0.length]? = some (.lst ws) → I V → I (V.set V0.length c)) (h0 : I V0)
    (h : ∀ d ∈ ds, ∃ ρ1, (∀ S, g0 (.d (mk d)) (wipeR ρ vs) S = some ρ1) ∧ ∀ V, I V → V0.length < V.length → ∃ w V', e ρ1 V = .ok w V' ∧ Gr (fun m => p m ∧ m ≠ V0.length) V V' ∧ Lay V' (fun m => p m ∧ m ≠ V0.length) k w (y d)) :
    ∃ V', fLc f g0 fYes e vs ρ V = .ok (.o V0.length) V' ∧ Lay V' p (k + 1) (.o V0.length) (.list (ds.map y)) ∧ Gr p V0 V' ∧ I V' := by
  obtain ⟨V', ws, e1, q1, q2, q3, q4⟩ := compD_lay (V0 := V0) rfl hI hI2 ds (V0 ++ [.lst []]) [] [] h (by simpa using hz) (hI V0 _ h0 (Gr.app _ V0 [.lst []])) (get_len_app _ _ []) .nil (Gr.app p V0 _)
  refine ⟨V', ?_, .inr ⟨ws, ds.map y, hp, q1, rfl, by simpa using Paired.imp (fun _ _ z => Lay.weak (fun m z => z.1) z) q2⟩, q3, q4⟩
  unfold fLc
  rw [hf]
  simp only [bind_ok, e1, noX_ok]
end G
set_option Elab.async false
set_option linter.all false
set_option maxRecDepth 100000
set_option maxHeartbeats 4000000

/-! H5: the law's own joining, by the program -/
namespace G
open PySem PySem.Spec L2 PyProof.Rows
set_option autoImplicit false

theorem frz_fz {p : Nat → Prop} {k n : Nat} {V V' : Sto} {d e : PyData} (h : Lay V p (k + 1) (.o n) d) (he : frz (k + 1) (.o n) V = some (e, V')) : V'[n]? = some (.fz d) := by
  rcases id h with h0 | ⟨ws, ds, hp, h1, rfl, h3⟩
  · unfold frz at he
    simp only [h0] at he
    cases he
    exact h0
  · obtain ⟨V1, e1, g1⟩ := frzL_lay (fun V x d => frz_lay k V x d) ws ds V h3
    unfold frz at he
    simp only [h1, e1] at he
    cases he
    exact List.getElem?_set_self (Nat.lt_of_lt_of_le (List.getElem?_eq_some_iff.mp h1).1 g1.len)
theorem items_fz {p : Nat → Prop} {V : Sto} {n : Nat} {ds : List PyData} (h : Lay V p 6 (.o n) (.list ds)) : ∃ V', itemsOf (.o n) V = some (ds, V') ∧ Gr p V V' ∧ V'[n]? = some (.fz (.list ds)) := by
  obtain ⟨V', e, g⟩ := frz_lay 6 V (.o n) _ h
  refine ⟨V', ?_, g, frz_fz h e⟩
  unfold itemsOf
  rw [e]
theorem items_of_fz {V : Sto} {n : Nat} {ds : List PyData} (h : V[n]? = some (.fz (.list ds))) : itemsOf (.o n) V = some (ds, V) := by
  unfold itemsOf frz
  simp only [h]
theorem Fr.gr {p : Nat → Prop} {V V' : Sto} (f : Fr V.length V V') : Gr p V V' := ⟨f.le, fun n hn => .inl (f.at_ n hn)⟩
def lD (r : List Nat) : PyData := .list (nD r)
theorem eqv_l (a c : List Nat) : PyData.eqv (lD a) (lD c) = decide (a = c) := by
  unfold lD
  simp only [PyData.eqv, eqv_n]
theorem pl_lD (r : List Nat) : Pl 1 (lD r) := pl_lst (pl_nD r)
theorem in_l (a : Nat) (r : List Nat) (V : Sto) : gIn false (.d (.int (a : Nat))) (.d (lD r)) V = some (.d (.bool (decide (a ∈ r))), V) := by
  have h := in_n a r V
  unfold gIn at h ⊢
  rw [view_d, view_d] at h ⊢
  exact h
theorem gIn_ng {x y : W} {S : Sto} {b : Bool} (h : gIn false x y S = some (.d (.bool b), S)) : gIn true x y S = some (.d (.bool (!b)), S) := by
  unfold gIn at h ⊢
  cases e1 : view x S with
  | none => rw [e1] at h; cases h
  | some d =>
    cases e2 : view y S with
    | none => rw [e1, e2] at h; cases h
    | some e =>
      rw [e1, e2] at h
      cases e with
      | list ds =>
        simp only at h ⊢
        split at h
        · rename_i c
          rw [if_pos c]
          simp at h ⊢
          exact h
        · cases h
      | tuple ds =>
        simp only at h ⊢
        split at h
        · rename_i c
          rw [if_pos c]
          simp at h ⊢
          exact h
        · cases h
      | _ => cases h
theorem in_rows (r : List Nat) {rows : List (List Nat)} {q : Nat} {V : Sto} (h : Rd V q (rows.map lD)) : gIn false (.d (lD r)) (.o q) V = some (.d (.bool (decide (r ∈ rows))), V) := by
  have s2 := (pl_lst (n := 1) (l := rows.map lD) fun x hx => by obtain ⟨y, _, rfl⟩ := List.mem_map.mp hx; exact pl_lD y).shp (by decide)
  have s1 := (pl_lD r).shp (by decide)
  unfold gIn
  rw [view_d, h.view]
  simp only []
  rw [if_pos (by rw [s1, s2]; rfl)]
  have e : ((rows.map lD).any fun z => PyData.eqv z (lD r)) = decide (r ∈ rows) := by
    rw [Bool.eq_iff_iff, decide_eq_true_iff, List.any_eq_true]
    constructor
    · rintro ⟨x, hx, e⟩
      obtain ⟨y, hy, rfl⟩ := List.mem_map.mp hx
      rw [eqv_l, decide_eq_true_iff] at e
      rw [← e]
      exact hy
    · intro hr
      exact ⟨lD r, List.mem_map.mpr ⟨r, hr, rfl⟩, by rw [eqv_l]; simp⟩
  rw [e]
  rfl
theorem sortOk_ns (l : List Nat) (hl : l.length ≤ 1000) : sortOk (nD l) = true := by
  unfold sortOk alikeOk szOk nD
  simp only [Bool.and_eq_true, List.all_eq_true, Bool.or_eq_true, decide_eq_true_eq]
  refine ⟨⟨⟨fun d hd e he => ?_, fun d hd => ?_⟩, .inr fun d hd => ?_⟩, by rw [List.length_map]; omega⟩
  · obtain ⟨a, _, rfl⟩ := List.mem_map.mp hd
    obtain ⟨b, _, rfl⟩ := List.mem_map.mp he
    simp [PySem.W.alike]
  · obtain ⟨a, _, rfl⟩ := List.mem_map.mp hd
    exact ⟨rfl, by show 0 ≤ 60; decide⟩
  · obtain ⟨a, _, rfl⟩ := List.mem_map.mp hd
    rfl
theorem al_nn : ∀ a b : List Nat, PySem.W.alikeAll (nD a) (nD b) = true
  | [], _ => by simp [nD, PySem.W.alikeAll]
  | _ :: _, [] => by simp [nD, PySem.W.alikeAll]
  | x :: a, y :: b => by
    show PySem.W.alikeAll (.int (x : Nat) :: nD a) (.int (y : Nat) :: nD b) = true
    simp only [PySem.W.alikeAll, PySem.W.alike, al_nn a b, Bool.and_self]
theorem dep_nn : ∀ a : List Nat, PyData.depthAll (nD a) = 0
  | [] => by simp [nD, PyData.depthAll]
  | x :: a => by
    show PyData.depthAll (.int (x : Nat) :: nD a) = 0
    simp only [PyData.depthAll, PyData.depth, dep_nn a]
    rfl
theorem sortOk_rows (rows : List (List Nat)) (hl : rows.length ≤ 1000) (hne : ∀ r ∈ rows, r ≠ []) : sortOk (rows.map wlD) = true := by
  unfold sortOk alikeOk szOk
  simp only [Bool.and_eq_true, List.all_eq_true, Bool.or_eq_true, decide_eq_true_eq]
  refine ⟨⟨⟨fun d hd e he => ?_, fun d hd => ?_⟩, .inl fun d hd => ?_⟩, by rw [List.length_map]; omega⟩
  · obtain ⟨a, _, rfl⟩ := List.mem_map.mp hd
    obtain ⟨b, _, rfl⟩ := List.mem_map.mp he
    unfold wlD
    simp only [PySem.W.alike]
    exact al_nn a b
  · obtain ⟨a, _, rfl⟩ := List.mem_map.mp hd
    exact ⟨rfl, by unfold wlD; simp only [PyData.depth, dep_nn]; omega⟩
  · obtain ⟨a, ha, rfl⟩ := List.mem_map.mp hd
    cases a with
    | nil => exact absurd rfl (hne _ ha)
    | cons x a => rfl
theorem lsts_rows : ∀ (rows : List (List Nat)) (V : Sto), lstsOf ((rows.map lD).map W.d) V = some (rows.map fun r => (nD r).map W.d)
  | [], _ => rfl
  | r :: rows, V => by
    rw [List.map_cons, List.map_cons]
    unfold lstsOf
    rw [lsts_rows rows V]
    rfl
theorem flat_rows (rows : List (List Nat)) : (rows.map fun r => (nD r).map W.d).flatten = (nD rows.flatten).map W.d := by
  unfold nD
  induction rows with
  | nil => rfl
  | cons r rows ih => rw [List.map_cons, List.flatten_cons, ih, List.flatten_cons, List.map_append, List.map_append]
theorem gsum_rows {V : Sto} {q e : Nat} {r : List Nat} {rows : List (List Nat)} (hq : V[q]? = some (.lst (((r :: rows).map lD).map W.d))) (he : V[e]? = some (.lst [])) (hz : (r :: rows).flatten.length ≤ 1000) :
    gSumL [.o q, .o e] V = some (.o V.length, V ++ [.lst ((nD (r :: rows).flatten).map W.d)]) := by
  have l1 : lstOf (.o q) V = some (((r :: rows).map lD).map W.d) := by unfold lstOf; simp only [hq]
  have l2 : lstOf (.o e) V = some [] := by unfold lstOf; simp only [he]
  have l3 : lstsOf (((r :: rows).map lD).map W.d) V = some ((nD r).map W.d :: rows.map fun r => (nD r).map W.d) := lsts_rows (r :: rows) V
  have l4 : ((nD r).map W.d :: rows.map fun r => (nD r).map W.d).flatten = (nD (r :: rows).flatten).map W.d := flat_rows (r :: rows)
  unfold gSumL
  simp only [l1, l2, l3]
  rw [if_pos (by rw [l4]; unfold szOk; rw [List.length_map]; unfold nD; rw [List.length_map]; simp only [decide_eq_true_eq]; omega), l4]
end G
set_option Elab.async false
set_option linter.all false
set_option maxRecDepth 100000
set_option maxHeartbeats 4000000

/-! H6: the law's own joining, its turn and loop -/
namespace G
open PySem PySem.Spec L2 PyProof.Rows
set_option autoImplicit false

section
variable {m : Mach}
theorem fLst1 (f : Fe W) (ρ : Slt) (S : Sto) : fLst (fCons f fNil) ρ S = (f ρ S).bind fun x S1 => Out.ok (.o S1.length) (S1 ++ [.lst [x]]) := by
  unfold fLst
  simp only [ev_cons, ev_nil]
  cases f ρ S <;> rfl
noncomputable def c5E : Fe W := (fLc (fIt (fVar 1)) (gNm 6) (fOr (fTru (fOp2 (gIn false) (fOp2 gIx (fVar 3) (fC (.d (.int 0)))) (fVar 6))) (fTru (fOp2 (gIn false) (fOp2 gIx (fVar 4) (fC (.d (.int 0)))) (fVar 6)))) (fVar 6) [6])
noncomputable def c1E : Fe W := (fLc (fIt (fVar 1)) (gNm 6) (fTru (fOp2 (gIn true) (fVar 6) (fVar 5))) (fVar 6) [6])
noncomputable def jnB : Fs := (fSeq (fSet 5 c5E) (fSet 1 (fOp2 gAdd c1E (fLst (fCons (fCB gSort (fCons (fCB gSumL (fCons (fVar 5) (fCons (fLst fNil) fNil))) fNil)) fNil)))))
theorem jn_turn {n : Nat} {ts : List Tch} (hn : n ≤ 16) (hts : ∀ t ∈ ts, t.1.1 < n ∧ t.2.1 < n) {rows : List (List Nat)} (J : Jr n ts rows) {t : Tch} (ha : t.1.1 < n) (hb : t.2.1 < n) {b : Nat} {V : Sto} (hbV : b ≤ V.length) (hl : rows.length ≤ 900) {R : Nat} (h : Lay V (fun k => b ≤ k) 2 (.o R) (.list (rows.map lD))) {a0 a2 j5 j6 : Option W} :
    ∃ (rows' : List (List Nat)) (R' q5 : Nat) (V' : Sto), jnB [a0, some (.o R), a2, some (.d (sD t.1)), some (.d (sD t.2)), j5, j6] V = .nx [a0, some (.o R'), a2, some (.d (sD t.1)), some (.d (sD t.2)), some (.o q5), j6] V' ∧
      Jr n (ts ++ [t]) rows' ∧ Lay V' (fun k => b ≤ k) 2 (.o R') (.list (rows'.map lD)) ∧ Gr (fun k => b ≤ k) V V' ∧ rows'.length ≤ rows.length + 1 := by
  obtain ⟨V1, e1, g1, n1⟩ := items_fz (h.up.up.up.up)
  have hR1 := (List.getElem?_eq_some_iff.mp n1).1
  have hb1 : b ≤ V1.length := by have := g1.len; omega
  have i0 : ∀ V, gIx (.d (sD t.1)) (.d (.int 0)) V = some (.d (.int (t.1.1 : Nat)), V) := fun V => rfl
  have i1 : ∀ V, gIx (.d (sD t.2)) (.d (.int 0)) V = some (.d (.int (t.2.1 : Nat)), V) := fun V => rfl
  obtain ⟨V2, e2, f2, l2, n2⟩ := lc_gen (f := fIt (fVar 1)) (g := gNm 6) (t := fOr (fTru (fOp2 (gIn false) (fOp2 gIx (fVar 3) (fC (.d (.int 0)))) (fVar 6))) (fTru (fOp2 (gIn false) (fOp2 gIx (fVar 4) (fC (.d (.int 0)))) (fVar 6)))) (e := fVar 6) (vs := [6]) (ρ := [a0, some (.o R), a2, some (.d (sD t.1)), some (.d (sD t.2)), j5, j6]) (S := V) (S0 := V1) (ds := rows) (mk := lD)
    (fun r => decide (t.1.1 ∈ r ∨ t.2.1 ∈ r)) lD (Fr V1.length V1) (by simp only [it_ev, ev_var, List.getElem?_cons_zero, List.getElem?_cons_succ, bind_ok, e1, ofO_some]) (by omega) (fun V x hV hl => hV.set (Nat.le_refl _) x) ((Fr.refl _ _).app (Nat.le_refl _) _)
    (fun r hr => ⟨_, fun V => rfl, fun V hV hl => ⟨V, by
      by_cases c1 : t.1.1 ∈ r
      · simp only [wipeR, startR, List.map_cons, List.map_nil, List.length_cons, List.length_nil, Nat.zero_add, Nat.reduceAdd, Nat.reduceSub, List.replicate, List.cons_append, List.nil_append, st_seq, st_set, st_ret, st_if, st_exp, st_par, st_skip, ev_call, ev_cons, ev_nil, ev_var, ev_c, ev_op2, ev_tru, ev_or, ev_and, ev_not, List.getElem?_cons_zero, List.getElem?_cons_succ, bind_ok, ofO_some, if_true, ofD_nil, List.append_nil, fl_ok, List.set_cons_zero, List.set_cons_succ, truth_b, Option.map_some, Bool.not_true, Bool.not_false, Bool.false_eq_true, if_false, i0, in_l, decide_eq_true c1]
        rw [decide_eq_true (.inl c1)]
      · simp only [wipeR, startR, List.map_cons, List.map_nil, List.length_cons, List.length_nil, Nat.zero_add, Nat.reduceAdd, Nat.reduceSub, List.replicate, List.cons_append, List.nil_append, st_seq, st_set, st_ret, st_if, st_exp, st_par, st_skip, ev_call, ev_cons, ev_nil, ev_var, ev_c, ev_op2, ev_tru, ev_or, ev_and, ev_not, List.getElem?_cons_zero, List.getElem?_cons_succ, bind_ok, ofO_some, if_true, ofD_nil, List.append_nil, fl_ok, List.set_cons_zero, List.set_cons_succ, truth_b, Option.map_some, Bool.not_true, Bool.not_false, Bool.false_eq_true, if_false, i0, i1, in_l, decide_eq_false c1]
        congr 1
        exact decide_eq_decide.mpr ⟨fun z => .inr z, fun z => z.resolve_left c1⟩, hV, Nat.le_refl _, rfl, fun _ => ⟨V, rfl, hV, Nat.le_refl _, rfl⟩⟩⟩)
  have e2' : c5E [a0, some (.o R), a2, some (.d (sD t.1)), some (.d (sD t.2)), j5, j6] V = .ok (.o V1.length) V2 := e2
  obtain ⟨sm, hsm⟩ : ∃ sm, sm = someR t.1.1 t.2.1 rows := ⟨_, rfl⟩
  have n2' : V2[V1.length]? = some (.lst ((sm.map lD).map W.d)) := by rw [hsm]; exact n2
  have r2 : V2[R]? = some (.fz (.list (rows.map lD))) := (f2.at_ R hR1).trans n1
  have it2 := items_of_fz r2
  have lr2 := f2.le
  obtain ⟨V3, e3, f3, l3, n3⟩ := lc_gen (f := fIt (fVar 1)) (g := gNm 6) (t := fTru (fOp2 (gIn true) (fVar 6) (fVar 5))) (e := fVar 6) (vs := [6]) (ρ := [a0, some (.o R), a2, some (.d (sD t.1)), some (.d (sD t.2)), some (.o V1.length), j6]) (S := V2) (S0 := V2) (ds := rows) (mk := lD)
    (fun r => !decide (r ∈ sm)) lD (Fr V2.length V2) (by simp only [it_ev, ev_var, List.getElem?_cons_zero, List.getElem?_cons_succ, bind_ok, it2, ofO_some]) (by omega) (fun V x hV hl => hV.set (Nat.le_refl _) x) ((Fr.refl _ _).app (Nat.le_refl _) _)
    (fun r hr => ⟨_, fun V => rfl, fun V hV hl => ⟨V, by
      have q := gIn_ng (in_rows r (rows := sm) (q := V1.length) (V := V) (.inl ((hV.at_ _ (by omega)).trans n2')))
      simp only [wipeR, startR, List.map_cons, List.map_nil, List.length_cons, List.length_nil, Nat.zero_add, Nat.reduceAdd, Nat.reduceSub, List.replicate, List.cons_append, List.nil_append, st_seq, st_set, st_ret, st_if, st_exp, st_par, st_skip, ev_call, ev_cons, ev_nil, ev_var, ev_c, ev_op2, ev_tru, ev_or, ev_and, ev_not, List.getElem?_cons_zero, List.getElem?_cons_succ, bind_ok, ofO_some, if_true, ofD_nil, List.append_nil, fl_ok, List.set_cons_zero, List.set_cons_succ, truth_b, Option.map_some, Bool.not_true, Bool.not_false, Bool.false_eq_true, if_false, q], hV, Nat.le_refl _, rfl, fun _ => ⟨V, rfl, hV, Nat.le_refl _, rfl⟩⟩⟩)
  have e3' : c1E [a0, some (.o R), a2, some (.d (sD t.1)), some (.d (sD t.2)), some (.o V1.length), j6] V2 = .ok (.o V2.length) V3 := e3
  have n23 : V3[V1.length]? = some (.lst ((sm.map lD).map W.d)) := (f3.at_ _ (by omega)).trans n2'
  have lr3 := f3.le
  have fnd : sm.flatten.Nodup := by rw [hsm]; exact jr_flat hts J
  have fmem : ∀ x ∈ sm.flatten, x < n := fun x hx => by
    obtain ⟨r, hr, hxr⟩ := List.mem_flatten.mp hx
    rw [hsm] at hr
    rcases (jr_some hts J ha hb r).mp hr with rfl | rfl
    · exact ((blk_mem hts ha).mp hxr).1
    · exact ((blk_mem hts hb).mp hxr).1
  have flen : sm.flatten.length ≤ n := by
    have := nodup_le fnd (m := List.range n) fun x hx => List.mem_range.mpr (fmem x hx)
    rwa [List.length_range] at this
  obtain ⟨us, u1, u2, u3⟩ := srt_nat sm.flatten fnd
  obtain ⟨V4, hV4⟩ : ∃ V4, V4 = V3 ++ [Cell.lst []] := ⟨_, rfl⟩
  have n44 : V4[V3.length]? = some (.lst []) := by rw [hV4]; exact get_len_app _ _ _
  have n24 : V4[V1.length]? = some (.lst ((sm.map lD).map W.d)) := by rw [hV4, List.getElem?_append_left (by omega)]; exact n23
  obtain ⟨r0, sr, hrs⟩ : ∃ r0 sr, sm = r0 :: sr := by
    cases e : sm with
    | nil =>
      have : blk n ts t.1.1 ∈ sm := by rw [hsm]; exact (jr_some hts J ha hb _).mpr (.inl rfl)
      rw [e] at this
      cases this
    | cons x l => exact ⟨x, l, rfl⟩
  have e5 : gSumL [.o V1.length, .o V3.length] V4 = some (.o V4.length, V4 ++ [.lst ((nD sm.flatten).map W.d)]) := by
    rw [hrs] at n24 flen ⊢
    exact gsum_rows n24 n44 (by omega)
  obtain ⟨V5, hV5⟩ : ∃ V5, V5 = V4 ++ [Cell.lst ((nD sm.flatten).map W.d)] := ⟨_, rfl⟩
  rw [← hV5] at e5
  have n5 : V5[V4.length]? = some (.lst ((nD sm.flatten).map W.d)) := by rw [hV5]; exact get_len_app _ _ _
  have e6 := gSort_o n5 (sortOk_ns _ (by omega))
  rw [u1] at e6
  obtain ⟨V6, hV6⟩ : ∃ V6, V6 = V5 ++ [Cell.lst ((nD us).map W.d)] := ⟨_, rfl⟩
  rw [← hV6] at e6
  have l4 : V4.length = V3.length + 1 := by rw [hV4]; simp
  have l5 : V5.length = V4.length + 1 := by rw [hV5]; simp
  have l6 : V6.length = V5.length + 1 := by rw [hV6]; simp
  obtain ⟨V7, hV7⟩ : ∃ V7, V7 = V6 ++ [Cell.lst [.o V5.length]] := ⟨_, rfl⟩
  have l7 : V7.length = V6.length + 1 := by rw [hV7]; simp
  have n7 : V7[V6.length]? = some (.lst [.o V5.length]) := by rw [hV7]; exact get_len_app _ _ _
  have n37 : V7[V2.length]? = some (.lst (((rows.filter fun r => !decide (r ∈ sm)).map lD).map W.d)) := by
    rw [hV7, List.getElem?_append_left (by omega), hV6, List.getElem?_append_left (by omega), hV5, List.getElem?_append_left (by omega), hV4, List.getElem?_append_left (by omega)]
    exact n3
  have n57 : V7[V5.length]? = some (.lst ((nD us).map W.d)) := by
    rw [hV7, List.getElem?_append_left (by omega), hV6]
    exact get_len_app _ _ _
  have hfl := List.length_filter_le (fun r => !decide (r ∈ sm)) rows
  have e8 := add_o n37 n7 (by simp; omega)
  obtain ⟨V8, hV8⟩ : ∃ V8, V8 = V7 ++ [Cell.lst (((rows.filter fun r => !decide (r ∈ sm)).map lD).map W.d ++ [.o V5.length])] := ⟨_, rfl⟩
  rw [← hV8] at e8
  have n58 : V8[V5.length]? = some (.lst ((nD us).map W.d)) := by rw [hV8, List.getElem?_append_left (by omega)]; exact n57
  have f8 : Fr V1.length V1 V8 := by
    refine f2.trans ((f3.weak lr2).trans ?_)
    rw [hV8, hV7, hV6, hV5, hV4]
    refine ⟨by simp <;> omega, fun i hi => ?_⟩
    rw [List.getElem?_append_left (by simp <;> omega), List.getElem?_append_left (by simp <;> omega), List.getElem?_append_left (by simp <;> omega), List.getElem?_append_left (by simp <;> omega), List.getElem?_append_left (by omega)]
  have hperm : us.Perm (someR t.1.1 t.2.1 rows).flatten := by rw [← hsm]; exact u2
  have J' := jr_step hts J ha hb hperm u3
  rw [← hsm] at J'
  refine ⟨rows.filter (fun r => !decide (r ∈ sm)) ++ [us], V7.length, V1.length, V8, ?_, J', ?_, g1.trans f8.gr, by rw [List.length_append]; simp; omega⟩
  · have eL : ∀ ρ : Slt, fLst fNil ρ V3 = .ok (.o V3.length) V4 := fun ρ => by rw [hV4]; rfl
    have eL1 : ∀ ρ : Slt, ρ[5]? = some (some (.o V1.length)) → fLst (fCons (fCB gSort (fCons (fCB gSumL (fCons (fVar 5) (fCons (fLst fNil) fNil))) fNil)) fNil) ρ V3 = .ok (.o V6.length) V7 := fun ρ hρ => by
      have q : fCB gSort (fCons (fCB gSumL (fCons (fVar 5) (fCons (fLst fNil) fNil))) fNil) ρ V3 = .ok (.o V5.length) V6 := by
        simp only [ev_cb, ev_cons, ev_nil, ev_var, hρ, bind_ok, eL, e5, ofO_some, e6]
      rw [fLst1, q, hV7]
      rfl
    unfold jnB
    simp only [st_seq, st_set, e2', fl_ok, List.set_cons_zero, List.set_cons_succ, ev_op2, e3', bind_ok]
    rw [eL1 _ rfl]
    simp only [bind_ok, e8, ofO_some, fl_ok, List.set_cons_zero, List.set_cons_succ]
  · refine .inr ⟨_, _, by omega, by rw [hV8]; exact get_len_app _ _ _, rfl, ?_⟩
    rw [List.map_append]
    exact Paired.app (lay_ds _) (.cons (.inr ⟨_, nD us, by omega, n58, rfl, lay_ds _⟩) .nil)
end
end G
set_option Elab.async false
set_option linter.all false
set_option maxRecDepth 100000
set_option maxHeartbeats 4000000

/-! H7: the law's own joining tells the lots -/
namespace G
open PySem PySem.Spec L2 PyProof.Rows
set_option autoImplicit false

section
variable {m : Mach}
theorem jn_loop {n : Nat} (hn : n ≤ 16) {b : Nat} {a0 a2 j6 : Option W} : ∀ (ts us : List Tch) (rows : List (List Nat)) (V : Sto) (R : Nat) (j3 j4 j5 : Option W), (∀ t ∈ us ++ ts, t.1.1 < n ∧ t.2.1 < n) → Jr n us rows → b ≤ V.length → rows.length + ts.length ≤ 900 → Lay V (fun k => b ≤ k) 2 (.o R) (.list (rows.map lD)) →
    ∃ (rows' : List (List Nat)) (R' : Nat) (k3 k4 k5 : Option W) (V' : Sto), forD (gTp 2 (gsCons (gNm 3) (gsCons (gNm 4) gsNil))) jnB (ts.map tcD) [a0, some (.o R), a2, j3, j4, j5, j6] V = .nx [a0, some (.o R'), a2, k3, k4, k5, j6] V' ∧
      Jr n (us ++ ts) rows' ∧ Lay V' (fun k => b ≤ k) 2 (.o R') (.list (rows'.map lD)) ∧ Gr (fun k => b ≤ k) V V' ∧ rows'.length ≤ rows.length + ts.length
  | [], us, rows, V, R, j3, j4, j5, hts, J, hb, hl, h => ⟨rows, R, j3, j4, j5, V, rfl, by rw [List.append_nil]; exact J, h, Gr.refl _ _, Nat.le_refl _⟩
  | t :: ts, us, rows, V, R, j3, j4, j5, hts, J, hb, hl, h => by
    have ht := hts t (by simp)
    rw [List.length_cons] at hl
    obtain ⟨rows1, R1, q5, V1, e1, J1, L1, g1, l1⟩ := jn_turn hn (fun u hu => hts u (by simp [hu])) J ht.1 ht.2 hb (by omega) h (a0 := a0) (a2 := a2) (j5 := j5) (j6 := j6)
    obtain ⟨rows2, R2, k3, k4, k5, V2, e2, J2, L2, g2, l2⟩ := jn_loop hn ts (us ++ [t]) rows1 V1 R1 (some (.d (sD t.1))) (some (.d (sD t.2))) (some (.o q5)) (fun u hu => hts u (by simpa using hu)) J1 (Nat.le_trans hb g1.len) (by omega) L1 (a0 := a0) (a2 := a2) (j6 := j6)
    refine ⟨rows2, R2, k3, k4, k5, V2, ?_, by rw [show us ++ t :: ts = us ++ [t] ++ ts by simp]; exact J2, L2, g1.trans g2, by simp; omega⟩
    rw [List.map_cons, forD_cons]
    have eg : gTp 2 (gsCons (gNm 3) (gsCons (gNm 4) gsNil)) (.d (tcD t)) [a0, some (.o R), a2, j3, j4, j5, j6] V = some [a0, some (.o R), a2, some (.d (sD t.1)), some (.d (sD t.2)), j5, j6] := rfl
    rw [eg]
    dsimp only
    rw [e1]
    exact e2
theorem r_law_joined (wm : Wm m) (h8 : m.ts.length ≤ 800) (S : Sto) : ∃ V, R__law_joined [.d (mD m)] S = .ok (.d (.tuple (losD m.cs.length (lowsP m.cs.length m.ts)))) V ∧ Fr S.length S V := by
  have h16 := wm.l16
  have eN : ∀ S, gLen [.d (csD m.cs)] S = some (.d (.int (m.cs.length : Nat)), S) := fun S => len_csD _ S
  have er : fR1 (fCons (fCB gLen (fCons (fOp2 gIx (fVar 0) (fC (.d (.int 0)))) fNil)) fNil) [some (.d (mD m)), none, none, none, none, none, none] S = .ok ((List.range m.cs.length).map fun k => PyData.int (k : Nat)) S := by
    have q := r1_ev (fCB gLen (fCons (fOp2 gIx (fVar 0) (fC (.d (.int 0)))) fNil)) [some (.d (mD m)), none, none, none, none, none, none] S S (m.cs.length : Nat) (by
      simp only [ev_cb, startR, List.map_cons, List.map_nil, List.length_cons, List.length_nil, Nat.zero_add, Nat.reduceAdd, Nat.reduceSub, List.replicate, List.cons_append, List.nil_append, st_seq, st_set, st_ret, st_if, st_exp, st_par, st_skip, ev_call, ev_cons, ev_nil, ev_var, ev_c, ev_op2, ev_tru, ev_or, ev_and, ev_not, List.getElem?_cons_zero, List.getElem?_cons_succ, bind_ok, ofO_some, if_true, ofD_nil, List.append_nil, fl_ok, List.set_cons_zero, List.set_cons_succ, truth_b, Option.map_some, Bool.not_true, Bool.not_false, Bool.false_eq_true, if_false, ix_m0, eN]) (by omega)
    rw [q]
    congr 1
    unfold rngD
    simp
  obtain ⟨V1, e1, L1, g1, _⟩ := fLc_lay (f := fR1 (fCons (fCB gLen (fCons (fOp2 gIx (fVar 0) (fC (.d (.int 0)))) fNil)) fNil)) (g0 := gNm 2) (e := fLst (fCons (fVar 2) fNil)) (vs := [2]) (ρ := [some (.d (mD m)), none, none, none, none, none, none]) (y := fun k : Nat => lD [k]) (k := 1) (p := fun k => S.length ≤ k) (I := fun V => S.length ≤ V.length) (V := S) (V0 := S) (ds := List.range m.cs.length) er (by simp; omega) (Nat.le_refl _)
    (fun V V' h g => Nat.le_trans h g.len) (fun V c ws _ h => by rw [List.length_set]; exact h) (Nat.le_refl _)
    (fun k hk => ⟨_, fun S => rfl, fun V hV hl => ⟨.o V.length, V ++ [.lst [.d (.int (k : Nat))]], by
      rw [fLst1]
      rfl, Gr.app _ _ _, .inr ⟨[.d (.int (k : Nat))], [.int (k : Nat)], ⟨hV, by omega⟩, get_len_app _ _ _, rfl, .cons (lay_d _ _ _ _) .nil⟩⟩⟩)
  have L1' : Lay V1 (fun k => S.length ≤ k) 2 (.o S.length) (.list (((List.range m.cs.length).map fun k => [k]).map lD)) := by
    rw [List.map_map]
    exact L1
  obtain ⟨rows, R, k3, k4, k5, V2, e2, J2, L2, g2, l2⟩ := jn_loop (n := m.cs.length) (by omega) (a0 := some (.d (mD m))) (a2 := none) (j6 := none) m.ts [] _ V1 S.length none none none (fun t ht => wm.ts_lt t (by simpa using ht)) (jr_start m.cs.length) g1.len (by simp; omega) L1'
  rw [List.nil_append] at J2
  obtain ⟨V3, e3, g3, n3⟩ := items_fz (L2.up.up.up.up)
  have hl2 : rows.length ≤ 900 := by simp at l2; omega
  have hS3 : S.length ≤ V3.length := by have := g1.len; have := g2.len; have := g3.len; omega
  obtain ⟨V4, e4, f4, l4, n4⟩ := lc_yes (f := fIt (fVar 1)) (g := gNm 6) (e := fCB gTuple (fCons (fVar 6) fNil)) (vs := [6]) (ρ := [some (.d (mD m)), some (.o R), none, k3, k4, k5, none]) (S := V2) (S0 := V3) (ds := rows) (mk := lD) wlD (Fr V3.length V3) (by
      simp only [it_ev, ev_var, List.getElem?_cons_zero, List.getElem?_cons_succ, bind_ok, e3, ofO_some]) (by omega) (fun V x hV hl => hV.set (Nat.le_refl _) x) ((Fr.refl _ _).app (Nat.le_refl _) _)
    (fun r hr => ⟨_, fun V => rfl, fun V hV hl => ⟨V, by
      have q : gTuple [.d (lD r)] V = some (.d (wlD r), V) := by
        have hs : lstOf (.d (lD r)) V = some ((nD r).map W.d) := rfl
        have hf := frzL_ds 6 (nD r) V
        show (match lstOf (.d (lD r)) V with | some ws => (match frzL (frz 6) ws V with | some (ds, S2) => some (W.d (.tuple ds), S2) | none => none) | none => none) = _
        rw [hs]
        simp only [hf]
        rfl
      simp only [wipeR, ev_cb, startR, List.map_cons, List.map_nil, List.length_cons, List.length_nil, Nat.zero_add, Nat.reduceAdd, Nat.reduceSub, List.replicate, List.cons_append, List.nil_append, st_seq, st_set, st_ret, st_if, st_exp, st_par, st_skip, ev_call, ev_cons, ev_nil, ev_var, ev_c, ev_op2, ev_tru, ev_or, ev_and, ev_not, List.getElem?_cons_zero, List.getElem?_cons_succ, bind_ok, ofO_some, if_true, ofD_nil, List.append_nil, fl_ok, List.set_cons_zero, List.set_cons_succ, truth_b, Option.map_some, Bool.not_true, Bool.not_false, Bool.false_eq_true, if_false, q], hV, Nat.le_refl _, rfl⟩⟩)
  have hne : ∀ r ∈ rows, r ≠ [] := fun r hr z => by
    obtain ⟨w, hw, e⟩ := (J2.mem r).mp hr
    obtain ⟨q, e'⟩ := blk_head wm.ts_lt hw
    rw [z] at e
    rw [e'] at e
    cases e
  have e5 := gSort_o n4 (sortOk_rows rows (by omega) hne)
  rw [srt_rows wm.ts_lt J2] at e5
  have e6 : gTuple [.o V4.length] (V4 ++ [.lst (((lotsOf m.cs.length (lowsP m.cs.length m.ts)).map wlD).map W.d)]) = some (.d (.tuple (losD m.cs.length (lowsP m.cs.length m.ts))), V4 ++ [.lst (((lotsOf m.cs.length (lowsP m.cs.length m.ts)).map wlD).map W.d)]) := gTuple_o (get_len_app _ _ _)
  have gg : Gr (fun k => S.length ≤ k) S V4 := (g1.trans (g2.trans g3)).trans f4.gr
  have ff : Fr S.length S V4 := ⟨gg.len, fun i hi => by
    rcases gg.at_ i hi with z | ⟨z, _⟩
    · exact z
    · exact absurd z (by omega)⟩
  refine ⟨V4 ++ [.lst (((lotsOf m.cs.length (lowsP m.cs.length m.ts)).map wlD).map W.d)], ?_, ff.app (Nat.le_refl _) _⟩
  have eI : ∀ V, itemsOf (.d (tsD m.ts)) V = some (m.ts.map tcD, V) := fun V => rfl
  unfold jnB c5E c1E at e2
  unfold R__law_joined runB B__law_joined
  simp only [startR, List.map_cons, List.map_nil, List.length_cons, List.length_nil, Nat.zero_add, Nat.reduceAdd, Nat.reduceSub, List.replicate, List.cons_append, List.nil_append, st_seq, st_set, st_ret, st_if, st_exp, st_par, st_skip, ev_call, ev_cons, ev_nil, ev_var, ev_c, ev_op2, ev_tru, ev_or, ev_and, ev_not, List.getElem?_cons_zero, List.getElem?_cons_succ, bind_ok, ofO_some, if_true, ofD_nil, List.append_nil, fl_ok, List.set_cons_zero, List.set_cons_succ, truth_b, Option.map_some, Bool.not_true, Bool.not_false, Bool.false_eq_true, if_false, e1]
  rw [st_for]
  simp only [it_ev, startR, List.map_cons, List.map_nil, List.length_cons, List.length_nil, Nat.zero_add, Nat.reduceAdd, Nat.reduceSub, List.replicate, List.cons_append, List.nil_append, st_seq, st_set, st_ret, st_if, st_exp, st_par, st_skip, ev_call, ev_cons, ev_nil, ev_var, ev_c, ev_op2, ev_tru, ev_or, ev_and, ev_not, List.getElem?_cons_zero, List.getElem?_cons_succ, bind_ok, ofO_some, if_true, ofD_nil, List.append_nil, fl_ok, List.set_cons_zero, List.set_cons_succ, truth_b, Option.map_some, Bool.not_true, Bool.not_false, Bool.false_eq_true, if_false, ix_m1, eI, e2, ev_cb]
  rw [e4]
  simp only [startR, List.map_cons, List.map_nil, List.length_cons, List.length_nil, Nat.zero_add, Nat.reduceAdd, Nat.reduceSub, List.replicate, List.cons_append, List.nil_append, st_seq, st_set, st_ret, st_if, st_exp, st_par, st_skip, ev_call, ev_cons, ev_nil, ev_var, ev_c, ev_op2, ev_tru, ev_or, ev_and, ev_not, List.getElem?_cons_zero, List.getElem?_cons_succ, bind_ok, ofO_some, if_true, ofD_nil, List.append_nil, fl_ok, List.set_cons_zero, List.set_cons_succ, truth_b, Option.map_some, Bool.not_true, Bool.not_false, Bool.false_eq_true, if_false, e5, e6]
end
end G
set_option Elab.async false
set_option linter.all false
set_option maxRecDepth 100000
set_option maxHeartbeats 4000000

/-! H8: two ways come to a touch; the gaps round a wheel are its count -/
namespace G
open PySem PySem.Spec L2 PyProof.Rows
set_option autoImplicit false

theorem into_perm {m : Mach} (ok : Ok m) {k : Nat} {t : Tch} (hk : m.ts[k]? = some t) : ((spotsOf m.ts).filter fun s => decide (nmb m.ts (gls m (-1) s) = k)).Perm [gls m 1 t.1, gls m 1 t.2] := by
  have ht := List.mem_of_getElem? hk
  have g1 := ok.good t ht
  have m1 : t.1 ∈ spotsOf m.ts := List.mem_flatMap.mpr ⟨t, ht, by simp⟩
  have m2 : t.2 ∈ spotsOf m.ts := List.mem_flatMap.mpr ⟨t, ht, by simp⟩
  have hne : t.1 ≠ t.2 := fun z => by
    have := g1.2.2
    rw [z] at this
    exact ltS_irr _ this
  have hne2 : gls m 1 t.1 ≠ gls m 1 t.2 := fun z => hne (by rw [← (gls_back ok m1).2, z, (gls_back ok m2).2])
  rw [List.perm_ext_iff_of_nodup (ok.nd.filter _) (by simp [hne2])]
  intro s
  rw [List.mem_filter, decide_eq_true_eq]
  constructor
  · rintro ⟨hs, hn⟩
    obtain ⟨u, hu, hsu⟩ := nmb_spec ok.nd (gls_in ok (d := -1) hs)
    rw [hn, hk] at hu
    cases hu
    have e := (gls_forth ok hs).2
    rcases hsu with z | z
    · rw [z] at e; simp [← e]
    · rw [z] at e; simp [← e]
  · intro hs
    rcases List.mem_cons.mp hs with rfl | hs
    · exact ⟨gls_in ok m1, by rw [(gls_back ok m1).2]; exact nmb_of ok.nd hk (.inl rfl)⟩
    · have e : s = gls m 1 t.2 := by simpa using hs
      subst e
      exact ⟨gls_in ok m2, by rw [(gls_back ok m2).2]; exact nmb_of ok.nd hk (.inr rfl)⟩

section
variable {m : Mach}
theorem two_ways (ok : Ok m) {k : Nat} (hk : k < m.ts.length) : ((usW m).filter fun s => decide (nx m s = k)).length = 2 := by
  have ht : m.ts[k]? = some m.ts[k] := List.getElem?_eq_getElem hk
  have p := into_perm ok ht
  have q := (usW_perm m).filter fun s => decide (nx m s = k)
  rw [q.length_eq]
  exact p.length_eq
theorem least_ex {P : Nat → Prop} : ∀ n : Nat, P n → ∃ i, P i ∧ ∀ j, j < i → ¬ P j := fun n h => by
  have key : ∀ k, (∃ i, i ≤ k ∧ P i) → ∃ i, P i ∧ ∀ j, j < i → ¬ P j := fun k => by
    induction k with
    | zero => rintro ⟨i, hi, hp⟩; exact ⟨i, hp, fun j hj => by omega⟩
    | succ k ih =>
      intro ⟨i, hi, hp⟩
      by_cases c : ∃ i, i ≤ k ∧ P i
      · exact ih c
      · exact ⟨i, hp, fun j hj hq => c ⟨j, by omega, hq⟩⟩
  exact key n ⟨n, Nat.le_refl _, h⟩
theorem step_inj (ok : Ok m) {s t : Spot} (hs : s ∈ spotsOf m.ts) (ht : t ∈ spotsOf m.ts) {i j : Nat} (hi : i < gp m s) (hji : j ≤ i) (e : stp m.cs (-1) s i = stp m.cs (-1) t j) : s = t := by
  have os := spot_ok ok hs
  have ot := spot_ok ok ht
  have G := (find_gap ok (-1) hs).2
  have h1 := stp_forth (g := i) (k := j) os hji
  have h2 := stp_forth (g := j) (k := j) ot (Nat.le_refl _)
  rw [e, h2, Nat.sub_self, stp_zero ot] at h1
  by_cases c : i - j = 0
  · rw [c, stp_zero os] at h1
    exact h1.symm
  · refine absurd ?_ (G.free (i - j) (by omega) (by unfold gp at hi; omega))
    rw [← h1]
    exact ht
theorem place_of (ok : Ok m) {s0 : Spot} (hs : s0 ∈ spotsOf m.ts) {p : Nat} (hp : p < m.cs.getD s0.1 1) : ∃ s i, s ∈ spotsOf m.ts ∧ s.1 = s0.1 ∧ i < gp m s ∧ (stp m.cs (-1) s i).2 = p := by
  have o0 := spot_ok ok hs
  have c0 := cnt_of o0
  obtain ⟨t, ht⟩ : ∃ t : Spot, t = (s0.1, p) := ⟨_, rfl⟩
  have ot : okS m.cs t := by
    obtain ⟨c, h1, h2⟩ := o0
    refine ⟨c, by rw [ht]; exact h1, ?_⟩
    rw [ht]
    have : m.cs.getD s0.1 1 = c := by rw [List.getD_eq_getElem?_getD, h1]; rfl
    rw [this] at hp
    exact hp
  have w : stp m.cs 1 t (s0.2 + m.cs.getD s0.1 1 - p) = s0 := by
    have e1 := stp_cast (d := 1) (g := s0.2 + m.cs.getD s0.1 1 - p) ot
    have t1 : t.1 = s0.1 := by rw [ht]
    have t2 : t.2 = p := by rw [ht]
    have e2 : (t.2 : Int) + 1 * ((s0.2 + m.cs.getD s0.1 1 - p : Nat) : Int) = s0.2 + (m.cs.getD s0.1 1 : Nat) := by rw [t2]; omega
    rw [t1, e2, Int.add_emod_right, self_mod o0] at e1
    refine Prod.ext t1 ?_
    show (stp m.cs 1 t _).2 = s0.2
    omega
  obtain ⟨i, h1, h2⟩ := least_ex (P := fun i => stp m.cs 1 t i ∈ spotsOf m.ts) _ (by show stp m.cs 1 t _ ∈ _; rw [w]; exact hs)
  have G := (find_gap ok (-1) h1).2
  have bk := stp_back (g := i) (k := i) ot (Nat.le_refl _)
  rw [Nat.sub_self, stp_zero ot] at bk
  refine ⟨_, i, h1, by show t.1 = s0.1; rw [ht], ?_, by rw [bk, ht]⟩
  by_cases c : i < gp m (stp m.cs 1 t i)
  · exact c
  · have hle : gapN m (-1) (stp m.cs 1 t i) ≤ i := by unfold gp at c; omega
    have hit := G.hit
    rw [stp_back (g := i) ot hle] at hit
    have := G.pos
    exact absurd hit (h2 _ (by omega))
theorem gaps_sum (ok : Ok m) {s0 : Spot} (hs : s0 ∈ spotsOf m.ts) : (((usW m).filter fun s => decide (s.1 = s0.1)).map (gp m)).sum = m.cs.getD s0.1 1 := by
  obtain ⟨l, hl⟩ : ∃ l, l = (usW m).filter fun s => decide (s.1 = s0.1) := ⟨_, rfl⟩
  have hm : ∀ s, s ∈ l ↔ s ∈ spotsOf m.ts ∧ s.1 = s0.1 := fun s => by
    rw [hl, List.mem_filter, (usW_perm m).mem_iff, decide_eq_true_iff]
  have hnd : l.Nodup := by
    rw [hl]
    exact ((usW_perm m).nodup_iff.mpr ok.nd).filter _
  rw [← hl]
  have len : ∀ l : List Spot, (l.flatMap fun s => (List.range (gp m s)).map fun i => (stp m.cs (-1) s i).2).length = (l.map (gp m)).sum := fun l => by
    induction l with
    | nil => rfl
    | cons s l ih => rw [List.flatMap_cons, List.length_append, ih, List.map_cons, List.sum_cons, List.length_map, List.length_range]
  rw [← len l]
  have same : ∀ {s t : Spot} {i j : Nat}, s ∈ l → t ∈ l → (stp m.cs (-1) s i).2 = (stp m.cs (-1) t j).2 → stp m.cs (-1) s i = stp m.cs (-1) t j := fun {s t i j} h1 h2 e => Prod.ext (((hm s).mp h1).2.trans ((hm t).mp h2).2.symm) e
  have nd : (l.flatMap fun s => (List.range (gp m s)).map fun i => (stp m.cs (-1) s i).2).Nodup := by
    refine List.pairwise_flatMap.mpr ⟨fun s h => ?_, ?_⟩
    · refine List.pairwise_map.mpr (List.Pairwise.imp_of_mem ?_ (List.pairwise_lt_range (n := gp m s)))
      intro i j hi hj hij e
      have hs' := ((hm s).mp h).1
      have e' := same h h e
      have os := spot_ok ok hs'
      have G := (find_gap ok (-1) hs').2
      have hj' := List.mem_range.mp hj
      have h1 := stp_forth (g := j) (k := i) os (by omega)
      have h2 := stp_forth (g := i) (k := i) os (Nat.le_refl _)
      rw [← e', h2, Nat.sub_self, stp_zero os] at h1
      refine absurd ?_ (G.free (j - i) (by omega) (by unfold gp at hj'; omega))
      rw [← h1]
      exact hs'
    · refine List.Pairwise.imp_of_mem ?_ hnd
      intro s t h1 h2 hne x hx y hy e
      obtain ⟨i, hi, rfl⟩ := List.mem_map.mp hx
      obtain ⟨j, hj, rfl⟩ := List.mem_map.mp hy
      have e' := same h1 h2 e
      rcases Nat.le_total j i with c | c
      · exact hne (step_inj ok ((hm s).mp h1).1 ((hm t).mp h2).1 (List.mem_range.mp hi) c e')
      · exact hne (step_inj ok ((hm t).mp h2).1 ((hm s).mp h1).1 (List.mem_range.mp hj) c e'.symm).symm
  have pm : (l.flatMap fun s => (List.range (gp m s)).map fun i => (stp m.cs (-1) s i).2).Perm (List.range (m.cs.getD s0.1 1)) := (List.perm_ext_iff_of_nodup nd List.nodup_range).mpr fun p => by
    rw [List.mem_flatMap, List.mem_range]
    constructor
    · rintro ⟨s, h1, h2⟩
      obtain ⟨i, hi, rfl⟩ := List.mem_map.mp h2
      have hs' := (hm s).mp h1
      have := cnt_of (stp_ok (d := -1) (g := i) (spot_ok ok hs'.1))
      have e : (stp m.cs (-1) s i).1 = s0.1 := hs'.2
      rw [e] at this
      exact this
    · intro hp
      obtain ⟨s, i, a1, a2, a3, a4⟩ := place_of ok hs hp
      exact ⟨s, (hm s).mpr ⟨a1, a2⟩, List.mem_map.mpr ⟨i, List.mem_range.mpr a3, a4⟩⟩
  rw [pm.length_eq, List.length_range]
end
end G
set_option Elab.async false
set_option linter.all false
set_option maxRecDepth 100000
set_option maxHeartbeats 4000000

/-! H9: what is said of a spot of no touch -/
namespace G
open PySem PySem.Spec L2 PyProof.Rows
set_option autoImplicit false

section
variable {m : Mach} {ca : Nat → Addr}
theorem isx (b : Bool) {kd : List (Nat × Bool)} {c : Nat} (h : kd.lookup c = some b) {i : Nat} {ρ : Slt} {S : Sto} (hρ : ρ[i]? = some (some (.xc (ca c) c []))) : fIsX ca kd (fVar i) ρ S = .ok (.d (.bool b)) S := by
  unfold fIsX
  simp only [ev_var, hρ, bind_ok, if_true, h]
theorem said_free {g : Sto → Out W} {S V : Sto} (hg : g S = .ex ⟨1, []⟩ V) : ∃ V', (∀ f : Addr, R__law_said ca f g [.v (.ref f)] S = .ok (.d (.tuple [.str "touch"])) V') ∧ Fr V.length V V' := by
  obtain ⟨F, hF⟩ : ∃ F : W, F = .d (.bool false) := ⟨_, rfl⟩
  obtain ⟨T, hT⟩ : ∃ T : W, T = .d (.bool true) := ⟨_, rfl⟩
  obtain ⟨x, hx⟩ : ∃ x : W, x = .xc (ca 1) 1 [] := ⟨_, rfl⟩
  obtain ⟨V1, hV1⟩ : ∃ V1, V1 = V ++ [Cell.lst [F, F, F, F]] := ⟨_, rfl⟩
  obtain ⟨V2, hV2⟩ : ∃ V2, V2 = V1 ++ [Cell.lst [F, T]] := ⟨_, rfl⟩
  obtain ⟨V3, hV3⟩ : ∃ V3, V3 = V2 ++ [Cell.lst ([F, F, F, F] ++ [F, T])] := ⟨_, rfl⟩
  obtain ⟨V4, hV4⟩ : ∃ V4, V4 = V3 ++ [Cell.lst [F, T]] := ⟨_, rfl⟩
  obtain ⟨V5, hV5⟩ : ∃ V5, V5 = V4 ++ [Cell.lst [F, T]] := ⟨_, rfl⟩
  have l1 : V1.length = V.length + 1 := by rw [hV1]; simp
  have l2 : V2.length = V1.length + 1 := by rw [hV2]; simp
  have l3 : V3.length = V2.length + 1 := by rw [hV3]; simp
  have l4 : V4.length = V3.length + 1 := by rw [hV4]; simp
  have is0 : ∀ (i : Nat) (ρ : Slt) (S : Sto), ρ[i]? = some (some x) → fIsX ca [(0, false), (1, false)] (fVar i) ρ S = .ok F S := fun i ρ S h => by rw [hF]; exact isx false rfl (by rw [h, hx])
  have isA : ∀ (i : Nat) (ρ : Slt) (S : Sto), ρ[i]? = some (some x) → fIsX ca [(0, true), (1, false)] (fVar i) ρ S = .ok F S := fun i ρ S h => by rw [hF]; exact isx false rfl (by rw [h, hx])
  have isB : ∀ (i : Nat) (ρ : Slt) (S : Sto), ρ[i]? = some (some x) → fIsX ca [(0, false), (1, true)] (fVar i) ρ S = .ok T S := fun i ρ S h => by rw [hT]; exact isx true rfl (by rw [h, hx])
  have eL4 : ∀ ρ : Slt, ρ[1]? = some (some x) → fLst (fCons (fIsX ca [(0, false), (1, false)] (fVar 1)) (fCons (fIsX ca [(0, false), (1, false)] (fVar 1)) (fCons (fIsX ca [(0, false), (1, false)] (fVar 1)) (fCons (fIsX ca [(0, false), (1, false)] (fVar 1)) fNil)))) ρ V = .ok (.o V.length) V1 := fun ρ h => by
    unfold fLst
    simp only [ev_cons, ev_nil, is0 1 ρ V h, bind_ok, hV1]
    rfl
  have eL2 : ∀ (ρ : Slt) (U : Sto), ρ[1]? = some (some x) → fLst (fCons (fIsX ca [(0, true), (1, false)] (fVar 1)) (fCons (fIsX ca [(0, false), (1, true)] (fVar 1)) fNil)) ρ U = .ok (.o U.length) (U ++ [.lst [F, T]]) := fun ρ U h => by
    unfold fLst
    simp only [ev_cons, ev_nil, isA 1 ρ U h, isB 1 ρ U h, bind_ok]
    rfl
  have n1 : V2[V.length]? = some (.lst [F, F, F, F]) := by rw [hV2, List.getElem?_append_left (by omega), hV1]; exact get_len_app _ _ _
  have n2 : V2[V1.length]? = some (.lst [F, T]) := by rw [hV2]; exact get_len_app _ _ _
  have eA := add_o n1 n2 (by simp)
  rw [← hV3] at eA
  have n3 : V4[V2.length]? = some (.lst ([F, F, F, F] ++ [F, T])) := by rw [hV4, List.getElem?_append_left (by omega), hV3]; exact get_len_app _ _ _
  have n3' : ∀ U : Sto, gIx (.o V2.length) (.d (.int 5)) (V4 ++ U) = some (T, V4 ++ U) := fun U => by
    have q : (V4 ++ U)[V2.length]? = some (.lst ([F, F, F, F] ++ [F, T])) := by rw [List.getElem?_append_left (by omega)]; exact n3
    exact ix_o q (i := 5) rfl
  have i5 : gIx (.o V2.length) (.d (.int 5)) V4 = some (T, V4) := ix_o n3 (i := 5) rfl
  have n35 : V5[V2.length]? = some (.lst ([F, F, F, F] ++ [F, T])) := by rw [hV5, List.getElem?_append_left (by omega)]; exact n3
  have i5' : gIx (.o V2.length) (.d (.int 5)) V5 = some (T, V5) := ix_o n35 (i := 5) rfl
  have i4' : gIx (.o V2.length) (.d (.int 4)) V5 = some (F, V5) := ix_o n35 (i := 4) rfl
  have eC : gCountB (.o V2.length) [.d (.bool true)] V4 = some (.d (.int 1), V4) := by
    have v : view (.o V2.length) V4 = some (.list [.bool false, .bool false, .bool false, .bool false, .bool false, .bool true]) := by
      rw [hF, hT] at n3
      exact view_o (ds := [.bool false, .bool false, .bool false, .bool false, .bool false, .bool true]) n3
    unfold gCountB
    simp only [v]
    rfl
  have hp : (hpl (.o V2.length) V4).isSome = true := by rw [hpl_at n3]; rfl
  have n4 : V5[V3.length]? = some (.lst [F, T]) := by rw [hV5, List.getElem?_append_left (by omega), hV4]; exact get_len_app _ _ _
  have n5 : V5[V4.length]? = some (.lst [F, T]) := by rw [hV5]; exact get_len_app _ _ _
  have eE : dEq true (.o V3.length) (.o V4.length) V5 = some (.d (.bool false), V5) := by
    rw [hF, hT] at n4 n5
    unfold dEq
    rw [view_o (ds := [.bool false, .bool true]) n4, view_o (ds := [.bool false, .bool true]) n5]
    rfl
  have eN : ∀ ρ : Slt, ρ[4]? = some (some (.o V2.length)) → fLst (fCons (fNotE (fOp2 gIx (fVar 4) (fC (.d (.int 5))))) (fCons (fOp2 gIx (fVar 4) (fC (.d (.int 5)))) fNil)) ρ V4 = .ok (.o V4.length) V5 := fun ρ h => by
    have q : fNotE (fOp2 gIx (fVar 4) (fC (.d (.int 5)))) ρ V4 = .ok F V4 := by
      unfold fNotE
      simp only [ev_op2, ev_var, ev_c, h, bind_ok, i5, ofO_some, hT, hF]
      rfl
    rw [fLst2, q]
    simp only [bind_ok, ev_op2, ev_var, ev_c, h, i5, ofO_some, hV5]
  have eT : ∀ (ρ : Slt), fTup (fCons (fC (.d (.str "touch"))) fNil) ρ V5 = .ok (.d (.tuple [.str "touch"])) V5 := fun ρ => rfl
  refine ⟨V5, fun f => ?_, by rw [hV5, hV4, hV3, hV2, hV1]; exact ((((((Fr.refl _ _).app (Nat.le_refl _) _).app (Nat.le_refl _) _).app (Nat.le_refl _) _).app (Nat.le_refl _) _).app (Nat.le_refl _) _)⟩
  have tF : truth F = some false := by rw [hF]; rfl
  have tT : truth T = some true := by rw [hT]; rfl
  have hTry : fTryD ca [0, 1] f g 2 1 [some (.v (.ref f)), some (.d .none), some (.d .none), none, none, none, none] S = .nx [none, some x, none, none, none, none, none] V := by
    unfold fTryD
    simp only [List.getElem?_cons_zero, if_true, hg]
    rw [if_pos (by simp), hx]
    rfl
  have eT0 : ∀ (ρ : Slt) (S : Sto), fTup (fCons (fC (.d .none)) (fCons (fC (.d .none)) fNil)) ρ S = .ok (.d (.tuple [.none, .none])) S := fun ρ S => rfl
  have eg : ∀ S : Sto, gTp 2 (gsCons (gNm 1) (gsCons (gNm 2) gsNil)) (.d (.tuple [.none, .none])) [some (.v (.ref f)), none, none, none, none, none, none] S = some [some (.v (.ref f)), some (.d .none), some (.d .none), none, none, none, none] := fun S => rfl
  have eNo : ∀ S : Sto, gIsN false x (.d .none) S = some (.d (.bool false), S) := fun S => by rw [hx]; rfl

  unfold R__law_said runB B__law_said
  simp only [startR, List.map_cons, List.map_nil, List.length_cons, List.length_nil, Nat.zero_add, Nat.reduceAdd, Nat.reduceSub, List.replicate, List.cons_append, List.nil_append]
  rw [st_seq, st_asg, eT0]
  simp only [fl_ok, eg]
  rw [st_seq, hTry]
  simp only [startR, List.map_cons, List.map_nil, List.length_cons, List.length_nil, Nat.zero_add, Nat.reduceAdd, Nat.reduceSub, List.replicate, List.cons_append, List.nil_append, st_seq, st_set, st_ret, st_if, st_exp, st_par, st_skip, ev_call, ev_cons, ev_nil, ev_var, ev_c, ev_op2, ev_tru, ev_or, ev_and, ev_not, List.getElem?_cons_zero, List.getElem?_cons_succ, bind_ok, ofO_some, if_true, ofD_nil, List.append_nil, fl_ok, List.set_cons_zero, List.set_cons_succ, truth_b, Option.map_some, Bool.not_true, Bool.not_false, Bool.false_eq_true, if_false, eNo]
  rw [eL4 _ rfl]
  simp only [startR, List.map_cons, List.map_nil, List.length_cons, List.length_nil, Nat.zero_add, Nat.reduceAdd, Nat.reduceSub, List.replicate, List.cons_append, List.nil_append, st_seq, st_set, st_ret, st_if, st_exp, st_par, st_skip, ev_call, ev_cons, ev_nil, ev_var, ev_c, ev_op2, ev_tru, ev_or, ev_and, ev_not, List.getElem?_cons_zero, List.getElem?_cons_succ, bind_ok, ofO_some, if_true, ofD_nil, List.append_nil, fl_ok, List.set_cons_zero, List.set_cons_succ, truth_b, Option.map_some, Bool.not_true, Bool.not_false, Bool.false_eq_true, if_false]
  rw [eL2 _ _ rfl]
  simp only [startR, List.map_cons, List.map_nil, List.length_cons, List.length_nil, Nat.zero_add, Nat.reduceAdd, Nat.reduceSub, List.replicate, List.cons_append, List.nil_append, st_seq, st_set, st_ret, st_if, st_exp, st_par, st_skip, ev_call, ev_cons, ev_nil, ev_var, ev_c, ev_op2, ev_tru, ev_or, ev_and, ev_not, List.getElem?_cons_zero, List.getElem?_cons_succ, bind_ok, ofO_some, if_true, ofD_nil, List.append_nil, fl_ok, List.set_cons_zero, List.set_cons_succ, truth_b, Option.map_some, Bool.not_true, Bool.not_false, Bool.false_eq_true, if_false, ← hV2, eA]
  rw [is0 1 _ _ rfl]
  simp only [startR, List.map_cons, List.map_nil, List.length_cons, List.length_nil, Nat.zero_add, Nat.reduceAdd, Nat.reduceSub, List.replicate, List.cons_append, List.nil_append, st_seq, st_set, st_ret, st_if, st_exp, st_par, st_skip, ev_call, ev_cons, ev_nil, ev_var, ev_c, ev_op2, ev_tru, ev_or, ev_and, ev_not, List.getElem?_cons_zero, List.getElem?_cons_succ, bind_ok, ofO_some, if_true, ofD_nil, List.append_nil, fl_ok, List.set_cons_zero, List.set_cons_succ, truth_b, Option.map_some, Bool.not_true, Bool.not_false, Bool.false_eq_true, if_false]
  rw [eL2 _ _ rfl]
  simp only [startR, List.map_cons, List.map_nil, List.length_cons, List.length_nil, Nat.zero_add, Nat.reduceAdd, Nat.reduceSub, List.replicate, List.cons_append, List.nil_append, st_seq, st_set, st_ret, st_if, st_exp, st_par, st_skip, ev_call, ev_cons, ev_nil, ev_var, ev_c, ev_op2, ev_tru, ev_or, ev_and, ev_not, List.getElem?_cons_zero, List.getElem?_cons_succ, bind_ok, ofO_some, if_true, ofD_nil, List.append_nil, fl_ok, List.set_cons_zero, List.set_cons_succ, truth_b, Option.map_some, Bool.not_true, Bool.not_false, Bool.false_eq_true, if_false, ← hV4, ev_mt, hp, eC, ne_int, decide_true, tF]
  rw [eN _ rfl]
  simp only [startR, List.map_cons, List.map_nil, List.length_cons, List.length_nil, Nat.zero_add, Nat.reduceAdd, Nat.reduceSub, List.replicate, List.cons_append, List.nil_append, st_seq, st_set, st_ret, st_if, st_exp, st_par, st_skip, ev_call, ev_cons, ev_nil, ev_var, ev_c, ev_op2, ev_tru, ev_or, ev_and, ev_not, List.getElem?_cons_zero, List.getElem?_cons_succ, bind_ok, ofO_some, if_true, ofD_nil, List.append_nil, fl_ok, List.set_cons_zero, List.set_cons_succ, truth_b, Option.map_some, Bool.not_true, Bool.not_false, Bool.false_eq_true, if_false, decide_true, eE, i4', i5', tF, tT, ev_ife, eT]
end
end G
set_option Elab.async false
set_option linter.all false
set_option maxRecDepth 100000
set_option maxHeartbeats 4000000

/-! H10: pieces of what the law looks at -/
namespace G
open PySem PySem.Spec L2 PyProof.Rows
set_option autoImplicit false

theorem lots_nd {m : Mach} (h : Wm m) : (lotsM m).Nodup := by
  have := lots_nodup h
  unfold List.Nodup at this
  rw [List.pairwise_flatten] at this
  refine this.2.imp_of_mem fun {a c} ha hc hd e => ?_
  obtain ⟨r, hr, _, _⟩ := lots_lot h.ts_lt ha
  have hm := List.mem_of_head? hr.hd
  exact hd r hm r (e ▸ hm) rfl
theorem filter_one {α : Type} [DecidableEq α] {p : α → Bool} {a : α} : ∀ {l : List α}, l.Nodup → a ∈ l → (∀ x ∈ l, p x = true ↔ x = a) → l.filter p = [a]
  | x :: l, hn, ha, hp => by
    rw [List.nodup_cons] at hn
    rw [List.filter_cons]
    by_cases e : x = a
    · rw [(hp x (by simp)).mpr e, if_pos rfl]
      have : l.filter p = [] := by
        rw [List.filter_eq_nil_iff]
        intro y hy z
        have := (hp y (by simp [hy])).mp z
        exact hn.1 (by rw [e, ← this]; exact hy)
      rw [this, e]
    · have px : p x = false := by
        cases c : p x with
        | false => rfl
        | true => exact absurd ((hp x (by simp)).mp c) e
      rw [px, if_neg Bool.false_ne_true]
      exact filter_one hn.2 ((List.mem_cons.mp ha).resolve_left fun z => e z.symm) fun y hy => hp y (by simp [hy])
theorem lot_filter {m : Mach} (h : Wm m) {w : Nat} (hw : w < m.cs.length) : (lotsM m).filter (fun L => decide (w ∈ L)) = [atM m w] := by
  obtain ⟨h1, h2, _⟩ := lot_at h.ts_lt hw
  refine filter_one (lots_nd h) h1 fun L hL => ?_
  rw [decide_eq_true_iff]
  exact ⟨fun z => lot_only h.ts_lt hL z, fun z => by rw [z]; exact h2⟩
theorem r_own_lot_of {m : Mach} (h : Wm m) {w : Nat} (hw : w < m.cs.length) (S : Sto) : Pu (R_own_lot_of [.d (mD m), .d (.int (w : Nat))] S) S (.d (wlD (atM m w))) := by
  obtain ⟨S1, e1, x1⟩ := (r_own_lots h S).op
  have hsm := (lots_small h).1
  have eI : itemsOf (.d (.tuple (losD m.cs.length (lowsP m.cs.length m.ts)))) S1 = some ((lotsM m).map wlD, S1) := rfl
  obtain ⟨V', e', f', l', n'⟩ := lc_gen (f := fIt (fCall 1 [] R_own_lots (fCons (fVar 0) fNil))) (g := gNm 2) (t := fTru (fOp2 (gIn false) (fVar 1) (fVar 2))) (e := fVar 2) (vs := [2]) (ρ := [some (.d (mD m)), some (.d (.int (w : Nat))), none]) (S := S) (S0 := S1) (ds := lotsM m) (mk := wlD) (fun L => decide (w ∈ L)) wlD (Fr S1.length S1) (by
      simp only [it_ev, ev_call, ev_cons, ev_nil, ev_var, List.getElem?_cons_zero, List.getElem?_cons_succ, bind_ok, List.length_cons, List.length_nil, Nat.zero_add, if_true, ofD_nil, List.append_nil, e1, eI, ofO_some]) (by omega) (fun V x hV hl => hV.set (Nat.le_refl _) x) ((Fr.refl _ _).app (Nat.le_refl _) _)
    (fun L hL => ⟨_, fun V => rfl, fun V hV hl => ⟨V, by
      simp only [wipeR, List.set_cons_zero, List.set_cons_succ, ev_tru, ev_op2, ev_var, List.getElem?_cons_zero, List.getElem?_cons_succ, bind_ok, in_n, ofO_some, truth_b, Option.map_some], hV, Nat.le_refl _, rfl, fun _ => ⟨V, rfl, hV, Nat.le_refl _, rfl⟩⟩⟩)
  rw [lot_filter h hw] at n'
  have ix0 : gIx (.o S1.length) (.d (.int 0)) V' = some (.d (wlD (atM m w)), V') := (show Rd V' _ _ from .inl n').ix (i := 0) rfl
  have f1 := Fr.of S.length (Nat.le_refl _) x1
  refine (f1.trans (f'.weak f1.le)).pu ?_
  unfold R_own_lot_of runB B_own_lot_of
  simp only [startR, List.map_cons, List.map_nil, List.length_cons, List.length_nil, Nat.zero_add, Nat.reduceAdd, Nat.reduceSub, List.replicate, List.cons_append, List.nil_append, st_seq, st_set, st_ret, st_if, st_exp, st_par, st_skip, ev_call, ev_cons, ev_nil, ev_var, ev_c, ev_op2, ev_tru, ev_or, ev_and, ev_not, List.getElem?_cons_zero, List.getElem?_cons_succ, bind_ok, ofO_some, if_true, ofD_nil, List.append_nil, fl_ok, List.set_cons_zero, List.set_cons_succ, truth_b, Option.map_some, Bool.not_true, Bool.not_false, Bool.false_eq_true, if_false, e', ix0]
section
variable {m : Mach}
theorem r_need_wheel {w : Nat} (hw : w < m.cs.length) (S : Sto) : R_need_wheel [.d (mD m), .d (.int (w : Nat))] S = .ok (.d .none) S := by
  have ql : gLen [.d (csD m.cs)] S = some (.d (.int (m.cs.length : Nat)), S) := by
    rw [show csD m.cs = .tuple (m.cs.map fun c => .int (c : Nat)) from rfl, len_t, List.length_map]
  have a1 : decide ((0 : Int) ≤ ((w : Nat) : Int)) = true := decide_eq_true (by omega)
  have a2 : decide (((w : Nat) : Int) < ((m.cs.length : Nat) : Int)) = true := decide_eq_true (by omega)
  unfold R_need_wheel runB B_need_wheel
  simp only [startR, List.map_cons, List.map_nil, List.length_cons, List.length_nil, Nat.zero_add, Nat.reduceAdd, Nat.reduceSub, List.replicate, List.cons_append, List.nil_append, st_seq, st_set, st_ret, st_if, st_exp, st_par, st_skip, ev_call, ev_cons, ev_nil, ev_var, ev_c, ev_op2, ev_tru, ev_or, ev_and, ev_not, List.getElem?_cons_zero, List.getElem?_cons_succ, bind_ok, ofO_some, if_true, ofD_nil, List.append_nil, fl_ok, List.set_cons_zero, List.set_cons_succ, truth_b, Option.map_some, Bool.not_true, Bool.not_false, Bool.false_eq_true, if_false, isW, ev_chain, ev_len, ix_m0, ql, le_int', lt_int', a1, a2]
theorem rp_mD {m : Mach} (ok : Ok m) : Rp 80000 4 (mD m) := by
  have fw := ok.few
  have sp : ∀ s, okS m.cs s → Rp 12 1 (sD s) := fun s ⟨c, hc, hs⟩ => by
    have a1 := (List.getElem?_eq_some_iff.mp hc).1
    have a2 := fw.one c (List.mem_of_getElem? hc)
    have h16 := ok.l16
    have := rp_tup (l := [.int (s.1 : Nat), .int (s.2 : Nat)]) (w := 5) (dep := 0) (fun x hx => by
      simp only [List.mem_cons, List.not_mem_nil, or_false] at hx
      rcases hx with rfl | rfl
      · exact rp_int (by rw [Int.natAbs_natCast]; omega) (by decide)
      · exact rp_int (by rw [Int.natAbs_natCast]; omega) (by decide))
    exact this.mono (show 2 * 6 ≤ 12 by decide) (by decide)
  have c1 : Rp 96 1 (csD m.cs) := by
    have := rp_tup (l := m.cs.map fun c => .int (c : Nat)) (w := 5) (dep := 0) (fun x hx => by
      obtain ⟨c, hc, rfl⟩ := List.mem_map.mp hx
      have := fw.one c hc
      exact rp_int (by rw [Int.natAbs_natCast]; omega) (by decide))
    exact this.mono (by rw [List.length_map]; have := ok.l16; omega) (by decide)
  have c2 : Rp 216 3 (tsD m.ts) := by
    have := rp_tup (l := m.ts.map tcD) (w := 26) (dep := 2) (fun x hx => by
      obtain ⟨t, ht, rfl⟩ := List.mem_map.mp hx
      obtain ⟨o1, o2, _⟩ := ok.good t ht
      have := rp_tup (l := [sD t.1, sD t.2]) (w := 12) (dep := 1) (fun x hx => by
        simp only [List.mem_cons, List.not_mem_nil, or_false] at hx
        rcases hx with rfl | rfl
        · exact sp _ o1
        · exact sp _ o2)
      exact this)
    exact this.mono (by rw [List.length_map]; have := ok.l8; omega) (by decide)
  have := rp_tup (l := [csD m.cs, tsD m.ts]) (w := 216) (dep := 3) (fun x hx => by
    simp only [List.mem_cons, List.not_mem_nil, or_false] at hx
    rcases hx with rfl | rfl
    · exact c1.mono (by decide) (by decide)
    · exact c2)
  exact this.mono (show 2 * 217 ≤ 80000 by decide) (by decide)
theorem r_lot_of (ok : Ok m) {w : Nat} (hw : w < m.cs.length) (S : Sto) : ∃ V, R_lot_of [.d (mD m), .d (.int (w : Nat))] S = .ok (.d (wlD (atM m w))) V ∧ Fr S.length S V := by
  obtain ⟨V1, e1, f1⟩ := pu_fr (r_need_machine ok S)
  obtain ⟨V2, e2, f2⟩ := pu_fr (r_own_lot_of ok.wm hw V1)
  refine ⟨V2, ?_, f1.trans (f2.weak f1.le)⟩
  unfold R_lot_of runB B_lot_of
  simp only [startR, List.map_cons, List.map_nil, List.length_cons, List.length_nil, Nat.zero_add, Nat.reduceAdd, Nat.reduceSub, List.replicate, List.cons_append, List.nil_append, st_seq, st_set, st_ret, st_if, st_exp, st_par, st_skip, ev_call, ev_cons, ev_nil, ev_var, ev_c, ev_op2, ev_tru, ev_or, ev_and, ev_not, List.getElem?_cons_zero, List.getElem?_cons_succ, bind_ok, ofO_some, if_true, ofD_nil, List.append_nil, fl_ok, List.set_cons_zero, List.set_cons_succ, truth_b, Option.map_some, Bool.not_true, Bool.not_false, Bool.false_eq_true, if_false, e1, r_need_wheel hw, e2]
def dueD (m : Mach) : PyData := .tuple ((lotsM m).map wlD)
theorem r_lots (ok : Ok m) (S : Sto) : ∃ V, R_lots [.d (mD m)] S = .ok (.d (dueD m)) V ∧ Fr S.length S V := by
  obtain ⟨V1, e1, f1⟩ := pu_fr (r_need_machine ok S)
  obtain ⟨V2, e2, f2⟩ := pu_fr (r_own_lots ok.wm V1)
  refine ⟨V2, ?_, f1.trans (f2.weak f1.le)⟩
  unfold R_lots runB B_lots
  simp only [startR, List.map_cons, List.map_nil, List.length_cons, List.length_nil, Nat.zero_add, Nat.reduceAdd, Nat.reduceSub, List.replicate, List.cons_append, List.nil_append, st_seq, st_set, st_ret, st_if, st_exp, st_par, st_skip, ev_call, ev_cons, ev_nil, ev_var, ev_c, ev_op2, ev_tru, ev_or, ev_and, ev_not, List.getElem?_cons_zero, List.getElem?_cons_succ, bind_ok, ofO_some, if_true, ofD_nil, List.append_nil, fl_ok, List.set_cons_zero, List.set_cons_succ, truth_b, Option.map_some, Bool.not_true, Bool.not_false, Bool.false_eq_true, if_false, e1, e2]
  rfl
theorem rp_wl {L : List Nat} (h1 : L.length ≤ 16) (h2 : ∀ x ∈ L, x ≤ 30) : Rp 96 1 (wlD L) := by
  have := rp_tup (l := nD L) (w := 5) (dep := 0) (fun x hx => by
    obtain ⟨c, hc, rfl⟩ := List.mem_map.mp hx
    have := h2 c hc
    exact rp_int (by rw [Int.natAbs_natCast]; omega) (by decide))
  exact this.mono (by unfold nD; rw [List.length_map]; omega) (by decide)
theorem lot_rp (ok : Ok m) {L : List Nat} (h : L ∈ lotsM m) : Rp 96 1 (wlD L) := by
  obtain ⟨w, hw, rfl⟩ := (lots_mem ok.wm.ts_lt L).mp h
  have h16 := ok.l16
  have hm : ∀ x ∈ blk m.cs.length m.ts w, x < m.cs.length := fun x hx => ((blk_mem ok.wm.ts_lt hw).mp hx).1
  have := nodup_le ((blk_pw (n := m.cs.length) (ts := m.ts) w).imp fun h => Nat.ne_of_lt h) (m := List.range m.cs.length) fun x hx => List.mem_range.mpr (hm x hx)
  rw [List.length_range] at this
  exact rp_wl (by omega) fun x hx => by have := hm x hx; omega
theorem rp_due (ok : Ok m) : Rp 1552 2 (dueD m) := by
  have hs := (lots_small ok.wm).1
  have := rp_tup (l := (lotsM m).map wlD) (w := 96) (dep := 1) (fun x hx => by
    obtain ⟨L, hL, rfl⟩ := List.mem_map.mp hx
    exact lot_rp ok hL)
  exact this.mono (by rw [List.length_map]; omega) (by decide)
theorem rp_due2 (ok : Ok m) : Rp 4000 3 (.list [dueD m, dueD m]) := by
  have := rp_lst (l := [dueD m, dueD m]) (w := 1552) (dep := 2) (fun x hx => by
    simp only [List.mem_cons, List.not_mem_nil, or_false] at hx
    rcases hx with rfl | rfl <;> exact rp_due ok)
  exact this.mono (show 2 * 1553 ≤ 4000 by decide) (by decide)
theorem nmb_le (ok : Ok m) {s : Spot} (hs : s ∈ spotsOf m.ts) : nmb m.ts s ≤ 8 := by
  obtain ⟨t, ht, _⟩ := nmb_spec ok.nd hs
  have := (List.getElem?_eq_some_iff.mp ht).1
  have := ok.l8
  omega
theorem rp_way (ok : Ok m) {s : Spot} (hs : s ∈ spotsOf m.ts) : Rp 60 2 (wayD m s) := by
  have fw := ok.few
  have ho := spot_ok ok hs
  have h16 := ok.l16
  have G := (find_gap ok (-1) hs).2
  have c30 := cnt_le ok ho
  have hg := G.le
  have hn1 := nmb_le ok hs
  have hn2 := nmb_le ok (gls_in ok (d := -1) hs)
  have hs' : Rp 12 1 (sD s) := by
    obtain ⟨c, hc, hp⟩ := ho
    have a1 := (List.getElem?_eq_some_iff.mp hc).1
    have a2 := fw.one c (List.mem_of_getElem? hc)
    have := rp_tup (l := [.int (s.1 : Nat), .int (s.2 : Nat)]) (w := 5) (dep := 0) (fun x hx => by
      simp only [List.mem_cons, List.not_mem_nil, or_false] at hx
      rcases hx with rfl | rfl
      · exact rp_int (by rw [Int.natAbs_natCast]; omega) (by decide)
      · exact rp_int (by rw [Int.natAbs_natCast]; omega) (by decide))
    exact this.mono (show 2 * 6 ≤ 12 by decide) (by decide)
  have := rp_tup (l := [.int (nmb m.ts s : Nat), sD s, .int (nmb m.ts (gls m (-1) s) : Nat), .int (gapN m (-1) s : Nat)]) (w := 12) (dep := 1) (fun x hx => by
    simp only [List.mem_cons, List.not_mem_nil, or_false] at hx
    rcases hx with rfl | rfl | rfl | rfl
    · exact (rp_int (n := 5) (by rw [Int.natAbs_natCast]; omega) (by decide)).mono (by decide) (by decide)
    · exact hs'
    · exact (rp_int (n := 5) (by rw [Int.natAbs_natCast]; omega) (by decide)).mono (by decide) (by decide)
    · exact (rp_int (n := 5) (by rw [Int.natAbs_natCast]; omega) (by decide)).mono (by decide) (by decide))
  exact this.mono (show 4 * 13 ≤ 60 by decide) (by decide)
theorem rp_ws (ok : Ok m) {l : List Spot} (hl : l.length ≤ 16) (h : ∀ s ∈ l, s ∈ spotsOf m.ts) : Rp 1000 3 (.tuple (l.map (wayD m))) := by
  have := rp_tup (l := l.map (wayD m)) (w := 60) (dep := 2) (fun x hx => by
    obtain ⟨s, hs, rfl⟩ := List.mem_map.mp hx
    exact rp_way ok (h s hs))
  exact this.mono (by rw [List.length_map]; omega) (by decide)
end
end G
set_option Elab.async false
set_option linter.all false
set_option maxRecDepth 100000
set_option maxHeartbeats 4000000

/-! H11: whether lots and ways are told: the loops' turns -/
namespace G
open PySem PySem.Spec L2 PyProof.Rows
set_option autoImplicit false

section
variable {m : Mach}
theorem Pl.up {d : PyData} {n k : Nat} (h : Pl n d) (l : n ≤ k) : Pl k d := ⟨h.lay, Nat.le_trans h.dep l, h.ref⟩
theorem pl_way (s : Spot) : Pl 2 (wayD m s) := pl_tup fun x hx => by
  simp only [List.mem_cons, List.not_mem_nil, or_false] at hx
  rcases hx with rfl | rfl | rfl | rfl
  · exact (pl_int _).up (by decide)
  · exact pl_tup fun y hy => by
      simp only [List.mem_cons, List.not_mem_nil, or_false] at hy
      rcases hy with rfl | rfl <;> exact pl_int _
  · exact (pl_int _).up (by decide)
  · exact (pl_int _).up (by decide)
theorem ix_way1 (s : Spot) (S : Sto) : gIx (.d (wayD m s)) (.d (.int 1)) S = some (.d (sD s), S) := rfl
/-! ### lot_of -/
noncomputable def lcB : Fs := (fIf (fTru (fOp2 (dEq true) (fCB gRepr (fCons (fCall 2 [] R_lot_of (fCons (fVar 0) (fCons (fVar 3) fNil))) fNil)) (fCB gRepr (fCons (fOp2 gIx (fLc (fIt (fVar 1)) (gNm 4) (fTru (fOp2 (gIn false) (fVar 3) (fVar 4))) (fVar 4) [4]) (fC (.d (.int 0)))) fNil)))) (fRet (fC (.d (.bool false)))) fSkip)
theorem lc_turn (ok : Ok m) {k : Nat} (hk : k < m.cs.length) {a2 j4 j5 j6 j7 j8 j9 j10 : Option W} (V : Sto) : ∃ V', lcB [some (.d (mD m)), some (.d (dueD m)), a2, some (.d (.int (k : Nat))), j4, j5, j6, j7, j8, j9, j10] V = .nx [some (.d (mD m)), some (.d (dueD m)), a2, some (.d (.int (k : Nat))), j4, j5, j6, j7, j8, j9, j10] V' ∧ Fr V.length V V' := by
  obtain ⟨V1, e1, f1⟩ := r_lot_of ok hk V
  have hsm := (lots_small ok.wm).1
  have hL := (lot_at ok.wm.ts_lt hk).1
  have rp := lot_rp ok (L := atM m k) hL
  have q1 := repr_ok rp rfl (by decide) (by decide) V1
  have eI : itemsOf (.d (dueD m)) V1 = some ((lotsM m).map wlD, V1) := rfl
  obtain ⟨V2, e2, f2, l2, n2⟩ := lc_gen (f := fIt (fVar 1)) (g := gNm 4) (t := fTru (fOp2 (gIn false) (fVar 3) (fVar 4))) (e := fVar 4) (vs := [4]) (ρ := [some (.d (mD m)), some (.d (dueD m)), a2, some (.d (.int (k : Nat))), j4, j5, j6, j7, j8, j9, j10]) (S := V1) (S0 := V1) (ds := lotsM m) (mk := wlD) (fun L => decide (k ∈ L)) wlD (Fr V1.length V1) (by
      simp only [it_ev, ev_var, List.getElem?_cons_zero, List.getElem?_cons_succ, bind_ok, eI, ofO_some]) (by omega) (fun V x hV hl => hV.set (Nat.le_refl _) x) ((Fr.refl _ _).app (Nat.le_refl _) _)
    (fun L hL => ⟨_, fun V => rfl, fun V hV hl => ⟨V, by
      simp only [wipeR, startR, List.map_cons, List.map_nil, List.length_cons, List.length_nil, Nat.zero_add, Nat.reduceAdd, Nat.reduceSub, List.replicate, List.cons_append, List.nil_append, st_seq, st_set, st_ret, st_if, st_exp, st_par, st_skip, ev_call, ev_cons, ev_nil, ev_var, ev_c, ev_op2, ev_tru, ev_or, ev_and, ev_not, List.getElem?_cons_zero, List.getElem?_cons_succ, bind_ok, ofO_some, if_true, ofD_nil, List.append_nil, fl_ok, List.set_cons_zero, List.set_cons_succ, truth_b, Option.map_some, Bool.not_true, Bool.not_false, Bool.false_eq_true, if_false, in_n], hV, Nat.le_refl _, rfl, fun _ => ⟨V, rfl, hV, Nat.le_refl _, rfl⟩⟩⟩)
  rw [lot_filter ok.wm hk] at n2
  have ix0 : gIx (.o V1.length) (.d (.int 0)) V2 = some (.d (wlD (atM m k)), V2) := (show Rd V2 _ _ from .inl n2).ix (i := 0) rfl
  have q2 := repr_ok rp rfl (by decide) (by decide) V2
  have q3 := ne_str rp.ok V2
  refine ⟨V2, ?_, f1.trans (f2.weak f1.le)⟩
  unfold lcB
  simp only [startR, List.map_cons, List.map_nil, List.length_cons, List.length_nil, Nat.zero_add, Nat.reduceAdd, Nat.reduceSub, List.replicate, List.cons_append, List.nil_append, st_seq, st_set, st_ret, st_if, st_exp, st_par, st_skip, ev_call, ev_cons, ev_nil, ev_var, ev_c, ev_op2, ev_tru, ev_or, ev_and, ev_not, List.getElem?_cons_zero, List.getElem?_cons_succ, bind_ok, ofO_some, if_true, ofD_nil, List.append_nil, fl_ok, List.set_cons_zero, List.set_cons_succ, truth_b, Option.map_some, Bool.not_true, Bool.not_false, Bool.false_eq_true, if_false, ev_repr, e1, q1]
  rw [e2]
  simp only [startR, List.map_cons, List.map_nil, List.length_cons, List.length_nil, Nat.zero_add, Nat.reduceAdd, Nat.reduceSub, List.replicate, List.cons_append, List.nil_append, st_seq, st_set, st_ret, st_if, st_exp, st_par, st_skip, ev_call, ev_cons, ev_nil, ev_var, ev_c, ev_op2, ev_tru, ev_or, ev_and, ev_not, List.getElem?_cons_zero, List.getElem?_cons_succ, bind_ok, ofO_some, if_true, ofD_nil, List.append_nil, fl_ok, List.set_cons_zero, List.set_cons_succ, truth_b, Option.map_some, Bool.not_true, Bool.not_false, Bool.false_eq_true, if_false, ix0, q2, q3]
/-! ### web, way_from -/
noncomputable def wbC : Fe Bool := (fOr (fTru (fOp2 (dEq true) (fCB gRepr (fCons (fCall 1 [] R_web (fCons (fVar 0) fNil)) fNil)) (fCB gRepr (fCons (fCB gTuple (fCons (fVar 5) fNil)) fNil)))) (fTru (fOp2 (dEq true) (fLc (fIt (fVar 5)) (gNm 7) (fTru (fOp2 (dEq true) (fCall 2 [] R_way_from (fCons (fVar 0) (fCons (fOp2 gIx (fVar 7) (fC (.d (.int 1)))) fNil))) (fVar 7))) (fVar 7) [7]) (fLst fNil))))
theorem wb_ev (ok : Ok m) {a1 a2 a3 j4 j6 j7 j8 j9 j10 : Option W} {q : Nat} {V : Sto} (hq : V[q]? = some (.lst (((usW m).map (wayD m)).map W.d))) : ∃ V', wbC [some (.d (mD m)), a1, a2, a3, j4, some (.o q), j6, j7, j8, j9, j10] V = .ok false V' ∧ Fr q V V' ∧ Rd V' q ((usW m).map (wayD m)) := by
  have hul := usW_len ok
  have lq := (List.getElem?_eq_some_iff.mp hq).1
  obtain ⟨V1, e1, f1⟩ := r_web ok V
  have rp := rp_ws ok hul (fun s hs => usW_in hs)
  have q1 : gRepr [.d (wsD m)] V1 = some (.d (.str (wsD m).shown), V1) := repr_ok rp rfl (by decide) (by decide) V1
  have n1 : V1[q]? = some (.lst (((usW m).map (wayD m)).map W.d)) := (f1.at_ _ lq).trans hq
  have e2 : gTuple [.o q] V1 = some (.d (wsD m), V1) := gTuple_o n1
  have q3 : dEq true (.d (.str (wsD m).shown)) (.d (.str (wsD m).shown)) V1 = _ := ne_str rp.ok V1
  have r1 : Rd V1 q ((usW m).map (wayD m)) := .inl n1
  obtain ⟨i1, i2⟩ := r1.items
  obtain ⟨V2, hV2⟩ : ∃ V2, V2 = V1.set q (.fz (.list ((usW m).map (wayD m)))) := ⟨_, rfl⟩
  rw [← hV2] at i1 i2
  have l2 : V2.length = V1.length := by rw [hV2]; simp
  have l1 := f1.le
  obtain ⟨V3, e3, f3, l3, n3⟩ := lc_gen (f := fIt (fVar 5)) (g := gNm 7) (t := fTru (fOp2 (dEq true) (fCall 2 [] R_way_from (fCons (fVar 0) (fCons (fOp2 gIx (fVar 7) (fC (.d (.int 1)))) fNil))) (fVar 7))) (e := fVar 7) (vs := [7]) (ρ := [some (.d (mD m)), a1, a2, a3, j4, some (.o q), j6, j7, j8, j9, j10]) (S := V1) (S0 := V2) (ds := usW m) (mk := wayD m) (fun _ => false) (wayD m) (Fr V2.length V2) (by
      simp only [it_ev, ev_var, List.getElem?_cons_zero, List.getElem?_cons_succ, bind_ok, i1, ofO_some]) (by omega) (fun V x hV hl => hV.set (Nat.le_refl _) x) ((Fr.refl _ _).app (Nat.le_refl _) _)
    (fun s hs => ⟨_, fun V => rfl, fun V hV hl => by
      obtain ⟨U, eU, fU⟩ := r_way_from ok (usW_in hs) V
      have hn := ne_self (pl_way (m := m) s) (by decide) U
      exact ⟨U, by simp only [wipeR, startR, List.map_cons, List.map_nil, List.length_cons, List.length_nil, Nat.zero_add, Nat.reduceAdd, Nat.reduceSub, List.replicate, List.cons_append, List.nil_append, st_seq, st_set, st_ret, st_if, st_exp, st_par, st_skip, ev_call, ev_cons, ev_nil, ev_var, ev_c, ev_op2, ev_tru, ev_or, ev_and, ev_not, List.getElem?_cons_zero, List.getElem?_cons_succ, bind_ok, ofO_some, if_true, ofD_nil, List.append_nil, fl_ok, List.set_cons_zero, List.set_cons_succ, truth_b, Option.map_some, Bool.not_true, Bool.not_false, Bool.false_eq_true, if_false, ix_way1, eU, hn], hV.trans (fU.weak hV.le), fU.le, fU.at_ _ hl, fun z => (by cases z)⟩⟩)
  have n3' : V3[V2.length]? = some (.lst (([] : List PyData).map W.d)) := by
    rw [n3, List.filter_eq_nil_iff.mpr (fun _ _ => by simp)]
    rfl
  obtain ⟨V4, hV4⟩ : ∃ V4, V4 = V3 ++ [Cell.lst []] := ⟨_, rfl⟩
  have l4 := f3.le
  have e5 := ne_nil_o (S := V4) (a := V2.length) (c := V3.length) (l := []) (by rw [hV4, List.getElem?_append_left l3]; exact n3') (by rw [hV4]; exact get_len_app _ _ _) (fun x hx => by cases hx)
  have eL : ∀ ρ : Slt, fLst fNil ρ V3 = .ok (.o V3.length) V4 := fun ρ => by rw [hV4]; rfl
  have r2 : V3[q]? = V2[q]? := f3.at_ q (by omega)
  refine ⟨V4, ?_, ?_, ?_⟩
  · unfold wbC
    simp only [startR, List.map_cons, List.map_nil, List.length_cons, List.length_nil, Nat.zero_add, Nat.reduceAdd, Nat.reduceSub, List.replicate, List.cons_append, List.nil_append, st_seq, st_set, st_ret, st_if, st_exp, st_par, st_skip, ev_call, ev_cons, ev_nil, ev_var, ev_c, ev_op2, ev_tru, ev_or, ev_and, ev_not, List.getElem?_cons_zero, List.getElem?_cons_succ, bind_ok, ofO_some, if_true, ofD_nil, List.append_nil, fl_ok, List.set_cons_zero, List.set_cons_succ, truth_b, Option.map_some, Bool.not_true, Bool.not_false, Bool.false_eq_true, if_false, ev_repr, ev_cb, e1, q1, e2, q3]
    rw [e3]
    simp only [startR, List.map_cons, List.map_nil, List.length_cons, List.length_nil, Nat.zero_add, Nat.reduceAdd, Nat.reduceSub, List.replicate, List.cons_append, List.nil_append, st_seq, st_set, st_ret, st_if, st_exp, st_par, st_skip, ev_call, ev_cons, ev_nil, ev_var, ev_c, ev_op2, ev_tru, ev_or, ev_and, ev_not, List.getElem?_cons_zero, List.getElem?_cons_succ, bind_ok, ofO_some, if_true, ofD_nil, List.append_nil, fl_ok, List.set_cons_zero, List.set_cons_succ, truth_b, Option.map_some, Bool.not_true, Bool.not_false, Bool.false_eq_true, if_false, eL, e5]
    rfl
  · have g1 : Fr q V V2 := by rw [hV2]; exact (f1.weak (by omega)).set (Nat.le_refl _) _
    exact (g1.trans (f3.weak (by omega))).trans (by rw [hV4]; exact (Fr.refl _ _).app (by omega) _)
  · have : Rd V3 q ((usW m).map (wayD m)) := i2.keep r2
    rw [hV4]
    exact this.app _
end
end G
set_option Elab.async false
set_option linter.all false
set_option maxRecDepth 100000
set_option maxHeartbeats 4000000

/-! H12: ways to touches, gaps round wheels; the whole -/
namespace G
open PySem PySem.Spec L2 PyProof.Rows
set_option autoImplicit false

section
variable {m : Mach}
noncomputable def wtB : Fs := (fSeq (fSet 8 (fCall 2 [] R_ways_to (fCons (fVar 0) (fCons (fVar 3) fNil))))
  (fIf (fOr (fTru (fOp2 (dEq true) (fCB gRepr (fCons (fVar 8) fNil)) (fCB gRepr (fCons (fCB gTuple (fCons (fLc (fIt (fVar 5)) (gNm 7) (fTru (fOp2 (dEq false) (fOp2 gIx (fVar 7) (fC (.d (.int 2)))) (fVar 3))) (fVar 7) [7]) fNil)) fNil)))) (fTru (fOp2 (dEq true) (fCB gLen (fCons (fVar 8) fNil)) (fC (.d (.int 2)))))) (fRet (fC (.d (.bool false)))) fSkip))
theorem wt_turn (ok : Ok m) {k : Nat} (hk : k < m.ts.length) {q : Nat} {a1 a2 a4 j6 j7 j8 j9 j10 : Option W} {V : Sto} (hq : Rd V q ((usW m).map (wayD m))) : ∃ V', wtB [some (.d (mD m)), a1, a2, some (.d (.int (k : Nat))), a4, some (.o q), j6, j7, j8, j9, j10] V = .nx [some (.d (mD m)), a1, a2, some (.d (.int (k : Nat))), a4, some (.o q), j6, j7, some (.d (wtD m k)), j9, j10] V' ∧ Fr q V V' ∧ Rd V' q ((usW m).map (wayD m)) := by
  have hul := usW_len ok
  have lq := hq.lt
  obtain ⟨V1, e1, f1⟩ := r_ways_to ok hk V
  have r1 := hq.keep (f1.at_ _ lq)
  obtain ⟨i1, i2⟩ := r1.items
  obtain ⟨V2, hV2⟩ : ∃ V2, V2 = V1.set q (.fz (.list ((usW m).map (wayD m)))) := ⟨_, rfl⟩
  rw [← hV2] at i1 i2
  have l2 : V2.length = V1.length := by rw [hV2]; simp
  have l1 := f1.le
  have hfl := List.length_filter_le (fun s => decide (nx m s = k)) (usW m)
  have rp : Rp 1000 3 (wtD m k) := rp_ws ok (by omega) (fun s hs => usW_in (List.mem_filter.mp hs).1)
  obtain ⟨V3, e3, f3, l3⟩ := tup_gen (f := fIt (fVar 5)) (g := gNm 7) (t := fTru (fOp2 (dEq false) (fOp2 gIx (fVar 7) (fC (.d (.int 2)))) (fVar 3))) (e := fVar 7) (vs := [7]) (ρ := [some (.d (mD m)), a1, a2, some (.d (.int (k : Nat))), a4, some (.o q), j6, j7, some (.d (wtD m k)), j9, j10]) (S := V1) (S0 := V2) (ds := usW m) (mk := wayD m)
    (fun s => decide (nx m s = k)) (wayD m) (Fr V2.length V2) (by
      simp only [it_ev, ev_var, List.getElem?_cons_zero, List.getElem?_cons_succ, bind_ok, i1, ofO_some]) (by omega) (fun V x hV hl => hV.set (Nat.le_refl _) x) ((Fr.refl _ _).app (Nat.le_refl _) _)
    (fun s hs => ⟨_, fun V => rfl, fun V hV hl => ⟨V, by
      simp only [wipeR, startR, List.map_cons, List.map_nil, List.length_cons, List.length_nil, Nat.zero_add, Nat.reduceAdd, Nat.reduceSub, List.replicate, List.cons_append, List.nil_append, st_seq, st_set, st_ret, st_if, st_exp, st_par, st_skip, ev_call, ev_cons, ev_nil, ev_var, ev_c, ev_op2, ev_tru, ev_or, ev_and, ev_not, List.getElem?_cons_zero, List.getElem?_cons_succ, bind_ok, ofO_some, if_true, ofD_nil, List.append_nil, fl_ok, List.set_cons_zero, List.set_cons_succ, truth_b, Option.map_some, Bool.not_true, Bool.not_false, Bool.false_eq_true, if_false, ix_way2, eq_int]
      congr 1
      unfold nx
      exact decide_eq_decide.mpr (by omega), hV, Nat.le_refl _, rfl, fun _ => ⟨V, rfl, hV, Nat.le_refl _, rfl⟩⟩⟩)
  have e3' : fCB gTuple (fCons (fLc (fIt (fVar 5)) (gNm 7) (fTru (fOp2 (dEq false) (fOp2 gIx (fVar 7) (fC (.d (.int 2)))) (fVar 3))) (fVar 7) [7]) fNil) [some (.d (mD m)), a1, a2, some (.d (.int (k : Nat))), a4, some (.o q), j6, j7, some (.d (wtD m k)), j9, j10] V1 = .ok (.d (wtD m k)) V3 := e3
  have q1 := repr_ok rp rfl (by decide) (by decide) V1
  have q2 := repr_ok rp rfl (by decide) (by decide) V3
  have q3 := ne_str rp.ok V3
  have e4 : gLen [.d (wtD m k)] V3 = some (.d (.int 2), V3) := by
    unfold wtD
    rw [len_t, List.length_map, two_ways ok hk]
    rfl
  refine ⟨V3, ?_, ?_, i2.keep (f3.at_ q (by omega))⟩
  · have eT : fTru (fOp2 (dEq true) (fCB gRepr (fCons (fVar 8) fNil)) (fCB gRepr (fCons (fCB gTuple (fCons (fLc (fIt (fVar 5)) (gNm 7) (fTru (fOp2 (dEq false) (fOp2 gIx (fVar 7) (fC (.d (.int 2)))) (fVar 3))) (fVar 7) [7]) fNil)) fNil))) [some (.d (mD m)), a1, a2, some (.d (.int (k : Nat))), a4, some (.o q), j6, j7, some (.d (wtD m k)), j9, j10] V1 = .ok false V3 := by
      rw [ev_tru, ev_op2, ev_repr, ev_cons, ev_var]
      simp only [List.getElem?_cons_zero, List.getElem?_cons_succ, bind_ok, ev_nil, q1, ofO_some]
      rw [ev_repr, ev_cons, e3']
      simp only [bind_ok, ev_nil, q2, ofO_some, q3, truth_b, Option.map_some]
    unfold wtB
    simp only [st_seq, st_set, ev_call, ev_cons, ev_nil, ev_var, List.getElem?_cons_zero, List.getElem?_cons_succ, bind_ok, List.length_cons, List.length_nil, Nat.zero_add, Nat.reduceAdd, if_true, ofD_nil, List.append_nil, e1, fl_ok, List.set_cons_zero, List.set_cons_succ, st_if]
    rw [ev_or, eT]
    simp only [bind_ok, Bool.false_eq_true, if_false, startR, List.map_cons, List.map_nil, List.length_cons, List.length_nil, Nat.zero_add, Nat.reduceAdd, Nat.reduceSub, List.replicate, List.cons_append, List.nil_append, st_seq, st_set, st_ret, st_if, st_exp, st_par, st_skip, ev_call, ev_cons, ev_nil, ev_var, ev_c, ev_op2, ev_tru, ev_or, ev_and, ev_not, List.getElem?_cons_zero, List.getElem?_cons_succ, bind_ok, ofO_some, if_true, ofD_nil, List.append_nil, fl_ok, List.set_cons_zero, List.set_cons_succ, truth_b, Option.map_some, Bool.not_true, Bool.not_false, Bool.false_eq_true, if_false, ev_len, e4, ne_int, decide_true]
  · have g1 : Fr q V V2 := by rw [hV2]; exact (f1.weak (by omega)).set (Nat.le_refl _) _
    exact g1.trans (f3.weak (by omega))
noncomputable def gsB : Fs := (fSeq (fSet 10 (fLc (fIt (fCall 1 [] R_web (fCons (fVar 0) fNil))) (gNm 7) (fTru (fOp2 (dEq false) (fOp2 gIx (fOp2 gIx (fVar 7) (fC (.d (.int 1)))) (fC (.d (.int 0)))) (fVar 3))) (fOp2 gIx (fVar 7) (fC (.d (.int 3)))) [7]))
  (fIf (fAnd (fTru (fOp2 (dEq true) (fVar 10) (fLst fNil))) (fTru (fOp2 (dEq true) (fCB gSum (fCons (fVar 10) fNil)) (fVar 9)))) (fRet (fC (.d (.bool false)))) fSkip))
theorem gs_turn (ok : Ok m) {k c : Nat} (hk : m.cs[k]? = some c) {a1 a2 a4 a5 j6 j7 j8 j10 : Option W} (V : Sto) : ∃ k10 V', gsB [some (.d (mD m)), a1, a2, some (.d (.int (k : Nat))), a4, a5, j6, j7, j8, some (.d (.int (c : Nat))), j10] V = .nx [some (.d (mD m)), a1, a2, some (.d (.int (k : Nat))), a4, a5, j6, j7, j8, some (.d (.int (c : Nat))), k10] V' ∧ Fr V.length V V' := by
  have hul := usW_len ok
  obtain ⟨V1, e1, f1⟩ := r_web ok V
  have eI : itemsOf (.d (wsD m)) V1 = some ((usW m).map (wayD m), V1) := rfl
  have i0 : ∀ (s : Spot) V, gIx (.d (sD s)) (.d (.int 0)) V = some (.d (.int (s.1 : Nat)), V) := fun s V => rfl
  obtain ⟨l, hl⟩ : ∃ l, l = (usW m).filter fun s => decide (s.1 = k) := ⟨_, rfl⟩
  obtain ⟨V2, e2, f2, l2, n2⟩ := lc_gen (f := fIt (fCall 1 [] R_web (fCons (fVar 0) fNil))) (g := gNm 7) (t := fTru (fOp2 (dEq false) (fOp2 gIx (fOp2 gIx (fVar 7) (fC (.d (.int 1)))) (fC (.d (.int 0)))) (fVar 3))) (e := fOp2 gIx (fVar 7) (fC (.d (.int 3)))) (vs := [7]) (ρ := [some (.d (mD m)), a1, a2, some (.d (.int (k : Nat))), a4, a5, j6, j7, j8, some (.d (.int (c : Nat))), j10]) (S := V) (S0 := V1) (ds := usW m) (mk := wayD m)
    (fun s => decide (s.1 = k)) (fun s => .int (gp m s : Nat)) (Fr V1.length V1) (by
      simp only [it_ev, startR, List.map_cons, List.map_nil, List.length_cons, List.length_nil, Nat.zero_add, Nat.reduceAdd, Nat.reduceSub, List.replicate, List.cons_append, List.nil_append, st_seq, st_set, st_ret, st_if, st_exp, st_par, st_skip, ev_call, ev_cons, ev_nil, ev_var, ev_c, ev_op2, ev_tru, ev_or, ev_and, ev_not, List.getElem?_cons_zero, List.getElem?_cons_succ, bind_ok, ofO_some, if_true, ofD_nil, List.append_nil, fl_ok, List.set_cons_zero, List.set_cons_succ, truth_b, Option.map_some, Bool.not_true, Bool.not_false, Bool.false_eq_true, if_false, e1, eI]) (by omega) (fun V x hV hl => hV.set (Nat.le_refl _) x) ((Fr.refl _ _).app (Nat.le_refl _) _)
    (fun s hs => ⟨_, fun V => rfl, fun V hV hl => ⟨V, by
      simp only [wipeR, startR, List.map_cons, List.map_nil, List.length_cons, List.length_nil, Nat.zero_add, Nat.reduceAdd, Nat.reduceSub, List.replicate, List.cons_append, List.nil_append, st_seq, st_set, st_ret, st_if, st_exp, st_par, st_skip, ev_call, ev_cons, ev_nil, ev_var, ev_c, ev_op2, ev_tru, ev_or, ev_and, ev_not, List.getElem?_cons_zero, List.getElem?_cons_succ, bind_ok, ofO_some, if_true, ofD_nil, List.append_nil, fl_ok, List.set_cons_zero, List.set_cons_succ, truth_b, Option.map_some, Bool.not_true, Bool.not_false, Bool.false_eq_true, if_false, ix_way1, i0, eq_int]
      congr 1
      exact decide_eq_decide.mpr (by omega), hV, Nat.le_refl _, rfl, fun _ => ⟨V, by
      simp only [wipeR, startR, List.map_cons, List.map_nil, List.length_cons, List.length_nil, Nat.zero_add, Nat.reduceAdd, Nat.reduceSub, List.replicate, List.cons_append, List.nil_append, st_seq, st_set, st_ret, st_if, st_exp, st_par, st_skip, ev_call, ev_cons, ev_nil, ev_var, ev_c, ev_op2, ev_tru, ev_or, ev_and, ev_not, List.getElem?_cons_zero, List.getElem?_cons_succ, bind_ok, ofO_some, if_true, ofD_nil, List.append_nil, fl_ok, List.set_cons_zero, List.set_cons_succ, truth_b, Option.map_some, Bool.not_true, Bool.not_false, Bool.false_eq_true, if_false, ix_way3]
      rfl, hV, Nat.le_refl _, rfl⟩⟩⟩)
  rw [← hl] at n2
  obtain ⟨V3, hV3⟩ : ∃ V3, V3 = V2 ++ [Cell.lst []] := ⟨_, rfl⟩
  have eL : ∀ ρ : Slt, fLst fNil ρ V2 = .ok (.o V2.length) V3 := fun ρ => by rw [hV3]; rfl
  have n3 : V3[V1.length]? = some (.lst ((l.map fun s => PyData.int (gp m s : Nat)).map W.d)) := by rw [hV3, List.getElem?_append_left l2]; exact n2
  have e3 := ne_nil_o (S := V3) (a := V1.length) (c := V2.length) n3 (by rw [hV3]; exact get_len_app _ _ _) (fun x hx => by
    obtain ⟨s, _, rfl⟩ := List.mem_map.mp hx
    exact pl_int _)
  have f3 : Fr V.length V V3 := (f1.trans (f2.weak f1.le)).trans (by rw [hV3]; exact (Fr.refl _ _).app (Nat.le_trans f1.le f2.le) _)
  refine ⟨some (.o V1.length), V3, ?_, f3⟩
  unfold gsB
  rw [st_seq, st_set, e2]
  simp only [fl_ok, List.set_cons_zero, List.set_cons_succ]
  by_cases h : l = []
  · have hd : decide ((l.map fun s => PyData.int (gp m s : Nat)) = []) = true := by rw [h]; rfl
    rw [hd] at e3
    simp only [startR, List.map_cons, List.map_nil, List.length_cons, List.length_nil, Nat.zero_add, Nat.reduceAdd, Nat.reduceSub, List.replicate, List.cons_append, List.nil_append, st_seq, st_set, st_ret, st_if, st_exp, st_par, st_skip, ev_call, ev_cons, ev_nil, ev_var, ev_c, ev_op2, ev_tru, ev_or, ev_and, ev_not, List.getElem?_cons_zero, List.getElem?_cons_succ, bind_ok, ofO_some, if_true, ofD_nil, List.append_nil, fl_ok, List.set_cons_zero, List.set_cons_succ, truth_b, Option.map_some, Bool.not_true, Bool.not_false, Bool.false_eq_true, if_false, eL, e3]
  · have hd : decide ((l.map fun s => PyData.int (gp m s : Nat)) = []) = false := decide_eq_false (fun z => h (List.map_eq_nil_iff.mp z))
    rw [hd] at e3
    obtain ⟨s0, hs0⟩ := List.exists_mem_of_ne_nil l h
    rw [hl, List.mem_filter, decide_eq_true_iff] at hs0
    have hs := usW_in hs0.1
    have sm := gaps_sum ok hs
    rw [hs0.2, ← hl] at sm
    have hc : m.cs.getD k 1 = c := by rw [List.getD_eq_getElem?_getD, hk]; rfl
    have n3' : V3[V1.length]? = some (.lst (iW (l.map fun s => ((gp m s : Nat) : Int)))) := by
      rw [n3]
      unfold iW
      rw [List.map_map, List.map_map]
      rfl
    have e4 := sum_o n3'
    have cast : ∀ l : List Spot, (l.map fun s => ((gp m s : Nat) : Int)).sum = (((l.map (gp m)).sum : Nat) : Int) := fun l => by
      induction l with
      | nil => rfl
      | cons x l ih => simp only [List.map_cons, List.sum_cons, ih]; omega
    rw [cast, sm, hc] at e4
    simp only [startR, List.map_cons, List.map_nil, List.length_cons, List.length_nil, Nat.zero_add, Nat.reduceAdd, Nat.reduceSub, List.replicate, List.cons_append, List.nil_append, st_seq, st_set, st_ret, st_if, st_exp, st_par, st_skip, ev_call, ev_cons, ev_nil, ev_var, ev_c, ev_op2, ev_tru, ev_or, ev_and, ev_not, List.getElem?_cons_zero, List.getElem?_cons_succ, bind_ok, ofO_some, if_true, ofD_nil, List.append_nil, fl_ok, List.set_cons_zero, List.set_cons_succ, truth_b, Option.map_some, Bool.not_true, Bool.not_false, Bool.false_eq_true, if_false, eL, e3, ev_cb, e4, ne_int, decide_true]
end
end G
set_option Elab.async false
set_option linter.all false
set_option maxRecDepth 100000
set_option maxHeartbeats 4000000

/-! H13: whether lots and ways are told -/
namespace G
open PySem PySem.Spec L2 PyProof.Rows
set_option autoImplicit false

section
variable {m : Mach}
theorem runB_rt {n : Nat} {b : Fs} {ws : List W} {S S1 : Sto} {x : W} (h : b (startR n ws) S = .rt x S1) : runB n b ws S = .ok x S1 := by
  unfold runB
  rw [h]
theorem ev_callK (n : Nat) (ix : List Nat) (F : Fn) (f : Fe (List W)) (ρ : Slt) (S : Sto) : fCallK n ix F f ρ S = (f ρ S).bind fun xs S1 => if xs.length = n then F (ix.map fun i => xs.getD i (.d .none)) S1 else .bad := rfl
noncomputable def rpC : Fe Bool := (fTru (fOp2 (dEq true) (fCB gRepr (fCons (fLst (fCons (fCall 1 [] R_lots (fCons (fVar 0) fNil)) (fCons (fCallK 1 [0] R_lots (fCons (fVar 0) fNil)) fNil))) fNil)) (fCB gRepr (fCons (fLst (fCons (fVar 1) (fCons (fVar 1) fNil))) fNil))))
theorem rp_ev (ok : Ok m) {a2 a3 a4 a5 a6 a7 a8 a9 a10 : Option W} (V : Sto) : ∃ V', rpC [some (.d (mD m)), some (.d (dueD m)), a2, a3, a4, a5, a6, a7, a8, a9, a10] V = .ok false V' ∧ Fr V.length V V' := by
  obtain ⟨V1, e1, f1⟩ := r_lots ok V
  obtain ⟨V2, e2, f2⟩ := r_lots ok V1
  obtain ⟨V3, hV3⟩ : ∃ V3, V3 = V2 ++ [Cell.lst [.d (dueD m), .d (dueD m)]] := ⟨_, rfl⟩
  obtain ⟨V4, hV4⟩ : ∃ V4, V4 = V3 ++ [Cell.lst [.d (dueD m), .d (dueD m)]] := ⟨_, rfl⟩
  have rp := rp_due2 ok
  have q1 := repr_o rp (by decide) (by decide) (S := V3) (q := V2.length) (by rw [hV3]; exact get_len_app _ _ _)
  have q2 := repr_o rp (by decide) (by decide) (S := V4) (q := V3.length) (by rw [hV4]; exact get_len_app _ _ _)
  have q3 := ne_str rp.ok V4
  refine ⟨V4, ?_, (f1.trans (f2.weak f1.le)).trans (by rw [hV4, hV3]; exact ((Fr.refl _ _).app (Nat.le_trans f1.le f2.le) _).app (Nat.le_trans f1.le f2.le) _)⟩
  unfold rpC
  simp only [startR, List.map_cons, List.map_nil, List.length_cons, List.length_nil, Nat.zero_add, Nat.reduceAdd, Nat.reduceSub, List.replicate, List.cons_append, List.nil_append, st_seq, st_set, st_ret, st_if, st_exp, st_par, st_skip, ev_call, ev_cons, ev_nil, ev_var, ev_c, ev_op2, ev_tru, ev_or, ev_and, ev_not, List.getElem?_cons_zero, List.getElem?_cons_succ, bind_ok, ofO_some, if_true, ofD_nil, List.append_nil, fl_ok, List.set_cons_zero, List.set_cons_succ, truth_b, Option.map_some, Bool.not_true, Bool.not_false, Bool.false_eq_true, if_false, ev_repr, fLst2, e1, ev_callK, List.getD_cons_zero, e2, ← hV3, q1, ← hV4, q2, q3]
theorem r_law_right (ok : Ok m) (S : Sto) : ∃ V, R__law_right [.d (mD m)] S = .ok (.d (.bool true)) V ∧ Fr S.length S V := by
  have h8 := ok.l8
  have h16 := ok.l16
  have hsl := spots_len m.ts
  obtain ⟨V1, e1, f1⟩ := r_law_joined ok.wm (by omega) S
  have e1' : R__law_joined [.d (mD m)] S = .ok (.d (dueD m)) V1 := e1
  have e2 := r_law_numbers ok V1
  obtain ⟨V2, hV2⟩ : ∃ V2, V2 = V1 ++ [Cell.dix (tabL (numD m) (spotsOf m.ts))] := ⟨_, rfl⟩
  rw [← hV2] at e2
  have l2 : V2.length = V1.length + 1 := by rw [hV2]; simp
  have t2 : Tab V2 V1.length (numD m) (spotsOf m.ts) := by rw [hV2]; exact tab_d (get_len_app _ _ _)
  have f2 : Fr S.length S V2 := by rw [hV2]; exact f1.app (Nat.le_refl _) _
  obtain ⟨ρ0, hρ0⟩ : ∃ ρ0 : Slt, ρ0 = [some (.d (mD m)), none, none, none, none, none, none, none, none, none, none] := ⟨_, rfl⟩
  have eW : fTupW (fCons (fCall 1 [] R__law_joined (fCons (fVar 0) fNil)) (fCons (fCall 1 [] R__law_numbers (fCons (fVar 0) fNil)) fNil)) ρ0 S = .ok (.w [.d (dueD m), .o V1.length]) V2 := by
    rw [hρ0]
    unfold fTupW
    simp only [startR, List.map_cons, List.map_nil, List.length_cons, List.length_nil, Nat.zero_add, Nat.reduceAdd, Nat.reduceSub, List.replicate, List.cons_append, List.nil_append, st_seq, st_set, st_ret, st_if, st_exp, st_par, st_skip, ev_call, ev_cons, ev_nil, ev_var, ev_c, ev_op2, ev_tru, ev_or, ev_and, ev_not, List.getElem?_cons_zero, List.getElem?_cons_succ, bind_ok, ofO_some, if_true, ofD_nil, List.append_nil, fl_ok, List.set_cons_zero, List.set_cons_succ, truth_b, Option.map_some, Bool.not_true, Bool.not_false, Bool.false_eq_true, if_false, e1', e2, toIs, toI]
    rfl
  have eG : gTp 2 (gsCons (gNm 1) (gsCons (gNm 2) gsNil)) (.w [.d (dueD m), .o V1.length]) ρ0 V2 = some [some (.d (mD m)), some (.d (dueD m)), some (.o V1.length), none, none, none, none, none, none, none, none] := by rw [hρ0]; rfl
  obtain ⟨V3, e3, f3⟩ := rp_ev ok (a2 := some (.o V1.length)) (a3 := none) (a4 := none) (a5 := none) (a6 := none) (a7 := none) (a8 := none) (a9 := none) (a10 := none) V2
  have t3 := t2.keep (f3.at_ _ t2.lt)
  -- the loop of lot_of
  have eN : ∀ S, gLen [.d (csD m.cs)] S = some (.d (.int (m.cs.length : Nat)), S) := fun S => len_csD _ S
  have er1 : ∀ (ρ : Slt) (S : Sto), ρ[0]? = some (some (.d (mD m))) → fR1 (fCons (fCB gLen (fCons (fOp2 gIx (fVar 0) (fC (.d (.int 0)))) fNil)) fNil) ρ S = .ok ((List.range m.cs.length).map fun k => PyData.int (k : Nat)) S := fun ρ S hρ => by
    have q := r1_ev (fCB gLen (fCons (fOp2 gIx (fVar 0) (fC (.d (.int 0)))) fNil)) ρ S S (m.cs.length : Nat) (by
      simp only [ev_cb, ev_cons, ev_nil, ev_op2, ev_var, ev_c, hρ, bind_ok, ofO_some, ix_m0, eN]) (by omega)
    rw [q]
    congr 1
    unfold rngD
    simp
  have eT : ∀ S, gLen [.d (tsD m.ts)] S = some (.d (.int (m.ts.length : Nat)), S) := fun S => by unfold tsD; rw [len_t, List.length_map]
  have er2 : ∀ (ρ : Slt) (S : Sto), ρ[0]? = some (some (.d (mD m))) → fR1 (fCons (fCB gLen (fCons (fOp2 gIx (fVar 0) (fC (.d (.int 1)))) fNil)) fNil) ρ S = .ok ((List.range m.ts.length).map fun k => PyData.int (k : Nat)) S := fun ρ S hρ => by
    have q := r1_ev (fCB gLen (fCons (fOp2 gIx (fVar 0) (fC (.d (.int 1)))) fNil)) ρ S S (m.ts.length : Nat) (by
      simp only [ev_cb, ev_cons, ev_nil, ev_op2, ev_var, ev_c, hρ, bind_ok, ofO_some, ix_m1, eT]) (by omega)
    rw [q]
    congr 1
    unfold rngD
    simp
  obtain ⟨ρ4, V4, e4, ⟨_, f4, j3, hρ4⟩⟩ := forD_nx (g := gNm 3) (b := lcB) (fun ds ρ V => (∀ x ∈ ds, ∃ k : Nat, x = .int (k : Nat) ∧ k < m.cs.length) ∧ Fr V3.length V3 V ∧ ∃ j3, ρ = [some (.d (mD m)), some (.d (dueD m)), some (.o V1.length), j3, none, none, none, none, none, none, none]) (by
    rintro x ds ρ V ⟨hx, hf, j3, rfl⟩
    obtain ⟨k, rfl, hk⟩ := hx x (by simp)
    obtain ⟨V', e, f⟩ := lc_turn ok hk (a2 := some (.o V1.length)) (j4 := none) (j5 := none) (j6 := none) (j7 := none) (j8 := none) (j9 := none) (j10 := none) V
    exact ⟨_, rfl, _, V', e, fun y hy => hx y (by simp [hy]), hf.trans (f.weak hf.le), _, rfl⟩) ((List.range m.cs.length).map fun k => PyData.int (k : Nat)) [some (.d (mD m)), some (.d (dueD m)), some (.o V1.length), none, none, none, none, none, none, none, none] V3
    ⟨fun x hx => by
      obtain ⟨k, hk, rfl⟩ := List.mem_map.mp hx
      exact ⟨k, rfl, List.mem_range.mp hk⟩, Fr.refl _ _, _, rfl⟩
  have t4 := t3.keep (f4.at_ _ t3.lt)
  -- the ways
  obtain ⟨V5, e5, ⟨l5, q5⟩, t5, n5⟩ := ways_lc ok (i := 2) (vi := 6) (e := fCall 3 [] R__law_rolled (fCons (fVar 0) (fCons (fVar 2) (fCons (fVar 6) fNil)))) (vs := [6]) (ρ := [some (.d (mD m)), some (.d (dueD m)), some (.o V1.length), j3, none, none, none, none, none, none, none]) t4 rfl
    (fun s hs => ⟨_, fun V => rfl, fun V hV => by
      have e := r_law_rolled ok hs hV
      simp only [wipeR, startR, List.map_cons, List.map_nil, List.length_cons, List.length_nil, Nat.zero_add, Nat.reduceAdd, Nat.reduceSub, List.replicate, List.cons_append, List.nil_append, st_seq, st_set, st_ret, st_if, st_exp, st_par, st_skip, ev_call, ev_cons, ev_nil, ev_var, ev_c, ev_op2, ev_tru, ev_or, ev_and, ev_not, List.getElem?_cons_zero, List.getElem?_cons_succ, bind_ok, ofO_some, if_true, ofD_nil, List.append_nil, fl_ok, List.set_cons_zero, List.set_cons_succ, truth_b, Option.map_some, Bool.not_true, Bool.not_false, Bool.false_eq_true, if_false, e]⟩)
  have e6 := gSort_o n5 (sortOk_ways _ (by omega))
  rw [usW_srt] at e6
  obtain ⟨V6, hV6⟩ : ∃ V6, V6 = V5 ++ [Cell.lst (((usW m).map (wayD m)).map W.d)] := ⟨_, rfl⟩
  rw [← hV6] at e6
  have n6 : V6[V5.length]? = some (.lst (((usW m).map (wayD m)).map W.d)) := by rw [hV6]; exact get_len_app _ _ _
  have lS2 : S.length ≤ V1.length := f1.le
  have ll3 := f3.le
  have ll4 := f4.le
  have f5 : Fr S.length S V5 := by
    have : Fr S.length S V4 := (f2.trans (f3.weak f2.le)).trans (f4.weak (by omega))
    refine ⟨by have := this.le; omega, fun i hi => ?_⟩
    rw [q5 i (by omega) (by omega)]
    exact this.at_ i hi
  have f6 : Fr S.length S V6 := by rw [hV6]; exact f5.app (Nat.le_refl _) _
  have lS5 := f5.le
  -- web, way_from
  obtain ⟨V7, e7, f7, r7⟩ := wb_ev ok (a1 := some (.d (dueD m))) (a2 := some (.o V1.length)) (a3 := j3) (j4 := none) (j6 := none) (j7 := none) (j8 := none) (j9 := none) (j10 := none) n6
  have f7' : Fr S.length S V7 := f6.trans (f7.weak lS5)
  -- ways_to
  obtain ⟨ρ8, V8, e8, ⟨_, f8, r8, k3, k8, hρ8⟩⟩ := forD_nx (g := gNm 3) (b := wtB) (fun ds ρ V => (∀ x ∈ ds, ∃ k : Nat, x = .int (k : Nat) ∧ k < m.ts.length) ∧ Fr S.length S V ∧ Rd V V5.length ((usW m).map (wayD m)) ∧ ∃ j3 j8, ρ = [some (.d (mD m)), some (.d (dueD m)), some (.o V1.length), j3, none, some (.o V5.length), none, none, j8, none, none]) (by
    rintro x ds ρ V ⟨hx, hf, hr, j3, j8, rfl⟩
    obtain ⟨k, rfl, hk⟩ := hx x (by simp)
    obtain ⟨V', e, f, r⟩ := wt_turn ok hk (a1 := some (.d (dueD m))) (a2 := some (.o V1.length)) (a4 := none) (j6 := none) (j7 := none) (j8 := j8) (j9 := none) (j10 := none) hr
    exact ⟨_, rfl, _, V', e, fun y hy => hx y (by simp [hy]), hf.trans (f.weak lS5), r, _, _, rfl⟩) ((List.range m.ts.length).map fun k => PyData.int (k : Nat)) [some (.d (mD m)), some (.d (dueD m)), some (.o V1.length), j3, none, some (.o V5.length), none, none, none, none, none] V7
    ⟨fun x hx => by
      obtain ⟨k, hk, rfl⟩ := List.mem_map.mp hx
      exact ⟨k, rfl, List.mem_range.mp hk⟩, f7', r7, _, _, rfl⟩
  -- gaps
  have eE : enumD (m.cs.map fun c => PyData.int (c : Nat)) = m.cs.zipIdx.map fun p => PyData.tuple [.int (p.2 : Nat), .int (p.1 : Nat)] := by
    unfold enumD
    rw [List.zipIdx_map, List.map_map]
    rfl
  have eI : ∀ V, itemsOf (.d (csD m.cs)) V = some (m.cs.map fun c => PyData.int (c : Nat), V) := fun V => rfl
  obtain ⟨ρ9, V9, e9, ⟨_, f9, x3, x9, x10, hρ9⟩⟩ := forD_nx (g := gTp 2 (gsCons (gNm 3) (gsCons (gNm 9) gsNil))) (b := gsB) (fun ds ρ V => (∀ x ∈ ds, ∃ k c : Nat, x = .tuple [.int (k : Nat), .int (c : Nat)] ∧ m.cs[k]? = some c) ∧ Fr S.length S V ∧ ∃ j3 j9 j10, ρ = [some (.d (mD m)), some (.d (dueD m)), some (.o V1.length), j3, none, some (.o V5.length), none, none, k8, j9, j10]) (by
    rintro x ds ρ V ⟨hx, hf, j3, j9, j10, rfl⟩
    obtain ⟨k, c, rfl, hk⟩ := hx x (by simp)
    obtain ⟨k10, V', e, f⟩ := gs_turn ok hk (a1 := some (.d (dueD m))) (a2 := some (.o V1.length)) (a4 := none) (a5 := some (.o V5.length)) (j6 := none) (j7 := none) (j8 := k8) (j10 := j10) V
    exact ⟨_, rfl, _, V', e, fun y hy => hx y (by simp [hy]), hf.trans (f.weak hf.le), _, _, _, rfl⟩) (m.cs.zipIdx.map fun p => PyData.tuple [.int (p.2 : Nat), .int (p.1 : Nat)]) [some (.d (mD m)), some (.d (dueD m)), some (.o V1.length), k3, none, some (.o V5.length), none, none, k8, none, none] V8
    ⟨fun x hx => by
      obtain ⟨⟨c, i⟩, hp, rfl⟩ := List.mem_map.mp hx
      have hz := List.mem_zipIdx hp
      refine ⟨i, c, rfl, ?_⟩
      have hl := hz.2.1
      have he := hz.2.2
      simp at hl he
      rw [List.getElem?_eq_getElem hl, he], f8, _, _, _, rfl⟩
  refine ⟨V9, ?_, f9⟩
  subst hρ4 hρ8 hρ9
  have es : startR 11 [.d (mD m)] = ρ0 := by rw [hρ0]; rfl
  unfold rpC at e3
  unfold lcB at e4
  unfold wbC at e7
  unfold wtB at e8
  unfold gsB at e9
  unfold R__law_right
  refine runB_rt ?_
  rw [es]
  unfold B__law_right
  rw [st_seq, st_asg, eW, fl_ok, eG]
  dsimp only
  rw [st_seq, st_if, e3, fl_ok]
  simp only [Bool.false_eq_true, if_false, st_skip]
  rw [st_seq, st_for, er1 _ _ rfl, fl_ok, e4]
  dsimp only
  rw [st_seq, st_set, ev_sort, ev_cons, e5]
  simp only [bind_ok, ev_nil, e6, ofO_some, fl_ok, List.set_cons_zero, List.set_cons_succ]
  rw [st_seq, st_if, e7, fl_ok]
  simp only [Bool.false_eq_true, if_false, st_skip]
  rw [st_seq, st_for, er2 _ _ rfl, fl_ok, e8]
  dsimp only
  rw [st_seq, st_for, en_ev]
  simp only [ev_op2, ev_var, ev_c, List.getElem?_cons_zero, List.getElem?_cons_succ, bind_ok, ix_m0, ofO_some, eI, eE, fl_ok, e9]
  rfl
end
end G
set_option Elab.async false
set_option linter.all false
set_option maxRecDepth 100000
set_option maxHeartbeats 4000000

/-! H14: the law -/
namespace G
open PySem PySem.Spec L2 PyProof.Rows
set_option autoImplicit false

/-! begun -/
theorem beg_loop {a0 : Option W} : ∀ (ds : List PyData) (r : Int) (j2 j3 : Option W) (S : Sto), (∀ x ∈ ds, ∃ i cell : Int, x = .tuple [.int i, .int cell] ∧ 0 ≤ i) → ∃ r' k2 k3,
    forD (gTp 2 (gsCons (gNm 2) (gsCons (gNm 3) gsNil))) (fSet 1 (fOp2 gMod (fOp2 gAdd (fOp2 gAdd (fOp2 gMulT (fVar 1) (fC (.d (.int 998244353)))) (fVar 3)) (fOp2 gMulT (fC (.d (.int 104723))) (fVar 2))) (fC (.d (.int 2305843009213693951))))) ds [a0, some (.d (.int r)), j2, j3] S = .nx [a0, some (.d (.int r')), k2, k3] S
  | [], r, j2, j3, S, h => ⟨r, j2, j3, rfl⟩
  | d :: ds, r, j2, j3, S, h => by
    obtain ⟨i, cell, rfl, hi⟩ := h d (by simp)
    obtain ⟨r', k2, k3, e⟩ := beg_loop (a0 := a0) ds ((r * 998244353 + cell + 104723 * i) % 2305843009213693951) (some (.d (.int i))) (some (.d (.int cell))) S fun x hx => h x (by simp [hx])
    refine ⟨r', k2, k3, ?_⟩
    rw [forD_cons]
    have eg : gTp 2 (gsCons (gNm 2) (gsCons (gNm 3) gsNil)) (.d (.tuple [.int i, .int cell])) [a0, some (.d (.int r)), j2, j3] S = some [a0, some (.d (.int r)), some (.d (.int i)), some (.d (.int cell))] := rfl
    rw [eg]
    simp only [st_set, ev_op2, ev_var, ev_c, List.getElem?_cons_zero, List.getElem?_cons_succ, bind_ok, mul_int (tiny_r (i := r) (j := 998244353) (by omega)), ofO_some, add_int, mul_int (tiny_l (i := 104723) (j := i) (by omega)), mod_int (show (0 : Int) < 2305843009213693951 by decide), fl_ok, List.set_cons_zero, List.set_cons_succ]
    exact e
theorem great_comp {ρ : Slt} (h3 : 3 < ρ.length) {S : Sto} : ∀ (ns : List Int) (acc : List Int), acc.length + ns.length ≤ 1000 →
    compD (gNm 3) (fTru (fOp2 cGe (fVar 3) (fOp2 gPow (fC (.d (.int 10))) (fC (.d (.int 18)))))) (fVar 3) S.length (ns.map PyData.int) ρ (S ++ [.lst (iW acc)]) = .ok () (S ++ [.lst (iW (acc ++ ns.filter fun i => decide ((1000000000000000000 : Int) ≤ i)))])
  | [], acc, hl => by simp [compD]
  | i :: ns, acc, hl => by
    simp only [List.length_cons] at hl
    rw [List.map_cons]
    unfold compD
    have hi : (ρ.set 3 (some (.d (.int i))))[3]? = some (some (.d (.int i))) := List.getElem?_set_self h3
    simp only [gt_nm, ev_tru, ev_op2, ev_var, hi, ev_c, bind_ok, gPow_k, ofO_some, ge_int', truth_b, Option.map_some]
    by_cases h : (1000000000000000000 : Int) ≤ i
    · have e := great_comp h3 (S := S) ns (acc ++ [i]) (by simp; omega)
      rw [List.append_assoc] at e
      simp only [decide_eq_true h, if_true, get_len_app]
      rw [if_pos (by unfold szOk iW; simp; omega), set_len_app]
      have e3 : iW acc ++ [W.d (.int i)] = iW (acc ++ [i]) := by simp [iW]
      rw [e3, e]
      simp [h]
    · have e := great_comp h3 (S := S) ns acc (by omega)
      simp only [decide_eq_false h, Bool.false_eq_true, if_false]
      rw [e]
      simp [h]
theorem r_begun {ns : List Int} (hl : ns.length ≤ 63) : ∃ (n g : Nat) (S' : Sto), R__law_begun [.d (.list (ns.map PyData.int))] [] = .ok (.o n) S' ∧ StN n g S' := by
  obtain ⟨r, k2, k3, e1⟩ := beg_loop (a0 := some (.d (.list (ns.map PyData.int)))) (enumD (ns.map PyData.int)) (15485863 + 37 * (ns.length : Int)) none none [] (fun x hx => by
    unfold enumD at hx
    obtain ⟨⟨y, i⟩, hy, rfl⟩ := List.mem_map.mp hx
    have hz := List.mem_zipIdx hy
    obtain ⟨cell, hc⟩ : ∃ cell : Int, y = .int cell := by
      have := hz.2.2
      simp at this
      exact ⟨_, this⟩
    exact ⟨(i : Nat), cell, by rw [hc], by omega⟩)
  have e2 := great_comp (ρ := wipeR [some (.d (.list (ns.map PyData.int))), some (.d (.int r)), k2, k3] [3]) (by simp [wipeR]) (S := [Cell.dic []]) ns [] (by simp; omega)
  rw [List.nil_append] at e2
  obtain ⟨gs, hgs⟩ : ∃ gs, gs = ns.filter fun i => decide ((1000000000000000000 : Int) ≤ i) := ⟨_, rfl⟩
  rw [← hgs] at e2
  have hgl : gs.length ≤ 100 := by
    have : gs.length ≤ ns.length := by rw [hgs]; exact List.length_filter_le _ _
    omega
  have ei : ∀ S, itemsOf (.d (.list (ns.map PyData.int))) S = some (ns.map PyData.int, S) := fun S => rfl
  have e3 : fLc (fIt (fVar 0)) (gNm 3) (fTru (fOp2 cGe (fVar 3) (fOp2 gPow (fC (.d (.int 10))) (fC (.d (.int 18)))))) (fVar 3) [3] [some (.d (.list (ns.map PyData.int))), some (.d (.int r)), k2, k3] [Cell.dic []] = .ok (.o 1) [Cell.dic [], .lst (iW gs)] := by
    unfold fLc
    simp only [it_ev, ev_var, List.getElem?_cons_zero, bind_ok, ei, ofO_some]
    have e2' : compD (gNm 3) (fTru (fOp2 cGe (fVar 3) (fOp2 gPow (fC (.d (.int 10))) (fC (.d (.int 18)))))) (fVar 3) 1 (ns.map PyData.int) (wipeR [some (.d (.list (ns.map PyData.int))), some (.d (.int r)), k2, k3] [3]) [Cell.dic [], Cell.lst []] = _ := e2
    show (noX (compD (gNm 3) (fTru (fOp2 cGe (fVar 3) (fOp2 gPow (fC (.d (.int 10))) (fC (.d (.int 18)))))) (fVar 3) 1 (ns.map PyData.int) (wipeR [some (.d (.list (ns.map PyData.int))), some (.d (.int r)), k2, k3] [3]) [Cell.dic [], Cell.lst []])).bind _ = _
    rw [e2']
    simp only [noX_ok, bind_ok]
    rfl
  refine ⟨0, 1, [stN r 1 0, .lst (iW gs)], ?_, r, 0, gs, rfl, rfl, hgl⟩
  unfold R__law_begun runB B__law_begun
  simp only [startR, List.map_cons, List.map_nil, List.length_cons, List.length_nil, Nat.zero_add, Nat.reduceAdd, Nat.reduceSub, List.replicate, List.cons_append, List.nil_append, st_seq, st_set, ev_op2, ev_c, ev_len, ev_cons, ev_nil, ev_var, List.getElem?_cons_zero, List.getElem?_cons_succ, bind_ok, len_l, List.length_map, ofO_some, mul_int (tiny_l (i := 37) (j := (ns.length : Int)) (by omega)), add_int, fl_ok, List.set_cons_zero, List.set_cons_succ, st_for, en_ev, ei, e1, st_ret, fDisp, evP, keyOf]
  rw [e3]
  rfl

theorem StN.fr {n g c : Nat} {S V : Sto} (h : StN n g S) (f : Fr c S V) (hn : n < c) (hg : g < c) : StN n g V := by
  obtain ⟨r, t, gs, h1, h2, h3⟩ := h
  exact ⟨r, t, gs, by rw [f.at_ n hn]; exact h1, by rw [f.at_ g hg]; exact h2, h3⟩
theorem cut_sub {α : Type} (xs : List α) (a b : Option Int) : ∃ i j, cutW xs a b = (xs.drop i).take j := ⟨_, _, rfl⟩
section
variable {m : Mach} {ca : Nat → Addr}
def touchW : PyData := .tuple [.str "touch"]
noncomputable def sdB (ca : Nat → Addr) : Fs := (fIf (fTru (fOp2 (dEq true) (fSaid (R__law_said ca) (fCall 2 [] R_way_from (fCons (fVar 3) (fCons (fVar 7) fNil)))) (fTup (fCons (fC (.d (.str "touch"))) fNil)))) (fRet (fC (.d (.bool false)))) fSkip)
theorem sd_turn (ok : Ok m) {s : Spot} (ho : okS m.cs s) (hs : s ∉ spotsOf m.ts) {a0 a1 a2 a4 a5 a6 : Option W} (V : Sto) : ∃ V', sdB ca [a0, a1, a2, some (.d (mD m)), a4, a5, a6, some (.d (sD s))] V = .nx [a0, a1, a2, some (.d (mD m)), a4, a5, a6, some (.d (sD s))] V' ∧ Fr V.length V V' := by
  obtain ⟨V1, e1, f1⟩ := r_way_free ok ho hs V
  have eg : (fun S' => fCall 2 [] R_way_from (fCons (fVar 3) (fCons (fVar 7) fNil)) [a0, a1, a2, some (.d (mD m)), a4, a5, a6, some (.d (sD s))] S') V = .ex ⟨1, []⟩ V1 := by
    simp only [startR, List.map_cons, List.map_nil, List.length_cons, List.length_nil, Nat.zero_add, Nat.reduceAdd, Nat.reduceSub, List.replicate, List.cons_append, List.nil_append, st_seq, st_set, st_ret, st_if, st_exp, st_par, st_skip, ev_call, ev_cons, ev_nil, ev_var, ev_c, ev_op2, ev_tru, ev_or, ev_and, ev_not, List.getElem?_cons_zero, List.getElem?_cons_succ, bind_ok, ofO_some, if_true, ofD_nil, List.append_nil, fl_ok, List.set_cons_zero, List.set_cons_succ, truth_b, Option.map_some, Bool.not_true, Bool.not_false, Bool.false_eq_true, if_false, e1]
  obtain ⟨V2, e2, f2⟩ := said_free (ca := ca) eg
  have e3 : fSaid (R__law_said ca) (fCall 2 [] R_way_from (fCons (fVar 3) (fCons (fVar 7) fNil))) [a0, a1, a2, some (.d (mD m)), a4, a5, a6, some (.d (sD s))] V = .ok (.d touchW) V2 := by
    unfold fSaid
    rw [allF_eq e2]
    rfl
  have eT : ∀ (ρ : Slt), fTup (fCons (fC (.d (.str "touch"))) fNil) ρ V2 = .ok (.d touchW) V2 := fun ρ => rfl
  have sh : SeqAt.shaped touchW = true := by decide +kernel
  have e4 : dEq true (.d touchW) (.d touchW) V2 = some (.d (.bool false), V2) := by
    rw [dEq_d true sh sh, show PyData.eqv touchW touchW = true by decide +kernel]
    rfl
  refine ⟨V2, ?_, f1.trans (f2.weak f1.le)⟩
  unfold sdB
  simp only [st_if, ev_tru, ev_op2, e3, bind_ok, eT, e4, ofO_some, truth_b, Option.map_some, fl_ok, Bool.false_eq_true, if_false, st_skip]
noncomputable def lwB (ca : Nat → Addr) : Fs := (fSeq (fSet 3 (fCall 1 [] R__law_machine (fCons (fVar 1) fNil)))
  (fSeq (fPar 4 5 (fCons (fCB gRepr (fCons (fVar 3) fNil)) (fCons (fLc (fIt (fCall 1 [] R__law_places (fCons (fOp2 gIx (fVar 3) (fC (.d (.int 0)))) fNil))) (gNm 6) (fTru (fOp2 (gInX true) (fVar 6) (fCall 1 [] R__law_numbers (fCons (fVar 3) fNil)))) (fVar 6) [6]) fNil)))
  (fSeq (fIf (fOr (fNot (fTru (fCall 1 [] R__law_right (fCons (fVar 3) fNil)))) (fOr (fNot (fTru (fCall 1 [] R__law_right (fCons (fVar 3) fNil)))) (fTru (fOp2 (dEq true) (fCB gRepr (fCons (fVar 3) fNil)) (fVar 4))))) (fRet (fC (.d (.bool false)))) fSkip)
  (fFor (fIt (fOp2 gAdd (fSl (fVar 5) fNoP (fPart (fC (.d (.int 2))))) (fSl (fVar 5) (fPart (fNeg (fC (.d (.int 1))))) fNoP))) (gNm 7) (sdB ca)))))
theorem law_turn {n g : Nat} {S : Sto} (h : StN n g S) {a0 j2 j3 j4 j5 j6 j7 : Option W} : ∃ k3 k4 k5 k7 S', lwB ca [a0, some (.o n), j2, j3, j4, j5, j6, j7] S = .nx [a0, some (.o n), j2, k3, k4, k5, j6, k7] S' ∧ StN n g S' := by
  obtain ⟨m, S1, e1, ok, s1, _⟩ := r_mach h
  have hn := s1.lt
  have fw := ok.few
  have rp := rp_mD ok
  have q1 : ∀ V, gRepr [.d (mD m)] V = some (.d (.str (mD m).shown), V) := fun V => repr_ok rp rfl (by decide) (by decide) V
  have q3 := fun V => ne_str rp.ok V
  obtain ⟨T, e2⟩ := r_places (cs := m.cs) fw.one ok.s30 S1
  have cl : (cells m.cs).length ≤ 30 := by
    have := cells_len (cs := m.cs)
    have := ok.s30
    omega
  obtain ⟨V2, hV2⟩ : ∃ V2, V2 = S1 ++ Cell.lst (spW (cells m.cs)) :: T := ⟨_, rfl⟩
  rw [← hV2] at e2
  have r2 : Rd V2 S1.length ((cells m.cs).map sD) := .inl (by
    rw [hV2, get_len_app]
    unfold spW
    rw [List.map_map] <;> rfl)
  obtain ⟨i1, i2⟩ := r2.items
  obtain ⟨V3, hV3⟩ : ∃ V3, V3 = V2.set S1.length (.fz (.list ((cells m.cs).map sD))) := ⟨_, rfl⟩
  rw [← hV3] at i1 i2
  have l2 : S1.length < V2.length := r2.lt
  have l3 : V3.length = V2.length := by rw [hV3]; simp
  obtain ⟨V4, e4, f4, l4, n4⟩ := lc_gen (f := fIt (fCall 1 [] R__law_places (fCons (fOp2 gIx (fVar 3) (fC (.d (.int 0)))) fNil))) (g := gNm 6) (t := fTru (fOp2 (gInX true) (fVar 6) (fCall 1 [] R__law_numbers (fCons (fVar 3) fNil)))) (e := fVar 6) (vs := [6]) (ρ := [a0, some (.o n), j2, some (.d (mD m)), j4, j5, j6, j7]) (S := S1) (S0 := V3) (ds := cells m.cs) (mk := sD)
    (fun s => decide (s ∉ spotsOf m.ts)) sD (Fr V3.length V3) (by
      simp only [it_ev, startR, List.map_cons, List.map_nil, List.length_cons, List.length_nil, Nat.zero_add, Nat.reduceAdd, Nat.reduceSub, List.replicate, List.cons_append, List.nil_append, st_seq, st_set, st_ret, st_if, st_exp, st_par, st_skip, ev_call, ev_cons, ev_nil, ev_var, ev_c, ev_op2, ev_tru, ev_or, ev_and, ev_not, List.getElem?_cons_zero, List.getElem?_cons_succ, bind_ok, ofO_some, if_true, ofD_nil, List.append_nil, fl_ok, List.set_cons_zero, List.set_cons_succ, truth_b, Option.map_some, Bool.not_true, Bool.not_false, Bool.false_eq_true, if_false, ix_m0, e2, i1]) (by omega) (fun V x hV hl => hV.set (Nat.le_refl _) x) ((Fr.refl _ _).app (Nat.le_refl _) _)
    (fun s hs => ⟨_, fun V => rfl, fun V hV hl => by
      have en := r_law_numbers ok V
      have t : Tab (V ++ [.dix (tabL (numD m) (spotsOf m.ts))]) V.length (numD m) (spotsOf m.ts) := tab_d (get_len_app _ _ _)
      have q := t.nis s
      exact ⟨V ++ [.dix (tabL (numD m) (spotsOf m.ts))], by simp only [wipeR, startR, List.map_cons, List.map_nil, List.length_cons, List.length_nil, Nat.zero_add, Nat.reduceAdd, Nat.reduceSub, List.replicate, List.cons_append, List.nil_append, st_seq, st_set, st_ret, st_if, st_exp, st_par, st_skip, ev_call, ev_cons, ev_nil, ev_var, ev_c, ev_op2, ev_tru, ev_or, ev_and, ev_not, List.getElem?_cons_zero, List.getElem?_cons_succ, bind_ok, ofO_some, if_true, ofD_nil, List.append_nil, fl_ok, List.set_cons_zero, List.set_cons_succ, truth_b, Option.map_some, Bool.not_true, Bool.not_false, Bool.false_eq_true, if_false, en, q], hV.app (Nat.le_refl _) _, by simp, List.getElem?_append_left hl, fun _ => ⟨_, rfl, hV.app (Nat.le_refl _) _, Nat.le_refl _, rfl⟩⟩⟩)
  obtain ⟨fl, hfl⟩ : ∃ fl, fl = (cells m.cs).filter fun s => decide (s ∉ spotsOf m.ts) := ⟨_, rfl⟩
  rw [← hfl] at n4
  have fll : fl.length ≤ 30 := by rw [hfl]; exact Nat.le_trans (List.length_filter_le _ _) cl
  have fm : ∀ s ∈ fl, okS m.cs s ∧ s ∉ spotsOf m.ts := fun s hs => by
    rw [hfl, List.mem_filter, decide_eq_true_iff] at hs
    exact ⟨(cells_mem _ s).mp hs.1, hs.2⟩
  obtain ⟨V5, e5, f5⟩ := r_law_right ok V4
  obtain ⟨V6, e6, f6⟩ := r_law_right ok V5
  have l5 := f5.le
  have l6 := f6.le
  have n6 : V6[V3.length]? = some (.lst ((fl.map sD).map W.d)) := by rw [f6.at_ _ (by omega), f5.at_ _ (by omega)]; exact n4
  have s3 : Fr S1.length S1 V3 := by
    rw [hV3, hV2]
    exact ((Fr.refl _ _).app (Nat.le_refl _) _).set (Nat.le_refl _) _
  have s6 : Fr S1.length S1 V6 := (s3.trans (f4.weak (by omega))).trans ((f5.weak (by omega)).trans (f6.weak (by omega)))
  -- the spots asked
  have lq : ∀ V, V[V3.length]? = some (.lst ((fl.map sD).map W.d)) → lstOf (.o V3.length) V = some ((fl.map sD).map W.d) := fun V hV => by
    unfold lstOf
    simp only [hV]
  obtain ⟨c1, hc1⟩ : ∃ c1 : List Spot, cutW ((fl.map sD).map W.d) none (some 2) = (c1.map sD).map W.d ∧ c1.length ≤ 30 ∧ ∀ s ∈ c1, s ∈ fl := by
    obtain ⟨i, j, e⟩ := cut_sub ((fl.map sD).map W.d) none (some 2)
    exact ⟨(fl.drop i).take j, by rw [e, List.map_take, List.map_take, List.map_drop, List.map_drop], by simp; omega, fun s hs => List.mem_of_mem_drop (List.mem_of_mem_take hs)⟩
  obtain ⟨c2, hc2⟩ : ∃ c2 : List Spot, cutW ((fl.map sD).map W.d) (some (-1)) none = (c2.map sD).map W.d ∧ c2.length ≤ 30 ∧ ∀ s ∈ c2, s ∈ fl := by
    obtain ⟨i, j, e⟩ := cut_sub ((fl.map sD).map W.d) (some (-1)) none
    exact ⟨(fl.drop i).take j, by rw [e, List.map_take, List.map_take, List.map_drop, List.map_drop], by simp; omega, fun s hs => List.mem_of_mem_drop (List.mem_of_mem_take hs)⟩
  obtain ⟨V7, hV7⟩ : ∃ V7, V7 = V6 ++ [Cell.lst ((c1.map sD).map W.d)] := ⟨_, rfl⟩
  have g1 : gSl (.o V3.length) none (some 2) V6 = some (.o V6.length, V7) := by
    unfold gSl
    simp only [lq V6 n6, hc1.1, hV7]
  have n7 : V7[V3.length]? = some (.lst ((fl.map sD).map W.d)) := by rw [hV7, List.getElem?_append_left (by omega)]; exact n6
  obtain ⟨V8, hV8⟩ : ∃ V8, V8 = V7 ++ [Cell.lst ((c2.map sD).map W.d)] := ⟨_, rfl⟩
  have g2 : gSl (.o V3.length) (some (-1)) none V7 = some (.o V7.length, V8) := by
    unfold gSl
    simp only [lq V7 n7, hc2.1, hV8]
  have l7 : V7.length = V6.length + 1 := by rw [hV7]; simp
  have l8 : V8.length = V7.length + 1 := by rw [hV8]; simp
  have a1 : V8[V6.length]? = some (.lst ((c1.map sD).map W.d)) := by rw [hV8, List.getElem?_append_left (by omega), hV7]; exact get_len_app _ _ _
  have a2 : V8[V7.length]? = some (.lst ((c2.map sD).map W.d)) := by rw [hV8]; exact get_len_app _ _ _
  have g3 := add_o a1 a2 (by have := hc1.2.1; have := hc2.2.1; simp; omega)
  have ea : (c1.map sD).map W.d ++ (c2.map sD).map W.d = ((c1 ++ c2).map sD).map W.d := by simp
  rw [ea] at g3
  obtain ⟨V9, hV9⟩ : ∃ V9, V9 = V8 ++ [Cell.lst (((c1 ++ c2).map sD).map W.d)] := ⟨_, rfl⟩
  rw [← hV9] at g3
  have r9 : Rd V9 V8.length ((c1 ++ c2).map sD) := .inl (by rw [hV9]; exact get_len_app _ _ _)
  obtain ⟨i9, _⟩ := r9.items
  obtain ⟨V10, hV10⟩ : ∃ V10, V10 = V9.set V8.length (.fz (.list ((c1 ++ c2).map sD))) := ⟨_, rfl⟩
  rw [← hV10] at i9
  have ll6 := s6.le
  have s10 : Fr S1.length S1 V10 := by
    rw [hV10, hV9, hV8, hV7]
    exact (((s6.app (Nat.le_refl _) _).app (Nat.le_refl _) _).app (Nat.le_refl _) _).set (by rw [← hV7, ← hV8]; omega) _
  obtain ⟨ρ', V11, e11, ⟨_, f11, j7', hρ⟩⟩ := forD_nx (g := gNm 7) (b := sdB ca) (fun ds ρ V => (∀ x ∈ ds, ∃ s, x = sD s ∧ okS m.cs s ∧ s ∉ spotsOf m.ts) ∧ Fr S1.length S1 V ∧ ∃ j7, ρ = [a0, some (.o n), j2, some (.d (mD m)), some (.d (.str (mD m).shown)), some (.o V3.length), j6, j7]) (by
    rintro x ds ρ V ⟨hx, hf, j7, rfl⟩
    obtain ⟨s, rfl, ho, hs⟩ := hx x (by simp)
    obtain ⟨V', e, f⟩ := sd_turn (ca := ca) ok ho hs (a0 := a0) (a1 := some (.o n)) (a2 := j2) (a4 := some (.d (.str (mD m).shown))) (a5 := some (.o V3.length)) (a6 := j6) V
    exact ⟨_, rfl, _, V', e, fun y hy => hx y (by simp [hy]), hf.trans (f.weak hf.le), _, rfl⟩) ((c1 ++ c2).map sD) [a0, some (.o n), j2, some (.d (mD m)), some (.d (.str (mD m).shown)), some (.o V3.length), j6, j7] V10
    ⟨fun x hx => by
      obtain ⟨s, hs, rfl⟩ := List.mem_map.mp hx
      have : s ∈ fl := by
        rcases List.mem_append.mp hs with k | k
        · exact hc1.2.2 s k
        · exact hc2.2.2 s k
      exact ⟨s, rfl, fm s this⟩, s10, _, rfl⟩
  subst hρ
  refine ⟨some (.d (mD m)), some (.d (.str (mD m).shown)), some (.o V3.length), j7', V11, ?_, s1.fr f11 hn.1 hn.2.1⟩
  have eI : ∀ ρ : Slt, ρ[5]? = some (some (.o V3.length)) → fIt (fOp2 gAdd (fSl (fVar 5) fNoP (fPart (fC (.d (.int 2))))) (fSl (fVar 5) (fPart (fNeg (fC (.d (.int 1))))) fNoP)) ρ V6 = .ok ((c1 ++ c2).map sD) V10 := fun ρ hρ => by
    have p1 : ∀ S, fPart (fC (.d (.int 2))) ρ S = .ok (some 2) S := fun S => rfl
    have p2 : ∀ S, fPart (fNeg (fC (.d (.int 1)))) ρ S = .ok (some (-1)) S := fun S => rfl
    rw [it_ev, ev_op2, ev_sl]
    simp only [ev_var, hρ, bind_ok, noP, p1, g1, ofO_some]
    rw [ev_sl]
    simp only [ev_var, hρ, bind_ok, noP, p2, g2, ofO_some, g3, i9]
  have eM : fCall 1 [] R__law_machine (fCons (fVar 1) fNil) [a0, some (.o n), j2, j3, j4, j5, j6, j7] S = .ok (.d (mD m)) S1 := by
    simp only [startR, List.map_cons, List.map_nil, List.length_cons, List.length_nil, Nat.zero_add, Nat.reduceAdd, Nat.reduceSub, List.replicate, List.cons_append, List.nil_append, st_seq, st_set, st_ret, st_if, st_exp, st_par, st_skip, ev_call, ev_cons, ev_nil, ev_var, ev_c, ev_op2, ev_tru, ev_or, ev_and, ev_not, List.getElem?_cons_zero, List.getElem?_cons_succ, bind_ok, ofO_some, if_true, ofD_nil, List.append_nil, fl_ok, List.set_cons_zero, List.set_cons_succ, truth_b, Option.map_some, Bool.not_true, Bool.not_false, Bool.false_eq_true, if_false, e1]
  have ePar : fPar 4 5 (fCons (fCB gRepr (fCons (fVar 3) fNil)) (fCons (fLc (fIt (fCall 1 [] R__law_places (fCons (fOp2 gIx (fVar 3) (fC (.d (.int 0)))) fNil))) (gNm 6) (fTru (fOp2 (gInX true) (fVar 6) (fCall 1 [] R__law_numbers (fCons (fVar 3) fNil)))) (fVar 6) [6]) fNil)) [a0, some (.o n), j2, some (.d (mD m)), j4, j5, j6, j7] S1 = .nx [a0, some (.o n), j2, some (.d (mD m)), some (.d (.str (mD m).shown)), some (.o V3.length), j6, j7] V4 := by
    rw [st_par, ev_cons, ev_repr, ev_cons, ev_var]
    simp only [List.getElem?_cons_zero, List.getElem?_cons_succ, bind_ok, ev_nil, q1, ofO_some]
    rw [ev_cons, e4]
    simp only [bind_ok, ev_nil, fl_ok, List.set_cons_zero, List.set_cons_succ]
  have eIf : fIf (fOr (fNot (fTru (fCall 1 [] R__law_right (fCons (fVar 3) fNil)))) (fOr (fNot (fTru (fCall 1 [] R__law_right (fCons (fVar 3) fNil)))) (fTru (fOp2 (dEq true) (fCB gRepr (fCons (fVar 3) fNil)) (fVar 4))))) (fRet (fC (.d (.bool false)))) fSkip [a0, some (.o n), j2, some (.d (mD m)), some (.d (.str (mD m).shown)), some (.o V3.length), j6, j7] V4 = .nx [a0, some (.o n), j2, some (.d (mD m)), some (.d (.str (mD m).shown)), some (.o V3.length), j6, j7] V6 := by
    simp only [startR, List.map_cons, List.map_nil, List.length_cons, List.length_nil, Nat.zero_add, Nat.reduceAdd, Nat.reduceSub, List.replicate, List.cons_append, List.nil_append, st_seq, st_set, st_ret, st_if, st_exp, st_par, st_skip, ev_call, ev_cons, ev_nil, ev_var, ev_c, ev_op2, ev_tru, ev_or, ev_and, ev_not, List.getElem?_cons_zero, List.getElem?_cons_succ, bind_ok, ofO_some, if_true, ofD_nil, List.append_nil, fl_ok, List.set_cons_zero, List.set_cons_succ, truth_b, Option.map_some, Bool.not_true, Bool.not_false, Bool.false_eq_true, if_false, ev_repr, e5, e6, q1, q3]
  unfold lwB
  rw [st_seq, st_set, eM, fl_ok]
  simp only [List.set_cons_zero, List.set_cons_succ]
  rw [st_seq, ePar]
  simp only []
  rw [st_seq, eIf]
  simp only []
  rw [st_for, eI _ rfl, fl_ok, e11]
end
theorem law_true (ca : Nat → Addr) (ns : List Int) (h : ns.length ≤ 63) : ∃ S', R_law ca [.d (.list (ns.map PyData.int))] [] = .ok (.d (.bool true)) S' := by
  obtain ⟨n, g, S1, e1, s1⟩ := r_begun h
  obtain ⟨ρ', S', h1, j2, j3, j4, j5, j6, j7, rfl, _⟩ := forD_nx (g := gNm 2) (b := lwB ca) (fun ds ρ S => ∃ j2 j3 j4 j5 j6 j7, ρ = [some (.d (.list (ns.map PyData.int))), some (.o n), j2, j3, j4, j5, j6, j7] ∧ StN n g S) (by
    rintro x ds ρ S ⟨j2, j3, j4, j5, j6, j7, rfl, hs⟩
    obtain ⟨k3, k4, k5, k7, S2, e, s2⟩ := law_turn (ca := ca) hs (a0 := some (.d (.list (ns.map PyData.int)))) (j2 := some (.d x)) (j3 := j3) (j4 := j4) (j5 := j5) (j6 := j6) (j7 := j7)
    exact ⟨_, rfl, _, S2, e, _, _, _, _, _, _, rfl, s2⟩) (rngD 0 (4 + min 4 ((ns.length : Int) / 6)).toNat) [some (.d (.list (ns.map PyData.int))), some (.o n), none, none, none, none, none, none] S1 ⟨none, none, none, none, none, none, rfl, s1⟩
  have eL : ∀ S, gLen [.d (.list (ns.map PyData.int))] S = some (.d (.int ns.length), S) := fun S => by
    show some (W.d (.int ((ns.map PyData.int).map W.d).length), S) = _
    rw [List.length_map, List.length_map]
  have e8 : ∀ S, gDiv (.d (.int (ns.length : Int))) (.d (.int 6)) S = some (.d (.int ((ns.length : Int) / 6)), S) := fun S => div_int (by decide) (lt_mid (Nat.lt_of_lt_of_le (show (6 : Int).natAbs < 2 ^ 3 by decide) (Nat.pow_le_pow_right (by decide) (by decide)))) S
  have eR : ∀ ρ : Slt, ρ[0]? = some (some (.d (.list (ns.map PyData.int)))) → fR1 (fCons (fOp2 gAdd (fC (.d (.int 4))) (fCB (gMM PySem.W.minD 2) (fCons (fC (.d (.int 4))) (fCons (fOp2 gDiv (fCB gLen (fCons (fVar 0) fNil)) (fC (.d (.int 6)))) fNil)))) fNil) ρ S1 = .ok (rngD 0 (4 + min 4 ((ns.length : Int) / 6)).toNat) S1 := fun ρ h0 => by
    rw [r1_ev _ _ S1 S1 (4 + min 4 ((ns.length : Int) / 6)) (by simp only [ev_op2, ev_c, bind_ok, ev_mm, ev_cons, ev_nil, ev_len, ev_var, h0, eL, ofO_some, e8, min2_i, add_int]) (by omega)]
  refine ⟨S', ?_⟩
  unfold lwB sdB at h1
  unfold R_law runB B_law
  simp only [startR, List.map_cons, List.map_nil, List.length_cons, List.length_nil, Nat.zero_add, Nat.reduceAdd, Nat.reduceSub, List.replicate, List.cons_append, List.nil_append]
  rw [st_seq, st_set, show fCall 1 [] R__law_begun (fCons (fVar 0) fNil) [some (.d (.list (ns.map PyData.int))), none, none, none, none, none, none, none] [] = .ok (.o n) S1 by simp only [startR, List.map_cons, List.map_nil, List.length_cons, List.length_nil, Nat.zero_add, Nat.reduceAdd, Nat.reduceSub, List.replicate, List.cons_append, List.nil_append, st_seq, st_set, st_ret, st_if, st_exp, st_par, st_skip, ev_call, ev_cons, ev_nil, ev_var, ev_c, ev_op2, ev_tru, ev_or, ev_and, ev_not, List.getElem?_cons_zero, List.getElem?_cons_succ, bind_ok, ofO_some, if_true, ofD_nil, List.append_nil, fl_ok, List.set_cons_zero, List.set_cons_succ, truth_b, Option.map_some, Bool.not_true, Bool.not_false, Bool.false_eq_true, if_false, e1], fl_ok]
  simp only [List.set_cons_zero, List.set_cons_succ]
  rw [st_seq, st_for, eR _ rfl, fl_ok, h1]
  simp only [st_ret, ev_c, fl_ok]
end G
set_option Elab.async false
set_option linter.all false
set_option maxRecDepth 100000
set_option maxHeartbeats 4000000
namespace G
open PySem PySem.Spec L2 PyProof.Rows
set_option autoImplicit false
abbrev mods : List Stmt := PySem.Challenge.pw_evenwheels_k10_ways_and_lots.main.body
abbrev s_is_whole : Stmt := mods.getD 14 (.Pass ⟨0, 0, 0, 0⟩)
abbrev s_own_lots : Stmt := mods.getD 25 (.Pass ⟨0, 0, 0, 0⟩)
abbrev s_touches_at : Stmt := mods.getD 30 (.Pass ⟨0, 0, 0, 0⟩)
abbrev s_met_from : Stmt := mods.getD 31 (.Pass ⟨0, 0, 0, 0⟩)
abbrev s__law_begun : Stmt := mods.getD 39 (.Pass ⟨0, 0, 0, 0⟩)
abbrev s__law_next : Stmt := mods.getD 40 (.Pass ⟨0, 0, 0, 0⟩)
abbrev s__law_places : Stmt := mods.getD 42 (.Pass ⟨0, 0, 0, 0⟩)
abbrev s__law_said : Stmt := mods.getD 44 (.Pass ⟨0, 0, 0, 0⟩)
abbrev s__law_joined : Stmt := mods.getD 45 (.Pass ⟨0, 0, 0, 0⟩)
abbrev s__law_numbers : Stmt := mods.getD 46 (.Pass ⟨0, 0, 0, 0⟩)
abbrev s__law_rolled : Stmt := mods.getD 47 (.Pass ⟨0, 0, 0, 0⟩)
abbrev s_are_counts : Stmt := mods.getD 19 (.Pass ⟨0, 0, 0, 0⟩)
abbrev s_is_spot : Stmt := mods.getD 20 (.Pass ⟨0, 0, 0, 0⟩)
abbrev s_need_wheel : Stmt := mods.getD 27 (.Pass ⟨0, 0, 0, 0⟩)
abbrev s_own_lot_of : Stmt := mods.getD 28 (.Pass ⟨0, 0, 0, 0⟩)
abbrev s_own_way : Stmt := mods.getD 32 (.Pass ⟨0, 0, 0, 0⟩)
abbrev s__law_rims : Stmt := mods.getD 41 (.Pass ⟨0, 0, 0, 0⟩)
abbrev s_is_touch : Stmt := mods.getD 21 (.Pass ⟨0, 0, 0, 0⟩)
abbrev s_own_web : Stmt := mods.getD 33 (.Pass ⟨0, 0, 0, 0⟩)
abbrev s_need_spot : Stmt := mods.getD 35 (.Pass ⟨0, 0, 0, 0⟩)
abbrev s__law_machine : Stmt := mods.getD 43 (.Pass ⟨0, 0, 0, 0⟩)
abbrev s_touches_misfit : Stmt := mods.getD 22 (.Pass ⟨0, 0, 0, 0⟩)
abbrev s_need_machine : Stmt := mods.getD 23 (.Pass ⟨0, 0, 0, 0⟩)
abbrev s_lots : Stmt := mods.getD 26 (.Pass ⟨0, 0, 0, 0⟩)
abbrev s_lot_of : Stmt := mods.getD 29 (.Pass ⟨0, 0, 0, 0⟩)
abbrev s_web : Stmt := mods.getD 34 (.Pass ⟨0, 0, 0, 0⟩)
abbrev s_way_from : Stmt := mods.getD 36 (.Pass ⟨0, 0, 0, 0⟩)
abbrev s_ways_to : Stmt := mods.getD 37 (.Pass ⟨0, 0, 0, 0⟩)
abbrev s__law_right : Stmt := mods.getD 48 (.Pass ⟨0, 0, 0, 0⟩)
abbrev s_law : Stmt := mods.getD 49 (.Pass ⟨0, 0, 0, 0⟩)
structure Txt (Γ : Gm) (K : PySem.W.Frag) (mg : Str → Option Value) : Prop where
  z_LookupError : mg "LookupError" = none
  z_ValueError : mg "ValueError" = none
  z_all : mg "all" = none
  z_bool : mg "bool" = none
  z_enumerate : mg "enumerate" = none
  z_int : mg "int" = none
  z_isinstance : mg "isinstance" = none
  z_len : mg "len" = none
  z_list : mg "list" = none
  z_max : mg "max" = none
  z_min : mg "min" = none
  z_range : mg "range" = none
  z_repr : mg "repr" = none
  z_set : mg "set" = none
  z_sorted : mg "sorted" = none
  z_sum : mg "sum" = none
  z_tuple : mg "tuple" = none
  x_OutOfPlace : ExV Γ K mg "OutOfPlace" 0
  x_NoTouch : ExF Γ K mg "NoTouch" 1
  m_WheelError_MissError : ExM Γ K mg "WheelError" "MissError" [0, 1]
  o_BadLoad : ExO Γ K mg "BadLoad" [(0, false), (1, false)]
  o_BadMachine : ExO Γ K mg "BadMachine" [(0, false), (1, false)]
  o_BadPaper : ExO Γ K mg "BadPaper" [(0, false), (1, false)]
  o_BadSpot : ExO Γ K mg "BadSpot" [(0, false), (1, false)]
  o_NoTouch : ExO Γ K mg "NoTouch" [(0, false), (1, true)]
  o_OutOfPlace : ExO Γ K mg "OutOfPlace" [(0, true), (1, false)]
  i_LookupError : ∀ c b, List.lookup c ([(0, false), (1, true)] : List (Nat × Bool)) = some b → ExI Γ K c (.type "LookupError") b
  i_ValueError : ∀ c b, List.lookup c ([(0, true), (1, false)] : List (Nat × Bool)) = some b → ExI Γ K c (.type "ValueError") b
  t_BadRule_BadReadings_TooGreat_Never : ExT Γ K mg "BadRule" "BadReadings" "TooGreat" "Never" [(0, false), (1, false)]
  c_MOST_CELLS : GlD K mg "MOST_CELLS" (.int 30)
  c_MOST_TOUCHES : GlD K mg "MOST_TOUCHES" (.int 8)
  c_MOST_WHEELS : GlD K mg "MOST_WHEELS" (.int 16)
theorem Txt.dg {Γ : Gm} {K : PySem.W.Frag} {mg : Str → Option Value} {w0 : Wd} (T : Txt Γ K mg) : Txt (dG Γ w0) K mg := ⟨T.z_LookupError, T.z_ValueError, T.z_all, T.z_bool, T.z_enumerate, T.z_int, T.z_isinstance, T.z_len, T.z_list, T.z_max, T.z_min, T.z_range, T.z_repr, T.z_set, T.z_sorted, T.z_sum, T.z_tuple, T.x_OutOfPlace.dg, T.x_NoTouch.dg, T.m_WheelError_MissError.dg, T.o_BadLoad.dg, T.o_BadMachine.dg, T.o_BadPaper.dg, T.o_BadSpot.dg, T.o_NoTouch.dg, T.o_OutOfPlace.dg, fun c b h => (T.i_LookupError c b h).dg, fun c b h => (T.i_ValueError c b h).dg, T.t_BadRule_BadReadings_TooGreat_Never.dg, T.c_MOST_CELLS, T.c_MOST_TOUCHES, T.c_MOST_WHEELS⟩
section
variable {Γ : Gm} {P : Program} {wd : World} {K : PySem.W.Frag} {mg : Str → Option Value} {base : Heap}
theorem sc_is_whole : FnScope ["thing"] ["thing"] (defScope s_is_whole) := ⟨rfl, rfl, rfl, by decide +kernel, rfl, by decide +kernel, by decide +kernel⟩
theorem fo_is_whole (T : Txt Γ K mg)  {f : Addr} {fd : FuncData} (F : FunD K "is_whole" "is_whole" (defArgs s_is_whole) (defBody s_is_whole) (defScope s_is_whole) [] [] f fd) : FnOk P wd K mg base (L2.CX P wd) 1 f fd ["thing"] (spOf Γ K 1 R_is_whole) := by
  have S := sc_is_whole
  refine fn_rule F sc_is_whole fun cdv A outer s H E hr => ?_
  have tk : Takes (cxOf (L2.CX P wd) P wd K mg base ["thing"] "is_whole" (defScope s_is_whole) f cdv A outer s H E) (fun c d _ H => E c d H) := takes_of rfl rfl rfl rfl
  have rm : Rm (cxOf (L2.CX P wd) P wd K mg base ["thing"] "is_whole" (defScope s_is_whole) f cdv A outer s H E) := rm_of hr
  exact (vb_one (vs_ret (ve_and (bi_int T.z_isinstance T.z_int (ve_var 0)) (ve_one (ve_not (bi_bool T.z_isinstance T.z_bool (ve_var 0)))))))
theorem ok_is_whole (T : Txt Γ K mg)  {f : Addr} {fd : FuncData} (F : FunD K "is_whole" "is_whole" (defArgs s_is_whole) (defBody s_is_whole) (defScope s_is_whole) [] [] f fd) (hm : mg "is_whole" = some (.ref f)) : Cal Γ P wd K mg base 1 "is_whole" 1 [] R_is_whole :=
  Cal.of F hm rfl (fun _ _ _ _ _ _ us hl => match us, hl with | [_], _ => rfl) (fo_is_whole T  F)
theorem sc_own_lots : FnScope ["machine", "least", "one", "other", "low", "high", "number", "found", "wheel"] ["machine"] (defScope s_own_lots) := ⟨rfl, rfl, rfl, by decide +kernel, rfl, by decide +kernel, by decide +kernel⟩
theorem fo_own_lots (T : Txt Γ K mg)  {f : Addr} {fd : FuncData} (F : FunD K "own_lots" "own_lots" (defArgs s_own_lots) (defBody s_own_lots) (defScope s_own_lots) [] [] f fd) : FnOk P wd K mg base (L2.CX P wd) 1 f fd ["machine"] (spOf Γ K 1 R_own_lots) := by
  have S := sc_own_lots
  refine fn_rule F sc_own_lots fun cdv A outer s H E hr => ?_
  have tk : Takes (cxOf (L2.CX P wd) P wd K mg base ["machine", "least", "one", "other", "low", "high", "number", "found", "wheel"] "own_lots" (defScope s_own_lots) f cdv A outer s H E) (fun c d _ H => E c d H) := takes_of rfl rfl rfl rfl
  have rm : Rm (cxOf (L2.CX P wd) P wd K mg base ["machine", "least", "one", "other", "low", "high", "number", "found", "wheel"] "own_lots" (defScope s_own_lots) f cdv A outer s H E) := rm_of hr
  exact (vb_cons (vs_set 1 (ve_listR T.z_list T.z_range rfl (bc_len T.z_len  (va_cons (ve_ix (ve_var 0) ve_int) va_nil))) S.nd)
    (vb_cons (vs_for PassesOwn.leaving (vi_val (ve_ix (ve_var 0) ve_int)) (vg_tup (vgs_cons (vg_name 2 S.nd) (vgs_cons (vg_name 3 S.nd) vgs_nil))) (vb_cons (vs_asg (bc_sorted T.z_sorted rm (va_cons (ve_lst (va_cons (ve_ix (ve_var 1) (ve_ix (ve_var 2) ve_int)) (va_cons (ve_ix (ve_var 1) (ve_ix (ve_var 3) ve_int)) va_nil))) va_nil)) (vg_tup (vgs_cons (vg_name 4 S.nd) (vgs_cons (vg_name 5 S.nd) vgs_nil))))
    (vb_one (vs_setLc 1 [("number", 6)] S.nd (by rfl) (vi_val (ve_var 1)) (blkOk_by (by rfl)) (fun _ _ _ _ _ => (vg_name 6 S.nd)) (fun _ _ _ _ _ => vts_nil) (fun _ _ _ _ _ => (ve_if (vt_eq (by exact rm) (ve_var 6) (ve_var 5)) (ve_var 4) (ve_var 6)))))))
    (vb_cons (vs_set 7 (ve_lst va_nil) S.nd)
    (vb_cons (vs_for PassesOwn.leaving (vi_val (ve_sortSet T.z_sorted T.z_set rfl (va_cons (ve_var 1) va_nil))) (vg_name 4 S.nd) (vb_one (vs_expr (bm_append (ve_var 7) (va_cons (bc_tuple T.z_tuple  (va_cons (ve_lc [("wheel", 8), ("number", 6)] S.nd (vi_enum (va_cons (ve_var 1) va_nil) T.z_enumerate) (blkOk_by (by rfl)) (fun _ _ _ _ _ => (vg_tup (vgs_cons (vg_name 8 S.nd) (vgs_cons (vg_name 6 S.nd) vgs_nil)))) (fun _ _ _ _ _ => (vts_one (vt_eq (by exact rm) (ve_var 6) (ve_var 4)))) (fun _ _ _ _ _ => (ve_var 8))) va_nil)) va_nil)))))
    (vb_one (vs_ret (bc_tuple T.z_tuple  (va_cons (ve_var 7) va_nil))))))))
theorem ok_own_lots (T : Txt Γ K mg)  {f : Addr} {fd : FuncData} (F : FunD K "own_lots" "own_lots" (defArgs s_own_lots) (defBody s_own_lots) (defScope s_own_lots) [] [] f fd) (hm : mg "own_lots" = some (.ref f)) : Cal Γ P wd K mg base 1 "own_lots" 1 [] R_own_lots :=
  Cal.of F hm rfl (fun _ _ _ _ _ _ us hl => match us, hl with | [_], _ => rfl) (fo_own_lots T  F)
theorem sc_touches_at : FnScope ["machine", "found", "number", "touch", "spot"] ["machine"] (defScope s_touches_at) := ⟨rfl, rfl, rfl, by decide +kernel, rfl, by decide +kernel, by decide +kernel⟩
theorem fo_touches_at (T : Txt Γ K mg)  {f : Addr} {fd : FuncData} (F : FunD K "touches_at" "touches_at" (defArgs s_touches_at) (defBody s_touches_at) (defScope s_touches_at) [] [] f fd) : FnOk P wd K mg base (L2.CX P wd) 1 f fd ["machine"] (spOf Γ K 1 R_touches_at) := by
  have S := sc_touches_at
  refine fn_rule F sc_touches_at fun cdv A outer s H E hr => ?_
  have tk : Takes (cxOf (L2.CX P wd) P wd K mg base ["machine", "found", "number", "touch", "spot"] "touches_at" (defScope s_touches_at) f cdv A outer s H E) (fun c d _ H => E c d H) := takes_of rfl rfl rfl rfl
  have rm : Rm (cxOf (L2.CX P wd) P wd K mg base ["machine", "found", "number", "touch", "spot"] "touches_at" (defScope s_touches_at) f cdv A outer s H E) := rm_of hr
  exact (vb_cons (vs_set 1 ve_newX S.nd)
    (vb_cons (vs_for PassesOwn.leaving (vi_enum (va_cons (ve_ix (ve_var 0) ve_int) va_nil) T.z_enumerate) (vg_tup (vgs_cons (vg_name 2 S.nd) (vgs_cons (vg_name 3 S.nd) vgs_nil))) (vb_one (vs_for PassesOwn.leaving (vi_val (ve_var 3)) (vg_name 4 S.nd) (vb_one (vs_putX rm (ve_var 2) (ve_var 1) (ve_var 4))))))
    (vb_one (vs_ret (ve_var 1)))))
theorem ok_touches_at (T : Txt Γ K mg)  {f : Addr} {fd : FuncData} (F : FunD K "touches_at" "touches_at" (defArgs s_touches_at) (defBody s_touches_at) (defScope s_touches_at) [] [] f fd) (hm : mg "touches_at" = some (.ref f)) : Cal Γ P wd K mg base 1 "touches_at" 1 [] R_touches_at :=
  Cal.of F hm rfl (fun _ _ _ _ _ _ us hl => match us, hl with | [_], _ => rfl) (fo_touches_at T  F)
theorem sc_met_from : FnScope ["machine", "at", "spot", "step", "wheel", "place", "count", "gap", "far"] ["machine", "at", "spot", "step"] (defScope s_met_from) := ⟨rfl, rfl, rfl, by decide +kernel, rfl, by decide +kernel, by decide +kernel⟩
theorem fo_met_from (T : Txt Γ K mg)  {f : Addr} {fd : FuncData} (F : FunD K "met_from" "met_from" (defArgs s_met_from) (defBody s_met_from) (defScope s_met_from) [] [] f fd) : FnOk P wd K mg base (L2.CX P wd) 1 f fd ["machine", "at", "spot", "step"] (spOf Γ K 4 R_met_from) := by
  have S := sc_met_from
  refine fn_rule F sc_met_from fun cdv A outer s H E hr => ?_
  have tk : Takes (cxOf (L2.CX P wd) P wd K mg base ["machine", "at", "spot", "step", "wheel", "place", "count", "gap", "far"] "met_from" (defScope s_met_from) f cdv A outer s H E) (fun c d _ H => E c d H) := takes_of rfl rfl rfl rfl
  have rm : Rm (cxOf (L2.CX P wd) P wd K mg base ["machine", "at", "spot", "step", "wheel", "place", "count", "gap", "far"] "met_from" (defScope s_met_from) f cdv A outer s H E) := rm_of hr
  exact (vb_cons (vs_asg (ve_var 2) (vg_tup (vgs_cons (vg_name 4 S.nd) (vgs_cons (vg_name 5 S.nd) vgs_nil))))
    (vb_cons (vs_set 6 (ve_ix (ve_ix (ve_var 0) ve_int) (ve_var 4)) S.nd)
    (vb_cons (vs_for PassesOwn.leaving (vi_r2 (va_cons ve_int (va_cons (ve_add (ve_var 6) ve_int) va_nil)) T.z_range) (vg_name 7 S.nd) (vb_cons (vs_set 8 (ve_tup (va_cons (ve_var 4) (va_cons (ve_md (ve_add (ve_var 5) (ve_mul (ve_var 3) (ve_var 7))) (ve_var 6)) va_nil))) S.nd)
    (vb_one (vs_if (vt_inX rm (ve_var 8) (ve_var 1)) (vb_one (vs_ret (ve_tup (va_cons (ve_xget rm (ve_var 1) (ve_var 8)) (va_cons (ve_var 7) va_nil))))) vb_nil))))
    (vb_one (vs_raise T.x_NoTouch tk)))))
theorem ok_met_from (T : Txt Γ K mg)  {f : Addr} {fd : FuncData} (F : FunD K "met_from" "met_from" (defArgs s_met_from) (defBody s_met_from) (defScope s_met_from) [] [] f fd) (hm : mg "met_from" = some (.ref f)) : Cal Γ P wd K mg base 1 "met_from" 4 [] R_met_from :=
  Cal.of F hm rfl (fun _ _ _ _ _ _ us hl => match us, hl with | [_, _, _, _], _ => rfl) (fo_met_from T  F)
theorem sc__law_begun : FnScope ["script", "run", "k", "cell"] ["script"] (defScope s__law_begun) := ⟨rfl, rfl, rfl, by decide +kernel, rfl, by decide +kernel, by decide +kernel⟩
theorem fo__law_begun (T : Txt Γ K mg)  {f : Addr} {fd : FuncData} (F : FunD K "_law_begun" "_law_begun" (defArgs s__law_begun) (defBody s__law_begun) (defScope s__law_begun) [] [] f fd) : FnOk P wd K mg base (L2.CX P wd) 1 f fd ["script"] (spOf Γ K 1 R__law_begun) := by
  have S := sc__law_begun
  refine fn_rule F sc__law_begun fun cdv A outer s H E hr => ?_
  have tk : Takes (cxOf (L2.CX P wd) P wd K mg base ["script", "run", "k", "cell"] "_law_begun" (defScope s__law_begun) f cdv A outer s H E) (fun c d _ H => E c d H) := takes_of rfl rfl rfl rfl
  have rm : Rm (cxOf (L2.CX P wd) P wd K mg base ["script", "run", "k", "cell"] "_law_begun" (defScope s__law_begun) f cdv A outer s H E) := rm_of hr
  exact (vb_cons (vs_set 1 (ve_add ve_int (ve_mul ve_int (bc_len T.z_len  (va_cons (ve_var 0) va_nil)))) S.nd)
    (vb_cons (vs_for PassesOwn.leaving (vi_enum (va_cons (ve_var 0) va_nil) T.z_enumerate) (vg_tup (vgs_cons (vg_name 2 S.nd) (vgs_cons (vg_name 3 S.nd) vgs_nil))) (vb_one (vs_set 1 (ve_md (ve_add (ve_add (ve_mul (ve_var 1) ve_int) (ve_var 3)) (ve_mul ve_int (ve_var 2))) ve_int) S.nd)))
    (vb_one (vs_ret (ve_disp (vps_cons ve_str (ve_var 1) (vps_cons ve_str (ve_lc [("cell", 3)] S.nd (vi_val (ve_var 0)) (blkOk_by (by rfl)) (fun _ _ _ _ _ => (vg_name 3 S.nd)) (fun _ _ _ _ _ => (vts_one (vt_ge (by exact rm) (ve_var 3) (ve_pw ve_int ve_int)))) (fun _ _ _ _ _ => (ve_var 3))) (vps_cons ve_str ve_int vps_nil))))))))
theorem ok__law_begun (T : Txt Γ K mg)  {f : Addr} {fd : FuncData} (F : FunD K "_law_begun" "_law_begun" (defArgs s__law_begun) (defBody s__law_begun) (defScope s__law_begun) [] [] f fd) (hm : mg "_law_begun" = some (.ref f)) : Cal Γ P wd K mg base 1 "_law_begun" 1 [] R__law_begun :=
  Cal.of F hm rfl (fun _ _ _ _ _ _ us hl => match us, hl with | [_], _ => rfl) (fo__law_begun T  F)
theorem sc__law_next : FnScope ["draw", "many", "great", "at", "found", "run"] ["draw", "many"] (defScope s__law_next) := ⟨rfl, rfl, rfl, by decide +kernel, rfl, by decide +kernel, by decide +kernel⟩
theorem fo__law_next (T : Txt Γ K mg)  {f : Addr} {fd : FuncData} (F : FunD K "_law_next" "_law_next" (defArgs s__law_next) (defBody s__law_next) (defScope s__law_next) [] [] f fd) : FnOk P wd K mg base (L2.CX P wd) 1 f fd ["draw", "many"] (spOf Γ K 2 R__law_next) := by
  have S := sc__law_next
  refine fn_rule F sc__law_next fun cdv A outer s H E hr => ?_
  have tk : Takes (cxOf (L2.CX P wd) P wd K mg base ["draw", "many", "great", "at", "found", "run"] "_law_next" (defScope s__law_next) f cdv A outer s H E) (fun c d _ H => E c d H) := takes_of rfl rfl rfl rfl
  have rm : Rm (cxOf (L2.CX P wd) P wd K mg base ["draw", "many", "great", "at", "found", "run"] "_law_next" (defScope s__law_next) f cdv A outer s H E) := rm_of hr
  exact (vb_cons (vs_par2T (va_cons (ve_add (ve_dget rm (ve_var 0) ve_str) ve_int) (va_cons (ve_dget rm (ve_var 0) ve_str) va_nil)) (vtg_D rm (ve_var 0) ve_str) (vtg_name 2 S.nd))
    (vb_cons (vs_set 3 (ve_md (ve_dget rm (ve_var 0) ve_str) (bc_max2 T.z_max rfl rm (va_cons ve_int (va_cons (bc_len T.z_len  (va_cons (ve_var 2) va_nil)) va_nil)))) S.nd)
    (vb_cons (vs_if (VW.vt (vw_and (vt_ne rm (ve_var 2) (ve_lst va_nil)) (vw_and1 (vt_gt rm (ve_ix (ve_var 2) (ve_var 3)) ve_int)))) (vb_cons (vs_set 4 (ve_md (ve_ix (ve_var 2) (ve_var 3)) (ve_var 1)) S.nd)
    (vb_cons (vs_putL (ve_fdv (ve_ix (ve_var 2) (ve_var 3)) (ve_var 1)) (ve_var 2) (ve_var 3))
    (vb_one (vs_ret (ve_var 4))))) vb_nil)
    (vb_cons (vs_set 5 (ve_add (ve_add (ve_mul (ve_dget rm (ve_var 0) ve_str) ve_int) (ve_mul ve_int (ve_dget rm (ve_var 0) ve_str))) ve_int) S.nd)
    (vb_cons (vs_putD rm (ve_md (ve_var 5) ve_int) (ve_var 0) ve_str)
    (vb_one (vs_ret (ve_md (ve_fdv (ve_dget rm (ve_var 0) ve_str) ve_int) (ve_var 1)))))))))
theorem ok__law_next (T : Txt Γ K mg)  {f : Addr} {fd : FuncData} (F : FunD K "_law_next" "_law_next" (defArgs s__law_next) (defBody s__law_next) (defScope s__law_next) [] [] f fd) (hm : mg "_law_next" = some (.ref f)) : Cal Γ P wd K mg base 1 "_law_next" 2 [] R__law_next :=
  Cal.of F hm rfl (fun _ _ _ _ _ _ us hl => match us, hl with | [_, _], _ => rfl) (fo__law_next T  F)
theorem sc__law_places : FnScope ["rims", "found", "k", "rim", "at"] ["rims"] (defScope s__law_places) := ⟨rfl, rfl, rfl, by decide +kernel, rfl, by decide +kernel, by decide +kernel⟩
theorem fo__law_places (T : Txt Γ K mg)  {f : Addr} {fd : FuncData} (F : FunD K "_law_places" "_law_places" (defArgs s__law_places) (defBody s__law_places) (defScope s__law_places) [] [] f fd) : FnOk P wd K mg base (L2.CX P wd) 1 f fd ["rims"] (spOf Γ K 1 R__law_places) := by
  have S := sc__law_places
  refine fn_rule F sc__law_places fun cdv A outer s H E hr => ?_
  have tk : Takes (cxOf (L2.CX P wd) P wd K mg base ["rims", "found", "k", "rim", "at"] "_law_places" (defScope s__law_places) f cdv A outer s H E) (fun c d _ H => E c d H) := takes_of rfl rfl rfl rfl
  have rm : Rm (cxOf (L2.CX P wd) P wd K mg base ["rims", "found", "k", "rim", "at"] "_law_places" (defScope s__law_places) f cdv A outer s H E) := rm_of hr
  exact (vb_cons (vs_set 1 (ve_lst va_nil) S.nd)
    (vb_cons (vs_for PassesOwn.leaving (vi_enum (va_cons (ve_var 0) va_nil) T.z_enumerate) (vg_tup (vgs_cons (vg_name 2 S.nd) (vgs_cons (vg_name 3 S.nd) vgs_nil))) (vb_one (vs_expr (bm_extend (ve_var 1) (va_cons (ve_lc [("at", 4)] S.nd (vi_r1 (va_cons (ve_var 3) va_nil) T.z_range) (blkOk_by (by rfl)) (fun _ _ _ _ _ => (vg_name 4 S.nd)) (fun _ _ _ _ _ => vts_nil) (fun _ _ _ _ _ => (ve_tup (va_cons (ve_var 2) (va_cons (ve_var 4) va_nil))))) va_nil)))))
    (vb_one (vs_ret (ve_var 1)))))
theorem ok__law_places (T : Txt Γ K mg)  {f : Addr} {fd : FuncData} (F : FunD K "_law_places" "_law_places" (defArgs s__law_places) (defBody s__law_places) (defScope s__law_places) [] [] f fd) (hm : mg "_law_places" = some (.ref f)) : Cal Γ P wd K mg base 1 "_law_places" 1 [] R__law_places :=
  Cal.of F hm rfl (fun _ _ _ _ _ _ us hl => match us, hl with | [_], _ => rfl) (fo__law_places T  F)
theorem sc__law_said : FnScope ["deed", "e", "found", "error", "some", "others", "kinds"] ["deed"] (defScope s__law_said) := ⟨rfl, rfl, rfl, by decide +kernel, rfl, by decide +kernel, by decide +kernel⟩
theorem cd__law_said (T : Txt Γ K mg)  {f0 : Addr} {fd : FuncData} (F : FunD K "_law_said" "_law_said" (defArgs s__law_said) (defBody s__law_said) (defScope s__law_said) [] [] f0 fd) (hm : mg "_law_said" = some (.ref f0)) : CalD Γ P wd K mg base 1 "_law_said" "deed" (R__law_said Γ.ca) := by
  refine ⟨f0, fd, defArgs s__law_said, defBody s__law_said, defScope s__law_said, ["deed", "e", "found", "error", "some", "others", "kinds"], fun f g => B__law_said Γ.ca f g, hm, F, sc__law_said, rfl, Or.inl rfl, fun _ _ _ _ _ _ us hl => match us, hl with | [_], _ => rfl, fun _ _ => rfl, fun A outer s H f c' q w0 g cdv hr DD => ?_⟩
  have S := sc__law_said
  have tk : Takes (cxOf C8.CX0 P wd K mg base ["deed", "e", "found", "error", "some", "others", "kinds"] "_law_said" (defScope s__law_said) f0 cdv A outer s H C8.E0).nox (fun _ _ _ _ => False) := takes0
  have rm : Rm (cxOf C8.CX0 P wd K mg base ["deed", "e", "found", "error", "some", "others", "kinds"] "_law_said" (defScope s__law_said) f0 cdv A outer s H C8.E0).nox := rm_of hr
  have TO := T
  replace T := T.dg (w0 := w0)
  exact (vb_cons (vs_asg (ve_tup (va_cons ve_non (va_cons ve_non va_nil))) (vg_tup (vgs_cons (vg_name 1 S.nd) (vgs_cons (vg_name 2 S.nd) vgs_nil))))
    (vb_cons (vs_tryD (i := 3) (j := 1) (v := 2) DD (match_exs TO.m_WheelError_MissError rfl (by decide) rfl (by decide)) rfl rfl rfl S.nd rfl rfl rfl rfl rfl rfl (by decide) (by decide) (by decide) rfl rfl)
    (vb_cons (vs_if (vt_isN (ve_var 1) ve_non) (vb_one (vs_ret (ve_lst (va_cons (ve_var 2) va_nil)))) vb_nil)
    (vb_cons (vs_set 4 (ve_lst (va_cons (ve_isO T.o_BadMachine T.z_isinstance (ve_var 1)) (va_cons (ve_isO T.o_BadLoad T.z_isinstance (ve_var 1)) (va_cons (ve_isO T.o_BadSpot T.z_isinstance (ve_var 1)) (va_cons (ve_isO T.o_BadPaper T.z_isinstance (ve_var 1)) va_nil))))) S.nd)
    (vb_cons (vs_set 4 (ve_add (ve_var 4) (ve_lst (va_cons (ve_isO T.o_OutOfPlace T.z_isinstance (ve_var 1)) (va_cons (ve_isO T.o_NoTouch T.z_isinstance (ve_var 1)) va_nil)))) S.nd)
    (vb_cons (vs_set 5 (ve_isT4 T.t_BadRule_BadReadings_TooGreat_Never T.z_isinstance (ve_var 1)) S.nd)
    (vb_cons (vs_set 6 (ve_lst (va_cons (ve_isT (t := "ValueError") T.i_ValueError T.z_isinstance T.z_ValueError (ve_var 1)) (va_cons (ve_isT (t := "LookupError") T.i_LookupError T.z_isinstance T.z_LookupError (ve_var 1)) va_nil))) S.nd)
    (vb_cons (vs_if (VW.vt (vw_or (vt_ne rm (bm_countB (ve_var 4) (va_cons ve_bl va_nil)) ve_int) (vw_or (vt_val (ve_var 5)) (vw_or1 (vt_ne rm (ve_var 6) (ve_lst (va_cons (ve_not (ve_ix (ve_var 4) ve_int)) (va_cons (ve_ix (ve_var 4) ve_int) va_nil)))))))) (vb_one (vs_ret (ve_tup (va_cons ve_str va_nil)))) vb_nil)
    (vb_cons (vs_if (VW.vt (vw_or (vt_val (ve_ix (ve_var 4) ve_int)) (vw_or1 (vt_val (ve_ix (ve_var 4) ve_int))))) (vb_one (vs_ret (ve_if (vt_val (ve_ix (ve_var 4) ve_int)) (ve_tup (va_cons ve_str va_nil)) (ve_tup (va_cons ve_str va_nil))))) vb_nil)
    (vb_one vs_bad))))))))))
theorem sc__law_joined : FnScope ["gear", "rows", "k", "one", "far", "some", "row"] ["gear"] (defScope s__law_joined) := ⟨rfl, rfl, rfl, by decide +kernel, rfl, by decide +kernel, by decide +kernel⟩
theorem fo__law_joined (T : Txt Γ K mg)  {f : Addr} {fd : FuncData} (F : FunD K "_law_joined" "_law_joined" (defArgs s__law_joined) (defBody s__law_joined) (defScope s__law_joined) [] [] f fd) : FnOk P wd K mg base (L2.CX P wd) 1 f fd ["gear"] (spOf Γ K 1 R__law_joined) := by
  have S := sc__law_joined
  refine fn_rule F sc__law_joined fun cdv A outer s H E hr => ?_
  have tk : Takes (cxOf (L2.CX P wd) P wd K mg base ["gear", "rows", "k", "one", "far", "some", "row"] "_law_joined" (defScope s__law_joined) f cdv A outer s H E) (fun c d _ H => E c d H) := takes_of rfl rfl rfl rfl
  have rm : Rm (cxOf (L2.CX P wd) P wd K mg base ["gear", "rows", "k", "one", "far", "some", "row"] "_law_joined" (defScope s__law_joined) f cdv A outer s H E) := rm_of hr
  exact (vb_cons (vs_setLc 1 [("k", 2)] S.nd (by rfl) (vi_r1 (va_cons (bc_len T.z_len  (va_cons (ve_ix (ve_var 0) ve_int) va_nil)) va_nil) T.z_range) (blkOk_by (by rfl)) (fun _ _ _ _ _ => (vg_name 2 S.nd)) (fun _ _ _ _ _ => vts_nil) (fun _ _ _ _ _ => (ve_lst (va_cons (ve_var 2) va_nil))))
    (vb_cons (vs_for PassesOwn.leaving (vi_val (ve_ix (ve_var 0) ve_int)) (vg_tup (vgs_cons (vg_name 3 S.nd) (vgs_cons (vg_name 4 S.nd) vgs_nil))) (vb_cons (vs_set 5 (ve_lc [("row", 6)] S.nd (vi_val (ve_var 1)) (blkOk_by (by rfl)) (fun _ _ _ _ _ => (vg_name 6 S.nd)) (fun _ _ _ _ _ => (vts_one (VW.vt (vw_or (vt_in (by exact rm) (ve_ix (ve_var 3) ve_int) (ve_var 6)) (vw_or1 (vt_in (by exact rm) (ve_ix (ve_var 4) ve_int) (ve_var 6))))))) (fun _ _ _ _ _ => (ve_var 6))) S.nd)
    (vb_one (vs_set 1 (ve_add (ve_lc [("row", 6)] S.nd (vi_val (ve_var 1)) (blkOk_by (by rfl)) (fun _ _ _ _ _ => (vg_name 6 S.nd)) (fun _ _ _ _ _ => (vts_one (vt_nin (by exact rm) (ve_var 6) (ve_var 5)))) (fun _ _ _ _ _ => (ve_var 6))) (ve_lst (va_cons (bc_sorted T.z_sorted rm (va_cons (bc_sumL T.z_sum (va_cons (ve_var 5) (va_cons (ve_lst va_nil) va_nil))) va_nil)) va_nil))) S.nd))))
    (vb_one (vs_ret (bc_tuple T.z_tuple  (va_cons (bc_sorted T.z_sorted rm (va_cons (ve_lc [("row", 6)] S.nd (vi_val (ve_var 1)) (blkOk_by (by rfl)) (fun _ _ _ _ _ => (vg_name 6 S.nd)) (fun _ _ _ _ _ => vts_nil) (fun _ _ _ _ _ => (bc_tuple T.z_tuple  (va_cons (ve_var 6) va_nil)))) va_nil)) va_nil))))))
theorem ok__law_joined (T : Txt Γ K mg)  {f : Addr} {fd : FuncData} (F : FunD K "_law_joined" "_law_joined" (defArgs s__law_joined) (defBody s__law_joined) (defScope s__law_joined) [] [] f fd) (hm : mg "_law_joined" = some (.ref f)) : Cal Γ P wd K mg base 1 "_law_joined" 1 [] R__law_joined :=
  Cal.of F hm rfl (fun _ _ _ _ _ _ us hl => match us, hl with | [_], _ => rfl) (fo__law_joined T  F)
theorem sc__law_numbers : FnScope ["gear", "found", "k", "pair"] ["gear"] (defScope s__law_numbers) := ⟨rfl, rfl, rfl, by decide +kernel, rfl, by decide +kernel, by decide +kernel⟩
theorem fo__law_numbers (T : Txt Γ K mg)  {f : Addr} {fd : FuncData} (F : FunD K "_law_numbers" "_law_numbers" (defArgs s__law_numbers) (defBody s__law_numbers) (defScope s__law_numbers) [] [] f fd) : FnOk P wd K mg base (L2.CX P wd) 1 f fd ["gear"] (spOf Γ K 1 R__law_numbers) := by
  have S := sc__law_numbers
  refine fn_rule F sc__law_numbers fun cdv A outer s H E hr => ?_
  have tk : Takes (cxOf (L2.CX P wd) P wd K mg base ["gear", "found", "k", "pair"] "_law_numbers" (defScope s__law_numbers) f cdv A outer s H E) (fun c d _ H => E c d H) := takes_of rfl rfl rfl rfl
  have rm : Rm (cxOf (L2.CX P wd) P wd K mg base ["gear", "found", "k", "pair"] "_law_numbers" (defScope s__law_numbers) f cdv A outer s H E) := rm_of hr
  exact (vb_cons (vs_set 1 ve_newX S.nd)
    (vb_cons (vs_for PassesOwn.leaving (vi_enum (va_cons (ve_ix (ve_var 0) ve_int) va_nil) T.z_enumerate) (vg_tup (vgs_cons (vg_name 2 S.nd) (vgs_cons (vg_name 3 S.nd) vgs_nil))) (vb_one (vs_par2T (va_cons (ve_var 2) (va_cons (ve_var 2) va_nil)) (vtg_X rm (ve_var 1) (ve_ix (ve_var 3) ve_int)) (vtg_X rm (ve_var 1) (ve_ix (ve_var 3) ve_int)))))
    (vb_one (vs_ret (ve_var 1)))))
theorem ok__law_numbers (T : Txt Γ K mg)  {f : Addr} {fd : FuncData} (F : FunD K "_law_numbers" "_law_numbers" (defArgs s__law_numbers) (defBody s__law_numbers) (defScope s__law_numbers) [] [] f fd) (hm : mg "_law_numbers" = some (.ref f)) : Cal Γ P wd K mg base 1 "_law_numbers" 1 [] R__law_numbers :=
  Cal.of F hm rfl (fun _ _ _ _ _ _ us hl => match us, hl with | [_], _ => rfl) (fo__law_numbers T  F)
theorem sc__law_rolled : FnScope ["gear", "numbers", "spot", "here", "gap"] ["gear", "numbers", "spot"] (defScope s__law_rolled) := ⟨rfl, rfl, rfl, by decide +kernel, rfl, by decide +kernel, by decide +kernel⟩
theorem fo__law_rolled (T : Txt Γ K mg)  {f : Addr} {fd : FuncData} (F : FunD K "_law_rolled" "_law_rolled" (defArgs s__law_rolled) (defBody s__law_rolled) (defScope s__law_rolled) [] [] f fd) : FnOk P wd K mg base (L2.CX P wd) 1 f fd ["gear", "numbers", "spot"] (spOf Γ K 3 R__law_rolled) := by
  have S := sc__law_rolled
  refine fn_rule F sc__law_rolled fun cdv A outer s H E hr => ?_
  have tk : Takes (cxOf (L2.CX P wd) P wd K mg base ["gear", "numbers", "spot", "here", "gap"] "_law_rolled" (defScope s__law_rolled) f cdv A outer s H E) (fun c d _ H => E c d H) := takes_of rfl rfl rfl rfl
  have rm : Rm (cxOf (L2.CX P wd) P wd K mg base ["gear", "numbers", "spot", "here", "gap"] "_law_rolled" (defScope s__law_rolled) f cdv A outer s H E) := rm_of hr
  exact (vb_cons (vs_par 3 4 (va_cons (ve_var 2) (va_cons ve_int va_nil)) S.nd (by rfl))
    (vb_cons (vs_while PassesOwn.leaving (VW.vt (vw_or (vt_eq rm (ve_var 4) ve_int) (vw_or1 (vt_ninX rm (ve_var 3) (ve_var 1))))) (vb_one (vs_par 3 4 (va_cons (ve_tup (va_cons (ve_ix (ve_var 3) ve_int) (va_cons (ve_if (vt_gt rm (ve_ix (ve_var 3) ve_int) ve_int) (ve_sub (ve_ix (ve_var 3) ve_int) ve_int) (ve_sub (ve_ix (ve_ix (ve_var 0) ve_int) (ve_ix (ve_var 3) ve_int)) ve_int)) va_nil))) (va_cons (ve_add (ve_var 4) ve_int) va_nil)) S.nd (by rfl))))
    (vb_one (vs_ret (ve_tup (va_cons (ve_xget rm (ve_var 1) (ve_var 2)) (va_cons (ve_var 2) (va_cons (ve_xget rm (ve_var 1) (ve_var 3)) (va_cons (ve_var 4) va_nil)))))))))
theorem ok__law_rolled (T : Txt Γ K mg)  {f : Addr} {fd : FuncData} (F : FunD K "_law_rolled" "_law_rolled" (defArgs s__law_rolled) (defBody s__law_rolled) (defScope s__law_rolled) [] [] f fd) (hm : mg "_law_rolled" = some (.ref f)) : Cal Γ P wd K mg base 1 "_law_rolled" 3 [] R__law_rolled :=
  Cal.of F hm rfl (fun _ _ _ _ _ _ us hl => match us, hl with | [_, _, _], _ => rfl) (fo__law_rolled T  F)
theorem sc_are_counts : FnScope ["thing", "one"] ["thing"] (defScope s_are_counts) := ⟨rfl, rfl, rfl, by decide +kernel, rfl, by decide +kernel, by decide +kernel⟩
theorem fo_are_counts (T : Txt Γ K mg) (C_is_whole : Cal Γ P wd K mg base 1 "is_whole" 1 [] R_is_whole) {f : Addr} {fd : FuncData} (F : FunD K "are_counts" "are_counts" (defArgs s_are_counts) (defBody s_are_counts) (defScope s_are_counts) [] [] f fd) : FnOk P wd K mg base (L2.CX P wd) 2 f fd ["thing"] (spOf Γ K 1 R_are_counts) := by
  have S := sc_are_counts
  refine fn_rule F sc_are_counts fun cdv A outer s H E hr => ?_
  have tk : Takes (cxOf (L2.CX P wd) P wd K mg base ["thing", "one"] "are_counts" (defScope s_are_counts) f cdv A outer s H E) (fun c d _ H => E c d H) := takes_of rfl rfl rfl rfl
  have rm : Rm (cxOf (L2.CX P wd) P wd K mg base ["thing", "one"] "are_counts" (defScope s_are_counts) f cdv A outer s H E) := rm_of hr
  exact (vb_cons (vs_if (VW.vt (vw_or (vt_not (vt_val (bi_tuple T.z_isinstance T.z_tuple (ve_var 0)))) (vw_or1 (vt_not (vt_lele rm ve_int (bc_len T.z_len  (va_cons (ve_var 0) va_nil)) (ve_glob T.c_MOST_WHEELS)))))) (vb_one (vs_ret ve_bl)) vb_nil)
    (vb_one (vs_ret (ve_and (bc_all T.z_all rfl (va_cons (ve_lc [("one", 1)] S.nd (vi_val (ve_var 0)) (blkOk_by (by rfl)) (fun _ _ _ _ _ => (vg_name 1 S.nd)) (fun _ _ _ _ _ => vts_nil) (fun _ _ _ _ _ => (ve_and (ve_call C_is_whole takes0 (hr.mono (by decide)) (va_cons (ve_var 1) va_nil)) (ve_one (ve_gt (by exact rm) (ve_var 1) ve_int))))) va_nil)) (ve_one (ve_le rm (bc_sum T.z_sum rfl (va_cons (ve_var 0) va_nil)) (ve_glob T.c_MOST_CELLS)))))))
theorem ok_are_counts (T : Txt Γ K mg) (C_is_whole : Cal Γ P wd K mg base 1 "is_whole" 1 [] R_is_whole) {f : Addr} {fd : FuncData} (F : FunD K "are_counts" "are_counts" (defArgs s_are_counts) (defBody s_are_counts) (defScope s_are_counts) [] [] f fd) (hm : mg "are_counts" = some (.ref f)) : Cal Γ P wd K mg base 2 "are_counts" 1 [] R_are_counts :=
  Cal.of F hm rfl (fun _ _ _ _ _ _ us hl => match us, hl with | [_], _ => rfl) (fo_are_counts T C_is_whole F)
theorem sc_is_spot : FnScope ["counts", "thing"] ["counts", "thing"] (defScope s_is_spot) := ⟨rfl, rfl, rfl, by decide +kernel, rfl, by decide +kernel, by decide +kernel⟩
theorem fo_is_spot (T : Txt Γ K mg) (C_is_whole : Cal Γ P wd K mg base 1 "is_whole" 1 [] R_is_whole) {f : Addr} {fd : FuncData} (F : FunD K "is_spot" "is_spot" (defArgs s_is_spot) (defBody s_is_spot) (defScope s_is_spot) [] [] f fd) : FnOk P wd K mg base (L2.CX P wd) 2 f fd ["counts", "thing"] (spOf Γ K 2 R_is_spot) := by
  have S := sc_is_spot
  refine fn_rule F sc_is_spot fun cdv A outer s H E hr => ?_
  have tk : Takes (cxOf (L2.CX P wd) P wd K mg base ["counts", "thing"] "is_spot" (defScope s_is_spot) f cdv A outer s H E) (fun c d _ H => E c d H) := takes_of rfl rfl rfl rfl
  have rm : Rm (cxOf (L2.CX P wd) P wd K mg base ["counts", "thing"] "is_spot" (defScope s_is_spot) f cdv A outer s H E) := rm_of hr
  exact (vb_cons (vs_if (VW.vt (vw_or (vt_not (vt_val (bi_tuple T.z_isinstance T.z_tuple (ve_var 1)))) (vw_or (vt_ne rm (bc_len T.z_len  (va_cons (ve_var 1) va_nil)) ve_int) (vw_or (vt_not (vt_val (ve_call C_is_whole tk (hr.mono (by decide)) (va_cons (ve_ix (ve_var 1) ve_int) va_nil)))) (vw_or1 (vt_not (vt_val (ve_call C_is_whole tk (hr.mono (by decide)) (va_cons (ve_ix (ve_var 1) ve_int) va_nil))))))))) (vb_one (vs_ret ve_bl)) vb_nil)
    (vb_one (vs_ret (ve_and (ve_lelt rm ve_int (ve_ix (ve_var 1) ve_int) (bc_len T.z_len  (va_cons (ve_var 0) va_nil))) (ve_one (ve_lelt rm ve_int (ve_ix (ve_var 1) ve_int) (ve_ix (ve_var 0) (ve_ix (ve_var 1) ve_int))))))))
theorem ok_is_spot (T : Txt Γ K mg) (C_is_whole : Cal Γ P wd K mg base 1 "is_whole" 1 [] R_is_whole) {f : Addr} {fd : FuncData} (F : FunD K "is_spot" "is_spot" (defArgs s_is_spot) (defBody s_is_spot) (defScope s_is_spot) [] [] f fd) (hm : mg "is_spot" = some (.ref f)) : Cal Γ P wd K mg base 2 "is_spot" 2 [] R_is_spot :=
  Cal.of F hm rfl (fun _ _ _ _ _ _ us hl => match us, hl with | [_, _], _ => rfl) (fo_is_spot T C_is_whole F)
theorem sc_need_wheel : FnScope ["machine", "wheel"] ["machine", "wheel"] (defScope s_need_wheel) := ⟨rfl, rfl, rfl, by decide +kernel, rfl, by decide +kernel, by decide +kernel⟩
theorem fo_need_wheel (T : Txt Γ K mg) (C_is_whole : Cal Γ P wd K mg base 1 "is_whole" 1 [] R_is_whole) {f : Addr} {fd : FuncData} (F : FunD K "need_wheel" "need_wheel" (defArgs s_need_wheel) (defBody s_need_wheel) (defScope s_need_wheel) [] [] f fd) : FnOk P wd K mg base (L2.CX P wd) 2 f fd ["machine", "wheel"] (spOf Γ K 2 R_need_wheel) := by
  have S := sc_need_wheel
  refine fn_rule F sc_need_wheel fun cdv A outer s H E hr => ?_
  have tk : Takes (cxOf (L2.CX P wd) P wd K mg base ["machine", "wheel"] "need_wheel" (defScope s_need_wheel) f cdv A outer s H E) (fun c d _ H => E c d H) := takes_of rfl rfl rfl rfl
  have rm : Rm (cxOf (L2.CX P wd) P wd K mg base ["machine", "wheel"] "need_wheel" (defScope s_need_wheel) f cdv A outer s H E) := rm_of hr
  exact (vb_one (vs_if (VW.vt (vw_or (vt_not (vt_val (ve_call C_is_whole tk (hr.mono (by decide)) (va_cons (ve_var 1) va_nil)))) (vw_or1 (vt_not (vt_lelt rm ve_int (ve_var 1) (bc_len T.z_len  (va_cons (ve_ix (ve_var 0) ve_int) va_nil))))))) (vb_one (vs_raiseV T.x_OutOfPlace tk)) vb_nil))
theorem ok_need_wheel (T : Txt Γ K mg) (C_is_whole : Cal Γ P wd K mg base 1 "is_whole" 1 [] R_is_whole) {f : Addr} {fd : FuncData} (F : FunD K "need_wheel" "need_wheel" (defArgs s_need_wheel) (defBody s_need_wheel) (defScope s_need_wheel) [] [] f fd) (hm : mg "need_wheel" = some (.ref f)) : Cal Γ P wd K mg base 2 "need_wheel" 2 [] R_need_wheel :=
  Cal.of F hm rfl (fun _ _ _ _ _ _ us hl => match us, hl with | [_, _], _ => rfl) (fo_need_wheel T C_is_whole F)
theorem sc_own_lot_of : FnScope ["machine", "wheel", "lot"] ["machine", "wheel"] (defScope s_own_lot_of) := ⟨rfl, rfl, rfl, by decide +kernel, rfl, by decide +kernel, by decide +kernel⟩
theorem fo_own_lot_of (T : Txt Γ K mg) (C_own_lots : Cal Γ P wd K mg base 1 "own_lots" 1 [] R_own_lots) {f : Addr} {fd : FuncData} (F : FunD K "own_lot_of" "own_lot_of" (defArgs s_own_lot_of) (defBody s_own_lot_of) (defScope s_own_lot_of) [] [] f fd) : FnOk P wd K mg base (L2.CX P wd) 2 f fd ["machine", "wheel"] (spOf Γ K 2 R_own_lot_of) := by
  have S := sc_own_lot_of
  refine fn_rule F sc_own_lot_of fun cdv A outer s H E hr => ?_
  have tk : Takes (cxOf (L2.CX P wd) P wd K mg base ["machine", "wheel", "lot"] "own_lot_of" (defScope s_own_lot_of) f cdv A outer s H E) (fun c d _ H => E c d H) := takes_of rfl rfl rfl rfl
  have rm : Rm (cxOf (L2.CX P wd) P wd K mg base ["machine", "wheel", "lot"] "own_lot_of" (defScope s_own_lot_of) f cdv A outer s H E) := rm_of hr
  exact (vb_one (vs_ret (ve_ix (ve_lc [("lot", 2)] S.nd (vi_val (ve_call C_own_lots tk (hr.mono (by decide)) (va_cons (ve_var 0) va_nil))) (blkOk_by (by rfl)) (fun _ _ _ _ _ => (vg_name 2 S.nd)) (fun _ _ _ _ _ => (vts_one (vt_in (by exact rm) (ve_var 1) (ve_var 2)))) (fun _ _ _ _ _ => (ve_var 2))) ve_int)))
theorem ok_own_lot_of (T : Txt Γ K mg) (C_own_lots : Cal Γ P wd K mg base 1 "own_lots" 1 [] R_own_lots) {f : Addr} {fd : FuncData} (F : FunD K "own_lot_of" "own_lot_of" (defArgs s_own_lot_of) (defBody s_own_lot_of) (defScope s_own_lot_of) [] [] f fd) (hm : mg "own_lot_of" = some (.ref f)) : Cal Γ P wd K mg base 2 "own_lot_of" 2 [] R_own_lot_of :=
  Cal.of F hm rfl (fun _ _ _ _ _ _ us hl => match us, hl with | [_, _], _ => rfl) (fo_own_lot_of T C_own_lots F)
theorem sc_own_way : FnScope ["machine", "at", "spot", "goal", "gap"] ["machine", "at", "spot"] (defScope s_own_way) := ⟨rfl, rfl, rfl, by decide +kernel, rfl, by decide +kernel, by decide +kernel⟩
theorem fo_own_way (T : Txt Γ K mg) (C_met_from : Cal Γ P wd K mg base 1 "met_from" 4 [] R_met_from) {f : Addr} {fd : FuncData} (F : FunD K "own_way" "own_way" (defArgs s_own_way) (defBody s_own_way) (defScope s_own_way) [] [] f fd) : FnOk P wd K mg base (L2.CX P wd) 2 f fd ["machine", "at", "spot"] (spOf Γ K 3 R_own_way) := by
  have S := sc_own_way
  refine fn_rule F sc_own_way fun cdv A outer s H E hr => ?_
  have tk : Takes (cxOf (L2.CX P wd) P wd K mg base ["machine", "at", "spot", "goal", "gap"] "own_way" (defScope s_own_way) f cdv A outer s H E) (fun c d _ H => E c d H) := takes_of rfl rfl rfl rfl
  have rm : Rm (cxOf (L2.CX P wd) P wd K mg base ["machine", "at", "spot", "goal", "gap"] "own_way" (defScope s_own_way) f cdv A outer s H E) := rm_of hr
  exact (vb_cons (vs_asg (ve_call C_met_from tk (hr.mono (by decide)) (va_cons (ve_var 0) (va_cons (ve_var 1) (va_cons (ve_var 2) (va_cons (ve_neg ve_int) va_nil))))) (vg_tup (vgs_cons (vg_name 3 S.nd) (vgs_cons (vg_name 4 S.nd) vgs_nil))))
    (vb_one (vs_ret (ve_tup (va_cons (ve_xget rm (ve_var 1) (ve_var 2)) (va_cons (ve_var 2) (va_cons (ve_var 3) (va_cons (ve_var 4) va_nil))))))))
theorem ok_own_way (T : Txt Γ K mg) (C_met_from : Cal Γ P wd K mg base 1 "met_from" 4 [] R_met_from) {f : Addr} {fd : FuncData} (F : FunD K "own_way" "own_way" (defArgs s_own_way) (defBody s_own_way) (defScope s_own_way) [] [] f fd) (hm : mg "own_way" = some (.ref f)) : Cal Γ P wd K mg base 2 "own_way" 3 [] R_own_way :=
  Cal.of F hm rfl (fun _ _ _ _ _ _ us hl => match us, hl with | [_, _, _], _ => rfl) (fo_own_way T C_met_from F)
theorem sc__law_rims : FnScope ["draw", "kind", "by", "found", "k", "one"] ["draw"] (defScope s__law_rims) := ⟨rfl, rfl, rfl, by decide +kernel, rfl, by decide +kernel, by decide +kernel⟩
theorem fo__law_rims (T : Txt Γ K mg) (C__law_next : Cal Γ P wd K mg base 1 "_law_next" 2 [] R__law_next) {f : Addr} {fd : FuncData} (F : FunD K "_law_rims" "_law_rims" (defArgs s__law_rims) (defBody s__law_rims) (defScope s__law_rims) [] [] f fd) : FnOk P wd K mg base (L2.CX P wd) 2 f fd ["draw"] (spOf Γ K 1 R__law_rims) := by
  have S := sc__law_rims
  refine fn_rule F sc__law_rims fun cdv A outer s H E hr => ?_
  have tk : Takes (cxOf (L2.CX P wd) P wd K mg base ["draw", "kind", "by", "found", "k", "one"] "_law_rims" (defScope s__law_rims) f cdv A outer s H E) (fun c d _ H => E c d H) := takes_of rfl rfl rfl rfl
  have rm : Rm (cxOf (L2.CX P wd) P wd K mg base ["draw", "kind", "by", "found", "k", "one"] "_law_rims" (defScope s__law_rims) f cdv A outer s H E) := rm_of hr
  exact (vb_cons (vs_par3 1 2 3 (va_cons (ve_call C__law_next tk (hr.mono (by decide)) (va_cons (ve_var 0) (va_cons ve_int va_nil))) (va_cons (ve_ix (ve_lst (va_cons ve_int (va_cons ve_int (va_cons ve_int (va_cons ve_int (va_cons ve_int (va_cons ve_int va_nil))))))) (ve_call C__law_next tk (hr.mono (by decide)) (va_cons (ve_var 0) (va_cons ve_int va_nil)))) (va_cons (ve_lst va_nil) va_nil))) S.nd (by rfl))
    (vb_cons (vs_if (vt_eq rm (ve_var 1) ve_int) (vb_one (vs_ret (ve_ix (ve_lst (va_cons (ve_tup (va_cons ve_int va_nil)) (va_cons (ve_mul (ve_tup (va_cons ve_int va_nil)) ve_int) (va_cons (ve_tup (va_cons ve_int va_nil)) (va_cons (ve_tup (va_cons ve_int (va_cons ve_int (va_cons ve_int va_nil)))) (va_cons (ve_mul (ve_tup (va_cons ve_int va_nil)) ve_int) (va_cons (ve_tup (va_cons ve_int (va_cons ve_int va_nil))) (va_cons (ve_tup (va_cons ve_int (va_cons ve_int (va_cons ve_int va_nil)))) (va_cons (ve_tup (va_cons ve_int (va_cons ve_int va_nil))) va_nil))))))))) (ve_call C__law_next tk (hr.mono (by decide)) (va_cons (ve_var 0) (va_cons ve_int va_nil)))))) vb_nil)
    (vb_cons (vs_for PassesOwn.leaving (vi_r1 (va_cons (ve_add ve_int (ve_call C__law_next tk (hr.mono (by decide)) (va_cons (ve_var 0) (va_cons ve_int va_nil)))) va_nil) T.z_range) (vg_name 4 S.nd) (vb_cons (vs_set 5 (bc_min2 T.z_min rfl rm (va_cons (ve_mul (ve_var 2) (ve_add ve_int (ve_call C__law_next tk (hr.mono (by decide)) (va_cons (ve_var 0) (va_cons ve_int va_nil))))) (va_cons (ve_sub ve_int (bc_sum T.z_sum rfl (va_cons (ve_var 3) va_nil))) va_nil))) S.nd)
    (vb_one (vs_set 3 (ve_add (ve_var 3) (ve_mul (ve_lst (va_cons (ve_var 5) va_nil)) (bc_int T.z_int  (va_cons (ve_gt rm (ve_var 5) ve_int) va_nil)))) S.nd))))
    (vb_one (vs_ret (bc_tuple T.z_tuple  (va_cons (ve_var 3) va_nil)))))))
theorem ok__law_rims (T : Txt Γ K mg) (C__law_next : Cal Γ P wd K mg base 1 "_law_next" 2 [] R__law_next) {f : Addr} {fd : FuncData} (F : FunD K "_law_rims" "_law_rims" (defArgs s__law_rims) (defBody s__law_rims) (defScope s__law_rims) [] [] f fd) (hm : mg "_law_rims" = some (.ref f)) : Cal Γ P wd K mg base 2 "_law_rims" 1 [] R__law_rims :=
  Cal.of F hm rfl (fun _ _ _ _ _ _ us hl => match us, hl with | [_], _ => rfl) (fo__law_rims T C__law_next F)
theorem sc_is_touch : FnScope ["counts", "thing"] ["counts", "thing"] (defScope s_is_touch) := ⟨rfl, rfl, rfl, by decide +kernel, rfl, by decide +kernel, by decide +kernel⟩
theorem fo_is_touch (T : Txt Γ K mg) (C_is_spot : Cal Γ P wd K mg base 2 "is_spot" 2 [] R_is_spot) {f : Addr} {fd : FuncData} (F : FunD K "is_touch" "is_touch" (defArgs s_is_touch) (defBody s_is_touch) (defScope s_is_touch) [] [] f fd) : FnOk P wd K mg base (L2.CX P wd) 3 f fd ["counts", "thing"] (spOf Γ K 2 R_is_touch) := by
  have S := sc_is_touch
  refine fn_rule F sc_is_touch fun cdv A outer s H E hr => ?_
  have tk : Takes (cxOf (L2.CX P wd) P wd K mg base ["counts", "thing"] "is_touch" (defScope s_is_touch) f cdv A outer s H E) (fun c d _ H => E c d H) := takes_of rfl rfl rfl rfl
  have rm : Rm (cxOf (L2.CX P wd) P wd K mg base ["counts", "thing"] "is_touch" (defScope s_is_touch) f cdv A outer s H E) := rm_of hr
  exact (vb_cons (vs_if (VW.vt (vw_or (vt_not (vt_val (bi_tuple T.z_isinstance T.z_tuple (ve_var 1)))) (vw_or1 (vt_ne rm (bc_len T.z_len  (va_cons (ve_var 1) va_nil)) ve_int)))) (vb_one (vs_ret ve_bl)) vb_nil)
    (vb_one (vs_ret (ve_and (ve_call C_is_spot tk (hr.mono (by decide)) (va_cons (ve_var 0) (va_cons (ve_ix (ve_var 1) ve_int) va_nil))) (ve_and (ve_call C_is_spot tk (hr.mono (by decide)) (va_cons (ve_var 0) (va_cons (ve_ix (ve_var 1) ve_int) va_nil))) (ve_one (ve_lt rm (ve_ix (ve_var 1) ve_int) (ve_ix (ve_var 1) ve_int))))))))
theorem ok_is_touch (T : Txt Γ K mg) (C_is_spot : Cal Γ P wd K mg base 2 "is_spot" 2 [] R_is_spot) {f : Addr} {fd : FuncData} (F : FunD K "is_touch" "is_touch" (defArgs s_is_touch) (defBody s_is_touch) (defScope s_is_touch) [] [] f fd) (hm : mg "is_touch" = some (.ref f)) : Cal Γ P wd K mg base 3 "is_touch" 2 [] R_is_touch :=
  Cal.of F hm rfl (fun _ _ _ _ _ _ us hl => match us, hl with | [_, _], _ => rfl) (fo_is_touch T C_is_spot F)
theorem sc_own_web : FnScope ["machine", "at", "spot"] ["machine"] (defScope s_own_web) := ⟨rfl, rfl, rfl, by decide +kernel, rfl, by decide +kernel, by decide +kernel⟩
theorem fo_own_web (T : Txt Γ K mg) (C_touches_at : Cal Γ P wd K mg base 1 "touches_at" 1 [] R_touches_at) (C_own_way : Cal Γ P wd K mg base 2 "own_way" 3 [] R_own_way) {f : Addr} {fd : FuncData} (F : FunD K "own_web" "own_web" (defArgs s_own_web) (defBody s_own_web) (defScope s_own_web) [] [] f fd) : FnOk P wd K mg base (L2.CX P wd) 3 f fd ["machine"] (spOf Γ K 1 R_own_web) := by
  have S := sc_own_web
  refine fn_rule F sc_own_web fun cdv A outer s H E hr => ?_
  have tk : Takes (cxOf (L2.CX P wd) P wd K mg base ["machine", "at", "spot"] "own_web" (defScope s_own_web) f cdv A outer s H E) (fun c d _ H => E c d H) := takes_of rfl rfl rfl rfl
  have rm : Rm (cxOf (L2.CX P wd) P wd K mg base ["machine", "at", "spot"] "own_web" (defScope s_own_web) f cdv A outer s H E) := rm_of hr
  exact (vb_cons (vs_set 1 (ve_call C_touches_at tk (hr.mono (by decide)) (va_cons (ve_var 0) va_nil)) S.nd)
    (vb_one (vs_ret (bc_tuple T.z_tuple  (va_cons (bc_sorted T.z_sorted rm (va_cons (ve_lc [("spot", 2)] S.nd (vi_keysX (ve_var 1)) (blkOk_by (by rfl)) (fun _ _ _ _ _ => (vg_name 2 S.nd)) (fun _ _ _ _ _ => vts_nil) (fun _ _ _ _ _ => (ve_call C_own_way takes0 (hr.mono (by decide)) (va_cons (ve_var 0) (va_cons (ve_var 1) (va_cons (ve_var 2) va_nil)))))) va_nil)) va_nil)))))
theorem ok_own_web (T : Txt Γ K mg) (C_touches_at : Cal Γ P wd K mg base 1 "touches_at" 1 [] R_touches_at) (C_own_way : Cal Γ P wd K mg base 2 "own_way" 3 [] R_own_way) {f : Addr} {fd : FuncData} (F : FunD K "own_web" "own_web" (defArgs s_own_web) (defBody s_own_web) (defScope s_own_web) [] [] f fd) (hm : mg "own_web" = some (.ref f)) : Cal Γ P wd K mg base 3 "own_web" 1 [] R_own_web :=
  Cal.of F hm rfl (fun _ _ _ _ _ _ us hl => match us, hl with | [_], _ => rfl) (fo_own_web T C_touches_at C_own_way F)
theorem sc_need_spot : FnScope ["machine", "spot"] ["machine", "spot"] (defScope s_need_spot) := ⟨rfl, rfl, rfl, by decide +kernel, rfl, by decide +kernel, by decide +kernel⟩
theorem fo_need_spot (T : Txt Γ K mg) (C_is_spot : Cal Γ P wd K mg base 2 "is_spot" 2 [] R_is_spot) {f : Addr} {fd : FuncData} (F : FunD K "need_spot" "need_spot" (defArgs s_need_spot) (defBody s_need_spot) (defScope s_need_spot) [] [] f fd) : FnOk P wd K mg base (L2.CX P wd) 3 f fd ["machine", "spot"] (spOf Γ K 2 R_need_spot) := by
  have S := sc_need_spot
  refine fn_rule F sc_need_spot fun cdv A outer s H E hr => ?_
  have tk : Takes (cxOf (L2.CX P wd) P wd K mg base ["machine", "spot"] "need_spot" (defScope s_need_spot) f cdv A outer s H E) (fun c d _ H => E c d H) := takes_of rfl rfl rfl rfl
  have rm : Rm (cxOf (L2.CX P wd) P wd K mg base ["machine", "spot"] "need_spot" (defScope s_need_spot) f cdv A outer s H E) := rm_of hr
  exact (vb_one (vs_if (vt_not (vt_val (ve_call C_is_spot tk (hr.mono (by decide)) (va_cons (ve_ix (ve_var 0) ve_int) (va_cons (ve_var 1) va_nil))))) (vb_one vs_bad) vb_nil))
theorem ok_need_spot (T : Txt Γ K mg) (C_is_spot : Cal Γ P wd K mg base 2 "is_spot" 2 [] R_is_spot) {f : Addr} {fd : FuncData} (F : FunD K "need_spot" "need_spot" (defArgs s_need_spot) (defBody s_need_spot) (defScope s_need_spot) [] [] f fd) (hm : mg "need_spot" = some (.ref f)) : Cal Γ P wd K mg base 3 "need_spot" 2 [] R_need_spot :=
  Cal.of F hm rfl (fun _ _ _ _ _ _ us hl => match us, hl with | [_, _], _ => rfl) (fo_need_spot T C_is_spot F)
theorem sc__law_machine : FnScope ["draw", "rims", "found", "free", "k", "one", "far"] ["draw"] (defScope s__law_machine) := ⟨rfl, rfl, rfl, by decide +kernel, rfl, by decide +kernel, by decide +kernel⟩
theorem fo__law_machine (T : Txt Γ K mg) (C__law_rims : Cal Γ P wd K mg base 2 "_law_rims" 1 [] R__law_rims) (C__law_places : Cal Γ P wd K mg base 1 "_law_places" 1 [] R__law_places) (C__law_next : Cal Γ P wd K mg base 1 "_law_next" 2 [] R__law_next) {f : Addr} {fd : FuncData} (F : FunD K "_law_machine" "_law_machine" (defArgs s__law_machine) (defBody s__law_machine) (defScope s__law_machine) [] [] f fd) : FnOk P wd K mg base (L2.CX P wd) 3 f fd ["draw"] (spOf Γ K 1 R__law_machine) := by
  have S := sc__law_machine
  refine fn_rule F sc__law_machine fun cdv A outer s H E hr => ?_
  have tk : Takes (cxOf (L2.CX P wd) P wd K mg base ["draw", "rims", "found", "free", "k", "one", "far"] "_law_machine" (defScope s__law_machine) f cdv A outer s H E) (fun c d _ H => E c d H) := takes_of rfl rfl rfl rfl
  have rm : Rm (cxOf (L2.CX P wd) P wd K mg base ["draw", "rims", "found", "free", "k", "one", "far"] "_law_machine" (defScope s__law_machine) f cdv A outer s H E) := rm_of hr
  exact (vb_cons (vs_par 1 2 (va_cons (ve_call C__law_rims tk (hr.mono (by decide)) (va_cons (ve_var 0) va_nil)) (va_cons (ve_lst va_nil) va_nil)) S.nd (by rfl))
    (vb_cons (vs_set 3 (ve_call C__law_places tk (hr.mono (by decide)) (va_cons (ve_var 1) va_nil)) S.nd)
    (vb_cons (vs_for PassesOwn.leaving (vi_r1 (va_cons (ve_call C__law_next tk (hr.mono (by decide)) (va_cons (ve_var 0) (va_cons ve_int va_nil))) va_nil) T.z_range) (vg_name 4 S.nd) (vb_one (vs_if (vt_gt rm (bc_len T.z_len  (va_cons (ve_var 3) va_nil)) ve_int) (vb_cons (vs_set 5 (bm_pop (ve_var 3) (va_cons (ve_call C__law_next tk (hr.mono (by decide)) (va_cons (ve_var 0) (va_cons (bc_len T.z_len  (va_cons (ve_var 3) va_nil)) va_nil))) va_nil)) S.nd)
    (vb_cons (vs_set 6 (bm_pop (ve_var 3) (va_cons (ve_call C__law_next tk (hr.mono (by decide)) (va_cons (ve_var 0) (va_cons (bc_len T.z_len  (va_cons (ve_var 3) va_nil)) va_nil))) va_nil)) S.nd)
    (vb_one (vs_expr (bm_append (ve_var 2) (va_cons (ve_tup (va_cons (bc_min2 T.z_min rfl rm (va_cons (ve_var 5) (va_cons (ve_var 6) va_nil))) (va_cons (bc_max2 T.z_max rfl rm (va_cons (ve_var 5) (va_cons (ve_var 6) va_nil))) va_nil))) va_nil)))))) vb_nil)))
    (vb_one (vs_ret (ve_tup (va_cons (ve_var 1) (va_cons (bc_tuple T.z_tuple  (va_cons (bc_sorted T.z_sorted rm (va_cons (ve_var 2) va_nil)) va_nil)) va_nil))))))))
theorem ok__law_machine (T : Txt Γ K mg) (C__law_rims : Cal Γ P wd K mg base 2 "_law_rims" 1 [] R__law_rims) (C__law_places : Cal Γ P wd K mg base 1 "_law_places" 1 [] R__law_places) (C__law_next : Cal Γ P wd K mg base 1 "_law_next" 2 [] R__law_next) {f : Addr} {fd : FuncData} (F : FunD K "_law_machine" "_law_machine" (defArgs s__law_machine) (defBody s__law_machine) (defScope s__law_machine) [] [] f fd) (hm : mg "_law_machine" = some (.ref f)) : Cal Γ P wd K mg base 3 "_law_machine" 1 [] R__law_machine :=
  Cal.of F hm rfl (fun _ _ _ _ _ _ us hl => match us, hl with | [_], _ => rfl) (fo__law_machine T C__law_rims C__law_places C__law_next F)
theorem sc_touches_misfit : FnScope ["counts", "touches", "known", "number", "touch"] ["counts", "touches"] (defScope s_touches_misfit) := ⟨rfl, rfl, rfl, by decide +kernel, rfl, by decide +kernel, by decide +kernel⟩
theorem fo_touches_misfit (T : Txt Γ K mg) (C_is_touch : Cal Γ P wd K mg base 3 "is_touch" 2 [] R_is_touch) {f : Addr} {fd : FuncData} (F : FunD K "touches_misfit" "touches_misfit" (defArgs s_touches_misfit) (defBody s_touches_misfit) (defScope s_touches_misfit) [] [] f fd) : FnOk P wd K mg base (L2.CX P wd) 4 f fd ["counts", "touches"] (spOf Γ K 2 R_touches_misfit) := by
  have S := sc_touches_misfit
  refine fn_rule F sc_touches_misfit fun cdv A outer s H E hr => ?_
  have tk : Takes (cxOf (L2.CX P wd) P wd K mg base ["counts", "touches", "known", "number", "touch"] "touches_misfit" (defScope s_touches_misfit) f cdv A outer s H E) (fun c d _ H => E c d H) := takes_of rfl rfl rfl rfl
  have rm : Rm (cxOf (L2.CX P wd) P wd K mg base ["counts", "touches", "known", "number", "touch"] "touches_misfit" (defScope s_touches_misfit) f cdv A outer s H E) := rm_of hr
  exact (vb_cons (vs_set 2 (ve_lst va_nil) S.nd)
    (vb_cons (vs_for PassesOwn.leaving (vi_enum (va_cons (ve_var 1) va_nil) T.z_enumerate) (vg_tup (vgs_cons (vg_name 3 S.nd) (vgs_cons (vg_name 4 S.nd) vgs_nil))) (vb_cons (vs_if (VW.vt (vw_or (vt_not (vt_val (ve_call C_is_touch tk (hr.mono (by decide)) (va_cons (ve_var 0) (va_cons (ve_var 4) va_nil))))) (vw_or1 (VW.vt (vw_and (vt_gt rm (ve_var 3) ve_int) (vw_and1 (vt_not (vt_lt rm (ve_ix (ve_var 1) (ve_sub (ve_var 3) ve_int)) (ve_var 4))))))))) (vb_one (vs_ret (ve_var 3))) vb_nil)
    (vb_cons (vs_if (VW.vt (vw_or (vt_in rm (ve_ix (ve_var 4) ve_int) (ve_var 2)) (vw_or1 (vt_in rm (ve_ix (ve_var 4) ve_int) (ve_var 2))))) (vb_one (vs_ret (ve_var 3))) vb_nil)
    (vb_one (vs_expr (bm_extend (ve_var 2) (va_cons (ve_var 4) va_nil)))))))
    (vb_one (vs_ret ve_non))))
theorem ok_touches_misfit (T : Txt Γ K mg) (C_is_touch : Cal Γ P wd K mg base 3 "is_touch" 2 [] R_is_touch) {f : Addr} {fd : FuncData} (F : FunD K "touches_misfit" "touches_misfit" (defArgs s_touches_misfit) (defBody s_touches_misfit) (defScope s_touches_misfit) [] [] f fd) (hm : mg "touches_misfit" = some (.ref f)) : Cal Γ P wd K mg base 4 "touches_misfit" 2 [] R_touches_misfit :=
  Cal.of F hm rfl (fun _ _ _ _ _ _ us hl => match us, hl with | [_, _], _ => rfl) (fo_touches_misfit T C_is_touch F)
theorem sc_need_machine : FnScope ["thing", "counts", "touches", "wrong"] ["thing"] (defScope s_need_machine) := ⟨rfl, rfl, rfl, by decide +kernel, rfl, by decide +kernel, by decide +kernel⟩
theorem fo_need_machine (T : Txt Γ K mg) (C_are_counts : Cal Γ P wd K mg base 2 "are_counts" 1 [] R_are_counts) (C_touches_misfit : Cal Γ P wd K mg base 4 "touches_misfit" 2 [] R_touches_misfit) {f : Addr} {fd : FuncData} (F : FunD K "need_machine" "need_machine" (defArgs s_need_machine) (defBody s_need_machine) (defScope s_need_machine) [] [] f fd) : FnOk P wd K mg base (L2.CX P wd) 5 f fd ["thing"] (spOf Γ K 1 R_need_machine) := by
  have S := sc_need_machine
  refine fn_rule F sc_need_machine fun cdv A outer s H E hr => ?_
  have tk : Takes (cxOf (L2.CX P wd) P wd K mg base ["thing", "counts", "touches", "wrong"] "need_machine" (defScope s_need_machine) f cdv A outer s H E) (fun c d _ H => E c d H) := takes_of rfl rfl rfl rfl
  have rm : Rm (cxOf (L2.CX P wd) P wd K mg base ["thing", "counts", "touches", "wrong"] "need_machine" (defScope s_need_machine) f cdv A outer s H E) := rm_of hr
  exact (vb_cons (vs_if (VW.vt (vw_or (vt_not (vt_val (bi_tuple T.z_isinstance T.z_tuple (ve_var 0)))) (vw_or1 (vt_ne rm (bc_len T.z_len  (va_cons (ve_var 0) va_nil)) ve_int)))) (vb_one vs_bad) vb_nil)
    (vb_cons (vs_asg (ve_var 0) (vg_tup (vgs_cons (vg_name 1 S.nd) (vgs_cons (vg_name 2 S.nd) vgs_nil))))
    (vb_cons (vs_if (vt_not (vt_val (ve_call C_are_counts tk (hr.mono (by decide)) (va_cons (ve_var 1) va_nil)))) (vb_one vs_bad) vb_nil)
    (vb_cons (vs_if (VW.vt (vw_or (vt_not (vt_val (bi_tuple T.z_isinstance T.z_tuple (ve_var 2)))) (vw_or1 (vt_gt rm (bc_len T.z_len  (va_cons (ve_var 2) va_nil)) (ve_glob T.c_MOST_TOUCHES))))) (vb_one vs_bad) vb_nil)
    (vb_cons (vs_set 3 (ve_call C_touches_misfit tk (hr.mono (by decide)) (va_cons (ve_var 1) (va_cons (ve_var 2) va_nil))) S.nd)
    (vb_one (vs_if (vt_isnN (ve_var 3) ve_non) (vb_one vs_bad) vb_nil)))))))
theorem ok_need_machine (T : Txt Γ K mg) (C_are_counts : Cal Γ P wd K mg base 2 "are_counts" 1 [] R_are_counts) (C_touches_misfit : Cal Γ P wd K mg base 4 "touches_misfit" 2 [] R_touches_misfit) {f : Addr} {fd : FuncData} (F : FunD K "need_machine" "need_machine" (defArgs s_need_machine) (defBody s_need_machine) (defScope s_need_machine) [] [] f fd) (hm : mg "need_machine" = some (.ref f)) : Cal Γ P wd K mg base 5 "need_machine" 1 [] R_need_machine :=
  Cal.of F hm rfl (fun _ _ _ _ _ _ us hl => match us, hl with | [_], _ => rfl) (fo_need_machine T C_are_counts C_touches_misfit F)
theorem sc_lots : FnScope ["machine"] ["machine"] (defScope s_lots) := ⟨rfl, rfl, rfl, by decide +kernel, rfl, by decide +kernel, by decide +kernel⟩
theorem fo_lots (T : Txt Γ K mg) (C_need_machine : Cal Γ P wd K mg base 5 "need_machine" 1 [] R_need_machine) (C_own_lots : Cal Γ P wd K mg base 1 "own_lots" 1 [] R_own_lots) {f : Addr} {fd : FuncData} (F : FunD K "lots" "lots" (defArgs s_lots) (defBody s_lots) (defScope s_lots) [] [] f fd) : FnOk P wd K mg base (L2.CX P wd) 6 f fd ["machine"] (spOf Γ K 1 R_lots) := by
  have S := sc_lots
  refine fn_rule F sc_lots fun cdv A outer s H E hr => ?_
  have tk : Takes (cxOf (L2.CX P wd) P wd K mg base ["machine"] "lots" (defScope s_lots) f cdv A outer s H E) (fun c d _ H => E c d H) := takes_of rfl rfl rfl rfl
  have rm : Rm (cxOf (L2.CX P wd) P wd K mg base ["machine"] "lots" (defScope s_lots) f cdv A outer s H E) := rm_of hr
  exact (vb_cons (vs_expr (ve_call C_need_machine tk (hr.mono (by decide)) (va_cons (ve_var 0) va_nil)))
    (vb_one (vs_ret (ve_call C_own_lots tk (hr.mono (by decide)) (va_cons (ve_var 0) va_nil)))))
theorem ok_lots (T : Txt Γ K mg) (C_need_machine : Cal Γ P wd K mg base 5 "need_machine" 1 [] R_need_machine) (C_own_lots : Cal Γ P wd K mg base 1 "own_lots" 1 [] R_own_lots) {f : Addr} {fd : FuncData} (F : FunD K "lots" "lots" (defArgs s_lots) (defBody s_lots) (defScope s_lots) [] [] f fd) (hm : mg "lots" = some (.ref f)) : Cal Γ P wd K mg base 6 "lots" 1 [] R_lots :=
  Cal.of F hm rfl (fun _ _ _ _ _ _ us hl => match us, hl with | [_], _ => rfl) (fo_lots T C_need_machine C_own_lots F)
theorem okk_lots (T : Txt Γ K mg) (C_need_machine : Cal Γ P wd K mg base 5 "need_machine" 1 [] R_need_machine) (C_own_lots : Cal Γ P wd K mg base 1 "own_lots" 1 [] R_own_lots) {f : Addr} {fd : FuncData} (F : FunD K "lots" "lots" (defArgs s_lots) (defBody s_lots) (defScope s_lots) [] [] f fd) (hm : mg "lots" = some (.ref f)) : CalK Γ P wd K mg base 6 "lots" ["machine"] [0] R_lots :=
  ⟨f, fd, ["machine"], hm, F.kp, FunD.bindsK (ps := ["machine"]) (ks := ["machine"]) (ix := [0]) F (fun _ _ _ _ _ _ ws hl => match ws, hl with | [_], _ => rfl), rfl, fo_lots T C_need_machine C_own_lots F⟩
theorem sc_lot_of : FnScope ["machine", "wheel"] ["machine", "wheel"] (defScope s_lot_of) := ⟨rfl, rfl, rfl, by decide +kernel, rfl, by decide +kernel, by decide +kernel⟩
theorem fo_lot_of (T : Txt Γ K mg) (C_need_machine : Cal Γ P wd K mg base 5 "need_machine" 1 [] R_need_machine) (C_need_wheel : Cal Γ P wd K mg base 2 "need_wheel" 2 [] R_need_wheel) (C_own_lot_of : Cal Γ P wd K mg base 2 "own_lot_of" 2 [] R_own_lot_of) {f : Addr} {fd : FuncData} (F : FunD K "lot_of" "lot_of" (defArgs s_lot_of) (defBody s_lot_of) (defScope s_lot_of) [] [] f fd) : FnOk P wd K mg base (L2.CX P wd) 6 f fd ["machine", "wheel"] (spOf Γ K 2 R_lot_of) := by
  have S := sc_lot_of
  refine fn_rule F sc_lot_of fun cdv A outer s H E hr => ?_
  have tk : Takes (cxOf (L2.CX P wd) P wd K mg base ["machine", "wheel"] "lot_of" (defScope s_lot_of) f cdv A outer s H E) (fun c d _ H => E c d H) := takes_of rfl rfl rfl rfl
  have rm : Rm (cxOf (L2.CX P wd) P wd K mg base ["machine", "wheel"] "lot_of" (defScope s_lot_of) f cdv A outer s H E) := rm_of hr
  exact (vb_cons (vs_expr (ve_call C_need_machine tk (hr.mono (by decide)) (va_cons (ve_var 0) va_nil)))
    (vb_cons (vs_expr (ve_call C_need_wheel tk (hr.mono (by decide)) (va_cons (ve_var 0) (va_cons (ve_var 1) va_nil))))
    (vb_one (vs_ret (ve_call C_own_lot_of tk (hr.mono (by decide)) (va_cons (ve_var 0) (va_cons (ve_var 1) va_nil)))))))
theorem ok_lot_of (T : Txt Γ K mg) (C_need_machine : Cal Γ P wd K mg base 5 "need_machine" 1 [] R_need_machine) (C_need_wheel : Cal Γ P wd K mg base 2 "need_wheel" 2 [] R_need_wheel) (C_own_lot_of : Cal Γ P wd K mg base 2 "own_lot_of" 2 [] R_own_lot_of) {f : Addr} {fd : FuncData} (F : FunD K "lot_of" "lot_of" (defArgs s_lot_of) (defBody s_lot_of) (defScope s_lot_of) [] [] f fd) (hm : mg "lot_of" = some (.ref f)) : Cal Γ P wd K mg base 6 "lot_of" 2 [] R_lot_of :=
  Cal.of F hm rfl (fun _ _ _ _ _ _ us hl => match us, hl with | [_, _], _ => rfl) (fo_lot_of T C_need_machine C_need_wheel C_own_lot_of F)
theorem sc_web : FnScope ["machine"] ["machine"] (defScope s_web) := ⟨rfl, rfl, rfl, by decide +kernel, rfl, by decide +kernel, by decide +kernel⟩
theorem fo_web (T : Txt Γ K mg) (C_need_machine : Cal Γ P wd K mg base 5 "need_machine" 1 [] R_need_machine) (C_own_web : Cal Γ P wd K mg base 3 "own_web" 1 [] R_own_web) {f : Addr} {fd : FuncData} (F : FunD K "web" "web" (defArgs s_web) (defBody s_web) (defScope s_web) [] [] f fd) : FnOk P wd K mg base (L2.CX P wd) 6 f fd ["machine"] (spOf Γ K 1 R_web) := by
  have S := sc_web
  refine fn_rule F sc_web fun cdv A outer s H E hr => ?_
  have tk : Takes (cxOf (L2.CX P wd) P wd K mg base ["machine"] "web" (defScope s_web) f cdv A outer s H E) (fun c d _ H => E c d H) := takes_of rfl rfl rfl rfl
  have rm : Rm (cxOf (L2.CX P wd) P wd K mg base ["machine"] "web" (defScope s_web) f cdv A outer s H E) := rm_of hr
  exact (vb_cons (vs_expr (ve_call C_need_machine tk (hr.mono (by decide)) (va_cons (ve_var 0) va_nil)))
    (vb_one (vs_ret (ve_call C_own_web tk (hr.mono (by decide)) (va_cons (ve_var 0) va_nil)))))
theorem ok_web (T : Txt Γ K mg) (C_need_machine : Cal Γ P wd K mg base 5 "need_machine" 1 [] R_need_machine) (C_own_web : Cal Γ P wd K mg base 3 "own_web" 1 [] R_own_web) {f : Addr} {fd : FuncData} (F : FunD K "web" "web" (defArgs s_web) (defBody s_web) (defScope s_web) [] [] f fd) (hm : mg "web" = some (.ref f)) : Cal Γ P wd K mg base 6 "web" 1 [] R_web :=
  Cal.of F hm rfl (fun _ _ _ _ _ _ us hl => match us, hl with | [_], _ => rfl) (fo_web T C_need_machine C_own_web F)
theorem sc_way_from : FnScope ["machine", "spot", "at"] ["machine", "spot"] (defScope s_way_from) := ⟨rfl, rfl, rfl, by decide +kernel, rfl, by decide +kernel, by decide +kernel⟩
theorem fo_way_from (T : Txt Γ K mg) (C_need_machine : Cal Γ P wd K mg base 5 "need_machine" 1 [] R_need_machine) (C_need_spot : Cal Γ P wd K mg base 3 "need_spot" 2 [] R_need_spot) (C_touches_at : Cal Γ P wd K mg base 1 "touches_at" 1 [] R_touches_at) (C_own_way : Cal Γ P wd K mg base 2 "own_way" 3 [] R_own_way) {f : Addr} {fd : FuncData} (F : FunD K "way_from" "way_from" (defArgs s_way_from) (defBody s_way_from) (defScope s_way_from) [] [] f fd) : FnOk P wd K mg base (L2.CX P wd) 6 f fd ["machine", "spot"] (spOf Γ K 2 R_way_from) := by
  have S := sc_way_from
  refine fn_rule F sc_way_from fun cdv A outer s H E hr => ?_
  have tk : Takes (cxOf (L2.CX P wd) P wd K mg base ["machine", "spot", "at"] "way_from" (defScope s_way_from) f cdv A outer s H E) (fun c d _ H => E c d H) := takes_of rfl rfl rfl rfl
  have rm : Rm (cxOf (L2.CX P wd) P wd K mg base ["machine", "spot", "at"] "way_from" (defScope s_way_from) f cdv A outer s H E) := rm_of hr
  exact (vb_cons (vs_expr (ve_call C_need_machine tk (hr.mono (by decide)) (va_cons (ve_var 0) va_nil)))
    (vb_cons (vs_expr (ve_call C_need_spot tk (hr.mono (by decide)) (va_cons (ve_var 0) (va_cons (ve_var 1) va_nil))))
    (vb_cons (vs_set 2 (ve_call C_touches_at tk (hr.mono (by decide)) (va_cons (ve_var 0) va_nil)) S.nd)
    (vb_cons (vs_if (vt_ninX rm (ve_var 1) (ve_var 2)) (vb_one (vs_raise T.x_NoTouch tk)) vb_nil)
    (vb_one (vs_ret (ve_call C_own_way tk (hr.mono (by decide)) (va_cons (ve_var 0) (va_cons (ve_var 2) (va_cons (ve_var 1) va_nil))))))))))
theorem ok_way_from (T : Txt Γ K mg) (C_need_machine : Cal Γ P wd K mg base 5 "need_machine" 1 [] R_need_machine) (C_need_spot : Cal Γ P wd K mg base 3 "need_spot" 2 [] R_need_spot) (C_touches_at : Cal Γ P wd K mg base 1 "touches_at" 1 [] R_touches_at) (C_own_way : Cal Γ P wd K mg base 2 "own_way" 3 [] R_own_way) {f : Addr} {fd : FuncData} (F : FunD K "way_from" "way_from" (defArgs s_way_from) (defBody s_way_from) (defScope s_way_from) [] [] f fd) (hm : mg "way_from" = some (.ref f)) : Cal Γ P wd K mg base 6 "way_from" 2 [] R_way_from :=
  Cal.of F hm rfl (fun _ _ _ _ _ _ us hl => match us, hl with | [_, _], _ => rfl) (fo_way_from T C_need_machine C_need_spot C_touches_at C_own_way F)
theorem sc_ways_to : FnScope ["machine", "touch", "way"] ["machine", "touch"] (defScope s_ways_to) := ⟨rfl, rfl, rfl, by decide +kernel, rfl, by decide +kernel, by decide +kernel⟩
theorem fo_ways_to (T : Txt Γ K mg) (C_need_machine : Cal Γ P wd K mg base 5 "need_machine" 1 [] R_need_machine) (C_is_whole : Cal Γ P wd K mg base 1 "is_whole" 1 [] R_is_whole) (C_own_web : Cal Γ P wd K mg base 3 "own_web" 1 [] R_own_web) {f : Addr} {fd : FuncData} (F : FunD K "ways_to" "ways_to" (defArgs s_ways_to) (defBody s_ways_to) (defScope s_ways_to) [] [] f fd) : FnOk P wd K mg base (L2.CX P wd) 6 f fd ["machine", "touch"] (spOf Γ K 2 R_ways_to) := by
  have S := sc_ways_to
  refine fn_rule F sc_ways_to fun cdv A outer s H E hr => ?_
  have tk : Takes (cxOf (L2.CX P wd) P wd K mg base ["machine", "touch", "way"] "ways_to" (defScope s_ways_to) f cdv A outer s H E) (fun c d _ H => E c d H) := takes_of rfl rfl rfl rfl
  have rm : Rm (cxOf (L2.CX P wd) P wd K mg base ["machine", "touch", "way"] "ways_to" (defScope s_ways_to) f cdv A outer s H E) := rm_of hr
  exact (vb_cons (vs_expr (ve_call C_need_machine tk (hr.mono (by decide)) (va_cons (ve_var 0) va_nil)))
    (vb_cons (vs_if (VW.vt (vw_or (vt_not (vt_val (ve_call C_is_whole tk (hr.mono (by decide)) (va_cons (ve_var 1) va_nil)))) (vw_or1 (vt_not (vt_lelt rm ve_int (ve_var 1) (bc_len T.z_len  (va_cons (ve_ix (ve_var 0) ve_int) va_nil))))))) (vb_one (vs_raise T.x_NoTouch tk)) vb_nil)
    (vb_one (vs_ret (bc_tuple T.z_tuple  (va_cons (ve_lc [("way", 2)] S.nd (vi_val (ve_call C_own_web tk (hr.mono (by decide)) (va_cons (ve_var 0) va_nil))) (blkOk_by (by rfl)) (fun _ _ _ _ _ => (vg_name 2 S.nd)) (fun _ _ _ _ _ => (vts_one (vt_eq (by exact rm) (ve_ix (ve_var 2) ve_int) (ve_var 1)))) (fun _ _ _ _ _ => (ve_var 2))) va_nil))))))
theorem ok_ways_to (T : Txt Γ K mg) (C_need_machine : Cal Γ P wd K mg base 5 "need_machine" 1 [] R_need_machine) (C_is_whole : Cal Γ P wd K mg base 1 "is_whole" 1 [] R_is_whole) (C_own_web : Cal Γ P wd K mg base 3 "own_web" 1 [] R_own_web) {f : Addr} {fd : FuncData} (F : FunD K "ways_to" "ways_to" (defArgs s_ways_to) (defBody s_ways_to) (defScope s_ways_to) [] [] f fd) (hm : mg "ways_to" = some (.ref f)) : Cal Γ P wd K mg base 6 "ways_to" 2 [] R_ways_to :=
  Cal.of F hm rfl (fun _ _ _ _ _ _ us hl => match us, hl with | [_, _], _ => rfl) (fo_ways_to T C_need_machine C_is_whole C_own_web F)
theorem sc__law_right : FnScope ["gear", "due", "numbers", "k", "row", "ways", "spot", "one", "found", "rim", "gaps"] ["gear"] (defScope s__law_right) := ⟨rfl, rfl, rfl, by decide +kernel, rfl, by decide +kernel, by decide +kernel⟩
theorem fo__law_right (T : Txt Γ K mg) (C__law_numbers : Cal Γ P wd K mg base 1 "_law_numbers" 1 [] R__law_numbers) (C__law_joined : Cal Γ P wd K mg base 1 "_law_joined" 1 [] R__law_joined) (C_lots : Cal Γ P wd K mg base 6 "lots" 1 [] R_lots) (CK_lots : CalK Γ P wd K mg base 6 "lots" ["machine"] [0] R_lots) (C_lot_of : Cal Γ P wd K mg base 6 "lot_of" 2 [] R_lot_of) (C__law_rolled : Cal Γ P wd K mg base 1 "_law_rolled" 3 [] R__law_rolled) (C_web : Cal Γ P wd K mg base 6 "web" 1 [] R_web) (C_way_from : Cal Γ P wd K mg base 6 "way_from" 2 [] R_way_from) (C_ways_to : Cal Γ P wd K mg base 6 "ways_to" 2 [] R_ways_to) {f : Addr} {fd : FuncData} (F : FunD K "_law_right" "_law_right" (defArgs s__law_right) (defBody s__law_right) (defScope s__law_right) [] [] f fd) : FnG P wd K mg base 7 f fd ["gear"] (spOf Γ K 1 R__law_right) := by
  have S := sc__law_right
  refine fnG_rule F sc__law_right fun cdv A outer s H E gd hr => ?_
  have tk : Takes (cxOf (L2.CX P wd) P wd K mg base ["gear", "due", "numbers", "k", "row", "ways", "spot", "one", "found", "rim", "gaps"] "_law_right" (defScope s__law_right) f cdv A outer s H E) (fun c d _ H => E c d H) := takes_of rfl rfl rfl rfl
  have rm : Rm (cxOf (L2.CX P wd) P wd K mg base ["gear", "due", "numbers", "k", "row", "ways", "spot", "one", "found", "rim", "gaps"] "_law_right" (defScope s__law_right) f cdv A outer s H E) := rm_of hr
  exact (vb_cons (vs_asg (ve_tupW (va_cons (ve_call C__law_joined tk (hr.mono (by decide)) (va_cons (ve_var 0) va_nil)) (va_cons (ve_call C__law_numbers tk (hr.mono (by decide)) (va_cons (ve_var 0) va_nil)) va_nil))) (vg_tup (vgs_cons (vg_name 1 S.nd) (vgs_cons (vg_name 2 S.nd) vgs_nil))))
    (vb_cons (vs_if (vt_ne rm (bc_repr T.z_repr gd rm (va_cons (ve_lst (va_cons (ve_call C_lots tk (hr.mono (by decide)) (va_cons (ve_var 0) va_nil)) (va_cons (ve_callKw CK_lots tk (hr.mono (by decide)) (vk_cons (ve_var 0) vk_nil)) va_nil))) va_nil)) (bc_repr T.z_repr gd rm (va_cons (ve_lst (va_cons (ve_var 1) (va_cons (ve_var 1) va_nil))) va_nil))) (vb_one (vs_ret ve_bl)) vb_nil)
    (vb_cons (vs_for PassesOwn.leaving (vi_r1 (va_cons (bc_len T.z_len  (va_cons (ve_ix (ve_var 0) ve_int) va_nil)) va_nil) T.z_range) (vg_name 3 S.nd) (vb_one (vs_if (vt_ne rm (bc_repr T.z_repr gd rm (va_cons (ve_call C_lot_of tk (hr.mono (by decide)) (va_cons (ve_var 0) (va_cons (ve_var 3) va_nil))) va_nil)) (bc_repr T.z_repr gd rm (va_cons (ve_ix (ve_lc [("row", 4)] S.nd (vi_val (ve_var 1)) (blkOk_by (by rfl)) (fun _ _ _ _ _ => (vg_name 4 S.nd)) (fun _ _ _ _ _ => (vts_one (vt_in (by exact rm) (ve_var 3) (ve_var 4)))) (fun _ _ _ _ _ => (ve_var 4))) ve_int) va_nil))) (vb_one (vs_ret ve_bl)) vb_nil)))
    (vb_cons (vs_set 5 (bc_sorted T.z_sorted rm (va_cons (ve_lc [("spot", 6)] S.nd (vi_keysX (ve_var 2)) (blkOk_by (by rfl)) (fun _ _ _ _ _ => (vg_name 6 S.nd)) (fun _ _ _ _ _ => vts_nil) (fun _ _ _ _ _ => (ve_call C__law_rolled takes0 (hr.mono (by decide)) (va_cons (ve_var 0) (va_cons (ve_var 2) (va_cons (ve_var 6) va_nil)))))) va_nil)) S.nd)
    (vb_cons (vs_if (VW.vt (vw_or (vt_ne rm (bc_repr T.z_repr gd rm (va_cons (ve_call C_web tk (hr.mono (by decide)) (va_cons (ve_var 0) va_nil)) va_nil)) (bc_repr T.z_repr gd rm (va_cons (bc_tuple T.z_tuple  (va_cons (ve_var 5) va_nil)) va_nil))) (vw_or1 (vt_ne rm (ve_lc [("one", 7)] S.nd (vi_val (ve_var 5)) (blkOk_by (by rfl)) (fun _ _ _ _ _ => (vg_name 7 S.nd)) (fun _ _ _ _ _ => (vts_one (vt_ne (by exact rm) (ve_call C_way_from takes0 (hr.mono (by decide)) (va_cons (ve_var 0) (va_cons (ve_ix (ve_var 7) ve_int) va_nil))) (ve_var 7)))) (fun _ _ _ _ _ => (ve_var 7))) (ve_lst va_nil))))) (vb_one (vs_ret ve_bl)) vb_nil)
    (vb_cons (vs_for PassesOwn.leaving (vi_r1 (va_cons (bc_len T.z_len  (va_cons (ve_ix (ve_var 0) ve_int) va_nil)) va_nil) T.z_range) (vg_name 3 S.nd) (vb_cons (vs_set 8 (ve_call C_ways_to tk (hr.mono (by decide)) (va_cons (ve_var 0) (va_cons (ve_var 3) va_nil))) S.nd)
    (vb_one (vs_if (VW.vt (vw_or (vt_ne rm (bc_repr T.z_repr gd rm (va_cons (ve_var 8) va_nil)) (bc_repr T.z_repr gd rm (va_cons (bc_tuple T.z_tuple  (va_cons (ve_lc [("one", 7)] S.nd (vi_val (ve_var 5)) (blkOk_by (by rfl)) (fun _ _ _ _ _ => (vg_name 7 S.nd)) (fun _ _ _ _ _ => (vts_one (vt_eq (by exact rm) (ve_ix (ve_var 7) ve_int) (ve_var 3)))) (fun _ _ _ _ _ => (ve_var 7))) va_nil)) va_nil))) (vw_or1 (vt_ne rm (bc_len T.z_len  (va_cons (ve_var 8) va_nil)) ve_int)))) (vb_one (vs_ret ve_bl)) vb_nil))))
    (vb_cons (vs_for PassesOwn.leaving (vi_enum (va_cons (ve_ix (ve_var 0) ve_int) va_nil) T.z_enumerate) (vg_tup (vgs_cons (vg_name 3 S.nd) (vgs_cons (vg_name 9 S.nd) vgs_nil))) (vb_cons (vs_setLc 10 [("one", 7)] S.nd (by rfl) (vi_val (ve_call C_web tk (hr.mono (by decide)) (va_cons (ve_var 0) va_nil))) (blkOk_by (by rfl)) (fun _ _ _ _ _ => (vg_name 7 S.nd)) (fun _ _ _ _ _ => (vts_one (vt_eq (by exact rm) (ve_ix (ve_ix (ve_var 7) ve_int) ve_int) (ve_var 3)))) (fun _ _ _ _ _ => (ve_ix (ve_var 7) ve_int)))
    (vb_one (vs_if (VW.vt (vw_and (vt_ne rm (ve_var 10) (ve_lst va_nil)) (vw_and1 (vt_ne rm (bc_sum T.z_sum rfl (va_cons (ve_var 10) va_nil)) (ve_var 9))))) (vb_one (vs_ret ve_bl)) vb_nil))))
    (vb_one (vs_ret ve_bl)))))))))
theorem ok__law_right (T : Txt Γ K mg) (C__law_numbers : Cal Γ P wd K mg base 1 "_law_numbers" 1 [] R__law_numbers) (C__law_joined : Cal Γ P wd K mg base 1 "_law_joined" 1 [] R__law_joined) (C_lots : Cal Γ P wd K mg base 6 "lots" 1 [] R_lots) (CK_lots : CalK Γ P wd K mg base 6 "lots" ["machine"] [0] R_lots) (C_lot_of : Cal Γ P wd K mg base 6 "lot_of" 2 [] R_lot_of) (C__law_rolled : Cal Γ P wd K mg base 1 "_law_rolled" 3 [] R__law_rolled) (C_web : Cal Γ P wd K mg base 6 "web" 1 [] R_web) (C_way_from : Cal Γ P wd K mg base 6 "way_from" 2 [] R_way_from) (C_ways_to : Cal Γ P wd K mg base 6 "ways_to" 2 [] R_ways_to) {f : Addr} {fd : FuncData} (F : FunD K "_law_right" "_law_right" (defArgs s__law_right) (defBody s__law_right) (defScope s__law_right) [] [] f fd) (hm : mg "_law_right" = some (.ref f)) : CalG Γ P wd K mg base 7 "_law_right" 1 R__law_right :=
  ⟨f, fd, ["gear"], hm, F.kp, fun s us hl => FunD.bindsA (ps := ["gear"]) F (fun _ _ _ _ _ _ us hl => match us, hl with | [_], _ => rfl) s us hl, rfl, fo__law_right T C__law_numbers C__law_joined C_lots CK_lots C_lot_of C__law_rolled C_web C_way_from C_ways_to F⟩
theorem sc_law : FnScope ["script", "draw", "turn", "gear", "kept", "free", "one", "spot"] ["script"] (defScope s_law) := ⟨rfl, rfl, rfl, by decide +kernel, rfl, by decide +kernel, by decide +kernel⟩
theorem fo_law {ca : Nat → Addr} {T0 : List (Addr × Str)} (T : Txt (gmT ca T0) K mg) (C__law_begun : Cal (gmT ca T0) P wd K mg base 1 "_law_begun" 1 [] R__law_begun) (C__law_machine : Cal (gmT ca T0) P wd K mg base 3 "_law_machine" 1 [] R__law_machine) (C__law_places : Cal (gmT ca T0) P wd K mg base 1 "_law_places" 1 [] R__law_places) (C__law_numbers : Cal (gmT ca T0) P wd K mg base 1 "_law_numbers" 1 [] R__law_numbers) (C__law_right : CalG (gmT ca T0) P wd K mg base 7 "_law_right" 1 R__law_right) (CD__law_said : CalD (gmT ca T0) P wd K mg base 1 "_law_said" "deed" (R__law_said Γ.ca)) (C_way_from : Cal (gmT ca T0) P wd K mg base 6 "way_from" 2 [] R_way_from) {f : Addr} {fd : FuncData} (F : FunD K "law" "law" (defArgs s_law) (defBody s_law) (defScope s_law) [] [] f fd) (LB : ∀ cdv, fd.code = cdv → LamF K mg base T0 cdv (("law" : Str) ++ ".<locals>." ++ "<lambda>")) : FnG P wd K mg base 9 f fd ["script"] (spOf (gmT ca T0) K 1 (R_law Γ.ca)) := by
  have S := sc_law
  refine fnG_ruleC F sc_law fun cdv A outer s H E hcd gd hr => ?_
  obtain ⟨c0, P0, hcode, TB, hmT, hu⟩ := (LB cdv hcd).ex
  have tk : Takes (cxOf (L2.CX P wd) P wd K mg base ["script", "draw", "turn", "gear", "kept", "free", "one", "spot"] "law" (defScope s_law) f cdv A outer s H E) (fun c d _ H => E c d H) := takes_of rfl rfl rfl rfl
  have rm : Rm (cxOf (L2.CX P wd) P wd K mg base ["script", "draw", "turn", "gear", "kept", "free", "one", "spot"] "law" (defScope s_law) f cdv A outer s H E) := rm_of hr
  exact (vb_cons (vs_set 1 (ve_call C__law_begun tk (hr.mono (by decide)) (va_cons (ve_var 0) va_nil)) S.nd)
    (vb_cons (vs_for PassesOwn.leaving (vi_r1 (va_cons (ve_add ve_int (bc_min2 T.z_min rfl rm (va_cons ve_int (va_cons (ve_fdv (bc_len T.z_len  (va_cons (ve_var 0) va_nil)) ve_int) va_nil)))) va_nil) T.z_range) (vg_name 2 S.nd) (vb_cons (vs_set 3 (ve_call C__law_machine tk (hr.mono (by decide)) (va_cons (ve_var 1) va_nil)) S.nd)
    (vb_cons (vs_par 4 5 (va_cons (bc_repr T.z_repr gd rm (va_cons (ve_var 3) va_nil)) (va_cons (ve_lc [("one", 6)] S.nd (vi_val (ve_call C__law_places tk (hr.mono (by decide)) (va_cons (ve_ix (ve_var 3) ve_int) va_nil))) (blkOk_by (by rfl)) (fun _ _ _ _ _ => (vg_name 6 S.nd)) (fun _ _ _ _ _ => (vts_one (vt_ninX (by exact rm) (ve_var 6) (ve_call C__law_numbers takes0 (hr.mono (by decide)) (va_cons (ve_var 3) va_nil))))) (fun _ _ _ _ _ => (ve_var 6))) va_nil)) S.nd (by rfl))
    (vb_cons (vs_if (VW.vt (vw_or (vt_not (vt_val (ve_callG C__law_right gd tk (hr.mono (by decide)) (va_cons (ve_var 3) va_nil)))) (vw_or (vt_not (vt_val (ve_callG C__law_right gd tk (hr.mono (by decide)) (va_cons (ve_var 3) va_nil)))) (vw_or1 (vt_ne rm (bc_repr T.z_repr gd rm (va_cons (ve_var 3) va_nil)) (ve_var 4)))))) (vb_one (vs_ret ve_bl)) vb_nil)
    (vb_one (vs_for PassesOwn.leaving (vi_val (ve_add (ve_slice (ve_var 5) vo_none (vo_some ve_int)) (ve_slice (ve_var 5) (vo_some (ve_neg ve_int)) vo_none))) (vg_name 7 S.nd) (vb_one (vs_if (vt_ne rm (ve_said (j := 6) CD__law_said TB hcode hmT hu (hr.mono (by decide)) (by decide) (LamX.lamS_by (sc := defScope s_law) (by decide +kernel)) (fun A outer s H E f c' hr => lam_body (fun tk rm => (ve_call C_way_from tk (hr.mono (by decide)) (va_cons (ve_var 3) (va_cons (ve_var 7) va_nil)))) (takes_of rfl rfl rfl rfl) (rm_of hr))) (ve_tup (va_cons ve_str va_nil))) (vb_one (vs_ret ve_bl)) vb_nil))))))))
    (vb_one (vs_ret ve_bl))))
end
end G
set_option Elab.async false
set_option linter.all false
set_option maxRecDepth 100000
set_option maxHeartbeats 0
namespace G
open PySem PySem.Spec PyProof.Rows L2
def d_is_whole : He.DefD := ⟨("is_whole", none), "is_whole", "is_whole", defArgs s_is_whole, defBody s_is_whole, defScope s_is_whole, [], []⟩
def d_own_lots : He.DefD := ⟨("own_lots", none), "own_lots", "own_lots", defArgs s_own_lots, defBody s_own_lots, defScope s_own_lots, [], []⟩
def d_touches_at : He.DefD := ⟨("touches_at", none), "touches_at", "touches_at", defArgs s_touches_at, defBody s_touches_at, defScope s_touches_at, [], []⟩
def d_met_from : He.DefD := ⟨("met_from", none), "met_from", "met_from", defArgs s_met_from, defBody s_met_from, defScope s_met_from, [], []⟩
def d__law_begun : He.DefD := ⟨("_law_begun", none), "_law_begun", "_law_begun", defArgs s__law_begun, defBody s__law_begun, defScope s__law_begun, [], []⟩
def d__law_next : He.DefD := ⟨("_law_next", none), "_law_next", "_law_next", defArgs s__law_next, defBody s__law_next, defScope s__law_next, [], []⟩
def d__law_places : He.DefD := ⟨("_law_places", none), "_law_places", "_law_places", defArgs s__law_places, defBody s__law_places, defScope s__law_places, [], []⟩
def d__law_said : He.DefD := ⟨("_law_said", none), "_law_said", "_law_said", defArgs s__law_said, defBody s__law_said, defScope s__law_said, [], []⟩
def d__law_joined : He.DefD := ⟨("_law_joined", none), "_law_joined", "_law_joined", defArgs s__law_joined, defBody s__law_joined, defScope s__law_joined, [], []⟩
def d__law_numbers : He.DefD := ⟨("_law_numbers", none), "_law_numbers", "_law_numbers", defArgs s__law_numbers, defBody s__law_numbers, defScope s__law_numbers, [], []⟩
def d__law_rolled : He.DefD := ⟨("_law_rolled", none), "_law_rolled", "_law_rolled", defArgs s__law_rolled, defBody s__law_rolled, defScope s__law_rolled, [], []⟩
def d_are_counts : He.DefD := ⟨("are_counts", none), "are_counts", "are_counts", defArgs s_are_counts, defBody s_are_counts, defScope s_are_counts, [], []⟩
def d_is_spot : He.DefD := ⟨("is_spot", none), "is_spot", "is_spot", defArgs s_is_spot, defBody s_is_spot, defScope s_is_spot, [], []⟩
def d_need_wheel : He.DefD := ⟨("need_wheel", none), "need_wheel", "need_wheel", defArgs s_need_wheel, defBody s_need_wheel, defScope s_need_wheel, [], []⟩
def d_own_lot_of : He.DefD := ⟨("own_lot_of", none), "own_lot_of", "own_lot_of", defArgs s_own_lot_of, defBody s_own_lot_of, defScope s_own_lot_of, [], []⟩
def d_own_way : He.DefD := ⟨("own_way", none), "own_way", "own_way", defArgs s_own_way, defBody s_own_way, defScope s_own_way, [], []⟩
def d__law_rims : He.DefD := ⟨("_law_rims", none), "_law_rims", "_law_rims", defArgs s__law_rims, defBody s__law_rims, defScope s__law_rims, [], []⟩
def d_is_touch : He.DefD := ⟨("is_touch", none), "is_touch", "is_touch", defArgs s_is_touch, defBody s_is_touch, defScope s_is_touch, [], []⟩
def d_own_web : He.DefD := ⟨("own_web", none), "own_web", "own_web", defArgs s_own_web, defBody s_own_web, defScope s_own_web, [], []⟩
def d_need_spot : He.DefD := ⟨("need_spot", none), "need_spot", "need_spot", defArgs s_need_spot, defBody s_need_spot, defScope s_need_spot, [], []⟩
def d__law_machine : He.DefD := ⟨("_law_machine", none), "_law_machine", "_law_machine", defArgs s__law_machine, defBody s__law_machine, defScope s__law_machine, [], []⟩
def d_touches_misfit : He.DefD := ⟨("touches_misfit", none), "touches_misfit", "touches_misfit", defArgs s_touches_misfit, defBody s_touches_misfit, defScope s_touches_misfit, [], []⟩
def d_need_machine : He.DefD := ⟨("need_machine", none), "need_machine", "need_machine", defArgs s_need_machine, defBody s_need_machine, defScope s_need_machine, [], []⟩
def d_lots : He.DefD := ⟨("lots", none), "lots", "lots", defArgs s_lots, defBody s_lots, defScope s_lots, [], []⟩
def d_lot_of : He.DefD := ⟨("lot_of", none), "lot_of", "lot_of", defArgs s_lot_of, defBody s_lot_of, defScope s_lot_of, [], []⟩
def d_web : He.DefD := ⟨("web", none), "web", "web", defArgs s_web, defBody s_web, defScope s_web, [], []⟩
def d_way_from : He.DefD := ⟨("way_from", none), "way_from", "way_from", defArgs s_way_from, defBody s_way_from, defScope s_way_from, [], []⟩
def d_ways_to : He.DefD := ⟨("ways_to", none), "ways_to", "ways_to", defArgs s_ways_to, defBody s_ways_to, defScope s_ways_to, [], []⟩
def d__law_right : He.DefD := ⟨("_law_right", none), "_law_right", "_law_right", defArgs s__law_right, defBody s__law_right, defScope s__law_right, [], []⟩
def d_law : He.DefD := ⟨("law", none), "law", "law", defArgs s_law, defBody s_law, defScope s_law, [], []⟩
def fn0 : List He.DefD := [d_is_whole, d_own_lots, d_touches_at, d_met_from, d__law_begun, d__law_next, d__law_places, d__law_said, d__law_joined, d__law_numbers, d__law_rolled, d_are_counts, d_is_spot, d_need_wheel, d_own_lot_of, d_own_way, d__law_rims, d_is_touch, d_own_web, d_need_spot, d__law_machine, d_touches_misfit, d_need_machine, d_lots, d_lot_of]
def fn1 : List He.DefD := [d_web, d_way_from, d_ways_to, d__law_right, d_law]
def fn : List He.DefD := fn0 ++ fn1
def fa0 : List He.Fa := [.glo "is_whole", .glo "own_lots", .glo "touches_at", .glo "met_from", .glo "_law_begun", .glo "_law_next", .glo "_law_places", .glo "_law_said", .glo "_law_joined", .glo "_law_numbers", .glo "_law_rolled", .glo "are_counts", .glo "is_spot", .glo "need_wheel", .glo "own_lot_of", .glo "own_way", .glo "_law_rims", .glo "is_touch", .glo "own_web", .glo "need_spot", .glo "_law_machine", .glo "touches_misfit", .glo "need_machine", .glo "lots", .glo "lot_of"]
def fa1 : List He.Fa := [.glo "web", .glo "way_from", .glo "ways_to", .glo "_law_right", .glo "law", .free "LookupError", .free "ValueError", .free "all", .free "bool", .free "enumerate", .free "int", .free "isinstance", .free "len", .free "list", .free "max", .free "min", .free "range", .free "repr", .free "set", .free "sorted", .free "sum", .free "tuple", .glo "OutOfPlace", .glo "NoTouch", .glo "WheelError"]
def fa2 : List He.Fa := [.glo "MissError", .glo "BadLoad", .glo "BadMachine", .glo "BadPaper", .glo "BadSpot", .glo "BadRule", .glo "BadReadings", .glo "TooGreat", .glo "Never", .int "MOST_CELLS" 30, .int "MOST_TOUCHES" 8, .int "MOST_WHEELS" 16]
def fa : List He.Fa := fa0 ++ fa1 ++ fa2
/-- an own class over LookupError, by what the fragment says -/
def excB (K : PySem.W.Frag) (x : Str) : Bool := PySem.W.keepIn K (.ref (He.ga K x)) && (PySem.W.excIn K (He.ga K x) leBase "LookupError.__new__" && (decide (PySem.W.subIn K (.ref (He.ga K x)) (.type "BaseException") = some true) &&
  (decide (PySem.W.typeIn K (.ref (He.ga K x)) = some (.type "type")) && decide (PySem.W.exmOne K (.ref (He.ga K x)) (.ref (He.ga K x)) = some true))))
theorem excB_ok {Γ : Gm} {K : PySem.W.Frag} {mg : Str → Option Value} {x : Str} {c : Nat} (h : excB K x = true) (g : mg x = some (.ref (He.ga K x))) (e : Γ.ca c = He.ga K x) : ExF Γ K mg x c := by
  unfold excB at h
  simp only [Bool.and_eq_true, decide_eq_true_eq] at h
  obtain ⟨h1, h2, h3, h4, h5⟩ := h
  exact ⟨by rw [e]; exact g, by rw [e]; exact h1, by rw [e]; exact h2, by rw [e]; exact h3, by rw [e]; exact h4, by rw [e]; exact h5⟩
def excV (K : PySem.W.Frag) (x : Str) : Bool := PySem.W.keepIn K (.ref (He.ga K x)) && (PySem.W.excIn K (He.ga K x) veBase "ValueError.__new__" && (decide (PySem.W.subIn K (.ref (He.ga K x)) (.type "BaseException") = some true) &&
  decide (PySem.W.typeIn K (.ref (He.ga K x)) = some (.type "type"))))
theorem excV_ok {Γ : Gm} {K : PySem.W.Frag} {mg : Str → Option Value} {x : Str} {c : Nat} (h : excV K x = true) (g : mg x = some (.ref (He.ga K x))) (e : Γ.ca c = He.ga K x) : ExV Γ K mg x c := by
  unfold excV at h
  simp only [Bool.and_eq_true, decide_eq_true_eq] at h
  obtain ⟨h1, h2, h3, h4⟩ := h
  exact ⟨by rw [e]; exact g, by rw [e]; exact h1, by rw [e]; exact h2, by rw [e]; exact h3, by rw [e]; exact h4⟩
theorem look_or {c i : Nat} {b b' : Bool} {l : List (Nat × Bool)} (h : List.lookup c ((i, b') :: l) = some b) : (i = c ∧ b' = b) ∨ List.lookup c l = some b := by
  rw [List.lookup_cons] at h
  by_cases e : c = i
  · subst e
    simp at h
    exact .inl ⟨rfl, h⟩
  · have : (c == i) = false := by simpa using e
    rw [this] at h
    exact .inr (by simpa using h)
def excC (K : PySem.W.Frag) (D : Addr) : Bool := decide (PySem.W.findIn K (.ref D) "__getattribute__" = some (some (.builtin "BaseException.__getattribute__"))) && (decide (PySem.W.findIn K (.ref D) "__getattr__" = some none) && (decide (PySem.W.subIn K (.ref D) (.type "BaseException") = some true) &&
  (PySem.W.hasDictIn K D && (decide (PySem.W.findIn K (.ref D) "__class__" = some (some (.builtin "object.__class__"))) && (decide (PySem.W.specialIn K (.builtin "object.__class__") "__get__" = some (some (.builtin "getset_descriptor.__get__"))) && (decide (PySem.W.takesIn K (.builtin "object.__class__") = some true) && decide (PySem.W.mroIn K D (.type "object") = some true)))))))
theorem excC_ok {K : PySem.W.Frag} {D : Addr} (h : excC K D = true) : ExcC K D := by
  unfold excC at h
  simp only [Bool.and_eq_true, decide_eq_true_eq] at h
  obtain ⟨h1, h2, h3, h4, h5, h6, h7, h8⟩ := h
  exact ⟨h1, h2, h3, h4, h5, h6, h7, h8⟩
def exI_LookupError (K : PySem.W.Frag) : Bool := (excC K (He.ga K "OutOfPlace") && decide (PySem.W.kitOne K (.ref (He.ga K "OutOfPlace")) (.type "LookupError") = some false)) && (excC K (He.ga K "NoTouch") && decide (PySem.W.kitOne K (.ref (He.ga K "NoTouch")) (.type "LookupError") = some true))
def exI_ValueError (K : PySem.W.Frag) : Bool := (excC K (He.ga K "OutOfPlace") && decide (PySem.W.kitOne K (.ref (He.ga K "OutOfPlace")) (.type "ValueError") = some true)) && (excC K (He.ga K "NoTouch") && decide (PySem.W.kitOne K (.ref (He.ga K "NoTouch")) (.type "ValueError") = some false))
def exM_WheelError_MissError (K : PySem.W.Frag) : Bool := decide (PySem.W.exmAny K (.ref (He.ga K "OutOfPlace")) [.ref (He.ga K "WheelError"), .ref (He.ga K "MissError")] = some true) && decide (PySem.W.exmAny K (.ref (He.ga K "NoTouch")) [.ref (He.ga K "WheelError"), .ref (He.ga K "MissError")] = some true)
def exO_BadLoad (K : PySem.W.Frag) : Bool := (excC K (He.ga K "OutOfPlace") && decide (PySem.W.kitOne K (.ref (He.ga K "OutOfPlace")) (.ref (He.ga K "BadLoad")) = some false)) && (excC K (He.ga K "NoTouch") && decide (PySem.W.kitOne K (.ref (He.ga K "NoTouch")) (.ref (He.ga K "BadLoad")) = some false))
def exO_BadMachine (K : PySem.W.Frag) : Bool := (excC K (He.ga K "OutOfPlace") && decide (PySem.W.kitOne K (.ref (He.ga K "OutOfPlace")) (.ref (He.ga K "BadMachine")) = some false)) && (excC K (He.ga K "NoTouch") && decide (PySem.W.kitOne K (.ref (He.ga K "NoTouch")) (.ref (He.ga K "BadMachine")) = some false))
def exO_BadPaper (K : PySem.W.Frag) : Bool := (excC K (He.ga K "OutOfPlace") && decide (PySem.W.kitOne K (.ref (He.ga K "OutOfPlace")) (.ref (He.ga K "BadPaper")) = some false)) && (excC K (He.ga K "NoTouch") && decide (PySem.W.kitOne K (.ref (He.ga K "NoTouch")) (.ref (He.ga K "BadPaper")) = some false))
def exO_BadSpot (K : PySem.W.Frag) : Bool := (excC K (He.ga K "OutOfPlace") && decide (PySem.W.kitOne K (.ref (He.ga K "OutOfPlace")) (.ref (He.ga K "BadSpot")) = some false)) && (excC K (He.ga K "NoTouch") && decide (PySem.W.kitOne K (.ref (He.ga K "NoTouch")) (.ref (He.ga K "BadSpot")) = some false))
def exO_NoTouch (K : PySem.W.Frag) : Bool := (excC K (He.ga K "OutOfPlace") && decide (PySem.W.kitOne K (.ref (He.ga K "OutOfPlace")) (.ref (He.ga K "NoTouch")) = some false)) && (excC K (He.ga K "NoTouch") && decide (PySem.W.kitOne K (.ref (He.ga K "NoTouch")) (.ref (He.ga K "NoTouch")) = some true))
def exO_OutOfPlace (K : PySem.W.Frag) : Bool := (excC K (He.ga K "OutOfPlace") && decide (PySem.W.kitOne K (.ref (He.ga K "OutOfPlace")) (.ref (He.ga K "OutOfPlace")) = some true)) && (excC K (He.ga K "NoTouch") && decide (PySem.W.kitOne K (.ref (He.ga K "NoTouch")) (.ref (He.ga K "OutOfPlace")) = some false))
def exT_BadRule_BadReadings_TooGreat_Never (K : PySem.W.Frag) : Bool := (excC K (He.ga K "OutOfPlace") && decide (PySem.W.kitAny K (.ref (He.ga K "OutOfPlace")) [.ref (He.ga K "BadRule"), .ref (He.ga K "BadReadings"), .ref (He.ga K "TooGreat"), .ref (He.ga K "Never")] = some false)) && (excC K (He.ga K "NoTouch") && decide (PySem.W.kitAny K (.ref (He.ga K "NoTouch")) [.ref (He.ga K "BadRule"), .ref (He.ga K "BadReadings"), .ref (He.ga K "TooGreat"), .ref (He.ga K "Never")] = some false))
def ex (K : PySem.W.Frag) : Bool := excV K "OutOfPlace" && excB K "NoTouch" && exM_WheelError_MissError K && exO_BadLoad K && exO_BadMachine K && exO_BadPaper K && exO_BadSpot K && exO_NoTouch K && exO_OutOfPlace K && exI_LookupError K && exI_ValueError K && exT_BadRule_BadReadings_TooGreat_Never K
def lo0 : List Str := ["WheelError", "BadMachine", "BadLoad", "BadSpot", "BadRule", "BadReadings", "BadPaper", "OutOfPlace", "TooGreat", "MissError", "Never", "NoTouch", "is_whole", "MOST_WHEELS", "MOST_CELLS", "MOST_TOUCHES", "are_counts", "is_spot", "is_touch", "touches_misfit", "need_machine", "own_lots", "lots", "need_wheel", "own_lot_of"]
def lo1 : List Str := ["lot_of", "touches_at", "met_from", "own_way", "own_web", "web", "need_spot", "way_from", "ways_to", "_law_begun", "_law_next", "_law_rims", "_law_places", "_law_machine", "_law_said", "_law_joined", "_law_numbers", "_law_rolled", "_law_right"]
def lo : List Str := lo0 ++ lo1
def tfL : List He.Defn := [("law", none)]
abbrev csL (K : PySem.W.Frag) : List (Addr × Addr) := tfL.map (He.cT K)
abbrev T0 (K : PySem.W.Frag) : List (Addr × Str) := [((He.cT K ("law", none)).2, ("law" : Str) ++ ".<locals>." ++ "<lambda>")]
abbrev R : PySem.W.OpenRow := PySem.W.OpenLaw.row PySem.Challenge.rw_evenwheels_k10_ways_and_lots
abbrev hk : PySem.W.Hook := He.hookX 4 fa fn [] tfL ex
def ob (s : PySem.W.SharedT) : He.AlX := He.obsX 4 fa fn [] tfL ex (HandSHeadRun.getT s)
theorem ob_eq (s : PySem.W.SharedT) : ob s = hk.obs s.abs := He.obsX_eq (HandSHeadRun.getT_eq s)
theorem run (w : World) : HandSHeadRun.RunEq R (PySem.W.view R.prog [49]) hk ob 40000 lo w := by
  intro os
  kernel_rfl
abbrev gm (K : PySem.W.Frag) : Gm := gmT (fun c => if c = 0 then He.ga K "OutOfPlace" else if c = 1 then He.ga K "NoTouch" else 0) (T0 K)
theorem facts {P : Program} {wd : World} {K : PySem.W.Frag} {h : Heap} {mg : Str → Option Value} {f : Addr} (X : K.In h) (G : h.Ns mainGlobals mg) (hfa : mg ("law" : Str) = some (.ref f)) (c : He.SaysD fa fn K) (ce : ex K = true) :
    ∃ fd : FuncData, (∀ (s : Shared) (v : Value), BindsTo s fd ⟨[v], []⟩ [("script", v)]) ∧ ∀ base : Heap, K.In base → base.Ns mainGlobals mg → (∀ p ∈ csL K, LamX.TabB base mg p.1 p.2) → FnG P wd K mg base 9 f fd ["script"] (spOf (gm K) K 1 (R_law (gm K).ca)) := by
  unfold ex at ce
  simp only [Bool.and_eq_true] at ce
  obtain ⟨fd_is_whole, F_is_whole⟩ := c.def_ 0 (d := d_is_whole) (by rfl)
  have g_is_whole := He.glo_ok X G (c.fact 0 (f := .glo "is_whole") (by rfl))
  obtain ⟨fd_own_lots, F_own_lots⟩ := c.def_ 1 (d := d_own_lots) (by rfl)
  have g_own_lots := He.glo_ok X G (c.fact 1 (f := .glo "own_lots") (by rfl))
  obtain ⟨fd_touches_at, F_touches_at⟩ := c.def_ 2 (d := d_touches_at) (by rfl)
  have g_touches_at := He.glo_ok X G (c.fact 2 (f := .glo "touches_at") (by rfl))
  obtain ⟨fd_met_from, F_met_from⟩ := c.def_ 3 (d := d_met_from) (by rfl)
  have g_met_from := He.glo_ok X G (c.fact 3 (f := .glo "met_from") (by rfl))
  obtain ⟨fd__law_begun, F__law_begun⟩ := c.def_ 4 (d := d__law_begun) (by rfl)
  have g__law_begun := He.glo_ok X G (c.fact 4 (f := .glo "_law_begun") (by rfl))
  obtain ⟨fd__law_next, F__law_next⟩ := c.def_ 5 (d := d__law_next) (by rfl)
  have g__law_next := He.glo_ok X G (c.fact 5 (f := .glo "_law_next") (by rfl))
  obtain ⟨fd__law_places, F__law_places⟩ := c.def_ 6 (d := d__law_places) (by rfl)
  have g__law_places := He.glo_ok X G (c.fact 6 (f := .glo "_law_places") (by rfl))
  obtain ⟨fd__law_said, F__law_said⟩ := c.def_ 7 (d := d__law_said) (by rfl)
  have g__law_said := He.glo_ok X G (c.fact 7 (f := .glo "_law_said") (by rfl))
  obtain ⟨fd__law_joined, F__law_joined⟩ := c.def_ 8 (d := d__law_joined) (by rfl)
  have g__law_joined := He.glo_ok X G (c.fact 8 (f := .glo "_law_joined") (by rfl))
  obtain ⟨fd__law_numbers, F__law_numbers⟩ := c.def_ 9 (d := d__law_numbers) (by rfl)
  have g__law_numbers := He.glo_ok X G (c.fact 9 (f := .glo "_law_numbers") (by rfl))
  obtain ⟨fd__law_rolled, F__law_rolled⟩ := c.def_ 10 (d := d__law_rolled) (by rfl)
  have g__law_rolled := He.glo_ok X G (c.fact 10 (f := .glo "_law_rolled") (by rfl))
  obtain ⟨fd_are_counts, F_are_counts⟩ := c.def_ 11 (d := d_are_counts) (by rfl)
  have g_are_counts := He.glo_ok X G (c.fact 11 (f := .glo "are_counts") (by rfl))
  obtain ⟨fd_is_spot, F_is_spot⟩ := c.def_ 12 (d := d_is_spot) (by rfl)
  have g_is_spot := He.glo_ok X G (c.fact 12 (f := .glo "is_spot") (by rfl))
  obtain ⟨fd_need_wheel, F_need_wheel⟩ := c.def_ 13 (d := d_need_wheel) (by rfl)
  have g_need_wheel := He.glo_ok X G (c.fact 13 (f := .glo "need_wheel") (by rfl))
  obtain ⟨fd_own_lot_of, F_own_lot_of⟩ := c.def_ 14 (d := d_own_lot_of) (by rfl)
  have g_own_lot_of := He.glo_ok X G (c.fact 14 (f := .glo "own_lot_of") (by rfl))
  obtain ⟨fd_own_way, F_own_way⟩ := c.def_ 15 (d := d_own_way) (by rfl)
  have g_own_way := He.glo_ok X G (c.fact 15 (f := .glo "own_way") (by rfl))
  obtain ⟨fd__law_rims, F__law_rims⟩ := c.def_ 16 (d := d__law_rims) (by rfl)
  have g__law_rims := He.glo_ok X G (c.fact 16 (f := .glo "_law_rims") (by rfl))
  obtain ⟨fd_is_touch, F_is_touch⟩ := c.def_ 17 (d := d_is_touch) (by rfl)
  have g_is_touch := He.glo_ok X G (c.fact 17 (f := .glo "is_touch") (by rfl))
  obtain ⟨fd_own_web, F_own_web⟩ := c.def_ 18 (d := d_own_web) (by rfl)
  have g_own_web := He.glo_ok X G (c.fact 18 (f := .glo "own_web") (by rfl))
  obtain ⟨fd_need_spot, F_need_spot⟩ := c.def_ 19 (d := d_need_spot) (by rfl)
  have g_need_spot := He.glo_ok X G (c.fact 19 (f := .glo "need_spot") (by rfl))
  obtain ⟨fd__law_machine, F__law_machine⟩ := c.def_ 20 (d := d__law_machine) (by rfl)
  have g__law_machine := He.glo_ok X G (c.fact 20 (f := .glo "_law_machine") (by rfl))
  obtain ⟨fd_touches_misfit, F_touches_misfit⟩ := c.def_ 21 (d := d_touches_misfit) (by rfl)
  have g_touches_misfit := He.glo_ok X G (c.fact 21 (f := .glo "touches_misfit") (by rfl))
  obtain ⟨fd_need_machine, F_need_machine⟩ := c.def_ 22 (d := d_need_machine) (by rfl)
  have g_need_machine := He.glo_ok X G (c.fact 22 (f := .glo "need_machine") (by rfl))
  obtain ⟨fd_lots, F_lots⟩ := c.def_ 23 (d := d_lots) (by rfl)
  have g_lots := He.glo_ok X G (c.fact 23 (f := .glo "lots") (by rfl))
  obtain ⟨fd_lot_of, F_lot_of⟩ := c.def_ 24 (d := d_lot_of) (by rfl)
  have g_lot_of := He.glo_ok X G (c.fact 24 (f := .glo "lot_of") (by rfl))
  obtain ⟨fd_web, F_web⟩ := c.def_ 25 (d := d_web) (by rfl)
  have g_web := He.glo_ok X G (c.fact 25 (f := .glo "web") (by rfl))
  obtain ⟨fd_way_from, F_way_from⟩ := c.def_ 26 (d := d_way_from) (by rfl)
  have g_way_from := He.glo_ok X G (c.fact 26 (f := .glo "way_from") (by rfl))
  obtain ⟨fd_ways_to, F_ways_to⟩ := c.def_ 27 (d := d_ways_to) (by rfl)
  have g_ways_to := He.glo_ok X G (c.fact 27 (f := .glo "ways_to") (by rfl))
  obtain ⟨fd__law_right, F__law_right⟩ := c.def_ 28 (d := d__law_right) (by rfl)
  have g__law_right := He.glo_ok X G (c.fact 28 (f := .glo "_law_right") (by rfl))
  obtain ⟨fd_law, F_law⟩ := c.def_ 29 (d := d_law) (by rfl)
  have g_law := He.glo_ok X G (c.fact 29 (f := .glo "law") (by rfl))
  have mm_WheelError_MissError : exM_WheelError_MissError K = true := ce.1.1.1.1.1.1.1.1.1.2
  unfold exM_WheelError_MissError at mm_WheelError_MissError
  simp only [Bool.and_eq_true, decide_eq_true_eq] at mm_WheelError_MissError
  have m_WheelError_MissError : ExM (gm K) K mg "WheelError" "MissError" [0, 1] := ⟨⟨_, _, (He.glo_ok X G (c.fact 49 (f := .glo "WheelError") (by rfl))), (He.glo_ok X G (c.fact 50 (f := .glo "MissError") (by rfl))), fun c h => by
    simp only [List.mem_cons, List.not_mem_nil, or_false] at h
    rcases h with rfl | rfl
    · exact mm_WheelError_MissError.1
    · exact mm_WheelError_MissError.2
    ⟩⟩
  have oo_BadLoad : exO_BadLoad K = true := ce.1.1.1.1.1.1.1.1.2
  unfold exO_BadLoad at oo_BadLoad
  simp only [Bool.and_eq_true, decide_eq_true_eq] at oo_BadLoad
  have o_BadLoad : ExO (gm K) K mg "BadLoad" [(0, false), (1, false)] := ⟨⟨_, (He.glo_ok X G (c.fact 51 (f := .glo "BadLoad") (by rfl))), fun c b h => by
    rcases look_or h with ⟨rfl, rfl⟩ | h
    · exact ⟨excC_ok (oo_BadLoad.1).1, (oo_BadLoad.1).2⟩
    rcases look_or h with ⟨rfl, rfl⟩ | h
    · exact ⟨excC_ok (oo_BadLoad.2).1, (oo_BadLoad.2).2⟩
    cases h⟩⟩
  have oo_BadMachine : exO_BadMachine K = true := ce.1.1.1.1.1.1.1.2
  unfold exO_BadMachine at oo_BadMachine
  simp only [Bool.and_eq_true, decide_eq_true_eq] at oo_BadMachine
  have o_BadMachine : ExO (gm K) K mg "BadMachine" [(0, false), (1, false)] := ⟨⟨_, (He.glo_ok X G (c.fact 52 (f := .glo "BadMachine") (by rfl))), fun c b h => by
    rcases look_or h with ⟨rfl, rfl⟩ | h
    · exact ⟨excC_ok (oo_BadMachine.1).1, (oo_BadMachine.1).2⟩
    rcases look_or h with ⟨rfl, rfl⟩ | h
    · exact ⟨excC_ok (oo_BadMachine.2).1, (oo_BadMachine.2).2⟩
    cases h⟩⟩
  have oo_BadPaper : exO_BadPaper K = true := ce.1.1.1.1.1.1.2
  unfold exO_BadPaper at oo_BadPaper
  simp only [Bool.and_eq_true, decide_eq_true_eq] at oo_BadPaper
  have o_BadPaper : ExO (gm K) K mg "BadPaper" [(0, false), (1, false)] := ⟨⟨_, (He.glo_ok X G (c.fact 53 (f := .glo "BadPaper") (by rfl))), fun c b h => by
    rcases look_or h with ⟨rfl, rfl⟩ | h
    · exact ⟨excC_ok (oo_BadPaper.1).1, (oo_BadPaper.1).2⟩
    rcases look_or h with ⟨rfl, rfl⟩ | h
    · exact ⟨excC_ok (oo_BadPaper.2).1, (oo_BadPaper.2).2⟩
    cases h⟩⟩
  have oo_BadSpot : exO_BadSpot K = true := ce.1.1.1.1.1.2
  unfold exO_BadSpot at oo_BadSpot
  simp only [Bool.and_eq_true, decide_eq_true_eq] at oo_BadSpot
  have o_BadSpot : ExO (gm K) K mg "BadSpot" [(0, false), (1, false)] := ⟨⟨_, (He.glo_ok X G (c.fact 54 (f := .glo "BadSpot") (by rfl))), fun c b h => by
    rcases look_or h with ⟨rfl, rfl⟩ | h
    · exact ⟨excC_ok (oo_BadSpot.1).1, (oo_BadSpot.1).2⟩
    rcases look_or h with ⟨rfl, rfl⟩ | h
    · exact ⟨excC_ok (oo_BadSpot.2).1, (oo_BadSpot.2).2⟩
    cases h⟩⟩
  have oo_NoTouch : exO_NoTouch K = true := ce.1.1.1.1.2
  unfold exO_NoTouch at oo_NoTouch
  simp only [Bool.and_eq_true, decide_eq_true_eq] at oo_NoTouch
  have o_NoTouch : ExO (gm K) K mg "NoTouch" [(0, false), (1, true)] := ⟨⟨_, (He.glo_ok X G (c.fact 48 (f := .glo "NoTouch") (by rfl))), fun c b h => by
    rcases look_or h with ⟨rfl, rfl⟩ | h
    · exact ⟨excC_ok (oo_NoTouch.1).1, (oo_NoTouch.1).2⟩
    rcases look_or h with ⟨rfl, rfl⟩ | h
    · exact ⟨excC_ok (oo_NoTouch.2).1, (oo_NoTouch.2).2⟩
    cases h⟩⟩
  have oo_OutOfPlace : exO_OutOfPlace K = true := ce.1.1.1.2
  unfold exO_OutOfPlace at oo_OutOfPlace
  simp only [Bool.and_eq_true, decide_eq_true_eq] at oo_OutOfPlace
  have o_OutOfPlace : ExO (gm K) K mg "OutOfPlace" [(0, true), (1, false)] := ⟨⟨_, (He.glo_ok X G (c.fact 47 (f := .glo "OutOfPlace") (by rfl))), fun c b h => by
    rcases look_or h with ⟨rfl, rfl⟩ | h
    · exact ⟨excC_ok (oo_OutOfPlace.1).1, (oo_OutOfPlace.1).2⟩
    rcases look_or h with ⟨rfl, rfl⟩ | h
    · exact ⟨excC_ok (oo_OutOfPlace.2).1, (oo_OutOfPlace.2).2⟩
    cases h⟩⟩
  have ii_LookupError : exI_LookupError K = true := ce.1.1.2
  unfold exI_LookupError at ii_LookupError
  simp only [Bool.and_eq_true, decide_eq_true_eq] at ii_LookupError
  have i_LookupError : ∀ c b, List.lookup c ([(0, false), (1, true)] : List (Nat × Bool)) = some b → ExI (gm K) K c (.type "LookupError") b := fun c b h => by
    rcases look_or h with ⟨rfl, rfl⟩ | h
    · exact ⟨excC_ok (ii_LookupError.1).1, (ii_LookupError.1).2⟩
    rcases look_or h with ⟨rfl, rfl⟩ | h
    · exact ⟨excC_ok (ii_LookupError.2).1, (ii_LookupError.2).2⟩
    cases h
  have ii_ValueError : exI_ValueError K = true := ce.1.2
  unfold exI_ValueError at ii_ValueError
  simp only [Bool.and_eq_true, decide_eq_true_eq] at ii_ValueError
  have i_ValueError : ∀ c b, List.lookup c ([(0, true), (1, false)] : List (Nat × Bool)) = some b → ExI (gm K) K c (.type "ValueError") b := fun c b h => by
    rcases look_or h with ⟨rfl, rfl⟩ | h
    · exact ⟨excC_ok (ii_ValueError.1).1, (ii_ValueError.1).2⟩
    rcases look_or h with ⟨rfl, rfl⟩ | h
    · exact ⟨excC_ok (ii_ValueError.2).1, (ii_ValueError.2).2⟩
    cases h
  have tt_BadRule_BadReadings_TooGreat_Never : exT_BadRule_BadReadings_TooGreat_Never K = true := ce.2
  unfold exT_BadRule_BadReadings_TooGreat_Never at tt_BadRule_BadReadings_TooGreat_Never
  simp only [Bool.and_eq_true, decide_eq_true_eq] at tt_BadRule_BadReadings_TooGreat_Never
  have t_BadRule_BadReadings_TooGreat_Never : ExT (gm K) K mg "BadRule" "BadReadings" "TooGreat" "Never" [(0, false), (1, false)] := ⟨⟨_, _, _, _, (He.glo_ok X G (c.fact 55 (f := .glo "BadRule") (by rfl))), (He.glo_ok X G (c.fact 56 (f := .glo "BadReadings") (by rfl))), (He.glo_ok X G (c.fact 57 (f := .glo "TooGreat") (by rfl))), (He.glo_ok X G (c.fact 58 (f := .glo "Never") (by rfl))), fun c b h => by
    rcases look_or h with ⟨rfl, rfl⟩ | h
    · exact ⟨excC_ok (tt_BadRule_BadReadings_TooGreat_Never.1).1, (tt_BadRule_BadReadings_TooGreat_Never.1).2⟩
    rcases look_or h with ⟨rfl, rfl⟩ | h
    · exact ⟨excC_ok (tt_BadRule_BadReadings_TooGreat_Never.2).1, (tt_BadRule_BadReadings_TooGreat_Never.2).2⟩
    cases h⟩⟩
  have T : Txt (gm K) K mg := ⟨He.free_ok X G (c.fact 30 (f := .free "LookupError") (by rfl)), He.free_ok X G (c.fact 31 (f := .free "ValueError") (by rfl)), He.free_ok X G (c.fact 32 (f := .free "all") (by rfl)), He.free_ok X G (c.fact 33 (f := .free "bool") (by rfl)), He.free_ok X G (c.fact 34 (f := .free "enumerate") (by rfl)), He.free_ok X G (c.fact 35 (f := .free "int") (by rfl)), He.free_ok X G (c.fact 36 (f := .free "isinstance") (by rfl)), He.free_ok X G (c.fact 37 (f := .free "len") (by rfl)), He.free_ok X G (c.fact 38 (f := .free "list") (by rfl)), He.free_ok X G (c.fact 39 (f := .free "max") (by rfl)), He.free_ok X G (c.fact 40 (f := .free "min") (by rfl)), He.free_ok X G (c.fact 41 (f := .free "range") (by rfl)), He.free_ok X G (c.fact 42 (f := .free "repr") (by rfl)), He.free_ok X G (c.fact 43 (f := .free "set") (by rfl)), He.free_ok X G (c.fact 44 (f := .free "sorted") (by rfl)), He.free_ok X G (c.fact 45 (f := .free "sum") (by rfl)), He.free_ok X G (c.fact 46 (f := .free "tuple") (by rfl)), excV_ok ce.1.1.1.1.1.1.1.1.1.1.1 (He.glo_ok X G (c.fact 47 (f := .glo "OutOfPlace") (by rfl))) rfl, excB_ok ce.1.1.1.1.1.1.1.1.1.1.2 (He.glo_ok X G (c.fact 48 (f := .glo "NoTouch") (by rfl))) rfl, m_WheelError_MissError, o_BadLoad, o_BadMachine, o_BadPaper, o_BadSpot, o_NoTouch, o_OutOfPlace, i_LookupError, i_ValueError, t_BadRule_BadReadings_TooGreat_Never, gl_int (He.int_ok X G (c.fact 59 (f := .int "MOST_CELLS" 30) (by rfl))), gl_int (He.int_ok X G (c.fact 60 (f := .int "MOST_TOUCHES" 8) (by rfl))), gl_int (He.int_ok X G (c.fact 61 (f := .int "MOST_WHEELS" 16) (by rfl)))⟩
  have e := hfa.symm.trans g_law
  cases e
  have b := FunD.bindsA (ps := ["script"]) F_law fun _ _ _ _ _ _ us hl => match us, hl with | [_], _ => rfl
  refine ⟨fd_law, fun s v => b s [v] rfl, fun base _ _ hTB => ?_⟩
  have LB_law := lamF_of (base := base) (T := T0 K) (q := ("law" : Str) ++ ".<locals>." ++ "<lambda>") (p := ("law", none)) F_law (hTB _ (List.mem_map.mpr ⟨("law", none), List.Mem.head _, rfl⟩)) (List.Mem.head _) (fun p hp _ => by rw [List.mem_singleton.mp hp])
  have C_is_whole : Cal (gm K) P wd K mg base 1 "is_whole" 1 [] R_is_whole := ok_is_whole T  F_is_whole g_is_whole
  have C_own_lots : Cal (gm K) P wd K mg base 1 "own_lots" 1 [] R_own_lots := ok_own_lots T  F_own_lots g_own_lots
  have C_touches_at : Cal (gm K) P wd K mg base 1 "touches_at" 1 [] R_touches_at := ok_touches_at T  F_touches_at g_touches_at
  have C_met_from : Cal (gm K) P wd K mg base 1 "met_from" 4 [] R_met_from := ok_met_from T  F_met_from g_met_from
  have C__law_begun : Cal (gm K) P wd K mg base 1 "_law_begun" 1 [] R__law_begun := ok__law_begun T  F__law_begun g__law_begun
  have C__law_next : Cal (gm K) P wd K mg base 1 "_law_next" 2 [] R__law_next := ok__law_next T  F__law_next g__law_next
  have C__law_places : Cal (gm K) P wd K mg base 1 "_law_places" 1 [] R__law_places := ok__law_places T  F__law_places g__law_places
  have CD__law_said : CalD (gm K) P wd K mg base 1 "_law_said" "deed" (R__law_said (gm K).ca) := cd__law_said T  F__law_said g__law_said
  have C__law_joined : Cal (gm K) P wd K mg base 1 "_law_joined" 1 [] R__law_joined := ok__law_joined T  F__law_joined g__law_joined
  have C__law_numbers : Cal (gm K) P wd K mg base 1 "_law_numbers" 1 [] R__law_numbers := ok__law_numbers T  F__law_numbers g__law_numbers
  have C__law_rolled : Cal (gm K) P wd K mg base 1 "_law_rolled" 3 [] R__law_rolled := ok__law_rolled T  F__law_rolled g__law_rolled
  have C_are_counts : Cal (gm K) P wd K mg base 2 "are_counts" 1 [] R_are_counts := ok_are_counts T C_is_whole F_are_counts g_are_counts
  have C_is_spot : Cal (gm K) P wd K mg base 2 "is_spot" 2 [] R_is_spot := ok_is_spot T C_is_whole F_is_spot g_is_spot
  have C_need_wheel : Cal (gm K) P wd K mg base 2 "need_wheel" 2 [] R_need_wheel := ok_need_wheel T C_is_whole F_need_wheel g_need_wheel
  have C_own_lot_of : Cal (gm K) P wd K mg base 2 "own_lot_of" 2 [] R_own_lot_of := ok_own_lot_of T C_own_lots F_own_lot_of g_own_lot_of
  have C_own_way : Cal (gm K) P wd K mg base 2 "own_way" 3 [] R_own_way := ok_own_way T C_met_from F_own_way g_own_way
  have C__law_rims : Cal (gm K) P wd K mg base 2 "_law_rims" 1 [] R__law_rims := ok__law_rims T C__law_next F__law_rims g__law_rims
  have C_is_touch : Cal (gm K) P wd K mg base 3 "is_touch" 2 [] R_is_touch := ok_is_touch T C_is_spot F_is_touch g_is_touch
  have C_own_web : Cal (gm K) P wd K mg base 3 "own_web" 1 [] R_own_web := ok_own_web T C_touches_at C_own_way F_own_web g_own_web
  have C_need_spot : Cal (gm K) P wd K mg base 3 "need_spot" 2 [] R_need_spot := ok_need_spot T C_is_spot F_need_spot g_need_spot
  have C__law_machine : Cal (gm K) P wd K mg base 3 "_law_machine" 1 [] R__law_machine := ok__law_machine T C__law_rims C__law_places C__law_next F__law_machine g__law_machine
  have C_touches_misfit : Cal (gm K) P wd K mg base 4 "touches_misfit" 2 [] R_touches_misfit := ok_touches_misfit T C_is_touch F_touches_misfit g_touches_misfit
  have C_need_machine : Cal (gm K) P wd K mg base 5 "need_machine" 1 [] R_need_machine := ok_need_machine T C_are_counts C_touches_misfit F_need_machine g_need_machine
  have C_lots : Cal (gm K) P wd K mg base 6 "lots" 1 [] R_lots := ok_lots T C_need_machine C_own_lots F_lots g_lots
  have CK_lots := okk_lots (base := base) (P := P) (wd := wd) T C_need_machine C_own_lots F_lots g_lots
  have C_lot_of : Cal (gm K) P wd K mg base 6 "lot_of" 2 [] R_lot_of := ok_lot_of T C_need_machine C_need_wheel C_own_lot_of F_lot_of g_lot_of
  have C_web : Cal (gm K) P wd K mg base 6 "web" 1 [] R_web := ok_web T C_need_machine C_own_web F_web g_web
  have C_way_from : Cal (gm K) P wd K mg base 6 "way_from" 2 [] R_way_from := ok_way_from T C_need_machine C_need_spot C_touches_at C_own_way F_way_from g_way_from
  have C_ways_to : Cal (gm K) P wd K mg base 6 "ways_to" 2 [] R_ways_to := ok_ways_to T C_need_machine C_is_whole C_own_web F_ways_to g_ways_to
  have C__law_right : CalG (gm K) P wd K mg base 7 "_law_right" 1 R__law_right := ok__law_right T C__law_numbers C__law_joined C_lots CK_lots C_lot_of C__law_rolled C_web C_way_from C_ways_to F__law_right g__law_right
  exact fo_law T C__law_begun C__law_machine C__law_places C__law_numbers C__law_right CD__law_said C_way_from F_law LB_law
theorem good0 {K : PySem.W.Frag} {H : Hp} (hT : ∀ p ∈ csL K, H p.2 = some (.tbl #[])) : Good (gm K) K ⟨[], [], H⟩ := by
  refine ⟨rfl, List.nodup_nil, fun a h => (by cases h), fun n a c h => (by cases h), fun p hp => ?_, trivial⟩
  simp only [T0, List.mem_cons, List.not_mem_nil, or_false] at hp
  obtain rfl := hp
  exact LamX.TabS.nil (hT _ (List.mem_map.mpr ⟨("law", none), List.Mem.head _, rfl⟩))
theorem im0 {H : Hp} {a : Addr} {o : HO} (h : H a = some o) (ht : ∀ ps, o ≠ .tbl ps) : (Wd.mk [] [] H).im a = some o :=
  Wd.im_of (w := ⟨[], [], H⟩) h (fun ⟨n, c, e, _⟩ => by cases e) ht
theorem dpInts {K : PySem.W.Frag} {H : Hp} : ∀ ns : List Int, DpAll K H (ns.map V.int) (ns.map PyData.int)
  | [] => .nil
  | n :: r => .cons (.int n) (dpInts r)
theorem sp_law {K : PySem.W.Frag} {H : Hp} {a : Addr} {ns : List Int} (hl : ns.length ≤ 63) (hT : ∀ p ∈ csL K, H p.2 = some (.tbl #[])) (hS : SqL K H a (ns.map V.int)) : spOf (gm K) K 1 (R_law (gm K).ca) [.ref a] H (fun v _ => v = .bl true) fun _ _ _ => False := by
  obtain ⟨S', e⟩ := law_true (gm K).ca ns hl
  have hS' : SqL K (Wd.mk [] [] H).im a (ns.map V.int) := by
    rcases hS with h | h
    · rcases h with h | ⟨o, h⟩
      · exact .inl (.inl (im0 h fun ps z => by cases z))
      · exact .inl (.inr ⟨o, im0 h fun ps z => by cases z⟩)
    · exact .inr h
  refine ⟨rfl, ⟨[], [], H⟩, [.d (.list (ns.map PyData.int))], rfl, good0 hT, .cons (show Dp K _ _ _ from .lst hS' (dpInts ns)) .nil, ?_⟩
  show Post (gm K) K (RW K) ⟨[], [], H⟩ [] _ ((R_law (gm K).ca) _ []) _
  rw [e]
  intro w1 v _ _ _ r
  cases (show Dp K w1.im v (.bool true) from r)
  rfl
end G
open PySem PySem.W PySem.Calls PyProof.Rows
theorem PySem.Challenge.cw_evenwheels_k10_ways_and_lots_holds : PySem.Challenge.rw_evenwheels_k10_ways_and_lots.Holds := by
  w_on; o_law
  refine HandSHeadRun.head_any (r := OpenLaw.row PySem.Challenge.rw_evenwheels_k10_ways_and_lots) (q := view (OpenLaw.row PySem.Challenge.rw_evenwheels_k10_ways_and_lots).prog [49]) (H := G.hk) (ob := G.ob) (M := 40000) (loose := G.lo) (d := HandSHeadRun.topDef (OpenLaw.row PySem.Challenge.rw_evenwheels_k10_ways_and_lots).prog 49) (kwd := []) G.ob_eq
    (by kernel_rfl) (fun s => by kernel_rfl) G.run (by kernel_rfl) (by kernel_rfl) (by kernel_rfl) (by rfl) (by first | assumption | decide +kernel) (by decide +kernel) ⟨rfl, rfl, rfl, rfl, rfl, by decide +kernel⟩ ?hw ?hc
  case hw => w_witness2
  case hc =>
    refine G.end_lawT (l := PySem.Challenge.rw_evenwheels_k10_ways_and_lots) (n := 63) (k := 9) (x := "script") rfl (by decide) (by kernel_rfl) ⟨rfl, by decide, by decide⟩ ?F
    case F =>
      intro w mg fa h Y G0 hmg0
      obtain ⟨K, KX, c⟩ := Y
      have hmg : mg ("law" : PySem.Str) = some (.ref fa) := by
        have e : (HandSHeadRun.topDef (OpenLaw.row PySem.Challenge.rw_evenwheels_k10_ways_and_lots).prog 49).name = ("law" : PySem.Str) := by kernel_rfl
        rw [← e]
        exact hmg0
      obtain ⟨fd, hb, hF⟩ := G.facts (P := (PySem.Challenge.rw_evenwheels_k10_ways_and_lots).prog) (wd := w) KX G0 hmg c.t.d c.more
      exact ⟨K, fd, G.spOf (G.gm K) K 1 (G.R_law (G.gm K).ca), G.csL K, KX, (fun p hp => by obtain ⟨q, hq, rfl⟩ := List.mem_map.mp hp; exact c.empty q hq), (fun p hp => by obtain ⟨q, hq, rfl⟩ := List.mem_map.mp hp; exact c.out q hq), (fun p hp => by obtain ⟨q, hq, rfl⟩ := List.mem_map.mp hp; exact c.hd q hq), hb, (fun H a ns hl hT hS => G.sp_law hl hT hS), (fun base hK hG hTB => hF base hK hG hTB)⟩
