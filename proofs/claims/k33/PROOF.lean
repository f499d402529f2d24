import PyProof.Rows.All
import Wide.All
import OpenK.AllK
import Wide.FinOn
import KE.KStateDown
import Lean
import HandS.Base
import HandS.Call
import HandS.Ends
import HandS.More
import HandS.Words
import HandS.WordsExc
import HandS.Defaults
import HandS.Head0
import HandS.Head1
import HandS.Head2
import HandS.HeadEnd
import HandS.HeadHook1
import HandS.HeadHook2
import HandS.HeadHook3
import HandS.HeadHook4
import HandS.HeadWalk
import HandS.ForMost
import HandS.ForExc
import HandS.Wide
import HandS.Walk
import HandS.Zip
import HandS.IsInst
import HandS.TupAny
import HandS.TupMul
import HandS.Deep
import KE.DataCmp
import KE.DataMinMax
import KE.SortData
import KE.GoesNew
import HandS.Style
import HandS.CallSlots
import HandS.ExcOwn
import HandS.List
import HandS.TryOnly
import HandS.Conv
import HandS.Iter
import PyProof.SliceSyntax
import PyProof.Rows.TupMore
import HandS.EndBits
import HandS.EndTab
import PyProof.ReprRoads
import PyProof.ReprLen
import KE.KDictPairs
import PyProof.Rows.TupTab
import HandS.Small
import HandS.Strs
import HandS.SetFor
import HandS.WordsDict
import PyProof.DictUpdate
import PyProof.SliceList
import HandS.DictTup
import HandS.SetKeys
import HandS.TupSets
import KE.KDictWalk
import HandS.TupLen
import HandS.Lambda
import HandS.ExcIs
import HandS.ExcField
import HandS.ExcValue
import KE.KTryMore
import KE.SortKeyHeap
import PyProof.Rows.CallKwBuiltin
import PyProof.Rows.CallKw2
import HandS.NestedK
import KE.KDictCopyH
import PyProof.Rows.CountFlat
import PyProof.SumWalkG
import PyProof.Rows.SeqMore
import KE.KDictZip
import HandS.MapObj
import PyProof.Rows.ReprOcc
import PySem.Challenge.RW_evenwheels_k33_out_rows
set_option Elab.async false
set_option linter.all false
set_option maxRecDepth 100000
set_option maxHeartbeats 0
namespace G
open PySem PySem.Spec PyProof.Rows L2
abbrev mods : List Stmt := PySem.Challenge.pw_evenwheels_k33_out_rows.main.body
abbrev s_is_whole : Stmt := mods.getD 6 (.Pass ⟨0, 0, 0, 0⟩)
abbrev s_common : Stmt := mods.getD 7 (.Pass ⟨0, 0, 0, 0⟩)
abbrev s_is_nought : Stmt := mods.getD 12 (.Pass ⟨0, 0, 0, 0⟩)
abbrev s__law_mixed : Stmt := mods.getD 18 (.Pass ⟨0, 0, 0, 0⟩)
abbrev s__law_draw : Stmt := mods.getD 19 (.Pass ⟨0, 0, 0, 0⟩)
abbrev s__law_lowest : Stmt := mods.getD 21 (.Pass ⟨0, 0, 0, 0⟩)
abbrev s__law_cut : Stmt := mods.getD 24 (.Pass ⟨0, 0, 0, 0⟩)
abbrev s_is_fraction : Stmt := mods.getD 8 (.Pass ⟨0, 0, 0, 0⟩)
abbrev s_lowest : Stmt := mods.getD 9 (.Pass ⟨0, 0, 0, 0⟩)
abbrev s__law_digit : Stmt := mods.getD 20 (.Pass ⟨0, 0, 0, 0⟩)
abbrev s__law_plus : Stmt := mods.getD 22 (.Pass ⟨0, 0, 0, 0⟩)
abbrev s__law_times : Stmt := mods.getD 23 (.Pass ⟨0, 0, 0, 0⟩)
abbrev s__law_over : Stmt := mods.getD 26 (.Pass ⟨0, 0, 0, 0⟩)
abbrev s_less : Stmt := mods.getD 10 (.Pass ⟨0, 0, 0, 0⟩)
abbrev s_times : Stmt := mods.getD 11 (.Pass ⟨0, 0, 0, 0⟩)
abbrev s_over : Stmt := mods.getD 13 (.Pass ⟨0, 0, 0, 0⟩)
abbrev s_need_polynomial : Stmt := mods.getD 15 (.Pass ⟨0, 0, 0, 0⟩)
abbrev s__law_multiplied : Stmt := mods.getD 25 (.Pass ⟨0, 0, 0, 0⟩)
abbrev s__law_less : Stmt := mods.getD 27 (.Pass ⟨0, 0, 0, 0⟩)
abbrev s__law_small : Stmt := mods.getD 29 (.Pass ⟨0, 0, 0, 0⟩)
abbrev s_out_row : Stmt := mods.getD 16 (.Pass ⟨0, 0, 0, 0⟩)
abbrev s__law_row : Stmt := mods.getD 28 (.Pass ⟨0, 0, 0, 0⟩)
abbrev s__law_part : Stmt := mods.getD 30 (.Pass ⟨0, 0, 0, 0⟩)
abbrev s__law_right : Stmt := mods.getD 31 (.Pass ⟨0, 0, 0, 0⟩)
abbrev s_law : Stmt := mods.getD 32 (.Pass ⟨0, 0, 0, 0⟩)
def d_is_whole : He.DefD := ⟨("is_whole", none), "is_whole", "is_whole", defArgs s_is_whole, defBody s_is_whole, defScope s_is_whole, [], []⟩
def d_common : He.DefD := ⟨("common", none), "common", "common", defArgs s_common, defBody s_common, defScope s_common, [], []⟩
def d_is_nought : He.DefD := ⟨("is_nought", none), "is_nought", "is_nought", defArgs s_is_nought, defBody s_is_nought, defScope s_is_nought, [], []⟩
def d__law_mixed : He.DefD := ⟨("_law_mixed", none), "_law_mixed", "_law_mixed", defArgs s__law_mixed, defBody s__law_mixed, defScope s__law_mixed, [], []⟩
def d__law_draw : He.DefD := ⟨("_law_draw", none), "_law_draw", "_law_draw", defArgs s__law_draw, defBody s__law_draw, defScope s__law_draw, [], []⟩
def d__law_lowest : He.DefD := ⟨("_law_lowest", none), "_law_lowest", "_law_lowest", defArgs s__law_lowest, defBody s__law_lowest, defScope s__law_lowest, [], []⟩
def d__law_cut : He.DefD := ⟨("_law_cut", none), "_law_cut", "_law_cut", defArgs s__law_cut, defBody s__law_cut, defScope s__law_cut, [], []⟩
def d_is_fraction : He.DefD := ⟨("is_fraction", none), "is_fraction", "is_fraction", defArgs s_is_fraction, defBody s_is_fraction, defScope s_is_fraction, [], []⟩
def d_lowest : He.DefD := ⟨("lowest", none), "lowest", "lowest", defArgs s_lowest, defBody s_lowest, defScope s_lowest, [], []⟩
def d__law_digit : He.DefD := ⟨("_law_digit", none), "_law_digit", "_law_digit", defArgs s__law_digit, defBody s__law_digit, defScope s__law_digit, [], []⟩
def d__law_plus : He.DefD := ⟨("_law_plus", none), "_law_plus", "_law_plus", defArgs s__law_plus, defBody s__law_plus, defScope s__law_plus, [], []⟩
def d__law_times : He.DefD := ⟨("_law_times", none), "_law_times", "_law_times", defArgs s__law_times, defBody s__law_times, defScope s__law_times, [], []⟩
def d__law_over : He.DefD := ⟨("_law_over", none), "_law_over", "_law_over", defArgs s__law_over, defBody s__law_over, defScope s__law_over, [], []⟩
def d_less : He.DefD := ⟨("less", none), "less", "less", defArgs s_less, defBody s_less, defScope s_less, [], []⟩
def d_times : He.DefD := ⟨("times", none), "times", "times", defArgs s_times, defBody s_times, defScope s_times, [], []⟩
def d_over : He.DefD := ⟨("over", none), "over", "over", defArgs s_over, defBody s_over, defScope s_over, [], []⟩
def d_need_polynomial : He.DefD := ⟨("need_polynomial", none), "need_polynomial", "need_polynomial", defArgs s_need_polynomial, defBody s_need_polynomial, defScope s_need_polynomial, [], []⟩
def d__law_multiplied : He.DefD := ⟨("_law_multiplied", none), "_law_multiplied", "_law_multiplied", defArgs s__law_multiplied, defBody s__law_multiplied, defScope s__law_multiplied, [], []⟩
def d__law_less : He.DefD := ⟨("_law_less", none), "_law_less", "_law_less", defArgs s__law_less, defBody s__law_less, defScope s__law_less, [], []⟩
def d__law_small : He.DefD := ⟨("_law_small", none), "_law_small", "_law_small", defArgs s__law_small, defBody s__law_small, defScope s__law_small, [], []⟩
def d_out_row : He.DefD := ⟨("out_row", none), "out_row", "out_row", defArgs s_out_row, defBody s_out_row, defScope s_out_row, [], []⟩
def d__law_row : He.DefD := ⟨("_law_row", none), "_law_row", "_law_row", defArgs s__law_row, defBody s__law_row, defScope s__law_row, [], []⟩
def d__law_part : He.DefD := ⟨("_law_part", none), "_law_part", "_law_part", defArgs s__law_part, defBody s__law_part, defScope s__law_part, [], []⟩
def d__law_right : He.DefD := ⟨("_law_right", none), "_law_right", "_law_right", defArgs s__law_right, defBody s__law_right, defScope s__law_right, [], []⟩
def d_law : He.DefD := ⟨("law", none), "law", "law", defArgs s_law, defBody s_law, defScope s_law, [], []⟩
def fn0 : List He.DefD := [d_is_whole, d_common, d_is_nought, d__law_mixed, d__law_draw, d__law_lowest, d__law_cut, d_is_fraction, d_lowest, d__law_digit, d__law_plus, d__law_times, d__law_over, d_less, d_times, d_over, d_need_polynomial, d__law_multiplied, d__law_less, d__law_small, d_out_row, d__law_row, d__law_part, d__law_right, d_law]
def fn : List He.DefD := fn0
def fa0 : List He.Fa := [.glo "is_whole", .glo "common", .glo "is_nought", .glo "_law_mixed", .glo "_law_draw", .glo "_law_lowest", .glo "_law_cut", .glo "is_fraction", .glo "lowest", .glo "_law_digit", .glo "_law_plus", .glo "_law_times", .glo "_law_over", .glo "less", .glo "times", .glo "over", .glo "need_polynomial", .glo "_law_multiplied", .glo "_law_less", .glo "_law_small", .glo "out_row", .glo "_law_row", .glo "_law_part", .glo "_law_right", .glo "law"]
def fa1 : List He.Fa := [.free "abs", .free "bool", .free "enumerate", .free "int", .free "isinstance", .free "len", .free "list", .free "range", .free "repr", .free "sum", .free "tuple", .free "zip", .glo "ONE"]
def fa : List He.Fa := fa0 ++ fa1
def ex (K : PySem.W.Frag) : Bool := He.tupB K "ONE" [.int 1, .int 1]
def lo0 : List Str := ["WheelError", "BadRule", "OutOfPlace", "ONE", "is_whole", "common", "is_fraction", "lowest", "less", "times", "is_nought", "over", "need_polynomial", "out_row", "_law_mixed", "_law_draw", "_law_digit", "_law_lowest", "_law_plus", "_law_times", "_law_cut", "_law_multiplied", "_law_over", "_law_less", "_law_row"]
def lo1 : List Str := ["_law_small", "_law_part", "_law_right"]
def lo : List Str := lo0 ++ lo1
abbrev R : PySem.W.OpenRow := PySem.W.OpenLaw.row PySem.Challenge.rw_evenwheels_k33_out_rows
abbrev hk : PySem.W.Hook := He.hookX 2 fa fn [] [] ex
def ob (s : PySem.W.SharedT) : He.AlX := He.obsX 2 fa fn [] [] ex (HandSHeadRun.getT s)
theorem ob_eq (s : PySem.W.SharedT) : ob s = hk.obs s.abs := He.obsX_eq (HandSHeadRun.getT_eq s)
theorem run (w : World) : HandSHeadRun.RunEq R (PySem.W.view R.prog [32]) hk ob 40000 lo w := by
  intro os
  kernel_rfl

end G
set_option Elab.async false
set_option linter.all false
set_option maxRecDepth 100000
set_option maxHeartbeats 4000000
/-! G1: a by-value layer over HandS: data as PyData, mutable lists and dicts in a store, expressions and statements as functions -/
namespace G
open PySem PySem.Spec L2
set_option autoImplicit false

/-! ### values, store, outcomes -/
/-- an item of a tuple that holds objects -/
inductive Wi where
  | d (x : PyData)
  | o (n : Nat)
inductive W where
  | d (x : PyData)
  | o (n : Nat)
  | v (x : V)
  /-- data, of tuples that the run has made -/
  | t (x : PyData)
  /-- a tuple of which the object is known; a tuple whose second part is such a one -/
  | u (x : PyData)
  | u2 (x : PyData)
  /-- a tuple that holds objects -/
  | w (xs : List Wi)
  /-- an exception object held as a value: its class, that class's number, its fields -/
  | xc (cls : Addr) (c : Nat) (f : List (Str × PyData))
inductive Cell where
  | lst (ws : List W)
  | dic (kvs : List (Key × W))
  | fz (x : PyData)
  /-- a dict by tuples; one that is written no more -/
  | dit (kvs : List (List Key × W))
  | fd (kvs : List (List Key × W))
  /-- a dict by tuples of numbers, whatever tuples they are; one that is written no more -/
  | dix (kvs : List (List Int × W))
  | fdx (kvs : List (List Int × W))
  /-- a dict by numbers or texts that is written no more -/
  | fk (kvs : List (Key × W))
abbrev Sto := List Cell
structure Exn where
  c : Nat
  f : List (Str × PyData)
inductive Out (α : Type) where
  | ok (a : α) (S : Sto)
  | ex (e : Exn) (S : Sto)
  | bad
abbrev Slt := List (Option W)
abbrev Fe (α : Type) := Slt → Sto → Out α
def Out.bind {α β : Type} (r : Out α) (k : α → Sto → Out β) : Out β := match r with
  | .ok a S => k a S
  | .ex e S => .ex e S
  | .bad => .bad
def ofO {α : Type} (r : Option (α × Sto)) : Out α := match r with
  | some (a, S) => .ok a S
  | none => .bad

@[simp] theorem bind_ok {α β : Type} (a : α) (S : Sto) (k : α → Sto → Out β) : (Out.ok a S).bind k = k a S := id rfl
@[simp] theorem bind_ex {α β : Type} (e : Exn) (S : Sto) (k : α → Sto → Out β) : (Out.ex e S).bind k = .ex e S := id rfl
@[simp] theorem bind_bad {α β : Type} (k : α → Sto → Out β) : (Out.bad : Out α).bind k = .bad := id rfl
@[simp] theorem ofO_some {α : Type} (a : α) (S : Sto) : ofO (some (a, S)) = .ok a S := id rfl
@[simp] theorem ofO_none {α : Type} : ofO (none : Option (α × Sto)) = .bad := id rfl

/-! ### worlds -/
structure Wd where
  μ : List Addr
  S : Sto
  H : Hp
def Cell.live : Cell → Bool
  | .fz _ => false
  | .fd _ => false
  | .fdx _ => false
  | .fk _ => false
  | _ => true
def Wd.live (w : Wd) (a : Addr) : Prop := ∃ (n : Nat) (c : Cell), w.μ[n]? = some a ∧ w.S[n]? = some c ∧ c.live = true
open Classical in
noncomputable def Wd.im (w : Wd) : Hp := fun a => if w.live a then none else match w.H a with
  | some (.tbl _) => none
  | o => o
theorem Wd.im_eq {w : Wd} {a : Addr} (h : ¬ w.live a) (ht : ∀ ps, w.H a ≠ some (.tbl ps)) : w.im a = w.H a := by
  unfold Wd.im
  rw [if_neg h]
  cases e : w.H a with
  | none => rfl
  | some o =>
    cases o <;> first | rfl | exact absurd e (ht _)
theorem Wd.im_some {w : Wd} {a : Addr} {o : HO} (h : w.im a = some o) : w.H a = some o ∧ ¬ w.live a ∧ ∀ ps, o ≠ .tbl ps := by
  unfold Wd.im at h
  by_cases hl : w.live a
  · rw [if_pos hl] at h; cases h
  · rw [if_neg hl] at h
    cases e : w.H a with
    | none => rw [e] at h; cases h
    | some u =>
      rw [e] at h
      cases u <;> first | (cases h; exact ⟨rfl, hl, fun ps q => by cases q⟩) | cases h
theorem Wd.im_of {w : Wd} {a : Addr} {o : HO} (h : w.H a = some o) (hl : ¬ w.live a) (ht : ∀ ps, o ≠ .tbl ps) : w.im a = some o := by
  rw [Wd.im_eq hl (fun ps q => ht ps (Option.some.inj (h.symm.trans q)))]; exact h
theorem im_sub (w : Wd) : Same w.im w.H := fun _ _ h => (Wd.im_some h).1

/-! ### data -/
section
variable {K : PySem.W.Frag} {H H' : Hp}
theorem SqL.mono (h : Same H H') {a : Addr} {xs : List V} (q : SqL K H a xs) : SqL K H' a xs := h.seq q
theorem SqT.mono (h : Same H H') {a : Addr} {xs : List V} (q : SqT K H a xs) : SqT K H' a xs := by
  rcases q with (q | ⟨o, q⟩) | q
  · exact .inl (.inl (h _ _ q))
  · exact .inl (.inr ⟨o, h _ _ q⟩)
  · exact .inr q
mutual
theorem Dp.mono (h : Same H H') : ∀ {v : V} {d : PyData}, Dp K H v d → Dp K H' v d
  | _, _, .non => .non
  | _, _, .bl b => .bl b
  | _, _, .int i => .int i
  | _, _, .str x => .str x
  | _, _, .lst q r => .lst (SqL.mono h q) (DpAll.mono h r)
  | _, _, .tup q r => .tup (SqT.mono h q) (DpAll.mono h r)
theorem DpAll.mono (h : Same H H') : ∀ {v : List V} {d : List PyData}, DpAll K H v d → DpAll K H' v d
  | _, _, .nil => .nil
  | _, _, .cons q r => .cons (Dp.mono h q) (DpAll.mono h r)
end
end
theorem DpAll.paired {K : PySem.W.Frag} {H : Hp} : ∀ {vs : List V} {ds : List PyData}, DpAll K H vs ds → Paired (Dp K H) vs ds
  | _, _, .nil => .nil
  | _, _, .cons q r => .cons q (DpAll.paired r)
theorem DpAll.of {K : PySem.W.Frag} {H : Hp} : ∀ {vs : List V} {ds : List PyData}, Paired (Dp K H) vs ds → DpAll K H vs ds
  | _, _, .nil => .nil
  | _, _, .cons q r => .cons q (DpAll.of r)

/-! ### values in a world -/
def RI (K : PySem.W.Frag) (w : Wd) (v : V) : Wi → Prop
  | .d x => Dp K w.im v x
  | .o n => ∃ a, w.μ[n]? = some a ∧ v = .ref a
/-- an exception object of the class cls at a, its dict d -/
def CtO (cls : Addr) (d : Option Addr) (a : Addr) : HO := .ext fun h => ∃ (oe : Obj) (vs : Array Value), h.get? a = some oe ∧ oe.cls = .ref cls ∧ oe.dict = d ∧ oe.data = .fields vs
def RW (K : PySem.W.Frag) (w : Wd) (v : V) : W → Prop
  | .d x => Dp K w.im v x
  | .o n => ∃ a, w.μ[n]? = some a ∧ v = .ref a
  | .v x => v = x
  | .t x => ∃ b xs ds, v = .ref b ∧ x = .tuple ds ∧ w.im b = some (.tup xs) ∧ DpAll K w.im xs ds
  | .u x => ∃ b xs ds ob, v = .ref b ∧ x = .tuple ds ∧ w.im b = some (.frz ob (.tup xs)) ∧ ob.cls = .type "tuple" ∧ ob.dict = none ∧ DpAll K w.im xs ds
  | .u2 x => ∃ b c v1 d1 ds xs ys ob, v = .ref b ∧ x = .tuple [d1, .tuple ds] ∧ w.im b = some (.tup xs) ∧ xs = [v1, .ref c] ∧ Dp K w.im v1 d1 ∧ w.im c = some (.frz ob (.tup ys)) ∧ ob.cls = .type "tuple" ∧ ob.dict = none ∧ DpAll K w.im ys ds
  | .w xs => ∃ b vs, v = .ref b ∧ w.im b = some (.tup vs) ∧ Paired (RI K w) vs xs
  | .xc cls _ f => ∃ a d, v = .ref a ∧ w.im a = some (CtO cls d a) ∧ (f = [] ∧ d = none ∨ f ≠ [] ∧ ∃ dd us, d = some dd ∧ w.im dd = some (.xd us) ∧ Paired (fun (p : Str × V) (q : Str × PyData) => p.1 = q.1 ∧ Dp K w.im p.2 q.2) us f)
/-- an entry of a dict by tuples of numbers -/
def entX (x : List Int × Addr × Value) : DictEntry := ⟨reduceHash (Builtin.Tuple.tupleHashOf (x.1.map hashInt)), .ref x.2.1, x.2.2⟩
def dxP (a : Addr) (xs : List (List Int × Addr × Value)) (h : Heap) : Prop := ∃ o es ep, h.get? a = some o ∧ o.ExactDict ∧ o.data = .dict es ep ∧ es.toList = xs.map entX ∧ (xs.map (·.1)).Nodup
def XE (K : PySem.W.Frag) (w : Wd) (x : List Int × Addr × Value) (q : List Int × W) : Prop := x.1 = q.1 ∧ SqT K w.im x.2.1 (q.1.map V.int) ∧ ∃ v, RelV v x.2.2 ∧ RW K w v q.2
def CellOk (K : PySem.W.Frag) (w : Wd) (a : Addr) : Cell → Prop
  | .lst ws => ∃ vs, w.H a = some (.lst vs) ∧ Paired (RW K w) vs ws
  | .dic kvs => ∃ us, w.H a = some (.dK us) ∧ Paired (fun (p : Key × V) (q : Key × W) => p.1 = q.1 ∧ RW K w p.2 q.2) us kvs
  | .fz x => ∃ vs ds, x = .list ds ∧ w.H a = some (.lst vs) ∧ DpAll K w.im vs ds
  | .dit kvs => ∃ us, w.H a = some (.dT us) ∧ Paired (fun (p : List Key × V) (q : List Key × W) => p.1 = q.1 ∧ RW K w p.2 q.2) us kvs
  | .fd kvs => ∃ o us, w.H a = some (.frz o (.dT us)) ∧ Paired (fun (p : List Key × V) (q : List Key × W) => p.1 = q.1 ∧ RW K w p.2 q.2) us kvs
  | .dix kvs => ∃ xs, w.H a = some (.ext (dxP a xs)) ∧ (a == sysModules) = false ∧ xs.length ≤ 1000000 ∧ Paired (XE K w) xs kvs
  | .fdx kvs => ∃ o xs, w.H a = some (.frz o (.ext (dxP a xs))) ∧ (a == sysModules) = false ∧ xs.length ≤ 1000000 ∧ Paired (XE K w) xs kvs
  | .fk kvs => ∃ o us, w.H a = some (.frz o (.dK us)) ∧ Paired (fun (p : Key × V) (q : Key × W) => p.1 = q.1 ∧ RW K w p.2 q.2) us kvs
structure Wd.le (w w1 : Wd) : Prop where
  im : Same w.im w1.im
  pre : ∃ ν, w1.μ = w.μ ++ ν
theorem Wd.le.refl (w : Wd) : w.le w := ⟨Same.refl _, [], by simp⟩
theorem Wd.le.trans {w w1 w2 : Wd} (a : w.le w1) (b : w1.le w2) : w.le w2 := by
  obtain ⟨ν, e⟩ := a.pre
  obtain ⟨ν', e'⟩ := b.pre
  exact ⟨a.im.trans b.im, ν ++ ν', by rw [e', e, List.append_assoc]⟩
/-- what the proof of a program knows besides: where its classes stand, what must hold of the heap always -/
structure Gm where
  ca : Nat → Addr
  ok : Hp → Prop
  upd : ∀ H p o, (H p = none ∨ (∃ xs, H p = some (.lst xs)) ∨ (∃ kvs, H p = some (.dK kvs)) ∨ (∃ kvs, H p = some (.dT kvs)) ∨ (∃ xs, H p = some (.ext (dxP p xs)))) → ok H → ok (L2.upd H p o)
  /-- what holds of the worlds from some world on -/
  sub : Wd → Prop
  mono : ∀ w w1 : Wd, sub w → w.le w1 → sub w1
structure Good (Γ : Gm) (K : PySem.W.Frag) (w : Wd) : Prop where
  len : w.μ.length = w.S.length
  inj : w.μ.Nodup
  tr : ∀ a ∈ w.μ, ∃ o, w.H a = some o
  cell : ∀ (n : Nat) (a : Addr) (c : Cell), w.μ[n]? = some a → w.S[n]? = some c → CellOk K w a c
  side : Γ.ok w.H
  hold : Γ.sub w
theorem Wd.le.at {w w1 : Wd} (h : w.le w1) {n : Nat} {a : Addr} (e : w.μ[n]? = some a) : w1.μ[n]? = some a := by
  obtain ⟨ν, q⟩ := h.pre
  rw [q]
  have hn := (List.getElem?_eq_some_iff.mp e).1
  rw [List.getElem?_append_left hn]; exact e
section
variable {K : PySem.W.Frag} {w w1 : Wd}
theorem Paired.imp {α β : Type} {F G : α → β → Prop} (h : ∀ a b, F a b → G a b) : ∀ {l : List α} {m : List β}, Paired F l m → Paired G l m
  | _, _, .nil => .nil
  | _, _, .cons q r => .cons (h _ _ q) (Paired.imp h r)
theorem RI.mono (h : w.le w1) {v : V} : ∀ {x : Wi}, RI K w v x → RI K w1 v x
  | .d _, r => Dp.mono h.im r
  | .o _, ⟨a, e, q⟩ => ⟨a, h.at e, q⟩
theorem RW.mono (h : w.le w1) {v : V} : ∀ {x : W}, RW K w v x → RW K w1 v x
  | .d _, r => Dp.mono h.im r
  | .o _, ⟨a, e, q⟩ => ⟨a, h.at e, q⟩
  | .v _, r => r
  | .t _, ⟨b, xs, ds, e1, e2, q, r⟩ => ⟨b, xs, ds, e1, e2, h.im _ _ q, DpAll.mono h.im r⟩
  | .u _, ⟨b, xs, ds, ob, e1, e2, q, c, d, r⟩ => ⟨b, xs, ds, ob, e1, e2, h.im _ _ q, c, d, DpAll.mono h.im r⟩
  | .u2 _, ⟨b, c, v1, d1, ds, xs, ys, ob, e1, e2, q, e3, q1, q2, c1, c2, r⟩ => ⟨b, c, v1, d1, ds, xs, ys, ob, e1, e2, h.im _ _ q, e3, Dp.mono h.im q1, h.im _ _ q2, c1, c2, DpAll.mono h.im r⟩
  | .w _, ⟨b, vs, e1, q, r⟩ => ⟨b, vs, e1, h.im _ _ q, Paired.imp (fun _ _ z => RI.mono h z) r⟩
  | .xc _ _ _, ⟨a, d, e1, q, r⟩ => ⟨a, d, e1, h.im _ _ q, r.imp id fun ⟨hn, dd, us, e2, q2, r2⟩ => ⟨hn, dd, us, e2, h.im _ _ q2, Paired.imp (fun _ _ z => ⟨z.1, Dp.mono h.im z.2⟩) r2⟩⟩
theorem RW.unt {v : V} {x : PyData} : RW K w v (.t x) → RW K w v (.d x)
  | ⟨_, _, _, e1, e2, q, r⟩ => by
    subst e1 e2
    exact Dp.tup (.inl (.inl q)) r
theorem RW.unu {v : V} {x : PyData} : RW K w v (.u x) → RW K w v (.d x)
  | ⟨_, _, _, _, e1, e2, q, _, _, r⟩ => by
    subst e1 e2
    exact Dp.tup (.inl (.inr ⟨_, q⟩)) r
theorem RW.unu2 {v : V} {x : PyData} : RW K w v (.u2 x) → RW K w v (.d x)
  | ⟨_, _, _, _, _, _, _, _, e1, e2, q, e3, q1, q2, _, _, r⟩ => by
    subst e1 e2 e3
    exact Dp.tup (.inl (.inl q)) (.cons q1 (.cons (Dp.tup (.inl (.inr ⟨_, q2⟩)) r) .nil))
abbrev RWs (K : PySem.W.Frag) (w : Wd) : List V → List W → Prop := Paired (RW K w)
theorem RWs.mono (h : w.le w1) {vs : List V} {xs : List W} (r : RWs K w vs xs) : RWs K w1 vs xs := Paired.imp (fun _ _ q => RW.mono h q) r
end
/-- an exception by its class and its fields -/
def RX (Γ : Gm) (K : PySem.W.Frag) (w : Wd) (cls : Value) (d : Option Addr) (e : Exn) : Prop :=
  cls = .ref (Γ.ca e.c) ∧ match e.f with
    | [] => d = none
    | fs => ∃ dd us, d = some dd ∧ w.im dd = some (.xd us) ∧ Paired (fun (p : Str × V) (q : Str × PyData) => p.1 = q.1 ∧ Dp K w.im p.2 q.2) us fs

/-! ### what a function's outcome asks -/
section
variable {α β : Type}
def Post (Γ : Gm) (K : PySem.W.Frag) (R : Wd → β → α → Prop) (w : Wd) (σ : St) (Z : WX) (r : Out α) (Q : β → Hp → Prop) : Prop := match r with
  | .ok x S' => ∀ w1 v, w1.S = S' → w.le w1 → Good Γ K w1 → R w1 v x → Q v w1.H
  | .ex e S' => ∀ w1 cls d, w1.S = S' → w.le w1 → Good Γ K w1 → RX Γ K w1 cls d e → Z cls d σ w1.H
  | .bad => False
variable {Γ : Gm} {K : PySem.W.Frag} {R : Wd → β → α → Prop} {w w1 : Wd} {σ : St} {Z : WX} {r : Out α} {Q Q' : β → Hp → Prop}
theorem Post.mono (h : w.le w1) (p : Post Γ K R w σ Z r Q) : Post Γ K R w1 σ Z r Q := by
  cases r with
  | ok x S' => exact fun w2 v e l g q => p w2 v e (h.trans l) g q
  | ex e S' => exact fun w2 c d e l g q => p w2 c d e (h.trans l) g q
  | bad => exact p
theorem Post.imp (p : Post Γ K R w σ Z r Q) (h : ∀ v H, Q v H → Q' v H) : Post Γ K R w σ Z r Q' := by
  cases r with
  | ok x S' => exact fun w2 v e l g q => h _ _ (p w2 v e l g q)
  | ex e S' => exact p
  | bad => exact p
theorem Post.bind {γ δ : Type} {R' : Wd → δ → γ → Prop} {k : α → Sto → Out γ} {Q' : δ → Hp → Prop} (p : Post Γ K R' w σ Z (r.bind k) Q') :
    Post Γ K R w σ Z r fun v H1 => ∃ w1 x, w1.H = H1 ∧ Good Γ K w1 ∧ w.le w1 ∧ R w1 v x ∧ Post Γ K R' w1 σ Z (k x w1.S) Q' := by
  cases r with
  | ok x S' =>
    intro w1 v e l g q
    refine ⟨w1, x, rfl, g, l, q, ?_⟩
    subst e
    exact Post.mono l p
  | ex e S' => exact p
  | bad => exact p
theorem Post.use {x : α} {v : β} (p : Post Γ K R w σ Z (.ok x w.S) Q) (G : Good Γ K w) (h : R w v x) : Q v w.H := p w v rfl (Wd.le.refl w) G h
end
/-- the slots -/
structure Slots (K : PySem.W.Frag) (w : Wd) (σ : St) (ρ : Slt) : Prop where
  len : ρ.length = σ.length
  val : ∀ (i : Nat) (x : W), ρ[i]? = some (some x) → ∃ v, σ[i]? = some (some v) ∧ RW K w v x
theorem Slots.mono {K : PySem.W.Frag} {w w1 : Wd} {σ : St} {ρ : Slt} (h : w.le w1) (s : Slots K w σ ρ) : Slots K w1 σ ρ :=
  ⟨s.len, fun i x e => let ⟨v, a, b⟩ := s.val i x e; ⟨v, a, RW.mono h b⟩⟩
theorem Slots.set {K : PySem.W.Frag} {w : Wd} {σ : St} {ρ : Slt} (s : Slots K w σ ρ) {v : V} {x : W} (r : RW K w v x) (i : Nat) : Slots K w (σ.set i (some v)) (ρ.set i (some x)) := by
  refine ⟨by simp [s.len], fun j y e => ?_⟩
  by_cases h : i = j
  · subst h
    have hl : i < ρ.length := by
      have := (List.getElem?_eq_some_iff.mp e).1
      simpa using this
    rw [List.getElem?_set_self hl] at e
    cases e
    exact ⟨v, by rw [List.getElem?_set_self (by rw [← s.len]; exact hl)], r⟩
  · rw [List.getElem?_set_ne h] at e ⊢
    exact s.val j y e
theorem Slots.unset {K : PySem.W.Frag} {w : Wd} {σ : St} {ρ : Slt} (s : Slots K w σ ρ) (i : Nat) : Slots K w (σ.set i none) (ρ.set i none) := by
  refine ⟨by simp [s.len], fun j y e => ?_⟩
  by_cases h : i = j
  · subst h
    have hl : i < ρ.length := by
      have := (List.getElem?_eq_some_iff.mp e).1
      simpa using this
    rw [List.getElem?_set_self hl] at e
    cases e
  · rw [List.getElem?_set_ne h] at e ⊢
    exact s.val j y e

/-! ### judgements -/
def liftR {α β : Type} (Γ : Gm) (K : PySem.W.Frag) (Z : WX) (R : Wd → β → α → Prop) (f : Fe α) : St → Hp → (β → Hp → Prop) → Prop :=
  fun σ H Q => ∃ w ρ, w.H = H ∧ Good Γ K w ∧ Slots K w σ ρ ∧ Post Γ K R w σ Z (f ρ w.S) Q
def RB (_ : Wd) (b : Bool) (c : Bool) : Prop := b = c
structure VE (Γ : Gm) (X : Cx) (Z : WX) (e : Expr) (f : Fe W) : Prop where
  pe : PE X e (liftR Γ X.K Z (RW X.K) f)
structure VT (Γ : Gm) (X : Cx) (Z : WX) (e : Expr) (f : Fe Bool) : Prop where
  pt : PT X e (liftR Γ X.K Z RB f)
structure VW (Γ : Gm) (X : Cx) (Z : WX) (e : Expr) (f : Fe Bool) : Prop where
  pw : PW X e (liftR Γ X.K Z RB f)
structure VA (Γ : Gm) (X : Cx) (Z : WX) (es : List Expr) (f : Fe (List W)) : Prop where
  pa : PA X es (liftR Γ X.K Z (RWs X.K) f)
theorem PE.mono {X : Cx} {e : Expr} {t t' : TE} (h : PE X e t) (i : ∀ σ H Q, t' σ H Q → t σ H Q) : PE X e t' := ⟨fun pins s σ H Q I q => h.run pins s σ H Q I (i _ _ _ q)⟩
theorem PT.mono {X : Cx} {e : Expr} {t t' : TT} (h : PT X e t) (i : ∀ σ H Q, t' σ H Q → t σ H Q) : PT X e t' := ⟨fun pins s σ H Q I q => h.run pins s σ H Q I (i _ _ _ q)⟩
theorem PW.mono {X : Cx} {e : Expr} {t t' : TT} (h : PW X e t) (i : ∀ σ H Q, t' σ H Q → t σ H Q) : PW X e t' := ⟨fun wh pins s σ H Q I q => h.run wh pins s σ H Q I (i _ _ _ q)⟩
theorem PA.mono {X : Cx} {e : List Expr} {t t' : TA} (h : PA X e t) (i : ∀ σ H Q, t' σ H Q → t σ H Q) : PA X e t' := ⟨fun pos pins s σ H Q I q => h.run pos pins s σ H Q I (i _ _ _ q)⟩
theorem PS.mono {X : Cx} {e : Stmt} {t t' : TS} (h : PS X e t) (i : ∀ D σ H, t' D σ H → t D σ H) : PS X e t' := ⟨fun pins s σ H D I q => h.run pins s σ H D I (i _ _ _ q)⟩
theorem PSs.mono {X : Cx} {e : List Stmt} {t t' : TS} (h : PSs X e t) (i : ∀ D σ H, t' D σ H → t D σ H) : PSs X e t' := ⟨fun pins s σ H D I q => h.run pins s σ H D I (i _ _ _ q)⟩
/-- sequencing inside a reading -/
theorem liftR.bind {α β γ δ : Type} {Γ : Gm} {K : PySem.W.Frag} {Z : WX} {R : Wd → β → α → Prop} {R' : Wd → δ → γ → Prop} {f : Fe α} {k : α → Fe γ} {σ : St} {H : Hp} {Q : δ → Hp → Prop}
    (h : liftR Γ K Z R' (fun ρ S => (f ρ S).bind fun x S1 => k x ρ S1) σ H Q) :
    liftR Γ K Z R f σ H fun v H1 => ∃ x w1 ρ, w1.H = H1 ∧ Good Γ K w1 ∧ Slots K w1 σ ρ ∧ R w1 v x ∧ Post Γ K R' w1 σ Z (k x ρ w1.S) Q := by
  obtain ⟨w, ρ, e, G, s, p⟩ := h
  refine ⟨w, ρ, e, G, s, ?_⟩
  have q := Post.bind (R := R) p
  refine q.imp fun v H1 ⟨w1, x, e1, g1, l, r, p1⟩ => ⟨x, w1, ρ, e1, g1, s.mono l, r, p1⟩
theorem liftR.imp {α β : Type} {Γ : Gm} {K : PySem.W.Frag} {Z : WX} {R : Wd → β → α → Prop} {f : Fe α} {σ : St} {H : Hp} {Q Q' : β → Hp → Prop}
    (h : liftR Γ K Z R f σ H Q) (i : ∀ v H, Q v H → Q' v H) : liftR Γ K Z R f σ H Q' := by
  obtain ⟨w, ρ, e, G, s, p⟩ := h
  exact ⟨w, ρ, e, G, s, p.imp i⟩

/-! ### names, constants -/
section
variable {Γ : Gm} {X : Cx} {Z : WX} {pos : Pos}
def fVar (i : Nat) : Fe W := fun ρ S => match ρ[i]? with
  | some (some x) => .ok x S
  | _ => .bad
theorem ve_var (i : Nat) {x : Str} (hN : X.N[i]? = some x := by rfl) (hv : Vis X.env.scope x := by first | exact Or.inl rfl | exact Or.inr (Or.inl rfl) | exact Or.inr (Or.inr rfl)) (hd : (x == ("__debug__" : Str)) = false := by decide)
    (hcd : (x == ("__classdict__" : Str)) = false := by decide) : VE Γ X Z (.Name x pos) (fVar i) := by
  refine ⟨PE.mono (pe_var hN hv hd hcd) fun σ H Q h => ?_⟩
  obtain ⟨w, ρ, rfl, G, s, p⟩ := h
  unfold fVar at p
  split at p
  · rename_i y e
    obtain ⟨v, e1, r⟩ := s.val i y e
    exact ⟨v, e1, p.use G r⟩
  · exact p.elim
def fC (x : W) : Fe W := fun _ S => .ok x S
theorem ve_int {i j} : VE Γ X Z (.Constant (.int i) j pos) (fC (.d (.int i))) := ⟨PE.mono pe_int fun σ H Q ⟨w, ρ, e, G, s, p⟩ => by subst e; exact p.use G (Dp.int i)⟩
theorem ve_bl {i j} : VE Γ X Z (.Constant (.bool i) j pos) (fC (.d (.bool i))) := ⟨PE.mono pe_bl fun σ H Q ⟨w, ρ, e, G, s, p⟩ => by subst e; exact p.use G (Dp.bl i)⟩
theorem ve_str {i j} : VE Γ X Z (.Constant (.str i) j pos) (fC (.d (.str i))) := ⟨PE.mono pe_str fun σ H Q ⟨w, ρ, e, G, s, p⟩ => by subst e; exact p.use G (Dp.str i)⟩
/-- a module's constant that is data -/
structure GlD (K : PySem.W.Frag) (mg : Str → Option Value) (x : Str) (d : PyData) : Prop where
  ex : ∃ v u, mg x = some u ∧ RelV v u ∧ ∀ H, Dp K H v d
theorem ve_glob {x : Str} {d : PyData} (h : GlD X.K X.mg x d) (hg : Gl X x := by rfl) (hd : (x == ("__debug__" : Str)) = false := by decide) : VE Γ X Z (.Name x pos) (fC (.d d)) := by
  obtain ⟨v, u, hm, r, q⟩ := h.ex
  exact ⟨PE.mono (pe_glob hg hm r hd) fun σ H Q ⟨w, ρ, e, G, s, p⟩ => by subst e; exact p.use G (show Dp X.K w.im v d from q _)⟩

/-! ### arguments -/
def fNil : Fe (List W) := fun _ S => .ok [] S
def fCons (f : Fe W) (g : Fe (List W)) : Fe (List W) := fun ρ S => (f ρ S).bind fun x S1 => (g ρ S1).bind fun xs S2 => .ok (x :: xs) S2
theorem va_nil : VA Γ X Z [] fNil := ⟨PA.mono pa_nil fun σ H Q ⟨w, ρ, e, G, s, p⟩ => by subst e; exact p.use G Paired.nil⟩
/-- two parts, one behind the other -/
theorem seq2 {α β γ δ ε ζ : Type} {K : PySem.W.Frag} {R : Wd → β → α → Prop} {R1 : Wd → δ → γ → Prop} {R2 : Wd → ζ → ε → Prop} (mono : ∀ w w1 v x, Wd.le w w1 → R w v x → R w1 v x) {f : Fe α} {g : Fe γ} {k : α → γ → Sto → Out ε} {σ : St} {H : Hp} {Q : ζ → Hp → Prop}
    (h : liftR Γ K Z R2 (fun ρ S => (f ρ S).bind fun x S1 => (g ρ S1).bind fun y S2 => k x y S2) σ H Q) :
    liftR Γ K Z R f σ H fun v H1 => liftR Γ K Z R1 g σ H1 fun u H2 => ∃ x y w, w.H = H2 ∧ Good Γ K w ∧ R w v x ∧ R1 w u y ∧ Post Γ K R2 w σ Z (k x y w.S) Q := by
  refine (liftR.bind (k := fun x ρ S1 => (g ρ S1).bind fun y S2 => k x y S2) h).imp fun v H1 ⟨x, w1, ρ, e1, G1, s1, r1, p1⟩ => ?_
  refine ⟨w1, ρ, e1, G1, s1, ?_⟩
  refine (Post.bind (R := R1) p1).imp fun u H2 ⟨w2, y, e2, G2, l, r2, p2⟩ => ?_
  exact ⟨x, y, w2, e2, G2, mono _ _ _ _ l r1, r2, p2⟩
theorem seq1 {α β γ δ : Type} {K : PySem.W.Frag} {R : Wd → β → α → Prop} {R2 : Wd → δ → γ → Prop} {f : Fe α} {k : α → Sto → Out γ} {σ : St} {H : Hp} {Q : δ → Hp → Prop}
    (h : liftR Γ K Z R2 (fun ρ S => (f ρ S).bind fun x S1 => k x S1) σ H Q) :
    liftR Γ K Z R f σ H fun v H1 => ∃ x w, w.H = H1 ∧ Good Γ K w ∧ R w v x ∧ Post Γ K R2 w σ Z (k x w.S) Q :=
  (liftR.bind (k := fun x _ S1 => k x S1) h).imp fun v H1 ⟨x, w1, ρ, e1, G1, s1, r1, p1⟩ => ⟨x, w1, e1, G1, r1, p1⟩
theorem va_cons {e : Expr} {es : List Expr} {f : Fe W} {g : Fe (List W)} (ha : VE Γ X Z e f) (hr : VA Γ X Z es g) (hs : starEach (e :: es) X.env = (false, eval e X.env) :: starEach es X.env := by rfl) : VA Γ X Z (e :: es) (fCons f g) := by
  refine ⟨PA.mono (pa_cons ha.pe hr.pa hs) fun σ H Q h => ?_⟩
  refine liftR.imp (seq2 (R := RW X.K) (R1 := RWs X.K) (k := fun x xs S => .ok (x :: xs) S) (fun _ _ _ _ l r => RW.mono l r) h) fun v H1 h1 => ?_
  refine liftR.imp h1 fun vs H2 ⟨x, xs, w, e, G, r, rs, p⟩ => ?_
  subst e
  exact p.use G (Paired.cons r rs)

/-! ### tests -/
def truth : W → Option Bool
  | .d (.bool b) => some b
  | _ => none
def fTru (f : Fe W) : Fe Bool := fun ρ S => (f ρ S).bind fun x S1 => ofO ((truth x).map fun b => (b, S1))
theorem vt_val {e : Expr} {f : Fe W} (h : VE Γ X Z e f) (he : ∀ whole, isTrue e X.env whole = (do let v ← whole; standAt e.pos; holding [v] (truthy v)) := by intro _; rfl) : VT Γ X Z e (fTru f) := by
  refine ⟨PT.mono (pt_val h.pe he) fun σ H Q q => ?_⟩
  refine liftR.imp (seq1 q) fun v H1 ⟨x, w, e, G, r, p⟩ => ?_
  subst e
  cases x with
  | d x =>
    cases x with
    | bool b => cases (show Dp X.K w.im v (.bool b) from r); exact ⟨b, rfl, p.use G rfl⟩
    | _ => exact p.elim
  | o n => exact p.elim
  | v n => exact p.elim
  | t n => exact p.elim
  | u n => exact p.elim
  | u2 n => exact p.elim
  | w n => exact p.elim
  | xc a b c => exact p.elim
def fNot (f : Fe Bool) : Fe Bool := fun ρ S => (f ρ S).bind fun b S1 => .ok (!b) S1
theorem vt_not {e : Expr} {f : Fe Bool} (h : VT Γ X Z e f) : VT Γ X Z (.UnaryOp .Not e pos) (fNot f) := by
  refine ⟨PT.mono (pt_not h.pt) fun σ H Q q => ?_⟩
  refine liftR.imp (seq1 q) fun v H1 ⟨x, w, e, G, r, p⟩ => ?_
  subst e
  cases (show v = x from r)
  exact p.use G rfl
def fAnd (f g : Fe Bool) : Fe Bool := fun ρ S => (f ρ S).bind fun b S1 => if b = true then g ρ S1 else .ok false S1
def fOr (f g : Fe Bool) : Fe Bool := fun ρ S => (f ρ S).bind fun b S1 => if b = true then .ok true S1 else g ρ S1
theorem vw_and1 {a : Expr} {f : Fe Bool} (h : VT Γ X Z a f) : VW Γ X Z (.BoolOp .And [a] pos) f := ⟨pw_and1 h.pt⟩
theorem vw_or1 {a : Expr} {f : Fe Bool} (h : VT Γ X Z a f) : VW Γ X Z (.BoolOp .Or [a] pos) f := ⟨pw_or1 h.pt⟩
theorem vw_and {a b : Expr} {rest : List Expr} {f g : Fe Bool} (ha : VT Γ X Z a f) (hb : VW Γ X Z (.BoolOp .And (b :: rest) pos) g) : VW Γ X Z (.BoolOp .And (a :: b :: rest) pos) (fAnd f g) := by
  refine ⟨PW.mono (pw_and ha.pt hb.pw) fun σ H Q q => ?_⟩
  refine liftR.imp (liftR.bind (k := fun b ρ S1 => if b = true then g ρ S1 else .ok false S1) q) fun v H1 ⟨x, w, ρ, e, G, s, r, p⟩ => ?_
  subst e
  cases (show v = x from r)
  cases v with
  | true => exact ⟨w, ρ, rfl, G, s, p⟩
  | false => exact Post.use p G rfl
theorem vw_or {a b : Expr} {rest : List Expr} {f g : Fe Bool} (ha : VT Γ X Z a f) (hb : VW Γ X Z (.BoolOp .Or (b :: rest) pos) g) : VW Γ X Z (.BoolOp .Or (a :: b :: rest) pos) (fOr f g) := by
  refine ⟨PW.mono (pw_or ha.pt hb.pw) fun σ H Q q => ?_⟩
  refine liftR.imp (liftR.bind (k := fun b ρ S1 => if b = true then .ok true S1 else g ρ S1) q) fun v H1 ⟨x, w, ρ, e, G, s, r, p⟩ => ?_
  subst e
  cases (show v = x from r)
  cases v with
  | true => exact Post.use p G rfl
  | false => exact ⟨w, ρ, rfl, G, s, p⟩
theorem VW.vt {e : Expr} {f : Fe Bool} (h : VW Γ X Z e f) : VT Γ X Z e f := ⟨h.pw.pt⟩
end
end G
set_option Elab.async false
set_option linter.all false
set_option maxRecDepth 100000
set_option maxHeartbeats 4000000
/-! G2: how worlds change; freezing; sequences -/
namespace G
open PySem PySem.Spec L2
set_option autoImplicit false
section
variable {Γ : Gm} {K : PySem.W.Frag} {w : Wd} {p a : Addr} {o : HO} {n : Nat} {c c' : Cell}
theorem XE.mono {w1 : Wd} (h : w.le w1) {x : List Int × Addr × Value} {q : List Int × W} (z : XE K w x q) : XE K w1 x q := by
  obtain ⟨e1, e2, v, e3, e4⟩ := z
  exact ⟨e1, SqT.mono h.im e2, v, e3, RW.mono h e4⟩
theorem CellOk.mono {w1 : Wd} (h : w.le w1) (e : w1.H a = w.H a) : ∀ {c : Cell}, CellOk K w a c → CellOk K w1 a c
  | .lst ws, ⟨vs, q, r⟩ => ⟨vs, e.trans q, RWs.mono h r⟩
  | .dic kvs, ⟨us, q, r⟩ => ⟨us, e.trans q, Paired.imp (fun _ _ z => ⟨z.1, RW.mono h z.2⟩) r⟩
  | .fz x, ⟨vs, ds, e1, q, r⟩ => ⟨vs, ds, e1, e.trans q, DpAll.mono h.im r⟩
  | .dit kvs, ⟨us, q, r⟩ => ⟨us, e.trans q, Paired.imp (fun _ _ z => ⟨z.1, RW.mono h z.2⟩) r⟩
  | .fd kvs, ⟨o, us, q, r⟩ => ⟨o, us, e.trans q, Paired.imp (fun _ _ z => ⟨z.1, RW.mono h z.2⟩) r⟩
  | .dix kvs, ⟨xs, q, m, l, r⟩ => ⟨xs, e.trans q, m, l, Paired.imp (fun _ _ z => XE.mono h z) r⟩
  | .fdx kvs, ⟨o, xs, q, m, l, r⟩ => ⟨o, xs, e.trans q, m, l, Paired.imp (fun _ _ z => XE.mono h z) r⟩
  | .fk kvs, ⟨o, us, q, r⟩ => ⟨o, us, e.trans q, Paired.imp (fun _ _ z => ⟨z.1, RW.mono h z.2⟩) r⟩
theorem Good.nin (G : Good Γ K w) (hp : w.H p = none) : p ∉ w.μ := fun h => by
  obtain ⟨o, e⟩ := G.tr p h
  rw [hp] at e; cases e
theorem live_mem {a : Addr} (h : w.live a) : a ∈ w.μ := let ⟨n, _, e, _⟩ := h; List.mem_of_getElem? e
theorem Good.uniq (G : Good Γ K w) {m : Nat} (h1 : w.μ[n]? = some a) (h2 : w.μ[m]? = some a) : n = m := by
  have hn := (List.getElem?_eq_some_iff.mp h1).1
  exact (List.getElem?_inj hn G.inj).mp (h1.trans h2.symm)
theorem Good.live_iff (G : Good Γ K w) (h1 : w.μ[n]? = some a) (h2 : w.S[n]? = some c) : w.live a ↔ c.live = true := by
  constructor
  · rintro ⟨m, d, e1, e2, e3⟩
    have := G.uniq h1 e1
    subst this
    rw [h2] at e2; cases e2; exact e3
  · intro h; exact ⟨n, c, h1, h2, h⟩
/-- a new object that never changes -/
theorem Good.new (G : Good Γ K w) (hp : w.H p = none) (o : HO) : Good Γ K ⟨w.μ, w.S, upd w.H p o⟩ ∧ w.le ⟨w.μ, w.S, upd w.H p o⟩ := by
  have le : w.le ⟨w.μ, w.S, upd w.H p o⟩ := by
    refine ⟨fun b u e => ?_, [], by simp⟩
    obtain ⟨e1, e2, e3⟩ := Wd.im_some e
    exact Wd.im_of (w := ⟨w.μ, w.S, upd w.H p o⟩) (by show upd w.H p o b = _; rw [upd_ne (ne_of_none e1 hp)]; exact e1) e2 e3
  refine ⟨⟨G.len, G.inj, fun b hb => ?_, fun m b d e1 e2 => ?_, Γ.upd _ _ _ (.inl hp) G.side, Γ.mono _ _ G.hold le⟩, le⟩
  · obtain ⟨u, e⟩ := G.tr b hb
    exact ⟨u, by show upd w.H p o b = _; rw [upd_ne (ne_of_none e hp)]; exact e⟩
  · obtain ⟨u, e⟩ := G.tr b (List.mem_of_getElem? e1)
    exact CellOk.mono le (upd_ne (ne_of_none e hp)) (G.cell m b d e1 e2)
/-- a new live object -/
theorem Good.alloc (G : Good Γ K w) (hp : w.H p = none) (o : HO) (hc : ∀ w1, w.le w1 → w1.H p = some o → CellOk K w1 p c) (hl : c.live = true) : Good Γ K ⟨w.μ ++ [p], w.S ++ [c], upd w.H p o⟩ ∧ w.le ⟨w.μ ++ [p], w.S ++ [c], upd w.H p o⟩ := by
  have np := G.nin hp
  have le : w.le ⟨w.μ ++ [p], w.S ++ [c], upd w.H p o⟩ := by
    refine ⟨fun b u e => ?_, [p], rfl⟩
    obtain ⟨e1, e2, e3⟩ := Wd.im_some e
    have nb := ne_of_none e1 hp
    refine Wd.im_of (w := ⟨w.μ ++ [p], w.S ++ [c], upd w.H p o⟩) (by show upd w.H p o b = _; rw [upd_ne nb]; exact e1) ?_ e3
    rintro ⟨m, d, q1, q2, q3⟩
    by_cases hm : m < w.μ.length
    · have q1' : w.μ[m]? = some b := by rw [← List.getElem?_append_left (l₂ := [p]) hm]; exact q1
      have q2' : w.S[m]? = some d := by rw [← List.getElem?_append_left (l₂ := [c]) (by rw [← G.len]; exact hm)]; exact q2
      exact e2 ⟨m, d, q1', q2', q3⟩
    · have q1' : [p][m - w.μ.length]? = some b := by rw [← List.getElem?_append_right (by omega)]; exact q1
      have : b ∈ [p] := List.mem_of_getElem? q1'
      exact nb (by simpa using this)
  refine ⟨⟨by simp [G.len], ?_, fun b hb => ?_, fun m b d e1 e2 => ?_, Γ.upd _ _ _ (.inl hp) G.side, Γ.mono _ _ G.hold le⟩, le⟩
  · refine List.nodup_append.mpr ⟨G.inj, by simp, fun x hx y hy => ?_⟩
    have : y = p := by simpa using hy
    subst this
    intro e; subst e; exact np hx
  · rcases List.mem_append.mp hb with hb | hb
    · obtain ⟨u, e⟩ := G.tr b hb
      exact ⟨u, by show upd w.H p o b = _; rw [upd_ne (ne_of_none e hp)]; exact e⟩
    · have : b = p := by simpa using hb
      subst this
      exact ⟨o, upd_same⟩
  · by_cases hm : m < w.μ.length
    · have q1' : w.μ[m]? = some b := by rw [← List.getElem?_append_left (l₂ := [p]) hm]; exact e1
      have q2' : w.S[m]? = some d := by rw [← List.getElem?_append_left (l₂ := [c]) (by rw [← G.len]; exact hm)]; exact e2
      obtain ⟨u, e⟩ := G.tr b (List.mem_of_getElem? q1')
      exact CellOk.mono le (upd_ne (ne_of_none e hp)) (G.cell m b d q1' q2')
    · have q1' : [p][m - w.μ.length]? = some b := by rw [← List.getElem?_append_right (by omega)]; exact e1
      have q2' : [c][m - w.S.length]? = some d := by rw [← List.getElem?_append_right (by rw [← G.len]; omega)]; exact e2
      have h1 : b ∈ [p] := List.mem_of_getElem? q1'
      have h2 : d ∈ [c] := List.mem_of_getElem? q2'
      have h1 : b = p := by simpa using h1
      have h2 : d = c := by simpa using h2
      subst h1 h2
      exact hc _ le upd_same
/-- a live object is written -/
theorem Good.write (G : Good Γ K w) (h1 : w.μ[n]? = some a) (h2 : w.S[n]? = some c) (hl : c.live = true) (o : HO) (hc : ∀ w1, w.le w1 → w1.H a = some o → CellOk K w1 a c') (hl' : c'.live = true) : Good Γ K ⟨w.μ, w.S.set n c', upd w.H a o⟩ ∧ w.le ⟨w.μ, w.S.set n c', upd w.H a o⟩ := by
  have hn := (List.getElem?_eq_some_iff.mp h2).1
  have la : w.live a := ⟨n, c, h1, h2, hl⟩
  have lv : ∀ b, Wd.live ⟨w.μ, w.S.set n c', upd w.H a o⟩ b ↔ w.live b := fun b => by
    constructor
    · rintro ⟨m, d, e1, e2, e3⟩
      by_cases hm : n = m
      · subst hm
        have : b = a := Option.some.inj (e1.symm.trans h1)
        subst this; exact la
      · have e2 : (w.S.set n c')[m]? = some d := e2
        rw [List.getElem?_set_ne hm] at e2
        exact ⟨m, d, e1, e2, e3⟩
    · rintro ⟨m, d, e1, e2, e3⟩
      by_cases hm : n = m
      · subst hm
        exact ⟨n, c', e1, by show (w.S.set n c')[n]? = _; rw [List.getElem?_set_self hn], hl'⟩
      · exact ⟨m, d, e1, by show (w.S.set n c')[m]? = _; rw [List.getElem?_set_ne hm]; exact e2, e3⟩
  have le : w.le ⟨w.μ, w.S.set n c', upd w.H a o⟩ := by
    refine ⟨fun b u e => ?_, [], by simp⟩
    obtain ⟨e1, e2, e3⟩ := Wd.im_some e
    have nb : b ≠ a := fun q => e2 (q ▸ la)
    exact Wd.im_of (w := ⟨w.μ, w.S.set n c', upd w.H a o⟩) (by show upd w.H a o b = _; rw [upd_ne nb]; exact e1) (fun q => e2 ((lv b).mp q)) e3
  have hk : (∃ xs, w.H a = some (.lst xs)) ∨ (∃ kvs, w.H a = some (.dK kvs)) ∨ (∃ kvs, w.H a = some (.dT kvs)) ∨ (∃ xs, w.H a = some (.ext (dxP a xs))) := by
    have q := G.cell n a c h1 h2
    cases c with
    | lst ws => obtain ⟨vs, e, _⟩ := q; exact .inl ⟨_, e⟩
    | dic kvs => obtain ⟨vs, e, _⟩ := q; exact .inr (.inl ⟨_, e⟩)
    | fz x => cases hl
    | dit kvs => obtain ⟨vs, e, _⟩ := q; exact .inr (.inr (.inl ⟨_, e⟩))
    | fd x => cases hl
    | dix kvs => obtain ⟨vs, e, _⟩ := q; exact .inr (.inr (.inr ⟨_, e⟩))
    | fdx x => cases hl
    | fk x => cases hl
  refine ⟨⟨by simp [G.len], G.inj, fun b hb => ?_, fun m b d e1 e2 => ?_, Γ.upd _ _ _ (.inr hk) G.side, Γ.mono _ _ G.hold le⟩, le⟩
  · by_cases hb' : b = a
    · subst hb'; exact ⟨o, upd_same⟩
    · obtain ⟨u, e⟩ := G.tr b hb
      exact ⟨u, by show upd w.H a o b = _; rw [upd_ne hb']; exact e⟩
  · by_cases hm : n = m
    · subst hm
      have : b = a := Option.some.inj (e1.symm.trans h1)
      subst this
      have e2 : (w.S.set n c')[n]? = some d := e2
      rw [List.getElem?_set_self hn] at e2
      cases e2
      exact hc _ le upd_same
    · have e2 : (w.S.set n c')[m]? = some d := e2
      rw [List.getElem?_set_ne hm] at e2
      have nb : b ≠ a := fun q => hm (G.uniq h1 (q ▸ e1))
      exact CellOk.mono le (upd_ne nb) (G.cell m b d e1 e2)
/-- a live list is frozen -/
theorem Good.freeze (G : Good Γ K w) (h1 : w.μ[n]? = some a) (h2 : ∃ c, w.S[n]? = some c) {vs : List V} {ds : List PyData} (hv : w.H a = some (.lst vs)) (hd : DpAll K w.im vs ds) :
    Good Γ K ⟨w.μ, w.S.set n (.fz (.list ds)), w.H⟩ ∧ w.le ⟨w.μ, w.S.set n (.fz (.list ds)), w.H⟩ ∧ Dp K (Wd.im ⟨w.μ, w.S.set n (.fz (.list ds)), w.H⟩) (.ref a) (.list ds) := by
  obtain ⟨c, h2⟩ := h2
  have hn := (List.getElem?_eq_some_iff.mp h2).1
  have lv : ∀ b, Wd.live ⟨w.μ, w.S.set n (.fz (.list ds)), w.H⟩ b → w.live b ∧ b ≠ a := fun b => by
    rintro ⟨m, d, e1, e2, e3⟩
    by_cases hm : n = m
    · subst hm
      have e2 : (w.S.set n (.fz (.list ds)))[n]? = some d := e2
      rw [List.getElem?_set_self hn] at e2
      cases e2; cases e3
    · have e2 : (w.S.set n (.fz (.list ds)))[m]? = some d := e2
      rw [List.getElem?_set_ne hm] at e2
      exact ⟨⟨m, d, e1, e2, e3⟩, fun q => hm (G.uniq h1 (q ▸ e1))⟩
  have le : w.le ⟨w.μ, w.S.set n (.fz (.list ds)), w.H⟩ := by
    refine ⟨fun b u e => ?_, [], by simp⟩
    obtain ⟨e1, e2, e3⟩ := Wd.im_some e
    exact Wd.im_of (w := ⟨w.μ, w.S.set n (.fz (.list ds)), w.H⟩) e1 (fun q => e2 (lv b q).1) e3
  refine ⟨⟨by simp [G.len], G.inj, G.tr, fun m b d e1 e2 => ?_, G.side, Γ.mono _ _ G.hold le⟩, le, ?_⟩
  · by_cases hm : n = m
    · subst hm
      have : b = a := Option.some.inj (e1.symm.trans h1)
      subst this
      have e2 : (w.S.set n (.fz (.list ds)))[n]? = some d := e2
      rw [List.getElem?_set_self hn] at e2
      cases e2
      exact ⟨vs, ds, rfl, hv, DpAll.mono le.im hd⟩
    · have e2 : (w.S.set n (.fz (.list ds)))[m]? = some d := e2
      rw [List.getElem?_set_ne hm] at e2
      exact CellOk.mono le rfl (G.cell m b d e1 e2)
  · refine .lst (xs := vs) (SqL.of (Wd.im_of (w := ⟨w.μ, w.S.set n (.fz (.list ds)), w.H⟩) hv (fun q => (lv a q).2 rfl) (fun ps q => by cases q))) (DpAll.mono le.im hd)
end

/-! ### freezing -/
def frzL (f : W → Sto → Option (PyData × Sto)) : List W → Sto → Option (List PyData × Sto)
  | [], S => some ([], S)
  | x :: xs, S => match f x S with
    | some (d, S1) => match frzL f xs S1 with
      | some (ds, S2) => some (d :: ds, S2)
      | none => none
    | none => none
def frz : Nat → W → Sto → Option (PyData × Sto)
  | _, .d x, S => some (x, S)
  | 0, .o _, _ => none
  | k + 1, .o n, S => match S[n]? with
    | some (.fz x) => some (x, S)
    | some (.lst ws) => match frzL (frz k) ws S with
      | some (ds, S1) => some (.list ds, S1.set n (.fz (.list ds)))
      | none => none
    | _ => none
  | _, .v _, _ => none
  | _, .t x, S => some (x, S)
  | _, .u x, S => some (x, S)
  | _, .u2 x, S => some (x, S)
  | _, .w _, _ => none
  | _, .xc _ _ _, _ => none
@[simp] theorem frz_t (k : Nat) (x : PyData) (S : Sto) : frz k (.t x) S = some (x, S) := by cases k <;> rfl
@[simp] theorem frz_u (k : Nat) (x : PyData) (S : Sto) : frz k (.u x) S = some (x, S) := by cases k <;> rfl
@[simp] theorem frz_u2 (k : Nat) (x : PyData) (S : Sto) : frz k (.u2 x) S = some (x, S) := by cases k <;> rfl
@[simp] theorem frz_d (k : Nat) (x : PyData) (S : Sto) : frz k (.d x) S = some (x, S) := by cases k <;> rfl
section
variable {Γ : Gm} {K : PySem.W.Frag}
/-- only the store's record of who may write changes -/
structure Frz (Γ : Gm) (K : PySem.W.Frag) (w : Wd) (S' : Sto) : Prop where
  good : Good Γ K ⟨w.μ, S', w.H⟩
  le : w.le ⟨w.μ, S', w.H⟩
theorem frzL_ok {f : W → Sto → Option (PyData × Sto)} (hf : ∀ (w : Wd) (v : V) (x : W) (d : PyData) (S' : Sto), Good Γ K w → RW K w v x → f x w.S = some (d, S') → Frz Γ K w S' ∧ Dp K (Wd.im ⟨w.μ, S', w.H⟩) v d) :
    ∀ (xs : List W) (w : Wd) (vs : List V) (ds : List PyData) (S' : Sto), Good Γ K w → RWs K w vs xs → frzL f xs w.S = some (ds, S') → Frz Γ K w S' ∧ DpAll K (Wd.im ⟨w.μ, S', w.H⟩) vs ds
  | [], w, vs, ds, S', G, r, h => by
    cases r
    cases h
    exact ⟨⟨G, Wd.le.refl _⟩, .nil⟩
  | x :: xs, w, vs, ds, S', G, r, h => by
    cases r with
    | cons r rs =>
      unfold frzL at h
      split at h
      · rename_i d S1 e1
        split at h
        · rename_i ds' S2 e2
          cases h
          obtain ⟨F, q⟩ := hf w _ x d S1 G r e1
          obtain ⟨F2, q2⟩ := frzL_ok hf xs ⟨w.μ, S1, w.H⟩ _ ds' S' F.good (RWs.mono F.le rs) e2
          exact ⟨⟨F2.good, F.le.trans F2.le⟩, .cons (Dp.mono F2.le.im q) q2⟩
        · cases h
      · cases h
theorem frz_ok : ∀ (k : Nat) (w : Wd) (v : V) (x : W) (d : PyData) (S' : Sto), Good Γ K w → RW K w v x → frz k x w.S = some (d, S') → Frz Γ K w S' ∧ Dp K (Wd.im ⟨w.μ, S', w.H⟩) v d
  | k, w, v, .d x, d, S', G, r, h => by
    rw [frz_d] at h
    cases h
    exact ⟨⟨G, Wd.le.refl _⟩, r⟩
  | 0, w, v, .o n, d, S', G, r, h => by cases h
  | k + 1, w, v, .o n, d, S', G, r, h => by
    obtain ⟨a, ha, rfl⟩ := r
    unfold frz at h
    split at h
    · rename_i y e
      cases h
      obtain ⟨vs, ds, e1, q, r⟩ := G.cell n a _ ha e
      subst e1
      refine ⟨⟨G, Wd.le.refl _⟩, .lst (xs := vs) (SqL.of (Wd.im_of q (fun l => ?_) (fun ps z => by cases z))) r⟩
      rw [G.live_iff ha e] at l
      cases l
    · rename_i ws e
      split at h
      · rename_i ds S1 e1
        cases h
        obtain ⟨vs, q, r⟩ := G.cell n a _ ha e
        obtain ⟨F, p⟩ := frzL_ok (frz_ok k) ws w vs ds S1 G r e1
        have hc : ∃ c, S1[n]? = some c := by
          have hn := (List.getElem?_eq_some_iff.mp ha).1
          have : n < S1.length := by rw [← F.good.len]; exact hn
          exact ⟨S1[n], by simp [this]⟩
        obtain ⟨G2, le2, q2⟩ := Good.freeze F.good (n := n) (a := a) ha hc q p
        exact ⟨⟨G2, F.le.trans le2⟩, q2⟩
      · cases h
    · cases h
  | 0, w, v, .v y, d, S', G, r, h => by cases h
  | _ + 1, w, v, .v y, d, S', G, r, h => by cases h
  | k, w, v, .t x, d, S', G, r, h => by
    rw [frz_t] at h
    cases h
    exact ⟨⟨G, Wd.le.refl _⟩, RW.unt r⟩
  | k, w, v, .u x, d, S', G, r, h => by
    rw [frz_u] at h
    cases h
    exact ⟨⟨G, Wd.le.refl _⟩, RW.unu r⟩
  | k, w, v, .u2 x, d, S', G, r, h => by
    rw [frz_u2] at h
    cases h
    exact ⟨⟨G, Wd.le.refl _⟩, RW.unu2 r⟩
  | 0, w, v, .w y, d, S', G, r, h => by cases h
  | _ + 1, w, v, .w y, d, S', G, r, h => by cases h
  | 0, w, v, .xc _ _ _, d, S', G, r, h => by cases h
  | _ + 1, w, v, .xc _ _ _, d, S', G, r, h => by cases h
/-- read as data, nothing written -/
def view (x : W) (S : Sto) : Option PyData := (frz 6 x S).map (·.1)
@[simp] theorem view_d (x : PyData) (S : Sto) : view (.d x) S = some x := rfl
theorem view_ok {w : Wd} {v : V} {x : W} {d : PyData} (G : Good Γ K w) (r : RW K w v x) (h : view x w.S = some d) : Dp K w.H v d := by
  unfold view at h
  cases e : frz 6 x w.S with
  | none => rw [e] at h; cases h
  | some p =>
    obtain ⟨d', S'⟩ := p
    rw [e] at h
    cases h
    obtain ⟨F, q⟩ := frz_ok 6 w v x _ S' G r e
    exact Dp.mono (im_sub ⟨w.μ, S', w.H⟩) q
end

/-! ### sequences -/
def Wi.w : Wi → W
  | .d x => .d x
  | .o n => .o n
theorem ri_rw {K : PySem.W.Frag} {w : Wd} {v : V} : ∀ {x : Wi}, RI K w v x → RW K w v x.w
  | .d _, r => r
  | .o _, r => r
theorem ris_rws {K : PySem.W.Frag} {w : Wd} : ∀ {vs : List V} {xs : List Wi}, Paired (RI K w) vs xs → RWs K w vs (xs.map Wi.w)
  | _, _, .nil => .nil
  | _, _, .cons q r => .cons (ri_rw q) (ris_rws r)
def seqOf (x : W) (S : Sto) : Option (List W) := match x with
  | .d (.tuple ds) => some (ds.map .d)
  | .d (.list ds) => some (ds.map .d)
  | .o n => match S[n]? with
    | some (.lst ws) => some ws
    | some (.fz (.list ds)) => some (ds.map .d)
    | _ => none
  | .w xs => some (xs.map Wi.w)
  | _ => none
section
variable {Γ : Gm} {K : PySem.W.Frag} {w : Wd}
theorem rws_data : ∀ {vs : List V} {ds : List PyData}, DpAll K w.im vs ds → RWs K w vs (ds.map .d)
  | _, _, .nil => .nil
  | _, _, .cons q r => .cons q (rws_data r)
theorem seqOf_ok {v : V} {x : W} {ws : List W} (G : Good Γ K w) (r : RW K w v x) (h : seqOf x w.S = some ws) : ∃ a vs, v = .ref a ∧ (SqL K w.H a vs ∨ SqT K w.H a vs) ∧ RWs K w vs ws := by
  unfold seqOf at h
  split at h
  · rename_i ds
    cases h
    cases (show Dp K w.im v (.tuple ds) from r) with
    | tup q r => exact ⟨_, _, rfl, .inr (SqT.mono (im_sub w) q), rws_data r⟩
  · rename_i ds
    cases h
    cases (show Dp K w.im v (.list ds) from r) with
    | lst q r => exact ⟨_, _, rfl, .inl (SqL.mono (im_sub w) q), rws_data r⟩
  · rename_i n
    obtain ⟨a, ha, rfl⟩ := r
    split at h
    · rename_i ws' e
      cases h
      obtain ⟨vs, q, r⟩ := G.cell n a _ ha e
      exact ⟨a, vs, rfl, .inl (SqL.of q), r⟩
    · rename_i ds e
      cases h
      obtain ⟨vs, ds', e1, q, r⟩ := G.cell n a _ ha e
      cases e1
      exact ⟨a, vs, rfl, .inl (SqL.of q), rws_data r⟩
    · cases h
  · rename_i xs
    cases h
    obtain ⟨b, vs, rfl, q, r⟩ := r
    exact ⟨b, vs, rfl, .inr (SqT.of (Wd.im_some q).1), ris_rws r⟩
  · cases h
end
theorem Paired.len {α β : Type} {F : α → β → Prop} : ∀ {l : List α} {m : List β}, Paired F l m → l.length = m.length
  | _, _, .nil => rfl
  | _, _, .cons _ t => by simp [Paired.len t]
theorem Paired.get {α β : Type} {F : α → β → Prop} : ∀ {l : List α} {m : List β} {i : Nat} {y : β}, Paired F l m → m[i]? = some y → ∃ x, l[i]? = some x ∧ F x y
  | _, _, _, _, .nil, h => by simp at h
  | _, _, 0, _, .cons q t, h => by simp at h; subst h; exact ⟨_, rfl, q⟩
  | _, _, i + 1, _, .cons q t, h => by
    obtain ⟨x, h1, h2⟩ := Paired.get t (i := i) (by simpa using h)
    exact ⟨x, by simpa using h1, h2⟩
theorem Paired.app {α β : Type} {F : α → β → Prop} : ∀ {l l' : List α} {m m' : List β}, Paired F l m → Paired F l' m' → Paired F (l ++ l') (m ++ m')
  | _, _, _, _, .nil, s => s
  | _, _, _, _, .cons q t, s => .cons q (Paired.app t s)
theorem Paired.drop {α β : Type} {F : α → β → Prop} : ∀ {l : List α} {m : List β} (k : Nat), Paired F l m → Paired F (l.drop k) (m.drop k)
  | _, _, 0, s => s
  | _, _, _ + 1, .nil => .nil
  | _, _, k + 1, .cons _ t => Paired.drop k t
theorem Paired.take {α β : Type} {F : α → β → Prop} : ∀ {l : List α} {m : List β} (k : Nat), Paired F l m → Paired F (l.take k) (m.take k)
  | _, _, 0, _ => .nil
  | _, _, _ + 1, .nil => .nil
  | _, _, k + 1, .cons q t => .cons q (Paired.take k t)
theorem Paired.set {α β : Type} {F : α → β → Prop} {x : α} {y : β} (h : F x y) : ∀ {l : List α} {m : List β} (k : Nat), Paired F l m → Paired F (l.set k x) (m.set k y)
  | _, _, _, .nil => .nil
  | _, _, 0, .cons _ t => .cons h t
  | _, _, k + 1, .cons q t => .cons q (Paired.set h k t)
theorem Paired.erase {α β : Type} {F : α → β → Prop} : ∀ {l : List α} {m : List β} (k : Nat), Paired F l m → Paired F (l.eraseIdx k) (m.eraseIdx k)
  | _, _, _, .nil => .nil
  | _, _, 0, .cons _ t => t
  | _, _, k + 1, .cons q t => .cons q (Paired.erase k t)
theorem Paired.rep {α β : Type} {F : α → β → Prop} {l : List α} {m : List β} (h : Paired F l m) : ∀ k : Nat, Paired F (List.replicate k l).flatten (List.replicate k m).flatten
  | 0 => .nil
  | k + 1 => by simp only [List.replicate_succ, List.flatten_cons]; exact Paired.app h (Paired.rep h k)
theorem Paired.revv {α β : Type} {F : α → β → Prop} : ∀ {l : List α} {m : List β}, Paired F l m → Paired F l.reverse m.reverse
  | _, _, .nil => .nil
  | _, _, .cons q t => by simp only [List.reverse_cons]; exact Paired.app (Paired.revv t) (.cons q .nil)
theorem Paired.map_int {K : PySem.W.Frag} {w : Wd} : ∀ {vs : List V} {ns : List Int}, RWs K w vs (ns.map fun i => W.d (.int i)) → vs = ns.map V.int
  | _, [], r => by cases r; rfl
  | _, n :: ns, r => by
    cases r with
    | cons q r =>
      cases (show Dp K w.im _ (.int n) from q)
      rw [Paired.map_int r]; rfl
theorem Paired.atI {α β : Type} {F : α → β → Prop} {l : List α} {m : List β} {i : Int} {y : β} (h : Paired F l m) (e : L2.atI m i = some y) : ∃ x, L2.atI l i = some x ∧ F x y := by
  unfold L2.atI at e ⊢
  rw [Paired.len h]
  cases q : ixN m.length i with
  | none => rw [q] at e; cases e
  | some j => rw [q] at e; exact Paired.get h e
end G
set_option Elab.async false
set_option linter.all false
set_option maxRecDepth 100000
set_option maxHeartbeats 4000000
/-! G3: expressions -/
namespace G
open PySem PySem.Spec L2
set_option autoImplicit false
/-- room for what the operations call -/
def Rm (X : Cx) : Prop := X.A.units + 100 < cLine
theorem rm_of {k : Nat} {X : Cx} (h : Room k X.A) : Rm X := by have := h.un; unfold Rm; omega
/-! ### new and changed objects, as an outcome asks -/
section
variable {Γ : Gm} {K : PySem.W.Frag} {w : Wd} {σ : L2.St} {Z : WX} {Q : VK}
theorem Post.tup {ds : List PyData} {vs : List V} (P : Post Γ K (RW K) w σ Z (.ok (.d (.tuple ds)) w.S) Q) (G : Good Γ K w) (hd : DpAll K w.im vs ds) (p : Addr) (hp : w.H p = none) : Q (.ref p) (upd w.H p (.tup vs)) := by
  obtain ⟨G1, le⟩ := G.new hp (.tup vs)
  refine P ⟨w.μ, w.S, upd w.H p (.tup vs)⟩ (.ref p) rfl le G1 ?_
  exact Dp.tup (SqT.of (Wd.im_of (w := ⟨w.μ, w.S, upd w.H p (.tup vs)⟩) upd_same (fun l => G.nin hp (live_mem (w := ⟨w.μ, w.S, upd w.H p (.tup vs)⟩) l)) (fun ps q => by cases q))) (DpAll.mono le.im hd)
theorem Post.lst {ws : List W} {vs : List V} (P : Post Γ K (RW K) w σ Z (.ok (.o w.S.length) (w.S ++ [.lst ws])) Q) (G : Good Γ K w) (hd : RWs K w vs ws) (p : Addr) (hp : w.H p = none) : Q (.ref p) (upd w.H p (.lst vs)) := by
  obtain ⟨G1, le⟩ := G.alloc (c := .lst ws) hp (.lst vs) (fun w1 l e => ⟨vs, e, RWs.mono l hd⟩) rfl
  refine P ⟨w.μ ++ [p], w.S ++ [.lst ws], upd w.H p (.lst vs)⟩ (.ref p) rfl le G1 ?_
  exact ⟨p, by show (w.μ ++ [p])[w.S.length]? = _; rw [← G.len]; simp, rfl⟩
theorem Post.dic {ws : List (Key × W)} {vs : List (Key × V)} (P : Post Γ K (RW K) w σ Z (.ok (.o w.S.length) (w.S ++ [.dic ws])) Q) (G : Good Γ K w) (hd : Paired (fun (p : Key × V) (q : Key × W) => p.1 = q.1 ∧ RW K w p.2 q.2) vs ws) (p : Addr) (hp : w.H p = none) : Q (.ref p) (upd w.H p (.dK vs)) := by
  obtain ⟨G1, le⟩ := G.alloc (c := .dic ws) hp (.dK vs) (fun w1 l e => ⟨vs, e, Paired.imp (fun _ _ z => ⟨z.1, RW.mono l z.2⟩) hd⟩) rfl
  refine P ⟨w.μ ++ [p], w.S ++ [.dic ws], upd w.H p (.dK vs)⟩ (.ref p) rfl le G1 ?_
  exact ⟨p, by show (w.μ ++ [p])[w.S.length]? = _; rw [← G.len]; simp, rfl⟩
theorem Post.setL {n : Nat} {a : Addr} {c : Cell} {ws : List W} {vs : List V} {v : V} {x : W} (P : Post Γ K (RW K) w σ Z (.ok x (w.S.set n (.lst ws))) Q) (G : Good Γ K w) (h1 : w.μ[n]? = some a) (h2 : w.S[n]? = some c) (hl : c.live = true) (hd : RWs K w vs ws) (hv : RW K w v x) : Q v (upd w.H a (.lst vs)) := by
  obtain ⟨G1, le⟩ := G.write (c' := .lst ws) h1 h2 hl (.lst vs) (fun w1 l e => ⟨vs, e, RWs.mono l hd⟩) rfl
  exact P ⟨w.μ, w.S.set n (.lst ws), upd w.H a (.lst vs)⟩ v rfl le G1 (RW.mono le hv)
end
def hpl (x : W) (S : Sto) : Option (List W) := match x with
  | .o n => match S[n]? with
    | some (.lst ws) => some ws
    | some (.fz (.list ds)) => some (ds.map .d)
    | _ => none
  | _ => none
theorem hpl_ok {Γ : Gm} {K : PySem.W.Frag} {w : Wd} {v : V} {x : W} {ws : List W} (G : Good Γ K w) (r : RW K w v x) (h : hpl x w.S = some ws) : ∃ a vs, v = .ref a ∧ w.H a = some (.lst vs) ∧ RWs K w vs ws := by
  unfold hpl at h
  split at h
  · rename_i n
    obtain ⟨a, ha, rfl⟩ := r
    split at h
    · rename_i ws' e
      cases h
      obtain ⟨vs, q, r⟩ := G.cell n a _ ha e
      exact ⟨a, vs, rfl, q, r⟩
    · rename_i ds e
      cases h
      obtain ⟨vs, ds', e1, q, r⟩ := G.cell n a _ ha e
      cases e1
      exact ⟨a, vs, rfl, q, rws_data r⟩
    · cases h
  · cases h
def szOk (n : Nat) : Bool := decide (n ≤ 1000000)
theorem sz_line {n : Nat} (h : szOk n = true) : n < sizeLine := by
  have : n ≤ 1000000 := of_decide_eq_true h
  rw [sizeLine_eq]; omega
/-! ### operations of two values -/
section
variable {Γ : Gm} {X : Cx} {Z : WX} {pos : Pos}
abbrev Op2 := W → W → Sto → Option (W × Sto)
def fOp2 (g : Op2) (f h : Fe W) : Fe W := fun ρ S => (f ρ S).bind fun x S1 => (h ρ S1).bind fun y S2 => ofO (g x y S2)
def Does2 (Γ : Gm) (X : Cx) (Z : WX) (g : Op2) (r : R2) : Prop := ∀ (w : Wd) (x y : W) (vx vy : V) (σ : L2.St) (Q : VK) (z : W) (S' : Sto), Good Γ X.K w → RW X.K w vx x → RW X.K w vy y → g x y w.S = some (z, S') → Post Γ X.K (RW X.K) w σ Z (.ok z S') Q → r vx vy w.H Q
theorem Does2.use {g : Op2} {r : R2} (hd : Does2 Γ X Z g r) {w : Wd} {x y : W} {vx vy : V} {σ : L2.St} {Q : VK} (G : Good Γ X.K w) (rx : RW X.K w vx x) (ry : RW X.K w vy y) (p : Post Γ X.K (RW X.K) w σ Z (ofO (g x y w.S)) Q) : r vx vy w.H Q := by
  cases e : g x y w.S with
  | none => rw [e] at p; exact p.elim
  | some q =>
    obtain ⟨z, S'⟩ := q
    rw [e] at p
    exact hd w x y vx vy σ Q z S' G rx ry e p
theorem op2_lift {g : Op2} {r : R2} (hd : Does2 Γ X Z g r) {f h : Fe W} {σ : L2.St} {H : Hp} {Q : VK} (q : liftR Γ X.K Z (RW X.K) (fOp2 g f h) σ H Q) : tOp r (liftR Γ X.K Z (RW X.K) f) (liftR Γ X.K Z (RW X.K) h) σ H Q := by
  refine liftR.imp (seq2 (R := RW X.K) (R1 := RW X.K) (k := fun x y S => ofO (g x y S)) (fun _ _ _ _ l r => RW.mono l r) q) fun v H1 h1 => liftR.imp h1 fun u H2 ⟨x, y, w, e, G, rx, ry, p⟩ => ?_
  subst e
  exact hd.use G rx ry p
theorem ve_op {op : Operator} {r : R2} {g : Op2} {a b : Expr} {f h : Fe W} (ho : OpR X (binaryOp op) r) (hd : Does2 Γ X Z g r) (ha : VE Γ X Z a f) (hb : VE Γ X Z b h) : VE Γ X Z (.BinOp a op b pos) (fOp2 g f h) :=
  ⟨PE.mono (pe_op ho ha.pe hb.pe) fun _ _ _ q => op2_lift hd q⟩
theorem ve_cmp {op : CmpOp} {r : R2} {g : Op2} {a b : Expr} {f h : Fe W} (ho : OpR X (compareOp op) r) (hd : Does2 Γ X Z g r) (hm : behindInMarks op b = false) (ha : VE Γ X Z a f) (hb : VE Γ X Z b h) : VE Γ X Z (.Compare a [op] [b] pos) (fOp2 g f h) :=
  ⟨PE.mono (pe_cmpR ho ha.pe hb.pe hm) fun _ _ _ q => op2_lift hd q⟩
def fChain (g g' : Op2) (f h k : Fe W) : Fe W := fun ρ S => (f ρ S).bind fun x S1 => (h ρ S1).bind fun y S2 => (ofO (g x y S2)).bind fun z S3 => match z with
  | .d (.bool true) => (k ρ S3).bind fun u S4 => ofO (g' y u S4)
  | .d (.bool false) => .ok (.d (.bool false)) S3
  | _ => .bad
/-! #### which -/
def gInt (f : Int → Int → PyData) : Op2 := fun x y S => match x, y with
  | .d (.int i), .d (.int j) => some (.d (f i j), S)
  | _, _ => none
theorem gInt_inv {f : Int → Int → PyData} {x y z : W} {S S' : Sto} (h : gInt f x y S = some (z, S')) : ∃ i j, x = .d (.int i) ∧ y = .d (.int j) ∧ z = .d (f i j) ∧ S' = S := by
  unfold gInt at h
  split at h
  · cases h; exact ⟨_, _, rfl, rfl, rfl, rfl⟩
  · cases h
theorem does_int {f : Int → Int → PyData} {v : Int → Int → V} (hv : ∀ i j K H, Dp K H (v i j) (f i j)) : Does2 Γ X Z (gInt f) (rI0 v) := fun w x y vx vy σ Q z S' G rx ry h p => by
  obtain ⟨i, j, rfl, rfl, rfl, rfl⟩ := gInt_inv h
  cases (show Dp X.K w.im vx (.int i) from rx)
  cases (show Dp X.K w.im vy (.int j) from ry)
  exact ⟨i, j, rfl, rfl, p.use G (hv i j _ _)⟩
@[irreducible] def big : Nat := 2 ^ 400000
@[irreducible] def mid : Nat := 2 ^ 9000
def tiny (i : Int) : Bool := decide (-(2 ^ 64) < i ∧ i < 2 ^ 64)
def smal (i : Int) : Bool := decide (i.natAbs < big)
def mulOk (i j : Int) : Bool := tiny i || tiny j || (smal i && smal j)
theorem mul_ok {i j : Int} (h : mulOk i j = true) : CMul i j ∨ CMulW i j := by
  unfold mulOk at h
  simp only [Bool.or_eq_true, Bool.and_eq_true] at h
  rcases h with (h | h) | ⟨h1, h2⟩
  · exact .inl (.inl (of_decide_eq_true h))
  · exact .inl (.inr (of_decide_eq_true h))
  · have h1 : i.natAbs < big := of_decide_eq_true h1
    have h2 : j.natAbs < big := of_decide_eq_true h2
    unfold big at h1 h2
    exact .inr (wide_mul h1 h2 (by decide) (by decide) (by decide))
def rMulA : R2 := fun x y H Q => (rI CMul (fun i j => V.int (i * j)) x y H Q ∨ rI CMulW (fun i j => V.int (i * j)) x y H Q)
theorem op_mulA : OpR X (binaryOp .Mult) rMulA := OpR.or op_mul op_mulW
def divOk (j : Int) : Bool := decide (0 < j ∧ j.natAbs < mid)
def divNg (j : Int) : Bool := decide (j < 0 ∧ j.natAbs < mid)
/-- what is no greater than its divisor -/
def divLe (i j : Int) : Bool := decide (0 < j ∧ i.natAbs ≤ j.natAbs)
def gDiv : Op2 := fun x y S => match x, y with
  | .d (.int i), .d (.int j) => if divOk j = true then some (.d (.int (i / j)), S) else if divNg j = true then some (.d (.int (i.fdiv j)), S) else if divLe i j = true then some (.d (.int (i / j)), S) else none
  | _, _ => none
/-- // by a negative divisor -/
def CDivN (_ j : Int) : Prop := j < 0 ∧ j.natAbs.log2 < 9000
theorem op_fdivN : OpR X (binaryOp .FloorDiv) (rI CDivN fun i j => .int (i.fdiv j)) := opI fun i j _ _ _ _ _ hc q =>
  PyProof.Rows.floordiv_int (fun z => absurd hc.1 (by rw [z]; decide)) q (.inl (PyProof.noPylong_of_log2 hc.2))
def CDivL (i j : Int) : Prop := 0 < j ∧ i.natAbs ≤ j.natAbs
theorem noPylong_le {x y : Int} (h : x.natAbs ≤ y.natAbs) (hy : y ≠ 0) : Builtin.divisionGoesByPylong x y = false := by
  unfold Builtin.divisionGoesByPylong
  have h1 : x.natAbs.log2 ≤ y.natAbs.log2 := by
    by_cases hx : x.natAbs = 0
    · rw [hx]; exact Nat.zero_le _
    · exact (Nat.le_log2 (by omega)).mpr (Nat.le_trans (Nat.log2_self_le hx) h)
  have h2 : (y == 0) = false := by simpa using hy
  simp only [h2, Bool.and_eq_false_iff, decide_eq_false_iff_not]
  right
  split <;> simp <;> omega
theorem op_fdivL : OpR X (binaryOp .FloorDiv) (rI CDivL fun i j => .int (i / j)) := opI fun i j _ _ _ _ _ hc q =>
  PyProof.Rows.floordiv_int (fun z => absurd hc.1 (by rw [z]; decide)) (by rw [Int.fdiv_eq_ediv_of_nonneg _ (Int.le_of_lt hc.1)]; exact q) (.inl (noPylong_le hc.2 (fun z => absurd hc.1 (by rw [z]; decide))))
def rDivA : R2 := fun x y H Q => (rI CDivW (fun i j => V.int (i / j)) x y H Q ∨ (rI CDivN (fun i j => V.int (i.fdiv j)) x y H Q ∨ rI CDivL (fun i j => V.int (i / j)) x y H Q))
theorem op_fdivA : OpR X (binaryOp .FloorDiv) rDivA := OpR.or op_fdivW (OpR.or op_fdivN op_fdivL)
theorem does_div : Does2 Γ X Z gDiv rDivA := fun w x y vx vy σ Q z S' G rx ry h p => by
  unfold gDiv at h
  split at h
  · rename_i i j
    split at h
    · rename_i hm
      cases h
      cases (show Dp X.K w.im vx (.int i) from rx)
      cases (show Dp X.K w.im vy (.int j) from ry)
      obtain ⟨h1, h2⟩ := (of_decide_eq_true hm : 0 < j ∧ j.natAbs < mid)
      unfold mid at h2
      exact .inl ⟨i, j, rfl, rfl, wide_div h1 h2 (by decide) (by decide), p.use G (Dp.int _)⟩
    · split at h
      · rename_i hm
        cases h
        cases (show Dp X.K w.im vx (.int i) from rx)
        cases (show Dp X.K w.im vy (.int j) from ry)
        obtain ⟨h1, h2⟩ := (of_decide_eq_true hm : j < 0 ∧ j.natAbs < mid)
        unfold mid at h2
        exact .inr (.inl ⟨i, j, rfl, rfl, ⟨h1, Nat.lt_of_lt_of_le (PySem.Flt.log2_lt_of (by decide) h2) (by decide)⟩, p.use G (Dp.int _)⟩)
      · split at h
        · rename_i hm
          cases h
          cases (show Dp X.K w.im vx (.int i) from rx)
          cases (show Dp X.K w.im vy (.int j) from ry)
          exact .inr (.inr ⟨i, j, rfl, rfl, (of_decide_eq_true hm : 0 < j ∧ i.natAbs ≤ j.natAbs), p.use G (Dp.int _)⟩)
        · cases h
  · cases h
def gMod : Op2 := fun x y S => match x, y with
  | .d (.int i), .d (.int j) => if 0 < j then some (.d (.int (i % j)), S) else none
  | _, _ => none
theorem does_mod : Does2 Γ X Z gMod (rI (fun _ j => 0 < j) fun i j => .int (i % j)) := fun w x y vx vy σ Q z S' G rx ry h p => by
  unfold gMod at h
  split at h
  · rename_i i j
    split at h
    · rename_i hm
      cases h
      cases (show Dp X.K w.im vx (.int i) from rx)
      cases (show Dp X.K w.im vy (.int j) from ry)
      exact ⟨i, j, rfl, rfl, hm, p.use G (Dp.int _)⟩
    · cases h
  · cases h
def gPow : Op2 := fun x y S => match x, y with
  | .d (.int i), .d (.int j) => if 0 ≤ j ∧ j ≤ 1000 ∧ i.natAbs < 2 ^ 64 then some (.d (.int (i ^ j.toNat)), S) else none
  | _, _ => none
theorem does_pow : Does2 Γ X Z gPow (rI CPow fun i j => .int (i ^ j.toNat)) := fun w x y vx vy σ Q z S' G rx ry h p => by
  unfold gPow at h
  split at h
  · rename_i i j
    split at h
    · rename_i hm
      cases h
      cases (show Dp X.K w.im vx (.int i) from rx)
      cases (show Dp X.K w.im vy (.int j) from ry)
      exact ⟨i, j, rfl, rfl, ⟨hm.1, by omega, hm.2.2⟩, p.use G (Dp.int _)⟩
    · cases h
  · cases h
/-! + : numbers, tuples, lists -/
def gAdd : Op2 := fun x y S => match x, y with
  | .d (.int i), .d (.int j) => some (.d (.int (i + j)), S)
  | .d (.tuple xs), .d (.tuple ys) => if szOk (xs.length + ys.length) = true then some (.d (.tuple (xs ++ ys)), S) else none
  | x, y => match hpl x S, hpl y S with
    | some ws, some us => if szOk (ws.length + us.length) = true then some (.o S.length, S ++ [.lst (ws ++ us)]) else none
    | _, _ => none
def rAddA (K : PySem.W.Frag) : R2 := fun x y H Q => (rI0 (fun i j => V.int (i + j)) x y H Q ∨ (rCatA K x y H Q ∨ rCat x y H Q))
theorem op_addA : OpR X (binaryOp .Add) (rAddA X.K) := OpR.or op_add (OpR.or op_catA op_cat)
theorem does_add : Does2 Γ X Z gAdd (rAddA X.K) := fun w x y vx vy σ Q z S' G rx ry h p => by
  unfold gAdd at h
  split at h
  · rename_i i j
    cases h
    cases (show Dp X.K w.im vx (.int i) from rx)
    cases (show Dp X.K w.im vy (.int j) from ry)
    exact .inl ⟨i, j, rfl, rfl, p.use G (Dp.int _)⟩
  · rename_i xs ys
    split at h
    · rename_i hz
      cases h
      refine .inr (.inl ?_)
      cases (show Dp X.K w.im vx (.tuple xs) from rx) with
      | tup q1 d1 =>
        cases (show Dp X.K w.im vy (.tuple ys) from ry) with
        | tup q2 d2 =>
          have l1 := Paired.len (DpAll.paired d1)
          have l2 := Paired.len (DpAll.paired d2)
          refine ⟨_, _, _, _, rfl, rfl, SqT.mono (im_sub w) q1, SqT.mono (im_sub w) q2, by rw [l1, l2]; exact Nat.le_of_lt (sz_line hz), fun e => ?_, fun _ e => ?_, fun _ _ => ?_⟩
          · subst e
            cases d1
            exact p.use G (show Dp X.K w.im _ (.tuple ys) from .tup q2 d2)
          · subst e
            cases d2
            refine p.use G (show Dp X.K w.im _ (.tuple (xs ++ [])) from ?_)
            rw [List.append_nil]
            exact .tup q1 d1
          · exact Post.tup p G (DpAll.of (Paired.app (DpAll.paired d1) (DpAll.paired d2)))
    · cases h
  · split at h
    · rename_i ws us e1 e2
      split at h
      · rename_i hz
        cases h
        obtain ⟨a, vs, rfl, h1, r1⟩ := hpl_ok G rx e1
        obtain ⟨b, us', rfl, h2, r2⟩ := hpl_ok G ry e2
        refine .inr (.inr ⟨a, b, vs, us', rfl, rfl, h1, h2, by rw [Paired.len r1, Paired.len r2]; exact Nat.le_of_lt (sz_line hz), ?_⟩)
        exact Post.lst p G (Paired.app r1 r2)
      · cases h
    · cases h
/-! * : numbers, lists, tuples by a number -/
def gMul : Op2 := fun x y S => match x, y with
  | .d (.int i), .d (.int j) => if mulOk i j = true then some (.d (.int (i * j)), S) else none
  | .d (.tuple xs), .d (.int k) => if xs ≠ [] ∧ 2 ≤ k ∧ k ≤ 1000 ∧ xs.length ≤ 1000 then some (.d (.tuple (List.replicate k.toNat xs).flatten), S) else none
  | x, .d (.int k) => match hpl x S with
    | some ws => if -1000000 ≤ k ∧ k ≤ 1000000 ∧ szOk (ws.length * k.toNat) = true then some (.o S.length, S ++ [.lst (List.replicate k.toNat ws).flatten]) else none
    | none => none
  | _, _ => none
def rMulB (K : PySem.W.Frag) : R2 := fun x y H Q => (rMulA x y H Q ∨ (rRepT K x y H Q ∨ rRep x y H Q))
theorem op_mulB : OpR X (binaryOp .Mult) (rMulB X.K) := OpR.or op_mulA (OpR.or op_repT op_rep)
theorem does_mul : Does2 Γ X Z gMul (rMulB X.K) := fun w x y vx vy σ Q z S' G rx ry h p => by
  unfold gMul at h
  split at h
  · rename_i i j
    split at h
    · rename_i hm
      cases h
      cases (show Dp X.K w.im vx (.int i) from rx)
      cases (show Dp X.K w.im vy (.int j) from ry)
      have q := p.use G (v := V.int (i * j)) (show Dp X.K w.im (V.int (i * j)) (.int (i * j)) from Dp.int _)
      rcases mul_ok hm with c | c
      · exact .inl (.inl ⟨i, j, rfl, rfl, c, q⟩)
      · exact .inl (.inr ⟨i, j, rfl, rfl, c, q⟩)
    · cases h
  · rename_i xs k
    split at h
    · rename_i hm
      cases h
      cases (show Dp X.K w.im vy (.int k) from ry)
      cases (show Dp X.K w.im vx (.tuple xs) from rx) with
      | tup q1 d1 =>
        have l1 := Paired.len (DpAll.paired d1)
        refine .inr (.inl ⟨_, k, _, rfl, rfl, SqT.mono (im_sub w) q1, fun e => hm.1 ?_, hm.2.1, hm.2.2.1, by rw [l1]; exact hm.2.2.2, ?_⟩)
        · subst e; cases d1; rfl
        · exact Post.tup p G (DpAll.of (Paired.rep (DpAll.paired d1) _))
    · cases h
  · rename_i k _ _
    split at h
    · rename_i ws e1
      split at h
      · rename_i hm
        cases h
        cases (show Dp X.K w.im vy (.int k) from ry)
        obtain ⟨a, vs, rfl, h1, r1⟩ := hpl_ok G rx e1
        refine .inr (.inr ⟨a, k, vs, rfl, rfl, h1, by omega, by omega, by rw [Paired.len r1]; exact Nat.le_of_lt (sz_line hm.2.2), ?_⟩)
        exact Post.lst p G (Paired.rep r1 _)
      · cases h
    · cases h
  · cases h
/-! == of data -/
def dEq (neg : Bool) : Op2 := fun x y S => match view x S, view y S with
  | some a, some b => if (SeqAt.shaped a && SeqAt.shaped b) = true then some (.d (.bool (if neg = true then !PyData.eqv a b else PyData.eqv a b)), S) else none
  | _, _ => none
theorem does_eq : Does2 Γ X Z (dEq false) (rEqD X.K) := fun w x y vx vy σ Q z S' G rx ry h p => by
  unfold dEq at h
  split at h
  · rename_i a b e1 e2
    split at h
    · rename_i hs
      cases h
      rw [Bool.and_eq_true] at hs
      exact ⟨a, b, view_ok G rx e1, view_ok G ry e2, hs.1, hs.2, p.use G (Dp.bl _)⟩
    · cases h
  · cases h
theorem does_ne : Does2 Γ X Z (dEq true) (rNeD X.K) := fun w x y vx vy σ Q z S' G rx ry h p => by
  unfold dEq at h
  split at h
  · rename_i a b e1 e2
    split at h
    · rename_i hs
      cases h
      rw [Bool.and_eq_true] at hs
      exact ⟨a, b, view_ok G rx e1, view_ok G ry e2, hs.1, hs.2, p.use G (Dp.bl _)⟩
    · cases h
  · cases h
/-! is None -/
def isNo : W → Bool
  | .d .none => true
  | .v .non => true
  | _ => false
def gIsN (neg : Bool) : Op2 := fun x y S => match y with
  | .d .none => some (.d (.bool (if neg = true then !isNo x else isNo x)), S)
  | _ => none
/-! < of data that are alike -/
def gLt (k : PyData → PyData → Bool) : Op2 := fun x y S => match x, y with
  | .d a, .d b => match a with
    | .none => none
    | _ => if (PySem.W.alike a b && decide (a.depth ≤ 60)) = true then some (.d (.bool (k a b)), S) else none
  | _, _ => none
def rLtD (K : PySem.W.Frag) (k : PyData → PyData → Bool) : R2 := fun x y H Q => ∃ a b, Dp K H x a ∧ Dp K H y b ∧ PySem.W.alike a b = true ∧ a ≠ .none ∧ a.depth ≤ 60 ∧ Q (.bl (k a b)) H
theorem op_ltD {op : CmpOp} {k : PyData → PyData → Bool} (hu : Rm X) (rule : ∀ (A : Around) (s : Shared) (a b : Value) (da db : PyData) (as bs : List Addr) (Q E : Value → Shared → Prop), Reads s.heap a da as → Reads s.heap b db bs → PySem.W.alike da db = true → da ≠ .none → A.units + min da.depth db.depth < cLine →
    Q (.bool (k da db)) s → wpAny (model X.prog X.w) A (compareOp op a b) Q E s) : OpR X (compareOp op) (rLtD X.K k) := by
  intro pins s σ H x y v u Q I rx ry h
  obtain ⟨a, b, ha, hb, hal, hn, hd, q⟩ := h
  obtain ⟨as, r1⟩ := Dp.reads I a x v ha rx
  obtain ⟨bs, r2⟩ := Dp.reads I b y u hb ry
  refine rule X.A s v u a b as bs _ _ r1 r2 hal hn (by unfold Rm at hu; omega) ⟨.bl _, H, I, rfl, q⟩
theorem does_lt {k : PyData → PyData → Bool} : Does2 Γ X Z (gLt k) (rLtD X.K k) := fun w x y vx vy σ Q z S' G rx ry h p => by
  unfold gLt at h
  split at h
  · rename_i a b
    split at h
    · cases h
    · rename_i hn
      split at h
      · rename_i hm
        cases h
        rw [Bool.and_eq_true] at hm
        exact ⟨a, b, Dp.mono (im_sub w) rx, Dp.mono (im_sub w) ry, hm.1, hn, of_decide_eq_true hm.2, p.use G (Dp.bl _)⟩
      · cases h
  · cases h
end
end G
set_option Elab.async false
set_option linter.all false
set_option maxRecDepth 100000
set_option maxHeartbeats 4000000
/-! G4: displays, items, slices, calls of built-ins -/
namespace G
open PySem PySem.Spec L2
set_option autoImplicit false
section
variable {Γ : Gm} {X : Cx} {Z : WX} {pos : Pos}
/-! ### displays -/
def fzT (xs : List W) (S : Sto) : Option (PyData × Sto) := match frzL (frz 6) xs S with
  | some (ds, S2) => if szOk ds.length = true then some (.tuple ds, S2) else none
  | none => none
def fTup (f : Fe (List W)) : Fe W := fun ρ S => (f ρ S).bind fun xs S1 => match fzT xs S1 with
  | some (d, S2) => .ok (.d d) S2
  | none => .bad
theorem fzT_ok {K : PySem.W.Frag} {w : Wd} {vs : List V} {xs : List W} {d : PyData} {S' : Sto} (G : Good Γ K w) (r : RWs K w vs xs) (h : fzT xs w.S = some (d, S')) : ∃ ds, d = .tuple ds ∧ szOk ds.length = true ∧ Frz Γ K w S' ∧ DpAll K (Wd.im ⟨w.μ, S', w.H⟩) vs ds := by
  unfold fzT at h
  split at h
  · rename_i ds S2 e
    split at h
    · rename_i hz
      cases h
      obtain ⟨F, q⟩ := frzL_ok (Γ := Γ) (frz_ok 6) xs w vs ds _ G r e
      exact ⟨ds, rfl, hz, F, q⟩
    · cases h
  · cases h
theorem ve_tup {es : List Expr} {f : Fe (List W)} {x1} (h : VA Γ X Z es f) : VE Γ X Z (.Tuple es x1 pos) (fTup f) := by
  refine ⟨PE.mono (pe_tup h.pa) fun σ H Q q => liftR.imp (seq1 (R := RWs X.K) q) fun vs H1 ⟨xs, w, e, G, r, p⟩ => ?_⟩
  subst e
  split at p
  · rename_i d S2 e
    obtain ⟨ds, rfl, hz, F, dd⟩ := fzT_ok G r e
    have p2 : Post Γ X.K (RW X.K) ⟨w.μ, S2, w.H⟩ σ Z (.ok (.d (.tuple ds)) S2) Q := p.mono F.le
    refine ⟨by rw [Paired.len (DpAll.paired dd)]; exact Nat.le_of_lt (sz_line hz), fun pp hp => ?_⟩
    exact Post.tup (w := ⟨w.μ, S2, w.H⟩) p2 F.good dd pp hp
  · exact p.elim
def fLst (f : Fe (List W)) : Fe W := fun ρ S => (f ρ S).bind fun xs S1 => if szOk xs.length = true then .ok (.o S1.length) (S1 ++ [.lst xs]) else .bad
theorem ve_lst {es : List Expr} {f : Fe (List W)} (h : VA Γ X Z es f) : VE Γ X Z (.List es pos) (fLst f) := by
  refine ⟨PE.mono (pe_lst h.pa) fun σ H Q q => liftR.imp (seq1 (R := RWs X.K) q) fun vs H1 ⟨xs, w, e, G, r, p⟩ => ?_⟩
  subst e
  split at p
  · rename_i hz
    exact ⟨by rw [Paired.len r]; exact Nat.le_of_lt (sz_line hz), Post.lst p G r⟩
  · exact p.elim

/-! ### items -/
def gIx : Op2 := fun x y S => match y with
  | .d (.int i) => match seqOf x S with
    | some ws => (L2.atI ws i).map fun z => (z, S)
    | none => none
  | _ => none
theorem does_ix : Does2 Γ X Z gIx (rIx X.K) := fun w x y vx vy σ Q z S' G rx ry h p => by
  unfold gIx at h
  split at h
  · rename_i i
    cases (show Dp X.K w.im vy (.int i) from ry)
    split at h
    · rename_i ws e
      obtain ⟨a, vs, rfl, q, r⟩ := seqOf_ok G rx e
      cases e2 : L2.atI ws i with
      | none => rw [e2] at h; cases h
      | some z' =>
        rw [e2] at h
        cases h
        obtain ⟨v, h1, h2⟩ := Paired.atI r e2
        rcases q with q | q
        · exact .inl ⟨a, vs, i, v, rfl, rfl, q, h1, p.use G h2⟩
        · exact .inr (.inl ⟨a, vs, i, v, rfl, rfl, q, h1, p.use G h2⟩)
    · cases h
  · cases h
theorem ve_ix {a b : Expr} {f h : Fe W} (ha : VE Γ X Z a f) (hb : VE Γ X Z b h) (hs : PlainIx b := by intro _ _; rfl) : VE Γ X Z (.Subscript a b pos) (fOp2 gIx f h) :=
  ⟨PE.mono (pe_ix ix_seq ha.pe hb.pe hs) fun _ _ _ q => op2_lift does_ix q⟩
/-! dicts with keys that are ints or texts -/
def keyOf : W → Option Key
  | .d (.int i) => some (.inl i)
  | .d (.str x) => some (.inr x)
  | _ => none
theorem keyOf_ok {K : PySem.W.Frag} {w : Wd} {v : V} {x : W} {k : Key} (r : RW K w v x) (h : keyOf x = some k) : v = kV k := by
  unfold keyOf at h
  split at h
  · cases h; cases (show Dp K w.im v (.int _) from r); rfl
  · cases h; cases (show Dp K w.im v (.str _) from r); rfl
  · cases h
def dicOf (x : W) (S : Sto) : Option (List (Key × W)) := match x with
  | .o n => match S[n]? with
    | some (.dic kvs) => some kvs
    | _ => none
  | _ => none
theorem dicOf_ok {K : PySem.W.Frag} {w : Wd} {v : V} {x : W} {kvs : List (Key × W)} (G : Good Γ K w) (r : RW K w v x) (h : dicOf x w.S = some kvs) :
    ∃ n a us, x = .o n ∧ v = .ref a ∧ w.μ[n]? = some a ∧ w.S[n]? = some (.dic kvs) ∧ w.H a = some (.dK us) ∧ Paired (fun (p : Key × V) (q : Key × W) => p.1 = q.1 ∧ RW K w p.2 q.2) us kvs := by
  unfold dicOf at h
  split at h
  · rename_i n
    obtain ⟨a, ha, rfl⟩ := r
    split at h
    · rename_i e
      cases h
      obtain ⟨us, q, r⟩ := G.cell n a _ ha e
      exact ⟨n, a, us, rfl, rfl, ha, e, q, r⟩
    · cases h
  · cases h
def lookD {κ : Type} [DecidableEq κ] (kvs : List (κ × W)) (k : κ) : Option W := match kvs with
  | [] => none
  | p :: r => if p.1 = k then some p.2 else lookD r k
def putD {κ : Type} [DecidableEq κ] (kvs : List (κ × W)) (k : κ) (x : W) : List (κ × W) := if (kvs.any fun kv => decide (kv.1 = k)) = true then kvs.map (fun kv => if kv.1 = k then (kv.1, x) else kv) else kvs ++ [(k, x)]
abbrev RKs {κ : Type} (K : PySem.W.Frag) (w : Wd) : List (κ × V) → List (κ × W) → Prop := Paired (fun (p : κ × V) (q : κ × W) => p.1 = q.1 ∧ RW K w p.2 q.2)
theorem lookD_ok {κ : Type} [DecidableEq κ] {K : PySem.W.Frag} {w : Wd} {k : κ} : ∀ {us : List (κ × V)} {kvs : List (κ × W)} {x : W}, RKs K w us kvs → lookD kvs k = some x → ∃ v, valV us k = some v ∧ RW K w v x
  | _, _, _, .nil, h => by cases h
  | (k1, v1) :: us, (k2, x2) :: kvs, x, .cons ⟨e, q⟩ t, h => by
    have e : k1 = k2 := e
    subst e
    unfold lookD at h
    by_cases hk : k1 = k
    · rw [if_pos hk] at h
      cases h
      exact ⟨v1, valV_pos hk, q⟩
    · rw [if_neg hk] at h
      obtain ⟨v, h1, h2⟩ := lookD_ok t h
      exact ⟨v, by rw [valV_neg hk]; exact h1, h2⟩
theorem any_ok {κ : Type} [DecidableEq κ] {K : PySem.W.Frag} {w : Wd} {k : κ} : ∀ {us : List (κ × V)} {kvs : List (κ × W)}, RKs K w us kvs → (us.any fun kv => decide (kv.1 = k)) = (kvs.any fun kv => decide (kv.1 = k))
  | _, _, .nil => rfl
  | _, _, .cons ⟨e, q⟩ t => by simp only [List.any_cons, e, any_ok t]
theorem putD_ok {κ : Type} [DecidableEq κ] {K : PySem.W.Frag} {w : Wd} {k : κ} {us : List (κ × V)} {kvs : List (κ × W)} {v : V} {x : W} (h : RKs K w us kvs) (r : RW K w v x) : RKs K w (putK us k v) (putD kvs k x) := by
  unfold putK putD
  rw [any_ok h]
  split
  · rename_i hc; clear hc; induction h with
    | nil => exact .nil
    | @cons p q us kvs z t ih =>
      refine .cons ?_ ih
      obtain ⟨e, z⟩ := z
      dsimp only
      rw [e]
      by_cases hk : q.1 = k
      · rw [if_pos hk, if_pos hk]; exact ⟨rfl, r⟩
      · rw [if_neg hk, if_neg hk]; exact ⟨e, z⟩
  · exact Paired.app h (.cons ⟨rfl, r⟩ .nil)
def gDget : Op2 := fun x y S => match dicOf x S, keyOf y with
  | some kvs, some k => (lookD kvs k).map fun z => (z, S)
  | _, _ => none
theorem ve_dget (hu : Rm X) {a b : Expr} {f h : Fe W} (ha : VE Γ X Z a f) (hb : VE Γ X Z b h) (hs : NoSl b := by intro _ _; rfl) : VE Γ X Z (.Subscript a b pos) (fOp2 gDget f h) := by
  refine ⟨PE.mono (pe_dget (by unfold Rm at hu; omega) ha.pe hb.pe hs) fun σ H Q q => ?_⟩
  refine liftR.imp (seq2 (R := RW X.K) (R1 := RW X.K) (k := fun x y S => ofO (gDget x y S)) (fun _ _ _ _ l r => RW.mono l r) q) fun v H1 h1 => liftR.imp h1 fun u H2 ⟨x, y, w, e, G, rx, ry, p⟩ => ?_
  subst e
  unfold gDget at p
  split at p
  · rename_i kvs k e1 e2
    obtain ⟨n, a, us, rfl, rfl, ha, hn, hH, rr⟩ := dicOf_ok G rx e1
    cases e3 : lookD kvs k with
    | none => rw [e3] at p; exact p.elim
    | some z =>
      rw [e3] at p
      obtain ⟨v', h3, h4⟩ := lookD_ok rr e3
      rw [keyOf_ok ry e2]
      refine ⟨a, v', rfl, ?_, p.use G h4⟩
      rw [← h3]
      exact DGet.k hH
  · exact p.elim

/-! ### slices -/
def fNoP : Fe (Option Int) := fun _ S => .ok none S
def fPart (f : Fe W) : Fe (Option Int) := fun ρ S => (f ρ S).bind fun x S1 => match x with
  | .d (.int i) => .ok (some i) S1
  | _ => .bad
def RO (_ : Wd) (a b : Option Int) : Prop := a = b
structure VO (Γ : Gm) (X : Cx) (Z : WX) (e : Option Expr) (f : Fe (Option Int)) : Prop where
  po : PO X e (liftR Γ X.K Z RO f)
theorem PO.mono {X : Cx} {e : Option Expr} {t t' : TO} (h : PO X e t) (i : ∀ σ H Q, t' σ H Q → t σ H Q) : PO X e t' := ⟨fun pins s σ H Q I q => h.run pins s σ H Q I (i _ _ _ q)⟩
theorem vo_none : VO Γ X Z none fNoP := ⟨PO.mono po_none fun σ H Q ⟨w, ρ, e, G, s, p⟩ => by subst e; exact p.use (R := RO) G rfl⟩
theorem vo_some {e : Expr} {f : Fe W} (h : VE Γ X Z e f) : VO Γ X Z (some e) (fPart f) := by
  refine ⟨PO.mono (po_some h.pe) fun σ H Q q => liftR.imp (seq1 (R := RW X.K) (R2 := RO) q) fun v H1 ⟨x, w, e, G, r, p⟩ => ?_⟩
  subst e
  split at p
  · cases (show Dp X.K w.im v (.int _) from r)
    exact ⟨_, rfl, p.use (R := RO) G rfl⟩
  · exact p.elim
def cutW {α : Type} (xs : List α) (lo hi : Option Int) : List α := (xs.drop (HT.sIx xs.length 0 lo)).take (HT.sIx xs.length xs.length hi - HT.sIx xs.length 0 lo)
theorem Paired.cut {α : Type} {F : V → α → Prop} {l : List V} {m : List α} (h : Paired F l m) (lo hi : Option Int) : Paired F (cutV l lo hi) (cutW m lo hi) := by
  unfold cutV cutW
  rw [Paired.len h]
  exact Paired.take _ (Paired.drop _ h)
def lstOf (x : W) (S : Sto) : Option (List W) := match x with
  | .d (.list ds) => some (ds.map .d)
  | .o n => match S[n]? with
    | some (.lst ws) => some ws
    | some (.fz (.list ds)) => some (ds.map .d)
    | _ => none
  | _ => none
theorem lstOf_ok {K : PySem.W.Frag} {w : Wd} {v : V} {x : W} {ws : List W} (G : Good Γ K w) (r : RW K w v x) (h : lstOf x w.S = some ws) : ∃ a vs, v = .ref a ∧ SqL K w.H a vs ∧ RWs K w vs ws := by
  unfold lstOf at h
  split at h
  · rename_i ds
    cases h
    cases (show Dp K w.im v (.list ds) from r) with
    | lst q r => exact ⟨_, _, rfl, SqL.mono (im_sub w) q, rws_data r⟩
  · rename_i n
    obtain ⟨a, ha, rfl⟩ := r
    split at h
    · rename_i ws' e
      cases h
      obtain ⟨vs, q, r⟩ := G.cell n a _ ha e
      exact ⟨a, vs, rfl, SqL.of q, r⟩
    · rename_i ds e
      cases h
      obtain ⟨vs, ds', e1, q, r⟩ := G.cell n a _ ha e
      cases e1
      exact ⟨a, vs, rfl, SqL.of q, rws_data r⟩
    · cases h
  · cases h
/-- x[lo:hi] of a list or a tuple -/
def gSl (x : W) (lo hi : Option Int) (S : Sto) : Option (W × Sto) := match x with
  | .d (.tuple ds) => some (.d (.tuple (cutW ds lo hi)), S)
  | x => match lstOf x S with
    | some ws => some (.o S.length, S ++ [.lst (cutW ws lo hi)])
    | none => none
def fSl (f : Fe W) (l h : Fe (Option Int)) : Fe W := fun ρ S => (f ρ S).bind fun x S1 => (l ρ S1).bind fun lo S2 => (h ρ S2).bind fun hi S3 => ofO (gSl x lo hi S3)
theorem sl_both : SlR X (fun x lo hi H Q => rSlA X.K x lo hi H Q ∨ rSlL X.K x lo hi H Q) := SlR.or sl_tupA sl_list
theorem cutW_whole {α : Type} (xs : List α) (lo hi : Option Int) (h : HT.sIx xs.length 0 lo = 0 ∧ HT.sIx xs.length xs.length hi = xs.length) : cutW xs lo hi = xs := by
  unfold cutW; rw [h.1, h.2]; simp
theorem gSl_use {w3 : Wd} {x : W} {lo hi : Option Int} {v : V} {σ : L2.St} {Q : VK} (G3 : Good Γ X.K w3) (r : RW X.K w3 v x) (p3 : Post Γ X.K (RW X.K) w3 σ Z (ofO (gSl x lo hi w3.S)) Q) : rSlA X.K v lo hi w3.H Q ∨ rSlL X.K v lo hi w3.H Q := by
  unfold gSl at p3
  split at p3
  · rename_i ds
    cases (show Dp X.K w3.im v (.tuple ds) from r) with
    | tup q1 d1 =>
      have ln := Paired.len (DpAll.paired d1)
      refine .inl ⟨_, _, rfl, SqT.mono (im_sub w3) q1, fun hw => p3.use G3 ?_, fun _ => Post.tup p3 G3 (DpAll.of (Paired.cut (DpAll.paired d1) _ _))⟩
      rw [ln] at hw
      rw [cutW_whole _ _ _ hw]
      exact Dp.tup q1 d1
  · split at p3
    · rename_i ws e
      obtain ⟨a, vs, rfl, q, rr⟩ := lstOf_ok G3 r e
      exact .inr ⟨a, vs, rfl, q, Post.lst p3 G3 (Paired.cut rr _ _)⟩
    · exact p3.elim
theorem ve_slice {e : Expr} {lo hi : Option Expr} {f : Fe W} {l h : Fe (Option Int)} {p2 : Pos} (he : VE Γ X Z e f) (hl : VO Γ X Z lo l) (hh : VO Γ X Z hi h) : VE Γ X Z (.Subscript e (.Slice lo hi none p2) pos) (fSl f l h) := by
  refine ⟨PE.mono (pe_slice sl_both he.pe hl.po hh.po) fun σ H Q q => ?_⟩
  refine (liftR.bind (R := RW X.K) (k := fun x ρ S1 => (l ρ S1).bind fun lo S2 => (h ρ S2).bind fun hi S3 => ofO (gSl x lo hi S3)) q).imp fun v H1 ⟨x, w1, ρ, e1, G1, s1, r1, p1⟩ => ?_
  refine ⟨w1, ρ, e1, G1, s1, (Post.bind (R := RO) p1).imp fun lo' H2 ⟨w2, lo, e2, G2, l2, r2, p2⟩ => ?_⟩
  refine ⟨w2, ρ, e2, G2, s1.mono l2, (Post.bind (R := RO) p2).imp fun hi' H3 ⟨w3, hi, e3, G3, l3, r3, p3⟩ => ?_⟩
  subst e3
  cases (show lo' = lo from r2)
  cases (show hi' = hi from r3)
  exact gSl_use G3 (RW.mono l3 (RW.mono l2 r1)) p3

/-! ### choices, truth as values -/
def fIfE (t : Fe Bool) (f g : Fe W) : Fe W := fun ρ S => (t ρ S).bind fun b S1 => if b = true then f ρ S1 else g ρ S1
theorem ve_if {c a b : Expr} {t : Fe Bool} {f g : Fe W} (hc : VT Γ X Z c t) (ha : VE Γ X Z a f) (hb : VE Γ X Z b g) : VE Γ X Z (.IfExp c a b pos) (fIfE t f g) := by
  refine ⟨PE.mono (pe_ifExp hc.pt ha.pe hb.pe) fun σ H Q q => ?_⟩
  refine (liftR.bind (R := RB) (k := fun b ρ S1 => if b = true then f ρ S1 else g ρ S1) q).imp fun v H1 ⟨x, w1, ρ, e1, G1, s1, r1, p1⟩ => ?_
  cases (show v = x from r1)
  cases v with
  | true => exact ⟨w1, ρ, e1, G1, s1, p1⟩
  | false => exact ⟨w1, ρ, e1, G1, s1, p1⟩
def fAndE (f g : Fe W) : Fe W := fun ρ S => (f ρ S).bind fun x S1 => match x with
  | .d (.bool true) => g ρ S1
  | .d (.bool false) => .ok (.d (.bool false)) S1
  | _ => .bad
def fOrE (f g : Fe W) : Fe W := fun ρ S => (f ρ S).bind fun x S1 => match x with
  | .d (.bool false) => g ρ S1
  | .d (.bool true) => .ok (.d (.bool true)) S1
  | _ => .bad
theorem ve_one {op} {a : Expr} {f : Fe W} (h : VE Γ X Z a f) : VE Γ X Z (.BoolOp op [a] pos) f := ⟨pe_one h.pe⟩
theorem ve_and {a b : Expr} {rest : List Expr} {f g : Fe W} (ha : VE Γ X Z a f) (hb : VE Γ X Z (.BoolOp .And (b :: rest) pos) g) : VE Γ X Z (.BoolOp .And (a :: b :: rest) pos) (fAndE f g) := by
  refine ⟨PE.mono (pe_and ha.pe hb.pe) fun σ H Q q => ?_⟩
  refine (liftR.bind (R := RW X.K) (k := fun x ρ S1 => match x with
    | .d (.bool true) => g ρ S1
    | .d (.bool false) => .ok (.d (.bool false)) S1
    | _ => .bad) q).imp fun v H1 ⟨x, w, ρ, e, G, s, r, p⟩ => ?_
  subst e
  split at p
  · cases (show Dp X.K w.im v (.bool true) from r)
    exact ⟨true, rfl, iteT ⟨w, ρ, rfl, G, s, p⟩⟩
  · cases (show Dp X.K w.im v (.bool false) from r)
    exact ⟨false, rfl, iteF (p.use G (Dp.bl false))⟩
  · exact p.elim
theorem ve_or {a b : Expr} {rest : List Expr} {f g : Fe W} (ha : VE Γ X Z a f) (hb : VE Γ X Z (.BoolOp .Or (b :: rest) pos) g) : VE Γ X Z (.BoolOp .Or (a :: b :: rest) pos) (fOrE f g) := by
  refine ⟨PE.mono (pe_or ha.pe hb.pe) fun σ H Q q => ?_⟩
  refine (liftR.bind (R := RW X.K) (k := fun x ρ S1 => match x with
    | .d (.bool false) => g ρ S1
    | .d (.bool true) => .ok (.d (.bool true)) S1
    | _ => .bad) q).imp fun v H1 ⟨x, w, ρ, e, G, s, r, p⟩ => ?_
  subst e
  split at p
  · cases (show Dp X.K w.im v (.bool false) from r)
    exact ⟨false, rfl, iteF ⟨w, ρ, rfl, G, s, p⟩⟩
  · cases (show Dp X.K w.im v (.bool true) from r)
    exact ⟨true, rfl, iteT (p.use G (Dp.bl true))⟩
  · exact p.elim
def fNotE (f : Fe W) : Fe W := fun ρ S => (f ρ S).bind fun x S1 => match x with
  | .d (.bool b) => .ok (.d (.bool (!b))) S1
  | _ => .bad
theorem ve_not {a : Expr} {f : Fe W} (ha : VE Γ X Z a f) : VE Γ X Z (.UnaryOp .Not a pos) (fNotE f) := by
  refine ⟨PE.mono (pe_not ha.pe) fun σ H Q q => liftR.imp (seq1 (R := RW X.K) q) fun v H1 ⟨x, w, e, G, r, p⟩ => ?_⟩
  subst e
  split at p
  · rename_i b
    cases (show Dp X.K w.im v (.bool b) from r)
    exact ⟨b, rfl, p.use G (Dp.bl _)⟩
  · exact p.elim
def fNeg (f : Fe W) : Fe W := fun ρ S => (f ρ S).bind fun x S1 => match x with
  | .d (.int i) => .ok (.d (.int (-i))) S1
  | _ => .bad
theorem ve_neg {a : Expr} {f : Fe W} (ha : VE Γ X Z a f) : VE Γ X Z (.UnaryOp .USub a pos) (fNeg f) := by
  refine ⟨PE.mono (pe_un un_neg ha.pe) fun σ H Q q => liftR.imp (seq1 (R := RW X.K) q) fun v H1 ⟨x, w, e, G, r, p⟩ => ?_⟩
  subst e
  split at p
  · rename_i b
    cases (show Dp X.K w.im v (.int b) from r)
    exact ⟨b, rfl, p.use G (Dp.int _)⟩
  · exact p.elim

/-! ### calls of built-ins -/
abbrev OpN := List W → Sto → Option (W × Sto)
def fCB (g : OpN) (f : Fe (List W)) : Fe W := fun ρ S => (f ρ S).bind fun xs S1 => ofO (g xs S1)
def DoesN (Γ : Gm) (X : Cx) (Z : WX) (g : OpN) (r : List V → Hp → VK → Prop) : Prop := ∀ (w : Wd) (xs : List W) (vs : List V) (σ : L2.St) (Q : VK) (z : W) (S' : Sto), Good Γ X.K w → RWs X.K w vs xs → g xs w.S = some (z, S') → Post Γ X.K (RW X.K) w σ Z (.ok z S') Q → r vs w.H Q
theorem cb_lift {g : OpN} {r : List V → Hp → VK → Prop} (hd : DoesN Γ X Z g r) {f : Fe (List W)} {σ : L2.St} {H : Hp} {Q : VK} (q : liftR Γ X.K Z (RW X.K) (fCB g f) σ H Q) : tCB r (liftR Γ X.K Z (RWs X.K) f) σ H Q := by
  refine liftR.imp (seq1 (R := RWs X.K) q) fun vs H1 ⟨xs, w, e, G, rx, p⟩ => ?_
  subst e
  cases e : g xs w.S with
  | none => rw [e] at p; exact p.elim
  | some q =>
    obtain ⟨z, S'⟩ := q
    rw [e] at p
    exact hd w xs vs σ Q z S' G rx e p
theorem ve_callB {x id : String} {r : List V → Hp → VK → Prop} {g : OpN} {e : Expr} {es : List Expr} {f : Fe (List W)} {p : Pos} (hc : CallR X (.builtin id) r) (hd : DoesN Γ X Z g r) (hg : Gl X (Str.ofString x)) (hm : X.mg (Str.ofString x) = none) (hv : bootBuiltins (Str.ofString x) = some (.builtin id)) (ha : VA Γ X Z (e :: es) f)
    (hn : Str.ofString x ≠ "__name__" := by decide) (hdb : (Str.ofString x == ("__debug__" : Str)) = false := by decide) (he : starEach (e :: es) X.env = (false, eval e X.env) :: starEach es X.env := by rfl) (hpl : (backTo pos (starEach es X.env)).any (·.1) = false := by rfl) :
    VE Γ X Z (.Call (.Name (Str.ofString x) p) (e :: es) [] pos) (fCB g f) := ⟨PE.mono (pe_callB hc hg hm hv ha.pa hn hdb he hpl) fun _ _ _ q => cb_lift hd q⟩
theorem ve_callTy {x T : String} {r : List V → Hp → VK → Prop} {g : OpN} {e : Expr} {es : List Expr} {f : Fe (List W)} {p : Pos} (hc : CallR X (.type T) r) (hd : DoesN Γ X Z g r) (hg : Gl X (Str.ofString x)) (hm : X.mg (Str.ofString x) = none) (hv : bootBuiltins (Str.ofString x) = some (.type T)) (ha : VA Γ X Z (e :: es) f)
    (hn : Str.ofString x ≠ "__name__" := by decide) (hdb : (Str.ofString x == ("__debug__" : Str)) = false := by decide) (he : starEach (e :: es) X.env = (false, eval e X.env) :: starEach es X.env := by rfl) (hpl : (backTo pos (starEach es X.env)).any (·.1) = false := by rfl) :
    VE Γ X Z (.Call (.Name (Str.ofString x) p) (e :: es) [] pos) (fCB g f) := ⟨PE.mono (pe_callTy hc hg hm hv ha.pa hn hdb he hpl) fun _ _ _ q => cb_lift hd q⟩
theorem rws_one {K : PySem.W.Frag} {w : Wd} {vs : List V} {x : W} (r : RWs K w vs [x]) : ∃ v, vs = [v] ∧ RW K w v x := by
  cases r with | cons q t => cases t; exact ⟨_, rfl, q⟩
theorem rws_two {K : PySem.W.Frag} {w : Wd} {vs : List V} {x y : W} (r : RWs K w vs [x, y]) : ∃ v u, vs = [v, u] ∧ RW K w v x ∧ RW K w u y := by
  cases r with | cons q t => cases t with | cons q2 t => cases t; exact ⟨_, _, rfl, q, q2⟩
/-! len -/
def gLen : OpN := fun xs S => match xs with
  | [x] => match seqOf x S with
    | some ws => some (.d (.int ws.length), S)
    | none => none
  | _ => none
theorem does_len : DoesN Γ X Z gLen (fun xs H Q => ∃ p ys, xs = [.ref p] ∧ (SqL X.K H p ys ∨ SqT X.K H p ys) ∧ Q (.int ys.length) H) := fun w xs vs σ Q z S' G r h p => by
  unfold gLen at h
  split at h
  · rename_i x
    obtain ⟨v, rfl, rx⟩ := rws_one r
    split at h
    · rename_i ws e
      cases h
      obtain ⟨a, us, rfl, q, rr⟩ := seqOf_ok G rx e
      refine ⟨a, us, rfl, q, ?_⟩
      rw [Paired.len rr]
      exact p.use G (Dp.int _)
    · cases h
  · cases h
/-! sum, all, abs, min, max, int -/
def intsOf : List W → Option (List Int)
  | [] => some []
  | .d (.int i) :: r => match intsOf r with
    | some l => some (i :: l)
    | none => none
  | _ :: _ => none
theorem intsOf_eq : ∀ {ws : List W} {ns : List Int}, intsOf ws = some ns → ws = ns.map fun i => W.d (.int i)
  | [], _, h => by cases h; rfl
  | .d (.int i) :: r, ns, h => by
    unfold intsOf at h
    split at h
    · rename_i l e
      cases h
      rw [intsOf_eq e]; rfl
    · cases h
  | .d .none :: _, _, h => by cases h
  | .d (.bool _) :: _, _, h => by cases h
  | .d (.str _) :: _, _, h => by cases h
  | .d (.list _) :: _, _, h => by cases h
  | .d (.tuple _) :: _, _, h => by cases h
  | .d (.dict _) :: _, _, h => by cases h
  | .o _ :: _, _, h => by cases h
  | .v _ :: _, _, h => by cases h
@[simp] theorem intsOf_map (ns : List Int) : intsOf (ns.map fun i => W.d (.int i)) = some ns := by
  induction ns with
  | nil => rfl
  | cons n ns ih => simp [intsOf, ih]
def gAbs : OpN := fun xs S => match xs with
  | [.d (.int i)] => some (.d (.int (if i < 0 then -i else i)), S)
  | _ => none
theorem does_abs : DoesN Γ X Z gAbs (fun xs H Q => ∃ i, xs = [.int i] ∧ Q (.int (if i < 0 then -i else i)) H) := fun w xs vs σ Q z S' G r h p => by
  unfold gAbs at h
  split at h
  · rename_i i
    cases h
    obtain ⟨v, rfl, rx⟩ := rws_one r
    cases (show Dp X.K w.im v (.int i) from rx)
    exact ⟨i, rfl, p.use G (Dp.int _)⟩
  · cases h
def gInt1 : OpN := fun xs S => match xs with
  | [.d (.int i)] => some (.d (.int i), S)
  | [.d (.bool b)] => some (.d (.int (if b = true then 1 else 0)), S)
  | _ => none
theorem does_int1 : DoesN Γ X Z gInt1 (fun xs H Q => (∃ i, xs = [.int i] ∧ Q (.int i) H) ∨ ∃ k, xs = [.bl k] ∧ Q (.int (if k then 1 else 0)) H) := fun w xs vs σ Q z S' G r h p => by
  unfold gInt1 at h
  split at h
  · rename_i i
    cases h
    obtain ⟨v, rfl, rx⟩ := rws_one r
    cases (show Dp X.K w.im v (.int i) from rx)
    exact .inl ⟨i, rfl, p.use G (Dp.int _)⟩
  · rename_i i
    cases h
    obtain ⟨v, rfl, rx⟩ := rws_one r
    cases (show Dp X.K w.im v (.bool i) from rx)
    exact .inr ⟨i, rfl, p.use G (Dp.int _)⟩
  · cases h
/-! tuple(x), list(x) -/
def gList : OpN := fun xs S => match xs with
  | [x] => match seqOf x S with
    | some ws => some (.o S.length, S ++ [.lst ws])
    | none => none
  | _ => none
theorem does_list : DoesN Γ X Z gList (fun xs H Q => ∃ p ys, xs = [.ref p] ∧ (SqL X.K H p ys ∨ SqT X.K H p ys) ∧ ∀ l, H l = none → Q (.ref l) (upd H l (.lst ys))) := fun w xs vs σ Q z S' G r h p => by
  unfold gList at h
  split at h
  · rename_i x
    obtain ⟨v, rfl, rx⟩ := rws_one r
    split at h
    · rename_i ws e
      cases h
      obtain ⟨a, us, rfl, q, rr⟩ := seqOf_ok G rx e
      exact ⟨a, us, rfl, q, Post.lst p G rr⟩
    · cases h
  · cases h
def gTuple : OpN := fun xs S => match xs with
  | [.d (.tuple ds)] => some (.d (.tuple ds), S)
  | [x] => match lstOf x S with
    | some ws => match frzL (frz 6) ws S with
      | some (ds, S2) => some (.d (.tuple ds), S2)
      | none => none
    | none => none
  | _ => none
theorem does_tuple : DoesN Γ X Z gTuple (fun xs H Q => ∃ p ys, xs = [.ref p] ∧ ((SqL X.K H p ys ∧ ∀ l, H l = none → Q (.ref l) (upd H l (.tup ys))) ∨ (SqT X.K H p ys ∧ Q (.ref p) H))) := fun w xs vs σ Q z S' G r h p => by
  unfold gTuple at h
  split at h
  · rename_i ds
    cases h
    obtain ⟨v, rfl, rx⟩ := rws_one r
    cases (show Dp X.K w.im v (.tuple ds) from rx) with
    | tup q d => exact ⟨_, _, rfl, .inr ⟨SqT.mono (im_sub w) q, p.use G (Dp.tup q d)⟩⟩
  · rename_i x _
    obtain ⟨v, rfl, rx⟩ := rws_one r
    split at h
    · rename_i ws e
      split at h
      · rename_i ds S2 e2
        cases h
        obtain ⟨a, us, rfl, q, rr⟩ := lstOf_ok G rx e
        obtain ⟨F, dd⟩ := frzL_ok (Γ := Γ) (frz_ok 6) ws w us ds _ G rr e2
        refine ⟨a, us, rfl, .inl ⟨q, ?_⟩⟩
        have p2 : Post Γ X.K (RW X.K) ⟨w.μ, S', w.H⟩ σ Z (.ok (.d (.tuple ds)) S') Q := p.mono F.le
        exact Post.tup (w := ⟨w.μ, S', w.H⟩) p2 F.good dd
      · cases h
    · cases h
  · cases h
end
end G
set_option Elab.async false
set_option linter.all false
set_option maxRecDepth 100000
set_option maxHeartbeats 4000000
set_option autoImplicit false
/-! G5: further built-ins, over the heap -/
namespace PySem.AutoSeq1
open PySem
end PySem.AutoSeq1
namespace PySem
open PySem.W
section
variable {prog : Program} {w : World} {A : Around} {E : Value → Shared → Prop} {s : Shared}
theorem g_sum_tup {l : Addr} {xs : Array (Int × Tok)} {Q : Value → Shared → Prop} (hh : A.handled = none) (hl : s.heap.IsTuple l (intItems xs))
    (h : ∀ h' tk t', (∀ b o, s.heap.get? b = some o → h'.get? b = some o) → Q (.int (preSum (numAt xs) xs.size) t') { s with heap := h', toks := tk }) :
    wpAny (model prog w) A (call (.builtin "sum") [.ref l]) Q E s := by
  have hlt : l < s.heap.objs.size := by obtain ⟨_, e, _⟩ := hl; exact Heap.lt_size e
  refine call_sum_walkG (wpAny_pyIter_tuple hl ?_)
  refine ⟨_, [_, l], [_], _, _, _, numAt xs, rfl, Walks.tuple (A := A.in1) hh _ l (Nat.ne_of_lt hlt) (intItems xs), ⟨⟨_, Heap.get?_push_size _ rfl, rfl, rfl⟩, hl.push _⟩, fun b hb => ?_, (fun _ _ => intItems_at), fun h' tk t' hk => ?_⟩
  · show b < (s.heap.push _).objs.size
    rw [Heap.size_push]
    rcases List.mem_cons.mp hb with rfl | hb
    · exact Nat.lt_succ_self _
    · rcases List.mem_cons.mp hb with rfl | hb
      · exact Nat.lt_succ_of_lt hlt
      · cases hb
  · have := h h' tk t' (fun b o e => hk b o (fun hm => by
      have := Heap.lt_size e
      rw [List.mem_singleton.mp hm] at this
      exact Nat.lt_irrefl _ this) (Heap.get?_push_of_some _ e))
    simpa [intItems] using this
end
end PySem
set_option Elab.async false
set_option linter.all false
set_option maxRecDepth 100000
set_option maxHeartbeats 4000000
/-! G6: calls: further built-ins, methods of lists, own defs -/
namespace G
open PySem PySem.Spec L2
set_option autoImplicit false
section
variable {Γ : Gm} {X : Cx} {Z : WX} {pos : Pos}
/-! ### sum -/
theorem call_sumA (hc : X.calm = true) : CallR X (.builtin "sum") (fun vs H Q => ∃ (a : Addr) (ns : List Int), vs = [V.ref a] ∧ (SqL X.K H a (ns.map V.int) ∨ SqT X.K H a (ns.map V.int)) ∧ Q (.int ns.sum) H) := by
  intro pins s σ H vs us Q I r h
  obtain ⟨a, ns, rfl, q, k⟩ := h
  rcases q with q | q
  · exact cr_sum hc pins s σ H _ us Q I r ⟨a, ns, rfl, q, k⟩
  · obtain ⟨its, rv, hl, _⟩ := I.tuple q
    rw [Vals.ref1 r]
    obtain ⟨xs, e⟩ := (rv.ints).allInts.items
    have hi := rv.ints
    have hn : numsOf (intItems xs).toList = ns := by rw [← e]; exact hi.numsOf
    rw [nums_intItems] at hn
    rw [e] at hl
    refine PySem.g_sum_tup (I.ok.hd hc) hl fun h' tk t' hk => ⟨.int ns.sum, H, I.kept hk, ?_, k⟩
    rw [preSum_eq, List.take_of_length_le (by simp), hn]
    exact ⟨t', rfl⟩
def gSum : OpN := fun xs S => match xs with
  | [x] => match seqOf x S with
    | some ws => match intsOf ws with
      | some ns => some (.d (.int ns.sum), S)
      | none => none
    | none => none
  | _ => none
theorem does_sum : DoesN Γ X Z gSum (fun vs H Q => ∃ (a : Addr) (ns : List Int), vs = [V.ref a] ∧ (SqL X.K H a (ns.map V.int) ∨ SqT X.K H a (ns.map V.int)) ∧ Q (.int ns.sum) H) := fun w xs vs σ Q z S' G r h p => by
  unfold gSum at h
  split at h
  · obtain ⟨v, rfl, rx⟩ := rws_one r
    split at h
    · rename_i ws e
      split at h
      · rename_i ns e2
        cases h
        obtain ⟨a, us, rfl, q, rr⟩ := seqOf_ok G rx e
        rw [intsOf_eq e2] at rr
        rw [Paired.map_int rr] at q
        exact ⟨a, ns, rfl, q, p.use G (Dp.int _)⟩
      · cases h
    · cases h
  · cases h
/-! ### min, max of two, of three; sorted -/
def datsOf : List W → Option (List PyData)
  | [] => some []
  | .d x :: r => match datsOf r with
    | some l => some (x :: l)
    | none => none
  | _ :: _ => none
@[simp] theorem datsOf_map (ds : List PyData) : datsOf (ds.map .d) = some ds := by
  induction ds with
  | nil => rfl
  | cons n ns ih => simp [datsOf, ih]
def isNn : PyData → Bool
  | .none => true
  | _ => false
def alikeOk (ds : List PyData) : Bool := (ds.all fun d => ds.all fun e => PySem.W.alike d e) && ds.all (fun d => !isNn d && decide (d.depth ≤ 60))
def gMM (f : PyData → List PyData → PyData) (n : Nat) : OpN := fun xs S => match datsOf xs with
  | some (x :: r) => if xs.length = n ∧ alikeOk (x :: r) = true then some (.d (f x r), S) else none
  | _ => none
def isTup1 : PyData → Bool
  | .tuple (_ :: _) => true
  | _ => false
def noTup : PyData → Bool
  | .tuple _ => false
  | .none => false
  | _ => true
def sortOk (ds : List PyData) : Bool := alikeOk ds && (ds.all isTup1 || ds.all noTup) && szOk ds.length
def srt (ds : List PyData) : List PyData := ds.mergeSort (PySem.W.dataLe false id)
def gSort : OpN := fun xs S => match xs with
  | [x] => match lstOf x S with
    | some ws => match datsOf ws with
      | some ds => if sortOk ds = true then some (.o S.length, S ++ [.lst ((srt ds).map .d)]) else none
      | none => none
    | none => none
  | _ => none
/-! ### isinstance -/
inductive Kd where | no | bl | it | st | ls | tp | dc
  deriving DecidableEq
def Kd.name : Kd → String
  | .no => "NoneType" | .bl => "bool" | .it => "int" | .st => "str" | .ls => "list" | .tp => "tuple" | .dc => "dict"
def kdD : PyData → Kd
  | .none => .no | .bool _ => .bl | .int _ => .it | .str _ => .st | .list _ => .ls | .tuple _ => .tp | .dict _ => .dc
def kdC : Option Cell → Option Kd
  | some (.lst _) => some .ls
  | some (.fz _) => some .ls
  | some (.dic _) => some .dc
  | some (.dit _) => none
  | some (.fd _) => none
  | some (.dix _) => none
  | some (.fdx _) => none
  | some (.fk _) => none
  | none => none
def kdOf (x : W) (S : Sto) : Option Kd := match x with
  | .d d => some (kdD d)
  | .o n => kdC S[n]?
  | .v _ => none
  | .t _ => some .tp
  | .u _ => none
  | .u2 _ => none
  | .w _ => none
  | .xc _ _ _ => none
theorem kdOf_ok {K : PySem.W.Frag} {w : Wd} {v : V} {x : W} {k : Kd} (G : Good Γ K w) (r : RW K w v x) (h : kdOf x w.S = some k) : TyX K w.H v (.type k.name) := by
  cases x with
  | d x =>
    cases h
    cases x with
    | none => cases (show Dp K w.im v .none from r); exact .base .non
    | bool b => cases (show Dp K w.im v (.bool b) from r); exact .base (.bl b)
    | int b => cases (show Dp K w.im v (.int b) from r); exact .base (.int b)
    | str b => cases (show Dp K w.im v (.str b) from r); exact .base (.str b)
    | list b =>
      cases (show Dp K w.im v (.list b) from r) with
      | lst q _ =>
        rcases SqL.mono (im_sub w) q with (q | ⟨o, q⟩) | ⟨o, _, _, q, c, _⟩
        · exact .base (.lst q)
        · exact .base (.frz q)
        · exact .kList q c
    | tuple b =>
      cases (show Dp K w.im v (.tuple b) from r) with
      | tup q _ =>
        rcases SqT.mono (im_sub w) q with (q | ⟨o, q⟩) | ⟨o, _, _, q, c, _⟩
        · exact .base (.tup q)
        · exact .fTuple q
        · exact .kTuple q c
    | dict b => cases (show Dp K w.im v (.dict b) from r)
  | o n =>
    obtain ⟨a, ha, rfl⟩ := r
    have h : kdC w.S[n]? = some k := h
    cases e : w.S[n]? with
    | none => rw [e] at h; cases h
    | some c =>
      rw [e] at h
      have q := G.cell n a _ ha e
      cases c with
      | lst ws => cases h; obtain ⟨vs, q, _⟩ := q; exact .base (.lst q)
      | fz x => cases h; obtain ⟨vs, ds, _, q, _⟩ := q; exact .base (.lst q)
      | dic kvs => cases h; obtain ⟨vs, q, _⟩ := q; exact .base (.dK q)
      | dit kvs => cases h
      | fd kvs => cases h
      | dix kvs => cases h
      | fdx kvs => cases h
      | fk kvs => cases h
  | v y => cases h
  | t y =>
    obtain ⟨a, _, _, rfl, _, q, _⟩ := r
    cases h
    exact .base (.tup (Wd.im_some q).1)
  | u y => cases h
  | u2 y => cases h
  | w y => cases h
  | xc _ _ _ => cases h
def isK (k t : Kd) : Bool := decide (k = t) || (match k, t with | .bl, .it => true | _, _ => false)
theorem isK_ok (k t : Kd) : kitB k.name t.name = some (isK k t) := by
  cases k <;> cases t <;> decide +kernel
def fIsi (t : Kd) (f : Fe W) : Fe W := fun ρ S => (f ρ S).bind fun x S1 => match kdOf x S1 with
  | some k => .ok (.d (.bool (isK k t))) S1
  | none => .bad
theorem ve_isi (t : Kd) {a : Expr} {f : Fe W} {p p2 : Pos} (ha : VE Γ X Z a f) (hg : Gl X "isinstance") (hm : X.mg "isinstance" = none) (hg2 : Gl X (Str.ofString t.name)) (hm2 : X.mg (Str.ofString t.name) = none) (hv2 : bootBuiltins (Str.ofString t.name) = some (.type t.name))
    (hn2 : Str.ofString t.name ≠ "__name__") (hd2 : (Str.ofString t.name == ("__debug__" : Str)) = false)
    (hv : bootBuiltins "isinstance" = some (.builtin "isinstance") := by decide +kernel)
    (he : starEach [a, .Name (Str.ofString t.name) p2] X.env = (false, eval a X.env) :: starEach [.Name (Str.ofString t.name) p2] X.env := by rfl)
    (he2 : starEach [.Name (Str.ofString t.name) p2] X.env = (false, eval (.Name (Str.ofString t.name) p2) X.env) :: starEach [] X.env := by rfl)
    (hpl : (backTo pos (starEach [.Name (Str.ofString t.name) p2] X.env)).any (·.1) = false := by rfl) :
    VE Γ X Z (.Call (.Name "isinstance" p) [a, .Name (Str.ofString t.name) p2] [] pos) (fIsi t f) := by
  refine ⟨PE.mono (pe_callB call_isi hg hm hv (pa_cons ha.pe (pa_cons (pe_bltn (v := .ty t.name) hg2 hm2 hv2 rfl hn2 hd2) pa_nil he2) he) (by decide) (by decide) he hpl) fun σ H Q q => liftR.imp (seq1 (R := RW X.K) q) fun v H1 ⟨x, w, e, G, r, p⟩ => ?_⟩
  subst e
  split at p
  · rename_i k e
    exact ⟨v, .ty t.name, .type k.name, .type t.name, isK k t, rfl, .ty _, kdOf_ok G r e, kit_ty (isK_ok k t), p.use G (Dp.bl _)⟩
  · exact p.elim

/-! ### in, not in: data -/
/-! ### methods of lists -/
abbrev OpM := W → List W → Sto → Option (W × Sto)
def fMt (g : OpM) (f : Fe W) (h : Fe (List W)) : Fe W := fun ρ S => (f ρ S).bind fun x S1 => if (hpl x S1).isSome = true then (h ρ S1).bind fun xs S2 => ofO (g x xs S2) else .bad
def DoesM (Γ : Gm) (X : Cx) (Z : WX) (g : OpM) (r : V → List V → Hp → VK → Prop) : Prop := ∀ (w : Wd) (x : W) (v : V) (xs : List W) (vs : List V) (σ : L2.St) (Q : VK) (z : W) (S' : Sto), Good Γ X.K w → RW X.K w v x → RWs X.K w vs xs → g x xs w.S = some (z, S') → Post Γ X.K (RW X.K) w σ Z (.ok z S') Q → r v vs w.H Q
theorem ve_mt {name : Str} {id : String} {r : V → List V → Hp → VK → Prop} {g : OpM} {o e : Expr} {es : List Expr} {f : Fe W} {h : Fe (List W)} {apos cpos : Pos} (slot : Slot "list" name id) (hty : typeOf (.builtin id) = pure (.type "method_descriptor")) (hm : MtR X id r) (hd : DoesM Γ X Z g r) (ho : VE Γ X Z o f) (ha : VA Γ X Z (e :: es) h)
    (hbase : attributeBase o name X.env (eval o X.env) = eval o X.env := by rfl)
    (hfew : ((backTo cpos (starEach (e :: es) X.env)).all (fun x => !x.1) && (backToKw cpos (keywordEach [] X.env)).all (fun x => x.1.isSome)
      && decide ((e :: es).length + ([] : List Keyword).length + (if ([] : List Keyword).isEmpty then 0 else 1) < 30)) = true := by rfl)
    (hline : (apos.endLine == cpos.line) = true := by rfl) (hs : starEach (e :: es) X.env = (false, eval e X.env) :: starEach es X.env := by rfl) (hplain : (backTo cpos (starEach es X.env)).any (·.1) = false := by rfl) :
    VE Γ X Z (.Call (.Attribute o name apos) (e :: es) [] cpos) (fMt g f h) := by
  refine ⟨PE.mono (pe_bm PySem.F.plainAttrs_list slot hty hm ho.pe ha.pa hbase hfew hline hs hplain) fun σ H Q q => ?_⟩
  refine (liftR.bind (R := RW X.K) (k := fun x ρ S1 => if (hpl x S1).isSome = true then (h ρ S1).bind fun xs S2 => ofO (g x xs S2) else .bad) q).imp fun v H1 ⟨x, w1, ρ, e1, G1, s1, r1, p1⟩ => ?_
  subst e1
  by_cases hh : (hpl x w1.S).isSome = true
  · rw [if_pos hh] at p1
    obtain ⟨ws, hw⟩ := Option.isSome_iff_exists.mp hh
    obtain ⟨a, vs, rfl, hH, _⟩ := hpl_ok G1 r1 hw
    refine ⟨Or.inl ⟨rfl, _, SqL.of hH⟩, w1, ρ, rfl, G1, s1, (Post.bind (R := RWs X.K) p1).imp fun us H2 ⟨w2, xs, e2, G2, l2, r2, p2⟩ => ?_⟩
    subst e2
    cases e : g x xs w2.S with
    | none => rw [e] at p2; exact p2.elim
    | some q =>
      obtain ⟨z, S'⟩ := q
      rw [e] at p2
      exact hd w2 x _ xs us σ Q z S' G2 (RW.mono l2 r1) r2 e p2
  · rw [if_neg hh] at p1; exact p1.elim
def gApp : OpM := fun x xs S => match x, xs with
  | .o n, [y] => match S[n]? with
    | some (.lst ws) => if szOk ws.length = true then some (.d .none, S.set n (.lst (ws ++ [y]))) else none
    | _ => none
  | _, _ => none
theorem does_app : DoesM Γ X Z gApp rAppend := fun w x v xs vs σ Q z S' G r rs h p => by
  unfold gApp at h
  split at h
  · rename_i n y
    obtain ⟨a, ha, rfl⟩ := r
    obtain ⟨u, rfl, ru⟩ := rws_one rs
    split at h
    · rename_i ws e
      split at h
      · rename_i hz
        cases h
        obtain ⟨us, q, rr⟩ := G.cell n a _ ha e
        exact ⟨a, us, u, rfl, rfl, q, by rw [Paired.len rr]; exact sz_line hz, Post.setL p G ha e rfl (Paired.app rr (.cons ru .nil)) (show Dp X.K w.im .non .none from .non)⟩
      · cases h
    · cases h
  · cases h
end
end G
set_option Elab.async false
set_option linter.all false
set_option maxRecDepth 100000
set_option maxHeartbeats 4000000
/-! G7: statements, loops, comprehensions, defs -/
namespace G
open PySem PySem.Spec L2
set_option autoImplicit false
inductive Fl where
  | nx (ρ : Slt) (S : Sto)
  | rt (x : W) (S : Sto)
  | bk (ρ : Slt) (S : Sto)
  | ct (ρ : Slt) (S : Sto)
  | ex (e : Exn) (ρ : Slt) (S : Sto)
  | bad
abbrev Fs := Slt → Sto → Fl
def Out.fl {α : Type} (ρ : Slt) (r : Out α) (k : α → Sto → Fl) : Fl := match r with
  | .ok a S => k a S
  | .ex e S => .ex e ρ S
  | .bad => .bad
@[simp] theorem fl_ok {α : Type} (a : α) (S : Sto) (ρ : Slt) (k : α → Sto → Fl) : (Out.ok a S).fl ρ k = k a S := id rfl
@[simp] theorem fl_ex {α : Type} (e : Exn) (S : Sto) (ρ : Slt) (k : α → Sto → Fl) : (Out.ex e S).fl ρ k = .ex e ρ S := id rfl
@[simp] theorem fl_bad {α : Type} (ρ : Slt) (k : α → Sto → Fl) : (Out.bad : Out α).fl ρ k = .bad := id rfl
section
variable (Γ : Gm) (K : PySem.W.Frag)
def PostS (w : Wd) (Z : WX) (r : Fl) (D : Ends) : Prop := match r with
  | .nx ρ S' => ∀ w1 σ1, w1.S = S' → w.le w1 → Good Γ K w1 → Slots K w1 σ1 ρ → D.nx σ1 w1.H
  | .rt x S' => ∀ w1 v, w1.S = S' → w.le w1 → Good Γ K w1 → RW K w1 v x → D.rt v w1.H
  | .bk ρ S' => ∀ w1 σ1, w1.S = S' → w.le w1 → Good Γ K w1 → Slots K w1 σ1 ρ → D.bk σ1 w1.H
  | .ct ρ S' => ∀ w1 σ1, w1.S = S' → w.le w1 → Good Γ K w1 → Slots K w1 σ1 ρ → D.ct σ1 w1.H
  | .ex e ρ S' => ∀ w1 σ1 cls d, w1.S = S' → w.le w1 → Good Γ K w1 → Slots K w1 σ1 ρ → RX Γ K w1 cls d e → Z cls d σ1 w1.H
  | .bad => False
end
section
variable {Γ : Gm} {K : PySem.W.Frag} {w w1 : Wd} {Z : WX} {r : Fl} {D : Ends}
theorem PostS.mono (h : w.le w1) (p : PostS Γ K w Z r D) : PostS Γ K w1 Z r D := by
  cases r with
  | nx ρ S' => exact fun w2 v e l g q => p w2 v e (h.trans l) g q
  | rt ρ S' => exact fun w2 v e l g q => p w2 v e (h.trans l) g q
  | bk ρ S' => exact fun w2 v e l g q => p w2 v e (h.trans l) g q
  | ct ρ S' => exact fun w2 v e l g q => p w2 v e (h.trans l) g q
  | ex e ρ S' => exact fun w2 v c d e l g q => p w2 v c d e (h.trans l) g q
  | bad => exact p
theorem PostS.nx_use {ρ : Slt} {σ : L2.St} (p : PostS Γ K w Z (.nx ρ w.S) D) (G : Good Γ K w) (s : Slots K w σ ρ) : D.nx σ w.H := p w σ rfl (Wd.le.refl w) G s
theorem PostS.rt_use {x : W} {v : V} (p : PostS Γ K w Z (.rt x w.S) D) (G : Good Γ K w) (s : RW K w v x) : D.rt v w.H := p w v rfl (Wd.le.refl w) G s
end
def liftS (Γ : Gm) (K : PySem.W.Frag) (Z : WX) (f : Fs) : TS := fun D σ H => ∃ w ρ, w.H = H ∧ Good Γ K w ∧ Slots K w σ ρ ∧ PostS Γ K w Z (f ρ w.S) D
structure VS (Γ : Gm) (X : Cx) (Z : WX) (st : Stmt) (f : Fs) : Prop where
  ps : PS X st (liftS Γ X.K Z f)
structure VB (Γ : Gm) (X : Cx) (Z : WX) (st : List Stmt) (f : Fs) : Prop where
  ps : PSs X st (liftS Γ X.K Z f)
section
variable {Γ : Gm} {X : Cx} {Z : WX} {pos : Pos}
theorem liftS.out {α β : Type} {R : Wd → β → α → Prop} {f : Fe α} {k : α → Slt → Sto → Fl} {D : Ends} {σ : L2.St} {H : Hp} (h : liftS Γ X.K Z (fun ρ S => (f ρ S).fl ρ fun x S1 => k x ρ S1) D σ H) :
    liftR Γ X.K Z R f σ H fun v H1 => ∃ x w1 ρ, w1.H = H1 ∧ Good Γ X.K w1 ∧ Slots X.K w1 σ ρ ∧ R w1 v x ∧ PostS Γ X.K w1 Z (k x ρ w1.S) D := by
  obtain ⟨w, ρ, e, G, s, p⟩ := h
  refine ⟨w, ρ, e, G, s, ?_⟩
  replace p : PostS Γ X.K w Z ((f ρ w.S).fl ρ fun x S1 => k x ρ S1) D := p
  cases q : f ρ w.S with
  | ok x S' =>
    rw [q] at p
    intro w1 v e1 l g r
    subst e1
    exact ⟨x, w1, ρ, rfl, g, s.mono l, r, PostS.mono l p⟩
  | ex e S' =>
    rw [q] at p
    exact fun w1 c d e1 l g r => p w1 σ c d e1 l g (s.mono l) r
  | bad => rw [q] at p; exact p
/-! ### small statements -/
def fSkip : Fs := fun ρ S => .nx ρ S
def fSeq (f g : Fs) : Fs := fun ρ S => match f ρ S with
  | .nx ρ1 S1 => g ρ1 S1
  | r => r
def fExp (f : Fe W) : Fs := fun ρ S => (f ρ S).fl ρ fun _ S1 => .nx ρ S1
def fRet (f : Fe W) : Fs := fun ρ S => (f ρ S).fl ρ fun x S1 => .rt x S1
def fRetN : Fs := fun _ S => .rt (.d .none) S
def fSet (i : Nat) (f : Fe W) : Fs := fun ρ S => (f ρ S).fl ρ fun x S1 => .nx (ρ.set i (some x)) S1
def fIf (c : Fe Bool) (f g : Fs) : Fs := fun ρ S => (c ρ S).fl ρ fun b S1 => if b = true then f ρ S1 else g ρ S1
def fBad : Fs := fun _ _ => .bad
theorem vb_nil : VB Γ X Z [] fSkip := ⟨PSs.mono pss_nil fun D σ H ⟨w, ρ, e, G, s, p⟩ => by subst e; exact PostS.nx_use p G s⟩
theorem seq_lift {f g : Fs} {D : Ends} {σ : L2.St} {H : Hp} (h : liftS Γ X.K Z (fSeq f g) D σ H) : liftS Γ X.K Z f { D with nx := liftS Γ X.K Z g D } σ H := by
  obtain ⟨w, ρ, e, G, s, p⟩ := h
  refine ⟨w, ρ, e, G, s, ?_⟩
  unfold fSeq at p
  cases q : f ρ w.S with
  | nx ρ1 S1 =>
    rw [q] at p
    intro w1 σ1 e1 l g r
    subst e1
    exact ⟨w1, ρ1, rfl, g, r, PostS.mono l p⟩
  | rt x S1 => rw [q] at p; exact p
  | bk x S1 => rw [q] at p; exact p
  | ct x S1 => rw [q] at p; exact p
  | ex x y S1 => rw [q] at p; exact p
  | bad => rw [q] at p; exact p
theorem vb_cons {st : Stmt} {rest : List Stmt} {f g : Fs} (h1 : VS Γ X Z st f) (h2 : VB Γ X Z rest g) : VB Γ X Z (st :: rest) (fSeq f g) := ⟨PSs.mono (pss_cons h1.ps h2.ps) fun _ _ _ h => seq_lift h⟩
theorem vb_one {st : Stmt} {f : Fs} (h1 : VS Γ X Z st f) : VB Γ X Z [st] f := ⟨pss_one h1.ps⟩
theorem vs_bad {st : Stmt} : VS Γ X Z st fBad := ⟨PS.mono ps_never fun D σ H ⟨w, ρ, e, G, s, p⟩ => p.elim⟩
theorem vs_expr {e : Expr} {f : Fe W} (h : VE Γ X Z e f) (hs : swapsWith e none pos.line X.env = pure false := by rfl) : VS Γ X Z (.Expr e pos) (fExp f) :=
  ⟨PS.mono (ps_expr h.pe hs) fun D σ H q => (liftS.out (R := RW X.K) (k := fun _ ρ S1 => .nx ρ S1) q).imp fun v H1 ⟨x, w, ρ, e, G, s, r, p⟩ => by subst e; exact PostS.nx_use p G s⟩
theorem vs_ret {e : Expr} {f : Fe W} (h : VE Γ X Z e f) : VS Γ X Z (.Return (some e) pos) (fRet f) :=
  ⟨PS.mono (ps_ret h.pe) fun D σ H q => (liftS.out (R := RW X.K) (k := fun x _ S1 => .rt x S1) q).imp fun v H1 ⟨x, w, ρ, e, G, s, r, p⟩ => by subst e; exact PostS.rt_use p G r⟩
theorem vs_set (i : Nat) {x : Str} {e : Expr} {f : Fe W} {p' : Pos} (h : VE Γ X Z e f) (hN : X.N.Nodup) (hi : X.N[i]? = some x := by rfl) (hx : Loc X.env.scope x := by first | exact Or.inl rfl | exact Or.inr rfl)
    (hs : swapsWith e (some (.Name x p')) pos.line X.env = pure false := by rfl) (hf : X.fn x = true ∨ X.env.scope.names.lookup x = some .local := by first | exact .inl rfl | exact .inr rfl) : VS Γ X Z (.Assign [.Name x p'] e pos) (fSet i f) :=
  ⟨PS.mono (ps_set hN hi hx h.pe hs hf) fun D σ H q => (liftS.out (R := RW X.K) (k := fun x ρ S1 => .nx (ρ.set i (some x)) S1) q).imp fun v H1 ⟨x, w, ρ, e, G, s, r, p⟩ => by subst e; exact PostS.nx_use p G (s.set r i)⟩
theorem vs_if {c : Expr} {a b : List Stmt} {t : Fe Bool} {f g : Fs} (hc : VT Γ X Z c t) (ha : VB Γ X Z a f) (hb : VB Γ X Z b g) : VS Γ X Z (.If c a b pos) (fIf t f g) :=
  ⟨PS.mono (ps_if hc.pt ha.ps hb.ps) fun D σ H q => (liftS.out (R := RB) (k := fun b ρ S1 => if b = true then f ρ S1 else g ρ S1) q).imp fun v H1 ⟨x, w, ρ, e, G, s, r, p⟩ => by
    cases (show v = x from r)
    cases v with
    | true => exact ⟨w, ρ, e, G, s, p⟩
    | false => exact ⟨w, ρ, e, G, s, p⟩⟩

/-! ### targets -/
abbrev Gt := W → Slt → Sto → Option Slt
theorem wipe_cons (σ : L2.St) (i : Nat) (vs : List Nat) : wipe σ (i :: vs) = (wipe σ vs).set i none := rfl
theorem wipe_get : ∀ (σ : L2.St) (vs : List Nat) (i : Nat), (wipe σ vs)[i]? = if i ∈ vs ∧ i < σ.length then some none else σ[i]?
  | σ, [], i => by simp [wipe]
  | σ, v :: vs, i => by
    rw [wipe_cons]
    by_cases h : v = i
    · subst h
      by_cases hl : v < σ.length
      · rw [List.getElem?_set_self (by rw [wipe_length]; exact hl), if_pos ⟨by simp, hl⟩]
      · rw [List.getElem?_eq_none (by rw [List.length_set, wipe_length]; omega), if_neg (fun z => hl z.2), List.getElem?_eq_none (by omega)]
    · rw [List.getElem?_set_ne h, wipe_get σ vs i]
      have : (i ∈ v :: vs) ↔ i ∈ vs := by
        simp only [List.mem_cons]
        exact ⟨fun z => z.resolve_left (fun e => h e.symm), .inr⟩
      simp only [this]
theorem wipe_set {σ : L2.St} {vs : List Nat} {i : Nat} {v : Option V} (h : i ∈ vs) : wipe (σ.set i v) vs = wipe σ vs := by
  apply List.ext_getElem?
  intro j
  rw [wipe_get, wipe_get]
  by_cases hj : i = j
  · subst hj
    by_cases hl : i < σ.length
    · rw [if_pos ⟨h, by simpa using hl⟩, if_pos ⟨h, hl⟩]
    · rw [if_neg (fun z => hl (by simpa using z.2)), if_neg (fun z => hl z.2)]
      rw [List.getElem?_eq_none (by simpa using Nat.le_of_not_lt hl), List.getElem?_eq_none (Nat.le_of_not_lt hl)]
  · rw [List.getElem?_set_ne hj]
    simp only [List.length_set]
def liftG (Γ : Gm) (K : PySem.W.Frag) (is : List Nat) (g : Gt) : TG := fun v σ H Q => ∃ w ρ x ρ', w.H = H ∧ Good Γ K w ∧ Slots K w σ ρ ∧ RW K w v x ∧ g x ρ w.S = some ρ' ∧
  ∀ σ1, Slots K w σ1 ρ' → (∀ vs : List Nat, (∀ i ∈ is, i ∈ vs) → wipe σ1 vs = wipe σ vs) → Q σ1 H
def liftGs (Γ : Gm) (K : PySem.W.Frag) (is : List Nat) (g : List W → Slt → Sto → Option Slt) : TGs := fun vs σ H Q => ∃ w ρ xs ρ', w.H = H ∧ Good Γ K w ∧ Slots K w σ ρ ∧ RWs K w vs xs ∧ g xs ρ w.S = some ρ' ∧
  ∀ σ1, Slots K w σ1 ρ' → (∀ vs : List Nat, (∀ i ∈ is, i ∈ vs) → wipe σ1 vs = wipe σ vs) → Q σ1 H
structure VG (Γ : Gm) (X : Cx) (e : Expr) (is : List Nat) (g : Gt) : Prop where
  pg : PG X e (liftG Γ X.K is g)
structure VGs (Γ : Gm) (X : Cx) (e : List Expr) (is : List Nat) (g : List W → Slt → Sto → Option Slt) : Prop where
  pg : PGs X e (liftGs Γ X.K is g)
theorem PG.mono {X : Cx} {e : Expr} {t t' : TG} (h : PG X e t) (i : ∀ v σ H Q, t' v σ H Q → t v σ H Q) : PG X e t' := ⟨fun pins s σ H v u Q I r q => h.run pins s σ H v u Q I r (i _ _ _ _ q)⟩
theorem PGs.mono {X : Cx} {e : List Expr} {t t' : TGs} (h : PGs X e t) (i : ∀ v σ H Q, t' v σ H Q → t v σ H Q) : PGs X e t' := ⟨fun pins s σ H v u Q I r q => h.run pins s σ H v u Q I r (i _ _ _ _ q)⟩
theorem PG.or {X : Cx} {e : Expr} {t t' : TG} (h : PG X e t) (h' : PG X e t') : PG X e (fun v σ H Q => t v σ H Q ∨ t' v σ H Q) := ⟨fun pins s σ H v u Q I r q => q.elim (h.run pins s σ H v u Q I r) (h'.run pins s σ H v u Q I r)⟩
def gNm (i : Nat) : Gt := fun x ρ _ => some (ρ.set i (some x))
theorem vg_name (i : Nat) {x : Str} (hN : X.N.Nodup) (hi : X.N[i]? = some x := by rfl) (hx : Loc X.env.scope x := by first | exact Or.inl rfl | exact Or.inr rfl) (hf : X.fn x = true ∨ X.env.scope.names.lookup x = some .local := by first | exact .inl rfl | exact .inr rfl) : VG Γ X (.Name x pos) [i] (gNm i) := by
  refine ⟨PG.mono (pg_name hN hi hx hf) fun v σ H Q ⟨w, ρ, x, ρ', e, G, s, r, eg, h⟩ => ?_⟩
  cases eg
  exact h _ (s.set r i) fun vs hv => wipe_set (hv i (by simp))
def gsNil : List W → Slt → Sto → Option Slt := fun xs ρ _ => match xs with
  | [] => some ρ
  | _ => none
def gsCons (g : Gt) (gs : List W → Slt → Sto → Option Slt) : List W → Slt → Sto → Option Slt := fun xs ρ S => match xs with
  | x :: r => match g x ρ S with
    | some ρ1 => gs r ρ1 S
    | none => none
  | [] => none
theorem vgs_nil : VGs Γ X [] [] gsNil := by
  refine ⟨PGs.mono pgs_nil fun v σ H Q ⟨w, ρ, xs, ρ', e, G, s, r, eg, h⟩ => ?_⟩
  cases xs with
  | nil => cases r; cases eg; exact ⟨rfl, h _ s fun _ _ => rfl⟩
  | cons x r => cases eg
theorem vgs_cons {e : Expr} {es : List Expr} {is js : List Nat} {g : Gt} {gs : List W → Slt → Sto → Option Slt} (h1 : VG Γ X e is g) (h2 : VGs Γ X es js gs)
    (hs : (assignEach (e :: es) X.env).map (·.2) = assign e X.env :: (assignEach es X.env).map (·.2) := by rfl) : VGs Γ X (e :: es) (is ++ js) (gsCons g gs) := by
  refine ⟨PGs.mono (pgs_cons h1.pg h2.pg hs) fun vs σ H Q ⟨w, ρ, xs, ρ', e, G, s, r, eg, h⟩ => ?_⟩
  unfold gsCons at eg
  cases xs with
  | nil => cases eg
  | cons x xr =>
    cases r with
    | cons q t =>
      dsimp only at eg
      split at eg
      · rename_i ρ1 e1
        refine ⟨_, _, rfl, w, ρ, x, ρ1, e, G, s, q, e1, fun σ1 s1 hw1 => ?_⟩
        refine ⟨w, ρ1, xr, ρ', e, G, s1, t, eg, fun σ2 s2 hw2 => h σ2 s2 fun vs hv => ?_⟩
        rw [hw2 vs (fun i hi => hv i (by simp [hi])), hw1 vs (fun i hi => hv i (by simp [hi]))]
      · cases eg
/-- a, b, .. = a tuple or a list -/
def gTp (n : Nat) (gs : List W → Slt → Sto → Option Slt) : Gt := fun x ρ S => match seqOf x S with
  | some ws => if ws.length = n then gs ws ρ S else none
  | none => none
theorem vg_tup {es : List Expr} {k : Nat} {is : List Nat} {gs : List W → Slt → Sto → Option Slt} {n : Nat} (h : VGs Γ X es is gs) (hc : X.calm = true := by rfl)
    (hn : (assignEach es X.env).length = n := by rfl) (hst : (assignEach es X.env).findIdx? (·.1) = none := by rfl) : VG Γ X (.Tuple es k pos) is (gTp n gs) := by
  refine ⟨PG.mono (PG.or (pg_tup hc h.pg hn hst) (pg_lst hc h.pg hn hst)) fun v σ H Q ⟨w, ρ, x, ρ', e, G, s, r, eg, k⟩ => ?_⟩
  unfold gTp at eg
  split at eg
  · rename_i ws e1
    split at eg
    · rename_i hl
      obtain ⟨a, vs, rfl, q, rr⟩ := seqOf_ok G r e1
      have e' := e
      subst e'
      rcases q with q | q
      · exact .inr ⟨a, vs, rfl, q, by rw [Paired.len rr]; exact hl, w, ρ, ws, ρ', rfl, G, s, rr, eg, k⟩
      · exact .inl ⟨a, vs, rfl, q, by rw [Paired.len rr]; exact hl, w, ρ, ws, ρ', rfl, G, s, rr, eg, k⟩
    · cases eg
  · cases eg
def fAsg (g : Gt) (f : Fe W) : Fs := fun ρ S => (f ρ S).fl ρ fun x S1 => match g x ρ S1 with
  | some ρ1 => .nx ρ1 S1
  | none => .bad
theorem vs_asg {tg e : Expr} {is : List Nat} {f : Fe W} {g : Gt} (he : VE Γ X Z e f) (hg : VG Γ X tg is g) (hs : swapsWithSole [tg] e pos.line X.env = pure false := by rfl) (hw : swappedStores [tg] e X.env = pure none := by rfl)
    (h1 : (assignEach [tg] X.env).map (·.2) = [assign tg X.env] := by rfl) : VS Γ X Z (.Assign [tg] e pos) (fAsg g f) := by
  refine ⟨PS.mono (ps_asg he.pe hg.pg hs hw h1) fun D σ H q => (liftS.out (R := RW X.K) (k := fun x ρ S1 => match g x ρ S1 with
    | some ρ1 => .nx ρ1 S1
    | none => .bad) q).imp fun v H1 ⟨x, w, ρ, e, G, s, r, p⟩ => ?_⟩
  split at p
  · rename_i ρ1 e1
    subst e
    exact ⟨w, ρ, x, ρ1, rfl, G, s, r, e1, fun σ1 s1 _ => PostS.nx_use p G s1⟩
  · exact p.elim
def fPar (i j : Nat) (f : Fe (List W)) : Fs := fun ρ S => (f ρ S).fl ρ fun xs S1 => match xs with
  | [x, y] => .nx ((ρ.set i (some x)).set j (some y)) S1
  | _ => .bad
theorem vs_par (i j : Nat) {x y : Str} {a b : Expr} {f : Fe (List W)} {px py pt : Pos} {kt k2 pt2} (ha : VA Γ X Z [a, b] f) (hN : X.N.Nodup) (hw : swappedStores [.Tuple [.Name x px, .Name y py] kt pt] (.Tuple [a, b] k2 pt2) X.env = pure (some [x, y]))
    (hc : X.calm = true := by rfl) (hi : X.N[i]? = some x := by rfl) (hj : X.N[j]? = some y := by rfl) (hij : i ≠ j := by decide)
    (hx : X.env.scope.names.lookup x = some .local := by rfl) (hy : X.env.scope.names.lookup y = some .local := by rfl)
    (hs : swapsWithSole [.Tuple [.Name x px, .Name y py] kt pt] (.Tuple [a, b] k2 pt2) pos.line X.env = pure false := by rfl) : VS Γ X Z (.Assign [.Tuple [.Name x px, .Name y py] kt pt] (.Tuple [a, b] k2 pt2) pos) (fPar i j f) := by
  refine ⟨PS.mono (ps_par hc hN hi hj hij hx hy ha.pa hw hs) fun D σ H q => (liftS.out (R := RWs X.K) (k := fun xs ρ S1 => match xs with
    | [x, y] => .nx ((ρ.set i (some x)).set j (some y)) S1
    | _ => .bad) q).imp fun v H1 ⟨xs, w, ρ, e, G, s, r, p⟩ => ?_⟩
  split at p
  · subst e
    obtain ⟨v1, v2, rfl, r1, r2⟩ := rws_two r
    exact ⟨v1, v2, rfl, PostS.nx_use p G ((s.set r1 i).set r2 j)⟩
  · exact p.elim
end
end G
set_option Elab.async false
set_option linter.all false
set_option maxRecDepth 100000
set_option maxHeartbeats 4000000
/-! G8: loops, comprehensions -/
namespace G
open PySem PySem.Spec L2
set_option autoImplicit false
/-! ### what is walked -/
structure WalkD (Γ : Gm) (K : PySem.W.Frag) (w : Wd) (J : It) (ds : List PyData) : Prop where
  ex : ∃ (G : Hp → Prop) (Y : Nat → Hp → V → Hp → Prop), Walk J ds.length G Y ∧ (∀ w', w.le w' → Good Γ K w' → G w'.H) ∧
    ∀ (i : Nat) (w' : Wd) (x : V) (H' : Hp), i < ds.length → w.le w' → Good Γ K w' → Y i w'.H x H' → ∃ w'', w''.H = H' ∧ w''.S = w'.S ∧ w'.le w'' ∧ Good Γ K w'' ∧ ∃ y, ds[i]? = some y ∧ RW K w'' x (.d y)
structure VI (Γ : Gm) (X : Cx) (Z : WX) (tg iter : Expr) (f : Fe (List PyData)) : Prop where
  pi : PI X tg iter (liftR Γ X.K Z (WalkD Γ X.K) f)
theorem PI.mono {X : Cx} {tg e : Expr} {t t' : TI} (h : PI X tg e t) (i : ∀ σ H Q, t' σ H Q → t σ H Q) : PI X tg e t' := ⟨fun pins s σ H R I q => h.run pins s σ H R I (i _ _ _ q)⟩
section
variable {Γ : Gm} {X : Cx} {Z : WX} {pos : Pos}
theorem walkD_tup {K : PySem.W.Frag} {w : Wd} {a : Addr} {xs : List V} {ds : List PyData} (q : SqT K w.im a xs) (d : DpAll K w.im xs ds) : WalkD Γ K w (Itt K a) ds := by
  have hl := Paired.len (DpAll.paired d)
  refine ⟨fun H => SqT K H a xs, YAt xs, ?_, fun w' l _ => SqT.mono (im_sub w') (SqT.mono l.im q), fun i w' x H' hi l G ⟨e1, e2⟩ => ?_⟩
  · rw [← hl]; exact walk_tup
  · subst e1
    refine ⟨w', rfl, rfl, Wd.le.refl _, G, ds[i], by simp [hi], ?_⟩
    obtain ⟨x', h1, h2⟩ := Paired.get (DpAll.paired d) (i := i) (y := ds[i]) (by simp [hi])
    rw [e2] at h1
    cases h1
    exact Dp.mono l.im h2
theorem walkD_lst {K : PySem.W.Frag} {w : Wd} {a : Addr} {xs : List V} {ds : List PyData} (q : SqL K w.im a xs) (d : DpAll K w.im xs ds) : WalkD Γ K w (Itl K a) ds := by
  have hl := Paired.len (DpAll.paired d)
  refine ⟨fun H => SqL K H a xs, YAt xs, ?_, fun w' l _ => SqL.mono (im_sub w') (SqL.mono l.im q), fun i w' x H' hi l G ⟨e1, e2⟩ => ?_⟩
  · rw [← hl]; exact walk_list
  · subst e1
    refine ⟨w', rfl, rfl, Wd.le.refl _, G, ds[i], by simp [hi], ?_⟩
    obtain ⟨x', h1, h2⟩ := Paired.get (DpAll.paired d) (i := i) (y := ds[i]) (by simp [hi])
    rw [e2] at h1
    cases h1
    exact Dp.mono l.im h2
theorem WalkD.mono {K : PySem.W.Frag} {w w1 : Wd} {J : It} {ds : List PyData} (l : w.le w1) (h : WalkD Γ K w J ds) : WalkD Γ K w1 J ds := by
  obtain ⟨G, Y, a, b, c⟩ := h.ex
  exact ⟨G, Y, a, fun w' l' g => b w' (l.trans l') g, fun i w' x H' hi l' g y => c i w' x H' hi (l.trans l') g y⟩
/-- the items as data, for good -/
def itemsOf (x : W) (S : Sto) : Option (List PyData × Sto) := match frz 6 x S with
  | some (.tuple ds, S1) => some (ds, S1)
  | some (.list ds, S1) => some (ds, S1)
  | _ => none
theorem itemsOf_ok {K : PySem.W.Frag} {w : Wd} {v : V} {x : W} {ds : List PyData} {S1 : Sto} (G : Good Γ K w) (r : RW K w v x) (h : itemsOf x w.S = some (ds, S1)) :
    Frz Γ K w S1 ∧ ∃ a xs, v = .ref a ∧ (SqT K (Wd.im ⟨w.μ, S1, w.H⟩) a xs ∨ SqL K (Wd.im ⟨w.μ, S1, w.H⟩) a xs) ∧ DpAll K (Wd.im ⟨w.μ, S1, w.H⟩) xs ds := by
  unfold itemsOf at h
  split at h
  · rename_i e
    cases h
    obtain ⟨F, d⟩ := frz_ok (Γ := Γ) 6 w v x _ _ G r e
    cases d with
    | tup q d => exact ⟨F, _, _, rfl, .inl q, d⟩
  · rename_i e
    cases h
    obtain ⟨F, d⟩ := frz_ok (Γ := Γ) 6 w v x _ _ G r e
    cases d with
    | lst q d => exact ⟨F, _, _, rfl, .inr q, d⟩
  · cases h
def fIt (f : Fe W) : Fe (List PyData) := fun ρ S => (f ρ S).bind fun x S1 => ofO (itemsOf x S1)
theorem it_lst {tg : Expr} {pins : List (Addr × Obj)} {σ : L2.St} {H1 : Hp} {s1 : Shared} {R : It → Hp → Prop} {a : Addr} {xs : List V} (I1 : Inv X pins σ H1 s1) (hq : SqL X.K H1 a xs) (q : R (Itl X.K a) H1) :
    wpAny (model X.prog X.w) X.A (pyIter (.ref a)) (PIE X pins σ tg R) X.xe s1 := by
  obtain ⟨its, rv, p, hz⟩ := I1.list hq
  refine wpAny_pyIter_list p.isList ?_
  refine ⟨s1.heap.objs.size, [s1.heap.objs.size], _, _, H1, rfl, I1.kept (t' := s1.toks) fun b o e => Heap.get?_push_of_some _ e, turn_list a _, ⟨_, Heap.get?_push_size _ rfl, rfl, rfl⟩, fun b hb => ?_, q⟩
  have e : b = s1.heap.objs.size := by simpa using hb
  subst e
  exact I1.fpOk (Nat.le_refl _) (I1.hok.fresh (Nat.le_refl _))
theorem it_tup {tg : Expr} {pins : List (Addr × Obj)} {σ : L2.St} {H1 : Hp} {s1 : Shared} {R : It → Hp → Prop} {a : Addr} {xs : List V} (I1 : Inv X pins σ H1 s1) (hq : SqT X.K H1 a xs) (q : R (Itt X.K a) H1) :
    wpAny (model X.prog X.w) X.A (pyIter (.ref a)) (PIE X pins σ tg R) X.xe s1 := by
  obtain ⟨its, rv, p, hz⟩ := I1.tuple hq
  refine wpAny_pyIter_tuple (show s1.heap.IsTuple a its.toArray from p) ?_
  refine ⟨s1.heap.objs.size, [s1.heap.objs.size], _, _, H1, rfl, I1.kept (t' := s1.toks) fun b o e => Heap.get?_push_of_some _ e, turn_tuple a _, ⟨_, Heap.get?_push_size _ rfl, rfl, rfl⟩, fun b hb => ?_, q⟩
  have e : b = s1.heap.objs.size := by simpa using hb
  subst e
  exact I1.fpOk (Nat.le_refl _) (I1.hok.fresh (Nat.le_refl _))
theorem vi_val {tg e : Expr} {f : Fe W} (h : VE Γ X Z e f) : VI Γ X Z tg e (fIt f) := by
  refine ⟨⟨fun pins s σ H R I q => ?_⟩⟩
  have h1 := seq1 (R := RW X.K) (R2 := WalkD Γ X.K) (k := fun x S => ofO (itemsOf x S)) q
  refine thn (h.pe.run pins s σ H _ I h1) fun u s1 ⟨v, H1, I1, r1, x, w, e, G, r, p⟩ => ?_
  subst e
  cases e : itemsOf x w.S with
  | none => rw [e] at p; exact p.elim
  | some y =>
    obtain ⟨ds, S1⟩ := y
    rw [e] at p
    obtain ⟨F, a, xs, rfl, q, d⟩ := itemsOf_ok G r e
    cases r1
    rcases q with q | q
    · have q' : SqT X.K w.H a xs := SqT.mono (im_sub ⟨w.μ, S1, w.H⟩) q
      exact it_tup I1 q' (p ⟨w.μ, S1, w.H⟩ (Itt X.K a) rfl F.le F.good (walkD_tup q d))
    · have q' : SqL X.K w.H a xs := SqL.mono (im_sub ⟨w.μ, S1, w.H⟩) q
      exact it_lst I1 q' (p ⟨w.μ, S1, w.H⟩ (Itl X.K a) rfl F.le F.good (walkD_lst q d))

/-! ### ranges -/
def rngD (lo : Int) (n : Nat) : List PyData := (List.range n).map fun i => .int (lo + (i : Nat))
theorem walkD_rng {K : PySem.W.Frag} {w : Wd} {lo : Int} {n : Nat} : WalkD Γ K w (Itr lo n) (rngD lo n) := by
  refine ⟨fun _ => True, YFn fun i => .int (lo + i), ?_, fun _ _ _ => trivial, fun i w' x H' hi l G ⟨e1, e2⟩ => ?_⟩
  · have : (rngD lo n).length = n := by simp [rngD]
    rw [this]; exact walk_range
  · subst e1
    have hi' : i < n := by simpa [rngD] using hi
    refine ⟨w', rfl, rfl, Wd.le.refl _, G, .int (lo + (i : Nat)), by simp [rngD, hi'], ?_⟩
    subst e2
    exact Dp.int _
def rOk (i : Int) : Bool := decide (-1000000 ≤ i ∧ i ≤ 1000000)
def fR1 (f : Fe (List W)) : Fe (List PyData) := fun ρ S => (f ρ S).bind fun xs S1 => match xs with
  | [.d (.int j)] => if rOk j = true then .ok (rngD 0 j.toNat) S1 else .bad
  | _ => .bad
theorem vi_r1 {tg a : Expr} {f : Fe (List W)} {p : Pos} (ha : VA Γ X Z [a] f) (hm : X.mg "range" = none) (hg : Gl X "range" := by rfl) (hs : starEach [a] X.env = [(false, eval a X.env)] := by rfl) : VI Γ X Z tg (.Call (.Name "range" p) [a] [] pos) (fR1 f) := by
  refine ⟨PI.mono (pi_range1 hg hm ha.pa hs) fun σ H R q => liftR.imp (seq1 (R := RWs X.K) (R2 := WalkD Γ X.K) q) fun vs H1 ⟨xs, w, e, G, r, p⟩ => ?_⟩
  subst e
  split at p
  · rename_i j
    split at p
    · rename_i hj
      obtain ⟨v, rfl, rv⟩ := rws_one r
      cases (show Dp X.K w.im v (.int j) from rv)
      have hj' : -1000000 ≤ j ∧ j ≤ 1000000 := of_decide_eq_true hj
      exact ⟨j, rfl, by omega, by omega, p.use (R := WalkD Γ X.K) G walkD_rng⟩
    · exact p.elim
  · exact p.elim
/-! ### for -/
def forD (g : Gt) (b : Fs) : List PyData → Fs
  | [], ρ, S => .nx ρ S
  | d :: ds, ρ, S => match g (.d d) ρ S with
    | none => .bad
    | some ρ1 => match b ρ1 S with
      | .nx ρ2 S2 => forD g b ds ρ2 S2
      | .ct ρ2 S2 => forD g b ds ρ2 S2
      | .bk ρ2 S2 => .nx ρ2 S2
      | r => r
def fFor (f : Fe (List PyData)) (g : Gt) (b : Fs) : Fs := fun ρ S => (f ρ S).fl ρ fun ds S1 => forD g b ds ρ S1
theorem vs_for {tg iter : Expr} {body : List Stmt} {is : List Nat} {f : Fe (List PyData)} {g : Gt} {b : Fs} (hp : PassesOwn (model X.prog X.w) X.A X.env X.xe) (hi : VI Γ X Z tg iter f) (hg : VG Γ X tg is g) (hb : VB Γ X Z body b) (hc : X.calm = true := by rfl)
    (hs : ∀ x, foldedSetIterable iter X.env x = pure x := by intro _; rfl) : VS Γ X Z (.For tg iter body [] pos) (fFor f g b) := by
  refine ⟨PS.mono (ps_for hp hc hi.pi hg.pg hb.ps hs) fun D σ H q => (liftS.out (R := WalkD Γ X.K) (k := fun ds ρ S1 => forD g b ds ρ S1) q).imp fun J H1 ⟨ds, w, ρ, e, G, s, r, p⟩ => ?_⟩
  subst e
  obtain ⟨GG, Y, wk, hG, hY⟩ := r.ex
  refine for_it wk (fun i σ H => ∃ w' ρ', w'.H = H ∧ w.le w' ∧ Good Γ X.K w' ∧ Slots X.K w' σ ρ' ∧ PostS Γ X.K w' Z (forD g b (ds.drop i) ρ' w'.S) D) ⟨w, ρ, rfl, Wd.le.refl w, G, s, p⟩ ?_ ?_ ?_
  · rintro i σ H hi ⟨w', ρ', rfl, l, G', s', p'⟩
    exact hG w' l G'
  · rintro i x σ H H' hi ⟨w', ρ', rfl, l, G', s', p'⟩ y
    obtain ⟨w2, rfl, eS, l2, G2, z, hz, rz⟩ := hY i w' x H' hi l G' y
    have hd : ds.drop i = z :: ds.drop (i + 1) := by
      have hh : ds[i] = z := by
        rw [List.getElem?_eq_getElem hi] at hz
        exact Option.some.inj hz
      rw [← hh]
      exact List.drop_eq_getElem_cons hi
    rw [hd] at p'
    have p2 := PostS.mono l2 p'
    rw [← eS] at p2
    unfold forD at p2
    split at p2
    · exact p2.elim
    · rename_i ρ1 eg
      refine ⟨w2, ρ', .d z, ρ1, rfl, G2, s'.mono l2, rz, eg, fun σ1 s1 _ => ?_⟩
      refine ⟨w2, ρ1, rfl, G2, s1, ?_⟩
      cases eb : b ρ1 w2.S with
      | nx ρ2 S2 =>
        rw [eb] at p2
        intro w3 σ3 e3 l3 G3 s3
        subst e3
        exact ⟨w3, ρ2, rfl, l.trans (l2.trans l3), G3, s3, PostS.mono l3 p2⟩
      | ct ρ2 S2 =>
        rw [eb] at p2
        intro w3 σ3 e3 l3 G3 s3
        subst e3
        exact ⟨w3, ρ2, rfl, l.trans (l2.trans l3), G3, s3, PostS.mono l3 p2⟩
      | bk ρ2 S2 => rw [eb] at p2; exact p2
      | rt x S2 => rw [eb] at p2; exact p2
      | ex e ρ2 S2 => rw [eb] at p2; exact p2
      | bad => rw [eb] at p2; exact p2
  · rintro σ H ⟨w', ρ', rfl, l, G', s', p'⟩
    rw [List.drop_length] at p'
    exact PostS.nx_use p' G' s'

/-! ### while -/
def whD (c : Fe Bool) (b : Fs) : Nat → Fs
  | 0, _, _ => .bad
  | n + 1, ρ, S => (c ρ S).fl ρ fun t S1 => if t = true then (match b ρ S1 with
      | .nx ρ2 S2 => whD c b n ρ2 S2
      | .ct ρ2 S2 => whD c b n ρ2 S2
      | .bk ρ2 S2 => .nx ρ2 S2
      | r => r) else .nx ρ S1
open Classical in
noncomputable def fWh (c : Fe Bool) (b : Fs) : Fs := fun ρ S => if h : ∃ n, whD c b n ρ S ≠ .bad then whD c b h.choose ρ S else .bad
theorem whD_more {c : Fe Bool} {b : Fs} : ∀ {n m : Nat} {ρ : Slt} {S : Sto}, n ≤ m → whD c b n ρ S ≠ .bad → whD c b m ρ S = whD c b n ρ S
  | 0, _, _, _, _, h => absurd rfl h
  | n + 1, 0, _, _, hm, _ => by omega
  | n + 1, m + 1, ρ, S, hm, h => by
    unfold whD at h ⊢
    cases ec : c ρ S with
    | ok t S1 =>
      simp only [ec, Out.fl] at h ⊢
      cases t with
      | false => rfl
      | true =>
        simp only [if_true] at h ⊢
        cases eb : b ρ S1 with
        | nx ρ2 S2 =>
          simp only [eb] at h ⊢
          exact whD_more (by omega) h
        | ct ρ2 S2 =>
          simp only [eb] at h ⊢
          exact whD_more (by omega) h
        | bk _ _ => rfl
        | rt _ _ => rfl
        | ex _ _ _ => rfl
        | bad => rfl
    | ex e S1 => rfl
    | bad => rfl
theorem fWh_eq {c : Fe Bool} {b : Fs} {n : Nat} {ρ : Slt} {S : Sto} (h : whD c b n ρ S ≠ .bad) : fWh c b ρ S = whD c b n ρ S := by
  have hx : ∃ n, whD c b n ρ S ≠ .bad := ⟨n, h⟩
  unfold fWh
  rw [dif_pos hx]
  rcases Nat.le_total n hx.choose with z | z
  · exact whD_more z h
  · exact (whD_more z hx.choose_spec).symm
theorem fWh_ex {c : Fe Bool} {b : Fs} {ρ : Slt} {S : Sto} (h : fWh c b ρ S ≠ .bad) : ∃ n, fWh c b ρ S = whD c b n ρ S := by
  unfold fWh at h ⊢
  by_cases hx : ∃ n, whD c b n ρ S ≠ .bad
  · exact ⟨hx.choose, by rw [dif_pos hx]⟩
  · rw [dif_neg hx] at h
    exact absurd rfl h
theorem vs_while {c : Expr} {body : List Stmt} {t : Fe Bool} {b : Fs} (hp : PassesOwn (model X.prog X.w) X.A X.env X.xe) (hc : VT Γ X Z c t) (hb : VB Γ X Z body b) : VS Γ X Z (.While c body [] pos) (fWh t b) := by
  refine ⟨PS.mono (ps_while hp hc.pt hb.ps) fun D σ H ⟨w, ρ, e, G, s, p⟩ => ?_⟩
  subst e
  have hne : fWh t b ρ w.S ≠ .bad := fun z => by rw [z] at p; exact p
  obtain ⟨n, en⟩ := fWh_ex hne
  rw [en] at p
  refine ⟨fun m σ H => ∃ w' ρ', w'.H = H ∧ Good Γ X.K w' ∧ Slots X.K w' σ ρ' ∧ PostS Γ X.K w' Z (whD t b m ρ' w'.S) D, ⟨n, w, ρ, rfl, G, s, p⟩, ?_⟩
  rintro m σ H ⟨w', ρ', rfl, G', s', p'⟩
  cases m with
  | zero => exact p'.elim
  | succ m =>
    have q : liftS Γ X.K Z (fun ρ S => (t ρ S).fl ρ fun tt S1 => if tt = true then (match b ρ S1 with
      | .nx ρ2 S2 => whD t b m ρ2 S2
      | .ct ρ2 S2 => whD t b m ρ2 S2
      | .bk ρ2 S2 => .nx ρ2 S2
      | r => r) else .nx ρ S1) D σ w'.H := ⟨w', ρ', rfl, G', s', p'⟩
    refine (liftS.out (R := RB) (k := fun tt ρ S1 => if tt = true then (match b ρ S1 with
      | .nx ρ2 S2 => whD t b m ρ2 S2
      | .ct ρ2 S2 => whD t b m ρ2 S2
      | .bk ρ2 S2 => .nx ρ2 S2
      | r => r) else .nx ρ S1) q).imp fun v H1 ⟨x, w1, ρ1, e1, G1, s1, r1, p1⟩ => ?_
    cases (show v = x from r1)
    subst e1
    cases v with
    | false => exact iteF (PostS.nx_use p1 G1 s1)
    | true =>
      refine iteT ⟨fun σ' H' => ∃ w' ρ', w'.H = H' ∧ Good Γ X.K w' ∧ Slots X.K w' σ' ρ' ∧ PostS Γ X.K w' Z (whD t b m ρ' w'.S) D, fun σ' H' h => ⟨m, Nat.lt_succ_self m, h⟩, ?_⟩
      refine ⟨w1, ρ1, rfl, G1, s1, ?_⟩
      simp only [if_true] at p1
      cases eb : b ρ1 w1.S with
      | nx ρ2 S2 =>
        rw [eb] at p1
        intro w3 σ3 e3 l3 G3 s3
        subst e3
        exact ⟨w3, ρ2, rfl, G3, s3, PostS.mono l3 p1⟩
      | ct ρ2 S2 =>
        rw [eb] at p1
        intro w3 σ3 e3 l3 G3 s3
        subst e3
        exact ⟨w3, ρ2, rfl, G3, s3, PostS.mono l3 p1⟩
      | bk ρ2 S2 => rw [eb] at p1; exact p1
      | rt x S2 => rw [eb] at p1; exact p1
      | ex e ρ2 S2 => rw [eb] at p1; exact p1
      | bad => rw [eb] at p1; exact p1
end
end G
set_option Elab.async false
set_option linter.all false
set_option maxRecDepth 100000
set_option maxHeartbeats 4000000
/-! G9: list comprehensions -/
namespace G
open PySem PySem.Spec L2
set_option autoImplicit false
/-- a comprehension's loop, from any heap -/
theorem lcw {J : It} {n : Nat} {G : Hp → Prop} {Y : Nat → Hp → V → Hp → Prop} (w : Walk J n G Y) {g : TG} {tt : TT} {te : TE} {vs : List Nat} {σ : L2.St} {H0 : Hp} {D : Addr} {Qd : Hp → Prop} (Pv : Nat → Hp → Prop) (h0 : Pv 0 H0) (hG : ∀ i H, i ≤ n → Pv i H → G H)
    (hs : ∀ i x H H', i < n → Pv i H → Y i H x H' → g x (wipe σ vs) H' fun σ2 H2 => wipe σ2 vs = wipe σ vs ∧ tt σ2 H2 fun b H3 =>
      if b = true then te σ2 H3 fun y H4 => ∃ acc, H4 D = some (.lst acc) ∧ acc.length < sizeLine ∧ Pv (i + 1) (upd H4 D (.lst (acc ++ [y]))) else Pv (i + 1) H3) (hd : ∀ H, Pv n H → Qd H) :
    ∃ W : Nat → Nat → Hp → Prop, (∃ m, W 0 m H0) ∧ ∀ i m H, W i m H →
      (J.stop i H ∧ Qd H) ∨ (J.go i H ∧ ∃ Nx : Hp → Prop, (∀ H', Nx H' → ∃ m', m' < m ∧ W (i + 1) m' H') ∧ ∀ x H', J.yld i H x H' → g x (wipe σ vs) H' fun σ2 H2 => wipe σ2 vs = wipe σ vs ∧ tt σ2 H2 fun b H3 =>
        if b = true then te σ2 H3 fun y H4 => ∃ acc, H4 D = some (.lst acc) ∧ acc.length < sizeLine ∧ Nx (upd H4 D (.lst (acc ++ [y]))) else Nx H3) := by
  refine ⟨fun i m H => m = n - i ∧ i ≤ n ∧ Pv i H, ⟨n, by simp, Nat.zero_le _, h0⟩, ?_⟩
  rintro i m H ⟨rfl, hi, p⟩
  have q := hG i H hi p
  by_cases hlt : i < n
  · refine .inr ⟨w.goes i H hlt q, Pv (i + 1), fun H' p' => ⟨n - (i + 1), by omega, rfl, hlt, p'⟩, fun x H' y => hs i x H H' hlt p (w.yields i H x H' hlt q y)⟩
  · have e : i = n := by omega
    subst e
    exact .inl ⟨w.stops H q, hd H p⟩
abbrev noZ : WX := fun _ _ _ _ => False
def wipeR (ρ : Slt) : List Nat → Slt
  | [] => ρ
  | v :: vs => (wipeR ρ vs).set v none
theorem Slots.wipe {K : PySem.W.Frag} {w : Wd} {σ : L2.St} {ρ : Slt} (s : Slots K w σ ρ) : ∀ vs : List Nat, Slots K w (L2.wipe σ vs) (wipeR ρ vs)
  | [] => s
  | v :: vs => (Slots.wipe s vs).unset v
theorem wipe_idem (σ : L2.St) (vs : List Nat) : wipe (wipe σ vs) vs = wipe σ vs := by
  apply List.ext_getElem?
  intro j
  rw [wipe_get, wipe_get]
  by_cases h : j ∈ vs ∧ j < σ.length
  · rw [if_pos ⟨h.1, by rw [wipe_length]; exact h.2⟩, if_pos h]
  · rw [if_neg (fun z => h ⟨z.1, by rw [wipe_length] at z; exact z.2⟩), if_neg h]
def noX {α : Type} (r : Out α) : Out α := match r with
  | .ex _ _ => .bad
  | r => r
@[simp] theorem noX_ok {α : Type} (a : α) (S : Sto) : noX (Out.ok a S) = .ok a S := id rfl
@[simp] theorem noX_bad {α : Type} : noX (Out.bad : Out α) = .bad := id rfl
@[simp] theorem noX_ex {α : Type} (e : Exn) (S : Sto) : noX (Out.ex e S : Out α) = .bad := id rfl
def compD (g : Gt) (t : Fe Bool) (e : Fe W) (n : Nat) : List PyData → Slt → Sto → Out Unit
  | [], _, S => .ok () S
  | d :: ds, ρ, S => match g (.d d) ρ S with
    | none => .bad
    | some ρ1 => (t ρ1 S).bind fun b S1 => if b = true then (e ρ1 S1).bind fun y S2 => match S2[n]? with
        | some (.lst acc) => if szOk acc.length = true then compD g t e n ds ρ (S2.set n (.lst (acc ++ [y]))) else .bad
        | _ => .bad
      else compD g t e n ds ρ S1
def fLc (f : Fe (List PyData)) (g : Gt) (t : Fe Bool) (e : Fe W) (vs : List Nat) : Fe W := fun ρ S => (f ρ S).bind fun ds S1 =>
  (noX (compD g t e S1.length ds (wipeR ρ vs) (S1 ++ [.lst []]))).bind fun _ S2 => .ok (.o S1.length) S2
structure VTs (Γ : Gm) (X : Cx) (Z : WX) (ifs : List Expr) (f : Fe Bool) : Prop where
  pts : PTs X ifs (liftR Γ X.K Z RB f)
def fYes : Fe Bool := fun _ S => .ok true S
section
variable {Γ : Gm} {X : Cx} {Z : WX} {pos : Pos}
theorem vts_nil : VTs Γ X Z [] fYes := ⟨⟨fun pins s σ H Q I ⟨w, ρ, e, G, s', p⟩ => by subst e; exact pts_nil.run pins s σ _ Q I (Post.use (R := RB) p G rfl)⟩⟩
theorem vts_one {c : Expr} {f : Fe Bool} (h : VT Γ X Z c f) : VTs Γ X Z [c] f := ⟨pts_one h.pt⟩
abbrev RU (D : Addr) (n : Nat) : Wd → Unit → Unit → Prop := fun w _ _ => w.μ[n]? = some D
theorem Post.noS {α β : Type} {K : PySem.W.Frag} {R : Wd → β → α → Prop} {w : Wd} {σ σ' : L2.St} {r : Out α} {Q : β → Hp → Prop} (p : Post Γ K R w σ noZ r Q) : Post Γ K R w σ' noZ r Q := by
  cases r with
  | ok x S => exact p
  | ex e S => exact fun w1 c d e l g r => p w1 c d e l g r
  | bad => exact p
/-- one turn of a comprehension's loop -/
theorem turnC {g : Gt} {t : Fe Bool} {e : Fe W} {n : Nat} {vs is : List Nat} (his : ∀ i ∈ is, i ∈ vs) {D : Addr} {ds : List PyData} {z : PyData} {ρw : Slt} {σ : L2.St} {w2 : Wd} {x : V} {Qd : Hp → Prop} {Pn : Hp → Prop}
    (G2 : Good Γ X.K w2) (sw : Slots X.K w2 (wipe σ vs) ρw) (rz : RW X.K w2 x (.d z)) (hD : w2.μ[n]? = some D)
    (p : Post Γ X.K (RU D n) w2 σ noZ (compD g t e n (z :: ds) ρw w2.S) (fun _ H => Qd H))
    (hn : ∀ w', w2.le w' → Good Γ X.K w' → w'.μ[n]? = some D → Post Γ X.K (RU D n) w' σ noZ (compD g t e n ds ρw w'.S) (fun _ H => Qd H) → Pn w'.H) :
    liftG Γ X.K is g x (wipe σ vs) w2.H fun σ2 H2 => wipe σ2 vs = wipe σ vs ∧ liftR Γ X.K noZ RB t σ2 H2 fun b H3 =>
      if b = true then liftR Γ X.K noZ (RW X.K) e σ2 H3 fun y H4 => ∃ acc, H4 D = some (.lst acc) ∧ acc.length < sizeLine ∧ Pn (upd H4 D (.lst (acc ++ [y]))) else Pn H3 := by
  unfold compD at p
  split at p
  · exact p.elim
  · rename_i ρ1 eg
    refine ⟨w2, ρw, .d z, ρ1, rfl, G2, sw, rz, eg, fun σ1 s1 hw => ⟨(hw vs his).trans (wipe_idem σ vs), w2, ρ1, rfl, G2, s1, ?_⟩⟩
    refine (Post.noS (Post.bind (R := RB) p)).imp fun v H3 ⟨w3, b, e3, G3, l3, rb, p3⟩ => ?_
    subst e3
    cases (show v = b from rb)
    cases v with
    | false => exact iteF (hn w3 l3 G3 (l3.at hD) p3)
    | true =>
      simp only [if_true] at p3
      refine iteT ⟨w3, ρ1, rfl, G3, s1.mono l3, (Post.noS (Post.bind (R := RW X.K) p3)).imp fun y H4 ⟨w4, yy, e4, G4, l4, ry, p4⟩ => ?_⟩
      subst e4
      split at p4
      · rename_i acc ea
        split at p4
        · rename_i hz
          have hD4 : w4.μ[n]? = some D := l4.at (l3.at hD)
          obtain ⟨us, hu, ru⟩ := G4.cell n D _ hD4 ea
          refine ⟨us, hu, by rw [Paired.len ru]; exact sz_line hz, ?_⟩
          obtain ⟨G5, l5⟩ := G4.write (c' := .lst (acc ++ [yy])) hD4 ea rfl (.lst (us ++ [y])) (fun w1 l e => ⟨_, e, RWs.mono l (Paired.app ru (.cons ry .nil))⟩) rfl
          exact hn ⟨w4.μ, w4.S.set n (.lst (acc ++ [yy])), upd w4.H D (.lst (us ++ [y]))⟩ (l3.trans (l4.trans l5)) G5 hD4 (Post.mono l5 p4)
        · exact p4.elim
      · exact p4.elim
theorem lc_lift {f : Fe (List PyData)} {g : Gt} {t : Fe Bool} {e : Fe W} {vs is : List Nat} (his : ∀ i ∈ is, i ∈ vs) {σ : L2.St} {H : Hp} {Q : VK} (q : liftR Γ X.K Z (RW X.K) (fLc f g t e vs) σ H Q) :
    tLc (liftR Γ X.K Z (WalkD Γ X.K) f) (liftG Γ X.K is g) (liftR Γ X.K noZ RB t) (liftR Γ X.K noZ (RW X.K) e) vs σ H Q := by
  refine (liftR.bind (R := WalkD Γ X.K) (k := fun ds ρ S1 => (noX (compD g t e S1.length ds (wipeR ρ vs) (S1 ++ [.lst []]))).bind fun _ S2 => .ok (W.o S1.length) S2) q).imp fun J H1 ⟨ds, w, ρ, e1, G, s, r, p⟩ => ?_
  subst e1
  intro D hD
  obtain ⟨G1, l1⟩ := G.alloc (c := .lst []) hD (.lst []) (fun w1 l e => ⟨[], e, .nil⟩) rfl
  have hD1 : (Wd.mk (w.μ ++ [D]) (w.S ++ [.lst []]) (upd w.H D (.lst []))).μ[w.S.length]? = some D := by
    show (w.μ ++ [D])[w.S.length]? = _
    rw [← G.len]; simp
  have p1 : Post Γ X.K (RU D w.S.length) ⟨w.μ ++ [D], w.S ++ [.lst []], upd w.H D (.lst [])⟩ σ noZ (compD g t e w.S.length ds (wipeR ρ vs) (w.S ++ [.lst []])) (fun _ H => Q (.ref D) H) := by
    cases ec : compD g t e w.S.length ds (wipeR ρ vs) (w.S ++ [.lst []]) with
    | ok u S2 =>
      rw [ec] at p
      exact fun w2 v e2 l2 G2 r2 => p w2 (.ref D) e2 (l1.trans l2) G2 ⟨D, r2, rfl⟩
    | ex e S2 => rw [ec] at p; exact p.elim
    | bad => rw [ec] at p; exact p.elim
  obtain ⟨GG, Y, wk, hG, hY⟩ := r.ex
  refine lcw wk (fun i H => ∃ w', w'.H = H ∧ w.le w' ∧ Good Γ X.K w' ∧ w'.μ[w.S.length]? = some D ∧ Post Γ X.K (RU D w.S.length) w' σ noZ (compD g t e w.S.length (ds.drop i) (wipeR ρ vs) w'.S) (fun _ H => Q (.ref D) H))
    ⟨_, rfl, l1, G1, hD1, p1⟩ ?_ ?_ ?_
  · rintro i H hi ⟨w', rfl, l, G', hD', p'⟩
    exact hG w' l G'
  · rintro i x H H' hi ⟨w', rfl, l, G', hD', p'⟩ y
    obtain ⟨w2, rfl, eS, l2, G2, z, hz, rz⟩ := hY i w' x H' hi l G' y
    have hd : ds.drop i = z :: ds.drop (i + 1) := by
      have hh : ds[i] = z := by
        rw [List.getElem?_eq_getElem hi] at hz
        exact Option.some.inj hz
      rw [← hh]
      exact List.drop_eq_getElem_cons hi
    rw [hd] at p'
    have p2 := Post.mono l2 p'
    rw [← eS] at p2
    exact turnC his G2 ((s.mono (l.trans l2)).wipe vs) rz (l2.at hD') p2 fun w' l' G' hD' p' => ⟨w', rfl, l.trans (l2.trans l'), G', hD', p'⟩
  · rintro H ⟨w', rfl, l, G', hD', p'⟩
    rw [List.drop_length] at p'
    exact Post.use (R := RU D w.S.length) (v := ()) p' G' hD'
theorem ve_lc {elt tg iter : Expr} {ifs : List Expr} {scope : Scope} (own : List (Str × Nat)) {f : Fe (List PyData)} {g : Gt} {t : Fe Bool} {e : Fe W} {is : List Nat} (hN : X.N.Nodup) (hi : VI Γ X Z tg iter f) (ok : BlkOk X.N X.env.scope scope own)
    (hg : ∀ (s : Shared) (H : Hp) (C : Addr) (cl : List (Str × Addr)) (fp : List Addr), VG Γ (X.blk s H scope (compEnvC scope cl C X.env) fp) tg is g) (ht : ∀ (s : Shared) (H : Hp) (C : Addr) (cl : List (Str × Addr)) (fp : List Addr), VTs Γ (X.blk s H scope (compEnvC scope cl C X.env) fp) noZ ifs t)
    (he : ∀ (s : Shared) (H : Hp) (C : Addr) (cl : List (Str × Addr)) (fp : List Addr), VE Γ (X.blk s H scope (compEnvC scope cl C X.env) fp) noZ elt e) (his : ∀ i ∈ is, i ∈ own.map (·.2) := by decide) (hc : X.calm = true := by rfl) (hs : ∀ x, foldedSetIterable iter X.env x = pure x := by intro _; rfl) :
    VE Γ X Z (.ListComp elt [⟨tg, iter, ifs, 0⟩] scope pos) (fLc f g t e (own.map (·.2))) :=
  ⟨PE.mono (pe_lc (g := liftG Γ X.K is g) (tt := liftR Γ X.K noZ RB t) (te := liftR Γ X.K noZ (RW X.K) e) hc hN hi.pi ok (fun s H C cl fp => (hg s H C cl fp).pg) (fun s H C cl fp => (ht s H C cl fp).pts) (fun s H C cl fp => (he s H C cl fp).pe) hs) fun _ _ _ q => lc_lift (X := X) his q⟩
theorem vs_setLc (i : Nat) {y : Str} {py : Pos} {elt tg iter : Expr} {ifs : List Expr} {scope : Scope} (own : List (Str × Nat)) {spos : Pos} {f : Fe (List PyData)} {g : Gt} {t : Fe Bool} {e : Fe W} {is : List Nat} (hN : X.N.Nodup)
    (hsw : swapsWith (.ListComp elt [⟨tg, iter, ifs, 0⟩] scope pos) (some (.Name y py)) spos.line X.env = pure true) (hi : VI Γ X Z tg iter f) (ok : BlkOk X.N X.env.scope scope own)
    (hg : ∀ (s : Shared) (H : Hp) (C : Addr) (cl : List (Str × Addr)) (fp : List Addr), VG Γ (X.blk s H scope (compEnvC scope cl C X.env) fp) tg is g) (ht : ∀ (s : Shared) (H : Hp) (C : Addr) (cl : List (Str × Addr)) (fp : List Addr), VTs Γ (X.blk s H scope (compEnvC scope cl C X.env) fp) noZ ifs t)
    (he : ∀ (s : Shared) (H : Hp) (C : Addr) (cl : List (Str × Addr)) (fp : List Addr), VE Γ (X.blk s H scope (compEnvC scope cl C X.env) fp) noZ elt e) (his : ∀ i ∈ is, i ∈ own.map (·.2) := by decide) (hc : X.calm = true := by rfl) (hy : X.N[i]? = some y := by rfl) (hyl : X.env.scope.names.lookup y = some .local := by rfl) (hs : ∀ x, foldedSetIterable iter X.env x = pure x := by intro _; rfl) :
    VS Γ X Z (.Assign [.Name y py] (.ListComp elt [⟨tg, iter, ifs, 0⟩] scope pos) spos) (fSet i (fLc f g t e (own.map (·.2)))) := by
  refine ⟨PS.mono (ps_setLc (g := liftG Γ X.K is g) (tt := liftR Γ X.K noZ RB t) (te := liftR Γ X.K noZ (RW X.K) e) hc hN hy hyl hsw hi.pi ok (fun s H C cl fp => (hg s H C cl fp).pg) (fun s H C cl fp => (ht s H C cl fp).pts) (fun s H C cl fp => (he s H C cl fp).pe) hs) fun D σ H q => ?_⟩
  refine lc_lift (X := X) his ((liftS.out (R := RW X.K) (k := fun x ρ S1 => .nx (ρ.set i (some x)) S1) q).imp fun v H1 ⟨x, w, ρ, e, G, s, r, p⟩ => ?_)
  subst e
  exact PostS.nx_use p G (s.set r i)

/-! ### two for -/
end
end G
set_option Elab.async false
set_option linter.all false
set_option maxRecDepth 100000
set_option maxHeartbeats 4000000
/-! G10: enumerate, zip over lists and tuples -/
namespace G
open PySem PySem.Spec L2
set_option autoImplicit false
/-- a list or a tuple at a, by its items -/
def SqA (K : PySem.W.Frag) (tup : Bool) (H : Hp) (a : Addr) (xs : List V) : Prop := match tup with
  | true => SqT K H a xs
  | false => SqL K H a xs
def itAt (tup : Bool) (it a : Addr) (i : Nat) (h : Heap) : Prop := match tup with
  | true => h.IsTupleIter it a i
  | false => h.IsListIter it a i
def conAt (tup : Bool) (a : Addr) (items : Array Value) (h : Heap) : Prop := match tup with
  | true => h.IsTuple a items
  | false => h.IsList a items
def itObj (tup : Bool) (a : Addr) : Obj := match tup with
  | true => { cls := .type "tuple_iterator", data := .fields #[.ref a, .int 0 0] }
  | false => { cls := .type "list_iterator", data := .fields #[.ref a, .int 0 0] }
theorem itAt_obj {tup : Bool} {it a : Addr} {i : Nat} {h : Heap} (x : itAt tup it a i h) : ∃ o, h.get? it = some o ∧ ∀ v, o.data ≠ .cell v := by
  cases tup <;> (obtain ⟨o, h1, h2, h3⟩ := x; exact ⟨o, h1, fun v q => by rw [h3] at q; cases q⟩)
theorem itAt_keep {tup : Bool} {it a : Addr} {i : Nat} {h h' : Heap} (x : itAt tup it a i h) (k : ∀ o, h.get? it = some o → h'.get? it = some o) : itAt tup it a i h' := by
  cases tup <;> (obtain ⟨o, h1, h2, h3⟩ := x; exact ⟨o, k _ h1, h2, h3⟩)
theorem itAt_new {tup : Bool} {it a : Addr} {h : Heap} (x : h.get? it = some (itObj tup a)) : itAt tup it a 0 h := by
  cases tup <;> exact ⟨_, x, rfl, rfl⟩
theorem drawsA {P : Program} {w : World} {A : Around} (hh : A.handled = none) (tup : Bool) (it a : Addr) (hne : a ≠ it) (items : Array Value) :
    Draws P w A it [it, a] items.size (fun i v => items[i]? = some v) (fun i h => itAt tup it a i h ∧ conAt tup a items h) := by
  cases tup
  · exact Draws.list hh it a hne items
  · exact Draws.tuple hh it a hne items
theorem beginsA (tup : Bool) (a : Addr) (items : Array Value) : Begins (.ref a) (itObj tup a) (conAt tup a items) := by
  cases tup
  · exact begins_list a items
  · exact begins_tuple a items
section
variable {X : Cx} {pins : List (Addr × Obj)} {σ : L2.St} {H : Hp} {s : Shared}
theorem seqA_of {tup : Bool} {a : Addr} {xs : List V} (I : Inv X pins σ H s) (q : SqA X.K tup H a xs) : ∃ its : List Value, Vals xs its ∧ conAt tup a its.toArray s.heap ∧ xs.length ≤ sizeLine := by
  cases tup
  · obtain ⟨its, r, p, z⟩ := I.list q; exact ⟨its, r, p.isList, z⟩
  · obtain ⟨its, r, p, z⟩ := I.tuple q; exact ⟨its, r, p, z⟩
theorem seqA_inj {tup : Bool} {a : Addr} {xs ys : List V} (I : Inv X pins σ H s) (h : SqA X.K tup H a xs) (h' : SqA X.K tup H a ys) : xs = ys := by
  cases tup
  · exact I.list_inj h h'
  · exact I.tuple_inj h h'
theorem conAt_lt {tup : Bool} {a : Addr} {items : Array Value} {h : Heap} (x : conAt tup a items h) : a < h.objs.size := by
  cases tup
  · obtain ⟨o, e, _⟩ := x; exact Heap.lt_size e
  · obtain ⟨o, e, _⟩ := x; exact Heap.lt_size e
/-- behind a turn that laid a tuple -/
theorem inv_turnT {fp wr : List Addr} {T : Addr} {us : List Value} {vs : List V} {h' : Heap} {tk : Nat} (I : Inv X pins σ H s) (hf : ∀ b ∈ fp, FpOk X pins H b) (hw : ∀ b ∈ wr, b ∈ fp) (k : ∀ b o, b ∉ wr → s.heap.get? b = some o → h'.get? b = some o)
    (hT : s.heap.objs.size ≤ T) (tp : h'.IsTuple T us.toArray) (rv : Vals vs us) (hz : vs.length ≤ sizeLine) : Inv X pins σ (upd H T (.tup vs)) { s with heap := h', toks := tk } := by
  refine I.turnedNew (ch := fp) (fun b o hb e => k b o (fun z => hb (hw b z)) e) hf hT ?_
  exact ⟨hz, us, rv, tp⟩
end
/-! ### enumerate -/
def ItE (K : PySem.W.Frag) (tup : Bool) (a : Addr) : It :=
  ⟨fun i H => ∃ (xs : List V) (x : V), SqA K tup H a xs ∧ xs[i]? = some x, fun i H v H' => ∃ T x, v = .ref T ∧ H T = none ∧ H' = upd H T (.tup [.int (i : Nat), x]) ∧ ∀ xs, SqA K tup H a xs → xs[i]? = some x, fun i H => ∃ xs : List V, SqA K tup H a xs ∧ xs.length = i⟩
theorem turn_enumA {P : Program} {w : World} {K : PySem.W.Frag} {elts : List Expr} {kk : Nat} {tpos : Pos} (tup : Bool) (a e it : Addr) :
    Turn P w K (.Tuple elts kk tpos) (ItE K tup a) [e, it] e (fun i h => (∃ old, IsEnum h e it (0 + ((i : Nat) : Int)) old) ∧ itAt tup it a i h ∧ e ≠ it ∧ a ≠ e ∧ a ≠ it) where
  mem := by simp
  obj := fun i h st b hb => by
    obtain ⟨⟨old, he⟩, hi, _⟩ := st
    have e' : b = e ∨ b = it := by simpa using hb
    rcases e' with z | z
    · rw [z]; exact ⟨_, he, fun v q => nomatch q⟩
    · rw [z]; exact itAt_obj hi
  keep := fun i h h' st k => let ⟨⟨old, he⟩, hi, hne⟩ := st; ⟨⟨old, k e (by simp) _ he⟩, itAt_keep hi fun o q => k it (by simp) o q, hne⟩
  item := by
    intro X hP hw hK hc i pins s σ H E I hf st hg
    subst hP hw hK
    obtain ⟨⟨old, he⟩, hit, hne, h1, h2⟩ := st
    obtain ⟨xs, x, hq, hx⟩ := hg
    obtain ⟨its, rv, con, hz⟩ := seqA_of I hq
    obtain ⟨u, hu, ru⟩ := rv.get hx
    have W := GoesN.enumFrom (elts := elts) (x1 := kk) (pos := tpos) 0 (drawsA (P := X.prog) (w := X.w) (A := X.A.in1) (I.ok.hd hc) tup it a h2 its.toArray) e hne (by simp [hne, Ne.symm h1]) (by simp)
    have hi : i < its.toArray.size := by
      have := (List.getElem?_eq_some_iff.mp hu).1
      simpa using this
    refine wpAny_mono (W.goes i s (fun v s2 => ∃ x' H', Inv X pins σ H' s2 ∧ RelV x' v ∧ (ItE X.K tup a).yld i H x' H' ∧ ((∃ old, IsEnum s2.heap e it (0 + (((i + 1 : Nat)) : Int)) old) ∧ itAt tup it a (i + 1) s2.heap ∧ e ≠ it ∧ a ≠ e ∧ a ≠ it) ∧ ∀ b ∈ [e, it], H' b = none) E hi ⟨⟨old, he⟩, hit, con⟩ ?_) (fun r s1 ⟨v, e1, h3⟩ => ⟨v, e1, h3⟩) (fun _ _ h => h)
    rintro v h' tk ⟨T, t, y, rfl, hT, hy, tp⟩ ⟨⟨old', he'⟩, hit', _⟩ k htk
    have hyu : y = u := by
      have : its[i]? = some y := by simpa using hy
      rw [hu] at this; exact (Option.some.inj this).symm
    subst hyu
    have e0 : (0 : Int) + (i : Int) = (i : Int) := by omega
    rw [e0] at tp
    have I1 := inv_turnT I (tk := tk) (fp := [e, it]) (wr := [e, it]) (us := [.int (i : Nat) t, y]) (vs := [.int (i : Nat), x]) hf (fun _ h => h) k hT tp (.cons ⟨_, rfl⟩ (.cons ru .nil)) (by show 2 ≤ sizeLine; decide)
    refine ⟨.ref T, _, I1, rfl, ⟨T, x, rfl, I.hok.fresh hT, rfl, fun ys hy => by rw [seqA_inj I hy hq]; exact hx⟩, ⟨⟨old', he'⟩, hit', hne, h1, h2⟩, fun b hb => ?_⟩
    have hb' : b < s.heap.objs.size := by
      have e' : b = e ∨ b = it := by simpa using hb
      rcases e' with z | z
      · rw [z]; exact Heap.lt_size he
      · rw [z]; obtain ⟨o, q, _⟩ := itAt_obj hit; exact Heap.lt_size q
    rw [upd_ne (Nat.ne_of_lt (Nat.lt_of_lt_of_le hb' hT))]
    exact (hf b hb).1
  done := by
    intro X hP hw hK hc i pins s σ H E I hf st hg
    subst hP hw hK
    obtain ⟨⟨old, he⟩, hit, hne, h1, h2⟩ := st
    obtain ⟨xs, hq, hx⟩ := hg
    obtain ⟨its, rv, con, hz⟩ := seqA_of I hq
    have W := GoesN.enumFrom (elts := elts) (x1 := kk) (pos := tpos) 0 (drawsA (P := X.prog) (w := X.w) (A := X.A.in1) (I.ok.hd hc) tup it a h2 its.toArray) e hne (by simp [hne, Ne.symm h1]) (by simp)
    have hi : i = its.toArray.size := by
      have := rv.length
      simp; omega
    subst hi
    refine wpAny_mono (W.stops s (fun s1 => Inv X pins σ H s1) E ⟨⟨old, he⟩, hit, con⟩ fun h' tk k htk => ?_) (fun r s1 h => h) (fun _ _ h => h)
    exact I.turnedL (t' := tk) (ch := [e, it]) k hf
  self := fun A i s Q E st h => let ⟨⟨_, he⟩, _⟩ := st; wpAny_pyIter_enum he h
section
variable {Γ : Gm} {X : Cx} {Z : WX} {pos : Pos}
def enumD (ds : List PyData) : List PyData := (ds.zipIdx).map fun p => .tuple [.int (p.2 : Nat), p.1]
theorem walkE {K : PySem.W.Frag} {w : Wd} {tup : Bool} {a : Addr} {xs : List V} {ds : List PyData} (q : SqA K tup w.im a xs) (d : DpAll K w.im xs ds) : WalkD Γ K w (ItE K tup a) (enumD ds) := by
  have hl := Paired.len (DpAll.paired d)
  have hle : (enumD ds).length = ds.length := by simp [enumD]
  refine ⟨fun H => SqA K tup H a xs, fun i H x H' => (ItE K tup a).yld i H x H', ⟨fun i H hi q => ?_, fun H q => ⟨xs, q, by rw [hle]; exact hl⟩, fun i H x H' hi q y => y⟩, fun w' l _ => ?_, fun i w' x H' hi l G' ⟨T, y, e1, e2, e3, e4⟩ => ?_⟩
  · rw [hle, ← hl] at hi
    exact ⟨xs, xs[i], q, by simp [hi]⟩
  · cases tup
    · exact SqL.mono (im_sub w') (SqL.mono l.im q)
    · exact SqT.mono (im_sub w') (SqT.mono l.im q)
  · subst e1 e3
    rw [hle] at hi
    have qq : SqA K tup w'.H a xs := by
      cases tup
      · exact SqL.mono (im_sub w') (SqL.mono l.im q)
      · exact SqT.mono (im_sub w') (SqT.mono l.im q)
    have ey := e4 xs qq
    obtain ⟨x', h1, h2⟩ := Paired.get (DpAll.paired d) (i := i) (y := ds[i]) (by simp [hi])
    rw [ey] at h1
    cases h1
    obtain ⟨G1, l1⟩ := G'.new e2 (.tup [.int (i : Nat), y])
    refine ⟨⟨w'.μ, w'.S, upd w'.H T (.tup [.int (i : Nat), y])⟩, rfl, rfl, l1, G1, .tuple [.int (i : Nat), ds[i]], by simp [enumD, hi], ?_⟩
    exact Dp.tup (SqT.of (Wd.im_of (w := ⟨w'.μ, w'.S, upd w'.H T (.tup [.int (i : Nat), y])⟩) upd_same (fun z => G'.nin e2 (live_mem (w := ⟨w'.μ, w'.S, upd w'.H T (.tup [.int (i : Nat), y])⟩) z)) (fun ps z => by cases z))) (.cons (.int _) (.cons (Dp.mono (l.trans l1).im h2) .nil))
def fEn (f : Fe (List W)) : Fe (List PyData) := fun ρ S => (f ρ S).bind fun xs S1 => match xs with
  | [x] => (ofO (itemsOf x S1)).bind fun ds S2 => .ok (enumD ds) S2
  | _ => .bad
end
end G
namespace PySem
set_option maxHeartbeats 2000000 in
theorem g_enum_new1 {v : Value} {o : Obj} {H : Heap → Prop} (B : Begins v o H) :
    Meets (Builtin.«enumerate.__new__» ⟨[.type "enumerate", v], []⟩) (fun _ R s => H s.heap ∧
      R (.ok (.ret (.ref (s.heap.push o).objs.size))) { s with heap := (s.heap.push o).push { cls := .type "enumerate", data := .fields #[.none, .bool false, .ref s.heap.objs.size, rawInt 0, .none, .none] } }) :=
  .of_wp fun prog w A R s h => by
    obtain ⟨hp, g, d, tk, os⟩ := s; obtain ⟨h1, h⟩ := h
    have hsub := sub_enumerate
    have q1 : ∀ {A' : Around} {E : Value → Shared → Prop} {Q : Value → Shared → Prop}, Q (.ref hp.objs.size) ⟨hp.push o, g, d, tk, os⟩ → wpAny (model prog w) A' (pyIter v) Q E ⟨hp, g, d, tk, os⟩ :=
      fun q => B.iter prog w _ _ ⟨hp, g, d, tk, os⟩ _ h1 q
    wp_walk using q1
    refine wpAny_stack_any fun st => wpAny_pure ?_
    split
    · rename_i c _ _ _ _ _
      cases (c == Value.type "enumerate")
      · wp_walk using q1
        exact ⟨_, rfl, h⟩
      · wp_walk using q1
        exact ⟨_, rfl, h⟩
    · wp_walk using q1
      exact ⟨_, rfl, h⟩
section
variable {prog : Program} {w : World} {A : Around} {E : Value → Shared → Prop} {s : Shared}
theorem g_enum_begins {v : Value} {o : Obj} {H : Heap → Prop} {Q : Value → Shared → Prop} (B : Begins v o H) (h1 : H s.heap)
    (h : ∀ h', IsEnum h' (s.heap.objs.size + 1) s.heap.objs.size 0 .none → h'.get? s.heap.objs.size = some o → h'.objs.size = s.heap.objs.size + 2 →
      (∀ b o, s.heap.get? b = some o → h'.get? b = some o) → Q (.ref (s.heap.objs.size + 1)) { s with heap := h' }) :
    wpAny (model prog w) A (call (.type "enumerate") [v]) Q E s := by
  refine callType_new F.called_enumerate (by decide) (F.typeCall_enumerate_1 _) (F.newCall_enumerate_1 _) (fun obj => F.args_object_init_2 obj _) F.entry_enumerate_new
    (g_enum_new1 B) ⟨h1, ?_⟩
  have hz : (s.heap.push o).objs.size = s.heap.objs.size + 1 := Heap.size_push ..
  show _ ∧ _
  rw [hz]
  have he : IsEnum ((s.heap.push o).push { cls := .type "enumerate", data := .fields #[.none, .bool false, .ref s.heap.objs.size, rawInt 0, .none, .none] }) (s.heap.objs.size + 1) s.heap.objs.size 0 .none := by
    have := Heap.get?_push_size (s.heap.push o) (o := { cls := .type "enumerate", data := .fields #[.none, .bool false, .ref s.heap.objs.size, rawInt 0, .none, .none] }) rfl
    rw [hz] at this; exact this
  refine ⟨⟨_, he, rfl⟩, h _ he (Heap.get?_push_of_some _ (Heap.get?_push_size _ B.free)) (by rw [Heap.size_push, hz]) fun b o x => Heap.get?_push_of_some _ (Heap.get?_push_of_some _ x)⟩
end
end PySem
namespace G
open PySem PySem.Spec L2
section
variable {Γ : Gm} {X : Cx} {Z : WX} {pos : Pos}
theorem fresh_fp {pins : List (Addr × Obj)} {σ : L2.St} {H1 : Hp} {s1 : Shared} (I1 : Inv X pins σ H1 s1) {b : Addr} (h : s1.heap.objs.size ≤ b) : FpOk X pins H1 b := I1.fpOk h (I1.hok.fresh h)
theorem pi_enumA {e : Expr} {ta : TA} {p pos tpos : Pos} {elts : List Expr} {kk : Nat} (hg : Gl X "enumerate") (hm : X.mg "enumerate" = none) (ha : PA X [e] ta) (hs : starEach [e] X.env = [(false, eval e X.env)] := by rfl) :
    PI X (.Tuple elts kk tpos) (.Call (.Name "enumerate" p) [e] [] pos) (fun σ H R => ta σ H fun vs H1 => ∃ tup a xs, vs = [.ref a] ∧ SqA X.K tup H1 a xs ∧ R (ItE X.K tup a) H1) := by
  refine ⟨fun pins s σ H R I h => ?_⟩
  refine PyProof.Rows.Call_ (ld_blt I hg hm PyProof.Rows.boot_enumerate (PyProof.Rows.callWith_type1 (thn (ha.run pos pins s σ H _ I h) fun us s1 ⟨vs, H1, I1, r1, q1⟩ => ?_) hs rfl))
  obtain ⟨tup, a, xs, ex, hq, q⟩ := q1
  subst ex
  cases r1 with
  | cons r rr =>
    cases rr
    cases r
    obtain ⟨its, rv, con, hz⟩ := seqA_of I1 hq
    refine PySem.g_enum_begins (beginsA tup a its.toArray) con fun h' he hit hsz hk => wpAny_pyIter_enum he ?_
    have I2 : Inv X pins σ H1 { s1 with heap := h' } := I1.kept (t' := s1.toks) hk
    have lt := conAt_lt con
    refine ⟨s1.heap.objs.size + 1, [s1.heap.objs.size + 1, s1.heap.objs.size], _, _, H1, rfl, I2, turn_enumA tup a (s1.heap.objs.size + 1) s1.heap.objs.size, ⟨⟨.none, he⟩, itAt_new hit, Nat.succ_ne_self _, Nat.ne_of_lt (Nat.lt_succ_of_lt lt), Nat.ne_of_lt lt⟩, fun b hb => ?_, q⟩
    have e' : b = s1.heap.objs.size + 1 ∨ b = s1.heap.objs.size := by simpa using hb
    refine fresh_fp I1 ?_
    rcases e' with z | z
    · rw [z]; exact Nat.le_add_right _ _
    · rw [z]; exact Nat.le_refl _
theorem vi_enum {e : Expr} {f : Fe (List W)} {p tpos : Pos} {elts : List Expr} {kk : Nat} (ha : VA Γ X Z [e] f) (hm : X.mg "enumerate" = none) (hg : Gl X "enumerate" := by rfl) (hs : starEach [e] X.env = [(false, eval e X.env)] := by rfl) :
    VI Γ X Z (.Tuple elts kk tpos) (.Call (.Name "enumerate" p) [e] [] pos) (fEn f) := by
  refine ⟨PI.mono (pi_enumA hg hm ha.pa hs) fun σ H R q => liftR.imp (seq1 (R := RWs X.K) (R2 := WalkD Γ X.K) q) fun vs H1 ⟨xs, w, e, G, r, p⟩ => ?_⟩
  subst e
  split at p
  · rename_i x
    obtain ⟨v, rfl, rx⟩ := rws_one r
    cases e : itemsOf x w.S with
    | none => rw [e] at p; exact p.elim
    | some y =>
      obtain ⟨ds, S1⟩ := y
      rw [e] at p
      obtain ⟨F, a, xs, rfl, q, d⟩ := itemsOf_ok G rx e
      rcases q with q | q
      · exact ⟨true, a, xs, rfl, SqT.mono (im_sub ⟨w.μ, S1, w.H⟩) q, p ⟨w.μ, S1, w.H⟩ (ItE X.K true a) rfl F.le F.good (walkE (tup := true) q d)⟩
      · exact ⟨false, a, xs, rfl, SqL.mono (im_sub ⟨w.μ, S1, w.H⟩) q, p ⟨w.μ, S1, w.H⟩ (ItE X.K false a) rfl F.le F.good (walkE (tup := false) q d)⟩
  · exact p.elim
theorem off_ne {a N : Addr} (h : a < N) : a ≠ N := Nat.ne_of_lt h
theorem off_ne1 {a N : Addr} (h : a < N) : a ≠ N + 1 := Nat.ne_of_lt (Nat.lt_succ_of_lt h)
/-! ### zip of 2 -/
def ItZ2 (K : PySem.W.Frag) (t1 t2 : Bool) (a1 a2 : Addr) : It :=
  ⟨fun i H => ∃ (xs1 xs2 : List V) (y1 y2 : V), SqA K t1 H a1 xs1 ∧ xs1[i]? = some y1 ∧ SqA K t2 H a2 xs2 ∧ xs2[i]? = some y2, fun i H v H' => ∃ T y1 y2, v = .ref T ∧ H T = none ∧ H' = upd H T (.tup [y1, y2]) ∧ (∀ xs, SqA K t1 H a1 xs → xs[i]? = some y1) ∧ (∀ xs, SqA K t2 H a2 xs → xs[i]? = some y2), fun i H => ∃ xs1 xs2 : List V, SqA K t1 H a1 xs1 ∧ SqA K t2 H a2 xs2 ∧ min xs1.length xs2.length = i⟩
theorem turn_zip2 {P : Program} {w : World} {K : PySem.W.Frag} {elts : List Expr} {kk : Nat} {tpos : Pos} (t1 t2 : Bool) (a1 a2 z TI TO i1 i2 : Addr) :
    Turn P w K (.Tuple elts kk tpos) (ItZ2 K t1 t2 a1 a2) [z, TI, TO, i1, i2] z (fun i h => IsZip h z TI TO .none ∧ IsTupOf2 h TI (.ref i1) (.ref i2) ∧ (∃ b1 b2, IsTupOf2 h TO b1 b2) ∧ itAt t1 i1 a1 i h ∧ itAt t2 i2 a2 i h ∧ ZipSep2 z TI TO i1 i2 [i1, a1] [i2, a2] ∧ a1 ≠ i1 ∧ a2 ≠ i2) where
  mem := by simp
  obj := fun i h st b hb => by
    obtain ⟨hz, hI, ⟨b1, b2, hO⟩, q1, q2, sp, _⟩ := st
    have e' : b = z ∨ b = TI ∨ b = TO ∨ b = i1 ∨ b = i2 := by simpa using hb
    rcases e' with e | e | e | e | e
    · rw [e]; exact ⟨_, hz, fun v q => nomatch q⟩
    · rw [e]; exact ⟨_, hI, fun v q => nomatch q⟩
    · rw [e]; exact ⟨_, hO, fun v q => nomatch q⟩
    · rw [e]; exact itAt_obj q1
    · rw [e]; exact itAt_obj q2
  keep := fun i h h' st k => by
    obtain ⟨hz, hI, ⟨b1, b2, hO⟩, q1, q2, sp⟩ := st
    exact ⟨k z (by simp) _ hz, k TI (by simp) _ hI, ⟨b1, b2, k TO (by simp) _ hO⟩, itAt_keep q1 (fun o q => k i1 (by simp) o q), itAt_keep q2 (fun o q => k i2 (by simp) o q), sp⟩
  item := by
    intro X hP hw hK hc i pins s σ H E I hf st hg
    subst hP hw hK
    obtain ⟨hz, hI, hO, q1, q2, sp, ne1, ne2⟩ := st
    obtain ⟨xs1, xs2, y1, y2, hq1, hx1, hq2, hx2⟩ := hg
    obtain ⟨its1, rv1, con1, hz1⟩ := seqA_of I hq1
    obtain ⟨u1, hu1, ru1⟩ := rv1.get hx1
    have lt1 : i < its1.toArray.size := by
      have := (List.getElem?_eq_some_iff.mp hu1).1
      simpa using this
    obtain ⟨its2, rv2, con2, hz2⟩ := seqA_of I hq2
    obtain ⟨u2, hu2, ru2⟩ := rv2.get hx2
    have lt2 : i < its2.toArray.size := by
      have := (List.getElem?_eq_some_iff.mp hu2).1
      simpa using this
    have W := GoesN.zip2 (elts := elts) (x1 := kk) (pos := tpos) sp (drawsA (P := X.prog) (w := X.w) (A := X.A.in1) (I.ok.hd hc) t1 i1 a1 ne1 its1.toArray) (drawsA (P := X.prog) (w := X.w) (A := X.A.in1) (I.ok.hd hc) t2 i2 a2 ne2 its2.toArray)
    refine wpAny_mono (W.goes i s (fun v s2 => ∃ x' H', Inv X pins σ H' s2 ∧ RelV x' v ∧ (ItZ2 X.K t1 t2 a1 a2).yld i H x' H' ∧ (IsZip s2.heap z TI TO .none ∧ IsTupOf2 s2.heap TI (.ref i1) (.ref i2) ∧ (∃ b1 b2, IsTupOf2 s2.heap TO b1 b2) ∧ itAt t1 i1 a1 (i + 1) s2.heap ∧ itAt t2 i2 a2 (i + 1) s2.heap ∧ ZipSep2 z TI TO i1 i2 [i1, a1] [i2, a2] ∧ a1 ≠ i1 ∧ a2 ≠ i2) ∧ ∀ b ∈ [z, TI, TO, i1, i2], H' b = none) E (by omega) ⟨hz, hI, hO, ⟨q1, con1⟩, ⟨q2, con2⟩⟩ ?_) (fun r s1 ⟨v, e1, h3⟩ => ⟨v, e1, h3⟩) (fun _ _ h => h)
    rintro v h' tk ⟨T, z1, z2, rfl, hT, e1, e2, tp⟩ ⟨hz', hI', hO', ⟨q1', _⟩, ⟨q2', _⟩⟩ k htk
    have ee1 : z1 = u1 := by
      have : its1[i]? = some z1 := by simpa using e1
      rw [hu1] at this; exact (Option.some.inj this).symm
    subst ee1
    have ee2 : z2 = u2 := by
      have : its2[i]? = some z2 := by simpa using e2
      rw [hu2] at this; exact (Option.some.inj this).symm
    subst ee2
    have I1 := inv_turnT I (tk := tk) (fp := [z, TI, TO, i1, i2]) (wr := [z, TO, i1, i2]) (us := [z1, z2]) (vs := [y1, y2]) hf (by simp) k hT tp (.cons ru1 (.cons ru2 (.nil))) (by show 2 ≤ sizeLine; decide)
    refine ⟨.ref T, _, I1, rfl, ⟨T, y1, y2, rfl, I.hok.fresh hT, rfl, (fun ys hy => by rw [seqA_inj I hy hq1]; exact hx1), (fun ys hy => by rw [seqA_inj I hy hq2]; exact hx2)⟩, ⟨hz', hI', hO', q1', q2', sp, ne1, ne2⟩, fun b hb => ?_⟩
    have hb' : b < s.heap.objs.size := by
      obtain ⟨b1, b2, hO⟩ := hO
      have e' : b = z ∨ b = TI ∨ b = TO ∨ b = i1 ∨ b = i2 := by simpa using hb
      rcases e' with e | e | e | e | e
      · rw [e]; exact Heap.lt_size hz
      · rw [e]; exact Heap.lt_size hI
      · rw [e]; exact Heap.lt_size hO
      · rw [e]; obtain ⟨o, q, _⟩ := itAt_obj q1; exact Heap.lt_size q
      · rw [e]; obtain ⟨o, q, _⟩ := itAt_obj q2; exact Heap.lt_size q
    rw [upd_ne (Nat.ne_of_lt (Nat.lt_of_lt_of_le hb' hT))]
    exact (hf b hb).1
  done := by
    intro X hP hw hK hc i pins s σ H E I hf st hg
    subst hP hw hK
    obtain ⟨hz, hI, hO, q1, q2, sp, ne1, ne2⟩ := st
    obtain ⟨xs1, xs2, hq1, hq2, hx⟩ := hg
    obtain ⟨its1, rv1, con1, hz1⟩ := seqA_of I hq1
    have ln1 : its1.toArray.size = xs1.length := by have := rv1.length; simp; omega
    obtain ⟨its2, rv2, con2, hz2⟩ := seqA_of I hq2
    have ln2 : its2.toArray.size = xs2.length := by have := rv2.length; simp; omega
    have W := GoesN.zip2 (elts := elts) (x1 := kk) (pos := tpos) sp (drawsA (P := X.prog) (w := X.w) (A := X.A.in1) (I.ok.hd hc) t1 i1 a1 ne1 its1.toArray) (drawsA (P := X.prog) (w := X.w) (A := X.A.in1) (I.ok.hd hc) t2 i2 a2 ne2 its2.toArray)
    rw [ln1, ln2, hx] at W
    refine wpAny_mono (W.stops s (fun s1 => Inv X pins σ H s1) E ⟨hz, hI, hO, ⟨q1, con1⟩, ⟨q2, con2⟩⟩ fun h' tk k htk => ?_) (fun r s1 h => h) (fun _ _ h => h)
    exact I.turnedL (t' := tk) (ch := [z, TI, TO, i1, i2]) (fun b o hb e => k b o (fun z => hb (by simp at z ⊢; rcases z with z | z | z | z <;> simp [z])) e) hf
  self := fun A i s Q E st h => wpAny_pyIter_zip st.1 h
def zipD2 (ds1 ds2 : List PyData) : List PyData := (ds1.zip ds2).map fun p => .tuple [p.1, p.2]
theorem walkZ2 {K : PySem.W.Frag} {w : Wd} {t1 t2 : Bool} {a1 a2 : Addr} {xs1 xs2 : List V} {ds1 ds2 : List PyData} (q1 : SqA K t1 w.im a1 xs1) (d1 : DpAll K w.im xs1 ds1) (q2 : SqA K t2 w.im a2 xs2) (d2 : DpAll K w.im xs2 ds2) : WalkD Γ K w (ItZ2 K t1 t2 a1 a2) (zipD2 ds1 ds2) := by
  have hl1 := Paired.len (DpAll.paired d1)
  have hl2 := Paired.len (DpAll.paired d2)
  have hle : (zipD2 ds1 ds2).length = min xs1.length xs2.length := by simp [zipD2, hl1, hl2]
  have up : ∀ {t : Bool} {a : Addr} {xs : List V} (w' : Wd), w.le w' → SqA K t w.im a xs → SqA K t w'.H a xs := fun {t a xs} w' l q => by
    cases t
    · exact SqL.mono (im_sub w') (SqL.mono l.im q)
    · exact SqT.mono (im_sub w') (SqT.mono l.im q)
  refine ⟨fun H => SqA K t1 H a1 xs1 ∧ SqA K t2 H a2 xs2, fun i H x H' => (ItZ2 K t1 t2 a1 a2).yld i H x H', ⟨fun i H hi ⟨q1, q2⟩ => ?_, fun H ⟨q1, q2⟩ => ⟨xs1, xs2, q1, q2, hle.symm⟩, fun i H x H' hi q y => y⟩, fun w' l _ => ⟨up w' l q1, up w' l q2⟩, fun i w' x H' hi l G' ⟨T, y1, y2, e1, e2, e3, f1, f2⟩ => ?_⟩
  · rw [hle] at hi
    have h1 : i < xs1.length := by omega
    have h2 : i < xs2.length := by omega
    exact ⟨xs1, xs2, xs1[i], xs2[i], q1, by simp [h1], q2, by simp [h2]⟩
  · subst e1 e3
    rw [hle] at hi
    have i1 : i < ds1.length := by omega
    have ey1 := f1 xs1 (up w' l q1)
    obtain ⟨x1, m1, p1⟩ := Paired.get (DpAll.paired d1) (i := i) (y := ds1[i]) (by simp [i1])
    rw [ey1] at m1
    cases m1
    have i2 : i < ds2.length := by omega
    have ey2 := f2 xs2 (up w' l q2)
    obtain ⟨x2, m2, p2⟩ := Paired.get (DpAll.paired d2) (i := i) (y := ds2[i]) (by simp [i2])
    rw [ey2] at m2
    cases m2
    obtain ⟨G1, l1⟩ := G'.new e2 (.tup [y1, y2])
    refine ⟨⟨w'.μ, w'.S, upd w'.H T (.tup [y1, y2])⟩, rfl, rfl, l1, G1, .tuple [ds1[i], ds2[i]], by simp [zipD2, i1, i2, List.getElem?_zip_eq_some], ?_⟩
    exact Dp.tup (SqT.of (Wd.im_of (w := ⟨w'.μ, w'.S, upd w'.H T (.tup [y1, y2])⟩) upd_same (fun z => G'.nin e2 (live_mem (w := ⟨w'.μ, w'.S, upd w'.H T (.tup [y1, y2])⟩) z)) (fun ps z => by cases z))) (.cons (Dp.mono (l.trans l1).im p1) (.cons (Dp.mono (l.trans l1).im p2) (.nil)))
theorem pi_zip2 {c1 c2 : Expr} {ta : TA} {p pos tpos : Pos} {elts : List Expr} {kk : Nat} (hg : Gl X "zip") (hm : X.mg "zip" = none) (ha : PA X [c1, c2] ta) (hs : starEach [c1, c2] X.env = (false, eval c1 X.env) :: starEach [c2] X.env := by rfl) (hpl : (backTo pos (starEach [c2] X.env)).any (·.1) = false := by rfl) :
    PI X (.Tuple elts kk tpos) (.Call (.Name "zip" p) [c1, c2] [] pos) (fun σ H R => ta σ H fun vs H1 => ∃ t1 t2 a1 a2 xs1 xs2, vs = [.ref a1, .ref a2] ∧ SqA X.K t1 H1 a1 xs1 ∧ SqA X.K t2 H1 a2 xs2 ∧ R (ItZ2 X.K t1 t2 a1 a2) H1) := by
  refine ⟨fun pins s σ H R I h => ?_⟩
  refine PyProof.Rows.Call_ (ld_blt I hg hm PyProof.Rows.boot_zip (PyProof.Rows.callWith_type1 (thn (ha.run pos pins s σ H _ I h) fun us s1 ⟨vs, H1, I1, r1, q1⟩ => ?_) hs hpl))
  obtain ⟨t1, t2, a1, a2, xs1, xs2, ex, hq1, hq2, q⟩ := q1
  subst ex
  cases r1 with
  | cons r r1 =>
    cases r
    cases r1 with
    | cons r r1 =>
      cases r
      cases r1
      obtain ⟨its1, rv1, con1, hz1⟩ := seqA_of I1 hq1
      have lt1 := conAt_lt con1
      obtain ⟨its2, rv2, con2, hz2⟩ := seqA_of I1 hq2
      have lt2 := conAt_lt con2
      refine PySem.zip_begins2 (beginsA t1 a1 its1.toArray) (beginsA t2 a2 its2.toArray) con1 con2 fun h' hzz hI hO hi1 hi2 hsz hk => wpAny_pyIter_zip hzz ?_
      have I2 : Inv X pins σ H1 { s1 with heap := h' } := I1.kept (t' := s1.toks) hk
      have sp := PySem.zip_sep2 (N := s1.heap.objs.size) (fp1 := [a1]) (fp2 := [a2]) (by simpa using lt1) (by simpa using lt2)
      refine ⟨s1.heap.objs.size + 4, [s1.heap.objs.size + 4, s1.heap.objs.size + 2, s1.heap.objs.size + 3, s1.heap.objs.size, s1.heap.objs.size + 1], _, _, H1, rfl, I2, turn_zip2 t1 t2 a1 a2 (s1.heap.objs.size + 4) (s1.heap.objs.size + 2) (s1.heap.objs.size + 3) (s1.heap.objs.size) (s1.heap.objs.size + 1), ⟨hzz, hI, ⟨_, _, hO⟩, itAt_new hi1, itAt_new hi2, sp, off_ne lt1, off_ne1 lt2⟩, fun b hb => ?_, q⟩
      refine fresh_fp I1 ?_
      have e' : b = s1.heap.objs.size + 4 ∨ b = s1.heap.objs.size + 2 ∨ b = s1.heap.objs.size + 3 ∨ b = s1.heap.objs.size ∨ b = s1.heap.objs.size + 1 := by simpa using hb
      rcases e' with e | e | e | e | e <;> rw [e]
      all_goals first | exact Nat.le_refl _ | exact Nat.le_add_right _ _
def fZ2 (f : Fe (List W)) : Fe (List PyData) := fun ρ S => (f ρ S).bind fun xs S1 => match xs with
  | [x1, x2] => (ofO (itemsOf x1 S1)).bind fun ds1 S2 => (ofO (itemsOf x2 S2)).bind fun ds2 S3 => .ok (zipD2 ds1 ds2) S3
  | _ => .bad
theorem vi_zip2 {c1 c2 : Expr} {f : Fe (List W)} {p tpos : Pos} {elts : List Expr} {kk : Nat} (ha : VA Γ X Z [c1, c2] f) (hm : X.mg "zip" = none) (hg : Gl X "zip" := by rfl) (hs : starEach [c1, c2] X.env = (false, eval c1 X.env) :: starEach [c2] X.env := by rfl) (hpl : (backTo pos (starEach [c2] X.env)).any (·.1) = false := by rfl) :
    VI Γ X Z (.Tuple elts kk tpos) (.Call (.Name "zip" p) [c1, c2] [] pos) (fZ2 f) := by
  refine ⟨PI.mono (pi_zip2 hg hm ha.pa hs hpl) fun σ H R q => liftR.imp (seq1 (R := RWs X.K) (R2 := WalkD Γ X.K) q) fun vs H1 ⟨xs, w, e, G, r, p⟩ => ?_⟩
  subst e
  split at p
  · rename_i x1 x2
    obtain ⟨v1, v2, rfl, r1, r2⟩ := rws_two r
    cases e1 : itemsOf x1 w.S with
    | none => rw [e1] at p; exact p.elim
    | some y =>
      obtain ⟨ds1, T1⟩ := y
      rw [e1] at p
      simp only [ofO, Out.bind] at p
      obtain ⟨F1, a1, xs1, hv1, q1, d1⟩ := itemsOf_ok G r1 e1
      cases e2 : itemsOf x2 T1 with
      | none => rw [e2] at p; exact p.elim
      | some y =>
        obtain ⟨ds2, T2⟩ := y
        rw [e2] at p
        simp only [ofO, Out.bind] at p
        obtain ⟨F2, a2, xs2, hv2, q2, d2⟩ := itemsOf_ok F1.good (RW.mono F1.le r2) e2
        have g1 : ∃ t, SqA X.K t (Wd.im ⟨w.μ, T2, w.H⟩) a1 xs1 := q1.elim (fun q => ⟨true, SqT.mono F2.le.im q⟩) (fun q => ⟨false, SqL.mono F2.le.im q⟩)
        replace d1 := DpAll.mono F2.le.im d1
        have g2 : ∃ t, SqA X.K t (Wd.im ⟨w.μ, T2, w.H⟩) a2 xs2 := q2.elim (fun q => ⟨true, q⟩) (fun q => ⟨false, q⟩)
        obtain ⟨t1, g1⟩ := g1
        obtain ⟨t2, g2⟩ := g2
        subst hv1 hv2
        have dn : ∀ {t : Bool} {a : Addr} {xs : List V}, SqA X.K t (Wd.im ⟨w.μ, T2, w.H⟩) a xs → SqA X.K t w.H a xs := fun {t a xs} q => by
          cases t
          · exact SqL.mono (im_sub ⟨w.μ, T2, w.H⟩) q
          · exact SqT.mono (im_sub ⟨w.μ, T2, w.H⟩) q
        exact ⟨t1, t2, a1, a2, xs1, xs2, rfl, dn g1, dn g2, p ⟨w.μ, T2, w.H⟩ (ItZ2 X.K t1 t2 a1 a2) rfl (F1.le.trans F2.le) F2.good (walkZ2 g1 d1 g2 d2)⟩
  · exact p.elim

/-! ### zip of 3 -/
def zipD3 (ds1 ds2 ds3 : List PyData) : List PyData := ((ds1.zip ds2).zip ds3).map fun p => .tuple [p.1.1, p.1.2, p.2]
def fZ3 (f : Fe (List W)) : Fe (List PyData) := fun ρ S => (f ρ S).bind fun xs S1 => match xs with
  | [x1, x2, x3] => (ofO (itemsOf x1 S1)).bind fun ds1 S2 => (ofO (itemsOf x2 S2)).bind fun ds2 S3 => (ofO (itemsOf x3 S3)).bind fun ds3 S4 => .ok (zipD3 ds1 ds2 ds3) S4
  | _ => .bad
end
end G
set_option Elab.async false
set_option linter.all false
set_option maxRecDepth 100000
set_option maxHeartbeats 4000000
/-! G11: own calls, defs, stores into lists and dicts, displays of dicts, tuple * small numbers -/
namespace G
open PySem PySem.Spec L2
set_option autoImplicit false
section
variable {X : Cx}
/-! ### tuple * 1, tuple * 0 -/
theorem tuple_mul1 (l : Addr) (items : Array Value) (n : Nat) (x : Int) (u : Tok) (c0 : (decide (x < -(2 ^ 63)) || decide (x ≥ 2 ^ 63)) = false) (c1 : (items.isEmpty || x == 1) = true) :
    Meets (Builtin.«tuple.__mul__» ⟨[.ref l, .int x u], []⟩) (fun _ R s => (∃ dd sl, s.heap.get? l = some { cls := .type "tuple", dict := dd, data := .seq items n, slots := sl }) ∧
      R (.ok (.ret (Value.ref l))) s) :=
  .of_wp fun prog w A R s h => by
    obtain ⟨hp, g, d, tk, os⟩ := s
    obtain ⟨⟨dd, sl, hl⟩, h⟩ := h
    have f1 := AutoSeq1.idx_int
    wp_walk using wpAny_loadPart' hl
    repeat (first
      | (refine wpAny_ite_false (decide_eq_false (by rw [c0]; exact Bool.false_ne_true)) ?_; wp_walk using wpAny_loadPart' hl)
      | (refine wpAny_ite_true (decide_eq_true (by rw [c1])) ?_; wp_walk using wpAny_loadPart' hl))
    exact ⟨_, rfl, h⟩
theorem tuple_mul0 (l : Addr) (items : Array Value) (n : Nat) (dd : Option Addr) (sl : Array (Option Value)) (x : Int) (u : Tok) (c0 : (decide (x < -(2 ^ 63)) || decide (x ≥ 2 ^ 63)) = false) (c1 : (items.isEmpty || x == 1) = false) (c2 : (decide (x ≤ 0) || items.isEmpty) = true) :
    Meets (Builtin.«tuple.__mul__» ⟨[.ref l, .int x u], []⟩) (fun _ R s => s.heap.get? l = some { cls := .type "tuple", dict := dd, data := .seq items n, slots := sl } ∧
      R (.ok (.ret (Value.ref s.heap.objs.size))) { s with heap := s.heap.push { cls := Value.type "tuple", data := Data.seq #[] }, toks := s.toks }) :=
  .of_wp fun prog w A R s h => by
    obtain ⟨hp, g, d, tk, os⟩ := s
    obtain ⟨hl, h⟩ := h
    have f1 := AutoSeq1.idx_int
    wp_walk using wpAny_loadPart' hl
    repeat (first
      | (refine wpAny_ite_false (decide_eq_false (by rw [c0]; exact Bool.false_ne_true)) ?_; wp_walk using wpAny_loadPart' hl)
      | (refine wpAny_ite_false (decide_eq_false (by rw [c1]; exact Bool.false_ne_true)) ?_; wp_walk using wpAny_loadPart' hl)
      | (refine wpAny_ite_true (decide_eq_true (by rw [c2])) ?_; wp_walk using wpAny_loadPart' hl))
    exact ⟨_, rfl, h⟩
def rRepT1 (K : PySem.W.Frag) : R2 := fun x y H Q => ∃ l k xs, x = .ref l ∧ y = .int k ∧ SqT K H l xs ∧ -1000 ≤ k ∧ k ≤ 1000 ∧ ((k = 1 ∨ xs = []) ∧ Q (.ref l) H ∨ xs ≠ [] ∧ k ≤ 0 ∧ ∀ p, H p = none → Q (.ref p) (upd H p (.tup [])))
theorem op_repT1 : OpR X (binaryOp .Mult) (rRepT1 X.K) := by
  intro pins s σ H x y v u Q I rx ry h
  obtain ⟨l, k, xs, rfl, rfl, hT, h1, h2, q⟩ := h
  cases rx
  obtain ⟨t, rfl⟩ := ry
  obtain ⟨its, r, ⟨⟨cls, dd, data, sl⟩, ho, hc, n, hd⟩, hs⟩ := I.tuple hT
  simp only at hc hd
  subst hc hd
  have c0 : (decide (k < -(2 ^ 63)) || decide (k ≥ 2 ^ 63)) = false := by
    rw [decide_eq_false (by omega), decide_eq_false (by omega)] <;> rfl
  have hem : its.toArray.isEmpty = xs.isEmpty := by
    have := r.length
    cases its <;> cases xs <;> simp_all
  refine wpAny_binaryOp_repeat_ref (T := "tuple") (U := "int") (by decide) ⟨_, ho, rfl⟩ (fun s' => typeIs_int s' k t) noFill_tuple_mul F.fills_int_mul F.slot_int_rmul repeat_tuple F.slot_int_index.lookup
    (call_meets F.slot_int_rmul (typeIs_int s k t) F.entry_int_rmul (F.args_int_rmul_2 _ _) (int_rmul_tuple k t l its.toArray n dd sl)
      ⟨ho, rfl, ⟨_, ho, rfl⟩, ?_⟩)
  rcases q with ⟨e, q⟩ | ⟨e1, e2, q⟩
  · have c1 : (its.toArray.isEmpty || k == 1) = true := by
      rw [hem]
      rcases e with e | e <;> subst e <;> simp
    exact call_meets F.slot_tuple_mul ⟨_, ho, rfl⟩ F.entry_tuple_mul (F.args_tuple_mul_2 _ _) (tuple_mul1 l its.toArray n k t c0 c1) ⟨⟨_, _, ho⟩, .ref l, H, I, rfl, q⟩
  · have hx : xs.isEmpty = false := by cases xs <;> simp_all
    have c1 : (its.toArray.isEmpty || k == 1) = false := by
      rw [hem, hx, Bool.false_or]
      exact beq_eq_false_iff_ne.mpr (by omega)
    have c2 : (decide (k ≤ 0) || its.toArray.isEmpty) = true := by
      rw [decide_eq_true e2, Bool.true_or]
    refine call_meets F.slot_tuple_mul ⟨_, ho, rfl⟩ F.entry_tuple_mul (F.args_tuple_mul_2 _ _) (tuple_mul0 l its.toArray n dd sl k t c0 c1 c2) ⟨ho, ?_⟩
    refine ⟨.ref s.heap.objs.size, _, I.laid (t' := s.toks) (o := .tup []) (fun b ob q => Heap.get?_push_of_some _ q) (Nat.le_refl _) ?_, rfl, q _ (I.hok.fresh (Nat.le_refl _))⟩
    exact ⟨Nat.zero_le _, [], .nil, PyProof.Rows.IsTup.new _ _⟩
variable {Γ : Gm} {Z : WX} {pos : Pos}
def gMulT : Op2 := fun x y S => match x, y with
  | .d (.tuple xs), .d (.int k) => if (k = 1 ∨ xs = []) ∧ -1000 ≤ k ∧ k ≤ 1000 then some (.d (.tuple xs), S) else if k ≤ 0 ∧ -1000 ≤ k then some (.d (.tuple []), S) else gMul x y S
  | x, y => gMul x y S
def rMulC (K : PySem.W.Frag) : R2 := fun x y H Q => rRepT1 K x y H Q ∨ rMulB K x y H Q
theorem op_mulC : OpR X (binaryOp .Mult) (rMulC X.K) := OpR.or op_repT1 op_mulB
theorem does_mulC : Does2 Γ X Z gMulT (rMulC X.K) := fun w x y vx vy σ Q z S' G rx ry h p => by
  unfold gMulT at h
  split at h
  · rename_i xs k
    split at h
    · rename_i hm
      cases h
      cases (show Dp X.K w.im vy (.int k) from ry)
      have rx' := rx
      cases (show Dp X.K w.im vx (.tuple xs) from rx) with
      | tup q1 d1 =>
        have l1 := Paired.len (DpAll.paired d1)
        refine .inl ⟨_, k, _, rfl, rfl, SqT.mono (im_sub w) q1, hm.2.1, hm.2.2, .inl ⟨hm.1.imp id fun e => ?_, p.use G rx'⟩⟩
        subst e; cases d1; rfl
    · split at h
      · rename_i hn hm
        cases h
        cases (show Dp X.K w.im vy (.int k) from ry)
        cases (show Dp X.K w.im vx (.tuple xs) from rx) with
        | tup q1 d1 =>
          have hne : xs ≠ [] := fun e => hn ⟨.inr e, hm.2, by omega⟩
          refine .inl ⟨_, k, _, rfl, rfl, SqT.mono (im_sub w) q1, hm.2, by omega, .inr ⟨fun e => hne ?_, hm.1, ?_⟩⟩
          · subst e; cases d1; rfl
          · exact Post.tup p G (DpAll.of .nil)
      · exact .inr (does_mul w _ _ vx vy σ Q z S' G rx ry h p)
  · exact .inr (does_mul w _ _ vx vy σ Q z S' G rx ry h p)
end
end G
set_option Elab.async false
set_option linter.all false
set_option maxRecDepth 100000
set_option maxHeartbeats 4000000
/-! G12: own calls, defs, stores into lists and dicts, displays of dicts -/
namespace G
open PySem PySem.Spec L2 PyProof.Rows
set_option autoImplicit false
abbrev Fn := List W → Sto → Out W
/-! ### a def's promise by values -/
def spOf (Γ : Gm) (K : PySem.W.Frag) (n : Nat) (F : Fn) : Sp := fun vs H Q E => vs.length = n ∧ ∃ w ws, w.H = H ∧ Good Γ K w ∧ RWs K w vs ws ∧ Post Γ K (RW K) w [] (fun c d _ H => E c d H) (F ws w.S) Q
/-- a def: n values are handed in, dws fill up -/
structure Cal (Γ : Gm) (P : Program) (wd : World) (K : PySem.W.Frag) (mg : Str → Option Value) (base : Heap) (k : Nat) (x : Str) (n : Nat) (dws : List PyData) (F : Fn) : Prop where
  ex : ∃ (f : Addr) (fd : FuncData) (ps : List Str) (ds : List Value) (dvs : List V), mg x = some (.ref f) ∧ PySem.W.keepIn K (.ref f) = true ∧ Binds K fd ps ds ∧ Vals dvs ds ∧ (∀ H, DpAll K H dvs dws) ∧ n + dws.length = ps.length ∧ FnOk P wd K mg base (L2.CX P wd) k f fd ps (spOf Γ K ps.length F)
def ofD (ds : List PyData) : List W := ds.map W.d
theorem rws_ofD {K : PySem.W.Frag} {w : Wd} : ∀ {vs : List V} {ds : List PyData}, DpAll K w.im vs ds → RWs K w vs (ofD ds)
  | _, _, .nil => .nil
  | _, _, .cons q r => .cons q (rws_ofD r)
def fCall (n : Nat) (dws : List PyData) (F : Fn) (f : Fe (List W)) : Fe W := fun ρ S => (f ρ S).bind fun xs S1 => if xs.length = n then F (xs ++ ofD dws) S1 else .bad
def startR (n : Nat) (ws : List W) : Slt := ws.map some ++ List.replicate (n - ws.length) none
def runB (n : Nat) (b : Fs) : Fn := fun ws S => match b (startR n ws) S with
  | .nx _ S1 => .ok (.d .none) S1
  | .rt x S1 => .ok x S1
  | .ex e _ S1 => .ex e S1
  | _ => .bad
section
variable {Γ : Gm} {X : Cx} {Z : WX} {pos : Pos}
theorem Post.zed {α β : Type} {K : PySem.W.Frag} {R : Wd → β → α → Prop} {w : Wd} {σ σ' : L2.St} {Z Z' : WX} {r : Out α} {Q : β → Hp → Prop} (p : Post Γ K R w σ Z r Q) (h : ∀ c d H, Z c d σ H → Z' c d σ' H) : Post Γ K R w σ' Z' r Q := by
  cases r with
  | ok x S => exact p
  | ex e S => exact fun w1 c d e l g r => h _ _ _ (p w1 c d e l g r)
  | bad => exact p
theorem ve_call {k : Nat} {x : Str} {n : Nat} {dws : List PyData} {F : Fn} {e : Expr} {es : List Expr} {f : Fe (List W)} {p : Pos} (C : Cal Γ X.prog X.w X.K X.mg X.base k x n dws F) (tk : Takes X Z) (hr : Room k X.A) (ha : VA Γ X Z (e :: es) f) (hg : Gl X x := by rfl)
    (hdb : (x == ("__debug__" : Str)) = false := by decide) (he : starEach (e :: es) X.env = (false, eval e X.env) :: starEach es X.env := by rfl) (hpl : (backTo pos (starEach es X.env)).any (·.1) = false := by rfl) :
    VE Γ X Z (.Call (.Name x p) (e :: es) [] pos) (fCall n dws F f) := by
  obtain ⟨fa, fd, ps, ds, dvs, hm, hk, hb, hv, hd, hl, Fo⟩ := C.ex
  refine ⟨PE.mono (pe_callSD Fo hr hg hm hk hb hv (fun σ => passAt tk σ) ha.pa hdb he hpl) fun σ H Q q => ?_⟩
  refine liftR.imp (seq1 (R := RWs X.K) q) fun vs H1 ⟨xs, w, e, G, r, p⟩ => ?_
  subst e
  split at p
  · rename_i hn
    refine ⟨?_, w, _, rfl, G, Paired.app r (rws_ofD (hd _)), Post.zed p fun c d H z => z⟩
    have h1 := Paired.len r
    have h2 := Paired.len (DpAll.paired (hd w.H))
    rw [List.length_append]; omega
  · exact p.elim
theorem slots_start {K : PySem.W.Frag} {w : Wd} {N : List Str} {vs : List V} {ws : List W} (r : RWs K w vs ws) : Slots K w (L2.start N vs) (startR N.length ws) := by
  have hl := Paired.len r
  refine ⟨by simp [L2.start, startR, hl], fun i x e => ?_⟩
  unfold startR at e
  by_cases h : i < ws.length
  · rw [List.getElem?_append_left (by simpa using h), List.getElem?_map] at e
    cases e1 : ws[i]? with
    | none => rw [e1] at e; cases e
    | some y =>
      rw [e1] at e
      cases e
      obtain ⟨v, h1, h2⟩ := Paired.get r e1
      refine ⟨v, ?_, h2⟩
      unfold L2.start
      rw [List.getElem?_append_left (by rw [List.length_map]; omega), List.getElem?_map, h1]
      rfl
  · rw [List.getElem?_append_right (by simpa using Nat.le_of_not_lt h), List.getElem?_replicate] at e
    split at e <;> cases e
theorem fn_rule {P : Program} {wd : World} {K : PySem.W.Frag} {mg : Str → Option Value} {base : Heap} {k : Nat} {x qual : Str} {params : Arguments} {body : List Stmt} {scope : Scope} {dvs : List V} {kws : List (Str × V)} {f : Addr} {fd : FuncData} {N ps : List Str} {b : Fs}
    (F : FunD K x qual params body scope dvs kws f fd) (S : FnScope N ps scope)
    (hb : ∀ (cdv : Value) (A : Around) (outer : List Env) (s : Shared) (H : Hp) (E : XK), Room k (A.deeper (envOfC qual scope s.heap.objs.size f cdv)) → VB Γ (cxOf (L2.CX P wd) P wd K mg base N qual scope f cdv A outer s H E) (fun c d _ H => E c d H) body b) :
    FnOk P wd K mg base (L2.CX P wd) (k + 1) f fd ps (spOf Γ K ps.length (runB N.length b)) := by
  refine F.ok S (fun vs H Q E h => h.1) (fun cdv A outer s H vs Q E hr h => ⟨_, (hb cdv A outer s H E hr).ps, ?_⟩)
  obtain ⟨hl, w, ws, rfl, G, r, p⟩ := h
  refine ⟨w, startR N.length ws, rfl, G, slots_start r, ?_⟩
  unfold runB at p
  cases e : b (startR N.length ws) w.S with
  | nx ρ S1 =>
    rw [e] at p
    exact fun w1 σ1 e1 l g q => p w1 .non e1 l g Dp.non
  | rt x S1 => rw [e] at p; exact fun w1 v e1 l g q => p w1 v e1 l g q
  | ex x ρ S1 =>
    rw [e] at p
    exact fun w1 σ1 c d e1 l g q z => p w1 c d e1 l g z
  | bk _ _ => rw [e] at p; exact p.elim
  | ct _ _ => rw [e] at p; exact p.elim
  | bad => rw [e] at p; exact p.elim
/-- how a call of a def without defaults binds -/
theorem Cal.of {P : Program} {wd : World} {K : PySem.W.Frag} {mg : Str → Option Value} {base : Heap} {k : Nat} {x qual : Str} {params : Arguments} {body : List Stmt} {scope : Scope} {kws : List (Str × V)} {f : Addr} {fd : FuncData} {ps : List Str} {F : Fn} {n : Nat}
    (D : FunD K x qual params body scope [] kws f fd) (hm : mg x = some (.ref f)) (hn : n = ps.length) (h : ∀ (kV doc pm : Value) (an : Option Addr) (cdv ct : Value) (us : List Value), us.length = ps.length → bindArgs (PySem.W.fnOf x qual params body scope .none kV doc pm an cdv ct) ⟨us, []⟩ = pure (ps.zip us))
    (o : FnOk P wd K mg base (L2.CX P wd) k f fd ps (spOf Γ K ps.length F)) : Cal Γ P wd K mg base k x n [] F :=
  ⟨f, fd, ps, [], [], hm, D.kp, D.bindsN h, .nil, fun _ => .nil, by simpa using hn, o⟩
theorem Cal.mono {P : Program} {wd : World} {K : PySem.W.Frag} {mg : Str → Option Value} {base : Heap} {j k : Nat} {x : Str} {n : Nat} {dws : List PyData} {F : Fn} (C : Cal Γ P wd K mg base j x n dws F) (h : j ≤ k) : Cal Γ P wd K mg base k x n dws F := by
  obtain ⟨fa, fd, ps, ds, dvs, hm, hk, hb, hv, hd, hl, Fo⟩ := C.ex
  exact ⟨fa, fd, ps, ds, dvs, hm, hk, hb, hv, hd, hl, Fo.mono h⟩

/-! ### a, b, c = x, y, z -/
def fPar3 (i j l : Nat) (f : Fe (List W)) : Fs := fun ρ S => (f ρ S).fl ρ fun xs S1 => match xs with
  | [x, y, z] => .nx (((ρ.set i (some x)).set j (some y)).set l (some z)) S1
  | _ => .bad
theorem flpost {α β : Type} {K : PySem.W.Frag} {R : Wd → β → α → Prop} {w : Wd} {σ : L2.St} {ρ : Slt} {r : Out α} {k : α → Sto → Fl} {D : Ends} (p : PostS Γ K w Z (r.fl ρ k) D) (s : Slots K w σ ρ) :
    Post Γ K R w σ Z r fun v H1 => ∃ x w1, w1.H = H1 ∧ Good Γ K w1 ∧ w.le w1 ∧ R w1 v x ∧ PostS Γ K w1 Z (k x w1.S) D := by
  cases r with
  | ok x S =>
    intro w1 v e l g q
    subst e
    exact ⟨x, w1, rfl, g, l, q, PostS.mono l p⟩
  | ex e S => exact fun w1 c d e1 l g q => p w1 σ c d e1 l g (s.mono l) q
  | bad => exact p
/-! ### o[i] = x -/
def putL (x y z : W) (S : Sto) : Option Sto := match x, y with
  | .o n, .d (.int k) => match S[n]? with
    | some (.lst ws) => (ixN ws.length k).map fun j => S.set n (.lst (ws.set j z))
    | _ => none
  | _, _ => none
def fPutL (fo fi fv : Fe W) : Fs := fun ρ S => (fv ρ S).fl ρ fun z S1 => (fo ρ S1).fl ρ fun x S2 => (fi ρ S2).fl ρ fun y S3 => match putL x y z S3 with
  | some S4 => .nx ρ S4
  | none => .bad
theorem vs_putL {o i e : Expr} {fo fi fv : Fe W} {p' : Pos} (he : VE Γ X Z e fv) (ho : VE Γ X Z o fo) (hi : VE Γ X Z i fi)
    (ha : ∀ v, assign (.Subscript o i p') X.env v = (do
      let ov ← holding [v] (eval o X.env)
      let iv ← holding [v, ov] (eval i X.env)
      standAt p'
      holding [v, ov, iv] (setItem ov iv v)
      release [v, ov, iv] []) := by intro _; rfl)
    (hs : swapsWithSole [.Subscript o i p'] e pos.line X.env = pure false := by rfl) (hw : swappedStores [.Subscript o i p'] e X.env = pure none := by rfl)
    (h1 : (assignEach [.Subscript o i p'] X.env).map (·.2) = [assign (.Subscript o i p') X.env] := by rfl) : VS Γ X Z (.Assign [.Subscript o i p'] e pos) (fPutL fo fi fv) := by
  refine ⟨PS.mono (ps_asg he.pe (pg_sub ho.pe hi.pe set_list ha) hs hw h1) fun D σ H q => ?_⟩
  refine (liftS.out (R := RW X.K) (k := fun z ρ S1 => (fo ρ S1).fl ρ fun x S2 => (fi ρ S2).fl ρ fun y S3 => match putL x y z S3 with
    | some S4 => .nx ρ S4
    | none => .bad) q).imp fun v H1 ⟨z, w1, ρ1, e1, G1, s1, r1, p1⟩ => ?_
  subst e1
  refine ⟨w1, ρ1, rfl, G1, s1, (flpost (R := RW X.K) p1 s1).imp fun o H2 ⟨x, w2, e2, G2, l2, rx, p2⟩ => ?_⟩
  subst e2
  refine ⟨w2, ρ1, rfl, G2, s1.mono l2, (flpost (R := RW X.K) p2 (s1.mono l2)).imp fun i H3 ⟨y, w3, e3, G3, l3, ry, p3⟩ => ?_⟩
  subst e3
  split at p3
  · rename_i S4 e4
    unfold putL at e4
    split at e4
    · rename_i n k _
      split at e4
      · rename_i ws ew
        obtain ⟨j, hj, rfl⟩ := Option.map_eq_some_iff.mp e4
        obtain ⟨a, ha2, rfl⟩ := RW.mono l3 rx
        obtain ⟨vs, hv, rv⟩ := G3.cell n a _ ha2 ew
        cases (show Dp X.K w3.im i (.int k) from ry)
        refine ⟨a, vs, k, j, rfl, rfl, hv, by rw [Paired.len rv]; exact hj, ?_⟩
        have rz := RW.mono (l2.trans l3) r1
        obtain ⟨G5, l5⟩ := G3.write (c' := .lst (ws.set j z)) ha2 ew rfl (.lst (vs.set j v)) (fun w1 l e => ⟨_, e, RWs.mono l (Paired.set rz j rv)⟩) rfl
        exact PostS.nx_use (w := ⟨w3.μ, w3.S.set n (.lst (ws.set j z)), upd w3.H a (.lst (vs.set j v))⟩) (PostS.mono l5 p3) G5 ((s1.mono (l2.trans l3)).mono l5)
      · cases e4
    · cases e4
  · exact p3.elim
/-! ### d[k] = x -/
def putDk (x y z : W) (S : Sto) : Option Sto := match x, keyOf y with
  | .o n, some k => match S[n]? with
    | some (.dic kvs) => if szOk kvs.length = true then some (S.set n (.dic (putD kvs k z))) else none
    | _ => none
  | _, _ => none
def fPutD (fo fi fv : Fe W) : Fs := fun ρ S => (fv ρ S).fl ρ fun z S1 => (fo ρ S1).fl ρ fun x S2 => (fi ρ S2).fl ρ fun y S3 => match putDk x y z S3 with
  | some S4 => .nx ρ S4
  | none => .bad
theorem vs_putD {o i e : Expr} {fo fi fv : Fe W} {p' : Pos} (hu : Rm X) (he : VE Γ X Z e fv) (ho : VE Γ X Z o fo) (hi : VE Γ X Z i fi)
    (hs : swapsWith e (some (.Subscript o i p')) pos.line X.env = pure false := by rfl) : VS Γ X Z (.Assign [.Subscript o i p'] e pos) (fPutD fo fi fv) := by
  refine ⟨PS.mono (ps_dput (by unfold Rm at hu; omega) ho.pe hi.pe he.pe hs) fun D σ H q => ?_⟩
  refine (liftS.out (R := RW X.K) (k := fun z ρ S1 => (fo ρ S1).fl ρ fun x S2 => (fi ρ S2).fl ρ fun y S3 => match putDk x y z S3 with
    | some S4 => .nx ρ S4
    | none => .bad) q).imp fun v H1 ⟨z, w1, ρ1, e1, G1, s1, r1, p1⟩ => ?_
  subst e1
  refine ⟨w1, ρ1, rfl, G1, s1, (flpost (R := RW X.K) p1 s1).imp fun o H2 ⟨x, w2, e2, G2, l2, rx, p2⟩ => ?_⟩
  subst e2
  refine ⟨w2, ρ1, rfl, G2, s1.mono l2, (flpost (R := RW X.K) p2 (s1.mono l2)).imp fun i H3 ⟨y, w3, e3, G3, l3, ry, p3⟩ => ?_⟩
  subst e3
  split at p3
  · rename_i S4 e4
    unfold putDk at e4
    split at e4
    · rename_i n k ek _
      split at e4
      · rename_i kvs ew
        split at e4
        · rename_i hz
          cases e4
          obtain ⟨a, ha2, rfl⟩ := RW.mono l3 rx
          obtain ⟨us, hv, rv⟩ := G3.cell n a _ ha2 ew
          have rz := RW.mono (l2.trans l3) r1
          have hl := Paired.len rv
          refine ⟨a, upd w3.H a (.dK (putK us k v)), rfl, .inl ⟨us, k, hv, keyOf_ok ry ek, by rw [hl]; exact sz_line hz, rfl⟩, ?_⟩
          obtain ⟨G5, l5⟩ := G3.write (c' := .dic (putD kvs k z)) ha2 ew rfl (.dK (putK us k v)) (fun w1 l e => ⟨_, e, Paired.imp (fun _ _ q => ⟨q.1, RW.mono l q.2⟩) (putD_ok rv rz)⟩) rfl
          exact PostS.nx_use (w := ⟨w3.μ, w3.S.set n (.dic (putD kvs k z)), upd w3.H a (.dK (putK us k v))⟩) (PostS.mono l5 p3) G5 ((s1.mono (l2.trans l3)).mono l5)
        · cases e4
      · cases e4
    · cases e4
  · exact p3.elim
end
end G
set_option Elab.async false
set_option linter.all false
set_option maxRecDepth 100000
set_option maxHeartbeats 4000000
/-! G13: displays of dicts, try of what raises nothing -/
namespace G
open PySem PySem.Spec L2 PyProof.Rows
set_option autoImplicit false
def evP : List (Fe W × Fe W) → Fe (List (Key × W))
  | [], _, S => .ok [] S
  | (f, g) :: r, ρ, S => (f ρ S).bind fun x S1 => match keyOf x with
    | some k => (g ρ S1).bind fun y S2 => (evP r ρ S2).bind fun kvs S3 => .ok ((k, y) :: kvs) S3
    | none => .bad
def mergeD (kvs more : List (Key × W)) : List (Key × W) := more.foldl (fun acc kv => putD acc kv.1 kv.2) kvs
def fDisp (ps : List (Fe W × Fe W)) : Fe W := fun ρ S => (evP ps ρ (S ++ [.dic []])).bind fun kvs S1 => match S1[S.length]? with
  | some (.dic []) => .ok (.o S.length) (S1.set S.length (.dic (mergeD [] kvs)))
  | _ => .bad
section
variable {Γ : Gm} {X : Cx} {Z : WX} {pos : Pos}
def trsOf (Γ : Gm) (K : PySem.W.Frag) (Z : WX) (ps : List (Fe W × Fe W)) : List (TE × TE) := ps.map fun p => (liftR Γ K Z (RW K) p.1, liftR Γ K Z (RW K) p.2)
structure VPs (Γ : Gm) (X : Cx) (Z : WX) (pos : Pos) (keys : List (Option Expr)) (values : List Expr) (ps : List (Fe W × Fe W)) : Prop where
  pp : PPs X pos keys values (trsOf Γ X.K Z ps)
theorem vps_nil : VPs Γ X Z pos [] [] [] := ⟨pps_nil⟩
theorem vps_cons {k v : Expr} {ks : List (Option Expr)} {vs : List Expr} {f g : Fe W} {ps : List (Fe W × Fe W)} (hk : VE Γ X Z k f) (hv : VE Γ X Z v g) (hr : VPs Γ X Z pos ks vs ps) : VPs Γ X Z pos (some k :: ks) (v :: vs) ((f, g) :: ps) := ⟨pps_cons hk.pe hv.pe hr.pp⟩
def RKV (K : PySem.W.Frag) (w : Wd) : List (V × V) → List (Key × W) → Prop := Paired fun p q => p.1 = kV q.1 ∧ RW K w p.2 q.2
theorem RKV.mono {K : PySem.W.Frag} {w w1 : Wd} (l : w.le w1) {ps : List (V × V)} {kvs : List (Key × W)} (r : RKV K w ps kvs) : RKV K w1 ps kvs := Paired.imp (fun _ _ q => ⟨q.1, RW.mono l q.2⟩) r
theorem pairs_lift {K : PySem.W.Frag} : ∀ {ps : List (Fe W × Fe W)} {w : Wd} {ρ : Slt} {σ : L2.St} {Q : List (V × V) → Hp → Prop}, Good Γ K w → Slots K w σ ρ → Post Γ K (RKV K) w σ Z (evP ps ρ w.S) Q → tPairs (trsOf Γ K Z ps) σ w.H Q
  | [], w, ρ, σ, Q, G, s, p => p w [] rfl (Wd.le.refl _) G .nil
  | (f, g) :: r, w, ρ, σ, Q, G, s, p => by
    unfold evP at p
    refine ⟨w, ρ, rfl, G, s, (Post.bind (R := RW K) p).imp fun v H1 ⟨w1, x, e1, G1, l1, rx, p1⟩ => ?_⟩
    subst e1
    split at p1
    · rename_i k ek
      refine ⟨w1, ρ, rfl, G1, s.mono l1, (Post.bind (R := RW K) p1).imp fun u H2 ⟨w2, y, e2, G2, l2, ry, p2⟩ => ?_⟩
      subst e2
      refine pairs_lift G2 (s.mono (l1.trans l2)) ((Post.bind (R := RKV K) p2).imp fun qs H3 ⟨w3, kvs, e3, G3, l3, rk, p3⟩ => ?_)
      subst e3
      exact p3 w3 ((v, u) :: qs) rfl (Wd.le.refl _) G3 (.cons ⟨keyOf_ok rx ek, RW.mono l3 ry⟩ rk)
    · exact p1.elim
theorem rkv_keys {K : PySem.W.Frag} {w : Wd} : ∀ {ps : List (V × V)} {kvs : List (Key × W)}, RKV K w ps kvs → ∃ us : List (Key × V), ps = us.map (fun kv => (kV kv.1, kv.2)) ∧ Paired (fun (p : Key × V) (q : Key × W) => p.1 = q.1 ∧ RW K w p.2 q.2) us kvs
  | _, _, .nil => ⟨[], rfl, .nil⟩
  | _, _, .cons (a := a) (b := b) q r => by
    obtain ⟨us, e, h⟩ := rkv_keys r
    exact ⟨(b.1, a.2) :: us, by rw [List.map_cons, ← e, ← q.1], .cons ⟨rfl, q.2⟩ h⟩
theorem merge_ok {K : PySem.W.Frag} {w : Wd} : ∀ {more : List (Key × V)} {mo : List (Key × W)} {us : List (Key × V)} {kvs : List (Key × W)}, Paired (fun (p : Key × V) (q : Key × W) => p.1 = q.1 ∧ RW K w p.2 q.2) more mo →
    Paired (fun (p : Key × V) (q : Key × W) => p.1 = q.1 ∧ RW K w p.2 q.2) us kvs → Paired (fun (p : Key × V) (q : Key × W) => p.1 = q.1 ∧ RW K w p.2 q.2) (mergeK us more) (mergeD kvs mo)
  | _, _, _, _, .nil, h => h
  | _, _, _, _, .cons (a := a) (b := b) q r, h => by
    show Paired _ (mergeK (putK _ a.1 a.2) _) (mergeD (putD _ b.1 b.2) _)
    rw [q.1]
    exact merge_ok r (putD_ok h q.2)
theorem evP_len : ∀ {ps : List (Fe W × Fe W)} {ρ : Slt} {S S' : Sto} {kvs : List (Key × W)}, evP ps ρ S = .ok kvs S' → kvs.length = ps.length
  | [], _, _, _, _, h => by cases h; rfl
  | (f, g) :: r, ρ, S, S', kvs, h => by
    unfold evP at h
    cases e1 : f ρ S with
    | bad => simp [e1] at h
    | ex e T => simp [e1] at h
    | ok x S1 =>
      simp only [e1, Out.bind] at h
      split at h
      · cases e2 : g ρ S1 with
        | bad => simp [e2] at h
        | ex e T => simp [e2] at h
        | ok y S2 =>
          simp only [e2, Out.bind] at h
          cases e3 : evP r ρ S2 with
          | bad => simp [e3] at h
          | ex e T => simp [e3] at h
          | ok z S3 =>
            simp only [e3] at h
            cases h
            have := evP_len e3
            simp [this]
      · cases h
theorem ve_disp {keys : List (Option Expr)} {values : List Expr} {ps : List (Fe W × Fe W)} (h : VPs Γ X Z pos keys values ps) (hall : keys.all (·.isSome) = true := by rfl) (hl : keys.length = values.length := by rfl) (h0 : keys ≠ [] := by (intro z; cases z)) (h15 : keys.length ≤ 15 := by decide) (h16 : ps.length ≤ 15 := by decide) :
    VE Γ X Z (.Dict keys values pos) (fDisp ps) := by
  refine ⟨PE.mono (pe_disp h.pp hall hl h0 h15) fun σ H Q ⟨w, ρ, e, G, s, p⟩ => ?_⟩
  subst e
  intro D hD
  unfold fDisp at p
  obtain ⟨G1, l1⟩ := G.alloc (c := .dic []) hD (.dK []) (fun w1 l e => ⟨[], e, .nil⟩) rfl
  have hD1 : (Wd.mk (w.μ ++ [D]) (w.S ++ [.dic []]) (upd w.H D (.dK []))).μ[w.S.length]? = some D := by
    show (w.μ ++ [D])[w.S.length]? = _
    rw [← G.len]; simp
  have p1 := Post.mono l1 p
  cases ee : evP ps ρ (w.S ++ [.dic []]) with
  | bad => rw [ee] at p1; exact p1.elim
  | ex e S1 =>
    refine pairs_lift (w := ⟨w.μ ++ [D], w.S ++ [.dic []], upd w.H D (.dK [])⟩) G1 (s.mono l1) ?_
    rw [ee] at p1 ⊢
    exact p1
  | ok kvs S1 =>
    refine pairs_lift (w := ⟨w.μ ++ [D], w.S ++ [.dic []], upd w.H D (.dK [])⟩) G1 (s.mono l1) ?_
    have hlen := evP_len ee
    rw [ee] at p1 ⊢
    intro w2 vs e2 l2 G2 rk
    simp only [Out.bind] at p1
    have p2 := Post.mono l2 p1
    subst e2
    have hD2 : w2.μ[w.S.length]? = some D := l2.at hD1
    split at p2
    · rename_i ec
      obtain ⟨us0, hu0, r0⟩ := G2.cell _ D _ hD2 ec
      cases r0
      obtain ⟨us, eu, ru⟩ := rkv_keys rk
      have hl2 := Paired.len ru
      refine ⟨hu0, us, eu, by omega, ?_⟩
      have rm := merge_ok ru (us := []) (kvs := []) .nil
      obtain ⟨G3, l3⟩ := G2.write (c' := .dic (mergeD [] kvs)) hD2 ec rfl (.dK (mergeK [] us)) (fun w1 l e => ⟨_, e, Paired.imp (fun _ _ q => ⟨q.1, RW.mono l q.2⟩) rm⟩) rfl
      exact p2 ⟨w2.μ, w2.S.set w.S.length (.dic (mergeD [] kvs)), upd w2.H D (.dK (mergeK [] us))⟩ (.ref D) rfl l3 G3 ⟨D, hD2, rfl⟩
    · exact p2.elim
/-! ### try of what raises nothing -/
end
end G
set_option Elab.async false
set_option linter.all false
set_option maxRecDepth 100000
set_option maxHeartbeats 4000000
/-! G14: short names for a printer of derivations -/
namespace G
open PySem PySem.Spec L2 PyProof.Rows
set_option autoImplicit false
section
variable {Γ : Gm} {X : Cx} {Z : WX} {pos : Pos} {a b c : Expr} {f g h : Fe W}
abbrev gSub : Op2 := gInt fun i j => .int (i - j)
theorem ve_add (ha : VE Γ X Z a f) (hb : VE Γ X Z b g) : VE Γ X Z (.BinOp a .Add b pos) (fOp2 gAdd f g) := ve_op op_addA does_add ha hb
theorem ve_sub (ha : VE Γ X Z a f) (hb : VE Γ X Z b g) : VE Γ X Z (.BinOp a .Sub b pos) (fOp2 gSub f g) := ve_op op_sub (does_int fun _ _ _ _ => Dp.int _) ha hb
theorem ve_mul (ha : VE Γ X Z a f) (hb : VE Γ X Z b g) : VE Γ X Z (.BinOp a .Mult b pos) (fOp2 gMulT f g) := ve_op op_mulC does_mulC ha hb
theorem ve_fdv (ha : VE Γ X Z a f) (hb : VE Γ X Z b g) : VE Γ X Z (.BinOp a .FloorDiv b pos) (fOp2 gDiv f g) := ve_op op_fdivA does_div ha hb
theorem ve_md (ha : VE Γ X Z a f) (hb : VE Γ X Z b g) : VE Γ X Z (.BinOp a .Mod b pos) (fOp2 gMod f g) := ve_op op_mod does_mod ha hb
theorem ve_pw (ha : VE Γ X Z a f) (hb : VE Γ X Z b g) : VE Γ X Z (.BinOp a .Pow b pos) (fOp2 gPow f g) := ve_op op_pow does_pow ha hb
theorem rmu (hu : Rm X) : X.A.units + 64 < cLine := by unfold Rm at hu; omega
abbrev cLt : Op2 := gLt PySem.W.dataLt
abbrev cGt : Op2 := gLt fun x y => PySem.W.dataLt y x
abbrev cLe : Op2 := gLt fun x y => !PySem.W.dataLt y x
abbrev cGe : Op2 := gLt fun x y => !PySem.W.dataLt x y
theorem ol_lt (hu : Rm X) : OpR X (compareOp .Lt) (rLtD X.K PySem.W.dataLt) := op_ltD hu fun A s a b da db as bs Q E r1 r2 h1 h2 h3 q => PySem.W.lt_data r1 r2 h1 h2 h3 q
theorem ol_gt (hu : Rm X) : OpR X (compareOp .Gt) (rLtD X.K fun x y => PySem.W.dataLt y x) := op_ltD hu fun A s a b da db as bs Q E r1 r2 h1 h2 h3 q => PySem.W.gt_data r1 r2 h1 h2 h3 q
theorem ol_ge (hu : Rm X) : OpR X (compareOp .GtE) (rLtD X.K fun x y => !PySem.W.dataLt x y) := op_ltD hu fun A s a b da db as bs Q E r1 r2 h1 h2 h3 q => PySem.W.ge_data r1 r2 h1 h2 h3 q
theorem ve_eq (hu : Rm X) (ha : VE Γ X Z a f) (hb : VE Γ X Z b g) : VE Γ X Z (.Compare a [.Eq] [b] pos) (fOp2 (dEq false) f g) := ve_cmp (op_eqD (rmu hu)) does_eq (nomark _) ha hb
theorem ve_lt (hu : Rm X) (ha : VE Γ X Z a f) (hb : VE Γ X Z b g) : VE Γ X Z (.Compare a [.Lt] [b] pos) (fOp2 (cLt) f g) := ve_cmp (ol_lt hu) does_lt (nomark _) ha hb
theorem ve_gt (hu : Rm X) (ha : VE Γ X Z a f) (hb : VE Γ X Z b g) : VE Γ X Z (.Compare a [.Gt] [b] pos) (fOp2 (cGt) f g) := ve_cmp (ol_gt hu) does_lt (nomark _) ha hb
theorem bc_len {fa : Fe (List W)} (hm : X.mg "len" = none) (ha : VA Γ X Z [a] fa) {p : Pos} (hg : Gl X "len" := by rfl) (he : starEach [a] X.env = (false, eval a X.env) :: starEach [] X.env := by rfl) (hpl : (backTo pos (starEach [] X.env)).any (·.1) = false := by rfl) : VE Γ X Z (.Call (.Name "len" p) [a] [] pos) (fCB (gLen) fa) := ve_callB (x := "len") (call_len_seq) does_len hg hm (by decide +kernel) ha (by decide +kernel) (by decide +kernel) he hpl
theorem bc_abs {fa : Fe (List W)} (hm : X.mg "abs" = none) (ha : VA Γ X Z [a] fa) {p : Pos} (hg : Gl X "abs" := by rfl) (he : starEach [a] X.env = (false, eval a X.env) :: starEach [] X.env := by rfl) (hpl : (backTo pos (starEach [] X.env)).any (·.1) = false := by rfl) : VE Γ X Z (.Call (.Name "abs" p) [a] [] pos) (fCB (gAbs) fa) := ve_callB (x := "abs") (call_abs) does_abs hg hm (by decide +kernel) ha (by decide +kernel) (by decide +kernel) he hpl
theorem bc_list {fa : Fe (List W)} (hm : X.mg "list" = none) (ha : VA Γ X Z [a] fa) {p : Pos} (hg : Gl X "list" := by rfl) (he : starEach [a] X.env = (false, eval a X.env) :: starEach [] X.env := by rfl) (hpl : (backTo pos (starEach [] X.env)).any (·.1) = false := by rfl) : VE Γ X Z (.Call (.Name "list" p) [a] [] pos) (fCB (gList) fa) := ve_callTy (x := "list") (call_list_of) does_list hg hm (by decide +kernel) ha (by decide +kernel) (by decide +kernel) he hpl
theorem bc_tuple {fa : Fe (List W)} (hm : X.mg "tuple" = none) (ha : VA Γ X Z [a] fa) {p : Pos} (hg : Gl X "tuple" := by rfl) (he : starEach [a] X.env = (false, eval a X.env) :: starEach [] X.env := by rfl) (hpl : (backTo pos (starEach [] X.env)).any (·.1) = false := by rfl) : VE Γ X Z (.Call (.Name "tuple" p) [a] [] pos) (fCB (gTuple) fa) := ve_callTy (x := "tuple") (call_tuple_of) does_tuple hg hm (by decide +kernel) ha (by decide +kernel) (by decide +kernel) he hpl
theorem bc_int {fa : Fe (List W)} (hm : X.mg "int" = none) (ha : VA Γ X Z [a] fa) {p : Pos} (hg : Gl X "int" := by rfl) (he : starEach [a] X.env = (false, eval a X.env) :: starEach [] X.env := by rfl) (hpl : (backTo pos (starEach [] X.env)).any (·.1) = false := by rfl) : VE Γ X Z (.Call (.Name "int" p) [a] [] pos) (fCB (gInt1) fa) := ve_callTy (x := "int") (call_int1) does_int1 hg hm (by decide +kernel) ha (by decide +kernel) (by decide +kernel) he hpl
theorem bc_sum {fa : Fe (List W)} (hm : X.mg "sum" = none) (hc : X.calm = true) (ha : VA Γ X Z [a] fa) {p : Pos} (hg : Gl X "sum" := by rfl) (he : starEach [a] X.env = (false, eval a X.env) :: starEach [] X.env := by rfl) (hpl : (backTo pos (starEach [] X.env)).any (·.1) = false := by rfl) : VE Γ X Z (.Call (.Name "sum" p) [a] [] pos) (fCB (gSum) fa) := ve_callB (x := "sum") (call_sumA hc) does_sum hg hm (by decide +kernel) ha (by decide +kernel) (by decide +kernel) he hpl
theorem bi_int (hm : X.mg "isinstance" = none) (hm2 : X.mg "int" = none) (ha : VE Γ X Z a f) {p p2 : Pos} (hg : Gl X "isinstance" := by rfl) (hg2 : Gl X "int" := by rfl)
    (he : starEach [a, .Name "int" p2] X.env = (false, eval a X.env) :: starEach [.Name "int" p2] X.env := by rfl)
    (he2 : starEach [.Name "int" p2] X.env = (false, eval (.Name "int" p2) X.env) :: starEach [] X.env := by rfl)
    (hpl : (backTo pos (starEach [.Name "int" p2] X.env)).any (·.1) = false := by rfl) : VE Γ X Z (.Call (.Name "isinstance" p) [a, .Name "int" p2] [] pos) (fIsi .it f) := ve_isi .it ha hg hm hg2 hm2 (by decide +kernel) (by decide +kernel) (by decide +kernel) (by decide +kernel) he he2 hpl
theorem bi_bool (hm : X.mg "isinstance" = none) (hm2 : X.mg "bool" = none) (ha : VE Γ X Z a f) {p p2 : Pos} (hg : Gl X "isinstance" := by rfl) (hg2 : Gl X "bool" := by rfl)
    (he : starEach [a, .Name "bool" p2] X.env = (false, eval a X.env) :: starEach [.Name "bool" p2] X.env := by rfl)
    (he2 : starEach [.Name "bool" p2] X.env = (false, eval (.Name "bool" p2) X.env) :: starEach [] X.env := by rfl)
    (hpl : (backTo pos (starEach [.Name "bool" p2] X.env)).any (·.1) = false := by rfl) : VE Γ X Z (.Call (.Name "isinstance" p) [a, .Name "bool" p2] [] pos) (fIsi .bl f) := ve_isi .bl ha hg hm hg2 hm2 (by decide +kernel) (by decide +kernel) (by decide +kernel) (by decide +kernel) he he2 hpl
theorem bi_tuple (hm : X.mg "isinstance" = none) (hm2 : X.mg "tuple" = none) (ha : VE Γ X Z a f) {p p2 : Pos} (hg : Gl X "isinstance" := by rfl) (hg2 : Gl X "tuple" := by rfl)
    (he : starEach [a, .Name "tuple" p2] X.env = (false, eval a X.env) :: starEach [.Name "tuple" p2] X.env := by rfl)
    (he2 : starEach [.Name "tuple" p2] X.env = (false, eval (.Name "tuple" p2) X.env) :: starEach [] X.env := by rfl)
    (hpl : (backTo pos (starEach [.Name "tuple" p2] X.env)).any (·.1) = false := by rfl) : VE Γ X Z (.Call (.Name "isinstance" p) [a, .Name "tuple" p2] [] pos) (fIsi .tp f) := ve_isi .tp ha hg hm hg2 hm2 (by decide +kernel) (by decide +kernel) (by decide +kernel) (by decide +kernel) he he2 hpl
theorem bm_append {o e : Expr} {fo : Fe W} {fe : Fe (List W)} {apos cpos : Pos} (ho : VE Γ X Z o fo) (ha : VA Γ X Z [e] fe)
    (hbase : attributeBase o "append" X.env (eval o X.env) = eval o X.env := by rfl)
    (hfew : ((backTo cpos (starEach [e] X.env)).all (fun x => !x.1) && (backToKw cpos (keywordEach [] X.env)).all (fun x => x.1.isSome)
      && decide ([e].length + ([] : List Keyword).length + (if ([] : List Keyword).isEmpty then 0 else 1) < 30)) = true := by rfl)
    (hline : (apos.endLine == cpos.line) = true := by rfl) (hs : starEach [e] X.env = (false, eval e X.env) :: starEach [] X.env := by rfl) (hplain : (backTo cpos (starEach [] X.env)).any (·.1) = false := by rfl) :
    VE Γ X Z (.Call (.Attribute o "append" apos) [e] [] cpos) (fMt gApp fo fe) := ve_mt PySem.F.slot_list_append PySem.F.type_list_append mt_append does_app ho ha hbase hfew hline hs hplain
theorem gl_tup {K : PySem.W.Frag} {mg : Str → Option Value} {x : Str} {q : Addr} {vs : List V} {ds : List PyData} (e : mg x = some (.ref q)) (h : ∀ H, SqT K H q vs) (d : ∀ H, DpAll K H vs ds) : GlD K mg x (.tuple ds) :=
  ⟨.ref q, _, e, rfl, fun H => Dp.tup (h H) (d H)⟩
end
end G
set_option Elab.async false
set_option linter.all false
set_option maxRecDepth 100000
set_option maxHeartbeats 4000000
/-! G15: a def with defaults, all handed in -/
namespace G
open PySem PySem.Spec L2 PyProof.Rows
set_option autoImplicit false
end G
set_option Elab.async false
set_option linter.all false
set_option maxRecDepth 100000
set_option maxHeartbeats 4000000
/-! G16: comparisons as tests -/
namespace G
open PySem PySem.Spec L2 PyProof.Rows
set_option autoImplicit false
section
variable {Γ : Gm} {X : Cx} {Z : WX} {pos : Pos} {a b c : Expr} {f g h : Fe W}
theorem tru_lift {f : Fe W} {σ : L2.St} {H : Hp} {Q : Bool → Hp → Prop} (q : liftR Γ X.K Z RB (fTru f) σ H Q) : liftR Γ X.K Z (RW X.K) f σ H fun v H1 => ∃ k, v = .bl k ∧ Q k H1 := by
  refine liftR.imp (seq1 q) fun v H1 ⟨x, w, e, G, r, p⟩ => ?_
  subst e
  cases x with
  | d x =>
    cases x with
    | bool b => cases (show Dp X.K w.im v (.bool b) from r); exact ⟨b, rfl, p.use G rfl⟩
    | _ => exact p.elim
  | o n => exact p.elim
  | v n => exact p.elim
  | t n => exact p.elim
  | u n => exact p.elim
  | u2 n => exact p.elim
  | w n => exact p.elim
  | xc a b c => exact p.elim
theorem vt_cmp {op : CmpOp} {r : R2} {k : Op2} (ho : OpR X (compareOp op) r) (hd : Does2 Γ X Z k r) (hm : behindInMarks op b = false) (ha : VE Γ X Z a f) (hb : VE Γ X Z b g) : VT Γ X Z (.Compare a [op] [b] pos) (fTru (fOp2 k f g)) :=
  ⟨PT.mono (pt_cmpR ho ha.pe hb.pe hm) fun _ _ _ q => op2_lift hd (tru_lift q)⟩
theorem vt_eq (hu : Rm X) (ha : VE Γ X Z a f) (hb : VE Γ X Z b g) : VT Γ X Z (.Compare a [.Eq] [b] pos) (fTru (fOp2 (dEq false) f g)) := vt_cmp (op_eqD (rmu hu)) does_eq (nomark _) ha hb
theorem vt_ne (hu : Rm X) (ha : VE Γ X Z a f) (hb : VE Γ X Z b g) : VT Γ X Z (.Compare a [.NotEq] [b] pos) (fTru (fOp2 (dEq true) f g)) := vt_cmp (op_neD (rmu hu)) does_ne (nomark _) ha hb
theorem vt_lt (hu : Rm X) (ha : VE Γ X Z a f) (hb : VE Γ X Z b g) : VT Γ X Z (.Compare a [.Lt] [b] pos) (fTru (fOp2 (cLt) f g)) := vt_cmp (ol_lt hu) does_lt (nomark _) ha hb
theorem vt_gt (hu : Rm X) (ha : VE Γ X Z a f) (hb : VE Γ X Z b g) : VT Γ X Z (.Compare a [.Gt] [b] pos) (fTru (fOp2 (cGt) f g)) := vt_cmp (ol_gt hu) does_lt (nomark _) ha hb
theorem vt_ge (hu : Rm X) (ha : VE Γ X Z a f) (hb : VE Γ X Z b g) : VT Γ X Z (.Compare a [.GtE] [b] pos) (fTru (fOp2 (cGe) f g)) := vt_cmp (ol_ge hu) does_lt (nomark _) ha hb
end
end G
set_option Elab.async false
set_option linter.all false
set_option maxRecDepth 100000
set_option maxHeartbeats 4000000
/-! G17: tuples that the run made, dicts by tuples -/
namespace G
open PySem PySem.Spec L2 PyProof.Rows
set_option autoImplicit false
/-! ### keys as data -/
section
variable {K : PySem.W.Frag} {H : Hp}
end
section
variable {Γ : Gm} {X : Cx} {Z : WX} {pos : Pos}
/-! ### displays of tuples that are known to be the run's -/
/-! ### {}, d[k] = x, d[k] -/
end
end G
set_option Elab.async false
set_option linter.all false
set_option maxRecDepth 100000
set_option maxHeartbeats 4000000
/-! G18: reading and walking dicts by tuples -/
namespace G
open PySem PySem.Spec L2 PyProof.Rows
set_option autoImplicit false
section
variable {Γ : Gm} {X : Cx} {Z : WX} {pos : Pos}
/-! ### d[k], k any tuple -/
/-! ### list(d) -/
/-! ### for k in d: d is written no more -/
end
end G
set_option Elab.async false
set_option linter.all false
set_option maxRecDepth 100000
set_option maxHeartbeats 4000000
/-! G19: walking a list of the run's own tuples; raise and except; t[:0:-1] -/
namespace G
open PySem PySem.Spec L2 PyProof.Rows
set_option autoImplicit false
/-! ### for x in a list of tuples that the run has made -/
structure WalkT (Γ : Gm) (K : PySem.W.Frag) (w : Wd) (J : It) (ds : List PyData) : Prop where
  ex : ∃ (G : Hp → Prop) (Y : Nat → Hp → V → Hp → Prop), Walk J ds.length G Y ∧ (∀ w', w.le w' → Good Γ K w' → G w'.H) ∧
    ∀ (i : Nat) (w' : Wd) (x : V) (H' : Hp), i < ds.length → w.le w' → Good Γ K w' → Y i w'.H x H' → H' = w'.H ∧ ∃ y, ds[i]? = some y ∧ RW K w' x (.t y)
structure VIT (Γ : Gm) (X : Cx) (Z : WX) (tg iter : Expr) (f : Fe (List PyData)) : Prop where
  pi : PI X tg iter (liftR Γ X.K Z (WalkT Γ X.K) f)
section
variable {Γ : Gm} {X : Cx} {Z : WX} {pos : Pos}
/-! ### raise X('..'), try .. except X -/
def leBase : List Value := [.type "LookupError", .type "Exception", .type "BaseException", .type "object"]
/-- an own class over LookupError, without __init__ -/
structure ExF (Γ : Gm) (K : PySem.W.Frag) (mg : Str → Option Value) (x : Str) (c : Nat) : Prop where
  g : mg x = some (.ref (Γ.ca c))
  k : PySem.W.keepIn K (.ref (Γ.ca c)) = true
  q : PySem.W.excIn K (Γ.ca c) leBase "LookupError.__new__" = true
  b : PySem.W.subIn K (.ref (Γ.ca c)) (.type "BaseException") = some true
  t : PySem.W.typeIn K (.ref (Γ.ca c)) = some (.type "type")
  m : PySem.W.exmOne K (.ref (Γ.ca c)) (.ref (Γ.ca c)) = some true
end
end G
set_option Elab.async false
set_option linter.all false
set_option maxRecDepth 100000
set_option maxHeartbeats 4000000
/-! G20: t[:0:-1] of a tuple -/
namespace G
open PySem PySem.Spec L2 PyProof.Rows
set_option autoImplicit false
section
variable {prog : Program} {w : World} {A : Around} {E : Value → Shared → Prop} {s : Shared}
theorem fm_map {α β : Type} {f : α → Option β} {g : α → β} : ∀ {l : List α}, (∀ k ∈ l, f k = some (g k)) → l.filterMap f = l.map g
  | [], _ => rfl
  | k :: r, h => by
    rw [List.filterMap_cons_some (h k List.mem_cons_self), fm_map fun z hz => h z (List.mem_cons_of_mem _ hz)]
    rfl
end
section
variable {Γ : Gm} {X : Cx} {Z : WX} {pos : Pos}
end
end G
set_option Elab.async false
set_option linter.all false
set_option maxRecDepth 100000
set_option maxHeartbeats 4000000
/-! G21: defs that may ask for repr: no repr stands beneath them -/
namespace G
open PySem PySem.Spec L2 PyProof.Rows
set_option autoImplicit false
/-- a def's promise where no repr is under way beneath -/
structure FnG (P : Program) (wd : World) (K : PySem.W.Frag) (mg : Str → Option Value) (base : Heap) (k : Nat) (f : Addr) (fd : FuncData) (ps : List Str) (sp : Sp) : Prop where
  len : ∀ vs H Q E, sp vs H Q E → vs.length = ps.length
  run : ∀ (A : Around) (outer : List Env) (s : Shared) (H : Hp) (us : List Value) (vs : List V) (Q : VK) (E : XK), A.guards = some [] → Room k A → Env0 P wd K mg base A outer s H → BindsTo s fd ⟨us, []⟩ (ps.zip us) → Vals vs us → sp vs H Q E →
    codeAny (model P wd) A (.call (.ref f) ⟨us, []⟩) (CR (L2.CX P wd) outer P wd H s Q E) s
/-- a def that may ask for repr, called by place with all its arguments -/
structure CalG (Γ : Gm) (P : Program) (wd : World) (K : PySem.W.Frag) (mg : Str → Option Value) (base : Heap) (k : Nat) (x : Str) (n : Nat) (F : Fn) : Prop where
  ex : ∃ (f : Addr) (fd : FuncData) (ps : List Str), mg x = some (.ref f) ∧ PySem.W.keepIn K (.ref f) = true ∧ (∀ (s : Shared) (us : List Value), us.length = ps.length → BindsTo s fd ⟨us, []⟩ (ps.zip us)) ∧ n = ps.length ∧ FnG P wd K mg base k f fd ps (spOf Γ K ps.length F)
section
variable {Γ : Gm} {P : Program} {wd : World} {K : PySem.W.Frag} {mg : Str → Option Value} {base : Heap}
theorem start_post {N : List Str} {n : Nat} {b : Fs} {vs : List V} {H : Hp} {Q : VK} {E : XK} (h : spOf Γ K n (runB N.length b) vs H Q E) : liftS Γ K (fun c d _ H => E c d H) b { nx := fun _ H' => Q .non H', rt := Q } (L2.start N vs) H := by
  obtain ⟨hl, w, ws, rfl, G, r, p⟩ := h
  refine ⟨w, startR N.length ws, rfl, G, slots_start r, ?_⟩
  unfold runB at p
  cases e : b (startR N.length ws) w.S with
  | nx ρ S1 => rw [e] at p; exact fun w1 σ1 e1 l g q => p w1 .non e1 l g Dp.non
  | rt x S1 => rw [e] at p; exact fun w1 v e1 l g q => p w1 v e1 l g q
  | ex x ρ S1 => rw [e] at p; exact fun w1 σ1 c d e1 l g q z => p w1 c d e1 l g z
  | bk _ _ => rw [e] at p; exact p.elim
  | ct _ _ => rw [e] at p; exact p.elim
  | bad => rw [e] at p; exact p.elim
theorem fnG_rule {k : Nat} {x qual : Str} {params : Arguments} {body : List Stmt} {scope : Scope} {dvs : List V} {kws : List (Str × V)} {f : Addr} {fd : FuncData} {N ps : List Str} {b : Fs}
    (F : FunD K x qual params body scope dvs kws f fd) (S : FnScope N ps scope)
    (hb : ∀ (cdv : Value) (A : Around) (outer : List Env) (s : Shared) (H : Hp) (E : XK), (A.deeper (envOfC qual scope s.heap.objs.size f cdv)).guards = some [] → Room k (A.deeper (envOfC qual scope s.heap.objs.size f cdv)) → VB Γ (cxOf (L2.CX P wd) P wd K mg base N qual scope f cdv A outer s H E) (fun c d _ H => E c d H) body b) :
    FnG P wd K mg base (k + 1) f fd ps (spOf Γ K ps.length (runB N.length b)) := by
  obtain ⟨oc, od, dV, kV, doc, pm, an, cdv, ct, osl, rfl, lk, hcd, _, _⟩ := F.ex
  refine ⟨fun vs H Q E h => h.1, ?_⟩
  intro A outer s H us vs Q E hgd hr e0 hbd r hsp
  have kin : K.In s.heap := e0.mod.kin.keeps fun c o e => (e0.bs c o e).1
  have nolim : s.heap.NoLimit := e0.mod.nolimit.keeps fun c o e => (e0.bs c o e).1
  have kinds : ((ps.zip us).all fun y => scope.names.lookup y.1 == some .local || scope.names.lookup y.1 == some .cell) = true := by
    rw [List.all_eq_true]
    intro y hy
    have hm : y.1 ∈ ps := (List.of_mem_zip (a := y.1) (b := y.2) hy).1
    rcases S.par y.1 hm with q | q
    · rw [q]; rfl
    · rw [q]; rfl
  refine Att.call_fn kin nolim lk hcd hr.depth hbd kinds ?_ S.co S.gen S.kind
  intro s1 x1
  have hv : vs.length = ps.length := hsp.1
  have I := inv_start (CX := L2.CX P wd) (N := N) (E := E) S hr.hd e0 hv r x1
  have hrun := (hb cdv A outer s H E hgd (hr.deeper _)).ps.run [] s1 (L2.start N vs) H _ I (start_post hsp)
  refine wpAny_mono hrun ?_ (fun _ _ z => z)
  intro fl s' hs
  cases fl with
  | ret u =>
    obtain ⟨v, σ', H', J, rv, q⟩ := hs
    exact ⟨v, H', J.os, J.bare, J.base, J.hok, rv, q⟩
  | next =>
    obtain ⟨σ', H', J, q⟩ := hs
    exact ⟨.non, H', J.os, J.bare, J.base, J.hok, rfl, q⟩
  | brk => exact hs.choose_spec.choose_spec.2.elim
  | cont => exact hs.choose_spec.choose_spec.2.elim
end
section
variable {Γ : Gm} {X : Cx} {Z : WX} {pos : Pos}
theorem ve_callG {k : Nat} {x : Str} {n : Nat} {F : Fn} {e : Expr} {es : List Expr} {f : Fe (List W)} {p : Pos} (C : CalG Γ X.prog X.w X.K X.mg X.base k x n F) (hgd : X.A.guards = some []) (tk : Takes X Z) (hr : Room k X.A) (ha : VA Γ X Z (e :: es) f) (hg : Gl X x := by rfl)
    (hdb : (x == ("__debug__" : Str)) = false := by decide) (he : starEach (e :: es) X.env = (false, eval e X.env) :: starEach es X.env := by rfl) (hpl : (backTo pos (starEach es X.env)).any (·.1) = false := by rfl) :
    VE Γ X Z (.Call (.Name x p) (e :: es) [] pos) (fCall n [] F f) := by
  obtain ⟨fa, fd, ps, hm, hk, hb, hn, Fo⟩ := C.ex
  constructor
  constructor
  intro pins s σ H Q I q
  refine wpAny_Call_Name_kw (ld_glob I hg hm ?_ hdb)
  have q1 := seq1 (R := RWs X.K) q
  refine PySem.W.callWith_K (h₀ := X.base) I.ok.mod.kin hk (thn (ha.pa.run pos pins s σ H _ I q1) ?_) he hpl
  rintro us s1 ⟨vs, H1, I1, r, xs, w, rfl, G, rx, p1⟩
  refine ⟨I1.kIn, ?_⟩
  split at p1
  · rename_i hl
    have hv : vs.length = ps.length := by rw [Paired.len rx, hl, hn]
    have hu : us.length = ps.length := by rw [← r.length]; exact hv
    rw [show xs ++ ofD [] = xs from List.append_nil xs] at p1
    have hsp : spOf Γ X.K ps.length F vs w.H Q (WE Z σ) := ⟨hv, w, xs, rfl, G, rx, Post.zed p1 fun _ _ _ z => z⟩
    refine wpAny_call (codeAny_mono (Fo.run X.A X.stack s1 w.H us vs Q (WE Z σ) hgd hr I1.env0 (hb s1 us hu) r hsp) ?_)
    intro res s2 h2
    cases res with
    | error ev => exact passAt tk σ pins w.H s1 ev s2 I1 h2
    | ok fl =>
      cases fl with
      | ret u => exact I1.after h2
      | next => exact h2.elim
      | brk => exact h2.elim
      | cont => exact h2.elim
  · exact p1.elim
/-! ### the law's own call -/
theorem end_law {l : PySem.W.OpenLaw} {n k : Nat} {q : Program} {loose : List Str} {XP : (Str → Option Value) → Heap → Prop} {YP : World → Heap → Prop} {d : DefRec} {x : Str}
    (hn : l.most = some n) (hn2 : n ≤ sizeLine) (hdf : d.params.defaults = []) (hr : Room k callerA)
    (F : ∀ (w : World) (mg : Str → Option Value) (fa : Addr) (h : Heap), YP w h → h.Ns mainGlobals mg → mg d.name = some (.ref fa) → ∃ (K : PySem.W.Frag) (fd : FuncData) (sp : Sp), K.In h ∧ (∀ (s : Shared) (u : Value), BindsTo s fd ⟨[u], []⟩ [(x, u)]) ∧
      (∀ (H : Hp) (a : Addr) (ns : List Int), ns.length ≤ n → SqL K H a (ns.map V.int) → sp [.ref a] H (fun v _ => v = .bl true) fun _ _ _ => False) ∧ ∀ base : Heap, K.In base → base.Ns mainGlobals mg → FnG l.prog w K mg base k fa fd [x] sp) :
    PySem.W.WalkO q loose XP YP l.row.toRowW d [] (fun f vs => PySem.call f vs) := by
  refine Att.attach_callB hn hdf ?_
  intro w s0 s1 mg mb fa o pm cd doc a vs ns G Y ho hd hcd hmg hobj hints hlen _ hgens
  obtain ⟨K, fd, sp, kin, hbind, hsp, hF⟩ := F w mg fa _ Y G.T.g hmg
  have rv := vals_ints hints
  have hz : (ns.map V.int).length ≤ sizeLine := by rw [List.length_map]; exact Nat.le_trans hlen hn2
  -- the script is told apart unless it is the module's own
  obtain ⟨H, hH, hS, hok⟩ : ∃ H : Hp, (∀ b, H b = none ∨ b = a ∧ K.lookup a = none ∧ H a = some (.frz { cls := .type "list", data := .seq vs.toArray } (.lst (ns.map V.int)))) ∧ SqL K H a (ns.map V.int) ∧ HOk l.prog w H s1.heap := by
    cases hk : K.lookup a with
    | some ob =>
      have e1 := kin a ob hk
      rw [hobj] at e1
      cases e1
      refine ⟨fun _ => none, fun _ => .inl rfl, .inr ⟨_, vs.toArray, _, hk, rfl, rfl, rfl, ?_, by simpa using rv⟩, fun b u z => (by cases z)⟩
      rw [List.size_toArray, hints.length]
      exact Nat.le_trans hlen hn2
    | none =>
      refine ⟨upd (fun _ => none) a (.frz { cls := .type "list", data := .seq vs.toArray } (.lst (ns.map V.int))), fun b => ?_, .inl (.inr ⟨_, upd_same⟩), fun b u z => ?_⟩
      · by_cases hb : b = a
        · exact .inr ⟨hb, rfl, upd_same⟩
        · exact .inl (upd_ne hb)
      · by_cases hb : b = a
        · subst hb
          rw [upd_same] at z
          cases z
          exact ⟨hobj, hz, vs, _, rv, hobj⟩
        · rw [upd_ne hb] at z
          cases z
  have clear : ∀ (b : Addr) (ob : Obj), s1.heap.get? b = some ob → (∃ es ep, ob.data = .dict es ep) ∨ K.lookup b ≠ none → H b = none := fun b ob e h => by
    rcases hH b with z | ⟨rfl, z1, _⟩
    · exact z
    · rcases h with ⟨es, ep, h⟩ | h
      · rw [hobj] at e
        cases e
        cases h
      · exact absurd z1 h
  have ns_in : ∀ (b : Addr) (m : Str → Option Value), s1.heap.Ns b m → (hidT s1.heap H).Ns b m := fun b m h => by
    obtain ⟨ob, es, ep, e1, e2, e3⟩ := h
    exact ⟨ob, es, ep, hidT_get e1 (clear b ob e1 (.inl ⟨es, ep, e2⟩)), e2, e3⟩
  have kinB : K.In (hidT s1.heap H) := fun b ob e => hidT_get (kin b ob e) (clear b ob (kin b ob e) (.inr (by rw [e]; simp)))
  obtain ⟨mc, c1, c2⟩ := G.T.nolimit
  have md : L2.Mod K mg (hidT s1.heap H) := ⟨kinB, ns_in _ _ G.T.g, ⟨mb, ns_in _ _ G.T.b, G.T.builtins⟩, ⟨mc, ns_in _ _ c1, c2⟩⟩
  have e0 : Env0 l.prog w K mg (hidT s1.heap H) callerA [] s1 H := by
    refine ⟨rfl, md, fun b ob e => of_hidT e, Nat.le_of_eq (hidT_size _ _), trivial, fun b hb => ?_, hok, .of_eq hgens⟩
    cases hb
  have hrun := (hF _ kinB (ns_in _ _ G.T.g)).run callerA [] s1 H [.ref a] [.ref a] _ _ rfl hr e0 (hbind s1 (.ref a)) (.cons rfl .nil) (hsp H a ns hlen hS)
  refine codeAny_mono hrun ?_
  intro res s' h
  cases res with
  | error ev =>
    obtain ⟨_, _, _, _, _, _, _, _, _, _, _, _, z⟩ := h
    exact z.elim
  | ok fl =>
    cases fl with
    | next => exact h.elim
    | brk => exact h.elim
    | cont => exact h.elim
    | ret u =>
      obtain ⟨v, H', hos, hbare, un, hok', r', rfl⟩ := h
      obtain rfl : u = Value.bool true := r'
      refine ⟨rfl, OldK.of_keep fun b ob e => ?_, hos, hbare⟩
      rcases hH b with z | ⟨rfl, _, z⟩
      · exact un.keep b ob e z (fun hm => by cases hm) (fun hm => by cases hm)
      · have z2 := (hok' b _ (un.frzs b _ _ z)).1
        rw [hobj] at e
        cases e
        exact z2
end
end G
set_option Elab.async false
set_option linter.all false
set_option maxRecDepth 100000
set_option maxHeartbeats 4000000
/-! G22: repr of lists and tuples -/
namespace G
open PySem PySem.Spec L2 PyProof.Rows
set_option autoImplicit false
def reprOk (d : PyData) : Bool := d.showable && (!d.hasDict && (((d.leavesShort 2000 && decide (d.weight ≤ 8000)) || (d.leavesShort 198 && decide (d.weight ≤ 80000))) && decide (d.depth ≤ 60)))
def isBox : PyData → Bool
  | .list _ => true
  | .tuple _ => true
  | .int _ => true
  | .bool _ => true
  | .none => true
  | .str _ => true
  | .dict _ => false
def gRepr : OpN := fun xs S => match xs with
  | [x] => match view x S with
    | some d => if (isBox d && reprOk d) = true then some (.d (.str d.shown), S) else none
    | none => none
  | _ => none
def rRepr (K : PySem.W.Frag) : List V → Hp → VK → Prop := fun xs H Q => ∃ (v : V) (d : PyData), xs = [v] ∧ Dp K H v d ∧ (isBox d && reprOk d) = true ∧ Q (.str d.shown) H
section
variable {Γ : Gm} {X : Cx} {Z : WX} {pos : Pos}
theorem call_reprD (hgd : X.A.guards = some []) (hu : Rm X) : CallR X (.builtin "repr") (rRepr X.K) := by
  intro pins s σ H xs us Q I r h
  obtain ⟨v, d, rfl, hd, ok, q⟩ := h
  obtain ⟨u, rfl, ru⟩ := r.one
  rw [Bool.and_eq_true] at ok
  obtain ⟨box, ok⟩ := ok
  unfold reprOk at ok
  simp only [Bool.and_eq_true, Bool.or_eq_true, decide_eq_true_eq, Bool.not_eq_true'] at ok
  obtain ⟨o1, o2, o3, o5⟩ := ok
  obtain ⟨as, rd⟩ := Dp.reads I d v u hd ru
  have hsz : d.shown.length ≤ sizeLine := by
    rw [sizeLine_eq]
    rcases o3 with ⟨o3, o4⟩ | ⟨o3, o4⟩
    · have h1 := PyData.shown_le 2000 (by decide) d o3
      have h2 : (2000 + 2) * d.weight ≤ (2000 + 2) * 8000 := Nat.mul_le_mul_left _ o4
      omega
    · have h1 := PyData.shown_le 198 (by decide) d o3
      have h2 : (198 + 2) * d.weight ≤ (198 + 2) * 80000 := Nat.mul_le_mul_left _ o4
      omega
  have hun : X.A.units + (d.depth + 1) < cLine := by unfold Rm at hu; omega
  have go : ∀ a, u = .ref a → wpAny (model X.prog X.w) X.A (call (.builtin "repr") [u]) (EP X pins σ Q) X.xe s := fun a e => by
    subst e
    exact repr_of_reads' rd o1 (PyData.noDict_hsm o2) hgd hun (fun _ _ e => e) (fun h' t tk hk => ⟨.str _, H, I.kept (t' := tk) hk, ⟨t, rfl⟩, q⟩) hsz
  cases hd with
  | lst q1 q2 => exact go _ ru
  | tup q1 q2 => exact go _ ru
  | int i =>
    obtain ⟨t, rfl⟩ := ru
    exact P.repr_of_int (of_decide_eq_true o1) ⟨.str _, H, I.tok _, ⟨_, rfl⟩, q⟩
  | bl b =>
    cases ru
    cases b
    · exact P.repr_of_bool ⟨.str _, H, I.tok _, ⟨_, rfl⟩, q⟩
    · exact P.repr_of_bool ⟨.str _, H, I.tok _, ⟨_, rfl⟩, q⟩
  | non =>
    cases ru
    exact P.repr_of_none ⟨.str _, H, I.tok _, ⟨_, rfl⟩, q⟩
  | str x =>
    obtain ⟨t, rfl⟩ := ru
    exact P.repr_of_str (h := ⟨.str _, H, I.tok _, ⟨_, rfl⟩, q⟩) hsz
theorem does_repr : DoesN Γ X Z gRepr (rRepr X.K) := fun w xs vs σ Q z S' G r h p => by
  unfold gRepr at h
  split at h
  · rename_i x
    split at h
    · rename_i d e
      split at h
      · rename_i ok
        cases h
        obtain ⟨v, rfl, rx⟩ := rws_one r
        exact ⟨v, d, rfl, view_ok G rx e, ok, p.use G (Dp.str _)⟩
      · cases h
    · cases h
  · cases h
theorem bc_repr {a : Expr} {fa : Fe (List W)} (hm : X.mg "repr" = none) (hgd : X.A.guards = some []) (hu : Rm X) (ha : VA Γ X Z [a] fa) {p : Pos} (hg : Gl X "repr" := by rfl) (he : starEach [a] X.env = (false, eval a X.env) :: starEach [] X.env := by rfl) (hpl : (backTo pos (starEach [] X.env)).any (·.1) = false := by rfl) :
    VE Γ X Z (.Call (.Name "repr" p) [a] [] pos) (fCB gRepr fa) := ve_callB (x := "repr") (call_reprD hgd hu) does_repr hg hm (by decide +kernel) ha (by decide +kernel) (by decide +kernel) he hpl
end
end G
set_option Elab.async false
set_option linter.all false
set_option maxRecDepth 100000
set_option maxHeartbeats 4000000
/-! G24: dicts by tuples of numbers, whatever tuples they are: the rules -/
namespace G
open PySem PySem.Spec L2 PyProof.Rows
set_option autoImplicit false
abbrev XL := List (List Int × Addr × Value)
def KIn (K : PySem.W.Frag) (H : Hp) (xs : XL) : Prop := ∀ x ∈ xs, SqT K H x.2.1 (x.1.map V.int)
section
variable {P : Program} {wd : World}
end
section
variable {X : Cx} {pins : List (Addr × Obj)} {σ : L2.St} {H : Hp} {s : Shared} {a b : Addr} {xs : XL} {ks : List Int}
end
section
variable {X : Cx} {pos : Pos}
/-! {} -/
/-! d[k] = v -/
/-! k in d -/
/-! d[k] -/
/-! for k in d -/
end
end G
set_option Elab.async false
set_option linter.all false
set_option maxRecDepth 100000
set_option maxHeartbeats 4000000
/-! G25: dicts by tuples of numbers, by values -/
namespace G
open PySem PySem.Spec L2 PyProof.Rows
set_option autoImplicit false
def intsL : List PyData → Option (List Int)
  | [] => some []
  | .int i :: r => (intsL r).map (i :: ·)
  | _ :: _ => none
def keyI : PyData → Option (List Int)
  | .tuple ds => intsL ds
  | _ => none
def tupI (ks : List Int) : PyData := .tuple (ks.map PyData.int)
section
variable {K : PySem.W.Frag} {H : Hp}
end
@[simp] theorem intsL_map : ∀ ks : List Int, intsL (ks.map PyData.int) = some ks
  | [] => rfl
  | k :: r => by
    show (intsL (r.map PyData.int)).map _ = _
    rw [intsL_map r]
    rfl
section
variable {K : PySem.W.Frag} {w : Wd} {xs : XL} {kvs : List (List Int × W)} {ks : List Int}
theorem XE.kin : ∀ {xs : XL} {kvs : List (List Int × W)}, Paired (XE K w) xs kvs → KIn K w.H xs
  | _, _, .nil => fun x hx => by cases hx
  | _, _, .cons (a := x) (b := q) ⟨e1, e2, _⟩ t => fun y hy => by
    rcases List.mem_cons.mp hy with h | h
    · rw [h, e1]; exact SqT.mono (im_sub w) e2
    · exact XE.kin t y h
end
/-! {} -/
def dixOf (x : W) (S : Sto) : Option (List (List Int × W)) := match x with
  | .o n => match S[n]? with
    | some (.dix kvs) => some kvs
    | some (.fdx kvs) => some kvs
    | _ => none
  | _ => none
section
variable {Γ : Gm} {X : Cx} {Z : WX} {pos : Pos}
/-! d[k] = v -/
/-! k in d -/
def gInX (neg : Bool) : Op2 := fun x y S => match x, dixOf y S with
  | .d d, some kvs => match keyI d with
    | some ks => some (.d (.bool (if neg = true then !(lookD kvs ks).isSome else (lookD kvs ks).isSome)), S)
    | none => none
  | _, _ => none
section
variable {a b : Expr} {f g : Fe W}
end
/-! d[k] -/
def gXget : Op2 := fun x y S => match dixOf x S, y with
  | some kvs, .d d => match keyI d with
    | some ks => (lookD kvs ks).map fun z => (z, S)
    | none => none
  | _, _ => none
/-! for k in d -/
def keysX (kvs : List (List Int × W)) : List PyData := kvs.map fun q => tupI q.1
def fKeysX (f : Fe W) : Fe (List PyData) := fun ρ S => (f ρ S).bind fun x S1 => match x with
  | .o n => match S1[n]? with
    | some (.dix kvs) => .ok (keysX kvs) (S1.set n (.fdx kvs))
    | some (.fdx kvs) => .ok (keysX kvs) S1
    | _ => .bad
  | _ => .bad
end
end G
set_option Elab.async false
set_option linter.all false
set_option maxRecDepth 100000
set_option maxHeartbeats 4000000
/-! G26: dict(list of pairs), keys tuples of numbers -/
namespace G
open PySem PySem.Spec L2 PyProof.Rows
set_option autoImplicit false
/-- a pair: its tuple, its key, where the key stands, what it holds -/
structure Pq where
  p : Addr
  ks : List Int
  b : Addr
  v : V
section
variable {X : Cx} {pins : List (Addr × Obj)} {σ : L2.St} {H : Hp} {s : Shared}
end
/-! by values -/
section
variable {Γ : Gm} {X : Cx} {Z : WX} {pos : Pos}
/-! max(list) -/
end
end G
set_option Elab.async false
set_option linter.all false
set_option maxRecDepth 100000
set_option maxHeartbeats 4000000
/-! G27: t1, t2 = a, b with parts as targets; calls by names -/
namespace G
open PySem PySem.Spec L2 PyProof.Rows
set_option autoImplicit false
abbrev Tg := W → Slt → Sto → Fl
def tgE (Q : L2.St → Hp → Prop) : Ends := { nx := Q, rt := fun _ _ => False }
def liftT (Γ : Gm) (K : PySem.W.Frag) (Z : WX) (g : Tg) : TG := fun v σ H Q => ∃ w ρ x, w.H = H ∧ Good Γ K w ∧ Slots K w σ ρ ∧ RW K w v x ∧ PostS Γ K w Z (g x ρ w.S) (tgE Q)
structure VTg (Γ : Gm) (X : Cx) (Z : WX) (e : Expr) (g : Tg) : Prop where
  pg : PG X e (liftT Γ X.K Z g)
section
variable {Γ : Gm} {X : Cx} {Z : WX} {pos : Pos}
end
end G
set_option Elab.async false
set_option linter.all false
set_option maxRecDepth 100000
set_option maxHeartbeats 4000000
/-! G28: f(a = .., b = ..) -/
namespace G
open PySem PySem.Spec L2 PyProof.Rows
set_option autoImplicit false
/-- a def called with all its parameters by name: the i-th parameter is the (ix i)-th keyword -/
structure CalK (Γ : Gm) (P : Program) (wd : World) (K : PySem.W.Frag) (mg : Str → Option Value) (base : Heap) (k : Nat) (x : Str) (ks : List Str) (ix : List Nat) (F : Fn) : Prop where
  ex : ∃ (f : Addr) (fd : FuncData) (ps : List Str), mg x = some (.ref f) ∧ PySem.W.keepIn K (.ref f) = true ∧ (∀ (s : Shared) (ws : List Value), ws.length = ks.length → BindsTo s fd ⟨[], ks.zip ws⟩ (ps.zip (ix.map fun i => ws.getD i .none))) ∧ ix.length = ps.length ∧ FnOk P wd K mg base (L2.CX P wd) k f fd ps (spOf Γ K ps.length F)
structure VK2 (Γ : Gm) (X : Cx) (Z : WX) (kws : List Keyword) (f : Fe (List W)) : Prop where
  pk : PK X kws (liftR Γ X.K Z (RWs X.K) f)
theorem PK.mono {X : Cx} {kws : List Keyword} {t t' : TA} (h : PK X kws t) (i : ∀ σ H Q, t' σ H Q → t σ H Q) : PK X kws t' := ⟨fun pos pins s σ H Q I q => h.run pos pins s σ H Q I (i _ _ _ q)⟩
section
variable {Γ : Gm} {X : Cx} {Z : WX} {pos : Pos}
end
end G
set_option Elab.async false
set_option linter.all false
set_option maxRecDepth 100000
set_option maxHeartbeats 4000000
/-! G29: tuples of which the object is known, and the first place of an equal thing in them -/
namespace G
open PySem PySem.Spec L2 PyProof.Rows
set_option autoImplicit false
/-! ### tuple(list), the new object known -/
section
variable {X : Cx}
end
section
variable {Γ : Gm} {X : Cx} {Z : WX} {pos : Pos}
/-! ### (e, t), t known -/
/-! ### e[1] -/
end
/-! ### t.index(x) -/
section
variable {Γ : Gm} {X : Cx} {Z : WX} {pos : Pos}
end
end G
set_option Elab.async false
set_option linter.all false
set_option maxRecDepth 100000
set_option maxHeartbeats 4000000
/-! G30: list(range(n)), sorted(set(list)), min(list), list.pop(), more of dicts by numbers, tuples of objects -/
namespace G
open PySem PySem.Spec L2 PyProof.Rows
set_option autoImplicit false
section
variable {P : Program} {w : World} {A : Around} {E : Value → Shared → Prop} {s : Shared}
end
/-! ### list(range(n)) -/
section
variable {Γ : Gm} {X : Cx} {Z : WX} {pos : Pos}
/-! ### sorted(set(list)) -/
/-- the members, rising -/
def insU (x : Int) : List Int → List Int
  | [] => [x]
  | y :: l => if x < y then x :: y :: l else if x = y then y :: l else y :: insU x l
def sset (ns : List Int) : List Int := ns.foldr insU []
/-! ### min(list) -/
/-! ### list.pop() -/
def popW (x : W) (S : Sto) : Option (W × Sto) := match x with
  | .o n => match S[n]? with
    | some (.lst ws) => match ws[ws.length - 1]? with
      | some z => some (z, S.set n (.lst ws.dropLast))
      | none => none
    | _ => none
  | _ => none
def fPop0 (f : Fe W) : Fe W := fun ρ S => (f ρ S).bind fun x S1 => ofO (popW x S1)
theorem Paired.dropLast {α β : Type} {F : α → β → Prop} : ∀ {l : List α} {m : List β}, Paired F l m → Paired F l.dropLast m.dropLast
  | _, _, .nil => .nil
  | _, _, .cons (l₁ := []) (l₂ := []) q .nil => .nil
  | _, _, .cons q (.cons q2 t) => .cons q (Paired.dropLast (.cons q2 t))
theorem bm_pop0 {o : Expr} {fo : Fe W} {apos cpos : Pos} (ho : VE Γ X Z o fo) (hbase : attributeBase o "pop" X.env (eval o X.env) = eval o X.env := by rfl) (hline : (apos.endLine == cpos.line) = true := by rfl) :
    VE Γ X Z (.Call (.Attribute o "pop" apos) [] [] cpos) (fPop0 fo) := by
  refine ⟨PE.mono (pe_bm0 PySem.F.plainAttrs_list PySem.F.slot_list_pop PySem.F.type_list_pop mt_pop ho.pe hbase hline) fun σ H Q q => liftR.imp (seq1 (R := RW X.K) q) ?_⟩
  rintro v H1 ⟨x, w, rfl, G, r, p⟩
  cases e : popW x w.S with
  | none => rw [e] at p; exact p.elim
  | some zz =>
    rw [e] at p
    unfold popW at e
    split at e
    · rename_i n
      obtain ⟨a, ha, rfl⟩ := r
      split at e
      · rename_i ws e2
        split at e
        · rename_i z e3
          cases e
          obtain ⟨us, q, rr⟩ := G.cell n a _ ha e2
          obtain ⟨y, h1, h2⟩ := Paired.get rr e3
          refine ⟨Or.inl ⟨rfl, _, SqL.of q⟩, a, us, y, rfl, rfl, q, by rw [Paired.len rr]; exact h1, ?_⟩
          exact Post.setL p G ha e2 rfl (Paired.dropLast rr) h2
        · cases e
      · cases e
    · cases e
/-! ### k in d, len(d), d.update(e): dicts by numbers -/
end
end G
set_option Elab.async false
set_option linter.all false
set_option maxRecDepth 100000
set_option maxHeartbeats 4000000
/-! G31: tests of dicts by numbers, len(d), d.update(e), tuples of objects -/
namespace G
open PySem PySem.Spec L2 PyProof.Rows
set_option autoImplicit false
section
variable {Γ : Gm} {X : Cx} {Z : WX} {pos : Pos}
/-! len(d) -/
def gLenD : OpN := fun xs S => match xs with
  | [x] => match dicOf x S with
    | some kvs => some (.d (.int (kvs.length : Nat)), S)
    | none => none
  | _ => none
/-! d.update(e) -/
def fMtD (g : OpM) (f : Fe W) (h : Fe (List W)) : Fe W := fun ρ S => (f ρ S).bind fun x S1 => if (dicOf x S1).isSome = true then (h ρ S1).bind fun xs S2 => ofO (g x xs S2) else .bad
/-! {} keyed by numbers -/
/-! tuples of objects -/
end
end G
set_option Elab.async false
set_option linter.all false
set_option maxRecDepth 100000
set_option maxHeartbeats 4000000
/-! G32: sorted(tuple). collect of a tuple goes the library's way of collect_list; then the library's list.sort over the new list. -/
namespace PySem.W
open PySem PySem.Calls PyProof.Rows
section
variable {prog : Program} {w : World} {A : Around} {E : Value → Shared → Prop} {s : Shared}
end
end PySem.W
namespace G
open PySem PySem.Spec L2 PyProof.Rows
set_option autoImplicit false
section
variable {Γ : Gm} {X : Cx} {Z : WX} {pos : Pos}
/-! list + list, either of them data -/
end
end G
set_option Elab.async false
set_option linter.all false
set_option maxRecDepth 100000
set_option maxHeartbeats 4000000
/-! G33: e[::-1] of a list -/
namespace G
open PySem PySem.Spec L2 PyProof.Rows
set_option autoImplicit false
theorem pick_rev (xs : List Value) : slicePick xs.toArray none none (some (-1)) = xs.reverse.toArray := by
  have b : sliceBounds none none (some (-1)) xs.length = (((xs.length : Int) - 1), -1, -1) := by
    unfold sliceBounds
    simp
  unfold slicePick
  rw [List.size_toArray, b]
  congr 1
  unfold sliceRange
  have c : (if (-1 : Int) > 0 then (if (xs.length : Int) - 1 < -1 then (-1 - ((xs.length : Int) - 1) + -1 - 1) / -1 else 0) else (if (xs.length : Int) - 1 > -1 then ((xs.length : Int) - 1 - -1 - -1 - 1) / (- -1) else 0)).toNat = xs.length := by
    rw [if_neg (by decide)]
    split
    · have : (-(-1) : Int) = 1 := by decide
      rw [this, Int.ediv_one]
      omega
    · simp; omega
  dsimp only
  rw [c, List.filterMap_map]
  have e : ∀ k ∈ List.range xs.length, ((fun j => xs.toArray[j]?) ∘ fun (k : Nat) => ((xs.length : Int) - 1 + -1 * (k : Int)).toNat) k = some (xs.reverse.getD k .none) := fun k hk => by
    have hk' := List.mem_range.mp hk
    have e1 : ((xs.length : Int) - 1 + -1 * (k : Int)).toNat = xs.length - 1 - k := by omega
    show xs.toArray[((xs.length : Int) - 1 + -1 * (k : Int)).toNat]? = _
    rw [e1, List.getElem?_toArray, List.getD_eq_getElem?_getD, List.getElem?_reverse hk', List.getElem?_eq_getElem (by omega)]
    rfl
  rw [fm_map e]
  apply List.ext_getElem
  · simp
  · intro i h1 h2
    simp [List.getD_eq_getElem?_getD]
    rw [List.getElem?_eq_getElem (by simpa using h2)]
    simp
section
variable {Γ : Gm} {X : Cx} {Z : WX} {pos : Pos}
def tRevL (K : PySem.W.Frag) (te : TE) : TE := fun σ H Q => te σ H fun x H1 => ∃ (a : Addr) (xs : List V), x = .ref a ∧ SqL K H1 a xs ∧ ∀ q, H1 q = none → Q (.ref q) (upd H1 q (.lst xs.reverse))
theorem pe_revL {e : Expr} {te : TE} {j2 : Nat} {p2 p3 p4 : Pos} (he : PE X e te) : PE X (.Subscript e (.Slice none none (some (.UnaryOp .USub (.Constant (.int 1) j2 p2) p3)) p4) pos) (tRevL X.K te) := by
  constructor
  intro pins s σ H Q I q
  refine Subscript_ (thn (he.run pins s σ H _ I q) ?_)
  rintro v s1 ⟨x, H1, I1, rx, a, xs, rfl, hx, q1⟩
  refine wpAny_Slice ?_
  rw [evalPart_none]
  refine wpAny_pure (wpAny_pure ?_)
  rw [evalPart_some]
  refine thn ((pe_un (pos := p3) un_neg (pe_int (X := X) (i := 1) (j := j2) (pos := p2))).run pins s1 σ _ (fun y H2 => y = .int (-1) ∧ H2 = _) I1 ⟨1, rfl, rfl, rfl⟩) ?_
  rintro z s3 ⟨_, _, I3, rz, rfl, rfl⟩
  obtain ⟨tb, rfl⟩ := rz
  obtain rfl : v = Value.ref a := rx
  have I4 : Inv X pins σ _ { s3 with heap := s3.heap.push { cls := .type "slice", data := .fields #[.none, .none, .int (-1) tb] } } := I3.kept (t' := s3.toks) fun b ob q => Heap.get?_push_of_some _ q
  obtain ⟨its', rv', hT', hz'⟩ := I4.list hx
  have key := wpAny_getItem_list_slice (prog := X.prog) (w := X.w) (A := X.A) (E := X.xe) (Q := EP X pins σ Q) hT'.isList (Heap.IsSliceOf.new s3.heap .none .none (.int (-1) tb)) .none .none (.int (-1) tb) (by simp) (by
    rw [pick_rev]
    refine ⟨.ref _, _, I4.laid (t' := s3.toks) (o := .lst xs.reverse) (fun b ob q => Heap.get?_push_of_some _ q) (Nat.le_refl _) ?_, rfl, q1 _ (I4.hok.fresh (Nat.le_refl _))⟩
    exact ⟨by simp only [List.length_reverse]; exact hz', _, 0, Vals.reverse rv', Heap.get?_push_size _ rfl⟩) (by have := rv'.length; rw [List.size_toArray]; omega)
  exact PyProof.Rows.tail_any (ops := [.ref a, .ref s3.heap.objs.size]) hT'.isList.typeIs slot_list_getitem.lookup key (by with_unfolding_all rfl)
def fRevL (f : Fe W) : Fe W := fun ρ S => (f ρ S).bind fun x S1 => match lstOf x S1 with
  | some ws => .ok (.o S1.length) (S1 ++ [.lst ws.reverse])
  | none => .bad
theorem ve_revL {e : Expr} {f : Fe W} {j2 : Nat} {p2 p3 p4 : Pos} (he : VE Γ X Z e f) : VE Γ X Z (.Subscript e (.Slice none none (some (.UnaryOp .USub (.Constant (.int 1) j2 p2) p3)) p4) pos) (fRevL f) := by
  refine ⟨PE.mono (pe_revL he.pe) fun σ H Q q => liftR.imp (seq1 (R := RW X.K) q) ?_⟩
  rintro v H1 ⟨x, w, rfl, G, rx, p⟩
  split at p
  · rename_i ws e
    obtain ⟨a, vs, rfl, h1, r1⟩ := lstOf_ok G rx e
    exact ⟨a, vs, rfl, h1, Post.lst p G (Paired.revv r1)⟩
  · exact p.elim
end
end G
set_option Elab.async false
set_option linter.all false
set_option maxRecDepth 100000
set_option maxHeartbeats 4000000
/-! G34: is, is not, between truths; tuple(range(n)) needs no rule of its own where the list is laid first -/
namespace G
open PySem PySem.Spec L2 PyProof.Rows
set_option autoImplicit false
section
variable {Γ : Gm} {X : Cx} {Z : WX} {pos : Pos}
variable {a b : Expr} {f g : Fe W}
end
end G
set_option Elab.async false
set_option linter.all false
set_option maxRecDepth 100000
set_option maxHeartbeats 4000000
/-! G35: sorted(d.items()), sorted(d), d.setdefault(k, x) of dicts by tuples of numbers -/
namespace PySem.W
open PySem PySem.Calls PyProof.Rows
section
variable {prog : Program} {w : World} {A : Around} {E : Value → Shared → Prop} {s : Shared}
end
end PySem.W
namespace G
open PySem PySem.Spec L2 PyProof.Rows
set_option autoImplicit false
/-! ### tuples laid anew -/
section
variable {X : Cx} {pins : List (Addr × Obj)} {σ : L2.St} {H0 : Hp} {s : Shared} {h' : Heap} {tk : Nat}
end
/-! ### d.items() -/
section
variable {X : Cx} {o e f : Expr} {td ty tx : TE} {apos cpos pos : Pos}
/-! d.setdefault(k, x) -/
end
/-! ### sorted(d.items()) -/
/-- a pair that the view makes: its tuple, the entry, its value -/
structure Qd where
  a : Addr
  x : List Int × Addr × Value
  v : V
  d : PyData
def Qd.row (q : Qd) : PyData := .tuple [tupI q.x.1, q.d]
def Qd.t (q : Qd) : Addr × List V := (q.a, [.ref q.x.2.1, q.v])
section
variable {X : Cx}
/-! ### sorted(d) -/
end
end G
set_option Elab.async false
set_option linter.all false
set_option maxRecDepth 100000
set_option maxHeartbeats 4000000
/-! G36: sorted(d.items()), sorted(d), d.setdefault(k, x) by values -/
namespace G
open PySem PySem.Spec L2 PyProof.Rows
set_option autoImplicit false
section
variable {Γ : Gm} {X : Cx} {Z : WX} {pos : Pos}
/-! sorted(d) -/
/-! d.setdefault(k, x) -/
end
end G
set_option Elab.async false
set_option linter.all false
set_option maxRecDepth 100000
set_option maxHeartbeats 4000000
/-! G37: l.index(x), sorted(set(pairs)), len(set(pairs)), min(tuple), dict(pairs) keyed by numbers, for v in d.values() -/
namespace G
open PySem PySem.Spec L2 PyProof.Rows
set_option autoImplicit false
section
variable {Γ : Gm} {X : Cx} {Z : WX} {pos : Pos}
/-! ### l.index(x) -/
/-! ### min of a tuple of numbers -/
/-! ### dict(list of pairs), keys numbers -/
/-! ### sorted(set(xs)), len(set(xs)), xs a list of pairs of small numbers -/
def PtOk (K : PySem.W.Frag) (w : Wd) (p : Addr × List Int) (c : Int) : Prop := SqT K w.im p.1 (p.2.map V.int) ∧ ∃ a b, p.2 = [a, b] ∧ (0 ≤ a ∧ a < 64) ∧ (0 ≤ b ∧ b < 64) ∧ c = a * 64 + b
theorem PtOk.code {K : PySem.W.Frag} {w : Wd} {p : Addr × List Int} {c : Int} (h : PtOk K w p c) : TS.code 64 p.2 = c ∧ p.2.length = 2 ∧ TS.Bd 64 p.2 ∧ p.2 = [c / 64, c % 64] := by
  obtain ⟨_, a, b, e, ha, hb, rfl⟩ := h
  rw [e]
  refine ⟨code_pair a b, rfl, fun m hm => ?_, ?_⟩
  · simp at hm
    rcases hm with rfl | rfl
    · exact ha
    · exact hb
  · have h1 : (a * 64 + b) / 64 = a := by omega
    have h2 : (a * 64 + b) % 64 = b := by omega
    rw [h1, h2]
end
end G
set_option Elab.async false
set_option linter.all false
set_option maxRecDepth 100000
set_option maxHeartbeats 4000000
/-! G38: len(d), for v in d.values(), d a dict by tuples of numbers -/
namespace G
open PySem PySem.Spec L2 PyProof.Rows
set_option autoImplicit false
section
variable {Γ : Gm} {X : Cx} {Z : WX} {pos : Pos}
/-! ### len(d) -/
/-! ### for v in d.values() -/
end
end G
set_option Elab.async false
set_option linter.all false
set_option maxRecDepth 100000
set_option maxHeartbeats 4000000
/-! G39: a call of an own def without arguments -/
namespace G
open PySem PySem.Spec L2 PyProof.Rows
set_option autoImplicit false
section
variable {Γ : Gm} {X : Cx} {Z : WX} {pos : Pos}
end
end G
set_option Elab.async false
set_option linter.all false
set_option maxRecDepth 100000
set_option maxHeartbeats 4000000
/-! G40: tables of code objects in the worlds; lambdas handed to an own def -/
namespace G
open PySem PySem.Spec L2 PyProof.Rows
set_option autoImplicit false
/-! ### tables stay -/
end G
set_option Elab.async false
set_option linter.all false
set_option maxRecDepth 100000
set_option maxHeartbeats 4000000
/-! G41: a try whose one clause keeps what it caught: try: body / except C as n: m = n; the object is tracked from then on -/
namespace G
open PySem PySem.Spec L2 PyProof.Rows
set_option autoImplicit false
section
variable {X : Cx} {pins : List (Addr × Obj)} {σ : L2.St} {H : Hp} {s sI s' : Shared} {B : Heap} {a : Addr} {cls : Value} {d : Option Addr}
/-- the ground beneath an exception in the air: sI is the state without it -/
structure Gnd (X : Cx) (pins : List (Addr × Obj)) (σ : L2.St) (H : Hp) (a : Addr) (B : Heap) (sI s' : Shared) : Prop where
  inv : Inv X pins σ H sI
  nb : ∀ b o, sI.heap.get? b = some o → b ∉ frs X.stack → B.get? b = some o
  up : sI.heap.UpToSlots s'.heap
  na : H a = none
  os : s'.os = sI.os
  ag : AllBare s'.gens
/-- what is known where the exception flies and nothing else is otherwise -/
structure Down (X : Cx) (pins : List (Addr × Obj)) (σ : L2.St) (H : Hp) (a : Addr) (cls : Value) (d : Option Addr) (s : Shared) : Prop where
  inv : Inv X pins σ H s
  ob : ∃ oe vs, s.heap.get? a = some oe ∧ Zc cls d oe ∧ oe.data = .fields vs
  nF : a ∉ frs X.stack
  na : H a = none
  n0 : X.ex = [] → X.s_0.heap.get? a = none
  nP : ∀ p ∈ X.pn ++ pins, p.1 ≠ a
end
end G
set_option Elab.async false
set_option linter.all false
set_option maxRecDepth 100000
set_option maxHeartbeats 4000000
/-! G42: try: body / except C as n: m = n, all that the body may raise being caught -/
namespace G
open PySem PySem.Spec L2 PyProof.Rows
set_option autoImplicit false
section
variable {X : Cx} {te : Expr} {n m : Str} {i j : Nat} {body : List Stmt} {np mp ap pos pos' : Pos} {tb : WX → TS}
end
end G
set_option Elab.async false
set_option linter.all false
set_option maxRecDepth 100000
set_option maxHeartbeats 4000000
/-! G43: tests of except clauses: one class, two classes -/
namespace G
open PySem PySem.Spec L2 PyProof.Rows
set_option autoImplicit false
section
variable {X : Cx} {x x1 x2 : Str} {C : Addr} {c c1 c2 : Value} {p p1 p2 tpos : Pos} {kk : Nat}
end
end G
set_option Elab.async false
set_option linter.all false
set_option maxRecDepth 100000
set_option maxHeartbeats 4000000
/-! G44: a deed (a lambda without parameters) handed to an own def that does it within a try -/
namespace G
open PySem PySem.Spec L2 PyProof.Rows
set_option autoImplicit false
/-! ### outcomes that do not depend on where the deed lies -/
/-! ### worlds from some world on -/
def dG (Γ : Gm) (w0 : Wd) : Gm := ⟨Γ.ca, Γ.ok, Γ.upd, fun w => Γ.sub w ∧ w0.le w, fun w w1 h l => ⟨Γ.mono w w1 h.1 l, h.2.trans l⟩⟩
section
variable {Γ : Gm} {K : PySem.W.Frag} {w w0 w1 : Wd}
theorem Good.dG (G : Good Γ K w) (l : w0.le w) : Good (dG Γ w0) K w := ⟨G.len, G.inj, G.tr, G.cell, G.side, G.hold, l⟩
theorem Good.unD (G : Good (G.dG Γ w0) K w) : Good Γ K w := ⟨G.len, G.inj, G.tr, G.cell, G.side, G.hold.1⟩
theorem Good.since (G : Good (G.dG Γ w0) K w) : w0.le w := G.hold.2
end
/-- what is known of the deed that lies at f -/
structure Deed (Γ : Gm) (Z0 : Cx) (a : Str) (f c' : Addr) (q : Str) (w0 : Wd) (g : Sto → Out W) : Prop where
  ex : ∃ tl : XK → Hp → VK → Prop,
    (∀ (W : WX) (pn : List (Addr × Obj)) (xe : Value → Shared → Prop) (E : XK) (p1 p2 : Pos), Takes (Z0.tr pn xe) W → (∀ cls d σ' H', E cls d H' → W cls d σ' H') →
      PE (Z0.tr pn xe) (.Call (.Name a p1) [] [] p2) (fun σZ HZ Q => σZ[0]? = some (some (.ref f)) ∧ HZ c' = some (LamX.CodeO c' q) ∧ tl E HZ Q)) ∧
    (∀ (w1 : Wd) (E : XK) (Q1 : VK), w0.le w1 → Good Γ Z0.K w1 → Post Γ Z0.K (RW Z0.K) w1 [] (fun c d _ H => E c d H) (g w1.S) Q1 → tl E w1.H Q1)
  code : w0.im c' = some (LamX.CodeO c' q)
section
variable {Γ : Gm} {Z0 : Cx} {Zw : WX} {a n m t q : Str} {f c' : Addr} {w0 : Wd} {g : Sto → Out W} {te : Expr} {cs : List Nat} {v i j : Nat} {tp p1 p2 ap0 np mp ap pos pos' : Pos}
end
end G
set_option Elab.async false
set_option linter.all false
set_option maxRecDepth 100000
set_option maxHeartbeats 4000000
/-! G45: tuple(range(n)); a try whose clause keeps what it caught, the body being any suite; isinstance of what was caught -/
namespace G
open PySem PySem.Spec L2 PyProof.Rows
set_option autoImplicit false
section
variable {Γ : Gm} {X : Cx} {Z : WX} {pos : Pos}
/-! ### tuple(range(n)) -/
/-! ### try: body / except C as n: m = n -/
/-! ### isinstance(caught, C) -/
/-- what isinstance answers of the own classes, by numbers -/
structure ExI (Γ : Gm) (K : PySem.W.Frag) (c : Nat) (cv : Value) (b : Bool) : Prop where
  cls : ExcC K (Γ.ca c)
  kit : PySem.W.kitOne K (.ref (Γ.ca c)) cv = some b
end
end G
set_option Elab.async false
set_option linter.all false
set_option maxRecDepth 100000
set_option maxHeartbeats 4000000
/-! G46: t1, t2 = a, b where the names are cells: a tuple that the run makes and takes apart again, whatever its parts are -/
namespace G
open PySem PySem.Spec L2 PyProof.Rows
set_option autoImplicit false
section
variable {Γ : Gm} {X : Cx} {Z : WX} {pos : Pos}
end
end G
set_option Elab.async false
set_option linter.all false
set_option maxRecDepth 100000
set_option maxHeartbeats 4000000
/-! G47: sorted(rows, key=lambda row: (len(row), row)) -/
namespace G
open PySem PySem.Spec L2 PyProof.Rows
set_option autoImplicit false
/-! ### worlds where tables grow -/
/-! ### the key of a row -/
/-! ### the lambda's call -/
section
variable {prog : Program} {w : World}
end
end G
set_option Elab.async false
set_option linter.all false
set_option maxRecDepth 100000
set_option maxHeartbeats 4000000
/-! G48: sorted(rows, key=lambda row: (len(row), row)), by value -/
namespace G
open PySem PySem.Spec L2 PyProof.Rows
set_option autoImplicit false
section
variable {ca : Nat → Addr} {T : List (Addr × Str)} {X : Cx} {Z : WX} {pos : Pos}
end
end G
set_option Elab.async false
set_option linter.all false
set_option maxRecDepth 100000
set_option maxHeartbeats 4000000
/-! G49: defs that make lambdas: their code objects and tables; the end of a law with such -/
namespace G
open PySem PySem.Spec L2 PyProof.Rows
set_option autoImplicit false
/-- what a def that makes a lambda asks of its own code object -/
structure LamF (K : PySem.W.Frag) (mg : Str → Option Value) (base : Heap) (T : List (Addr × Str)) (cdv : Value) (q : Str) : Prop where
  ex : ∃ c P : Addr, cdv = .ref c ∧ LamX.TabB base mg c P ∧ (P, q) ∈ T ∧ ∀ p ∈ T, p.1 = P → p.2 = q
section
variable {Γ : Gm} {P : Program} {wd : World} {K : PySem.W.Frag} {mg : Str → Option Value} {base : Heap}
end
/-! ### the law's own call, with tables -/
end G
set_option Elab.async false
set_option linter.all false
set_option maxRecDepth 100000
set_option maxHeartbeats 4000000
/-! G50: a def's code object and table, by what the fragment says -/
namespace G
open PySem PySem.Spec L2 PyProof.Rows
set_option autoImplicit false
end G
set_option Elab.async false
set_option linter.all false
set_option maxRecDepth 100000
set_option maxHeartbeats 4000000
/-! G51: x = [.. for .. for ..] -/
namespace G
open PySem PySem.Spec L2 PyProof.Rows
set_option autoImplicit false
section
variable {Γ : Gm} {X : Cx} {Z : WX} {pos : Pos}
end
end G
set_option Elab.async false
set_option linter.all false
set_option maxRecDepth 100000
set_option maxHeartbeats 4000000
/-! G52: defs that call themselves; d.update(e) of dicts by tuples of numbers; an own error over ValueError raised; except (A, B) as n; isinstance(caught, an own class) -/
namespace G
open PySem PySem.Spec L2 PyProof.Rows
set_option autoImplicit false
/-! ### nothing is promised -/
/-! ### d.update(e) -/
section
variable {Γ : Gm} {X : Cx} {Z : WX} {pos : Pos}
/-! ### raise X('m'), X over ValueError -/
def veBase : List Value := [.type "ValueError", .type "Exception", .type "BaseException", .type "object"]
structure ExV (Γ : Gm) (K : PySem.W.Frag) (mg : Str → Option Value) (x : Str) (c : Nat) : Prop where
  g : mg x = some (.ref (Γ.ca c))
  k : PySem.W.keepIn K (.ref (Γ.ca c)) = true
  q : PySem.W.excIn K (Γ.ca c) veBase "ValueError.__new__" = true
  b : PySem.W.subIn K (.ref (Γ.ca c)) (.type "BaseException") = some true
  t : PySem.W.typeIn K (.ref (Γ.ca c)) = some (.type "type")
/-! ### except (A, B) -/
structure ExM (Γ : Gm) (K : PySem.W.Frag) (mg : Str → Option Value) (x1 x2 : Str) (cs : List Nat) : Prop where
  ex : ∃ c1 c2, mg x1 = some c1 ∧ mg x2 = some c2 ∧ ∀ c ∈ cs, PySem.W.exmAny K (.ref (Γ.ca c)) [c1, c2] = some true
/-! ### isinstance(caught, an own class) -/
structure ExO (Γ : Gm) (K : PySem.W.Frag) (mg : Str → Option Value) (t : Str) (kd : List (Nat × Bool)) : Prop where
  ex : ∃ D : Addr, mg t = some (.ref D) ∧ ∀ c b, kd.lookup c = some b → ExI Γ K c (.ref D) b
end
end G
set_option Elab.async false
set_option linter.all false
set_option maxRecDepth 100000
set_option maxHeartbeats 4000000
/-! G53: x(lambda: e), where x is an own def that does the deed it is handed -/
namespace G
open PySem PySem.Spec L2 PyProof.Rows
set_option autoImplicit false
/-- a def that does a deed -/
structure CalD (Γ : Gm) (P : Program) (wd : World) (K : PySem.W.Frag) (mg : Str → Option Value) (base : Heap) (k : Nat) (x a : Str) (R : Addr → (Sto → Out W) → Fn) : Prop where
  ex : ∃ (ga : Addr) (fd : FuncData) (params : Arguments) (body : List Stmt) (scope : Scope) (N : List Str) (b : Addr → (Sto → Out W) → Fs),
    mg x = some (.ref ga) ∧ FunD K x x params body scope [] [] ga fd ∧ FnScope N [a] scope ∧ N[0]? = some a ∧ Vis scope a ∧
    (∀ (kV doc pm : Value) (an : Option Addr) (cdv ct : Value) (us : List Value), us.length = 1 → bindArgs (PySem.W.fnOf x x params body scope .none kV doc pm an cdv ct) ⟨us, []⟩ = pure ([a].zip us)) ∧
    (∀ f g, R f g = runB N.length (b f g)) ∧
    ∀ (A : Around) (outer : List Env) (s : Shared) (H : Hp) (f c' : Addr) (q : Str) (w0 : Wd) (g : Sto → Out W) (cdv : Value), Room k (A.deeper (envOfC x scope s.heap.objs.size ga cdv)) →
      Deed Γ (cxOf C8.CX0 P wd K mg base N x scope ga cdv A outer s H C8.E0) a f c' q w0 g → VB (dG Γ w0) (cxOf C8.CX0 P wd K mg base N x scope ga cdv A outer s H C8.E0).nox (fun _ _ _ _ => False) body (b f g)
section
variable {X : Cx} {Z : WX}
end
/-! ### what holds of worlds holds of those from some world on -/
section
variable {Γ : Gm} {P : Program} {wd : World} {K : PySem.W.Frag} {mg : Str → Option Value} {base : Heap} {w0 : Wd}
end
end G
set_option Elab.async false
set_option linter.all false
set_option maxRecDepth 100000
set_option maxHeartbeats 4000000
/-! G54: facts in worlds from some world on; some.count(True), isinstance(caught, (A, B, C, D)) -/
namespace G
open PySem PySem.Spec L2 PyProof.Rows
set_option autoImplicit false
section
variable {Γ : Gm} {P : Program} {wd : World} {K : PySem.W.Frag} {mg : Str → Option Value} {base : Heap} {w0 : Wd} {x y : Str} {c n k : Nat} {cv : Value} {b : Bool} {cs : List Nat} {kd : List (Nat × Bool)} {dws : List PyData} {F : Fn}
theorem ExF.dg (h : ExF Γ K mg x c) : ExF (dG Γ w0) K mg x c := ⟨h.g, h.k, h.q, h.b, h.t, h.m⟩
theorem ExV.dg (h : ExV Γ K mg x c) : ExV (dG Γ w0) K mg x c := ⟨h.g, h.k, h.q, h.b, h.t⟩
theorem ExI.dg (h : ExI Γ K c cv b) : ExI (dG Γ w0) K c cv b := ⟨h.cls, h.kit⟩
theorem ExM.dg (h : ExM Γ K mg x y cs) : ExM (dG Γ w0) K mg x y cs := by
  obtain ⟨c1, c2, a, b, e⟩ := h.ex
  exact ⟨⟨c1, c2, a, b, e⟩⟩
theorem ExO.dg (h : ExO Γ K mg x kd) : ExO (dG Γ w0) K mg x kd := by
  obtain ⟨D, a, e⟩ := h.ex
  exact ⟨⟨D, a, fun c b q => (e c b q).dg⟩⟩
theorem spOf_dG {vs : List V} {H : Hp} {Q : VK} {E : XK} (h : spOf (dG Γ w0) K n F vs H Q E) : spOf Γ K n F vs H Q E := by
  obtain ⟨hl, w, ws, e, G, r, p⟩ := h
  refine ⟨hl, w, ws, e, G.unD, r, ?_⟩
  cases q : F ws w.S with
  | ok z S' => rw [q] at p; exact fun w1 v e1 l G1 r1 => p w1 v e1 l (G1.dG (G.since.trans l)) r1
  | ex z S' => rw [q] at p; exact fun w1 cl d e1 l G1 r1 => p w1 cl d e1 l (G1.dG (G.since.trans l)) r1
  | bad => rw [q] at p; exact p
theorem Cal.dg (h : Cal Γ P wd K mg base k x n dws F) : Cal (dG Γ w0) P wd K mg base k x n dws F := by
  obtain ⟨f, fd, ps, ds, dvs, h1, h2, h3, h4, h5, h6, h7⟩ := h.ex
  exact ⟨f, fd, ps, ds, dvs, h1, h2, h3, h4, h5, h6, h7.imp fun _ _ _ _ q => spOf_dG q⟩
end
section
variable {Γ : Gm} {X : Cx} {Z : WX} {pos : Pos}
/-! ### some.count(True) -/
/-! ### isinstance(caught, (A, B, C, D)) -/
/-- what isinstance answers of the own classes, by numbers, four classes being asked of -/
structure ExT (Γ : Gm) (K : PySem.W.Frag) (mg : Str → Option Value) (t1 t2 t3 t4 : Str) (kd : List (Nat × Bool)) : Prop where
  ex : ∃ D1 D2 D3 D4 : Addr, mg t1 = some (.ref D1) ∧ mg t2 = some (.ref D2) ∧ mg t3 = some (.ref D3) ∧ mg t4 = some (.ref D4) ∧ ∀ c b, kd.lookup c = some b → ExcC K (Γ.ca c) ∧ PySem.W.kitAny K (.ref (Γ.ca c)) [.ref D1, .ref D2, .ref D3, .ref D4] = some b
theorem ExT.dg {K : PySem.W.Frag} {mg : Str → Option Value} {t1 t2 t3 t4 : Str} {kd : List (Nat × Bool)} {w0 : Wd} (h : ExT Γ K mg t1 t2 t3 t4 kd) : ExT (dG Γ w0) K mg t1 t2 t3 t4 kd := by
  obtain ⟨D1, D2, D3, D4, m1, m2, m3, m4, e⟩ := h.ex
  exact ⟨⟨D1, D2, D3, D4, m1, m2, m3, m4, e⟩⟩
end
end G
set_option Elab.async false
set_option linter.all false
set_option maxRecDepth 100000
set_option maxHeartbeats 4000000
/-! G55: sum(lists, []) -/
namespace PySem
open Sem (wp)
open PySem.Spec L2 PyProof.Rows
section
variable {prog : Program} {w : World} {A : Around} {R : Result → Shared → Prop} {I : Addr} {fp wr : List Addr} {St : Nat → Heap → Prop} {h0 : Heap}
end
end PySem
namespace G
open PySem PySem.Spec L2 PyProof.Rows
set_option autoImplicit false
section
variable {Γ : Gm} {X : Cx} {Z : WX} {pos : Pos}
/-! ### sum(lists, []) -/
end
end G
set_option Elab.async false
set_option linter.all false
set_option maxRecDepth 100000
set_option maxHeartbeats 4000000
/-! G56: a part of a dict by tuples of numbers as a target among others -/
namespace G
open PySem PySem.Spec L2 PyProof.Rows
set_option autoImplicit false
section
variable {Γ : Gm} {X : Cx} {Z : WX} {pos : Pos}
end
end G
set_option Elab.async false
set_option linter.all false
set_option maxRecDepth 100000
set_option maxHeartbeats 4000000
/-! G57: dicts by numbers read and walked while they are written no more -/
namespace G
open PySem PySem.Spec L2 PyProof.Rows
set_option autoImplicit false
section
variable {Γ : Gm} {X : Cx} {Z : WX} {pos : Pos}
theorem DGet.r {H : Hp} {a : Addr} {kvs : List (Key × V)} {k : Key} (e : L2.Rd H a (.dK kvs)) : DGet H a (kV k) (valV kvs k) := .inl ⟨kvs, k, e, rfl, rfl⟩
/-! d[k] -/
/-! for k in d -/
end
end G
set_option Elab.async false
set_option linter.all false
set_option maxRecDepth 100000
set_option maxHeartbeats 4000000
/-! G58: t[::-1] of a tuple -/
namespace G
open PySem PySem.Spec L2 PyProof.Rows
set_option autoImplicit false
section
variable {prog : Program} {w : World} {A : Around} {E : Value → Shared → Prop} {s : Shared}
end
section
variable {Γ : Gm} {X : Cx} {Z : WX} {pos : Pos}
end
end G
set_option Elab.async false
set_option linter.all false
set_option maxRecDepth 100000
set_option maxHeartbeats 4000000
/-! G59: list(zip(a, b)) of two tuples of one length -/
namespace RZ
open PySem PySem.Spec PyProof.Rows
open Sem (wp)
section
variable {prog : Program} {w : World} {A : Around} {E : Value → Shared → Prop} {s : Shared}
end
/-- the cells stand below N and apart from S -/
structure ZAp (z TI TO i1 i2 a b S : Addr) (N : Nat) : Prop where
  D : ZipApart z TI TO i1 i2 a b
  zN : z < N
  TIN : TI < N
  TON : TO < N
  i1N : i1 < N
  i2N : i2 < N
  aN : a < N
  bN : b < N
  SN : S < N
  Sz : S ≠ z
  STI : S ≠ TI
  STO : S ≠ TO
  Si1 : S ≠ i1
  Si2 : S ≠ i2
  Sa : S ≠ a
  Sb : S ≠ b
def ZAcc (h : Heap) (N : Nat) (Ts : List Addr) (ps : List (Value × Value)) : Prop := Ts.Nodup ∧ (∀ T ∈ Ts, N ≤ T) ∧ Paired (fun T (p : Value × Value) => IsPair h T p.1 p.2) Ts ps
theorem ZAcc.keep {h h' : Heap} {N : Nat} {Ts : List Addr} {ps : List (Value × Value)} (z : ZAcc h N Ts ps) (k : ∀ c o, N ≤ c → h.get? c = some o → h'.get? c = some o) : ZAcc h' N Ts ps := by
  refine ⟨z.1, z.2.1, ?_⟩
  have key : ∀ {Ts : List Addr} {ps : List (Value × Value)}, (∀ T ∈ Ts, N ≤ T) → Paired (fun T (p : Value × Value) => IsPair h T p.1 p.2) Ts ps → Paired (fun T (p : Value × Value) => IsPair h' T p.1 p.2) Ts ps := by
    intro Ts ps hN r
    induction r with
    | nil => exact .nil
    | cons q t ih => exact .cons (k _ _ (hN _ (by simp)) q) (ih fun T hT => hN T (by simp [hT]))
  exact key z.2.1 z.2.2
theorem paired_snoc {α β : Type} {F : α → β → Prop} {l : List α} {m : List β} (h : Paired F l m) {x : α} {y : β} (q : F x y) : Paired F (l ++ [x]) (m ++ [y]) := by
  induction h with
  | nil => exact .cons q .nil
  | cons a t ih => exact .cons a ih
theorem ZAcc.push {h : Heap} {N : Nat} {Ts : List Addr} {ps : List (Value × Value)} (z : ZAcc h N Ts ps) {T : Addr} {p : Value × Value} (hN : N ≤ T) (hT : IsPair h T p.1 p.2) (hn : T ∉ Ts) : ZAcc h N (Ts ++ [T]) (ps ++ [p]) := by
  refine ⟨?_, ?_, paired_snoc z.2.2 hT⟩
  · rw [List.nodup_append]
    exact ⟨z.1, by simp, fun a ha b hb => by rw [List.mem_singleton.mp hb]; exact fun q => hn (q ▸ ha)⟩
  · intro U hU
    rcases List.mem_append.mp hU with q | q
    · exact z.2.1 U q
    · rw [List.mem_singleton.mp q]; exact hN
theorem ZAcc.lt {h : Heap} {N : Nat} {Ts : List Addr} {ps : List (Value × Value)} (z : ZAcc h N Ts ps) : ∀ T ∈ Ts, T < h.objs.size := by
  have key : ∀ {Ts : List Addr} {ps : List (Value × Value)}, Paired (fun T (p : Value × Value) => IsPair h T p.1 p.2) Ts ps → ∀ T ∈ Ts, T < h.objs.size := by
    intro Ts ps r
    induction r with
    | nil => intro T hT; cases hT
    | cons q t ih =>
      intro T hT
      rcases List.mem_cons.mp hT with e | e
      · rw [e]; exact Heap.lt_size q
      · exact ih T e
  exact key z.2.2
section
variable {prog : Program} {w : World} {A : Around} {R : Result → Shared → Prop} {z TI TO i1 i2 a b S : Addr} {xs ys : List Value} {N : Nat}
end
end RZ
namespace G
open PySem PySem.Spec L2 PyProof.Rows
set_option autoImplicit false
section
variable {Γ : Gm} {X : Cx} {Z : WX} {pos : Pos}
end
end G
set_option Elab.async false
set_option linter.all false
set_option maxRecDepth 100000
set_option maxHeartbeats 4000000
namespace G
open PySem PySem.Spec L2 PyProof.Rows
set_option autoImplicit false
noncomputable def B_is_whole : Fs := (fRet (fAndE (fIsi .it (fVar 0)) (fNotE (fIsi .bl (fVar 0)))))
noncomputable def R_is_whole : Fn := runB 1 B_is_whole
noncomputable def B_common : Fs := (fSeq (fPar 0 1 (fCons (fCB gAbs (fCons (fVar 0) fNil)) (fCons (fCB gAbs (fCons (fVar 1) fNil)) fNil)))
  (fSeq (fWh (fTru (fOp2 (dEq true) (fVar 1) (fC (.d (.int 0))))) (fPar 0 1 (fCons (fVar 1) (fCons (fOp2 gMod (fVar 0) (fVar 1)) fNil))))
  (fRet (fVar 0))))
noncomputable def R_common : Fn := runB 2 B_common
noncomputable def B_is_nought : Fs := (fRet (fOp2 (dEq false) (fOp2 gIx (fVar 0) (fC (.d (.int 0)))) (fC (.d (.int 0)))))
noncomputable def R_is_nought : Fn := runB 1 B_is_nought
noncomputable def B__law_mixed : Fs := (fSeq (fSet 2 (fOp2 gAdd (fOp2 gAdd (fOp2 gMod (fVar 0) (fOp2 gIx (fLst (fCons (fC (.d (.int 1000000007))) (fCons (fC (.d (.int 998244353))) (fCons (fC (.d (.int 2147483629))) (fCons (fC (.d (.int 1000000009))) fNil))))) (fOp2 gMod (fVar 1) (fC (.d (.int 4)))))) (fOp2 gMulT (fC (.d (.int 7919))) (fVar 1))) (fC (.d (.int 13)))))
  (fRet (fOp2 gMod (fOp2 gMulT (fOp2 gMod (fOp2 gMulT (fVar 2) (fVar 2)) (fC (.d (.int 2147483647)))) (fC (.d (.int 48271)))) (fC (.d (.int 2147483647))))))
noncomputable def R__law_mixed : Fn := runB 3 B__law_mixed
noncomputable def B__law_draw : Fs := (fRet (fDisp [((fC (.d (.str "left"))), (fIfE (fTru (fOp2 cGe (fVar 0) (fOp2 gPow (fC (.d (.int 10))) (fC (.d (.int 18)))))) (fVar 0) (fC (.d (.int 0))))), ((fC (.d (.str "cell"))), (fVar 0)), ((fC (.d (.str "turns"))), (fOp2 gMulT (fC (.d (.int 1000))) (fVar 1)))]))
noncomputable def R__law_draw : Fn := runB 2 B__law_draw
noncomputable def B__law_lowest : Fs := (fSeq (fPar 2 3 (fCons (fCB gAbs (fCons (fVar 0) fNil)) (fCons (fVar 1) fNil)))
  (fSeq (fWh (fTru (fOp2 (dEq true) (fVar 3) (fC (.d (.int 0))))) (fPar 2 3 (fCons (fVar 3) (fCons (fOp2 gMod (fVar 2) (fVar 3)) fNil))))
  (fRet (fTup (fCons (fOp2 gDiv (fVar 0) (fVar 2)) (fCons (fOp2 gDiv (fVar 1) (fVar 2)) fNil))))))
noncomputable def R__law_lowest : Fn := runB 4 B__law_lowest
noncomputable def B__law_cut : Fs := (fSeq (fSet 1 (fCB gList (fCons (fVar 0) fNil)))
  (fSeq (fWh (fAnd (fTru (fOp2 (dEq true) (fVar 1) (fLst fNil))) (fTru (fOp2 (dEq false) (fOp2 gIx (fOp2 gIx (fVar 1) (fNeg (fC (.d (.int 1))))) (fC (.d (.int 0)))) (fC (.d (.int 0)))))) (fExp (fPop0 (fVar 1))))
  (fRet (fCB gTuple (fCons (fVar 1) fNil)))))
noncomputable def R__law_cut : Fn := runB 2 B__law_cut
noncomputable def B_is_fraction : Fs := (fSeq (fIf (fOr (fNot (fTru (fIsi .tp (fVar 0)))) (fOr (fTru (fOp2 (dEq true) (fCB gLen (fCons (fVar 0) fNil)) (fC (.d (.int 2))))) (fOr (fNot (fTru (fCall 1 [] R_is_whole (fCons (fOp2 gIx (fVar 0) (fC (.d (.int 0)))) fNil)))) (fNot (fTru (fCall 1 [] R_is_whole (fCons (fOp2 gIx (fVar 0) (fC (.d (.int 1)))) fNil))))))) (fRet (fC (.d (.bool false)))) fSkip)
  (fRet (fAndE (fOp2 cGt (fOp2 gIx (fVar 0) (fC (.d (.int 1)))) (fC (.d (.int 0)))) (fOp2 (dEq false) (fCall 2 [] R_common (fCons (fOp2 gIx (fVar 0) (fC (.d (.int 0)))) (fCons (fOp2 gIx (fVar 0) (fC (.d (.int 1)))) fNil))) (fC (.d (.int 1)))))))
noncomputable def R_is_fraction : Fn := runB 1 B_is_fraction
noncomputable def B_lowest : Fs := (fSeq (fSet 2 (fIfE (fTru (fOp2 cGt (fVar 1) (fC (.d (.int 0))))) (fCall 2 [] R_common (fCons (fVar 0) (fCons (fVar 1) fNil))) (fOp2 gSub (fC (.d (.int 0))) (fCall 2 [] R_common (fCons (fVar 0) (fCons (fVar 1) fNil))))))
  (fRet (fTup (fCons (fOp2 gDiv (fVar 0) (fVar 2)) (fCons (fOp2 gDiv (fVar 1) (fVar 2)) fNil)))))
noncomputable def R_lowest : Fn := runB 3 B_lowest
noncomputable def B__law_digit : Fs := (fSeq (fIf (fTru (fOp2 (dEq false) (fOp2 gDget (fVar 0) (fC (.d (.str "left")))) (fC (.d (.int 0))))) (fFor (fR1 (fCons (fC (.d (.int 4))) fNil)) (gNm 2) (fSeq (fPutD (fVar 0) (fC (.d (.str "turns"))) (fOp2 gAdd (fOp2 gDget (fVar 0) (fC (.d (.str "turns")))) (fC (.d (.int 1)))))
  (fPutD (fVar 0) (fC (.d (.str "left"))) (fOp2 gAdd (fOp2 gMulT (fOp2 gDget (fVar 0) (fC (.d (.str "left")))) (fC (.d (.int 2147483647)))) (fCall 2 [] R__law_mixed (fCons (fOp2 gDget (fVar 0) (fC (.d (.str "cell")))) (fCons (fOp2 gDget (fVar 0) (fC (.d (.str "turns")))) fNil))))))) fSkip)
  (fSeq (fSet 3 (fOp2 gMod (fOp2 gDget (fVar 0) (fC (.d (.str "left")))) (fVar 1)))
  (fSeq (fPutD (fVar 0) (fC (.d (.str "left"))) (fOp2 gDiv (fOp2 gDget (fVar 0) (fC (.d (.str "left")))) (fVar 1)))
  (fRet (fVar 3)))))
noncomputable def R__law_digit : Fn := runB 4 B__law_digit
noncomputable def B__law_plus : Fs := (fRet (fCall 2 [] R__law_lowest (fCons (fOp2 gAdd (fOp2 gMulT (fOp2 gIx (fVar 0) (fC (.d (.int 0)))) (fOp2 gIx (fVar 1) (fC (.d (.int 1))))) (fOp2 gMulT (fOp2 gIx (fVar 1) (fC (.d (.int 0)))) (fOp2 gIx (fVar 0) (fC (.d (.int 1)))))) (fCons (fOp2 gMulT (fOp2 gIx (fVar 0) (fC (.d (.int 1)))) (fOp2 gIx (fVar 1) (fC (.d (.int 1))))) fNil))))
noncomputable def R__law_plus : Fn := runB 2 B__law_plus
noncomputable def B__law_times : Fs := (fRet (fCall 2 [] R__law_lowest (fCons (fOp2 gMulT (fOp2 gIx (fVar 0) (fC (.d (.int 0)))) (fOp2 gIx (fVar 1) (fC (.d (.int 0))))) (fCons (fOp2 gMulT (fOp2 gIx (fVar 0) (fC (.d (.int 1)))) (fOp2 gIx (fVar 1) (fC (.d (.int 1))))) fNil))))
noncomputable def R__law_times : Fn := runB 2 B__law_times
noncomputable def B__law_over : Fs := (fSeq (fSet 2 (fIfE (fTru (fOp2 cLt (fOp2 gIx (fVar 1) (fC (.d (.int 0)))) (fC (.d (.int 0))))) (fNeg (fC (.d (.int 1)))) (fC (.d (.int 1)))))
  (fRet (fCall 2 [] R__law_lowest (fCons (fOp2 gMulT (fOp2 gMulT (fVar 2) (fOp2 gIx (fVar 0) (fC (.d (.int 0))))) (fOp2 gIx (fVar 1) (fC (.d (.int 1))))) (fCons (fOp2 gMulT (fOp2 gMulT (fVar 2) (fOp2 gIx (fVar 1) (fC (.d (.int 0))))) (fOp2 gIx (fVar 0) (fC (.d (.int 1))))) fNil)))))
noncomputable def R__law_over : Fn := runB 3 B__law_over
noncomputable def B_less : Fs := (fRet (fCall 2 [] R_lowest (fCons (fOp2 gSub (fOp2 gMulT (fOp2 gIx (fVar 0) (fC (.d (.int 0)))) (fOp2 gIx (fVar 1) (fC (.d (.int 1))))) (fOp2 gMulT (fOp2 gIx (fVar 1) (fC (.d (.int 0)))) (fOp2 gIx (fVar 0) (fC (.d (.int 1)))))) (fCons (fOp2 gMulT (fOp2 gIx (fVar 0) (fC (.d (.int 1)))) (fOp2 gIx (fVar 1) (fC (.d (.int 1))))) fNil))))
noncomputable def R_less : Fn := runB 2 B_less
noncomputable def B_times : Fs := (fRet (fCall 2 [] R_lowest (fCons (fOp2 gMulT (fOp2 gIx (fVar 0) (fC (.d (.int 0)))) (fOp2 gIx (fVar 1) (fC (.d (.int 0))))) (fCons (fOp2 gMulT (fOp2 gIx (fVar 0) (fC (.d (.int 1)))) (fOp2 gIx (fVar 1) (fC (.d (.int 1))))) fNil))))
noncomputable def R_times : Fn := runB 2 B_times
noncomputable def B_over : Fs := (fSeq (fIf (fTru (fCall 1 [] R_is_nought (fCons (fVar 1) fNil))) fBad fSkip)
  (fRet (fCall 2 [] R_lowest (fCons (fOp2 gMulT (fOp2 gIx (fVar 0) (fC (.d (.int 0)))) (fOp2 gIx (fVar 1) (fC (.d (.int 1))))) (fCons (fOp2 gMulT (fOp2 gIx (fVar 0) (fC (.d (.int 1)))) (fOp2 gIx (fVar 1) (fC (.d (.int 0))))) fNil)))))
noncomputable def R_over : Fn := runB 2 B_over
noncomputable def B_need_polynomial : Fs := (fSeq (fIf (fNot (fTru (fIsi .tp (fVar 0)))) fBad fSkip)
  (fFor (fEn (fCons (fVar 0) fNil)) (gTp 2 (gsCons (gNm 1) (gsCons (gNm 2) gsNil))) (fIf (fOr (fNot (fTru (fCall 1 [] R_is_fraction (fCons (fVar 2) fNil)))) (fAnd (fTru (fOp2 (dEq false) (fVar 1) (fOp2 gSub (fCB gLen (fCons (fVar 0) fNil)) (fC (.d (.int 1)))))) (fTru (fCall 1 [] R_is_nought (fCons (fVar 2) fNil))))) fBad fSkip)))
noncomputable def R_need_polynomial : Fn := runB 3 B_need_polynomial
noncomputable def B__law_multiplied : Fs := (fSeq (fSet 2 (fOp2 gMulT (fLst (fCons (fTup (fCons (fC (.d (.int 0))) (fCons (fC (.d (.int 1))) fNil))) fNil)) (fOp2 gAdd (fCB gLen (fCons (fVar 0) fNil)) (fCB gLen (fCons (fVar 1) fNil)))))
  (fSeq (fFor (fEn (fCons (fVar 0) fNil)) (gTp 2 (gsCons (gNm 3) (gsCons (gNm 4) gsNil))) (fFor (fEn (fCons (fVar 1) fNil)) (gTp 2 (gsCons (gNm 5) (gsCons (gNm 6) gsNil))) (fPutL (fVar 2) (fOp2 gAdd (fVar 3) (fVar 5)) (fCall 2 [] R__law_plus (fCons (fOp2 gIx (fVar 2) (fOp2 gAdd (fVar 3) (fVar 5))) (fCons (fCall 2 [] R__law_times (fCons (fVar 4) (fCons (fVar 6) fNil))) fNil))))))
  (fRet (fCall 1 [] R__law_cut (fCons (fVar 2) fNil)))))
noncomputable def R__law_multiplied : Fn := runB 7 B__law_multiplied
noncomputable def B__law_less : Fs := (fRet (fCall 2 [] R__law_plus (fCons (fVar 0) (fCons (fTup (fCons (fOp2 gSub (fC (.d (.int 0))) (fOp2 gIx (fVar 1) (fC (.d (.int 0))))) (fCons (fOp2 gIx (fVar 1) (fC (.d (.int 1)))) fNil))) fNil))))
noncomputable def R__law_less : Fn := runB 2 B__law_less
noncomputable def B__law_small : Fs := (fSeq (fSet 2 (fOp2 gAdd (fC (.d (.int 1))) (fCall 2 [] R__law_digit (fCons (fVar 0) (fCons (fVar 1) fNil)))))
  (fSeq (fSet 3 (fOp2 gSub (fCall 2 [] R__law_digit (fCons (fVar 0) (fCons (fOp2 gAdd (fOp2 gAdd (fOp2 gMulT (fC (.d (.int 2))) (fVar 2)) (fC (.d (.int 1)))) (fOp2 gMulT (fC (.d (.int 2))) (fCB gInt1 (fCons (fOp2 (dEq false) (fCall 2 [] R__law_digit (fCons (fVar 0) (fCons (fC (.d (.int 6))) fNil))) (fC (.d (.int 0)))) fNil)))) fNil))) (fVar 2)))
  (fRet (fCall 2 [] R__law_lowest (fCons (fVar 3) (fCons (fVar 2) fNil))))))
noncomputable def R__law_small : Fn := runB 4 B__law_small
noncomputable def B_out_row : Fs := (fSeq (fExp (fCall 1 [] R_need_polynomial (fCons (fVar 0) fNil)))
  (fSeq (fIf (fOr (fTru (fOp2 (dEq false) (fVar 0) (fTup fNil))) (fTru (fCall 1 [] R_is_nought (fCons (fOp2 gIx (fVar 0) (fC (.d (.int 0)))) fNil)))) fBad fSkip)
  (fSeq (fPar 1 2 (fCons (fLc (fIt (fVar 0)) (gNm 3) fYes (fCall 2 [] R_over (fCons (fVar 3) (fCons (fOp2 gIx (fVar 0) (fC (.d (.int 0)))) fNil))) [3]) (fCons (fLst fNil) fNil)))
  (fSeq (fWh (fTru (fOp2 cGt (fCB gLen (fCons (fVar 1) fNil)) (fC (.d (.int 1))))) (fSeq (fSet 4 (fOp2 gIx (fVar 1) (fNeg (fC (.d (.int 1))))))
  (fSeq (fExp (fMt gApp (fVar 2) (fCons (fVar 4) fNil)))
  (fSeq (fIf (fTru (fOp2 cGe (fCB gAbs (fCons (fOp2 gIx (fVar 4) (fC (.d (.int 0)))) fNil)) (fOp2 gIx (fVar 4) (fC (.d (.int 1)))))) (fRet (fVar 2)) fSkip)
  (fSeq (fSet 5 (fCall 2 [] R_less (fCons (fC (.d (.tuple [.int 1, .int 1]))) (fCons (fCall 2 [] R_times (fCons (fVar 4) (fCons (fVar 4) fNil))) fNil))))
  (fSet 1 (fSl (fLc (fZ2 (fCons (fVar 1) (fCons (fRevL (fVar 1)) fNil))) (gTp 2 (gsCons (gNm 6) (gsCons (gNm 7) gsNil))) fYes (fCall 2 [] R_over (fCons (fCall 2 [] R_less (fCons (fVar 6) (fCons (fCall 2 [] R_times (fCons (fVar 4) (fCons (fVar 7) fNil))) fNil))) (fCons (fVar 5) fNil))) [6, 7]) fNoP (fPart (fNeg (fC (.d (.int 1))))))))))))
  (fRet (fVar 2))))))
noncomputable def R_out_row : Fn := runB 8 B_out_row
noncomputable def B__law_row : Fs := (fSeq (fPar 1 2 (fCons (fLc (fIt (fVar 0)) (gNm 3) fYes (fCall 2 [] R__law_over (fCons (fVar 3) (fCons (fOp2 gIx (fVar 0) (fC (.d (.int 0)))) fNil))) [3]) (fCons (fLst fNil) fNil)))
  (fSeq (fWh (fAnd (fTru (fOp2 cGt (fCB gLen (fCons (fVar 1) fNil)) (fC (.d (.int 1))))) (fOr (fTru (fOp2 (dEq false) (fVar 2) (fLst fNil))) (fTru (fOp2 cLt (fCB gAbs (fCons (fOp2 gIx (fOp2 gIx (fVar 2) (fNeg (fC (.d (.int 1))))) (fC (.d (.int 0)))) fNil)) (fOp2 gIx (fOp2 gIx (fVar 2) (fNeg (fC (.d (.int 1))))) (fC (.d (.int 1)))))))) (fSeq (fSet 4 (fOp2 gIx (fVar 1) (fNeg (fC (.d (.int 1))))))
  (fSeq (fExp (fMt gApp (fVar 2) (fCons (fVar 4) fNil)))
  (fSeq (fSet 5 (fCall 2 [] R__law_less (fCons (fTup (fCons (fC (.d (.int 1))) (fCons (fC (.d (.int 1))) fNil))) (fCons (fCall 2 [] R__law_times (fCons (fVar 4) (fCons (fVar 4) fNil))) fNil))))
  (fIf (fTru (fOp2 cGt (fOp2 gIx (fVar 5) (fC (.d (.int 0)))) (fC (.d (.int 0))))) (fSeq (fSet 6 (fLc (fZ2 (fCons (fVar 1) (fCons (fRevL (fVar 1)) fNil))) (gTp 2 (gsCons (gNm 7) (gsCons (gNm 8) gsNil))) fYes (fCall 2 [] R__law_less (fCons (fVar 7) (fCons (fCall 2 [] R__law_times (fCons (fVar 4) (fCons (fVar 8) fNil))) fNil))) [7, 8]))
  (fSet 1 (fLc (fIt (fSl (fVar 6) fNoP (fPart (fNeg (fC (.d (.int 1))))))) (gNm 3) fYes (fCall 2 [] R__law_over (fCons (fVar 3) (fCons (fVar 5) fNil))) [3]))) fSkip)))))
  (fRet (fVar 2))))
noncomputable def R__law_row : Fn := runB 9 B__law_row
noncomputable def B__law_part : Fs := (fSeq (fPar 1 2 (fCons (fCall 2 [] R__law_small (fCons (fVar 0) (fCons (fC (.d (.int 9))) fNil))) (fCons (fCall 2 [] R__law_small (fCons (fVar 0) (fCons (fC (.d (.int 9))) fNil))) fNil)))
  (fSeq (fIf (fTru (fOp2 (dEq false) (fCall 2 [] R__law_digit (fCons (fVar 0) (fCons (fC (.d (.int 2))) fNil))) (fC (.d (.int 0))))) (fRet (fTup (fCons (fCall 1 [] R__law_cut (fCons (fLst (fCons (fTup (fCons (fC (.d (.int 1))) (fCons (fC (.d (.int 1))) fNil))) (fCons (fVar 1) fNil))) fNil)) (fCons (fOp2 cLt (fCB gAbs (fCons (fOp2 gIx (fVar 1) (fC (.d (.int 0)))) fNil)) (fOp2 gIx (fVar 1) (fC (.d (.int 1))))) fNil)))) fSkip)
  (fSeq (fSet 3 (fCall 2 [] R__law_plus (fCons (fTup (fCons (fC (.d (.int 1))) (fCons (fC (.d (.int 1))) fNil))) (fCons (fVar 2) fNil))))
  (fSeq (fSet 4 (fAndE (fOp2 cLt (fCB gAbs (fCons (fOp2 gIx (fVar 2) (fC (.d (.int 0)))) fNil)) (fOp2 gIx (fVar 2) (fC (.d (.int 1))))) (fOp2 cGt (fOp2 gIx (fCall 2 [] R__law_less (fCons (fVar 3) (fCons (fTup (fCons (fCB gAbs (fCons (fOp2 gIx (fVar 1) (fC (.d (.int 0)))) fNil)) (fCons (fOp2 gIx (fVar 1) (fC (.d (.int 1)))) fNil))) fNil))) (fC (.d (.int 0)))) (fC (.d (.int 0))))))
  (fRet (fTup (fCons (fCall 1 [] R__law_cut (fCons (fLst (fCons (fTup (fCons (fC (.d (.int 1))) (fCons (fC (.d (.int 1))) fNil))) (fCons (fVar 1) (fCons (fVar 2) fNil)))) fNil)) (fCons (fVar 4) fNil))))))))
noncomputable def R__law_part : Fn := runB 5 B__law_part
noncomputable def B__law_right : Fs := (fSeq (fPar 1 2 (fCons (fTup (fCons (fCall 2 [] R__law_lowest (fCons (fOp2 gIx (fLst (fCons (fC (.d (.int 1))) (fCons (fNeg (fC (.d (.int 1)))) (fCons (fC (.d (.int 3))) (fCons (fNeg (fC (.d (.int 2)))) fNil))))) (fCall 2 [] R__law_digit (fCons (fVar 0) (fCons (fC (.d (.int 4))) fNil)))) (fCons (fOp2 gAdd (fC (.d (.int 1))) (fCall 2 [] R__law_digit (fCons (fVar 0) (fCons (fC (.d (.int 5))) fNil)))) fNil))) fNil)) (fCons (fC (.d (.bool true))) fNil)))
  (fSeq (fFor (fR1 (fCons (fCall 2 [] R__law_digit (fCons (fVar 0) (fCons (fC (.d (.int 5))) fNil))) fNil)) (gNm 3) (fSeq (fAsg (gTp 2 (gsCons (gNm 4) (gsCons (gNm 5) gsNil))) (fCall 1 [] R__law_part (fCons (fVar 0) fNil)))
  (fPar 1 2 (fCons (fCall 2 [] R__law_multiplied (fCons (fVar 1) (fCons (fVar 4) fNil))) (fCons (fAndE (fVar 2) (fVar 5)) fNil)))))
  (fSeq (fSet 6 (fCall 1 [] R_out_row (fCons (fVar 1) fNil)))
  (fSeq (fSet 7 (fCB gList (fCons (fVar 6) fNil)))
  (fSeq (fExp (fMt gApp (fVar 6) (fCons (fTup (fCons (fC (.d (.int 7))) (fCons (fC (.d (.int 1))) fNil))) fNil)))
  (fSeq (fIf (fOr (fTru (fOp2 (dEq true) (fCB gRepr (fCons (fVar 7) fNil)) (fCB gRepr (fCons (fCall 1 [] R__law_row (fCons (fVar 1) fNil)) fNil)))) (fTru (fOp2 (dEq true) (fCall 1 [] R_out_row (fCons (fVar 1) fNil)) (fVar 7)))) (fRet (fC (.d (.bool false)))) fSkip)
  (fSeq (fSet 6 (fVar 7))
  (fSeq (fSet 8 (fOp2 (dEq false) (fLc (fIt (fVar 6)) (gNm 4) (fTru (fOp2 cGe (fCB gAbs (fCons (fOp2 gIx (fVar 4) (fC (.d (.int 0)))) fNil)) (fOp2 gIx (fVar 4) (fC (.d (.int 1)))))) (fVar 4) [4]) (fLst fNil)))
  (fSeq (fIf (fOr (fTru (fOp2 (dEq true) (fVar 8) (fVar 2))) (fAnd (fTru (fVar 2)) (fTru (fOp2 (dEq true) (fCB gLen (fCons (fVar 6) fNil)) (fOp2 gSub (fCB gLen (fCons (fVar 1) fNil)) (fC (.d (.int 1)))))))) (fRet (fC (.d (.bool false)))) fSkip)
  (fRet (fOrE (fVar 2) (fOp2 (dEq false) (fLc (fIt (fSl (fVar 6) fNoP (fPart (fNeg (fC (.d (.int 1))))))) (gNm 4) (fTru (fOp2 cGe (fCB gAbs (fCons (fOp2 gIx (fVar 4) (fC (.d (.int 0)))) fNil)) (fOp2 gIx (fVar 4) (fC (.d (.int 1)))))) (fVar 4) [4]) (fLst fNil)))))))))))))
noncomputable def R__law_right : Fn := runB 9 B__law_right
noncomputable def B_law : Fs := (fSeq (fFor (fEn (fCons (fOp2 gAdd (fSl (fVar 0) fNoP (fPart (fC (.d (.int 2))))) (fLst (fCons (fCB gSum (fCons (fVar 0) fNil)) fNil))) fNil)) (gTp 2 (gsCons (gNm 1) (gsCons (gNm 2) gsNil))) (fSeq (fSet 3 (fCall 2 [] R__law_draw (fCons (fVar 2) (fCons (fVar 1) fNil))))
  (fFor (fR1 (fCons (fC (.d (.int 3))) fNil)) (gNm 4) (fIf (fNot (fTru (fCall 1 [] R__law_right (fCons (fVar 3) fNil)))) (fRet (fC (.d (.bool false)))) fSkip))))
  (fSeq (fSet 5 (fTup (fCons (fTup (fCons (fC (.d (.int 1))) (fCons (fC (.d (.int 1))) fNil))) (fCons (fTup (fCons (fC (.d (.int 1))) (fCons (fC (.d (.int 2))) fNil))) (fCons (fTup (fCons (fC (.d (.int 1))) (fCons (fC (.d (.int 2))) fNil))) fNil)))))
  (fSeq (fSet 6 (fLst (fCons (fCall 1 [] R_out_row (fCons (fVar 5) fNil)) (fCons (fCall 1 [] R_out_row (fCons (fTup (fCons (fTup (fCons (fC (.d (.int 2))) (fCons (fC (.d (.int 1))) fNil))) fNil)) fNil)) (fCons (fCall 1 [] R_out_row (fCons (fTup (fCons (fTup (fCons (fC (.d (.int 1))) (fCons (fC (.d (.int 1))) fNil))) (fCons (fTup (fCons (fC (.d (.int 0))) (fCons (fC (.d (.int 1))) fNil))) (fCons (fTup (fCons (fNeg (fC (.d (.int 1)))) (fCons (fC (.d (.int 1))) fNil))) fNil)))) fNil)) fNil)))))
  (fRet (fOp2 (dEq false) (fVar 6) (fLst (fCons (fLst (fCons (fTup (fCons (fC (.d (.int 1))) (fCons (fC (.d (.int 2))) fNil))) (fCons (fTup (fCons (fC (.d (.int 1))) (fCons (fC (.d (.int 3))) fNil))) fNil))) (fCons (fLst fNil) (fCons (fLst (fCons (fTup (fCons (fNeg (fC (.d (.int 1)))) (fCons (fC (.d (.int 1))) fNil))) fNil)) fNil)))))))))
noncomputable def R_law : Fn := runB 7 B_law
end G
set_option Elab.async false
set_option linter.all false
set_option maxRecDepth 100000
set_option maxHeartbeats 4000000
/-! M1: what the functions of fractions tell -/
namespace G
open PySem PySem.Spec L2 PyProof.Rows
set_option autoImplicit false
/-! ### stepping -/
@[simp] theorem st_seq (f g : Fs) (ρ : Slt) (S : Sto) : fSeq f g ρ S = match f ρ S with | .nx ρ1 S1 => g ρ1 S1 | r => r := id rfl
@[simp] theorem st_ret (f : Fe W) (ρ : Slt) (S : Sto) : fRet f ρ S = (f ρ S).fl ρ fun x S1 => .rt x S1 := id rfl
@[simp] theorem st_set (i : Nat) (f : Fe W) (ρ : Slt) (S : Sto) : fSet i f ρ S = (f ρ S).fl ρ fun x S1 => .nx (ρ.set i (some x)) S1 := id rfl
@[simp] theorem st_exp (f : Fe W) (ρ : Slt) (S : Sto) : fExp f ρ S = (f ρ S).fl ρ fun _ S1 => .nx ρ S1 := id rfl
@[simp] theorem st_if (c : Fe Bool) (f g : Fs) (ρ : Slt) (S : Sto) : fIf c f g ρ S = (c ρ S).fl ρ fun b S1 => if b = true then f ρ S1 else g ρ S1 := id rfl
@[simp] theorem st_skip (ρ : Slt) (S : Sto) : fSkip ρ S = .nx ρ S := id rfl
@[simp] theorem st_bad (ρ : Slt) (S : Sto) : fBad ρ S = .bad := id rfl
@[simp] theorem st_retN (ρ : Slt) (S : Sto) : fRetN ρ S = .rt (.d .none) S := id rfl
@[simp] theorem st_par (i j : Nat) (f : Fe (List W)) (ρ : Slt) (S : Sto) : fPar i j f ρ S = (f ρ S).fl ρ fun xs S1 => match xs with | [x, y] => .nx ((ρ.set i (some x)).set j (some y)) S1 | _ => .bad := id rfl
@[simp] theorem st_par3 (i j l : Nat) (f : Fe (List W)) (ρ : Slt) (S : Sto) : fPar3 i j l f ρ S = (f ρ S).fl ρ fun xs S1 => match xs with | [x, y, z] => .nx (((ρ.set i (some x)).set j (some y)).set l (some z)) S1 | _ => .bad := id rfl
@[simp] theorem st_asg (g : Gt) (f : Fe W) (ρ : Slt) (S : Sto) : fAsg g f ρ S = (f ρ S).fl ρ fun x S1 => match g x ρ S1 with | some ρ1 => .nx ρ1 S1 | none => .bad := id rfl
@[simp] theorem st_for (f : Fe (List PyData)) (g : Gt) (b : Fs) (ρ : Slt) (S : Sto) : fFor f g b ρ S = (f ρ S).fl ρ fun ds S1 => forD g b ds ρ S1 := id rfl
@[simp] theorem ev_var (i : Nat) (ρ : Slt) (S : Sto) : fVar i ρ S = match ρ[i]? with | some (some x) => .ok x S | _ => .bad := id rfl
@[simp] theorem ev_c (x : W) (ρ : Slt) (S : Sto) : fC x ρ S = .ok x S := id rfl
@[simp] theorem ev_nil (ρ : Slt) (S : Sto) : fNil ρ S = .ok [] S := id rfl
@[simp] theorem ev_cons (f : Fe W) (g : Fe (List W)) (ρ : Slt) (S : Sto) : fCons f g ρ S = (f ρ S).bind fun x S1 => (g ρ S1).bind fun xs S2 => .ok (x :: xs) S2 := id rfl
@[simp] theorem ev_op2 (g : Op2) (f h : Fe W) (ρ : Slt) (S : Sto) : fOp2 g f h ρ S = (f ρ S).bind fun x S1 => (h ρ S1).bind fun y S2 => ofO (g x y S2) := id rfl
@[simp] theorem ev_call (n : Nat) (dws : List PyData) (F : Fn) (f : Fe (List W)) (ρ : Slt) (S : Sto) : fCall n dws F f ρ S = (f ρ S).bind fun xs S1 => if xs.length = n then F (xs ++ ofD dws) S1 else .bad := id rfl
theorem ev_cb (g : OpN) (f : Fe (List W)) (ρ : Slt) (S : Sto) : fCB g f ρ S = (f ρ S).bind fun xs S1 => ofO (g xs S1) := id rfl
@[simp] theorem ev_len (f : Fe (List W)) (ρ : Slt) (S : Sto) : fCB gLen f ρ S = (f ρ S).bind fun xs S1 => ofO (gLen xs S1) := id rfl
@[simp] theorem ev_abs (f : Fe (List W)) (ρ : Slt) (S : Sto) : fCB gAbs f ρ S = (f ρ S).bind fun xs S1 => ofO (gAbs xs S1) := id rfl
@[simp] theorem ev_sum (f : Fe (List W)) (ρ : Slt) (S : Sto) : fCB gSum f ρ S = (f ρ S).bind fun xs S1 => ofO (gSum xs S1) := id rfl
@[simp] theorem ev_int (f : Fe (List W)) (ρ : Slt) (S : Sto) : fCB gInt1 f ρ S = (f ρ S).bind fun xs S1 => ofO (gInt1 xs S1) := id rfl
@[simp] theorem ev_sort (f : Fe (List W)) (ρ : Slt) (S : Sto) : fCB gSort f ρ S = (f ρ S).bind fun xs S1 => ofO (gSort xs S1) := id rfl
@[simp] theorem ev_list (f : Fe (List W)) (ρ : Slt) (S : Sto) : fCB gList f ρ S = (f ρ S).bind fun xs S1 => ofO (gList xs S1) := id rfl
@[simp] theorem ev_mm (k : PyData → List PyData → PyData) (n : Nat) (f : Fe (List W)) (ρ : Slt) (S : Sto) : fCB (gMM k n) f ρ S = (f ρ S).bind fun xs S1 => ofO (gMM k n xs S1) := id rfl
@[simp] theorem ev_tru (f : Fe W) (ρ : Slt) (S : Sto) : fTru f ρ S = (f ρ S).bind fun x S1 => ofO ((truth x).map fun b => (b, S1)) := id rfl
@[simp] theorem ev_not (f : Fe Bool) (ρ : Slt) (S : Sto) : fNot f ρ S = (f ρ S).bind fun b S1 => .ok (!b) S1 := id rfl
@[simp] theorem ev_and (f g : Fe Bool) (ρ : Slt) (S : Sto) : fAnd f g ρ S = (f ρ S).bind fun b S1 => if b = true then g ρ S1 else .ok false S1 := id rfl
@[simp] theorem ev_or (f g : Fe Bool) (ρ : Slt) (S : Sto) : fOr f g ρ S = (f ρ S).bind fun b S1 => if b = true then .ok true S1 else g ρ S1 := id rfl
@[simp] theorem ev_ife (t : Fe Bool) (f g : Fe W) (ρ : Slt) (S : Sto) : fIfE t f g ρ S = (t ρ S).bind fun b S1 => if b = true then f ρ S1 else g ρ S1 := id rfl
@[simp] theorem ofD_nil : ofD [] = [] := id rfl
@[simp] theorem truth_b (b : Bool) : truth (.d (.bool b)) = some b := id rfl
@[simp] theorem add_int (i j : Int) (S : Sto) : gAdd (.d (.int i)) (.d (.int j)) S = some (.d (.int (i + j)), S) := id rfl
@[simp] theorem sub_int (i j : Int) (S : Sto) : gInt (fun i j => .int (i - j)) (.d (.int i)) (.d (.int j)) S = some (.d (.int (i - j)), S) := id rfl
theorem mul_int {i j : Int} (h : mulOk i j = true) (S : Sto) : gMulT (.d (.int i)) (.d (.int j)) S = some (.d (.int (i * j)), S) := by
  show (if mulOk i j = true then _ else _) = _
  rw [if_pos h]
theorem mod_int {i j : Int} (h : 0 < j) (S : Sto) : gMod (.d (.int i)) (.d (.int j)) S = some (.d (.int (i % j)), S) := by
  show (if 0 < j then _ else _) = _
  rw [if_pos h]
theorem div_int {i j : Int} (h : 0 < j) (h2 : j.natAbs < mid) (S : Sto) : gDiv (.d (.int i)) (.d (.int j)) S = some (.d (.int (i / j)), S) := by
  show (if divOk j = true then _ else _) = _
  have : divOk j = true := decide_eq_true ⟨h, h2⟩
  rw [if_pos this]
theorem dEq_d {a b : PyData} (neg : Bool) (ha : SeqAt.shaped a = true) (hb : SeqAt.shaped b = true) (S : Sto) : dEq neg (.d a) (.d b) S = some (.d (.bool (if neg = true then !PyData.eqv a b else PyData.eqv a b)), S) := by
  unfold dEq
  simp only [view_d]
  rw [if_pos (by rw [ha, hb]; rfl)]
theorem sh_int (i : Int) : SeqAt.shaped (.int i) = true := rfl
@[simp] theorem ne_int (i j : Int) (S : Sto) : dEq true (.d (.int i)) (.d (.int j)) S = some (.d (.bool (!decide (i = j))), S) := by
  rw [dEq_d true (sh_int i) (sh_int j)]
  simp [PyData.eqv]
  rfl
@[simp] theorem eq_int (i j : Int) (S : Sto) : dEq false (.d (.int i)) (.d (.int j)) S = some (.d (.bool (decide (i = j))), S) := by
  rw [dEq_d false (sh_int i) (sh_int j)]
  simp [PyData.eqv]
  rfl
theorem gLt_int (k : PyData → PyData → Bool) (i j : Int) (S : Sto) : gLt k (.d (.int i)) (.d (.int j)) S = some (.d (.bool (k (.int i) (.int j))), S) := by
  unfold gLt
  simp [PySem.W.alike, PyData.depth]
@[simp] theorem lt_int' (i j : Int) (S : Sto) : cLt (.d (.int i)) (.d (.int j)) S = some (.d (.bool (decide (i < j))), S) := by
  rw [cLt, gLt_int, PySem.W.dataLt_int]
@[simp] theorem gt_int' (i j : Int) (S : Sto) : cGt (.d (.int i)) (.d (.int j)) S = some (.d (.bool (decide (j < i))), S) := by
  rw [cGt, gLt_int, PySem.W.dataLt_int]
@[simp] theorem le_int' (i j : Int) (S : Sto) : cLe (.d (.int i)) (.d (.int j)) S = some (.d (.bool (decide (i ≤ j))), S) := by
  rw [cLe, gLt_int, PySem.W.dataLt_int]
  congr 4
  rw [← decide_not, decide_eq_decide]
  omega
@[simp] theorem ge_int' (i j : Int) (S : Sto) : cGe (.d (.int i)) (.d (.int j)) S = some (.d (.bool (decide (j ≤ i))), S) := by
  rw [cGe, gLt_int, PySem.W.dataLt_int]
  congr 4
  rw [← decide_not, decide_eq_decide]
  omega
@[simp] theorem abs_int (i : Int) (S : Sto) : gAbs [.d (.int i)] S = some (.d (.int (if i < 0 then -i else i)), S) := id rfl
theorem abs_nat (i : Int) : (if i < 0 then -i else i) = ((i.natAbs : Nat) : Int) := by split <;> omega
/-! ### common -/
theorem common_wh (a : Nat) : ∀ (n b a : Nat) (S : Sto) (i j : Nat) (ρ : Slt), b < n → i ≠ j → i < ρ.length → j < ρ.length → ρ[i]? = some (some (.d (.int a))) → ρ[j]? = some (some (.d (.int b))) →
    whD (fTru (fOp2 (dEq true) (fVar j) (fC (.d (.int 0))))) (fPar i j (fCons (fVar j) (fCons (fOp2 gMod (fVar i) (fVar j)) fNil))) n ρ S = .nx ((ρ.set i (some (.d (.int (Nat.gcd a b))))).set j (some (.d (.int 0)))) S
  | 0, b, a, S, i, j, ρ, h, _, _, _, _, _ => by omega
  | n + 1, b, a, S, i, j, ρ, h, hij, hi, hj, ei, ej => by
    unfold whD
    by_cases hb : b = 0
    · subst hb
      simp [ej]
      have e1 : ρ.set i (some (W.d (PyData.int (a : Int)))) = ρ := by
        apply List.ext_getElem?; intro k
        by_cases hk : i = k
        · subst hk; rw [List.getElem?_set_self hi, ei]
        · rw [List.getElem?_set_ne hk]
      have e2 : ρ.set j (some (W.d (PyData.int 0))) = ρ := by
        apply List.ext_getElem?; intro k
        by_cases hk : j = k
        · subst hk; rw [List.getElem?_set_self hj, ej]; rfl
        · rw [List.getElem?_set_ne hk]
      rw [e1, e2]
    · have hb' : (0 : Int) < (b : Int) := by omega
      have hz : ¬ ((b : Int) = 0) := by omega
      simp [ej, ei, mod_int hb', hb, hz]
      have := common_wh a n (a % b) b S i j ((ρ.set i (some (.d (.int b)))).set j (some (.d (.int ((a % b : Nat) : Int))))) (by have := Nat.mod_lt a (Nat.pos_of_ne_zero hb); omega) hij (by simpa using hi) (by simpa using hj)
        (by rw [List.getElem?_set_ne (Ne.symm hij), List.getElem?_set_self hi]) (by rw [List.getElem?_set_self (by simpa using hj)])
      have e3 : ((a : Int) % (b : Int)) = ((a % b : Nat) : Int) := by omega
      rw [e3, this]
      congr 1
      have c1 : ∀ (l : Slt) (x y z : Option W), ((l.set i x).set j y).set i z = (l.set i z).set j y := fun l x y z => by rw [List.set_comm y z (Ne.symm hij), List.set_set]
      rw [c1, List.set_set, Nat.gcd_comm a b, Nat.gcd_rec b a, Nat.gcd_comm b (a % b)]
theorem common_fW (a b : Nat) (S : Sto) (i j : Nat) (ρ : Slt) (hij : i ≠ j) (hi : i < ρ.length) (hj : j < ρ.length) (ei : ρ[i]? = some (some (.d (.int a)))) (ej : ρ[j]? = some (some (.d (.int b)))) :
    fWh (fTru (fOp2 (dEq true) (fVar j) (fC (.d (.int 0))))) (fPar i j (fCons (fVar j) (fCons (fOp2 gMod (fVar i) (fVar j)) fNil))) ρ S = .nx ((ρ.set i (some (.d (.int (Nat.gcd a b))))).set j (some (.d (.int 0)))) S := by
  have e := common_wh 0 (b + 1) b a S i j ρ (Nat.lt_succ_self b) hij hi hj ei ej
  rw [fWh_eq (n := b + 1) (by rw [e]; intro z; cases z), e]
@[simp] theorem r_common (a b : Int) (S : Sto) : R_common [.d (.int a), .d (.int b)] S = .ok (.d (.int (Int.gcd a b))) S := by
  unfold R_common runB B_common
  simp [startR, abs_nat]
  rw [common_fW a.natAbs b.natAbs S 0 1 _ (by decide) (by simp) (by simp) rfl rfl]
  simp [Int.gcd]
end G
set_option Elab.async false
set_option linter.all false
set_option maxRecDepth 100000
set_option maxHeartbeats 4000000
/-! M2: fractions -/
namespace G
open PySem PySem.Spec L2 PyProof.Rows
set_option autoImplicit false
theorem lt_mid {n : Nat} (h : n < 2 ^ 7000) : n < mid := by
  unfold mid
  exact Nat.lt_of_lt_of_le h (Nat.pow_le_pow_right (by decide) (by decide))
theorem lt_big {n : Nat} (h : n < 2 ^ 7000) : n < big := by
  unfold big
  exact Nat.lt_of_lt_of_le h (Nat.pow_le_pow_right (by decide) (by decide))
theorem mulOk_of {i j : Int} (hi : i.natAbs < 2 ^ 7000) (hj : j.natAbs < 2 ^ 7000) : mulOk i j = true := by
  unfold mulOk smal
  simp [lt_big hi, lt_big hj]
def fr (q : Rat) : PyData := .tuple [.int q.num, .int q.den]
/-- small fractions -/
def Sm (n : Nat) (q : Rat) : Prop := q.num.natAbs < 2 ^ n ∧ q.den < 2 ^ n
theorem rat_eq (p : Rat) : (p.num : Rat) / (p.den : Rat) = p := by
  have h := Rat.mkRat_self p
  rw [Rat.mkRat_eq_div] at h
  exact_mod_cast h
theorem den_pos (p : Rat) : (0 : Int) < (p.den : Int) := by have := p.den_pos; omega
theorem den_ne (p : Rat) : (p.den : Rat) ≠ 0 := by
  intro h
  have h1 := p.den_nz
  exact h1 (by exact_mod_cast h)
@[simp] theorem ix_two0 (a b : PyData) (S : Sto) : gIx (.d (.tuple [a, b])) (.d (.int 0)) S = some (.d a, S) := id rfl
@[simp] theorem ix_two1 (a b : PyData) (S : Sto) : gIx (.d (.tuple [a, b])) (.d (.int 1)) S = some (.d b, S) := id rfl
@[simp] theorem fTup_d2 (f g : Fe W) (ρ : Slt) (S : Sto) : fTup (fCons f (fCons g fNil)) ρ S = (f ρ S).bind fun x S1 => (g ρ S1).bind fun y S2 => match fzT [x, y] S2 with | some (d, S2) => .ok (.d d) S2 | none => .bad := by
  unfold fTup
  simp only [ev_cons, ev_nil, Out.bind]
  cases f ρ S with
  | ok x S1 => simp only []; cases g ρ S1 <;> rfl
  | ex e S1 => rfl
  | bad => rfl
@[simp] theorem fzT_d2 (a b : PyData) (S : Sto) : fzT [.d a, .d b] S = some (.tuple [a, b], S) := by
  unfold fzT frzL frzL frzL
  simp only [frz_d]
  rfl
theorem low_eq {t b : Int} (hb : 0 < b) : fr (Rat.divInt t b) = .tuple [.int (t / (Int.gcd t b : Nat)), .int (b / (Int.gcd t b : Nat))] := by
  unfold fr
  rw [Rat.num_divInt, Rat.den_divInt]
  have h1 : b.sign = 1 := Int.sign_eq_one_of_pos hb
  have h2 : ¬ b = 0 := by omega
  rw [h1, if_neg h2, Int.one_mul, Int.gcd_comm b t]
  have h3 : b = (b.natAbs : Int) := by omega
  congr 4
  rw [Int.natCast_ediv, Int.natAbs_of_nonneg (by omega)]
theorem gcd_lt {t b : Int} (hb : 0 < b) (hs : b.natAbs < 2 ^ 7000) : 0 < ((Int.gcd t b : Nat) : Int) ∧ (((Int.gcd t b : Nat) : Int)).natAbs < mid := by
  have h1 : 0 < Int.gcd t b := Int.gcd_pos_of_ne_zero_right _ (by omega)
  have h2 : Int.gcd t b ≤ b.natAbs := Nat.le_of_dvd (by omega) (Int.gcd_dvd_natAbs_right t b)
  refine ⟨by omega, ?_⟩
  rw [Int.natAbs_natCast]
  exact lt_mid (by omega)
theorem r_lowest {t b : Int} (hb : 0 < b) (hs : b.natAbs < 2 ^ 7000) (S : Sto) : R_lowest [.d (.int t), .d (.int b)] S = .ok (.d (fr (Rat.divInt t b))) S := by
  unfold R_lowest runB B_lowest
  have hg := gcd_lt (t := t) hb hs
  simp [startR, hb, div_int hg.1 hg.2, low_eq hb]
theorem r__law_lowest {t b : Int} (hb : 0 < b) (hs : b.natAbs < 2 ^ 7000) (S : Sto) : R__law_lowest [.d (.int t), .d (.int b)] S = .ok (.d (fr (Rat.divInt t b))) S := by
  unfold R__law_lowest runB B__law_lowest
  have hg := gcd_lt (t := t) hb hs
  have hbn : b = ((b.natAbs : Nat) : Int) := by omega
  simp [startR, abs_nat]
  rw [common_fW t.natAbs b.natAbs S 2 3 _ (by decide) (by simp) (by simp) rfl (by rw [← hbn]; rfl)]
  have e : ((t.natAbs.gcd b.natAbs : Nat) : Int) = ((Int.gcd t b : Nat) : Int) := rfl
  simp [e, div_int hg.1 hg.2, low_eq hb]
/-! ### sums and products -/
theorem add_div (p q : Rat) : Rat.divInt (p.num * q.den + q.num * p.den) (p.den * q.den) = p + q := by
  have h1 := rat_eq p
  have h2 := rat_eq q
  have h3 := den_ne p
  have h4 := den_ne q
  rw [Rat.divInt_eq_div]
  push_cast
  grind
theorem sub_div (p q : Rat) : Rat.divInt (p.num * q.den - q.num * p.den) (p.den * q.den) = p - q := by
  have h1 := rat_eq p
  have h2 := rat_eq q
  have h3 := den_ne p
  have h4 := den_ne q
  rw [Rat.divInt_eq_div]
  push_cast
  grind
theorem mul_div (p q : Rat) : Rat.divInt (p.num * q.num) (p.den * q.den) = p * q := by
  have h1 := rat_eq p
  have h2 := rat_eq q
  have h3 := den_ne p
  have h4 := den_ne q
  rw [Rat.divInt_eq_div]
  push_cast
  grind
theorem pow_mul_lt {a b n m k : Nat} (ha : a < 2 ^ n) (hb : b < 2 ^ m) (h : n + m ≤ k) : a * b < 2 ^ k := by
  have h1 : a * b < 2 ^ n * 2 ^ m := by
    rcases Nat.eq_zero_or_pos b with hz | hz
    · subst hz
      have := Nat.pow_pos (n := n) (show 0 < 2 by decide)
      have := Nat.pow_pos (n := m) (show 0 < 2 by decide)
      have := Nat.mul_pos (Nat.pow_pos (n := n) (show 0 < 2 by decide)) (Nat.pow_pos (n := m) (show 0 < 2 by decide))
      omega
    · exact Nat.mul_lt_mul_of_lt_of_le ha (Nat.le_of_lt hb) (Nat.pow_pos (by decide))
  rw [← Nat.pow_add] at h1
  exact Nat.lt_of_lt_of_le h1 (Nat.pow_le_pow_right (by decide) h)
theorem Sm.mono {n m : Nat} {q : Rat} (h : Sm n q) (l : n ≤ m) : Sm m q := ⟨Nat.lt_of_lt_of_le h.1 (Nat.pow_le_pow_right (by decide) l), Nat.lt_of_lt_of_le h.2 (Nat.pow_le_pow_right (by decide) l)⟩
section
variable {n m : Nat} {p q : Rat}
theorem sm_nd (hp : Sm n p) (hl : n ≤ 3000) : p.num.natAbs < 2 ^ 7000 ∧ ((p.den : Nat) : Int).natAbs < 2 ^ 7000 := by
  have h := hp.mono (m := 7000) (by omega)
  exact ⟨h.1, by rw [Int.natAbs_natCast]; exact h.2⟩
theorem sm_dd (hp : Sm n p) (hq : Sm m q) (hl : n ≤ 3000) (hm : m ≤ 3000) : ((p.den : Int) * (q.den : Int)).natAbs < 2 ^ 7000 := by
  rw [Int.natAbs_mul, Int.natAbs_natCast, Int.natAbs_natCast]
  exact pow_mul_lt hp.2 hq.2 (by omega)
theorem dd_pos (p q : Rat) : 0 < (p.den : Int) * (q.den : Int) := Int.mul_pos (den_pos p) (den_pos q)
theorem mo_nd (hp : Sm n p) (hq : Sm m q) (hl : n ≤ 3000) (hm : m ≤ 3000) : mulOk p.num q.den = true := mulOk_of (sm_nd hp hl).1 (sm_nd hq hm).2
theorem mo_dd (hp : Sm n p) (hq : Sm m q) (hl : n ≤ 3000) (hm : m ≤ 3000) : mulOk p.den q.den = true := mulOk_of (sm_nd hp hl).2 (sm_nd hq hm).2
theorem mo_nn (hp : Sm n p) (hq : Sm m q) (hl : n ≤ 3000) (hm : m ≤ 3000) : mulOk p.num q.num = true := mulOk_of (sm_nd hp hl).1 (sm_nd hq hm).1
theorem r_less (hp : Sm n p) (hq : Sm m q) (S : Sto) (hl : n ≤ 3000 := by omega) (hm : m ≤ 3000 := by omega) : R_less [.d (fr p), .d (fr q)] S = .ok (.d (fr (p - q))) S := by
  unfold R_less runB B_less fr
  simp [startR, mul_int (mo_nd hp hq hl hm), mul_int (mo_nd hq hp hm hl), mul_int (mo_dd hp hq hl hm)]
  rw [r_lowest (dd_pos p q) (sm_dd hp hq hl hm), sub_div]
  rfl
theorem r_times (hp : Sm n p) (hq : Sm m q) (S : Sto) (hl : n ≤ 3000 := by omega) (hm : m ≤ 3000 := by omega) : R_times [.d (fr p), .d (fr q)] S = .ok (.d (fr (p * q))) S := by
  unfold R_times runB B_times fr
  simp [startR, mul_int (mo_nn hp hq hl hm), mul_int (mo_dd hp hq hl hm)]
  rw [r_lowest (dd_pos p q) (sm_dd hp hq hl hm), mul_div]
  rfl
theorem r__law_plus (hp : Sm n p) (hq : Sm m q) (S : Sto) (hl : n ≤ 3000 := by omega) (hm : m ≤ 3000 := by omega) : R__law_plus [.d (fr p), .d (fr q)] S = .ok (.d (fr (p + q))) S := by
  unfold R__law_plus runB B__law_plus fr
  simp [startR, mul_int (mo_nd hp hq hl hm), mul_int (mo_nd hq hp hm hl), mul_int (mo_dd hp hq hl hm)]
  rw [r__law_lowest (dd_pos p q) (sm_dd hp hq hl hm), add_div]
  rfl
end
/-! ### sizes by a common bottom and a bound -/
/-- the bottom divides D, the worth is at most M -/
structure Bd (D : Nat) (M : Nat) (q : Rat) : Prop where
  dv : q.den ∣ D
  le : q ≤ M
  ge : -(M : Rat) ≤ q
theorem isW_int (S : Sto) (i : Int) : R_is_whole [.d (.int i)] S = .ok (.d (.bool true)) S := by
  unfold R_is_whole runB B_is_whole
  simp [startR, fAndE, fIsi, fNotE, kdOf, kdD, isK]
end G
set_option Elab.async false
set_option linter.all false
set_option maxRecDepth 100000
set_option maxHeartbeats 4000000
/-! M3: comprehensions and loops, evaluated -/
namespace G
open PySem PySem.Spec L2 PyProof.Rows
set_option autoImplicit false
/-- gives x, and only new cells -/
def Pu {α : Type} (r : Out α) (S : Sto) (x : α) : Prop := ∃ T, r = .ok x (S ++ T)
theorem Pu.of {α : Type} {r : Out α} {S : Sto} {x : α} (h : r = .ok x S) : Pu r S x := ⟨[], by rw [h, List.append_nil]⟩
@[simp] theorem set_len_app (S : Sto) (c d : Cell) (T : Sto) : (S ++ c :: T).set S.length d = S ++ d :: T := by
  rw [List.set_append_right _ _ (Nat.le_refl _)]; simp
@[simp] theorem get_len_app (S : Sto) (c : Cell) (T : Sto) : (S ++ c :: T)[S.length]? = some c := by simp
theorem compD_ok {α : Type} {mk : α → PyData} {g : Gt} {e : Fe W} {n : Nat} {ρ : Slt} {yf : α → W} : ∀ (ds : List α) (acc : List W) (S T0 : Sto),
    (∀ d ∈ ds, ∃ ρ1, (∀ S, g (.d (mk d)) ρ S = some ρ1) ∧ ∀ S, Pu (e ρ1 S) S (yf d)) → acc.length + ds.length ≤ 1000000 → n = S.length → ∃ T', compD g fYes e n (ds.map mk) ρ (S ++ .lst acc :: T0) = .ok () (S ++ .lst (acc ++ ds.map yf) :: T')
  | [], acc, S, T0, h, hz, hn => ⟨T0, by simp [compD]⟩
  | d :: ds, acc, S, T0, h, hz, hn => by
    obtain ⟨ρ1, h1, h2⟩ := h d (by simp)
    obtain ⟨T1, e1⟩ := h2 (S ++ .lst acc :: T0)
    subst hn
    rw [List.map_cons]
    unfold compD
    rw [h1]
    simp only [fYes, bind_ok, if_true, e1, List.append_assoc, List.cons_append, get_len_app, set_len_app]
    rw [if_pos (by unfold szOk; simp at hz ⊢; omega)]
    obtain ⟨T', e'⟩ := compD_ok ds (acc ++ [yf d]) S (T0 ++ T1) (fun d hd => h d (by simp [hd])) (by simp at hz ⊢; omega) rfl
    exact ⟨T', by rw [e']; simp⟩
theorem fLc_ok {α : Type} {mk : α → PyData} {f : Fe (List PyData)} {g : Gt} {e : Fe W} {vs : List Nat} {ρ : Slt} {S T0 : Sto} {ds : List α} (yf : α → W) (hf : f ρ S = .ok (ds.map mk) (S ++ T0)) (hz : ds.length ≤ 1000000)
    (h : ∀ d ∈ ds, ∃ ρ1, (∀ S, g (.d (mk d)) (wipeR ρ vs) S = some ρ1) ∧ ∀ S, Pu (e ρ1 S) S (yf d)) : ∃ T, fLc f g fYes e vs ρ S = .ok (.o (S ++ T0).length) (S ++ T0 ++ .lst (ds.map yf) :: T) := by
  unfold fLc
  rw [hf]
  obtain ⟨T, e1⟩ := compD_ok (n := (S ++ T0).length) ds [] (S ++ T0) [] h (by simpa using hz) rfl
  rw [List.nil_append] at e1
  refine ⟨T, ?_⟩
  simp only [bind_ok, e1, noX_ok]
theorem frzL_ds : ∀ (k : Nat) (ds : List PyData) (S : Sto), frzL (frz k) (ds.map W.d) S = some (ds, S)
  | _, [], S => rfl
  | k, d :: ds, S => by
    unfold frzL
    simp only [List.map_cons, frz_d]
    show (match frzL (frz k) (ds.map W.d) S with | some (ds_1, S2) => some (d :: ds_1, S2) | none => none) = _
    rw [frzL_ds k ds S]
/-- tuple of a list of data -/
theorem gTuple_o {n : Nat} {S : Sto} {ds : List PyData} (h : S[n]? = some (.lst (ds.map W.d))) : gTuple [.o n] S = some (.d (.tuple ds), S) := by
  show (match lstOf (.o n) S with | some ws => (match frzL (frz 6) ws S with | some (ds, S2) => some (W.d (.tuple ds), S2) | none => none) | none => none) = _
  have : lstOf (.o n) S = some (ds.map W.d) := by
    unfold lstOf
    simp only [h]
  rw [this]
  simp only [frzL_ds]
/-! two for -/
/-! ### targets, iterables -/
@[simp] theorem gt_nm (i : Nat) (x : W) (ρ : Slt) (S : Sto) : gNm i x ρ S = some (ρ.set i (some x)) := id rfl
@[simp] theorem gt_tp2 (g h : Gt) (a b : PyData) (ρ : Slt) (S : Sto) : gTp 2 (gsCons g (gsCons h gsNil)) (.d (.tuple [a, b])) ρ S = match g (.d a) ρ S with | some ρ1 => (match h (.d b) ρ1 S with | some ρ2 => some ρ2 | none => none) | none => none := id rfl
@[simp] theorem gt_tp3 (g h k : Gt) (a b c : PyData) (ρ : Slt) (S : Sto) : gTp 3 (gsCons g (gsCons h (gsCons k gsNil))) (.d (.tuple [a, b, c])) ρ S = match g (.d a) ρ S with | some ρ1 => (match h (.d b) ρ1 S with | some ρ2 => (match k (.d c) ρ2 S with | some ρ3 => some ρ3 | none => none) | none => none) | none => none := id rfl
@[simp] theorem it_ev (f : Fe W) (ρ : Slt) (S : Sto) : fIt f ρ S = (f ρ S).bind fun x S1 => ofO (itemsOf x S1) := id rfl
@[simp] theorem items_t (ds : List PyData) (S : Sto) : itemsOf (.d (.tuple ds)) S = some (ds, S) := id rfl
@[simp] theorem items_l (ds : List PyData) (S : Sto) : itemsOf (.d (.list ds)) S = some (ds, S) := id rfl
@[simp] theorem en_ev (f : Fe W) (ρ : Slt) (S : Sto) : fEn (fCons f fNil) ρ S = (f ρ S).bind fun x S1 => (ofO (itemsOf x S1)).bind fun ds S2 => .ok (enumD ds) S2 := by
  unfold fEn
  simp only [ev_cons, ev_nil]
  cases f ρ S <;> rfl
@[simp] theorem z2_ev (f g : Fe W) (ρ : Slt) (S : Sto) : fZ2 (fCons f (fCons g fNil)) ρ S = (f ρ S).bind fun x S1 => (g ρ S1).bind fun y S2 => (ofO (itemsOf x S2)).bind fun ds1 S3 => (ofO (itemsOf y S3)).bind fun ds2 S4 => .ok (zipD2 ds1 ds2) S4 := by
  unfold fZ2
  simp only [ev_cons, ev_nil]
  cases f ρ S with
  | ok x S1 => simp only [bind_ok]; cases g ρ S1 <;> rfl
  | ex _ _ => rfl
  | bad => rfl
@[simp] theorem z3_ev (f g h : Fe W) (ρ : Slt) (S : Sto) : fZ3 (fCons f (fCons g (fCons h fNil))) ρ S = (f ρ S).bind fun x S1 => (g ρ S1).bind fun y S2 => (h ρ S2).bind fun z S2 => (ofO (itemsOf x S2)).bind fun ds1 S3 => (ofO (itemsOf y S3)).bind fun ds2 S4 => (ofO (itemsOf z S4)).bind fun ds3 S5 => .ok (zipD3 ds1 ds2 ds3) S5 := by
  unfold fZ3
  simp only [ev_cons, ev_nil]
  cases f ρ S with
  | ok x S1 =>
    simp only [bind_ok]
    cases g ρ S1 with
    | ok y S2 => simp only [bind_ok]; cases h ρ S2 <;> rfl
    | ex _ _ => rfl
    | bad => rfl
  | ex _ _ => rfl
  | bad => rfl
theorem r1_ev (f : Fe W) (ρ : Slt) (S S' : Sto) (j : Int) (h : f ρ S = .ok (.d (.int j)) S') (hj : -1000000 ≤ j ∧ j ≤ 1000000) : fR1 (fCons f fNil) ρ S = .ok (rngD 0 j.toNat) S' := by
  unfold fR1
  simp only [ev_cons, ev_nil, h, bind_ok]
  rw [if_pos (show rOk j = true from decide_eq_true hj)]
/-! ### for -/
end G
set_option Elab.async false
set_option linter.all false
set_option maxRecDepth 100000
set_option maxHeartbeats 4000000
/-! M4: machines -/
namespace G
open PySem PySem.Spec L2 PyProof.Rows
set_option autoImplicit false
@[simp] theorem ev_isi (t : Kd) (f : Fe W) (ρ : Slt) (S : Sto) : fIsi t f ρ S = (f ρ S).bind fun x S1 => match kdOf x S1 with | some k => .ok (.d (.bool (isK k t))) S1 | none => .bad := id rfl
@[simp] theorem kd_d (x : PyData) (S : Sto) : kdOf (.d x) S = some (kdD x) := by cases x <;> rfl
@[simp] theorem kd_t (xs : List PyData) : kdD (.tuple xs) = .tp := id rfl
@[simp] theorem kd_i (i : Int) : kdD (.int i) = .it := id rfl
@[simp] theorem isK_tp : isK .tp .tp = true := id rfl
@[simp] theorem isK_it : isK .it .it = true := id rfl
@[simp] theorem isK_ib : isK .it .bl = false := id rfl
@[simp] theorem ev_andE (f g : Fe W) (ρ : Slt) (S : Sto) : fAndE f g ρ S = (f ρ S).bind fun x S1 => match x with | .d (.bool true) => g ρ S1 | .d (.bool false) => .ok (.d (.bool false)) S1 | _ => .bad := by
  unfold fAndE
  rfl
theorem atI_nat {α : Type} {xs : List α} {i : Nat} {x : α} (h : xs[i]? = some x) : L2.atI xs (i : Int) = some x := by
  have hl := (List.getElem?_eq_some_iff.mp h).1
  unfold L2.atI L2.ixN
  rw [if_pos (by omega), if_pos (by omega)]
  simpa using h
@[simp] theorem len_t (ds : List PyData) (S : Sto) : gLen [.d (.tuple ds)] S = some (.d (.int ds.length), S) := by
  show some (W.d (.int ((ds.map W.d).length : Nat)), S) = _
  rw [List.length_map]
theorem intsOf_ds (ns : List Int) : intsOf ((ns.map PyData.int).map W.d) = some ns := by
  rw [List.map_map]
  exact intsOf_map ns
@[simp] theorem ev_chain (g g' : Op2) (f h k : Fe W) (ρ : Slt) (S : Sto) : fChain g g' f h k ρ S = (f ρ S).bind fun x S1 => (h ρ S1).bind fun y S2 => (ofO (g x y S2)).bind fun z S3 => match z with
  | .d (.bool true) => (k ρ S3).bind fun u S4 => ofO (g' y u S4)
  | .d (.bool false) => .ok (.d (.bool false)) S3
  | _ => .bad := id rfl
@[simp] theorem isW (i : Int) (S : Sto) : R_is_whole [.d (.int i)] S = .ok (.d (.bool true)) S := isW_int S i
@[simp] theorem r_is_fraction (q : Rat) (S : Sto) : R_is_fraction [.d (fr q)] S = .ok (.d (.bool true)) S := by
  unfold R_is_fraction runB B_is_fraction fr
  have h1 := q.den_pos
  have h2 : Int.gcd q.num q.den = 1 := q.reduced
  simp [startR, h1, h2]
/-! ### spots, touches, machines -/
abbrev Spot := Nat × Nat
abbrev Tch := Spot × Spot
def sD (s : Spot) : PyData := .tuple [.int s.1, .int s.2]
def tcD (t : Tch) : PyData := .tuple [sD t.1, sD t.2]
def csD (cs : List Nat) : PyData := .tuple (cs.map fun c => .int (c : Nat))
def tsD (ts : List Tch) : PyData := .tuple (ts.map tcD)
structure Mach where
  cs : List Nat
  ts : List Tch
def mD (m : Mach) : PyData := .tuple [csD m.cs, tsD m.ts]
def okS (cs : List Nat) (s : Spot) : Prop := ∃ c, cs[s.1]? = some c ∧ s.2 < c
def ltS (s t : Spot) : Prop := s.1 < t.1 ∨ s.1 = t.1 ∧ s.2 < t.2
instance (s t : Spot) : Decidable (ltS s t) := inferInstanceAs (Decidable (_ ∨ _))
def ltT (a b : Tch) : Prop := ltS a.1 b.1 ∨ a.1 = b.1 ∧ ltS a.2 b.2
def spotsOf (ts : List Tch) : List Spot := ts.flatMap fun t => [t.1, t.2]
structure Ok (m : Mach) : Prop where
  ne : m.cs ≠ []
  l16 : m.cs.length ≤ 16
  pos : ∀ c ∈ m.cs, 0 < c
  s30 : m.cs.sum ≤ 30
  l8 : m.ts.length ≤ 8
  good : ∀ t ∈ m.ts, okS m.cs t.1 ∧ okS m.cs t.2 ∧ ltS t.1 t.2
  srt : m.ts.Pairwise ltT
  nd : (spotsOf m.ts).Nodup
/-! the loop over the touches -/
@[simp] theorem gt_tp2' (g h : Gt) (a b : PyData) (ρ : Slt) (S : Sto) : gTp 2 (gsCons g (gsCons h gsNil)) (.d (.tuple [a, b])) ρ S = match g (.d a) ρ S with | some ρ1 => (match h (.d b) ρ1 S with | some ρ2 => some ρ2 | none => none) | none => none := id rfl
theorem view_o {k : Nat} {S : Sto} {ds : List PyData} (h : S[k]? = some (.lst (ds.map W.d))) : view (.o k) S = some (.list ds) := by
  unfold view
  have : frz 6 (.o k) S = some (.list ds, S.set k (.fz (.list ds))) := by
    show (match S[k]? with | some (.fz x) => some (x, S) | some (.lst ws) => (match frzL (frz 5) ws S with | some (ds, S1) => some (PyData.list ds, S1.set k (.fz (.list ds))) | none => none) | _ => none) = _
    rw [h]
    simp only [frzL_ds]
  rw [this]
  rfl
@[simp] theorem ev_mt (g : OpM) (f : Fe W) (h : Fe (List W)) (ρ : Slt) (S : Sto) : fMt g f h ρ S = (f ρ S).bind fun x S1 => if (hpl x S1).isSome = true then (h ρ S1).bind fun xs S2 => ofO (g x xs S2) else .bad := id rfl
@[simp] theorem isn_no (S : Sto) : gIsN true (.d .none) (.d .none) S = some (.d (.bool false), S) := id rfl
end G
set_option Elab.async false
set_option linter.all false
set_option maxRecDepth 100000
set_option maxHeartbeats 4000000
/-! M5: sizes of fractions, loads -/
namespace G
open PySem PySem.Spec L2 PyProof.Rows
set_option autoImplicit false
theorem den_dvd {q : Rat} {D : Nat} : q.den ∣ D ↔ ∃ k : Int, q * (D : Rat) = (k : Rat) := by
  have h1 := rat_eq q
  have h2 := den_ne q
  constructor
  · rintro ⟨e, rfl⟩
    refine ⟨q.num * e, ?_⟩
    push_cast
    grind
  · rintro ⟨k, hk⟩
    have h3 : (q.num : Rat) * (D : Rat) = (k : Rat) * (q.den : Rat) := by grind
    have h4 : q.num * (D : Int) = k * (q.den : Int) := by exact_mod_cast h3
    have h5 : (q.den : Int) ∣ q.num * (D : Int) := ⟨k, by rw [h4, Int.mul_comm]⟩
    have h6 : q.den ∣ q.num.natAbs * D := by
      have := Int.natAbs_dvd_natAbs.mpr h5
      rwa [Int.natAbs_mul, Int.natAbs_natCast, Int.natAbs_natCast] at this
    exact Nat.Coprime.dvd_of_dvd_mul_left (Nat.Coprime.symm q.reduced) h6
section
variable {D E M N : Nat} {p q : Rat}
theorem Bd.add (hp : Bd D M p) (hq : Bd D N q) : Bd D (M + N) (p + q) := by
  obtain ⟨k, hk⟩ := den_dvd.mp hp.dv
  obtain ⟨l, hl⟩ := den_dvd.mp hq.dv
  refine ⟨den_dvd.mpr ⟨k + l, ?_⟩, ?_, ?_⟩
  · push_cast; grind
  · have := hp.le; have := hq.le; push_cast; grind
  · have := hp.ge; have := hq.ge; push_cast; grind
theorem Bd.neg (hp : Bd D M p) : Bd D M (-p) := by
  obtain ⟨k, hk⟩ := den_dvd.mp hp.dv
  refine ⟨den_dvd.mpr ⟨-k, ?_⟩, ?_, ?_⟩
  · push_cast; grind
  · have := hp.ge; grind
  · have := hp.le; grind
theorem Bd.sub (hp : Bd D M p) (hq : Bd D N q) : Bd D (M + N) (p - q) := by
  have := hp.add hq.neg
  rwa [← Rat.sub_eq_add_neg] at this
theorem mul_le' {a b m n : Rat} (h1 : a ≤ m) (h2 : -m ≤ a) (h3 : b ≤ n) (h4 : -n ≤ b) : a * b ≤ m * n ∧ -(m * n) ≤ a * b := by
  have e1 : 0 ≤ (m - a) * (n - b) := Rat.mul_nonneg (by grind) (by grind)
  have e2 : 0 ≤ (m - a) * (n + b) := Rat.mul_nonneg (by grind) (by grind)
  have e3 : 0 ≤ (m + a) * (n - b) := Rat.mul_nonneg (by grind) (by grind)
  have e4 : 0 ≤ (m + a) * (n + b) := Rat.mul_nonneg (by grind) (by grind)
  constructor <;> grind
theorem Bd.mul (hp : Bd D M p) (hq : Bd E N q) : Bd (D * E) (M * N) (p * q) := by
  obtain ⟨k, hk⟩ := den_dvd.mp hp.dv
  obtain ⟨l, hl⟩ := den_dvd.mp hq.dv
  have h := mul_le' hp.le hp.ge hq.le hq.ge
  refine ⟨den_dvd.mpr ⟨k * l, ?_⟩, ?_, ?_⟩
  · push_cast; grind
  · push_cast; exact h.1
  · push_cast; exact h.2
theorem Bd.half (hp : Bd D M p) (hq : Bd D M q) : Bd (D * 2) M ((p + q) / 2) := by
  obtain ⟨k, hk⟩ := den_dvd.mp hp.dv
  obtain ⟨l, hl⟩ := den_dvd.mp hq.dv
  refine ⟨den_dvd.mpr ⟨k + l, ?_⟩, ?_, ?_⟩
  · push_cast; grind
  · have := hp.le; have := hq.le; grind
  · have := hp.ge; have := hq.ge; grind
theorem Bd.mono (hp : Bd D M p) (h1 : D ∣ E) (h2 : M ≤ N) : Bd E N p := by
  have : (M : Rat) ≤ (N : Rat) := by exact_mod_cast h2
  refine ⟨Nat.dvd_trans hp.dv h1, ?_, ?_⟩
  · have := hp.le; grind
  · have := hp.ge; grind
theorem Bd.sm {n : Nat} (hp : Bd D M p) (h0 : 0 < D) (h1 : D < 2 ^ n) (h2 : M * D < 2 ^ n) : Sm n p := by
  have hle : p.den ≤ D := Nat.le_of_dvd h0 hp.dv
  refine ⟨?_, by omega⟩
  have e := rat_eq p
  have hd := den_ne p
  have hdp : (0 : Rat) < (p.den : Rat) := by exact_mod_cast p.den_pos
  have a1 : (p.num : Rat) ≤ ((M * p.den : Nat) : Rat) := by
    have : (p.num : Rat) = p * p.den := by grind
    rw [this]
    push_cast
    exact Rat.mul_le_mul_of_nonneg_right hp.le (by grind)
  have a2 : -((M * p.den : Nat) : Rat) ≤ (p.num : Rat) := by
    have : (p.num : Rat) = p * p.den := by grind
    rw [this]
    push_cast
    have h3 := Rat.mul_le_mul_of_nonneg_right hp.ge (c := (p.den : Rat)) (by grind)
    grind
  have b1 : p.num ≤ ((M * p.den : Nat) : Int) := by exact_mod_cast a1
  have b2 : -((M * p.den : Nat) : Int) ≤ p.num := by
    refine Rat.intCast_le_intCast.mp ?_
    push_cast at a2 ⊢
    exact a2
  have b3 : M * p.den ≤ M * D := Nat.mul_le_mul_left M hle
  omega
theorem Bd.zero : Bd D M 0 := by
  have h : (0 : Rat) ≤ (M : Rat) := by exact_mod_cast Nat.zero_le M
  refine ⟨by rw [show (0 : Rat).den = 1 from rfl]; exact Nat.one_dvd _, h, by grind⟩
theorem Bd.one : Bd 1 1 1 := ⟨Nat.dvd_refl _, by decide, by decide⟩
end
end G
set_option Elab.async false
set_option linter.all false
set_option maxRecDepth 100000
set_option maxHeartbeats 4000000
/-! M6: loads -/
namespace G
open PySem PySem.Spec L2 PyProof.Rows
set_option autoImplicit false
abbrev Load := Spot → Rat
def rowD (f : Load) (q : Nat × Nat) : PyData := .tuple ((List.range q.1).map fun p => fr (f (q.2, p)))
def ldD (cs : List Nat) (f : Load) : PyData := .tuple (cs.zipIdx.map (rowD f))
@[simp] theorem len_row (f : Load) (q : Nat × Nat) (S : Sto) : gLen [.d (rowD f q)] S = some (.d (.int (q.1 : Nat)), S) := by
  unfold rowD
  rw [len_t]; simp
@[simp] theorem len_cs (cs : List Nat) (S : Sto) : gLen [.d (csD cs)] S = some (.d (.int (cs.length : Nat)), S) := by
  unfold csD
  rw [len_t]; simp
@[simp] theorem len_ld (cs : List Nat) (f : Load) (S : Sto) : gLen [.d (ldD cs f)] S = some (.d (.int (cs.length : Nat)), S) := by
  unfold ldD
  rw [len_t]; simp
@[simp] theorem kd_row (f : Load) (q : Nat × Nat) : kdD (rowD f q) = .tp := id rfl
@[simp] theorem kd_ld (cs : List Nat) (f : Load) : kdD (ldD cs f) = .tp := id rfl
@[simp] theorem kd_cs (cs : List Nat) : kdD (csD cs) = .tp := id rfl
@[simp] theorem items_ld (cs : List Nat) (f : Load) (S : Sto) : itemsOf (.d (ldD cs f)) S = some (cs.zipIdx.map (rowD f), S) := id rfl
@[simp] theorem items_cs (cs : List Nat) (S : Sto) : itemsOf (.d (csD cs)) S = some (cs.map (fun c => .int (c : Nat)), S) := id rfl
@[simp] theorem items_row (f : Load) (q : Nat × Nat) (S : Sto) : itemsOf (.d (rowD f q)) S = some ((List.range q.1).map fun p => fr (f (q.2, p)), S) := id rfl
@[simp] theorem items_ts (ts : List Tch) (S : Sto) : itemsOf (.d (tsD ts)) S = some (ts.map tcD, S) := id rfl
@[simp] theorem ix_m0 (m : Mach) (S : Sto) : gIx (.d (mD m)) (.d (.int 0)) S = some (.d (csD m.cs), S) := id rfl
@[simp] theorem ix_m1 (m : Mach) (S : Sto) : gIx (.d (mD m)) (.d (.int 1)) S = some (.d (tsD m.ts), S) := id rfl
/-- few cells -/
structure Few (cs : List Nat) : Prop where
  len : cs.length ≤ 16
  one : ∀ c ∈ cs, c ≤ 30
theorem Ok.few {m : Mach} (ok : Ok m) : Few m.cs := ⟨ok.l16, fun c hc => by
  have : ∀ l : List Nat, c ∈ l → c ≤ l.sum := fun l => by
    induction l with
    | nil => intro h; cases h
    | cons a l ih =>
      intro h
      rcases List.mem_cons.mp h with rfl | h
      · simp
      · have := ih h; simp; omega
  have := this _ hc
  have := ok.s30
  omega⟩
theorem Few.z {cs : List Nat} (h : Few cs) {q : Nat × Nat} (hq : q ∈ cs.zipIdx) : q.1 ≤ 30 := by
  obtain ⟨c, i⟩ := q
  exact h.one c (by have := List.mem_zipIdx hq; rw [this.2.2]; exact List.getElem_mem _)
/-! ### loads made of loads -/
end G
set_option Elab.async false
set_option linter.all false
set_option maxRecDepth 100000
set_option maxHeartbeats 4000000
/-! M7: spots, sums over cells, readings -/
namespace G
open PySem PySem.Spec L2 PyProof.Rows
set_option autoImplicit false
def cellsZ (zs : List (Nat × Nat)) : List Spot := zs.flatMap fun q => (List.range q.1).map fun p => (q.2, p)
def cells (cs : List Nat) : List Spot := cellsZ cs.zipIdx
end G
set_option Elab.async false
set_option linter.all false
set_option maxRecDepth 100000
set_option maxHeartbeats 4000000
/-! M8: sums over cells, readings -/
namespace G
open PySem PySem.Spec L2 PyProof.Rows
set_option autoImplicit false
/-! ### readings -/
def rdF (f : Load) (t : Tch) : Rat := (f t.1 + f t.2) / 2
@[simp] theorem ix_s0 (s : Spot) (S : Sto) : gIx (.d (sD s)) (.d (.int 0)) S = some (.d (.int (s.1 : Nat)), S) := id rfl
@[simp] theorem ix_s1 (s : Spot) (S : Sto) : gIx (.d (sD s)) (.d (.int 1)) S = some (.d (.int (s.2 : Nat)), S) := id rfl
end G
set_option Elab.async false
set_option linter.all false
set_option maxRecDepth 100000
set_option maxHeartbeats 4000000
/-! M9: a beat -/
namespace G
open PySem PySem.Spec L2 PyProof.Rows
set_option autoImplicit false
def rl (g : Load) (q : Nat × Nat) : List PyData := (List.range q.1).map fun p => fr (g (q.2, p))
def updL (g : Load) (s : Spot) (v : Rat) : Load := fun t => if t = s then v else g t
def aftF (f : Load) (ts : List Tch) (g : Load) : Load := ts.foldl (fun g t => updL (updL g t.1 (rdF f t)) t.2 (rdF f t)) g
@[simp] theorem st_putL (fo fi fv : Fe W) (ρ : Slt) (S : Sto) : fPutL fo fi fv ρ S = (fv ρ S).fl ρ fun z S1 => (fo ρ S1).fl ρ fun x S2 => (fi ρ S2).fl ρ fun y S3 => match putL x y z S3 with
  | some S4 => .nx ρ S4
  | none => .bad := id rfl
theorem forD_cons (g : Gt) (b : Fs) (d : PyData) (ds : List PyData) (ρ : Slt) (S : Sto) : forD g b (d :: ds) ρ S = match g (.d d) ρ S with
  | none => .bad
  | some ρ1 => match b ρ1 S with
    | .nx ρ2 S2 => forD g b ds ρ2 S2
    | .ct ρ2 S2 => forD g b ds ρ2 S2
    | .bk ρ2 S2 => .nx ρ2 S2
    | r => r := id rfl
/-! the rows are closed -/
end G
set_option Elab.async false
set_option linter.all false
set_option maxRecDepth 100000
set_option maxHeartbeats 4000000
/-! M10: beats -/
namespace G
open PySem PySem.Spec L2 PyProof.Rows
set_option autoImplicit false
@[simp] theorem part1 (ρ : Slt) (S : Sto) : fPart (fC (.d (.int 1))) ρ S = .ok (some 1) S := rfl
@[simp] theorem noP (ρ : Slt) (S : Sto) : fNoP ρ S = .ok none S := id rfl
@[simp] theorem ev_sl (f : Fe W) (l h : Fe (Option Int)) (ρ : Slt) (S : Sto) : fSl f l h ρ S = (f ρ S).bind fun x S1 => (l ρ S1).bind fun lo S2 => (h ρ S2).bind fun hi S3 => ofO (gSl x lo hi S3) := id rfl
theorem sl_l (ds : List PyData) (lo hi : Option Int) (S : Sto) : gSl (.d (.list ds)) lo hi S = some (.o S.length, S ++ [.lst (cutW (ds.map W.d) lo hi)]) := rfl
def beatF (m : Mach) (f : Load) : Load := fun s => aftF f m.ts f (s.1, (s.2 + 1) % (m.cs.getD s.1 1))
end G
set_option Elab.async false
set_option linter.all false
set_option maxRecDepth 100000
set_option maxHeartbeats 4000000
/-! M11: behind, readings -/
namespace G
open PySem PySem.Spec L2 PyProof.Rows
set_option autoImplicit false
theorem aft_cases (f : Load) : ∀ (ts : List Tch) (g : Load) (s : Spot), aftF f ts g s = g s ∨ ∃ t ∈ ts, aftF f ts g s = rdF f t
  | [], g, s => .inl rfl
  | t :: ts, g, s => by
    rcases aft_cases f ts (updL (updL g t.1 (rdF f t)) t.2 (rdF f t)) s with h | ⟨u, hu, h⟩
    · have e : aftF f (t :: ts) g s = aftF f ts (updL (updL g t.1 (rdF f t)) t.2 (rdF f t)) s := rfl
      rw [e, h]
      unfold updL
      by_cases h1 : s = t.2
      · exact .inr ⟨t, by simp, by simp [h1]⟩
      · by_cases h2 : s = t.1
        · refine .inr ⟨t, by simp, ?_⟩
          rw [if_neg h1, if_pos h2]
        · left
          rw [if_neg h1, if_neg h2]
    · exact .inr ⟨u, by simp [hu], h⟩
theorem Bd.beat {m : Mach} {f : Load} {D M : Nat} (hf : ∀ s, Bd D M (f s)) : ∀ s, Bd (D * 2) M (beatF m f s) := fun s => by
  unfold beatF
  rcases aft_cases f m.ts f (s.1, (s.2 + 1) % (m.cs.getD s.1 1)) with h | ⟨t, _, h⟩
  · rw [h]; exact (hf _).mono ⟨2, rfl⟩ (Nat.le_refl _)
  · rw [h]; exact (hf _).half (hf _)
def beatN (m : Mach) : Nat → Load → Load
  | 0, f => f
  | k + 1, f => beatN m k (beatF m f)
theorem Bd.beatN {m : Mach} {M : Nat} : ∀ (k : Nat) {D : Nat} {f : Load}, (∀ s, Bd D M (f s)) → ∀ s, Bd (D * 2 ^ k) M (beatN m k f s)
  | 0, D, f, hf, s => by
    rw [Nat.pow_zero, Nat.mul_one]
    exact hf s
  | k + 1, D, f, hf, s => by
    have h := Bd.beatN (m := m) (f := beatF m f) k (Bd.beat hf) s
    have e : D * 2 ^ (k + 1) = D * 2 * 2 ^ k := by rw [Nat.pow_succ, Nat.mul_comm (2 ^ k) 2, Nat.mul_assoc]
    rw [e]
    exact h
/-- room for so many beats -/
structure Rmb (D M n k : Nat) : Prop where
  pos : 0 < D
  d : D * 2 ^ k < 2 ^ n
  m : 101 * M * (D * 2 ^ k) < 2 ^ n
  n : n ≤ 3000
theorem Rmb.here {D M n k : Nat} (h : Rmb D M n k) : D < 2 ^ n ∧ 101 * M * D < 2 ^ n := by
  have h1 : D ≤ D * 2 ^ k := Nat.le_mul_of_pos_right D (Nat.pow_pos (by decide))
  have h2 : 101 * M * D ≤ 101 * M * (D * 2 ^ k) := Nat.mul_le_mul_left _ h1
  exact ⟨Nat.lt_of_le_of_lt h1 h.d, Nat.lt_of_le_of_lt h2 h.m⟩
theorem Rmb.next {D M n k : Nat} (h : Rmb D M n (k + 1)) : Rmb (D * 2) M n k := by
  have e : D * 2 ^ (k + 1) = D * 2 * 2 ^ k := by rw [Nat.pow_succ, Nat.mul_comm (2 ^ k) 2, Nat.mul_assoc]
  exact ⟨by have := h.pos; omega, by rw [← e]; exact h.d, by rw [← e]; exact h.m, h.n⟩
/-! readings -/
end G
set_option Elab.async false
set_option linter.all false
set_option maxRecDepth 100000
set_option maxHeartbeats 4000000
/-! M12: what the law draws -/
namespace G
open PySem PySem.Spec L2 PyProof.Rows
set_option autoImplicit false
def stC (l c t : Int) : Cell := .dic [(.inr "left", .d (.int l)), (.inr "cell", .d (.int c)), (.inr "turns", .d (.int t))]
def StA (n b : Nat) (S : Sto) : Prop := ∃ l c t : Int, S[n]? = some (stC l c t) ∧ 0 ≤ t ∧ t ≤ b
structure Kp (n : Nat) (S S' : Sto) : Prop where
  len : S.length ≤ S'.length
  same : ∀ i, i < S.length → i ≠ n → S'[i]? = S[i]?
theorem Kp.refl (n : Nat) (S : Sto) : Kp n S S := ⟨Nat.le_refl _, fun _ _ _ => rfl⟩
theorem Kp.trans {n : Nat} {S S1 S2 : Sto} (a : Kp n S S1) (b : Kp n S1 S2) : Kp n S S2 := ⟨Nat.le_trans a.len b.len, fun i h1 h2 => (b.same i (Nat.lt_of_lt_of_le h1 a.len) h2).trans (a.same i h1 h2)⟩
theorem Kp.app (n : Nat) (S T : Sto) : Kp n S (S ++ T) := ⟨by simp, fun i h _ => List.getElem?_append_left h⟩
theorem StA.app {n b : Nat} {S : Sto} (h : StA n b S) (T : Sto) : StA n b (S ++ T) := by
  obtain ⟨l, c, t, e, h1⟩ := h
  exact ⟨l, c, t, by rw [List.getElem?_append_left (List.getElem?_eq_some_iff.mp e).1]; exact e, h1⟩
theorem StA.lt {n b : Nat} {S : Sto} (h : StA n b S) : n < S.length := by
  obtain ⟨l, c, t, e, h1⟩ := h
  exact (List.getElem?_eq_some_iff.mp e).1
theorem get_l {n : Nat} {S : Sto} {l c t : Int} (h : S[n]? = some (stC l c t)) : gDget (.o n) (.d (.str "left")) S = some (.d (.int l), S) := by
  unfold gDget dicOf
  simp only [h, stC]
  rfl
theorem get_c {n : Nat} {S : Sto} {l c t : Int} (h : S[n]? = some (stC l c t)) : gDget (.o n) (.d (.str "cell")) S = some (.d (.int c), S) := by
  unfold gDget dicOf
  simp only [h, stC]
  rfl
theorem get_t {n : Nat} {S : Sto} {l c t : Int} (h : S[n]? = some (stC l c t)) : gDget (.o n) (.d (.str "turns")) S = some (.d (.int t), S) := by
  unfold gDget dicOf
  simp only [h, stC]
  rfl
theorem put_l {n : Nat} {S : Sto} {l c t : Int} (v : Int) (h : S[n]? = some (stC l c t)) : putDk (.o n) (.d (.str "left")) (.d (.int v)) S = some (S.set n (stC v c t)) := by
  unfold putDk
  simp only [keyOf, h, stC]
  rfl
theorem put_t {n : Nat} {S : Sto} {l c t : Int} (v : Int) (h : S[n]? = some (stC l c t)) : putDk (.o n) (.d (.str "turns")) (.d (.int v)) S = some (S.set n (stC l c v)) := by
  unfold putDk
  simp only [keyOf, h, stC]
  rfl
theorem StA.set {n b : Nat} {S : Sto} (h : n < S.length) {l c t : Int} (h1 : 0 ≤ t) (h2 : t ≤ b) : StA n b (S.set n (stC l c t)) := ⟨l, c, t, by rw [List.getElem?_set_self h], h1, h2⟩
theorem Kp.set (n : Nat) (S : Sto) (c : Cell) : Kp n S (S.set n c) := ⟨by simp, fun i _ h => List.getElem?_set_ne (Ne.symm h)⟩
theorem gPow_k (S : Sto) : gPow (.d (.int 10)) (.d (.int 18)) S = some (.d (.int 1000000000000000000), S) := rfl
@[simp] theorem st_putD (fo fi fv : Fe W) (ρ : Slt) (S : Sto) : fPutD fo fi fv ρ S = (fv ρ S).fl ρ fun z S1 => (fo ρ S1).fl ρ fun x S2 => (fi ρ S2).fl ρ fun y S3 => match putDk x y z S3 with
  | some S4 => .nx ρ S4
  | none => .bad := id rfl
theorem small64 {i : Int} (h0 : 0 ≤ i) (h : i ≤ 2 ^ 62) : mulOk i i = true := by
  unfold mulOk tiny
  have : -18446744073709551616 < i ∧ i < 18446744073709551616 := by omega
  simp [this]
theorem tiny_r {i j : Int} (h : -(2 ^ 64) < j ∧ j < 2 ^ 64) : mulOk i j = true := by
  unfold mulOk tiny
  have h' := h
  simp only [Int.reducePow, Int.reduceNeg] at h'
  simp [h']
theorem tiny_l {i j : Int} (h : -(2 ^ 64) < i ∧ i < 2 ^ 64) : mulOk i j = true := by
  unfold mulOk tiny
  have h' := h
  simp only [Int.reducePow, Int.reduceNeg] at h'
  simp [h']
theorem ix_mods (k : Int) (S : Sto) : ∃ p : Int, 0 < p ∧ p < 2147483648 ∧ gIx (.o S.length) (.d (.int (k % 4))) (S ++ [.lst [.d (.int 1000000007), .d (.int 998244353), .d (.int 2147483629), .d (.int 1000000009)]]) = some (.d (.int p), S ++ [.lst [.d (.int 1000000007), .d (.int 998244353), .d (.int 2147483629), .d (.int 1000000009)]]) := by
  have e : seqOf (.o S.length) (S ++ [.lst [.d (.int 1000000007), .d (.int 998244353), .d (.int 2147483629), .d (.int 1000000009)]]) = some [.d (.int 1000000007), .d (.int 998244353), .d (.int 2147483629), .d (.int 1000000009)] := by
    unfold seqOf
    simp only [get_len_app]
  have h1 : 0 ≤ k % 4 := Int.emod_nonneg _ (by decide)
  have h2 : k % 4 < 4 := Int.emod_lt_of_pos _ (by decide)
  have h3 : k % 4 = 0 ∨ k % 4 = 1 ∨ k % 4 = 2 ∨ k % 4 = 3 := by omega
  unfold gIx
  simp only [e]
  rcases h3 with h | h | h | h <;> rw [h] <;> exact ⟨_, by decide, by decide, rfl⟩
theorem r_mixed (c k : Int) (h0 : 0 ≤ k) (h1 : k ≤ 2 ^ 40) (S : Sto) : ∃ v : Int, Pu (R__law_mixed [.d (.int c), .d (.int k)] S) S (.d (.int v)) := by
  obtain ⟨p, hp0, hp1, e1⟩ := ix_mods k S
  have e2 : ∀ ρ : Slt, fLst (fCons (fC (.d (.int 1000000007))) (fCons (fC (.d (.int 998244353))) (fCons (fC (.d (.int 2147483629))) (fCons (fC (.d (.int 1000000009))) fNil)))) ρ S = .ok (.o S.length) (S ++ [.lst [.d (.int 1000000007), .d (.int 998244353), .d (.int 2147483629), .d (.int 1000000009)]]) := fun ρ => rfl
  have a1 : 0 ≤ c % p := Int.emod_nonneg _ (by omega)
  have a2 : c % p < p := Int.emod_lt_of_pos _ hp0
  have a3 : mulOk (c % p + 7919 * k + 13) (c % p + 7919 * k + 13) = true := small64 (by omega) (by omega)
  refine ⟨(c % p + 7919 * k + 13) * (c % p + 7919 * k + 13) % 2147483647 * 48271 % 2147483647, [.lst [.d (.int 1000000007), .d (.int 998244353), .d (.int 2147483629), .d (.int 1000000009)]], ?_⟩
  unfold R__law_mixed runB B__law_mixed
  simp [startR, e2, mod_int (show (0 : Int) < 4 by decide), e1, mod_int hp0, mul_int (tiny_l (i := 7919) (j := k) (by omega)), mul_int a3, mod_int (show (0 : Int) < 2147483647 by decide), mul_int (tiny_r (i := (c % p + 7919 * k + 13) * (c % p + 7919 * k + 13) % 2147483647) (j := 48271) (by omega))]
noncomputable def digBody : Fs := (fSeq (fPutD (fVar 0) (fC (.d (.str "turns"))) (fOp2 gAdd (fOp2 gDget (fVar 0) (fC (.d (.str "turns")))) (fC (.d (.int 1)))))
  (fPutD (fVar 0) (fC (.d (.str "left"))) (fOp2 gAdd (fOp2 gMulT (fOp2 gDget (fVar 0) (fC (.d (.str "left")))) (fC (.d (.int 2147483647)))) (fCall 2 [] R__law_mixed (fCons (fOp2 gDget (fVar 0) (fC (.d (.str "cell")))) (fCons (fOp2 gDget (fVar 0) (fC (.d (.str "turns")))) fNil))))))
theorem dig_loop {n : Nat} {a1 a3 : Option W} : ∀ (ds : List PyData) (b : Nat) (j : Option W) (S : Sto), StA n b S → b + ds.length ≤ 2 ^ 40 → ∃ j' S', forD (gNm 2) digBody ds [some (.o n), a1, j, a3] S = .nx [some (.o n), a1, j', a3] S' ∧ StA n (b + ds.length) S' ∧ Kp n S S'
  | [], b, j, S, h, hb => ⟨j, S, rfl, h, Kp.refl n S⟩
  | d :: ds, b, j, S, h, hb => by
    have hn := h.lt
    obtain ⟨l, c, t, e, h1, h2⟩ := h
    simp only [List.length_cons] at hb
    have g1 : (S.set n (stC l c (t + 1)))[n]? = some (stC l c (t + 1)) := by rw [List.getElem?_set_self hn]
    obtain ⟨v, T, ev⟩ := r_mixed c (t + 1) (by omega) (by omega) (S.set n (stC l c (t + 1)))
    have g2 : (S.set n (stC l c (t + 1)) ++ T)[n]? = some (stC l c (t + 1)) := by rw [List.getElem?_append_left (by simpa using hn)]; exact g1
    have hk : Kp n S ((S.set n (stC l c (t + 1)) ++ T).set n (stC (l * 2147483647 + v) c (t + 1))) := ((Kp.set n S _).trans (Kp.app n _ T)).trans (Kp.set n _ _)
    have hs : StA n (b + 1) ((S.set n (stC l c (t + 1)) ++ T).set n (stC (l * 2147483647 + v) c (t + 1))) := StA.set (by simp; omega) (by omega) (by omega)
    obtain ⟨j', S', e1, e2, e3⟩ := dig_loop (n := n) (a1 := a1) (a3 := a3) ds (b + 1) (some (.d d)) _ hs (by omega)
    refine ⟨j', S', ?_, by rw [List.length_cons, show b + (ds.length + 1) = b + 1 + ds.length by omega]; exact e2, hk.trans e3⟩
    rw [forD_cons]
    have eb : digBody [some (.o n), a1, some (.d d), a3] S = .nx [some (.o n), a1, some (.d d), a3] ((S.set n (stC l c (t + 1)) ++ T).set n (stC (l * 2147483647 + v) c (t + 1))) := by
      unfold digBody
      simp [get_t e, put_t (t + 1) e, get_l g1, get_c g1, get_t g1, mul_int (tiny_r (i := l) (j := 2147483647) (by omega)), ev, put_l (l * 2147483647 + v) g2]
    simp only [gt_nm, List.set_cons_zero, List.set_cons_succ, eb]
    exact e1
theorem r_digit {n b : Nat} {S : Sto} (h : StA n b S) (hb : b + 4 ≤ 2 ^ 40) {z : Int} (hz : 0 < z) (hz2 : z < 2 ^ 60) : ∃ (v : Int) (S' : Sto), R__law_digit [.o n, .d (.int z)] S = .ok (.d (.int v)) S' ∧ 0 ≤ v ∧ v < z ∧ StA n (b + 4) S' ∧ Kp n S S' := by
  have hzm : z.natAbs < mid := lt_mid (Nat.lt_of_lt_of_le (show z.natAbs < 2 ^ 60 by omega) (Nat.pow_le_pow_right (by decide) (by decide)))
  have key : ∃ (S1 : Sto) (j : Option W), fIf (fTru (fOp2 (dEq false) (fOp2 gDget (fVar 0) (fC (.d (.str "left")))) (fC (.d (.int 0))))) (fFor (fR1 (fCons (fC (.d (.int 4))) fNil)) (gNm 2) digBody) fSkip [some (.o n), some (.d (.int z)), none, none] S = .nx [some (.o n), some (.d (.int z)), j, none] S1 ∧ StA n (b + 4) S1 ∧ Kp n S S1 := by
    obtain ⟨l, c, t, e, h1, h2⟩ := id h
    by_cases hl : l = 0
    · obtain ⟨j', S', e1, e2, e3⟩ := dig_loop (n := n) (a1 := some (.d (.int z))) (a3 := none) (rngD 0 4) b none S h (by simp [rngD]; omega)
      refine ⟨S', j', ?_, by simpa [rngD] using e2, e3⟩
      have er : ∀ ρ : Slt, fR1 (fCons (fC (.d (.int 4))) fNil) ρ S = .ok (rngD 0 4) S := fun ρ => r1_ev _ _ S S 4 rfl (by decide)
      simp [get_l e, hl, er, e1]
    · exact ⟨S, none, by simp [get_l e, hl], ⟨l, c, t, e, h1, by omega⟩, Kp.refl n S⟩
  obtain ⟨S1, j, e1, s1, k1⟩ := key
  obtain ⟨l, c, t, e, h1, h2⟩ := id s1
  refine ⟨l % z, S1.set n (stC (l / z) c t), ?_, Int.emod_nonneg _ (by omega), Int.emod_lt_of_pos _ hz, StA.set s1.lt h1 h2, k1.trans (Kp.set n S1 _)⟩
  unfold R__law_digit runB B__law_digit
  unfold digBody at e1
  simp only [startR, List.map_cons, List.map_nil, List.length_cons, List.length_nil, st_seq]
  simp [st_seq] at e1 ⊢
  rw [e1]
  simp [get_l e, mod_int hz, div_int hz hzm, put_l (l / z) e]
end G
set_option Elab.async false
set_option linter.all false
set_option maxRecDepth 100000
set_option maxHeartbeats 4000000
/-! M13: counts drawn -/
namespace G
open PySem PySem.Spec L2 PyProof.Rows
set_option autoImplicit false
def iW (l : List Int) : List W := l.map fun i => W.d (.int i)
end G
set_option Elab.async false
set_option linter.all false
set_option maxRecDepth 100000
set_option maxHeartbeats 4000000
/-! M14: counts drawn, all -/
namespace G
open PySem PySem.Spec L2 PyProof.Rows
set_option autoImplicit false
/-- a row of counts so far -/
structure CsOk (most : Int) (l : List Int) : Prop where
  pos : ∀ c ∈ l, 0 < c
  sum : l.sum ≤ most
end G
set_option Elab.async false
set_option linter.all false
set_option maxRecDepth 100000
set_option maxHeartbeats 4000000
/-! M15: touches drawn -/
namespace G
open PySem PySem.Spec L2 PyProof.Rows
set_option autoImplicit false
theorem ltT_iff (a b : Tch) : ltT a b ↔ a.1.1 < b.1.1 ∨ (a.1.1 = b.1.1 ∧ (a.1.2 < b.1.2 ∨ (a.1.2 = b.1.2 ∧ (a.2.1 < b.2.1 ∨ (a.2.1 = b.2.1 ∧ a.2.2 < b.2.2))))) := by
  obtain ⟨⟨a1, a2⟩, ⟨a3, a4⟩⟩ := a
  obtain ⟨⟨b1, b2⟩, ⟨b3, b4⟩⟩ := b
  simp only [ltT, ltS, Prod.mk.injEq]
  omega
instance (a b : Tch) : Decidable (ltT a b) := decidable_of_iff _ (ltT_iff a b).symm
end G
set_option Elab.async false
set_option linter.all false
set_option maxRecDepth 100000
set_option maxHeartbeats 4000000
/-! M16: touches drawn, the loops -/
namespace G
open PySem PySem.Spec L2 PyProof.Rows
set_option autoImplicit false
end G
set_option Elab.async false
set_option linter.all false
set_option maxRecDepth 100000
set_option maxHeartbeats 4000000
/-! M17: touches drawn -/
namespace G
open PySem PySem.Spec L2 PyProof.Rows
set_option autoImplicit false
end G
set_option Elab.async false
set_option linter.all false
set_option maxRecDepth 100000
set_option maxHeartbeats 4000000
/-! M18: machines drawn -/
namespace G
open PySem PySem.Spec L2 PyProof.Rows
set_option autoImplicit false
end G
set_option Elab.async false
set_option linter.all false
set_option maxRecDepth 100000
set_option maxHeartbeats 4000000
/-! M19: loads drawn -/
namespace G
open PySem PySem.Spec L2 PyProof.Rows
set_option autoImplicit false
end G
set_option Elab.async false
set_option linter.all false
set_option maxRecDepth 100000
set_option maxHeartbeats 4000000
/-! M20: loads drawn -/
namespace G
open PySem PySem.Spec L2 PyProof.Rows
set_option autoImplicit false
end G
set_option Elab.async false
set_option linter.all false
set_option maxRecDepth 100000
set_option maxHeartbeats 4000000
/-! M21: the law's own readings, beats, sums -/
namespace G
open PySem PySem.Spec L2 PyProof.Rows
set_option autoImplicit false
@[simp] theorem gt_tt (t : Tch) (ρ : Slt) (S : Sto) (i j k l : Nat) : gTp 2 (gsCons (gTp 2 (gsCons (gNm i) (gsCons (gNm j) gsNil))) (gsCons (gTp 2 (gsCons (gNm k) (gsCons (gNm l) gsNil))) gsNil)) (.d (tcD t)) ρ S = some ((((ρ.set i (some (.d (.int (t.1.1 : Nat))))).set j (some (.d (.int (t.1.2 : Nat))))).set k (some (.d (.int (t.2.1 : Nat))))).set l (some (.d (.int (t.2.2 : Nat))))) := id rfl
@[simp] theorem ix_f0 (q : Rat) (S : Sto) : gIx (.d (fr q)) (.d (.int 0)) S = some (.d (.int q.num), S) := id rfl
@[simp] theorem ix_f1 (q : Rat) (S : Sto) : gIx (.d (fr q)) (.d (.int 1)) S = some (.d (.int (q.den : Nat)), S) := id rfl
section
variable {D M n k : Nat}
theorem Rmb.sm (hr : Rmb D M n k) {q : Rat} (h : Bd D M q) : Sm n q := h.sm hr.pos hr.here.1 (by
  have h1 := hr.here.2
  have : 1 * M * D ≤ 101 * M * D := Nat.mul_le_mul_right D (Nat.mul_le_mul_right M (by omega))
  rw [Nat.one_mul] at this
  omega)
theorem Rmb.sm2 (hr : Rmb D M n k) {p q : Rat} (h : Bd D M p) (h2 : Bd D M q) : Sm n (p + q) := (h.add h2).sm hr.pos hr.here.1 (by
  have h1 := hr.here.2
  have : (M + M) * D ≤ 101 * M * D := Nat.mul_le_mul_right D (by omega)
  omega)
end
end G
set_option Elab.async false
set_option linter.all false
set_option maxRecDepth 100000
set_option maxHeartbeats 4000000
/-! M22: the law's own beat, squares, what met -/
namespace G
open PySem PySem.Spec L2 PyProof.Rows
set_option autoImplicit false
/-! squares -/
/-- room for squares -/
structure Rmq (D M n : Nat) : Prop where
  pos : 0 < D
  d : 2 * (D * D) < 2 ^ n
  m : 1000 * (M * M) * (2 * (D * D)) < 2 ^ n
  n : n ≤ 3000
theorem Rmq.sm {D M n : Nat} (h : Rmq D M n) {q : Rat} {E N : Nat} (hq : Bd E N q) (h0 : 0 < E) (h1 : E ≤ 2 * (D * D)) (h2 : N ≤ 1000 * (M * M)) : Sm n q :=
  hq.sm h0 (Nat.lt_of_le_of_lt h1 h.d) (Nat.lt_of_le_of_lt (Nat.mul_le_mul h2 h1) h.m)
theorem sq_le (D : Nat) (h : 0 < D) : D ≤ D * D := Nat.le_mul_of_pos_left D h
theorem Rmq.one {D M n : Nat} (h : Rmq D M n) {q : Rat} (hq : Bd D M q) : Sm n q := by
  have h1 := sq_le D h.pos
  rcases Nat.eq_zero_or_pos M with hz | hz
  · exact h.sm hq h.pos (by omega) (by omega)
  · have := sq_le M hz
    exact h.sm hq h.pos (by omega) (by omega)
end G
set_option Elab.async false
set_option linter.all false
set_option maxRecDepth 100000
set_option maxHeartbeats 4000000
/-! M23: what met -/
namespace G
open PySem PySem.Spec L2 PyProof.Rows
set_option autoImplicit false
theorem fr_neg (q : Rat) : fr (-q) = .tuple [.int (0 - q.num), .int (q.den : Nat)] := by
  unfold fr
  rw [Rat.neg_num, Rat.neg_den, Int.zero_sub]
end G
set_option Elab.async false
set_option linter.all false
set_option maxRecDepth 100000
set_option maxHeartbeats 4000000
/-! M24: the plain laws of a beat -/
namespace G
open PySem PySem.Spec L2 PyProof.Rows
set_option autoImplicit false
/-- a sum over a list -/
def sm {α : Type} (h : α → Rat) : List α → Rat
  | [] => 0
  | x :: l => h x + sm h l
/-! turning -/
/-! sums of loads -/
end G
set_option Elab.async false
set_option linter.all false
set_option maxRecDepth 100000
set_option maxHeartbeats 4000000
/-! M25: equal data, one turn of the law's going -/
namespace G
open PySem PySem.Spec L2 PyProof.Rows
set_option autoImplicit false
/-- data of numbers and rows, so deep at most -/
structure Pl (n : Nat) (d : PyData) : Prop where
  lay : d.canLay0 = true
  dep : d.depth ≤ n
  ref : PyData.eqv d d = true
theorem pl_int (i : Int) : Pl 0 (.int i) := ⟨rfl, Nat.le_refl 0, by simp [PyData.eqv]⟩
theorem pl_all {n : Nat} : ∀ {l : List PyData}, (∀ x ∈ l, Pl n x) → PyData.canLayAll0 l = true ∧ PyData.depthAll l ≤ n ∧ PyData.eqvAll l l = true
  | [], _ => ⟨rfl, Nat.zero_le _, rfl⟩
  | x :: l, h => by
    obtain ⟨h1, h2, h3⟩ := pl_all fun y hy => h y (List.mem_cons_of_mem _ hy)
    have hx := h x (by simp)
    refine ⟨?_, ?_, ?_⟩
    · simp only [PyData.canLayAll0, hx.lay, h1, Bool.and_self]
    · simp only [PyData.depthAll]; have := hx.dep; omega
    · simp only [PyData.eqvAll, hx.ref, h3, Bool.and_self]
theorem pl_tup {n : Nat} {l : List PyData} (h : ∀ x ∈ l, Pl n x) : Pl (n + 1) (.tuple l) := by
  obtain ⟨h1, h2, h3⟩ := pl_all h
  exact ⟨by simp only [PyData.canLay0, h1], by simp only [PyData.depth]; omega, by simp only [PyData.eqv, h3]⟩
theorem pl_lst {n : Nat} {l : List PyData} (h : ∀ x ∈ l, Pl n x) : Pl (n + 1) (.list l) := by
  obtain ⟨h1, h2, h3⟩ := pl_all h
  exact ⟨by simp only [PyData.canLay0, h1], by simp only [PyData.depth]; omega, by simp only [PyData.eqv, h3]⟩
theorem Pl.shp {n : Nat} {d : PyData} (h : Pl n d) (hn : n ≤ 64) : SeqAt.shaped d = true := by
  unfold SeqAt.shaped
  rw [h.lay, Bool.true_and, decide_eq_true_eq]
  have := h.dep
  omega
theorem pl_fr (q : Rat) : Pl 1 (fr q) := pl_tup fun x hx => by
  simp only [List.mem_cons, List.not_mem_nil, or_false] at hx
  rcases hx with rfl | rfl <;> exact pl_int _
theorem ne_lists {n : Nat} {l : List PyData} {S : Sto} {a b : Nat} (ha : S[a]? = some (.lst (l.map W.d))) (hb : S[b]? = some (.lst (l.map W.d))) (h : ∀ x ∈ l, Pl n x) (hn : n + 1 ≤ 64) : dEq true (.o a) (.o b) S = some (.d (.bool false), S) := by
  have hl := pl_lst h
  unfold dEq
  rw [view_o ha, view_o hb]
  simp only []
  rw [if_pos (by rw [hl.shp hn]; rfl), hl.ref]
  rfl
@[simp] theorem ev_neg1 (ρ : Slt) (S : Sto) : fNeg (fC (.d (.int 1))) ρ S = .ok (.d (.int (-1))) S := rfl
theorem Rmq.mono {D E M n : Nat} (h : Rmq E M n) (h0 : 0 < D) (hd : D ≤ E) : Rmq D M n := by
  have h1 : D * D ≤ E * E := Nat.mul_le_mul hd hd
  exact ⟨h0, Nat.lt_of_le_of_lt (Nat.mul_le_mul_left 2 h1) h.d, Nat.lt_of_le_of_lt (Nat.mul_le_mul_left _ (Nat.mul_le_mul_left 2 h1)) h.m, h.n⟩
theorem Rmq.l {D M n : Nat} (h : Rmq D M n) : D * D < 2 ^ n ∧ 101 * (M * M) * (D * D) < 2 ^ n := by
  have h1 := h.d
  have h2 : 101 * (M * M) * (D * D) ≤ 1000 * (M * M) * (2 * (D * D)) := Nat.mul_le_mul (Nat.mul_le_mul_right _ (by omega)) (by omega)
  exact ⟨by omega, Nat.lt_of_le_of_lt h2 h.m⟩
end G
set_option Elab.async false
set_option linter.all false
set_option maxRecDepth 100000
set_option maxHeartbeats 4000000
/-! T1: wheels that hang together, in plain Lean -/
namespace G
open PySem PySem.Spec L2 PyProof.Rows
set_option autoImplicit false
inductive Con (ts : List Tch) : Nat → Nat → Prop
  | refl (a : Nat) : Con ts a a
  | one {a : Nat} (t : Tch) (h : t ∈ ts) : Con ts a t.1.1 → Con ts a t.2.1
  | two {a : Nat} (t : Tch) (h : t ∈ ts) : Con ts a t.2.1 → Con ts a t.1.1
section
variable {ts us : List Tch} {a b c n : Nat}
theorem Con.trans (h : Con ts a b) (h2 : Con ts b c) : Con ts a c := by
  induction h2 with
  | refl => exact h
  | one t ht _ ih => exact .one t ht ih
  | two t ht _ ih => exact .two t ht ih
theorem Con.symm (h : Con ts a b) : Con ts b a := by
  induction h with
  | refl => exact .refl _
  | one t ht _ ih => exact Con.trans (.two t ht (.refl _)) ih
  | two t ht _ ih => exact Con.trans (.one t ht (.refl _)) ih
theorem Con.mono (s : ∀ t ∈ ts, t ∈ us) (h : Con ts a b) : Con us a b := by
  induction h with
  | refl => exact .refl _
  | one t ht _ ih => exact .one t (s t ht) ih
  | two t ht _ ih => exact .two t (s t ht) ih
def lv (l : List Nat) (w : Nat) : Nat := l.getD w 0
/-- of each wheel the least one that it hangs together with -/
structure Lst (n : Nat) (ts : List Tch) (l : List Nat) : Prop where
  len : l.length = n
  le : ∀ w, w < n → lv l w ≤ w
  con : ∀ w, w < n → Con ts w (lv l w)
  eq : ∀ t ∈ ts, lv l t.1.1 = lv l t.2.1
theorem Lst.same {l : List Nat} (h : Lst n ts l) (c : Con ts a b) : lv l a = lv l b := by
  induction c with
  | refl => rfl
  | one t ht _ ih => rw [ih, h.eq t ht]
  | two t ht _ ih => rw [ih, h.eq t ht]
theorem Lst.lt {l : List Nat} (h : Lst n ts l) {w : Nat} (hw : w < n) : lv l w < n := Nat.lt_of_le_of_lt (h.le w hw) hw
theorem lv_ext {l l' : List Nat} (hl : l.length = n) (hl' : l'.length = n) (h : ∀ w, w < n → lv l w = lv l' w) : l = l' := by
  apply List.ext_getElem (by rw [hl, hl'])
  intro i h1 h2
  have := h i (by omega)
  unfold lv at this
  rw [List.getD_eq_getElem?_getD, List.getD_eq_getElem?_getD, List.getElem?_eq_getElem h1, List.getElem?_eq_getElem h2] at this
  exact this
theorem Lst.low {l : List Nat} (h : Lst n ts l) {w v : Nat} (hv : v < n) (c : Con ts w v) : lv l w ≤ v := by
  rw [h.same c]
  exact h.le v hv
theorem Lst.uniq {l l' : List Nat} (h : Lst n ts l) (h' : Lst n ts l') : l = l' := lv_ext h.len h'.len fun w hw =>
  Nat.le_antisymm (h.low (h'.lt hw) (h'.con w hw)) (h'.low (h.lt hw) (h.con w hw))
/-- a touch joins two -/
def joinF (l : List Nat) (t : Tch) : List Nat := l.map fun x => if x = max (lv l t.1.1) (lv l t.2.1) then min (lv l t.1.1) (lv l t.2.1) else x
/-- by the program -/
def lowsP (n : Nat) (ts : List Tch) : List Nat := ts.foldl joinF (List.range n)
/-! by the law's own sweeps -/
def lowerF (l : List Nat) (t : Tch) : List Nat := (l.set t.1.1 (min (lv l t.1.1) (lv l t.2.1))).set t.2.1 (min (lv l t.1.1) (lv l t.2.1))
def sweep (ts : List Tch) (l : List Nat) : List Nat := ts.foldl lowerF l
theorem lv_set {l : List Nat} {i x w : Nat} (hi : i < l.length) : lv (l.set i x) w = if i = w then x else lv l w := by
  unfold lv
  rw [List.getD_eq_getElem?_getD, List.getD_eq_getElem?_getD]
  by_cases h : i = w
  · subst h
    rw [List.getElem?_set_self hi, if_pos rfl]
    rfl
  · rw [List.getElem?_set_ne h, if_neg h]
theorem lower_at {l : List Nat} {t : Tch} (h1 : t.1.1 < l.length) (h2 : t.2.1 < l.length) (w : Nat) : lv (lowerF l t) w = if w = t.1.1 ∨ w = t.2.1 then min (lv l t.1.1) (lv l t.2.1) else lv l w := by
  unfold lowerF
  rw [lv_set (by simpa using h2), lv_set h1]
  by_cases e2 : t.2.1 = w
  · rw [if_pos e2, if_pos (.inr e2.symm)]
  · rw [if_neg e2]
    by_cases e1 : t.1.1 = w
    · rw [if_pos e1, if_pos (.inl e1.symm)]
    · rw [if_neg e1, if_neg (by rintro (h | h); exact e1 h.symm; exact e2 h.symm)]
/-- what holds all along: at least the least, got less -/
structure Mid (n : Nat) (ts : List Tch) (m l : List Nat) : Prop where
  len : l.length = n
  lo : ∀ w, w < n → lv m w ≤ lv l w
  le : ∀ w, w < n → lv l w ≤ w
theorem Mid.step {m l : List Nat} (hm : Lst n ts m) (h : Mid n ts m l) {t : Tch} (ht : t ∈ ts) (h1 : t.1.1 < n) (h2 : t.2.1 < n) : Mid n ts m (lowerF l t) ∧ ∀ w, lv (lowerF l t) w ≤ lv l w := by
  have e := fun w => lower_at (l := l) (t := t) (by rw [h.len]; exact h1) (by rw [h.len]; exact h2) w
  have eq := hm.eq t ht
  have l1 := h.lo _ h1
  have l2 := h.lo _ h2
  have g1 := h.le _ h1
  have g2 := h.le _ h2
  refine ⟨⟨by unfold lowerF; simp [h.len], fun w hw => ?_, fun w hw => ?_⟩, fun w => ?_⟩
  · rw [e]
    split
    · rename_i hc
      rcases hc with rfl | rfl <;> omega
    · exact h.lo w hw
  · rw [e]
    split
    · rename_i hc
      rcases hc with rfl | rfl <;> omega
    · exact h.le w hw
  · rw [e]
    split
    · rename_i hc
      rcases hc with rfl | rfl <;> omega
    · exact Nat.le_refl _
def sweeps (ts : List Tch) : Nat → List Nat → List Nat
  | 0, l => l
  | k + 1, l => sweeps ts k (sweep ts l)
/-! lots -/
end
end G
set_option Elab.async false
set_option linter.all false
set_option maxRecDepth 100000
set_option maxHeartbeats 4000000
/-! T2: shifts of a lot, in plain Lean -/
namespace G
open PySem PySem.Spec L2 PyProof.Rows
set_option autoImplicit false
abbrev Sh := List (Nat × Int)
def look : Sh → Nat → Option Int
  | [], _ => none
  | (k, v) :: r, w => if k = w then some v else look r w
def lk (F : Sh) (w : Nat) : Int := (look F w).getD 0
def keys (F : Sh) : List Nat := F.map (·.1)
theorem look_app : ∀ (F G : Sh) (w : Nat), look (F ++ G) w = match look F w with | some v => some v | none => look G w
  | [], G, w => rfl
  | (k, v) :: r, G, w => by
    show (if k = w then some v else look (r ++ G) w) = match (if k = w then some v else look r w) with | some v => some v | none => look G w
    by_cases h : k = w
    · simp [h]
    · simp only [h, if_false]
      exact look_app r G w
theorem look_mem : ∀ {F : Sh} {w : Nat}, (look F w).isSome = true ↔ w ∈ keys F
  | [], w => by simp [look, keys]
  | (k, v) :: r, w => by
    show (if k = w then some v else look r w).isSome = true ↔ w ∈ k :: keys r
    by_cases h : k = w
    · simp [h]
    · simp only [h, if_false, List.mem_cons]
      rw [look_mem (F := r)]
      exact ⟨.inr, fun q => q.resolve_left fun z => h z.symm⟩
theorem look_none {F : Sh} {w : Nat} : look F w = none ↔ w ∉ keys F := by
  rw [← look_mem]
  cases look F w <;> simp
theorem look_some {F : Sh} {w : Nat} (h : w ∈ keys F) : look F w = some (lk F w) := by
  have := look_mem.mpr h
  unfold lk
  cases e : look F w with
  | none => rw [e] at this; cases this
  | some v => rfl
theorem keys_app (F G : Sh) : keys (F ++ G) = keys F ++ keys G := by simp [keys]
theorem lk_app {F G : Sh} {w : Nat} (h : w ∈ keys F) : lk (F ++ G) w = lk F w := by
  unfold lk
  rw [look_app, look_some h]
theorem nodup_le : ∀ {l m : List Nat}, l.Nodup → (∀ x ∈ l, x ∈ m) → l.length ≤ m.length
  | [], m, _, _ => Nat.zero_le _
  | x :: l, m, h, s => by
    have h' := List.nodup_cons.mp h
    have hx := s x (by simp)
    have := nodup_le (l := l) (m := m.erase x) h'.2 fun y hy => by
      have hne : y ≠ x := fun e => h'.1 (e ▸ hy)
      exact (List.mem_erase_of_ne hne).mpr (s y (by simp [hy]))
    rw [List.length_erase_of_mem hx] at this
    have : 0 < m.length := List.length_pos_of_mem hx
    rw [List.length_cons]
    omega
/-! ### by the program -/
def put1 (F : Sh) (a b : Spot) : Sh := if a.1 ∈ keys F ∧ b.1 ∉ keys F then F ++ [(b.1, lk F a.1 + (a.2 : Nat) - (b.2 : Nat))] else F
def putT (F : Sh) (t : Tch) : Sh := put1 (put1 F t.1 t.2) t.2 t.1
def passF (ts : List Tch) (F : Sh) : Sh := ts.foldl putT F
/-- shifts by which all touches of a lot are alike -/
def Kap (ts : List Tch) (r : Nat) (p : Int) (κ : Nat → Int) : Prop := ∀ t ∈ ts, Con ts r t.1.1 → p ∣ κ t.1.1 + (t.1.2 : Nat) - κ t.2.1 - (t.2.2 : Nat)
structure Tr (ts : List Tch) (r : Nat) (F : Sh) : Prop where
  nd : (keys F).Nodup
  root : look F r = some 0
  con : ∀ w ∈ keys F, Con ts r w
  sh : ∀ (κ : Nat → Int) (p : Int), Kap ts r p κ → ∀ w ∈ keys F, p ∣ κ w - κ r - lk F w
section
variable {ts us : List Tch} {r : Nat} {F : Sh}
theorem tr_root (ts : List Tch) (r : Nat) : Tr ts r [(r, 0)] := by
  have e : look [(r, (0 : Int))] r = some 0 := by simp [look]
  refine ⟨by simp [keys], e, fun w hw => ?_, fun κ p _ w hw => ?_⟩
  · simp [keys] at hw; subst hw; exact .refl _
  · simp [keys] at hw; subst hw
    unfold lk
    rw [e]
    simp
/-- two spots of a touch, either ahead -/
def Ends (ts : List Tch) (a b : Spot) : Prop := (a, b) ∈ ts ∨ (b, a) ∈ ts
theorem Ends.con {a b : Spot} (h : Ends ts a b) : Con ts a.1 b.1 := by
  rcases h with h | h
  · exact .one (a, b) h (.refl _)
  · exact .two (b, a) h (.refl _)
theorem Kap.ends {p : Int} {κ : Nat → Int} (k : Kap ts r p κ) {a b : Spot} (h : Ends ts a b) (c : Con ts r a.1) : p ∣ κ a.1 + (a.2 : Nat) - κ b.1 - (b.2 : Nat) := by
  rcases h with q | q
  · exact k _ q c
  · have := k _ q (c.trans (Ends.con (.inr q)))
    have e : κ a.1 + (a.2 : Nat) - κ b.1 - (b.2 : Nat) = -(κ b.1 + (b.2 : Nat) - κ a.1 - (a.2 : Nat)) := by omega
    rw [e]
    exact Int.dvd_neg.mpr this
theorem Tr.put (h : Tr ts r F) {a b : Spot} (e : Ends ts a b) : Tr ts r (put1 F a b) := by
  unfold put1
  split
  · rename_i hc
    obtain ⟨ha, hb⟩ := hc
    have ca := h.con _ ha
    refine ⟨?_, ?_, fun w hw => ?_, fun κ p k w hw => ?_⟩
    · rw [keys_app, List.nodup_append]
      exact ⟨h.nd, by simp [keys], fun x hx y hy => by simp [keys] at hy; subst hy; exact fun z => hb (z ▸ hx)⟩
    · rw [look_app, h.root]
    · rw [keys_app] at hw
      rcases List.mem_append.mp hw with hw | hw
      · exact h.con w hw
      · simp [keys] at hw; subst hw
        exact ca.trans e.con
    · rw [keys_app] at hw
      rcases List.mem_append.mp hw with hw | hw
      · rw [lk_app hw]
        exact h.sh κ p k w hw
      · simp [keys] at hw; subst hw
        have e1 : lk (F ++ [(b.1, lk F a.1 + (a.2 : Nat) - (b.2 : Nat))]) b.1 = lk F a.1 + (a.2 : Nat) - (b.2 : Nat) := by
          conv => lhs; unfold lk
          rw [look_app, look_none.mpr hb]
          simp [look]
          rfl
        rw [e1]
        have d1 := h.sh κ p k a.1 ha
        have d2 := k.ends e ca
        have : κ b.1 - κ r - (lk F a.1 + (a.2 : Nat) - (b.2 : Nat)) = (κ a.1 - κ r - lk F a.1) - (κ a.1 + (a.2 : Nat) - κ b.1 - (b.2 : Nat)) := by omega
        rw [this]
        exact Int.dvd_sub d1 d2
  · exact h
theorem Tr.putT (h : Tr ts r F) {t : Tch} (ht : t ∈ ts) : Tr ts r (G.putT F t) := (h.put (.inl ht)).put (.inr ht)
theorem Tr.pass : ∀ {us : List Tch} {F : Sh}, Tr ts r F → (∀ t ∈ us, t ∈ ts) → Tr ts r (us.foldl G.putT F)
  | [], _, h, _ => h
  | t :: us, _, h, s => Tr.pass (us := us) (h.putT (s t (by simp))) fun u hu => s u (by simp [hu])
theorem put1_sub (F : Sh) (a b : Spot) : (∀ w ∈ keys F, w ∈ keys (put1 F a b)) ∧ F.length ≤ (put1 F a b).length := by
  unfold put1
  split
  · exact ⟨fun w hw => by rw [keys_app]; simp [hw], by simp⟩
  · exact ⟨fun w hw => hw, Nat.le_refl _⟩
theorem putT_sub (F : Sh) (t : Tch) : (∀ w ∈ keys F, w ∈ keys (G.putT F t)) ∧ F.length ≤ (G.putT F t).length := by
  obtain ⟨a1, a2⟩ := put1_sub F t.1 t.2
  obtain ⟨b1, b2⟩ := put1_sub (put1 F t.1 t.2) t.2 t.1
  exact ⟨fun w hw => b1 w (a1 w hw), Nat.le_trans a2 b2⟩
theorem pass_sub : ∀ (us : List Tch) (F : Sh), (∀ w ∈ keys F, w ∈ keys (us.foldl G.putT F)) ∧ F.length ≤ (us.foldl G.putT F).length
  | [], F => ⟨fun w h => h, Nat.le_refl _⟩
  | t :: us, F => by
    obtain ⟨a1, a2⟩ := putT_sub F t
    obtain ⟨b1, b2⟩ := pass_sub us (G.putT F t)
    exact ⟨fun w hw => b1 w (a1 w hw), Nat.le_trans a2 b2⟩
/-- a pass that can grow grows -/
theorem pass_grows : ∀ {us : List Tch} {F : Sh} {t : Tch}, t ∈ us → ¬ (t.1.1 ∈ keys F ↔ t.2.1 ∈ keys F) → F.length < (us.foldl G.putT F).length
  | u :: us, F, t, ht, hn => by
    obtain ⟨b1, b2⟩ := pass_sub us (G.putT F u)
    obtain ⟨a1, a2⟩ := putT_sub F u
    by_cases hl : F.length < (G.putT F u).length
    · exact Nat.lt_of_lt_of_le hl b2
    have same : G.putT F u = F := by
      unfold G.putT at hl ⊢
      have q1 := (put1_sub F u.1 u.2).2
      have q2 := (put1_sub (put1 F u.1 u.2) u.2 u.1).2
      have e1 : put1 F u.1 u.2 = F := by
        unfold put1 at q1 q2 hl ⊢
        split
        · rename_i hc
          exfalso
          rw [if_pos hc] at q2 hl
          simp at q2 hl
          omega
        · rfl
      rw [e1] at hl ⊢
      unfold put1 at hl ⊢
      split
      · rename_i hc
        rw [if_pos hc] at hl
        simp at hl
      · rfl
    rcases List.mem_cons.mp ht with e | ht
    · subst e
      exfalso
      apply hn
      unfold G.putT at same
      have q1 := (put1_sub F t.1 t.2).2
      have q2 := (put1_sub (put1 F t.1 t.2) t.2 t.1).2
      have k1 : ¬ (t.1.1 ∈ keys F ∧ t.2.1 ∉ keys F) := fun hc => by
        have : (put1 F t.1 t.2).length = F.length + 1 := by unfold put1; rw [if_pos hc]; simp
        have := congrArg List.length same
        omega
      have e1 : put1 F t.1 t.2 = F := by unfold put1; rw [if_neg k1]
      rw [e1] at same
      have k2 : ¬ (t.2.1 ∈ keys F ∧ t.1.1 ∉ keys F) := fun hc => by
        have : (put1 F t.2 t.1).length = F.length + 1 := by unfold put1; rw [if_pos hc]; simp
        have := congrArg List.length same
        omega
      exact ⟨fun x => Classical.not_not.mp fun y => k1 ⟨x, y⟩, fun x => Classical.not_not.mp fun y => k2 ⟨x, y⟩⟩
    · show F.length < (us.foldl G.putT (G.putT F u)).length
      rw [same]
      exact pass_grows ht hn
/-- the wheels of a lot -/
structure Lot (n : Nat) (ts : List Tch) (r : Nat) (L : List Nat) : Prop where
  hd : L.head? = some r
  nd : L.Nodup
  mem : ∀ w, w ∈ L ↔ w < n ∧ Con ts r w
theorem Lot.root {n : Nat} {L : List Nat} (h : Lot n ts r L) : r < n := by
  have : r ∈ L := List.mem_of_head? h.hd
  exact ((h.mem r).mp this).1
theorem con_lt {n : Nat} (hts : ∀ t ∈ ts, t.1.1 < n ∧ t.2.1 < n) (hr : r < n) {w : Nat} (c : Con ts r w) : w < n := by
  induction c with
  | refl => exact hr
  | one t ht _ _ => exact (hts t ht).2
  | two t ht _ _ => exact (hts t ht).1
theorem closed_all (hr : r ∈ keys F) (hall : ∀ t ∈ ts, (t.1.1 ∈ keys F ↔ t.2.1 ∈ keys F)) : ∀ w, Con ts r w → w ∈ keys F := fun w c => by
  induction c with
  | refl => exact hr
  | one t ht _ ih => exact (hall t ht).mp ih
  | two t ht _ ih => exact (hall t ht).mpr ih
theorem Tr.mem_root (h : Tr ts r F) : r ∈ keys F := look_mem.mp (by rw [h.root]; rfl)
theorem Tr.grow {n : Nat} {L : List Nat} (h : Tr ts r F) (hL : Lot n ts r L) (hl : F.length < L.length) : F.length < (passF ts F).length := by
  apply Classical.byContradiction
  intro hn
  have hall : ∀ t ∈ ts, (t.1.1 ∈ keys F ↔ t.2.1 ∈ keys F) := fun t ht => Classical.not_not.mp fun z => hn (pass_grows ht z)
  have := nodup_le hL.nd (m := keys F) fun w hw => closed_all h.mem_root hall w ((hL.mem w).mp hw).2
  rw [show (keys F).length = F.length by simp [keys]] at this
  omega
theorem Tr.le {n : Nat} {L : List Nat} (h : Tr ts r F) (hL : Lot n ts r L) (hts : ∀ t ∈ ts, t.1.1 < n ∧ t.2.1 < n) : F.length ≤ L.length := by
  have := nodup_le h.nd (m := L) fun w hw => (hL.mem w).mpr ⟨con_lt hts hL.root (h.con w hw), h.con w hw⟩
  rwa [show (keys F).length = F.length by simp [keys]] at this
/-- all passes -/
def growF (ts : List Tch) (N : Nat) : Nat → Sh → Sh
  | 0, F => F
  | k + 1, F => if F.length < N then growF ts N k (passF ts F) else F
theorem grow_ok {n : Nat} {L : List Nat} (hL : Lot n ts r L) (hts : ∀ t ∈ ts, t.1.1 < n ∧ t.2.1 < n) : ∀ (k : Nat) (F : Sh), Tr ts r F → L.length ≤ F.length + k → Tr ts r (growF ts L.length k F) ∧ (growF ts L.length k F).length = L.length
  | 0, F, h, hk => ⟨h, Nat.le_antisymm (h.le hL hts) (by show L.length ≤ F.length; omega)⟩
  | k + 1, F, h, hk => by
    unfold growF
    split
    · rename_i hl
      have := h.grow hL hl
      exact grow_ok hL hts k _ (h.pass fun t ht => ht) (by omega)
    · exact ⟨h, Nat.le_antisymm (h.le hL hts) (by omega)⟩
end
def shF (ts : List Tch) (r N : Nat) : Sh := growF ts N N [(r, 0)]
theorem sh_ok {ts : List Tch} {r n : Nat} {L : List Nat} (hL : Lot n ts r L) (hts : ∀ t ∈ ts, t.1.1 < n ∧ t.2.1 < n) : Tr ts r (shF ts r L.length) ∧ (shF ts r L.length).length = L.length := grow_ok hL hts _ _ (tr_root ts r) (by omega)
/-! ### the greatest number -/
def leftF (F : Sh) (t : Tch) : Int := lk F t.1.1 + (t.1.2 : Nat) - lk F t.2.1 - (t.2.2 : Nat)
def gcdL (g : Nat) (l : List Int) : Nat := l.foldl (fun a x => Int.gcd a x) g
section
variable {cs : List Nat} {ts : List Tch} {r : Nat} {L : List Nat}
def gOf (cs : List Nat) (ts : List Tch) (L : List Nat) (F : Sh) : Nat := gcdL (gcdL 0 (L.map fun w => ((cs.getD w 0 : Nat) : Int))) ((ts.filter fun t => decide (t.1.1 ∈ keys F)).map (leftF F))
/-- p divides all counts of the lot and has shifts -/
def Fits (cs : List Nat) (ts : List Tch) (r : Nat) (p : Nat) : Prop := (∀ w, w < cs.length → Con ts r w → p ∣ cs.getD w 0) ∧ ∃ κ, Kap ts r p κ
end
end G
set_option Elab.async false
set_option linter.all false
set_option maxRecDepth 100000
set_option maxHeartbeats 4000000
/-! T3: the law's own way from wheel to wheel, in plain Lean -/
namespace G
open PySem PySem.Spec L2 PyProof.Rows
set_option autoImplicit false
abbrev Fd := Sh × List Nat
def dueF (p : Int) (F : Sh) (a b : Spot) : Int := (lk F a.1 + (a.2 : Nat) - (b.2 : Nat)) % p
section
variable {p : Int} {ts : List Tch} {r : Nat}
structure Ds (p : Int) (ts : List Tch) (r : Nat) (s : Fd) : Prop where
  nd : (keys s.1).Nodup
  root : look s.1 r = some 0
  con : ∀ w ∈ keys s.1, Con ts r w
  tk : ∀ w ∈ s.2, w ∈ keys s.1
  rng : ∀ w ∈ keys s.1, 0 ≤ lk s.1 w ∧ lk s.1 w < p
/-- grown from -/
structure Gw (s s' : Fd) : Prop where
  sub : ∀ w ∈ keys s.1, w ∈ keys s'.1
  lk : ∀ w ∈ keys s.1, lk s'.1 w = lk s.1 w
  todo : ∀ w ∈ s.2, w ∈ s'.2
  new : ∀ w ∈ keys s'.1, w ∈ keys s.1 ∨ w ∈ s'.2
  bal : s'.2.length + s.1.length = s.2.length + s'.1.length
theorem Gw.refl (s : Fd) : Gw s s := ⟨fun _ h => h, fun _ _ => rfl, fun _ h => h, fun _ h => .inl h, rfl⟩
theorem Gw.trans {a b c : Fd} (h : Gw a b) (k : Gw b c) : Gw a c :=
  ⟨fun w q => k.sub w (h.sub w q), fun w q => (k.lk w (h.sub w q)).trans (h.lk w q), fun w q => k.todo w (h.todo w q), fun w q => by
    rcases k.new w q with q | q
    · rcases h.new w q with q | q
      · exact .inl q
      · exact .inr (k.todo w q)
    · exact .inr q, by have := h.bal; have := k.bal; omega⟩
def Sat (p : Int) (F : Sh) (q : Spot × Spot) : Prop := q.2.1 ∈ keys F ∧ lk F q.2.1 = dueF p F q.1 q.2
theorem Sat.grow {s s' : Fd} (g : Gw s s') {q : Spot × Spot} (ha : q.1.1 ∈ keys s.1) (h : Sat p s.1 q) : Sat p s'.1 q := by
  refine ⟨g.sub _ h.1, ?_⟩
  rw [g.lk _ h.1, h.2]
  unfold dueF
  rw [g.lk _ ha]
end
end G
set_option Elab.async false
set_option linter.all false
set_option maxRecDepth 100000
set_option maxHeartbeats 4000000
/-! T4: tools of runs: what stays below, lists open or frozen, comprehensions -/
namespace G
open PySem PySem.Spec L2 PyProof.Rows
set_option autoImplicit false
/-- all below b stays -/
structure Fr (b : Nat) (S S' : Sto) : Prop where
  le : S.length ≤ S'.length
  at_ : ∀ i, i < b → S'[i]? = S[i]?
theorem Fr.refl (b : Nat) (S : Sto) : Fr b S S := ⟨Nat.le_refl _, fun _ _ => rfl⟩
theorem Fr.trans {b : Nat} {S S1 S2 : Sto} (h : Fr b S S1) (k : Fr b S1 S2) : Fr b S S2 := ⟨Nat.le_trans h.le k.le, fun i hi => (k.at_ i hi).trans (h.at_ i hi)⟩
theorem Fr.set {b n : Nat} {S S' : Sto} (h : Fr b S S') (hn : b ≤ n) (c : Cell) : Fr b S (S'.set n c) := ⟨by rw [List.length_set]; exact h.le, fun i hi => by rw [List.getElem?_set_ne (by omega)]; exact h.at_ i hi⟩
theorem Fr.app {b : Nat} {S S' : Sto} (h : Fr b S S') (hb : b ≤ S.length) (T : Sto) : Fr b S (S' ++ T) := ⟨by have := h.le; simp; omega, fun i hi => by rw [List.getElem?_append_left (by have := h.le; omega)]; exact h.at_ i hi⟩
theorem Fr.weak {b c : Nat} {S S' : Sto} (h : Fr b S S') (l : c ≤ b) : Fr c S S' := ⟨h.le, fun i hi => h.at_ i (by omega)⟩
theorem Fr.ext {S S' : Sto} (h : Fr S.length S S') : ∃ T, S' = S ++ T := by
  refine ⟨S'.drop S.length, ?_⟩
  apply List.ext_getElem?
  intro i
  by_cases hi : i < S.length
  · rw [List.getElem?_append_left hi, h.at_ i hi]
  · rw [List.getElem?_append_right (by omega), List.getElem?_drop]
    congr 1
    omega
theorem Fr.of {S S' : Sto} (b : Nat) (hb : b ≤ S.length) (x : ∃ T, S' = S ++ T) : Fr b S S' := by
  obtain ⟨T, rfl⟩ := x
  exact (Fr.refl b S).app hb T
theorem Pu.op {α : Type} {r : Out α} {S : Sto} {x : α} (h : Pu r S x) : ∃ S', r = .ok x S' ∧ ∃ T, S' = S ++ T := by
  obtain ⟨T, e⟩ := h
  exact ⟨_, e, T, rfl⟩
/-- a list of data, open or frozen -/
def Rd (V : Sto) (a : Nat) (ds : List PyData) : Prop := V[a]? = some (.lst (ds.map W.d)) ∨ V[a]? = some (.fz (.list ds))
theorem Rd.lt {V : Sto} {a : Nat} {ds : List PyData} (h : Rd V a ds) : a < V.length := by
  rcases h with h | h <;> exact (List.getElem?_eq_some_iff.mp h).1
theorem Rd.keep {V V' : Sto} {a : Nat} {ds : List PyData} (h : Rd V a ds) (e : V'[a]? = V[a]?) : Rd V' a ds := by
  unfold Rd
  rw [e]
  exact h
theorem Rd.set {V : Sto} {a n : Nat} {ds : List PyData} (h : Rd V a ds) (hn : n ≠ a) (c : Cell) : Rd (V.set n c) a ds := h.keep (List.getElem?_set_ne hn)
theorem Rd.app {V : Sto} {a : Nat} {ds : List PyData} (h : Rd V a ds) (T : Sto) : Rd (V ++ T) a ds := h.keep (List.getElem?_append_left h.lt)
theorem Rd.items {V : Sto} {a : Nat} {ds : List PyData} (h : Rd V a ds) : itemsOf (.o a) V = some (ds, V.set a (.fz (.list ds))) ∧ Rd (V.set a (.fz (.list ds))) a ds := by
  have hl := h.lt
  refine ⟨?_, .inr (List.getElem?_set_self hl)⟩
  unfold itemsOf
  rcases h with h | h
  · have : frz 6 (.o a) V = some (.list ds, V.set a (.fz (.list ds))) := by
      unfold frz
      simp only [h, frzL_ds]
    rw [this]
  · have e : V.set a (.fz (.list ds)) = V := by
      apply List.ext_getElem?
      intro i
      by_cases hi : a = i
      · subst hi
        rw [List.getElem?_set_self hl, h]
      · rw [List.getElem?_set_ne hi]
    have : frz 6 (.o a) V = some (.list ds, V) := by
      unfold frz
      simp only [h]
    rw [this, e]
theorem Rd.seq {V : Sto} {a : Nat} {ds : List PyData} (h : Rd V a ds) : seqOf (.o a) V = some (ds.map W.d) := by
  unfold seqOf
  rcases h with h | h <;> simp only [h]
theorem Rd.ix {V : Sto} {a i : Nat} {ds : List PyData} {d : PyData} (h : Rd V a ds) (hi : ds[i]? = some d) : gIx (.o a) (.d (.int (i : Nat))) V = some (.d d, V) := by
  unfold gIx
  simp only [h.seq]
  have e : L2.atI (ds.map W.d) (i : Int) = some (W.d d) := atI_nat (by rw [List.getElem?_map, hi]; rfl)
  rw [e]
  rfl
theorem Rd.len {V : Sto} {a : Nat} {ds : List PyData} (h : Rd V a ds) : gLen [.o a] V = some (.d (.int (ds.length : Nat)), V) := by
  unfold gLen
  simp only [h.seq, List.length_map]
theorem Rd.view {V : Sto} {a : Nat} {ds : List PyData} (h : Rd V a ds) : view (.o a) V = some (.list ds) := by
  rcases h with h | h
  · exact view_o h
  · unfold G.view
    have : frz 6 (.o a) V = some (.list ds, V) := by
      unfold frz
      simp only [h]
    rw [this]
    rfl
/-! comprehensions -/
theorem compD_gen {α : Type} {mk : α → PyData} {g : Gt} {t : Fe Bool} {e : Fe W} {n : Nat} {ρ : Slt} {c : α → Bool} {y : α → PyData} {I : Sto → Prop} (hset : ∀ V x, I V → n < V.length → I (V.set n x)) : ∀ (ds : List α) (acc : List PyData) (V : Sto),
    (∀ d ∈ ds, ∃ ρ1, (∀ V, g (.d (mk d)) ρ V = some ρ1) ∧ ∀ V, I V → n < V.length → ∃ V1, t ρ1 V = .ok (c d) V1 ∧ I V1 ∧ V.length ≤ V1.length ∧ V1[n]? = V[n]? ∧ (c d = true → ∃ V2, e ρ1 V1 = .ok (.d (y d)) V2 ∧ I V2 ∧ V1.length ≤ V2.length ∧ V2[n]? = V1[n]?)) →
    acc.length + ds.length ≤ 100000 → I V → V[n]? = some (.lst (acc.map W.d)) →
    ∃ V', compD g t e n (ds.map mk) ρ V = .ok () V' ∧ I V' ∧ V.length ≤ V'.length ∧ V'[n]? = some (.lst ((acc ++ (ds.filter c).map y).map W.d))
  | [], acc, V, h, hz, hI, hn => ⟨V, rfl, hI, Nat.le_refl _, by simpa using hn⟩
  | d :: ds, acc, V, h, hz, hI, hn => by
    obtain ⟨ρ1, h1, h2⟩ := h d (by simp)
    have hlt := (List.getElem?_eq_some_iff.mp hn).1
    obtain ⟨V1, e1, I1, l1, n1, h3⟩ := h2 V hI hlt
    have hr : ∀ d ∈ ds, _ := fun d hd => h d (by simp [hd])
    rw [List.map_cons]
    unfold compD
    rw [h1]
    simp only [e1, bind_ok]
    cases hc : c d with
    | false =>
      obtain ⟨V', e', i', l', n'⟩ := compD_gen hset ds acc V1 hr (by simp at hz ⊢; omega) I1 (by rw [n1]; exact hn)
      refine ⟨V', by simpa using e', i', by omega, ?_⟩
      rw [List.filter_cons, hc]
      simpa using n'
    | true =>
      obtain ⟨V2, e2, I2, l2, n2⟩ := h3 hc
      have k2 : V2[n]? = some (.lst (acc.map W.d)) := by rw [n2, n1]; exact hn
      have hlt2 := (List.getElem?_eq_some_iff.mp k2).1
      obtain ⟨V', e', i', l', n'⟩ := compD_gen hset ds (acc ++ [y d]) (V2.set n (.lst ((acc ++ [y d]).map W.d))) hr (by simp at hz ⊢; omega) (hset _ _ I2 hlt2) (List.getElem?_set_self hlt2)
      refine ⟨V', ?_, i', by rw [List.length_set] at l'; omega, ?_⟩
      · simp only [if_true, e2, bind_ok, k2]
        rw [if_pos (by unfold szOk; simp at hz ⊢; omega)]
        simpa using e'
      · rw [List.filter_cons, hc]
        simpa using n'
theorem lc_gen {α : Type} {mk : α → PyData} {f : Fe (List PyData)} {g : Gt} {t : Fe Bool} {e : Fe W} {vs : List Nat} {ρ : Slt} {S S0 : Sto} {ds : List α} (c : α → Bool) (y : α → PyData) (I : Sto → Prop) (hf : f ρ S = .ok (ds.map mk) S0) (hz : ds.length ≤ 100000)
    (hset : ∀ V x, I V → S0.length < V.length → I (V.set S0.length x)) (h0 : I (S0 ++ [.lst []]))
    (h : ∀ d ∈ ds, ∃ ρ1, (∀ V, g (.d (mk d)) (wipeR ρ vs) V = some ρ1) ∧ ∀ V, I V → S0.length < V.length → ∃ V1, t ρ1 V = .ok (c d) V1 ∧ I V1 ∧ V.length ≤ V1.length ∧ V1[S0.length]? = V[S0.length]? ∧ (c d = true → ∃ V2, e ρ1 V1 = .ok (.d (y d)) V2 ∧ I V2 ∧ V1.length ≤ V2.length ∧ V2[S0.length]? = V1[S0.length]?)) :
    ∃ V', fLc f g t e vs ρ S = .ok (.o S0.length) V' ∧ I V' ∧ S0.length < V'.length ∧ V'[S0.length]? = some (.lst (((ds.filter c).map y).map W.d)) := by
  obtain ⟨V', e1, i1, l1, n1⟩ := compD_gen hset ds [] (S0 ++ [.lst []]) h (by simpa using hz) h0 (by rw [get_len_app]; rfl)
  refine ⟨V', ?_, i1, by simp at l1; omega, by simpa using n1⟩
  unfold fLc
  rw [hf]
  simp only [bind_ok, e1, noX_ok]
theorem lc_yes {α : Type} {mk : α → PyData} {f : Fe (List PyData)} {g : Gt} {e : Fe W} {vs : List Nat} {ρ : Slt} {S S0 : Sto} {ds : List α} (y : α → PyData) (I : Sto → Prop) (hf : f ρ S = .ok (ds.map mk) S0) (hz : ds.length ≤ 100000)
    (hset : ∀ V x, I V → S0.length < V.length → I (V.set S0.length x)) (h0 : I (S0 ++ [.lst []]))
    (h : ∀ d ∈ ds, ∃ ρ1, (∀ V, g (.d (mk d)) (wipeR ρ vs) V = some ρ1) ∧ ∀ V, I V → S0.length < V.length → ∃ V2, e ρ1 V = .ok (.d (y d)) V2 ∧ I V2 ∧ V.length ≤ V2.length ∧ V2[S0.length]? = V[S0.length]?) :
    ∃ V', fLc f g fYes e vs ρ S = .ok (.o S0.length) V' ∧ I V' ∧ S0.length < V'.length ∧ V'[S0.length]? = some (.lst ((ds.map y).map W.d)) := by
  have := lc_gen (fun _ => true) y I hf hz hset h0 (t := fYes) (e := e) (g := g) (vs := vs) (fun d hd => by
    obtain ⟨ρ1, a, b⟩ := h d hd
    refine ⟨ρ1, a, fun V hV hl => ⟨V, rfl, hV, Nat.le_refl _, rfl, fun _ => ?_⟩⟩
    exact b V hV hl)
  rw [List.filter_eq_self.mpr (fun _ _ => rfl)] at this
  exact this
/-! machines, less asked -/
structure Wm (m : Mach) : Prop where
  ne : m.cs ≠ []
  l16 : m.cs.length ≤ 16
  pos : ∀ c ∈ m.cs, 0 < c
  s30 : m.cs.sum ≤ 30
  l9 : m.ts.length ≤ 9
  good : ∀ t ∈ m.ts, okS m.cs t.1 ∧ okS m.cs t.2
theorem okS_lt {cs : List Nat} {s : Spot} (h : okS cs s) : s.1 < cs.length := by
  obtain ⟨c, h1, _⟩ := h
  exact (List.getElem?_eq_some_iff.mp h1).1
theorem Wm.ts_lt {m : Mach} (h : Wm m) : ∀ t ∈ m.ts, t.1.1 < m.cs.length ∧ t.2.1 < m.cs.length := fun t ht => ⟨okS_lt (h.good t ht).1, okS_lt (h.good t ht).2⟩
theorem Wm.n0 {m : Mach} (h : Wm m) : 0 < m.cs.length := List.length_pos_iff.mpr h.ne
def nD (l : List Nat) : List PyData := l.map fun w => .int (w : Nat)
end G
set_option Elab.async false
set_option linter.all false
set_option maxRecDepth 100000
set_option maxHeartbeats 4000000
/-! T5: lots, by the program -/
namespace G
open PySem PySem.Spec L2 PyProof.Rows
set_option autoImplicit false
/-! lots of wheels as data -/
def lowsI (l : List Nat) : List Int := sset (l.map fun w : Nat => (w : Int))
def lotOf (n : Nat) (l : List Nat) (low : Int) : List Nat := (List.range n).filter fun w => decide (((lv l w : Nat) : Int) = low)
def lotsOf (n : Nat) (l : List Nat) : List (List Nat) := (lowsI l).map (lotOf n l)
end G
set_option Elab.async false
set_option linter.all false
set_option maxRecDepth 100000
set_option maxHeartbeats 4000000
/-! T6: own_lots -/
namespace G
open PySem PySem.Spec L2 PyProof.Rows
set_option autoImplicit false
theorem app_at {V : Sto} {F : Nat} {acc : List PyData} (x : PyData) (h : V[F]? = some (.lst (acc.map W.d))) (hl : acc.length ≤ 1000) : gApp (.o F) [.d x] V = some (.d .none, V.set F (.lst ((acc ++ [x]).map W.d))) := by
  unfold gApp
  simp only [h]
  rw [if_pos (by unfold szOk; simp; omega)]
  simp
theorem hpl_at {V : Sto} {F : Nat} {ws : List W} (h : V[F]? = some (.lst ws)) : hpl (.o F) V = some ws := by
  unfold hpl
  simp only [h]
end G
set_option Elab.async false
set_option linter.all false
set_option maxRecDepth 100000
set_option maxHeartbeats 4000000
/-! T7: the law's own lots -/
namespace G
open PySem PySem.Spec L2 PyProof.Rows
set_option autoImplicit false
end G
set_option Elab.async false
set_option linter.all false
set_option maxRecDepth 100000
set_option maxHeartbeats 4000000
/-! T8: whole shifts and the greatest number, by the program -/
namespace G
open PySem PySem.Spec L2 PyProof.Rows
set_option autoImplicit false
def shKv (F : Sh) : List (Key × W) := F.map fun p => (.inl ((p.1 : Nat) : Int), .d (.int p.2))
def shC (F : Sh) : Cell := .dic (shKv F)
@[simp] theorem ev_lenD (f : Fe (List W)) (ρ : Slt) (S : Sto) : fCB gLenD f ρ S = (f ρ S).bind fun xs S1 => ofO (gLenD xs S1) := id rfl
end G
set_option Elab.async false
set_option linter.all false
set_option maxRecDepth 100000
set_option maxHeartbeats 4000000
/-! T9: own_g; the law's own fit -/
namespace G
open PySem PySem.Spec L2 PyProof.Rows
set_option autoImplicit false
/-- the greatest number of a lot -/
def gL (m : Mach) (L : List Nat) : Nat := gOf m.cs m.ts L (shF m.ts (L.headD 0) L.length)
theorem Lot.headD {n r : Nat} {ts : List Tch} {L : List Nat} (h : Lot n ts r L) : L.headD 0 = r := by
  have := h.hd
  cases L with
  | nil => cases this
  | cons a L => cases this; rfl
end G
set_option Elab.async false
set_option linter.all false
set_option maxRecDepth 100000
set_option maxHeartbeats 4000000
/-! T10: the law's own fit -/
namespace G
open PySem PySem.Spec L2 PyProof.Rows
set_option autoImplicit false
/-- the store of a way under way -/
structure Fst (b : Nat) (S : Sto) (k q : Nat) (V : Sto) (s : Fd) : Prop where
  fr : Fr b S V
  hk : V[k]? = some (shC s.1)
  hq : V[q]? = some (.lst ((nD s.2).map W.d))
end G
set_option Elab.async false
set_option linter.all false
set_option maxRecDepth 100000
set_option maxHeartbeats 4000000
/-! T11: the law's own fit, whole; its greatest number -/
namespace G
open PySem PySem.Spec L2 PyProof.Rows
set_option autoImplicit false
section
variable {b k q : Nat} {S : Sto} {p : Int} {here : Nat} {a0 a1 : Option W}
end
end G
set_option Elab.async false
set_option linter.all false
set_option maxRecDepth 100000
set_option maxHeartbeats 4000000
/-! T12: the law's own greatest numbers, and all of a machine -/
namespace G
open PySem PySem.Spec L2 PyProof.Rows
set_option autoImplicit false
end G
set_option Elab.async false
set_option linter.all false
set_option maxRecDepth 100000
set_option maxHeartbeats 4000000
/-! T13: tables by spots (from k11) -/
namespace G
open PySem PySem.Spec L2 PyProof.Rows
set_option autoImplicit false
def spK (s : Spot) : List Int := [(s.1 : Int), (s.2 : Int)]
theorem spK_inj {s t : Spot} (h : spK s = spK t) : s = t := by
  unfold spK at h
  injection h with h1 h2
  injection h2 with h2 _
  exact Prod.ext (by omega) (by omega)
@[simp] theorem keyI_s (s : Spot) : keyI (sD s) = some (spK s) := rfl
def tabL (h : Spot → PyData) (l : List Spot) : List (List Int × W) := l.map fun s => (spK s, .d (h s))
theorem look_in (h : Spot → PyData) {s : Spot} : ∀ {l : List Spot}, s ∈ l → lookD (tabL h l) (spK s) = some (.d (h s))
  | t :: l, hs => by
    show (if spK t = spK s then some (W.d (h t)) else lookD (tabL h l) (spK s)) = _
    by_cases e : t = s
    · subst e
      rw [if_pos rfl]
    · rw [if_neg (fun z => e (spK_inj z))]
      exact look_in h ((List.mem_cons.mp hs).resolve_left (fun z => e z.symm))
theorem look_out (h : Spot → PyData) {s : Spot} : ∀ {l : List Spot}, s ∉ l → lookD (tabL h l) (spK s) = none
  | [], _ => rfl
  | t :: l, hs => by
    show (if spK t = spK s then some (W.d (h t)) else lookD (tabL h l) (spK s)) = _
    simp only [List.mem_cons, not_or] at hs
    rw [if_neg (fun z => hs.1 (spK_inj z).symm)]
    exact look_out h hs.2
theorem keys_tab (h : Spot → PyData) (l : List Spot) : keysX (tabL h l) = l.map sD := by
  unfold keysX tabL
  rw [List.map_map]
  rfl
/-! a table stands -/
def Tab (S : Sto) (n : Nat) (h : Spot → PyData) (l : List Spot) : Prop := dixOf (.o n) S = some (tabL h l)
theorem tab_f {S : Sto} {n : Nat} {h : Spot → PyData} {l : List Spot} (e : S[n]? = some (.fdx (tabL h l))) : Tab S n h l := by
  unfold Tab dixOf
  simp only [e]
theorem Tab.keep {S U : Sto} {n : Nat} {h : Spot → PyData} {l : List Spot} (t : Tab S n h l) (e : U[n]? = S[n]?) : Tab U n h l := by
  unfold Tab dixOf at t ⊢
  simp only [e]
  exact t
theorem Tab.lt {S : Sto} {n : Nat} {h : Spot → PyData} {l : List Spot} (t : Tab S n h l) : n < S.length := by
  unfold Tab dixOf at t
  simp only [] at t
  rcases Nat.lt_or_ge n S.length with z | z
  · exact z
  · rw [List.getElem?_eq_none z] at t
    cases t
theorem Tab.app {S : Sto} {n : Nat} {h : Spot → PyData} {l : List Spot} (t : Tab S n h l) (T : Sto) : Tab (S ++ T) n h l := t.keep (List.getElem?_append_left t.lt)
theorem Tab.get {S : Sto} {n : Nat} {h : Spot → PyData} {l : List Spot} (t : Tab S n h l) {s : Spot} (hs : s ∈ l) : gXget (.o n) (.d (sD s)) S = some (.d (h s), S) := by
  unfold gXget
  unfold Tab at t
  simp only [t, keyI_s, look_in h hs, Option.map_some]
theorem Tab.is {S : Sto} {n : Nat} {h : Spot → PyData} {l : List Spot} (t : Tab S n h l) (s : Spot) : gInX false (.d (sD s)) (.o n) S = some (.d (.bool (decide (s ∈ l))), S) := by
  unfold gInX
  unfold Tab at t
  simp only [t, keyI_s]
  by_cases hs : s ∈ l
  · rw [look_in h hs, decide_eq_true hs]
    rfl
  · rw [look_out h hs, decide_eq_false hs]
    rfl
theorem Tab.keys {S : Sto} {n : Nat} {h : Spot → PyData} {l : List Spot} (t : Tab S n h l) : ∃ U, (∀ (f : Fe W) (ρ : Slt) (S0 : Sto), f ρ S0 = .ok (.o n) S → fKeysX f ρ S0 = .ok (l.map sD) U) ∧ Tab U n h l ∧ U.length = S.length ∧ ∀ i, i ≠ n → U[i]? = S[i]? := by
  unfold Tab dixOf at t
  simp only [] at t
  have hn : n < S.length := by
    rcases Nat.lt_or_ge n S.length with z | z
    · exact z
    · rw [List.getElem?_eq_none z] at t
      cases t
  cases e : S[n]? with
  | none => rw [e] at t; cases t
  | some c =>
    rw [e] at t
    cases c with
    | dix kvs =>
      have ek : kvs = tabL h l := by simpa using t
      subst ek
      refine ⟨S.set n (.fdx (tabL h l)), fun f ρ S0 ef => ?_, tab_f (List.getElem?_set_self hn), by simp, fun i hi => List.getElem?_set_ne (Ne.symm hi)⟩
      unfold fKeysX
      simp only [ef, bind_ok, e, keys_tab]
    | fdx kvs =>
      have ek : kvs = tabL h l := by simpa using t
      subst ek
      refine ⟨S, fun f ρ S0 ef => ?_, tab_f e, rfl, fun i hi => rfl⟩
      unfold fKeysX
      simp only [ef, bind_ok, e, keys_tab]
    | _ => cases t
/-! the touch of each spot -/
end G
set_option Elab.async false
set_option linter.all false
set_option maxRecDepth 100000
set_option maxHeartbeats 4000000
/-! T14: one touch more, in plain Lean -/
namespace G
open PySem PySem.Spec L2 PyProof.Rows
set_option autoImplicit false
section
variable {cs : List Nat} {ts us : List Tch} {r a b : Nat} {p : Nat}
theorem Kap.congr {p : Int} {κ : Nat → Int} (c : Con ts r a) (k : Kap ts r p κ) : Kap ts a p κ := fun t ht h => k t ht (c.trans h)
theorem Fits.congr (c : Con ts r a) : Fits cs ts r p ↔ Fits cs ts a p :=
  ⟨fun h => ⟨fun w hw k => h.1 w hw (c.trans k), let ⟨κ, k⟩ := h.2; ⟨κ, k.congr c⟩⟩, fun h => ⟨fun w hw k => h.1 w hw (c.symm.trans k), let ⟨κ, k⟩ := h.2; ⟨κ, k.congr c.symm⟩⟩⟩
/-- one touch more -/
def OneMore (ts us : List Tch) (t : Tch) : Prop := ∀ u, u ∈ us ↔ u ∈ ts ∨ u = t
variable {t : Tch}
theorem OneMore.sub (h : OneMore ts us t) {x y : Nat} (c : Con ts x y) : Con us x y := c.mono fun u hu => (h u).mpr (.inl hu)
theorem OneMore.edge (h : OneMore ts us t) : Con us t.1.1 t.2.1 := .one t ((h t).mpr (.inr rfl)) (.refl _)
/-- of one lot: nothing new hangs together -/
theorem OneMore.same (h : OneMore ts us t) (c : Con ts t.1.1 t.2.1) {x y : Nat} : Con us x y ↔ Con ts x y := by
  refine ⟨fun k => ?_, h.sub⟩
  induction k with
  | refl => exact .refl _
  | one u hu _ ih =>
    rcases (h u).mp hu with hu | rfl
    · exact .one u hu ih
    · exact ih.trans c
  | two u hu _ ih =>
    rcases (h u).mp hu with hu | rfl
    · exact .two u hu ih
    · exact ih.trans c.symm
/-- of two lots: they are one -/
theorem OneMore.two (h : OneMore ts us t) {x : Nat} : Con us t.1.1 x ↔ Con ts t.1.1 x ∨ Con ts t.2.1 x := by
  constructor
  · intro k
    generalize hz : t.1.1 = z at k
    induction k with
    | refl => subst hz; exact .inl (.refl _)
    | one u hu _ ih =>
      rcases (h u).mp hu with hu | rfl
      · rcases ih with k | k
        · exact .inl (.one u hu k)
        · exact .inr (.one u hu k)
      · exact .inr (.refl _)
    | two u hu _ ih =>
      rcases (h u).mp hu with hu | rfl
      · rcases ih with k | k
        · exact .inl (.two u hu k)
        · exact .inr (.two u hu k)
      · rw [← hz]; exact .inl (.refl _)
  · rintro (k | k)
    · exact h.sub k
    · exact h.edge.trans (h.sub k)
theorem OneMore.far (h : OneMore ts us t) {z x : Nat} (hz : ¬ Con us t.1.1 z) : Con us z x ↔ Con ts z x := by
  refine ⟨fun k => ?_, h.sub⟩
  induction k with
  | refl => exact .refl _
  | one u hu hk ih =>
    rcases (h u).mp hu with hu | rfl
    · exact .one u hu ih
    · exact absurd hk.symm hz
  | two u hu hk ih =>
    rcases (h u).mp hu with hu | rfl
    · exact .two u hu ih
    · exact absurd (h.edge.trans hk.symm) hz
end
/-! the lot of a wheel -/
end G
set_option Elab.async false
set_option linter.all false
set_option maxRecDepth 100000
set_option maxHeartbeats 4000000
/-! T15: free spots, pairs of them -/
namespace G
open PySem PySem.Spec L2 PyProof.Rows
set_option autoImplicit false
/-! pairs -/
end G
set_option Elab.async false
set_option linter.all false
set_option maxRecDepth 100000
set_option maxHeartbeats 4000000
/-! T16: how a machine stands: numbers of lots, whole shifts, greatest numbers -/
namespace G
open PySem PySem.Spec L2 PyProof.Rows
set_option autoImplicit false
def numF : Nat → List (List Nat) → Sh
  | _, [] => []
  | i, L :: Ls => (L.map fun w => (w, (i : Int))) ++ numF (i + 1) Ls
def movF (ts : List Tch) : List (List Nat) → Sh
  | [] => []
  | L :: Ls => shF ts (L.headD 0) L.length ++ movF ts Ls
@[simp] theorem ev_mtD (g : OpM) (f : Fe W) (h : Fe (List W)) (ρ : Slt) (S : Sto) : fMtD g f h ρ S = (f ρ S).bind fun x S1 => if (dicOf x S1).isSome = true then (h ρ S1).bind fun xs S2 => ofO (g x xs S2) else .bad := id rfl
theorem Lot.keys {m : Mach} (h : Wm m) {r : Nat} {L : List Nat} (hL : Lot m.cs.length m.ts r L) : (∀ w ∈ G.keys (shF m.ts (L.headD 0) L.length), w ∈ L) ∧ (G.keys (shF m.ts (L.headD 0) L.length)).Nodup ∧ (shF m.ts (L.headD 0) L.length).length = L.length := by
  rw [hL.headD]
  obtain ⟨tr, hl⟩ := sh_ok hL h.ts_lt
  exact ⟨fun w hw => (hL.mem w).mpr ⟨con_lt h.ts_lt hL.root (tr.con w hw), tr.con w hw⟩, tr.nd, hl⟩
end G
set_option Elab.async false
set_option linter.all false
set_option maxRecDepth 100000
set_option maxHeartbeats 4000000
/-! T17: a machine's standing read: g_with, is_idle, idle_pairs -/
namespace G
open PySem PySem.Spec L2 PyProof.Rows
set_option autoImplicit false
def lotsM (m : Mach) : List (List Nat) := lotsOf m.cs.length (lowsP m.cs.length m.ts)
def shM (m : Mach) : Sh := movF m.ts (lotsM m)
structure StOk (m : Mach) (b : Nat) (V : Sto) (d1 d2 d3 : Nat) : Prop where
  l1 : d1 < b
  l2 : d2 < b
  l3 : d3 < b
  n : V[d1]? = some (shC (numF 0 (lotsM m)))
  s : V[d2]? = some (shC (shM m))
  w : V[d3]? = some (.lst (((lotsM m).map fun L => PyData.int (gL m L : Nat)).map W.d))
theorem StOk.fr {m : Mach} {b d1 d2 d3 : Nat} {V V' : Sto} (h : StOk m b V d1 d2 d3) (f : Fr b V V') : StOk m b V' d1 d2 d3 :=
  ⟨h.l1, h.l2, h.l3, by rw [f.at_ _ h.l1]; exact h.n, by rw [f.at_ _ h.l2]; exact h.s, by rw [f.at_ _ h.l3]; exact h.w⟩
/-! reading it -/
end G
set_option Elab.async false
set_option linter.all false
set_option maxRecDepth 100000
set_option maxHeartbeats 4000000
/-! T18: the law's own free spots and one touch more -/
namespace G
open PySem PySem.Spec L2 PyProof.Rows
set_option autoImplicit false
/-! one touch more -/
end G
set_option Elab.async false
set_option linter.all false
set_option maxRecDepth 100000
set_option maxHeartbeats 4000000
/-! T19: one touch more, the plain law -/
namespace G
open PySem PySem.Spec L2 PyProof.Rows
set_option autoImplicit false
section
variable {m : Mach} {us : List Tch} {s o : Spot}
/-! lots and numbers alike -/
end
end G
set_option Elab.async false
set_option linter.all false
set_option maxRecDepth 100000
set_option maxHeartbeats 4000000
/-! T20: sizes of what is shown (from k11) -/
namespace G
open PySem PySem.Spec L2 PyProof.Rows
set_option autoImplicit false
/-! sizes of what is shown -/
structure Rp (w dep : Nat) (d : PyData) : Prop where
  s : d.showable = true
  n : d.hasDict = false
  l : d.leavesShort 198 = true
  w : d.weight ≤ w
  t : ∀ k, 200 ≤ k → k ∉ d.shown.cps.toList
  d : d.depth ≤ dep
theorem rp_all {w dep : Nat} : ∀ {l : List PyData}, (∀ x ∈ l, Rp w dep x) → PyData.showableAll l = true ∧ PyData.hasDictAll l = false ∧ PyData.leavesShortAll 198 l = true ∧ PyData.weightAll l ≤ l.length * (w + 1) ∧ PyData.depthAll l ≤ dep
  | [], _ => ⟨by simp only [PyData.showableAll], by simp only [PyData.hasDictAll], by simp only [PyData.leavesShortAll], by simp [PyData.weightAll], by simp [PyData.depthAll]⟩
  | x :: l, h => by
    obtain ⟨h1, h2, h3, h4, h5⟩ := rp_all (l := l) fun y hy => h y (by simp [hy])
    have hx := h x (by simp)
    refine ⟨?_, ?_, ?_, ?_, ?_⟩
    · simp only [PyData.showableAll, hx.s, h1, Bool.and_self]
    · simp only [PyData.hasDictAll, hx.n, h2, Bool.or_self]
    · simp only [PyData.leavesShortAll, hx.l, h3, Bool.and_self]
    · simp only [PyData.weightAll, List.length_cons, Nat.succ_mul]
      have := hx.w
      omega
    · simp only [PyData.depthAll]
      have := hx.d
      omega
theorem tup_free {k : Nat} (hk : 200 ≤ k) {l : List PyData} (h : ∀ x ∈ l, k ∉ x.shown.cps.toList) : k ∉ (PyData.tuple l).shown.cps.toList := by
  rw [PyData.shown_tuple, ← PyData.shownAll_length l]
  intro hm
  rw [mem_cps_append, mem_cps_append, signs_lparen, mem_join, signs_tuple_end] at hm
  rcases hm with ((hm | (⟨t, ht, hc⟩ | ⟨hl, hm⟩)) | hm)
  · simp at hm; omega
  · exact shownAll_free h t ht hc
  · rw [signs_sep] at hm
    simp at hm; omega
  · split at hm
    · simp at hm; omega
    · simp at hm; omega
theorem rp_tup {w dep : Nat} {l : List PyData} (h : ∀ x ∈ l, Rp w dep x) : Rp (l.length * (w + 1)) (dep + 1) (.tuple l) := by
  obtain ⟨h1, h2, h3, h4, h5⟩ := rp_all h
  exact ⟨by simp only [PyData.showable, h1], by simp only [PyData.hasDict, h2], by simp only [PyData.leavesShort, h3], by simp only [PyData.weight]; exact h4, fun k hk => tup_free hk fun x hx => (h x hx).t k hk, by simp only [PyData.depth]; omega⟩
theorem Rp.mono {w w' dep dep' : Nat} {d : PyData} (h : Rp w dep d) (h1 : w ≤ w') (h2 : dep ≤ dep') : Rp w' dep' d := ⟨h.s, h.n, h.l, Nat.le_trans h.w h1, h.t, Nat.le_trans h.d h2⟩
theorem repr_ok {w dep : Nat} {d : PyData} (h : Rp w dep d) (hb : isBox d = true) (hw : w ≤ 80000) (hd : dep ≤ 60) (S : Sto) : gRepr [.d d] S = some (.d (.str d.shown), S) := by
  have ok : reprOk d = true := by
    unfold reprOk
    simp only [h.s, h.n, h.l, Bool.not_false, Bool.true_and, Bool.and_eq_true, Bool.or_eq_true, decide_eq_true_eq]
    exact ⟨.inr (Nat.le_trans h.w hw), Nat.le_trans h.d hd⟩
  unfold gRepr
  simp only [view_d, hb, ok, Bool.and_self, if_true]
@[simp] theorem ev_repr (f : Fe (List W)) (ρ : Slt) (S : Sto) : fCB gRepr f ρ S = (f ρ S).bind fun xs S1 => ofO (gRepr xs S1) := id rfl
theorem Rp.ok {w dep : Nat} {d : PyData} (h : Rp w dep d) : SeqAt.shaped (.str d.shown) = true := by
  unfold SeqAt.shaped
  simp only [PyData.canLay0, PyData.strOk, PyData.depth, Nat.zero_le, decide_true, Bool.and_true]
  rw [Array.all_eq_true']
  intro x hx
  have := h.t x
  simp only [decide_eq_true_eq]
  by_cases h2 : 200 ≤ x
  · exact absurd (Array.mem_toList_iff.mpr hx) (this h2)
  · omega
theorem ne_str {a : Str} (ha : SeqAt.shaped (.str a) = true) (S : Sto) : dEq true (.d (.str a)) (.d (.str a)) S = some (.d (.bool false), S) := by
  rw [dEq_d true ha ha]
  have : PyData.eqv (.str a) (.str a) = true := by simp [PyData.eqv]
  rw [this]
  rfl
theorem lst_free {k : Nat} (hk : 200 ≤ k) {l : List PyData} (h : ∀ x ∈ l, k ∉ x.shown.cps.toList) : k ∉ (PyData.list l).shown.cps.toList := by
  rw [PyData.shown_list]
  intro hm
  rw [mem_cps_append, mem_cps_append, signs_lbrack, mem_join, signs_rbrack] at hm
  rcases hm with ((hm | (⟨t, ht, hc⟩ | ⟨hl, hm⟩)) | hm)
  · simp at hm; omega
  · exact shownAll_free h t ht hc
  · rw [signs_sep] at hm
    simp at hm; omega
  · simp at hm; omega
theorem rp_lst {w dep : Nat} {l : List PyData} (h : ∀ x ∈ l, Rp w dep x) : Rp (l.length * (w + 1)) (dep + 1) (.list l) := by
  obtain ⟨h1, h2, h3, h4, h5⟩ := rp_all h
  exact ⟨by simp only [PyData.showable, h1], by simp only [PyData.hasDict, h2], by simp only [PyData.leavesShort, h3], by simp only [PyData.weight]; exact h4, fun k hk => lst_free hk fun x hx => (h x hx).t k hk, by simp only [PyData.depth]; omega⟩
theorem repr_o {w dep : Nat} {l : List PyData} (h : Rp w dep (.list l)) (hw : w ≤ 80000) (hd : dep ≤ 60) {S : Sto} {q : Nat} (hq : S[q]? = some (.lst (l.map W.d))) : gRepr [.o q] S = some (.d (.str (PyData.list l).shown), S) := by
  have := repr_ok h rfl hw hd S
  unfold gRepr at this ⊢
  simp only [view_d] at this
  simp only [view_o hq]
  exact this
end G
set_option Elab.async false
set_option linter.all false
set_option maxRecDepth 100000
set_option maxHeartbeats 4000000
/-! S1: polynomials as rules of sequences, energies, the step of the lattice -/
namespace G
set_option autoImplicit false
abbrev Sq := Nat → Rat
def dl (x : Sq) : Sq := fun t => match t with | 0 => 0 | t + 1 => x t
def ap : List Rat → Sq → Sq
  | [], _ => fun _ => 0
  | a :: l, x => fun t => a * x t + dl (ap l x) t
theorem dl_z (x : Sq) : dl x 0 = 0 := rfl
theorem dl_s (x : Sq) (t : Nat) : dl x (t + 1) = x t := rfl
theorem dl_lin (a b : Rat) (x y : Sq) : dl (fun t => a * x t + b * y t) = fun t => a * dl x t + b * dl y t := by
  funext t; cases t
  · simp only [dl_z]; grind
  · rfl
theorem ap_nil (x : Sq) (t : Nat) : ap [] x t = 0 := rfl
theorem ap_cons (a : Rat) (l : List Rat) (x : Sq) (t : Nat) : ap (a :: l) x t = a * x t + dl (ap l x) t := rfl
theorem ap_lin (a b : Rat) (x y : Sq) : ∀ (l : List Rat), ap l (fun t => a * x t + b * y t) = fun t => a * ap l x t + b * ap l y t
  | [] => by funext t; simp only [ap_nil]; grind
  | c :: l => by
    funext t
    simp only [ap_cons, ap_lin a b x y l, dl_lin]
    grind
theorem ap_dl (x : Sq) : ∀ (l : List Rat), ap l (dl x) = dl (ap l x)
  | [] => by funext t; cases t <;> rfl
  | c :: l => by
    funext t
    simp only [ap_cons, ap_dl x l]
    cases t with
    | zero => simp only [dl_z]; grind
    | succ t => simp only [dl_s, ap_cons]
theorem ap_zip (k : Rat) (x : Sq) : ∀ (l m : List Rat), l.length = m.length → ap (List.zipWith (fun a b => a + k * b) l m) x = fun t => ap l x t + k * ap m x t
  | [], [], _ => by funext t; simp only [List.zipWith_nil_left, ap_nil]; grind
  | a :: l, b :: m, h => by
    funext t
    have ih := ap_zip k x l m (by simpa using h)
    simp only [List.zipWith_cons_cons, ap_cons, ih]
    cases t with
    | zero => simp only [dl_z]; grind
    | succ t => simp only [dl_s]; grind
  | [], b :: m, h => by simp at h
  | a :: l, [], h => by simp at h
theorem ap_snoc (x : Sq) : ∀ (l : List Rat), ap (l ++ [0]) x = ap l x
  | [] => by funext t; cases t <;> simp [ap_cons, ap_nil, dl] <;> grind
  | a :: l => by funext t; simp only [List.cons_append, ap_cons, ap_snoc x l]
theorem ap_zero (l : List Rat) (x : Sq) : ap (0 :: l) x = dl (ap l x) := by funext t; simp only [ap_cons]; grind
/-! energy -/
def En : Nat → Sq → Rat
  | 0, _ => 0
  | n + 1, y => En n y + y n * y n
theorem En_s (n : Nat) (y : Sq) : En (n + 1) y = En n y + y n * y n := rfl
theorem sq_nn (a : Rat) : 0 ≤ a * a := by
  rcases (Rat.le_total : (0 : Rat) ≤ a ∨ a ≤ 0) with h | h
  · exact Rat.mul_nonneg h h
  · have := Rat.mul_nonneg (show 0 ≤ -a by grind) (show 0 ≤ -a by grind)
    grind
theorem En_nn : ∀ (n : Nat) (y : Sq), 0 ≤ En n y
  | 0, _ => by simp [En]
  | n + 1, y => by have := En_nn n y; have := sq_nn (y n); rw [En_s]; grind
theorem En_dl : ∀ (n : Nat) (y : Sq), En (n + 1) (dl y) = En n y
  | 0, y => by simp only [En, dl_z]; grind
  | n + 1, y => by rw [En_s, En_dl n y, En_s, dl_s]
theorem En_congr : ∀ (n : Nat) (y z : Sq), (∀ t, t < n → y t = z t) → En n y = En n z
  | 0, _, _, _ => rfl
  | n + 1, y, z, h => by rw [En_s, En_s, En_congr n y z (fun t ht => h t (by omega)), h n (by omega)]
theorem En_mono {n m : Nat} (h : n ≤ m) (y : Sq) : En n y ≤ En m y := by
  induction m with
  | zero => obtain rfl : n = 0 := by omega
            exact Rat.le_refl
  | succ m ih =>
    by_cases e : n = m + 1
    · subst e; exact Rat.le_refl
    · have := ih (by omega); have := sq_nn (y m); rw [En_s]; grind
/-- what a polynomial makes holds at most so many times as much -/
theorem ap_bdd : ∀ (l : List Rat), ∃ C : Rat, 0 ≤ C ∧ ∀ (x : Sq) (n : Nat), En n (ap l x) ≤ C * En n x
  | [] => ⟨0, by grind, fun x n => by
    have : En n (ap [] x) = 0 := by
      induction n with
      | zero => rfl
      | succ n ih => rw [En_s, ih, ap_nil]; grind
    rw [this]; grind⟩
  | a :: l => by
    obtain ⟨C, h0, h⟩ := ap_bdd l
    refine ⟨2 * (a * a) + 2 * C, by have := sq_nn a; grind, fun x n => ?_⟩
    have key : ∀ n, En n (ap (a :: l) x) ≤ 2 * (a * a) * En n x + 2 * En n (dl (ap l x)) := by
      intro n
      induction n with
      | zero => simp only [En]; grind
      | succ n ih =>
        rw [En_s, En_s, En_s, ap_cons]
        have := sq_nn (a * x n - dl (ap l x) n)
        grind
    have k1 := key n
    have k2 : En n (dl (ap l x)) ≤ En n (ap l x) := by
      cases n with
      | zero => exact Rat.le_refl
      | succ n => rw [En_dl]; exact En_mono (by omega) _
    have k3 := h x n
    grind
/-! the gap -/
def Hgp (l : List Rat) (x : Sq) (n : Nat) : Rat := En n (ap l x) - En n (ap l.reverse x)
theorem En_two (k : Rat) (u v : Sq) : ∀ n, En n (fun t => u t + k * v t) - En n (fun t => k * u t + v t) = (1 - k * k) * (En n u - En n v)
  | 0 => by simp only [En]; grind
  | n + 1 => by have := En_two k u v n; simp only [En_s]; grind
/-- p is made of q by one step -/
def Lat (q : List Rat) (k : Rat) : List Rat := List.zipWith (fun a b => a + k * b) (q ++ [0]) (0 :: q.reverse)
theorem lat_len (q : List Rat) (k : Rat) : (Lat q k).length = q.length + 1 := by simp [Lat]
theorem ap_lat (q : List Rat) (k : Rat) (x : Sq) : ap (Lat q k) x = fun t => ap q x t + k * dl (ap q.reverse x) t := by
  unfold Lat
  rw [ap_zip k x _ _ (by simp), ap_snoc, ap_zero]
theorem rev_zip (k : Rat) (l m : List Rat) (h : l.length = m.length) : (List.zipWith (fun a b => a + k * b) l m).reverse = List.zipWith (fun a b => a + k * b) l.reverse m.reverse := by
  rw [List.reverse_zipWith h]
theorem ap_lat_rev (q : List Rat) (k : Rat) (x : Sq) : ap (Lat q k).reverse x = fun t => k * ap q x t + dl (ap q.reverse x) t := by
  unfold Lat
  rw [rev_zip _ _ _ (by simp), ap_zip k x _ _ (by simp)]
  simp only [List.reverse_append, List.reverse_cons, List.reverse_nil, List.nil_append, List.cons_append, List.reverse_reverse, ap_zero, ap_snoc]
  funext t; grind
theorem hp_lat (q : List Rat) (k : Rat) (x : Sq) (n : Nat) : Hgp (Lat q k) x (n + 1) = (1 - k * k) * (Hgp q x n + ap q x n * ap q x n) := by
  unfold Hgp
  rw [ap_lat, ap_lat_rev, En_two k (ap q x) (dl (ap q.reverse x)) (n + 1), En_dl, En_s]
  grind
/-- all steps by less than 1 -/
inductive Sb : List Rat → Prop
  | one : Sb [1]
  | next {q : List Rat} {k : Rat} : k * k < 1 → Sb q → Sb (Lat q k)
theorem hp_one (x : Sq) (n : Nat) : Hgp [1] x n = 0 := by
  unfold Hgp
  simp only [List.reverse_cons, List.reverse_nil, List.nil_append]
  grind
theorem hp_z (l : List Rat) (x : Sq) : Hgp l x 0 = 0 := by unfold Hgp; simp only [En]; grind
theorem Sb.nn {l : List Rat} (h : Sb l) : ∀ (x : Sq) (n : Nat), 0 ≤ Hgp l x n := by
  induction h with
  | one => intro x n; rw [hp_one]; exact Rat.le_refl
  | @next q k hk hq ih =>
    intro x n
    cases n with
    | zero => rw [hp_z]; exact Rat.le_refl
    | succ n =>
      rw [hp_lat]
      exact Rat.mul_nonneg (by grind) (by have := ih x n; have := sq_nn (ap q x n); grind)
theorem Sb.head {l : List Rat} (h : Sb l) : ∃ m, l = 1 :: m := by
  induction h with
  | one => exact ⟨[], rfl⟩
  | @next q k hk hq ih =>
    obtain ⟨m, rfl⟩ := ih
    refine ⟨List.zipWith (fun a b => a + k * b) (m ++ [0]) (1 :: m).reverse, ?_⟩
    unfold Lat
    simp only [List.cons_append, List.zipWith_cons_cons]
    congr 1
    grind
theorem ap_head (m : List Rat) (x : Sq) (n : Nat) (h : ∀ j, j < n → n ≤ j + m.length → x j = 0) : ap (1 :: m) x n = x n := by
  rw [ap_cons]
  have : ∀ (l : List Rat) (n : Nat), (∀ j, j < n → n ≤ j + l.length → x j = 0) → dl (ap l x) n = 0 := by
    intro l
    induction l with
    | nil => intro n _; cases n <;> rfl
    | cons a l ih =>
      intro n h
      cases n with
      | zero => rfl
      | succ n =>
        rw [dl_s, ap_cons, h n (by omega) (by simp), ih n (fun j hj hl => h j (by omega) (by simp; omega))]
        grind
  rw [this m n h]
  grind
/-- the gap is nought just of what is nought lately -/
theorem Sb.zero {l : List Rat} (h : Sb l) : ∀ (x : Sq) (n : Nat), Hgp l x n = 0 → ∀ j, j < n → n + 1 ≤ j + l.length → x j = 0 := by
  induction h with
  | one => intro x n _ j hj hl; simp at hl; omega
  | @next q k hk hq ih =>
    intro x n e
    cases n with
    | zero => intro j hj; omega
    | succ n =>
      rw [hp_lat] at e
      have h1 := hq.nn x n
      have h2 := sq_nn (ap q x n)
      have h3 : Hgp q x n + ap q x n * ap q x n = 0 := by
        rcases Rat.mul_eq_zero.mp e with e | e
        · grind
        · exact e
      have h4 : Hgp q x n = 0 := by grind
      have h5 : ap q x n = 0 := by
        have : ap q x n * ap q x n = 0 := by grind
        rcases Rat.mul_eq_zero.mp this with e | e <;> exact e
      have h6 := ih x n h4
      obtain ⟨m, rfl⟩ := hq.head
      have h7 := ap_head m x n (fun j hj hl => h6 j hj (by simp; omega))
      intro j hj hl
      rw [lat_len] at hl
      by_cases e : j = n
      · subst e; rw [← h7]; exact h5
      · exact h6 j (by omega) (by simp at hl ⊢; omega)
/-- what comes in bounds what is held -/
theorem Sb.bound {l : List Rat} (h : Sb l) : 2 ≤ l.length → ∃ w : Rat, 0 < w ∧ ∀ (x : Sq) (n : Nat), w * (x n * x n) ≤ Hgp l x (n + (l.length - 1)) := by
  induction h with
  | one => intro h; simp at h
  | @next q k hk hq ih =>
    intro _
    rw [lat_len]
    by_cases hl : 2 ≤ q.length
    · obtain ⟨w, hw, h⟩ := ih hl
      refine ⟨(1 - k * k) * w, Rat.mul_pos (by grind) hw, fun x n => ?_⟩
      have e : n + (q.length + 1 - 1) = (n + (q.length - 1)) + 1 := by omega
      rw [e, hp_lat]
      have h1 := h x n
      have h2 := sq_nn (ap q x (n + (q.length - 1)))
      have h3 : w * (x n * x n) ≤ Hgp q x (n + (q.length - 1)) + ap q x (n + (q.length - 1)) * ap q x (n + (q.length - 1)) := by grind
      have := Rat.mul_le_mul_of_nonneg_left h3 (show 0 ≤ 1 - k * k by grind)
      grind
    · obtain ⟨m, rfl⟩ := hq.head
      obtain rfl : m = [] := by cases m with
        | nil => rfl
        | cons a m => simp at hl
      refine ⟨1 - k * k, by grind, fun x n => ?_⟩
      show _ ≤ Hgp (Lat [1] k) x (n + 1)
      rw [hp_lat, hp_one]
      have : ap [1] x n = x n := ap_head [] x n (fun j hj hl => by simp at hl; omega)
      rw [this]
      grind
end G
set_option Elab.async false
set_option linter.all false
set_option maxRecDepth 100000
set_option maxHeartbeats 4000000
/-! S2: what ends holds little (a filter that is matched) -/
namespace G
set_option autoImplicit false
def dln : Nat → Sq → Sq
  | 0, x => x
  | n + 1, x => dl (dln n x)
theorem dln_s (n : Nat) (x : Sq) (t : Nat) : dln (n + 1) x (t + 1) = dln n x t := rfl
theorem dln_at : ∀ (n t : Nat) (x : Sq), dln n x t = if n ≤ t then x (t - n) else 0
  | 0, t, x => by simp [dln]
  | n + 1, 0, x => by simp [dln, dl]
  | n + 1, t + 1, x => by
    rw [dln_s, dln_at n t x]
    by_cases h : n ≤ t
    · rw [if_pos h, if_pos (by omega)]
      congr 1; omega
    · rw [if_neg h, if_neg (by omega)]
theorem ap_dln (l : List Rat) (x : Sq) : ∀ n, ap l (dln n x) = dln n (ap l x)
  | 0 => rfl
  | n + 1 => by show ap l (dl (dln n x)) = dl (dln n (ap l x)); rw [ap_dl, ap_dln l x n]
/-- the first n numbers of v, times y put off -/
def cv : Nat → Sq → Sq → Sq
  | 0, _, _ => fun _ => 0
  | n + 1, v, y => fun t => 1 * cv n v y t + v n * dln n y t
theorem ap_nought (l : List Rat) : ap l (fun _ => 0) = fun _ => 0 := by
  induction l with
  | nil => rfl
  | cons a l ih =>
    funext t
    rw [ap_cons, ih]
    cases t
    · rw [dl_z]; grind
    · rw [dl_s]; grind
theorem ap_cv (l : List Rat) (v y : Sq) : ∀ n, ap l (cv n v y) = cv n v (ap l y)
  | 0 => ap_nought l
  | n + 1 => by
    show ap l (fun t => 1 * cv n v y t + v n * dln n y t) = fun t => 1 * cv n v (ap l y) t + v n * dln n (ap l y) t
    rw [ap_lin, ap_cv l v y n, ap_dln]
def dta : Sq := fun t => if t = 0 then 1 else 0
theorem ap_dta : ∀ (l : List Rat) (t : Nat), ap l dta t = l.getD t 0
  | [], t => by simp [ap_nil]
  | a :: l, 0 => by rw [ap_cons, dl_z]; simp [dta]; grind
  | a :: l, t + 1 => by rw [ap_cons, dl_s, ap_dta l t]; simp [dta]; grind
theorem cv_dta (v : Sq) : ∀ (n t : Nat), cv n v dta t = if t < n then v t else 0
  | 0, t => by simp [cv]
  | n + 1, t => by
    show 1 * cv n v dta t + v n * dln n dta t = _
    rw [cv_dta v n t, dln_at]
    unfold dta
    by_cases h : t < n
    · rw [if_pos h, if_neg (by omega), if_pos (by omega)]; grind
    · by_cases e : t = n
      · subst e; simp; grind
      · rw [if_neg h, if_pos (by omega), if_neg (by omega), if_neg (by omega)]; grind
theorem cut_of (u : Sq) (m : Nat) (h : ∀ t, m ≤ t → u t = 0) : u = ap ((List.range m).map u) dta := by
  funext t
  rw [ap_dta]
  by_cases ht : t < m
  · simp [List.getD, ht]
  · rw [h t (by omega)]
    simp [List.getD, ht]
theorem En_cut (v : Sq) (T : Nat) : ∀ n, En n (fun t => if t < T then v t else 0) ≤ En T v := by
  intro n
  by_cases h : n ≤ T
  · rw [En_congr n (fun t => if t < T then v t else 0) v (fun t ht => by simp; intro; omega)]
    exact En_mono h v
  · have : ∀ d, En (T + d) (fun t => if t < T then v t else 0) = En T v := by
      intro d
      induction d with
      | zero => exact En_congr T _ v (fun t ht => by simp; intro; omega)
      | succ d ih => rw [← Nat.add_assoc, En_s, ih, if_neg (by omega)]; grind
    rw [show n = T + (n - T) by omega, this]
    exact Rat.le_refl
theorem cv_own (y : Sq) (T : Nat) : ∀ n, n ≤ T + 1 → cv n (fun s => y (T - s)) y T = En n (fun s => y (T - s))
  | 0, _ => rfl
  | n + 1, h => by
    show 1 * cv n (fun s => y (T - s)) y T + y (T - n) * dln n y T = _
    rw [cv_own y T n (by omega), dln_at, if_pos (by omega), En_s]
    grind
/-- what ends holds little: all of it together is bounded -/
theorem mf {l : List Rat} {w : Rat} {d : Nat} (hw : 0 < w) (hb : ∀ (x : Sq) (n : Nat), w * (x n * x n) ≤ En (n + d) (ap l x)) {y : Sq} {m : Nat} (hy : ∀ t, m ≤ t → ap l y t = 0) :
    ∃ C : Rat, ∀ T, w * En (T + 1) (fun s => y (T - s)) ≤ C := by
  obtain ⟨C, c0, hC⟩ := ap_bdd ((List.range m).map (ap l y))
  refine ⟨C, fun T => ?_⟩
  have e1 := hb (cv (T + 1) (fun s => y (T - s)) y) T
  rw [cv_own y T (T + 1) (by omega), ap_cv] at e1
  have e2 : cv (T + 1) (fun s => y (T - s)) (ap l y) = ap ((List.range m).map (ap l y)) (cv (T + 1) (fun s => y (T - s)) dta) := by
    rw [ap_cv, ← cut_of _ m hy]
  rw [e2] at e1
  have e3 := hC (cv (T + 1) (fun s => y (T - s)) dta) (T + d)
  have e4 : cv (T + 1) (fun s => y (T - s)) dta = fun t => if t < T + 1 then (fun s => y (T - s)) t else 0 := by
    funext t; rw [cv_dta]
  rw [e4] at e3
  have e5 := En_cut (fun s => y (T - s)) (T + 1) (T + d)
  have e6 : C * En (T + d) (fun t => if t < T + 1 then (fun s => y (T - s)) t else 0) ≤ C * En (T + 1) (fun s => y (T - s)) := Rat.mul_le_mul_of_nonneg_left e5 c0
  rw [e4] at e1
  have e8 := En_nn (T + 1) (fun s => y (T - s))
  generalize En (T + 1) (fun s => y (T - s)) = E at *
  have e7 : w * (E * E) ≤ C * E := by grind
  by_cases e9 : E = 0
  · rw [e9]; grind
  · have e10 : 0 < E := by grind
    rcases (Rat.le_total : w * E ≤ C ∨ C ≤ w * E) with h | h
    · exact h
    · have h2 := Rat.mul_le_mul_of_nonneg_right h e8
      have h3 : w * E * E = C * E := by grind
      have h4 : (w * E - C) * E = 0 := by grind
      rcases Rat.mul_eq_zero.mp h4 with h5 | h5
      · grind
      · exact absurd h5 e9
/-- but what goes on by no less than so much holds more than anything -/
theorem grows {y : Sq} {μ : Rat} (hμ : 0 < μ) (h : ∀ t, 3 ≤ t → μ ≤ y t * y t + y (t + 1) * y (t + 1) + y (t + 2) * y (t + 2)) {w C : Rat} (hw : 0 < w) : ¬ ∀ T, w * En (T + 1) (fun s => y (T - s)) ≤ C := by
  intro hC
  have key : ∀ (T k : Nat), 3 * k + 3 ≤ T + 1 → (k : Rat) * μ ≤ En (3 * k) (fun s => y (T - s)) := by
    intro T k
    induction k with
    | zero => intro _; simp [En]
    | succ k ih =>
      intro hk
      have i1 := ih (by omega)
      have e : 3 * (k + 1) = 3 * k + 1 + 1 + 1 := by omega
      rw [e, En_s, En_s, En_s]
      have h1 := h (T - (3 * k + 1 + 1)) (by omega)
      rw [show T - (3 * k + 1 + 1) + 1 = T - (3 * k + 1) by omega, show T - (3 * k + 1 + 1) + 2 = T - 3 * k by omega] at h1
      push_cast
      grind
  -- a count that is too great
  have big : ∃ k : Nat, C < w * ((k : Rat) * μ) := by
    have hp : 0 < w * μ := Rat.mul_pos hw hμ
    let q : Rat := C / (w * μ)
    have hq : q * (w * μ) = C := by
      show C / (w * μ) * (w * μ) = C
      exact Rat.div_mul_cancel (by grind)
    refine ⟨(q.ceil + 1).toNat, ?_⟩
    have h1 : q ≤ (q.ceil : Rat) := Rat.le_ceil
    have h2 : (q.ceil : Int) < ((q.ceil + 1).toNat : Int) := by omega
    have h3 : (q.ceil : Rat) < (((q.ceil + 1).toNat : Nat) : Rat) := by exact_mod_cast h2
    have h4 : q < (((q.ceil + 1).toNat : Nat) : Rat) := by grind
    have h5 := Rat.mul_lt_mul_of_pos_right h4 hp
    grind
  obtain ⟨k, hk⟩ := big
  have h1 := key (3 * k + 3) k (by omega)
  have h2 := hC (3 * k + 3)
  have h3 : En (3 * k) (fun s => y (3 * k + 3 - s)) ≤ En (3 * k + 3 + 1) (fun s => y (3 * k + 3 - s)) := En_mono (by omega) _
  have h4 := Rat.mul_le_mul_of_nonneg_left (show (k : Rat) * μ ≤ En (3 * k + 3 + 1) (fun s => y (3 * k + 3 - s)) by grind) (show 0 ≤ w by grind)
  grind
end G
set_option Elab.async false
set_option linter.all false
set_option maxRecDepth 100000
set_option maxHeartbeats 4000000
/-! S3: products of what stays within -/
namespace G
set_option autoImplicit false
theorem ap_loc : ∀ (l : List Rat) (t : Nat) (x y : Sq), (∀ j, j ≤ t → x j = y j) → ap l x t = ap l y t
  | [], t, x, y, h => rfl
  | a :: l, 0, x, y, h => by rw [ap_cons, ap_cons, dl_z, dl_z, h 0 (by omega)]
  | a :: l, t + 1, x, y, h => by rw [ap_cons, ap_cons, dl_s, dl_s, h (t + 1) (by omega), ap_loc l t x y (fun j hj => h j (by omega))]
theorem Hp_loc (l : List Rat) (n : Nat) (x y : Sq) (h : ∀ j, j < n → x j = y j) : Hgp l x n = Hgp l y n := by
  unfold Hgp
  rw [En_congr n (ap l x) (ap l y) (fun t ht => ap_loc l t x y (fun j hj => h j (by omega))), En_congr n (ap l.reverse x) (ap l.reverse y) (fun t ht => ap_loc _ t x y (fun j hj => h j (by omega)))]
theorem ap_comm (p : List Rat) (x : Sq) : ∀ (a : List Rat), ap a (ap p x) = ap p (ap a x)
  | [] => by
    have : ap [] x = fun _ => (0 : Rat) := rfl
    rw [this, ap_nought]; rfl
  | a :: l => by
    have e : ap (a :: l) x = fun t => a * x t + 1 * dl (ap l x) t := by funext t; rw [ap_cons]; grind
    rw [e, ap_lin]
    funext t
    rw [ap_cons, ap_comm p x l, ap_dl]
    grind
/-! turned about, all in one -/
def tw (k : Rat) (l : List Rat) : List Rat := List.zipWith (fun a b => a + k * b) l l.reverse
theorem tw_len (k : Rat) (l : List Rat) : (tw k l).length = l.length := by simp [tw]
theorem tw_get (k : Rat) (l : List Rat) (i : Nat) (h : i < l.length) : (tw k l)[i]'(by rw [tw_len]; exact h) = l[i] + k * l[l.length - 1 - i] := by
  simp [tw, List.getElem_reverse]
theorem lat_tw (q : List Rat) (k : Rat) : Lat q k = tw k (q ++ [0]) := by simp [Lat, tw]
theorem tw_tw (k : Rat) (l : List Rat) : tw (-k) (tw k l) = l.map fun a => (1 - k * k) * a := by
  apply List.ext_getElem
  · simp [tw]
  · intro i h1 h2
    have hi : i < l.length := by simpa [tw] using h1
    rw [tw_get (-k) (tw k l) i (by rw [tw_len]; exact hi), tw_get k l i hi]
    simp only [tw_len]
    rw [tw_get k l (l.length - 1 - i) (by omega)]
    have : l[l.length - 1 - (l.length - 1 - i)]'(by omega) = l[i] := by congr 1; omega
    rw [this]
    simp
    grind
/-- one step -/
def stepl (k : Rat) (l : List Rat) : List Rat := ((tw (-k) l).map fun a => a / (1 - k * k)).dropLast
theorem stepl_len (k : Rat) (l : List Rat) : (stepl k l).length = l.length - 1 := by simp [stepl, tw]
theorem map_div {c : Rat} (h : c ≠ 0) (l : List Rat) : (l.map fun a => c * a).map (fun a => a / c) = l := by
  rw [List.map_map]
  have : ((fun a => a / c) ∘ fun a => c * a) = id := by funext a; simp only [Function.comp_def, id]; grind
  rw [this, List.map_id]
theorem stepl_lat {q : List Rat} {k : Rat} (h : k * k ≠ 1) : stepl k (Lat q k) = q := by
  unfold stepl
  rw [lat_tw, tw_tw, map_div (by grind)]
  simp
theorem tw_tw' (k : Rat) (l : List Rat) : tw k (tw (-k) l) = l.map fun a => (1 - k * k) * a := by
  have := tw_tw (-k) l
  rw [show - -k = k by grind, show -k * -k = k * k by grind] at this
  exact this
theorem tw_scale (k c : Rat) (l : List Rat) : tw k (l.map fun a => a / c) = (tw k l).map fun a => a / c := by
  unfold tw
  rw [← List.map_reverse, List.zipWith_map, List.map_zipWith]
  congr 1
  funext a b
  grind
theorem lat_stepl {k : Rat} {m : List Rat} (h : k * k ≠ 1) : Lat (stepl k (1 :: (m ++ [k]))) k = 1 :: (m ++ [k]) := by
  have e0 : ((tw (-k) (1 :: (m ++ [k]))).map fun a => a / (1 - k * k)) ≠ [] := by simp [tw]
  have e : stepl k (1 :: (m ++ [k])) ++ [0] = (tw (-k) (1 :: (m ++ [k]))).map fun a => a / (1 - k * k) := by
    have h1 := List.dropLast_concat_getLast e0
    have h2 : ((tw (-k) (1 :: (m ++ [k]))).map fun a => a / (1 - k * k)).getLast e0 = 0 := by
      have h3 : ∀ (l l' : List Rat) (hl : l.length = l'.length) (h : List.zipWith (fun a b => a + -k * b) (l ++ [k]) (l' ++ [1]) ≠ []), (List.zipWith (fun a b => a + -k * b) (l ++ [k]) (l' ++ [1])).getLast h = 0 := by
        intro l l' hl h
        have : List.zipWith (fun a b => a + -k * b) (l ++ [k]) (l' ++ [1]) = List.zipWith (fun a b => a + -k * b) l l' ++ [k + -k * 1] := by
          rw [List.zipWith_append hl]; rfl
        simp only [this, List.getLast_append]
        simp
        grind
      rw [List.getLast_map]
      have h4 := h3 (1 :: m) (k :: m.reverse) (by simp) (by simp)
      have h5 : tw (-k) (1 :: (m ++ [k])) = List.zipWith (fun a b => a + -k * b) ((1 :: m) ++ [k]) ((k :: m.reverse) ++ [1]) := by simp [tw]
      simp only [h5, h4]
      grind
    rw [h2] at h1
    exact h1
  rw [lat_tw, e, tw_scale, tw_tw', map_div (by grind)]
theorem lat_last {m : List Rat} {k : Rat} : ∃ m', Lat (1 :: m) k = 1 :: (m' ++ [k]) := by
  refine ⟨List.zipWith (fun a b => a + k * b) m m.reverse, ?_⟩
  unfold Lat
  simp only [List.cons_append, List.zipWith_cons_cons, List.reverse_cons]
  congr 1
  · grind
  · rw [List.zipWith_append (by simp)]
    simp
    grind
/-- what makes a list, step by step, turned about -/
theorem Sb.inv {m : List Rat} {k : Rat} (h : Sb (1 :: (m ++ [k]))) : k * k < 1 ∧ Sb (stepl k (1 :: (m ++ [k]))) := by
  generalize e : 1 :: (m ++ [k]) = l at h
  cases h with
  | one => simp at e
  | @next q k' hk hq =>
    obtain ⟨m1, rfl⟩ := hq.head
    obtain ⟨m2, e2⟩ := lat_last (m := m1) (k := k')
    rw [e2] at e
    simp only [List.cons.injEq, true_and] at e
    obtain ⟨e3, e4⟩ := List.append_inj' e rfl
    simp only [List.cons.injEq, and_true] at e4
    subst e4
    rw [stepl_lat (by grind)]
    exact ⟨hk, hq⟩
theorem Sb.of {m : List Rat} {k : Rat} (hk : k * k < 1) (h : Sb (stepl k (1 :: (m ++ [k])))) : Sb (1 :: (m ++ [k])) := by
  have := Sb.next hk h
  rwa [lat_stepl (by grind)] at this
theorem lat_zero (q : List Rat) : Lat q 0 = q ++ [0] := by
  rw [lat_tw]
  apply List.ext_getElem
  · simp [tw]
  · intro i h1 h2
    rw [tw_get 0 _ i h2]
    grind
theorem Sb.pad {l : List Rat} : Sb (l ++ [0]) ↔ Sb l := by
  constructor
  · intro h
    obtain ⟨m, e⟩ := h.head
    cases l with
    | nil => simp at e
    | cons a l =>
      simp only [List.cons_append, List.cons.injEq] at e
      obtain ⟨rfl, rfl⟩ := e
      have h2 := (Sb.inv (m := l) (k := 0) h).2
      have h3 : Lat (1 :: l) 0 = 1 :: (l ++ [0]) := lat_zero _
      rw [← h3, stepl_lat (by grind)] at h2
      exact h2
  · intro h
    have := Sb.next (k := 0) (by grind) h
    rwa [lat_zero] at this
/-! what is above nought stays within -/
def PD (l : List Rat) : Prop := ∀ (n : Nat) (x : Sq), n + 1 ≤ l.length → (∃ j, j < n ∧ x j ≠ 0) → 0 < Hgp l x n
theorem pd_sb : ∀ (n : Nat) (m : List Rat), m.length = n → PD (1 :: m) → Sb (1 :: m)
  | 0, m, hn, h => by
    obtain rfl := List.length_eq_zero_iff.mp hn
    exact .one
  | n + 1, m, hn, h => by
    obtain ⟨m', k, rfl⟩ : ∃ m' k, m = m' ++ [k] := ⟨m.dropLast, m.getLast (by intro z; subst z; simp at hn), (List.dropLast_concat_getLast _).symm⟩
    have hk : k * k < 1 := by
      have h1 := h 1 dta (by simp) ⟨0, by omega, by simp [dta]⟩
      unfold Hgp at h1
      simp only [En] at h1
      have a1 : ap (1 :: (m' ++ [k])) dta 0 = 1 := by rw [ap_dta]; rfl
      have a2 : ap (1 :: (m' ++ [k])).reverse dta 0 = k := by rw [ap_dta]; simp
      rw [a1, a2] at h1
      grind
    have hL := lat_stepl (m := m') (k := k) (by grind)
    have hlen : (stepl k (1 :: (m' ++ [k]))).length = n + 1 := by rw [stepl_len]; simpa using hn
    generalize stepl k (1 :: (m' ++ [k])) = q at hL hlen
    obtain ⟨q', rfl⟩ : ∃ q', q = 1 :: q' := by
      cases q with
      | nil => simp at hlen
      | cons a q =>
        unfold Lat at hL
        simp only [List.cons_append, List.zipWith_cons_cons, List.cons.injEq] at hL
        refine ⟨q, ?_⟩
        congr 1
        grind
    have hq : Sb (1 :: q') := pd_sb n q' (by simpa using hlen) (by
      intro N x hN ⟨j, hj, hx⟩
      let x' : Sq := fun t => if t = N then x t - ap (1 :: q') x N else x t
      have l1 : ∀ j, j < N → x' j = x j := fun j hj => by simp only [x']; rw [if_neg (by omega)]
      have l2 : ap (1 :: q') x' N = 0 := by
        rw [ap_cons]
        have : dl (ap q' x') N = dl (ap q' x) N := by
          cases N with
          | zero => rfl
          | succ N => rw [dl_s, dl_s, ap_loc q' N x' x (fun j hj => l1 j (by omega))]
        have e : x' N = x N - ap (1 :: q') x N := if_pos rfl
        rw [this, e, ap_cons]
        grind
      have h1 := h (N + 1) x' (by simp at hN hn ⊢; simp at hlen; omega) ⟨j, by omega, by rw [l1 j hj]; exact hx⟩
      rw [← hL, hp_lat, l2, Hp_loc _ N x' x l1] at h1
      have h2 : 0 < 1 - k * k := by grind
      rcases (Rat.le_total : Hgp (1 :: q') x N ≤ 0 ∨ 0 ≤ Hgp (1 :: q') x N) with h3 | h3
      · have := Rat.mul_le_mul_of_nonneg_left h3 (show 0 ≤ 1 - k * k by grind)
        grind
      · by_cases h4 : Hgp (1 :: q') x N = 0
        · rw [h4] at h1; grind
        · grind)
    have := Sb.next hk hq
    rwa [hL] at this
end G
set_option Elab.async false
set_option linter.all false
set_option maxRecDepth 100000
set_option maxHeartbeats 4000000
/-! S4: a product stays within where its parts do -/
namespace G
set_option autoImplicit false
def dt : List Rat → Sq → Rat
  | [], _ => 0
  | a :: l, f => a * f 0 + dt l (fun i => f (i + 1))
theorem dt_congr : ∀ (l : List Rat) (f g : Sq), (∀ i, i < l.length → f i = g i) → dt l f = dt l g
  | [], _, _, _ => rfl
  | a :: l, f, g, h => by
    show a * f 0 + dt l _ = a * g 0 + dt l _
    rw [h 0 (by simp), dt_congr l (fun i => f (i + 1)) (fun i => g (i + 1)) (fun i hi => h (i + 1) (by simpa using hi))]
theorem dt_snoc (a : Rat) : ∀ (l : List Rat) (f : Sq), dt (l ++ [a]) f = dt l f + a * f l.length
  | [], f => by simp [dt]; grind
  | b :: l, f => by
    show b * f 0 + dt (l ++ [a]) _ = b * f 0 + dt l _ + a * f (l.length + 1)
    rw [dt_snoc a l]
    grind
theorem dt_rev : ∀ (l : List Rat) (f : Sq), dt l.reverse f = dt l (fun i => f (l.length - 1 - i))
  | [], f => rfl
  | a :: l, f => by
    rw [List.reverse_cons, dt_snoc, dt_rev l f, List.length_reverse]
    show _ = a * f (l.length + 1 - 1 - 0) + dt l (fun i => f (l.length + 1 - 1 - (i + 1)))
    rw [dt_congr l (fun i => f (l.length - 1 - i)) (fun i => f (l.length + 1 - 1 - (i + 1))) (fun i hi => by congr 1; omega)]
    simp
    grind
theorem ap_dt : ∀ (l : List Rat) (t : Nat) (x : Sq), l.length ≤ t + 1 → ap l x t = dt l (fun i => x (t - i))
  | [], t, x, _ => rfl
  | a :: l, t, x, h => by
    rw [ap_cons]
    show _ = a * x (t - 0) + dt l (fun i => x (t - (i + 1)))
    congr 1
    cases t with
    | zero =>
      obtain rfl : l = [] := by cases l with
        | nil => rfl
        | cons b l => simp at h
      rfl
    | succ t =>
      rw [dl_s, ap_dt l t x (by simpa using h)]
      exact dt_congr _ _ _ (fun i hi => by congr 1; omega)
theorem Sb.bound' {l : List Rat} (h : Sb l) (h2 : 2 ≤ l.length) : ∃ w : Rat, 0 < w ∧ ∀ (x : Sq) (n : Nat), w * (x n * x n) ≤ En (n + (l.length - 1)) (ap l x) := by
  obtain ⟨w, hw, h⟩ := h.bound h2
  refine ⟨w, hw, fun x n => ?_⟩
  have h1 := h x n
  have h3 := En_nn (n + (l.length - 1)) (ap l.reverse x)
  unfold Hgp at h1
  grind
theorem En_zero {n : Nat} {y : Sq} (m : Nat) (h : ∀ t, m ≤ t → t < m + n → y t = 0) : En (m + n) y = En m y := by
  induction n with
  | zero => rfl
  | succ n ih =>
    rw [← Nat.add_assoc, En_s, ih (fun t h1 h2 => h t h1 (by omega)), h (m + n) (by omega) (by omega)]
    grind
theorem sb_mul {p a P : List Rat} {n m : Nat} {c : Rat} (hp : Sb p) (ha : Sb a) (ln : p.length = n + 1) (lm : a.length = m + 1) (hm : m ≤ 3) (h1 : ∀ x, ap P x = ap a (ap p x)) (h2 : ∀ x, ap P.reverse x = ap a.reverse (ap p.reverse x)) (lP : P.length = n + m + 1)
    {ar : List Rat} (hr : a.reverse = c :: ar) (hc : c ≠ 0)
    (back : ∀ x : Sq, (∀ j, m ≤ j → j < n + m → ap a x j = 0) → ∃ y : Sq, (∀ t, t < n + m → y t = x (n + m - 1 - t)) ∧ ∀ t, m ≤ t → ap a.reverse y t = 0) : Sb P := by
  by_cases n0 : n = 0
  · subst n0
    obtain ⟨p', rfl⟩ := hp.head
    obtain rfl : p' = [] := by simpa using ln
    have e1 : ∀ x, ap [1] x = x := fun x => by funext t; exact ap_head [] x t (fun j hj hl => by simp at hl; omega)
    have : P = a := by
      apply List.ext_getElem
      · omega
      · intro i i1 i2
        have h3 := congrFun (h1 dta) i
        rw [e1, ap_dta, ap_dta] at h3
        simpa [List.getD, i1, i2] using h3
    rw [this]; exact ha
  by_cases m0 : m = 0
  · subst m0
    obtain ⟨a', rfl⟩ := ha.head
    obtain rfl : a' = [] := by simpa using lm
    have e1 : ∀ x, ap [1] x = x := fun x => by funext t; exact ap_head [] x t (fun j hj hl => by simp at hl; omega)
    have : P = p := by
      apply List.ext_getElem
      · omega
      · intro i i1 i2
        have h3 := congrFun (h1 dta) i
        rw [e1, ap_dta, ap_dta] at h3
        simpa [List.getD, i1, i2] using h3
    rw [this]; exact hp
  -- the key: what is nought in the gaps is nought
  have key : ∀ x : Sq, (∀ j, m ≤ j → j < n + m → ap a x j = 0) → (∀ j, n ≤ j → j < n + m → ap p.reverse x j = 0) → ∀ j, j < n + m → x j = 0 := by
    intro x hx1 hx2
    obtain ⟨y, y1, y2⟩ := back x hx1
    -- y goes on as p has it
    have A1 : ∀ t, n ≤ t → t < n + m → ap p y t = 0 := by
      intro t t1 t2
      rw [ap_dt p t y (by omega)]
      have h3 := hx2 (n + (n + m - 1 - t)) (by omega) (by omega)
      rw [ap_dt p.reverse _ x (by simp; omega), dt_rev] at h3
      rw [← h3]
      refine dt_congr _ _ _ (fun i hi => ?_)
      show y (t - i) = x (n + (n + m - 1 - t) - (p.length - 1 - i))
      rw [y1 (t - i) (by omega)]
      congr 1
      omega
    have A2 : ∀ t, n ≤ t → ap p y t = 0 := by
      intro t
      induction t using Nat.strongRecOn with
      | _ t ih =>
        intro ht
        by_cases t2 : t < n + m
        · exact A1 t ht t2
        · have h3 : ap a.reverse (ap p y) t = 0 := by
            rw [ap_comm p y a.reverse]
            have : ∀ (l : List Rat) (z : Sq) (d t : Nat), (∀ j, d ≤ j → z j = 0) → d + l.length ≤ t + 1 → ap l z t = 0 := by
              intro l z
              induction l with
              | nil => intros; rfl
              | cons b l ih =>
                intro d t hz ht
                rw [ap_cons, hz t (by simp at ht; omega)]
                cases t with
                | zero => rw [dl_z]; grind
                | succ t =>
                  rw [dl_s, ih d t hz (by simp at ht; omega)]
                  grind
            exact this p _ m t y2 (by omega)
          rw [hr, ap_dt _ t _ (by have := congrArg List.length hr; simp at this ⊢; omega)] at h3
          simp only [dt] at h3
          have h4 : dt ar (fun i => ap p y (t - (i + 1))) = dt ar (fun _ => 0) := dt_congr _ _ _ (fun i hi => ih (t - (i + 1)) (by omega) (by have := congrArg List.length hr; simp at this; omega))
          have h5 : ∀ l : List Rat, dt l (fun _ => 0) = 0 := by
            intro l
            induction l with
            | nil => rfl
            | cons b l ih => show b * 0 + dt l (fun _ => 0) = 0; rw [ih]; grind
          rw [h4, h5, Nat.sub_zero] at h3
          have h6 : c * ap p y t = 0 := by grind
          rcases Rat.mul_eq_zero.mp h6 with h7 | h7
          · exact absurd h7 hc
          · exact h7
    obtain ⟨w, hw, hb⟩ := hp.bound' (by omega)
    obtain ⟨C, hC⟩ := mf hw hb A2
    -- so nothing stands in y behind the first m
    have Y : ∀ k, m ≤ k → y k = 0 := by
      intro k hk
      refine Classical.byContradiction fun hne => ?_
      obtain ⟨w2, hw2, hb2⟩ := ha.bound' (by omega)
      obtain ⟨C2, c0, hC2⟩ := ap_bdd a
      have hy0 : 0 < y k * y k := by
        have h3 := sq_nn (y k)
        by_cases h4 : y k * y k = 0
        · rcases Rat.mul_eq_zero.mp h4 with h5 | h5 <;> exact absurd h5 hne
        · grind
      have hμ : 0 < w2 * (y k * y k) := Rat.mul_pos hw2 hy0
      -- late ones are not little
      have late : ∀ T, k + 3 ≤ T → w2 * (y k * y k) ≤ C2 * (y T * y T + y (T - 1) * y (T - 1) + y (T - 2) * y (T - 2)) := by
        intro T hT
        have h3 := hb2 (fun t => y (T - t)) (T - k)
        simp only [show T - (T - k) = k by omega] at h3
        have h4 : En (T - k + (a.length - 1)) (ap a fun t => y (T - t)) = En m (ap a fun t => y (T - t)) := by
          have e : T - k + (a.length - 1) = m + (T - k) := by omega
          rw [e]
          refine En_zero m (fun t t1 t2 => ?_)
          rw [ap_dt a t _ (by omega)]
          have h5 := y2 (T - t + m) (by omega)
          rw [ap_dt a.reverse _ y (by simp; omega), dt_rev] at h5
          rw [← h5]
          refine dt_congr _ _ _ (fun i hi => ?_)
          show y (T - (t - i)) = y (T - t + m - (a.length - 1 - i))
          congr 1
          omega
        rw [h4] at h3
        have h6 := hC2 (fun t => y (T - t)) m
        have h7 : En m (fun t => y (T - t)) ≤ En 3 (fun t => y (T - t)) := En_mono hm _
        have h8 : En 3 (fun t => y (T - t)) = y T * y T + y (T - 1) * y (T - 1) + y (T - 2) * y (T - 2) := by
          simp only [En, Nat.sub_zero]; grind
        have h9 := Rat.mul_le_mul_of_nonneg_left h7 c0
        rw [h8] at h9
        grind
      have c2 : 0 < C2 := by
        have h3 := late (k + 3) (Nat.le_refl _)
        by_cases h4 : C2 = 0
        · rw [h4] at h3; grind
        · grind
      refine grows (y := fun t => y (t + k)) (μ := w2 * (y k * y k) / C2) (w := w) (C := C) (by
        rw [Rat.div_def]; exact Rat.mul_pos hμ (Rat.inv_pos.mpr c2)) (fun t ht => ?_) hw ?_
      · have h3 := late (t + 2 + k) (by omega)
        simp only [show t + 2 + k - 1 = t + 1 + k by omega, show t + 2 + k - 2 = t + k by omega] at h3
        rcases (Rat.le_total : w2 * (y k * y k) / C2 ≤ y (t + k) * y (t + k) + y (t + 1 + k) * y (t + 1 + k) + y (t + 2 + k) * y (t + 2 + k) ∨ _) with h4 | h4
        · exact h4
        · have h5 := Rat.mul_le_mul_of_nonneg_left h4 (show 0 ≤ C2 by grind)
          have h6 : C2 * (w2 * (y k * y k) / C2) = w2 * (y k * y k) := by grind
          have h7 : C2 * (y (t + k) * y (t + k) + y (t + 1 + k) * y (t + 1 + k) + y (t + 2 + k) * y (t + 2 + k)) = C2 * (w2 * (y k * y k) / C2) := by grind
          have h8 : y (t + k) * y (t + k) + y (t + 1 + k) * y (t + 1 + k) + y (t + 2 + k) * y (t + 2 + k) = w2 * (y k * y k) / C2 := by
            have h9 : C2 * (y (t + k) * y (t + k) + y (t + 1 + k) * y (t + 1 + k) + y (t + 2 + k) * y (t + 2 + k) - w2 * (y k * y k) / C2) = 0 := by grind
            rcases Rat.mul_eq_zero.mp h9 with h10 | h10
            · grind
            · grind
          rw [h8]
          exact Rat.le_refl
      · intro T
        have h3 := hC (T + k)
        have h4 : En (T + 1) (fun s => y (T - s + k)) = En (T + 1) (fun s => y (T + k - s)) := En_congr _ _ _ (fun s hs => by congr 1; omega)
        have h5 : En (T + 1) (fun s => y (T + k - s)) ≤ En (T + k + 1) (fun s => y (T + k - s)) := En_mono (by omega) _
        show w * En (T + 1) (fun s => y (T - s + k)) ≤ C
        rw [h4]
        have := Rat.mul_le_mul_of_nonneg_left h5 (show 0 ≤ w by grind)
        grind
    -- and nothing in the first ones
    have Z : ∀ d k, k + d = m → y k = 0 := by
      intro d
      induction d using Nat.strongRecOn with
      | _ d ih =>
        intro k hk
        by_cases hd : d = 0
        · exact Y k (by omega)
        · have h3 := y2 (k + m) (by omega)
          rw [ap_dt a.reverse _ y (by simp; omega), dt_rev] at h3
          obtain ⟨a', rfl⟩ := ha.head
          simp only [dt] at h3
          have h4 : dt a' (fun i => y (k + m - ((1 :: a').length - 1 - (i + 1)))) = dt a' (fun _ => 0) := dt_congr _ _ _ (fun i hi => by
            have e : k + m - ((1 :: a').length - 1 - (i + 1)) = k + (i + 1) := by simp at lm ⊢; omega
            rw [e]
            by_cases hh : m ≤ k + (i + 1)
            · exact Y _ hh
            · exact ih (m - (k + (i + 1))) (by omega) _ (by omega))
          have h5 : ∀ l : List Rat, dt l (fun _ => 0) = 0 := by
            intro l
            induction l with
            | nil => rfl
            | cons b l ih => show b * 0 + dt l (fun _ => 0) = 0; rw [ih]; grind
          rw [h4, h5] at h3
          have e : k + m - ((1 :: a').length - 1 - 0) = k := by simp at lm ⊢; omega
          rw [e] at h3
          grind
    intro j hj
    have h3 := y1 (n + m - 1 - j) (by omega)
    rw [show n + m - 1 - (n + m - 1 - j) = j by omega] at h3
    rw [← h3]
    by_cases hh : m ≤ n + m - 1 - j
    · exact Y _ hh
    · exact Z (m - (n + m - 1 - j)) _ (by omega)
  -- so the gap is above nought
  obtain ⟨P', rfl⟩ : ∃ P', P = 1 :: P' := by
    cases P with
    | nil => simp at lP
    | cons b P =>
      have h3 := congrFun (h1 dta) 0
      obtain ⟨a', rfl⟩ := ha.head
      obtain ⟨p', rfl⟩ := hp.head
      simp only [ap_cons, dl_z, dta] at h3
      exact ⟨P, by congr 1; simp at h3; grind⟩
  refine pd_sb _ P' rfl ?_
  intro N x hN ⟨j, hj, hx⟩
  have e : ∀ (x : Sq) (N : Nat), Hgp (1 :: P') x N = Hgp p (ap a x) N + Hgp a (ap p.reverse x) N := by
    intro x N
    unfold Hgp
    rw [h1 x, h2 x, ap_comm p x a, ap_comm p.reverse x a]
    grind
  have h3 := hp.nn (ap a x) N
  have h4 := ha.nn (ap p.reverse x) N
  by_cases hz : Hgp (1 :: P') x N = 0
  · exfalso
    rw [e] at hz
    have z1 := hp.zero (ap a x) N (by grind)
    have z2 := ha.zero (ap p.reverse x) N (by grind)
    have hN' : N ≤ n + m := by omega
    have q1 : ∀ j, m ≤ j → j < n + m → ap a (dln (n + m - N) x) j = 0 := by
      intro j j1 j2
      rw [ap_dln, dln_at]
      by_cases hh : n + m - N ≤ j
      · rw [if_pos hh]; exact z1 _ (by omega) (by omega)
      · rw [if_neg hh]
    have q2 : ∀ j, n ≤ j → j < n + m → ap p.reverse (dln (n + m - N) x) j = 0 := by
      intro j j1 j2
      rw [ap_dln, dln_at]
      by_cases hh : n + m - N ≤ j
      · rw [if_pos hh]; exact z2 _ (by omega) (by omega)
      · rw [if_neg hh]
    have := key _ q1 q2 (j + (n + m - N)) (by omega)
    rw [dln_at, if_pos (by omega)] at this
    exact hx (by rw [← this]; congr 1; omega)
  · rw [e] at hz ⊢
    grind
end G
set_option Elab.async false
set_option linter.all false
set_option maxRecDepth 100000
set_option maxHeartbeats 4000000
/-! S5: parts of degree one and two; which products stay within -/
namespace G
set_option autoImplicit false
theorem ap2 (a b : Rat) (x : Sq) (t : Nat) : ap [a, b] x t = a * x t + b * dl x t := by
  rw [ap_cons]
  cases t with
  | zero => simp only [dl_z]; grind
  | succ t => simp only [dl_s, ap_cons]; cases t <;> simp only [dl_z, dl_s, ap_nil] <;> grind
theorem ap3 (a b c : Rat) (x : Sq) (t : Nat) : ap [a, b, c] x t = a * x t + b * dl x t + c * dl (dl x) t := by
  rw [ap_cons]
  cases t with
  | zero => simp only [dl_z]; grind
  | succ t => simp only [dl_s, ap2]; grind
def linL (b : Rat) (p : List Rat) : List Rat := List.zipWith (fun a e => a + b * e) (p ++ [0]) (0 :: p)
def quadL (b c : Rat) (p : List Rat) : List Rat := List.zipWith (fun a e => a + c * e) (linL b p ++ [0]) (0 :: 0 :: p)
theorem linL_len (b : Rat) (p : List Rat) : (linL b p).length = p.length + 1 := by simp [linL]
theorem quadL_len (b c : Rat) (p : List Rat) : (quadL b c p).length = p.length + 2 := by simp [quadL, linL_len]
theorem ap_linL (b : Rat) (p : List Rat) (x : Sq) : ap (linL b p) x = ap [1, b] (ap p x) := by
  funext t
  unfold linL
  rw [ap_zip b x _ _ (by simp), ap_snoc, ap_zero, ap2]
  grind
theorem ap_linL_rev (b : Rat) (p : List Rat) (x : Sq) : ap (linL b p).reverse x = ap [b, 1] (ap p.reverse x) := by
  funext t
  unfold linL
  rw [rev_zip _ _ _ (by simp), ap_zip b x _ _ (by simp), ap2]
  simp only [List.reverse_append, List.reverse_cons, List.reverse_nil, List.nil_append, List.cons_append, ap_zero, ap_snoc]
  grind
theorem ap_quadL (b c : Rat) (p : List Rat) (x : Sq) : ap (quadL b c p) x = ap [1, b, c] (ap p x) := by
  funext t
  unfold quadL
  rw [ap_zip c x _ _ (by simp [linL_len]), ap_snoc, ap_zero, ap_zero, ap_linL]
  simp only [ap2, ap3]
theorem ap_quadL_rev (b c : Rat) (p : List Rat) (x : Sq) : ap (quadL b c p).reverse x = ap [c, b, 1] (ap p.reverse x) := by
  funext t
  unfold quadL
  rw [rev_zip _ _ _ (by simp [linL_len]), ap_zip c x _ _ (by simp [linL_len])]
  simp only [List.reverse_append, List.reverse_cons, List.reverse_nil, List.nil_append, List.cons_append, List.append_assoc, ap_zero]
  have e : ap (p.reverse ++ [0, 0]) x = ap p.reverse x := by
    rw [show p.reverse ++ [0, 0] = (p.reverse ++ [0]) ++ [0] by simp, ap_snoc, ap_snoc]
  rw [e, ap_linL_rev, ap3]
  cases t with
  | zero => simp only [dl_z]; grind
  | succ t => simp only [dl_s, ap2]; grind
/-- a part is within by its own things -/
def Stb (b c : Rat) : Prop := c * c < 1 ∧ -(1 + c) < b ∧ b < 1 + c
theorem sb_lin {b : Rat} (h : b * b < 1) : Sb [1, b] := by
  have := Sb.next h .one
  have e : Lat [1] b = [1, b] := by
    unfold Lat
    simp
    refine ⟨by grind, by grind⟩
  rwa [e] at this
theorem Stb.pos {b c : Rat} (h : Stb b c) : 0 < 1 + c := by
  obtain ⟨h1, h2, h3⟩ := h
  grind
theorem sb_quad {b c : Rat} (h : Stb b c) : Sb [1, b, c] := by
  have hp := h.pos
  obtain ⟨h1, h2, h3⟩ := h
  let k := b / (1 + c)
  have hk : k * (1 + c) = b := Rat.div_mul_cancel (by grind)
  have k1 : k * k < 1 := by
    have h4 : b * b < (1 + c) * (1 + c) := by
      have := Rat.mul_pos (show 0 < 1 + c - b by grind) (show 0 < 1 + c + b by grind)
      grind
    have h5 : 0 < (1 + c) * (1 + c) := Rat.mul_pos hp hp
    refine Classical.byContradiction fun h6 => ?_
    have h7 := Rat.mul_le_mul_of_nonneg_left (show 1 ≤ k * k by grind) (show 0 ≤ (1 + c) * (1 + c) by grind)
    have h8 : (1 + c) * (1 + c) * (k * k) = b * b := by rw [← hk]; grind
    grind
  have := Sb.next h1 (sb_lin k1)
  have e : Lat [1, k] c = [1, b, c] := by
    unfold Lat
    simp
    refine ⟨by grind, by grind⟩
  rwa [e] at this
theorem Sb.lin {b : Rat} {p : List Rat} (hp : Sb p) (h : b * b < 1) : Sb (linL b p) := by
  by_cases h0 : b = 0
  · subst h0
    have : linL 0 p = p ++ [0] := by
      apply List.ext_getElem
      · simp [linL]
      · intro i h1 h2
        simp [linL]
        grind
    rw [this]
    exact Sb.pad.mpr hp
  obtain ⟨p', e⟩ := hp.head
  refine sb_mul (n := p'.length) (m := 1) (c := b) (ar := [1]) hp (sb_lin h) (by rw [e]; rfl) rfl (by omega) (ap_linL b p) (ap_linL_rev b p) (by rw [linL_len, e]; simp) rfl h0 ?_
  intro x hx
  let y : Sq := fun t => Nat.rec (x p'.length) (fun _ u => -u / b) t
  have ys : ∀ t, y (t + 1) = -y t / b := fun t => rfl
  have yb : ∀ t, b * y (t + 1) = -y t := fun t => by rw [ys]; grind
  refine ⟨y, ?_, ?_⟩
  · intro t
    induction t with
    | zero => intro _; show x p'.length = _; congr 1
    | succ t ih =>
      intro ht
      have h1 := hx (p'.length - t) (by omega) (by omega)
      rw [ap2, show p'.length - t = (p'.length - (t + 1)) + 1 by omega, dl_s] at h1
      have h2 := ih (by omega)
      have h3 := yb t
      rw [h2, show p'.length + 1 - 1 - t = p'.length - (t + 1) + 1 by omega] at h3
      have h4 : b * (y (t + 1) - x (p'.length - (t + 1))) = 0 := by grind
      rcases Rat.mul_eq_zero.mp h4 with h5 | h5
      · exact absurd h5 h0
      · rw [show p'.length + 1 - 1 - (t + 1) = p'.length - (t + 1) by omega]; grind
  · intro t ht
    obtain ⟨t, rfl⟩ : ∃ s, t = s + 1 := ⟨t - 1, by omega⟩
    show ap [b, 1] y (t + 1) = 0
    rw [ap2, dl_s]
    have := yb t
    grind
/-- a pair that goes on -/
def pr (r s u v : Rat) : Nat → Rat × Rat
  | 0 => (u, v)
  | t + 1 => ((pr r s u v t).2, r * (pr r s u v t).2 + s * (pr r s u v t).1)
theorem pr_s (r s u v : Rat) (t : Nat) : (pr r s u v (t + 2)).1 = r * (pr r s u v (t + 1)).1 + s * (pr r s u v t).1 := rfl
theorem Sb.quad {b c : Rat} {p : List Rat} (hp : Sb p) (h : Stb b c) (h0 : c ≠ 0) : Sb (quadL b c p) := by
  obtain ⟨p', e⟩ := hp.head
  refine sb_mul (n := p'.length) (m := 2) (c := c) (ar := [b, 1]) hp (sb_quad h) (by rw [e]; rfl) rfl (by omega) (ap_quadL b c p) (ap_quadL_rev b c p) (by rw [quadL_len, e]; simp) rfl h0 ?_
  intro x hx
  let y : Sq := fun t => (pr (-b / c) (-1 / c) (x (p'.length + 1)) (x p'.length) t).1
  have yb : ∀ t, c * y (t + 2) + b * y (t + 1) + y t = 0 := fun t => by
    have : y (t + 2) = -b / c * y (t + 1) + -1 / c * y t := pr_s _ _ _ _ t
    rw [this]
    grind
  have y0 : y 0 = x (p'.length + 1) := rfl
  have y1 : y 1 = x p'.length := rfl
  refine ⟨y, ?_, ?_⟩
  · intro t
    induction t using Nat.strongRecOn with
    | _ t ih =>
      intro ht
      match t, ih, ht with
      | 0, _, _ => rw [y0]; congr 1
      | 1, _, _ => rw [y1]; congr 1
      | t + 2, ih, ht =>
        have h1 := hx (p'.length - (t + 1) + 2) (by omega) (by omega)
        rw [ap3, dl_s, dl_s, dl_s] at h1
        have i1 := ih t (by omega) (by omega)
        have i2 := ih (t + 1) (by omega) (by omega)
        rw [show p'.length + 2 - 1 - t = p'.length - (t + 1) + 2 by omega] at i1
        rw [show p'.length + 2 - 1 - (t + 1) = p'.length - (t + 1) + 1 by omega] at i2
        have h3 := yb t
        rw [i1, i2] at h3
        have h4 : c * (y (t + 2) - x (p'.length - (t + 1))) = 0 := by grind
        rcases Rat.mul_eq_zero.mp h4 with h5 | h5
        · exact absurd h5 h0
        · rw [show p'.length + 2 - 1 - (t + 2) = p'.length - (t + 1) by omega]; grind
  · intro t ht
    obtain ⟨t, rfl⟩ : ∃ s, t = s + 2 := ⟨t - 2, by omega⟩
    show ap [c, b, 1] y (t + 2) = 0
    rw [ap3, dl_s, dl_s, dl_s]
    have := yb t
    grind
/-! the other way about: what is not within itself goes on -/
theorem rise {c d : Rat} (hc : c * c < 1) (hd : 1 + c ≤ d) {g : Sq} (g0 : g 0 = 1) (g1 : g 1 = d) (gs : ∀ t, g (t + 2) = d * g (t + 1) - c * g t) : ∃ μ : Rat, 0 < μ ∧ ∀ t, μ ≤ g t := by
  have hp : 0 < 1 + c := by
    refine Classical.byContradiction fun h => ?_
    have := Rat.mul_le_mul_of_nonneg_left (show 1 ≤ -c by grind) (show 0 ≤ -c by grind)
    grind
  rcases (Rat.le_total : 0 ≤ c ∨ c ≤ 0) with h0 | h0
  · refine ⟨1, by grind, fun t => ?_⟩
    have : ∀ t, 1 ≤ g t ∧ g t ≤ g (t + 1) := by
      intro t
      induction t with
      | zero => rw [g0, g1]; grind
      | succ t ih =>
        obtain ⟨i1, i2⟩ := ih
        refine ⟨by grind, ?_⟩
        have e := gs t
        have h1 := Rat.mul_le_mul_of_nonneg_right hd (show 0 ≤ g (t + 1) by grind)
        have h2 := Rat.mul_nonneg h0 (show 0 ≤ g (t + 1) - g t by grind)
        rw [show t + 1 + 1 = t + 2 by omega, e]
        grind
    exact (this t).1
  · refine ⟨1 + c, hp, fun t => ?_⟩
    have : ∀ t, 1 + c ≤ g t ∧ 1 + c ≤ g (t + 1) := by
      intro t
      induction t with
      | zero => rw [g0, g1]; grind
      | succ t ih =>
        obtain ⟨i1, i2⟩ := ih
        refine ⟨i2, ?_⟩
        have e := gs t
        have h1 := Rat.mul_le_mul_of_nonneg_right hd (show 0 ≤ g (t + 1) by grind)
        have h2 := Rat.mul_nonneg (show 0 ≤ -c by grind) (show 0 ≤ g t - (1 + c) by grind)
        have h3 := Rat.mul_nonneg (show 0 ≤ 1 + c by grind) (show 0 ≤ g (t + 1) - (1 + c) by grind)
        rw [show t + 1 + 1 = t + 2 by omega, e]
        grind
    exact (this t).1
theorem not_stb {b c : Rat} (h : ¬ Stb b c) : ∃ (y : Sq) (μ : Rat), 0 < μ ∧ (∀ t, ap [1, b, c] y t = dta t) ∧ ∀ t, μ ≤ y t * y t + y (t + 1) * y (t + 1) + y (t + 2) * y (t + 2) := by
  let y : Sq := fun t => (pr (-b) (-c) 1 (-b) t).1
  have y0 : y 0 = 1 := rfl
  have y1 : y 1 = -b := rfl
  have ys : ∀ t, y (t + 2) = -b * y (t + 1) + -c * y t := fun t => pr_s _ _ _ _ t
  have hy : ∀ t, ap [1, b, c] y t = dta t := by
    intro t
    rw [ap3]
    match t with
    | 0 => simp only [dl_z, y0, dta]; grind
    | 1 => simp only [dl_s, dl_z, y0, y1, dta]; grind
    | t + 2 =>
      have := ys t
      have e : dta (t + 2) = 0 := rfl
      rw [dl_s, dl_s, dl_s, e]
      grind
  by_cases hc : c * c < 1
  · rcases (show 1 + c ≤ b ∨ b ≤ -(1 + c) by
      refine Classical.byContradiction fun h2 => h ⟨hc, ?_, ?_⟩ <;> grind) with hb | hb
    · -- signs by turns
      let g : Sq := fun t => (pr b (-c) 1 b t).1
      have gs : ∀ t, g (t + 2) = b * g (t + 1) - c * g t := fun t => by
        have : g (t + 2) = b * g (t + 1) + -c * g t := pr_s _ _ _ _ t
        rw [this]; grind
      obtain ⟨μ, m0, hm⟩ := rise hc hb (g := g) rfl rfl gs
      have same : ∀ t, y t * y t = g t * g t ∧ y (t + 1) * y (t + 1) = g (t + 1) * g (t + 1) ∧ y t * y (t + 1) = -(g t * g (t + 1)) := by
        intro t
        induction t with
        | zero =>
          have e1 : g 0 = 1 := rfl
          have e2 : g 1 = b := rfl
          rw [y0, y1, e1, e2]; grind
        | succ t ih =>
          obtain ⟨i1, i2, i3⟩ := ih
          have a1 := ys t
          have a2 := gs t
          refine ⟨i2, ?_, ?_⟩
          · rw [show t + 1 + 1 = t + 2 by omega, a1, a2]; grind
          · rw [show t + 1 + 1 = t + 2 by omega, a1, a2]; grind
      refine ⟨y, μ * μ, Rat.mul_pos m0 m0, hy, fun t => ?_⟩
      rw [(same t).1]
      have h1 := hm t
      have h2 := Rat.mul_nonneg (show 0 ≤ g t - μ by grind) (show 0 ≤ g t + μ by grind)
      have := sq_nn (y (t + 1))
      have := sq_nn (y (t + 2))
      grind
    · obtain ⟨μ, m0, hm⟩ := rise (d := -b) hc (by grind) (g := y) y0 y1 (fun t => by rw [ys]; grind)
      refine ⟨y, μ * μ, Rat.mul_pos m0 m0, hy, fun t => ?_⟩
      have h1 := hm t
      have h2 := Rat.mul_nonneg (show 0 ≤ y t - μ by grind) (show 0 ≤ y t + μ by grind)
      have := sq_nn (y (t + 1))
      have := sq_nn (y (t + 2))
      grind
  · refine ⟨y, 1, by grind, hy, fun t => ?_⟩
    have K : ∀ t, 1 ≤ (y (t + 1) * y (t + 1) - y t * y (t + 2)) * (y (t + 1) * y (t + 1) - y t * y (t + 2)) := by
      intro t
      induction t with
      | zero =>
        have := ys 0
        simp only [Nat.zero_add] at this ⊢
        rw [this, y0, y1]
        grind
      | succ t ih =>
        have a1 := ys t
        have a2 := ys (t + 1)
        have e : y (t + 1 + 1) * y (t + 1 + 1) - y (t + 1) * y (t + 1 + 2) = c * (y (t + 1) * y (t + 1) - y t * y (t + 2)) := by
          rw [show t + 1 + 1 = t + 2 by omega, show t + 1 + 2 = t + 3 by omega] at *
          rw [show t + 1 + 2 = t + 3 by omega] at a2
          rw [a2, a1]; grind
        rw [e]
        have := Rat.mul_le_mul_of_nonneg_right (show 1 ≤ c * c by grind) (sq_nn (y (t + 1) * y (t + 1) - y t * y (t + 2)))
        grind
    have k := K t
    generalize hk : y (t + 1) * y (t + 1) - y t * y (t + 2) = k0 at k
    have p1 := sq_nn (y t - y (t + 2))
    have p2 := sq_nn (y t + y (t + 2))
    have p3 := sq_nn (y (t + 1))
    refine Classical.byContradiction fun hn => ?_
    have q1 : k0 < 1 := by grind
    have q2 : -1 < k0 := by grind
    have := Rat.mul_pos (show 0 < 1 - k0 by grind) (show 0 < 1 + k0 by grind)
    grind
theorem Sb.part {P R : List Rat} {b c : Rat} (h : Sb P) (h2 : 2 ≤ P.length) (hR : ∀ x, ap P x = ap R (ap [1, b, c] x)) : Stb b c := by
  refine Classical.byContradiction fun hn => ?_
  obtain ⟨y, μ, m0, hy, hg⟩ := not_stb hn
  obtain ⟨w, hw, hb⟩ := h.bound' h2
  have e : ap P y = ap R dta := by rw [hR, show ap [1, b, c] y = dta from funext hy]
  obtain ⟨C, hC⟩ := mf hw hb (y := y) (m := R.length) (fun t ht => by rw [e, ap_dta]; simp [List.getD, ht])
  exact grows m0 (fun t _ => hg t) hw hC
end G
set_option Elab.async false
set_option linter.all false
set_option maxRecDepth 100000
set_option maxHeartbeats 4000000
/-! S6: more unknowns than rows: a small solution of whole numbers -/
namespace G
set_option autoImplicit false
/-- what goes from more to fewer meets itself -/
theorem pigeon : ∀ (n m : Nat) (f : Nat → Nat), (∀ x, x < n → f x < m) → m < n → ∃ x y, x < y ∧ y < n ∧ f x = f y
  | 0, m, f, h, hm => by omega
  | n + 1, 0, f, h, hm => by have := h 0 (by omega); omega
  | n + 1, m + 1, f, h, hm => by
    by_cases hx : ∃ x, x < n ∧ f x = f n
    · obtain ⟨x, x1, x2⟩ := hx
      exact ⟨x, n, x1, by omega, x2⟩
    · have hx' : ∀ x, x < n → f x ≠ f n := fun x hx1 hx2 => hx ⟨x, hx1, hx2⟩
      -- put the last number in place of that of n
      have h' : ∀ x, x < n → (if f x = m then f n else f x) < m := by
        intro x hxn
        have h1 := h x (by omega)
        have h2 := h n (by omega)
        have h3 := hx' x hxn
        by_cases e : f x = m
        · rw [if_pos e]
          omega
        · rw [if_neg e]; omega
      obtain ⟨x, y, e1, e2, e3⟩ := pigeon n m (fun x => if f x = m then f n else f x) h' (by omega)
      refine ⟨x, y, e1, by omega, ?_⟩
      have h3 := hx' x (by omega)
      have h4 := hx' y (by omega)
      by_cases c1 : f x = m
      · by_cases c2 : f y = m
        · rw [c1, c2]
        · rw [if_pos c1, if_neg c2] at e3; exact absurd e3.symm h4
      · by_cases c2 : f y = m
        · rw [if_neg c1, if_pos c2] at e3; exact absurd e3 h3
        · rw [if_neg c1, if_neg c2] at e3; exact e3
/-- a number's digits -/
def dg (b x j : Nat) : Nat := x / b ^ j % b
theorem dg_lt {b : Nat} (hb : 0 < b) (x j : Nat) : dg b x j < b := Nat.mod_lt _ hb
theorem dg_eq {b : Nat} (hb : 0 < b) : ∀ (n x y : Nat), x < b ^ n → y < b ^ n → (∀ j, j < n → dg b x j = dg b y j) → x = y
  | 0, x, y, hx, hy, _ => by simp at hx hy; omega
  | n + 1, x, y, hx, hy, h => by
    have h0 := h 0 (by omega)
    simp only [dg, Nat.pow_zero, Nat.div_one] at h0
    have hx' : x / b < b ^ n := by rw [Nat.div_lt_iff_lt_mul hb]; rwa [Nat.pow_succ] at hx
    have hy' : y / b < b ^ n := by rw [Nat.div_lt_iff_lt_mul hb]; rwa [Nat.pow_succ] at hy
    have := dg_eq hb n (x / b) (y / b) hx' hy' (fun j hj => by
      have := h (j + 1) (by omega)
      simp only [dg] at this ⊢
      rw [Nat.pow_succ, Nat.mul_comm, ← Nat.div_div_eq_div_mul, ← Nat.div_div_eq_div_mul] at this
      exact this)
    rw [← Nat.div_add_mod x b, ← Nat.div_add_mod y b, this, h0]
/-- the number of given digits -/
def un (b : Nat) (d : Nat → Nat) : Nat → Nat
  | 0 => 0
  | n + 1 => un b d n + d n * b ^ n
theorem un_lt {b : Nat} (d : Nat → Nat) : ∀ n, (∀ j, j < n → d j < b) → un b d n < b ^ n
  | 0, _ => by simp [un]
  | n + 1, h => by
    have h1 := un_lt d n (fun j hj => h j (by omega))
    have h2 := h n (by omega)
    have h3 : (d n + 1) * b ^ n ≤ b * b ^ n := Nat.mul_le_mul_right _ h2
    simp only [un]
    rw [Nat.pow_succ, Nat.mul_comm (b ^ n) b]
    rw [Nat.add_mul] at h3
    omega
theorem un_eq {b : Nat} (hb : 0 < b) (d e : Nat → Nat) : ∀ n, (∀ j, j < n → d j < b) → (∀ j, j < n → e j < b) → un b d n = un b e n → ∀ j, j < n → d j = e j
  | 0, _, _, _, j, hj => by omega
  | n + 1, hd, he, h, j, hj => by
    have h1 := un_lt d n (fun j hj => hd j (by omega))
    have h2 := un_lt e n (fun j hj => he j (by omega))
    simp only [un] at h
    have hp : 0 < b ^ n := Nat.pow_pos hb
    have h3 : d n = e n := by
      have a1 : (un b d n + d n * b ^ n) / b ^ n = d n := by rw [Nat.add_mul_div_right _ _ hp, Nat.div_eq_of_lt h1]; omega
      have a2 : (un b e n + e n * b ^ n) / b ^ n = e n := by rw [Nat.add_mul_div_right _ _ hp, Nat.div_eq_of_lt h2]; omega
      rw [← a1, ← a2, h]
    rw [h3] at h
    by_cases e1 : j = n
    · subst e1; exact h3
    · exact un_eq hb d e n (fun j hj => hd j (by omega)) (fun j hj => he j (by omega)) (by omega) j (by omega)
/-- sums of whole numbers -/
def sI (f : Nat → Int) : Nat → Int
  | 0 => 0
  | n + 1 => sI f n + f n
theorem sI_sub (f g : Nat → Int) : ∀ n, sI (fun j => f j - g j) n = sI f n - sI g n
  | 0 => rfl
  | n + 1 => by simp only [sI]; rw [sI_sub f g n]; omega
theorem sI_le {f : Nat → Int} {c : Int} : ∀ n, (∀ j, j < n → -c ≤ f j ∧ f j ≤ c) → -((n : Int) * c) ≤ sI f n ∧ sI f n ≤ (n : Int) * c
  | 0, _ => by simp [sI]
  | n + 1, h => by
    have := sI_le n (fun j hj => h j (by omega))
    have h2 := h n (by omega)
    simp only [sI]
    have e : ((n + 1 : Nat) : Int) * c = (n : Int) * c + c := by push_cast; rw [Int.add_mul]; omega
    rw [e]
    omega
theorem sI_congr {f g : Nat → Int} : ∀ n, (∀ j, j < n → f j = g j) → sI f n = sI g n
  | 0, _ => rfl
  | n + 1, h => by simp only [sI]; rw [sI_congr n (fun j hj => h j (by omega)), h n (by omega)]
/-- more unknowns than rows -/
theorem siegel (A : Nat → Nat → Int) (N e M : Nat) (hM : 0 < M) (he : e < N) (hA : ∀ i j, i < e → j < N → -(M : Int) ≤ A i j ∧ A i j ≤ M) :
    ∃ v : Nat → Int, (∃ j, j < N ∧ v j ≠ 0) ∧ (∀ j, j < N → -(((2 * N * M) ^ e : Nat) : Int) ≤ v j ∧ v j ≤ (((2 * N * M) ^ e : Nat) : Int)) ∧ ∀ i, i < e → sI (fun j => A i j * v j) N = 0 := by
  have hN : 0 < N := by omega
  generalize hH : (2 * N * M) ^ e = H
  have hNM : 0 < 2 * N * M := Nat.mul_pos (by omega) hM
  have hW : ∀ i x, i < e → -(((N * M * H : Nat)) : Int) ≤ sI (fun j => A i j * (dg (H + 1) x j : Int)) N ∧ sI (fun j => A i j * (dg (H + 1) x j : Int)) N ≤ ((N * M * H : Nat) : Int) := by
    intro i x hi
    have h1 := sI_le (f := fun j => A i j * (dg (H + 1) x j : Int)) (c := (M * H : Nat)) N (fun j hj => by
      have h2 := hA i j hi hj
      have h3 := dg_lt (b := H + 1) (by omega) x j
      have h4 : (0 : Int) ≤ (dg (H + 1) x j : Int) := by omega
      have h5 : (dg (H + 1) x j : Int) ≤ H := by omega
      have a1 : A i j * (dg (H + 1) x j : Int) ≤ M * (dg (H + 1) x j : Int) := Int.mul_le_mul_of_nonneg_right h2.2 h4
      have a2 : -(M : Int) * (dg (H + 1) x j : Int) ≤ A i j * (dg (H + 1) x j : Int) := Int.mul_le_mul_of_nonneg_right h2.1 h4
      have a3 : (M : Int) * (dg (H + 1) x j : Int) ≤ M * H := Int.mul_le_mul_of_nonneg_left h5 (by omega)
      rw [Int.neg_mul] at a2
      push_cast
      omega)
    rw [Nat.mul_assoc]
    push_cast at h1 ⊢
    exact h1
  -- the outcomes in one number
  let out : Nat → Nat := fun x => un (2 * (N * M * H) + 1) (fun i => (sI (fun j => A i j * (dg (H + 1) x j : Int)) N + ((N * M * H : Nat) : Int)).toNat) e
  have hd : ∀ x i, i < e → (sI (fun j => A i j * (dg (H + 1) x j : Int)) N + ((N * M * H : Nat) : Int)).toNat < 2 * (N * M * H) + 1 := fun x i hi => by have := hW i x hi; omega
  have hout : ∀ x, x < (H + 1) ^ N → out x < (2 * (N * M * H) + 1) ^ e := fun x _ => un_lt _ e (hd x)
  have hlt : (2 * (N * M * H) + 1) ^ e < (H + 1) ^ N := by
    have h1 : 2 * (N * M * H) + 1 ≤ (2 * N * M) * (H + 1) := by
      rw [Nat.mul_add, Nat.mul_one]
      have : 2 * (N * M * H) = 2 * N * M * H := by rw [← Nat.mul_assoc, ← Nat.mul_assoc]
      omega
    have h2 : (2 * (N * M * H) + 1) ^ e ≤ ((2 * N * M) * (H + 1)) ^ e := Nat.pow_le_pow_left h1 e
    rw [Nat.mul_pow, hH] at h2
    have h3 : (H + 1) ^ (e + 1) ≤ (H + 1) ^ N := Nat.pow_le_pow_right (by omega) (by omega)
    rw [Nat.pow_succ] at h3
    have h4 : 0 < (H + 1) ^ e := Nat.pow_pos (by omega)
    have h5 : H * (H + 1) ^ e < (H + 1) ^ e * (H + 1) := by rw [Nat.mul_comm]; exact Nat.mul_lt_mul_of_pos_left (by omega) h4
    omega
  obtain ⟨x, y, h1, h2, h3⟩ := pigeon _ _ out hout hlt
  refine ⟨fun j => (dg (H + 1) x j : Int) - (dg (H + 1) y j : Int), ?_, ?_, ?_⟩
  · refine Classical.byContradiction fun hn => ?_
    have := dg_eq (b := H + 1) (by omega) N x y (by omega) h2 (fun j hj => by
      refine Classical.byContradiction fun hne => hn ⟨j, hj, fun hz => hne ?_⟩
      have hz' : (dg (H + 1) x j : Int) - (dg (H + 1) y j : Int) = 0 := hz
      omega)
    omega
  · intro j hj
    have a1 := dg_lt (b := H + 1) (by omega) x j
    have a2 := dg_lt (b := H + 1) (by omega) y j
    show -(H : Int) ≤ (dg (H + 1) x j : Int) - (dg (H + 1) y j : Int) ∧ (dg (H + 1) x j : Int) - (dg (H + 1) y j : Int) ≤ (H : Int)
    omega
  · intro i hi
    have h4 := un_eq (by omega) _ _ e (hd x) (hd y) h3 i hi
    have a1 := hW i x hi
    have a2 := hW i y hi
    rw [sI_congr N (g := fun j => A i j * (dg (H + 1) x j : Int) - A i j * (dg (H + 1) y j : Int)) (fun j _ => by rw [Int.mul_sub]), sI_sub]
    omega
end G
set_option Elab.async false
set_option linter.all false
set_option maxRecDepth 100000
set_option maxHeartbeats 4000000
/-! S7: what is told step by step is told by small numbers -/
namespace G
set_option autoImplicit false
/-- so many steps -/
inductive Stp : Nat → List Rat → List Rat → Prop
  | zero {p : List Rat} : Stp 0 p p
  | succ {n : Nat} {p q : List Rat} {k : Rat} : k * k ≠ 1 → Stp n p q → Stp (n + 1) (Lat p k) q
theorem Stp.len {n : Nat} {p q : List Rat} (h : Stp n p q) : p.length = q.length + n := by
  induction h with
  | zero => rfl
  | succ _ _ ih => rw [lat_len, ih]; omega
theorem ap_app (v : Rat) (x : Sq) : ∀ (l : List Rat) (t : Nat), ap (l ++ [v]) x t = ap l x t + v * dln l.length x t
  | [], t => by simp only [List.nil_append, ap_cons, ap_nil, List.length_nil, dln]; cases t <;> simp only [dl_z, dl_s, ap_nil] <;> grind
  | a :: l, 0 => by simp only [List.cons_append, ap_cons, dl_z, List.length_cons, dln]; grind
  | a :: l, t + 1 => by
    simp only [List.cons_append, ap_cons, dl_s, List.length_cons, dln]
    rw [ap_app v x l t]
    grind
theorem ap_deg : ∀ (l : List Rat) (x : Sq) (m t : Nat), (∀ j, m ≤ j → x j = 0) → m + l.length ≤ t + 1 → ap l x t = 0
  | [], x, m, t, _, _ => rfl
  | a :: l, x, m, t, hz, ht => by
    rw [ap_cons, hz t (by simp at ht; omega)]
    cases t with
    | zero => rw [dl_z]; grind
    | succ t =>
      rw [dl_s, ap_deg l x m t hz (by simp at ht; omega)]
      grind
theorem ap_one (a : Rat) (x : Sq) (t : Nat) : ap [a] x t = a * x t := by
  rw [ap_cons]; cases t <;> simp only [dl_z, dl_s, ap_nil] <;> grind
theorem dta_end (p : List Rat) : ∀ j, p.length ≤ j → ap p dta j = 0 := fun j hj => by rw [ap_dta]; simp [List.getD, hj]
/-- what is made of p and of p turned about, by what vanishes at both ends -/
theorem stp_uniq {i : Nat} {p q : List Rat} (h : Stp i p q) : ∀ (A B : List Rat), 1 ≤ i → A.length = i → B.length = i → (∃ q', q = 1 :: q') → (∀ r s, Stp r p s → ∃ m, p = 1 :: m) →
    (∀ t, t < i - 1 → ap A (ap p dta) t + ap B (ap p.reverse dta) t = 0) → (∀ t, p.length - 1 ≤ t → ap A (ap p dta) t + ap B (ap p.reverse dta) t = 0) → (∃ j, A.getD j 0 ≠ 0 ∨ B.getD j 0 ≠ 0) →
    ∃ c : Rat, c ≠ 0 ∧ ∀ t, ap A (ap p dta) (t + (i - 1)) + ap B (ap p.reverse dta) (t + (i - 1)) = c * q.getD t 0 := by
  induction h with
  | zero => intro A B h; omega
  | @succ n p q k hk hq ih =>
    intro A B _ lA lB hq1 hp1 f0 f1 hne
    -- p begins with 1
    obtain ⟨m, hm⟩ : ∃ m, p = 1 :: m := by
      cases hq with
      | zero => exact hq1
      | @succ n' p' q k' hk' hq' =>
        obtain ⟨m, hm⟩ := hp1 _ _ (Stp.zero)
        have hl : 1 ≤ (Lat p' k').length := by rw [lat_len]; omega
        cases e : Lat p' k' with
        | nil => rw [e] at hl; simp at hl
        | cons a l =>
          rw [e] at hm
          unfold Lat at hm
          simp only [List.cons_append, List.zipWith_cons_cons, List.cons.injEq] at hm
          refine ⟨l, ?_⟩
          congr 1
          grind
    have lp : 1 ≤ p.length := by rw [hm]; simp
    -- the new ones
    let U := List.zipWith (fun a b => a + k * b) A B
    let V := List.zipWith (fun a b => a + k * b) B A
    have lU : U.length = n + 1 := by simp [U, lA, lB]
    have lV : V.length = n + 1 := by simp [V, lA, lB]
    have F : ∀ t, ap A (ap (Lat p k) dta) t + ap B (ap (Lat p k).reverse dta) t = ap U (ap p dta) t + dl (ap V (ap p.reverse dta)) t := by
      intro t
      rw [ap_lat, ap_lat_rev]
      have e1 := congrFun (ap_lin 1 k (ap p dta) (dl (ap p.reverse dta)) A) t
      have e2 := congrFun (ap_lin k 1 (ap p dta) (dl (ap p.reverse dta)) B) t
      have e3 : (fun t => ap p dta t + k * dl (ap p.reverse dta) t) = fun t => 1 * ap p dta t + k * dl (ap p.reverse dta) t := by funext t; grind
      have e4 : (fun t => k * ap p dta t + dl (ap p.reverse dta) t) = fun t => k * ap p dta t + 1 * dl (ap p.reverse dta) t := by funext t; grind
      rw [e3, e4, e1, e2, ap_dl, ap_dl]
      have e5 := congrFun (ap_zip k (ap p dta) A B (by omega)) t
      have e6 : dl (ap V (ap p.reverse dta)) t = dl (ap B (ap p.reverse dta)) t + k * dl (ap A (ap p.reverse dta)) t := by
        have e7 := ap_zip k (ap p.reverse dta) B A (by omega)
        show dl (ap (List.zipWith (fun a b => a + k * b) B A) (ap p.reverse dta)) t = _
        rw [e7]
        cases t with
        | zero => simp only [dl_z]; grind
        | succ t => rfl
      rw [e6]
      show _ = ap (List.zipWith (fun a b => a + k * b) A B) (ap p dta) t + _
      rw [e5]
      grind
    have hne2 : ∃ j, U.getD j 0 ≠ 0 ∨ V.getD j 0 ≠ 0 := by
      obtain ⟨j, hj⟩ := hne
      refine ⟨j, Classical.byContradiction fun hn => ?_⟩
      have hU : U.getD j 0 = A.getD j 0 + k * B.getD j 0 := by
        by_cases h : j < n + 1
        · simp [U, List.getD, h, lA, lB]
        · simp [U, List.getD, lA, lB, h]; grind
      have hV : V.getD j 0 = B.getD j 0 + k * A.getD j 0 := by
        by_cases h : j < n + 1
        · simp [V, List.getD, h, lA, lB]
        · simp [V, List.getD, lA, lB, h]; grind
      have z1 : A.getD j 0 + k * B.getD j 0 = 0 := by rw [← hU]; exact Classical.byContradiction fun h => hn (.inl h)
      have z2 : B.getD j 0 + k * A.getD j 0 = 0 := by rw [← hV]; exact Classical.byContradiction fun h => hn (.inr h)
      have z3 : A.getD j 0 * (1 - k * k) = 0 := by grind
      have z4 : A.getD j 0 = 0 := by
        rcases Rat.mul_eq_zero.mp z3 with z | z
        · exact z
        · exact absurd (by grind : k * k = 1) hk
      rw [z4] at z2
      rcases hj with h | h
      · exact h z4
      · exact h (by grind)
    have p0 : ap p dta 0 = 1 := by rw [ap_dta, hm]; rfl
    have r0 : ap p.reverse dta (p.length - 1) = 1 := by
      rw [ap_dta]
      simp [List.getD, List.getElem?_reverse, hm]
    rw [lat_len] at f1
    by_cases n0 : n = 0
    · subst n0
      cases hq
      obtain ⟨u, hu⟩ : ∃ u, U = [u] := by
        match e : U, lU with
        | [u], _ => exact ⟨u, rfl⟩
      obtain ⟨v, hv⟩ : ∃ v, V = [v] := by
        match e : V, lV with
        | [v], _ => exact ⟨v, rfl⟩
      have h1 := f1 p.length (by omega)
      rw [F, hu, hv, ap_one, dta_end p _ (by omega), show p.length = (p.length - 1) + 1 by omega, dl_s, ap_one, r0] at h1
      have hv0 : v = 0 := by grind
      refine ⟨u, ?_, fun t => ?_⟩
      · intro hu0
        obtain ⟨j, hj⟩ := hne2
        rw [hu, hv, hu0, hv0] at hj
        cases j with
        | zero => simp at hj
        | succ j => simp at hj
      · rw [F, hu, hv, ap_one, hv0]
        have : dl (ap [0] (ap p.reverse dta)) (t + (0 + 1 - 1)) = 0 := by
          have e : ap [0] (ap p.reverse dta) = fun _ => 0 := by funext t; rw [ap_one]; grind
          rw [e]; cases (t + (0 + 1 - 1)) <;> rfl
        rw [this]
        simp only [Nat.zero_add, Nat.sub_self, Nat.add_zero]
        rw [ap_dta]
        grind
    · -- the first of U, the last of V are nought
      obtain ⟨u, U', hU⟩ : ∃ u U', U = u :: U' := by
        cases e : U with
        | nil => rw [e] at lU; simp at lU
        | cons u U' => exact ⟨u, U', rfl⟩
      obtain ⟨V', v, hV⟩ : ∃ V' v, V = V' ++ [v] := by
        have : V ≠ [] := by intro z; rw [z] at lV; simp at lV
        exact ⟨V.dropLast, V.getLast this, (List.dropLast_concat_getLast this).symm⟩
      have lU' : U'.length = n := by rw [hU] at lU; simpa using lU
      have lV' : V'.length = n := by rw [hV] at lV; simpa using lV
      have hu0 : u = 0 := by
        have h1 := f0 0 (by omega)
        rw [F, hU, ap_cons, dl_z, dl_z, p0] at h1
        grind
      have hv0 : v = 0 := by
        have h1 := f1 (p.length + n) (by omega)
        rw [F, show p.length + n = (p.length + n - 1) + 1 by omega, dl_s, hV, ap_app, lV', ap_deg U (ap p dta) p.length _ (dta_end p) (by omega),
          ap_deg V' (ap p.reverse dta) p.length _ (fun j hj => dta_end p.reverse j (by simpa using hj)) (by omega), dln_at, if_pos (by omega), show p.length + n - 1 - n = p.length - 1 by omega, r0] at h1
        grind
      have G1 : ∀ t, ap U (ap p dta) (t + 1) + dl (ap V (ap p.reverse dta)) (t + 1) = ap U' (ap p dta) t + ap V' (ap p.reverse dta) t := by
        intro t
        rw [hU, hV, hu0, hv0, ap_snoc, ap_zero, dl_s, dl_s]
      obtain ⟨c, c0, hc⟩ := ih U' V' (by omega) lU' lV' hq1 (fun _ _ _ => ⟨m, hm⟩) (fun t ht => by
          have := f0 (t + 1) (by omega)
          rw [F, G1] at this
          exact this)
        (fun t ht => by
          have := f1 (t + 1) (by omega)
          rw [F, G1] at this
          exact this)
        (by
          obtain ⟨j, hj⟩ := hne2
          rw [hU, hV, hu0, hv0] at hj
          rcases hj with hj | hj
          · cases j with
            | zero => simp at hj
            | succ j => exact ⟨j, .inl (by simpa using hj)⟩
          · refine ⟨j, .inr ?_⟩
            intro hz
            apply hj
            by_cases h1 : j < V'.length
            · simpa [List.getD, List.getElem?_append_left h1] using hz
            · by_cases h2 : j = V'.length
              · subst h2; simp [List.getD]
              · have h3 : (V' ++ [(0 : Rat)]).length ≤ j := by simp; omega
                simp [List.getD, List.getElem?_eq_none h3])
      refine ⟨c, c0, fun t => ?_⟩
      have := hc t
      rw [F, show t + (n + 1 - 1) = (t + (n - 1)) + 1 by omega, G1]
      exact this
end G
set_option Elab.async false
set_option linter.all false
set_option maxRecDepth 100000
set_option maxHeartbeats 4000000
/-! S8: sizes -/
namespace G
set_option autoImplicit false
theorem sm_of {a : Rat} {D z : Int} (h : a * (D : Rat) = (z : Rat)) (hD : D ≠ 0) : a.den ≤ D.natAbs ∧ a.num.natAbs ≤ z.natAbs := by
  have h1 : (a.num : Rat) / (a.den : Rat) = a := by
    have h := Rat.mkRat_self a
    rw [Rat.mkRat_eq_div] at h
    exact_mod_cast h
  have h2 : (a.den : Rat) ≠ 0 := by
    intro h
    exact a.den_nz (by exact_mod_cast h)
  have h3 : (a.num : Rat) * (D : Rat) = (z : Rat) * (a.den : Rat) := by grind
  have h4 : a.num * D = z * (a.den : Int) := by exact_mod_cast h3
  have h5 : a.num.natAbs * D.natAbs = z.natAbs * a.den := by
    have := congrArg Int.natAbs h4
    simpa [Int.natAbs_mul] using this
  have h6 : a.den ∣ D.natAbs := Nat.Coprime.dvd_of_dvd_mul_left (Nat.Coprime.symm a.reduced) ⟨z.natAbs, by rw [h5, Nat.mul_comm]⟩
  have hp : 0 < D.natAbs := by omega
  obtain ⟨e, he⟩ := h6
  have e0 : 0 < e := by
    refine Nat.pos_of_ne_zero fun h => ?_
    rw [h] at he; simp at he; omega
  refine ⟨Nat.le_of_dvd hp ⟨e, he⟩, ?_⟩
  rw [he] at h5
  have h7 : a.den * (a.num.natAbs * e) = a.den * z.natAbs := by
    rw [Nat.mul_comm a.den z.natAbs, ← h5]
    rw [Nat.mul_left_comm]
  have h8 := Nat.eq_of_mul_eq_mul_left a.den_pos h7
  rw [← h8]
  exact Nat.le_mul_of_pos_right _ e0
theorem sI_add (f : Nat → Int) (n : Nat) : ∀ m, sI f (n + m) = sI f n + sI (fun j => f (n + j)) m
  | 0 => by simp [sI]
  | m + 1 => by show sI f (n + m) + f (n + m) = sI f n + (sI (fun j => f (n + j)) m + f (n + m)); rw [sI_add f n m]; omega
theorem ap_cv0 (x : Sq) (v : Nat → Rat) (t : Nat) : ∀ n, ap ((List.range n).map v) x t = cv n v x t
  | 0 => rfl
  | n + 1 => by
    rw [List.range_succ, List.map_append, List.map_cons, List.map_nil, ap_app, ap_cv0 x v t n]
    show _ = 1 * cv n v x t + v n * dln n x t
    simp only [List.length_map, List.length_range]
    grind
theorem cv_int (zs : Nat → Int) (v : Nat → Int) (ps : Sq) (c : Rat) (h : ∀ t, c * ps t = (zs t : Rat)) (t : Nat) : ∀ n, c * cv n (fun j => (v j : Rat)) ps t = ((sI (fun j => (if j ≤ t then zs (t - j) else 0) * v j) n : Int) : Rat)
  | 0 => by simp [cv, sI]
  | n + 1 => by
    have ih := cv_int zs v ps c h t n
    show c * (1 * cv n (fun j => (v j : Rat)) ps t + (v n : Rat) * dln n ps t) = ((sI _ n + _ : Int) : Rat)
    push_cast
    rw [← ih, dln_at]
    by_cases hn : n ≤ t
    · rw [if_pos hn, if_pos hn, ← h]; grind
    · rw [if_neg hn, if_neg hn]; grind
/-- what is told behind i steps, by whole numbers that are not great -/
theorem stp_small {i : Nat} {p q : List Rat} (h : Stp i p q) (hi : 1 ≤ i) {M : Nat} (hM : 0 < M) {Z : Nat → Int} {c : Rat} (c0 : c ≠ 0) (hp1 : ∃ m, p = 1 :: m) (hq1 : ∃ m, q = 1 :: m) (hZ : ∀ t, -(M : Int) ≤ Z t ∧ Z t ≤ M) (hc : ∀ t, c * p.getD t 0 = (Z t : Rat)) :
    ∃ (D : Int) (z : Nat → Int), D ≠ 0 ∧ D.natAbs ≤ 2 * i * (M * (2 * (2 * i) * M) ^ (2 * i - 1)) ∧ ∀ t, q.getD t 0 * (D : Rat) = (z t : Rat) ∧ (z t).natAbs ≤ 2 * i * (M * (2 * (2 * i) * M) ^ (2 * i - 1)) := by
  have lp : 1 ≤ p.length := by obtain ⟨m, rfl⟩ := hp1; simp
  let Zr : Nat → Int := fun t => if t < p.length then Z (p.length - 1 - t) else 0
  have hZr : ∀ t, -(M : Int) ≤ Zr t ∧ Zr t ≤ M := by
    intro t
    simp only [Zr]
    split
    · exact hZ _
    · omega
  have hcr : ∀ t, c * p.reverse.getD t 0 = (Zr t : Rat) := by
    intro t
    by_cases ht : t < p.length
    · have e : p.reverse.getD t 0 = p.getD (p.length - 1 - t) 0 := by simp [List.getD, List.getElem?_reverse ht]
      rw [e, hc]
      simp only [Zr, if_pos ht]
    · have e : p.reverse.getD t 0 = 0 := by rw [List.getD, List.getElem?_eq_none (by simp; omega)]; rfl
      rw [e]
      simp only [Zr, if_neg ht]
      simp
  let a : Nat → Nat → Int := fun t j => if j < i then (if j ≤ t then Z (t - j) else 0) else (if j - i ≤ t then Zr (t - (j - i)) else 0)
  have ha : ∀ t j, -(M : Int) ≤ a t j ∧ a t j ≤ M := by
    intro t j
    simp only [a]
    split
    · split
      · exact hZ _
      · omega
    · split
      · exact hZr _
      · omega
  let row : Nat → Nat := fun r => if r < i - 1 then r else p.length - 1 + (r - (i - 1))
  obtain ⟨v, ⟨j0, hj0, hv0⟩, hvb, hv⟩ := siegel (fun r j => a (row r) j) (2 * i) (2 * i - 1) M hM (by omega) (fun r j _ _ => ha _ _)
  generalize hH : (2 * (2 * i) * M) ^ (2 * i - 1) = H at hvb ⊢
  let z : Nat → Int := fun t => sI (fun j => a t j * v j) (2 * i)
  have zb : ∀ t, (z t).natAbs ≤ 2 * i * (M * H) := by
    intro t
    have := sI_le (f := fun j => a t j * v j) (c := ((M * H : Nat) : Int)) (2 * i) (fun j hj => by
      have h1 := ha t j
      have h2 := hvb j hj
      have h3 : (a t j * v j).natAbs ≤ M * H := by
        rw [Int.natAbs_mul]
        exact Nat.mul_le_mul (by omega) (by omega)
      push_cast at h3 ⊢
      omega)
    show (sI (fun j => a t j * v j) (2 * i)).natAbs ≤ _
    have e : ((2 * i : Nat) : Int) * ((M * H : Nat) : Int) = ((2 * i * (M * H) : Nat) : Int) := by push_cast; rfl
    rw [e] at this
    omega
  let A := (List.range i).map fun j => (v j : Rat)
  let B := (List.range i).map fun j => (v (i + j) : Rat)
  have F : ∀ t, c * (ap A (ap p dta) t + ap B (ap p.reverse dta) t) = (z t : Rat) := by
    intro t
    have e1 : c * ap A (ap p dta) t = ((sI (fun j => (if j ≤ t then Z (t - j) else 0) * v j) i : Int) : Rat) := by
      rw [show ap A (ap p dta) t = cv i (fun j => (v j : Rat)) (ap p dta) t from ap_cv0 _ _ t i]
      exact cv_int Z v (ap p dta) c (fun t => by rw [ap_dta]; exact hc t) t i
    have e2 : c * ap B (ap p.reverse dta) t = ((sI (fun j => (if j ≤ t then Zr (t - j) else 0) * v (i + j)) i : Int) : Rat) := by
      rw [show ap B (ap p.reverse dta) t = cv i (fun j => (v (i + j) : Rat)) (ap p.reverse dta) t from ap_cv0 _ _ t i]
      exact cv_int Zr (fun j => v (i + j)) (ap p.reverse dta) c (fun t => by rw [ap_dta]; exact hcr t) t i
    have e3 : z t = sI (fun j => (if j ≤ t then Z (t - j) else 0) * v j) i + sI (fun j => (if j ≤ t then Zr (t - j) else 0) * v (i + j)) i := by
      show sI (fun j => a t j * v j) (2 * i) = _
      rw [show 2 * i = i + i by omega, sI_add]
      congr 1
      · exact sI_congr i (fun j hj => by simp only [a, if_pos hj])
      · refine sI_congr i (fun j hj => ?_)
        simp only [a, if_neg (show ¬ i + j < i by omega), show i + j - i = j by omega]
    rw [e3]
    push_cast
    rw [← e1, ← e2]
    grind
  have lr : ∀ j, p.length ≤ j → ap p.reverse dta j = 0 := fun j hj => dta_end p.reverse j (by simpa using hj)
  have lA : A.length = i := by simp [A]
  have lB : B.length = i := by simp [B]
  have zero : ∀ t, z t = 0 → ap A (ap p dta) t + ap B (ap p.reverse dta) t = 0 := by
    intro t hz
    have := F t
    rw [hz] at this
    rcases Rat.mul_eq_zero.mp (show c * (ap A (ap p dta) t + ap B (ap p.reverse dta) t) = 0 by rw [this]; rfl) with h | h
    · exact absurd h c0
    · exact h
  obtain ⟨d, d0, hd⟩ := stp_uniq h A B hi lA lB hq1 (fun _ _ _ => hp1)
    (fun t ht => zero t (by
      have := hv t (by omega)
      simp only [row, if_pos ht] at this
      exact this))
    (fun t ht => by
      by_cases ht2 : t < p.length - 1 + i
      · refine zero t ?_
        have := hv (i - 1 + (t - (p.length - 1))) (by omega)
        simp only [row, if_neg (show ¬ i - 1 + (t - (p.length - 1)) < i - 1 by omega)] at this
        rw [show p.length - 1 + (i - 1 + (t - (p.length - 1)) - (i - 1)) = t by omega] at this
        exact this
      · rw [ap_deg A _ p.length t (dta_end p) (by omega), ap_deg B _ p.length t lr (by omega)]
        grind)
    (by
      by_cases hj : j0 < i
      · refine ⟨j0, .inl ?_⟩
        have : A.getD j0 0 = (v j0 : Rat) := by simp [A, List.getD, hj]
        rw [this]
        exact_mod_cast hv0
      · refine ⟨j0 - i, .inr ?_⟩
        have h1 : j0 - i < i := by omega
        have : B.getD (j0 - i) 0 = (v j0 : Rat) := by
          simp only [B, List.getD]
          rw [List.getElem?_map, List.getElem?_range h1]
          simp only [Option.map_some, Option.getD_some]
          rw [show i + (j0 - i) = j0 by omega]
        rw [this]
        exact_mod_cast hv0)
  have q0 : q.getD 0 0 = 1 := by obtain ⟨m, rfl⟩ := hq1; rfl
  have hz : ∀ t, c * (d * q.getD t 0) = (z (t + (i - 1)) : Rat) := fun t => by rw [← hd, F]
  have hz0 := hz 0
  rw [q0, Nat.zero_add] at hz0
  refine ⟨z (i - 1), fun t => z (t + (i - 1)), ?_, zb _, fun t => ⟨?_, zb _⟩⟩
  · intro h0
    rw [h0] at hz0
    have : c * d = 0 := by have e : ((0 : Int) : Rat) = 0 := rfl; grind
    rcases Rat.mul_eq_zero.mp this with h | h
    · exact c0 h
    · exact d0 h
  · rw [← hz0, ← hz t]
    grind
/-- of no more than nine numbers below 2 ^ 32 -/
theorem stp_sm {i : Nat} {p q : List Rat} (h : Stp i p q) (h8 : i ≤ 8) {Z : Nat → Int} {c : Rat} (c0 : c ≠ 0) (hp1 : ∃ m, p = 1 :: m) (hq1 : ∃ m, q = 1 :: m) (hZ : ∀ t, -((2 ^ 32 : Nat) : Int) ≤ Z t ∧ Z t ≤ ((2 ^ 32 : Nat) : Int)) (hc : ∀ t, c * p.getD t 0 = (Z t : Rat)) :
    ∀ a ∈ q, a.num.natAbs < 2 ^ 600 ∧ a.den < 2 ^ 600 := by
  intro a ha
  obtain ⟨t, ht, rfl⟩ := List.mem_iff_getElem.mp ha
  have e : q[t] = q.getD t 0 := by simp [List.getD, ht]
  rw [e]
  by_cases hi : i = 0
  · subst hi
    cases h
    have z0 : c = (Z 0 : Rat) := by
      have := hc 0
      obtain ⟨m, rfl⟩ := hp1
      rw [← this]
      show c = c * 1
      grind
    have h1 := sm_of (a := p.getD t 0) (D := Z 0) (z := Z t) (by rw [← hc t, ← z0]; grind) (by intro h0; rw [h0] at z0; exact c0 z0)
    have key : ∀ (Y X : Nat), Y < X → (∀ t, -(Y : Int) ≤ Z t ∧ Z t ≤ (Y : Int)) → (p.getD t 0).num.natAbs < X ∧ (p.getD t 0).den < X := by
      intro Y X hXY hY
      have h2 := hY 0
      have h3 := hY t
      omega
    exact key _ _ (Nat.pow_lt_pow_right (by decide) (by decide)) hZ
  · obtain ⟨D, z, hD, hb, hz⟩ := stp_small h (by omega) (M := 2 ^ 32) (Nat.pow_pos (by decide)) c0 hp1 hq1 hZ hc
    have h1 := sm_of (hz t).1 hD
    have h2 := (hz t).2
    have h3 : 2 * i * (2 ^ 32 * (2 * (2 * i) * 2 ^ 32) ^ (2 * i - 1)) ≤ 2 ^ 4 * (2 ^ 32 * (2 ^ 37) ^ 15) := by
      refine Nat.mul_le_mul (by omega) (Nat.mul_le_mul (Nat.le_refl _) ?_)
      have a1 : 2 * (2 * i) * 2 ^ 32 ≤ 2 ^ 37 := by omega
      exact Nat.le_trans (Nat.pow_le_pow_left a1 _) (Nat.pow_le_pow_right (Nat.pow_pos (by decide)) (by omega))
    have h4 : 2 ^ 4 * (2 ^ 32 * (2 ^ 37) ^ 15) < 2 ^ 600 := by
      rw [← Nat.pow_mul, ← Nat.pow_add, ← Nat.pow_add]
      exact Nat.pow_lt_pow_right (by decide) (by decide)
    exact ⟨Nat.lt_of_le_of_lt (Nat.le_trans h1.2 (Nat.le_trans h2 h3)) h4, Nat.lt_of_le_of_lt (Nat.le_trans h1.1 (Nat.le_trans hb h3)) h4⟩
end G
set_option Elab.async false
set_option linter.all false
set_option maxRecDepth 100000
set_option maxHeartbeats 4000000
/-! S9: what the law's row tells of products -/
namespace G
set_option autoImplicit false
/-- the numbers told, step by step -/
def outF : Nat → List Rat → List Rat
  | 0, _ => []
  | n + 1, l => l.getLastD 0 :: (if l.getLastD 0 * l.getLastD 0 < 1 then outF n (stepl (l.getLastD 0) l) else [])
theorem last_app (m : List Rat) (k : Rat) : (1 :: (m ++ [k])).getLastD 0 = k := by rw [List.getLastD_eq_getLast?, ← List.cons_append, List.getLast?_concat]; rfl
theorem stepl_head {m : List Rat} {k : Rat} (h : k * k ≠ 1) : ∃ m2, stepl k (1 :: (m ++ [k])) = 1 :: m2 ∧ m2.length = m.length := by
  have hL := lat_stepl (m := m) h
  have hl : (stepl k (1 :: (m ++ [k]))).length = m.length + 1 := by rw [stepl_len]; simp
  cases e : stepl k (1 :: (m ++ [k])) with
  | nil => rw [e] at hl; simp at hl
  | cons a q =>
    rw [e] at hL hl
    unfold Lat at hL
    simp only [List.cons_append, List.zipWith_cons_cons, List.cons.injEq] at hL
    refine ⟨q, ?_, by simpa using hl⟩
    congr 1
    grind
theorem outF_iff : ∀ (n : Nat) (m : List Rat), m.length = n → ((∀ k ∈ outF n (1 :: m), k * k < 1) ↔ Sb (1 :: m)) ∧ (Sb (1 :: m) → (outF n (1 :: m)).length = n)
  | 0, m, hm => by
    obtain rfl := List.length_eq_zero_iff.mp hm
    exact ⟨⟨fun _ => .one, fun _ => by simp [outF]⟩, fun _ => rfl⟩
  | n + 1, m, hm => by
    obtain ⟨m', k, rfl⟩ : ∃ m' k, m = m' ++ [k] := ⟨m.dropLast, m.getLast (by intro z; subst z; simp at hm), (List.dropLast_concat_getLast _).symm⟩
    simp only [outF, last_app]
    by_cases hk : k * k < 1
    · rw [if_pos hk]
      obtain ⟨m2, e2, l2⟩ := stepl_head (m := m') (k := k) (by grind)
      obtain ⟨i1, i2⟩ := outF_iff n m2 (by rw [l2]; simpa using hm)
      rw [e2]
      refine ⟨⟨fun h => Sb.of hk (by rw [e2]; exact i1.mp fun k' hk' => h k' (by simp [hk'])), fun h => ?_⟩, fun h => ?_⟩
      · have h2 := (Sb.inv h).2
        rw [e2] at h2
        intro k' hk'
        rcases List.mem_cons.mp hk' with rfl | hk'
        · exact hk
        · exact i1.mpr h2 k' hk'
      · have h2 := (Sb.inv h).2
        rw [e2] at h2
        rw [List.length_cons, i2 h2]
    · rw [if_neg hk]
      exact ⟨⟨fun h => absurd (h k (by simp)) hk, fun h => absurd (Sb.inv h).1 hk⟩, fun h => absurd (Sb.inv h).1 hk⟩
theorem outF_last : ∀ (n : Nat) (l : List Rat), ∀ k ∈ (outF n l).dropLast, k * k < 1
  | 0, l, k, hk => by simp [outF] at hk
  | n + 1, l, k, hk => by
    simp only [outF] at hk
    by_cases h : l.getLastD 0 * l.getLastD 0 < 1
    · rw [if_pos h] at hk
      cases e : outF n (stepl (l.getLastD 0) l) with
      | nil => rw [e] at hk; simp at hk
      | cons a o =>
        rw [e, List.dropLast_cons₂] at hk
        rcases List.mem_cons.mp hk with rfl | hk
        · exact h
        · exact outF_last n (stepl (l.getLastD 0) l) k (by rw [e]; exact hk)
    · rw [if_neg h] at hk; simp at hk
/-! products of parts -/
def mulP (b c : Rat) (p : List Rat) : List Rat := if c ≠ 0 then quadL b c p else if b ≠ 0 then linL b p else p
inductive Prd : List (Rat × Rat) → List Rat → Prop
  | nil : Prd [] [1]
  | cons {L : List (Rat × Rat)} {p : List Rat} {b c : Rat} : Prd L p → Prd ((b, c) :: L) (mulP b c p)
theorem ap_mulP (b c : Rat) (p : List Rat) (x : Sq) : ap (mulP b c p) x = ap [1, b, c] (ap p x) := by
  unfold mulP
  by_cases hc : c = 0
  · rw [if_neg (by simp [hc])]
    by_cases hb : b = 0
    · rw [if_neg (by simp [hb])]
      funext t
      rw [ap3, hb, hc]; grind
    · rw [if_pos hb, ap_linL]
      funext t
      rw [ap2, ap3, hc]; grind
  · rw [if_pos hc, ap_quadL]
theorem mulP_len (b c : Rat) (p : List Rat) : p.length ≤ (mulP b c p).length := by
  unfold mulP
  split
  · rw [quadL_len]; omega
  · split
    · rw [linL_len]; omega
    · exact Nat.le_refl _
theorem Prd.sb {L : List (Rat × Rat)} {p : List Rat} (h : Prd L p) : Sb p ↔ ∀ x ∈ L, Stb x.1 x.2 := by
  have back : (∀ x ∈ L, Stb x.1 x.2) → Sb p := by
    induction h with
    | nil => intro _; exact .one
    | @cons L p b c hp ih =>
      intro hs
      have h1 := ih fun x hx => hs x (by simp [hx])
      have h2 : Stb b c := hs (b, c) (by simp)
      unfold mulP
      split
      · rename_i hc; exact h1.quad h2 hc
      · rename_i hc
        split
        · have hc0 : c = 0 := Classical.byContradiction hc
          obtain ⟨a1, a2, a3⟩ := h2
          refine h1.lin ?_
          have := Rat.mul_pos (show 0 < 1 - b by grind) (show 0 < 1 + b by grind)
          grind
        · exact h1
  have part : ∀ x ∈ L, (x.1 = 0 ∧ x.2 = 0 ∨ 2 ≤ p.length) ∧ ∃ R, ∀ y, ap p y = ap R (ap [1, x.1, x.2] y) := by
    clear back
    induction h with
    | nil => intro x hx; simp at hx
    | @cons L p b c hp ih =>
      have lp : 1 ≤ p.length := by
        clear ih
        induction hp with
        | nil => simp
        | cons _ ih => exact Nat.le_trans ih (mulP_len _ _ _)
      intro x hx
      rcases List.mem_cons.mp hx with rfl | hx
      · refine ⟨?_, p, fun y => by rw [ap_mulP, ap_comm]⟩
        by_cases hc : c = 0
        · by_cases hb : b = 0
          · exact .inl ⟨hb, hc⟩
          · right
            unfold mulP
            rw [if_neg (by simp [hc]), if_pos hb, linL_len]
            omega
        · right
          unfold mulP
          rw [if_pos hc, quadL_len]
          omega
      · obtain ⟨h1, R, hR⟩ := ih x hx
        refine ⟨h1.imp id fun h => Nat.le_trans h (mulP_len _ _ _), mulP b c R, fun y => ?_⟩
        rw [ap_mulP, hR, ap_mulP]
  refine ⟨fun hs x hx => ?_, back⟩
  obtain ⟨h1, R, hR⟩ := part x hx
  rcases h1 with ⟨h2, h3⟩ | h1
  · rw [h2, h3]
    refine ⟨by grind, by grind, by grind⟩
  · exact hs.part h1 hR
/-- an own small fraction: so much over at most nine -/
def Sml (q : Rat) : Prop := ∃ (t : Int) (b : Nat), 1 ≤ b ∧ b ≤ 9 ∧ t.natAbs ≤ b + 2 ∧ q * (b : Rat) = (t : Rat)
theorem lcm_le : ∀ b1, b1 < 10 → 1 ≤ b1 → ∀ b2, b2 < 10 → 1 ≤ b2 → 0 < Nat.lcm b1 b2 ∧ Nat.lcm b1 b2 + (b1 + 2) * (Nat.lcm b1 b2 / b1) + (b2 + 2) * (Nat.lcm b1 b2 / b2) ≤ 256 := by decide
theorem Sml.two {q r : Rat} (hq : Sml q) (hr : Sml r) : ∃ (d : Nat) (x y : Int), 0 < d ∧ d + x.natAbs + y.natAbs ≤ 256 ∧ q * (d : Rat) = (x : Rat) ∧ r * (d : Rat) = (y : Rat) := by
  obtain ⟨t1, b1, a1, a2, a3, a4⟩ := hq
  obtain ⟨t2, b2, c1, c2, c3, c4⟩ := hr
  obtain ⟨h1, h2⟩ := lcm_le b1 (by omega) a1 b2 (by omega) c1
  have e1 : b1 * (Nat.lcm b1 b2 / b1) = Nat.lcm b1 b2 := Nat.mul_div_cancel' (Nat.dvd_lcm_left b1 b2)
  have e2 : b2 * (Nat.lcm b1 b2 / b2) = Nat.lcm b1 b2 := Nat.mul_div_cancel' (Nat.dvd_lcm_right b1 b2)
  generalize Nat.lcm b1 b2 = d at *
  generalize d / b1 = f1 at *
  generalize d / b2 = f2 at *
  refine ⟨d, t1 * f1, t2 * f2, h1, ?_, ?_, ?_⟩
  · rw [Int.natAbs_mul, Int.natAbs_mul, Int.natAbs_natCast, Int.natAbs_natCast]
    have := Nat.mul_le_mul_right f1 a3
    have := Nat.mul_le_mul_right f2 c3
    omega
  · rw [← e1]; push_cast; rw [← a4]; grind
  · rw [← e2]; push_cast; rw [← c4]; grind
/-- whole numbers over one bottom -/
def Wh (B : Nat) (p : List Rat) : Prop := ∃ (D : Nat) (Z : Nat → Int), 0 < D ∧ (∀ t, (Z t).natAbs ≤ B) ∧ ∀ t, (D : Rat) * p.getD t 0 = (Z t : Rat)
theorem Wh.mul {B : Nat} {p : List Rat} {b c : Rat} (h : Wh B p) (hb : Sml b) (hc : Sml c) : Wh (256 * B) (mulP b c p) := by
  obtain ⟨D, Z, d0, hZ, hp⟩ := h
  obtain ⟨d, x, y, e0, e1, e2, e3⟩ := hb.two hc
  refine ⟨d * D, fun t => d * Z t + x * (if 1 ≤ t then Z (t - 1) else 0) + y * (if 2 ≤ t then Z (t - 2) else 0), Nat.mul_pos e0 d0, fun t => ?_, fun t => ?_⟩
  · have a1 : ((d : Int) * Z t).natAbs ≤ d * B := by rw [Int.natAbs_mul, Int.natAbs_natCast]; exact Nat.mul_le_mul_left _ (hZ t)
    have a2 : (x * (if 1 ≤ t then Z (t - 1) else 0)).natAbs ≤ x.natAbs * B := by
      rw [Int.natAbs_mul]
      refine Nat.mul_le_mul_left _ ?_
      split
      · exact hZ _
      · simp
    have a3 : (y * (if 2 ≤ t then Z (t - 2) else 0)).natAbs ≤ y.natAbs * B := by
      rw [Int.natAbs_mul]
      refine Nat.mul_le_mul_left _ ?_
      split
      · exact hZ _
      · simp
    have a4 := Nat.mul_le_mul_right B e1
    rw [Nat.add_mul, Nat.add_mul] at a4
    show ((d : Int) * Z t + x * (if 1 ≤ t then Z (t - 1) else 0) + y * (if 2 ≤ t then Z (t - 2) else 0)).natAbs ≤ 256 * B
    omega
  · have e4 : (mulP b c p).getD t 0 = p.getD t 0 + b * dl (ap p dta) t + c * dl (dl (ap p dta)) t := by
      rw [← ap_dta, ap_mulP, ap3, ap_dta]; grind
    rw [e4]
    push_cast
    match t with
    | 0 =>
      simp only [dl_z]
      have := hp 0
      simp
      grind
    | 1 =>
      simp only [dl_z, dl_s, ap_dta]
      have h0 := hp 0
      have h1 := hp 1
      simp
      grind
    | t + 2 =>
      simp only [dl_s, ap_dta]
      have h0 := hp t
      have h1 := hp (t + 1)
      have h2 := hp (t + 2)
      rw [if_pos (show 1 ≤ t + 2 by omega), if_pos (show 2 ≤ t + 2 by omega), show t + 2 - 1 = t + 1 by omega, show t + 2 - 2 = t by omega]
      grind
theorem Prd.wh {L : List (Rat × Rat)} {p : List Rat} (h : Prd L p) : (∀ x ∈ L, Sml x.1 ∧ Sml x.2) → Wh (256 ^ L.length) p ∧ p.length ≤ 2 * L.length + 1 ∧ (∃ m, p = 1 :: m) ∧ p.getLastD 0 ≠ 0 := by
  induction h with
  | nil =>
    intro _
    refine ⟨⟨1, fun t => if t = 0 then 1 else 0, by omega, fun t => by
      show (if t = 0 then (1 : Int) else 0).natAbs ≤ _
      split <;> simp, fun t => ?_⟩, by simp, ⟨[], rfl⟩, by simp⟩
    cases t with
    | zero => simp
    | succ t => simp
  | @cons L p b c hp ih =>
    intro hs
    obtain ⟨h1, h2, ⟨m, rfl⟩, h4⟩ := ih fun x hx => hs x (by simp [hx])
    obtain ⟨s1, s2⟩ := hs (b, c) (by simp)
    have lst : ∀ (l : List Rat) (n : Nat), l.length = n + 1 → l.getLastD 0 = ap l dta n := by
      intro l n hl
      rw [ap_dta, List.getLastD_eq_getLast?, List.getLast?_eq_getElem?, hl]
      simp [List.getD]
    have h4' := h4
    rw [lst (1 :: m) m.length (by simp)] at h4'
    have hend : ∀ j, m.length < j → ap (1 :: m) dta j = 0 := fun j hj => dta_end _ j (by simp; omega)
    refine ⟨by rw [List.length_cons, Nat.pow_succ, Nat.mul_comm]; exact h1.mul s1 s2, ?_, ?_, ?_⟩
    · unfold mulP
      simp only [List.length_cons] at h2 ⊢
      split
      · rw [quadL_len]; simp; omega
      · split
        · rw [linL_len]; simp; omega
        · simp; omega
    · unfold mulP
      split
      · refine ⟨List.zipWith (fun a e => a + c * e) (List.zipWith (fun a e => a + b * e) (m ++ [0]) (1 :: m) ++ [0]) (0 :: 1 :: m), ?_⟩
        unfold quadL linL
        simp only [List.cons_append, List.zipWith_cons_cons]
        congr 1
        grind
      · split
        · refine ⟨List.zipWith (fun a e => a + b * e) (m ++ [0]) (1 :: m), ?_⟩
          unfold linL
          simp only [List.cons_append, List.zipWith_cons_cons]
          congr 1
          grind
        · exact ⟨m, rfl⟩
    · unfold mulP
      split
      · rename_i hc
        rw [lst _ (m.length + 2) (by rw [quadL_len]; simp), ap_quadL, ap3, dl_s, dl_s, dl_s, hend _ (by omega), hend _ (by omega)]
        intro h
        have h5 : c * ap (1 :: m) dta m.length = 0 := by grind
        rcases Rat.mul_eq_zero.mp h5 with h6 | h6
        · exact hc h6
        · exact h4' h6
      · split
        · rename_i hc hb
          rw [lst _ (m.length + 1) (by rw [linL_len]; simp), ap_linL, ap2, dl_s, hend _ (by omega)]
          intro h
          have h5 : b * ap (1 :: m) dta m.length = 0 := by grind
          rcases Rat.mul_eq_zero.mp h5 with h6 | h6
          · exact hb h6
          · exact h4' h6
        · exact h4
end G
set_option Elab.async false
set_option linter.all false
set_option maxRecDepth 100000
set_option maxHeartbeats 4000000
/-! S10 (cut of N2): over; the law's less, times, over; mirrored spots, touches, machines -/
namespace G
open PySem PySem.Spec L2 PyProof.Rows
set_option autoImplicit false
theorem r_is_nought (q : Rat) (S : Sto) : R_is_nought [.d (fr q)] S = .ok (.d (.bool (decide (q = 0)))) S := by
  unfold R_is_nought runB B_is_nought
  have e : decide (q.num = 0) = decide (q = 0) := by simp [Rat.num_eq_zero]
  simp [startR, e]
theorem div_neg' {i g : Int} (h : 0 < g) (h2 : g.natAbs < mid) (hd : g ∣ i) (S : Sto) : gDiv (.d (.int i)) (.d (.int (-g))) S = some (.d (.int ((-i) / g)), S) := by
  unfold gDiv divOk divNg
  dsimp only
  have e1 : ¬ (decide (0 < -g ∧ (-g).natAbs < mid) = true) := by
    intro z
    have := (of_decide_eq_true z : 0 < -g ∧ (-g).natAbs < mid)
    omega
  have e2 : decide (-g < 0 ∧ (-g).natAbs < mid) = true := decide_eq_true ⟨by omega, by rw [Int.natAbs_neg]; exact h2⟩
  rw [if_neg e1, if_pos e2]
  congr 4
  rw [Int.fdiv_eq_ediv_of_dvd (Int.neg_dvd.mpr hd), Int.ediv_neg, Int.neg_ediv_of_dvd hd]
theorem r_lowest_neg {t b : Int} (hb : b < 0) (hs : b.natAbs < 2 ^ 7000) (S : Sto) : R_lowest [.d (.int t), .d (.int b)] S = .ok (.d (fr (Rat.divInt t b))) S := by
  unfold R_lowest runB B_lowest
  have hb' : 0 < -b := by omega
  have hg := gcd_lt (t := -t) hb' (by rw [Int.natAbs_neg]; exact hs)
  rw [Int.gcd_neg, Int.neg_gcd] at hg
  have hn : ¬ (0 < b) := by omega
  have e := low_eq (t := -t) hb'
  rw [Rat.neg_divInt_neg, Int.gcd_neg, Int.neg_gcd] at e
  have d1 : ((Int.gcd t b : Nat) : Int) ∣ t := Int.gcd_dvd_left ..
  have d2 : ((Int.gcd t b : Nat) : Int) ∣ b := Int.gcd_dvd_right ..
  simp [startR, hn, div_neg' hg.1 hg.2 d1, div_neg' hg.1 hg.2 d2, e]
theorem over_div (p q : Rat) : Rat.divInt (p.num * q.den) (p.den * q.num) = p / q := by
  rw [Rat.div_def, Rat.inv_def, ← Rat.divInt_mul_divInt, Rat.num_divInt_den]
theorem num_ne {q : Rat} (h : q ≠ 0) : q.num ≠ 0 := fun z => h (Rat.num_eq_zero.mp z)
section
variable {n m : Nat} {p q : Rat}
theorem sm_dn (hp : Sm n p) (hq : Sm m q) (hl : n ≤ 3000) (hm : m ≤ 3000) : ((p.den : Int) * q.num).natAbs < 2 ^ 7000 := by
  rw [Int.natAbs_mul, Int.natAbs_natCast]
  exact pow_mul_lt hp.2 hq.1 (by omega)
theorem mo_dn (hp : Sm n p) (hq : Sm m q) (hl : n ≤ 3000) (hm : m ≤ 3000) : mulOk p.den q.num = true := mulOk_of (sm_nd hp hl).2 (sm_nd hq hm).1
theorem r_over (hp : Sm n p) (hq : Sm m q) (h0 : q ≠ 0) (S : Sto) (hl : n ≤ 3000 := by omega) (hm : m ≤ 3000 := by omega) : R_over [.d (fr p), .d (fr q)] S = .ok (.d (fr (p / q))) S := by
  unfold R_over runB B_over
  have e0 : decide (q = 0) = false := decide_eq_false h0
  have hd := den_pos p
  have hz := num_ne h0
  have key : ∀ S, R_lowest [.d (.int (p.num * q.den)), .d (.int (p.den * q.num))] S = .ok (.d (fr (p / q))) S := fun S => by
    rw [← over_div]
    rcases Int.lt_or_gt_of_ne hz with h | h
    · exact r_lowest_neg (Int.mul_neg_of_pos_of_neg hd h) (sm_dn hp hq hl hm) S
    · exact r_lowest (Int.mul_pos hd h) (sm_dn hp hq hl hm) S
  simp [startR, r_is_nought, e0, mul_int (mo_nd hp hq hl hm), mul_int (mo_dn hp hq hl hm), key]
theorem r__law_times (hp : Sm n p) (hq : Sm m q) (S : Sto) (hl : n ≤ 3000 := by omega) (hm : m ≤ 3000 := by omega) : R__law_times [.d (fr p), .d (fr q)] S = .ok (.d (fr (p * q))) S := by
  unfold R__law_times runB B__law_times
  have key := r__law_lowest (t := p.num * q.num) (dd_pos p q) (sm_dd hp hq hl hm) S
  rw [mul_div] at key
  simp [startR, mul_int (mo_nn hp hq hl hm), mul_int (mo_dd hp hq hl hm), key]
theorem Sm.neg (hp : Sm n p) : Sm n (-p) := ⟨by rw [Rat.neg_num, Int.natAbs_neg]; exact hp.1, by rw [Rat.neg_den]; exact hp.2⟩
theorem r__law_less (hp : Sm n p) (hq : Sm m q) (S : Sto) (hl : n ≤ 3000 := by omega) (hm : m ≤ 3000 := by omega) : R__law_less [.d (fr p), .d (fr q)] S = .ok (.d (fr (p - q))) S := by
  have e : ∀ S, R__law_plus [.d (fr p), .d (.tuple [.int (0 - q.num), .int q.den])] S = .ok (.d (fr (p - q))) S := fun S => by
    rw [← fr_neg, r__law_plus hp hq.neg S hl hm, Rat.sub_eq_add_neg]
  unfold R__law_less runB B__law_less
  simp only [startR, List.map_cons, List.map_nil, List.length_cons, List.length_nil, Nat.zero_add, Nat.reduceAdd, Nat.reduceSub, List.replicate, List.cons_append, List.nil_append, st_ret, ev_call, ev_cons, ev_nil, ev_var, ev_c, ev_op2, List.getElem?_cons_zero, List.getElem?_cons_succ, bind_ok, ofO_some, if_true, ofD_nil, List.append_nil, fl_ok, fTup_d2, fr, ix_two0, ix_two1, sub_int, fzT_d2]
  have e2 := e S
  unfold fr at e2
  simp only [e2, fl_ok, bind_ok]
theorem r__law_over (hp : Sm n p) (hq : Sm m q) (h0 : q ≠ 0) (S : Sto) (hl : n ≤ 3000 := by omega) (hm : m ≤ 3000 := by omega) : R__law_over [.d (fr p), .d (fr q)] S = .ok (.d (fr (p / q))) S := by
  have hd := den_pos p
  have hz := num_ne h0
  rcases Int.lt_or_gt_of_ne hz with h | h
  · have e1 : decide (q.num < 0) = true := decide_eq_true h
    have t1 : mulOk (-1) p.num = true := tiny_l (by decide)
    have t2 : mulOk (-1) q.num = true := tiny_l (by decide)
    have s1 : (-1 * p.num).natAbs < 2 ^ 7000 := by rw [Int.neg_one_mul, Int.natAbs_neg]; exact (sm_nd hp hl).1
    have s2 : (-1 * q.num).natAbs < 2 ^ 7000 := by rw [Int.neg_one_mul, Int.natAbs_neg]; exact (sm_nd hq hm).1
    have t3 : mulOk (-1 * p.num) q.den = true := mulOk_of s1 (sm_nd hq hm).2
    have t4 : mulOk (-1 * q.num) p.den = true := mulOk_of s2 (sm_nd hp hl).2
    have key : ∀ S, R__law_lowest [.d (.int (-1 * p.num * q.den)), .d (.int (-1 * q.num * p.den))] S = .ok (.d (fr (p / q))) S := fun S => by
      have h1 : -1 * q.num * (p.den : Int) = -((p.den : Int) * q.num) := by rw [Int.neg_one_mul, Int.neg_mul, Int.mul_comm]
      have h2 : -1 * p.num * (q.den : Int) = -(p.num * (q.den : Int)) := by rw [Int.neg_one_mul, Int.neg_mul]
      rw [h1, h2]
      have h3 := Int.mul_neg_of_pos_of_neg hd h
      rw [r__law_lowest (by omega) (by rw [Int.natAbs_neg]; exact sm_dn hp hq hl hm), Rat.neg_divInt_neg, over_div]
    unfold R__law_over runB B__law_over
    have k2 := key S
    unfold fr at k2 ⊢
    simp only [startR, List.map_cons, List.map_nil, List.length_cons, List.length_nil, Nat.zero_add, Nat.reduceAdd, Nat.reduceSub, List.replicate, List.cons_append, List.nil_append, st_seq, st_set, st_ret, ev_ife, ev_tru, ev_call, ev_cons, ev_nil, ev_var, ev_c, ev_op2, ev_neg1, List.set_cons_zero, List.set_cons_succ, List.getElem?_cons_zero, List.getElem?_cons_succ, bind_ok, ofO_some, if_true, ofD_nil, List.append_nil, fl_ok, ix_two0, ix_two1, lt_int', e1, truth_b, Option.map_some, Bool.false_eq_true, if_false, mul_int t1, mul_int t2, mul_int t3, mul_int t4, k2]
  · have e1 : decide (q.num < 0) = false := decide_eq_false (by omega)
    have t1 : mulOk 1 p.num = true := tiny_l (by decide)
    have t2 : mulOk 1 q.num = true := tiny_l (by decide)
    have s1 : (1 * p.num).natAbs < 2 ^ 7000 := by rw [Int.one_mul]; exact (sm_nd hp hl).1
    have s2 : (1 * q.num).natAbs < 2 ^ 7000 := by rw [Int.one_mul]; exact (sm_nd hq hm).1
    have t3 : mulOk (1 * p.num) q.den = true := mulOk_of s1 (sm_nd hq hm).2
    have t4 : mulOk (1 * q.num) p.den = true := mulOk_of s2 (sm_nd hp hl).2
    have key : ∀ S, R__law_lowest [.d (.int (1 * p.num * q.den)), .d (.int (1 * q.num * p.den))] S = .ok (.d (fr (p / q))) S := fun S => by
      have h1 : 1 * q.num * (p.den : Int) = (p.den : Int) * q.num := by rw [Int.one_mul, Int.mul_comm]
      rw [h1, Int.one_mul]
      have h3 := Int.mul_pos hd h
      rw [r__law_lowest h3 (sm_dn hp hq hl hm), over_div]
    unfold R__law_over runB B__law_over
    have k2 := key S
    unfold fr at k2 ⊢
    simp only [startR, List.map_cons, List.map_nil, List.length_cons, List.length_nil, Nat.zero_add, Nat.reduceAdd, Nat.reduceSub, List.replicate, List.cons_append, List.nil_append, st_seq, st_set, st_ret, ev_ife, ev_tru, ev_call, ev_cons, ev_nil, ev_var, ev_c, ev_op2, ev_neg1, List.set_cons_zero, List.set_cons_succ, List.getElem?_cons_zero, List.getElem?_cons_succ, bind_ok, ofO_some, if_true, ofD_nil, List.append_nil, fl_ok, ix_two0, ix_two1, lt_int', e1, truth_b, Option.map_some, Bool.false_eq_true, if_false, mul_int t1, mul_int t2, mul_int t3, mul_int t4, k2]
end
end G
set_option Elab.async false
set_option linter.all false
set_option maxRecDepth 100000
set_option maxHeartbeats 4000000
/-! S11: one step of the row, as the program and the law have it -/
namespace G
open PySem PySem.Spec L2 PyProof.Rows
set_option autoImplicit false
def plD (l : List Rat) : List PyData := l.map fr
theorem plD_len (l : List Rat) : (plD l).length = l.length := by simp [plD]
theorem Rd.last {V : Sto} {a : Nat} {ds : List PyData} {d : PyData} (h : Rd V a (ds ++ [d])) : gIx (.o a) (.d (.int (-1))) V = some (.d d, V) := by
  unfold gIx
  simp only [h.seq]
  have e : L2.atI ((ds ++ [d]).map W.d) (-1) = some (W.d d) := by
    unfold L2.atI L2.ixN
    rw [if_neg (by decide), if_pos (by simp; omega)]
    have e3 : (-1 + ((((ds ++ [d]).map W.d).length : Nat) : Int)).toNat = ds.length := by simp; omega
    rw [Option.bind_some, e3]
    simp
  rw [e]
  rfl
theorem Rd.lst {V : Sto} {a : Nat} {ds : List PyData} (h : Rd V a ds) : lstOf (.o a) V = some (ds.map W.d) := by
  unfold lstOf
  rcases h with h | h <;> simp only [h]
theorem cut_last {α : Type} (xs : List α) : cutW xs none (some (-1)) = xs.dropLast := by
  unfold cutW HT.sIx
  simp only [List.drop_zero, Nat.sub_zero, List.dropLast_eq_take]
  rw [if_pos (by decide)]
  congr 1
  omega
/-! sizes -/
section
variable {n m : Nat} {p q : Rat}
theorem mul_rat (p q : Rat) : p * q * (((p.den : Int) * q.den : Int) : Rat) = ((p.num * q.num : Int) : Rat) := by
  have h1 := rat_eq p
  have h2 := rat_eq q
  have h3 := den_ne p
  have h4 := den_ne q
  push_cast
  grind
theorem sub_rat (p q : Rat) : (p - q) * (((p.den : Int) * q.den : Int) : Rat) = ((p.num * q.den - q.num * p.den : Int) : Rat) := by
  have h1 := rat_eq p
  have h2 := rat_eq q
  have h3 := den_ne p
  have h4 := den_ne q
  push_cast
  grind
theorem dd_ne (p q : Rat) : (p.den : Int) * q.den ≠ 0 := by have := dd_pos p q; omega
theorem Sm.mul (hp : Sm n p) (hq : Sm m q) : Sm (n + m) (p * q) := by
  have h := sm_of (mul_rat p q) (dd_ne p q)
  rw [Int.natAbs_mul, Int.natAbs_mul, Int.natAbs_natCast, Int.natAbs_natCast] at h
  exact ⟨Nat.lt_of_le_of_lt h.2 (pow_mul_lt hp.1 hq.1 (Nat.le_refl _)), Nat.lt_of_le_of_lt h.1 (pow_mul_lt hp.2 hq.2 (Nat.le_refl _))⟩
theorem Sm.sub (hp : Sm n p) (hq : Sm m q) : Sm (n + m + 1) (p - q) := by
  have h := sm_of (sub_rat p q) (dd_ne p q)
  have a1 : (p.num * (q.den : Int)).natAbs < 2 ^ (n + m) := by rw [Int.natAbs_mul, Int.natAbs_natCast]; exact pow_mul_lt hp.1 hq.2 (Nat.le_refl _)
  have a2 : (q.num * (p.den : Int)).natAbs < 2 ^ (n + m) := by rw [Int.natAbs_mul, Int.natAbs_natCast]; exact pow_mul_lt hq.1 hp.2 (by omega)
  have a3 : ((p.den : Int) * (q.den : Int)).natAbs < 2 ^ (n + m) := by rw [Int.natAbs_mul, Int.natAbs_natCast, Int.natAbs_natCast]; exact pow_mul_lt hp.2 hq.2 (Nat.le_refl _)
  have e : 2 ^ (n + m + 1) = 2 ^ (n + m) * 2 := Nat.pow_succ ..
  generalize hX : (2 : Nat) ^ (n + m) = X at a1 a2 a3 e
  exact ⟨by rw [e]; omega, by rw [e]; omega⟩
theorem sm_one : Sm 1 (1 : Rat) := ⟨by decide, by decide⟩
end
/-! one step -/
noncomputable def nwO : Fe W := fSl (fLc (fZ2 (fCons (fVar 1) (fCons (fRevL (fVar 1)) fNil))) (gTp 2 (gsCons (gNm 6) (gsCons (gNm 7) gsNil))) fYes (fCall 2 [] R_over (fCons (fCall 2 [] R_less (fCons (fVar 6) (fCons (fCall 2 [] R_times (fCons (fVar 4) (fCons (fVar 7) fNil))) fNil))) (fCons (fVar 5) fNil))) [6, 7]) fNoP (fPart (fNeg (fC (.d (.int 1)))))
theorem z2_map (l : List Rat) : zipD2 (plD l) (plD l).reverse = (l.zip l.reverse).map fun p => .tuple [fr p.1, fr p.2] := by
  unfold zipD2 plD
  rw [← List.map_reverse, List.zip_map, List.map_map]
  rfl
theorem step_list (k : Rat) (l : List Rat) : (((l.zip l.reverse).map fun p => (p.1 - k * p.2) / (1 - k * k)).dropLast) = stepl k l := by
  unfold stepl tw
  congr 1
  rw [List.map_zipWith, List.zip, List.map_zipWith]
  congr 1
  funext a b
  grind
/-- the pairs of a row and it turned about: what it is then -/
theorem z2_ok {V : Sto} {h : Nat} {l : List Rat} (hR : Rd V h (plD l)) {ρ : Slt} (e1 : ρ[1]? = some (some (.o h))) : ∃ V3, fZ2 (fCons (fVar 1) (fCons (fRevL (fVar 1)) fNil)) ρ V = .ok ((l.zip l.reverse).map fun p => .tuple [fr p.1, fr p.2]) V3 ∧ V3.length = V.length + 1 ∧ (∀ i, i < V.length → i ≠ h → V3[i]? = V[i]?) ∧ Rd V3 h (plD l) := by
  have hl := hR.lt
  have r1 : Rd (V ++ [Cell.lst ((plD l).map W.d).reverse]) h (plD l) := hR.app _
  have r2 : Rd (V ++ [Cell.lst ((plD l).map W.d).reverse]) V.length (plD l).reverse := .inl (by rw [get_len_app, List.map_reverse])
  obtain ⟨i1, i2⟩ := r1.items
  have r3 : Rd ((V ++ [Cell.lst ((plD l).map W.d).reverse]).set h (.fz (.list (plD l)))) V.length (plD l).reverse := r2.set (by omega) _
  obtain ⟨i3, i4⟩ := r3.items
  refine ⟨((V ++ [Cell.lst ((plD l).map W.d).reverse]).set h (.fz (.list (plD l)))).set V.length (.fz (.list (plD l).reverse)), ?_, ?_, ?_, i2.set (by omega) _⟩
  · rw [z2_ev]
    simp only [ev_var, e1, bind_ok, fRevL, hR.lst, i1, ofO_some, i3, z2_map]
  · simp
  · intro i hi hne
    rw [List.getElem?_set_ne (by omega), List.getElem?_set_ne (by omega), List.getElem?_append_left hi]
theorem nwO_ok {V : Sto} {h : Nat} {l : List Rat} {k : Rat} (hR : Rd V h (plD l)) (hs : ∀ a ∈ l, Sm 600 a) (hk : Sm 600 k) (hk1 : k * k ≠ 1) (hl : l.length ≤ 20) {a0 a2 j6 j7 a3 : Option W} :
    ∃ V' h', nwO [a0, some (.o h), a2, a3, some (.d (fr k)), some (.d (fr (1 - k * k))), j6, j7] V = .ok (.o h') V' ∧ V.length ≤ h' ∧ Rd V' h' (plD (stepl k l)) ∧ (∀ i, i < V.length → i ≠ h → V'[i]? = V[i]?) ∧ V.length ≤ V'.length := by
  obtain ⟨V3, e3, l3, f3, r3⟩ := z2_ok hR (ρ := [a0, some (.o h), a2, a3, some (.d (fr k)), some (.d (fr (1 - k * k))), j6, j7]) rfl
  have hrest : Sm 1202 (1 - k * k) := (sm_one.sub (hk.mul hk)).mono (by omega)
  obtain ⟨V4, e4, f4, l4, g4⟩ := lc_yes (f := fZ2 (fCons (fVar 1) (fCons (fRevL (fVar 1)) fNil))) (g := gTp 2 (gsCons (gNm 6) (gsCons (gNm 7) gsNil))) (vs := [6, 7]) (e := (fCall 2 [] R_over (fCons (fCall 2 [] R_less (fCons (fVar 6) (fCons (fCall 2 [] R_times (fCons (fVar 4) (fCons (fVar 7) fNil))) fNil))) (fCons (fVar 5) fNil))))
    (ρ := [a0, some (.o h), a2, a3, some (.d (fr k)), some (.d (fr (1 - k * k))), j6, j7]) (ds := l.zip l.reverse) (mk := fun p => .tuple [fr p.1, fr p.2]) (S := V) (S0 := V3)
    (fun p => fr ((p.1 - k * p.2) / (1 - k * k))) (fun W => Fr V3.length V3 W) e3 (by simp; omega) (fun W x hW _ => hW.set (Nat.le_refl _) x) ((Fr.refl _ _).app (Nat.le_refl _) _) (by
      intro p hp
      have h1 : p.1 ∈ l := (List.of_mem_zip hp).1
      have h2 : p.2 ∈ l := by simpa using (List.of_mem_zip hp).2
      refine ⟨[a0, some (.o h), a2, a3, some (.d (fr k)), some (.d (fr (1 - k * k))), some (.d (fr p.1)), some (.d (fr p.2))], fun W => rfl, fun W hW hl => ⟨W, ?_, hW, Nat.le_refl _, rfl⟩⟩
      have t1 := r_times hk (hs p.2 h2) W
      have t2 := r_less (hs p.1 h1) (hk.mul (hs p.2 h2)) W
      have t3 := r_over ((hs p.1 h1).sub (hk.mul (hs p.2 h2))) hrest (by grind) W
      simp only [startR, List.map_cons, List.map_nil, List.length_cons, List.length_nil, Nat.zero_add, Nat.reduceAdd, Nat.reduceSub, List.replicate, List.cons_append, List.nil_append, st_seq, st_set, st_ret, st_if, st_exp, st_par, st_skip, ev_call, ev_cons, ev_nil, ev_var, ev_c, ev_op2, ev_tru, ev_or, ev_and, ev_not, List.getElem?_cons_zero, List.getElem?_cons_succ, bind_ok, ofO_some, if_true, ofD_nil, List.append_nil, fl_ok, List.set_cons_zero, List.set_cons_succ, truth_b, Option.map_some, Bool.not_true, Bool.not_false, Bool.false_eq_true, if_false, t1, t2, t3])
  refine ⟨V4 ++ [Cell.lst (((l.zip l.reverse).map fun p => fr ((p.1 - k * p.2) / (1 - k * k))).map W.d).dropLast], V4.length, ?_, by omega, ?_, ?_, by simp; omega⟩
  · unfold nwO
    simp only [ev_sl, e4, bind_ok, noP]
    have eP : fPart (fNeg (fC (.d (.int 1)))) [a0, some (.o h), a2, a3, some (.d (fr k)), some (.d (fr (1 - k * k))), j6, j7] V4 = .ok (some (-1)) V4 := rfl
    simp only [eP, bind_ok]
    have eS : gSl (.o V3.length) none (some (-1)) V4 = some (.o V4.length, V4 ++ [Cell.lst (((l.zip l.reverse).map fun p => fr ((p.1 - k * p.2) / (1 - k * k))).map W.d).dropLast]) := by
      show (match lstOf (.o V3.length) V4 with | some ws => some (W.o V4.length, V4 ++ [Cell.lst (cutW ws none (some (-1)))]) | none => none) = _
      rw [Rd.lst (.inl g4)]
      simp only [cut_last]
    rw [eS]
    rfl
  · left
    rw [get_len_app, ← step_list]
    congr 1
    simp only [plD, List.map_dropLast, List.map_map]
    rfl
  · intro i hi hne
    rw [List.getElem?_append_left (by omega), f4.at_ i (by omega), f3 i hi hne]
end G
set_option Elab.async false
set_option linter.all false
set_option maxRecDepth 100000
set_option maxHeartbeats 4000000
/-! S12: out_row -/
namespace G
open PySem PySem.Spec L2 PyProof.Rows
set_option autoImplicit false
theorem enum_pl (l : List Rat) : ∀ (i : Nat), ((plD l).zipIdx i).map (fun p => PyData.tuple [.int (p.2 : Nat), p.1]) = (l.zipIdx i).map fun q => .tuple [.int (q.2 : Nat), fr q.1] := by
  induction l with
  | nil => intro i; rfl
  | cons a l ih =>
    intro i
    simp only [plD, List.map_cons, List.zipIdx_cons]
    congr 1
    exact ih (i + 1)
noncomputable def npB : Fs := fIf (fOr (fNot (fTru (fCall 1 [] R_is_fraction (fCons (fVar 2) fNil)))) (fAnd (fTru (fOp2 (dEq false) (fVar 1) (fOp2 gSub (fCB gLen (fCons (fVar 0) fNil)) (fC (.d (.int 1)))))) (fTru (fCall 1 [] R_is_nought (fCons (fVar 2) fNil))))) fBad fSkip
theorem len_tup (ds : List PyData) (S : Sto) : gLen [.d (.tuple ds)] S = some (.d (.int (ds.length : Nat)), S) := by
  unfold gLen seqOf
  simp
theorem np_loop {p : List Rat} {S : Sto} : ∀ (l pre : List Rat) (j1 j2 : Option W), p = pre ++ l → p.getLastD 0 ≠ 0 → ∃ k1 k2, forD (gTp 2 (gsCons (gNm 1) (gsCons (gNm 2) gsNil))) npB ((l.zipIdx pre.length).map fun q => .tuple [.int (q.2 : Nat), fr q.1]) [some (.d (.tuple (plD p))), j1, j2] S = .nx [some (.d (.tuple (plD p))), k1, k2] S
  | [], pre, j1, j2, e, h => ⟨j1, j2, rfl⟩
  | a :: l, pre, j1, j2, e, h => by
    rw [List.zipIdx_cons, List.map_cons, forD_cons]
    obtain ⟨k1, k2, e2⟩ := np_loop l (pre ++ [a]) (some (.d (.int (pre.length : Nat)))) (some (.d (fr a))) (by rw [e]; simp) h
    refine ⟨k1, k2, ?_⟩
    have eb : npB [some (.d (.tuple (plD p))), some (.d (.int (pre.length : Nat))), some (.d (fr a))] S = .nx [some (.d (.tuple (plD p))), some (.d (.int (pre.length : Nat))), some (.d (fr a))] S := by
      unfold npB
      have e3 : ((pre.length : Nat) : Int) = ((plD p).length : Int) - 1 → a ≠ 0 := by
        intro h1
        rw [plD_len, e] at h1
        simp at h1
        obtain rfl : l = [] := by
          cases l with
          | nil => rfl
          | cons b l => simp at h1; omega
        rw [e] at h
        simpa using h
      simp only [startR, List.map_cons, List.map_nil, List.length_cons, List.length_nil, Nat.zero_add, Nat.reduceAdd, Nat.reduceSub, List.replicate, List.cons_append, List.nil_append, st_seq, st_set, st_ret, st_if, st_exp, st_par, st_skip, ev_call, ev_cons, ev_nil, ev_var, ev_c, ev_op2, ev_tru, ev_or, ev_and, ev_not, List.getElem?_cons_zero, List.getElem?_cons_succ, bind_ok, ofO_some, if_true, ofD_nil, List.append_nil, fl_ok, List.set_cons_zero, List.set_cons_succ, truth_b, Option.map_some, Bool.not_true, Bool.not_false, Bool.false_eq_true, if_false, ev_len, r_is_fraction, len_tup, sub_int, eq_int, r_is_nought]
      by_cases h1 : ((pre.length : Nat) : Int) = ((plD p).length : Int) - 1
      · have := e3 h1
        simp [h1, this]
      · simp [h1]
    simp only [gt_tp2, gt_nm, List.set_cons_zero, List.set_cons_succ, eb]
    rw [List.length_append, List.length_singleton] at e2
    exact e2
theorem r_need_polynomial {p : List Rat} (h : p.getLastD 0 ≠ 0) (S : Sto) : ∃ x, R_need_polynomial [.d (.tuple (plD p))] S = .ok x S := by
  obtain ⟨k1, k2, e⟩ := np_loop (p := p) (S := S) p [] none none rfl h
  have e2 : ∀ ρ : Slt, ρ[0]? = some (some (.d (.tuple (plD p)))) → fEn (fCons (fVar 0) fNil) ρ S = .ok ((p.zipIdx 0).map fun q => .tuple [.int (q.2 : Nat), fr q.1]) S := by
    intro ρ h0
    rw [en_ev]
    simp only [ev_var, h0, bind_ok, items_t, ofO_some]
    unfold enumD
    rw [enum_pl]
  refine ⟨.d .none, ?_⟩
  unfold R_need_polynomial runB B_need_polynomial
  have e3 : ∀ ρ : Slt, ρ[0]? = some (some (.d (.tuple (plD p)))) → fIsi .tp (fVar 0) ρ S = .ok (.d (.bool true)) S := by
    intro ρ h0
    unfold fIsi
    simp only [ev_var, h0, bind_ok]
    rfl
  unfold npB at e
  simp only [List.length_nil] at e
  simp only [startR, List.map_cons, List.map_nil, List.length_cons, List.length_nil, Nat.zero_add, Nat.reduceAdd, Nat.reduceSub, List.replicate, List.cons_append, List.nil_append, st_seq, st_set, st_ret, st_if, st_exp, st_par, st_skip, ev_call, ev_cons, ev_nil, ev_var, ev_c, ev_op2, ev_tru, ev_or, ev_and, ev_not, List.getElem?_cons_zero, List.getElem?_cons_succ, bind_ok, ofO_some, if_true, ofD_nil, List.append_nil, fl_ok, List.set_cons_zero, List.set_cons_succ, truth_b, Option.map_some, Bool.not_true, Bool.not_false, Bool.false_eq_true, if_false, st_for, e3, e2, e, fl_ok]
/-! ### the loop -/
noncomputable def orC : Fe Bool := fTru (fOp2 cGt (fCB gLen (fCons (fVar 1) fNil)) (fC (.d (.int 1))))
noncomputable def orB : Fs := (fSeq (fSet 4 (fOp2 gIx (fVar 1) (fNeg (fC (.d (.int 1))))))
  (fSeq (fExp (fMt gApp (fVar 2) (fCons (fVar 4) fNil)))
  (fSeq (fIf (fTru (fOp2 cGe (fCB gAbs (fCons (fOp2 gIx (fVar 4) (fC (.d (.int 0)))) fNil)) (fOp2 gIx (fVar 4) (fC (.d (.int 1)))))) (fRet (fVar 2)) fSkip)
  (fSeq (fSet 5 (fCall 2 [] R_less (fCons (fC (.d (.tuple [.int 1, .int 1]))) (fCons (fCall 2 [] R_times (fCons (fVar 4) (fCons (fVar 4) fNil))) fNil))))
  (fSet 1 nwO)))))
/-- all that comes by steps is small -/
def HS (l : List Rat) : Prop := ∀ j q, Stp j l q → (∃ m, q = 1 :: m) → ∀ a ∈ q, Sm 600 a
theorem HS.here {l : List Rat} (h : HS l) (hl : ∃ m, l = 1 :: m) : ∀ a ∈ l, Sm 600 a := h 0 l .zero hl
theorem HS.next {m : List Rat} {k : Rat} (h : HS (1 :: (m ++ [k]))) (hk : k * k ≠ 1) : HS (stepl k (1 :: (m ++ [k]))) := by
  intro j q hq hm
  have := Stp.succ (k := k) hk hq
  rw [lat_stepl hk] at this
  exact h (j + 1) q this hm
theorem abs_lt (k : Rat) : (((k.den : Nat) : Int) ≤ (if k.num < 0 then -k.num else k.num)) ↔ ¬ k * k < 1 := by
  have h1 := rat_eq k
  have h2 := den_ne k
  have hd := k.den_pos
  have hdR : (0 : Rat) < (k.den : Rat) := by exact_mod_cast hd
  have e : k * k * ((k.den : Rat) * (k.den : Rat)) = (k.num : Rat) * (k.num : Rat) := by grind
  have hdd : (0 : Rat) < (k.den : Rat) * (k.den : Rat) := Rat.mul_pos hdR hdR
  have h3 : k * k < 1 ↔ k.num * k.num < (k.den : Int) * (k.den : Int) := by
    constructor
    · intro h
      have h4 := Rat.mul_lt_mul_of_pos_right h hdd
      rw [e, Rat.one_mul] at h4
      exact_mod_cast h4
    · intro h
      have h4 : (k.num : Rat) * (k.num : Rat) < (k.den : Rat) * (k.den : Rat) := by exact_mod_cast h
      rw [← e] at h4
      refine Classical.byContradiction fun h5 => ?_
      have h6 := Rat.mul_le_mul_of_nonneg_right (show 1 ≤ k * k by grind) (show 0 ≤ (k.den : Rat) * (k.den : Rat) by grind)
      grind
  rw [h3, abs_nat]
  have e2 : k.num * k.num = ((k.num.natAbs * k.num.natAbs : Nat) : Int) := by rw [Int.natAbs_mul_self]
  have e3 : ((k.den : Int) * (k.den : Int)) = ((k.den * k.den : Nat) : Int) := by push_cast; rfl
  rw [e2, e3, Int.ofNat_lt, Int.ofNat_le]
  have h7 := @Nat.mul_self_lt_mul_self_iff k.num.natAbs k.den
  rw [h7]
  omega
theorem fr_one : fr 1 = .tuple [.int 1, .int 1] := rfl
theorem or_loop : ∀ (n : Nat) (m : List Rat), m.length = n → n ≤ 8 → HS (1 :: m) → ∀ (V : Sto) (h f : Nat) (acc : List Rat) (a0 j3 j4 j5 j6 j7 : Option W), Rd V h (plD (1 :: m)) → V[f]? = some (.lst ((plD acc).map W.d)) → h ≠ f → acc.length ≤ 100 - n →
    ∃ V', ((∃ ρ', whD orC orB (n + 1) [a0, some (.o h), some (.o f), j3, j4, j5, j6, j7] V = .nx ρ' V' ∧ ρ'[2]? = some (some (.o f))) ∨ whD orC orB (n + 1) [a0, some (.o h), some (.o f), j3, j4, j5, j6, j7] V = .rt (.o f) V') ∧
      V'[f]? = some (.lst ((plD (acc ++ outF n (1 :: m))).map W.d)) ∧ V.length ≤ V'.length ∧ ∀ i, i < V.length → i ≠ h → i ≠ f → V'[i]? = V[i]?
  | 0, m, hm, _, hs, V, h, f, acc, a0, j3, j4, j5, j6, j7, hR, hF, hne, ha => by
    obtain rfl := List.length_eq_zero_iff.mp hm
    refine ⟨V, .inl ⟨[a0, some (.o h), some (.o f), j3, j4, j5, j6, j7], ?_, rfl⟩, by simpa [outF] using hF, Nat.le_refl _, fun i _ _ _ => rfl⟩
    unfold whD
    have e1 : orC [a0, some (.o h), some (.o f), j3, j4, j5, j6, j7] V = .ok false V := by
      unfold orC
      simp only [startR, List.map_cons, List.map_nil, List.length_cons, List.length_nil, Nat.zero_add, Nat.reduceAdd, Nat.reduceSub, List.replicate, List.cons_append, List.nil_append, st_seq, st_set, st_ret, st_if, st_exp, st_par, st_skip, ev_call, ev_cons, ev_nil, ev_var, ev_c, ev_op2, ev_tru, ev_or, ev_and, ev_not, List.getElem?_cons_zero, List.getElem?_cons_succ, bind_ok, ofO_some, if_true, ofD_nil, List.append_nil, fl_ok, List.set_cons_zero, List.set_cons_succ, truth_b, Option.map_some, Bool.not_true, Bool.not_false, Bool.false_eq_true, if_false, ev_len, hR.len, gt_int']
      rfl
    rw [e1]
    rfl
  | n + 1, m, hm, hn, hs, V, h, f, acc, a0, j3, j4, j5, j6, j7, hR, hF, hne, ha => by
    obtain ⟨m', k, rfl⟩ : ∃ m' k, m = m' ++ [k] := ⟨m.dropLast, m.getLast (by intro z; subst z; simp at hm), (List.dropLast_concat_getLast _).symm⟩
    have hl' : m'.length = n := by simpa using hm
    have e1 : orC [a0, some (.o h), some (.o f), j3, j4, j5, j6, j7] V = .ok true V := by
      unfold orC
      simp only [startR, List.map_cons, List.map_nil, List.length_cons, List.length_nil, Nat.zero_add, Nat.reduceAdd, Nat.reduceSub, List.replicate, List.cons_append, List.nil_append, st_seq, st_set, st_ret, st_if, st_exp, st_par, st_skip, ev_call, ev_cons, ev_nil, ev_var, ev_c, ev_op2, ev_tru, ev_or, ev_and, ev_not, List.getElem?_cons_zero, List.getElem?_cons_succ, bind_ok, ofO_some, if_true, ofD_nil, List.append_nil, fl_ok, List.set_cons_zero, List.set_cons_succ, truth_b, Option.map_some, Bool.not_true, Bool.not_false, Bool.false_eq_true, if_false, ev_len, hR.len, gt_int']
      rw [decide_eq_true (by rw [plD_len]; simp; omega)]
    have e2 : gIx (.o h) (.d (.int (-1))) V = some (.d (fr k), V) := Rd.last (ds := plD (1 :: m')) (by simpa [plD] using hR)
    have hfl := (List.getElem?_eq_some_iff.mp hF).1
    have eA := app_at (fr k) hF (by rw [plD_len]; omega)
    have eH := hpl_at hF
    have hF2 : (V.set f (.lst ((plD acc ++ [fr k]).map W.d)))[f]? = some (.lst ((plD (acc ++ [k])).map W.d)) := by
      rw [List.getElem?_set_self hfl]
      simp [plD]
    have hR2 : Rd (V.set f (.lst ((plD acc ++ [fr k]).map W.d))) h (plD (1 :: (m' ++ [k]))) := hR.set (Ne.symm hne) _
    have hsk : Sm 600 k := hs.here ⟨_, rfl⟩ k (by simp)
    simp only [outF, last_app]
    unfold whD
    rw [e1]
    simp only [fl_ok, if_true]
    by_cases hk : k * k < 1
    · have hk1 : k * k ≠ 1 := by grind
      obtain ⟨m2, q1, q2⟩ := stepl_head (m := m') hk1
      have hs2 := hs.next hk1
      rw [q1] at hs2
      have t1 := r_times hsk hsk (V.set f (.lst ((plD acc ++ [fr k]).map W.d)))
      have t2 := r_less sm_one (hsk.mul hsk) (V.set f (.lst ((plD acc ++ [fr k]).map W.d)))
      rw [fr_one] at t2
      obtain ⟨V3, h3, e3, l3, r3, f3, g3⟩ := nwO_ok hR2 (hs.here ⟨_, rfl⟩) hsk hk1 (by simp; omega) (a0 := a0) (a2 := some (.o f)) (a3 := j3) (j6 := j6) (j7 := j7)
      rw [q1] at r3
      simp only [List.length_set] at l3 g3 f3
      have eb : orB [a0, some (.o h), some (.o f), j3, j4, j5, j6, j7] V = .nx [a0, some (.o h3), some (.o f), j3, some (.d (fr k)), some (.d (fr (1 - k * k))), j6, j7] V3 := by
        unfold orB
        have ed : decide (((k.den : Nat) : Int) ≤ (if k.num < 0 then -k.num else k.num)) = false := decide_eq_false (fun z => (abs_lt k).mp z hk)
        have x0 : ∀ V, gIx (.d (fr k)) (.d (.int 0)) V = some (.d (.int k.num), V) := fun V => rfl
        have x1 : ∀ V, gIx (.d (fr k)) (.d (.int 1)) V = some (.d (.int (k.den : Nat)), V) := fun V => rfl
        simp only [startR, List.map_cons, List.map_nil, List.length_cons, List.length_nil, Nat.zero_add, Nat.reduceAdd, Nat.reduceSub, List.replicate, List.cons_append, List.nil_append, st_seq, st_set, st_ret, st_if, st_exp, st_par, st_skip, ev_call, ev_cons, ev_nil, ev_var, ev_c, ev_op2, ev_tru, ev_or, ev_and, ev_not, List.getElem?_cons_zero, List.getElem?_cons_succ, bind_ok, ofO_some, if_true, ofD_nil, List.append_nil, fl_ok, List.set_cons_zero, List.set_cons_succ, truth_b, Option.map_some, Bool.not_true, Bool.not_false, Bool.false_eq_true, if_false, ev_neg1, e2, ev_mt, eH, Option.isSome_some, eA, x0, x1, ev_abs, abs_int, ge_int', ed, t1, t2, e3]
      rw [if_pos hk, q1]
      obtain ⟨V', d1, d2, d3, d4⟩ := or_loop n m2 (by omega) (by omega) hs2 V3 h3 f (acc ++ [k]) a0 j3 (some (.d (fr k))) (some (.d (fr (1 - k * k)))) j6 j7 r3 (by rw [f3 f hfl (Ne.symm hne)]; exact hF2) (by omega) (by simp; omega)
      refine ⟨V', ?_, by rw [d2]; simp, by omega, fun i i1 i2 i3 => ?_⟩
      · simp only [eb]
        exact d1
      · rw [d4 i (by omega) (by omega) i3, f3 i i1 i2, List.getElem?_set_ne (Ne.symm i3)]
    · rw [if_neg hk]
      have eb : orB [a0, some (.o h), some (.o f), j3, j4, j5, j6, j7] V = .rt (.o f) (V.set f (.lst ((plD acc ++ [fr k]).map W.d))) := by
        unfold orB
        have ed : decide (((k.den : Nat) : Int) ≤ (if k.num < 0 then -k.num else k.num)) = true := decide_eq_true ((abs_lt k).mpr hk)
        have x0 : ∀ V, gIx (.d (fr k)) (.d (.int 0)) V = some (.d (.int k.num), V) := fun V => rfl
        have x1 : ∀ V, gIx (.d (fr k)) (.d (.int 1)) V = some (.d (.int (k.den : Nat)), V) := fun V => rfl
        simp only [startR, List.map_cons, List.map_nil, List.length_cons, List.length_nil, Nat.zero_add, Nat.reduceAdd, Nat.reduceSub, List.replicate, List.cons_append, List.nil_append, st_seq, st_set, st_ret, st_if, st_exp, st_par, st_skip, ev_call, ev_cons, ev_nil, ev_var, ev_c, ev_op2, ev_tru, ev_or, ev_and, ev_not, List.getElem?_cons_zero, List.getElem?_cons_succ, bind_ok, ofO_some, if_true, ofD_nil, List.append_nil, fl_ok, List.set_cons_zero, List.set_cons_succ, truth_b, Option.map_some, Bool.not_true, Bool.not_false, Bool.false_eq_true, if_false, ev_neg1, e2, ev_mt, eH, Option.isSome_some, eA, x0, x1, ev_abs, abs_int, ge_int', ed]
      refine ⟨V.set f (.lst ((plD acc ++ [fr k]).map W.d)), .inr ?_, hF2, by simp, fun i _ _ i3 => List.getElem?_set_ne (Ne.symm i3)⟩
      simp only [eb]
end G
set_option Elab.async false
set_option linter.all false
set_option maxRecDepth 100000
set_option maxHeartbeats 4000000
/-! S13: out_row and the law's own row, whole -/
namespace G
open PySem PySem.Spec L2 PyProof.Rows
set_option autoImplicit false
theorem pl_pl (l : List Rat) : ∀ x ∈ plD l, Pl 1 x := fun x hx => by
  obtain ⟨q, _, rfl⟩ := List.mem_map.mp hx
  exact pl_fr q
theorem ix_t0 (d : PyData) (ds : List PyData) (V : Sto) : gIx (.d (.tuple (d :: ds))) (.d (.int 0)) V = some (.d d, V) := by
  unfold gIx seqOf
  have e : L2.atI ((d :: ds).map W.d) ((0 : Nat) : Int) = some (W.d d) := atI_nat rfl
  simp only []
  rw [show (0 : Int) = ((0 : Nat) : Int) from rfl, e]
  rfl
theorem over_map {c : Rat} (hc : c ≠ 0) (p : List Rat) : (p.map fun a => c * a).map (fun a => a / c) = p := map_div hc p
theorem r_out_row {m : List Rat} {c : Rat} (hc : c ≠ 0) (hm : m.length ≤ 8) (hs : HS (1 :: m)) (hsc : ∀ a ∈ (1 :: m).map fun a => c * a, Sm 700 a) (hl : (1 :: m).getLastD 0 ≠ 0) (S : Sto) :
    ∃ V' f, R_out_row [.d (.tuple (plD ((1 :: m).map fun a => c * a)))] S = .ok (.o f) V' ∧ S.length ≤ f ∧ V'[f]? = some (.lst ((plD (outF m.length (1 :: m))).map W.d)) ∧ Fr S.length S V' := by
  have hw : ((1 :: m).map fun a => c * a).getLastD 0 ≠ 0 := by
    rw [List.getLastD_eq_getLast?, List.getLast?_map]
    rw [List.getLastD_eq_getLast?] at hl
    cases e : (1 :: m).getLast? with
    | none => rw [e] at hl; simp at hl
    | some z =>
      rw [e] at hl
      simp only [Option.getD_some, Option.map_some] at hl ⊢
      intro h0
      rcases Rat.mul_eq_zero.mp h0 with h1 | h1
      · exact hc h1
      · exact hl h1
  obtain ⟨x, e1⟩ := r_need_polynomial hw S
  have c1 : c * 1 = c := by grind
  have hsc1 : Sm 700 c := by have := hsc (c * 1) (by simp); rwa [c1] at this
  generalize hW : ((1 :: m).map fun a => c * a) = w at *
  have w0 : w = c :: m.map fun a => c * a := by rw [← hW, List.map_cons, c1]
  have x0 : ∀ V, gIx (.d (.tuple (plD w))) (.d (.int 0)) V = some (.d (fr c), V) := fun V => by rw [w0]; exact ix_t0 _ _ V
  have n0 := r_is_nought c S
  rw [decide_eq_false hc] at n0
  have eqT : dEq false (.d (.tuple (plD w))) (.d (.tuple [])) S = some (.d (.bool false), S) := by
    rw [dEq_d false ((pl_tup (pl_pl w)).shp (by decide)) rfl]
    have : PyData.eqv (.tuple (plD w)) (.tuple []) = false := by rw [w0]; simp [plD, PyData.eqv, PyData.eqvAll]
    rw [this]; rfl
  have tn : ∀ (ρ : Slt) (V : Sto), fTup fNil ρ V = .ok (.d (.tuple [])) V := fun ρ V => rfl
  -- the first row
  obtain ⟨T, e2⟩ := fLc_ok (f := fIt (fVar 0)) (g := gNm 3) (e := fCall 2 [] R_over (fCons (fVar 3) (fCons (fOp2 gIx (fVar 0) (fC (.d (.int 0)))) fNil))) (vs := [3]) (ρ := [some (.d (.tuple (plD w))), none, none, none, none, none, none, none]) (S := S) (T0 := []) (ds := w) (mk := fr)
    (fun a => .d (fr (a / c))) (by simp [plD]) (by rw [w0]; simp; omega) (fun a ha => ⟨_, fun V => rfl, fun V => by
      refine Pu.of ?_
      have t1 := r_over (hsc a ha) hsc1 hc V
      simp only [gNm, wipeR, List.set_cons_zero, List.set_cons_succ, startR, List.map_cons, List.map_nil, List.length_cons, List.length_nil, Nat.zero_add, Nat.reduceAdd, Nat.reduceSub, List.replicate, List.cons_append, List.nil_append, st_seq, st_set, st_ret, st_if, st_exp, st_par, st_skip, ev_call, ev_cons, ev_nil, ev_var, ev_c, ev_op2, ev_tru, ev_or, ev_and, ev_not, List.getElem?_cons_zero, List.getElem?_cons_succ, bind_ok, ofO_some, if_true, ofD_nil, List.append_nil, fl_ok, List.set_cons_zero, List.set_cons_succ, truth_b, Option.map_some, Bool.not_true, Bool.not_false, Bool.false_eq_true, if_false, x0, t1]⟩)
  rw [List.append_nil] at e2
  have eL : w.map (fun a => W.d (fr (a / c))) = (plD (1 :: m)).map W.d := by
    rw [← over_map hc (1 :: m), hW]
    simp [plD, List.map_map]
  rw [eL] at e2
  generalize hV0 : S ++ .lst ((plD (1 :: m)).map W.d) :: T = V0 at e2
  have g0 : V0[S.length]? = some (.lst ((plD (1 :: m)).map W.d)) := by rw [← hV0, get_len_app]
  have l0 : S.length < V0.length := by rw [← hV0]; simp
  have f0 : Fr S.length S V0 := by rw [← hV0]; exact (Fr.refl _ _).app (Nat.le_refl _) _
  have eN : ∀ ρ : Slt, fLst fNil ρ V0 = .ok (.o V0.length) (V0 ++ [Cell.lst []]) := fun ρ => rfl
  obtain ⟨V', d1, d2, d3, d4⟩ := or_loop m.length m rfl hm hs (V0 ++ [Cell.lst []]) S.length V0.length [] (some (.d (.tuple (plD w)))) none none none none none (.inl (by rw [List.getElem?_append_left l0]; exact g0)) (by rw [get_len_app]; rfl) (by omega) (by simp)
  rw [List.nil_append] at d2
  have fr' : Fr S.length S V' := by
    refine ⟨by simp at d3; omega, fun i hi => ?_⟩
    rw [d4 i (by simp; omega) (by omega) (by omega), List.getElem?_append_left (by omega), f0.at_ i hi]
  refine ⟨V', V0.length, ?_, by omega, d2, fr'⟩
  unfold R_out_row runB B_out_row
  simp only [startR, List.map_cons, List.map_nil, List.length_cons, List.length_nil, Nat.zero_add, Nat.reduceAdd, Nat.reduceSub, List.replicate, List.cons_append, List.nil_append, st_seq, st_set, st_ret, st_if, st_exp, st_par, st_skip, ev_call, ev_cons, ev_nil, ev_var, ev_c, ev_op2, ev_tru, ev_or, ev_and, ev_not, List.getElem?_cons_zero, List.getElem?_cons_succ, bind_ok, ofO_some, if_true, ofD_nil, List.append_nil, fl_ok, List.set_cons_zero, List.set_cons_succ, truth_b, Option.map_some, Bool.not_true, Bool.not_false, Bool.false_eq_true, if_false, e1, eqT, tn, x0, n0, e2, eN]
  rcases d1 with ⟨ρ', d1, d5⟩ | d1
  · have d6 := fWh_eq (c := orC) (b := orB) (n := m.length + 1) (ρ := [some (.d (.tuple (plD w))), some (.o S.length), some (.o V0.length), none, none, none, none, none]) (S := V0 ++ [Cell.lst []]) (by rw [d1]; intro z; cases z)
    rw [d1] at d6
    unfold orC orB nwO at d6
    simp only [d6, d5, fl_ok]
  · have d6 := fWh_eq (c := orC) (b := orB) (n := m.length + 1) (ρ := [some (.d (.tuple (plD w))), some (.o S.length), some (.o V0.length), none, none, none, none, none]) (S := V0 ++ [Cell.lst []]) (by rw [d1]; intro z; cases z)
    rw [d1] at d6
    unfold orC orB nwO at d6
    simp only [d6]
/-! ### the law's own -/
noncomputable def lrC : Fe Bool := (fAnd (fTru (fOp2 cGt (fCB gLen (fCons (fVar 1) fNil)) (fC (.d (.int 1))))) (fOr (fTru (fOp2 (dEq false) (fVar 2) (fLst fNil))) (fTru (fOp2 cLt (fCB gAbs (fCons (fOp2 gIx (fOp2 gIx (fVar 2) (fNeg (fC (.d (.int 1))))) (fC (.d (.int 0)))) fNil)) (fOp2 gIx (fOp2 gIx (fVar 2) (fNeg (fC (.d (.int 1))))) (fC (.d (.int 1))))))))
noncomputable def lrL : Fe W := (fLc (fZ2 (fCons (fVar 1) (fCons (fRevL (fVar 1)) fNil))) (gTp 2 (gsCons (gNm 7) (gsCons (gNm 8) gsNil))) fYes (fCall 2 [] R__law_less (fCons (fVar 7) (fCons (fCall 2 [] R__law_times (fCons (fVar 4) (fCons (fVar 8) fNil))) fNil))) [7, 8])
noncomputable def lrM : Fe W := (fLc (fIt (fSl (fVar 6) fNoP (fPart (fNeg (fC (.d (.int 1))))))) (gNm 3) fYes (fCall 2 [] R__law_over (fCons (fVar 3) (fCons (fVar 5) fNil))) [3])
noncomputable def lrB : Fs := (fSeq (fSet 4 (fOp2 gIx (fVar 1) (fNeg (fC (.d (.int 1))))))
  (fSeq (fExp (fMt gApp (fVar 2) (fCons (fVar 4) fNil)))
  (fSeq (fSet 5 (fCall 2 [] R__law_less (fCons (fTup (fCons (fC (.d (.int 1))) (fCons (fC (.d (.int 1))) fNil))) (fCons (fCall 2 [] R__law_times (fCons (fVar 4) (fCons (fVar 4) fNil))) fNil))))
  (fIf (fTru (fOp2 cGt (fOp2 gIx (fVar 5) (fC (.d (.int 0)))) (fC (.d (.int 0))))) (fSeq (fSet 6 lrL) (fSet 1 lrM)) fSkip))))
/-- the last one told is less than 1 -/
def LsF (acc : List Rat) : Prop := ∀ k, acc.getLast? = some k → k * k < 1
theorem lrC_one {V : Sto} {h f : Nat} {a0 j3 j4 j5 j6 j7 j8 : Option W} (hR : Rd V h (plD [1])) : lrC [a0, some (.o h), some (.o f), j3, j4, j5, j6, j7, j8] V = .ok false V := by
  unfold lrC
  simp only [startR, List.map_cons, List.map_nil, List.length_cons, List.length_nil, Nat.zero_add, Nat.reduceAdd, Nat.reduceSub, List.replicate, List.cons_append, List.nil_append, st_seq, st_set, st_ret, st_if, st_exp, st_par, st_skip, ev_call, ev_cons, ev_nil, ev_var, ev_c, ev_op2, ev_tru, ev_or, ev_and, ev_not, List.getElem?_cons_zero, List.getElem?_cons_succ, bind_ok, ofO_some, if_true, ofD_nil, List.append_nil, fl_ok, List.set_cons_zero, List.set_cons_succ, truth_b, Option.map_some, Bool.not_true, Bool.not_false, Bool.false_eq_true, if_false, ev_len, hR.len, gt_int']
  rfl
theorem lrC_ok {V : Sto} {h f : Nat} {l acc : List Rat} {a0 j3 j4 j5 j6 j7 j8 : Option W} (hR : Rd V h (plD l)) (hl : 2 ≤ l.length) (hF : V[f]? = some (.lst ((plD acc).map W.d))) :
    ∃ b, lrC [a0, some (.o h), some (.o f), j3, j4, j5, j6, j7, j8] V = .ok b (V ++ [Cell.lst []]) ∧ (b = true ↔ LsF acc) := by
  have hfl := (List.getElem?_eq_some_iff.mp hF).1
  have hF2 : (V ++ [Cell.lst []])[f]? = some (Cell.lst ((plD acc).map W.d)) := by rw [List.getElem?_append_left hfl]; exact hF
  have eN : ∀ ρ : Slt, fLst fNil ρ V = .ok (.o V.length) (V ++ [Cell.lst []]) := fun ρ => rfl
  have v1 := Rd.view (.inl hF2 : Rd (V ++ [Cell.lst []]) f (plD acc))
  have v2 : view (.o V.length) (V ++ [Cell.lst []]) = some (.list []) := Rd.view (.inl (by rw [get_len_app]; rfl) : Rd (V ++ [Cell.lst []]) V.length [])
  have e1 : dEq false (.o f) (.o V.length) (V ++ [Cell.lst []]) = some (.d (.bool (PyData.eqv (.list (plD acc)) (.list []))), V ++ [Cell.lst []]) := by
    unfold dEq
    rw [v1, v2]
    simp only []
    rw [if_pos (by rw [(pl_lst (pl_pl acc)).shp (by decide)]; rfl)]
    rfl
  cases acc with
  | nil =>
    refine ⟨true, ?_, ⟨fun _ k hk => by simp at hk, fun _ => rfl⟩⟩
    have e2 : PyData.eqv (.list (plD [])) (.list []) = true := by simp [plD, PyData.eqv, PyData.eqvAll]
    unfold lrC
    simp only [startR, List.map_cons, List.map_nil, List.length_cons, List.length_nil, Nat.zero_add, Nat.reduceAdd, Nat.reduceSub, List.replicate, List.cons_append, List.nil_append, st_seq, st_set, st_ret, st_if, st_exp, st_par, st_skip, ev_call, ev_cons, ev_nil, ev_var, ev_c, ev_op2, ev_tru, ev_or, ev_and, ev_not, List.getElem?_cons_zero, List.getElem?_cons_succ, bind_ok, ofO_some, if_true, ofD_nil, List.append_nil, fl_ok, List.set_cons_zero, List.set_cons_succ, truth_b, Option.map_some, Bool.not_true, Bool.not_false, Bool.false_eq_true, if_false, ev_len, hR.len, gt_int', plD_len]
    rw [decide_eq_true (show (1 : Int) < (l.length : Nat) by omega)]
    simp only [startR, List.map_cons, List.map_nil, List.length_cons, List.length_nil, Nat.zero_add, Nat.reduceAdd, Nat.reduceSub, List.replicate, List.cons_append, List.nil_append, st_seq, st_set, st_ret, st_if, st_exp, st_par, st_skip, ev_call, ev_cons, ev_nil, ev_var, ev_c, ev_op2, ev_tru, ev_or, ev_and, ev_not, List.getElem?_cons_zero, List.getElem?_cons_succ, bind_ok, ofO_some, if_true, ofD_nil, List.append_nil, fl_ok, List.set_cons_zero, List.set_cons_succ, truth_b, Option.map_some, Bool.not_true, Bool.not_false, Bool.false_eq_true, if_false, eN, e1, e2]
  | cons a acc' =>
    have e2 : PyData.eqv (.list (plD (a :: acc'))) (.list []) = false := by simp [plD, PyData.eqv, PyData.eqvAll]
    obtain ⟨pre, k, e3⟩ : ∃ pre k, a :: acc' = pre ++ [k] := ⟨_, _, (List.dropLast_concat_getLast (by simp)).symm⟩
    rw [e3] at hF2 e2 e1 ⊢
    have e4 : gIx (.o f) (.d (.int (-1))) (V ++ [Cell.lst []]) = some (.d (fr k), V ++ [Cell.lst []]) := Rd.last (ds := plD pre) (.inl (by simpa [plD] using hF2))
    have x0 : ∀ V, gIx (.d (fr k)) (.d (.int 0)) V = some (.d (.int k.num), V) := fun V => rfl
    have x1 : ∀ V, gIx (.d (fr k)) (.d (.int 1)) V = some (.d (.int (k.den : Nat)), V) := fun V => rfl
    refine ⟨decide ((if k.num < 0 then -k.num else k.num) < ((k.den : Nat) : Int)), ?_, ?_⟩
    · unfold lrC
      simp only [startR, List.map_cons, List.map_nil, List.length_cons, List.length_nil, Nat.zero_add, Nat.reduceAdd, Nat.reduceSub, List.replicate, List.cons_append, List.nil_append, st_seq, st_set, st_ret, st_if, st_exp, st_par, st_skip, ev_call, ev_cons, ev_nil, ev_var, ev_c, ev_op2, ev_tru, ev_or, ev_and, ev_not, List.getElem?_cons_zero, List.getElem?_cons_succ, bind_ok, ofO_some, if_true, ofD_nil, List.append_nil, fl_ok, List.set_cons_zero, List.set_cons_succ, truth_b, Option.map_some, Bool.not_true, Bool.not_false, Bool.false_eq_true, if_false, ev_len, hR.len, gt_int', plD_len]
      rw [decide_eq_true (show (1 : Int) < (l.length : Nat) by omega)]
      simp only [startR, List.map_cons, List.map_nil, List.length_cons, List.length_nil, Nat.zero_add, Nat.reduceAdd, Nat.reduceSub, List.replicate, List.cons_append, List.nil_append, st_seq, st_set, st_ret, st_if, st_exp, st_par, st_skip, ev_call, ev_cons, ev_nil, ev_var, ev_c, ev_op2, ev_tru, ev_or, ev_and, ev_not, List.getElem?_cons_zero, List.getElem?_cons_succ, bind_ok, ofO_some, if_true, ofD_nil, List.append_nil, fl_ok, List.set_cons_zero, List.set_cons_succ, truth_b, Option.map_some, Bool.not_true, Bool.not_false, Bool.false_eq_true, if_false, eN, e1, e2, ev_neg1, e4, x0, x1, ev_abs, abs_int, lt_int']
    · rw [decide_eq_true_eq]
      have h1 := abs_lt k
      constructor
      · intro h2 k' hk'
        rw [List.getLast?_concat] at hk'
        cases hk'
        exact Classical.byContradiction fun h3 => by have := h1.mpr h3; omega
      · intro h2
        have h3 := h2 k (List.getLast?_concat ..)
        refine Classical.byContradiction fun h4 => ?_
        exact h1.mp (by omega) h3
theorem lrN_ok {V : Sto} {h : Nat} {l : List Rat} {k : Rat} (hR : Rd V h (plD l)) (hs : ∀ a ∈ l, Sm 600 a) (hk : Sm 600 k) (hk1 : k * k ≠ 1) (hl : l.length ≤ 20) {a0 a2 j6 j7 j8 a3 : Option W} :
    ∃ V' h' s, fSeq (fSet 6 lrL) (fSet 1 lrM) [a0, some (.o h), a2, a3, some (.d (fr k)), some (.d (fr (1 - k * k))), j6, j7, j8] V = .nx [a0, some (.o h'), a2, a3, some (.d (fr k)), some (.d (fr (1 - k * k))), some (.o s), j7, j8] V' ∧ V.length ≤ h' ∧ Rd V' h' (plD (stepl k l)) ∧ (∀ i, i < V.length → i ≠ h → V'[i]? = V[i]?) ∧ V.length ≤ V'.length := by
  obtain ⟨V3, e3, l3, f3, r3⟩ := z2_ok hR (ρ := [a0, some (.o h), a2, a3, some (.d (fr k)), some (.d (fr (1 - k * k))), j6, j7, j8]) rfl
  have hrest : Sm 1202 (1 - k * k) := (sm_one.sub (hk.mul hk)).mono (by omega)
  obtain ⟨V4, e4, f4, l4, g4⟩ := lc_yes (f := fZ2 (fCons (fVar 1) (fCons (fRevL (fVar 1)) fNil))) (g := gTp 2 (gsCons (gNm 7) (gsCons (gNm 8) gsNil))) (vs := [7, 8]) (e := (fCall 2 [] R__law_less (fCons (fVar 7) (fCons (fCall 2 [] R__law_times (fCons (fVar 4) (fCons (fVar 8) fNil))) fNil))))
    (ρ := [a0, some (.o h), a2, a3, some (.d (fr k)), some (.d (fr (1 - k * k))), j6, j7, j8]) (ds := l.zip l.reverse) (mk := fun p => .tuple [fr p.1, fr p.2]) (S := V) (S0 := V3)
    (fun p => fr (p.1 - k * p.2)) (fun W => Fr V3.length V3 W) e3 (by simp; omega) (fun W x hW _ => hW.set (Nat.le_refl _) x) ((Fr.refl _ _).app (Nat.le_refl _) _) (by
      intro p hp
      have h1 : p.1 ∈ l := (List.of_mem_zip hp).1
      have h2 : p.2 ∈ l := by simpa using (List.of_mem_zip hp).2
      refine ⟨[a0, some (.o h), a2, a3, some (.d (fr k)), some (.d (fr (1 - k * k))), j6, some (.d (fr p.1)), some (.d (fr p.2))], fun W => rfl, fun W hW hl => ⟨W, ?_, hW, Nat.le_refl _, rfl⟩⟩
      have t1 := r__law_times hk (hs p.2 h2) W
      have t2 := r__law_less (hs p.1 h1) (hk.mul (hs p.2 h2)) W
      simp only [startR, List.map_cons, List.map_nil, List.length_cons, List.length_nil, Nat.zero_add, Nat.reduceAdd, Nat.reduceSub, List.replicate, List.cons_append, List.nil_append, st_seq, st_set, st_ret, st_if, st_exp, st_par, st_skip, ev_call, ev_cons, ev_nil, ev_var, ev_c, ev_op2, ev_tru, ev_or, ev_and, ev_not, List.getElem?_cons_zero, List.getElem?_cons_succ, bind_ok, ofO_some, if_true, ofD_nil, List.append_nil, fl_ok, List.set_cons_zero, List.set_cons_succ, truth_b, Option.map_some, Bool.not_true, Bool.not_false, Bool.false_eq_true, if_false, t1, t2])
  -- its first ones
  let ys := ((l.zip l.reverse).map fun p => p.1 - k * p.2).dropLast
  have hys : ∀ y ∈ ys, Sm 1801 y := by
    intro y hy
    obtain ⟨p, hp, rfl⟩ := List.mem_map.mp (List.dropLast_subset _ hy)
    have h1 : p.1 ∈ l := (List.of_mem_zip hp).1
    have h2 : p.2 ∈ l := by simpa using (List.of_mem_zip hp).2
    exact ((hs p.1 h1).sub (hk.mul (hs p.2 h2))).mono (by omega)
  have eS : gSl (.o V3.length) none (some (-1)) V4 = some (.o V4.length, V4 ++ [Cell.lst ((plD ys).map W.d)]) := by
    show (match lstOf (.o V3.length) V4 with | some ws => some (W.o V4.length, V4 ++ [Cell.lst (cutW ws none (some (-1)))]) | none => none) = _
    rw [Rd.lst (.inl g4)]
    simp only [cut_last]
    congr 3
    simp only [ys, plD, List.map_dropLast, List.map_map]
    rfl
  have r5 : Rd (V4 ++ [Cell.lst ((plD ys).map W.d)]) V4.length (plD ys) := .inl (get_len_app _ _ _)
  obtain ⟨i1, i2⟩ := r5.items
  have eP : ∀ (ρ : Slt) (W : Sto), fPart (fNeg (fC (.d (.int 1)))) ρ W = .ok (some (-1)) W := fun ρ W => rfl
  have e5 : fIt (fSl (fVar 6) fNoP (fPart (fNeg (fC (.d (.int 1)))))) [a0, some (.o h), a2, a3, some (.d (fr k)), some (.d (fr (1 - k * k))), some (.o V3.length), j7, j8] V4 = .ok (ys.map fr) ((V4 ++ [Cell.lst ((plD ys).map W.d)]).set V4.length (.fz (.list (plD ys)))) := by
    rw [it_ev, ev_sl]
    simp only [ev_var, List.getElem?_cons_zero, List.getElem?_cons_succ, bind_ok, noP, eP, eS, ofO_some, i1]
    rfl
  generalize hV5 : (V4 ++ [Cell.lst ((plD ys).map W.d)]).set V4.length (.fz (.list (plD ys))) = V5 at e5
  have l5 : V5.length = V4.length + 1 := by rw [← hV5]; simp
  have f5 : ∀ i, i < V4.length → V5[i]? = V4[i]? := fun i hi => by rw [← hV5, List.getElem?_set_ne (by omega), List.getElem?_append_left hi]
  obtain ⟨V6, e6, f6, l6, g6⟩ := lc_yes (g := gNm 3) (vs := [3]) (e := fCall 2 [] R__law_over (fCons (fVar 3) (fCons (fVar 5) fNil)))
    (ds := ys) (mk := fr) (S0 := V5)
    (fun y => fr (y / (1 - k * k))) (fun W => Fr V5.length V5 W) e5 (by simp [ys]; omega) (fun W x hW _ => hW.set (Nat.le_refl _) x) ((Fr.refl _ _).app (Nat.le_refl _) _) (by
      intro y hy
      refine ⟨[a0, some (.o h), a2, some (.d (fr y)), some (.d (fr k)), some (.d (fr (1 - k * k))), some (.o V3.length), j7, j8], fun W => rfl, fun W hW hl => ⟨W, ?_, hW, Nat.le_refl _, rfl⟩⟩
      have t3 := r__law_over (hys y hy) hrest (by grind) W
      simp only [startR, List.map_cons, List.map_nil, List.length_cons, List.length_nil, Nat.zero_add, Nat.reduceAdd, Nat.reduceSub, List.replicate, List.cons_append, List.nil_append, st_seq, st_set, st_ret, st_if, st_exp, st_par, st_skip, ev_call, ev_cons, ev_nil, ev_var, ev_c, ev_op2, ev_tru, ev_or, ev_and, ev_not, List.getElem?_cons_zero, List.getElem?_cons_succ, bind_ok, ofO_some, if_true, ofD_nil, List.append_nil, fl_ok, List.set_cons_zero, List.set_cons_succ, truth_b, Option.map_some, Bool.not_true, Bool.not_false, Bool.false_eq_true, if_false, t3])
  refine ⟨V6, V5.length, V3.length, ?_, by omega, .inl ?_, ?_, by omega⟩
  · unfold lrL lrM
    simp only [startR, List.map_cons, List.map_nil, List.length_cons, List.length_nil, Nat.zero_add, Nat.reduceAdd, Nat.reduceSub, List.replicate, List.cons_append, List.nil_append, st_seq, st_set, st_ret, st_if, st_exp, st_par, st_skip, ev_call, ev_cons, ev_nil, ev_var, ev_c, ev_op2, ev_tru, ev_or, ev_and, ev_not, List.getElem?_cons_zero, List.getElem?_cons_succ, bind_ok, ofO_some, if_true, ofD_nil, List.append_nil, fl_ok, List.set_cons_zero, List.set_cons_succ, truth_b, Option.map_some, Bool.not_true, Bool.not_false, Bool.false_eq_true, if_false, e4, e6]
  · rw [g6]
    congr 3
    rw [← step_list]
    simp only [ys, plD, List.map_dropLast, List.map_map]
    rfl
  · intro i hi hne
    rw [f6.at_ i (by omega), f5 i (by omega), f4.at_ i (by omega), f3 i hi hne]
end G
set_option Elab.async false
set_option linter.all false
set_option maxRecDepth 100000
set_option maxHeartbeats 4000000
/-! S14: the law's own row, whole -/
namespace G
open PySem PySem.Spec L2 PyProof.Rows
set_option autoImplicit false
theorem pos_rest (k : Rat) : decide ((0 : Int) < (1 - k * k).num) = decide (k * k < 1) := by
  have : (0 : Int) < (1 - k * k).num ↔ k * k < 1 := by
    have h1 : 0 ≤ (1 - k * k).num ↔ 0 ≤ 1 - k * k := Rat.num_nonneg
    have h2 : (1 - k * k).num = 0 ↔ 1 - k * k = 0 := Rat.num_eq_zero
    constructor
    · intro h
      have h3 := h1.mp (by omega)
      have h4 : ¬ 1 - k * k = 0 := fun z => by have := h2.mpr z; omega
      grind
    · intro h
      have h3 := h1.mpr (by grind)
      have h4 : ¬ (1 - k * k).num = 0 := fun z => by have := h2.mp z; grind
      omega
  by_cases h : k * k < 1
  · rw [decide_eq_true h, decide_eq_true (this.mpr h)]
  · rw [decide_eq_false h, decide_eq_false (fun z => h (this.mp z))]
theorem lrw_loop : ∀ (n : Nat) (m : List Rat), m.length = n → n ≤ 8 → HS (1 :: m) → ∀ (V : Sto) (h f : Nat) (acc : List Rat) (a0 j3 j4 j5 j6 j7 j8 : Option W), Rd V h (plD (1 :: m)) → V[f]? = some (.lst ((plD acc).map W.d)) → h ≠ f → acc.length ≤ 100 - n → LsF acc →
    ∃ V' ρ', whD lrC lrB (n + 2) [a0, some (.o h), some (.o f), j3, j4, j5, j6, j7, j8] V = .nx ρ' V' ∧ ρ'[2]? = some (some (.o f)) ∧
      V'[f]? = some (.lst ((plD (acc ++ outF n (1 :: m))).map W.d)) ∧ V.length ≤ V'.length ∧ ∀ i, i < V.length → i ≠ h → i ≠ f → V'[i]? = V[i]?
  | 0, m, hm, _, hs, V, h, f, acc, a0, j3, j4, j5, j6, j7, j8, hR, hF, hne, ha, hL => by
    obtain rfl := List.length_eq_zero_iff.mp hm
    refine ⟨V, [a0, some (.o h), some (.o f), j3, j4, j5, j6, j7, j8], ?_, rfl, by simpa [outF] using hF, Nat.le_refl _, fun i _ _ _ => rfl⟩
    unfold whD
    rw [lrC_one hR]
    rfl
  | n + 1, m, hm, hn, hs, V, h, f, acc, a0, j3, j4, j5, j6, j7, j8, hR, hF, hne, ha, hL => by
    obtain ⟨m', k, rfl⟩ : ∃ m' k, m = m' ++ [k] := ⟨m.dropLast, m.getLast (by intro z; subst z; simp at hm), (List.dropLast_concat_getLast _).symm⟩
    have hl' : m'.length = n := by simpa using hm
    obtain ⟨b, e1, hb⟩ := lrC_ok hR (by simp) hF (a0 := a0) (j3 := j3) (j4 := j4) (j5 := j5) (j6 := j6) (j7 := j7) (j8 := j8)
    rw [hb.mpr hL] at e1
    have hfl := (List.getElem?_eq_some_iff.mp hF).1
    have hR1 : Rd (V ++ [Cell.lst []]) h (plD (1 :: (m' ++ [k]))) := hR.app _
    have hF1 : (V ++ [Cell.lst []])[f]? = some (.lst ((plD acc).map W.d)) := by rw [List.getElem?_append_left hfl]; exact hF
    generalize hV1 : V ++ [Cell.lst []] = V1 at e1 hR1 hF1
    have l1 : V1.length = V.length + 1 := by rw [← hV1]; simp
    have f1 : ∀ i, i < V.length → V1[i]? = V[i]? := fun i hi => by rw [← hV1, List.getElem?_append_left hi]
    have e2 : gIx (.o h) (.d (.int (-1))) V1 = some (.d (fr k), V1) := Rd.last (ds := plD (1 :: m')) (by simpa [plD] using hR1)
    have eA := app_at (fr k) hF1 (by rw [plD_len]; omega)
    have eH := hpl_at hF1
    have hF2 : (V1.set f (.lst ((plD acc ++ [fr k]).map W.d)))[f]? = some (.lst ((plD (acc ++ [k])).map W.d)) := by
      rw [List.getElem?_set_self (by omega)]
      simp [plD]
    have hR2 : Rd (V1.set f (.lst ((plD acc ++ [fr k]).map W.d))) h (plD (1 :: (m' ++ [k]))) := hR1.set (Ne.symm hne) _
    have hsk : Sm 600 k := hs.here ⟨_, rfl⟩ k (by simp)
    have t1 := r__law_times hsk hsk (V1.set f (.lst ((plD acc ++ [fr k]).map W.d)))
    have t2 := r__law_less sm_one (hsk.mul hsk) (V1.set f (.lst ((plD acc ++ [fr k]).map W.d)))
    rw [fr_one] at t2
    have x2 : ∀ V, gIx (.d (fr (1 - k * k))) (.d (.int 0)) V = some (.d (.int (1 - k * k).num), V) := fun V => rfl
    have eT : ∀ (ρ : Slt) (V : Sto), fTup (fCons (fC (.d (.int 1))) (fCons (fC (.d (.int 1))) fNil)) ρ V = .ok (.d (.tuple [.int 1, .int 1])) V := fun ρ V => rfl
    simp only [outF, last_app]
    unfold whD
    rw [e1]
    simp only [fl_ok, if_true]
    have ep := pos_rest k
    by_cases hk : k * k < 1
    · have hk1 : k * k ≠ 1 := by grind
      rw [decide_eq_true hk] at ep
      obtain ⟨m2, q1, q2⟩ := stepl_head (m := m') hk1
      have hs2 := hs.next hk1
      rw [q1] at hs2
      obtain ⟨V3, h3, s3, e3, l3, r3, f3, g3⟩ := lrN_ok hR2 (hs.here ⟨_, rfl⟩) hsk hk1 (by simp; omega) (a0 := a0) (a2 := some (.o f)) (a3 := j3) (j6 := j6) (j7 := j7) (j8 := j8)
      rw [q1] at r3
      simp only [List.length_set] at l3 g3 f3
      have eb : lrB [a0, some (.o h), some (.o f), j3, j4, j5, j6, j7, j8] V1 = .nx [a0, some (.o h3), some (.o f), j3, some (.d (fr k)), some (.d (fr (1 - k * k))), some (.o s3), j7, j8] V3 := by
        unfold lrB
        simp only [st_seq, st_set, List.set_cons_succ, List.set_cons_zero] at e3
        simp only [startR, List.map_cons, List.map_nil, List.length_cons, List.length_nil, Nat.zero_add, Nat.reduceAdd, Nat.reduceSub, List.replicate, List.cons_append, List.nil_append, st_seq, st_set, st_ret, st_if, st_exp, st_par, st_skip, ev_call, ev_cons, ev_nil, ev_var, ev_c, ev_op2, ev_tru, ev_or, ev_and, ev_not, List.getElem?_cons_zero, List.getElem?_cons_succ, bind_ok, ofO_some, if_true, ofD_nil, List.append_nil, fl_ok, List.set_cons_zero, List.set_cons_succ, truth_b, Option.map_some, Bool.not_true, Bool.not_false, Bool.false_eq_true, if_false, ev_neg1, e2, ev_mt, eH, Option.isSome_some, eA, eT, t1, t2, x2, gt_int', ep, e3]
      rw [if_pos hk, q1]
      obtain ⟨V', ρ', d1, d0, d2, d3, d4⟩ := lrw_loop n m2 (by omega) (by omega) hs2 V3 h3 f (acc ++ [k]) a0 j3 (some (.d (fr k))) (some (.d (fr (1 - k * k)))) (some (.o s3)) j7 j8 r3 (by rw [f3 f (by omega) (Ne.symm hne)]; exact hF2) (by omega) (by simp; omega) (fun k' hk' => by rw [List.getLast?_concat] at hk'; cases hk'; exact hk)
      refine ⟨V', ρ', ?_, d0, by rw [d2]; simp, by omega, fun i i1 i2 i3 => ?_⟩
      · simp only [eb]
        exact d1
      · rw [d4 i (by omega) (by omega) i3, f3 i (by omega) i2, List.getElem?_set_ne (Ne.symm i3), f1 i i1]
    · rw [if_neg hk]
      rw [decide_eq_false hk] at ep
      have eb : lrB [a0, some (.o h), some (.o f), j3, j4, j5, j6, j7, j8] V1 = .nx [a0, some (.o h), some (.o f), j3, some (.d (fr k)), some (.d (fr (1 - k * k))), j6, j7, j8] (V1.set f (.lst ((plD acc ++ [fr k]).map W.d))) := by
        unfold lrB
        simp only [startR, List.map_cons, List.map_nil, List.length_cons, List.length_nil, Nat.zero_add, Nat.reduceAdd, Nat.reduceSub, List.replicate, List.cons_append, List.nil_append, st_seq, st_set, st_ret, st_if, st_exp, st_par, st_skip, ev_call, ev_cons, ev_nil, ev_var, ev_c, ev_op2, ev_tru, ev_or, ev_and, ev_not, List.getElem?_cons_zero, List.getElem?_cons_succ, bind_ok, ofO_some, if_true, ofD_nil, List.append_nil, fl_ok, List.set_cons_zero, List.set_cons_succ, truth_b, Option.map_some, Bool.not_true, Bool.not_false, Bool.false_eq_true, if_false, ev_neg1, e2, ev_mt, eH, Option.isSome_some, eA, eT, t1, t2, x2, gt_int', ep]
      obtain ⟨b2, e4, hb2⟩ := lrC_ok hR2 (by simp) hF2 (a0 := a0) (j3 := j3) (j4 := some (.d (fr k))) (j5 := some (.d (fr (1 - k * k)))) (j6 := j6) (j7 := j7) (j8 := j8)
      have hb3 : b2 = false := by
        cases b2 with
        | false => rfl
        | true => exact absurd (hb2.mp rfl k (List.getLast?_concat ..)) hk
      rw [hb3] at e4
      refine ⟨V1.set f (.lst ((plD acc ++ [fr k]).map W.d)) ++ [Cell.lst []], [a0, some (.o h), some (.o f), j3, some (.d (fr k)), some (.d (fr (1 - k * k))), j6, j7, j8], ?_, rfl, ?_, by simp; omega, fun i i1 _ i3 => ?_⟩
      · simp only [eb]
        unfold whD
        rw [e4]
        rfl
      · rw [List.getElem?_append_left (by simp; omega)]
        exact hF2
      · rw [List.getElem?_append_left (by simp; omega), List.getElem?_set_ne (Ne.symm i3), f1 i i1]
theorem r_law_row {m : List Rat} {c : Rat} (hc : c ≠ 0) (hm : m.length ≤ 8) (hs : HS (1 :: m)) (hsc : ∀ a ∈ (1 :: m).map fun a => c * a, Sm 700 a) (S : Sto) :
    ∃ V' f, R__law_row [.d (.tuple (plD ((1 :: m).map fun a => c * a)))] S = .ok (.o f) V' ∧ S.length ≤ f ∧ V'[f]? = some (.lst ((plD (outF m.length (1 :: m))).map W.d)) ∧ Fr S.length S V' := by
  have c1 : c * 1 = c := by grind
  have hsc1 : Sm 700 c := by have := hsc (c * 1) (by simp); rwa [c1] at this
  generalize hW : ((1 :: m).map fun a => c * a) = w at *
  have w0 : w = c :: m.map fun a => c * a := by rw [← hW, List.map_cons, c1]
  have x0 : ∀ V, gIx (.d (.tuple (plD w))) (.d (.int 0)) V = some (.d (fr c), V) := fun V => by rw [w0]; exact ix_t0 _ _ V
  obtain ⟨T, e2⟩ := fLc_ok (f := fIt (fVar 0)) (g := gNm 3) (e := fCall 2 [] R__law_over (fCons (fVar 3) (fCons (fOp2 gIx (fVar 0) (fC (.d (.int 0)))) fNil))) (vs := [3]) (ρ := [some (.d (.tuple (plD w))), none, none, none, none, none, none, none, none]) (S := S) (T0 := []) (ds := w) (mk := fr)
    (fun a => .d (fr (a / c))) (by simp [plD]) (by rw [w0]; simp; omega) (fun a ha => ⟨_, fun V => rfl, fun V => by
      refine Pu.of ?_
      have t1 := r__law_over (hsc a ha) hsc1 hc V
      simp only [gNm, wipeR, List.set_cons_zero, List.set_cons_succ, startR, List.map_cons, List.map_nil, List.length_cons, List.length_nil, Nat.zero_add, Nat.reduceAdd, Nat.reduceSub, List.replicate, List.cons_append, List.nil_append, st_seq, st_set, st_ret, st_if, st_exp, st_par, st_skip, ev_call, ev_cons, ev_nil, ev_var, ev_c, ev_op2, ev_tru, ev_or, ev_and, ev_not, List.getElem?_cons_zero, List.getElem?_cons_succ, bind_ok, ofO_some, if_true, ofD_nil, List.append_nil, fl_ok, List.set_cons_zero, List.set_cons_succ, truth_b, Option.map_some, Bool.not_true, Bool.not_false, Bool.false_eq_true, if_false, x0, t1]⟩)
  rw [List.append_nil] at e2
  have eL : w.map (fun a => W.d (fr (a / c))) = (plD (1 :: m)).map W.d := by
    rw [← over_map hc (1 :: m), hW]
    simp [plD, List.map_map]
  rw [eL] at e2
  generalize hV0 : S ++ .lst ((plD (1 :: m)).map W.d) :: T = V0 at e2
  have g0 : V0[S.length]? = some (.lst ((plD (1 :: m)).map W.d)) := by rw [← hV0, get_len_app]
  have l0 : S.length < V0.length := by rw [← hV0]; simp
  have f0 : Fr S.length S V0 := by rw [← hV0]; exact (Fr.refl _ _).app (Nat.le_refl _) _
  have eN : ∀ ρ : Slt, fLst fNil ρ V0 = .ok (.o V0.length) (V0 ++ [.lst []]) := fun ρ => rfl
  obtain ⟨V', ρ', d1, d5, d2, d3, d4⟩ := lrw_loop m.length m rfl hm hs (V0 ++ [.lst []]) S.length V0.length [] (some (.d (.tuple (plD w)))) none none none none none none (.inl (by rw [List.getElem?_append_left l0]; exact g0)) (by rw [get_len_app]; rfl) (by omega) (by simp) (fun k hk => by simp at hk)
  rw [List.nil_append] at d2
  have fr' : Fr S.length S V' := by
    refine ⟨by simp at d3; omega, fun i hi => ?_⟩
    rw [d4 i (by simp; omega) (by omega) (by omega), List.getElem?_append_left (by omega), f0.at_ i hi]
  refine ⟨V', V0.length, ?_, by omega, d2, fr'⟩
  have d6 := fWh_eq (c := lrC) (b := lrB) (n := m.length + 2) (ρ := [some (.d (.tuple (plD w))), some (.o S.length), some (.o V0.length), none, none, none, none, none, none]) (S := V0 ++ [.lst []]) (by rw [d1]; intro z; cases z)
  rw [d1] at d6
  unfold lrC lrB lrL lrM at d6
  unfold R__law_row runB B__law_row
  simp only [startR, List.map_cons, List.map_nil, List.length_cons, List.length_nil, Nat.zero_add, Nat.reduceAdd, Nat.reduceSub, List.replicate, List.cons_append, List.nil_append, st_seq, st_set, st_ret, st_if, st_exp, st_par, st_skip, ev_call, ev_cons, ev_nil, ev_var, ev_c, ev_op2, ev_tru, ev_or, ev_and, ev_not, List.getElem?_cons_zero, List.getElem?_cons_succ, bind_ok, ofO_some, if_true, ofD_nil, List.append_nil, fl_ok, List.set_cons_zero, List.set_cons_succ, truth_b, Option.map_some, Bool.not_true, Bool.not_false, Bool.false_eq_true, if_false, e2, eN, d6, d5]
end G
set_option Elab.async false
set_option linter.all false
set_option maxRecDepth 100000
set_option maxHeartbeats 4000000
/-! S15: small fractions, what is cut, parts -/
namespace G
open PySem PySem.Spec L2 PyProof.Rows
set_option autoImplicit false
theorem andE_b {f g : Fe W} {ρ : Slt} {S S1 : Sto} {b : Bool} (h : f ρ S = .ok (.d (.bool b)) S1) : fAndE f g ρ S = if b = true then g ρ S1 else .ok (.d (.bool false)) S1 := by
  unfold fAndE
  rw [h]
  cases b <;> rfl
theorem orE_b {f g : Fe W} {ρ : Slt} {S S1 : Sto} {b : Bool} (h : f ρ S = .ok (.d (.bool b)) S1) : fOrE f g ρ S = if b = true then .ok (.d (.bool true)) S1 else g ρ S1 := by
  unfold fOrE
  rw [h]
  cases b <;> rfl
theorem divInt_mul (t : Int) {b : Nat} (hb : 0 < b) : Rat.divInt t (b : Int) * (b : Rat) = (t : Rat) := by
  have h1 : ((b : Int) : Rat) ≠ 0 := by
    intro h
    have : (b : Int) = 0 := by exact_mod_cast h
    omega
  rw [Rat.divInt_eq_div]
  exact Rat.div_mul_cancel h1
theorem r_small {n b : Nat} {S : Sto} (h : StA n b S) (hb : b + 12 ≤ 2 ^ 40) : ∃ (q : Rat) (S' : Sto), R__law_small [.o n, .d (.int 9)] S = .ok (.d (fr q)) S' ∧ Sml q ∧ StA n (b + 12) S' ∧ Kp n S S' := by
  obtain ⟨v1, S1, e1, p1, p2, s1, k1⟩ := r_digit h (by omega) (z := 9) (by decide) (by decide)
  obtain ⟨v2, S2, e2, p3, p4, s2, k2⟩ := r_digit s1 (by omega) (z := 6) (by decide) (by decide)
  generalize hI : (if decide (v2 = 0) = true then (1 : Int) else 0) = i2
  have hi : i2 = 0 ∨ i2 = 1 := by rw [← hI]; split <;> simp
  obtain ⟨v3, S3, e3, p5, p6, s3, k3⟩ := r_digit s2 (by omega) (z := 2 * (1 + v1) + 1 + 2 * i2) (by omega) (by omega)
  obtain ⟨bb, hbb⟩ : ∃ bb : Nat, 1 + v1 = (bb : Int) := ⟨(1 + v1).toNat, by omega⟩
  have eI : ∀ V, gInt1 [.d (.bool (decide (v2 = 0)))] V = some (.d (.int i2), V) := fun V => by rw [← hI]; rfl
  have t1 : mulOk 2 (1 + v1) = true := tiny_l (by decide)
  have t2 : mulOk 2 i2 = true := tiny_l (by decide)
  have key := r__law_lowest (t := v3 - (1 + v1)) (b := 1 + v1) (by omega) (Nat.lt_of_lt_of_le (show (1 + v1).natAbs < 2 ^ 4 by omega) (Nat.pow_le_pow_right (by decide) (by decide))) S3
  refine ⟨Rat.divInt (v3 - (1 + v1)) (1 + v1), S3, ?_, ⟨v3 - (1 + v1), bb, by omega, by omega, by omega, ?_⟩, s3, (k1.trans k2).trans k3⟩
  · unfold R__law_small runB B__law_small
    simp only [startR, List.map_cons, List.map_nil, List.length_cons, List.length_nil, Nat.zero_add, Nat.reduceAdd, Nat.reduceSub, List.replicate, List.cons_append, List.nil_append, st_seq, st_set, st_ret, st_if, st_exp, st_par, st_skip, ev_call, ev_cons, ev_nil, ev_var, ev_c, ev_op2, ev_tru, ev_or, ev_and, ev_not, List.getElem?_cons_zero, List.getElem?_cons_succ, bind_ok, ofO_some, if_true, ofD_nil, List.append_nil, fl_ok, List.set_cons_zero, List.set_cons_succ, truth_b, Option.map_some, Bool.not_true, Bool.not_false, Bool.false_eq_true, if_false, e1, add_int, mul_int t1, ev_int, e2, eq_int, eI, mul_int t2, e3, sub_int, key]
  · rw [hbb]
    exact divInt_mul _ (by omega)
/-! cut -/
noncomputable def cuC : Fe Bool := (fAnd (fTru (fOp2 (dEq true) (fVar 1) (fLst fNil))) (fTru (fOp2 (dEq false) (fOp2 gIx (fOp2 gIx (fVar 1) (fNeg (fC (.d (.int 1))))) (fC (.d (.int 0)))) (fC (.d (.int 0))))))
noncomputable def cuB : Fs := (fExp (fPop0 (fVar 1)))
theorem cuC_ok {V : Sto} {q : Nat} {l : List Rat} {x : Rat} {a0 : Option W} (hF : V[q]? = some (.lst ((plD (l ++ [x])).map W.d))) : cuC [a0, some (.o q)] V = .ok (decide (x = 0)) (V ++ [Cell.lst []]) := by
  have hfl := (List.getElem?_eq_some_iff.mp hF).1
  have hF2 : (V ++ [Cell.lst []])[q]? = some (Cell.lst ((plD (l ++ [x])).map W.d)) := by rw [List.getElem?_append_left hfl]; exact hF
  have eN : ∀ ρ : Slt, fLst fNil ρ V = .ok (.o V.length) (V ++ [Cell.lst []]) := fun ρ => rfl
  have v1 := Rd.view (.inl hF2 : Rd (V ++ [Cell.lst []]) q (plD (l ++ [x])))
  have v2 : view (.o V.length) (V ++ [Cell.lst []]) = some (.list []) := Rd.view (.inl (by rw [get_len_app]; rfl) : Rd (V ++ [Cell.lst []]) V.length [])
  have e2 : PyData.eqv (.list (plD (l ++ [x]))) (.list []) = false := by
    cases l <;> simp [plD, PyData.eqv, PyData.eqvAll]
  have e1 : dEq true (.o q) (.o V.length) (V ++ [Cell.lst []]) = some (.d (.bool true), V ++ [Cell.lst []]) := by
    unfold dEq
    rw [v1, v2]
    simp only []
    rw [if_pos (by rw [(pl_lst (pl_pl (l ++ [x]))).shp (by decide)]; rfl), e2]
    rfl
  have e4 : gIx (.o q) (.d (.int (-1))) (V ++ [Cell.lst []]) = some (.d (fr x), V ++ [Cell.lst []]) := Rd.last (ds := plD l) (.inl (by simpa [plD] using hF2))
  have x0 : ∀ V, gIx (.d (fr x)) (.d (.int 0)) V = some (.d (.int x.num), V) := fun V => rfl
  have ed : decide (x.num = 0) = decide (x = 0) := by simp [Rat.num_eq_zero]
  unfold cuC
  simp only [startR, List.map_cons, List.map_nil, List.length_cons, List.length_nil, Nat.zero_add, Nat.reduceAdd, Nat.reduceSub, List.replicate, List.cons_append, List.nil_append, st_seq, st_set, st_ret, st_if, st_exp, st_par, st_skip, ev_call, ev_cons, ev_nil, ev_var, ev_c, ev_op2, ev_tru, ev_or, ev_and, ev_not, List.getElem?_cons_zero, List.getElem?_cons_succ, bind_ok, ofO_some, if_true, ofD_nil, List.append_nil, fl_ok, List.set_cons_zero, List.set_cons_succ, truth_b, Option.map_some, Bool.not_true, Bool.not_false, Bool.false_eq_true, if_false, eN, e1, ev_neg1, e4, x0, eq_int, ed]
theorem cu_loop {p : List Rat} {x : Rat} (hx : x ≠ 0) {q : Nat} {a0 : Option W} : ∀ (z : Nat) (V : Sto), V[q]? = some (.lst ((plD (p ++ [x] ++ List.replicate z 0)).map W.d)) →
    ∃ V', whD cuC cuB (z + 1) [a0, some (.o q)] V = .nx [a0, some (.o q)] V' ∧ V'[q]? = some (.lst ((plD (p ++ [x])).map W.d)) ∧ V.length ≤ V'.length ∧ ∀ i, i < V.length → i ≠ q → V'[i]? = V[i]?
  | 0, V, h => by
    simp only [List.replicate_zero, List.append_nil] at h
    have hfl := (List.getElem?_eq_some_iff.mp h).1
    refine ⟨V ++ [Cell.lst []], ?_, by rw [List.getElem?_append_left hfl]; exact h, by simp, fun i hi _ => List.getElem?_append_left hi⟩
    unfold whD
    rw [cuC_ok h, decide_eq_false hx]
    rfl
  | z + 1, V, h => by
    have hfl := (List.getElem?_eq_some_iff.mp h).1
    rw [List.replicate_succ', ← List.append_assoc] at h
    have e1 := cuC_ok h (a0 := a0)
    rw [decide_eq_true rfl] at e1
    have h1 : (V ++ [Cell.lst []])[q]? = some (Cell.lst ((plD (p ++ [x] ++ List.replicate z 0 ++ [0])).map W.d)) := by rw [List.getElem?_append_left hfl]; exact h
    have e2 : popW (.o q) (V ++ [Cell.lst []]) = some (.d (fr 0), (V ++ [Cell.lst []]).set q (.lst ((plD (p ++ [x] ++ List.replicate z 0)).map W.d))) := by
      have h2 := h1
      rw [show (plD (p ++ [x] ++ List.replicate z 0 ++ [0])).map W.d = (plD (p ++ [x] ++ List.replicate z 0)).map W.d ++ [W.d (fr 0)] from by simp [plD]] at h2
      have h3 : ∀ (A : List W) (w : W), (A ++ [w])[(A ++ [w]).length - 1]? = some w := fun A w => by simp
      unfold popW
      simp only [h2, h3, List.dropLast_concat]
    obtain ⟨V', d1, d2, d3, d4⟩ := cu_loop hx z ((V ++ [Cell.lst []]).set q (.lst ((plD (p ++ [x] ++ List.replicate z 0)).map W.d))) (by rw [List.getElem?_set_self (by simp; omega)])
    refine ⟨V', ?_, d2, by simp at d3; omega, fun i hi hne => ?_⟩
    · unfold whD
      rw [e1]
      have eb : cuB [a0, some (.o q)] (V ++ [Cell.lst []]) = .nx [a0, some (.o q)] ((V ++ [Cell.lst []]).set q (.lst ((plD (p ++ [x] ++ List.replicate z 0)).map W.d))) := by
        unfold cuB fPop0
        simp only [startR, List.map_cons, List.map_nil, List.length_cons, List.length_nil, Nat.zero_add, Nat.reduceAdd, Nat.reduceSub, List.replicate, List.cons_append, List.nil_append, st_seq, st_set, st_ret, st_if, st_exp, st_par, st_skip, ev_call, ev_cons, ev_nil, ev_var, ev_c, ev_op2, ev_tru, ev_or, ev_and, ev_not, List.getElem?_cons_zero, List.getElem?_cons_succ, bind_ok, ofO_some, if_true, ofD_nil, List.append_nil, fl_ok, List.set_cons_zero, List.set_cons_succ, truth_b, Option.map_some, Bool.not_true, Bool.not_false, Bool.false_eq_true, if_false, e2]
      simp only [fl_ok, if_true, eb]
      exact d1
    · rw [d4 i (by simp; omega) hne, List.getElem?_set_ne (Ne.symm hne), List.getElem?_append_left hi]
theorem r_cut {S : Sto} {a : Nat} {p : List Rat} {x : Rat} {z : Nat} (hx : x ≠ 0) (h : S[a]? = some (.lst ((plD (p ++ [x] ++ List.replicate z 0)).map W.d))) : ∃ V', R__law_cut [.o a] S = .ok (.d (.tuple (plD (p ++ [x])))) V' ∧ Fr S.length S V' := by
  have e1 : gList [.o a] S = some (.o S.length, S ++ [Cell.lst ((plD (p ++ [x] ++ List.replicate z 0)).map W.d)]) := by
    unfold gList
    simp only [Rd.seq (.inl h)]
  obtain ⟨V', d1, d2, d3, d4⟩ := cu_loop hx z (S ++ [Cell.lst ((plD (p ++ [x] ++ List.replicate z 0)).map W.d)]) (q := S.length) (a0 := some (.o a)) (get_len_app _ _ _)
  refine ⟨V', ?_, by simp at d3; omega, fun i hi => ?_⟩
  · have d6 := fWh_eq (c := cuC) (b := cuB) (n := z + 1) (ρ := [some (.o a), some (.o S.length)]) (S := S ++ [Cell.lst ((plD (p ++ [x] ++ List.replicate z 0)).map W.d)]) (by rw [d1]; intro z; cases z)
    rw [d1] at d6
    unfold cuC cuB at d6
    unfold R__law_cut runB B__law_cut
    simp only [startR, List.map_cons, List.map_nil, List.length_cons, List.length_nil, Nat.zero_add, Nat.reduceAdd, Nat.reduceSub, List.replicate, List.cons_append, List.nil_append, st_seq, st_set, st_ret, st_if, st_exp, st_par, st_skip, ev_call, ev_cons, ev_nil, ev_var, ev_c, ev_op2, ev_tru, ev_or, ev_and, ev_not, List.getElem?_cons_zero, List.getElem?_cons_succ, bind_ok, ofO_some, if_true, ofD_nil, List.append_nil, fl_ok, List.set_cons_zero, List.set_cons_succ, truth_b, Option.map_some, Bool.not_true, Bool.not_false, Bool.false_eq_true, if_false, ev_list, e1, d6, ev_cb, gTuple_o d2]
  · rw [d4 i (by simp; omega) (by omega), List.getElem?_append_left hi]
/-! parts -/
def partL (b c : Rat) : List Rat := if c ≠ 0 then [1, b, c] else if b ≠ 0 then [1, b] else [1]
theorem r_cut3 {S : Sto} {a : Nat} {b c : Rat} (h : S[a]? = some (.lst ((plD [1, b, c]).map W.d))) : ∃ V', R__law_cut [.o a] S = .ok (.d (.tuple (plD (partL b c)))) V' ∧ Fr S.length S V' := by
  unfold partL
  by_cases hc : c = 0
  · rw [if_neg (by simp [hc])]
    by_cases hb : b = 0
    · rw [if_neg (by simp [hb])]
      exact r_cut (p := []) (x := 1) (z := 2) (by decide) (by rw [h, hb, hc]; rfl)
    · rw [if_pos hb]
      exact r_cut (p := [1]) (x := b) (z := 1) hb (by rw [h, hc]; rfl)
  · rw [if_pos hc]
    exact r_cut (p := [1, b]) (x := c) (z := 0) hc h
theorem r_cut2 {S : Sto} {a : Nat} {b : Rat} (h : S[a]? = some (.lst ((plD [1, b]).map W.d))) : ∃ V', R__law_cut [.o a] S = .ok (.d (.tuple (plD (partL b 0)))) V' ∧ Fr S.length S V' := by
  unfold partL
  rw [if_neg (by simp)]
  by_cases hb : b = 0
  · rw [if_neg (by simp [hb])]
    exact r_cut (p := []) (x := 1) (z := 1) (by decide) (by rw [h, hb]; rfl)
  · rw [if_pos hb]
    exact r_cut (p := [1]) (x := b) (z := 0) hb h
theorem StA.fr' {n b : Nat} {S S' : Sto} (h : StA n b S) (f : Fr S.length S S') : StA n b S' := by
  obtain ⟨T, rfl⟩ := f.ext
  exact h.app T
theorem Kp.fr {n : Nat} {S S' : Sto} (f : Fr S.length S S') : Kp n S S' := by
  obtain ⟨T, rfl⟩ := f.ext
  exact Kp.app n S T
theorem sq_lt (k : Rat) : decide ((if k.num < 0 then -k.num else k.num) < ((k.den : Nat) : Int)) = decide (k * k < 1) := by
  have h1 := abs_lt k
  by_cases h : k * k < 1
  · rw [decide_eq_true h, decide_eq_true]
    exact Classical.byContradiction fun h2 => h1.mp (by omega) h
  · rw [decide_eq_false h, decide_eq_false]
    intro h2
    have := h1.mpr h
    omega
/-- how far from nought -/
def absR (q : Rat) : Rat := if q < 0 then -q else q
theorem fr_abs (q : Rat) : fr (absR q) = .tuple [.int (if q.num < 0 then -q.num else q.num), .int (q.den : Nat)] := by
  have h : q.num < 0 ↔ q < 0 := by
    have h1 : 0 ≤ q.num ↔ 0 ≤ q := Rat.num_nonneg
    constructor
    · intro h
      refine Classical.byContradiction fun h2 => ?_
      have := h1.mpr (by grind)
      omega
    · intro h
      refine Classical.byContradiction fun h2 => ?_
      have := h1.mp (by omega)
      grind
  unfold absR
  by_cases hq : q < 0
  · rw [if_pos hq, if_pos (h.mpr hq)]
    unfold fr
    rw [Rat.neg_num, Rat.neg_den]
  · rw [if_neg hq, if_neg (fun z => hq (h.mp z))]
    rfl
theorem Sml.sm {q : Rat} (h : Sml q) : Sm 4 q := by
  obtain ⟨t, b, h1, h2, h3, h4⟩ := h
  have := sm_of (a := q) (D := (b : Int)) (z := t) (by exact_mod_cast h4) (by omega)
  constructor
  · have := this.2; omega
  · have := this.1; omega
theorem absR_sm {n : Nat} {q : Rat} (h : Sm n q) : Sm n (absR q) := by
  unfold absR
  split
  · exact h.neg
  · exact h
theorem stb_lin (b : Rat) : Stb b 0 ↔ b * b < 1 := by
  unfold Stb
  constructor
  · rintro ⟨_, h2, h3⟩
    have := Rat.mul_pos (show 0 < 1 - b by grind) (show 0 < 1 + b by grind)
    grind
  · intro h
    refine ⟨by grind, ?_, ?_⟩
    · refine Classical.byContradiction fun h2 => ?_
      have := Rat.mul_nonneg (show 0 ≤ -b - 1 by grind) (show 0 ≤ -b + 1 by grind)
      grind
    · refine Classical.byContradiction fun h2 => ?_
      have := Rat.mul_nonneg (show 0 ≤ b - 1 by grind) (show 0 ≤ b + 1 by grind)
      grind
theorem num_pos' (q : Rat) : (0 : Int) < q.num ↔ 0 < q := by
  have h1 : 0 ≤ q.num ↔ 0 ≤ q := Rat.num_nonneg
  have h2 : q.num = 0 ↔ q = 0 := Rat.num_eq_zero
  constructor
  · intro h
    have h3 := h1.mp (by omega)
    have h4 : ¬ q = 0 := fun z => by have := h2.mpr z; omega
    grind
  · intro h
    have h3 := h1.mpr (by grind)
    have h4 : ¬ q.num = 0 := fun z => by have := h2.mp z; grind
    omega
theorem stb_quad (b c : Rat) : (decide (c * c < 1) && decide ((0 : Int) < (1 + c - absR b).num)) = true ↔ Stb b c := by
  rw [Bool.and_eq_true, decide_eq_true_eq, decide_eq_true_eq, num_pos']
  unfold Stb absR
  constructor
  · rintro ⟨h1, h2⟩
    refine ⟨h1, ?_, ?_⟩ <;> split at h2 <;> grind
  · rintro ⟨h1, h2, h3⟩
    refine ⟨h1, ?_⟩
    split <;> grind
theorem r_part {n b : Nat} {S : Sto} (h : StA n b S) (hb : b + 28 ≤ 2 ^ 40) : ∃ (x y : Rat) (o : Bool) (S' : Sto), R__law_part [.o n] S = .ok (.d (.tuple [.tuple (plD (partL x y)), .bool o])) S' ∧ Sml x ∧ Sml y ∧ (o = true ↔ Stb x y) ∧ StA n (b + 28) S' ∧ Kp n S S' := by
  obtain ⟨x, S1, e1, m1, s1, k1⟩ := r_small h (by omega)
  obtain ⟨y, S2, e2, m2, s2, k2⟩ := r_small s1 (by omega)
  obtain ⟨v, S3, e3, p1, p2, s3, k3⟩ := r_digit s2 (by omega) (z := 2) (by decide) (by decide)
  have s3' : StA n (b + 28) S3 := s3
  have x0 : ∀ (q : Rat) V, gIx (.d (fr q)) (.d (.int 0)) V = some (.d (.int q.num), V) := fun q V => rfl
  have x1 : ∀ (q : Rat) V, gIx (.d (fr q)) (.d (.int 1)) V = some (.d (.int (q.den : Nat)), V) := fun q V => rfl
  have eT : ∀ (ρ : Slt) (V : Sto), fTup (fCons (fC (.d (.int 1))) (fCons (fC (.d (.int 1))) fNil)) ρ V = .ok (.d (fr 1)) V := fun ρ V => rfl
  by_cases hv : v = 0
  · have eL : ∀ a0 j2 j3 j4, fLst (fCons (fTup (fCons (fC (.d (.int 1))) (fCons (fC (.d (.int 1))) fNil))) (fCons (fVar 1) fNil)) [a0, some (.d (fr x)), j2, j3, j4] S3 = .ok (.o S3.length) (S3 ++ [Cell.lst ((plD [1, x]).map W.d)]) := fun a0 j2 j3 j4 => rfl
    obtain ⟨V', c1, c2⟩ := r_cut2 (S := S3 ++ [Cell.lst ((plD [1, x]).map W.d)]) (a := S3.length) (b := x) (get_len_app _ _ _)
    have f3 : Fr S3.length S3 V' := ((Fr.refl S3.length S3).app (Nat.le_refl _) _).trans (c2.weak (by simp))
    refine ⟨x, 0, decide (x * x < 1), V', ?_, m1, ⟨0, 1, by decide, by decide, by decide, by rw [Rat.zero_mul]; rfl⟩, by rw [decide_eq_true_eq]; exact (stb_lin x).symm, s3'.fr' f3, ((k1.trans k2).trans k3).trans (Kp.fr f3)⟩
    unfold R__law_part runB B__law_part
    simp only [startR, List.map_cons, List.map_nil, List.length_cons, List.length_nil, Nat.zero_add, Nat.reduceAdd, Nat.reduceSub, List.replicate, List.cons_append, List.nil_append, st_seq, st_set, st_ret, st_if, st_exp, st_par, st_skip, ev_call, ev_cons, ev_nil, ev_var, ev_c, ev_op2, ev_tru, ev_or, ev_and, ev_not, List.getElem?_cons_zero, List.getElem?_cons_succ, bind_ok, ofO_some, if_true, ofD_nil, List.append_nil, fl_ok, List.set_cons_zero, List.set_cons_succ, truth_b, Option.map_some, Bool.not_true, Bool.not_false, Bool.false_eq_true, if_false, e1, e2, e3, hv, eq_int, decide_true, fTup_d2, eL, c1, x0, x1, ev_abs, abs_int, lt_int', sq_lt, fzT_d2]
  · have hsy := m2.sm
    have hsx := m1.sm
    have t1 := r__law_plus sm_one hsy S3
    rw [fr_one] at t1
    have hs1 : Sm 6 (1 + y) := by
      have := sm_one.sub hsy.neg
      rw [show (1 : Rat) - -y = 1 + y by grind] at this
      exact this
    have t2 := r__law_less hs1 (absR_sm hsx) S3
    rw [fr_abs] at t2
    have eT2 : ∀ a0 j2 j3 j4, fTup (fCons (fCB gAbs (fCons (fOp2 gIx (fVar 1) (fC (.d (.int 0)))) fNil)) (fCons (fOp2 gIx (fVar 1) (fC (.d (.int 1)))) fNil)) [a0, some (.d (fr x)), j2, j3, j4] S3 = .ok (.d (.tuple [.int (if x.num < 0 then -x.num else x.num), .int (x.den : Nat)])) S3 := fun a0 j2 j3 j4 => by
      simp only [startR, List.map_cons, List.map_nil, List.length_cons, List.length_nil, Nat.zero_add, Nat.reduceAdd, Nat.reduceSub, List.replicate, List.cons_append, List.nil_append, st_seq, st_set, st_ret, st_if, st_exp, st_par, st_skip, ev_call, ev_cons, ev_nil, ev_var, ev_c, ev_op2, ev_tru, ev_or, ev_and, ev_not, List.getElem?_cons_zero, List.getElem?_cons_succ, bind_ok, ofO_some, if_true, ofD_nil, List.append_nil, fl_ok, List.set_cons_zero, List.set_cons_succ, truth_b, Option.map_some, Bool.not_true, Bool.not_false, Bool.false_eq_true, if_false, fTup_d2, x0, x1, ev_abs, abs_int, fzT_d2]
    have eL : ∀ a0 j3 j4, fLst (fCons (fTup (fCons (fC (.d (.int 1))) (fCons (fC (.d (.int 1))) fNil))) (fCons (fVar 1) (fCons (fVar 2) fNil))) [a0, some (.d (fr x)), some (.d (fr y)), j3, j4] S3 = .ok (.o S3.length) (S3 ++ [Cell.lst ((plD [1, x, y]).map W.d)]) := fun a0 j3 j4 => rfl
    obtain ⟨V', c1, c2⟩ := r_cut3 (S := S3 ++ [Cell.lst ((plD [1, x, y]).map W.d)]) (a := S3.length) (b := x) (c := y) (get_len_app _ _ _)
    have f3 : Fr S3.length S3 V' := ((Fr.refl S3.length S3).app (Nat.le_refl _) _).trans (c2.weak (by simp))
    refine ⟨x, y, decide (y * y < 1) && decide ((0 : Int) < (1 + y - absR x).num), V', ?_, m1, m2, stb_quad x y, s3'.fr' f3, ((k1.trans k2).trans k3).trans (Kp.fr f3)⟩
    have eA : ∀ j4, fAndE (fOp2 cLt (fCB gAbs (fCons (fOp2 gIx (fVar 2) (fC (.d (.int 0)))) fNil)) (fOp2 gIx (fVar 2) (fC (.d (.int 1))))) (fOp2 cGt (fOp2 gIx (fCall 2 [] R__law_less (fCons (fVar 3) (fCons (fTup (fCons (fCB gAbs (fCons (fOp2 gIx (fVar 1) (fC (.d (.int 0)))) fNil)) (fCons (fOp2 gIx (fVar 1) (fC (.d (.int 1)))) fNil))) fNil))) (fC (.d (.int 0)))) (fC (.d (.int 0)))) [some (.o n), some (.d (fr x)), some (.d (fr y)), some (.d (fr (1 + y))), j4] S3
        = .ok (.d (.bool (decide (y * y < 1) && decide ((0 : Int) < (1 + y - absR x).num)))) S3 := fun j4 => by
      rw [andE_b (b := decide (y * y < 1)) (S1 := S3) (by simp only [startR, List.map_cons, List.map_nil, List.length_cons, List.length_nil, Nat.zero_add, Nat.reduceAdd, Nat.reduceSub, List.replicate, List.cons_append, List.nil_append, st_seq, st_set, st_ret, st_if, st_exp, st_par, st_skip, ev_call, ev_cons, ev_nil, ev_var, ev_c, ev_op2, ev_tru, ev_or, ev_and, ev_not, List.getElem?_cons_zero, List.getElem?_cons_succ, bind_ok, ofO_some, if_true, ofD_nil, List.append_nil, fl_ok, List.set_cons_zero, List.set_cons_succ, truth_b, Option.map_some, Bool.not_true, Bool.not_false, Bool.false_eq_true, if_false, x0, x1, ev_abs, abs_int, lt_int', sq_lt])]
      by_cases hy : y * y < 1
      · rw [decide_eq_true hy, if_pos rfl]
        simp only [startR, List.map_cons, List.map_nil, List.length_cons, List.length_nil, Nat.zero_add, Nat.reduceAdd, Nat.reduceSub, List.replicate, List.cons_append, List.nil_append, st_seq, st_set, st_ret, st_if, st_exp, st_par, st_skip, ev_call, ev_cons, ev_nil, ev_var, ev_c, ev_op2, ev_tru, ev_or, ev_and, ev_not, List.getElem?_cons_zero, List.getElem?_cons_succ, bind_ok, ofO_some, if_true, ofD_nil, List.append_nil, fl_ok, List.set_cons_zero, List.set_cons_succ, truth_b, Option.map_some, Bool.not_true, Bool.not_false, Bool.false_eq_true, if_false, eT2, t2, x0, gt_int', Bool.true_and]
      · rw [decide_eq_false hy, if_neg (by decide)]
        simp only [Bool.false_and]
    have eT3 : ∀ (ρ : Slt) (V : Sto), fTup (fCons (fC (.d (.int 1))) (fCons (fC (.d (.int 1))) fNil)) ρ V = .ok (.d (.tuple [.int 1, .int 1])) V := fun ρ V => rfl
    unfold R__law_part runB B__law_part
    simp only [startR, List.map_cons, List.map_nil, List.length_cons, List.length_nil, Nat.zero_add, Nat.reduceAdd, Nat.reduceSub, List.replicate, List.cons_append, List.nil_append, st_seq, st_set, st_ret, st_if, st_exp, st_par, st_skip, ev_call, ev_cons, ev_nil, ev_var, ev_c, ev_op2, ev_tru, ev_or, ev_and, ev_not, List.getElem?_cons_zero, List.getElem?_cons_succ, bind_ok, ofO_some, if_true, ofD_nil, List.append_nil, fl_ok, List.set_cons_zero, List.set_cons_succ, truth_b, Option.map_some, Bool.not_true, Bool.not_false, Bool.false_eq_true, if_false, e1, e2, e3, eq_int, decide_eq_false hv, eT3, t1, eA, fTup_d2 (fCall _ _ _ _), eL, c1, fzT_d2]
end G
set_option Elab.async false
set_option linter.all false
set_option maxRecDepth 100000
set_option maxHeartbeats 4000000
/-! S16: polynomials multiplied, as the law has it -/
namespace G
open PySem PySem.Spec L2 PyProof.Rows
set_option autoImplicit false
theorem Sm.add {n m : Nat} {p q : Rat} (hp : Sm n p) (hq : Sm m q) : Sm (n + m + 1) (p + q) := by
  have := hp.sub hq.neg
  rwa [show p - -q = p + q by grind] at this
def addR (x : Rat) : Nat → List Rat → (Nat → Rat) → Nat → Rat
  | _, [], f => f
  | i, y :: ys, f => addR x (i + 1) ys (fun k => if k = i then f k + x * y else f k)
theorem addR_at (x : Rat) : ∀ (ys : List Rat) (i : Nat) (f : Nat → Rat) (k : Nat), addR x i ys f k = f k + x * (if i ≤ k then ys.getD (k - i) 0 else 0)
  | [], i, f, k => by simp [addR]; grind
  | y :: ys, i, f, k => by
    simp only [addR]
    rw [addR_at x ys (i + 1)]
    by_cases h1 : k = i
    · subst h1
      simp
      grind
    · rw [if_neg h1]
      by_cases h2 : i + 1 ≤ k
      · rw [if_pos h2, if_pos (by omega), show k - i = (k - (i + 1)) + 1 by omega, List.getD_cons_succ]
      · rw [if_neg h2, if_neg (by omega)]
/-- a list of fractions by their places -/
def fnD (N : Nat) (f : Nat → Rat) : List W := (plD ((List.range N).map f)).map W.d
theorem fnD_at {N : Nat} {f : Nat → Rat} {k : Nat} (h : k < N) : (fnD N f)[k]? = some (.d (fr (f k))) := by
  unfold fnD plD
  simp [h]
theorem fnD_set {N : Nat} {f : Nat → Rat} {k : Nat} (h : k < N) (q : Rat) : (fnD N f).set k (.d (fr q)) = fnD N (fun j => if j = k then q else f j) := by
  apply List.ext_getElem?
  intro j
  by_cases hj : j < N
  · rw [fnD_at hj]
    by_cases e : j = k
    · subst e
      rw [List.getElem?_set_self (by simp [fnD, plD]; omega), if_pos rfl]
    · rw [List.getElem?_set_ne (Ne.symm e), fnD_at hj, if_neg e]
  · rw [List.getElem?_eq_none (by simp [fnD, plD]; omega), List.getElem?_eq_none (by simp [fnD, plD]; omega)]
noncomputable def inB : Fs := (fPutL (fVar 2) (fOp2 gAdd (fVar 3) (fVar 5)) (fCall 2 [] R__law_plus (fCons (fOp2 gIx (fVar 2) (fOp2 gAdd (fVar 3) (fVar 5))) (fCons (fCall 2 [] R__law_times (fCons (fVar 4) (fCons (fVar 6) fNil))) fNil))))
theorem in_loop {N n s1 s2 low F : Nat} {x : Rat} {a0 a1 : Option W} (hx : Sm s1 x) (hn : n ≤ 2000) (h12 : s1 + s2 ≤ 2000) (hN : N ≤ 100) : ∀ (ys : List Rat) (i : Nat) (f : Nat → Rat) (V : Sto) (j5 j6 : Option W), (∀ y ∈ ys, Sm s2 y) → low + i + ys.length ≤ N → (∀ k, low + i ≤ k → Sm n (f k)) → V[F]? = some (.lst (fnD N f)) →
    ∃ k5 k6, forD (gTp 2 (gsCons (gNm 5) (gsCons (gNm 6) gsNil))) inB ((ys.zipIdx i).map fun q => .tuple [.int (q.2 : Nat), fr q.1]) [a0, a1, some (.o F), some (.d (.int (low : Nat))), some (.d (fr x)), j5, j6] V = .nx [a0, a1, some (.o F), some (.d (.int (low : Nat))), some (.d (fr x)), k5, k6] (V.set F (.lst (fnD N (addR x (low + i) ys f))))
  | [], i, f, V, j5, j6, _, _, _, hF => by
    refine ⟨j5, j6, ?_⟩
    have : V.set F (.lst (fnD N (addR x (low + i) [] f))) = V := by
      apply List.ext_getElem?
      intro j
      by_cases e : F = j
      · subst e
        rw [List.getElem?_set_self (List.getElem?_eq_some_iff.mp hF).1, hF]
        rfl
      · rw [List.getElem?_set_ne e]
    rw [this]
    rfl
  | y :: ys, i, f, V, j5, j6, hy, hl, hf, hF => by
    have hFl := (List.getElem?_eq_some_iff.mp hF).1
    simp only [List.length_cons] at hl
    have hk : low + i < N := by omega
    have sy := hy y (by simp)
    have sf := hf (low + i) (Nat.le_refl _)
    have e1 : gIx (.o F) (.d (.int ((low : Int) + (i : Int)))) V = some (.d (fr (f (low + i))), V) := by
      have := Rd.ix (.inl hF : Rd V F (plD ((List.range N).map f))) (i := low + i) (d := fr (f (low + i))) (by simp [plD, hk])
      rw [← this]
      push_cast
      rfl
    have t1 := r__law_times hx sy V
    have t2 := r__law_plus sf (hx.mul sy) V
    have e2 : putL (.o F) (.d (.int ((low : Int) + (i : Int)))) (.d (fr (f (low + i) + x * y))) V = some (V.set F (.lst (fnD N (fun k => if k = low + i then f k + x * y else f k)))) := by
      unfold putL
      simp only [hF]
      have e3 : ixN (fnD N f).length ((low : Int) + (i : Int)) = some (low + i) := by
        have hlen : (fnD N f).length = N := by simp [fnD, plD]
        rw [hlen]
        unfold L2.ixN
        rw [if_pos (by omega), if_pos (by omega)]
        congr 1
      rw [e3]
      simp only [Option.map_some]
      rw [fnD_set hk]
      congr 4
      funext k
      by_cases e : k = low + i
      · subst e; rfl
      · rw [if_neg e, if_neg e]
    have eb : inB [a0, a1, some (.o F), some (.d (.int (low : Nat))), some (.d (fr x)), some (.d (.int (i : Nat))), some (.d (fr y))] V = .nx [a0, a1, some (.o F), some (.d (.int (low : Nat))), some (.d (fr x)), some (.d (.int (i : Nat))), some (.d (fr y))] (V.set F (.lst (fnD N (fun k => if k = low + i then f k + x * y else f k)))) := by
      unfold inB fPutL
      simp only [startR, List.map_cons, List.map_nil, List.length_cons, List.length_nil, Nat.zero_add, Nat.reduceAdd, Nat.reduceSub, List.replicate, List.cons_append, List.nil_append, st_seq, st_set, st_ret, st_if, st_exp, st_par, st_skip, ev_call, ev_cons, ev_nil, ev_var, ev_c, ev_op2, ev_tru, ev_or, ev_and, ev_not, List.getElem?_cons_zero, List.getElem?_cons_succ, bind_ok, ofO_some, if_true, ofD_nil, List.append_nil, fl_ok, List.set_cons_zero, List.set_cons_succ, truth_b, Option.map_some, Bool.not_true, Bool.not_false, Bool.false_eq_true, if_false, add_int, e1, t1, t2, e2]
    obtain ⟨k5, k6, e4⟩ := in_loop (low := low) hx hn h12 hN ys (i + 1) (fun k => if k = low + i then f k + x * y else f k) (V.set F (.lst (fnD N (fun k => if k = low + i then f k + x * y else f k)))) (some (.d (.int (i : Nat)))) (some (.d (fr y))) (fun y hy' => hy y (by simp [hy'])) (by omega) (fun k hk => by rw [if_neg (by omega)]; exact hf k (by omega)) (List.getElem?_set_self hFl)
    refine ⟨k5, k6, ?_⟩
    rw [List.zipIdx_cons, List.map_cons, forD_cons]
    simp only [gt_tp2, gt_nm, List.set_cons_zero, List.set_cons_succ, eb, addR]
    rw [List.set_set, show low + (i + 1) = low + i + 1 by omega] at e4
    exact e4
noncomputable def outB : Fs := (fFor (fEn (fCons (fVar 1) fNil)) (gTp 2 (gsCons (gNm 5) (gsCons (gNm 6) gsNil))) inB)
theorem ap_row (w : List Rat) (x : Rat) (a : List Rat) (k : Nat) : ap (w ++ [x]) (fun t => a.getD t 0) k = addR x w.length a (ap w fun t => a.getD t 0) k := by
  rw [ap_app, addR_at, dln_at]
theorem out_loop {N s1 s2 F : Nat} {a : List Rat} {a0 : Option W} (ha : ∀ y ∈ a, Sm s2 y) (h12 : s1 + s2 ≤ 100) (hN : N ≤ 20) : ∀ (ws pre : List Rat) (V : Sto) (j3 j4 j5 j6 : Option W), (∀ x ∈ ws, Sm s1 x) → pre.length + ws.length + a.length ≤ N → (∀ k, Sm (1 + pre.length * (s1 + s2 + 1)) (ap pre (fun t => a.getD t 0) k)) → V[F]? = some (.lst (fnD N (ap pre fun t => a.getD t 0))) →
    ∃ k3 k4 k5 k6, forD (gTp 2 (gsCons (gNm 3) (gsCons (gNm 4) gsNil))) outB ((ws.zipIdx pre.length).map fun q => .tuple [.int (q.2 : Nat), fr q.1]) [a0, some (.d (.tuple (plD a))), some (.o F), j3, j4, j5, j6] V = .nx [a0, some (.d (.tuple (plD a))), some (.o F), k3, k4, k5, k6] (V.set F (.lst (fnD N (ap (pre ++ ws) fun t => a.getD t 0))))
  | [], pre, V, j3, j4, j5, j6, _, _, _, hF => by
    refine ⟨j3, j4, j5, j6, ?_⟩
    have : V.set F (.lst (fnD N (ap (pre ++ []) fun t => a.getD t 0))) = V := by
      rw [List.append_nil]
      apply List.ext_getElem?
      intro j
      by_cases e : F = j
      · subst e
        rw [List.getElem?_set_self (List.getElem?_eq_some_iff.mp hF).1, hF]
      · rw [List.getElem?_set_ne e]
    rw [this]
    rfl
  | x :: ws, pre, V, j3, j4, j5, j6, hw, hl, hf, hF => by
    have hFl := (List.getElem?_eq_some_iff.mp hF).1
    simp only [List.length_cons] at hl
    have hx := hw x (by simp)
    have hb : pre.length * (s1 + s2 + 1) ≤ 20 * 101 := Nat.mul_le_mul (by omega) (by omega)
    have hb2 : pre.length * (s1 + s2 + 1) ≤ 1919 := by
      have : pre.length ≤ 19 := by omega
      have := Nat.mul_le_mul this (show s1 + s2 + 1 ≤ 101 by omega)
      omega
    obtain ⟨k5, k6, e1⟩ := in_loop (N := N) (n := 1 + pre.length * (s1 + s2 + 1)) (low := pre.length) (F := F) (a0 := a0) (a1 := some (.d (.tuple (plD a)))) hx (by omega) (by omega) (by omega) a 0 (ap pre fun t => a.getD t 0) V j5 j6 ha (by omega) (fun k _ => hf k) hF
    rw [Nat.add_zero] at e1
    have e2 : (fun k => addR x pre.length a (ap pre fun t => a.getD t 0) k) = ap (pre ++ [x]) fun t => a.getD t 0 := by funext k; rw [ap_row]
    have e2' : addR x pre.length a (ap pre fun t => a.getD t 0) = ap (pre ++ [x]) fun t => a.getD t 0 := e2
    rw [e2'] at e1
    have eE : ∀ (j5 j6 : Option W), fEn (fCons (fVar 1) fNil) [a0, some (.d (.tuple (plD a))), some (.o F), some (.d (.int (pre.length : Nat))), some (.d (fr x)), j5, j6] V = .ok ((a.zipIdx 0).map fun q => .tuple [.int (q.2 : Nat), fr q.1]) V := fun j5 j6 => by
      rw [en_ev]
      simp only [ev_var, List.getElem?_cons_zero, List.getElem?_cons_succ, bind_ok, items_t, ofO_some]
      unfold enumD
      rw [enum_pl]
    have eb : outB [a0, some (.d (.tuple (plD a))), some (.o F), some (.d (.int (pre.length : Nat))), some (.d (fr x)), j5, j6] V = .nx [a0, some (.d (.tuple (plD a))), some (.o F), some (.d (.int (pre.length : Nat))), some (.d (fr x)), k5, k6] (V.set F (.lst (fnD N (ap (pre ++ [x]) fun t => a.getD t 0)))) := by
      unfold outB
      rw [st_for, eE, fl_ok, e1]
    obtain ⟨k3, k4, k5', k6', e3⟩ := out_loop ha h12 hN ws (pre ++ [x]) (V.set F (.lst (fnD N (ap (pre ++ [x]) fun t => a.getD t 0)))) (some (.d (.int (pre.length : Nat)))) (some (.d (fr x))) k5 k6 (fun x hx => hw x (by simp [hx])) (by simp; omega) (fun k => by
      rw [ap_row, addR_at]
      have hy : Sm s2 (if pre.length ≤ k then a.getD (k - pre.length) 0 else 0) ∨ (if pre.length ≤ k then a.getD (k - pre.length) 0 else 0) = 0 := by
        split
        · by_cases hk : k - pre.length < a.length
          · left
            have : a.getD (k - pre.length) 0 = a[k - pre.length] := by simp [List.getD, hk]
            rw [this]
            exact ha _ (List.getElem_mem _)
          · right
            rw [List.getD, List.getElem?_eq_none (by omega)]; rfl
        · exact .inr rfl
      have e : 1 + (pre ++ [x]).length * (s1 + s2 + 1) = (1 + pre.length * (s1 + s2 + 1)) + (s1 + s2) + 1 := by simp [Nat.succ_mul]; omega
      rcases hy with hy | hy
      · rw [e]; exact (hf k).add (hx.mul hy)
      · rw [hy, e, Rat.mul_zero, Rat.add_zero]
        exact (hf k).mono (by omega)) (List.getElem?_set_self hFl)
    refine ⟨k3, k4, k5', k6', ?_⟩
    rw [List.zipIdx_cons, List.map_cons, forD_cons]
    rw [List.length_append, List.length_singleton] at e3
    simp only [gt_tp2, gt_nm, List.set_cons_zero, List.set_cons_succ, eb]
    rw [List.set_set, List.append_assoc, List.singleton_append] at e3
    exact e3
theorem ap_partL (b c : Rat) (x : Sq) : ap (partL b c) x = ap [1, b, c] x := by
  unfold partL
  funext t
  by_cases hc : c = 0
  · rw [if_neg (by simp [hc])]
    by_cases hb : b = 0
    · rw [if_neg (by simp [hb]), ap_one, ap3, hb, hc]; grind
    · rw [if_pos hb, ap2, ap3, hc]; grind
  · rw [if_pos hc]
theorem partL_len (b c : Rat) (p : List Rat) : (mulP b c p).length + 1 = p.length + (partL b c).length ∧ (partL b c).length ≤ 3 := by
  unfold mulP partL
  by_cases hc : c = 0
  · by_cases hb : b = 0
    · simp [hc, hb]
    · simp [hc, hb, linL_len]
  · simp [hc, quadL_len]
theorem ap_scale (c : Rat) (x : Sq) : ∀ (p : List Rat) (t : Nat), ap (p.map fun a => c * a) x t = c * ap p x t
  | [], t => by simp only [List.map_nil, ap_nil]; grind
  | a :: p, 0 => by simp only [List.map_cons, ap_cons, dl_z]; grind
  | a :: p, t + 1 => by simp only [List.map_cons, ap_cons, dl_s, ap_scale c x p t]; grind
theorem mul_list (b c c0 : Rat) (p : List Rat) : (List.range (p.length + (partL b c).length)).map (ap (p.map fun a => c0 * a) fun t => (partL b c).getD t 0) = ((mulP b c p).map fun a => c0 * a) ++ [0] := by
  have e1 : (fun t => (partL b c).getD t 0) = ap (partL b c) dta := by funext t; rw [ap_dta]
  have e2 : ∀ k, ap (p.map fun a => c0 * a) (ap (partL b c) dta) k = c0 * (mulP b c p).getD k 0 := fun k => by
    rw [ap_scale, ap_comm, ap_partL, ap_comm, ← ap_dta, ap_mulP, ap_comm]
  have hl := (partL_len b c p).1
  rw [e1]
  apply List.ext_getElem?
  intro k
  by_cases hk : k < p.length + (partL b c).length
  · rw [List.getElem?_map, List.getElem?_range hk, Option.map_some, e2]
    by_cases hk2 : k < (mulP b c p).length
    · rw [List.getElem?_append_left (by simpa using hk2), List.getElem?_map]
      simp [List.getD, hk2]
    · rw [List.getElem?_append_right (by simp; omega), List.length_map]
      rw [List.getD, List.getElem?_eq_none (by omega), show k - (mulP b c p).length = 0 by omega]
      simp
  · rw [List.getElem?_eq_none (by simp; omega), List.getElem?_eq_none (by simp; omega)]
theorem mulT_o {S : Sto} {a : Nat} {N : Nat} (h : S[a]? = some (.lst [.d (fr 0)])) (hN : N ≤ 100) : gMulT (.o a) (.d (.int (N : Nat))) S = some (.o S.length, S ++ [Cell.lst (fnD N fun _ => 0)]) := by
  show gMul (.o a) (.d (.int (N : Nat))) S = _
  have e : hpl (.o a) S = some [.d (fr 0)] := hpl_at h
  show (match hpl (.o a) S with | some ws => if -1000000 ≤ ((N : Nat) : Int) ∧ ((N : Nat) : Int) ≤ 1000000 ∧ szOk (ws.length * ((N : Nat) : Int).toNat) = true then some (W.o S.length, S ++ [Cell.lst (List.replicate ((N : Nat) : Int).toNat ws).flatten]) else none | none => none) = _
  rw [e]
  simp only []
  rw [if_pos ⟨by omega, by omega, by unfold szOk; simp; omega⟩]
  congr 4
  rw [Int.toNat_natCast]
  apply congrArg Cell.lst
  apply List.ext_getElem?
  intro j
  have e2 : (List.replicate N [W.d (fr 0)]).flatten = List.replicate N (W.d (fr 0)) := by simp
  rw [e2]
  by_cases hj : j < N
  · rw [fnD_at hj]; simp [hj]
  · rw [List.getElem?_eq_none (by simp; omega), List.getElem?_eq_none (by simp [fnD, plD]; omega)]
theorem r_multiplied {b c c0 : Rat} {p : List Rat} (hp : ∀ x ∈ p.map fun a => c0 * a, Sm 50 x) (ha : ∀ y ∈ partL b c, Sm 4 y) (h0 : c0 ≠ 0) (hl : p.length ≤ 9) (hP : (mulP b c p).getLastD 0 ≠ 0) (S : Sto) :
    ∃ V', R__law_multiplied [.d (.tuple (plD (p.map fun a => c0 * a))), .d (.tuple (plD (partL b c)))] S = .ok (.d (.tuple (plD ((mulP b c p).map fun a => c0 * a)))) V' ∧ Fr S.length S V' := by
  have hl3 := (partL_len b c p).2
  have eLs : ∀ ρ : Slt, fLst (fCons (fTup (fCons (fC (.d (.int 0))) (fCons (fC (.d (.int 1))) fNil))) fNil) ρ S = .ok (.o S.length) (S ++ [Cell.lst [.d (fr 0)]]) := fun ρ => rfl
  have eM := mulT_o (S := S ++ [Cell.lst [.d (fr 0)]]) (a := S.length) (N := p.length + (partL b c).length) (get_len_app _ _ _) (by omega)
  generalize hV1 : S ++ [Cell.lst [.d (fr 0)]] ++ [Cell.lst (fnD (p.length + (partL b c).length) fun _ => 0)] = V1 at eM
  have lS : (S ++ [Cell.lst [.d (fr 0)]]).length = S.length + 1 := by simp
  rw [lS] at eM
  have l1 : V1.length = S.length + 2 := by rw [← hV1]; simp
  have g1 : V1[S.length + 1]? = some (.lst (fnD (p.length + (partL b c).length) fun _ => 0)) := by rw [← hV1, ← lS, get_len_app]
  have f1 : Fr S.length S V1 := by rw [← hV1, List.append_assoc]; exact (Fr.refl _ _).app (Nat.le_refl _) _
  obtain ⟨k3, k4, k5, k6, e1⟩ := out_loop (N := p.length + (partL b c).length) (s1 := 50) (s2 := 4) (F := S.length + 1) (a := partL b c) (a0 := some (.d (.tuple (plD (p.map fun a => c0 * a))))) ha (by omega) (by omega) (p.map fun a => c0 * a) [] V1 none none none none hp (by simp) (fun k => by rw [ap_nil]; exact ⟨by simp, by simp⟩) g1
  rw [List.nil_append, List.length_nil] at e1
  have hN : fnD (p.length + (partL b c).length) (ap (p.map fun a => c0 * a) fun t => (partL b c).getD t 0) = (plD (((mulP b c p).map fun a => c0 * a) ++ [0])).map W.d := by
    unfold fnD
    rw [mul_list]
  rw [hN] at e1
  obtain ⟨X, x, hX⟩ : ∃ X x, mulP b c p = X ++ [x] := by
    have : mulP b c p ≠ [] := by intro z; rw [z] at hP; simp at hP
    exact ⟨_, _, (List.dropLast_concat_getLast this).symm⟩
  have hx0 : x ≠ 0 := by rw [hX] at hP; simpa using hP
  have hcx : c0 * x ≠ 0 := fun h => by
    rcases Rat.mul_eq_zero.mp h with h | h
    · exact h0 h
    · exact hx0 h
  have hXs : ((mulP b c p).map fun a => c0 * a) = (X.map fun a => c0 * a) ++ [c0 * x] := by rw [hX]; simp
  obtain ⟨V', e2, f2⟩ := r_cut (S := V1.set (S.length + 1) (.lst ((plD (((mulP b c p).map fun a => c0 * a) ++ [0])).map W.d))) (a := S.length + 1) (p := X.map fun a => c0 * a) (x := c0 * x) (z := 1) hcx (by rw [List.getElem?_set_self (by omega), hXs]; rfl)
  rw [← hXs] at e2
  have eE : fEn (fCons (fVar 0) fNil) [some (.d (.tuple (plD (p.map fun a => c0 * a)))), some (.d (.tuple (plD (partL b c)))), some (.o (S.length + 1)), none, none, none, none] V1 = .ok (((p.map fun a => c0 * a).zipIdx 0).map fun q => .tuple [.int (q.2 : Nat), fr q.1]) V1 := by
    rw [en_ev]
    simp only [ev_var, List.getElem?_cons_zero, List.getElem?_cons_succ, bind_ok, items_t, ofO_some]
    unfold enumD
    rw [enum_pl]
  have eAdd : ((((plD (p.map fun a => c0 * a)).length : Nat) : Int) + (((plD (partL b c)).length : Nat) : Int)) = ((p.length + (partL b c).length : Nat) : Int) := by
    rw [plD_len, plD_len, List.length_map]; push_cast; rfl
  refine ⟨V', ?_, (f1.set (by omega) _).trans (f2.weak (by simp; omega))⟩
  unfold outB inB at e1
  unfold R__law_multiplied runB B__law_multiplied
  simp only [startR, List.map_cons, List.map_nil, List.length_cons, List.length_nil, Nat.zero_add, Nat.reduceAdd, Nat.reduceSub, List.replicate, List.cons_append, List.nil_append, st_seq, st_set, st_ret, st_if, st_exp, st_par, st_skip, ev_call, ev_cons, ev_nil, ev_var, ev_c, ev_op2, ev_tru, ev_or, ev_and, ev_not, List.getElem?_cons_zero, List.getElem?_cons_succ, bind_ok, ofO_some, if_true, ofD_nil, List.append_nil, fl_ok, List.set_cons_zero, List.set_cons_succ, truth_b, Option.map_some, Bool.not_true, Bool.not_false, Bool.false_eq_true, if_false, eLs, ev_len, len_tup, add_int, eAdd, eM, st_for, eE, e1, e2]
end G
set_option Elab.async false
set_option linter.all false
set_option maxRecDepth 100000
set_option maxHeartbeats 4000000
/-! S17: the law -/
namespace G
open PySem PySem.Spec L2 PyProof.Rows
set_option autoImplicit false
/-- script[:K] + [sum(script)], numbered -/
noncomputable def csE (K : Int) : Fe (List PyData) := fEn (fCons (fOp2 gAdd (fSl (fVar 0) fNoP (fPart (fC (.d (.int K))))) (fLst (fCons (fCB gSum (fCons (fVar 0) fNil)) fNil))) fNil)
theorem cells_sum (K : Nat) (ns : List Int) (hn : ns.length ≤ 63) {ρ : Slt} (hρ : ρ[0]? = some (some (.d (.list (ns.map PyData.int))))) : ∃ V, csE (K : Int) ρ [] = .ok (enumD ((ns.take K ++ [ns.sum]).map PyData.int)) V := by
  have e0 : (ns.map PyData.int).map W.d = iW ns := by simp [iW, List.map_map, Function.comp_def]
  have c1 : cutW (iW ns) none (some (K : Int)) = iW (ns.take K) := by
    by_cases hz : ns = []
    · subst hz
      simp [iW, cutW]
    · have e1 : cutW (iW ns) none (some (K : Int)) = ((iW ns).drop 0).take (min K (iW ns).length - 0) := by
        unfold cutW
        cases hW : iW ns with
        | nil => simp [iW] at hW; exact absurd hW hz
        | cons a l =>
          have hk : ¬ ((K : Int) < 0) := by omega
          simp [HT.sIx, Nat.min_def, hk]
      rw [e1, List.drop_zero, Nat.sub_zero, ← List.take_eq_take_min]
      simp [iW]
  have eP : fPart (fC (.d (.int (K : Int)))) ρ [] = .ok (some (K : Int)) [] := rfl
  have eS : fSl (fVar 0) fNoP (fPart (fC (.d (.int (K : Int))))) ρ [] = .ok (.o 0) [.lst (iW (ns.take K))] := by
    simp only [ev_sl, ev_var, hρ, bind_ok, noP, eP, sl_l, e0, c1, ofO_some]
    rfl
  have eU : ∀ S, gSum [.d (.list (ns.map PyData.int))] S = some (.d (.int ns.sum), S) := fun S => by
    show (match intsOf ((ns.map PyData.int).map W.d) with | some ns => some (W.d (.int ns.sum), S) | none => none) = _
    rw [intsOf_ds]
  have eL : fLst (fCons (fCB gSum (fCons (fVar 0) fNil)) fNil) ρ [.lst (iW (ns.take K))] = .ok (.o 1) [.lst (iW (ns.take K)), .lst (iW [ns.sum])] := by
    unfold fLst
    simp only [ev_cons, ev_nil, ev_sum, ev_var, hρ, bind_ok, eU, ofO_some]
    rfl
  have eA : gAdd (.o 0) (.o 1) [.lst (iW (ns.take K)), .lst (iW [ns.sum])] = some (.o 2, [.lst (iW (ns.take K)), .lst (iW [ns.sum]), .lst (iW (ns.take K) ++ iW [ns.sum])]) := by
    have h1 : hpl (.o 0) [.lst (iW (ns.take K)), .lst (iW [ns.sum])] = some (iW (ns.take K)) := rfl
    have h2 : hpl (.o 1) [.lst (iW (ns.take K)), .lst (iW [ns.sum])] = some (iW [ns.sum]) := rfl
    unfold gAdd
    simp only [h1, h2]
    rw [if_pos (by unfold szOk; simp [iW]; omega)]
    rfl
  obtain ⟨xs, hxs⟩ : ∃ xs : List Int, xs = ns.take K ++ [ns.sum] := ⟨_, rfl⟩
  have eW : iW (ns.take K) ++ iW [ns.sum] = (xs.map PyData.int).map W.d := by rw [hxs]; simp [iW, List.map_map, Function.comp_def]
  rw [eW] at eA
  have eI : itemsOf (.o 2) [.lst (iW (ns.take K)), .lst (iW [ns.sum]), .lst ((xs.map PyData.int).map W.d)] = some (xs.map PyData.int, [.lst (iW (ns.take K)), .lst (iW [ns.sum]), .fz (.list (xs.map PyData.int))]) := by
    unfold itemsOf
    have e : frz 6 (.o 2) [.lst (iW (ns.take K)), .lst (iW [ns.sum]), .lst ((xs.map PyData.int).map W.d)] = some (.list (xs.map PyData.int), [.lst (iW (ns.take K)), .lst (iW [ns.sum]), .fz (.list (xs.map PyData.int))]) := by
      show (match frzL (frz 5) ((xs.map PyData.int).map W.d) [.lst (iW (ns.take K)), .lst (iW [ns.sum]), .lst ((xs.map PyData.int).map W.d)] with | some (ds, S1) => some (PyData.list ds, S1.set 2 (.fz (.list ds))) | none => none) = _
      rw [frzL_ds]
      rfl
    rw [e]
  refine ⟨[.lst (iW (ns.take K)), .lst (iW [ns.sum]), .fz (.list (xs.map PyData.int))], ?_⟩
  unfold csE
  rw [en_ev, ev_op2, eS, bind_ok, eL, bind_ok, eA, ofO_some, bind_ok, eI, ← hxs]
  rfl
/-- a loop over numbered cells, each turn of which goes on -/
theorem cells_loop {b : Fs} {N : Nat} (hb : ∀ (i cell : Int) (ρ : Slt) (S : Sto), 0 ≤ i → i ≤ 1000 → ρ.length = N → ∃ ρ' S', b ((ρ.set 1 (some (.d (.int i)))).set 2 (some (.d (.int cell)))) S = .nx ρ' S' ∧ ρ'.length = N) (xs : List Int) (hx : xs.length ≤ 1000) {ρ : Slt} (hρ : ρ.length = N) (S : Sto) :
    ∃ ρ' S', forD (gTp 2 (gsCons (gNm 1) (gsCons (gNm 2) gsNil))) b (enumD (xs.map PyData.int)) ρ S = .nx ρ' S' ∧ ρ'.length = N := by
  have : ∀ (ds : List PyData) (ρ : Slt) (S : Sto), (∀ x ∈ ds, ∃ i cell : Int, x = .tuple [.int i, .int cell] ∧ 0 ≤ i ∧ i ≤ 1000) → ρ.length = N → ∃ ρ' S', forD (gTp 2 (gsCons (gNm 1) (gsCons (gNm 2) gsNil))) b ds ρ S = .nx ρ' S' ∧ ρ'.length = N := fun ds => by
    induction ds with
    | nil => intro ρ S _ hρ; exact ⟨ρ, S, rfl, hρ⟩
    | cons x ds ih =>
      intro ρ S hx hρ
      obtain ⟨i, cell, rfl, h1, h2⟩ := hx x (by simp)
      obtain ⟨ρ1, S1, e1, l1⟩ := hb i cell ρ S h1 h2 hρ
      obtain ⟨ρ2, S2, e2, l2⟩ := ih ρ1 S1 (fun y hy => hx y (by simp [hy])) l1
      refine ⟨ρ2, S2, ?_, l2⟩
      rw [forD_cons]
      have eg : gTp 2 (gsCons (gNm 1) (gsCons (gNm 2) gsNil)) (.d (.tuple [.int i, .int cell])) ρ S = some ((ρ.set 1 (some (.d (.int i)))).set 2 (some (.d (.int cell)))) := rfl
      rw [eg]
      simp only [e1]
      exact e2
  refine this _ ρ S (fun x hx' => ?_) hρ
  unfold enumD at hx'
  obtain ⟨⟨y, i⟩, hy, rfl⟩ := List.mem_map.mp hx'
  have hz := List.mem_zipIdx hy
  have hl := hz.2.1
  simp at hl
  obtain ⟨cell, hc⟩ : ∃ cell : Int, y = .int cell := by
    have := hz.2.2
    simp at this
    exact ⟨_, this⟩
  exact ⟨(i : Nat), cell, by rw [hc], by omega, by omega⟩
theorem r_draw (cell k : Int) (hk : 0 ≤ k) (hk2 : k ≤ 1000) (S : Sto) : ∃ l : Int, R__law_draw [.d (.int cell), .d (.int k)] S = .ok (.o S.length) (S ++ [stC l cell (1000 * k)]) := by
  have e0 : ∀ S, gMulT (.d (.int 1000)) (.d (.int k)) S = some (.d (.int (1000 * k)), S) := fun S => mul_int (tiny_l (by omega)) S
  by_cases h : (1000000000000000000 : Int) ≤ cell
  · refine ⟨cell, ?_⟩
    unfold R__law_draw runB B__law_draw
    simp only [startR, List.map_cons, List.map_nil, List.length_cons, List.length_nil, st_ret, fDisp, evP, ev_c, keyOf, bind_ok, ev_ife, ev_tru, ev_op2, ev_var, List.cons_append, List.nil_append, List.getElem?_cons_zero, List.getElem?_cons_succ, gPow_k, ofO_some, ge_int', decide_eq_true h, truth_b, Option.map_some, if_true, e0, get_len_app, set_len_app, fl_ok]
    rfl
  · refine ⟨0, ?_⟩
    unfold R__law_draw runB B__law_draw
    simp only [startR, List.map_cons, List.map_nil, List.length_cons, List.length_nil, st_ret, fDisp, evP, ev_c, keyOf, bind_ok, ev_ife, ev_tru, ev_op2, ev_var, List.cons_append, List.nil_append, List.getElem?_cons_zero, List.getElem?_cons_succ, gPow_k, ofO_some, ge_int', decide_eq_false h, truth_b, Option.map_some, Bool.false_eq_true, if_false, e0, get_len_app, set_len_app, fl_ok]
    rfl
/-! ### what is shown -/
theorem rp_int6 {i : Int} (h : i.natAbs < 2 ^ 600) : Rp 600 0 (.int i) := by
  have hlog : i.natAbs.log2 < 600 := by
    by_cases h0 : i = 0
    · subst h0; decide
    · exact (Nat.log2_lt (by omega : i.natAbs ≠ 0)).mpr h
  refine ⟨?_, by simp only [PyData.hasDict], ?_, ?_, fun k hk => shown_int_free' (by omega) i, by simp [PyData.depth]⟩
  · simp only [PyData.showable, decide_eq_true_eq]
    omega
  · have e : (PyData.int i).shown.length = (toString i).length := by rw [PyData.shown_int]; exact PySem.ofString_length _
    have l : (PyData.int i).shown.length ≤ 198 := by
      rw [e]
      exact Nat.le_trans (PySem.int_text_length_le10 (k := 197) (by decide) (Nat.lt_of_lt_of_le h (by decide +kernel))) (by decide)
    simp only [PyData.leavesShort, decide_eq_true_eq]
    exact l
  · simp only [PyData.weight]
    by_cases h0 : i = 0
    · simp [h0]
    · have e : (i == 0) = false := by simpa using h0
      rw [e, if_neg Bool.false_ne_true]
      omega
theorem rp_fr6 {q : Rat} (h : Sm 600 q) : Rp 1202 1 (fr q) := by
  have := rp_tup (l := [.int q.num, .int q.den]) (w := 600) (dep := 0) (fun x hx => by
    simp only [List.mem_cons, List.not_mem_nil, or_false] at hx
    rcases hx with rfl | rfl
    · exact rp_int6 h.1
    · exact rp_int6 (by rw [Int.natAbs_natCast]; exact h.2))
  exact this
theorem rp_pl {l : List Rat} (h : ∀ a ∈ l, Sm 600 a) (hl : l.length ≤ 20) : Rp 30000 2 (.list (plD l)) :=
  (rp_lst (w := 1202) (dep := 1) fun x hx => by
    obtain ⟨q, hq, rfl⟩ := List.mem_map.mp hx
    exact rp_fr6 (h q hq)).mono (by rw [plD_len]; omega) (Nat.le_refl _)
/-! ### sizes -/
theorem wh_sm {p : List Rat} (h1 : ∃ m, p = 1 :: m) (h : Wh (2 ^ 32) p) : ∀ a ∈ p, Sm 33 a := by
  obtain ⟨D, Z, d0, hZ, hp⟩ := h
  have z0 : (D : Rat) = (Z 0 : Rat) := by
    obtain ⟨m, rfl⟩ := h1
    rw [← hp 0]
    show (D : Rat) = D * 1
    grind
  have z1 : (Z 0) = (D : Int) := by exact_mod_cast z0.symm
  intro a ha
  obtain ⟨t, ht, rfl⟩ := List.mem_iff_getElem.mp ha
  have e : p[t] = p.getD t 0 := by simp [List.getD, ht]
  rw [e]
  have h2 := sm_of (a := p.getD t 0) (D := (D : Int)) (z := Z t) (by
    have := hp t
    rw [← this]
    push_cast
    grind) (by omega)
  have h3 := hZ 0
  have h4 := hZ t
  rw [z1] at h3
  constructor
  · have := h2.2; omega
  · have := h2.1; omega
theorem wh_hs {p : List Rat} (h1 : ∃ m, p = 1 :: m) (hl : p.length ≤ 9) (h : Wh (2 ^ 32) p) : HS p := by
  obtain ⟨D, Z, d0, hZ, hp⟩ := h
  intro j q hq hq1 a ha
  have h2 := hq.len
  have h3 : 1 ≤ q.length := by obtain ⟨m, rfl⟩ := hq1; simp
  have c0 : (D : Rat) ≠ 0 := by
    intro z
    have : D = 0 := by exact_mod_cast z
    omega
  exact stp_sm hq (by omega) c0 h1 hq1 (fun t => by have := hZ t; omega) hp a ha
theorem Prd.all {L : List (Rat × Rat)} {p : List Rat} (h : Prd L p) (hL : ∀ x ∈ L, Sml x.1 ∧ Sml x.2) (h4 : L.length ≤ 4) : ∃ m, p = 1 :: m ∧ m.length ≤ 2 * L.length ∧ p.getLastD 0 ≠ 0 ∧ HS p ∧ ∀ a ∈ p, Sm 33 a := by
  obtain ⟨h1, h2, ⟨m, rfl⟩, h5⟩ := h.wh hL
  have h6 : Wh (2 ^ 32) (1 :: m) := by
    obtain ⟨D, Z, d0, hZ, hp⟩ := h1
    refine ⟨D, Z, d0, fun t => Nat.le_trans (hZ t) ?_, hp⟩
    have : 256 ^ L.length ≤ 256 ^ 4 := Nat.pow_le_pow_right (by decide) h4
    exact Nat.le_trans this (by decide)
  exact ⟨m, rfl, by simpa using h2, h5, wh_hs ⟨m, rfl⟩ (by simp at h2 ⊢; omega) h6, wh_sm ⟨m, rfl⟩ h6⟩
theorem scale_sm {n : Nat} {c : Rat} (hc : Sm 4 c) {p : List Rat} (hp : ∀ a ∈ p, Sm 33 a) (hn : 37 ≤ n) : ∀ a ∈ p.map fun a => c * a, Sm n a := fun a ha => by
  obtain ⟨q, hq, rfl⟩ := List.mem_map.mp ha
  exact (hc.mul (hp q hq)).mono (by omega)
theorem part_sm {x y : Rat} (hx : Sml x) (hy : Sml y) : ∀ a ∈ partL x y, Sm 4 a := by
  have h1 : Sm 4 (1 : Rat) := sm_one.mono (by decide)
  intro a ha
  unfold partL at ha
  split at ha
  · simp at ha
    rcases ha with rfl | rfl | rfl
    · exact h1
    · exact hx.sm
    · exact hy.sm
  · split at ha
    · simp at ha
      rcases ha with rfl | rfl
      · exact h1
      · exact hx.sm
    · simp at ha
      subst ha
      exact h1
theorem fTup_one (f : Fe W) (ρ : Slt) (S S' : Sto) (d : PyData) (h : f ρ S = .ok (.d d) S') : fTup (fCons f fNil) ρ S = .ok (.d (.tuple [d])) S' := by
  unfold fTup
  simp only [ev_cons, ev_nil, h, bind_ok]
  have : fzT [W.d d] S' = some (.tuple [d], S') := by
    unfold fzT frzL frzL
    simp only [frz_d]
    rfl
  rw [this]
theorem dec_last {m : List Rat} {c : Rat} : (fr c : PyData) :: plD (m.map fun a => c * a) = plD ((1 :: m).map fun a => c * a) := by
  simp only [plD, List.map_cons]
  rw [Rat.mul_one]
end G
set_option Elab.async false
set_option linter.all false
set_option maxRecDepth 100000
set_option maxHeartbeats 4000000
/-! S18: what is told of one product is right -/
namespace G
open PySem PySem.Spec L2 PyProof.Rows
set_option autoImplicit false
noncomputable def plB : Fs := (fSeq (fAsg (gTp 2 (gsCons (gNm 4) (gsCons (gNm 5) gsNil))) (fCall 1 [] R__law_part (fCons (fVar 0) fNil)))
  (fPar 1 2 (fCons (fCall 2 [] R__law_multiplied (fCons (fVar 1) (fCons (fVar 4) fNil))) (fCons (fAndE (fVar 2) (fVar 5)) fNil))))
theorem pl_loop {n : Nat} {c0 : Rat} (hc : c0 ≠ 0) (hs : Sm 4 c0) : ∀ (ds : List PyData) (b : Nat) (L : List (Rat × Rat)) (p : List Rat) (o : Bool) (S : Sto) (j3 j4 j5 j6 j7 j8 : Option W), StA n b S → b + 28 * ds.length ≤ 2 ^ 40 → Prd L p → (∀ x ∈ L, Sml x.1 ∧ Sml x.2) → L.length + ds.length ≤ 4 → (o = true ↔ ∀ x ∈ L, Stb x.1 x.2) →
    ∃ L' p' o' S' k3 k4 k5, forD (gNm 3) plB ds [some (.o n), some (.d (.tuple (plD (p.map fun a => c0 * a)))), some (.d (.bool o)), j3, j4, j5, j6, j7, j8] S = .nx [some (.o n), some (.d (.tuple (plD (p'.map fun a => c0 * a)))), some (.d (.bool o')), k3, k4, k5, j6, j7, j8] S' ∧
      StA n (b + 28 * ds.length) S' ∧ Kp n S S' ∧ Prd L' p' ∧ (∀ x ∈ L', Sml x.1 ∧ Sml x.2) ∧ L'.length ≤ 4 ∧ (o' = true ↔ ∀ x ∈ L', Stb x.1 x.2)
  | [], b, L, p, o, S, j3, j4, j5, j6, j7, j8, h, hb, hP, hL, h4, ho => ⟨L, p, o, S, j3, j4, j5, rfl, h, Kp.refl n S, hP, hL, by simpa using h4, ho⟩
  | d :: ds, b, L, p, o, S, j3, j4, j5, j6, j7, j8, h, hb, hP, hL, h4, ho => by
    simp only [List.length_cons] at hb h4
    obtain ⟨x, y, o2, S1, e1, m1, m2, q2, s1, k1⟩ := r_part h (by omega)
    obtain ⟨m, rfl, lm, last0, _, hp33⟩ := hP.all hL (by omega)
    have hP2 : Prd ((x, y) :: L) (mulP x y (1 :: m)) := .cons hP
    have hL2 : ∀ z ∈ (x, y) :: L, Sml z.1 ∧ Sml z.2 := fun z hz => by
      rcases List.mem_cons.mp hz with rfl | hz
      · exact ⟨m1, m2⟩
      · exact hL z hz
    obtain ⟨m', e', _, last', _, _⟩ := hP2.all hL2 (by simp; omega)
    obtain ⟨V, e2, f2⟩ := r_multiplied (b := x) (c := y) (c0 := c0) (p := 1 :: m) (scale_sm hs hp33 (by omega)) (part_sm m1 m2) hc (by simp; omega) last' S1
    have s2 : StA n (b + 28) V := s1.fr' f2
    have ho2 : (o && o2) = true ↔ ∀ z ∈ (x, y) :: L, Stb z.1 z.2 := by
      rw [Bool.and_eq_true, ho, q2]
      constructor
      · rintro ⟨h1, h2⟩ z hz
        rcases List.mem_cons.mp hz with rfl | hz
        · exact h2
        · exact h1 z hz
      · intro h1
        exact ⟨fun z hz => h1 z (by simp [hz]), h1 (x, y) (by simp)⟩
    have eA : ∀ a0 a1 a3 a4 a6 a7 a8, fAndE (fVar 2) (fVar 5) [a0, a1, some (.d (.bool o)), a3, a4, some (.d (.bool o2)), a6, a7, a8] V = .ok (.d (.bool (o && o2))) V := fun a0 a1 a3 a4 a6 a7 a8 => by
      rw [andE_b (b := o) (S1 := V) (by simp only [ev_var, List.getElem?_cons_zero, List.getElem?_cons_succ])]
      cases o
      · simp
      · simp only [if_true, ev_var, List.getElem?_cons_zero, List.getElem?_cons_succ, Bool.true_and]
    have eb : plB [some (.o n), some (.d (.tuple (plD ((1 :: m).map fun a => c0 * a)))), some (.d (.bool o)), some (.d d), j4, j5, j6, j7, j8] S = .nx [some (.o n), some (.d (.tuple (plD ((mulP x y (1 :: m)).map fun a => c0 * a)))), some (.d (.bool (o && o2))), some (.d d), some (.d (.tuple (plD (partL x y)))), some (.d (.bool o2)), j6, j7, j8] V := by
      unfold plB
      generalize ((1 :: m).map fun a => c0 * a) = w at e2 ⊢
      simp only [startR, List.map_cons, List.map_nil, List.length_cons, List.length_nil, Nat.zero_add, Nat.reduceAdd, Nat.reduceSub, List.replicate, List.cons_append, List.nil_append, st_seq, st_set, st_ret, st_if, st_exp, st_par, st_skip, ev_call, ev_cons, ev_nil, ev_var, ev_c, ev_op2, ev_tru, ev_or, ev_and, ev_not, List.getElem?_cons_zero, List.getElem?_cons_succ, bind_ok, ofO_some, if_true, ofD_nil, List.append_nil, fl_ok, List.set_cons_zero, List.set_cons_succ, truth_b, Option.map_some, Bool.not_true, Bool.not_false, Bool.false_eq_true, if_false, st_asg, e1, gt_tp2, gt_nm, e2, eA]
    obtain ⟨L', p', o', S', k3, k4, k5, e3, s3, k3', P3, L3, l3, o3⟩ := pl_loop hc hs ds (b + 28) ((x, y) :: L) (mulP x y (1 :: m)) (o && o2) V (some (.d d)) (some (.d (.tuple (plD (partL x y))))) (some (.d (.bool o2))) j6 j7 j8 s2 (by omega) hP2 hL2 (by simp; omega) ho2
    refine ⟨L', p', o', S', k3, k4, k5, ?_, by rw [List.length_cons, show b + 28 * (ds.length + 1) = b + 28 + 28 * ds.length by omega]; exact s3, (k1.trans (Kp.fr f2)).trans k3', P3, L3, l3, o3⟩
    rw [forD_cons]
    simp only [gt_nm, List.set_cons_zero, List.set_cons_succ, eb]
    exact e3
noncomputable def otF (i : Nat) : Fe Bool := (fTru (fOp2 cGe (fCB gAbs (fCons (fOp2 gIx (fVar i) (fC (.d (.int 0)))) fNil)) (fOp2 gIx (fVar i) (fC (.d (.int 1))))))
/-- those that are not less than 1, of a list -/
theorem ot_list {f : Fe (List PyData)} {S S0 : Sto} {l : List Rat} (hl : l.length ≤ 100) {a0 a1 a2 a3 a4 a5 a6 a7 a8 : Option W} (hf : f [a0, a1, a2, a3, a4, a5, a6, a7, a8] S = .ok (l.map fr) S0) :
    ∃ V', fLc f (gNm 4) (otF 4) (fVar 4) [4] [a0, a1, a2, a3, a4, a5, a6, a7, a8] S = .ok (.o S0.length) V' ∧ Fr S0.length S0 V' ∧ S0.length < V'.length ∧ V'[S0.length]? = some (.lst ((plD (l.filter fun k => decide (¬ k * k < 1))).map W.d)) := by
  obtain ⟨V', e, i, h1, h2⟩ := lc_gen (f := f) (g := gNm 4) (t := otF 4) (e := fVar 4) (vs := [4]) (ρ := [a0, a1, a2, a3, a4, a5, a6, a7, a8]) (ds := l) (mk := fr) (S := S) (S0 := S0) (fun k => decide (¬ k * k < 1)) fr (fun W => Fr S0.length S0 W) hf (by omega) (fun W x hW _ => hW.set (Nat.le_refl _) x) ((Fr.refl _ _).app (Nat.le_refl _) _) (by
    intro k hk
    refine ⟨[a0, a1, a2, a3, some (.d (fr k)), a5, a6, a7, a8], fun W => rfl, fun W hW hl => ⟨W, ?_, hW, Nat.le_refl _, rfl, fun _ => ⟨W, ?_, hW, Nat.le_refl _, rfl⟩⟩⟩
    · have x0 : ∀ (q : Rat) V, gIx (.d (fr q)) (.d (.int 0)) V = some (.d (.int q.num), V) := fun q V => rfl
      have x1 : ∀ (q : Rat) V, gIx (.d (fr q)) (.d (.int 1)) V = some (.d (.int (q.den : Nat)), V) := fun q V => rfl
      have ed : decide (((k.den : Nat) : Int) ≤ (if k.num < 0 then -k.num else k.num)) = decide (¬ k * k < 1) := decide_eq_decide.mpr (abs_lt k)
      unfold otF
      simp only [startR, List.map_cons, List.map_nil, List.length_cons, List.length_nil, Nat.zero_add, Nat.reduceAdd, Nat.reduceSub, List.replicate, List.cons_append, List.nil_append, st_seq, st_set, st_ret, st_if, st_exp, st_par, st_skip, ev_call, ev_cons, ev_nil, ev_var, ev_c, ev_op2, ev_tru, ev_or, ev_and, ev_not, List.getElem?_cons_zero, List.getElem?_cons_succ, bind_ok, ofO_some, if_true, ofD_nil, List.append_nil, fl_ok, List.set_cons_zero, List.set_cons_succ, truth_b, Option.map_some, Bool.not_true, Bool.not_false, Bool.false_eq_true, if_false, x0, x1, ev_abs, abs_int, ge_int', ed]
    · simp only [ev_var, List.getElem?_cons_zero, List.getElem?_cons_succ])
  exact ⟨V', e, i, h1, h2⟩
/-- is it empty -/
theorem eqn_nil {V : Sto} {q : Nat} {l : List Rat} (h : V[q]? = some (.lst ((plD l).map W.d))) : dEq false (.o q) (.o V.length) (V ++ [Cell.lst []]) = some (.d (.bool (decide (l = []))), V ++ [Cell.lst []]) := by
  have hfl := (List.getElem?_eq_some_iff.mp h).1
  have hF2 : (V ++ [Cell.lst []])[q]? = some (Cell.lst ((plD l).map W.d)) := by rw [List.getElem?_append_left hfl]; exact h
  have v1 := Rd.view (.inl hF2 : Rd (V ++ [Cell.lst []]) q (plD l))
  have v2 : view (.o V.length) (V ++ [Cell.lst []]) = some (.list []) := Rd.view (.inl (by rw [get_len_app]; rfl) : Rd (V ++ [Cell.lst []]) V.length [])
  have e : PyData.eqv (.list (plD l)) (.list []) = decide (l = []) := by
    cases l <;> simp [plD, PyData.eqv, PyData.eqvAll]
  unfold dEq
  rw [v1, v2]
  simp only []
  rw [if_pos (by rw [(pl_lst (pl_pl l)).shp (by decide)]; rfl), e]
  rfl
theorem filt_nil (l : List Rat) : (l.filter fun k => decide (¬ k * k < 1)) = [] ↔ ∀ k ∈ l, k * k < 1 := by
  rw [List.filter_eq_nil_iff]
  constructor
  · intro h k hk
    have := h k hk
    exact Classical.byContradiction fun h2 => this (decide_eq_true h2)
  · intro h k hk h2
    exact (of_decide_eq_true h2) (h k hk)
theorem ne_bool2 (c : Bool) (S : Sto) : dEq true (.d (.bool c)) (.d (.bool c)) S = some (.d (.bool false), S) := by cases c <;> rfl
theorem r_right {n b : Nat} {S : Sto} (h : StA n b S) (hb : b + 124 ≤ 2 ^ 40) : ∃ S', R__law_right [.o n] S = .ok (.d (.bool true)) S' ∧ StA n (b + 124) S' ∧ Kp n S S' := by
  -- the number ahead
  have eL0 : ∀ ρ : Slt, fLst (fCons (fC (.d (.int 1))) (fCons (fNeg (fC (.d (.int 1)))) (fCons (fC (.d (.int 3))) (fCons (fNeg (fC (.d (.int 2)))) fNil)))) ρ S = .ok (.o S.length) (S ++ [Cell.lst [.d (.int 1), .d (.int (-1)), .d (.int 3), .d (.int (-2))]]) := fun ρ => rfl
  have s0 : StA n b (S ++ [Cell.lst [.d (.int 1), .d (.int (-1)), .d (.int 3), .d (.int (-2))]]) := h.app _
  have g0 : (S ++ [Cell.lst [.d (.int 1), .d (.int (-1)), .d (.int 3), .d (.int (-2))]])[S.length]? = some (Cell.lst [.d (.int 1), .d (.int (-1)), .d (.int 3), .d (.int (-2))]) := get_len_app _ _ _
  have kA : Kp n S (S ++ [Cell.lst [.d (.int 1), .d (.int (-1)), .d (.int 3), .d (.int (-2))]]) := Kp.app n S _
  generalize hSA : S ++ [Cell.lst [.d (.int 1), .d (.int (-1)), .d (.int 3), .d (.int (-2))]] = SA at eL0 s0 g0 kA
  have lA : SA.length = S.length + 1 := by rw [← hSA]; simp
  obtain ⟨v1, S1, e1, p1, p2, s1, k1⟩ := r_digit s0 (by omega) (z := 4) (by decide) (by decide)
  have g1 : S1[S.length]? = some (Cell.lst [.d (.int 1), .d (.int (-1)), .d (.int 3), .d (.int (-2))]) := by
    rw [k1.same S.length (by omega) (by have := h.lt; omega)]; exact g0
  obtain ⟨t, et, ht0, ht3⟩ : ∃ t : Int, gIx (.o S.length) (.d (.int v1)) S1 = some (.d (.int t), S1) ∧ t ≠ 0 ∧ t.natAbs ≤ 3 := by
    have e : seqOf (.o S.length) S1 = some [.d (.int 1), .d (.int (-1)), .d (.int 3), .d (.int (-2))] := by
      unfold seqOf
      simp only [g1]
    have h3 : v1 = 0 ∨ v1 = 1 ∨ v1 = 2 ∨ v1 = 3 := by omega
    unfold gIx
    simp only [e]
    rcases h3 with h | h | h | h <;> rw [h] <;> exact ⟨_, rfl, by decide, by decide⟩
  obtain ⟨v2, S2, e2, p3, p4, s2, k2⟩ := r_digit s1 (by omega) (z := 5) (by decide) (by decide)
  have key := r__law_lowest (t := t) (b := 1 + v2) (by omega) (Nat.lt_of_lt_of_le (show (1 + v2).natAbs < 2 ^ 4 by omega) (Nat.pow_le_pow_right (by decide) (by decide))) S2
  obtain ⟨bb, hbb⟩ : ∃ bb : Nat, 1 + v2 = (bb : Int) := ⟨(1 + v2).toNat, by omega⟩
  generalize hc0 : Rat.divInt t (1 + v2) = c0 at key
  have hcb : c0 * (bb : Rat) = (t : Rat) := by rw [← hc0, hbb]; exact divInt_mul t (by omega)
  have hc : c0 ≠ 0 := by
    intro z
    rw [z, Rat.zero_mul] at hcb
    exact ht0 (by exact_mod_cast hcb.symm)
  have hsc : Sm 4 c0 := by
    have := sm_of (a := c0) (D := (bb : Int)) (z := t) (by exact_mod_cast hcb) (by omega)
    constructor
    · have := this.2; omega
    · have := this.1; omega
  have eT : ∀ a0 : Option W, a0 = some (.o n) → fTup (fCons (fCall 2 [] R__law_lowest (fCons (fOp2 gIx (fLst (fCons (fC (.d (.int 1))) (fCons (fNeg (fC (.d (.int 1)))) (fCons (fC (.d (.int 3))) (fCons (fNeg (fC (.d (.int 2)))) fNil))))) (fCall 2 [] R__law_digit (fCons (fVar 0) (fCons (fC (.d (.int 4))) fNil)))) (fCons (fOp2 gAdd (fC (.d (.int 1))) (fCall 2 [] R__law_digit (fCons (fVar 0) (fCons (fC (.d (.int 5))) fNil)))) fNil))) fNil) [a0, none, none, none, none, none, none, none, none] S = .ok (.d (.tuple (plD ([1].map fun a => c0 * a)))) S2 := fun a0 ha => by
    subst ha
    rw [fTup_one (d := fr c0) (S' := S2)]
    · rw [← dec_last]; rfl
    · simp only [startR, List.map_cons, List.map_nil, List.length_cons, List.length_nil, Nat.zero_add, Nat.reduceAdd, Nat.reduceSub, List.replicate, List.cons_append, List.nil_append, st_seq, st_set, st_ret, st_if, st_exp, st_par, st_skip, ev_call, ev_cons, ev_nil, ev_var, ev_c, ev_op2, ev_tru, ev_or, ev_and, ev_not, List.getElem?_cons_zero, List.getElem?_cons_succ, bind_ok, ofO_some, if_true, ofD_nil, List.append_nil, fl_ok, List.set_cons_zero, List.set_cons_succ, truth_b, Option.map_some, Bool.not_true, Bool.not_false, Bool.false_eq_true, if_false, eL0, e1, et, e2, add_int, key]
  -- the parts
  obtain ⟨v3, S3, e3, p5, p6, s3, k3⟩ := r_digit s2 (by omega) (z := 5) (by decide) (by decide)
  have eR : ∀ ρ : Slt, ρ[0]? = some (some (.o n)) → fR1 (fCons (fCall 2 [] R__law_digit (fCons (fVar 0) (fCons (fC (.d (.int 5))) fNil))) fNil) ρ S2 = .ok (rngD 0 v3.toNat) S3 := fun ρ h0 => r1_ev _ _ S2 S3 v3 (by simp only [ev_call, ev_cons, ev_nil, ev_var, ev_c, h0, bind_ok, List.length_cons, List.length_nil, Nat.zero_add, Nat.reduceAdd, if_true, ofD_nil, List.append_nil, e3]) (by omega)
  have lr : (rngD 0 v3.toNat).length = v3.toNat := by simp [rngD]
  obtain ⟨L, p, o, S4, q3, q4, q5, e4, s4, k4, hP, hL, l4, ho⟩ := pl_loop (n := n) hc hsc (rngD 0 v3.toNat) (b + 12) [] [1] true S3 none none none none none none s3 (by rw [lr]; omega) .nil (fun x hx => by simp at hx) (by rw [lr]; simp; omega) ⟨fun _ x hx => by simp at hx, fun _ => rfl⟩
  rw [lr] at s4
  obtain ⟨m, rfl, lm, last0, hHS, hp33⟩ := hP.all hL l4
  have hw700 := scale_sm (n := 700) hsc hp33 (by omega)
  obtain ⟨O1, O2⟩ := outF_iff m.length m rfl
  have hsb := hP.sb
  -- told
  obtain ⟨V5, f5, e5, l5, g5, fr5⟩ := r_out_row hc (by omega) hHS hw700 last0 S4
  generalize hOd : outF m.length (1 :: m) = od at *
  have lod : od.length ≤ 9 := by
    rw [← hOd]
    have : ∀ (n : Nat) (l : List Rat), (outF n l).length ≤ n := by
      intro n
      induction n with
      | zero => intro l; simp [outF]
      | succ n ih =>
        intro l
        simp only [outF, List.length_cons]
        split
        · have := ih (stepl (l.getLastD 0) l); omega
        · simp
    have := this m.length (1 :: m)
    omega
  have hod : ∀ k ∈ od, Sm 600 k := by
    rw [← hOd]
    have : ∀ (n : Nat) (m : List Rat), m.length = n → HS (1 :: m) → ∀ k ∈ outF n (1 :: m), Sm 600 k := by
      intro n
      induction n with
      | zero => intro m _ _ k hk; simp [outF] at hk
      | succ n ih =>
        intro m hm hs k hk
        obtain ⟨m', z, rfl⟩ : ∃ m' z, m = m' ++ [z] := ⟨m.dropLast, m.getLast (by intro z; subst z; simp at hm), (List.dropLast_concat_getLast _).symm⟩
        simp only [outF, last_app] at hk
        rcases List.mem_cons.mp hk with rfl | hk
        · exact hs.here ⟨_, rfl⟩ _ (by simp)
        · split at hk
          · rename_i hz
            have hz1 : z * z ≠ 1 := by grind
            obtain ⟨m2, q1, q2⟩ := stepl_head (m := m') hz1
            have hs2 := hs.next hz1
            rw [q1] at hs2 hk
            exact ih m2 (by rw [q2]; simpa using hm) hs2 k hk
          · simp at hk
    exact this m.length m rfl hHS
  have rp := rp_pl hod (by omega)
  -- kept
  have eK : gList [.o f5] V5 = some (.o V5.length, V5 ++ [Cell.lst ((plD od).map W.d)]) := by
    unfold gList
    simp only [Rd.seq (.inl g5)]
  have hf5 := (List.getElem?_eq_some_iff.mp g5).1
  have g6 : (V5 ++ [Cell.lst ((plD od).map W.d)])[f5]? = some (.lst ((plD od).map W.d)) := by rw [List.getElem?_append_left hf5]; exact g5
  have eA := app_at (.tuple [.int 7, .int 1]) g6 (by rw [plD_len]; omega)
  have eH := hpl_at g6
  generalize hV6 : (V5 ++ [Cell.lst ((plD od).map W.d)]).set f5 (.lst ((plD od ++ [PyData.tuple [.int 7, .int 1]]).map W.d)) = V6 at eA
  have l6 : V6.length = V5.length + 1 := by rw [← hV6]; simp
  have gk6 : V6[V5.length]? = some (.lst ((plD od).map W.d)) := by rw [← hV6, List.getElem?_set_ne (by omega), get_len_app]
  have fr6 : Fr S4.length S4 V6 := by rw [← hV6]; exact (fr5.app (Nat.le_refl _) _).set l5 _
  have rk := repr_o rp (by decide) (by decide) gk6
  obtain ⟨V7, f7, e7, l7, g7, fr7⟩ := r_law_row hc (by omega) hHS hw700 V6
  rw [hOd] at g7
  have rl := repr_o rp (by decide) (by decide) g7
  have q1 := ne_str rp.ok V7
  obtain ⟨V8, f8, e8, l8, g8, fr8⟩ := r_out_row hc (by omega) hHS hw700 last0 V7
  rw [hOd] at g8
  have gk8 : V8[V5.length]? = some (.lst ((plD od).map W.d)) := by rw [fr8.at_ _ (by have := fr7.le; omega), fr7.at_ _ (by omega)]; exact gk6
  have q2 := ne_lists g8 gk8 (pl_pl od) (by decide)
  have fr8' : Fr S4.length S4 V8 := (fr6.trans (fr7.weak fr6.le)).trans (fr8.weak (Nat.le_trans fr6.le fr7.le))
  -- told_out
  obtain ⟨i1, i2⟩ := Rd.items (.inl gk8 : Rd V8 V5.length (plD od))
  have l9 : (V8.set V5.length (.fz (.list (plD od)))).length = V8.length := by simp
  have hlen8 : V5.length < V8.length := (List.getElem?_eq_some_iff.mp gk8).1
  generalize hV9 : V8.set V5.length (.fz (.list (plD od))) = V9 at i1 i2 l9
  have fr9 : Fr S4.length S4 V9 := by rw [← hV9]; exact fr8'.set (by have := fr5.le; omega) _
  have eI : ∀ a0 a1 a2 a3 a4 a5 a7 a8, fIt (fVar 6) [a0, a1, a2, a3, a4, a5, some (.o V5.length), a7, a8] V8 = .ok (od.map fr) V9 := fun a0 a1 a2 a3 a4 a5 a7 a8 => by
    rw [it_ev]
    simp only [ev_var, List.getElem?_cons_zero, List.getElem?_cons_succ, bind_ok, i1, ofO_some]
    rfl
  obtain ⟨V10, e10, fr10, l10, g10⟩ := ot_list (l := od) (by omega) (eI (some (.o n)) (some (.d (.tuple (plD ((1 :: m).map fun a => c0 * a))))) (some (.d (.bool o))) q3 q4 q5 (some (.o V5.length)) none)
  have eN10 : ∀ ρ : Slt, fLst fNil ρ V10 = .ok (.o V10.length) (V10 ++ [Cell.lst []]) := fun ρ => rfl
  have q3e := eqn_nil g10
  have hb1 : decide ((od.filter fun k => decide (¬ k * k < 1)) = []) = o := by
    have h1 : (od.filter fun k => decide (¬ k * k < 1)) = [] ↔ o = true := by rw [filt_nil, O1, hsb, ho]
    cases o with
    | true => exact decide_eq_true (h1.mpr rfl)
    | false => exact decide_eq_false (fun z => by have := h1.mp z; cases this)
  rw [hb1] at q3e
  have fr11 : Fr S4.length S4 (V10 ++ [Cell.lst []]) := (fr9.trans (fr10.weak fr9.le)).app (Nat.le_refl _) _
  have rd11 : Rd (V10 ++ [Cell.lst []]) V5.length (plD od) := (i2.keep (fr10.at_ _ (by omega))).app _
  have q4e := ne_bool2 o (V10 ++ [Cell.lst []])
  have hlen : o = true → (((plD od).length : Nat) : Int) = (((plD ((1 :: m).map fun a => c0 * a)).length : Nat) : Int) - 1 := fun h1 => by
    have h2 := O2 (hsb.mpr (ho.mp h1))
    rw [plD_len, plD_len, List.length_map, List.length_cons, h2]
    omega
  have s11 : StA n (b + 124) (V10 ++ [Cell.lst []]) := by
    have := s4.fr' fr11
    obtain ⟨l, c, tt, z1, z2, z3⟩ := this
    exact ⟨l, c, tt, z1, z2, by omega⟩
  have kAll : Kp n S (V10 ++ [Cell.lst []]) := ((((kA.trans k1).trans k2).trans k3).trans k4).trans (Kp.fr fr11)
  unfold plB at e4
  have eT' := eT _ rfl
  unfold otF at e10
  have hO : ∀ (ρ : Slt) (V : Sto) (h : ρ[2]? = some (some (.d (.bool o)))), fVar 2 ρ V = .ok (.d (.bool o)) V := fun ρ V h => by rw [ev_var, h]
  have hmap : ∀ k ∈ od.dropLast, k * k < 1 := by rw [← hOd]; exact outF_last m.length (1 :: m)
  generalize hw1 : ([1].map fun a => c0 * a) = w1 at eT' e4
  generalize hw : ((1 :: m).map fun a => c0 * a) = w at e4 e5 e7 e8 e10 hlen
  have eT7 : ∀ (ρ : Slt) (V : Sto), fTup (fCons (fC (.d (.int 7))) (fCons (fC (.d (.int 1))) fNil)) ρ V = .ok (.d (.tuple [.int 7, .int 1])) V := fun ρ V => rfl
  cases ho' : o with
  | true =>
    rw [ho'] at e4 e10 q3e q4e hlen
    have e11 := hlen rfl
    refine ⟨V10 ++ [Cell.lst []], ?_, s11, kAll⟩
    unfold R__law_right runB B__law_right
    simp only [startR, List.map_cons, List.map_nil, List.length_cons, List.length_nil, Nat.zero_add, Nat.reduceAdd, Nat.reduceSub, List.replicate, List.cons_append, List.nil_append, st_seq, st_set, st_ret, st_if, st_exp, st_par, st_skip, ev_call, ev_cons, ev_nil, ev_var, ev_c, ev_op2, ev_tru, ev_or, ev_and, ev_not, List.getElem?_cons_zero, List.getElem?_cons_succ, bind_ok, ofO_some, if_true, ofD_nil, List.append_nil, fl_ok, List.set_cons_zero, List.set_cons_succ, truth_b, Option.map_some, Bool.not_true, Bool.not_false, Bool.false_eq_true, if_false, eT', st_for, eR, e4, e5, ev_list, eK, ev_mt, eH, Option.isSome_some, eT7, eA, ev_repr, rk, e7, rl, q1, e8, q2, e10, eN10, q3e, q4e, ev_len, rd11.len, len_tup, sub_int, ne_int, e11, decide_true]
    rfl
  | false =>
    rw [ho'] at e4 e10 q3e q4e hlen
    have eS : gSl (.o V5.length) none (some (-1)) (V10 ++ [Cell.lst []]) = some (.o (V10 ++ [Cell.lst []]).length, V10 ++ [Cell.lst []] ++ [Cell.lst ((plD od.dropLast).map W.d)]) := by
      show (match lstOf (.o V5.length) (V10 ++ [Cell.lst []]) with | some ws => some (W.o (V10 ++ [Cell.lst []]).length, V10 ++ [Cell.lst []] ++ [Cell.lst (cutW ws none (some (-1)))]) | none => none) = _
      rw [Rd.lst rd11]
      simp only [cut_last]
      congr 3
      simp only [plD, List.map_dropLast]
    generalize hV11 : V10 ++ [Cell.lst []] = V11 at *
    have r12 : Rd (V11 ++ [Cell.lst ((plD od.dropLast).map W.d)]) V11.length (plD od.dropLast) := .inl (get_len_app _ _ _)
    obtain ⟨i3, i4⟩ := r12.items
    have fr12 : Fr S4.length S4 ((V11 ++ [Cell.lst ((plD od.dropLast).map W.d)]).set V11.length (.fz (.list (plD od.dropLast)))) := (fr11.app (Nat.le_refl _) _).set fr11.le _
    generalize hV12 : (V11 ++ [Cell.lst ((plD od.dropLast).map W.d)]).set V11.length (.fz (.list (plD od.dropLast))) = V12 at i3 fr12
    have eP : ∀ (ρ : Slt) (W : Sto), fPart (fNeg (fC (.d (.int 1)))) ρ W = .ok (some (-1)) W := fun ρ W => rfl
    have eI2 : fIt (fSl (fVar 6) fNoP (fPart (fNeg (fC (.d (.int 1)))))) [some (.o n), some (.d (.tuple (plD w))), some (.d (.bool false)), q3, q4, q5, some (.o V5.length), some (.o V5.length), some (.d (.bool false))] V11 = .ok (od.dropLast.map fr) V12 := by
      rw [it_ev, ev_sl]
      simp only [ev_var, List.getElem?_cons_zero, List.getElem?_cons_succ, bind_ok, noP, eP, eS, ofO_some, i3]
      rfl
    obtain ⟨V13, e13, fr13, l13, g13⟩ := ot_list (l := od.dropLast) (by simp; omega) eI2
    unfold otF at e13
    have eN13 : ∀ ρ : Slt, fLst fNil ρ V13 = .ok (.o V13.length) (V13 ++ [Cell.lst []]) := fun ρ => rfl
    have q5e := eqn_nil g13
    rw [decide_eq_true ((filt_nil _).mpr hmap)] at q5e
    have fr14 : Fr S4.length S4 (V13 ++ [Cell.lst []]) := (fr12.trans (fr13.weak fr12.le)).app (Nat.le_refl _) _
    refine ⟨V13 ++ [Cell.lst []], ?_, ?_, ((((kA.trans k1).trans k2).trans k3).trans k4).trans (Kp.fr fr14)⟩
    · unfold R__law_right runB B__law_right
      simp only [startR, List.map_cons, List.map_nil, List.length_cons, List.length_nil, Nat.zero_add, Nat.reduceAdd, Nat.reduceSub, List.replicate, List.cons_append, List.nil_append, st_seq, st_set, st_ret, st_if, st_exp, st_par, st_skip, ev_call, ev_cons, ev_nil, ev_var, ev_c, ev_op2, ev_tru, ev_or, ev_and, ev_not, List.getElem?_cons_zero, List.getElem?_cons_succ, bind_ok, ofO_some, if_true, ofD_nil, List.append_nil, fl_ok, List.set_cons_zero, List.set_cons_succ, truth_b, Option.map_some, Bool.not_true, Bool.not_false, Bool.false_eq_true, if_false, eT', st_for, eR, e4, e5, ev_list, eK, ev_mt, eH, Option.isSome_some, eT7, eA, ev_repr, rk, e7, rl, q1, e8, q2, e10, eN10, q3e, q4e]
      rw [orE_b (b := false) (S1 := V11) (by simp only [ev_var, List.getElem?_cons_zero, List.getElem?_cons_succ])]
      simp only [startR, List.map_cons, List.map_nil, List.length_cons, List.length_nil, Nat.zero_add, Nat.reduceAdd, Nat.reduceSub, List.replicate, List.cons_append, List.nil_append, st_seq, st_set, st_ret, st_if, st_exp, st_par, st_skip, ev_call, ev_cons, ev_nil, ev_var, ev_c, ev_op2, ev_tru, ev_or, ev_and, ev_not, List.getElem?_cons_zero, List.getElem?_cons_succ, bind_ok, ofO_some, if_true, ofD_nil, List.append_nil, fl_ok, List.set_cons_zero, List.set_cons_succ, truth_b, Option.map_some, Bool.not_true, Bool.not_false, Bool.false_eq_true, if_false, e13, eN13, q5e]
    · have := s4.fr' fr14
      obtain ⟨l, c, tt, z1, z2, z3⟩ := this
      exact ⟨l, c, tt, z1, z2, by omega⟩
end G
set_option Elab.async false
set_option linter.all false
set_option maxRecDepth 100000
set_option maxHeartbeats 4000000
/-! S19: the law -/
namespace G
open PySem PySem.Spec L2 PyProof.Rows
set_option autoImplicit false
noncomputable def l3B : Fs := (fIf (fNot (fTru (fCall 1 [] R__law_right (fCons (fVar 3) fNil)))) (fRet (fC (.d (.bool false)))) fSkip)
noncomputable def lcB : Fs := (fSeq (fSet 3 (fCall 2 [] R__law_draw (fCons (fVar 2) (fCons (fVar 1) fNil))))
  (fFor (fR1 (fCons (fC (.d (.int 3))) fNil)) (gNm 4) l3B))
theorem l3_loop {n : Nat} {a0 a1 a2 a5 a6 : Option W} : ∀ (ds : List PyData) (b : Nat) (S : Sto) (j4 : Option W), StA n b S → b + 124 * ds.length ≤ 2 ^ 40 → ∃ k4 S', forD (gNm 4) l3B ds [a0, a1, a2, some (.o n), j4, a5, a6] S = .nx [a0, a1, a2, some (.o n), k4, a5, a6] S'
  | [], b, S, j4, h, hb => ⟨j4, S, rfl⟩
  | d :: ds, b, S, j4, h, hb => by
    simp only [List.length_cons] at hb
    obtain ⟨S1, e1, s1, _⟩ := r_right h (by omega)
    obtain ⟨k4, S2, e2⟩ := l3_loop (n := n) (a0 := a0) (a1 := a1) (a2 := a2) (a5 := a5) (a6 := a6) ds (b + 124) S1 (some (.d d)) s1 (by omega)
    refine ⟨k4, S2, ?_⟩
    rw [forD_cons]
    have eb : l3B [a0, a1, a2, some (.o n), some (.d d), a5, a6] S = .nx [a0, a1, a2, some (.o n), some (.d d), a5, a6] S1 := by
      unfold l3B
      simp only [startR, List.map_cons, List.map_nil, List.length_cons, List.length_nil, Nat.zero_add, Nat.reduceAdd, Nat.reduceSub, List.replicate, List.cons_append, List.nil_append, st_seq, st_set, st_ret, st_if, st_exp, st_par, st_skip, ev_call, ev_cons, ev_nil, ev_var, ev_c, ev_op2, ev_tru, ev_or, ev_and, ev_not, List.getElem?_cons_zero, List.getElem?_cons_succ, bind_ok, ofO_some, if_true, ofD_nil, List.append_nil, fl_ok, List.set_cons_zero, List.set_cons_succ, truth_b, Option.map_some, Bool.not_true, Bool.not_false, Bool.false_eq_true, if_false, e1]
    simp only [gt_nm, List.set_cons_zero, List.set_cons_succ, eb]
    exact e2
theorem lc_turn (i cell : Int) (ρ : Slt) (S : Sto) (h0 : 0 ≤ i) (h1 : i ≤ 1000) (hl : ρ.length = 7) : ∃ ρ' S', lcB ((ρ.set 1 (some (.d (.int i)))).set 2 (some (.d (.int cell)))) S = .nx ρ' S' ∧ ρ'.length = 7 := by
  match ρ, hl with
  | [a0, a1, a2, a3, a4, a5, a6], _ =>
    obtain ⟨l, e1⟩ := r_draw cell i h0 h1 S
    have s1 : StA S.length (1000000) (S ++ [stC l cell (1000 * i)]) := ⟨l, cell, 1000 * i, get_len_app _ _ _, by omega, by omega⟩
    obtain ⟨k4, S', e2⟩ := l3_loop (n := S.length) (a0 := a0) (a1 := some (.d (.int i))) (a2 := some (.d (.int cell))) (a5 := a5) (a6 := a6) (rngD 0 3) 1000000 (S ++ [stC l cell (1000 * i)]) a4 s1 (by simp [rngD])
    have er : ∀ (ρ : Slt) (V : Sto), fR1 (fCons (fC (.d (.int 3))) fNil) ρ V = .ok (rngD 0 3) V := fun ρ V => r1_ev _ _ V V 3 rfl (by decide)
    refine ⟨[a0, some (.d (.int i)), some (.d (.int cell)), some (.o S.length), k4, a5, a6], S', ?_, rfl⟩
    unfold lcB
    simp only [startR, List.map_cons, List.map_nil, List.length_cons, List.length_nil, Nat.zero_add, Nat.reduceAdd, Nat.reduceSub, List.replicate, List.cons_append, List.nil_append, st_seq, st_set, st_ret, st_if, st_exp, st_par, st_skip, ev_call, ev_cons, ev_nil, ev_var, ev_c, ev_op2, ev_tru, ev_or, ev_and, ev_not, List.getElem?_cons_zero, List.getElem?_cons_succ, bind_ok, ofO_some, if_true, ofD_nil, List.append_nil, fl_ok, List.set_cons_zero, List.set_cons_succ, truth_b, Option.map_some, Bool.not_true, Bool.not_false, Bool.false_eq_true, if_false, e1, st_for, er, e2]
/-! ### by hand -/
theorem sml_half : Sml (1 / 2) := ⟨1, 2, by decide, by decide, by decide, by decide +kernel⟩
theorem sml_0 : Sml 0 := ⟨0, 1, by decide, by decide, by decide, by decide +kernel⟩
theorem sml_m1 : Sml (-1) := ⟨-1, 1, by decide, by decide, by decide, by decide +kernel⟩
theorem by_hand {L : List (Rat × Rat)} {p : List Rat} (hP : Prd L p) (hL : ∀ x ∈ L, Sml x.1 ∧ Sml x.2) (h4 : L.length ≤ 4) {c : Rat} (hc : c ≠ 0) (hs : Sm 4 c) (S : Sto) :
    ∃ V' f, R_out_row [.d (.tuple (plD (p.map fun a => c * a)))] S = .ok (.o f) V' ∧ S.length ≤ f ∧ V'[f]? = some (.lst ((plD (outF (p.length - 1) p)).map W.d)) ∧ Fr S.length S V' := by
  obtain ⟨m, rfl, lm, last0, hHS, hp33⟩ := hP.all hL h4
  exact r_out_row hc (by omega) hHS (scale_sm hs hp33 (by omega)) last0 S
/-- three lists, open, in one -/
theorem view3 {S : Sto} {x a b c : Nat} {d1 d2 d3 : List PyData} (hx : S[x]? = some (.lst [.o a, .o b, .o c])) (ha : S[a]? = some (.lst (d1.map W.d))) (hb : S[b]? = some (.lst (d2.map W.d))) (hc : S[c]? = some (.lst (d3.map W.d))) (hab : a ≠ b) (hac : a ≠ c) (hbc : b ≠ c) : view (.o x) S = some (.list [.list d1, .list d2, .list d3]) := by
  have fz : ∀ (V : Sto) (q : Nat) (ds : List PyData), V[q]? = some (.lst (ds.map W.d)) → frz 5 (.o q) V = some (.list ds, V.set q (.fz (.list ds))) := by
    intro V q ds h
    unfold frz
    simp only [h, frzL_ds]
  have e1 := fz S a d1 ha
  have e2 := fz (S.set a (.fz (.list d1))) b d2 (by rw [List.getElem?_set_ne hab]; exact hb)
  have e3 := fz ((S.set a (.fz (.list d1))).set b (.fz (.list d2))) c d3 (by rw [List.getElem?_set_ne hbc, List.getElem?_set_ne hac]; exact hc)
  have eL : frzL (frz 5) [.o a, .o b, .o c] S = some ([.list d1, .list d2, .list d3], ((S.set a (.fz (.list d1))).set b (.fz (.list d2))).set c (.fz (.list d3))) := by
    unfold frzL frzL frzL frzL
    simp only [e1, e2, e3]
  unfold view
  have : frz 6 (.o x) S = some (.list [.list d1, .list d2, .list d3], (((S.set a (.fz (.list d1))).set b (.fz (.list d2))).set c (.fz (.list d3))).set x (.fz (.list [.list d1, .list d2, .list d3]))) := by
    show (match S[x]? with | some (.fz y) => some (y, S) | some (.lst ws) => (match frzL (frz 5) ws S with | some (ds, S1) => some (PyData.list ds, S1.set x (.fz (.list ds))) | none => none) | _ => none) = _
    rw [hx]
    simp only [eL]
  rw [this]
  rfl
theorem fr_half : fr (1 / 2) = .tuple [.int 1, .int 2] := by
  have h1 : (1 / 2 : Rat).num = 1 := by decide +kernel
  have h2 : (1 / 2 : Rat).den = 2 := by decide +kernel
  unfold fr
  rw [h1, h2]
  rfl
theorem hz3 (x y z : W) : szOk [x, y, z].length = true := by
  unfold szOk
  simp
theorem fr_third : fr (1 / 3) = .tuple [.int 1, .int 3] := by
  have h1 : (1 / 3 : Rat).num = 1 := by decide +kernel
  have h2 : (1 / 3 : Rat).den = 3 := by decide +kernel
  unfold fr
  rw [h1, h2]
  rfl
theorem one_map (p : List Rat) : (p.map fun a => 1 * a) = p := by
  have : (fun a : Rat => 1 * a) = id := by funext a; simp only [id]; grind
  rw [this, List.map_id]
theorem law_true (ns : List Int) (h : ns.length ≤ 63) : ∃ S', R_law [.d (.list (ns.map PyData.int))] [] = .ok (.d (.bool true)) S' := by
  obtain ⟨V, e1⟩ := cells_sum 2 ns h (ρ := [some (.d (.list (ns.map PyData.int))), none, none, none, none, none, none]) rfl
  obtain ⟨ρ1, S1, e2, hl⟩ := cells_loop (b := lcB) (N := 7) lc_turn (ns.take 2 ++ [ns.sum]) (by simp; omega) (ρ := [some (.d (.list (ns.map PyData.int))), none, none, none, none, none, none]) rfl V
  obtain ⟨b0, b1, b2, b3, b4, b5, b6, rfl⟩ : ∃ b0 b1 b2 b3 b4 b5 b6, ρ1 = [b0, b1, b2, b3, b4, b5, b6] := by
    match ρ1, hl with
    | [b0, b1, b2, b3, b4, b5, b6], _ => exact ⟨_, _, _, _, _, _, _, rfl⟩
  -- by hand
  have m1 : mulP (1 / 2) (1 / 2) [1] = [1, 1 / 2, 1 / 2] := by decide +kernel
  have m2 : mulP 0 (-1) [1] = [1, 0, -1] := by decide +kernel
  have P1 : Prd [(1 / 2, 1 / 2)] [1, 1 / 2, 1 / 2] := by rw [← m1]; exact .cons .nil
  have P2 : Prd [(0, -1)] [1, 0, -1] := by rw [← m2]; exact .cons .nil
  have sm2 : Sm 4 (2 : Rat) := ⟨by decide, by decide⟩
  have sm1 : Sm 4 (1 : Rat) := ⟨by decide, by decide⟩
  obtain ⟨V1, f1, c1, l1, g1, r1⟩ := by_hand P1 (fun x hx => by simp at hx; subst hx; exact ⟨sml_half, sml_half⟩) (by decide) (c := 1) (by decide) sm1 S1
  obtain ⟨V2, f2, c2, l2, g2, r2⟩ := by_hand .nil (fun x hx => by simp at hx) (by decide) (c := 2) (by decide) sm2 V1
  obtain ⟨V3, f3, c3, l3, g3, r3⟩ := by_hand P2 (fun x hx => by simp at hx; subst hx; exact ⟨sml_0, sml_m1⟩) (by decide) (c := 1) (by decide) sm1 V2
  rw [one_map] at c1 c3
  have o1 : outF ([(1 : Rat), 1 / 2, 1 / 2].length - 1) [1, 1 / 2, 1 / 2] = [1 / 2, 1 / 3] := by decide +kernel
  have o2 : outF ([(1 : Rat)].length - 1) [1] = [] := rfl
  have o3 : outF ([(1 : Rat), 0, -1].length - 1) [1, 0, -1] = [-1] := by decide +kernel
  rw [o1] at g1
  rw [o2] at g2
  rw [o3] at g3
  have t1 : plD [1, 1 / 2, 1 / 2] = [.tuple [.int 1, .int 1], .tuple [.int 1, .int 2], .tuple [.int 1, .int 2]] := by
    show [fr 1, fr (1 / 2), fr (1 / 2)] = _
    rw [fr_half]; rfl
  have t2 : plD ([1].map fun a => 2 * a) = [.tuple [.int 2, .int 1]] := by
    rw [show ([1].map fun a : Rat => 2 * a) = [2] by decide +kernel]
    rfl
  have t3 : plD [1, 0, -1] = [.tuple [.int 1, .int 1], .tuple [.int 0, .int 1], .tuple [.int (-1), .int 1]] := rfl
  have t4 : plD [1 / 2, 1 / 3] = [.tuple [.int 1, .int 2], .tuple [.int 1, .int 3]] := by
    show [fr (1 / 2), fr (1 / 3)] = _
    rw [fr_half, fr_third]
  have t5 : plD [-1] = [.tuple [.int (-1), .int 1]] := rfl
  rw [t1] at c1
  rw [t2] at c2
  rw [t3] at c3
  have hf1 := (List.getElem?_eq_some_iff.mp g1).1
  have hf2 := (List.getElem?_eq_some_iff.mp g2).1
  have hf3 := (List.getElem?_eq_some_iff.mp g3).1
  have n1 : V3[f1]? = some (.lst ((plD [1 / 2, 1 / 3]).map W.d)) := by rw [r3.at_ f1 (by have := r2.le; omega), r2.at_ f1 hf1]; exact g1
  have n2 : V3[f2]? = some (.lst ((plD []).map W.d)) := by rw [r3.at_ f2 hf2]; exact g2
  -- what is due
  let A : Cell := .lst ((plD [1 / 2, 1 / 3]).map W.d)
  let B : Cell := .lst []
  let C : Cell := .lst ((plD [-1]).map W.d)
  have x1 : ∀ ρ : Slt, fLst (fCons (fTup (fCons (fC (.d (.int 1))) (fCons (fC (.d (.int 2))) fNil))) (fCons (fTup (fCons (fC (.d (.int 1))) (fCons (fC (.d (.int 3))) fNil))) fNil)) ρ (V3 ++ [Cell.lst [.o f1, .o f2, .o f3]]) = .ok (.o (V3.length + 1)) (V3 ++ [Cell.lst [.o f1, .o f2, .o f3], A]) := fun ρ => by
    show Out.ok (W.o (V3 ++ [Cell.lst [.o f1, .o f2, .o f3]]).length) (V3 ++ [Cell.lst [.o f1, .o f2, .o f3]] ++ [Cell.lst [.d (.tuple [.int 1, .int 2]), .d (.tuple [.int 1, .int 3])]]) = _
    simp only [A, t4, List.append_assoc, List.length_append, List.length_singleton]
    rfl
  have x2 : ∀ ρ : Slt, fLst fNil ρ (V3 ++ [Cell.lst [.o f1, .o f2, .o f3], A]) = .ok (.o (V3.length + 2)) (V3 ++ [Cell.lst [.o f1, .o f2, .o f3], A, B]) := fun ρ => by
    show Out.ok (W.o (V3 ++ [Cell.lst [.o f1, .o f2, .o f3], A]).length) (V3 ++ [Cell.lst [.o f1, .o f2, .o f3], A] ++ [Cell.lst []]) = _
    simp only [B, List.append_assoc, List.length_append]
    rfl
  have x3 : ∀ ρ : Slt, fLst (fCons (fTup (fCons (fNeg (fC (.d (.int 1)))) (fCons (fC (.d (.int 1))) fNil))) fNil) ρ (V3 ++ [Cell.lst [.o f1, .o f2, .o f3], A, B]) = .ok (.o (V3.length + 3)) (V3 ++ [Cell.lst [.o f1, .o f2, .o f3], A, B, C]) := fun ρ => by
    show Out.ok (W.o (V3 ++ [Cell.lst [.o f1, .o f2, .o f3], A, B]).length) (V3 ++ [Cell.lst [.o f1, .o f2, .o f3], A, B] ++ [Cell.lst [.d (.tuple [.int (-1), .int 1])]]) = _
    simp only [C, t5, List.append_assoc, List.length_append]
    rfl
  have x4 : ∀ ρ : Slt, fLst (fCons (fLst (fCons (fTup (fCons (fC (.d (.int 1))) (fCons (fC (.d (.int 2))) fNil))) (fCons (fTup (fCons (fC (.d (.int 1))) (fCons (fC (.d (.int 3))) fNil))) fNil))) (fCons (fLst fNil) (fCons (fLst (fCons (fTup (fCons (fNeg (fC (.d (.int 1)))) (fCons (fC (.d (.int 1))) fNil))) fNil)) fNil))) ρ (V3 ++ [Cell.lst [.o f1, .o f2, .o f3]]) = .ok (.o (V3.length + 4)) (V3 ++ [Cell.lst [.o f1, .o f2, .o f3], A, B, C, Cell.lst [.o (V3.length + 1), .o (V3.length + 2), .o (V3.length + 3)]]) := fun ρ => by
    rw [show ∀ (F : Fe (List W)) (V : Sto), fLst F ρ V = (F ρ V).bind fun xs S1 => if szOk xs.length = true then .ok (.o S1.length) (S1 ++ [.lst xs]) else .bad from fun F V => rfl]
    simp only [ev_cons, ev_nil, x1, x2, x3, bind_ok]
    rw [if_pos (hz3 _ _ _)]
    simp only [List.append_assoc, List.length_append]
    rfl
  generalize hV9 : V3 ++ [Cell.lst [.o f1, .o f2, .o f3], A, B, C, Cell.lst [.o (V3.length + 1), .o (V3.length + 2), .o (V3.length + 3)]] = V9 at x4
  have at9 : ∀ i, i < V3.length → V9[i]? = V3[i]? := fun i hi => by rw [← hV9, List.getElem?_append_left hi]
  have v1 : view (.o V3.length) V9 = some (.list [.list (plD [1 / 2, 1 / 3]), .list (plD []), .list (plD [-1])]) := by
    have a3 := r3.le
    have a2 := r2.le
    refine view3 (a := f1) (b := f2) (c := f3) ?_ (by rw [at9 _ (by omega)]; exact n1) (by rw [at9 _ (by omega)]; exact n2) (by rw [at9 _ hf3]; exact g3) (by omega) (by omega) (by omega)
    rw [← hV9, List.getElem?_append_right (Nat.le_refl _), Nat.sub_self]
    rfl
  have v2 : view (.o (V3.length + 4)) V9 = some (.list [.list (plD [1 / 2, 1 / 3]), .list (plD []), .list (plD [-1])]) := by
    refine view3 (a := V3.length + 1) (b := V3.length + 2) (c := V3.length + 3) ?_ ?_ ?_ ?_ (by omega) (by omega) (by omega) <;>
      (rw [← hV9, List.getElem?_append_right (by omega), Nat.add_sub_cancel_left]; rfl)
  have hp : Pl 3 (.list [.list (plD [1 / 2, 1 / 3]), .list (plD []), .list (plD [-1])]) := pl_lst fun x hx => by
    simp only [List.mem_cons, List.not_mem_nil, or_false] at hx
    rcases hx with rfl | rfl | rfl <;> exact pl_lst (pl_pl _)
  have eq9 : dEq false (.o V3.length) (.o (V3.length + 4)) V9 = some (.d (.bool true), V9) := by
    unfold dEq
    rw [v1, v2]
    simp only []
    rw [if_pos (by rw [hp.shp (by decide)]; rfl), hp.ref]
    rfl
  have y1 : ∀ (ρ : Slt) (V : Sto), fTup (fCons (fTup (fCons (fC (.d (.int 1))) (fCons (fC (.d (.int 1))) fNil))) (fCons (fTup (fCons (fC (.d (.int 1))) (fCons (fC (.d (.int 2))) fNil))) (fCons (fTup (fCons (fC (.d (.int 1))) (fCons (fC (.d (.int 2))) fNil))) fNil))) ρ V = .ok (.d (.tuple [.tuple [.int 1, .int 1], .tuple [.int 1, .int 2], .tuple [.int 1, .int 2]])) V := fun ρ V => rfl
  have y2 : ∀ (ρ : Slt) (V : Sto), fTup (fCons (fTup (fCons (fC (.d (.int 2))) (fCons (fC (.d (.int 1))) fNil))) fNil) ρ V = .ok (.d (.tuple [.tuple [.int 2, .int 1]])) V := fun ρ V => rfl
  have y3 : ∀ (ρ : Slt) (V : Sto), fTup (fCons (fTup (fCons (fC (.d (.int 1))) (fCons (fC (.d (.int 1))) fNil))) (fCons (fTup (fCons (fC (.d (.int 0))) (fCons (fC (.d (.int 1))) fNil))) (fCons (fTup (fCons (fNeg (fC (.d (.int 1)))) (fCons (fC (.d (.int 1))) fNil))) fNil))) ρ V = .ok (.d (.tuple [.tuple [.int 1, .int 1], .tuple [.int 0, .int 1], .tuple [.int (-1), .int 1]])) V := fun ρ V => rfl
  have z1 : ∀ ρ : Slt, ρ[5]? = some (some (.d (.tuple [.tuple [.int 1, .int 1], .tuple [.int 1, .int 2], .tuple [.int 1, .int 2]]))) → fLst (fCons (fCall 1 [] R_out_row (fCons (fVar 5) fNil)) (fCons (fCall 1 [] R_out_row (fCons (fTup (fCons (fTup (fCons (fC (.d (.int 2))) (fCons (fC (.d (.int 1))) fNil))) fNil)) fNil)) (fCons (fCall 1 [] R_out_row (fCons (fTup (fCons (fTup (fCons (fC (.d (.int 1))) (fCons (fC (.d (.int 1))) fNil))) (fCons (fTup (fCons (fC (.d (.int 0))) (fCons (fC (.d (.int 1))) fNil))) (fCons (fTup (fCons (fNeg (fC (.d (.int 1)))) (fCons (fC (.d (.int 1))) fNil))) fNil)))) fNil)) fNil))) ρ S1 = .ok (.o V3.length) (V3 ++ [Cell.lst [.o f1, .o f2, .o f3]]) := fun ρ h5 => by
    rw [show ∀ (F : Fe (List W)) (V : Sto), fLst F ρ V = (F ρ V).bind fun xs S1 => if szOk xs.length = true then .ok (.o S1.length) (S1 ++ [.lst xs]) else .bad from fun F V => rfl]
    simp only [ev_cons, ev_nil, ev_call, ev_var, h5, bind_ok, y2, y3, List.length_cons, List.length_nil, Nat.zero_add, Nat.reduceAdd, if_true, ofD_nil, List.append_nil, c1, c2, c3]
    rfl
  refine ⟨V9, ?_⟩
  unfold lcB l3B at e2
  unfold csE at e1
  have e1' : fEn (fCons (fOp2 gAdd (fSl (fVar 0) fNoP (fPart (fC (.d (.int 2))))) (fLst (fCons (fCB gSum (fCons (fVar 0) fNil)) fNil))) fNil) [some (.d (.list (ns.map PyData.int))), none, none, none, none, none, none] [] = .ok (enumD ((ns.take 2 ++ [ns.sum]).map PyData.int)) V := e1
  unfold R_law runB B_law
  simp only [startR, List.map_cons, List.map_nil, List.length_cons, List.length_nil, Nat.zero_add, Nat.reduceAdd, Nat.reduceSub, List.replicate, List.cons_append, List.nil_append]
  rw [st_seq, st_for, e1', fl_ok, e2]
  simp only []
  rw [st_seq, st_set, y1, fl_ok]
  simp only [List.set_cons_zero, List.set_cons_succ]
  rw [st_seq, st_set, z1 _ rfl, fl_ok]
  simp only [List.set_cons_zero, List.set_cons_succ]
  simp only [st_ret, ev_op2, ev_var, List.getElem?_cons_zero, List.getElem?_cons_succ, bind_ok, x4, eq9, ofO_some, fl_ok]
end G
set_option Elab.async false
set_option linter.all false
set_option maxRecDepth 100000
set_option maxHeartbeats 4000000
namespace G
open PySem PySem.Spec L2 PyProof.Rows
set_option autoImplicit false
structure Txt (Γ : Gm) (K : PySem.W.Frag) (mg : Str → Option Value) : Prop where
  z_abs : mg "abs" = none
  z_bool : mg "bool" = none
  z_enumerate : mg "enumerate" = none
  z_int : mg "int" = none
  z_isinstance : mg "isinstance" = none
  z_len : mg "len" = none
  z_list : mg "list" = none
  z_range : mg "range" = none
  z_repr : mg "repr" = none
  z_sum : mg "sum" = none
  z_tuple : mg "tuple" = none
  z_zip : mg "zip" = none
  c_ONE : GlD K mg "ONE" (.tuple [.int 1, .int 1])
section
variable {Γ : Gm} {P : Program} {wd : World} {K : PySem.W.Frag} {mg : Str → Option Value} {base : Heap}
theorem sc_is_whole : FnScope ["thing"] ["thing"] (defScope s_is_whole) := ⟨rfl, rfl, rfl, by decide +kernel, rfl, by decide +kernel, by decide +kernel⟩
theorem fo_is_whole (T : Txt Γ K mg)  {f : Addr} {fd : FuncData} (F : FunD K "is_whole" "is_whole" (defArgs s_is_whole) (defBody s_is_whole) (defScope s_is_whole) [] [] f fd) : FnOk P wd K mg base (L2.CX P wd) 1 f fd ["thing"] (spOf Γ K 1 R_is_whole) := by
  have S := sc_is_whole
  refine fn_rule F sc_is_whole fun cdv A outer s H E hr => ?_
  have tk : Takes (cxOf (L2.CX P wd) P wd K mg base ["thing"] "is_whole" (defScope s_is_whole) f cdv A outer s H E) (fun c d _ H => E c d H) := takes_of rfl rfl rfl rfl
  have rm : Rm (cxOf (L2.CX P wd) P wd K mg base ["thing"] "is_whole" (defScope s_is_whole) f cdv A outer s H E) := rm_of hr
  exact (vb_one (vs_ret (ve_and (bi_int T.z_isinstance T.z_int (ve_var 0)) (ve_one (ve_not (bi_bool T.z_isinstance T.z_bool (ve_var 0)))))))
theorem ok_is_whole (T : Txt Γ K mg)  {f : Addr} {fd : FuncData} (F : FunD K "is_whole" "is_whole" (defArgs s_is_whole) (defBody s_is_whole) (defScope s_is_whole) [] [] f fd) (hm : mg "is_whole" = some (.ref f)) : Cal Γ P wd K mg base 1 "is_whole" 1 [] R_is_whole :=
  Cal.of F hm rfl (fun _ _ _ _ _ _ us hl => match us, hl with | [_], _ => rfl) (fo_is_whole T  F)
theorem sc_common : FnScope ["one", "other"] ["one", "other"] (defScope s_common) := ⟨rfl, rfl, rfl, by decide +kernel, rfl, by decide +kernel, by decide +kernel⟩
theorem fo_common (T : Txt Γ K mg)  {f : Addr} {fd : FuncData} (F : FunD K "common" "common" (defArgs s_common) (defBody s_common) (defScope s_common) [] [] f fd) : FnOk P wd K mg base (L2.CX P wd) 1 f fd ["one", "other"] (spOf Γ K 2 R_common) := by
  have S := sc_common
  refine fn_rule F sc_common fun cdv A outer s H E hr => ?_
  have tk : Takes (cxOf (L2.CX P wd) P wd K mg base ["one", "other"] "common" (defScope s_common) f cdv A outer s H E) (fun c d _ H => E c d H) := takes_of rfl rfl rfl rfl
  have rm : Rm (cxOf (L2.CX P wd) P wd K mg base ["one", "other"] "common" (defScope s_common) f cdv A outer s H E) := rm_of hr
  exact (vb_cons (vs_par 0 1 (va_cons (bc_abs T.z_abs  (va_cons (ve_var 0) va_nil)) (va_cons (bc_abs T.z_abs  (va_cons (ve_var 1) va_nil)) va_nil)) S.nd (by rfl))
    (vb_cons (vs_while PassesOwn.leaving (vt_ne rm (ve_var 1) ve_int) (vb_one (vs_par 0 1 (va_cons (ve_var 1) (va_cons (ve_md (ve_var 0) (ve_var 1)) va_nil)) S.nd (by rfl))))
    (vb_one (vs_ret (ve_var 0)))))
theorem ok_common (T : Txt Γ K mg)  {f : Addr} {fd : FuncData} (F : FunD K "common" "common" (defArgs s_common) (defBody s_common) (defScope s_common) [] [] f fd) (hm : mg "common" = some (.ref f)) : Cal Γ P wd K mg base 1 "common" 2 [] R_common :=
  Cal.of F hm rfl (fun _ _ _ _ _ _ us hl => match us, hl with | [_, _], _ => rfl) (fo_common T  F)
theorem sc_is_nought : FnScope ["one"] ["one"] (defScope s_is_nought) := ⟨rfl, rfl, rfl, by decide +kernel, rfl, by decide +kernel, by decide +kernel⟩
theorem fo_is_nought (T : Txt Γ K mg)  {f : Addr} {fd : FuncData} (F : FunD K "is_nought" "is_nought" (defArgs s_is_nought) (defBody s_is_nought) (defScope s_is_nought) [] [] f fd) : FnOk P wd K mg base (L2.CX P wd) 1 f fd ["one"] (spOf Γ K 1 R_is_nought) := by
  have S := sc_is_nought
  refine fn_rule F sc_is_nought fun cdv A outer s H E hr => ?_
  have tk : Takes (cxOf (L2.CX P wd) P wd K mg base ["one"] "is_nought" (defScope s_is_nought) f cdv A outer s H E) (fun c d _ H => E c d H) := takes_of rfl rfl rfl rfl
  have rm : Rm (cxOf (L2.CX P wd) P wd K mg base ["one"] "is_nought" (defScope s_is_nought) f cdv A outer s H E) := rm_of hr
  exact (vb_one (vs_ret (ve_eq rm (ve_ix (ve_var 0) ve_int) ve_int)))
theorem ok_is_nought (T : Txt Γ K mg)  {f : Addr} {fd : FuncData} (F : FunD K "is_nought" "is_nought" (defArgs s_is_nought) (defBody s_is_nought) (defScope s_is_nought) [] [] f fd) (hm : mg "is_nought" = some (.ref f)) : Cal Γ P wd K mg base 1 "is_nought" 1 [] R_is_nought :=
  Cal.of F hm rfl (fun _ _ _ _ _ _ us hl => match us, hl with | [_], _ => rfl) (fo_is_nought T  F)
theorem sc__law_mixed : FnScope ["cell", "k", "mixed"] ["cell", "k"] (defScope s__law_mixed) := ⟨rfl, rfl, rfl, by decide +kernel, rfl, by decide +kernel, by decide +kernel⟩
theorem fo__law_mixed (T : Txt Γ K mg)  {f : Addr} {fd : FuncData} (F : FunD K "_law_mixed" "_law_mixed" (defArgs s__law_mixed) (defBody s__law_mixed) (defScope s__law_mixed) [] [] f fd) : FnOk P wd K mg base (L2.CX P wd) 1 f fd ["cell", "k"] (spOf Γ K 2 R__law_mixed) := by
  have S := sc__law_mixed
  refine fn_rule F sc__law_mixed fun cdv A outer s H E hr => ?_
  have tk : Takes (cxOf (L2.CX P wd) P wd K mg base ["cell", "k", "mixed"] "_law_mixed" (defScope s__law_mixed) f cdv A outer s H E) (fun c d _ H => E c d H) := takes_of rfl rfl rfl rfl
  have rm : Rm (cxOf (L2.CX P wd) P wd K mg base ["cell", "k", "mixed"] "_law_mixed" (defScope s__law_mixed) f cdv A outer s H E) := rm_of hr
  exact (vb_cons (vs_set 2 (ve_add (ve_add (ve_md (ve_var 0) (ve_ix (ve_lst (va_cons ve_int (va_cons ve_int (va_cons ve_int (va_cons ve_int va_nil))))) (ve_md (ve_var 1) ve_int))) (ve_mul ve_int (ve_var 1))) ve_int) S.nd)
    (vb_one (vs_ret (ve_md (ve_mul (ve_md (ve_mul (ve_var 2) (ve_var 2)) ve_int) ve_int) ve_int))))
theorem ok__law_mixed (T : Txt Γ K mg)  {f : Addr} {fd : FuncData} (F : FunD K "_law_mixed" "_law_mixed" (defArgs s__law_mixed) (defBody s__law_mixed) (defScope s__law_mixed) [] [] f fd) (hm : mg "_law_mixed" = some (.ref f)) : Cal Γ P wd K mg base 1 "_law_mixed" 2 [] R__law_mixed :=
  Cal.of F hm rfl (fun _ _ _ _ _ _ us hl => match us, hl with | [_, _], _ => rfl) (fo__law_mixed T  F)
theorem sc__law_draw : FnScope ["cell", "k"] ["cell", "k"] (defScope s__law_draw) := ⟨rfl, rfl, rfl, by decide +kernel, rfl, by decide +kernel, by decide +kernel⟩
theorem fo__law_draw (T : Txt Γ K mg)  {f : Addr} {fd : FuncData} (F : FunD K "_law_draw" "_law_draw" (defArgs s__law_draw) (defBody s__law_draw) (defScope s__law_draw) [] [] f fd) : FnOk P wd K mg base (L2.CX P wd) 1 f fd ["cell", "k"] (spOf Γ K 2 R__law_draw) := by
  have S := sc__law_draw
  refine fn_rule F sc__law_draw fun cdv A outer s H E hr => ?_
  have tk : Takes (cxOf (L2.CX P wd) P wd K mg base ["cell", "k"] "_law_draw" (defScope s__law_draw) f cdv A outer s H E) (fun c d _ H => E c d H) := takes_of rfl rfl rfl rfl
  have rm : Rm (cxOf (L2.CX P wd) P wd K mg base ["cell", "k"] "_law_draw" (defScope s__law_draw) f cdv A outer s H E) := rm_of hr
  exact (vb_one (vs_ret (ve_disp (vps_cons ve_str (ve_if (vt_ge rm (ve_var 0) (ve_pw ve_int ve_int)) (ve_var 0) ve_int) (vps_cons ve_str (ve_var 0) (vps_cons ve_str (ve_mul ve_int (ve_var 1)) vps_nil))))))
theorem ok__law_draw (T : Txt Γ K mg)  {f : Addr} {fd : FuncData} (F : FunD K "_law_draw" "_law_draw" (defArgs s__law_draw) (defBody s__law_draw) (defScope s__law_draw) [] [] f fd) (hm : mg "_law_draw" = some (.ref f)) : Cal Γ P wd K mg base 1 "_law_draw" 2 [] R__law_draw :=
  Cal.of F hm rfl (fun _ _ _ _ _ _ us hl => match us, hl with | [_, _], _ => rfl) (fo__law_draw T  F)
theorem sc__law_lowest : FnScope ["top", "bottom", "one", "other"] ["top", "bottom"] (defScope s__law_lowest) := ⟨rfl, rfl, rfl, by decide +kernel, rfl, by decide +kernel, by decide +kernel⟩
theorem fo__law_lowest (T : Txt Γ K mg)  {f : Addr} {fd : FuncData} (F : FunD K "_law_lowest" "_law_lowest" (defArgs s__law_lowest) (defBody s__law_lowest) (defScope s__law_lowest) [] [] f fd) : FnOk P wd K mg base (L2.CX P wd) 1 f fd ["top", "bottom"] (spOf Γ K 2 R__law_lowest) := by
  have S := sc__law_lowest
  refine fn_rule F sc__law_lowest fun cdv A outer s H E hr => ?_
  have tk : Takes (cxOf (L2.CX P wd) P wd K mg base ["top", "bottom", "one", "other"] "_law_lowest" (defScope s__law_lowest) f cdv A outer s H E) (fun c d _ H => E c d H) := takes_of rfl rfl rfl rfl
  have rm : Rm (cxOf (L2.CX P wd) P wd K mg base ["top", "bottom", "one", "other"] "_law_lowest" (defScope s__law_lowest) f cdv A outer s H E) := rm_of hr
  exact (vb_cons (vs_par 2 3 (va_cons (bc_abs T.z_abs  (va_cons (ve_var 0) va_nil)) (va_cons (ve_var 1) va_nil)) S.nd (by rfl))
    (vb_cons (vs_while PassesOwn.leaving (vt_ne rm (ve_var 3) ve_int) (vb_one (vs_par 2 3 (va_cons (ve_var 3) (va_cons (ve_md (ve_var 2) (ve_var 3)) va_nil)) S.nd (by rfl))))
    (vb_one (vs_ret (ve_tup (va_cons (ve_fdv (ve_var 0) (ve_var 2)) (va_cons (ve_fdv (ve_var 1) (ve_var 2)) va_nil)))))))
theorem ok__law_lowest (T : Txt Γ K mg)  {f : Addr} {fd : FuncData} (F : FunD K "_law_lowest" "_law_lowest" (defArgs s__law_lowest) (defBody s__law_lowest) (defScope s__law_lowest) [] [] f fd) (hm : mg "_law_lowest" = some (.ref f)) : Cal Γ P wd K mg base 1 "_law_lowest" 2 [] R__law_lowest :=
  Cal.of F hm rfl (fun _ _ _ _ _ _ us hl => match us, hl with | [_, _], _ => rfl) (fo__law_lowest T  F)
theorem sc__law_cut : FnScope ["things", "found"] ["things"] (defScope s__law_cut) := ⟨rfl, rfl, rfl, by decide +kernel, rfl, by decide +kernel, by decide +kernel⟩
theorem fo__law_cut (T : Txt Γ K mg)  {f : Addr} {fd : FuncData} (F : FunD K "_law_cut" "_law_cut" (defArgs s__law_cut) (defBody s__law_cut) (defScope s__law_cut) [] [] f fd) : FnOk P wd K mg base (L2.CX P wd) 1 f fd ["things"] (spOf Γ K 1 R__law_cut) := by
  have S := sc__law_cut
  refine fn_rule F sc__law_cut fun cdv A outer s H E hr => ?_
  have tk : Takes (cxOf (L2.CX P wd) P wd K mg base ["things", "found"] "_law_cut" (defScope s__law_cut) f cdv A outer s H E) (fun c d _ H => E c d H) := takes_of rfl rfl rfl rfl
  have rm : Rm (cxOf (L2.CX P wd) P wd K mg base ["things", "found"] "_law_cut" (defScope s__law_cut) f cdv A outer s H E) := rm_of hr
  exact (vb_cons (vs_set 1 (bc_list T.z_list  (va_cons (ve_var 0) va_nil)) S.nd)
    (vb_cons (vs_while PassesOwn.leaving (VW.vt (vw_and (vt_ne rm (ve_var 1) (ve_lst va_nil)) (vw_and1 (vt_eq rm (ve_ix (ve_ix (ve_var 1) (ve_neg ve_int)) ve_int) ve_int)))) (vb_one (vs_expr (bm_pop0 (ve_var 1)))))
    (vb_one (vs_ret (bc_tuple T.z_tuple  (va_cons (ve_var 1) va_nil))))))
theorem ok__law_cut (T : Txt Γ K mg)  {f : Addr} {fd : FuncData} (F : FunD K "_law_cut" "_law_cut" (defArgs s__law_cut) (defBody s__law_cut) (defScope s__law_cut) [] [] f fd) (hm : mg "_law_cut" = some (.ref f)) : Cal Γ P wd K mg base 1 "_law_cut" 1 [] R__law_cut :=
  Cal.of F hm rfl (fun _ _ _ _ _ _ us hl => match us, hl with | [_], _ => rfl) (fo__law_cut T  F)
theorem sc_is_fraction : FnScope ["thing"] ["thing"] (defScope s_is_fraction) := ⟨rfl, rfl, rfl, by decide +kernel, rfl, by decide +kernel, by decide +kernel⟩
theorem fo_is_fraction (T : Txt Γ K mg) (C_is_whole : Cal Γ P wd K mg base 1 "is_whole" 1 [] R_is_whole) (C_common : Cal Γ P wd K mg base 1 "common" 2 [] R_common) {f : Addr} {fd : FuncData} (F : FunD K "is_fraction" "is_fraction" (defArgs s_is_fraction) (defBody s_is_fraction) (defScope s_is_fraction) [] [] f fd) : FnOk P wd K mg base (L2.CX P wd) 2 f fd ["thing"] (spOf Γ K 1 R_is_fraction) := by
  have S := sc_is_fraction
  refine fn_rule F sc_is_fraction fun cdv A outer s H E hr => ?_
  have tk : Takes (cxOf (L2.CX P wd) P wd K mg base ["thing"] "is_fraction" (defScope s_is_fraction) f cdv A outer s H E) (fun c d _ H => E c d H) := takes_of rfl rfl rfl rfl
  have rm : Rm (cxOf (L2.CX P wd) P wd K mg base ["thing"] "is_fraction" (defScope s_is_fraction) f cdv A outer s H E) := rm_of hr
  exact (vb_cons (vs_if (VW.vt (vw_or (vt_not (vt_val (bi_tuple T.z_isinstance T.z_tuple (ve_var 0)))) (vw_or (vt_ne rm (bc_len T.z_len  (va_cons (ve_var 0) va_nil)) ve_int) (vw_or (vt_not (vt_val (ve_call C_is_whole tk (hr.mono (by decide)) (va_cons (ve_ix (ve_var 0) ve_int) va_nil)))) (vw_or1 (vt_not (vt_val (ve_call C_is_whole tk (hr.mono (by decide)) (va_cons (ve_ix (ve_var 0) ve_int) va_nil))))))))) (vb_one (vs_ret ve_bl)) vb_nil)
    (vb_one (vs_ret (ve_and (ve_gt rm (ve_ix (ve_var 0) ve_int) ve_int) (ve_one (ve_eq rm (ve_call C_common tk (hr.mono (by decide)) (va_cons (ve_ix (ve_var 0) ve_int) (va_cons (ve_ix (ve_var 0) ve_int) va_nil))) ve_int))))))
theorem ok_is_fraction (T : Txt Γ K mg) (C_is_whole : Cal Γ P wd K mg base 1 "is_whole" 1 [] R_is_whole) (C_common : Cal Γ P wd K mg base 1 "common" 2 [] R_common) {f : Addr} {fd : FuncData} (F : FunD K "is_fraction" "is_fraction" (defArgs s_is_fraction) (defBody s_is_fraction) (defScope s_is_fraction) [] [] f fd) (hm : mg "is_fraction" = some (.ref f)) : Cal Γ P wd K mg base 2 "is_fraction" 1 [] R_is_fraction :=
  Cal.of F hm rfl (fun _ _ _ _ _ _ us hl => match us, hl with | [_], _ => rfl) (fo_is_fraction T C_is_whole C_common F)
theorem sc_lowest : FnScope ["top", "bottom", "part"] ["top", "bottom"] (defScope s_lowest) := ⟨rfl, rfl, rfl, by decide +kernel, rfl, by decide +kernel, by decide +kernel⟩
theorem fo_lowest (T : Txt Γ K mg) (C_common : Cal Γ P wd K mg base 1 "common" 2 [] R_common) {f : Addr} {fd : FuncData} (F : FunD K "lowest" "lowest" (defArgs s_lowest) (defBody s_lowest) (defScope s_lowest) [] [] f fd) : FnOk P wd K mg base (L2.CX P wd) 2 f fd ["top", "bottom"] (spOf Γ K 2 R_lowest) := by
  have S := sc_lowest
  refine fn_rule F sc_lowest fun cdv A outer s H E hr => ?_
  have tk : Takes (cxOf (L2.CX P wd) P wd K mg base ["top", "bottom", "part"] "lowest" (defScope s_lowest) f cdv A outer s H E) (fun c d _ H => E c d H) := takes_of rfl rfl rfl rfl
  have rm : Rm (cxOf (L2.CX P wd) P wd K mg base ["top", "bottom", "part"] "lowest" (defScope s_lowest) f cdv A outer s H E) := rm_of hr
  exact (vb_cons (vs_set 2 (ve_if (vt_gt rm (ve_var 1) ve_int) (ve_call C_common tk (hr.mono (by decide)) (va_cons (ve_var 0) (va_cons (ve_var 1) va_nil))) (ve_sub ve_int (ve_call C_common tk (hr.mono (by decide)) (va_cons (ve_var 0) (va_cons (ve_var 1) va_nil))))) S.nd)
    (vb_one (vs_ret (ve_tup (va_cons (ve_fdv (ve_var 0) (ve_var 2)) (va_cons (ve_fdv (ve_var 1) (ve_var 2)) va_nil))))))
theorem ok_lowest (T : Txt Γ K mg) (C_common : Cal Γ P wd K mg base 1 "common" 2 [] R_common) {f : Addr} {fd : FuncData} (F : FunD K "lowest" "lowest" (defArgs s_lowest) (defBody s_lowest) (defScope s_lowest) [] [] f fd) (hm : mg "lowest" = some (.ref f)) : Cal Γ P wd K mg base 2 "lowest" 2 [] R_lowest :=
  Cal.of F hm rfl (fun _ _ _ _ _ _ us hl => match us, hl with | [_, _], _ => rfl) (fo_lowest T C_common F)
theorem sc__law_digit : FnScope ["state", "size", "j", "found"] ["state", "size"] (defScope s__law_digit) := ⟨rfl, rfl, rfl, by decide +kernel, rfl, by decide +kernel, by decide +kernel⟩
theorem fo__law_digit (T : Txt Γ K mg) (C__law_mixed : Cal Γ P wd K mg base 1 "_law_mixed" 2 [] R__law_mixed) {f : Addr} {fd : FuncData} (F : FunD K "_law_digit" "_law_digit" (defArgs s__law_digit) (defBody s__law_digit) (defScope s__law_digit) [] [] f fd) : FnOk P wd K mg base (L2.CX P wd) 2 f fd ["state", "size"] (spOf Γ K 2 R__law_digit) := by
  have S := sc__law_digit
  refine fn_rule F sc__law_digit fun cdv A outer s H E hr => ?_
  have tk : Takes (cxOf (L2.CX P wd) P wd K mg base ["state", "size", "j", "found"] "_law_digit" (defScope s__law_digit) f cdv A outer s H E) (fun c d _ H => E c d H) := takes_of rfl rfl rfl rfl
  have rm : Rm (cxOf (L2.CX P wd) P wd K mg base ["state", "size", "j", "found"] "_law_digit" (defScope s__law_digit) f cdv A outer s H E) := rm_of hr
  exact (vb_cons (vs_if (vt_eq rm (ve_dget rm (ve_var 0) ve_str) ve_int) (vb_one (vs_for PassesOwn.leaving (vi_r1 (va_cons ve_int va_nil) T.z_range) (vg_name 2 S.nd) (vb_cons (vs_putD rm (ve_add (ve_dget rm (ve_var 0) ve_str) ve_int) (ve_var 0) ve_str)
    (vb_one (vs_putD rm (ve_add (ve_mul (ve_dget rm (ve_var 0) ve_str) ve_int) (ve_call C__law_mixed tk (hr.mono (by decide)) (va_cons (ve_dget rm (ve_var 0) ve_str) (va_cons (ve_dget rm (ve_var 0) ve_str) va_nil)))) (ve_var 0) ve_str))))) vb_nil)
    (vb_cons (vs_set 3 (ve_md (ve_dget rm (ve_var 0) ve_str) (ve_var 1)) S.nd)
    (vb_cons (vs_putD rm (ve_fdv (ve_dget rm (ve_var 0) ve_str) (ve_var 1)) (ve_var 0) ve_str)
    (vb_one (vs_ret (ve_var 3))))))
theorem ok__law_digit (T : Txt Γ K mg) (C__law_mixed : Cal Γ P wd K mg base 1 "_law_mixed" 2 [] R__law_mixed) {f : Addr} {fd : FuncData} (F : FunD K "_law_digit" "_law_digit" (defArgs s__law_digit) (defBody s__law_digit) (defScope s__law_digit) [] [] f fd) (hm : mg "_law_digit" = some (.ref f)) : Cal Γ P wd K mg base 2 "_law_digit" 2 [] R__law_digit :=
  Cal.of F hm rfl (fun _ _ _ _ _ _ us hl => match us, hl with | [_, _], _ => rfl) (fo__law_digit T C__law_mixed F)
theorem sc__law_plus : FnScope ["one", "other"] ["one", "other"] (defScope s__law_plus) := ⟨rfl, rfl, rfl, by decide +kernel, rfl, by decide +kernel, by decide +kernel⟩
theorem fo__law_plus (T : Txt Γ K mg) (C__law_lowest : Cal Γ P wd K mg base 1 "_law_lowest" 2 [] R__law_lowest) {f : Addr} {fd : FuncData} (F : FunD K "_law_plus" "_law_plus" (defArgs s__law_plus) (defBody s__law_plus) (defScope s__law_plus) [] [] f fd) : FnOk P wd K mg base (L2.CX P wd) 2 f fd ["one", "other"] (spOf Γ K 2 R__law_plus) := by
  have S := sc__law_plus
  refine fn_rule F sc__law_plus fun cdv A outer s H E hr => ?_
  have tk : Takes (cxOf (L2.CX P wd) P wd K mg base ["one", "other"] "_law_plus" (defScope s__law_plus) f cdv A outer s H E) (fun c d _ H => E c d H) := takes_of rfl rfl rfl rfl
  have rm : Rm (cxOf (L2.CX P wd) P wd K mg base ["one", "other"] "_law_plus" (defScope s__law_plus) f cdv A outer s H E) := rm_of hr
  exact (vb_one (vs_ret (ve_call C__law_lowest tk (hr.mono (by decide)) (va_cons (ve_add (ve_mul (ve_ix (ve_var 0) ve_int) (ve_ix (ve_var 1) ve_int)) (ve_mul (ve_ix (ve_var 1) ve_int) (ve_ix (ve_var 0) ve_int))) (va_cons (ve_mul (ve_ix (ve_var 0) ve_int) (ve_ix (ve_var 1) ve_int)) va_nil)))))
theorem ok__law_plus (T : Txt Γ K mg) (C__law_lowest : Cal Γ P wd K mg base 1 "_law_lowest" 2 [] R__law_lowest) {f : Addr} {fd : FuncData} (F : FunD K "_law_plus" "_law_plus" (defArgs s__law_plus) (defBody s__law_plus) (defScope s__law_plus) [] [] f fd) (hm : mg "_law_plus" = some (.ref f)) : Cal Γ P wd K mg base 2 "_law_plus" 2 [] R__law_plus :=
  Cal.of F hm rfl (fun _ _ _ _ _ _ us hl => match us, hl with | [_, _], _ => rfl) (fo__law_plus T C__law_lowest F)
theorem sc__law_times : FnScope ["one", "other"] ["one", "other"] (defScope s__law_times) := ⟨rfl, rfl, rfl, by decide +kernel, rfl, by decide +kernel, by decide +kernel⟩
theorem fo__law_times (T : Txt Γ K mg) (C__law_lowest : Cal Γ P wd K mg base 1 "_law_lowest" 2 [] R__law_lowest) {f : Addr} {fd : FuncData} (F : FunD K "_law_times" "_law_times" (defArgs s__law_times) (defBody s__law_times) (defScope s__law_times) [] [] f fd) : FnOk P wd K mg base (L2.CX P wd) 2 f fd ["one", "other"] (spOf Γ K 2 R__law_times) := by
  have S := sc__law_times
  refine fn_rule F sc__law_times fun cdv A outer s H E hr => ?_
  have tk : Takes (cxOf (L2.CX P wd) P wd K mg base ["one", "other"] "_law_times" (defScope s__law_times) f cdv A outer s H E) (fun c d _ H => E c d H) := takes_of rfl rfl rfl rfl
  have rm : Rm (cxOf (L2.CX P wd) P wd K mg base ["one", "other"] "_law_times" (defScope s__law_times) f cdv A outer s H E) := rm_of hr
  exact (vb_one (vs_ret (ve_call C__law_lowest tk (hr.mono (by decide)) (va_cons (ve_mul (ve_ix (ve_var 0) ve_int) (ve_ix (ve_var 1) ve_int)) (va_cons (ve_mul (ve_ix (ve_var 0) ve_int) (ve_ix (ve_var 1) ve_int)) va_nil)))))
theorem ok__law_times (T : Txt Γ K mg) (C__law_lowest : Cal Γ P wd K mg base 1 "_law_lowest" 2 [] R__law_lowest) {f : Addr} {fd : FuncData} (F : FunD K "_law_times" "_law_times" (defArgs s__law_times) (defBody s__law_times) (defScope s__law_times) [] [] f fd) (hm : mg "_law_times" = some (.ref f)) : Cal Γ P wd K mg base 2 "_law_times" 2 [] R__law_times :=
  Cal.of F hm rfl (fun _ _ _ _ _ _ us hl => match us, hl with | [_, _], _ => rfl) (fo__law_times T C__law_lowest F)
theorem sc__law_over : FnScope ["one", "other", "sign"] ["one", "other"] (defScope s__law_over) := ⟨rfl, rfl, rfl, by decide +kernel, rfl, by decide +kernel, by decide +kernel⟩
theorem fo__law_over (T : Txt Γ K mg) (C__law_lowest : Cal Γ P wd K mg base 1 "_law_lowest" 2 [] R__law_lowest) {f : Addr} {fd : FuncData} (F : FunD K "_law_over" "_law_over" (defArgs s__law_over) (defBody s__law_over) (defScope s__law_over) [] [] f fd) : FnOk P wd K mg base (L2.CX P wd) 2 f fd ["one", "other"] (spOf Γ K 2 R__law_over) := by
  have S := sc__law_over
  refine fn_rule F sc__law_over fun cdv A outer s H E hr => ?_
  have tk : Takes (cxOf (L2.CX P wd) P wd K mg base ["one", "other", "sign"] "_law_over" (defScope s__law_over) f cdv A outer s H E) (fun c d _ H => E c d H) := takes_of rfl rfl rfl rfl
  have rm : Rm (cxOf (L2.CX P wd) P wd K mg base ["one", "other", "sign"] "_law_over" (defScope s__law_over) f cdv A outer s H E) := rm_of hr
  exact (vb_cons (vs_set 2 (ve_if (vt_lt rm (ve_ix (ve_var 1) ve_int) ve_int) (ve_neg ve_int) ve_int) S.nd)
    (vb_one (vs_ret (ve_call C__law_lowest tk (hr.mono (by decide)) (va_cons (ve_mul (ve_mul (ve_var 2) (ve_ix (ve_var 0) ve_int)) (ve_ix (ve_var 1) ve_int)) (va_cons (ve_mul (ve_mul (ve_var 2) (ve_ix (ve_var 1) ve_int)) (ve_ix (ve_var 0) ve_int)) va_nil))))))
theorem ok__law_over (T : Txt Γ K mg) (C__law_lowest : Cal Γ P wd K mg base 1 "_law_lowest" 2 [] R__law_lowest) {f : Addr} {fd : FuncData} (F : FunD K "_law_over" "_law_over" (defArgs s__law_over) (defBody s__law_over) (defScope s__law_over) [] [] f fd) (hm : mg "_law_over" = some (.ref f)) : Cal Γ P wd K mg base 2 "_law_over" 2 [] R__law_over :=
  Cal.of F hm rfl (fun _ _ _ _ _ _ us hl => match us, hl with | [_, _], _ => rfl) (fo__law_over T C__law_lowest F)
theorem sc_less : FnScope ["one", "other"] ["one", "other"] (defScope s_less) := ⟨rfl, rfl, rfl, by decide +kernel, rfl, by decide +kernel, by decide +kernel⟩
theorem fo_less (T : Txt Γ K mg) (C_lowest : Cal Γ P wd K mg base 2 "lowest" 2 [] R_lowest) {f : Addr} {fd : FuncData} (F : FunD K "less" "less" (defArgs s_less) (defBody s_less) (defScope s_less) [] [] f fd) : FnOk P wd K mg base (L2.CX P wd) 3 f fd ["one", "other"] (spOf Γ K 2 R_less) := by
  have S := sc_less
  refine fn_rule F sc_less fun cdv A outer s H E hr => ?_
  have tk : Takes (cxOf (L2.CX P wd) P wd K mg base ["one", "other"] "less" (defScope s_less) f cdv A outer s H E) (fun c d _ H => E c d H) := takes_of rfl rfl rfl rfl
  have rm : Rm (cxOf (L2.CX P wd) P wd K mg base ["one", "other"] "less" (defScope s_less) f cdv A outer s H E) := rm_of hr
  exact (vb_one (vs_ret (ve_call C_lowest tk (hr.mono (by decide)) (va_cons (ve_sub (ve_mul (ve_ix (ve_var 0) ve_int) (ve_ix (ve_var 1) ve_int)) (ve_mul (ve_ix (ve_var 1) ve_int) (ve_ix (ve_var 0) ve_int))) (va_cons (ve_mul (ve_ix (ve_var 0) ve_int) (ve_ix (ve_var 1) ve_int)) va_nil)))))
theorem ok_less (T : Txt Γ K mg) (C_lowest : Cal Γ P wd K mg base 2 "lowest" 2 [] R_lowest) {f : Addr} {fd : FuncData} (F : FunD K "less" "less" (defArgs s_less) (defBody s_less) (defScope s_less) [] [] f fd) (hm : mg "less" = some (.ref f)) : Cal Γ P wd K mg base 3 "less" 2 [] R_less :=
  Cal.of F hm rfl (fun _ _ _ _ _ _ us hl => match us, hl with | [_, _], _ => rfl) (fo_less T C_lowest F)
theorem sc_times : FnScope ["one", "other"] ["one", "other"] (defScope s_times) := ⟨rfl, rfl, rfl, by decide +kernel, rfl, by decide +kernel, by decide +kernel⟩
theorem fo_times (T : Txt Γ K mg) (C_lowest : Cal Γ P wd K mg base 2 "lowest" 2 [] R_lowest) {f : Addr} {fd : FuncData} (F : FunD K "times" "times" (defArgs s_times) (defBody s_times) (defScope s_times) [] [] f fd) : FnOk P wd K mg base (L2.CX P wd) 3 f fd ["one", "other"] (spOf Γ K 2 R_times) := by
  have S := sc_times
  refine fn_rule F sc_times fun cdv A outer s H E hr => ?_
  have tk : Takes (cxOf (L2.CX P wd) P wd K mg base ["one", "other"] "times" (defScope s_times) f cdv A outer s H E) (fun c d _ H => E c d H) := takes_of rfl rfl rfl rfl
  have rm : Rm (cxOf (L2.CX P wd) P wd K mg base ["one", "other"] "times" (defScope s_times) f cdv A outer s H E) := rm_of hr
  exact (vb_one (vs_ret (ve_call C_lowest tk (hr.mono (by decide)) (va_cons (ve_mul (ve_ix (ve_var 0) ve_int) (ve_ix (ve_var 1) ve_int)) (va_cons (ve_mul (ve_ix (ve_var 0) ve_int) (ve_ix (ve_var 1) ve_int)) va_nil)))))
theorem ok_times (T : Txt Γ K mg) (C_lowest : Cal Γ P wd K mg base 2 "lowest" 2 [] R_lowest) {f : Addr} {fd : FuncData} (F : FunD K "times" "times" (defArgs s_times) (defBody s_times) (defScope s_times) [] [] f fd) (hm : mg "times" = some (.ref f)) : Cal Γ P wd K mg base 3 "times" 2 [] R_times :=
  Cal.of F hm rfl (fun _ _ _ _ _ _ us hl => match us, hl with | [_, _], _ => rfl) (fo_times T C_lowest F)
theorem sc_over : FnScope ["one", "other"] ["one", "other"] (defScope s_over) := ⟨rfl, rfl, rfl, by decide +kernel, rfl, by decide +kernel, by decide +kernel⟩
theorem fo_over (T : Txt Γ K mg) (C_is_nought : Cal Γ P wd K mg base 1 "is_nought" 1 [] R_is_nought) (C_lowest : Cal Γ P wd K mg base 2 "lowest" 2 [] R_lowest) {f : Addr} {fd : FuncData} (F : FunD K "over" "over" (defArgs s_over) (defBody s_over) (defScope s_over) [] [] f fd) : FnOk P wd K mg base (L2.CX P wd) 3 f fd ["one", "other"] (spOf Γ K 2 R_over) := by
  have S := sc_over
  refine fn_rule F sc_over fun cdv A outer s H E hr => ?_
  have tk : Takes (cxOf (L2.CX P wd) P wd K mg base ["one", "other"] "over" (defScope s_over) f cdv A outer s H E) (fun c d _ H => E c d H) := takes_of rfl rfl rfl rfl
  have rm : Rm (cxOf (L2.CX P wd) P wd K mg base ["one", "other"] "over" (defScope s_over) f cdv A outer s H E) := rm_of hr
  exact (vb_cons (vs_if (vt_val (ve_call C_is_nought tk (hr.mono (by decide)) (va_cons (ve_var 1) va_nil))) (vb_one vs_bad) vb_nil)
    (vb_one (vs_ret (ve_call C_lowest tk (hr.mono (by decide)) (va_cons (ve_mul (ve_ix (ve_var 0) ve_int) (ve_ix (ve_var 1) ve_int)) (va_cons (ve_mul (ve_ix (ve_var 0) ve_int) (ve_ix (ve_var 1) ve_int)) va_nil))))))
theorem ok_over (T : Txt Γ K mg) (C_is_nought : Cal Γ P wd K mg base 1 "is_nought" 1 [] R_is_nought) (C_lowest : Cal Γ P wd K mg base 2 "lowest" 2 [] R_lowest) {f : Addr} {fd : FuncData} (F : FunD K "over" "over" (defArgs s_over) (defBody s_over) (defScope s_over) [] [] f fd) (hm : mg "over" = some (.ref f)) : Cal Γ P wd K mg base 3 "over" 2 [] R_over :=
  Cal.of F hm rfl (fun _ _ _ _ _ _ us hl => match us, hl with | [_, _], _ => rfl) (fo_over T C_is_nought C_lowest F)
theorem sc_need_polynomial : FnScope ["thing", "number", "one"] ["thing"] (defScope s_need_polynomial) := ⟨rfl, rfl, rfl, by decide +kernel, rfl, by decide +kernel, by decide +kernel⟩
theorem fo_need_polynomial (T : Txt Γ K mg) (C_is_fraction : Cal Γ P wd K mg base 2 "is_fraction" 1 [] R_is_fraction) (C_is_nought : Cal Γ P wd K mg base 1 "is_nought" 1 [] R_is_nought) {f : Addr} {fd : FuncData} (F : FunD K "need_polynomial" "need_polynomial" (defArgs s_need_polynomial) (defBody s_need_polynomial) (defScope s_need_polynomial) [] [] f fd) : FnOk P wd K mg base (L2.CX P wd) 3 f fd ["thing"] (spOf Γ K 1 R_need_polynomial) := by
  have S := sc_need_polynomial
  refine fn_rule F sc_need_polynomial fun cdv A outer s H E hr => ?_
  have tk : Takes (cxOf (L2.CX P wd) P wd K mg base ["thing", "number", "one"] "need_polynomial" (defScope s_need_polynomial) f cdv A outer s H E) (fun c d _ H => E c d H) := takes_of rfl rfl rfl rfl
  have rm : Rm (cxOf (L2.CX P wd) P wd K mg base ["thing", "number", "one"] "need_polynomial" (defScope s_need_polynomial) f cdv A outer s H E) := rm_of hr
  exact (vb_cons (vs_if (vt_not (vt_val (bi_tuple T.z_isinstance T.z_tuple (ve_var 0)))) (vb_one vs_bad) vb_nil)
    (vb_one (vs_for PassesOwn.leaving (vi_enum (va_cons (ve_var 0) va_nil) T.z_enumerate) (vg_tup (vgs_cons (vg_name 1 S.nd) (vgs_cons (vg_name 2 S.nd) vgs_nil))) (vb_one (vs_if (VW.vt (vw_or (vt_not (vt_val (ve_call C_is_fraction tk (hr.mono (by decide)) (va_cons (ve_var 2) va_nil)))) (vw_or1 (VW.vt (vw_and (vt_eq rm (ve_var 1) (ve_sub (bc_len T.z_len  (va_cons (ve_var 0) va_nil)) ve_int)) (vw_and1 (vt_val (ve_call C_is_nought tk (hr.mono (by decide)) (va_cons (ve_var 2) va_nil))))))))) (vb_one vs_bad) vb_nil)))))
theorem ok_need_polynomial (T : Txt Γ K mg) (C_is_fraction : Cal Γ P wd K mg base 2 "is_fraction" 1 [] R_is_fraction) (C_is_nought : Cal Γ P wd K mg base 1 "is_nought" 1 [] R_is_nought) {f : Addr} {fd : FuncData} (F : FunD K "need_polynomial" "need_polynomial" (defArgs s_need_polynomial) (defBody s_need_polynomial) (defScope s_need_polynomial) [] [] f fd) (hm : mg "need_polynomial" = some (.ref f)) : Cal Γ P wd K mg base 3 "need_polynomial" 1 [] R_need_polynomial :=
  Cal.of F hm rfl (fun _ _ _ _ _ _ us hl => match us, hl with | [_], _ => rfl) (fo_need_polynomial T C_is_fraction C_is_nought F)
theorem sc__law_multiplied : FnScope ["one", "other", "found", "low", "near", "high", "far"] ["one", "other"] (defScope s__law_multiplied) := ⟨rfl, rfl, rfl, by decide +kernel, rfl, by decide +kernel, by decide +kernel⟩
theorem fo__law_multiplied (T : Txt Γ K mg) (C__law_plus : Cal Γ P wd K mg base 2 "_law_plus" 2 [] R__law_plus) (C__law_times : Cal Γ P wd K mg base 2 "_law_times" 2 [] R__law_times) (C__law_cut : Cal Γ P wd K mg base 1 "_law_cut" 1 [] R__law_cut) {f : Addr} {fd : FuncData} (F : FunD K "_law_multiplied" "_law_multiplied" (defArgs s__law_multiplied) (defBody s__law_multiplied) (defScope s__law_multiplied) [] [] f fd) : FnOk P wd K mg base (L2.CX P wd) 3 f fd ["one", "other"] (spOf Γ K 2 R__law_multiplied) := by
  have S := sc__law_multiplied
  refine fn_rule F sc__law_multiplied fun cdv A outer s H E hr => ?_
  have tk : Takes (cxOf (L2.CX P wd) P wd K mg base ["one", "other", "found", "low", "near", "high", "far"] "_law_multiplied" (defScope s__law_multiplied) f cdv A outer s H E) (fun c d _ H => E c d H) := takes_of rfl rfl rfl rfl
  have rm : Rm (cxOf (L2.CX P wd) P wd K mg base ["one", "other", "found", "low", "near", "high", "far"] "_law_multiplied" (defScope s__law_multiplied) f cdv A outer s H E) := rm_of hr
  exact (vb_cons (vs_set 2 (ve_mul (ve_lst (va_cons (ve_tup (va_cons ve_int (va_cons ve_int va_nil))) va_nil)) (ve_add (bc_len T.z_len  (va_cons (ve_var 0) va_nil)) (bc_len T.z_len  (va_cons (ve_var 1) va_nil)))) S.nd)
    (vb_cons (vs_for PassesOwn.leaving (vi_enum (va_cons (ve_var 0) va_nil) T.z_enumerate) (vg_tup (vgs_cons (vg_name 3 S.nd) (vgs_cons (vg_name 4 S.nd) vgs_nil))) (vb_one (vs_for PassesOwn.leaving (vi_enum (va_cons (ve_var 1) va_nil) T.z_enumerate) (vg_tup (vgs_cons (vg_name 5 S.nd) (vgs_cons (vg_name 6 S.nd) vgs_nil))) (vb_one (vs_putL (ve_call C__law_plus tk (hr.mono (by decide)) (va_cons (ve_ix (ve_var 2) (ve_add (ve_var 3) (ve_var 5))) (va_cons (ve_call C__law_times tk (hr.mono (by decide)) (va_cons (ve_var 4) (va_cons (ve_var 6) va_nil))) va_nil))) (ve_var 2) (ve_add (ve_var 3) (ve_var 5)))))))
    (vb_one (vs_ret (ve_call C__law_cut tk (hr.mono (by decide)) (va_cons (ve_var 2) va_nil))))))
theorem ok__law_multiplied (T : Txt Γ K mg) (C__law_plus : Cal Γ P wd K mg base 2 "_law_plus" 2 [] R__law_plus) (C__law_times : Cal Γ P wd K mg base 2 "_law_times" 2 [] R__law_times) (C__law_cut : Cal Γ P wd K mg base 1 "_law_cut" 1 [] R__law_cut) {f : Addr} {fd : FuncData} (F : FunD K "_law_multiplied" "_law_multiplied" (defArgs s__law_multiplied) (defBody s__law_multiplied) (defScope s__law_multiplied) [] [] f fd) (hm : mg "_law_multiplied" = some (.ref f)) : Cal Γ P wd K mg base 3 "_law_multiplied" 2 [] R__law_multiplied :=
  Cal.of F hm rfl (fun _ _ _ _ _ _ us hl => match us, hl with | [_, _], _ => rfl) (fo__law_multiplied T C__law_plus C__law_times C__law_cut F)
theorem sc__law_less : FnScope ["one", "other"] ["one", "other"] (defScope s__law_less) := ⟨rfl, rfl, rfl, by decide +kernel, rfl, by decide +kernel, by decide +kernel⟩
theorem fo__law_less (T : Txt Γ K mg) (C__law_plus : Cal Γ P wd K mg base 2 "_law_plus" 2 [] R__law_plus) {f : Addr} {fd : FuncData} (F : FunD K "_law_less" "_law_less" (defArgs s__law_less) (defBody s__law_less) (defScope s__law_less) [] [] f fd) : FnOk P wd K mg base (L2.CX P wd) 3 f fd ["one", "other"] (spOf Γ K 2 R__law_less) := by
  have S := sc__law_less
  refine fn_rule F sc__law_less fun cdv A outer s H E hr => ?_
  have tk : Takes (cxOf (L2.CX P wd) P wd K mg base ["one", "other"] "_law_less" (defScope s__law_less) f cdv A outer s H E) (fun c d _ H => E c d H) := takes_of rfl rfl rfl rfl
  have rm : Rm (cxOf (L2.CX P wd) P wd K mg base ["one", "other"] "_law_less" (defScope s__law_less) f cdv A outer s H E) := rm_of hr
  exact (vb_one (vs_ret (ve_call C__law_plus tk (hr.mono (by decide)) (va_cons (ve_var 0) (va_cons (ve_tup (va_cons (ve_sub ve_int (ve_ix (ve_var 1) ve_int)) (va_cons (ve_ix (ve_var 1) ve_int) va_nil))) va_nil)))))
theorem ok__law_less (T : Txt Γ K mg) (C__law_plus : Cal Γ P wd K mg base 2 "_law_plus" 2 [] R__law_plus) {f : Addr} {fd : FuncData} (F : FunD K "_law_less" "_law_less" (defArgs s__law_less) (defBody s__law_less) (defScope s__law_less) [] [] f fd) (hm : mg "_law_less" = some (.ref f)) : Cal Γ P wd K mg base 3 "_law_less" 2 [] R__law_less :=
  Cal.of F hm rfl (fun _ _ _ _ _ _ us hl => match us, hl with | [_, _], _ => rfl) (fo__law_less T C__law_plus F)
theorem sc__law_small : FnScope ["state", "most", "bottom", "top"] ["state", "most"] (defScope s__law_small) := ⟨rfl, rfl, rfl, by decide +kernel, rfl, by decide +kernel, by decide +kernel⟩
theorem fo__law_small (T : Txt Γ K mg) (C__law_digit : Cal Γ P wd K mg base 2 "_law_digit" 2 [] R__law_digit) (C__law_lowest : Cal Γ P wd K mg base 1 "_law_lowest" 2 [] R__law_lowest) {f : Addr} {fd : FuncData} (F : FunD K "_law_small" "_law_small" (defArgs s__law_small) (defBody s__law_small) (defScope s__law_small) [] [] f fd) : FnOk P wd K mg base (L2.CX P wd) 3 f fd ["state", "most"] (spOf Γ K 2 R__law_small) := by
  have S := sc__law_small
  refine fn_rule F sc__law_small fun cdv A outer s H E hr => ?_
  have tk : Takes (cxOf (L2.CX P wd) P wd K mg base ["state", "most", "bottom", "top"] "_law_small" (defScope s__law_small) f cdv A outer s H E) (fun c d _ H => E c d H) := takes_of rfl rfl rfl rfl
  have rm : Rm (cxOf (L2.CX P wd) P wd K mg base ["state", "most", "bottom", "top"] "_law_small" (defScope s__law_small) f cdv A outer s H E) := rm_of hr
  exact (vb_cons (vs_set 2 (ve_add ve_int (ve_call C__law_digit tk (hr.mono (by decide)) (va_cons (ve_var 0) (va_cons (ve_var 1) va_nil)))) S.nd)
    (vb_cons (vs_set 3 (ve_sub (ve_call C__law_digit tk (hr.mono (by decide)) (va_cons (ve_var 0) (va_cons (ve_add (ve_add (ve_mul ve_int (ve_var 2)) ve_int) (ve_mul ve_int (bc_int T.z_int  (va_cons (ve_eq rm (ve_call C__law_digit tk (hr.mono (by decide)) (va_cons (ve_var 0) (va_cons ve_int va_nil))) ve_int) va_nil)))) va_nil))) (ve_var 2)) S.nd)
    (vb_one (vs_ret (ve_call C__law_lowest tk (hr.mono (by decide)) (va_cons (ve_var 3) (va_cons (ve_var 2) va_nil)))))))
theorem ok__law_small (T : Txt Γ K mg) (C__law_digit : Cal Γ P wd K mg base 2 "_law_digit" 2 [] R__law_digit) (C__law_lowest : Cal Γ P wd K mg base 1 "_law_lowest" 2 [] R__law_lowest) {f : Addr} {fd : FuncData} (F : FunD K "_law_small" "_law_small" (defArgs s__law_small) (defBody s__law_small) (defScope s__law_small) [] [] f fd) (hm : mg "_law_small" = some (.ref f)) : Cal Γ P wd K mg base 3 "_law_small" 2 [] R__law_small :=
  Cal.of F hm rfl (fun _ _ _ _ _ _ us hl => match us, hl with | [_, _], _ => rfl) (fo__law_small T C__law_digit C__law_lowest F)
theorem sc_out_row : FnScope ["one", "here", "found", "thing", "last", "rest", "near", "far"] ["one"] (defScope s_out_row) := ⟨rfl, rfl, rfl, by decide +kernel, rfl, by decide +kernel, by decide +kernel⟩
theorem fo_out_row (T : Txt Γ K mg) (C_need_polynomial : Cal Γ P wd K mg base 3 "need_polynomial" 1 [] R_need_polynomial) (C_is_nought : Cal Γ P wd K mg base 1 "is_nought" 1 [] R_is_nought) (C_over : Cal Γ P wd K mg base 3 "over" 2 [] R_over) (C_less : Cal Γ P wd K mg base 3 "less" 2 [] R_less) (C_times : Cal Γ P wd K mg base 3 "times" 2 [] R_times) {f : Addr} {fd : FuncData} (F : FunD K "out_row" "out_row" (defArgs s_out_row) (defBody s_out_row) (defScope s_out_row) [] [] f fd) : FnOk P wd K mg base (L2.CX P wd) 4 f fd ["one"] (spOf Γ K 1 R_out_row) := by
  have S := sc_out_row
  refine fn_rule F sc_out_row fun cdv A outer s H E hr => ?_
  have tk : Takes (cxOf (L2.CX P wd) P wd K mg base ["one", "here", "found", "thing", "last", "rest", "near", "far"] "out_row" (defScope s_out_row) f cdv A outer s H E) (fun c d _ H => E c d H) := takes_of rfl rfl rfl rfl
  have rm : Rm (cxOf (L2.CX P wd) P wd K mg base ["one", "here", "found", "thing", "last", "rest", "near", "far"] "out_row" (defScope s_out_row) f cdv A outer s H E) := rm_of hr
  exact (vb_cons (vs_expr (ve_call C_need_polynomial tk (hr.mono (by decide)) (va_cons (ve_var 0) va_nil)))
    (vb_cons (vs_if (VW.vt (vw_or (vt_eq rm (ve_var 0) (ve_tup va_nil)) (vw_or1 (vt_val (ve_call C_is_nought tk (hr.mono (by decide)) (va_cons (ve_ix (ve_var 0) ve_int) va_nil)))))) (vb_one vs_bad) vb_nil)
    (vb_cons (vs_par 1 2 (va_cons (ve_lc [("thing", 3)] S.nd (vi_val (ve_var 0)) (blkOk_by (by rfl)) (fun _ _ _ _ _ => (vg_name 3 S.nd)) (fun _ _ _ _ _ => vts_nil) (fun _ _ _ _ _ => (ve_call C_over takes0 (hr.mono (by decide)) (va_cons (ve_var 3) (va_cons (ve_ix (ve_var 0) ve_int) va_nil))))) (va_cons (ve_lst va_nil) va_nil)) S.nd (by rfl))
    (vb_cons (vs_while PassesOwn.leaving (vt_gt rm (bc_len T.z_len  (va_cons (ve_var 1) va_nil)) ve_int) (vb_cons (vs_set 4 (ve_ix (ve_var 1) (ve_neg ve_int)) S.nd)
    (vb_cons (vs_expr (bm_append (ve_var 2) (va_cons (ve_var 4) va_nil)))
    (vb_cons (vs_if (vt_ge rm (bc_abs T.z_abs  (va_cons (ve_ix (ve_var 4) ve_int) va_nil)) (ve_ix (ve_var 4) ve_int)) (vb_one (vs_ret (ve_var 2))) vb_nil)
    (vb_cons (vs_set 5 (ve_call C_less tk (hr.mono (by decide)) (va_cons (ve_glob T.c_ONE) (va_cons (ve_call C_times tk (hr.mono (by decide)) (va_cons (ve_var 4) (va_cons (ve_var 4) va_nil))) va_nil))) S.nd)
    (vb_one (vs_set 1 (ve_slice (ve_lc [("near", 6), ("far", 7)] S.nd (vi_zip2 (va_cons (ve_var 1) (va_cons (ve_revL (ve_var 1)) va_nil)) T.z_zip) (blkOk_by (by rfl)) (fun _ _ _ _ _ => (vg_tup (vgs_cons (vg_name 6 S.nd) (vgs_cons (vg_name 7 S.nd) vgs_nil)))) (fun _ _ _ _ _ => vts_nil) (fun _ _ _ _ _ => (ve_call C_over takes0 (hr.mono (by decide)) (va_cons (ve_call C_less takes0 (hr.mono (by decide)) (va_cons (ve_var 6) (va_cons (ve_call C_times takes0 (hr.mono (by decide)) (va_cons (ve_var 4) (va_cons (ve_var 7) va_nil))) va_nil))) (va_cons (ve_var 5) va_nil))))) vo_none (vo_some (ve_neg ve_int))) S.nd)))))))
    (vb_one (vs_ret (ve_var 2)))))))
theorem ok_out_row (T : Txt Γ K mg) (C_need_polynomial : Cal Γ P wd K mg base 3 "need_polynomial" 1 [] R_need_polynomial) (C_is_nought : Cal Γ P wd K mg base 1 "is_nought" 1 [] R_is_nought) (C_over : Cal Γ P wd K mg base 3 "over" 2 [] R_over) (C_less : Cal Γ P wd K mg base 3 "less" 2 [] R_less) (C_times : Cal Γ P wd K mg base 3 "times" 2 [] R_times) {f : Addr} {fd : FuncData} (F : FunD K "out_row" "out_row" (defArgs s_out_row) (defBody s_out_row) (defScope s_out_row) [] [] f fd) (hm : mg "out_row" = some (.ref f)) : Cal Γ P wd K mg base 4 "out_row" 1 [] R_out_row :=
  Cal.of F hm rfl (fun _ _ _ _ _ _ us hl => match us, hl with | [_], _ => rfl) (fo_out_row T C_need_polynomial C_is_nought C_over C_less C_times F)
theorem sc__law_row : FnScope ["one", "here", "found", "thing", "last", "rest", "some", "near", "far"] ["one"] (defScope s__law_row) := ⟨rfl, rfl, rfl, by decide +kernel, rfl, by decide +kernel, by decide +kernel⟩
theorem fo__law_row (T : Txt Γ K mg) (C__law_over : Cal Γ P wd K mg base 2 "_law_over" 2 [] R__law_over) (C__law_less : Cal Γ P wd K mg base 3 "_law_less" 2 [] R__law_less) (C__law_times : Cal Γ P wd K mg base 2 "_law_times" 2 [] R__law_times) {f : Addr} {fd : FuncData} (F : FunD K "_law_row" "_law_row" (defArgs s__law_row) (defBody s__law_row) (defScope s__law_row) [] [] f fd) : FnOk P wd K mg base (L2.CX P wd) 4 f fd ["one"] (spOf Γ K 1 R__law_row) := by
  have S := sc__law_row
  refine fn_rule F sc__law_row fun cdv A outer s H E hr => ?_
  have tk : Takes (cxOf (L2.CX P wd) P wd K mg base ["one", "here", "found", "thing", "last", "rest", "some", "near", "far"] "_law_row" (defScope s__law_row) f cdv A outer s H E) (fun c d _ H => E c d H) := takes_of rfl rfl rfl rfl
  have rm : Rm (cxOf (L2.CX P wd) P wd K mg base ["one", "here", "found", "thing", "last", "rest", "some", "near", "far"] "_law_row" (defScope s__law_row) f cdv A outer s H E) := rm_of hr
  exact (vb_cons (vs_par 1 2 (va_cons (ve_lc [("thing", 3)] S.nd (vi_val (ve_var 0)) (blkOk_by (by rfl)) (fun _ _ _ _ _ => (vg_name 3 S.nd)) (fun _ _ _ _ _ => vts_nil) (fun _ _ _ _ _ => (ve_call C__law_over takes0 (hr.mono (by decide)) (va_cons (ve_var 3) (va_cons (ve_ix (ve_var 0) ve_int) va_nil))))) (va_cons (ve_lst va_nil) va_nil)) S.nd (by rfl))
    (vb_cons (vs_while PassesOwn.leaving (VW.vt (vw_and (vt_gt rm (bc_len T.z_len  (va_cons (ve_var 1) va_nil)) ve_int) (vw_and1 (VW.vt (vw_or (vt_eq rm (ve_var 2) (ve_lst va_nil)) (vw_or1 (vt_lt rm (bc_abs T.z_abs  (va_cons (ve_ix (ve_ix (ve_var 2) (ve_neg ve_int)) ve_int) va_nil)) (ve_ix (ve_ix (ve_var 2) (ve_neg ve_int)) ve_int)))))))) (vb_cons (vs_set 4 (ve_ix (ve_var 1) (ve_neg ve_int)) S.nd)
    (vb_cons (vs_expr (bm_append (ve_var 2) (va_cons (ve_var 4) va_nil)))
    (vb_cons (vs_set 5 (ve_call C__law_less tk (hr.mono (by decide)) (va_cons (ve_tup (va_cons ve_int (va_cons ve_int va_nil))) (va_cons (ve_call C__law_times tk (hr.mono (by decide)) (va_cons (ve_var 4) (va_cons (ve_var 4) va_nil))) va_nil))) S.nd)
    (vb_one (vs_if (vt_gt rm (ve_ix (ve_var 5) ve_int) ve_int) (vb_cons (vs_setLc 6 [("near", 7), ("far", 8)] S.nd (by rfl) (vi_zip2 (va_cons (ve_var 1) (va_cons (ve_revL (ve_var 1)) va_nil)) T.z_zip) (blkOk_by (by rfl)) (fun _ _ _ _ _ => (vg_tup (vgs_cons (vg_name 7 S.nd) (vgs_cons (vg_name 8 S.nd) vgs_nil)))) (fun _ _ _ _ _ => vts_nil) (fun _ _ _ _ _ => (ve_call C__law_less takes0 (hr.mono (by decide)) (va_cons (ve_var 7) (va_cons (ve_call C__law_times takes0 (hr.mono (by decide)) (va_cons (ve_var 4) (va_cons (ve_var 8) va_nil))) va_nil)))))
    (vb_one (vs_setLc 1 [("thing", 3)] S.nd (by rfl) (vi_val (ve_slice (ve_var 6) vo_none (vo_some (ve_neg ve_int)))) (blkOk_by (by rfl)) (fun _ _ _ _ _ => (vg_name 3 S.nd)) (fun _ _ _ _ _ => vts_nil) (fun _ _ _ _ _ => (ve_call C__law_over takes0 (hr.mono (by decide)) (va_cons (ve_var 3) (va_cons (ve_var 5) va_nil))))))) vb_nil))))))
    (vb_one (vs_ret (ve_var 2)))))
theorem ok__law_row (T : Txt Γ K mg) (C__law_over : Cal Γ P wd K mg base 2 "_law_over" 2 [] R__law_over) (C__law_less : Cal Γ P wd K mg base 3 "_law_less" 2 [] R__law_less) (C__law_times : Cal Γ P wd K mg base 2 "_law_times" 2 [] R__law_times) {f : Addr} {fd : FuncData} (F : FunD K "_law_row" "_law_row" (defArgs s__law_row) (defBody s__law_row) (defScope s__law_row) [] [] f fd) (hm : mg "_law_row" = some (.ref f)) : Cal Γ P wd K mg base 4 "_law_row" 1 [] R__law_row :=
  Cal.of F hm rfl (fun _ _ _ _ _ _ us hl => match us, hl with | [_], _ => rfl) (fo__law_row T C__law_over C__law_less C__law_times F)
theorem sc__law_part : FnScope ["state", "one", "two", "edge", "is_out"] ["state"] (defScope s__law_part) := ⟨rfl, rfl, rfl, by decide +kernel, rfl, by decide +kernel, by decide +kernel⟩
theorem fo__law_part (T : Txt Γ K mg) (C__law_small : Cal Γ P wd K mg base 3 "_law_small" 2 [] R__law_small) (C__law_digit : Cal Γ P wd K mg base 2 "_law_digit" 2 [] R__law_digit) (C__law_cut : Cal Γ P wd K mg base 1 "_law_cut" 1 [] R__law_cut) (C__law_plus : Cal Γ P wd K mg base 2 "_law_plus" 2 [] R__law_plus) (C__law_less : Cal Γ P wd K mg base 3 "_law_less" 2 [] R__law_less) {f : Addr} {fd : FuncData} (F : FunD K "_law_part" "_law_part" (defArgs s__law_part) (defBody s__law_part) (defScope s__law_part) [] [] f fd) : FnOk P wd K mg base (L2.CX P wd) 4 f fd ["state"] (spOf Γ K 1 R__law_part) := by
  have S := sc__law_part
  refine fn_rule F sc__law_part fun cdv A outer s H E hr => ?_
  have tk : Takes (cxOf (L2.CX P wd) P wd K mg base ["state", "one", "two", "edge", "is_out"] "_law_part" (defScope s__law_part) f cdv A outer s H E) (fun c d _ H => E c d H) := takes_of rfl rfl rfl rfl
  have rm : Rm (cxOf (L2.CX P wd) P wd K mg base ["state", "one", "two", "edge", "is_out"] "_law_part" (defScope s__law_part) f cdv A outer s H E) := rm_of hr
  exact (vb_cons (vs_par 1 2 (va_cons (ve_call C__law_small tk (hr.mono (by decide)) (va_cons (ve_var 0) (va_cons ve_int va_nil))) (va_cons (ve_call C__law_small tk (hr.mono (by decide)) (va_cons (ve_var 0) (va_cons ve_int va_nil))) va_nil)) S.nd (by rfl))
    (vb_cons (vs_if (vt_eq rm (ve_call C__law_digit tk (hr.mono (by decide)) (va_cons (ve_var 0) (va_cons ve_int va_nil))) ve_int) (vb_one (vs_ret (ve_tup (va_cons (ve_call C__law_cut tk (hr.mono (by decide)) (va_cons (ve_lst (va_cons (ve_tup (va_cons ve_int (va_cons ve_int va_nil))) (va_cons (ve_var 1) va_nil))) va_nil)) (va_cons (ve_lt rm (bc_abs T.z_abs  (va_cons (ve_ix (ve_var 1) ve_int) va_nil)) (ve_ix (ve_var 1) ve_int)) va_nil))))) vb_nil)
    (vb_cons (vs_set 3 (ve_call C__law_plus tk (hr.mono (by decide)) (va_cons (ve_tup (va_cons ve_int (va_cons ve_int va_nil))) (va_cons (ve_var 2) va_nil))) S.nd)
    (vb_cons (vs_set 4 (ve_and (ve_lt rm (bc_abs T.z_abs  (va_cons (ve_ix (ve_var 2) ve_int) va_nil)) (ve_ix (ve_var 2) ve_int)) (ve_one (ve_gt rm (ve_ix (ve_call C__law_less tk (hr.mono (by decide)) (va_cons (ve_var 3) (va_cons (ve_tup (va_cons (bc_abs T.z_abs  (va_cons (ve_ix (ve_var 1) ve_int) va_nil)) (va_cons (ve_ix (ve_var 1) ve_int) va_nil))) va_nil))) ve_int) ve_int))) S.nd)
    (vb_one (vs_ret (ve_tup (va_cons (ve_call C__law_cut tk (hr.mono (by decide)) (va_cons (ve_lst (va_cons (ve_tup (va_cons ve_int (va_cons ve_int va_nil))) (va_cons (ve_var 1) (va_cons (ve_var 2) va_nil)))) va_nil)) (va_cons (ve_var 4) va_nil)))))))))
theorem ok__law_part (T : Txt Γ K mg) (C__law_small : Cal Γ P wd K mg base 3 "_law_small" 2 [] R__law_small) (C__law_digit : Cal Γ P wd K mg base 2 "_law_digit" 2 [] R__law_digit) (C__law_cut : Cal Γ P wd K mg base 1 "_law_cut" 1 [] R__law_cut) (C__law_plus : Cal Γ P wd K mg base 2 "_law_plus" 2 [] R__law_plus) (C__law_less : Cal Γ P wd K mg base 3 "_law_less" 2 [] R__law_less) {f : Addr} {fd : FuncData} (F : FunD K "_law_part" "_law_part" (defArgs s__law_part) (defBody s__law_part) (defScope s__law_part) [] [] f fd) (hm : mg "_law_part" = some (.ref f)) : Cal Γ P wd K mg base 4 "_law_part" 1 [] R__law_part :=
  Cal.of F hm rfl (fun _ _ _ _ _ _ us hl => match us, hl with | [_], _ => rfl) (fo__law_part T C__law_small C__law_digit C__law_cut C__law_plus C__law_less F)
theorem sc__law_right : FnScope ["state", "whole", "is_out", "j", "one", "holds", "told", "kept", "told_out"] ["state"] (defScope s__law_right) := ⟨rfl, rfl, rfl, by decide +kernel, rfl, by decide +kernel, by decide +kernel⟩
theorem fo__law_right (T : Txt Γ K mg) (C__law_lowest : Cal Γ P wd K mg base 1 "_law_lowest" 2 [] R__law_lowest) (C__law_digit : Cal Γ P wd K mg base 2 "_law_digit" 2 [] R__law_digit) (C__law_part : Cal Γ P wd K mg base 4 "_law_part" 1 [] R__law_part) (C__law_multiplied : Cal Γ P wd K mg base 3 "_law_multiplied" 2 [] R__law_multiplied) (C_out_row : Cal Γ P wd K mg base 4 "out_row" 1 [] R_out_row) (C__law_row : Cal Γ P wd K mg base 4 "_law_row" 1 [] R__law_row) {f : Addr} {fd : FuncData} (F : FunD K "_law_right" "_law_right" (defArgs s__law_right) (defBody s__law_right) (defScope s__law_right) [] [] f fd) : FnG P wd K mg base 5 f fd ["state"] (spOf Γ K 1 R__law_right) := by
  have S := sc__law_right
  refine fnG_rule F sc__law_right fun cdv A outer s H E gd hr => ?_
  have tk : Takes (cxOf (L2.CX P wd) P wd K mg base ["state", "whole", "is_out", "j", "one", "holds", "told", "kept", "told_out"] "_law_right" (defScope s__law_right) f cdv A outer s H E) (fun c d _ H => E c d H) := takes_of rfl rfl rfl rfl
  have rm : Rm (cxOf (L2.CX P wd) P wd K mg base ["state", "whole", "is_out", "j", "one", "holds", "told", "kept", "told_out"] "_law_right" (defScope s__law_right) f cdv A outer s H E) := rm_of hr
  exact (vb_cons (vs_par 1 2 (va_cons (ve_tup (va_cons (ve_call C__law_lowest tk (hr.mono (by decide)) (va_cons (ve_ix (ve_lst (va_cons ve_int (va_cons (ve_neg ve_int) (va_cons ve_int (va_cons (ve_neg ve_int) va_nil))))) (ve_call C__law_digit tk (hr.mono (by decide)) (va_cons (ve_var 0) (va_cons ve_int va_nil)))) (va_cons (ve_add ve_int (ve_call C__law_digit tk (hr.mono (by decide)) (va_cons (ve_var 0) (va_cons ve_int va_nil)))) va_nil))) va_nil)) (va_cons ve_bl va_nil)) S.nd (by rfl))
    (vb_cons (vs_for PassesOwn.leaving (vi_r1 (va_cons (ve_call C__law_digit tk (hr.mono (by decide)) (va_cons (ve_var 0) (va_cons ve_int va_nil))) va_nil) T.z_range) (vg_name 3 S.nd) (vb_cons (vs_asg (ve_call C__law_part tk (hr.mono (by decide)) (va_cons (ve_var 0) va_nil)) (vg_tup (vgs_cons (vg_name 4 S.nd) (vgs_cons (vg_name 5 S.nd) vgs_nil))))
    (vb_one (vs_par 1 2 (va_cons (ve_call C__law_multiplied tk (hr.mono (by decide)) (va_cons (ve_var 1) (va_cons (ve_var 4) va_nil))) (va_cons (ve_and (ve_var 2) (ve_one (ve_var 5))) va_nil)) S.nd (by rfl)))))
    (vb_cons (vs_set 6 (ve_call C_out_row tk (hr.mono (by decide)) (va_cons (ve_var 1) va_nil)) S.nd)
    (vb_cons (vs_set 7 (bc_list T.z_list  (va_cons (ve_var 6) va_nil)) S.nd)
    (vb_cons (vs_expr (bm_append (ve_var 6) (va_cons (ve_tup (va_cons ve_int (va_cons ve_int va_nil))) va_nil)))
    (vb_cons (vs_if (VW.vt (vw_or (vt_ne rm (bc_repr T.z_repr gd rm (va_cons (ve_var 7) va_nil)) (bc_repr T.z_repr gd rm (va_cons (ve_call C__law_row tk (hr.mono (by decide)) (va_cons (ve_var 1) va_nil)) va_nil))) (vw_or1 (vt_ne rm (ve_call C_out_row tk (hr.mono (by decide)) (va_cons (ve_var 1) va_nil)) (ve_var 7))))) (vb_one (vs_ret ve_bl)) vb_nil)
    (vb_cons (vs_set 6 (ve_var 7) S.nd)
    (vb_cons (vs_set 8 (ve_eq rm (ve_lc [("one", 4)] S.nd (vi_val (ve_var 6)) (blkOk_by (by rfl)) (fun _ _ _ _ _ => (vg_name 4 S.nd)) (fun _ _ _ _ _ => (vts_one (vt_ge (by exact rm) (bc_abs T.z_abs  (va_cons (ve_ix (ve_var 4) ve_int) va_nil)) (ve_ix (ve_var 4) ve_int)))) (fun _ _ _ _ _ => (ve_var 4))) (ve_lst va_nil)) S.nd)
    (vb_cons (vs_if (VW.vt (vw_or (vt_ne rm (ve_var 8) (ve_var 2)) (vw_or1 (VW.vt (vw_and (vt_val (ve_var 2)) (vw_and1 (vt_ne rm (bc_len T.z_len  (va_cons (ve_var 6) va_nil)) (ve_sub (bc_len T.z_len  (va_cons (ve_var 1) va_nil)) ve_int)))))))) (vb_one (vs_ret ve_bl)) vb_nil)
    (vb_one (vs_ret (ve_or (ve_var 2) (ve_one (ve_eq rm (ve_lc [("one", 4)] S.nd (vi_val (ve_slice (ve_var 6) vo_none (vo_some (ve_neg ve_int)))) (blkOk_by (by rfl)) (fun _ _ _ _ _ => (vg_name 4 S.nd)) (fun _ _ _ _ _ => (vts_one (vt_ge (by exact rm) (bc_abs T.z_abs  (va_cons (ve_ix (ve_var 4) ve_int) va_nil)) (ve_ix (ve_var 4) ve_int)))) (fun _ _ _ _ _ => (ve_var 4))) (ve_lst va_nil)))))))))))))))
theorem ok__law_right (T : Txt Γ K mg) (C__law_lowest : Cal Γ P wd K mg base 1 "_law_lowest" 2 [] R__law_lowest) (C__law_digit : Cal Γ P wd K mg base 2 "_law_digit" 2 [] R__law_digit) (C__law_part : Cal Γ P wd K mg base 4 "_law_part" 1 [] R__law_part) (C__law_multiplied : Cal Γ P wd K mg base 3 "_law_multiplied" 2 [] R__law_multiplied) (C_out_row : Cal Γ P wd K mg base 4 "out_row" 1 [] R_out_row) (C__law_row : Cal Γ P wd K mg base 4 "_law_row" 1 [] R__law_row) {f : Addr} {fd : FuncData} (F : FunD K "_law_right" "_law_right" (defArgs s__law_right) (defBody s__law_right) (defScope s__law_right) [] [] f fd) (hm : mg "_law_right" = some (.ref f)) : CalG Γ P wd K mg base 5 "_law_right" 1 R__law_right :=
  ⟨f, fd, ["state"], hm, F.kp, fun s us hl => FunD.bindsA (ps := ["state"]) F (fun _ _ _ _ _ _ us hl => match us, hl with | [_], _ => rfl) s us hl, rfl, fo__law_right T C__law_lowest C__law_digit C__law_part C__law_multiplied C_out_row C__law_row F⟩
theorem sc_law : FnScope ["script", "k", "cell", "state", "turn", "some", "told"] ["script"] (defScope s_law) := ⟨rfl, rfl, rfl, by decide +kernel, rfl, by decide +kernel, by decide +kernel⟩
theorem fo_law (T : Txt Γ K mg) (C__law_draw : Cal Γ P wd K mg base 1 "_law_draw" 2 [] R__law_draw) (C__law_right : CalG Γ P wd K mg base 5 "_law_right" 1 R__law_right) (C_out_row : Cal Γ P wd K mg base 4 "out_row" 1 [] R_out_row) {f : Addr} {fd : FuncData} (F : FunD K "law" "law" (defArgs s_law) (defBody s_law) (defScope s_law) [] [] f fd) : FnG P wd K mg base 6 f fd ["script"] (spOf Γ K 1 R_law) := by
  have S := sc_law
  refine fnG_rule F sc_law fun cdv A outer s H E gd hr => ?_
  have tk : Takes (cxOf (L2.CX P wd) P wd K mg base ["script", "k", "cell", "state", "turn", "some", "told"] "law" (defScope s_law) f cdv A outer s H E) (fun c d _ H => E c d H) := takes_of rfl rfl rfl rfl
  have rm : Rm (cxOf (L2.CX P wd) P wd K mg base ["script", "k", "cell", "state", "turn", "some", "told"] "law" (defScope s_law) f cdv A outer s H E) := rm_of hr
  exact (vb_cons (vs_for PassesOwn.leaving (vi_enum (va_cons (ve_add (ve_slice (ve_var 0) vo_none (vo_some ve_int)) (ve_lst (va_cons (bc_sum T.z_sum rfl (va_cons (ve_var 0) va_nil)) va_nil))) va_nil) T.z_enumerate) (vg_tup (vgs_cons (vg_name 1 S.nd) (vgs_cons (vg_name 2 S.nd) vgs_nil))) (vb_cons (vs_set 3 (ve_call C__law_draw tk (hr.mono (by decide)) (va_cons (ve_var 2) (va_cons (ve_var 1) va_nil))) S.nd)
    (vb_one (vs_for PassesOwn.leaving (vi_r1 (va_cons ve_int va_nil) T.z_range) (vg_name 4 S.nd) (vb_one (vs_if (vt_not (vt_val (ve_callG C__law_right gd tk (hr.mono (by decide)) (va_cons (ve_var 3) va_nil)))) (vb_one (vs_ret ve_bl)) vb_nil))))))
    (vb_cons (vs_set 5 (ve_tup (va_cons (ve_tup (va_cons ve_int (va_cons ve_int va_nil))) (va_cons (ve_tup (va_cons ve_int (va_cons ve_int va_nil))) (va_cons (ve_tup (va_cons ve_int (va_cons ve_int va_nil))) va_nil)))) S.nd)
    (vb_cons (vs_set 6 (ve_lst (va_cons (ve_call C_out_row tk (hr.mono (by decide)) (va_cons (ve_var 5) va_nil)) (va_cons (ve_call C_out_row tk (hr.mono (by decide)) (va_cons (ve_tup (va_cons (ve_tup (va_cons ve_int (va_cons ve_int va_nil))) va_nil)) va_nil)) (va_cons (ve_call C_out_row tk (hr.mono (by decide)) (va_cons (ve_tup (va_cons (ve_tup (va_cons ve_int (va_cons ve_int va_nil))) (va_cons (ve_tup (va_cons ve_int (va_cons ve_int va_nil))) (va_cons (ve_tup (va_cons (ve_neg ve_int) (va_cons ve_int va_nil))) va_nil)))) va_nil)) va_nil)))) S.nd)
    (vb_one (vs_ret (ve_eq rm (ve_var 6) (ve_lst (va_cons (ve_lst (va_cons (ve_tup (va_cons ve_int (va_cons ve_int va_nil))) (va_cons (ve_tup (va_cons ve_int (va_cons ve_int va_nil))) va_nil))) (va_cons (ve_lst va_nil) (va_cons (ve_lst (va_cons (ve_tup (va_cons (ve_neg ve_int) (va_cons ve_int va_nil))) va_nil)) va_nil))))))))))
end
end G
set_option Elab.async false
set_option linter.all false
set_option maxRecDepth 100000
set_option maxHeartbeats 0
namespace G
open PySem PySem.Spec PyProof.Rows L2
def gm (K : PySem.W.Frag) : Gm := ⟨fun c => 0, fun _ => True, fun _ _ _ _ _ => trivial, fun _ => True, fun _ _ _ _ => trivial⟩
theorem facts {P : Program} {wd : World} {K : PySem.W.Frag} {h : Heap} {mg : Str → Option Value} {f : Addr} (X : K.In h) (G : h.Ns mainGlobals mg) (hfa : mg ("law" : Str) = some (.ref f)) (c : He.SaysD fa fn K) (ce : ex K = true) :
    ∃ fd : FuncData, (∀ (s : Shared) (v : Value), BindsTo s fd ⟨[v], []⟩ [("script", v)]) ∧ ∀ base : Heap, K.In base → base.Ns mainGlobals mg → FnG P wd K mg base 6 f fd ["script"] (spOf (gm K) K 1 R_law) := by
  unfold ex at ce
  obtain ⟨fd_is_whole, F_is_whole⟩ := c.def_ 0 (d := d_is_whole) (by rfl)
  have g_is_whole := He.glo_ok X G (c.fact 0 (f := .glo "is_whole") (by rfl))
  obtain ⟨fd_common, F_common⟩ := c.def_ 1 (d := d_common) (by rfl)
  have g_common := He.glo_ok X G (c.fact 1 (f := .glo "common") (by rfl))
  obtain ⟨fd_is_nought, F_is_nought⟩ := c.def_ 2 (d := d_is_nought) (by rfl)
  have g_is_nought := He.glo_ok X G (c.fact 2 (f := .glo "is_nought") (by rfl))
  obtain ⟨fd__law_mixed, F__law_mixed⟩ := c.def_ 3 (d := d__law_mixed) (by rfl)
  have g__law_mixed := He.glo_ok X G (c.fact 3 (f := .glo "_law_mixed") (by rfl))
  obtain ⟨fd__law_draw, F__law_draw⟩ := c.def_ 4 (d := d__law_draw) (by rfl)
  have g__law_draw := He.glo_ok X G (c.fact 4 (f := .glo "_law_draw") (by rfl))
  obtain ⟨fd__law_lowest, F__law_lowest⟩ := c.def_ 5 (d := d__law_lowest) (by rfl)
  have g__law_lowest := He.glo_ok X G (c.fact 5 (f := .glo "_law_lowest") (by rfl))
  obtain ⟨fd__law_cut, F__law_cut⟩ := c.def_ 6 (d := d__law_cut) (by rfl)
  have g__law_cut := He.glo_ok X G (c.fact 6 (f := .glo "_law_cut") (by rfl))
  obtain ⟨fd_is_fraction, F_is_fraction⟩ := c.def_ 7 (d := d_is_fraction) (by rfl)
  have g_is_fraction := He.glo_ok X G (c.fact 7 (f := .glo "is_fraction") (by rfl))
  obtain ⟨fd_lowest, F_lowest⟩ := c.def_ 8 (d := d_lowest) (by rfl)
  have g_lowest := He.glo_ok X G (c.fact 8 (f := .glo "lowest") (by rfl))
  obtain ⟨fd__law_digit, F__law_digit⟩ := c.def_ 9 (d := d__law_digit) (by rfl)
  have g__law_digit := He.glo_ok X G (c.fact 9 (f := .glo "_law_digit") (by rfl))
  obtain ⟨fd__law_plus, F__law_plus⟩ := c.def_ 10 (d := d__law_plus) (by rfl)
  have g__law_plus := He.glo_ok X G (c.fact 10 (f := .glo "_law_plus") (by rfl))
  obtain ⟨fd__law_times, F__law_times⟩ := c.def_ 11 (d := d__law_times) (by rfl)
  have g__law_times := He.glo_ok X G (c.fact 11 (f := .glo "_law_times") (by rfl))
  obtain ⟨fd__law_over, F__law_over⟩ := c.def_ 12 (d := d__law_over) (by rfl)
  have g__law_over := He.glo_ok X G (c.fact 12 (f := .glo "_law_over") (by rfl))
  obtain ⟨fd_less, F_less⟩ := c.def_ 13 (d := d_less) (by rfl)
  have g_less := He.glo_ok X G (c.fact 13 (f := .glo "less") (by rfl))
  obtain ⟨fd_times, F_times⟩ := c.def_ 14 (d := d_times) (by rfl)
  have g_times := He.glo_ok X G (c.fact 14 (f := .glo "times") (by rfl))
  obtain ⟨fd_over, F_over⟩ := c.def_ 15 (d := d_over) (by rfl)
  have g_over := He.glo_ok X G (c.fact 15 (f := .glo "over") (by rfl))
  obtain ⟨fd_need_polynomial, F_need_polynomial⟩ := c.def_ 16 (d := d_need_polynomial) (by rfl)
  have g_need_polynomial := He.glo_ok X G (c.fact 16 (f := .glo "need_polynomial") (by rfl))
  obtain ⟨fd__law_multiplied, F__law_multiplied⟩ := c.def_ 17 (d := d__law_multiplied) (by rfl)
  have g__law_multiplied := He.glo_ok X G (c.fact 17 (f := .glo "_law_multiplied") (by rfl))
  obtain ⟨fd__law_less, F__law_less⟩ := c.def_ 18 (d := d__law_less) (by rfl)
  have g__law_less := He.glo_ok X G (c.fact 18 (f := .glo "_law_less") (by rfl))
  obtain ⟨fd__law_small, F__law_small⟩ := c.def_ 19 (d := d__law_small) (by rfl)
  have g__law_small := He.glo_ok X G (c.fact 19 (f := .glo "_law_small") (by rfl))
  obtain ⟨fd_out_row, F_out_row⟩ := c.def_ 20 (d := d_out_row) (by rfl)
  have g_out_row := He.glo_ok X G (c.fact 20 (f := .glo "out_row") (by rfl))
  obtain ⟨fd__law_row, F__law_row⟩ := c.def_ 21 (d := d__law_row) (by rfl)
  have g__law_row := He.glo_ok X G (c.fact 21 (f := .glo "_law_row") (by rfl))
  obtain ⟨fd__law_part, F__law_part⟩ := c.def_ 22 (d := d__law_part) (by rfl)
  have g__law_part := He.glo_ok X G (c.fact 22 (f := .glo "_law_part") (by rfl))
  obtain ⟨fd__law_right, F__law_right⟩ := c.def_ 23 (d := d__law_right) (by rfl)
  have g__law_right := He.glo_ok X G (c.fact 23 (f := .glo "_law_right") (by rfl))
  obtain ⟨fd_law, F_law⟩ := c.def_ 24 (d := d_law) (by rfl)
  have g_law := He.glo_ok X G (c.fact 24 (f := .glo "law") (by rfl))
  have T : Txt (gm K) K mg := ⟨He.free_ok X G (c.fact 25 (f := .free "abs") (by rfl)), He.free_ok X G (c.fact 26 (f := .free "bool") (by rfl)), He.free_ok X G (c.fact 27 (f := .free "enumerate") (by rfl)), He.free_ok X G (c.fact 28 (f := .free "int") (by rfl)), He.free_ok X G (c.fact 29 (f := .free "isinstance") (by rfl)), He.free_ok X G (c.fact 30 (f := .free "len") (by rfl)), He.free_ok X G (c.fact 31 (f := .free "list") (by rfl)), He.free_ok X G (c.fact 32 (f := .free "range") (by rfl)), He.free_ok X G (c.fact 33 (f := .free "repr") (by rfl)), He.free_ok X G (c.fact 34 (f := .free "sum") (by rfl)), He.free_ok X G (c.fact 35 (f := .free "tuple") (by rfl)), He.free_ok X G (c.fact 36 (f := .free "zip") (by rfl)), gl_tup (He.glo_ok X G (c.fact 37 (f := .glo "ONE") (by rfl))) (He.tupB_ok ce) (fun _ => .cons (.int 1) (.cons (.int 1) (.nil)))⟩
  have e := hfa.symm.trans g_law
  cases e
  have b := FunD.bindsA (ps := ["script"]) F_law fun _ _ _ _ _ _ us hl => match us, hl with | [_], _ => rfl
  refine ⟨fd_law, fun s v => b s [v] rfl, fun base _ _ => ?_⟩
  have C_is_whole : Cal (gm K) P wd K mg base 1 "is_whole" 1 [] R_is_whole := ok_is_whole T  F_is_whole g_is_whole
  have C_common : Cal (gm K) P wd K mg base 1 "common" 2 [] R_common := ok_common T  F_common g_common
  have C_is_nought : Cal (gm K) P wd K mg base 1 "is_nought" 1 [] R_is_nought := ok_is_nought T  F_is_nought g_is_nought
  have C__law_mixed : Cal (gm K) P wd K mg base 1 "_law_mixed" 2 [] R__law_mixed := ok__law_mixed T  F__law_mixed g__law_mixed
  have C__law_draw : Cal (gm K) P wd K mg base 1 "_law_draw" 2 [] R__law_draw := ok__law_draw T  F__law_draw g__law_draw
  have C__law_lowest : Cal (gm K) P wd K mg base 1 "_law_lowest" 2 [] R__law_lowest := ok__law_lowest T  F__law_lowest g__law_lowest
  have C__law_cut : Cal (gm K) P wd K mg base 1 "_law_cut" 1 [] R__law_cut := ok__law_cut T  F__law_cut g__law_cut
  have C_is_fraction : Cal (gm K) P wd K mg base 2 "is_fraction" 1 [] R_is_fraction := ok_is_fraction T C_is_whole C_common F_is_fraction g_is_fraction
  have C_lowest : Cal (gm K) P wd K mg base 2 "lowest" 2 [] R_lowest := ok_lowest T C_common F_lowest g_lowest
  have C__law_digit : Cal (gm K) P wd K mg base 2 "_law_digit" 2 [] R__law_digit := ok__law_digit T C__law_mixed F__law_digit g__law_digit
  have C__law_plus : Cal (gm K) P wd K mg base 2 "_law_plus" 2 [] R__law_plus := ok__law_plus T C__law_lowest F__law_plus g__law_plus
  have C__law_times : Cal (gm K) P wd K mg base 2 "_law_times" 2 [] R__law_times := ok__law_times T C__law_lowest F__law_times g__law_times
  have C__law_over : Cal (gm K) P wd K mg base 2 "_law_over" 2 [] R__law_over := ok__law_over T C__law_lowest F__law_over g__law_over
  have C_less : Cal (gm K) P wd K mg base 3 "less" 2 [] R_less := ok_less T C_lowest F_less g_less
  have C_times : Cal (gm K) P wd K mg base 3 "times" 2 [] R_times := ok_times T C_lowest F_times g_times
  have C_over : Cal (gm K) P wd K mg base 3 "over" 2 [] R_over := ok_over T C_is_nought C_lowest F_over g_over
  have C_need_polynomial : Cal (gm K) P wd K mg base 3 "need_polynomial" 1 [] R_need_polynomial := ok_need_polynomial T C_is_fraction C_is_nought F_need_polynomial g_need_polynomial
  have C__law_multiplied : Cal (gm K) P wd K mg base 3 "_law_multiplied" 2 [] R__law_multiplied := ok__law_multiplied T C__law_plus C__law_times C__law_cut F__law_multiplied g__law_multiplied
  have C__law_less : Cal (gm K) P wd K mg base 3 "_law_less" 2 [] R__law_less := ok__law_less T C__law_plus F__law_less g__law_less
  have C__law_small : Cal (gm K) P wd K mg base 3 "_law_small" 2 [] R__law_small := ok__law_small T C__law_digit C__law_lowest F__law_small g__law_small
  have C_out_row : Cal (gm K) P wd K mg base 4 "out_row" 1 [] R_out_row := ok_out_row T C_need_polynomial C_is_nought C_over C_less C_times F_out_row g_out_row
  have C__law_row : Cal (gm K) P wd K mg base 4 "_law_row" 1 [] R__law_row := ok__law_row T C__law_over C__law_less C__law_times F__law_row g__law_row
  have C__law_part : Cal (gm K) P wd K mg base 4 "_law_part" 1 [] R__law_part := ok__law_part T C__law_small C__law_digit C__law_cut C__law_plus C__law_less F__law_part g__law_part
  have C__law_right : CalG (gm K) P wd K mg base 5 "_law_right" 1 R__law_right := ok__law_right T C__law_lowest C__law_digit C__law_part C__law_multiplied C_out_row C__law_row F__law_right g__law_right
  exact fo_law T C__law_draw C__law_right C_out_row F_law
theorem good0 {K : PySem.W.Frag} {H : Hp} : Good (gm K) K ⟨[], [], H⟩ :=
  ⟨rfl, List.nodup_nil, fun a h => (by cases h), fun n a c h => (by cases h), trivial, trivial⟩
theorem im0 {H : Hp} {a : Addr} {o : HO} (h : H a = some o) (ht : ∀ ps, o ≠ .tbl ps) : (Wd.mk [] [] H).im a = some o :=
  Wd.im_of (w := ⟨[], [], H⟩) h (fun ⟨n, c, e, _⟩ => by cases e) ht
theorem dpInts {K : PySem.W.Frag} {H : Hp} : ∀ ns : List Int, DpAll K H (ns.map V.int) (ns.map PyData.int)
  | [] => .nil
  | n :: r => .cons (.int n) (dpInts r)
theorem sp_law {K : PySem.W.Frag} {H : Hp} {a : Addr} {ns : List Int} (hl : ns.length ≤ 63) (hS : SqL K H a (ns.map V.int)) : spOf (gm K) K 1 R_law [.ref a] H (fun v _ => v = .bl true) fun _ _ _ => False := by
  obtain ⟨S', e⟩ := law_true ns hl
  have hS' : SqL K (Wd.mk [] [] H).im a (ns.map V.int) := by
    rcases hS with h | h
    · rcases h with h | ⟨o, h⟩
      · exact .inl (.inl (im0 h fun ps z => by cases z))
      · exact .inl (.inr ⟨o, im0 h fun ps z => by cases z⟩)
    · exact .inr h
  refine ⟨rfl, ⟨[], [], H⟩, [.d (.list (ns.map PyData.int))], rfl, good0, .cons (show Dp K _ _ _ from .lst hS' (dpInts ns)) .nil, ?_⟩
  show Post (gm K) K (RW K) ⟨[], [], H⟩ [] _ (R_law _ []) _
  rw [e]
  intro w1 v _ _ _ r
  cases (show Dp K w1.im v (.bool true) from r)
  rfl
end G
open PySem PySem.W PySem.Calls PyProof.Rows
theorem PySem.Challenge.cw_evenwheels_k33_out_rows_holds : PySem.Challenge.rw_evenwheels_k33_out_rows.Holds := by
  w_on; o_law
  refine HandSHeadRun.head_any (r := OpenLaw.row PySem.Challenge.rw_evenwheels_k33_out_rows) (q := view (OpenLaw.row PySem.Challenge.rw_evenwheels_k33_out_rows).prog [32]) (H := G.hk) (ob := G.ob) (M := 40000) (loose := G.lo) (d := HandSHeadRun.topDef (OpenLaw.row PySem.Challenge.rw_evenwheels_k33_out_rows).prog 32) (kwd := []) G.ob_eq
    (by kernel_rfl) (fun s => by kernel_rfl) G.run (by kernel_rfl) (by kernel_rfl) (by kernel_rfl) (by rfl) (by first | assumption | decide +kernel) (by decide +kernel) ⟨rfl, rfl, rfl, rfl, rfl, by decide +kernel⟩ ?hw ?hc
  case hw => w_witness2
  case hc =>
    refine G.end_law (l := PySem.Challenge.rw_evenwheels_k33_out_rows) (n := 63) (k := 6) (x := "script") rfl (by decide) (by kernel_rfl) ⟨rfl, by decide, by decide⟩ ?F
    case F =>
      intro w mg fa h Y G0 hmg0
      obtain ⟨K, KX, c⟩ := Y
      have hmg : mg ("law" : PySem.Str) = some (.ref fa) := by
        have e : (HandSHeadRun.topDef (OpenLaw.row PySem.Challenge.rw_evenwheels_k33_out_rows).prog 32).name = ("law" : PySem.Str) := by kernel_rfl
        rw [← e]
        exact hmg0
      obtain ⟨fd, hb, hF⟩ := G.facts (P := (PySem.Challenge.rw_evenwheels_k33_out_rows).prog) (wd := w) KX G0 hmg c.t.d c.more
      exact ⟨K, fd, G.spOf (G.gm K) K 1 G.R_law, KX, hb, (fun H a ns hl hS => G.sp_law hl hS), (fun base hK hG => hF base hK hG)⟩
