import PyProof.Rows.All
import Wide.All
import OpenK.AllK
import Wide.FinOn
import Lean
import PySem.Challenge.RW_nu0148_01
open PySem PySem.W PyProof.Rows
set_option Elab.async false
namespace Mine
set_option rowWalk.seconds 0
set_option compiler.extract_closed false
set_option maxRecDepth 100000 in
set_option maxHeartbeats 8000000 in
open_top hd for PySem.Challenge.rw_nu0148_01

/-! the tables of small sets: every table that can come of adding 0 and then some of 1, 2, 3, 4, 900, 65535 -/
noncomputable def blank (hs : Array Int) : Array (Int × Value) := hs.map fun h => (h, Value.none)
noncomputable def layT (t : SetTable) (hs : Array Int) (h : Int) : SetTable × Array Int :=
  let L := layNew t (blank hs) h .none
  if (!L.2.2.1 && L.2.1.tooFull) = true then
    ((relayAll L.2.1 (blank (L.1.map (·.1))) (SetTable.grown L.1.size)).2.1, (relayAll L.2.1 (blank (L.1.map (·.1))) (SetTable.grown L.1.size)).1.map (·.1))
  else (L.2.1, L.1.map (·.1))
noncomputable def okT (t : SetTable) (n : Nat) : Bool := t.plain && t.fits n && (List.range (n + 1)).all fun i => SetTable.below t.place (if i = 0 then 0 else t.place.getD (i - 1) 0 + 1) == i
noncomputable def dom : List Int := [0, 1, 2, 3, 4, 900, 65535]
noncomputable def tabs : List ((Nat × List Nat × List Int × Nat) × List (Int × Nat)) := [
  ((7, [0], [0], 0), [(1, 1), (2, 2), (3, 3), (4, 4), (900, 5), (65535, 6)]),
  ((7, [0, 1], [0, 1], 0), [(2, 7), (3, 8), (4, 9), (900, 10), (65535, 11)]),
  ((7, [0, 2], [0, 2], 0), [(1, 7), (3, 12), (4, 13), (900, 14), (65535, 15)]),
  ((7, [0, 3], [0, 3], 0), [(1, 8), (2, 12), (4, 16), (900, 17), (65535, 18)]),
  ((7, [0, 4], [0, 4], 0), [(1, 9), (2, 13), (3, 16), (900, 19), (65535, 20)]),
  ((7, [0, 4], [0, 900], 0), [(1, 10), (2, 14), (3, 17), (4, 21), (65535, 22)]),
  ((7, [0, 7], [0, 65535], 0), [(1, 11), (2, 15), (3, 18), (4, 20), (900, 22)]),
  ((7, [0, 1, 2], [0, 1, 2], 0), [(3, 23), (4, 24), (900, 25), (65535, 26)]),
  ((7, [0, 1, 3], [0, 1, 3], 0), [(2, 23), (4, 27), (900, 28), (65535, 29)]),
  ((7, [0, 1, 4], [0, 1, 4], 0), [(2, 24), (3, 27), (900, 30), (65535, 31)]),
  ((7, [0, 1, 4], [0, 1, 900], 0), [(2, 25), (3, 28), (4, 32), (65535, 33)]),
  ((7, [0, 1, 7], [0, 1, 65535], 0), [(2, 26), (3, 29), (4, 31), (900, 33)]),
  ((7, [0, 2, 3], [0, 2, 3], 0), [(1, 23), (4, 34), (900, 35), (65535, 36)]),
  ((7, [0, 2, 4], [0, 2, 4], 0), [(1, 24), (3, 34), (900, 37), (65535, 38)]),
  ((7, [0, 2, 4], [0, 2, 900], 0), [(1, 25), (3, 35), (4, 39), (65535, 40)]),
  ((7, [0, 2, 7], [0, 2, 65535], 0), [(1, 26), (3, 36), (4, 38), (900, 40)]),
  ((7, [0, 3, 4], [0, 3, 4], 0), [(1, 27), (2, 34), (900, 41), (65535, 42)]),
  ((7, [0, 3, 4], [0, 3, 900], 0), [(1, 28), (2, 35), (4, 43), (65535, 44)]),
  ((7, [0, 3, 7], [0, 3, 65535], 0), [(1, 29), (2, 36), (4, 42), (900, 44)]),
  ((7, [0, 1, 4], [0, 900, 4], 0), [(1, 45), (2, 37), (3, 41), (65535, 46)]),
  ((7, [0, 4, 7], [0, 4, 65535], 0), [(1, 31), (2, 38), (3, 42), (900, 46)]),
  ((7, [0, 4, 5], [0, 900, 4], 0), [(1, 32), (2, 39), (3, 43), (65535, 47)]),
  ((7, [0, 4, 7], [0, 900, 65535], 0), [(1, 33), (2, 40), (3, 44), (4, 47)]),
  ((7, [0, 1, 2, 3], [0, 1, 2, 3], 0), [(4, 48), (900, 49), (65535, 50)]),
  ((7, [0, 1, 2, 4], [0, 1, 2, 4], 0), [(3, 48), (900, 51), (65535, 52)]),
  ((7, [0, 1, 2, 4], [0, 1, 2, 900], 0), [(3, 49), (4, 53), (65535, 54)]),
  ((7, [0, 1, 2, 7], [0, 1, 2, 65535], 0), [(3, 50), (4, 52), (900, 54)]),
  ((7, [0, 1, 3, 4], [0, 1, 3, 4], 0), [(2, 48), (900, 55), (65535, 56)]),
  ((7, [0, 1, 3, 4], [0, 1, 3, 900], 0), [(2, 49), (4, 57), (65535, 58)]),
  ((7, [0, 1, 3, 7], [0, 1, 3, 65535], 0), [(2, 50), (4, 56), (900, 58)]),
  ((7, [0, 1, 4, 6], [0, 1, 4, 900], 0), [(2, 51), (3, 55), (65535, 59)]),
  ((7, [0, 1, 4, 7], [0, 1, 4, 65535], 0), [(2, 52), (3, 56), (900, 59)]),
  ((7, [0, 1, 4, 5], [0, 1, 900, 4], 0), [(2, 53), (3, 57), (65535, 60)]),
  ((7, [0, 1, 4, 7], [0, 1, 900, 65535], 0), [(2, 54), (3, 58), (4, 60)]),
  ((7, [0, 2, 3, 4], [0, 2, 3, 4], 0), [(1, 48), (900, 61), (65535, 62)]),
  ((7, [0, 2, 3, 4], [0, 2, 3, 900], 0), [(1, 49), (4, 61), (65535, 63)]),
  ((7, [0, 2, 3, 7], [0, 2, 3, 65535], 0), [(1, 50), (4, 62), (900, 63)]),
  ((7, [0, 1, 2, 4], [0, 900, 2, 4], 0), [(1, 53), (3, 61), (65535, 64)]),
  ((7, [0, 2, 4, 7], [0, 2, 4, 65535], 0), [(1, 52), (3, 62), (900, 64)]),
  ((7, [0, 2, 4, 5], [0, 2, 900, 4], 0), [(1, 53), (3, 61), (65535, 64)]),
  ((7, [0, 2, 4, 7], [0, 2, 900, 65535], 0), [(1, 54), (3, 63), (4, 64)]),
  ((7, [0, 1, 3, 4], [0, 900, 3, 4], 0), [(1, 57), (2, 61), (65535, 65)]),
  ((7, [0, 3, 4, 7], [0, 3, 4, 65535], 0), [(1, 56), (2, 62), (900, 65)]),
  ((7, [0, 3, 4, 5], [0, 3, 900, 4], 0), [(1, 57), (2, 61), (65535, 65)]),
  ((7, [0, 3, 4, 7], [0, 3, 900, 65535], 0), [(1, 58), (2, 63), (4, 65)]),
  ((7, [0, 1, 4, 6], [0, 900, 4, 1], 0), [(2, 53), (3, 57), (65535, 60)]),
  ((7, [0, 1, 4, 7], [0, 900, 4, 65535], 0), [(1, 60), (2, 64), (3, 65)]),
  ((7, [0, 4, 5, 7], [0, 900, 4, 65535], 0), [(1, 60), (2, 64), (3, 65)]),
  ((31, [0, 1, 2, 3, 4], [0, 1, 2, 3, 4], 1), [(900, 66), (65535, 67)]),
  ((31, [0, 1, 2, 3, 4], [0, 1, 2, 3, 900], 1), [(4, 68), (65535, 69)]),
  ((31, [0, 1, 2, 3, 31], [0, 1, 2, 3, 65535], 1), [(4, 67), (900, 69)]),
  ((31, [0, 1, 2, 4, 5], [0, 1, 2, 4, 900], 1), [(3, 66), (65535, 70)]),
  ((31, [0, 1, 2, 4, 31], [0, 1, 2, 4, 65535], 1), [(3, 67), (900, 70)]),
  ((31, [0, 1, 2, 4, 5], [0, 1, 2, 900, 4], 1), [(3, 68), (65535, 71)]),
  ((31, [0, 1, 2, 4, 31], [0, 1, 2, 900, 65535], 1), [(3, 69), (4, 71)]),
  ((31, [0, 1, 3, 4, 5], [0, 1, 3, 4, 900], 1), [(2, 66), (65535, 72)]),
  ((31, [0, 1, 3, 4, 31], [0, 1, 3, 4, 65535], 1), [(2, 67), (900, 72)]),
  ((31, [0, 1, 3, 4, 5], [0, 1, 3, 900, 4], 1), [(2, 68), (65535, 73)]),
  ((31, [0, 1, 3, 4, 31], [0, 1, 3, 900, 65535], 1), [(2, 69), (4, 73)]),
  ((31, [0, 1, 4, 5, 31], [0, 1, 4, 900, 65535], 1), [(2, 70), (3, 72)]),
  ((31, [0, 1, 4, 5, 31], [0, 1, 900, 4, 65535], 1), [(2, 71), (3, 73)]),
  ((31, [0, 2, 3, 4, 5], [0, 2, 3, 900, 4], 1), [(1, 68), (65535, 74)]),
  ((31, [0, 2, 3, 4, 31], [0, 2, 3, 4, 65535], 1), [(1, 67), (900, 75)]),
  ((31, [0, 2, 3, 4, 31], [0, 2, 3, 900, 65535], 1), [(1, 69), (4, 74)]),
  ((31, [0, 2, 4, 5, 31], [0, 2, 900, 4, 65535], 1), [(1, 71), (3, 74)]),
  ((31, [0, 3, 4, 5, 31], [0, 3, 900, 4, 65535], 1), [(1, 73), (2, 74)]),
  ((31, [0, 1, 2, 3, 4, 5], [0, 1, 2, 3, 4, 900], 1), [(65535, 76)]),
  ((31, [0, 1, 2, 3, 4, 31], [0, 1, 2, 3, 4, 65535], 1), [(900, 76)]),
  ((31, [0, 1, 2, 3, 4, 5], [0, 1, 2, 3, 900, 4], 1), [(65535, 77)]),
  ((31, [0, 1, 2, 3, 4, 31], [0, 1, 2, 3, 900, 65535], 1), [(4, 77)]),
  ((31, [0, 1, 2, 4, 5, 31], [0, 1, 2, 4, 900, 65535], 1), [(3, 76)]),
  ((31, [0, 1, 2, 4, 5, 31], [0, 1, 2, 900, 4, 65535], 1), [(3, 77)]),
  ((31, [0, 1, 3, 4, 5, 31], [0, 1, 3, 4, 900, 65535], 1), [(2, 76)]),
  ((31, [0, 1, 3, 4, 5, 31], [0, 1, 3, 900, 4, 65535], 1), [(2, 77)]),
  ((31, [0, 2, 3, 4, 5, 31], [0, 2, 3, 900, 4, 65535], 1), [(1, 77)]),
  ((31, [0, 2, 3, 4, 5, 31], [0, 2, 3, 4, 900, 65535], 1), [(1, 76)]),
  ((31, [0, 1, 2, 3, 4, 5, 31], [0, 1, 2, 3, 4, 900, 65535], 1), []),
  ((31, [0, 1, 2, 3, 4, 5, 31], [0, 1, 2, 3, 900, 4, 65535], 1), [])]

noncomputable def tb (led : Bool) (s : Nat × List Nat × List Int × Nat) : SetTable := { mask := s.1, place := s.2.1.toArray, dummies := #[], finger := 0, led := led, moves := s.2.2.2, plain := true }
noncomputable def stepOk (led : Bool) (p : (Nat × List Nat × List Int × Nat) × List (Int × Nat)) : Bool := p.2.all fun x => match tabs[x.2]? with
  | some q => decide (layT (tb led p.1) p.1.2.2.1.toArray x.1 = (tb led q.1, q.1.2.2.1.toArray))
  | none => false
set_option maxRecDepth 100000 in
theorem tabs_true : tabs.all (stepOk true) = true := by decide +kernel
set_option maxRecDepth 100000 in
theorem tabs_false : tabs.all (stepOk false) = true := by decide +kernel
set_option maxRecDepth 100000 in
theorem tabs_dom : (tabs.all fun p => dom.all fun h => p.1.2.2.1.contains h || p.2.any fun x => x.1 == h) = true := by decide +kernel
set_option maxRecDepth 100000 in
theorem tabs_ok_true : (tabs.all fun p => okT (tb true p.1) p.1.2.2.1.length) = true := by decide +kernel
set_option maxRecDepth 100000 in
theorem tabs_ok_false : (tabs.all fun p => okT (tb false p.1) p.1.2.2.1.length) = true := by decide +kernel

theorem insertAt_map {α β : Type} (f : α → β) (xs : Array α) (p : Nat) (x : α) : (SetTable.insertAt xs p x).map f = SetTable.insertAt (xs.map f) p (f x) := by
  apply Array.toList_inj.mp
  rw [Array.toList_map, SetTable.toList_insertAt, SetTable.toList_insertAt, Array.toList_map, List.map_append, List.map_cons, List.map_take, List.map_drop]
theorem insertAt_size {α : Type} (xs : Array α) (p : Nat) (x : α) : (SetTable.insertAt xs p x).size = xs.size + 1 := by
  rw [← Array.length_toList, (SetTable.insertAt_perm xs p x).length_eq, Array.length_toList, Array.size_push]
theorem layNew_like (t : SetTable) {es fs : Array (Int × Value)} (h : Int) (x y : Value) (e : es.map (·.1) = fs.map (·.1)) :
    (layNew t es h x).2 = (layNew t fs h y).2 ∧ (layNew t es h x).1.map (·.1) = (layNew t fs h y).1.map (·.1) := by
  have hs : es.size = fs.size := by have := congrArg Array.size e; simpa using this
  unfold layNew
  cases t.freeSlot h with
  | none =>
    dsimp only
    refine ⟨by rw [hs], ?_⟩
    rw [Array.map_push, Array.map_push, e]
  | some q =>
    obtain ⟨slot, d⟩ := q
    dsimp only
    generalize t.put slot = tp
    obtain ⟨t', p⟩ := tp
    dsimp only
    refine ⟨by rw [insertAt_size, insertAt_size, hs], ?_⟩
    rw [insertAt_map, insertAt_map, e]
theorem pick_map (order : Array Nat) {es fs : Array (Int × Value)} (e : es.map (·.1) = fs.map (·.1)) : (order.filterMap (es[·]?)).map (·.1) = (order.filterMap (fs[·]?)).map (·.1) := by
  apply Array.toList_inj.mp
  rw [Array.toList_map, Array.toList_map, Array.toList_filterMap, Array.toList_filterMap, List.map_filterMap, List.map_filterMap]
  have : (fun i : Nat => Option.map (fun q : Int × Value => q.1) es[i]?) = fun i : Nat => Option.map (fun q : Int × Value => q.1) fs[i]? := by
    funext i
    rw [← Array.getElem?_map, ← Array.getElem?_map, e]
  rw [this]
theorem relayAll_like (t : SetTable) {es fs : Array (Int × Value)} (n : Nat) (e : es.map (·.1) = fs.map (·.1)) :
    (relayAll t es n).2.1 = (relayAll t fs n).2.1 ∧ (relayAll t es n).1.map (·.1) = (relayAll t fs n).1.map (·.1) := by
  have hs : es.size = fs.size := by have := congrArg Array.size e; simpa using this
  unfold relayAll
  rw [e]
  cases t.relaid (fs.map (·.1)) n with
  | none => dsimp only; exact ⟨by rw [hs], e⟩
  | some q =>
    obtain ⟨t', order⟩ := q
    dsimp only
    have e2 := pick_map order e
    have hs2 : (order.filterMap (es[·]?)).size = (order.filterMap (fs[·]?)).size := by have := congrArg Array.size e2; simpa using this
    rw [hs, hs2]
    split
    · exact ⟨rfl, e2⟩
    · exact ⟨rfl, e⟩
theorem blank_map (hs : Array Int) : (blank hs).map (·.1) = hs := by
  unfold blank
  apply Array.toList_inj.mp
  rw [Array.toList_map, Array.toList_map, List.map_map]
  exact List.map_id' _
/-- what adding makes of a table and its elements, in the terms of layT -/
theorem add_like (t : SetTable) (es : Array (Int × Value)) (h : Int) (x : Value) :
    (layT t (es.map (·.1)) h) = if (!(layNew t es h x).2.2.1 && (layNew t es h x).2.1.tooFull) = true then
      ((relayAll (layNew t es h x).2.1 (layNew t es h x).1 (SetTable.grown (layNew t es h x).1.size)).2.1, (relayAll (layNew t es h x).2.1 (layNew t es h x).1 (SetTable.grown (layNew t es h x).1.size)).1.map (·.1))
      else ((layNew t es h x).2.1, (layNew t es h x).1.map (·.1)) := by
  obtain ⟨e1, e2⟩ := layNew_like t (es := es) (fs := blank (es.map (·.1))) h x .none (blank_map _).symm
  have hz : (layNew t (blank (es.map (·.1))) h .none).1.size = (layNew t es h x).1.size := by have := congrArg Array.size e2; simpa using this.symm
  unfold layT
  dsimp only
  rw [← e1, ← e2, hz]
  split
  · obtain ⟨r1, r2⟩ := relayAll_like (layNew t es h x).2.1 (es := (layNew t es h x).1) (fs := blank ((layNew t es h x).1.map (·.1))) (SetTable.grown (layNew t es h x).1.size) (blank_map _).symm
    rw [r1, r2]
  · rfl

noncomputable def Entries (es : Array (Int × Value)) : Prop := ∀ e ∈ es.toList, hashInt e.1 = e.1 ∧ ∃ tk, e.2 = .int e.1 tk
theorem Entries.elems {prog : Program} {w : World} {es : Array (Int × Value)} (h : Entries es) : ElemsOf (intKind prog w) es.toList := fun e he => by
  obtain ⟨h1, tk, h2⟩ := h e he
  exact ⟨⟨e.1, by rw [h2]; exact intKind_is _ _ _ _, h1.symm⟩, by rw [h2]; rfl⟩
theorem Entries.perm {es es' : Array (Int × Value)} (h : Entries es) {x : Int} {tk : Tok} (hx : hashInt x = x) (p : es'.toList.Perm (es.toList ++ [(x, .int x tk)])) : Entries es' := fun e he => by
  rcases List.mem_append.mp (p.mem_iff.mp he) with h1 | h1
  · exact h e h1
  · rw [List.mem_singleton.mp h1]; exact ⟨hx, tk, rfl⟩
theorem Entries.find {prog : Program} {w : World} {es : Array (Int × Value)} (h : Entries es) {x : Int} (hx : x ∉ es.toList.map (·.1)) : es.toList.findIdx? (fun e => (intKind prog w).is x e.2) = none := by
  rw [List.findIdx?_eq_none_iff]
  intro e he
  obtain ⟨_, tk, h2⟩ := h e he
  cases q : (intKind prog w).is x e.2 with
  | false => rfl
  | true =>
    rw [h2] at q
    exact absurd (List.mem_map.mpr ⟨e, he, ((intKind prog w).inj _ x e.1 q (intKind_is _ _ _ _)).symm⟩) hx
theorem Entries.found {prog : Program} {w : World} {es : Array (Int × Value)} (h : Entries es) {x : Int} (hx : x ∈ es.toList.map (·.1)) : ∃ j, es.toList.findIdx? (fun e => (intKind prog w).is x e.2) = some j := by
  cases q : es.toList.findIdx? (fun e => (intKind prog w).is x e.2) with
  | some j => exact ⟨j, rfl⟩
  | none =>
    obtain ⟨e, he, rfl⟩ := List.mem_map.mp hx
    have := List.findIdx?_eq_none_iff.mp q e he
    obtain ⟨_, tk, h2⟩ := h e he
    rw [h2, intKind_is] at this
    cases this
section
variable {prog : Program} {w : World} {A : Around} {E : Value → Shared → Prop} {s : Shared}
theorem add_present {a : Addr} {o : Obj} {es : Array (Int × Value)} {ep : Nat} {t : SetTable} {x : Int} {tk : Tok} {Q : Bool → Shared → Prop} (ho : s.heap.get? a = some o) (hd : o.data = .set es ep t) (hf : t.fits es.size = true) (he : Entries es) (hb : es.size < scanBound)
    (hx : x ∈ es.toList.map (·.1)) (h : Q false s) : wpAny (model prog w) A (setAddHashed a (.int x tk) (hashInt x)) Q E s := by
  unfold setAddHashed setAddHashedIn
  refine wpAny_holding (wpAny_bind (wpAny_setState_of ho hd hf ?_))
  dsimp only
  rw [byScan_of (knd := intKind prog w) rfl hb he.elems]
  simp only [↓reduceIte]
  unfold setAddByScan
  refine wpAny_bind (wpAny_bind (wpAny_rule (wpAny_bind (wpAny_setScan_of (knd := intKind prog w) (k := x) (intKind_is _ _ _ _) ho hd hf he.elems ?_))))
  obtain ⟨j, hj⟩ := he.found (prog := prog) (w := w) hx
  rw [hj]
  exact wpAny_pure (wpAny_pure h)
theorem add_absent {a : Addr} {o : Obj} {es : Array (Int × Value)} {ep : Nat} {t : SetTable} {x : Int} {tk : Tok} {Q : Bool → Shared → Prop} (ho : s.heap.get? a = some o) (hex : o.ExactSet) (hd : o.data = .set es ep t) (hf : t.fits es.size = true) (he : Entries es) (hb : es.size + 1 < scanBound)
    (hpl : t.plain = true) (hx : x ∉ es.toList.map (·.1))
    (h : ∀ h' o' es' ep' t', Heap.SameBut a s.heap h' → h'.get? a = some o' → o'.ExactSet → o'.data = .set es' ep' t' → t'.fits es'.size = true → (t', es'.map (·.1)) = layT t (es.map (·.1)) x → es'.toList.Perm (es.toList ++ [(x, .int x tk)]) → hashInt x = x → Q true { s with heap := h' })
    (hh : hashInt x = x) : wpAny (model prog w) A (setAddHashed a (.int x tk) (hashInt x)) Q E s := by
  unfold setAddHashed setAddHashedIn
  refine wpAny_holding (wpAny_bind (wpAny_setState_of ho hd hf ?_))
  dsimp only
  rw [byScan_of (knd := intKind prog w) rfl (by omega) he.elems]
  simp only [↓reduceIte]
  unfold setAddByScan
  refine wpAny_bind (wpAny_bind (wpAny_rule (wpAny_bind (wpAny_setScan_of (knd := intKind prog w) (k := x) (intKind_is _ _ _ _) ho hd hf he.elems ?_))))
  rw [he.find hx, hh]
  dsimp only
  have hlike := add_like t es x (.int x tk)
  have hperm := layNew_perm t es x (.int x tk)
  have hfits := layNew_fits t es x (.int x tk)
  rw [Array.toList_push] at hperm
  generalize layNew t es x (.int x tk) = Ln at hlike hperm hfits ⊢
  obtain ⟨es1, t1, wasDummy, gave⟩ := Ln
  dsimp only at hlike hperm hfits ⊢
  have hsz1 : es1.size = es.size + 1 := by rw [← Array.length_toList, hperm.length_eq, List.length_append, Array.length_toList]; rfl
  have hz : es1.size ≤ sizeLine := fits_of_scanBound (by omega)
  have g1 : ∀ {b : Bool} {s₁ : Shared} {Q' : Unit → Shared → Prop}, Q' () s₁ → wpAny (model prog w) A (match b with | true => rule "set.scan.the-table-gave-way" | false => pure ()) Q' E s₁ := fun {b} {s₁} {Q'} hq => by
    cases b
    · exact wpAny_pure hq
    · exact wpAny_rule hq
  have hcont : ∀ g : Bool → Sem Unit, (∀ (b : Bool) (s₁ : Shared) (Q' : Unit → Shared → Prop), Q' () s₁ → wpAny (model prog w) A (g b) Q' E s₁) → wpAny (model prog w) A (do
        storeSet a es1 t1
        if (!wasDummy && t1.tooFull) = true then do
            g (relayAll t1 es1 (SetTable.grown es1.size)).2.2
            storeSet a (relayAll t1 es1 (SetTable.grown es1.size)).1 (relayAll t1 es1 (SetTable.grown es1.size)).2.1
            pure (some true)
          else pure (some true)) (fun r s' => r = some true ∧ Q true s') E s := by
    intro g hg1
    refine wpAny_bind (wpAny_storeSet_of ho hd ?_ hz)
    have hg : (s.heap.update a (Obj.putSet es1 t1)).get? a = some { o with data := .set es1 (ep + 1) t1 } := by
      have := Heap.get?_update_self (Obj.putSet es1 t1) ho (by rw [putSet_of es1 t1 hd]; rfl)
      rw [putSet_of es1 t1 hd] at this; exact this
    have hsb1 := Heap.SameBut.update s.heap a (Obj.putSet es1 t1)
    by_cases hc : (!wasDummy && t1.tooFull) = true
    · rw [if_pos hc] at hlike ⊢
      have hp := relayAll_perm t1 es1 (SetTable.grown es1.size)
      have hfr := relayAll_fits t1 es1 (SetTable.grown es1.size)
      generalize relayAll t1 es1 (SetTable.grown es1.size) = Rl at hlike hp hfr ⊢
      obtain ⟨es2, t2, gave2⟩ := Rl
      dsimp only at hlike hp hfr ⊢
      have hsz2 : es2.size = es1.size := by rw [← Array.length_toList, hp.length_eq, Array.length_toList]
      refine wpAny_bind (hg1 _ _ _ ?_)
      refine wpAny_bind (wpAny_storeSet_of hg rfl ?_ (by rw [hsz2]; exact hz))
      have hg2 : ((s.heap.update a (Obj.putSet es1 t1)).update a (Obj.putSet es2 t2)).get? a = some { o with data := .set es2 (ep + 1 + 1) t2 } := by
        have := Heap.get?_update_self (Obj.putSet es2 t2) hg (by rw [putSet_of es2 t2 rfl]; rfl)
        rw [putSet_of es2 t2 rfl] at this; exact this
      exact wpAny_pure ⟨rfl, h _ _ es2 _ t2 (hsb1.trans (Heap.SameBut.update _ a _)) hg2 hex rfl hfr hlike.symm (hp.trans hperm) hh⟩
    · rw [if_neg hc] at hlike ⊢
      exact wpAny_pure ⟨rfl, h _ _ es1 _ t1 hsb1 hg hex rfl hfits hlike.symm hperm hh⟩
  refine wpAny_bind (g1 ?_)
  split
  · refine wpAny_bind ?_
    rw [hashByValue_scannable 8 rfl]
    refine wpAny_pure ?_
    simp only [plainKind, ↓reduceIte]
    refine wpAny_mono (hcont _ fun b s₁ Q' hq => by cases b <;> first | exact wpAny_pure hq | exact wpAny_rule hq) (fun r s' hr => ?_) fun _ _ e => e
    obtain ⟨rfl, hr⟩ := hr
    exact wpAny_pure hr
  · refine wpAny_bind (wpAny_pure ?_)
    simp only [↓reduceIte]
    refine wpAny_mono (hcont _ fun b s₁ Q' hq => by cases b <;> first | exact wpAny_pure hq | exact wpAny_rule hq) (fun r s' hr => ?_) fun _ _ e => e
    obtain ⟨rfl, hr⟩ := hr
    exact wpAny_pure hr
end

noncomputable def ledOf (w : World) : Bool := !w.params.followText "set-order"
set_option maxRecDepth 100000 in
theorem tabs_sub : (tabs.all fun p => p.1.2.2.1.all fun h => dom.contains h) = true := by decide +kernel
set_option maxRecDepth 100000 in
theorem tabs_nodup : (tabs.all fun p => decide p.1.2.2.1.Nodup) = true := by decide +kernel
theorem dom_hash : ∀ x ∈ dom, hashInt x = x := by decide +kernel
theorem tabs_ok (led : Bool) {p : (Nat × List Nat × List Int × Nat) × List (Int × Nat)} (hp : p ∈ tabs) : okT (tb led p.1) p.1.2.2.1.length = true := by
  cases led
  · exact List.all_eq_true.mp tabs_ok_false p hp
  · exact List.all_eq_true.mp tabs_ok_true p hp
theorem tabs_step (led : Bool) {p : (Nat × List Nat × List Int × Nat) × List (Int × Nat)} (hp : p ∈ tabs) {x : Int} (hx : x ∈ dom) (hn : x ∉ p.1.2.2.1) :
    ∃ q ∈ tabs, layT (tb led p.1) p.1.2.2.1.toArray x = (tb led q.1, q.1.2.2.1.toArray) := by
  have h1 := List.all_eq_true.mp (List.all_eq_true.mp tabs_dom p hp) x hx
  rcases Bool.or_eq_true_iff.mp h1 with h2 | h2
  · exact absurd (List.contains_iff_mem.mp h2) hn
  · obtain ⟨y, hy, e⟩ := List.any_eq_true.mp h2
    have e' : y.1 = x := by simpa using e
    have h3 : stepOk led p = true := by
      cases led
      · exact List.all_eq_true.mp tabs_false p hp
      · exact List.all_eq_true.mp tabs_true p hp
    have h4 := List.all_eq_true.mp h3 y hy
    cases hq : tabs[y.2]? with
    | none => rw [hq] at h4; cases h4
    | some q =>
      rw [hq] at h4
      exact ⟨q, List.mem_of_getElem? hq, by rw [← e']; exact of_decide_eq_true h4⟩
set_option maxRecDepth 100000 in
theorem tabs_zero (led : Bool) : ∃ q ∈ tabs, layT (SetTable.fresh 0 0 led) #[] 0 = (tb led q.1, q.1.2.2.1.toArray) ∧ q.1.2.2.1 = [0] :=
  ⟨tabs.head (by decide), List.head_mem _, by cases led <;> decide +kernel, by decide +kernel⟩
noncomputable def SetM (w : World) (h : Heap) (a : Addr) (M : Int → Prop) : Prop :=
  ∃ o es ep p, h.get? a = some o ∧ o.ExactSet ∧ o.data = .set es ep (tb (ledOf w) p.1) ∧ p ∈ tabs ∧ es.map (·.1) = p.1.2.2.1.toArray ∧ Entries es ∧ ∀ x, x ∈ p.1.2.2.1 ↔ M x
theorem es_keys {es : Array (Int × Value)} {l : List Int} (h : es.map (·.1) = l.toArray) : es.toList.map (·.1) = l := by
  have := congrArg Array.toList h
  simpa using this
theorem es_size {es : Array (Int × Value)} {l : List Int} (h : es.map (·.1) = l.toArray) : es.size = l.length := by
  have := congrArg List.length (es_keys h)
  simpa using this
set_option maxRecDepth 100000 in
theorem tabs_len7 : (tabs.all fun p => decide (p.1.2.2.1.length ≤ 7)) = true := by decide +kernel
theorem tabs_len {p : (Nat × List Nat × List Int × Nat) × List (Int × Nat)} (hp : p ∈ tabs) : p.1.2.2.1.length ≤ 7 := of_decide_eq_true (List.all_eq_true.mp tabs_len7 p hp)
section
variable {prog : Program} {w : World} {A : Around} {E : Value → Shared → Prop} {s : Shared}
theorem okT_fits {t : SetTable} {n : Nat} (h : okT t n = true) : t.plain = true ∧ t.fits n = true := by
  unfold okT at h
  simp only [Bool.and_eq_true] at h
  exact h.1
theorem setM_add {a : Addr} {M : Int → Prop} {x : Int} {tk : Tok} {Q : Bool → Shared → Prop} (hx : x ∈ dom) (hS : SetM w s.heap a M) (h : ∀ h' b, Heap.SameBut a s.heap h' → SetM w h' a (fun y => M y ∨ y = x) → Q b { s with heap := h' }) :
    wpAny (model prog w) A (setAddHashed a (.int x tk) (hashInt x)) Q E s := by
  obtain ⟨o, es, ep, p, ho, hex, hd, hp, hk, he, hM⟩ := hS
  obtain ⟨hpl, hfit⟩ := okT_fits (tabs_ok (ledOf w) hp)
  rw [← es_size hk] at hfit
  have hlen := tabs_len hp
  have hsz := es_size hk
  by_cases hin : x ∈ p.1.2.2.1
  · refine add_present ho hd hfit he (by unfold scanBound; omega) (by rw [es_keys hk]; exact hin) ?_
    have e : s = { s with heap := s.heap } := by cases s; rfl
    rw [e]
    refine h _ _ (Heap.SameBut.refl a _) ⟨o, es, ep, p, ho, hex, hd, hp, hk, he, fun y => ?_⟩
    rw [hM]
    exact ⟨.inl, fun q => q.elim id fun q => by rw [q]; exact (hM x).mp hin⟩
  · obtain ⟨q, hq, hstep⟩ := tabs_step (ledOf w) hp hx hin
    refine add_absent ho hex hd hfit he (by unfold scanBound; omega) hpl (by rw [es_keys hk]; exact hin) (fun h' o' es' ep' t' hsb ho' hex' hd' hf' hl hperm hhx => ?_) (dom_hash x hx)
    rw [hk, hstep] at hl
    have e1 : t' = tb (ledOf w) q.1 := congrArg Prod.fst hl
    have e2 : es'.map (·.1) = q.1.2.2.1.toArray := congrArg Prod.snd hl
    refine h h' _ hsb ⟨o', es', ep', q, ho', hex', by rw [hd', e1], hq, e2, he.perm hhx hperm, fun y => ?_⟩
    rw [← es_keys e2, (hperm.map (·.1)).mem_iff, List.map_append, List.mem_append, es_keys hk, hM]
    simp
theorem set0_add {a : Addr} {tk : Tok} {Q : Bool → Shared → Prop} (ho : s.heap.get? a = some { cls := .type "set", dict := none, data := .set #[] 0 (.fresh 0 0 (ledOf w)) }) (h : ∀ h' b, Heap.SameBut a s.heap h' → SetM w h' a (fun y => y = 0) → Q b { s with heap := h' }) :
    wpAny (model prog w) A (setAddHashed a (.int 0 tk) (hashInt 0)) Q E s := by
  obtain ⟨q, hq, hstep, hq0⟩ := tabs_zero (ledOf w)
  refine add_absent (es := #[]) ho ⟨rfl, rfl, rfl⟩ rfl (by rfl) (fun _ hh => by simp at hh) (by decide) rfl (by simp) (fun h' o' es' ep' t' hsb ho' hex' hd' hf' hl hperm hhx => ?_) (by decide)
  rw [show (#[] : Array (Int × Value)).map (·.1) = #[] by simp, hstep] at hl
  have e1 : t' = tb (ledOf w) q.1 := congrArg Prod.fst hl
  have e2 : es'.map (·.1) = q.1.2.2.1.toArray := congrArg Prod.snd hl
  refine h h' _ hsb ⟨o', es', ep', q, ho', hex', by rw [hd', e1], hq, e2, Entries.perm (es := #[]) (fun _ hh => by simp at hh) hhx hperm, fun y => ?_⟩
  rw [hq0, List.mem_singleton]
theorem SetM.keeps {h h' : Heap} {a : Addr} {M : Int → Prop} (hS : SetM w h a M) (hk : ∀ o, h.get? a = some o → h'.get? a = some o) : SetM w h' a M := by
  obtain ⟨o, es, ep, p, ho, r⟩ := hS
  exact ⟨o, es, ep, p, hk o ho, r⟩
theorem SetM.congr {h : Heap} {a : Addr} {M M' : Int → Prop} (hS : SetM w h a M) (e : ∀ x, M x ↔ M' x) : SetM w h a M' := by
  obtain ⟨o, es, ep, p, ho, hex, hd, hp, hk, he, hM⟩ := hS
  exact ⟨o, es, ep, p, ho, hex, hd, hp, hk, he, fun x => (hM x).trans (e x)⟩
end

noncomputable abbrev freshSet (w : World) : Obj := { cls := .type "set", dict := none, data := .set #[] 0 (.fresh 0 0 (ledOf w)) }
noncomputable def UInv (w : World) (S : Addr) (val : Nat → Int) (i : Nat) (h : Heap) : Prop := (i = 0 ∧ h.get? S = some (freshSet w)) ∨ (0 < i ∧ SetM w h S fun y => ∃ j, j < i ∧ val j = y)
theorem UInv.keeps {w : World} {S : Addr} {val : Nat → Int} {i : Nat} {h h' : Heap} (x : UInv w S val i h) (hk : ∀ o, h.get? S = some o → h'.get? S = some o) : UInv w S val i h' := by
  rcases x with ⟨e, x⟩ | ⟨e, x⟩
  · exact .inl ⟨e, hk _ x⟩
  · exact .inr ⟨e, x.keeps hk⟩
section
variable {prog : Program} {w : World} {A : Around} {E : Value → Shared → Prop} {s : Shared} {R : Result → Shared → Prop}
theorem uinv_add {S : Addr} {val : Nat → Int} {i : Nat} {tk : Tok} {Q : Bool → Shared → Prop} (h0 : val 0 = 0) (hd : val i ∈ dom) (x : UInv w S val i s.heap) (h : ∀ h' b, Heap.SameBut S s.heap h' → UInv w S val (i + 1) h' → Q b { s with heap := h' }) :
    wpAny (model prog w) A (setAddHashed S (.int (val i) tk) (hashInt (val i))) Q E s := by
  rcases x with ⟨rfl, x⟩ | ⟨hi, x⟩
  · rw [h0]
    refine set0_add x fun h' b hsb hM => h h' b hsb (.inr ⟨Nat.zero_lt_one, hM.congr fun y => ?_⟩)
    constructor
    · rintro rfl; exact ⟨0, Nat.zero_lt_one, h0⟩
    · rintro ⟨j, hj, e⟩
      obtain rfl : j = 0 := by omega
      rw [← e, h0]
  · refine setM_add hd x fun h' b hsb hM => h h' b hsb (.inr ⟨Nat.succ_pos _, hM.congr fun y => ?_⟩)
    constructor
    · rintro (⟨j, hj, e⟩ | e)
      · exact ⟨j, by omega, e⟩
      · exact ⟨i, by omega, e.symm⟩
    · rintro ⟨j, hj, e⟩
      by_cases hji : j = i
      · subst hji; exact .inr e.symm
      · exact .inl ⟨j, by omega, e⟩
theorem upd_loop {I l S : Addr} {n : Nat} {P : Nat → Value → Prop} {St : Nat → Heap → Prop} (W : Walks prog w A.in1 I [I, l] [I] n P St) (hSI : S ≠ I) (hSl : S ≠ l) (val : Nat → Int) (hval : ∀ i v, P i v → ∃ t, v = .int (val i) t) (hdom : ∀ i, i < n → val i ∈ dom) (h0 : val 0 = 0) :
    ∀ (k i : Nat) (s : Shared), n - i = k → i ≤ n → St i s.heap → UInv w S val i s.heap →
      (∀ h' tk, (∀ b o, b ≠ S → b ≠ I → s.heap.get? b = some o → h'.get? b = some o) → UInv w S val n h' → R (.ok (.ret .none)) { s with heap := h', toks := tk }) →
      codeAny (model prog w) A (.builtin "set.update.loop" ⟨[.ref S, .ref I], []⟩) R s := by
  intro k
  induction k with
  | zero =>
    intro i s hk hi hst hS hR
    obtain rfl : i = n := by omega
    refine codeAny_builtin F.entry_set_update_loop ?_
    rw [Around.under_plainId F.plain_set_update_loop _]
    show wpAny _ A.in1 (pyNext (.ref I) >>= _) _ _ s
    refine wpAny_bind (W.done s _ _ hst fun h' tk hk' => ?_)
    exact wpAny_pure (hR h' tk (fun b o _ hb e => hk' b o (by simpa using hb) e) (hS.keeps fun o e => hk' S o (by simpa using hSI) e))
  | succ k ih =>
    intro i s hk hi hst hS hR
    have hlt : i < n := by omega
    refine codeAny_builtin F.entry_set_update_loop ?_
    rw [Around.under_plainId F.plain_set_update_loop _]
    show wpAny _ A.in1 (pyNext (.ref I) >>= _) _ _ s
    refine wpAny_bind (W.item i s _ _ hlt hst fun v h1 tk1 hP hst1 hk1 => ?_)
    obtain ⟨t, rfl⟩ := hval i v hP
    have hS1 := hS.keeps fun o e => hk1 S o (by simpa using hSI) e
    show wpAny _ A.in1 (holding [Value.int (val i) t] (setAdd S (.int (val i) t)) >>= _) _ _ _
    refine wpAny_bind (wpAny_holding ?_)
    unfold setAdd
    refine wpAny_holding (wpAny_bind ((intKind prog w).pyHash (k := val i) (intKind_is _ _ _ _) ?_))
    refine uinv_add (s := { s with heap := h1, toks := tk1 + 1 }) h0 (hdom i hlt) hS1 fun h2 b hsb hS2 => ?_
    refine wpAny_pure ⟨plainId_quiet F.plain_set_update_loop _, ih (i + 1) _ (by omega) hlt (W.frame _ h1 _ hst1 fun b hb o e => ?_) hS2 fun h3 tk3 hk3 hS3 => ?_⟩
    · have : b ≠ S := by
        rintro rfl
        rcases List.mem_cons.mp hb with e1 | e1
        · exact hSI e1
        · exact hSl (List.mem_singleton.mp e1)
      rw [hsb.2 b this]; exact e
    · refine hR h3 tk3 (fun b o hb hbI e => hk3 b o hb hbI ?_) hS3
      show h2.get? b = some o
      rw [hsb.2 b hb]; exact hk1 b o (by simpa using hbI) e
theorem code_new_set (a : Value) {Q₁ : Value → Shared → Prop} (h : Q₁ (.ref s.heap.objs.size) { s with heap := s.heap.push (freshSet w) }) :
    codeAny (model prog w) A (.call (.builtin "set.__new__") ⟨[.type "set", a], []⟩) (wants Q₁ E) s := by
  refine codeAny_call_builtin F.plain_set_new F.entry_set_new (wpAny_of_eq (F.newCall_set_1 a) ?_)
  unfold Builtin.«set.__new__» Builtin.Frozenset.newClass
  have hsub := sub_set_self
  obtain ⟨hp, g, d, tk, os⟩ := s
  dsimp only
  wp_walk
  refine wpAny_askSetting (wpAny_pure ?_)
  dsimp only
  simp only [newObj]
  refine wpAny_bind (wpAny_alloc (wpAny_pure ?_))
  exact wpAny_pure h
end

noncomputable def SetObjM (w : World) (o : Obj) (M : Int → Prop) : Prop :=
  ∃ es ep p, o.ExactSet ∧ o.data = .set es ep (tb (ledOf w) p.1) ∧ p ∈ tabs ∧ es.map (·.1) = p.1.2.2.1.toArray ∧ Entries es ∧ ∀ x, x ∈ p.1.2.2.1 ↔ M x
theorem SetM.obj {w : World} {h : Heap} {a : Addr} {M : Int → Prop} (x : SetM w h a M) : ∃ o, h.get? a = some o ∧ SetObjM w o M := let ⟨o, es, ep, p, ho, r⟩ := x; ⟨o, ho, es, ep, p, r⟩
section
variable {prog : Program} {w : World} {A : Around} {E : Value → Shared → Prop} {s : Shared}
set_option maxRecDepth 100000 in
set_option maxHeartbeats 3200000 in
theorem call_small_set {l : Addr} {items : Array Value} {ns : List Int} {Q : Value → Shared → Prop} (hh : A.handled = none) (hl : s.heap.IsList l items) (hi : IntsAre items.toList ns) (hdom : ∀ x ∈ ns, x ∈ dom) (h0 : ns[0]? = some 0)
    (h : ∀ (h' : Heap) (tk : Nat), SetM w h' s.heap.objs.size (fun y => y ∈ ns) → (∀ b o, b < s.heap.objs.size → s.heap.get? b = some o → h'.get? b = some o) → Q (.ref s.heap.objs.size) { s with heap := h', toks := tk }) :
    wpAny (model prog w) A (call (.type "set") [.ref l]) Q E s := by
  obtain ⟨c, tl, hmro⟩ := F.called_set.mro
  have hmade := F.called_set.made
  have hsub := F.called_set.sub
  refine wpAny_call (codeAny_of_tree ?_)
  show wpAny _ _ (callAny (.type "set") _) _ _ _
  refine wpAny_pure ⟨Code.quiet_builtin _ (by decide +kernel), codeAny_builtin F.entry_type_call ?_⟩
  rw [Around.under_plain (weight_type_call_type "set" [.ref l] []) rfl]
  have h1 := F.called_set.notType
  have h2 := F.called_set.canCreate
  have hct := F.typeCall_set_1 (.ref l)
  repeat (any_goals (first | assumption | wp_step))
  refine codeAny_mono (code_new_set (.ref l) (E := E) (Q₁ := fun obj s₁ => obj = .ref s.heap.objs.size ∧ s₁ = { s with heap := s.heap.push (freshSet w) }) ⟨rfl, rfl⟩) fun r s₁ hr => ?_
  cases r with
  | error e => exact hr
  | ok fl =>
    cases fl with
    | ret obj =>
      obtain ⟨rfl, rfl⟩ := hr
      have hS : (s.heap.push (freshSet w)).get? s.heap.objs.size = some (freshSet w) := Heap.get?_push_size _ rfl
      have hT : Shared.TypeIs { s with heap := s.heap.push (freshSet w) } (.ref s.heap.objs.size) "set" := ⟨_, hS, rfl⟩
      have hli := F.called_set.init.lookup
      have hbi := F.called_set.init.bind (.ref s.heap.objs.size)
      repeat (any_goals (first | assumption | wp_step))
      refine codeAny_mono (codeAny_call_builtin (R := wants (fun r s₂ => r = .none ∧ ∃ h' tk, s₂ = { s with heap := h', toks := tk } ∧ SetM w h' s.heap.objs.size (fun y => y ∈ ns) ∧
          (∀ b o, b < s.heap.objs.size → s.heap.get? b = some o → h'.get? b = some o)) E) F.called_set.init.plain F.entry_set_init (check_set_init_1 hT ?_)) fun r₂ s₂ hr₂ => ?_
      · obtain ⟨ol, hol, hcl, nl, hdl⟩ := hl
        obtain ⟨ocls, odict, odata, oslots⟩ := ol
        simp only at hcl hdl
        subst hcl; subst hdl
        have hol' : (s.heap.push (freshSet w)).get? l = some { cls := .type "list", dict := odict, data := .seq items nl, slots := oslots } := Heap.get?_push_of_some _ hol
        have hsls := F.sub_list_set
        have hslf := F.sub_list_frozenset
        have hne : (Value.type "list" == Value.type "dict") = false := by decide
        have hl1 : (s.heap.push (freshSet w)).IsList l items := ⟨_, hol', rfl, nl, rfl⟩
        unfold Builtin.«set.__init__» noKeywords Builtin.Frozenset.updateFrom
        generalize hPI : pyIter = PI
        wp_walk
        subst hPI
        refine wpAny_pyIter_list hl1 ?_
        refine wpAny_bind (wpAny_runValue ?_)
        have hlS : l < s.heap.objs.size := Heap.lt_size hol
        have hh3 : A.in1.in1.in1.handled = none := by simp [hh]
        have hneI : l ≠ (s.heap.push (freshSet w)).objs.size := by
          rw [Heap.size_push]; exact Nat.ne_of_lt (Nat.lt_succ_of_lt hlS)
        have hlen : ns.length = items.size := by have := hi.length; rw [← Array.length_toList]; exact this.symm
        refine upd_loop (Walks.list hh3 _ l hneI items) (by rw [Heap.size_push]; exact Nat.ne_of_lt (Nat.lt_succ_self _)) (Nat.ne_of_gt hlS) (fun i => ns.getD i 0)
          (fun i v hv => IntsAre.int_at hi i v (by rw [Array.getElem?_toList]; exact hv))
          (fun i hin => hdom _ (by rw [List.getD_eq_getElem?_getD, List.getElem?_eq_getElem (by omega), Option.getD_some]; exact List.getElem_mem _))
          (by rw [List.getD_eq_getElem?_getD, h0]; rfl) (items.size - 0) 0 _ (by omega) (Nat.zero_le _) ⟨⟨_, Heap.get?_push_size _ rfl, rfl, rfl⟩, hl1.push _⟩
          (.inl ⟨rfl, Heap.get?_push_of_some _ hS⟩) fun h' tk hk hS' => ?_
        refine wpAny_pure ?_
        show wpAny _ _ (ret Value.none) _ _ _
        refine wpAny_pure ⟨rfl, h', tk, rfl, ?_, fun b o hb e => hk b o (Nat.ne_of_lt hb) (by rw [Heap.size_push]; exact Nat.ne_of_lt (Nat.lt_succ_of_lt hb)) (Heap.get?_push_of_some _ (Heap.get?_push_of_some _ e))⟩
        have hpos : 0 < ns.length := (List.getElem?_eq_some_iff.mp h0).1
        rcases hS' with ⟨e, _⟩ | ⟨_, hS'⟩
        · omega
        · refine hS'.congr fun y => ?_
          constructor
          · rintro ⟨j, hj, rfl⟩
            show ns.getD j 0 ∈ ns
            rw [List.getD_eq_getElem?_getD, List.getElem?_eq_getElem (by omega), Option.getD_some]; exact List.getElem_mem _
          · intro hy
            obtain ⟨j, hj, rfl⟩ := List.mem_iff_getElem.mp hy
            exact ⟨j, by omega, by show ns.getD j 0 = _; rw [List.getD_eq_getElem?_getD, List.getElem?_eq_getElem hj, Option.getD_some]⟩
      · cases r₂ with
        | error e => exact hr₂
        | ok fl₂ =>
          cases fl₂ with
          | ret r =>
            obtain ⟨rfl, h', tk, rfl, hS', hk'⟩ := hr₂
            repeat (any_goals (first | assumption | wp_step))
            exact h _ _ hS' hk'
          | _ => exact hr₂.elim
    | _ => exact hr.elim
end

theorem setNext_eq (a : Addr) (slot given epochThen : Nat) : setNext a slot given epochThen = (do
    let (es, epoch, t) ← setState a
    if ← setsByText then
      if epoch != epochThen then unsupported "set_iterator.__next__:elements-changed"
      return ((← setWalk a)[given]?).map fun e => (e.2, slot)
    if (!t.plain && decide (es.size > 1)) = true then unsupported "set_iterator.__next__:the-table-is-plain-no-more"
    (if (!t.led && !es.isEmpty) = true then unsupported "set:maker-not-led" else pure () : Sem Unit)
    let i := SetTable.below t.place slot
    return match es[i]?, t.place[i]? with
      | some (_, x), some j => some (x, j + 1)
      | _, _ => none) := rfl
theorem setDrawn_eq (a : Addr) : setDrawn a = (do
    let (es, _, t) ← setState a
    let byText ← setsByText
    return !byText && (!t.plain && decide (es.size > 1))) := rfl
theorem cons_erase_perm {α : Type} : ∀ (l : List α) (i : Nat) (h : i < l.length), (l[i] :: l.eraseIdx i).Perm l
  | [], _, h => absurd h (Nat.not_lt_zero _)
  | a :: l, 0, _ => by simp
  | a :: l, i + 1, h => by
    have hi : i < l.length := by simpa using h
    rw [List.eraseIdx_cons_succ, List.getElem_cons_succ]
    exact (List.Perm.swap _ _ _).trans ((cons_erase_perm l i hi).cons a)
theorem pick_go_perm {α : Type} (next : Nat → Nat) : ∀ (n k : Nat) (left : List α) (out : Array α), left.length = n → (pickOrder.go next n k left out).toList.Perm (out.toList ++ left)
  | 0, k, left, out, h => by
    unfold pickOrder.go
    rw [List.length_eq_zero_iff.mp h, List.append_nil]
  | n + 1, k, left, out, h => by
    unfold pickOrder.go
    have hm : next k % left.length < left.length := Nat.mod_lt _ (by omega)
    rw [List.getElem?_eq_getElem hm]
    dsimp only
    refine (pick_go_perm next n (k + 1) (left.eraseIdx (next k % left.length)) (out.push left[next k % left.length]) (by rw [List.length_eraseIdx_of_lt hm]; omega)).trans ?_
    rw [Array.toList_push, List.append_assoc]
    refine List.Perm.append_left _ ?_
    rw [List.singleton_append]
    exact cons_erase_perm _ _ hm
theorem pick_perm {α : Type} (next : Nat → Nat) (xs : Array α) : (pickOrder next xs).toList.Perm xs.toList := by
  unfold pickOrder
  simpa using pick_go_perm next xs.size 0 xs.toList #[] (by simp)
/-- the order in which a small set is walked -/
noncomputable def walkOrder (w : World) (a : Addr) (ep : Nat) (es : Array (Int × Value)) : Array (Int × Value) := if w.params.followText "set-order" = true then pickOrder (w.params.setOrder a ep) es else es
theorem walk_perm (w : World) (a : Addr) (ep : Nat) (es : Array (Int × Value)) : (walkOrder w a ep es).toList.Perm es.toList := by
  unfold walkOrder
  split
  · exact pick_perm _ _
  · exact .rfl
theorem walk_size (w : World) (a : Addr) (ep : Nat) (es : Array (Int × Value)) : (walkOrder w a ep es).size = es.size := by
  rw [← Array.length_toList, (walk_perm w a ep es).length_eq, Array.length_toList]
/-- the slot from which the i-th look starts -/
noncomputable def slotAt (t : SetTable) (i : Nat) : Nat := if i = 0 then 0 else t.place.getD (i - 1) 0 + 1
theorem okT_below {t : SetTable} {n : Nat} (h : okT t n = true) {i : Nat} (hi : i ≤ n) : SetTable.below t.place (slotAt t i) = i := by
  unfold okT at h
  simp only [Bool.and_eq_true, List.all_eq_true] at h
  simpa [slotAt] using h.2 i (List.mem_range.mpr (by omega))
theorem okT_place {t : SetTable} {n : Nat} (h : okT t n = true) : t.place.size = n := by
  have := (okT_fits h).2
  simp only [SetTable.fits, Bool.and_eq_true, beq_iff_eq] at this
  exact this.1
section
variable {prog : Program} {w : World} {A : Around} {E : Value → Shared → Prop} {s : Shared}
theorem wpAny_byText {Q : Bool → Shared → Prop} (h : Q (w.params.followText "set-order") s) : wpAny (model prog w) A setsByText Q E s := by
  unfold setsByText
  exact wpAny_bind (wpAny_askSetting (wpAny_pure h))
theorem wpAny_setNext_some {a : Addr} {o : Obj} {es : Array (Int × Value)} {ep i slot : Nat} {t : SetTable} {Q : Option (Value × Nat) → Shared → Prop} (ho : s.heap.get? a = some o) (hd : o.data = .set es ep t) (hok : okT t es.size = true) (hled : t.led = ledOf w) (hi : i < es.size)
    (hs : w.params.followText "set-order" = false → slot = slotAt t i) (h : ∀ e next, (walkOrder w a ep es)[i]? = some e → (w.params.followText "set-order" = false → next = slotAt t (i + 1)) → Q (some (e.2, next)) s) :
    wpAny (model prog w) A (setNext a slot i ep) Q E s := by
  rw [setNext_eq]
  refine wpAny_bind (wpAny_setState_of ho hd (okT_fits hok).2 ?_)
  dsimp only
  refine wpAny_bind (wpAny_byText ?_)
  cases hb : w.params.followText "set-order" with
  | true =>
    simp only [↓reduceIte, bne_self_eq_false, Bool.false_eq_true]
    refine wpAny_bind ?_
    unfold setWalk
    refine wpAny_bind (wpAny_setState_of ho hd (okT_fits hok).2 ?_)
    dsimp only
    refine wpAny_bind (wpAny_byText ?_)
    rw [hb]
    simp only [↓reduceIte]
    refine wpAny_bind (wpAny_askSetting (wpAny_pure ?_))
    have hsz := walk_size w a ep es
    have hlt : i < (walkOrder w a ep es).size := by omega
    have e1 : pickOrder (w.params.setOrder a ep) es = walkOrder w a ep es := by unfold walkOrder; rw [hb, if_pos rfl]
    show wpAny _ _ (pure (Option.map _ (pickOrder (w.params.setOrder a ep) es)[i]?)) _ _ _
    rw [e1, Array.getElem?_eq_getElem hlt]
    exact wpAny_pure (h _ _ (Array.getElem?_eq_getElem hlt) fun q => by rw [hb] at q; cases q)
  | false =>
    simp only [Bool.false_eq_true, ↓reduceIte]
    rw [(okT_fits hok).1]
    simp only [Bool.not_true, Bool.false_and, Bool.false_eq_true, ↓reduceIte]
    have hl : t.led = true := by rw [hled]; unfold ledOf; rw [hb]; rfl
    rw [hl]
    simp only [Bool.not_true, Bool.false_and, Bool.false_eq_true, ↓reduceIte]
    refine wpAny_bind (wpAny_pure ?_)
    rw [hs hb, okT_below hok (by omega)]
    have hp := okT_place hok
    rw [Array.getElem?_eq_getElem hi, Array.getElem?_eq_getElem (by omega : i < t.place.size)]
    refine wpAny_pure (h es[i] _ ?_ fun _ => ?_)
    · unfold walkOrder; rw [hb, if_neg Bool.false_ne_true]; exact Array.getElem?_eq_getElem hi
    · simp [slotAt, hp, hi]
theorem wpAny_setNext_none {a : Addr} {o : Obj} {es : Array (Int × Value)} {ep slot : Nat} {t : SetTable} {Q : Option (Value × Nat) → Shared → Prop} (ho : s.heap.get? a = some o) (hd : o.data = .set es ep t) (hok : okT t es.size = true) (hled : t.led = ledOf w)
    (hs : w.params.followText "set-order" = false → slot = slotAt t es.size) (h : Q none s) :
    wpAny (model prog w) A (setNext a slot es.size ep) Q E s := by
  rw [setNext_eq]
  refine wpAny_bind (wpAny_setState_of ho hd (okT_fits hok).2 ?_)
  dsimp only
  refine wpAny_bind (wpAny_byText ?_)
  cases hb : w.params.followText "set-order" with
  | true =>
    simp only [↓reduceIte, bne_self_eq_false, Bool.false_eq_true]
    refine wpAny_bind ?_
    unfold setWalk
    refine wpAny_bind (wpAny_setState_of ho hd (okT_fits hok).2 ?_)
    dsimp only
    refine wpAny_bind (wpAny_byText ?_)
    rw [hb]
    simp only [↓reduceIte]
    refine wpAny_bind (wpAny_askSetting (wpAny_pure ?_))
    have hsz := walk_size w a ep es
    have e1 : pickOrder (w.params.setOrder a ep) es = walkOrder w a ep es := by unfold walkOrder; rw [hb, if_pos rfl]
    show wpAny _ _ (pure (Option.map _ (pickOrder (w.params.setOrder a ep) es)[es.size]?)) _ _ _
    rw [e1, Array.getElem?_eq_none (by omega)]
    exact wpAny_pure h
  | false =>
    simp only [Bool.false_eq_true, ↓reduceIte]
    rw [(okT_fits hok).1]
    simp only [Bool.not_true, Bool.false_and, Bool.false_eq_true, ↓reduceIte]
    have hl : t.led = true := by rw [hled]; unfold ledOf; rw [hb]; rfl
    rw [hl]
    simp only [Bool.not_true, Bool.false_and, Bool.false_eq_true, ↓reduceIte]
    refine wpAny_bind (wpAny_pure ?_)
    rw [hs hb, okT_below hok (Nat.le_refl _)]
    rw [Array.getElem?_eq_none (Nat.le_refl _)]
    exact wpAny_pure h
end

theorem slot_siter_next : Slot "set_iterator" "__next__" "set_iterator.__next__" :=
  .of (owner := "set_iterator") (n := "__next__") (by rw [typeLookup_type, builtinLookup_eq_fast]; kernel_rfl) (by decide +kernel) (by decide +kernel) (by decide +kernel)
    (by first | exact .inl (by decide +kernel) | exact .inr (by decide +kernel)) (by rw [isSubtype_type]; kernel_rfl)
theorem entry_siter_next : entryFor table "set_iterator.__next__" = some Builtin.«set_iterator.__next__» := entryFor_of_tree (by kernel_rfl)
theorem args_siter_next (a : Value) : argsOk "set_iterator.__next__" ⟨[a], []⟩ := by unfold argsOk; kernel_rfl
theorem slot_siter_iter : Slot "set_iterator" "__iter__" "set_iterator.__iter__" :=
  .of (owner := "set_iterator") (n := "__iter__") (by rw [typeLookup_type, builtinLookup_eq_fast]; kernel_rfl) (by decide +kernel) (by decide +kernel) (by decide +kernel)
    (by first | exact .inl (by decide +kernel) | exact .inr (by decide +kernel)) (by rw [isSubtype_type]; kernel_rfl)
theorem entry_siter_iter : entryFor table "set_iterator.__iter__" = some Builtin.«dict_keyiterator.__iter__» :=
  entryFor_alias (id' := "dict_keyiterator.__iter__") (by kernel_rfl) rfl (by decide +kernel) (by kernel_rfl)
theorem args_siter_iter (a : Value) : argsOk "set_iterator.__iter__" ⟨[a], []⟩ := by unfold argsOk; kernel_rfl
theorem entry_set_iter : entryFor table "set.__iter__" = some Builtin.«frozenset.__iter__» :=
  entryFor_alias (id' := "frozenset.__iter__") (by kernel_rfl) rfl (by decide +kernel) (by kernel_rfl)

noncomputable def IsSetIter (h : Heap) (I a : Addr) (slot i n ep : Nat) : Prop := ∃ o, h.get? I = some o ∧ o.cls = .type "set_iterator" ∧ o.data = .fields #[.int (slot : Int) 0, .int (i : Int) 0, .ref a, .int (n : Int) 0, .int (ep : Int) 0]
theorem IsSetIter.typeIs {s : Shared} {I a : Addr} {slot i n ep : Nat} (x : IsSetIter s.heap I a slot i n ep) : s.TypeIs (.ref I) "set_iterator" := let ⟨o, ho, hc, _⟩ := x; ⟨o, ho, hc⟩
theorem IsSetIter.keeps {h h' : Heap} {I a : Addr} {slot i n ep : Nat} (x : IsSetIter h I a slot i n ep) (hk : ∀ o, h.get? I = some o → h'.get? I = some o) : IsSetIter h' I a slot i n ep := let ⟨o, ho, r⟩ := x; ⟨o, hk _ ho, r⟩
section
variable {prog : Program} {w : World} {A : Around} {E : Value → Shared → Prop} {s : Shared}
theorem pyIter_set {a : Addr} {o : Obj} {es : Array (Int × Value)} {ep : Nat} {t : SetTable} {Q : Value → Shared → Prop} (ho : s.heap.get? a = some o) (hex : o.ExactSet) (hd : o.data = .set es ep t) (hok : okT t es.size = true)
    (h : Q (.ref s.heap.objs.size) { s with heap := s.heap.push { cls := .type "set_iterator", data := .fields #[.int ((0 : Nat) : Int) 0, .int ((0 : Nat) : Int) 0, .ref a, .int (es.size : Int) 0, .int (ep : Int) 0] } }) :
    wpAny (model prog w) A (pyIter (.ref a)) Q E s := by
  have hT : s.TypeIs (.ref a) "set" := ⟨o, ho, hex.1⟩
  have hf := (okT_fits hok).2
  refine wpAny_pyIter_slot hT PySem.F.slot_set_iter (wpAny_call_entry PySem.F.slot_set_iter hT entry_set_iter ?_ (PySem.F.args_set_iter_1 _))
  unfold Builtin.«frozenset.__iter__» Builtin.Frozenset.slot0 slotArgs
  simp only [List.isEmpty_nil, Bool.not_true, Bool.false_eq_true, ↓reduceIte, bind_assoc, List.length_nil, bne_self_eq_false]
  unfold Builtin.Frozenset.addrOf Builtin.Frozenset.sizeOf
  refine wpAny_bind (wpAny_pure ?_)
  try dsimp only
  refine wpAny_bind (wpAny_pure ?_)
  refine wpAny_bind (wpAny_bind (wpAny_setEntries_of ho hd hf (wpAny_pure ?_)))
  rw [setDrawn_eq]
  refine wpAny_bind (wpAny_bind (wpAny_setState_of ho hd hf ?_))
  dsimp only
  refine wpAny_bind (wpAny_byText (wpAny_pure ?_))
  rw [(okT_fits hok).1]
  simp only [Bool.not_true, Bool.false_and, Bool.and_false, Bool.false_eq_true, ↓reduceIte]
  refine wpAny_bind (wpAny_pure ?_)
  refine wpAny_bind (wpAny_setEpoch_of ho hd hf ?_)
  refine wpAny_bind ?_
  simp only [newFields]
  refine wpAny_newObj_type ?_ (by size_fits)
  exact wpAny_pure ⟨_, rfl, "set_iterator", _, ⟨_, Heap.get?_push_size _ rfl, rfl⟩, slot_siter_next.lookup, h⟩
theorem next_item {I a : Addr} {slot i ep : Nat} {o : Obj} {es : Array (Int × Value)} {t : SetTable} {Q : Option Value → Shared → Prop} (hit : IsSetIter s.heap I a slot i es.size ep) (ho : s.heap.get? a = some o) (hd : o.data = .set es ep t) (hok : okT t es.size = true) (hled : t.led = ledOf w) (hi : i < es.size)
    (hs : w.params.followText "set-order" = false → slot = slotAt t i)
    (h : ∀ e next h', (walkOrder w a ep es)[i]? = some e → (w.params.followText "set-order" = false → next = slotAt t (i + 1)) → IsSetIter h' I a next (i + 1) es.size ep → Heap.SameBut I s.heap h' → Q (some e.2) { s with heap := h' }) :
    wpAny (model prog w) A (pyNext (.ref I)) Q E s := by
  have hT := hit.typeIs
  obtain ⟨oI, hoI, hcI, hdI⟩ := hit
  have hf := (okT_fits hok).2
  unfold pyNext
  refine wpAny_bind (wpAny_attempt (wpAny_callSpecial?_slot (name := Str.ofString "__next__") hT slot_siter_next
    (wpAny_call_entry slot_siter_next hT entry_siter_next ?_ (args_siter_next _))))
  unfold Builtin.«set_iterator.__next__» slotArgs
  simp only [List.isEmpty_nil, Bool.not_true, Bool.false_eq_true, ↓reduceIte, bind_assoc, List.length_nil, bne_self_eq_false]
  refine wpAny_bind (wpAny_pure ?_)
  try dsimp only
  refine wpAny_bind (wpAny_fieldsOf hoI hdI ?_)
  try dsimp only
  refine wpAny_bind (wpAny_setEntries_of ho hd hf ?_)
  rw [if_neg (by simp)]
  try dsimp only
  refine wpAny_bind (wpAny_setNext_some (slot := slot) (i := i) ho hd hok hled hi hs fun e next he hn => ?_)
  dsimp only
  refine wpAny_bind (wpAny_setField hoI hdI (by simp) ?_)
  have g1 : (s.heap.update I (Obj.mapFields (·.setIfInBounds 0 (rawInt (next : Int))))).get? I = some (oI.mapFields (·.setIfInBounds 0 (rawInt (next : Int)))) := Heap.get?_update_self _ hoI (Obj.isFreed_of_fields (Obj.data_mapFields hdI _))
  have d1 := Obj.data_mapFields hdI (·.setIfInBounds 0 (rawInt (next : Int)))
  refine wpAny_bind (wpAny_setField (s := { s with heap := _ }) g1 d1 (by simp) ?_)
  have g2 := Heap.get?_update_self (Obj.mapFields (·.setIfInBounds 1 (rawInt ((i : Int) + 1)))) g1 (Obj.isFreed_of_fields (Obj.data_mapFields d1 _))
  refine wpAny_pure ⟨_, rfl, wpAny_pure (h e next _ he hn ⟨_, g2, ?_, ?_⟩ ((Heap.SameBut.update ..).trans (Heap.SameBut.update ..)))⟩
  · exact (Obj.cls_mapFields ..).trans ((Obj.cls_mapFields ..).trans hcI)
  · rw [Obj.data_mapFields d1]; simp [rawInt]
theorem next_end {I a : Addr} {slot ep : Nat} {o : Obj} {es : Array (Int × Value)} {t : SetTable} {Q : Option Value → Shared → Prop} (hh : A.handled = none) (hit : IsSetIter s.heap I a slot es.size es.size ep) (ho : s.heap.get? a = some o) (hd : o.data = .set es ep t) (hok : okT t es.size = true) (hled : t.led = ledOf w)
    (hs : w.params.followText "set-order" = false → slot = slotAt t es.size) (h : ∀ h', Heap.ExtBut I s.heap h' → Q none { s with heap := h' }) :
    wpAny (model prog w) A (pyNext (.ref I)) Q E s := by
  have hT := hit.typeIs
  obtain ⟨oI, hoI, hcI, hdI⟩ := hit
  have hf := (okT_fits hok).2
  unfold pyNext
  refine wpAny_bind (wpAny_attempt (wpAny_callSpecial?_slot (name := Str.ofString "__next__") hT slot_siter_next
    (wpAny_call_entry slot_siter_next hT entry_siter_next ?_ (args_siter_next _))))
  unfold Builtin.«set_iterator.__next__» slotArgs
  simp only [List.isEmpty_nil, Bool.not_true, Bool.false_eq_true, ↓reduceIte, bind_assoc, List.length_nil, bne_self_eq_false]
  refine wpAny_bind (wpAny_pure ?_)
  try dsimp only
  refine wpAny_bind (wpAny_fieldsOf hoI hdI ?_)
  try dsimp only
  refine wpAny_bind (wpAny_setEntries_of ho hd hf ?_)
  rw [if_neg (by simp)]
  try dsimp only
  refine wpAny_bind (wpAny_setNext_none (slot := slot) ho hd hok hled hs ?_)
  dsimp only
  refine wpAny_bind (wpAny_setField hoI hdI (by simp) ?_)
  refine wpAny_bind ?_
  simp only [newExc, newTuple]
  refine wpAny_bind (wpAny_newObj_type ?_ (by size_fits))
  refine wpAny_bind (m := firstArgMember _ _) (wpAny_of_eq (a := Value.none) (by first | rfl | (simp only [firstArgMember]; rfl)) ?_)
  refine wpAny_newObj_type ?_ (by size_fits)
  simp only [raiseNew]
  refine wpAny_bind (wpAny_handled ?_)
  rw [show A.in1.handled = none from hh]
  refine wpAny_bind (wpAny_pure (wpAny_throw ?_))
  refine wpAny_bind (wpAny_isInstance (T := "StopIteration") (b := true) ⟨_, Heap.get?_push_size _ rfl, rfl⟩ isSubtype_stop ?_)
  exact wpAny_pure (h _ (((Heap.SameBut.update ..).extBut.push _).push _))
theorem pyIter_siter {I a : Addr} {slot i n ep : Nat} {Q : Value → Shared → Prop} (hit : IsSetIter s.heap I a slot i n ep) (h : Q (.ref I) s) : wpAny (model prog w) A (pyIter (.ref I)) Q E s := by
  refine wpAny_pyIter_slot hit.typeIs slot_siter_iter (wpAny_call_entry slot_siter_iter hit.typeIs entry_siter_iter ?_ (args_siter_iter _))
  show wpAny _ _ (ret (.ref I)) _ _ s
  exact wpAny_pure ⟨_, rfl, "set_iterator", _, hit.typeIs, slot_siter_next.lookup, h⟩
theorem hint_set {a : Addr} {Q : Bool → Shared → Prop} (hT : s.TypeIs (.ref a) "set") (h : Q false s) : wpAny (model prog w) A (Builtin.List.listLengthHint (.ref a)) Q E s := by
  unfold Builtin.List.listLengthHint
  refine wpAny_bind (wpAny_specialOf hT PySem.F.slot_set_len.lookup ?_)
  generalize hid : ("set.__len__" : String) = id0
  wp_delta
  rw [show splitId id0 = some ("set", "__len__") from by subst hid; decide +kernel]
  subst hid
  refine wpAny_bind (wpAny_isInstance (T := "set") (b := true) hT (by rw [isSubtype_type]; kernel_rfl) ?_)
  refine wpAny_ite_split (fun hab => absurd hab (by decide)) (fun _ => ?_)
  refine wpAny_ite_split (fun _ => ?_) (fun hab => absurd (by decide +kernel) hab)
  refine wpAny_bind (wpAny_typeOf hT ?_)
  exact wpAny_pure h
end

section
variable {prog : Program} {w : World} {A : Around} {E : Value → Shared → Prop} {s : Shared}
theorem walks_set (hh : A.handled = none) (I a : Addr) (hne : a ≠ I) {o : Obj} {es : Array (Int × Value)} {ep : Nat} {t : SetTable} (hd : o.data = .set es ep t) (hok : okT t es.size = true) (hled : t.led = ledOf w) :
    Walks prog w A I [I, a] [I] es.size (fun i v => ∃ e, (walkOrder w a ep es)[i]? = some e ∧ v = e.2) (fun i h => (∃ slot, IsSetIter h I a slot i es.size ep ∧ (w.params.followText "set-order" = false → slot = slotAt t i)) ∧ h.get? a = some o) where
  sub := fun b hb => by simp at hb; simp [hb]
  frame := fun _ _ _ st hk => by
    obtain ⟨⟨slot, hi, hs⟩, ho⟩ := st
    exact ⟨⟨slot, hi.keeps fun o e => hk I (by simp) o e, hs⟩, hk a (by simp) _ ho⟩
  item := fun i s Q E hi st hQ => by
    obtain ⟨⟨slot, hit, hs⟩, ho⟩ := st
    refine next_item hit ho hd hok hled hi hs fun e next h' he hn hit' hsb => ?_
    exact hQ e.2 h' s.toks ⟨e, he, rfl⟩ ⟨⟨next, hit', hn⟩, by rw [hsb.2 a hne]; exact ho⟩ fun b o hb e => by rw [hsb.2 b (by simpa using hb)]; exact e
  done := fun s Q E st hQ => by
    obtain ⟨⟨slot, hit, hs⟩, ho⟩ := st
    exact next_end hh hit ho hd hok hled hs fun h' he' => hQ h' s.toks fun b o hb e => he' b o (fun h => hb (by simp [h])) e
  self := fun i s Q E st hQ => by
    obtain ⟨⟨slot, hit, hs⟩, ho⟩ := st
    exact pyIter_siter hit hQ
theorem kdl_set {a : Addr} {o : Obj} {es : Array (Int × Value)} {ep : Nat} {t : SetTable} (hex : o.ExactSet) (hd : o.data = .set es ep t) (hok : okT t es.size = true) (hled : t.led = ledOf w) :
    KdlSrc prog w "set" a a es.size (fun i v => ∃ e, (walkOrder w a ep es)[i]? = some e ∧ v = e.2) (fun h => h.get? a = some o) where
  type := fun _ ho => ⟨o, ho, hex.1⟩
  there := fun _ ho => ⟨Heap.lt_size ho, Heap.lt_size ho⟩
  keep := fun _ _ ho hk => hk a (.inl rfl) _ ho
  notList := by decide
  notTuple := by decide
  hint := fun _ _ _ _ ho hq => hint_set ⟨o, ho, hex.1⟩ hq
  iter := fun _ s hh ho => ⟨_, _, (fun _ _ hq => pyIter_set ho hex hd hok hq), walks_set hh _ a (Nat.ne_of_lt (Heap.lt_size ho)) hd hok hled,
    ⟨⟨0, ⟨_, Heap.get?_push_size _ rfl, rfl, rfl⟩, fun _ => rfl⟩, Heap.get?_push_of_some _ ho⟩⟩
theorem ints_order : ∀ {vs : List Value} {l : List (Int × Value)}, vs.length = l.length → (∀ (j : Nat) (v : Value), vs[j]? = some v → ∃ e, l[j]? = some e ∧ v = e.2) → (∀ e ∈ l, ∃ tk, e.2 = .int e.1 tk) → IntsAre vs (l.map (·.1))
  | [], [], _, _, _ => .nil
  | [], _ :: _, h, _, _ => by simp at h
  | _ :: _, [], h, _, _ => by simp at h
  | v :: vs, e :: l, h, hv, he => by
    obtain ⟨e', e1, e2⟩ := hv 0 v rfl
    have e3 : e = e' := by simpa using e1
    subst e3
    obtain ⟨tk, e4⟩ := he e (.head _)
    rw [e2, e4]
    exact .cons _ _ (ints_order (by simpa using h) (fun j v hj => by simpa using hv (j + 1) v (by simpa using hj)) fun e h => he e (.tail _ h))
theorem lt_of_le_nodup {l : List Int} (h : l.Pairwise (· ≤ ·)) (hn : l.Nodup) : l.Pairwise (· < ·) := by
  induction l with
  | nil => exact .nil
  | cons a l ih =>
    rw [List.pairwise_cons] at h ⊢
    rw [List.nodup_cons] at hn
    refine ⟨fun x hx => ?_, ih h.2 hn.2⟩
    have := h.1 x hx
    have : a ≠ x := fun e => hn.1 (e ▸ hx)
    omega
variable {h₀ : Heap} {L : Addr} {m : Str → Option Value} {news : List (Addr × Obj)}
theorem set_sorted {d : Addr} {o : Obj} {M : Int → Prop} {Q : Value → Shared → Prop} (hh : A.handled = none) (F : Fr h₀ L s.heap m) (N : News h₀ L s.heap news) (hp : (d, o) ∈ news) (hd : SetObjM w o M)
    (h : ∀ D vs ns c h' tk, Fr h₀ L h' m → News h₀ L h' ((D, listOf vs.toArray c) :: news) → (∀ q ∈ news, q.1 < D) → IntsAre vs ns → ns.length ≤ 7 → ns.Pairwise (· < ·) → (∀ x, x ∈ ns ↔ M x) → Q (.ref D) { s with heap := h', toks := tk }) :
    wpAny (model prog w) A (call (.builtin "sorted") [.ref d]) Q E s := by
  obtain ⟨es, ep, p, hex, hdat, hpt, hk, he, hM⟩ := hd
  have hsz := es_size hk
  have hlen := tabs_len hpt
  have hok := tabs_ok (ledOf w) hpt
  rw [← hsz] at hok
  refine kdu_sorted (kdl_set hex hdat hok rfl) hh F N (N _ hp).1 (by rw [sizeLine_eq]; first | decide | omega) fun B h1 tk vs F1 N1 l1 hl hv => ?_
  have hI : IntsAre vs ((walkOrder w d ep es).toList.map (·.1)) := ints_order (by rw [hl, Array.length_toList, walk_size]) (fun j v hj => by
    obtain ⟨e, h1, h2⟩ := hv j v hj
    exact ⟨e, by rw [Array.getElem?_toList]; exact h1, h2⟩) fun e h => (he e ((walk_perm w d ep es).mem_iff.mp h)).2
  have hperm : ((walkOrder w d ep es).toList.map (·.1)).Perm p.1.2.2.1 := by rw [← es_keys hk]; exact (walk_perm w d ep es).map _
  have hB := (N1 _ (.head _))
  refine wpAny_call_entry slot_list_sort ⟨_, hB.1, rfl⟩ entry_list_sort (list_sort_tree hB.1 hI (by omega) fun out ns' a1 a2 a3 => ⟨_, rfl, ?_⟩) (args_list_sort _)
  obtain ⟨e, he⟩ := sortedHeap_at (out := out) hB.1
  have hkk : ∀ b o, b ∉ [B] → h1.get? b = some o → (sortedHeap h1 B vs out).get? b = some o := fun b o hb ho => by
    rw [sortedHeap_old (by simpa using hb) (Heap.lt_size ho)]; exact ho
  have hp2 := a2.trans hperm
  refine h B out.toList ns' e _ _ (LCg.fr_but F1 hkk (Ne.symm hB.2.1) hB.2.2) (fun p hp => ?_) l1 a1 (by rw [hp2.length_eq]; exact hlen) (lt_of_le_nodup a3 ?_) fun x => (hp2.mem_iff).trans (hM x)
  · rcases List.mem_cons.mp hp with rfl | hp
    · exact ⟨he, hB.2⟩
    · exact ⟨hkk _ _ (by simpa using Nat.ne_of_lt (l1 p hp)) (N1 p (.tail _ hp)).1, (N1 p (.tail _ hp)).2⟩
  · exact hp2.nodup_iff.mpr (of_decide_eq_true (List.all_eq_true.mp tabs_nodup p hpt))
theorem l_set {l : Addr} {vs : List Value} {ns : List Int} {c : Nat} {Q : Value → Shared → Prop} (hh : A.handled = none) (F : Fr h₀ L s.heap m) (N : News h₀ L s.heap news) (hp : (l, listOf vs.toArray c) ∈ news) (hi : IntsAre vs ns) (hdom : ∀ x ∈ ns, x ∈ dom) (h0 : ns[0]? = some 0)
    (h : ∀ D o h' tk, Fr h₀ L h' m → News h₀ L h' ((D, o) :: news) → (∀ q ∈ news, q.1 < D) → SetObjM w o (fun y => y ∈ ns) → Q (.ref D) { s with heap := h', toks := tk }) :
    wpAny (model prog w) A (call (.type "set") [.ref l]) Q E s := by
  refine call_small_set (items := vs.toArray) hh ⟨_, (N _ hp).1, rfl, c, rfl⟩ (by simpa using hi) hdom h0 fun h' tk hS hk => ?_
  obtain ⟨o, ho, hso⟩ := hS.obj
  obtain ⟨oL, _, _, hL, _⟩ := F.ns
  have hLlt : L < s.heap.objs.size := Heap.lt_size hL
  refine h _ o h' tk ⟨F.ns.at' fun o' e => hk L o' hLlt e, fun b o' e => hk b o' (Heap.lt_size (F.keep b o' e)) (F.keep b o' e), F.above⟩ (fun p hp => ?_) (fun q hq => Heap.lt_size (N q hq).1) hso
  rcases List.mem_cons.mp hp with rfl | hp
  · refine ⟨ho, Nat.ne_of_gt hLlt, ?_⟩
    cases hq : h₀.get? s.heap.objs.size with
    | none => rfl
    | some o' => exact absurd (Heap.lt_size (F.keep _ _ hq)) (Nat.lt_irrefl _)
  · exact ⟨hk _ _ (Heap.lt_size (N p hp).1) (N p hp).1, (N p hp).2.1, (N p hp).2.2⟩
end

noncomputable abbrev PROG : Program := PySem.Challenge.rw_nu0148_01.row.prog

/-- a thing to walk along: n items, each told by P; it stands as long as the objects of srcs stand -/
inductive SrcGo (prog : Program) (w : World) (v : Value) (n : Nat) (P : Nat → Value → Prop) (srcs : List (Addr × Obj)) (A : Around) (s : Shared) : Prop
  | mk (oI : Obj) (St : Nat → Heap → Prop) (hfr : oI.isFreed = false)
    (hit : ∀ (E : Value → Shared → Prop) (Q : Value → Shared → Prop), Q (.ref s.heap.objs.size) { s with heap := s.heap.push oI } → wpAny (model prog w) A (pyIter v) Q E s)
    (W : Walks prog w A s.heap.objs.size (s.heap.objs.size :: srcs.map (·.1)) [s.heap.objs.size] n P St) (hst : St 0 (s.heap.push oI))
    (hex : ∀ i h, St i h → ∃ o, h.get? s.heap.objs.size = some o)
    (hmv : ∀ i h h' o, St i h → h.get? s.heap.objs.size = some o → h'.get? s.heap.objs.size = some o → (∀ p ∈ srcs, h.get? p.1 = some p.2) → (∀ p ∈ srcs, h'.get? p.1 = some p.2) → St i h') : SrcGo prog w v n P srcs A s
structure Src (prog : Program) (w : World) (v : Value) (n : Nat) (P : Nat → Value → Prop) (srcs : List (Addr × Obj)) (Init : Heap → Prop) : Prop where
  go : ∀ (A : Around) (s : Shared), A.handled = none → Init s.heap → (∀ p ∈ srcs, s.heap.get? p.1 = some p.2) → SrcGo prog w v n P srcs A s

section
variable {prog : Program} {w : World}

theorem Src.list (l : Addr) (its : Array Value) (c : Nat) : Src prog w (.ref l) its.size (fun i v => its[i]? = some v) [(l, listOf its c)] (fun _ => True) where
  go := fun A s hh _ hs => by
    have hl0 := hs _ (.head _)
    have hl : s.heap.IsList l its := ⟨_, hl0, rfl, c, rfl⟩
    have hlt : l < s.heap.objs.size := Heap.lt_size hl0
    refine ⟨{ cls := .type "list_iterator", data := .fields #[.ref l, .int 0 0] }, _, rfl, fun E Q hQ => wpAny_pyIter_list hl hQ, Walks.list hh s.heap.objs.size l (Nat.ne_of_lt hlt) its, ⟨⟨_, Heap.get?_push_size _ rfl, rfl, rfl⟩, hl.push _⟩,
      fun i h st => by obtain ⟨o, e, _⟩ := st.1; exact ⟨o, e⟩, fun i h h' o st e e' _ hk => ⟨?_, ⟨_, hk _ (.head _), rfl, c, rfl⟩⟩⟩
    obtain ⟨o', q, r⟩ := st.1
    rw [e] at q
    cases q
    exact ⟨o, e', r⟩

theorem Src.dict {K : Type} [DecidableEq K] {knd : KeyKind prog w K} (d : Addr) {od : Obj} {kvs : List (K × Value)} (lo : (d == sysModules) = false) (hd : od.IsDictOf knd kvs) :
    Src prog w (.ref d) kvs.length (fun i v => ∃ k x, kvs[i]? = some (k, x) ∧ knd.is k v = true) [(d, od)] (fun _ => True) where
  go := fun A s hh _ hs => by
    have hl0 := hs _ (.head _)
    obtain ⟨es, ep, hr⟩ := hd
    have hat : s.heap.DictAt knd d kvs ep := ⟨od, es, hl0, hr⟩
    have hlt : d < s.heap.objs.size := Heap.lt_size hl0
    refine ⟨{ cls := .type "dict_keyiterator", data := .fields #[.ref d, .int 0 0, .int kvs.length 0, .int ep 0] }, _, rfl, fun E Q hQ => wpAny_pyIter_dict lo hat hQ, Walks.dictKeys hh s.heap.objs.size d (Nat.ne_of_lt hlt) kvs ep, ⟨⟨_, Heap.get?_push_size _ rfl, rfl, rfl⟩, hat.at' fun o e => Heap.get?_push_of_some _ e⟩,
      fun i h st => by obtain ⟨o, e, _⟩ := st.1; exact ⟨o, e⟩, fun i h h' o st e e' _ hk => ⟨?_, ⟨od, es, hk _ (.head _), hr⟩⟩⟩
    obtain ⟨o', q, r⟩ := st.1
    rw [e] at q
    cases q
    exact ⟨o, e', r⟩

/-- the i-th of a range from a on -/
inductive IntAt (a : Int) (i : Nat) : Value → Prop
  | mk (t : Tok) : IntAt a i (.int (a + (i : Int)) t)
theorem IntAt.of {a : Int} {i : Nat} {v : Value} (h : ∃ t, v = .int (a + (i : Int)) t) : IntAt a i v := by obtain ⟨t, rfl⟩ := h; exact ⟨t⟩
theorem Src.range {r : Addr} {a b : Int} {t u v : Tok} {n : Nat} (hsm : Builtin.Range.small a b 1 = true) (hn : Builtin.Range.rangeSize a b 1 = ((n : Nat) : Int)) :
    Src prog w (.ref r) n (IntAt a) [] (fun h => IsRange h r a b 1 t u v) where
  go := fun A s hh hR _ => by
    have W0 : Walks prog w A s.heap.objs.size [s.heap.objs.size] [s.heap.objs.size] n (fun i v => ∃ t, v = .int (a + (i : Int)) t) (fun i h => IsRangeIter h s.heap.objs.size (a + (i : Nat) * 1) ((n : Int) - (i : Nat)) 1) := LCg.range_walks hh a n
    refine ⟨{ cls := .type "range_iterator", data := .fields #[rawInt a, rawInt (Builtin.Range.rangeSize a b 1), rawInt 1] }, _, rfl, fun E Q hQ => wpAny_pyIter_range hR hsm hQ, { W0 with item := fun i h Q E hi st k => W0.item i h Q E hi st fun v h' tk hp => k v h' tk (.of hp) }, ?_, ?_, ?_⟩
    · show IsRangeIter _ _ _ _ _
      rw [hn]; simpa using Heap.get?_push_size _ rfl
    · exact fun i h st => ⟨_, st⟩
    · intro i h h' o st e e' _ _
      have st' : h.get? s.heap.objs.size = some _ := st
      show h'.get? s.heap.objs.size = some _
      rw [e', ← e]; exact st'
end

/-- what a turn of a loop leaves behind it -/
inductive TurnEnd (h₀ : Heap) (L I : Addr) (oI : Obj) (J : (Str → Option Value) → List (Addr × Obj) → Prop) (s₁ : Shared) : Shared → Prop
  | mk (h' : Heap) (tk : Nat) (m' : Str → Option Value) (nx : List (Addr × Obj)) (F : Fr h₀ L h' m') (N : News h₀ L h' ((I, oI) :: nx)) (hne : ∀ p ∈ nx, p.1 ≠ I) (hJ : J m' nx) : TurnEnd h₀ L I oI J s₁ { s₁ with heap := h', toks := tk }
noncomputable def TurnPost (h₀ : Heap) (L I : Addr) (oI : Obj) (J : (Str → Option Value) → List (Addr × Obj) → Prop) (s₁ : Shared) (Q : Flow → Shared → Prop) (f : Flow) (s₂ : Shared) : Prop :=
  match f with
  | .ret v => Q (.ret v) s₂
  | .brk => Q .next s₂
  | _ => TurnEnd h₀ L I oI J s₁ s₂
theorem TurnEnd.intro {h₀ : Heap} {L I : Addr} {oI : Obj} {J : (Str → Option Value) → List (Addr × Obj) → Prop} {s₁ : Shared} {h' : Heap} {tk : Nat} {m' : Str → Option Value} (nx : List (Addr × Obj)) {all : List (Addr × Obj)}
    (F : Fr h₀ L h' m') (N : News h₀ L h' all) (hs : ∀ p ∈ (I, oI) :: nx, p ∈ all) (hI : ∀ p ∈ nx, p.1 ≠ I) (hJ : J m' nx) : TurnEnd h₀ L I oI J s₁ { s₁ with heap := h', toks := tk } :=
  ⟨h', tk, m', nx, F, fun p hp => N p (hs p hp), hI, hJ⟩

section
variable {prog : Program} {w : World} {A : Around} {E : Value → Shared → Prop} {s : Shared} {env : Env} {h₀ : Heap} {x : Str} {body : List Stmt} {Q : Flow → Shared → Prop}
theorem for_src {v : Value} {n : Nat} {P : Nat → Value → Prop} {srcs : List (Addr × Obj)} {Init : Heap → Prop} {m₀ : Str → Option Value} {news : List (Addr × Obj)} (S : Src prog w v n P srcs Init) (J : Nat → (Str → Option Value) → List (Addr × Obj) → Prop)
    (hh : A.handled = none) (F : Fr h₀ env.locals s.heap m₀) (N : News h₀ env.locals s.heap news) (hi : Init s.heap) (hK : ∀ i m nx, J i m nx → ∀ p ∈ srcs, p ∈ nx) (hj : J 0 m₀ news)
    (turn : ∀ i u m₁ nx I oI h tk, i < n → P i u → J i m₁ nx → (∀ p ∈ nx, p.1 ≠ I) → Fr h₀ env.locals h (fun y => if y = x then some u else m₁ y) → News h₀ env.locals h ((I, oI) :: nx) →
      wpAny (model prog w) A (execs body env) (TurnPost h₀ env.locals I oI (J (i + 1)) { s with heap := h, toks := tk } Q) E { s with heap := h, toks := tk })
    (done : ∀ m₁ nx h tk, J n m₁ nx → Fr h₀ env.locals h m₁ → News h₀ env.locals h nx → Q .next { s with heap := h, toks := tk }) :
    wpAny (model prog w) A (pyIter v) (fun it s₂ => LoopAtV prog w A h₀ env x body Q E it s₂) E s := by
  have hs0 : ∀ p ∈ srcs, s.heap.get? p.1 = some p.2 := fun p hp => (N p (hK _ _ _ hj p hp)).1
  obtain ⟨oI, St, hfr, hit, W, hst, hex, hmv⟩ := S.go A s hh hi hs0
  refine hit _ _ ?_
  have hI₀ : h₀.get? s.heap.objs.size = none := next_is_new F
  have hIL : env.locals ≠ s.heap.objs.size := Nat.ne_of_lt F.ns.lt
  refine ⟨s.heap.objs.size, _, _, n, P, St, m₀, news, J, rfl, W, ?_, ?_, ?_, hst, F.push _, (fun p hp => ⟨Heap.get?_push_of_some _ (N p hp).1, (N p hp).2⟩), hj, ?_, ?_⟩
  · intro hm
    rcases List.mem_cons.mp hm with e | hm
    · exact hIL e
    · obtain ⟨p, hp, e⟩ := List.mem_map.mp hm
      exact (N p (hK _ _ _ hj p hp)).2.1 e
  · intro b hb
    rw [List.mem_singleton.mp hb]
    exact hI₀
  · intro p hp hI
    exact absurd (Heap.lt_size (N p hp).1) ((List.mem_singleton.mp hI) ▸ Nat.lt_irrefl _)
  · rintro i u m₁ nx s₁ own ⟨hh', tk', rfl⟩ hin hP hJ hoff hown hownat hall hst₁ F₁ N₁
    obtain ⟨oI', hoI'⟩ := hex _ _ hst₁
    have hmem : (s.heap.objs.size, oI') ∈ own := hall _ (.head _) hI₀ oI' hoI'
    have hne : ∀ p ∈ nx, p.1 ≠ s.heap.objs.size := fun p hp e => hoff p hp (List.mem_singleton.mpr e)
    have N₂ : News h₀ env.locals hh' ((s.heap.objs.size, oI') :: nx) := fun p hp => by
      rcases List.mem_cons.mp hp with rfl | hp
      · exact N₁ _ (List.mem_append_left _ hmem)
      · exact N₁ _ (List.mem_append_right _ hp)
    refine wpAny_mono (turn i u m₁ nx _ oI' hh' tk' hin hP hJ hne F₁ N₂) (fun f s₂ p => ?_) fun _ _ e => e
    have fin : TurnEnd h₀ env.locals s.heap.objs.size oI' (J (i + 1)) { s with heap := hh', toks := tk' } s₂ → LoopStepU h₀ env.locals [s.heap.objs.size] own (J (i + 1)) { s with heap := hh', toks := tk' } .next s₂ := by
      rintro ⟨h', tk, m', nx', F', N', hne', hJ'⟩
      refine ⟨rfl, h', tk, m', nx', rfl, F', fun p hp => ?_, fun p hp hq => hne' p hp (List.mem_singleton.mp hq), hJ'⟩
      rcases List.mem_append.mp hp with ho | ho
      · have hat := hownat p ho
        rcases List.mem_cons.mp (hown p ho) with e1 | e1
        · rw [e1, hoI'] at hat
          have e2 : oI' = p.2 := Option.some.inj hat
          have := N' (s.heap.objs.size, oI') (.head _)
          rw [show p = (s.heap.objs.size, oI') from by rw [← e1, e2]]
          exact this
        · obtain ⟨q, hq, e2⟩ := List.mem_map.mp e1
          have a1 := (N₁ q (List.mem_append_right _ (hK _ _ _ hJ q hq))).1
          rw [e2] at a1
          have e3 : q.2 = p.2 := Option.some.inj (a1.symm.trans hat)
          have := N' q (List.mem_cons_of_mem _ (hK _ _ _ hJ' q hq))
          rw [show p = q from Prod.ext e2.symm e3.symm]
          exact this
      · exact N' p (List.mem_cons_of_mem _ ho)
    cases f with
    | ret v => exact .ret p
    | brk => exact .brk p
    | next => exact .next (fin p)
    | cont => exact .cont (fin p)
  · rintro h' tk m' nx F' N' _ hJ
    exact done m' nx h' tk hJ F' N'
end

noncomputable abbrev tests (ifs : List Expr) (env : Env) : Sem Bool := forIn ifs true fun c r => if r = true then do let ok ← isTrue c env (eval c env); pure (ForInStep.yield ok) else pure (ForInStep.yield r)

/-- the end of a part of a comprehension's turn: the three own objects stand as they stood -/
inductive PartEnd (h₀ : Heap) (L : Addr) (m : Str → Option Value) (s₁ : Shared) (fixed : List (Addr × Obj)) (J : List (Addr × Obj) → Prop) : Shared → Prop
  | mk (h' : Heap) (tk : Nat) (nx : List (Addr × Obj)) (F : Fr h₀ L h' m) (N : News h₀ L h' (fixed ++ nx)) (hne : ∀ p ∈ nx, ∀ q ∈ fixed, p.1 ≠ q.1) (hJ : J nx) : PartEnd h₀ L m s₁ fixed J { s₁ with heap := h', toks := tk }
theorem PartEnd.intro {h₀ : Heap} {L : Addr} {m : Str → Option Value} {s₁ : Shared} {fixed : List (Addr × Obj)} {J : List (Addr × Obj) → Prop} {h' : Heap} {tk : Nat} {all : List (Addr × Obj)} (nx : List (Addr × Obj))
    (F : Fr h₀ L h' m) (N : News h₀ L h' all) (hs : ∀ p ∈ fixed ++ nx, p ∈ all) (hne : ∀ p ∈ nx, ∀ q ∈ fixed, p.1 ≠ q.1) (hJ : J nx) : PartEnd h₀ L m s₁ fixed J { s₁ with heap := h', toks := tk } :=
  ⟨h', tk, nx, F, fun p hp => N p (hs p hp), hne, hJ⟩

/-- a comprehension over v: its source, its invariant, its turn, its end -/
inductive LcAt (prog : Program) (w : World) (A : Around) (h₀ : Heap) (L : Addr) (m : Str → Option Value) (env : Env) (elt : Expr) (ifs : List Expr) (x : Str) (scope : Scope) (cl : List (Str × Addr))
    (Fin : Nat → Shared → List Value → List (Addr × Obj) → Prop) (v : Value) (s : Shared) : Prop
  | mk (n : Nat) (P : Nat → Value → Prop) (srcs : List (Addr × Obj)) (Init : Heap → Prop) (news : List (Addr × Obj)) (J : Nat → List Value → List (Addr × Obj) → Prop) (S : Src prog w v n P srcs Init) (hh : A.handled = none) (F : Fr h₀ L s.heap m) (N : News h₀ L s.heap news) (hi : Init s.heap) (hsz : n ≤ sizeLine)
    (hK : ∀ i ys nx, J i ys nx → ∀ p ∈ srcs, p ∈ nx) (hj : J 0 [] news)
    (turn : ∀ i u ys nx I oI C oC D m₂ h tk (E' : Value → Shared → Prop), i < n → P i u → J i ys nx → LCg.NsObj oC m₂ → m₂ x = some u → Fr h₀ L h m → News h₀ L h ((I, oI) :: (C, oC) :: (D, LCg.lst ys) :: nx) →
      (∀ p ∈ nx, ∀ q ∈ [(I, oI), (C, oC), (D, LCg.lst ys)], p.1 ≠ q.1) → I ≠ C → I ≠ D → C ≠ D → ys.length ≤ i →
      wpAny (model prog w) A (tests ifs (compEnvC scope cl C env)) (fun ok s₃ => if ok = true then
          wpAny (model prog w) A (eval elt (compEnvC scope cl C env)) (fun y => PartEnd h₀ L m { s with heap := h, toks := tk } [(I, oI), (C, oC), (D, LCg.lst ys)] (J (i + 1) (ys ++ [y]))) E' s₃
        else PartEnd h₀ L m { s with heap := h, toks := tk } [(I, oI), (C, oC), (D, LCg.lst ys)] (J (i + 1) ys) s₃) E' { s with heap := h, toks := tk })
    (fin : ∀ h tk ys nx, J n ys nx → Fin s.heap.objs.size { s with heap := h, toks := tk } ys nx) : LcAt prog w A h₀ L m env elt ifs x scope cl Fin v s

/-- how a list's comprehension stands between its turns -/
inductive LcInv (h₀ : Heap) (L : Addr) (m : Str → Option Value) (s₁ : Shared) (n : Nat) (St : Nat → Heap → Prop) (I : Addr) (J : Nat → List Value → List (Addr × Obj) → Prop) (k : Nat) : Shared → Prop
  | mk (h' : Heap) (tk i : Nat) (ys : List Value) (m' : Str → Option Value) (nx : List (Addr × Obj)) (hin : i ≤ n) (hk : k = n + 1 - i) (hyl : ys.length ≤ i) (hst' : St i h') (F' : Fr h₀ L h' m) (hn' : h'.Ns (I + 2) m') (N' : News h₀ L h' ((I + 1, LCg.lst ys) :: nx))
    (off' : ∀ p ∈ nx, p.1 ≠ I ∧ p.1 ≠ I + 2 ∧ p.1 ≠ I + 1) (hJ : J i ys nx) : LcInv h₀ L m s₁ n St I J k { s₁ with heap := h', toks := tk }

section
variable {prog : Program} {w : World} {A : Around} {E : Value → Shared → Prop} {s : Shared} {env : Env} {h₀ : Heap} {L : Addr} {m : Str → Option Value}

theorem lc_core {elt iter : Expr} {ifs : List Expr} {x : Str} {px : Pos} {scope : Scope} {cl : List (Str × Addr)} {pos : Pos} {Fin : Nat → Shared → List Value → List (Addr × Obj) → Prop} {v : Value} {s₁ : Shared}
    (hcell : ∀ y ∈ scope.names, y.2 ≠ .cell) (hkind : scope.kind = .function) (hx : scope.names.lookup x = some .local)
    (h₁ : LcAt prog w A h₀ L m env elt ifs x scope cl Fin v s₁) (Post : Value → Addr → Result → Shared → Prop)
    (hPost : ∀ D C h tk m' ys nx, s₁.heap.objs.size ≤ D - 1 → D - 1 ≤ D → C ≠ D → L ≠ C → h₀.get? C = none → Fr h₀ L h m → h.Ns C m' → News h₀ L h ((D, LCg.lst ys) :: nx) → (∀ p ∈ nx, p.1 ≠ D ∧ p.1 ≠ C) → Fin s₁.heap.objs.size { s₁ with heap := h, toks := tk } ys nx →
      Post (.ref D) C (.ok .next) { s₁ with heap := h, toks := tk }) :
    wpAny (model prog w) A (pyIter v) (fun it s₂ => wpAny (model prog w) A (newList []) (fun acc s₃ => wpAny (model prog w) A (newFunctionEnv scope env.globals cl [] env.qual none .none (some env)) (fun cenv s₄ =>
      codeAny (model prog w) A (.compStart (.ListComp elt [⟨.Name x px, iter, ifs, 0⟩] scope pos) 0 it acc { cenv with scope := relabel scope env }) (Post acc cenv.locals) s₄) E s₃) E s₂) E s₁ := by
  obtain ⟨n, P, srcs, Init, news, J, S, hh, F, N, hi, hsz, hK, hj, turn, fin⟩ := h₁
  have hs0 : ∀ p ∈ srcs, s₁.heap.get? p.1 = some p.2 := fun p hp => (N p (hK _ _ _ hj p hp)).1
  obtain ⟨oI₀, St, hfr, hit, W, hst, hex, hmv⟩ := S.go A s₁ hh hi hs0
  refine hit _ _ ?_
  have hI₁ : s₁.heap.objs.size = s₁.heap.objs.size := rfl
  generalize hI : s₁.heap.objs.size = I at *
  have hI₀ : h₀.get? I = none := by rw [← hI]; exact next_is_new F
  have hIL : L ≠ I := by rw [← hI]; exact Nat.ne_of_lt F.ns.lt
  have F1 : Fr h₀ L (s₁.heap.push oI₀) m := F.push _
  have N1 : News h₀ L (s₁.heap.push oI₀) news := fun p hp => ⟨Heap.get?_push_of_some _ (N p hp).1, (N p hp).2⟩
  have offI : ∀ p ∈ news, p.1 ≠ I := fun p hp e => Nat.lt_irrefl _ (show I < I from by
    have := Heap.lt_size (N p hp).1
    rw [hI, e] at this; exact this)
  have hsz1 : (s₁.heap.push oI₀).objs.size = I + 1 := by rw [Heap.size_push, hI]
  generalize hH1 : s₁.heap.push oI₀ = H1 at *
  -- the list
  refine wpAny_newObj_type (wpAny_newFunctionEnv hcell (by intro y hy; simp at hy) (fun h₁ hns₁ hsb₁ => ?_) hkind)
  dsimp only at hns₁ hsb₁ ⊢
  have hD : H1.objs.size = I + 1 := hsz1
  have F2 : Fr h₀ L (H1.push { cls := .type "list", dict := none, data := .seq ([] : List Value).toArray }) m := F1.push _
  have N2 : News h₀ L (H1.push { cls := .type "list", dict := none, data := .seq ([] : List Value).toArray }) ((H1.objs.size, LCg.lst []) :: news) := News.push F1 N1 _ rfl
  have hexI : ∃ o, H1.get? I = some o := hex _ _ hst
  have hst2 : St 0 (H1.push { cls := .type "list", dict := none, data := .seq ([] : List Value).toArray }) := by
    obtain ⟨o, ho⟩ := hexI
    exact hmv _ _ _ o hst ho (Heap.get?_push_of_some _ ho) (fun p hp => (N1 p (hK _ _ _ hj p hp)).1) fun p hp => Heap.get?_push_of_some _ (N1 p (hK _ _ _ hj p hp)).1
  generalize hH2 : H1.push { cls := .type "list", dict := none, data := .seq ([] : List Value).toArray } = H2 at *
  have hC : H2.objs.size = I + 2 := by rw [← hH2, Heap.size_push, hD]
  have hDI : I + 1 ≠ I := Nat.succ_ne_self I
  have hCI : I + 2 ≠ I := by omega
  have hCD : I + 2 ≠ I + 1 := by omega
  rw [hD] at N2 ⊢
  rw [hC] at hns₁ hsb₁ ⊢
  have hLlt : L < I := by rw [← hI]; exact F.ns.lt
  have hL2 : L ≠ I + 2 := Nat.ne_of_lt (Nat.lt_succ_of_lt (Nat.lt_succ_of_lt hLlt))
  have hL1 : L ≠ I + 1 := Nat.ne_of_lt (Nat.lt_succ_of_lt hLlt)
  have up : ∀ b o, b ≠ I + 2 → H2.get? b = some o → h₁.get? b = some o := fun b o hb e => hsb₁.extBut b o hb (Heap.get?_push_of_some _ e)
  have hC₀ : h₀.get? (I + 2) = none := by
    cases e : h₀.get? (I + 2) with
    | none => rfl
    | some o => have := Heap.lt_size (F2.keep _ _ e); rw [hC] at this; exact absurd this (Nat.lt_irrefl _)
  have F3 : Fr h₀ L h₁ m := ⟨F2.ns.at' fun o e => up _ o hL2 e, fun b o e => up b o (fun q => by rw [q, hC₀] at e; cases e) (F2.keep b o e), F2.above⟩
  have offC : ∀ p ∈ (I + 1, LCg.lst []) :: news, p.1 ≠ I + 2 := fun p hp e => by
    have := Heap.lt_size (N2 p hp).1
    rw [hC, e] at this; exact Nat.lt_irrefl _ this
  have N3 : News h₀ L h₁ ((I + 1, LCg.lst []) :: news) := fun p hp => ⟨up _ _ (offC p hp) (N2 p hp).1, (N2 p hp).2⟩
  have offD : ∀ p ∈ news, p.1 ≠ I + 1 := fun p hp e => by
    have := Heap.lt_size (N1 p hp).1
    rw [hD, e] at this; exact Nat.lt_irrefl _ this
  have hst3 : St 0 h₁ := by
    obtain ⟨o, ho⟩ := hex _ _ hst2
    exact hmv _ _ _ o hst2 ho (up _ _ (Ne.symm hCI) ho) (fun p hp => (N2 p (.tail _ (hK _ _ _ hj p hp))).1) fun p hp => (N3 p (.tail _ (hK _ _ _ hj p hp))).1
  have loop : ∀ s₃ : Shared, s₃ = { s₁ with heap := h₁, toks := s₁.toks + ([] : List (Str × Value)).length } →
      codeAny (model prog w) A (.compLoop (.ListComp elt [⟨.Name x px, iter, ifs, 0⟩] scope pos) 0 (.ref I) (.ref (I + 1)) (compEnvC scope cl (I + 2) env)) (Post (.ref (I + 1)) (I + 2)) s₃ := by
    rintro s₃ rfl
    refine codeAny_compLoop_tests
      (LcInv h₀ L m s₁ n St I J) ?_ (n + 1)
      ⟨h₁, _, 0, [], _, news, Nat.zero_le _, rfl, Nat.le_refl _, hst3, F3, hns₁, N3, fun p hp => ⟨offI p hp, offC p (.tail _ hp), offD p hp⟩, hj⟩
    rintro k s' ⟨h', tk, i, ys, m', nx, hin, rfl, hyl, hst', F', hn', N', off', hJ⟩
    have hk1 : ∀ {h₂ : Heap}, (∀ b o, b ∉ [I] → h'.get? b = some o → h₂.get? b = some o) → Fr h₀ L h₂ m ∧ News h₀ L h₂ ((I + 1, LCg.lst ys) :: nx) := fun hk =>
      ⟨LCg.fr_but F' hk hIL hI₀, LCg.news_but N' hk fun p hp => by
        rcases List.mem_cons.mp hp with rfl | hp
        · exact hDI
        · exact (off' p hp).1⟩
    by_cases hlt : i < n
    · refine W.item i _ _ _ hlt hst' fun u h₂ tk₂ hPu hst₂ hk₂ => ?_
      obtain ⟨F₂, N₂⟩ := hk1 hk₂
      refine wpAny_assign_Name (wpAny_storeName_local (lookup_relabel_local hx) (hn'.at' fun o e => hk₂ _ o (by simp) e) (fun h₃ hn₃ hs₃ => ?_) (by simp [compEnvC, relabel, hkind]))
      obtain ⟨oC, heC, hoC⟩ := LCg.ns_obj hn₃
      obtain ⟨oI, heI₂⟩ := hex _ _ hst₂
      have F₃ : Fr h₀ L h₃ m := F₂.change hs₃ (Ne.symm hL2) hC₀
      have heI : h₃.get? I = some oI := hs₃.extBut _ _ (Ne.symm hCI) heI₂
      have N₃ : News h₀ L h₃ ((I, oI) :: (I + 2, oC) :: (I + 1, LCg.lst ys) :: nx) := fun p hp => by
        rcases List.mem_cons.mp hp with rfl | hp
        · exact ⟨heI, Ne.symm hIL, hI₀⟩
        · rcases List.mem_cons.mp hp with rfl | hp
          · exact ⟨heC, Ne.symm hL2, hC₀⟩
          · refine ⟨hs₃.extBut _ _ ?_ (N₂ p hp).1, (N₂ p hp).2⟩
            rcases List.mem_cons.mp hp with rfl | hp
            · exact Ne.symm hCD
            · exact (off' p hp).2.1
      have hst₃ : St (i + 1) h₃ := hmv _ _ _ oI hst₂ heI₂ heI (fun p hp => (N₂ p (.tail _ (hK _ _ _ hJ p hp))).1) fun p hp => (N₃ p (.tail _ (.tail _ (.tail _ (hK _ _ _ hJ p hp))))).1
      have offF : ∀ p ∈ nx, ∀ q ∈ [(I, oI), (I + 2, oC), (I + 1, LCg.lst ys)], p.1 ≠ q.1 := fun p hp q hq => by
        rcases List.mem_cons.mp hq with rfl | hq
        · exact (off' p hp).1
        · rcases List.mem_cons.mp hq with rfl | hq
          · exact (off' p hp).2.1
          · rw [List.mem_singleton.mp hq]; exact (off' p hp).2.2
      have back : ∀ {zs : List Value} {h₄ : Heap} {nx₄ : List (Addr × Obj)}, St (i + 1) h₃ → News h₀ L h₄ ([(I, oI), (I + 2, oC), (I + 1, LCg.lst ys)] ++ nx₄) → J (i + 1) zs nx₄ → St (i + 1) h₄ := fun st N₄ hJ₄ =>
        hmv _ _ _ oI st heI (N₄ _ (.head _)).1 (fun p hp => (N₃ p (.tail _ (.tail _ (.tail _ (hK _ _ _ hJ p hp))))).1) fun p hp => (N₄ p (.tail _ (.tail _ (.tail _ (hK _ _ _ hJ₄ p hp))))).1
      refine wpAny_mono (turn i u ys nx I oI (I + 2) oC (I + 1) _ h₃ _ _ hlt hPu hJ hoC (by simp) F₃ N₃ offF (Ne.symm hCI) (Ne.symm hDI) hCD hyl) (fun ok s₄ h₄ => ?_) fun _ _ e => e
      cases ok with
      | true =>
        rw [if_pos rfl] at h₄ ⊢
        refine wpAny_mono h₄ (fun y s₅ h₅ => ?_) fun _ _ e => e
        obtain ⟨h₅, tk₅, nx₅, F₅, N₅, off₅, hJ₅⟩ := h₅
        refine append_at (hsz := by show ys.toArray.size ≤ sizeLine; rw [List.size_toArray]; omega) (N₅ (I + 1, LCg.lst ys) (.tail _ (.tail _ (.head _)))).1 fun h₆ hs₆ hD₆ => ?_
        have hst₅ := back hst₃ N₅ hJ₅
        have e5 := (N₅ _ (.head _)).1
        have hst₆ : St (i + 1) h₆ := hmv _ _ _ oI hst₅ e5 (hs₆.extBut _ _ (Ne.symm hDI) e5) (fun p hp => (N₅ p (.tail _ (.tail _ (.tail _ (hK _ _ _ hJ₅ p hp))))).1)
          fun p hp => hs₆.extBut _ _ (off₅ p (hK _ _ _ hJ₅ p hp) _ (.tail _ (.tail _ (.head _)))) (N₅ p (.tail _ (.tail _ (.tail _ (hK _ _ _ hJ₅ p hp))))).1
        have hD₀ : h₀.get? (I + 1) = none := (N₅ (I + 1, LCg.lst ys) (.tail _ (.tail _ (.head _)))).2.2
        refine ⟨n + 1 - (i + 1), by omega, h₆, tk₅, i + 1, ys ++ [y], _, nx₅, hlt, rfl, by rw [List.length_append, List.length_singleton]; omega, hst₆, F₅.change hs₆ (Ne.symm hL1) hD₀,
          (hoC.ns (N₅ (I + 2, oC) (.tail _ (.head _))).1).sameBut hs₆ hCD, fun p hp => ?_, fun p hp => ⟨off₅ p hp _ (.head _), off₅ p hp _ (.tail _ (.head _)), off₅ p hp _ (.tail _ (.tail _ (.head _)))⟩, hJ₅⟩
        rcases List.mem_cons.mp hp with rfl | hp
        · exact ⟨hD₆.trans (congrArg some (LCg.lst_snoc ys y)), Ne.symm hL1, hD₀⟩
        · exact ⟨hs₆.extBut _ _ (off₅ p hp _ (.tail _ (.tail _ (.head _)))) (N₅ p (.tail _ (.tail _ (.tail _ hp)))).1, (N₅ p (.tail _ (.tail _ (.tail _ hp)))).2⟩
      | false =>
        rw [if_neg Bool.false_ne_true] at h₄ ⊢
        obtain ⟨h₅, tk₅, nx₅, F₅, N₅, off₅, hJ₅⟩ := h₄
        exact ⟨n + 1 - (i + 1), by omega, h₅, tk₅, i + 1, ys, _, nx₅, hlt, rfl, by omega, back hst₃ N₅ hJ₅, F₅, hoC.ns (N₅ (I + 2, oC) (.tail _ (.head _))).1,
          fun p hp => N₅ p (.tail _ (.tail _ hp)), fun p hp => ⟨off₅ p hp _ (.head _), off₅ p hp _ (.tail _ (.head _)), off₅ p hp _ (.tail _ (.tail _ (.head _)))⟩, hJ₅⟩
    · obtain rfl : i = n := Nat.le_antisymm hin (Nat.not_lt.mp hlt)
      refine W.done _ _ _ hst' fun h₂ tk₂ hk₂ => ?_
      obtain ⟨F₂, N₂⟩ := hk1 hk₂
      exact hPost (I + 1) (I + 2) h₂ tk₂ m' ys nx (Nat.le_of_eq hI₁) (Nat.le_succ I) hCD hL2 hC₀ F₂ (hn'.at' fun o e => hk₂ _ o (by simp) e) N₂ (fun p hp => ⟨(off' p hp).2.2, (off' p hp).2.1⟩) (hI₁ ▸ fin h₂ tk₂ ys nx hJ)
  exact codeAny_compStart_list (loop _ rfl) (W.self 0 _ _ _ hst3 (loop _ rfl))
theorem lc_eval {elt iter : Expr} {ifs : List Expr} {x : Str} {px : Pos} {scope : Scope} {cl : List (Str × Addr)} {pos : Pos} {Q : Value → Shared → Prop}
    (_F : Fr h₀ L s.heap m) (hclos : closureFor scope env = pure cl) (hcell : ∀ y ∈ scope.names, y.2 ≠ .cell) (hkind : scope.kind = .function)
    (hnames : ∀ y ∈ scope.names, y.2 = .local → scope.names.lookup y.1 = some .local) (hx : scope.names.lookup x = some .local)
    (h : wpAny (model prog w) A (eval iter env) (LcAt prog w A h₀ L m env elt ifs x scope cl
      (fun n₀ s₂ ys nx => ∀ D h tk, n₀ ≤ D → Fr h₀ L h m → News h₀ L h ((D, LCg.lst ys) :: nx) → (∀ p ∈ nx, p.1 ≠ D) → Q (.ref D) { s₂ with heap := h, toks := tk })) E s)
    (hs : ∀ x, foldedSetIterable iter env x = pure x := by intro _; rfl) :
    wpAny (model prog w) A (eval (.ListComp elt [⟨.Name x px, iter, ifs, 0⟩] scope pos) env) Q E s := by
  rw [eval_ListComp]
  refine wpAny_comprehension_free (use := none) rfl hs hclos hkind hnames (wpAny_mono h (fun v s₁ h₁ => lc_core hcell hkind hx h₁ (fun acc C => compPost (model prog w) A E none Q acc C) ?_) fun _ _ e => e)
  intro D C h tk m' ys nx hD hD2 hCD hLC hC₀ F hn N off fin
  refine ⟨m', hn, fun h₃ hs₃ => fin D h₃ tk (Nat.le_trans hD hD2) (F.change hs₃ (Ne.symm hLC) hC₀) (fun p hp => ⟨hs₃.extBut _ _ ?_ (N p hp).1, (N p hp).2⟩) fun p hp => (off p hp).1⟩
  rcases List.mem_cons.mp hp with rfl | hp
  · exact Ne.symm hCD
  · exact (off p hp).2
/-- y = [.. for x in ..], where y is a name of the frame on the comprehension's own line -/
theorem lc_assign {elt iter : Expr} {ifs : List Expr} {x y : Str} {px py : Pos} {scope : Scope} {cl : List (Str × Addr)} {pos spos : Pos} {Q : Flow → Shared → Prop}
    (hsw : swapsWith (.ListComp elt [⟨.Name x px, iter, ifs, 0⟩] scope pos) (some (.Name y py)) spos.line env = pure true)
    (_F : Fr h₀ L s.heap m) (hclos : closureFor scope env = pure cl) (hcell : ∀ y ∈ scope.names, y.2 ≠ .cell) (hkind : scope.kind = .function)
    (hnames : ∀ y ∈ scope.names, y.2 = .local → scope.names.lookup y.1 = some .local) (hx : scope.names.lookup x = some .local)
    (hL : env.locals = L) (hy : env.kindOf y = some .local) (hp : (env.scope.kind == .class || (env.scope.kind == .module && env.locals != env.globals)) = false)
    (h : wpAny (model prog w) A (eval iter env) (LcAt prog w A h₀ L m env elt ifs x scope cl
      (fun n₀ s₂ ys nx => ∀ D h tk, n₀ ≤ D → Fr h₀ L h (fun z => if z = y then some (.ref D) else m z) → News h₀ L h ((D, LCg.lst ys) :: nx) → (∀ p ∈ nx, p.1 ≠ D) → Q .next { s₂ with heap := h, toks := tk })) E s)
    (hs : ∀ x, foldedSetIterable iter env x = pure x := by intro _; rfl) :
    wpAny (model prog w) A (exec (.Assign [.Name y py] (.ListComp elt [⟨.Name x px, iter, ifs, 0⟩] scope pos) spos) env) Q E s := by
  rw [exec_Assign_Name_used _ _ _ _ hsw]
  refine wpAny_bind (wpAny_standAt (wpAny_bind ?_))
  show wpAny _ A (do let _ ← comprehension (.ListComp elt [⟨.Name x px, iter, ifs, 0⟩] scope pos) scope env _ (newList []) false (eval iter env) (some (assign (.Name y py) env))) _ _ s
  refine wpAny_bind (wpAny_mono (wpAny_comprehension_free (use := some (assign (.Name y py) env)) (Q := fun _ s' => Q .next s') rfl hs hclos hkind hnames
    (wpAny_mono h (fun v s₁ h₁ => lc_core hcell hkind hx h₁ (fun acc C => compPost (model prog w) A E (some (assign (.Name y py) env)) (fun _ s' => Q .next s') acc C) ?_) fun _ _ e => e)) (fun _ s' hq => wpAny_pure (wpAny_pure hq)) fun _ _ e => e)
  intro D C hh tk m' ys nx hD hD2 hCD hLC hC₀ F hn N off fin
  subst hL
  show wpAny _ A (assign (.Name y py) env (.ref D)) _ _ _
  refine wpAny_assign_Name (wpAny_storeName_local hy F.ns (fun h₂ hn₂ hs₂ => ?_) hp)
  refine ⟨m', hn.sameBut hs₂ (Ne.symm hLC), fun h₃ hs₃ => ?_⟩
  have hup : ∀ b o, b ≠ env.locals → b ≠ C → hh.get? b = some o → h₃.get? b = some o := fun b o hb hc e => hs₃.extBut b o hc (hs₂.extBut b o hb e)
  refine fin D h₃ _ (Nat.le_trans hD hD2) ((F.set hn₂ hs₂).change hs₃ (Ne.symm hLC) hC₀) (fun p hp => ⟨hup _ _ (N p hp).2.1 ?_ (N p hp).1, (N p hp).2⟩) fun p hp => (off p hp).1
  rcases List.mem_cons.mp hp with rfl | hp
  · exact Ne.symm hCD
  · exact (off p hp).2

end
/-- a comprehension that leaves the ledger as it is -/
inductive JAt {α : Type} (nx₀ : List (Addr × Obj)) (R : Nat → List α → Prop) (i : Nat) (ys : List α) : List (Addr × Obj) → Prop
  | mk (h : R i ys) : JAt nx₀ R i ys nx₀
section
variable {prog : Program} {w : World} {A : Around} {s : Shared} {env : Env} {h₀ : Heap} {L : Addr} {m : Str → Option Value} {elt : Expr} {x : Str} {scope : Scope} {cl : List (Str × Addr)} {Fin : Nat → Shared → List Value → List (Addr × Obj) → Prop} {v : Value}
theorem LcAt.keep0 (n : Nat) (P : Nat → Value → Prop) (srcs : List (Addr × Obj)) (Init : Heap → Prop) (news : List (Addr × Obj)) (R : Nat → List Value → Prop) (S : Src prog w v n P srcs Init) (hh : A.handled = none) (F : Fr h₀ L s.heap m) (N : News h₀ L s.heap news) (hi : Init s.heap) (hsz : n ≤ sizeLine)
    (hK : ∀ p ∈ srcs, p ∈ news) (hj : R 0 [])
    (turn : ∀ i u ys I oI C oC D m₂ h tk (E' : Value → Shared → Prop), i < n → P i u → R i ys → LCg.NsObj oC m₂ → m₂ x = some u → Fr h₀ L h m → News h₀ L h ((I, oI) :: (C, oC) :: (D, LCg.lst ys) :: news) →
      (∀ p ∈ news, ∀ q ∈ [(I, oI), (C, oC), (D, LCg.lst ys)], p.1 ≠ q.1) → I ≠ C → I ≠ D → C ≠ D → ys.length ≤ i →
      wpAny (model prog w) A (eval elt (compEnvC scope cl C env)) (fun y => PartEnd h₀ L m { s with heap := h, toks := tk } [(I, oI), (C, oC), (D, LCg.lst ys)] (JAt news R (i + 1) (ys ++ [y]))) E' { s with heap := h, toks := tk })
    (fin : ∀ h tk ys, R n ys → Fin s.heap.objs.size { s with heap := h, toks := tk } ys news) : LcAt prog w A h₀ L m env elt [] x scope cl Fin v s :=
  ⟨n, P, srcs, Init, news, JAt news R, S, hh, F, N, hi, hsz, fun i ys nx hJ p hp => by cases hJ; exact hK p hp, ⟨hj⟩,
    fun i u ys nx I oI C oC D m₂ h tk E' hi hu hJ hoC hmx F1 N1 off h1 h2 h3 hl => by
      cases hJ with
      | mk hR =>
        refine wpAny_tests_nil ?_
        rw [if_pos rfl]
        exact turn i u ys I oI C oC D m₂ h tk E' hi hu hR hoC hmx F1 N1 off h1 h2 h3 hl,
    fun h tk ys nx hJ => by cases hJ with | mk hR => exact fin h tk ys hR⟩
theorem LcAt.keepR (n : Nat) (a : Int) (srcs : List (Addr × Obj)) (Init : Heap → Prop) (news : List (Addr × Obj)) (R : Nat → List Value → Prop) (S : Src prog w v n (IntAt a) srcs Init) (hh : A.handled = none) (F : Fr h₀ L s.heap m) (N : News h₀ L s.heap news) (hi : Init s.heap) (hsz : n ≤ sizeLine)
    (hK : ∀ p ∈ srcs, p ∈ news) (hj : R 0 [])
    (turn : ∀ i t ys I oI C oC D m₂ h tk (E' : Value → Shared → Prop), i < n → R i ys → LCg.NsObj oC m₂ → m₂ x = some (.int (a + (i : Int)) t) → Fr h₀ L h m → News h₀ L h ((I, oI) :: (C, oC) :: (D, LCg.lst ys) :: news) →
      (∀ p ∈ news, ∀ q ∈ [(I, oI), (C, oC), (D, LCg.lst ys)], p.1 ≠ q.1) → I ≠ C → I ≠ D → C ≠ D → ys.length ≤ i →
      wpAny (model prog w) A (eval elt (compEnvC scope cl C env)) (fun y => PartEnd h₀ L m { s with heap := h, toks := tk } [(I, oI), (C, oC), (D, LCg.lst ys)] (JAt news R (i + 1) (ys ++ [y]))) E' { s with heap := h, toks := tk })
    (fin : ∀ h tk ys, R n ys → Fin s.heap.objs.size { s with heap := h, toks := tk } ys news) : LcAt prog w A h₀ L m env elt [] x scope cl Fin v s :=
  .keep0 n _ srcs Init news R S hh F N hi hsz hK hj (fun i u ys I oI C oC D m₂ h tk E' hi hu => by cases hu with | mk t => exact turn i t ys I oI C oC D m₂ h tk E' hi) fin
end

/-- the like of a dict's comprehension -/
inductive DcAt {K : Type} [DecidableEq K] (prog : Program) (w : World) (knd : KeyKind prog w K) (A : Around) (h₀ : Heap) (L : Addr) (m : Str → Option Value) (env : Env) (kx vx : Expr) (ifs : List Expr) (x : Str) (scope : Scope) (cl : List (Str × Addr))
    (Fin : Nat → Shared → List (K × Value) → List (Addr × Obj) → Prop) (v : Value) (s : Shared) : Prop
  | mk (n : Nat) (P : Nat → Value → Prop) (srcs : List (Addr × Obj)) (Init : Heap → Prop) (news : List (Addr × Obj)) (J : Nat → List (K × Value) → List (Addr × Obj) → Prop) (S : Src prog w v n P srcs Init) (hh : A.handled = none) (F : Fr h₀ L s.heap m) (N : News h₀ L s.heap news) (hi : Init s.heap) (hsz : n ≤ sizeLine)
    (hK : ∀ i ys nx, J i ys nx → ∀ p ∈ srcs, p ∈ nx) (hj : J 0 [] news)
    (turn : ∀ i u ys nx I oI C oC D oD m₂ h tk (E' : Value → Shared → Prop), i < n → P i u → J i ys nx → oD.IsDictOf knd ys → LCg.NsObj oC m₂ → m₂ x = some u → Fr h₀ L h m → News h₀ L h ((I, oI) :: (C, oC) :: (D, oD) :: nx) →
      (∀ p ∈ nx, ∀ q ∈ [(I, oI), (C, oC), (D, oD)], p.1 ≠ q.1) → I ≠ C → I ≠ D → C ≠ D → ys.length ≤ i →
      wpAny (model prog w) A (tests ifs (compEnvC scope cl C env)) (fun ok s₃ => if ok = true then
          wpAny (model prog w) A (eval kx (compEnvC scope cl C env)) (fun kv s₄ => wpAny (model prog w) A (eval vx (compEnvC scope cl C env)) (fun vv s₅ => ∃ k, knd.is k kv = true ∧
            PartEnd h₀ L m { s with heap := h, toks := tk } [(I, oI), (C, oC), (D, oD)] (J (i + 1) (stored ys k vv)) s₅) E' s₄) E' s₃
        else PartEnd h₀ L m { s with heap := h, toks := tk } [(I, oI), (C, oC), (D, oD)] (J (i + 1) ys) s₃) E' { s with heap := h, toks := tk })
    (fin : ∀ h tk ys nx, J n ys nx → Fin s.heap.objs.size { s with heap := h, toks := tk } ys nx) : DcAt prog w knd A h₀ L m env kx vx ifs x scope cl Fin v s

/-- how a dict's comprehension stands between its turns -/
inductive DcInv {K : Type} [DecidableEq K] {prog : Program} {w : World} (knd : KeyKind prog w K) (h₀ : Heap) (L : Addr) (m : Str → Option Value) (s₁ : Shared) (n : Nat) (St : Nat → Heap → Prop) (I : Addr) (J : Nat → List (K × Value) → List (Addr × Obj) → Prop) (k : Nat) : Shared → Prop
  | mk (h' : Heap) (tk i : Nat) (ys : List (K × Value)) (oD : Obj) (m' : Str → Option Value) (nx : List (Addr × Obj)) (hin : i ≤ n) (hk : k = n + 1 - i) (hyl : ys.length ≤ i) (hst' : St i h') (F' : Fr h₀ L h' m) (hn' : h'.Ns (I + 2) m') (N' : News h₀ L h' ((I + 1, oD) :: nx)) (hD : oD.IsDictOf knd ys)
    (off' : ∀ p ∈ nx, p.1 ≠ I ∧ p.1 ≠ I + 2 ∧ p.1 ≠ I + 1) (hJ : J i ys nx) : DcInv knd h₀ L m s₁ n St I J k { s₁ with heap := h', toks := tk }

section
variable {prog : Program} {w : World} {A : Around} {E : Value → Shared → Prop} {s : Shared} {env : Env} {h₀ : Heap} {L : Addr} {m : Str → Option Value}

theorem dc_eval {K : Type} [DecidableEq K] {knd : KeyKind prog w K} {kx vx iter : Expr} {ifs : List Expr} {x : Str} {px : Pos} {scope : Scope} {cl : List (Str × Addr)} {pos : Pos} {Q : Value → Shared → Prop}
    (_F : Fr h₀ L s.heap m) (hclos : closureFor scope env = pure cl) (hcell : ∀ y ∈ scope.names, y.2 ≠ .cell) (hkind : scope.kind = .function)
    (hnames : ∀ y ∈ scope.names, y.2 = .local → scope.names.lookup y.1 = some .local) (hx : scope.names.lookup x = some .local)
    (hbig : h₀.NoLimit) (h : wpAny (model prog w) A (eval iter env) (DcAt prog w knd A h₀ L m env kx vx ifs x scope cl
      (fun n₀ s₂ ys nx => ∀ D oD h tk, n₀ ≤ D → Fr h₀ L h m → News h₀ L h ((D, oD) :: nx) → oD.IsDictOf knd ys → (D == sysModules) = false → (∀ p ∈ nx, p.1 ≠ D) → Q (.ref D) { s₂ with heap := h, toks := tk })) E s)
    (hs : ∀ x, foldedSetIterable iter env x = pure x := by intro _; rfl) :
    wpAny (model prog w) A (eval (.DictComp kx vx [⟨.Name x px, iter, ifs, 0⟩] scope pos) env) Q E s := by
  rw [arm_eval_DictComp]
  refine wpAny_comprehension_free (use := none) rfl hs hclos hkind hnames (wpAny_mono h (fun v s₁ h₁ => ?_) fun _ _ e => e)
  obtain ⟨n, P, srcs, Init, news, J, S, hh, F, N, hi, hsz, hK, hj, turn, fin⟩ := h₁
  have hs0 : ∀ p ∈ srcs, s₁.heap.get? p.1 = some p.2 := fun p hp => (N p (hK _ _ _ hj p hp)).1
  obtain ⟨oI₀, St, hfr, hit, W, hst, hex, hmv⟩ := S.go A s₁ hh hi hs0
  refine hit _ _ ?_
  generalize hI : s₁.heap.objs.size = I at *
  have hI₀ : h₀.get? I = none := by rw [← hI]; exact next_is_new F
  have hIL : L ≠ I := by rw [← hI]; exact Nat.ne_of_lt F.ns.lt
  have F1 : Fr h₀ L (s₁.heap.push oI₀) m := F.push _
  have N1 : News h₀ L (s₁.heap.push oI₀) news := fun p hp => ⟨Heap.get?_push_of_some _ (N p hp).1, (N p hp).2⟩
  have offI : ∀ p ∈ news, p.1 ≠ I := fun p hp e => Nat.lt_irrefl _ (show I < I from by
    have := Heap.lt_size (N p hp).1
    rw [hI, e] at this; exact this)
  have hsz1 : (s₁.heap.push oI₀).objs.size = I + 1 := by rw [Heap.size_push, hI]
  generalize hH1 : s₁.heap.push oI₀ = H1 at *
  have lo : (I + 1 == sysModules) = false := by have e := F1.notModules (modules_low hbig); rw [hsz1] at e; exact e
  have hD0 : ({ cls := .type "dict", dict := none, data := .dict #[] } : Obj).IsDictOf knd ([] : List (K × Value)) := ⟨#[], 0, ⟨rfl, rfl, rfl⟩, rfl, fun _ he => by simp at he, .nil, List.nodup_nil⟩
  refine wpAny_newObj_type (wpAny_newFunctionEnv hcell (by intro y hy; simp at hy) (fun h₁ hns₁ hsb₁ => ?_) hkind)
  dsimp only at hns₁ hsb₁ ⊢
  have hD : H1.objs.size = I + 1 := hsz1
  have F2 : Fr h₀ L (H1.push { cls := .type "dict", dict := none, data := .dict #[] }) m := F1.push _
  have N2 : News h₀ L (H1.push { cls := .type "dict", dict := none, data := .dict #[] }) ((H1.objs.size, { cls := .type "dict", dict := none, data := .dict #[] }) :: news) := News.push F1 N1 _ rfl
  have hexI : ∃ o, H1.get? I = some o := hex _ _ hst
  have hst2 : St 0 (H1.push { cls := .type "dict", dict := none, data := .dict #[] }) := by
    obtain ⟨o, ho⟩ := hexI
    exact hmv _ _ _ o hst ho (Heap.get?_push_of_some _ ho) (fun p hp => (N1 p (hK _ _ _ hj p hp)).1) fun p hp => Heap.get?_push_of_some _ (N1 p (hK _ _ _ hj p hp)).1
  generalize hH2 : H1.push { cls := .type "dict", dict := none, data := .dict #[] } = H2 at *
  have hC : H2.objs.size = I + 2 := by rw [← hH2, Heap.size_push, hD]
  have hDI : I + 1 ≠ I := Nat.succ_ne_self I
  have hCI : I + 2 ≠ I := by omega
  have hCD : I + 2 ≠ I + 1 := by omega
  rw [hD] at N2 ⊢
  rw [hC] at hns₁ hsb₁ ⊢
  have hLlt : L < I := by rw [← hI]; exact F.ns.lt
  have hL2 : L ≠ I + 2 := Nat.ne_of_lt (Nat.lt_succ_of_lt (Nat.lt_succ_of_lt hLlt))
  have hL1 : L ≠ I + 1 := Nat.ne_of_lt (Nat.lt_succ_of_lt hLlt)
  have up : ∀ b o, b ≠ I + 2 → H2.get? b = some o → h₁.get? b = some o := fun b o hb e => hsb₁.extBut b o hb (Heap.get?_push_of_some _ e)
  have hC₀ : h₀.get? (I + 2) = none := by
    cases e : h₀.get? (I + 2) with
    | none => rfl
    | some o => have := Heap.lt_size (F2.keep _ _ e); rw [hC] at this; exact absurd this (Nat.lt_irrefl _)
  have F3 : Fr h₀ L h₁ m := ⟨F2.ns.at' fun o e => up _ o hL2 e, fun b o e => up b o (fun q => by rw [q, hC₀] at e; cases e) (F2.keep b o e), F2.above⟩
  have offC : ∀ p ∈ (I + 1, { cls := .type "dict", dict := none, data := .dict #[] }) :: news, p.1 ≠ I + 2 := fun p hp e => by
    have := Heap.lt_size (N2 p hp).1
    rw [hC, e] at this; exact Nat.lt_irrefl _ this
  have N3 : News h₀ L h₁ ((I + 1, { cls := .type "dict", dict := none, data := .dict #[] }) :: news) := fun p hp => ⟨up _ _ (offC p hp) (N2 p hp).1, (N2 p hp).2⟩
  have offD : ∀ p ∈ news, p.1 ≠ I + 1 := fun p hp e => by
    have := Heap.lt_size (N1 p hp).1
    rw [hD, e] at this; exact Nat.lt_irrefl _ this
  have hst3 : St 0 h₁ := by
    obtain ⟨o, ho⟩ := hex _ _ hst2
    exact hmv _ _ _ o hst2 ho (up _ _ (Ne.symm hCI) ho) (fun p hp => (N2 p (.tail _ (hK _ _ _ hj p hp))).1) fun p hp => (N3 p (.tail _ (hK _ _ _ hj p hp))).1
  have loop : ∀ s₃ : Shared, s₃ = { s₁ with heap := h₁, toks := s₁.toks + ([] : List (Str × Value)).length } →
      codeAny (model prog w) A (.compLoop (.DictComp kx vx [⟨.Name x px, iter, ifs, 0⟩] scope pos) 0 (.ref I) (.ref (I + 1)) (compEnvC scope cl (I + 2) env)) (compPost (model prog w) A E none Q (.ref (I + 1)) (I + 2)) s₃ := by
    rintro s₃ rfl
    refine codeAny_compLoop_testsD
      (DcInv knd h₀ L m s₁ n St I J) ?_ (n + 1)
      ⟨h₁, _, 0, [], _, _, news, Nat.zero_le _, rfl, Nat.le_refl _, hst3, F3, hns₁, N3, hD0, fun p hp => ⟨offI p hp, offC p (.tail _ hp), offD p hp⟩, hj⟩
    rintro k s' ⟨h', tk, i, ys, oD, m', nx, hin, rfl, hyl, hst', F', hn', N', hDk, off', hJ⟩
    have hk1 : ∀ {h₂ : Heap}, (∀ b o, b ∉ [I] → h'.get? b = some o → h₂.get? b = some o) → Fr h₀ L h₂ m ∧ News h₀ L h₂ ((I + 1, oD) :: nx) := fun hk =>
      ⟨LCg.fr_but F' hk hIL hI₀, LCg.news_but N' hk fun p hp => by
        rcases List.mem_cons.mp hp with rfl | hp
        · exact hDI
        · exact (off' p hp).1⟩
    by_cases hlt : i < n
    · refine W.item i _ _ _ hlt hst' fun u h₂ tk₂ hPu hst₂ hk₂ => ?_
      obtain ⟨F₂, N₂⟩ := hk1 hk₂
      refine wpAny_assign_Name (wpAny_storeName_local (lookup_relabel_local hx) (hn'.at' fun o e => hk₂ _ o (by simp) e) (fun h₃ hn₃ hs₃ => ?_) (by simp [compEnvC, relabel, hkind]))
      obtain ⟨oC, heC, hoC⟩ := LCg.ns_obj hn₃
      obtain ⟨oI, heI₂⟩ := hex _ _ hst₂
      have F₃ : Fr h₀ L h₃ m := F₂.change hs₃ (Ne.symm hL2) hC₀
      have heI : h₃.get? I = some oI := hs₃.extBut _ _ (Ne.symm hCI) heI₂
      have N₃ : News h₀ L h₃ ((I, oI) :: (I + 2, oC) :: (I + 1, oD) :: nx) := fun p hp => by
        rcases List.mem_cons.mp hp with rfl | hp
        · exact ⟨heI, Ne.symm hIL, hI₀⟩
        · rcases List.mem_cons.mp hp with rfl | hp
          · exact ⟨heC, Ne.symm hL2, hC₀⟩
          · refine ⟨hs₃.extBut _ _ ?_ (N₂ p hp).1, (N₂ p hp).2⟩
            rcases List.mem_cons.mp hp with rfl | hp
            · exact Ne.symm hCD
            · exact (off' p hp).2.1
      have hst₃ : St (i + 1) h₃ := hmv _ _ _ oI hst₂ heI₂ heI (fun p hp => (N₂ p (.tail _ (hK _ _ _ hJ p hp))).1) fun p hp => (N₃ p (.tail _ (.tail _ (.tail _ (hK _ _ _ hJ p hp))))).1
      have offF : ∀ p ∈ nx, ∀ q ∈ [(I, oI), (I + 2, oC), (I + 1, oD)], p.1 ≠ q.1 := fun p hp q hq => by
        rcases List.mem_cons.mp hq with rfl | hq
        · exact (off' p hp).1
        · rcases List.mem_cons.mp hq with rfl | hq
          · exact (off' p hp).2.1
          · rw [List.mem_singleton.mp hq]; exact (off' p hp).2.2
      have back : ∀ {zs : List (K × Value)} {h₄ : Heap} {nx₄ : List (Addr × Obj)}, St (i + 1) h₃ → News h₀ L h₄ ([(I, oI), (I + 2, oC), (I + 1, oD)] ++ nx₄) → J (i + 1) zs nx₄ → St (i + 1) h₄ := fun st N₄ hJ₄ =>
        hmv _ _ _ oI st heI (N₄ _ (.head _)).1 (fun p hp => (N₃ p (.tail _ (.tail _ (.tail _ (hK _ _ _ hJ p hp))))).1) fun p hp => (N₄ p (.tail _ (.tail _ (.tail _ (hK _ _ _ hJ₄ p hp))))).1
      refine wpAny_mono (turn i u ys nx I oI (I + 2) oC (I + 1) oD _ h₃ _ _ hlt hPu hJ hDk hoC (by simp) F₃ N₃ offF (Ne.symm hCI) (Ne.symm hDI) hCD hyl) (fun ok s₄ h₄ => ?_) fun _ _ e => e
      cases ok with
      | true =>
        rw [if_pos rfl] at h₄ ⊢
        refine wpAny_mono h₄ (fun kv s₆ h₆ => wpAny_mono h₆ (fun vv s₅ h₅ => ?_) fun _ _ e => e) fun _ _ e => e
        obtain ⟨kk, hkk, h₅, tk₅, nx₅, F₅, N₅, off₅, hJ₅⟩ := h₅
        refine wpAny_dictSet_pairs (hsz := by omega) hkk (Heap.dictOf_iff.mpr ⟨oD, (N₅ (I + 1, oD) (.tail _ (.tail _ (.head _)))).1, hDk⟩) fun h₆ hm₆ hs₆ => ?_
        obtain ⟨oD₆, hD₆, hDk₆⟩ := Heap.dictOf_iff.mp hm₆
        have hst₅ := back hst₃ N₅ hJ₅
        have e5 := (N₅ _ (.head _)).1
        have hst₆ : St (i + 1) h₆ := hmv _ _ _ oI hst₅ e5 (hs₆.extBut _ _ (Ne.symm hDI) e5) (fun p hp => (N₅ p (.tail _ (.tail _ (.tail _ (hK _ _ _ hJ₅ p hp))))).1)
          fun p hp => hs₆.extBut _ _ (off₅ p (hK _ _ _ hJ₅ p hp) _ (.tail _ (.tail _ (.head _)))) (N₅ p (.tail _ (.tail _ (.tail _ (hK _ _ _ hJ₅ p hp))))).1
        have hD₀ : h₀.get? (I + 1) = none := (N₅ (I + 1, oD) (.tail _ (.tail _ (.head _)))).2.2
        refine ⟨n + 1 - (i + 1), by omega, h₆, _, i + 1, stored ys kk vv, oD₆, _, nx₅, hlt, rfl, by have := stored_length_le ys kk vv; omega, hst₆, F₅.change hs₆ (Ne.symm hL1) hD₀,
          (hoC.ns (N₅ (I + 2, oC) (.tail _ (.head _))).1).sameBut hs₆ hCD, fun p hp => ?_, hDk₆, fun p hp => ⟨off₅ p hp _ (.head _), off₅ p hp _ (.tail _ (.head _)), off₅ p hp _ (.tail _ (.tail _ (.head _)))⟩, hJ₅⟩
        rcases List.mem_cons.mp hp with rfl | hp
        · exact ⟨hD₆, Ne.symm hL1, hD₀⟩
        · exact ⟨hs₆.extBut _ _ (off₅ p hp _ (.tail _ (.tail _ (.head _)))) (N₅ p (.tail _ (.tail _ (.tail _ hp)))).1, (N₅ p (.tail _ (.tail _ (.tail _ hp)))).2⟩
      | false =>
        rw [if_neg Bool.false_ne_true] at h₄ ⊢
        obtain ⟨h₅, tk₅, nx₅, F₅, N₅, off₅, hJ₅⟩ := h₄
        exact ⟨n + 1 - (i + 1), by omega, h₅, tk₅, i + 1, ys, oD, _, nx₅, hlt, rfl, by omega, back hst₃ N₅ hJ₅, F₅, hoC.ns (N₅ (I + 2, oC) (.tail _ (.head _))).1,
          fun p hp => N₅ p (.tail _ (.tail _ hp)), hDk, fun p hp => ⟨off₅ p hp _ (.head _), off₅ p hp _ (.tail _ (.head _)), off₅ p hp _ (.tail _ (.tail _ (.head _)))⟩, hJ₅⟩
    · obtain rfl : i = n := Nat.le_antisymm hin (Nat.not_lt.mp hlt)
      refine W.done _ _ _ hst' fun h₂ tk₂ hk₂ => ?_
      obtain ⟨F₂, N₂⟩ := hk1 hk₂
      refine ⟨m', hn'.at' fun o e => hk₂ _ o (by simp) e, fun h₃ hs₃ => ?_⟩
      refine fin h₃ tk₂ ys nx hJ (I + 1) oD h₃ tk₂ (Nat.le_succ _) (F₂.change hs₃ (Ne.symm hL2) hC₀) (fun p hp => ⟨hs₃.extBut _ _ ?_ (N₂ p hp).1, (N₂ p hp).2⟩) hDk lo fun p hp => (off' p hp).2.2
      rcases List.mem_cons.mp hp with rfl | hp
      · exact Ne.symm hCD
      · exact (off' p hp).2.1
  exact codeAny_compStart_dict (loop _ rfl) (W.self 0 _ _ _ hst3 (loop _ rfl))
end
theorem DcAt.keep {K : Type} [DecidableEq K] {prog : Program} {w : World} {knd : KeyKind prog w K} {A : Around} {s : Shared} {env : Env} {h₀ : Heap} {L : Addr} {m : Str → Option Value} {kx vx : Expr} {ifs : List Expr} {x : Str} {scope : Scope} {cl : List (Str × Addr)} {Fin : Nat → Shared → List (K × Value) → List (Addr × Obj) → Prop} {v : Value}
    (n : Nat) (P : Nat → Value → Prop) (srcs : List (Addr × Obj)) (Init : Heap → Prop) (news : List (Addr × Obj)) (R : Nat → List (K × Value) → Prop) (S : Src prog w v n P srcs Init) (hh : A.handled = none) (F : Fr h₀ L s.heap m) (N : News h₀ L s.heap news) (hi : Init s.heap) (hsz : n ≤ sizeLine)
    (hK : ∀ p ∈ srcs, p ∈ news) (hj : R 0 [])
    (turn : ∀ i u ys I oI C oC D oD m₂ h tk (E' : Value → Shared → Prop), i < n → P i u → R i ys → oD.IsDictOf knd ys → LCg.NsObj oC m₂ → m₂ x = some u → Fr h₀ L h m → News h₀ L h ((I, oI) :: (C, oC) :: (D, oD) :: news) →
      (∀ p ∈ news, ∀ q ∈ [(I, oI), (C, oC), (D, oD)], p.1 ≠ q.1) → I ≠ C → I ≠ D → C ≠ D → ys.length ≤ i →
      wpAny (model prog w) A (tests ifs (compEnvC scope cl C env)) (fun ok s₃ => if ok = true then
          wpAny (model prog w) A (eval kx (compEnvC scope cl C env)) (fun kv s₄ => wpAny (model prog w) A (eval vx (compEnvC scope cl C env)) (fun vv s₅ => ∃ k, knd.is k kv = true ∧
            PartEnd h₀ L m { s with heap := h, toks := tk } [(I, oI), (C, oC), (D, oD)] (JAt news R (i + 1) (stored ys k vv)) s₅) E' s₄) E' s₃
        else PartEnd h₀ L m { s with heap := h, toks := tk } [(I, oI), (C, oC), (D, oD)] (JAt news R (i + 1) ys) s₃) E' { s with heap := h, toks := tk })
    (fin : ∀ h tk ys, R n ys → Fin s.heap.objs.size { s with heap := h, toks := tk } ys news) : DcAt prog w knd A h₀ L m env kx vx ifs x scope cl Fin v s :=
  ⟨n, P, srcs, Init, news, JAt news R, S, hh, F, N, hi, hsz, fun i ys nx hJ p hp => by cases hJ; exact hK p hp, ⟨hj⟩,
    fun i u ys nx I oI C oC D oD m₂ h tk E' hi hu hJ hD hoC hmx F1 N1 off h1 h2 h3 hl => by
      cases hJ with | mk hR => exact turn i u ys I oI C oC D oD m₂ h tk E' hi hu hR hD hoC hmx F1 N1 off h1 h2 h3 hl,
    fun h tk ys nx hJ => by cases hJ with | mk hR => exact fin h tk ys hR⟩

noncomputable abbrev clsDict (w : World) (t : Tok) (v : Value) : Obj := dictOf [⟨PyData.keyHash w.params (Str.ofString "classes"), .str (Str.ofString "classes") t, v⟩] 1
noncomputable def Stop (p : Prop) : Prop := p
theorem Stop.out {p : Prop} (h : Stop p) : p := h
theorem Stop.in {p : Prop} (h : p) : Stop p := h
theorem allLt_ne {d : Addr} : ∀ {l : List (Addr × Obj)}, AllLt d l → ∀ p ∈ l, p.1 ≠ d
  | [], _, _, h => nomatch h
  | _ :: _, x, p, h => by
    rcases List.mem_cons.mp h with rfl | h
    · exact Nat.ne_of_lt x.1
    · exact allLt_ne x.2 p h
theorem allLt_mono {d d' : Addr} (hd : d ≤ d') : ∀ {l : List (Addr × Obj)}, AllLt d l → AllLt d' l
  | [], _ => trivial
  | _ :: _, x => ⟨Nat.lt_of_lt_of_le x.1 hd, allLt_mono hd x.2⟩
theorem allLt_all {d : Addr} : ∀ {l : List (Addr × Obj)}, AllLt d l → ∀ p ∈ l, p.1 < d
  | [], _, _, h => nomatch h
  | _ :: _, x, p, h => by
    rcases List.mem_cons.mp h with rfl | h
    · exact x.1
    · exact allLt_all x.2 p h

theorem mem_nth {α : Type} {l : List α} {a : α} (i : Nat) (h : l[i]? = some a) : a ∈ l := List.mem_of_getElem? h
theorem lt_hi {X a : Addr} {l : List (Addr × Obj)} (h : AllLt X l) (m : a ∈ l.map (·.1)) : @LT.lt Nat _ a X := by
  obtain ⟨p, hp, rfl⟩ := List.mem_map.mp m; exact allLt_all h p hp
theorem ne_hi {X a : Addr} {l : List (Addr × Obj)} (h : AllLt X l) (m : a ∈ l.map (·.1)) : a ≠ X := Nat.ne_of_lt (lt_hi h m)
theorem ne_lo {X a : Addr} {l : List (Addr × Obj)} (h : AllLt X l) (m : a ∈ l.map (·.1)) : X ≠ a := Nat.ne_of_gt (lt_hi h m)
theorem ne_hiN {X a : Addr} {l : List (Addr × Obj)} (h : AllLt X l) (k : Nat) (m : a ∈ l.map (·.1)) : a ≠ X + k := Nat.ne_of_lt (Nat.lt_of_lt_of_le (lt_hi h m) (Nat.le_add_right _ _))
theorem ne_loN {X a : Addr} {l : List (Addr × Obj)} (h : AllLt X l) (k : Nat) (m : a ∈ l.map (·.1)) : X + k ≠ a := (ne_hiN h k m).symm
theorem ne_s1 {n : Nat} : n ≠ n + 1 := Nat.ne_of_lt (Nat.lt_succ_self _)
theorem ne_s2 {n : Nat} : n ≠ n + 1 + 1 := Nat.ne_of_lt (Nat.lt_succ_of_lt (Nat.lt_succ_self _))
theorem ne_s3 {n : Nat} : n ≠ n + 1 + 1 + 1 := Nat.ne_of_lt (Nat.lt_succ_of_lt (Nat.lt_succ_of_lt (Nat.lt_succ_self _)))
theorem ne_s4 {n : Nat} : n ≠ n + 1 + 1 + 1 + 1 := Nat.ne_of_lt (Nat.lt_succ_of_lt (Nat.lt_succ_of_lt (Nat.lt_succ_of_lt (Nat.lt_succ_self _))))
theorem lt_via {X Y a : Addr} {l : List (Addr × Obj)} (h : AllLt Y l) (m : a ∈ l.map (·.1)) (q : @LT.lt Nat _ Y X) : @LT.lt Nat _ a X := Nat.lt_trans (lt_hi h m) q
theorem ne_via {X Y a : Addr} {l : List (Addr × Obj)} (h : AllLt Y l) (m : a ∈ l.map (·.1)) (q : @LT.lt Nat _ Y X) : a ≠ X := Nat.ne_of_lt (lt_via h m q)
theorem ne_via' {X Y a : Addr} {l : List (Addr × Obj)} (h : AllLt Y l) (m : a ∈ l.map (·.1)) (q : @LT.lt Nat _ Y X) : X ≠ a := (ne_via h m q).symm
theorem lt_room {x N : Nat} (k : Nat) (h : x + k < N) : x < N := Nat.lt_of_le_of_lt (Nat.le_add_right _ _) h
theorem allLt_tail {X : Addr} {l r : List (Addr × Obj)} (h : AllLt X l) (n : Nat) (e : l.drop n = r) : AllLt X r := by
  subst e
  induction n generalizing l with
  | zero => exact h
  | succ n ih => cases l with
    | nil => exact trivial
    | cons p l => exact ih h.2

/-- the values of a dict of ints -/
inductive IV : List (Int × Value) → List (Int × Int) → Prop
  | nil : IV [] []
  | cons (k i : Int) (t : Tok) {kvs c} : IV kvs c → IV ((k, .int i t) :: kvs) ((k, i) :: c)
theorem IV.keys : ∀ {kvs : List (Int × Value)} {c : List (Int × Int)}, IV kvs c → kvs.map (·.1) = c.map (·.1)
  | _, _, .nil => rfl
  | _, _, .cons k i t h => by rw [List.map_cons, List.map_cons, h.keys]
theorem IV.length : ∀ {kvs : List (Int × Value)} {c : List (Int × Int)}, IV kvs c → kvs.length = c.length
  | _, _, .nil => rfl
  | _, _, .cons k i t h => by rw [List.length_cons, List.length_cons, h.length]
theorem IV.get {kvs : List (Int × Value)} {c : List (Int × Int)} (h : IV kvs c) : ∀ {j : Nat} {k : Int} {v : Value}, kvs[j]? = some (k, v) → ∃ i t, v = .int i t ∧ c[j]? = some (k, i) := by
  induction h with
  | nil => intro j k v e; simp at e
  | cons k i t h ih =>
    intro j k' v e
    cases j with
    | zero => simp at e; obtain ⟨rfl, rfl⟩ := e; exact ⟨i, t, rfl, rfl⟩
    | succ j => simpa using ih (by simpa using e)
/-- what a dict of ints holds at a key -/
noncomputable def at? (c : List (Int × Int)) (k : Int) : Option Int := (c.find? fun p => p.1 = k).map (·.2)
theorem IV.valueAt {kvs : List (Int × Value)} {c : List (Int × Int)} (h : IV kvs c) (k : Int) : (∃ i t, valueAt kvs k = some (.int i t) ∧ at? c k = some i) ∨ (valueAt kvs k = none ∧ at? c k = none) := by
  induction h with
  | nil => exact .inr ⟨rfl, rfl⟩
  | cons k' i t h ih =>
    by_cases e : k' = k
    · exact .inl ⟨i, t, by simp [PySem.valueAt, e], by simp [at?, e]⟩
    · rcases ih with ⟨i, t, a, b⟩ | ⟨a, b⟩
      · exact .inl ⟨i, t, by simpa [PySem.valueAt, e] using a, by simpa [at?, e] using b⟩
      · exact .inr ⟨by simpa [PySem.valueAt, e] using a, by simpa [at?, e] using b⟩
theorem valueAt_of_get {K : Type} [DecidableEq K] {kvs : List (K × Value)} (hn : (kvs.map (·.1)).Nodup) : ∀ {j : Nat} {k : K} {v : Value}, kvs[j]? = some (k, v) → valueAt kvs k = some v := by
  induction kvs with
  | nil => intro j k v e; simp at e
  | cons p kvs ih =>
    intro j k v e
    rw [List.map_cons, List.nodup_cons] at hn
    cases j with
    | zero => simp at e; subst e; simp [valueAt]
    | succ j =>
      have e' : kvs[j]? = some (k, v) := by simpa using e
      have hmem : k ∈ kvs.map (·.1) := List.mem_map.mpr ⟨(k, v), List.mem_of_getElem? e', rfl⟩
      have hne : ¬ p.1 = k := fun q => hn.1 (q ▸ hmem)
      have := ih hn.2 e'
      simpa [valueAt, hne] using this
theorem IsDictOf_nodup {prog : Program} {w : World} {K : Type} [DecidableEq K] {knd : KeyKind prog w K} {o : Obj} {kvs : List (K × Value)} (h : o.IsDictOf knd kvs) : (kvs.map (·.1)).Nodup := by
  obtain ⟨_, _, _, _, _, _, h⟩ := h; exact h

section
variable {prog : Program} {w : World} {A : Around} {E : Value → Shared → Prop} {s : Shared} {h₀ : Heap} {L : Addr} {m : Str → Option Value} {news : List (Addr × Obj)}
/-- an item of a dict of the ledger -/
theorem d_item {value slice : PySem.Expr} {d : Addr} {o : Obj} {kvs : List (Int × Value)} {k : Int} {t : Tok} {v : Value} {Q : Value → Shared → Prop} (N : News h₀ L s.heap news) (hp : (d, o) ∈ news) (hd : o.IsDictOf (intKind prog w) kvs) (hl : valueAt kvs k = some v) (h : ∀ tk, Q v { s with toks := tk })
    (hs : subscripted slice false (.ref d) (.int k t) = operate [.ref d, .int k t] (getItem (.ref d) (.int k t)) := by with_unfolding_all rfl) (hg : ∀ r, letTemporaryGo value (.ref d) r = pure () := by intro _; with_unfolding_all rfl) :
    wpAny (model prog w) A (subscriptTail value slice (.ref d) (.int k t)) Q E s := kda_item N hp hd (intKind_is _ _ _ _) hl (h _) hs hg
theorem d_getItem {d : Addr} {o : Obj} {kvs : List (Int × Value)} {k : Int} {t : Tok} {v : Value} {Q : Value → Shared → Prop} (N : News h₀ L s.heap news) (hp : (d, o) ∈ news) (hd : o.IsDictOf (intKind prog w) kvs) (hl : valueAt kvs k = some v) (h : ∀ tk, Q v { s with toks := tk }) :
    wpAny (model prog w) A (getItem (.ref d) (.int k t)) Q E s := wpAny_getItem_of (intKind_is _ _ _ _) (kda_dict N hp hd).mapOf hl (h _)
end

theorem ints_snoc {vs : List Value} {ns : List Int} (h : IntsAre vs ns) (n : Int) (t : Tok) : IntsAre (vs ++ [.int n t]) (ns ++ [n]) := IntsAre.append h (.cons n t .nil)
theorem map_take_succ {α β : Type} (f : α → β) {l : List α} {i : Nat} {a : α} (h : l[i]? = some a) : (l.take (i + 1)).map f = (l.take i).map f ++ [f a] := by
  rw [List.take_add_one, h]; simp

theorem jm_start {m : Str → Option Value} {x : Str} : ∃ u, m = fun y => if y = x then u else m y := ⟨m x, funext fun y => by by_cases h : y = x <;> simp [h]⟩
theorem jm_next {m : Str → Option Value} {x : Str} {a u : Option Value} : ∃ u', (fun y => if y = x then a else if y = x then u else m y) = fun y => if y = x then u' else m y :=
  ⟨a, funext fun y => by by_cases h : y = x <;> simp [h]⟩
theorem news_sub {h₀ h : Heap} {L : Addr} {l l' : List (Addr × Obj)} (N : News h₀ L h l) (hs : ∀ p ∈ l', p ∈ l) : News h₀ L h l' := fun p hp => N p (hs p hp)
theorem news_drop1 {h₀ h : Heap} {L : Addr} {a : Addr × Obj} {l : List (Addr × Obj)} (N : News h₀ L h (a :: l)) : News h₀ L h l := fun p hp => N p (.tail _ hp)
theorem news_drop2 {h₀ h : Heap} {L : Addr} {a b : Addr × Obj} {l : List (Addr × Obj)} (N : News h₀ L h (a :: b :: l)) : News h₀ L h (a :: l) := fun p hp => by
  rcases List.mem_cons.mp hp with rfl | hp
  · exact N _ (.head _)
  · exact N _ (.tail _ (.tail _ hp))

theorem ints_at {vs : List Value} {ns : List Int} (h : IntsAre vs ns) : ∀ {i : Nat} {v : Value}, vs[i]? = some v → ∃ n t, v = .int n t ∧ ns[i]? = some n := by
  induction h with
  | nil => intro i v e; simp at e
  | cons n t _ ih =>
    intro i v e
    cases i with
    | zero => simp at e; exact ⟨n, t, e.symm, rfl⟩
    | succ i => simpa using ih (by simpa using e)
/-- the same told by shapes: one case, no equation -/
inductive IAt (ns : List Int) (i : Nat) : Value → Prop
  | mk (n : Int) (t : Tok) (h : ns[i]? = some n) : IAt ns i (.int n t)
theorem iat {vs : List Value} {ns : List Int} {i : Nat} {v : Value} (h : IntsAre vs ns) (e : vs[i]? = some v) : IAt ns i v := by
  obtain ⟨n, t, rfl, hn⟩ := ints_at h e; exact ⟨n, t, hn⟩
inductive DAt (kvs : List (Int × Value)) (i : Nat) : Value → Prop
  | mk (k : Int) (x : Value) (t : Tok) (h : kvs[i]? = some (k, x)) : DAt kvs i (.int k t)
theorem dat {prog : Program} {w : World} {kvs : List (Int × Value)} {i : Nat} {v : Value} (h : ∃ k x, kvs[i]? = some (k, x) ∧ (intKind prog w).is k v = true) : DAt kvs i v := by
  obtain ⟨k, x, hk, hu⟩ := h
  obtain ⟨t, rfl⟩ := Value.isInt_shape hu
  exact ⟨k, x, t, hk⟩
inductive IVAt (c : List (Int × Int)) (j : Nat) (k : Int) : Value → Prop
  | mk (i : Int) (t : Tok) (h : c[j]? = some (k, i)) : IVAt c j k (.int i t)
theorem IV.at {kvs : List (Int × Value)} {c : List (Int × Int)} (h : IV kvs c) {j : Nat} {k : Int} {v : Value} (e : kvs[j]? = some (k, v)) : IVAt c j k v := by
  obtain ⟨i, t, rfl, hc⟩ := h.get e; exact ⟨i, t, hc⟩
inductive JIV (R : Nat → List (Int × Int) → Prop) (i : Nat) (ys : List (Int × Value)) : Prop
  | mk (cq : List (Int × Int)) (hq : IV ys cq) (hl : ys.length ≤ i) (hR : R i cq) : JIV R i ys
section
variable {prog : Program} {w : World} {A : Around} {E : Value → Shared → Prop} {s : Shared} {h₀ : Heap} {L : Addr} {m : Str → Option Value} {news : List (Addr × Obj)}
/-- the last of a list of ints of the ledger -/
theorem l_last {value slice : PySem.Expr} {l : Addr} {vs : List Value} {es : List Int} {c : Nat} {u : Tok} {Q : Value → Shared → Prop} (N : News h₀ L s.heap news) (hm : (l, listOf vs.toArray c) ∈ news) (hi : IntsAre vs es) (hpos : 0 < es.length) (h : ∀ t, Q (.int (es.getD (es.length - 1) 0) t) s)
    (hs : subscripted slice false (.ref l) (.int (-1) u) = operate [.ref l, .int (-1) u] (getItem (.ref l) (.int (-1) u)) := by with_unfolding_all rfl) (hg : ∀ r, letTemporaryGo value (.ref l) r = pure () := by intro _; with_unfolding_all rfl) :
    wpAny (model prog w) A (subscriptTail value slice (.ref l) (.int (-1) u)) Q E s :=
  item_list_ints_neg ⟨_, N.get hm, rfl, c, rfl⟩ hi (by omega) (by omega) (by omega) (fun t => by
    have e : ((-1 : Int) + (es.length : Int)).toNat = es.length - 1 := by omega
    rw [e]; exact h t) hs hg
/-- an item of a list of ints of the ledger -/
theorem l_item {value slice : PySem.Expr} {l : Addr} {vs : List Value} {es : List Int} {c : Nat} {k : Int} {u : Tok} {x : Int} {Q : Value → Shared → Prop} (N : News h₀ L s.heap news) (hm : (l, listOf vs.toArray c) ∈ news) (hi : IntsAre vs es) (h0 : 0 ≤ k) (hk : es[k.toNat]? = some x) (hfit : k < 2 ^ 63) (h : ∀ t, Q (.int x t) s)
    (hs : subscripted slice false (.ref l) (.int k u) = operate [.ref l, .int k u] (getItem (.ref l) (.int k u)) := by with_unfolding_all rfl) :
    wpAny (model prog w) A (subscriptTail value slice (.ref l) (.int k u)) Q E s := by
  obtain ⟨t, hx⟩ := hi.get k.toNat x hk
  exact tail_any (⟨_, N.get hm, rfl⟩ : s.TypeIs (.ref l) "list") slot_list_getitem.lookup (wpAny_getItem_list ⟨_, N.get hm, rfl, c, rfl⟩ h0 hfit (by simpa using hx) (h t)) hs
end

theorem ne_upd1 {b I : Addr} {o o' : Obj} {r : List (Addr × Obj)} (h : ∀ p ∈ (b, o) :: r, p.1 ≠ I) : ∀ p ∈ (b, o') :: r, p.1 ≠ I := fun p hp => by
  rcases List.mem_cons.mp hp with rfl | hp
  · exact h (b, o) (.head _)
  · exact h p (.tail _ hp)
theorem ne_upd2 {a : Addr × Obj} {b I : Addr} {o o' : Obj} {r : List (Addr × Obj)} (h : ∀ p ∈ a :: (b, o) :: r, p.1 ≠ I) : ∀ p ∈ a :: (b, o') :: r, p.1 ≠ I := fun p hp => by
  rcases List.mem_cons.mp hp with rfl | hp
  · exact h _ (.head _)
  · exact ne_upd1 (fun q hq => h q (.tail _ hq)) p hp
theorem neNat {a b : Addr} (h : a ≠ b) : @Ne Nat a b := h
theorem allLt_ne1 {d : Addr} {l : List (Addr × Obj)} (h : AllLt d l) : ∀ p ∈ l, p.1 ≠ d + 1 := fun p hp => Nat.ne_of_lt (Nat.lt_succ_of_lt (allLt_all h p hp))
theorem allLt_ne2 {d : Addr} {l : List (Addr × Obj)} (h : AllLt d l) : ∀ p ∈ l, p.1 ≠ d + 1 + 1 := fun p hp => Nat.ne_of_lt (Nat.lt_succ_of_lt (Nat.lt_succ_of_lt (allLt_all h p hp)))
theorem rsize (n : Nat) : Builtin.Range.rangeSize 0 (n : Int) 1 = (n : Int) := by
  unfold Builtin.Range.rangeSize
  rw [if_pos (by decide)]
  split <;> omega
theorem rsmall' {a b : Int} (ha : -(2 ^ 62) ≤ a) (ha' : a < 2 ^ 62) (hb : -(2 ^ 62) ≤ b) (hb' : b < 2 ^ 62) : Builtin.Range.small a b 1 = true := by
  have e : Builtin.Range.rangeSize a b 1 = if a < b then b - a else 0 := by
    unfold Builtin.Range.rangeSize
    rw [if_pos (by decide)]
    split <;> omega
  unfold Builtin.Range.small
  rw [e]
  simp only [Builtin.Range.rangeFitsLong, Bool.and_eq_true, Bool.or_eq_true, decide_eq_true_eq, beq_iff_eq, show ((1 : Int) > 0) by decide, if_true]
  split <;> omega
theorem rsmall {n : Nat} (h : n ≤ 100000) : Builtin.Range.small 0 (n : Int) 1 = true := rsmall' (by decide) (by decide) (by omega) (by omega)


section
variable {prog : Program} {w : World} {A : Around} {E : Value → Shared → Prop} {s : Shared}
theorem my_mod {a b : Int} {t u : Tok} {Q : Value → Shared → Prop} (hb : 0 < b) (h : ∀ r tk tk', 0 ≤ r → r < b → Q (.int r tk) { s with toks := tk' }) :
    wpAny (model prog w) A (binaryOp .Mod (.int a t) (.int b u)) Q E s :=
  mod_int' (by omega) (h _ _ _ (fmod_lo a hb) (fmod_hi a hb))
theorem my_div {a b : Int} {t u : Tok} {Q : Value → Shared → Prop} (ha : 0 ≤ a) (hb : 0 < b) (hb' : b < 100000) (h : ∀ r tk tk', 0 ≤ r → r ≤ a → Q (.int r tk) { s with toks := tk' }) :
    wpAny (model prog w) A (binaryOp .FloorDiv (.int a t) (.int b u)) Q E s :=
  floordiv_int (by omega) (h _ _ _ (by rw [Int.fdiv_eq_ediv_of_nonneg _ (by omega)]; exact Int.ediv_nonneg ha (by omega)) (by rw [Int.fdiv_eq_ediv_of_nonneg _ (by omega)]; exact Int.ediv_le_self _ ha)) (Or.inl (PyProof.noPylong_small (by omega)))
theorem my_mul {a b : Int} {t u : Tok} {Q : Value → Shared → Prop} (ha : 0 ≤ a) (ha' : a < 2147483648) (hb : 0 ≤ b) (hb' : b < 8192) (h : ∀ r tk tk', 0 ≤ r → r < 17592186044416 → r = a * b → Q (.int r tk) { s with toks := tk' }) :
    wpAny (model prog w) A (binaryOp .Mult (.int a t) (.int b u)) Q E s :=
  mul_int (h _ _ _ (Int.mul_nonneg ha hb) (by
    have h1 : a * b ≤ 2147483647 * b := Int.mul_le_mul_of_nonneg_right (by omega) hb
    omega) rfl) (IntMulOk.of_left (PySem.intBits_le_64 (by omega) (by omega)))
theorem my_pow {a : Int} {t u : Tok} {Q : Value → Shared → Prop} (ha : 0 ≤ a) (ha' : a < 18446744073709551616) (h : ∀ r tk tk', Q (.int r tk) { s with toks := tk' }) :
    wpAny (model prog w) A (binaryOp .Pow (.int a t) (.int 3 u)) Q E s :=
  pow_int_small (by omega) (by omega) (by omega) (h _ _ _)
theorem my_item {value slice : PySem.Expr} {l : Addr} {vs : List Value} {ns : List Int} {k : Int} {u : Tok} {Q : Value → Shared → Prop} (hl : s.heap.IsList l vs.toArray) (hi : IntsAre vs ns)
    (h0 : 0 ≤ k) (h1 : k < ns.length) (hfit : k < 2 ^ 63) (h : ∀ x t, Q (.int x t) s)
    (hs : subscripted slice false (.ref l) (.int k u) = operate [.ref l, .int k u] (getItem (.ref l) (.int k u)) := by with_unfolding_all rfl) :
    wpAny (model prog w) A (subscriptTail value slice (.ref l) (.int k u)) Q E s := item_anyK hl hi h0 h1 hfit (h _) hs
end

section Draw
local macro_rules | `(tactic| k_all) => `(tactic| with_reducible assumption)
local macro_rules | `(tactic| walk_at "binaryOp Mod int int") => `(tactic| (with_reducible refine my_mod ?k1 ?_; (case k1 => omega); intro _ _ _ _ _))
local macro_rules | `(tactic| walk_at "binaryOp FloorDiv int int") => `(tactic| (with_reducible refine my_div ?k1 ?k2 ?k3 ?_; (case k1 => omega); (case k2 => omega); (case k3 => omega); intro _ _ _ _ _))
local macro_rules | `(tactic| walk_at "binaryOp Mult int int") => `(tactic| (with_reducible refine my_mul ?k1 ?k2 ?k3 ?k4 ?_; (case k1 => omega); (case k2 => omega); (case k3 => omega); (case k4 => omega); intro _ _ _ _ _ _))
local macro_rules | `(tactic| walk_at "binaryOp Pow int int") => `(tactic| (with_reducible refine my_pow ?k1 ?k2 ?_; (case k1 => omega); (case k2 => omega); intro _ _ _))
local macro_rules | `(tactic| walk_at "subscriptTail") => `(tactic| (k_here; (with_reducible show wpAny _ _ (subscriptTail _ (Expr.BinOp _ _ _ _) (Value.ref _) (Value.int _ _)) _ _ _); (with_unfolding_all refine' my_item ?k1 ?k2 ?k3 ?k4 ?k5 ?_ ?k6; (case k1 => is_list); (case k2 => l_ints); (case k3 => omega); (case k4 => omega); (case k5 => omega); (case k6 => with_unfolding_all rfl); k_whole); intro _ _))

set_option maxRecDepth 100000 in
set_option maxHeartbeats 0 in
theorem draw_c (w : World) : PySem.Challenge.rw_nu0148_01 = PySem.Challenge.rw_nu0148_01 →
  ∀ (loose : List Str) (mean : ExcName → Option Value) (mg mb : Str → Option Value)
  (dp un : Nat) (gd : Option (List Code)) (cn : Str) (cs : Scope) (a : Addr) (ccd : Value) (cl : List (Str × Addr)) (outer : List Env) (A₀ : Around) (base h₀ : Heap) (L : Addr) (m : Str → Option Value) (s : Shared) (Q E : Value → Shared → Prop)
  (P C : Addr) (n n' : Nat) (vs : List Value) (ns : List Int) (seat carry many : Int) (t1 t2 t3 : Tok) (rest : List (Addr × Obj)),
  Below A₀ base outer h₀ → Fr h₀ L s.heap m → (hd.heap_39 w.params).In h₀ →
  News h₀ L s.heap ((P, listOf [Value.ref C, .int seat t1, .int carry t2].toArray n) :: (C, listOf vs.toArray n') :: rest) →
  Top hd.view_39 loose mean mg mb h₀ → cs.kind = .function → dp + 2 < recursionLimit → un + 16 < cLine →
  IntsAre vs ns → ns.length ≤ 40 → C ≠ P → (∀ q ∈ rest, q.1 ≠ P) → 0 ≤ seat → seat ≤ 1000 → 0 ≤ carry → 1 ≤ many → many ≤ 1000 →
  (∀ r seat' carry' t t1' t2' h' tk', Fr h₀ L h' m → News h₀ L h' ((P, listOf [Value.ref C, .int seat' t1', .int carry' t2'].toArray n) :: (C, listOf vs.toArray n') :: rest) →
    0 ≤ r → r < many → seat ≤ seat' → seat' ≤ seat + 1 → 0 ≤ carry' → Q (.int r t) { s with heap := h', toks := tk' }) →
  wpAny (model PROG w) (ktrTop dp un gd cn cs L a ccd cl outer) (call (.ref 101) [.ref P, .int many t3]) Q E s := by
  w_top off
  k_fill
  intro _ loose mean mg mb dp un gd cn cs a ccd cl outer A₀ base h₀ L m s Q E P C n n' vs ns seat carry many t1 t2 t3 rest B F X N T hk hdp hun hI hlen hCP hrest hs0 hs1 hc0 hm0 hm1 hret
  refine wpAny_call ?_
  k_dflt ktr_enter
  k_steps
  all_goals (refine hret _ _ _ _ _ _ _ _ (by k_asm) (by k_asm) ?_ ?_ ?_ ?_ ?_ <;> omega)
end Draw

/-- one turn of the packing -/
noncomputable def packStep (es : List Int) (k : Int) : List Int := if k = es.getD (es.length - 1) 0 then es else es ++ [k]
theorem pack_len (ns : List Int) : ∀ i, 0 < ((ns.take i).foldl packStep [0]).length ∧ ((ns.take i).foldl packStep [0]).length ≤ i + 1 := by
  intro i
  induction i with
  | zero => simp
  | succ i ih =>
    rw [List.take_add_one, List.foldl_append]
    cases ns[i]? with
    | none => simpa using ⟨ih.1, by omega⟩
    | some k =>
      simp only [Option.toList, List.foldl_cons, List.foldl_nil, packStep]
      split
      · exact ⟨ih.1, by omega⟩
      · rw [List.length_append, List.length_singleton]; omega
theorem packStep_take {ns : List Int} {i : Nat} {k : Int} (h : ns[i]? = some k) : (ns.take (i + 1)).foldl packStep [0] = packStep ((ns.take i).foldl packStep [0]) k := by
  rw [List.take_add_one, h, List.foldl_append]; rfl
noncomputable def putI (c : List (Int × Int)) (k v : Int) : List (Int × Int) := if c.any (fun p => p.1 = k) then c.map (fun p => if p.1 = k then (p.1, v) else p) else c ++ [(k, v)]
theorem IV.any {kvs : List (Int × Value)} {c : List (Int × Int)} (h : IV kvs c) (k : Int) : kvs.any (fun kv => kv.1 = k) = c.any (fun p => p.1 = k) := by
  induction h with
  | nil => rfl
  | cons k' i t _ ih => simp only [List.any_cons, ih]
theorem IV.append {a b : List (Int × Value)} {c d : List (Int × Int)} (h : IV a c) (h' : IV b d) : IV (a ++ b) (c ++ d) := by
  induction h with
  | nil => exact h'
  | cons k' i t _ ih => exact .cons k' i t ih
theorem IV.stored {kvs : List (Int × Value)} {c : List (Int × Int)} (h : IV kvs c) (k v : Int) (t : Tok) : IV (stored kvs k (.int v t)) (putI c k v) := by
  unfold PySem.stored putI
  rw [h.any]
  split
  · rename_i hh
    clear hh
    induction h with
    | nil => exact .nil
    | cons k' i t' _ ih =>
      simp only [List.map_cons]
      by_cases e : k' = k
      · simp only [e, if_true]; exact .cons _ _ _ ih
      · simp only [e, if_false]; exact .cons _ _ _ ih
  · exact h.append (.cons k v t .nil)
theorem at?_nil (k : Int) : at? [] k = none := rfl
theorem at?_cons (p : Int × Int) (c : List (Int × Int)) (k : Int) : at? (p :: c) k = if p.1 = k then some p.2 else at? c k := by
  by_cases e : p.1 = k <;> simp [at?, e]
theorem at?_map (c : List (Int × Int)) (k v k' : Int) : at? (c.map fun p => if p.1 = k then (p.1, v) else p) k' = if k' = k then (if c.any (fun p => p.1 = k) then some v else none) else at? c k' := by
  induction c with
  | nil => by_cases e : k' = k <;> simp [e, at?_nil]
  | cons q c ih =>
    rw [List.map_cons, at?_cons, at?_cons, ih]
    by_cases e1 : q.1 = k
    · by_cases e2 : k' = k
      · simp [e1, e2]
      · have e3 : ¬ k = k' := fun q => e2 q.symm
        simp [e1, e2, e3]
    · by_cases e2 : k' = k
      · have e4 : ¬ q.1 = k' := by rw [e2]; exact e1
        simp only [e1, e4, e2, if_false, if_true, List.any_cons, decide_false, Bool.false_or]
      · simp [e1, e2]
theorem at?_append (c d : List (Int × Int)) (k : Int) : at? (c ++ d) k = (at? c k).or (at? d k) := by
  induction c with
  | nil => rfl
  | cons q c ih =>
    rw [List.cons_append, at?_cons, at?_cons, ih]
    split <;> rfl
theorem at?_any {c : List (Int × Int)} {k : Int} (h : ¬ c.any (fun p => p.1 = k) = true) : at? c k = none := by
  induction c with
  | nil => rfl
  | cons q c ih =>
    simp only [List.any_cons, Bool.or_eq_true, not_or, decide_eq_true_eq] at h
    rw [at?_cons, if_neg h.1]; exact ih h.2
theorem at?_putI (c : List (Int × Int)) (k v k' : Int) : at? (putI c k v) k' = if k' = k then some v else at? c k' := by
  unfold putI
  split
  case isTrue h => rw [at?_map, if_pos h]
  case isFalse h =>
    rw [at?_append, at?_cons, at?_nil]
    by_cases e : k' = k
    · subst e; rw [at?_any h]; simp
    · have e3 : ¬ k = k' := fun q => e q.symm
      simp [e, e3]
theorem putI_new {c : List (Int × Int)} {k : Int} (h : at? c k = none) (v : Int) : putI c k v = c ++ [(k, v)] := by
  unfold putI
  rw [if_neg]
  intro hh
  obtain ⟨p, hp, e⟩ := List.any_eq_true.mp hh
  simp only [at?, Option.map_eq_none_iff] at h
  exact absurd e (List.find?_eq_none.mp h p hp)
theorem at?_mem {c : List (Int × Int)} {k v : Int} (h : at? c k = some v) : (k, v) ∈ c := by
  obtain ⟨p, hp, rfl⟩ := Option.map_eq_some_iff.mp h
  have := List.find?_some hp
  have e : p.1 = k := by simpa using this
  rw [← e]; exact List.mem_of_find?_eq_some hp
theorem at?_of_mem {c : List (Int × Int)} (hn : (c.map (·.1)).Nodup) {k v : Int} (h : (k, v) ∈ c) : at? c k = some v := by
  induction c with
  | nil => simp at h
  | cons p c ih =>
    rw [List.map_cons, List.nodup_cons] at hn
    rcases List.mem_cons.mp h with rfl | h
    · simp [at?]
    · have : ¬ p.1 = k := fun e => hn.1 (e ▸ List.mem_map.mpr ⟨_, h, rfl⟩)
      have := ih hn.2 h
      simpa [at?, *] using this
theorem at?_none {c : List (Int × Int)} {k : Int} : at? c k = none ↔ k ∉ c.map (·.1) := by
  induction c with
  | nil => simp [at?_nil]
  | cons p c ih =>
    rw [at?_cons, List.map_cons, List.mem_cons, not_or]
    by_cases e : p.1 = k
    · simp [e]
    · rw [if_neg e, ih]
      exact ⟨fun h => ⟨fun q => e q.symm, h⟩, fun h => h.2⟩
theorem at?_keys {c : List (Int × Int)} {k : Int} : k ∈ c.map (·.1) ↔ ∃ v, at? c k = some v := by
  constructor
  · intro h
    cases e : at? c k with
    | none => exact absurd h (at?_none.mp e)
    | some v => exact ⟨v, rfl⟩
  · rintro ⟨v, e⟩
    exact List.mem_map.mpr ⟨_, at?_mem e, rfl⟩
theorem IV.valueAt_some {kvs : List (Int × Value)} {c : List (Int × Int)} (h : IV kvs c) {k i : Int} (e : at? c k = some i) : ∃ t, PySem.valueAt kvs k = some (.int i t) := by
  rcases h.valueAt k with ⟨j, t, a, b⟩ | ⟨a, b⟩
  · rw [e] at b; cases b; exact ⟨t, a⟩
  · rw [e] at b; cases b
inductive DIVAt (kvs : List (Int × Value)) (c : List (Int × Int)) (i : Nat) : Value → Prop
  | mk (k x : Int) (t t' : Tok) (h : kvs[i]? = some (k, .int x t')) (hc : c[i]? = some (k, x)) : DIVAt kvs c i (.int k t)
theorem divat {prog : Program} {w : World} {kvs : List (Int × Value)} {c : List (Int × Int)} {i : Nat} {v : Value} (h : ∃ k x, kvs[i]? = some (k, x) ∧ (intKind prog w).is k v = true) (hV : IV kvs c) : DIVAt kvs c i v := by
  obtain ⟨k, y, t, hk⟩ := dat h
  obtain ⟨x, t', hc⟩ := hV.at hk
  exact ⟨k, x, t, t', hk, hc⟩
inductive KIAt (kvs : List (Int × Value)) (c : List (Int × Int)) (ns : List Int) (i : Nat) : Value → Prop
  | mk (k : Int) (t : Tok) (x : Int) (t' : Tok) (hk : ns[i]? = some k) (hx : at? c k = some x) (hval : valueAt kvs k = some (.int x t')) : KIAt kvs c ns i (.int k t)
theorem kiat {vs : List Value} {kvs : List (Int × Value)} {c : List (Int × Int)} {ns : List Int} {i : Nat} {v : Value} (hI : IntsAre vs ns) (e : vs[i]? = some v) (hV : IV kvs c) (hp : ns.Perm (kvs.map (·.1))) : KIAt kvs c ns i v := by
  obtain ⟨k, t, hk⟩ := iat hI e
  obtain ⟨x, hx⟩ := at?_keys.mp (show k ∈ c.map (·.1) by rw [← hV.keys]; exact hp.mem_iff.mp (List.mem_of_getElem? hk))
  obtain ⟨t', hval⟩ := hV.valueAt_some hx
  exact ⟨k, t, x, t', hk, hx, hval⟩
theorem IV.valueAt_getD {kvs : List (Int × Value)} {c : List (Int × Int)} (h : IV kvs c) (k d : Int) (td : Tok) : ∃ t, (PySem.valueAt kvs k).getD (.int d td) = .int ((at? c k).getD d) t := by
  rcases h.valueAt k with ⟨j, t, a, b⟩ | ⟨a, b⟩
  · rw [a, b]; exact ⟨t, rfl⟩
  · rw [a, b]; exact ⟨td, rfl⟩
theorem IV.isSome {kvs : List (Int × Value)} {c : List (Int × Int)} (h : IV kvs c) (k : Int) : (PySem.valueAt kvs k).isSome = (at? c k).isSome := by
  rcases h.valueAt k with ⟨j, t, a, b⟩ | ⟨a, b⟩ <;> rw [a, b] <;> rfl
theorem IV.nodup {kvs : List (Int × Value)} {c : List (Int × Int)} (h : IV kvs c) (hn : (kvs.map (·.1)).Nodup) : (c.map (·.1)).Nodup := h.keys ▸ hn

/-- sorted lists -/
theorem sorted_unique {a b : List Int} (hp : a.Perm b) (ha : a.Pairwise (· ≤ ·)) (hb : b.Pairwise (· ≤ ·)) : a = b := ksm_same hp ha hb
theorem perm_of_mem {a b : List Int} (ha : a.Nodup) (hb : b.Nodup) (h : ∀ x, x ∈ a ↔ x ∈ b) : a.Perm b := (List.perm_ext_iff_of_nodup ha hb).mpr h

/-- the packing -/
theorem getLast_getD {es : List Int} (h : 0 < es.length) : es.getD (es.length - 1) 0 ∈ es := by
  have : es.length - 1 < es.length := by omega
  rw [List.getD_eq_getElem?_getD, List.getElem?_eq_getElem this, Option.getD_some]; exact List.getElem_mem this
theorem pack_spec : ∀ (ns es : List Int), ns.Pairwise (· ≤ ·) → es.Pairwise (· < ·) → 0 < es.length → (∀ x ∈ es, x ≤ es.getD (es.length - 1) 0) → (∀ x ∈ ns, es.getD (es.length - 1) 0 ≤ x) →
    (ns.foldl packStep es).Pairwise (· < ·) ∧ ∀ x, x ∈ ns.foldl packStep es ↔ x ∈ es ∨ x ∈ ns := by
  intro ns
  induction ns with
  | nil => intro es _ h _ _ _; exact ⟨h, fun x => by simp⟩
  | cons n ns ih =>
    intro es hn he hl hm hb
    rw [List.pairwise_cons] at hn
    rw [List.foldl_cons]
    unfold packStep
    split
    case isTrue e =>
      obtain ⟨a, b⟩ := ih es hn.2 he hl hm (fun x hx => hb x (.tail _ hx))
      refine ⟨a, fun x => (b x).trans ?_⟩
      constructor
      · rintro (h | h)
        · exact .inl h
        · exact .inr (.tail _ h)
      · rintro (h | h)
        · exact .inl h
        · rcases List.mem_cons.mp h with rfl | h
          · exact .inl (by rw [e]; exact getLast_getD hl)
          · exact .inr h
    case isFalse e =>
      have e0 := hb n (.head _)
      have hlast : (es ++ [n]).getD ((es ++ [n]).length - 1) 0 = n := by simp
      obtain ⟨a, b⟩ := ih (es ++ [n]) hn.2 (by
        rw [List.pairwise_append]
        refine ⟨he, List.pairwise_singleton _ _, fun x hx y hy => ?_⟩
        rw [List.mem_singleton.mp hy]
        have := hm x hx
        omega) (by simp) (by
        intro x hx
        rw [hlast]
        rcases List.mem_append.mp hx with h | h
        · have := hm x h; omega
        · rw [List.mem_singleton.mp h]; exact Int.le_refl _) (by
        intro x hx
        rw [hlast]; exact hn.1 x hx)
      refine ⟨a, fun x => (b x).trans ?_⟩
      rw [List.mem_append, List.mem_singleton, List.mem_cons, or_assoc]
/-- what packing gives -/
noncomputable def Packed (c : List (Int × Int)) (es : List Int) (c' : List (Int × Int)) : Prop :=
  es.Pairwise (· < ·) ∧ (∀ x, x ∈ es ↔ x = 0 ∨ ∃ k, at? c k = some x) ∧ es[0]? = some 0 ∧ ∀ k, (at? c k = none ∧ at? c' k = none) ∨ ∃ x j, at? c k = some x ∧ at? c' k = some j ∧ 0 < j ∧ es[j.toNat]? = some x
theorem places_step {es : List Int} (hs : es.Pairwise (· < ·)) {p : List (Int × Int)} {i : Nat} {x : Int} (hx : es[i]? = some x) (hp : ∀ j y, j < i → es[j]? = some y → at? p y = some (j : Int)) :
    ∀ j y, j < i + 1 → es[j]? = some y → at? (putI p x i) y = some (j : Int) := by
  intro j y hj hy
  rw [at?_putI]
  by_cases e : j = i
  · subst e; rw [hx] at hy; cases hy; rw [if_pos rfl]
  · have hj' : j < i := by omega
    have hlt : y < x := by
      obtain ⟨h1, rfl⟩ := List.getElem?_eq_some_iff.mp hy
      obtain ⟨h2, rfl⟩ := List.getElem?_eq_some_iff.mp hx
      exact List.pairwise_iff_getElem.mp hs j i h1 h2 hj'
    rw [if_neg (by omega)]
    exact hp j y hj' hy
theorem packed_of {c : List (Int × Int)} {ns es : List Int} (hn : (c.map (·.1)).Nodup) (hpos : ∀ p ∈ c, 0 < p.2) (hp : ns.Perm (c.map (·.2))) (ho : ns.Pairwise (· ≤ ·)) (he : ns.foldl packStep [0] = es) :
    es.Pairwise (· < ·) ∧ (∀ x, x ∈ es ↔ x = 0 ∨ ∃ k, at? c k = some x) ∧ es[0]? = some 0 := by
  have hb : ∀ x ∈ ns, 0 < x := fun x hx => by
    obtain ⟨p, hp1, rfl⟩ := List.mem_map.mp (hp.mem_iff.mp hx); exact hpos p hp1
  obtain ⟨a, b⟩ := pack_spec ns [0] ho (List.pairwise_singleton _ _) (by simp) (by simp) (by
    intro x hx; have := hb x hx; simp; omega)
  rw [he] at a b
  refine ⟨a, fun x => (b x).trans ?_, ?_⟩
  · rw [List.mem_singleton]
    constructor
    · rintro (h | h)
      · exact .inl h
      · obtain ⟨p, hp1, rfl⟩ := List.mem_map.mp (hp.mem_iff.mp h)
        exact .inr ⟨p.1, at?_of_mem hn hp1⟩
    · rintro (h | ⟨k, h⟩)
      · exact .inl h
      · exact .inr (hp.mem_iff.mpr (List.mem_map.mpr ⟨_, at?_mem h, rfl⟩))
  · have h0 : (0 : Int) ∈ es := (b 0).mpr (.inl (by simp))
    have hall : ∀ x ∈ es, 0 ≤ x := fun x hx => by
      rcases (b x).mp hx with h | h
      · rw [List.mem_singleton.mp h]; exact Int.le_refl _
      · have := hb x h; omega
    cases es with
    | nil => simp at h0
    | cons y es =>
      rcases List.mem_cons.mp h0 with e | h
      · rw [← e]; rfl
      · have h1 := (List.pairwise_cons.mp a).1 0 h
        have h2 := hall y (.head _)
        omega
theorem packed_turn {c cP cq : List (Int × Int)} {ns : List Int} {i : Nat} {k x j : Int} (hk : ns[i]? = some k) (hx : at? c k = some x) (hj : at? cP x = some j)
    (h : ∀ k, at? cq k = if k ∈ ns.take i then (at? c k).bind (at? cP) else none) : ∀ k', at? (putI cq k j) k' = if k' ∈ ns.take (i + 1) then (at? c k').bind (at? cP) else none := by
  intro k'
  rw [at?_putI, h k', List.take_add_one, hk]
  by_cases e : k' = k
  · subst e; simp [hx, hj]
  · simp [e]
theorem packed_end {c cP cq : List (Int × Int)} {ns es : List Int} (hpos0 : ∀ p ∈ c, 0 < p.2) (hp : ns.Perm (c.map (·.1))) (h1 : es.Pairwise (· < ·)) (h2 : ∀ x, x ∈ es ↔ x = 0 ∨ ∃ k, at? c k = some x) (h3 : es[0]? = some 0)
    (hP : ∀ j y, j < es.length → es[j]? = some y → at? cP y = some (j : Int)) (h : ∀ k, at? cq k = if k ∈ ns then (at? c k).bind (at? cP) else none) : Packed c es cq := by
  refine ⟨h1, h2, h3, fun k => ?_⟩
  rw [h k]
  cases hx : at? c k with
  | none => exact .inl ⟨rfl, by simp⟩
  | some x =>
    refine .inr ⟨x, ?_⟩
    obtain ⟨j, hj⟩ := List.mem_iff_getElem?.mp ((h2 x).mpr (.inr ⟨k, hx⟩))
    have hm : k ∈ ns := hp.mem_iff.mpr (at?_keys.mpr ⟨x, hx⟩)
    have hpx := hP j x (List.getElem?_eq_some_iff.mp hj).1 hj
    refine ⟨(j : Int), rfl, by simp [hm, hpx], ?_, by simpa using hj⟩
    rcases Nat.eq_zero_or_pos j with e | e
    · subst e
      rw [h3] at hj
      have := hpos0 _ (at?_mem hx)
      cases hj
      exact absurd this (by simp)
    · omega

theorem ints_keys {prog : Program} {w : World} : ∀ {kvs : List (Int × Value)} {vs : List Value}, vs.length = kvs.length → (∀ (j : Nat) (v : Value), vs[j]? = some v → ∃ k x, kvs[j]? = some (k, x) ∧ (intKind prog w).is k v = true) → IntsAre vs (kvs.map (·.1))
  | [], [], _, _ => .nil
  | [], _ :: _, h, _ => by simp at h
  | _ :: _, [], h, _ => by simp at h
  | p :: kvs, v :: vs, h, hv => by
    obtain ⟨k, x, e, hk⟩ := hv 0 v rfl
    obtain ⟨t, rfl⟩ := Value.isInt_shape hk
    have e' : p = (k, x) := by simpa using e
    subst e'
    exact .cons _ _ (ints_keys (by simpa using h) fun j v hj => by simpa using hv (j + 1) v (by simpa using hj))
section
variable {prog : Program} {w : World} {A : Around} {E : Value → Shared → Prop} {s : Shared} {h₀ : Heap} {L : Addr} {m : Str → Option Value} {news : List (Addr × Obj)}
/-- sorted(d) of a dict of the ledger by ints -/
theorem d_sorted {d : Addr} {o : Obj} {kvs : List (Int × Value)} {Q : Value → Shared → Prop} (hh : A.handled = none) (F : Fr h₀ L s.heap m) (N : News h₀ L s.heap news) (hp : (d, o) ∈ news) (hd : o.IsDictOf (intKind prog w) kvs) (lo : (d == sysModules) = false) (h64 : kvs.length < 64)
    (h : ∀ D vs ns c h' tk, Fr h₀ L h' m → News h₀ L h' ((D, listOf vs.toArray c) :: news) → (∀ q ∈ news, q.1 < D) → IntsAre vs ns → ns.length = kvs.length → ns.Perm (kvs.map (·.1)) → ns.Pairwise (· ≤ ·) → Q (.ref D) { s with heap := h', toks := tk }) :
    wpAny (model prog w) A (call (.builtin "sorted") [.ref d]) Q E s := by
  obtain ⟨ep, hat⟩ := (kda_dict N hp hd).dictAt
  refine kdu_sorted (kdl_dict (knd := intKind prog w) (kvs := kvs) (ep := ep) lo) hh F N hat (by rw [sizeLine_eq]; first | decide | omega) fun B h1 tk vs F1 N1 l1 hl hv => ?_
  have hI := ints_keys hl hv
  have hB := (N1 _ (.head _))
  refine wpAny_call_entry slot_list_sort ⟨_, hB.1, rfl⟩ entry_list_sort (list_sort_tree hB.1 hI (by omega) fun out ns' a1 a2 a3 => ⟨_, rfl, ?_⟩) (args_list_sort _)
  obtain ⟨e, he⟩ := sortedHeap_at (out := out) hB.1
  have hk : ∀ b o, b ∉ [B] → h1.get? b = some o → (sortedHeap h1 B vs out).get? b = some o := fun b o hb ho => by
    rw [sortedHeap_old (by simpa using hb) (Heap.lt_size ho)]; exact ho
  refine h B out.toList ns' e _ _ (LCg.fr_but F1 hk (Ne.symm hB.2.1) hB.2.2) (fun p hp => ?_) l1 a1 ?_ a2 a3
  · rcases List.mem_cons.mp hp with rfl | hp
    · exact ⟨he, hB.2⟩
    · exact ⟨hk _ _ (by simpa using Nat.ne_of_lt (l1 p hp)) (N1 p (.tail _ hp)).1, (N1 p (.tail _ hp)).2⟩
  · have := a2.length_eq; rw [this, List.length_map]
end
theorem sub_nil {l : List (Addr × Obj)} : ∀ p ∈ ([] : List (Addr × Obj)), p ∈ l := fun _ h => nomatch h
theorem sub_same {l : List (Addr × Obj)} : ∀ p ∈ l, p ∈ l := fun _ h => h
theorem sub_tail {b : Addr × Obj} {r l : List (Addr × Obj)} (h : ∀ p ∈ r, p ∈ l) : ∀ p ∈ r, p ∈ b :: l := fun p hp => .tail _ (h p hp)
theorem sub_cons {a : Addr × Obj} {r l : List (Addr × Obj)} (h : a ∈ l) (h' : ∀ p ∈ r, p ∈ l) : ∀ p ∈ a :: r, p ∈ l := fun p hp => by
  rcases List.mem_cons.mp hp with rfl | hp
  · exact h
  · exact h' p hp
theorem ne_sub {I : Addr} {l l' : List (Addr × Obj)} (h : ∀ p ∈ l, p.1 ≠ I) (hs : ∀ p ∈ l', p ∈ l) : ∀ p ∈ l', p.1 ≠ I := fun p hp => h p (hs p hp)
theorem lts_of {h₀ h : Heap} {L D : Addr} {news : List (Addr × Obj)} (N : News h₀ L h news) (hD : h.objs.size ≤ D) : ∀ p ∈ news, p.1 < D := fun p hp => Nat.lt_of_lt_of_le (Heap.lt_size (N p hp).1) hD
theorem lts3 {x y z : Addr × Obj} {r : List (Addr × Obj)} {T : Addr} (hx : @LT.lt Nat _ x.1 T) (hy : @LT.lt Nat _ y.1 T) (hz : @LT.lt Nat _ z.1 T) (hr : AllLt T r) : ∀ q ∈ x :: y :: z :: r, @LT.lt Nat _ q.1 T := fun q hq => by
  rcases List.mem_cons.mp hq with rfl | hq
  · exact hx
  rcases List.mem_cons.mp hq with rfl | hq
  · exact hy
  rcases List.mem_cons.mp hq with rfl | hq
  · exact hz
  exact allLt_all hr q hq

/-- a list of values, each told by R -/
inductive LV (R : Value → Int → Prop) : List Value → List Int → Prop
  | nil : LV R [] []
  | cons {v : Value} {c : Int} {vs : List Value} {cs : List Int} : R v c → LV R vs cs → LV R (v :: vs) (c :: cs)
noncomputable def IntR (v : Value) (c : Int) : Prop := ∃ t, v = .int c t
theorem LV.length {R : Value → Int → Prop} : ∀ {vs : List Value} {cs : List Int}, LV R vs cs → vs.length = cs.length
  | _, _, .nil => rfl
  | _, _, .cons _ h => by rw [List.length_cons, List.length_cons, h.length]
theorem LV.mono {R R' : Value → Int → Prop} (hR : ∀ v c, R v c → R' v c) : ∀ {vs : List Value} {cs : List Int}, LV R vs cs → LV R' vs cs
  | _, _, .nil => .nil
  | _, _, .cons h t => .cons (hR _ _ h) (t.mono hR)
theorem LV.append {R : Value → Int → Prop} {b : List Value} {d : List Int} (h' : LV R b d) : ∀ {a : List Value} {c : List Int}, LV R a c → LV R (a ++ b) (c ++ d)
  | _, _, .nil => h'
  | _, _, .cons h t => .cons h (LV.append h' t)
theorem LV.snoc {R : Value → Int → Prop} {a : List Value} {c : List Int} (h : LV R a c) {v : Value} {k : Int} (hv : R v k) : LV R (a ++ [v]) (c ++ [k]) := LV.append (.cons hv .nil) h
theorem LV.at {R : Value → Int → Prop} : ∀ {vs : List Value} {cs : List Int}, LV R vs cs → ∀ j (h1 : j < vs.length) (h2 : j < cs.length), R vs[j] cs[j]
  | _, _, .nil, _, h1, _ => absurd h1 (Nat.not_lt_zero _)
  | _, _, .cons h t, 0, _, _ => h
  | _, _, .cons h t, j + 1, h1, h2 => t.at j (Nat.lt_of_succ_lt_succ h1) (Nat.lt_of_succ_lt_succ h2)
theorem LV.get {R : Value → Int → Prop} {vs : List Value} {cs : List Int} (h : LV R vs cs) {i : Nat} {v : Value} (e : vs[i]? = some v) : ∃ c, cs[i]? = some c ∧ R v c := by
  obtain ⟨h1, rfl⟩ := List.getElem?_eq_some_iff.mp e
  have h2 : i < cs.length := h.length ▸ h1
  exact ⟨_, List.getElem?_eq_getElem h2, h.at i h1 h2⟩
theorem LV.get' {R : Value → Int → Prop} {vs : List Value} {cs : List Int} (h : LV R vs cs) {i : Nat} {c : Int} (e : cs[i]? = some c) : ∃ v, vs[i]? = some v ∧ R v c := by
  obtain ⟨h2, rfl⟩ := List.getElem?_eq_some_iff.mp e
  have h1 : i < vs.length := h.length ▸ h2
  exact ⟨_, List.getElem?_eq_getElem h1, h.at i h1 h2⟩
theorem LV.ints {vs : List Value} {ns : List Int} (h : IntsAre vs ns) : LV IntR vs ns := by
  induction h with
  | nil => exact .nil
  | cons n t _ ih => exact .cons ⟨t, rfl⟩ ih
noncomputable abbrev tupO (x y : Int) (t u : Tok) : Obj := { cls := .type "tuple", data := .seq #[.int x t, .int y u] }
/-- the value is a tuple of two ints of the ledger; its code -/
inductive TV (news : List (Addr × Obj)) (v : Value) (c : Int) : Prop
  | mk (a : Addr) (x y : Int) (t u : Tok) (e : v = .ref a) (hm : (a, tupO x y t u) ∈ news) (r : 0 ≤ x ∧ x < 65536 ∧ 0 ≤ y ∧ y < 65536 ∧ c = x * 65536 + y) : TV news v c
theorem TV.mono {news news' : List (Addr × Obj)} (hs : ∀ p ∈ news, p ∈ news') {v : Value} {c : Int} (h : TV news v c) : TV news' v c := by
  obtain ⟨a, x, y, t, u, e, hm, r⟩ := h
  exact ⟨a, x, y, t, u, e, hs _ hm, r⟩
theorem code_inj {x y x' y' : Int} (h0 : 0 ≤ y) (h1 : y < 65536) (h2 : 0 ≤ y') (h3 : y' < 65536) (e : x * 65536 + y = x' * 65536 + y') : x = x' ∧ y = y' := by omega

section
variable {Q : Value → Shared → Prop} {s : Shared} {p : Prop} [Decidable p] {o : Option Int}
theorem not_cases (ht : p → Q (.bool false) s) (hf : ¬p → Q (.bool true) s) : Q (.bool (!decide p)) s := by
  by_cases h : p
  · rw [decide_eq_true h]; exact ht h
  · rw [decide_eq_false h]; exact hf h
theorem not_yes (hp : p) (h : Q (.bool false) s) : Q (.bool (!decide p)) s := by rw [decide_eq_true hp]; exact h
theorem some_cases (hn : ∀ tk, o = none → Q (.bool false) { s with toks := tk }) (hs : ∀ tk z, o = some z → Q (.bool true) { s with toks := tk }) : ∀ tk, Q (.bool o.isSome) { s with toks := tk } := fun tk => by
  cases h : o with
  | none => exact hn tk h
  | some z => exact hs tk z h
theorem nm_cases {x : Int} {ks : List Int} (h : o = if x ∈ ks then some (ks.idxOf x : Int) else none) (hy : ∀ tk, x ∈ ks → o = some (ks.idxOf x : Int) → Q (.bool false) { s with toks := tk }) (hn : ∀ tk, x ∉ ks → o = none → Q (.bool true) { s with toks := tk }) : ∀ tk, Q (.bool (!o.isSome)) { s with toks := tk } := fun tk => by
  by_cases hx : x ∈ ks
  · rw [if_pos hx] at h; subst h; exact hy tk hx rfl
  · rw [if_neg hx] at h; subst h; exact hn tk hx rfl
end
noncomputable def EqR (A : Around) (s : Shared) (R R' : Value → Int → Prop) : Prop := ∀ v c v' c', R v c → R' v' c' → SeqAt.EqAt A s v v' (decide (c = c'))
noncomputable def FunR (R : Value → Int → Prop) : Prop := ∀ v c c', R v c → R v c' → c = c'
theorem funR_int : FunR IntR := by
  rintro v c c' ⟨t, rfl⟩ ⟨t', e⟩
  injection e
section
variable {A : Around} {s : Shared} {h₀ h : Heap} {L : Addr} {news : List (Addr × Obj)}
theorem eqR_int : EqR A s IntR IntR := by
  rintro v c v' c' ⟨t, rfl⟩ ⟨t', rfl⟩
  have : decide (c = c') = (c == c') := by rw [Bool.eq_iff_iff]; simp
  rw [this]
  exact SeqAt.EqAt.int_int _ _ _ _
theorem tv_obj {a : Addr} {x y x' y' : Int} {t u t' u' : Tok} (N : News h₀ L h news) (h1 : (a, tupO x y t u) ∈ news) (h2 : (a, tupO x' y' t' u') ∈ news) : x = x' ∧ y = y' := by
  have := (N.get h1).symm.trans (N.get h2)
  simp at this
  exact ⟨this.1.1, this.2.1⟩
theorem funR_tup (N : News h₀ L h news) : FunR (TV news) := by
  rintro v c c' ⟨a, x, y, t, u, rfl, hm, _, _, _, _, rfl⟩ ⟨a', x', y', t', u', e, hm', _, _, _, _, rfl⟩
  injection e with e
  subst e
  obtain ⟨rfl, rfl⟩ := tv_obj N hm hm'
  rfl
theorem eqR_tup (N : News h₀ L s.heap news) (hu : A.units < cLine) : EqR A s (TV news) (TV news) := by
  rintro v c v' c' ⟨a, x, y, t, u, rfl, hm, h0, h1, h2, h3, rfl⟩ ⟨a', x', y', t', u', rfl, hm', h0', h1', h2', h3', rfl⟩
  by_cases ha : a = a'
  · subst ha
    obtain ⟨rfl, rfl⟩ := tv_obj N hm hm'
    rw [decide_eq_true rfl]
    exact SeqAt.EqAt.same _
  · have k := SeqAt.RcAt.tuples (A := A) (s := s) (e := fun j => if j = 0 then x == x' else y == y') (⟨_, N.get hm, rfl, _, rfl⟩ : s.heap.IsTuple a #[.int x t, .int y u]) (⟨_, N.get hm', rfl, _, rfl⟩ : s.heap.IsTuple a' #[.int x' t', .int y' u']) hu (by
      intro j g1 g2
      have : j = 0 ∨ j = 1 := by simp at g1; omega
      rcases this with rfl | rfl
      · exact SeqAt.EqAt.int_int _ _ _ _
      · exact SeqAt.EqAt.int_int _ _ _ _)
    have e : ((List.range (min (#[Value.int x t, .int y u] : Array Value).size (#[Value.int x' t', .int y' u'] : Array Value).size)).all (fun j => if j = 0 then x == x' else y == y') && (#[Value.int x t, .int y u] : Array Value).size == (#[Value.int x' t', .int y' u'] : Array Value).size) = decide (x * 65536 + y = x' * 65536 + y') := by
      rw [Bool.eq_iff_iff, decide_eq_true_eq]
      simp [List.range, List.range.loop]
      constructor
      · rintro ⟨rfl, rfl⟩; rfl
      · intro e; exact code_inj h2 h3 h2' h3' e
    rw [e] at k
    exact SeqAt.EqAt.of_refs ha k
end

section
variable {prog : Program} {w : World} {A : Around} {E : Value → Shared → Prop} {s : Shared} {h₀ : Heap} {L : Addr} {m : Str → Option Value} {news : List (Addr × Obj)} {R R' : Value → Int → Prop}
theorem isList_of (N : News h₀ L s.heap news) {l : Addr} {vs : List Value} {n : Nat} (hm : (l, listOf vs.toArray n) ∈ news) : s.heap.IsList l vs.toArray := ⟨_, N.get hm, rfl, n, rfl⟩
theorem all_eq {cs ds : List Int} (hl : cs.length = ds.length) : (List.range cs.length).all (fun j => decide (cs.getD j 0 = ds.getD j 0)) = decide (cs = ds) := by
  rw [Bool.eq_iff_iff, decide_eq_true_eq, List.all_eq_true]
  constructor
  · intro h
    refine List.ext_getElem hl fun j h1 h2 => ?_
    have := h j (List.mem_range.mpr h1)
    simpa [h1, h2] using this
  · rintro rfl j _
    simp
theorem ll_eqAt (he : EqR A s R R') {vs us : List Value} {cs ds : List Int} (hv : LV R vs cs) (hw : LV R' us ds) (j : Nat) (h1 : j < vs.toArray.size) (h2 : j < us.toArray.size) : SeqAt.EqAt A s vs.toArray[j] us.toArray[j] (decide (cs.getD j 0 = ds.getD j 0)) := by
  have g1 : j < cs.length := by rw [← hv.length]; simpa using h1
  have g2 : j < ds.length := by rw [← hw.length]; simpa using h2
  have k := he _ _ _ _ (hv.at j (by simpa using h1) g1) (hw.at j (by simpa using h2) g2)
  simpa [g1, g2] using k
theorem ll_eq {l l' : Addr} {vs us : List Value} {cs ds : List Int} {n n' : Nat} {Q : Value → Shared → Prop} (N : News h₀ L s.heap news) (hm : (l, listOf vs.toArray n) ∈ news) (hm' : (l', listOf us.toArray n') ∈ news) (hv : LV R vs cs) (hw : LV R' us ds) (he : EqR A.in1 s R R') (hu : A.units < cLine)
    (h : Q (.bool (decide (cs = ds))) s) : wpAny (model prog w) A (compareOp .Eq (.ref l) (.ref l')) Q E s := by
  by_cases hl : cs.length = ds.length
  · refine SeqAt.eq_listAt (isList_of N hm) (isList_of N hm') (by simp [hv.length, hw.length, hl]) hu (fun j h1 h2 => ll_eqAt he hv hw j h1 h2) ?_
    have e : vs.toArray.size = cs.length := by simp [hv.length]
    rw [e, all_eq hl]; exact h
  · refine SeqAt.eq_list_lengthsAt (isList_of N hm) (isList_of N hm') (by simp [hv.length, hw.length, hl]) hu ?_
    rw [decide_eq_false (fun e => hl (by rw [e]))] at h; exact h
theorem ll_ne {l l' : Addr} {vs us : List Value} {cs ds : List Int} {n n' : Nat} {Q : Value → Shared → Prop} (N : News h₀ L s.heap news) (hm : (l, listOf vs.toArray n) ∈ news) (hm' : (l', listOf us.toArray n') ∈ news) (hv : LV R vs cs) (hw : LV R' us ds) (he : EqR A.in1 s R R') (hu : A.units < cLine)
    (h : Q (.bool (!decide (cs = ds))) s) : wpAny (model prog w) A (compareOp .NotEq (.ref l) (.ref l')) Q E s := by
  by_cases hl : cs.length = ds.length
  · refine SeqAt.RcNeAt.lists (e := fun j => decide (cs.getD j 0 = ds.getD j 0)) (isList_of N hm) (isList_of N hm') (by simp [hv.length, hw.length, hl]) hu (fun j h1 h2 => ll_eqAt he hv hw j h1 h2) prog w E Q ?_
    have e : vs.toArray.size = cs.length := by simp [hv.length]
    rw [e, all_eq hl]; exact h
  · refine SeqAt.RcNeAt.lists_lengths (isList_of N hm) (isList_of N hm') (by simp [hv.length, hw.length, hl]) hu prog w E Q ?_
    rw [decide_eq_false (fun e => hl (by rw [e]))] at h; exact h
open Classical in
noncomputable def hitR (R : Value → Int → Prop) (k : Int) (y : Value) : Bool := decide (R y k)
theorem hitR_eq (hf : FunR R) {y : Value} {c k : Int} (h : R y c) : hitR R k y = decide (c = k) := by
  classical
  unfold hitR
  rw [Bool.eq_iff_iff, decide_eq_true_eq, decide_eq_true_eq]
  exact ⟨fun h' => hf _ _ _ h h', fun e => e ▸ h⟩
theorem any_hit (hf : FunR R) (k : Int) : ∀ {vs : List Value} {cs : List Int}, LV R vs cs → vs.any (hitR R k) = decide (k ∈ cs)
  | _, _, .nil => by simp
  | _, _, .cons h t => by
    rw [List.any_cons, any_hit hf k t, hitR_eq hf h, Bool.eq_iff_iff]
    simp only [Bool.or_eq_true, decide_eq_true_eq, List.mem_cons]
    exact ⟨fun q => q.elim (fun e => .inl e.symm) .inr, fun q => q.elim (fun e => .inl e.symm) .inr⟩
theorem ll_item {vs : List Value} {cs : List Int} (hv : LV R vs cs) {y : Value} (hy : y ∈ vs) : ∃ c, R y c := by
  obtain ⟨j, h, rfl⟩ := List.mem_iff_getElem.mp hy
  exact ⟨_, hv.at j h (hv.length ▸ h)⟩
theorem ll_notin {l : Addr} {vs : List Value} {cs : List Int} {n : Nat} {x : Value} {k : Int} {Q : Value → Shared → Prop} (N : News h₀ L s.heap news) (hm : (l, listOf vs.toArray n) ∈ news) (hv : LV R vs cs) (hx : R' x k) (hf : FunR R) (he : EqR A.in1 s R R')
    (h : Q (.bool (!decide (k ∈ cs))) s) : wpAny (model prog w) A (compareOp .NotIn x (.ref l)) Q E s := by
  refine SeqAt.notIn_listAt (hitR R k) (isList_of N hm) (fun y hy => ?_) ?_
  · obtain ⟨c, hc⟩ := ll_item hv (by simpa using hy)
    rw [hitR_eq hf hc]
    exact he _ _ _ _ hc hx
  · rw [show vs.toArray.any (hitR R k) = vs.any (hitR R k) by simp, any_hit hf k hv]; exact h
theorem ll_ne2 {l l' : Addr} {vs us : List Value} {cs ds : List Int} {n n' : Nat} {Q : Value → Shared → Prop} (N : News h₀ L s.heap news) (hm : (l, listOf vs.toArray n) ∈ news) (hm' : (l', listOf us.toArray n') ∈ news) (hv : LV R vs cs) (hw : LV R' us ds) (he : EqR A.in1 s R R') (hu : A.units < cLine)
    (hy : cs = ds) (h : Q (.bool false) s) : wpAny (model prog w) A (compareOp .NotEq (.ref l) (.ref l')) Q E s := ll_ne N hm hm' hv hw he hu (not_yes hy h)
theorem ll_notin2 {l : Addr} {vs : List Value} {cs : List Int} {n : Nat} {x : Value} {k : Int} {Q : Value → Shared → Prop} (N : News h₀ L s.heap news) (hm : (l, listOf vs.toArray n) ∈ news) (hv : LV R vs cs) (hx : R' x k) (hf : FunR R) (he : EqR A.in1 s R R')
    (ht : k ∈ cs → Q (.bool false) s) (hn : ¬k ∈ cs → Q (.bool true) s) : wpAny (model prog w) A (compareOp .NotIn x (.ref l)) Q E s := ll_notin N hm hv hx hf he (not_cases ht hn)
theorem ll_index {l : Addr} {vs : List Value} {cs : List Int} {n : Nat} {x : Value} {k : Int} {Q : Value → Shared → Prop} (N : News h₀ L s.heap news) (hm : (l, listOf vs.toArray n) ∈ news) (hv : LV R vs cs) (hx : R' x k) (hf : FunR R) (he : EqR A.in1 s R R') (hk : k ∈ cs) (hlen : cs.length ≤ 1000)
    (h : ∀ t tk, Q (.int (cs.idxOf k : Nat) t) { s with toks := tk }) : wpAny (model prog w) A (call (.builtin "list.index") [.ref l, x]) Q E s := by
  have hj : cs.idxOf k < cs.length := List.idxOf_lt_length_iff.mpr hk
  have hl := hv.length
  have hit : ∀ j (h1 : j < vs.toArray.size), hitR R k vs.toArray[j] = decide (cs.getD j 0 = k) := fun j h1 => by
    have g1 : j < vs.length := by simpa using h1
    have g2 : j < cs.length := by omega
    have := hitR_eq hf (k := k) (hv.at j g1 g2)
    simpa [g2] using this
  refine call_meets PySem.F.slot_list_index ⟨_, N.get hm, rfl⟩ PySem.F.entry_list_index (PySem.F.args_list_index_2 _ _)
    (SeqAt.list_indexAt l vs.toArray n none #[] x (hitR R k) (cs.idxOf k) (by simpa [hl] using hj) (by omega) ?_ ?_) ⟨N.get hm, fun y hy => ?_, h _ _⟩
  · rw [hit]
    simp only [List.getD_eq_getElem?_getD, List.getElem?_eq_getElem hj, Option.getD_some, List.getElem_idxOf, decide_true]
  · intro j hjs hlt
    rw [hit, decide_eq_false]
    have g2 : j < cs.length := by omega
    rw [List.getD_eq_getElem?_getD, List.getElem?_eq_getElem g2, Option.getD_some]
    intro e
    have := ne_of_lt_idxOf hlt g2
    simp [e] at this
  · obtain ⟨c, hc⟩ := ll_item hv (by simpa using hy)
    rw [hitR_eq hf hc]
    exact he _ _ _ _ hc hx
end
theorem allLt_ne3 {d : Addr} {l : List (Addr × Obj)} (h : AllLt d l) : ∀ p ∈ l, p.1 ≠ d + 1 + 1 + 1 := fun p hp => Nat.ne_of_lt (Nat.lt_succ_of_lt (Nat.lt_succ_of_lt (Nat.lt_succ_of_lt (allLt_all h p hp))))
theorem sorted_lt_unique {a b : List Int} (ha : a.Pairwise (· < ·)) (hb : b.Pairwise (· < ·)) (h : ∀ x, x ∈ a ↔ x ∈ b) : a = b :=
  sorted_unique (perm_of_mem (ha.imp fun h => Int.ne_of_lt h) (hb.imp fun h => Int.ne_of_lt h) h) (ha.imp fun h => Int.le_of_lt h) (hb.imp fun h => Int.le_of_lt h)
theorem packed_vals {c : List (Int × Int)} {es ns : List Int} (hn : (c.map (·.1)).Nodup) (he : es.Pairwise (· < ·)) (hes : ∀ x, x ∈ es ↔ x = 0 ∨ ∃ k, at? c k = some x) (hns : ns.Pairwise (· < ·)) (hm : ∀ x, x ∈ ns ↔ x ∈ [0] ++ c.map (·.2)) : es = ns := by
  refine sorted_lt_unique he hns fun x => ?_
  rw [hes, hm, List.mem_append, List.mem_singleton]
  constructor
  · rintro (h | ⟨k, h⟩)
    · exact .inl h
    · exact .inr (List.mem_map.mpr ⟨_, at?_mem h, rfl⟩)
  · rintro (h | h)
    · exact .inl h
    · obtain ⟨p, hp, rfl⟩ := List.mem_map.mp h
      exact .inr ⟨p.1, at?_of_mem hn hp⟩
theorem packed_keys {c c' : List (Int × Int)} {es : List Int} (hP : Packed c es c') (hn : (c.map (·.1)).Nodup) (hn' : (c'.map (·.1)).Nodup) : (c'.map (·.1)).Perm (c.map (·.1)) := by
  refine perm_of_mem hn' hn fun k => ?_
  rw [at?_keys, at?_keys]
  rcases hP.2.2.2 k with ⟨a, b⟩ | ⟨x, j, a, b, _⟩
  · rw [a, b]
  · rw [a, b]; exact ⟨fun _ => ⟨_, rfl⟩, fun _ => ⟨_, rfl⟩⟩
theorem sorted_same {ns ms : List Int} {a b : List Int} (h1 : ns.Perm a) (h2 : ms.Perm b) (h : a.Perm b) (o1 : ns.Pairwise (· ≤ ·)) (o2 : ms.Pairwise (· ≤ ·)) : ns = ms := sorted_unique (h1.trans (h.trans h2.symm)) o1 o2
theorem memL {l : Addr} {vs : List Value} {news : List (Addr × Obj)} (h : (l, LCg.lst vs) ∈ news) : (l, listOf vs.toArray vs.length) ∈ news := h
theorem allLt_ne4 {d : Addr} {l : List (Addr × Obj)} (h : AllLt d l) : ∀ p ∈ l, p.1 ≠ d + 1 + 1 + 1 + 1 := fun p hp => Nat.ne_of_lt (Nat.lt_succ_of_lt (Nat.lt_succ_of_lt (Nat.lt_succ_of_lt (Nat.lt_succ_of_lt (allLt_all h p hp)))))
theorem allLt_ne5 {d : Addr} {l : List (Addr × Obj)} (h : AllLt d l) : ∀ p ∈ l, p.1 ≠ d + 1 + 1 + 1 + 1 + 1 := fun p hp => Nat.ne_of_lt (Nat.lt_succ_of_lt (Nat.lt_succ_of_lt (Nat.lt_succ_of_lt (Nat.lt_succ_of_lt (Nat.lt_succ_of_lt (allLt_all h p hp))))))
theorem lts2 {x y : Addr × Obj} {r : List (Addr × Obj)} {T : Addr} (hx : @LT.lt Nat _ x.1 T) (hy : @LT.lt Nat _ y.1 T) (hr : AllLt T r) : ∀ q ∈ x :: y :: r, @LT.lt Nat _ q.1 T := fun q hq => by
  rcases List.mem_cons.mp hq with rfl | hq
  · exact hx
  rcases List.mem_cons.mp hq with rfl | hq
  · exact hy
  exact allLt_all hr q hq

/-- the values of a dict, each told by R -/
inductive DV (R : Value → Int → Prop) : List (Int × Value) → List (Int × Int) → Prop
  | nil : DV R [] []
  | cons {k : Int} {v : Value} {i : Int} {kvs : List (Int × Value)} {c : List (Int × Int)} : R v i → DV R kvs c → DV R ((k, v) :: kvs) ((k, i) :: c)
section
variable {R R' : Value → Int → Prop}
theorem DV.keys : ∀ {kvs : List (Int × Value)} {c : List (Int × Int)}, DV R kvs c → kvs.map (·.1) = c.map (·.1)
  | _, _, .nil => rfl
  | _, _, .cons _ h => by rw [List.map_cons, List.map_cons, h.keys]
theorem DV.length : ∀ {kvs : List (Int × Value)} {c : List (Int × Int)}, DV R kvs c → kvs.length = c.length
  | _, _, .nil => rfl
  | _, _, .cons _ h => by rw [List.length_cons, List.length_cons, h.length]
theorem DV.mono (hR : ∀ v c, R v c → R' v c) : ∀ {kvs : List (Int × Value)} {c : List (Int × Int)}, DV R kvs c → DV R' kvs c
  | _, _, .nil => .nil
  | _, _, .cons h t => .cons (hR _ _ h) (t.mono hR)
theorem DV.get {kvs : List (Int × Value)} {c : List (Int × Int)} (h : DV R kvs c) : ∀ {j : Nat} {k : Int} {v : Value}, kvs[j]? = some (k, v) → ∃ i, R v i ∧ c[j]? = some (k, i) := by
  induction h with
  | nil => intro j k v e; simp at e
  | cons hv h ih =>
    intro j k' v e
    cases j with
    | zero => simp at e; obtain ⟨rfl, rfl⟩ := e; exact ⟨_, hv, rfl⟩
    | succ j => simpa using ih (by simpa using e)
theorem DV.valueAt {kvs : List (Int × Value)} {c : List (Int × Int)} (h : DV R kvs c) (k : Int) : (∃ v i, PySem.valueAt kvs k = some v ∧ at? c k = some i ∧ R v i) ∨ (PySem.valueAt kvs k = none ∧ at? c k = none) := by
  induction h with
  | nil => exact .inr ⟨rfl, rfl⟩
  | @cons k' v i kvs c hv h ih =>
    by_cases e : k' = k
    · exact .inl ⟨v, i, by simp [PySem.valueAt, e], by simp [at?, e], hv⟩
    · rcases ih with ⟨v, i, a, b, r⟩ | ⟨a, b⟩
      · exact .inl ⟨v, i, by simpa [PySem.valueAt, e] using a, by simpa [at?, e] using b, r⟩
      · exact .inr ⟨by simpa [PySem.valueAt, e] using a, by simpa [at?, e] using b⟩
theorem DV.valueAt_some {kvs : List (Int × Value)} {c : List (Int × Int)} (h : DV R kvs c) {k i : Int} (e : at? c k = some i) : ∃ v, PySem.valueAt kvs k = some v ∧ R v i := by
  rcases h.valueAt k with ⟨v, j, a, b, r⟩ | ⟨a, b⟩
  · rw [e] at b; cases b; exact ⟨v, a, r⟩
  · rw [e] at b; cases b
theorem DV.any {kvs : List (Int × Value)} {c : List (Int × Int)} (h : DV R kvs c) (k : Int) : kvs.any (fun kv => kv.1 = k) = c.any (fun p => p.1 = k) := by
  induction h with
  | nil => rfl
  | cons _ _ ih => simp only [List.any_cons, ih]
theorem DV.append {a b : List (Int × Value)} {c d : List (Int × Int)} (h : DV R a c) (h' : DV R b d) : DV R (a ++ b) (c ++ d) := by
  induction h with
  | nil => exact h'
  | cons hv _ ih => exact .cons hv ih
theorem DV.stored {kvs : List (Int × Value)} {c : List (Int × Int)} (h : DV R kvs c) (k : Int) {v : Value} {i : Int} (hv : R v i) : DV R (stored kvs k v) (putI c k i) := by
  unfold PySem.stored putI
  rw [h.any]
  split
  · rename_i hh
    clear hh
    induction h with
    | nil => exact .nil
    | @cons k' v' i' kvs c hv' _ ih =>
      simp only [List.map_cons]
      by_cases e : k' = k
      · simp only [e, if_true]; exact .cons hv ih
      · simp only [e, if_false]; exact .cons hv' ih
  · exact h.append (.cons hv .nil)
theorem DV.nodup {kvs : List (Int × Value)} {c : List (Int × Int)} (h : DV R kvs c) (hn : (kvs.map (·.1)).Nodup) : (c.map (·.1)).Nodup := h.keys ▸ hn
end
theorem DV.ofIV : ∀ {kvs : List (Int × Value)} {c : List (Int × Int)}, IV kvs c → DV IntR kvs c
  | _, _, .nil => .nil
  | _, _, .cons _ _ t h => .cons ⟨t, rfl⟩ (DV.ofIV h)
/-- the keys of a dict by tuples of two ints, its values ints -/
inductive KX (ts : List (Addr × Obj)) : List (List Int × Addr × Value) → List (Int × Int) → Prop
  | nil : KX ts [] []
  | cons {a : Addr} {x y : Int} {t u : Tok} {i : Int} {tv : Tok} {xs : List (List Int × Addr × Value)} {c : List (Int × Int)} :
      (a, tupO x y t u) ∈ ts → 0 ≤ x → x < 65536 → 0 ≤ y → y < 65536 → KX ts xs c → KX ts (([x, y], a, .int i tv) :: xs) ((x * 65536 + y, i) :: c)
theorem KX.at {ts : List (Addr × Obj)} {xs : List (List Int × Addr × Value)} {c : List (Int × Int)} (h : KX ts xs c) {x y : Int} (h0 : 0 ≤ y) (h1 : y < 65536) :
    (∃ p i t, atKey xs [x, y] = some (p, .int i t) ∧ at? c (x * 65536 + y) = some i) ∨ (atKey xs [x, y] = none ∧ at? c (x * 65536 + y) = none) := by
  induction h with
  | nil => exact .inr ⟨rfl, rfl⟩
  | @cons a x' y' t u i tv xs c hm g0 g1 g2 g3 _ ih =>
    by_cases e : x' * 65536 + y' = x * 65536 + y
    · obtain ⟨rfl, rfl⟩ := code_inj g2 g3 h0 h1 e
      exact .inl ⟨a, i, tv, by simp [atKey], by simp [at?]⟩
    · have e' : ¬ ([x', y'] : List Int) = [x, y] := by
        intro q
        simp at q
        exact e (by rw [q.1, q.2])
      have ka : atKey (([x', y'], a, Value.int i tv) :: xs) [x, y] = atKey xs [x, y] := by
        unfold atKey
        rw [List.find?_cons_of_neg (by simpa using e')]
      rw [at?_cons, if_neg e, ka]
      exact ih
theorem KX.length {ts : List (Addr × Obj)} {xs : List (List Int × Addr × Value)} {c : List (Int × Int)} (h : KX ts xs c) : xs.length = c.length := by
  induction h with
  | nil => rfl
  | cons _ _ _ _ _ _ ih => rw [List.length_cons, List.length_cons, ih]
theorem KX.append {ts : List (Addr × Obj)} {a b : List (List Int × Addr × Value)} {c d : List (Int × Int)} (h : KX ts a c) (h' : KX ts b d) : KX ts (a ++ b) (c ++ d) := by
  induction h with
  | nil => exact h'
  | cons hm g0 g1 g2 g3 _ ih => exact .cons hm g0 g1 g2 g3 ih
theorem KX.stored {ts : List (Addr × Obj)} {xs : List (List Int × Addr × Value)} {c : List (Int × Int)} (h : KX ts xs c) {a : Addr} {x y : Int} {t u : Tok} (hm : (a, tupO x y t u) ∈ ts) (g0 : 0 ≤ x) (g1 : x < 65536) (h0 : 0 ≤ y) (h1 : y < 65536) (i : Int) (tv : Tok) :
    KX ts (storedH xs [x, y] a (.int i tv)) (putI c (x * 65536 + y) i) := by
  have hany : (c.any fun p => p.1 = x * 65536 + y) = (atKey xs [x, y]).isSome := by
    rcases h.at (x := x) h0 h1 with ⟨p, j, t', e, e'⟩ | ⟨e, e'⟩
    · rw [e, Option.isSome_some, List.any_eq_true]
      exact ⟨_, at?_mem e', by simp⟩
    · rw [e, Option.isSome_none, List.any_eq_false]
      intro q hq
      have := at?_none.mp e'
      simp only [decide_eq_true_eq]
      exact fun r => this (r ▸ List.mem_map.mpr ⟨q, hq, rfl⟩)
  unfold storedH putI
  rw [hany]
  split
  · rename_i hh
    clear hh hany
    induction h with
    | nil => exact .nil
    | @cons a' x' y' t' u' i' tv' xs c hm' k0 k1 k2 k3 _ ih =>
      rw [List.map_cons, List.map_cons]
      by_cases e : x' * 65536 + y' = x * 65536 + y
      · obtain ⟨rfl, rfl⟩ := code_inj k2 k3 h0 h1 e
        simp only [putAt, if_true]
        exact .cons hm' k0 k1 k2 k3 ih
      · have e' : ¬ ([x', y'] : List Int) = [x, y] := by
          intro q
          simp at q
          exact e (by rw [q.1, q.2])
        simp only [putAt, e, e', if_false]
        exact .cons hm' k0 k1 k2 k3 ih
  · exact h.append (.cons hm g0 g1 h0 h1 .nil)

noncomputable def TKD (w : World) (ts : List (Addr × Obj)) (o : Obj) (c : List (Int × Int)) : Prop :=
  ∃ es ep xs, o.ExactDict ∧ o.data = .dict es ep ∧ es.toList = xs.map (entryOfKey (tupleKind (intKind PROG w))) ∧ (xs.map (·.1)).Nodup ∧ KX ts xs c
noncomputable abbrev emptyO : Obj := { cls := .type "dict", data := .dict #[] }
theorem TKD.empty {w : World} {ts : List (Addr × Obj)} : TKD w ts emptyO [] := ⟨#[], 0, [], ⟨rfl, rfl, rfl⟩, rfl, rfl, List.nodup_nil, .nil⟩
theorem tup_key {w : World} {h₀ h : Heap} {L : Addr} {news : List (Addr × Obj)} (N : News h₀ L h news) {a : Addr} {x y : Int} {t u : Tok} (hm : (a, tupO x y t u) ∈ news) : (tupleKind (intKind PROG w)).is h [x, y] a :=
  ⟨_, _, _, N.get hm, rfl, rfl, .cons (intKind_is _ _ _ _) (.cons (intKind_is _ _ _ _) .nil)⟩
section
variable {w : World} {A : Around} {E : Value → Shared → Prop} {s : Shared} {h₀ : Heap} {L : Addr} {m : Str → Option Value} {news ts : List (Addr × Obj)}
theorem TKD.dict {h : Heap} {d : Addr} {o : Obj} {c : List (Int × Int)} (T : TKD w ts o c) (N : News h₀ L h news) (hd : h.get? d = some o) (hs : ∀ p ∈ ts, p ∈ news) : ∃ xs, h.DictOfH (tupleKind (intKind PROG w)) d xs ∧ KX ts xs c := by
  obtain ⟨es, ep, xs, hc, hdat, he, hn, hk⟩ := T
  refine ⟨xs, ⟨o, es, ep, hd, hc, hdat, he, ?_, hn⟩, hk⟩
  clear he hn hdat hc
  induction hk with
  | nil => exact fun _ hx => nomatch hx
  | cons hm _ _ _ _ _ ih =>
    intro x hx
    rcases List.mem_cons.mp hx with rfl | hx
    · exact tup_key N (hs _ hm)
    · exact ih x hx
theorem TKD.tkd {h : Heap} {d : Addr} {c : List (Int × Int)} {xs : List (List Int × Addr × Value)} (H : h.DictOfH (tupleKind (intKind PROG w)) d xs) (k : KX ts xs c) : ∃ o, h.get? d = some o ∧ TKD w ts o c := by
  obtain ⟨o, es, ep, hd, hc, hdat, he, _, hn⟩ := H
  exact ⟨o, hd, es, ep, xs, hc, hdat, he, hn, k⟩
theorem tk_notin {d : Addr} {o : Obj} {c : List (Int × Int)} {v : Value} {k : Int} {Q : Value → Shared → Prop} (hu : A.units + 1 < cLine) (N : News h₀ L s.heap news) (hd : (d, o) ∈ news) (T : TKD w ts o c) (hs : ∀ p ∈ ts, p ∈ news) (lo : (d == sysModules) = false) (hv : TV ts v k)
    (h : ∀ tk, Q (.bool (!(at? c k).isSome)) { s with toks := tk }) : wpAny (model PROG w) A (compareOp .NotIn v (.ref d)) Q E s := by
  obtain ⟨a, x, y, t, u, rfl, hm, g0, g1, g2, g3, rfl⟩ := hv
  obtain ⟨xs, H, hk⟩ := T.dict N (N.get hd) hs
  refine wpAny_notIn_heap (knd := tupleKind (intKind PROG w)) (tupleKind_room_in1 hu) (tup_key N (hs _ hm)) lo H ?_
  have e : (atKey xs [x, y]).isSome = (at? c (x * 65536 + y)).isSome := by
    rcases hk.at (x := x) g2 g3 with ⟨p, i, t', e, e'⟩ | ⟨e, e'⟩ <;> rw [e, e'] <;> rfl
  rw [e]; exact h _
theorem tk_notin2 {d : Addr} {o : Obj} {c : List (Int × Int)} {v : Value} {k : Int} {Q : Value → Shared → Prop} (hu : A.units + 1 < cLine) (N : News h₀ L s.heap news) (hd : (d, o) ∈ news) (T : TKD w ts o c) (hs : ∀ p ∈ ts, p ∈ news) (lo : (d == sysModules) = false) (hv : TV ts v k) {ks : List Int}
    (hk : at? c k = if k ∈ ks then some (ks.idxOf k : Int) else none) (hy : ∀ tk, k ∈ ks → at? c k = some (ks.idxOf k : Int) → Q (.bool false) { s with toks := tk }) (hn : ∀ tk, k ∉ ks → at? c k = none → Q (.bool true) { s with toks := tk }) : wpAny (model PROG w) A (compareOp .NotIn v (.ref d)) Q E s := tk_notin hu N hd T hs lo hv (nm_cases hk hy hn)
theorem tk_item {value slice : PySem.Expr} {d : Addr} {o : Obj} {c : List (Int × Int)} {v : Value} {k i : Int} {Q : Value → Shared → Prop} (hu : A.units + 1 < cLine) (N : News h₀ L s.heap news) (hd : (d, o) ∈ news) (T : TKD w ts o c) (hs : ∀ p ∈ ts, p ∈ news) (hv : TV ts v k) (hl : at? c k = some i)
    (h : ∀ t tk, Q (.int i t) { s with toks := tk })
    (hsb : ∀ a, v = .ref a → subscripted slice false (.ref d) (.ref a) = operate [.ref d, .ref a] (getItem (.ref d) (.ref a)) := by intro _ _; with_unfolding_all rfl) (hg : ∀ r, letTemporaryGo value (.ref d) r = pure () := by intro _; with_unfolding_all rfl) :
    wpAny (model PROG w) A (subscriptTail value slice (.ref d) v) Q E s := by
  obtain ⟨a, x, y, t, u, rfl, hm, g0, g1, g2, g3, rfl⟩ := hv
  obtain ⟨xs, H, hk⟩ := T.dict N (N.get hd) hs
  rcases hk.at (x := x) g2 g3 with ⟨p, j, t', e, e'⟩ | ⟨e, e'⟩
  · rw [hl] at e'; cases e'
    exact subscriptTail_builtin H.typeIs slot_dict_getitem.lookup (wpAny_getItem_heap (knd := tupleKind (intKind PROG w)) (tupleKind_room_in1 hu) (tup_key N (hs _ hm)) H e (h _ _)) (hsb a rfl) hg
  · rw [hl] at e'; cases e'
theorem tk_set {d : Addr} {o : Obj} {g : Obj → List (Addr × Obj)} {c : List (Int × Int)} {v : Value} {k i : Int} {tv : Tok} {Q : Unit → Shared → Prop} (hu : A.units + 1 < cLine) (F : Fr h₀ L s.heap m) (N : News h₀ L s.heap news) (U : UpdF d o news g) (T : TKD w ts o c) (hs : ∀ p ∈ ts, p ∈ news) (hv : TV ts v k) (hsz : c.length ≤ 1000)
    (h : ∀ h' o' tk, Fr h₀ L h' m → News h₀ L h' (g o') → TKD w ts o' (putI c k i) → Q () { s with heap := h', toks := tk }) : wpAny (model PROG w) A (setItem (.ref d) v (.int i tv)) Q E s := by
  obtain ⟨a, x, y, t, u, rfl, hm, g0, g1, g2, g3, rfl⟩ := hv
  obtain ⟨pre, post, e, hg, ha, hb⟩ := U.split
  have hdm : (d, o) ∈ news := e ▸ List.mem_append_right _ (.head _)
  obtain ⟨xs, H, hk⟩ := T.dict N (N.get hdm) hs
  have hN := N _ hdm
  refine wpAny_setItem_heap (hsz := by rw [hk.length, sizeLine_eq]; omega) (knd := tupleKind (intKind PROG w)) (tupleKind_room_in1 hu) (tup_key N (hs _ hm)) H fun h' hm' hsb => ?_
  obtain ⟨o', ho', T'⟩ := TKD.tkd hm' (hk.stored hm g0 g1 g2 g3 i tv)
  exact h h' o' _ (F.change hsb hN.2.1 hN.2.2) (hg o' ▸ (e ▸ N : News h₀ L s.heap (pre ++ (d, o) :: post)).setIn ha hb hsb ho') T'

/-- a display of one pair whose key is a tuple -/
noncomputable def Stores (w : World) (A : Around) (E : Value → Shared → Prop) (d : Addr) (Q : Value → Shared → Prop) (vs : List (Value × Value)) (s : Shared) : Prop :=
  wpAny (model PROG w) A (storeAll d vs) (fun _ s₂ => Q (.ref d) s₂) E s
theorem Stores.one {d : Addr} {v : Value} {k i : Int} {t : Tok} {Q : Value → Shared → Prop} (hu : A.units < cLine) (F : Fr h₀ L s.heap m) (N : News h₀ L s.heap ((d, emptyO) :: news)) (hv : TV ts v k) (hs : ∀ p ∈ ts, p ∈ news) (hd : ∀ q ∈ news, q.1 ≠ d)
    (h : ∀ h' o' tk, Fr h₀ L h' m → News h₀ L h' ((d, o') :: news) → TKD w ts o' [(k, i)] → Q (.ref d) { s with heap := h', toks := tk }) : Stores w A E d Q [(v, .int i t)] s := by
  obtain ⟨a, x, y, ta, ua, rfl, hm, g0, g1, g2, g3, rfl⟩ := hv
  have hN := N _ (.head _)
  obtain ⟨xs, H, hk⟩ := (TKD.empty (w := w) (ts := ts)).dict N (N.get (.head _)) (fun p hp => .tail _ (hs p hp))
  unfold Stores storeAll
  rw [List.forIn_cons]
  refine wpAny_bind (wpAny_bind (wpAny_dictSet_heap (hsz := by rw [hk.length, sizeLine_eq]; decide) (knd := tupleKind (intKind PROG w)) hu (tup_key N (.tail _ (hs _ hm))) H fun h' hm' hsb => wpAny_pure ?_))
  dsimp only
  rw [List.forIn_nil]
  obtain ⟨o', ho', T'⟩ := TKD.tkd hm' (hk.stored hm g0 g1 g2 g3 i t)
  exact wpAny_pure (h h' o' _ (F.change hsb hN.2.1 hN.2.2) (N.setHead hd hsb ho') T')
theorem Dict_tk {env : Env} {keys : List (Option Expr)} {values : List Expr} {pos : Pos} {Q : Value → Shared → Prop} (F : Fr h₀ L s.heap m) (N : News h₀ L s.heap news)
    (hbig : sysModules < h₀.objs.size) (hall : keys.all (·.isSome) = true) (hl : keys.length = values.length) (h0 : keys ≠ []) (hlen : keys.length ≤ 15)
    (h : ∀ D h', D = s.heap.objs.size → Fr h₀ L h' m → News h₀ L h' ((D, emptyO) :: news) → (D == sysModules) = false → (∀ q ∈ news, q.1 < D) → wpAny (model PROG w) A (evalPairs (pairTrees keys values env pos)) (Stores w A E D Q) E { s with heap := h' }) :
    wpAny (model PROG w) A (eval (.Dict keys values pos) env) Q E s :=
  wpAny_Dict_any hall hl h0 hlen (h _ _ rfl (F.push _) (News.push F N _) (F.notModules hbig) fun q hq => Heap.lt_size (N q hq).1)
end
section
variable {prog : Program} {w : World} {A : Around} {E : Value → Shared → Prop} {s : Shared} {h₀ : Heap} {L : Addr} {m : Str → Option Value} {news : List (Addr × Obj)}
theorem Dict_nil {env : Env} {pos : Pos} {Q : Value → Shared → Prop} (F : Fr h₀ L s.heap m) (N : News h₀ L s.heap news) (hbig : sysModules < h₀.objs.size)
    (h : ∀ D o h', Fr h₀ L h' m → News h₀ L h' ((D, o) :: news) → (∀ q ∈ news, q.1 < D) → o.IsDictOf (intKind prog w) [] → (D == sysModules) = false → Q (.ref D) { s with heap := h' }) :
    wpAny (model prog w) A (eval (.Dict [] [] pos) env) Q E s := by
  rw [eval_Dict_empty]; simp only [newDict, newObj]
  refine wpAny_bind (wpAny_standAt (wpAny_bind (wpAny_alloc (wpAny_pure (h _ emptyO _ (F.push _) (News.push F N _ rfl) (fun q hq => Heap.lt_size (N q hq).1) ?_ (F.notModules hbig))))))
  exact ⟨#[], 0, ⟨rfl, rfl, rfl⟩, rfl, fun _ he => by simp at he, .nil, List.nodup_nil⟩
end

theorem entry_update_loop : entryFor table "dict.update.loop" = some Builtin.«dict.update.loop» := entryFor_of_fast (by kernel_rfl)
theorem plain_update_loop : plainId "dict.update.loop" = true := by decide +kernel
theorem miss_keys : typeLookup (.type "list") "keys" = pure none := am_miss_of_fast (by decide +kernel)
section
variable {prog : Program} {w : World} {A : Around} {E : Value → Shared → Prop} {s : Shared}
theorem getAttr?_miss_list {a : Addr} {xs : Array Value} {k : Nat} {name : Str} {Q : Option Value → Shared → Prop}
    (hx : s.heap.get? a = some { cls := .type "list", data := .seq xs k }) (hmiss : typeLookup (.type "list") name = pure none) (hname : (["__module__", "__name__", "__qualname__", "__doc__", "__annotations__"] : List Str).contains name = false) (hA : A.handled = none)
    (h : ∀ h' tk, (∀ b o, s.heap.get? b = some o → h'.get? b = some o) → Q none { s with heap := h', toks := tk }) (hsz : name.length + 100 ≤ sizeLine := by size_fits) :
    wpAny (model prog w) A (getAttr? (.ref a) name) Q E s := by
  obtain ⟨hp, g, d, tk, os⟩ := s
  have hT : ∀ tk', (⟨hp, g, d, tk', os⟩ : Shared).TypeIs (.ref a) "list" := fun _ => ⟨_, hx, rfl⟩
  have f1 := sub_AttributeError
  have f3 := F.slot_list_getattribute.lookup
  have f4 := F.slot_list_getattribute.bind (.ref a)
  have f5 := am_list_getattr_none
  unfold getAttr? getAttrBy? getAttrBy
  repeat (any_goals (first | assumption | exact hT _ | ((with_reducible show wpAny _ _ (call (Value.builtin "list.__getattribute__") _ _) _ _ _); refine call_meets F.slot_list_getattribute (hT _) am_entry_list_getattribute (F.args_list_getattribute_2 _ _) (meets_getattribute_miss_list a xs k #[] name _ hmiss hname hsz) ⟨hx, hA, fun h' tk' e hx' => ?_⟩) | wp_step))
  obtain ⟨t', u', he⟩ := hx'.there
  show wpAny _ _ (getattributeRaised _ _ _ _ _ _ _) _ _ _
  unfold getattributeRaised
  repeat (any_goals (first | assumption | wp_step))
  exact h _ _ hx'.keeps
end
/-- a dict of pairs told by codes -/
noncomputable def pairsD (l : List Int) : List (Int × Int) := l.foldl (fun c q => putI c (q / 65536) (q % 65536)) []
theorem pairsD_take {l : List Int} {i : Nat} {q : Int} (h : l[i]? = some q) : pairsD (l.take (i + 1)) = putI (pairsD (l.take i)) (q / 65536) (q % 65536) := by
  unfold pairsD
  rw [List.take_add_one, h, List.foldl_append]; rfl
theorem code_split {x y : Int} (h0 : 0 ≤ y) (h1 : y < 65536) : (x * 65536 + y) / 65536 = x ∧ (x * 65536 + y) % 65536 = y := by omega
section
variable {w : World} {A : Around} {E : Value → Shared → Prop} {s : Shared} {news : List (Addr × Obj)}
theorem pairs_loop {s₀ : Shared} (hh : A.handled = none) {D I l : Addr} {items : List Value} {codes : List Int} (hl : s₀.heap.IsList l items.toArray) (hv : LV (TV news) items codes) (hN : ∀ p ∈ news, s₀.heap.get? p.1 = some p.2 ∧ p.1 ≠ D ∧ p.1 ≠ I) (hlD : l ≠ D) (hlI : l ≠ I) (hDI : D ≠ I) (hlen : codes.length ≤ 1000) {R : Result → Shared → Prop}
    (hR : ∀ h' tk kvs, (∀ b o, b ≠ D → b ≠ I → s₀.heap.get? b = some o → h'.get? b = some o) → h'.DictOf (intKind PROG w) D kvs → IV kvs (pairsD codes) → R (.ok (.ret .none)) { s₀ with heap := h', toks := tk }) :
    ∀ (k i : Nat) (j : Int) (h : Heap) (tk : Nat) (kvs : List (Int × Value)), codes.length - i = k → i ≤ codes.length → (∀ b o, b ≠ D → b ≠ I → s₀.heap.get? b = some o → h.get? b = some o) → h.IsListIter I l i → h.DictOf (intKind PROG w) D kvs → IV kvs (pairsD (codes.take i)) → kvs.length ≤ i →
      codeAny (model PROG w) A (.builtin "dict.update.loop" ⟨[.ref D, .ref I, rawInt j, .none], []⟩) R { s₀ with heap := h, toks := tk } := by
  intro k
  have hvl := hv.length
  have W := Walks.list (prog := PROG) (w := w) (A := A.in1) hh I l hlI items.toArray
  induction k with
  | zero =>
    intro i j h tk kvs hk hi keep hit hD hIV hkl
    have hin : i = codes.length := by omega
    refine codeAny_builtin entry_update_loop ?_
    rw [Around.under_plainId plain_update_loop _]
    show wpAny _ _ (pyNext (.ref I) >>= _) _ _ _
    have hst : h.IsListIter I l (items.toArray.size) ∧ h.IsList l items.toArray := ⟨by rw [List.size_toArray, hvl, ← hin]; exact hit, hl.at fun o e => keep l o hlD hlI e⟩
    refine wpAny_bind (W.done _ _ _ hst fun h' tk' hk' => ?_)
    show wpAny _ _ (Builtin.Dict.addKeywords D [] >>= fun _ => ret .none) _ _ _
    refine wpAny_bind (wpAny_pure ?_)
    refine wpAny_pure (hR h' tk' kvs (fun b o hb hc e => hk' b o (by simpa using hc) (keep b o hb hc e)) ?_ ?_)
    · obtain ⟨o, es, ep, ho, r⟩ := hD
      exact ⟨o, es, ep, hk' D o (by simpa using hDI) ho, r⟩
    · rw [hin, List.take_length] at hIV; exact hIV
  | succ k ih =>
    intro i j h tk kvs hk hi keep hit hD hIV hkl
    have hlt : i < codes.length := by omega
    refine codeAny_builtin entry_update_loop ?_
    rw [Around.under_plainId plain_update_loop _]
    show wpAny _ _ (pyNext (.ref I) >>= _) _ _ _
    have hst : h.IsListIter I l i ∧ h.IsList l items.toArray := ⟨hit, hl.at fun o e => keep l o hlD hlI e⟩
    refine wpAny_bind (W.item i _ _ _ (by simp [hvl, hlt]) hst fun v h' tk' hv' hst' hk' => ?_)
    have hv'' : items[i]? = some v := by simpa using hv'
    obtain ⟨c, hc, a, x, y, t, u, rfl, hm, g0, g1, g2, g3, rfl⟩ := hv.get hv''
    have hN' := hN _ hm
    have hta : h'.get? a = some (tupO x y t u) := hk' a _ (by simpa using hN'.2.2) (keep a _ hN'.2.1 hN'.2.2 hN'.1)
    have hD' : h'.DictOf (intKind PROG w) D kvs := by
      obtain ⟨o, es, ep, ho, r⟩ := hD
      exact ⟨o, es, ep, hk' D o (by simpa using hDI) ho, r⟩
    dsimp only
    refine wpAny_bind (wpAny_holding (wpAny_bind (wpAny_tryCatch ?_)))
    show wpAny _ _ (typeOf (.ref a) >>= _) _ _ _
    refine wpAny_bind (wpAny_typeOf (T := "tuple") ⟨_, hta, rfl⟩ ?_)
    rw [if_pos (by decide)]
    refine wpAny_bind (wpAny_seqItems hta rfl (wpAny_pure ?_))
    show wpAny _ _ (holding [Value.int x t, .int y u] (dictSet D (.int x t) (.int y u))) _ _ _
    refine wpAny_holding (wpAny_dictSet_pairs (hsz := by rw [sizeLine_eq]; first | decide | omega) (intKind_is _ _ _ _) hD' fun h₂ hD₂ hs₂ => ?_)
    refine wpAny_pure ⟨plainId_quiet plain_update_loop _, ?_⟩
    refine ih (i + 1) (j + 1) h₂ _ (stored kvs x (.int y u)) (by omega) hlt ?_ ?_ hD₂ ?_ ?_
    · exact fun b o hb hb' e => (hs₂.2 b hb).trans (hk' b o (by simpa using hb') (keep b o hb hb' e))
    · exact hst'.1.extBut hs₂.extBut (Ne.symm hDI)
    · rw [pairsD_take hc, (code_split g2 g3).1, (code_split g2 g3).2]
      exact hIV.stored _ _ _
    · have := stored_length_le kvs x (Value.int y u); omega
variable {h₀ : Heap} {L : Addr} {m : Str → Option Value}
theorem d_pairs {l : Addr} {vs : List Value} {n : Nat} {codes : List Int} {Q : Value → Shared → Prop} (hh : A.handled = none) (F : Fr h₀ L s.heap m) (N : News h₀ L s.heap news) (hm : (l, listOf vs.toArray n) ∈ news) (hv : LV (TV news) vs codes) (hbig : sysModules < h₀.objs.size) (hlen : codes.length ≤ 1000)
    (h : ∀ D o' kvs h' tk, Fr h₀ L h' m → News h₀ L h' ((D, o') :: news) → (∀ q ∈ news, q.1 < D) → o'.IsDictOf (intKind PROG w) kvs → (D == sysModules) = false → IV kvs (pairsD codes) → Q (.ref D) { s with heap := h', toks := tk }) :
    wpAny (model PROG w) A (call (.type "dict") [.ref l]) Q E s := by
  have hlo := N.get hm
  have hll := Heap.lt_size hlo
  refine callType_codes (Q₁ := fun obj s₁ => obj = .ref s.heap.objs.size ∧ s₁ = { s with heap := s.heap.push emptyO }) PySem.F.kt_called_dict (PySem.F.kt_typeCall_dict_1 _) PySem.F.entry_dict_init (kt_code_dict_new _ ⟨rfl, rfl⟩) ?_
  rintro obj s₁ ⟨rfl, rfl⟩
  have hnew : (s.heap.push emptyO).DictOf (intKind PROG w) s.heap.objs.size [] := Heap.DictOf.new s.heap
  have hlo' : (s.heap.push emptyO).get? l = some (listOf vs.toArray n) := Heap.get?_push_of_some _ hlo
  refine ⟨hnew.typeIs, PySem.F.args_dict_init_2 _ _, ?_⟩
  unfold Builtin.«dict.__init__»
  refine wpAny_bind ?_
  unfold Builtin.Dict.selfAndRest
  refine wpAny_bind (wpAny_notOrdered_dict hnew.typeIs ?_)
  show wpAny _ _ (pure (s.heap.objs.size, [Value.ref l])) _ _ _
  refine wpAny_pure ?_
  show wpAny _ _ (Builtin.Dict.updateFrom "dict.__init__" s.heap.objs.size (.ref l) [] .none) _ _ _
  unfold Builtin.Dict.updateFrom
  refine wpAny_bind (wpAny_typeOf (T := "list") ⟨_, hlo', rfl⟩ ?_)
  rw [if_pos (by decide)]
  refine wpAny_bind (getAttr?_miss_list (hsz := by size_fits) hlo' miss_keys (by decide +kernel) hh fun h1 tk1 hk1 => ?_)
  rw [if_pos (by rfl)]
  refine wpAny_bind (wpAny_rule ?_)
  refine wpAny_bind ?_
  have hl1 : h1.get? l = some (listOf vs.toArray n) := hk1 _ _ hlo'
  refine wpAny_pyIter_list ⟨_, hl1, rfl, n, rfl⟩ ?_
  have hsz1 : s.heap.objs.size < h1.objs.size := by
    have := hk1 _ _ (Heap.get?_push_size s.heap rfl : (s.heap.push emptyO).get? s.heap.objs.size = some emptyO)
    exact Heap.lt_size this
  refine wpAny_pure ⟨plainId_quiet plain_update_loop _, ?_⟩
  have keep1 : ∀ b o, s.heap.get? b = some o → (h1.push { cls := .type "list_iterator", data := .fields #[.ref l, .int 0 0] }).get? b = some o := fun b o e => Heap.get?_push_of_some _ (hk1 _ _ (Heap.get?_push_of_some _ e))
  have hD1 : (h1.push { cls := .type "list_iterator", data := .fields #[.ref l, .int 0 0] }).DictOf (intKind PROG w) s.heap.objs.size [] := by
    obtain ⟨o, es, ep, ho, r⟩ := hnew
    exact ⟨o, es, ep, Heap.get?_push_of_some _ (hk1 _ _ ho), r⟩
  refine pairs_loop (A := A.in1) (news := news) (s₀ := { s with heap := h1.push { cls := .type "list_iterator", data := .fields #[.ref l, .int 0 0] }, toks := tk1 }) (D := s.heap.objs.size) (I := h1.objs.size) (l := l) (items := vs) hh ⟨_, keep1 _ _ hlo, rfl, n, rfl⟩ hv ?_ (Nat.ne_of_lt hll) (Nat.ne_of_lt (Nat.lt_trans hll hsz1)) (Nat.ne_of_lt hsz1) hlen ?_ codes.length 0 0 _ _ [] rfl (Nat.zero_le _) (fun _ _ _ _ e => e) ⟨_, Heap.get?_push_size _ rfl, rfl, rfl⟩ hD1 .nil (Nat.le_refl _)
  · intro p hp
    have := Heap.lt_size (N p hp).1
    exact ⟨keep1 _ _ (N p hp).1, Nat.ne_of_lt this, Nat.ne_of_lt (Nat.lt_trans this hsz1)⟩
  · intro h' tk kvs hk hD hIV
    obtain ⟨o', ho', hd'⟩ := Heap.dictOf_iff.mp hD
    have keep : ∀ b o, s.heap.get? b = some o → h'.get? b = some o := fun b o e => by
      have := Heap.lt_size e
      exact hk b o (Nat.ne_of_lt this) (Nat.ne_of_lt (Nat.lt_trans this hsz1)) (keep1 b o e)
    refine ⟨rfl, h s.heap.objs.size o' kvs h' tk (F.keeps keep) (fun p hp => ?_) (fun q hq => Heap.lt_size (N q hq).1) hd' (F.notModules hbig) hIV⟩
    rcases List.mem_cons.mp hp with rfl | hp
    · exact ⟨ho', (News.push F N emptyO rfl (s.heap.objs.size, emptyO) (List.Mem.head _)).2⟩
    · exact ⟨keep _ _ (N p hp).1, (N p hp).2⟩
end

section
variable {A : Around} {s : Shared} {h₀ : Heap} {L : Addr} {news : List (Addr × Obj)} {R R' : Value → Int → Prop}
theorem dd_hits (he : EqR A s R R') {kb : List (Int × Value)} {cb : List (Int × Int)} (hb : DV R' kb cb) : ∀ {ka : List (Int × Value)} {ca : List (Int × Int)}, DV R ka ca → (∀ p ∈ ca, at? cb p.1 = some p.2) → KeqHits A s kb ka true
  | _, _, .nil, _ => .nil
  | _, _, .cons (i := i) hv ha, h => by
    obtain ⟨y, hy, hr⟩ := hb.valueAt_some (h _ (.head _))
    have e := he _ _ _ _ hv hr
    rw [decide_eq_true rfl] at e
    exact KeqHits.hit (e := true) (b := true) hy e (dd_hits he hb ha fun p hp => h p (.tail _ hp))
theorem dd_len {ca cb : List (Int × Int)} (na : (ca.map (·.1)).Nodup) (nb : (cb.map (·.1)).Nodup) (h : ∀ k, at? ca k = at? cb k) : ca.length = cb.length := by
  have := (perm_of_mem na nb fun k => by rw [at?_keys, at?_keys, h k]).length_eq
  simpa using this
end
section
variable {prog : Program} {w : World} {A : Around} {E : Value → Shared → Prop} {s : Shared} {h₀ : Heap} {L : Addr} {m : Str → Option Value} {news : List (Addr × Obj)} {R R' : Value → Int → Prop}
theorem dd_eq {a b : Addr} {oa ob : Obj} {ka kb : List (Int × Value)} {ca cb : List (Int × Int)} {Q : Value → Shared → Prop} (N : News h₀ L s.heap news) (pa : (a, oa) ∈ news) (pb : (b, ob) ∈ news) (da : oa.IsDictOf (intKind prog w) ka) (db : ob.IsDictOf (intKind prog w) kb) (la : (a == sysModules) = false) (lb : (b == sysModules) = false)
    (ha : DV R ka ca) (hb : DV R' kb cb) (he : EqR A.in1 s R R') (hu : A.units < cLine) (hsame : ∀ k, at? ca k = at? cb k) (h : Q (.bool true) s) : wpAny (model prog w) A (compareOp .Eq (.ref a) (.ref b)) Q E s := by
  have na := ha.nodup (IsDictOf_nodup da)
  exact keq_pairs N pa pb da db la lb (by rw [ha.length, hb.length]; exact dd_len na (hb.nodup (IsDictOf_nodup db)) hsame) hu (dd_hits he hb ha fun p hp => by rw [← hsame]; exact at?_of_mem na hp) h
theorem dd_ne {a b : Addr} {oa ob : Obj} {ka kb : List (Int × Value)} {ca cb : List (Int × Int)} {Q : Value → Shared → Prop} (N : News h₀ L s.heap news) (pa : (a, oa) ∈ news) (pb : (b, ob) ∈ news) (da : oa.IsDictOf (intKind prog w) ka) (db : ob.IsDictOf (intKind prog w) kb) (la : (a == sysModules) = false) (lb : (b == sysModules) = false)
    (ha : DV R ka ca) (hb : DV R' kb cb) (he : EqR A.in1 s R R') (hu : A.units < cLine) (hsame : ∀ k, at? ca k = at? cb k) (h : Q (.bool false) s) : wpAny (model prog w) A (compareOp .NotEq (.ref a) (.ref b)) Q E s := by
  have na := ha.nodup (IsDictOf_nodup da)
  exact kne_pairs N pa pb da db la lb (by rw [ha.length, hb.length]; exact dd_len na (hb.nodup (IsDictOf_nodup db)) hsame) hu (dd_hits he hb ha fun p hp => by rw [← hsame]; exact at?_of_mem na hp) h
/-- two tuples of the ledger compared -/
theorem tt_ne {v v' : Value} {c c' : Int} {Q : Value → Shared → Prop} (N : News h₀ L s.heap news) (hu : A.units < cLine) (h1 : TV news v c) (h2 : TV news v' c') (h : Q (.bool (!decide (c = c'))) s) : wpAny (model prog w) A (compareOp .NotEq v v') Q E s := by
  obtain ⟨a, x, y, t, u, rfl, hm, g0, g1, g2, g3, rfl⟩ := h1
  obtain ⟨a', x', y', t', u', rfl, hm', g0', g1', g2', g3', rfl⟩ := h2
  refine SeqAt.RcNeAt.tuples (A := A) (s := s) (e := fun j => if j = 0 then x == x' else y == y') (⟨_, N.get hm, rfl, _, rfl⟩ : s.heap.IsTuple a #[.int x t, .int y u]) (⟨_, N.get hm', rfl, _, rfl⟩ : s.heap.IsTuple a' #[.int x' t', .int y' u']) hu (by
      intro j k1 k2
      have : j = 0 ∨ j = 1 := by simp at k1; omega
      rcases this with rfl | rfl
      · exact SeqAt.EqAt.int_int _ _ _ _
      · exact SeqAt.EqAt.int_int _ _ _ _) prog w E Q ?_
  have e : ((List.range (min (#[Value.int x t, .int y u] : Array Value).size (#[Value.int x' t', .int y' u'] : Array Value).size)).all (fun j => if j = 0 then x == x' else y == y') && (#[Value.int x t, .int y u] : Array Value).size == (#[Value.int x' t', .int y' u'] : Array Value).size) = decide (x * 65536 + y = x' * 65536 + y') := by
    rw [Bool.eq_iff_iff, decide_eq_true_eq]
    simp [List.range, List.range.loop]
    constructor
    · rintro ⟨rfl, rfl⟩; rfl
    · intro e; exact code_inj g2 g3 g2' g3' e
  rw [e]; exact h
theorem tt_ne2 {v v' : Value} {c c' : Int} {Q : Value → Shared → Prop} (N : News h₀ L s.heap news) (hu : A.units < cLine) (h1 : TV news v c) (h2 : TV news v' c') (ht : c = c' → Q (.bool false) s) (hn : ¬c = c' → Q (.bool true) s) : wpAny (model prog w) A (compareOp .NotEq v v') Q E s := tt_ne N hu h1 h2 (not_cases ht hn)
/-- an item of a list of the ledger -/
theorem ll_get {value slice : PySem.Expr} {l : Addr} {vs : List Value} {cs : List Int} {n : Nat} {k : Int} {u : Tok} {x : Int} {Q : Value → Shared → Prop} (N : News h₀ L s.heap news) (hm : (l, listOf vs.toArray n) ∈ news) (hv : LV R vs cs) (h0 : 0 ≤ k) (hk : cs[k.toNat]? = some x) (hfit : k < 2 ^ 63) (h : ∀ v, R v x → Q v s)
    (hs : subscripted slice false (.ref l) (.int k u) = operate [.ref l, .int k u] (getItem (.ref l) (.int k u)) := by with_unfolding_all rfl) :
    wpAny (model prog w) A (subscriptTail value slice (.ref l) (.int k u)) Q E s := by
  obtain ⟨v, hx, hr⟩ := hv.get' hk
  exact tail_any (⟨_, N.get hm, rfl⟩ : s.TypeIs (.ref l) "list") slot_list_getitem.lookup (wpAny_getItem_list ⟨_, N.get hm, rfl, n, rfl⟩ h0 hfit (by simpa using hx) (h v hr)) hs
theorem d_get2R {d : Addr} {o : Obj} {kvs : List (Int × Value)} {c : List (Int × Int)} {k : Int} {t : Tok} {dv : Value} {d0 : Int} {Q : Value → Shared → Prop} (N : News h₀ L s.heap news) (hp : (d, o) ∈ news) (hd : o.IsDictOf (intKind prog w) kvs) (lo : (d == sysModules) = false) (hDV : DV R kvs c) (hr : R dv d0)
    (h : ∀ v tk, R v ((at? c k).getD d0) → Q v { s with toks := tk }) : wpAny (model prog w) A (call (.builtin "dict.get") [.ref d, .int k t, dv]) Q E s := by
  refine kdg_get2 N hp hd lo (intKind_is _ _ _ _) _ rfl ?_
  rcases hDV.valueAt k with ⟨v, i, e, e', r⟩ | ⟨e, e'⟩
  · rw [e]; exact h _ _ (by rw [e']; exact r)
  · rw [e]; exact h _ _ (by rw [e']; exact hr)
theorem d_copy {d : Addr} {o : Obj} {kvs : List (Int × Value)} {Q : Value → Shared → Prop} (F : Fr h₀ L s.heap m) (N : News h₀ L s.heap news) (hp : (d, o) ∈ news) (hd : o.IsDictOf (intKind prog w) kvs) (lo : (d == sysModules) = false) (hbig : sysModules < h₀.objs.size) (hsz : kvs.length ≤ 1000)
    (h : ∀ D o' h', Fr h₀ L h' m → News h₀ L h' ((D, o') :: news) → (∀ q ∈ news, q.1 < D) → o'.IsDictOf (intKind prog w) kvs → (D == sysModules) = false → Q (.ref D) { s with heap := h' }) :
    wpAny (model prog w) A (call (.type "dict") [.ref d]) Q E s := by
  refine kt_call_dict lo (kda_dict N hp hd) (by rw [sizeLine_eq]; first | decide | omega) fun h' hm hs => ?_
  obtain ⟨o', ho', hd'⟩ := Heap.dictOf_iff.mp hm
  have N1 := News.push F N { cls := .type "dict", data := .dict #[] }
  exact h _ o' h' ((F.push _).change hs (N1 _ (.head _)).2.1 (N1.fresh (.head _))) (N1.setHead N.apart hs ho') (fun q hq => Heap.lt_size (N q hq).1) hd' (F.notModules hbig)
theorem d_list {d : Addr} {o : Obj} {kvs : List (Int × Value)} {Q : Value → Shared → Prop} (hh : A.handled = none) (F : Fr h₀ L s.heap m) (N : News h₀ L s.heap news) (hp : (d, o) ∈ news) (hd : o.IsDictOf (intKind prog w) kvs) (lo : (d == sysModules) = false) (hsz : kvs.length ≤ 1000)
    (h : ∀ D vs c h' tk, Fr h₀ L h' m → News h₀ L h' ((D, listOf vs.toArray c) :: news) → (∀ q ∈ news, q.1 < D) → IntsAre vs (kvs.map (·.1)) → Q (.ref D) { s with heap := h', toks := tk }) :
    wpAny (model prog w) A (call (.type "list") [.ref d]) Q E s := by
  obtain ⟨ep, hat⟩ := (kda_dict N hp hd).dictAt
  exact kdl_N (kdl_dict (knd := intKind prog w) (kvs := kvs) (ep := ep) lo) hh F N hat (by rw [sizeLine_eq]; first | decide | omega) fun D c h' tk vs F' N' l1 hl hv => h D vs c h' tk F' N' l1 (ints_keys hl hv)

theorem entry_contains_iter : entryFor table "proto.contains_iter" = some Builtin.«proto.contains_iter» := entryFor_of_fast (by kernel_rfl)
theorem plain_contains_iter : plainId "proto.contains_iter" = true := by decide +kernel
theorem values_no_contains : typeLookup (.type "dict_values") "__contains__" = pure none := by rw [typeLookup_type, builtinLookup_eq_fast]; kernel_rfl
theorem iter_notin {I : Addr} {fp wr : List Addr} {n : Nat} {P : Nat → Value → Prop} {St : Nat → Heap → Prop} (W : Walks prog w A.in1 I fp wr n P St) {x : Value} {R : Result → Shared → Prop} (hx : ∀ j v s', P j v → SeqAt.EqAt A.in1 s' v x false) (s₀ : Shared)
    (hR : ∀ h' tk, (∀ b o, b ∉ wr → s₀.heap.get? b = some o → h'.get? b = some o) → R (.ok (.ret (.bool false))) { s₀ with heap := h', toks := tk }) :
    ∀ (k i : Nat) (h : Heap) (tk : Nat), n - i = k → i ≤ n → St i h → (∀ b o, b ∉ wr → s₀.heap.get? b = some o → h.get? b = some o) →
      codeAny (model prog w) A (.builtin "proto.contains_iter" ⟨[.ref I, x], []⟩) R { s₀ with heap := h, toks := tk } := by
  intro k
  induction k with
  | zero =>
    intro i h tk hk hi st keep
    obtain rfl : i = n := by omega
    refine codeAny_builtin entry_contains_iter ?_
    rw [Around.under_plainId plain_contains_iter _]
    show wpAny _ _ (pyNext (.ref I) >>= _) _ _ _
    refine wpAny_bind (W.done _ _ _ st fun h' tk' hk' => ?_)
    exact wpAny_bind (wpAny_rule (wpAny_pure (hR h' tk' fun b o hb e => hk' b o hb (keep b o hb e))))
  | succ k ih =>
    intro i h tk hk hi st keep
    refine codeAny_builtin entry_contains_iter ?_
    rw [Around.under_plainId plain_contains_iter _]
    show wpAny _ _ (pyNext (.ref I) >>= _) _ _ _
    refine wpAny_bind (W.item i _ _ _ (by omega) st fun v h' tk' hv st' hk' => ?_)
    show wpAny _ _ (eqBool v x >>= _) _ _ _
    refine wpAny_bind (hx i v _ hv prog w _ _ ?_)
    exact wpAny_pure ⟨plainId_quiet plain_contains_iter _, ih (i + 1) h' tk' (by omega) (by omega) st' fun b o hb e => hk' b o hb (keep b o hb e)⟩
theorem vals_notin {v d : Addr} {o : Obj} {kvs : List (Int × Value)} {c : List (Int × Int)} {k : Int} {t : Tok} {Q : Value → Shared → Prop} (hh : A.handled = none) (F : Fr h₀ L s.heap m) (N : News h₀ L s.heap news) (hv : (v, { cls := .type "dict_values", data := .fields #[.ref d] }) ∈ news) (hp : (d, o) ∈ news) (hd : o.IsDictOf (intKind prog w) kvs) (hIV : IV kvs c) (hne : ∀ p ∈ c, p.2 ≠ k)
    (h : ∀ h' tk, Fr h₀ L h' m → News h₀ L h' news → Q (.bool true) { s with heap := h', toks := tk }) : wpAny (model prog w) A (compareOp .NotIn (.int k t) (.ref v)) Q E s := by
  have hvo := N.get hv
  have hT : s.TypeIs (.ref v) "dict_values" := ⟨_, hvo, rfl⟩
  obtain ⟨ep, hat⟩ := (kda_dict N hp hd).dictAt
  show wpAny _ _ (do return .bool (!(← contains (.ref v) (.int k t)))) Q E s
  refine wpAny_bind ?_
  unfold contains
  try with_reducible refine wpAny_holding ?_
  refine wpAny_bind (wpAny_specialOf hT values_no_contains ?_)
  show wpAny _ _ (if (none == some Value.none) = true then _ else _) _ E s
  rw [if_neg (by decide)]
  refine wpAny_bind (wpAny_callSpecialUnlessNone?_none hT values_no_contains ?_)
  refine wpAny_bind (wpAny_rule ?_)
  refine wpAny_bind (wpAny_tryCatch ?_)
  have K := kdl_values (prog := prog) (w := w) (knd := intKind prog w) (r := v) (d := d) (kvs := kvs) (ep := ep)
  obtain ⟨oI, St, hit, W, st⟩ := K.iter A.in1 s hh ⟨⟨_, hvo, rfl, rfl⟩, hat⟩
  refine wpAny_of_in1 (hit _ _ ?_)
  refine wpAny_bind (wpAny_runValue ?_)
  refine iter_notin (A := A) W (x := .int k t) ?_ { s with heap := s.heap.push oI } ?_ kvs.length 0 _ s.toks rfl (Nat.zero_le _) st (fun _ _ _ e => e)
  · rintro j u s' ⟨k', hj⟩
    obtain ⟨i, t', rfl, hc⟩ := hIV.get hj
    have := SeqAt.EqAt.int_int (A := A.in1) (s := s') i t' k t
    rwa [show (i == k) = false from by
      have := hne _ (List.mem_of_getElem? hc)
      simpa using this] at this
  · intro h' tk hk
    have keep : ∀ b o, s.heap.get? b = some o → h'.get? b = some o := fun b o e =>
      hk b o (fun hb => absurd (Heap.lt_size e) (by rw [List.mem_singleton.mp hb]; exact Nat.lt_irrefl _)) (Heap.get?_push_of_some _ e)
    exact wpAny_pure (wpAny_pure (h h' tk (F.keeps keep) fun p hp => ⟨keep _ _ (N p hp).1, (N p hp).2⟩))
end

section AroundMAC
local macro_rules | `(tactic| walk_at "getItem ref int") => `(tactic| (k_here; k_dflt (refine' d_getItem ?k1 ?k2 ?k3 ?k4 ?_; (case k1 => k_asm); (case k2 => k_mem); (case k3 => with_reducible assumption); (case k4 => with_reducible assumption); intro _)))
local macro_rules | `(tactic| walk_at "subscriptTail Attribute Name ref int") => `(tactic| (k_here; k_dflt (refine' d_item ?k1 ?k2 ?k3 ?k4 ?_; (case k1 => k_asm); (case k2 => k_mem); (case k3 => with_reducible assumption); (case k4 => with_reducible assumption); intro _)))
local macro_rules | `(tactic| walk_at "subscriptTail Name Name ref int") => `(tactic| (k_here; k_dflt (refine' d_item ?k1 ?k2 ?k3 ?k4 ?_; (case k1 => k_asm); (case k2 => k_mem); (case k3 => with_reducible assumption); (case k4 => with_reducible assumption); intro _)))
local macro_rules | `(tactic| walk_at "subscriptTail Name Subscript ref int") => `(tactic| (k_here; k_dflt (refine' d_item ?k1 ?k2 ?k3 ?k4 ?_; (case k1 => k_asm); (case k2 => k_mem); (case k3 => with_reducible assumption); (case k4 => with_reducible assumption); intro _)))
local macro_rules | `(tactic| walk_at "subscriptTail Name UnaryOp ref int") => `(tactic| (k_here; k_dflt (refine' l_last ?k1 ?k2 ?k3 ?k4 ?_; (case k1 => k_asm); (case k2 => k_mem); (case k3 => with_reducible assumption); (case k4 => assumption); intro _)))
local macro_rules | `(tactic| walk_at "subscriptTail Name Name ref int") => `(tactic| (k_here; k_dflt (refine' l_item ?k1 ?k2 ?k3 ?k4 ?k5 ?k6 ?_; (case k1 => k_asm); (case k2 => k_mem); (case k3 => with_reducible assumption); (case k4 => omega); (case k5 => with_reducible assumption); (case k6 => omega); intro _)))
local macro_rules | `(tactic| walk_at "setItem ref int") => `(tactic| (k_here; k_dflt (refine' kda_set (knd := PySem.intKind _ _) ?F ?N ?U ?d (intKind_is _ _ _ _) ?z ?_; (case F => k_asm); (case N => k_asm); (case U => k_updF); (case d => with_reducible assumption); (case z => rw [sizeLine_eq]; first | decide | omega)); intro h' o' F' N' hd'; (try dsimp only at N')))
local macro_rules | `(tactic| walk_at "call builtin:sorted") => `(tactic| (k_here; k_dflt (refine' d_sorted ?hh ?F ?N ?p ?d ?lo ?z ?_; (case hh => exact rfl); (case F => k_asm); (case N => k_asm); (case p => k_mem); (case d => with_reducible assumption); (case lo => assumption); (case z => first | decide | omega)); intro D' v' n' c' h' tk' F' N' l1 i' e' p' o'; (try k_lt l1)))
local macro_rules | `(tactic| k_room) => `(tactic| (simp only [depth_under_make, depth_under_kw, depth_in1, depth_deeper, depth_caller, ktrTop]; first | ((with_reducible rename (@LT.lt Nat _ _ recursionLimit) => hq); first | exact lt_room 0 hq | exact lt_room 1 hq | exact lt_room 2 hq | exact lt_room 3 hq | exact lt_room 4 hq | exact lt_room 5 hq | exact lt_room 6 hq | exact lt_room 7 hq | exact lt_room 8 hq | exact lt_room 9 hq | exact lt_room 10 hq | exact lt_room 11 hq | exact lt_room 12 hq | exact lt_room 13 hq) | omega | (simp only [recursionLimit]; first | decide | omega)))
local macro_rules | `(tactic| k_units) => `(tactic| (simp only [units_in1, units_deeper, Around.mark_units, units_caller, ktrTop]; first | ((with_reducible rename (@LT.lt Nat _ _ cLine) => hq); first | exact lt_room 57 hq | exact lt_room 56 hq | exact lt_room 86 hq | exact lt_room 17 hq | exact lt_room 21 hq | exact lt_room 87 hq | exact lt_room 36 hq | exact lt_room 37 hq | exact lt_room 27 hq | exact lt_room 47 hq | exact lt_room 41 hq) | omega | (simp only [cLine]; first | decide | omega)))
local macro_rules | `(tactic| k_mem) => `(tactic| (first | exact mem_nth 0 rfl | exact mem_nth 1 rfl | exact mem_nth 2 rfl | exact mem_nth 3 rfl | exact mem_nth 4 rfl | exact mem_nth 5 rfl | exact mem_nth 6 rfl | exact mem_nth 7 rfl | exact mem_nth 8 rfl | exact mem_nth 9 rfl | exact mem_nth 10 rfl | exact mem_nth 11 rfl | exact mem_nth 12 rfl | exact mem_nth 13 rfl | exact mem_nth 14 rfl | exact mem_nth 15 rfl | exact mem_nth 16 rfl | exact mem_nth 17 rfl | exact mem_nth 18 rfl | exact mem_nth 19 rfl | exact mem_nth 20 rfl | exact mem_nth 21 rfl | exact mem_nth 22 rfl | exact mem_nth 23 rfl | exact mem_nth 24 rfl | exact mem_nth 25 rfl | exact mem_nth 26 rfl | exact mem_nth 27 rfl | exact mem_nth 28 rfl | exact mem_nth 29 rfl | exact mem_nth 30 rfl | exact mem_nth 31 rfl))
local macro_rules | `(tactic| k_ne) => `(tactic| (refine neN ?_; (first | with_reducible assumption | exact Ne.symm (by with_reducible assumption) | exact Nat.ne_of_lt (by with_reducible assumption) | exact Nat.ne_of_gt (by with_reducible assumption) | ((repeat ((with_reducible rename (AllLt _ _) => hq); (first | (refine ne_hi hq ?_; k_mem) | (refine ne_lo hq ?_; k_mem) | (refine ne_via hq ?_ (by with_reducible assumption); k_mem) | (refine ne_via' hq ?_ (by with_reducible assumption); k_mem) | (refine ne_hiN hq 1 ?_; k_mem) | (refine ne_hiN hq 2 ?_; k_mem) | (refine ne_hiN hq 3 ?_; k_mem) | (refine ne_hiN hq 4 ?_; k_mem) | (refine ne_hiN hq 5 ?_; k_mem) | (refine ne_loN hq 1 ?_; k_mem) | (refine ne_loN hq 2 ?_; k_mem) | (refine ne_loN hq 3 ?_; k_mem) | (refine ne_loN hq 4 ?_; k_mem) | (refine ne_loN hq 5 ?_; k_mem) | clear hq))); done) | exact ne_s1 | exact ne_s1.symm | exact ne_s2 | exact ne_s2.symm | exact ne_s3 | exact ne_s3.symm | exact ne_s4 | exact ne_s4.symm)))
local macro_rules | `(tactic| tbn_find) => `(tactic| ((repeat ((with_reducible rename (AllLt _ _) => hq); (first | exact hq | exact allLt_tail hq 1 rfl | exact allLt_tail hq 2 rfl | exact allLt_tail hq 3 rfl | exact allLt_tail hq 4 rfl | exact allLt_tail hq 5 rfl | exact allLt_tail hq 6 rfl | exact allLt_tail hq 7 rfl | exact allLt_tail hq 8 rfl | exact allLt_tail hq 9 rfl | exact allLt_tail hq 10 rfl | exact allLt_tail hq 11 rfl | exact allLt_tail hq 12 rfl | exact allLt_tail hq 13 rfl | exact allLt_tail hq 14 rfl | exact allLt_tail hq 15 rfl | exact allLt_tail hq 16 rfl | exact allLt_tail hq 17 rfl | exact allLt_tail hq 18 rfl | exact allLt_tail hq 19 rfl | exact allLt_tail hq 20 rfl | exact allLt_tail hq 21 rfl | exact allLt_tail hq 22 rfl | exact allLt_tail hq 23 rfl | exact allLt_tail hq 24 rfl | clear hq))); done))
local macro_rules | `(tactic| tbn_below) => `(tactic| ((try dsimp only); (repeat ((with_reducible rename (AllLt _ _) => hq); (first | (refine lt_hi hq ?_; k_mem) | (refine lt_via hq ?_ (by with_reducible assumption); k_mem) | clear hq))); done))
local macro_rules | `(tactic| k_lt $h:ident) => `(tactic| replace $h := allLt_of $h)
local macro_rules | `(tactic| k_all) => `(tactic| (first | (refine allLt_ne ?_; tbn_find) | (tbn_letter; with_reducible assumption) | ((fail_if_success tbn_letter); first | (refine' List.forall_mem_cons.mpr ⟨?a, ?b⟩; (case a => k_ne); (case b => k_all)) | exact List.forall_mem_nil _) | (tbn_letter; refine allLt_ne (allLt_mono (Nat.le_of_lt (by with_reducible assumption)) ?_); tbn_find)))
inductive JPlaces (w : World) (m₀ : Str → Option Value) (pd : Addr) (rest : List (Addr × Obj)) (es : List Int) (i : Nat) : (Str → Option Value) → List (Addr × Obj) → Prop
  | mk (u : Option Value) (oP : Obj) (kvs : List (Int × Value)) (c : List (Int × Int)) (hd : oP.IsDictOf (intKind PROG w) kvs) (hv : IV kvs c) (hl : kvs.length ≤ i) (hat : ∀ j y, j < i → es[j]? = some y → at? c y = some (j : Int)) : JPlaces w m₀ pd rest es i (fun y => if y = Str.ofString "spot" then u else m₀ y) ((pd, oP) :: rest)
theorem JPlaces.of {w : World} {m₀ m : Str → Option Value} {pd : Addr} {rest : List (Addr × Obj)} {es : List Int} {i : Nat} {oP : Obj} {kvs : List (Int × Value)} {c : List (Int × Int)} (hm : ∃ u, m = fun y => if y = Str.ofString "spot" then u else m₀ y) (hd : oP.IsDictOf (intKind PROG w) kvs) (hv : IV kvs c) (hl : kvs.length ≤ i) (hat : ∀ j y, j < i → es[j]? = some y → at? c y = some (j : Int)) : JPlaces w m₀ pd rest es i m ((pd, oP) :: rest) := by
  obtain ⟨u, rfl⟩ := hm; exact ⟨u, oP, kvs, c, hd, hv, hl, hat⟩
inductive JPack (m₀ : Str → Option Value) (srt : Addr × Obj) (el : Addr) (rest : List (Addr × Obj)) (ns : List Int) (i : Nat) : (Str → Option Value) → List (Addr × Obj) → Prop
  | mk (u : Option Value) (evs : List Value) (ne : Nat) (h : IntsAre evs ((ns.take i).foldl packStep [0])) : JPack m₀ srt el rest ns i (fun y => if y = Str.ofString "number" then u else m₀ y) (srt :: (el, listOf evs.toArray ne) :: rest)
theorem JPack.of {m₀ m : Str → Option Value} {srt : Addr × Obj} {el : Addr} {rest : List (Addr × Obj)} {ns : List Int} {i : Nat} {evs : List Value} {ne : Nat} (hm : ∃ u, m = fun y => if y = Str.ofString "number" then u else m₀ y) (h : IntsAre evs ((ns.take i).foldl packStep [0])) : JPack m₀ srt el rest ns i m (srt :: (el, listOf evs.toArray ne) :: rest) := by
  obtain ⟨u, rfl⟩ := hm; exact ⟨u, evs, ne, h⟩

section Packed



set_option maxRecDepth 100000 in
set_option maxHeartbeats 0 in
theorem packed_c (w : World) : PySem.Challenge.rw_nu0148_01 = PySem.Challenge.rw_nu0148_01 →
  ∀ (loose : List Str) (mean : ExcName → Option Value) (mg mb : Str → Option Value)
  (dp un : Nat) (gd : Option (List Code)) (cn : Str) (cs : Scope) (a : Addr) (ccd : Value) (cl : List (Str × Addr)) (outer : List Env) (A₀ : Around) (base h₀ : Heap) (L : Addr) (m : Str → Option Value) (s : Shared) (Q E : Value → Shared → Prop)
  (X D d : Addr) (t1 : Tok) (od : Obj) (kvs : List (Int × Value)) (c : List (Int × Int)) (rest : List (Addr × Obj)),
  Below A₀ base outer h₀ → Fr h₀ L s.heap m → (hd.heap_39 w.params).In h₀ →
  News h₀ L s.heap ((X, instObj 66 D) :: (D, clsDict w t1 (.ref d)) :: (d, od) :: rest) →
  Top hd.view_39 loose mean mg mb h₀ → cs.kind = .function → dp + 3 < recursionLimit → un + 16 < cLine →
  od.IsDictOf (intKind PROG w) kvs → (d == sysModules) = false → IV kvs c → kvs.length ≤ 60 → (∀ p ∈ c, 0 < p.2) →
  (∀ T X' D' t1' d' od' kvs' c' El evs ne es h' tk', Fr h₀ L h' m → News h₀ L h' ((T, ({ cls := .type "tuple", data := .seq #[.ref X', .ref El] } : Obj)) :: (X', instObj 66 D') :: (D', clsDict w t1' (.ref d')) :: (d', od') :: (El, listOf evs.toArray ne) :: (X, instObj 66 D) :: (D, clsDict w t1 (.ref d)) :: (d, od) :: rest) →
    (∀ q ∈ (X, instObj 66 D) :: (D, clsDict w t1 (.ref d)) :: (d, od) :: rest, @LT.lt Nat _ q.1 T) → (∀ q ∈ (X, instObj 66 D) :: (D, clsDict w t1 (.ref d)) :: (d, od) :: rest, @LT.lt Nat _ q.1 X') → (∀ q ∈ (X, instObj 66 D) :: (D, clsDict w t1 (.ref d)) :: (d, od) :: rest, @LT.lt Nat _ q.1 D') →
    (∀ q ∈ (X, instObj 66 D) :: (D, clsDict w t1 (.ref d)) :: (d, od) :: rest, @LT.lt Nat _ q.1 d') → (∀ q ∈ (X, instObj 66 D) :: (D, clsDict w t1 (.ref d)) :: (d, od) :: rest, @LT.lt Nat _ q.1 El) →
    od'.IsDictOf (intKind PROG w) kvs' → (d' == sysModules) = false → IV kvs' c' → kvs'.length ≤ kvs.length → IntsAre evs es → es.length ≤ 61 → Packed c es c' → Q (.ref T) { s with heap := h', toks := tk' }) →
  wpAny (model PROG w) (ktrTop dp un gd cn cs L a ccd cl outer) (call (.ref 80) [.ref X]) Q E s := by
  w_top off
  k_fill
  intro _ loose mean mg mb dp un gd cn cs a ccd cl outer A₀ base h₀ L m s Q E X D d t1 od kvs c rest B F KX N T hk hdp hun hD lo hIV hlen hpos0 hret
  refine wpAny_call ?_
  k_dflt (refine' code_defC ?k1 ?k2 ?k3 ?k4 ?k5 ?kA ?kF ?kK ?k6 ?k7 ?k8 ?k9 ?kB ?kD ?_ ?c2 ?c3 ?c4; (case kA => exact rfl); (case kF => exact rfl); (case kK => assumption); (case k1 => k_asm); (case k2 => k_asm); (case k3 => k_asm); (case k4 => k_asm); (case k5 => k_asm); (case k6 => k_is); (case k7 => k_is); (case k8 => ktr_room); (case k9 => exact BindsTo.of_eq rfl); (case kB => exact rfl); (case kD => decide +kernel); (case c2 => exact rfl); (case c3 => exact rfl); (case c4 => exact rfl); k_whole; intro g' L' h' tk' cells' FG' F' N' Y' B' X' T' l1; (try k_lt l1); k_cells Y'; (try simp only [List.cons_append, List.nil_append] at N'); (try dsimp only); (try k_fold))
  (with_reducible rename (AllLt _ (_ :: _)) => l1E)
  have hr1 := allLt_ne1 l1E.2.2.2
  have hr2 := allLt_ne2 l1E.2.2.2
  (repeat' ((fail_if_success (with_reducible refine Stop.in ?_)); first | (k_unfold; (try dsimp only)) | (k_end; wrow_close) | ((with_reducible show wpAny _ _ (eval _ _) _ _ _); (first | with_reducible show wpAny _ _ (eval (Expr.ListComp _ _ _ _) _) _ _ _ | with_reducible show wpAny _ _ (eval (Expr.DictComp _ _ _ _ _) _) _ _ _); refine Stop.out ?_) | ((with_reducible show wpAny _ _ (exec _ _) _ _ _); (first | with_reducible show wpAny _ _ (exec (Stmt.Assign (_ :: _) (Expr.ListComp _ _ _ _) _) _) _ _ _); refine Stop.out ?_) | ((with_reducible show wpAny _ _ (pyIter _) _ _ _); (first | with_reducible show wpAny _ _ (pyIter (Value.ref _)) _ _ _); refine Stop.out ?_) |  walk1 | (dsimp only; walk1) | (leave1; walk_say "STEP leave1"; try dsimp only) | fail "no step"))
  refine Stop.in ?_
  have hnd := IsDictOf_nodup hD
  k_dflt (refine lc_eval (_F := by k_asm) (by with_unfolding_all rfl) (by decide) (by rfl) (by decide) (by rfl) ?_)
  (repeat' ((fail_if_success (with_reducible refine Stop.in ?_)); first | (k_unfold; (try dsimp only)) | (k_end; wrow_close) | ((with_reducible show wpAny _ _ (eval _ _) _ _ _); (first | with_reducible show wpAny _ _ (eval (Expr.ListComp _ _ _ _) _) _ _ _ | with_reducible show wpAny _ _ (eval (Expr.DictComp _ _ _ _ _) _) _ _ _); refine Stop.out ?_) | ((with_reducible show wpAny _ _ (exec _ _) _ _ _); (first | with_reducible show wpAny _ _ (exec (Stmt.Assign (_ :: _) (Expr.ListComp _ _ _ _) _) _) _ _ _); refine Stop.out ?_) | ((with_reducible show wpAny _ _ (pyIter _) _ _ _); (first | with_reducible show wpAny _ _ (pyIter (Value.ref _)) _ _ _); refine Stop.out ?_) |  walk1 | (dsimp only; walk1) | (leave1; walk_say "STEP leave1"; try dsimp only) | fail "no step"))
  refine LcAt.keep0 kvs.length _ _ _ _ (fun i ys => IntsAre ys ((c.take i).map (·.2))) (Src.dict d lo hD) (by with_unfolding_all rfl) (by k_asm) (by k_asm) trivial (by rw [sizeLine_eq]; first | decide | omega) ?_ .nil ?_ ?_
  · intro p hp
    rw [List.mem_singleton.mp hp]
    k_mem
  · intro i u ys I oI C oC Dl m₂ h tk E' hi hku hys; refine DIVAt.casesOn (divat hku hIV) ?_; intro k i' t t' hkx hci; intro hoC hmx F1 N1 off hIC hID hCD hyl
    have hval := valueAt_of_get hnd hkx
    (repeat' ((fail_if_success (with_reducible refine Stop.in ?_)); first | (k_unfold; (try dsimp only)) | (k_end; wrow_close) | ((with_reducible show wpAny _ _ (eval _ _) _ _ _); (first | with_reducible show wpAny _ _ (eval (Expr.ListComp _ _ _ _) _) _ _ _ | with_reducible show wpAny _ _ (eval (Expr.DictComp _ _ _ _ _) _) _ _ _); refine Stop.out ?_) | ((with_reducible show wpAny _ _ (exec _ _) _ _ _); (first | with_reducible show wpAny _ _ (exec (Stmt.Assign (_ :: _) (Expr.ListComp _ _ _ _) _) _) _ _ _); refine Stop.out ?_) | ((with_reducible show wpAny _ _ (pyIter _) _ _ _); (first | with_reducible show wpAny _ _ (pyIter (Value.ref _)) _ _ _); refine Stop.out ?_) |  walk1 | (dsimp only; walk1) | (leave1; walk_say "STEP leave1"; try dsimp only) | fail "no step"))
    exact PartEnd.intro _ F1 N1 (fun p hp => hp) off ⟨by rw [map_take_succ _ hci]; exact ints_snoc hys _ _⟩
  · have hcl := hIV.length
    intro h2 tk2 ys hys; intro Dl h3 tk3 hDl F3 N3 off3
    rw [List.take_of_length_le (by omega)] at hys
    try dsimp only
    (repeat' ((fail_if_success (with_reducible refine Stop.in ?_)); first | (k_unfold; (try dsimp only)) | (k_end; wrow_close) | ((with_reducible show wpAny _ _ (eval _ _) _ _ _); (first | with_reducible show wpAny _ _ (eval (Expr.ListComp _ _ _ _) _) _ _ _ | with_reducible show wpAny _ _ (eval (Expr.DictComp _ _ _ _ _) _) _ _ _); refine Stop.out ?_) | ((with_reducible show wpAny _ _ (exec _ _) _ _ _); (first | with_reducible show wpAny _ _ (exec (Stmt.Assign (_ :: _) (Expr.ListComp _ _ _ _) _) _) _ _ _); refine Stop.out ?_) | ((with_reducible show wpAny _ _ (pyIter _) _ _ _); (first | with_reducible show wpAny _ _ (pyIter (Value.ref _)) _ _ _); refine Stop.out ?_) |  walk1 | (dsimp only; walk1) | (leave1; walk_say "STEP leave1"; try dsimp only) | fail "no step"))
    rename_i el hA l1A hB D' v' n' c' h' F' N' i' e' p' o' b' p0 l1
    refine Stop.in ?_
    refine for_src (Src.list D' v'.toArray c') (JPack _ _ el _ n') (by with_unfolding_all rfl) F' (news_drop2 N') trivial ?hK (JPack.of (evs := [Value.int 0 _]) jm_start (.cons _ _ .nil)) ?turn ?done
    case hK => rintro i m nx ⟨_, evs, ne, _⟩ p hp; rw [List.mem_singleton.mp hp]; exact .head _
    case turn =>
      intro i u m₁ nx I oI h tk hi hu hz0; refine JPack.casesOn hz0 ?_; intro u₀ evs ne hev; refine IAt.casesOn (iat (i := i) (v := u) i' (by simpa using hu)) ?_; intro k t hk; intro hne F1 N1
      try k_fold
      have hes := pack_len n' i
      have hpos : 0 < ((n'.take i).foldl packStep [0]).length := by omega
      have hevl := hev.length
      have hnl : n'.length ≤ 60 := by rw [e', List.length_map]; omega
      have hi2 : i < n'.length := by have := i'.length; simpa [this] using hi
      have hE := packStep_take hk
      generalize (n'.take i).foldl packStep [0] = es at *
      have hIel := neNat (hne (el, _) (.tail _ (.head _)))
      (repeat' ((fail_if_success (with_reducible refine Stop.in ?_)); first | (k_unfold; (try dsimp only)) | (k_end; wrow_close) | ((with_reducible show wpAny _ _ (eval _ _) _ _ _); (first | with_reducible show wpAny _ _ (eval (Expr.ListComp _ _ _ _) _) _ _ _ | with_reducible show wpAny _ _ (eval (Expr.DictComp _ _ _ _ _) _) _ _ _); refine Stop.out ?_) | ((with_reducible show wpAny _ _ (exec _ _) _ _ _); (first | with_reducible show wpAny _ _ (exec (Stmt.Assign (_ :: _) (Expr.ListComp _ _ _ _) _) _) _ _ _); refine Stop.out ?_) | ((with_reducible show wpAny _ _ (pyIter _) _ _ _); (first | with_reducible show wpAny _ _ (pyIter (Value.ref _)) _ _ _); refine Stop.out ?_) |  walk1 | (dsimp only; walk1) | (leave1; walk_say "STEP leave1"; try dsimp only) | fail "no step"))
      · simp only [List.push_toArray] at *
        refine TurnEnd.intro _ (by k_asm) (by k_asm) (fun p hp => hp) (ne_upd2 hne) (.of jm_next ?_)
        rw [hE, packStep, if_neg (by assumption)]
        exact ints_snoc hev _ _
      · refine TurnEnd.intro _ (by k_asm) (by k_asm) (fun p hp => hp) hne (.of jm_next ?_)
        rw [hE, packStep, if_pos (by assumption)]
        exact hev
    intro m₁ nx h4 tk4 hz0; refine JPack.casesOn hz0 ?_; intro u₀ evs ne hev; intro F4 N4
    have hvl := i'.length
    rw [List.size_toArray, List.take_of_length_le (by omega)] at hev
    have hes := pack_len n' n'.length
    rw [List.take_of_length_le (Nat.le_refl _)] at hes
    have hnl : n'.length ≤ 60 := by rw [e', List.length_map]; omega
    generalize hG : n'.foldl packStep [0] = es at *
    have hpos := hes.1
    have hesl : es.length ≤ 61 := by omega
    have hevl := hev.length
    try dsimp only
    (repeat' ((fail_if_success (with_reducible refine Stop.in ?_)); first | (k_unfold; (try dsimp only)) | (k_end; wrow_close) | ((with_reducible show wpAny _ _ (eval _ _) _ _ _); (first | with_reducible show wpAny _ _ (eval (Expr.ListComp _ _ _ _) _) _ _ _ | with_reducible show wpAny _ _ (eval (Expr.DictComp _ _ _ _ _) _) _ _ _); refine Stop.out ?_) | ((with_reducible show wpAny _ _ (exec _ _) _ _ _); (first | with_reducible show wpAny _ _ (exec (Stmt.Assign (_ :: _) (Expr.ListComp _ _ _ _) _) _) _ _ _); refine Stop.out ?_) | ((with_reducible show wpAny _ _ (pyIter _) _ _ _); (first | with_reducible show wpAny _ _ (pyIter (Value.ref _)) _ _ _); refine Stop.out ?_) |  walk1 | (dsimp only; walk1) | (leave1; walk_say "STEP leave1"; try dsimp only) | fail "no step"))
    (with_reducible rename (IsRange _ _ _ _ _ _ _ _) => hR)
    refine Stop.in ?_
    obtain ⟨hP1, hP2, hP3⟩ := packed_of (hIV.nodup hnd) hpos0 p' o' hG
    (with_reducible rename (Obj.IsDictOf (intKind _ _) _ _) => hd0)
    refine for_src (Src.range (n := es.length) (rsmall (by first | decide | omega)) (rsize _)) (JPlaces w _ _ _ es) (by with_unfolding_all rfl) (by k_asm) (by k_asm) hR ?hK (JPlaces.of jm_start hd0 .nil (Nat.le_refl _) (fun _ _ h => absurd h (Nat.not_lt_zero _))) ?turn ?done2
    case hK => intro _ _ _ _ p hp; exact nomatch hp
    case turn =>
      intro i u m₁ nx I oI h tk hi hz0 hz1; refine IntAt.casesOn hz0 ?_; intro t; refine JPlaces.casesOn hz1 ?_; intro u₀ oP kP cP hdP hvP hlP hatP; intro hne F1 N1
      try k_fold
      have hget : es[((0 : Int) + (i : Int)).toNat]? = some es[i] := by
        rw [show ((0 : Int) + (i : Int)).toNat = i by omega]; exact List.getElem?_eq_getElem hi
      have hIel := neNat (hne _ (.head _))
      (repeat' ((fail_if_success (with_reducible refine Stop.in ?_)); first | (k_unfold; (try dsimp only)) | (k_end; wrow_close) | ((with_reducible show wpAny _ _ (eval _ _) _ _ _); (first | with_reducible show wpAny _ _ (eval (Expr.ListComp _ _ _ _) _) _ _ _ | with_reducible show wpAny _ _ (eval (Expr.DictComp _ _ _ _ _) _) _ _ _); refine Stop.out ?_) | ((with_reducible show wpAny _ _ (exec _ _) _ _ _); (first | with_reducible show wpAny _ _ (exec (Stmt.Assign (_ :: _) (Expr.ListComp _ _ _ _) _) _) _ _ _); refine Stop.out ?_) | ((with_reducible show wpAny _ _ (pyIter _) _ _ _); (first | with_reducible show wpAny _ _ (pyIter (Value.ref _)) _ _ _); refine Stop.out ?_) |  walk1 | (dsimp only; walk1) | (leave1; walk_say "STEP leave1"; try dsimp only) | fail "no step"))
      refine TurnEnd.intro _ (by k_asm) (by k_asm) (fun p hp => hp) (ne_upd1 hne) (.of jm_next (by k_asm) (hvP.stored _ _ _) ?_ ?_)
      · exact Nat.le_trans (stored_length_le _ _ _) (by omega)
      · have := places_step hP1 (List.getElem?_eq_getElem hi) hatP
        simpa using this
    intro m₁ nx h5 tk5 hz0; refine JPlaces.casesOn hz0 ?_; intro u₁ oP kP cP hdP hvP hlP hatP; intro F5 N5
    try dsimp only
    (repeat' ((fail_if_success (with_reducible refine Stop.in ?_)); first | (k_unfold; (try dsimp only)) | (k_end; wrow_close) | ((with_reducible show wpAny _ _ (eval _ _) _ _ _); (first | with_reducible show wpAny _ _ (eval (Expr.ListComp _ _ _ _) _) _ _ _ | with_reducible show wpAny _ _ (eval (Expr.DictComp _ _ _ _ _) _) _ _ _); refine Stop.out ?_) | ((with_reducible show wpAny _ _ (exec _ _) _ _ _); (first | with_reducible show wpAny _ _ (exec (Stmt.Assign (_ :: _) (Expr.ListComp _ _ _ _) _) _) _ _ _); refine Stop.out ?_) | ((with_reducible show wpAny _ _ (pyIter _) _ _ _); (first | with_reducible show wpAny _ _ (pyIter (Value.ref _)) _ _ _); refine Stop.out ?_) |  walk1 | (dsimp only; walk1) | (leave1; walk_say "STEP leave1"; try dsimp only) | fail "no step"))
    refine Stop.in ?_
    k_dflt (refine dc_eval (knd := intKind PROG w) (_F := by k_asm) (by with_unfolding_all rfl) (by decide) (by rfl) (by decide) (by rfl) (Top.nolimit (by k_asm)) ?_)
    (repeat' ((fail_if_success (with_reducible refine Stop.in ?_)); first | (k_unfold; (try dsimp only)) | (k_end; wrow_close) | ((with_reducible show wpAny _ _ (eval _ _) _ _ _); (first | with_reducible show wpAny _ _ (eval (Expr.ListComp _ _ _ _) _) _ _ _ | with_reducible show wpAny _ _ (eval (Expr.DictComp _ _ _ _ _) _) _ _ _); refine Stop.out ?_) | ((with_reducible show wpAny _ _ (exec _ _) _ _ _); (first | with_reducible show wpAny _ _ (exec (Stmt.Assign (_ :: _) (Expr.ListComp _ _ _ _) _) _) _ _ _); refine Stop.out ?_) | ((with_reducible show wpAny _ _ (pyIter _) _ _ _); (first | with_reducible show wpAny _ _ (pyIter (Value.ref _)) _ _ _); refine Stop.out ?_) |  walk1 | (dsimp only; walk1) | (leave1; walk_say "STEP leave1"; try dsimp only) | fail "no step"))
    rename_i D2 v2 n2 c2 h2' tk2' F2' N2' i2 e2 p2 o2 l2
    have hl2 := i2.length
    refine DcAt.keep _ _ _ _ _ (JIV fun i cq => ∀ k, at? cq k = if k ∈ n2.take i then (at? c k).bind (at? cP) else none) (Src.list D2 v2.toArray c2) (by with_unfolding_all rfl) (by k_asm) (by k_asm) trivial (by rw [sizeLine_eq, List.size_toArray]; omega) ?_ ⟨[], .nil, Nat.le_refl _, fun k => by simp [at?_nil]⟩ ?_ ?_
    · intro p hp
      rw [List.mem_singleton.mp hp]
      k_mem
    · intro i u ys I oI C oC Dl oDl m₂ h tk E' hi hu hz; refine JIV.casesOn hz ?_; intro cq hq hql hcq; refine KIAt.casesOn (kiat (i := i) (v := u) i2 (by simpa using hu) hIV p2) ?_; intro k t x tx hk hx hx1; intro hoD hoC hmx F1 N1 off hIC hID hCD hyl
      obtain ⟨j, hj⟩ := List.mem_iff_getElem?.mp ((hP2 x).mpr (.inr ⟨k, hx⟩))
      have hjl := (List.getElem?_eq_some_iff.mp hj).1
      have hpx := hatP j x hjl hj
      obtain ⟨tj, hx2⟩ := hvP.valueAt_some hpx
      refine wpAny_tests_nil ?_
      refine ite_pos rfl ?_
      (repeat' ((fail_if_success (with_reducible refine Stop.in ?_)); first | (k_unfold; (try dsimp only)) | (k_end; wrow_close) | ((with_reducible show wpAny _ _ (eval _ _) _ _ _); (first | with_reducible show wpAny _ _ (eval (Expr.ListComp _ _ _ _) _) _ _ _ | with_reducible show wpAny _ _ (eval (Expr.DictComp _ _ _ _ _) _) _ _ _); refine Stop.out ?_) | ((with_reducible show wpAny _ _ (exec _ _) _ _ _); (first | with_reducible show wpAny _ _ (exec (Stmt.Assign (_ :: _) (Expr.ListComp _ _ _ _) _) _) _ _ _); refine Stop.out ?_) | ((with_reducible show wpAny _ _ (pyIter _) _ _ _); (first | with_reducible show wpAny _ _ (pyIter (Value.ref _)) _ _ _); refine Stop.out ?_) |  walk1 | (dsimp only; walk1) | (leave1; walk_say "STEP leave1"; try dsimp only) | fail "no step"))
      · exact intKind_is _ _ _ _
      · exact PartEnd.intro _ (by k_asm) (by k_asm) (fun p hp => hp) off ⟨_, hq.stored _ _ _, Nat.le_trans (stored_length_le _ _ _) (by omega), packed_turn hk hx hpx hcq⟩
    · intro h6 tk6 ys hz; refine JIV.casesOn hz ?_; intro cq hq hql hcq; intro Dq oDq h7 tk7 hDq F7 N7 hdq loq offq
      rw [List.size_toArray, List.take_of_length_le (by omega)] at hcq
      have hPk := packed_end hpos0 (hIV.keys ▸ p2) hP1 hP2 hP3 hatP hcq
      have lq := lts_of N2' hDq
      k_lt lq
      try dsimp only
      (repeat' ((fail_if_success (with_reducible refine Stop.in ?_)); first | (k_unfold; (try dsimp only)) | (k_end; wrow_close) | ((with_reducible show wpAny _ _ (eval _ _) _ _ _); (first | with_reducible show wpAny _ _ (eval (Expr.ListComp _ _ _ _) _) _ _ _ | with_reducible show wpAny _ _ (eval (Expr.DictComp _ _ _ _ _) _) _ _ _); refine Stop.out ?_) | ((with_reducible show wpAny _ _ (exec _ _) _ _ _); (first | with_reducible show wpAny _ _ (exec (Stmt.Assign (_ :: _) (Expr.ListComp _ _ _ _) _) _) _ _ _); refine Stop.out ?_) | ((with_reducible show wpAny _ _ (pyIter _) _ _ _); (first | with_reducible show wpAny _ _ (pyIter (Value.ref _)) _ _ _); refine Stop.out ?_) |  walk1 | (dsimp only; walk1) | (leave1; walk_say "STEP leave1"; try dsimp only) | fail "no step"))
      (with_reducible rename (News h₀ _ _ _) => NF)
      (with_reducible rename (Fr h₀ _ _ _) => FF)
      refine' hret _ _ _ _ _ _ _ _ _ _ _ _ _ _ FF (news_sub NF ?s) (lts3 ?a1 ?a2 ?a3 ?a4) (lts3 ?b1 ?b2 ?b3 ?b4) (lts3 ?c1 ?c2 ?c3 ?c4) (lts3 ?d1 ?d2 ?d3 ?d4) (lts3 ?e1 ?e2 ?e3 ?e4) hdq loq hq ?z hev hesl hPk
      case s => ((repeat (refine sub_cons (by k_mem) ?_)); (first | exact sub_nil | (repeat (first | with_reducible assumption | with_reducible exact sub_same | refine sub_tail ?_))))
      case a4 => tbn_find
      case b4 => refine allLt_mono (Nat.le_of_lt (by with_reducible assumption)) ?_; tbn_find
      case c4 => tbn_find
      case d4 => tbn_find
      case e4 => tbn_find
      case z => rw [List.size_toArray] at hql; omega
      all_goals first | tbn_below | ((try dsimp only); omega) | ((try dsimp only); simp only [AllLt, and_true] at *; omega)
end Packed

noncomputable abbrev penObj (C : Addr) (seat carry : Int) (t1 t2 : Tok) (n : Nat) : Obj := listOf [Value.ref C, .int seat t1, .int carry t2].toArray n
theorem draw_u {w : World} {loose : List Str} {mean : ExcName → Option Value} {mg mb : Str → Option Value} {dp un : Nat} {gd : Option (List Code)} {cn : Str} {cs : Scope} {a : Addr} {ccd : Value} {cl : List (Str × Addr)} {outer : List Env} {A₀ : Around} {base h₀ : Heap} {L : Addr} {m : Str → Option Value} {s : Shared} {Q E : Value → Shared → Prop}
  {P C : Addr} {n n' : Nat} {vs : List Value} {ns : List Int} {seat carry many : Int} {t1 t2 t3 : Tok} {news : List (Addr × Obj)} {g : Obj → List (Addr × Obj)}
  (B : Below A₀ base outer h₀) (F : Fr h₀ L s.heap m) (KX : (hd.heap_39 w.params).In h₀) (N : News h₀ L s.heap news) (T : Top hd.view_39 loose mean mg mb h₀) (hk : cs.kind = .function) (hdp : dp + 2 < recursionLimit) (hun : un + 16 < cLine)
  (U : UpdF P (penObj C seat carry t1 t2 n) news g) (hC : (C, listOf vs.toArray n') ∈ news) (hi : IntsAre vs ns) (hlen : ns.length ≤ 40) (hCP : C ≠ P) (hs0 : 0 ≤ seat) (hs1 : seat ≤ 1000) (hc0 : 0 ≤ carry) (hm0 : 1 ≤ many) (hm1 : many ≤ 1000)
  (ret : ∀ r seat' carry' t t1' t2' h' tk', Fr h₀ L h' m → News h₀ L h' (g (penObj C seat' carry' t1' t2' n)) →
    0 ≤ r → r < many → seat ≤ seat' → seat' ≤ seat + 1 → 0 ≤ carry' → Q (.int r t) { s with heap := h', toks := tk' }) :
  wpAny (model PROG w) (ktrTop dp un gd cn cs L a ccd cl outer) (call (.ref 101) [.ref P, .int many t3]) Q E s := by
  obtain ⟨pre, post, e, hg, hp, hq⟩ := U.split
  have hne : ∀ q ∈ pre ++ post, q.1 ≠ P := fun p h => (List.mem_append.mp h).elim (hp p) (hq p)
  have hC' : (C, listOf vs.toArray n') ∈ pre ++ post := by
    rw [e] at hC
    rcases List.mem_append.mp hC with h | h
    · exact List.mem_append_left _ h
    · rcases List.mem_cons.mp h with h | h
      · exact absurd (congrArg Prod.fst h) hCP
      · exact List.mem_append_right _ h
  refine draw_c w rfl loose mean mg mb dp un gd cn cs a ccd cl outer A₀ base h₀ L m s Q E P C n n' vs ns seat carry many t1 t2 t3 (pre ++ post) B F KX (fun p h => ?_) T hk hdp (by omega) hi hlen hCP hne hs0 hs1 hc0 hm0 hm1 fun r seat' carry' t t1' t2' h' tk' F' N' => ret r seat' carry' t t1' t2' h' tk' F' ?_
  · refine N p ?_
    rw [e]
    rcases List.mem_cons.mp h with rfl | h
    · exact List.mem_append_right _ (.head _)
    · rcases List.mem_cons.mp h with rfl | h
      · rw [← e]; exact hC
      · rcases List.mem_append.mp h with h | h
        · exact List.mem_append_left _ h
        · exact List.mem_append_right _ (.tail _ h)
  · rw [hg]
    intro p h
    rcases List.mem_append.mp h with h | h
    · exact N' p (.tail _ (.tail _ (List.mem_append_left _ h)))
    · rcases List.mem_cons.mp h with rfl | h
      · exact N' _ (.head _)
      · exact N' p (.tail _ (.tail _ (List.mem_append_right _ h)))
section
variable {prog : Program} {w : World} {A : Around} {E : Value → Shared → Prop} {s : Shared} {h₀ : Heap} {L : Addr} {m : Str → Option Value} {news : List (Addr × Obj)}
theorem getD_mem {es : List Int} {i : Nat} (h : i < es.length) : es.getD i 0 ∈ es := by
  rw [List.getD_eq_getElem?_getD, List.getElem?_eq_getElem h, Option.getD_some]; exact List.getElem_mem h
end
theorem ne_same {I : Addr} {l l' : List (Addr × Obj)} (h : ∀ p ∈ l, p.1 ≠ I) (e : l'.map (·.1) = l.map (·.1)) : ∀ p ∈ l', p.1 ≠ I := fun p hp => by
  have : p.1 ∈ l.map (·.1) := e ▸ List.mem_map.mpr ⟨p, hp, rfl⟩
  obtain ⟨q, hq, e'⟩ := List.mem_map.mp this
  rw [← e']; exact h q hq
theorem packed_u {w : World} {loose : List Str} {mean : ExcName → Option Value} {mg mb : Str → Option Value} {dp un : Nat} {gd : Option (List Code)} {cn : Str} {cs : Scope} {a : Addr} {ccd : Value} {cl : List (Str × Addr)} {outer : List Env} {A₀ : Around} {base h₀ : Heap} {L : Addr} {m : Str → Option Value} {s : Shared} {Q E : Value → Shared → Prop}
  {X D d : Addr} {t1 : Tok} {od : Obj} {kvs : List (Int × Value)} {c : List (Int × Int)} {news : List (Addr × Obj)}
  (B : Below A₀ base outer h₀) (F : Fr h₀ L s.heap m) (KX : (hd.heap_39 w.params).In h₀) (N : News h₀ L s.heap news) (T : Top hd.view_39 loose mean mg mb h₀) (hk : cs.kind = .function) (hdp : dp + 3 < recursionLimit) (hun : un + 16 < cLine)
  (hX : (X, instObj 66 D) ∈ news) (hD : (D, clsDict w t1 (.ref d)) ∈ news) (hd : (d, od) ∈ news) (hdk : od.IsDictOf (intKind PROG w) kvs) (lo : (d == sysModules) = false) (hIV : IV kvs c) (hlen : kvs.length ≤ 60) (hpos : ∀ p ∈ c, 0 < p.2)
  (ret : ∀ T X' D' t1' d' od' kvs' c' El evs ne es h' tk', Fr h₀ L h' m → News h₀ L h' ((T, ({ cls := .type "tuple", data := .seq #[.ref X', .ref El] } : Obj)) :: (X', instObj 66 D') :: (D', clsDict w t1' (.ref d')) :: (d', od') :: (El, listOf evs.toArray ne) :: news) →
    (∀ q ∈ news, q.1 < T) → (∀ q ∈ news, q.1 < X') → (∀ q ∈ news, q.1 < D') → (∀ q ∈ news, q.1 < d') → (∀ q ∈ news, q.1 < El) →
    od'.IsDictOf (intKind PROG w) kvs' → (d' == sysModules) = false → IV kvs' c' → kvs'.length ≤ kvs.length → IntsAre evs es → es.length ≤ 61 → Packed c es c' → Q (.ref T) { s with heap := h', toks := tk' }) :
  wpAny (model PROG w) (ktrTop dp un gd cn cs L a ccd cl outer) (call (.ref 80) [.ref X]) Q E s :=
  packed_c w rfl loose mean mg mb dp un gd cn cs a ccd cl outer A₀ base h₀ L m s Q E X D d t1 od kvs c news B F (KX)
    (news_sub N (sub_cons hX (sub_cons hD (sub_cons hd sub_same)))) T hk hdp hun hdk lo hIV hlen hpos
    fun T X' D' t1' d' od' kvs' c' El evs ne es h' tk' F' N' e1 e2 e3 e4 e5 => ret T X' D' t1' d' od' kvs' c' El evs ne es h' tk' F'
      (news_sub N' (sub_cons (.head _) (sub_cons (.tail _ (.head _)) (sub_cons (.tail _ (.tail _ (.head _))) (sub_cons (.tail _ (.tail _ (.tail _ (.head _)))) (sub_cons (.tail _ (.tail _ (.tail _ (.tail _ (.head _)))))
        fun p hp => .tail _ (.tail _ (.tail _ (.tail _ (.tail _ (.tail _ (.tail _ (.tail _ hp)))))))))))))
      (fun q hq => e1 q (.tail _ (.tail _ (.tail _ hq)))) (fun q hq => e2 q (.tail _ (.tail _ (.tail _ hq)))) (fun q hq => e3 q (.tail _ (.tail _ (.tail _ hq)))) (fun q hq => e4 q (.tail _ (.tail _ (.tail _ hq)))) (fun q hq => e5 q (.tail _ (.tail _ (.tail _ hq))))

noncomputable def ClsOk (c : List (Int × Int)) : Prop := ∀ p ∈ c, 0 ≤ p.1 ∧ p.1 < 12 ∧ p.2 ∈ [1, 2, 3, 4, 900, 65535]
theorem putI_mem {c : List (Int × Int)} {k v : Int} {p : Int × Int} (h : p ∈ putI c k v) : p = (k, v) ∨ p ∈ c := by
  unfold putI at h
  split at h
  · obtain ⟨q, hq, rfl⟩ := List.mem_map.mp h
    split
    · rename_i e; exact .inl (by rw [e])
    · exact .inr hq
  · rcases List.mem_append.mp h with h | h
    · exact .inr h
    · exact .inl (List.mem_singleton.mp h)
theorem ClsOk.put {c : List (Int × Int)} (h : ClsOk c) {k v : Int} (h0 : 0 ≤ k) (h1 : k < 12) (hv : v ∈ [1, 2, 3, 4, 900, 65535]) : ClsOk (putI c k v) := fun p hp => by
  rcases putI_mem hp with rfl | hp
  · exact ⟨h0, h1, hv⟩
  · exact h p hp
inductive JCls (w : World) (m₀ : Str → Option Value) (d : Addr) (P C : Addr) (np : Nat) (tail : List (Addr × Obj)) (seat : Int) (i : Nat) : (Str → Option Value) → List (Addr × Obj) → Prop
  | mk (u : Option Value) (od : Obj) (kvs : List (Int × Value)) (c : List (Int × Int)) (seat' carry' : Int) (t1 t2 : Tok) (hd : od.IsDictOf (intKind PROG w) kvs) (hv : IV kvs c) (hl : kvs.length ≤ i) (hok : ClsOk c) (h1 : seat ≤ seat') (h2 : seat' ≤ seat + 2 * i) (h3 : 0 ≤ carry') :
      JCls w m₀ d P C np tail seat i (fun y => if y = Str.ofString "lap" then u else m₀ y) ((d, od) :: (P, penObj C seat' carry' t1 t2 np) :: tail)
theorem JCls.of {w : World} {m₀ m : Str → Option Value} {d P C : Addr} {np : Nat} {tail : List (Addr × Obj)} {seat : Int} {i : Nat} {od : Obj} {kvs : List (Int × Value)} {c : List (Int × Int)} {seat' carry' : Int} {t1 t2 : Tok} (hm : ∃ u, m = fun y => if y = Str.ofString "lap" then u else m₀ y) (hd : od.IsDictOf (intKind PROG w) kvs) (hv : IV kvs c) (hl : kvs.length ≤ i) (hok : ClsOk c) (h1 : seat ≤ seat') (h2 : seat' ≤ seat + 2 * i) (h3 : 0 ≤ carry') :
    JCls w m₀ d P C np tail seat i m ((d, od) :: (P, penObj C seat' carry' t1 t2 np) :: tail) := by
  obtain ⟨u, rfl⟩ := hm; exact ⟨u, od, kvs, c, seat', carry', t1, t2, hd, hv, hl, hok, h1, h2, h3⟩

section Classes


local macro_rules | `(tactic| walk_at "call ref") => `(tactic| (k_here; (with_reducible show wpAny _ _ (call (Value.ref 101) [Value.ref _, Value.int _ _]) _ _ _); k_dflt (refine' draw_u ?B ?F ?K ?N ?T ?k ?d ?u ?U ?C ?i ?l ?ne ?s0 ?s1 ?c0 ?m0 ?m1 ?_; (case B => k_asm); (case F => k_asm); (case K => k_asm); (case N => k_asm); (case T => k_asm); (case k => exact rfl); (case d => k_room); (case u => k_units); (case U => k_updF); (case C => k_mem); (case i => assumption); (case l => first | decide | omega); (case ne => assumption); (case s0 => first | decide | omega); (case s1 => first | decide | omega); (case c0 => first | decide | omega); (case m0 => first | decide | omega); (case m1 => first | decide | omega)); intro r' seat' carry' t' t1' t2' h' tk' F' N' _ _ _ _ _; (try dsimp only at N')))


set_option maxRecDepth 100000 in
set_option maxHeartbeats 0 in
theorem classes_c (w : World) : PySem.Challenge.rw_nu0148_01 = PySem.Challenge.rw_nu0148_01 →
  ∀ (loose : List Str) (mean : ExcName → Option Value) (mg mb : Str → Option Value) (dp un : Nat) (gd : Option (List Code)) (cn : Str) (cs : Scope) (a : Addr) (ccd : Value) (cl : List (Str × Addr)) (outer : List Env) (A₀ : Around) (base h₀ : Heap) (L : Addr) (m : Str → Option Value) (s : Shared) (Q E : Value → Shared → Prop)
  (P C : Addr) (n n' : Nat) (vs : List Value) (ns : List Int) (seat carry : Int) (t1 t2 : Tok) (rest : List (Addr × Obj)),
  Below A₀ base outer h₀ → Fr h₀ L s.heap m → (hd.heap_39 w.params).In h₀ → News h₀ L s.heap ((P, penObj C seat carry t1 t2 n) :: (C, listOf vs.toArray n') :: rest) → Top hd.view_39 loose mean mg mb h₀ → cs.kind = .function → dp + 4 < recursionLimit → un + 40 < cLine →
  IntsAre vs ns → ns.length ≤ 40 → C ≠ P → (∀ q ∈ rest, q.1 ≠ P) → 0 ≤ seat → seat ≤ 900 → 0 ≤ carry →
  (∀ d od kvs c seat' carry' t1' t2' h' tk', Fr h₀ L h' m → News h₀ L h' ((d, od) :: (P, penObj C seat' carry' t1' t2' n) :: (C, listOf vs.toArray n') :: rest) → (∀ q ∈ (P, penObj C seat carry t1 t2 n) :: (C, listOf vs.toArray n') :: rest, @LT.lt Nat _ q.1 d) →
    od.IsDictOf (intKind PROG w) kvs → (d == sysModules) = false → IV kvs c → kvs.length ≤ 9 → ClsOk c → seat ≤ seat' → seat' ≤ seat + 19 → 0 ≤ carry' → Q (.ref d) { s with heap := h', toks := tk' }) →
  wpAny (model PROG w) (ktrTop dp un gd cn cs L a ccd cl outer) (call (.ref 108) [.ref P]) Q E s := by
  w_top off
  k_fill
  intro _ loose mean mg mb dp un gd cn cs a ccd cl outer A₀ base h₀ L m s Q E P C n n' vs ns seat carry t1 t2 rest B F KX N T hk hdp hun hI hlen hCP hrest hs0 hs1 hc0 hret
  refine wpAny_call ?_
  k_dflt ktr_enter
  (repeat' ((fail_if_success (with_reducible refine Stop.in ?_)); first | (k_unfold; (try dsimp only)) | (k_end; wrow_close) | ((with_reducible show wpAny _ _ (eval _ _) _ _ _); (first | with_reducible show wpAny _ _ (eval (Expr.ListComp _ _ _ _) _) _ _ _ | with_reducible show wpAny _ _ (eval (Expr.DictComp _ _ _ _ _) _) _ _ _); refine Stop.out ?_) | ((with_reducible show wpAny _ _ (exec _ _) _ _ _); (first | with_reducible show wpAny _ _ (exec (Stmt.Assign (_ :: _) (Expr.ListComp _ _ _ _) _) _) _ _ _); refine Stop.out ?_) | ((with_reducible show wpAny _ _ (pyIter _) _ _ _); (first | with_reducible show wpAny _ _ (pyIter (Value.ref _)) _ _ _); refine Stop.out ?_) |  walk1 | (dsimp only; walk1) | (leave1; walk_say "STEP leave1"; try dsimp only) | fail "no step"))
  (with_reducible rename (IsRange _ _ _ _ _ _ _ _) => hR)
  rename_i r0 seat0 carry0 _ _ _ _ _ _ _ hr0 hr1 hseat0 hseat1 hcarry0 _ _ _ _ _ _ _ _
  obtain ⟨k0, rfl⟩ := Int.eq_ofNat_of_zero_le hr0
  (with_reducible rename (Obj.IsDictOf (intKind _ _) _ _) => hd0)
  (with_reducible rename ((_ == sysModules) = false) => lo0)
  refine Stop.in ?_
  refine for_src (Src.range (n := k0) (rsmall (by first | decide | omega)) (rsize _)) (JCls w _ _ P C n _ seat0) (by with_unfolding_all rfl) (by k_asm) (by k_asm) hR ?hK (JCls.of jm_start hd0 .nil (Nat.le_refl _) (fun _ h => nomatch h) (by omega) (by omega) (by omega)) ?turn ?done
  case hK => intro _ _ _ _ p hp; exact nomatch hp
  case turn =>
    intro i u m₁ nx I oI h tk hi hz0 hz1; refine IntAt.casesOn hz0 ?_; intro t; refine JCls.casesOn hz1 ?_; intro u₀ od kvs c seat1 carry1 t3 t4 hd1 hv1 hl1 hc1 hs1 hs2 hc2; intro hne F1 N1
    try k_fold
    have hId := neNat (hne _ (.head _))
    have hIP := neNat (hne _ (.tail _ (.head _)))
    (repeat' ((fail_if_success (with_reducible refine Stop.in ?_)); first | (k_unfold; (try dsimp only)) | (k_end; wrow_close) | ((with_reducible show wpAny _ _ (eval _ _) _ _ _); (first | with_reducible show wpAny _ _ (eval (Expr.ListComp _ _ _ _) _) _ _ _ | with_reducible show wpAny _ _ (eval (Expr.DictComp _ _ _ _ _) _) _ _ _); refine Stop.out ?_) | ((with_reducible show wpAny _ _ (exec _ _) _ _ _); (first | with_reducible show wpAny _ _ (exec (Stmt.Assign (_ :: _) (Expr.ListComp _ _ _ _) _) _) _ _ _); refine Stop.out ?_) | ((with_reducible show wpAny _ _ (pyIter _) _ _ _); (first | with_reducible show wpAny _ _ (pyIter (Value.ref _)) _ _ _); refine Stop.out ?_) |  walk1 | (dsimp only; walk1) | (leave1; walk_say "STEP leave1"; try dsimp only) | fail "no step"))
    (with_reducible rename (Obj.IsDictOf (intKind _ _) _ (stored _ _ _)) => hdS)
    refine TurnEnd.intro _ (by k_asm) (by k_asm) (by ((repeat (refine sub_cons (by k_mem) ?_)); (first | exact sub_nil | (repeat (first | with_reducible assumption | with_reducible exact sub_same | refine sub_tail ?_))))) (ne_same hne (by rfl)) (.of jm_next hdS (hv1.stored _ _ _) ?_ ?_ ?_ ?_ ?_)
    · exact Nat.le_trans (stored_length_le _ _ _) (by omega)
    · refine hc1.put (by omega) (by omega) (getD_mem (by simp only [List.length_cons, List.length_nil]; omega))
    all_goals omega
  intro m₁ nx h2 tk2 hz0; refine JCls.casesOn hz0 ?_; intro u₀ od kvs c seat1 carry1 t3 t4 hd1 hv1 hl1 hc1 hs1' hs2 hc2; intro F2 N2
  try dsimp only
  (repeat' ((fail_if_success (with_reducible refine Stop.in ?_)); first | (k_unfold; (try dsimp only)) | (k_end; wrow_close) | ((with_reducible show wpAny _ _ (eval _ _) _ _ _); (first | with_reducible show wpAny _ _ (eval (Expr.ListComp _ _ _ _) _) _ _ _ | with_reducible show wpAny _ _ (eval (Expr.DictComp _ _ _ _ _) _) _ _ _); refine Stop.out ?_) | ((with_reducible show wpAny _ _ (exec _ _) _ _ _); (first | with_reducible show wpAny _ _ (exec (Stmt.Assign (_ :: _) (Expr.ListComp _ _ _ _) _) _) _ _ _); refine Stop.out ?_) | ((with_reducible show wpAny _ _ (pyIter _) _ _ _); (first | with_reducible show wpAny _ _ (pyIter (Value.ref _)) _ _ _); refine Stop.out ?_) |  walk1 | (dsimp only; walk1) | (leave1; walk_say "STEP leave1"; try dsimp only) | fail "no step"))
  exact hret _ _ _ _ _ _ _ _ _ _ (by k_asm) (by k_asm) (lts2 (by tbn_below) (by tbn_below) (by tbn_find)) hd1 lo0 hv1 (by omega) hc1 (by omega) (by omega) hc2
end Classes
theorem classes_u {w : World} {loose : List Str} {mean : ExcName → Option Value} {mg mb : Str → Option Value} {dp un : Nat} {gd : Option (List Code)} {cn : Str} {cs : Scope} {a : Addr} {ccd : Value} {cl : List (Str × Addr)} {outer : List Env} {A₀ : Around} {base h₀ : Heap} {L : Addr} {m : Str → Option Value} {s : Shared} {Q E : Value → Shared → Prop}
  {P C : Addr} {n n' : Nat} {vs : List Value} {ns : List Int} {seat carry : Int} {t1 t2 : Tok} {news : List (Addr × Obj)} {g : Obj → List (Addr × Obj)}
  (B : Below A₀ base outer h₀) (F : Fr h₀ L s.heap m) (KX : (hd.heap_39 w.params).In h₀) (N : News h₀ L s.heap news) (T : Top hd.view_39 loose mean mg mb h₀) (hk : cs.kind = .function) (hdp : dp + 4 < recursionLimit) (hun : un + 40 < cLine)
  (U : UpdF P (penObj C seat carry t1 t2 n) news g) (hC : (C, listOf vs.toArray n') ∈ news) (hi : IntsAre vs ns) (hlen : ns.length ≤ 40) (hCP : C ≠ P) (hs0 : 0 ≤ seat) (hs1 : seat ≤ 900) (hc0 : 0 ≤ carry)
  (ret : ∀ d od kvs c seat' carry' t1' t2' h' tk', Fr h₀ L h' m → News h₀ L h' ((d, od) :: g (penObj C seat' carry' t1' t2' n)) → (∀ q ∈ g (penObj C seat' carry' t1' t2' n), q.1 < d) →
    od.IsDictOf (intKind PROG w) kvs → (d == sysModules) = false → IV kvs c → kvs.length ≤ 9 → ClsOk c → seat ≤ seat' → seat' ≤ seat + 19 → 0 ≤ carry' → Q (.ref d) { s with heap := h', toks := tk' }) :
  wpAny (model PROG w) (ktrTop dp un gd cn cs L a ccd cl outer) (call (.ref 108) [.ref P]) Q E s := by
  obtain ⟨pre, post, e, hg, hp, hq⟩ := U.split
  have hne : ∀ q ∈ pre ++ post, q.1 ≠ P := fun p h => (List.mem_append.mp h).elim (hp p) (hq p)
  have hC' : (C, listOf vs.toArray n') ∈ pre ++ post := by
    rw [e] at hC
    rcases List.mem_append.mp hC with h | h
    · exact List.mem_append_left _ h
    · rcases List.mem_cons.mp h with h | h
      · exact absurd (congrArg Prod.fst h) hCP
      · exact List.mem_append_right _ h
  refine classes_c w rfl loose mean mg mb dp un gd cn cs a ccd cl outer A₀ base h₀ L m s Q E P C n n' vs ns seat carry t1 t2 (pre ++ post) B F KX (fun p h => ?_) T hk hdp hun hi hlen hCP hne hs0 hs1 hc0 fun d od kvs c seat' carry' t1' t2' h' tk' F' N' l' => ret d od kvs c seat' carry' t1' t2' h' tk' F' ?_ ?_
  · refine N p ?_
    rw [e]
    rcases List.mem_cons.mp h with rfl | h
    · exact List.mem_append_right _ (.head _)
    · rcases List.mem_cons.mp h with rfl | h
      · rw [← e]; exact hC
      · rcases List.mem_append.mp h with h | h
        · exact List.mem_append_left _ h
        · exact List.mem_append_right _ (.tail _ h)
  · rw [hg]
    intro p h
    rcases List.mem_cons.mp h with rfl | h
    · exact N' _ (.head _)
    rcases List.mem_append.mp h with h | h
    · exact N' p (.tail _ (.tail _ (.tail _ (List.mem_append_left _ h))))
    · rcases List.mem_cons.mp h with rfl | h
      · exact N' _ (.tail _ (.head _))
      · exact N' p (.tail _ (.tail _ (.tail _ (List.mem_append_right _ h))))
  · rw [hg]
    intro p h
    rcases List.mem_append.mp h with h | h
    · exact l' p (.tail _ (.tail _ (List.mem_append_left _ h)))
    · rcases List.mem_cons.mp h with rfl | h
      · exact l' (P, penObj C seat carry t1 t2 n) (.head _)
      · exact l' p (.tail _ (.tail _ (List.mem_append_right _ h)))

noncomputable def maxV (c : List (Int × Int)) : Int := c.foldl (fun m p => max m p.2) 0
theorem maxV_snoc (c : List (Int × Int)) (p : Int × Int) : maxV (c ++ [p]) = max (maxV c) p.2 := by
  unfold maxV; rw [List.foldl_append]; rfl
theorem maxV_take {c : List (Int × Int)} {i : Nat} {p : Int × Int} (h : c[i]? = some p) : maxV (c.take (i + 1)) = max (maxV (c.take i)) p.2 := by
  rw [List.take_add_one, h]; exact maxV_snoc _ _
theorem maxV_ge {c : List (Int × Int)} : ∀ p ∈ c, p.2 ≤ maxV c := by
  have : ∀ (c : List (Int × Int)) (m : Int), m ≤ c.foldl (fun m p => max m p.2) m ∧ ∀ p ∈ c, p.2 ≤ c.foldl (fun m p => max m p.2) m := by
    intro c
    induction c with
    | nil => intro m; exact ⟨Int.le_refl _, fun _ h => nomatch h⟩
    | cons q c ih =>
      intro m
      obtain ⟨a, b⟩ := ih (max m q.2)
      refine ⟨by rw [List.foldl_cons]; omega, fun p hp => ?_⟩
      rw [List.foldl_cons]
      rcases List.mem_cons.mp hp with rfl | hp
      · omega
      · exact b p hp
  exact fun p hp => (this c 0).2 p hp
theorem maxV_mem (c : List (Int × Int)) : maxV c = 0 ∨ ∃ p ∈ c, p.2 = maxV c := by
  have : ∀ (c : List (Int × Int)) (m : Int), c.foldl (fun m p => max m p.2) m = m ∨ ∃ p ∈ c, p.2 = c.foldl (fun m p => max m p.2) m := by
    intro c
    induction c with
    | nil => intro m; exact .inl rfl
    | cons q c ih =>
      intro m
      rw [List.foldl_cons]
      rcases ih (max m q.2) with h | ⟨p, hp, h⟩
      · rcases Int.le_total m q.2 with g | g
        · exact .inr ⟨q, .head _, by rw [h]; omega⟩
        · exact .inl (by rw [h]; omega)
      · exact .inr ⟨p, .tail _ hp, h⟩
  exact this c 0
theorem maxV_lt {c : List (Int × Int)} {b : Int} (hb : 0 < b) (h : ∀ p ∈ c, p.2 < b) : maxV c < b := by
  rcases maxV_mem c with e | ⟨p, hp, e⟩
  · omega
  · have := h p hp; omega
theorem maxV_nonneg (c : List (Int × Int)) : 0 ≤ maxV c := by
  have : ∀ (c : List (Int × Int)) (m : Int), m ≤ c.foldl (fun m p => max m p.2) m := by
    intro c
    induction c with
    | nil => intro m; exact Int.le_refl _
    | cons q c ih => intro m; have := ih (max m q.2); rw [List.foldl_cons]; omega
  exact this c 0
/-- two names of a frame that a loop turns -/
theorem jm2_start {m : Str → Option Value} {x z : Str} {a : Option Value} (hxz : x ≠ z) : ∃ u, (fun y => if y = z then a else m y) = fun y => if y = x then u else if y = z then a else m y :=
  ⟨m x, funext fun y => by
    by_cases h : y = x
    · subst h; simp [hxz]
    · simp [h]⟩
theorem jm2_next {m : Str → Option Value} {x z : Str} {a b u v : Option Value} (hxz : x ≠ z) : ∃ u', (fun y => if y = z then a else if y = x then b else if y = x then u else if y = z then v else m y) = fun y => if y = x then u' else if y = z then a else m y :=
  ⟨b, funext fun y => by
    by_cases h : y = x
    · subst h; simp [hxz]
    · by_cases h2 : y = z
      · subst h2; simp [h]
      · simp [h, h2]⟩
inductive JCount (m₀ : Str → Option Value) (c : List (Int × Int)) (nx₀ : List (Addr × Obj)) (i : Nat) : (Str → Option Value) → List (Addr × Obj) → Prop
  | mk (u : Option Value) (t : Tok) : JCount m₀ c nx₀ i (fun y => if y = Str.ofString "glyph" then u else if y = Str.ofString "most" then some (.int (maxV (c.take i)) t) else m₀ y) nx₀
theorem JCount.of {m₀ m : Str → Option Value} {c : List (Int × Int)} {nx₀ : List (Addr × Obj)} {i : Nat} {t : Tok} (h : ∃ u, m = fun y => if y = Str.ofString "glyph" then u else if y = Str.ofString "most" then some (.int (maxV (c.take i)) t) else m₀ y) : JCount m₀ c nx₀ i m nx₀ := by
  obtain ⟨u, rfl⟩ := h; exact ⟨u, t⟩
section Count


set_option maxRecDepth 100000 in
set_option maxHeartbeats 0 in
theorem count_c (w : World) : PySem.Challenge.rw_nu0148_01 = PySem.Challenge.rw_nu0148_01 →
  ∀ (loose : List Str) (mean : ExcName → Option Value) (mg mb : Str → Option Value) (dp un : Nat) (gd : Option (List Code)) (cn : Str) (cs : Scope) (a : Addr) (ccd : Value) (cl : List (Str × Addr)) (outer : List Env) (A₀ : Around) (base h₀ : Heap) (L : Addr) (m : Str → Option Value) (s : Shared) (Q E : Value → Shared → Prop)
  (X D d : Addr) (t1 : Tok) (od : Obj) (kvs : List (Int × Value)) (c : List (Int × Int)) (rest : List (Addr × Obj)),
  Below A₀ base outer h₀ → Fr h₀ L s.heap m → (hd.heap_39 w.params).In h₀ → News h₀ L s.heap ((X, instObj 66 D) :: (D, clsDict w t1 (.ref d)) :: (d, od) :: rest) → Top hd.view_39 loose mean mg mb h₀ → cs.kind = .function → dp + 4 < recursionLimit → un + 40 < cLine →
  od.IsDictOf (intKind PROG w) kvs → (d == sysModules) = false → IV kvs c → kvs.length ≤ 100 → (∀ p ∈ c, 0 < p.2 ∧ p.2 < 100000) →
  (∀ t h' tk', Fr h₀ L h' m → News h₀ L h' ((X, instObj 66 D) :: (D, clsDict w t1 (.ref d)) :: (d, od) :: rest) → Q (.int (maxV c + 1) t) { s with heap := h', toks := tk' }) →
  wpAny (model PROG w) (ktrTop dp un gd cn cs L a ccd cl outer) (call (.ref 56) [.ref X]) Q E s := by
  w_top off
  k_fill
  intro _ loose mean mg mb dp un gd cn cs a ccd cl outer A₀ base h₀ L m s Q E X D d t1 od kvs c rest B F KX N T hk hdp hun hD lo hIV hlen hpos hret
  refine wpAny_call ?_
  k_dflt ktr_enter
  (repeat' ((fail_if_success (with_reducible refine Stop.in ?_)); first | (k_unfold; (try dsimp only)) | (k_end; wrow_close) | ((with_reducible show wpAny _ _ (eval _ _) _ _ _); (first | with_reducible show wpAny _ _ (eval (Expr.ListComp _ _ _ _) _) _ _ _ | with_reducible show wpAny _ _ (eval (Expr.DictComp _ _ _ _ _) _) _ _ _); refine Stop.out ?_) | ((with_reducible show wpAny _ _ (exec _ _) _ _ _); (first | with_reducible show wpAny _ _ (exec (Stmt.Assign (_ :: _) (Expr.ListComp _ _ _ _) _) _) _ _ _); refine Stop.out ?_) | ((with_reducible show wpAny _ _ (pyIter _) _ _ _); (first | with_reducible show wpAny _ _ (pyIter (Value.ref _)) _ _ _); refine Stop.out ?_) |  walk1 | (dsimp only; walk1) | (leave1; walk_say "STEP leave1"; try dsimp only) | fail "no step"))
  refine Stop.in ?_
  have hnd := IsDictOf_nodup hD
  refine for_src (Src.dict d lo hD) (JCount _ c _) (by with_unfolding_all rfl) (by k_asm) (by k_asm) trivial ?hK (JCount.of (jm2_start (by decide))) ?turn ?done
  case hK => rintro i m nx ⟨_, _⟩ p hp; rw [List.mem_singleton.mp hp]; k_mem
  case turn =>
    intro i u m₁ nx I oI h tk hi hku hz0; refine JCount.casesOn hz0 ?_; intro u₀ t₀; refine DIVAt.casesOn (divat hku hIV) ?_; intro k i' t t' hkx hci; intro hne F1 N1
    try k_fold
    have hval := valueAt_of_get hnd hkx
    have hm := maxV_take hci
    (repeat' ((fail_if_success (with_reducible refine Stop.in ?_)); first | (k_unfold; (try dsimp only)) | (k_end; wrow_close) | ((with_reducible show wpAny _ _ (eval _ _) _ _ _); (first | with_reducible show wpAny _ _ (eval (Expr.ListComp _ _ _ _) _) _ _ _ | with_reducible show wpAny _ _ (eval (Expr.DictComp _ _ _ _ _) _) _ _ _); refine Stop.out ?_) | ((with_reducible show wpAny _ _ (exec _ _) _ _ _); (first | with_reducible show wpAny _ _ (exec (Stmt.Assign (_ :: _) (Expr.ListComp _ _ _ _) _) _) _ _ _); refine Stop.out ?_) | ((with_reducible show wpAny _ _ (pyIter _) _ _ _); (first | with_reducible show wpAny _ _ (pyIter (Value.ref _)) _ _ _); refine Stop.out ?_) |  walk1 | (dsimp only; walk1) | (leave1; walk_say "STEP leave1"; try dsimp only) | fail "no step"))
    have hE : (if i' > maxV (List.take i c) then i' else maxV (List.take i c)) = maxV (c.take (i + 1)) := by
      rw [hm]; split <;> (dsimp only; omega)
    refine TurnEnd.intro _ (by k_asm) (by k_asm) (fun p hp => hp) hne (.of (t := if i' > maxV (List.take i c) then t' else t₀) ?_)
    exact (jm2_next (x := Str.ofString "glyph") (z := Str.ofString "most") (by decide)).elim fun u' e => ⟨u', by rw [← hE]; exact e⟩
  intro m₁ nx h2 tk2 hz0; refine JCount.casesOn hz0 ?_; intro u₀ t₀; intro F2 N2
  rw [List.take_of_length_le (Nat.le_of_eq hIV.length.symm)] at F2
  have hM1 := maxV_nonneg c
  have hM2 := maxV_lt (b := 100000) (by decide) fun p hp => (hpos p hp).2
  try dsimp only
  (repeat' ((fail_if_success (with_reducible refine Stop.in ?_)); first | (k_unfold; (try dsimp only)) | (k_end; wrow_close) | ((with_reducible show wpAny _ _ (eval _ _) _ _ _); (first | with_reducible show wpAny _ _ (eval (Expr.ListComp _ _ _ _) _) _ _ _ | with_reducible show wpAny _ _ (eval (Expr.DictComp _ _ _ _ _) _) _ _ _); refine Stop.out ?_) | ((with_reducible show wpAny _ _ (exec _ _) _ _ _); (first | with_reducible show wpAny _ _ (exec (Stmt.Assign (_ :: _) (Expr.ListComp _ _ _ _) _) _) _ _ _); refine Stop.out ?_) | ((with_reducible show wpAny _ _ (pyIter _) _ _ _); (first | with_reducible show wpAny _ _ (pyIter (Value.ref _)) _ _ _); refine Stop.out ?_) |  walk1 | (dsimp only; walk1) | (leave1; walk_say "STEP leave1"; try dsimp only) | fail "no step"))
  exact hret _ _ _ (by k_asm) (by k_asm)
end Count
theorem count_u {w : World} {loose : List Str} {mean : ExcName → Option Value} {mg mb : Str → Option Value} {dp un : Nat} {gd : Option (List Code)} {cn : Str} {cs : Scope} {a : Addr} {ccd : Value} {cl : List (Str × Addr)} {outer : List Env} {A₀ : Around} {base h₀ : Heap} {L : Addr} {m : Str → Option Value} {s : Shared} {Q E : Value → Shared → Prop}
  {X D d : Addr} {t1 : Tok} {od : Obj} {kvs : List (Int × Value)} {c : List (Int × Int)} {news : List (Addr × Obj)}
  (B : Below A₀ base outer h₀) (F : Fr h₀ L s.heap m) (KX : (hd.heap_39 w.params).In h₀) (N : News h₀ L s.heap news) (T : Top hd.view_39 loose mean mg mb h₀) (hk : cs.kind = .function) (hdp : dp + 4 < recursionLimit) (hun : un + 40 < cLine)
  (hX : (X, instObj 66 D) ∈ news) (hD : (D, clsDict w t1 (.ref d)) ∈ news) (hd : (d, od) ∈ news) (hdk : od.IsDictOf (intKind PROG w) kvs) (lo : (d == sysModules) = false) (hIV : IV kvs c) (hlen : kvs.length ≤ 100) (hpos : ∀ p ∈ c, 0 < p.2 ∧ p.2 < 100000)
  (ret : ∀ t h' tk', Fr h₀ L h' m → News h₀ L h' news → Q (.int (maxV c + 1) t) { s with heap := h', toks := tk' }) :
  wpAny (model PROG w) (ktrTop dp un gd cn cs L a ccd cl outer) (call (.ref 56) [.ref X]) Q E s :=
  count_c w rfl loose mean mg mb dp un gd cn cs a ccd cl outer A₀ base h₀ L m s Q E X D d t1 od kvs c news B F KX
    (news_sub N (sub_cons hX (sub_cons hD (sub_cons hd sub_same)))) T hk hdp hun hdk lo hIV hlen hpos
    fun t h' tk' F' N' => ret t h' tk' F' (fun p hp => N' p (.tail _ (.tail _ (.tail _ hp))))
theorem packed_range {c c' : List (Int × Int)} {es : List Int} (hP : Packed c es c') (hn' : (c'.map (·.1)).Nodup) : ∀ p ∈ c', 0 < p.2 ∧ p.2 < es.length := by
  intro p hp
  have h := at?_of_mem (k := p.1) (v := p.2) hn' hp
  rcases hP.2.2.2 p.1 with ⟨_, b⟩ | ⟨x, j, _, b, h0, hj⟩
  · rw [h] at b; cases b
  · rw [h] at b; cases b
    have := (List.getElem?_eq_some_iff.mp hj).1
    exact ⟨h0, by omega⟩
theorem strict_inj {es : List Int} (h : es.Pairwise (· < ·)) {i j : Nat} {x : Int} (hi : es[i]? = some x) (hj : es[j]? = some x) : i = j := by
  obtain ⟨a, ha⟩ := List.getElem?_eq_some_iff.mp hi
  obtain ⟨b, hb⟩ := List.getElem?_eq_some_iff.mp hj
  rcases Nat.lt_trichotomy i j with g | g | g
  · have := List.pairwise_iff_getElem.mp h i j a b g; omega
  · exact g
  · have := List.pairwise_iff_getElem.mp h j i b a g; omega
theorem packed_count {c c' : List (Int × Int)} {es : List Int} (hP : Packed c es c') (hn' : (c'.map (·.1)).Nodup) : maxV c' + 1 = (es.length : Int) := by
  have h0 := hP.2.2.1
  have hl := (List.getElem?_eq_some_iff.mp h0).1
  have hr := packed_range hP hn'
  have hlt : maxV c' < es.length := maxV_lt (by omega) fun p hp => (hr p hp).2
  have h1 := maxV_nonneg c'
  by_cases e : es.length = 1
  · omega
  have hlast : es.length - 1 < es.length := by omega
  have hx := List.getElem?_eq_getElem hlast
  rcases (hP.2.1 es[es.length - 1]).mp (List.getElem_mem hlast) with z | ⟨k, hk⟩
  · rw [z] at hx
    have := strict_inj hP.1 h0 hx
    omega
  · rcases hP.2.2.2 k with ⟨a, _⟩ | ⟨x, j, a, b, _, hj⟩
    · rw [hk] at a; cases a
    · rw [hk] at a; cases a
      have := strict_inj hP.1 hj hx
      have := maxV_ge _ (at?_mem b)
      dsimp only at this
      omega
theorem packed_get {c c' : List (Int × Int)} {es : List Int} (hP : Packed c es c') (k : Int) : 0 ≤ (at? c' k).getD 0 ∧ (at? c' k).getD 0 < es.length ∧ es[((at? c' k).getD 0).toNat]? = some ((at? c k).getD 0) := by
  have h0 := hP.2.2.1
  have hl := (List.getElem?_eq_some_iff.mp h0).1
  rcases hP.2.2.2 k with ⟨a, b⟩ | ⟨x, j, a, b, h1, hj⟩
  · rw [a, b]; exact ⟨Int.le_refl _, by simpa using hl, h0⟩
  · rw [a, b]
    have := (List.getElem?_eq_some_iff.mp hj).1
    exact ⟨by simp only [Option.getD_some]; omega, by simp only [Option.getD_some]; omega, hj⟩
section
variable {prog : Program} {w : World} {A : Around} {E : Value → Shared → Prop} {s : Shared} {h₀ : Heap} {L : Addr} {m : Str → Option Value} {news : List (Addr × Obj)}
theorem d_get2 {d : Addr} {o : Obj} {kvs : List (Int × Value)} {c : List (Int × Int)} {k d0 : Int} {t td : Tok} {Q : Value → Shared → Prop} (N : News h₀ L s.heap news) (hp : (d, o) ∈ news) (hd : o.IsDictOf (intKind prog w) kvs) (lo : (d == sysModules) = false) (hIV : IV kvs c)
    (h : ∀ t' tk, Q (.int ((at? c k).getD d0) t') { s with toks := tk }) : wpAny (model prog w) A (call (.builtin "dict.get") [.ref d, .int k t, .int d0 td]) Q E s := by
  refine kdg_get2 N hp hd lo (intKind_is _ _ _ _) _ rfl ?_
  obtain ⟨t', e⟩ := hIV.valueAt_getD k d0 td
  rw [e]; exact h _ _
end
noncomputable def mapN (f : Int → Int) (n : Nat) : List Int := (List.range n).map fun (g : Nat) => f ((0 : Int) + (g : Int))
theorem mapN_succ (f : Int → Int) (n : Nat) : mapN f (n + 1) = mapN f n ++ [f ((0 : Int) + (n : Int))] := by
  unfold mapN; rw [List.range_succ, List.map_append]; rfl
theorem mapN_congr {f g : Int → Int} {n : Nat} (h : ∀ i : Nat, i < n → f ((0 : Int) + (i : Int)) = g ((0 : Int) + (i : Int))) : mapN f n = mapN g n := by
  unfold mapN
  exact List.map_congr_left fun i hi => h i (List.mem_range.mp hi)

/-- the rows in the order of their coming, each once, the plain one first -/
noncomputable def dueStep (ks : List Int) (x : Int) : List Int := if x ∈ ks then ks else ks ++ [x]
noncomputable def due (p : Int) (xs : List Int) : List Int := xs.foldl dueStep [p]
noncomputable def rowsOf (c : List (Int × Int)) (ns : List Int) : List Int := ns.map fun k => (at? c k).getD 0
theorem due_snoc (p : Int) (xs : List Int) (x : Int) : due p (xs ++ [x]) = dueStep (due p xs) x := by
  unfold due; rw [List.foldl_append]; rfl
theorem dueStep_mem {ks : List Int} {x y : Int} : y ∈ dueStep ks x ↔ y ∈ ks ∨ y = x := by
  unfold dueStep
  split
  · rename_i h
    exact ⟨.inl, fun q => q.elim id fun e => e ▸ h⟩
  · rw [List.mem_append, List.mem_singleton]
theorem due_ind {P : List Int → List Int → Prop} (p : Int) (h0 : P [] [p]) (hs : ∀ xs x, P xs (due p xs) → P (xs ++ [x]) (dueStep (due p xs) x)) (xs : List Int) : P xs (due p xs) := by
  suffices h : ∀ n, ∀ xs : List Int, xs.length = n → P xs (due p xs) from h _ xs rfl
  intro n
  induction n with
  | zero => intro xs e; rw [List.length_eq_zero_iff.mp e]; exact h0
  | succ n ih =>
    intro xs e
    have hne : xs ≠ [] := by intro q; rw [q] at e; cases e
    have := hs xs.dropLast (xs.getLast hne) (ih _ (by rw [List.length_dropLast, e]; rfl))
    rw [← due_snoc, List.dropLast_concat_getLast] at this
    exact this
theorem due_mem (p : Int) (xs : List Int) : ∀ y, y ∈ due p xs ↔ y = p ∨ y ∈ xs := by
  refine due_ind (P := fun xs ks => ∀ y, y ∈ ks ↔ y = p ∨ y ∈ xs) p (fun y => by simp) (fun xs x h y => ?_) xs
  rw [dueStep_mem, h, List.mem_append, List.mem_singleton, or_assoc]
theorem due_head (p : Int) (xs : List Int) : ∃ r, due p xs = p :: r := by
  refine due_ind (P := fun xs ks => ∃ r, ks = p :: r) p ⟨[], rfl⟩ (fun xs x h => ?_) xs
  obtain ⟨r, e⟩ := h
  rw [e]
  unfold dueStep
  split
  · exact ⟨r, rfl⟩
  · exact ⟨r ++ [x], rfl⟩
theorem due_nodup (p : Int) (xs : List Int) : (due p xs).Nodup := by
  refine due_ind (P := fun xs ks => ks.Nodup) p (by simp) (fun xs x h => ?_) xs
  unfold dueStep
  split
  · exact h
  · rename_i hx
    rw [List.nodup_append]
    exact ⟨h, by simp, fun a ha b hb => by rw [List.mem_singleton.mp hb]; exact fun e => hx (e ▸ ha)⟩
theorem due_length (p : Int) (xs : List Int) : (due p xs).length ≤ xs.length + 1 := by
  refine due_ind (P := fun xs ks => ks.length ≤ xs.length + 1) p (by simp) (fun xs x h => ?_) xs
  rw [List.length_append, List.length_singleton]
  unfold dueStep
  split
  · omega
  · rw [List.length_append, List.length_singleton]; omega
theorem due_idx_p (p : Int) (xs : List Int) : (due p xs).idxOf p = 0 := by
  obtain ⟨r, e⟩ := due_head p xs
  rw [e]; simp
theorem due_idx_pos {p x : Int} {xs : List Int} (h : x ≠ p) : 0 < (due p xs).idxOf x := by
  obtain ⟨r, e⟩ := due_head p xs
  rw [e, List.idxOf_cons]
  have : (p == x) = false := by simp; exact fun q => h q.symm
  rw [this]; simp
theorem idx_step {ks : List Int} {x y : Int} (h : y ∈ ks) : (dueStep ks x).idxOf y = ks.idxOf y := by
  unfold dueStep
  split
  · rfl
  · rw [List.idxOf_append, if_pos h]
theorem idx_new {ks : List Int} {x : Int} (h : x ∉ ks) : (ks ++ [x]).idxOf x = ks.length := by
  rw [List.idxOf_append, if_neg h]; simp
theorem idx_get {ks : List Int} {x : Int} (h : x ∈ ks) : ks[ks.idxOf x]? = some x := by
  have hl := List.idxOf_lt_length_iff.mpr h
  rw [List.getElem?_eq_getElem hl, List.getElem_idxOf]
/-- the numbers of the rows -/
noncomputable def NmOk (nm : List (Int × Int)) (ks : List Int) : Prop := ∀ x, at? nm x = if x ∈ ks then some (ks.idxOf x : Int) else none
theorem NmOk.start (p : Int) : NmOk [(p, 0)] [p] := by
  intro x
  rw [at?_cons, at?_nil]
  by_cases e : p = x
  · subst e; simp
  · have : ¬ x = p := fun q => e q.symm
    simp [e, this]
theorem NmOk.put {nm : List (Int × Int)} {ks : List Int} (h : NmOk nm ks) {x : Int} (hx : x ∉ ks) : NmOk (putI nm x ks.length) (ks ++ [x]) := by
  intro y
  rw [at?_putI, h y]
  by_cases e : y = x
  · subst e
    rw [if_pos rfl, if_pos (by simp), idx_new hx]
  · rw [if_neg e]
    by_cases hy : y ∈ ks
    · rw [if_pos hy, if_pos (List.mem_append_left _ hy), List.idxOf_append, if_pos hy]
    · rw [if_neg hy, if_neg (by simp [hy, e])]
/-- the classes that the rows give -/
noncomputable def clsOf (p : Int) (ks : List Int) (x : Int) : Option Int := if x = p then none else some (ks.idxOf x : Int)
noncomputable def CqOk (c : List (Int × Int)) (p : Int) (ns ks : List Int) (cq : List (Int × Int)) : Prop := ∀ k, at? cq k = if k ∈ ns then (at? c k).bind (clsOf p ks) else none
theorem CqOk.step {c cq : List (Int × Int)} {p : Int} {ns : List Int} {k x : Int} (h : CqOk c p ns (due p (rowsOf c ns)) cq) (hx : at? c k = some x) :
    (x = p → CqOk c p (ns ++ [k]) (due p (rowsOf c (ns ++ [k]))) cq) ∧ (x ≠ p → CqOk c p (ns ++ [k]) (due p (rowsOf c (ns ++ [k]))) (putI cq k ((due p (rowsOf c (ns ++ [k]))).idxOf x : Int))) := by
  have e : due p (rowsOf c (ns ++ [k])) = dueStep (due p (rowsOf c ns)) x := by
    unfold rowsOf
    rw [List.map_append, List.map_singleton, due_snoc, hx]; rfl
  rw [e]
  have stay : ∀ k', k' ∈ ns → (at? c k').bind (clsOf p (dueStep (due p (rowsOf c ns)) x)) = (at? c k').bind (clsOf p (due p (rowsOf c ns))) := by
    intro k' hk'
    cases hc : at? c k' with
    | none => rfl
    | some x' =>
      simp only [Option.bind_some, clsOf]
      rw [idx_step ((due_mem _ _ _).mpr (.inr ?_))]
      exact List.mem_map.mpr ⟨k', hk', by rw [hc]; rfl⟩
  constructor
  · intro hp k'
    rw [h k']
    by_cases hk : k' ∈ ns
    · rw [if_pos hk, if_pos (List.mem_append_left _ hk), stay k' hk]
    · rw [if_neg hk]
      by_cases e' : k' = k
      · subst e'
        rw [if_pos (by simp), hx]
        simp [clsOf, hp]
      · rw [if_neg (by simp [hk, e'])]
  · intro hp k'
    rw [at?_putI]
    by_cases e' : k' = k
    · subst e'
      rw [if_pos rfl, if_pos (by simp), hx]
      simp [clsOf, hp]
    · rw [if_neg e', h k']
      by_cases hk : k' ∈ ns
      · rw [if_pos hk, if_pos (List.mem_append_left _ hk), stay k' hk]
      · rw [if_neg hk, if_neg (by simp [hk, e'])]
/-- what classes_of_rows gives -/
noncomputable def Rowed (c : List (Int × Int)) (p : Int) (ns ks : List Int) (cq : List (Int × Int)) : Prop :=
  ns.Perm (c.map (·.1)) ∧ ns.Pairwise (· ≤ ·) ∧ ks = due p (rowsOf c ns) ∧ ∀ k, at? cq k = (at? c k).bind (clsOf p ks)
theorem Rowed.intro {c cq : List (Int × Int)} {p : Int} {ns : List Int} (h1 : ns.Perm (c.map (·.1))) (h2 : ns.Pairwise (· ≤ ·)) (h : CqOk c p ns (due p (rowsOf c ns)) cq) : Rowed c p ns (due p (rowsOf c ns)) cq := by
  refine ⟨h1, h2, rfl, fun k => ?_⟩
  rw [h k]
  by_cases hk : k ∈ ns
  · rw [if_pos hk]
  · rw [if_neg hk, at?_none.mpr (fun q => hk (h1.mem_iff.mpr q))]; rfl
theorem jm2_any {m : Str → Option Value} {x z : Str} : ∃ u v, m = fun y => if y = x then u else if y = z then v else m y :=
  ⟨m x, m z, funext fun y => by
    by_cases h : y = x
    · subst h; simp
    · by_cases h2 : y = z
      · subst h2
        rw [if_neg h, if_pos rfl]
      · simp [h, h2]⟩
theorem jm2_next2 {m : Str → Option Value} {x z : Str} {a b u v : Option Value} (hxz : x ≠ z) : ∃ u' v', (fun y => if y = z then a else if y = x then b else if y = x then u else if y = z then v else m y) = fun y => if y = x then u' else if y = z then v' else m y :=
  (jm2_next hxz).elim fun u' e => ⟨u', a, e⟩
inductive JRows (w : World) (m₀ : Str → Option Value) (c : List (Int × Int)) (p : Int) (srt : Addr × Obj) (dcl El dn : Addr) (ts rest : List (Addr × Obj)) (ns : List Int) (i : Nat) : (Str → Option Value) → List (Addr × Obj) → Prop
  | mk (u v : Option Value) (oN : Obj) (nm : List (Int × Int)) (evs : List Value) (ne : Nat) (oC : Obj) (kvsC : List (Int × Value)) (cq : List (Int × Int)) (hN : TKD w ts oN nm) (hE : LV (TV ts) evs (due p (rowsOf c (ns.take i)))) (hnm : NmOk nm (due p (rowsOf c (ns.take i)))) (hnl : nm.length ≤ i + 1)
      (hC : oC.IsDictOf (intKind PROG w) kvsC) (hv : IV kvsC cq) (hl : kvsC.length ≤ i) (hq : CqOk c p (ns.take i) (due p (rowsOf c (ns.take i))) cq) :
      JRows w m₀ c p srt dcl El dn ts rest ns i (fun y => if y = Str.ofString "glyph" then u else if y = Str.ofString "row" then v else m₀ y) (srt :: (dcl, oC) :: (El, listOf evs.toArray ne) :: (dn, oN) :: rest)
theorem JRows.of {w : World} {m₀ m : Str → Option Value} {c : List (Int × Int)} {p : Int} {srt : Addr × Obj} {dcl El dn : Addr} {ts rest : List (Addr × Obj)} {ns : List Int} {i : Nat} {oN : Obj} {nm : List (Int × Int)} {evs : List Value} {ne : Nat} {oC : Obj} {kvsC : List (Int × Value)} {cq : List (Int × Int)}
    (hm : ∃ u v, m = fun y => if y = Str.ofString "glyph" then u else if y = Str.ofString "row" then v else m₀ y) (hN : TKD w ts oN nm) (hE : LV (TV ts) evs (due p (rowsOf c (ns.take i)))) (hnm : NmOk nm (due p (rowsOf c (ns.take i)))) (hnl : nm.length ≤ i + 1)
    (hC : oC.IsDictOf (intKind PROG w) kvsC) (hv : IV kvsC cq) (hl : kvsC.length ≤ i) (hq : CqOk c p (ns.take i) (due p (rowsOf c (ns.take i))) cq) :
    JRows w m₀ c p srt dcl El dn ts rest ns i m (srt :: (dcl, oC) :: (El, listOf evs.toArray ne) :: (dn, oN) :: rest) := by
  obtain ⟨u, v, rfl⟩ := hm; exact ⟨u, v, oN, nm, evs, ne, oC, kvsC, cq, hN, hE, hnm, hnl, hC, hv, hl, hq⟩
theorem TV.ref {ts : List (Addr × Obj)} {v : Value} {c : Int} (h : TV ts v c) : ∃ a, v = .ref a := let ⟨a, _, _, _, _, e, _, _⟩ := h; ⟨a, e⟩
inductive RefV : Value → Prop
  | mk (a : Addr) : RefV (.ref a)
theorem TV.refV {ts : List (Addr × Obj)} {v : Value} {c : Int} (h : TV ts v c) : RefV v := by obtain ⟨a, rfl⟩ := h.ref; exact ⟨a⟩
theorem due_take {c : List (Int × Int)} {ns : List Int} {p : Int} {i : Nat} {k x : Int} (hk : ns[i]? = some k) (hx : at? c k = some x) : due p (rowsOf c (ns.take (i + 1))) = dueStep (due p (rowsOf c (ns.take i))) x := by
  rw [List.take_add_one, hk]
  unfold rowsOf
  rw [List.map_append]
  simp only [Option.toList, List.map_singleton]
  rw [due_snoc, hx]; rfl
theorem CqOk.take {c cq : List (Int × Int)} {ns : List Int} {p : Int} {i : Nat} {k x : Int} (hk : ns[i]? = some k) (hx : at? c k = some x) (h : CqOk c p (ns.take i) (due p (rowsOf c (ns.take i))) cq) :
    (x = p → CqOk c p (ns.take (i + 1)) (due p (rowsOf c (ns.take (i + 1)))) cq) ∧ (x ≠ p → CqOk c p (ns.take (i + 1)) (due p (rowsOf c (ns.take (i + 1)))) (putI cq k ((due p (rowsOf c (ns.take (i + 1)))).idxOf x : Int))) := by
  have e : ns.take (i + 1) = ns.take i ++ [k] := by rw [List.take_add_one, hk]; rfl
  rw [e]; exact h.step hx
theorem CqOk.start {c : List (Int × Int)} {p : Int} {ns ks : List Int} : CqOk c p (ns.take 0) ks [] := fun k => by simp [at?_nil]
theorem putI_length (c : List (Int × Int)) (k v : Int) : (putI c k v).length ≤ c.length + 1 := by
  unfold putI
  split
  · rw [List.length_map]; omega
  · rw [List.length_append]; exact Nat.le_refl _
section
variable {prog : Program} {w : World} {A : Around} {E : Value → Shared → Prop} {s : Shared} {h₀ : Heap} {L : Addr} {news : List (Addr × Obj)} {R : Value → Int → Prop}
theorem ll_len {l : Addr} {vs : List Value} {cs : List Int} {n : Nat} {Q : Value → Shared → Prop} (N : News h₀ L s.heap news) (hm : (l, listOf vs.toArray n) ∈ news) (hv : LV R vs cs) (hlen : cs.length ≤ 1000)
    (h : ∀ t tk, Q (.int (cs.length : Int) t) { s with toks := tk }) : wpAny (model prog w) A (call (.builtin "len") [.ref l]) Q E s := by
  have e : vs.toArray.size = cs.length := by simp [hv.length]
  refine len_list (isList_of N hm) (by rw [e]; omega) ?_
  rw [e]; exact h _ _
end
theorem due_take_len (p : Int) (c : List (Int × Int)) (ns : List Int) (i : Nat) : (due p (rowsOf c (ns.take i))).length ≤ i + 1 := by
  have := due_length p (rowsOf c (ns.take i))
  simp only [rowsOf, List.length_map, List.length_take] at this
  simp only [rowsOf]
  omega
section
variable {A : Around} {s : Shared} {h₀ h : Heap} {L : Addr} {news ts : List (Addr × Obj)}
theorem funR_ts (N : News h₀ L h news) (hs : ∀ p ∈ ts, p ∈ news) : FunR (TV ts) := fun v c c' h1 h2 => funR_tup N v c c' (h1.mono hs) (h2.mono hs)
theorem eqR_ts (N : News h₀ L s.heap news) (hs : ∀ p ∈ ts, p ∈ news) (hu : A.units < cLine) : EqR A s (TV ts) (TV ts) := fun v c v' c' h1 h2 => eqR_tup N hu v c v' c' (h1.mono hs) (h2.mono hs)
end
inductive JDue (m₀ : Str → Option Value) (c : List (Int × Int)) (p : Int) (srt : Addr × Obj) (El : Addr) (ts tail : List (Addr × Obj)) (ns : List Int) (i : Nat) : (Str → Option Value) → List (Addr × Obj) → Prop
  | mk (u : Option Value) (evs : List Value) (ne : Nat) (h : LV (TV ts) evs (due p (rowsOf c (ns.take i)))) : JDue m₀ c p srt El ts tail ns i (fun y => if y = Str.ofString "glyph" then u else m₀ y) (srt :: (El, listOf evs.toArray ne) :: tail)
theorem JDue.of {m₀ m : Str → Option Value} {c : List (Int × Int)} {p : Int} {srt : Addr × Obj} {El : Addr} {ts tail : List (Addr × Obj)} {ns : List Int} {i : Nat} {evs : List Value} {ne : Nat} (hm : ∃ u, m = fun y => if y = Str.ofString "glyph" then u else m₀ y) (h : LV (TV ts) evs (due p (rowsOf c (ns.take i)))) : JDue m₀ c p srt El ts tail ns i m (srt :: (El, listOf evs.toArray ne) :: tail) := by
  obtain ⟨u, rfl⟩ := hm; exact ⟨u, evs, ne, h⟩
/-- pairs told by codes -/
noncomputable def encP (prs : List (Int × Int)) : List Int := prs.map fun q => q.1 * 65536 + q.2
theorem foldl_put : ∀ (prs acc : List (Int × Int)), ((acc ++ prs).map (·.1)).Nodup → prs.foldl (fun c q => putI c q.1 q.2) acc = acc ++ prs
  | [], acc, _ => by simp
  | q :: prs, acc, h => by
    have h1 : at? acc q.1 = none := at?_none.mpr fun hm => by
      rw [List.map_append, List.map_cons, List.nodup_append] at h
      exact h.2.2 _ hm _ (.head _) rfl
    rw [List.foldl_cons, putI_new h1]
    rw [foldl_put prs (acc ++ [(q.1, q.2)]) (by simpa using h)]
    simp
theorem pairsD_enc {prs : List (Int × Int)} (hb : ∀ q ∈ prs, 0 ≤ q.2 ∧ q.2 < 65536) (hn : (prs.map (·.1)).Nodup) : pairsD (encP prs) = prs := by
  have e : ∀ (prs acc : List (Int × Int)), (∀ q ∈ prs, 0 ≤ q.2 ∧ q.2 < 65536) → (encP prs).foldl (fun c q => putI c (q / 65536) (q % 65536)) acc = prs.foldl (fun c q => putI c q.1 q.2) acc := by
    intro prs
    induction prs with
    | nil => intro acc _; rfl
    | cons q prs ih =>
      intro acc h
      have hq := h q (.head _)
      show (encP prs).foldl _ (putI acc ((q.1 * 65536 + q.2) / 65536) ((q.1 * 65536 + q.2) % 65536)) = _
      rw [(code_split hq.1 hq.2).1, (code_split hq.1 hq.2).2, ih _ fun r hr => h r (.tail _ hr)]
      rfl
  unfold pairsD
  rw [e prs [] hb, foldl_put prs [] (by simpa using hn)]
  simp
/-- the pairs of a dict whose values f takes -/
noncomputable def sel (f : Int → Option Int) (c : List (Int × Int)) : List (Int × Int) := c.filterMap fun q => (f q.2).map fun j => (q.1, j)
theorem sel_take {f : Int → Option Int} {c : List (Int × Int)} {i : Nat} {k x : Int} (h : c[i]? = some (k, x)) : sel f (c.take (i + 1)) = sel f (c.take i) ++ ((f x).map fun j => (k, j)).toList := by
  unfold sel
  rw [List.take_add_one, h, List.filterMap_append]
  congr 1
theorem sel_keys {f : Int → Option Int} {c : List (Int × Int)} {k : Int} (h : k ∈ (sel f c).map (·.1)) : k ∈ c.map (·.1) := by
  obtain ⟨q, hq, rfl⟩ := List.mem_map.mp h
  obtain ⟨r, hr, e⟩ := List.mem_filterMap.mp hq
  obtain ⟨j, _, rfl⟩ := Option.map_eq_some_iff.mp e
  exact List.mem_map.mpr ⟨r, hr, rfl⟩
theorem sel_nodup {f : Int → Option Int} {c : List (Int × Int)} (hn : (c.map (·.1)).Nodup) : ((sel f c).map (·.1)).Nodup := by
  induction c with
  | nil => exact List.nodup_nil
  | cons q c ih =>
    rw [List.map_cons, List.nodup_cons] at hn
    unfold sel
    rw [List.filterMap_cons]
    cases hf : f q.2 with
    | none => exact ih hn.2
    | some j =>
      simp only [Option.map_some, List.map_cons, List.nodup_cons]
      exact ⟨fun h => hn.1 (sel_keys h), ih hn.2⟩
theorem at?_sel {f : Int → Option Int} {c : List (Int × Int)} (hn : (c.map (·.1)).Nodup) (k : Int) : at? (sel f c) k = (at? c k).bind f := by
  induction c with
  | nil => rfl
  | cons q c ih =>
    rw [List.map_cons, List.nodup_cons] at hn
    have ih' := ih hn.2
    unfold sel at ih' ⊢
    rw [List.filterMap_cons, at?_cons]
    by_cases e : q.1 = k
    · rw [if_pos e]
      cases hf : f q.2 with
      | none =>
        simp only [Option.map_none, Option.bind_some, hf]
        exact at?_none.mpr fun h => hn.1 (e ▸ sel_keys h)
      | some j =>
        simp only [Option.map_some, Option.bind_some, hf]
        rw [at?_cons, if_pos e]
    · rw [if_neg e]
      cases hf : f q.2 with
      | none => simpa [hf] using ih'
      | some j =>
        simp only [Option.map_some]
        rw [at?_cons, if_neg e]; exact ih'
theorem encP_append (a b : List (Int × Int)) : encP (a ++ b) = encP a ++ encP b := List.map_append
/-- a ledger whose tail grows -/
inductive JTl (front : List (Addr × Obj)) (ts : List (Addr × Obj)) (codes : Nat → List Int) (i : Nat) (ys : List Value) : List (Addr × Obj) → Prop
  | mk (tl : List (Addr × Obj)) (hs : ∀ p ∈ ts, p ∈ tl) (hv : LV (TV tl) ys (codes i)) : JTl front ts codes i ys (front ++ tl)
theorem JTl.of {front ts tl nx : List (Addr × Obj)} {codes : Nat → List Int} {i : Nat} {ys : List Value} (hnx : nx = front ++ tl) (hs : ∀ p ∈ ts, p ∈ tl) (hv : LV (TV tl) ys (codes i)) : JTl front ts codes i ys nx := hnx ▸ ⟨tl, hs, hv⟩
inductive DTAt (kvs : List (Int × Value)) (c : List (Int × Int)) (ts : List (Addr × Obj)) (i : Nat) : Value → Prop
  | mk (k : Int) (a : Addr) (x : Int) (t : Tok) (h : kvs[i]? = some (k, .ref a)) (hv : TV ts (.ref a) x) (hc : c[i]? = some (k, x)) : DTAt kvs c ts i (.int k t)
theorem dtat {prog : Program} {w : World} {kvs : List (Int × Value)} {c : List (Int × Int)} {ts : List (Addr × Obj)} {i : Nat} {v : Value} (h : ∃ k x, kvs[i]? = some (k, x) ∧ (intKind prog w).is k v = true) (hD : DV (TV ts) kvs c) : DTAt kvs c ts i v := by
  obtain ⟨k, y, t, hk⟩ := dat h
  obtain ⟨x, hv, hc⟩ := hD.get hk
  obtain ⟨a, rfl⟩ := hv.ref
  exact ⟨k, a, x, t, hk, hv, hc⟩
inductive KTAt (kvs : List (Int × Value)) (c : List (Int × Int)) (ts : List (Addr × Obj)) (ns : List Int) (i : Nat) : Value → Prop
  | mk (k : Int) (t : Tok) (x : Int) (a : Addr) (hk : ns[i]? = some k) (hx : at? c k = some x) (hval : valueAt kvs k = some (.ref a)) (hv : TV ts (.ref a) x) : KTAt kvs c ts ns i (.int k t)
theorem ktat {vs : List Value} {kvs : List (Int × Value)} {c : List (Int × Int)} {ts : List (Addr × Obj)} {ns : List Int} {i : Nat} {v : Value} (hI : IntsAre vs ns) (e : vs[i]? = some v) (hD : DV (TV ts) kvs c) (hp : ns.Perm (kvs.map (·.1))) : KTAt kvs c ts ns i v := by
  obtain ⟨k, t, hk⟩ := iat hI e
  obtain ⟨x, hx⟩ := at?_keys.mp (show k ∈ c.map (·.1) by rw [← hD.keys]; exact hp.mem_iff.mp (List.mem_of_getElem? hk))
  obtain ⟨y, hval, hv⟩ := hD.valueAt_some hx
  obtain ⟨a, rfl⟩ := hv.ref
  exact ⟨k, t, x, a, hk, hx, hval, hv⟩
inductive VTAt (ts : List (Addr × Obj)) (cs : List Int) (i : Nat) : Value → Prop
  | mk (a : Addr) (x : Int) (h : cs[i]? = some x) (hv : TV ts (.ref a) x) : VTAt ts cs i (.ref a)
theorem vtat {ts : List (Addr × Obj)} {vs : List Value} {cs : List Int} {i : Nat} {v : Value} (h : LV (TV ts) vs cs) (e : vs[i]? = some v) : VTAt ts cs i v := by
  obtain ⟨x, hx, hv⟩ := h.get e
  obtain ⟨a, rfl⟩ := hv.ref
  exact ⟨a, x, hx, hv⟩
theorem front_nil {r : List (Addr × Obj)} : r = [] ++ r := rfl
theorem front_cons {a : Addr × Obj} {l front r : List (Addr × Obj)} (h : l = front ++ r) : a :: l = (a :: front) ++ r := by rw [h]; rfl
theorem off_cons {T : Addr} {o : Obj} {nx nx' fixed : List (Addr × Obj)} (hs : ∀ p ∈ nx', p ∈ (T, o) :: nx) (off : ∀ p ∈ nx, ∀ q ∈ fixed, p.1 ≠ q.1) (hT : ∀ q ∈ fixed, T ≠ q.1) : ∀ p ∈ nx', ∀ q ∈ fixed, p.1 ≠ q.1 := fun p hp q hq => by
  rcases List.mem_cons.mp (hs p hp) with rfl | h
  · exact hT q hq
  · exact off p h q hq
theorem ne3 {T I C D : Addr} {a b c : Obj} (h1 : @LT.lt Nat _ I T) (h2 : @LT.lt Nat _ C T) (h3 : @LT.lt Nat _ D T) : ∀ q ∈ [(I, a), (C, b), (D, c)], T ≠ q.1 := fun q hq => by
  rcases List.mem_cons.mp hq with rfl | hq
  · exact Nat.ne_of_gt h1
  rcases List.mem_cons.mp hq with rfl | hq
  · exact Nat.ne_of_gt h2
  rw [List.mem_singleton.mp hq]; exact Nat.ne_of_gt h3
theorem Rowed.mem {c cq : List (Int × Int)} {p : Int} {ns ks : List Int} (h : Rowed c p ns ks cq) (hn : (c.map (·.1)).Nodup) {q : Int × Int} (hq : q ∈ c) : q.2 ∈ ks := by
  rw [h.2.2.1, due_mem]
  refine .inr (List.mem_map.mpr ⟨q.1, h.1.mem_iff.mpr (List.mem_map.mpr ⟨q, hq, rfl⟩), ?_⟩)
  rw [at?_of_mem (k := q.1) (v := q.2) hn hq]; rfl
theorem sel_len (f : Int → Option Int) (c : List (Int × Int)) : (encP (sel f c)).length ≤ c.length := by
  unfold encP sel
  rw [List.length_map]
  exact List.length_filterMap_le _ _
theorem cls_bound {p : Int} {ks : List Int} {c : List (Int × Int)} (hk : ks.length < 65536) (hm : ∀ q ∈ c, q.2 ∈ ks) : ∀ q ∈ sel (clsOf p ks) c, 0 ≤ q.2 ∧ q.2 < 65536 := by
  intro q hq
  obtain ⟨r, hr, e⟩ := List.mem_filterMap.mp hq
  obtain ⟨j, hj, rfl⟩ := Option.map_eq_some_iff.mp e
  unfold clsOf at hj
  split at hj
  · cases hj
  · cases hj
    have := List.idxOf_lt_length_iff.mpr (hm r hr)
    exact ⟨by dsimp only; omega, by dsimp only; omega⟩
theorem rowed_get {c cq : List (Int × Int)} {p : Int} {ns ks : List Int} (h : Rowed c p ns ks cq) (hn : (c.map (·.1)).Nodup) (k : Int) : 0 ≤ (at? cq k).getD 0 ∧ (at? cq k).getD 0 < ks.length ∧ ks[((at? cq k).getD 0).toNat]? = some ((at? c k).getD p) := by
  obtain ⟨r, hr⟩ := due_head p (rowsOf c ns)
  have h0 : ks[0]? = some p := by rw [h.2.2.1, hr]; rfl
  have hl := (List.getElem?_eq_some_iff.mp h0).1
  rw [h.2.2.2 k]
  cases hc : at? c k with
  | none => exact ⟨Int.le_refl _, by simpa using hl, h0⟩
  | some x =>
    have hm : x ∈ ks := h.mem (q := (k, x)) hn (at?_mem hc)
    have hi := List.idxOf_lt_length_iff.mpr hm
    simp only [Option.bind_some, clsOf, Option.getD_some]
    split
    · rename_i e
      exact ⟨Int.le_refl _, by simpa using hl, by rw [e]; exact h0⟩
    · exact ⟨by simp only [Option.getD_some]; omega, by simp only [Option.getD_some]; omega, by simpa using idx_get hm⟩

section Rows

local macro_rules | `(tactic| walk_at "subscriptTail Name Name ref ref") => `(tactic| (k_here; k_dflt (refine' tk_item ?u ?N ?pm ?T ?hs ?hv ?hl ?_; (case u => k_units); (case N => k_asm); (case pm => k_mem); (case T => with_reducible assumption); (case hs => (repeat (first | with_reducible assumption | with_reducible exact sub_same | refine sub_tail ?_))); (case hv => with_reducible assumption); (case hl => with_reducible assumption); intro _ _)))
local macro_rules | `(tactic| walk_at "setItem ref ref") => `(tactic| (k_here; k_dflt (refine' tk_set ?u ?F ?N ?U ?T ?hs ?hv ?sz ?_; (case u => k_units); (case F => k_asm); (case N => k_asm); (case U => k_updF); (case T => with_reducible assumption); (case hs => (repeat (first | with_reducible assumption | with_reducible exact sub_same | refine sub_tail ?_))); (case hv => with_reducible assumption); (case sz => first | decide | omega)); intro h' o' tk' F' N' T'; (try dsimp only at N')))
local macro_rules | `(tactic| walk_at "call builtin:len") => `(tactic| (k_here; k_dflt (refine' ll_len ?N ?pm ?hv ?sz ?_; (case N => k_asm); (case pm => k_mem); (case hv => with_reducible assumption); (case sz => first | decide | omega)); intro _ _))


set_option maxRecDepth 100000 in
set_option maxHeartbeats 0 in
theorem rows_c (w : World) : PySem.Challenge.rw_nu0148_01 = PySem.Challenge.rw_nu0148_01 →
  ∀ (loose : List Str) (mean : ExcName → Option Value) (mg mb : Str → Option Value) (dp un : Nat) (gd : Option (List Code)) (cn : Str) (cs : Scope) (a : Addr) (ccd : Value) (cl : List (Str × Addr)) (outer : List Env) (A₀ : Around) (base h₀ : Heap) (L : Addr) (m : Str → Option Value) (s : Shared) (Q E : Value → Shared → Prop)
  (d pa : Addr) (px py : Int) (tp up : Tok) (od : Obj) (kvs : List (Int × Value)) (c : List (Int × Int)) (ts rest : List (Addr × Obj)),
  Below A₀ base outer h₀ → Fr h₀ L s.heap m → (hd.heap_39 w.params).In h₀ → News h₀ L s.heap ((d, od) :: (pa, tupO px py tp up) :: rest) → Top hd.view_39 loose mean mg mb h₀ → cs.kind = .function → dp + 4 < recursionLimit → un + 40 < cLine →
  od.IsDictOf (intKind PROG w) kvs → (d == sysModules) = false → (∀ p ∈ ts, p ∈ rest) → DV (TV ts) kvs c → kvs.length ≤ 30 → (pa, tupO px py tp up) ∈ ts → 0 ≤ px → px < 65536 → 0 ≤ py → py < 65536 →
  (∀ T X' D' t1' d' od' kvs' c' El evs ne ns ks h' tk', Fr h₀ L h' m → News h₀ L h' ((T, ({ cls := .type "tuple", data := .seq #[.ref X', .ref El] } : Obj)) :: (X', instObj 66 D') :: (D', clsDict w t1' (.ref d')) :: (d', od') :: (El, listOf evs.toArray ne) :: (d, od) :: (pa, tupO px py tp up) :: rest) →
    (∀ q ∈ (d, od) :: (pa, tupO px py tp up) :: rest, @LT.lt Nat _ q.1 T) → (∀ q ∈ (d, od) :: (pa, tupO px py tp up) :: rest, @LT.lt Nat _ q.1 X') → (∀ q ∈ (d, od) :: (pa, tupO px py tp up) :: rest, @LT.lt Nat _ q.1 D') → (∀ q ∈ (d, od) :: (pa, tupO px py tp up) :: rest, @LT.lt Nat _ q.1 d') → (∀ q ∈ (d, od) :: (pa, tupO px py tp up) :: rest, @LT.lt Nat _ q.1 El) →
    od'.IsDictOf (intKind PROG w) kvs' → (d' == sysModules) = false → IV kvs' c' → kvs'.length ≤ kvs.length → LV (TV ts) evs ks → ks.length ≤ kvs.length + 1 → Rowed c (px * 65536 + py) ns ks c' → Q (.ref T) { s with heap := h', toks := tk' }) →
  wpAny (model PROG w) (ktrTop dp un gd cn cs L a ccd cl outer) (call (.ref 87) [.ref d, .ref pa]) Q E s := by
  w_top off
  k_fill
  intro _ loose mean mg mb dp un gd cn cs a ccd cl outer A₀ base h₀ L m s Q E d pa px py tp up od kvs c ts rest B F KX N T hk hdp hun hD lo hts hDV hlen hpm hx0 hx1 hy0 hy1 hret
  have hpv : TV ts (.ref pa) (px * 65536 + py) := ⟨pa, px, py, tp, up, rfl, hpm, hx0, hx1, hy0, hy1, rfl⟩
  refine wpAny_call ?_
  k_dflt ktr_enter
  (repeat' ((fail_if_success (with_reducible refine Stop.in ?_)); first | (k_unfold; (try dsimp only)) | (k_end; wrow_close) | ((with_reducible show wpAny _ _ (eval _ _) _ _ _); (first | with_reducible show wpAny _ _ (eval (Expr.Dict (_ :: _) _ _) _) _ _ _ | with_reducible show wpAny _ _ (eval (Expr.ListComp _ _ _ _) _) _ _ _ | with_reducible show wpAny _ _ (eval (Expr.DictComp _ _ _ _ _) _) _ _ _); refine Stop.out ?_) | ((with_reducible show wpAny _ _ (exec _ _) _ _ _); (first | with_reducible show wpAny _ _ (exec (Stmt.Assign _ (Expr.Dict (_ :: _) _ _) _) _) _ _ _ | with_reducible show wpAny _ _ (exec (Stmt.Assign (_ :: _) (Expr.ListComp _ _ _ _) _) _) _ _ _); refine Stop.out ?_) | ((with_reducible show wpAny _ _ (compareOp _ _ _) _ _ _); (first | with_reducible show wpAny _ _ (compareOp CmpOp.NotIn (Value.ref _) (Value.ref _)) _ _ _); refine Stop.out ?_) | ((with_reducible show wpAny _ _ (pyIter _) _ _ _); (first | with_reducible show wpAny _ _ (pyIter (Value.ref _)) _ _ _); refine Stop.out ?_) |  walk1 | (dsimp only; walk1) | (leave1; walk_say "STEP leave1"; try dsimp only) | fail "no step"))
  refine Stop.in ?_
  refine wpAny_Assign_Name ?_
  k_dflt (refine' Dict_tk ?F ?N ?big ?a1 ?a2 ?a3 ?a4 ?_; (case F => k_asm); (case N => k_asm); (case big => exact modules_low (Top.nolimit (by k_asm))); (case a1 => rfl); (case a2 => rfl); (case a3 => exact List.cons_ne_nil _ _); (case a4 => decide))
  intro dn h1 _ F1 N1 lon ln
  k_lt ln
  (repeat' ((fail_if_success (with_reducible refine Stop.in ?_)); first | (k_unfold; (try dsimp only)) | (k_end; wrow_close) | ((with_reducible show wpAny _ _ (eval _ _) _ _ _); (first | with_reducible show wpAny _ _ (eval (Expr.Dict (_ :: _) _ _) _) _ _ _ | with_reducible show wpAny _ _ (eval (Expr.ListComp _ _ _ _) _) _ _ _ | with_reducible show wpAny _ _ (eval (Expr.DictComp _ _ _ _ _) _) _ _ _); refine Stop.out ?_) | ((with_reducible show wpAny _ _ (exec _ _) _ _ _); (first | with_reducible show wpAny _ _ (exec (Stmt.Assign _ (Expr.Dict (_ :: _) _ _) _) _) _ _ _ | with_reducible show wpAny _ _ (exec (Stmt.Assign (_ :: _) (Expr.ListComp _ _ _ _) _) _) _ _ _); refine Stop.out ?_) | ((with_reducible show wpAny _ _ (compareOp _ _ _) _ _ _); (first | with_reducible show wpAny _ _ (compareOp CmpOp.NotIn (Value.ref _) (Value.ref _)) _ _ _); refine Stop.out ?_) | ((with_reducible show wpAny _ _ (pyIter _) _ _ _); (first | with_reducible show wpAny _ _ (pyIter (Value.ref _)) _ _ _); refine Stop.out ?_) |  walk1 | (dsimp only; walk1) | (leave1; walk_say "STEP leave1"; try dsimp only) | fail "no step"))
  k_dflt (refine' Stores.one ?u ?F ?N hpv ?hs ?hd ?_; (case u => k_units); (case F => k_asm); (case N => k_asm); (case hs => exact fun p hp => .tail _ (.tail _ (hts p hp))); (case hd => k_all))
  intro h2 on tk2 F2 N2 hT
  try dsimp only
  (repeat' ((fail_if_success (with_reducible refine Stop.in ?_)); first | (k_unfold; (try dsimp only)) | (k_end; wrow_close) | ((with_reducible show wpAny _ _ (eval _ _) _ _ _); (first | with_reducible show wpAny _ _ (eval (Expr.Dict (_ :: _) _ _) _) _ _ _ | with_reducible show wpAny _ _ (eval (Expr.ListComp _ _ _ _) _) _ _ _ | with_reducible show wpAny _ _ (eval (Expr.DictComp _ _ _ _ _) _) _ _ _); refine Stop.out ?_) | ((with_reducible show wpAny _ _ (exec _ _) _ _ _); (first | with_reducible show wpAny _ _ (exec (Stmt.Assign _ (Expr.Dict (_ :: _) _ _) _) _) _ _ _ | with_reducible show wpAny _ _ (exec (Stmt.Assign (_ :: _) (Expr.ListComp _ _ _ _) _) _) _ _ _); refine Stop.out ?_) | ((with_reducible show wpAny _ _ (compareOp _ _ _) _ _ _); (first | with_reducible show wpAny _ _ (compareOp CmpOp.NotIn (Value.ref _) (Value.ref _)) _ _ _); refine Stop.out ?_) | ((with_reducible show wpAny _ _ (pyIter _) _ _ _); (first | with_reducible show wpAny _ _ (pyIter (Value.ref _)) _ _ _); refine Stop.out ?_) |  walk1 | (dsimp only; walk1) | (leave1; walk_say "STEP leave1"; try dsimp only) | fail "no step"))
  (with_reducible rename (Obj.IsDictOf (intKind _ _) _ []) => hC0)
  (with_reducible rename ((_ == sysModules) = false) => loC)
  rename_i D2 v2 n2 c2 h3 tk3 F3 N3 i2 e2 p2 o2 l2
  refine Stop.in ?_
  refine for_src (Src.list D2 v2.toArray c2) (JRows w _ c (px * 65536 + py) _ _ _ _ ts _ n2) (by with_unfolding_all rfl) F3 N3 trivial ?hK (JRows.of (evs := [.ref pa]) jm2_any hT (.cons hpv .nil) (NmOk.start _) (Nat.le_refl _) hC0 .nil (Nat.le_refl _) CqOk.start) ?turn ?done
  case hK => rintro i m nx ⟨_, _, oN, nm, evs, ne, oC, kvsC, cq, _⟩ p hp; rw [List.mem_singleton.mp hp]; exact .head _
  case turn =>
    intro i u m₁ nx I oI h tk hi hu hz0; refine JRows.casesOn hz0 ?_; intro u₀ v₀ oN nm evs ne oC kvsC cq hTN hev hnm hnl hC hcv hcl hcq; refine KTAt.casesOn (ktat (i := i) (v := u) i2 (by simpa using hu) hDV p2) ?_; intro k t x ra hk hx hval hv; intro hne F1 N1
    try k_fold
    have hdue := due_take (p := px * 65536 + py) hk hx
    obtain ⟨hst1, hst2⟩ := hcq.take hk hx
    have hpd := due_idx_p (px * 65536 + py) (rowsOf c (n2.take (i + 1)))
    have hpp := fun q : x ≠ px * 65536 + py => due_idx_pos (p := px * 65536 + py) (xs := rowsOf c (n2.take (i + 1))) q
    have hId := neNat (hne _ (.tail _ (.head _)))
    have hIE := neNat (hne _ (.tail _ (.tail _ (.head _))))
    have hIn := neNat (hne _ (.tail _ (.tail _ (.tail _ (.head _)))))
    dsimp only at hId hIE hIn
    have hil : i < 30 := by have := i2.length; simp at hi; omega
    have hkl2 := due_take_len (px * 65536 + py) c n2 i
    rw [hdue] at hst1 hst2 hpd hpp
    generalize hG : due (px * 65536 + py) (rowsOf c (n2.take i)) = ks at *
    have hkl := hev.length
    (repeat' ((fail_if_success (with_reducible refine Stop.in ?_)); first | (k_unfold; (try dsimp only)) | (k_end; wrow_close) | ((with_reducible show wpAny _ _ (eval _ _) _ _ _); (first | with_reducible show wpAny _ _ (eval (Expr.Dict (_ :: _) _ _) _) _ _ _ | with_reducible show wpAny _ _ (eval (Expr.ListComp _ _ _ _) _) _ _ _ | with_reducible show wpAny _ _ (eval (Expr.DictComp _ _ _ _ _) _) _ _ _); refine Stop.out ?_) | ((with_reducible show wpAny _ _ (exec _ _) _ _ _); (first | with_reducible show wpAny _ _ (exec (Stmt.Assign _ (Expr.Dict (_ :: _) _ _) _) _) _ _ _ | with_reducible show wpAny _ _ (exec (Stmt.Assign (_ :: _) (Expr.ListComp _ _ _ _) _) _) _ _ _); refine Stop.out ?_) | ((with_reducible show wpAny _ _ (compareOp _ _ _) _ _ _); (first | with_reducible show wpAny _ _ (compareOp CmpOp.NotIn (Value.ref _) (Value.ref _)) _ _ _); refine Stop.out ?_) | ((with_reducible show wpAny _ _ (pyIter _) _ _ _); (first | with_reducible show wpAny _ _ (pyIter (Value.ref _)) _ _ _); refine Stop.out ?_) |  walk1 | (dsimp only; walk1) | (leave1; walk_say "STEP leave1"; try dsimp only) | fail "no step"))
    refine Stop.in ?_
    k_dflt (refine' tk_notin2 ?u ?N ?pm hTN ?hs lon hv (hnm x) (fun tk5 hxk hnx => ?_) (fun tk5 hxk hnx => ?_); (case u => k_units); (case N => k_asm); (case pm => k_mem); (case hs => (repeat (first | with_reducible assumption | with_reducible exact sub_same | refine sub_tail ?_))))
    · have hds : dueStep ks x = ks := if_pos hxk
      simp only [hds] at hst1 hst2 hpd hpp hdue
      (repeat' ((fail_if_success (with_reducible refine Stop.in ?_)); first | (k_unfold; (try dsimp only)) | (k_end; wrow_close) | ((with_reducible show wpAny _ _ (eval _ _) _ _ _); (first | with_reducible show wpAny _ _ (eval (Expr.Dict (_ :: _) _ _) _) _ _ _ | with_reducible show wpAny _ _ (eval (Expr.ListComp _ _ _ _) _) _ _ _ | with_reducible show wpAny _ _ (eval (Expr.DictComp _ _ _ _ _) _) _ _ _); refine Stop.out ?_) | ((with_reducible show wpAny _ _ (exec _ _) _ _ _); (first | with_reducible show wpAny _ _ (exec (Stmt.Assign _ (Expr.Dict (_ :: _) _ _) _) _) _ _ _ | with_reducible show wpAny _ _ (exec (Stmt.Assign (_ :: _) (Expr.ListComp _ _ _ _) _) _) _ _ _); refine Stop.out ?_) | ((with_reducible show wpAny _ _ (compareOp _ _ _) _ _ _); (first | with_reducible show wpAny _ _ (compareOp CmpOp.NotIn (Value.ref _) (Value.ref _)) _ _ _); refine Stop.out ?_) | ((with_reducible show wpAny _ _ (pyIter _) _ _ _); (first | with_reducible show wpAny _ _ (pyIter (Value.ref _)) _ _ _); refine Stop.out ?_) |  walk1 | (dsimp only; walk1) | (leave1; walk_say "STEP leave1"; try dsimp only) | fail "no step"))
      · (with_reducible rename (Obj.IsDictOf (intKind _ _) _ (stored _ _ _)) => hdS)
        have hxp : x ≠ px * 65536 + py := fun q => by have h0 := hpd; rw [← q] at h0; omega
        refine TurnEnd.intro _ (by k_asm) (by k_asm) (by ((repeat (refine sub_cons (by k_mem) ?_)); (first | exact sub_nil | (repeat (first | with_reducible assumption | with_reducible exact sub_same | refine sub_tail ?_))))) (ne_same hne (by rfl)) (.of (jm2_next2 (by decide)) hTN (hdue ▸ hev) (hdue ▸ hnm) (by omega) hdS (hcv.stored _ _ _) ?_ (hdue ▸ hst2 hxp))
        exact Nat.le_trans (stored_length_le _ _ _) (by omega)
      · have hxp : x = px * 65536 + py := Decidable.byContradiction fun q => by have := hpp q; omega
        exact TurnEnd.intro _ (by k_asm) (by k_asm) (by ((repeat (refine sub_cons (by k_mem) ?_)); (first | exact sub_nil | (repeat (first | with_reducible assumption | with_reducible exact sub_same | refine sub_tail ?_))))) (ne_same hne (by rfl)) (.of (jm2_next2 (by decide)) hTN (hdue ▸ hev) (hdue ▸ hnm) (by omega) hC hcv (by omega) (hdue ▸ hst1 hxp))
    · have hds : dueStep ks x = ks ++ [x] := if_neg hxk
      have hl2 : at? (putI nm x (ks.length : Int)) x = some ((ks ++ [x]).idxOf x : Int) := by rw [at?_putI, if_pos rfl, idx_new hxk]
      simp only [hds] at hst1 hst2 hpd hpp hdue
      (repeat' ((fail_if_success (with_reducible refine Stop.in ?_)); first | (k_unfold; (try dsimp only)) | (k_end; wrow_close) | ((with_reducible show wpAny _ _ (eval _ _) _ _ _); (first | with_reducible show wpAny _ _ (eval (Expr.Dict (_ :: _) _ _) _) _ _ _ | with_reducible show wpAny _ _ (eval (Expr.ListComp _ _ _ _) _) _ _ _ | with_reducible show wpAny _ _ (eval (Expr.DictComp _ _ _ _ _) _) _ _ _); refine Stop.out ?_) | ((with_reducible show wpAny _ _ (exec _ _) _ _ _); (first | with_reducible show wpAny _ _ (exec (Stmt.Assign _ (Expr.Dict (_ :: _) _ _) _) _) _ _ _ | with_reducible show wpAny _ _ (exec (Stmt.Assign (_ :: _) (Expr.ListComp _ _ _ _) _) _) _ _ _); refine Stop.out ?_) | ((with_reducible show wpAny _ _ (compareOp _ _ _) _ _ _); (first | with_reducible show wpAny _ _ (compareOp CmpOp.NotIn (Value.ref _) (Value.ref _)) _ _ _); refine Stop.out ?_) | ((with_reducible show wpAny _ _ (pyIter _) _ _ _); (first | with_reducible show wpAny _ _ (pyIter (Value.ref _)) _ _ _); refine Stop.out ?_) |  walk1 | (dsimp only; walk1) | (leave1; walk_say "STEP leave1"; try dsimp only) | fail "no step"))
      · simp only [List.push_toArray] at *
        (with_reducible rename (Obj.IsDictOf (intKind _ _) _ (stored _ _ _)) => hdS)
        (with_reducible rename (TKD _ _ _ (putI _ _ _)) => hT2)
        have hxp : x ≠ px * 65536 + py := fun q => by have h0 := hpd; rw [← q] at h0; omega
        refine TurnEnd.intro _ (by k_asm) (by k_asm) (by ((repeat (refine sub_cons (by k_mem) ?_)); (first | exact sub_nil | (repeat (first | with_reducible assumption | with_reducible exact sub_same | refine sub_tail ?_))))) (ne_same hne (by rfl)) (.of (jm2_next2 (by decide)) hT2 (hdue ▸ hev.snoc hv) (hdue ▸ hnm.put hxk) ?_ hdS (hcv.stored _ _ _) ?_ (hdue ▸ hst2 hxp))
        · have := putI_length nm x (ks.length : Int); omega
        · exact Nat.le_trans (stored_length_le _ _ _) (by omega)
      · simp only [List.push_toArray] at *
        (with_reducible rename (TKD _ _ _ (putI _ _ _)) => hT2)
        have hxp : x = px * 65536 + py := Decidable.byContradiction fun q => by have := hpp q; omega
        refine TurnEnd.intro _ (by k_asm) (by k_asm) (by ((repeat (refine sub_cons (by k_mem) ?_)); (first | exact sub_nil | (repeat (first | with_reducible assumption | with_reducible exact sub_same | refine sub_tail ?_))))) (ne_same hne (by rfl)) (.of (jm2_next2 (by decide)) hT2 (hdue ▸ hev.snoc hv) (hdue ▸ hnm.put hxk) ?_ hC hcv (by omega) (hdue ▸ hst1 hxp))
        have := putI_length nm x (ks.length : Int); omega
  intro m₁ nx h4 tk4 hz0; refine JRows.casesOn hz0 ?_; intro u₀ v₀ oN nm evs ne oC kvsC cq hTN hev hnm hnl hC hcv hcl hcq; intro F4 N4
  have hvl := i2.length
  rw [List.size_toArray] at hcl hnl
  rw [List.size_toArray, List.take_of_length_le (by omega)] at hev hnm hcq
  have hkl := due_take_len (px * 65536 + py) c n2 n2.length
  rw [List.take_of_length_le (Nat.le_refl _)] at hkl
  try dsimp only
  (repeat' ((fail_if_success (with_reducible refine Stop.in ?_)); first | (k_unfold; (try dsimp only)) | (k_end; wrow_close) | ((with_reducible show wpAny _ _ (eval _ _) _ _ _); (first | with_reducible show wpAny _ _ (eval (Expr.Dict (_ :: _) _ _) _) _ _ _ | with_reducible show wpAny _ _ (eval (Expr.ListComp _ _ _ _) _) _ _ _ | with_reducible show wpAny _ _ (eval (Expr.DictComp _ _ _ _ _) _) _ _ _); refine Stop.out ?_) | ((with_reducible show wpAny _ _ (exec _ _) _ _ _); (first | with_reducible show wpAny _ _ (exec (Stmt.Assign _ (Expr.Dict (_ :: _) _ _) _) _) _ _ _ | with_reducible show wpAny _ _ (exec (Stmt.Assign (_ :: _) (Expr.ListComp _ _ _ _) _) _) _ _ _); refine Stop.out ?_) | ((with_reducible show wpAny _ _ (compareOp _ _ _) _ _ _); (first | with_reducible show wpAny _ _ (compareOp CmpOp.NotIn (Value.ref _) (Value.ref _)) _ _ _); refine Stop.out ?_) | ((with_reducible show wpAny _ _ (pyIter _) _ _ _); (first | with_reducible show wpAny _ _ (pyIter (Value.ref _)) _ _ _); refine Stop.out ?_) |  walk1 | (dsimp only; walk1) | (leave1; walk_say "STEP leave1"; try dsimp only) | fail "no step"))
  (with_reducible rename (News h₀ _ _ _) => NF)
  (with_reducible rename (Fr h₀ _ _ _) => FF)
  refine' hret _ _ _ _ _ _ _ _ _ _ _ _ _ _ _ FF (news_sub NF ?s) (lts2 ?a1 ?a2 ?a4) (lts2 ?b1 ?b2 ?b4) (lts2 ?c1 ?c2 ?c4) (lts2 ?d1 ?d2 ?d4) (lts2 ?e1 ?e2 ?e4) hC loC hcv ?z hev ?z2 (Rowed.intro (hDV.keys ▸ p2) o2 hcq)
  case s => ((repeat (refine sub_cons (by k_mem) ?_)); (first | exact sub_nil | (repeat (first | with_reducible assumption | with_reducible exact sub_same | refine sub_tail ?_))))
  case a4 => tbn_find
  case b4 => refine allLt_mono (Nat.le_of_lt (by with_reducible assumption)) ?_; tbn_find
  case c4 => tbn_find
  case d4 => tbn_find
  case e4 => tbn_find
  case z => omega
  case z2 => omega
  all_goals first | tbn_below | ((try dsimp only); omega) | ((try dsimp only); simp only [AllLt, and_true] at *; omega)
end Rows
theorem rows_u {w : World} {loose : List Str} {mean : ExcName → Option Value} {mg mb : Str → Option Value} {dp un : Nat} {gd : Option (List Code)} {cn : Str} {cs : Scope} {a : Addr} {ccd : Value} {cl : List (Str × Addr)} {outer : List Env} {A₀ : Around} {base h₀ : Heap} {L : Addr} {m : Str → Option Value} {s : Shared} {Q E : Value → Shared → Prop}
  {d pa : Addr} {p : Int} {od : Obj} {kvs : List (Int × Value)} {c : List (Int × Int)} {ts news : List (Addr × Obj)}
  (B : Below A₀ base outer h₀) (F : Fr h₀ L s.heap m) (KX : (hd.heap_39 w.params).In h₀) (N : News h₀ L s.heap news) (T : Top hd.view_39 loose mean mg mb h₀) (hk : cs.kind = .function) (hdp : dp + 4 < recursionLimit) (hun : un + 40 < cLine)
  (hdm : (d, od) ∈ news) (hD : od.IsDictOf (intKind PROG w) kvs) (lo : (d == sysModules) = false) (hts : ∀ p ∈ ts, p ∈ news) (hDV : DV (TV ts) kvs c) (hlen : kvs.length ≤ 30) (hp : TV ts (.ref pa) p)
  (ret : ∀ T X' D' t1' d' od' kvs' c' El evs ne ns ks h' tk', Fr h₀ L h' m → News h₀ L h' ((T, ({ cls := .type "tuple", data := .seq #[.ref X', .ref El] } : Obj)) :: (X', instObj 66 D') :: (D', clsDict w t1' (.ref d')) :: (d', od') :: (El, listOf evs.toArray ne) :: news) →
    (∀ q ∈ news, q.1 < T) → (∀ q ∈ news, q.1 < X') → (∀ q ∈ news, q.1 < D') → (∀ q ∈ news, q.1 < d') → (∀ q ∈ news, q.1 < El) →
    od'.IsDictOf (intKind PROG w) kvs' → (d' == sysModules) = false → IV kvs' c' → kvs'.length ≤ kvs.length → LV (TV ts) evs ks → ks.length ≤ kvs.length + 1 → Rowed c p ns ks c' → Q (.ref T) { s with heap := h', toks := tk' }) :
  wpAny (model PROG w) (ktrTop dp un gd cn cs L a ccd cl outer) (call (.ref 87) [.ref d, .ref pa]) Q E s := by
  obtain ⟨a', x, y, t, u, e, hm, g0, g1, g2, g3, rfl⟩ := hp
  cases e
  refine rows_c w rfl loose mean mg mb dp un gd cn cs a ccd cl outer A₀ base h₀ L m s Q E d pa x y t u od kvs c ts news B F KX
    (news_sub N (sub_cons hdm (sub_cons (hts _ hm) sub_same))) T hk hdp hun hD lo hts hDV hlen hm g0 g1 g2 g3
    fun T X' D' t1' d' od' kvs' c' El evs ne ns ks h' tk' F' N' e1 e2 e3 e4 e5 => ret T X' D' t1' d' od' kvs' c' El evs ne ns ks h' tk' F'
      (news_sub N' (sub_cons (.head _) (sub_cons (.tail _ (.head _)) (sub_cons (.tail _ (.tail _ (.head _))) (sub_cons (.tail _ (.tail _ (.tail _ (.head _)))) (sub_cons (.tail _ (.tail _ (.tail _ (.tail _ (.head _)))))
        fun p hp => .tail _ (.tail _ (.tail _ (.tail _ (.tail _ (.tail _ (.tail _ hp))))))))))))
      (fun q hq => e1 q (.tail _ (.tail _ hq))) (fun q hq => e2 q (.tail _ (.tail _ hq))) (fun q hq => e3 q (.tail _ (.tail _ hq))) (fun q hq => e4 q (.tail _ (.tail _ hq))) (fun q hq => e5 q (.tail _ (.tail _ hq)))

section AroundGET
local macro_rules | `(tactic| walk_at "call builtin:dict.get") => `(tactic| (k_here; k_dflt (refine' d_get2 ?N ?pm ?d ?lo ?iv ?_; (case N => k_asm); (case pm => k_mem); (case d => with_reducible assumption); (case lo => with_reducible assumption); (case iv => with_reducible assumption); intro _ _)))
local macro_rules | `(tactic| walk_at "subscriptTail Name Call ref int") => `(tactic| (k_here; k_dflt (refine' l_item ?k1 ?k2 ?k3 ?k4 ?k5 ?k6 ?_; (case k1 => k_asm); (case k2 => k_mem); (case k3 => with_reducible assumption); (case k4 => omega); (case k5 => with_reducible assumption); (case k6 => omega); intro _)))
/-- the pairs of classes of two dicts, told by codes -/
noncomputable def pairAt (c cg : List (Int × Int)) (k : Int) : Option Int := if (at? c k).isSome = true ∨ (at? cg k).isSome = true then some ((at? c k).getD 0 * 65536 + (at? cg k).getD 0) else none
noncomputable def PrOk (c cg : List (Int × Int)) (ns : List Int) (cr : List (Int × Int)) : Prop := ∀ k, at? cr k = if k ∈ ns then some ((at? c k).getD 0 * 65536 + (at? cg k).getD 0) else none
theorem PrOk.take {c cg cr : List (Int × Int)} {ns : List Int} {i : Nat} {k : Int} (h : PrOk c cg (ns.take i) cr) (hk : ns[i]? = some k) : PrOk c cg (ns.take (i + 1)) (putI cr k ((at? c k).getD 0 * 65536 + (at? cg k).getD 0)) := by
  intro k'
  rw [at?_putI, h k', List.take_add_one, hk]
  by_cases e : k' = k
  · subst e; simp
  · simp [e]
theorem PrOk.all {c cg cr : List (Int × Int)} (h : PrOk c cg (c.map (·.1) ++ cg.map (·.1)) cr) : ∀ k, at? cr k = pairAt c cg k := by
  intro k
  rw [h k]
  unfold pairAt
  have e : (k ∈ c.map (·.1) ++ cg.map (·.1)) ↔ ((at? c k).isSome = true ∨ (at? cg k).isSome = true) := by
    rw [List.mem_append, at?_keys, at?_keys, Option.isSome_iff_exists, Option.isSome_iff_exists]
  by_cases hk : k ∈ c.map (·.1) ++ cg.map (·.1)
  · rw [if_pos hk, if_pos (e.mp hk)]
  · rw [if_neg hk, if_neg fun q => hk (e.mpr q)]
theorem getD_bound {c : List (Int × Int)} (h : ∀ q ∈ c, 0 ≤ q.2 ∧ q.2 < 65536) (k : Int) : 0 ≤ (at? c k).getD 0 ∧ (at? c k).getD 0 < 65536 := by
  cases hc : at? c k with
  | none => exact ⟨Int.le_refl _, by decide⟩
  | some x => exact h _ (at?_mem hc)
inductive JCom (w : World) (m₀ : Str → Option Value) (c cg : List (Int × Int)) (dr : Addr) (front rest : List (Addr × Obj)) (ns : List Int) (i : Nat) : (Str → Option Value) → List (Addr × Obj) → Prop
  | mk (u : Option Value) (oR : Obj) (kvsR : List (Int × Value)) (cr : List (Int × Int)) (tl ts : List (Addr × Obj)) (htl : tl = ts ++ rest) (hR : oR.IsDictOf (intKind PROG w) kvsR) (hD : DV (TV ts) kvsR cr) (hl : kvsR.length ≤ i) (hP : PrOk c cg (ns.take i) cr) (hne : ∀ p ∈ tl, p.1 ≠ dr) (hlt : ∀ p ∈ ts, ∀ q ∈ rest, @LT.lt Nat _ q.1 p.1) :
      JCom w m₀ c cg dr front rest ns i (fun y => if y = Str.ofString "glyph" then u else m₀ y) (front ++ ((dr, oR) :: tl))
theorem JCom.of {w : World} {m₀ m : Str → Option Value} {c cg : List (Int × Int)} {dr : Addr} {front rest nx : List (Addr × Obj)} {ns : List Int} {i : Nat} {oR : Obj} {kvsR : List (Int × Value)} {cr : List (Int × Int)} {tl ts : List (Addr × Obj)} (hm : ∃ u, m = fun y => if y = Str.ofString "glyph" then u else m₀ y) (hnx : nx = front ++ ((dr, oR) :: tl)) (htl : tl = ts ++ rest) (hR : oR.IsDictOf (intKind PROG w) kvsR) (hD : DV (TV ts) kvsR cr) (hl : kvsR.length ≤ i) (hP : PrOk c cg (ns.take i) cr) (hne : ∀ p ∈ tl, p.1 ≠ dr) (hlt : ∀ p ∈ ts, ∀ q ∈ rest, @LT.lt Nat _ q.1 p.1) :
    JCom w m₀ c cg dr front rest ns i m nx := by
  obtain ⟨u, rfl⟩ := hm; subst hnx; exact ⟨u, oR, kvsR, cr, tl, ts, htl, hR, hD, hl, hP, hne, hlt⟩
theorem ne_app {I : Addr} {a b c : List (Addr × Obj)} (h : ∀ p ∈ a ++ c, p.1 ≠ I) (hb : ∀ p ∈ b, p.1 ≠ I) : ∀ p ∈ a ++ (b ++ c), p.1 ≠ I := fun p hp => by
  rcases List.mem_append.mp hp with hp | hp
  · exact h p (List.mem_append_left _ hp)
  rcases List.mem_append.mp hp with hp | hp
  · exact hb p hp
  · exact h p (List.mem_append_right _ hp)
theorem ne_one {I T : Addr} {o : Obj} (h : @LT.lt Nat _ I T) : ∀ p ∈ [(T, o)], p.1 ≠ I := fun p hp => by
  rw [List.mem_singleton.mp hp]; exact Nat.ne_of_gt h
theorem sub_app {a b l : List (Addr × Obj)} (h1 : ∀ p ∈ a, p ∈ l) (h2 : ∀ p ∈ b, p ∈ l) : ∀ p ∈ a ++ b, p ∈ l := fun p hp => (List.mem_append.mp hp).elim (h1 p) (h2 p)
section Common


local macro_rules | `(tactic| walk_at "call type:list") => `(tactic| (k_here; k_dflt (refine' d_list ?hh ?F ?N ?pm ?d ?lo ?sz ?_; (case hh => exact rfl); (case F => k_asm); (case N => k_asm); (case pm => k_mem); (case d => with_reducible assumption); (case lo => with_reducible assumption); (case sz => first | decide | omega)); intro D' v' c' h' tk' F' N' l1 i'; (try k_lt l1)))
local macro_rules | `(tactic| walk_at "exec For") => `(tactic| (k_here; (rename Fr _ _ _ _ => lF'); (with_unfolding_all refine' For_invVF lF' ?k1 ?k2 ?_; (case k1 => exact rfl); (case k2 => exact rfl); k_whole)))


set_option maxRecDepth 100000 in
set_option maxHeartbeats 0 in
theorem common_c (w : World) : PySem.Challenge.rw_nu0148_01 = PySem.Challenge.rw_nu0148_01 →
  ∀ (loose : List Str) (mean : ExcName → Option Value) (mg mb : Str → Option Value) (dp un : Nat) (gd : Option (List Code)) (cn : Str) (cs : Scope) (a : Addr) (ccd : Value) (cl : List (Str × Addr)) (outer : List Env) (A₀ : Around) (base h₀ : Heap) (L : Addr) (m : Str → Option Value) (s : Shared) (Q E : Value → Shared → Prop)
  (X D d Y G g : Addr) (t1 t2 : Tok) (od og : Obj) (kvs kvg : List (Int × Value)) (c cg : List (Int × Int)) (rest : List (Addr × Obj)),
  Below A₀ base outer h₀ → Fr h₀ L s.heap m → (hd.heap_39 w.params).In h₀ → News h₀ L s.heap ((X, instObj 66 D) :: (D, clsDict w t1 (.ref d)) :: (d, od) :: (Y, instObj 66 G) :: (G, clsDict w t2 (.ref g)) :: (g, og) :: rest) → Top hd.view_39 loose mean mg mb h₀ → cs.kind = .function → dp + 8 < recursionLimit → un + 60 < cLine →
  od.IsDictOf (intKind PROG w) kvs → (d == sysModules) = false → og.IsDictOf (intKind PROG w) kvg → (g == sysModules) = false → IV kvs c → IV kvg cg → kvs.length ≤ 12 → kvg.length ≤ 12 → (∀ q ∈ c, 0 ≤ q.2 ∧ q.2 < 65536) → (∀ q ∈ cg, 0 ≤ q.2 ∧ q.2 < 65536) →
  (X, instObj 66 D) ∈ rest → (D, clsDict w t1 (.ref d)) ∈ rest → (d, od) ∈ rest → (Y, instObj 66 G) ∈ rest → (G, clsDict w t2 (.ref g)) ∈ rest → (g, og) ∈ rest →
  (∀ T X' D' t1' d' od' kvs' c' El evs ne cR ns ks ts h' tk', Fr h₀ L h' m → News h₀ L h' ((T, ({ cls := .type "tuple", data := .seq #[.ref X', .ref El] } : Obj)) :: (X', instObj 66 D') :: (D', clsDict w t1' (.ref d')) :: (d', od') :: (El, listOf evs.toArray ne) :: (ts ++ rest)) →
    (∀ q ∈ rest, @LT.lt Nat _ q.1 T) → (∀ q ∈ rest, @LT.lt Nat _ q.1 X') → (∀ q ∈ rest, @LT.lt Nat _ q.1 D') → (∀ q ∈ rest, @LT.lt Nat _ q.1 d') → (∀ q ∈ rest, @LT.lt Nat _ q.1 El) → (∀ p ∈ ts, ∀ q ∈ rest, @LT.lt Nat _ q.1 p.1) →
    od'.IsDictOf (intKind PROG w) kvs' → (d' == sysModules) = false → IV kvs' c' → kvs'.length ≤ 24 → LV (TV ts) evs ks → ks.length ≤ 25 → Rowed cR 0 ns ks c' → (cR.map (·.1)).Nodup → (∀ k, at? cR k = pairAt c cg k) → Q (.ref T) { s with heap := h', toks := tk' }) →
  wpAny (model PROG w) (ktrTop dp un gd cn cs L a ccd cl outer) (call (.ref 94) [.ref X, .ref Y]) Q E s := by
  w_top off
  k_fill
  intro _ loose mean mg mb dp un gd cn cs a ccd cl outer A₀ base h₀ L m s Q E X D d Y G g t1 t2 od og kvs kvg c cg rest B F KX N T hk hdp hun hD lo hG loG hIV hIVg hlen hleng hb hbg m1 m2 m3 m4 m5 m6 hret
  refine wpAny_call ?_
  k_dflt ktr_enter
  (repeat' ((fail_if_success (with_reducible refine Stop.in ?_)); first | (k_unfold; (try dsimp only)) | (k_end; wrow_close) | ((with_reducible show wpAny _ _ (call _ _ _) _ _ _); (first | with_reducible show wpAny _ _ (call (Value.ref 87) [Value.ref _, Value.ref _]) _ _ _); refine Stop.out ?_) | ((with_reducible show wpAny _ _ (eval _ _) _ _ _); (first | with_reducible show wpAny _ _ (eval (Expr.ListComp _ _ _ _) _) _ _ _ | with_reducible show wpAny _ _ (eval (Expr.DictComp _ _ _ _ _) _) _ _ _); refine Stop.out ?_) | ((with_reducible show wpAny _ _ (exec _ _) _ _ _); (first | with_reducible show wpAny _ _ (exec (Stmt.Assign (_ :: _) (Expr.ListComp _ _ _ _) _) _) _ _ _); refine Stop.out ?_) | ((with_reducible show wpAny _ _ (pyIter _) _ _ _); (first | with_reducible show wpAny _ _ (pyIter (Value.ref _)) _ _ _); refine Stop.out ?_) |  walk1 | (dsimp only; walk1) | (leave1; walk_say "STEP leave1"; try dsimp only) | fail "no step"))
  (with_reducible rename (Obj.IsDictOf (intKind _ _) _ []) => hR0)
  (with_reducible rename ((_ == sysModules) = false) => loR)
  (with_reducible rename (IntsAre _ (_ ++ _)) => hI0)
  have hnd := IsDictOf_nodup hD
  have hndg := IsDictOf_nodup hG
  rename_i dr hq1 oR hq2 hq3 hq4 lr hq5 Da va ca hq6 hq7 ia la Db vb cb hq8 hq9 ib lb D3 v3 h3 F3 N3 l3
  have N4 : News _ _ h3 ([(D3, W.listOf v3.toArray 0), (X, instObj 66 D), (D, clsDict w t1 (.ref d)), (d, od), (Y, instObj 66 G), (G, clsDict w t2 (.ref g)), (g, og)] ++ ((dr, oR) :: rest)) := news_sub N3 (by simp only [List.cons_append, List.nil_append]; ((repeat (refine sub_cons (by k_mem) ?_)); (first | exact sub_nil | (repeat (first | with_reducible assumption | with_reducible exact sub_same | refine sub_tail ?_)))))
  refine Stop.in ?_
  refine for_src (Src.list D3 v3.toArray 0) (JCom w _ c cg dr _ rest (kvs.map (·.1) ++ kvg.map (·.1))) (by with_unfolding_all rfl) F3 N4 trivial ?hK (JCom.of (ts := []) jm_start rfl rfl hR0 .nil (Nat.le_refl _) (fun k => by simp [at?_nil]) (allLt_ne lr.2.2.2.2.2.2) (fun _ h => nomatch h)) ?turn ?done
  case hK =>
    rintro i m nx ⟨_, oR1, kvsR, cr, tl, ts, _⟩ p hp
    rw [List.mem_singleton.mp hp]; exact .head _
  case turn =>
    intro i u m₁ nx I oI h tk hi hu hz0; refine JCom.casesOn hz0 ?_; intro u₀ oR1 kvsR cr tl ts htl hR1 hDV hRl hPr htd hlt; dsimp only [List.cons_append, List.nil_append]; refine IAt.casesOn (iat (i := i) (v := u) hI0 (by simpa using hu)) ?_; intro k t hk; intro hne F1 N1
    try k_fold
    have hb1 := getD_bound hb k
    have hb2 := getD_bound hbg k
    have hId := neNat (hne _ (.tail _ (.tail _ (.tail _ (.tail _ (.tail _ (.tail _ (.tail _ (.head _)))))))))
    dsimp only at hId
    have hil : i < 24 := by have := hI0.length; simp at this hi; omega
    (repeat' ((fail_if_success (with_reducible refine Stop.in ?_)); first | (k_unfold; (try dsimp only)) | (k_end; wrow_close) | ((with_reducible show wpAny _ _ (call _ _ _) _ _ _); (first | with_reducible show wpAny _ _ (call (Value.ref 87) [Value.ref _, Value.ref _]) _ _ _); refine Stop.out ?_) | ((with_reducible show wpAny _ _ (eval _ _) _ _ _); (first | with_reducible show wpAny _ _ (eval (Expr.ListComp _ _ _ _) _) _ _ _ | with_reducible show wpAny _ _ (eval (Expr.DictComp _ _ _ _ _) _) _ _ _); refine Stop.out ?_) | ((with_reducible show wpAny _ _ (exec _ _) _ _ _); (first | with_reducible show wpAny _ _ (exec (Stmt.Assign (_ :: _) (Expr.ListComp _ _ _ _) _) _) _ _ _); refine Stop.out ?_) | ((with_reducible show wpAny _ _ (pyIter _) _ _ _); (first | with_reducible show wpAny _ _ (pyIter (Value.ref _)) _ _ _); refine Stop.out ?_) |  walk1 | (dsimp only; walk1) | (leave1; walk_say "STEP leave1"; try dsimp only) | fail "no step"))
    rename_i T9 h8 F8 N8 l9 h9 o9 F9 N9 hd9
    obtain ⟨ta', tb', N9'⟩ : ∃ ta tb, News _ _ h9 ((T9, tupO ((at? c k).getD 0) ((at? cg k).getD 0) ta tb) :: _) := ⟨_, _, N9⟩
    have hT9 := l9.2.2.2.2.2.2.2.2
    refine TurnEnd.intro _ F9 N9' ?hs ?hne (.of (oR := o9) (tl := (T9, tupO ((at? c k).getD 0) ((at? cg k).getD 0) ta' tb') :: tl) (ts := (T9, tupO ((at? c k).getD 0) ((at? cg k).getD 0) ta' tb') :: ts) jm_next rfl (by rw [htl]; rfl) hd9
      ((hDV.mono fun v c => TV.mono fun p hp => .tail _ hp).stored k ⟨T9, _, _, ta', tb', rfl, .head _, hb1.1, hb1.2, hb2.1, hb2.2, rfl⟩) (Nat.le_trans (stored_length_le _ _ _) (by omega)) (hPr.take hk) ?ne ?lt)
    case hs => simp only [List.cons_append, List.nil_append]; ((repeat (refine sub_cons (by k_mem) ?_)); (first | exact sub_nil | (repeat (first | with_reducible assumption | with_reducible exact sub_same | refine sub_tail ?_))))
    case hne => exact ne_app (a := [(D3, W.listOf v3.toArray 0), (X, instObj 66 D), (D, clsDict w t1 (.ref d)), (d, od), (Y, instObj 66 G), (G, clsDict w t2 (.ref g)), (g, og), (dr, o9)]) (b := [(T9, tupO ((at? c k).getD 0) ((at? cg k).getD 0) ta' tb')]) (ne_same hne (by rfl)) (ne_one l9.1)
    case ne => exact List.forall_mem_cons.mpr ⟨Nat.ne_of_gt hT9.1, htd⟩
    case lt =>
      refine List.forall_mem_cons.mpr ⟨fun q hq => allLt_all hT9.2 q ?_, hlt⟩
      rw [htl]; exact List.mem_append_right _ hq
  intro m₁ nx h5 tk5 hz0; refine JCom.casesOn hz0 ?_; intro u₀ oR1 kvsR cr tl ts htl hR1 hDV hRl hPr htd hlt; dsimp only [List.cons_append, List.nil_append]; intro F5 N5
  have hvl := hI0.length
  rw [List.size_toArray] at hRl
  rw [List.size_toArray, List.take_of_length_le (by omega), hIV.keys, hIVg.keys] at hPr
  have hat := hPr.all
  simp at hvl
  try dsimp only
  (repeat' ((fail_if_success (with_reducible refine Stop.in ?_)); first | (k_unfold; (try dsimp only)) | (k_end; wrow_close) | ((with_reducible show wpAny _ _ (call _ _ _) _ _ _); (first | with_reducible show wpAny _ _ (call (Value.ref 87) [Value.ref _, Value.ref _]) _ _ _); refine Stop.out ?_) | ((with_reducible show wpAny _ _ (eval _ _) _ _ _); (first | with_reducible show wpAny _ _ (eval (Expr.ListComp _ _ _ _) _) _ _ _ | with_reducible show wpAny _ _ (eval (Expr.DictComp _ _ _ _ _) _) _ _ _); refine Stop.out ?_) | ((with_reducible show wpAny _ _ (exec _ _) _ _ _); (first | with_reducible show wpAny _ _ (exec (Stmt.Assign (_ :: _) (Expr.ListComp _ _ _ _) _) _) _ _ _); refine Stop.out ?_) | ((with_reducible show wpAny _ _ (pyIter _) _ _ _); (first | with_reducible show wpAny _ _ (pyIter (Value.ref _)) _ _ _); refine Stop.out ?_) |  walk1 | (dsimp only; walk1) | (leave1; walk_say "STEP leave1"; try dsimp only) | fail "no step"))
  rename_i Tp hP FP NP lP
  have hst : ∀ p ∈ ts, p ∈ tl := htl ▸ fun p hp => List.mem_append_left _ hp
  have hrt : ∀ p ∈ rest, p ∈ tl := htl ▸ fun p hp => List.mem_append_right _ hp
  have lPr := allLt_all lP.2.2.2.2.2.2.2.2
  refine Stop.in ?_
  k_dflt (refine' rows_u (ts := (Tp, tupO 0 0 tk5 (tk5 + 1)) :: ts) ?B ?F ?K ?N ?T ?k ?d ?u ?dm hR1 loR ?hs (hDV.mono fun v c => TV.mono fun p hp => .tail _ hp) (by omega) (⟨Tp, 0, 0, tk5, _, rfl, .head _, by decide, by decide, by decide, by decide, rfl⟩ : TV _ (.ref Tp) 0) ?_; (case B => k_asm); (case F => k_asm); (case K => k_asm); (case N => k_asm); (case T => k_asm); (case k => exact rfl); (case d => k_room); (case u => k_units); (case dm => k_mem); (case hs => refine sub_cons (by k_mem) ?_; (repeat (first | with_reducible assumption | with_reducible exact sub_same | refine sub_tail ?_))))
  intro T1 X1 D1 ta1 d1 od1 kvs1 c1 El evs ne ns ks h6 tk6 F6 N6 e1 e2 e3 e4 e5 hd1 lo1 hv1 hl1 hev hkl hRw
  have up : ∀ q ∈ rest, ∀ l : List (Addr × Obj), (∀ p ∈ tl, p ∈ l) → q ∈ l := fun q hq l hl => hl q (hrt q hq)
  have f1 : ∀ q ∈ rest, @LT.lt Nat _ q.1 T1 := fun q hq => e1 q (by refine up q hq _ ?_; (repeat (first | with_reducible assumption | with_reducible exact sub_same | refine sub_tail ?_)))
  have f2 : ∀ q ∈ rest, @LT.lt Nat _ q.1 X1 := fun q hq => e2 q (by refine up q hq _ ?_; (repeat (first | with_reducible assumption | with_reducible exact sub_same | refine sub_tail ?_)))
  have f3 : ∀ q ∈ rest, @LT.lt Nat _ q.1 D1 := fun q hq => e3 q (by refine up q hq _ ?_; (repeat (first | with_reducible assumption | with_reducible exact sub_same | refine sub_tail ?_)))
  have f4 : ∀ q ∈ rest, @LT.lt Nat _ q.1 d1 := fun q hq => e4 q (by refine up q hq _ ?_; (repeat (first | with_reducible assumption | with_reducible exact sub_same | refine sub_tail ?_)))
  have f5 : ∀ q ∈ rest, @LT.lt Nat _ q.1 El := fun q hq => e5 q (by refine up q hq _ ?_; (repeat (first | with_reducible assumption | with_reducible exact sub_same | refine sub_tail ?_)))
  k_lt e1
  k_lt e2
  k_lt e3
  k_lt e4
  k_lt e5
  try dsimp only
  (repeat' ((fail_if_success (with_reducible refine Stop.in ?_)); first | (k_unfold; (try dsimp only)) | (k_end; wrow_close) | ((with_reducible show wpAny _ _ (call _ _ _) _ _ _); (first | with_reducible show wpAny _ _ (call (Value.ref 87) [Value.ref _, Value.ref _]) _ _ _); refine Stop.out ?_) | ((with_reducible show wpAny _ _ (eval _ _) _ _ _); (first | with_reducible show wpAny _ _ (eval (Expr.ListComp _ _ _ _) _) _ _ _ | with_reducible show wpAny _ _ (eval (Expr.DictComp _ _ _ _ _) _) _ _ _); refine Stop.out ?_) | ((with_reducible show wpAny _ _ (exec _ _) _ _ _); (first | with_reducible show wpAny _ _ (exec (Stmt.Assign (_ :: _) (Expr.ListComp _ _ _ _) _) _) _ _ _); refine Stop.out ?_) | ((with_reducible show wpAny _ _ (pyIter _) _ _ _); (first | with_reducible show wpAny _ _ (pyIter (Value.ref _)) _ _ _); refine Stop.out ?_) |  walk1 | (dsimp only; walk1) | (leave1; walk_say "STEP leave1"; try dsimp only) | fail "no step"))
  (with_reducible rename (News h₀ _ _ _) => NF)
  (with_reducible rename (Fr h₀ _ _ _) => FF)
  refine hret T1 X1 D1 ta1 d1 od1 kvs1 c1 El evs ne cr ns ks ((Tp, tupO 0 0 tk5 (tk5 + 1)) :: ts) _ _ FF (news_sub NF ?_) f1 f2 f3 f4 f5 ?_ hd1 lo1 hv1 (by omega) hev (by omega) hRw (hDV.nodup (IsDictOf_nodup hR1)) hat
  · refine sub_cons (by k_mem) (sub_cons (by k_mem) (sub_cons (by k_mem) (sub_cons (by k_mem) (sub_cons (by k_mem) (sub_app (sub_cons (by k_mem) ?_) ?_)))))
    · (repeat (first | with_reducible assumption | with_reducible exact sub_same | refine sub_tail ?_))
    · (repeat (first | with_reducible assumption | with_reducible exact sub_same | refine sub_tail ?_))
  · refine List.forall_mem_cons.mpr ⟨fun q hq => lPr q (hrt q hq), hlt⟩
end Common
theorem common_u {w : World} {loose : List Str} {mean : ExcName → Option Value} {mg mb : Str → Option Value} {dp un : Nat} {gd : Option (List Code)} {cn : Str} {cs : Scope} {a : Addr} {ccd : Value} {cl : List (Str × Addr)} {outer : List Env} {A₀ : Around} {base h₀ : Heap} {L : Addr} {m : Str → Option Value} {s : Shared} {Q E : Value → Shared → Prop}
  {X D d Y G g : Addr} {t1 t2 : Tok} {od og : Obj} {kvs kvg : List (Int × Value)} {c cg : List (Int × Int)} {front rest all : List (Addr × Obj)}
  (B : Below A₀ base outer h₀) (F : Fr h₀ L s.heap m) (KX : (hd.heap_39 w.params).In h₀) (N : News h₀ L s.heap all) (T : Top hd.view_39 loose mean mg mb h₀) (hk : cs.kind = .function) (hdp : dp + 8 < recursionLimit) (hun : un + 60 < cLine)
  (hfr : all = front ++ rest) (m1 : (X, instObj 66 D) ∈ all) (m2 : (D, clsDict w t1 (.ref d)) ∈ all) (m3 : (d, od) ∈ all) (m4 : (Y, instObj 66 G) ∈ all) (m5 : (G, clsDict w t2 (.ref g)) ∈ all) (m6 : (g, og) ∈ all)
  (hD : od.IsDictOf (intKind PROG w) kvs) (lo : (d == sysModules) = false) (hG : og.IsDictOf (intKind PROG w) kvg) (loG : (g == sysModules) = false) (hIV : IV kvs c) (hIVg : IV kvg cg) (hlen : kvs.length ≤ 12) (hleng : kvg.length ≤ 12) (hb : ∀ q ∈ c, 0 ≤ q.2 ∧ q.2 < 65536) (hbg : ∀ q ∈ cg, 0 ≤ q.2 ∧ q.2 < 65536)
  (ret : ∀ T X' D' t1' d' od' kvs' c' El evs ne cR ns ks tl h' tk', Fr h₀ L h' m → News h₀ L h' ((T, ({ cls := .type "tuple", data := .seq #[.ref X', .ref El] } : Obj)) :: (X', instObj 66 D') :: (D', clsDict w t1' (.ref d')) :: (d', od') :: (El, listOf evs.toArray ne) :: (front ++ tl)) →
    (∀ q ∈ all, q.1 < T) → (∀ q ∈ all, q.1 < X') → (∀ q ∈ all, q.1 < D') → (∀ q ∈ all, q.1 < d') → (∀ q ∈ all, q.1 < El) → (∀ p ∈ rest, p ∈ tl) → (∀ p ∈ tl, p ∈ rest ∨ ∀ q ∈ all, @LT.lt Nat _ q.1 p.1) →
    od'.IsDictOf (intKind PROG w) kvs' → (d' == sysModules) = false → IV kvs' c' → kvs'.length ≤ 24 → LV (TV tl) evs ks → ks.length ≤ 25 → Rowed cR 0 ns ks c' → (cR.map (·.1)).Nodup → (∀ k, at? cR k = pairAt c cg k) → Q (.ref T) { s with heap := h', toks := tk' }) :
  wpAny (model PROG w) (ktrTop dp un gd cn cs L a ccd cl outer) (call (.ref 94) [.ref X, .ref Y]) Q E s := by
  subst hfr
  refine common_c w rfl loose mean mg mb dp un gd cn cs a ccd cl outer A₀ base h₀ L m s Q E X D d Y G g t1 t2 od og kvs kvg c cg (front ++ rest) B F KX
    (news_sub N (sub_cons m1 (sub_cons m2 (sub_cons m3 (sub_cons m4 (sub_cons m5 (sub_cons m6 sub_same))))))) T hk hdp hun hD lo hG loG hIV hIVg hlen hleng hb hbg m1 m2 m3 m4 m5 m6
    fun T X' D' t1' d' od' kvs' c' El evs ne cR ns ks ts h' tk' F' N' e1 e2 e3 e4 e5 e6 a1 a2 a3 a4 a5 a6 a7 a8 a9 => ret T X' D' t1' d' od' kvs' c' El evs ne cR ns ks (ts ++ rest) h' tk' F'
      (news_sub N' ?_) e1 e2 e3 e4 e5 (fun p hp => List.mem_append_right _ hp) (fun p hp => ?_) a1 a2 a3 a4 (a5.mono fun v c => TV.mono fun p hp => List.mem_append_left _ hp) a6 a7 a8 a9
  · refine sub_cons (.head _) (sub_cons (.tail _ (.head _)) (sub_cons (.tail _ (.tail _ (.head _))) (sub_cons (.tail _ (.tail _ (.tail _ (.head _)))) (sub_cons (.tail _ (.tail _ (.tail _ (.tail _ (.head _))))) fun p hp => .tail _ (.tail _ (.tail _ (.tail _ (.tail _ ?_)))))))) 
    rcases List.mem_append.mp hp with hp | hp
    · exact List.mem_append_right _ (List.mem_append_left _ hp)
    · rcases List.mem_append.mp hp with hp | hp
      · exact List.mem_append_left _ hp
      · exact List.mem_append_right _ (List.mem_append_right _ hp)
  · rcases List.mem_append.mp hp with hp | hp
    · exact .inr (e6 p hp)
    · exact .inl hp

noncomputable def rng (n : Nat) : List Int := (List.range n).map fun (i : Nat) => (i : Int)
theorem mapN_rng (f : Int → Int) (n : Nat) : mapN f n = (rng n).map f := by
  unfold mapN rng
  rw [List.map_map]
  exact List.map_congr_left fun i _ => by simp
theorem rng_mem {n : Nat} {k : Int} : k ∈ rng n ↔ 0 ≤ k ∧ k < n := by
  unfold rng
  rw [List.mem_map]
  constructor
  · rintro ⟨i, hi, rfl⟩
    have := List.mem_range.mp hi
    omega
  · rintro ⟨h0, h1⟩
    exact ⟨k.toNat, List.mem_range.mpr (by omega), by omega⟩
theorem rng_sorted (n : Nat) : (rng n).Pairwise (· < ·) := by
  unfold rng
  rw [List.pairwise_map]
  exact List.pairwise_lt_range.imp fun h => by omega
theorem due_filter (p : Int) (xs : List Int) : due p xs = due p (xs.filter fun x => x ≠ p) := by
  have : ∀ (xs ks : List Int), p ∈ ks → xs.foldl dueStep ks = (xs.filter fun x => x ≠ p).foldl dueStep ks := by
    intro xs
    induction xs with
    | nil => intro ks _; rfl
    | cons x xs ih =>
      intro ks hk
      rw [List.foldl_cons]
      by_cases e : x = p
      · subst e
        rw [List.filter_cons_of_neg (by simp), show dueStep ks x = ks from if_pos hk]
        exact ih ks hk
      · rw [List.filter_cons_of_pos (by simpa using e), List.foldl_cons]
        exact ih _ (dueStep_mem.mpr (.inl hk))
  exact this xs [p] (.head _)
theorem filter_map_zero {f : Int → Int} {P : Int → Bool} (h : ∀ g, P g = false → f g = 0) (l : List Int) : (((l.filter P).map f).filter fun x => x ≠ 0) = ((l.map f).filter fun x => x ≠ 0) := by
  induction l with
  | nil => rfl
  | cons g l ih =>
    rw [List.map_cons]
    cases hp : P g with
    | true =>
      rw [List.filter_cons_of_pos hp, List.map_cons, List.filter_cons, List.filter_cons, ih]
    | false =>
      rw [List.filter_cons_of_neg (by simp [hp]), List.filter_cons_of_neg (by simp [h g hp]), ih]
theorem sorted_rng {ns : List Int} {n : Nat} (ho : ns.Pairwise (· ≤ ·)) (hn : ns.Nodup) (hb : ∀ k ∈ ns, 0 ≤ k ∧ k < n) : ns = (rng n).filter fun k => decide (k ∈ ns) := by
  refine sorted_lt_unique (lt_of_le_nodup ho hn) ((rng_sorted n).filter _) fun x => ?_
  rw [List.mem_filter, rng_mem]
  exact ⟨fun h => ⟨hb x h, by simpa using h⟩, fun h => by simpa using h.2⟩
/-- the code of a glyph's pair -/
noncomputable def markOf (c cg : List (Int × Int)) (k : Int) : Int := (at? c k).getD 0 * 65536 + (at? cg k).getD 0
theorem pair_getD {c cg cr : List (Int × Int)} (h : ∀ k, at? cr k = pairAt c cg k) (k : Int) : (at? cr k).getD 0 = markOf c cg k := by
  rw [h k]
  unfold pairAt markOf
  split
  · rfl
  · rename_i e
    rw [not_or] at e
    have e1 := e.1
    have e2 := e.2
    rw [Bool.not_eq_true, Option.isSome_eq_false_iff, Option.isNone_iff_eq_none] at e1 e2
    rw [e1, e2]; rfl
theorem due_marks {c cg cr cq : List (Int × Int)} {ns ks : List Int} {n : Nat} (h : ∀ k, at? cr k = pairAt c cg k) (hn : (cr.map (·.1)).Nodup) (hR : Rowed cr 0 ns ks cq) (hb : ∀ q ∈ c, 0 ≤ q.1 ∧ q.1 < n) (hbg : ∀ q ∈ cg, 0 ≤ q.1 ∧ q.1 < n) : ks = due 0 (mapN (markOf c cg) n) := by
  have key : ∀ k, k ∈ ns ↔ ∃ x, at? cr k = some x := fun k => by rw [← at?_keys]; exact hR.1.mem_iff
  have hnb : ∀ k ∈ ns, 0 ≤ k ∧ k < n := fun k hk => by
    obtain ⟨x, hx⟩ := (key k).mp hk
    rw [h k] at hx
    unfold pairAt at hx
    split at hx
    · rename_i e
      rcases e with e | e
      · obtain ⟨y, hy⟩ := Option.isSome_iff_exists.mp e
        exact hb _ (at?_mem hy)
      · obtain ⟨y, hy⟩ := Option.isSome_iff_exists.mp e
        exact hbg _ (at?_mem hy)
    · cases hx
  have hsr := sorted_rng hR.2.1 (hR.1.nodup_iff.mpr hn) hnb
  rw [hR.2.2.1, due_filter, due_filter 0 (mapN _ _), mapN_rng]
  congr 1
  have e1 : rowsOf cr ns = ns.map (markOf c cg) := List.map_congr_left fun k _ => pair_getD h k
  have e2 : ns.map (markOf c cg) = ((rng n).filter fun k => decide (k ∈ ns)).map (markOf c cg) := congrArg _ hsr
  rw [e1, e2]
  refine filter_map_zero (fun g hg => ?_) _
  have hg' : g ∉ ns := by simpa using hg
  rw [← pair_getD h g]
  cases e : at? cr g with
  | none => rfl
  | some x => exact absurd ((key g).mpr ⟨x, e⟩) hg'
theorem idx_marks {c cg cr cq : List (Int × Int)} {ns ks : List Int} (h : ∀ k, at? cr k = pairAt c cg k) (hR : Rowed cr 0 ns ks cq) (k : Int) : (at? cq k).getD 0 = (ks.idxOf (markOf c cg k) : Int) := by
  have h0 : ks.idxOf (0 : Int) = 0 := by rw [hR.2.2.1]; exact due_idx_p 0 _
  rw [hR.2.2.2 k, ← pair_getD h k]
  cases e : at? cr k with
  | none => simp [h0]
  | some x =>
    simp only [Option.bind_some, clsOf, Option.getD_some]
    split
    · rename_i e'
      rw [e', h0]; rfl
    · rfl
theorem idx_of_nodup {ks : List Int} (hnd : ks.Nodup) {i : Nat} (hi : i < ks.length) {x : Int} (hx : ks[i] = x) : ks.idxOf x = i := by
  have hm : x ∈ ks := hx ▸ List.getElem_mem hi
  have hj := List.idxOf_lt_length_iff.mpr hm
  have e : ks[ks.idxOf x] = x := List.getElem_idxOf hj
  rcases Nat.lt_trichotomy (ks.idxOf x) i with g | g | g
  · exact absurd (e.trans hx.symm) (List.pairwise_iff_getElem.mp hnd _ _ hj hi g)
  · exact g
  · exact absurd (hx.trans e.symm) (List.pairwise_iff_getElem.mp hnd _ _ hi hj g)
theorem rowed_vals {c cq : List (Int × Int)} {p : Int} {ns ks : List Int} (hR : Rowed c p ns ks cq) (hn : (c.map (·.1)).Nodup) (hq : (cq.map (·.1)).Nodup) : ∀ q ∈ cq, 0 < q.2 ∧ q.2 < ks.length := by
  intro q hqm
  have h := at?_of_mem (k := q.1) (v := q.2) hq hqm
  rw [hR.2.2.2] at h
  obtain ⟨x, hx, hc⟩ := Option.bind_eq_some_iff.mp h
  unfold clsOf at hc
  split at hc
  · cases hc
  · rename_i e
    injection hc with hc
    have hm := List.idxOf_lt_length_iff.mpr (hR.mem hn (at?_mem hx))
    have hpos := due_idx_pos (xs := rowsOf c ns) e
    rw [← hR.2.2.1] at hpos
    dsimp only at hm
    omega
theorem rowed_count {c cq : List (Int × Int)} {p : Int} {ns ks : List Int} (hR : Rowed c p ns ks cq) (hn : (c.map (·.1)).Nodup) (hq : (cq.map (·.1)).Nodup) : maxV cq + 1 = (ks.length : Int) := by
  have hv := rowed_vals hR hn hq
  obtain ⟨r, hr⟩ := due_head p (rowsOf c ns)
  rw [← hR.2.2.1] at hr
  have hl : 0 < ks.length := by rw [hr]; simp
  have hlt : maxV cq < ks.length := maxV_lt (by omega) fun q h => (hv q h).2
  have h0 := maxV_nonneg cq
  by_cases e : ks.length = 1
  · omega
  have hlast : ks.length - 1 < ks.length := by omega
  have hnd : ks.Nodup := by rw [hR.2.2.1]; exact due_nodup _ _
  have hm : ks[ks.length - 1] ∈ ks := List.getElem_mem hlast
  have hne : ks[ks.length - 1] ≠ p := by
    intro q
    have h1 : ks[0]? = some p := by rw [hr]; rfl
    obtain ⟨g0, g1⟩ := List.getElem?_eq_some_iff.mp h1
    exact List.pairwise_iff_getElem.mp hnd 0 (ks.length - 1) g0 hlast (by omega) (g1.trans q.symm)
  have hm2 : ks[ks.length - 1] ∈ due p (rowsOf c ns) := hR.2.2.1 ▸ hm
  rcases (due_mem _ _ _).mp hm2 with z | z
  · exact absurd z hne
  · obtain ⟨k, hk, hx⟩ := List.mem_map.mp z
    obtain ⟨x, hxk⟩ := at?_keys.mp (hR.1.mem_iff.mp hk)
    rw [hxk] at hx
    have hx' : x = ks[ks.length - 1] := hx
    have hidx : ks.idxOf x = ks.length - 1 := idx_of_nodup hnd hlast hx'.symm
    have hat : at? cq k = some ((ks.length - 1 : Nat) : Int) := by
      rw [hR.2.2.2, hxk, Option.bind_some, clsOf, if_neg (by rw [hx']; exact hne), hidx]
    have := maxV_ge _ (at?_mem hat)
    dsimp only at this
    omega
theorem ClsOk.bound {c : List (Int × Int)} (h : ClsOk c) : ∀ q ∈ c, 0 ≤ q.2 ∧ q.2 < 65536 := fun q hq => by
  have := (h q hq).2.2
  simp only [List.mem_cons, List.not_mem_nil, or_false] at this
  omega
theorem tl_ne {all rest tl : List (Addr × Obj)} {a : Addr} (hnew : ∀ p ∈ tl, p ∈ rest ∨ ∀ q ∈ all, @LT.lt Nat _ q.1 p.1) (hr : ∀ p ∈ rest, p.1 ≠ a) (hm : ∃ o, (a, o) ∈ all) : ∀ p ∈ tl, p.1 ≠ a := fun p hp => by
  rcases hnew p hp with h | h
  · exact hr p h
  · obtain ⟨o, ho⟩ := hm
    exact Nat.ne_of_gt (h _ ho)
inductive JMk (m₀ : Str → Option Value) (mk : List Int) (srt : Addr × Obj) (El : Addr) (ts tail : List (Addr × Obj)) (i : Nat) : (Str → Option Value) → List (Addr × Obj) → Prop
  | mk (u : Option Value) (evs : List Value) (ne : Nat) (h : LV (TV ts) evs (due 0 (mk.take i))) : JMk m₀ mk srt El ts tail i (fun y => if y = Str.ofString "mark" then u else m₀ y) (srt :: (El, listOf evs.toArray ne) :: tail)
theorem JMk.of {m₀ m : Str → Option Value} {mk : List Int} {srt : Addr × Obj} {El : Addr} {ts tail : List (Addr × Obj)} {i : Nat} {evs : List Value} {ne : Nat} (hm : ∃ u, m = fun y => if y = Str.ofString "mark" then u else m₀ y) (h : LV (TV ts) evs (due 0 (mk.take i))) : JMk m₀ mk srt El ts tail i m (srt :: (El, listOf evs.toArray ne) :: tail) := by
  obtain ⟨u, rfl⟩ := hm; exact ⟨u, evs, ne, h⟩
theorem due_take1 {mk : List Int} {i : Nat} {x : Int} (h : mk[i]? = some x) : due 0 (mk.take (i + 1)) = dueStep (due 0 (mk.take i)) x := by
  rw [List.take_add_one, h]; exact due_snoc _ _ _
theorem due_take1_len (mk : List Int) (i : Nat) : (due 0 (mk.take i)).length ≤ i + 1 := by
  have := due_length 0 (mk.take i)
  rw [List.length_take] at this
  omega
theorem mapN_length (f : Int → Int) (n : Nat) : (mapN f n).length = n := by unfold mapN; simp
section
variable {A : Around} {s : Shared} {h₀ h : Heap} {L : Addr} {news ts tt : List (Addr × Obj)}
theorem eqR_ts2 (N : News h₀ L s.heap news) (hs : ∀ p ∈ ts, p ∈ news) (hs2 : ∀ p ∈ tt, p ∈ news) (hu : A.units < cLine) : EqR A s (TV ts) (TV tt) := fun v c v' c' h1 h2 => eqR_tup N hu v c v' c' (h1.mono hs) (h2.mono hs2)
end
/-- a ledger whose tail grows by new objects alone -/
inductive JTl2 (front : List (Addr × Obj)) (ts : List (Addr × Obj)) (codes : Nat → List Int) (i : Nat) (ys : List Value) : List (Addr × Obj) → Prop
  | mk (tl : List (Addr × Obj)) (hs : ∀ p ∈ ts, p ∈ tl) (hv : LV (TV tl) ys (codes i)) (hn : ∀ p ∈ tl, p ∈ ts ∨ ∀ q ∈ front ++ ts, @LT.lt Nat _ q.1 p.1) : JTl2 front ts codes i ys (front ++ tl)
theorem JTl2.of {front ts tl nx : List (Addr × Obj)} {codes : Nat → List Int} {i : Nat} {ys : List Value} (hnx : nx = front ++ tl) (hs : ∀ p ∈ ts, p ∈ tl) (hv : LV (TV tl) ys (codes i)) (hn : ∀ p ∈ tl, p ∈ ts ∨ ∀ q ∈ front ++ ts, @LT.lt Nat _ q.1 p.1) : JTl2 front ts codes i ys nx := hnx ▸ ⟨tl, hs, hv, hn⟩
theorem news_rot {h₀ h : Heap} {L : Addr} {a b c : Addr × Obj} {r : List (Addr × Obj)} (N : News h₀ L h (a :: b :: c :: r)) : News h₀ L h (c :: a :: b :: r) :=
  news_sub N (sub_cons (.tail _ (.tail _ (.head _))) (sub_cons (.head _) (sub_cons (.tail _ (.head _)) fun p hp => .tail _ (.tail _ (.tail _ hp)))))
theorem mapN_map {f g : Int → Int} (h : Int → Int) (e : ∀ k, f k = h (g k)) (n : Nat) : mapN f n = (mapN g n).map h := by
  unfold mapN
  rw [List.map_map]
  exact List.map_congr_left fun i _ => e _

section PackHold


local macro_rules | `(tactic| walk_at "call builtin:sorted") => `(tactic| (k_here; k_dflt (refine' set_sorted ?hh ?F ?N ?pm ?d ?_; (case hh => exact rfl); (case F => k_asm); (case N => k_asm); (case pm => k_mem); (case d => with_reducible assumption)); intro D' v' n' c' h' tk' F' N' l1 i' e' p' o'; (try k_lt l1)))



set_option maxRecDepth 100000 in
set_option maxHeartbeats 0 in
theorem packhold_c (w : World) : PySem.Challenge.rw_nu0148_01 = PySem.Challenge.rw_nu0148_01 →
  ∀ (loose : List Str) (mean : ExcName → Option Value) (mg mb : Str → Option Value) (dp un : Nat) (gd : Option (List Code)) (cn : Str) (cs : Scope) (a : Addr) (ccd : Value) (cl : List (Str × Addr)) (outer : List Env) (A₀ : Around) (base h₀ : Heap) (L : Addr) (m : Str → Option Value) (s : Shared) (Q E : Value → Shared → Prop)
  (X D d e : Addr) (t1 : Tok) (od oe : Obj) (kvs : List (Int × Value)) (c : List (Int × Int)) (rest : List (Addr × Obj)),
  Below A₀ base outer h₀ → Fr h₀ L s.heap m → (hd.heap_39 w.params).In h₀ → News h₀ L s.heap ((X, instObj 66 D) :: (D, clsDict w t1 (.ref d)) :: (d, od) :: (e, oe) :: rest) → Top hd.view_39 loose mean mg mb h₀ → cs.kind = .function → dp + 8 < recursionLimit → un + 60 < cLine →
  od.IsDictOf (intKind PROG w) kvs → (d == sysModules) = false → oe.IsDictOf (intKind PROG w) kvs → (e == sysModules) = false → IV kvs c → kvs.length ≤ 12 → ClsOk c →
  (∀ h' tk', Fr h₀ L h' m → News h₀ L h' ((X, instObj 66 D) :: (D, clsDict w t1 (.ref d)) :: (d, od) :: (e, oe) :: rest) → Q (.bool true) { s with heap := h', toks := tk' }) →
  wpAny (model PROG w) (ktrTop dp un gd cn cs L a ccd cl outer) (call (.ref 113) [.ref X, .ref e]) Q E s := by
  w_top off
  k_fill
  intro _ loose mean mg mb dp un gd cn cs a ccd cl outer A₀ base h₀ L m s Q E X D d e t1 od oe kvs c rest B F KX N T hk hdp hun hD lo hE loE hIV hlen hok hret
  have hpos0 : ∀ p ∈ c, 0 < p.2 := fun p hp => by
    have := (hok p hp).2.2
    simp only [List.mem_cons, List.not_mem_nil, or_false] at this
    omega
  refine wpAny_call ?_
  k_dflt (refine' code_defC ?k1 ?k2 ?k3 ?k4 ?k5 ?kA ?kF ?kK ?k6 ?k7 ?k8 ?k9 ?kB ?kD ?_ ?c2 ?c3 ?c4; (case kA => exact rfl); (case kF => exact rfl); (case kK => assumption); (case k1 => k_asm); (case k2 => k_asm); (case k3 => k_asm); (case k4 => k_asm); (case k5 => k_asm); (case k6 => k_is); (case k7 => k_is); (case k8 => ktr_room); (case k9 => exact BindsTo.of_eq rfl); (case kB => exact rfl); (case kD => decide +kernel); (case c2 => exact rfl); (case c3 => exact rfl); (case c4 => exact rfl); k_whole; intro g' L' h' tk' cells' FG' F' N' Y' B' X' T' l1; (try k_lt l1); k_cells Y'; (try simp only [List.cons_append, List.nil_append] at N'); (try dsimp only); (try k_fold))
  (with_reducible rename (AllLt _ (_ :: _)) => l1E)
  have hr1 := allLt_ne1 l1E.2.2.2.2
  have hr2 := allLt_ne2 l1E.2.2.2.2
  have hr3 := allLt_ne3 l1E.2.2.2.2
  (repeat' ((fail_if_success (with_reducible refine Stop.in ?_)); first | (k_unfold; (try dsimp only)) | (k_end; wrow_close) | ((with_reducible show wpAny _ _ (call _ _ _) _ _ _); (first | with_reducible show wpAny _ _ (call (Value.ref 80) [Value.ref _]) _ _ _ | k_dflt (show wpAny _ _ (call (Value.ref 56) [Value.ref _]) _ _ _) | with_reducible show wpAny _ _ (call (Value.type "set") [Value.ref _]) _ _ _); refine Stop.out ?_) | ((with_reducible show wpAny _ _ (compareOp _ _ _) _ _ _); (first | with_reducible show wpAny _ _ (compareOp CmpOp.NotEq (Value.ref _) (Value.ref _)) _ _ _ | with_reducible show wpAny _ _ (compareOp CmpOp.Eq (Value.ref _) (Value.ref _)) _ _ _); refine Stop.out ?_) | ((with_reducible show wpAny _ _ (eval _ _) _ _ _); (first | with_reducible show wpAny _ _ (eval (Expr.ListComp _ _ _ _) _) _ _ _ | with_reducible show wpAny _ _ (eval (Expr.DictComp _ _ _ _ _) _) _ _ _); refine Stop.out ?_) | ((with_reducible show wpAny _ _ (exec _ _) _ _ _); (first | with_reducible show wpAny _ _ (exec (Stmt.Assign (_ :: _) (Expr.ListComp _ _ _ _) _) _) _ _ _); refine Stop.out ?_) | ((with_reducible show wpAny _ _ (pyIter _) _ _ _); (first | with_reducible show wpAny _ _ (pyIter (Value.ref _)) _ _ _); refine Stop.out ?_) |  walk1 | (dsimp only; walk1) | (leave1; walk_say "STEP leave1"; try dsimp only) | fail "no step"))
  refine Stop.in ?_
  k_dflt (refine' packed_u ?B ?F ?K ?N ?T ?k ?d ?u ?X ?D ?dd hD lo hIV (by omega) hpos0 ?_; (case B => k_asm); (case F => k_asm); (case K => k_asm); (case N => k_asm); (case T => k_asm); (case k => exact rfl); (case d => k_room); (case u => k_units); (case X => k_mem); (case D => k_mem); (case dd => k_mem))
  intro T1 X1 D1 ta d1 od1 kvs1 c1 El evs ne es h3 tk3 F3 N3 e1 e2 e3 e4 e5 hd1 lo1 hv1 hl1 hev hesl hPk
  k_lt e1
  k_lt e2
  k_lt e3
  k_lt e4
  k_lt e5
  try dsimp only
  (repeat' ((fail_if_success (with_reducible refine Stop.in ?_)); first | (k_unfold; (try dsimp only)) | (k_end; wrow_close) | ((with_reducible show wpAny _ _ (call _ _ _) _ _ _); (first | with_reducible show wpAny _ _ (call (Value.ref 80) [Value.ref _]) _ _ _ | k_dflt (show wpAny _ _ (call (Value.ref 56) [Value.ref _]) _ _ _) | with_reducible show wpAny _ _ (call (Value.type "set") [Value.ref _]) _ _ _); refine Stop.out ?_) | ((with_reducible show wpAny _ _ (compareOp _ _ _) _ _ _); (first | with_reducible show wpAny _ _ (compareOp CmpOp.NotEq (Value.ref _) (Value.ref _)) _ _ _ | with_reducible show wpAny _ _ (compareOp CmpOp.Eq (Value.ref _) (Value.ref _)) _ _ _); refine Stop.out ?_) | ((with_reducible show wpAny _ _ (eval _ _) _ _ _); (first | with_reducible show wpAny _ _ (eval (Expr.ListComp _ _ _ _) _) _ _ _ | with_reducible show wpAny _ _ (eval (Expr.DictComp _ _ _ _ _) _) _ _ _); refine Stop.out ?_) | ((with_reducible show wpAny _ _ (exec _ _) _ _ _); (first | with_reducible show wpAny _ _ (exec (Stmt.Assign (_ :: _) (Expr.ListComp _ _ _ _) _) _) _ _ _); refine Stop.out ?_) | ((with_reducible show wpAny _ _ (pyIter _) _ _ _); (first | with_reducible show wpAny _ _ (pyIter (Value.ref _)) _ _ _); refine Stop.out ?_) |  walk1 | (dsimp only; walk1) | (leave1; walk_say "STEP leave1"; try dsimp only) | fail "no step"))
  refine Stop.in ?_
  have hnd := IsDictOf_nodup hE
  k_dflt (refine lc_eval (_F := by k_asm) (by with_unfolding_all rfl) (by decide) (by rfl) (by decide) (by rfl) ?_)
  (repeat' ((fail_if_success (with_reducible refine Stop.in ?_)); first | (k_unfold; (try dsimp only)) | (k_end; wrow_close) | ((with_reducible show wpAny _ _ (call _ _ _) _ _ _); (first | with_reducible show wpAny _ _ (call (Value.ref 80) [Value.ref _]) _ _ _ | k_dflt (show wpAny _ _ (call (Value.ref 56) [Value.ref _]) _ _ _) | with_reducible show wpAny _ _ (call (Value.type "set") [Value.ref _]) _ _ _); refine Stop.out ?_) | ((with_reducible show wpAny _ _ (compareOp _ _ _) _ _ _); (first | with_reducible show wpAny _ _ (compareOp CmpOp.NotEq (Value.ref _) (Value.ref _)) _ _ _ | with_reducible show wpAny _ _ (compareOp CmpOp.Eq (Value.ref _) (Value.ref _)) _ _ _); refine Stop.out ?_) | ((with_reducible show wpAny _ _ (eval _ _) _ _ _); (first | with_reducible show wpAny _ _ (eval (Expr.ListComp _ _ _ _) _) _ _ _ | with_reducible show wpAny _ _ (eval (Expr.DictComp _ _ _ _ _) _) _ _ _); refine Stop.out ?_) | ((with_reducible show wpAny _ _ (exec _ _) _ _ _); (first | with_reducible show wpAny _ _ (exec (Stmt.Assign (_ :: _) (Expr.ListComp _ _ _ _) _) _) _ _ _); refine Stop.out ?_) | ((with_reducible show wpAny _ _ (pyIter _) _ _ _); (first | with_reducible show wpAny _ _ (pyIter (Value.ref _)) _ _ _); refine Stop.out ?_) |  walk1 | (dsimp only; walk1) | (leave1; walk_say "STEP leave1"; try dsimp only) | fail "no step"))
  refine LcAt.keep0 kvs.length _ _ _ _ (fun i ys => IntsAre ys ((c.take i).map (·.2))) (Src.dict e loE hE) (by with_unfolding_all rfl) (by k_asm) (by k_asm) trivial (by rw [sizeLine_eq]; first | decide | omega) ?_ .nil ?_ ?_
  · intro p hp
    rw [List.mem_singleton.mp hp]
    k_mem
  · intro i u ys I oI C oC Dl m₂ h tk E' hi hku hys; refine DIVAt.casesOn (divat hku hIV) ?_; intro k i' t t' hkx hci; intro hoC hmx F1 N1 off hIC hID hCD hyl
    have hval := valueAt_of_get hnd hkx
    (repeat' ((fail_if_success (with_reducible refine Stop.in ?_)); first | (k_unfold; (try dsimp only)) | (k_end; wrow_close) | ((with_reducible show wpAny _ _ (call _ _ _) _ _ _); (first | with_reducible show wpAny _ _ (call (Value.ref 80) [Value.ref _]) _ _ _ | k_dflt (show wpAny _ _ (call (Value.ref 56) [Value.ref _]) _ _ _) | with_reducible show wpAny _ _ (call (Value.type "set") [Value.ref _]) _ _ _); refine Stop.out ?_) | ((with_reducible show wpAny _ _ (compareOp _ _ _) _ _ _); (first | with_reducible show wpAny _ _ (compareOp CmpOp.NotEq (Value.ref _) (Value.ref _)) _ _ _ | with_reducible show wpAny _ _ (compareOp CmpOp.Eq (Value.ref _) (Value.ref _)) _ _ _); refine Stop.out ?_) | ((with_reducible show wpAny _ _ (eval _ _) _ _ _); (first | with_reducible show wpAny _ _ (eval (Expr.ListComp _ _ _ _) _) _ _ _ | with_reducible show wpAny _ _ (eval (Expr.DictComp _ _ _ _ _) _) _ _ _); refine Stop.out ?_) | ((with_reducible show wpAny _ _ (exec _ _) _ _ _); (first | with_reducible show wpAny _ _ (exec (Stmt.Assign (_ :: _) (Expr.ListComp _ _ _ _) _) _) _ _ _); refine Stop.out ?_) | ((with_reducible show wpAny _ _ (pyIter _) _ _ _); (first | with_reducible show wpAny _ _ (pyIter (Value.ref _)) _ _ _); refine Stop.out ?_) |  walk1 | (dsimp only; walk1) | (leave1; walk_say "STEP leave1"; try dsimp only) | fail "no step"))
    exact PartEnd.intro _ F1 N1 (fun p hp => hp) off ⟨by rw [map_take_succ _ hci]; exact ints_snoc hys _ _⟩
  · have hcl := hIV.length
    intro h4 tk4 ys hys; intro Dl h5 tk5 hDl F5 N5 off5
    rw [List.take_of_length_le (by omega)] at hys
    try dsimp only
    (repeat' ((fail_if_success (with_reducible refine Stop.in ?_)); first | (k_unfold; (try dsimp only)) | (k_end; wrow_close) | ((with_reducible show wpAny _ _ (call _ _ _) _ _ _); (first | with_reducible show wpAny _ _ (call (Value.ref 80) [Value.ref _]) _ _ _ | k_dflt (show wpAny _ _ (call (Value.ref 56) [Value.ref _]) _ _ _) | with_reducible show wpAny _ _ (call (Value.type "set") [Value.ref _]) _ _ _); refine Stop.out ?_) | ((with_reducible show wpAny _ _ (compareOp _ _ _) _ _ _); (first | with_reducible show wpAny _ _ (compareOp CmpOp.NotEq (Value.ref _) (Value.ref _)) _ _ _ | with_reducible show wpAny _ _ (compareOp CmpOp.Eq (Value.ref _) (Value.ref _)) _ _ _); refine Stop.out ?_) | ((with_reducible show wpAny _ _ (eval _ _) _ _ _); (first | with_reducible show wpAny _ _ (eval (Expr.ListComp _ _ _ _) _) _ _ _ | with_reducible show wpAny _ _ (eval (Expr.DictComp _ _ _ _ _) _) _ _ _); refine Stop.out ?_) | ((with_reducible show wpAny _ _ (exec _ _) _ _ _); (first | with_reducible show wpAny _ _ (exec (Stmt.Assign (_ :: _) (Expr.ListComp _ _ _ _) _) _) _ _ _); refine Stop.out ?_) | ((with_reducible show wpAny _ _ (pyIter _) _ _ _); (first | with_reducible show wpAny _ _ (pyIter (Value.ref _)) _ _ _); refine Stop.out ?_) |  walk1 | (dsimp only; walk1) | (leave1; walk_say "STEP leave1"; try dsimp only) | fail "no step"))
    (with_reducible rename (IntsAre _ ([0] ++ _)) => hI0)
    refine Stop.in ?_
    k_dflt (refine' l_set ?hh ?F ?N ?pm hI0 ?dm ?z ?_; (case hh => exact rfl); (case F => k_asm); (case N => k_asm); (case pm => k_mem); (case z => rfl))
    case dm =>
      intro x hx
      rcases List.mem_append.mp hx with hx | hx
      · rw [List.mem_singleton.mp hx]; decide
      · obtain ⟨p, hp, rfl⟩ := List.mem_map.mp hx
        exact .tail _ (hok p hp).2.2
    intro St oS h6 tk6 F6 N6 l6 hS6
    k_lt l6
    try dsimp only
    (repeat' ((fail_if_success (with_reducible refine Stop.in ?_)); first | (k_unfold; (try dsimp only)) | (k_end; wrow_close) | ((with_reducible show wpAny _ _ (call _ _ _) _ _ _); (first | with_reducible show wpAny _ _ (call (Value.ref 80) [Value.ref _]) _ _ _ | k_dflt (show wpAny _ _ (call (Value.ref 56) [Value.ref _]) _ _ _) | with_reducible show wpAny _ _ (call (Value.type "set") [Value.ref _]) _ _ _); refine Stop.out ?_) | ((with_reducible show wpAny _ _ (compareOp _ _ _) _ _ _); (first | with_reducible show wpAny _ _ (compareOp CmpOp.NotEq (Value.ref _) (Value.ref _)) _ _ _ | with_reducible show wpAny _ _ (compareOp CmpOp.Eq (Value.ref _) (Value.ref _)) _ _ _); refine Stop.out ?_) | ((with_reducible show wpAny _ _ (eval _ _) _ _ _); (first | with_reducible show wpAny _ _ (eval (Expr.ListComp _ _ _ _) _) _ _ _ | with_reducible show wpAny _ _ (eval (Expr.DictComp _ _ _ _ _) _) _ _ _); refine Stop.out ?_) | ((with_reducible show wpAny _ _ (exec _ _) _ _ _); (first | with_reducible show wpAny _ _ (exec (Stmt.Assign (_ :: _) (Expr.ListComp _ _ _ _) _) _) _ _ _); refine Stop.out ?_) | ((with_reducible show wpAny _ _ (pyIter _) _ _ _); (first | with_reducible show wpAny _ _ (pyIter (Value.ref _)) _ _ _); refine Stop.out ?_) |  walk1 | (dsimp only; walk1) | (leave1; walk_say "STEP leave1"; try dsimp only) | fail "no step"))
    refine Stop.in ?_
    (with_reducible rename (IntsAre _ _) => hI7)
    (with_reducible rename (List.Pairwise (fun x1 x2 => x1 < x2) _) => hI8)
    (with_reducible rename (∀ x : Int, x ∈ _ ↔ x ∈ [0] ++ _) => hI9)
    have hEq := packed_vals (hIV.nodup hnd) hPk.1 hPk.2.1 hI8 hI9
    k_dflt (refine' ll_ne2 ?N ?pm ?pm2 (LV.ints hev) (LV.ints hI7) eqR_int ?u hEq ?_; (case N => k_asm); (case pm => k_mem); (case pm2 => k_mem); (case u => k_units))
    (repeat' ((fail_if_success (with_reducible refine Stop.in ?_)); first | (k_unfold; (try dsimp only)) | (k_end; wrow_close) | ((with_reducible show wpAny _ _ (call _ _ _) _ _ _); (first | with_reducible show wpAny _ _ (call (Value.ref 80) [Value.ref _]) _ _ _ | k_dflt (show wpAny _ _ (call (Value.ref 56) [Value.ref _]) _ _ _) | with_reducible show wpAny _ _ (call (Value.type "set") [Value.ref _]) _ _ _); refine Stop.out ?_) | ((with_reducible show wpAny _ _ (compareOp _ _ _) _ _ _); (first | with_reducible show wpAny _ _ (compareOp CmpOp.NotEq (Value.ref _) (Value.ref _)) _ _ _ | with_reducible show wpAny _ _ (compareOp CmpOp.Eq (Value.ref _) (Value.ref _)) _ _ _); refine Stop.out ?_) | ((with_reducible show wpAny _ _ (eval _ _) _ _ _); (first | with_reducible show wpAny _ _ (eval (Expr.ListComp _ _ _ _) _) _ _ _ | with_reducible show wpAny _ _ (eval (Expr.DictComp _ _ _ _ _) _) _ _ _); refine Stop.out ?_) | ((with_reducible show wpAny _ _ (exec _ _) _ _ _); (first | with_reducible show wpAny _ _ (exec (Stmt.Assign (_ :: _) (Expr.ListComp _ _ _ _) _) _) _ _ _); refine Stop.out ?_) | ((with_reducible show wpAny _ _ (pyIter _) _ _ _); (first | with_reducible show wpAny _ _ (pyIter (Value.ref _)) _ _ _); refine Stop.out ?_) |  walk1 | (dsimp only; walk1) | (leave1; walk_say "STEP leave1"; try dsimp only) | fail "no step"))
    (with_reducible rename (List.Perm _ (kvs.map _)) => hP2)
    (with_reducible rename (List.Perm _ (kvs1.map _)) => hP1)
    refine Stop.in ?_
    k_dflt (refine' ll_ne2 ?N ?pm ?pm2 (LV.ints ?j1) (LV.ints ?j2) eqR_int ?u ?eq ?_; (case N => k_asm); (case pm => k_mem); (case pm2 => k_mem); (case j1 => with_reducible assumption); (case j2 => with_reducible assumption); (case u => k_units); (case eq => exact sorted_same hP1 hP2 (by rw [hIV.keys, hv1.keys]; exact packed_keys hPk (hIV.nodup hnd) (hv1.nodup (IsDictOf_nodup hd1))) (by assumption) (by assumption)))
    (repeat' ((fail_if_success (with_reducible refine Stop.in ?_)); first | (k_unfold; (try dsimp only)) | (k_end; wrow_close) | ((with_reducible show wpAny _ _ (call _ _ _) _ _ _); (first | with_reducible show wpAny _ _ (call (Value.ref 80) [Value.ref _]) _ _ _ | k_dflt (show wpAny _ _ (call (Value.ref 56) [Value.ref _]) _ _ _) | with_reducible show wpAny _ _ (call (Value.type "set") [Value.ref _]) _ _ _); refine Stop.out ?_) | ((with_reducible show wpAny _ _ (compareOp _ _ _) _ _ _); (first | with_reducible show wpAny _ _ (compareOp CmpOp.NotEq (Value.ref _) (Value.ref _)) _ _ _ | with_reducible show wpAny _ _ (compareOp CmpOp.Eq (Value.ref _) (Value.ref _)) _ _ _); refine Stop.out ?_) | ((with_reducible show wpAny _ _ (eval _ _) _ _ _); (first | with_reducible show wpAny _ _ (eval (Expr.ListComp _ _ _ _) _) _ _ _ | with_reducible show wpAny _ _ (eval (Expr.DictComp _ _ _ _ _) _) _ _ _); refine Stop.out ?_) | ((with_reducible show wpAny _ _ (exec _ _) _ _ _); (first | with_reducible show wpAny _ _ (exec (Stmt.Assign (_ :: _) (Expr.ListComp _ _ _ _) _) _) _ _ _); refine Stop.out ?_) | ((with_reducible show wpAny _ _ (pyIter _) _ _ _); (first | with_reducible show wpAny _ _ (pyIter (Value.ref _)) _ _ _); refine Stop.out ?_) |  walk1 | (dsimp only; walk1) | (leave1; walk_say "STEP leave1"; try dsimp only) | fail "no step"))
    have hnd1 := IsDictOf_nodup hd1
    have hrg := packed_range hPk (hv1.nodup hnd1)
    refine Stop.in ?_
    k_dflt (refine' count_u ?B ?F ?K ?N ?T ?k ?d ?u ?X ?D ?dd hd1 lo1 hv1 (by omega) (fun p hp => ⟨(hrg p hp).1, by have := (hrg p hp).2; omega⟩) ?_; (case B => k_asm); (case F => k_asm); (case K => k_asm); (case N => k_asm); (case T => k_asm); (case k => exact rfl); (case d => k_room); (case u => k_units); (case X => k_mem); (case D => k_mem); (case dd => k_mem))
    rw [packed_count hPk (hv1.nodup hnd1)]
    intro t9 h9 tk9 F9 N9
    try dsimp only
    (repeat' ((fail_if_success (with_reducible refine Stop.in ?_)); first | (k_unfold; (try dsimp only)) | (k_end; wrow_close) | ((with_reducible show wpAny _ _ (call _ _ _) _ _ _); (first | with_reducible show wpAny _ _ (call (Value.ref 80) [Value.ref _]) _ _ _ | k_dflt (show wpAny _ _ (call (Value.ref 56) [Value.ref _]) _ _ _) | with_reducible show wpAny _ _ (call (Value.type "set") [Value.ref _]) _ _ _); refine Stop.out ?_) | ((with_reducible show wpAny _ _ (compareOp _ _ _) _ _ _); (first | with_reducible show wpAny _ _ (compareOp CmpOp.NotEq (Value.ref _) (Value.ref _)) _ _ _ | with_reducible show wpAny _ _ (compareOp CmpOp.Eq (Value.ref _) (Value.ref _)) _ _ _); refine Stop.out ?_) | ((with_reducible show wpAny _ _ (eval _ _) _ _ _); (first | with_reducible show wpAny _ _ (eval (Expr.ListComp _ _ _ _) _) _ _ _ | with_reducible show wpAny _ _ (eval (Expr.DictComp _ _ _ _ _) _) _ _ _); refine Stop.out ?_) | ((with_reducible show wpAny _ _ (exec _ _) _ _ _); (first | with_reducible show wpAny _ _ (exec (Stmt.Assign (_ :: _) (Expr.ListComp _ _ _ _) _) _) _ _ _); refine Stop.out ?_) | ((with_reducible show wpAny _ _ (pyIter _) _ _ _); (first | with_reducible show wpAny _ _ (pyIter (Value.ref _)) _ _ _); refine Stop.out ?_) |  walk1 | (dsimp only; walk1) | (leave1; walk_say "STEP leave1"; try dsimp only) | fail "no step"))
    · exact absurd rfl (by assumption)
    refine Stop.in ?_
    k_dflt (refine lc_eval (_F := by k_asm) (by with_unfolding_all rfl) (by decide) (by rfl) (by decide) (by rfl) ?_)
    (repeat' ((fail_if_success (with_reducible refine Stop.in ?_)); first | (k_unfold; (try dsimp only)) | (k_end; wrow_close) | ((with_reducible show wpAny _ _ (call _ _ _) _ _ _); (first | with_reducible show wpAny _ _ (call (Value.ref 80) [Value.ref _]) _ _ _ | k_dflt (show wpAny _ _ (call (Value.ref 56) [Value.ref _]) _ _ _) | with_reducible show wpAny _ _ (call (Value.type "set") [Value.ref _]) _ _ _); refine Stop.out ?_) | ((with_reducible show wpAny _ _ (compareOp _ _ _) _ _ _); (first | with_reducible show wpAny _ _ (compareOp CmpOp.NotEq (Value.ref _) (Value.ref _)) _ _ _ | with_reducible show wpAny _ _ (compareOp CmpOp.Eq (Value.ref _) (Value.ref _)) _ _ _); refine Stop.out ?_) | ((with_reducible show wpAny _ _ (eval _ _) _ _ _); (first | with_reducible show wpAny _ _ (eval (Expr.ListComp _ _ _ _) _) _ _ _ | with_reducible show wpAny _ _ (eval (Expr.DictComp _ _ _ _ _) _) _ _ _); refine Stop.out ?_) | ((with_reducible show wpAny _ _ (exec _ _) _ _ _); (first | with_reducible show wpAny _ _ (exec (Stmt.Assign (_ :: _) (Expr.ListComp _ _ _ _) _) _) _ _ _); refine Stop.out ?_) | ((with_reducible show wpAny _ _ (pyIter _) _ _ _); (first | with_reducible show wpAny _ _ (pyIter (Value.ref _)) _ _ _); refine Stop.out ?_) |  walk1 | (dsimp only; walk1) | (leave1; walk_say "STEP leave1"; try dsimp only) | fail "no step"))
    (with_reducible rename (IsRange _ _ _ _ _ _ _ _) => hR)
    refine LcAt.keepR 12 _ _ _ _ (fun i ys => IntsAre ys (mapN (fun k => (at? c k).getD 0) i)) (Src.range (n := 12) (rsmall (by first | decide | omega)) (rsize _)) (by with_unfolding_all rfl) (by k_asm) (by k_asm) hR (by rw [sizeLine_eq]; first | decide | omega) ?_ .nil ?_ ?_
    · intro p hp; exact nomatch hp
    · intro i t ys I oI C oC Dl m₂ h tk E' hi hys hoC hmx F1 N1 off hIC hID hCD hyl
      obtain ⟨hg0, hg1, hg2⟩ := packed_get hPk ((0 : Int) + (i : Int))
      (repeat' ((fail_if_success (with_reducible refine Stop.in ?_)); first | (k_unfold; (try dsimp only)) | (k_end; wrow_close) | ((with_reducible show wpAny _ _ (call _ _ _) _ _ _); (first | with_reducible show wpAny _ _ (call (Value.ref 80) [Value.ref _]) _ _ _ | k_dflt (show wpAny _ _ (call (Value.ref 56) [Value.ref _]) _ _ _) | with_reducible show wpAny _ _ (call (Value.type "set") [Value.ref _]) _ _ _); refine Stop.out ?_) | ((with_reducible show wpAny _ _ (compareOp _ _ _) _ _ _); (first | with_reducible show wpAny _ _ (compareOp CmpOp.NotEq (Value.ref _) (Value.ref _)) _ _ _ | with_reducible show wpAny _ _ (compareOp CmpOp.Eq (Value.ref _) (Value.ref _)) _ _ _); refine Stop.out ?_) | ((with_reducible show wpAny _ _ (eval _ _) _ _ _); (first | with_reducible show wpAny _ _ (eval (Expr.ListComp _ _ _ _) _) _ _ _ | with_reducible show wpAny _ _ (eval (Expr.DictComp _ _ _ _ _) _) _ _ _); refine Stop.out ?_) | ((with_reducible show wpAny _ _ (exec _ _) _ _ _); (first | with_reducible show wpAny _ _ (exec (Stmt.Assign (_ :: _) (Expr.ListComp _ _ _ _) _) _) _ _ _); refine Stop.out ?_) | ((with_reducible show wpAny _ _ (pyIter _) _ _ _); (first | with_reducible show wpAny _ _ (pyIter (Value.ref _)) _ _ _); refine Stop.out ?_) |  walk1 | (dsimp only; walk1) | (leave1; walk_say "STEP leave1"; try dsimp only) | fail "no step"))
      exact PartEnd.intro _ (by k_asm) (by k_asm) (fun p hp => hp) off ⟨by rw [mapN_succ]; exact ints_snoc hys _ _⟩
    intro hA tkA ys hys; intro DlA hB tkB hDlA FB NB offB
    have lB := lts_of (by assumption) hDlA
    k_lt lB
    try dsimp only
    (repeat' ((fail_if_success (with_reducible refine Stop.in ?_)); first | (k_unfold; (try dsimp only)) | (k_end; wrow_close) | ((with_reducible show wpAny _ _ (call _ _ _) _ _ _); (first | with_reducible show wpAny _ _ (call (Value.ref 80) [Value.ref _]) _ _ _ | k_dflt (show wpAny _ _ (call (Value.ref 56) [Value.ref _]) _ _ _) | with_reducible show wpAny _ _ (call (Value.type "set") [Value.ref _]) _ _ _); refine Stop.out ?_) | ((with_reducible show wpAny _ _ (compareOp _ _ _) _ _ _); (first | with_reducible show wpAny _ _ (compareOp CmpOp.NotEq (Value.ref _) (Value.ref _)) _ _ _ | with_reducible show wpAny _ _ (compareOp CmpOp.Eq (Value.ref _) (Value.ref _)) _ _ _); refine Stop.out ?_) | ((with_reducible show wpAny _ _ (eval _ _) _ _ _); (first | with_reducible show wpAny _ _ (eval (Expr.ListComp _ _ _ _) _) _ _ _ | with_reducible show wpAny _ _ (eval (Expr.DictComp _ _ _ _ _) _) _ _ _); refine Stop.out ?_) | ((with_reducible show wpAny _ _ (exec _ _) _ _ _); (first | with_reducible show wpAny _ _ (exec (Stmt.Assign (_ :: _) (Expr.ListComp _ _ _ _) _) _) _ _ _); refine Stop.out ?_) | ((with_reducible show wpAny _ _ (pyIter _) _ _ _); (first | with_reducible show wpAny _ _ (pyIter (Value.ref _)) _ _ _); refine Stop.out ?_) |  walk1 | (dsimp only; walk1) | (leave1; walk_say "STEP leave1"; try dsimp only) | fail "no step"))
    refine Stop.in ?_
    k_dflt (refine lc_eval (_F := by k_asm) (by with_unfolding_all rfl) (by decide) (by rfl) (by decide) (by rfl) ?_)
    (repeat' ((fail_if_success (with_reducible refine Stop.in ?_)); first | (k_unfold; (try dsimp only)) | (k_end; wrow_close) | ((with_reducible show wpAny _ _ (call _ _ _) _ _ _); (first | with_reducible show wpAny _ _ (call (Value.ref 80) [Value.ref _]) _ _ _ | k_dflt (show wpAny _ _ (call (Value.ref 56) [Value.ref _]) _ _ _) | with_reducible show wpAny _ _ (call (Value.type "set") [Value.ref _]) _ _ _); refine Stop.out ?_) | ((with_reducible show wpAny _ _ (compareOp _ _ _) _ _ _); (first | with_reducible show wpAny _ _ (compareOp CmpOp.NotEq (Value.ref _) (Value.ref _)) _ _ _ | with_reducible show wpAny _ _ (compareOp CmpOp.Eq (Value.ref _) (Value.ref _)) _ _ _); refine Stop.out ?_) | ((with_reducible show wpAny _ _ (eval _ _) _ _ _); (first | with_reducible show wpAny _ _ (eval (Expr.ListComp _ _ _ _) _) _ _ _ | with_reducible show wpAny _ _ (eval (Expr.DictComp _ _ _ _ _) _) _ _ _); refine Stop.out ?_) | ((with_reducible show wpAny _ _ (exec _ _) _ _ _); (first | with_reducible show wpAny _ _ (exec (Stmt.Assign (_ :: _) (Expr.ListComp _ _ _ _) _) _) _ _ _); refine Stop.out ?_) | ((with_reducible show wpAny _ _ (pyIter _) _ _ _); (first | with_reducible show wpAny _ _ (pyIter (Value.ref _)) _ _ _); refine Stop.out ?_) |  walk1 | (dsimp only; walk1) | (leave1; walk_say "STEP leave1"; try dsimp only) | fail "no step"))
    (with_reducible rename (IsRange _ _ _ _ _ _ _ _) => hR)
    refine LcAt.keepR 12 _ _ _ _ (fun i ys => IntsAre ys (mapN (fun k => (at? c k).getD 0) i)) (Src.range (n := 12) (rsmall (by first | decide | omega)) (rsize _)) (by with_unfolding_all rfl) (by k_asm) (by k_asm) hR (by rw [sizeLine_eq]; first | decide | omega) ?_ .nil ?_ ?_
    · intro p hp; exact nomatch hp
    · intro i t ys I oI C oC Dl m₂ h tk E' hi hys hoC hmx F1 N1 off hIC hID hCD hyl
      (repeat' ((fail_if_success (with_reducible refine Stop.in ?_)); first | (k_unfold; (try dsimp only)) | (k_end; wrow_close) | ((with_reducible show wpAny _ _ (call _ _ _) _ _ _); (first | with_reducible show wpAny _ _ (call (Value.ref 80) [Value.ref _]) _ _ _ | k_dflt (show wpAny _ _ (call (Value.ref 56) [Value.ref _]) _ _ _) | with_reducible show wpAny _ _ (call (Value.type "set") [Value.ref _]) _ _ _); refine Stop.out ?_) | ((with_reducible show wpAny _ _ (compareOp _ _ _) _ _ _); (first | with_reducible show wpAny _ _ (compareOp CmpOp.NotEq (Value.ref _) (Value.ref _)) _ _ _ | with_reducible show wpAny _ _ (compareOp CmpOp.Eq (Value.ref _) (Value.ref _)) _ _ _); refine Stop.out ?_) | ((with_reducible show wpAny _ _ (eval _ _) _ _ _); (first | with_reducible show wpAny _ _ (eval (Expr.ListComp _ _ _ _) _) _ _ _ | with_reducible show wpAny _ _ (eval (Expr.DictComp _ _ _ _ _) _) _ _ _); refine Stop.out ?_) | ((with_reducible show wpAny _ _ (exec _ _) _ _ _); (first | with_reducible show wpAny _ _ (exec (Stmt.Assign (_ :: _) (Expr.ListComp _ _ _ _) _) _) _ _ _); refine Stop.out ?_) | ((with_reducible show wpAny _ _ (pyIter _) _ _ _); (first | with_reducible show wpAny _ _ (pyIter (Value.ref _)) _ _ _); refine Stop.out ?_) |  walk1 | (dsimp only; walk1) | (leave1; walk_say "STEP leave1"; try dsimp only) | fail "no step"))
      exact PartEnd.intro _ (by k_asm) (by k_asm) (fun p hp => hp) off ⟨by rw [mapN_succ]; exact ints_snoc hys _ _⟩
    intro hC tkC ys2 hys2; intro DlC hD3 tkD hDlC FD ND offD
    try dsimp only
    (repeat' ((fail_if_success (with_reducible refine Stop.in ?_)); first | (k_unfold; (try dsimp only)) | (k_end; wrow_close) | ((with_reducible show wpAny _ _ (call _ _ _) _ _ _); (first | with_reducible show wpAny _ _ (call (Value.ref 80) [Value.ref _]) _ _ _ | k_dflt (show wpAny _ _ (call (Value.ref 56) [Value.ref _]) _ _ _) | with_reducible show wpAny _ _ (call (Value.type "set") [Value.ref _]) _ _ _); refine Stop.out ?_) | ((with_reducible show wpAny _ _ (compareOp _ _ _) _ _ _); (first | with_reducible show wpAny _ _ (compareOp CmpOp.NotEq (Value.ref _) (Value.ref _)) _ _ _ | with_reducible show wpAny _ _ (compareOp CmpOp.Eq (Value.ref _) (Value.ref _)) _ _ _); refine Stop.out ?_) | ((with_reducible show wpAny _ _ (eval _ _) _ _ _); (first | with_reducible show wpAny _ _ (eval (Expr.ListComp _ _ _ _) _) _ _ _ | with_reducible show wpAny _ _ (eval (Expr.DictComp _ _ _ _ _) _) _ _ _); refine Stop.out ?_) | ((with_reducible show wpAny _ _ (exec _ _) _ _ _); (first | with_reducible show wpAny _ _ (exec (Stmt.Assign (_ :: _) (Expr.ListComp _ _ _ _) _) _) _ _ _); refine Stop.out ?_) | ((with_reducible show wpAny _ _ (pyIter _) _ _ _); (first | with_reducible show wpAny _ _ (pyIter (Value.ref _)) _ _ _); refine Stop.out ?_) |  walk1 | (dsimp only; walk1) | (leave1; walk_say "STEP leave1"; try dsimp only) | fail "no step"))
    refine Stop.in ?_
    k_dflt (refine' ll_eq ?N ?pm ?pm2 (LV.ints hys) (LV.ints hys2) eqR_int ?u ?_; (case N => k_asm); (case pm => exact memL (by k_mem)); (case pm2 => exact memL (by k_mem)); (case u => k_units))
    rw [decide_eq_true rfl]
    (repeat' ((fail_if_success (with_reducible refine Stop.in ?_)); first | (k_unfold; (try dsimp only)) | (k_end; wrow_close) | ((with_reducible show wpAny _ _ (call _ _ _) _ _ _); (first | with_reducible show wpAny _ _ (call (Value.ref 80) [Value.ref _]) _ _ _ | k_dflt (show wpAny _ _ (call (Value.ref 56) [Value.ref _]) _ _ _) | with_reducible show wpAny _ _ (call (Value.type "set") [Value.ref _]) _ _ _); refine Stop.out ?_) | ((with_reducible show wpAny _ _ (compareOp _ _ _) _ _ _); (first | with_reducible show wpAny _ _ (compareOp CmpOp.NotEq (Value.ref _) (Value.ref _)) _ _ _ | with_reducible show wpAny _ _ (compareOp CmpOp.Eq (Value.ref _) (Value.ref _)) _ _ _); refine Stop.out ?_) | ((with_reducible show wpAny _ _ (eval _ _) _ _ _); (first | with_reducible show wpAny _ _ (eval (Expr.ListComp _ _ _ _) _) _ _ _ | with_reducible show wpAny _ _ (eval (Expr.DictComp _ _ _ _ _) _) _ _ _); refine Stop.out ?_) | ((with_reducible show wpAny _ _ (exec _ _) _ _ _); (first | with_reducible show wpAny _ _ (exec (Stmt.Assign (_ :: _) (Expr.ListComp _ _ _ _) _) _) _ _ _); refine Stop.out ?_) | ((with_reducible show wpAny _ _ (pyIter _) _ _ _); (first | with_reducible show wpAny _ _ (pyIter (Value.ref _)) _ _ _); refine Stop.out ?_) |  walk1 | (dsimp only; walk1) | (leave1; walk_say "STEP leave1"; try dsimp only) | fail "no step"))
    (with_reducible rename (News h₀ _ _ _) => NF)
    refine hret _ _ (by k_asm) (news_sub NF ?_)
    ((repeat (refine sub_cons (by k_mem) ?_)); (first | exact sub_nil | (repeat (first | with_reducible assumption | with_reducible exact sub_same | refine sub_tail ?_))))
end PackHold
theorem packhold_u {w : World} {loose : List Str} {mean : ExcName → Option Value} {mg mb : Str → Option Value} {dp un : Nat} {gd : Option (List Code)} {cn : Str} {cs : Scope} {a : Addr} {ccd : Value} {cl : List (Str × Addr)} {outer : List Env} {A₀ : Around} {base h₀ : Heap} {L : Addr} {m : Str → Option Value} {s : Shared} {Q E : Value → Shared → Prop}
  {X D d e : Addr} {t1 : Tok} {od oe : Obj} {kvs : List (Int × Value)} {c : List (Int × Int)} {news : List (Addr × Obj)}
  (B : Below A₀ base outer h₀) (F : Fr h₀ L s.heap m) (KX : (hd.heap_39 w.params).In h₀) (N : News h₀ L s.heap news) (T : Top hd.view_39 loose mean mg mb h₀) (hk : cs.kind = .function) (hdp : dp + 8 < recursionLimit) (hun : un + 60 < cLine)
  (hX : (X, instObj 66 D) ∈ news) (hDm : (D, clsDict w t1 (.ref d)) ∈ news) (hdm : (d, od) ∈ news) (hem : (e, oe) ∈ news) (hD : od.IsDictOf (intKind PROG w) kvs) (lo : (d == sysModules) = false) (hE : oe.IsDictOf (intKind PROG w) kvs) (loE : (e == sysModules) = false) (hIV : IV kvs c) (hlen : kvs.length ≤ 12) (hok : ClsOk c)
  (ret : ∀ h' tk', Fr h₀ L h' m → News h₀ L h' news → Q (.bool true) { s with heap := h', toks := tk' }) :
  wpAny (model PROG w) (ktrTop dp un gd cn cs L a ccd cl outer) (call (.ref 113) [.ref X, .ref e]) Q E s :=
  packhold_c w rfl loose mean mg mb dp un gd cn cs a ccd cl outer A₀ base h₀ L m s Q E X D d e t1 od oe kvs c news B F KX
    (news_sub N (sub_cons hX (sub_cons hDm (sub_cons hdm (sub_cons hem sub_same))))) T hk hdp hun hD lo hE loE hIV hlen hok
    fun h' tk' F' N' => ret h' tk' F' (fun p hp => N' p (.tail _ (.tail _ (.tail _ (.tail _ hp)))))

section CommonHold



local macro_rules | `(tactic| walk_at "call builtin:len") => `(tactic| (k_here; k_dflt (refine' ll_len ?N ?pm ?hv ?sz ?_; (case N => k_asm); (case pm => k_mem); (case hv => with_reducible assumption); (case sz => first | decide | omega)); intro _ _))
local macro_rules | `(tactic| walk_at "exec For Name Name cons nil") => `(tactic| (k_here; (rename Fr _ _ _ _ => lF'); (with_unfolding_all refine' For_invVF lF' ?k1 ?k2 ?_; (case k1 => exact rfl); (case k2 => exact rfl); k_whole)))


set_option maxRecDepth 100000 in
set_option maxHeartbeats 0 in
theorem commonhold_c (w : World) : PySem.Challenge.rw_nu0148_01 = PySem.Challenge.rw_nu0148_01 →
  ∀ (loose : List Str) (mean : ExcName → Option Value) (mg mb : Str → Option Value) (dp un : Nat) (gd : Option (List Code)) (cn : Str) (cs : Scope) (a : Addr) (ccd : Value) (cl : List (Str × Addr)) (outer : List Env) (A₀ : Around) (base h₀ : Heap) (L : Addr) (m : Str → Option Value) (s : Shared) (Q E : Value → Shared → Prop)
  (X D d Y G g e e2 : Addr) (t1 t2 : Tok) (od og oe oe2 : Obj) (kvs kvg : List (Int × Value)) (c cg : List (Int × Int)) (rest : List (Addr × Obj)),
  Below A₀ base outer h₀ → Fr h₀ L s.heap m → (hd.heap_39 w.params).In h₀ → News h₀ L s.heap ((X, instObj 66 D) :: (D, clsDict w t1 (.ref d)) :: (d, od) :: (Y, instObj 66 G) :: (G, clsDict w t2 (.ref g)) :: (g, og) :: (e, oe) :: (e2, oe2) :: rest) → Top hd.view_39 loose mean mg mb h₀ → cs.kind = .function → dp + 14 < recursionLimit → un + 90 < cLine →
  od.IsDictOf (intKind PROG w) kvs → (d == sysModules) = false → og.IsDictOf (intKind PROG w) kvg → (g == sysModules) = false → oe.IsDictOf (intKind PROG w) kvs → (e == sysModules) = false → oe2.IsDictOf (intKind PROG w) kvg → (e2 == sysModules) = false → IV kvs c → IV kvg cg → kvs.length ≤ 12 → kvg.length ≤ 12 → ClsOk c → ClsOk cg →
  (∀ h' tk', Fr h₀ L h' m → News h₀ L h' ((X, instObj 66 D) :: (D, clsDict w t1 (.ref d)) :: (d, od) :: (Y, instObj 66 G) :: (G, clsDict w t2 (.ref g)) :: (g, og) :: (e, oe) :: (e2, oe2) :: rest) → Q (.bool true) { s with heap := h', toks := tk' }) →
  wpAny (model PROG w) (ktrTop dp un gd cn cs L a ccd cl outer) (call (.ref 123) [.ref X, .ref Y, .ref e, .ref e2]) Q E s := by
  w_top off
  k_fill
  intro _ loose mean mg mb dp un gd cn cs a ccd cl outer A₀ base h₀ L m s Q E X D d Y G g e e2 t1 t2 od og oe oe2 kvs kvg c cg rest B F KX N T hk hdp hun hD lo hG loG hE loE hE2 loE2 hIV hIVg hlen hleng hok hokg hret
  have hb := hok.bound
  have hbg := hokg.bound
  refine wpAny_call ?_
  k_dflt (refine' code_defC ?k1 ?k2 ?k3 ?k4 ?k5 ?kA ?kF ?kK ?k6 ?k7 ?k8 ?k9 ?kB ?kD ?_ ?c2 ?c3 ?c4; (case kA => exact rfl); (case kF => exact rfl); (case kK => assumption); (case k1 => k_asm); (case k2 => k_asm); (case k3 => k_asm); (case k4 => k_asm); (case k5 => k_asm); (case k6 => k_is); (case k7 => k_is); (case k8 => ktr_room); (case k9 => exact BindsTo.of_eq rfl); (case kB => exact rfl); (case kD => decide +kernel); (case c2 => exact rfl); (case c3 => exact rfl); (case c4 => exact rfl); k_whole; intro g' L' h' tk' cells' FG' F' N' Y' B' X' T' l1; (try k_lt l1); k_cells Y'; (try simp only [List.cons_append, List.nil_append] at N'); (try dsimp only); (try k_fold))
  (with_reducible rename (AllLt _ (_ :: _)) => l1E)
  have hr1 := allLt_ne1 l1E.2.2.2.2.2.2.2.2
  have hr2 := allLt_ne2 l1E.2.2.2.2.2.2.2.2
  have hr3 := allLt_ne3 l1E.2.2.2.2.2.2.2.2
  have hr4 := allLt_ne4 l1E.2.2.2.2.2.2.2.2
  (repeat' ((fail_if_success (with_reducible refine Stop.in ?_)); first | (k_unfold; (try dsimp only)) | (k_end; wrow_close) | ((with_reducible show wpAny _ _ (call _ _ _) _ _ _); (first | with_reducible show wpAny _ _ (call (Value.ref 94) [Value.ref _, Value.ref _]) _ _ _ | k_dflt (show wpAny _ _ (call (Value.ref 56) [Value.ref _]) _ _ _) | with_reducible show wpAny _ _ (call (Value.builtin "list.index") _ _) _ _ _); refine Stop.out ?_) | ((with_reducible show wpAny _ _ (compareOp _ _ _) _ _ _); (first | with_reducible show wpAny _ _ (compareOp CmpOp.NotEq (Value.ref _) (Value.ref _)) _ _ _ | with_reducible show wpAny _ _ (compareOp CmpOp.Eq (Value.ref _) (Value.ref _)) _ _ _ | with_reducible show wpAny _ _ (compareOp CmpOp.NotIn (Value.ref _) (Value.ref _)) _ _ _ | with_reducible show wpAny _ _ (compareOp CmpOp.NotIn (Value.int _ _) (Value.ref _)) _ _ _); refine Stop.out ?_) | ((with_reducible show wpAny _ _ (eval _ _) _ _ _); (first | with_reducible show wpAny _ _ (eval (Expr.ListComp _ _ _ _) _) _ _ _ | with_reducible show wpAny _ _ (eval (Expr.DictComp _ _ _ _ _) _) _ _ _); refine Stop.out ?_) | ((with_reducible show wpAny _ _ (exec _ _) _ _ _); (first | with_reducible show wpAny _ _ (exec (Stmt.Assign (_ :: _) (Expr.ListComp _ _ _ _) _) _) _ _ _); refine Stop.out ?_) | ((with_reducible show wpAny _ _ (pyIter _) _ _ _); (first | with_reducible show wpAny _ _ (pyIter (Value.ref _)) _ _ _); refine Stop.out ?_) |  walk1 | (dsimp only; walk1) | (leave1; walk_say "STEP leave1"; try dsimp only) | fail "no step"))
  refine Stop.in ?_
  k_dflt (refine' common_u (rest := rest) ?B ?F ?K ?N ?T ?k ?d ?u ?fr ?m1 ?m2 ?m3 ?m4 ?m5 ?m6 hD lo hG loG hIV hIVg hlen hleng hb hbg ?_; (case B => k_asm); (case F => k_asm); (case K => k_asm); (case N => k_asm); (case T => k_asm); (case k => exact rfl); (case d => k_room); (case u => k_units); (case fr => (first | exact front_nil | exact front_cons (front_nil) | exact front_cons (front_cons (front_nil)) | exact front_cons (front_cons (front_cons (front_nil))) | exact front_cons (front_cons (front_cons (front_cons (front_nil)))) | exact front_cons (front_cons (front_cons (front_cons (front_cons (front_nil))))) | exact front_cons (front_cons (front_cons (front_cons (front_cons (front_cons (front_nil)))))) | exact front_cons (front_cons (front_cons (front_cons (front_cons (front_cons (front_cons (front_nil))))))) | exact front_cons (front_cons (front_cons (front_cons (front_cons (front_cons (front_cons (front_cons (front_nil)))))))) | exact front_cons (front_cons (front_cons (front_cons (front_cons (front_cons (front_cons (front_cons (front_cons (front_nil))))))))) | exact front_cons (front_cons (front_cons (front_cons (front_cons (front_cons (front_cons (front_cons (front_cons (front_cons (front_nil)))))))))) | exact front_cons (front_cons (front_cons (front_cons (front_cons (front_cons (front_cons (front_cons (front_cons (front_cons (front_cons (front_nil))))))))))) | exact front_cons (front_cons (front_cons (front_cons (front_cons (front_cons (front_cons (front_cons (front_cons (front_cons (front_cons (front_cons (front_nil)))))))))))) | exact front_cons (front_cons (front_cons (front_cons (front_cons (front_cons (front_cons (front_cons (front_cons (front_cons (front_cons (front_cons (front_cons (front_nil))))))))))))) | exact front_cons (front_cons (front_cons (front_cons (front_cons (front_cons (front_cons (front_cons (front_cons (front_cons (front_cons (front_cons (front_cons (front_cons (front_nil)))))))))))))) | exact front_cons (front_cons (front_cons (front_cons (front_cons (front_cons (front_cons (front_cons (front_cons (front_cons (front_cons (front_cons (front_cons (front_cons (front_cons (front_nil))))))))))))))) | exact front_cons (front_cons (front_cons (front_cons (front_cons (front_cons (front_cons (front_cons (front_cons (front_cons (front_cons (front_cons (front_cons (front_cons (front_cons (front_cons (front_nil)))))))))))))))) | exact front_cons (front_cons (front_cons (front_cons (front_cons (front_cons (front_cons (front_cons (front_cons (front_cons (front_cons (front_cons (front_cons (front_cons (front_cons (front_cons (front_cons (front_nil))))))))))))))))) | exact front_cons (front_cons (front_cons (front_cons (front_cons (front_cons (front_cons (front_cons (front_cons (front_cons (front_cons (front_cons (front_cons (front_cons (front_cons (front_cons (front_cons (front_cons (front_nil)))))))))))))))))) | exact front_cons (front_cons (front_cons (front_cons (front_cons (front_cons (front_cons (front_cons (front_cons (front_cons (front_cons (front_cons (front_cons (front_cons (front_cons (front_cons (front_cons (front_cons (front_cons (front_nil))))))))))))))))))) | exact front_cons (front_cons (front_cons (front_cons (front_cons (front_cons (front_cons (front_cons (front_cons (front_cons (front_cons (front_cons (front_cons (front_cons (front_cons (front_cons (front_cons (front_cons (front_cons (front_cons (front_nil)))))))))))))))))))) | exact front_cons (front_cons (front_cons (front_cons (front_cons (front_cons (front_cons (front_cons (front_cons (front_cons (front_cons (front_cons (front_cons (front_cons (front_cons (front_cons (front_cons (front_cons (front_cons (front_cons (front_cons (front_nil))))))))))))))))))))) | exact front_cons (front_cons (front_cons (front_cons (front_cons (front_cons (front_cons (front_cons (front_cons (front_cons (front_cons (front_cons (front_cons (front_cons (front_cons (front_cons (front_cons (front_cons (front_cons (front_cons (front_cons (front_cons (front_nil)))))))))))))))))))))) | exact front_cons (front_cons (front_cons (front_cons (front_cons (front_cons (front_cons (front_cons (front_cons (front_cons (front_cons (front_cons (front_cons (front_cons (front_cons (front_cons (front_cons (front_cons (front_cons (front_cons (front_cons (front_cons (front_cons (front_nil))))))))))))))))))))))) | exact front_cons (front_cons (front_cons (front_cons (front_cons (front_cons (front_cons (front_cons (front_cons (front_cons (front_cons (front_cons (front_cons (front_cons (front_cons (front_cons (front_cons (front_cons (front_cons (front_cons (front_cons (front_cons (front_cons (front_cons (front_nil)))))))))))))))))))))))) | exact front_cons (front_cons (front_cons (front_cons (front_cons (front_cons (front_cons (front_cons (front_cons (front_cons (front_cons (front_cons (front_cons (front_cons (front_cons (front_cons (front_cons (front_cons (front_cons (front_cons (front_cons (front_cons (front_cons (front_cons (front_cons (front_nil))))))))))))))))))))))))) | exact front_cons (front_cons (front_cons (front_cons (front_cons (front_cons (front_cons (front_cons (front_cons (front_cons (front_cons (front_cons (front_cons (front_cons (front_cons (front_cons (front_cons (front_cons (front_cons (front_cons (front_cons (front_cons (front_cons (front_cons (front_cons (front_cons (front_nil)))))))))))))))))))))))))) | exact front_cons (front_cons (front_cons (front_cons (front_cons (front_cons (front_cons (front_cons (front_cons (front_cons (front_cons (front_cons (front_cons (front_cons (front_cons (front_cons (front_cons (front_cons (front_cons (front_cons (front_cons (front_cons (front_cons (front_cons (front_cons (front_cons (front_cons (front_nil))))))))))))))))))))))))))))); (case m1 => k_mem); (case m2 => k_mem); (case m3 => k_mem); (case m4 => k_mem); (case m5 => k_mem); (case m6 => k_mem))
  intro T1 X1 D1 ta d1 od1 kvs1 c1 El evs ne cR ns ks tl h3 tk3 F3 N3 q1 q2 q3 q4 q5 hsub hnew hd1 lo1 hv1 hl1 hev hkl hRw hcRn hcR
  simp only [List.cons_append, List.nil_append] at N3
  have ht4 := tl_ne hnew hr4 ⟨_, .head _⟩
  have ht3 := tl_ne hnew hr3 ⟨_, .tail _ (.head _)⟩
  have ht2 := tl_ne hnew hr2 ⟨_, .tail _ (.tail _ (.head _))⟩
  have ht1 := tl_ne hnew hr1 ⟨_, .tail _ (.tail _ (.tail _ (.head _)))⟩
  k_lt q1
  k_lt q2
  k_lt q3
  k_lt q4
  k_lt q5
  try dsimp only
  (repeat' ((fail_if_success (with_reducible refine Stop.in ?_)); first | (k_unfold; (try dsimp only)) | (k_end; wrow_close) | ((with_reducible show wpAny _ _ (call _ _ _) _ _ _); (first | with_reducible show wpAny _ _ (call (Value.ref 94) [Value.ref _, Value.ref _]) _ _ _ | k_dflt (show wpAny _ _ (call (Value.ref 56) [Value.ref _]) _ _ _) | with_reducible show wpAny _ _ (call (Value.builtin "list.index") _ _) _ _ _); refine Stop.out ?_) | ((with_reducible show wpAny _ _ (compareOp _ _ _) _ _ _); (first | with_reducible show wpAny _ _ (compareOp CmpOp.NotEq (Value.ref _) (Value.ref _)) _ _ _ | with_reducible show wpAny _ _ (compareOp CmpOp.Eq (Value.ref _) (Value.ref _)) _ _ _ | with_reducible show wpAny _ _ (compareOp CmpOp.NotIn (Value.ref _) (Value.ref _)) _ _ _ | with_reducible show wpAny _ _ (compareOp CmpOp.NotIn (Value.int _ _) (Value.ref _)) _ _ _); refine Stop.out ?_) | ((with_reducible show wpAny _ _ (eval _ _) _ _ _); (first | with_reducible show wpAny _ _ (eval (Expr.ListComp _ _ _ _) _) _ _ _ | with_reducible show wpAny _ _ (eval (Expr.DictComp _ _ _ _ _) _) _ _ _); refine Stop.out ?_) | ((with_reducible show wpAny _ _ (exec _ _) _ _ _); (first | with_reducible show wpAny _ _ (exec (Stmt.Assign (_ :: _) (Expr.ListComp _ _ _ _) _) _) _ _ _); refine Stop.out ?_) | ((with_reducible show wpAny _ _ (pyIter _) _ _ _); (first | with_reducible show wpAny _ _ (pyIter (Value.ref _)) _ _ _); refine Stop.out ?_) |  walk1 | (dsimp only; walk1) | (leave1; walk_say "STEP leave1"; try dsimp only) | fail "no step"))
  refine Stop.in ?_
  k_dflt (refine lc_assign (by rfl) (_F := by k_asm) (by with_unfolding_all rfl) (by decide) (by rfl) (by decide) (by rfl) (by rfl) (by rfl) (by rfl) ?_)
  (repeat' ((fail_if_success (with_reducible refine Stop.in ?_)); first | (k_unfold; (try dsimp only)) | (k_end; wrow_close) | ((with_reducible show wpAny _ _ (call _ _ _) _ _ _); (first | with_reducible show wpAny _ _ (call (Value.ref 94) [Value.ref _, Value.ref _]) _ _ _ | k_dflt (show wpAny _ _ (call (Value.ref 56) [Value.ref _]) _ _ _) | with_reducible show wpAny _ _ (call (Value.builtin "list.index") _ _) _ _ _); refine Stop.out ?_) | ((with_reducible show wpAny _ _ (compareOp _ _ _) _ _ _); (first | with_reducible show wpAny _ _ (compareOp CmpOp.NotEq (Value.ref _) (Value.ref _)) _ _ _ | with_reducible show wpAny _ _ (compareOp CmpOp.Eq (Value.ref _) (Value.ref _)) _ _ _ | with_reducible show wpAny _ _ (compareOp CmpOp.NotIn (Value.ref _) (Value.ref _)) _ _ _ | with_reducible show wpAny _ _ (compareOp CmpOp.NotIn (Value.int _ _) (Value.ref _)) _ _ _); refine Stop.out ?_) | ((with_reducible show wpAny _ _ (eval _ _) _ _ _); (first | with_reducible show wpAny _ _ (eval (Expr.ListComp _ _ _ _) _) _ _ _ | with_reducible show wpAny _ _ (eval (Expr.DictComp _ _ _ _ _) _) _ _ _); refine Stop.out ?_) | ((with_reducible show wpAny _ _ (exec _ _) _ _ _); (first | with_reducible show wpAny _ _ (exec (Stmt.Assign (_ :: _) (Expr.ListComp _ _ _ _) _) _) _ _ _); refine Stop.out ?_) | ((with_reducible show wpAny _ _ (pyIter _) _ _ _); (first | with_reducible show wpAny _ _ (pyIter (Value.ref _)) _ _ _); refine Stop.out ?_) |  walk1 | (dsimp only; walk1) | (leave1; walk_say "STEP leave1"; try dsimp only) | fail "no step"))
  (with_reducible rename (IsRange _ _ _ _ _ _ _ _) => hR)
  (with_reducible rename (News _ _ _ _) => N4)
  refine ⟨12, _, _, _, _, JTl2 _ tl (mapN (markOf c cg)), Src.range (n := 12) (rsmall (by first | decide | omega)) (rsize _), by with_unfolding_all rfl, by k_asm, N4, hR, by rw [sizeLine_eq]; first | decide | omega, ?_, (JTl2.of (tl := tl) (by (first | exact front_nil | exact front_cons (front_nil) | exact front_cons (front_cons (front_nil)) | exact front_cons (front_cons (front_cons (front_nil))) | exact front_cons (front_cons (front_cons (front_cons (front_nil)))) | exact front_cons (front_cons (front_cons (front_cons (front_cons (front_nil))))) | exact front_cons (front_cons (front_cons (front_cons (front_cons (front_cons (front_nil)))))) | exact front_cons (front_cons (front_cons (front_cons (front_cons (front_cons (front_cons (front_nil))))))) | exact front_cons (front_cons (front_cons (front_cons (front_cons (front_cons (front_cons (front_cons (front_nil)))))))) | exact front_cons (front_cons (front_cons (front_cons (front_cons (front_cons (front_cons (front_cons (front_cons (front_nil))))))))) | exact front_cons (front_cons (front_cons (front_cons (front_cons (front_cons (front_cons (front_cons (front_cons (front_cons (front_nil)))))))))) | exact front_cons (front_cons (front_cons (front_cons (front_cons (front_cons (front_cons (front_cons (front_cons (front_cons (front_cons (front_nil))))))))))) | exact front_cons (front_cons (front_cons (front_cons (front_cons (front_cons (front_cons (front_cons (front_cons (front_cons (front_cons (front_cons (front_nil)))))))))))) | exact front_cons (front_cons (front_cons (front_cons (front_cons (front_cons (front_cons (front_cons (front_cons (front_cons (front_cons (front_cons (front_cons (front_nil))))))))))))) | exact front_cons (front_cons (front_cons (front_cons (front_cons (front_cons (front_cons (front_cons (front_cons (front_cons (front_cons (front_cons (front_cons (front_cons (front_nil)))))))))))))) | exact front_cons (front_cons (front_cons (front_cons (front_cons (front_cons (front_cons (front_cons (front_cons (front_cons (front_cons (front_cons (front_cons (front_cons (front_cons (front_nil))))))))))))))) | exact front_cons (front_cons (front_cons (front_cons (front_cons (front_cons (front_cons (front_cons (front_cons (front_cons (front_cons (front_cons (front_cons (front_cons (front_cons (front_cons (front_nil)))))))))))))))) | exact front_cons (front_cons (front_cons (front_cons (front_cons (front_cons (front_cons (front_cons (front_cons (front_cons (front_cons (front_cons (front_cons (front_cons (front_cons (front_cons (front_cons (front_nil))))))))))))))))) | exact front_cons (front_cons (front_cons (front_cons (front_cons (front_cons (front_cons (front_cons (front_cons (front_cons (front_cons (front_cons (front_cons (front_cons (front_cons (front_cons (front_cons (front_cons (front_nil)))))))))))))))))) | exact front_cons (front_cons (front_cons (front_cons (front_cons (front_cons (front_cons (front_cons (front_cons (front_cons (front_cons (front_cons (front_cons (front_cons (front_cons (front_cons (front_cons (front_cons (front_cons (front_nil))))))))))))))))))) | exact front_cons (front_cons (front_cons (front_cons (front_cons (front_cons (front_cons (front_cons (front_cons (front_cons (front_cons (front_cons (front_cons (front_cons (front_cons (front_cons (front_cons (front_cons (front_cons (front_cons (front_nil)))))))))))))))))))) | exact front_cons (front_cons (front_cons (front_cons (front_cons (front_cons (front_cons (front_cons (front_cons (front_cons (front_cons (front_cons (front_cons (front_cons (front_cons (front_cons (front_cons (front_cons (front_cons (front_cons (front_cons (front_nil))))))))))))))))))))) | exact front_cons (front_cons (front_cons (front_cons (front_cons (front_cons (front_cons (front_cons (front_cons (front_cons (front_cons (front_cons (front_cons (front_cons (front_cons (front_cons (front_cons (front_cons (front_cons (front_cons (front_cons (front_cons (front_nil)))))))))))))))))))))) | exact front_cons (front_cons (front_cons (front_cons (front_cons (front_cons (front_cons (front_cons (front_cons (front_cons (front_cons (front_cons (front_cons (front_cons (front_cons (front_cons (front_cons (front_cons (front_cons (front_cons (front_cons (front_cons (front_cons (front_nil))))))))))))))))))))))) | exact front_cons (front_cons (front_cons (front_cons (front_cons (front_cons (front_cons (front_cons (front_cons (front_cons (front_cons (front_cons (front_cons (front_cons (front_cons (front_cons (front_cons (front_cons (front_cons (front_cons (front_cons (front_cons (front_cons (front_cons (front_nil)))))))))))))))))))))))) | exact front_cons (front_cons (front_cons (front_cons (front_cons (front_cons (front_cons (front_cons (front_cons (front_cons (front_cons (front_cons (front_cons (front_cons (front_cons (front_cons (front_cons (front_cons (front_cons (front_cons (front_cons (front_cons (front_cons (front_cons (front_cons (front_nil))))))))))))))))))))))))) | exact front_cons (front_cons (front_cons (front_cons (front_cons (front_cons (front_cons (front_cons (front_cons (front_cons (front_cons (front_cons (front_cons (front_cons (front_cons (front_cons (front_cons (front_cons (front_cons (front_cons (front_cons (front_cons (front_cons (front_cons (front_cons (front_cons (front_nil)))))))))))))))))))))))))) | exact front_cons (front_cons (front_cons (front_cons (front_cons (front_cons (front_cons (front_cons (front_cons (front_cons (front_cons (front_cons (front_cons (front_cons (front_cons (front_cons (front_cons (front_cons (front_cons (front_cons (front_cons (front_cons (front_cons (front_cons (front_cons (front_cons (front_cons (front_nil))))))))))))))))))))))))))))) sub_same .nil (fun p hp => .inl hp)), ?_, ?_⟩
  · intro _ _ _ _ p hp; exact nomatch hp
  · intro i u ys nx I oI C oC Dl m₂ h tk E' hi hz0 hz1; refine IntAt.casesOn hz0 ?_; intro t; refine JTl2.casesOn hz1 ?_; intro tl2 hsub2 hys hnew2; dsimp only [List.cons_append, List.nil_append]; intro hoC hmx F1 N1 off hIC hID hCD hyl
    have hb1 := getD_bound hb ((0 : Int) + (i : Int))
    have hb2 := getD_bound hbg ((0 : Int) + (i : Int))
    refine wpAny_tests_nil ?_
    refine ite_pos rfl ?_
    (repeat' ((fail_if_success (with_reducible refine Stop.in ?_)); first | (k_unfold; (try dsimp only)) | (k_end; wrow_close) | ((with_reducible show wpAny _ _ (call _ _ _) _ _ _); (first | with_reducible show wpAny _ _ (call (Value.ref 94) [Value.ref _, Value.ref _]) _ _ _ | k_dflt (show wpAny _ _ (call (Value.ref 56) [Value.ref _]) _ _ _) | with_reducible show wpAny _ _ (call (Value.builtin "list.index") _ _) _ _ _); refine Stop.out ?_) | ((with_reducible show wpAny _ _ (compareOp _ _ _) _ _ _); (first | with_reducible show wpAny _ _ (compareOp CmpOp.NotEq (Value.ref _) (Value.ref _)) _ _ _ | with_reducible show wpAny _ _ (compareOp CmpOp.Eq (Value.ref _) (Value.ref _)) _ _ _ | with_reducible show wpAny _ _ (compareOp CmpOp.NotIn (Value.ref _) (Value.ref _)) _ _ _ | with_reducible show wpAny _ _ (compareOp CmpOp.NotIn (Value.int _ _) (Value.ref _)) _ _ _); refine Stop.out ?_) | ((with_reducible show wpAny _ _ (eval _ _) _ _ _); (first | with_reducible show wpAny _ _ (eval (Expr.ListComp _ _ _ _) _) _ _ _ | with_reducible show wpAny _ _ (eval (Expr.DictComp _ _ _ _ _) _) _ _ _); refine Stop.out ?_) | ((with_reducible show wpAny _ _ (exec _ _) _ _ _); (first | with_reducible show wpAny _ _ (exec (Stmt.Assign (_ :: _) (Expr.ListComp _ _ _ _) _) _) _ _ _); refine Stop.out ?_) | ((with_reducible show wpAny _ _ (pyIter _) _ _ _); (first | with_reducible show wpAny _ _ (pyIter (Value.ref _)) _ _ _); refine Stop.out ?_) |  walk1 | (dsimp only; walk1) | (leave1; walk_say "STEP leave1"; try dsimp only) | fail "no step"))
    dsimp only [qk]
    rename_i T9 h9 F9 N9 l9
    obtain ⟨ta', tb', N9'⟩ : ∃ ta tb, News _ _ h9 ((T9, tupO ((at? c ((0 : Int) + (i : Int))).getD 0) ((at? cg ((0 : Int) + (i : Int))).getD 0) ta tb) :: _) := ⟨_, _, N9⟩
    refine PartEnd.intro _ F9 N9' ?hs ?hne (.of (tl := (T9, tupO ((at? c ((0 : Int) + (i : Int))).getD 0) ((at? cg ((0 : Int) + (i : Int))).getD 0) ta' tb') :: tl2) rfl (fun p hp => .tail _ (hsub2 p hp)) ?snoc ?new)
    case hs => simp only [List.cons_append, List.nil_append]; ((repeat (refine sub_cons (by k_mem) ?_)); (first | exact sub_nil | (repeat (first | with_reducible assumption | with_reducible exact sub_same | refine sub_tail ?_))))
    case hne => refine off_cons (o := tupO ((at? c ((0 : Int) + (i : Int))).getD 0) ((at? cg ((0 : Int) + (i : Int))).getD 0) ta' tb') ?_ off (ne3 l9.1 l9.2.1 l9.2.2.1); simp only [List.cons_append, List.nil_append]; ((repeat (refine sub_cons (by k_mem) ?_)); (first | exact sub_nil | (repeat (first | with_reducible assumption | with_reducible exact sub_same | refine sub_tail ?_))))
    case new =>
      refine List.forall_mem_cons.mpr ⟨.inr ?_, hnew2⟩
      (simp only [List.cons_append, List.nil_append]; (repeat (refine List.forall_mem_cons.mpr ⟨by first | tbn_below | ((try dsimp only); omega), ?_⟩)))
      exact fun q hq => allLt_all (by tbn_find) q (hsub2 q hq)
    rw [mapN_succ]
    exact (hys.mono fun v c => TV.mono fun p hp => .tail _ hp).snoc ⟨T9, _, _, ta', tb', rfl, .head _, hb1.1, hb1.2, hb2.1, hb2.2, rfl⟩
  intro h4 tk4 ys nx hz0; refine JTl2.casesOn hz0 ?_; intro tl2 hsub2 hys hnew2; dsimp only [List.cons_append, List.nil_append]; intro Dm h5 tk5 hDm F5 N5 off5
  have hu4 := tl_ne hnew2 ht4 ⟨_, .tail _ (.tail _ (.tail _ (.tail _ (.tail _ (.head _)))))⟩
  have hu3 := tl_ne hnew2 ht3 ⟨_, .tail _ (.tail _ (.tail _ (.tail _ (.tail _ (.tail _ (.head _))))))⟩
  have hu2 := tl_ne hnew2 ht2 ⟨_, .tail _ (.tail _ (.tail _ (.tail _ (.tail _ (.tail _ (.tail _ (.head _)))))))⟩
  have hu1 := tl_ne hnew2 ht1 ⟨_, .tail _ (.tail _ (.tail _ (.tail _ (.tail _ (.tail _ (.tail _ (.tail _ (.head _))))))))⟩
  have lm := lts_of (by assumption) hDm
  k_lt lm
  try dsimp only
  (repeat' ((fail_if_success (with_reducible refine Stop.in ?_)); first | (k_unfold; (try dsimp only)) | (k_end; wrow_close) | ((with_reducible show wpAny _ _ (call _ _ _) _ _ _); (first | with_reducible show wpAny _ _ (call (Value.ref 94) [Value.ref _, Value.ref _]) _ _ _ | k_dflt (show wpAny _ _ (call (Value.ref 56) [Value.ref _]) _ _ _) | with_reducible show wpAny _ _ (call (Value.builtin "list.index") _ _) _ _ _); refine Stop.out ?_) | ((with_reducible show wpAny _ _ (compareOp _ _ _) _ _ _); (first | with_reducible show wpAny _ _ (compareOp CmpOp.NotEq (Value.ref _) (Value.ref _)) _ _ _ | with_reducible show wpAny _ _ (compareOp CmpOp.Eq (Value.ref _) (Value.ref _)) _ _ _ | with_reducible show wpAny _ _ (compareOp CmpOp.NotIn (Value.ref _) (Value.ref _)) _ _ _ | with_reducible show wpAny _ _ (compareOp CmpOp.NotIn (Value.int _ _) (Value.ref _)) _ _ _); refine Stop.out ?_) | ((with_reducible show wpAny _ _ (eval _ _) _ _ _); (first | with_reducible show wpAny _ _ (eval (Expr.ListComp _ _ _ _) _) _ _ _ | with_reducible show wpAny _ _ (eval (Expr.DictComp _ _ _ _ _) _) _ _ _); refine Stop.out ?_) | ((with_reducible show wpAny _ _ (exec _ _) _ _ _); (first | with_reducible show wpAny _ _ (exec (Stmt.Assign (_ :: _) (Expr.ListComp _ _ _ _) _) _) _ _ _); refine Stop.out ?_) | ((with_reducible show wpAny _ _ (pyIter _) _ _ _); (first | with_reducible show wpAny _ _ (pyIter (Value.ref _)) _ _ _); refine Stop.out ?_) |  walk1 | (dsimp only; walk1) | (leave1; walk_say "STEP leave1"; try dsimp only) | fail "no step"))
  rename_i Z hZ lZ Du hDu lDu hU oU F6 N6 dU
  have N7 := news_rot N6
  have hmk := mapN_length (markOf c cg) 12
  refine Stop.in ?_
  refine for_src (Src.list Dm ys.toArray ys.length) (JMk _ (mapN (markOf c cg) 12) (Dm, LCg.lst ys) Du ((Z, tupO 0 0 tk5 (tk5 + 1)) :: tl2) _) (by with_unfolding_all rfl) F6 N7 trivial ?hK (JMk.of (evs := [.ref Z]) jm_start (.cons ⟨Z, 0, 0, tk5, _, rfl, .head _, by decide, by decide, by decide, by decide, rfl⟩ .nil)) ?turn ?done
  case hK => rintro i m nx ⟨_, evs, ne, _⟩ p hp; rw [List.mem_singleton.mp hp]; exact .head _
  case turn =>
    intro i u m₁ nx I oI h tk hi hu hz0; refine JMk.casesOn hz0 ?_; intro u₀ evs' ne' hev'; refine VTAt.casesOn (vtat (i := i) (v := u) hys (by simpa using hu)) ?_; intro ra x hx hv; intro hne F1 N1
    try k_fold
    have hv2 : TV ((Z, tupO 0 0 tk5 (tk5 + 1)) :: tl2) (.ref ra) x := hv.mono fun p hp => .tail _ hp
    have hdue := due_take1 hx
    have hIE := neNat (hne _ (.tail _ (.head _)))
    dsimp only at hIE
    have hkl' := hev'.length
    have hkl2 := due_take1_len (mapN (markOf c cg) 12) i
    have hil : i < 12 := by have := hys.length; simp at hi; omega
    (repeat' ((fail_if_success (with_reducible refine Stop.in ?_)); first | (k_unfold; (try dsimp only)) | (k_end; wrow_close) | ((with_reducible show wpAny _ _ (call _ _ _) _ _ _); (first | with_reducible show wpAny _ _ (call (Value.ref 94) [Value.ref _, Value.ref _]) _ _ _ | k_dflt (show wpAny _ _ (call (Value.ref 56) [Value.ref _]) _ _ _) | with_reducible show wpAny _ _ (call (Value.builtin "list.index") _ _) _ _ _); refine Stop.out ?_) | ((with_reducible show wpAny _ _ (compareOp _ _ _) _ _ _); (first | with_reducible show wpAny _ _ (compareOp CmpOp.NotEq (Value.ref _) (Value.ref _)) _ _ _ | with_reducible show wpAny _ _ (compareOp CmpOp.Eq (Value.ref _) (Value.ref _)) _ _ _ | with_reducible show wpAny _ _ (compareOp CmpOp.NotIn (Value.ref _) (Value.ref _)) _ _ _ | with_reducible show wpAny _ _ (compareOp CmpOp.NotIn (Value.int _ _) (Value.ref _)) _ _ _); refine Stop.out ?_) | ((with_reducible show wpAny _ _ (eval _ _) _ _ _); (first | with_reducible show wpAny _ _ (eval (Expr.ListComp _ _ _ _) _) _ _ _ | with_reducible show wpAny _ _ (eval (Expr.DictComp _ _ _ _ _) _) _ _ _); refine Stop.out ?_) | ((with_reducible show wpAny _ _ (exec _ _) _ _ _); (first | with_reducible show wpAny _ _ (exec (Stmt.Assign (_ :: _) (Expr.ListComp _ _ _ _) _) _) _ _ _); refine Stop.out ?_) | ((with_reducible show wpAny _ _ (pyIter _) _ _ _); (first | with_reducible show wpAny _ _ (pyIter (Value.ref _)) _ _ _); refine Stop.out ?_) |  walk1 | (dsimp only; walk1) | (leave1; walk_say "STEP leave1"; try dsimp only) | fail "no step"))
    refine Stop.in ?_
    k_dflt (refine' ll_notin2 ?N ?pm hev' hv2 (funR_ts N1 ?hs) (eqR_ts ?N2 ?hs2 ?u) (fun hxk => ?_) (fun hxk => ?_); (case N => k_asm); (case pm => k_mem); (case hs => refine sub_cons (by k_mem) ?_; (repeat (first | with_reducible assumption | with_reducible exact sub_same | refine sub_tail ?_))); (case N2 => k_asm); (case hs2 => refine sub_cons (by k_mem) ?_; (repeat (first | with_reducible assumption | with_reducible exact sub_same | refine sub_tail ?_))); (case u => k_units))
    · (try dsimp only)
      (repeat' ((fail_if_success (with_reducible refine Stop.in ?_)); first | (k_unfold; (try dsimp only)) | (k_end; wrow_close) | ((with_reducible show wpAny _ _ (call _ _ _) _ _ _); (first | with_reducible show wpAny _ _ (call (Value.ref 94) [Value.ref _, Value.ref _]) _ _ _ | k_dflt (show wpAny _ _ (call (Value.ref 56) [Value.ref _]) _ _ _) | with_reducible show wpAny _ _ (call (Value.builtin "list.index") _ _) _ _ _); refine Stop.out ?_) | ((with_reducible show wpAny _ _ (compareOp _ _ _) _ _ _); (first | with_reducible show wpAny _ _ (compareOp CmpOp.NotEq (Value.ref _) (Value.ref _)) _ _ _ | with_reducible show wpAny _ _ (compareOp CmpOp.Eq (Value.ref _) (Value.ref _)) _ _ _ | with_reducible show wpAny _ _ (compareOp CmpOp.NotIn (Value.ref _) (Value.ref _)) _ _ _ | with_reducible show wpAny _ _ (compareOp CmpOp.NotIn (Value.int _ _) (Value.ref _)) _ _ _); refine Stop.out ?_) | ((with_reducible show wpAny _ _ (eval _ _) _ _ _); (first | with_reducible show wpAny _ _ (eval (Expr.ListComp _ _ _ _) _) _ _ _ | with_reducible show wpAny _ _ (eval (Expr.DictComp _ _ _ _ _) _) _ _ _); refine Stop.out ?_) | ((with_reducible show wpAny _ _ (exec _ _) _ _ _); (first | with_reducible show wpAny _ _ (exec (Stmt.Assign (_ :: _) (Expr.ListComp _ _ _ _) _) _) _ _ _); refine Stop.out ?_) | ((with_reducible show wpAny _ _ (pyIter _) _ _ _); (first | with_reducible show wpAny _ _ (pyIter (Value.ref _)) _ _ _); refine Stop.out ?_) |  walk1 | (dsimp only; walk1) | (leave1; walk_say "STEP leave1"; try dsimp only) | fail "no step"))
      have hds : dueStep (due 0 ((mapN (markOf c cg) 12).take i)) x = due 0 ((mapN (markOf c cg) 12).take i) := if_pos hxk
      exact TurnEnd.intro _ (by k_asm) (by k_asm) (by ((repeat (refine sub_cons (by k_mem) ?_)); (first | exact sub_nil | (repeat (first | with_reducible assumption | with_reducible exact sub_same | refine sub_tail ?_))))) (ne_same hne (by rfl)) (.of jm_next (by rw [hdue, hds]; exact hev'))
    · (try dsimp only)
      (repeat' ((fail_if_success (with_reducible refine Stop.in ?_)); first | (k_unfold; (try dsimp only)) | (k_end; wrow_close) | ((with_reducible show wpAny _ _ (call _ _ _) _ _ _); (first | with_reducible show wpAny _ _ (call (Value.ref 94) [Value.ref _, Value.ref _]) _ _ _ | k_dflt (show wpAny _ _ (call (Value.ref 56) [Value.ref _]) _ _ _) | with_reducible show wpAny _ _ (call (Value.builtin "list.index") _ _) _ _ _); refine Stop.out ?_) | ((with_reducible show wpAny _ _ (compareOp _ _ _) _ _ _); (first | with_reducible show wpAny _ _ (compareOp CmpOp.NotEq (Value.ref _) (Value.ref _)) _ _ _ | with_reducible show wpAny _ _ (compareOp CmpOp.Eq (Value.ref _) (Value.ref _)) _ _ _ | with_reducible show wpAny _ _ (compareOp CmpOp.NotIn (Value.ref _) (Value.ref _)) _ _ _ | with_reducible show wpAny _ _ (compareOp CmpOp.NotIn (Value.int _ _) (Value.ref _)) _ _ _); refine Stop.out ?_) | ((with_reducible show wpAny _ _ (eval _ _) _ _ _); (first | with_reducible show wpAny _ _ (eval (Expr.ListComp _ _ _ _) _) _ _ _ | with_reducible show wpAny _ _ (eval (Expr.DictComp _ _ _ _ _) _) _ _ _); refine Stop.out ?_) | ((with_reducible show wpAny _ _ (exec _ _) _ _ _); (first | with_reducible show wpAny _ _ (exec (Stmt.Assign (_ :: _) (Expr.ListComp _ _ _ _) _) _) _ _ _); refine Stop.out ?_) | ((with_reducible show wpAny _ _ (pyIter _) _ _ _); (first | with_reducible show wpAny _ _ (pyIter (Value.ref _)) _ _ _); refine Stop.out ?_) |  walk1 | (dsimp only; walk1) | (leave1; walk_say "STEP leave1"; try dsimp only) | fail "no step"))
      simp only [List.push_toArray] at *
      have hds : dueStep (due 0 ((mapN (markOf c cg) 12).take i)) x = due 0 ((mapN (markOf c cg) 12).take i) ++ [x] := if_neg hxk
      exact TurnEnd.intro _ (by k_asm) (by k_asm) (by ((repeat (refine sub_cons (by k_mem) ?_)); (first | exact sub_nil | (repeat (first | with_reducible assumption | with_reducible exact sub_same | refine sub_tail ?_))))) (ne_same hne (by rfl)) (.of jm_next (by rw [hdue, hds]; exact hev'.snoc hv2))
  intro m₁ nx h8 tk8 hz0; refine JMk.casesOn hz0 ?_; intro u₀ evs' ne' hev'; intro F8 N8
  have hyl := hys.length
  rw [List.size_toArray, List.take_of_length_le (by omega), ← due_marks hcR hcRn hRw (fun q hq => ⟨(hok q hq).1, (hok q hq).2.1⟩) (fun q hq => ⟨(hokg q hq).1, (hokg q hq).2.1⟩)] at hev'
  try dsimp only
  (repeat' ((fail_if_success (with_reducible refine Stop.in ?_)); first | (k_unfold; (try dsimp only)) | (k_end; wrow_close) | ((with_reducible show wpAny _ _ (call _ _ _) _ _ _); (first | with_reducible show wpAny _ _ (call (Value.ref 94) [Value.ref _, Value.ref _]) _ _ _ | k_dflt (show wpAny _ _ (call (Value.ref 56) [Value.ref _]) _ _ _) | with_reducible show wpAny _ _ (call (Value.builtin "list.index") _ _) _ _ _); refine Stop.out ?_) | ((with_reducible show wpAny _ _ (compareOp _ _ _) _ _ _); (first | with_reducible show wpAny _ _ (compareOp CmpOp.NotEq (Value.ref _) (Value.ref _)) _ _ _ | with_reducible show wpAny _ _ (compareOp CmpOp.Eq (Value.ref _) (Value.ref _)) _ _ _ | with_reducible show wpAny _ _ (compareOp CmpOp.NotIn (Value.ref _) (Value.ref _)) _ _ _ | with_reducible show wpAny _ _ (compareOp CmpOp.NotIn (Value.int _ _) (Value.ref _)) _ _ _); refine Stop.out ?_) | ((with_reducible show wpAny _ _ (eval _ _) _ _ _); (first | with_reducible show wpAny _ _ (eval (Expr.ListComp _ _ _ _) _) _ _ _ | with_reducible show wpAny _ _ (eval (Expr.DictComp _ _ _ _ _) _) _ _ _); refine Stop.out ?_) | ((with_reducible show wpAny _ _ (exec _ _) _ _ _); (first | with_reducible show wpAny _ _ (exec (Stmt.Assign (_ :: _) (Expr.ListComp _ _ _ _) _) _) _ _ _); refine Stop.out ?_) | ((with_reducible show wpAny _ _ (pyIter _) _ _ _); (first | with_reducible show wpAny _ _ (pyIter (Value.ref _)) _ _ _); refine Stop.out ?_) |  walk1 | (dsimp only; walk1) | (leave1; walk_say "STEP leave1"; try dsimp only) | fail "no step"))
  have hks := due_marks hcR hcRn hRw (fun q hq => ⟨(hok q hq).1, (hok q hq).2.1⟩) (fun q hq => ⟨(hokg q hq).1, (hokg q hq).2.1⟩)
  refine Stop.in ?_
  k_dflt (refine' ll_ne2 ?N ?pm ?pm2 hev hev' (eqR_ts2 ?N2 ?hs ?hs2 ?u) ?u2 rfl ?_; (case N => k_asm); (case pm => k_mem); (case pm2 => k_mem); (case N2 => k_asm); (case hs => (repeat (first | with_reducible assumption | with_reducible exact sub_same | refine sub_tail ?_))); (case hs2 => refine sub_cons (by k_mem) ?_; (repeat (first | with_reducible assumption | with_reducible exact sub_same | refine sub_tail ?_))); (case u => k_units); (case u2 => k_units))
  (repeat' ((fail_if_success (with_reducible refine Stop.in ?_)); first | (k_unfold; (try dsimp only)) | (k_end; wrow_close) | ((with_reducible show wpAny _ _ (call _ _ _) _ _ _); (first | with_reducible show wpAny _ _ (call (Value.ref 94) [Value.ref _, Value.ref _]) _ _ _ | k_dflt (show wpAny _ _ (call (Value.ref 56) [Value.ref _]) _ _ _) | with_reducible show wpAny _ _ (call (Value.builtin "list.index") _ _) _ _ _); refine Stop.out ?_) | ((with_reducible show wpAny _ _ (compareOp _ _ _) _ _ _); (first | with_reducible show wpAny _ _ (compareOp CmpOp.NotEq (Value.ref _) (Value.ref _)) _ _ _ | with_reducible show wpAny _ _ (compareOp CmpOp.Eq (Value.ref _) (Value.ref _)) _ _ _ | with_reducible show wpAny _ _ (compareOp CmpOp.NotIn (Value.ref _) (Value.ref _)) _ _ _ | with_reducible show wpAny _ _ (compareOp CmpOp.NotIn (Value.int _ _) (Value.ref _)) _ _ _); refine Stop.out ?_) | ((with_reducible show wpAny _ _ (eval _ _) _ _ _); (first | with_reducible show wpAny _ _ (eval (Expr.ListComp _ _ _ _) _) _ _ _ | with_reducible show wpAny _ _ (eval (Expr.DictComp _ _ _ _ _) _) _ _ _); refine Stop.out ?_) | ((with_reducible show wpAny _ _ (exec _ _) _ _ _); (first | with_reducible show wpAny _ _ (exec (Stmt.Assign (_ :: _) (Expr.ListComp _ _ _ _) _) _) _ _ _); refine Stop.out ?_) | ((with_reducible show wpAny _ _ (pyIter _) _ _ _); (first | with_reducible show wpAny _ _ (pyIter (Value.ref _)) _ _ _); refine Stop.out ?_) |  walk1 | (dsimp only; walk1) | (leave1; walk_say "STEP leave1"; try dsimp only) | fail "no step"))
  refine Stop.in ?_
  k_dflt (refine lc_eval (_F := by k_asm) (by with_unfolding_all rfl) (by decide) (by rfl) (by decide) (by rfl) ?_)
  (repeat' ((fail_if_success (with_reducible refine Stop.in ?_)); first | (k_unfold; (try dsimp only)) | (k_end; wrow_close) | ((with_reducible show wpAny _ _ (call _ _ _) _ _ _); (first | with_reducible show wpAny _ _ (call (Value.ref 94) [Value.ref _, Value.ref _]) _ _ _ | k_dflt (show wpAny _ _ (call (Value.ref 56) [Value.ref _]) _ _ _) | with_reducible show wpAny _ _ (call (Value.builtin "list.index") _ _) _ _ _); refine Stop.out ?_) | ((with_reducible show wpAny _ _ (compareOp _ _ _) _ _ _); (first | with_reducible show wpAny _ _ (compareOp CmpOp.NotEq (Value.ref _) (Value.ref _)) _ _ _ | with_reducible show wpAny _ _ (compareOp CmpOp.Eq (Value.ref _) (Value.ref _)) _ _ _ | with_reducible show wpAny _ _ (compareOp CmpOp.NotIn (Value.ref _) (Value.ref _)) _ _ _ | with_reducible show wpAny _ _ (compareOp CmpOp.NotIn (Value.int _ _) (Value.ref _)) _ _ _); refine Stop.out ?_) | ((with_reducible show wpAny _ _ (eval _ _) _ _ _); (first | with_reducible show wpAny _ _ (eval (Expr.ListComp _ _ _ _) _) _ _ _ | with_reducible show wpAny _ _ (eval (Expr.DictComp _ _ _ _ _) _) _ _ _); refine Stop.out ?_) | ((with_reducible show wpAny _ _ (exec _ _) _ _ _); (first | with_reducible show wpAny _ _ (exec (Stmt.Assign (_ :: _) (Expr.ListComp _ _ _ _) _) _) _ _ _); refine Stop.out ?_) | ((with_reducible show wpAny _ _ (pyIter _) _ _ _); (first | with_reducible show wpAny _ _ (pyIter (Value.ref _)) _ _ _); refine Stop.out ?_) |  walk1 | (dsimp only; walk1) | (leave1; walk_say "STEP leave1"; try dsimp only) | fail "no step"))
  (with_reducible rename (IsRange _ _ _ _ _ _ _ _) => hR)
  refine LcAt.keepR 12 _ _ _ _ (fun i ys => IntsAre ys (mapN (fun k => (at? c1 k).getD 0) i)) (Src.range (n := 12) (rsmall (by first | decide | omega)) (rsize _)) (by with_unfolding_all rfl) (by k_asm) (by k_asm) hR (by rw [sizeLine_eq]; first | decide | omega) ?_ .nil ?_ ?_
  · intro p hp; exact nomatch hp
  · intro i t ysA I oI C oC Dl m₂ h tk E' hi hysA hoC hmx F1 N1 off hIC hID hCD hyl
    (repeat' ((fail_if_success (with_reducible refine Stop.in ?_)); first | (k_unfold; (try dsimp only)) | (k_end; wrow_close) | ((with_reducible show wpAny _ _ (call _ _ _) _ _ _); (first | with_reducible show wpAny _ _ (call (Value.ref 94) [Value.ref _, Value.ref _]) _ _ _ | k_dflt (show wpAny _ _ (call (Value.ref 56) [Value.ref _]) _ _ _) | with_reducible show wpAny _ _ (call (Value.builtin "list.index") _ _) _ _ _); refine Stop.out ?_) | ((with_reducible show wpAny _ _ (compareOp _ _ _) _ _ _); (first | with_reducible show wpAny _ _ (compareOp CmpOp.NotEq (Value.ref _) (Value.ref _)) _ _ _ | with_reducible show wpAny _ _ (compareOp CmpOp.Eq (Value.ref _) (Value.ref _)) _ _ _ | with_reducible show wpAny _ _ (compareOp CmpOp.NotIn (Value.ref _) (Value.ref _)) _ _ _ | with_reducible show wpAny _ _ (compareOp CmpOp.NotIn (Value.int _ _) (Value.ref _)) _ _ _); refine Stop.out ?_) | ((with_reducible show wpAny _ _ (eval _ _) _ _ _); (first | with_reducible show wpAny _ _ (eval (Expr.ListComp _ _ _ _) _) _ _ _ | with_reducible show wpAny _ _ (eval (Expr.DictComp _ _ _ _ _) _) _ _ _); refine Stop.out ?_) | ((with_reducible show wpAny _ _ (exec _ _) _ _ _); (first | with_reducible show wpAny _ _ (exec (Stmt.Assign (_ :: _) (Expr.ListComp _ _ _ _) _) _) _ _ _); refine Stop.out ?_) | ((with_reducible show wpAny _ _ (pyIter _) _ _ _); (first | with_reducible show wpAny _ _ (pyIter (Value.ref _)) _ _ _); refine Stop.out ?_) |  walk1 | (dsimp only; walk1) | (leave1; walk_say "STEP leave1"; try dsimp only) | fail "no step"))
    exact PartEnd.intro _ (by k_asm) (by k_asm) (fun p hp => hp) off ⟨by rw [mapN_succ]; exact ints_snoc hysA _ _⟩
  intro hA tkA ysA hysA; intro DA hB tkB hDA FA NA offA
  have lA := lts_of (by assumption) hDA
  k_lt lA
  try dsimp only
  (repeat' ((fail_if_success (with_reducible refine Stop.in ?_)); first | (k_unfold; (try dsimp only)) | (k_end; wrow_close) | ((with_reducible show wpAny _ _ (call _ _ _) _ _ _); (first | with_reducible show wpAny _ _ (call (Value.ref 94) [Value.ref _, Value.ref _]) _ _ _ | k_dflt (show wpAny _ _ (call (Value.ref 56) [Value.ref _]) _ _ _) | with_reducible show wpAny _ _ (call (Value.builtin "list.index") _ _) _ _ _); refine Stop.out ?_) | ((with_reducible show wpAny _ _ (compareOp _ _ _) _ _ _); (first | with_reducible show wpAny _ _ (compareOp CmpOp.NotEq (Value.ref _) (Value.ref _)) _ _ _ | with_reducible show wpAny _ _ (compareOp CmpOp.Eq (Value.ref _) (Value.ref _)) _ _ _ | with_reducible show wpAny _ _ (compareOp CmpOp.NotIn (Value.ref _) (Value.ref _)) _ _ _ | with_reducible show wpAny _ _ (compareOp CmpOp.NotIn (Value.int _ _) (Value.ref _)) _ _ _); refine Stop.out ?_) | ((with_reducible show wpAny _ _ (eval _ _) _ _ _); (first | with_reducible show wpAny _ _ (eval (Expr.ListComp _ _ _ _) _) _ _ _ | with_reducible show wpAny _ _ (eval (Expr.DictComp _ _ _ _ _) _) _ _ _); refine Stop.out ?_) | ((with_reducible show wpAny _ _ (exec _ _) _ _ _); (first | with_reducible show wpAny _ _ (exec (Stmt.Assign (_ :: _) (Expr.ListComp _ _ _ _) _) _) _ _ _); refine Stop.out ?_) | ((with_reducible show wpAny _ _ (pyIter _) _ _ _); (first | with_reducible show wpAny _ _ (pyIter (Value.ref _)) _ _ _); refine Stop.out ?_) |  walk1 | (dsimp only; walk1) | (leave1; walk_say "STEP leave1"; try dsimp only) | fail "no step"))
  refine Stop.in ?_
  k_dflt (refine lc_eval (_F := by k_asm) (by with_unfolding_all rfl) (by decide) (by rfl) (by decide) (by rfl) ?_)
  (repeat' ((fail_if_success (with_reducible refine Stop.in ?_)); first | (k_unfold; (try dsimp only)) | (k_end; wrow_close) | ((with_reducible show wpAny _ _ (call _ _ _) _ _ _); (first | with_reducible show wpAny _ _ (call (Value.ref 94) [Value.ref _, Value.ref _]) _ _ _ | k_dflt (show wpAny _ _ (call (Value.ref 56) [Value.ref _]) _ _ _) | with_reducible show wpAny _ _ (call (Value.builtin "list.index") _ _) _ _ _); refine Stop.out ?_) | ((with_reducible show wpAny _ _ (compareOp _ _ _) _ _ _); (first | with_reducible show wpAny _ _ (compareOp CmpOp.NotEq (Value.ref _) (Value.ref _)) _ _ _ | with_reducible show wpAny _ _ (compareOp CmpOp.Eq (Value.ref _) (Value.ref _)) _ _ _ | with_reducible show wpAny _ _ (compareOp CmpOp.NotIn (Value.ref _) (Value.ref _)) _ _ _ | with_reducible show wpAny _ _ (compareOp CmpOp.NotIn (Value.int _ _) (Value.ref _)) _ _ _); refine Stop.out ?_) | ((with_reducible show wpAny _ _ (eval _ _) _ _ _); (first | with_reducible show wpAny _ _ (eval (Expr.ListComp _ _ _ _) _) _ _ _ | with_reducible show wpAny _ _ (eval (Expr.DictComp _ _ _ _ _) _) _ _ _); refine Stop.out ?_) | ((with_reducible show wpAny _ _ (exec _ _) _ _ _); (first | with_reducible show wpAny _ _ (exec (Stmt.Assign (_ :: _) (Expr.ListComp _ _ _ _) _) _) _ _ _); refine Stop.out ?_) | ((with_reducible show wpAny _ _ (pyIter _) _ _ _); (first | with_reducible show wpAny _ _ (pyIter (Value.ref _)) _ _ _); refine Stop.out ?_) |  walk1 | (dsimp only; walk1) | (leave1; walk_say "STEP leave1"; try dsimp only) | fail "no step"))
  refine LcAt.keep0 ys.toArray.size _ _ _ _ (fun i zs => IntsAre zs (((mapN (markOf c cg) 12).take i).map fun x => (ks.idxOf x : Int))) (Src.list Dm ys.toArray ys.length) (by with_unfolding_all rfl) (by k_asm) (by k_asm) trivial (by rw [sizeLine_eq, List.size_toArray]; omega) ?_ .nil ?_ ?_
  · intro p hp
    rw [List.mem_singleton.mp hp]
    k_mem
  · intro i u zs I oI C oC Dl m₂ h tk E' hi hu hzs; refine VTAt.casesOn (vtat (i := i) (v := u) hys (by simpa using hu)) ?_; intro ra x hx hv; intro hoC hmx F1 N1 off hIC hID hCD hyl
    have hv2 : TV ((Z, tupO 0 0 tk5 (tk5 + 1)) :: tl2) (.ref ra) x := hv.mono fun p hp => .tail _ hp
    have hxk : x ∈ ks := by rw [hks, due_mem]; exact .inr (List.mem_of_getElem? hx)
    (repeat' ((fail_if_success (with_reducible refine Stop.in ?_)); first | (k_unfold; (try dsimp only)) | (k_end; wrow_close) | ((with_reducible show wpAny _ _ (call _ _ _) _ _ _); (first | with_reducible show wpAny _ _ (call (Value.ref 94) [Value.ref _, Value.ref _]) _ _ _ | k_dflt (show wpAny _ _ (call (Value.ref 56) [Value.ref _]) _ _ _) | with_reducible show wpAny _ _ (call (Value.builtin "list.index") _ _) _ _ _); refine Stop.out ?_) | ((with_reducible show wpAny _ _ (compareOp _ _ _) _ _ _); (first | with_reducible show wpAny _ _ (compareOp CmpOp.NotEq (Value.ref _) (Value.ref _)) _ _ _ | with_reducible show wpAny _ _ (compareOp CmpOp.Eq (Value.ref _) (Value.ref _)) _ _ _ | with_reducible show wpAny _ _ (compareOp CmpOp.NotIn (Value.ref _) (Value.ref _)) _ _ _ | with_reducible show wpAny _ _ (compareOp CmpOp.NotIn (Value.int _ _) (Value.ref _)) _ _ _); refine Stop.out ?_) | ((with_reducible show wpAny _ _ (eval _ _) _ _ _); (first | with_reducible show wpAny _ _ (eval (Expr.ListComp _ _ _ _) _) _ _ _ | with_reducible show wpAny _ _ (eval (Expr.DictComp _ _ _ _ _) _) _ _ _); refine Stop.out ?_) | ((with_reducible show wpAny _ _ (exec _ _) _ _ _); (first | with_reducible show wpAny _ _ (exec (Stmt.Assign (_ :: _) (Expr.ListComp _ _ _ _) _) _) _ _ _); refine Stop.out ?_) | ((with_reducible show wpAny _ _ (pyIter _) _ _ _); (first | with_reducible show wpAny _ _ (pyIter (Value.ref _)) _ _ _); refine Stop.out ?_) |  walk1 | (dsimp only; walk1) | (leave1; walk_say "STEP leave1"; try dsimp only) | fail "no step"))
    refine Stop.in ?_
    k_dflt (refine' ll_index ?N ?pm hev' hv2 (funR_ts ?N3 ?hs3) (eqR_ts ?N2 ?hs2 ?u) hxk (by omega) ?_; (case N => k_asm); (case pm => k_mem); (case N3 => k_asm); (case hs3 => refine sub_cons (by k_mem) ?_; (repeat (first | with_reducible assumption | with_reducible exact sub_same | refine sub_tail ?_))); (case N2 => k_asm); (case hs2 => refine sub_cons (by k_mem) ?_; (repeat (first | with_reducible assumption | with_reducible exact sub_same | refine sub_tail ?_))); (case u => k_units))
    intro t9 tk9
    (repeat' ((fail_if_success (with_reducible refine Stop.in ?_)); first | (k_unfold; (try dsimp only)) | (k_end; wrow_close) | ((with_reducible show wpAny _ _ (call _ _ _) _ _ _); (first | with_reducible show wpAny _ _ (call (Value.ref 94) [Value.ref _, Value.ref _]) _ _ _ | k_dflt (show wpAny _ _ (call (Value.ref 56) [Value.ref _]) _ _ _) | with_reducible show wpAny _ _ (call (Value.builtin "list.index") _ _) _ _ _); refine Stop.out ?_) | ((with_reducible show wpAny _ _ (compareOp _ _ _) _ _ _); (first | with_reducible show wpAny _ _ (compareOp CmpOp.NotEq (Value.ref _) (Value.ref _)) _ _ _ | with_reducible show wpAny _ _ (compareOp CmpOp.Eq (Value.ref _) (Value.ref _)) _ _ _ | with_reducible show wpAny _ _ (compareOp CmpOp.NotIn (Value.ref _) (Value.ref _)) _ _ _ | with_reducible show wpAny _ _ (compareOp CmpOp.NotIn (Value.int _ _) (Value.ref _)) _ _ _); refine Stop.out ?_) | ((with_reducible show wpAny _ _ (eval _ _) _ _ _); (first | with_reducible show wpAny _ _ (eval (Expr.ListComp _ _ _ _) _) _ _ _ | with_reducible show wpAny _ _ (eval (Expr.DictComp _ _ _ _ _) _) _ _ _); refine Stop.out ?_) | ((with_reducible show wpAny _ _ (exec _ _) _ _ _); (first | with_reducible show wpAny _ _ (exec (Stmt.Assign (_ :: _) (Expr.ListComp _ _ _ _) _) _) _ _ _); refine Stop.out ?_) | ((with_reducible show wpAny _ _ (pyIter _) _ _ _); (first | with_reducible show wpAny _ _ (pyIter (Value.ref _)) _ _ _); refine Stop.out ?_) |  walk1 | (dsimp only; walk1) | (leave1; walk_say "STEP leave1"; try dsimp only) | fail "no step"))
    exact PartEnd.intro _ (by k_asm) (by k_asm) (fun p hp => hp) off ⟨by rw [map_take_succ _ hx]; exact ints_snoc hzs _ _⟩
  intro hC tkC zs hzs; intro DC hE' tkE hDC FC NC offC
  rw [List.size_toArray, List.take_of_length_le (by omega)] at hzs
  try dsimp only
  (repeat' ((fail_if_success (with_reducible refine Stop.in ?_)); first | (k_unfold; (try dsimp only)) | (k_end; wrow_close) | ((with_reducible show wpAny _ _ (call _ _ _) _ _ _); (first | with_reducible show wpAny _ _ (call (Value.ref 94) [Value.ref _, Value.ref _]) _ _ _ | k_dflt (show wpAny _ _ (call (Value.ref 56) [Value.ref _]) _ _ _) | with_reducible show wpAny _ _ (call (Value.builtin "list.index") _ _) _ _ _); refine Stop.out ?_) | ((with_reducible show wpAny _ _ (compareOp _ _ _) _ _ _); (first | with_reducible show wpAny _ _ (compareOp CmpOp.NotEq (Value.ref _) (Value.ref _)) _ _ _ | with_reducible show wpAny _ _ (compareOp CmpOp.Eq (Value.ref _) (Value.ref _)) _ _ _ | with_reducible show wpAny _ _ (compareOp CmpOp.NotIn (Value.ref _) (Value.ref _)) _ _ _ | with_reducible show wpAny _ _ (compareOp CmpOp.NotIn (Value.int _ _) (Value.ref _)) _ _ _); refine Stop.out ?_) | ((with_reducible show wpAny _ _ (eval _ _) _ _ _); (first | with_reducible show wpAny _ _ (eval (Expr.ListComp _ _ _ _) _) _ _ _ | with_reducible show wpAny _ _ (eval (Expr.DictComp _ _ _ _ _) _) _ _ _); refine Stop.out ?_) | ((with_reducible show wpAny _ _ (exec _ _) _ _ _); (first | with_reducible show wpAny _ _ (exec (Stmt.Assign (_ :: _) (Expr.ListComp _ _ _ _) _) _) _ _ _); refine Stop.out ?_) | ((with_reducible show wpAny _ _ (pyIter _) _ _ _); (first | with_reducible show wpAny _ _ (pyIter (Value.ref _)) _ _ _); refine Stop.out ?_) |  walk1 | (dsimp only; walk1) | (leave1; walk_say "STEP leave1"; try dsimp only) | fail "no step"))
  refine Stop.in ?_
  k_dflt (refine' ll_ne2 ?N ?pm ?pm2 (LV.ints hysA) (LV.ints hzs) eqR_int ?u (mapN_map (fun x => (ks.idxOf x : Int)) (fun k => idx_marks hcR hRw k) 12) ?_; (case N => k_asm); (case pm => exact memL (by k_mem)); (case pm2 => exact memL (by k_mem)); (case u => k_units))
  have hn1 := hv1.nodup (IsDictOf_nodup hd1)
  have hvs := rowed_vals hRw hcRn hn1
  (repeat' ((fail_if_success (with_reducible refine Stop.in ?_)); first | (k_unfold; (try dsimp only)) | (k_end; wrow_close) | ((with_reducible show wpAny _ _ (call _ _ _) _ _ _); (first | with_reducible show wpAny _ _ (call (Value.ref 94) [Value.ref _, Value.ref _]) _ _ _ | k_dflt (show wpAny _ _ (call (Value.ref 56) [Value.ref _]) _ _ _) | with_reducible show wpAny _ _ (call (Value.builtin "list.index") _ _) _ _ _); refine Stop.out ?_) | ((with_reducible show wpAny _ _ (compareOp _ _ _) _ _ _); (first | with_reducible show wpAny _ _ (compareOp CmpOp.NotEq (Value.ref _) (Value.ref _)) _ _ _ | with_reducible show wpAny _ _ (compareOp CmpOp.Eq (Value.ref _) (Value.ref _)) _ _ _ | with_reducible show wpAny _ _ (compareOp CmpOp.NotIn (Value.ref _) (Value.ref _)) _ _ _ | with_reducible show wpAny _ _ (compareOp CmpOp.NotIn (Value.int _ _) (Value.ref _)) _ _ _); refine Stop.out ?_) | ((with_reducible show wpAny _ _ (eval _ _) _ _ _); (first | with_reducible show wpAny _ _ (eval (Expr.ListComp _ _ _ _) _) _ _ _ | with_reducible show wpAny _ _ (eval (Expr.DictComp _ _ _ _ _) _) _ _ _); refine Stop.out ?_) | ((with_reducible show wpAny _ _ (exec _ _) _ _ _); (first | with_reducible show wpAny _ _ (exec (Stmt.Assign (_ :: _) (Expr.ListComp _ _ _ _) _) _) _ _ _); refine Stop.out ?_) | ((with_reducible show wpAny _ _ (pyIter _) _ _ _); (first | with_reducible show wpAny _ _ (pyIter (Value.ref _)) _ _ _); refine Stop.out ?_) |  walk1 | (dsimp only; walk1) | (leave1; walk_say "STEP leave1"; try dsimp only) | fail "no step"))
  refine Stop.in ?_
  k_dflt (refine' count_u ?B ?F ?K ?N ?T ?k ?d ?u ?X ?D ?dd hd1 lo1 hv1 (by omega) (fun p hp => ⟨(hvs p hp).1, by have := (hvs p hp).2; omega⟩) ?_; (case B => k_asm); (case F => k_asm); (case K => k_asm); (case N => k_asm); (case T => k_asm); (case k => exact rfl); (case d => k_room); (case u => k_units); (case X => k_mem); (case D => k_mem); (case dd => k_mem))
  rw [rowed_count hRw hcRn hn1]
  intro tF hF tkF FF NF
  try dsimp only
  (repeat' ((fail_if_success (with_reducible refine Stop.in ?_)); first | (k_unfold; (try dsimp only)) | (k_end; wrow_close) | ((with_reducible show wpAny _ _ (call _ _ _) _ _ _); (first | with_reducible show wpAny _ _ (call (Value.ref 94) [Value.ref _, Value.ref _]) _ _ _ | k_dflt (show wpAny _ _ (call (Value.ref 56) [Value.ref _]) _ _ _) | with_reducible show wpAny _ _ (call (Value.builtin "list.index") _ _) _ _ _); refine Stop.out ?_) | ((with_reducible show wpAny _ _ (compareOp _ _ _) _ _ _); (first | with_reducible show wpAny _ _ (compareOp CmpOp.NotEq (Value.ref _) (Value.ref _)) _ _ _ | with_reducible show wpAny _ _ (compareOp CmpOp.Eq (Value.ref _) (Value.ref _)) _ _ _ | with_reducible show wpAny _ _ (compareOp CmpOp.NotIn (Value.ref _) (Value.ref _)) _ _ _ | with_reducible show wpAny _ _ (compareOp CmpOp.NotIn (Value.int _ _) (Value.ref _)) _ _ _); refine Stop.out ?_) | ((with_reducible show wpAny _ _ (eval _ _) _ _ _); (first | with_reducible show wpAny _ _ (eval (Expr.ListComp _ _ _ _) _) _ _ _ | with_reducible show wpAny _ _ (eval (Expr.DictComp _ _ _ _ _) _) _ _ _); refine Stop.out ?_) | ((with_reducible show wpAny _ _ (exec _ _) _ _ _); (first | with_reducible show wpAny _ _ (exec (Stmt.Assign (_ :: _) (Expr.ListComp _ _ _ _) _) _) _ _ _); refine Stop.out ?_) | ((with_reducible show wpAny _ _ (pyIter _) _ _ _); (first | with_reducible show wpAny _ _ (pyIter (Value.ref _)) _ _ _); refine Stop.out ?_) |  walk1 | (dsimp only; walk1) | (leave1; walk_say "STEP leave1"; try dsimp only) | fail "no step"))
  · refine Stop.in ?_
    k_dflt (refine' vals_notin ?hh ?F ?N ?v ?pm hd1 hv1 (fun p hp => by have := (hvs p hp).1; omega) ?_; (case hh => exact rfl); (case F => k_asm); (case N => k_asm); (case v => k_mem); (case pm => k_mem))
    intro h9 tk9 F9 N9
    try dsimp only
    (repeat' ((fail_if_success (with_reducible refine Stop.in ?_)); first | (k_unfold; (try dsimp only)) | (k_end; wrow_close) | ((with_reducible show wpAny _ _ (call _ _ _) _ _ _); (first | with_reducible show wpAny _ _ (call (Value.ref 94) [Value.ref _, Value.ref _]) _ _ _ | k_dflt (show wpAny _ _ (call (Value.ref 56) [Value.ref _]) _ _ _) | with_reducible show wpAny _ _ (call (Value.builtin "list.index") _ _) _ _ _); refine Stop.out ?_) | ((with_reducible show wpAny _ _ (compareOp _ _ _) _ _ _); (first | with_reducible show wpAny _ _ (compareOp CmpOp.NotEq (Value.ref _) (Value.ref _)) _ _ _ | with_reducible show wpAny _ _ (compareOp CmpOp.Eq (Value.ref _) (Value.ref _)) _ _ _ | with_reducible show wpAny _ _ (compareOp CmpOp.NotIn (Value.ref _) (Value.ref _)) _ _ _ | with_reducible show wpAny _ _ (compareOp CmpOp.NotIn (Value.int _ _) (Value.ref _)) _ _ _); refine Stop.out ?_) | ((with_reducible show wpAny _ _ (eval _ _) _ _ _); (first | with_reducible show wpAny _ _ (eval (Expr.ListComp _ _ _ _) _) _ _ _ | with_reducible show wpAny _ _ (eval (Expr.DictComp _ _ _ _ _) _) _ _ _); refine Stop.out ?_) | ((with_reducible show wpAny _ _ (exec _ _) _ _ _); (first | with_reducible show wpAny _ _ (exec (Stmt.Assign (_ :: _) (Expr.ListComp _ _ _ _) _) _) _ _ _); refine Stop.out ?_) | ((with_reducible show wpAny _ _ (pyIter _) _ _ _); (first | with_reducible show wpAny _ _ (pyIter (Value.ref _)) _ _ _); refine Stop.out ?_) |  walk1 | (dsimp only; walk1) | (leave1; walk_say "STEP leave1"; try dsimp only) | fail "no step"))
    have hsub3 : ∀ p ∈ rest, p ∈ tl2 := fun p hp => hsub2 p (hsub p hp)
    (with_reducible rename (News h₀ _ _ _) => NG)
    refine hret _ _ (by k_asm) (news_sub NG ?_)
    ((repeat (refine sub_cons (by k_mem) ?_)); (first | exact sub_nil | (repeat (first | with_reducible assumption | with_reducible exact sub_same | refine sub_tail ?_))))
  · exact absurd rfl (by assumption)
end CommonHold
theorem commonhold_u {w : World} {loose : List Str} {mean : ExcName → Option Value} {mg mb : Str → Option Value} {dp un : Nat} {gd : Option (List Code)} {cn : Str} {cs : Scope} {a : Addr} {ccd : Value} {cl : List (Str × Addr)} {outer : List Env} {A₀ : Around} {base h₀ : Heap} {L : Addr} {m : Str → Option Value} {s : Shared} {Q E : Value → Shared → Prop}
  {X D d Y G g e e2 : Addr} {t1 t2 : Tok} {od og oe oe2 : Obj} {kvs kvg : List (Int × Value)} {c cg : List (Int × Int)} {news : List (Addr × Obj)}
  (B : Below A₀ base outer h₀) (F : Fr h₀ L s.heap m) (KX : (hd.heap_39 w.params).In h₀) (N : News h₀ L s.heap news) (T : Top hd.view_39 loose mean mg mb h₀) (hk : cs.kind = .function) (hdp : dp + 14 < recursionLimit) (hun : un + 90 < cLine)
  (m1 : (X, instObj 66 D) ∈ news) (m2 : (D, clsDict w t1 (.ref d)) ∈ news) (m3 : (d, od) ∈ news) (m4 : (Y, instObj 66 G) ∈ news) (m5 : (G, clsDict w t2 (.ref g)) ∈ news) (m6 : (g, og) ∈ news) (m7 : (e, oe) ∈ news) (m8 : (e2, oe2) ∈ news)
  (hD : od.IsDictOf (intKind PROG w) kvs) (lo : (d == sysModules) = false) (hG : og.IsDictOf (intKind PROG w) kvg) (loG : (g == sysModules) = false) (hE : oe.IsDictOf (intKind PROG w) kvs) (loE : (e == sysModules) = false) (hE2 : oe2.IsDictOf (intKind PROG w) kvg) (loE2 : (e2 == sysModules) = false) (hIV : IV kvs c) (hIVg : IV kvg cg) (hlen : kvs.length ≤ 12) (hleng : kvg.length ≤ 12) (hok : ClsOk c) (hokg : ClsOk cg)
  (ret : ∀ h' tk', Fr h₀ L h' m → News h₀ L h' news → Q (.bool true) { s with heap := h', toks := tk' }) :
  wpAny (model PROG w) (ktrTop dp un gd cn cs L a ccd cl outer) (call (.ref 123) [.ref X, .ref Y, .ref e, .ref e2]) Q E s :=
  commonhold_c w rfl loose mean mg mb dp un gd cn cs a ccd cl outer A₀ base h₀ L m s Q E X D d Y G g e e2 t1 t2 od og oe oe2 kvs kvg c cg news B F KX
    (news_sub N (sub_cons m1 (sub_cons m2 (sub_cons m3 (sub_cons m4 (sub_cons m5 (sub_cons m6 (sub_cons m7 (sub_cons m8 sub_same))))))))) T hk hdp hun hD lo hG loG hE loE hE2 loE2 hIV hIVg hlen hleng hok hokg
    fun h' tk' F' N' => ret h' tk' F' (fun p hp => N' p (.tail _ (.tail _ (.tail _ (.tail _ (.tail _ (.tail _ (.tail _ (.tail _ hp)))))))))

section RowsHold



local macro_rules | `(tactic| walk_at "call builtin:dict.get") => `(tactic| (k_here; k_dflt (refine' d_get2R ?N ?pm ?d ?lo ?dv ?hr ?_; (case N => k_asm); (case pm => k_mem); (case d => with_reducible assumption); (case lo => with_reducible assumption); (case dv => with_reducible assumption); (case hr => with_reducible assumption)); refine Stop.out ?_))


set_option maxRecDepth 100000 in
set_option maxHeartbeats 0 in
theorem rowshold_c (w : World) : PySem.Challenge.rw_nu0148_01 = PySem.Challenge.rw_nu0148_01 →
  ∀ (loose : List Str) (mean : ExcName → Option Value) (mg mb : Str → Option Value) (dp un : Nat) (gd : Option (List Code)) (cn : Str) (cs : Scope) (a : Addr) (ccd : Value) (cl : List (Str × Addr)) (outer : List Env) (A₀ : Around) (base h₀ : Heap) (L : Addr) (m : Str → Option Value) (s : Shared) (Q E : Value → Shared → Prop)
  (d pa : Addr) (px py : Int) (tp up : Tok) (od : Obj) (kvs : List (Int × Value)) (c : List (Int × Int)) (rest : List (Addr × Obj)),
  Below A₀ base outer h₀ → Fr h₀ L s.heap m → (hd.heap_39 w.params).In h₀ → News h₀ L s.heap ((d, od) :: (pa, tupO px py tp up) :: rest) → Top hd.view_39 loose mean mg mb h₀ → cs.kind = .function → dp + 8 < recursionLimit → un + 60 < cLine →
  od.IsDictOf (intKind PROG w) kvs → (d == sysModules) = false → DV (TV rest) kvs c → kvs.length ≤ 30 → (pa, tupO px py tp up) ∈ rest → 0 ≤ px → px < 65536 → 0 ≤ py → py < 65536 → (∀ q ∈ c, 0 ≤ q.1 ∧ q.1 < 65536) →
  (∀ h' tk', Fr h₀ L h' m → News h₀ L h' ((d, od) :: (pa, tupO px py tp up) :: rest) → Q (.bool true) { s with heap := h', toks := tk' }) →
  wpAny (model PROG w) (ktrTop dp un gd cn cs L a ccd cl outer) (call (.ref 118) [.ref d, .ref pa]) Q E s := by
  w_top off
  k_fill
  intro _ loose mean mg mb dp un gd cn cs a ccd cl outer A₀ base h₀ L m s Q E d pa px py tp up od kvs c rest B F KX N T hk hdp hun hD lo hDV hlen hpm hx0 hx1 hy0 hy1 hkeys hret
  have hpv : TV rest (.ref pa) (px * 65536 + py) := ⟨pa, px, py, tp, up, rfl, hpm, hx0, hx1, hy0, hy1, rfl⟩
  refine wpAny_call ?_
  k_dflt (refine' code_defC ?k1 ?k2 ?k3 ?k4 ?k5 ?kA ?kF ?kK ?k6 ?k7 ?k8 ?k9 ?kB ?kD ?_ ?c2 ?c3 ?c4; (case kA => exact rfl); (case kF => exact rfl); (case kK => assumption); (case k1 => k_asm); (case k2 => k_asm); (case k3 => k_asm); (case k4 => k_asm); (case k5 => k_asm); (case k6 => k_is); (case k7 => k_is); (case k8 => ktr_room); (case k9 => exact BindsTo.of_eq rfl); (case kB => exact rfl); (case kD => decide +kernel); (case c2 => exact rfl); (case c3 => exact rfl); (case c4 => exact rfl); k_whole; intro g' L' h' tk' cells' FG' F' N' Y' B' X' T' l1; (try k_lt l1); k_cells Y'; (try simp only [List.cons_append, List.nil_append] at N'); (try dsimp only); (try k_fold))
  (with_reducible rename (AllLt _ (_ :: _)) => l1E)
  have hr1 := allLt_ne1 l1E.2.2
  have hr2 := allLt_ne2 l1E.2.2
  have hr3 := allLt_ne3 l1E.2.2
  have hr4 := allLt_ne4 l1E.2.2
  have hr5 := allLt_ne5 l1E.2.2
  (repeat' ((fail_if_success (with_reducible refine Stop.in ?_)); first | (k_unfold; (try dsimp only)) | (k_end; wrow_close) | ((with_reducible show wpAny _ _ (call _ _ _) _ _ _); (first | with_reducible show wpAny _ _ (call (Value.ref 87) [Value.ref _, Value.ref _]) _ _ _ | with_reducible show wpAny _ _ (call (Value.builtin "list.index") _ _) _ _ _ | with_reducible show wpAny _ _ (call (Value.type "dict") _ _) _ _ _); refine Stop.out ?_) | ((with_reducible show wpAny _ _ (compareOp _ _ _) _ _ _); (first | with_reducible show wpAny _ _ (compareOp CmpOp.NotEq (Value.ref _) (Value.ref _)) _ _ _ | with_reducible show wpAny _ _ (compareOp CmpOp.Eq (Value.ref _) (Value.ref _)) _ _ _ | with_reducible show wpAny _ _ (compareOp CmpOp.NotIn (Value.ref _) (Value.ref _)) _ _ _); refine Stop.out ?_) | ((with_reducible show wpAny _ _ (subscriptTail _ _ _ _) _ _ _); (first | with_reducible show wpAny _ _ (subscriptTail (Expr.Name _ _) (Expr.Call _ _ _ _) (Value.ref _) (Value.int _ _)) _ _ _); refine Stop.out ?_) | ((with_reducible show wpAny _ _ (eval _ _) _ _ _); (first | with_reducible show wpAny _ _ (eval (Expr.ListComp _ _ _ _) _) _ _ _ | with_reducible show wpAny _ _ (eval (Expr.DictComp _ _ _ _ _) _) _ _ _); refine Stop.out ?_) | ((with_reducible show wpAny _ _ (exec _ _) _ _ _); (first | with_reducible show wpAny _ _ (exec (Stmt.Assign (_ :: _) (Expr.ListComp _ _ _ _) _) _) _ _ _); refine Stop.out ?_) | ((with_reducible show wpAny _ _ (pyIter _) _ _ _); (first | with_reducible show wpAny _ _ (pyIter (Value.ref _)) _ _ _); refine Stop.out ?_) |  walk1 | (dsimp only; walk1) | (leave1; walk_say "STEP leave1"; try dsimp only) | fail "no step"))
  refine Stop.in ?_
  k_dflt (refine' rows_u (ts := rest) ?B ?F ?K ?N ?T ?k ?d ?u ?dm hD lo ?hs hDV (by omega) hpv ?_; (case B => k_asm); (case F => k_asm); (case K => k_asm); (case N => k_asm); (case T => k_asm); (case k => exact rfl); (case d => k_room); (case u => k_units); (case dm => k_mem); (case hs => (repeat (first | with_reducible assumption | with_reducible exact sub_same | refine sub_tail ?_))))
  intro T1 X1 D1 ta d1 od1 kvs1 c1 El evs ne ns ks h3 tk3 F3 N3 e1 e2 e3 e4 e5 hd1 lo1 hv1 hl1 hev hkl hRw
  k_lt e1
  k_lt e2
  k_lt e3
  k_lt e4
  k_lt e5
  try dsimp only
  (repeat' ((fail_if_success (with_reducible refine Stop.in ?_)); first | (k_unfold; (try dsimp only)) | (k_end; wrow_close) | ((with_reducible show wpAny _ _ (call _ _ _) _ _ _); (first | with_reducible show wpAny _ _ (call (Value.ref 87) [Value.ref _, Value.ref _]) _ _ _ | with_reducible show wpAny _ _ (call (Value.builtin "list.index") _ _) _ _ _ | with_reducible show wpAny _ _ (call (Value.type "dict") _ _) _ _ _); refine Stop.out ?_) | ((with_reducible show wpAny _ _ (compareOp _ _ _) _ _ _); (first | with_reducible show wpAny _ _ (compareOp CmpOp.NotEq (Value.ref _) (Value.ref _)) _ _ _ | with_reducible show wpAny _ _ (compareOp CmpOp.Eq (Value.ref _) (Value.ref _)) _ _ _ | with_reducible show wpAny _ _ (compareOp CmpOp.NotIn (Value.ref _) (Value.ref _)) _ _ _); refine Stop.out ?_) | ((with_reducible show wpAny _ _ (subscriptTail _ _ _ _) _ _ _); (first | with_reducible show wpAny _ _ (subscriptTail (Expr.Name _ _) (Expr.Call _ _ _ _) (Value.ref _) (Value.int _ _)) _ _ _); refine Stop.out ?_) | ((with_reducible show wpAny _ _ (eval _ _) _ _ _); (first | with_reducible show wpAny _ _ (eval (Expr.ListComp _ _ _ _) _) _ _ _ | with_reducible show wpAny _ _ (eval (Expr.DictComp _ _ _ _ _) _) _ _ _); refine Stop.out ?_) | ((with_reducible show wpAny _ _ (exec _ _) _ _ _); (first | with_reducible show wpAny _ _ (exec (Stmt.Assign (_ :: _) (Expr.ListComp _ _ _ _) _) _) _ _ _); refine Stop.out ?_) | ((with_reducible show wpAny _ _ (pyIter _) _ _ _); (first | with_reducible show wpAny _ _ (pyIter (Value.ref _)) _ _ _); refine Stop.out ?_) |  walk1 | (dsimp only; walk1) | (leave1; walk_say "STEP leave1"; try dsimp only) | fail "no step"))
  rename_i D2 v2 n2 c2 h4 tk4 F4 N4 i2 e2' p2 o2 l2
  obtain rfl : n2 = ns := sorted_same p2 hRw.1 (by rw [hDV.keys]) o2 hRw.2.1
  have hnd := IsDictOf_nodup hD
  refine Stop.in ?_
  refine for_src (Src.list D2 v2.toArray c2) (JDue _ c (px * 65536 + py) _ _ rest _ n2) (by with_unfolding_all rfl) F4 N4 trivial ?hK (JDue.of (evs := [.ref pa]) jm_start (.cons hpv .nil)) ?turn ?done
  case hK => rintro i m nx ⟨_, evs, ne, _⟩ p hp; rw [List.mem_singleton.mp hp]; exact .head _
  case turn =>
    intro i u m₁ nx I oI h tk hi hu hz0; refine JDue.casesOn hz0 ?_; intro u₀ evs' ne' hev'; refine KTAt.casesOn (ktat (i := i) (v := u) i2 (by simpa using hu) hDV p2) ?_; intro k t x ra hk hx hval hv; intro hne F1 N1
    try k_fold
    have hdue := due_take (p := px * 65536 + py) hk hx
    have hIE := neNat (hne _ (.tail _ (.head _)))
    dsimp only at hIE
    have hkl' := hev'.length
    have hkl2 := due_take_len (px * 65536 + py) c n2 i
    have hil : i < 30 := by have := i2.length; simp at hi; omega
    (repeat' ((fail_if_success (with_reducible refine Stop.in ?_)); first | (k_unfold; (try dsimp only)) | (k_end; wrow_close) | ((with_reducible show wpAny _ _ (call _ _ _) _ _ _); (first | with_reducible show wpAny _ _ (call (Value.ref 87) [Value.ref _, Value.ref _]) _ _ _ | with_reducible show wpAny _ _ (call (Value.builtin "list.index") _ _) _ _ _ | with_reducible show wpAny _ _ (call (Value.type "dict") _ _) _ _ _); refine Stop.out ?_) | ((with_reducible show wpAny _ _ (compareOp _ _ _) _ _ _); (first | with_reducible show wpAny _ _ (compareOp CmpOp.NotEq (Value.ref _) (Value.ref _)) _ _ _ | with_reducible show wpAny _ _ (compareOp CmpOp.Eq (Value.ref _) (Value.ref _)) _ _ _ | with_reducible show wpAny _ _ (compareOp CmpOp.NotIn (Value.ref _) (Value.ref _)) _ _ _); refine Stop.out ?_) | ((with_reducible show wpAny _ _ (subscriptTail _ _ _ _) _ _ _); (first | with_reducible show wpAny _ _ (subscriptTail (Expr.Name _ _) (Expr.Call _ _ _ _) (Value.ref _) (Value.int _ _)) _ _ _); refine Stop.out ?_) | ((with_reducible show wpAny _ _ (eval _ _) _ _ _); (first | with_reducible show wpAny _ _ (eval (Expr.ListComp _ _ _ _) _) _ _ _ | with_reducible show wpAny _ _ (eval (Expr.DictComp _ _ _ _ _) _) _ _ _); refine Stop.out ?_) | ((with_reducible show wpAny _ _ (exec _ _) _ _ _); (first | with_reducible show wpAny _ _ (exec (Stmt.Assign (_ :: _) (Expr.ListComp _ _ _ _) _) _) _ _ _); refine Stop.out ?_) | ((with_reducible show wpAny _ _ (pyIter _) _ _ _); (first | with_reducible show wpAny _ _ (pyIter (Value.ref _)) _ _ _); refine Stop.out ?_) |  walk1 | (dsimp only; walk1) | (leave1; walk_say "STEP leave1"; try dsimp only) | fail "no step"))
    refine Stop.in ?_
    k_dflt (refine' ll_notin2 ?N ?pm hev' hv (funR_ts N1 ?hs) (eqR_ts ?N2 ?hs2 ?u) (fun hxk => ?_) (fun hxk => ?_); (case N => k_asm); (case pm => k_mem); (case hs => (repeat (first | with_reducible assumption | with_reducible exact sub_same | refine sub_tail ?_))); (case N2 => k_asm); (case hs2 => (repeat (first | with_reducible assumption | with_reducible exact sub_same | refine sub_tail ?_))); (case u => k_units))
    · (try dsimp only)
      (repeat' ((fail_if_success (with_reducible refine Stop.in ?_)); first | (k_unfold; (try dsimp only)) | (k_end; wrow_close) | ((with_reducible show wpAny _ _ (call _ _ _) _ _ _); (first | with_reducible show wpAny _ _ (call (Value.ref 87) [Value.ref _, Value.ref _]) _ _ _ | with_reducible show wpAny _ _ (call (Value.builtin "list.index") _ _) _ _ _ | with_reducible show wpAny _ _ (call (Value.type "dict") _ _) _ _ _); refine Stop.out ?_) | ((with_reducible show wpAny _ _ (compareOp _ _ _) _ _ _); (first | with_reducible show wpAny _ _ (compareOp CmpOp.NotEq (Value.ref _) (Value.ref _)) _ _ _ | with_reducible show wpAny _ _ (compareOp CmpOp.Eq (Value.ref _) (Value.ref _)) _ _ _ | with_reducible show wpAny _ _ (compareOp CmpOp.NotIn (Value.ref _) (Value.ref _)) _ _ _); refine Stop.out ?_) | ((with_reducible show wpAny _ _ (subscriptTail _ _ _ _) _ _ _); (first | with_reducible show wpAny _ _ (subscriptTail (Expr.Name _ _) (Expr.Call _ _ _ _) (Value.ref _) (Value.int _ _)) _ _ _); refine Stop.out ?_) | ((with_reducible show wpAny _ _ (eval _ _) _ _ _); (first | with_reducible show wpAny _ _ (eval (Expr.ListComp _ _ _ _) _) _ _ _ | with_reducible show wpAny _ _ (eval (Expr.DictComp _ _ _ _ _) _) _ _ _); refine Stop.out ?_) | ((with_reducible show wpAny _ _ (exec _ _) _ _ _); (first | with_reducible show wpAny _ _ (exec (Stmt.Assign (_ :: _) (Expr.ListComp _ _ _ _) _) _) _ _ _); refine Stop.out ?_) | ((with_reducible show wpAny _ _ (pyIter _) _ _ _); (first | with_reducible show wpAny _ _ (pyIter (Value.ref _)) _ _ _); refine Stop.out ?_) |  walk1 | (dsimp only; walk1) | (leave1; walk_say "STEP leave1"; try dsimp only) | fail "no step"))
      have hds : dueStep (due (px * 65536 + py) (rowsOf c (n2.take i))) x = due (px * 65536 + py) (rowsOf c (n2.take i)) := if_pos hxk
      exact TurnEnd.intro _ (by k_asm) (by k_asm) (by ((repeat (refine sub_cons (by k_mem) ?_)); (first | exact sub_nil | (repeat (first | with_reducible assumption | with_reducible exact sub_same | refine sub_tail ?_))))) (ne_same hne (by rfl)) (.of jm_next (by rw [hdue, hds]; exact hev'))
    · (try dsimp only)
      (repeat' ((fail_if_success (with_reducible refine Stop.in ?_)); first | (k_unfold; (try dsimp only)) | (k_end; wrow_close) | ((with_reducible show wpAny _ _ (call _ _ _) _ _ _); (first | with_reducible show wpAny _ _ (call (Value.ref 87) [Value.ref _, Value.ref _]) _ _ _ | with_reducible show wpAny _ _ (call (Value.builtin "list.index") _ _) _ _ _ | with_reducible show wpAny _ _ (call (Value.type "dict") _ _) _ _ _); refine Stop.out ?_) | ((with_reducible show wpAny _ _ (compareOp _ _ _) _ _ _); (first | with_reducible show wpAny _ _ (compareOp CmpOp.NotEq (Value.ref _) (Value.ref _)) _ _ _ | with_reducible show wpAny _ _ (compareOp CmpOp.Eq (Value.ref _) (Value.ref _)) _ _ _ | with_reducible show wpAny _ _ (compareOp CmpOp.NotIn (Value.ref _) (Value.ref _)) _ _ _); refine Stop.out ?_) | ((with_reducible show wpAny _ _ (subscriptTail _ _ _ _) _ _ _); (first | with_reducible show wpAny _ _ (subscriptTail (Expr.Name _ _) (Expr.Call _ _ _ _) (Value.ref _) (Value.int _ _)) _ _ _); refine Stop.out ?_) | ((with_reducible show wpAny _ _ (eval _ _) _ _ _); (first | with_reducible show wpAny _ _ (eval (Expr.ListComp _ _ _ _) _) _ _ _ | with_reducible show wpAny _ _ (eval (Expr.DictComp _ _ _ _ _) _) _ _ _); refine Stop.out ?_) | ((with_reducible show wpAny _ _ (exec _ _) _ _ _); (first | with_reducible show wpAny _ _ (exec (Stmt.Assign (_ :: _) (Expr.ListComp _ _ _ _) _) _) _ _ _); refine Stop.out ?_) | ((with_reducible show wpAny _ _ (pyIter _) _ _ _); (first | with_reducible show wpAny _ _ (pyIter (Value.ref _)) _ _ _); refine Stop.out ?_) |  walk1 | (dsimp only; walk1) | (leave1; walk_say "STEP leave1"; try dsimp only) | fail "no step"))
      simp only [List.push_toArray] at *
      have hds : dueStep (due (px * 65536 + py) (rowsOf c (n2.take i))) x = due (px * 65536 + py) (rowsOf c (n2.take i)) ++ [x] := if_neg hxk
      exact TurnEnd.intro _ (by k_asm) (by k_asm) (by ((repeat (refine sub_cons (by k_mem) ?_)); (first | exact sub_nil | (repeat (first | with_reducible assumption | with_reducible exact sub_same | refine sub_tail ?_))))) (ne_same hne (by rfl)) (.of jm_next (by rw [hdue, hds]; exact hev'.snoc hv))
  intro m₁ nx h5 tk5 hz0; refine JDue.casesOn hz0 ?_; intro u₀ evs' ne' hev'; intro F5 N5
  have hvl := i2.length
  rw [List.size_toArray, List.take_of_length_le (by omega), ← hRw.2.2.1] at hev'
  try dsimp only
  (repeat' ((fail_if_success (with_reducible refine Stop.in ?_)); first | (k_unfold; (try dsimp only)) | (k_end; wrow_close) | ((with_reducible show wpAny _ _ (call _ _ _) _ _ _); (first | with_reducible show wpAny _ _ (call (Value.ref 87) [Value.ref _, Value.ref _]) _ _ _ | with_reducible show wpAny _ _ (call (Value.builtin "list.index") _ _) _ _ _ | with_reducible show wpAny _ _ (call (Value.type "dict") _ _) _ _ _); refine Stop.out ?_) | ((with_reducible show wpAny _ _ (compareOp _ _ _) _ _ _); (first | with_reducible show wpAny _ _ (compareOp CmpOp.NotEq (Value.ref _) (Value.ref _)) _ _ _ | with_reducible show wpAny _ _ (compareOp CmpOp.Eq (Value.ref _) (Value.ref _)) _ _ _ | with_reducible show wpAny _ _ (compareOp CmpOp.NotIn (Value.ref _) (Value.ref _)) _ _ _); refine Stop.out ?_) | ((with_reducible show wpAny _ _ (subscriptTail _ _ _ _) _ _ _); (first | with_reducible show wpAny _ _ (subscriptTail (Expr.Name _ _) (Expr.Call _ _ _ _) (Value.ref _) (Value.int _ _)) _ _ _); refine Stop.out ?_) | ((with_reducible show wpAny _ _ (eval _ _) _ _ _); (first | with_reducible show wpAny _ _ (eval (Expr.ListComp _ _ _ _) _) _ _ _ | with_reducible show wpAny _ _ (eval (Expr.DictComp _ _ _ _ _) _) _ _ _); refine Stop.out ?_) | ((with_reducible show wpAny _ _ (exec _ _) _ _ _); (first | with_reducible show wpAny _ _ (exec (Stmt.Assign (_ :: _) (Expr.ListComp _ _ _ _) _) _) _ _ _); refine Stop.out ?_) | ((with_reducible show wpAny _ _ (pyIter _) _ _ _); (first | with_reducible show wpAny _ _ (pyIter (Value.ref _)) _ _ _); refine Stop.out ?_) |  walk1 | (dsimp only; walk1) | (leave1; walk_say "STEP leave1"; try dsimp only) | fail "no step"))
  refine Stop.in ?_
  k_dflt (refine' ll_ne2 ?N ?pm ?pm2 hev hev' (eqR_ts ?N2 ?hs2 ?u) ?u2 rfl ?_; (case N => k_asm); (case pm => k_mem); (case pm2 => k_mem); (case N2 => k_asm); (case hs2 => (repeat (first | with_reducible assumption | with_reducible exact sub_same | refine sub_tail ?_))); (case u => k_units); (case u2 => k_units))
  (repeat' ((fail_if_success (with_reducible refine Stop.in ?_)); first | (k_unfold; (try dsimp only)) | (k_end; wrow_close) | ((with_reducible show wpAny _ _ (call _ _ _) _ _ _); (first | with_reducible show wpAny _ _ (call (Value.ref 87) [Value.ref _, Value.ref _]) _ _ _ | with_reducible show wpAny _ _ (call (Value.builtin "list.index") _ _) _ _ _ | with_reducible show wpAny _ _ (call (Value.type "dict") _ _) _ _ _); refine Stop.out ?_) | ((with_reducible show wpAny _ _ (compareOp _ _ _) _ _ _); (first | with_reducible show wpAny _ _ (compareOp CmpOp.NotEq (Value.ref _) (Value.ref _)) _ _ _ | with_reducible show wpAny _ _ (compareOp CmpOp.Eq (Value.ref _) (Value.ref _)) _ _ _ | with_reducible show wpAny _ _ (compareOp CmpOp.NotIn (Value.ref _) (Value.ref _)) _ _ _); refine Stop.out ?_) | ((with_reducible show wpAny _ _ (subscriptTail _ _ _ _) _ _ _); (first | with_reducible show wpAny _ _ (subscriptTail (Expr.Name _ _) (Expr.Call _ _ _ _) (Value.ref _) (Value.int _ _)) _ _ _); refine Stop.out ?_) | ((with_reducible show wpAny _ _ (eval _ _) _ _ _); (first | with_reducible show wpAny _ _ (eval (Expr.ListComp _ _ _ _) _) _ _ _ | with_reducible show wpAny _ _ (eval (Expr.DictComp _ _ _ _ _) _) _ _ _); refine Stop.out ?_) | ((with_reducible show wpAny _ _ (exec _ _) _ _ _); (first | with_reducible show wpAny _ _ (exec (Stmt.Assign (_ :: _) (Expr.ListComp _ _ _ _) _) _) _ _ _); refine Stop.out ?_) | ((with_reducible show wpAny _ _ (pyIter _) _ _ _); (first | with_reducible show wpAny _ _ (pyIter (Value.ref _)) _ _ _); refine Stop.out ?_) |  walk1 | (dsimp only; walk1) | (leave1; walk_say "STEP leave1"; try dsimp only) | fail "no step"))
  have hcn := hDV.nodup hnd
  refine Stop.in ?_
  k_dflt (refine lc_eval (_F := by k_asm) (by with_unfolding_all rfl) (by decide) (by rfl) (by decide) (by rfl) ?_)
  (repeat' ((fail_if_success (with_reducible refine Stop.in ?_)); first | (k_unfold; (try dsimp only)) | (k_end; wrow_close) | ((with_reducible show wpAny _ _ (call _ _ _) _ _ _); (first | with_reducible show wpAny _ _ (call (Value.ref 87) [Value.ref _, Value.ref _]) _ _ _ | with_reducible show wpAny _ _ (call (Value.builtin "list.index") _ _) _ _ _ | with_reducible show wpAny _ _ (call (Value.type "dict") _ _) _ _ _); refine Stop.out ?_) | ((with_reducible show wpAny _ _ (compareOp _ _ _) _ _ _); (first | with_reducible show wpAny _ _ (compareOp CmpOp.NotEq (Value.ref _) (Value.ref _)) _ _ _ | with_reducible show wpAny _ _ (compareOp CmpOp.Eq (Value.ref _) (Value.ref _)) _ _ _ | with_reducible show wpAny _ _ (compareOp CmpOp.NotIn (Value.ref _) (Value.ref _)) _ _ _); refine Stop.out ?_) | ((with_reducible show wpAny _ _ (subscriptTail _ _ _ _) _ _ _); (first | with_reducible show wpAny _ _ (subscriptTail (Expr.Name _ _) (Expr.Call _ _ _ _) (Value.ref _) (Value.int _ _)) _ _ _); refine Stop.out ?_) | ((with_reducible show wpAny _ _ (eval _ _) _ _ _); (first | with_reducible show wpAny _ _ (eval (Expr.ListComp _ _ _ _) _) _ _ _ | with_reducible show wpAny _ _ (eval (Expr.DictComp _ _ _ _ _) _) _ _ _); refine Stop.out ?_) | ((with_reducible show wpAny _ _ (exec _ _) _ _ _); (first | with_reducible show wpAny _ _ (exec (Stmt.Assign (_ :: _) (Expr.ListComp _ _ _ _) _) _) _ _ _); refine Stop.out ?_) | ((with_reducible show wpAny _ _ (pyIter _) _ _ _); (first | with_reducible show wpAny _ _ (pyIter (Value.ref _)) _ _ _); refine Stop.out ?_) |  walk1 | (dsimp only; walk1) | (leave1; walk_say "STEP leave1"; try dsimp only) | fail "no step"))
  refine ⟨kvs.length, _, _, _, _, JTl _ rest (fun i => encP (sel (clsOf (px * 65536 + py) ks) (c.take i))), Src.dict d lo hD, by with_unfolding_all rfl, by k_asm, N5, trivial, by rw [sizeLine_eq]; first | decide | omega, ?_, (JTl.of (tl := rest) (by (first | exact front_nil | exact front_cons (front_nil) | exact front_cons (front_cons (front_nil)) | exact front_cons (front_cons (front_cons (front_nil))) | exact front_cons (front_cons (front_cons (front_cons (front_nil)))) | exact front_cons (front_cons (front_cons (front_cons (front_cons (front_nil))))) | exact front_cons (front_cons (front_cons (front_cons (front_cons (front_cons (front_nil)))))) | exact front_cons (front_cons (front_cons (front_cons (front_cons (front_cons (front_cons (front_nil))))))) | exact front_cons (front_cons (front_cons (front_cons (front_cons (front_cons (front_cons (front_cons (front_nil)))))))) | exact front_cons (front_cons (front_cons (front_cons (front_cons (front_cons (front_cons (front_cons (front_cons (front_nil))))))))) | exact front_cons (front_cons (front_cons (front_cons (front_cons (front_cons (front_cons (front_cons (front_cons (front_cons (front_nil)))))))))) | exact front_cons (front_cons (front_cons (front_cons (front_cons (front_cons (front_cons (front_cons (front_cons (front_cons (front_cons (front_nil))))))))))) | exact front_cons (front_cons (front_cons (front_cons (front_cons (front_cons (front_cons (front_cons (front_cons (front_cons (front_cons (front_cons (front_nil)))))))))))) | exact front_cons (front_cons (front_cons (front_cons (front_cons (front_cons (front_cons (front_cons (front_cons (front_cons (front_cons (front_cons (front_cons (front_nil))))))))))))) | exact front_cons (front_cons (front_cons (front_cons (front_cons (front_cons (front_cons (front_cons (front_cons (front_cons (front_cons (front_cons (front_cons (front_cons (front_nil)))))))))))))) | exact front_cons (front_cons (front_cons (front_cons (front_cons (front_cons (front_cons (front_cons (front_cons (front_cons (front_cons (front_cons (front_cons (front_cons (front_cons (front_nil))))))))))))))) | exact front_cons (front_cons (front_cons (front_cons (front_cons (front_cons (front_cons (front_cons (front_cons (front_cons (front_cons (front_cons (front_cons (front_cons (front_cons (front_cons (front_nil)))))))))))))))) | exact front_cons (front_cons (front_cons (front_cons (front_cons (front_cons (front_cons (front_cons (front_cons (front_cons (front_cons (front_cons (front_cons (front_cons (front_cons (front_cons (front_cons (front_nil))))))))))))))))) | exact front_cons (front_cons (front_cons (front_cons (front_cons (front_cons (front_cons (front_cons (front_cons (front_cons (front_cons (front_cons (front_cons (front_cons (front_cons (front_cons (front_cons (front_cons (front_nil)))))))))))))))))) | exact front_cons (front_cons (front_cons (front_cons (front_cons (front_cons (front_cons (front_cons (front_cons (front_cons (front_cons (front_cons (front_cons (front_cons (front_cons (front_cons (front_cons (front_cons (front_cons (front_nil))))))))))))))))))) | exact front_cons (front_cons (front_cons (front_cons (front_cons (front_cons (front_cons (front_cons (front_cons (front_cons (front_cons (front_cons (front_cons (front_cons (front_cons (front_cons (front_cons (front_cons (front_cons (front_cons (front_nil)))))))))))))))))))) | exact front_cons (front_cons (front_cons (front_cons (front_cons (front_cons (front_cons (front_cons (front_cons (front_cons (front_cons (front_cons (front_cons (front_cons (front_cons (front_cons (front_cons (front_cons (front_cons (front_cons (front_cons (front_nil))))))))))))))))))))) | exact front_cons (front_cons (front_cons (front_cons (front_cons (front_cons (front_cons (front_cons (front_cons (front_cons (front_cons (front_cons (front_cons (front_cons (front_cons (front_cons (front_cons (front_cons (front_cons (front_cons (front_cons (front_cons (front_nil)))))))))))))))))))))) | exact front_cons (front_cons (front_cons (front_cons (front_cons (front_cons (front_cons (front_cons (front_cons (front_cons (front_cons (front_cons (front_cons (front_cons (front_cons (front_cons (front_cons (front_cons (front_cons (front_cons (front_cons (front_cons (front_cons (front_nil))))))))))))))))))))))) | exact front_cons (front_cons (front_cons (front_cons (front_cons (front_cons (front_cons (front_cons (front_cons (front_cons (front_cons (front_cons (front_cons (front_cons (front_cons (front_cons (front_cons (front_cons (front_cons (front_cons (front_cons (front_cons (front_cons (front_cons (front_nil)))))))))))))))))))))))) | exact front_cons (front_cons (front_cons (front_cons (front_cons (front_cons (front_cons (front_cons (front_cons (front_cons (front_cons (front_cons (front_cons (front_cons (front_cons (front_cons (front_cons (front_cons (front_cons (front_cons (front_cons (front_cons (front_cons (front_cons (front_cons (front_nil))))))))))))))))))))))))) | exact front_cons (front_cons (front_cons (front_cons (front_cons (front_cons (front_cons (front_cons (front_cons (front_cons (front_cons (front_cons (front_cons (front_cons (front_cons (front_cons (front_cons (front_cons (front_cons (front_cons (front_cons (front_cons (front_cons (front_cons (front_cons (front_cons (front_nil)))))))))))))))))))))))))) | exact front_cons (front_cons (front_cons (front_cons (front_cons (front_cons (front_cons (front_cons (front_cons (front_cons (front_cons (front_cons (front_cons (front_cons (front_cons (front_cons (front_cons (front_cons (front_cons (front_cons (front_cons (front_cons (front_cons (front_cons (front_cons (front_cons (front_cons (front_nil))))))))))))))))))))))))))))) sub_same .nil), ?_, ?_⟩
  · rintro i ys nx ⟨tl, _, _⟩ p hp
    try dsimp only [List.cons_append, List.nil_append]
    rw [List.mem_singleton.mp hp]
    k_mem
  · intro i u ys nx I oI C oC Dl m₂ h tk E' hi hku hz0; refine JTl.casesOn hz0 ?_; intro tl hsub hys; dsimp only [List.cons_append, List.nil_append]; refine DTAt.casesOn (dtat hku hDV) ?_; intro k ra x t hkx hv hci; intro hoC hmx F1 N1 off hIC hID hCD hyl
    have hval := valueAt_of_get hnd hkx
    have hsel := sel_take (f := clsOf (px * 65536 + py) ks) hci
    have hxks := hRw.mem hcn (List.mem_of_getElem? hci)
    dsimp only at hxks
    refine wpAny_tests_one ?_
    (repeat' ((fail_if_success (with_reducible refine Stop.in ?_)); first | (k_unfold; (try dsimp only)) | (k_end; wrow_close) | ((with_reducible show wpAny _ _ (call _ _ _) _ _ _); (first | with_reducible show wpAny _ _ (call (Value.ref 87) [Value.ref _, Value.ref _]) _ _ _ | with_reducible show wpAny _ _ (call (Value.builtin "list.index") _ _) _ _ _ | with_reducible show wpAny _ _ (call (Value.type "dict") _ _) _ _ _); refine Stop.out ?_) | ((with_reducible show wpAny _ _ (compareOp _ _ _) _ _ _); (first | with_reducible show wpAny _ _ (compareOp CmpOp.NotEq (Value.ref _) (Value.ref _)) _ _ _ | with_reducible show wpAny _ _ (compareOp CmpOp.Eq (Value.ref _) (Value.ref _)) _ _ _ | with_reducible show wpAny _ _ (compareOp CmpOp.NotIn (Value.ref _) (Value.ref _)) _ _ _); refine Stop.out ?_) | ((with_reducible show wpAny _ _ (subscriptTail _ _ _ _) _ _ _); (first | with_reducible show wpAny _ _ (subscriptTail (Expr.Name _ _) (Expr.Call _ _ _ _) (Value.ref _) (Value.int _ _)) _ _ _); refine Stop.out ?_) | ((with_reducible show wpAny _ _ (eval _ _) _ _ _); (first | with_reducible show wpAny _ _ (eval (Expr.ListComp _ _ _ _) _) _ _ _ | with_reducible show wpAny _ _ (eval (Expr.DictComp _ _ _ _ _) _) _ _ _); refine Stop.out ?_) | ((with_reducible show wpAny _ _ (exec _ _) _ _ _); (first | with_reducible show wpAny _ _ (exec (Stmt.Assign (_ :: _) (Expr.ListComp _ _ _ _) _) _) _ _ _); refine Stop.out ?_) | ((with_reducible show wpAny _ _ (pyIter _) _ _ _); (first | with_reducible show wpAny _ _ (pyIter (Value.ref _)) _ _ _); refine Stop.out ?_) |  walk1 | (dsimp only; walk1) | (leave1; walk_say "STEP leave1"; try dsimp only) | fail "no step"))
    refine Stop.in ?_
    k_dflt (refine' tt_ne2 ?N ?u (hv.mono ?hs) (hpv.mono ?hs2) (fun hxp => ?_) (fun hxp => ?_); (case N => k_asm); (case u => k_units); (case hs => (repeat (first | with_reducible assumption | with_reducible exact sub_same | refine sub_tail ?_))); (case hs2 => (repeat (first | with_reducible assumption | with_reducible exact sub_same | refine sub_tail ?_))))
    · (try dsimp only)
      (repeat' ((fail_if_success (with_reducible refine Stop.in ?_)); first | (k_unfold; (try dsimp only)) | (k_end; wrow_close) | ((with_reducible show wpAny _ _ (call _ _ _) _ _ _); (first | with_reducible show wpAny _ _ (call (Value.ref 87) [Value.ref _, Value.ref _]) _ _ _ | with_reducible show wpAny _ _ (call (Value.builtin "list.index") _ _) _ _ _ | with_reducible show wpAny _ _ (call (Value.type "dict") _ _) _ _ _); refine Stop.out ?_) | ((with_reducible show wpAny _ _ (compareOp _ _ _) _ _ _); (first | with_reducible show wpAny _ _ (compareOp CmpOp.NotEq (Value.ref _) (Value.ref _)) _ _ _ | with_reducible show wpAny _ _ (compareOp CmpOp.Eq (Value.ref _) (Value.ref _)) _ _ _ | with_reducible show wpAny _ _ (compareOp CmpOp.NotIn (Value.ref _) (Value.ref _)) _ _ _); refine Stop.out ?_) | ((with_reducible show wpAny _ _ (subscriptTail _ _ _ _) _ _ _); (first | with_reducible show wpAny _ _ (subscriptTail (Expr.Name _ _) (Expr.Call _ _ _ _) (Value.ref _) (Value.int _ _)) _ _ _); refine Stop.out ?_) | ((with_reducible show wpAny _ _ (eval _ _) _ _ _); (first | with_reducible show wpAny _ _ (eval (Expr.ListComp _ _ _ _) _) _ _ _ | with_reducible show wpAny _ _ (eval (Expr.DictComp _ _ _ _ _) _) _ _ _); refine Stop.out ?_) | ((with_reducible show wpAny _ _ (exec _ _) _ _ _); (first | with_reducible show wpAny _ _ (exec (Stmt.Assign (_ :: _) (Expr.ListComp _ _ _ _) _) _) _ _ _); refine Stop.out ?_) | ((with_reducible show wpAny _ _ (pyIter _) _ _ _); (first | with_reducible show wpAny _ _ (pyIter (Value.ref _)) _ _ _); refine Stop.out ?_) |  walk1 | (dsimp only; walk1) | (leave1; walk_say "STEP leave1"; try dsimp only) | fail "no step"))
      have hs2 : sel (clsOf (px * 65536 + py) ks) (c.take (i + 1)) = sel (clsOf (px * 65536 + py) ks) (c.take i) := by rw [hsel, clsOf, if_pos hxp]; simp
      exact PartEnd.intro _ (by k_asm) (by k_asm) (fun p hp => hp) off (.of (tl := tl) rfl hsub (by show LV _ _ (encP (sel _ (c.take (i + 1)))); rw [hs2]; exact hys))
    · (try dsimp only)
      (repeat' ((fail_if_success (with_reducible refine Stop.in ?_)); first | (k_unfold; (try dsimp only)) | (k_end; wrow_close) | ((with_reducible show wpAny _ _ (call _ _ _) _ _ _); (first | with_reducible show wpAny _ _ (call (Value.ref 87) [Value.ref _, Value.ref _]) _ _ _ | with_reducible show wpAny _ _ (call (Value.builtin "list.index") _ _) _ _ _ | with_reducible show wpAny _ _ (call (Value.type "dict") _ _) _ _ _); refine Stop.out ?_) | ((with_reducible show wpAny _ _ (compareOp _ _ _) _ _ _); (first | with_reducible show wpAny _ _ (compareOp CmpOp.NotEq (Value.ref _) (Value.ref _)) _ _ _ | with_reducible show wpAny _ _ (compareOp CmpOp.Eq (Value.ref _) (Value.ref _)) _ _ _ | with_reducible show wpAny _ _ (compareOp CmpOp.NotIn (Value.ref _) (Value.ref _)) _ _ _); refine Stop.out ?_) | ((with_reducible show wpAny _ _ (subscriptTail _ _ _ _) _ _ _); (first | with_reducible show wpAny _ _ (subscriptTail (Expr.Name _ _) (Expr.Call _ _ _ _) (Value.ref _) (Value.int _ _)) _ _ _); refine Stop.out ?_) | ((with_reducible show wpAny _ _ (eval _ _) _ _ _); (first | with_reducible show wpAny _ _ (eval (Expr.ListComp _ _ _ _) _) _ _ _ | with_reducible show wpAny _ _ (eval (Expr.DictComp _ _ _ _ _) _) _ _ _); refine Stop.out ?_) | ((with_reducible show wpAny _ _ (exec _ _) _ _ _); (first | with_reducible show wpAny _ _ (exec (Stmt.Assign (_ :: _) (Expr.ListComp _ _ _ _) _) _) _ _ _); refine Stop.out ?_) | ((with_reducible show wpAny _ _ (pyIter _) _ _ _); (first | with_reducible show wpAny _ _ (pyIter (Value.ref _)) _ _ _); refine Stop.out ?_) |  walk1 | (dsimp only; walk1) | (leave1; walk_say "STEP leave1"; try dsimp only) | fail "no step"))
      refine Stop.in ?_
      k_dflt (refine' ll_index ?N ?pm hev' hv (funR_ts ?N3 ?hs3) (eqR_ts ?N2 ?hs2 ?u) hxks (by omega) ?_; (case N => k_asm); (case pm => k_mem); (case N3 => k_asm); (case hs3 => (repeat (first | with_reducible assumption | with_reducible exact sub_same | refine sub_tail ?_))); (case N2 => k_asm); (case hs2 => (repeat (first | with_reducible assumption | with_reducible exact sub_same | refine sub_tail ?_))); (case u => k_units))
      intro t9 tk9
      (repeat' ((fail_if_success (with_reducible refine Stop.in ?_)); first | (k_unfold; (try dsimp only)) | (k_end; wrow_close) | ((with_reducible show wpAny _ _ (call _ _ _) _ _ _); (first | with_reducible show wpAny _ _ (call (Value.ref 87) [Value.ref _, Value.ref _]) _ _ _ | with_reducible show wpAny _ _ (call (Value.builtin "list.index") _ _) _ _ _ | with_reducible show wpAny _ _ (call (Value.type "dict") _ _) _ _ _); refine Stop.out ?_) | ((with_reducible show wpAny _ _ (compareOp _ _ _) _ _ _); (first | with_reducible show wpAny _ _ (compareOp CmpOp.NotEq (Value.ref _) (Value.ref _)) _ _ _ | with_reducible show wpAny _ _ (compareOp CmpOp.Eq (Value.ref _) (Value.ref _)) _ _ _ | with_reducible show wpAny _ _ (compareOp CmpOp.NotIn (Value.ref _) (Value.ref _)) _ _ _); refine Stop.out ?_) | ((with_reducible show wpAny _ _ (subscriptTail _ _ _ _) _ _ _); (first | with_reducible show wpAny _ _ (subscriptTail (Expr.Name _ _) (Expr.Call _ _ _ _) (Value.ref _) (Value.int _ _)) _ _ _); refine Stop.out ?_) | ((with_reducible show wpAny _ _ (eval _ _) _ _ _); (first | with_reducible show wpAny _ _ (eval (Expr.ListComp _ _ _ _) _) _ _ _ | with_reducible show wpAny _ _ (eval (Expr.DictComp _ _ _ _ _) _) _ _ _); refine Stop.out ?_) | ((with_reducible show wpAny _ _ (exec _ _) _ _ _); (first | with_reducible show wpAny _ _ (exec (Stmt.Assign (_ :: _) (Expr.ListComp _ _ _ _) _) _) _ _ _); refine Stop.out ?_) | ((with_reducible show wpAny _ _ (pyIter _) _ _ _); (first | with_reducible show wpAny _ _ (pyIter (Value.ref _)) _ _ _); refine Stop.out ?_) |  walk1 | (dsimp only; walk1) | (leave1; walk_say "STEP leave1"; try dsimp only) | fail "no step"))
      dsimp only [qk]
      rename_i T9 h9 F9 N9 l9
      have hix := List.idxOf_lt_length_iff.mpr hxks
      have hkb := hkeys _ (List.mem_of_getElem? hci)
      refine PartEnd.intro _ F9 N9 ?hs ?hne (.of (tl := (T9, tupO k (ks.idxOf x : Int) t t9) :: tl) rfl (fun p hp => .tail _ (hsub p hp)) ?_)
      case hs => simp only [List.cons_append, List.nil_append]; ((repeat (refine sub_cons (by k_mem) ?_)); (first | exact sub_nil | (repeat (first | with_reducible assumption | with_reducible exact sub_same | refine sub_tail ?_))))
      case hne => refine off_cons (o := tupO k (ks.idxOf x : Int) t t9) ?_ off (ne3 l9.1 l9.2.1 l9.2.2.1); simp only [List.cons_append, List.nil_append]; ((repeat (refine sub_cons (by k_mem) ?_)); (first | exact sub_nil | (repeat (first | with_reducible assumption | with_reducible exact sub_same | refine sub_tail ?_))))
      show LV _ _ (encP (sel _ (c.take (i + 1))))
      rw [hsel, clsOf, if_neg hxp, encP_append]
      exact (hys.mono fun v c => TV.mono fun p hp => .tail _ hp).snoc ⟨T9, k, (ks.idxOf x : Int), t, t9, rfl, .head _, hkb.1, hkb.2, by omega, by omega, rfl⟩
  have hcl := hDV.length
  intro hA tkA ys nx hz0; refine JTl.casesOn hz0 ?_; intro tl hsub hys; dsimp only [List.cons_append, List.nil_append]; intro Dl hB tkB hDl FB NB offB
  try dsimp only at hys
  rw [List.take_of_length_le (by omega)] at hys
  have lB := lts_of (by assumption) hDl
  try dsimp only
  (repeat' ((fail_if_success (with_reducible refine Stop.in ?_)); first | (k_unfold; (try dsimp only)) | (k_end; wrow_close) | ((with_reducible show wpAny _ _ (call _ _ _) _ _ _); (first | with_reducible show wpAny _ _ (call (Value.ref 87) [Value.ref _, Value.ref _]) _ _ _ | with_reducible show wpAny _ _ (call (Value.builtin "list.index") _ _) _ _ _ | with_reducible show wpAny _ _ (call (Value.type "dict") _ _) _ _ _); refine Stop.out ?_) | ((with_reducible show wpAny _ _ (compareOp _ _ _) _ _ _); (first | with_reducible show wpAny _ _ (compareOp CmpOp.NotEq (Value.ref _) (Value.ref _)) _ _ _ | with_reducible show wpAny _ _ (compareOp CmpOp.Eq (Value.ref _) (Value.ref _)) _ _ _ | with_reducible show wpAny _ _ (compareOp CmpOp.NotIn (Value.ref _) (Value.ref _)) _ _ _); refine Stop.out ?_) | ((with_reducible show wpAny _ _ (subscriptTail _ _ _ _) _ _ _); (first | with_reducible show wpAny _ _ (subscriptTail (Expr.Name _ _) (Expr.Call _ _ _ _) (Value.ref _) (Value.int _ _)) _ _ _); refine Stop.out ?_) | ((with_reducible show wpAny _ _ (eval _ _) _ _ _); (first | with_reducible show wpAny _ _ (eval (Expr.ListComp _ _ _ _) _) _ _ _ | with_reducible show wpAny _ _ (eval (Expr.DictComp _ _ _ _ _) _) _ _ _); refine Stop.out ?_) | ((with_reducible show wpAny _ _ (exec _ _) _ _ _); (first | with_reducible show wpAny _ _ (exec (Stmt.Assign (_ :: _) (Expr.ListComp _ _ _ _) _) _) _ _ _); refine Stop.out ?_) | ((with_reducible show wpAny _ _ (pyIter _) _ _ _); (first | with_reducible show wpAny _ _ (pyIter (Value.ref _)) _ _ _); refine Stop.out ?_) |  walk1 | (dsimp only; walk1) | (leave1; walk_say "STEP leave1"; try dsimp only) | fail "no step"))
  refine Stop.in ?_
  k_dflt (refine' d_pairs ?hh ?F ?N ?pm (hys.mono fun v c => TV.mono ?hs) ?big ?sz ?_; (case hh => exact rfl); (case F => k_asm); (case N => k_asm); (case pm => exact memL (by k_mem)); (case hs => (repeat (first | with_reducible assumption | with_reducible exact sub_same | refine sub_tail ?_))); (case big => exact modules_low (Top.nolimit (by k_asm))); (case sz => have := sel_len (clsOf (px * 65536 + py) ks) c; omega))
  intro D9 o9 kvs9 h9 tk9 F9 N9 l9 hd9 lo9 hiv9
  k_lt l9
  rw [pairsD_enc (cls_bound (by omega) fun q => hRw.mem hcn) (sel_nodup hcn)] at hiv9
  try dsimp only
  (repeat' ((fail_if_success (with_reducible refine Stop.in ?_)); first | (k_unfold; (try dsimp only)) | (k_end; wrow_close) | ((with_reducible show wpAny _ _ (call _ _ _) _ _ _); (first | with_reducible show wpAny _ _ (call (Value.ref 87) [Value.ref _, Value.ref _]) _ _ _ | with_reducible show wpAny _ _ (call (Value.builtin "list.index") _ _) _ _ _ | with_reducible show wpAny _ _ (call (Value.type "dict") _ _) _ _ _); refine Stop.out ?_) | ((with_reducible show wpAny _ _ (compareOp _ _ _) _ _ _); (first | with_reducible show wpAny _ _ (compareOp CmpOp.NotEq (Value.ref _) (Value.ref _)) _ _ _ | with_reducible show wpAny _ _ (compareOp CmpOp.Eq (Value.ref _) (Value.ref _)) _ _ _ | with_reducible show wpAny _ _ (compareOp CmpOp.NotIn (Value.ref _) (Value.ref _)) _ _ _); refine Stop.out ?_) | ((with_reducible show wpAny _ _ (subscriptTail _ _ _ _) _ _ _); (first | with_reducible show wpAny _ _ (subscriptTail (Expr.Name _ _) (Expr.Call _ _ _ _) (Value.ref _) (Value.int _ _)) _ _ _); refine Stop.out ?_) | ((with_reducible show wpAny _ _ (eval _ _) _ _ _); (first | with_reducible show wpAny _ _ (eval (Expr.ListComp _ _ _ _) _) _ _ _ | with_reducible show wpAny _ _ (eval (Expr.DictComp _ _ _ _ _) _) _ _ _); refine Stop.out ?_) | ((with_reducible show wpAny _ _ (exec _ _) _ _ _); (first | with_reducible show wpAny _ _ (exec (Stmt.Assign (_ :: _) (Expr.ListComp _ _ _ _) _) _) _ _ _); refine Stop.out ?_) | ((with_reducible show wpAny _ _ (pyIter _) _ _ _); (first | with_reducible show wpAny _ _ (pyIter (Value.ref _)) _ _ _); refine Stop.out ?_) |  walk1 | (dsimp only; walk1) | (leave1; walk_say "STEP leave1"; try dsimp only) | fail "no step"))
  refine Stop.in ?_
  k_dflt (refine' dd_ne ?N ?pm ?pm2 hd1 hd9 lo1 lo9 (DV.ofIV hv1) (DV.ofIV hiv9) eqR_int ?u (fun k => by rw [hRw.2.2.2 k, at?_sel hcn]) ?_; (case N => k_asm); (case pm => k_mem); (case pm2 => k_mem); (case u => k_units))
  (repeat' ((fail_if_success (with_reducible refine Stop.in ?_)); first | (k_unfold; (try dsimp only)) | (k_end; wrow_close) | ((with_reducible show wpAny _ _ (call _ _ _) _ _ _); (first | with_reducible show wpAny _ _ (call (Value.ref 87) [Value.ref _, Value.ref _]) _ _ _ | with_reducible show wpAny _ _ (call (Value.builtin "list.index") _ _) _ _ _ | with_reducible show wpAny _ _ (call (Value.type "dict") _ _) _ _ _); refine Stop.out ?_) | ((with_reducible show wpAny _ _ (compareOp _ _ _) _ _ _); (first | with_reducible show wpAny _ _ (compareOp CmpOp.NotEq (Value.ref _) (Value.ref _)) _ _ _ | with_reducible show wpAny _ _ (compareOp CmpOp.Eq (Value.ref _) (Value.ref _)) _ _ _ | with_reducible show wpAny _ _ (compareOp CmpOp.NotIn (Value.ref _) (Value.ref _)) _ _ _); refine Stop.out ?_) | ((with_reducible show wpAny _ _ (subscriptTail _ _ _ _) _ _ _); (first | with_reducible show wpAny _ _ (subscriptTail (Expr.Name _ _) (Expr.Call _ _ _ _) (Value.ref _) (Value.int _ _)) _ _ _); refine Stop.out ?_) | ((with_reducible show wpAny _ _ (eval _ _) _ _ _); (first | with_reducible show wpAny _ _ (eval (Expr.ListComp _ _ _ _) _) _ _ _ | with_reducible show wpAny _ _ (eval (Expr.DictComp _ _ _ _ _) _) _ _ _); refine Stop.out ?_) | ((with_reducible show wpAny _ _ (exec _ _) _ _ _); (first | with_reducible show wpAny _ _ (exec (Stmt.Assign (_ :: _) (Expr.ListComp _ _ _ _) _) _) _ _ _); refine Stop.out ?_) | ((with_reducible show wpAny _ _ (pyIter _) _ _ _); (first | with_reducible show wpAny _ _ (pyIter (Value.ref _)) _ _ _); refine Stop.out ?_) |  walk1 | (dsimp only; walk1) | (leave1; walk_say "STEP leave1"; try dsimp only) | fail "no step"))
  refine Stop.in ?_
  k_dflt (refine lc_eval (_F := by k_asm) (by with_unfolding_all rfl) (by decide) (by rfl) (by decide) (by rfl) ?_)
  (repeat' ((fail_if_success (with_reducible refine Stop.in ?_)); first | (k_unfold; (try dsimp only)) | (k_end; wrow_close) | ((with_reducible show wpAny _ _ (call _ _ _) _ _ _); (first | with_reducible show wpAny _ _ (call (Value.ref 87) [Value.ref _, Value.ref _]) _ _ _ | with_reducible show wpAny _ _ (call (Value.builtin "list.index") _ _) _ _ _ | with_reducible show wpAny _ _ (call (Value.type "dict") _ _) _ _ _); refine Stop.out ?_) | ((with_reducible show wpAny _ _ (compareOp _ _ _) _ _ _); (first | with_reducible show wpAny _ _ (compareOp CmpOp.NotEq (Value.ref _) (Value.ref _)) _ _ _ | with_reducible show wpAny _ _ (compareOp CmpOp.Eq (Value.ref _) (Value.ref _)) _ _ _ | with_reducible show wpAny _ _ (compareOp CmpOp.NotIn (Value.ref _) (Value.ref _)) _ _ _); refine Stop.out ?_) | ((with_reducible show wpAny _ _ (subscriptTail _ _ _ _) _ _ _); (first | with_reducible show wpAny _ _ (subscriptTail (Expr.Name _ _) (Expr.Call _ _ _ _) (Value.ref _) (Value.int _ _)) _ _ _); refine Stop.out ?_) | ((with_reducible show wpAny _ _ (eval _ _) _ _ _); (first | with_reducible show wpAny _ _ (eval (Expr.ListComp _ _ _ _) _) _ _ _ | with_reducible show wpAny _ _ (eval (Expr.DictComp _ _ _ _ _) _) _ _ _); refine Stop.out ?_) | ((with_reducible show wpAny _ _ (exec _ _) _ _ _); (first | with_reducible show wpAny _ _ (exec (Stmt.Assign (_ :: _) (Expr.ListComp _ _ _ _) _) _) _ _ _); refine Stop.out ?_) | ((with_reducible show wpAny _ _ (pyIter _) _ _ _); (first | with_reducible show wpAny _ _ (pyIter (Value.ref _)) _ _ _); refine Stop.out ?_) |  walk1 | (dsimp only; walk1) | (leave1; walk_say "STEP leave1"; try dsimp only) | fail "no step"))
  (with_reducible rename (IsRange _ _ _ _ _ _ _ _) => hR)
  refine LcAt.keepR 12 _ _ _ _ (fun i ys => LV (TV rest) ys (mapN (fun k => (at? c k).getD (px * 65536 + py)) i)) (Src.range (n := 12) (rsmall (by first | decide | omega)) (rsize _)) (by with_unfolding_all rfl) (by k_asm) (by k_asm) hR (by rw [sizeLine_eq]; first | decide | omega) ?_ .nil ?_ ?_
  · intro p hp; exact nomatch hp
  · intro i t ys I oI C oC Dl m₂ h tk E' hi hys hoC hmx F1 N1 off hIC hID hCD hyl
    obtain ⟨hg0, hg1, hg2⟩ := rowed_get hRw hcn ((0 : Int) + (i : Int))
    (repeat' ((fail_if_success (with_reducible refine Stop.in ?_)); first | (k_unfold; (try dsimp only)) | (k_end; wrow_close) | ((with_reducible show wpAny _ _ (call _ _ _) _ _ _); (first | with_reducible show wpAny _ _ (call (Value.ref 87) [Value.ref _, Value.ref _]) _ _ _ | with_reducible show wpAny _ _ (call (Value.builtin "list.index") _ _) _ _ _ | with_reducible show wpAny _ _ (call (Value.type "dict") _ _) _ _ _); refine Stop.out ?_) | ((with_reducible show wpAny _ _ (compareOp _ _ _) _ _ _); (first | with_reducible show wpAny _ _ (compareOp CmpOp.NotEq (Value.ref _) (Value.ref _)) _ _ _ | with_reducible show wpAny _ _ (compareOp CmpOp.Eq (Value.ref _) (Value.ref _)) _ _ _ | with_reducible show wpAny _ _ (compareOp CmpOp.NotIn (Value.ref _) (Value.ref _)) _ _ _); refine Stop.out ?_) | ((with_reducible show wpAny _ _ (subscriptTail _ _ _ _) _ _ _); (first | with_reducible show wpAny _ _ (subscriptTail (Expr.Name _ _) (Expr.Call _ _ _ _) (Value.ref _) (Value.int _ _)) _ _ _); refine Stop.out ?_) | ((with_reducible show wpAny _ _ (eval _ _) _ _ _); (first | with_reducible show wpAny _ _ (eval (Expr.ListComp _ _ _ _) _) _ _ _ | with_reducible show wpAny _ _ (eval (Expr.DictComp _ _ _ _ _) _) _ _ _); refine Stop.out ?_) | ((with_reducible show wpAny _ _ (exec _ _) _ _ _); (first | with_reducible show wpAny _ _ (exec (Stmt.Assign (_ :: _) (Expr.ListComp _ _ _ _) _) _) _ _ _); refine Stop.out ?_) | ((with_reducible show wpAny _ _ (pyIter _) _ _ _); (first | with_reducible show wpAny _ _ (pyIter (Value.ref _)) _ _ _); refine Stop.out ?_) |  walk1 | (dsimp only; walk1) | (leave1; walk_say "STEP leave1"; try dsimp only) | fail "no step"))
    refine Stop.in ?_
    k_dflt (refine' ll_get ?N ?pm hev ?h0 hg2 ?fit ?_; (case N => k_asm); (case pm => k_mem); (case h0 => omega); (case fit => omega))
    intro v9 hv9
    (repeat' ((fail_if_success (with_reducible refine Stop.in ?_)); first | (k_unfold; (try dsimp only)) | (k_end; wrow_close) | ((with_reducible show wpAny _ _ (call _ _ _) _ _ _); (first | with_reducible show wpAny _ _ (call (Value.ref 87) [Value.ref _, Value.ref _]) _ _ _ | with_reducible show wpAny _ _ (call (Value.builtin "list.index") _ _) _ _ _ | with_reducible show wpAny _ _ (call (Value.type "dict") _ _) _ _ _); refine Stop.out ?_) | ((with_reducible show wpAny _ _ (compareOp _ _ _) _ _ _); (first | with_reducible show wpAny _ _ (compareOp CmpOp.NotEq (Value.ref _) (Value.ref _)) _ _ _ | with_reducible show wpAny _ _ (compareOp CmpOp.Eq (Value.ref _) (Value.ref _)) _ _ _ | with_reducible show wpAny _ _ (compareOp CmpOp.NotIn (Value.ref _) (Value.ref _)) _ _ _); refine Stop.out ?_) | ((with_reducible show wpAny _ _ (subscriptTail _ _ _ _) _ _ _); (first | with_reducible show wpAny _ _ (subscriptTail (Expr.Name _ _) (Expr.Call _ _ _ _) (Value.ref _) (Value.int _ _)) _ _ _); refine Stop.out ?_) | ((with_reducible show wpAny _ _ (eval _ _) _ _ _); (first | with_reducible show wpAny _ _ (eval (Expr.ListComp _ _ _ _) _) _ _ _ | with_reducible show wpAny _ _ (eval (Expr.DictComp _ _ _ _ _) _) _ _ _); refine Stop.out ?_) | ((with_reducible show wpAny _ _ (exec _ _) _ _ _); (first | with_reducible show wpAny _ _ (exec (Stmt.Assign (_ :: _) (Expr.ListComp _ _ _ _) _) _) _ _ _); refine Stop.out ?_) | ((with_reducible show wpAny _ _ (pyIter _) _ _ _); (first | with_reducible show wpAny _ _ (pyIter (Value.ref _)) _ _ _); refine Stop.out ?_) |  walk1 | (dsimp only; walk1) | (leave1; walk_say "STEP leave1"; try dsimp only) | fail "no step"))
    exact PartEnd.intro _ (by k_asm) (by k_asm) (fun p hp => hp) off ⟨by rw [mapN_succ]; exact hys.snoc hv9⟩
  intro hE tkE ysA hysA; intro DlA hF tkF hDlA FE NE offE
  have lE := lts_of (by assumption) hDlA
  k_lt lE
  try dsimp only
  (repeat' ((fail_if_success (with_reducible refine Stop.in ?_)); first | (k_unfold; (try dsimp only)) | (k_end; wrow_close) | ((with_reducible show wpAny _ _ (call _ _ _) _ _ _); (first | with_reducible show wpAny _ _ (call (Value.ref 87) [Value.ref _, Value.ref _]) _ _ _ | with_reducible show wpAny _ _ (call (Value.builtin "list.index") _ _) _ _ _ | with_reducible show wpAny _ _ (call (Value.type "dict") _ _) _ _ _); refine Stop.out ?_) | ((with_reducible show wpAny _ _ (compareOp _ _ _) _ _ _); (first | with_reducible show wpAny _ _ (compareOp CmpOp.NotEq (Value.ref _) (Value.ref _)) _ _ _ | with_reducible show wpAny _ _ (compareOp CmpOp.Eq (Value.ref _) (Value.ref _)) _ _ _ | with_reducible show wpAny _ _ (compareOp CmpOp.NotIn (Value.ref _) (Value.ref _)) _ _ _); refine Stop.out ?_) | ((with_reducible show wpAny _ _ (subscriptTail _ _ _ _) _ _ _); (first | with_reducible show wpAny _ _ (subscriptTail (Expr.Name _ _) (Expr.Call _ _ _ _) (Value.ref _) (Value.int _ _)) _ _ _); refine Stop.out ?_) | ((with_reducible show wpAny _ _ (eval _ _) _ _ _); (first | with_reducible show wpAny _ _ (eval (Expr.ListComp _ _ _ _) _) _ _ _ | with_reducible show wpAny _ _ (eval (Expr.DictComp _ _ _ _ _) _) _ _ _); refine Stop.out ?_) | ((with_reducible show wpAny _ _ (exec _ _) _ _ _); (first | with_reducible show wpAny _ _ (exec (Stmt.Assign (_ :: _) (Expr.ListComp _ _ _ _) _) _) _ _ _); refine Stop.out ?_) | ((with_reducible show wpAny _ _ (pyIter _) _ _ _); (first | with_reducible show wpAny _ _ (pyIter (Value.ref _)) _ _ _); refine Stop.out ?_) |  walk1 | (dsimp only; walk1) | (leave1; walk_say "STEP leave1"; try dsimp only) | fail "no step"))
  refine Stop.in ?_
  k_dflt (refine lc_eval (_F := by k_asm) (by with_unfolding_all rfl) (by decide) (by rfl) (by decide) (by rfl) ?_)
  (repeat' ((fail_if_success (with_reducible refine Stop.in ?_)); first | (k_unfold; (try dsimp only)) | (k_end; wrow_close) | ((with_reducible show wpAny _ _ (call _ _ _) _ _ _); (first | with_reducible show wpAny _ _ (call (Value.ref 87) [Value.ref _, Value.ref _]) _ _ _ | with_reducible show wpAny _ _ (call (Value.builtin "list.index") _ _) _ _ _ | with_reducible show wpAny _ _ (call (Value.type "dict") _ _) _ _ _); refine Stop.out ?_) | ((with_reducible show wpAny _ _ (compareOp _ _ _) _ _ _); (first | with_reducible show wpAny _ _ (compareOp CmpOp.NotEq (Value.ref _) (Value.ref _)) _ _ _ | with_reducible show wpAny _ _ (compareOp CmpOp.Eq (Value.ref _) (Value.ref _)) _ _ _ | with_reducible show wpAny _ _ (compareOp CmpOp.NotIn (Value.ref _) (Value.ref _)) _ _ _); refine Stop.out ?_) | ((with_reducible show wpAny _ _ (subscriptTail _ _ _ _) _ _ _); (first | with_reducible show wpAny _ _ (subscriptTail (Expr.Name _ _) (Expr.Call _ _ _ _) (Value.ref _) (Value.int _ _)) _ _ _); refine Stop.out ?_) | ((with_reducible show wpAny _ _ (eval _ _) _ _ _); (first | with_reducible show wpAny _ _ (eval (Expr.ListComp _ _ _ _) _) _ _ _ | with_reducible show wpAny _ _ (eval (Expr.DictComp _ _ _ _ _) _) _ _ _); refine Stop.out ?_) | ((with_reducible show wpAny _ _ (exec _ _) _ _ _); (first | with_reducible show wpAny _ _ (exec (Stmt.Assign (_ :: _) (Expr.ListComp _ _ _ _) _) _) _ _ _); refine Stop.out ?_) | ((with_reducible show wpAny _ _ (pyIter _) _ _ _); (first | with_reducible show wpAny _ _ (pyIter (Value.ref _)) _ _ _); refine Stop.out ?_) |  walk1 | (dsimp only; walk1) | (leave1; walk_say "STEP leave1"; try dsimp only) | fail "no step"))
  (with_reducible rename (IsRange _ _ _ _ _ _ _ _) => hR)
  refine LcAt.keepR 12 _ _ _ _ (fun i ys => LV (TV rest) ys (mapN (fun k => (at? c k).getD (px * 65536 + py)) i)) (Src.range (n := 12) (rsmall (by first | decide | omega)) (rsize _)) (by with_unfolding_all rfl) (by k_asm) (by k_asm) hR (by rw [sizeLine_eq]; first | decide | omega) ?_ .nil ?_ ?_
  · intro p hp; exact nomatch hp
  · intro i t ys I oI C oC Dl m₂ h tk E' hi hys hoC hmx F1 N1 off hIC hID hCD hyl
    (repeat' ((fail_if_success (with_reducible refine Stop.in ?_)); first | (k_unfold; (try dsimp only)) | (k_end; wrow_close) | ((with_reducible show wpAny _ _ (call _ _ _) _ _ _); (first | with_reducible show wpAny _ _ (call (Value.ref 87) [Value.ref _, Value.ref _]) _ _ _ | with_reducible show wpAny _ _ (call (Value.builtin "list.index") _ _) _ _ _ | with_reducible show wpAny _ _ (call (Value.type "dict") _ _) _ _ _); refine Stop.out ?_) | ((with_reducible show wpAny _ _ (compareOp _ _ _) _ _ _); (first | with_reducible show wpAny _ _ (compareOp CmpOp.NotEq (Value.ref _) (Value.ref _)) _ _ _ | with_reducible show wpAny _ _ (compareOp CmpOp.Eq (Value.ref _) (Value.ref _)) _ _ _ | with_reducible show wpAny _ _ (compareOp CmpOp.NotIn (Value.ref _) (Value.ref _)) _ _ _); refine Stop.out ?_) | ((with_reducible show wpAny _ _ (subscriptTail _ _ _ _) _ _ _); (first | with_reducible show wpAny _ _ (subscriptTail (Expr.Name _ _) (Expr.Call _ _ _ _) (Value.ref _) (Value.int _ _)) _ _ _); refine Stop.out ?_) | ((with_reducible show wpAny _ _ (eval _ _) _ _ _); (first | with_reducible show wpAny _ _ (eval (Expr.ListComp _ _ _ _) _) _ _ _ | with_reducible show wpAny _ _ (eval (Expr.DictComp _ _ _ _ _) _) _ _ _); refine Stop.out ?_) | ((with_reducible show wpAny _ _ (exec _ _) _ _ _); (first | with_reducible show wpAny _ _ (exec (Stmt.Assign (_ :: _) (Expr.ListComp _ _ _ _) _) _) _ _ _); refine Stop.out ?_) | ((with_reducible show wpAny _ _ (pyIter _) _ _ _); (first | with_reducible show wpAny _ _ (pyIter (Value.ref _)) _ _ _); refine Stop.out ?_) |  walk1 | (dsimp only; walk1) | (leave1; walk_say "STEP leave1"; try dsimp only) | fail "no step"))
    refine Stop.in ?_
    intro v9 tk9 hv9
    (repeat' ((fail_if_success (with_reducible refine Stop.in ?_)); first | (k_unfold; (try dsimp only)) | (k_end; wrow_close) | ((with_reducible show wpAny _ _ (call _ _ _) _ _ _); (first | with_reducible show wpAny _ _ (call (Value.ref 87) [Value.ref _, Value.ref _]) _ _ _ | with_reducible show wpAny _ _ (call (Value.builtin "list.index") _ _) _ _ _ | with_reducible show wpAny _ _ (call (Value.type "dict") _ _) _ _ _); refine Stop.out ?_) | ((with_reducible show wpAny _ _ (compareOp _ _ _) _ _ _); (first | with_reducible show wpAny _ _ (compareOp CmpOp.NotEq (Value.ref _) (Value.ref _)) _ _ _ | with_reducible show wpAny _ _ (compareOp CmpOp.Eq (Value.ref _) (Value.ref _)) _ _ _ | with_reducible show wpAny _ _ (compareOp CmpOp.NotIn (Value.ref _) (Value.ref _)) _ _ _); refine Stop.out ?_) | ((with_reducible show wpAny _ _ (subscriptTail _ _ _ _) _ _ _); (first | with_reducible show wpAny _ _ (subscriptTail (Expr.Name _ _) (Expr.Call _ _ _ _) (Value.ref _) (Value.int _ _)) _ _ _); refine Stop.out ?_) | ((with_reducible show wpAny _ _ (eval _ _) _ _ _); (first | with_reducible show wpAny _ _ (eval (Expr.ListComp _ _ _ _) _) _ _ _ | with_reducible show wpAny _ _ (eval (Expr.DictComp _ _ _ _ _) _) _ _ _); refine Stop.out ?_) | ((with_reducible show wpAny _ _ (exec _ _) _ _ _); (first | with_reducible show wpAny _ _ (exec (Stmt.Assign (_ :: _) (Expr.ListComp _ _ _ _) _) _) _ _ _); refine Stop.out ?_) | ((with_reducible show wpAny _ _ (pyIter _) _ _ _); (first | with_reducible show wpAny _ _ (pyIter (Value.ref _)) _ _ _); refine Stop.out ?_) |  walk1 | (dsimp only; walk1) | (leave1; walk_say "STEP leave1"; try dsimp only) | fail "no step"))
    exact PartEnd.intro _ (by k_asm) (by k_asm) (fun p hp => hp) off ⟨by rw [mapN_succ]; exact hys.snoc hv9⟩
  intro hG tkG ysB hysB; intro DlB hH tkH hDlB FG NG offG
  try dsimp only
  (repeat' ((fail_if_success (with_reducible refine Stop.in ?_)); first | (k_unfold; (try dsimp only)) | (k_end; wrow_close) | ((with_reducible show wpAny _ _ (call _ _ _) _ _ _); (first | with_reducible show wpAny _ _ (call (Value.ref 87) [Value.ref _, Value.ref _]) _ _ _ | with_reducible show wpAny _ _ (call (Value.builtin "list.index") _ _) _ _ _ | with_reducible show wpAny _ _ (call (Value.type "dict") _ _) _ _ _); refine Stop.out ?_) | ((with_reducible show wpAny _ _ (compareOp _ _ _) _ _ _); (first | with_reducible show wpAny _ _ (compareOp CmpOp.NotEq (Value.ref _) (Value.ref _)) _ _ _ | with_reducible show wpAny _ _ (compareOp CmpOp.Eq (Value.ref _) (Value.ref _)) _ _ _ | with_reducible show wpAny _ _ (compareOp CmpOp.NotIn (Value.ref _) (Value.ref _)) _ _ _); refine Stop.out ?_) | ((with_reducible show wpAny _ _ (subscriptTail _ _ _ _) _ _ _); (first | with_reducible show wpAny _ _ (subscriptTail (Expr.Name _ _) (Expr.Call _ _ _ _) (Value.ref _) (Value.int _ _)) _ _ _); refine Stop.out ?_) | ((with_reducible show wpAny _ _ (eval _ _) _ _ _); (first | with_reducible show wpAny _ _ (eval (Expr.ListComp _ _ _ _) _) _ _ _ | with_reducible show wpAny _ _ (eval (Expr.DictComp _ _ _ _ _) _) _ _ _); refine Stop.out ?_) | ((with_reducible show wpAny _ _ (exec _ _) _ _ _); (first | with_reducible show wpAny _ _ (exec (Stmt.Assign (_ :: _) (Expr.ListComp _ _ _ _) _) _) _ _ _); refine Stop.out ?_) | ((with_reducible show wpAny _ _ (pyIter _) _ _ _); (first | with_reducible show wpAny _ _ (pyIter (Value.ref _)) _ _ _); refine Stop.out ?_) |  walk1 | (dsimp only; walk1) | (leave1; walk_say "STEP leave1"; try dsimp only) | fail "no step"))
  refine Stop.in ?_
  k_dflt (refine' ll_eq ?N ?pm ?pm2 hysA hysB (eqR_ts ?N2 ?hs2 ?u) ?u2 ?_; (case N => k_asm); (case pm => exact memL (by k_mem)); (case pm2 => exact memL (by k_mem)); (case N2 => k_asm); (case hs2 => (repeat (first | with_reducible assumption | with_reducible exact sub_same | refine sub_tail ?_))); (case u => k_units); (case u2 => k_units))
  rw [decide_eq_true rfl]
  (repeat' ((fail_if_success (with_reducible refine Stop.in ?_)); first | (k_unfold; (try dsimp only)) | (k_end; wrow_close) | ((with_reducible show wpAny _ _ (call _ _ _) _ _ _); (first | with_reducible show wpAny _ _ (call (Value.ref 87) [Value.ref _, Value.ref _]) _ _ _ | with_reducible show wpAny _ _ (call (Value.builtin "list.index") _ _) _ _ _ | with_reducible show wpAny _ _ (call (Value.type "dict") _ _) _ _ _); refine Stop.out ?_) | ((with_reducible show wpAny _ _ (compareOp _ _ _) _ _ _); (first | with_reducible show wpAny _ _ (compareOp CmpOp.NotEq (Value.ref _) (Value.ref _)) _ _ _ | with_reducible show wpAny _ _ (compareOp CmpOp.Eq (Value.ref _) (Value.ref _)) _ _ _ | with_reducible show wpAny _ _ (compareOp CmpOp.NotIn (Value.ref _) (Value.ref _)) _ _ _); refine Stop.out ?_) | ((with_reducible show wpAny _ _ (subscriptTail _ _ _ _) _ _ _); (first | with_reducible show wpAny _ _ (subscriptTail (Expr.Name _ _) (Expr.Call _ _ _ _) (Value.ref _) (Value.int _ _)) _ _ _); refine Stop.out ?_) | ((with_reducible show wpAny _ _ (eval _ _) _ _ _); (first | with_reducible show wpAny _ _ (eval (Expr.ListComp _ _ _ _) _) _ _ _ | with_reducible show wpAny _ _ (eval (Expr.DictComp _ _ _ _ _) _) _ _ _); refine Stop.out ?_) | ((with_reducible show wpAny _ _ (exec _ _) _ _ _); (first | with_reducible show wpAny _ _ (exec (Stmt.Assign (_ :: _) (Expr.ListComp _ _ _ _) _) _) _ _ _); refine Stop.out ?_) | ((with_reducible show wpAny _ _ (pyIter _) _ _ _); (first | with_reducible show wpAny _ _ (pyIter (Value.ref _)) _ _ _); refine Stop.out ?_) |  walk1 | (dsimp only; walk1) | (leave1; walk_say "STEP leave1"; try dsimp only) | fail "no step"))
  (with_reducible rename (News h₀ _ _ _) => NF)
  refine hret _ _ (by k_asm) (news_sub NF ?_)
  ((repeat (refine sub_cons (by k_mem) ?_)); (first | exact sub_nil | (repeat (first | with_reducible assumption | with_reducible exact sub_same | refine sub_tail ?_))))
end RowsHold
theorem rowshold_u {w : World} {loose : List Str} {mean : ExcName → Option Value} {mg mb : Str → Option Value} {dp un : Nat} {gd : Option (List Code)} {cn : Str} {cs : Scope} {a : Addr} {ccd : Value} {cl : List (Str × Addr)} {outer : List Env} {A₀ : Around} {base h₀ : Heap} {L : Addr} {m : Str → Option Value} {s : Shared} {Q E : Value → Shared → Prop}
  {d pa : Addr} {p : Int} {od : Obj} {kvs : List (Int × Value)} {c : List (Int × Int)} {news : List (Addr × Obj)}
  (B : Below A₀ base outer h₀) (F : Fr h₀ L s.heap m) (KX : (hd.heap_39 w.params).In h₀) (N : News h₀ L s.heap news) (T : Top hd.view_39 loose mean mg mb h₀) (hk : cs.kind = .function) (hdp : dp + 8 < recursionLimit) (hun : un + 60 < cLine)
  (hdm : (d, od) ∈ news) (hD : od.IsDictOf (intKind PROG w) kvs) (lo : (d == sysModules) = false) (hDV : DV (TV news) kvs c) (hlen : kvs.length ≤ 30) (hp : TV news (.ref pa) p) (hkeys : ∀ q ∈ c, 0 ≤ q.1 ∧ q.1 < 65536)
  (ret : ∀ h' tk', Fr h₀ L h' m → News h₀ L h' news → Q (.bool true) { s with heap := h', toks := tk' }) :
  wpAny (model PROG w) (ktrTop dp un gd cn cs L a ccd cl outer) (call (.ref 118) [.ref d, .ref pa]) Q E s := by
  obtain ⟨a', x, y, t, u, e, hm, g0, g1, g2, g3, rfl⟩ := hp
  cases e
  exact rowshold_c w rfl loose mean mg mb dp un gd cn cs a ccd cl outer A₀ base h₀ L m s Q E d pa x y t u od kvs c news B F KX
    (news_sub N (sub_cons hdm (sub_cons hm sub_same))) T hk hdp hun hD lo hDV hlen hm g0 g1 g2 g3 hkeys
    fun h' tk' F' N' => ret h' tk' F' (fun p hp => N' p (.tail _ (.tail _ hp)))

end AroundGET
/-- the classes of the new glyphs -/
noncomputable def TurnOk (c tb cq : List (Int × Int)) : Prop := ∀ z v, at? cq z = some v ↔ ∃ k, at? tb k = some z ∧ at? c k = some v
noncomputable def TurnJ (c tb : List (Int × Int)) (ns : List Int) (cq : List (Int × Int)) : Prop := ∀ z v, at? cq z = some v ↔ ∃ k ∈ ns, at? tb k = some z ∧ at? c k = some v
noncomputable def InjT (tb : List (Int × Int)) : Prop := ∀ k k' z, at? tb k = some z → at? tb k' = some z → k = k'
theorem TurnJ.skip {c tb cq : List (Int × Int)} {ns : List Int} {i : Nat} {k : Int} (h : TurnJ c tb (ns.take i) cq) (hk : ns[i]? = some k) (hn : at? tb k = none) : TurnJ c tb (ns.take (i + 1)) cq := by
  intro z v
  rw [h z v, List.take_add_one, hk]
  constructor
  · rintro ⟨k', hm, r⟩
    exact ⟨k', List.mem_append_left _ hm, r⟩
  · rintro ⟨k', hm, h1, h2⟩
    rcases List.mem_append.mp hm with hm | hm
    · exact ⟨k', hm, h1, h2⟩
    · simp at hm
      rw [hm, hn] at h1; cases h1
theorem TurnJ.put {c tb cq : List (Int × Int)} {ns : List Int} {i : Nat} {k z x : Int} (hi : InjT tb) (h : TurnJ c tb (ns.take i) cq) (hk : ns[i]? = some k) (hz : at? tb k = some z) (hx : at? c k = some x) : TurnJ c tb (ns.take (i + 1)) (putI cq z x) := by
  intro z' v
  rw [at?_putI, List.take_add_one, hk]
  by_cases e : z' = z
  · subst e
    rw [if_pos rfl]
    constructor
    · intro q
      cases q
      exact ⟨k, List.mem_append_right _ (by simp), hz, hx⟩
    · rintro ⟨k', _, h1, h2⟩
      rw [hi _ _ _ h1 hz, hx] at h2
      exact h2
  · rw [if_neg e, h z' v]
    constructor
    · rintro ⟨k', hm, r⟩
      exact ⟨k', List.mem_append_left _ hm, r⟩
    · rintro ⟨k', hm, h1, h2⟩
      rcases List.mem_append.mp hm with hm | hm
      · exact ⟨k', hm, h1, h2⟩
      · simp at hm
        rw [hm, hz] at h1
        cases h1
        exact absurd rfl e
theorem TurnJ.all {c tb cq : List (Int × Int)} {ns : List Int} (h : TurnJ c tb ns cq) (hp : ns.Perm (c.map (·.1))) : TurnOk c tb cq := by
  intro z v
  rw [h z v]
  constructor
  · rintro ⟨k, _, r⟩; exact ⟨k, r⟩
  · rintro ⟨k, h1, h2⟩
    exact ⟨k, hp.mem_iff.mpr (at?_keys.mpr ⟨v, h2⟩), h1, h2⟩
/-- the pairs as the law builds them -/
noncomputable def turnP (c tb : List (Int × Int)) : List (Int × Int) := c.filterMap fun q => (at? tb q.1).map fun z => (z, q.2)
theorem turnP_mem {c tb : List (Int × Int)} {z v : Int} : (z, v) ∈ turnP c tb ↔ ∃ q ∈ c, at? tb q.1 = some z ∧ q.2 = v := by
  unfold turnP
  rw [List.mem_filterMap]
  constructor
  · rintro ⟨q, hq, e⟩
    obtain ⟨z', hz, e'⟩ := Option.map_eq_some_iff.mp e
    cases e'
    exact ⟨q, hq, hz, rfl⟩
  · rintro ⟨q, hq, hz, rfl⟩
    exact ⟨q, hq, by rw [hz]; rfl⟩
theorem turnP_nodup {c tb : List (Int × Int)} (hi : InjT tb) (hn : (c.map (·.1)).Nodup) : ((turnP c tb).map (·.1)).Nodup := by
  induction c with
  | nil => exact List.nodup_nil
  | cons q c ih =>
    rw [List.map_cons, List.nodup_cons] at hn
    have ih' := ih hn.2
    unfold turnP at ih' ⊢
    rw [List.filterMap_cons]
    cases hz : at? tb q.1 with
    | none => simpa using ih'
    | some z =>
      simp only [Option.map_some, List.map_cons, List.nodup_cons]
      refine ⟨fun h => ?_, ih'⟩
      obtain ⟨r, hr, e⟩ := List.mem_map.mp h
      have hr' : (r.1, r.2) ∈ turnP c tb := hr
      obtain ⟨s, hs, h1, _⟩ := turnP_mem.mp hr'
      rw [e] at h1
      exact hn.1 (hi _ _ _ hz h1 ▸ List.mem_map.mpr ⟨s, hs, rfl⟩)
theorem turnP_ok {c tb : List (Int × Int)} (hi : InjT tb) (hn : (c.map (·.1)).Nodup) : TurnOk c tb (turnP c tb) := by
  intro z v
  constructor
  · intro h
    obtain ⟨q, hq, h1, rfl⟩ := turnP_mem.mp (at?_mem h)
    exact ⟨q.1, h1, at?_of_mem hn hq⟩
  · rintro ⟨k, h1, h2⟩
    exact at?_of_mem (turnP_nodup hi hn) (turnP_mem.mpr ⟨(k, v), at?_mem h2, h1, rfl⟩)
theorem TurnOk.same {c tb a b : List (Int × Int)} (ha : TurnOk c tb a) (hb : TurnOk c tb b) : ∀ z, at? a z = at? b z := by
  intro z
  cases e : at? a z with
  | some v => exact ((hb z v).mpr ((ha z v).mp e)).symm
  | none =>
    cases e' : at? b z with
    | none => rfl
    | some v => rw [(ha z v).mpr ((hb z v).mp e')] at e; cases e
theorem turnP_take {c tb : List (Int × Int)} {i : Nat} {k x : Int} (h : c[i]? = some (k, x)) : turnP (c.take (i + 1)) tb = turnP (c.take i) tb ++ ((at? tb k).map fun z => (z, x)).toList := by
  unfold turnP
  rw [List.take_add_one, h, List.filterMap_append]
  congr 1
section
variable {prog : Program} {w : World} {A : Around} {E : Value → Shared → Prop} {s : Shared} {h₀ : Heap} {L : Addr} {news : List (Addr × Obj)}
theorem d_in {d : Addr} {o : Obj} {kvs : List (Int × Value)} {c : List (Int × Int)} {k : Int} {t : Tok} {Q : Value → Shared → Prop} (N : News h₀ L s.heap news) (hp : (d, o) ∈ news) (hd : o.IsDictOf (intKind prog w) kvs) (lo : (d == sysModules) = false) (hIV : IV kvs c)
    (h : ∀ tk, Q (.bool (at? c k).isSome) { s with toks := tk }) : wpAny (model prog w) A (compareOp .In (.int k t) (.ref d)) Q E s :=
  kda_in N hp hd lo (intKind_is _ _ _ _) _ (hIV.isSome k) (h _)
theorem d_in2 {d : Addr} {o : Obj} {kvs : List (Int × Value)} {c : List (Int × Int)} {k : Int} {t : Tok} {Q : Value → Shared → Prop} (N : News h₀ L s.heap news) (hp : (d, o) ∈ news) (hd : o.IsDictOf (intKind prog w) kvs) (lo : (d == sysModules) = false) (hIV : IV kvs c)
    (hn : ∀ tk, at? c k = none → Q (.bool false) { s with toks := tk }) (hy : ∀ tk z, at? c k = some z → Q (.bool true) { s with toks := tk }) : wpAny (model prog w) A (compareOp .In (.int k t) (.ref d)) Q E s := d_in N hp hd lo hIV (some_cases hn hy)
end
section Turned



set_option maxRecDepth 100000 in
set_option maxHeartbeats 0 in
theorem turned_c (w : World) : PySem.Challenge.rw_nu0148_01 = PySem.Challenge.rw_nu0148_01 →
  ∀ (loose : List Str) (mean : ExcName → Option Value) (mg mb : Str → Option Value) (dp un : Nat) (gd : Option (List Code)) (cn : Str) (cs : Scope) (a : Addr) (ccd : Value) (cl : List (Str × Addr)) (outer : List Env) (A₀ : Around) (base h₀ : Heap) (L : Addr) (m : Str → Option Value) (s : Shared) (Q E : Value → Shared → Prop)
  (X D d T0 : Addr) (t1 : Tok) (od oT : Obj) (kvs kvT : List (Int × Value)) (c tb : List (Int × Int)) (rest : List (Addr × Obj)),
  Below A₀ base outer h₀ → Fr h₀ L s.heap m → (hd.heap_39 w.params).In h₀ → News h₀ L s.heap ((X, instObj 66 D) :: (D, clsDict w t1 (.ref d)) :: (d, od) :: (T0, oT) :: rest) → Top hd.view_39 loose mean mg mb h₀ → cs.kind = .function → dp + 4 < recursionLimit → un + 40 < cLine →
  od.IsDictOf (intKind PROG w) kvs → (d == sysModules) = false → oT.IsDictOf (intKind PROG w) kvT → (T0 == sysModules) = false → IV kvs c → IV kvT tb → kvs.length ≤ 12 → InjT tb →
  (∀ X' D' t1' d' od' kvs' c' h' tk', Fr h₀ L h' m → News h₀ L h' ((X', instObj 66 D') :: (D', clsDict w t1' (.ref d')) :: (d', od') :: (X, instObj 66 D) :: (D, clsDict w t1 (.ref d)) :: (d, od) :: (T0, oT) :: rest) →
    od'.IsDictOf (intKind PROG w) kvs' → (d' == sysModules) = false → IV kvs' c' → kvs'.length ≤ 12 → TurnOk c tb c' → Q (.ref X') { s with heap := h', toks := tk' }) →
  wpAny (model PROG w) (ktrTop dp un gd cn cs L a ccd cl outer) (call (.ref 75) [.ref X, .ref T0]) Q E s := by
  w_top off
  k_fill
  intro _ loose mean mg mb dp un gd cn cs a ccd cl outer A₀ base h₀ L m s Q E X D d T0 t1 od oT kvs kvT c tb rest B F KX N T hk hdp hun hD lo hT loT hIV hIVT hlen hinj hret
  refine wpAny_call ?_
  k_dflt (refine' code_defC ?k1 ?k2 ?k3 ?k4 ?k5 ?kA ?kF ?kK ?k6 ?k7 ?k8 ?k9 ?kB ?kD ?_ ?c2 ?c3 ?c4; (case kA => exact rfl); (case kF => exact rfl); (case kK => assumption); (case k1 => k_asm); (case k2 => k_asm); (case k3 => k_asm); (case k4 => k_asm); (case k5 => k_asm); (case k6 => k_is); (case k7 => k_is); (case k8 => ktr_room); (case k9 => exact BindsTo.of_eq rfl); (case kB => exact rfl); (case kD => decide +kernel); (case c2 => exact rfl); (case c3 => exact rfl); (case c4 => exact rfl); k_whole; intro g' L' h' tk' cells' FG' F' N' Y' B' X' T' l1; (try k_lt l1); k_cells Y'; (try simp only [List.cons_append, List.nil_append] at N'); (try dsimp only); (try k_fold))
  (with_reducible rename (AllLt _ (_ :: _)) => l1E)
  have hr1 := allLt_ne1 l1E.2.2.2.2
  have hr2 := allLt_ne2 l1E.2.2.2.2
  have hnd := IsDictOf_nodup hD
  (repeat' ((fail_if_success (with_reducible refine Stop.in ?_)); first | (k_unfold; (try dsimp only)) | (k_end; wrow_close) | ((with_reducible show wpAny _ _ (compareOp _ _ _) _ _ _); (first | with_reducible show wpAny _ _ (compareOp CmpOp.In (Value.int _ _) (Value.ref _)) _ _ _); refine Stop.out ?_) | ((with_reducible show wpAny _ _ (eval _ _) _ _ _); (first | with_reducible show wpAny _ _ (eval (Expr.ListComp _ _ _ _) _) _ _ _ | with_reducible show wpAny _ _ (eval (Expr.DictComp _ _ _ _ _) _) _ _ _); refine Stop.out ?_) | ((with_reducible show wpAny _ _ (exec _ _) _ _ _); (first | with_reducible show wpAny _ _ (exec (Stmt.Assign (_ :: _) (Expr.ListComp _ _ _ _) _) _) _ _ _); refine Stop.out ?_) | ((with_reducible show wpAny _ _ (pyIter _) _ _ _); (first | with_reducible show wpAny _ _ (pyIter (Value.ref _)) _ _ _); refine Stop.out ?_) |  walk1 | (dsimp only; walk1) | (leave1; walk_say "STEP leave1"; try dsimp only) | fail "no step"))
  refine Stop.in ?_
  k_dflt (refine dc_eval (knd := intKind PROG w) (_F := by k_asm) (by with_unfolding_all rfl) (by decide) (by rfl) (by decide) (by rfl) (Top.nolimit (by k_asm)) ?_)
  (repeat' ((fail_if_success (with_reducible refine Stop.in ?_)); first | (k_unfold; (try dsimp only)) | (k_end; wrow_close) | ((with_reducible show wpAny _ _ (compareOp _ _ _) _ _ _); (first | with_reducible show wpAny _ _ (compareOp CmpOp.In (Value.int _ _) (Value.ref _)) _ _ _); refine Stop.out ?_) | ((with_reducible show wpAny _ _ (eval _ _) _ _ _); (first | with_reducible show wpAny _ _ (eval (Expr.ListComp _ _ _ _) _) _ _ _ | with_reducible show wpAny _ _ (eval (Expr.DictComp _ _ _ _ _) _) _ _ _); refine Stop.out ?_) | ((with_reducible show wpAny _ _ (exec _ _) _ _ _); (first | with_reducible show wpAny _ _ (exec (Stmt.Assign (_ :: _) (Expr.ListComp _ _ _ _) _) _) _ _ _); refine Stop.out ?_) | ((with_reducible show wpAny _ _ (pyIter _) _ _ _); (first | with_reducible show wpAny _ _ (pyIter (Value.ref _)) _ _ _); refine Stop.out ?_) |  walk1 | (dsimp only; walk1) | (leave1; walk_say "STEP leave1"; try dsimp only) | fail "no step"))
  rename_i D2 v2 n2 c2 h2' tk2' F2' N2' i2 e2 p2 o2 l2
  have hl2 := i2.length
  refine DcAt.keep _ _ _ _ _ (JIV fun i cq => TurnJ c tb (n2.take i) cq) (Src.list D2 v2.toArray c2) (by with_unfolding_all rfl) (by k_asm) (by k_asm) trivial (by rw [sizeLine_eq, List.size_toArray]; omega) ?_ ⟨[], .nil, Nat.le_refl _, fun z v => by simp [at?_nil]⟩ ?_ ?_
  · intro p hp
    rw [List.mem_singleton.mp hp]
    k_mem
  · intro i u ys I oI C oC Dl oDl m₂ h tk E' hi hu hz; refine JIV.casesOn hz ?_; intro cq hq hql hcq; refine KIAt.casesOn (kiat (i := i) (v := u) i2 (by simpa using hu) hIV p2) ?_; intro k t x tx hk hx hx1; intro hoD hoC hmx F1 N1 off hIC hID hCD hyl
    refine wpAny_tests_one ?_
    (repeat' ((fail_if_success (with_reducible refine Stop.in ?_)); first | (k_unfold; (try dsimp only)) | (k_end; wrow_close) | ((with_reducible show wpAny _ _ (compareOp _ _ _) _ _ _); (first | with_reducible show wpAny _ _ (compareOp CmpOp.In (Value.int _ _) (Value.ref _)) _ _ _); refine Stop.out ?_) | ((with_reducible show wpAny _ _ (eval _ _) _ _ _); (first | with_reducible show wpAny _ _ (eval (Expr.ListComp _ _ _ _) _) _ _ _ | with_reducible show wpAny _ _ (eval (Expr.DictComp _ _ _ _ _) _) _ _ _); refine Stop.out ?_) | ((with_reducible show wpAny _ _ (exec _ _) _ _ _); (first | with_reducible show wpAny _ _ (exec (Stmt.Assign (_ :: _) (Expr.ListComp _ _ _ _) _) _) _ _ _); refine Stop.out ?_) | ((with_reducible show wpAny _ _ (pyIter _) _ _ _); (first | with_reducible show wpAny _ _ (pyIter (Value.ref _)) _ _ _); refine Stop.out ?_) |  walk1 | (dsimp only; walk1) | (leave1; walk_say "STEP leave1"; try dsimp only) | fail "no step"))
    refine Stop.in ?_
    k_dflt (refine' d_in2 ?N ?pm hT loT hIVT (fun tk9 hz => ?_) (fun tk9 z hz => ?_); (case N => k_asm); (case pm => k_mem))
    · (try dsimp only)
      (repeat' ((fail_if_success (with_reducible refine Stop.in ?_)); first | (k_unfold; (try dsimp only)) | (k_end; wrow_close) | ((with_reducible show wpAny _ _ (compareOp _ _ _) _ _ _); (first | with_reducible show wpAny _ _ (compareOp CmpOp.In (Value.int _ _) (Value.ref _)) _ _ _); refine Stop.out ?_) | ((with_reducible show wpAny _ _ (eval _ _) _ _ _); (first | with_reducible show wpAny _ _ (eval (Expr.ListComp _ _ _ _) _) _ _ _ | with_reducible show wpAny _ _ (eval (Expr.DictComp _ _ _ _ _) _) _ _ _); refine Stop.out ?_) | ((with_reducible show wpAny _ _ (exec _ _) _ _ _); (first | with_reducible show wpAny _ _ (exec (Stmt.Assign (_ :: _) (Expr.ListComp _ _ _ _) _) _) _ _ _); refine Stop.out ?_) | ((with_reducible show wpAny _ _ (pyIter _) _ _ _); (first | with_reducible show wpAny _ _ (pyIter (Value.ref _)) _ _ _); refine Stop.out ?_) |  walk1 | (dsimp only; walk1) | (leave1; walk_say "STEP leave1"; try dsimp only) | fail "no step"))
      exact PartEnd.intro _ (by k_asm) (by k_asm) (fun p hp => hp) off ⟨cq, hq, by omega, hcq.skip hk hz⟩
    · obtain ⟨tz, hz1⟩ := hIVT.valueAt_some hz
      (try dsimp only)
      (repeat' ((fail_if_success (with_reducible refine Stop.in ?_)); first | (k_unfold; (try dsimp only)) | (k_end; wrow_close) | ((with_reducible show wpAny _ _ (compareOp _ _ _) _ _ _); (first | with_reducible show wpAny _ _ (compareOp CmpOp.In (Value.int _ _) (Value.ref _)) _ _ _); refine Stop.out ?_) | ((with_reducible show wpAny _ _ (eval _ _) _ _ _); (first | with_reducible show wpAny _ _ (eval (Expr.ListComp _ _ _ _) _) _ _ _ | with_reducible show wpAny _ _ (eval (Expr.DictComp _ _ _ _ _) _) _ _ _); refine Stop.out ?_) | ((with_reducible show wpAny _ _ (exec _ _) _ _ _); (first | with_reducible show wpAny _ _ (exec (Stmt.Assign (_ :: _) (Expr.ListComp _ _ _ _) _) _) _ _ _); refine Stop.out ?_) | ((with_reducible show wpAny _ _ (pyIter _) _ _ _); (first | with_reducible show wpAny _ _ (pyIter (Value.ref _)) _ _ _); refine Stop.out ?_) |  walk1 | (dsimp only; walk1) | (leave1; walk_say "STEP leave1"; try dsimp only) | fail "no step"))
      · exact intKind_is _ _ _ _
      · exact PartEnd.intro _ (by k_asm) (by k_asm) (fun p hp => hp) off ⟨_, hq.stored _ _ _, Nat.le_trans (stored_length_le _ _ _) (by omega), hcq.put hinj hk hz hx⟩
  · intro h6 tk6 ys hz; refine JIV.casesOn hz ?_; intro cq hq hql hcq; intro Dq oDq h7 tk7 hDq F7 N7 hdq loq offq
    rw [List.size_toArray] at hql
    rw [List.size_toArray, List.take_of_length_le (by omega)] at hcq
    have hOk := hcq.all (hIV.keys ▸ p2)
    have lq := lts_of N2' hDq
    k_lt lq
    try dsimp only
    (repeat' ((fail_if_success (with_reducible refine Stop.in ?_)); first | (k_unfold; (try dsimp only)) | (k_end; wrow_close) | ((with_reducible show wpAny _ _ (compareOp _ _ _) _ _ _); (first | with_reducible show wpAny _ _ (compareOp CmpOp.In (Value.int _ _) (Value.ref _)) _ _ _); refine Stop.out ?_) | ((with_reducible show wpAny _ _ (eval _ _) _ _ _); (first | with_reducible show wpAny _ _ (eval (Expr.ListComp _ _ _ _) _) _ _ _ | with_reducible show wpAny _ _ (eval (Expr.DictComp _ _ _ _ _) _) _ _ _); refine Stop.out ?_) | ((with_reducible show wpAny _ _ (exec _ _) _ _ _); (first | with_reducible show wpAny _ _ (exec (Stmt.Assign (_ :: _) (Expr.ListComp _ _ _ _) _) _) _ _ _); refine Stop.out ?_) | ((with_reducible show wpAny _ _ (pyIter _) _ _ _); (first | with_reducible show wpAny _ _ (pyIter (Value.ref _)) _ _ _); refine Stop.out ?_) |  walk1 | (dsimp only; walk1) | (leave1; walk_say "STEP leave1"; try dsimp only) | fail "no step"))
    (with_reducible rename (News h₀ _ _ _) => NF)
    (with_reducible rename (Fr h₀ _ _ _) => FF)
    refine' hret _ _ _ _ _ _ _ _ _ FF (news_sub NF ?s) hdq loq hq ?z hOk
    case s => ((repeat (refine sub_cons (by k_mem) ?_)); (first | exact sub_nil | (repeat (first | with_reducible assumption | with_reducible exact sub_same | refine sub_tail ?_))))
    case z => omega
end Turned
theorem turned_u {w : World} {loose : List Str} {mean : ExcName → Option Value} {mg mb : Str → Option Value} {dp un : Nat} {gd : Option (List Code)} {cn : Str} {cs : Scope} {a : Addr} {ccd : Value} {cl : List (Str × Addr)} {outer : List Env} {A₀ : Around} {base h₀ : Heap} {L : Addr} {m : Str → Option Value} {s : Shared} {Q E : Value → Shared → Prop}
  {X D d T0 : Addr} {t1 : Tok} {od oT : Obj} {kvs kvT : List (Int × Value)} {c tb : List (Int × Int)} {news : List (Addr × Obj)}
  (B : Below A₀ base outer h₀) (F : Fr h₀ L s.heap m) (KX : (hd.heap_39 w.params).In h₀) (N : News h₀ L s.heap news) (T : Top hd.view_39 loose mean mg mb h₀) (hk : cs.kind = .function) (hdp : dp + 4 < recursionLimit) (hun : un + 40 < cLine)
  (m1 : (X, instObj 66 D) ∈ news) (m2 : (D, clsDict w t1 (.ref d)) ∈ news) (m3 : (d, od) ∈ news) (m4 : (T0, oT) ∈ news)
  (hD : od.IsDictOf (intKind PROG w) kvs) (lo : (d == sysModules) = false) (hT : oT.IsDictOf (intKind PROG w) kvT) (loT : (T0 == sysModules) = false) (hIV : IV kvs c) (hIVT : IV kvT tb) (hlen : kvs.length ≤ 12) (hinj : InjT tb)
  (ret : ∀ X' D' t1' d' od' kvs' c' h' tk', Fr h₀ L h' m → News h₀ L h' ((X', instObj 66 D') :: (D', clsDict w t1' (.ref d')) :: (d', od') :: news) →
    od'.IsDictOf (intKind PROG w) kvs' → (d' == sysModules) = false → IV kvs' c' → kvs'.length ≤ 12 → TurnOk c tb c' → Q (.ref X') { s with heap := h', toks := tk' }) :
  wpAny (model PROG w) (ktrTop dp un gd cn cs L a ccd cl outer) (call (.ref 75) [.ref X, .ref T0]) Q E s :=
  turned_c w rfl loose mean mg mb dp un gd cn cs a ccd cl outer A₀ base h₀ L m s Q E X D d T0 t1 od oT kvs kvT c tb news B F KX
    (news_sub N (sub_cons m1 (sub_cons m2 (sub_cons m3 (sub_cons m4 sub_same))))) T hk hdp hun hD lo hT loT hIV hIVT hlen hinj
    fun X' D' t1' d' od' kvs' c' h' tk' F' N' => ret X' D' t1' d' od' kvs' c' h' tk' F'
      (news_sub N' (sub_cons (.head _) (sub_cons (.tail _ (.head _)) (sub_cons (.tail _ (.tail _ (.head _))) fun p hp => .tail _ (.tail _ (.tail _ (.tail _ (.tail _ (.tail _ (.tail _ hp))))))))))
noncomputable def TblOk (tbl : List (Int × Int)) : Prop := ∀ p ∈ tbl, 0 ≤ p.1 ∧ p.1 < 12 ∧ p.2 = 100 + (7 * p.1) % 12
theorem TblOk.inj {tbl : List (Int × Int)} (h : TblOk tbl) : InjT tbl := fun k k' z h1 h2 => by
  have a := h _ (at?_mem h1)
  have b := h _ (at?_mem h2)
  dsimp only at a b
  omega
theorem TblOk.put {tbl : List (Int × Int)} (h : TblOk tbl) {k z : Int} (h0 : 0 ≤ k) (h1 : k < 12) (hz : z = 100 + (7 * k) % 12) : TblOk (putI tbl k z) := fun p hp => by
  rcases putI_mem hp with rfl | hp
  · exact ⟨h0, h1, hz⟩
  · exact h p hp
inductive JTab (w : World) (m₀ : Str → Option Value) (tb P C : Addr) (np : Nat) (front back : List (Addr × Obj)) (seat0 : Int) (i : Nat) : (Str → Option Value) → List (Addr × Obj) → Prop
  | mk (u : Option Value) (oT : Obj) (kvT : List (Int × Value)) (tbl : List (Int × Int)) (seat carry : Int) (ta tb' : Tok) (hd : oT.IsDictOf (intKind PROG w) kvT) (hv : IV kvT tbl) (hl : kvT.length ≤ i) (hok : TblOk tbl) (h1 : seat0 ≤ seat) (h2 : seat ≤ seat0 + i) (h3 : 0 ≤ carry) :
      JTab w m₀ tb P C np front back seat0 i (fun y => if y = Str.ofString "glyph" then u else m₀ y) ((tb, oT) :: (front ++ ((P, penObj C seat carry ta tb' np) :: back)))
theorem JTab.of {w : World} {m₀ m : Str → Option Value} {tb P C : Addr} {np : Nat} {front back nx : List (Addr × Obj)} {seat0 : Int} {i : Nat} {oT : Obj} {kvT : List (Int × Value)} {tbl : List (Int × Int)} {seat carry : Int} {ta tb' : Tok} (hm : ∃ u, m = fun y => if y = Str.ofString "glyph" then u else m₀ y) (hnx : nx = (tb, oT) :: (front ++ ((P, penObj C seat carry ta tb' np) :: back))) (hd : oT.IsDictOf (intKind PROG w) kvT) (hv : IV kvT tbl) (hl : kvT.length ≤ i) (hok : TblOk tbl) (h1 : seat0 ≤ seat) (h2 : seat ≤ seat0 + i) (h3 : 0 ≤ carry) :
    JTab w m₀ tb P C np front back seat0 i m nx := by
  obtain ⟨u, rfl⟩ := hm; subst hnx; exact ⟨u, oT, kvT, tbl, seat, carry, ta, tb', hd, hv, hl, hok, h1, h2, h3⟩
theorem news_front {h₀ h : Heap} {L : Addr} {l front tl : List (Addr × Obj)} (N : News h₀ L h l) (e : l = front ++ tl) : News h₀ L h front := fun p hp => N p (e ▸ List.mem_append_left _ hp)
theorem turnP_len (c tb : List (Int × Int)) : (encP (turnP c tb)).length ≤ c.length := by
  unfold encP turnP
  rw [List.length_map]
  exact List.length_filterMap_le _ _
theorem turnP_bound {c tb : List (Int × Int)} (h : ∀ q ∈ c, 0 ≤ q.2 ∧ q.2 < 65536) : ∀ q ∈ turnP c tb, 0 ≤ q.2 ∧ q.2 < 65536 := fun q hq => by
  obtain ⟨r, hr, _, e⟩ := turnP_mem.mp (show (q.1, q.2) ∈ turnP c tb from hq)
  rw [← e]; exact h r hr
theorem front_base {l r : List (Addr × Obj)} (h : l = r) : l = [] ++ r := h
inductive JRow (w : World) (m₀ : Str → Option Value) (dr P C : Addr) (np : Nat) (front back : List (Addr × Obj)) (seat0 : Int) (i : Nat) : (Str → Option Value) → List (Addr × Obj) → Prop
  | mk (u : Option Value) (oR : Obj) (kvsR : List (Int × Value)) (cR : List (Int × Int)) (seat carry : Int) (ta tb : Tok) (tl : List (Addr × Obj)) (hd : oR.IsDictOf (intKind PROG w) kvsR) (hv : DV (TV tl) kvsR cR) (hl : kvsR.length ≤ i) (hk : ∀ q ∈ cR, 0 ≤ q.1 ∧ q.1 < 65536)
      (htd : ∀ p ∈ tl, p.1 ≠ dr) (htP : ∀ p ∈ tl, p.1 ≠ P) (h1 : seat0 ≤ seat) (h2 : seat ≤ seat0 + 3 * i) (h3 : 0 ≤ carry) :
      JRow w m₀ dr P C np front back seat0 i (fun y => if y = Str.ofString "lap" then u else m₀ y) ((dr, oR) :: (front ++ ((P, penObj C seat carry ta tb np) :: (back ++ tl))))
theorem JRow.of {w : World} {m₀ m : Str → Option Value} {dr P C : Addr} {np : Nat} {front back nx : List (Addr × Obj)} {seat0 : Int} {i : Nat} {oR : Obj} {kvsR : List (Int × Value)} {cR : List (Int × Int)} {seat carry : Int} {ta tb : Tok} {tl : List (Addr × Obj)} (hm : ∃ u, m = fun y => if y = Str.ofString "lap" then u else m₀ y) (hnx : nx = (dr, oR) :: (front ++ ((P, penObj C seat carry ta tb np) :: (back ++ tl)))) (hd : oR.IsDictOf (intKind PROG w) kvsR) (hv : DV (TV tl) kvsR cR) (hl : kvsR.length ≤ i) (hk : ∀ q ∈ cR, 0 ≤ q.1 ∧ q.1 < 65536)
    (htd : ∀ p ∈ tl, p.1 ≠ dr) (htP : ∀ p ∈ tl, p.1 ≠ P) (h1 : seat0 ≤ seat) (h2 : seat ≤ seat0 + 3 * i) (h3 : 0 ≤ carry) :
    JRow w m₀ dr P C np front back seat0 i m nx := by
  obtain ⟨u, rfl⟩ := hm; subst hnx; exact ⟨u, oR, kvsR, cR, seat, carry, ta, tb, tl, hd, hv, hl, hk, htd, htP, h1, h2, h3⟩
theorem ne_ins {I T dr P : Addr} {front back tl : List (Addr × Obj)} {oR oR' op op' t : Obj} (h : ∀ p ∈ (dr, oR) :: (front ++ ((P, op) :: (back ++ tl))), p.1 ≠ I) (hT : @LT.lt Nat _ I T) :
    ∀ p ∈ (dr, oR') :: (front ++ ((P, op') :: (back ++ ((T, t) :: tl)))), p.1 ≠ I := fun p hp => by
  rcases List.mem_cons.mp hp with rfl | hp
  · exact h (dr, oR) (.head _)
  rcases List.mem_append.mp hp with hp | hp
  · exact h p (.tail _ (List.mem_append_left _ hp))
  rcases List.mem_cons.mp hp with rfl | hp
  · exact h (P, op) (.tail _ (List.mem_append_right _ (.head _)))
  rcases List.mem_append.mp hp with hp | hp
  · exact h p (.tail _ (List.mem_append_right _ (.tail _ (List.mem_append_left _ hp))))
  rcases List.mem_cons.mp hp with rfl | hp
  · exact Nat.ne_of_gt hT
  · exact h p (.tail _ (List.mem_append_right _ (.tail _ (List.mem_append_right _ hp))))
theorem keys_put {c : List (Int × Int)} (h : ∀ q ∈ c, 0 ≤ q.1 ∧ q.1 < 65536) {k v : Int} (h0 : 0 ≤ k) (h1 : k < 65536) : ∀ q ∈ putI c k v, 0 ≤ q.1 ∧ q.1 < 65536 := fun q hq => by
  rcases putI_mem hq with rfl | hq
  · exact ⟨h0, h1⟩
  · exact h q hq

section Law

local macro_rules | `(tactic| ktr_enter) => `(tactic| (refine' code_defC ?k1 ?k2 ?k3 ?k4 ?k5 ?kA ?kF ?kK ?k6 ?k7 ?k8 ?k9 ?kB ?kD ?_ ?c2 ?c3 ?c4; (case kA => exact rfl); (case kF => exact rfl); (case kK => assumption); (case k1 => k_asm); (case k2 => k_asm); (case k3 => k_asm); (case k4 => k_asm); (case k5 => k_asm); (case k6 => k_is); (case k7 => k_is); (case k8 => ktr_room); (case k9 => exact BindsTo.of_eq rfl); (case kB => exact rfl); (case kD => decide +kernel); (case c2 => exact rfl); (case c3 => exact rfl); (case c4 => exact rfl); k_whole; intro g' L' h' tk' cells' FG' F' N' Y' B' X' T' l1; (try k_lt l1); k_cells Y'; (try simp only [List.cons_append, List.nil_append] at N'); (try dsimp only); (try k_fold)))

local macro_rules | `(tactic| walk_at "call ref") => `(tactic| (k_here; (with_reducible show wpAny _ _ (call (Value.ref 101) [Value.ref _, Value.int _ _]) _ _ _); k_dflt (refine' draw_u ?B ?F ?K ?N ?T ?k ?d ?u ?U ?C ?i ?l ?ne ?s0 ?s1 ?c0 ?m0 ?m1 ?_; (case B => k_asm); (case F => k_asm); (case K => k_asm); (case N => k_asm); (case T => k_asm); (case k => exact rfl); (case d => k_room); (case u => k_units); (case U => k_updF); (case C => k_mem); (case i => assumption); (case l => first | decide | omega); (case ne => assumption); (case s0 => first | decide | omega); (case s1 => first | decide | omega); (case c0 => first | decide | omega); (case m0 => first | decide | omega); (case m1 => first | decide | omega)); intro r' seat' carry' t' t1' t2' h' tk' F' N' _ _ _ _ _; (try dsimp only at N')))


set_option maxRecDepth 100000 in
set_option maxHeartbeats 0 in
theorem law_holds : PySem.Challenge.rw_nu0148_01.Holds := hd (by
  w_top off
  k_go0
  (all_goals try k_fold)
  (repeat' ((fail_if_success (with_reducible refine Stop.in ?_)); first | (k_unfold; (try dsimp only)) | (k_end; wrow_close) | ((with_reducible show wpAny _ _ (call _ _ _) _ _ _); (first | with_reducible show wpAny _ _ (call (Value.ref 108) [Value.ref _]) _ _ _ | with_reducible show wpAny _ _ (call (Value.ref 113) [Value.ref _, Value.ref _]) _ _ _ | with_reducible show wpAny _ _ (call (Value.ref 75) [Value.ref _, Value.ref _]) _ _ _ | with_reducible show wpAny _ _ (call (Value.ref 118) [Value.ref _, Value.ref _]) _ _ _ | with_reducible show wpAny _ _ (call (Value.ref 123) [Value.ref _, Value.ref _, Value.ref _, Value.ref _]) _ _ _ | with_reducible show wpAny _ _ (call (Value.type "dict") _ _) _ _ _ | with_reducible show wpAny _ _ (call (Value.type "dict") (_ :: _) []) _ _ _); refine Stop.out ?_) | ((with_reducible show wpAny _ _ (compareOp _ _ _) _ _ _); (first | with_reducible show wpAny _ _ (compareOp CmpOp.NotEq (Value.ref _) (Value.ref _)) _ _ _ | with_reducible show wpAny _ _ (compareOp CmpOp.Eq (Value.ref _) (Value.ref _)) _ _ _ | with_reducible show wpAny _ _ (compareOp CmpOp.In (Value.int _ _) (Value.ref _)) _ _ _); refine Stop.out ?_) | ((with_reducible show wpAny _ _ (eval _ _) _ _ _); (first | with_reducible show wpAny _ _ (eval (Expr.Dict [] [] _) _) _ _ _ | with_reducible show wpAny _ _ (eval (Expr.ListComp _ _ _ _) _) _ _ _ | with_reducible show wpAny _ _ (eval (Expr.DictComp _ _ _ _ _) _) _ _ _); refine Stop.out ?_) | ((with_reducible show wpAny _ _ (exec _ _) _ _ _); (first | with_reducible show wpAny _ _ (exec (Stmt.Assign (_ :: _) (Expr.ListComp _ _ _ _) _) _) _ _ _); refine Stop.out ?_) | ((with_reducible show wpAny _ _ (pyIter _) _ _ _); (first | with_reducible show wpAny _ _ (pyIter (Value.ref _)) _ _ _); refine Stop.out ?_) |  walk1 | (dsimp only; walk1) | (leave1; walk_say "STEP leave1"; try dsimp only) | fail "no step"))
  refine Stop.in ?_
  k_dflt (refine lc_eval (_F := by k_asm) (by with_unfolding_all rfl) (by decide) (by rfl) (by decide) (by rfl) ?_)
  (repeat' ((fail_if_success (with_reducible refine Stop.in ?_)); first | (k_unfold; (try dsimp only)) | (k_end; wrow_close) | ((with_reducible show wpAny _ _ (call _ _ _) _ _ _); (first | with_reducible show wpAny _ _ (call (Value.ref 108) [Value.ref _]) _ _ _ | with_reducible show wpAny _ _ (call (Value.ref 113) [Value.ref _, Value.ref _]) _ _ _ | with_reducible show wpAny _ _ (call (Value.ref 75) [Value.ref _, Value.ref _]) _ _ _ | with_reducible show wpAny _ _ (call (Value.ref 118) [Value.ref _, Value.ref _]) _ _ _ | with_reducible show wpAny _ _ (call (Value.ref 123) [Value.ref _, Value.ref _, Value.ref _, Value.ref _]) _ _ _ | with_reducible show wpAny _ _ (call (Value.type "dict") _ _) _ _ _ | with_reducible show wpAny _ _ (call (Value.type "dict") (_ :: _) []) _ _ _); refine Stop.out ?_) | ((with_reducible show wpAny _ _ (compareOp _ _ _) _ _ _); (first | with_reducible show wpAny _ _ (compareOp CmpOp.NotEq (Value.ref _) (Value.ref _)) _ _ _ | with_reducible show wpAny _ _ (compareOp CmpOp.Eq (Value.ref _) (Value.ref _)) _ _ _ | with_reducible show wpAny _ _ (compareOp CmpOp.In (Value.int _ _) (Value.ref _)) _ _ _); refine Stop.out ?_) | ((with_reducible show wpAny _ _ (eval _ _) _ _ _); (first | with_reducible show wpAny _ _ (eval (Expr.Dict [] [] _) _) _ _ _ | with_reducible show wpAny _ _ (eval (Expr.ListComp _ _ _ _) _) _ _ _ | with_reducible show wpAny _ _ (eval (Expr.DictComp _ _ _ _ _) _) _ _ _); refine Stop.out ?_) | ((with_reducible show wpAny _ _ (exec _ _) _ _ _); (first | with_reducible show wpAny _ _ (exec (Stmt.Assign (_ :: _) (Expr.ListComp _ _ _ _) _) _) _ _ _); refine Stop.out ?_) | ((with_reducible show wpAny _ _ (pyIter _) _ _ _); (first | with_reducible show wpAny _ _ (pyIter (Value.ref _)) _ _ _); refine Stop.out ?_) |  walk1 | (dsimp only; walk1) | (leave1; walk_say "STEP leave1"; try dsimp only) | fail "no step"))
  rename_i D4 ws4 h4 F4 N4 hI4 hC4 hL4 l4
  (with_reducible rename (List Int) => sns)
  have h40 : (List.take 40 sns).length ≤ 40 := by rw [hC4]; exact Nat.min_le_left _ _
  have hwl := hI4.length
  refine LcAt.keep0 ws4.toArray.size _ _ _ _ (fun i ys => IntsAre ys ((List.take 40 sns).take i)) (Src.list D4 ws4.toArray 0) (by with_unfolding_all rfl) (by k_asm) (by k_asm) trivial (by rw [sizeLine_eq, List.size_toArray]; omega) ?_ .nil ?_ ?_
  · intro p hp
    rw [List.mem_singleton.mp hp]
    k_mem
  · intro i u ys I oI C oC Dl m₂ h tk E' hi hu hys; refine IAt.casesOn (iat (i := i) (v := u) hI4 (by simpa using hu)) ?_; intro k t hk; intro hoC hmx F1 N1 off hIC hID hCD hyl
    
    (repeat' ((fail_if_success (with_reducible refine Stop.in ?_)); first | (k_unfold; (try dsimp only)) | (k_end; wrow_close) | ((with_reducible show wpAny _ _ (call _ _ _) _ _ _); (first | with_reducible show wpAny _ _ (call (Value.ref 108) [Value.ref _]) _ _ _ | with_reducible show wpAny _ _ (call (Value.ref 113) [Value.ref _, Value.ref _]) _ _ _ | with_reducible show wpAny _ _ (call (Value.ref 75) [Value.ref _, Value.ref _]) _ _ _ | with_reducible show wpAny _ _ (call (Value.ref 118) [Value.ref _, Value.ref _]) _ _ _ | with_reducible show wpAny _ _ (call (Value.ref 123) [Value.ref _, Value.ref _, Value.ref _, Value.ref _]) _ _ _ | with_reducible show wpAny _ _ (call (Value.type "dict") _ _) _ _ _ | with_reducible show wpAny _ _ (call (Value.type "dict") (_ :: _) []) _ _ _); refine Stop.out ?_) | ((with_reducible show wpAny _ _ (compareOp _ _ _) _ _ _); (first | with_reducible show wpAny _ _ (compareOp CmpOp.NotEq (Value.ref _) (Value.ref _)) _ _ _ | with_reducible show wpAny _ _ (compareOp CmpOp.Eq (Value.ref _) (Value.ref _)) _ _ _ | with_reducible show wpAny _ _ (compareOp CmpOp.In (Value.int _ _) (Value.ref _)) _ _ _); refine Stop.out ?_) | ((with_reducible show wpAny _ _ (eval _ _) _ _ _); (first | with_reducible show wpAny _ _ (eval (Expr.Dict [] [] _) _) _ _ _ | with_reducible show wpAny _ _ (eval (Expr.ListComp _ _ _ _) _) _ _ _ | with_reducible show wpAny _ _ (eval (Expr.DictComp _ _ _ _ _) _) _ _ _); refine Stop.out ?_) | ((with_reducible show wpAny _ _ (exec _ _) _ _ _); (first | with_reducible show wpAny _ _ (exec (Stmt.Assign (_ :: _) (Expr.ListComp _ _ _ _) _) _) _ _ _); refine Stop.out ?_) | ((with_reducible show wpAny _ _ (pyIter _) _ _ _); (first | with_reducible show wpAny _ _ (pyIter (Value.ref _)) _ _ _); refine Stop.out ?_) |  walk1 | (dsimp only; walk1) | (leave1; walk_say "STEP leave1"; try dsimp only) | fail "no step"))
    exact PartEnd.intro _ (by k_asm) (by k_asm) (fun p hp => hp) off ⟨by rw [List.take_add_one, hk]; exact ints_snoc hys _ _⟩
    
  intro h5 tk5 ys hys; intro C h6 tk6 hC F6 N6 off6
  rw [List.size_toArray, List.take_of_length_le (by omega)] at hys
  replace N6 : News _ _ h6 ((C, PySem.W.listOf ys.toArray ys.length) :: _) := N6
  have lC := lts_of (by assumption) hC
  k_lt lC
  try dsimp only
  (repeat' ((fail_if_success (with_reducible refine Stop.in ?_)); first | (k_unfold; (try dsimp only)) | (k_end; wrow_close) | ((with_reducible show wpAny _ _ (call _ _ _) _ _ _); (first | with_reducible show wpAny _ _ (call (Value.ref 108) [Value.ref _]) _ _ _ | with_reducible show wpAny _ _ (call (Value.ref 113) [Value.ref _, Value.ref _]) _ _ _ | with_reducible show wpAny _ _ (call (Value.ref 75) [Value.ref _, Value.ref _]) _ _ _ | with_reducible show wpAny _ _ (call (Value.ref 118) [Value.ref _, Value.ref _]) _ _ _ | with_reducible show wpAny _ _ (call (Value.ref 123) [Value.ref _, Value.ref _, Value.ref _, Value.ref _]) _ _ _ | with_reducible show wpAny _ _ (call (Value.type "dict") _ _) _ _ _ | with_reducible show wpAny _ _ (call (Value.type "dict") (_ :: _) []) _ _ _); refine Stop.out ?_) | ((with_reducible show wpAny _ _ (compareOp _ _ _) _ _ _); (first | with_reducible show wpAny _ _ (compareOp CmpOp.NotEq (Value.ref _) (Value.ref _)) _ _ _ | with_reducible show wpAny _ _ (compareOp CmpOp.Eq (Value.ref _) (Value.ref _)) _ _ _ | with_reducible show wpAny _ _ (compareOp CmpOp.In (Value.int _ _) (Value.ref _)) _ _ _); refine Stop.out ?_) | ((with_reducible show wpAny _ _ (eval _ _) _ _ _); (first | with_reducible show wpAny _ _ (eval (Expr.Dict [] [] _) _) _ _ _ | with_reducible show wpAny _ _ (eval (Expr.ListComp _ _ _ _) _) _ _ _ | with_reducible show wpAny _ _ (eval (Expr.DictComp _ _ _ _ _) _) _ _ _); refine Stop.out ?_) | ((with_reducible show wpAny _ _ (exec _ _) _ _ _); (first | with_reducible show wpAny _ _ (exec (Stmt.Assign (_ :: _) (Expr.ListComp _ _ _ _) _) _) _ _ _); refine Stop.out ?_) | ((with_reducible show wpAny _ _ (pyIter _) _ _ _); (first | with_reducible show wpAny _ _ (pyIter (Value.ref _)) _ _ _); refine Stop.out ?_) |  walk1 | (dsimp only; walk1) | (leave1; walk_say "STEP leave1"; try dsimp only) | fail "no step"))
  rename_i P h7 lP h8 F8 N8
  have hCP : C ≠ P := by k_ne
  refine Stop.in ?_
  k_dflt (refine' classes_u ?zB ?zF ?zK ?zN ?zT ?zk ?zd ?zu ?zU ?zC hys h40 ?zCP ?zs0 ?zs1 ?zc0 ?_; (case zB => k_asm); (case zF => k_asm); (case zK => k_asm); (case zN => k_asm); (case zT => k_asm); (case zk => exact rfl); (case zd => k_room); (case zu => k_units); (case zU => k_updF); (case zC => k_mem); (case zCP => k_ne); (case zs0 => decide); (case zs1 => decide); (case zc0 => decide))
  intro d1 od1 kvs1 c1 seat1 carry1 ta1 tb1 h9 tk9 F9 N9 ld1 hd1 lo1 hv1 hl1 hok1 hs1 hs1' hc1
  k_lt ld1
  try dsimp only at N9
  try dsimp only
  (repeat' ((fail_if_success (with_reducible refine Stop.in ?_)); first | (k_unfold; (try dsimp only)) | (k_end; wrow_close) | ((with_reducible show wpAny _ _ (call _ _ _) _ _ _); (first | with_reducible show wpAny _ _ (call (Value.ref 108) [Value.ref _]) _ _ _ | with_reducible show wpAny _ _ (call (Value.ref 113) [Value.ref _, Value.ref _]) _ _ _ | with_reducible show wpAny _ _ (call (Value.ref 75) [Value.ref _, Value.ref _]) _ _ _ | with_reducible show wpAny _ _ (call (Value.ref 118) [Value.ref _, Value.ref _]) _ _ _ | with_reducible show wpAny _ _ (call (Value.ref 123) [Value.ref _, Value.ref _, Value.ref _, Value.ref _]) _ _ _ | with_reducible show wpAny _ _ (call (Value.type "dict") _ _) _ _ _ | with_reducible show wpAny _ _ (call (Value.type "dict") (_ :: _) []) _ _ _); refine Stop.out ?_) | ((with_reducible show wpAny _ _ (compareOp _ _ _) _ _ _); (first | with_reducible show wpAny _ _ (compareOp CmpOp.NotEq (Value.ref _) (Value.ref _)) _ _ _ | with_reducible show wpAny _ _ (compareOp CmpOp.Eq (Value.ref _) (Value.ref _)) _ _ _ | with_reducible show wpAny _ _ (compareOp CmpOp.In (Value.int _ _) (Value.ref _)) _ _ _); refine Stop.out ?_) | ((with_reducible show wpAny _ _ (eval _ _) _ _ _); (first | with_reducible show wpAny _ _ (eval (Expr.Dict [] [] _) _) _ _ _ | with_reducible show wpAny _ _ (eval (Expr.ListComp _ _ _ _) _) _ _ _ | with_reducible show wpAny _ _ (eval (Expr.DictComp _ _ _ _ _) _) _ _ _); refine Stop.out ?_) | ((with_reducible show wpAny _ _ (exec _ _) _ _ _); (first | with_reducible show wpAny _ _ (exec (Stmt.Assign (_ :: _) (Expr.ListComp _ _ _ _) _) _) _ _ _); refine Stop.out ?_) | ((with_reducible show wpAny _ _ (pyIter _) _ _ _); (first | with_reducible show wpAny _ _ (pyIter (Value.ref _)) _ _ _); refine Stop.out ?_) |  walk1 | (dsimp only; walk1) | (leave1; walk_say "STEP leave1"; try dsimp only) | fail "no step"))
  refine Stop.in ?_
  k_dflt (refine' classes_u ?zB ?zF ?zK ?zN ?zT ?zk ?zd ?zu ?zU ?zC hys h40 ?zCP ?zs0 ?zs1 ?zc0 ?_; (case zB => k_asm); (case zF => k_asm); (case zK => k_asm); (case zN => k_asm); (case zT => k_asm); (case zk => exact rfl); (case zd => k_room); (case zu => k_units); (case zU => k_updF); (case zC => k_mem); (case zCP => k_ne); (case zs0 => first | decide | omega); (case zs1 => first | decide | omega); (case zc0 => first | decide | omega))
  intro d2 od2 kvs2 c2 seat2 carry2 ta2 tb2 h10 tk10 F10 N10 ld2 hd2 lo2 hv2 hl2 hok2 hs2 hs2' hc2
  k_lt ld2
  try dsimp only at N10
  try dsimp only
  (repeat' ((fail_if_success (with_reducible refine Stop.in ?_)); first | (k_unfold; (try dsimp only)) | (k_end; wrow_close) | ((with_reducible show wpAny _ _ (call _ _ _) _ _ _); (first | with_reducible show wpAny _ _ (call (Value.ref 108) [Value.ref _]) _ _ _ | with_reducible show wpAny _ _ (call (Value.ref 113) [Value.ref _, Value.ref _]) _ _ _ | with_reducible show wpAny _ _ (call (Value.ref 75) [Value.ref _, Value.ref _]) _ _ _ | with_reducible show wpAny _ _ (call (Value.ref 118) [Value.ref _, Value.ref _]) _ _ _ | with_reducible show wpAny _ _ (call (Value.ref 123) [Value.ref _, Value.ref _, Value.ref _, Value.ref _]) _ _ _ | with_reducible show wpAny _ _ (call (Value.type "dict") _ _) _ _ _ | with_reducible show wpAny _ _ (call (Value.type "dict") (_ :: _) []) _ _ _); refine Stop.out ?_) | ((with_reducible show wpAny _ _ (compareOp _ _ _) _ _ _); (first | with_reducible show wpAny _ _ (compareOp CmpOp.NotEq (Value.ref _) (Value.ref _)) _ _ _ | with_reducible show wpAny _ _ (compareOp CmpOp.Eq (Value.ref _) (Value.ref _)) _ _ _ | with_reducible show wpAny _ _ (compareOp CmpOp.In (Value.int _ _) (Value.ref _)) _ _ _); refine Stop.out ?_) | ((with_reducible show wpAny _ _ (eval _ _) _ _ _); (first | with_reducible show wpAny _ _ (eval (Expr.Dict [] [] _) _) _ _ _ | with_reducible show wpAny _ _ (eval (Expr.ListComp _ _ _ _) _) _ _ _ | with_reducible show wpAny _ _ (eval (Expr.DictComp _ _ _ _ _) _) _ _ _); refine Stop.out ?_) | ((with_reducible show wpAny _ _ (exec _ _) _ _ _); (first | with_reducible show wpAny _ _ (exec (Stmt.Assign (_ :: _) (Expr.ListComp _ _ _ _) _) _) _ _ _); refine Stop.out ?_) | ((with_reducible show wpAny _ _ (pyIter _) _ _ _); (first | with_reducible show wpAny _ _ (pyIter (Value.ref _)) _ _ _); refine Stop.out ?_) |  walk1 | (dsimp only; walk1) | (leave1; walk_say "STEP leave1"; try dsimp only) | fail "no step"))
  refine Stop.in ?_
  k_dflt (refine' d_copy ?zF ?zN ?zp hd1 lo1 ?zb (by omega) ?_; (case zF => k_asm); (case zN => k_asm); (case zp => k_mem); (case zb => exact modules_low (Top.nolimit (by k_asm))))
  intro e1 oe1 h11 F11 N11 le1 he1 loe1
  k_lt le1
  try dsimp only
  (repeat' ((fail_if_success (with_reducible refine Stop.in ?_)); first | (k_unfold; (try dsimp only)) | (k_end; wrow_close) | ((with_reducible show wpAny _ _ (call _ _ _) _ _ _); (first | with_reducible show wpAny _ _ (call (Value.ref 108) [Value.ref _]) _ _ _ | with_reducible show wpAny _ _ (call (Value.ref 113) [Value.ref _, Value.ref _]) _ _ _ | with_reducible show wpAny _ _ (call (Value.ref 75) [Value.ref _, Value.ref _]) _ _ _ | with_reducible show wpAny _ _ (call (Value.ref 118) [Value.ref _, Value.ref _]) _ _ _ | with_reducible show wpAny _ _ (call (Value.ref 123) [Value.ref _, Value.ref _, Value.ref _, Value.ref _]) _ _ _ | with_reducible show wpAny _ _ (call (Value.type "dict") _ _) _ _ _ | with_reducible show wpAny _ _ (call (Value.type "dict") (_ :: _) []) _ _ _); refine Stop.out ?_) | ((with_reducible show wpAny _ _ (compareOp _ _ _) _ _ _); (first | with_reducible show wpAny _ _ (compareOp CmpOp.NotEq (Value.ref _) (Value.ref _)) _ _ _ | with_reducible show wpAny _ _ (compareOp CmpOp.Eq (Value.ref _) (Value.ref _)) _ _ _ | with_reducible show wpAny _ _ (compareOp CmpOp.In (Value.int _ _) (Value.ref _)) _ _ _); refine Stop.out ?_) | ((with_reducible show wpAny _ _ (eval _ _) _ _ _); (first | with_reducible show wpAny _ _ (eval (Expr.Dict [] [] _) _) _ _ _ | with_reducible show wpAny _ _ (eval (Expr.ListComp _ _ _ _) _) _ _ _ | with_reducible show wpAny _ _ (eval (Expr.DictComp _ _ _ _ _) _) _ _ _); refine Stop.out ?_) | ((with_reducible show wpAny _ _ (exec _ _) _ _ _); (first | with_reducible show wpAny _ _ (exec (Stmt.Assign (_ :: _) (Expr.ListComp _ _ _ _) _) _) _ _ _); refine Stop.out ?_) | ((with_reducible show wpAny _ _ (pyIter _) _ _ _); (first | with_reducible show wpAny _ _ (pyIter (Value.ref _)) _ _ _); refine Stop.out ?_) |  walk1 | (dsimp only; walk1) | (leave1; walk_say "STEP leave1"; try dsimp only) | fail "no step"))
  refine Stop.in ?_
  k_dflt (refine' d_copy ?zF ?zN ?zp hd2 lo2 ?zb (by omega) ?_; (case zF => k_asm); (case zN => k_asm); (case zp => k_mem); (case zb => exact modules_low (Top.nolimit (by k_asm))))
  intro e2 oe2 h12 F12 N12 le2 he2 loe2
  k_lt le2
  try dsimp only
  (repeat' ((fail_if_success (with_reducible refine Stop.in ?_)); first | (k_unfold; (try dsimp only)) | (k_end; wrow_close) | ((with_reducible show wpAny _ _ (call _ _ _) _ _ _); (first | with_reducible show wpAny _ _ (call (Value.ref 108) [Value.ref _]) _ _ _ | with_reducible show wpAny _ _ (call (Value.ref 113) [Value.ref _, Value.ref _]) _ _ _ | with_reducible show wpAny _ _ (call (Value.ref 75) [Value.ref _, Value.ref _]) _ _ _ | with_reducible show wpAny _ _ (call (Value.ref 118) [Value.ref _, Value.ref _]) _ _ _ | with_reducible show wpAny _ _ (call (Value.ref 123) [Value.ref _, Value.ref _, Value.ref _, Value.ref _]) _ _ _ | with_reducible show wpAny _ _ (call (Value.type "dict") _ _) _ _ _ | with_reducible show wpAny _ _ (call (Value.type "dict") (_ :: _) []) _ _ _); refine Stop.out ?_) | ((with_reducible show wpAny _ _ (compareOp _ _ _) _ _ _); (first | with_reducible show wpAny _ _ (compareOp CmpOp.NotEq (Value.ref _) (Value.ref _)) _ _ _ | with_reducible show wpAny _ _ (compareOp CmpOp.Eq (Value.ref _) (Value.ref _)) _ _ _ | with_reducible show wpAny _ _ (compareOp CmpOp.In (Value.int _ _) (Value.ref _)) _ _ _); refine Stop.out ?_) | ((with_reducible show wpAny _ _ (eval _ _) _ _ _); (first | with_reducible show wpAny _ _ (eval (Expr.Dict [] [] _) _) _ _ _ | with_reducible show wpAny _ _ (eval (Expr.ListComp _ _ _ _) _) _ _ _ | with_reducible show wpAny _ _ (eval (Expr.DictComp _ _ _ _ _) _) _ _ _); refine Stop.out ?_) | ((with_reducible show wpAny _ _ (exec _ _) _ _ _); (first | with_reducible show wpAny _ _ (exec (Stmt.Assign (_ :: _) (Expr.ListComp _ _ _ _) _) _) _ _ _); refine Stop.out ?_) | ((with_reducible show wpAny _ _ (pyIter _) _ _ _); (first | with_reducible show wpAny _ _ (pyIter (Value.ref _)) _ _ _); refine Stop.out ?_) |  walk1 | (dsimp only; walk1) | (leave1; walk_say "STEP leave1"; try dsimp only) | fail "no step"))
  refine Stop.in ?_
  k_dflt (refine' packhold_u ?zB ?zF ?zK ?zN ?zT ?zk ?zd ?zu ?z1 ?z2 ?z3 ?z4 he1 loe1 hd1 lo1 hv1 (by omega) hok1 ?_; (case zB => k_asm); (case zF => k_asm); (case zK => k_asm); (case zN => k_asm); (case zT => k_asm); (case zk => exact rfl); (case zd => k_room); (case zu => k_units); (case z1 => k_mem); (case z2 => k_mem); (case z3 => k_mem); (case z4 => k_mem))
  intro h13 tk13 F13 N13
  try dsimp only
  (repeat' ((fail_if_success (with_reducible refine Stop.in ?_)); first | (k_unfold; (try dsimp only)) | (k_end; wrow_close) | ((with_reducible show wpAny _ _ (call _ _ _) _ _ _); (first | with_reducible show wpAny _ _ (call (Value.ref 108) [Value.ref _]) _ _ _ | with_reducible show wpAny _ _ (call (Value.ref 113) [Value.ref _, Value.ref _]) _ _ _ | with_reducible show wpAny _ _ (call (Value.ref 75) [Value.ref _, Value.ref _]) _ _ _ | with_reducible show wpAny _ _ (call (Value.ref 118) [Value.ref _, Value.ref _]) _ _ _ | with_reducible show wpAny _ _ (call (Value.ref 123) [Value.ref _, Value.ref _, Value.ref _, Value.ref _]) _ _ _ | with_reducible show wpAny _ _ (call (Value.type "dict") _ _) _ _ _ | with_reducible show wpAny _ _ (call (Value.type "dict") (_ :: _) []) _ _ _); refine Stop.out ?_) | ((with_reducible show wpAny _ _ (compareOp _ _ _) _ _ _); (first | with_reducible show wpAny _ _ (compareOp CmpOp.NotEq (Value.ref _) (Value.ref _)) _ _ _ | with_reducible show wpAny _ _ (compareOp CmpOp.Eq (Value.ref _) (Value.ref _)) _ _ _ | with_reducible show wpAny _ _ (compareOp CmpOp.In (Value.int _ _) (Value.ref _)) _ _ _); refine Stop.out ?_) | ((with_reducible show wpAny _ _ (eval _ _) _ _ _); (first | with_reducible show wpAny _ _ (eval (Expr.Dict [] [] _) _) _ _ _ | with_reducible show wpAny _ _ (eval (Expr.ListComp _ _ _ _) _) _ _ _ | with_reducible show wpAny _ _ (eval (Expr.DictComp _ _ _ _ _) _) _ _ _); refine Stop.out ?_) | ((with_reducible show wpAny _ _ (exec _ _) _ _ _); (first | with_reducible show wpAny _ _ (exec (Stmt.Assign (_ :: _) (Expr.ListComp _ _ _ _) _) _) _ _ _); refine Stop.out ?_) | ((with_reducible show wpAny _ _ (pyIter _) _ _ _); (first | with_reducible show wpAny _ _ (pyIter (Value.ref _)) _ _ _); refine Stop.out ?_) |  walk1 | (dsimp only; walk1) | (leave1; walk_say "STEP leave1"; try dsimp only) | fail "no step"))
  refine Stop.in ?_
  k_dflt (refine' packhold_u ?zB ?zF ?zK ?zN ?zT ?zk ?zd ?zu ?z1 ?z2 ?z3 ?z4 he2 loe2 hd2 lo2 hv2 (by omega) hok2 ?_; (case zB => k_asm); (case zF => k_asm); (case zK => k_asm); (case zN => k_asm); (case zT => k_asm); (case zk => exact rfl); (case zd => k_room); (case zu => k_units); (case z1 => k_mem); (case z2 => k_mem); (case z3 => k_mem); (case z4 => k_mem))
  intro h14 tk14 F14 N14
  try dsimp only
  (repeat' ((fail_if_success (with_reducible refine Stop.in ?_)); first | (k_unfold; (try dsimp only)) | (k_end; wrow_close) | ((with_reducible show wpAny _ _ (call _ _ _) _ _ _); (first | with_reducible show wpAny _ _ (call (Value.ref 108) [Value.ref _]) _ _ _ | with_reducible show wpAny _ _ (call (Value.ref 113) [Value.ref _, Value.ref _]) _ _ _ | with_reducible show wpAny _ _ (call (Value.ref 75) [Value.ref _, Value.ref _]) _ _ _ | with_reducible show wpAny _ _ (call (Value.ref 118) [Value.ref _, Value.ref _]) _ _ _ | with_reducible show wpAny _ _ (call (Value.ref 123) [Value.ref _, Value.ref _, Value.ref _, Value.ref _]) _ _ _ | with_reducible show wpAny _ _ (call (Value.type "dict") _ _) _ _ _ | with_reducible show wpAny _ _ (call (Value.type "dict") (_ :: _) []) _ _ _); refine Stop.out ?_) | ((with_reducible show wpAny _ _ (compareOp _ _ _) _ _ _); (first | with_reducible show wpAny _ _ (compareOp CmpOp.NotEq (Value.ref _) (Value.ref _)) _ _ _ | with_reducible show wpAny _ _ (compareOp CmpOp.Eq (Value.ref _) (Value.ref _)) _ _ _ | with_reducible show wpAny _ _ (compareOp CmpOp.In (Value.int _ _) (Value.ref _)) _ _ _); refine Stop.out ?_) | ((with_reducible show wpAny _ _ (eval _ _) _ _ _); (first | with_reducible show wpAny _ _ (eval (Expr.Dict [] [] _) _) _ _ _ | with_reducible show wpAny _ _ (eval (Expr.ListComp _ _ _ _) _) _ _ _ | with_reducible show wpAny _ _ (eval (Expr.DictComp _ _ _ _ _) _) _ _ _); refine Stop.out ?_) | ((with_reducible show wpAny _ _ (exec _ _) _ _ _); (first | with_reducible show wpAny _ _ (exec (Stmt.Assign (_ :: _) (Expr.ListComp _ _ _ _) _) _) _ _ _); refine Stop.out ?_) | ((with_reducible show wpAny _ _ (pyIter _) _ _ _); (first | with_reducible show wpAny _ _ (pyIter (Value.ref _)) _ _ _); refine Stop.out ?_) |  walk1 | (dsimp only; walk1) | (leave1; walk_say "STEP leave1"; try dsimp only) | fail "no step"))
  refine Stop.in ?_
  k_dflt (refine' Dict_nil ?zF ?zN ?zb ?_; (case zF => k_asm); (case zN => k_asm); (case zb => exact modules_low (Top.nolimit (by k_asm))))
  intro T0 oT0 h15 F15 N15 lT0 hT0 loT0
  k_lt lT0
  (repeat' ((fail_if_success (with_reducible refine Stop.in ?_)); first | (k_unfold; (try dsimp only)) | (k_end; wrow_close) | ((with_reducible show wpAny _ _ (call _ _ _) _ _ _); (first | with_reducible show wpAny _ _ (call (Value.ref 108) [Value.ref _]) _ _ _ | with_reducible show wpAny _ _ (call (Value.ref 113) [Value.ref _, Value.ref _]) _ _ _ | with_reducible show wpAny _ _ (call (Value.ref 75) [Value.ref _, Value.ref _]) _ _ _ | with_reducible show wpAny _ _ (call (Value.ref 118) [Value.ref _, Value.ref _]) _ _ _ | with_reducible show wpAny _ _ (call (Value.ref 123) [Value.ref _, Value.ref _, Value.ref _, Value.ref _]) _ _ _ | with_reducible show wpAny _ _ (call (Value.type "dict") _ _) _ _ _ | with_reducible show wpAny _ _ (call (Value.type "dict") (_ :: _) []) _ _ _); refine Stop.out ?_) | ((with_reducible show wpAny _ _ (compareOp _ _ _) _ _ _); (first | with_reducible show wpAny _ _ (compareOp CmpOp.NotEq (Value.ref _) (Value.ref _)) _ _ _ | with_reducible show wpAny _ _ (compareOp CmpOp.Eq (Value.ref _) (Value.ref _)) _ _ _ | with_reducible show wpAny _ _ (compareOp CmpOp.In (Value.int _ _) (Value.ref _)) _ _ _); refine Stop.out ?_) | ((with_reducible show wpAny _ _ (eval _ _) _ _ _); (first | with_reducible show wpAny _ _ (eval (Expr.Dict [] [] _) _) _ _ _ | with_reducible show wpAny _ _ (eval (Expr.ListComp _ _ _ _) _) _ _ _ | with_reducible show wpAny _ _ (eval (Expr.DictComp _ _ _ _ _) _) _ _ _); refine Stop.out ?_) | ((with_reducible show wpAny _ _ (exec _ _) _ _ _); (first | with_reducible show wpAny _ _ (exec (Stmt.Assign (_ :: _) (Expr.ListComp _ _ _ _) _) _) _ _ _); refine Stop.out ?_) | ((with_reducible show wpAny _ _ (pyIter _) _ _ _); (first | with_reducible show wpAny _ _ (pyIter (Value.ref _)) _ _ _); refine Stop.out ?_) |  walk1 | (dsimp only; walk1) | (leave1; walk_say "STEP leave1"; try dsimp only) | fail "no step"))
  rename_i h16 tk16 r1 r2 r3 hR F16 N16 hup
  refine Stop.in ?_
  refine for_src (Src.range (n := 12) (rsmall (by first | decide | omega)) (rsize _)) (JTab _ _ T0 P C 0 _ _ seat2) (by with_unfolding_all rfl) F16 N16 hR ?hK (JTab.of (seat := seat2) (carry := carry2) (ta := ta2) (tb' := tb2) jm_start (by (first | exact congrArg (List.cons _) (front_nil) | exact congrArg (List.cons _) (front_cons (front_nil)) | exact congrArg (List.cons _) (front_cons (front_cons (front_nil))) | exact congrArg (List.cons _) (front_cons (front_cons (front_cons (front_nil)))) | exact congrArg (List.cons _) (front_cons (front_cons (front_cons (front_cons (front_nil))))) | exact congrArg (List.cons _) (front_cons (front_cons (front_cons (front_cons (front_cons (front_nil)))))) | exact congrArg (List.cons _) (front_cons (front_cons (front_cons (front_cons (front_cons (front_cons (front_nil))))))) | exact congrArg (List.cons _) (front_cons (front_cons (front_cons (front_cons (front_cons (front_cons (front_cons (front_nil)))))))) | exact congrArg (List.cons _) (front_cons (front_cons (front_cons (front_cons (front_cons (front_cons (front_cons (front_cons (front_nil))))))))) | exact congrArg (List.cons _) (front_cons (front_cons (front_cons (front_cons (front_cons (front_cons (front_cons (front_cons (front_cons (front_nil)))))))))) | exact congrArg (List.cons _) (front_cons (front_cons (front_cons (front_cons (front_cons (front_cons (front_cons (front_cons (front_cons (front_cons (front_nil))))))))))) | exact congrArg (List.cons _) (front_cons (front_cons (front_cons (front_cons (front_cons (front_cons (front_cons (front_cons (front_cons (front_cons (front_cons (front_nil)))))))))))) | exact congrArg (List.cons _) (front_cons (front_cons (front_cons (front_cons (front_cons (front_cons (front_cons (front_cons (front_cons (front_cons (front_cons (front_cons (front_nil))))))))))))) | exact congrArg (List.cons _) (front_cons (front_cons (front_cons (front_cons (front_cons (front_cons (front_cons (front_cons (front_cons (front_cons (front_cons (front_cons (front_cons (front_nil)))))))))))))) | exact congrArg (List.cons _) (front_cons (front_cons (front_cons (front_cons (front_cons (front_cons (front_cons (front_cons (front_cons (front_cons (front_cons (front_cons (front_cons (front_cons (front_nil))))))))))))))) | exact congrArg (List.cons _) (front_cons (front_cons (front_cons (front_cons (front_cons (front_cons (front_cons (front_cons (front_cons (front_cons (front_cons (front_cons (front_cons (front_cons (front_cons (front_nil)))))))))))))))) | exact congrArg (List.cons _) (front_cons (front_cons (front_cons (front_cons (front_cons (front_cons (front_cons (front_cons (front_cons (front_cons (front_cons (front_cons (front_cons (front_cons (front_cons (front_cons (front_nil))))))))))))))))) | exact congrArg (List.cons _) (front_cons (front_cons (front_cons (front_cons (front_cons (front_cons (front_cons (front_cons (front_cons (front_cons (front_cons (front_cons (front_cons (front_cons (front_cons (front_cons (front_cons (front_nil)))))))))))))))))) | exact congrArg (List.cons _) (front_cons (front_cons (front_cons (front_cons (front_cons (front_cons (front_cons (front_cons (front_cons (front_cons (front_cons (front_cons (front_cons (front_cons (front_cons (front_cons (front_cons (front_cons (front_nil))))))))))))))))))) | exact congrArg (List.cons _) (front_cons (front_cons (front_cons (front_cons (front_cons (front_cons (front_cons (front_cons (front_cons (front_cons (front_cons (front_cons (front_cons (front_cons (front_cons (front_cons (front_cons (front_cons (front_cons (front_nil)))))))))))))))))))) | exact congrArg (List.cons _) (front_cons (front_cons (front_cons (front_cons (front_cons (front_cons (front_cons (front_cons (front_cons (front_cons (front_cons (front_cons (front_cons (front_cons (front_cons (front_cons (front_cons (front_cons (front_cons (front_cons (front_nil))))))))))))))))))))) | exact congrArg (List.cons _) (front_cons (front_cons (front_cons (front_cons (front_cons (front_cons (front_cons (front_cons (front_cons (front_cons (front_cons (front_cons (front_cons (front_cons (front_cons (front_cons (front_cons (front_cons (front_cons (front_cons (front_cons (front_nil)))))))))))))))))))))) | exact congrArg (List.cons _) (front_cons (front_cons (front_cons (front_cons (front_cons (front_cons (front_cons (front_cons (front_cons (front_cons (front_cons (front_cons (front_cons (front_cons (front_cons (front_cons (front_cons (front_cons (front_cons (front_cons (front_cons (front_cons (front_nil))))))))))))))))))))))) | exact congrArg (List.cons _) (front_cons (front_cons (front_cons (front_cons (front_cons (front_cons (front_cons (front_cons (front_cons (front_cons (front_cons (front_cons (front_cons (front_cons (front_cons (front_cons (front_cons (front_cons (front_cons (front_cons (front_cons (front_cons (front_cons (front_nil)))))))))))))))))))))))) | exact congrArg (List.cons _) (front_cons (front_cons (front_cons (front_cons (front_cons (front_cons (front_cons (front_cons (front_cons (front_cons (front_cons (front_cons (front_cons (front_cons (front_cons (front_cons (front_cons (front_cons (front_cons (front_cons (front_cons (front_cons (front_cons (front_cons (front_nil))))))))))))))))))))))))) | exact congrArg (List.cons _) (front_cons (front_cons (front_cons (front_cons (front_cons (front_cons (front_cons (front_cons (front_cons (front_cons (front_cons (front_cons (front_cons (front_cons (front_cons (front_cons (front_cons (front_cons (front_cons (front_cons (front_cons (front_cons (front_cons (front_cons (front_cons (front_nil)))))))))))))))))))))))))) | exact congrArg (List.cons _) (front_cons (front_cons (front_cons (front_cons (front_cons (front_cons (front_cons (front_cons (front_cons (front_cons (front_cons (front_cons (front_cons (front_cons (front_cons (front_cons (front_cons (front_cons (front_cons (front_cons (front_cons (front_cons (front_cons (front_cons (front_cons (front_cons (front_nil))))))))))))))))))))))))))) | exact congrArg (List.cons _) (front_cons (front_cons (front_cons (front_cons (front_cons (front_cons (front_cons (front_cons (front_cons (front_cons (front_cons (front_cons (front_cons (front_cons (front_cons (front_cons (front_cons (front_cons (front_cons (front_cons (front_cons (front_cons (front_cons (front_cons (front_cons (front_cons (front_cons (front_nil)))))))))))))))))))))))))))))) hT0 .nil (Nat.le_refl _) (fun _ h => nomatch h) (by omega) (by omega) hc2) ?turn ?done
  case hK => intro _ _ _ _ p hp; exact nomatch hp
  case turn =>
    intro i u m₁ nx I oI h tk hi hz0 hz1; refine IntAt.casesOn hz0 ?_; intro t; refine JTab.casesOn hz1 ?_; intro u₀ oT kvT tbl seat carry ta tb' hT hvT hlT hokT hs hs' hc; dsimp only [List.cons_append, List.nil_append]; intro hne F1 N1
    try k_fold
    
    have hIT := neNat (hne _ (.head _))
    have hIP := neNat (hne _ (.tail _ (.tail _ (.tail _ (.tail _ (.tail _ (.tail _ (.tail _ (.tail _ (.tail _ (.head _)))))))))))
    dsimp only at hIT hIP
    (repeat' ((fail_if_success (with_reducible refine Stop.in ?_)); first | (k_unfold; (try dsimp only)) | (k_end; wrow_close) | ((with_reducible show wpAny _ _ (call _ _ _) _ _ _); (first | with_reducible show wpAny _ _ (call (Value.ref 108) [Value.ref _]) _ _ _ | with_reducible show wpAny _ _ (call (Value.ref 113) [Value.ref _, Value.ref _]) _ _ _ | with_reducible show wpAny _ _ (call (Value.ref 75) [Value.ref _, Value.ref _]) _ _ _ | with_reducible show wpAny _ _ (call (Value.ref 118) [Value.ref _, Value.ref _]) _ _ _ | with_reducible show wpAny _ _ (call (Value.ref 123) [Value.ref _, Value.ref _, Value.ref _, Value.ref _]) _ _ _ | with_reducible show wpAny _ _ (call (Value.type "dict") _ _) _ _ _ | with_reducible show wpAny _ _ (call (Value.type "dict") (_ :: _) []) _ _ _); refine Stop.out ?_) | ((with_reducible show wpAny _ _ (compareOp _ _ _) _ _ _); (first | with_reducible show wpAny _ _ (compareOp CmpOp.NotEq (Value.ref _) (Value.ref _)) _ _ _ | with_reducible show wpAny _ _ (compareOp CmpOp.Eq (Value.ref _) (Value.ref _)) _ _ _ | with_reducible show wpAny _ _ (compareOp CmpOp.In (Value.int _ _) (Value.ref _)) _ _ _); refine Stop.out ?_) | ((with_reducible show wpAny _ _ (eval _ _) _ _ _); (first | with_reducible show wpAny _ _ (eval (Expr.Dict [] [] _) _) _ _ _ | with_reducible show wpAny _ _ (eval (Expr.ListComp _ _ _ _) _) _ _ _ | with_reducible show wpAny _ _ (eval (Expr.DictComp _ _ _ _ _) _) _ _ _); refine Stop.out ?_) | ((with_reducible show wpAny _ _ (exec _ _) _ _ _); (first | with_reducible show wpAny _ _ (exec (Stmt.Assign (_ :: _) (Expr.ListComp _ _ _ _) _) _) _ _ _); refine Stop.out ?_) | ((with_reducible show wpAny _ _ (pyIter _) _ _ _); (first | with_reducible show wpAny _ _ (pyIter (Value.ref _)) _ _ _); refine Stop.out ?_) |  walk1 | (dsimp only; walk1) | (leave1; walk_say "STEP leave1"; try dsimp only) | fail "no step"))
    · rename_i rr seat' carry' tq t1q t2q hq tkq Fq Nq b1 b2 b3 b4 b5 b6 hq2 oq Fq2 Nq2 hdS
      refine TurnEnd.intro _ Fq2 Nq2 (by simp only [List.cons_append, List.nil_append]; ((repeat (refine sub_cons (by k_mem) ?_)); (first | exact sub_nil | (repeat (first | with_reducible assumption | with_reducible exact sub_same | refine sub_tail ?_))))) (ne_same hne (by rfl)) (.of (oT := oq) (seat := seat') (carry := carry') (ta := t1q) (tb' := t2q) jm_next rfl hdS (hvT.stored _ _ _) (Nat.le_trans (stored_length_le _ _ _) (by omega)) (hokT.put (by omega) (by omega) (by rw [Int.fmod_eq_emod_of_nonneg _ (by decide)])) (by omega) (by omega) b5)
    · rename_i rr seat' carry' tq t1q t2q hq tkq Fq Nq b1 b2 b3 b4 b5 b6
      refine TurnEnd.intro _ Fq Nq (by simp only [List.cons_append, List.nil_append]; ((repeat (refine sub_cons (by k_mem) ?_)); (first | exact sub_nil | (repeat (first | with_reducible assumption | with_reducible exact sub_same | refine sub_tail ?_))))) (ne_same hne (by rfl)) (.of (oT := oT) (seat := seat') (carry := carry') (ta := t1q) (tb' := t2q) jm_next rfl hT hvT (by omega) hokT (by omega) (by omega) b5)
    
  intro m₁ nx h17 tk17 hz0; refine JTab.casesOn hz0 ?_; intro u₀ oT kvT tbl seat3 carry3 ta3 tb3 hT hvT hlT hokT hs3 hs3' hc3; dsimp only [List.cons_append, List.nil_append]; intro F17 N17
  try dsimp only
  (repeat' ((fail_if_success (with_reducible refine Stop.in ?_)); first | (k_unfold; (try dsimp only)) | (k_end; wrow_close) | ((with_reducible show wpAny _ _ (call _ _ _) _ _ _); (first | with_reducible show wpAny _ _ (call (Value.ref 108) [Value.ref _]) _ _ _ | with_reducible show wpAny _ _ (call (Value.ref 113) [Value.ref _, Value.ref _]) _ _ _ | with_reducible show wpAny _ _ (call (Value.ref 75) [Value.ref _, Value.ref _]) _ _ _ | with_reducible show wpAny _ _ (call (Value.ref 118) [Value.ref _, Value.ref _]) _ _ _ | with_reducible show wpAny _ _ (call (Value.ref 123) [Value.ref _, Value.ref _, Value.ref _, Value.ref _]) _ _ _ | with_reducible show wpAny _ _ (call (Value.type "dict") _ _) _ _ _ | with_reducible show wpAny _ _ (call (Value.type "dict") (_ :: _) []) _ _ _); refine Stop.out ?_) | ((with_reducible show wpAny _ _ (compareOp _ _ _) _ _ _); (first | with_reducible show wpAny _ _ (compareOp CmpOp.NotEq (Value.ref _) (Value.ref _)) _ _ _ | with_reducible show wpAny _ _ (compareOp CmpOp.Eq (Value.ref _) (Value.ref _)) _ _ _ | with_reducible show wpAny _ _ (compareOp CmpOp.In (Value.int _ _) (Value.ref _)) _ _ _); refine Stop.out ?_) | ((with_reducible show wpAny _ _ (eval _ _) _ _ _); (first | with_reducible show wpAny _ _ (eval (Expr.Dict [] [] _) _) _ _ _ | with_reducible show wpAny _ _ (eval (Expr.ListComp _ _ _ _) _) _ _ _ | with_reducible show wpAny _ _ (eval (Expr.DictComp _ _ _ _ _) _) _ _ _); refine Stop.out ?_) | ((with_reducible show wpAny _ _ (exec _ _) _ _ _); (first | with_reducible show wpAny _ _ (exec (Stmt.Assign (_ :: _) (Expr.ListComp _ _ _ _) _) _) _ _ _); refine Stop.out ?_) | ((with_reducible show wpAny _ _ (pyIter _) _ _ _); (first | with_reducible show wpAny _ _ (pyIter (Value.ref _)) _ _ _); refine Stop.out ?_) |  walk1 | (dsimp only; walk1) | (leave1; walk_say "STEP leave1"; try dsimp only) | fail "no step"))
  refine Stop.in ?_
  k_dflt (refine' turned_u ?zB ?zF ?zK ?zN ?zT ?zk ?zd ?zu ?z1 ?z2 ?z3 ?z4 he1 loe1 hT loT0 hv1 hvT (by omega) hokT.inj ?_; (case zB => k_asm); (case zF => k_asm); (case zK => k_asm); (case zN => k_asm); (case zT => k_asm); (case zk => exact rfl); (case zd => k_room); (case zu => k_units); (case z1 => k_mem); (case z2 => k_mem); (case z3 => k_mem); (case z4 => k_mem))
  intro X9 D9 ta9 d9 od9 kvs9 c9 h18 tk18 F18 N18 hd9 lo9 hv9 hl9 hTok
  try dsimp only
  (repeat' ((fail_if_success (with_reducible refine Stop.in ?_)); first | (k_unfold; (try dsimp only)) | (k_end; wrow_close) | ((with_reducible show wpAny _ _ (call _ _ _) _ _ _); (first | with_reducible show wpAny _ _ (call (Value.ref 108) [Value.ref _]) _ _ _ | with_reducible show wpAny _ _ (call (Value.ref 113) [Value.ref _, Value.ref _]) _ _ _ | with_reducible show wpAny _ _ (call (Value.ref 75) [Value.ref _, Value.ref _]) _ _ _ | with_reducible show wpAny _ _ (call (Value.ref 118) [Value.ref _, Value.ref _]) _ _ _ | with_reducible show wpAny _ _ (call (Value.ref 123) [Value.ref _, Value.ref _, Value.ref _, Value.ref _]) _ _ _ | with_reducible show wpAny _ _ (call (Value.type "dict") _ _) _ _ _ | with_reducible show wpAny _ _ (call (Value.type "dict") (_ :: _) []) _ _ _); refine Stop.out ?_) | ((with_reducible show wpAny _ _ (compareOp _ _ _) _ _ _); (first | with_reducible show wpAny _ _ (compareOp CmpOp.NotEq (Value.ref _) (Value.ref _)) _ _ _ | with_reducible show wpAny _ _ (compareOp CmpOp.Eq (Value.ref _) (Value.ref _)) _ _ _ | with_reducible show wpAny _ _ (compareOp CmpOp.In (Value.int _ _) (Value.ref _)) _ _ _); refine Stop.out ?_) | ((with_reducible show wpAny _ _ (eval _ _) _ _ _); (first | with_reducible show wpAny _ _ (eval (Expr.Dict [] [] _) _) _ _ _ | with_reducible show wpAny _ _ (eval (Expr.ListComp _ _ _ _) _) _ _ _ | with_reducible show wpAny _ _ (eval (Expr.DictComp _ _ _ _ _) _) _ _ _); refine Stop.out ?_) | ((with_reducible show wpAny _ _ (exec _ _) _ _ _); (first | with_reducible show wpAny _ _ (exec (Stmt.Assign (_ :: _) (Expr.ListComp _ _ _ _) _) _) _ _ _); refine Stop.out ?_) | ((with_reducible show wpAny _ _ (pyIter _) _ _ _); (first | with_reducible show wpAny _ _ (pyIter (Value.ref _)) _ _ _); refine Stop.out ?_) |  walk1 | (dsimp only; walk1) | (leave1; walk_say "STEP leave1"; try dsimp only) | fail "no step"))
  have hnd1 := IsDictOf_nodup hd1
  have hcn1 := hv1.nodup hnd1
  have hcl1 := hv1.length
  (with_reducible rename (News _ _ _ _) => N19)
  refine Stop.in ?_
  k_dflt (refine lc_eval (_F := by k_asm) (by with_unfolding_all rfl) (by decide) (by rfl) (by decide) (by rfl) ?_)
  (repeat' ((fail_if_success (with_reducible refine Stop.in ?_)); first | (k_unfold; (try dsimp only)) | (k_end; wrow_close) | ((with_reducible show wpAny _ _ (call _ _ _) _ _ _); (first | with_reducible show wpAny _ _ (call (Value.ref 108) [Value.ref _]) _ _ _ | with_reducible show wpAny _ _ (call (Value.ref 113) [Value.ref _, Value.ref _]) _ _ _ | with_reducible show wpAny _ _ (call (Value.ref 75) [Value.ref _, Value.ref _]) _ _ _ | with_reducible show wpAny _ _ (call (Value.ref 118) [Value.ref _, Value.ref _]) _ _ _ | with_reducible show wpAny _ _ (call (Value.ref 123) [Value.ref _, Value.ref _, Value.ref _, Value.ref _]) _ _ _ | with_reducible show wpAny _ _ (call (Value.type "dict") _ _) _ _ _ | with_reducible show wpAny _ _ (call (Value.type "dict") (_ :: _) []) _ _ _); refine Stop.out ?_) | ((with_reducible show wpAny _ _ (compareOp _ _ _) _ _ _); (first | with_reducible show wpAny _ _ (compareOp CmpOp.NotEq (Value.ref _) (Value.ref _)) _ _ _ | with_reducible show wpAny _ _ (compareOp CmpOp.Eq (Value.ref _) (Value.ref _)) _ _ _ | with_reducible show wpAny _ _ (compareOp CmpOp.In (Value.int _ _) (Value.ref _)) _ _ _); refine Stop.out ?_) | ((with_reducible show wpAny _ _ (eval _ _) _ _ _); (first | with_reducible show wpAny _ _ (eval (Expr.Dict [] [] _) _) _ _ _ | with_reducible show wpAny _ _ (eval (Expr.ListComp _ _ _ _) _) _ _ _ | with_reducible show wpAny _ _ (eval (Expr.DictComp _ _ _ _ _) _) _ _ _); refine Stop.out ?_) | ((with_reducible show wpAny _ _ (exec _ _) _ _ _); (first | with_reducible show wpAny _ _ (exec (Stmt.Assign (_ :: _) (Expr.ListComp _ _ _ _) _) _) _ _ _); refine Stop.out ?_) | ((with_reducible show wpAny _ _ (pyIter _) _ _ _); (first | with_reducible show wpAny _ _ (pyIter (Value.ref _)) _ _ _); refine Stop.out ?_) |  walk1 | (dsimp only; walk1) | (leave1; walk_say "STEP leave1"; try dsimp only) | fail "no step"))
  refine ⟨kvs1.length, _, _, _, _, JTl _ [] (fun i => encP (turnP (c1.take i) tbl)), Src.dict d1 lo1 hd1, by with_unfolding_all rfl, by k_asm, N19, trivial, by rw [sizeLine_eq]; first | decide | omega, ?_, (JTl.of (tl := []) (by (first | exact front_nil | exact front_cons (front_nil) | exact front_cons (front_cons (front_nil)) | exact front_cons (front_cons (front_cons (front_nil))) | exact front_cons (front_cons (front_cons (front_cons (front_nil)))) | exact front_cons (front_cons (front_cons (front_cons (front_cons (front_nil))))) | exact front_cons (front_cons (front_cons (front_cons (front_cons (front_cons (front_nil)))))) | exact front_cons (front_cons (front_cons (front_cons (front_cons (front_cons (front_cons (front_nil))))))) | exact front_cons (front_cons (front_cons (front_cons (front_cons (front_cons (front_cons (front_cons (front_nil)))))))) | exact front_cons (front_cons (front_cons (front_cons (front_cons (front_cons (front_cons (front_cons (front_cons (front_nil))))))))) | exact front_cons (front_cons (front_cons (front_cons (front_cons (front_cons (front_cons (front_cons (front_cons (front_cons (front_nil)))))))))) | exact front_cons (front_cons (front_cons (front_cons (front_cons (front_cons (front_cons (front_cons (front_cons (front_cons (front_cons (front_nil))))))))))) | exact front_cons (front_cons (front_cons (front_cons (front_cons (front_cons (front_cons (front_cons (front_cons (front_cons (front_cons (front_cons (front_nil)))))))))))) | exact front_cons (front_cons (front_cons (front_cons (front_cons (front_cons (front_cons (front_cons (front_cons (front_cons (front_cons (front_cons (front_cons (front_nil))))))))))))) | exact front_cons (front_cons (front_cons (front_cons (front_cons (front_cons (front_cons (front_cons (front_cons (front_cons (front_cons (front_cons (front_cons (front_cons (front_nil)))))))))))))) | exact front_cons (front_cons (front_cons (front_cons (front_cons (front_cons (front_cons (front_cons (front_cons (front_cons (front_cons (front_cons (front_cons (front_cons (front_cons (front_nil))))))))))))))) | exact front_cons (front_cons (front_cons (front_cons (front_cons (front_cons (front_cons (front_cons (front_cons (front_cons (front_cons (front_cons (front_cons (front_cons (front_cons (front_cons (front_nil)))))))))))))))) | exact front_cons (front_cons (front_cons (front_cons (front_cons (front_cons (front_cons (front_cons (front_cons (front_cons (front_cons (front_cons (front_cons (front_cons (front_cons (front_cons (front_cons (front_nil))))))))))))))))) | exact front_cons (front_cons (front_cons (front_cons (front_cons (front_cons (front_cons (front_cons (front_cons (front_cons (front_cons (front_cons (front_cons (front_cons (front_cons (front_cons (front_cons (front_cons (front_nil)))))))))))))))))) | exact front_cons (front_cons (front_cons (front_cons (front_cons (front_cons (front_cons (front_cons (front_cons (front_cons (front_cons (front_cons (front_cons (front_cons (front_cons (front_cons (front_cons (front_cons (front_cons (front_nil))))))))))))))))))) | exact front_cons (front_cons (front_cons (front_cons (front_cons (front_cons (front_cons (front_cons (front_cons (front_cons (front_cons (front_cons (front_cons (front_cons (front_cons (front_cons (front_cons (front_cons (front_cons (front_cons (front_nil)))))))))))))))))))) | exact front_cons (front_cons (front_cons (front_cons (front_cons (front_cons (front_cons (front_cons (front_cons (front_cons (front_cons (front_cons (front_cons (front_cons (front_cons (front_cons (front_cons (front_cons (front_cons (front_cons (front_cons (front_nil))))))))))))))))))))) | exact front_cons (front_cons (front_cons (front_cons (front_cons (front_cons (front_cons (front_cons (front_cons (front_cons (front_cons (front_cons (front_cons (front_cons (front_cons (front_cons (front_cons (front_cons (front_cons (front_cons (front_cons (front_cons (front_nil)))))))))))))))))))))) | exact front_cons (front_cons (front_cons (front_cons (front_cons (front_cons (front_cons (front_cons (front_cons (front_cons (front_cons (front_cons (front_cons (front_cons (front_cons (front_cons (front_cons (front_cons (front_cons (front_cons (front_cons (front_cons (front_cons (front_nil))))))))))))))))))))))) | exact front_cons (front_cons (front_cons (front_cons (front_cons (front_cons (front_cons (front_cons (front_cons (front_cons (front_cons (front_cons (front_cons (front_cons (front_cons (front_cons (front_cons (front_cons (front_cons (front_cons (front_cons (front_cons (front_cons (front_cons (front_nil)))))))))))))))))))))))) | exact front_cons (front_cons (front_cons (front_cons (front_cons (front_cons (front_cons (front_cons (front_cons (front_cons (front_cons (front_cons (front_cons (front_cons (front_cons (front_cons (front_cons (front_cons (front_cons (front_cons (front_cons (front_cons (front_cons (front_cons (front_cons (front_nil))))))))))))))))))))))))) | exact front_cons (front_cons (front_cons (front_cons (front_cons (front_cons (front_cons (front_cons (front_cons (front_cons (front_cons (front_cons (front_cons (front_cons (front_cons (front_cons (front_cons (front_cons (front_cons (front_cons (front_cons (front_cons (front_cons (front_cons (front_cons (front_cons (front_nil)))))))))))))))))))))))))) | exact front_cons (front_cons (front_cons (front_cons (front_cons (front_cons (front_cons (front_cons (front_cons (front_cons (front_cons (front_cons (front_cons (front_cons (front_cons (front_cons (front_cons (front_cons (front_cons (front_cons (front_cons (front_cons (front_cons (front_cons (front_cons (front_cons (front_cons (front_nil))))))))))))))))))))))))))))) sub_same .nil), ?_, ?_⟩
  · rintro i ys nx ⟨tl, _, _⟩ p hp
    try dsimp only [List.cons_append, List.nil_append]
    rw [List.mem_singleton.mp hp]
    k_mem
  · intro i u ys nx I oI C' oC Dl m₂ h tk E' hi hku hz0; refine JTl.casesOn hz0 ?_; intro tl hsub hys; dsimp only [List.cons_append, List.nil_append]; refine DIVAt.casesOn (divat hku hv1) ?_; intro k x t tx hkx hci; intro hoC hmx F1 N1 off hIC hID hCD hyl
    
    have hval := valueAt_of_get hnd1 hkx
    have hxb := hok1.bound _ (List.mem_of_getElem? hci)
    have htake := turnP_take (tb := tbl) hci
    refine wpAny_tests_one ?_
    (repeat' ((fail_if_success (with_reducible refine Stop.in ?_)); first | (k_unfold; (try dsimp only)) | (k_end; wrow_close) | ((with_reducible show wpAny _ _ (call _ _ _) _ _ _); (first | with_reducible show wpAny _ _ (call (Value.ref 108) [Value.ref _]) _ _ _ | with_reducible show wpAny _ _ (call (Value.ref 113) [Value.ref _, Value.ref _]) _ _ _ | with_reducible show wpAny _ _ (call (Value.ref 75) [Value.ref _, Value.ref _]) _ _ _ | with_reducible show wpAny _ _ (call (Value.ref 118) [Value.ref _, Value.ref _]) _ _ _ | with_reducible show wpAny _ _ (call (Value.ref 123) [Value.ref _, Value.ref _, Value.ref _, Value.ref _]) _ _ _ | with_reducible show wpAny _ _ (call (Value.type "dict") _ _) _ _ _ | with_reducible show wpAny _ _ (call (Value.type "dict") (_ :: _) []) _ _ _); refine Stop.out ?_) | ((with_reducible show wpAny _ _ (compareOp _ _ _) _ _ _); (first | with_reducible show wpAny _ _ (compareOp CmpOp.NotEq (Value.ref _) (Value.ref _)) _ _ _ | with_reducible show wpAny _ _ (compareOp CmpOp.Eq (Value.ref _) (Value.ref _)) _ _ _ | with_reducible show wpAny _ _ (compareOp CmpOp.In (Value.int _ _) (Value.ref _)) _ _ _); refine Stop.out ?_) | ((with_reducible show wpAny _ _ (eval _ _) _ _ _); (first | with_reducible show wpAny _ _ (eval (Expr.Dict [] [] _) _) _ _ _ | with_reducible show wpAny _ _ (eval (Expr.ListComp _ _ _ _) _) _ _ _ | with_reducible show wpAny _ _ (eval (Expr.DictComp _ _ _ _ _) _) _ _ _); refine Stop.out ?_) | ((with_reducible show wpAny _ _ (exec _ _) _ _ _); (first | with_reducible show wpAny _ _ (exec (Stmt.Assign (_ :: _) (Expr.ListComp _ _ _ _) _) _) _ _ _); refine Stop.out ?_) | ((with_reducible show wpAny _ _ (pyIter _) _ _ _); (first | with_reducible show wpAny _ _ (pyIter (Value.ref _)) _ _ _); refine Stop.out ?_) |  walk1 | (dsimp only; walk1) | (leave1; walk_say "STEP leave1"; try dsimp only) | fail "no step"))
    refine Stop.in ?_
    k_dflt (refine' d_in2 ?zN ?zp hT loT0 hvT (fun tk9 hz => ?_) (fun tk9 z hz => ?_); (case zN => k_asm); (case zp => k_mem))
    · (try dsimp only)
      (repeat' ((fail_if_success (with_reducible refine Stop.in ?_)); first | (k_unfold; (try dsimp only)) | (k_end; wrow_close) | ((with_reducible show wpAny _ _ (call _ _ _) _ _ _); (first | with_reducible show wpAny _ _ (call (Value.ref 108) [Value.ref _]) _ _ _ | with_reducible show wpAny _ _ (call (Value.ref 113) [Value.ref _, Value.ref _]) _ _ _ | with_reducible show wpAny _ _ (call (Value.ref 75) [Value.ref _, Value.ref _]) _ _ _ | with_reducible show wpAny _ _ (call (Value.ref 118) [Value.ref _, Value.ref _]) _ _ _ | with_reducible show wpAny _ _ (call (Value.ref 123) [Value.ref _, Value.ref _, Value.ref _, Value.ref _]) _ _ _ | with_reducible show wpAny _ _ (call (Value.type "dict") _ _) _ _ _ | with_reducible show wpAny _ _ (call (Value.type "dict") (_ :: _) []) _ _ _); refine Stop.out ?_) | ((with_reducible show wpAny _ _ (compareOp _ _ _) _ _ _); (first | with_reducible show wpAny _ _ (compareOp CmpOp.NotEq (Value.ref _) (Value.ref _)) _ _ _ | with_reducible show wpAny _ _ (compareOp CmpOp.Eq (Value.ref _) (Value.ref _)) _ _ _ | with_reducible show wpAny _ _ (compareOp CmpOp.In (Value.int _ _) (Value.ref _)) _ _ _); refine Stop.out ?_) | ((with_reducible show wpAny _ _ (eval _ _) _ _ _); (first | with_reducible show wpAny _ _ (eval (Expr.Dict [] [] _) _) _ _ _ | with_reducible show wpAny _ _ (eval (Expr.ListComp _ _ _ _) _) _ _ _ | with_reducible show wpAny _ _ (eval (Expr.DictComp _ _ _ _ _) _) _ _ _); refine Stop.out ?_) | ((with_reducible show wpAny _ _ (exec _ _) _ _ _); (first | with_reducible show wpAny _ _ (exec (Stmt.Assign (_ :: _) (Expr.ListComp _ _ _ _) _) _) _ _ _); refine Stop.out ?_) | ((with_reducible show wpAny _ _ (pyIter _) _ _ _); (first | with_reducible show wpAny _ _ (pyIter (Value.ref _)) _ _ _); refine Stop.out ?_) |  walk1 | (dsimp only; walk1) | (leave1; walk_say "STEP leave1"; try dsimp only) | fail "no step"))
      have ht2 : turnP (c1.take (i + 1)) tbl = turnP (c1.take i) tbl := by rw [htake, hz]; simp
      exact PartEnd.intro _ (by k_asm) (by k_asm) (fun p hp => hp) off (.of (tl := tl) rfl hsub (by show LV _ _ (encP (turnP (c1.take (i + 1)) tbl)); rw [ht2]; exact hys))
    · obtain ⟨tz, hz1⟩ := hvT.valueAt_some hz
      have hzb := hokT _ (at?_mem hz)
      dsimp only at hzb
      (try dsimp only)
      (repeat' ((fail_if_success (with_reducible refine Stop.in ?_)); first | (k_unfold; (try dsimp only)) | (k_end; wrow_close) | ((with_reducible show wpAny _ _ (call _ _ _) _ _ _); (first | with_reducible show wpAny _ _ (call (Value.ref 108) [Value.ref _]) _ _ _ | with_reducible show wpAny _ _ (call (Value.ref 113) [Value.ref _, Value.ref _]) _ _ _ | with_reducible show wpAny _ _ (call (Value.ref 75) [Value.ref _, Value.ref _]) _ _ _ | with_reducible show wpAny _ _ (call (Value.ref 118) [Value.ref _, Value.ref _]) _ _ _ | with_reducible show wpAny _ _ (call (Value.ref 123) [Value.ref _, Value.ref _, Value.ref _, Value.ref _]) _ _ _ | with_reducible show wpAny _ _ (call (Value.type "dict") _ _) _ _ _ | with_reducible show wpAny _ _ (call (Value.type "dict") (_ :: _) []) _ _ _); refine Stop.out ?_) | ((with_reducible show wpAny _ _ (compareOp _ _ _) _ _ _); (first | with_reducible show wpAny _ _ (compareOp CmpOp.NotEq (Value.ref _) (Value.ref _)) _ _ _ | with_reducible show wpAny _ _ (compareOp CmpOp.Eq (Value.ref _) (Value.ref _)) _ _ _ | with_reducible show wpAny _ _ (compareOp CmpOp.In (Value.int _ _) (Value.ref _)) _ _ _); refine Stop.out ?_) | ((with_reducible show wpAny _ _ (eval _ _) _ _ _); (first | with_reducible show wpAny _ _ (eval (Expr.Dict [] [] _) _) _ _ _ | with_reducible show wpAny _ _ (eval (Expr.ListComp _ _ _ _) _) _ _ _ | with_reducible show wpAny _ _ (eval (Expr.DictComp _ _ _ _ _) _) _ _ _); refine Stop.out ?_) | ((with_reducible show wpAny _ _ (exec _ _) _ _ _); (first | with_reducible show wpAny _ _ (exec (Stmt.Assign (_ :: _) (Expr.ListComp _ _ _ _) _) _) _ _ _); refine Stop.out ?_) | ((with_reducible show wpAny _ _ (pyIter _) _ _ _); (first | with_reducible show wpAny _ _ (pyIter (Value.ref _)) _ _ _); refine Stop.out ?_) |  walk1 | (dsimp only; walk1) | (leave1; walk_say "STEP leave1"; try dsimp only) | fail "no step"))
      dsimp only [qk]
      rename_i T9 h9 F9 N9 l9
      obtain ⟨ta', tb'', N9'⟩ : ∃ ta tb, News _ _ h9 ((T9, tupO z x ta tb) :: _) := ⟨_, _, N9⟩
      refine PartEnd.intro _ F9 N9' ?zhs ?zhne (.of (tl := (T9, tupO z x ta' tb'') :: tl) rfl (fun p hp => nomatch hp) ?zsn)
      case zhs => simp only [List.cons_append, List.nil_append]; ((repeat (refine sub_cons (by k_mem) ?_)); (first | exact sub_nil | (repeat (first | with_reducible assumption | with_reducible exact sub_same | refine sub_tail ?_))))
      case zhne => refine off_cons (o := tupO z x ta' tb'') ?_ off (ne3 l9.1 l9.2.1 l9.2.2.1); simp only [List.cons_append, List.nil_append]; ((repeat (refine sub_cons (by k_mem) ?_)); (first | exact sub_nil | (repeat (first | with_reducible assumption | with_reducible exact sub_same | refine sub_tail ?_))))
      case zsn =>
        show LV _ _ (encP (turnP (c1.take (i + 1)) tbl))
        rw [htake, hz, encP_append]
        exact (hys.mono fun v c => TV.mono fun p hp => .tail _ hp).snoc ⟨T9, z, x, ta', tb'', rfl, .head _, by omega, by omega, hxb.1, hxb.2, rfl⟩
    
  intro hA tkA ys' nx hz0; refine JTl.casesOn hz0 ?_; intro tl hsub hys'; dsimp only [List.cons_append, List.nil_append]; intro Dl hB tkB hDl FB NB offB
  try dsimp only at hys'
  rw [List.take_of_length_le (by omega)] at hys'
  try dsimp only
  (repeat' ((fail_if_success (with_reducible refine Stop.in ?_)); first | (k_unfold; (try dsimp only)) | (k_end; wrow_close) | ((with_reducible show wpAny _ _ (call _ _ _) _ _ _); (first | with_reducible show wpAny _ _ (call (Value.ref 108) [Value.ref _]) _ _ _ | with_reducible show wpAny _ _ (call (Value.ref 113) [Value.ref _, Value.ref _]) _ _ _ | with_reducible show wpAny _ _ (call (Value.ref 75) [Value.ref _, Value.ref _]) _ _ _ | with_reducible show wpAny _ _ (call (Value.ref 118) [Value.ref _, Value.ref _]) _ _ _ | with_reducible show wpAny _ _ (call (Value.ref 123) [Value.ref _, Value.ref _, Value.ref _, Value.ref _]) _ _ _ | with_reducible show wpAny _ _ (call (Value.type "dict") _ _) _ _ _ | with_reducible show wpAny _ _ (call (Value.type "dict") (_ :: _) []) _ _ _); refine Stop.out ?_) | ((with_reducible show wpAny _ _ (compareOp _ _ _) _ _ _); (first | with_reducible show wpAny _ _ (compareOp CmpOp.NotEq (Value.ref _) (Value.ref _)) _ _ _ | with_reducible show wpAny _ _ (compareOp CmpOp.Eq (Value.ref _) (Value.ref _)) _ _ _ | with_reducible show wpAny _ _ (compareOp CmpOp.In (Value.int _ _) (Value.ref _)) _ _ _); refine Stop.out ?_) | ((with_reducible show wpAny _ _ (eval _ _) _ _ _); (first | with_reducible show wpAny _ _ (eval (Expr.Dict [] [] _) _) _ _ _ | with_reducible show wpAny _ _ (eval (Expr.ListComp _ _ _ _) _) _ _ _ | with_reducible show wpAny _ _ (eval (Expr.DictComp _ _ _ _ _) _) _ _ _); refine Stop.out ?_) | ((with_reducible show wpAny _ _ (exec _ _) _ _ _); (first | with_reducible show wpAny _ _ (exec (Stmt.Assign (_ :: _) (Expr.ListComp _ _ _ _) _) _) _ _ _); refine Stop.out ?_) | ((with_reducible show wpAny _ _ (pyIter _) _ _ _); (first | with_reducible show wpAny _ _ (pyIter (Value.ref _)) _ _ _); refine Stop.out ?_) |  walk1 | (dsimp only; walk1) | (leave1; walk_say "STEP leave1"; try dsimp only) | fail "no step"))
  refine Stop.in ?_
  k_dflt (refine' d_pairs ?zhh ?zF ?zN ?zp (hys'.mono fun v c => TV.mono ?zhs) ?zb ?zs ?_; (case zhh => exact rfl); (case zF => k_asm); (case zN => k_asm); (case zp => exact memL (by k_mem)); (case zhs => (repeat (first | with_reducible assumption | with_reducible exact sub_same | refine sub_tail ?_))); (case zb => exact modules_low (Top.nolimit (by k_asm))); (case zs => have := turnP_len c1 tbl; omega))
  intro DA oA kvsA hA' tkA' FA NA lA hdA loA hivA
  rw [pairsD_enc (turnP_bound hok1.bound) (turnP_nodup hokT.inj hcn1)] at hivA
  clear lA
  try dsimp only
  (repeat' ((fail_if_success (with_reducible refine Stop.in ?_)); first | (k_unfold; (try dsimp only)) | (k_end; wrow_close) | ((with_reducible show wpAny _ _ (call _ _ _) _ _ _); (first | with_reducible show wpAny _ _ (call (Value.ref 108) [Value.ref _]) _ _ _ | with_reducible show wpAny _ _ (call (Value.ref 113) [Value.ref _, Value.ref _]) _ _ _ | with_reducible show wpAny _ _ (call (Value.ref 75) [Value.ref _, Value.ref _]) _ _ _ | with_reducible show wpAny _ _ (call (Value.ref 118) [Value.ref _, Value.ref _]) _ _ _ | with_reducible show wpAny _ _ (call (Value.ref 123) [Value.ref _, Value.ref _, Value.ref _, Value.ref _]) _ _ _ | with_reducible show wpAny _ _ (call (Value.type "dict") _ _) _ _ _ | with_reducible show wpAny _ _ (call (Value.type "dict") (_ :: _) []) _ _ _); refine Stop.out ?_) | ((with_reducible show wpAny _ _ (compareOp _ _ _) _ _ _); (first | with_reducible show wpAny _ _ (compareOp CmpOp.NotEq (Value.ref _) (Value.ref _)) _ _ _ | with_reducible show wpAny _ _ (compareOp CmpOp.Eq (Value.ref _) (Value.ref _)) _ _ _ | with_reducible show wpAny _ _ (compareOp CmpOp.In (Value.int _ _) (Value.ref _)) _ _ _); refine Stop.out ?_) | ((with_reducible show wpAny _ _ (eval _ _) _ _ _); (first | with_reducible show wpAny _ _ (eval (Expr.Dict [] [] _) _) _ _ _ | with_reducible show wpAny _ _ (eval (Expr.ListComp _ _ _ _) _) _ _ _ | with_reducible show wpAny _ _ (eval (Expr.DictComp _ _ _ _ _) _) _ _ _); refine Stop.out ?_) | ((with_reducible show wpAny _ _ (exec _ _) _ _ _); (first | with_reducible show wpAny _ _ (exec (Stmt.Assign (_ :: _) (Expr.ListComp _ _ _ _) _) _) _ _ _); refine Stop.out ?_) | ((with_reducible show wpAny _ _ (pyIter _) _ _ _); (first | with_reducible show wpAny _ _ (pyIter (Value.ref _)) _ _ _); refine Stop.out ?_) |  walk1 | (dsimp only; walk1) | (leave1; walk_say "STEP leave1"; try dsimp only) | fail "no step"))
  refine Stop.in ?_
  k_dflt (refine' dd_ne ?zN ?zp ?zp2 hd9 hdA lo9 loA (DV.ofIV hv9) (DV.ofIV hivA) eqR_int ?zu (hTok.same (turnP_ok hokT.inj hcn1)) ?_; (case zN => k_asm); (case zp => k_mem); (case zp2 => k_mem); (case zu => k_units))
  have NA2 := news_drop1 (news_drop1 (news_drop1 (news_drop1 (news_drop1 NA))))
  have NA3 := news_front (tl := tl) NA2 (by (first | exact front_nil | exact front_cons (front_nil) | exact front_cons (front_cons (front_nil)) | exact front_cons (front_cons (front_cons (front_nil))) | exact front_cons (front_cons (front_cons (front_cons (front_nil)))) | exact front_cons (front_cons (front_cons (front_cons (front_cons (front_nil))))) | exact front_cons (front_cons (front_cons (front_cons (front_cons (front_cons (front_nil)))))) | exact front_cons (front_cons (front_cons (front_cons (front_cons (front_cons (front_cons (front_nil))))))) | exact front_cons (front_cons (front_cons (front_cons (front_cons (front_cons (front_cons (front_cons (front_nil)))))))) | exact front_cons (front_cons (front_cons (front_cons (front_cons (front_cons (front_cons (front_cons (front_cons (front_nil))))))))) | exact front_cons (front_cons (front_cons (front_cons (front_cons (front_cons (front_cons (front_cons (front_cons (front_cons (front_nil)))))))))) | exact front_cons (front_cons (front_cons (front_cons (front_cons (front_cons (front_cons (front_cons (front_cons (front_cons (front_cons (front_nil))))))))))) | exact front_cons (front_cons (front_cons (front_cons (front_cons (front_cons (front_cons (front_cons (front_cons (front_cons (front_cons (front_cons (front_nil)))))))))))) | exact front_cons (front_cons (front_cons (front_cons (front_cons (front_cons (front_cons (front_cons (front_cons (front_cons (front_cons (front_cons (front_cons (front_nil))))))))))))) | exact front_cons (front_cons (front_cons (front_cons (front_cons (front_cons (front_cons (front_cons (front_cons (front_cons (front_cons (front_cons (front_cons (front_cons (front_nil)))))))))))))) | exact front_cons (front_cons (front_cons (front_cons (front_cons (front_cons (front_cons (front_cons (front_cons (front_cons (front_cons (front_cons (front_cons (front_cons (front_cons (front_nil))))))))))))))) | exact front_cons (front_cons (front_cons (front_cons (front_cons (front_cons (front_cons (front_cons (front_cons (front_cons (front_cons (front_cons (front_cons (front_cons (front_cons (front_cons (front_nil)))))))))))))))) | exact front_cons (front_cons (front_cons (front_cons (front_cons (front_cons (front_cons (front_cons (front_cons (front_cons (front_cons (front_cons (front_cons (front_cons (front_cons (front_cons (front_cons (front_nil))))))))))))))))) | exact front_cons (front_cons (front_cons (front_cons (front_cons (front_cons (front_cons (front_cons (front_cons (front_cons (front_cons (front_cons (front_cons (front_cons (front_cons (front_cons (front_cons (front_cons (front_nil)))))))))))))))))) | exact front_cons (front_cons (front_cons (front_cons (front_cons (front_cons (front_cons (front_cons (front_cons (front_cons (front_cons (front_cons (front_cons (front_cons (front_cons (front_cons (front_cons (front_cons (front_cons (front_nil))))))))))))))))))) | exact front_cons (front_cons (front_cons (front_cons (front_cons (front_cons (front_cons (front_cons (front_cons (front_cons (front_cons (front_cons (front_cons (front_cons (front_cons (front_cons (front_cons (front_cons (front_cons (front_cons (front_nil)))))))))))))))))))) | exact front_cons (front_cons (front_cons (front_cons (front_cons (front_cons (front_cons (front_cons (front_cons (front_cons (front_cons (front_cons (front_cons (front_cons (front_cons (front_cons (front_cons (front_cons (front_cons (front_cons (front_cons (front_nil))))))))))))))))))))) | exact front_cons (front_cons (front_cons (front_cons (front_cons (front_cons (front_cons (front_cons (front_cons (front_cons (front_cons (front_cons (front_cons (front_cons (front_cons (front_cons (front_cons (front_cons (front_cons (front_cons (front_cons (front_cons (front_nil)))))))))))))))))))))) | exact front_cons (front_cons (front_cons (front_cons (front_cons (front_cons (front_cons (front_cons (front_cons (front_cons (front_cons (front_cons (front_cons (front_cons (front_cons (front_cons (front_cons (front_cons (front_cons (front_cons (front_cons (front_cons (front_cons (front_nil))))))))))))))))))))))) | exact front_cons (front_cons (front_cons (front_cons (front_cons (front_cons (front_cons (front_cons (front_cons (front_cons (front_cons (front_cons (front_cons (front_cons (front_cons (front_cons (front_cons (front_cons (front_cons (front_cons (front_cons (front_cons (front_cons (front_cons (front_nil)))))))))))))))))))))))) | exact front_cons (front_cons (front_cons (front_cons (front_cons (front_cons (front_cons (front_cons (front_cons (front_cons (front_cons (front_cons (front_cons (front_cons (front_cons (front_cons (front_cons (front_cons (front_cons (front_cons (front_cons (front_cons (front_cons (front_cons (front_cons (front_nil))))))))))))))))))))))))) | exact front_cons (front_cons (front_cons (front_cons (front_cons (front_cons (front_cons (front_cons (front_cons (front_cons (front_cons (front_cons (front_cons (front_cons (front_cons (front_cons (front_cons (front_cons (front_cons (front_cons (front_cons (front_cons (front_cons (front_cons (front_cons (front_cons (front_nil)))))))))))))))))))))))))) | exact front_cons (front_cons (front_cons (front_cons (front_cons (front_cons (front_cons (front_cons (front_cons (front_cons (front_cons (front_cons (front_cons (front_cons (front_cons (front_cons (front_cons (front_cons (front_cons (front_cons (front_cons (front_cons (front_cons (front_cons (front_cons (front_cons (front_cons (front_nil)))))))))))))))))))))))))))))
  clear NA NA2
  (repeat' ((fail_if_success (with_reducible refine Stop.in ?_)); first | (k_unfold; (try dsimp only)) | (k_end; wrow_close) | ((with_reducible show wpAny _ _ (call _ _ _) _ _ _); (first | with_reducible show wpAny _ _ (call (Value.ref 108) [Value.ref _]) _ _ _ | with_reducible show wpAny _ _ (call (Value.ref 113) [Value.ref _, Value.ref _]) _ _ _ | with_reducible show wpAny _ _ (call (Value.ref 75) [Value.ref _, Value.ref _]) _ _ _ | with_reducible show wpAny _ _ (call (Value.ref 118) [Value.ref _, Value.ref _]) _ _ _ | with_reducible show wpAny _ _ (call (Value.ref 123) [Value.ref _, Value.ref _, Value.ref _, Value.ref _]) _ _ _ | with_reducible show wpAny _ _ (call (Value.type "dict") _ _) _ _ _ | with_reducible show wpAny _ _ (call (Value.type "dict") (_ :: _) []) _ _ _); refine Stop.out ?_) | ((with_reducible show wpAny _ _ (compareOp _ _ _) _ _ _); (first | with_reducible show wpAny _ _ (compareOp CmpOp.NotEq (Value.ref _) (Value.ref _)) _ _ _ | with_reducible show wpAny _ _ (compareOp CmpOp.Eq (Value.ref _) (Value.ref _)) _ _ _ | with_reducible show wpAny _ _ (compareOp CmpOp.In (Value.int _ _) (Value.ref _)) _ _ _); refine Stop.out ?_) | ((with_reducible show wpAny _ _ (eval _ _) _ _ _); (first | with_reducible show wpAny _ _ (eval (Expr.Dict [] [] _) _) _ _ _ | with_reducible show wpAny _ _ (eval (Expr.ListComp _ _ _ _) _) _ _ _ | with_reducible show wpAny _ _ (eval (Expr.DictComp _ _ _ _ _) _) _ _ _); refine Stop.out ?_) | ((with_reducible show wpAny _ _ (exec _ _) _ _ _); (first | with_reducible show wpAny _ _ (exec (Stmt.Assign (_ :: _) (Expr.ListComp _ _ _ _) _) _) _ _ _); refine Stop.out ?_) | ((with_reducible show wpAny _ _ (pyIter _) _ _ _); (first | with_reducible show wpAny _ _ (pyIter (Value.ref _)) _ _ _); refine Stop.out ?_) |  walk1 | (dsimp only; walk1) | (leave1; walk_say "STEP leave1"; try dsimp only) | fail "no step"))
  refine Stop.in ?_
  k_dflt (refine' Dict_nil ?zF ?zN ?zb ?_; (case zF => k_asm); (case zN => k_asm); (case zb => exact modules_low (Top.nolimit (by k_asm))))
  intro dr oR hR1 FR1 NR1 lR hdR loR
  k_lt lR
  (repeat' ((fail_if_success (with_reducible refine Stop.in ?_)); first | (k_unfold; (try dsimp only)) | (k_end; wrow_close) | ((with_reducible show wpAny _ _ (call _ _ _) _ _ _); (first | with_reducible show wpAny _ _ (call (Value.ref 108) [Value.ref _]) _ _ _ | with_reducible show wpAny _ _ (call (Value.ref 113) [Value.ref _, Value.ref _]) _ _ _ | with_reducible show wpAny _ _ (call (Value.ref 75) [Value.ref _, Value.ref _]) _ _ _ | with_reducible show wpAny _ _ (call (Value.ref 118) [Value.ref _, Value.ref _]) _ _ _ | with_reducible show wpAny _ _ (call (Value.ref 123) [Value.ref _, Value.ref _, Value.ref _, Value.ref _]) _ _ _ | with_reducible show wpAny _ _ (call (Value.type "dict") _ _) _ _ _ | with_reducible show wpAny _ _ (call (Value.type "dict") (_ :: _) []) _ _ _); refine Stop.out ?_) | ((with_reducible show wpAny _ _ (compareOp _ _ _) _ _ _); (first | with_reducible show wpAny _ _ (compareOp CmpOp.NotEq (Value.ref _) (Value.ref _)) _ _ _ | with_reducible show wpAny _ _ (compareOp CmpOp.Eq (Value.ref _) (Value.ref _)) _ _ _ | with_reducible show wpAny _ _ (compareOp CmpOp.In (Value.int _ _) (Value.ref _)) _ _ _); refine Stop.out ?_) | ((with_reducible show wpAny _ _ (eval _ _) _ _ _); (first | with_reducible show wpAny _ _ (eval (Expr.Dict [] [] _) _) _ _ _ | with_reducible show wpAny _ _ (eval (Expr.ListComp _ _ _ _) _) _ _ _ | with_reducible show wpAny _ _ (eval (Expr.DictComp _ _ _ _ _) _) _ _ _); refine Stop.out ?_) | ((with_reducible show wpAny _ _ (exec _ _) _ _ _); (first | with_reducible show wpAny _ _ (exec (Stmt.Assign (_ :: _) (Expr.ListComp _ _ _ _) _) _) _ _ _); refine Stop.out ?_) | ((with_reducible show wpAny _ _ (pyIter _) _ _ _); (first | with_reducible show wpAny _ _ (pyIter (Value.ref _)) _ _ _); refine Stop.out ?_) |  walk1 | (dsimp only; walk1) | (leave1; walk_say "STEP leave1"; try dsimp only) | fail "no step"))
  rename_i rr seat4 carry4 tq t1q t2q hq tkq Fq Nq b1 b2 b3 b4 b5 hR2 tkR2 r1 r2 r3 hRg FR2 NR2 hup2
  obtain ⟨k0, rfl⟩ := Int.eq_ofNat_of_zero_le b1
  refine Stop.in ?_
  refine for_src (Src.range (n := k0) (rsmall (by first | decide | omega)) (rsize _)) (JRow _ _ dr P C 0 _ _ seat4) (by with_unfolding_all rfl) FR2 NR2 hRg ?hK2 (JRow.of (oR := oR) (seat := seat4) (carry := carry4) (ta := t1q) (tb := t2q) (tl := []) jm_start (congrArg (List.cons _) (front_cons (front_cons (front_cons (front_cons (front_cons (front_cons (front_cons (front_cons (front_cons (front_base (congrArg (List.cons _) (front_cons (front_cons (front_cons (front_cons (front_nil))))))))))))))))) hdR .nil (Nat.le_refl _) (fun _ h => nomatch h) (fun _ h => nomatch h) (fun _ h => nomatch h) (by omega) (by omega) b5) ?turn2 ?done2
  case hK2 => intro _ _ _ _ p hp; exact nomatch hp
  case turn2 =>
    intro i u m₁ nx I oI h tk hi hz0 hz1; refine IntAt.casesOn hz0 ?_; intro t; refine JRow.casesOn hz1 ?_; intro u₀ oR kvsR cR seat carry ta tb' tl hdR hDV hlR hkR htd htP hs hs' hc; intro hne F1 N1
    try k_fold
    have hne0 := hne
    simp only [List.cons_append, List.nil_append] at hne
    simp only [List.cons_append, List.nil_append] at N1
    have hIT := neNat (hne0 (dr, oR) (.head _))
    have hIP := neNat (hne0 (P, penObj C seat carry ta tb' 0) (.tail _ (List.mem_append_right _ (.head _))))
    dsimp only at hIT hIP
    
    (repeat' ((fail_if_success (with_reducible refine Stop.in ?_)); first | (k_unfold; (try dsimp only)) | (k_end; wrow_close) | ((with_reducible show wpAny _ _ (call _ _ _) _ _ _); (first | with_reducible show wpAny _ _ (call (Value.ref 108) [Value.ref _]) _ _ _ | with_reducible show wpAny _ _ (call (Value.ref 113) [Value.ref _, Value.ref _]) _ _ _ | with_reducible show wpAny _ _ (call (Value.ref 75) [Value.ref _, Value.ref _]) _ _ _ | with_reducible show wpAny _ _ (call (Value.ref 118) [Value.ref _, Value.ref _]) _ _ _ | with_reducible show wpAny _ _ (call (Value.ref 123) [Value.ref _, Value.ref _, Value.ref _, Value.ref _]) _ _ _ | with_reducible show wpAny _ _ (call (Value.type "dict") _ _) _ _ _ | with_reducible show wpAny _ _ (call (Value.type "dict") (_ :: _) []) _ _ _); refine Stop.out ?_) | ((with_reducible show wpAny _ _ (compareOp _ _ _) _ _ _); (first | with_reducible show wpAny _ _ (compareOp CmpOp.NotEq (Value.ref _) (Value.ref _)) _ _ _ | with_reducible show wpAny _ _ (compareOp CmpOp.Eq (Value.ref _) (Value.ref _)) _ _ _ | with_reducible show wpAny _ _ (compareOp CmpOp.In (Value.int _ _) (Value.ref _)) _ _ _); refine Stop.out ?_) | ((with_reducible show wpAny _ _ (eval _ _) _ _ _); (first | with_reducible show wpAny _ _ (eval (Expr.Dict [] [] _) _) _ _ _ | with_reducible show wpAny _ _ (eval (Expr.ListComp _ _ _ _) _) _ _ _ | with_reducible show wpAny _ _ (eval (Expr.DictComp _ _ _ _ _) _) _ _ _); refine Stop.out ?_) | ((with_reducible show wpAny _ _ (exec _ _) _ _ _); (first | with_reducible show wpAny _ _ (exec (Stmt.Assign (_ :: _) (Expr.ListComp _ _ _ _) _) _) _ _ _); refine Stop.out ?_) | ((with_reducible show wpAny _ _ (pyIter _) _ _ _); (first | with_reducible show wpAny _ _ (pyIter (Value.ref _)) _ _ _); refine Stop.out ?_) |  walk1 | (dsimp only; walk1) | (leave1; walk_say "STEP leave1"; try dsimp only) | fail "no step"))
    rename_i r1 g1 k1 q1 q1a q1b hh1 tk1 a1 a2 a3 a4 a5 r2 g2 k2 q2 q2a q2b hh2 tk2 b1' b2' b3' b4' b5' Tt hT1 FT NT lT r3 g3 k3 q3 q3a q3b hh3 tk3 F3 N3 z1 z2 z3 z4 z5 hL oL FL NL hdL
    obtain ⟨qa, qb, NL'⟩ : ∃ qa qb, News _ _ hL ((Tt, tupO r1 r2 qa qb) :: _) := ⟨_, _, NL⟩
    have hDV2 := (hDV.mono fun v c => TV.mono fun p hp => List.mem_cons_of_mem (Tt, tupO r1 r2 qa qb) hp).stored r3 (v := .ref Tt) ⟨Tt, r1, r2, qa, qb, rfl, .head _, by omega, by omega, by omega, by omega, rfl⟩
    have ht1 : @LT.lt Nat _ dr Tt := lT.2.1
    have ht2 : @LT.lt Nat _ P Tt := lT.2.2.2.2.2.2.2.2.2.2.2.1
    refine TurnEnd.intro _ FL NL' ?zsub (ne_ins hne0 lT.1) (.of (oR := oL) (seat := g3) (carry := k3) (ta := q3a) (tb := q3b) (tl := (Tt, tupO r1 r2 qa qb) :: tl) jm_next rfl hdL hDV2 (Nat.le_trans (stored_length_le _ _ _) (by omega)) (keys_put hkR (by omega) (by omega)) (List.forall_mem_cons.mpr ⟨Nat.ne_of_gt ht1, htd⟩) (List.forall_mem_cons.mpr ⟨Nat.ne_of_gt ht2, htP⟩) (by omega) (by omega) z5)
    case zsub => simp only [List.cons_append, List.nil_append]; ((repeat (refine sub_cons (by k_mem) ?_)); (first | exact sub_nil | (repeat (first | with_reducible assumption | with_reducible exact sub_same | refine sub_tail ?_))))
    
  intro m₁ nx h20 tk20 hz0; refine JRow.casesOn hz0 ?_; intro u₀ oR kvsR cR seat5 carry5 ta5 tb5 tl hdR hDV hlR hkR htd htP hs5 hs5' hc5; dsimp only [List.cons_append, List.nil_append]; intro F20 N20
  try dsimp only
  (repeat' ((fail_if_success (with_reducible refine Stop.in ?_)); first | (k_unfold; (try dsimp only)) | (k_end; wrow_close) | ((with_reducible show wpAny _ _ (call _ _ _) _ _ _); (first | with_reducible show wpAny _ _ (call (Value.ref 108) [Value.ref _]) _ _ _ | with_reducible show wpAny _ _ (call (Value.ref 113) [Value.ref _, Value.ref _]) _ _ _ | with_reducible show wpAny _ _ (call (Value.ref 75) [Value.ref _, Value.ref _]) _ _ _ | with_reducible show wpAny _ _ (call (Value.ref 118) [Value.ref _, Value.ref _]) _ _ _ | with_reducible show wpAny _ _ (call (Value.ref 123) [Value.ref _, Value.ref _, Value.ref _, Value.ref _]) _ _ _ | with_reducible show wpAny _ _ (call (Value.type "dict") _ _) _ _ _ | with_reducible show wpAny _ _ (call (Value.type "dict") (_ :: _) []) _ _ _); refine Stop.out ?_) | ((with_reducible show wpAny _ _ (compareOp _ _ _) _ _ _); (first | with_reducible show wpAny _ _ (compareOp CmpOp.NotEq (Value.ref _) (Value.ref _)) _ _ _ | with_reducible show wpAny _ _ (compareOp CmpOp.Eq (Value.ref _) (Value.ref _)) _ _ _ | with_reducible show wpAny _ _ (compareOp CmpOp.In (Value.int _ _) (Value.ref _)) _ _ _); refine Stop.out ?_) | ((with_reducible show wpAny _ _ (eval _ _) _ _ _); (first | with_reducible show wpAny _ _ (eval (Expr.Dict [] [] _) _) _ _ _ | with_reducible show wpAny _ _ (eval (Expr.ListComp _ _ _ _) _) _ _ _ | with_reducible show wpAny _ _ (eval (Expr.DictComp _ _ _ _ _) _) _ _ _); refine Stop.out ?_) | ((with_reducible show wpAny _ _ (exec _ _) _ _ _); (first | with_reducible show wpAny _ _ (exec (Stmt.Assign (_ :: _) (Expr.ListComp _ _ _ _) _) _) _ _ _); refine Stop.out ?_) | ((with_reducible show wpAny _ _ (pyIter _) _ _ _); (first | with_reducible show wpAny _ _ (pyIter (Value.ref _)) _ _ _); refine Stop.out ?_) |  walk1 | (dsimp only; walk1) | (leave1; walk_say "STEP leave1"; try dsimp only) | fail "no step"))
  refine Stop.in ?_
  k_dflt (refine' d_copy ?zF ?zN ?zp hdR loR ?zb (by omega) ?_; (case zF => k_asm); (case zN => k_asm); (case zp => k_mem); (case zb => exact modules_low (Top.nolimit (by k_asm))))
  intro db ob h21 F21 N21 lb hdb lob
  k_lt lb
  try dsimp only
  (repeat' ((fail_if_success (with_reducible refine Stop.in ?_)); first | (k_unfold; (try dsimp only)) | (k_end; wrow_close) | ((with_reducible show wpAny _ _ (call _ _ _) _ _ _); (first | with_reducible show wpAny _ _ (call (Value.ref 108) [Value.ref _]) _ _ _ | with_reducible show wpAny _ _ (call (Value.ref 113) [Value.ref _, Value.ref _]) _ _ _ | with_reducible show wpAny _ _ (call (Value.ref 75) [Value.ref _, Value.ref _]) _ _ _ | with_reducible show wpAny _ _ (call (Value.ref 118) [Value.ref _, Value.ref _]) _ _ _ | with_reducible show wpAny _ _ (call (Value.ref 123) [Value.ref _, Value.ref _, Value.ref _, Value.ref _]) _ _ _ | with_reducible show wpAny _ _ (call (Value.type "dict") _ _) _ _ _ | with_reducible show wpAny _ _ (call (Value.type "dict") (_ :: _) []) _ _ _); refine Stop.out ?_) | ((with_reducible show wpAny _ _ (compareOp _ _ _) _ _ _); (first | with_reducible show wpAny _ _ (compareOp CmpOp.NotEq (Value.ref _) (Value.ref _)) _ _ _ | with_reducible show wpAny _ _ (compareOp CmpOp.Eq (Value.ref _) (Value.ref _)) _ _ _ | with_reducible show wpAny _ _ (compareOp CmpOp.In (Value.int _ _) (Value.ref _)) _ _ _); refine Stop.out ?_) | ((with_reducible show wpAny _ _ (eval _ _) _ _ _); (first | with_reducible show wpAny _ _ (eval (Expr.Dict [] [] _) _) _ _ _ | with_reducible show wpAny _ _ (eval (Expr.ListComp _ _ _ _) _) _ _ _ | with_reducible show wpAny _ _ (eval (Expr.DictComp _ _ _ _ _) _) _ _ _); refine Stop.out ?_) | ((with_reducible show wpAny _ _ (exec _ _) _ _ _); (first | with_reducible show wpAny _ _ (exec (Stmt.Assign (_ :: _) (Expr.ListComp _ _ _ _) _) _) _ _ _); refine Stop.out ?_) | ((with_reducible show wpAny _ _ (pyIter _) _ _ _); (first | with_reducible show wpAny _ _ (pyIter (Value.ref _)) _ _ _); refine Stop.out ?_) |  walk1 | (dsimp only; walk1) | (leave1; walk_say "STEP leave1"; try dsimp only) | fail "no step"))
  rename_i Z1 hZ1 FZ1 NZ1 lZ1
  refine Stop.in ?_
  k_dflt (refine' rowshold_u (p := 0) ?zB ?zF ?zK ?zN ?zT ?zk ?zd ?zu ?zdm hdR loR ?zDV (by omega) ?zTV hkR ?_; (case zB => k_asm); (case zF => k_asm); (case zK => k_asm); (case zN => k_asm); (case zT => k_asm); (case zk => exact rfl); (case zd => k_room); (case zu => k_units); (case zdm => k_mem); (case zDV => (refine hDV.mono fun v c => TV.mono ?_); (repeat (first | with_reducible assumption | with_reducible exact sub_same | refine sub_tail ?_))); (case zTV => exact ⟨Z1, 0, 0, _, _, rfl, .head _, by decide, by decide, by decide, by decide, by decide⟩))
  intro h22 tk22 F22 N22
  try dsimp only
  (repeat' ((fail_if_success (with_reducible refine Stop.in ?_)); first | (k_unfold; (try dsimp only)) | (k_end; wrow_close) | ((with_reducible show wpAny _ _ (call _ _ _) _ _ _); (first | with_reducible show wpAny _ _ (call (Value.ref 108) [Value.ref _]) _ _ _ | with_reducible show wpAny _ _ (call (Value.ref 113) [Value.ref _, Value.ref _]) _ _ _ | with_reducible show wpAny _ _ (call (Value.ref 75) [Value.ref _, Value.ref _]) _ _ _ | with_reducible show wpAny _ _ (call (Value.ref 118) [Value.ref _, Value.ref _]) _ _ _ | with_reducible show wpAny _ _ (call (Value.ref 123) [Value.ref _, Value.ref _, Value.ref _, Value.ref _]) _ _ _ | with_reducible show wpAny _ _ (call (Value.type "dict") _ _) _ _ _ | with_reducible show wpAny _ _ (call (Value.type "dict") (_ :: _) []) _ _ _); refine Stop.out ?_) | ((with_reducible show wpAny _ _ (compareOp _ _ _) _ _ _); (first | with_reducible show wpAny _ _ (compareOp CmpOp.NotEq (Value.ref _) (Value.ref _)) _ _ _ | with_reducible show wpAny _ _ (compareOp CmpOp.Eq (Value.ref _) (Value.ref _)) _ _ _ | with_reducible show wpAny _ _ (compareOp CmpOp.In (Value.int _ _) (Value.ref _)) _ _ _); refine Stop.out ?_) | ((with_reducible show wpAny _ _ (eval _ _) _ _ _); (first | with_reducible show wpAny _ _ (eval (Expr.Dict [] [] _) _) _ _ _ | with_reducible show wpAny _ _ (eval (Expr.ListComp _ _ _ _) _) _ _ _ | with_reducible show wpAny _ _ (eval (Expr.DictComp _ _ _ _ _) _) _ _ _); refine Stop.out ?_) | ((with_reducible show wpAny _ _ (exec _ _) _ _ _); (first | with_reducible show wpAny _ _ (exec (Stmt.Assign (_ :: _) (Expr.ListComp _ _ _ _) _) _) _ _ _); refine Stop.out ?_) | ((with_reducible show wpAny _ _ (pyIter _) _ _ _); (first | with_reducible show wpAny _ _ (pyIter (Value.ref _)) _ _ _); refine Stop.out ?_) |  walk1 | (dsimp only; walk1) | (leave1; walk_say "STEP leave1"; try dsimp only) | fail "no step"))
  rename_i Z2 hZ2 FZ2 NZ2 lZ2
  refine Stop.in ?_
  k_dflt (refine' rowshold_u (p := 65538) ?zB ?zF ?zK ?zN ?zT ?zk ?zd ?zu ?zdm hdR loR ?zDV (by omega) ?zTV hkR ?_; (case zB => k_asm); (case zF => k_asm); (case zK => k_asm); (case zN => k_asm); (case zT => k_asm); (case zk => exact rfl); (case zd => k_room); (case zu => k_units); (case zdm => k_mem); (case zDV => (refine hDV.mono fun v c => TV.mono ?_); (repeat (first | with_reducible assumption | with_reducible exact sub_same | refine sub_tail ?_))); (case zTV => exact ⟨Z2, 1, 2, _, _, rfl, .head _, by decide, by decide, by decide, by decide, by decide⟩))
  intro h23 tk23 F23 N23
  try dsimp only
  (repeat' ((fail_if_success (with_reducible refine Stop.in ?_)); first | (k_unfold; (try dsimp only)) | (k_end; wrow_close) | ((with_reducible show wpAny _ _ (call _ _ _) _ _ _); (first | with_reducible show wpAny _ _ (call (Value.ref 108) [Value.ref _]) _ _ _ | with_reducible show wpAny _ _ (call (Value.ref 113) [Value.ref _, Value.ref _]) _ _ _ | with_reducible show wpAny _ _ (call (Value.ref 75) [Value.ref _, Value.ref _]) _ _ _ | with_reducible show wpAny _ _ (call (Value.ref 118) [Value.ref _, Value.ref _]) _ _ _ | with_reducible show wpAny _ _ (call (Value.ref 123) [Value.ref _, Value.ref _, Value.ref _, Value.ref _]) _ _ _ | with_reducible show wpAny _ _ (call (Value.type "dict") _ _) _ _ _ | with_reducible show wpAny _ _ (call (Value.type "dict") (_ :: _) []) _ _ _); refine Stop.out ?_) | ((with_reducible show wpAny _ _ (compareOp _ _ _) _ _ _); (first | with_reducible show wpAny _ _ (compareOp CmpOp.NotEq (Value.ref _) (Value.ref _)) _ _ _ | with_reducible show wpAny _ _ (compareOp CmpOp.Eq (Value.ref _) (Value.ref _)) _ _ _ | with_reducible show wpAny _ _ (compareOp CmpOp.In (Value.int _ _) (Value.ref _)) _ _ _); refine Stop.out ?_) | ((with_reducible show wpAny _ _ (eval _ _) _ _ _); (first | with_reducible show wpAny _ _ (eval (Expr.Dict [] [] _) _) _ _ _ | with_reducible show wpAny _ _ (eval (Expr.ListComp _ _ _ _) _) _ _ _ | with_reducible show wpAny _ _ (eval (Expr.DictComp _ _ _ _ _) _) _ _ _); refine Stop.out ?_) | ((with_reducible show wpAny _ _ (exec _ _) _ _ _); (first | with_reducible show wpAny _ _ (exec (Stmt.Assign (_ :: _) (Expr.ListComp _ _ _ _) _) _) _ _ _); refine Stop.out ?_) | ((with_reducible show wpAny _ _ (pyIter _) _ _ _); (first | with_reducible show wpAny _ _ (pyIter (Value.ref _)) _ _ _); refine Stop.out ?_) |  walk1 | (dsimp only; walk1) | (leave1; walk_say "STEP leave1"; try dsimp only) | fail "no step"))
  refine Stop.in ?_
  k_dflt (refine' dd_ne ?zN ?zp ?zp2 hdR hdb loR lob hDV hDV (eqR_ts ?zN2 ?zhs ?zu) ?zu2 (fun _ => rfl) ?_; (case zN => k_asm); (case zp => k_mem); (case zp2 => k_mem); (case zN2 => k_asm); (case zhs => (repeat (first | with_reducible assumption | with_reducible exact sub_same | refine sub_tail ?_))); (case zu => k_units); (case zu2 => k_units))
  (repeat' ((fail_if_success (with_reducible refine Stop.in ?_)); first | (k_unfold; (try dsimp only)) | (k_end; wrow_close) | ((with_reducible show wpAny _ _ (call _ _ _) _ _ _); (first | with_reducible show wpAny _ _ (call (Value.ref 108) [Value.ref _]) _ _ _ | with_reducible show wpAny _ _ (call (Value.ref 113) [Value.ref _, Value.ref _]) _ _ _ | with_reducible show wpAny _ _ (call (Value.ref 75) [Value.ref _, Value.ref _]) _ _ _ | with_reducible show wpAny _ _ (call (Value.ref 118) [Value.ref _, Value.ref _]) _ _ _ | with_reducible show wpAny _ _ (call (Value.ref 123) [Value.ref _, Value.ref _, Value.ref _, Value.ref _]) _ _ _ | with_reducible show wpAny _ _ (call (Value.type "dict") _ _) _ _ _ | with_reducible show wpAny _ _ (call (Value.type "dict") (_ :: _) []) _ _ _); refine Stop.out ?_) | ((with_reducible show wpAny _ _ (compareOp _ _ _) _ _ _); (first | with_reducible show wpAny _ _ (compareOp CmpOp.NotEq (Value.ref _) (Value.ref _)) _ _ _ | with_reducible show wpAny _ _ (compareOp CmpOp.Eq (Value.ref _) (Value.ref _)) _ _ _ | with_reducible show wpAny _ _ (compareOp CmpOp.In (Value.int _ _) (Value.ref _)) _ _ _); refine Stop.out ?_) | ((with_reducible show wpAny _ _ (eval _ _) _ _ _); (first | with_reducible show wpAny _ _ (eval (Expr.Dict [] [] _) _) _ _ _ | with_reducible show wpAny _ _ (eval (Expr.ListComp _ _ _ _) _) _ _ _ | with_reducible show wpAny _ _ (eval (Expr.DictComp _ _ _ _ _) _) _ _ _); refine Stop.out ?_) | ((with_reducible show wpAny _ _ (exec _ _) _ _ _); (first | with_reducible show wpAny _ _ (exec (Stmt.Assign (_ :: _) (Expr.ListComp _ _ _ _) _) _) _ _ _); refine Stop.out ?_) | ((with_reducible show wpAny _ _ (pyIter _) _ _ _); (first | with_reducible show wpAny _ _ (pyIter (Value.ref _)) _ _ _); refine Stop.out ?_) |  walk1 | (dsimp only; walk1) | (leave1; walk_say "STEP leave1"; try dsimp only) | fail "no step"))
  refine Stop.in ?_
  k_dflt (refine' commonhold_u ?zB ?zF ?zK ?zN ?zT ?zk ?zd ?zu ?z1 ?z2 ?z3 ?z4 ?z5 ?z6 ?z7 ?z8 he1 loe1 he2 loe2 hd1 lo1 hd2 lo2 hv1 hv2 (by omega) (by omega) hok1 hok2 ?_; (case zB => k_asm); (case zF => k_asm); (case zK => k_asm); (case zN => k_asm); (case zT => k_asm); (case zk => exact rfl); (case zd => k_room); (case zu => k_units); (case z1 => k_mem); (case z2 => k_mem); (case z3 => k_mem); (case z4 => k_mem); (case z5 => k_mem); (case z6 => k_mem); (case z7 => k_mem); (case z8 => k_mem))
  intro h24 tk24 F24 N24
  try dsimp only
  (repeat' ((fail_if_success (with_reducible refine Stop.in ?_)); first | (k_unfold; (try dsimp only)) | (k_end; wrow_close) | ((with_reducible show wpAny _ _ (call _ _ _) _ _ _); (first | with_reducible show wpAny _ _ (call (Value.ref 108) [Value.ref _]) _ _ _ | with_reducible show wpAny _ _ (call (Value.ref 113) [Value.ref _, Value.ref _]) _ _ _ | with_reducible show wpAny _ _ (call (Value.ref 75) [Value.ref _, Value.ref _]) _ _ _ | with_reducible show wpAny _ _ (call (Value.ref 118) [Value.ref _, Value.ref _]) _ _ _ | with_reducible show wpAny _ _ (call (Value.ref 123) [Value.ref _, Value.ref _, Value.ref _, Value.ref _]) _ _ _ | with_reducible show wpAny _ _ (call (Value.type "dict") _ _) _ _ _ | with_reducible show wpAny _ _ (call (Value.type "dict") (_ :: _) []) _ _ _); refine Stop.out ?_) | ((with_reducible show wpAny _ _ (compareOp _ _ _) _ _ _); (first | with_reducible show wpAny _ _ (compareOp CmpOp.NotEq (Value.ref _) (Value.ref _)) _ _ _ | with_reducible show wpAny _ _ (compareOp CmpOp.Eq (Value.ref _) (Value.ref _)) _ _ _ | with_reducible show wpAny _ _ (compareOp CmpOp.In (Value.int _ _) (Value.ref _)) _ _ _); refine Stop.out ?_) | ((with_reducible show wpAny _ _ (eval _ _) _ _ _); (first | with_reducible show wpAny _ _ (eval (Expr.Dict [] [] _) _) _ _ _ | with_reducible show wpAny _ _ (eval (Expr.ListComp _ _ _ _) _) _ _ _ | with_reducible show wpAny _ _ (eval (Expr.DictComp _ _ _ _ _) _) _ _ _); refine Stop.out ?_) | ((with_reducible show wpAny _ _ (exec _ _) _ _ _); (first | with_reducible show wpAny _ _ (exec (Stmt.Assign (_ :: _) (Expr.ListComp _ _ _ _) _) _) _ _ _); refine Stop.out ?_) | ((with_reducible show wpAny _ _ (pyIter _) _ _ _); (first | with_reducible show wpAny _ _ (pyIter (Value.ref _)) _ _ _); refine Stop.out ?_) |  walk1 | (dsimp only; walk1) | (leave1; walk_say "STEP leave1"; try dsimp only) | fail "no step"))
  refine Stop.in ?_
  k_dflt (refine' commonhold_u ?zB ?zF ?zK ?zN ?zT ?zk ?zd ?zu ?z1 ?z2 ?z3 ?z4 ?z5 ?z6 ?z7 ?z8 he2 loe2 he1 loe1 hd2 lo2 hd1 lo1 hv2 hv1 (by omega) (by omega) hok2 hok1 ?_; (case zB => k_asm); (case zF => k_asm); (case zK => k_asm); (case zN => k_asm); (case zT => k_asm); (case zk => exact rfl); (case zd => k_room); (case zu => k_units); (case z1 => k_mem); (case z2 => k_mem); (case z3 => k_mem); (case z4 => k_mem); (case z5 => k_mem); (case z6 => k_mem); (case z7 => k_mem); (case z8 => k_mem))
  intro h25 tk25 F25 N25
  try dsimp only
  (repeat' ((fail_if_success (with_reducible refine Stop.in ?_)); first | (k_unfold; (try dsimp only)) | (k_end; wrow_close) | ((with_reducible show wpAny _ _ (call _ _ _) _ _ _); (first | with_reducible show wpAny _ _ (call (Value.ref 108) [Value.ref _]) _ _ _ | with_reducible show wpAny _ _ (call (Value.ref 113) [Value.ref _, Value.ref _]) _ _ _ | with_reducible show wpAny _ _ (call (Value.ref 75) [Value.ref _, Value.ref _]) _ _ _ | with_reducible show wpAny _ _ (call (Value.ref 118) [Value.ref _, Value.ref _]) _ _ _ | with_reducible show wpAny _ _ (call (Value.ref 123) [Value.ref _, Value.ref _, Value.ref _, Value.ref _]) _ _ _ | with_reducible show wpAny _ _ (call (Value.type "dict") _ _) _ _ _ | with_reducible show wpAny _ _ (call (Value.type "dict") (_ :: _) []) _ _ _); refine Stop.out ?_) | ((with_reducible show wpAny _ _ (compareOp _ _ _) _ _ _); (first | with_reducible show wpAny _ _ (compareOp CmpOp.NotEq (Value.ref _) (Value.ref _)) _ _ _ | with_reducible show wpAny _ _ (compareOp CmpOp.Eq (Value.ref _) (Value.ref _)) _ _ _ | with_reducible show wpAny _ _ (compareOp CmpOp.In (Value.int _ _) (Value.ref _)) _ _ _); refine Stop.out ?_) | ((with_reducible show wpAny _ _ (eval _ _) _ _ _); (first | with_reducible show wpAny _ _ (eval (Expr.Dict [] [] _) _) _ _ _ | with_reducible show wpAny _ _ (eval (Expr.ListComp _ _ _ _) _) _ _ _ | with_reducible show wpAny _ _ (eval (Expr.DictComp _ _ _ _ _) _) _ _ _); refine Stop.out ?_) | ((with_reducible show wpAny _ _ (exec _ _) _ _ _); (first | with_reducible show wpAny _ _ (exec (Stmt.Assign (_ :: _) (Expr.ListComp _ _ _ _) _) _) _ _ _); refine Stop.out ?_) | ((with_reducible show wpAny _ _ (pyIter _) _ _ _); (first | with_reducible show wpAny _ _ (pyIter (Value.ref _)) _ _ _); refine Stop.out ?_) |  walk1 | (dsimp only; walk1) | (leave1; walk_say "STEP leave1"; try dsimp only) | fail "no step"))
  refine Stop.in ?_
  k_dflt (refine' dd_eq ?zN ?zp ?zp2 he1 hd1 loe1 lo1 (DV.ofIV hv1) (DV.ofIV hv1) eqR_int ?zu (fun _ => rfl) ?_; (case zN => k_asm); (case zp => k_mem); (case zp2 => k_mem); (case zu => k_units))
  (repeat' ((fail_if_success (with_reducible refine Stop.in ?_)); first | (k_unfold; (try dsimp only)) | (k_end; wrow_close) | ((with_reducible show wpAny _ _ (call _ _ _) _ _ _); (first | with_reducible show wpAny _ _ (call (Value.ref 108) [Value.ref _]) _ _ _ | with_reducible show wpAny _ _ (call (Value.ref 113) [Value.ref _, Value.ref _]) _ _ _ | with_reducible show wpAny _ _ (call (Value.ref 75) [Value.ref _, Value.ref _]) _ _ _ | with_reducible show wpAny _ _ (call (Value.ref 118) [Value.ref _, Value.ref _]) _ _ _ | with_reducible show wpAny _ _ (call (Value.ref 123) [Value.ref _, Value.ref _, Value.ref _, Value.ref _]) _ _ _ | with_reducible show wpAny _ _ (call (Value.type "dict") _ _) _ _ _ | with_reducible show wpAny _ _ (call (Value.type "dict") (_ :: _) []) _ _ _); refine Stop.out ?_) | ((with_reducible show wpAny _ _ (compareOp _ _ _) _ _ _); (first | with_reducible show wpAny _ _ (compareOp CmpOp.NotEq (Value.ref _) (Value.ref _)) _ _ _ | with_reducible show wpAny _ _ (compareOp CmpOp.Eq (Value.ref _) (Value.ref _)) _ _ _ | with_reducible show wpAny _ _ (compareOp CmpOp.In (Value.int _ _) (Value.ref _)) _ _ _); refine Stop.out ?_) | ((with_reducible show wpAny _ _ (eval _ _) _ _ _); (first | with_reducible show wpAny _ _ (eval (Expr.Dict [] [] _) _) _ _ _ | with_reducible show wpAny _ _ (eval (Expr.ListComp _ _ _ _) _) _ _ _ | with_reducible show wpAny _ _ (eval (Expr.DictComp _ _ _ _ _) _) _ _ _); refine Stop.out ?_) | ((with_reducible show wpAny _ _ (exec _ _) _ _ _); (first | with_reducible show wpAny _ _ (exec (Stmt.Assign (_ :: _) (Expr.ListComp _ _ _ _) _) _) _ _ _); refine Stop.out ?_) | ((with_reducible show wpAny _ _ (pyIter _) _ _ _); (first | with_reducible show wpAny _ _ (pyIter (Value.ref _)) _ _ _); refine Stop.out ?_) |  walk1 | (dsimp only; walk1) | (leave1; walk_say "STEP leave1"; try dsimp only) | fail "no step"))
  refine Stop.in ?_
  k_dflt (refine' dd_eq ?zN ?zp ?zp2 he2 hd2 loe2 lo2 (DV.ofIV hv2) (DV.ofIV hv2) eqR_int ?zu (fun _ => rfl) ?_; (case zN => k_asm); (case zp => k_mem); (case zp2 => k_mem); (case zu => k_units))
  (repeat' ((fail_if_success (with_reducible refine Stop.in ?_)); first | (k_unfold; (try dsimp only)) | (k_end; wrow_close) | ((with_reducible show wpAny _ _ (call _ _ _) _ _ _); (first | with_reducible show wpAny _ _ (call (Value.ref 108) [Value.ref _]) _ _ _ | with_reducible show wpAny _ _ (call (Value.ref 113) [Value.ref _, Value.ref _]) _ _ _ | with_reducible show wpAny _ _ (call (Value.ref 75) [Value.ref _, Value.ref _]) _ _ _ | with_reducible show wpAny _ _ (call (Value.ref 118) [Value.ref _, Value.ref _]) _ _ _ | with_reducible show wpAny _ _ (call (Value.ref 123) [Value.ref _, Value.ref _, Value.ref _, Value.ref _]) _ _ _ | with_reducible show wpAny _ _ (call (Value.type "dict") _ _) _ _ _ | with_reducible show wpAny _ _ (call (Value.type "dict") (_ :: _) []) _ _ _); refine Stop.out ?_) | ((with_reducible show wpAny _ _ (compareOp _ _ _) _ _ _); (first | with_reducible show wpAny _ _ (compareOp CmpOp.NotEq (Value.ref _) (Value.ref _)) _ _ _ | with_reducible show wpAny _ _ (compareOp CmpOp.Eq (Value.ref _) (Value.ref _)) _ _ _ | with_reducible show wpAny _ _ (compareOp CmpOp.In (Value.int _ _) (Value.ref _)) _ _ _); refine Stop.out ?_) | ((with_reducible show wpAny _ _ (eval _ _) _ _ _); (first | with_reducible show wpAny _ _ (eval (Expr.Dict [] [] _) _) _ _ _ | with_reducible show wpAny _ _ (eval (Expr.ListComp _ _ _ _) _) _ _ _ | with_reducible show wpAny _ _ (eval (Expr.DictComp _ _ _ _ _) _) _ _ _); refine Stop.out ?_) | ((with_reducible show wpAny _ _ (exec _ _) _ _ _); (first | with_reducible show wpAny _ _ (exec (Stmt.Assign (_ :: _) (Expr.ListComp _ _ _ _) _) _) _ _ _); refine Stop.out ?_) | ((with_reducible show wpAny _ _ (pyIter _) _ _ _); (first | with_reducible show wpAny _ _ (pyIter (Value.ref _)) _ _ _); refine Stop.out ?_) |  walk1 | (dsimp only; walk1) | (leave1; walk_say "STEP leave1"; try dsimp only) | fail "no step")))
end Law

end AroundMAC
end Mine
theorem PySem.Challenge.cw_nu0148_01_holds : PySem.Challenge.rw_nu0148_01.Holds := by
  exact Mine.law_holds
