import PyProof.Rows.All
import Wide.All
import OpenK.AllK
import Wide.FinOn
import HandS.ForMost
import HandS.Star
import HandS.Deep
import HandS.Conv
import HandS.Strs
import HandS.SetFor
import HandS.TupMul
import HandS.TupAny
import HandS.IsInst
import HandS.Lambda
import HandS.EndTab
import HandS.SortInts
import KE.DatumOrd
import KE.SortData
import KE.KDictDisplayH
import KE.GoesEnum
import HandS.Style
import PySem.Challenge.RW_tallsits_k62_whole_weights_compared
set_option Elab.async false
set_option linter.all false
set_option maxRecDepth 100000
set_option maxHeartbeats 4000000
namespace Ts
open PySem PySem.Spec PyProof.Rows L2
open PySem.W (Datum DatumOrd Tup Holds HoldAll)

/-! ### what values stand for -/
def TI (H : Hp) (x : V) (ns : List Int) : Prop := ∃ t, x = .ref t ∧ H t = some (.tup (ns.map V.int))
def PR (H : Hp) (x : V) (p : Int × List Int) : Prop := ∃ t q, x = .ref t ∧ H t = some (.tup [.int p.1, q]) ∧ TI H q p.2
def LT (H : Hp) (x : V) (rows : List (List Int)) : Prop := ∃ t xs, x = .ref t ∧ H t = some (.lst xs) ∧ Paired (TI H) xs rows
def LP (H : Hp) (x : V) (ps : List (Int × List Int)) : Prop := ∃ t xs, x = .ref t ∧ H t = some (.lst xs) ∧ Paired (PR H) xs ps
def LI (H : Hp) (x : V) (ns : List Int) : Prop := ∃ t, x = .ref t ∧ H t = some (.lst (ns.map V.int))
def WB (H : Hp) (x : V) (W : List (List Int)) : Prop := ∃ t xs, x = .ref t ∧ H t = some (.tup xs) ∧ Paired (TI H) xs W
theorem TI.mono {H H' : Hp} (s : Same H H') {x ns} (h : TI H x ns) : TI H' x ns := let ⟨t, e, q⟩ := h; ⟨t, e, s _ _ q⟩
theorem PR.mono {H H' : Hp} (s : Same H H') {x p} (h : PR H x p) : PR H' x p := let ⟨t, q, e, h1, h2⟩ := h; ⟨t, q, e, s _ _ h1, h2.mono s⟩
theorem pTI.mono {H H' : Hp} (s : Same H H') {xs rows} (h : Paired (TI H) xs rows) : Paired (TI H') xs rows := L2.Paired.mapP h fun _ _ q => q.mono s
theorem pPR.mono {H H' : Hp} (s : Same H H') {xs rows} (h : Paired (PR H) xs rows) : Paired (PR H') xs rows := L2.Paired.mapP h fun _ _ q => q.mono s
theorem LT.mono {H H' : Hp} (s : Same H H') {x r} (h : LT H x r) : LT H' x r := let ⟨t, xs, e, h1, h2⟩ := h; ⟨t, xs, e, s _ _ h1, pTI.mono s h2⟩
theorem LP.mono {H H' : Hp} (s : Same H H') {x r} (h : LP H x r) : LP H' x r := let ⟨t, xs, e, h1, h2⟩ := h; ⟨t, xs, e, s _ _ h1, pPR.mono s h2⟩
theorem LI.mono {H H' : Hp} (s : Same H H') {x r} (h : LI H x r) : LI H' x r := let ⟨t, e, h1⟩ := h; ⟨t, e, s _ _ h1⟩
theorem WB.mono {H H' : Hp} (s : Same H H') {x r} (h : WB H x r) : WB H' x r := let ⟨t, xs, e, h1, h2⟩ := h; ⟨t, xs, e, s _ _ h1, pTI.mono s h2⟩

/-! ### as typed data -/
abbrev Row := Tup Int
section
variable {K : PySem.W.Frag} {H : Hp}
theorem dpInts : ∀ ns : List Int, DpAll K H (ns.map V.int) (ns.map Datum.toD)
  | [] => .nil
  | n :: ns => .cons (.int n) (dpInts ns)
theorem TI.dp {x ns} (h : TI H x ns) : Dp K H x (Datum.toD (⟨ns⟩ : Row)) := by
  obtain ⟨t, rfl, e⟩ := h
  exact .tup (SqT.of e) (dpInts ns)
theorem PR.dp {x} {p : Int × List Int} (h : PR H x p) : Dp K H x (Datum.toD ((p.1, ⟨p.2⟩) : Int × Row)) := by
  obtain ⟨t, q, rfl, e, h2⟩ := h
  exact .tup (SqT.of e) (.cons (.int _) (.cons h2.dp .nil))
theorem LI.dp {x ns} (h : LI H x ns) : Dp K H x (Datum.toD (ns : List Int)) := by
  obtain ⟨t, rfl, e⟩ := h
  exact .lst (SqL.of e) (dpInts ns)
theorem dpRows : ∀ {xs rows}, Paired (TI H) xs rows → DpAll K H xs ((rows.map fun r => (⟨r⟩ : Row)).map Datum.toD)
  | _, _, .nil => .nil
  | _, _, .cons h t => .cons h.dp (dpRows t)
theorem dpPrs : ∀ {xs ps}, Paired (PR H) xs ps → DpAll K H xs ((ps.map fun p => ((p.1, ⟨p.2⟩) : Int × Row)).map Datum.toD)
  | _, _, .nil => .nil
  | _, _, .cons h t => .cons h.dp (dpPrs t)
theorem LT.dp {x rows} (h : LT H x rows) : Dp K H x (Datum.toD (rows.map fun r => (⟨r⟩ : Row))) := by
  obtain ⟨t, xs, rfl, e, h2⟩ := h
  exact .lst (SqL.of e) (dpRows h2)
end
section
variable {X : Cx} {pins : List (Addr × Obj)} {σ : L2.St} {H : Hp} {s : Shared}
theorem holds {α : Type} [DecidableEq α] [Datum α] {x : V} {u : Value} {a : α} (I : Inv X pins σ H s) (h : Dp X.K H x (Datum.toD a)) (r : RelV x u) : Holds s.heap u a := Dp.reads I _ _ _ h r
theorem holdAll {α : Type} [DecidableEq α] [Datum α] {xs : List V} {us : List Value} {as : List α} (I : Inv X pins σ H s) (h : DpAll X.K H xs (as.map Datum.toD)) (r : Vals xs us) : HoldAll s.heap us as := Dp.readsAll I _ _ _ h r
end
theorem row_inj {a b : List Int} : ((⟨a⟩ : Row) = ⟨b⟩) ↔ a = b := ⟨fun e => by injection e, fun e => by rw [e]⟩

/-! ### ==, != -/
section
variable {X : Cx}
theorem op_eqR (hu : X.A.units + 64 < cLine) : OpR X (compareOp .Eq) (fun x y H Q => ∃ ns ms, TI H x ns ∧ TI H y ms ∧ Q (.bl (decide (ns = ms))) H) := by
  intro pins s σ H x y v u Q I rx ry h
  obtain ⟨ns, ms, h1, h2, q⟩ := h
  refine PySem.W.eq_datum (x := (⟨ns⟩ : Row)) (y := ⟨ms⟩) (holds I (h1.dp (K := X.K)) rx) (holds I (h2.dp (K := X.K)) ry) (Nat.lt_of_le_of_lt (Nat.add_le_add_left (by decide : Datum.depth Row ≤ 64) _) hu) ⟨.bl _, H, I, rfl, ?_⟩
  rw [show decide ((⟨ns⟩ : Row) = ⟨ms⟩) = decide (ns = ms) from decide_eq_decide.mpr row_inj]
  exact q
theorem op_neR (hu : X.A.units + 64 < cLine) : OpR X (compareOp .NotEq) (fun x y H Q => ∃ ns ms, TI H x ns ∧ TI H y ms ∧ Q (.bl (!decide (ns = ms))) H) := by
  intro pins s σ H x y v u Q I rx ry h
  obtain ⟨ns, ms, h1, h2, q⟩ := h
  refine PySem.W.ne_datum (x := (⟨ns⟩ : Row)) (y := ⟨ms⟩) (holds I (h1.dp (K := X.K)) rx) (holds I (h2.dp (K := X.K)) ry) (Nat.lt_of_le_of_lt (Nat.add_le_add_left (by decide : Datum.depth Row ≤ 64) _) hu) ⟨.bl _, H, I, rfl, ?_⟩
  rw [show decide ((⟨ns⟩ : Row) ≠ ⟨ms⟩) = !decide (ns = ms) by rw [← decide_not]; exact decide_eq_decide.mpr (not_congr row_inj)]
  exact q
theorem op_neP (hu : X.A.units + 64 < cLine) : OpR X (compareOp .NotEq) (fun x y H Q => ∃ p q, PR H x p ∧ PR H y q ∧ Q (.bl (!decide (p = q))) H) := by
  intro pins s σ H x y v u Q I rx ry h
  obtain ⟨⟨n, ns⟩, ⟨m, ms⟩, h1, h2, q⟩ := h
  refine PySem.W.ne_datum (x := ((n, ⟨ns⟩) : Int × Row)) (y := (m, ⟨ms⟩)) (holds I (h1.dp (K := X.K)) rx) (holds I (h2.dp (K := X.K)) ry) (Nat.lt_of_le_of_lt (Nat.add_le_add_left (by decide : Datum.depth (Int × Row) ≤ 64) _) hu) ⟨.bl _, H, I, rfl, ?_⟩
  rw [show decide (((n, ⟨ns⟩) : Int × Row) ≠ (m, ⟨ms⟩)) = !decide ((n, ns) = (m, ms)) by
    rw [← decide_not]
    refine decide_eq_decide.mpr (not_congr ?_)
    rw [Prod.mk.injEq, Prod.mk.injEq, row_inj]]
  exact q
theorem op_neI (hu : X.A.units + 64 < cLine) : OpR X (compareOp .NotEq) (fun x y H Q => ∃ ns ms, LI H x ns ∧ LI H y ms ∧ Q (.bl (!decide (ns = ms))) H) := by
  intro pins s σ H x y v u Q I rx ry h
  obtain ⟨ns, ms, h1, h2, q⟩ := h
  refine PySem.W.ne_datum (x := (ns : List Int)) (y := ms) (holds I (h1.dp (K := X.K)) rx) (holds I (h2.dp (K := X.K)) ry) (Nat.lt_of_le_of_lt (Nat.add_le_add_left (by decide : Datum.depth (List Int) ≤ 64) _) hu) ⟨.bl _, H, I, rfl, ?_⟩
  rw [show decide (ns ≠ ms) = !decide (ns = ms) by rw [← decide_not]]
  exact q
theorem op_eqI (hu : X.A.units + 64 < cLine) : OpR X (compareOp .Eq) (fun x y H Q => ∃ ns ms, LI H x ns ∧ LI H y ms ∧ Q (.bl (decide (ns = ms))) H) := by
  intro pins s σ H x y v u Q I rx ry h
  obtain ⟨ns, ms, h1, h2, q⟩ := h
  exact PySem.W.eq_datum (x := (ns : List Int)) (y := ms) (holds I (h1.dp (K := X.K)) rx) (holds I (h2.dp (K := X.K)) ry) (Nat.lt_of_le_of_lt (Nat.add_le_add_left (by decide : Datum.depth (List Int) ≤ 64) _) hu) ⟨.bl _, H, I, rfl, q⟩
theorem rows_nil {rows : List (List Int)} : (rows.map fun r => (⟨r⟩ : Row)) = [] ↔ rows = [] := List.map_eq_nil_iff
/-- a list of rows != [] -/
theorem op_neL0 (hu : X.A.units + 64 < cLine) : OpR X (compareOp .NotEq) (fun x y H Q => ∃ rows, LT H x rows ∧ LI H y [] ∧ Q (.bl (!decide (rows = []))) H) := by
  intro pins s σ H x y v u Q I rx ry h
  obtain ⟨rows, h1, h2, q⟩ := h
  have h3 : LT H y [] := by
    obtain ⟨t, e, h⟩ := h2
    exact ⟨t, [], e, h, .nil⟩
  refine PySem.W.ne_datum (x := (rows.map fun r => (⟨r⟩ : Row))) (y := ([] : List Row)) (holds I (h1.dp (K := X.K)) rx) (holds I (h3.dp (K := X.K)) ry) (Nat.lt_of_le_of_lt (Nat.add_le_add_left (by decide : Datum.depth (List Row) ≤ 64) _) hu) ⟨.bl _, H, I, rfl, ?_⟩
  rw [show decide ((rows.map fun r => (⟨r⟩ : Row)) ≠ []) = !decide (rows = []) by rw [← decide_not]; exact decide_eq_decide.mpr (not_congr rows_nil)]
  exact q

/-! ### in -/
theorem mem_rows {ns : List Int} {rows : List (List Int)} : (⟨ns⟩ : Row) ∈ (rows.map fun r => (⟨r⟩ : Row)) ↔ ns ∈ rows := by
  rw [List.mem_map]
  exact ⟨fun ⟨r, hr, e⟩ => by rw [← row_inj.mp e]; exact hr, fun h => ⟨ns, h, rfl⟩⟩
theorem op_inR (hu : X.A.units + 65 < cLine) : OpR X (compareOp .In) (fun x y H Q => ∃ ns rows, TI H x ns ∧ LT H y rows ∧ Q (.bl (decide (ns ∈ rows))) H) := by
  intro pins s σ H x y v u Q I rx ry h
  obtain ⟨ns, rows, h1, ⟨t, xs, rfl, e, h2⟩, q⟩ := h
  cases ry
  obtain ⟨its, rv, p, hz⟩ := I.list (SqL.of e)
  refine PySem.W.in_list_datum (x := (⟨ns⟩ : Row)) (xs := rows.map fun r => (⟨r⟩ : Row)) p.isList (holdAll I (dpRows (K := X.K) h2) (by simpa using rv)) (holds I (h1.dp (K := X.K)) rx) (Nat.lt_of_le_of_lt (Nat.le_trans (Nat.le_of_eq (Nat.add_assoc _ 1 _)) (Nat.add_le_add_left (by decide : 1 + Datum.depth Row ≤ 65) _)) hu) ⟨.bl _, H, I, rfl, ?_⟩
  rw [show decide ((⟨ns⟩ : Row) ∈ (rows.map fun r => (⟨r⟩ : Row))) = decide (ns ∈ rows) from decide_eq_decide.mpr mem_rows]
  exact q
theorem op_notInR (hu : X.A.units + 65 < cLine) : OpR X (compareOp .NotIn) (fun x y H Q => ∃ ns rows, TI H x ns ∧ LT H y rows ∧ Q (.bl (!decide (ns ∈ rows))) H) := by
  intro pins s σ H x y v u Q I rx ry h
  obtain ⟨ns, rows, h1, ⟨t, xs, rfl, e, h2⟩, q⟩ := h
  cases ry
  obtain ⟨its, rv, p, hz⟩ := I.list (SqL.of e)
  refine PySem.W.notIn_list_datum (x := (⟨ns⟩ : Row)) (xs := rows.map fun r => (⟨r⟩ : Row)) p.isList (holdAll I (dpRows (K := X.K) h2) (by simpa using rv)) (holds I (h1.dp (K := X.K)) rx) (Nat.lt_of_le_of_lt (Nat.le_trans (Nat.le_of_eq (Nat.add_assoc _ 1 _)) (Nat.add_le_add_left (by decide : 1 + Datum.depth Row ≤ 65) _)) hu) ⟨.bl _, H, I, rfl, ?_⟩
  rw [show decide ((⟨ns⟩ : Row) ∉ (rows.map fun r => (⟨r⟩ : Row))) = !decide (ns ∈ rows) by rw [← decide_not]; exact decide_eq_decide.mpr (not_congr mem_rows)]
  exact q
end
end Ts

set_option Elab.async false
set_option linter.all false
set_option maxRecDepth 100000
set_option maxHeartbeats 4000000
namespace Ts
open PySem PySem.Spec PyProof.Rows L2
open PySem.W (Datum DatumOrd Tup Holds HoldAll)
/-- the order of pairs -/
def ple (p q : Int × List Int) : Prop := p.1 < q.1 ∨ (p.1 = q.1 ∧ p.2 ≤ q.2)
instance (p q : Int × List Int) : Decidable (ple p q) := inferInstanceAs (Decidable (_ ∨ _))
theorem listLt_row : ∀ a b : List Int, PySem.W.listLt a b = decide (a < b)
  | [], [] => by simp [PySem.W.listLt]
  | [], _ :: _ => by simp [PySem.W.listLt]
  | _ :: _, [] => by simp [PySem.W.listLt]
  | x :: xs, y :: ys => by
    rw [PySem.W.listLt, listLt_row xs ys]
    by_cases h : x = y
    · rw [if_pos h]
      subst h
      exact decide_eq_decide.mpr (by simp [List.cons_lt_cons_iff])
    · rw [if_neg h]
      show decide (x < y) = _
      exact decide_eq_decide.mpr (by simp [List.cons_lt_cons_iff, h])
theorem pair_lt (p q : Int × List Int) : DatumOrd.lt ((p.1, ⟨p.2⟩) : Int × Row) (q.1, ⟨q.2⟩) = !decide (ple q p) := by
  obtain ⟨n, a⟩ := p
  obtain ⟨m, b⟩ := q
  show (if n = m then PySem.W.listLt a b else decide (n < m)) = _
  rw [listLt_row]
  have e : (!decide (ple (m, b) (n, a))) = decide (¬ (m < n ∨ (m = n ∧ b ≤ a))) := by
    rw [decide_not]
    rfl
  rw [e]
  by_cases h : n = m
  · rw [if_pos h]
    subst h
    refine decide_eq_decide.mpr ?_
    rw [← List.not_le]
    simp
  · rw [if_neg h]
    refine decide_eq_decide.mpr ?_
    omega
theorem ple_refl (p) : ple p p := .inr ⟨rfl, List.le_refl _⟩
theorem ple_trans {p q r} (h1 : ple p q) (h2 : ple q r) : ple p r := by
  unfold ple at *
  rcases h1 with h1 | ⟨h1, h1'⟩ <;> rcases h2 with h2 | ⟨h2, h2'⟩
  · left; omega
  · left; omega
  · left; omega
  · exact .inr ⟨by omega, List.le_trans h1' h2'⟩
theorem ple_total (p q) : ple p q ∨ ple q p := by
  unfold ple
  rcases Int.lt_trichotomy p.1 q.1 with h | h | h
  · exact .inl (.inl h)
  · rcases List.le_total p.2 q.2 with g | g
    · exact .inl (.inr ⟨h, g⟩)
    · exact .inr (.inr ⟨h.symm, g⟩)
  · exact .inr (.inl h)
theorem ple_antisymm {p q} (h1 : ple p q) (h2 : ple q p) : p = q := by
  unfold ple at *
  have e : p.1 = q.1 := by rcases h1 with h1 | h1 <;> rcases h2 with h2 | h2 <;> omega
  have e2 : p.2 = q.2 := List.le_antisymm (by rcases h1 with h1 | h1; omega; exact h1.2) (by rcases h2 with h2 | h2; omega; exact h2.2)
  exact Prod.ext e e2
/-- the first of the least -/
theorem minOf_spec : ∀ (ps : List (Int × List Int)) (p : Int × List Int), ∃ m, m ∈ p :: ps ∧ (∀ q ∈ p :: ps, ple m q) ∧ PySem.W.minOf ((p.1, ⟨p.2⟩) : Int × Row) (ps.map fun q => (q.1, ⟨q.2⟩)) = (m.1, ⟨m.2⟩)
  | [], p => ⟨p, List.mem_cons_self, fun q hq => by rw [List.mem_singleton.mp hq]; exact ple_refl p, rfl⟩
  | q :: ps, p => by
    have e : PySem.W.minOf ((p.1, ⟨p.2⟩) : Int × Row) ((q :: ps).map fun q => (q.1, ⟨q.2⟩)) = if ple p q then PySem.W.minOf ((p.1, ⟨p.2⟩) : Int × Row) (ps.map fun q => (q.1, ⟨q.2⟩)) else PySem.W.minOf ((q.1, ⟨q.2⟩) : Int × Row) (ps.map fun q => (q.1, ⟨q.2⟩)) := by
      unfold PySem.W.minOf
      rw [List.map_cons, List.foldl_cons, pair_lt q p]
      by_cases h : ple p q
      · rw [if_pos h, decide_eq_true h, if_neg (by simp)]
      · rw [if_neg h, decide_eq_false h]
        simp only [Bool.not_false, if_true]
    rw [e]
    by_cases h : ple p q
    · rw [if_pos h]
      obtain ⟨m, h1, h2, h3⟩ := minOf_spec ps p
      refine ⟨m, ?_, fun r hr => ?_, h3⟩
      · rcases List.mem_cons.mp h1 with z | z
        · rw [z]; exact List.mem_cons_self
        · exact List.mem_cons_of_mem _ (List.mem_cons_of_mem _ z)
      · rcases List.mem_cons.mp hr with z | z
        · rw [z]; exact h2 p List.mem_cons_self
        · rcases List.mem_cons.mp z with z | z
          · rw [z]; exact ple_trans (h2 p List.mem_cons_self) h
          · exact h2 r (List.mem_cons_of_mem _ z)
    · rw [if_neg h]
      have h' : ple q p := (ple_total p q).resolve_left h
      obtain ⟨m, h1, h2, h3⟩ := minOf_spec ps q
      refine ⟨m, List.mem_cons_of_mem _ h1, fun r hr => ?_, h3⟩
      rcases List.mem_cons.mp hr with z | z
      · rw [z]; exact ple_trans (h2 q List.mem_cons_self) h'
      · exact h2 r z
/-- the least pair of a list -/
def IsMin (ps : List (Int × List Int)) (p : Int × List Int) : Prop := p ∈ ps ∧ ∀ q ∈ ps, ple p q
theorem IsMin.unique {ps p q} (h1 : IsMin ps p) (h2 : IsMin ps q) : p = q := ple_antisymm (h1.2 q h2.1) (h2.2 p h1.1)

theorem toD_inj {α : Type} [DecidableEq α] [Datum α] {a b : α} (h : Datum.toD a = Datum.toD b) : a = b := by
  have e := Datum.eqv a b
  rw [← h, Datum.eqv a a] at e
  simpa using e.symm
section
variable {X : Cx}
/-- min(xs), xs a list of pairs (int, tuple of ints) -/
theorem cr_minP (hc : X.calm = true) (hu : X.A.units + 65 < cLine) : CallR X (.builtin "min") (fun vs H Q => ∃ x ps, vs = [x] ∧ LP H x ps ∧ ps ≠ [] ∧ ∀ y p, PR H y p → IsMin ps p → Q y H) := by
  intro pins s σ H vs us Q I r h
  obtain ⟨x, ps, rfl, ⟨a, xs, rfl, e, hp⟩, hne, q⟩ := h
  obtain ⟨its, rv, hl, _⟩ := I.list (SqL.of e)
  rw [Vals.ref1 r]
  cases ps with
  | nil => exact absurd rfl hne
  | cons p ps =>
    have hA : HoldAll s.heap its (((p :: ps).map fun q => ((q.1, ⟨q.2⟩) : Int × Row))) := holdAll I (dpPrs (K := X.K) hp) rv
    refine PySem.W.min_list_datum (α := Int × Row) (x := (p.1, ⟨p.2⟩)) (xs := ps.map fun q => (q.1, ⟨q.2⟩)) (I.ok.hd hc) hl.isList (by simpa using hA) (Nat.lt_of_le_of_lt (Nat.le_trans (Nat.le_of_eq (Nat.add_assoc _ 1 _)) (Nat.add_le_add_left (by decide : 1 + Datum.depth (Int × Row) ≤ 65) _)) hu) fun i v h' tk hv hh hk => ?_
    obtain ⟨m, m1, m2, m3⟩ := minOf_spec ps p
    rw [m3] at hh
    have hv' : its[i]? = some v := by simpa using hv
    have hi : i < xs.length := by
      have := (List.getElem?_eq_some_iff.mp hv').1
      rw [rv.length]; exact this
    obtain ⟨y, hy⟩ : ∃ y, xs[i]? = some y := ⟨xs[i], List.getElem?_eq_getElem hi⟩
    obtain ⟨u, hu', ru⟩ := rv.get hy
    rw [hv'] at hu'
    cases hu'
    obtain ⟨p', hp', pr⟩ := paired_get hp hy
    have I1 : Inv X pins σ H { s with heap := h', toks := tk } := I.kept hk
    have hh2 : Holds h' v ((p'.1, ⟨p'.2⟩) : Int × Row) := holds I1 (pr.dp (K := X.K)) ru
    have em : m = p' := by
      obtain ⟨as, r1⟩ := hh
      obtain ⟨bs, r2⟩ := hh2
      have e := toD_inj (PySem.W.alike_unique _ _ _ _ _ (DatumOrd.alike _ _) r1 r2)
      rw [Prod.mk.injEq, row_inj] at e
      exact Prod.ext e.1 e.2
    subst em
    exact ⟨y, H, I1, ru, q y m pr ⟨m1, m2⟩⟩
end
end Ts

set_option Elab.async false
set_option linter.all false
set_option maxRecDepth 100000
set_option maxHeartbeats 4000000
namespace Ts
open PySem PySem.Spec PyProof.Rows L2
open PySem.W (Datum DatumOrd Tup Holds HoldAll EachIs SortsAt dataKind AllAlike alike alikeAll Looks)

abbrev encR (r : List Int) : PyData := .tuple (r.map PyData.int)
/-- rows in order -/
def rsort (rows : List (List Int)) : List (List Int) := rows.mergeSort fun a b => decide (a ≤ b)
theorem dataLe_tups : PySem.W.dataLe false encR = fun p q => decide (p ≤ q) := by
  funext p q
  show (!PySem.W.dataLt (.tuple (q.map .int)) (.tuple (p.map .int))) = _
  rw [PySem.W.dataLt_tuple]
  show (!PySem.W.rowLt (q.map .int) (p.map .int)) = _
  rw [PySem.W.dataLt_ints]
  by_cases h : q < p
  · have h' : ¬ p ≤ q := fun r => List.not_lt.mpr r h
    simp [h, h']
  · have h' : p ≤ q := List.not_lt.mp h
    simp [h, h']
theorem rsort_perm (rows) : (rsort rows).Perm rows := List.mergeSort_perm _ _
theorem mem_rsort {r rows} : r ∈ rsort rows ↔ r ∈ rows := (rsort_perm rows).mem_iff
theorem rsort_len (rows) : (rsort rows).length = rows.length := (rsort_perm rows).length_eq
theorem rsort_pw (rows : List (List Int)) : (rsort rows).Pairwise (· ≤ ·) := by
  have h := List.pairwise_mergeSort (le := fun a b : List Int => decide (a ≤ b)) (fun a b c h1 h2 => decide_eq_true (List.le_trans (of_decide_eq_true h1) (of_decide_eq_true h2))) (fun a b => by
    rw [Bool.or_eq_true, decide_eq_true_eq, decide_eq_true_eq]
    exact List.le_total a b) rows
  exact h.imp fun h => of_decide_eq_true h

section
variable {prog : Program} {w : World} {A : Around} {E : Value → Shared → Prop} {s : Shared}
/-- each tuple's first item, or none -/
theorem firsts_any : ∀ (vs : List Value) (rows : List (List Int)) {Q : List (Option Value) → Shared → Prop}, EachIs (fun v r => ∃ as, Reads s.heap v (encR r) as) vs rows →
    (∀ fs : List (Option Value), fs.length = rows.length → (∀ i : Nat, (rows[i]? = some [] → fs[i]? = some none) ∧ ∀ n t, rows[i]? = some (n :: t) → ∃ tk, fs[i]? = some (some (.int n tk))) → Q fs s) → wpAny (model prog w) A (vs.mapM firstOfTuple') Q E s
  | _, _, Q, .nil, h => by
    rw [List.mapM_nil]
    exact wpAny_pure (h [] rfl fun i => ⟨fun e => by simp at e, fun n t e => by simp at e⟩)
  | _, _, Q, .cons (a := v) (b := r) (as := vs) (bs := rows) ⟨as, hr⟩ t, h => by
    cases hr with
    | @tuple a o xs n _ _ ho hc hd hra =>
      rw [List.mapM_cons]
      refine wpAny_bind ?_
      rw [PySem.W.kas_first_eq]
      refine wpAny_bind (Looks.here (show Looks (model prog w) s.heap (typeOf (.ref a)) o.cls from (Looks.ld ho).andThen .now) ?_)
      rw [hc, if_neg (by first | decide | simp)]
      refine wpAny_bind (listItems_at ho hd (wpAny_pure ?_))
      refine wpAny_bind (firsts_any vs rows t fun fs hl hf => wpAny_pure (h _ (by simp [hl]) fun i => ?_))
      cases i with
      | zero =>
        cases r with
        | nil =>
          refine ⟨fun _ => ?_, fun n t e => by simp at e⟩
          cases q : xs.toList with
          | nil =>
            have e : xs = #[] := by simpa using q
            rw [e]; rfl
          | cons y ys =>
            rw [q] at hra
            cases hra
        | cons m r =>
          refine ⟨fun e => by simp at e, fun n t e => ?_⟩
          cases q : xs.toList with
          | nil =>
            rw [q] at hra
            cases hra
          | cons y ys =>
            rw [q] at hra
            cases hra with
            | cons h1 h2 =>
              cases h1 with
              | int _ tk =>
                have e' : m = n := by simpa using congrArg (fun o => o.map List.head?) e
                subst e'
                have hx : xs[0]? = some (.int m tk) := by rw [← Array.getElem?_toList, q]; rfl
                exact ⟨tk, by simp [hx]⟩
      | succ i =>
        simpa using hf i

theorem enc_alike (a b : List Int) : alike (encR a) (encR b) = true := by
  show alike (.tuple _) (.tuple _) = true
  simp only [alike]
  exact PySem.W.alike_ints a b
theorem enc_depth (a : List Int) : (encR a).depth = 1 := by
  show (PyData.tuple (a.map .int)).depth = 1
  rw [PyData.depth, PySem.W.depth_ints]
theorem encs_alike (rows : List (List Int)) : AllAlike (rows.map encR) := PySem.W.AllAlike.of enc_alike
/-- two tuples of ints by the sort's own word for one type -/
theorem oneLt_tup {f : Bool} {a b : Value} {x y : List Int} {as bs : List Addr} {Q : Bool → Shared → Prop} (hu : A.units + 64 < cLine) (ra : Reads s.heap a (encR x) as) (rb : Reads s.heap b (encR y) bs) (hq : Q (PySem.W.dataLt (encR x) (encR y)) s) :
    wpAny (model prog w) A (oneLt' f a b) Q E s := by
  have hd : A.units + min (encR x).depth (encR y).depth < cLine := by
    rw [enc_depth, enc_depth]
    exact Nat.lt_of_le_of_lt (Nat.add_le_add_left (by decide) _) hu
  cases f with
  | false => exact PySem.W.oneLt_alike (fun z => by cases z) ra rb (enc_alike x y) (fun z => by cases z) hd hq
  | true =>
    have hal : alikeAll (x.map PyData.int) (y.map PyData.int) = true := PySem.W.alike_ints x y
    have hd2 : A.in1.units + min (PyData.depthAll (x.map PyData.int)) (PyData.depthAll (y.map PyData.int)) < cLine := by
      rw [PySem.W.depth_ints, PySem.W.depth_ints]
      show A.units + 1 + 0 < cLine
      omega
    cases ra with
    | @tuple l o vs n _ as₁ h1 h2 h3 h4 =>
      cases rb with
      | @tuple l' o' vs' n' _ bs₁ k1 k2 k3 k4 =>
        have n1 : vs.size = (x.map PyData.int).length := by simpa using SeqAt.ReadsAll.length _ _ _ h4
        have n2 : vs'.size = (y.map PyData.int).length := by simpa using SeqAt.ReadsAll.length _ _ _ k4
        rw [PySem.W.dataLt_tuple, ← PySem.W.firstLt_toks _ _ hal, ← n1, ← n2] at hq
        rw [oneLt'_eq]
        simp only [if_true]
        refine wpAny_bind (wpAny_cRoomFor (show A.units < cLine by omega) ?_)
        refine wpAny_bind (wpAny_callSpecialIfBound?_slot (T := "tuple") ⟨_, h1, h2⟩ F.slot_tuple_lt ?_)
        obtain ⟨cls, dd, data, sl⟩ := o
        obtain ⟨cls2, dd2, data2, sl2⟩ := o'
        simp only at h2 h3 k2 k3
        subst h2 h3 k2 k3
        refine call_meets F.slot_tuple_lt ⟨_, h1, rfl⟩ F.entry_tuple_lt (F.args_tuple_lt_2 _ _) (SeqAt.tuple_ltAt l l' vs vs' n n' dd dd2 sl sl2 (SeqAt.pairEq (x.map PyData.int) (y.map PyData.int)) (fun j => PySem.W.dataLt ((x.map PyData.int).getD j .none) ((y.map PyData.int).getD j .none))) ⟨h1, k1, fun j j1 j2 => ?_, fun j j1 j2 hj => ?_, ?_⟩
        · have := PySem.W.eqAt_alikeAll _ _ A.in1 s vs.toList vs'.toList _ _ h4 k4 hal hd2 j (by simpa using j1) (by simpa using j2)
          simpa using this
        · have := PySem.W.rcLt_alikeAll _ _ A.in1 s vs.toList vs'.toList _ _ h4 k4 hal hd2 j (by simpa using j1) (by simpa using j2) hj
          simpa using this
        · exact wpAny_truthy_bool hq

/-- tuples of ints, the empty one among them, can be sorted -/
theorem sortsRows {vs : List Value} {rows : List (List Int)} (e : EachIs (fun v r => ∃ as, Reads s.heap v (encR r) as) vs rows) (hu : A.units + 64 < cLine) : SortsAt prog w A s (dataKind s.heap (rows.map encR)) vs := by
  have e' : EachIs (fun v d => ∃ as, Reads s.heap v d as) vs (rows.map encR) := PySem.W.each_map (R := fun v d => ∃ as, Reads s.heap v d as) encR e
  have hal := encs_alike rows
  have hu2 : ∀ d, d ∈ rows.map encR → A.units + d.depth < cLine := fun d hd => by
    obtain ⟨r, _, rfl⟩ := List.mem_map.mp hd
    rw [enc_depth]
    omega
  by_cases hk : ∀ r ∈ rows, r ≠ []
  · refine SortsAt.data e' hal (.inl fun d hd => ?_) hu2
    obtain ⟨r, hr, rfl⟩ := List.mem_map.mp hd
    cases r with
    | nil => exact absurd rfl (hk _ hr)
    | cons x t => exact ⟨.int x, t.map .int, rfl⟩
  · have he : ∃ i : Nat, rows[i]? = some ([] : List Int) := by
      have : ∃ r ∈ rows, r = [] := by
        refine Classical.byContradiction fun z => hk fun r hr q => z ⟨r, hr, q⟩
      obtain ⟨r, hr, rfl⟩ := this
      exact List.getElem?_of_mem hr
    obtain ⟨i0, hi0⟩ := he
    -- the kind: by the first tuple
    have hnall : ∀ fs : List (Option Value), (∀ i : Nat, (rows[i]? = some [] → fs[i]? = some none) ∧ ∀ n t, rows[i]? = some (n :: t) → ∃ tk, fs[i]? = some (some (.int n tk))) → (fs.toArray.all fun x => x.isSome) = false := fun fs hf => by
      rw [Bool.eq_false_iff]
      intro z
      rw [List.all_toArray, List.all_eq_true] at z
      have := z none (List.mem_of_getElem? ((hf i0).1 hi0))
      cases this
    have lt_ : ∀ κ, (κ = general' ∨ κ = oneType') → PyProof.Rows.H.LtAt prog w A s (dataKind s.heap (rows.map encR)) κ := by
      intro κ hκ E x y a b Q ha hb hq
      obtain ⟨d, as, hd, ra, rfl⟩ := PySem.W.dataKind_inv ha
      obtain ⟨d', as', hd', rb, rfl⟩ := PySem.W.dataKind_inv hb
      obtain ⟨r1, _, rfl⟩ := List.mem_map.mp hd
      obtain ⟨r2, _, rfl⟩ := List.mem_map.mp hd'
      have hq' : Q (PySem.W.dataLt (encR r1) (encR r2)) s := hq
      rcases hκ with rfl | rfl
      · exact oneLt_tup (f := false) hu ra rb hq'
      · exact oneLt_tup (f := true) hu ra rb hq'
    refine ⟨fun v hv => ?_, ?_⟩
    · obtain ⟨d, hd, as, r⟩ := e'.left v hv
      exact ⟨_, PySem.W.dataKind_some hal hd r⟩
    · cases hr0 : rows[0]? with
      | none =>
        have : rows = [] := by simpa using hr0
        subst this
        simp at hi0
      | some r0 =>
        cases r0 with
        | nil =>
          refine ⟨oneType', lt_ _ (.inr rfl), fun h2 E Q hq => ?_⟩
          rw [kat_kind_eq, List.mapM_toArray, map_eq_pure_bind]
          refine wpAny_bind (wpAny_bind (firsts_any vs rows e fun fs hl hf => wpAny_pure ?_))
          rw [if_neg (by rw [hnall fs hf]; simp)]
          have h0 : fs.toArray[0]? = some none := by simpa using (hf 0).1 hr0
          rw [h0, if_neg (by simp)]
          rw [oneTypeOnly'_eq, List.mapM_toArray, map_eq_pure_bind]
          refine wpAny_bind (wpAny_bind (wpAny_bind (PySem.W.kas_mapM (r := Value.type "tuple") _ (fun v hv Q' hq => ?_) (wpAny_pure ?_))))
          · obtain ⟨r, hr, as, rr⟩ := e.left v hv
            exact (PySem.W.looks_reads rr).here hq
          · have hall : ((List.map (fun _ => Value.type "tuple") vs).toArray.all fun x => x == Value.type "tuple") = true := by
              simp only [List.all_toArray, List.all_map, List.all_eq_true]
              intro _ _
              rfl
            have h0 : (List.map (fun _ => Value.type "tuple") vs).toArray[0]? = some (Value.type "tuple") := by
              cases vs with
              | nil => simp at h2
              | cons v vs => simp
            rw [h0]
            simp only [hall, if_true]
            exact wpAny_pure (wpAny_pure hq)
        | cons n t =>
          refine ⟨general', lt_ _ (.inl rfl), fun h2 E Q hq => ?_⟩
          rw [kat_kind_eq, List.mapM_toArray, map_eq_pure_bind]
          refine wpAny_bind (wpAny_bind (firsts_any vs rows e fun fs hl hf => wpAny_pure ?_))
          rw [if_neg (by rw [hnall fs hf]; simp)]
          obtain ⟨tk, h0'⟩ := (hf 0).2 n t hr0
          have h0 : fs.toArray[0]? = some (some (.int n tk)) := by simpa using h0'
          rw [h0, if_pos (by simp)]
          exact wpAny_pure hq
/-- sorted(xs): the values stand for the sorted rows -/
theorem sorted_rows {l : Addr} {vs : List Value} {rows : List (List Int)} {R : Value → List Int → Prop} {Q : Value → Shared → Prop} (hl : s.heap.IsList l vs.toArray) (e : EachIs R vs rows) (er : EachIs (fun v b => ∃ as, Reads s.heap v (encR b) as) vs rows) (hL : rows.length ≤ sizeLine)
    (hu : A.units + 66 < cLine) (h : ∀ out, out.length = rows.length → EachIs R out (rsort rows) → Q (.ref (s.heap.objs.size + 1)) { s with heap := sortedAll s.heap vs (List.toArray out) }) :
    wpAny (model prog w) A (call (.builtin "sorted") [.ref l]) Q E s := by
  have er' : EachIs (fun v b => ∃ as, Reads (PySem.W.sortingHeap (PySem.W.copyHeap s.heap vs) (s.heap.objs.size + 1) vs) v (encR b) as) vs rows := er.mono fun _ _ ⟨as, r⟩ => ⟨as, PyProof.Rows.Reads.keeps (fun _ _ => PySem.W.sorting_copy_old) r⟩
  refine PySem.W.sorted_vals hl (sortsRows (s := { s with heap := PySem.W.sortingHeap (PySem.W.copyHeap s.heap vs) (s.heap.objs.size + 1) vs }) er' (by show A.units + 1 + 1 + 64 < cLine; omega)) (by rw [e.length]; exact hL) ?_
  have hs := PySem.W.sortVals_data false e er' (encs_alike rows)
  rw [dataLe_tups] at hs
  exact h _ (by rw [PySem.W.sortVals_length false rfl]; exact e.length) hs
end
end Ts

set_option Elab.async false
set_option linter.all false
set_option maxRecDepth 100000
set_option maxHeartbeats 4000000
namespace Ts
open PySem PySem.Spec PyProof.Rows L2
open PySem.W (Datum DatumOrd Tup Holds HoldAll EachIs SortsAt dataKind AllAlike alike alikeAll Looks)

theorem TI.ref {H x ns} (h : TI H x ns) : ∃ a, x = V.ref a := let ⟨t, e, _⟩ := h; ⟨t, e⟩
theorem rows_refs : ∀ {xs rows us} {H : Hp}, Paired (TI H) xs rows → Vals xs us → EachIs (fun v r => ∃ t, v = Value.ref t ∧ H t = some (.tup (r.map V.int))) us rows
  | _, _, _, _, .nil, .nil => .nil
  | _, _, _, _, .cons ⟨t, e, h⟩ q, .cons r rr => by
    subst e
    cases r
    exact .cons ⟨t, rfl, h⟩ (rows_refs q rr)
theorem refs_rows : ∀ {us rows} {H : Hp}, EachIs (fun v r => ∃ t, v = Value.ref t ∧ H t = some (.tup (r.map V.int))) us rows → ∃ ys, Vals ys us ∧ Paired (TI H) ys rows
  | _, _, _, .nil => ⟨[], .nil, .nil⟩
  | _, _, _, .cons ⟨t, e, h⟩ q => by
    subst e
    obtain ⟨ys, h1, h2⟩ := refs_rows q
    exact ⟨.ref t :: ys, .cons rfl h1, .cons ⟨t, rfl, h⟩ h2⟩
theorem rows_reads {X : Cx} {pins : List (Addr × Obj)} {σ : L2.St} {H : Hp} {s : Shared} (I : Inv X pins σ H s) : ∀ {xs rows us}, Paired (TI H) xs rows → Vals xs us → EachIs (fun v r => ∃ as, Reads s.heap v (encR r) as) us rows
  | _, _, _, .nil, .nil => .nil
  | _, _, _, .cons h q, .cons r rr => by
    obtain ⟨as, z⟩ := Dp.reads I _ _ _ (h.dp (K := X.K)) r
    exact .cons ⟨as, z⟩ (rows_reads I q rr)
section
variable {X : Cx}
/-- sorted(xs), xs a list of tuples of ints -/
theorem cr_sortR (hu : X.A.units + 66 < cLine) : CallR X (.builtin "sorted") (fun vs H Q => ∃ x rows, vs = [x] ∧ LT H x rows ∧ ∀ p ys, H p = none → Paired (TI H) ys (rsort rows) → Q (.ref p) (upd H p (.lst ys))) := by
  intro pins s σ H vs us Q I r h
  obtain ⟨x, rows, rfl, ⟨a, xs, rfl, e, hp⟩, q⟩ := h
  obtain ⟨its, rv, hl, hz⟩ := I.list (SqL.of e)
  rw [Vals.ref1 r]
  have hlen : rows.length ≤ sizeLine := by
    have := Paired.length hp
    omega
  refine sorted_rows hl.isList (rows_refs hp rv) (rows_reads I hp rv) hlen hu fun out ho he => ?_
  obtain ⟨ys, r1, r2⟩ := refs_rows he
  obtain ⟨ep, he'⟩ := PyProof.Rows.sortedAll_at s.heap its (List.toArray out)
  have hzl : ys.length ≤ sizeLine := by rw [r1.length, ho]; exact hlen
  exact ⟨.ref _, upd H (s.heap.objs.size + 1) (.lst ys), I.laid (t' := s.toks) (fun _ _ => PyProof.Rows.sortedAll_old) (Nat.le_succ _) ⟨hzl, out, ep, r1, by simpa using he'⟩, rfl, q _ ys (I.hok.fresh (Nat.le_succ _)) r2⟩
/-- an expression's object is locked from then on -/
def tLk (t : TE) : TE := fun σ H Q => t σ H fun x H1 => ∃ d u, x = .ref d ∧ H1 d = some u ∧ Mut (some u) ∧ ∀ od, Q x (upd H1 d (.frz od u))
theorem pe_lk {e : Expr} {t : TE} (h : PE X e t) : PE X e (tLk t) := by
  refine ⟨fun pins s σ H Q I hw => ?_⟩
  refine thn (h.run pins s σ H _ I hw) fun v s1 ⟨x, H1, I1, r, d, u, ex, hd, mu, q⟩ => ?_
  obtain ⟨od, I2⟩ := I1.lock hd mu
  exact ⟨x, _, I2, r, q od⟩
end
end Ts

set_option Elab.async false
set_option linter.all false
set_option maxRecDepth 100000
set_option maxHeartbeats 4000000
namespace Ts
open PySem PySem.Spec PyProof.Rows L2

/-! ### set(xs) of a list of ints -/
abbrev set0 (w : World) : Obj := { cls := .type "set", dict := none, data := .set #[] 0 (.fresh 0 0 (!w.params.followText "set-order")) }
section
variable {P : Program} {w : World} {A : Around} {E : Value → Shared → Prop} {s : Shared}
theorem set_list_ints {l : Addr} {its : Array Value} (ns : List Int) {Q : Value → Shared → Prop} (hh : A.handled = none) (hl : s.heap.IsList l its) (hi : IntsAre its.toList ns) (hb : ns.length + 1 < scanBound)
    (h : ∀ (h' : Heap) (tk c : Nat), SetR w h' s.heap.objs.size (fun j => decide (j ∈ ns)) c → c ≤ ns.length → (∀ b o, s.heap.get? b = some o → h'.get? b = some o) → Q (.ref s.heap.objs.size) { s with heap := h', toks := tk }) :
    wpAny (model P w) A (call (.type "set") [.ref l]) Q E s := by
  have hsz : its.size = ns.length := by
    have q := IntsAre.length hi
    rwa [Array.length_toList] at q
  obtain ⟨_, _, hmro⟩ := F.called_set.mro
  have a1 := F.called_set.made
  have a2 := F.called_set.sub
  have a3 := F.called_set.notType
  have a4 := F.called_set.canCreate
  have a5 := F.typeCall_set_1 (.ref l)
  refine wpAny_call (codeAny_of_tree ?_)
  show wpAny _ _ (callAny (.type "set") _) _ _ _
  refine wpAny_pure ⟨Code.quiet_builtin _ (by decide +kernel), codeAny_builtin F.entry_type_call ?_⟩
  rw [Around.under_plain (weight_type_call_type "set" [.ref l] []) rfl]
  repeat (any_goals (first | assumption | wp_step))
  refine codeAny_mono (code_set_led1 (.ref l) (E := E) (Q₁ := fun v s1 => v = .ref s.heap.objs.size ∧ s1 = { s with heap := s.heap.push (set0 w) }) ⟨rfl, rfl⟩) fun r s1 hr => ?_
  cases r with
  | error e => exact hr
  | ok fl =>
    cases fl with
    | ret v =>
      obtain ⟨rfl, rfl⟩ := hr
      have hS : (s.heap.push (set0 w)).get? s.heap.objs.size = some (set0 w) := Heap.get?_push_size _ rfl
      have hT : Shared.TypeIs { s with heap := s.heap.push (set0 w) } (.ref s.heap.objs.size) "set" := ⟨_, hS, rfl⟩
      have b1 := F.called_set.init.lookup
      have b2 := F.called_set.init.bind (.ref s.heap.objs.size)
      repeat (any_goals (first | assumption | wp_step))
      refine codeAny_mono (codeAny_call_builtin (R := wants (fun r s2 => r = .none ∧ ∃ h' tk c, s2 = { s with heap := h', toks := tk } ∧ SetR w h' s.heap.objs.size (fun j => decide (j ∈ ns)) c ∧ c ≤ ns.length ∧ ∀ b o, s.heap.get? b = some o → h'.get? b = some o) E) F.called_set.init.plain F.entry_set_init (check_set_init_1 hT ?_)) fun r2 s2 hr2 => ?_
      · obtain ⟨⟨c0, d0, data0, sl0⟩, ho, hc, n, hd⟩ := hl
        simp only at hc hd
        subst hc; subst hd
        have ho1 : (s.heap.push (set0 w)).get? l = some { cls := .type "list", dict := d0, data := .seq its n, slots := sl0 } := Heap.get?_push_of_some _ ho
        have hs1 := F.sub_list_set
        have hs2 := F.sub_list_frozenset
        have hne : (Value.type "list" == Value.type "dict") = false := by decide
        have hl1 : (s.heap.push (set0 w)).IsList l its := ⟨_, ho1, rfl, n, rfl⟩
        unfold Builtin.«set.__init__» noKeywords Builtin.Frozenset.updateFrom
        generalize hPI : pyIter = PI
        wp_walk
        subst hPI
        refine wpAny_pyIter_list hl1 (wpAny_bind (wpAny_runValue ?_))
        have hlt : l < s.heap.objs.size := Heap.lt_size ho
        have hh3 : A.in1.in1.in1.handled = none := by simp [hh]
        have hI : l ≠ (s.heap.push (set0 w)).objs.size := by
          rw [Heap.size_push]; exact Nat.ne_of_lt (Nat.lt_succ_of_lt hlt)
        have hSf : s.heap.objs.size ∉ [(s.heap.push (set0 w)).objs.size, l] := by
          rw [Heap.size_push]
          simp only [List.mem_cons, List.not_mem_nil, or_false, not_or]
          exact ⟨Nat.ne_of_lt (Nat.lt_succ_self _), Nat.ne_of_gt hlt⟩
        have hval : ∀ (i : Nat) (v : Value), its[i]? = some v → ∃ k t, ns[i]? = some k ∧ v = .int k t := fun i v hv => by
          have hi' : i < ns.length := by rw [← hsz]; exact (Array.getElem?_eq_some_iff.mp hv).1
          obtain ⟨t, e⟩ := PyProof.Rows.IntsAre.int_at hi i v (by rw [Array.getElem?_toList]; exact hv)
          exact ⟨ns[i], t, List.getElem?_eq_getElem hi', by rw [e, List.getD_eq_getElem?_getD, List.getElem?_eq_getElem hi'] <;> rfl⟩
        refine set_update_ints ((Walks.list hh3 _ l hI its).toS) s.heap.objs.size hSf ns hsz hb hval (its.size - 0) 0 _ (by omega) (Nat.zero_le _)
          ⟨⟨_, Heap.get?_push_size _ rfl, rfl, rfl⟩, hl1.push _⟩ ⟨0, Nat.le_refl 0, setR_new_at (Heap.get?_push_of_some _ hS)⟩ fun s' c' hm hc' hS' => ?_
        obtain ⟨h', g', d', tk', os'⟩ := s'
        obtain rfl : g' = s.gens := hm.gens
        obtain rfl : d' = s.drawn := hm.drawn
        obtain rfl : os' = s.os := hm.os
        show wpAny _ _ _ _ _ _
        refine wpAny_pure ?_
        show wpAny _ _ (ret Value.none) _ _ _
        rw [hsz] at hc'
        refine wpAny_pure ⟨rfl, h', tk', c', rfl, hS', hc', fun b o e => ?_⟩
        have hb0 : b < s.heap.objs.size := Heap.lt_size e
        refine hm.heap b o ?_ (Heap.get?_push_of_some _ (Heap.get?_push_of_some _ e))
        simp only [List.mem_cons, List.not_mem_nil, or_false, not_or]
        exact ⟨Nat.ne_of_lt hb0, by rw [Heap.size_push]; exact Nat.ne_of_lt (Nat.lt_succ_of_lt hb0)⟩
      · cases r2 with
        | error e => exact hr2
        | ok fl2 =>
          cases fl2 with
          | ret r =>
            obtain ⟨rfl, h', tk, c, rfl, x1, x2, x3⟩ := hr2
            repeat (any_goals (first | assumption | wp_step))
            exact h _ _ _ x1 x2 x3
          | _ => exact hr2.elim
    | _ => exact hr.elim
end
section
variable {X : Cx}
/-- set(xs), xs a list or a tuple of ints -/
theorem cr_setI (hc : X.calm = true) : CallR X (.type "set") (fun vs H Q => ∃ x ns, vs = [x] ∧ (LI H x ns ∨ TI H x ns) ∧ ns.length ≤ 1000 ∧ ∀ p c, H p = none → c ≤ ns.length → Q (.ref p) (upd H p (SetO X.w p (fun j => decide (j ∈ ns)) c))) := by
  intro pins s σ H vs us Q I r h
  obtain ⟨x, ns, rfl, hx, hl, q⟩ := h
  have fin : ∀ (h' : Heap) (tk c : Nat), SetR X.w h' s.heap.objs.size (fun j => decide (j ∈ ns)) c → c ≤ ns.length → (∀ b o, s.heap.get? b = some o → h'.get? b = some o) → EP X pins σ Q (.ref s.heap.objs.size) { s with heap := h', toks := tk } :=
    fun h' tk c R hc k => ⟨.ref _, upd H s.heap.objs.size (SetO X.w s.heap.objs.size (fun j => decide (j ∈ ns)) c), I.laid k (Nat.le_refl _) (setO_new R), rfl, q _ c (I.hok.fresh (Nat.le_refl _)) hc⟩
  have hsc : ns.length + 1 < scanBound := by unfold scanBound; omega
  rcases hx with ⟨t, rfl, e⟩ | ⟨t, rfl, e⟩
  · obtain ⟨its, rv, pl, hz⟩ := I.list (SqL.of e)
    rw [Vals.ref1 r]
    exact set_list_ints ns (I.ok.hd hc) pl.isList (by simpa using rv.ints) hsc fin
  · obtain ⟨its, rv, pl, hz⟩ := I.tuple (SqT.of e)
    rw [Vals.ref1 r]
    exact call_set_tupI ns (I.ok.hd hc) (show s.heap.IsTuple t its.toArray from pl) (by simpa using rv.ints) hsc fin
/-- len(s), s a set of ints -/
theorem cr_lenSet : CallR X (.builtin "len") (fun vs H Q => ∃ a S n, vs = [V.ref a] ∧ H a = some (SetO X.w a S n) ∧ n ≤ 4000 ∧ Q (.int (n : Nat)) H) := by
  intro pins s σ H vs us Q I r h
  obtain ⟨a, S, n, rfl, ha, hn, q⟩ := h
  obtain ⟨o, es, ep, t, ho, hex, hd, g, nd, hm, hb, hf, hn2, hr⟩ := setO_get I ha
  rw [Vals.ref1 r]
  exact call_len_set ho hex hd hf (by rw [hn2]; omega) ⟨.int (n : Nat), H, I.tok _, ⟨_, by rw [hn2]⟩, q⟩
end
end Ts

set_option Elab.async false
set_option linter.all false
set_option maxRecDepth 100000
set_option maxHeartbeats 4000000
namespace Ts
open PySem PySem.Spec PyProof.Rows L2

/-! ### {k: v}, k a tuple -/
section
variable {X : Cx}
def tDisp1 (tk tv : TE) : TE := fun σ H Q => ∀ p, H p = none → tk σ (upd H p (.dT [])) fun x H1 => tv σ H1 fun y H2 => ∃ (b : Addr) (k : List Key), x = V.ref b ∧ H2 p = some (.dT []) ∧ H2 b = some (.tup (k.map kV)) ∧ Q (.ref p) (upd H2 p (.dT [(k, y)]))
theorem pe_disp1 {k v : Expr} {tk tv : TE} {pos : Pos} (hu : X.A.units + 1 < cLine) (hk : PE X k tk) (hv : PE X v tv) : PE X (.Dict [some k] [v] pos) (tDisp1 tk tv) := by
  refine ⟨fun pins s σ H Q I q => ?_⟩
  have hn := I.hok.fresh (Nat.le_refl s.heap.objs.size)
  have I1 := I.laid (a := s.heap.objs.size) (o := .dT []) (h' := s.heap.push { cls := .type "dict", data := .dict #[] }) (t' := s.toks) (fun _ _ q => Heap.get?_push_of_some _ q) (Nat.le_refl _) (dt_empty s.heap I.big)
  have hsh := zip_pairTrees [some k] [v] X.env pos rfl rfl
  rw [arm_eval_Dict, hsh, dictDisplay_pairs (pairTrees [some k] [v] X.env pos) (by simp [pairTrees]) (by simp [pairTrees])]
  have hroom : (tupleKind (mixKind X.prog X.w)).room X.A := by first | exact tupleKind_room_in1 hu | (show X.A.units < cLine; omega)
  refine wpAny_bind (wpAny_standAt (wpAny_bind (wpAny_subDictH (knd := tupleKind (mixKind X.prog X.w)) hroom (by simp [pairTrees]) ?_)))
  have P := pps_cons (pos := pos) hk hv pps_nil
  refine thn (P.run pins _ σ (upd H s.heap.objs.size (.dT [])) (fun ps H' => match ps with
    | [(x, y)] => ∃ (b : Addr) (ks : List Key), x = V.ref b ∧ H' s.heap.objs.size = some (.dT []) ∧ H' b = some (.tup (ks.map kV)) ∧ Q (.ref s.heap.objs.size) (upd H' s.heap.objs.size (.dT [(ks, y)]))
    | _ => False) I1 (q _ hn)) ?_
  rintro vs s2 ⟨ps, H2, I2, rel, q2⟩
  cases rel with
  | nil => exact q2.elim
  | cons r rr =>
    cases rr with
    | cons _ _ => exact q2.elim
    | nil =>
      rename_i p0 p1
      obtain ⟨x, y⟩ := p0
      obtain ⟨u, w1⟩ := p1
      obtain ⟨rx, ry⟩ := r
      obtain ⟨b, ks, ex, e1, e2, q3⟩ := q2
      simp only at ex rx ry
      subst ex
      obtain rfl : u = Value.ref b := rx
      obtain ⟨z, hd, xs, rel, dd⟩ := dt_of I2.hok e1
      cases rel
      refine ⟨[(ks, b, w1)], ⟨rfl, rfl, key_of I2.hok e2, trivial⟩, dd, fun h' tk dd' hs => ?_⟩
      obtain ⟨o, es, ep, hq, h2, h3, h4, _, h5⟩ := dd'
      refine wpAny_pure ?_
      refine ⟨.ref s.heap.objs.size, upd H2 s.heap.objs.size (.dT [(ks, y)]), ?_, rfl, q3⟩
      refine d_write I2 (by rw [e1]; exact True.intro) hs ⟨o, hq⟩ ⟨by show 1 ≤ sizeLine; decide, hd, _, .cons ⟨rfl, ?_, ry⟩ .nil, o, es, ep, hq, h2, h3, h4, h5⟩
      show upd H2 s.heap.objs.size _ b = some (.tup (ks.map kV))
      rw [upd_ne (ne_of e2 e1 (fun z => nomatch z))]
      exact e2
end

/-! ### enumerate(t), t a tuple -/
theorem enum_new1 {v : Value} {o : Obj} {Hh : Heap → Prop} (B : Begins v o Hh) :
    Meets (Builtin.«enumerate.__new__» ⟨[.type "enumerate", v], []⟩) (fun _ R s => Hh s.heap ∧
      R (.ok (.ret (.ref (s.heap.push o).objs.size))) { s with heap := (s.heap.push o).push { cls := .type "enumerate", data := .fields #[.none, .bool false, .ref s.heap.objs.size, rawInt 0, .none, .none] } }) :=
  .of_wp fun prog w A R s h => by
    obtain ⟨hp, g, d, tk, os⟩ := s; obtain ⟨h1, h⟩ := h
    have hsub := sub_enumerate
    have q1 : ∀ {A' : Around} {E : Value → Shared → Prop} {Q : Value → Shared → Prop}, Q (.ref hp.objs.size) ⟨hp.push o, g, d, tk, os⟩ → wpAny (model prog w) A' (pyIter v) Q E ⟨hp, g, d, tk, os⟩ :=
      fun q => B.iter prog w _ _ ⟨hp, g, d, tk, os⟩ _ h1 q
    wp_walk using q1
    refine wpAny_stack_any fun st => wpAny_pure ?_
    split
    · rename_i c _ _ _ _ _
      cases (c == Value.type "enumerate") <;> (wp_walk using q1; exact ⟨_, rfl, h⟩)
    · wp_walk using q1
      exact ⟨_, rfl, h⟩
section
variable {prog : Program} {w : World} {A : Around} {E : Value → Shared → Prop} {s : Shared}
theorem enum_call1 {v : Value} {o : Obj} {Hh : Heap → Prop} {Q : Value → Shared → Prop} (B : Begins v o Hh) (h1 : Hh s.heap)
    (h : ∀ h', IsEnum h' (s.heap.objs.size + 1) s.heap.objs.size 0 .none → h'.get? s.heap.objs.size = some o → (∀ b o, s.heap.get? b = some o → h'.get? b = some o) → Q (.ref (s.heap.objs.size + 1)) { s with heap := h' }) :
    wpAny (model prog w) A (call (.type "enumerate") [v]) Q E s := by
  refine callType_new F.called_enumerate (by decide) (F.typeCall_enumerate_1 _) (F.newCall_enumerate_1 _) (fun obj => F.args_object_init_2 obj _) F.entry_enumerate_new (enum_new1 B) ⟨h1, ?_⟩
  have hz : (s.heap.push o).objs.size = s.heap.objs.size + 1 := Heap.size_push ..
  show _ ∧ _
  rw [hz]
  have he : ((s.heap.push o).push { cls := .type "enumerate", data := .fields #[.none, .bool false, .ref s.heap.objs.size, rawInt 0, .none, .none] }).get? (s.heap.objs.size + 1) = some { cls := .type "enumerate", data := .fields #[.none, .bool false, .ref s.heap.objs.size, rawInt 0, .none, .none] } := by
    rw [← hz]; exact Heap.get?_push_size _ rfl
  exact ⟨⟨_, he, rfl⟩, h _ he (Heap.get?_push_of_some _ (Heap.get?_push_size _ B.free)) fun b o x => Heap.get?_push_of_some _ (Heap.get?_push_of_some _ x)⟩
end
/-- the tuple at a, each item in a new pair with its place -/
def IteT (K : PySem.W.Frag) (a : Addr) : It :=
  ⟨fun i H => ∃ (xs : List V) (x : V), SqT K H a xs ∧ xs[i]? = some x, fun i H v H' => ∃ T x, v = .ref T ∧ H T = none ∧ H' = upd H T (.tup [.int (i : Nat), x]) ∧ ∀ xs, SqT K H a xs → xs[i]? = some x, fun i H => ∃ xs : List V, SqT K H a xs ∧ xs.length = i⟩
theorem turn_enumT {P : Program} {w : World} {K : PySem.W.Frag} {elts : List Expr} {kk : Nat} {tpos : Pos} (a e it : Addr) (hai : a ≠ it) (hae : e ≠ a) :
    Turn P w K (.Tuple elts kk tpos) (IteT K a) [e, it] e (fun i h => (∃ old, IsEnum h e it ((i : Nat) : Int) old) ∧ h.IsTupleIter it a i ∧ e ≠ it) where
  mem := List.mem_cons_self
  obj := fun i h st b hb => by
    obtain ⟨⟨old, he⟩, ⟨o, ho, hc, hd⟩, _⟩ := st
    rcases List.mem_cons.mp hb with z | z
    · rw [z]; exact ⟨_, he, fun v q => nomatch q⟩
    · rw [List.mem_singleton.mp z]; exact ⟨o, ho, fun v q => by rw [hd] at q; cases q⟩
  keep := fun i h h' st k => let ⟨⟨old, he⟩, hi, hne⟩ := st; ⟨⟨old, k e (by simp) _ he⟩, hi.at fun o q => k it (by simp) o q, hne⟩
  item := by
    intro X hP hw hK hc i pins s σ H E I hf st hg
    subst hP hw hK
    obtain ⟨⟨old, he⟩, hit, hne⟩ := st
    obtain ⟨xs, x, hq, hx⟩ := hg
    obtain ⟨its, rv, p, hz⟩ := I.tuple hq
    obtain ⟨u, hu, ru⟩ := rv.get hx
    have hel : e < s.heap.objs.size := Heap.lt_size he
    have hil : it < s.heap.objs.size := by obtain ⟨_, q, _⟩ := hit; exact Heap.lt_size q
    have hsz : i < its.toArray.size := by
      have := (List.getElem?_eq_some_iff.mp hu).1
      simpa using this
    have D := Draws.tuple (prog := X.prog) (w := X.w) (A := X.A.in1) (I.ok.hd hc) it a hai its.toArray
    refine wpAny_pyNext_enum_itemD D he ⟨hit, show s.heap.IsTuple a its.toArray from p⟩ hsz hne (by simp [hne, hae]) fun x' h' tk hx' ho hst hT hsz2 hk => ?_
    have hxu : x' = u := by
      have : its[i]? = some x' := by simpa using hx'
      rw [hu] at this
      exact (Option.some.inj this).symm
    subst hxu
    refine ⟨_, rfl, wpAny_letOwnedTupleGo_enum (s := { s with heap := h', toks := tk + 1 }) ho fun h2 he2 sb => ?_⟩
    have hT2 : h2.get? s.heap.objs.size = some { cls := .type "tuple", data := .seq #[.int i tk, x'] } := (sb.2 _ (Nat.ne_of_gt hel)).trans hT
    have new : ObjOk X.prog X.w (upd H s.heap.objs.size (.tup [.int (i : Nat), x])) h2 s.heap.objs.size (.tup [.int (i : Nat), x]) :=
      ⟨by show 2 ≤ sizeLine; decide, [.int i tk, x'], .cons ⟨_, rfl⟩ (.cons ru .nil), ⟨_, hT2, rfl, _, rfl⟩⟩
    have I1 : Inv X pins σ (upd H s.heap.objs.size (.tup [.int (i : Nat), x])) { s with heap := h2, toks := tk + 1 } :=
      I.turnedNew (ch := [e, it]) (fun b ob hb q => (sb.2 b (fun z => hb (by simp [z]))).trans (hk b ob (fun z => hb (by simp [z])) (fun z => hb (by simp [z])) q)) hf (Nat.le_refl _) new
    refine ⟨.ref s.heap.objs.size, _, I1, rfl, ⟨_, x, rfl, I.hok.fresh (Nat.le_refl _), rfl, fun ys hy => by rw [I.tuple_inj hy hq]; exact hx⟩, ⟨⟨x', ?_⟩, hst.1.at fun o q => (sb.2 it (Ne.symm hne)).trans q, hne⟩, fun b hb => ?_⟩
    · have e1 : ((i + 1 : Nat) : Int) = (i : Int) + 1 := by omega
      rw [e1]; exact he2
    · have hb' : b < s.heap.objs.size := by
        rcases List.mem_cons.mp hb with z | z
        · rw [z]; exact hel
        · rw [List.mem_singleton.mp z]; exact hil
      rw [upd_ne (Nat.ne_of_lt hb')]
      exact (hf b hb).1
  done := by
    intro X hP hw hK hc i pins s σ H E I hf st hg
    subst hP hw hK
    obtain ⟨⟨old, he⟩, hit, hne⟩ := st
    obtain ⟨xs, hq, hx⟩ := hg
    obtain ⟨its, rv, p, hz⟩ := I.tuple hq
    obtain ⟨f0, f1, f2, f3, f4, f5⟩ := hf it (by simp)
    have hl : its.toArray.size = i := by
      have := rv.length
      rw [List.size_toArray]; omega
    subst hl
    have D := Draws.tuple (prog := X.prog) (w := X.w) (A := X.A.in1) (I.ok.hd hc) it a hai its.toArray
    exact wpAny_pyNext_enum_endD D he ⟨hit, show s.heap.IsTuple a its.toArray from p⟩ fun h' eb => ⟨rfl, I.turned (t' := s.toks) (fun b o hb q => eb b o hb q) f0 f1 f3 f4 f5⟩
  self := fun A i s Q E st h => let ⟨⟨_, he⟩, _⟩ := st; wpAny_pyIter_enum he h
def iEnumT (K : PySem.W.Frag) (ta : TA) : L2.TI := fun σ H R => ta σ H fun vs H1 => ∃ a xs, vs = [V.ref a] ∧ SqT K H1 a xs ∧ R (IteT K a) H1
theorem pi_enumT {X : Cx} {e : Expr} {ta : TA} {p pos tpos : Pos} {elts : List Expr} {kk : Nat} (hg : Gl X "enumerate") (hm : X.mg "enumerate" = none) (ha : PA X [e] ta) (hs : starEach [e] X.env = [(false, eval e X.env)] := by rfl) :
    PI X (.Tuple elts kk tpos) (.Call (.Name "enumerate" p) [e] [] pos) (iEnumT X.K ta) := by
  refine ⟨fun pins s σ H R I h => ?_⟩
  refine Call_ (ld_blt I hg hm boot_enumerate (PyProof.Rows.callWith_type1 (thn (ha.run pos pins s σ H _ I h) fun us s1 ⟨vs, H1, I1, r1, q1⟩ => ?_) hs rfl))
  obtain ⟨a, xs, ex, hq, q⟩ := q1
  subst ex
  cases r1 with
  | cons r rr =>
    cases rr
    cases r
    obtain ⟨its, rv, pt, hz⟩ := I1.tuple hq
    have hta : s1.heap.IsTuple a its.toArray := pt
    have hla : a < s1.heap.objs.size := by obtain ⟨o, q, _⟩ := hta; exact Heap.lt_size q
    refine enum_call1 (begins_tuple a its.toArray) hta fun h' he hit hk => wpAny_pyIter_enum he ?_
    have I2 : Inv X pins σ H1 { s1 with heap := h' } := I1.kept (t' := s1.toks) hk
    refine ⟨s1.heap.objs.size + 1, [s1.heap.objs.size + 1, s1.heap.objs.size], _, _, H1, rfl, I2, turn_enumT a (s1.heap.objs.size + 1) s1.heap.objs.size (Nat.ne_of_lt hla) (Nat.ne_of_gt (Nat.lt_succ_of_lt hla)), ⟨⟨.none, he⟩, ⟨_, hit, rfl, rfl⟩, Nat.succ_ne_self _⟩, fun b hb => ?_, q⟩
    have hle : s1.heap.objs.size ≤ b := by
      rcases List.mem_cons.mp hb with z | z
      · rw [z]; exact Nat.le_add_right _ _
      · rw [List.mem_singleton.mp z]; exact Nat.le_refl _
    exact I1.fpOk hle (I1.hok.fresh hle)
/-- the loop over enumerate(t) -/
theorem for_enumT {K : PySem.W.Frag} {a : Addr} {xs : List V} {g : TG} {tb : TS} {D : Ends} {σ : L2.St} {H : Hp} (Pv : Nat → L2.St → Hp → Prop) (h0 : Pv 0 σ H) (hl : ∀ i σ H, Pv i σ H → SqT K H a xs)
    (hs : ∀ (i : Nat) (x : V) (T : Addr) σ H, xs[i]? = some x → Pv i σ H → H T = none → g (.ref T) σ (upd H T (.tup [.int (i : Nat), x])) fun σ2 H2 => tb { D with nx := Pv (i + 1), ct := Pv (i + 1), bk := D.nx } σ2 H2) (hd : ∀ σ H, Pv xs.length σ H → D.nx σ H) :
    ∃ W : Nat → Nat → L2.St → Hp → Prop, (∃ m, W 0 m σ H) ∧ ∀ i m σ H, W i m σ H → ((IteT K a).stop i H ∧ D.nx σ H) ∨ ((IteT K a).go i H ∧ ∃ Nx : L2.St → Hp → Prop, (∀ σ' H', Nx σ' H' → ∃ m', m' < m ∧ W (i + 1) m' σ' H') ∧ ∀ x H', (IteT K a).yld i H x H' → g x σ H' fun σ2 H2 => tb { D with nx := Nx, ct := Nx, bk := D.nx } σ2 H2) := by
  refine ⟨fun i m σ H => m = xs.length - i ∧ i ≤ xs.length ∧ Pv i σ H, ⟨xs.length, by simp, Nat.zero_le _, h0⟩, ?_⟩
  rintro i m σ H ⟨rfl, hi, p⟩
  have q := hl i σ H p
  by_cases hlt : i < xs.length
  · refine .inr ⟨⟨xs, xs[i], q, by simp [hlt]⟩, Pv (i + 1), fun σ' H' p' => ⟨xs.length - (i + 1), by omega, rfl, hlt, p'⟩, fun x H' y => ?_⟩
    obtain ⟨T, y0, e1, e2, e3, e4⟩ := y
    subst e1 e3
    exact hs i y0 T σ H (e4 xs q) p e2
  · have e : i = xs.length := by omega
    subst e
    exact .inl ⟨⟨xs, q, rfl⟩, hd σ H p⟩
end Ts

set_option Elab.async false
set_option linter.all false
set_option maxRecDepth 100000
set_option maxHeartbeats 4000000
namespace Ts
open PySem PySem.Spec PyProof.Rows L2

/-! ### d.items() of a locked dict with tuple keys -/
section
variable {X : Cx} {pins : List (Addr × Obj)} {σ : L2.St} {H : Hp} {s : Shared} {d : Addr} {o : Obj}
theorem frzTv {kvs : List (List Key × V)} (I : Inv X pins σ H s) (h : H d = some (.frz o (.dT kvs))) :
    (d == sysModules) = false ∧ s.heap.get? d = some o ∧ o.ExactDict ∧ ∃ (es : Array DictEntry) (ep : Nat), o.data = .dict es ep ∧ es.size = kvs.length ∧
      ∀ (i : Nat) (k : List Key) (v : V), kvs[i]? = some (k, v) → ∃ (en : DictEntry) (q : Addr), es[i]? = some en ∧ en.key = .ref q ∧ H q = some (.tup (k.map kV)) ∧ RelV v en.val := by
  obtain ⟨hd, z, hs, xs, pr, o', es, ep, ho, hx, hdt, he, _⟩ := I.hok d _ h
  rw [hd] at ho
  cases ho
  refine ⟨hs, hd, hx, es, ep, hdt, ?_, fun i k v e => ?_⟩
  · have l1 : es.size = xs.length := size_of_entries he
    have l2 : kvs.length = xs.length := Paired.length pr
    omega
  · obtain ⟨b, hb, e1, e2, e3⟩ := paired_get pr e
    have q := entry_at he i
    rw [hb] at q
    exact ⟨_, b.2.1, q, rfl, e2, e3⟩
end
def ItiT (d : Addr) (o : Obj) (kvs : List (List Key × V)) : It :=
  ⟨fun i H => H d = some (.frz o (.dT kvs)) ∧ i < kvs.length,
   fun i H x H' => ∃ (T q : Addr) (k : List Key) (v : V), kvs[i]? = some (k, v) ∧ H q = some (.tup (k.map kV)) ∧ x = .ref T ∧ H T = none ∧ H' = upd H T (.tup [.ref q, v]),
   fun i H => H d = some (.frz o (.dT kvs)) ∧ kvs.length ≤ i⟩
section
variable {P : Program} {w : World} {K : PySem.W.Frag} {d : Addr} {o : Obj} {es : Array DictEntry} {ep : Nat}
theorem turn_itemsT {kvs : List (List Key × V)} {elts : List Expr} {kk : Nat} {tpos : Pos} (it : Addr) (hod : o.data = .dict es ep) :
    Turn P w K (.Tuple elts kk tpos) (ItiT d o kvs) [it] it (fun i h => ∃ ok ov, IsItemIter h it d i kvs.length ep ok ov) where
  mem := List.mem_cons_self
  obj := fun i h ⟨ok, ov, e⟩ b hb => by
    rw [List.mem_singleton.mp hb]
    exact ⟨_, e, fun v z => nomatch z⟩
  keep := fun i h h' ⟨ok, ov, e⟩ k => ⟨ok, ov, k it List.mem_cons_self _ e⟩
  item := by
    intro X hP hw hK hc i pins s σ H E I hf ⟨ok, ov, he⟩ ⟨hd, hi⟩
    subst hP hw hK
    obtain ⟨hs, hgd, hx, es', ep', hdt, hsz, ent⟩ := frzTv I hd
    obtain ⟨rfl, rfl⟩ := dict_ep hod hdt
    obtain ⟨⟨k, v⟩, hkv⟩ : ∃ p, kvs[i]? = some p := ⟨kvs[i], List.getElem?_eq_getElem hi⟩
    obtain ⟨en, q, hen, hkey, hq, rv⟩ := ent i k v hkv
    have hi' : i < es'.size := by omega
    have hen' : es'[i] = en := by
      have := Array.getElem?_eq_getElem hi'
      rw [this] at hen
      exact Option.some.inj hen
    rw [← hsz] at he
    have hlt : it < s.heap.objs.size := Heap.lt_size he
    refine wpAny_pyNext_items_item_raw he ⟨o, hgd, hx, hdt⟩ hi' fun h' ho hT hz hk => ?_
    rw [hen', hkey] at hT ho
    refine ⟨_, rfl, wpAny_letOwnedTupleGo_items (s := { s with heap := h' }) ho fun h2 he2 sb => ?_⟩
    have hT2 : h2.get? s.heap.objs.size = some { cls := .type "tuple", data := .seq #[.ref q, en.val] } := (sb.2 _ (Nat.ne_of_gt hlt)).trans hT
    have new : ObjOk X.prog X.w (upd H s.heap.objs.size (.tup [.ref q, v])) h2 s.heap.objs.size (.tup [.ref q, v]) :=
      ⟨by show 2 ≤ sizeLine; decide, [.ref q, en.val], .cons rfl (.cons rv .nil), ⟨_, hT2, rfl, _, rfl⟩⟩
    have I1 : Inv X pins σ (upd H s.heap.objs.size (.tup [.ref q, v])) { s with heap := h2 } :=
      I.turnedNew (t' := s.toks) (ch := [it]) (fun b ob hb e => (sb.2 b (by simpa using hb)).trans (hk b ob (by simpa using hb) e)) hf (Nat.le_refl _) new
    refine ⟨.ref s.heap.objs.size, _, I1, rfl, ⟨_, q, k, v, hkv, hq, rfl, I.hok.fresh (Nat.le_refl _), rfl⟩, ⟨.ref q, en.val, ?_⟩, fun b hb => ?_⟩
    · rw [← hsz]; exact he2
    · rw [List.mem_singleton.mp hb, upd_ne (Nat.ne_of_lt hlt)]
      exact (hf it List.mem_cons_self).1
  done := by
    intro X hP hw hK hc i pins s σ H E I hf ⟨ok, ov, he⟩ ⟨hd, hi⟩
    subst hP hw hK
    obtain ⟨f0, f1, f2, f3, f4, f5⟩ := hf it List.mem_cons_self
    obtain ⟨hs, hgd, hx, es', ep', hdt, hsz, ent⟩ := frzTv I hd
    obtain ⟨rfl, rfl⟩ := dict_ep hod hdt
    rw [← hsz] at he hi
    exact wpAny_pyNext_items_end_raw (I.ok.hd hc) he ⟨o, hgd, hx, hdt⟩ hi fun h' eb => ⟨rfl, I.turned (t' := s.toks) (fun b ob hb e => eb b ob hb e) f0 f1 f3 f4 f5⟩
  self := fun A i s Q E ⟨_, _, e⟩ h => PySem.W.kcp_self e h
end
def iItemsT (td : TE) : L2.TI := fun σ H R => td σ H fun x H1 => ∃ d o kvs, x = .ref d ∧ H1 d = some (.frz o (.dT kvs)) ∧ R (ItiT d o kvs) H1
theorem pi_itemsT {X : Cx} {e : Expr} {td : TE} {apos cpos : Pos} {elts : List Expr} {kk : Nat} {tpos : Pos} (he : PE X e td) (hbase : attributeBase e "items" X.env (eval e X.env) = eval e X.env := by rfl) (hline : (apos.endLine == cpos.line) = true := by rfl) :
    PI X (.Tuple elts kk tpos) (.Call (.Attribute e "items" apos) [] [] cpos) (iItemsT td) := by
  refine ⟨fun pins s σ H R I h => ?_⟩
  refine wpAny_Call_method (T := "dict") (id := "dict.items") hbase rfl hline F.plainAttrs_dict F.slot_dict_items F.type_dict_items (thn (he.run pins s σ H _ I h) fun u s1 ⟨x, H1, I1, rx, d, o, kvs, ex, hd, q⟩ => ?_)
  subst ex
  obtain rfl : u = Value.ref d := rx
  obtain ⟨hs, hgd, hx, es, ep, hdt, hsz, ent⟩ := frzTv I1 hd
  refine ⟨⟨o, hgd, hx.1⟩, fun b eb => ?_, ?_⟩
  · cases eb
    exact ⟨o, hgd, hx.2.1⟩
  have I2 : Inv X pins σ H1 { s1 with heap := s1.heap.push { cls := .type "dict_items", data := .fields #[.ref d] } } := I1.kept (t' := s1.toks) fun b ob q => Heap.get?_push_of_some _ q
  have hraw : (s1.heap.push { cls := .type "dict_items", data := .fields #[.ref d] }).DictRaw d es ep := ⟨o, Heap.get?_push_of_some _ hgd, hx, hdt⟩
  have fin : wpAny (model X.prog X.w) X.A (pyIter (.ref s1.heap.objs.size)) (PIE X pins σ (.Tuple elts kk tpos) R) X.xe { s1 with heap := s1.heap.push { cls := .type "dict_items", data := .fields #[.ref d] } } := by
    refine wpAny_pyIter_items_raw (d := d) ⟨_, Heap.get?_push_size _ rfl, rfl, rfl⟩ hraw (pi_one (tk := s1.toks) I2 _ (turn_itemsT _ hdt) ⟨.none, .none, ?_⟩ q)
    rw [← hsz]
    exact Heap.get?_push_size _ rfl
  show wpAny _ _ (callWith cpos (.builtin "dict.items") [.ref d] [] []) _ X.xe s1
  exact method_meetsIn F.slot_dict_items F.entry_dict_items rfl (PySem.evalArgs_none ⟨rfl, ⟨o, hgd, hx.1⟩, F.args_dict_items_1 _, _, meets_dict_items_raw d hs, ⟨es, ep, o, hgd, hx, hdt⟩, fin⟩)

/-! ### t * k of a tuple of ints, k at least 1 -/
theorem tuple_mul1 (l : Addr) (items : Array Value) (n : Nat) (dd : Option Addr) (sl : Array (Option Value)) (u : Tok) :
    Meets (Builtin.«tuple.__mul__» ⟨[.ref l, .int 1 u], []⟩) (fun _ R s => s.heap.get? l = some { cls := .type "tuple", dict := dd, data := .seq items n, slots := sl } ∧ R (.ok (.ret (Value.ref l))) s) :=
  .of_wp fun prog w A R s h => by
    obtain ⟨hp, g, d, tk, os⟩ := s
    obtain ⟨hl, h⟩ := h
    have f1 := AutoSeq1.idx_int
    wp_walk using AutoSeq1.wpAny_loadPart' hl
    exact ⟨_, rfl, h⟩
section
variable {X : Cx}
theorem rep_int (ns : List Int) (m : Nat) : (List.replicate m (ns.map V.int)).flatten = ((List.replicate m ns).flatten).map V.int := by
  rw [List.map_flatten, List.map_replicate]
theorem same_new {H : Hp} {p : Addr} {o : HO} (hp : H p = none) : Same H (upd H p o) := fun b u e => by
  rw [upd_ne (ne_of_none e hp)]
  exact e
theorem op_mulT : OpR X (binaryOp .Mult) (fun x y H Q => ∃ ns k, TI H x ns ∧ y = .int k ∧ ns ≠ [] ∧ 1 ≤ k ∧ k ≤ 1000 ∧ ns.length ≤ 1000 ∧ ∀ z H', Same H H' → TI H' z (List.replicate k.toNat ns).flatten → Q z H') := by
  intro pins s σ H x y v u Q I rx ry h
  obtain ⟨ns, k, ⟨l, rfl, e⟩, rfl, hne, h1, h2, hz, q⟩ := h
  by_cases hk : 2 ≤ k
  · refine op_repT pins s σ H (.ref l) (.int k) v u Q I rx ry ⟨l, k, ns.map V.int, rfl, rfl, SqT.of e, fun z => hne (List.map_eq_nil_iff.mp z), hk, h2, by rw [List.length_map]; exact hz, fun p hp => q _ _ (same_new hp) ⟨p, rfl, ?_⟩⟩
    rw [upd_same, rep_int]
  · have hk1 : k = 1 := by omega
    subst hk1
    cases rx
    obtain ⟨t, rfl⟩ := ry
    obtain ⟨its, r, ⟨⟨cls, dd, data, sl⟩, ho, hc, n, hd⟩, hs⟩ := I.tuple (SqT.of e)
    simp only at hc hd
    subst hc hd
    refine wpAny_binaryOp_repeat_ref (T := "tuple") (U := "int") (by decide) ⟨_, ho, rfl⟩ (fun s' => typeIs_int s' 1 t) noFill_tuple_mul F.fills_int_mul F.slot_int_rmul repeat_tuple F.slot_int_index.lookup
      (call_meets F.slot_int_rmul (typeIs_int s 1 t) F.entry_int_rmul (F.args_int_rmul_2 _ _) (int_rmul_tuple 1 t l its.toArray n dd sl)
        ⟨ho, rfl, ⟨_, ho, rfl⟩, call_meets F.slot_tuple_mul ⟨_, ho, rfl⟩ F.entry_tuple_mul (F.args_tuple_mul_2 _ _) (tuple_mul1 l its.toArray n dd sl t) ⟨ho, ?_⟩⟩)
    refine ⟨.ref l, H, I, rfl, q _ H (Same.refl H) ⟨l, rfl, ?_⟩⟩
    simpa using e
end
end Ts

set_option Elab.async false
set_option linter.all false
set_option maxRecDepth 100000
set_option maxHeartbeats 4000000
namespace Ts
open PySem PySem.Spec PyProof.Rows L2

/-! ### a lambda of one parameter and one captured name, handed on -/
def T0 : HO := .ext fun _ => True
def setO (H : Hp) (c : Addr) (o : Option HO) : Hp := fun b => if b = c then o else H b
theorem setO_same {H c o} : setO H c o c = o := if_pos rfl
theorem setO_ne {H c o b} (h : b ≠ c) : setO H c o b = H b := if_neg h
abbrev lamO (q : Str) (params : Arguments) (body : Expr) (scope : Scope) (cl : List (Str × Addr)) (pm : Value) (c' : Addr) (ctv : Value) : Obj := PySem.W.kla_obj "<lambda>" q params body scope cl pm c' ctv
/-- f is the lambda, its captured name b in the cell c holds v -/
structure LamAt (H : Hp) (f : Addr) (q : Str) (params : Arguments) (body : Expr) (scope : Scope) (b : Str) (c : Addr) (v : V) : Prop where
  ex : ∃ (pm : Value) (c' : Addr) (ctv : Value) (oc : Obj) (u : Value), H f = some (.frz (lamO q params body scope [(b, c)] pm c' ctv) T0) ∧ H c' = some (LamX.CodeO c' q) ∧ H c = some (.frz oc T0) ∧ oc.data = .cell (some u) ∧ RelV v u
theorem LamAt.mono {H H' f q params body scope b c v} (s : Same H H') (h : LamAt H f q params body scope b c v) : LamAt H' f q params body scope b c v := by
  obtain ⟨pm, c', ctv, oc, u, h1, h2, h3, h4, h5⟩ := h.ex
  exact ⟨pm, c', ctv, oc, u, s _ _ h1, s _ _ h2, s _ _ h3, h4, h5⟩
theorem t0_ok {P : Program} {w : World} {H : Hp} {h : Heap} {a : Addr} {o : Obj} (e : h.get? a = some o) : ObjOk P w H h a (.frz o T0) := ⟨e, trivial, ⟨o, e⟩, fun _ _ _ _ => trivial⟩
section
variable {P : Program} {w : World} {H : Hp} {h : Heap} {c : Addr}
/-- something that is no tuple and no instance's dict may be forgotten -/
theorem HOk.drop (x : HOk P w H h) (h1 : ∀ y, H c ≠ some (.own y)) (h2 : ∀ xs, H c ≠ some (.tup xs)) (o : Option HO) (ho : ∀ u, o = some u → ObjOk P w H h c u) (h3 : ∀ y, o ≠ some (.own y)) (h4 : ∀ xs, o ≠ some (.tup xs)) : HOk P w (setO H c o) h := fun a u e => by
  have kO : ∀ b y, H b = some (.own y) → setO H c o b = some (.own y) := fun b y q => by
    rw [setO_ne (fun z => h1 y (by rw [← z]; exact q))]; exact q
  have kT : ∀ b xs, H b = some (.tup xs) → setO H c o b = some (.tup xs) := fun b xs q => by
    rw [setO_ne (fun z => h2 xs (by rw [← z]; exact q))]; exact q
  by_cases hb : a = c
  · subst hb
    rw [setO_same] at e
    exact (ho u e).stay (fun _ _ _ q => q) (fun b q => kO b _ q) fun b xs q => kT b xs q
  · rw [setO_ne hb] at e
    exact (x a u e).stay (fun _ _ _ q => q) (fun b q => kO b _ q) fun b xs q => kT b xs q
end
section
variable {X : Cx} {pins : List (Addr × Obj)} {σ : L2.St} {H : Hp} {s : Shared}
open LamX
/-- the lambda is made -/
theorem lam_new {T : List (Addr × Str)} {c P : Addr} {params : Arguments} {body : Expr} {scope : Scope} {pos : Pos} {E : Value → Shared → Prop} {Q : Value → Shared → Prop} (I : Inv X pins σ H s) (TB : TabB X.base X.mg c P) (hcode : X.env.code = .ref c)
    (hm : (P, X.env.qual ++ "<lambda>") ∈ T) (hu : ∀ p ∈ T, p.1 = P → p.2 = X.env.qual ++ "<lambda>") (hT : Tabs T H) (hdef : defaultsOf params X.env = ([], [])) (hfree : ∀ y ∈ scope.names, y.2 = .free → ∃ c, X.env.cells.lookup y.1 = some c)
    (h : ∀ (f c' : Addr) (pm ctv : Value) (H1 : Hp) (s' : Shared), Inv X pins σ (upd H1 f (.frz (lamO (X.env.qual ++ "<lambda>") params body scope (cloFrom X.env.cells scope.names []) pm c' ctv) T0)) s' → ExtN H H1 → Tabs T H1 → H1 f = none → H1 c' = some (CodeO c' (X.env.qual ++ "<lambda>")) → Q (.ref f) s') :
    wpAny (model X.prog X.w) X.A (eval (.Lambda params body scope pos) X.env) Q E s := by
  obtain ⟨ps, hP, ht, ha⟩ := hT _ hm
  refine PySem.W.kla_eval hdef ?_
  have bP : s.heap.BuiltinsAt X.mg P := TB.bm.keeps I.bk
  have hP' : s.heap.get? P = some { cls := .none, data := .fields ps } := I.hok P _ hP
  -- the lambda's object laid onto a state
  have lay : ∀ {H1 : Hp} {h' : Heap} {tk t2 : Nat} {c' : Addr} {ctv : Value}, Inv X pins σ H1 { s with heap := h', toks := tk } →
      Inv X pins σ (upd H1 h'.objs.size (.frz (lamO (X.env.qual ++ "<lambda>") params body scope (cloFrom X.env.cells scope.names []) ((X.mg "__name__").getD .none) c' ctv) T0)) { s with heap := h'.push (lamO (X.env.qual ++ "<lambda>") params body scope (cloFrom X.env.cells scope.names []) ((X.mg "__name__").getD .none) c' ctv), toks := t2 } :=
    fun {H1 h' tk t2 c' ctv} J => J.laid (t' := t2) (fun b o e => Heap.get?_push_of_some _ e) (Nat.le_refl _) (t0_ok (Heap.get?_push_size _ rfl))
  cases hc : codeAmong pos ps.toList with
  | none =>
    refine PySem.W.kla_makeFunction (mg := X.mg) (c := c) (P := P) (ps := ps) (closure_ok hfree) I.ok.glob (I.mod.glob.keeps I.bk) hcode (TB.code.keeps I.bk) hP' ht hc TB.gP bP fun c' ctv h' tk hx hge hlt hrec htb => ?_
    obtain ⟨c2, oc, vs, t, e2, hoc, hd, hv⟩ := hrec
    cases e2
    have nC : H c' = none := I.hok.fresh hge
    have I1 := inv_table (t' := tk) (more := #[rawInt pos.line, rawInt pos.col, .ref c']) I hP hx htb hge ⟨oc, vs, t, hoc, hd, hv⟩
    have hE : ExtN H (upd (upd H P (.tbl (ps ++ #[rawInt pos.line, rawInt pos.col, .ref c']))) c' (CodeO c' (X.env.qual ++ "<lambda>"))) := fun b o e n => by
      rw [upd_ne (ne_of_none e nC), upd_ne (fun z => n ps (Option.some.inj (e.symm.trans (by rw [z]; exact hP))))]
      exact e
    have eL : (ps ++ #[rawInt pos.line, rawInt pos.col, .ref c']).toList = ps.toList ++ [rawInt pos.line, rawInt pos.col, .ref c'] := by simp
    refine h _ c' _ ctv _ _ (lay I1) hE (fun p hp => ?_) (I1.hok.fresh (Nat.le_refl _)) upd_same
    by_cases hb : p.1 = P
    · rw [hu p hp hb, hb]
      refine ⟨_, by rw [upd_ne (ne_of_none hP nC), upd_same], by rw [eL]; exact PySem.TriplesOk_snoc _ _ _ _ ht, fun p' cv hcv => ?_⟩
      rw [eL] at hcv
      rcases among_app _ ht hcv with z | z
      · obtain ⟨c0, e1, e2⟩ := ha p' cv z
        exact ⟨c0, e1, hE _ _ e2 codeO_ne⟩
      · exact ⟨c', z, upd_same⟩
    · obtain ⟨ps', a1, a2, a3⟩ := hT p hp
      refine ⟨ps', by rw [upd_ne (ne_of_none a1 nC), upd_ne hb]; exact a1, a2, fun p' cv hcv => ?_⟩
      obtain ⟨c0, e1, e2⟩ := a3 p' cv hcv
      exact ⟨c0, e1, hE _ _ e2 codeO_ne⟩
  | some cv =>
    obtain ⟨c', e, hco⟩ := ha pos cv hc
    subst e
    refine PySem.W.kla_makeFunctionHit (mg := X.mg) (c := c) (P := P) (ps := ps) (closure_ok hfree) I.ok.glob (I.mod.glob.keeps I.bk) hcode (TB.code.keeps I.bk) hP' ht hc bP fun ctv h' tk hx hsz => ?_
    have I1 : Inv X pins σ H { s with heap := h', toks := tk } := I.kept hx
    exact h _ c' _ ctv H _ (lay I1) (ExtN.refl H) hT (I1.hok.fresh (Nat.le_refl _)) hco
/-- the lambda as an argument -/
def tLamE (X : Cx) (T : List (Addr × Str)) (params : Arguments) (body : Expr) (scope : Scope) : TE := fun _ H Q => Tabs T H ∧ ∀ (f c' : Addr) (pm ctv : Value) (H1 : Hp), ExtN H H1 → Tabs T H1 → H1 f = none → H1 c' = some (CodeO c' (X.env.qual ++ "<lambda>")) →
  Q (.ref f) (upd H1 f (.frz (lamO (X.env.qual ++ "<lambda>") params body scope (cloFrom X.env.cells scope.names []) pm c' ctv) T0))
theorem pe_lamE {T : List (Addr × Str)} {c P : Addr} {params : Arguments} {body : Expr} {scope : Scope} {pos : Pos} (TB : TabB X.base X.mg c P) (hcode : X.env.code = .ref c) (hm : (P, X.env.qual ++ "<lambda>") ∈ T) (hu : ∀ p ∈ T, p.1 = P → p.2 = X.env.qual ++ "<lambda>")
    (hdef : defaultsOf params X.env = ([], [])) (hfree : ∀ y ∈ scope.names, y.2 = .free → X.env.scope.names.lookup y.1 = some .cell ∨ X.env.scope.names.lookup y.1 = some .free) : PE X (.Lambda params body scope pos) (tLamE X T params body scope) := by
  refine ⟨fun pins s σ H Q I h => ?_⟩
  obtain ⟨hT, h⟩ := h
  refine lam_new I TB hcode hm hu hT hdef (fun y hy e => ?_) fun f c' pm ctv H1 s' I1 e1 T1 hf hc => ⟨.ref f, _, I1, rfl, h f c' pm ctv H1 e1 T1 hf hc⟩
  rcases hfree y hy e with k | k
  · exact I.ok.has _ (.inl k)
  · exact I.ok.has _ (.inr k)

/-- g(.., lambda): the cell of the captured name is known while the callee runs -/
def tCallC (sp : Sp) (t : TA) (i : Nat) (X : Cx) (b : Str) : TE := fun σ H Q => t σ H fun vs H1 => ∃ v, σ[i]? = some (some v) ∧ ∀ (c : Addr) (oc : Obj) (u : Value), X.env.cells.lookup b = some c → H1 c = none → oc.data = .cell (some u) → RelV v u →
  sp vs (upd H1 c (.frz oc T0)) (fun r H2 => Q r (setO H2 c none)) E0
theorem pe_callC {k i : Nat} {f : Addr} {fd : FuncData} {ps : List Str} {sp : Sp} {x b : Str} {p pos : Pos} {e : Expr} {es : List Expr} {t : TA} (F : FnOk X.prog X.w X.K X.mg X.base CX0 k f fd ps sp) (hr : Room k X.A) (hg : Gl X x) (hm : X.mg x = some (.ref f)) (hk : PySem.W.keepIn X.K (.ref f) = true) (hb : Binds X.K fd ps [])
    (ha : PA X (e :: es) t) (hN : X.N[i]? = some b) (hcell : X.env.scope.names.lookup b = some .cell) (hfn : X.fn b = true) (hdb : (x == ("__debug__" : Str)) = false := by decide) (he : starEach (e :: es) X.env = (false, eval e X.env) :: starEach es X.env := by rfl) (hpl : (backTo pos (starEach es X.env)).any (·.1) = false := by rfl) :
    PE X (.Call (.Name x p) (e :: es) [] pos) (tCallC sp t i X b) := by
  refine ⟨fun pins s σ H Q I h => ?_⟩
  refine wpAny_Call_Name_kw (ld_glob I hg hm ?_ hdb)
  refine PySem.W.callWith_K (h₀ := X.base) I.ok.mod.kin hk (thn (ha.run pos pins s σ H _ I h) fun us s1 ⟨vs, H1, I1, r, q⟩ => ⟨I1.kIn, ?_⟩) he hpl
  obtain ⟨v, hv, q⟩ := q
  obtain ⟨c, hc⟩ := I1.ok.has b (.inl hcell)
  obtain ⟨m, _, hl⟩ := I1.loc
  obtain ⟨u, ru, lk⟩ := hl i b v hN hv (.inr (.inl hcell))
  have hcl : s1.heap.IsCell c (some u) := by
    rcases lk with ⟨z, _⟩ | ⟨_, c2, h1, h2⟩
    · have z' : X.env.scope.names.lookup b = some .local := z
      rw [hcell] at z'; cases z'
    · rw [hc] at h1; cases h1; exact h2
  obtain ⟨oc, hoc, hocd⟩ := hcl
  have nC : H1 c = none := I1.freeC b c hc
  have q1 := q c oc u hc nC hocd ru
  have hcs : X.s_0.heap.objs.size ≤ c := I1.ok.cab b c hfn hc
  have eU : upd H1 c (.frz oc T0) = setO H1 c (some (.frz oc T0)) := rfl
  have hok1 : HOk X.prog X.w (upd H1 c (.frz oc T0)) s1.heap := by
    rw [eU]
    exact HOk.drop I1.hok (fun y z => by rw [nC] at z; cases z) (fun xs z => by rw [nC] at z; cases z) _ (fun u hu => by cases hu; exact t0_ok hoc) (fun y z => by cases z) (fun xs z => by cases z)
  have nfr : ∀ z ∈ frs X.stack, z ≠ c := fun z hz e => by
    subst e
    rcases List.mem_cons.mp (I1.stkSub z hz) with e | hz2
    · exact I1.cne b z hc e
    · obtain ⟨_, o, ho, _⟩ := I1.ok.funs.mem hz2
      exact absurd (Nat.lt_of_lt_of_le (Heap.lt_size ho) hcs) (Nat.lt_irrefl _)
  have e0 := I1.env0
  have e1 : Env0 X.prog X.w X.K X.mg X.base X.A X.stack s1 (upd H1 c (.frz oc T0)) := ⟨e0.frames, e0.mod, fun z o hz => ⟨(e0.bs z o hz).1, by
    rw [upd_ne (fun e => ?_)]
    · exact (e0.bs z o hz).2
    · subst e
      exact absurd (Nat.lt_of_lt_of_le (Nat.lt_of_lt_of_le (Heap.lt_size hz) I1.ok.bsz) hcs) (Nat.lt_irrefl _)⟩, e0.bsz, e0.funs, fun z hz => by rw [upd_ne (nfr z hz)]; exact e0.frf z hz, hok1, e0.bare⟩
  have hl : (us ++ []).length = ps.length := by rw [List.append_nil, ← r.length]; exact F.len _ _ _ _ q1
  have hbi := hb s1 us I1.kIn hl
  rw [List.append_nil] at hbi
  refine wpAny_call (codeAny_mono (F.run X.A X.stack s1 _ ⟨us, []⟩ us vs _ E0 hr e1 hbi r q1) fun rr s' hq => ?_)
  cases rr with
  | error e => exact (show False from hq).elim
  | ok fl =>
    cases fl with
    | next => exact False.elim hq
    | brk => exact False.elim hq
    | cont => exact False.elim hq
    | ret u2 =>
      obtain ⟨v2, H2, os, bare, un, hok2, rv2, q2⟩ := hq
      have h2c : H2 c = some (.frz oc T0) := un.frzs c oc T0 upd_same
      have hc2 : s'.heap.get? c = some oc := (hok2 c _ h2c).1
      have up : ∀ {z}, z ≠ c → upd H1 c (.frz oc T0) z = H1 z := fun hz => upd_ne hz
      have un3 : Un (frs X.stack) [] H1 (setO H2 c none) s1.heap s'.heap := by
        refine ⟨fun z o e n hb hx => ?_, fun z o e n hb hx => ?_, fun z o e n hx => ?_, un.there, fun z xs e => ?_, fun z o u e => ?_, fun z ps e => ?_⟩
        · by_cases hz : z = c
          · subst hz; rw [hoc] at e; cases e; exact hc2
          · exact un.keep z o e (by rw [up hz]; exact n) hb hx
        · have hz : z ≠ c := nfr z hb
          exact un.slot z o e (by rw [up hz]; exact n) hb hx
        · by_cases hz : z = c
          · subst hz; exact setO_same
          · rw [setO_ne hz]; exact un.free z o e (by rw [up hz]; exact n) hx
        · have hz : z ≠ c := fun y => by subst y; rw [nC] at e; cases e
          rw [setO_ne hz]; exact un.tups z xs (by rw [up hz]; exact e)
        · have hz : z ≠ c := fun y => by subst y; rw [nC] at e; cases e
          rw [setO_ne hz]; exact un.frzs z o u (by rw [up hz]; exact e)
        · have hz : z ≠ c := fun y => by subst y; rw [nC] at e; cases e
          rw [setO_ne hz]; exact un.tbls z ps (by rw [up hz]; exact e)
      have hok3 : HOk X.prog X.w (setO H2 c none) s'.heap := HOk.drop hok2 (fun y z => by rw [h2c] at z; cases z) (fun xs z => by rw [h2c] at z; cases z) none (fun u z => by cases z) (fun y z => by cases z) (fun xs z => by cases z)
      exact ⟨v2, _, I1.call' os un3 hok3 bare (fun z hz => absurd hz (by simp)), rv2, q2⟩

/-! ### the handed lambda called -/
structure LamS1 (scope : Scope) (a b : Str) : Prop where
  kind : scope.kind = .function
  co : scope.isCoroutine = false
  gen : scope.isGenerator = false
  la : scope.names.lookup a = some .local
  lb : scope.names.lookup b = some .free
  nocell : ∀ y ∈ scope.names, y.2 ≠ .cell
  onlyF : ∀ y, scope.names.lookup y = some .free → y = b
  nab : a ≠ b
abbrev lamEnv1 (q : Str) (scope : Scope) (L f c' : Addr) (b : Str) (c : Addr) : Env := PySem.W.envX q scope L f (.ref c') [(b, c)]
/-- the context of the body -/
def lamCx1 (X : Cx) (A : Around) (s : Shared) (H : Hp) (q : Str) (scope : Scope) (f c' : Addr) (a b : Str) (c : Addr) : Cx where
  prog := X.prog
  w := X.w
  K := X.K
  mg := X.mg
  base := X.base
  A := A.deeper (lamEnv1 q scope s.heap.objs.size f c' b c)
  N := [a, b]
  s_0 := s
  H_0 := H
  env := lamEnv1 q scope s.heap.objs.size f c' b c
  outer := X.stack
  stack := lamEnv1 q scope s.heap.objs.size f c' b c :: X.stack
  ex := []
  fn := fun _ => false
  calm := true
  pn := []
  xe := fun _ _ => False
theorem lookup1 {b y : Str} {c d : Addr} (h : ([(b, c)] : List (Str × Addr)).lookup y = some d) : y = b ∧ d = c := by
  by_cases e : y = b
  · subst e
    rw [List.lookup_cons_self] at h
    exact ⟨rfl, (Option.some.inj h).symm⟩
  · rw [List.lookup_cons, show (y == b) = false from beq_eq_false_iff_ne.mpr e] at h
    cases h
theorem lam_start1 {A : Around} {q : Str} {scope : Scope} {f c' : Addr} {a b : Str} {c : Addr} {x v : V} {ux uv : Value} {h₁ : Heap} {tk : Nat} (S : LamS1 scope a b) (e0 : Env0 X.prog X.w X.K X.mg X.base A X.stack s H) (hd : A.handled = none) (hc : s.heap.IsCell c (some uv)) (nC : H c = none) (rx : RelV x ux) (rv : RelV v uv)
    (hns : h₁.Ns s.heap.objs.size fun y => ([(a, ux)] : List (Str × Value)).reverse.lookup y) (kp : ∀ b o, s.heap.get? b = some o → h₁.get? b = some o) :
    Inv (lamCx1 X A s H q scope f c' a b c) [] [some x, some v] H { s with heap := h₁, toks := tk } := by
  have noA : ∀ z : Addr, z ∉ (lamCx1 X A s H q scope f c' a b c).ex := fun z y => absurd (show z ∈ ([] : List Addr) from y) (by simp)
  refine ⟨⟨e0.mod, S.kind, rfl, rfl, Nat.le_refl _, fun y z d e1 e2 => ?_, fun y hy => ?_, fun y d z _ => ?_, fun _ => hd, Around.frames_deeper e0.frames, .inr ⟨rfl, rfl⟩, fun z y => absurd y (noA z), e0.bs, e0.bsz, fun z _ _ => noA z, fun z y => absurd y (noA z), e0.funs, e0.frf⟩,
    rfl, e0.bare, Un.kept kp, ⟨_, hns, fun i y vv e1 e2 e3 => ?_⟩, fun y d e => ?_, e0.hok.fresh (Nat.le_refl _), fun y d e => ?_, fun z hz => absurd (show z ∈ ([] : List (Addr × Obj)) ++ [] from hz) (by simp), e0.hok.kept kp, rfl⟩
  · exact (lookup1 e1).1.trans (lookup1 e2).1.symm
  · have hy : scope.names.lookup y = some .cell ∨ scope.names.lookup y = some .free := hy
    rcases hy with hy | hy
    · exact absurd rfl (S.nocell _ (PySem.mem_of_lookup hy))
    · refine ⟨c, ?_⟩
      rw [S.onlyF y hy]
      exact List.lookup_cons_self
  · have z : false = true := z
    cases z
  · match i, e1, e2 with
    | 0, e1, e2 =>
      have ea : a = y := Option.some.inj e1
      have ex : x = vv := Option.some.inj (Option.some.inj e2)
      subst ea ex
      refine ⟨ux, rx, .inl ⟨S.la, ?_⟩⟩
      show ([(a, ux)] : List (Str × Value)).lookup a = some ux
      exact List.lookup_cons_self
    | 1, e1, e2 =>
      have eb : b = y := Option.some.inj e1
      have ev : v = vv := Option.some.inj (Option.some.inj e2)
      subst eb ev
      refine ⟨uv, rv, .inr ⟨.inr S.lb, c, List.lookup_cons_self, ?_⟩⟩
      obtain ⟨o, ho, hdt⟩ := hc
      exact ⟨o, kp _ _ ho, hdt⟩
    | i + 2, e1, e2 => exact absurd e1 (by simp [lamCx1])
  · obtain ⟨_, rfl⟩ := lookup1 e
    obtain ⟨o, ho, hdt⟩ := hc
    exact ⟨_, o, kp _ _ ho, hdt⟩
  · obtain ⟨_, rfl⟩ := lookup1 e
    exact nC
/-- x(e), x the handed lambda -/
def tUseL (i : Nat) (te : TE) (q : Str) (params : Arguments) (body : Expr) (scope : Scope) (b : Str) (tb : TE) : TE := fun σ H Q => ∃ (f c : Addr) (v : V), σ[i]? = some (some (.ref f)) ∧ LamAt H f q params body scope b c v ∧ te σ H fun y H1 => LamAt H1 f q params body scope b c v ∧
  tb [some y, some v] (setO H1 c none) fun r H2 => Q r (setO H2 c (H1 c))
theorem pe_useL {k i : Nat} {x a b q : Str} {params : Arguments} {body e : Expr} {scope : Scope} {te tb : TE} {p1 p2 : Pos} (hN : X.N[i]? = some x) (hv : Vis X.env.scope x) (he : PE X e te) (S : LamS1 scope a b) (hr : Room (k + 1) X.A)
    (hbind : ∀ (cl : List (Str × Addr)) (pm cv ctv u : Value), bindArgs (PySem.W.kla_fn "<lambda>" q params body scope cl pm cv ctv) ⟨[u], []⟩ = pure [(a, u)])
    (hbody : ∀ (A : Around) (s : Shared) (H : Hp) (f c' c : Addr), Room k (A.deeper (lamEnv1 q scope s.heap.objs.size f c' b c)) → PE (lamCx1 X A s H q scope f c' a b c) body tb)
    (hd : (x == ("__debug__" : Str)) = false := by decide) (hcd : (x == ("__classdict__" : Str)) = false := by decide) (hst : starEach [e] X.env = (false, eval e X.env) :: starEach [] X.env := by rfl) (hpl : (backTo p2 (starEach [] X.env)).any (·.1) = false := by rfl) :
    PE X (.Call (.Name x p1) [e] [] p2) (tUseL i te q params body scope b tb) := by
  refine ⟨fun pins s σ H Q I h => ?_⟩
  obtain ⟨f, c, v, hs, L, ht⟩ := h
  refine wpAny_Call_Name_kw (thn ((pe_var (pos := p1) (i := i) hN hv hd hcd).run pins s σ H (fun v' H1 => v' = .ref f ∧ H1 = H) I ⟨.ref f, hs, rfl, rfl⟩) fun u s1 ⟨v', H1, I1, r1, q1⟩ => ?_)
  obtain ⟨ev, eH⟩ := q1
  subst ev
  rw [eH] at I1
  obtain rfl : u = Value.ref f := r1
  have fnAt : ∀ {H' : Hp} {s' : Shared}, Inv X pins σ H' s' → LamAt H' f q params body scope b c v → PySem.W.FnAt f s'.heap := fun J L => by
    obtain ⟨pm, c', ctv, oc, uv, l1, l2, l3, l4, l5⟩ := L.ex
    exact ⟨_, _, _, _, (J.hok f _ l1).1⟩
  refine PySem.W.callWith_F (first := []) (fnAt I1 L) (thn ((pa_cons he pa_nil hst).run p2 pins s1 σ H (fun vs H1 => match vs with
    | [y] => LamAt H1 f q params body scope b c v ∧ tb [some y, some v] (setO H1 c none) fun r H2 => Q r (setO H2 c (H1 c))
    | _ => False) I1 ht) fun us s2 ⟨vs, H2, I2, r, z⟩ => ?_) hst hpl
  cases r with
  | nil => exact z.elim
  | cons rx rr =>
    cases rr with
    | cons _ _ => exact z.elim
    | nil =>
      rename_i y ux hap
      obtain ⟨L2', z⟩ := z
      refine ⟨fnAt I2 L2', ?_⟩
      obtain ⟨pm, c', ctv, oc, uv, l1, l2, l3, l4, l5⟩ := L2'.ex
      have of2 : s2.heap.get? f = some (lamO q params body scope [(b, c)] pm c' ctv) := (I2.hok f _ l1).1
      have hoc : s2.heap.get? c = some oc := (I2.hok c _ l3).1
      obtain ⟨⟨o3, vs3, t3, h31, h32, h33⟩, _, _⟩ := I2.hok c' _ l2
      have nfr : ∀ z ∈ frs X.stack, z ≠ c := fun z hz e => by
        have := I2.stkFree z hz
        rw [e, l3] at this
        cases this
      have hokI : HOk X.prog X.w (setO H2 c none) s2.heap := HOk.drop I2.hok (fun y z => by rw [l3] at z; cases z) (fun xs z => by rw [l3] at z; cases z) none (fun u z => by cases z) (fun y z => by cases z) (fun xs z => by cases z)
      have e0 := I2.env0
      have down : ∀ {z}, H2 z = none → setO H2 c none z = none := fun {z} hz => by
        by_cases e : z = c
        · rw [e]; exact setO_same
        · rw [setO_ne e]; exact hz
      have e1 : Env0 X.prog X.w X.K X.mg X.base X.A X.stack s2 (setO H2 c none) := ⟨e0.frames, e0.mod, fun z o hz => ⟨(e0.bs z o hz).1, down (e0.bs z o hz).2⟩, e0.bsz, e0.funs, fun z hz => down (e0.frf z hz), hokI, e0.bare⟩
      have rc : codeAny (model X.prog X.w) X.A (.call (.ref f) ⟨[ux], []⟩) (CR CX0 X.stack X.prog X.w (setO H2 c none) s2 (fun r H3 => Q r (setO H3 c (H2 c))) E0) s2 := by
        refine PySem.W.kla_callFunE hr.depth of2 rfl S.co S.gen rfl ⟨c', o3, vs3, t3, rfl, h31, h32, h33⟩ ?_
        rw [hbind]
        refine wpAny_pure (wpAny_newFunctionEnv S.nocell (fun y hy => ?_) (fun h₁ hns hsb => ⟨I2.nolimit.fresh _ hsb, ?_⟩) S.kind)
        · rw [List.mem_singleton.mp hy]; exact S.la
        · show codeAny _ _ (.expr body (lamEnv1 q scope s2.heap.objs.size f c' b c)) _ _
          have kp : ∀ b o, s2.heap.get? b = some o → h₁.get? b = some o := fun b o e => hsb.extBut b o (Nat.ne_of_lt (Heap.lt_size e)) (Heap.get?_push_of_some _ e)
          have J : L2.Inv (lamCx1 X X.A s2 (setO H2 c none) q scope f c' a b c) [] [some y, some v] (setO H2 c none) { s2 with heap := h₁, toks := s2.toks + [(a, ux)].length } :=
            lam_start1 S e1 hr.hd ⟨oc, hoc, l4⟩ setO_same rx l5 hns kp
          refine PySem.W.kla_codeExpr (wpAny_mono ((hbody X.A s2 _ f c' c (hr.deeper _)).run [] _ _ _ _ J z) (fun v' s' hq => ?_) fun e s' hq => (show False from hq).elim)
          obtain ⟨w', H', J', rv, qq⟩ := hq
          exact ⟨w', H', J'.os, J'.bare, J'.base, J'.hok, rv, qq⟩
      refine wpAny_call (codeAny_mono rc fun rr s' hq => ?_)
      cases rr with
      | error e => exact (show False from hq).elim
      | ok fl =>
        cases fl with
        | next => exact False.elim hq
        | brk => exact False.elim hq
        | cont => exact False.elim hq
        | ret u2 =>
          obtain ⟨v2, H3, os, bare, un, hok2, rv2, q2⟩ := hq
          have h3c : H3 c = none := un.free c oc hoc setO_same (by simp)
          have hc2 : s'.heap.get? c = some oc := un.keep c oc hoc setO_same (fun hz => nfr c hz rfl) (by simp)
          have same : ∀ {z}, z ≠ c → setO H2 c none z = H2 z := fun hz => setO_ne hz
          have un3 : Un (frs X.stack) [] H2 (setO H3 c (H2 c)) s2.heap s'.heap := by
            refine ⟨fun z o e n hb hx => un.keep z o e (down n) hb hx, fun z o e n hb hx => un.slot z o e (down n) hb hx, fun z o e n hx => ?_, un.there, fun z xs e => ?_, fun z o u e => ?_, fun z ps e => ?_⟩
            · have hz : z ≠ c := fun y => by subst y; rw [l3] at n; cases n
              rw [setO_ne hz]; exact un.free z o e (down n) hx
            · have hz : z ≠ c := fun y => by subst y; rw [l3] at e; cases e
              rw [setO_ne hz]; exact un.tups z xs (by rw [same hz]; exact e)
            · by_cases hz : z = c
              · subst hz; rw [setO_same]; exact e
              · rw [setO_ne hz]; exact un.frzs z o u (by rw [same hz]; exact e)
            · have hz : z ≠ c := fun y => by subst y; rw [l3] at e; cases e
              rw [setO_ne hz]; exact un.tbls z ps (by rw [same hz]; exact e)
          have hok3 : HOk X.prog X.w (setO H3 c (H2 c)) s'.heap := by
            rw [l3]
            exact HOk.drop hok2 (fun y z => by rw [h3c] at z; cases z) (fun xs z => by rw [h3c] at z; cases z) _ (fun u hu => by cases hu; exact t0_ok hc2) (fun y z => by cases z) (fun xs z => by cases z)
          exact ⟨v2, _, I2.call' os un3 hok3 bare (fun z hz => absurd hz (by simp)), rv2, q2⟩
end
end Ts

set_option Elab.async false
set_option linter.all false
set_option maxRecDepth 100000
set_option maxHeartbeats 4000000
namespace Ts
open PySem PySem.Spec PyProof.Rows L2

/-! ### heaps that keep their tuples -/
def SameT (H H' : Hp) : Prop := ∀ b xs, H b = some (.tup xs) → H' b = some (.tup xs)
theorem Same.t {H H' : Hp} (s : Same H H') : SameT H H' := fun b xs h => s b _ h
theorem sameT_put {H : Hp} {D : Addr} {acc acc' : List V} (h : H D = some (.lst acc)) : SameT H (upd H D (.lst acc')) := fun b xs e => by
  rw [upd_ne (ne_of e h (fun z => by cases z))]; exact e
theorem SameT.trans {H H1 H2 : Hp} (a : SameT H H1) (b : SameT H1 H2) : SameT H H2 := fun c o h => b c o (a c o h)
theorem SameT.refl (H : Hp) : SameT H H := fun _ _ h => h
theorem TI.monoT {H H' : Hp} (s : SameT H H') {x ns} (h : TI H x ns) : TI H' x ns := let ⟨t, e, q⟩ := h; ⟨t, e, s _ _ q⟩
theorem PR.monoT {H H' : Hp} (s : SameT H H') {x p} (h : PR H x p) : PR H' x p := let ⟨t, q, e, h1, h2⟩ := h; ⟨t, q, e, s _ _ h1, h2.monoT s⟩
theorem pTI.monoT {H H' : Hp} (s : SameT H H') {xs rows} (h : Paired (TI H) xs rows) : Paired (TI H') xs rows := L2.Paired.mapP h fun _ _ q => q.monoT s
theorem WB.monoT {H H' : Hp} (s : SameT H H') {x r} (h : WB H x r) : WB H' x r := let ⟨t, xs, e, h1, h2⟩ := h; ⟨t, xs, e, s _ _ h1, pTI.monoT s h2⟩

theorem Paired.snoc2 {α β : Type} {F : α → β → Prop} : ∀ {l : List α} {m : List β} {a : α} {b : β}, Paired F l m → F a b → Paired F (l ++ [a]) (m ++ [b])
  | _, _, _, _, .nil, h => .cons h .nil
  | _, _, _, _, .cons r t, h => .cons r (Paired.snoc2 t h)
theorem take_get {α : Type} {l : List α} {i : Nat} {x : α} (h : l[i]? = some x) : l.take (i + 1) = l.take i ++ [x] := by
  rw [List.take_add_one, h]; rfl
/-- a comprehension over n items of data as: what it makes of each, in the heap as it is then -/
theorem lcG {α : Type} {J : It} {g : TG} {tt : TT} {te : TE} {vs : List Nat} {σ : L2.St} {H1 : Hp} {D : Addr} {Qd : Hp → Prop} (as : List α) (hn : H1 D = none) (hlen : as.length ≤ sizeLine) (Src : α → V → Hp → Prop) (p : α → Bool) (Rel : α → Hp → V → Prop)
    (jgo : ∀ i H, Same H1 H → i < as.length → J.go i H) (jstop : ∀ H, Same H1 H → J.stop as.length H) (jy : ∀ i H x H', Same H1 H → J.yld i H x H' → Same H H' ∧ ∀ d, as[i]? = some d → Src d x H')
    (mono : ∀ d H H' y, SameT H H' → Rel d H y → Rel d H' y)
    (step : ∀ d x H, d ∈ as → Src d x H → Same H1 H → ∀ (Qy : V → Hp → Prop) (Nx : Hp → Prop), (∀ y H', p d = true → Same H H' → Rel d H' y → Qy y H') → (∀ H', p d = false → Same H H' → Nx H') →
      g x (wipe σ vs) H fun σ2 H2 => wipe σ2 vs = wipe σ vs ∧ tt σ2 H2 fun b H3 => if b = true then te σ2 H3 Qy else Nx H3)
    (fin : ∀ H ys, Same H1 H → H D = some (.lst ys) → Paired (fun d y => Rel d H y) (as.filter p) ys → Qd H) :
    ∃ W : Nat → Nat → Hp → Prop, (∃ m, W 0 m (upd H1 D (.lst []))) ∧ ∀ i m H, W i m H →
      (J.stop i H ∧ Qd H) ∨ (J.go i H ∧ ∃ Nx : Hp → Prop, (∀ H', Nx H' → ∃ m', m' < m ∧ W (i + 1) m' H') ∧ ∀ x H', J.yld i H x H' → g x (wipe σ vs) H' fun σ2 H2 => wipe σ2 vs = wipe σ vs ∧ tt σ2 H2 fun b H3 =>
        if b = true then te σ2 H3 fun y H4 => ∃ acc, H4 D = some (.lst acc) ∧ acc.length < sizeLine ∧ Nx (upd H4 D (.lst (acc ++ [y]))) else Nx H3) := by
  refine ⟨fun i m H => m = as.length - i ∧ i ≤ as.length ∧ Same H1 H ∧ ∃ ys, H D = some (.lst ys) ∧ Paired (fun d y => Rel d H y) ((as.take i).filter p) ys, ⟨as.length, by simp, Nat.zero_le _, same_new hn, [], upd_same, by simpa using Paired.nil⟩, ?_⟩
  rintro i m H ⟨rfl, hi, hs, ys, hD, hp⟩
  by_cases hlt : i < as.length
  · have hd : as[i]? = some as[i] := List.getElem?_eq_getElem hlt
    have hys : ys.length ≤ i := by
      have h1 := Paired.length hp
      have h2 := List.length_filter_le p (as.take i)
      have h3 := List.length_take_le i as
      omega
    refine .inr ⟨jgo i H hs hlt, fun H' => i + 1 ≤ as.length ∧ Same H1 H' ∧ ∃ ys, H' D = some (.lst ys) ∧ Paired (fun d y => Rel d H' y) ((as.take (i + 1)).filter p) ys, fun H' q => ⟨as.length - (i + 1), by omega, rfl, q⟩, fun x H' y => ?_⟩
    obtain ⟨s1, hsrc⟩ := jy i H x H' hs y
    refine step as[i] x H' (List.getElem_mem hlt) (hsrc _ hd) (hs.trans s1) _ _ (fun y H2 hpt s2 hr => ?_) (fun H2 hpf s2 => ?_)
    · have s3 := s1.trans s2
      refine ⟨ys, s3 _ _ hD, by omega, hlt, fun b o e => ?_, _, upd_same, ?_⟩
      · rw [upd_ne (ne_of_none e hn)]
        exact s3 _ _ (hs _ _ e)
      · rw [take_get hd, List.filter_append, show [as[i]].filter p = [as[i]] by simp [hpt]]
        exact Paired.snoc2 (L2.Paired.mapP hp fun d y' q => mono d _ _ y' (SameT.trans (Same.t s3) (sameT_put (s3 _ _ hD))) q) (mono _ _ _ _ (sameT_put (s3 _ _ hD)) hr)
    · have s3 := s1.trans s2
      refine ⟨hlt, hs.trans s3, ys, s3 _ _ hD, ?_⟩
      rw [take_get hd, List.filter_append, show [as[i]].filter p = [] by simp [hpf], List.append_nil]
      exact L2.Paired.mapP hp fun d y' q => mono d _ _ y' (Same.t s3) q
  · have e : i = as.length := by omega
    subst e
    rw [List.take_length] at hp
    exact .inl ⟨jstop H hs, fin H ys hs hD hp⟩
/-- .. over a tuple -/
theorem lcT {α : Type} {K : PySem.W.Frag} {a : Addr} {xs : List V} {g : TG} {tt : TT} {te : TE} {vs : List Nat} {σ : L2.St} {H1 : Hp} {D : Addr} {Qd : Hp → Prop} {as : List α} {S0 : α → V → Prop} (hq : SqT K H1 a xs) (hx : Paired S0 as xs) (hn : H1 D = none) (hlen : as.length ≤ sizeLine) (p : α → Bool) (Rel : α → Hp → V → Prop)
    (mono : ∀ d H H' y, SameT H H' → Rel d H y → Rel d H' y)
    (step : ∀ d x H, d ∈ as → S0 d x → Same H1 H → ∀ (Qy : V → Hp → Prop) (Nx : Hp → Prop), (∀ y H', p d = true → Same H H' → Rel d H' y → Qy y H') → (∀ H', p d = false → Same H H' → Nx H') →
      g x (wipe σ vs) H fun σ2 H2 => wipe σ2 vs = wipe σ vs ∧ tt σ2 H2 fun b H3 => if b = true then te σ2 H3 Qy else Nx H3)
    (fin : ∀ H ys, Same H1 H → H D = some (.lst ys) → Paired (fun d y => Rel d H y) (as.filter p) ys → Qd H) :
    ∃ W : Nat → Nat → Hp → Prop, (∃ m, W 0 m (upd H1 D (.lst []))) ∧ ∀ i m H, W i m H →
      ((Itt K a).stop i H ∧ Qd H) ∨ ((Itt K a).go i H ∧ ∃ Nx : Hp → Prop, (∀ H', Nx H' → ∃ m', m' < m ∧ W (i + 1) m' H') ∧ ∀ x H', (Itt K a).yld i H x H' → g x (wipe σ vs) H' fun σ2 H2 => wipe σ2 vs = wipe σ vs ∧ tt σ2 H2 fun b H3 =>
        if b = true then te σ2 H3 fun y H4 => ∃ acc, H4 D = some (.lst acc) ∧ acc.length < sizeLine ∧ Nx (upd H4 D (.lst (acc ++ [y]))) else Nx H3) := by
  have hl := Paired.length hx
  refine lcG as hn hlen (fun d x _ => S0 d x) p Rel (fun i H s hi => ?_) (fun H s => ?_) (fun i H x H' s y => ?_) mono (fun d x H hd hs s => step d x H hd hs s) fin
  · exact ⟨xs, xs[i], seqT s hq, List.getElem?_eq_getElem (by omega)⟩
  · exact ⟨xs, seqT s hq, by omega⟩
  · obtain ⟨rfl, hy⟩ := y
    refine ⟨Same.refl _, fun d hd => ?_⟩
    obtain ⟨b, hb, hs⟩ := paired_get hx hd
    rw [hy xs (seqT s hq)] at hb
    cases hb
    exact hs
where
  seqT {K : PySem.W.Frag} {H H' : Hp} {a : Addr} {xs : List V} (e : Same H H') (h : SqT K H a xs) : SqT K H' a xs := by
    rcases h with (h | ⟨o, h⟩) | h
    · exact .inl (.inl (e _ _ h))
    · exact .inl (.inr ⟨o, e _ _ h⟩)
    · exact .inr h
end Ts

set_option Elab.async false
set_option linter.all false
set_option maxRecDepth 100000
set_option maxHeartbeats 4000000
namespace Ts
open PySem PySem.Spec PyProof.Rows L2

/-! ### mirrors that the rules name -/
def fr (W : List (List Int)) (p : Int) : List Int := (W[p.toNat]?).getD []
def gt (ns : List Int) (p : Int) : Int := (ns[p.toNat]?).getD 0

/-! ### typed rules -/
theorem flat_ints : ∀ ns : List Int, (ns.map V.int).all flatV = true
  | [] => rfl
  | n :: ns => by rw [List.map_cons, List.all_cons, flat_ints ns]; rfl
theorem inV_ints (n : Int) : ∀ ns : List Int, inV (.int n) (ns.map V.int) = decide (n ∈ ns)
  | [] => by simp [inV]
  | m :: ns => by
    have := inV_ints n ns
    unfold inV at this ⊢
    rw [List.map_cons, List.any_cons, this]
    have e : eqV (.int m) (.int n) = decide (m = n) := by
      by_cases h : m = n
      · subst h; simp [eqV]
      · rw [decide_eq_false h]
        simp [eqV]
        exact h
    rw [e]
    by_cases h : m = n
    · subst h; simp
    · rw [decide_eq_false h, Bool.false_or]
      refine decide_eq_decide.mpr ?_
      rw [List.mem_cons]
      exact ⟨.inr, fun q => q.resolve_left fun z => h z.symm⟩
section
variable {X : Cx}
theorem op_inI : OpR X (compareOp .In) (fun x y H Q => ∃ n ns, x = .int n ∧ TI H y ns ∧ Q (.bl (decide (n ∈ ns))) H) := by
  intro pins s σ H x y v u Q I rx ry h
  obtain ⟨n, ns, rfl, ⟨t, rfl, e⟩, q⟩ := h
  refine op_in_seq pins s σ H _ _ v u Q I rx ry ⟨t, _, rfl, .inr (SqT.of e), rfl, flat_ints _, ?_⟩
  rw [inV_ints]
  exact q
theorem op_notInI : OpR X (compareOp .NotIn) (fun x y H Q => ∃ n ns, x = .int n ∧ TI H y ns ∧ Q (.bl (!decide (n ∈ ns))) H) := by
  intro pins s σ H x y v u Q I rx ry h
  obtain ⟨n, ns, rfl, ⟨t, rfl, e⟩, q⟩ := h
  refine op_notIn_seq pins s σ H _ _ v u Q I rx ry ⟨t, _, rfl, .inr (SqT.of e), rfl, flat_ints _, ?_⟩
  rw [inV_ints]
  exact q
theorem atI_of {α : Type} {xs : List α} {p : Int} {v : α} (h0 : 0 ≤ p) (h : xs[p.toNat]? = some v) : atI xs p = some v := by
  have := atI_nat h
  rwa [Int.toNat_of_nonneg h0] at this
theorem fr_at {W : List (List Int)} {p : Int} (h0 : 0 ≤ p) (h1 : p < W.length) : W[p.toNat]? = some (fr W p) := by
  have : p.toNat < W.length := by omega
  rw [fr, List.getElem?_eq_getElem this]
  rfl
theorem gt_at {ns : List Int} {p : Int} (h0 : 0 ≤ p) (h1 : p < ns.length) : ns[p.toNat]? = some (gt ns p) := by
  have : p.toNat < ns.length := by omega
  rw [gt, List.getElem?_eq_getElem this]
  rfl
theorem paired_get2 {α β : Type} {F : α → β → Prop} : ∀ {l : List α} {m : List β} {i : Nat} {b : β}, Paired F l m → m[i]? = some b → ∃ a, l[i]? = some a ∧ F a b
  | _, _, _, _, .nil, h => by simp at h
  | _, _, 0, _, .cons r t, h => ⟨_, rfl, by cases h; exact r⟩
  | _, _, i + 1, _, .cons r t, h => by
    obtain ⟨a, h1, h2⟩ := paired_get2 t (by simpa using h)
    exact ⟨a, by simpa using h1, h2⟩
theorem ix_WB : IxR X (fun x y H Q => ∃ W p, WB H x W ∧ y = .int p ∧ 0 ≤ p ∧ p < W.length ∧ ∀ z, TI H z (fr W p) → Q z H) := by
  intro value slice pins s σ H x y v u Q I rx ry h
  obtain ⟨W, p, ⟨t, xs, rfl, e, hp⟩, rfl, h0, h1, q⟩ := h
  obtain ⟨z, hz, hr⟩ := paired_get2 hp (fr_at h0 h1)
  exact ix_tup value slice pins s σ H _ _ v u Q I rx ry ⟨t, xs, p, z, rfl, rfl, SqT.of e, atI_of h0 hz, q _ hr⟩
theorem ix_TI : IxR X (fun x y H Q => ∃ ns p, TI H x ns ∧ y = .int p ∧ 0 ≤ p ∧ p < ns.length ∧ Q (.int (gt ns p)) H) := by
  intro value slice pins s σ H x y v u Q I rx ry h
  obtain ⟨ns, p, ⟨t, rfl, e⟩, rfl, h0, h1, q⟩ := h
  exact ix_tup value slice pins s σ H _ _ v u Q I rx ry ⟨t, _, p, _, rfl, rfl, SqT.of e, atI_of h0 (by rw [List.getElem?_map, gt_at h0 h1]; rfl), q⟩
/-- t[-1] -/
theorem ix_TIl : IxR X (fun x y H Q => ∃ ns n, TI H x (ns ++ [n]) ∧ y = .int (-1) ∧ Q (.int n) H) := by
  intro value slice pins s σ H x y v u Q I rx ry h
  obtain ⟨ns, n, ⟨t, rfl, e⟩, rfl, q⟩ := h
  exact ix_tup value slice pins s σ H _ _ v u Q I rx ry ⟨t, _, -1, _, rfl, rfl, SqT.of e, by rw [List.map_append]; exact atI_last _ _, q⟩
/-- p[0], p a pair -/
theorem ix_PR0 : IxR X (fun x y H Q => ∃ p, PR H x p ∧ y = .int 0 ∧ Q (.int p.1) H) := by
  intro value slice pins s σ H x y v u Q I rx ry h
  obtain ⟨p, ⟨t, z, rfl, e, e2⟩, rfl, q⟩ := h
  exact ix_tup value slice pins s σ H _ _ v u Q I rx ry ⟨t, _, 0, _, rfl, rfl, SqT.of e, rfl, q⟩
/-- rows[i] -/
theorem ix_LT : IxR X (fun x y H Q => ∃ rows p, LT H x rows ∧ y = .int p ∧ 0 ≤ p ∧ p < rows.length ∧ ∀ z, TI H z (fr rows p) → Q z H) := by
  intro value slice pins s σ H x y v u Q I rx ry h
  obtain ⟨W, p, ⟨t, xs, rfl, e, hp⟩, rfl, h0, h1, q⟩ := h
  obtain ⟨z, hz, hr⟩ := paired_get2 hp (fr_at h0 h1)
  exact ix_list value slice pins s σ H _ _ v u Q I rx ry ⟨t, xs, p, z, rfl, rfl, SqL.of e, atI_of h0 hz, q _ hr⟩
theorem call_lenT : CallR X (.builtin "len") (fun vs H Q => ∃ x ns, vs = [x] ∧ TI H x ns ∧ Q (.int ns.length) H) := by
  intro pins s σ H xs us Q I r h
  obtain ⟨x, ns, rfl, ⟨t, rfl, e⟩, q⟩ := h
  exact call_len_seq pins s σ H _ us Q I r ⟨t, _, rfl, .inr (SqT.of e), by rw [List.length_map]; exact q⟩
theorem call_lenW : CallR X (.builtin "len") (fun vs H Q => ∃ x W, vs = [x] ∧ WB H x W ∧ Q (.int W.length) H) := by
  intro pins s σ H xs us Q I r h
  obtain ⟨x, ns, rfl, ⟨t, ys, rfl, e, hp⟩, q⟩ := h
  exact call_len_seq pins s σ H _ us Q I r ⟨t, _, rfl, .inr (SqT.of e), by rw [Paired.length hp]; exact q⟩
theorem call_lenL : CallR X (.builtin "len") (fun vs H Q => ∃ x rows, vs = [x] ∧ LT H x rows ∧ Q (.int rows.length) H) := by
  intro pins s σ H xs us Q I r h
  obtain ⟨x, ns, rfl, ⟨t, ys, rfl, e, hp⟩, q⟩ := h
  exact call_len_seq pins s σ H _ us Q I r ⟨t, _, rfl, .inl (SqL.of e), by rw [Paired.length hp]; exact q⟩
theorem call_lenI : CallR X (.builtin "len") (fun vs H Q => ∃ x ns, vs = [x] ∧ LI H x ns ∧ Q (.int ns.length) H) := by
  intro pins s σ H xs us Q I r h
  obtain ⟨x, ns, rfl, ⟨t, rfl, e⟩, q⟩ := h
  exact call_len_seq pins s σ H _ us Q I r ⟨t, _, rfl, .inl (SqL.of e), by rw [List.length_map]; exact q⟩
/-- tuple(list of ints) -/
theorem call_tupI : CallR X (.type "tuple") (fun vs H Q => ∃ x ns, vs = [x] ∧ LI H x ns ∧ ∀ z H', Same H H' → TI H' z ns → Q z H') := by
  intro pins s σ H xs us Q I r h
  obtain ⟨x, ns, rfl, ⟨t, rfl, e⟩, q⟩ := h
  exact call_tuple_of pins s σ H _ us Q I r ⟨t, _, rfl, .inl ⟨SqL.of e, fun l hl => q _ _ (same_new hl) ⟨l, rfl, upd_same⟩⟩⟩
/-- list(tuple of ints) -/
theorem call_listI : CallR X (.type "list") (fun vs H Q => ∃ x ns, vs = [x] ∧ TI H x ns ∧ ∀ z H', Same H H' → LI H' z ns → Q z H') := by
  intro pins s σ H xs us Q I r h
  obtain ⟨x, ns, rfl, ⟨t, rfl, e⟩, q⟩ := h
  exact call_list_of pins s σ H _ us Q I r ⟨t, _, rfl, .inr (SqT.of e), fun l hl => q _ _ (same_new hl) ⟨l, rfl, upd_same⟩⟩
/-- sorted(rows) -/
theorem cr_sortL (hu : X.A.units + 66 < cLine) : CallR X (.builtin "sorted") (fun vs H Q => ∃ x rows, vs = [x] ∧ LT H x rows ∧ ∀ z H', Same H H' → LT H' z (rsort rows) → Q z H') := by
  intro pins s σ H xs us Q I r h
  obtain ⟨x, rows, rfl, e, q⟩ := h
  exact cr_sortR hu pins s σ H _ us Q I r ⟨x, rows, rfl, e, fun p ys hp hy => q _ _ (same_new hp) ⟨p, ys, rfl, upd_same, pTI.mono (same_new hp) hy⟩⟩
/-- min, max, sum, any, all of lists -/
theorem cr_sumI (hc : X.calm = true) : CallR X (.builtin "sum") (fun vs H Q => ∃ x ns, vs = [x] ∧ LI H x ns ∧ Q (.int ns.sum) H) := by
  intro pins s σ H xs us Q I r h
  obtain ⟨x, ns, rfl, ⟨t, rfl, e⟩, q⟩ := h
  exact cr_sum hc pins s σ H _ us Q I r ⟨t, ns, rfl, SqL.of e, q⟩
theorem cr_minI (hc : X.calm = true) : CallR X (.builtin "min") (fun vs H Q => ∃ x ns, vs = [x] ∧ LI H x ns ∧ ns ≠ [] ∧ ∀ m, m ∈ ns → (∀ k ∈ ns, m ≤ k) → Q (.int m) H) := by
  intro pins s σ H xs us Q I r h
  obtain ⟨x, ns, rfl, ⟨t, rfl, e⟩, hne, q⟩ := h
  exact cr_min hc pins s σ H _ us Q I r ⟨t, ns, rfl, SqL.of e, List.length_pos_iff.mpr hne, q⟩
theorem cr_maxI (hc : X.calm = true) : CallR X (.builtin "max") (fun vs H Q => ∃ x ns, vs = [x] ∧ LI H x ns ∧ ns ≠ [] ∧ ∀ m, m ∈ ns → (∀ k ∈ ns, k ≤ m) → Q (.int m) H) := by
  intro pins s σ H xs us Q I r h
  obtain ⟨x, ns, rfl, ⟨t, rfl, e⟩, hne, q⟩ := h
  exact cr_max hc pins s σ H _ us Q I r ⟨t, ns, rfl, SqL.of e, List.length_pos_iff.mpr hne, q⟩
theorem cr_anyB (hc : X.calm = true) : CallR X (.builtin "any") (fun vs H Q => ∃ (x : V) (bs : List Bool), vs = [x] ∧ (∃ t, x = .ref t ∧ H t = some (.lst (bs.map V.bl))) ∧ Q (.bl (bs.any id)) H) := by
  intro pins s σ H xs us Q I r h
  obtain ⟨x, bs, rfl, ⟨t, rfl, e⟩, q⟩ := h
  exact cr_any hc pins s σ H _ us Q I r ⟨t, bs, rfl, SqL.of e, q⟩
theorem cr_allB (hc : X.calm = true) : CallR X (.builtin "all") (fun vs H Q => ∃ (x : V) (bs : List Bool), vs = [x] ∧ (∃ t, x = .ref t ∧ H t = some (.lst (bs.map V.bl))) ∧ Q (.bl (bs.all id)) H) := by
  intro pins s σ H xs us Q I r h
  obtain ⟨x, bs, rfl, ⟨t, rfl, e⟩, q⟩ := h
  exact cr_all hc pins s σ H _ us Q I r ⟨t, bs, rfl, SqL.of e, q⟩
end

/-! ### what comprehensions make -/
theorem p_bl {α : Type} {f : α → Bool} : ∀ {as : List α} {ys : List V}, Paired (fun d y => y = V.bl (f d)) as ys → ys = (as.map f).map V.bl
  | _, _, .nil => rfl
  | _, _, .cons h t => by rw [h, p_bl t]; rfl
theorem p_int {α : Type} {f : α → Int} : ∀ {as : List α} {ys : List V}, Paired (fun d y => y = V.int (f d)) as ys → ys = (as.map f).map V.int
  | _, _, .nil => rfl
  | _, _, .cons h t => by rw [h, p_int t]; rfl
theorem p_row {α : Type} {f : α → List Int} {H : Hp} : ∀ {as : List α} {ys : List V}, Paired (fun d y => TI H y (f d)) as ys → Paired (TI H) ys (as.map f)
  | _, _, .nil => .nil
  | _, _, .cons h t => .cons h (p_row t)
theorem p_pair {α : Type} {f : α → Int × List Int} {H : Hp} : ∀ {as : List α} {ys : List V}, Paired (fun d y => PR H y (f d)) as ys → Paired (PR H) ys (as.map f)
  | _, _, .nil => .nil
  | _, _, .cons h t => .cons h (p_pair t)
theorem p_ints : ∀ ns : List Int, Paired (fun n x => x = V.int n) ns (ns.map V.int)
  | [] => .nil
  | n :: ns => .cons rfl (p_ints ns)
theorem p_flip {α β : Type} {F : α → β → Prop} : ∀ {as : List α} {bs : List β}, Paired F as bs → Paired (fun b a => F a b) bs as
  | _, _, .nil => .nil
  | _, _, .cons h t => .cons h (p_flip t)

/-! ### loops over what was made -/
section
variable {α : Type} {K : PySem.W.Frag} {a : Addr} {xs : List V} {g : TG} {tb : TS} {D : Ends} {σ : L2.St} {H : Hp} {as : List α} {S0 : α → V → Prop}
theorem split_at {l : List α} {i : Nat} {d : α} (h : l[i]? = some d) : l = l.take i ++ d :: l.drop (i + 1) := by
  obtain ⟨h1, h2⟩ := List.getElem?_eq_some_iff.mp h
  rw [← h2, List.getElem_cons_drop, List.take_append_drop]
theorem forT (hx : Paired S0 as xs) (Pv : List α → L2.St → Hp → Prop) (h0 : Pv [] σ H) (hl : ∀ l σ H, Pv l σ H → SqT K H a xs)
    (hs : ∀ l d x σ H, (∃ r, as = l ++ d :: r) → S0 d x → Pv l σ H → g x σ H fun σ2 H2 => tb { D with nx := Pv (l ++ [d]), ct := Pv (l ++ [d]), bk := D.nx } σ2 H2) (hd : ∀ σ H, Pv as σ H → D.nx σ H) :
    ∃ W : Nat → Nat → L2.St → Hp → Prop, (∃ m, W 0 m σ H) ∧ ∀ i m σ H, W i m σ H →
      ((Itt K a).stop i H ∧ D.nx σ H) ∨ ((Itt K a).go i H ∧ ∃ N : L2.St → Hp → Prop, (∀ σ' H', N σ' H' → ∃ m', m' < m ∧ W (i + 1) m' σ' H') ∧ ∀ x H', (Itt K a).yld i H x H' → g x σ H' fun σ2 H2 => tb { D with nx := N, ct := N, bk := D.nx } σ2 H2) := by
  refine for_tup (K := K) (a := a) (xs := xs) (fun i => Pv (as.take i)) h0 (fun i σ H _ p => hl _ σ H p) (fun i x σ H hi p => ?_) (fun σ H p => ?_)
  · obtain ⟨d, hd', hsd⟩ := paired_get2 hx hi
    have := hs (as.take i) d x σ H ⟨_, split_at hd'⟩ hsd p
    rwa [← take_get hd'] at this
  · have e : xs.length = as.length := (Paired.length hx).symm
    rw [e, List.take_length] at p
    exact hd σ H p
theorem forL (hx : Paired S0 as xs) (Pv : List α → L2.St → Hp → Prop) (h0 : Pv [] σ H) (hl : ∀ l σ H, Pv l σ H → SqL K H a xs)
    (hs : ∀ l d x σ H, (∃ r, as = l ++ d :: r) → S0 d x → Pv l σ H → g x σ H fun σ2 H2 => tb { D with nx := Pv (l ++ [d]), ct := Pv (l ++ [d]), bk := D.nx } σ2 H2) (hd : ∀ σ H, Pv as σ H → D.nx σ H) :
    ∃ W : Nat → Nat → L2.St → Hp → Prop, (∃ m, W 0 m σ H) ∧ ∀ i m σ H, W i m σ H →
      ((Itl K a).stop i H ∧ D.nx σ H) ∨ ((Itl K a).go i H ∧ ∃ N : L2.St → Hp → Prop, (∀ σ' H', N σ' H' → ∃ m', m' < m ∧ W (i + 1) m' σ' H') ∧ ∀ x H', (Itl K a).yld i H x H' → g x σ H' fun σ2 H2 => tb { D with nx := N, ct := N, bk := D.nx } σ2 H2) := by
  refine for_list (K := K) (a := a) (xs := xs) (fun i => Pv (as.take i)) h0 (fun i σ H _ p => hl _ σ H p) (fun i x σ H hi p => ?_) (fun σ H p => ?_)
  · obtain ⟨d, hd', hsd⟩ := paired_get2 hx hi
    have := hs (as.take i) d x σ H ⟨_, split_at hd'⟩ hsd p
    rwa [← take_get hd'] at this
  · have e : xs.length = as.length := (Paired.length hx).symm
    rw [e, List.take_length] at p
    exact hd σ H p
theorem same_upd {H0 H : Hp} {l : Addr} {o : HO} (s : Same H0 H) (h : H0 l = none) : Same H0 (upd H l o) := fun b u e => by
  rw [upd_ne (ne_of_none e h)]
  exact s _ _ e
end

/-! ### comprehensions over lists, dicts -/
section
variable {α : Type} {K : PySem.W.Frag} {a : Addr} {xs : List V} {g : TG} {tt : TT} {te : TE} {vs : List Nat} {σ : L2.St} {H1 : Hp} {D : Addr} {Qd : Hp → Prop} {as : List α} {S0 : α → V → Prop}
theorem lcL (hq : H1 a = some (.lst xs)) (hx : Paired S0 as xs) (hn : H1 D = none) (hlen : as.length ≤ sizeLine) (p : α → Bool) (Rel : α → Hp → V → Prop)
    (mono : ∀ d H H' y, SameT H H' → Rel d H y → Rel d H' y)
    (step : ∀ d x H, d ∈ as → S0 d x → Same H1 H → ∀ (Qy : V → Hp → Prop) (Nx : Hp → Prop), (∀ y H', p d = true → Same H H' → Rel d H' y → Qy y H') → (∀ H', p d = false → Same H H' → Nx H') →
      g x (wipe σ vs) H fun σ2 H2 => wipe σ2 vs = wipe σ vs ∧ tt σ2 H2 fun b H3 => if b = true then te σ2 H3 Qy else Nx H3)
    (fin : ∀ H ys, Same H1 H → H D = some (.lst ys) → Paired (fun d y => Rel d H y) (as.filter p) ys → Qd H) :
    ∃ W : Nat → Nat → Hp → Prop, (∃ m, W 0 m (upd H1 D (.lst []))) ∧ ∀ i m H, W i m H →
      ((Itl K a).stop i H ∧ Qd H) ∨ ((Itl K a).go i H ∧ ∃ Nx : Hp → Prop, (∀ H', Nx H' → ∃ m', m' < m ∧ W (i + 1) m' H') ∧ ∀ x H', (Itl K a).yld i H x H' → g x (wipe σ vs) H' fun σ2 H2 => wipe σ2 vs = wipe σ vs ∧ tt σ2 H2 fun b H3 =>
        if b = true then te σ2 H3 fun y H4 => ∃ acc, H4 D = some (.lst acc) ∧ acc.length < sizeLine ∧ Nx (upd H4 D (.lst (acc ++ [y]))) else Nx H3) := by
  have hl := Paired.length hx
  refine lcG as hn hlen (fun d x _ => S0 d x) p Rel (fun i H s hi => ?_) (fun H s => ?_) (fun i H x H' s y => ?_) mono (fun d x H hd hs s => step d x H hd hs s) fin
  · exact ⟨xs, xs[i], SqL.of (s _ _ hq), List.getElem?_eq_getElem (by omega)⟩
  · exact ⟨xs, SqL.of (s _ _ hq), by omega⟩
  · obtain ⟨rfl, hy⟩ := y
    refine ⟨Same.refl _, fun d hd => ?_⟩
    obtain ⟨b, hb, hs⟩ := paired_get hx hd
    rw [hy xs (SqL.of (s _ _ hq))] at hb
    cases hb
    exact hs
/-- the keys of a locked dict with tuple keys -/
theorem lcK {kvs : List (List Key × V)} {o : Obj} (hq : H1 a = some (.frz o (.dT kvs))) (hn : H1 D = none) (hlen : kvs.length ≤ sizeLine) (p : List Key × V → Bool) (Rel : List Key × V → Hp → V → Prop)
    (mono : ∀ d H H' y, SameT H H' → Rel d H y → Rel d H' y)
    (step : ∀ (d : List Key × V) (q : Addr) H, d ∈ kvs → H q = some (.tup (d.1.map kV)) → Same H1 H → ∀ (Qy : V → Hp → Prop) (Nx : Hp → Prop), (∀ y H', p d = true → Same H H' → Rel d H' y → Qy y H') → (∀ H', p d = false → Same H H' → Nx H') →
      g (.ref q) (wipe σ vs) H fun σ2 H2 => wipe σ2 vs = wipe σ vs ∧ tt σ2 H2 fun b H3 => if b = true then te σ2 H3 Qy else Nx H3)
    (fin : ∀ H ys, Same H1 H → H D = some (.lst ys) → Paired (fun d y => Rel d H y) (kvs.filter p) ys → Qd H) :
    ∃ W : Nat → Nat → Hp → Prop, (∃ m, W 0 m (upd H1 D (.lst []))) ∧ ∀ i m H, W i m H →
      ((Itkt a o kvs).stop i H ∧ Qd H) ∨ ((Itkt a o kvs).go i H ∧ ∃ Nx : Hp → Prop, (∀ H', Nx H' → ∃ m', m' < m ∧ W (i + 1) m' H') ∧ ∀ x H', (Itkt a o kvs).yld i H x H' → g x (wipe σ vs) H' fun σ2 H2 => wipe σ2 vs = wipe σ vs ∧ tt σ2 H2 fun b H3 =>
        if b = true then te σ2 H3 fun y H4 => ∃ acc, H4 D = some (.lst acc) ∧ acc.length < sizeLine ∧ Nx (upd H4 D (.lst (acc ++ [y]))) else Nx H3) := by
  refine lcG kvs hn hlen (fun d x H => ∃ q, x = .ref q ∧ H q = some (.tup (d.1.map kV))) p Rel (fun i H s hi => ⟨s _ _ hq, hi⟩) (fun H s => ⟨s _ _ hq, Nat.le_refl _⟩) (fun i H x H' s y => ?_) mono (fun d x H hd hs s => ?_) fin
  · obtain ⟨rfl, k, v, q, e1, e2, e3⟩ := y
    refine ⟨Same.refl _, fun d hd => ⟨q, e2, ?_⟩⟩
    rw [e1] at hd
    cases hd
    exact e3
  · obtain ⟨q, rfl, hq'⟩ := hs
    exact step d q H hd hq' s
/-- the entries of a locked dict with tuple keys: a new pair each -/
theorem lcI {kvs : List (List Key × V)} {o : Obj} (hq : H1 a = some (.frz o (.dT kvs))) (hn : H1 D = none) (hlen : kvs.length ≤ sizeLine) (p : List Key × V → Bool) (Rel : List Key × V → Hp → V → Prop)
    (mono : ∀ d H H' y, SameT H H' → Rel d H y → Rel d H' y)
    (step : ∀ (d : List Key × V) (T q : Addr) H, d ∈ kvs → H T = some (.tup [.ref q, d.2]) → H q = some (.tup (d.1.map kV)) → Same H1 H → ∀ (Qy : V → Hp → Prop) (Nx : Hp → Prop), (∀ y H', p d = true → Same H H' → Rel d H' y → Qy y H') → (∀ H', p d = false → Same H H' → Nx H') →
      g (.ref T) (wipe σ vs) H fun σ2 H2 => wipe σ2 vs = wipe σ vs ∧ tt σ2 H2 fun b H3 => if b = true then te σ2 H3 Qy else Nx H3)
    (fin : ∀ H ys, Same H1 H → H D = some (.lst ys) → Paired (fun d y => Rel d H y) (kvs.filter p) ys → Qd H) :
    ∃ W : Nat → Nat → Hp → Prop, (∃ m, W 0 m (upd H1 D (.lst []))) ∧ ∀ i m H, W i m H →
      ((ItiT a o kvs).stop i H ∧ Qd H) ∨ ((ItiT a o kvs).go i H ∧ ∃ Nx : Hp → Prop, (∀ H', Nx H' → ∃ m', m' < m ∧ W (i + 1) m' H') ∧ ∀ x H', (ItiT a o kvs).yld i H x H' → g x (wipe σ vs) H' fun σ2 H2 => wipe σ2 vs = wipe σ vs ∧ tt σ2 H2 fun b H3 =>
        if b = true then te σ2 H3 fun y H4 => ∃ acc, H4 D = some (.lst acc) ∧ acc.length < sizeLine ∧ Nx (upd H4 D (.lst (acc ++ [y]))) else Nx H3) := by
  refine lcG kvs hn hlen (fun d x H => ∃ T q, x = .ref T ∧ H T = some (.tup [.ref q, d.2]) ∧ H q = some (.tup (d.1.map kV))) p Rel (fun i H s hi => ⟨s _ _ hq, hi⟩) (fun H s => ⟨s _ _ hq, Nat.le_refl _⟩) (fun i H x H' s y => ?_) mono (fun d x H hd hs s => ?_) fin
  · obtain ⟨T, q, k, v, e1, e2, rfl, hT, rfl⟩ := y
    refine ⟨same_new hT, fun d hd => ?_⟩
    rw [e1] at hd
    cases hd
    exact ⟨T, q, rfl, upd_same, same_new hT _ _ e2⟩
  · obtain ⟨T, q, rfl, h1, h2⟩ := hs
    exact step d T q H hd h1 h2 s
end

/-! ### defs -/
structure Df (P : Program) (w : World) (K : PySem.W.Frag) (mg : Str → Option Value) (base : Heap) (x : Str) (k : Nat) (ps : List Str) (sp : Sp) : Prop where
  ex : ∃ (f : Addr) (fd : FuncData), FnOk P w K mg base CX0 k f fd ps sp ∧ mg x = some (.ref f) ∧ PySem.W.keepIn K (.ref f) = true ∧ Binds K fd ps []
theorem pe_callD {X : Cx} {x : Str} {k : Nat} {ps : List Str} {sp : Sp} {e : Expr} {es : List Expr} {t : TA} {p pos : Pos} (D : Df X.prog X.w X.K X.mg X.base x k ps sp) (hr : Room k X.A) (hg : Gl X x)
    (ha : PA X (e :: es) t) (hdb : (x == ("__debug__" : Str)) = false := by decide) (he : starEach (e :: es) X.env = (false, eval e X.env) :: starEach es X.env := by rfl) (hpl : (backTo pos (starEach es X.env)).any (·.1) = false := by rfl) :
    PE X (.Call (.Name x p) (e :: es) [] pos) (tCall sp [] E0 t) := by
  obtain ⟨f, fd, F, hm, hk, hb⟩ := D.ex
  exact pe_call F hr hg hm hk hb .nil pass0 ha hdb he hpl
structure DefAt (K : PySem.W.Frag) (mg : Str → Option Value) (x : Str) (st : Stmt) : Prop where
  ex : ∃ (f : Addr) (fd : FuncData), Fun K x x st f fd ∧ mg x = some (.ref f)
theorem df_mk {P : Program} {w : World} {K : PySem.W.Frag} {mg : Str → Option Value} {base : Heap} {x : Str} {st : Stmt} {k : Nat} {N ps : List Str} {sp : Sp} (D : DefAt K mg x st) (S : FnScope N ps (defScope st))
    (bd : ∀ (kV doc pm : Value) (an : Option Addr) (cdv ct : Value) (us : List Value), us.length = ps.length → bindArgs (PySem.W.fnOf x x (defArgs st) (defBody st) (defScope st) .none kV doc pm an cdv ct) ⟨us, []⟩ = pure (ps.zip us))
    (len : ∀ vs H Q E, sp vs H Q E → vs.length = ps.length)
    (hbody : ∀ (f : Addr) (cdv : Value) (A : Around) (outer : List Env) (s : Shared) (H : Hp) (vs : List V) (Q : VK) (E : XK), Room k (A.deeper (envOfC x (defScope st) s.heap.objs.size f cdv)) → sp vs H Q E →
      ∃ t, PSs (cxOf CX0 P w K mg base N x (defScope st) f cdv A outer s H E).nox (defBody st) t ∧ t { nx := fun _ H' => Q .non H', rt := Q } (start N vs) H) : Df P w K mg base x (k + 1) ps sp := by
  obtain ⟨f, fd, F, hm⟩ := D.ex
  exact ⟨f, fd, F.ok S len (fun cdv A outer s H vs Q E hr h => hbody f cdv A outer s H vs Q E hr h), hm, F.kp, F.binds bd⟩

/-! ### promises by the number of arguments -/
def sp1 {α : Type} (A : α → Hp → V → Prop) (pre : α → Prop) (res : α → Hp → V → Prop) : Sp := fun vs H Q _ => ∃ (a : α) (x : V), vs = [x] ∧ A a H x ∧ pre a ∧ ∀ z H', Same H H' → res a H' z → Q z H'
def sp2 {α : Type} (A B : α → Hp → V → Prop) (pre : α → Prop) (res : α → Hp → V → Prop) : Sp := fun vs H Q _ => ∃ (a : α) (x y : V), vs = [x, y] ∧ A a H x ∧ B a H y ∧ pre a ∧ ∀ z H', Same H H' → res a H' z → Q z H'
def sp3 {α : Type} (A B C : α → Hp → V → Prop) (pre : α → Prop) (res : α → Hp → V → Prop) : Sp := fun vs H Q _ => ∃ (a : α) (x y z : V), vs = [x, y, z] ∧ A a H x ∧ B a H y ∧ C a H z ∧ pre a ∧ ∀ r H', Same H H' → res a H' r → Q r H'
def sp4 {α : Type} (A B C D : α → Hp → V → Prop) (pre : α → Prop) (res : α → Hp → V → Prop) : Sp := fun vs H Q _ => ∃ (a : α) (x y z u : V), vs = [x, y, z, u] ∧ A a H x ∧ B a H y ∧ C a H z ∧ D a H u ∧ pre a ∧ ∀ r H', Same H H' → res a H' r → Q r H'
theorem sp1.len {α : Type} {A : α → Hp → V → Prop} {pre : α → Prop} {res : α → Hp → V → Prop} {p : Str} (vs : List V) (H : Hp) (Q : VK) (E : XK) (h : sp1 A pre res vs H Q E) : vs.length = [p].length := by
  obtain ⟨a, x, rfl, _⟩ := h; rfl
theorem sp2.len {α : Type} {A B : α → Hp → V → Prop} {pre : α → Prop} {res : α → Hp → V → Prop} {p q : Str} (vs : List V) (H : Hp) (Q : VK) (E : XK) (h : sp2 A B pre res vs H Q E) : vs.length = [p, q].length := by
  obtain ⟨a, x, y, rfl, _⟩ := h; rfl
theorem sp3.len {α : Type} {A B C : α → Hp → V → Prop} {pre : α → Prop} {res : α → Hp → V → Prop} {p q r : Str} (vs : List V) (H : Hp) (Q : VK) (E : XK) (h : sp3 A B C pre res vs H Q E) : vs.length = [p, q, r].length := by
  obtain ⟨a, x, y, z, rfl, _⟩ := h; rfl
theorem sp4.len {α : Type} {A B C D : α → Hp → V → Prop} {pre : α → Prop} {res : α → Hp → V → Prop} {p q r t : Str} (vs : List V) (H : Hp) (Q : VK) (E : XK) (h : sp4 A B C D pre res vs H Q E) : vs.length = [p, q, r, t].length := by
  obtain ⟨a, x, y, z, u, rfl, _⟩ := h; rfl

/-! ### room -/
theorem hu64 {A : Around} {k : Nat} (hr : Room k A) : A.units + 64 < cLine := hr.units
theorem hu65 {A : Around} {k : Nat} (hr : Room k A) : A.units + 65 < cLine := by have := hr.un; omega
theorem hu66 {A : Around} {k : Nat} (hr : Room k A) : A.units + 66 < cLine := by have := hr.un; omega
/-- the built-ins' names stand for the built-ins -/
structure Bi (mg : Str → Option Value) : Prop where
  len : mg "len" = none
  any : mg "any" = none
  all : mg "all" = none
  sum : mg "sum" = none
  min : mg "min" = none
  max : mg "max" = none
  sorted : mg "sorted" = none
  tuple : mg "tuple" = none
  list : mg "list" = none
  set : mg "set" = none
  isinstance : mg "isinstance" = none
  int : mg "int" = none
  bool : mg "bool" = none
  range : mg "range" = none
  enumerate : mg "enumerate" = none
end Ts

set_option Elab.async false
set_option linter.all false
set_option maxRecDepth 100000
set_option maxHeartbeats 4000000
namespace Ts
/-! ### the program in plain words -/
def taller (W : List (List Int)) (p : Int) : List Int := (fr W p).filter fun o => decide (o > p)
def peaks (W : List (List Int)) (S : List Int) : List Int := S.filter fun p => !((fr W p).any fun o => decide (o > p) && decide (o ∈ S))
def apart (W : List (List Int)) (S : List Int) : Bool := !(S.any fun a => S.any fun o => decide (o ∈ fr W a))
def choice (S : List Int) : List (List Int) := S.foldl (fun found p => found ++ found.map (· ++ [p])) [[]]
def callW (W : List (List Int)) (S : List Int) (p : Int) : List Int := if p ∈ S then S.filter (fun o => decide (o ≥ p) || !decide (o ∈ fr W p)) else S
def movers (W : List (List Int)) (S : List Int) : List Int := S.filter fun p => (fr W p).any fun o => decide (o < p) && decide (o ∈ S)
def mayc (W : List (List Int)) (S G : List Int) : List Int := S.filter fun p => !((fr W p).any fun o => decide (o < p) && decide (o ∈ G))
def fitsW (W : List (List Int)) (S G : List Int) : Bool := (G.all fun p => decide (p ∈ S)) && ((S.filter fun p => !decide (p ∈ G)).all fun p => (taller W p).any fun o => decide (o ∈ mayc W S G))
def leadsW (W : List (List Int)) (S G people : List Int) : Bool := decide (people.foldl (callW W) S = G)
def tellings (W : List (List Int)) (S G : List Int) : List (List Int) := rsort ((choice (mayc W S G)).filter (leadsW W S G))
def endsW (W : List (List Int)) (S : List Int) : List (List Int) := rsort ((choice S).filter fun row => apart W row && fitsW W S row)
def wsum (ws S : List Int) : Int := (S.map (gt ws)).sum
def canW (W : List (List Int)) (S : List Int) : List Int := S.filter fun p => (endsW W S).any fun e => decide (p ∈ e)
def minI (ns : List Int) : Int := match ns with
  | [] => 0
  | n :: ns => ns.foldl min n
theorem foldl_min (ns : List Int) : ∀ n : Int, (ns.foldl min n = n ∨ ns.foldl min n ∈ ns) ∧ ns.foldl min n ≤ n ∧ ∀ k ∈ ns, ns.foldl min n ≤ k := by
  induction ns with
  | nil => intro n; exact ⟨.inl rfl, Int.le_refl _, fun k hk => by cases hk⟩
  | cons m ns ih =>
    intro n
    obtain ⟨h1, h2, h3⟩ := ih (min n m)
    rw [List.foldl_cons]
    refine ⟨?_, by omega, fun k hk => ?_⟩
    · rcases h1 with h1 | h1
      · rcases Int.le_total n m with h | h
        · left; omega
        · right; rw [h1, show min n m = m by omega]; exact List.mem_cons_self
      · right; exact List.mem_cons_of_mem _ h1
    · rcases List.mem_cons.mp hk with h | h
      · subst h; omega
      · exact h3 k h
theorem minI_mem {ns : List Int} (h : ns ≠ []) : minI ns ∈ ns := by
  cases ns with
  | nil => exact absurd rfl h
  | cons n ns =>
    rcases (foldl_min ns n).1 with e | e
    · show ns.foldl min n ∈ _
      rw [e]; exact List.mem_cons_self
    · exact List.mem_cons_of_mem _ e
theorem minI_le {ns : List Int} {k : Int} (h : k ∈ ns) : minI ns ≤ k := by
  cases ns with
  | nil => cases h
  | cons n ns =>
    rcases List.mem_cons.mp h with e | e
    · subst e; exact (foldl_min ns k).2.1
    · exact (foldl_min ns n).2.2 k e
theorem minI_eq {ns : List Int} {m : Int} (h : m ∈ ns) (hl : ∀ k ∈ ns, m ≤ k) : m = minI ns := Int.le_antisymm (hl _ (minI_mem (by rintro rfl; cases h))) (minI_le h)
/-- one call of a mover, k times -/
inductive Steps (W : List (List Int)) (S : List Int) : Nat → List Int → Prop
  | zero : Steps W S 0 S
  | succ {k : Nat} {T : List Int} {p : Int} : Steps W S k T → p ∈ movers W T → Steps W S (k + 1) (callW W T p)

/-! ### webs, sets of people -/
def Sub (n : Nat) (S : List Int) : Prop := S.Pairwise (· < ·) ∧ ∀ x ∈ S, 0 ≤ x ∧ x < n
structure Good (W : List (List Int)) : Prop where
  pos : 1 ≤ W.length
  le5 : W.length ≤ 5
  row : ∀ r ∈ W, Sub W.length r
  irr : ∀ p : Int, 0 ≤ p → p < W.length → p ∉ fr W p
  sym : ∀ p : Int, 0 ≤ p → p < W.length → ∀ q ∈ fr W p, p ∈ fr W q
theorem Good.fr {W : List (List Int)} (g : Good W) (p : Int) : Sub W.length (fr W p) := by
  unfold Ts.fr
  cases e : W[p.toNat]? with
  | none => exact ⟨.nil, fun x hx => by cases hx⟩
  | some r => exact g.row r (List.mem_of_getElem? e)
theorem Sub.filter {n : Nat} {S : List Int} (h : Sub n S) (f : Int → Bool) : Sub n (S.filter f) := ⟨h.1.filter f, fun x hx => h.2 x (List.mem_filter.mp hx).1⟩
theorem pw_len : ∀ {S : List Int} {lo : Int}, S.Pairwise (· < ·) → (∀ x ∈ S, lo ≤ x) → ∀ hi : Int, (∀ x ∈ S, x < hi) → lo ≤ hi → (S.length : Int) ≤ hi - lo
  | [], lo, _, _, hi, _, h => by simp; omega
  | x :: S, lo, hp, h1, hi, h2, h => by
    obtain ⟨hx, hp'⟩ := List.pairwise_cons.mp hp
    have a := h1 x List.mem_cons_self
    have b := h2 x List.mem_cons_self
    have := pw_len (S := S) (lo := x + 1) hp' (fun y hy => by have := hx y hy; omega) hi (fun y hy => h2 y (List.mem_cons_of_mem _ hy)) (by omega)
    simp only [List.length_cons]
    omega
theorem Sub.len {n : Nat} {S : List Int} (h : Sub n S) : S.length ≤ n := by
  have := pw_len h.1 (fun x hx => (h.2 x hx).1) n (fun x hx => (h.2 x hx).2) (by omega)
  omega
theorem Sub.nil {n : Nat} : Sub n [] := ⟨.nil, fun x hx => by cases hx⟩
theorem Sub.nodup {n : Nat} {S : List Int} (h : Sub n S) : S.Nodup := h.1.imp fun h e => by omega
theorem Sub.taller {W : List (List Int)} (g : Good W) (p : Int) : Sub W.length (taller W p) := (g.fr p).filter _
theorem Sub.callW {n : Nat} {W : List (List Int)} {S : List Int} (h : Sub n S) (p : Int) : Sub n (callW W S p) := by
  unfold Ts.callW
  split
  · exact h.filter _
  · exact h
/-! ### all sets of some people -/
theorem choice_snoc (S : List Int) (p : Int) : choice (S ++ [p]) = choice S ++ (choice S).map (· ++ [p]) := by
  unfold choice
  rw [List.foldl_append]
  rfl
theorem snoc_ind {P : List Int → Prop} (h0 : P []) (h1 : ∀ S p, P S → P (S ++ [p])) (S : List Int) : P S := by
  have : ∀ n (S : List Int), S.length = n → P S := by
    intro n
    induction n with
    | zero => intro S h; rw [List.length_eq_zero_iff.mp h]; exact h0
    | succ n ih =>
      intro S h
      have hne : S ≠ [] := by rintro rfl; cases h
      rw [← List.dropLast_concat_getLast hne]
      exact h1 _ _ (ih _ (by rw [List.length_dropLast, h]; rfl))
  exact this _ S rfl
theorem choice_len (S : List Int) : (choice S).length = 2 ^ S.length := by
  induction S using snoc_ind with
  | h0 => rfl
  | h1 S p ih => rw [choice_snoc, List.length_append, List.length_map, ih, List.length_append]; simp [Nat.pow_succ]; omega
theorem mem_choice {S row : List Int} : row ∈ choice S ↔ row.Sublist S := by
  induction S using snoc_ind generalizing row with
  | h0 => simp [choice]
  | h1 S p ih =>
    rw [choice_snoc, List.mem_append, List.mem_map, ih]
    constructor
    · rintro (h | ⟨r, h, rfl⟩)
      · exact h.trans (List.sublist_append_left S [p])
      · exact List.Sublist.append (ih.mp h) (List.Sublist.refl [p])
    · intro h
      obtain ⟨a, b, rfl, ha, hb⟩ := List.sublist_append_iff.mp h
      cases hb with
      | cons _ hb =>
        cases hb
        left; rwa [List.append_nil]
      | cons_cons _ hb =>
        cases hb
        right; exact ⟨a, ih.mpr ha, rfl⟩
theorem Sub.sub {n : Nat} {S T : List Int} (h : Sub n S) (s : T.Sublist S) : Sub n T := ⟨h.1.sublist s, fun x hx => h.2 x (s.subset hx)⟩
theorem Sub.choice {n : Nat} {S row : List Int} (h : Sub n S) (m : row ∈ choice S) : Sub n row := h.sub (mem_choice.mp m)
theorem choice_le {n : Nat} {S : List Int} (h : Sub n S) (hn : n ≤ 5) : (choice S).length ≤ 32 := by
  rw [choice_len]
  have := h.len
  exact Nat.le_trans (Nat.pow_le_pow_right (by decide) (Nat.le_trans this hn)) (by decide)
/-- strictly ascending lists are told by their members -/
theorem asc_ext : ∀ {S T : List Int}, S.Pairwise (· < ·) → T.Pairwise (· < ·) → (∀ x, x ∈ S ↔ x ∈ T) → S = T
  | [], [], _, _, _ => rfl
  | [], y :: T, _, _, h => by have := (h y).mpr List.mem_cons_self; cases this
  | x :: S, [], _, _, h => by have := (h x).mp List.mem_cons_self; cases this
  | x :: S, y :: T, h1, h2, h => by
    obtain ⟨a1, b1⟩ := List.pairwise_cons.mp h1
    obtain ⟨a2, b2⟩ := List.pairwise_cons.mp h2
    have e : x = y := by
      rcases List.mem_cons.mp ((h x).mp List.mem_cons_self) with e | e
      · exact e
      · rcases List.mem_cons.mp ((h y).mpr List.mem_cons_self) with e' | e'
        · exact e'.symm
        · have := a1 y e'; have := a2 x e; omega
    subst e
    rw [asc_ext b1 b2 fun z => ?_]
    constructor
    · intro hz
      rcases List.mem_cons.mp ((h z).mp (List.mem_cons_of_mem _ hz)) with e | e
      · subst e; have := a1 _ hz; omega
      · exact e
    · intro hz
      rcases List.mem_cons.mp ((h z).mpr (List.mem_cons_of_mem _ hz)) with e | e
      · subst e; have := a2 _ hz; omega
      · exact e
theorem asc_sublist : ∀ {S T : List Int}, S.Pairwise (· < ·) → T.Pairwise (· < ·) → (∀ x, x ∈ S → x ∈ T) → S.Sublist T := fun {S T} h1 h2 h => by
  have e : S = T.filter fun x => decide (x ∈ S) := asc_ext h1 (h2.filter _) fun x => by
    rw [List.mem_filter]
    exact ⟨fun hx => ⟨h x hx, decide_eq_true hx⟩, fun hx => of_decide_eq_true hx.2⟩
  rw [e]
  exact List.filter_sublist
end Ts

set_option Elab.async false
set_option linter.all false
set_option maxRecDepth 100000
set_option maxHeartbeats 4000000
namespace Ts
open PySem PySem.Spec PyProof.Rows L2
def topS (i : Nat) : Stmt := PySem.Challenge.pw_tallsits_k62_whole_weights_compared.main.body.getD i (.Pass ⟨0, 0, 0, 0⟩)
abbrev Rw := List Int
abbrev Wb := List Rw
theorem line32 {n : Nat} (h : n ≤ 1000) : n ≤ sizeLine := Nat.le_of_lt (small1000 h)
theorem Sub.line {n : Nat} {S : Rw} (h : Sub n S) (hn : n ≤ 5) : S.length ≤ sizeLine := line32 (Nat.le_trans h.len (Nat.le_trans hn (by decide)))
theorem Good.at {W : Wb} (g : Good W) {S : Rw} (h : Sub W.length S) {p : Int} (hp : p ∈ S) : 0 ≤ p ∧ p < W.length := h.2 p hp
theorem any_map_id {α : Type} (l : List α) (f : α → Bool) : (l.map f).any id = l.any f := by rw [List.any_map]; rfl
theorem all_map_id {α : Type} (l : List α) (f : α → Bool) : (l.map f).all id = l.all f := by rw [List.all_map]; rfl
theorem filter_true {α : Type} (l : List α) : l.filter (fun _ => true) = l := List.filter_eq_self.mpr fun _ _ => rfl
theorem if_dec {c : Prop} [Decidable c] {A B : Prop} (h1 : c → A) (h2 : ¬ c → B) : if decide c = true then A else B := by
  by_cases h : c
  · rw [decide_eq_true h]; exact iteT (h1 h)
  · rw [decide_eq_false h]; exact iteF (h2 h)
theorem if_ndec {c : Prop} [Decidable c] {A B : Prop} (h1 : ¬ c → A) (h2 : c → B) : if (!decide c) = true then A else B := by
  by_cases h : c
  · rw [decide_eq_true h]; exact iteF (h2 h)
  · rw [decide_eq_false h]; exact iteT (h1 h)
theorem if_b {b : Bool} {A B : Prop} (h1 : b = true → A) (h2 : b = false → B) : if b = true then A else B := by
  cases b with
  | true => exact iteT (h1 rfl)
  | false => exact iteF (h2 rfl)
/-- a comprehension of flags over some ints of a tuple -/
theorem mono_c {α : Type} (R : α → V → Prop) : ∀ (d : α) (H H' : Hp) (y : V), SameT H H' → R d y → R d y := fun _ _ _ _ _ h => h
def peaksD (W : Wb) (S done : Rw) : Rw := done.filter fun p => !((fr W p).any fun o => decide (o > p) && decide (o ∈ S))
abbrev s_is_integer : Stmt := topS 1
theorem sc_is_integer : FnScope ["value"] ["value"] (defScope s_is_integer) := ⟨rfl, rfl, rfl, by decide +kernel, rfl, by decide +kernel, by decide +kernel⟩
abbrev s_is_in : Stmt := topS 2
theorem sc_is_in : FnScope ["value", "least", "most"] ["value", "least", "most"] (defScope s_is_in) := ⟨rfl, rfl, rfl, by decide +kernel, rfl, by decide +kernel, by decide +kernel⟩
abbrev s_is_list : Stmt := topS 3
theorem sc_is_list : FnScope ["value", "least", "most"] ["value", "least", "most"] (defScope s_is_list) := ⟨rfl, rfl, rfl, by decide +kernel, rfl, by decide +kernel, by decide +kernel⟩
abbrev s_taller_in : Stmt := topS 18
theorem sc_taller_in : FnScope ["web", "person", "other"] ["web", "person"] (defScope s_taller_in) := ⟨rfl, rfl, rfl, by decide +kernel, rfl, by decide +kernel, by decide +kernel⟩
abbrev s_peaks_in : Stmt := topS 19
theorem sc_peaks_in : FnScope ["web", "standing", "found", "person", "other"] ["web", "standing"] (defScope s_peaks_in) := ⟨rfl, rfl, rfl, by decide +kernel, rfl, by decide +kernel, by decide +kernel⟩
abbrev s_apart_in : Stmt := topS 20
theorem sc_apart_in : FnScope ["web", "people", "one", "other"] ["web", "people"] (defScope s_apart_in) := ⟨rfl, rfl, rfl, by decide +kernel, rfl, by decide +kernel, by decide +kernel⟩
abbrev s_call_in : Stmt := topS 23
theorem sc_call_in : FnScope ["web", "standing", "person", "other"] ["web", "standing", "person"] (defScope s_call_in) := ⟨rfl, rfl, rfl, by decide +kernel, rfl, by decide +kernel, by decide +kernel⟩
abbrev s_movers_in : Stmt := topS 24
theorem sc_movers_in : FnScope ["web", "standing", "person", "other"] ["web", "standing"] (defScope s_movers_in) := ⟨rfl, rfl, rfl, by decide +kernel, rfl, by decide +kernel, by decide +kernel⟩
abbrev s_may_call : Stmt := topS 26
theorem sc_may_call : FnScope ["web", "standing", "goal", "found", "person", "other"] ["web", "standing", "goal"] (defScope s_may_call) := ⟨rfl, rfl, rfl, by decide +kernel, rfl, by decide +kernel, by decide +kernel⟩
def sp_is_integer : Sp := sp1 (α := Int) (fun n _ x => x = .int n) (fun _ => True) (fun _ _ z => z = .bl true)
def sp_is_in : Sp := sp3 (α := Int × Int × Int) (fun a _ x => x = .int a.1) (fun a _ x => x = .int a.2.1) (fun a _ x => x = .int a.2.2) (fun a => a.2.1 ≤ a.1 ∧ a.1 ≤ a.2.2) (fun _ _ z => z = .bl true)
def sp_is_list : Sp := sp3 (α := List V × Int × Int) (fun a H x => ∃ t, x = .ref t ∧ H t = some (.tup a.1)) (fun a _ x => x = .int a.2.1) (fun a _ x => x = .int a.2.2) (fun a => a.2.1 ≤ a.1.length ∧ a.1.length ≤ a.2.2) (fun _ _ z => z = .bl true)
def sp_taller_in : Sp := sp2 (α := Wb × Int) (fun a H x => WB H x a.1) (fun a _ x => x = .int a.2) (fun a => Good a.1 ∧ 0 ≤ a.2 ∧ a.2 < a.1.length) (fun a H z => TI H z (taller a.1 a.2))
def sp_peaks_in : Sp := sp2 (α := Wb × Rw) (fun a H x => WB H x a.1) (fun a H x => TI H x a.2) (fun a => Good a.1 ∧ Sub a.1.length a.2) (fun a H z => TI H z (peaks a.1 a.2))
def sp_apart_in : Sp := sp2 (α := Wb × Rw) (fun a H x => WB H x a.1) (fun a H x => TI H x a.2) (fun a => Good a.1 ∧ Sub a.1.length a.2) (fun a _ z => z = .bl (apart a.1 a.2))
def sp_call_in : Sp := sp3 (α := Wb × Rw × Int) (fun a H x => WB H x a.1) (fun a H x => TI H x a.2.1) (fun a _ x => x = .int a.2.2) (fun a => Good a.1 ∧ Sub a.1.length a.2.1) (fun a H z => TI H z (callW a.1 a.2.1 a.2.2))
def sp_movers_in : Sp := sp2 (α := Wb × Rw) (fun a H x => WB H x a.1) (fun a H x => TI H x a.2) (fun a => Good a.1 ∧ Sub a.1.length a.2) (fun a H z => LI H z (movers a.1 a.2))
def sp_may_call : Sp := sp3 (α := Wb × Rw × Rw) (fun a H x => WB H x a.1) (fun a H x => TI H x a.2.1) (fun a H x => TI H x a.2.2) (fun a => Good a.1 ∧ Sub a.1.length a.2.1) (fun a H z => TI H z (mayc a.1 a.2.1 a.2.2))


/-- two clauses over one tuple of ints -/
theorem lcT2 {K : PySem.W.Frag} {a : Addr} {ns : List Int} {i0 j0 : Nat} {te : TE} {wi1 : L2.TI} {vs vs1 : List Nat} {σ : L2.St} {H1 : Hp} {D : Addr} {Qd : Hp → Prop} (hq : H1 a = some (.tup (ns.map V.int))) (hn : H1 D = none) (hlen : ns.length ≤ 100) (f : Int → Int → Bool)
    (e1 : ∀ n : Int, wipe ((wipe σ vs).set i0 (some (.int n))) vs = wipe σ vs) (e2 : ∀ n m : Int, wipe ((wipe ((wipe σ vs).set i0 (some (.int n))) vs1).set j0 (some (.int m))) vs1 = wipe ((wipe σ vs).set i0 (some (.int n))) vs1)
    (hw : ∀ n ∈ ns, ∀ H, Same H1 H → ∀ R : It → Hp → Prop, R (Itt K a) H → wi1 ((wipe σ vs).set i0 (some (.int n))) H R)
    (hin : ∀ n ∈ ns, ∀ m ∈ ns, ∀ H, Same H1 H → ∀ Qy : V → Hp → Prop, (∀ H2, Same H H2 → Qy (.bl (f n m)) H2) → te ((wipe ((wipe σ vs).set i0 (some (.int n))) vs1).set j0 (some (.int m))) H Qy)
    (fin : ∀ H, Same H1 H → H D = some (.lst ((ns.flatMap fun n => ns.map (f n)).map V.bl)) → Qd H) :
    ∃ W : Nat → Nat → Hp → Prop, (∃ m, W 0 m (upd H1 D (.lst []))) ∧ ∀ i m H, W i m H →
      ((Itt K a).stop i H ∧ Qd H) ∨ ((Itt K a).go i H ∧ ∃ Nx : Hp → Prop, (∀ H', Nx H' → ∃ m', m' < m ∧ W (i + 1) m' H') ∧ ∀ x H', (Itt K a).yld i H x H' → gName i0 x (wipe σ vs) H' fun σ2 H2 => wipe σ2 vs = wipe σ vs ∧ tYes σ2 H2 fun b H3 =>
        if b = true then wi1 σ2 H3 fun J1 H4 => ∃ W1 : Nat → Nat → Hp → Prop, (∃ m, W1 0 m H4) ∧ ∀ j k H, W1 j k H →
          (J1.stop j H ∧ Nx H) ∨ (J1.go j H ∧ ∃ Nx1 : Hp → Prop, (∀ H', Nx1 H' → ∃ k', k' < k ∧ W1 (j + 1) k' H') ∧ ∀ x H', J1.yld j H x H' → gName j0 x (wipe σ2 vs1) H' fun σ3 H5 => wipe σ3 vs1 = wipe σ2 vs1 ∧ tYes σ3 H5 fun b H6 =>
            if b = true then te σ3 H6 fun y H7 => ∃ acc, H7 D = some (.lst acc) ∧ acc.length < sizeLine ∧ Nx1 (upd H7 D (.lst (acc ++ [y]))) else Nx1 H6)
        else Nx H3) := by
  have seq : ∀ {H}, Same H1 H → SqT K H a (ns.map V.int) := fun s => SqT.of (s _ _ hq)
  have gi : ∀ {i : Nat}, i < ns.length → (ns.map V.int)[i]? = some (.int (ns[i]!)) := fun {i} h => by rw [List.getElem?_map, List.getElem?_eq_getElem h, getElem!_pos ns i h]; rfl
  have fl : ∀ l : List Int, (l.flatMap fun n => ns.map (f n)).length = l.length * ns.length := fun l => by
    induction l with
    | nil => simp
    | cons x l ih => rw [List.flatMap_cons, List.length_append, ih, List.length_map, List.length_cons, Nat.succ_mul]; omega
  have tg : ∀ {i : Nat}, i < ns.length → ns.take (i + 1) = ns.take i ++ [ns[i]!] := fun {i} h => take_get (by rw [getElem!_pos ns i h]; exact List.getElem?_eq_getElem h)
  refine ⟨fun i m H => m = ns.length - i ∧ i ≤ ns.length ∧ Same H1 H ∧ H D = some (.lst (((ns.take i).flatMap fun n => ns.map (f n)).map V.bl)), ⟨ns.length, by simp, Nat.zero_le _, same_new hn, by simpa using upd_same⟩, ?_⟩
  rintro i m H ⟨rfl, hi, hs, hD⟩
  by_cases hlt : i < ns.length
  · refine .inr ⟨⟨_, _, seq hs, gi hlt⟩, fun H' => i + 1 ≤ ns.length ∧ Same H1 H' ∧ H' D = some (.lst (((ns.take (i + 1)).flatMap fun n => ns.map (f n)).map V.bl)), fun H' q => ⟨ns.length - (i + 1), by omega, rfl, q⟩, fun x H' y => ?_⟩
    obtain ⟨rfl, hy⟩ := y
    have e := hy _ (seq hs)
    rw [gi hlt] at e
    cases e
    have hmem : ns[i]! ∈ ns := by rw [getElem!_pos ns i hlt]; exact List.getElem_mem hlt
    refine ⟨e1 _, hw _ hmem _ hs _ ?_⟩
    refine ⟨fun j k H => k = ns.length - j ∧ j ≤ ns.length ∧ Same H1 H ∧ H D = some (.lst (((ns.take i).flatMap (fun n => ns.map (f n)) ++ (ns.take j).map (f (ns[i]!))).map V.bl)), ⟨ns.length, by simp, Nat.zero_le _, hs, by simpa using hD⟩, ?_⟩
    rintro j k H ⟨rfl, hj, hs2, hD2⟩
    by_cases hlt2 : j < ns.length
    · refine .inr ⟨⟨_, _, seq hs2, gi hlt2⟩, fun H' => j + 1 ≤ ns.length ∧ Same H1 H' ∧ H' D = some (.lst (((ns.take i).flatMap (fun n => ns.map (f n)) ++ (ns.take (j + 1)).map (f (ns[i]!))).map V.bl)), fun H' q => ⟨ns.length - (j + 1), by omega, rfl, q⟩, fun x H' y => ?_⟩
      obtain ⟨rfl, hy⟩ := y
      have e := hy _ (seq hs2)
      rw [gi hlt2] at e
      cases e
      have hmem2 : ns[j]! ∈ ns := by rw [getElem!_pos ns j hlt2]; exact List.getElem_mem hlt2
      refine ⟨e2 _ _, hin _ hmem _ hmem2 _ hs2 _ fun H2 s2 => ?_⟩
      refine ⟨_, s2 _ _ hD2, ?_, hlt2, same_upd (hs2.trans s2) hn, ?_⟩
      · rw [List.length_map, List.length_append, fl, List.length_map, List.length_take, List.length_take]
        have a1 : min i ns.length ≤ 100 := by omega
        have a2 : min j ns.length ≤ 100 := by omega
        have a3 : min i ns.length * ns.length ≤ 100 * 100 := Nat.mul_le_mul a1 hlen
        exact Nat.lt_of_le_of_lt (by omega : _ ≤ 10100) (by decide)
      · rw [upd_same, tg hlt2]
        simp
    · have e : j = ns.length := by omega
      subst e
      refine .inl ⟨⟨_, seq hs2, by simp⟩, hlt, hs2, ?_⟩
      rw [hD2, tg hlt]
      simp
  · have e : i = ns.length := by omega
    subst e
    rw [List.take_length] at hD
    exact .inl ⟨⟨_, seq hs, by simp⟩, fin H hs hD⟩

section
variable {α : Type} {K : PySem.W.Frag} {a : Addr} {xs : List V} {tt : TT} {te : TE} {o : Nat} {σ : L2.St} {H1 : Hp} {D : Addr} {Qd : Hp → Prop} {as : List α} {S0 : α → V → Prop}
abbrev sAt (σ : L2.St) (o : Nat) (x : V) : L2.St := (wipe σ [o]).set o (some x)
theorem wipe_sAt {x : V} : wipe (sAt σ o x) [o] = wipe σ [o] := by
  show ((σ.set o none).set o (some x)).set o none = σ.set o none
  rw [List.set_set, List.set_set]
/-- over a tuple, the target a name -/
theorem cT (hq : H1 a = some (.tup xs)) (hx : Paired S0 as xs) (hn : H1 D = none) (hlen : as.length ≤ sizeLine) (p : α → Bool) (Rel : α → Hp → V → Prop) (mono : ∀ d H H' y, SameT H H' → Rel d H y → Rel d H' y)
    (ht : ∀ d x H, d ∈ as → S0 d x → Same H1 H → ∀ Qb : Bool → Hp → Prop, (∀ H2, Same H H2 → Qb (p d) H2) → tt (sAt σ o x) H Qb)
    (he : ∀ d x H, d ∈ as → p d = true → S0 d x → Same H1 H → ∀ Qy : V → Hp → Prop, (∀ y H2, Same H H2 → Rel d H2 y → Qy y H2) → te (sAt σ o x) H Qy)
    (fin : ∀ H ys, Same H1 H → H D = some (.lst ys) → Paired (fun d y => Rel d H y) (as.filter p) ys → Qd H) :
    ∃ W : Nat → Nat → Hp → Prop, (∃ m, W 0 m (upd H1 D (.lst []))) ∧ ∀ i m H, W i m H →
      ((Itt K a).stop i H ∧ Qd H) ∨ ((Itt K a).go i H ∧ ∃ Nx : Hp → Prop, (∀ H', Nx H' → ∃ m', m' < m ∧ W (i + 1) m' H') ∧ ∀ x H', (Itt K a).yld i H x H' → gName o x (wipe σ [o]) H' fun σ2 H2 => wipe σ2 [o] = wipe σ [o] ∧ tt σ2 H2 fun b H3 =>
        if b = true then te σ2 H3 fun y H4 => ∃ acc, H4 D = some (.lst acc) ∧ acc.length < sizeLine ∧ Nx (upd H4 D (.lst (acc ++ [y]))) else Nx H3) := by
  refine lcT (SqT.of hq) hx hn hlen p Rel mono (fun d x H hd hs s Qy Nx q1 q2 => ⟨wipe_sAt, ht d x H hd hs s _ fun H2 s2 => ?_⟩) fin
  refine if_b (fun c => he d x H2 hd c hs (s.trans s2) _ fun y H3 s3 r => q1 y H3 c (s2.trans s3) r) (fun c => q2 _ c s2)
/-- over a list -/
theorem cL (hq : H1 a = some (.lst xs)) (hx : Paired S0 as xs) (hn : H1 D = none) (hlen : as.length ≤ sizeLine) (p : α → Bool) (Rel : α → Hp → V → Prop) (mono : ∀ d H H' y, SameT H H' → Rel d H y → Rel d H' y)
    (ht : ∀ d x H, d ∈ as → S0 d x → Same H1 H → ∀ Qb : Bool → Hp → Prop, (∀ H2, Same H H2 → Qb (p d) H2) → tt (sAt σ o x) H Qb)
    (he : ∀ d x H, d ∈ as → p d = true → S0 d x → Same H1 H → ∀ Qy : V → Hp → Prop, (∀ y H2, Same H H2 → Rel d H2 y → Qy y H2) → te (sAt σ o x) H Qy)
    (fin : ∀ H ys, Same H1 H → H D = some (.lst ys) → Paired (fun d y => Rel d H y) (as.filter p) ys → Qd H) :
    ∃ W : Nat → Nat → Hp → Prop, (∃ m, W 0 m (upd H1 D (.lst []))) ∧ ∀ i m H, W i m H →
      ((Itl K a).stop i H ∧ Qd H) ∨ ((Itl K a).go i H ∧ ∃ Nx : Hp → Prop, (∀ H', Nx H' → ∃ m', m' < m ∧ W (i + 1) m' H') ∧ ∀ x H', (Itl K a).yld i H x H' → gName o x (wipe σ [o]) H' fun σ2 H2 => wipe σ2 [o] = wipe σ [o] ∧ tt σ2 H2 fun b H3 =>
        if b = true then te σ2 H3 fun y H4 => ∃ acc, H4 D = some (.lst acc) ∧ acc.length < sizeLine ∧ Nx (upd H4 D (.lst (acc ++ [y]))) else Nx H3) := by
  refine lcL hq hx hn hlen p Rel mono (fun d x H hd hs s Qy Nx q1 q2 => ⟨wipe_sAt, ht d x H hd hs s _ fun H2 s2 => ?_⟩) fin
  refine if_b (fun c => he d x H2 hd c hs (s.trans s2) _ fun y H3 s3 r => q1 y H3 c (s2.trans s3) r) (fun c => q2 _ c s2)
end
theorem pi_tupK {X : Cx} {K : PySem.W.Frag} (hK : X.K = K) {tg l : Expr} {tl : TE} (hl : PE X l tl) : PI X tg l (iTup K tl) := by
  subst hK
  exact pi_tup hl
theorem pi_listK {X : Cx} {K : PySem.W.Frag} (hK : X.K = K) {tg l : Expr} {tl : TE} (hl : PE X l tl) : PI X tg l (iList K tl) := by
  subst hK
  exact pi_list hl
theorem yes {d : Bool → Hp → Prop} {H : Hp} (h : ∀ H2, Same H H2 → d true H2) : d true H := h _ (Same.refl _)
section
variable {K : PySem.W.Frag} {a : Addr} {te : TE} {tt : TT} {o : Nat} {σ : L2.St} {H1 : Hp} {D : Addr} {Qd : Hp → Prop} {ns : List Int}
/-- flags of the ints of a tuple -/
theorem cTb (hq : H1 a = some (.tup (ns.map V.int))) (hlen : ns.length ≤ sizeLine) (f : Int → Bool) (hn : H1 D = none)
    (he : ∀ n H, n ∈ ns → Same H1 H → ∀ Qy : V → Hp → Prop, (∀ H2, Same H H2 → Qy (.bl (f n)) H2) → te (sAt σ o (.int n)) H Qy)
    (fin : ∀ H, Same H1 H → (∃ t, V.ref D = .ref t ∧ H t = some (.lst ((ns.map f).map V.bl))) → Qd H) :
    ∃ W : Nat → Nat → Hp → Prop, (∃ m, W 0 m (upd H1 D (.lst []))) ∧ ∀ i m H, W i m H →
      ((Itt K a).stop i H ∧ Qd H) ∨ ((Itt K a).go i H ∧ ∃ Nx : Hp → Prop, (∀ H', Nx H' → ∃ m', m' < m ∧ W (i + 1) m' H') ∧ ∀ x H', (Itt K a).yld i H x H' → gName o x (wipe σ [o]) H' fun σ2 H2 => wipe σ2 [o] = wipe σ [o] ∧ tYes σ2 H2 fun b H3 =>
        if b = true then te σ2 H3 fun y H4 => ∃ acc, H4 D = some (.lst acc) ∧ acc.length < sizeLine ∧ Nx (upd H4 D (.lst (acc ++ [y]))) else Nx H3) := by
  refine cT hq (p_ints ns) hn hlen (fun _ => true) (fun n _ y => y = .bl (f n)) (fun _ _ _ _ _ h => h) (fun _ _ _ _ _ _ _ q => q _ (Same.refl _)) (fun n x H hn _ hx s Qy q => ?_) (fun H ys s hD hp => fin H s ⟨D, rfl, ?_⟩)
  · subst hx
    exact he n H hn s Qy fun H2 s2 => q _ _ s2 rfl
  · rw [filter_true] at hp
    rw [hD, p_bl hp]
/-- numbers of the ints of a tuple -/
theorem cTi (hq : H1 a = some (.tup (ns.map V.int))) (hlen : ns.length ≤ sizeLine) (f : Int → Int) (hn : H1 D = none)
    (he : ∀ n H, n ∈ ns → Same H1 H → ∀ Qy : V → Hp → Prop, (∀ H2, Same H H2 → Qy (.int (f n)) H2) → te (sAt σ o (.int n)) H Qy)
    (fin : ∀ H, Same H1 H → LI H (.ref D) (ns.map f) → Qd H) :
    ∃ W : Nat → Nat → Hp → Prop, (∃ m, W 0 m (upd H1 D (.lst []))) ∧ ∀ i m H, W i m H →
      ((Itt K a).stop i H ∧ Qd H) ∨ ((Itt K a).go i H ∧ ∃ Nx : Hp → Prop, (∀ H', Nx H' → ∃ m', m' < m ∧ W (i + 1) m' H') ∧ ∀ x H', (Itt K a).yld i H x H' → gName o x (wipe σ [o]) H' fun σ2 H2 => wipe σ2 [o] = wipe σ [o] ∧ tYes σ2 H2 fun b H3 =>
        if b = true then te σ2 H3 fun y H4 => ∃ acc, H4 D = some (.lst acc) ∧ acc.length < sizeLine ∧ Nx (upd H4 D (.lst (acc ++ [y]))) else Nx H3) := by
  refine cT hq (p_ints ns) hn hlen (fun _ => true) (fun n _ y => y = .int (f n)) (fun _ _ _ _ _ h => h) (fun _ _ _ _ _ _ _ q => q _ (Same.refl _)) (fun n x H hn _ hx s Qy q => ?_) (fun H ys s hD hp => fin H s ⟨D, rfl, ?_⟩)
  · subst hx
    exact he n H hn s Qy fun H2 s2 => q _ _ s2 rfl
  · rw [filter_true] at hp
    rw [hD, p_int hp]
/-- those ints of a tuple that pass -/
theorem cTf (hq : H1 a = some (.tup (ns.map V.int))) (hlen : ns.length ≤ sizeLine) (f : Int → Bool) (hn : H1 D = none)
    (ht : ∀ n H, n ∈ ns → Same H1 H → ∀ Qb : Bool → Hp → Prop, (∀ H2, Same H H2 → Qb (f n) H2) → tt (sAt σ o (.int n)) H Qb) (ho : ∀ n : Int, (sAt σ o (.int n))[o]? = some (some (V.int n)))
    (fin : ∀ H, Same H1 H → LI H (.ref D) (ns.filter f) → Qd H) :
    ∃ W : Nat → Nat → Hp → Prop, (∃ m, W 0 m (upd H1 D (.lst []))) ∧ ∀ i m H, W i m H →
      ((Itt K a).stop i H ∧ Qd H) ∨ ((Itt K a).go i H ∧ ∃ Nx : Hp → Prop, (∀ H', Nx H' → ∃ m', m' < m ∧ W (i + 1) m' H') ∧ ∀ x H', (Itt K a).yld i H x H' → gName o x (wipe σ [o]) H' fun σ2 H2 => wipe σ2 [o] = wipe σ [o] ∧ tt σ2 H2 fun b H3 =>
        if b = true then tVar o σ2 H3 fun y H4 => ∃ acc, H4 D = some (.lst acc) ∧ acc.length < sizeLine ∧ Nx (upd H4 D (.lst (acc ++ [y]))) else Nx H3) := by
  refine cT hq (p_ints ns) hn hlen f (fun n _ y => y = .int n) (fun _ _ _ _ _ h => h) (fun n x H hn hx s Qb q => ?_) (fun n x H hn _ hx s Qy q => ?_) (fun H ys s hD hp => fin H s ⟨D, rfl, ?_⟩)
  · subst hx
    exact ht n H hn s Qb q
  · subst hx
    exact ⟨_, ho n, q _ _ (Same.refl _) rfl⟩
  · rw [hD, p_int hp, List.map_id']
end
theorem d_is_integer {P : Program} {w : World} {K : PySem.W.Frag} {mg : Str → Option Value} {base : Heap} (B : Bi mg) (D : DefAt K mg "is_integer" s_is_integer) : Df P w K mg base "is_integer" 1 ["value"] sp_is_integer := by
  refine df_mk (st := s_is_integer) D sc_is_integer (fun _ _ _ _ _ _ us hl => match us, hl with | [_], _ => rfl) sp1.len fun f cdv A outer s H vs Q E hr h => ?_
  obtain ⟨n, _, rfl, rfl, _, k⟩ := h
  refine ⟨_, (pss_one (ps_ret (pe_and (pe_callB call_isi (by rfl) B.isinstance (by decide +kernel) (pa_cons (pv 0) (pa_cons (pe_bltn (v := .ty "int") (by rfl) B.int (by decide +kernel) rfl) pa_nil))) (pe_one (pe_not (pe_callB call_isi (by rfl) B.isinstance (by decide +kernel) (pa_cons (pv 0) (pa_cons (pe_bltn (v := .ty "bool") (by rfl) B.bool (by decide +kernel) rfl) pa_nil)))))))), ?_⟩
  refine ⟨_, rfl, _, _, .type "int", .type "int", true, rfl, .ty _, .base (.int _), kit_ty (by decide +kernel), true, rfl, iteT ?_⟩
  refine ⟨_, rfl, _, _, .type "int", .type "bool", false, rfl, .ty _, .base (.int _), kit_ty (by decide +kernel), false, rfl, ?_⟩
  exact k _ _ (Same.refl _) rfl
theorem d_is_in {P : Program} {w : World} {K : PySem.W.Frag} {mg : Str → Option Value} {base : Heap} (B : Bi mg) (D : DefAt K mg "is_in" s_is_in) (D_is_integer : Df P w K mg base "is_integer" 1 ["value"] sp_is_integer) : Df P w K mg base "is_in" 2 ["value", "least", "most"] sp_is_in := by
  refine df_mk (st := s_is_in) D sc_is_in (fun _ _ _ _ _ _ us hl => match us, hl with | [_, _, _], _ => rfl) sp3.len fun f cdv A outer s H vs Q E hr h => ?_
  obtain ⟨⟨n, lo, hi⟩, _, _, _, rfl, rfl, rfl, rfl, ⟨h1, h2⟩, k⟩ := h
  refine ⟨_, (pss_one (ps_ret (pe_and (pe_callD D_is_integer hr rfl (pa_cons (pv 0) pa_nil)) (pe_one (pe_chain op_le op_le (pv 1) (pv 0) (pv 2)))))), ?_⟩
  simp only at h1 h2
  refine ⟨_, rfl, n, _, rfl, rfl, trivial, fun z H' s1 r => ?_⟩
  obtain rfl : z = .bl true := r
  refine ⟨true, rfl, iteT ?_⟩
  refine ⟨_, rfl, _, rfl, _, _, rfl, rfl, _, rfl, ?_⟩
  refine if_dec (fun _ => ?_) (fun q => absurd h1 q)
  refine ⟨_, rfl, _, _, rfl, rfl, ?_⟩
  exact k _ _ s1 (congrArg V.bl (decide_eq_true h2))
theorem d_is_list {P : Program} {w : World} {K : PySem.W.Frag} {mg : Str → Option Value} {base : Heap} (B : Bi mg) (D : DefAt K mg "is_list" s_is_list) : Df P w K mg base "is_list" 1 ["value", "least", "most"] sp_is_list := by
  refine df_mk (st := s_is_list) D sc_is_list (fun _ _ _ _ _ _ us hl => match us, hl with | [_, _, _], _ => rfl) sp3.len fun f cdv A outer s H vs Q E hr h => ?_
  obtain ⟨⟨xs, lo, hi⟩, _, _, _, rfl, ⟨t, rfl, ht⟩, rfl, rfl, ⟨h1, h2⟩, k⟩ := h
  refine ⟨_, (pss_one (ps_ret (pe_and (pe_callB call_isi (by rfl) B.isinstance (by decide +kernel) (pa_cons (pv 0) (pa_cons (pe_bltn (v := .ty "tuple") (by rfl) B.tuple (by decide +kernel) rfl) pa_nil))) (pe_one (pe_chain op_le op_le (pv 1) (pe_callB call_len_seq (by rfl) B.len (by decide +kernel) (pa_cons (pv 0) pa_nil)) (pv 2)))))), ?_⟩
  simp only at h1 h2 ht
  refine ⟨_, rfl, _, _, .type "tuple", .type "tuple", true, rfl, .ty _, .base (.tup ht), kit_ty (by decide +kernel), true, rfl, iteT ?_⟩
  refine ⟨_, rfl, _, rfl, _, _, rfl, .inr (SqT.of ht), _, _, rfl, rfl, _, rfl, ?_⟩
  refine if_dec (fun _ => ?_) (fun q => absurd h1 q)
  refine ⟨_, rfl, _, _, rfl, rfl, ?_⟩
  exact k _ _ (Same.refl _) (congrArg V.bl (decide_eq_true h2))
theorem d_taller_in {P : Program} {w : World} {K : PySem.W.Frag} {mg : Str → Option Value} {base : Heap} (B : Bi mg) (D : DefAt K mg "taller_in" s_taller_in) : Df P w K mg base "taller_in" 1 ["web", "person"] sp_taller_in := by
  refine df_mk (st := s_taller_in) D sc_taller_in (fun _ _ _ _ _ _ us hl => match us, hl with | [_, _], _ => rfl) sp2.len fun f cdv A outer s H vs Q E hr h => ?_
  obtain ⟨⟨W, p⟩, _, _, rfl, hW, rfl, ⟨g, h0, h1⟩, k⟩ := h
  refine ⟨_, (pss_one (ps_ret (pe_callTy call_tupI (by rfl) B.tuple (by decide +kernel) (pa_cons (pe_lc (own := [("other", 2)]) rfl sc_taller_in.nd (pi_tup (pe_ix ix_WB (pv 0) (pv 1) (fun _ _ => rfl))) (blkOk_by (own := [("other", 2)]) (N := ["web", "person", "other"]) (sc := defScope s_taller_in) (by decide +kernel)) (fun _ _ _ _ _ => (pg_name (i := 2) sc_taller_in.nd rfl (by first | exact Or.inl rfl | exact Or.inr rfl))) (fun _ _ _ _ _ => pts_one (pt_cmpR op_gt (pv 2) (pv 1) (nomark _))) (fun _ _ _ _ _ => (pv 2))) pa_nil)))), ?_⟩
  simp only at hW h0 h1 g
  refine ⟨_, rfl, _, rfl, W, p, hW, rfl, h0, h1, fun z hz => ?_⟩
  obtain ⟨t, rfl, ht⟩ := hz
  refine ⟨t, rfl, ⟨_, SqT.of ht⟩, fun D nD => ?_⟩
  refine cTf ht ((g.fr p).line g.le5) (fun o => decide (o > p)) nD (fun n H2 hn s Qb q => ?_) (fun _ => rfl) (fun H2 s hl => ?_)
  · exact ⟨_, rfl, _, rfl, _, _, rfl, rfl, _, rfl, q _ (Same.refl _)⟩
  · exact ⟨_, _, rfl, hl, fun z H' s' hz => k _ _ (s.trans s') hz⟩
/-- while a list of ints is filled at l: what stood in H0 stands, the list holds ns -/
structure Fill (H0 : Hp) (l : Addr) (ns : List Int) (H : Hp) : Prop where
  sm : Same H0 H
  nl : H0 l = none
  at_ : H l = some (.lst (ns.map V.int))
theorem Fill.snoc {H0 H : Hp} {l : Addr} {ns : List Int} (h : Fill H0 l ns H) (n : Int) : Fill H0 l (ns ++ [n]) (upd H l (.lst (ns.map V.int ++ [.int n]))) :=
  ⟨same_upd h.sm h.nl, h.nl, by rw [upd_same, List.map_append]; rfl⟩
theorem Fill.new {H0 : Hp} {l : Addr} (h : H0 l = none) : Fill H0 l [] (upd H0 l (.lst [])) := ⟨same_new h, h, upd_same⟩
theorem Fill.mono {H0 H H' : Hp} {l : Addr} {ns : List Int} (h : Fill H0 l ns H) (s : Same H H') : Fill H0 l ns H' := ⟨h.sm.trans s, h.nl, s _ _ h.at_⟩
theorem filter_snoc {α : Type} (f : α → Bool) (l : List α) (d : α) : (l ++ [d]).filter f = if f d = true then l.filter f ++ [d] else l.filter f := by
  rw [List.filter_append]
  by_cases h : f d = true
  · rw [if_pos h]; simp [h]
  · rw [if_neg h]; simp [h]
theorem part_len {α : Type} {l r as : List α} {d : α} (h : as = l ++ d :: r) (f : α → Bool) : (l.filter f).length < as.length := by
  have := List.length_filter_le f l
  rw [h, List.length_append, List.length_cons]
  omega


theorem qT {A : Prop} [Decidable A] {b : Bool} {Q : V → Hp → Prop} {H : Hp} (c : A) (q : Q (.bl (decide A && b)) H) : Q (.bl b) H := by
  rw [decide_eq_true c] at q; exact q
theorem qF {A : Prop} [Decidable A] {b : Bool} {Q : V → Hp → Prop} {H : Hp} (c : ¬ A) (q : Q (.bl (decide A && b)) H) : Q (.bl false) H := by
  rw [decide_eq_false c] at q; exact q
theorem qTo {A : Prop} [Decidable A] {b : Bool} {Q : V → Hp → Prop} {H : Hp} (c : A) (q : Q (.bl (decide A || b)) H) : Q (.bl true) H := by
  rw [decide_eq_true c] at q; exact q
theorem qFo {A : Prop} [Decidable A] {b : Bool} {Q : V → Hp → Prop} {H : Hp} (c : ¬ A) (q : Q (.bl (decide A || b)) H) : Q (.bl b) H := by
  rw [decide_eq_false c] at q; exact q
theorem d_peaks_in {P : Program} {w : World} {K : PySem.W.Frag} {mg : Str → Option Value} {base : Heap} (B : Bi mg) (D : DefAt K mg "peaks_in" s_peaks_in) : Df P w K mg base "peaks_in" 1 ["web", "standing"] sp_peaks_in := by
  refine df_mk (st := s_peaks_in) D sc_peaks_in (fun _ _ _ _ _ _ us hl => match us, hl with | [_, _], _ => rfl) sp2.len fun f cdv A outer s H vs Q E hr h => ?_
  obtain ⟨⟨W, S⟩, _, _, rfl, hW, hS, ⟨g, hs⟩, k⟩ := h
  refine ⟨_, (pss_cons (ps_set (i := 2) sc_peaks_in.nd rfl (by first | exact Or.inl rfl | exact Or.inr rfl) (pe_lst pa_nil))
      (pss_cons (ps_for PassesOwn.never rfl (pi_tup (pv 1)) (pg_name (i := 3) sc_peaks_in.nd rfl (by first | exact Or.inl rfl | exact Or.inr rfl)) (pss_one (ps_if (pt_not (pt_val (pe_callB (cr_anyB rfl) (by rfl) B.any (by decide +kernel) (pa_cons (pe_lc (own := [("other", 4)]) rfl sc_peaks_in.nd (pi_tup (pe_ix ix_WB (pv 0) (pv 3) (fun _ _ => rfl))) (blkOk_by (own := [("other", 4)]) (N := ["web", "standing", "found", "person", "other"]) (sc := defScope s_peaks_in) (by decide +kernel)) (fun _ _ _ _ _ => (pg_name (i := 4) sc_peaks_in.nd rfl (by first | exact Or.inl rfl | exact Or.inr rfl))) (fun _ _ _ _ _ => pts_nil) (fun _ _ _ _ _ => (pe_and (pe_cmpR op_gt (pv 4) (pv 3) (nomark _)) (pe_one (pe_cmpR op_inI (pv 4) (pv 1) (by rfl)))))) pa_nil)))) (pss_one (ps_expr (pe_bm PySem.F.plainAttrs_list PySem.F.slot_list_append PySem.F.type_list_append mt_append (pv 2) (pa_cons (pv 3) pa_nil)))) pss_nil)))
      (pss_one (ps_ret (pe_callTy call_tupI (by rfl) B.tuple (by decide +kernel) (pa_cons (pv 2) pa_nil)))))), ?_⟩
  simp only at hW hS g hs
  refine ⟨Nat.zero_le _, fun l nl => ?_⟩
  obtain ⟨t, rfl, ht⟩ := hS
  refine ⟨_, rfl, t, rfl, ⟨_, SqT.of (same_new nl _ _ ht)⟩, ?_⟩
  refine forT (p_ints S) (fun done σ H' => ∃ v w, σ = [some _, some (.ref t), some (.ref l), v, w] ∧ Fill H l (peaksD W S done) H') ⟨none, none, rfl, Fill.new nl⟩ (fun d σ H' ⟨v, w, e, F⟩ => SqT.of (F.sm _ _ ht)) ?_ ?_
  · rintro done n x σ H' ⟨r, er⟩ rfl ⟨v, w, rfl, F⟩
    have hn := g.at hs (p := n) (by rw [er]; simp)
    refine ⟨_, rfl, _, rfl, W, n, hW.mono F.sm, rfl, hn.1, hn.2, fun z hz => ?_⟩
    obtain ⟨t2, rfl, ht2⟩ := hz
    refine ⟨t2, rfl, ⟨_, SqT.of ht2⟩, fun D nD => ?_⟩
    refine cTb ht2 ((g.fr n).line g.le5) (fun o => decide (o > n) && decide (o ∈ S)) nD (fun m H2 hm s2 Qy q => ?_) (fun H2 s2 hl => ?_)
    · refine ⟨_, rfl, _, rfl, _, _, rfl, rfl, _, rfl, ?_⟩
      exact if_dec (fun c => ⟨_, rfl, _, rfl, _, _, rfl, ⟨t, rfl, s2 _ _ (F.sm _ _ ht)⟩, qT c (q _ (Same.refl _))⟩) (fun c => qF c (q _ (Same.refl _)))
    · refine ⟨_, _, rfl, hl, _, rfl, ?_⟩
      have F2 := F.mono s2
      have ed : peaksD W S (done ++ [n]) = if (!((fr W n).any fun o => decide (o > n) && decide (o ∈ S))) = true then peaksD W S done ++ [n] else peaksD W S done := filter_snoc _ _ _
      rw [any_map_id]
      refine if_b (fun c => ?_) (fun c => ?_)
      · refine ⟨_, rfl, .inl ⟨rfl, _, SqL.of F2.at_⟩, _, rfl, l, _, _, rfl, rfl, F2.at_, ?_, _, _, rfl, ?_⟩
        · rw [List.length_map]
          exact Nat.lt_of_lt_of_le (part_len er _) (hs.line g.le5)
        · rw [ed, if_pos c]
          exact F2.snoc n
      · refine ⟨_, _, rfl, ?_⟩
        rw [ed, if_neg (by rw [c]; decide)]
        exact F2
  · rintro σ H' ⟨v, w, rfl, F⟩
    refine ⟨_, rfl, _, _, rfl, ⟨l, rfl, F.at_⟩, fun z H2 s2 hz => k _ _ (F.sm.trans s2) hz⟩

theorem d_apart_in {P : Program} {w : World} {K : PySem.W.Frag} {mg : Str → Option Value} {base : Heap} (B : Bi mg) (D : DefAt K mg "apart_in" s_apart_in) : Df P w K mg base "apart_in" 1 ["web", "people"] sp_apart_in := by
  refine df_mk (st := s_apart_in) D sc_apart_in (fun _ _ _ _ _ _ us hl => match us, hl with | [_, _], _ => rfl) sp2.len fun f cdv A outer s H vs Q E hr h => ?_
  obtain ⟨⟨W, S⟩, _, _, rfl, hW, hS, ⟨g, hs⟩, k⟩ := h
  refine ⟨_, (pss_one (ps_ret (pe_not (pe_callB (cr_anyB rfl) (by rfl) B.any (by decide +kernel) (pa_cons (pe_lc2 (own := [("one", 2), ("other", 3)]) (vs1 := [3]) rfl sc_apart_in.nd (pi_tup (pv 1)) (blkOk_by (own := [("one", 2), ("other", 3)]) (N := ["web", "people", "one", "other"]) (sc := defScope s_apart_in) (by decide +kernel)) (by decide) (fun _ _ _ _ _ => (pg_name (i := 2) sc_apart_in.nd rfl (by first | exact Or.inl rfl | exact Or.inr rfl))) (fun _ _ _ _ _ => pts_nil) (fun _ _ _ _ _ => (pi_tupK (K := K) rfl (pv 1))) (fun _ _ _ _ _ => (pg_name (i := 3) sc_apart_in.nd rfl (by first | exact Or.inl rfl | exact Or.inr rfl))) (fun _ _ _ _ _ => pts_nil) (fun _ _ _ _ _ => (pe_cmpR op_inI (pv 3) (pe_ix ix_WB (pv 0) (pv 2) (fun _ _ => rfl)) (by rfl)))) pa_nil))))), ?_⟩
  simp only at hW hS g hs
  obtain ⟨t, rfl, ht⟩ := hS
  refine ⟨_, rfl, t, rfl, ⟨_, SqT.of ht⟩, fun D nD => ?_⟩
  refine lcT2 ht nD (Nat.le_trans hs.len (Nat.le_trans g.le5 (by decide))) (fun a o => decide (o ∈ fr W a)) (fun _ => rfl) (fun _ _ => rfl) (fun n hn H2 s2 R r => ?_) (fun n hn m hm H2 s2 Qy q => ?_) (fun H2 s2 hD => ?_)
  · exact ⟨_, rfl, t, rfl, ⟨_, SqT.of (s2 _ _ ht)⟩, r⟩
  · have hn' := g.at hs hn
    exact ⟨_, rfl, _, rfl, _, rfl, W, n, hW.mono s2, rfl, hn'.1, hn'.2, fun z hz => ⟨_, _, rfl, hz, q _ (Same.refl _)⟩⟩
  · refine ⟨_, _, rfl, ⟨D, rfl, hD⟩, _, rfl, ?_⟩
    refine k _ _ s2 (congrArg V.bl ?_)
    show (!(List.flatMap (fun n => List.map (fun o => decide (o ∈ fr W n)) S) S).any id) = apart W S
    unfold apart
    rw [List.any_flatMap]
    congr 1
    exact congrArg (S.any ·) (funext fun a => any_map_id _ _)
theorem d_call_in {P : Program} {w : World} {K : PySem.W.Frag} {mg : Str → Option Value} {base : Heap} (B : Bi mg) (D : DefAt K mg "call_in" s_call_in) : Df P w K mg base "call_in" 1 ["web", "standing", "person"] sp_call_in := by
  refine df_mk (st := s_call_in) D sc_call_in (fun _ _ _ _ _ _ us hl => match us, hl with | [_, _, _], _ => rfl) sp3.len fun f cdv A outer s H vs Q E hr h => ?_
  obtain ⟨⟨W, S, p⟩, _, _, _, rfl, hW, hS, rfl, ⟨g, hs⟩, k⟩ := h
  refine ⟨_, (pss_cons (ps_if (pt_cmpR op_notInI (pv 2) (pv 1) (by rfl)) (pss_one (ps_ret (pv 1))) pss_nil)
      (pss_one (ps_ret (pe_callTy call_tupI (by rfl) B.tuple (by decide +kernel) (pa_cons (pe_lc (own := [("other", 3)]) rfl sc_call_in.nd (pi_tup (pv 1)) (blkOk_by (own := [("other", 3)]) (N := ["web", "standing", "person", "other"]) (sc := defScope s_call_in) (by decide +kernel)) (fun _ _ _ _ _ => (pg_name (i := 3) sc_call_in.nd rfl (by first | exact Or.inl rfl | exact Or.inr rfl))) (fun _ _ _ _ _ => pts_one (PW.pt (pw_or (pt_cmpR op_ge (pv 3) (pv 2) (nomark _)) (pw_or1 (pt_cmpR op_notInI (pv 3) (pe_ix ix_WB (pv 0) (pv 2) (fun _ _ => rfl)) (by rfl)))))) (fun _ _ _ _ _ => (pv 3))) pa_nil))))), ?_⟩
  simp only at hW hS g hs
  refine ⟨_, rfl, _, rfl, _, _, rfl, hS, _, rfl, ?_⟩
  refine if_ndec (fun c => ?_) (fun c => ?_)
  · refine ⟨_, rfl, k _ _ (Same.refl _) ?_⟩
    show TI H _ (callW W S p)
    rw [callW, if_neg c]
    exact hS
  · have hp := g.at hs c
    have hS' := hS
    obtain ⟨t, e, ht⟩ := hS'
    refine ⟨_, rfl, t, e, ⟨_, SqT.of ht⟩, fun D nD => ?_⟩
    refine cTf ht (hs.line g.le5) (fun o => decide (o ≥ p) || !decide (o ∈ fr W p)) nD (fun n H2 hn s Qb q => ?_) (fun _ => rfl) (fun H2 s hl => ?_)
    · refine ⟨_, rfl, _, rfl, _, _, rfl, rfl, _, rfl, ?_⟩
      refine if_dec (fun c2 => ?_) (fun c2 => ?_)
      · have := q _ (Same.refl _)
        rw [show (decide (n ≥ p) || !decide (n ∈ fr W p)) = true by rw [decide_eq_true (show n ≥ p from c2)]; rfl] at this
        exact this
      · refine ⟨_, rfl, _, rfl, _, rfl, W, p, hW.mono s, rfl, hp.1, hp.2, fun z hz => ⟨_, _, rfl, hz, _, rfl, ?_⟩⟩
        have := q _ (Same.refl _)
        rw [show (decide (n ≥ p) || !decide (n ∈ fr W p)) = !decide (n ∈ fr W p) by rw [decide_eq_false (show ¬ n ≥ p from c2)]; rfl] at this
        exact this
    · refine ⟨_, _, rfl, hl, fun z H' s' hz => k _ _ (s.trans s') ?_⟩
      show TI H' z (callW W S p)
      rw [callW, if_pos c]
      exact hz
theorem d_movers_in {P : Program} {w : World} {K : PySem.W.Frag} {mg : Str → Option Value} {base : Heap} (B : Bi mg) (D : DefAt K mg "movers_in" s_movers_in) : Df P w K mg base "movers_in" 1 ["web", "standing"] sp_movers_in := by
  refine df_mk (st := s_movers_in) D sc_movers_in (fun _ _ _ _ _ _ us hl => match us, hl with | [_, _], _ => rfl) sp2.len fun f cdv A outer s H vs Q E hr h => ?_
  obtain ⟨⟨W, S⟩, _, _, rfl, hW, hS, ⟨g, hs⟩, k⟩ := h
  refine ⟨_, (pss_one (ps_ret (pe_lc (own := [("person", 2)]) rfl sc_movers_in.nd (pi_tup (pv 1)) (blkOk_by (own := [("person", 2)]) (N := ["web", "standing", "person", "other"]) (sc := defScope s_movers_in) (by decide +kernel)) (fun _ _ _ _ _ => (pg_name (i := 2) sc_movers_in.nd rfl (by first | exact Or.inl rfl | exact Or.inr rfl))) (fun _ _ _ _ _ => pts_one (pt_val (pe_callB (cr_anyB rfl) (by rfl) B.any (by decide +kernel) (pa_cons (pe_lc (own := [("other", 3)]) rfl sc_movers_in.nd (pi_tupK (K := K) rfl (pe_ix ix_WB (pv 0) (pv 2) (fun _ _ => rfl))) (blkOk_by (own := [("other", 3)]) (by kernel_rfl)) (fun _ _ _ _ _ => (pg_name (i := 3) sc_movers_in.nd rfl (by first | exact Or.inl rfl | exact Or.inr rfl))) (fun _ _ _ _ _ => pts_nil) (fun _ _ _ _ _ => (pe_and (pe_cmpR op_lt (pv 3) (pv 2) (nomark _)) (pe_one (pe_cmpR op_inI (pv 3) (pv 1) (by rfl)))))) pa_nil)))) (fun _ _ _ _ _ => (pv 2))))), ?_⟩
  simp only at hW hS g hs
  obtain ⟨t, rfl, ht⟩ := hS
  refine ⟨_, rfl, t, rfl, ⟨_, SqT.of ht⟩, fun D nD => ?_⟩
  refine cTf ht (hs.line g.le5) (fun p => (fr W p).any fun o => decide (o < p) && decide (o ∈ S)) nD (fun n H2 hn s Qb q => ?_) (fun _ => rfl) (fun H2 s hl => ?_)
  · have hn' := g.at hs hn
    refine ⟨_, rfl, _, rfl, W, n, hW.mono s, rfl, hn'.1, hn'.2, fun z hz => ?_⟩
    obtain ⟨t2, rfl, ht2⟩ := hz
    refine ⟨t2, rfl, ⟨_, SqT.of ht2⟩, fun D2 nD2 => ?_⟩
    refine cTb ht2 ((g.fr n).line g.le5) (fun o => decide (o < n) && decide (o ∈ S)) nD2 (fun m H3 hm s2 Qy q => ?_) (fun H3 s2 hl => ?_)
    · refine ⟨_, rfl, _, rfl, _, _, rfl, rfl, _, rfl, ?_⟩
      exact if_dec (fun c => ⟨_, rfl, _, rfl, _, _, rfl, ⟨t, rfl, s2 _ _ (s _ _ ht)⟩, qT c (q _ (Same.refl _))⟩) (fun c => qF c (q _ (Same.refl _)))
    · refine ⟨_, _, rfl, hl, _, rfl, ?_⟩
      rw [any_map_id]
      exact q _ s2
  · exact k _ _ s hl
def maycD (W : Wb) (G done : Rw) : Rw := done.filter fun p => !((fr W p).any fun o => decide (o < p) && decide (o ∈ G))
theorem d_may_call {P : Program} {w : World} {K : PySem.W.Frag} {mg : Str → Option Value} {base : Heap} (B : Bi mg) (D : DefAt K mg "may_call" s_may_call) : Df P w K mg base "may_call" 1 ["web", "standing", "goal"] sp_may_call := by
  refine df_mk (st := s_may_call) D sc_may_call (fun _ _ _ _ _ _ us hl => match us, hl with | [_, _, _], _ => rfl) sp3.len fun f cdv A outer s H vs Q E hr h => ?_
  obtain ⟨⟨W, S, G⟩, _, _, _, rfl, hW, hS, hG, ⟨g, hs⟩, k⟩ := h
  refine ⟨_, (pss_cons (ps_set (i := 3) sc_may_call.nd rfl (by first | exact Or.inl rfl | exact Or.inr rfl) (pe_lst pa_nil))
      (pss_cons (ps_for PassesOwn.never rfl (pi_tup (pv 1)) (pg_name (i := 4) sc_may_call.nd rfl (by first | exact Or.inl rfl | exact Or.inr rfl)) (pss_one (ps_if (pt_not (pt_val (pe_callB (cr_anyB rfl) (by rfl) B.any (by decide +kernel) (pa_cons (pe_lc (own := [("other", 5)]) rfl sc_may_call.nd (pi_tup (pe_ix ix_WB (pv 0) (pv 4) (fun _ _ => rfl))) (blkOk_by (own := [("other", 5)]) (N := ["web", "standing", "goal", "found", "person", "other"]) (sc := defScope s_may_call) (by decide +kernel)) (fun _ _ _ _ _ => (pg_name (i := 5) sc_may_call.nd rfl (by first | exact Or.inl rfl | exact Or.inr rfl))) (fun _ _ _ _ _ => pts_nil) (fun _ _ _ _ _ => (pe_and (pe_cmpR op_lt (pv 5) (pv 4) (nomark _)) (pe_one (pe_cmpR op_inI (pv 5) (pv 2) (by rfl)))))) pa_nil)))) (pss_one (ps_expr (pe_bm PySem.F.plainAttrs_list PySem.F.slot_list_append PySem.F.type_list_append mt_append (pv 3) (pa_cons (pv 4) pa_nil)))) pss_nil)))
      (pss_one (ps_ret (pe_callTy call_tupI (by rfl) B.tuple (by decide +kernel) (pa_cons (pv 3) pa_nil)))))), ?_⟩
  simp only at hW hS hG g hs
  refine ⟨Nat.zero_le _, fun l nl => ?_⟩
  obtain ⟨t, rfl, ht⟩ := hS
  refine ⟨_, rfl, t, rfl, ⟨_, SqT.of (same_new nl _ _ ht)⟩, ?_⟩
  refine forT (p_ints S) (fun done σ H' => ∃ v w, σ = [some _, some (.ref t), some _, some (.ref l), v, w] ∧ Fill H l (maycD W G done) H') ⟨none, none, rfl, Fill.new nl⟩ (fun d σ H' ⟨v, w, e, F⟩ => SqT.of (F.sm _ _ ht)) ?_ ?_
  · rintro done n x σ H' ⟨r, er⟩ rfl ⟨v, w, rfl, F⟩
    have hn := g.at hs (p := n) (by rw [er]; simp)
    refine ⟨_, rfl, _, rfl, W, n, hW.mono F.sm, rfl, hn.1, hn.2, fun z hz => ?_⟩
    obtain ⟨t2, rfl, ht2⟩ := hz
    refine ⟨t2, rfl, ⟨_, SqT.of ht2⟩, fun D nD => ?_⟩
    refine cTb ht2 ((g.fr n).line g.le5) (fun o => decide (o < n) && decide (o ∈ G)) nD (fun m H2 hm s2 Qy q => ?_) (fun H2 s2 hl => ?_)
    · refine ⟨_, rfl, _, rfl, _, _, rfl, rfl, _, rfl, ?_⟩
      exact if_dec (fun c => ⟨_, rfl, _, rfl, _, _, rfl, (hG.mono F.sm).mono s2, qT c (q _ (Same.refl _))⟩) (fun c => qF c (q _ (Same.refl _)))
    · refine ⟨_, _, rfl, hl, _, rfl, ?_⟩
      have F2 := F.mono s2
      have ed : maycD W G (done ++ [n]) = if (!((fr W n).any fun o => decide (o < n) && decide (o ∈ G))) = true then maycD W G done ++ [n] else maycD W G done := filter_snoc _ _ _
      rw [any_map_id]
      refine if_b (fun c => ?_) (fun c => ?_)
      · refine ⟨_, rfl, .inl ⟨rfl, _, SqL.of F2.at_⟩, _, rfl, l, _, _, rfl, rfl, F2.at_, ?_, _, _, rfl, ?_⟩
        · rw [List.length_map]
          exact Nat.lt_of_lt_of_le (part_len er _) (hs.line g.le5)
        · rw [ed, if_pos c]
          exact F2.snoc n
      · refine ⟨_, _, rfl, ?_⟩
        rw [ed, if_neg (by rw [c]; decide)]
        exact F2
  · rintro σ H' ⟨v, w, rfl, F⟩
    refine ⟨_, rfl, _, _, rfl, ⟨l, rfl, F.at_⟩, fun z H2 s2 hz => k _ _ (F.sm.trans s2) hz⟩
end Ts

set_option Elab.async false
set_option linter.all false
set_option maxRecDepth 100000
set_option maxHeartbeats 4000000
namespace Ts
open PySem PySem.Spec PyProof.Rows L2 StX
theorem pa_starK {X : Cx} {K : PySem.W.Frag} (hK : X.K = K) {e : Expr} {es : List Expr} {te : TE} {t : TA} {p : Pos} (he : PE X e te) (hr : PA X es t) (hs : starEach (.Starred e p :: es) X.env = (true, eval e X.env) :: starEach es X.env := by rfl) : PA X (.Starred e p :: es) (tStar K te t) := by
  subst hK
  exact pa_star he hr hs
/-- while a list of rows is filled at l -/
structure FillR (H0 : Hp) (l : Addr) (rows : List Rw) (H : Hp) : Prop where
  sm : Same H0 H
  nl : H0 l = none
  at_ : ∃ xs, H l = some (.lst xs) ∧ Paired (TI H) xs rows
theorem Paired.app {α β : Type} {F : α → β → Prop} : ∀ {l l2 : List α} {m m2 : List β}, Paired F l m → Paired F l2 m2 → Paired F (l ++ l2) (m ++ m2)
  | _, _, _, _, .nil, h => h
  | _, _, _, _, .cons r t, h => .cons r (Paired.app t h)
theorem FillR.new {H0 : Hp} {l : Addr} (h : H0 l = none) : FillR H0 l [] (upd H0 l (.lst [])) := ⟨same_new h, h, [], upd_same, .nil⟩
theorem FillR.mono {H0 H H' : Hp} {l : Addr} {rows : List Rw} (h : FillR H0 l rows H) (s : Same H H') : FillR H0 l rows H' :=
  let ⟨xs, h1, h2⟩ := h.at_
  ⟨h.sm.trans s, h.nl, xs, s _ _ h1, pTI.mono s h2⟩
theorem FillR.app {H0 H : Hp} {l : Addr} {rows rows2 : List Rw} (h : FillR H0 l rows H) {xs zs : List V} (hx : H l = some (.lst xs)) (hp : Paired (TI H) zs rows2) : FillR H0 l (rows ++ rows2) (upd H l (.lst (xs ++ zs))) := by
  obtain ⟨ys, h1, h2⟩ := h.at_
  rw [hx] at h1
  cases h1
  exact ⟨same_upd h.sm h.nl, h.nl, _, upd_same, pTI.monoT (sameT_put hx) (Paired.app h2 hp)⟩
theorem FillR.lt {H0 H : Hp} {l : Addr} {rows : List Rw} (h : FillR H0 l rows H) : LT H (.ref l) rows := let ⟨xs, h1, h2⟩ := h.at_; ⟨l, xs, rfl, h1, h2⟩
abbrev s_choices : Stmt := topS 21
theorem sc_choices : FnScope ["people", "found", "person", "row"] ["people"] (defScope s_choices) := ⟨rfl, rfl, rfl, by decide +kernel, rfl, by decide +kernel, by decide +kernel⟩
abbrev s_fits : Stmt := topS 27
theorem sc_fits : FnScope ["web", "standing", "goal", "free", "gone", "person", "other"] ["web", "standing", "goal"] (defScope s_fits) := ⟨rfl, rfl, rfl, by decide +kernel, rfl, by decide +kernel, by decide +kernel⟩
abbrev s_leads : Stmt := topS 29
theorem sc_leads : FnScope ["web", "standing", "goal", "people", "here", "person"] ["web", "standing", "goal", "people"] (defScope s_leads) := ⟨rfl, rfl, rfl, by decide +kernel, rfl, by decide +kernel, by decide +kernel⟩
abbrev s_telling_in : Stmt := topS 30
theorem sc_telling_in : FnScope ["web", "standing", "goal", "row"] ["web", "standing", "goal"] (defScope s_telling_in) := ⟨rfl, rfl, rfl, by decide +kernel, rfl, by decide +kernel, by decide +kernel⟩
abbrev s_ends_in : Stmt := topS 37
theorem sc_ends_in : FnScope ["web", "standing", "row"] ["web", "standing"] (defScope s_ends_in) := ⟨rfl, rfl, rfl, by decide +kernel, rfl, by decide +kernel, by decide +kernel⟩
def sp_choices : Sp := sp1 (α := Rw) (fun a H x => TI H x a) (fun a => a.length ≤ 5) (fun a H z => LT H z (choice a))
def sp_fits : Sp := sp3 (α := Wb × Rw × Rw) (fun a H x => WB H x a.1) (fun a H x => TI H x a.2.1) (fun a H x => TI H x a.2.2) (fun a => Good a.1 ∧ Sub a.1.length a.2.1 ∧ Sub a.1.length a.2.2) (fun a _ z => z = .bl (fitsW a.1 a.2.1 a.2.2))
def sp_leads : Sp := sp4 (α := Wb × Rw × Rw × Rw) (fun a H x => WB H x a.1) (fun a H x => TI H x a.2.1) (fun a H x => TI H x a.2.2.1) (fun a H x => TI H x a.2.2.2) (fun a => Good a.1 ∧ Sub a.1.length a.2.1) (fun a _ z => z = .bl (leadsW a.1 a.2.1 a.2.2.1 a.2.2.2))
def sp_telling_in : Sp := sp3 (α := Wb × Rw × Rw) (fun a H x => WB H x a.1) (fun a H x => TI H x a.2.1) (fun a H x => TI H x a.2.2) (fun a => Good a.1 ∧ Sub a.1.length a.2.1) (fun a H z => LT H z (tellings a.1 a.2.1 a.2.2))
def sp_ends_in : Sp := sp2 (α := Wb × Rw) (fun a H x => WB H x a.1) (fun a H x => TI H x a.2) (fun a => Good a.1 ∧ Sub a.1.length a.2) (fun a H z => LT H z (endsW a.1 a.2))
theorem two5 {n : Nat} (h : n ≤ 5) : 2 ^ n ≤ 32 := Nat.le_trans (Nat.pow_le_pow_right (by decide) h) (by decide)
theorem d_choices {P : Program} {w : World} {K : PySem.W.Frag} {mg : Str → Option Value} {base : Heap} (B : Bi mg) (D : DefAt K mg "choices" s_choices) : Df P w K mg base "choices" 1 ["people"] sp_choices := by
  refine df_mk (st := s_choices) D sc_choices (fun _ _ _ _ _ _ us hl => match us, hl with | [_], _ => rfl) sp1.len fun f cdv A outer s H vs Q E hr h => ?_
  obtain ⟨S, _, rfl, hS, h5, k⟩ := h
  refine ⟨_, (pss_cons (ps_set (i := 1) sc_choices.nd rfl (by first | exact Or.inl rfl | exact Or.inr rfl) (pe_lst (pa_cons (pe_tup pa_nil) pa_nil)))
      (pss_cons (ps_for PassesOwn.never rfl (pi_tup (pv 0)) (pg_name (i := 2) sc_choices.nd rfl (by first | exact Or.inl rfl | exact Or.inr rfl)) (pss_one (ps_expr (pe_bm PySem.F.plainAttrs_list PySem.F.slot_list_extend PySem.F.type_list_extend mt_extend (pv 1) (pa_cons (pe_lc (own := [("row", 3)]) rfl sc_choices.nd (pi_list (pv 1)) (blkOk_by (own := [("row", 3)]) (N := ["people", "found", "person", "row"]) (sc := defScope s_choices) (by decide +kernel)) (fun _ _ _ _ _ => (pg_name (i := 3) sc_choices.nd rfl (by first | exact Or.inl rfl | exact Or.inr rfl))) (fun _ _ _ _ _ => pts_nil) (fun _ _ _ _ _ => (pe_tup (pa_starK (K := K) rfl (pv 3) (pa_cons (pv 2) pa_nil))))) pa_nil)))))
      (pss_one (ps_ret (pv 1))))), ?_⟩
  obtain ⟨t, rfl, ht⟩ := hS
  refine ⟨Nat.zero_le _, fun q nq => ?_⟩
  refine ⟨by show 1 ≤ sizeLine; decide, fun l nl => ?_⟩
  have nl0 : H l = none := (same_new nq).free nl
  have s0 : Same H (upd (upd H q (.tup [])) l (.lst [.ref q])) := (same_new nq).trans (same_new nl)
  have F0 : FillR H l (choice []) (upd (upd H q (.tup [])) l (.lst [.ref q])) := ⟨s0, nl0, [.ref q], upd_same, .cons ⟨q, rfl, (same_new nl) _ _ upd_same⟩ .nil⟩
  refine ⟨_, rfl, t, rfl, ⟨_, SqT.of (s0 _ _ ht)⟩, ?_⟩
  refine forT (p_ints S) (fun done σ H' => ∃ v w, σ = [some (.ref t), some (.ref l), v, w] ∧ FillR H l (choice done) H') ⟨none, none, rfl, F0⟩ (fun d σ H' ⟨v, w, e, F⟩ => SqT.of (F.sm _ _ ht)) ?_ ?_
  · rintro done n x σ H' ⟨r, er⟩ rfl ⟨v, w, rfl, F⟩
    obtain ⟨xs, h1, h2⟩ := F.at_
    have hlen : (choice done).length ≤ 32 := by
      rw [choice_len]
      exact two5 (Nat.le_trans (by rw [er, List.length_append]; omega) h5)
    refine ⟨_, rfl, .inl ⟨rfl, _, SqL.of h1⟩, _, rfl, l, rfl, ⟨_, SqL.of h1⟩, fun D nD => ?_⟩
    refine cL (as := choice done) (S0 := fun r x => TI H' x r) h1 (p_flip h2) nD (line32 (by omega)) (fun _ => true) (fun r H2 y => TI H2 y (r ++ [n])) (fun _ _ _ _ s h => h.monoT s) (fun _ _ _ _ _ _ _ q => q _ (Same.refl _)) (fun r x H2 hr' _ hx s Qy q => ?_) (fun H2 ys s hD hp => ?_)
    · obtain ⟨tr, rfl, htr⟩ := hx.mono s
      refine ⟨_, rfl, tr, _, rfl, .inl (SqT.of htr), _, rfl, ?_, fun p np => ?_⟩
      · rw [List.length_append, List.length_map]
        have : r.length ≤ 5 := Nat.le_trans (Nat.le_trans (mem_choice.mp hr').length_le (by rw [er, List.length_append]; omega)) h5
        exact line32 (by simp; omega)
      · exact q _ _ (same_new np) ⟨p, rfl, by rw [upd_same, List.map_append]; rfl⟩
    · rw [filter_true] at hp
      have F2 := F.mono s
      refine ⟨l, D, _, _, rfl, rfl, s _ _ h1, hD, ?_, _, _, rfl, ?_⟩
      · rw [← Paired.length hp, Paired.length h2]
        exact line32 (by omega)
      · rw [choice_snoc]
        exact F2.app (s _ _ h1) (p_row hp)
  · rintro σ H' ⟨v, w, rfl, F⟩
    exact ⟨_, rfl, k _ _ F.sm F.lt⟩

theorem Good.callW {W : Wb} {S : Rw} {n : Nat} (h : Sub n S) (people : Rw) : Sub n (people.foldl (callW W) S) := by
  induction people generalizing S with
  | nil => exact h
  | cons p ps ih => exact ih (h.callW p)
theorem d_fits {P : Program} {w : World} {K : PySem.W.Frag} {mg : Str → Option Value} {base : Heap} (B : Bi mg) (D : DefAt K mg "fits" s_fits) (D_taller_in : Df P w K mg base "taller_in" 1 ["web", "person"] sp_taller_in) (D_may_call : Df P w K mg base "may_call" 1 ["web", "standing", "goal"] sp_may_call) : Df P w K mg base "fits" 2 ["web", "standing", "goal"] sp_fits := by
  refine df_mk (st := s_fits) D sc_fits (fun _ _ _ _ _ _ us hl => match us, hl with | [_, _, _], _ => rfl) sp3.len fun f cdv A outer s H vs Q E hr h => ?_
  obtain ⟨⟨W, S, G⟩, _, _, _, rfl, hW, hS, hG, ⟨g, hs, hg⟩, k⟩ := h
  refine ⟨_, (pss_cons (ps_if (pt_not (pt_val (pe_callB (cr_allB rfl) (by rfl) B.all (by decide +kernel) (pa_cons (pe_lc (own := [("person", 5)]) rfl sc_fits.nd (pi_tup (pv 2)) (blkOk_by (own := [("person", 5)]) (N := ["web", "standing", "goal", "free", "gone", "person", "other"]) (sc := defScope s_fits) (by decide +kernel)) (fun _ _ _ _ _ => (pg_name (i := 5) sc_fits.nd rfl (by first | exact Or.inl rfl | exact Or.inr rfl))) (fun _ _ _ _ _ => pts_nil) (fun _ _ _ _ _ => (pe_cmpR op_inI (pv 5) (pv 1) (by rfl)))) pa_nil)))) (pss_one (ps_ret pe_bl)) pss_nil)
      (pss_cons (ps_set (i := 3) sc_fits.nd rfl (by first | exact Or.inl rfl | exact Or.inr rfl) (pe_callD D_may_call hr rfl (pa_cons (pv 0) (pa_cons (pv 1) (pa_cons (pv 2) pa_nil)))))
      (pss_cons (ps_setLc (i := 4) (own := [("person", 5)]) rfl sc_fits.nd rfl rfl (sw_true rfl rfl rfl (by decide +kernel)) (pi_tup (pv 1)) (blkOk_by (own := [("person", 5)]) (N := ["web", "standing", "goal", "free", "gone", "person", "other"]) (sc := defScope s_fits) (by decide +kernel)) (fun _ _ _ _ _ => (pg_name (i := 5) sc_fits.nd rfl (by first | exact Or.inl rfl | exact Or.inr rfl))) (fun _ _ _ _ _ => pts_one (pt_cmpR op_notInI (pv 5) (pv 2) (by rfl))) (fun _ _ _ _ _ => (pv 5)))
      (pss_one (ps_ret (pe_callB (cr_allB rfl) (by rfl) B.all (by decide +kernel) (pa_cons (pe_lc (own := [("person", 5)]) rfl sc_fits.nd (pi_list (pv 4)) (blkOk_by (own := [("person", 5)]) (N := ["web", "standing", "goal", "free", "gone", "person", "other"]) (sc := defScope s_fits) (by decide +kernel)) (fun _ _ _ _ _ => (pg_name (i := 5) sc_fits.nd rfl (by first | exact Or.inl rfl | exact Or.inr rfl))) (fun _ _ _ _ _ => pts_nil) (fun _ _ _ _ _ => (pe_callB (cr_anyB rfl) (by rfl) B.any (by decide +kernel) (pa_cons (pe_lc (own := [("other", 6)]) rfl sc_fits.nd (pi_tupK (K := K) rfl (pe_callD D_taller_in hr rfl (pa_cons (pv 0) (pa_cons (pv 5) pa_nil)))) (blkOk_by (own := [("other", 6)]) (by kernel_rfl)) (fun _ _ _ _ _ => (pg_name (i := 6) sc_fits.nd rfl (by first | exact Or.inl rfl | exact Or.inr rfl))) (fun _ _ _ _ _ => pts_nil) (fun _ _ _ _ _ => (pe_cmpR op_inI (pv 6) (pv 3) (by rfl)))) pa_nil)))) pa_nil))))))), ?_⟩
  simp only at hW hS hG g hs hg
  obtain ⟨tg, rfl, htg⟩ := hG
  refine ⟨_, rfl, tg, rfl, ⟨_, SqT.of htg⟩, fun D nD => ?_⟩
  refine cTb htg (hg.line g.le5) (fun p => decide (p ∈ S)) nD (fun n H2 hn s Qy q => ?_) (fun H2 s hl => ?_)
  · exact ⟨_, rfl, _, rfl, _, _, rfl, hS.mono s, q _ (Same.refl _)⟩
  refine ⟨_, _, rfl, hl, _, rfl, ?_⟩
  rw [all_map_id]
  refine if_b (fun c => ?_) (fun c => ?_)
  · refine k _ _ s (congrArg V.bl ?_)
    show false = fitsW W S G
    unfold fitsW
    cases e : (G.all fun p => decide (p ∈ S)) with
    | false => rfl
    | true => rw [e] at c; cases c
  have c' : (G.all fun p => decide (p ∈ S)) = true := by
    cases e : (G.all fun p => decide (p ∈ S)) with
    | false => rw [e] at c; cases c
    | true => rfl
  refine ⟨_, rfl, _, rfl, _, rfl, (W, S, G), _, _, _, rfl, hW.mono s, hS.mono s, ⟨tg, rfl, s _ _ htg⟩, ⟨g, hs⟩, fun z H3 s3 hz => ?_⟩
  have hS3 := (hS.mono s).mono s3
  have hS3' := hS3
  obtain ⟨ts, es, hts⟩ := hS3'
  refine ⟨_, rfl, ts, es, ⟨_, SqT.of hts⟩, fun D2 nD2 => ?_⟩
  refine cTf hts (hs.line g.le5) (fun p => !decide (p ∈ G)) nD2 (fun n H4 hn s4 Qb q => ?_) (fun _ => rfl) (fun H4 s4 hl4 => ?_)
  · exact ⟨_, rfl, _, rfl, _, _, rfl, ⟨tg, rfl, s4 _ _ (s3 _ _ (s _ _ htg))⟩, _, rfl, q _ (Same.refl _)⟩
  have s5 : Same H H4 := (s.trans s3).trans s4
  have gone : Sub W.length (S.filter fun p => !decide (p ∈ G)) := hs.filter _
  refine ⟨_, rfl, D2, rfl, ?_⟩
  obtain ⟨td, ed, hd⟩ := hl4
  cases ed
  refine ⟨⟨_, SqL.of hd⟩, fun D3 nD3 => ?_⟩
  refine cL (as := S.filter fun p => !decide (p ∈ G)) (S0 := fun n x => x = V.int n) hd (p_ints _) nD3 (gone.line g.le5) (fun _ => true) (fun p _ y => y = .bl ((taller W p).any fun o => decide (o ∈ mayc W S G))) (fun _ _ _ _ _ h => h) (fun _ _ _ _ _ _ _ q => q _ (Same.refl _)) (fun p x H6 hp _ hx s6 Qy q => ?_) (fun H6 ys s6 hD3 hp3 => ?_)
  · subst hx
    have hp' := g.at gone hp
    refine ⟨_, rfl, _, rfl, (W, p), _, _, rfl, (hW.mono s5).mono s6, rfl, ⟨g, hp'.1, hp'.2⟩, fun z2 H7 s7 hz2 => ?_⟩
    obtain ⟨tt, rfl, htt⟩ := hz2
    refine ⟨tt, rfl, ⟨_, SqT.of htt⟩, fun D4 nD4 => ?_⟩
    refine cTb htt ((Sub.taller g p).line g.le5) (fun o => decide (o ∈ mayc W S G)) nD4 (fun m H8 hm s8 Qy2 q2 => ?_) (fun H8 s8 hl8 => ?_)
    · exact ⟨_, rfl, _, rfl, _, _, rfl, (((hz.mono s4).mono s6).mono s7).mono s8, q2 _ (Same.refl _)⟩
    · refine ⟨_, _, rfl, hl8, ?_⟩
      rw [any_map_id]
      exact q _ _ (s7.trans s8) rfl
  · rw [filter_true] at hp3
    refine ⟨_, _, rfl, ⟨D3, rfl, by rw [hD3, p_bl hp3]⟩, ?_⟩
    rw [all_map_id]
    refine k _ _ (s5.trans s6) (congrArg V.bl ?_)
    show _ = fitsW W S G
    unfold fitsW
    rw [c']
    rfl
theorem d_leads {P : Program} {w : World} {K : PySem.W.Frag} {mg : Str → Option Value} {base : Heap} (B : Bi mg) (D : DefAt K mg "leads" s_leads) (D_call_in : Df P w K mg base "call_in" 1 ["web", "standing", "person"] sp_call_in) : Df P w K mg base "leads" 2 ["web", "standing", "goal", "people"] sp_leads := by
  refine df_mk (st := s_leads) D sc_leads (fun _ _ _ _ _ _ us hl => match us, hl with | [_, _, _, _], _ => rfl) sp4.len fun f cdv A outer s H vs Q E hr h => ?_
  obtain ⟨⟨W, S, G, Pp⟩, _, _, _, _, rfl, hW, hS, hG, hP, ⟨g, hs⟩, k⟩ := h
  refine ⟨_, (pss_cons (ps_set (i := 4) sc_leads.nd rfl (by first | exact Or.inl rfl | exact Or.inr rfl) (pv 1))
      (pss_cons (ps_for PassesOwn.never rfl (pi_tup (pv 3)) (pg_name (i := 5) sc_leads.nd rfl (by first | exact Or.inl rfl | exact Or.inr rfl)) (pss_one (ps_set (i := 4) sc_leads.nd rfl (by first | exact Or.inl rfl | exact Or.inr rfl) (pe_callD D_call_in hr rfl (pa_cons (pv 0) (pa_cons (pv 4) (pa_cons (pv 5) pa_nil)))))))
      (pss_one (ps_ret (pe_cmpR (op_eqR (hu64 hr)) (pv 4) (pv 2) (nomark _)))))), ?_⟩
  simp only at hW hS hG hP g hs
  obtain ⟨t, rfl, ht⟩ := hP
  refine ⟨_, rfl, ?_⟩
  refine ⟨_, rfl, t, rfl, ⟨_, SqT.of ht⟩, ?_⟩
  refine forT (p_ints Pp) (fun done σ H' => ∃ x v, σ = [some _, some _, some _, some (.ref t), some x, v] ∧ Same H H' ∧ TI H' x (done.foldl (callW W) S)) ⟨_, none, rfl, Same.refl _, hS⟩ (fun d σ H' ⟨v, w, e, s, _⟩ => SqT.of (s _ _ ht)) ?_ ?_
  · rintro done n x σ H' ⟨r, er⟩ rfl ⟨y, v, rfl, s, hy⟩
    refine ⟨_, rfl, _, rfl, _, rfl, (W, done.foldl (callW W) S, n), _, _, _, rfl, hW.mono s, hy, rfl, ⟨g, Good.callW hs _⟩, fun z H2 s2 hz => ⟨z, _, rfl, s.trans s2, ?_⟩⟩
    rw [List.foldl_append]
    exact hz
  · rintro σ H' ⟨y, v, rfl, s, hy⟩
    exact ⟨_, rfl, _, rfl, _, _, hy, hG.mono s, k _ _ s rfl⟩
theorem d_telling_in {P : Program} {w : World} {K : PySem.W.Frag} {mg : Str → Option Value} {base : Heap} (B : Bi mg) (D : DefAt K mg "telling_in" s_telling_in) (D_choices : Df P w K mg base "choices" 1 ["people"] sp_choices) (D_may_call : Df P w K mg base "may_call" 1 ["web", "standing", "goal"] sp_may_call) (D_leads : Df P w K mg base "leads" 2 ["web", "standing", "goal", "people"] sp_leads) : Df P w K mg base "telling_in" 3 ["web", "standing", "goal"] sp_telling_in := by
  refine df_mk (st := s_telling_in) D sc_telling_in (fun _ _ _ _ _ _ us hl => match us, hl with | [_, _, _], _ => rfl) sp3.len fun f cdv A outer s H vs Q E hr h => ?_
  obtain ⟨⟨W, S, G⟩, _, _, _, rfl, hW, hS, hG, ⟨g, hs⟩, k⟩ := h
  refine ⟨_, (pss_one (ps_ret (pe_callB (cr_sortL (hu66 hr)) (by rfl) B.sorted (by decide +kernel) (pa_cons (pe_lc (own := [("row", 3)]) rfl sc_telling_in.nd (pi_list (pe_callD D_choices (hr.mono (by decide)) rfl (pa_cons (pe_callD D_may_call (hr.mono (by decide)) rfl (pa_cons (pv 0) (pa_cons (pv 1) (pa_cons (pv 2) pa_nil)))) pa_nil))) (blkOk_by (own := [("row", 3)]) (N := ["web", "standing", "goal", "row"]) (sc := defScope s_telling_in) (by decide +kernel)) (fun _ _ _ _ _ => (pg_name (i := 3) sc_telling_in.nd rfl (by first | exact Or.inl rfl | exact Or.inr rfl))) (fun _ _ _ _ _ => pts_one (pt_val (pe_callD D_leads hr rfl (pa_cons (pv 0) (pa_cons (pv 1) (pa_cons (pv 2) (pa_cons (pv 3) pa_nil))))))) (fun _ _ _ _ _ => (pv 3))) pa_nil)))), ?_⟩
  simp only at hW hS hG g hs
  have hm : Sub W.length (mayc W S G) := hs.filter _
  refine ⟨_, rfl, _, rfl, _, rfl, (W, S, G), _, _, _, rfl, hW, hS, hG, ⟨g, hs⟩, fun z H2 s2 hz => ?_⟩
  refine ⟨_, _, rfl, hz, Nat.le_trans hm.len g.le5, fun z2 H3 s3 hz2 => ?_⟩
  obtain ⟨tl, xs, rfl, hl, hp⟩ := hz2
  have s13 := s2.trans s3
  refine ⟨tl, rfl, ⟨_, SqL.of hl⟩, fun D nD => ?_⟩
  refine cL (as := choice (mayc W S G)) (S0 := fun r x => TI H3 x r) hl (p_flip hp) nD (line32 (Nat.le_trans (choice_le hm g.le5) (by decide))) (leadsW W S G) (fun r H2 y => TI H2 y r) (fun _ _ _ _ s h => h.monoT s) (fun r x H4 hr' hx s4 Qb q => ?_) (fun r x H4 hr' _ hx s4 Qy q => ?_) (fun H4 ys s4 hD hp4 => ?_)
  · have s14 := s13.trans s4
    refine ⟨_, rfl, _, rfl, _, rfl, _, rfl, (W, S, G, r), _, _, _, _, rfl, hW.mono s14, hS.mono s14, hG.mono s14, hx.mono s4, ⟨g, hs⟩, fun z5 H5 s5 hz5 => ?_⟩
    obtain rfl : z5 = .bl (leadsW W S G r) := hz5
    exact ⟨_, rfl, q _ s5⟩
  · exact ⟨_, rfl, q _ _ (Same.refl _) (hx.mono s4)⟩
  · have := p_row (f := id) (as := List.filter (leadsW W S G) (choice (mayc W S G))) hp4
    rw [List.map_id] at this
    exact ⟨_, _, rfl, ⟨D, ys, rfl, hD, this⟩, fun z6 H6 s6 hz6 => k _ _ ((s13.trans s4).trans s6) hz6⟩
theorem d_ends_in {P : Program} {w : World} {K : PySem.W.Frag} {mg : Str → Option Value} {base : Heap} (B : Bi mg) (D : DefAt K mg "ends_in" s_ends_in) (D_apart_in : Df P w K mg base "apart_in" 1 ["web", "people"] sp_apart_in) (D_choices : Df P w K mg base "choices" 1 ["people"] sp_choices) (D_fits : Df P w K mg base "fits" 2 ["web", "standing", "goal"] sp_fits) : Df P w K mg base "ends_in" 3 ["web", "standing"] sp_ends_in := by
  refine df_mk (st := s_ends_in) D sc_ends_in (fun _ _ _ _ _ _ us hl => match us, hl with | [_, _], _ => rfl) sp2.len fun f cdv A outer s H vs Q E hr h => ?_
  obtain ⟨⟨W, S⟩, _, _, rfl, hW, hS, ⟨g, hs⟩, k⟩ := h
  refine ⟨_, (pss_one (ps_ret (pe_callB (cr_sortL (hu66 hr)) (by rfl) B.sorted (by decide +kernel) (pa_cons (pe_lc (own := [("row", 2)]) rfl sc_ends_in.nd (pi_list (pe_callD D_choices (hr.mono (by decide)) rfl (pa_cons (pv 1) pa_nil))) (blkOk_by (own := [("row", 2)]) (N := ["web", "standing", "row"]) (sc := defScope s_ends_in) (by decide +kernel)) (fun _ _ _ _ _ => (pg_name (i := 2) sc_ends_in.nd rfl (by first | exact Or.inl rfl | exact Or.inr rfl))) (fun _ _ _ _ _ => pts_one (PW.pt (pw_and (pt_val (pe_callD D_apart_in (hr.mono (by decide)) rfl (pa_cons (pv 0) (pa_cons (pv 2) pa_nil)))) (pw_and1 (pt_val (pe_callD D_fits hr rfl (pa_cons (pv 0) (pa_cons (pv 1) (pa_cons (pv 2) pa_nil))))))))) (fun _ _ _ _ _ => (pv 2))) pa_nil)))), ?_⟩
  simp only at hW hS g hs
  refine ⟨_, rfl, _, _, rfl, hS, Nat.le_trans hs.len g.le5, fun z2 H3 s3 hz2 => ?_⟩
  obtain ⟨tl, xs, rfl, hl, hp⟩ := hz2
  refine ⟨tl, rfl, ⟨_, SqL.of hl⟩, fun D nD => ?_⟩
  refine cL (as := choice S) (S0 := fun r x => TI H3 x r) hl (p_flip hp) nD (line32 (Nat.le_trans (choice_le hs g.le5) (by decide))) (fun row => apart W row && fitsW W S row) (fun r H2 y => TI H2 y r) (fun _ _ _ _ s h => h.monoT s) (fun r x H4 hr' hx s4 Qb q => ?_) (fun r x H4 hr' _ hx s4 Qy q => ?_) (fun H4 ys s4 hD hp4 => ?_)
  · have s14 := s3.trans s4
    have hr2 : Sub W.length r := hs.choice hr'
    refine ⟨_, rfl, _, rfl, (W, r), _, _, rfl, hW.mono s14, hx.mono s4, ⟨g, hr2⟩, fun z5 H5 s5 hz5 => ?_⟩
    obtain rfl : z5 = .bl (apart W r) := hz5
    refine ⟨_, rfl, ?_⟩
    refine if_b (fun c => ?_) (fun c => ?_)
    · refine ⟨_, rfl, _, rfl, _, rfl, (W, S, r), _, _, _, rfl, (hW.mono s14).mono s5, (hS.mono s14).mono s5, (hx.mono s4).mono s5, ⟨g, hs, hr2⟩, fun z6 H6 s6 hz6 => ?_⟩
      obtain rfl : z6 = .bl (fitsW W S r) := hz6
      have := q _ (s5.trans s6)
      rw [c] at this
      exact ⟨_, rfl, this⟩
    · have := q _ s5
      rw [c] at this
      exact this
  · exact ⟨_, rfl, q _ _ (Same.refl _) (hx.mono s4)⟩
  · have := p_row (f := id) hp4
    rw [List.map_id] at this
    exact ⟨_, _, rfl, ⟨D, ys, rfl, hD, this⟩, fun z6 H6 s6 hz6 => k _ _ ((s3.trans s4).trans s6) hz6⟩
end Ts

set_option Elab.async false
set_option linter.all false
set_option maxRecDepth 100000
set_option maxHeartbeats 4000000
namespace Ts
open PySem PySem.Spec PyProof.Rows L2 StX
def Wts (W : Wb) (ws : Rw) : Prop := ws.length = W.length ∧ ∀ w ∈ ws, 0 ≤ w ∧ w ≤ 99
abbrev s_need_web : Stmt := topS 13
theorem sc_need_web : FnScope ["web", "people", "index", "friends", "other"] ["web"] (defScope s_need_web) := ⟨rfl, rfl, rfl, by decide +kernel, rfl, by decide +kernel, by decide +kernel⟩
abbrev s_is_set : Stmt := topS 14
theorem sc_is_set : FnScope ["web", "people", "many", "person"] ["web", "people"] (defScope s_is_set) := ⟨rfl, rfl, rfl, by decide +kernel, rfl, by decide +kernel, by decide +kernel⟩
abbrev s_need_state : Stmt := topS 15
theorem sc_need_state : FnScope ["web", "standing"] ["web", "standing"] (defScope s_need_state) := ⟨rfl, rfl, rfl, by decide +kernel, rfl, by decide +kernel, by decide +kernel⟩
abbrev s_need_two : Stmt := topS 16
theorem sc_need_two : FnScope ["web", "standing", "goal"] ["web", "standing", "goal"] (defScope s_need_two) := ⟨rfl, rfl, rfl, by decide +kernel, rfl, by decide +kernel, by decide +kernel⟩
abbrev s_need_person : Stmt := topS 17
theorem sc_need_person : FnScope ["web", "person"] ["web", "person"] (defScope s_need_person) := ⟨rfl, rfl, rfl, by decide +kernel, rfl, by decide +kernel, by decide +kernel⟩
abbrev s_need_way : Stmt := topS 28
theorem sc_need_way : FnScope ["web", "standing", "goal"] ["web", "standing", "goal"] (defScope s_need_way) := ⟨rfl, rfl, rfl, by decide +kernel, rfl, by decide +kernel, by decide +kernel⟩
abbrev s_need_weights : Stmt := topS 44
theorem sc_need_weights : FnScope ["web", "weights", "index", "weight"] ["web", "weights"] (defScope s_need_weights) := ⟨rfl, rfl, rfl, by decide +kernel, rfl, by decide +kernel, by decide +kernel⟩
def sp_need_web : Sp := sp1 (α := Wb) (fun a H x => WB H x a) Good (fun _ _ z => z = .non)
def sp_is_set : Sp := sp2 (α := Wb × Rw) (fun a H x => WB H x a.1) (fun a H x => TI H x a.2) (fun a => Good a.1 ∧ Sub a.1.length a.2) (fun _ _ z => z = .bl true)
def sp_need_state : Sp := sp2 (α := Wb × Rw) (fun a H x => WB H x a.1) (fun a H x => TI H x a.2) (fun a => Good a.1 ∧ Sub a.1.length a.2) (fun _ _ z => z = .non)
def sp_need_two : Sp := sp3 (α := Wb × Rw × Rw) (fun a H x => WB H x a.1) (fun a H x => TI H x a.2.1) (fun a H x => TI H x a.2.2) (fun a => Good a.1 ∧ Sub a.1.length a.2.1 ∧ Sub a.1.length a.2.2) (fun _ _ z => z = .non)
def sp_need_person : Sp := sp2 (α := Wb × Int) (fun a H x => WB H x a.1) (fun a _ x => x = .int a.2) (fun a => 0 ≤ a.2 ∧ a.2 < a.1.length) (fun _ _ z => z = .non)
def sp_need_way : Sp := sp3 (α := Wb × Rw × Rw) (fun a H x => WB H x a.1) (fun a H x => TI H x a.2.1) (fun a H x => TI H x a.2.2) (fun a => Good a.1 ∧ Sub a.1.length a.2.1 ∧ Sub a.1.length a.2.2 ∧ fitsW a.1 a.2.1 a.2.2 = true) (fun _ _ z => z = .non)
def sp_need_weights : Sp := sp2 (α := Wb × Rw) (fun a H x => WB H x a.1) (fun a H x => TI H x a.2) (fun a => Wts a.1 a.2) (fun _ _ z => z = .non)
theorem WB.tup {H : Hp} {x : V} {W : Wb} (h : WB H x W) : ∃ t xs, x = .ref t ∧ H t = some (.tup xs) ∧ xs.length = W.length := let ⟨t, xs, e, h1, h2⟩ := h; ⟨t, xs, e, h1, Paired.length h2⟩
theorem TI.tup {H : Hp} {x : V} {S : Rw} (h : TI H x S) : ∃ t, x = .ref t ∧ H t = some (.tup (S.map V.int)) := h
theorem sorted_same {n : Nat} {S ns : Rw} (h : Sub n S) (h1 : ns.Pairwise (· < ·)) (h2 : ∀ k : Int, k ∈ ns ↔ decide (k ∈ S) = true) : ns = S := asc_ext h1 h.1 fun x => by rw [h2 x, decide_eq_true_iff]
theorem len_split {α : Type} (f : α → Bool) : ∀ l : List α, l.length = (l.filter f).length + (l.filter fun x => !f x).length
  | [] => rfl
  | x :: l => by
    have := len_split f l
    cases e : f x <;> simp [List.filter_cons, e] <;> omega
theorem Sub.less {n : Nat} {S : Rw} (h : Sub n S) {p : Int} (h0 : 0 ≤ p) (h1 : p < n) (hp : p ∉ S) : S.length ≤ n - 1 := by
  have e := len_split (fun x => decide (x < p)) S
  have a := pw_len (S := S.filter fun x => decide (x < p)) (lo := 0) (h.1.filter _) (fun x hx => (h.2 x (List.mem_filter.mp hx).1).1) p (fun x hx => of_decide_eq_true (List.mem_filter.mp hx).2) h0
  have b := pw_len (S := S.filter fun x => !decide (x < p)) (lo := p + 1) (h.1.filter _) (fun x hx => by
    have := (List.mem_filter.mp hx).2
    have hxs := (List.mem_filter.mp hx).1
    have ne : x ≠ p := fun z => hp (z ▸ hxs)
    have : ¬ x < p := by simpa using this
    omega) n (fun x hx => (h.2 x (List.mem_filter.mp hx).1).2) (by omega)
  omega
theorem d_need_web {P : Program} {w : World} {K : PySem.W.Frag} {mg : Str → Option Value} {base : Heap} (B : Bi mg) (mp : ∃ tk, mg "MOST_PEOPLE" = some (.int 7 tk)) (D : DefAt K mg "need_web" s_need_web) (D_is_in : Df P w K mg base "is_in" 2 ["value", "least", "most"] sp_is_in) (D_is_list : Df P w K mg base "is_list" 1 ["value", "least", "most"] sp_is_list) : Df P w K mg base "need_web" 3 ["web"] sp_need_web := by
  refine df_mk (st := s_need_web) D sc_need_web (fun _ _ _ _ _ _ us hl => match us, hl with | [_], _ => rfl) sp1.len fun f cdv A outer s H vs Q E hr h => ?_
  obtain ⟨W, x0, rfl, hW, g, k⟩ := h
  obtain ⟨tk, mp⟩ := mp
  refine ⟨_, (pss_cons (ps_if (pt_not (pt_val (pe_callD D_is_list (hr.mono (by decide)) rfl (pa_cons (pv 0) (pa_cons pe_int (pa_cons (pe_glob (v := .int 7) rfl mp ⟨_, rfl⟩) pa_nil)))))) pss_never pss_nil)
      (pss_cons (ps_set (i := 1) sc_need_web.nd rfl (by first | exact Or.inl rfl | exact Or.inr rfl) (pe_callB call_lenW (by rfl) B.len (by decide +kernel) (pa_cons (pv 0) pa_nil)))
      (pss_cons (ps_for PassesOwn.never rfl (pi_enumT (by rfl) B.enumerate (pa_cons (pv 0) pa_nil)) (pg_tup rfl (pgs_cons (pg_name (i := 2) sc_need_web.nd rfl (by first | exact Or.inl rfl | exact Or.inr rfl)) (pgs_cons (pg_name (i := 3) sc_need_web.nd rfl (by first | exact Or.inl rfl | exact Or.inr rfl)) pgs_nil))) (pss_cons (ps_if (PW.pt (pw_or (pt_not (pt_val (pe_callD D_is_list (hr.mono (by decide)) rfl (pa_cons (pv 3) (pa_cons pe_int (pa_cons (pe_op op_sub (pv 1) pe_int) pa_nil)))))) (pw_or1 (pt_not (pt_val (pe_callB (cr_allB rfl) (by rfl) B.all (by decide +kernel) (pa_cons (pe_lc (own := [("other", 4)]) rfl sc_need_web.nd (pi_tup (pv 3)) (blkOk_by (own := [("other", 4)]) (N := ["web", "people", "index", "friends", "other"]) (sc := defScope s_need_web) (by decide +kernel)) (fun _ _ _ _ _ => (pg_name (i := 4) sc_need_web.nd rfl (by first | exact Or.inl rfl | exact Or.inr rfl))) (fun _ _ _ _ _ => pts_nil) (fun _ _ _ _ _ => (pe_callD D_is_in hr rfl (pa_cons (pv 4) (pa_cons pe_int (pa_cons (pe_op op_sub (pv 1) pe_int) pa_nil)))))) pa_nil))))))) pss_never pss_nil)
      (pss_one (ps_if (PW.pt (pw_or (pt_cmpR (op_neI (hu64 hr)) (pe_callTy call_listI (by rfl) B.list (by decide +kernel) (pa_cons (pv 3) pa_nil)) (pe_callB (cr_sortedSet rfl) (by rfl) B.sorted (by decide +kernel) (pa_cons (pe_callTy (cr_setI rfl) (by rfl) B.set (by decide +kernel) (pa_cons (pv 3) pa_nil)) pa_nil)) (nomark _)) (pw_or1 (pt_cmpR op_inI (pv 2) (pv 3) (by rfl))))) pss_never pss_nil))))
      (pss_one (ps_for PassesOwn.never rfl (pi_enumT (by rfl) B.enumerate (pa_cons (pv 0) pa_nil)) (pg_tup rfl (pgs_cons (pg_name (i := 2) sc_need_web.nd rfl (by first | exact Or.inl rfl | exact Or.inr rfl)) (pgs_cons (pg_name (i := 3) sc_need_web.nd rfl (by first | exact Or.inl rfl | exact Or.inr rfl)) pgs_nil))) (pss_one (ps_if (pt_val (pe_callB (cr_anyB rfl) (by rfl) B.any (by decide +kernel) (pa_cons (pe_lc (own := [("other", 4)]) rfl sc_need_web.nd (pi_tup (pv 3)) (blkOk_by (own := [("other", 4)]) (N := ["web", "people", "index", "friends", "other"]) (sc := defScope s_need_web) (by decide +kernel)) (fun _ _ _ _ _ => (pg_name (i := 4) sc_need_web.nd rfl (by first | exact Or.inl rfl | exact Or.inr rfl))) (fun _ _ _ _ _ => pts_nil) (fun _ _ _ _ _ => (pe_cmpR op_notInI (pv 2) (pe_ix ix_WB (pv 0) (pv 4) (fun _ _ => rfl)) (by rfl)))) pa_nil))) pss_never pss_nil))))))), ?_⟩
  obtain ⟨t, xs, rfl, ht, hl⟩ := hW.tup
  obtain ⟨t0, xs0, e0, h0, hp0⟩ := hW
  cases e0
  rw [ht] at h0
  cases h0
  have hW : WB H (.ref t) W := ⟨t, xs, rfl, ht, hp0⟩
  have pos := g.pos
  have le5 := g.le5
  refine ⟨_, rfl, (xs, 1, 7), _, _, _, rfl, ⟨t, rfl, ht⟩, rfl, rfl, ⟨?_, ?_⟩, fun z H1 s1 hz => ?_⟩
  · show (1 : Int) ≤ xs.length
    omega
  · show (xs.length : Int) ≤ 7
    omega
  obtain rfl : z = .bl true := hz
  refine ⟨_, rfl, iteF ?_⟩
  refine ⟨_, rfl, _, _, rfl, hW.mono s1, ?_⟩
  refine ⟨_, rfl, t, _, rfl, SqT.of (s1 _ _ ht), ?_⟩
  refine for_enumT (xs := xs) (fun i σ H' => ∃ v w u, σ = [some (.ref t), some (.int W.length), v, w, u] ∧ Same H H') ⟨none, none, none, rfl, s1⟩ (fun i σ H' ⟨_, _, _, _, s⟩ => SqT.of (s _ _ ht)) ?_ ?_
  · rintro i x T σ H' hx ⟨v, w, u, rfl, s⟩ nT
    obtain ⟨fr1, hfr, hTI⟩ := paired_get hp0 hx
    have hTI2 := (hTI.mono s).mono (same_new (o := .tup [.int (i : Nat), x]) nT)
    have s2 : Same H (upd H' T (.tup [.int (i : Nat), x])) := s.trans (same_new nT)
    have hsub : Sub W.length fr1 := g.row fr1 (List.mem_of_getElem? hfr)
    have hi : i < W.length := (List.getElem?_eq_some_iff.mp hfr).1
    have efr : fr W (i : Nat) = fr1 := by unfold fr; rw [Int.toNat_natCast, hfr]; rfl
    have hni : ¬ ((i : Nat) : Int) ∈ fr1 := by rw [← efr]; exact g.irr _ (by omega) (by omega)
    have hlen : fr1.length ≤ W.length - 1 := hsub.less (p := (i : Nat)) (by omega) (by omega) hni
    refine ⟨T, _, rfl, SqT.of upd_same, rfl, _, _, rfl, _, _, rfl, rfl, ?_⟩
    obtain ⟨t3, rfl, ht3⟩ := hTI2
    refine ⟨_, rfl, _, rfl, _, _, rfl, rfl, (fr1.map V.int, 0, (W.length : Int) - 1), _, _, _, rfl, ⟨t3, rfl, ht3⟩, rfl, rfl, ⟨?_, ?_⟩, fun z H3 s3 hz => ?_⟩
    · show (0 : Int) ≤ ((fr1.map V.int).length : Nat)
      omega
    · show (((fr1.map V.int).length : Nat) : Int) ≤ (W.length : Int) - 1
      rw [List.length_map]
      omega
    obtain rfl : z = .bl true := hz
    refine ⟨_, rfl, iteF ?_⟩
    have ht4 := s3 _ _ ht3
    refine ⟨_, rfl, t3, rfl, ⟨_, SqT.of ht4⟩, fun D nD => ?_⟩
    refine cTb ht4 (hsub.line le5) (fun _ => true) nD (fun m H4 hm s4 Qy q => ?_) (fun H4 s4 hl4 => ?_)
    · have hm' := hsub.2 m hm
      refine ⟨_, rfl, _, rfl, _, _, rfl, rfl, (m, 0, (W.length : Int) - 1), _, _, _, rfl, rfl, rfl, rfl, ⟨hm'.1, ?_⟩, fun z H5 s5 hz => ?_⟩
      · show m ≤ (W.length : Int) - 1
        omega
      · obtain rfl : z = .bl true := hz
        exact q _ s5
    refine ⟨_, _, rfl, hl4, _, rfl, ?_⟩
    rw [all_map_id, show (fr1.all fun _ => true) = true from List.all_eq_true.mpr fun _ _ => rfl]
    refine iteF ?_
    have ht5 : TI H4 (.ref t3) fr1 := ⟨t3, rfl, s4 _ _ ht4⟩
    refine ⟨_, rfl, _, _, rfl, ht5, fun z6 H6 s6 hz6 => ?_⟩
    have ht6 := ht5.mono s6
    refine ⟨_, rfl, _, _, rfl, .inr ht6, ?_, fun ps c np hc => ?_⟩
    · have := hsub.len
      omega
    refine ⟨ps, _, c, rfl, upd_same, ?_, fun ns p7 h1 h2 _ np7 => ?_⟩
    · have := hsub.len
      omega
    have ens : ns = fr1 := sorted_same hsub h1 h2
    subst ens
    have s7 : Same H6 (upd (upd H6 ps (SetO _ ps (fun j => decide (j ∈ ns)) c)) p7 (.lst (ns.map V.int))) := (same_new np).trans (same_new np7)
    refine ⟨_, _, hz6.mono s7, ⟨p7, rfl, upd_same⟩, _, rfl, ?_⟩
    rw [decide_eq_true rfl]
    refine iteF ?_
    refine ⟨_, rfl, _, rfl, _, _, rfl, ht6.mono s7, _, rfl, ?_⟩
    rw [decide_eq_false hni]
    refine iteF ⟨_, _, _, rfl, ?_⟩
    exact ((((s2.trans s3).trans s4).trans s6).trans s7)
  · rintro σ H' ⟨v, w, u, rfl, s⟩
    refine ⟨_, rfl, t, _, rfl, SqT.of (s _ _ ht), ?_⟩
    refine for_enumT (xs := xs) (fun i σ H' => ∃ v w u, σ = [some (.ref t), some (.int W.length), v, w, u] ∧ Same H H') ⟨_, _, _, rfl, s⟩ (fun i σ H' ⟨_, _, _, _, s⟩ => SqT.of (s _ _ ht)) ?_ ?_
    · rintro i x T σ H' hx ⟨v, w, u, rfl, s⟩ nT
      obtain ⟨fr1, hfr, hTI⟩ := paired_get hp0 hx
      have hTI2 := (hTI.mono s).mono (same_new (o := .tup [.int (i : Nat), x]) nT)
      have s2 : Same H (upd H' T (.tup [.int (i : Nat), x])) := s.trans (same_new nT)
      have hsub : Sub W.length fr1 := g.row fr1 (List.mem_of_getElem? hfr)
      have hi : i < W.length := (List.getElem?_eq_some_iff.mp hfr).1
      have efr : fr W (i : Nat) = fr1 := by unfold fr; rw [Int.toNat_natCast, hfr]; rfl
      refine ⟨T, _, rfl, SqT.of upd_same, rfl, _, _, rfl, _, _, rfl, rfl, ?_⟩
      obtain ⟨t3, rfl, ht3⟩ := hTI2
      refine ⟨_, rfl, t3, rfl, ⟨_, SqT.of ht3⟩, fun D nD => ?_⟩
      refine cTb ht3 (hsub.line le5) (fun _ => false) nD (fun m H4 hm s4 Qy q => ?_) (fun H4 s4 hl4 => ?_)
      · have hm' := hsub.2 m hm
        refine ⟨_, rfl, _, rfl, _, rfl, W, m, (hW.mono s2).mono s4, rfl, hm'.1, hm'.2, fun z hz => ⟨_, _, rfl, hz, ?_⟩⟩
        have e : ((i : Nat) : Int) ∈ fr W m := g.sym (i : Nat) (by omega) (by omega) m (by rw [efr]; exact hm)
        rw [decide_eq_true e]
        exact q _ (Same.refl _)
      refine ⟨_, _, rfl, hl4, _, rfl, ?_⟩
      rw [any_map_id, show (fr1.any fun _ => false) = false from by rw [List.any_eq_false]; intro _ _; simp]
      exact iteF ⟨_, _, _, rfl, s2.trans s4⟩
    · rintro σ H' ⟨v, w, u, rfl, s⟩
      exact k _ _ s rfl

theorem d_is_set {P : Program} {w : World} {K : PySem.W.Frag} {mg : Str → Option Value} {base : Heap} (B : Bi mg) (D : DefAt K mg "is_set" s_is_set) (D_is_in : Df P w K mg base "is_in" 2 ["value", "least", "most"] sp_is_in) (D_is_list : Df P w K mg base "is_list" 1 ["value", "least", "most"] sp_is_list) : Df P w K mg base "is_set" 3 ["web", "people"] sp_is_set := by
  refine df_mk (st := s_is_set) D sc_is_set (fun _ _ _ _ _ _ us hl => match us, hl with | [_, _], _ => rfl) sp2.len fun f cdv A outer s H vs Q E hr h => ?_
  obtain ⟨⟨W, S⟩, _, _, rfl, hW, hS, ⟨g, hs⟩, k⟩ := h
  refine ⟨_, (pss_cons (ps_set (i := 2) sc_is_set.nd rfl (by first | exact Or.inl rfl | exact Or.inr rfl) (pe_callB call_lenW (by rfl) B.len (by decide +kernel) (pa_cons (pv 0) pa_nil)))
      (pss_cons (ps_if (PW.pt (pw_or (pt_not (pt_val (pe_callD D_is_list (hr.mono (by decide)) rfl (pa_cons (pv 1) (pa_cons pe_int (pa_cons (pv 2) pa_nil)))))) (pw_or1 (pt_not (pt_val (pe_callB (cr_allB rfl) (by rfl) B.all (by decide +kernel) (pa_cons (pe_lc (own := [("person", 3)]) rfl sc_is_set.nd (pi_tup (pv 1)) (blkOk_by (own := [("person", 3)]) (N := ["web", "people", "many", "person"]) (sc := defScope s_is_set) (by decide +kernel)) (fun _ _ _ _ _ => (pg_name (i := 3) sc_is_set.nd rfl (by first | exact Or.inl rfl | exact Or.inr rfl))) (fun _ _ _ _ _ => pts_nil) (fun _ _ _ _ _ => (pe_callD D_is_in hr rfl (pa_cons (pv 3) (pa_cons pe_int (pa_cons (pe_op op_sub (pv 2) pe_int) pa_nil)))))) pa_nil))))))) (pss_one (ps_ret pe_bl)) pss_nil)
      (pss_one (ps_ret (pe_cmpR (op_eqI (hu64 hr)) (pe_callTy call_listI (by rfl) B.list (by decide +kernel) (pa_cons (pv 1) pa_nil)) (pe_callB (cr_sortedSet rfl) (by rfl) B.sorted (by decide +kernel) (pa_cons (pe_callTy (cr_setI rfl) (by rfl) B.set (by decide +kernel) (pa_cons (pv 1) pa_nil)) pa_nil)) (nomark _)))))), ?_⟩
  simp only at hW hS g hs
  have le5 := g.le5
  have hlen := hs.len
  obtain ⟨t, rfl, ht⟩ := hS
  refine ⟨_, rfl, _, _, rfl, hW, ?_⟩
  refine ⟨_, rfl, _, rfl, (S.map V.int, 0, (W.length : Int)), _, _, _, rfl, ⟨t, rfl, ht⟩, rfl, rfl, ⟨?_, ?_⟩, fun z H3 s3 hz => ?_⟩
  · show (0 : Int) ≤ ((S.map V.int).length : Nat)
    omega
  · show (((S.map V.int).length : Nat) : Int) ≤ (W.length : Int)
    rw [List.length_map]
    omega
  obtain rfl : z = .bl true := hz
  refine ⟨_, rfl, iteF ?_⟩
  have ht4 := s3 _ _ ht
  refine ⟨_, rfl, t, rfl, ⟨_, SqT.of ht4⟩, fun D nD => ?_⟩
  refine cTb ht4 (hs.line le5) (fun _ => true) nD (fun m H4 hm s4 Qy q => ?_) (fun H4 s4 hl4 => ?_)
  · have hm' := hs.2 m hm
    refine ⟨_, rfl, _, rfl, _, _, rfl, rfl, (m, 0, (W.length : Int) - 1), _, _, _, rfl, rfl, rfl, rfl, ⟨hm'.1, ?_⟩, fun z H5 s5 hz => ?_⟩
    · show m ≤ (W.length : Int) - 1
      omega
    · obtain rfl : z = .bl true := hz
      exact q _ s5
  refine ⟨_, _, rfl, hl4, _, rfl, ?_⟩
  rw [all_map_id, show (S.all fun _ => true) = true from List.all_eq_true.mpr fun _ _ => rfl]
  refine iteF ?_
  have ht5 : TI H4 (.ref t) S := ⟨t, rfl, s4 _ _ ht4⟩
  refine ⟨_, rfl, _, _, rfl, ht5, fun z6 H6 s6 hz6 => ?_⟩
  have ht6 := ht5.mono s6
  refine ⟨_, rfl, _, _, rfl, .inr ht6, ?_, fun ps c np hc => ?_⟩
  · omega
  refine ⟨ps, _, c, rfl, upd_same, ?_, fun ns p7 h1 h2 _ np7 => ?_⟩
  · omega
  have ens : ns = S := sorted_same hs h1 h2
  subst ens
  have s7 : Same H6 (upd (upd H6 ps (SetO _ ps (fun j => decide (j ∈ ns)) c)) p7 (.lst (ns.map V.int))) := (same_new np).trans (same_new np7)
  refine ⟨_, _, hz6.mono s7, ⟨p7, rfl, upd_same⟩, ?_⟩
  exact k _ _ (((s3.trans s4).trans s6).trans s7) (congrArg V.bl (decide_eq_true rfl))
theorem d_need_state {P : Program} {w : World} {K : PySem.W.Frag} {mg : Str → Option Value} {base : Heap} (B : Bi mg) (D : DefAt K mg "need_state" s_need_state) (D_need_web : Df P w K mg base "need_web" 3 ["web"] sp_need_web) (D_is_set : Df P w K mg base "is_set" 3 ["web", "people"] sp_is_set) : Df P w K mg base "need_state" 4 ["web", "standing"] sp_need_state := by
  refine df_mk (st := s_need_state) D sc_need_state (fun _ _ _ _ _ _ us hl => match us, hl with | [_, _], _ => rfl) sp2.len fun f cdv A outer s H vs Q E hr h => ?_
  obtain ⟨⟨W, S⟩, _, _, rfl, hW, hS, ⟨g, hs⟩, k⟩ := h
  refine ⟨_, (pss_cons (ps_expr (pe_callD D_need_web hr rfl (pa_cons (pv 0) pa_nil)))
      (pss_one (ps_if (pt_not (pt_val (pe_callD D_is_set hr rfl (pa_cons (pv 0) (pa_cons (pv 1) pa_nil))))) pss_never pss_nil))), ?_⟩
  simp only at hW hS g hs
  refine ⟨_, rfl, W, _, rfl, hW, g, fun z H1 s1 _ => ?_⟩
  refine ⟨_, rfl, _, rfl, (W, S), _, _, rfl, hW.mono s1, hS.mono s1, ⟨g, hs⟩, fun z2 H2 s2 hz => ?_⟩
  obtain rfl : z2 = .bl true := hz
  exact ⟨_, rfl, iteF (k _ _ (s1.trans s2) rfl)⟩
theorem d_need_two {P : Program} {w : World} {K : PySem.W.Frag} {mg : Str → Option Value} {base : Heap} (B : Bi mg) (D : DefAt K mg "need_two" s_need_two) (D_is_set : Df P w K mg base "is_set" 3 ["web", "people"] sp_is_set) (D_need_state : Df P w K mg base "need_state" 4 ["web", "standing"] sp_need_state) : Df P w K mg base "need_two" 5 ["web", "standing", "goal"] sp_need_two := by
  refine df_mk (st := s_need_two) D sc_need_two (fun _ _ _ _ _ _ us hl => match us, hl with | [_, _, _], _ => rfl) sp3.len fun f cdv A outer s H vs Q E hr h => ?_
  obtain ⟨⟨W, S, G⟩, _, _, _, rfl, hW, hS, hG, ⟨g, hs, hg⟩, k⟩ := h
  refine ⟨_, (pss_cons (ps_expr (pe_callD D_need_state hr rfl (pa_cons (pv 0) (pa_cons (pv 1) pa_nil))))
      (pss_one (ps_if (pt_not (pt_val (pe_callD D_is_set (hr.mono (by decide)) rfl (pa_cons (pv 0) (pa_cons (pv 2) pa_nil))))) pss_never pss_nil))), ?_⟩
  simp only at hW hS hG g hs hg
  refine ⟨_, rfl, _, rfl, (W, S), _, _, rfl, hW, hS, ⟨g, hs⟩, fun z H1 s1 _ => ?_⟩
  refine ⟨_, rfl, _, rfl, (W, G), _, _, rfl, hW.mono s1, hG.mono s1, ⟨g, hg⟩, fun z2 H2 s2 hz => ?_⟩
  obtain rfl : z2 = .bl true := hz
  exact ⟨_, rfl, iteF (k _ _ (s1.trans s2) rfl)⟩
theorem d_need_person {P : Program} {w : World} {K : PySem.W.Frag} {mg : Str → Option Value} {base : Heap} (B : Bi mg) (D : DefAt K mg "need_person" s_need_person) (D_is_in : Df P w K mg base "is_in" 2 ["value", "least", "most"] sp_is_in) : Df P w K mg base "need_person" 3 ["web", "person"] sp_need_person := by
  refine df_mk (st := s_need_person) D sc_need_person (fun _ _ _ _ _ _ us hl => match us, hl with | [_, _], _ => rfl) sp2.len fun f cdv A outer s H vs Q E hr h => ?_
  obtain ⟨⟨W, p⟩, _, _, rfl, hW, rfl, ⟨h0, h1⟩, k⟩ := h
  refine ⟨_, (pss_one (ps_if (pt_not (pt_val (pe_callD D_is_in hr rfl (pa_cons (pv 1) (pa_cons pe_int (pa_cons (pe_op op_sub (pe_callB call_lenW (by rfl) B.len (by decide +kernel) (pa_cons (pv 0) pa_nil)) pe_int) pa_nil)))))) pss_never pss_nil)), ?_⟩
  simp only at hW h0 h1
  refine ⟨_, rfl, _, rfl, _, _, rfl, hW, _, _, rfl, rfl, (p, 0, (W.length : Int) - 1), _, _, _, rfl, rfl, rfl, rfl, ⟨h0, ?_⟩, fun z2 H2 s2 hz => ?_⟩
  · show p ≤ (W.length : Int) - 1
    omega
  obtain rfl : z2 = .bl true := hz
  exact ⟨_, rfl, iteF (k _ _ s2 rfl)⟩
theorem d_need_way {P : Program} {w : World} {K : PySem.W.Frag} {mg : Str → Option Value} {base : Heap} (B : Bi mg) (D : DefAt K mg "need_way" s_need_way) (D_need_two : Df P w K mg base "need_two" 5 ["web", "standing", "goal"] sp_need_two) (D_fits : Df P w K mg base "fits" 2 ["web", "standing", "goal"] sp_fits) : Df P w K mg base "need_way" 6 ["web", "standing", "goal"] sp_need_way := by
  refine df_mk (st := s_need_way) D sc_need_way (fun _ _ _ _ _ _ us hl => match us, hl with | [_, _, _], _ => rfl) sp3.len fun f cdv A outer s H vs Q E hr h => ?_
  obtain ⟨⟨W, S, G⟩, _, _, _, rfl, hW, hS, hG, ⟨g, hs, hg, hf⟩, k⟩ := h
  refine ⟨_, (pss_cons (ps_expr (pe_callD D_need_two hr rfl (pa_cons (pv 0) (pa_cons (pv 1) (pa_cons (pv 2) pa_nil)))))
      (pss_one (ps_if (pt_not (pt_val (pe_callD D_fits (hr.mono (by decide)) rfl (pa_cons (pv 0) (pa_cons (pv 1) (pa_cons (pv 2) pa_nil)))))) pss_never pss_nil))), ?_⟩
  simp only at hW hS hG g hs hg hf
  refine ⟨_, rfl, _, rfl, _, rfl, (W, S, G), _, _, _, rfl, hW, hS, hG, ⟨g, hs, hg⟩, fun z H1 s1 _ => ?_⟩
  refine ⟨_, rfl, _, rfl, _, rfl, (W, S, G), _, _, _, rfl, hW.mono s1, hS.mono s1, hG.mono s1, ⟨g, hs, hg⟩, fun z2 H2 s2 hz => ?_⟩
  obtain rfl : z2 = .bl (fitsW W S G) := hz
  refine ⟨_, rfl, ?_⟩
  rw [hf]
  exact iteF (k _ _ (s1.trans s2) rfl)
theorem d_need_weights {P : Program} {w : World} {K : PySem.W.Frag} {mg : Str → Option Value} {base : Heap} (B : Bi mg) (D : DefAt K mg "need_weights" s_need_weights) (D_is_in : Df P w K mg base "is_in" 2 ["value", "least", "most"] sp_is_in) (D_is_list : Df P w K mg base "is_list" 1 ["value", "least", "most"] sp_is_list) : Df P w K mg base "need_weights" 3 ["web", "weights"] sp_need_weights := by
  refine df_mk (st := s_need_weights) D sc_need_weights (fun _ _ _ _ _ _ us hl => match us, hl with | [_, _], _ => rfl) sp2.len fun f cdv A outer s H vs Q E hr h => ?_
  obtain ⟨⟨W, ws⟩, _, _, rfl, hW, hS, ⟨hl, hb⟩, k⟩ := h
  refine ⟨_, (pss_cons (ps_if (pt_not (pt_val (pe_callD D_is_list (hr.mono (by decide)) rfl (pa_cons (pv 1) (pa_cons (pe_callB call_lenW (by rfl) B.len (by decide +kernel) (pa_cons (pv 0) pa_nil)) (pa_cons (pe_callB call_lenW (by rfl) B.len (by decide +kernel) (pa_cons (pv 0) pa_nil)) pa_nil)))))) pss_never pss_nil)
      (pss_one (ps_for PassesOwn.never rfl (pi_enumT (by rfl) B.enumerate (pa_cons (pv 1) pa_nil)) (pg_tup rfl (pgs_cons (pg_name (i := 2) sc_need_weights.nd rfl (by first | exact Or.inl rfl | exact Or.inr rfl)) (pgs_cons (pg_name (i := 3) sc_need_weights.nd rfl (by first | exact Or.inl rfl | exact Or.inr rfl)) pgs_nil))) (pss_one (ps_if (pt_not (pt_val (pe_callD D_is_in hr rfl (pa_cons (pv 3) (pa_cons pe_int (pa_cons pe_int pa_nil)))))) pss_never pss_nil))))), ?_⟩
  simp only at hW hS hl hb
  obtain ⟨t, rfl, ht⟩ := hS
  refine ⟨_, rfl, _, rfl, _, _, rfl, hW, _, rfl, _, _, rfl, hW, (ws.map V.int, (W.length : Int), (W.length : Int)), _, _, _, rfl, ⟨t, rfl, ht⟩, rfl, rfl, ⟨?_, ?_⟩, fun z H3 s3 hz => ?_⟩
  · show (W.length : Int) ≤ ((ws.map V.int).length : Nat)
    rw [List.length_map]
    omega
  · show (((ws.map V.int).length : Nat) : Int) ≤ (W.length : Int)
    rw [List.length_map]
    omega
  obtain rfl : z = .bl true := hz
  refine ⟨_, rfl, iteF ?_⟩
  refine ⟨_, rfl, t, _, rfl, SqT.of (s3 _ _ ht), ?_⟩
  refine for_enumT (xs := ws.map V.int) (fun i σ H' => ∃ v w, σ = [some _, some (.ref t), v, w] ∧ Same H H') ⟨none, none, rfl, s3⟩ (fun i σ H' ⟨_, _, _, s⟩ => SqT.of (s _ _ ht)) ?_ ?_
  · rintro i x T σ H' hx ⟨v, w, rfl, s⟩ nT
    obtain ⟨n, hn, rfl⟩ : ∃ n, n ∈ ws ∧ x = V.int n := by
      rw [List.getElem?_map] at hx
      cases e : ws[i]? with
      | none => rw [e] at hx; cases hx
      | some n => rw [e] at hx; exact ⟨n, List.mem_of_getElem? e, (Option.some.inj hx).symm⟩
    refine ⟨T, _, rfl, SqT.of upd_same, rfl, _, _, rfl, _, _, rfl, rfl, ?_⟩
    refine ⟨_, rfl, (n, 0, 99), _, _, _, rfl, rfl, rfl, rfl, hb n hn, fun z H5 s5 hz => ?_⟩
    obtain rfl : z = .bl true := hz
    exact ⟨_, rfl, iteF ⟨_, _, rfl, (s.trans (same_new nT)).trans s5⟩⟩
  · rintro σ H' ⟨v, w, rfl, s⟩
    exact k _ _ s rfl
end Ts

set_option Elab.async false
set_option linter.all false
set_option maxRecDepth 100000
set_option maxHeartbeats 4000000
namespace Ts
open PySem PySem.Spec PyProof.Rows L2 StX
abbrev s_telling : Stmt := topS 31
theorem sc_telling : FnScope ["web", "standing", "goal"] ["web", "standing", "goal"] (defScope s_telling) := ⟨rfl, rfl, rfl, by decide +kernel, rfl, by decide +kernel, by decide +kernel⟩
abbrev s_least_telling : Stmt := topS 32
theorem sc_least_telling : FnScope ["web", "standing", "goal", "some", "few", "found", "row"] ["web", "standing", "goal"] (defScope s_least_telling) := ⟨rfl, rfl, rfl, by decide +kernel, rfl, by decide +kernel, by decide +kernel⟩
abbrev s_distance : Stmt := topS 33
theorem sc_distance : FnScope ["web", "standing", "goal", "row"] ["web", "standing", "goal"] (defScope s_distance) := ⟨rfl, rfl, rfl, by decide +kernel, rfl, by decide +kernel, by decide +kernel⟩
abbrev s_ends : Stmt := topS 38
theorem sc_ends : FnScope ["web", "standing"] ["web", "standing"] (defScope s_ends) := ⟨rfl, rfl, rfl, by decide +kernel, rfl, by decide +kernel, by decide +kernel⟩
abbrev s_count_ends : Stmt := topS 39
theorem sc_count_ends : FnScope ["web", "standing"] ["web", "standing"] (defScope s_count_ends) := ⟨rfl, rfl, rfl, by decide +kernel, rfl, by decide +kernel, by decide +kernel⟩
abbrev s_least_end : Stmt := topS 40
theorem sc_least_end : FnScope ["web", "standing"] ["web", "standing"] (defScope s_least_end) := ⟨rfl, rfl, rfl, by decide +kernel, rfl, by decide +kernel, by decide +kernel⟩
abbrev s_who_can_stand : Stmt := topS 41
theorem sc_who_can_stand : FnScope ["web", "standing", "some", "person", "end"] ["web", "standing"] (defScope s_who_can_stand) := ⟨rfl, rfl, rfl, by decide +kernel, rfl, by decide +kernel, by decide +kernel⟩
abbrev s_widest_end : Stmt := topS 42
theorem sc_widest_end : FnScope ["web", "standing", "many", "end"] ["web", "standing"] (defScope s_widest_end) := ⟨rfl, rfl, rfl, by decide +kernel, rfl, by decide +kernel, by decide +kernel⟩
abbrev s_cheapest_telling : Stmt := topS 45
theorem sc_cheapest_telling : FnScope ["web", "standing", "goal", "weights", "found", "row", "person"] ["web", "standing", "goal", "weights"] (defScope s_cheapest_telling) := ⟨rfl, rfl, rfl, by decide +kernel, rfl, by decide +kernel, by decide +kernel⟩
abbrev s_worth : Stmt := topS 46
theorem sc_worth : FnScope ["web", "standing", "weights", "person"] ["web", "standing", "weights"] (defScope s_worth) := ⟨rfl, rfl, rfl, by decide +kernel, rfl, by decide +kernel, by decide +kernel⟩
abbrev s_richest_end : Stmt := topS 47
theorem sc_richest_end : FnScope ["web", "standing", "weights", "many", "end", "person"] ["web", "standing", "weights"] (defScope s_richest_end) := ⟨rfl, rfl, rfl, by decide +kernel, rfl, by decide +kernel, by decide +kernel⟩
abbrev s_poorest_end : Stmt := topS 48
theorem sc_poorest_end : FnScope ["web", "standing", "weights", "end", "person"] ["web", "standing", "weights"] (defScope s_poorest_end) := ⟨rfl, rfl, rfl, by decide +kernel, rfl, by decide +kernel, by decide +kernel⟩
abbrev s_cheapest_end : Stmt := topS 49
theorem sc_cheapest_end : FnScope ["web", "standing", "weights", "found", "end", "some", "row", "person"] ["web", "standing", "weights"] (defScope s_cheapest_end) := ⟨rfl, rfl, rfl, by decide +kernel, rfl, by decide +kernel, by decide +kernel⟩
abbrev s_richest_with : Stmt := topS 50
theorem sc_richest_with : FnScope ["web", "standing", "weights", "person", "some", "end", "one"] ["web", "standing", "weights", "person"] (defScope s_richest_with) := ⟨rfl, rfl, rfl, by decide +kernel, rfl, by decide +kernel, by decide +kernel⟩
abbrev s_most_apart : Stmt := topS 56
theorem sc_most_apart : FnScope ["web", "standing", "many", "row"] ["web", "standing"] (defScope s_most_apart) := ⟨rfl, rfl, rfl, by decide +kernel, rfl, by decide +kernel, by decide +kernel⟩
section
variable {K : PySem.W.Frag} {a : Addr} {te : TE} {tt : TT} {o : Nat} {σ : L2.St} {H1 : Hp} {D : Addr} {Qd : Hp → Prop} {xs : List V} {rows : List Rw}
/-- numbers of those rows that pass -/
theorem cRi (hq : H1 a = some (.lst xs)) (hp : Paired (TI H1) xs rows) (hlen : rows.length ≤ 1000) (p : Rw → Bool) (f : Rw → Int) (hn : H1 D = none)
    (ht : ∀ r x H, r ∈ rows → TI H x r → Same H1 H → ∀ Qb : Bool → Hp → Prop, (∀ H2, Same H H2 → Qb (p r) H2) → tt (sAt σ o x) H Qb)
    (he : ∀ r x H, r ∈ rows → TI H x r → Same H1 H → ∀ Qy : V → Hp → Prop, (∀ H2, Same H H2 → Qy (.int (f r)) H2) → te (sAt σ o x) H Qy)
    (fin : ∀ H, Same H1 H → LI H (.ref D) ((rows.filter p).map f) → Qd H) :
    ∃ W : Nat → Nat → Hp → Prop, (∃ m, W 0 m (upd H1 D (.lst []))) ∧ ∀ i m H, W i m H →
      ((Itl K a).stop i H ∧ Qd H) ∨ ((Itl K a).go i H ∧ ∃ Nx : Hp → Prop, (∀ H', Nx H' → ∃ m', m' < m ∧ W (i + 1) m' H') ∧ ∀ x H', (Itl K a).yld i H x H' → gName o x (wipe σ [o]) H' fun σ2 H2 => wipe σ2 [o] = wipe σ [o] ∧ tt σ2 H2 fun b H3 =>
        if b = true then te σ2 H3 fun y H4 => ∃ acc, H4 D = some (.lst acc) ∧ acc.length < sizeLine ∧ Nx (upd H4 D (.lst (acc ++ [y]))) else Nx H3) := by
  refine cL (as := rows) (S0 := fun r x => TI H1 x r) hq (p_flip hp) hn (line32 hlen) p (fun r _ y => y = .int (f r)) (fun _ _ _ _ _ h => h) (fun r x H hr hx s Qb q => ht r x H hr (hx.mono s) s Qb q) (fun r x H hr _ hx s Qy q => he r x H hr (hx.mono s) s Qy fun H2 s2 => q _ _ s2 rfl) (fun H ys s hD hp => fin H s ⟨D, rfl, ?_⟩)
  rw [hD, p_int hp]
/-- pairs of those rows that pass -/
theorem cRp (hq : H1 a = some (.lst xs)) (hp : Paired (TI H1) xs rows) (hlen : rows.length ≤ 1000) (p : Rw → Bool) (f : Rw → Int × Rw) (hn : H1 D = none)
    (ht : ∀ r x H, r ∈ rows → TI H x r → Same H1 H → ∀ Qb : Bool → Hp → Prop, (∀ H2, Same H H2 → Qb (p r) H2) → tt (sAt σ o x) H Qb)
    (he : ∀ r x H, r ∈ rows → TI H x r → Same H1 H → ∀ Qy : V → Hp → Prop, (∀ y H2, Same H H2 → PR H2 y (f r) → Qy y H2) → te (sAt σ o x) H Qy)
    (fin : ∀ H, Same H1 H → LP H (.ref D) ((rows.filter p).map f) → Qd H) :
    ∃ W : Nat → Nat → Hp → Prop, (∃ m, W 0 m (upd H1 D (.lst []))) ∧ ∀ i m H, W i m H →
      ((Itl K a).stop i H ∧ Qd H) ∨ ((Itl K a).go i H ∧ ∃ Nx : Hp → Prop, (∀ H', Nx H' → ∃ m', m' < m ∧ W (i + 1) m' H') ∧ ∀ x H', (Itl K a).yld i H x H' → gName o x (wipe σ [o]) H' fun σ2 H2 => wipe σ2 [o] = wipe σ [o] ∧ tt σ2 H2 fun b H3 =>
        if b = true then te σ2 H3 fun y H4 => ∃ acc, H4 D = some (.lst acc) ∧ acc.length < sizeLine ∧ Nx (upd H4 D (.lst (acc ++ [y]))) else Nx H3) := by
  refine cL (as := rows) (S0 := fun r x => TI H1 x r) hq (p_flip hp) hn (line32 hlen) p (fun r H y => PR H y (f r)) (fun _ _ _ _ s h => h.monoT s) (fun r x H hr hx s Qb q => ht r x H hr (hx.mono s) s Qb q) (fun r x H hr _ hx s Qy q => he r x H hr (hx.mono s) s Qy fun y H2 s2 h => q _ _ s2 h) (fun H ys s hD hp => fin H s ⟨D, _, rfl, hD, p_pair hp⟩)
/-- flags of rows -/
theorem cRb (hq : H1 a = some (.lst xs)) (hp : Paired (TI H1) xs rows) (hlen : rows.length ≤ 1000) (f : Rw → Bool) (hn : H1 D = none)
    (he : ∀ r x H, r ∈ rows → TI H x r → Same H1 H → ∀ Qy : V → Hp → Prop, (∀ H2, Same H H2 → Qy (.bl (f r)) H2) → te (sAt σ o x) H Qy)
    (fin : ∀ H, Same H1 H → (∃ t, V.ref D = .ref t ∧ H t = some (.lst ((rows.map f).map V.bl))) → Qd H) :
    ∃ W : Nat → Nat → Hp → Prop, (∃ m, W 0 m (upd H1 D (.lst []))) ∧ ∀ i m H, W i m H →
      ((Itl K a).stop i H ∧ Qd H) ∨ ((Itl K a).go i H ∧ ∃ Nx : Hp → Prop, (∀ H', Nx H' → ∃ m', m' < m ∧ W (i + 1) m' H') ∧ ∀ x H', (Itl K a).yld i H x H' → gName o x (wipe σ [o]) H' fun σ2 H2 => wipe σ2 [o] = wipe σ [o] ∧ tYes σ2 H2 fun b H3 =>
        if b = true then te σ2 H3 fun y H4 => ∃ acc, H4 D = some (.lst acc) ∧ acc.length < sizeLine ∧ Nx (upd H4 D (.lst (acc ++ [y]))) else Nx H3) := by
  refine cL (as := rows) (S0 := fun r x => TI H1 x r) hq (p_flip hp) hn (line32 hlen) (fun _ => true) (fun r _ y => y = .bl (f r)) (fun _ _ _ _ _ h => h) (fun _ _ _ _ _ _ _ q => q _ (Same.refl _)) (fun r x H hr _ hx s Qy q => he r x H hr (hx.mono s) s Qy fun H2 s2 => q _ _ s2 rfl) (fun H ys s hD hp => fin H s ⟨D, rfl, ?_⟩)
  rw [filter_true] at hp
  rw [hD, p_bl hp]
/-- the sum of the weights of some people -/
theorem rdSum {i j : Nat} {H : Hp} {Q : V → Hp → Prop} {x y : V} {ws S : Rw} (hi : σ[i]? = some (some x)) (hx : TI H x S) (hj : ∀ n : Int, (sAt σ o (.int n))[j]? = some (some y)) (hy : TI H y ws) (ho : ∀ n : Int, (sAt σ o (.int n))[o]? = some (some (V.int n)))
    (hb : ∀ n ∈ S, 0 ≤ n ∧ n < ws.length) (hlen : S.length ≤ 1000) (q : ∀ H', Same H H' → Q (.int (wsum ws S)) H') :
    tCB (fun vs H Q => ∃ x ns, vs = [x] ∧ LI H x ns ∧ Q (.int ns.sum) H) (tCons (tLc (iTup K (tVar i)) (gName o) tYes (tOp (fun x y H Q => ∃ ns p, TI H x ns ∧ y = .int p ∧ 0 ≤ p ∧ p < ns.length ∧ Q (.int (gt ns p)) H) (tVar j) (tVar o)) [o]) tNil) σ H Q := by
  obtain ⟨t, rfl, ht⟩ := hx
  refine ⟨_, hi, t, rfl, ⟨_, SqT.of ht⟩, fun D nD => ?_⟩
  refine cTi ht (line32 hlen) (gt ws) nD (fun n H2 hn s Qy q => ?_) (fun H2 s hl => ?_)
  · exact ⟨_, hj n, _, ho n, ws, n, hy.mono s, rfl, (hb n hn).1, (hb n hn).2, q _ (Same.refl _)⟩
  · exact ⟨_, _, rfl, hl, q _ s⟩
end
theorem rsort_le {l : List Rw} {n : Nat} (h : l.length ≤ n) (f : Rw → Bool) : (rsort (l.filter f)).length ≤ n := by
  rw [rsort_len]
  exact Nat.le_trans (List.length_filter_le _ _) h
theorem tellings_le {W : Wb} (g : Good W) {S : Rw} (h : Sub W.length S) (G : Rw) : (tellings W S G).length ≤ 32 := rsort_le (choice_le (h.filter _) g.le5) _
theorem ends_le {W : Wb} (g : Good W) {S : Rw} (h : Sub W.length S) : (endsW W S).length ≤ 32 := rsort_le (choice_le h g.le5) _
theorem tellings_sub {W : Wb} {S G r : Rw} (h : Sub W.length S) (m : r ∈ tellings W S G) : Sub W.length r := by
  have := (List.mem_filter.mp (mem_rsort.mp m)).1
  exact (h.filter _).choice this
theorem ends_sub {W : Wb} {S r : Rw} (h : Sub W.length S) (m : r ∈ endsW W S) : Sub W.length r := by
  have := (List.mem_filter.mp (mem_rsort.mp m)).1
  exact h.choice this
abbrev WS := Wb × Rw
abbrev WSG := Wb × Rw × Rw
def pWS (a : WS) : Prop := Good a.1 ∧ Sub a.1.length a.2
def pWSG (a : WSG) : Prop := Good a.1 ∧ Sub a.1.length a.2.1 ∧ Sub a.1.length a.2.2 ∧ fitsW a.1 a.2.1 a.2.2 = true
def lenI (r : Rw) : Int := r.length
def sp_telling : Sp := sp3 (α := WSG) (fun a H x => WB H x a.1) (fun a H x => TI H x a.2.1) (fun a H x => TI H x a.2.2) pWSG (fun a H z => LT H z (tellings a.1 a.2.1 a.2.2))
def sp_least_telling : Sp := sp3 (α := WSG) (fun a H x => WB H x a.1) (fun a H x => TI H x a.2.1) (fun a H x => TI H x a.2.2) (fun a => pWSG a ∧ tellings a.1 a.2.1 a.2.2 ≠ []) (fun a H z => LT H z ((tellings a.1 a.2.1 a.2.2).filter fun r => decide (lenI r = minI ((tellings a.1 a.2.1 a.2.2).map lenI))))
def sp_distance : Sp := sp3 (α := WSG) (fun a H x => WB H x a.1) (fun a H x => TI H x a.2.1) (fun a H x => TI H x a.2.2) (fun a => pWSG a ∧ tellings a.1 a.2.1 a.2.2 ≠ []) (fun a _ z => z = .int (minI ((tellings a.1 a.2.1 a.2.2).map lenI)))
def sp_ends : Sp := sp2 (α := WS) (fun a H x => WB H x a.1) (fun a H x => TI H x a.2) pWS (fun a H z => LT H z (endsW a.1 a.2))
def sp_count_ends : Sp := sp2 (α := WS) (fun a H x => WB H x a.1) (fun a H x => TI H x a.2) pWS (fun a _ z => z = .int (endsW a.1 a.2).length)
def sp_least_end : Sp := sp2 (α := WS) (fun a H x => WB H x a.1) (fun a H x => TI H x a.2) pWS (fun a H z => TI H z (peaks a.1 a.2))
def sp_who_can_stand : Sp := sp2 (α := WS) (fun a H x => WB H x a.1) (fun a H x => TI H x a.2) pWS (fun a H z => TI H z (canW a.1 a.2))
def sp_widest_end : Sp := sp2 (α := WS) (fun a H x => WB H x a.1) (fun a H x => TI H x a.2) (fun a => pWS a ∧ endsW a.1 a.2 ≠ []) (fun a H z => ∃ p, PR H z (-p.1, p.2) ∧ IsMin ((endsW a.1 a.2).map fun e => (-lenI e, e)) p)
def sp_most_apart : Sp := sp2 (α := WS) (fun a H x => WB H x a.1) (fun a H x => TI H x a.2) (fun a => pWS a) (fun a H z => ∃ p, PR H z (-p.1, p.2) ∧ IsMin (((choice a.2).filter (apart a.1)).map fun e => (-lenI e, e)) p)
def sp_worth : Sp := sp3 (α := WSG) (fun a H x => WB H x a.1) (fun a H x => TI H x a.2.1) (fun a H x => TI H x a.2.2) (fun a => Good a.1 ∧ Sub a.1.length a.2.1 ∧ Wts a.1 a.2.2) (fun a _ z => z = .int (wsum a.2.2 a.2.1))
def sp_richest_end : Sp := sp3 (α := WSG) (fun a H x => WB H x a.1) (fun a H x => TI H x a.2.1) (fun a H x => TI H x a.2.2) (fun a => Good a.1 ∧ Sub a.1.length a.2.1 ∧ Wts a.1 a.2.2 ∧ endsW a.1 a.2.1 ≠ []) (fun a H z => ∃ p, PR H z (-p.1, p.2) ∧ IsMin ((endsW a.1 a.2.1).map fun e => (-wsum a.2.2 e, e)) p)
def sp_poorest_end : Sp := sp3 (α := WSG) (fun a H x => WB H x a.1) (fun a H x => TI H x a.2.1) (fun a H x => TI H x a.2.2) (fun a => Good a.1 ∧ Sub a.1.length a.2.1 ∧ Wts a.1 a.2.2 ∧ endsW a.1 a.2.1 ≠ []) (fun a H z => ∃ p, PR H z p ∧ IsMin ((endsW a.1 a.2.1).map fun e => (wsum a.2.2 e, e)) p)
def cheapW (W : Wb) (S G ws : Rw) : Int := minI ((tellings W S G).map (wsum ws))
def sp_cheapest_end : Sp := sp3 (α := WSG) (fun a H x => WB H x a.1) (fun a H x => TI H x a.2.1) (fun a H x => TI H x a.2.2) (fun a => Good a.1 ∧ Sub a.1.length a.2.1 ∧ Wts a.1 a.2.2 ∧ endsW a.1 a.2.1 ≠ [] ∧ ∀ e ∈ endsW a.1 a.2.1, tellings a.1 a.2.1 e ≠ []) (fun a H z => ∃ p, PR H z p ∧ IsMin ((endsW a.1 a.2.1).map fun e => (cheapW a.1 a.2.1 e a.2.2, e)) p)
def sp_cheapest_telling : Sp := sp4 (α := Wb × Rw × Rw × Rw) (fun a H x => WB H x a.1) (fun a H x => TI H x a.2.1) (fun a H x => TI H x a.2.2.1) (fun a H x => TI H x a.2.2.2) (fun a => pWSG (a.1, a.2.1, a.2.2.1) ∧ Wts a.1 a.2.2.2 ∧ tellings a.1 a.2.1 a.2.2.1 ≠ []) (fun a H z => ∃ p, PR H z p ∧ IsMin ((tellings a.1 a.2.1 a.2.2.1).map fun r => (wsum a.2.2.2 r, r)) p)
def sp_richest_with : Sp := sp4 (α := Wb × Rw × Rw × Int) (fun a H x => WB H x a.1) (fun a H x => TI H x a.2.1) (fun a H x => TI H x a.2.2.1) (fun a _ x => x = .int a.2.2.2) (fun a => Good a.1 ∧ Sub a.1.length a.2.1 ∧ Wts a.1 a.2.2.1 ∧ 0 ≤ a.2.2.2 ∧ a.2.2.2 < a.1.length)
  (fun a _ z => (z = .non ∧ (endsW a.1 a.2.1).filter (fun e => decide (a.2.2.2 ∈ e)) = []) ∨ ∃ m, z = .int m ∧ m ∈ ((endsW a.1 a.2.1).filter (fun e => decide (a.2.2.2 ∈ e))).map (wsum a.2.2.1) ∧ ∀ k ∈ ((endsW a.1 a.2.1).filter (fun e => decide (a.2.2.2 ∈ e))).map (wsum a.2.2.1), k ≤ m)
theorem d_telling {P : Program} {w : World} {K : PySem.W.Frag} {mg : Str → Option Value} {base : Heap} (B : Bi mg) (D : DefAt K mg "telling" s_telling) (D_need_way : Df P w K mg base "need_way" 6 ["web", "standing", "goal"] sp_need_way) (D_telling_in : Df P w K mg base "telling_in" 3 ["web", "standing", "goal"] sp_telling_in) : Df P w K mg base "telling" 7 ["web", "standing", "goal"] sp_telling := by
  refine df_mk (st := s_telling) D sc_telling (fun _ _ _ _ _ _ us hl => match us, hl with | [_, _, _], _ => rfl) sp3.len fun f cdv A outer s H vs Q E hr h => ?_
  obtain ⟨⟨W, S, G⟩, _, _, _, rfl, hW, hS, hG, ⟨g, hs, hg, hf⟩, k⟩ := h
  refine ⟨_, (pss_cons (ps_expr (pe_callD D_need_way hr rfl (pa_cons (pv 0) (pa_cons (pv 1) (pa_cons (pv 2) pa_nil)))))
      (pss_one (ps_ret (pe_callD D_telling_in (hr.mono (by decide)) rfl (pa_cons (pv 0) (pa_cons (pv 1) (pa_cons (pv 2) pa_nil))))))), ?_⟩
  simp only at hW hS hG g hs hg hf
  refine ⟨_, rfl, _, rfl, _, rfl, (W, S, G), _, _, _, rfl, hW, hS, hG, ⟨g, hs, hg, hf⟩, fun z H1 s1 _ => ?_⟩
  exact ⟨_, rfl, _, rfl, _, rfl, (W, S, G), _, _, _, rfl, hW.mono s1, hS.mono s1, hG.mono s1, ⟨g, hs⟩, fun z2 H2 s2 hz => k _ _ (s1.trans s2) hz⟩
theorem d_distance {P : Program} {w : World} {K : PySem.W.Frag} {mg : Str → Option Value} {base : Heap} (B : Bi mg) (D : DefAt K mg "distance" s_distance) (D_need_way : Df P w K mg base "need_way" 6 ["web", "standing", "goal"] sp_need_way) (D_telling_in : Df P w K mg base "telling_in" 3 ["web", "standing", "goal"] sp_telling_in) : Df P w K mg base "distance" 7 ["web", "standing", "goal"] sp_distance := by
  refine df_mk (st := s_distance) D sc_distance (fun _ _ _ _ _ _ us hl => match us, hl with | [_, _, _], _ => rfl) sp3.len fun f cdv A outer s H vs Q E hr h => ?_
  obtain ⟨⟨W, S, G⟩, _, _, _, rfl, hW, hS, hG, ⟨⟨g, hs, hg, hf⟩, hne⟩, k⟩ := h
  refine ⟨_, (pss_cons (ps_expr (pe_callD D_need_way hr rfl (pa_cons (pv 0) (pa_cons (pv 1) (pa_cons (pv 2) pa_nil)))))
      (pss_one (ps_ret (pe_callB (cr_minI rfl) (by rfl) B.min (by decide +kernel) (pa_cons (pe_lc (own := [("row", 3)]) rfl sc_distance.nd (pi_list (pe_callD D_telling_in (hr.mono (by decide)) rfl (pa_cons (pv 0) (pa_cons (pv 1) (pa_cons (pv 2) pa_nil))))) (blkOk_by (own := [("row", 3)]) (N := ["web", "standing", "goal", "row"]) (sc := defScope s_distance) (by decide +kernel)) (fun _ _ _ _ _ => (pg_name (i := 3) sc_distance.nd rfl (by first | exact Or.inl rfl | exact Or.inr rfl))) (fun _ _ _ _ _ => pts_nil) (fun _ _ _ _ _ => (pe_callB call_lenT (by rfl) B.len (by decide +kernel) (pa_cons (pv 3) pa_nil)))) pa_nil))))), ?_⟩
  simp only at hW hS hG g hs hg hf hne
  refine ⟨_, rfl, _, rfl, _, rfl, (W, S, G), _, _, _, rfl, hW, hS, hG, ⟨g, hs, hg, hf⟩, fun z H1 s1 _ => ?_⟩
  refine ⟨_, rfl, _, rfl, _, rfl, (W, S, G), _, _, _, rfl, hW.mono s1, hS.mono s1, hG.mono s1, ⟨g, hs⟩, fun z2 H2 s2 hz => ?_⟩
  obtain ⟨tl, xs, rfl, hl, hp⟩ := hz
  refine ⟨tl, rfl, ⟨_, SqL.of hl⟩, fun D nD => ?_⟩
  refine cRi hl hp (Nat.le_trans (tellings_le g hs G) (by decide)) (fun _ => true) lenI nD (fun _ _ _ _ _ _ _ q => q _ (Same.refl _)) (fun r x H3 hr hx s3 Qy q => ?_) (fun H3 s3 hl3 => ?_)
  · exact ⟨_, rfl, _, _, rfl, hx, q _ (Same.refl _)⟩
  · rw [filter_true] at hl3
    refine ⟨_, _, rfl, hl3, fun z => hne (List.map_eq_nil_iff.mp z), fun m h1 h2 => ?_⟩
    exact k _ _ ((s1.trans s2).trans s3) (congrArg V.int (minI_eq h1 h2))
theorem d_ends {P : Program} {w : World} {K : PySem.W.Frag} {mg : Str → Option Value} {base : Heap} (B : Bi mg) (D : DefAt K mg "ends" s_ends) (D_need_state : Df P w K mg base "need_state" 4 ["web", "standing"] sp_need_state) (D_ends_in : Df P w K mg base "ends_in" 3 ["web", "standing"] sp_ends_in) : Df P w K mg base "ends" 5 ["web", "standing"] sp_ends := by
  refine df_mk (st := s_ends) D sc_ends (fun _ _ _ _ _ _ us hl => match us, hl with | [_, _], _ => rfl) sp2.len fun f cdv A outer s H vs Q E hr h => ?_
  obtain ⟨⟨W, S⟩, _, _, rfl, hW, hS, ⟨g, hs⟩, k⟩ := h
  refine ⟨_, (pss_cons (ps_expr (pe_callD D_need_state hr rfl (pa_cons (pv 0) (pa_cons (pv 1) pa_nil))))
      (pss_one (ps_ret (pe_callD D_ends_in (hr.mono (by decide)) rfl (pa_cons (pv 0) (pa_cons (pv 1) pa_nil)))))), ?_⟩
  simp only at hW hS g hs
  refine ⟨_, rfl, _, rfl, (W, S), _, _, rfl, hW, hS, ⟨g, hs⟩, fun z H1 s1 _ => ?_⟩
  exact ⟨_, rfl, _, rfl, (W, S), _, _, rfl, hW.mono s1, hS.mono s1, ⟨g, hs⟩, fun z2 H2 s2 hz => k _ _ (s1.trans s2) hz⟩
theorem d_count_ends {P : Program} {w : World} {K : PySem.W.Frag} {mg : Str → Option Value} {base : Heap} (B : Bi mg) (D : DefAt K mg "count_ends" s_count_ends) (D_need_state : Df P w K mg base "need_state" 4 ["web", "standing"] sp_need_state) (D_ends_in : Df P w K mg base "ends_in" 3 ["web", "standing"] sp_ends_in) : Df P w K mg base "count_ends" 5 ["web", "standing"] sp_count_ends := by
  refine df_mk (st := s_count_ends) D sc_count_ends (fun _ _ _ _ _ _ us hl => match us, hl with | [_, _], _ => rfl) sp2.len fun f cdv A outer s H vs Q E hr h => ?_
  obtain ⟨⟨W, S⟩, _, _, rfl, hW, hS, ⟨g, hs⟩, k⟩ := h
  refine ⟨_, (pss_cons (ps_expr (pe_callD D_need_state hr rfl (pa_cons (pv 0) (pa_cons (pv 1) pa_nil))))
      (pss_one (ps_ret (pe_callB call_lenL (by rfl) B.len (by decide +kernel) (pa_cons (pe_callD D_ends_in (hr.mono (by decide)) rfl (pa_cons (pv 0) (pa_cons (pv 1) pa_nil))) pa_nil))))), ?_⟩
  simp only at hW hS g hs
  refine ⟨_, rfl, _, rfl, (W, S), _, _, rfl, hW, hS, ⟨g, hs⟩, fun z H1 s1 _ => ?_⟩
  exact ⟨_, rfl, _, rfl, (W, S), _, _, rfl, hW.mono s1, hS.mono s1, ⟨g, hs⟩, fun z2 H2 s2 hz => ⟨_, _, rfl, hz, k _ _ (s1.trans s2) rfl⟩⟩
theorem d_least_end {P : Program} {w : World} {K : PySem.W.Frag} {mg : Str → Option Value} {base : Heap} (B : Bi mg) (D : DefAt K mg "least_end" s_least_end) (D_need_state : Df P w K mg base "need_state" 4 ["web", "standing"] sp_need_state) (D_peaks_in : Df P w K mg base "peaks_in" 1 ["web", "standing"] sp_peaks_in) : Df P w K mg base "least_end" 5 ["web", "standing"] sp_least_end := by
  refine df_mk (st := s_least_end) D sc_least_end (fun _ _ _ _ _ _ us hl => match us, hl with | [_, _], _ => rfl) sp2.len fun f cdv A outer s H vs Q E hr h => ?_
  obtain ⟨⟨W, S⟩, _, _, rfl, hW, hS, ⟨g, hs⟩, k⟩ := h
  refine ⟨_, (pss_cons (ps_expr (pe_callD D_need_state hr rfl (pa_cons (pv 0) (pa_cons (pv 1) pa_nil))))
      (pss_one (ps_ret (pe_callD D_peaks_in (hr.mono (by decide)) rfl (pa_cons (pv 0) (pa_cons (pv 1) pa_nil)))))), ?_⟩
  simp only at hW hS g hs
  refine ⟨_, rfl, _, rfl, (W, S), _, _, rfl, hW, hS, ⟨g, hs⟩, fun z H1 s1 _ => ?_⟩
  exact ⟨_, rfl, _, rfl, (W, S), _, _, rfl, hW.mono s1, hS.mono s1, ⟨g, hs⟩, fun z2 H2 s2 hz => k _ _ (s1.trans s2) hz⟩
theorem d_who_can_stand {P : Program} {w : World} {K : PySem.W.Frag} {mg : Str → Option Value} {base : Heap} (B : Bi mg) (D : DefAt K mg "who_can_stand" s_who_can_stand) (D_need_state : Df P w K mg base "need_state" 4 ["web", "standing"] sp_need_state) (D_ends_in : Df P w K mg base "ends_in" 3 ["web", "standing"] sp_ends_in) : Df P w K mg base "who_can_stand" 5 ["web", "standing"] sp_who_can_stand := by
  refine df_mk (st := s_who_can_stand) D sc_who_can_stand (fun _ _ _ _ _ _ us hl => match us, hl with | [_, _], _ => rfl) sp2.len fun f cdv A outer s H vs Q E hr h => ?_
  obtain ⟨⟨W, S⟩, _, _, rfl, hW, hS, ⟨g, hs⟩, k⟩ := h
  refine ⟨_, (pss_cons (ps_expr (pe_callD D_need_state hr rfl (pa_cons (pv 0) (pa_cons (pv 1) pa_nil))))
      (pss_cons (ps_set (i := 2) sc_who_can_stand.nd rfl (by first | exact Or.inl rfl | exact Or.inr rfl) (pe_callD D_ends_in (hr.mono (by decide)) rfl (pa_cons (pv 0) (pa_cons (pv 1) pa_nil))))
      (pss_one (ps_ret (pe_callTy call_tupI (by rfl) B.tuple (by decide +kernel) (pa_cons (pe_lc (own := [("person", 3)]) rfl sc_who_can_stand.nd (pi_tup (pv 1)) (blkOk_by (own := [("person", 3)]) (N := ["web", "standing", "some", "person", "end"]) (sc := defScope s_who_can_stand) (by decide +kernel)) (fun _ _ _ _ _ => (pg_name (i := 3) sc_who_can_stand.nd rfl (by first | exact Or.inl rfl | exact Or.inr rfl))) (fun _ _ _ _ _ => pts_one (pt_val (pe_callB (cr_anyB rfl) (by rfl) B.any (by decide +kernel) (pa_cons (pe_lc (own := [("end", 4)]) rfl sc_who_can_stand.nd (pi_listK (K := K) rfl (pv 2)) (blkOk_by (own := [("end", 4)]) (by kernel_rfl)) (fun _ _ _ _ _ => (pg_name (i := 4) sc_who_can_stand.nd rfl (by first | exact Or.inl rfl | exact Or.inr rfl))) (fun _ _ _ _ _ => pts_nil) (fun _ _ _ _ _ => (pe_cmpR op_inI (pv 3) (pv 4) (by rfl)))) pa_nil)))) (fun _ _ _ _ _ => (pv 3))) pa_nil)))))), ?_⟩
  simp only at hW hS g hs
  refine ⟨_, rfl, _, rfl, (W, S), _, _, rfl, hW, hS, ⟨g, hs⟩, fun z H1 s1 _ => ?_⟩
  refine ⟨_, rfl, _, rfl, (W, S), _, _, rfl, hW.mono s1, hS.mono s1, ⟨g, hs⟩, fun z2 H2 s2 hz => ?_⟩
  have hS2 := (hS.mono s1).mono s2
  obtain ⟨t, rfl, ht⟩ := hS2
  refine ⟨_, rfl, t, rfl, ⟨_, SqT.of ht⟩, fun D nD => ?_⟩
  refine cTf ht (hs.line g.le5) (fun p => (endsW W S).any fun e => decide (p ∈ e)) nD (fun n H3 hn s3 Qb q => ?_) (fun _ => rfl) (fun H3 s3 hl => ?_)
  · obtain ⟨tl, xs, rfl, hl, hp⟩ := hz.mono s3
    refine ⟨_, rfl, tl, rfl, ⟨_, SqL.of hl⟩, fun D2 nD2 => ?_⟩
    refine cRb hl hp (Nat.le_trans (ends_le g hs) (by decide)) (fun e => decide (n ∈ e)) nD2 (fun r x H4 hr hx s4 Qy q => ?_) (fun H4 s4 hl4 => ?_)
    · exact ⟨_, rfl, _, rfl, _, _, rfl, hx, q _ (Same.refl _)⟩
    · refine ⟨_, _, rfl, hl4, _, rfl, ?_⟩
      rw [any_map_id]
      exact q _ s4
  · exact ⟨_, _, rfl, hl, fun z H' s' hz => k _ _ (((s1.trans s2).trans s3).trans s') hz⟩
end Ts

set_option Elab.async false
set_option linter.all false
set_option maxRecDepth 100000
set_option maxHeartbeats 4000000
namespace Ts
open PySem PySem.Spec PyProof.Rows L2 StX
theorem TI.at {H : Hp} {x : V} {ns : Rw} (h : TI H x ns) : ∃ t, x = .ref t := let ⟨t, e, _⟩ := h; ⟨t, e⟩
theorem PR.mk {H : Hp} {p : Addr} {n : Int} {x : V} {r : Rw} (np : H p = none) (h : TI H x r) : PR (upd H p (.tup [.int n, x])) (.ref p) (n, r) := ⟨p, x, rfl, upd_same, h.mono (same_new np)⟩
theorem Sub.wts {W : Wb} {S ws : Rw} (h : Sub W.length S) (hw : Wts W ws) : ∀ n ∈ S, 0 ≤ n ∧ n < ws.length := fun n hn => by rw [hw.1]; exact h.2 n hn
theorem Sub.le {n : Nat} {S : Rw} (h : Sub n S) (h5 : n ≤ 5) : S.length ≤ 1000 := Nat.le_trans h.len (Nat.le_trans h5 (by decide))
theorem two_le : 2 ≤ sizeLine := by decide
theorem FillR.snoc {H0 H : Hp} {l : Addr} {rows : List Rw} {xs : List V} {x : V} {r : Rw} (h : FillR H0 l rows H) (hx : H l = some (.lst xs)) (hr : TI H x r) : FillR H0 l (rows ++ [r]) (upd H l (.lst (xs ++ [x]))) := h.app hx (.cons hr .nil)
/-- while a list of pairs is filled at l -/
structure FillP (H0 : Hp) (l : Addr) (ps : List (Int × Rw)) (H : Hp) : Prop where
  sm : Same H0 H
  nl : H0 l = none
  at_ : ∃ xs, H l = some (.lst xs) ∧ Paired (PR H) xs ps
theorem FillP.new {H0 : Hp} {l : Addr} (h : H0 l = none) : FillP H0 l [] (upd H0 l (.lst [])) := ⟨same_new h, h, [], upd_same, .nil⟩
theorem FillP.mono {H0 H H' : Hp} {l : Addr} {ps : List (Int × Rw)} (h : FillP H0 l ps H) (s : Same H H') : FillP H0 l ps H' :=
  let ⟨xs, h1, h2⟩ := h.at_
  ⟨h.sm.trans s, h.nl, xs, s _ _ h1, pPR.mono s h2⟩
theorem FillP.snoc {H0 H : Hp} {l : Addr} {ps : List (Int × Rw)} {xs : List V} {x : V} {p : Int × Rw} (h : FillP H0 l ps H) (hx : H l = some (.lst xs)) (hr : PR H x p) : FillP H0 l (ps ++ [p]) (upd H l (.lst (xs ++ [x]))) := by
  obtain ⟨ys, h1, h2⟩ := h.at_
  rw [hx] at h1
  cases h1
  refine ⟨same_upd h.sm h.nl, h.nl, _, upd_same, Paired.app (L2.Paired.mapP h2 fun _ _ q => q.monoT (sameT_put hx)) (.cons (hr.monoT (sameT_put hx)) .nil)⟩
theorem FillP.lp {H0 H : Hp} {l : Addr} {ps : List (Int × Rw)} (h : FillP H0 l ps H) : LP H (.ref l) ps := let ⟨xs, h1, h2⟩ := h.at_; ⟨l, xs, rfl, h1, h2⟩
theorem tTup_i {t : TA} {σ : L2.St} {H : Hp} {Q : VK} (h : t σ H fun xs H1 => xs.length ≤ sizeLine ∧ ∀ p, H1 p = none → Q (.ref p) (upd H1 p (.tup xs))) : tTup t σ H Q := h
theorem tCons_i {ta : TE} {tr : TA} {σ : L2.St} {H : Hp} {Q : List V → Hp → Prop} (h : ta σ H fun x H1 => tr σ H1 fun xs H2 => Q (x :: xs) H2) : tCons ta tr σ H Q := h
theorem tUn_i {r : V → Hp → VK → Prop} {ta : TE} {σ : L2.St} {H : Hp} {Q : VK} (h : ta σ H fun x H1 => r x H1 Q) : tUn r ta σ H Q := h
theorem tCB_i {r : List V → Hp → VK → Prop} {t : TA} {σ : L2.St} {H : Hp} {Q : VK} (h : t σ H fun vs H1 => r vs H1 Q) : tCB r t σ H Q := h
theorem d_least_telling {P : Program} {w : World} {K : PySem.W.Frag} {mg : Str → Option Value} {base : Heap} (B : Bi mg) (D : DefAt K mg "least_telling" s_least_telling) (D_need_way : Df P w K mg base "need_way" 6 ["web", "standing", "goal"] sp_need_way) (D_telling_in : Df P w K mg base "telling_in" 3 ["web", "standing", "goal"] sp_telling_in) : Df P w K mg base "least_telling" 7 ["web", "standing", "goal"] sp_least_telling := by
  refine df_mk (st := s_least_telling) D sc_least_telling (fun _ _ _ _ _ _ us hl => match us, hl with | [_, _, _], _ => rfl) sp3.len fun f cdv A outer s H vs Q E hr h => ?_
  obtain ⟨⟨W, S, G⟩, x1, x2, x3, rfl, hW, hS, hG, ⟨⟨g, hs, hg, hf⟩, hne⟩, k⟩ := h
  refine ⟨_, (pss_cons (ps_expr (pe_callD D_need_way hr rfl (pa_cons (pv 0) (pa_cons (pv 1) (pa_cons (pv 2) pa_nil)))))
      (pss_cons (ps_set (i := 3) sc_least_telling.nd rfl (by first | exact Or.inl rfl | exact Or.inr rfl) (pe_callD D_telling_in (hr.mono (by decide)) rfl (pa_cons (pv 0) (pa_cons (pv 1) (pa_cons (pv 2) pa_nil)))))
      (pss_cons (ps_set (i := 4) sc_least_telling.nd rfl (by first | exact Or.inl rfl | exact Or.inr rfl) (pe_callB (cr_minI rfl) (by rfl) B.min (by decide +kernel) (pa_cons (pe_lc (own := [("row", 6)]) rfl sc_least_telling.nd (pi_list (pv 3)) (blkOk_by (own := [("row", 6)]) (N := ["web", "standing", "goal", "some", "few", "found", "row"]) (sc := defScope s_least_telling) (by decide +kernel)) (fun _ _ _ _ _ => (pg_name (i := 6) sc_least_telling.nd rfl (by first | exact Or.inl rfl | exact Or.inr rfl))) (fun _ _ _ _ _ => pts_nil) (fun _ _ _ _ _ => (pe_callB call_lenT (by rfl) B.len (by decide +kernel) (pa_cons (pv 6) pa_nil)))) pa_nil)))
      (pss_cons (ps_set (i := 5) sc_least_telling.nd rfl (by first | exact Or.inl rfl | exact Or.inr rfl) (pe_lst pa_nil))
      (pss_cons (ps_for PassesOwn.never rfl (pi_list (pv 3)) (pg_name (i := 6) sc_least_telling.nd rfl (by first | exact Or.inl rfl | exact Or.inr rfl)) (pss_one (ps_if (pt_cmpR op_eq (pe_callB call_lenT (by rfl) B.len (by decide +kernel) (pa_cons (pv 6) pa_nil)) (pv 4) (nomark _)) (pss_one (ps_expr (pe_bm PySem.F.plainAttrs_list PySem.F.slot_list_append PySem.F.type_list_append mt_append (pv 5) (pa_cons (pv 6) pa_nil)))) pss_nil)))
      (pss_one (ps_ret (pv 5)))))))), ?_⟩
  simp only at hW hS hG g hs hg hf hne
  refine ⟨_, rfl, _, rfl, _, rfl, (W, S, G), _, _, _, rfl, hW, hS, hG, ⟨g, hs, hg, hf⟩, fun z H1 s1 _ => ?_⟩
  refine ⟨_, rfl, _, rfl, _, rfl, (W, S, G), _, _, _, rfl, hW.mono s1, hS.mono s1, hG.mono s1, ⟨g, hs⟩, fun z2 H2 s2 hz => ?_⟩
  obtain ⟨tl, xs, rfl, hl, hp⟩ := hz
  have le := tellings_le g hs G
  refine ⟨_, rfl, tl, rfl, ⟨_, SqL.of hl⟩, fun D nD => ?_⟩
  refine cRi hl hp (Nat.le_trans le (by decide)) (fun _ => true) lenI nD (fun _ _ _ _ _ _ _ q => q _ (Same.refl _)) (fun r x H3 hr hx s3 Qy q => ?_) (fun H3 s3 hl3 => ?_)
  · exact ⟨_, rfl, _, _, rfl, hx, q _ (Same.refl _)⟩
  · rw [filter_true] at hl3
    refine ⟨_, _, rfl, hl3, fun z => hne (List.map_eq_nil_iff.mp z), fun m h1 h2 => ?_⟩
    have em := minI_eq h1 h2
    refine ⟨Nat.zero_le _, fun l nl => ?_⟩
    have s3n : Same H3 (upd H3 l (.lst [])) := same_new nl
    refine ⟨_, rfl, tl, rfl, ⟨_, SqL.of (s3n _ _ (s3 _ _ hl))⟩, ?_⟩
    refine forL (as := tellings W S G) (S0 := fun r x => TI H3 x r) (p_flip (pTI.mono s3 hp)) (fun done σ H' => ∃ v, σ = [some x1, some x2, some x3, some (.ref tl), some (.int m), some (.ref l), v] ∧ FillR H3 l (done.filter fun r => decide (lenI r = m)) H') ⟨none, rfl, FillR.new nl⟩ (fun d σ H' ⟨v, e, F⟩ => SqL.of (F.sm _ _ (s3 _ _ hl))) ?_ ?_
    · rintro done r x σ H' ⟨rr, er⟩ hx ⟨v, rfl, F⟩
      have hx' := hx.mono F.sm
      refine ⟨_, rfl, _, _, rfl, hx', _, rfl, rfl, _, rfl, ?_⟩
      have ed := filter_snoc (fun r => decide (lenI r = m)) done r
      have e2 : decide (V.int (r.length : Nat) = V.int m) = decide (lenI r = m) := decide_eq_decide.mpr ⟨fun h => by injection h, fun h => congrArg V.int h⟩
      rw [e2]
      refine if_dec (fun c => ?_) (fun c => ?_)
      · obtain ⟨ys, h3, h4⟩ := F.at_
        refine ⟨_, rfl, .inl ⟨rfl, _, SqL.of h3⟩, _, rfl, l, _, _, rfl, rfl, h3, ?_, _, rfl, ?_⟩
        · rw [Paired.length h4]
          exact Nat.lt_of_lt_of_le (part_len er _) (line32 (Nat.le_trans le (by decide)))
        · rw [ed, if_pos (decide_eq_true c)]
          exact F.snoc h3 hx'
      · refine ⟨_, rfl, ?_⟩
        rw [ed, if_neg (by rw [decide_eq_false c]; decide)]
        exact F
    · rintro σ H' ⟨v, rfl, F⟩
      refine ⟨_, rfl, k _ _ (((s1.trans s2).trans s3).trans F.sm) ?_⟩
      have := F.lt
      rw [em] at this
      exact this
theorem d_widest_end {P : Program} {w : World} {K : PySem.W.Frag} {mg : Str → Option Value} {base : Heap} (B : Bi mg) (D : DefAt K mg "widest_end" s_widest_end) (D_need_state : Df P w K mg base "need_state" 4 ["web", "standing"] sp_need_state) (D_ends_in : Df P w K mg base "ends_in" 3 ["web", "standing"] sp_ends_in) : Df P w K mg base "widest_end" 5 ["web", "standing"] sp_widest_end := by
  refine df_mk (st := s_widest_end) D sc_widest_end (fun _ _ _ _ _ _ us hl => match us, hl with | [_, _], _ => rfl) sp2.len fun f cdv A outer s H vs Q E hr h => ?_
  obtain ⟨⟨W, S⟩, _, _, rfl, hW, hS, ⟨⟨g, hs⟩, hne⟩, k⟩ := h
  refine ⟨_, (pss_cons (ps_expr (pe_callD D_need_state hr rfl (pa_cons (pv 0) (pa_cons (pv 1) pa_nil))))
      (pss_cons (ps_asg (pe_callB (cr_minP rfl (hu65 hr)) (by rfl) B.min (by decide +kernel) (pa_cons (pe_lc (own := [("end", 3)]) rfl sc_widest_end.nd (pi_list (pe_callD D_ends_in (hr.mono (by decide)) rfl (pa_cons (pv 0) (pa_cons (pv 1) pa_nil)))) (blkOk_by (own := [("end", 3)]) (N := ["web", "standing", "many", "end"]) (sc := defScope s_widest_end) (by decide +kernel)) (fun _ _ _ _ _ => (pg_name (i := 3) sc_widest_end.nd rfl (by first | exact Or.inl rfl | exact Or.inr rfl))) (fun _ _ _ _ _ => pts_nil) (fun _ _ _ _ _ => (pe_tup (pa_cons (pe_un un_neg (pe_callB call_lenT (by rfl) B.len (by decide +kernel) (pa_cons (pv 3) pa_nil))) (pa_cons (pv 3) pa_nil))))) pa_nil)) (pg_tup rfl (pgs_cons (pg_name (i := 2) sc_widest_end.nd rfl (by first | exact Or.inl rfl | exact Or.inr rfl)) (pgs_cons (pg_name (i := 3) sc_widest_end.nd rfl (by first | exact Or.inl rfl | exact Or.inr rfl)) pgs_nil))))
      (pss_one (ps_ret (pe_tup (pa_cons (pe_un un_neg (pv 2)) (pa_cons (pv 3) pa_nil))))))), ?_⟩
  simp only at hW hS g hs hne
  refine ⟨_, rfl, _, rfl, (W, S), _, _, rfl, hW, hS, ⟨g, hs⟩, fun z H1 s1 _ => ?_⟩
  refine ⟨_, rfl, _, rfl, (W, S), _, _, rfl, hW.mono s1, hS.mono s1, ⟨g, hs⟩, fun z2 H2 s2 hz => ?_⟩
  obtain ⟨tl, xs, rfl, hl, hp⟩ := hz
  refine ⟨tl, rfl, ⟨_, SqL.of hl⟩, fun D nD => ?_⟩
  refine cRp hl hp (Nat.le_trans (ends_le g hs) (by decide)) (fun _ => true) (fun e => (-lenI e, e)) nD (fun _ _ _ _ _ _ _ q => q _ (Same.refl _)) (fun r x H3 hr hx s3 Qy q => ?_) (fun H3 s3 hl3 => ?_)
  · exact ⟨_, rfl, _, _, rfl, hx, _, rfl, _, rfl, two_le, fun p np => q _ _ (same_new np) (PR.mk np hx)⟩
  · rw [filter_true] at hl3
    refine ⟨_, _, rfl, hl3, fun z => hne (List.map_eq_nil_iff.mp z), fun y p hy hm => ?_⟩
    obtain ⟨tp, q, rfl, e1, e2⟩ := hy
    refine ⟨tp, _, rfl, SqT.of e1, rfl, _, _, rfl, _, _, rfl, rfl, ?_⟩
    refine ⟨_, rfl, _, rfl, _, rfl, two_le, fun p2 np => ?_⟩
    exact k _ _ (((s1.trans s2).trans s3).trans (same_new np)) ⟨p, PR.mk np e2, hm⟩
theorem d_most_apart {P : Program} {w : World} {K : PySem.W.Frag} {mg : Str → Option Value} {base : Heap} (B : Bi mg) (D : DefAt K mg "most_apart" s_most_apart) (D_need_state : Df P w K mg base "need_state" 4 ["web", "standing"] sp_need_state) (D_apart_in : Df P w K mg base "apart_in" 1 ["web", "people"] sp_apart_in) (D_choices : Df P w K mg base "choices" 1 ["people"] sp_choices) : Df P w K mg base "most_apart" 5 ["web", "standing"] sp_most_apart := by
  refine df_mk (st := s_most_apart) D sc_most_apart (fun _ _ _ _ _ _ us hl => match us, hl with | [_, _], _ => rfl) sp2.len fun f cdv A outer s H vs Q E hr h => ?_
  obtain ⟨⟨W, S⟩, _, _, rfl, hW, hS, ⟨g, hs⟩, k⟩ := h
  refine ⟨_, (pss_cons (ps_expr (pe_callD D_need_state hr rfl (pa_cons (pv 0) (pa_cons (pv 1) pa_nil))))
      (pss_cons (ps_asg (pe_callB (cr_minP rfl (hu65 hr)) (by rfl) B.min (by decide +kernel) (pa_cons (pe_lc (own := [("row", 3)]) rfl sc_most_apart.nd (pi_list (pe_callD D_choices (hr.mono (by decide)) rfl (pa_cons (pv 1) pa_nil))) (blkOk_by (own := [("row", 3)]) (N := ["web", "standing", "many", "row"]) (sc := defScope s_most_apart) (by decide +kernel)) (fun _ _ _ _ _ => (pg_name (i := 3) sc_most_apart.nd rfl (by first | exact Or.inl rfl | exact Or.inr rfl))) (fun _ _ _ _ _ => pts_one (pt_val (pe_callD D_apart_in (hr.mono (by decide)) rfl (pa_cons (pv 0) (pa_cons (pv 3) pa_nil))))) (fun _ _ _ _ _ => (pe_tup (pa_cons (pe_un un_neg (pe_callB call_lenT (by rfl) B.len (by decide +kernel) (pa_cons (pv 3) pa_nil))) (pa_cons (pv 3) pa_nil))))) pa_nil)) (pg_tup rfl (pgs_cons (pg_name (i := 2) sc_most_apart.nd rfl (by first | exact Or.inl rfl | exact Or.inr rfl)) (pgs_cons (pg_name (i := 3) sc_most_apart.nd rfl (by first | exact Or.inl rfl | exact Or.inr rfl)) pgs_nil))))
      (pss_one (ps_ret (pe_tup (pa_cons (pe_un un_neg (pv 2)) (pa_cons (pv 3) pa_nil))))))), ?_⟩
  simp only at hW hS g hs
  refine ⟨_, rfl, _, rfl, (W, S), _, _, rfl, hW, hS, ⟨g, hs⟩, fun z H1 s1 _ => ?_⟩
  refine ⟨_, rfl, S, _, rfl, hS.mono s1, Nat.le_trans hs.len g.le5, fun z2 H2 s2 hz => ?_⟩
  obtain ⟨tl, xs, rfl, hl, hp⟩ := hz
  refine ⟨tl, rfl, ⟨_, SqL.of hl⟩, fun D nD => ?_⟩
  refine cRp hl hp (Nat.le_trans (choice_le hs g.le5) (by decide)) (apart W) (fun e => (-lenI e, e)) nD (fun r x H3 hr hx s3 Qb q => ?_) (fun r x H3 hr hx s3 Qy q => ?_) (fun H3 s3 hl3 => ?_)
  · refine ⟨_, rfl, _, rfl, (W, r), _, _, rfl, ((hW.mono s1).mono s2).mono s3, hx, ⟨g, hs.choice hr⟩, fun z5 H5 s5 hz5 => ?_⟩
    obtain rfl : z5 = .bl (apart W r) := hz5
    exact ⟨_, rfl, q _ s5⟩
  · exact ⟨_, rfl, _, _, rfl, hx, _, rfl, _, rfl, two_le, fun p np => q _ _ (same_new np) (PR.mk np hx)⟩
  · have ne : (choice S).filter (apart W) ≠ [] := fun z => by
      have : [] ∈ (choice S).filter (apart W) := List.mem_filter.mpr ⟨mem_choice.mpr (List.nil_sublist _), rfl⟩
      rw [z] at this
      cases this
    refine ⟨_, _, rfl, hl3, fun z => ne (List.map_eq_nil_iff.mp z), fun y p hy hm => ?_⟩
    obtain ⟨tp, q, rfl, e1, e2⟩ := hy
    refine ⟨tp, _, rfl, SqT.of e1, rfl, _, _, rfl, _, _, rfl, rfl, ?_⟩
    refine ⟨_, rfl, _, rfl, _, rfl, two_le, fun p2 np => ?_⟩
    exact k _ _ (((s1.trans s2).trans s3).trans (same_new np)) ⟨p, PR.mk np e2, hm⟩
theorem d_worth {P : Program} {w : World} {K : PySem.W.Frag} {mg : Str → Option Value} {base : Heap} (B : Bi mg) (D : DefAt K mg "worth" s_worth) (D_need_state : Df P w K mg base "need_state" 4 ["web", "standing"] sp_need_state) (D_need_weights : Df P w K mg base "need_weights" 3 ["web", "weights"] sp_need_weights) : Df P w K mg base "worth" 5 ["web", "standing", "weights"] sp_worth := by
  refine df_mk (st := s_worth) D sc_worth (fun _ _ _ _ _ _ us hl => match us, hl with | [_, _, _], _ => rfl) sp3.len fun f cdv A outer s H vs Q E hr h => ?_
  obtain ⟨⟨W, S, ws⟩, _, _, _, rfl, hW, hS, hw, ⟨g, hs, hwt⟩, k⟩ := h
  refine ⟨_, (pss_cons (ps_expr (pe_callD D_need_state hr rfl (pa_cons (pv 0) (pa_cons (pv 1) pa_nil))))
      (pss_cons (ps_expr (pe_callD D_need_weights (hr.mono (by decide)) rfl (pa_cons (pv 0) (pa_cons (pv 2) pa_nil))))
      (pss_one (ps_ret (pe_callB (cr_sumI rfl) (by rfl) B.sum (by decide +kernel) (pa_cons (pe_lc (own := [("person", 3)]) rfl sc_worth.nd (pi_tup (pv 1)) (blkOk_by (own := [("person", 3)]) (N := ["web", "standing", "weights", "person"]) (sc := defScope s_worth) (by decide +kernel)) (fun _ _ _ _ _ => (pg_name (i := 3) sc_worth.nd rfl (by first | exact Or.inl rfl | exact Or.inr rfl))) (fun _ _ _ _ _ => pts_nil) (fun _ _ _ _ _ => (pe_ix ix_TI (pv 2) (pv 3) (fun _ _ => rfl)))) pa_nil)))))), ?_⟩
  simp only at hW hS hw g hs hwt
  refine ⟨_, rfl, _, rfl, (W, S), _, _, rfl, hW, hS, ⟨g, hs⟩, fun z H1 s1 _ => ?_⟩
  refine ⟨_, rfl, _, rfl, (W, ws), _, _, rfl, hW.mono s1, hw.mono s1, hwt, fun z2 H2 s2 _ => ?_⟩
  have s12 := s1.trans s2
  exact rdSum rfl (hS.mono s12) (fun _ => rfl) (hw.mono s12) (fun _ => rfl) (hs.wts hwt) (hs.le g.le5) fun H3 s3 => k _ _ (s12.trans s3) rfl
theorem d_richest_end {P : Program} {w : World} {K : PySem.W.Frag} {mg : Str → Option Value} {base : Heap} (B : Bi mg) (D : DefAt K mg "richest_end" s_richest_end) (D_need_state : Df P w K mg base "need_state" 4 ["web", "standing"] sp_need_state) (D_ends_in : Df P w K mg base "ends_in" 3 ["web", "standing"] sp_ends_in) (D_need_weights : Df P w K mg base "need_weights" 3 ["web", "weights"] sp_need_weights) : Df P w K mg base "richest_end" 5 ["web", "standing", "weights"] sp_richest_end := by
  refine df_mk (st := s_richest_end) D sc_richest_end (fun _ _ _ _ _ _ us hl => match us, hl with | [_, _, _], _ => rfl) sp3.len fun f cdv A outer s H vs Q E hr h => ?_
  obtain ⟨⟨W, S, ws⟩, _, _, _, rfl, hW, hS, hw, ⟨g, hs, hwt, hne⟩, k⟩ := h
  refine ⟨_, (pss_cons (ps_expr (pe_callD D_need_state hr rfl (pa_cons (pv 0) (pa_cons (pv 1) pa_nil))))
      (pss_cons (ps_expr (pe_callD D_need_weights (hr.mono (by decide)) rfl (pa_cons (pv 0) (pa_cons (pv 2) pa_nil))))
      (pss_cons (ps_asg (pe_callB (cr_minP rfl (hu65 hr)) (by rfl) B.min (by decide +kernel) (pa_cons (pe_lc (own := [("end", 4)]) rfl sc_richest_end.nd (pi_list (pe_callD D_ends_in (hr.mono (by decide)) rfl (pa_cons (pv 0) (pa_cons (pv 1) pa_nil)))) (blkOk_by (own := [("end", 4)]) (N := ["web", "standing", "weights", "many", "end", "person"]) (sc := defScope s_richest_end) (by decide +kernel)) (fun _ _ _ _ _ => (pg_name (i := 4) sc_richest_end.nd rfl (by first | exact Or.inl rfl | exact Or.inr rfl))) (fun _ _ _ _ _ => pts_nil) (fun _ _ _ _ _ => (pe_tup (pa_cons (pe_un un_neg (pe_callB (cr_sumI rfl) (by rfl) B.sum (by decide +kernel) (pa_cons (pe_lc (own := [("person", 5)]) rfl sc_richest_end.nd (pi_tupK (K := K) rfl (pv 4)) (blkOk_by (own := [("person", 5)]) (by kernel_rfl)) (fun _ _ _ _ _ => (pg_name (i := 5) sc_richest_end.nd rfl (by first | exact Or.inl rfl | exact Or.inr rfl))) (fun _ _ _ _ _ => pts_nil) (fun _ _ _ _ _ => (pe_ix ix_TI (pv 2) (pv 5) (fun _ _ => rfl)))) pa_nil))) (pa_cons (pv 4) pa_nil))))) pa_nil)) (pg_tup rfl (pgs_cons (pg_name (i := 3) sc_richest_end.nd rfl (by first | exact Or.inl rfl | exact Or.inr rfl)) (pgs_cons (pg_name (i := 4) sc_richest_end.nd rfl (by first | exact Or.inl rfl | exact Or.inr rfl)) pgs_nil))))
      (pss_one (ps_ret (pe_tup (pa_cons (pe_un un_neg (pv 3)) (pa_cons (pv 4) pa_nil)))))))), ?_⟩
  simp only at hW hS hw g hs hwt hne
  refine ⟨_, rfl, _, rfl, (W, S), _, _, rfl, hW, hS, ⟨g, hs⟩, fun z H1 s1 _ => ?_⟩
  refine ⟨_, rfl, _, rfl, (W, ws), _, _, rfl, hW.mono s1, hw.mono s1, hwt, fun z2 H2 s2 _ => ?_⟩
  have s12 := s1.trans s2
  refine ⟨_, rfl, _, rfl, (W, S), _, _, rfl, hW.mono s12, hS.mono s12, ⟨g, hs⟩, fun z2 H3 s3 hz => ?_⟩
  obtain ⟨tl, xs, rfl, hl, hp⟩ := hz
  refine ⟨tl, rfl, ⟨_, SqL.of hl⟩, fun D nD => ?_⟩
  refine cRp hl hp (Nat.le_trans (ends_le g hs) (by decide)) (fun _ => true) (fun e => (-wsum ws e, e)) nD (fun _ _ _ _ _ _ _ q => q _ (Same.refl _)) (fun r x H4 hr hx s4 Qy q => ?_) (fun H4 s4 hl4 => ?_)
  · have hr' := ends_sub hs hr
    refine tTup_i (tCons_i (tUn_i (rdSum rfl hx (fun _ => rfl) (((hw.mono s12).mono s3).mono s4) (fun _ => rfl) (hr'.wts hwt) (hr'.le g.le5) fun H5 s5 => ?_)))
    exact ⟨_, rfl, _, rfl, two_le, fun p np => q _ _ (s5.trans (same_new np)) (PR.mk np (hx.mono s5))⟩
  · rw [filter_true] at hl4
    refine ⟨_, _, rfl, hl4, fun z => hne (List.map_eq_nil_iff.mp z), fun y p hy hm => ?_⟩
    obtain ⟨tp, q, rfl, e1, e2⟩ := hy
    refine ⟨tp, _, rfl, SqT.of e1, rfl, _, _, rfl, _, _, rfl, rfl, ?_⟩
    refine ⟨_, rfl, _, rfl, _, rfl, two_le, fun p2 np => ?_⟩
    exact k _ _ (((s12.trans s3).trans s4).trans (same_new np)) ⟨p, PR.mk np e2, hm⟩
theorem d_poorest_end {P : Program} {w : World} {K : PySem.W.Frag} {mg : Str → Option Value} {base : Heap} (B : Bi mg) (D : DefAt K mg "poorest_end" s_poorest_end) (D_need_state : Df P w K mg base "need_state" 4 ["web", "standing"] sp_need_state) (D_ends_in : Df P w K mg base "ends_in" 3 ["web", "standing"] sp_ends_in) (D_need_weights : Df P w K mg base "need_weights" 3 ["web", "weights"] sp_need_weights) : Df P w K mg base "poorest_end" 5 ["web", "standing", "weights"] sp_poorest_end := by
  refine df_mk (st := s_poorest_end) D sc_poorest_end (fun _ _ _ _ _ _ us hl => match us, hl with | [_, _, _], _ => rfl) sp3.len fun f cdv A outer s H vs Q E hr h => ?_
  obtain ⟨⟨W, S, ws⟩, _, _, _, rfl, hW, hS, hw, ⟨g, hs, hwt, hne⟩, k⟩ := h
  refine ⟨_, (pss_cons (ps_expr (pe_callD D_need_state hr rfl (pa_cons (pv 0) (pa_cons (pv 1) pa_nil))))
      (pss_cons (ps_expr (pe_callD D_need_weights (hr.mono (by decide)) rfl (pa_cons (pv 0) (pa_cons (pv 2) pa_nil))))
      (pss_one (ps_ret (pe_callB (cr_minP rfl (hu65 hr)) (by rfl) B.min (by decide +kernel) (pa_cons (pe_lc (own := [("end", 3)]) rfl sc_poorest_end.nd (pi_list (pe_callD D_ends_in (hr.mono (by decide)) rfl (pa_cons (pv 0) (pa_cons (pv 1) pa_nil)))) (blkOk_by (own := [("end", 3)]) (N := ["web", "standing", "weights", "end", "person"]) (sc := defScope s_poorest_end) (by decide +kernel)) (fun _ _ _ _ _ => (pg_name (i := 3) sc_poorest_end.nd rfl (by first | exact Or.inl rfl | exact Or.inr rfl))) (fun _ _ _ _ _ => pts_nil) (fun _ _ _ _ _ => (pe_tup (pa_cons (pe_callB (cr_sumI rfl) (by rfl) B.sum (by decide +kernel) (pa_cons (pe_lc (own := [("person", 4)]) rfl sc_poorest_end.nd (pi_tupK (K := K) rfl (pv 3)) (blkOk_by (own := [("person", 4)]) (by kernel_rfl)) (fun _ _ _ _ _ => (pg_name (i := 4) sc_poorest_end.nd rfl (by first | exact Or.inl rfl | exact Or.inr rfl))) (fun _ _ _ _ _ => pts_nil) (fun _ _ _ _ _ => (pe_ix ix_TI (pv 2) (pv 4) (fun _ _ => rfl)))) pa_nil)) (pa_cons (pv 3) pa_nil))))) pa_nil)))))), ?_⟩
  simp only at hW hS hw g hs hwt hne
  refine ⟨_, rfl, _, rfl, (W, S), _, _, rfl, hW, hS, ⟨g, hs⟩, fun z H1 s1 _ => ?_⟩
  refine ⟨_, rfl, _, rfl, (W, ws), _, _, rfl, hW.mono s1, hw.mono s1, hwt, fun z2 H2 s2 _ => ?_⟩
  have s12 := s1.trans s2
  refine ⟨_, rfl, _, rfl, (W, S), _, _, rfl, hW.mono s12, hS.mono s12, ⟨g, hs⟩, fun z2 H3 s3 hz => ?_⟩
  obtain ⟨tl, xs, rfl, hl, hp⟩ := hz
  refine ⟨tl, rfl, ⟨_, SqL.of hl⟩, fun D nD => ?_⟩
  refine cRp hl hp (Nat.le_trans (ends_le g hs) (by decide)) (fun _ => true) (fun e => (wsum ws e, e)) nD (fun _ _ _ _ _ _ _ q => q _ (Same.refl _)) (fun r x H4 hr hx s4 Qy q => ?_) (fun H4 s4 hl4 => ?_)
  · have hr' := ends_sub hs hr
    refine tTup_i (tCons_i (rdSum rfl hx (fun _ => rfl) (((hw.mono s12).mono s3).mono s4) (fun _ => rfl) (hr'.wts hwt) (hr'.le g.le5) fun H5 s5 => ?_))
    exact ⟨_, rfl, two_le, fun p np => q _ _ (s5.trans (same_new np)) (PR.mk np (hx.mono s5))⟩
  · rw [filter_true] at hl4
    refine ⟨_, _, rfl, hl4, fun z => hne (List.map_eq_nil_iff.mp z), fun y p hy hm => ?_⟩
    exact k _ _ ((s12.trans s3).trans s4) ⟨p, hy, hm⟩
end Ts

set_option Elab.async false
set_option linter.all false
set_option maxRecDepth 100000
set_option maxHeartbeats 4000000
namespace Ts
open PySem PySem.Spec PyProof.Rows L2 StX
theorem Same.tT {H H' : Hp} (s : Same H H') : SameT H H' := fun b xs h => s b _ h
theorem d_cheapest_telling {P : Program} {w : World} {K : PySem.W.Frag} {mg : Str → Option Value} {base : Heap} (B : Bi mg) (D : DefAt K mg "cheapest_telling" s_cheapest_telling) (D_need_two : Df P w K mg base "need_two" 5 ["web", "standing", "goal"] sp_need_two) (D_need_way : Df P w K mg base "need_way" 6 ["web", "standing", "goal"] sp_need_way) (D_telling_in : Df P w K mg base "telling_in" 3 ["web", "standing", "goal"] sp_telling_in) (D_need_weights : Df P w K mg base "need_weights" 3 ["web", "weights"] sp_need_weights) : Df P w K mg base "cheapest_telling" 7 ["web", "standing", "goal", "weights"] sp_cheapest_telling := by
  refine df_mk (st := s_cheapest_telling) D sc_cheapest_telling (fun _ _ _ _ _ _ us hl => match us, hl with | [_, _, _, _], _ => rfl) sp4.len fun f cdv A outer s H vs Q E hr h => ?_
  obtain ⟨⟨W, S, G, ws⟩, x1, x2, x3, x4, rfl, hW, hS, hG, hw, ⟨⟨g, hs, hg, hf⟩, hwt, hne⟩, k⟩ := h
  refine ⟨_, (pss_cons (ps_expr (pe_callD D_need_two (hr.mono (by decide)) rfl (pa_cons (pv 0) (pa_cons (pv 1) (pa_cons (pv 2) pa_nil)))))
      (pss_cons (ps_expr (pe_callD D_need_weights (hr.mono (by decide)) rfl (pa_cons (pv 0) (pa_cons (pv 3) pa_nil))))
      (pss_cons (ps_expr (pe_callD D_need_way hr rfl (pa_cons (pv 0) (pa_cons (pv 1) (pa_cons (pv 2) pa_nil)))))
      (pss_cons (ps_set (i := 4) sc_cheapest_telling.nd rfl (by first | exact Or.inl rfl | exact Or.inr rfl) (pe_lst pa_nil))
      (pss_cons (ps_for PassesOwn.never rfl (pi_list (pe_callD D_telling_in (hr.mono (by decide)) rfl (pa_cons (pv 0) (pa_cons (pv 1) (pa_cons (pv 2) pa_nil))))) (pg_name (i := 5) sc_cheapest_telling.nd rfl (by first | exact Or.inl rfl | exact Or.inr rfl)) (pss_one (ps_expr (pe_bm PySem.F.plainAttrs_list PySem.F.slot_list_append PySem.F.type_list_append mt_append (pv 4) (pa_cons (pe_tup (pa_cons (pe_callB (cr_sumI rfl) (by rfl) B.sum (by decide +kernel) (pa_cons (pe_lc (own := [("person", 6)]) rfl sc_cheapest_telling.nd (pi_tup (pv 5)) (blkOk_by (own := [("person", 6)]) (N := ["web", "standing", "goal", "weights", "found", "row", "person"]) (sc := defScope s_cheapest_telling) (by decide +kernel)) (fun _ _ _ _ _ => (pg_name (i := 6) sc_cheapest_telling.nd rfl (by first | exact Or.inl rfl | exact Or.inr rfl))) (fun _ _ _ _ _ => pts_nil) (fun _ _ _ _ _ => (pe_ix ix_TI (pv 3) (pv 6) (fun _ _ => rfl)))) pa_nil)) (pa_cons (pv 5) pa_nil))) pa_nil)))))
      (pss_one (ps_ret (pe_callB (cr_minP rfl (hu65 hr)) (by rfl) B.min (by decide +kernel) (pa_cons (pv 4) pa_nil))))))))), ?_⟩
  simp only at hW hS hG hw g hs hg hf hwt hne
  refine ⟨_, rfl, _, rfl, _, rfl, (W, S, G), _, _, _, rfl, hW, hS, hG, ⟨g, hs, hg⟩, fun z H1 s1 _ => ?_⟩
  refine ⟨_, rfl, _, rfl, (W, ws), _, _, rfl, hW.mono s1, hw.mono s1, hwt, fun z H2 s2 _ => ?_⟩
  have s12 := s1.trans s2
  refine ⟨_, rfl, _, rfl, _, rfl, (W, S, G), _, _, _, rfl, hW.mono s12, hS.mono s12, hG.mono s12, ⟨g, hs, hg, hf⟩, fun z H3 s3 _ => ?_⟩
  have s13 := s12.trans s3
  refine ⟨Nat.zero_le _, fun l nl => ?_⟩
  have s4 := s13.trans (same_new (o := .lst []) nl)
  refine ⟨_, rfl, _, rfl, _, rfl, (W, S, G), _, _, _, rfl, hW.mono s4, hS.mono s4, hG.mono s4, ⟨g, hs⟩, fun z H5 s5 hz => ?_⟩
  obtain ⟨tl, xs, rfl, hl, hp⟩ := hz
  have le := tellings_le g hs G
  have F0 := (FillP.new nl).mono s5
  have nlt : tl ≠ l := fun e => by
    rw [e, s5 _ _ upd_same] at hl
    cases hl
    exact hne (List.length_eq_zero_iff.mp (Paired.length hp).symm)
  refine ⟨tl, rfl, ⟨_, SqL.of hl⟩, ?_⟩
  refine forL (as := tellings W S G) (S0 := fun r x => TI H5 x r) (p_flip hp) (fun done σ H' => ∃ v u, σ = [some x1, some x2, some x3, some x4, some (.ref l), v, u] ∧ FillP H3 l (done.map fun r => (wsum ws r, r)) H' ∧ H' tl = some (.lst xs) ∧ SameT H5 H') ⟨none, none, rfl, F0, hl, SameT.refl _⟩ (fun d σ H' ⟨v, u, e, F, h, _⟩ => SqL.of h) ?_ ?_
  · rintro done r x σ H' ⟨rr, er⟩ hx ⟨v, u, rfl, F, h, st⟩
    have hr : r ∈ tellings W S G := by rw [er]; simp
    have hr' := tellings_sub hs hr
    obtain ⟨ys, h3, h4⟩ := F.at_
    refine ⟨_, rfl, .inl ⟨rfl, _, SqL.of h3⟩, ?_⟩
    refine tTup_i (tCons_i (rdSum rfl (hx.monoT st) (fun _ => rfl) (((hw.mono s13).mono F.sm)) (fun _ => rfl) (hr'.wts hwt) (hr'.le g.le5) fun H6 s6 => ?_))
    refine ⟨_, rfl, two_le, fun p np => ?_⟩
    have s7 : Same H' (upd H6 p (.tup [.int (wsum ws r), x])) := s6.trans (same_new np)
    refine ⟨l, _, _, rfl, rfl, s7 _ _ h3, ?_, _, _, rfl, ?_, ?_, ?_⟩
    · rw [Paired.length h4, List.length_map]
      have := congrArg List.length er
      rw [List.length_append, List.length_cons] at this
      exact small1000 (by omega)
    · rw [List.map_append]
      exact (F.mono s7).snoc (s7 _ _ h3) (PR.mk np ((hx.monoT st).mono s6))
    · rw [upd_ne nlt]
      exact s7 _ _ h
    · exact (st.trans (Same.t s7)).trans (sameT_put (s7 _ _ h3))
  · rintro σ H' ⟨v, u, rfl, F, h, st⟩
    refine ⟨_, rfl, _, _, rfl, F.lp, fun z => hne (List.map_eq_nil_iff.mp z), fun y p hy hm => k _ _ (s13.trans F.sm) ⟨p, hy, hm⟩⟩
theorem d_cheapest_end {P : Program} {w : World} {K : PySem.W.Frag} {mg : Str → Option Value} {base : Heap} (B : Bi mg) (D : DefAt K mg "cheapest_end" s_cheapest_end) (D_need_state : Df P w K mg base "need_state" 4 ["web", "standing"] sp_need_state) (D_telling_in : Df P w K mg base "telling_in" 3 ["web", "standing", "goal"] sp_telling_in) (D_ends_in : Df P w K mg base "ends_in" 3 ["web", "standing"] sp_ends_in) (D_need_weights : Df P w K mg base "need_weights" 3 ["web", "weights"] sp_need_weights) : Df P w K mg base "cheapest_end" 5 ["web", "standing", "weights"] sp_cheapest_end := by
  refine df_mk (st := s_cheapest_end) D sc_cheapest_end (fun _ _ _ _ _ _ us hl => match us, hl with | [_, _, _], _ => rfl) sp3.len fun f cdv A outer s H vs Q E hr h => ?_
  obtain ⟨⟨W, S, ws⟩, x1, x2, x4, rfl, hW, hS, hw, ⟨g, hs, hwt, hne, hte⟩, k⟩ := h
  refine ⟨_, (pss_cons (ps_expr (pe_callD D_need_state hr rfl (pa_cons (pv 0) (pa_cons (pv 1) pa_nil))))
      (pss_cons (ps_expr (pe_callD D_need_weights (hr.mono (by decide)) rfl (pa_cons (pv 0) (pa_cons (pv 2) pa_nil))))
      (pss_cons (ps_set (i := 3) sc_cheapest_end.nd rfl (by first | exact Or.inl rfl | exact Or.inr rfl) (pe_lst pa_nil))
      (pss_cons (ps_for PassesOwn.never rfl (pi_list (pe_callD D_ends_in (hr.mono (by decide)) rfl (pa_cons (pv 0) (pa_cons (pv 1) pa_nil)))) (pg_name (i := 4) sc_cheapest_end.nd rfl (by first | exact Or.inl rfl | exact Or.inr rfl)) (pss_cons (ps_set (i := 5) sc_cheapest_end.nd rfl (by first | exact Or.inl rfl | exact Or.inr rfl) (pe_callD D_telling_in (hr.mono (by decide)) rfl (pa_cons (pv 0) (pa_cons (pv 1) (pa_cons (pv 4) pa_nil)))))
      (pss_one (ps_expr (pe_bm PySem.F.plainAttrs_list PySem.F.slot_list_append PySem.F.type_list_append mt_append (pv 3) (pa_cons (pe_tup (pa_cons (pe_callB (cr_minI rfl) (by rfl) B.min (by decide +kernel) (pa_cons (pe_lc (own := [("row", 6)]) rfl sc_cheapest_end.nd (pi_list (pv 5)) (blkOk_by (own := [("row", 6)]) (N := ["web", "standing", "weights", "found", "end", "some", "row", "person"]) (sc := defScope s_cheapest_end) (by decide +kernel)) (fun _ _ _ _ _ => (pg_name (i := 6) sc_cheapest_end.nd rfl (by first | exact Or.inl rfl | exact Or.inr rfl))) (fun _ _ _ _ _ => pts_nil) (fun _ _ _ _ _ => (pe_callB (cr_sumI rfl) (by rfl) B.sum (by decide +kernel) (pa_cons (pe_lc (own := [("person", 7)]) rfl sc_cheapest_end.nd (pi_tupK (K := K) rfl (pv 6)) (blkOk_by (own := [("person", 7)]) (by kernel_rfl)) (fun _ _ _ _ _ => (pg_name (i := 7) sc_cheapest_end.nd rfl (by first | exact Or.inl rfl | exact Or.inr rfl))) (fun _ _ _ _ _ => pts_nil) (fun _ _ _ _ _ => (pe_ix ix_TI (pv 2) (pv 7) (fun _ _ => rfl)))) pa_nil)))) pa_nil)) (pa_cons (pv 4) pa_nil))) pa_nil))))))
      (pss_one (ps_ret (pe_callB (cr_minP rfl (hu65 hr)) (by rfl) B.min (by decide +kernel) (pa_cons (pv 3) pa_nil)))))))), ?_⟩
  simp only at hW hS hw g hs hwt hne hte
  refine ⟨_, rfl, _, rfl, (W, S), _, _, rfl, hW, hS, ⟨g, hs⟩, fun z H1 s1 _ => ?_⟩
  refine ⟨_, rfl, _, rfl, (W, ws), _, _, rfl, hW.mono s1, hw.mono s1, hwt, fun z H2 s2 _ => ?_⟩
  have s13 := s1.trans s2
  refine ⟨Nat.zero_le _, fun l nl => ?_⟩
  have s4 := s13.trans (same_new (o := .lst []) nl)
  refine ⟨_, rfl, _, rfl, (W, S), _, _, rfl, hW.mono s4, hS.mono s4, ⟨g, hs⟩, fun z H5 s5 hz => ?_⟩
  obtain ⟨tl, xs, rfl, hl, hp⟩ := hz
  have le := ends_le g hs
  have F0 := (FillP.new nl).mono s5
  have nlt : tl ≠ l := fun e => by
    rw [e, s5 _ _ upd_same] at hl
    cases hl
    exact hne (List.length_eq_zero_iff.mp (Paired.length hp).symm)
  refine ⟨tl, rfl, ⟨_, SqL.of hl⟩, ?_⟩
  refine forL (as := endsW W S) (S0 := fun r x => TI H5 x r) (p_flip hp) (fun done σ H' => ∃ v u r q, σ = [some x1, some x2, some x4, some (.ref l), v, u, r, q] ∧ FillP H2 l (done.map fun e => (cheapW W S e ws, e)) H' ∧ H' tl = some (.lst xs) ∧ SameT H5 H') ⟨none, none, none, none, rfl, F0, hl, SameT.refl _⟩ (fun d σ H' ⟨v, u, _, _, e, F, h, _⟩ => SqL.of h) ?_ ?_
  · rintro done e x σ H' ⟨rr, er⟩ hx ⟨v, u, r0, q0, rfl, F, h, st⟩
    have hr : e ∈ endsW W S := by rw [er]; simp
    have hr' := ends_sub hs hr
    have sF := s13.trans F.sm
    refine ⟨_, rfl, _, rfl, _, rfl, (W, S, e), _, _, _, rfl, hW.mono sF, hS.mono sF, hx.monoT st, ⟨g, hs⟩, fun z H6 s6 hz => ?_⟩
    obtain ⟨ys, h3, h4⟩ := F.at_
    obtain ⟨t2, xs2, rfl, hl2, hp2⟩ := hz
    refine ⟨_, rfl, .inl ⟨rfl, _, SqL.of (s6 _ _ h3)⟩, ?_⟩
    refine tTup_i (tCons_i ?_)
    refine ⟨_, rfl, t2, rfl, ⟨_, SqL.of hl2⟩, fun D nD => ?_⟩
    refine cRi hl2 hp2 (Nat.le_trans (tellings_le g hs e) (by decide)) (fun _ => true) (wsum ws) nD (fun _ _ _ _ _ _ _ q => q _ (Same.refl _)) (fun r x3 H7 hr2 hx3 s7 Qy q => ?_) (fun H7 s7 hl7 => ?_)
    · have hr3 := tellings_sub hs hr2
      exact rdSum rfl hx3 (fun _ => rfl) (((hw.mono sF).mono s6).mono s7) (fun _ => rfl) (hr3.wts hwt) (hr3.le g.le5) fun H8 s8 => q _ s8
    rw [filter_true] at hl7
    refine ⟨_, _, rfl, hl7, fun z => hte e hr (List.map_eq_nil_iff.mp z), fun m h1 h2 => ?_⟩
    have em : m = cheapW W S e ws := minI_eq h1 h2
    refine ⟨_, rfl, two_le, fun p np => ?_⟩
    have s9 : Same H' (upd H7 p (.tup [.int m, x])) := (s6.trans s7).trans (same_new np)
    refine ⟨l, _, _, rfl, rfl, s9 _ _ h3, ?_, _, _, _, _, rfl, ?_, ?_, ?_⟩
    · rw [Paired.length h4, List.length_map]
      have := congrArg List.length er
      rw [List.length_append, List.length_cons] at this
      exact small1000 (by omega)
    · rw [List.map_append]
      have := (F.mono s9).snoc (s9 _ _ h3) (PR.mk np (((hx.monoT st).mono s6).mono s7))
      rw [em] at this ⊢
      exact this
    · rw [upd_ne nlt]
      exact s9 _ _ h
    · exact (st.trans (Same.t s9)).trans (sameT_put (s9 _ _ h3))
  · rintro σ H' ⟨v, u, r0, q0, rfl, F, h, st⟩
    refine ⟨_, rfl, _, _, rfl, F.lp, fun z => hne (List.map_eq_nil_iff.mp z), fun y p hy hm => k _ _ (s13.trans F.sm) ⟨p, hy, hm⟩⟩
theorem d_richest_with {P : Program} {w : World} {K : PySem.W.Frag} {mg : Str → Option Value} {base : Heap} (B : Bi mg) (D : DefAt K mg "richest_with" s_richest_with) (D_need_state : Df P w K mg base "need_state" 4 ["web", "standing"] sp_need_state) (D_need_person : Df P w K mg base "need_person" 3 ["web", "person"] sp_need_person) (D_ends_in : Df P w K mg base "ends_in" 3 ["web", "standing"] sp_ends_in) (D_need_weights : Df P w K mg base "need_weights" 3 ["web", "weights"] sp_need_weights) : Df P w K mg base "richest_with" 5 ["web", "standing", "weights", "person"] sp_richest_with := by
  refine df_mk (st := s_richest_with) D sc_richest_with (fun _ _ _ _ _ _ us hl => match us, hl with | [_, _, _, _], _ => rfl) sp4.len fun f cdv A outer s H vs Q E hr h => ?_
  obtain ⟨⟨W, S, ws, p⟩, x1, x2, x4, _, rfl, hW, hS, hw, rfl, ⟨g, hs, hwt, h0, h1⟩, k⟩ := h
  refine ⟨_, (pss_cons (ps_expr (pe_callD D_need_state hr rfl (pa_cons (pv 0) (pa_cons (pv 1) pa_nil))))
      (pss_cons (ps_expr (pe_callD D_need_weights (hr.mono (by decide)) rfl (pa_cons (pv 0) (pa_cons (pv 2) pa_nil))))
      (pss_cons (ps_expr (pe_callD D_need_person (hr.mono (by decide)) rfl (pa_cons (pv 0) (pa_cons (pv 3) pa_nil))))
      (pss_cons (ps_setLc (i := 4) (own := [("end", 5)]) rfl sc_richest_with.nd rfl rfl (sw_true rfl rfl rfl (by decide +kernel)) (pi_list (pe_callD D_ends_in (hr.mono (by decide)) rfl (pa_cons (pv 0) (pa_cons (pv 1) pa_nil)))) (blkOk_by (own := [("end", 5)]) (N := ["web", "standing", "weights", "person", "some", "end", "one"]) (sc := defScope s_richest_with) (by decide +kernel)) (fun _ _ _ _ _ => (pg_name (i := 5) sc_richest_with.nd rfl (by first | exact Or.inl rfl | exact Or.inr rfl))) (fun _ _ _ _ _ => pts_one (pt_cmpR op_inI (pv 3) (pv 5) (by rfl))) (fun _ _ _ _ _ => (pe_callB (cr_sumI rfl) (by rfl) B.sum (by decide +kernel) (pa_cons (pe_lc (own := [("one", 6)]) rfl sc_richest_with.nd (pi_tupK (K := K) rfl (pv 5)) (blkOk_by (own := [("one", 6)]) (by kernel_rfl)) (fun _ _ _ _ _ => (pg_name (i := 6) sc_richest_with.nd rfl (by first | exact Or.inl rfl | exact Or.inr rfl))) (fun _ _ _ _ _ => pts_nil) (fun _ _ _ _ _ => (pe_ix ix_TI (pv 2) (pv 6) (fun _ _ => rfl)))) pa_nil))))
      (pss_one (ps_ret (pe_ifExp (pt_cmpR (op_neI (hu64 hr)) (pv 4) (pe_lst pa_nil) (nomark _)) (pe_callB (cr_maxI rfl) (by rfl) B.max (by decide +kernel) (pa_cons (pv 4) pa_nil)) pe_non))))))), ?_⟩
  simp only at hW hS hw g hs hwt h0 h1
  refine ⟨_, rfl, _, rfl, (W, S), _, _, rfl, hW, hS, ⟨g, hs⟩, fun z H1 s1 _ => ?_⟩
  refine ⟨_, rfl, _, rfl, (W, ws), _, _, rfl, hW.mono s1, hw.mono s1, hwt, fun z H2 s2 _ => ?_⟩
  have s12 := s1.trans s2
  refine ⟨_, rfl, _, rfl, (W, p), _, _, rfl, hW.mono s12, rfl, ⟨h0, h1⟩, fun z H3 s3 _ => ?_⟩
  have s13 := s12.trans s3
  refine ⟨_, rfl, _, rfl, (W, S), _, _, rfl, hW.mono s13, hS.mono s13, ⟨g, hs⟩, fun z H5 s5 hz => ?_⟩
  obtain ⟨tl, xs, rfl, hl, hp⟩ := hz
  have s15 := s13.trans s5
  refine ⟨tl, rfl, ⟨_, SqL.of hl⟩, fun D nD => ?_⟩
  refine cRi hl hp (Nat.le_trans (ends_le g hs) (by decide)) (fun e => decide (p ∈ e)) (wsum ws) nD (fun r x H6 hr hx s6 Qb q => ?_) (fun r x H6 hr hx s6 Qy q => ?_) (fun H6 s6 hl6 => ?_)
  · exact ⟨_, rfl, _, rfl, _, _, rfl, hx, _, rfl, q _ (Same.refl _)⟩
  · have hr' := ends_sub hs hr
    exact rdSum rfl hx (fun _ => rfl) ((hw.mono s15).mono s6) (fun _ => rfl) (hr'.wts hwt) (hr'.le g.le5) fun H8 s8 => q _ s8
  refine ⟨_, rfl, Nat.zero_le _, fun l nl => ?_⟩
  refine ⟨_, [], hl6.mono (same_new nl), ⟨l, rfl, upd_same⟩, _, rfl, ?_⟩
  refine if_ndec (fun c => ?_) (fun c => ?_)
  · refine ⟨_, rfl, _, _, rfl, hl6.mono (same_new nl), c, fun m h1 h2 => ?_⟩
    exact k _ _ ((s15.trans s6).trans (same_new nl)) (.inr ⟨m, rfl, h1, h2⟩)
  · exact k _ _ ((s15.trans s6).trans (same_new nl)) (.inl ⟨rfl, List.map_eq_nil_iff.mp c⟩)
end Ts

set_option Elab.async false
set_option linter.all false
set_option maxRecDepth 100000
set_option maxHeartbeats 4000000
namespace Ts
open PySem PySem.Spec PyProof.Rows L2 StX
/-! ### the search, plain -/
def nexts (W : Wb) (h : Rw) : List Rw := (movers W h).map (callW W h)
structure Bfs (W : Wb) (S : Rw) (i : Nat) (es : List (Rw × Int)) (last : List Rw) : Prop where
  nod : (es.map (·.1)).Nodup
  st : ∀ e ∈ es, 0 ≤ e.2 ∧ e.2 ≤ i ∧ Steps W S e.2.toNat e.1
  la : ∀ T, T ∈ last ↔ (T, (i : Int)) ∈ es
  ful : ∀ k T, k ≤ i → Steps W S k T → ∃ d : Int, d ≤ k ∧ (T, d) ∈ es
structure Reached (W : Wb) (S : Rw) (es : List (Rw × Int)) : Prop where
  nod : (es.map (·.1)).Nodup
  st : ∀ e ∈ es, 0 ≤ e.2 ∧ Steps W S e.2.toNat e.1
  ful : ∀ k T, Steps W S k T → ∃ d : Int, d ≤ k ∧ (T, d) ∈ es
theorem Bfs.start (W : Wb) (S : Rw) : Bfs W S 0 [(S, 0)] [S] := by
  refine ⟨by simp, fun e he => ?_, fun T => ?_, fun k T hk hs => ?_⟩
  · rw [List.mem_singleton.mp he]
    exact ⟨Int.le_refl _, Int.le_refl _, .zero⟩
  · simp
  · obtain rfl : k = 0 := by omega
    cases hs
    exact ⟨0, Int.le_refl _, List.mem_cons_self⟩
theorem Bfs.done {W : Wb} {S : Rw} {i : Nat} {es : List (Rw × Int)} (b : Bfs W S i es []) : Reached W S es := by
  refine ⟨b.nod, fun e he => ⟨(b.st e he).1, (b.st e he).2.2⟩, fun k T hs => ?_⟩
  induction hs with
  | zero => exact b.ful 0 S (Nat.zero_le _) .zero
  | @succ k T p hs hp ih =>
    obtain ⟨d, hd, hm⟩ := ih
    obtain ⟨h0, h1, h2⟩ := b.st _ hm
    simp only at h0 h1 h2
    have ne : d ≠ i := fun e => by
      have := (b.la T).mpr (e ▸ hm)
      cases this
    obtain ⟨d', hd', hm'⟩ := b.ful (d.toNat + 1) _ (by omega) (.succ h2 hp)
    exact ⟨d', by omega, hm'⟩
/-- what is found in a round -/
structure J (es : List (Rw × Int)) (L fr : List Rw) : Prop where
  nod : fr.Nodup
  new : ∀ T ∈ fr, T ∉ es.map (·.1) ∧ T ∈ L
  all : ∀ T ∈ L, T ∈ es.map (·.1) ∨ T ∈ fr
theorem J.start (es : List (Rw × Int)) : J es [] [] := ⟨.nil, fun _ h => by (cases h), fun _ h => by (cases h)⟩
theorem J.old {es : List (Rw × Int)} {L fr : List Rw} (j : J es L fr) {T : Rw} (h : T ∈ es.map (·.1) ∨ T ∈ fr) : J es (L ++ [T]) fr :=
  ⟨j.nod, fun U hU => ⟨(j.new U hU).1, List.mem_append_left _ (j.new U hU).2⟩, fun U hU => by
    rcases List.mem_append.mp hU with e | e
    · exact j.all U e
    · rw [List.mem_singleton.mp e]; exact h⟩
theorem J.add {es : List (Rw × Int)} {L fr : List Rw} (j : J es L fr) {T : Rw} (h1 : T ∉ es.map (·.1)) (h2 : T ∉ fr) : J es (L ++ [T]) (fr ++ [T]) :=
  ⟨List.nodup_append.mpr ⟨j.nod, by simp, fun a ha b hb e => h2 (by rw [← List.mem_singleton.mp hb, ← e]; exact ha)⟩, fun U hU => by
    rcases List.mem_append.mp hU with e | e
    · exact ⟨(j.new U e).1, List.mem_append_left _ (j.new U e).2⟩
    · rw [List.mem_singleton.mp e]; exact ⟨h1, by simp⟩, fun U hU => by
    rcases List.mem_append.mp hU with e | e
    · rcases j.all U e with e | e
      · exact .inl e
      · exact .inr (List.mem_append_left _ e)
    · exact .inr (List.mem_append_right _ e)⟩
def tag (i : Nat) (fr : List Rw) : List (Rw × Int) := fr.map fun T => (T, ((i + 1 : Nat) : Int))
theorem tag_keys (i : Nat) (fr : List Rw) : (tag i fr).map (·.1) = fr := by
  unfold tag
  rw [List.map_map]
  exact List.map_id' fr
theorem Bfs.round {W : Wb} {S : Rw} {i : Nat} {es : List (Rw × Int)} {last fr : List Rw} (b : Bfs W S i es last) (j : J es (last.flatMap (nexts W)) fr) : Bfs W S (i + 1) (es ++ tag i fr) fr := by
  refine ⟨?_, fun e he => ?_, fun T => ?_, fun k T hk hs => ?_⟩
  · rw [List.map_append, tag_keys]
    exact List.nodup_append.mpr ⟨b.nod, j.nod, fun a ha c hc e => (j.new c hc).1 (e ▸ ha)⟩
  · rcases List.mem_append.mp he with h | h
    · obtain ⟨h0, h1, h2⟩ := b.st e h
      exact ⟨h0, by omega, h2⟩
    · obtain ⟨T, hT, rfl⟩ := List.mem_map.mp h
      refine ⟨by show (0 : Int) ≤ ((i + 1 : Nat) : Int); omega, Int.le_refl _, ?_⟩
      obtain ⟨h9, hh, hn⟩ := List.mem_flatMap.mp (j.new T hT).2
      obtain ⟨p, hp, rfl⟩ := List.mem_map.mp hn
      obtain ⟨_, _, h2⟩ := b.st _ ((b.la h9).mp hh)
      simp only [Int.toNat_natCast] at h2 ⊢
      exact .succ h2 hp
  · constructor
    · intro h
      exact List.mem_append_right _ (List.mem_map.mpr ⟨T, h, rfl⟩)
    · intro h
      rcases List.mem_append.mp h with h | h
      · have := (b.st _ h).2.1
        simp only at this
        omega
      · obtain ⟨U, hU, e⟩ := List.mem_map.mp h
        cases e
        exact hU
  · by_cases h : k ≤ i
    · obtain ⟨d, hd, hm⟩ := b.ful k T h hs
      exact ⟨d, hd, List.mem_append_left _ hm⟩
    · obtain rfl : k = i + 1 := by omega
      cases hs with
      | @succ _ T' p hs hp =>
        obtain ⟨d, hd, hm⟩ := b.ful i _ (Nat.le_refl _) hs
        obtain ⟨h0, h1, h2⟩ := b.st _ hm
        simp only at h0 h1 h2
        by_cases e : d = i
        · subst e
          have hl := (b.la T').mpr hm
          rcases j.all (callW W T' p) (List.mem_flatMap.mpr ⟨T', hl, List.mem_map.mpr ⟨p, hp, rfl⟩⟩) with q | q
          · obtain ⟨e, he, ee⟩ := List.mem_map.mp q
            refine ⟨e.2, ?_, List.mem_append_left _ ?_⟩
            · have := (b.st e he).2.1; omega
            · rw [← ee]; exact he
          · exact ⟨((i + 1 : Nat) : Int), Int.le_refl _, List.mem_append_right _ (List.mem_map.mpr ⟨_, q, rfl⟩)⟩
        · obtain ⟨d', hd', hm'⟩ := b.ful (d.toNat + 1) _ (by omega) (.succ h2 hp)
          exact ⟨d', by omega, List.mem_append_left _ hm'⟩
theorem callW_sub (W : Wb) (S : Rw) (p : Int) : (callW W S p).Sublist S := by
  unfold callW
  split
  · exact List.filter_sublist
  · exact List.Sublist.refl _
theorem Steps.sub {W : Wb} {S T : Rw} {k : Nat} (h : Steps W S k T) : T.Sublist S := by
  induction h with
  | zero => exact List.Sublist.refl _
  | succ _ _ ih => exact (callW_sub _ _ _).trans ih
theorem nodup_len {α : Type} [DecidableEq α] : ∀ {l m : List α}, l.Nodup → (∀ x ∈ l, x ∈ m) → l.length ≤ m.length
  | [], _, _, _ => Nat.zero_le _
  | x :: l, m, h, hs => by
    obtain ⟨h1, h2⟩ := List.nodup_cons.mp h
    have hx := hs x List.mem_cons_self
    have := nodup_len (l := l) (m := m.erase x) h2 fun y hy => (List.mem_erase_of_ne (fun e => h1 (by rw [← e]; exact hy))).mpr (hs y (List.mem_cons_of_mem _ hy))
    rw [List.length_erase_of_mem hx] at this
    have : 0 < m.length := List.length_pos_of_mem hx
    simp only [List.length_cons]
    omega
theorem Bfs.len {W : Wb} {S : Rw} {i : Nat} {es : List (Rw × Int)} {last : List Rw} (b : Bfs W S i es last) (hs : Sub W.length S) (g : Good W) : es.length ≤ 32 := by
  have := nodup_len (m := choice S) b.nod fun T hT => by
    obtain ⟨e, he, rfl⟩ := List.mem_map.mp hT
    exact mem_choice.mpr (b.st e he).2.2.sub
  rw [List.length_map] at this
  exact Nat.le_trans this (choice_le hs g.le5)
theorem round_len {W : Wb} {S : Rw} {i : Nat} {es : List (Rw × Int)} {last fr L : List Rw} (b : Bfs W S i es last) (hs : Sub W.length S) (g : Good W) (j : J es L fr) (hL : ∀ T ∈ L, T.Sublist S) : es.length + fr.length ≤ 32 := by
  have nd : (es.map (·.1) ++ fr).Nodup := List.nodup_append.mpr ⟨b.nod, j.nod, fun a ha c hc e => (j.new c hc).1 (e ▸ ha)⟩
  have := nodup_len (m := choice S) nd fun T hT => by
    rcases List.mem_append.mp hT with hT | hT
    · obtain ⟨e, he, rfl⟩ := List.mem_map.mp hT
      exact mem_choice.mpr (b.st e he).2.2.sub
    · exact mem_choice.mpr (hL T (j.new T hT).2)
  rw [List.length_append, List.length_map] at this
  exact Nat.le_trans this (choice_le hs g.le5)
/-! ### rows as keys -/
def enc (r : Rw) : List Key := r.map Sum.inl
theorem enc_kV (r : Rw) : (enc r).map kV = r.map V.int := by unfold enc; rw [List.map_map]; rfl
theorem enc_inj {r t : Rw} (h : enc r = enc t) : r = t := by
  have := congrArg (List.map kV) h
  rw [enc_kV, enc_kV] at this
  exact (List.map_inj_right fun a b e => by injection e).mp this
def encE (e : Rw × Int) : List Key × V := (enc e.1, .int e.2)
theorem encE_some {es : List (Rw × Int)} {T : Rw} : (valV (es.map encE) (enc T)).isSome = decide (T ∈ es.map (·.1)) := by
  rw [← valV_any, List.any_map]
  refine Bool.eq_iff_iff.mpr ?_
  rw [List.any_eq_true, decide_eq_true_iff, List.mem_map]
  constructor
  · rintro ⟨e, he, h⟩
    exact ⟨e, he, enc_inj (of_decide_eq_true h)⟩
  · rintro ⟨e, he, rfl⟩
    exact ⟨e, he, decide_eq_true rfl⟩
theorem encE_none {es : List (Rw × Int)} {T : Rw} (h : T ∉ es.map (·.1)) : valV (es.map encE) (enc T) = none := by
  have := encE_some (es := es) (T := T)
  rw [decide_eq_false h] at this
  cases e : valV (es.map encE) (enc T) with
  | none => rfl
  | some v => rw [e] at this; cases this
def DR (H : Hp) (x : V) (es : List (Rw × Int)) : Prop := ∃ d, x = .ref d ∧ H d = some (.dT (es.map encE))
theorem DR.mono {H H' : Hp} (s : Same H H') {x es} (h : DR H x es) : DR H' x es := let ⟨d, e, q⟩ := h; ⟨d, e, s _ _ q⟩
abbrev s_reached_from : Stmt := topS 34
theorem sc_reached_from : FnScope ["web", "standing", "found", "last", "many", "fresh", "here", "person", "there"] ["web", "standing"] (defScope s_reached_from) := ⟨rfl, rfl, rfl, by decide +kernel, rfl, by decide +kernel, by decide +kernel⟩
def sp_reached_from : Sp := fun vs H Q _ => ∃ (a : WS) (x y : V), vs = [x, y] ∧ WB H x a.1 ∧ TI H y a.2 ∧ pWS a ∧ ∀ d es H', Same H H' → H d = none → H' d = some (.dT (es.map encE)) → Reached a.1 a.2 es → es.length ≤ 32 → Q (.ref d) H'
theorem spr_len {p q : Str} (vs : List V) (H : Hp) (Q : VK) (E : XK) (h : sp_reached_from vs H Q E) : vs.length = [p, q].length := by
  obtain ⟨a, x, y, rfl, _⟩ := h; rfl
/-- within a round -/
structure Rnd (W : Wb) (H H1 : Hp) (d f lst : Addr) (xs : List V) (es : List (Rw × Int)) (i : Nat) (L fr : List Rw) (H' : Hp) : Prop where
  sm : Same H H'
  fd : H' d = some (.dT ((es ++ tag i fr).map encE))
  ff : ∃ ys, H' f = some (.lst ys) ∧ Paired (TI H') ys fr
  fl : H' lst = some (.lst xs)
  st : SameT H1 H'
  j : J es L fr
theorem Rnd.mono {W : Wb} {H H1 H' H2 : Hp} {d f lst : Addr} {xs : List V} {es : List (Rw × Int)} {i : Nat} {L fr : List Rw} (r : Rnd W H H1 d f lst xs es i L fr H') (s : Same H' H2) : Rnd W H H1 d f lst xs es i L fr H2 :=
  let ⟨ys, h1, h2⟩ := r.ff
  ⟨r.sm.trans s, s _ _ r.fd, ⟨ys, s _ _ h1, pTI.mono s h2⟩, s _ _ r.fl, r.st.trans (Same.t s), r.j⟩

theorem upd_tup {H : Hp} {d : Addr} {o : HO} (h : ∀ xs, H d ≠ some (.tup xs)) : SameT H (upd H d o) := fun b xs e => by
  rw [upd_ne (fun z => h xs (by rw [← z]; exact e))]; exact e
theorem same_upd2 {H0 H : Hp} {d : Addr} {o : HO} (s : Same H0 H) (h : H0 d = none) : Same H0 (upd H d o) := same_upd s h
theorem tag_snoc (i : Nat) (fr : List Rw) (T : Rw) : tag i (fr ++ [T]) = tag i fr ++ [(T, ((i + 1 : Nat) : Int))] := by unfold tag; rw [List.map_append]; rfl
/-- a new row is found -/
theorem Rnd.add {W : Wb} {H H1 H' : Hp} {d f lst tz : Addr} {xs ys : List V} {es : List (Rw × Int)} {i : Nat} {L fr : List Rw} {T : Rw} (r : Rnd W H H1 d f lst xs es i L fr H') (nd : H d = none) (nf : H f = none) (nlf : lst ≠ f)
    (hy : H' f = some (.lst ys)) (hz : H' tz = some (.tup (T.map V.int))) (h1 : T ∉ es.map (·.1)) (h2 : T ∉ fr) :
    Rnd W H H1 d f lst xs es i (L ++ [T]) (fr ++ [T]) (upd (upd H' d (.dT (putK ((es ++ tag i fr).map encE) (enc T) (.int ((i + 1 : Nat) : Int))))) f (.lst (ys ++ [.ref tz]))) := by
  have ndf : d ≠ f := ne_of r.fd hy (fun z => by cases z)
  have ndl : lst ≠ d := ne_of r.fl r.fd (fun z => by cases z)
  obtain ⟨ys', e1, e2⟩ := r.ff
  rw [hy] at e1
  cases e1
  have hk : T ∉ (es ++ tag i fr).map (·.1) := by
    rw [List.map_append, tag_keys]
    exact fun h => (List.mem_append.mp h).elim h1 h2
  have tA : SameT H' (upd H' d (.dT (putK ((es ++ tag i fr).map encE) (enc T) (.int ((i + 1 : Nat) : Int))))) := upd_tup fun xs e => by rw [r.fd] at e; cases e
  have fA : (upd H' d (.dT (putK ((es ++ tag i fr).map encE) (enc T) (.int ((i + 1 : Nat) : Int))))) f = some (.lst ys) := by rw [upd_ne ndf.symm]; exact hy
  have tB := tA.trans (sameT_put (acc' := ys ++ [.ref tz]) fA)
  refine ⟨same_upd (same_upd r.sm nd) nf, ?_, ⟨_, upd_same, ?_⟩, ?_, r.st.trans tB, r.j.add h1 h2⟩
  · rw [upd_ne ndf, upd_same, putK_new _ (encE_none hk), tag_snoc, ← List.append_assoc, List.map_append (l₂ := [(T, _)])]
    rfl
  · exact Paired.app (pTI.monoT tB e2) (.cons ⟨tz, rfl, tB _ _ hz⟩ .nil)
  · rw [upd_ne nlf, upd_ne ndl]
    exact r.fl
theorem d_reached_from {P : Program} {w : World} {K : PySem.W.Frag} {mg : Str → Option Value} {base : Heap} (B : Bi mg) (D : DefAt K mg "reached_from" s_reached_from) (D_call_in : Df P w K mg base "call_in" 1 ["web", "standing", "person"] sp_call_in) (D_movers_in : Df P w K mg base "movers_in" 1 ["web", "standing"] sp_movers_in) : Df P w K mg base "reached_from" 2 ["web", "standing"] sp_reached_from := by
  refine df_mk (st := s_reached_from) D sc_reached_from (fun _ _ _ _ _ _ us hl => match us, hl with | [_, _], _ => rfl) spr_len fun f cdv A outer s H vs Q E hr h => ?_
  obtain ⟨⟨W, S⟩, x1, x2, rfl, hW, hS, ⟨g, hs⟩, k⟩ := h
  refine ⟨_, (pss_cons (ps_par3 (i := 2) (j := 3) (l := 4) rfl sc_reached_from.nd rfl rfl rfl (by decide) (by decide) (by decide) rfl rfl rfl (pa_cons (pe_disp1 (hu_of hr) (pv 1) pe_int) (pa_cons (pe_lst (pa_cons (pv 1) pa_nil)) (pa_cons pe_int pa_nil))) (by rfl))
      (pss_cons (ps_while PassesOwn.never (pt_cmpR (op_neL0 (hu64 hr)) (pv 3) (pe_lst pa_nil) (nomark _)) (pss_cons (ps_aug (i := 4) sc_reached_from.nd rfl (by first | exact Or.inl rfl | exact Or.inr rfl) pe_int ip_add)
      (pss_cons (ps_set (i := 5) sc_reached_from.nd rfl (by first | exact Or.inl rfl | exact Or.inr rfl) (pe_lst pa_nil))
      (pss_cons (ps_for PassesOwn.never rfl (pi_list (pv 3)) (pg_name (i := 6) sc_reached_from.nd rfl (by first | exact Or.inl rfl | exact Or.inr rfl)) (pss_one (ps_for PassesOwn.never rfl (pi_list (pe_callD D_movers_in hr rfl (pa_cons (pv 0) (pa_cons (pv 6) pa_nil)))) (pg_name (i := 7) sc_reached_from.nd rfl (by first | exact Or.inl rfl | exact Or.inr rfl)) (pss_cons (ps_set (i := 8) sc_reached_from.nd rfl (by first | exact Or.inl rfl | exact Or.inr rfl) (pe_callD D_call_in hr rfl (pa_cons (pv 0) (pa_cons (pv 6) (pa_cons (pv 7) pa_nil)))))
      (pss_one (ps_if (pt_cmp (pc_dnotin (hu_of hr) (pv 8) (pv 2))) (pss_cons (ps_dput (hu_of hr) (pv 2) (pv 8) (pv 4) rfl)
      (pss_one (ps_expr (pe_bm PySem.F.plainAttrs_list PySem.F.slot_list_append PySem.F.type_list_append mt_append (pv 5) (pa_cons (pv 8) pa_nil))))) pss_nil))))))
      (pss_one (ps_set (i := 3) sc_reached_from.nd rfl (by first | exact Or.inl rfl | exact Or.inr rfl) (pv 5)))))))
      (pss_one (ps_ret (pv 2))))), ?_⟩
  simp only at hW hS g hs
  obtain ⟨ts, rfl, hts⟩ := hS
  refine fun d nd => ?_
  refine ⟨_, rfl, ts, enc S, rfl, upd_same, by rw [enc_kV]; exact same_new nd _ _ hts, ?_⟩
  refine ⟨_, rfl, by show 1 ≤ sizeLine; decide, fun l0 nl0 => ⟨_, _, _, rfl, ?_⟩⟩
  have sA : Same H (upd (upd (upd H d (.dT [])) d (.dT [(enc S, .int 0)])) l0 (.lst [.ref ts])) := (same_upd (same_new nd) nd).trans (same_new nl0)
  refine ⟨fun m σ H' => ∃ (i : Nat) (es : List (Rw × Int)) (last : List Rw) (lst : Addr) (v5 v6 v7 v8 : Option V), σ = [some x1, some (.ref ts), some (.ref d), some (.ref lst), some (.int i), v5, v6, v7, v8] ∧ Same H H' ∧ H' d = some (.dT (es.map encE)) ∧ LT H' (.ref lst) last ∧ Bfs W S i es last ∧ m = 2 * (33 - es.length) + (if last = [] then 0 else 1),
    ⟨_, 0, [(S, 0)], [S], l0, none, none, none, none, rfl, sA, ?_, ⟨l0, [.ref ts], rfl, upd_same, .cons ⟨ts, rfl, sA _ _ hts⟩ .nil⟩, Bfs.start W S, rfl⟩, ?_⟩
  · have ne : d ≠ l0 := ne_of_none upd_same nl0
    rw [upd_ne ne, upd_same]
    rfl
  rintro m σ H1 ⟨i, es, last, lst, v5, v6, v7, v8, rfl, s1, hd, hl, bf, rfl⟩
  refine ⟨_, rfl, Nat.zero_le _, fun q0 nq0 => ?_⟩
  have sq : Same H1 (upd H1 q0 (.lst [])) := same_new nq0
  refine ⟨last, hl.mono sq, ⟨q0, rfl, upd_same⟩, _, rfl, ?_⟩
  have s2 := s1.trans sq
  refine if_ndec (fun c => ?_) (fun c => ?_)
  · refine ⟨fun σ' H' => ∃ (es' : List (Rw × Int)) (fr : List Rw) (f : Addr) (v5 v6 v7 v8 : Option V), σ' = [some x1, some (.ref ts), some (.ref d), some (.ref f), some (.int ((i + 1 : Nat) : Int)), v5, v6, v7, v8] ∧ Same H H' ∧ es' = es ++ tag i fr ∧ H' d = some (.dT (es'.map encE)) ∧ LT H' (.ref f) fr ∧ Bfs W S (i + 1) es' fr, ?_, ?_⟩
    · rintro σ' H' ⟨es', fr, f, v5, v6, v7, v8, rfl, sm, rfl, hd', hl', bf'⟩
      refine ⟨_, ?_, i + 1, _, fr, f, v5, v6, v7, v8, rfl, sm, hd', hl', bf', rfl⟩
      have a1 := bf'.len hs g
      have a2 := bf.len hs g
      rw [if_neg c]
      rw [List.length_append] at a1 ⊢
      have : (tag i fr).length = fr.length := by unfold tag; rw [List.length_map]
      by_cases e : fr = []
      · rw [if_pos e]
        omega
      · rw [if_neg e]
        have : 0 < fr.length := List.length_pos_iff.mpr e
        omega
    -- the round
    refine ⟨_, rfl, _, _, rfl, rfl, ?_⟩
    refine ⟨Nat.zero_le _, fun f nf => ?_⟩
    obtain ⟨_, xs, e0, hlst, hxs⟩ := hl.mono sq
    cases e0
    have s3 := s2.trans (same_new (o := .lst []) nf)
    have nlf : lst ≠ f := ne_of_none hlst nf
    have nf0 : H f = none := s2.free nf
    have R0 : Rnd W H (upd (upd H1 q0 (.lst [])) f (.lst [])) d f lst xs es i [] [] (upd (upd H1 q0 (.lst [])) f (.lst [])) :=
      ⟨s3, by rw [show es ++ tag i [] = es from List.append_nil es]; exact same_new nf _ _ (sq _ _ hd), ⟨[], upd_same, .nil⟩, same_new nf _ _ hlst, SameT.refl _, J.start es⟩
    refine ⟨_, rfl, lst, rfl, ⟨_, SqL.of R0.fl⟩, ?_⟩
    refine forL (as := last) (S0 := fun r x => TI (upd (upd H1 q0 (.lst [])) f (.lst [])) x r) (p_flip (pTI.mono (same_new nf) hxs)) (fun done σ H' => ∃ (fr : List Rw) (v6 v7 v8 : Option V), σ = [some x1, some (.ref ts), some (.ref d), some (.ref lst), some (.int ((i + 1 : Nat) : Int)), some (.ref f), v6, v7, v8] ∧ Rnd W H (upd (upd H1 q0 (.lst [])) f (.lst [])) d f lst xs es i (done.flatMap (nexts W)) fr H') ⟨[], v6, v7, v8, rfl, R0⟩ (fun _ σ H' ⟨_, _, _, _, _, R⟩ => SqL.of R.fl) ?_ ?_
    · rintro done h x σ H' ⟨rr, er⟩ hx ⟨fr, v6, v7, v8, rfl, R⟩
      have hh : h ∈ last := by rw [er]; simp
      have hsub : ∀ T ∈ last, T.Sublist S := fun T hT => (bf.st _ ((bf.la T).mp hT)).2.2.sub
      have hSub : Sub W.length h := hs.sub (hsub h hh)
      have hx' := hx.monoT R.st
      refine ⟨_, rfl, _, rfl, (W, h), _, _, rfl, hW.mono R.sm, hx', ⟨g, hSub⟩, fun z H2 s4 hz => ?_⟩
      obtain ⟨tm, rfl, htm⟩ := hz
      simp only at htm
      refine ⟨tm, rfl, ⟨_, SqL.of htm⟩, ?_⟩
      refine forL (p_ints (movers W h)) (fun pd σ H' => ∃ (fr : List Rw) (v7 v8 : Option V), σ = [some x1, some (.ref ts), some (.ref d), some (.ref lst), some (.int ((i + 1 : Nat) : Int)), some (.ref f), some x, v7, v8] ∧ Rnd W H (upd (upd H1 q0 (.lst [])) f (.lst [])) d f lst xs es i (done.flatMap (nexts W) ++ pd.map (callW W h)) fr H' ∧ H' tm = some (.lst ((movers W h).map V.int))) ⟨fr, v7, v8, rfl, by rw [List.map_nil, List.append_nil]; exact R.mono s4, htm⟩ (fun _ σ H' ⟨_, _, _, _, _, q⟩ => SqL.of q) ?_ ?_
      · rintro pd p _ σ H3 ⟨r2, er2⟩ rfl ⟨fr, v7, v8, rfl, R3, ht3⟩
        refine ⟨_, rfl, _, rfl, _, rfl, (W, h, p), _, _, _, rfl, hW.mono R3.sm, hx.monoT R3.st, rfl, ⟨g, hSub⟩, fun z H4 s5 hz => ?_⟩
        obtain ⟨tz, rfl, htz⟩ := hz
        simp only at htz
        have R4 := R3.mono s5
        have ht4 := s5 _ _ ht3
        refine ⟨_, rfl, _, rfl, d, _, rfl, DGet.t R4.fd (by rw [enc_kV]; exact htz), _, rfl, ?_⟩
        rw [encE_some]
        have eL : done.flatMap (nexts W) ++ (pd ++ [p]).map (callW W h) = (done.flatMap (nexts W) ++ pd.map (callW W h)) ++ [callW W h p] := by
          rw [List.map_append, List.append_assoc]
          rfl
        refine if_ndec (fun c2 => ?_) (fun c2 => ?_)
        · rw [List.map_append, tag_keys] at c2
          have c3 : callW W h p ∉ es.map (·.1) := fun q => c2 (List.mem_append_left _ q)
          have c4 : callW W h p ∉ fr := fun q => c2 (List.mem_append_right _ q)
          have hb := round_len bf hs g R4.j fun T hT => by
            rcases List.mem_append.mp hT with q | q
            · obtain ⟨U, hU, hn⟩ := List.mem_flatMap.mp q
              obtain ⟨p', _, rfl⟩ := List.mem_map.mp hn
              exact (callW_sub _ _ _).trans (hsub U (by rw [er]; exact List.mem_append_left _ hU))
            · obtain ⟨p', _, rfl⟩ := List.mem_map.mp q
              exact (callW_sub _ _ _).trans (hsub h hh)
          obtain ⟨ys, hf4, hys⟩ := R4.ff
          have lfr := Paired.length hys
          refine ⟨_, rfl, _, rfl, _, rfl, d, _, rfl, DPut.t R4.fd (by rw [enc_kV]; exact htz) ?_, ?_⟩
          · rw [List.length_map, List.length_append]
            have : (tag i fr).length = fr.length := by unfold tag; rw [List.length_map]
            exact small1000 (by omega)
          have ndf : f ≠ d := ne_of hf4 R4.fd (fun z => by cases z)
          have hf5 : (upd H4 d (.dT (putK ((es ++ tag i fr).map encE) (enc (callW W h p)) (.int ((i + 1 : Nat) : Int))))) f = some (.lst ys) := by
            rw [upd_ne ndf]; exact hf4
          refine ⟨_, rfl, .inl ⟨rfl, _, SqL.of hf5⟩, _, rfl, f, _, _, rfl, rfl, hf5, small1000 (by omega), fr ++ [callW W h p], _, _, rfl, ?_, ?_⟩
          · rw [eL]
            exact R4.add nd nf0 nlf hf4 htz c3 c4
          · have n1 : tm ≠ d := ne_of ht4 R4.fd (fun z => by cases z)
            have n2 : tm ≠ f := fun e => by
              subst e
              rw [hf4] at ht4
              have e5 : ys = (movers W h).map V.int := by injection ht4 with e5; injection e5
              have hp : p ∈ movers W h := by rw [er2]; simp
              have : V.int p ∈ ys := by rw [e5]; exact List.mem_map.mpr ⟨p, hp, rfl⟩
              obtain ⟨j, hj⟩ := List.mem_iff_getElem?.mp this
              obtain ⟨T, _, t, q, _⟩ := paired_get hys hj
              cases q
            rw [upd_ne n2, upd_ne n1]
            exact ht4
        · rw [List.map_append, tag_keys] at c2
          refine ⟨fr, _, _, rfl, ?_, ht4⟩
          rw [eL]
          exact ⟨R4.sm, R4.fd, R4.ff, R4.fl, R4.st, R4.j.old (List.mem_append.mp c2)⟩
      · rintro σ H3 ⟨fr, v7, v8, rfl, R3, ht3⟩
        refine ⟨fr, _, v7, v8, rfl, ?_⟩
        rw [List.flatMap_append, List.flatMap_singleton]
        exact R3
    · rintro σ H3 ⟨fr, v6, v7, v8, rfl, R3⟩
      obtain ⟨ys, h3, h4⟩ := R3.ff
      exact ⟨_, rfl, _, fr, f, _, _, _, _, rfl, R3.sm, rfl, R3.fd, ⟨f, ys, rfl, h3, h4⟩, bf.round R3.j⟩
  · subst c
    exact ⟨_, rfl, k d es _ s2 nd (sq _ _ hd) bf.done (bf.len hs g)⟩
end Ts

set_option Elab.async false
set_option linter.all false
set_option maxRecDepth 100000
set_option maxHeartbeats 4000000
namespace Ts
open PySem PySem.Spec PyProof.Rows L2 StX
theorem pg_tupK {X : Cx} {K : PySem.W.Frag} {es : List Expr} {k : Nat} {t : TGs} {n : Nat} {pos : Pos} (hK : X.K = K) (hc : X.calm = true) (h : PGs X es t)
    (hn : (assignEach es X.env).length = n := by rfl) (hst : (assignEach es X.env).findIdx? (·.1) = none := by rfl) : PG X (.Tuple es k pos) (gTup K n t) := by
  subst hK
  exact pg_tup hc h hn hst
abbrev s_reached : Stmt := topS 35
theorem sc_reached : FnScope ["web", "standing"] ["web", "standing"] (defScope s_reached) := ⟨rfl, rfl, rfl, by decide +kernel, rfl, by decide +kernel, by decide +kernel⟩
abbrev s_worths : Stmt := topS 51
theorem sc_worths : FnScope ["web", "standing", "weights", "here", "one"] ["web", "standing", "weights"] (defScope s_worths) := ⟨rfl, rfl, rfl, by decide +kernel, rfl, by decide +kernel, by decide +kernel⟩
abbrev s_least_of : Stmt := topS 53
theorem sc_least_of : FnScope ["web", "standing", "fits", "some", "here", "many"] ["web", "standing", "fits"] (defScope s_least_of) := ⟨rfl, rfl, rfl, by decide +kernel, rfl, by decide +kernel, by decide +kernel⟩
abbrev s_calls_to_end : Stmt := topS 54
theorem sc_calls_to_end : FnScope ["web", "standing"] ["web", "standing"] (defScope s_calls_to_end) := ⟨rfl, rfl, rfl, by decide +kernel, rfl, by decide +kernel, by decide +kernel⟩
theorem Reached.ne {W : Wb} {S : Rw} {es : List (Rw × Int)} (r : Reached W S es) : es ≠ [] := fun e => by
  obtain ⟨d, _, h⟩ := r.ful 0 S .zero
  rw [e] at h
  cases h
theorem Reached.mem {W : Wb} {S : Rw} {es : List (Rw × Int)} (r : Reached W S es) {T : Rw} : T ∈ es.map (·.1) ↔ ∃ k, Steps W S k T := by
  constructor
  · intro h
    obtain ⟨e, he, rfl⟩ := List.mem_map.mp h
    exact ⟨_, (r.st e he).2⟩
  · rintro ⟨k, h⟩
    obtain ⟨d, _, hm⟩ := r.ful k T h
    exact List.mem_map.mpr ⟨_, hm, rfl⟩
def sp_reached : Sp := sp2 (α := WS) (fun a H x => WB H x a.1) (fun a H x => TI H x a.2) pWS (fun a H z => ∃ rows, LT H z rows ∧ rows ≠ [] ∧ rows.length ≤ 32 ∧ ∀ T, T ∈ rows ↔ ∃ k, Steps a.1 a.2 k T)
def sp_worths : Sp := sp3 (α := WSG) (fun a H x => WB H x a.1) (fun a H x => TI H x a.2.1) (fun a H x => TI H x a.2.2) (fun a => Good a.1 ∧ Sub a.1.length a.2.1 ∧ Wts a.1 a.2.2) (fun a H z => ∃ ns, TI H z ns ∧ ns.Pairwise (· < ·) ∧ ∀ n, n ∈ ns ↔ ∃ k T, Steps a.1 a.2.1 k T ∧ n = wsum a.2.2 T)
theorem keys_rows {H : Hp} : ∀ {es : List (Rw × Int)} {bs : List Addr}, IsKeys H (es.map encE) bs → Paired (TI H) (bs.map V.ref) (es.map (·.1))
  | [], _, h => by cases h; exact .nil
  | e :: es, _, h => by
    cases h with
    | cons h1 h2 =>
      refine .cons ⟨_, rfl, ?_⟩ (keys_rows h2)
      rw [← enc_kV]
      exact h1
theorem p_worth {ws : Rw} : ∀ {es : List (Rw × Int)} {ys : List V}, Paired (fun (d : List Key × V) y => ∃ T, d.1 = enc T ∧ y = V.int (wsum ws T)) (es.map encE) ys → ys = (es.map fun e => wsum ws e.1).map V.int
  | [], _, h => by cases h; rfl
  | e :: es, _, h => by
    cases h with
    | cons h1 h2 =>
      obtain ⟨T, e1, rfl⟩ := h1
      rw [p_worth h2, ← enc_inj e1]
      rfl
theorem d_reached {P : Program} {w : World} {K : PySem.W.Frag} {mg : Str → Option Value} {base : Heap} (B : Bi mg) (D : DefAt K mg "reached" s_reached) (D_need_state : Df P w K mg base "need_state" 4 ["web", "standing"] sp_need_state) (D_reached_from : Df P w K mg base "reached_from" 2 ["web", "standing"] sp_reached_from) : Df P w K mg base "reached" 5 ["web", "standing"] sp_reached := by
  refine df_mk (st := s_reached) D sc_reached (fun _ _ _ _ _ _ us hl => match us, hl with | [_, _], _ => rfl) sp2.len fun f cdv A outer s H vs Q E hr h => ?_
  obtain ⟨⟨W, S⟩, _, _, rfl, hW, hS, ⟨g, hs⟩, k⟩ := h
  refine ⟨_, (pss_cons (ps_expr (pe_callD D_need_state hr rfl (pa_cons (pv 0) (pa_cons (pv 1) pa_nil))))
      (pss_one (ps_ret (pe_callB (cr_sortL (hu66 hr)) (by rfl) B.sorted (by decide +kernel) (pa_cons (pe_callTy (call_list_dT rfl) (by rfl) B.list (by decide +kernel) (pa_cons (pe_callD D_reached_from (hr.mono (by decide)) rfl (pa_cons (pv 0) (pa_cons (pv 1) pa_nil))) pa_nil)) pa_nil))))), ?_⟩
  simp only at hW hS g hs
  refine ⟨_, rfl, _, rfl, (W, S), _, _, rfl, hW, hS, ⟨g, hs⟩, fun z H1 s1 _ => ?_⟩
  refine ⟨_, rfl, _, rfl, (W, S), _, _, rfl, hW.mono s1, hS.mono s1, ⟨g, hs⟩, fun d es H2 s2 nd hd re le => ?_⟩
  refine ⟨d, _, rfl, .inl hd, fun p bs np hk => ?_⟩
  have hl : LT (upd H2 p (.lst (bs.map V.ref))) (.ref p) (es.map (·.1)) := ⟨p, _, rfl, upd_same, pTI.mono (same_new np) (keys_rows hk)⟩
  refine ⟨_, _, rfl, hl, fun z H3 s3 hz => k _ _ (((s1.trans s2).trans (same_new np)).trans s3) ⟨_, hz, ?_, ?_, fun T => ?_⟩⟩
  · intro e
    have := congrArg List.length e
    rw [rsort_len, List.length_map] at this
    exact re.ne (List.length_eq_zero_iff.mp this)
  · rw [rsort_len, List.length_map]
    exact le
  · rw [mem_rsort]
    exact re.mem
theorem d_worths {P : Program} {w : World} {K : PySem.W.Frag} {mg : Str → Option Value} {base : Heap} (B : Bi mg) (D : DefAt K mg "worths" s_worths) (D_need_state : Df P w K mg base "need_state" 4 ["web", "standing"] sp_need_state) (D_reached_from : Df P w K mg base "reached_from" 2 ["web", "standing"] sp_reached_from) (D_need_weights : Df P w K mg base "need_weights" 3 ["web", "weights"] sp_need_weights) : Df P w K mg base "worths" 5 ["web", "standing", "weights"] sp_worths := by
  refine df_mk (st := s_worths) D sc_worths (fun _ _ _ _ _ _ us hl => match us, hl with | [_, _, _], _ => rfl) sp3.len fun f cdv A outer s H vs Q E hr h => ?_
  obtain ⟨⟨W, S, ws⟩, _, _, _, rfl, hW, hS, hw, ⟨g, hs, hwt⟩, k⟩ := h
  refine ⟨_, (pss_cons (ps_expr (pe_callD D_need_state hr rfl (pa_cons (pv 0) (pa_cons (pv 1) pa_nil))))
      (pss_cons (ps_expr (pe_callD D_need_weights (hr.mono (by decide)) rfl (pa_cons (pv 0) (pa_cons (pv 2) pa_nil))))
      (pss_one (ps_ret (pe_callTy call_tupI (by rfl) B.tuple (by decide +kernel) (pa_cons (pe_callB (cr_sortedSet rfl) (by rfl) B.sorted (by decide +kernel) (pa_cons (pe_callTy (cr_setI rfl) (by rfl) B.set (by decide +kernel) (pa_cons (pe_lc (own := [("here", 3)]) rfl sc_worths.nd (pi_keys (pe_lk (pe_callD D_reached_from (hr.mono (by decide)) rfl (pa_cons (pv 0) (pa_cons (pv 1) pa_nil))))) (blkOk_by (own := [("here", 3)]) (N := ["web", "standing", "weights", "here", "one"]) (sc := defScope s_worths) (by decide +kernel)) (fun _ _ _ _ _ => (pg_name (i := 3) sc_worths.nd rfl (by first | exact Or.inl rfl | exact Or.inr rfl))) (fun _ _ _ _ _ => pts_nil) (fun _ _ _ _ _ => (pe_callB (cr_sumI rfl) (by rfl) B.sum (by decide +kernel) (pa_cons (pe_lc (own := [("one", 4)]) rfl sc_worths.nd (pi_tupK (K := K) rfl (pv 3)) (blkOk_by (own := [("one", 4)]) (by kernel_rfl)) (fun _ _ _ _ _ => (pg_name (i := 4) sc_worths.nd rfl (by first | exact Or.inl rfl | exact Or.inr rfl))) (fun _ _ _ _ _ => pts_nil) (fun _ _ _ _ _ => (pe_ix ix_TI (pv 2) (pv 4) (fun _ _ => rfl)))) pa_nil)))) pa_nil)) pa_nil)) pa_nil)))))), ?_⟩
  simp only at hW hS hw g hs hwt
  refine ⟨_, rfl, _, rfl, (W, S), _, _, rfl, hW, hS, ⟨g, hs⟩, fun z H1 s1 _ => ?_⟩
  refine ⟨_, rfl, _, rfl, (W, ws), _, _, rfl, hW.mono s1, hw.mono s1, hwt, fun z2 H2 s2 _ => ?_⟩
  have s12 := s1.trans s2
  refine ⟨_, rfl, _, rfl, (W, S), _, _, rfl, hW.mono s12, hS.mono s12, ⟨g, hs⟩, fun d es H3 s3 nd hd re le => ?_⟩
  refine ⟨d, _, rfl, hd, trivial, fun od => ?_⟩
  have s4 : Same H (upd H3 d (.frz od (.dT (es.map encE)))) := same_upd (s12.trans s3) (s12.free nd)
  refine ⟨d, od, rfl, .inr ⟨_, upd_same, fun D nD => ?_⟩⟩
  refine lcK upd_same nD (by rw [List.length_map]; exact line32 (Nat.le_trans le (by decide))) (fun _ => true) (fun e _ y => ∃ T, e.1 = enc T ∧ y = .int (wsum ws T)) (fun _ _ _ _ _ h => h) (fun e q H5 he hq s5 Qy Nx q1 _ => ⟨rfl, ?_⟩) (fun H5 ys s5 hD hp => ?_)
  · obtain ⟨e0, he0, rfl⟩ := List.mem_map.mp he
    have hr : Sub W.length e0.1 := hs.sub (re.st e0 he0).2.sub
    have hx : TI H5 (.ref q) e0.1 := ⟨q, rfl, by rw [hq]; exact congrArg (fun l => some (HO.tup l)) (enc_kV _)⟩
    exact rdSum rfl hx (fun _ => rfl) (((hw.mono s4).mono s5)) (fun _ => rfl) (hr.wts hwt) (hr.le g.le5) fun H6 s6 => q1 _ _ rfl s6 ⟨_, rfl, rfl⟩
  · rw [filter_true] at hp
    have ey := p_worth hp
    subst ey
    have s6 := s4.trans s5
    refine ⟨_, _, rfl, .inl ⟨D, rfl, hD⟩, by rw [List.length_map]; exact Nat.le_trans le (by decide), fun ps c np hc => ?_⟩
    rw [List.length_map] at hc
    refine ⟨ps, _, c, rfl, upd_same, by omega, fun ns p7 h1 h2 _ np7 => ?_⟩
    refine ⟨_, _, rfl, ⟨p7, rfl, upd_same⟩, fun z H8 s8 hz => k _ _ (((s6.trans (same_new np)).trans (same_new np7)).trans s8) ⟨ns, hz, h1, fun n => ?_⟩⟩
    rw [h2 n, decide_eq_true_iff, List.mem_map]
    constructor
    · rintro ⟨e, he, rfl⟩
      exact ⟨_, _, (re.st e he).2, rfl⟩
    · rintro ⟨k9, T, hT, rfl⟩
      obtain ⟨e, he, rfl⟩ := List.mem_map.mp (re.mem.mpr ⟨k9, hT⟩)
      exact ⟨e, he, rfl⟩

/-! ### the lambda of calls_to_end -/
def lamE : Expr := match (defBody s_calls_to_end).getD 1 (.Pass ⟨0, 0, 0, 0⟩) with
  | .Return (some (.Call _ args _ _)) _ => args.getD 2 (.Name "" ⟨0, 0, 0, 0⟩)
  | _ => .Name "" ⟨0, 0, 0, 0⟩
def lamPs : Arguments := match lamE with
  | .Lambda p _ _ _ => p
  | _ => defArgs s_calls_to_end
def lamBd : Expr := match lamE with
  | .Lambda _ b _ _ => b
  | _ => .Name "" ⟨0, 0, 0, 0⟩
def lamSc : Scope := match lamE with
  | .Lambda _ _ sc _ => sc
  | _ => defScope s_calls_to_end
theorem lamS1 : LamS1 lamSc "here" "web" where
  kind := rfl
  co := rfl
  gen := rfl
  la := rfl
  lb := rfl
  nocell := by decide +kernel
  onlyF := fun y h => by
    have e : lamSc.names = ([("here", NameKind.local), ("web", NameKind.free), ("apart_in", NameKind.globalImplicit)] : List (Str × NameKind)) := rfl
    rw [e] at h
    by_cases h1 : y = "here"
    · subst h1
      rw [List.lookup_cons_self] at h
      cases h
    · rw [List.lookup_cons, show (y == ("here" : Str)) = false from beq_eq_false_iff_ne.mpr h1] at h
      by_cases h2 : y = "web"
      · exact h2
      · rw [List.lookup_cons, show (y == ("web" : Str)) = false from beq_eq_false_iff_ne.mpr h2, List.lookup_cons] at h
        cases e3 : (y == ("apart_in" : Str)) <;> (rw [e3] at h; cases h)
  nab := by decide +kernel
def sp_least_of : Sp := fun vs H Q _ => ∃ (W : Wb) (S : Rw) (x y v : V) (f : Addr) (q : Str) (c : Addr), vs = [x, y, .ref f] ∧ WB H x W ∧ TI H y S ∧ LamAt H f q lamPs lamBd lamSc "web" c v ∧ WB H v W ∧ Good W ∧ Sub W.length S ∧ (∃ k T, Steps W S k T ∧ apart W T = true) ∧
  ∀ (m : Nat) H', Same H H' → (∃ T, Steps W S m T ∧ apart W T = true) → (∀ k T, Steps W S k T → apart W T = true → m ≤ k) → Q (.int (m : Nat)) H'
theorem spl_len {p q r : Str} (vs : List V) (H : Hp) (Q : VK) (E : XK) (h : sp_least_of vs H Q E) : vs.length = [p, q, r].length := by
  obtain ⟨W, S, x, y, v, f, q, c, rfl, _⟩ := h; rfl
/-- the lambda's cell forgotten while it runs -/
theorem back {H H2 : Hp} {c : Addr} (s : Same (setO H c none) H2) : Same H (setO H2 c (H c)) := fun b o e => by
  by_cases h : b = c
  · subst h; rw [setO_same]; exact e
  · rw [setO_ne h]
    exact s b o (by rw [setO_ne h]; exact e)
theorem sameT_cell {H : Hp} {c : Addr} (h : ∀ xs, H c ≠ some (.tup xs)) : SameT H (setO H c none) := fun b xs e => by
  rw [setO_ne (fun z => h xs (by rw [← z]; exact e))]; exact e
theorem dec_enc (r : Rw) : ((enc r).map fun k => match k with | .inl n => n | .inr _ => 0) = r := by
  unfold enc
  rw [List.map_map]
  exact List.map_id' r
theorem p_many {W : Wb} : ∀ {es : List (Rw × Int)} {ys : List V}, Paired (fun (d : List Key × V) y => y = d.2) ((es.map encE).filter fun e => apart W (e.1.map fun k => match k with | .inl n => n | .inr _ => 0)) ys → ys = ((es.filter fun e => apart W e.1).map (·.2)).map V.int
  | [], _, h => by cases h; rfl
  | e :: es, _, h => by
    rw [List.map_cons, List.filter_cons, show ((encE e).1.map fun k => match k with | .inl n => n | .inr _ => 0) = e.1 from dec_enc e.1] at h
    rw [List.filter_cons]
    by_cases c : apart W e.1 = true
    · rw [if_pos c] at h ⊢
      cases h with
      | cons h1 h2 => rw [p_many h2, h1]; rfl
    · rw [if_neg c] at h ⊢
      exact p_many h
theorem d_least_of {P : Program} {w : World} {K : PySem.W.Frag} {mg : Str → Option Value} {base : Heap} (B : Bi mg) (D_apart_in : Df P w K mg base "apart_in" 1 ["web", "people"] sp_apart_in) (D : DefAt K mg "least_of" s_least_of) (D_reached_from : Df P w K mg base "reached_from" 2 ["web", "standing"] sp_reached_from) : Df P w K mg base "least_of" 3 ["web", "standing", "fits"] sp_least_of := by
  refine df_mk (st := s_least_of) D sc_least_of (fun _ _ _ _ _ _ us hl => match us, hl with | [_, _, _], _ => rfl) spl_len fun f cdv A outer s H vs Q E hr h => ?_
  obtain ⟨W, S, x, y, v, f9, q9, c9, rfl, hW, hS, hL, hV, g, hs, hex, k⟩ := h
  refine ⟨_, (pss_cons (ps_setLc (i := 3) (own := [("here", 4), ("many", 5)]) rfl sc_least_of.nd rfl rfl (sw_true rfl rfl rfl (by decide +kernel)) (pi_itemsT (pe_lk (pe_callD D_reached_from hr rfl (pa_cons (pv 0) (pa_cons (pv 1) pa_nil))))) (blkOk_by (own := [("here", 4), ("many", 5)]) (N := ["web", "standing", "fits", "some", "here", "many"]) (sc := defScope s_least_of) (by decide +kernel)) (fun _ _ _ _ _ => (pg_tupK (K := K) (n := 2) rfl rfl (pgs_cons (pg_name (i := 4) sc_least_of.nd rfl (by first | exact Or.inl rfl | exact Or.inr rfl)) (pgs_cons (pg_name (i := 5) sc_least_of.nd rfl (by first | exact Or.inl rfl | exact Or.inr rfl)) pgs_nil)))) (fun _ _ _ _ _ => pts_one (pt_val (pe_useL (i := 2) (q := q9) (a := "here") (b := "web") (params := lamPs) (body := lamBd) (scope := lamSc) rfl (by first | exact Or.inl rfl | exact Or.inr (Or.inl rfl) | exact Or.inr (Or.inr rfl)) (pv 4) lamS1 hr (fun _ _ _ _ _ => rfl) (fun _ _ _ _ _ _ hr' => (pe_callD D_apart_in hr' rfl (pa_cons (pv 1) (pa_cons (pv 0) pa_nil))))))) (fun _ _ _ _ _ => (pv 5)))
      (pss_cons (ps_if (pt_cmpR (op_eqI (hu64 hr)) (pv 3) (pe_lst pa_nil) (nomark _)) pss_never pss_nil)
      (pss_one (ps_ret (pe_callB (cr_minI rfl) (by rfl) B.min (by decide +kernel) (pa_cons (pv 3) pa_nil)))))), ?_⟩
  obtain ⟨pm0, c0, ctv0, oc0, u0, l1, l2, l3, l4, l5⟩ := hL.ex
  refine ⟨_, rfl, _, rfl, (W, S), _, _, rfl, hW, hS, ⟨g, hs⟩, fun d es H3 s3 nd hd re le => ?_⟩
  refine ⟨d, _, rfl, hd, trivial, fun od => ?_⟩
  have s4 : Same H (upd H3 d (.frz od (.dT (es.map encE)))) := same_upd s3 nd
  refine ⟨d, od, _, rfl, upd_same, fun D nD => ?_⟩
  refine lcI upd_same nD (by rw [List.length_map]; exact line32 (Nat.le_trans le (by decide))) (fun e => apart W (e.1.map fun k => match k with | .inl n => n | .inr _ => 0)) (fun e _ y => y = e.2) (fun _ _ _ _ _ h => h) (fun e T q H5 he hT hq s5 Qy Nx q1 q2 => ?_) (fun H5 ys s5 hD hp => ?_)
  · obtain ⟨e0, he0, rfl⟩ := List.mem_map.mp he
    have hr : Sub W.length e0.1 := hs.sub (re.st e0 he0).2.sub
    have edec : ((encE e0).1.map fun k => match k with | .inl n => n | .inr _ => 0) = e0.1 := by
      show (enc e0.1).map _ = e0.1
      unfold enc
      rw [List.map_map]
      exact List.map_id' e0.1
    have hx : TI H5 (.ref q) e0.1 := ⟨q, rfl, by rw [hq]; exact congrArg (fun l => some (HO.tup l)) (enc_kV _)⟩
    have s6 := s4.trans s5
    have hL5 := hL.mono s6
    have hc5 : H5 c9 = some (.frz oc0 T0) := s6 _ _ l3
    have nt : ∀ xs, H5 c9 ≠ some (.tup xs) := fun xs e => by rw [hc5] at e; cases e
    refine ⟨T, _, rfl, SqT.of hT, rfl, _, _, rfl, _, _, rfl, rfl, rfl, ?_⟩
    refine ⟨f9, c9, v, rfl, hL5, _, rfl, hL5, ?_⟩
    refine ⟨_, rfl, _, rfl, (W, e0.1), _, _, rfl, (hV.mono s6).monoT (sameT_cell nt), hx.monoT (sameT_cell nt), ⟨g, hr⟩, fun z H7 s7 hz => ?_⟩
    obtain rfl : z = .bl (apart W e0.1) := hz
    refine ⟨_, rfl, ?_⟩
    have s8 : Same H5 (setO H7 c9 (H5 c9)) := back s7
    refine if_b (fun c => ?_) (fun c => ?_)
    · exact ⟨_, rfl, q1 _ _ (by rw [edec]; exact c) s8 rfl⟩
    · exact q2 _ (by rw [edec]; exact c) s8
  · have s6 := s4.trans s5
    have ey := p_many hp
    subst ey
    obtain ⟨k0, T0', hT0, ha0⟩ := hex
    have hne : ((es.filter fun e => apart W e.1).map (·.2)) ≠ [] := fun z => by
      obtain ⟨e, he, rfl⟩ := List.mem_map.mp (re.mem.mpr ⟨k0, hT0⟩)
      have : e ∈ es.filter fun e => apart W e.1 := List.mem_filter.mpr ⟨he, ha0⟩
      rw [List.map_eq_nil_iff.mp z] at this
      cases this
    refine ⟨_, rfl, Nat.zero_le _, fun l nl => ?_⟩
    refine ⟨_, [], ⟨D, rfl, same_new nl _ _ hD⟩, ⟨l, rfl, upd_same⟩, _, rfl, ?_⟩
    rw [decide_eq_false hne]
    refine iteF ?_
    refine ⟨_, rfl, _, _, rfl, ⟨D, rfl, same_new nl _ _ hD⟩, hne, fun m h1 h2 => ?_⟩
    obtain ⟨e, he, rfl⟩ := List.mem_map.mp h1
    obtain ⟨he1, he2⟩ := List.mem_filter.mp he
    obtain ⟨h0, hst⟩ := re.st e he1
    have := k e.2.toNat _ (s6.trans (same_new (o := .lst []) nl)) ⟨e.1, hst, he2⟩ fun k1 T1 hT1 ha1 => by
      obtain ⟨d1, hd1, hm1⟩ := re.ful k1 T1 hT1
      have := h2 d1 (List.mem_map.mpr ⟨(T1, d1), List.mem_filter.mpr ⟨hm1, ha1⟩, rfl⟩)
      omega
    rw [Int.toNat_of_nonneg h0] at this
    exact this

/-- where the def's code object is known -/
structure DefAtC (K : PySem.W.Frag) (mg : Str → Option Value) (x : Str) (st : Stmt) (c : Addr) : Prop where
  ex : ∃ (f : Addr) (oc : Value) (od : Option Addr) (kV doc pm : Value) (an : Option Addr) (ct : Value) (osl : Array (Option Value)),
    K.lookup f = some ⟨oc, od, .func (PySem.W.fnOf x x (defArgs st) (defBody st) (defScope st) .none kV doc pm an (.ref c) ct), osl⟩ ∧ PySem.W.codeIn K (.ref c) x = true ∧ PySem.W.keepIn K (.ref f) = true ∧ mg x = some (.ref f)
theorem df_mkC {P : Program} {w : World} {K : PySem.W.Frag} {mg : Str → Option Value} {base : Heap} {x : Str} {st : Stmt} {k : Nat} {N ps : List Str} {sp : Sp} {c : Addr} (D : DefAtC K mg x st c) (S : FnScope N ps (defScope st))
    (bd : ∀ (kV doc pm : Value) (an : Option Addr) (cdv ct : Value) (us : List Value), us.length = ps.length → bindArgs (PySem.W.fnOf x x (defArgs st) (defBody st) (defScope st) .none kV doc pm an cdv ct) ⟨us, []⟩ = pure (ps.zip us))
    (len : ∀ vs H Q E, sp vs H Q E → vs.length = ps.length)
    (hbody : ∀ (f : Addr) (A : Around) (outer : List Env) (s : Shared) (H : Hp) (vs : List V) (Q : VK) (E : XK), Room k (A.deeper (envOfC x (defScope st) s.heap.objs.size f (.ref c))) → sp vs H Q E →
      ∃ t, PSs (cxOf CX0 P w K mg base N x (defScope st) f (.ref c) A outer s H E).nox (defBody st) t ∧ t { nx := fun _ H' => Q .non H', rt := Q } (start N vs) H) : Df P w K mg base x (k + 1) ps sp := by
  obtain ⟨f, oc, od, kV, doc, pm, an, ct, osl, lk, hcd, kp, hm⟩ := D.ex
  refine ⟨f, _, fn_of lk hcd S len fun A outer s H vs Q E hr hsp => ?_, hm, kp, .all (bd kV doc pm an _ ct)⟩
  obtain ⟨t, h, q⟩ := hbody f A outer s H vs Q E hr hsp
  exact ⟨t, h.nox, q⟩
def lamQ : Str := (envOfC "calls_to_end" (defScope s_calls_to_end) 0 0 .none).qual ++ "<lambda>"
abbrev lamT (P : Addr) : List (Addr × Str) := [(P, lamQ)]
def sp_calls_to_end (Pt : Addr) : Sp := fun vs H Q _ => ∃ (W : Wb) (S : Rw) (x y : V), vs = [x, y] ∧ WB H x W ∧ TI H y S ∧ Good W ∧ Sub W.length S ∧ LamX.Tabs (lamT Pt) H ∧ (∃ k T, Steps W S k T ∧ apart W T = true) ∧
  ∀ (m : Nat) H', LamX.ExtN H H' → (∃ T, Steps W S m T ∧ apart W T = true) → (∀ k T, Steps W S k T → apart W T = true → m ≤ k) → Q (.int (m : Nat)) H'
theorem WB.monoN {H H' : Hp} (s : LamX.ExtN H H') {x W} (h : WB H x W) : WB H' x W := h.monoT fun b xs e => s b _ e fun _ z => by cases z
theorem TI.monoN {H H' : Hp} (s : LamX.ExtN H H') {x W} (h : TI H x W) : TI H' x W := h.monoT fun b xs e => s b _ e fun _ z => by cases z
theorem spc_len {Pt : Addr} {p q : Str} (vs : List V) (H : Hp) (Q : VK) (E : XK) (h : sp_calls_to_end Pt vs H Q E) : vs.length = [p, q].length := by
  obtain ⟨W, S, x, y, rfl, _⟩ := h; rfl
theorem lam_free : ∀ y ∈ lamSc.names, y.2 = NameKind.free → (defScope s_calls_to_end).names.lookup y.1 = some .cell ∨ (defScope s_calls_to_end).names.lookup y.1 = some .free := by decide +kernel
theorem d_calls_to_end {P : Program} {w : World} {K : PySem.W.Frag} {mg : Str → Option Value} {base : Heap} (B : Bi mg) {c Pt : Addr} (D : DefAtC K mg "calls_to_end" s_calls_to_end c) (TB : LamX.TabB base mg c Pt) (D_need_state : Df P w K mg base "need_state" 4 ["web", "standing"] sp_need_state) (D_least_of : Df P w K mg base "least_of" 3 ["web", "standing", "fits"] sp_least_of) : Df P w K mg base "calls_to_end" 5 ["web", "standing"] (sp_calls_to_end Pt) := by
  refine df_mkC (st := s_calls_to_end) D sc_calls_to_end (fun _ _ _ _ _ _ us hl => match us, hl with | [_, _], _ => rfl) spc_len fun f A outer s H vs Q E hr h => ?_
  obtain ⟨W, S, x, y, rfl, hW, hS, g, hs, hT, hex, k⟩ := h
  obtain ⟨f9, fd9, F9, m9, k9, b9⟩ := D_least_of.ex
  refine ⟨_, (pss_cons (ps_expr (pe_callD D_need_state hr rfl (pa_cons (pv 0) (pa_cons (pv 1) pa_nil))))
      (pss_one (ps_ret (pe_callC (i := 0) (b := "web") F9 (hr.mono (by decide)) rfl m9 k9 b9 (pa_cons (pv 0) (pa_cons (pv 1) (pa_cons (pe_lamE (T := lamT Pt) (params := lamPs) (body := lamBd) (scope := lamSc) TB rfl List.mem_cons_self (fun p hp _ => by rw [List.mem_singleton.mp hp]; rfl) rfl lam_free) pa_nil))) rfl rfl rfl)))), ?_⟩
  refine ⟨_, rfl, _, rfl, (W, S), _, _, rfl, hW, hS, ⟨g, hs⟩, fun z H1 s1 _ => ?_⟩
  refine ⟨_, rfl, _, rfl, fun p hp => LamX.TabS.ext (hT p hp) s1, fun f2 c' pm ctv H2 e2 T2 nf2 hc' => ?_⟩
  refine ⟨x, rfl, fun cc oc u hcell hn hd rel => ?_⟩
  have ncf : cc ≠ f2 := fun e => by
    rw [e, upd_same] at hn
    cases hn
  have sA : Same H2 (upd (upd H2 f2 (.frz (lamO lamQ lamPs lamBd lamSc [("web", cc)] pm c' ctv) T0)) cc (.frz oc T0)) := (same_new nf2).trans (same_new (by rw [upd_ne ncf] at hn ⊢; exact hn))
  have eclo : ∀ cells : List (Str × Addr), cells.lookup ("web" : Str) = some cc → cloFrom cells lamSc.names [] = [(("web" : Str), cc)] := fun cells h => by
    show [(("web" : Str), (cells.lookup ("web" : Str)).getD 0)] = _
    rw [h]
    rfl
  rw [eclo _ hcell]
  have eN : LamX.ExtN H (upd (upd H2 f2 (.frz (lamO lamQ lamPs lamBd lamSc [("web", cc)] pm c' ctv) T0)) cc (.frz oc T0)) := ((LamX.ExtN.of s1).trans e2).trans (LamX.ExtN.of sA)
  have hcc : H2 cc = none := by rw [upd_ne ncf] at hn; exact hn
  refine ⟨W, S, x, y, x, f2, lamQ, cc, rfl, hW.monoN eN, hS.monoN eN, ⟨pm, c', ctv, oc, u, ?_, ?_, upd_same, hd, rel⟩, hW.monoN eN, g, hs, hex, fun m H3 s3 h1 h2 => ?_⟩
  · rw [upd_ne ncf.symm, upd_same]
    rfl
  · exact sA _ _ hc'
  · refine k m _ (fun b o hb no => ?_) h1 h2
    have hb2 : H2 b = some o := ((LamX.ExtN.of s1).trans e2) b o hb no
    have hne : b ≠ cc := fun e => by
      rw [e, hcc] at hb2
      cases hb2
    rw [setO_ne hne]
    exact s3 _ _ (sA _ _ hb2)
end Ts

set_option Elab.async false
set_option linter.all false
set_option maxRecDepth 100000
set_option maxHeartbeats 4000000
namespace Ts
open PySem PySem.Spec PyProof.Rows L2 StX
abbrev s__law_taken : Stmt := topS 58
theorem sc__law_taken : FnScope ["_law_row", "_law_many", "_law_found", "_law_cell"] ["_law_row", "_law_many"] (defScope s__law_taken) := ⟨rfl, rfl, rfl, by decide +kernel, rfl, by decide +kernel, by decide +kernel⟩
abbrev s__law_pick : Stmt := topS 59
theorem sc__law_pick : FnScope ["_law_row", "_law_kinds"] ["_law_row", "_law_kinds"] (defScope s__law_pick) := ⟨rfl, rfl, rfl, by decide +kernel, rfl, by decide +kernel, by decide +kernel⟩
abbrev s__law_by : Stmt := topS 60
theorem sc__law_by : FnScope ["_law_many", "_law_couples", "_law_found", "_law_one", "_law_other", "_law_person", "_law_own"] ["_law_many", "_law_couples"] (defScope s__law_by) := ⟨rfl, rfl, rfl, by decide +kernel, rfl, by decide +kernel, by decide +kernel⟩
abbrev s__law_web : Stmt := topS 61
theorem sc__law_web : FnScope ["_law_row", "_law_most", "_law_many", "_law_couples", "_law_rare", "_law_one", "_law_other"] ["_law_row", "_law_most"] (defScope s__law_web) := ⟨rfl, rfl, rfl, by decide +kernel, rfl, by decide +kernel, by decide +kernel⟩
abbrev s__law_up : Stmt := topS 62
theorem sc__law_up : FnScope ["_law_row", "_law_web_here", "_law_rare", "_law_person"] ["_law_row", "_law_web_here"] (defScope s__law_up) := ⟨rfl, rfl, rfl, by decide +kernel, rfl, by decide +kernel, by decide +kernel⟩
/-- the row of the script, what is read, the state, what is left -/
structure Scr where
  l : Rw
  a : Addr
structure RowOk (K : PySem.W.Frag) (ns : Scr) (r : Addr) (H : Hp) : Prop where
  ex : ∃ (i x y : Int), H r = some (.lst [.ref ns.a, .int i, .int x, .int y]) ∧ 0 ≤ i ∧ 0 ≤ x ∧ x < 2147483647 ∧ SqL K H ns.a (ns.l.map V.int)
def SameX (r : Addr) (H H' : Hp) : Prop := ∀ b o, b ≠ r → H b = some o → H' b = some o
theorem SameX.refl (r : Addr) (H : Hp) : SameX r H H := fun _ _ _ h => h
theorem SameX.trans {r : Addr} {H H1 H2 : Hp} (a : SameX r H H1) (b : SameX r H1 H2) : SameX r H H2 := fun c o n h => b c o n (a c o n h)
theorem SameX.of {r : Addr} {H H' : Hp} (s : Same H H') : SameX r H H' := fun b o _ h => s b o h
theorem SameX.upd {r : Addr} {H : Hp} {o : HO} : SameX r H (upd H r o) := fun b u n h => by rw [upd_ne n]; exact h
theorem SameX.t {K : PySem.W.Frag} {ns : Scr} {r : Addr} {H H' : Hp} (s : SameX r H H') (h : RowOk K ns r H) : SameT H H' := fun b xs e => s b _ (fun z => by
  obtain ⟨i, x, y, h1, _⟩ := h.ex
  rw [z, h1] at e
  cases e) e
theorem row_seq {K : PySem.W.Frag} {H H' : Hp} {r sc : Addr} {ns : Rw} {w : V} {ws : List V} (s : SameX r H H') (h : H r = some (.lst (.ref sc :: w :: ws))) (q : SqL K H sc (ns.map V.int)) : SqL K H' sc (ns.map V.int) := by
  rcases q with (q | ⟨o, q⟩) | q
  · refine .inl (.inl (s _ _ (fun z => ?_) q))
    rw [z, h] at q
    cases ns with
    | nil => cases q
    | cons n ns => cases q
  · refine .inl (.inr ⟨o, s _ _ (fun z => ?_) q⟩)
    rw [z, h] at q
    cases q
  · exact .inr q
theorem RowOk.mono {K : PySem.W.Frag} {ns : Scr} {r : Addr} {H H' : Hp} (h : RowOk K ns r H) (s : Same H H') : RowOk K ns r H' := by
  obtain ⟨i, x, y, h1, h2, h3, h4, h5⟩ := h.ex
  exact ⟨i, x, y, s _ _ h1, h2, h3, h4, s.seq h5⟩
theorem RowOk.put {K : PySem.W.Frag} {ns : Scr} {r : Addr} {H : Hp} {i x y : Int} {w : V} {ws : List V} (h1 : H r = some (.lst (.ref ns.a :: w :: ws))) (q : SqL K H ns.a (ns.l.map V.int)) (h2 : 0 ≤ i) (h3 : 0 ≤ x) (h4 : x < 2147483647) : RowOk K ns r (upd H r (.lst [.ref ns.a, .int i, .int x, .int y])) :=
  ⟨i, x, y, upd_same, h2, h3, h4, row_seq SameX.upd h1 q⟩
def sp__law_taken (K : PySem.W.Frag) : Sp := fun vs H Q _ => ∃ (ns : Scr) (r : Addr) (many : Int), vs = [.ref r, .int many] ∧ 1 ≤ many ∧ many ≤ 1000 ∧ RowOk K ns r H ∧ ∀ (t : Int) H', SameX r H H' → RowOk K ns r H' → 0 ≤ t → t < many → Q (.int t) H'
theorem spt_len {K : PySem.W.Frag} {p q : Str} (vs : List V) (H : Hp) (Q : VK) (E : XK) (h : sp__law_taken K vs H Q E) : vs.length = [p, q].length := by
  obtain ⟨ns, r, many, rfl, _⟩ := h; rfl
theorem d__law_taken {P : Program} {w : World} {K : PySem.W.Frag} {mg : Str → Option Value} {base : Heap} (B : Bi mg) (D : DefAt K mg "_law_taken" s__law_taken) : Df P w K mg base "_law_taken" 1 ["_law_row", "_law_many"] (sp__law_taken K) := by
  refine df_mk (st := s__law_taken) D sc__law_taken (fun _ _ _ _ _ _ us hl => match us, hl with | [_, _], _ => rfl) spt_len fun f cdv A outer s H vs Q E hr h => ?_
  obtain ⟨ns, r, many, rfl, m1, m2, hR, k⟩ := h
  refine ⟨_, (pss_cons (ps_if (pt_cmpR op_gt (pe_ix ix_list (pv 0) pe_int (fun _ _ => rfl)) pe_int (nomark _)) (pss_cons (ps_set (i := 2) sc__law_taken.nd rfl (by first | exact Or.inl rfl | exact Or.inr rfl) (pe_op op_mod (pe_callTy call_int1 (by rfl) B.int (by decide +kernel) (pa_cons (pe_ix ix_list (pv 0) pe_int (fun _ _ => rfl)) pa_nil)) (pv 1)))
      (pss_cons (ps_asg (pe_op op_fdiv (pe_ix ix_list (pv 0) pe_int (fun _ _ => rfl)) (pv 1)) (pg_sub (pv 0) pe_int set_list))
      (pss_one (ps_ret (pv 2))))) pss_nil)
      (pss_cons (ps_asg (pe_op op_add (pe_ix ix_list (pv 0) pe_int (fun _ _ => rfl)) pe_int) (pg_sub (pv 0) pe_int set_list))
      (pss_cons (ps_if (pt_cmpR op_gt (pe_ix ix_list (pv 0) pe_int (fun _ _ => rfl)) (pe_callB call_len_seq (by rfl) B.len (by decide +kernel) (pa_cons (pe_ix ix_list (pv 0) pe_int (fun _ _ => rfl)) pa_nil)) (nomark _)) (pss_cons (ps_asg (pe_op op_mod (pe_callTy call_int1 (by rfl) B.int (by decide +kernel) (pa_cons (pe_op op_add (pe_op op_mul (pe_ix ix_list (pv 0) pe_int (fun _ _ => rfl)) pe_int) pe_int) pa_nil)) pe_int) (pg_sub (pv 0) pe_int set_list))
      (pss_one (ps_ret (pe_op op_mod (pe_callTy call_int1 (by rfl) B.int (by decide +kernel) (pa_cons (pe_op op_fdiv (pe_ix ix_list (pv 0) pe_int (fun _ _ => rfl)) pe_int) pa_nil)) (pv 1))))) pss_nil)
      (pss_cons (ps_set (i := 3) sc__law_taken.nd rfl (by first | exact Or.inl rfl | exact Or.inr rfl) (pe_ix ix_list (pe_ix ix_list (pv 0) pe_int (fun _ _ => rfl)) (pe_op op_sub (pe_ix ix_list (pv 0) pe_int (fun _ _ => rfl)) pe_int) (fun _ _ => rfl)))
      (pss_cons (ps_asg (pe_op op_mod (pe_callTy call_int1 (by rfl) B.int (by decide +kernel) (pa_cons (pe_op op_add (pe_op op_add (pe_op op_mul (pe_ix ix_list (pv 0) pe_int (fun _ _ => rfl)) pe_int) (pv 3)) pe_int) pa_nil)) pe_int) (pg_sub (pv 0) pe_int set_list))
      (pss_cons (ps_if (pt_cmpR op_ge (pv 3) (pe_op op_pow pe_int pe_int) (nomark _)) (pss_one (ps_asg (pe_op op_fdiv (pv 3) (pv 1)) (pg_sub (pv 0) pe_int set_list))) pss_nil)
      (pss_one (ps_ret (pe_op op_mod (pe_callTy call_int1 (by rfl) B.int (by decide +kernel) (pa_cons (pv 3) pa_nil)) (pv 1)))))))))), ?_⟩
  obtain ⟨i, x, y, h1, h2, h3, h4, h5⟩ := hR.ex
  have mp : (0 : Int) < many := by omega
  have mb : many < 1073741824 := by omega
  refine ⟨_, rfl, r, _, _, _, rfl, rfl, SqL.of h1, rfl, _, _, rfl, rfl, _, rfl, ?_⟩
  refine if_dec (fun c => ?_) (fun c => ?_)
  · refine ⟨_, rfl, r, _, _, _, rfl, rfl, SqL.of h1, rfl, .inl ⟨_, rfl, _, rfl, _, _, rfl, rfl, mp, ?_⟩⟩
    refine ⟨_, rfl, r, _, _, _, rfl, rfl, SqL.of h1, rfl, _, rfl, _, _, rfl, rfl, ⟨mp, mb⟩, ?_⟩
    refine ⟨_, rfl, r, _, _, 3, rfl, rfl, h1, rfl, ?_⟩
    refine ⟨_, rfl, k _ _ SameX.upd (RowOk.put h1 h5 h2 h3 h4) (Int.emod_nonneg _ (by omega)) (Int.emod_lt_of_pos _ mp)⟩
  -- the next number
  refine ⟨_, rfl, r, _, _, _, rfl, rfl, SqL.of h1, rfl, _, _, rfl, rfl, ?_⟩
  refine ⟨_, rfl, r, _, _, 1, rfl, rfl, h1, rfl, ?_⟩
  have e2 : ∀ v, List.set [V.ref ns.a, .int i, .int x, .int y] 1 v = [V.ref ns.a, v, .int x, .int y] := fun _ => rfl
  rw [e2]
  have R2 : RowOk K ns r (upd H r (.lst [.ref ns.a, .int (i + 1), .int x, .int y])) := RowOk.put h1 h5 (by omega) h3 h4
  have S2 : SameX r H (upd H r (.lst [.ref ns.a, .int (i + 1), .int x, .int y])) := SameX.upd
  have h6 := row_seq S2 h1 h5
  have h7 : (upd H r (.lst [.ref ns.a, .int (i + 1), .int x, .int y])) r = some (.lst [.ref ns.a, .int (i + 1), .int x, .int y]) := upd_same
  generalize (upd H r (.lst [.ref ns.a, .int (i + 1), .int x, .int y])) = H2 at *
  refine ⟨_, rfl, r, _, _, _, rfl, rfl, SqL.of h7, rfl, ?_⟩
  refine ⟨_, rfl, r, _, _, _, rfl, rfl, SqL.of h7, rfl, ns.a, _, rfl, .inl h6, _, _, rfl, rfl, _, rfl, ?_⟩
  refine if_dec (fun c2 => ?_) (fun c2 => ?_)
  · refine ⟨_, rfl, r, _, _, _, rfl, rfl, SqL.of h7, rfl, _, _, rfl, rfl, ?_⟩
    refine ⟨.inl ⟨by omega, by omega⟩, _, _, rfl, rfl, .inl ⟨_, rfl, _, _, rfl, rfl, (by show (0 : Int) < 2147483647; decide), ?_⟩⟩
    refine ⟨_, rfl, r, _, _, 2, rfl, rfl, h7, rfl, ?_⟩
    have e3 : ∀ v, List.set [V.ref ns.a, .int (i + 1), .int x, .int y] 2 v = [V.ref ns.a, .int (i + 1), v, .int y] := fun _ => rfl
    rw [e3]
    have R3 : RowOk K ns r (upd H2 r (.lst [.ref ns.a, .int (i + 1), .int ((x * 48271 + 11) % 2147483647), .int y])) := RowOk.put h7 h6 (by omega) (Int.emod_nonneg _ (by decide)) (Int.emod_lt_of_pos _ (by decide))
    have S3 : SameX r H2 (upd H2 r (.lst [.ref ns.a, .int (i + 1), .int ((x * 48271 + 11) % 2147483647), .int y])) := SameX.upd
    refine ⟨_, rfl, r, _, _, _, rfl, rfl, SqL.of upd_same, rfl, _, _, rfl, rfl, ⟨by decide, by decide⟩, .inl ⟨_, rfl, _, rfl, _, _, rfl, rfl, mp, ?_⟩⟩
    exact k _ _ (S2.trans S3) R3 (Int.emod_nonneg _ (by omega)) (Int.emod_lt_of_pos _ mp)
  · have hlt : (i + 1 - 1).toNat < (ns.l.map V.int).length := by
      have : ¬ ((ns.l.map V.int).length : Int) < i + 1 := c2
      omega
    obtain ⟨n, hn⟩ : ∃ n, ns.l[(i + 1 - 1).toNat]? = some n := by
      rw [List.length_map] at hlt
      exact ⟨_, List.getElem?_eq_getElem hlt⟩
    have hat : atI (ns.l.map V.int) (i + 1 - 1) = some (.int n) := atI_of (by omega) (by rw [List.getElem?_map, hn]; rfl)
    refine ⟨_, rfl, r, _, _, _, rfl, rfl, SqL.of h7, rfl, ?_⟩
    refine ⟨_, rfl, r, _, _, _, rfl, rfl, SqL.of h7, rfl, _, _, rfl, rfl, ns.a, _, _, _, rfl, rfl, h6, hat, ?_⟩
    refine ⟨_, rfl, r, _, _, _, rfl, rfl, SqL.of h7, rfl, _, _, rfl, rfl, .inl ⟨by omega, by omega⟩, _, rfl, _, _, rfl, rfl, ?_⟩
    refine ⟨_, _, rfl, rfl, .inl ⟨_, rfl, _, _, rfl, rfl, (by show (0 : Int) < 2147483647; decide), ?_⟩⟩
    refine ⟨_, rfl, r, _, _, 2, rfl, rfl, h7, rfl, ?_⟩
    have e3 : ∀ v, List.set [V.ref ns.a, .int (i + 1), .int x, .int y] 2 v = [V.ref ns.a, .int (i + 1), v, .int y] := fun _ => rfl
    rw [e3]
    have R3 : RowOk K ns r (upd H2 r (.lst [.ref ns.a, .int (i + 1), .int ((x * 48271 + n + 11) % 2147483647), .int y])) := RowOk.put h7 h6 (by omega) (Int.emod_nonneg _ (by decide)) (Int.emod_lt_of_pos _ (by decide))
    have S3 : SameX r H2 (upd H2 r (.lst [.ref ns.a, .int (i + 1), .int ((x * 48271 + n + 11) % 2147483647), .int y])) := SameX.upd
    have h8 := row_seq S3 h7 h6
    have h9 : (upd H2 r (.lst [.ref ns.a, .int (i + 1), .int ((x * 48271 + n + 11) % 2147483647), .int y])) r = some (.lst [.ref ns.a, .int (i + 1), .int ((x * 48271 + n + 11) % 2147483647), .int y]) := upd_same
    generalize (upd H2 r (.lst [.ref ns.a, .int (i + 1), .int ((x * 48271 + n + 11) % 2147483647), .int y])) = H3 at *
    refine ⟨_, rfl, _, _, rfl, rfl, ⟨by decide, by decide, by decide⟩, _, _, rfl, rfl, _, rfl, ?_⟩
    refine if_dec (fun c3 => ?_) (fun c3 => ?_)
    · refine ⟨_, rfl, _, rfl, _, _, rfl, rfl, ⟨mp, mb⟩, ?_⟩
      refine ⟨_, rfl, r, _, _, 3, rfl, rfl, h9, rfl, ?_⟩
      refine ⟨_, rfl, .inl ⟨_, rfl, _, rfl, _, _, rfl, rfl, mp, ?_⟩⟩
      exact k _ _ ((S2.trans S3).trans SameX.upd) (RowOk.put h9 h8 (by omega) (Int.emod_nonneg _ (by decide)) (Int.emod_lt_of_pos _ (by decide))) (Int.emod_nonneg _ (by omega)) (Int.emod_lt_of_pos _ mp)
    · refine ⟨_, rfl, .inl ⟨_, rfl, _, rfl, _, _, rfl, rfl, mp, ?_⟩⟩
      exact k _ _ (S2.trans S3) R3 (Int.emod_nonneg _ (by omega)) (Int.emod_lt_of_pos _ mp)
end Ts

set_option Elab.async false
set_option linter.all false
set_option maxRecDepth 100000
set_option maxHeartbeats 4000000
namespace Ts
open PySem PySem.Spec PyProof.Rows L2 StX
section
variable {X : Cx}
theorem cr_sortedIT : CallR X (.builtin "sorted") (fun vs H Q => ∃ x ns, vs = [x] ∧ LI H x ns ∧ ∀ (ns' : List Int) z H', Same H H' → ns'.Perm ns → ns'.Pairwise (· ≤ ·) → LI H' z ns' → Q z H') := by
  intro pins s σ H xs us Q I r h
  obtain ⟨x, ns, rfl, ⟨t, rfl, e⟩, q⟩ := h
  exact cr_sortedI pins s σ H _ us Q I r ⟨t, ns, rfl, SqL.of e, fun ns' p h1 h2 np => q ns' _ _ (same_new np) h1 h2 ⟨p, rfl, upd_same⟩⟩
theorem call_tupW : CallR X (.type "tuple") (fun vs H Q => ∃ x rows, vs = [x] ∧ LT H x rows ∧ ∀ z H', Same H H' → WB H' z rows → Q z H') := by
  intro pins s σ H xs us Q I r h
  obtain ⟨x, ns, rfl, ⟨t, ys, rfl, e, hp⟩, q⟩ := h
  exact call_tuple_of pins s σ H _ us Q I r ⟨t, _, rfl, .inl ⟨SqL.of e, fun l hl => q _ _ (same_new hl) ⟨l, ys, rfl, upd_same, pTI.mono (same_new hl) hp⟩⟩⟩
end
theorem LT.monoX {K : PySem.W.Frag} {ns : Scr} {r : Addr} {H H' : Hp} {x : V} {rows : List Rw} (h : LT H x rows) (R : RowOk K ns r H) (s : SameX r H H') : LT H' x rows := by
  obtain ⟨t, xs, rfl, e, hp⟩ := h
  refine ⟨t, xs, rfl, s _ _ (fun z => ?_) e, pTI.monoT (s.t R) hp⟩
  obtain ⟨i, x, y, h1, _⟩ := R.ex
  rw [z, h1] at e
  cases e
  cases hp with
  | cons a b =>
    cases b with
    | cons c d =>
      obtain ⟨q, z, _⟩ := c
      cases z
def sp__law_pick (K : PySem.W.Frag) : Sp := fun vs H Q _ => ∃ (ns : Scr) (r : Addr) (x : V) (rows : List Rw), vs = [.ref r, x] ∧ LT H x rows ∧ rows ≠ [] ∧ rows.length ≤ 1000 ∧ RowOk K ns r H ∧ ∀ z H' T, SameX r H H' → RowOk K ns r H' → T ∈ rows → TI H' z T → Q z H'
theorem spp_len {K : PySem.W.Frag} {p q : Str} (vs : List V) (H : Hp) (Q : VK) (E : XK) (h : sp__law_pick K vs H Q E) : vs.length = [p, q].length := by
  obtain ⟨ns, r, x, rows, rfl, _⟩ := h; rfl
theorem d__law_pick {P : Program} {w : World} {K : PySem.W.Frag} {mg : Str → Option Value} {base : Heap} (B : Bi mg) (D : DefAt K mg "_law_pick" s__law_pick) (D__law_taken : Df P w K mg base "_law_taken" 1 ["_law_row", "_law_many"] (sp__law_taken K)) : Df P w K mg base "_law_pick" 2 ["_law_row", "_law_kinds"] (sp__law_pick K) := by
  refine df_mk (st := s__law_pick) D sc__law_pick (fun _ _ _ _ _ _ us hl => match us, hl with | [_, _], _ => rfl) spp_len fun f cdv A outer s H vs Q E hr h => ?_
  obtain ⟨ns, r, x, rows, rfl, hx, hne, hle, hR, k⟩ := h
  refine ⟨_, (pss_one (ps_ret (pe_ix ix_LT (pv 1) (pe_callD D__law_taken hr rfl (pa_cons (pv 0) (pa_cons (pe_callB call_lenL (by rfl) B.len (by decide +kernel) (pa_cons (pv 1) pa_nil)) pa_nil))) (fun _ _ => rfl)))), ?_⟩
  have hpos : 0 < rows.length := List.length_pos_iff.mpr hne
  refine ⟨_, rfl, _, rfl, _, rfl, _, _, rfl, hx, ?_⟩
  refine ⟨ns, r, _, rfl, by omega, by omega, hR, fun t H' s R h0 h1 => ?_⟩
  refine ⟨rows, t, hx.monoX hR s, rfl, h0, h1, fun z hz => k _ _ _ s R ?_ hz⟩
  have := fr_at h0 h1
  exact List.mem_of_getElem? this
/-! ### the web by its couples -/
def encK (k : Int) : Key × V := (Sum.inl k, .bl true)
def ins (ks : List Int) (j : Int) : List Int := if j ∈ ks then ks else ks ++ [j]
theorem encK_any (ks : List Int) (j : Int) : ((ks.map encK).any fun kv => decide (kv.1 = Sum.inl j)) = decide (j ∈ ks) := by
  rw [List.any_map]
  refine Bool.eq_iff_iff.mpr ?_
  rw [List.any_eq_true, decide_eq_true_iff]
  constructor
  · rintro ⟨k, hk, h⟩
    have : (Sum.inl k : Key) = Sum.inl j := of_decide_eq_true h
    injection this with e
    rw [← e]; exact hk
  · intro h
    exact ⟨j, h, decide_eq_true rfl⟩
theorem putK_ins (ks : List Int) (j : Int) : putK (ks.map encK) (Sum.inl j) (.bl true) = (ins ks j).map encK := by
  unfold putK ins
  rw [encK_any]
  by_cases h : j ∈ ks
  · rw [if_pos (decide_eq_true h), if_pos h, List.map_map]
    refine List.map_congr_left fun k _ => ?_
    show (if (encK k).1 = Sum.inl j then ((encK k).1, V.bl true) else encK k) = encK k
    split <;> rfl
  · rw [if_neg (by rw [decide_eq_false h]; decide), if_neg h, List.map_append]
    rfl
theorem ins_nodup {ks : List Int} (h : ks.Nodup) (j : Int) : (ins ks j).Nodup := by
  unfold ins
  split
  · exact h
  · rename_i hj
    exact List.nodup_append.mpr ⟨h, by simp, fun a ha b hb e => hj (by rw [← List.mem_singleton.mp hb, ← e]; exact ha)⟩
theorem mem_ins {ks : List Int} {j k : Int} : k ∈ ins ks j ↔ k ∈ ks ∨ k = j := by
  unfold ins
  split
  · rename_i hj
    exact ⟨.inl, fun h => h.elim id fun e => e ▸ hj⟩
  · rw [List.mem_append, List.mem_singleton]
/-- the dicts under way -/
structure Dk (H0 : Hp) (l : Addr) (n : Nat) (A : Nat → Addr) (KS : Nat → List Int) (H : Hp) : Prop where
  sm : Same H0 H
  nl : H0 l = none
  at_ : H l = some (.lst ((List.range n).map fun i => V.ref (A i)))
  nA : ∀ i, i < n → H0 (A i) = none
  inj : ∀ i j, i < n → j < n → A i = A j → i = j
  dk : ∀ i, i < n → H (A i) = some (.dK ((KS i).map encK))
  nod : ∀ i, i < n → (KS i).Nodup
theorem Dk.put {H0 H : Hp} {l : Addr} {n : Nat} {A : Nat → Addr} {KS : Nat → List Int} (d : Dk H0 l n A KS H) {i : Nat} (hi : i < n) (j : Int) : Dk H0 l n A (fun m => if m = i then ins (KS i) j else KS m) (upd H (A i) (.dK ((ins (KS i) j).map encK))) := by
  refine ⟨same_upd d.sm (d.nA i hi), d.nl, ?_, d.nA, d.inj, fun m hm => ?_, fun m hm => ?_⟩
  · rw [upd_ne (ne_of d.at_ (d.dk i hi) fun z => by cases z)]
    exact d.at_
  · by_cases e : m = i
    · subst e
      rw [if_pos rfl, upd_same]
    · rw [if_neg e, upd_ne fun z => e (d.inj m i hm hi z)]
      exact d.dk m hm
  · by_cases e : m = i
    · subst e
      show (if m = m then _ else _ : List Int).Nodup
      rw [if_pos rfl]
      exact ins_nodup (d.nod m hi) j
    · show (if m = i then _ else _ : List Int).Nodup
      rw [if_neg e]
      exact d.nod m hm
def CL (H : Hp) (x : V) (E : List (Int × Int)) : Prop := ∃ t xs, x = .ref t ∧ H t = some (.lst xs) ∧ Paired (fun v (e : Int × Int) => ∃ q, v = .ref q ∧ H q = some (.tup [.int e.1, .int e.2])) xs E
def EOk (n : Nat) (E : List (Int × Int)) : Prop := ∀ e ∈ E, 0 ≤ e.1 ∧ e.1 < e.2 ∧ e.2 < n
def sp__law_by : Sp := fun vs H Q _ => ∃ (n : Nat) (x : V) (E : List (Int × Int)), vs = [.int n, x] ∧ 1 ≤ n ∧ n ≤ 5 ∧ CL H x E ∧ EOk n E ∧ ∀ z W H', Same H H' → Good W → WB H' z W → Q z H'
theorem spb_len {p q : Str} (vs : List V) (H : Hp) (Q : VK) (E : XK) (h : sp__law_by vs H Q E) : vs.length = [p, q].length := by
  obtain ⟨n, x, E, rfl, _⟩ := h; rfl

theorem p_map {α β : Type} (f : α → β) : ∀ l : List α, Paired (fun a b => b = f a) l (l.map f)
  | [] => .nil
  | a :: l => .cons rfl (p_map f l)
theorem p_ex {H : Hp} {G : Nat → Rw → Prop} : ∀ {is : List Nat} {ys : List V}, Paired (fun i y => ∃ ns, TI H y ns ∧ G i ns) is ys → ∃ rows, Paired (TI H) ys rows ∧ Paired G is rows
  | _, _, .nil => ⟨[], .nil, .nil⟩
  | _, _, .cons ⟨ns, h1, h2⟩ t => by
    obtain ⟨rows, a, b⟩ := p_ex t
    exact ⟨ns :: rows, .cons h1 a, .cons h2 b⟩
theorem small_len {n : Nat} {ks : List Int} (h : ks.Nodup) (hb : ∀ j ∈ ks, 0 ≤ j ∧ j < n) : ks.length ≤ n := by
  have := nodup_len (m := (List.range n).map fun i : Nat => (i : Int)) h fun j hj => by
    obtain ⟨a, b⟩ := hb j hj
    refine List.mem_map.mpr ⟨j.toNat, List.mem_range.mpr (by omega), Int.toNat_of_nonneg a⟩
  rwa [List.length_map, List.length_range] at this
theorem good_of {n : Nat} {KS : Nat → List Int} {rows : List Rw} {E : List (Int × Int)} (n1 : 1 ≤ n) (n5 : n ≤ 5) (hok : EOk n E) (hm : ∀ i j, i < n → (j ∈ KS i ↔ ((i : Int), j) ∈ E ∨ (j, (i : Int)) ∈ E)) (hn : ∀ i, i < n → (KS i).Nodup)
    (hp : Paired (fun i r => r.Perm (KS i) ∧ r.Pairwise (· ≤ ·)) (List.range n) rows) : Good rows := by
  have hl : rows.length = n := by rw [← Paired.length hp, List.length_range]
  have at_ : ∀ i r, rows[i]? = some r → i < n ∧ r.Perm (KS i) ∧ r.Pairwise (· ≤ ·) := fun i r h => by
    obtain ⟨j, h1, h2, h3⟩ := paired_get2 hp h
    obtain ⟨h4, h5⟩ := List.getElem?_eq_some_iff.mp h1
    rw [List.getElem_range] at h5
    subst h5
    rw [List.length_range] at h4
    exact ⟨h4, h2, h3⟩
  have frm : ∀ (p j : Int), 0 ≤ p → p < rows.length → (j ∈ fr rows p ↔ (p, j) ∈ E ∨ (j, p) ∈ E) := fun p j h0 h1 => by
    obtain ⟨a, b, _⟩ := at_ _ _ (fr_at h0 h1)
    rw [b.mem_iff, hm _ _ a, Int.toNat_of_nonneg h0]
  have bnd : ∀ (p j : Int), (p, j) ∈ E ∨ (j, p) ∈ E → 0 ≤ j ∧ j < n ∧ j ≠ p := fun p j h => by
    rcases h with h | h
    · have := hok _ h; simp only at this; omega
    · have := hok _ h; simp only at this; omega
  refine ⟨by omega, by omega, fun r hr => ?_, fun p h0 h1 h => ?_, fun p h0 h1 q hq => ?_⟩
  · obtain ⟨i, hi⟩ := List.mem_iff_getElem?.mp hr
    obtain ⟨h1, h2, h3⟩ := at_ i r hi
    refine ⟨?_, fun x hx => ?_⟩
    · have nd : r.Nodup := h2.nodup_iff.mpr (hn i h1)
      have := List.Pairwise.and h3 nd
      exact this.imp fun ⟨a, b⟩ => by omega
    · have := bnd i x ((hm i x h1).mp (h2.mem_iff.mp hx))
      rw [hl]; omega
  · exact (bnd p p ((frm p p h0 h1).mp h)).2.2 rfl
  · have e := (frm p q h0 h1).mp hq
    have := bnd p q e
    rw [frm q p this.1 (by rw [hl]; exact this.2.1)]
    exact e.symm
def addA (A : Nat → Addr) (i : Nat) (d : Addr) : Nat → Addr := fun j => if j = i then d else A j
theorem addA_self {A : Nat → Addr} {i : Nat} {d : Addr} : addA A i d i = d := if_pos rfl
theorem addA_ne {A : Nat → Addr} {i j : Nat} {d : Addr} (h : j ≠ i) : addA A i d j = A j := if_neg h
theorem d__law_by {P : Program} {w : World} {K : PySem.W.Frag} {mg : Str → Option Value} {base : Heap} (B : Bi mg) (D : DefAt K mg "_law_by" s__law_by) : Df P w K mg base "_law_by" 1 ["_law_many", "_law_couples"] (sp__law_by) := by
  refine df_mk (st := s__law_by) D sc__law_by (fun _ _ _ _ _ _ us hl => match us, hl with | [_, _], _ => rfl) spb_len fun f cdv A outer s H vs Q E hr h => ?_
  obtain ⟨n, x, E, rfl, n1, n5, hE, hok, k⟩ := h
  refine ⟨_, (pss_cons (ps_setLc (i := 2) (own := [("_law_person", 5)]) rfl sc__law_by.nd rfl rfl (sw_true rfl rfl rfl (by decide +kernel)) (pi_range1 (by rfl) B.range (pa_cons (pv 0) pa_nil)) (blkOk_by (own := [("_law_person", 5)]) (N := ["_law_many", "_law_couples", "_law_found", "_law_one", "_law_other", "_law_person", "_law_own"]) (sc := defScope s__law_by) (by decide +kernel)) (fun _ _ _ _ _ => (pg_name (i := 5) sc__law_by.nd rfl (by first | exact Or.inl rfl | exact Or.inr rfl))) (fun _ _ _ _ _ => pts_nil) (fun _ _ _ _ _ => pe_dnewK))
      (pss_cons (ps_for PassesOwn.never rfl (pi_list (pv 1)) (pg_tup rfl (pgs_cons (pg_name (i := 3) sc__law_by.nd rfl (by first | exact Or.inl rfl | exact Or.inr rfl)) (pgs_cons (pg_name (i := 4) sc__law_by.nd rfl (by first | exact Or.inl rfl | exact Or.inr rfl)) pgs_nil))) (pss_cons (ps_dput (hu_of hr) (pe_ix ix_list (pv 2) (pv 3) (fun _ _ => rfl)) (pv 4) pe_bl rfl)
      (pss_one (ps_dput (hu_of hr) (pe_ix ix_list (pv 2) (pv 4) (fun _ _ => rfl)) (pv 3) pe_bl rfl))))
      (pss_one (ps_ret (pe_callTy call_tupW (by rfl) B.tuple (by decide +kernel) (pa_cons (pe_lc (own := [("_law_own", 6)]) rfl sc__law_by.nd (pi_list (pv 2)) (blkOk_by (own := [("_law_own", 6)]) (N := ["_law_many", "_law_couples", "_law_found", "_law_one", "_law_other", "_law_person", "_law_own"]) (sc := defScope s__law_by) (by decide +kernel)) (fun _ _ _ _ _ => (pg_name (i := 6) sc__law_by.nd rfl (by first | exact Or.inl rfl | exact Or.inr rfl))) (fun _ _ _ _ _ => pts_nil) (fun _ _ _ _ _ => (pe_callTy call_tupI (by rfl) B.tuple (by decide +kernel) (pa_cons (pe_callB cr_sortedIT (by rfl) B.sorted (by decide +kernel) (pa_cons (pe_callTy (call_list_dK rfl) (by rfl) B.list (by decide +kernel) (pa_cons (pv 6) pa_nil)) pa_nil)) pa_nil)))) pa_nil)))))), ?_⟩
  obtain ⟨t, xs, rfl, ht, hxs⟩ := hE
  refine ⟨_, rfl, _, rfl, ?_, ?_, fun D nD => ?_⟩
  · omega
  · omega
  refine lc_range (lo := 0) (n := n) (fun i H' => Same H H' ∧ ∃ A : Nat → Addr, H' D = some (.lst ((List.range i).map fun j => V.ref (A j))) ∧ (∀ j, j < i → H (A j) = none ∧ H' (A j) = some (.dK [])) ∧ ∀ a b, a < i → b < i → A a = A b → a = b) ⟨same_new nD, fun _ => 0, by rw [upd_same]; rfl, fun j h => by omega, fun a b h => by omega⟩ (fun i H' hi ⟨s, A, h1, h2, h3⟩ => ⟨rfl, fun d nd => ?_⟩) (fun H' ⟨s, A, h1, h2, h3⟩ => ?_)
  · have nDd : D ≠ d := ne_of_none h1 nd
    refine ⟨_, by rw [upd_ne nDd]; exact h1, by rw [List.length_map, List.length_range]; exact small1000 (by omega), same_upd (s.trans (same_new nd)) nD, addA A i d, ?_, fun j hj => ?_, fun a b ha hb e => ?_⟩
    · rw [upd_same, List.range_succ, List.map_append]
      refine congrArg (fun l => some (HO.lst l)) ?_
      refine congr (congrArg _ (List.map_congr_left fun j hj => ?_)) ?_
      · rw [addA_ne (by have := List.mem_range.mp hj; omega)]
      · rw [List.map_cons, List.map_nil, addA_self]
    · by_cases e : j = i
      · subst e
        rw [addA_self]
        exact ⟨s.free nd, by rw [upd_ne nDd.symm, upd_same]⟩
      · rw [addA_ne e]
        obtain ⟨a, b⟩ := h2 j (by omega)
        exact ⟨a, by rw [upd_ne (ne_of b h1 fun z => by cases z), upd_ne (ne_of_none b nd)]; exact b⟩
    · by_cases ea : a = i <;> by_cases eb : b = i
      · omega
      · subst ea
        rw [addA_self, addA_ne eb] at e
        have := (h2 b (by omega)).2
        rw [← e, nd] at this
        cases this
      · subst eb
        rw [addA_self, addA_ne ea] at e
        have := (h2 a (by omega)).2
        rw [e, nd] at this
        cases this
      · rw [addA_ne ea, addA_ne eb] at e
        exact h3 a b (by omega) (by omega) e
  have D0 : Dk H D n A (fun _ => []) H' := ⟨s, nD, h1, fun i hi => (h2 i hi).1, h3, fun i hi => (h2 i hi).2, fun _ _ => .nil⟩
  refine ⟨_, rfl, t, rfl, ⟨_, SqL.of (s _ _ ht)⟩, ?_⟩
  refine forL (as := E) (S0 := fun e v => ∃ q, v = .ref q ∧ H q = some (.tup [.int e.1, .int e.2])) (p_flip hxs) (fun done σ H2 => ∃ (KS : Nat → List Int) (v3 v4 : Option V), σ = [some (.int n), some (.ref t), some (.ref D), v3, v4, none, none] ∧ Dk H D n A KS H2 ∧ ∀ i j, i < n → (j ∈ KS i ↔ ((i : Int), j) ∈ done ∨ (j, (i : Int)) ∈ done)) ⟨fun _ => [], none, none, rfl, D0, fun i j hi => by simp⟩ (fun _ σ H2 ⟨_, _, _, _, d, _⟩ => SqL.of (d.sm _ _ ht)) ?_ ?_
  · rintro done ⟨a, b⟩ v σ H2 ⟨rr, er⟩ ⟨q, rfl, hq⟩ ⟨KS, v3, v4, rfl, d, hm⟩
    have hab := hok (a, b) (by rw [er]; simp)
    simp only at hab hq
    have hdone : EOk n done := fun e he => hok e (by rw [er]; exact List.mem_append_left _ he)
    have bnd : ∀ i, i < n → ∀ j ∈ KS i, 0 ≤ j ∧ j < n := fun i hi j hj => by
      rcases (hm i j hi).mp hj with h | h
      · have := hdone _ h; simp only at this; omega
      · have := hdone _ h; simp only at this; omega
    have ha : a.toNat < n := by omega
    have hb : b.toNat < n := by omega
    have atA : ∀ c : Int, 0 ≤ c → c.toNat < n → atI ((List.range n).map fun i => V.ref (A i)) c = some (.ref (A c.toNat)) := fun c h0 hc => atI_of h0 (by rw [List.getElem?_map, List.getElem?_range hc]; rfl)
    refine ⟨q, _, rfl, SqT.of (d.sm _ _ hq), rfl, _, _, rfl, _, _, rfl, rfl, ?_⟩
    refine ⟨_, rfl, _, rfl, D, _, _, _, rfl, rfl, SqL.of d.at_, atA a hab.1 ha, _, rfl, A a.toNat, _, rfl, DPut.k (k := Sum.inl b) (d.dk _ ha) ?_, ?_⟩
    · rw [List.length_map]
      have := small_len (d.nod _ ha) (bnd _ ha)
      exact small1000 (by omega)
    rw [putK_ins]
    have d2 := d.put ha b
    have bnd2 : ∀ j ∈ (if b.toNat = a.toNat then ins (KS a.toNat) b else KS b.toNat), 0 ≤ j ∧ j < n := by
      rw [if_neg (by omega)]
      exact bnd _ hb
    refine ⟨_, rfl, _, rfl, D, _, _, _, rfl, rfl, SqL.of d2.at_, atA b (by omega) hb, _, rfl, A b.toNat, _, rfl, DPut.k (k := Sum.inl a) (d2.dk _ hb) ?_, ?_⟩
    · rw [List.length_map]
      have := small_len (d2.nod _ hb) bnd2
      exact small1000 (by omega)
    rw [putK_ins]
    refine ⟨_, _, _, rfl, d2.put hb a, fun i j hi => ?_⟩
    have h0 := hm i j hi
    rw [List.mem_append, List.mem_append, List.mem_singleton, List.mem_singleton, Prod.mk.injEq, Prod.mk.injEq]
    by_cases e1 : i = b.toNat
    · subst e1
      rw [if_pos rfl, if_neg (by omega), mem_ins, h0]
      have : (b.toNat : Int) = b := Int.toNat_of_nonneg (by omega)
      rw [this]
      constructor
      · rintro ((h | h) | h)
        · exact .inl (.inl h)
        · exact .inr (.inl h)
        · exact .inr (.inr ⟨h, rfl⟩)
      · rintro ((h | h) | (h | h))
        · exact .inl (.inl h)
        · omega
        · exact .inl (.inr h)
        · exact .inr h.1
    · rw [if_neg e1]
      by_cases e2 : i = a.toNat
      · subst e2
        rw [if_pos rfl, mem_ins, h0]
        have : (a.toNat : Int) = a := Int.toNat_of_nonneg (by omega)
        rw [this]
        constructor
        · rintro ((h | h) | h)
          · exact .inl (.inl h)
          · exact .inr (.inl h)
          · exact .inl (.inr ⟨rfl, h⟩)
        · rintro ((h | h) | (h | h))
          · exact .inl (.inl h)
          · exact .inr h.2
          · exact .inl (.inr h)
          · omega
      · rw [if_neg e2, h0]
        constructor
        · rintro (h | h)
          · exact .inl (.inl h)
          · exact .inr (.inl h)
        · rintro ((h | h) | (h | h))
          · exact .inl h
          · omega
          · exact .inr h
          · omega
  · rintro σ H2 ⟨KS, v3, v4, rfl, d, hm⟩
    refine ⟨_, rfl, D, rfl, ⟨_, SqL.of d.at_⟩, fun D2 nD2 => ?_⟩
    refine cL (as := List.range n) (S0 := fun i x => x = V.ref (A i)) d.at_ (p_map _ _) nD2 (by rw [List.length_range]; exact line32 (by omega)) (fun _ => true) (fun i H y => ∃ ns, TI H y ns ∧ (ns.Perm (KS i) ∧ ns.Pairwise (· ≤ ·))) (fun _ _ _ _ st ⟨ns, h1, h2⟩ => ⟨ns, h1.monoT st, h2⟩) (fun _ _ _ _ _ _ _ q => q _ (Same.refl _)) (fun i x H3 hi _ hx s3 Qy q => ?_) (fun H3 ys s3 hD3 hp => ?_)
    · subst hx
      have hi' := List.mem_range.mp hi
      refine ⟨_, rfl, A i, _, rfl, s3 _ _ (d.dk i hi'), fun ql nql => ?_⟩
      have eLI : LI (upd H3 ql (.lst (((KS i).map encK).map fun kv => kV kv.1))) (.ref ql) (KS i) := ⟨ql, rfl, by rw [upd_same, List.map_map]; rfl⟩
      refine ⟨_, _, rfl, eLI, fun ns' z H4 s4 pe pw => ?_⟩
      intro hz
      refine ⟨_, _, rfl, hz, fun z2 H5 s5 hz2 => ?_⟩
      exact q _ _ (((same_new nql).trans s4).trans s5) ⟨ns', hz2, pe, pw⟩
    · rw [filter_true] at hp
      obtain ⟨rows, h5, h6⟩ := p_ex hp
      exact ⟨_, rows, rfl, ⟨D2, ys, rfl, hD3, h5⟩, fun z H4 s4 hz => k z rows _ ((d.sm.trans s3).trans s4) (good_of n1 n5 hok hm d.nod h6) hz⟩
end Ts

set_option Elab.async false
set_option linter.all false
set_option maxRecDepth 100000
set_option maxHeartbeats 4000000
namespace Ts
open PySem PySem.Spec PyProof.Rows L2 StX
def CP (H : Hp) (v : V) (e : Int × Int) : Prop := ∃ q, v = .ref q ∧ H q = some (.tup [.int e.1, .int e.2])
theorem CP.monoT {H H' : Hp} (s : SameT H H') {v e} (h : CP H v e) : CP H' v e := let ⟨q, e1, e2⟩ := h; ⟨q, e1, s _ _ e2⟩
theorem pCP {H H' : Hp} (s : SameT H H') {xs E} (h : Paired (CP H) xs E) : Paired (CP H') xs E := L2.Paired.mapP h fun _ _ q => q.monoT s
theorem RowOk.ne {K : PySem.W.Frag} {ns : Scr} {r D : Addr} {H : Hp} (R : RowOk K ns r H) (h : H D = none) : D ≠ r := fun e => by
  obtain ⟨i, x, y, h1, _⟩ := R.ex
  rw [e, h1] at h
  cases h
def sp__law_web (K : PySem.W.Frag) : Sp := fun vs H Q _ => ∃ (ns : Scr) (r : Addr), vs = [.ref r, .int 5] ∧ RowOk K ns r H ∧ ∀ z W H', SameX r H H' → RowOk K ns r H' → Good W → WB H' z W → Q z H'
def sp__law_up (K : PySem.W.Frag) : Sp := fun vs H Q _ => ∃ (ns : Scr) (r : Addr) (x : V) (W : Wb), vs = [.ref r, x] ∧ RowOk K ns r H ∧ WB H x W ∧ Good W ∧ ∀ z S H', SameX r H H' → RowOk K ns r H' → Sub W.length S → TI H' z S → Q z H'
theorem spw_len {K : PySem.W.Frag} {p q : Str} (vs : List V) (H : Hp) (Q : VK) (E : XK) (h : sp__law_web K vs H Q E) : vs.length = [p, q].length := by
  obtain ⟨ns, r, rfl, _⟩ := h; rfl
theorem spu_len {K : PySem.W.Frag} {p q : Str} (vs : List V) (H : Hp) (Q : VK) (E : XK) (h : sp__law_up K vs H Q E) : vs.length = [p, q].length := by
  obtain ⟨ns, r, x, W, rfl, _⟩ := h; rfl
/-- the list at D is filled while the row is read -/
theorem RowOk.fill {K : PySem.W.Frag} {ns : Scr} {r D : Addr} {H1 H : Hp} {xs ys : List V} (R : RowOk K ns r H) (R1 : RowOk K ns r H1) (nD : H1 D = none) (hD : H D = some (.lst xs)) : RowOk K ns r (L2.upd H D (.lst ys)) := by
  have hr := R1.ne nD
  obtain ⟨i, x, y, h1, h2, h3, h4, h5⟩ := R.ex
  obtain ⟨_, _, _, _, _, _, _, q⟩ := R1.ex
  refine ⟨i, x, y, by rw [upd_ne hr.symm]; exact h1, h2, h3, h4, ?_⟩
  rcases h5 with (h5 | ⟨o, h5⟩) | h5
  · rcases q with (q | ⟨o, q⟩) | q
    · exact .inl (.inl (by rw [upd_ne (ne_of_none q nD)]; exact h5))
    · exact .inl (.inl (by rw [upd_ne (ne_of_none q nD)]; exact h5))
    · exact .inr q
  · exact .inl (.inr ⟨o, by rw [upd_ne (ne_of h5 hD fun z => by cases z)]; exact h5⟩)
  · exact .inr h5
theorem d__law_up {P : Program} {w : World} {K : PySem.W.Frag} {mg : Str → Option Value} {base : Heap} (B : Bi mg) (D : DefAt K mg "_law_up" s__law_up) (D__law_taken : Df P w K mg base "_law_taken" 1 ["_law_row", "_law_many"] (sp__law_taken K)) : Df P w K mg base "_law_up" 2 ["_law_row", "_law_web_here"] (sp__law_up K) := by
  refine df_mk (st := s__law_up) D sc__law_up (fun _ _ _ _ _ _ us hl => match us, hl with | [_, _], _ => rfl) spu_len fun f cdv A outer s H vs Q E hr h => ?_
  obtain ⟨ns, r, x, W, rfl, hR, hW, g, k⟩ := h
  refine ⟨_, (pss_cons (ps_set (i := 2) sc__law_up.nd rfl (by first | exact Or.inl rfl | exact Or.inr rfl) (pe_op op_add pe_int (pe_callD D__law_taken hr rfl (pa_cons (pv 0) (pa_cons pe_int pa_nil)))))
      (pss_one (ps_ret (pe_callTy call_tupI (by rfl) B.tuple (by decide +kernel) (pa_cons (pe_lc (own := [("_law_person", 3)]) rfl sc__law_up.nd (pi_range1 (by rfl) B.range (pa_cons (pe_callB call_lenW (by rfl) B.len (by decide +kernel) (pa_cons (pv 1) pa_nil)) pa_nil)) (blkOk_by (own := [("_law_person", 3)]) (N := ["_law_row", "_law_web_here", "_law_rare", "_law_person"]) (sc := defScope s__law_up) (by decide +kernel)) (fun _ _ _ _ _ => (pg_name (i := 3) sc__law_up.nd rfl (by first | exact Or.inl rfl | exact Or.inr rfl))) (fun _ _ _ _ _ => pts_one (pt_cmpR op_gt (pe_callD D__law_taken hr rfl (pa_cons (pv 0) (pa_cons (pv 2) pa_nil))) pe_int (nomark _))) (fun _ _ _ _ _ => (pv 3))) pa_nil))))), ?_⟩
  have le5 := g.le5
  refine ⟨_, rfl, ns, r, 4, rfl, by decide, by decide, hR, fun t H1 s1 R1 t0 t4 => ?_⟩
  refine ⟨_, _, rfl, rfl, ?_⟩
  have hW1 := hW.monoT (s1.t hR)
  refine ⟨_, rfl, _, _, rfl, hW1, _, rfl, by omega, by omega, fun D nD => ?_⟩
  have hDr := R1.ne nD
  refine lc_range (lo := 0) (n := W.length) (fun i H' => ∃ S : Rw, H' D = some (.lst (S.map V.int)) ∧ Sub i S ∧ SameX r H1 H' ∧ RowOk K ns r H') ⟨[], upd_same, Sub.nil, .of (same_new nD), R1.mono (same_new nD)⟩ (fun i H' hi ⟨S, h1, h2, h3, R⟩ => ?_) (fun H' ⟨S, h1, h2, h3, R⟩ => ?_)
  · refine ⟨rfl, _, rfl, _, rfl, ns, r, 2 + t, rfl, by omega, by omega, R, fun u H2 s2 R2 u0 u1 => ?_⟩
    have h1' : H2 D = some (.lst (S.map V.int)) := s2 _ _ hDr h1
    have h3' := h3.trans s2
    refine ⟨_, _, rfl, rfl, _, rfl, ?_⟩
    refine if_dec (fun c => ?_) (fun c => ?_)
    · refine ⟨_, rfl, _, h1', ?_, S ++ [(i : Int)], ?_, ⟨?_, fun y hy => ?_⟩, fun b o hb e => ?_, R2.fill R1 nD h1'⟩
      · rw [List.length_map]
        have := h2.len
        exact small1000 (by omega)
      · rw [upd_same, List.map_append, show (0 : Int) + (i : Int) = (i : Int) by omega]
        rfl
      · refine List.pairwise_append.mpr ⟨h2.1, by simp, fun a ha b hb => ?_⟩
        have := (h2.2 a ha).2
        rw [List.mem_singleton.mp hb]
        exact this
      · rcases List.mem_append.mp hy with q | q
        · have := h2.2 y q; omega
        · rw [List.mem_singleton.mp q]; omega
      · rw [upd_ne (ne_of_none e nD)]
        exact h3' b o hb e
    · exact ⟨S, h1', ⟨h2.1, fun y hy => by have := h2.2 y hy; omega⟩, h3', R2⟩
  · refine ⟨_, S, rfl, ⟨D, rfl, h1⟩, fun z H2 s2 hz => ?_⟩
    exact k z S _ ((s1.trans h3).trans (.of s2)) (R.mono s2) h2 hz

theorem d__law_web {P : Program} {w : World} {K : PySem.W.Frag} {mg : Str → Option Value} {base : Heap} (B : Bi mg) (D : DefAt K mg "_law_web" s__law_web) (D__law_taken : Df P w K mg base "_law_taken" 1 ["_law_row", "_law_many"] (sp__law_taken K)) (D__law_by : Df P w K mg base "_law_by" 1 ["_law_many", "_law_couples"] (sp__law_by)) : Df P w K mg base "_law_web" 2 ["_law_row", "_law_most"] (sp__law_web K) := by
  refine df_mk (st := s__law_web) D sc__law_web (fun _ _ _ _ _ _ us hl => match us, hl with | [_, _], _ => rfl) spw_len fun f cdv A outer s H vs Q E hr h => ?_
  obtain ⟨ns, r, rfl, hR, k⟩ := h
  refine ⟨_, (pss_cons (ps_par (i := 2) (j := 3) rfl sc__law_web.nd rfl rfl (by decide) rfl rfl (pa_cons (pe_op op_add pe_int (pe_callD D__law_taken hr rfl (pa_cons (pv 0) (pa_cons (pv 1) pa_nil)))) (pa_cons (pe_lst pa_nil) pa_nil)) (by rfl))
      (pss_cons (ps_set (i := 4) sc__law_web.nd rfl (by first | exact Or.inl rfl | exact Or.inr rfl) (pe_op op_add pe_int (pe_callD D__law_taken hr rfl (pa_cons (pv 0) (pa_cons pe_int pa_nil)))))
      (pss_cons (ps_for PassesOwn.never rfl (pi_range1 (by rfl) B.range (pa_cons (pv 2) pa_nil)) (pg_name (i := 5) sc__law_web.nd rfl (by first | exact Or.inl rfl | exact Or.inr rfl)) (pss_one (ps_set (i := 3) sc__law_web.nd rfl (by first | exact Or.inl rfl | exact Or.inr rfl) (pe_op op_cat (pv 3) (pe_lc (own := [("_law_other", 6)]) rfl sc__law_web.nd (pi_range2 (by rfl) B.range (pa_cons (pe_op op_add (pv 5) pe_int) (pa_cons (pv 2) pa_nil))) (blkOk_by (own := [("_law_other", 6)]) (N := ["_law_row", "_law_most", "_law_many", "_law_couples", "_law_rare", "_law_one", "_law_other"]) (sc := defScope s__law_web) (by decide +kernel)) (fun _ _ _ _ _ => (pg_name (i := 6) sc__law_web.nd rfl (by first | exact Or.inl rfl | exact Or.inr rfl))) (fun _ _ _ _ _ => pts_one (pt_cmpR op_eq (pe_callD D__law_taken hr rfl (pa_cons (pv 0) (pa_cons (pv 4) pa_nil))) pe_int (nomark _))) (fun _ _ _ _ _ => (pe_tup (pa_cons (pv 5) (pa_cons (pv 6) pa_nil)))))))))
      (pss_one (ps_ret (pe_callD D__law_by hr rfl (pa_cons (pv 2) (pa_cons (pv 3) pa_nil)))))))), ?_⟩
  refine ⟨_, rfl, _, rfl, ns, r, 5, rfl, by decide, by decide, hR, fun t H1 s1 R1 t0 t5 => ?_⟩
  refine ⟨_, _, rfl, rfl, Nat.zero_le _, fun l nl => ⟨_, _, rfl, ?_⟩⟩
  obtain ⟨n, hn⟩ : ∃ n : Nat, 1 + t = (n : Int) := ⟨(1 + t).toNat, by omega⟩
  have n1 : 1 ≤ n := by omega
  have n5 : n ≤ 5 := by omega
  have eI : (fun i j => V.int (i + j)) 1 t = V.int n := congrArg V.int hn
  rw [eI]
  have R2 : RowOk K ns r (L2.upd H1 l (.lst [])) := R1.mono (same_new nl)
  refine ⟨_, rfl, ns, r, 3, rfl, by decide, by decide, R2, fun u H3 s3 R3 u0 u3 => ?_⟩
  refine ⟨_, _, rfl, rfl, ?_⟩
  have hlr := R1.ne nl
  have s13 : SameX r H1 H3 := (SameX.of (same_new nl)).trans s3
  refine ⟨_, rfl, _, rfl, by omega, by omega, ?_⟩
  refine for_range (lo := 0) (n := n) (fun i σ H' => ∃ (E : List (Int × Int)) (lst : Addr) (v5 v6 : Option V), σ = [some (.ref r), some (.int 5), some (.int n), some (.ref lst), some (.int (2 + u)), v5, v6] ∧ SameX r H1 H' ∧ RowOk K ns r H' ∧ lst ≠ r ∧ (∃ xs, H' lst = some (.lst xs) ∧ Paired (CP H') xs E) ∧ EOk n E ∧ E.length ≤ 5 * i)
    ⟨[], l, none, none, rfl, s13, R3, hlr, ⟨[], s3 _ _ hlr upd_same, .nil⟩, fun _ h => (by cases h), Nat.zero_le _⟩ (fun i σ H' hi ⟨E, lst, v5, v6, eσ, s, R, hl, ⟨xs, hx, hp⟩, hok, hlen⟩ => ?_) (fun σ H' ⟨E, lst, v5, v6, eσ, s, R, hl, ⟨xs, hx, hp⟩, hok, hlen⟩ => ?_)
  · subst eσ
    refine ⟨_, rfl, ?_⟩
    refine ⟨_, rfl, _, _, rfl, rfl, _, rfl, _, _, rfl, ⟨by omega, by omega, by omega, by omega⟩, fun D nD => ?_⟩
    have hDr := R.ne nD
    refine lc_range (lo := 0 + (i : Int) + 1) (n := ((n : Int) - (0 + (i : Int) + 1)).toNat) (fun j H2 => ∃ E2 xs2, H2 D = some (.lst xs2) ∧ Paired (CP H2) xs2 E2 ∧ E2.length ≤ j ∧ (∀ e ∈ E2, e.1 = (i : Int) ∧ (i : Int) < e.2 ∧ e.2 < n) ∧ SameX r H' H2 ∧ RowOk K ns r H2)
      ⟨[], [], upd_same, .nil, Nat.zero_le _, fun _ h => (by cases h), .of (same_new nD), R.mono (same_new nD)⟩ (fun j H2 hj ⟨E2, xs2, h1, h2, h3, h4, h5, h6⟩ => ?_) (fun H2 ⟨E2, xs2, h1, h2, h3, h4, h5, h6⟩ => ?_)
    · refine ⟨rfl, _, rfl, _, rfl, ns, r, 2 + u, rfl, by omega, by omega, h6, fun v H4 s4 R4 v0 v1 => ?_⟩
      have h1' := s4 _ _ hDr h1
      have h2' := pCP (s4.t h6) h2
      refine ⟨rfl, _, rfl, ?_⟩
      refine if_dec (fun c => ?_) (fun c => ?_)
      · refine ⟨_, rfl, _, rfl, two_le, fun p np => ?_⟩
        have hDp := same_new (o := .tup [.int (0 + (i : Int)), .int (0 + (i : Int) + 1 + (j : Int))]) np _ _ h1'
        refine ⟨_, hDp, ?_, E2 ++ [((i : Int), (i : Int) + 1 + (j : Int))], _, upd_same, ?_, ?_, fun e he => ?_, fun b o hb e => ?_, (R4.mono (same_new np)).fill R nD hDp⟩
        · rw [Paired.length h2']
          exact small1000 (by omega)
        · refine pCP (sameT_put hDp) (Paired.app (pCP (Same.t (same_new np)) h2') (.cons ⟨p, rfl, ?_⟩ .nil))
          rw [upd_same]
          simp only [Int.zero_add]
        · rw [List.length_append, List.length_singleton]
          omega
        · rcases List.mem_append.mp he with q | q
          · exact h4 e q
          · rw [List.mem_singleton.mp q]
            exact ⟨rfl, by show (i : Int) < (i : Int) + 1 + (j : Int); omega, by show (i : Int) + 1 + (j : Int) < n; omega⟩
        · rw [upd_ne (ne_of_none e nD)]
          exact same_new np _ _ ((h5.trans s4) b o hb e)
      · exact ⟨E2, xs2, h1', h2', by omega, h4, h5.trans s4, R4⟩
    · refine ⟨lst, D, xs, xs2, rfl, rfl, h5 _ _ hl hx, h1, ?_, fun p np => ?_⟩
      · rw [Paired.length hp, Paired.length h2]
        exact line32 (by omega)
      refine ⟨E ++ E2, p, _, _, rfl, (s.trans h5).trans (.of (same_new np)), h6.mono (same_new np), h6.ne np, ⟨_, upd_same, ?_⟩, fun e he => ?_, ?_⟩
      · exact Paired.app (pCP ((h5.t R).trans (Same.t (same_new np))) hp) (pCP (Same.t (same_new np)) h2)
      · rcases List.mem_append.mp he with q | q
        · exact hok e q
        · obtain ⟨a1, a2, a3⟩ := h4 e q
          exact ⟨by omega, by omega, by omega⟩
      · rw [List.length_append]
        omega
  · subst eσ
    refine ⟨_, rfl, _, rfl, n, _, E, rfl, n1, n5, ⟨lst, xs, rfl, hx, hp⟩, hok, fun z W H4 s4 g hz => ?_⟩
    exact k z W H4 ((s1.trans s).trans (.of s4)) (R.mono s4) g hz
end Ts

set_option Elab.async false
set_option linter.all false
set_option maxRecDepth 100000
set_option maxHeartbeats 4000000
namespace Ts
/-- those who have no taller friend among some -/
def after (W : Wb) (S r : Rw) : Rw := S.filter fun p => !(r.any fun o => decide (o > p) && decide (o ∈ fr W p))
theorem mem_after {W : Wb} {S r : Rw} {p : Int} : p ∈ after W S r ↔ p ∈ S ∧ ∀ o ∈ r, o > p → o ∉ fr W p := by
  unfold after
  rw [List.mem_filter, Bool.not_eq_true', List.any_eq_false]
  refine and_congr_right fun _ => forall_congr' fun o => forall_congr' fun _ => ?_
  rw [Bool.and_eq_true, decide_eq_true_iff, decide_eq_true_iff]
  exact ⟨fun h a b => h ⟨a, b⟩, fun h ⟨a, b⟩ => h a b⟩
theorem mem_call {W : Wb} {T : Rw} {c p : Int} (hc : c ∈ T) : p ∈ callW W T c ↔ p ∈ T ∧ (p ≥ c ∨ p ∉ fr W c) := by
  rw [callW, if_pos hc, List.mem_filter, Bool.or_eq_true, decide_eq_true_iff, Bool.not_eq_true', decide_eq_false_iff_not]
theorem mem_movers {W : Wb} {T : Rw} {c : Int} : c ∈ movers W T ↔ c ∈ T ∧ ∃ o ∈ fr W c, o < c ∧ o ∈ T := by
  unfold movers
  rw [List.mem_filter, List.any_eq_true]
  refine and_congr_right fun _ => exists_congr fun o => and_congr_right fun _ => ?_
  rw [Bool.and_eq_true, decide_eq_true_iff, decide_eq_true_iff]
theorem mem_mayc {W : Wb} {S G : Rw} {c : Int} : c ∈ mayc W S G ↔ c ∈ S ∧ ∀ o ∈ fr W c, o < c → o ∉ G := by
  unfold mayc
  rw [List.mem_filter, Bool.not_eq_true', List.any_eq_false]
  refine and_congr_right fun _ => forall_congr' fun o => forall_congr' fun _ => ?_
  rw [Bool.and_eq_true, decide_eq_true_iff, decide_eq_true_iff]
  exact ⟨fun h a b => h ⟨a, b⟩, fun h ⟨a, b⟩ => h a b⟩
theorem mem_peaks {W : Wb} {S : Rw} {c : Int} : c ∈ peaks W S ↔ c ∈ S ∧ ∀ o ∈ fr W c, o > c → o ∉ S := by
  unfold peaks
  rw [List.mem_filter, Bool.not_eq_true', List.any_eq_false]
  refine and_congr_right fun _ => forall_congr' fun o => forall_congr' fun _ => ?_
  rw [Bool.and_eq_true, decide_eq_true_iff, decide_eq_true_iff]
  exact ⟨fun h a b => h ⟨a, b⟩, fun h ⟨a, b⟩ => h a b⟩
theorem mem_taller {W : Wb} {p o : Int} : o ∈ taller W p ↔ o ∈ fr W p ∧ o > p := by
  unfold taller
  rw [List.mem_filter, decide_eq_true_iff]
theorem fits_iff {W : Wb} {S G : Rw} : fitsW W S G = true ↔ (∀ p ∈ G, p ∈ S) ∧ ∀ p ∈ S, p ∉ G → ∃ o ∈ fr W p, o > p ∧ o ∈ mayc W S G := by
  unfold fitsW
  rw [Bool.and_eq_true, List.all_eq_true, List.all_eq_true]
  refine and_congr (forall_congr' fun p => forall_congr' fun _ => decide_eq_true_iff) ?_
  constructor
  · intro h p hp hg
    obtain ⟨o, ho, h2⟩ := List.any_eq_true.mp (h p (List.mem_filter.mpr ⟨hp, by rw [decide_eq_false hg]; rfl⟩))
    obtain ⟨a, b⟩ := mem_taller.mp ho
    exact ⟨o, a, b, of_decide_eq_true h2⟩
  · intro h p hp
    obtain ⟨a, b⟩ := List.mem_filter.mp hp
    have hg : p ∉ G := fun q => by rw [decide_eq_true q] at b; cases b
    obtain ⟨o, h1, h2, h3⟩ := h p a hg
    exact List.any_eq_true.mpr ⟨o, mem_taller.mpr ⟨h1, h2⟩, decide_eq_true h3⟩
theorem apart_iff {W : Wb} {S : Rw} : apart W S = true ↔ ∀ a ∈ S, ∀ o ∈ S, o ∉ fr W a := by
  unfold apart
  rw [Bool.not_eq_true', List.any_eq_false]
  refine forall_congr' fun a => forall_congr' fun _ => ?_
  rw [Bool.not_eq_true, List.any_eq_false]
  refine forall_congr' fun o => forall_congr' fun _ => ?_
  rw [Bool.not_eq_true, decide_eq_false_iff_not]
section
variable {W : Wb} {S : Rw} (g : Good W) (hs : Sub W.length S)
include g
theorem Good.swap {p q : Int} {T : Rw} (hT : Sub W.length T) (hp : p ∈ T) (h : q ∈ Ts.fr W p) : p ∈ Ts.fr W q := g.sym p (hT.2 p hp).1 (hT.2 p hp).2 q h
theorem Good.swap2 {p q : Int} {T : Rw} (hT : Sub W.length T) (hq : q ∈ T) (h : p ∈ Ts.fr W q) : q ∈ Ts.fr W p := g.sym q (hT.2 q hq).1 (hT.2 q hq).2 p h
include hs
/-- calls from the shortest on -/
theorem call_asc (r : Rw) (hr : r.Sublist S) : r.foldl (callW W) S = after W S r := by
  induction r using snoc_ind with
  | h0 => 
    unfold after
    exact (List.filter_eq_self.mpr fun p _ => rfl).symm
  | h1 r c ih =>
    have hr' : r.Sublist S := (List.sublist_append_left r [c]).trans hr
    rw [List.foldl_append, ih hr']
    show callW W (after W S r) c = _
    have asc : (r ++ [c]).Pairwise (· < ·) := hs.1.sublist hr
    have hcS : c ∈ S := hr.subset (by simp)
    have hc : c ∈ after W S r := mem_after.mpr ⟨hcS, fun o ho h => by
      have := (List.pairwise_append.mp asc).2.2 o ho c (by simp)
      omega⟩
    refine asc_ext ((hs.filter _).callW c).1 (hs.filter _).1 fun p => ?_
    rw [mem_call hc, mem_after, mem_after]
    constructor
    · rintro ⟨⟨h1, h2⟩, h3⟩
      refine ⟨h1, fun o ho hgt => ?_⟩
      rcases List.mem_append.mp ho with q | q
      · exact h2 o q hgt
      · rw [List.mem_singleton.mp q] at hgt ⊢
        intro hf
        rcases h3 with h3 | h3
        · omega
        · exact h3 (g.swap hs h1 hf)
    · rintro ⟨h1, h2⟩
      refine ⟨⟨h1, fun o ho => h2 o (List.mem_append_left _ ho)⟩, ?_⟩
      by_cases e : p ≥ c
      · exact .inl e
      · exact .inr fun hf => h2 c (by simp) (by omega) (g.swap2 hs hcS hf)
theorem leads_iff {G r : Rw} (hr : r.Sublist S) : leadsW W S G r = true ↔ after W S r = G := by
  unfold leadsW
  rw [decide_eq_true_iff, call_asc g hs r hr]
/-- what changing calls leave: the people of whom no taller friend was called -/
theorem steps_set {k : Nat} {T : Rw} (h : Steps W S k T) : ∃ C : Rw, C.length ≤ k ∧ (∀ o ∈ C, o ∈ S) ∧ ∀ p, p ∈ T ↔ p ∈ S ∧ ∀ o ∈ C, o > p → o ∉ fr W p := by
  induction h with
  | zero => exact ⟨[], Nat.le_refl _, fun _ h => (by cases h), fun p => ⟨fun h => ⟨h, fun _ h => (by cases h)⟩, fun h => h.1⟩⟩
  | @succ k T c hk hc ih =>
    obtain ⟨C, h1, h2, h3⟩ := ih
    obtain ⟨hcT, _⟩ := mem_movers.mp hc
    have hcS : c ∈ S := hk.sub.subset hcT
    refine ⟨C ++ [c], by rw [List.length_append]; simp; omega, fun o ho => ?_, fun p => ?_⟩
    · rcases List.mem_append.mp ho with q | q
      · exact h2 o q
      · rw [List.mem_singleton.mp q]; exact hcS
    · rw [mem_call hcT, h3]
      constructor
      · rintro ⟨⟨a, b⟩, d⟩
        refine ⟨a, fun o ho hgt => ?_⟩
        rcases List.mem_append.mp ho with q | q
        · exact b o q hgt
        · rw [List.mem_singleton.mp q] at hgt ⊢
          intro hf
          rcases d with d | d
          · omega
          · exact d (g.swap hs a hf)
      · rintro ⟨a, b⟩
        refine ⟨⟨a, fun o ho => b o (List.mem_append_left _ ho)⟩, ?_⟩
        by_cases e : p ≥ c
        · exact .inl e
        · exact .inr fun hf => b c (by simp) (by omega) (g.swap2 hs hcS hf)
theorem steps_fits {k : Nat} {T : Rw} (h : Steps W S k T) : fitsW W S T = true := by
  obtain ⟨C, _, h2, h3⟩ := steps_set g hs h
  refine fits_iff.mpr ⟨fun p hp => ((h3 p).mp hp).1, fun p hp hn => ?_⟩
  have : ¬ ∀ o ∈ C, o > p → o ∉ fr W p := fun q => hn ((h3 p).mpr ⟨hp, q⟩)
  obtain ⟨o, ho⟩ := Classical.not_forall.mp this
  obtain ⟨h4, h5⟩ := Classical.not_imp.mp ho
  obtain ⟨h6, h7⟩ := Classical.not_imp.mp h5
  have h8 := Classical.not_not.mp h7
  refine ⟨o, h8, h6, mem_mayc.mpr ⟨h2 o h4, fun q hq hlt hT => ?_⟩⟩
  exact ((h3 q).mp hT).2 o h4 hlt (g.swap hs (h2 o h4) hq)
/-- as few calls of different people, the shortest first -/
theorem steps_telling {k : Nat} {T : Rw} (h : Steps W S k T) : ∃ r ∈ tellings W S T, r.length ≤ k := by
  obtain ⟨C, h1, h2, h3⟩ := steps_set g hs h
  have hm : ∀ o ∈ C, o ∈ mayc W S T := fun o ho => mem_mayc.mpr ⟨h2 o ho, fun q hq hlt hT => ((h3 q).mp hT).2 o ho hlt (g.swap hs (h2 o ho) hq)⟩
  have hsub : (S.filter fun o => decide (o ∈ C)).Sublist S := List.filter_sublist
  refine ⟨S.filter fun o => decide (o ∈ C), mem_rsort.mpr (List.mem_filter.mpr ⟨mem_choice.mpr ?_, (leads_iff g hs hsub).mpr ?_⟩), ?_⟩
  · exact asc_sublist (hs.filter _).1 (hs.filter _).1 fun o ho => hm o (of_decide_eq_true (List.mem_filter.mp ho).2)
  · refine asc_ext (hs.filter _).1 (hs.sub h.sub).1 fun p => ?_
    rw [mem_after, h3]
    refine and_congr_right fun _ => ⟨fun q o ho => q o (List.mem_filter.mpr ⟨h2 o ho, decide_eq_true ho⟩), fun q o ho => q o (of_decide_eq_true (List.mem_filter.mp ho).2)⟩
  · exact Nat.le_trans (nodup_len (hs.filter _).nodup fun o ho => of_decide_eq_true (List.mem_filter.mp ho).2) h1
theorem fits_telling {G : Rw} (hG : Sub W.length G) (hf : fitsW W S G = true) : tellings W S G ≠ [] := by
  obtain ⟨h1, h2⟩ := fits_iff.mp hf
  have hsub : (mayc W S G).Sublist S := List.filter_sublist
  have : mayc W S G ∈ tellings W S G := mem_rsort.mpr (List.mem_filter.mpr ⟨mem_choice.mpr (List.Sublist.refl _), (leads_iff g hs hsub).mpr (asc_ext (hs.filter _).1 hG.1 fun p => by
    rw [mem_after]
    constructor
    · rintro ⟨a, b⟩
      by_cases e : p ∈ G
      · exact e
      · obtain ⟨o, q1, q2, q3⟩ := h2 p a e
        exact absurd q1 (b o q3 q2)
    · intro hp
      refine ⟨h1 p hp, fun o ho hgt hfr => ?_⟩
      obtain ⟨a, b⟩ := mem_mayc.mp ho
      exact b p (g.swap hG hp hfr) hgt hp)⟩)
  intro e
  rw [e] at this
  cases this
end
/-- calls in a row, without those that change nothing -/
theorem fold_steps {W : Wb} {S : Rw} : ∀ (r : Rw) {k : Nat} {T : Rw}, Steps W S k T → ∃ j, j ≤ k + r.length ∧ Steps W S j (r.foldl (callW W) T)
  | [], k, T, h => ⟨k, by simp, h⟩
  | c :: r, k, T, h => by
    by_cases e : c ∈ movers W T
    · obtain ⟨j, h1, h2⟩ := fold_steps r (.succ h e)
      exact ⟨j, by rw [List.length_cons]; omega, h2⟩
    · have ec : callW W T c = T := by
        unfold callW
        split
        · rename_i hc
          refine List.filter_eq_self.mpr fun p hp => ?_
          rw [Bool.or_eq_true, decide_eq_true_iff, Bool.not_eq_true', decide_eq_false_iff_not]
          by_cases q : p ≥ c
          · exact .inl q
          · exact .inr fun hf => e (mem_movers.mpr ⟨hc, p, hf, by omega, hp⟩)
        · rfl
      obtain ⟨j, h1, h2⟩ := fold_steps r h
      refine ⟨j, by rw [List.length_cons]; omega, ?_⟩
      rw [List.foldl_cons, ec]
      exact h2
theorem telling_steps {W : Wb} {S G r : Rw} (h : r ∈ tellings W S G) : ∃ j, j ≤ r.length ∧ Steps W S j G := by
  have := (List.mem_filter.mp (mem_rsort.mp h)).2
  obtain ⟨j, h1, h2⟩ := fold_steps r (Steps.zero (W := W) (S := S))
  have e : r.foldl (callW W) S = G := of_decide_eq_true this
  rw [e] at h2
  exact ⟨j, by omega, h2⟩
end Ts

set_option Elab.async false
set_option linter.all false
set_option maxRecDepth 100000
set_option maxHeartbeats 4000000
namespace Ts
theorem wsum_nil {ws : Rw} : wsum ws [] = 0 := rfl
theorem wsum_cons {ws : Rw} {x : Int} {l : Rw} : wsum ws (x :: l) = gt ws x + wsum ws l := by
  unfold wsum
  rw [List.map_cons, List.sum_cons]
theorem wsum_sub {ws A B : Rw} (h : A.Sublist B) (hb : ∀ x ∈ B, 0 ≤ gt ws x) : wsum ws A ≤ wsum ws B := by
  induction h with
  | slnil => exact Int.le_refl _
  | @cons A B b h ih =>
    have := ih fun x hx => hb x (List.mem_cons_of_mem _ hx)
    have := hb b List.mem_cons_self
    rw [wsum_cons]
    omega
  | @cons_cons A B b h ih =>
    have := ih fun x hx => hb x (List.mem_cons_of_mem _ hx)
    rw [wsum_cons, wsum_cons]
    omega
theorem wsum_eq {ws A B : Rw} (h : A.Sublist B) (hb : ∀ x ∈ B, 1 ≤ gt ws x) (hle : wsum ws B ≤ wsum ws A) : A = B := by
  induction h with
  | slnil => rfl
  | @cons A B b h ih =>
    have a1 := wsum_sub h (ws := ws) fun x hx => by have := hb x (List.mem_cons_of_mem _ hx); omega
    have := hb b List.mem_cons_self
    rw [wsum_cons] at hle
    omega
  | @cons_cons A B b h ih =>
    rw [wsum_cons, wsum_cons] at hle
    rw [ih (fun x hx => hb x (List.mem_cons_of_mem _ hx)) (by omega)]
theorem wsum_nonneg {ws A : Rw} (hb : ∀ x ∈ A, 0 ≤ gt ws x) : 0 ≤ wsum ws A := wsum_sub (List.nil_sublist A) hb
theorem gt_mem {ws : Rw} {x : Int} (h0 : 0 ≤ x) (h1 : x < ws.length) : gt ws x ∈ ws := List.mem_of_getElem? (gt_at h0 h1)
theorem Wts.gt {W : Wb} {ws S : Rw} (h : Wts W ws) (hs : Sub W.length S) {x : Int} (hx : x ∈ S) : 0 ≤ gt ws x ∧ gt ws x ≤ 99 := h.2 _ (gt_mem (hs.2 x hx).1 (by rw [h.1]; exact (hs.2 x hx).2))
theorem mem_ends {W : Wb} {S e : Rw} : e ∈ endsW W S ↔ e.Sublist S ∧ apart W e = true ∧ fitsW W S e = true := by
  unfold endsW
  rw [mem_rsort, List.mem_filter, mem_choice, Bool.and_eq_true]
section
variable {W : Wb} {S : Rw} (g : Good W) (hs : Sub W.length S)
include g hs
theorem peaks_end : peaks W S ∈ endsW W S := by
  have hp : Sub W.length (peaks W S) := hs.filter _
  refine mem_ends.mpr ⟨List.filter_sublist, apart_iff.mpr fun a ha o ho hf => ?_, fits_iff.mpr ⟨fun p hp => (mem_peaks.mp hp).1, fun p hpS hn => ?_⟩⟩
  · obtain ⟨a1, a2⟩ := mem_peaks.mp ha
    obtain ⟨o1, o2⟩ := mem_peaks.mp ho
    rcases Int.lt_trichotomy a o with h | h | h
    · exact a2 o hf h o1
    · subst h
      exact g.irr a (hs.2 a a1).1 (hs.2 a a1).2 hf
    · exact o2 a (g.swap hs a1 hf) h a1
  · have : ¬ ∀ o ∈ fr W p, o > p → o ∉ S := fun q => hn (mem_peaks.mpr ⟨hpS, q⟩)
    obtain ⟨o, ho⟩ := Classical.not_forall.mp this
    obtain ⟨h4, h5⟩ := Classical.not_imp.mp ho
    obtain ⟨h6, h7⟩ := Classical.not_imp.mp h5
    have h8 := Classical.not_not.mp h7
    exact ⟨o, h4, h6, mem_mayc.mpr ⟨h8, fun q hq hlt hqp => (mem_peaks.mp hqp).2 o (g.swap hs h8 hq) hlt h8⟩⟩
theorem ends_ne : endsW W S ≠ [] := fun e => by
  have := peaks_end g hs
  rw [e] at this
  cases this
theorem peaks_sub {k : Nat} {T : Rw} (h : Steps W S k T) : (peaks W S).Sublist T := by
  refine asc_sublist (hs.filter _).1 (hs.sub h.sub).1 fun p hp => ?_
  obtain ⟨C, _, h2, h3⟩ := steps_set g hs h
  obtain ⟨a, b⟩ := mem_peaks.mp hp
  exact (h3 p).mpr ⟨a, fun o ho hgt hf => b o hf hgt (h2 o ho)⟩
theorem end_tell {e : Rw} (h : e ∈ endsW W S) : tellings W S e ≠ [] := fits_telling g hs (hs.sub (mem_ends.mp h).1) (mem_ends.mp h).2.2
theorem end_steps {e : Rw} (h : e ∈ endsW W S) : ∃ k, Steps W S k e := by
  obtain ⟨r, hr⟩ := List.exists_mem_of_ne_nil _ (end_tell g hs h)
  obtain ⟨j, _, hj⟩ := telling_steps hr
  exact ⟨j, hj⟩
theorem steps_end {k : Nat} {T : Rw} (h : Steps W S k T) (ha : apart W T = true) : T ∈ endsW W S := mem_ends.mpr ⟨h.sub, ha, steps_fits g hs h⟩
theorem ex_apart : ∃ k T, Steps W S k T ∧ apart W T = true := by
  obtain ⟨k, h⟩ := end_steps g hs (peaks_end g hs)
  exact ⟨k, _, h, (mem_ends.mp (peaks_end g hs)).2.1⟩
/-- the poorest end -/
theorem poor {ws : Rw} {p : Int × Rw} (hw : ∀ x ∈ S, 1 ≤ gt ws x) (h : IsMin ((endsW W S).map fun e => (wsum ws e, e)) p) : p.2 = peaks W S ∧ p.1 = wsum ws (peaks W S) ∧ p.2 ∈ endsW W S := by
  obtain ⟨h1, h2⟩ := h
  obtain ⟨e, he, rfl⟩ := List.mem_map.mp h1
  have hp := peaks_end g hs
  obtain ⟨k, hk⟩ := end_steps g hs he
  have hsub := peaks_sub g hs hk
  have hb : ∀ x ∈ e, 1 ≤ gt ws x := fun x hx => hw x ((mem_ends.mp he).1.subset hx)
  have hle : wsum ws e ≤ wsum ws (peaks W S) := by
    have := h2 _ (List.mem_map.mpr ⟨_, hp, rfl⟩)
    unfold ple at this
    simp only at this
    rcases this with q | q <;> omega
  have := wsum_eq hsub hb hle
  subst this
  exact ⟨rfl, rfl, hp⟩
end
/-- the richest end -/
theorem rich {E : List Rw} {f : Rw → Int} {p : Int × Rw} (h : IsMin (E.map fun e => (-f e, e)) p) : p.2 ∈ E ∧ -p.1 = f p.2 ∧ ∀ e ∈ E, f e ≤ -p.1 := by
  obtain ⟨h1, h2⟩ := h
  obtain ⟨e, he, rfl⟩ := List.mem_map.mp h1
  refine ⟨he, by simp, fun x hx => ?_⟩
  have := h2 _ (List.mem_map.mpr ⟨x, hx, rfl⟩)
  unfold ple at this
  simp only at this ⊢
  rcases this with q | q <;> omega
theorem cheap {E : List Rw} {f : Rw → Int} {p : Int × Rw} (h : IsMin (E.map fun e => (f e, e)) p) : p.2 ∈ E ∧ p.1 = f p.2 ∧ ∀ e ∈ E, p.1 ≤ f e := by
  obtain ⟨h1, h2⟩ := h
  obtain ⟨e, he, rfl⟩ := List.mem_map.mp h1
  refine ⟨he, rfl, fun x hx => ?_⟩
  have := h2 _ (List.mem_map.mpr ⟨x, hx, rfl⟩)
  unfold ple at this
  simp only at this ⊢
  rcases this with q | q <;> omega
theorem cheap_min {E : List Rw} {f : Rw → Int} {p : Int × Rw} (h : IsMin (E.map fun e => (f e, e)) p) : p.1 = minI (E.map f) := by
  obtain ⟨a, b, c⟩ := cheap h
  refine minI_eq (List.mem_map.mpr ⟨_, a, b.symm⟩) fun k hk => ?_
  obtain ⟨e, he, rfl⟩ := List.mem_map.mp hk
  exact c e he
/-- all alike -/
theorem gt_rep {n : Nat} {c x : Int} (h0 : 0 ≤ x) (h1 : x < n) : gt (List.replicate n c) x = c := by
  unfold gt
  rw [List.getElem?_replicate, if_pos (by omega)]
  rfl
theorem wsum_rep {n : Nat} {c : Int} : ∀ {e : Rw}, (∀ x ∈ e, 0 ≤ x ∧ x < n) → wsum (List.replicate n c) e = c * lenI e
  | [], _ => by rw [wsum_nil]; show 0 = c * 0; omega
  | x :: e, h => by
    rw [wsum_cons, wsum_rep fun y hy => h y (List.mem_cons_of_mem _ hy), gt_rep (h x List.mem_cons_self).1 (h x List.mem_cons_self).2]
    show c + c * ((e.length : Nat) : Int) = c * (((x :: e).length : Nat) : Int)
    rw [List.length_cons, Int.natCast_add, Int.mul_add]
    omega
theorem wts_rep {W : Wb} {c : Int} (h0 : 0 ≤ c) (h1 : c ≤ 99) : Wts W (List.replicate W.length c) := ⟨List.length_replicate, fun w hw => by rw [List.eq_of_mem_replicate hw]; exact ⟨h0, h1⟩⟩
theorem ones {n : Nat} {e : Rw} (h : Sub n e) : wsum (List.replicate n 1) e = lenI e := by rw [wsum_rep h.2]; omega
theorem zeros {n : Nat} {e : Rw} (h : Sub n e) : wsum (List.replicate n 0) e = 0 := by rw [wsum_rep h.2]; omega
/-- the first of the least -/
theorem first_least {rows : List Rw} {f : Rw → Int} {p : Int × Rw} (hp : rows.Pairwise (· ≤ ·)) (h : IsMin (rows.map fun r => (f r, r)) p) : (rows.filter fun r => decide (f r = minI (rows.map f))) ≠ [] ∧ p = (minI (rows.map f), fr (rows.filter fun r => decide (f r = minI (rows.map f))) 0) := by
  have e1 := cheap_min h
  obtain ⟨a, b, c⟩ := cheap h
  have hm : p.2 ∈ rows.filter fun r => decide (f r = minI (rows.map f)) := List.mem_filter.mpr ⟨a, decide_eq_true (by rw [← b, e1])⟩
  cases hF : rows.filter fun r => decide (f r = minI (rows.map f)) with
  | nil => rw [hF] at hm; cases hm
  | cons x F =>
    refine ⟨by simp, IsMin.unique h ⟨?_, fun q hq => ?_⟩⟩
    · have hx : x ∈ rows.filter fun r => decide (f r = minI (rows.map f)) := by rw [hF]; exact List.mem_cons_self
      obtain ⟨x1, x2⟩ := List.mem_filter.mp hx
      exact List.mem_map.mpr ⟨x, x1, Prod.ext (of_decide_eq_true x2) rfl⟩
    · obtain ⟨r, hr, rfl⟩ := List.mem_map.mp hq
      have hle := c r hr
      rw [e1] at hle
      show _ < f r ∨ (_ = f r ∧ x ≤ r)
      by_cases e : minI (rows.map f) = f r
      · refine .inr ⟨e, ?_⟩
        have hr2 : r ∈ rows.filter fun r => decide (f r = minI (rows.map f)) := List.mem_filter.mpr ⟨hr, decide_eq_true e.symm⟩
        have hpw := hp.filter fun r => decide (f r = minI (rows.map f))
        rw [hF] at hr2 hpw
        rcases List.mem_cons.mp hr2 with q | q
        · rw [q]; exact List.le_refl _
        · exact (List.pairwise_cons.mp hpw).1 r q
      · left
        show minI (rows.map f) < f r
        omega
theorem map_congr_mem {rows : List Rw} {f h : Rw → Int} (e : ∀ r ∈ rows, f r = h r) : (rows.map fun r => (f r, r)) = rows.map fun r => (h r, r) := List.map_congr_left fun r hr => by rw [e r hr]
/-- at weights 0 -/
theorem first_zero {rows : List Rw} {f : Rw → Int} {p : Int × Rw} (hp : rows.Pairwise (· ≤ ·)) (hf : ∀ r ∈ rows, f r = 0) (h : IsMin (rows.map fun r => (f r, r)) p) : p = (0, fr rows 0) ∧ rows ≠ [] := by
  obtain ⟨a, b, c⟩ := cheap h
  cases rows with
  | nil => cases a
  | cons x F =>
    refine ⟨IsMin.unique h ⟨List.mem_map.mpr ⟨x, List.mem_cons_self, Prod.ext (hf x List.mem_cons_self) rfl⟩, fun q hq => ?_⟩, by simp⟩
    obtain ⟨r, hr, rfl⟩ := List.mem_map.mp hq
    refine .inr ⟨(hf r hr).symm, ?_⟩
    show x ≤ r
    rcases List.mem_cons.mp hr with q | q
    · rw [q]; exact List.le_refl _
    · exact (List.pairwise_cons.mp hp).1 r q
/-- fewest calls to an end -/
theorem calls_least {W : Wb} {S : Rw} (g : Good W) (hs : Sub W.length S) {p : Int × Rw} {m : Nat} (h : IsMin ((endsW W S).map fun e => (cheapW W S e (List.replicate W.length 1), e)) p) (h1 : ∃ T, Steps W S m T ∧ apart W T = true)
    (h2 : ∀ k T, Steps W S k T → apart W T = true → m ≤ k) : p.1 = m := by
  obtain ⟨a, b, c⟩ := cheap h
  refine Int.le_antisymm ?_ ?_
  · obtain ⟨T, hT, ha⟩ := h1
    have hE := steps_end g hs hT ha
    obtain ⟨r, hr, hl⟩ := steps_telling g hs hT
    have e1 := c T hE
    have e2 : cheapW W S T (List.replicate W.length 1) ≤ wsum (List.replicate W.length 1) r := minI_le (List.mem_map.mpr ⟨r, hr, rfl⟩)
    rw [ones (tellings_sub hs hr)] at e2
    have : lenI r = (r.length : Int) := rfl
    omega
  · have hne : (tellings W S p.2).map (wsum (List.replicate W.length 1)) ≠ [] := fun z => end_tell g hs a (List.map_eq_nil_iff.mp z)
    obtain ⟨r, hr, he⟩ := List.mem_map.mp (minI_mem hne)
    rw [ones (tellings_sub hs hr)] at he
    obtain ⟨j, hj, hst⟩ := telling_steps hr
    have := h2 j _ hst (mem_ends.mp a).2.1
    have e3 : p.1 = lenI r := by rw [b, he]; rfl
    have : lenI r = (r.length : Int) := rfl
    omega
/-- the sums of all that can come -/
theorem worth_ends {W : Wb} {S ws ns : Rw} (g : Good W) (hs : Sub W.length S) (hw : ∀ x ∈ S, 0 ≤ gt ws x) (hp : ns.Pairwise (· < ·)) (hm : ∀ n, n ∈ ns ↔ ∃ k T, Steps W S k T ∧ n = wsum ws T) :
    (∃ l, ns = l ++ [wsum ws S]) ∧ 0 < ns.length ∧ gt ns 0 = wsum ws (peaks W S) := by
  have hS : wsum ws S ∈ ns := (hm _).mpr ⟨0, S, .zero, rfl⟩
  have hP : wsum ws (peaks W S) ∈ ns := by
    obtain ⟨k, hk⟩ := end_steps g hs (peaks_end g hs)
    exact (hm _).mpr ⟨k, _, hk, rfl⟩
  have ne : ns ≠ [] := fun z => by rw [z] at hS; cases hS
  refine ⟨⟨ns.dropLast, ?_⟩, List.length_pos_iff.mpr ne, ?_⟩
  · have e := List.dropLast_concat_getLast ne
    have hl : ns.getLast ne ∈ ns := List.getLast_mem ne
    obtain ⟨k, T, hT, e2⟩ := (hm _).mp hl
    have h1 : ns.getLast ne ≤ wsum ws S := by rw [e2]; exact wsum_sub hT.sub hw
    have h2 : wsum ws S ≤ ns.getLast ne := by
      rw [← e] at hS hp
      rcases List.mem_append.mp hS with q | q
      · have := (List.pairwise_append.mp hp).2.2 _ q (ns.getLast ne) (by simp)
        omega
      · rw [List.mem_singleton.mp q]
        exact Int.le_refl _
    rw [show wsum ws S = ns.getLast ne by omega]
    exact e.symm
  · cases ns with
    | nil => exact absurd rfl ne
    | cons n ns =>
      show n = _
      obtain ⟨k, T, hT, e2⟩ := (hm n).mp List.mem_cons_self
      have h1 : wsum ws (peaks W S) ≤ n := by rw [e2]; exact wsum_sub (peaks_sub g hs hT) fun x hx => hw x (hT.sub.subset hx)
      have h2 : n ≤ wsum ws (peaks W S) := by
        rcases List.mem_cons.mp hP with q | q
        · omega
        · have := (List.pairwise_cons.mp hp).1 _ q
          omega
      omega
/-- one weight taken away -/
def light (ws : Rw) (p : Int) : Rw := ws.take p.toNat ++ [0] ++ ws.drop (p.toNat + 1)
theorem gt_light {ws : Rw} {p x : Int} (h0 : 0 ≤ p) (h1 : p < ws.length) (hx : 0 ≤ x) : gt (light ws p) x = if x = p then 0 else gt ws x := by
  have hl : (ws.take p.toNat).length = p.toNat := by rw [List.length_take]; omega
  unfold gt light
  by_cases e : x = p
  · subst e
    rw [if_pos rfl, List.append_assoc, List.getElem?_append_right (by omega), hl, Nat.sub_self]
    rfl
  · rw [if_neg e]
    by_cases h : x < p
    · rw [List.append_assoc, List.getElem?_append_left (by omega), List.getElem?_take_of_lt (by omega)]
    · rw [List.getElem?_append_right (by rw [List.length_append, hl, List.length_singleton]; omega), List.length_append, hl, List.length_singleton, List.getElem?_drop]
      rw [show p.toNat + 1 + (x.toNat - (p.toNat + 1)) = x.toNat by omega]
theorem light_wts {W : Wb} {ws : Rw} {p : Int} (h : Wts W ws) (h0 : 0 ≤ p) (h1 : p < ws.length) : Wts W (light ws p) := by
  refine ⟨?_, fun w hw => ?_⟩
  · unfold light
    rw [List.length_append, List.length_append, List.length_take, List.length_drop, List.length_singleton, ← h.1]
    omega
  · unfold light at hw
    rcases List.mem_append.mp hw with q | q
    · rcases List.mem_append.mp q with q | q
      · exact h.2 w (List.mem_of_mem_take q)
      · rw [List.mem_singleton.mp q]; exact ⟨by decide, by decide⟩
    · exact h.2 w (List.mem_of_mem_drop q)
theorem light_le {ws : Rw} {p : Int} (h0 : 0 ≤ p) (h1 : p < ws.length) : ∀ {e : Rw}, (∀ x ∈ e, 0 ≤ x ∧ 0 ≤ gt ws x) → wsum (light ws p) e ≤ wsum ws e
  | [], _ => Int.le_refl _
  | x :: e, h => by
    have := light_le h0 h1 (e := e) fun y hy => h y (List.mem_cons_of_mem _ hy)
    obtain ⟨a, b⟩ := h x List.mem_cons_self
    rw [wsum_cons, wsum_cons, gt_light h0 h1 a]
    split <;> omega
theorem light_no {ws : Rw} {p : Int} (h0 : 0 ≤ p) (h1 : p < ws.length) : ∀ {e : Rw}, (∀ x ∈ e, 0 ≤ x) → p ∉ e → wsum (light ws p) e = wsum ws e
  | [], _, _ => rfl
  | x :: e, h, hn => by
    rw [wsum_cons, wsum_cons, light_no h0 h1 (fun y hy => h y (List.mem_cons_of_mem _ hy)) (fun q => hn (List.mem_cons_of_mem _ q)), gt_light h0 h1 (h x List.mem_cons_self), if_neg fun q => hn (by rw [← q]; exact List.mem_cons_self)]
theorem light_ge {ws : Rw} {p : Int} (h0 : 0 ≤ p) (h1 : p < ws.length) (hp : 0 ≤ gt ws p) : ∀ {e : Rw}, e.Nodup → (∀ x ∈ e, 0 ≤ x) → wsum ws e - gt ws p ≤ wsum (light ws p) e
  | [], _, _ => by rw [wsum_nil, wsum_nil]; omega
  | x :: e, hn, h => by
    obtain ⟨a, b⟩ := List.nodup_cons.mp hn
    have hx := h x List.mem_cons_self
    have he : ∀ y ∈ e, 0 ≤ y := fun y hy => h y (List.mem_cons_of_mem _ hy)
    rw [wsum_cons, wsum_cons, gt_light h0 h1 hx]
    by_cases q : x = p
    · subst q
      rw [if_pos rfl, light_no h0 h1 he a]
      omega
    · rw [if_neg q]
      have := light_ge h0 h1 hp b he
      omega
theorem wsum_one {ws e : Rw} {p : Int} (hp : p ∈ e) (hb : ∀ x ∈ e, 0 ≤ gt ws x) : gt ws p ≤ wsum ws e := by
  have := wsum_sub (List.singleton_sublist.mpr hp) hb
  rw [wsum_cons, wsum_nil] at this
  omega
end Ts

set_option Elab.async false
set_option linter.all false
set_option maxRecDepth 100000
set_option maxHeartbeats 4000000
namespace Ts
open PySem PySem.Spec PyProof.Rows L2 StX
abbrev s_law : Stmt := topS 63
theorem sc_law : FnScope ["_law_script", "_law_row", "_law_web_here", "_law_begin", "_law_prices", "_law_many", "_law_some", "_law_top", "_law_rich", "_law_low", "_law_poor", "_law_goal", "_law_cost", "_law_people", "_law_price", "_law_end", "_law_every", "_law_person", "_law_best", "_law_light", "_law_one"] ["_law_script"] (defScope s_law) := ⟨rfl, rfl, rfl, by decide +kernel, rfl, by decide +kernel, by decide +kernel⟩
structure Fx (W : Wb) (S ws : Rw) (w b pr so : V) (H : Hp) : Prop where
  web : WB H w W
  beg : TI H b S
  prc : TI H pr ws
  som : LT H so (endsW W S)
theorem Fx.mono {W : Wb} {S ws : Rw} {w b pr so : V} {H H' : Hp} (f : Fx W S ws w b pr so H) (s : Same H H') : Fx W S ws w b pr so H' := ⟨f.web.mono s, f.beg.mono s, f.prc.mono s, f.som.mono s⟩
theorem LT.monoN {H H' : Hp} (s : LamX.ExtN H H') {x r} (h : LT H x r) : LT H' x r := let ⟨t, xs, e, h1, h2⟩ := h; ⟨t, xs, e, s _ _ h1 fun _ z => (by cases z), pTI.monoT (fun b xs e => s b _ e fun _ z => (by cases z)) h2⟩
theorem Fx.monoN {W : Wb} {S ws : Rw} {w b pr so : V} {H H' : Hp} (f : Fx W S ws w b pr so H) (s : LamX.ExtN H H') : Fx W S ws w b pr so H' := ⟨f.web.monoN s, f.beg.monoN s, f.prc.monoN s, f.som.monoN s⟩
/-- the web, those who stand, the weights -/
structure LC (W : Wb) (S ws : Rw) : Prop where
  g : Good W
  hs : Sub W.length S
  wt : Wts W ws
  w1 : ∀ x ∈ S, 1 ≤ gt ws x
def sp_law (K : PySem.W.Frag) (Pt : Addr) : Sp := fun vs H Q _ => ∃ (a : Addr) (ns : Rw), vs = [.ref a] ∧ SqL K H a (ns.map V.int) ∧ LamX.Tabs (lamT Pt) H ∧ ∀ H', Q (.bl true) H'
theorem spL_len {K : PySem.W.Frag} {Pt : Addr} {p : Str} (vs : List V) (H : Hp) (Q : VK) (E : XK) (h : sp_law K Pt vs H Q E) : vs.length = [p].length := by
  obtain ⟨a, ns, rfl, _⟩ := h; rfl

theorem rep1 (n : Nat) (c : Int) : (List.replicate n [c]).flatten = List.replicate n c := by
  induction n with
  | zero => rfl
  | succ n ih => rw [List.replicate_succ, List.flatten_cons, ih]; rfl
theorem rdRep {σ : L2.St} {H : Hp} {Q : V → Hp → Prop} {n i : Nat} {c : Int} (hi : σ[i]? = some (some (.int (n : Nat)))) (h1 : 1 ≤ n) (h5 : n ≤ 5) (q : ∀ z H', Same H H' → TI H' z (List.replicate n c) → Q z H') :
    tOp (fun x y H Q => ∃ ns k, TI H x ns ∧ y = .int k ∧ ns ≠ [] ∧ 1 ≤ k ∧ k ≤ 1000 ∧ ns.length ≤ 1000 ∧ ∀ z H', Same H H' → TI H' z (List.replicate k.toNat ns).flatten → Q z H') (tTup (tCons (tC (.int c)) tNil)) (tVar i) σ H Q := by
  refine ⟨by show 1 ≤ sizeLine; decide, fun p np => ⟨_, hi, [c], n, ⟨p, rfl, upd_same⟩, rfl, by simp, by omega, by omega, by show 1 ≤ 1000; decide, fun z H' s hz => ?_⟩⟩
  rw [Int.toNat_natCast, rep1] at hz
  exact q z H' ((same_new np).trans s) hz
theorem rSlA_T {K : PySem.W.Frag} {x : V} {H : Hp} {Q : V → Hp → Prop} {ns : Rw} {lo hi : Option Int} (h : TI H x ns) (q : ∀ z H', Same H H' → TI H' z ((ns.drop (HT.sIx ns.length 0 lo)).take (HT.sIx ns.length ns.length hi - HT.sIx ns.length 0 lo)) → Q z H') : rSlA K x lo hi H Q := by
  obtain ⟨t, rfl, e⟩ := h
  have el : (ns.map V.int).length = ns.length := List.length_map ..
  refine ⟨t, _, rfl, SqT.of e, fun hw => q _ _ (Same.refl _) ⟨t, rfl, ?_⟩, fun _ p np => q _ _ (same_new np) ⟨p, rfl, ?_⟩⟩
  · rw [el] at hw
    rw [hw.1, hw.2, List.drop_zero, Nat.sub_zero, List.take_length]
    exact e
  · rw [upd_same]
    unfold cutV
    rw [el, List.map_take, List.map_drop]
theorem catT {K : PySem.W.Frag} {x y : V} {H : Hp} {Q : V → Hp → Prop} {as bs : Rw} (h : TI H x as) (h2 : TI H y bs) (hl : as.length + bs.length ≤ 1000) (q : ∀ z H', Same H H' → TI H' z (as ++ bs) → Q z H') : rCatA K x y H Q := by
  obtain ⟨t, rfl, e⟩ := h
  obtain ⟨t2, rfl, e2⟩ := h2
  refine ⟨t, t2, _, _, rfl, rfl, SqT.of e, SqT.of e2, by rw [List.length_map, List.length_map]; exact line32 hl, fun hn => q _ _ (Same.refl _) ⟨t2, rfl, ?_⟩, fun _ hn => q _ _ (Same.refl _) ⟨t, rfl, ?_⟩, fun _ _ p np => q _ _ (same_new np) ⟨p, rfl, by rw [upd_same, List.map_append]⟩⟩
  · rw [List.map_eq_nil_iff.mp hn]; exact e2
  · rw [List.map_eq_nil_iff.mp hn, List.append_nil]; exact e
theorem Fx.monoX {W : Wb} {S ws : Rw} {w b pr so : V} {K : PySem.W.Frag} {ns : Scr} {r : Addr} {H H' : Hp} (f : Fx W S ws w b pr so H) (R : RowOk K ns r H) (s : SameX r H H') : Fx W S ws w b pr so H' := ⟨f.web.monoT (s.t R), f.beg.monoT (s.t R), f.prc.monoT (s.t R), f.som.monoX R s⟩
theorem vint {i j : Int} : decide (V.int i = V.int j) = decide (i = j) := decide_eq_decide.mpr ⟨fun h => by injection h, fun h => congrArg V.int h⟩
theorem TabsX {T : List (Addr × Str)} {K : PySem.W.Frag} {ns : Scr} {r : Addr} {H H' : Hp} (h : LamX.Tabs T H) (R : RowOk K ns r H) (s : SameX r H H') : LamX.Tabs T H' := fun p hp => by
  obtain ⟨ps, h1, h2, h3⟩ := h p hp
  obtain ⟨i, x, y, e, _⟩ := R.ex
  refine ⟨ps, s _ _ (fun z => by rw [z, e] at h1; cases h1) h1, h2, fun pos cv hc => ?_⟩
  obtain ⟨c, e1, e2⟩ := h3 pos cv hc
  refine ⟨c, e1, s _ _ (fun z => ?_) e2⟩
  rw [z, e] at e2
  unfold LamX.CodeO at e2
  cases e2
theorem Tabs.mono {T : List (Addr × Str)} {H H' : Hp} (h : LamX.Tabs T H) (s : Same H H') : LamX.Tabs T H' := fun p hp => LamX.TabS.ext (h p hp) s
abbrev NL : List Str := ["_law_script", "_law_row", "_law_web_here", "_law_begin", "_law_prices", "_law_many", "_law_some", "_law_top", "_law_rich", "_law_low", "_law_poor", "_law_goal", "_law_cost", "_law_people", "_law_price", "_law_end", "_law_every", "_law_person", "_law_best", "_law_light", "_law_one"]
abbrev LX (P : Program) (w : World) (K : PySem.W.Frag) (mg : Str → Option Value) (base : Heap) (f : Addr) (cdv : Value) (A : Around) (outer : List Env) (s : Shared) (H : Hp) (E : XK) : Cx := (cxOf CX0 P w K mg base NL "law" (defScope s_law) f cdv A outer s H E).nox
abbrev lawD (Q : VK) : Ends := { nx := fun _ H' => Q .non H', rt := Q }
end Ts

set_option Elab.async false
set_option linter.all false
set_option maxRecDepth 100000
set_option maxHeartbeats 8000000
namespace Ts
open PySem PySem.Spec PyProof.Rows L2 StX
theorem ndec_both {c : Prop} [Decidable c] {X Y N : Prop} (h2 : c → N → Y) (h1 : ¬ c → N → X) (rest : N) : if (!decide c) = true then X else Y := if_ndec (fun h => h1 h rest) (fun h => h2 h rest)
theorem light_eq (ws : Rw) (i : Nat) (hi : i < ws.length) : (ws.drop (HT.sIx ws.length 0 none)).take (HT.sIx ws.length ws.length (some (i : Int)) - HT.sIx ws.length 0 none) ++ [0] ++ (ws.drop (HT.sIx ws.length 0 (some ((i : Int) + 1)))).take (HT.sIx ws.length ws.length none - HT.sIx ws.length 0 (some ((i : Int) + 1))) = light ws i := by
  have e : (i : Int) + 1 = ((i + 1 : Nat) : Int) := by omega
  rw [e, HT.sIx_none, HT.sIx_none, HT.sIx_nat, HT.sIx_nat, List.drop_zero, Nat.sub_zero, Nat.min_eq_left (by omega), Nat.min_eq_left (by omega)]
  unfold light
  rw [Int.toNat_natCast]
  exact congrArg (ws.take i ++ [0] ++ ·) (List.take_of_length_le (by rw [List.length_drop]; exact Nat.le_refl _))
theorem tNoPart_i {σ : L2.St} {H : Hp} {Q : Option Int → Hp → Prop} (h : Q none H) : tNoPart σ H Q := h
theorem mem_can {W : Wb} {S : Rw} {p : Int} : p ∈ canW W S ↔ (endsW W S).filter (fun e => decide (p ∈ e)) ≠ [] := by
  unfold canW
  rw [List.mem_filter, List.any_eq_true]
  constructor
  · rintro ⟨_, e, he, hp⟩ z
    have : e ∈ (endsW W S).filter (fun e => decide (p ∈ e)) := List.mem_filter.mpr ⟨he, hp⟩
    rw [z] at this
    cases this
  · intro h
    obtain ⟨e, he⟩ := List.exists_mem_of_ne_nil _ h
    obtain ⟨a, b⟩ := List.mem_filter.mp he
    exact ⟨(mem_ends.mp a).1.subset (of_decide_eq_true b), e, a, b⟩
theorem law7 {P : Program} {w : World} {K : PySem.W.Frag} {mg : Str → Option Value} {base : Heap} {f : Addr} {cdv : Value} {A : Around} {outer : List Env} {s : Shared} {H : Hp} {E : XK} (B : Bi mg) (hr : Room 7 (A.deeper (envOfC "law" (defScope s_law) s.heap.objs.size f cdv)))
 (D_richest_with : Df P w K mg base "richest_with" 5 ["web", "standing", "weights", "person"] (sp_richest_with)) (D_who_can_stand : Df P w K mg base "who_can_stand" 5 ["web", "standing"] (sp_who_can_stand)) (D_richest_end : Df P w K mg base "richest_end" 5 ["web", "standing", "weights"] (sp_richest_end)) (D_worth : Df P w K mg base "worth" 5 ["web", "standing", "weights"] (sp_worth)) (D_count_ends : Df P w K mg base "count_ends" 5 ["web", "standing"] (sp_count_ends))
  : ∃ t, PSs (LX P w K mg base f cdv A outer s H E) ((defBody s_law).drop 20) t ∧ ∀ (Q : VK) (W : Wb) (S ws : Rw) (v0 v1 vw b pr so : V) (top : Int) (v8 v9 v10 v11 v12 v13 v14 v15 v16 v17 v18 v19 v20 : Option V) (H1 : Hp), (∀ H', Q (.bl true) H') → LC W S ws → Fx W S ws vw b pr so H1 →
    (∀ e ∈ endsW W S, wsum ws e ≤ top) → (∃ e ∈ endsW W S, wsum ws e = top) → t (lawD Q) [some v0, some v1, some vw, some b, some pr, some (.int W.length), some so, some (.int top), v8, v9, v10, v11, v12, v13, v14, v15, v16, v17, v18, v19, v20] H1 := by
  refine ⟨_, (pss_cons (ps_for PassesOwn.never rfl (pi_range1 (by rfl) B.range (pa_cons (pv 5) pa_nil)) (pg_name (i := 17) sc_law.nd rfl (by first | exact Or.inl rfl | exact Or.inr rfl)) (pss_cons (ps_set (i := 18) sc_law.nd rfl (by first | exact Or.inl rfl | exact Or.inr rfl) (pe_callD D_richest_with (hr.mono (by decide)) rfl (pa_cons (pv 2) (pa_cons (pv 3) (pa_cons (pv 4) (pa_cons (pv 17) pa_nil))))))
      (pss_cons (ps_if (pt_cmpR op_eq (pe_cmpR op_isN (pv 18) pe_non (nomark _)) (pe_cmpR op_inI (pv 17) (pe_callD D_who_can_stand (hr.mono (by decide)) rfl (pa_cons (pv 2) (pa_cons (pv 3) pa_nil))) (by rfl)) (nomark _)) (pss_one (ps_ret pe_bl)) pss_nil)
      (pss_cons (ps_if (PW.pt (pw_and (pt_cmpR op_notN (pv 18) pe_non (nomark _)) (pw_and1 (pt_not (pt_chain op_le op_le (pe_ix ix_TI (pv 4) (pv 17) (fun _ _ => rfl)) (pv 18) (pv 7)))))) (pss_one (ps_ret pe_bl)) pss_nil)
      (pss_cons (ps_set (i := 19) sc_law.nd rfl (by first | exact Or.inl rfl | exact Or.inr rfl) (pe_op op_catA (pe_op op_catA (pe_slice sl_tupA (pv 4) po_none (po_some (pv 17))) (pe_tup (pa_cons pe_int pa_nil))) (pe_slice sl_tupA (pv 4) (po_some (pe_op op_add (pv 17) pe_int)) po_none)))
      (pss_cons (ps_if (pt_cmpR op_gt (pe_ix ix_PR0 (pe_callD D_richest_end (hr.mono (by decide)) rfl (pa_cons (pv 2) (pa_cons (pv 3) (pa_cons (pv 19) pa_nil)))) pe_int (fun _ _ => rfl)) (pv 7) (nomark _)) (pss_one (ps_ret pe_bl)) pss_nil)
      (pss_one (ps_if (pt_cmpR op_lt (pe_ix ix_PR0 (pe_callD D_richest_end (hr.mono (by decide)) rfl (pa_cons (pv 2) (pa_cons (pv 3) (pa_cons (pv 19) pa_nil)))) pe_int (fun _ _ => rfl)) (pe_op op_sub (pv 7) (pe_ix ix_TI (pv 4) (pv 17) (fun _ _ => rfl))) (nomark _)) (pss_one (ps_ret pe_bl)) pss_nil))))))))
      (pss_one (ps_ret (pe_cmpR op_le (pe_callB cr_lenSet (by rfl) B.len (by decide +kernel) (pa_cons (pe_callTy (cr_setI rfl) (by rfl) B.set (by decide +kernel) (pa_cons (pe_lc (own := [("_law_one", 20)]) rfl sc_law.nd (pi_list (pv 6)) (blkOk_by (own := [("_law_one", 20)]) (N := ["_law_script", "_law_row", "_law_web_here", "_law_begin", "_law_prices", "_law_many", "_law_some", "_law_top", "_law_rich", "_law_low", "_law_poor", "_law_goal", "_law_cost", "_law_people", "_law_price", "_law_end", "_law_every", "_law_person", "_law_best", "_law_light", "_law_one"]) (sc := defScope s_law) (by decide +kernel)) (fun _ _ _ _ _ => (pg_name (i := 20) sc_law.nd rfl (by first | exact Or.inl rfl | exact Or.inr rfl))) (fun _ _ _ _ _ => pts_nil) (fun _ _ _ _ _ => (pe_callD D_worth (hr.mono (by decide)) rfl (pa_cons (pv 2) (pa_cons (pv 20) (pa_cons (pv 4) pa_nil)))))) pa_nil)) pa_nil)) (pe_callD D_count_ends (hr.mono (by decide)) rfl (pa_cons (pv 2) (pa_cons (pv 3) pa_nil))) (nomark _))))), ?_⟩
  intro Q W S ws v0 v1 vw b pr so top v8 v9 v10 v11 v12 v13 v14 v15 v16 v17 v18 v19 v20 H1 k L F htop hex
  have g := L.g
  have hs := L.hs
  have hwt := L.wt
  have le5 := g.le5
  have pos := g.pos
  have hne := ends_ne g hs
  refine ⟨_, rfl, _, rfl, by omega, by omega, ?_⟩
  refine for_range (lo := 0) (n := W.length) (fun i σ H' => ∃ (u17 u18 u19 : Option V), σ = [some v0, some v1, some vw, some b, some pr, some (.int W.length), some so, some (.int top), v8, v9, v10, v11, v12, v13, v14, v15, v16, u17, u18, u19, v20] ∧ Fx W S ws vw b pr so H') ⟨_, _, _, rfl, F⟩ (fun i σ H' hi ⟨u17, u18, u19, eσ, F⟩ => ?_) (fun σ H' ⟨u17, u18, u19, eσ, F⟩ => ?_)
  · subst eσ
    have hi0 : (0 : Int) ≤ (i : Int) := by omega
    have hi1 : (i : Int) < W.length := by omega
    have hi2 : (i : Int) < ws.length := by rw [hwt.1]; exact hi1
    rw [show (0 : Int) + (i : Int) = (i : Int) from Int.zero_add _]
    refine ⟨_, rfl, _, rfl, _, rfl, _, rfl, ((W, S, ws, (i : Int)) : Wb × Rw × Rw × Int), _, _, _, _, rfl, F.web, F.beg, F.prc, rfl, ⟨g, hs, hwt, hi0, hi1⟩, fun z H2 s2 hz => ?_⟩
    simp only at hz
    have F2 := F.mono s2
    have hneq : ¬ (V.bl (decide (z = V.non)) = V.bl (decide ((i : Int) ∈ canW W S))) := fun h => by
      have h : decide (z = V.non) = decide ((i : Int) ∈ canW W S) := by injection h
      rcases hz with ⟨rfl, h1⟩ | ⟨m, rfl, h1, _⟩
      · rw [decide_eq_true rfl] at h
        exact mem_can.mp (of_decide_eq_true h.symm) h1
      · rw [decide_eq_false (fun z => by cases z)] at h
        refine of_decide_eq_false h.symm (mem_can.mpr fun z => ?_)
        rw [z] at h1
        cases h1
    refine ⟨_, rfl, rfl, _, rfl, _, rfl, _, rfl, ((W, S) : WS), _, _, rfl, F2.web, F2.beg, ⟨g, hs⟩, fun z3 H3 s3 hz3 => ?_⟩
    simp only at hz3
    have F3 := F2.mono s3
    refine ⟨_, _, rfl, hz3, rfl, _, rfl, ?_⟩
    refine if_dec (fun hn => absurd hn hneq) fun _ => ?_
    refine ⟨_, rfl, rfl, _, rfl, ?_⟩
    refine ndec_both (fun _ n => iteF n) (fun hn n => ?_) ?_
    · rcases hz with ⟨rfl, h1⟩ | ⟨m, rfl, h1, h2⟩
      · exact absurd rfl hn
      · obtain ⟨e, he, rfl⟩ := List.mem_map.mp h1
        obtain ⟨e1, e2⟩ := List.mem_filter.mp he
        have eS := ends_sub hs e1
        have c1 : gt ws (i : Int) ≤ wsum ws e := wsum_one (of_decide_eq_true e2) fun x hx => (hwt.gt eS hx).1
        refine ⟨_, rfl, _, rfl, ws, (i : Int), F3.prc, rfl, hi0, hi2, _, rfl, _, _, rfl, rfl, _, rfl, ?_⟩
        refine if_dec (fun _ => ?_) (fun hn => absurd c1 hn)
        refine ⟨_, rfl, _, _, rfl, rfl, _, rfl, ?_⟩
        exact if_ndec (fun hn => absurd (htop e e1) hn) fun _ => n
    · refine ⟨_, rfl, _, rfl, _, rfl, rSlA_T F3.prc fun z4 H4 s4 hz4 => ?_⟩
      have F4 := F3.mono s4
      refine ⟨by show 1 ≤ sizeLine; decide, fun p np => ?_⟩
      refine catT (bs := [0]) (hz4.mono (same_new np)) ⟨p, rfl, upd_same⟩ ?_ fun z5 H5 s5 hz5 => ?_
      · have := List.length_take_le' (HT.sIx ws.length ws.length (some (i : Int)) - HT.sIx ws.length 0 none) (ws.drop (HT.sIx ws.length 0 none))
        rw [List.length_drop] at this
        have := hwt.1
        show _ + 1 ≤ 1000
        omega
      have F5 := (F4.mono (same_new np)).mono s5
      refine ⟨_, rfl, _, rfl, _, _, rfl, rfl, _, rfl, tNoPart_i (rSlA_T F5.prc fun z6 H6 s6 hz6 => ?_)⟩
      have hz56 := hz5.mono s6
      refine catT hz56 hz6 ?_ fun z7 H7 s7 hz7 => ?_
      · have a1 := List.length_take_le' (HT.sIx ws.length ws.length (some (i : Int)) - HT.sIx ws.length 0 none) (ws.drop (HT.sIx ws.length 0 none))
        have a2 := List.length_take_le' (HT.sIx ws.length ws.length none - HT.sIx ws.length 0 (some ((i : Int) + 1))) (ws.drop (HT.sIx ws.length 0 (some ((i : Int) + 1))))
        rw [List.length_drop] at a1 a2
        have := hwt.1
        rw [List.length_append, List.length_singleton]
        omega
      rw [light_eq ws i (by omega)] at hz7
      have F7 := (F5.mono s6).mono s7
      have lw := light_wts hwt hi0 hi2
      refine ⟨_, rfl, _, rfl, _, rfl, ((W, S, light ws i) : WSG), _, _, _, rfl, F7.web, F7.beg, hz7, ⟨g, hs, lw, hne⟩, fun z8 H8 s8 hz8 => ?_⟩
      obtain ⟨pl, hpl, ml⟩ := hz8
      simp only at ml
      obtain ⟨r1, r2, r3⟩ := rich ml
      have F8 := F7.mono s8
      have hz8' := hz7.mono s8
      have nn : ∀ e ∈ endsW W S, ∀ x ∈ e, 0 ≤ x ∧ 0 ≤ gt ws x := fun e he x hx => ⟨((ends_sub hs he).2 x hx).1, (hwt.gt (ends_sub hs he) hx).1⟩
      have hup : -pl.1 ≤ top := by
        have a1 := light_le hi0 hi2 (nn _ r1)
        have a2 := htop _ r1
        omega
      have hlo : top - gt ws (i : Int) ≤ -pl.1 := by
        obtain ⟨e0, he0, rfl⟩ := hex
        have a1 := light_ge (ws := ws) hi0 hi2 (hwt.2 _ (gt_mem hi0 hi2)).1 (ends_sub hs he0).nodup fun x hx => (nn _ he0 x hx).1
        have a2 := r3 _ he0
        omega
      refine ⟨_, hpl, rfl, _, rfl, _, _, rfl, rfl, _, rfl, ?_⟩
      refine if_dec (fun hn => absurd hup (by omega)) fun _ => ?_
      refine ⟨_, rfl, _, rfl, _, rfl, ((W, S, light ws i) : WSG), _, _, _, rfl, F8.web, F8.beg, hz8', ⟨g, hs, lw, hne⟩, fun z9 H9 s9 hz9 => ?_⟩
      obtain ⟨pl2, hpl2, ml2⟩ := hz9
      simp only at ml2
      have e12 := ml2.unique ml
      subst e12
      have F9 := F8.mono s9
      refine ⟨_, hpl2, rfl, _, rfl, _, rfl, _, rfl, ws, (i : Int), F9.prc, rfl, hi0, hi2, _, _, rfl, rfl, _, _, rfl, rfl, _, rfl, ?_⟩
      refine if_dec (fun hn => absurd hlo (by omega)) fun _ => ?_
      exact ⟨_, _, _, rfl, F9⟩
  · subst eσ
    obtain ⟨tso, xs, rfl, hl, hp⟩ := F.som
    have le := ends_le g hs
    refine ⟨_, rfl, tso, rfl, ⟨_, SqL.of hl⟩, fun D nD => ?_⟩
    refine cRi hl hp (Nat.le_trans le (by decide)) (fun _ => true) (wsum ws) nD (fun _ _ _ _ _ _ _ q => q _ (Same.refl _)) (fun r x H2 hr hx s2 Qy q => ?_) (fun H2 s2 hli => ?_)
    · refine ⟨_, rfl, _, rfl, _, rfl, ((W, r, ws) : WSG), _, _, _, rfl, F.web.mono s2, hx, F.prc.mono s2, ⟨g, ends_sub hs hr, hwt⟩, fun z H3 s3 hz => ?_⟩
      obtain rfl : z = .int (wsum ws r) := hz
      exact q _ s3
    · rw [filter_true] at hli
      refine ⟨_, _, rfl, .inl hli, ?_, fun ps c np hc => ?_⟩
      · rw [List.length_map]; exact Nat.le_trans le (by decide)
      rw [List.length_map] at hc
      refine ⟨ps, _, c, rfl, upd_same, by omega, ?_⟩
      have F3 := (F.mono s2).mono (same_new (o := SetO w ps (fun j => decide (j ∈ (endsW W S).map (wsum ws))) c) np)
      refine ⟨_, rfl, _, rfl, ((W, S) : WS), _, _, rfl, F3.web, F3.beg, ⟨g, hs⟩, fun z H4 s4 hz => ?_⟩
      obtain rfl : z = .int (endsW W S).length := hz
      refine ⟨_, _, rfl, rfl, ?_⟩
      have : (c : Int) ≤ ((endsW W S).length : Nat) := by omega
      show Q (.bl (decide ((c : Int) ≤ ((endsW W S).length : Nat)))) _
      rw [decide_eq_true this]
      exact k _
end Ts

set_option Elab.async false
set_option linter.all false
set_option maxRecDepth 100000
set_option maxHeartbeats 8000000
namespace Ts
open PySem PySem.Spec PyProof.Rows L2 StX
/-- every, the tests of it -/
theorem law6 {P : Program} {w : World} {K : PySem.W.Frag} {mg : Str → Option Value} {base : Heap} {f : Addr} {cdv : Value} {A : Around} {outer : List Env} {s : Shared} {H : Hp} {E : XK} (B : Bi mg) (hr : Room 7 (A.deeper (envOfC "law" (defScope s_law) s.heap.objs.size f cdv)))
 (D_richest_with : Df P w K mg base "richest_with" 5 ["web", "standing", "weights", "person"] (sp_richest_with)) (D_who_can_stand : Df P w K mg base "who_can_stand" 5 ["web", "standing"] (sp_who_can_stand)) (D_richest_end : Df P w K mg base "richest_end" 5 ["web", "standing", "weights"] (sp_richest_end)) (D_worth : Df P w K mg base "worth" 5 ["web", "standing", "weights"] (sp_worth)) (D_count_ends : Df P w K mg base "count_ends" 5 ["web", "standing"] (sp_count_ends)) (D_worths : Df P w K mg base "worths" 5 ["web", "standing", "weights"] (sp_worths)) (D_cheapest_end : Df P w K mg base "cheapest_end" 5 ["web", "standing", "weights"] (sp_cheapest_end))
  : ∃ t, PSs (LX P w K mg base f cdv A outer s H E) ((defBody s_law).drop 17) t ∧ ∀ (Q : VK) (W : Wb) (S ws : Rw) (v0 v1 vw b pr so : V) (top : Int) (v8 v10 v11 v12 v13 v14 v15 v16 v17 v18 v19 v20 : Option V) (H1 : Hp), (∀ H', Q (.bl true) H') → LC W S ws → Fx W S ws vw b pr so H1 →
    (∀ e ∈ endsW W S, wsum ws e ≤ top) → (∃ e ∈ endsW W S, wsum ws e = top) → t (lawD Q) [some v0, some v1, some vw, some b, some pr, some (.int W.length), some so, some (.int top), v8, some (.int (wsum ws (peaks W S))), v10, v11, v12, v13, v14, v15, v16, v17, v18, v19, v20] H1 := by
  obtain ⟨t7, P7, h7⟩ := law7 (P := P) (w := w) (K := K) (mg := mg) (base := base) (f := f) (cdv := cdv) (A := A) (outer := outer) (s := s) (H := H) (E := E) B hr D_richest_with D_who_can_stand D_richest_end D_worth D_count_ends
  refine ⟨_, (pss_cons (ps_set (i := 16) sc_law.nd rfl (by first | exact Or.inl rfl | exact Or.inr rfl) (pe_callD D_worths (hr.mono (by decide)) rfl (pa_cons (pv 2) (pa_cons (pv 3) (pa_cons (pv 4) pa_nil)))))
      (pss_cons (ps_if (PW.pt (pw_or (pt_cmpR op_ne (pe_callD D_worth (hr.mono (by decide)) rfl (pa_cons (pv 2) (pa_cons (pv 3) (pa_cons (pv 4) pa_nil)))) (pe_ix ix_TIl (pv 16) (pe_un un_neg pe_int) (fun _ _ => rfl)) (nomark _)) (pw_or1 (pt_cmpR op_ne (pv 9) (pe_ix ix_TI (pv 16) pe_int (fun _ _ => rfl)) (nomark _))))) (pss_one (ps_ret pe_bl)) pss_nil)
      (pss_cons (ps_if (PW.pt (pw_or (pt_cmpR op_notInI (pv 7) (pv 16) (by rfl)) (pw_or1 (pt_cmpR (op_neP (hu64 hr)) (pe_callD D_cheapest_end (hr.mono (by decide)) rfl (pa_cons (pv 2) (pa_cons (pv 3) (pa_cons (pe_op op_mulT (pe_tup (pa_cons pe_int pa_nil)) (pv 5)) pa_nil)))) (pe_tup (pa_cons pe_int (pa_cons (pe_ix ix_LT (pv 6) pe_int (fun _ _ => rfl)) pa_nil))) (nomark _))))) (pss_one (ps_ret pe_bl)) pss_nil)
      P7))), ?_⟩
  intro Q W S ws v0 v1 vw b pr so top v8 v10 v11 v12 v13 v14 v15 v16 v17 v18 v19 v20 H1 k L F32 htopb hex
  have g := L.g
  have hs := L.hs
  have hwt := L.wt
  have hw1 := L.w1
  have le5 := g.le5
  have pos := g.pos
  have hne := ends_ne g hs
  have hte : ∀ e ∈ endsW W S, tellings W S e ≠ [] := fun e he => end_tell g hs he
  have wt0 : Wts W (List.replicate W.length 0) := wts_rep (by decide) (by decide)
  -- every = worths
  refine ⟨_, rfl, _, rfl, _, rfl, ((W, S, ws) : WSG), _, _, _, rfl, F32.web, F32.beg, F32.prc, ⟨g, hs, hwt⟩, fun zev H33 s34 hz => ?_⟩
  obtain ⟨ev, hev, hevp, hevm⟩ := hz
  simp only at hevm
  have hw0 : ∀ x ∈ S, 0 ≤ gt ws x := fun x hx => by have := hw1 x hx; omega
  obtain ⟨⟨evl, eve⟩, evpos, ev0⟩ := worth_ends g hs hw0 hevp hevm
  have F33 := F32.mono s34
  -- if worth(begin) != every[-1] or low != every[0]
  refine ⟨_, rfl, _, rfl, _, rfl, ((W, S, ws) : WSG), _, _, _, rfl, F33.web, F33.beg, F33.prc, ⟨g, hs, hwt⟩, fun z H34 s35 hz => ?_⟩
  obtain rfl : z = .int (wsum ws S) := hz
  have hev34 := hev.mono s35
  have hevl : TI H34 zev (evl ++ [wsum ws S]) := by rw [← eve]; exact hev34
  refine ⟨_, rfl, _, rfl, evl, wsum ws S, hevl, rfl, rfl, _, rfl, ?_⟩
  refine if_ndec (fun hn => absurd rfl hn) fun _ => ?_
  refine ⟨_, rfl, _, rfl, ev, 0, hev34, rfl, Int.le_refl _, by omega, rfl, _, rfl, ?_⟩
  refine if_ndec (fun hn => absurd (congrArg V.int ev0.symm) hn) fun _ => ?_
  have F34 := F33.mono s35
  -- if top not in every or cheapest_end(zeros) != (0, some[0])
  have htop : top ∈ ev := by
    obtain ⟨e0, he0, rfl⟩ := hex
    obtain ⟨kp, hkp⟩ := end_steps g hs he0
    exact (hevm _).mpr ⟨kp, _, hkp, rfl⟩
  refine ⟨_, rfl, _, rfl, _, ev, rfl, hev34, _, rfl, ?_⟩
  refine if_ndec (fun hn => absurd htop hn) fun _ => ?_
  refine ⟨_, rfl, _, rfl, tCons_i (rdRep rfl pos le5 fun z35 H35 s36 h35 => ?_)⟩
  have F35 := F34.mono s36
  refine ⟨((W, S, List.replicate W.length 0) : WSG), _, _, _, rfl, F35.web, F35.beg, h35, ⟨g, hs, wt0, hne, hte⟩, fun z H36 s37 hz => ?_⟩
  obtain ⟨pj, hpj, mj⟩ := hz
  simp only at mj
  have F36 := F35.mono s37
  obtain ⟨ez, _⟩ := first_zero (rsort_pw _) (fun e he => by
    have hne2 : (tellings W S e).map (wsum (List.replicate W.length 0)) ≠ [] := fun z => hte e he (List.map_eq_nil_iff.mp z)
    obtain ⟨r9, hr9, e9⟩ := List.mem_map.mp (minI_mem hne2)
    rw [zeros (tellings_sub hs hr9)] at e9
    exact e9.symm) mj
  have hEpos : (0 : Int) < (endsW W S).length := by
    have := List.length_pos_iff.mpr hne
    omega
  refine ⟨_, rfl, _, 0, F36.som, rfl, Int.le_refl _, hEpos, fun zs hzs => ⟨two_le, fun pt npt => ?_⟩⟩
  refine ⟨_, _, hpj.mono (same_new npt), PR.mk npt hzs, _, rfl, ?_⟩
  refine if_ndec (fun hn => absurd ez hn) fun _ => ?_
  exact h7 Q W S ws v0 v1 vw b pr so top v8 _ v10 v11 v12 v13 v14 v15 _ v17 v18 v19 v20 _ k L (F36.mono (same_new npt)) htopb hex
end Ts

set_option Elab.async false
set_option linter.all false
set_option maxRecDepth 100000
set_option maxHeartbeats 8000000
namespace Ts
open PySem PySem.Spec PyProof.Rows L2 StX
/-- price, end; fewest calls -/
theorem law5 {P : Program} {w : World} {K : PySem.W.Frag} {mg : Str → Option Value} {base : Heap} {f : Addr} {cdv : Value} {A : Around} {outer : List Env} {s : Shared} {H : Hp} {E : XK} {Pt : Addr} (B : Bi mg) (hr : Room 7 (A.deeper (envOfC "law" (defScope s_law) s.heap.objs.size f cdv)))
 (D_richest_with : Df P w K mg base "richest_with" 5 ["web", "standing", "weights", "person"] (sp_richest_with)) (D_who_can_stand : Df P w K mg base "who_can_stand" 5 ["web", "standing"] (sp_who_can_stand)) (D_richest_end : Df P w K mg base "richest_end" 5 ["web", "standing", "weights"] (sp_richest_end)) (D_worth : Df P w K mg base "worth" 5 ["web", "standing", "weights"] (sp_worth)) (D_count_ends : Df P w K mg base "count_ends" 5 ["web", "standing"] (sp_count_ends)) (D_worths : Df P w K mg base "worths" 5 ["web", "standing", "weights"] (sp_worths)) (D_cheapest_end : Df P w K mg base "cheapest_end" 5 ["web", "standing", "weights"] (sp_cheapest_end)) (D_cheapest_telling : Df P w K mg base "cheapest_telling" 7 ["web", "standing", "goal", "weights"] (sp_cheapest_telling)) (D_calls_to_end : Df P w K mg base "calls_to_end" 5 ["web", "standing"] (sp_calls_to_end Pt))
  : ∃ t, PSs (LX P w K mg base f cdv A outer s H E) ((defBody s_law).drop 14) t ∧ ∀ (Q : VK) (W : Wb) (S ws : Rw) (v0 v1 vw b pr so : V) (top : Int) (v8 v10 v11 v12 v13 v14 v15 v16 v17 v18 v19 v20 : Option V) (H1 : Hp), (∀ H', Q (.bl true) H') → LC W S ws → Fx W S ws vw b pr so H1 → LamX.Tabs (lamT Pt) H1 →
    (∀ e ∈ endsW W S, wsum ws e ≤ top) → (∃ e ∈ endsW W S, wsum ws e = top) → t (lawD Q) [some v0, some v1, some vw, some b, some pr, some (.int W.length), some so, some (.int top), v8, some (.int (wsum ws (peaks W S))), v10, v11, v12, v13, v14, v15, v16, v17, v18, v19, v20] H1 := by
  obtain ⟨t6, P6, h6⟩ := law6 (P := P) (w := w) (K := K) (mg := mg) (base := base) (f := f) (cdv := cdv) (A := A) (outer := outer) (s := s) (H := H) (E := E) B hr D_richest_with D_who_can_stand D_richest_end D_worth D_count_ends D_worths D_cheapest_end
  refine ⟨_, (pss_cons (ps_asg (pe_callD D_cheapest_end (hr.mono (by decide)) rfl (pa_cons (pv 2) (pa_cons (pv 3) (pa_cons (pv 4) pa_nil)))) (pg_tup rfl (pgs_cons (pg_name (i := 14) sc_law.nd rfl (by first | exact Or.inl rfl | exact Or.inr rfl)) (pgs_cons (pg_name (i := 15) sc_law.nd rfl (by first | exact Or.inl rfl | exact Or.inr rfl)) pgs_nil))))
      (pss_cons (ps_if (PW.pt (pw_or (pt_cmpR (op_notInR (hu65 hr)) (pv 15) (pv 6) (by rfl)) (pw_or1 (pt_cmpR op_ne (pv 14) (pe_ix ix_PR0 (pe_callD D_cheapest_telling hr rfl (pa_cons (pv 2) (pa_cons (pv 3) (pa_cons (pv 15) (pa_cons (pv 4) pa_nil))))) pe_int (fun _ _ => rfl)) (nomark _))))) (pss_one (ps_ret pe_bl)) pss_nil)
      (pss_cons (ps_if (pt_cmpR op_ne (pe_ix ix_PR0 (pe_callD D_cheapest_end (hr.mono (by decide)) rfl (pa_cons (pv 2) (pa_cons (pv 3) (pa_cons (pe_op op_mulT (pe_tup (pa_cons pe_int pa_nil)) (pv 5)) pa_nil)))) pe_int (fun _ _ => rfl)) (pe_callD D_calls_to_end (hr.mono (by decide)) rfl (pa_cons (pv 2) (pa_cons (pv 3) pa_nil))) (nomark _)) (pss_one (ps_ret pe_bl)) pss_nil)
      P6))), ?_⟩
  intro Q W S ws v0 v1 vw b pr so top v8 v10 v11 v12 v13 v14 v15 v16 v17 v18 v19 v20 H1 k L F27 hTab htopb hex
  have g := L.g
  have hs := L.hs
  have hwt := L.wt
  have le5 := g.le5
  have pos := g.pos
  have hne := ends_ne g hs
  have hte : ∀ e ∈ endsW W S, tellings W S e ≠ [] := fun e he => end_tell g hs he
  have wt1 : Wts W (List.replicate W.length 1) := wts_rep (by decide) (by decide)
  refine ⟨_, rfl, _, rfl, _, rfl, ((W, S, ws) : WSG), _, _, _, rfl, F27.web, F27.beg, F27.prc, ⟨g, hs, hwt, hne, hte⟩, fun z H28 s29 hz => ?_⟩
  obtain ⟨pg, ⟨tg, qg, rfl, e1g, hqg⟩, mg'⟩ := hz
  simp only at mg' hqg e1g
  obtain ⟨cg1, cg2, cg3⟩ := cheap mg'
  have F28 := F27.mono s29
  refine ⟨tg, _, rfl, SqT.of e1g, rfl, _, _, rfl, _, _, rfl, rfl, ?_⟩
  -- if end not in some or price != cheapest_telling(end)[0]
  refine ⟨_, rfl, _, rfl, _, _, hqg, F28.som, _, rfl, ?_⟩
  have hEs := ends_sub hs cg1
  refine if_ndec (fun hn => absurd cg1 hn) fun _ => ?_
  refine ⟨_, rfl, _, rfl, _, rfl, _, rfl, _, rfl, ((W, S, pg.2, ws) : Wb × Rw × Rw × Rw), _, _, _, _, rfl, F28.web, F28.beg, hqg, F28.prc, ⟨⟨g, hs, hEs, (mem_ends.mp cg1).2.2⟩, hwt, hte _ cg1⟩, fun z H29 s30 hz => ?_⟩
  obtain ⟨ph, hph, mh⟩ := hz
  simp only at mh
  have eh : pg.1 = ph.1 := by rw [cheap_min mh, cg2]; rfl
  refine ⟨_, hph, rfl, rfl, _, rfl, ?_⟩
  refine if_ndec (fun hn => absurd (congrArg V.int eh) hn) fun _ => ?_
  have F29 := F28.mono s30
  -- if cheapest_end(ones)[0] != calls_to_end
  refine ⟨_, rfl, _, rfl, tCons_i (rdRep rfl pos le5 fun z30 H30 s31 h30 => ?_)⟩
  have F30 := F29.mono s31
  refine ⟨((W, S, List.replicate W.length 1) : WSG), _, _, _, rfl, F30.web, F30.beg, h30, ⟨g, hs, wt1, hne, hte⟩, fun z H31 s32 hz => ?_⟩
  obtain ⟨pi, hpi, mi⟩ := hz
  simp only at mi
  have F31 := F30.mono s32
  have s31 : Same H1 H31 := ((s29.trans s30).trans s31).trans s32
  refine ⟨_, hpi, rfl, ?_⟩
  refine ⟨_, rfl, _, rfl, W, S, _, _, rfl, F31.web, F31.beg, g, hs, Tabs.mono hTab s31, ex_apart g hs, fun m H32 eN hm1 hm2 => ?_⟩
  have ei := calls_least g hs mi hm1 hm2
  refine ⟨rfl, _, rfl, ?_⟩
  refine if_ndec (fun hn => absurd (congrArg V.int ei) hn) fun _ => ?_
  exact h6 Q W S ws v0 v1 vw b pr so top v8 v10 v11 v12 v13 _ _ v16 v17 v18 v19 v20 _ k L (F31.monoN eN) htopb hex
end Ts

set_option Elab.async false
set_option linter.all false
set_option maxRecDepth 100000
set_option maxHeartbeats 8000000
namespace Ts
open PySem PySem.Spec PyProof.Rows L2 StX
/-- goal, cost, people -/
theorem law4 {P : Program} {w : World} {K : PySem.W.Frag} {mg : Str → Option Value} {base : Heap} {f : Addr} {cdv : Value} {A : Around} {outer : List Env} {s : Shared} {H : Hp} {E : XK} {Pt : Addr} (B : Bi mg) (hr : Room 7 (A.deeper (envOfC "law" (defScope s_law) s.heap.objs.size f cdv)))
 (D_richest_with : Df P w K mg base "richest_with" 5 ["web", "standing", "weights", "person"] (sp_richest_with)) (D_who_can_stand : Df P w K mg base "who_can_stand" 5 ["web", "standing"] (sp_who_can_stand)) (D_richest_end : Df P w K mg base "richest_end" 5 ["web", "standing", "weights"] (sp_richest_end)) (D_worth : Df P w K mg base "worth" 5 ["web", "standing", "weights"] (sp_worth)) (D_count_ends : Df P w K mg base "count_ends" 5 ["web", "standing"] (sp_count_ends)) (D_worths : Df P w K mg base "worths" 5 ["web", "standing", "weights"] (sp_worths)) (D_cheapest_end : Df P w K mg base "cheapest_end" 5 ["web", "standing", "weights"] (sp_cheapest_end)) (D_cheapest_telling : Df P w K mg base "cheapest_telling" 7 ["web", "standing", "goal", "weights"] (sp_cheapest_telling)) (D_calls_to_end : Df P w K mg base "calls_to_end" 5 ["web", "standing"] (sp_calls_to_end Pt)) (D__law_pick : Df P w K mg base "_law_pick" 2 ["_law_row", "_law_kinds"] (sp__law_pick K)) (D_reached : Df P w K mg base "reached" 5 ["web", "standing"] (sp_reached)) (D_telling : Df P w K mg base "telling" 7 ["web", "standing", "goal"] (sp_telling)) (D_distance : Df P w K mg base "distance" 7 ["web", "standing", "goal"] (sp_distance)) (D_least_telling : Df P w K mg base "least_telling" 7 ["web", "standing", "goal"] (sp_least_telling))
  : ∃ t, PSs (LX P w K mg base f cdv A outer s H E) ((defBody s_law).drop 10) t ∧ ∀ (Q : VK) (W : Wb) (S ws : Rw) (ns : Scr) (r : Addr) (v0 vw b pr so : V) (top : Int) (v8 v10 v11 v12 v13 v14 v15 v16 v17 v18 v19 v20 : Option V) (H1 : Hp), (∀ H', Q (.bl true) H') → LC W S ws → Fx W S ws vw b pr so H1 → LamX.Tabs (lamT Pt) H1 → RowOk K ns r H1 →
    (∀ e ∈ endsW W S, wsum ws e ≤ top) → (∃ e ∈ endsW W S, wsum ws e = top) → t (lawD Q) [some v0, some (.ref r), some vw, some b, some pr, some (.int W.length), some so, some (.int top), v8, some (.int (wsum ws (peaks W S))), v10, v11, v12, v13, v14, v15, v16, v17, v18, v19, v20] H1 := by
  obtain ⟨t5, P5, h5⟩ := law5 (Pt := Pt) (P := P) (w := w) (K := K) (mg := mg) (base := base) (f := f) (cdv := cdv) (A := A) (outer := outer) (s := s) (H := H) (E := E) B hr D_richest_with D_who_can_stand D_richest_end D_worth D_count_ends D_worths D_cheapest_end D_cheapest_telling D_calls_to_end
  refine ⟨_, (pss_cons (ps_set (i := 11) sc_law.nd rfl (by first | exact Or.inl rfl | exact Or.inr rfl) (pe_callD D__law_pick (hr.mono (by decide)) rfl (pa_cons (pv 1) (pa_cons (pe_callD D_reached (hr.mono (by decide)) rfl (pa_cons (pv 2) (pa_cons (pv 3) pa_nil))) pa_nil))))
      (pss_cons (ps_asg (pe_callD D_cheapest_telling hr rfl (pa_cons (pv 2) (pa_cons (pv 3) (pa_cons (pv 11) (pa_cons (pv 4) pa_nil))))) (pg_tup rfl (pgs_cons (pg_name (i := 12) sc_law.nd rfl (by first | exact Or.inl rfl | exact Or.inr rfl)) (pgs_cons (pg_name (i := 13) sc_law.nd rfl (by first | exact Or.inl rfl | exact Or.inr rfl)) pgs_nil))))
      (pss_cons (ps_if (PW.pt (pw_or (pt_cmpR (op_notInR (hu65 hr)) (pv 13) (pe_callD D_telling hr rfl (pa_cons (pv 2) (pa_cons (pv 3) (pa_cons (pv 11) pa_nil)))) (by rfl)) (pw_or1 (pt_cmpR op_ne (pv 12) (pe_callB (cr_sumI rfl) (by rfl) B.sum (by decide +kernel) (pa_cons (pe_lc (own := [("_law_one", 20)]) rfl sc_law.nd (pi_tup (pv 13)) (blkOk_by (own := [("_law_one", 20)]) (N := ["_law_script", "_law_row", "_law_web_here", "_law_begin", "_law_prices", "_law_many", "_law_some", "_law_top", "_law_rich", "_law_low", "_law_poor", "_law_goal", "_law_cost", "_law_people", "_law_price", "_law_end", "_law_every", "_law_person", "_law_best", "_law_light", "_law_one"]) (sc := defScope s_law) (by decide +kernel)) (fun _ _ _ _ _ => (pg_name (i := 20) sc_law.nd rfl (by first | exact Or.inl rfl | exact Or.inr rfl))) (fun _ _ _ _ _ => pts_nil) (fun _ _ _ _ _ => (pe_ix ix_TI (pv 4) (pv 20) (fun _ _ => rfl)))) pa_nil)) (nomark _))))) (pss_one (ps_ret pe_bl)) pss_nil)
      (pss_cons (ps_if (pt_cmpR (op_neP (hu64 hr)) (pe_callD D_cheapest_telling hr rfl (pa_cons (pv 2) (pa_cons (pv 3) (pa_cons (pv 11) (pa_cons (pe_op op_mulT (pe_tup (pa_cons pe_int pa_nil)) (pv 5)) pa_nil))))) (pe_tup (pa_cons (pe_callD D_distance hr rfl (pa_cons (pv 2) (pa_cons (pv 3) (pa_cons (pv 11) pa_nil)))) (pa_cons (pe_ix ix_LT (pe_callD D_least_telling hr rfl (pa_cons (pv 2) (pa_cons (pv 3) (pa_cons (pv 11) pa_nil)))) pe_int (fun _ _ => rfl)) pa_nil))) (nomark _)) (pss_one (ps_ret pe_bl)) pss_nil)
      P5)))), ?_⟩
  intro Q W S ws ns r v0 vw b pr so top v8 v10 v11 v12 v13 v14 v15 v16 v17 v18 v19 v20 H17 k L F17 hTab R17 htopb hex
  have g := L.g
  have hs := L.hs
  have hwt := L.wt
  have le5 := g.le5
  have pos := g.pos
  have wt1 : Wts W (List.replicate W.length 1) := wts_rep (by decide) (by decide)
  refine ⟨_, rfl, _, rfl, _, rfl, ((W, S) : WS), _, _, rfl, F17.web, F17.beg, ⟨g, hs⟩, fun zr H18 s19 hzr => ?_⟩
  obtain ⟨rows, hrl, hrne, hrle, hrm⟩ := hzr
  simp only at hrm
  have R18 := R17.mono s19
  have F18 := F17.mono s19
  refine ⟨ns, r, _, rows, rfl, hrl, hrne, by omega, R18, fun gv H19 G s20 R19 hGm hgv => ?_⟩
  have F19 := F18.monoX R18 s20
  have T19 := TabsX (Tabs.mono hTab s19) R18 s20
  obtain ⟨kG, hG⟩ := (hrm G).mp hGm
  have hGs : Sub W.length G := hs.sub hG.sub
  have hGf := steps_fits g hs hG
  have hGt := fits_telling g hs hGs hGf
  -- cost, people = cheapest_telling
  refine ⟨_, rfl, _, rfl, _, rfl, _, rfl, ((W, S, G, ws) : Wb × Rw × Rw × Rw), _, _, _, _, rfl, F19.web, F19.beg, hgv, F19.prc, ⟨⟨g, hs, hGs, hGf⟩, hwt, hGt⟩, fun z H20 s21 hz => ?_⟩
  obtain ⟨pe, ⟨te, qe, rfl, e1e, hqe⟩, hme⟩ := hz
  simp only at hme hqe e1e
  obtain ⟨ch1, ch2, ch3⟩ := cheap hme
  have F20 := F19.mono s21
  have hg20 := hgv.mono s21
  refine ⟨te, _, rfl, SqT.of e1e, rfl, _, _, rfl, _, _, rfl, rfl, ?_⟩
  -- if people not in telling or cost != sum
  refine ⟨_, rfl, _, rfl, _, rfl, _, rfl, ((W, S, G) : WSG), _, _, _, rfl, F20.web, F20.beg, hg20, ⟨g, hs, hGs, hGf⟩, fun z H21 s22 hz => ?_⟩
  have F21 := F20.mono s22
  refine ⟨_, _, hqe.mono s22, hz, _, rfl, ?_⟩
  refine if_ndec (fun hn => absurd ch1 hn) fun _ => ?_
  refine ⟨_, rfl, ?_⟩
  refine rdSum rfl (hqe.mono s22) (fun _ => rfl) F21.prc (fun _ => rfl) ((tellings_sub hs ch1).wts hwt) ((tellings_sub hs ch1).le le5) fun H22 s23 => ?_
  have F22 := F21.mono s23
  refine ⟨rfl, _, rfl, ?_⟩
  refine if_ndec (fun hn => absurd (congrArg V.int ch2) hn) fun _ => ?_
  have hg22 := (hg20.mono s22).mono s23
  have s1922 := (s21.trans s22).trans s23
  -- if cheapest_telling(ones) != (distance, least_telling[0])
  have eT : ((tellings W S G).map fun r => (wsum (List.replicate W.length 1) r, r)) = (tellings W S G).map fun r => (lenI r, r) := List.map_congr_left fun r hr => by rw [ones (tellings_sub hs hr)]
  refine ⟨_, rfl, _, rfl, _, rfl, tCons_i (rdRep rfl pos le5 fun z23 H23 s24 h23 => ?_)⟩
  have F23 := F22.mono s24
  have hg23 := hg22.mono s24
  refine ⟨((W, S, G, List.replicate W.length 1) : Wb × Rw × Rw × Rw), _, _, _, _, rfl, F23.web, F23.beg, hg23, h23, ⟨⟨g, hs, hGs, hGf⟩, wt1, hGt⟩, fun z H24 s25 hz => ?_⟩
  obtain ⟨pf, hpf, mf⟩ := hz
  simp only at mf
  rw [eT] at mf
  obtain ⟨fl1, fl2⟩ := first_least (rsort_pw _) mf
  have F24 := F23.mono s25
  have hg24 := hg23.mono s25
  refine ⟨_, rfl, _, rfl, _, rfl, ((W, S, G) : WSG), _, _, _, rfl, F24.web, F24.beg, hg24, ⟨⟨g, hs, hGs, hGf⟩, hGt⟩, fun z H25 s26 hz => ?_⟩
  obtain rfl : z = .int (minI ((tellings W S G).map lenI)) := hz
  have F25 := F24.mono s26
  have hg25 := hg24.mono s26
  refine ⟨_, rfl, _, rfl, _, rfl, ((W, S, G) : WSG), _, _, _, rfl, F25.web, F25.beg, hg25, ⟨⟨g, hs, hGs, hGf⟩, hGt⟩, fun z H26 s27 hz => ?_⟩
  simp only at hz
  have F26 := F25.mono s27
  have fpos := List.length_pos_iff.mpr fl1
  refine ⟨_, 0, hz, rfl, Int.le_refl _, Int.ofNat_lt.mpr fpos, fun zl hzl => ⟨two_le, fun pt npt => ?_⟩⟩
  refine ⟨_, _, ((hpf.mono s26).mono s27).mono (same_new npt), PR.mk npt hzl, _, rfl, ?_⟩
  refine if_ndec (fun hn => absurd fl2 hn) fun _ => ?_
  have s27' := (((s24.trans s25).trans s26).trans s27).trans (same_new (o := .tup [.int (minI ((tellings W S G).map lenI)), zl]) npt)
  exact h5 Q W S ws v0 _ vw b pr so top v8 v10 _ _ _ v14 v15 v16 v17 v18 v19 v20 _ k L (F26.mono (same_new npt)) (Tabs.mono (Tabs.mono T19 s1922) s27') htopb hex
end Ts

set_option Elab.async false
set_option linter.all false
set_option maxRecDepth 100000
set_option maxHeartbeats 8000000
namespace Ts
open PySem PySem.Spec PyProof.Rows L2 StX
/-- the weights 1 -/
theorem law3 {P : Program} {w : World} {K : PySem.W.Frag} {mg : Str → Option Value} {base : Heap} {f : Addr} {cdv : Value} {A : Around} {outer : List Env} {s : Shared} {H : Hp} {E : XK} {Pt : Addr} (B : Bi mg) (hr : Room 7 (A.deeper (envOfC "law" (defScope s_law) s.heap.objs.size f cdv)))
 (D_richest_with : Df P w K mg base "richest_with" 5 ["web", "standing", "weights", "person"] (sp_richest_with)) (D_who_can_stand : Df P w K mg base "who_can_stand" 5 ["web", "standing"] (sp_who_can_stand)) (D_richest_end : Df P w K mg base "richest_end" 5 ["web", "standing", "weights"] (sp_richest_end)) (D_worth : Df P w K mg base "worth" 5 ["web", "standing", "weights"] (sp_worth)) (D_count_ends : Df P w K mg base "count_ends" 5 ["web", "standing"] (sp_count_ends)) (D_worths : Df P w K mg base "worths" 5 ["web", "standing", "weights"] (sp_worths)) (D_cheapest_end : Df P w K mg base "cheapest_end" 5 ["web", "standing", "weights"] (sp_cheapest_end)) (D_cheapest_telling : Df P w K mg base "cheapest_telling" 7 ["web", "standing", "goal", "weights"] (sp_cheapest_telling)) (D_calls_to_end : Df P w K mg base "calls_to_end" 5 ["web", "standing"] (sp_calls_to_end Pt)) (D__law_pick : Df P w K mg base "_law_pick" 2 ["_law_row", "_law_kinds"] (sp__law_pick K)) (D_reached : Df P w K mg base "reached" 5 ["web", "standing"] (sp_reached)) (D_telling : Df P w K mg base "telling" 7 ["web", "standing", "goal"] (sp_telling)) (D_distance : Df P w K mg base "distance" 7 ["web", "standing", "goal"] (sp_distance)) (D_least_telling : Df P w K mg base "least_telling" 7 ["web", "standing", "goal"] (sp_least_telling)) (D_widest_end : Df P w K mg base "widest_end" 5 ["web", "standing"] (sp_widest_end)) (D_most_apart : Df P w K mg base "most_apart" 5 ["web", "standing"] (sp_most_apart))
  : ∃ t, PSs (LX P w K mg base f cdv A outer s H E) ((defBody s_law).drop 8) t ∧ ∀ (Q : VK) (W : Wb) (S ws : Rw) (ns : Scr) (r : Addr) (v0 vw b pr so : V) (top : Int) (v8 v10 v11 v12 v13 v14 v15 v16 v17 v18 v19 v20 : Option V) (H1 : Hp), (∀ H', Q (.bl true) H') → LC W S ws → Fx W S ws vw b pr so H1 → LamX.Tabs (lamT Pt) H1 → RowOk K ns r H1 →
    (∀ e ∈ endsW W S, wsum ws e ≤ top) → (∃ e ∈ endsW W S, wsum ws e = top) → t (lawD Q) [some v0, some (.ref r), some vw, some b, some pr, some (.int W.length), some so, some (.int top), v8, some (.int (wsum ws (peaks W S))), v10, v11, v12, v13, v14, v15, v16, v17, v18, v19, v20] H1 := by
  obtain ⟨t4, P4, h4⟩ := law4 (Pt := Pt) (P := P) (w := w) (K := K) (mg := mg) (base := base) (f := f) (cdv := cdv) (A := A) (outer := outer) (s := s) (H := H) (E := E) B hr D_richest_with D_who_can_stand D_richest_end D_worth D_count_ends D_worths D_cheapest_end D_cheapest_telling D_calls_to_end D__law_pick D_reached D_telling D_distance D_least_telling
  refine ⟨_, (pss_cons (ps_if (pt_cmpR (op_neP (hu64 hr)) (pe_callD D_richest_end (hr.mono (by decide)) rfl (pa_cons (pv 2) (pa_cons (pv 3) (pa_cons (pe_op op_mulT (pe_tup (pa_cons pe_int pa_nil)) (pv 5)) pa_nil)))) (pe_callD D_widest_end (hr.mono (by decide)) rfl (pa_cons (pv 2) (pa_cons (pv 3) pa_nil))) (nomark _)) (pss_one (ps_ret pe_bl)) pss_nil)
      (pss_cons (ps_if (pt_cmpR op_gt (pe_ix ix_PR0 (pe_callD D_richest_end (hr.mono (by decide)) rfl (pa_cons (pv 2) (pa_cons (pv 3) (pa_cons (pe_op op_mulT (pe_tup (pa_cons pe_int pa_nil)) (pv 5)) pa_nil)))) pe_int (fun _ _ => rfl)) (pe_ix ix_PR0 (pe_callD D_most_apart (hr.mono (by decide)) rfl (pa_cons (pv 2) (pa_cons (pv 3) pa_nil))) pe_int (fun _ _ => rfl)) (nomark _)) (pss_one (ps_ret pe_bl)) pss_nil)
      P4)), ?_⟩
  intro Q W S ws ns r v0 vw b pr so top v8 v10 v11 v12 v13 v14 v15 v16 v17 v18 v19 v20 H11 k L F11 hTab R11 htopb hex
  have g := L.g
  have hs := L.hs
  have le5 := g.le5
  have pos := g.pos
  have hne := ends_ne g hs
  have wt1 : Wts W (List.replicate W.length 1) := wts_rep (by decide) (by decide)
  have eE : ((endsW W S).map fun e => (-wsum (List.replicate W.length 1) e, e)) = (endsW W S).map fun e => (-lenI e, e) := List.map_congr_left fun e he => by rw [ones (ends_sub hs he)]
  -- if richest_end(ones) != widest_end
  refine ⟨_, rfl, _, rfl, tCons_i (rdRep rfl pos le5 fun z12 H12 s13 h12 => ?_)⟩
  have F12 := F11.mono s13
  refine ⟨((W, S, List.replicate W.length 1) : WSG), _, _, _, rfl, F12.web, F12.beg, h12, ⟨g, hs, wt1, hne⟩, fun z13 H13 s14 hz13 => ?_⟩
  obtain ⟨pa, hpa, ma⟩ := hz13
  have F13 := F12.mono s14
  refine ⟨_, rfl, _, rfl, ((W, S) : WS), _, _, rfl, F13.web, F13.beg, ⟨⟨g, hs⟩, hne⟩, fun z14 H14 s15 hz14 => ?_⟩
  obtain ⟨pb, hpb, mb⟩ := hz14
  have F14 := F13.mono s15
  simp only at ma mb
  rw [eE] at ma
  have eab := ma.unique mb
  subst eab
  refine ⟨_, _, hpa.mono s15, hpb, _, rfl, ?_⟩
  refine if_ndec (fun hn => absurd rfl hn) fun _ => ?_
  -- if richest_end(ones)[0] > most_apart[0]
  refine ⟨_, rfl, _, rfl, tCons_i (rdRep rfl pos le5 fun z15 H15 s16 h15 => ?_)⟩
  have F15 := F14.mono s16
  refine ⟨((W, S, List.replicate W.length 1) : WSG), _, _, _, rfl, F15.web, F15.beg, h15, ⟨g, hs, wt1, hne⟩, fun z16 H16 s17 hz16 => ?_⟩
  obtain ⟨pc, hpc, mc⟩ := hz16
  have F16 := F15.mono s17
  refine ⟨_, hpc, rfl, ?_⟩
  refine ⟨_, rfl, _, rfl, ((W, S) : WS), _, _, rfl, F16.web, F16.beg, ⟨g, hs⟩, fun z17 H17 s18 hz17 => ?_⟩
  obtain ⟨pd, hpd, md⟩ := hz17
  have F17 := F16.mono s18
  simp only at mc md
  rw [eE] at mc
  have hcd : ¬ (-pd.1 < -pc.1) := by
    obtain ⟨c1, c2, c3⟩ := rich mc
    obtain ⟨d1, d2, d3⟩ := rich md
    have := d3 pc.2 (List.mem_filter.mpr ⟨mem_choice.mpr (mem_ends.mp c1).1, (mem_ends.mp c1).2.1⟩)
    omega
  refine ⟨_, hpd, rfl, _, _, rfl, rfl, _, rfl, ?_⟩
  refine if_dec (fun hn => absurd hn hcd) fun _ => ?_
  have s1117 := ((((s13.trans s14).trans s15).trans s16).trans s17).trans s18
  exact h4 Q W S ws ns r v0 vw b pr so top v8 v10 v11 v12 v13 v14 v15 v16 v17 v18 v19 v20 _ k L F17 (Tabs.mono hTab s1117) (R11.mono s1117) htopb hex
end Ts

set_option Elab.async false
set_option linter.all false
set_option maxRecDepth 100000
set_option maxHeartbeats 8000000
namespace Ts
open PySem PySem.Spec PyProof.Rows L2 StX
/-- the richest, the poorest -/
theorem law2 {P : Program} {w : World} {K : PySem.W.Frag} {mg : Str → Option Value} {base : Heap} {f : Addr} {cdv : Value} {A : Around} {outer : List Env} {s : Shared} {H : Hp} {E : XK} {Pt : Addr} (B : Bi mg) (hr : Room 7 (A.deeper (envOfC "law" (defScope s_law) s.heap.objs.size f cdv)))
 (D_richest_with : Df P w K mg base "richest_with" 5 ["web", "standing", "weights", "person"] (sp_richest_with)) (D_who_can_stand : Df P w K mg base "who_can_stand" 5 ["web", "standing"] (sp_who_can_stand)) (D_richest_end : Df P w K mg base "richest_end" 5 ["web", "standing", "weights"] (sp_richest_end)) (D_worth : Df P w K mg base "worth" 5 ["web", "standing", "weights"] (sp_worth)) (D_count_ends : Df P w K mg base "count_ends" 5 ["web", "standing"] (sp_count_ends)) (D_worths : Df P w K mg base "worths" 5 ["web", "standing", "weights"] (sp_worths)) (D_cheapest_end : Df P w K mg base "cheapest_end" 5 ["web", "standing", "weights"] (sp_cheapest_end)) (D_cheapest_telling : Df P w K mg base "cheapest_telling" 7 ["web", "standing", "goal", "weights"] (sp_cheapest_telling)) (D_calls_to_end : Df P w K mg base "calls_to_end" 5 ["web", "standing"] (sp_calls_to_end Pt)) (D__law_pick : Df P w K mg base "_law_pick" 2 ["_law_row", "_law_kinds"] (sp__law_pick K)) (D_reached : Df P w K mg base "reached" 5 ["web", "standing"] (sp_reached)) (D_telling : Df P w K mg base "telling" 7 ["web", "standing", "goal"] (sp_telling)) (D_distance : Df P w K mg base "distance" 7 ["web", "standing", "goal"] (sp_distance)) (D_least_telling : Df P w K mg base "least_telling" 7 ["web", "standing", "goal"] (sp_least_telling)) (D_widest_end : Df P w K mg base "widest_end" 5 ["web", "standing"] (sp_widest_end)) (D_most_apart : Df P w K mg base "most_apart" 5 ["web", "standing"] (sp_most_apart)) (D_poorest_end : Df P w K mg base "poorest_end" 5 ["web", "standing", "weights"] (sp_poorest_end)) (D_least_end : Df P w K mg base "least_end" 5 ["web", "standing"] (sp_least_end))
  : ∃ t, PSs (LX P w K mg base f cdv A outer s H E) ((defBody s_law).drop 4) t ∧ ∀ (Q : VK) (W : Wb) (S ws : Rw) (ns : Scr) (r : Addr) (v0 vw b pr so : V) (v7 v8 v9 v10 v11 v12 v13 v14 v15 v16 v17 v18 v19 v20 : Option V) (H1 : Hp), (∀ H', Q (.bl true) H') → LC W S ws → Fx W S ws vw b pr so H1 → LamX.Tabs (lamT Pt) H1 → RowOk K ns r H1 →
    t (lawD Q) [some v0, some (.ref r), some vw, some b, some pr, some (.int W.length), some so, v7, v8, v9, v10, v11, v12, v13, v14, v15, v16, v17, v18, v19, v20] H1 := by
  obtain ⟨t3, P3, h3⟩ := law3 (Pt := Pt) (P := P) (w := w) (K := K) (mg := mg) (base := base) (f := f) (cdv := cdv) (A := A) (outer := outer) (s := s) (H := H) (E := E) B hr D_richest_with D_who_can_stand D_richest_end D_worth D_count_ends D_worths D_cheapest_end D_cheapest_telling D_calls_to_end D__law_pick D_reached D_telling D_distance D_least_telling D_widest_end D_most_apart
  refine ⟨_, (pss_cons (ps_asg (pe_callD D_richest_end (hr.mono (by decide)) rfl (pa_cons (pv 2) (pa_cons (pv 3) (pa_cons (pv 4) pa_nil)))) (pg_tup rfl (pgs_cons (pg_name (i := 7) sc_law.nd rfl (by first | exact Or.inl rfl | exact Or.inr rfl)) (pgs_cons (pg_name (i := 8) sc_law.nd rfl (by first | exact Or.inl rfl | exact Or.inr rfl)) pgs_nil))))
      (pss_cons (ps_asg (pe_callD D_poorest_end (hr.mono (by decide)) rfl (pa_cons (pv 2) (pa_cons (pv 3) (pa_cons (pv 4) pa_nil)))) (pg_tup rfl (pgs_cons (pg_name (i := 9) sc_law.nd rfl (by first | exact Or.inl rfl | exact Or.inr rfl)) (pgs_cons (pg_name (i := 10) sc_law.nd rfl (by first | exact Or.inl rfl | exact Or.inr rfl)) pgs_nil))))
      (pss_cons (ps_if (PW.pt (pw_or (pt_cmpR (op_notInR (hu65 hr)) (pv 8) (pv 6) (by rfl)) (pw_or (pt_cmpR (op_notInR (hu65 hr)) (pv 10) (pv 6) (by rfl)) (pw_or1 (pt_cmpR op_ne (pe_callD D_worth (hr.mono (by decide)) rfl (pa_cons (pv 2) (pa_cons (pv 8) (pa_cons (pv 4) pa_nil)))) (pv 7) (nomark _)))))) (pss_one (ps_ret pe_bl)) pss_nil)
      (pss_cons (ps_if (PW.pt (pw_or (pt_cmpR op_ne (pe_callD D_worth (hr.mono (by decide)) rfl (pa_cons (pv 2) (pa_cons (pv 10) (pa_cons (pv 4) pa_nil)))) (pv 9) (nomark _)) (pw_or1 (pt_cmpR (op_neR (hu64 hr)) (pv 10) (pe_callD D_least_end (hr.mono (by decide)) rfl (pa_cons (pv 2) (pa_cons (pv 3) pa_nil))) (nomark _))))) (pss_one (ps_ret pe_bl)) pss_nil)
      P3)))), ?_⟩
  intro Q W S ws ns r v0 vw b pr so v7 v8 v9 v10 v11 v12 v13 v14 v15 v16 v17 v18 v19 v20 H6 k L F6 hTab R6
  have g := L.g
  have hs := L.hs
  have hwt := L.wt
  have hw1 := L.w1
  have hne := ends_ne g hs
  refine ⟨_, rfl, _, rfl, _, rfl, ((W, S, ws) : WSG), _, _, _, rfl, F6.web, F6.beg, F6.prc, ⟨g, hs, hwt, hne⟩, fun z H7 s8 hz => ?_⟩
  obtain ⟨p, ⟨tp, q, rfl, e1, hq⟩, hm⟩ := hz
  simp only at hq e1 hm
  obtain ⟨rc1, rc2, rc3⟩ := rich hm
  refine ⟨tp, _, rfl, SqT.of e1, rfl, _, _, rfl, _, _, rfl, rfl, ?_⟩
  have F7 := F6.mono s8
  refine ⟨_, rfl, _, rfl, _, rfl, ((W, S, ws) : WSG), _, _, _, rfl, F7.web, F7.beg, F7.prc, ⟨g, hs, hwt, hne⟩, fun z H8 s9 hz => ?_⟩
  obtain ⟨p', ⟨tp', q', rfl, e1', hq'⟩, hm'⟩ := hz
  simp only at hq' e1' hm'
  obtain ⟨po1, po2, po3⟩ := poor g hs hw1 hm'
  refine ⟨tp', _, rfl, SqT.of e1', rfl, _, _, rfl, _, _, rfl, rfl, ?_⟩
  have F8 := F7.mono s9
  rw [po1] at hq' po3
  rw [po2]
  -- if rich not in some or poor not in some or worth(rich) != top
  refine ⟨_, rfl, _, rfl, _, _, hq.mono s9, F8.som, _, rfl, ?_⟩
  refine if_ndec (fun hn => absurd rc1 hn) fun _ => ?_
  refine ⟨_, rfl, _, rfl, _, _, hq', F8.som, _, rfl, ?_⟩
  refine if_ndec (fun hn => absurd po3 hn) fun _ => ?_
  refine ⟨_, rfl, _, rfl, _, rfl, ((W, p.2, ws) : WSG), _, _, _, rfl, F8.web, hq.mono s9, F8.prc, ⟨g, ends_sub hs rc1, hwt⟩, fun z H9 s10 hz => ?_⟩
  obtain rfl : z = .int (wsum ws p.2) := hz
  refine ⟨_, rfl, rfl, _, rfl, ?_⟩
  refine if_ndec (fun hn => absurd (congrArg V.int rc2.symm) hn) fun _ => ?_
  have F9 := F8.mono s10
  -- if worth(poor) != low or poor != least_end
  refine ⟨_, rfl, _, rfl, _, rfl, ((W, peaks W S, ws) : WSG), _, _, _, rfl, F9.web, hq'.mono s10, F9.prc, ⟨g, ends_sub hs po3, hwt⟩, fun z H10 s11 hz => ?_⟩
  obtain rfl : z = .int (wsum ws (peaks W S)) := hz
  refine ⟨_, rfl, rfl, _, rfl, ?_⟩
  refine if_ndec (fun hn => absurd rfl hn) fun _ => ?_
  have F10 := F9.mono s11
  refine ⟨_, rfl, _, rfl, _, rfl, ((W, S) : WS), _, _, rfl, F10.web, F10.beg, ⟨g, hs⟩, fun z H11 s12 hz => ?_⟩
  refine ⟨_, _, ((hq'.mono s10).mono s11).mono s12, hz, _, rfl, ?_⟩
  refine if_ndec (fun hn => absurd rfl hn) fun _ => ?_
  have F11 := F10.mono s12
  have s611 := (((s8.trans s9).trans s10).trans s11).trans s12
  exact h3 Q W S ws ns r v0 vw b pr so _ _ _ v11 v12 v13 v14 v15 v16 v17 v18 v19 v20 _ k L F11 (Tabs.mono hTab s611) (R6.mono s611) rc3 ⟨_, rc1, rc2.symm⟩
end Ts

set_option Elab.async false
set_option linter.all false
set_option maxRecDepth 100000
set_option maxHeartbeats 8000000
namespace Ts
open PySem PySem.Spec PyProof.Rows L2 StX
theorem fn_law {P : Program} {w : World} {K : PySem.W.Frag} {mg : Str → Option Value} {base : Heap} {f : Addr} {fd : FuncData} {Pt : Addr} (B : Bi mg) (F : Fun K "law" "law" s_law f fd) (D_telling : Df P w K mg base "telling" 7 ["web", "standing", "goal"] (sp_telling)) (D_least_telling : Df P w K mg base "least_telling" 7 ["web", "standing", "goal"] (sp_least_telling)) (D_distance : Df P w K mg base "distance" 7 ["web", "standing", "goal"] (sp_distance)) (D_reached : Df P w K mg base "reached" 5 ["web", "standing"] (sp_reached)) (D_ends : Df P w K mg base "ends" 5 ["web", "standing"] (sp_ends)) (D_count_ends : Df P w K mg base "count_ends" 5 ["web", "standing"] (sp_count_ends)) (D_least_end : Df P w K mg base "least_end" 5 ["web", "standing"] (sp_least_end)) (D_who_can_stand : Df P w K mg base "who_can_stand" 5 ["web", "standing"] (sp_who_can_stand)) (D_widest_end : Df P w K mg base "widest_end" 5 ["web", "standing"] (sp_widest_end)) (D_cheapest_telling : Df P w K mg base "cheapest_telling" 7 ["web", "standing", "goal", "weights"] (sp_cheapest_telling)) (D_worth : Df P w K mg base "worth" 5 ["web", "standing", "weights"] (sp_worth)) (D_richest_end : Df P w K mg base "richest_end" 5 ["web", "standing", "weights"] (sp_richest_end)) (D_poorest_end : Df P w K mg base "poorest_end" 5 ["web", "standing", "weights"] (sp_poorest_end)) (D_cheapest_end : Df P w K mg base "cheapest_end" 5 ["web", "standing", "weights"] (sp_cheapest_end)) (D_richest_with : Df P w K mg base "richest_with" 5 ["web", "standing", "weights", "person"] (sp_richest_with)) (D_worths : Df P w K mg base "worths" 5 ["web", "standing", "weights"] (sp_worths)) (D_calls_to_end : Df P w K mg base "calls_to_end" 5 ["web", "standing"] (sp_calls_to_end Pt)) (D_most_apart : Df P w K mg base "most_apart" 5 ["web", "standing"] (sp_most_apart)) (D__law_taken : Df P w K mg base "_law_taken" 1 ["_law_row", "_law_many"] (sp__law_taken K)) (D__law_pick : Df P w K mg base "_law_pick" 2 ["_law_row", "_law_kinds"] (sp__law_pick K)) (D__law_web : Df P w K mg base "_law_web" 2 ["_law_row", "_law_most"] (sp__law_web K)) (D__law_up : Df P w K mg base "_law_up" 2 ["_law_row", "_law_web_here"] (sp__law_up K)) : FnOk P w K mg base CX0 8 f fd ["_law_script"] (sp_law K Pt) := by
  refine F.ok sc_law spL_len fun cdv A outer s H vs Q E hr h => ?_
  obtain ⟨a, ns, rfl, hS, hT, k⟩ := h
  obtain ⟨t2, P2, h2⟩ := law2 (Pt := Pt) (P := P) (w := w) (K := K) (mg := mg) (base := base) (f := f) (cdv := cdv) (A := A) (outer := outer) (s := s) (H := H) (E := E) B hr D_richest_with D_who_can_stand D_richest_end D_worth D_count_ends D_worths D_cheapest_end D_cheapest_telling D_calls_to_end D__law_pick D_reached D_telling D_distance D_least_telling D_widest_end D_most_apart D_poorest_end D_least_end
  refine ⟨_, (pss_cons (ps_set (i := 1) sc_law.nd rfl (by first | exact Or.inl rfl | exact Or.inr rfl) (pe_lst (pa_cons (pv 0) (pa_cons pe_int (pa_cons pe_int (pa_cons pe_int pa_nil))))))
      (pss_cons (ps_set (i := 2) sc_law.nd rfl (by first | exact Or.inl rfl | exact Or.inr rfl) (pe_callD D__law_web (hr.mono (by decide)) rfl (pa_cons (pv 1) (pa_cons pe_int pa_nil))))
      (pss_cons (ps_asg (pe_tup (pa_cons (pe_callD D__law_up (hr.mono (by decide)) rfl (pa_cons (pv 1) (pa_cons (pv 2) pa_nil))) (pa_cons (pe_callTy call_tupI (by rfl) B.tuple (by decide +kernel) (pa_cons (pe_lc (own := [("_law_one", 20)]) rfl sc_law.nd (pi_tup (pv 2)) (blkOk_by (own := [("_law_one", 20)]) (N := ["_law_script", "_law_row", "_law_web_here", "_law_begin", "_law_prices", "_law_many", "_law_some", "_law_top", "_law_rich", "_law_low", "_law_poor", "_law_goal", "_law_cost", "_law_people", "_law_price", "_law_end", "_law_every", "_law_person", "_law_best", "_law_light", "_law_one"]) (sc := defScope s_law) (by decide +kernel)) (fun _ _ _ _ _ => (pg_name (i := 20) sc_law.nd rfl (by first | exact Or.inl rfl | exact Or.inr rfl))) (fun _ _ _ _ _ => pts_nil) (fun _ _ _ _ _ => (pe_op op_add pe_int (pe_callD D__law_taken (hr.mono (by decide)) rfl (pa_cons (pv 1) (pa_cons pe_int pa_nil)))))) pa_nil)) (pa_cons (pe_callB call_lenW (by rfl) B.len (by decide +kernel) (pa_cons (pv 2) pa_nil)) pa_nil)))) (pg_tup rfl (pgs_cons (pg_name (i := 3) sc_law.nd rfl (by first | exact Or.inl rfl | exact Or.inr rfl)) (pgs_cons (pg_name (i := 4) sc_law.nd rfl (by first | exact Or.inl rfl | exact Or.inr rfl)) (pgs_cons (pg_name (i := 5) sc_law.nd rfl (by first | exact Or.inl rfl | exact Or.inr rfl)) pgs_nil)))))
      (pss_cons (ps_set (i := 6) sc_law.nd rfl (by first | exact Or.inl rfl | exact Or.inr rfl) (pe_callD D_ends (hr.mono (by decide)) rfl (pa_cons (pv 2) (pa_cons (pv 3) pa_nil))))
      P2)))), ?_⟩
  refine ⟨_, rfl, by show 4 ≤ sizeLine; decide, fun r nr => ?_⟩
  have R1 : RowOk K ⟨ns, a⟩ r (upd H r (.lst [.ref a, .int 0, .int 9962, .int 0])) := ⟨0, 9962, 0, upd_same, by decide, by decide, by decide, (same_new nr).seq hS⟩
  have T1 : LamX.Tabs (lamT Pt) (upd H r (.lst [.ref a, .int 0, .int 9962, .int 0])) := fun p hp => LamX.TabS.ext (hT p hp) (same_new nr)
  refine ⟨_, rfl, ⟨ns, a⟩, r, rfl, R1, fun vw W H2 s2 R2 g hW => ?_⟩
  obtain ⟨tw, xs, rfl, htw, hpw⟩ := hW
  have hW : WB H2 (.ref tw) W := ⟨tw, xs, rfl, htw, hpw⟩
  have le5 := g.le5
  have T2 := TabsX T1 R1 s2
  refine ⟨_, rfl, _, rfl, ⟨ns, a⟩, r, .ref tw, W, rfl, R2, hW, g, fun b S H3 s3 R3 hs hb => ?_⟩
  have t3 := s3.t R2
  have T3 := TabsX T2 R2 s3
  refine ⟨_, rfl, tw, rfl, ⟨_, SqT.of (t3 _ _ htw)⟩, fun D nD => ?_⟩
  have hDr := R3.ne nD
  refine lc_tup (K := K) (a := tw) (xs := xs) (fun i H' => ∃ l : Rw, H' D = some (.lst (l.map V.int)) ∧ l.length = i ∧ (∀ x ∈ l, 1 ≤ x ∧ x ≤ 40) ∧ SameX r H3 H' ∧ RowOk K ⟨ns, a⟩ r H') ⟨[], upd_same, rfl, fun _ h => (by cases h), .of (same_new nD), R3.mono (same_new nD)⟩
    (fun i H' _ ⟨l, h1, h2, h3, h4, h5⟩ => SqT.of (h4.t R3 _ _ (t3 _ _ htw))) (fun i x H' hx ⟨l, h1, h2, h3, h4, h5⟩ => ⟨rfl, ?_⟩) (fun H4 ⟨ws, h1, h2', h3, h4, R4⟩ => ?_)
  · have hi : i < xs.length := (List.getElem?_eq_some_iff.mp hx).1
    have hlx := Paired.length hpw
    refine ⟨_, rfl, ⟨ns, a⟩, r, 40, rfl, by decide, by decide, h5, fun t H5 s5 R5 t0 t40 => ?_⟩
    have h1' := s5 _ _ hDr h1
    refine ⟨_, _, rfl, rfl, _, h1', ?_, l ++ [1 + t], ?_, ?_, fun y hy => ?_, fun b o hb e => ?_, R5.fill R3 nD h1'⟩
    · rw [List.length_map]
      exact small1000 (by omega)
    · rw [upd_same, List.map_append]
      rfl
    · rw [List.length_append, List.length_singleton, h2]
    · rcases List.mem_append.mp hy with q | q
      · exact h3 y q
      · rw [List.mem_singleton.mp q]; omega
    · rw [upd_ne (ne_of_none e nD)]
      exact (h4.trans s5) b o hb e
  refine ⟨_, ws, rfl, ⟨D, rfl, h1⟩, fun pr H5 s5 hpr => ?_⟩
  have hwl : ws.length = W.length := by rw [h2', Paired.length hpw]
  have hwt : Wts W ws := ⟨hwl, fun x hx => by have := h3 x hx; omega⟩
  have hw1 : ∀ x ∈ S, 1 ≤ gt ws x := fun x hx => (h3 _ (gt_mem (hs.2 x hx).1 (by rw [hwl]; exact (hs.2 x hx).2))).1
  have t4 := (h4.t R3).trans (Same.t s5)
  have T5 := Tabs.mono (TabsX T3 R3 h4) s5
  have R5 := R4.mono s5
  have hW5 := (hW.monoT t3).monoT t4
  have hb5 := hb.monoT t4
  refine ⟨_, rfl, _, W, rfl, hW5, by show 3 ≤ sizeLine; decide, fun p3 np3 => ?_⟩
  have s6 : Same H5 (upd H5 p3 (.tup [b, pr, .int W.length])) := same_new np3
  refine ⟨p3, _, rfl, SqT.of upd_same, rfl, _, _, rfl, _, _, rfl, _, _, rfl, rfl, ?_⟩
  refine ⟨_, rfl, _, rfl, ((W, S) : WS), _, _, rfl, hW5.mono s6, hb5.mono s6, ⟨g, hs⟩, fun so H6 s7 hso => ?_⟩
  have s67 := s6.trans s7
  exact h2 Q W S ws ⟨ns, a⟩ r _ (.ref tw) b pr so _ _ _ _ _ _ _ _ _ _ _ _ _ _ H6 k ⟨g, hs, hwt, hw1⟩ ⟨hW5.mono s67, hb5.mono s67, hpr.mono s67, hso⟩ (Tabs.mono T5 s67) (R5.mono s67)
end Ts

set_option Elab.async false
set_option linter.all false
set_option maxRecDepth 100000
set_option maxHeartbeats 8000000
namespace Ts
open PySem PySem.Spec PyProof.Rows L2 StX
theorem defAt_mk {K : PySem.W.Frag} {h : Heap} {mg : Str → Option Value} {x : Str} {st : Stmt} {f : Addr} {oc : Value} {od an : Option Addr} {osl : Array (Option Value)} {kV doc pm cdv ct : Value} (X : K.In h) (G : h.Ns mainGlobals mg)
    (a : PySem.W.nsIn K mainGlobals x = some (some (.ref f))) (l : K.lookup f = some ⟨oc, od, .func (PySem.W.fnOf x x (defArgs st) (defBody st) (defScope st) .none kV doc pm an cdv ct), osl⟩) (c : PySem.W.codeIn K cdv x = true) (k : PySem.W.keepIn K (.ref f) = true) : DefAt K mg x st :=
  ⟨f, _, fun_mk l c k, PySem.W.mg_of X G a⟩
theorem defAtC_mk {K : PySem.W.Frag} {h : Heap} {mg : Str → Option Value} {x : Str} {st : Stmt} {f cc : Addr} {oc : Value} {od an : Option Addr} {osl : Array (Option Value)} {kV doc pm ct : Value} (X : K.In h) (G : h.Ns mainGlobals mg)
    (a : PySem.W.nsIn K mainGlobals x = some (some (.ref f))) (l : K.lookup f = some ⟨oc, od, .func (PySem.W.fnOf x x (defArgs st) (defBody st) (defScope st) .none kV doc pm an (.ref cc) ct), osl⟩) (c : PySem.W.codeIn K (.ref cc) x = true) (k : PySem.W.keepIn K (.ref f) = true) : DefAtC K mg x st cc :=
  ⟨f, oc, od, kV, doc, pm, an, ct, osl, l, c, k, PySem.W.mg_of X G a⟩
def is7 : Option (Option Value) → Bool
  | some (some (.int i _)) => decide (i = 7)
  | _ => false
theorem mp_of {K : PySem.W.Frag} {h : Heap} {mg : Str → Option Value} {x : Str} (X : K.In h) (G : h.Ns mainGlobals mg) (e : is7 (PySem.W.nsIn K mainGlobals x) = true) : ∃ tk, mg x = some (.int 7 tk) := by
  cases e1 : PySem.W.nsIn K mainGlobals x with
  | none => rw [e1] at e; cases e
  | some o =>
    cases o with
    | none => rw [e1] at e; cases e
    | some v =>
      rw [e1] at e
      cases v with
      | int i t =>
        have e2 : i = 7 := of_decide_eq_true e
        subst e2
        exact ⟨t, PySem.W.mg_of X G e1⟩
      | _ => cases e
theorem law_all {P : Program} {w : World} {K : PySem.W.Frag} {mg : Str → Option Value} {base : Heap} {f : Addr} {fd : FuncData} {Pt cc : Addr} (B : Bi mg) (mp : ∃ tk, mg "MOST_PEOPLE" = some (.int 7 tk)) (TB : LamX.TabB base mg cc Pt)
    (E_is_integer : DefAt K mg "is_integer" s_is_integer)
    (E_is_in : DefAt K mg "is_in" s_is_in)
    (E_is_list : DefAt K mg "is_list" s_is_list)
    (E_is_set : DefAt K mg "is_set" s_is_set)
    (E_need_web : DefAt K mg "need_web" s_need_web)
    (E_need_state : DefAt K mg "need_state" s_need_state)
    (E_need_two : DefAt K mg "need_two" s_need_two)
    (E_taller_in : DefAt K mg "taller_in" s_taller_in)
    (E_may_call : DefAt K mg "may_call" s_may_call)
    (E_fits : DefAt K mg "fits" s_fits)
    (E_need_way : DefAt K mg "need_way" s_need_way)
    (E_choices : DefAt K mg "choices" s_choices)
    (E_call_in : DefAt K mg "call_in" s_call_in)
    (E_leads : DefAt K mg "leads" s_leads)
    (E_telling_in : DefAt K mg "telling_in" s_telling_in)
    (E_telling : DefAt K mg "telling" s_telling)
    (E_least_telling : DefAt K mg "least_telling" s_least_telling)
    (E_distance : DefAt K mg "distance" s_distance)
    (E_movers_in : DefAt K mg "movers_in" s_movers_in)
    (E_reached_from : DefAt K mg "reached_from" s_reached_from)
    (E_reached : DefAt K mg "reached" s_reached)
    (E_apart_in : DefAt K mg "apart_in" s_apart_in)
    (E_ends_in : DefAt K mg "ends_in" s_ends_in)
    (E_ends : DefAt K mg "ends" s_ends)
    (E_count_ends : DefAt K mg "count_ends" s_count_ends)
    (E_peaks_in : DefAt K mg "peaks_in" s_peaks_in)
    (E_least_end : DefAt K mg "least_end" s_least_end)
    (E_who_can_stand : DefAt K mg "who_can_stand" s_who_can_stand)
    (E_widest_end : DefAt K mg "widest_end" s_widest_end)
    (E_need_weights : DefAt K mg "need_weights" s_need_weights)
    (E_cheapest_telling : DefAt K mg "cheapest_telling" s_cheapest_telling)
    (E_worth : DefAt K mg "worth" s_worth)
    (E_richest_end : DefAt K mg "richest_end" s_richest_end)
    (E_poorest_end : DefAt K mg "poorest_end" s_poorest_end)
    (E_cheapest_end : DefAt K mg "cheapest_end" s_cheapest_end)
    (E_need_person : DefAt K mg "need_person" s_need_person)
    (E_richest_with : DefAt K mg "richest_with" s_richest_with)
    (E_worths : DefAt K mg "worths" s_worths)
    (E_least_of : DefAt K mg "least_of" s_least_of)
    (E_calls_to_end : DefAtC K mg "calls_to_end" s_calls_to_end cc)
    (E_most_apart : DefAt K mg "most_apart" s_most_apart)
    (E__law_taken : DefAt K mg "_law_taken" s__law_taken)
    (E__law_pick : DefAt K mg "_law_pick" s__law_pick)
    (E__law_by : DefAt K mg "_law_by" s__law_by)
    (E__law_web : DefAt K mg "_law_web" s__law_web)
    (E__law_up : DefAt K mg "_law_up" s__law_up)
    (F : Fun K "law" "law" s_law f fd)
    : FnOk P w K mg base CX0 8 f fd ["_law_script"] (sp_law K Pt) := by
  have X_apart_in := d_apart_in (P := P) (w := w) (base := base) B E_apart_in 
  have X_is_integer := d_is_integer (P := P) (w := w) (base := base) B E_is_integer 
  have X_is_in := d_is_in (P := P) (w := w) (base := base) B E_is_in X_is_integer
  have X_is_list := d_is_list (P := P) (w := w) (base := base) B E_is_list 
  have X_is_set := d_is_set (P := P) (w := w) (base := base) B E_is_set X_is_in X_is_list
  have X_need_web := d_need_web (P := P) (w := w) (base := base) B mp E_need_web X_is_in X_is_list
  have X_need_state := d_need_state (P := P) (w := w) (base := base) B E_need_state X_need_web X_is_set
  have X_need_two := d_need_two (P := P) (w := w) (base := base) B E_need_two X_is_set X_need_state
  have X_taller_in := d_taller_in (P := P) (w := w) (base := base) B E_taller_in 
  have X_may_call := d_may_call (P := P) (w := w) (base := base) B E_may_call 
  have X_fits := d_fits (P := P) (w := w) (base := base) B E_fits X_taller_in X_may_call
  have X_need_way := d_need_way (P := P) (w := w) (base := base) B E_need_way X_need_two X_fits
  have X_choices := d_choices (P := P) (w := w) (base := base) B E_choices 
  have X_call_in := d_call_in (P := P) (w := w) (base := base) B E_call_in 
  have X_leads := d_leads (P := P) (w := w) (base := base) B E_leads X_call_in
  have X_telling_in := d_telling_in (P := P) (w := w) (base := base) B E_telling_in X_choices X_may_call X_leads
  have X_telling := d_telling (P := P) (w := w) (base := base) B E_telling X_need_way X_telling_in
  have X_least_telling := d_least_telling (P := P) (w := w) (base := base) B E_least_telling X_need_way X_telling_in
  have X_distance := d_distance (P := P) (w := w) (base := base) B E_distance X_need_way X_telling_in
  have X_movers_in := d_movers_in (P := P) (w := w) (base := base) B E_movers_in 
  have X_reached_from := d_reached_from (P := P) (w := w) (base := base) B E_reached_from X_call_in X_movers_in
  have X_reached := d_reached (P := P) (w := w) (base := base) B E_reached X_need_state X_reached_from
  have X_ends_in := d_ends_in (P := P) (w := w) (base := base) B E_ends_in X_apart_in X_choices X_fits
  have X_ends := d_ends (P := P) (w := w) (base := base) B E_ends X_need_state X_ends_in
  have X_count_ends := d_count_ends (P := P) (w := w) (base := base) B E_count_ends X_need_state X_ends_in
  have X_peaks_in := d_peaks_in (P := P) (w := w) (base := base) B E_peaks_in 
  have X_least_end := d_least_end (P := P) (w := w) (base := base) B E_least_end X_need_state X_peaks_in
  have X_who_can_stand := d_who_can_stand (P := P) (w := w) (base := base) B E_who_can_stand X_need_state X_ends_in
  have X_widest_end := d_widest_end (P := P) (w := w) (base := base) B E_widest_end X_need_state X_ends_in
  have X_need_weights := d_need_weights (P := P) (w := w) (base := base) B E_need_weights X_is_in X_is_list
  have X_cheapest_telling := d_cheapest_telling (P := P) (w := w) (base := base) B E_cheapest_telling X_need_two X_need_way X_telling_in X_need_weights
  have X_worth := d_worth (P := P) (w := w) (base := base) B E_worth X_need_state X_need_weights
  have X_richest_end := d_richest_end (P := P) (w := w) (base := base) B E_richest_end X_need_state X_ends_in X_need_weights
  have X_poorest_end := d_poorest_end (P := P) (w := w) (base := base) B E_poorest_end X_need_state X_ends_in X_need_weights
  have X_cheapest_end := d_cheapest_end (P := P) (w := w) (base := base) B E_cheapest_end X_need_state X_telling_in X_ends_in X_need_weights
  have X_need_person := d_need_person (P := P) (w := w) (base := base) B E_need_person X_is_in
  have X_richest_with := d_richest_with (P := P) (w := w) (base := base) B E_richest_with X_need_state X_need_person X_ends_in X_need_weights
  have X_worths := d_worths (P := P) (w := w) (base := base) B E_worths X_need_state X_reached_from X_need_weights
  have X_least_of := d_least_of (P := P) (w := w) (base := base) B X_apart_in E_least_of X_reached_from
  have X_calls_to_end := d_calls_to_end (P := P) (w := w) B E_calls_to_end TB X_need_state X_least_of
  have X_most_apart := d_most_apart (P := P) (w := w) (base := base) B E_most_apart X_need_state X_apart_in X_choices
  have X__law_taken := d__law_taken (P := P) (w := w) (base := base) B E__law_taken 
  have X__law_pick := d__law_pick (P := P) (w := w) (base := base) B E__law_pick X__law_taken
  have X__law_by := d__law_by (P := P) (w := w) (base := base) B E__law_by 
  have X__law_web := d__law_web (P := P) (w := w) (base := base) B E__law_web X__law_taken X__law_by
  have X__law_up := d__law_up (P := P) (w := w) (base := base) B E__law_up X__law_taken
  exact fn_law B F X_telling X_least_telling X_distance X_reached X_ends X_count_ends X_least_end X_who_can_stand X_widest_end X_cheapest_telling X_worth X_richest_end X_poorest_end X_cheapest_end X_richest_with X_worths X_calls_to_end X_most_apart X__law_taken X__law_pick X__law_web X__law_up
end Ts

set_option Elab.async false
set_option linter.all false
set_option maxRecDepth 100000
set_option maxHeartbeats 0
open PySem PySem.W PyProof.Rows in
set_option maxRecDepth 100000 in
set_option maxHeartbeats 0 in
open_top head for PySem.Challenge.rw_tallsits_k62_whole_weights_compared
open PySem PySem.W PyProof.Rows in
set_option maxRecDepth 100000 in
set_option maxHeartbeats 0 in
theorem PySem.Challenge.cw_tallsits_k62_whole_weights_compared_holds : PySem.Challenge.rw_tallsits_k62_whole_weights_compared.Holds := by
  refine head ?_
  refine LamX.walk_ofTs (l := PySem.Challenge.rw_tallsits_k62_whole_weights_compared) (n := 63) (k := 8) (x := "_law_script") (K := head.heap_39) (CX := fun _ => L2.CX0) rfl (by decide) rfl ⟨rfl, by decide, by decide⟩ (fun w h Y => km_in_of Y) ?F (fun _ _ _ _ _ z => z)
  intro w mg fa h Y KX G hmg
  have hT := km_tabs_of Y
  have B : Ts.Bi mg := by
    refine' ⟨PySem.W.mg_none_of KX G ?b1, PySem.W.mg_none_of KX G ?b2, PySem.W.mg_none_of KX G ?b3, PySem.W.mg_none_of KX G ?b4, PySem.W.mg_none_of KX G ?b5, PySem.W.mg_none_of KX G ?b6, PySem.W.mg_none_of KX G ?b7, PySem.W.mg_none_of KX G ?b8, PySem.W.mg_none_of KX G ?b9, PySem.W.mg_none_of KX G ?b10, PySem.W.mg_none_of KX G ?b11, PySem.W.mg_none_of KX G ?b12, PySem.W.mg_none_of KX G ?b13, PySem.W.mg_none_of KX G ?b14, PySem.W.mg_none_of KX G ?b15⟩
    all_goals k_is
  have mp : ∃ tk, mg "MOST_PEOPLE" = some (.int 7 tk) := Ts.mp_of KX G (by kernel_rfl)
  have E_is_integer : Ts.DefAt (head.heap_39 w.params) mg "is_integer" Ts.s_is_integer := by
    refine' Ts.defAt_mk KX G ?a ?l ?c ?k
    (case a => k_is)
    (case l => k_is)
    (case c => k_is)
    (case k => k_is)
  have E_is_in : Ts.DefAt (head.heap_39 w.params) mg "is_in" Ts.s_is_in := by
    refine' Ts.defAt_mk KX G ?a ?l ?c ?k
    (case a => k_is)
    (case l => k_is)
    (case c => k_is)
    (case k => k_is)
  have E_is_list : Ts.DefAt (head.heap_39 w.params) mg "is_list" Ts.s_is_list := by
    refine' Ts.defAt_mk KX G ?a ?l ?c ?k
    (case a => k_is)
    (case l => k_is)
    (case c => k_is)
    (case k => k_is)
  have E_is_set : Ts.DefAt (head.heap_39 w.params) mg "is_set" Ts.s_is_set := by
    refine' Ts.defAt_mk KX G ?a ?l ?c ?k
    (case a => k_is)
    (case l => k_is)
    (case c => k_is)
    (case k => k_is)
  have E_need_web : Ts.DefAt (head.heap_39 w.params) mg "need_web" Ts.s_need_web := by
    refine' Ts.defAt_mk KX G ?a ?l ?c ?k
    (case a => k_is)
    (case l => k_is)
    (case c => k_is)
    (case k => k_is)
  have E_need_state : Ts.DefAt (head.heap_39 w.params) mg "need_state" Ts.s_need_state := by
    refine' Ts.defAt_mk KX G ?a ?l ?c ?k
    (case a => k_is)
    (case l => k_is)
    (case c => k_is)
    (case k => k_is)
  have E_need_two : Ts.DefAt (head.heap_39 w.params) mg "need_two" Ts.s_need_two := by
    refine' Ts.defAt_mk KX G ?a ?l ?c ?k
    (case a => k_is)
    (case l => k_is)
    (case c => k_is)
    (case k => k_is)
  have E_taller_in : Ts.DefAt (head.heap_39 w.params) mg "taller_in" Ts.s_taller_in := by
    refine' Ts.defAt_mk KX G ?a ?l ?c ?k
    (case a => k_is)
    (case l => k_is)
    (case c => k_is)
    (case k => k_is)
  have E_may_call : Ts.DefAt (head.heap_39 w.params) mg "may_call" Ts.s_may_call := by
    refine' Ts.defAt_mk KX G ?a ?l ?c ?k
    (case a => k_is)
    (case l => k_is)
    (case c => k_is)
    (case k => k_is)
  have E_fits : Ts.DefAt (head.heap_39 w.params) mg "fits" Ts.s_fits := by
    refine' Ts.defAt_mk KX G ?a ?l ?c ?k
    (case a => k_is)
    (case l => k_is)
    (case c => k_is)
    (case k => k_is)
  have E_need_way : Ts.DefAt (head.heap_39 w.params) mg "need_way" Ts.s_need_way := by
    refine' Ts.defAt_mk KX G ?a ?l ?c ?k
    (case a => k_is)
    (case l => k_is)
    (case c => k_is)
    (case k => k_is)
  have E_choices : Ts.DefAt (head.heap_39 w.params) mg "choices" Ts.s_choices := by
    refine' Ts.defAt_mk KX G ?a ?l ?c ?k
    (case a => k_is)
    (case l => k_is)
    (case c => k_is)
    (case k => k_is)
  have E_call_in : Ts.DefAt (head.heap_39 w.params) mg "call_in" Ts.s_call_in := by
    refine' Ts.defAt_mk KX G ?a ?l ?c ?k
    (case a => k_is)
    (case l => k_is)
    (case c => k_is)
    (case k => k_is)
  have E_leads : Ts.DefAt (head.heap_39 w.params) mg "leads" Ts.s_leads := by
    refine' Ts.defAt_mk KX G ?a ?l ?c ?k
    (case a => k_is)
    (case l => k_is)
    (case c => k_is)
    (case k => k_is)
  have E_telling_in : Ts.DefAt (head.heap_39 w.params) mg "telling_in" Ts.s_telling_in := by
    refine' Ts.defAt_mk KX G ?a ?l ?c ?k
    (case a => k_is)
    (case l => k_is)
    (case c => k_is)
    (case k => k_is)
  have E_telling : Ts.DefAt (head.heap_39 w.params) mg "telling" Ts.s_telling := by
    refine' Ts.defAt_mk KX G ?a ?l ?c ?k
    (case a => k_is)
    (case l => k_is)
    (case c => k_is)
    (case k => k_is)
  have E_least_telling : Ts.DefAt (head.heap_39 w.params) mg "least_telling" Ts.s_least_telling := by
    refine' Ts.defAt_mk KX G ?a ?l ?c ?k
    (case a => k_is)
    (case l => k_is)
    (case c => k_is)
    (case k => k_is)
  have E_distance : Ts.DefAt (head.heap_39 w.params) mg "distance" Ts.s_distance := by
    refine' Ts.defAt_mk KX G ?a ?l ?c ?k
    (case a => k_is)
    (case l => k_is)
    (case c => k_is)
    (case k => k_is)
  have E_movers_in : Ts.DefAt (head.heap_39 w.params) mg "movers_in" Ts.s_movers_in := by
    refine' Ts.defAt_mk KX G ?a ?l ?c ?k
    (case a => k_is)
    (case l => k_is)
    (case c => k_is)
    (case k => k_is)
  have E_reached_from : Ts.DefAt (head.heap_39 w.params) mg "reached_from" Ts.s_reached_from := by
    refine' Ts.defAt_mk KX G ?a ?l ?c ?k
    (case a => k_is)
    (case l => k_is)
    (case c => k_is)
    (case k => k_is)
  have E_reached : Ts.DefAt (head.heap_39 w.params) mg "reached" Ts.s_reached := by
    refine' Ts.defAt_mk KX G ?a ?l ?c ?k
    (case a => k_is)
    (case l => k_is)
    (case c => k_is)
    (case k => k_is)
  have E_apart_in : Ts.DefAt (head.heap_39 w.params) mg "apart_in" Ts.s_apart_in := by
    refine' Ts.defAt_mk KX G ?a ?l ?c ?k
    (case a => k_is)
    (case l => k_is)
    (case c => k_is)
    (case k => k_is)
  have E_ends_in : Ts.DefAt (head.heap_39 w.params) mg "ends_in" Ts.s_ends_in := by
    refine' Ts.defAt_mk KX G ?a ?l ?c ?k
    (case a => k_is)
    (case l => k_is)
    (case c => k_is)
    (case k => k_is)
  have E_ends : Ts.DefAt (head.heap_39 w.params) mg "ends" Ts.s_ends := by
    refine' Ts.defAt_mk KX G ?a ?l ?c ?k
    (case a => k_is)
    (case l => k_is)
    (case c => k_is)
    (case k => k_is)
  have E_count_ends : Ts.DefAt (head.heap_39 w.params) mg "count_ends" Ts.s_count_ends := by
    refine' Ts.defAt_mk KX G ?a ?l ?c ?k
    (case a => k_is)
    (case l => k_is)
    (case c => k_is)
    (case k => k_is)
  have E_peaks_in : Ts.DefAt (head.heap_39 w.params) mg "peaks_in" Ts.s_peaks_in := by
    refine' Ts.defAt_mk KX G ?a ?l ?c ?k
    (case a => k_is)
    (case l => k_is)
    (case c => k_is)
    (case k => k_is)
  have E_least_end : Ts.DefAt (head.heap_39 w.params) mg "least_end" Ts.s_least_end := by
    refine' Ts.defAt_mk KX G ?a ?l ?c ?k
    (case a => k_is)
    (case l => k_is)
    (case c => k_is)
    (case k => k_is)
  have E_who_can_stand : Ts.DefAt (head.heap_39 w.params) mg "who_can_stand" Ts.s_who_can_stand := by
    refine' Ts.defAt_mk KX G ?a ?l ?c ?k
    (case a => k_is)
    (case l => k_is)
    (case c => k_is)
    (case k => k_is)
  have E_widest_end : Ts.DefAt (head.heap_39 w.params) mg "widest_end" Ts.s_widest_end := by
    refine' Ts.defAt_mk KX G ?a ?l ?c ?k
    (case a => k_is)
    (case l => k_is)
    (case c => k_is)
    (case k => k_is)
  have E_need_weights : Ts.DefAt (head.heap_39 w.params) mg "need_weights" Ts.s_need_weights := by
    refine' Ts.defAt_mk KX G ?a ?l ?c ?k
    (case a => k_is)
    (case l => k_is)
    (case c => k_is)
    (case k => k_is)
  have E_cheapest_telling : Ts.DefAt (head.heap_39 w.params) mg "cheapest_telling" Ts.s_cheapest_telling := by
    refine' Ts.defAt_mk KX G ?a ?l ?c ?k
    (case a => k_is)
    (case l => k_is)
    (case c => k_is)
    (case k => k_is)
  have E_worth : Ts.DefAt (head.heap_39 w.params) mg "worth" Ts.s_worth := by
    refine' Ts.defAt_mk KX G ?a ?l ?c ?k
    (case a => k_is)
    (case l => k_is)
    (case c => k_is)
    (case k => k_is)
  have E_richest_end : Ts.DefAt (head.heap_39 w.params) mg "richest_end" Ts.s_richest_end := by
    refine' Ts.defAt_mk KX G ?a ?l ?c ?k
    (case a => k_is)
    (case l => k_is)
    (case c => k_is)
    (case k => k_is)
  have E_poorest_end : Ts.DefAt (head.heap_39 w.params) mg "poorest_end" Ts.s_poorest_end := by
    refine' Ts.defAt_mk KX G ?a ?l ?c ?k
    (case a => k_is)
    (case l => k_is)
    (case c => k_is)
    (case k => k_is)
  have E_cheapest_end : Ts.DefAt (head.heap_39 w.params) mg "cheapest_end" Ts.s_cheapest_end := by
    refine' Ts.defAt_mk KX G ?a ?l ?c ?k
    (case a => k_is)
    (case l => k_is)
    (case c => k_is)
    (case k => k_is)
  have E_need_person : Ts.DefAt (head.heap_39 w.params) mg "need_person" Ts.s_need_person := by
    refine' Ts.defAt_mk KX G ?a ?l ?c ?k
    (case a => k_is)
    (case l => k_is)
    (case c => k_is)
    (case k => k_is)
  have E_richest_with : Ts.DefAt (head.heap_39 w.params) mg "richest_with" Ts.s_richest_with := by
    refine' Ts.defAt_mk KX G ?a ?l ?c ?k
    (case a => k_is)
    (case l => k_is)
    (case c => k_is)
    (case k => k_is)
  have E_worths : Ts.DefAt (head.heap_39 w.params) mg "worths" Ts.s_worths := by
    refine' Ts.defAt_mk KX G ?a ?l ?c ?k
    (case a => k_is)
    (case l => k_is)
    (case c => k_is)
    (case k => k_is)
  have E_least_of : Ts.DefAt (head.heap_39 w.params) mg "least_of" Ts.s_least_of := by
    refine' Ts.defAt_mk KX G ?a ?l ?c ?k
    (case a => k_is)
    (case l => k_is)
    (case c => k_is)
    (case k => k_is)
  have E_most_apart : Ts.DefAt (head.heap_39 w.params) mg "most_apart" Ts.s_most_apart := by
    refine' Ts.defAt_mk KX G ?a ?l ?c ?k
    (case a => k_is)
    (case l => k_is)
    (case c => k_is)
    (case k => k_is)
  have E__law_taken : Ts.DefAt (head.heap_39 w.params) mg "_law_taken" Ts.s__law_taken := by
    refine' Ts.defAt_mk KX G ?a ?l ?c ?k
    (case a => k_is)
    (case l => k_is)
    (case c => k_is)
    (case k => k_is)
  have E__law_pick : Ts.DefAt (head.heap_39 w.params) mg "_law_pick" Ts.s__law_pick := by
    refine' Ts.defAt_mk KX G ?a ?l ?c ?k
    (case a => k_is)
    (case l => k_is)
    (case c => k_is)
    (case k => k_is)
  have E__law_by : Ts.DefAt (head.heap_39 w.params) mg "_law_by" Ts.s__law_by := by
    refine' Ts.defAt_mk KX G ?a ?l ?c ?k
    (case a => k_is)
    (case l => k_is)
    (case c => k_is)
    (case k => k_is)
  have E__law_web : Ts.DefAt (head.heap_39 w.params) mg "_law_web" Ts.s__law_web := by
    refine' Ts.defAt_mk KX G ?a ?l ?c ?k
    (case a => k_is)
    (case l => k_is)
    (case c => k_is)
    (case k => k_is)
  have E__law_up : Ts.DefAt (head.heap_39 w.params) mg "_law_up" Ts.s__law_up := by
    refine' Ts.defAt_mk KX G ?a ?l ?c ?k
    (case a => k_is)
    (case l => k_is)
    (case c => k_is)
    (case k => k_is)
  obtain ⟨cc, E_calls_to_end, hcd⟩ : ∃ cc, Ts.DefAtC (head.heap_39 w.params) mg "calls_to_end" Ts.s_calls_to_end cc ∧ PySem.W.codeHdIn (head.heap_39 w.params) cc 332 = true := by
    refine' ⟨_, ?d, ?e⟩
    (case d =>
      refine' Ts.defAtC_mk KX G ?a ?l ?c ?k
      (case a => k_is)
      (case l => k_is)
      (case c => k_is)
      (case k => k_is))
    (case e => kernel_rfl)
  obtain ⟨fl, fdl, F, hml⟩ : Ts.DefAt (head.heap_39 w.params) mg "law" Ts.s_law := by
    refine' Ts.defAt_mk KX G ?a ?l ?c ?k
    (case a => k_is)
    (case l => k_is)
    (case c => k_is)
    (case k => k_is)
  have e9 := hml.symm.trans hmg
  cases e9
  refine ⟨fdl, [(cc, 332)], Ts.sp_law (head.heap_39 w.params) 332, fun p hp => ?_, fun p hp => ?_, fun p hp => ?_, fun s u => ?_, fun H a ns hl hb hH hS => ?_, fun base kb nb tb => ?_⟩
  · rw [List.mem_singleton.mp hp]
    exact hT 332 List.mem_cons_self
  · rw [List.mem_singleton.mp hp]
    kernel_rfl
  · rw [List.mem_singleton.mp hp]
    exact PySem.W.codeHd_of_K KX hcd
  · obtain ⟨oc, od, kV, doc, pm, an, cdv, ct, osl, rfl, _⟩ := F.ex
    exact .of_eq rfl
  · exact ⟨a, ns, rfl, hS, fun p hp => by rw [List.mem_singleton.mp hp]; exact LamX.TabS.nil (hH (cc, 332) List.mem_cons_self), fun _ => rfl⟩
  · exact Ts.law_all B mp (tb (cc, 332) List.mem_cons_self) E_is_integer E_is_in E_is_list E_is_set E_need_web E_need_state E_need_two E_taller_in E_may_call E_fits E_need_way E_choices E_call_in E_leads E_telling_in E_telling E_least_telling E_distance E_movers_in E_reached_from E_reached E_apart_in E_ends_in E_ends E_count_ends E_peaks_in E_least_end E_who_can_stand E_widest_end E_need_weights E_cheapest_telling E_worth E_richest_end E_poorest_end E_cheapest_end E_need_person E_richest_with E_worths E_least_of E_calls_to_end E_most_apart E__law_taken E__law_pick E__law_by E__law_web E__law_up F

