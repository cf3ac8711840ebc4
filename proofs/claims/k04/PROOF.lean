import PyProof.Rows.All
import Wide.All
import OpenK.AllK
import Wide.FinOn
import HandS.ForMost
import HandS.Wide
import HandS.Conv
import HandS.Evl
import HandS.IsInst
import HandS.TupMul
import KE.DatumOrd
import PyProof.Draws
import KE.GoesEnum
import PyProof.EnumMake
import HandS.Walk
import KE.KExcSuper
import HandS.ExcInit
import HandS.TryMany
import HandS.ExcOwn
import HandS.ExcField
import HandS.ExcIs
import HandS.ExcCtx
import HandS.HotCalls
import KE.KExcIs
import KE.KIsAll
import HandS.Defaults
import HandS.RaiseMore
import HandS.Property
import HandS.Dict
import HandS.Small
import HandS.More
import HandS.TupAny
import PySem.Challenge.RW_nestform_k04_row_faults
set_option Elab.async false
set_option linter.all false
set_option maxRecDepth 100000
set_option maxHeartbeats 4000000
/-! Own toolkit over the hand layer: what is owned, steps, promises. -/
namespace NF
open PySem L2

/-! ### what is owned: B the heap at the start, M a part kept closed, R the open part -/
structure Own (B H : Hp) (M R : List (Addr × HO)) : Prop where
  nd : ((M ++ R).map Prod.fst).Nodup
  at_ : ∀ x ∈ M ++ R, H x.1 = some x.2
  out : ∀ b, b ∉ (M ++ R).map Prod.fst → ∀ o, B b = some o → H b = some o

section
variable {B H H' : Hp} {M R : List (Addr × HO)} {a p : Addr} {o u : HO}

theorem Own.get (O : Own B H M R) (j : Nat) (h : R[j]? = some (a, o)) : H a = some o :=
  O.at_ (a, o) (List.mem_append_right _ (List.mem_of_getElem? h))
theorem Own.refl0 (H : Hp) : Own H H [] [] := ⟨List.nodup_nil, fun _ h => absurd h List.not_mem_nil, fun _ _ _ h => h⟩
theorem Own.start (nd : (R.map Prod.fst).Nodup) (h : ∀ x ∈ R, H x.1 = some x.2) : Own H H [] R := ⟨nd, h, fun _ _ _ e => e⟩
theorem Own.addr_mem (O : Own B H M R) (h : x ∈ M ++ R) : x.1 ∈ (M ++ R).map Prod.fst := List.mem_map_of_mem h
theorem Own.fresh (O : Own B H M R) (h : H p = none) : p ∉ (M ++ R).map Prod.fst := fun q => by
  obtain ⟨x, hx, e⟩ := List.mem_map.mp q
  have := O.at_ x hx
  rw [e, h] at this
  cases this
theorem Own.base_free (O : Own B H M R) (h : H p = none) : B p = none := by
  cases e : B p with
  | none => rfl
  | some o =>
    have := O.out p (O.fresh h) o e
    rw [h] at this
    cases this
theorem Own.new (O : Own B H M R) (h : H p = none) : Own B (upd H p o) M (R ++ [(p, o)]) := by
  have hp := O.fresh h
  refine ⟨?_, fun x hx => ?_, fun b hb u e => ?_⟩
  · rw [← List.append_assoc, List.map_append]
    refine List.nodup_append.mpr ⟨O.nd, by simp, fun y hy z hz => ?_⟩
    have ez : z = p := by simpa using hz
    intro e
    rw [e, ez] at hy
    exact hp hy
  · rw [← List.append_assoc] at hx
    rcases List.mem_append.mp hx with hx | hx
    · have q := O.at_ x hx
      have n : x.1 ≠ p := fun e => by rw [e, h] at q; cases q
      rw [upd_ne n]
      exact q
    · have e : x = (p, o) := by simpa using hx
      rw [e]
      exact upd_same
  · rw [← List.append_assoc, List.map_append] at hb
    have h1 : b ∉ (M ++ R).map Prod.fst := fun q => hb (List.mem_append_left _ q)
    have h2 : b ≠ p := fun q => hb (List.mem_append_right _ (by simp [q]))
    rw [upd_ne h2]
    exact O.out b h1 u e
theorem nodup_fst {L : List (Addr × HO)} (nd : (L.map Prod.fst).Nodup) {i j : Nat} {x y : Addr × HO} (hi : L[i]? = some x) (hj : L[j]? = some y) (e : x.1 = y.1) : i = j := by
  have h1 : (L.map Prod.fst)[i]? = some x.1 := by rw [List.getElem?_map, hi]; rfl
  have h2 : (L.map Prod.fst)[j]? = some x.1 := by rw [List.getElem?_map, hj, e]; rfl
  exact nodup_at nd h1 h2
where
  nodup_at {l : List Addr} (nd : l.Nodup) {i j : Nat} {v : Addr} (hi : l[i]? = some v) (hj : l[j]? = some v) : i = j := by
    obtain ⟨h1, e1⟩ := List.getElem?_eq_some_iff.mp hi
    obtain ⟨h2, e2⟩ := List.getElem?_eq_some_iff.mp hj
    exact (List.getElem_inj (h₀ := h1) (h₁ := h2) nd).mp (e1.trans e2.symm)
theorem map_set_fst {R : List (Addr × HO)} {j : Nat} (h : R[j]? = some (a, o)) (u : HO) : (R.set j (a, u)).map Prod.fst = R.map Prod.fst := by
  refine List.ext_getElem? fun i => ?_
  rw [List.getElem?_map, List.getElem?_map, List.getElem?_set]
  by_cases e : j = i
  · subst e
    have hj : j < R.length := (List.getElem?_eq_some_iff.mp h).1
    rw [if_pos rfl, if_pos hj, h]
    rfl
  · rw [if_neg e]
theorem mem_set_or {R : List (Addr × HO)} {j : Nat} {x y : Addr × HO} (h : x ∈ R.set j y) : x = y ∨ ∃ i, i ≠ j ∧ R[i]? = some x := by
  obtain ⟨i, hi⟩ := List.getElem?_of_mem h
  rw [List.getElem?_set] at hi
  by_cases e : j = i
  · rw [if_pos e] at hi
    split at hi
    · exact .inl (Option.some.inj hi).symm
    · cases hi
  · rw [if_neg e] at hi
    exact .inr ⟨i, fun q => e q.symm, hi⟩
theorem Own.put (O : Own B H M R) (j : Nat) (h : R[j]? = some (a, o)) (u : HO) : Own B (upd H a u) M (R.set j (a, u)) := by
  have em : (M ++ R.set j (a, u)).map Prod.fst = (M ++ R).map Prod.fst := by
    rw [List.map_append, List.map_append, map_set_fst h u]
  have ha : a ∈ (M ++ R).map Prod.fst := List.mem_map.mpr ⟨(a, o), List.mem_append_right _ (List.mem_of_getElem? h), rfl⟩
  refine ⟨by rw [em]; exact O.nd, fun x hx => ?_, fun b hb v e => ?_⟩
  · rcases List.mem_append.mp hx with hx | hx
    · have q := O.at_ x (List.mem_append_left _ hx)
      have n : x.1 ≠ a := fun e => by
        have nd := O.nd
        rw [List.map_append] at nd
        exact (List.nodup_append.mp nd).2.2 _ (List.mem_map_of_mem hx) _ (List.mem_map.mpr ⟨(a, o), List.mem_of_getElem? h, rfl⟩) e
      rw [upd_ne n]
      exact q
    · rcases mem_set_or hx with rfl | ⟨i, ne, hi⟩
      · exact upd_same
      · have n : x.1 ≠ a := fun e => by
          have nd := O.nd
          rw [List.map_append] at nd
          exact ne (nodup_fst (List.nodup_append.mp nd).2.1 hi h e)
        rw [upd_ne n]
        exact O.at_ x (List.mem_append_right _ (List.mem_of_getElem? hi))
  · rw [em] at hb
    have n : b ≠ a := fun q => hb (q ▸ ha)
    rw [upd_ne n]
    exact O.out b hb v e
/-- a callee that had the closed part M0 and gives it back as M1, with new objects N -/
theorem Own.call {M0 M1 N : List (Addr × HO)} (O : Own B H M0 R) (C : Own H H' M1 N) (e : M1.map Prod.fst = M0.map Prod.fst) (hn : ∀ x ∈ N, H x.1 = none) : Own B H' M1 (R ++ N) := by
  have key : ∀ x ∈ R, x.1 ∉ (M1 ++ N).map Prod.fst := fun x hx q => by
    rw [List.map_append] at q
    rcases List.mem_append.mp q with q | q
    · rw [e] at q
      have nd := O.nd
      rw [List.map_append] at nd
      exact (List.nodup_append.mp nd).2.2 _ q _ (List.mem_map_of_mem hx) rfl
    · obtain ⟨y, hy, ey⟩ := List.mem_map.mp q
      have h1 := hn y hy
      have h2 := O.at_ x (List.mem_append_right _ hx)
      rw [ey, h2] at h1
      cases h1
  refine ⟨?_, fun x hx => ?_, fun b hb v q => ?_⟩
  · have nd1 := C.nd
    have nd0 := O.nd
    rw [List.map_append] at nd1 nd0
    rw [List.map_append, List.map_append]
    obtain ⟨a1, a2, a3⟩ := List.nodup_append.mp nd1
    obtain ⟨b1, b2, b3⟩ := List.nodup_append.mp nd0
    refine List.nodup_append.mpr ⟨a1, List.nodup_append.mpr ⟨b2, a2, fun y hy z hz e2 => ?_⟩, fun y hy z hz e2 => ?_⟩
    · obtain ⟨x, hx, ex⟩ := List.mem_map.mp hy
      refine key x hx ?_
      rw [List.map_append]
      rw [ex, e2]
      exact List.mem_append_right _ hz
    · rcases List.mem_append.mp hz with hz | hz
      · rw [e] at hy
        exact b3 _ hy _ hz e2
      · exact a3 _ hy _ hz e2
  · rcases List.mem_append.mp hx with hx | hx
    · exact C.at_ x (List.mem_append_left _ hx)
    · rcases List.mem_append.mp hx with hx | hx
      · exact C.out x.1 (key x hx) _ (O.at_ x (List.mem_append_right _ hx))
      · exact C.at_ x (List.mem_append_right _ hx)
  · rw [List.map_append, List.map_append] at hb
    have h1 : b ∉ (M0 ++ R).map Prod.fst := fun z => hb (by
      rw [List.map_append] at z
      rcases List.mem_append.mp z with z | z
      · exact List.mem_append_left _ (e ▸ z)
      · exact List.mem_append_right _ (List.mem_append_left _ z))
    have h2 : b ∉ (M1 ++ N).map Prod.fst := fun z => hb (by
      rw [List.map_append] at z
      rcases List.mem_append.mp z with z | z
      · exact List.mem_append_left _ z
      · exact List.mem_append_right _ (List.mem_append_right _ z))
    exact C.out b h2 _ (O.out b h1 v q)
theorem Own.call0 (O : Own B H M R) (C : Own H H' [] []) : Own B H' M R := by
  have h := Own.call (M0 := []) (M1 := []) (N := []) (R := M ++ R) (B := B) ⟨O.nd, O.at_, O.out⟩ C rfl (fun _ h => absurd h List.not_mem_nil)
  rw [List.append_nil] at h
  exact ⟨h.nd, h.at_, h.out⟩
theorem Own.callN {N : List (Addr × HO)} (O : Own B H M R) (C : Own H H' [] N) (hn : ∀ x ∈ N, H x.1 = none) : Own B H' M (R ++ N) := by
  have h := Own.call (M0 := []) (M1 := []) (N := N) (R := M ++ R) (B := B) ⟨O.nd, O.at_, O.out⟩ C rfl hn
  have e : [] ++ (M ++ R ++ N) = M ++ (R ++ N) := by rw [List.nil_append, List.append_assoc]
  rw [show Own B H' M (R ++ N) = Own B H' M (R ++ N) from rfl]
  exact ⟨by rw [← e]; exact h.nd, by rw [← e]; exact h.at_, by rw [← e]; exact h.out⟩
/-- only the closed part is told to a callee -/
theorem Own.sub (O : Own B H M R) : Own H H M [] := ⟨by
    rw [List.append_nil]
    have nd := O.nd
    rw [List.map_append] at nd
    exact (List.nodup_append.mp nd).1, fun x hx => O.at_ x (by
    rw [List.append_nil] at hx
    exact List.mem_append_left _ hx), fun _ _ _ e => e⟩
theorem Own.nil (O : Own B H [] R) : Own H H [] R := ⟨O.nd, O.at_, fun _ _ _ e => e⟩
/-- the end of a def: its own objects (not there at the start) are forgotten -/
theorem Own.drop (O : Own B H M R) (hn : ∀ x ∈ R, B x.1 = none) : Own B H M [] := ⟨by
    rw [List.append_nil]
    have nd := O.nd
    rw [List.map_append] at nd
    exact (List.nodup_append.mp nd).1, fun x hx => O.at_ x (by
    rw [List.append_nil] at hx
    exact List.mem_append_left _ hx), fun b hb o e => O.out b (fun q => by
    rw [List.map_append] at q
    rcases List.mem_append.mp q with q | q
    · exact hb (by rw [List.append_nil]; exact q)
    · obtain ⟨x, hx, ex⟩ := List.mem_map.mp q
      have := hn x hx
      rw [ex, e] at this
      cases this) o e⟩
theorem Own.dropTo {N : List (Addr × HO)} (O : Own B H M (R ++ N)) (hn : ∀ x ∈ R, B x.1 = none) : Own B H M N := ⟨by
    have nd := O.nd
    rw [List.map_append, List.map_append] at nd
    rw [List.map_append]
    obtain ⟨a1, a2, a3⟩ := List.nodup_append.mp nd
    exact List.nodup_append.mpr ⟨a1, (List.nodup_append.mp a2).2.1, fun y hy z hz => a3 y hy z (List.mem_append_right _ hz)⟩, fun x hx => O.at_ x (by
    rcases List.mem_append.mp hx with hx | hx
    · exact List.mem_append_left _ hx
    · exact List.mem_append_right _ (List.mem_append_right _ hx)), fun b hb o e => O.out b (fun q => by
    rw [List.map_append, List.map_append] at q
    rw [List.map_append] at hb
    rcases List.mem_append.mp q with q | q
    · exact hb (List.mem_append_left _ q)
    · rcases List.mem_append.mp q with q | q
      · obtain ⟨x, hx, ex⟩ := List.mem_map.mp q
        have := hn x hx
        rw [ex, e] at this
        cases this
      · exact hb (List.mem_append_right _ q)) o e⟩
end
end NF

/-! Own toolkit: one lemma a step of a reading. -/
namespace NF
open PySem L2
section
variable {K : PySem.W.Frag} {σ : St} {B H H' : Hp} {M R : List (Addr × HO)} {a p : Addr} {o u : HO} {Q : VK} {te ta tb tc : TE} {tt tu : TT} {tar : TA} {v x y : V} {i j : Int} {r : R2}
  {nx bk ct : St → Hp → Prop} {rt : VK} {g : TG} {s1 s2 : TS} {QA : List V → Hp → Prop} {QT : Bool → Hp → Prop} {QO : Option Int → Hp → Prop} {z z1 z2 : Str} {xs ys : List V} {n : Nat} {sp : Sp} {E : XK} {dvs : List V}

/-- a new list, a new tuple is asked for -/
def newL (xs : List V) (H : Hp) (Q : VK) : Prop := xs.length ≤ sizeLine ∧ ∀ p, H p = none → Q (.ref p) (upd H p (.lst xs))
def newT (xs : List V) (H : Hp) (Q : VK) : Prop := xs.length ≤ sizeLine ∧ ∀ p, H p = none → Q (.ref p) (upd H p (.tup xs))
/-! #### expressions -/
theorem x_var {k : Nat} (h : σ[k]? = some (some v)) (q : Q v H) : tVar k σ H Q := ⟨v, h, q⟩
theorem x_c (q : Q v H) : tC v σ H Q := q
theorem x_op (q : ta σ H fun x H1 => tb σ H1 fun y H2 => r x y H2 Q) : tOp r ta tb σ H Q := q
theorem x_un {r : V → Hp → VK → Prop} (q : ta σ H fun x H1 => r x H1 Q) : tUn r ta σ H Q := q
theorem x_if (q : tt σ H fun c H1 => if c = true then ta σ H1 Q else tb σ H1 Q) : tIf tt ta tb σ H Q := q
theorem x_I0 {g : Int → Int → V} (q : Q (g i j) H) : rI0 g (.int i) (.int j) H Q := ⟨i, j, rfl, rfl, q⟩
theorem x_I {C : Int → Int → Prop} {g : Int → Int → V} (hc : C i j) (q : Q (g i j) H) : rI C g (.int i) (.int j) H Q := ⟨i, j, rfl, rfl, hc, q⟩
theorem x_U {g : Int → V} (q : Q (g i) H) : rU g (.int i) H Q := ⟨i, rfl, q⟩
theorem x_eq (h : scal x y = true) (q : Q (.bl (decide (x = y))) H) : rEq x y H Q := ⟨h, q⟩
theorem x_ne (h : scal x y = true) (q : Q (.bl (!decide (x = y))) H) : rNe x y H Q := ⟨h, q⟩
theorem x_ixL (h : H a = some (.lst xs)) (hv : atI xs i = some v) (q : Q v H) : rIxL K (.ref a) (.int i) H Q := ⟨a, xs, i, v, rfl, rfl, SqL.of h, hv, q⟩
theorem x_ixT (h : H a = some (.tup xs)) (hv : atI xs i = some v) (q : Q v H) : rIxT K (.ref a) (.int i) H Q := ⟨a, xs, i, v, rfl, rfl, SqT.of h, hv, q⟩
theorem x_ixS {c : Nat} (hz : z.length ≤ sizeLine) (hv : atI z.cps.toList i = some c) (q : Q (.str ⟨#[c]⟩) H) : rIxS (.str z) (.int i) H Q := ⟨z, i, c, rfl, rfl, hz, hv, q⟩
/-! #### tests -/
theorem x_test (q : te σ H fun x H' => ∃ k, x = .bl k ∧ QT k H') : tTest te σ H QT := q
theorem x_B (q : te σ H fun x H' => ∃ k, x = .bl k ∧ QT k H') : tB te σ H QT := q
theorem x_bl {P : Bool → Prop} {b : Bool} (q : P b) : ∃ k, V.bl b = .bl k ∧ P k := ⟨b, rfl, q⟩
theorem x_and (q : tt σ H fun c H1 => if c = true then tu σ H1 QT else QT false H1) : tAnd tt tu σ H QT := q
theorem x_or (q : tt σ H fun c H1 => if c = true then QT true H1 else tu σ H1 QT) : tOr tt tu σ H QT := q
theorem x_not (q : tt σ H fun c H1 => QT (!c) H1) : tNot tt σ H QT := q
theorem x_andV (q : ta σ H fun x H1 => ∃ c, x = .bl c ∧ if c = true then tb σ H1 Q else Q (.bl false) H1) : tAndV ta tb σ H Q := q
theorem x_orV (q : ta σ H fun x H1 => ∃ c, x = .bl c ∧ if c = true then Q (.bl true) H1 else tb σ H1 Q) : tOrV ta tb σ H Q := q
theorem x_notV (q : ta σ H fun x H1 => ∃ c, x = .bl c ∧ Q (.bl (!c)) H1) : tNotV ta σ H Q := q
theorem x_ite {p : Prop} [Decidable p] {A C : Prop} (h1 : p → A) (h2 : ¬ p → C) : if decide p = true then A else C := by
  by_cases h : p
  · rw [decide_eq_true h, if_pos rfl]; exact h1 h
  · rw [decide_eq_false h, if_neg Bool.false_ne_true]; exact h2 h
theorem x_itn {p : Prop} [Decidable p] {A C : Prop} (h1 : ¬ p → A) (h2 : p → C) : if (!decide p) = true then A else C := by
  by_cases h : p
  · rw [decide_eq_true h, Bool.not_true, if_neg Bool.false_ne_true]; exact h2 h
  · rw [decide_eq_false h, Bool.not_false, if_pos rfl]; exact h1 h
theorem x_itb {b : Bool} {A C : Prop} (h1 : b = true → A) (h2 : b = false → C) : if b = true then A else C := by
  cases b
  · rw [if_neg Bool.false_ne_true]; exact h2 rfl
  · rw [if_pos rfl]; exact h1 rfl
theorem x_tt {A C : Prop} (h : A) : if true = true then A else C := by rw [if_pos rfl]; exact h
theorem x_nt {A C : Prop} (h : C) : if (!true) = true then A else C := h
theorem x_nf {A C : Prop} (h : A) : if (!false) = true then A else C := h
theorem x_ff {A C : Prop} (h : C) : if false = true then A else C := by rw [if_neg Bool.false_ne_true]; exact h
theorem x_andP {b1 b2 : Bool} (h1 : ∀ QT : Bool → Hp → Prop, QT b1 H → tt σ H QT) (h2 : b1 = true → ∀ QT : Bool → Hp → Prop, QT b2 H → tu σ H QT) (q : QT (b1 && b2) H) : tAnd tt tu σ H QT := by
  refine h1 _ ?_
  cases b1 with
  | true => exact h2 rfl _ q
  | false => exact q
theorem x_orP {b1 b2 : Bool} (h1 : ∀ QT : Bool → Hp → Prop, QT b1 H → tt σ H QT) (h2 : b1 = false → ∀ QT : Bool → Hp → Prop, QT b2 H → tu σ H QT) (q : QT (b1 || b2) H) : tOr tt tu σ H QT := by
  refine h1 _ ?_
  cases b1 with
  | false => exact h2 rfl _ q
  | true => exact q
/-- and, or of two tests -/
theorem x_iteA {b1 b2 : Bool} {A C : Prop} (h1 : b1 = true → b2 = true → A) (h2 : ¬ (b1 = true ∧ b2 = true) → C) : if b1 = true then (if b2 = true then A else C) else C := by
  cases b1 <;> cases b2 <;> simp_all
theorem x_iteO {b1 b2 : Bool} {A C : Prop} (h1 : b1 = true ∨ b2 = true → A) (h2 : b1 = false → b2 = false → C) : if b1 = true then A else (if b2 = true then A else C) := by
  cases b1 <;> cases b2 <;> simp_all
theorem x_iteI {A C : Prop} (h1 : i = j → A) (h2 : i ≠ j → C) : if decide (V.int i = V.int j) = true then A else C := x_ite (fun h => h1 (V.int.inj h)) (fun h => h2 fun e => h (e ▸ rfl))
theorem x_itnI {A C : Prop} (h1 : i ≠ j → A) (h2 : i = j → C) : if (!decide (V.int i = V.int j)) = true then A else C := x_itn (fun h => h1 fun e => h (e ▸ rfl)) (fun h => h2 (V.int.inj h))
theorem x_iteS {A C : Prop} (h1 : z1 = z2 → A) (h2 : z1 ≠ z2 → C) : if decide (V.str z1 = V.str z2) = true then A else C := x_ite (fun h => h1 (V.str.inj h)) (fun h => h2 fun e => h (e ▸ rfl))
theorem x_itnS {A C : Prop} (h1 : z1 ≠ z2 → A) (h2 : z1 = z2 → C) : if (!decide (V.str z1 = V.str z2)) = true then A else C := x_itn (fun h => h1 fun e => h (e ▸ rfl)) (fun h => h2 (V.str.inj h))
/-! #### arguments, displays, calls -/
theorem x_nil (q : QA [] H) : tNil σ H QA := q
theorem x_cons (q : ta σ H fun x H1 => tar σ H1 fun xs H2 => QA (x :: xs) H2) : tCons ta tar σ H QA := q
theorem x_lst (q : tar σ H fun xs H1 => newL xs H1 Q) : tLst tar σ H Q := q
theorem x_tup (q : tar σ H fun xs H1 => newT xs H1 Q) : tTup tar σ H Q := q
/-- a new object goes behind what is owned -/
theorem x_newL (O : Own B H M R) (hz : xs.length ≤ sizeLine) (q : ∀ p H1, B p = none → Own B H1 M (R ++ [(p, .lst xs)]) → Q (.ref p) H1) : newL xs H Q := ⟨hz, fun p hp => q p _ (O.base_free hp) (O.new hp)⟩
theorem x_newT (O : Own B H M R) (hz : xs.length ≤ sizeLine) (q : ∀ p H1, B p = none → Own B H1 M (R ++ [(p, .tup xs)]) → Q (.ref p) H1) : newT xs H Q := ⟨hz, fun p hp => q p _ (O.base_free hp) (O.new hp)⟩
theorem x_cb {r : List V → Hp → VK → Prop} (q : tar σ H fun vs H1 => r vs H1 Q) : tCB r tar σ H Q := q
theorem x_call (q : tar σ H fun vs H1 => sp (vs ++ dvs) H1 Q E) : tCall sp dvs E tar σ H Q := q
/-! #### statements -/
theorem x_seq (q : s1 ⟨s2 ⟨nx, rt, bk, ct⟩, rt, bk, ct⟩ σ H) : tSeq s1 s2 ⟨nx, rt, bk, ct⟩ σ H := q
theorem x_cut (Mid : St → Hp → Prop) (q : s1 ⟨Mid, rt, bk, ct⟩ σ H) (k : ∀ σ' H', Mid σ' H' → s2 ⟨nx, rt, bk, ct⟩ σ' H') : Evl.tCut s1 s2 ⟨nx, rt, bk, ct⟩ σ H := ⟨Mid, q, k⟩
theorem x_asg (q : te σ H fun x H1 => g x σ H1 nx) : tAsg te g ⟨nx, rt, bk, ct⟩ σ H := q
theorem x_name {k : Nat} {QS : St → Hp → Prop} (q : QS (σ.set k (some v)) H) : gName k v σ H QS := q
theorem x_sub {to ti : TE} {t : TSet} {QS : St → Hp → Prop} (q : to σ H fun o H1 => ti σ H1 fun i H2 => t o i v H2 fun H3 => QS σ H3) : gSub to ti t v σ H QS := q
theorem x_setL {QH : Hp → Prop} (O : Own B H M R) (k : Nat) (hk : R[k]? = some (a, .lst xs)) (hi : ixN xs.length i = some n) (q : ∀ H1, Own B H1 M (R.set k (a, .lst (xs.set n v))) → QH H1) : rSetL (.ref a) (.int i) v H QH :=
  ⟨a, xs, i, n, rfl, rfl, O.get k hk, hi, q _ (O.put k hk _)⟩
theorem x_drop (q : te σ H fun _ H1 => nx σ H1) : tDrop te ⟨nx, rt, bk, ct⟩ σ H := q
theorem x_ret (q : te σ H rt) : tRet te ⟨nx, rt, bk, ct⟩ σ H := q
theorem x_retN (q : rt .non H) : tRetN ⟨nx, rt, bk, ct⟩ σ H := q
theorem x_ifs (q : tt σ H fun b H1 => if b = true then s1 ⟨nx, rt, bk, ct⟩ σ H1 else s2 ⟨nx, rt, bk, ct⟩ σ H1) : tIfS tt s1 s2 ⟨nx, rt, bk, ct⟩ σ H := q
theorem x_next (q : nx σ H) : tNext ⟨nx, rt, bk, ct⟩ σ H := q
theorem x_brk (q : bk σ H) : tBreak ⟨nx, rt, bk, ct⟩ σ H := q
theorem x_cnt (q : ct σ H) : tCont ⟨nx, rt, bk, ct⟩ σ H := q
/-! #### methods of a tracked list -/
theorem x_bm {T : String} {r : V → List V → Hp → VK → Prop} (q : ta σ H fun x H1 => tyV K T x H1 ∧ tar σ H1 fun xs H2 => r x xs H2 Q) : tBM K T r ta tar σ H Q := q
theorem x_bm0 {T : String} {r : V → List V → Hp → VK → Prop} (q : ta σ H fun x H1 => tyV K T x H1 ∧ r x [] H1 Q) : tBM0 K T r ta σ H Q := q
theorem x_tyL {P : Prop} (h : H a = some (.lst xs)) (q : P) : tyV K "list" (.ref a) H ∧ P := ⟨.inl ⟨rfl, xs, SqL.of h⟩, q⟩
theorem x_tyS {P : Prop} (q : P) : tyV K "str" (.str z) H ∧ P := ⟨rfl, q⟩
theorem x_append (O : Own B H M R) (k : Nat) (hk : R[k]? = some (a, .lst xs)) (hz : xs.length < sizeLine) (q : ∀ H1, Own B H1 M (R.set k (a, .lst (xs ++ [v]))) → Q .non H1) : rAppend (.ref a) [v] H Q :=
  ⟨a, xs, v, rfl, rfl, O.get k hk, hz, q _ (O.put k hk _)⟩
theorem x_pop (O : Own B H M R) (k : Nat) (hk : R[k]? = some (a, .lst xs)) (hv : xs[xs.length - 1]? = some v) (q : ∀ H1, Own B H1 M (R.set k (a, .lst xs.dropLast)) → Q v H1) : rPop (.ref a) [] H Q :=
  ⟨a, xs, v, rfl, rfl, O.get k hk, hv, q _ (O.put k hk _)⟩
theorem x_popAt (O : Own B H M R) (k : Nat) (hk : R[k]? = some (a, .lst xs)) (n : Nat) (h1 : -(2 ^ 63) ≤ i) (h2 : i < 2 ^ 63) (hn : seqIndex? i xs.length = some n) (hv : xs[n]? = some v) (q : ∀ H1, Own B H1 M (R.set k (a, .lst (xs.eraseIdx n))) → Q v H1) : rPopAt (.ref a) [.int i] H Q :=
  ⟨a, xs, i, n, v, rfl, rfl, O.get k hk, h1, h2, hn, hv, q _ (O.put k hk _)⟩
end

/-! ### named rules -/
section
variable {X : Cx}
def rLen (K : PySem.W.Frag) : List V → Hp → VK → Prop := fun xs H Q => ∃ x n, xs = [x] ∧ LenV K x H n ∧ Q (.int n) H
theorem callLen : CallR X (.builtin "len") (rLen X.K) := call_len
def rInt : List V → Hp → VK → Prop := fun xs H Q => (∃ i, xs = [.int i] ∧ Q (.int i) H) ∨ ∃ k, xs = [.bl k] ∧ Q (.int (if k then 1 else 0)) H
theorem callInt : CallR X (.type "int") rInt := call_int1
def rMin2 : List V → Hp → VK → Prop := fun xs H Q => ∃ i j, xs = [.int i, .int j] ∧ Q (.int (if j < i then j else i)) H
theorem callMin2 (hc : X.calm = true) : CallR X (.builtin "min") rMin2 := call_min2 hc
def rMax2 : List V → Hp → VK → Prop := fun xs H Q => ∃ i j, xs = [.int i, .int j] ∧ Q (.int (if j > i then j else i)) H
theorem callMax2 (hc : X.calm = true) : CallR X (.builtin "max") rMax2 := call_max2 hc
def rAbs : List V → Hp → VK → Prop := fun xs H Q => ∃ i, xs = [.int i] ∧ Q (.int (if i < 0 then -i else i)) H
theorem callAbs : CallR X (.builtin "abs") rAbs := call_abs
def rListOf (K : PySem.W.Frag) : List V → Hp → VK → Prop := fun xs H Q => ∃ p ys, xs = [.ref p] ∧ (SqL K H p ys ∨ SqT K H p ys) ∧ ∀ l, H l = none → Q (.ref l) (upd H l (.lst ys))
theorem callListOf : CallR X (.type "list") (rListOf X.K) := call_list_of
def rAddS : R2 := fun x y H Q => ∃ i j, x = .str i ∧ y = .str j ∧ i.length + j.length ≤ sizeLine ∧ Q (.str (i ++ j)) H
theorem opAddS : OpR X (binaryOp .Add) rAddS := op_add_str
def rInC : R2 := fun x y H Q => ∃ (c : Nat) (z : Str), x = .str ⟨#[c]⟩ ∧ y = .str z ∧ Q (.bl (decide (c ∈ z.cps.toList))) H
theorem opInC : OpR X (compareOp .In) rInC := op_in_sign
def rNotInC : R2 := fun x y H Q => ∃ (c : Nat) (z : Str), x = .str ⟨#[c]⟩ ∧ y = .str z ∧ Q (.bl (!decide (c ∈ z.cps.toList))) H
theorem opNotInC : OpR X (compareOp .NotIn) rNotInC := op_notIn_sign
def rIsN : R2 := fun x y H Q => y = .non ∧ Q (.bl (decide (x = .non))) H
theorem opIsN : OpR X (compareOp .Is) rIsN := op_isN
def rNotN : R2 := fun x y H Q => y = .non ∧ Q (.bl (!decide (x = .non))) H
theorem opNotN : OpR X (compareOp .IsNot) rNotN := op_notN
def tTru (K : PySem.W.Frag) (ta : TE) : TT := fun σ H Q => ta σ H fun x H' => ∃ k, TruV K x H' k ∧ Q k H'
theorem ptTruth {a : Expr} {ta : TE} (ha : PE X a ta) (he : ∀ whole, isTrue a X.env whole = (do let v ← whole; standAt a.pos; holding [v] (truthy v))) : PT X a (tTru X.K ta) := pt_truth ha he
def rUpper : V → List V → Hp → VK → Prop := fun x xs H Q => ∃ a, x = .str a ∧ xs = [] ∧ a.length ≤ 5592405 ∧ Q (.str (Txt.upper a)) H
theorem mtUpper : MtR X "str.upper" rUpper := mt_upper
def rLower : V → List V → Hp → VK → Prop := fun x xs H Q => ∃ a, x = .str a ∧ xs = [] ∧ a.length ≤ 5592405 ∧ Q (.str (Txt.lower a)) H
theorem mtLower : MtR X "str.lower" rLower := mt_lower
def rFind : V → List V → Hp → VK → Prop := fun x xs H Q => ∃ a b, x = .str a ∧ xs = [.str b] ∧ Q (.int (Txt.find a b)) H
theorem mtFind : MtR X "str.find" rFind := mt_find
def rJoin (K : PySem.W.Frag) : V → List V → Hp → VK → Prop := fun x xs H Q => ∃ a p, ∃ ys : List Str, x = .str a ∧ xs = [.ref p] ∧ (SqL K H p (ys.map V.str) ∨ SqT K H p (ys.map V.str)) ∧
    (ys.map (·.length)).sum + ys.length * a.length ≤ 16777216 ∧ Q (.str (Txt.join a ys)) H
theorem mtJoin : MtR X "str.join" (rJoin X.K) := mt_join
end
section
variable {K : PySem.W.Frag} {σ : St} {B H H' : Hp} {M R : List (Addr × HO)} {a p : Addr} {Q : VK} {ta : TE} {i j : Int} {z z1 z2 : Str} {xs : List V} {QT : Bool → Hp → Prop} {x : V} {c : Nat}
theorem x_lenS (h : z.length ≤ sizeLine) (q : Q (.int z.length) H) : rLen K [.str z] H Q := ⟨.str z, _, rfl, ⟨h, rfl⟩, q⟩
theorem x_lenL (h : H a = some (.lst xs)) (q : Q (.int xs.length) H) : rLen K [.ref a] H Q := ⟨.ref a, _, rfl, .inl ⟨xs, SqL.of h, rfl⟩, q⟩
theorem x_lenT (h : H a = some (.tup xs)) (q : Q (.int xs.length) H) : rLen K [.ref a] H Q := ⟨.ref a, _, rfl, .inr ⟨xs, SqT.of h, rfl⟩, q⟩
theorem x_int (q : Q (.int i) H) : rInt [.int i] H Q := .inl ⟨i, rfl, q⟩
theorem x_min2 (q : Q (.int (if j < i then j else i)) H) : rMin2 [.int i, .int j] H Q := ⟨i, j, rfl, q⟩
theorem x_max2 (q : Q (.int (if j > i then j else i)) H) : rMax2 [.int i, .int j] H Q := ⟨i, j, rfl, q⟩
theorem x_abs (q : Q (.int (if i < 0 then -i else i)) H) : rAbs [.int i] H Q := ⟨i, rfl, q⟩
theorem x_listOf (O : Own B H M R) (h : H a = some (.lst xs) ∨ H a = some (.tup xs)) (q : ∀ p H1, B p = none → Own B H1 M (R ++ [(p, .lst xs)]) → Q (.ref p) H1) : rListOf K [.ref a] H Q :=
  ⟨a, xs, rfl, h.imp SqL.of SqT.of, fun l hl => q l _ (O.base_free hl) (O.new hl)⟩
theorem x_addS (h : z1.length + z2.length ≤ sizeLine) (q : Q (.str (z1 ++ z2)) H) : rAddS (.str z1) (.str z2) H Q := ⟨z1, z2, rfl, rfl, h, q⟩
theorem x_inC (q : Q (.bl (decide (c ∈ TL.tl z))) H) : rInC (.str ⟨#[c]⟩) (.str z) H Q := ⟨c, z, rfl, rfl, q⟩
theorem x_notInC (q : Q (.bl (!decide (c ∈ TL.tl z))) H) : rNotInC (.str ⟨#[c]⟩) (.str z) H Q := ⟨c, z, rfl, rfl, q⟩
theorem x_isN (q : Q (.bl (decide (x = .non))) H) : rIsN x .non H Q := ⟨rfl, q⟩
theorem x_notN (q : Q (.bl (!decide (x = .non))) H) : rNotN x .non H Q := ⟨rfl, q⟩
theorem x_isNn (q : Q (.bl true) H) : rIsN .non .non H Q := ⟨rfl, q⟩
theorem x_notNn (q : Q (.bl false) H) : rNotN .non .non H Q := ⟨rfl, q⟩
theorem x_isNi (q : Q (.bl false) H) : rIsN (.int i) .non H Q := ⟨rfl, q⟩
theorem x_notNi (q : Q (.bl true) H) : rNotN (.int i) .non H Q := ⟨rfl, q⟩
theorem x_isNs (q : Q (.bl false) H) : rIsN (.str z) .non H Q := ⟨rfl, q⟩
theorem x_notNs (q : Q (.bl true) H) : rNotN (.str z) .non H Q := ⟨rfl, q⟩
theorem x_isNb {b : Bool} (q : Q (.bl false) H) : rIsN (.bl b) .non H Q := ⟨rfl, q⟩
theorem x_notNb {b : Bool} (q : Q (.bl true) H) : rNotN (.bl b) .non H Q := ⟨rfl, q⟩
theorem x_isNr (q : Q (.bl false) H) : rIsN (.ref a) .non H Q := ⟨rfl, q⟩
theorem x_notNr (q : Q (.bl true) H) : rNotN (.ref a) .non H Q := ⟨rfl, q⟩
theorem x_tru (q : ta σ H fun x H' => ∃ k, TruV K x H' k ∧ QT k H') : tTru K ta σ H QT := q
theorem x_truL {P : Bool → Prop} (h : H a = some (.lst xs)) (q : P (!xs.isEmpty)) : ∃ k, TruV K (.ref a) H k ∧ P k := ⟨_, .inl ⟨xs, SqL.of h, rfl⟩, q⟩
theorem x_truS {P : Bool → Prop} (h : z.length ≤ sizeLine) (q : P ((z.length : Int) != 0)) : ∃ k, TruV K (.str z) H k ∧ P k := ⟨_, ⟨h, rfl⟩, q⟩
theorem x_truB {P : Bool → Prop} {b : Bool} (q : P b) : ∃ k, TruV K (.bl b) H k ∧ P k := ⟨_, rfl, q⟩
theorem x_truI {P : Bool → Prop} (q : P (i != 0)) : ∃ k, TruV K (.int i) H k ∧ P k := ⟨_, rfl, q⟩
theorem x_truN {P : Bool → Prop} (q : P false) : ∃ k, TruV K .non H k ∧ P k := ⟨_, rfl, q⟩
theorem x_upper (h : z.length ≤ 5592405) (q : Q (.str (Txt.upper z)) H) : rUpper (.str z) [] H Q := ⟨z, rfl, rfl, h, q⟩
theorem x_lower (h : z.length ≤ 5592405) (q : Q (.str (Txt.lower z)) H) : rLower (.str z) [] H Q := ⟨z, rfl, rfl, h, q⟩
theorem x_find (q : Q (.int (Txt.find z1 z2)) H) : rFind (.str z1) [.str z2] H Q := ⟨z1, z2, rfl, rfl, q⟩
theorem x_joinL (ys : List Str) (h : H p = some (.lst (ys.map V.str))) (hz : (ys.map (·.length)).sum + ys.length * z.length ≤ 16777216) (q : Q (.str (Txt.join z ys)) H) : rJoin K (.str z) [.ref p] H Q :=
  ⟨z, p, ys, rfl, rfl, .inl (SqL.of h), hz, q⟩
end

/-! ### slices -/
section
variable {K : PySem.W.Frag} {σ : St} {B H H' : Hp} {M R : List (Addr × HO)} {a p : Addr} {Q : VK} {te : TE} {i : Int} {z : Str} {xs : List V} {tl th : TO} {r : V → Option Int → Option Int → Hp → VK → Prop} {QO : Option Int → Hp → Prop} {lo hi : Option Int}
theorem x_sl (q : te σ H fun x H1 => tl σ H1 fun l H2 => th σ H2 fun u H3 => r x l u H3 Q) : tSl r te tl th σ H Q := q
theorem x_noPart (q : QO none H) : tNoPart σ H QO := q
theorem x_part (q : te σ H fun x H1 => ∃ i, x = .int i ∧ QO (some i) H1) : tPart te σ H QO := q
theorem x_pI {P : Int → Prop} (q : P i) : ∃ j, V.int i = .int j ∧ P j := ⟨i, rfl, q⟩
theorem x_slS (hz : z.length ≤ sizeLine) (q : Q (.str (cutS z lo hi)) H) : rSlS (.str z) lo hi H Q := ⟨z, rfl, hz, q⟩
theorem x_slL (hx : SqL K H a xs) (O : Own B H M R) (q : ∀ p H1, B p = none → Own B H1 M (R ++ [(p, .lst (cutV xs lo hi))]) → Q (.ref p) H1) : rSlL K (.ref a) lo hi H Q := ⟨a, xs, rfl, hx, fun p hp => q p _ (O.base_free hp) (O.new hp)⟩
theorem Own.perm {R' : List (Addr × HO)} (O : Own B H M R) (h : R.Perm R') : Own B H M R' := by
  have e : (M ++ R).Perm (M ++ R') := List.Perm.append_left M h
  exact ⟨(e.map Prod.fst).nodup_iff.mp O.nd, fun x hx => O.at_ x (e.mem_iff.mpr hx), fun b hb o q => O.out b (fun z => hb ((e.map Prod.fst).mem_iff.mp z)) o q⟩
theorem Own.close {N : List (Addr × HO)} (O : Own B H [] (R ++ N)) : Own B H N R := by
  have e : ([] ++ (R ++ N)).Perm (N ++ R) := by rw [List.nil_append]; exact List.perm_append_comm
  exact ⟨(e.map Prod.fst).nodup_iff.mp O.nd, fun x hx => O.at_ x (e.mem_iff.mpr hx), fun b hb o q => O.out b (fun z => hb ((e.map Prod.fst).mem_iff.mp z)) o q⟩
end

section
variable {K : PySem.W.Frag} {B H : Hp} {M R : List (Addr × HO)} {a b : Addr} {Q : VK} {xs ys : List V}
theorem x_cat (O : Own B H M R) (h1 : H a = some (.lst xs)) (h2 : H b = some (.lst ys)) (hz : xs.length + ys.length ≤ sizeLine) (q : ∀ p H1, B p = none → Own B H1 M (R ++ [(p, .lst (xs ++ ys))]) → Q (.ref p) H1) : rCat (.ref a) (.ref b) H Q :=
  ⟨a, b, xs, ys, rfl, rfl, h1, h2, hz, fun p hp => q p _ (O.base_free hp) (O.new hp)⟩
theorem x_lstRg {te : St → Hp → (Int → Int → Hp → Prop) → Prop} {σ : St} (q : te σ H fun a b H1 => RgOk a b ∧ ∀ q, H1 q = none → Q (.ref q) (upd H1 q (.lst (rgV a b)))) : tLstRg te σ H Q := q
def newRg (a b : Int) (H : Hp) (Q : VK) : Prop := RgOk a b ∧ ∀ q, H q = none → Q (.ref q) (upd H q (.lst (rgV a b)))
theorem x_lstRg1 {ta : TE} {σ : St} (q : ta σ H fun x H1 => ∃ n, x = .int n ∧ newRg 0 n H1 Q) : tLstRg (tRg1 ta) σ H Q := q
theorem x_lstRg2 {ta tb : TE} {σ : St} (q : ta σ H fun x H1 => tb σ H1 fun y H2 => ∃ i j, x = .int i ∧ y = .int j ∧ newRg i j H2 Q) : tLstRg (tRg2 ta tb) σ H Q := q
theorem rgV_ints (a b : Int) : rgV a b = ((List.range (b - a).toNat).map fun i : Nat => a + (i : Int)).map V.int := by unfold rgV; rw [List.map_map]; rfl
theorem x_newRg {n m : Int} (O : Own B H M R) (h : RgOk n m) (q : ∀ p H1, B p = none → Own B H1 M (R ++ [(p, .lst (((List.range (m - n).toNat).map fun i : Nat => n + (i : Int)).map V.int))]) → Q (.ref p) H1) : newRg n m H Q :=
  ⟨h, fun p hp => q p _ (O.base_free hp) (by rw [← rgV_ints]; exact O.new hp)⟩
end

/-! ### promises: a part of the heap M is told by D and given back -/
/-- the closed part is what D says, at the cells A -/
structure In (D : Addr → List (Addr × HO) → Prop) (a : Addr) (A : List Addr) (M : List (Addr × HO)) : Prop where
  d : D a M
  e : M.map Prod.fst = A
/-- with a closed part (a box) at the first argument's address: D a M says what the box at a is -/
def spB (n : Nat) (D : Addr → List (Addr × HO) → Prop) (pre : List V → Prop) (post : List V → V → Prop) : Sp := fun vs H Q _ =>
  ∃ a A M rest, vs = .ref a :: rest ∧ rest.length = n ∧ In D a A M ∧ Own H H M [] ∧ pre rest ∧ ∀ v H' M', In D a A M' → Own H H' M' [] → post rest v → Q v H'
/-- plain values in, a plain value out -/
def spP (n : Nat) (pre : List V → Prop) (post : List V → V → Prop) : Sp := fun vs H Q _ => vs.length = n ∧ pre vs ∧ ∀ v H', Own H H' [] [] → post vs v → Q v H'
/-- plain values in, a new object out -/
def spNew (n : Nat) (pre : List V → Prop) (post : List V → HO → Prop) : Sp := fun vs H Q _ => vs.length = n ∧ pre vs ∧ ∀ p H' o, H p = none → Own H H' [] [(p, o)] → post vs o → Q (.ref p) H'
theorem hl_spNew {n : Nat} {pre : List V → Prop} {post : List V → HO → Prop} : ∀ vs H Q E, spNew n pre post vs H Q E → vs.length = n := fun vs H Q E h => h.1
theorem hl_spB {n : Nat} {D : Addr → List (Addr × HO) → Prop} {pre : List V → Prop} {post : List V → V → Prop} : ∀ vs H Q E, spB n D pre post vs H Q E → vs.length = n + 1 := fun vs H Q E h => by
  obtain ⟨a, A, M, rest, rfl, e, _⟩ := h
  rw [List.length_cons, e]
theorem hl_spP {n : Nat} {pre : List V → Prop} {post : List V → V → Prop} : ∀ vs H Q E, spP n pre post vs H Q E → vs.length = n := fun vs H Q E h => h.1
section
variable {B H : Hp} {M R : List (Addr × HO)} {a : Addr} {Q : VK} {E : XK} {D : Addr → List (Addr × HO) → Prop} {pre : List V → Prop} {post : List V → V → Prop} {vs : List V} {n : Nat}
theorem use_spP (O : Own B H M R) (hl : vs.length = n) (hp : pre vs) (q : ∀ v H', Own B H' M R → post vs v → Q v H') : spP n pre post vs H Q E := ⟨hl, hp, fun v H' O' h => q v H' (O.call0 O') h⟩
theorem use_spNew {post : List V → HO → Prop} (O : Own B H M R) (hl : vs.length = n) (hp : pre vs) (q : ∀ p H' o, B p = none → Own B H' M (R ++ [(p, o)]) → post vs o → Q (.ref p) H') : spNew n pre post vs H Q E :=
  ⟨hl, hp, fun p H' o hp O' h => q p H' o (O.base_free hp) (O.callN O' fun x hx => by rw [List.mem_singleton.mp hx]; exact hp) h⟩
theorem use_spB {rest : List V} {A : List Addr} (O : Own B H M R) (hD : In D a A M) (hl : rest.length = n) (hp : pre rest) (q : ∀ v H' M', In D a A M' → Own B H' M' R → post rest v → Q v H') : spB n D pre post (.ref a :: rest) H Q E :=
  ⟨a, A, M, rest, rfl, hl, hD, O.sub, hp, fun v H' M' hD' O' h => q v H' M' hD' (by
    have := O.call O' (hD'.e.trans hD.e.symm) (fun _ h => absurd h List.not_mem_nil)
    rw [List.append_nil] at this
    exact this) h⟩
theorem Own.opened (O : Own B H M []) : Own B H [] M := ⟨by have h := O.nd; rw [List.append_nil] at h; exact h, by have h := O.at_; rw [List.append_nil] at h; exact h, by have h := O.out; rw [List.append_nil] at h; exact h⟩
theorem Own.closed (O : Own B H [] R) : Own B H R [] := ⟨by rw [List.append_nil]; exact O.nd, by rw [List.append_nil]; exact O.at_, by rw [List.append_nil]; exact O.out⟩
end
end NF

/-! Own toolkit: further rules, defs by name, the end. -/
namespace NF
open PySem L2 PySem.Spec PyProof.Rows PySem.W

/-! ### a global constant, a def by its name -/
section
variable {X : Cx}
theorem pe_g {x : Str} {v : V} {pos : Pos} (hg : Gl X x) (hm : ∃ u, X.mg x = some u ∧ RelV v u) (hd : (x == ("__debug__" : Str)) = false := by decide) : PE X (.Name x pos) (tC v) := by
  obtain ⟨u, h, r⟩ := hm
  exact pe_glob hg h r hd
end
/-- a def as the top leaves it -/
def Fn0 (K : PySem.W.Frag) (mg : Str → Option Value) (x : Str) (st : Stmt) : Prop := ∃ f fd, Fun K x x st f fd ∧ mg x = some (.ref f)
/-- a def by its name, with its promise -/
structure Def (P : Program) (w : World) (K : PySem.W.Frag) (mg : Str → Option Value) (base : Heap) (k : Nat) (x : Str) (ps : List Str) (sp : Sp) : Prop where
  ex : ∃ f fd, FnOk P w K mg base CX0 k f fd ps sp ∧ mg x = some (.ref f) ∧ PySem.W.keepIn K (.ref f) = true ∧ Binds K fd ps []
section
variable {P : Program} {w : World} {K : PySem.W.Frag} {mg : Str → Option Value} {base : Heap}
theorem Def.mk0 {x : Str} {st : Stmt} {N ps : List Str} {k : Nat} {sp : Sp} (F : Fn0 K mg x st) (S : FnScope N ps (defScope st)) (len : ∀ vs H Q E, sp vs H Q E → vs.length = ps.length)
    (hbind : ∀ (kV doc pm : Value) (an : Option Addr) (cdv ct : Value) (us : List Value), us.length = ps.length → bindArgs (PySem.W.fnOf x x (defArgs st) (defBody st) (defScope st) .none kV doc pm an cdv ct) ⟨us, []⟩ = pure (ps.zip us))
    (hbody : ∀ {f : Addr} (cdv : Value) (A : Around) (outer : List Env) (s : Shared) (H : Hp) (vs : List V) (Q : VK) (E : XK), Room k (A.deeper (envOfC x (defScope st) s.heap.objs.size f cdv)) → sp vs H Q E →
      ∃ t, PSs (cxOf CX0 P w K mg base N x (defScope st) f cdv A outer s H E).nox (defBody st) t ∧ t { nx := fun _ H' => Q .non H', rt := Q } (start N vs) H) : Def P w K mg base (k + 1) x ps sp := by
  obtain ⟨f, fd, F, hm⟩ := F
  exact ⟨f, fd, F.ok S len fun cdv A outer s H vs Q E hr h => hbody cdv A outer s H vs Q E hr h, hm, F.kp, F.binds hbind⟩
end
section
variable {X : Cx} {k : Nat} {x : Str} {ps : List Str} {sp : Sp} {p pos : Pos} {e : Expr} {es : List Expr} {t : TA}
theorem pe_d (D : Def X.prog X.w X.K X.mg X.base k x ps sp) (hr : Room k X.A) (hg : Gl X x) (ha : PA X (e :: es) t) (hdb : (x == ("__debug__" : Str)) = false := by decide)
    (he : starEach (e :: es) X.env = (false, eval e X.env) :: starEach es X.env := by rfl) (hpl : (backTo pos (starEach es X.env)).any (·.1) = false := by rfl) : PE X (.Call (.Name x p) (e :: es) [] pos) (tCall sp [] E0 t) := by
  obtain ⟨f, fd, F, hm, hk, hb⟩ := D.ex
  exact pe_call F hr hg hm hk hb .nil pass0 ha hdb he hpl
theorem pe_d0 (D : Def X.prog X.w X.K X.mg X.base k x ps sp) (hr : Room k X.A) (hg : Gl X x) (hdb : (x == ("__debug__" : Str)) = false := by decide) : PE X (.Call (.Name x p) [] [] pos) (tCall sp [] E0 tNil) := by
  obtain ⟨f, fd, F, hm, hk, hb⟩ := D.ex
  exact pe_call0 F hr hg hm hk hb .nil pass0 hdb
end

/-! ### what the head hands over -/
structure Has (K : PySem.W.Frag) (x : Str) (st : Stmt) : Prop where
  ex : ∃ (f : Addr) (oc : Value) (od an : Option Addr) (kV dc pm cd ct : Value) (sl : Array (Option Value)), PySem.W.nsIn K mainGlobals x = some (some (.ref f)) ∧
    K.lookup f = some ⟨oc, od, .func (PySem.W.fnOf x x (defArgs st) (defBody st) (defScope st) .none kV dc pm an cd ct), sl⟩ ∧ PySem.W.codeIn K cd x = true ∧ PySem.W.keepIn K (.ref f) = true
theorem has_mk {K : PySem.W.Frag} {x : Str} {st : Stmt} {f : Addr} {oc : Value} {od an : Option Addr} {kV dc pm cd ct : Value} {sl : Array (Option Value)} (h1 : PySem.W.nsIn K mainGlobals x = some (some (.ref f)))
    (h2 : K.lookup f = some ⟨oc, od, .func (PySem.W.fnOf x x (defArgs st) (defBody st) (defScope st) .none kV dc pm an cd ct), sl⟩) (h3 : PySem.W.codeIn K cd x = true) (h4 : PySem.W.keepIn K (.ref f) = true) : Has K x st := ⟨f, oc, od, an, kV, dc, pm, cd, ct, sl, h1, h2, h3, h4⟩
theorem Has.fn {K : PySem.W.Frag} {x : Str} {st : Stmt} {h : Heap} {mg : Str → Option Value} (A : Has K x st) (X : K.In h) (G : h.Ns mainGlobals mg) : Fn0 K mg x st := by
  obtain ⟨f, oc, od, an, kV, dc, pm, cd, ct, sl, h1, h2, h3, h4⟩ := A.ex
  exact ⟨f, _, fun_mk h2 h3 h4, PySem.W.mg_of X G h1⟩
/-- a constant of the module -/
structure HasC (K : PySem.W.Frag) (x : Str) (v : V) : Prop where
  ex : ∃ u, PySem.W.nsIn K mainGlobals x = some (some u) ∧ RelV v u
theorem hasC_mk {K : PySem.W.Frag} {x : Str} {v : V} {u : Value} (h : PySem.W.nsIn K mainGlobals x = some (some u)) (r : RelV v u) : HasC K x v := ⟨u, h, r⟩
theorem HasC.mg {K : PySem.W.Frag} {x : Str} {v : V} {h : Heap} {mg : Str → Option Value} (A : HasC K x v) (X : K.In h) (G : h.Ns mainGlobals mg) : ∃ u, mg x = some u ∧ RelV v u := by
  obtain ⟨u, h1, r⟩ := A.ex
  exact ⟨u, PySem.W.mg_of X G h1, r⟩
theorem law_end {l : PySem.W.OpenLaw} {w : World} {K : PySem.W.Frag} {h : Heap} {mg : Str → Option Value} {fa : Addr} {st : Stmt} {k : Nat} {sp : Sp} (X : K.In h) (G : h.Ns mainGlobals mg) (hfa : mg "law" = some (.ref fa)) (A : Has K "law" st)
    (hbind : ∀ (kV doc pm : Value) (an : Option Addr) (cdv ct : Value) (s : Shared) (v : Value), BindsTo s (PySem.W.fnOf "law" "law" (defArgs st) (defBody st) (defScope st) .none kV doc pm an cdv ct) ⟨[v], []⟩ [("script", v)])
    (F : ∀ (base : Heap) (fd : FuncData), Fun K "law" "law" st fa fd → FnOk l.prog w K mg base CX0 k fa fd ["script"] sp) :
    ∃ fd : FuncData, (∀ (s : Shared) (v : Value), BindsTo s fd ⟨[v], []⟩ [("script", v)]) ∧ ∀ base : Heap, K.In base → base.Ns mainGlobals mg → FnOk l.prog w K mg base CX0 k fa fd ["script"] sp := by
  obtain ⟨f, oc, od, an, kV, dc, pm, cd, ct, sl, h1, h2, h3, h4⟩ := A.ex
  have e := hfa.symm.trans (PySem.W.mg_of X G h1)
  cases e
  exact ⟨_, fun s v => hbind kV dc pm an cd ct s v, fun base _ _ => F base _ (fun_mk h2 h3 h4)⟩

/-! ### isinstance(x, T), T a built-in class -/
def rIsT (K : PySem.W.Frag) : List V → Hp → VK → Prop := fun xs H Q => ∃ x T n b, xs = [x, .ty T] ∧ TyX K H x (.type n) ∧ kitB n T = some b ∧ Q (.bl b) H
theorem callIsT {X : Cx} : CallR X (.builtin "isinstance") (rIsT X.K) := fun pins s σ H xs us Q I r h => by
  obtain ⟨x, T, n, b, rfl, ty, hb, q⟩ := h
  exact call_isi pins s σ H _ us Q I r ⟨x, .ty T, .type n, .type T, b, rfl, .ty T, ty, kit_ty hb, q⟩
theorem pe_ty {X : Cx} {T : Str} {n : String} {q : Pos} (hgT : Gl X T) (hmT : X.mg T = none) (hvT : bootBuiltins T = some (.type n)) (hn : T ≠ "__name__" := by decide) (hd : (T == ("__debug__" : Str)) = false := by decide) : PE X (.Name T q) (tC (.ty n)) :=
  pe_bltn hgT hmT hvT rfl hn hd
section
variable {K : PySem.W.Frag} {H : Hp} {Q : VK} {T : String} {a : Addr} {xs : List V} {b : Bool}
theorem x_isI {i : Int} (hb : kitB "int" T = some b) (q : Q (.bl b) H) : rIsT K [.int i, .ty T] H Q := ⟨_, _, _, b, rfl, .base (.int i), hb, q⟩
theorem x_isB {i : Bool} (hb : kitB "bool" T = some b) (q : Q (.bl b) H) : rIsT K [.bl i, .ty T] H Q := ⟨_, _, _, b, rfl, .base (.bl i), hb, q⟩
theorem x_isS {i : Str} (hb : kitB "str" T = some b) (q : Q (.bl b) H) : rIsT K [.str i, .ty T] H Q := ⟨_, _, _, b, rfl, .base (.str i), hb, q⟩
theorem x_isNon (hb : kitB "NoneType" T = some b) (q : Q (.bl b) H) : rIsT K [.non, .ty T] H Q := ⟨_, _, _, b, rfl, .base .non, hb, q⟩
theorem x_isL (h : H a = some (.lst xs)) (hb : kitB "list" T = some b) (q : Q (.bl b) H) : rIsT K [.ref a, .ty T] H Q := ⟨_, _, _, b, rfl, .base (.lst h), hb, q⟩
theorem x_isT (h : H a = some (.tup xs)) (hb : kitB "tuple" T = some b) (q : Q (.bl b) H) : rIsT K [.ref a, .ty T] H Q := ⟨_, _, _, b, rfl, .base (.tup h), hb, q⟩
end

theorem kit_int_int : kitB "int" "int" = some true := by decide +kernel
theorem kit_int_bool : kitB "int" "bool" = some false := by decide +kernel
theorem kit_int_str : kitB "int" "str" = some false := by decide +kernel
theorem kit_int_list : kitB "int" "list" = some false := by decide +kernel
theorem kit_int_tuple : kitB "int" "tuple" = some false := by decide +kernel
theorem kit_int_dict : kitB "int" "dict" = some false := by decide +kernel
theorem kit_bool_int : kitB "bool" "int" = some true := by decide +kernel
theorem kit_bool_bool : kitB "bool" "bool" = some true := by decide +kernel
theorem kit_bool_str : kitB "bool" "str" = some false := by decide +kernel
theorem kit_bool_list : kitB "bool" "list" = some false := by decide +kernel
theorem kit_bool_tuple : kitB "bool" "tuple" = some false := by decide +kernel
theorem kit_bool_dict : kitB "bool" "dict" = some false := by decide +kernel
theorem kit_str_int : kitB "str" "int" = some false := by decide +kernel
theorem kit_str_bool : kitB "str" "bool" = some false := by decide +kernel
theorem kit_str_str : kitB "str" "str" = some true := by decide +kernel
theorem kit_str_list : kitB "str" "list" = some false := by decide +kernel
theorem kit_str_tuple : kitB "str" "tuple" = some false := by decide +kernel
theorem kit_str_dict : kitB "str" "dict" = some false := by decide +kernel
theorem kit_NoneType_int : kitB "NoneType" "int" = some false := by decide +kernel
theorem kit_NoneType_bool : kitB "NoneType" "bool" = some false := by decide +kernel
theorem kit_NoneType_str : kitB "NoneType" "str" = some false := by decide +kernel
theorem kit_NoneType_list : kitB "NoneType" "list" = some false := by decide +kernel
theorem kit_NoneType_tuple : kitB "NoneType" "tuple" = some false := by decide +kernel
theorem kit_NoneType_dict : kitB "NoneType" "dict" = some false := by decide +kernel
theorem kit_list_int : kitB "list" "int" = some false := by decide +kernel
theorem kit_list_bool : kitB "list" "bool" = some false := by decide +kernel
theorem kit_list_str : kitB "list" "str" = some false := by decide +kernel
theorem kit_list_list : kitB "list" "list" = some true := by decide +kernel
theorem kit_list_tuple : kitB "list" "tuple" = some false := by decide +kernel
theorem kit_list_dict : kitB "list" "dict" = some false := by decide +kernel
theorem kit_tuple_int : kitB "tuple" "int" = some false := by decide +kernel
theorem kit_tuple_bool : kitB "tuple" "bool" = some false := by decide +kernel
theorem kit_tuple_str : kitB "tuple" "str" = some false := by decide +kernel
theorem kit_tuple_list : kitB "tuple" "list" = some false := by decide +kernel
theorem kit_tuple_tuple : kitB "tuple" "tuple" = some true := by decide +kernel
theorem kit_tuple_dict : kitB "tuple" "dict" = some false := by decide +kernel
theorem kit_dict_int : kitB "dict" "int" = some false := by decide +kernel
theorem kit_dict_bool : kitB "dict" "bool" = some false := by decide +kernel
theorem kit_dict_str : kitB "dict" "str" = some false := by decide +kernel
theorem kit_dict_list : kitB "dict" "list" = some false := by decide +kernel
theorem kit_dict_tuple : kitB "dict" "tuple" = some false := by decide +kernel
theorem kit_dict_dict : kitB "dict" "dict" = some true := by decide +kernel

/-! ### text * n -/
def rMulS : R2 := fun x y H Q => ∃ z n, x = .str z ∧ y = .int n ∧ z.length ≤ 1000000 ∧ n ≤ 1000000 ∧ -(2 ^ 63) ≤ n ∧ z.length * n.toNat ≤ sizeLine ∧ Q (.str (Txt.mul z n)) H
theorem opMulS {X : Cx} : OpR X (binaryOp .Mult) rMulS := fun pins s σ H x y u v Q I rx ry h => by
  obtain ⟨z, n, rfl, rfl, hz, hn, hn0, hl, q⟩ := h
  obtain ⟨t, rfl⟩ := rx
  obtain ⟨t', rfl⟩ := ry
  refine SB.mul ⟨?_, fun h1 h2 => ?_, fun h1 h2 => ?_⟩ fun t' k => ⟨.str (Txt.mul z n), H, I.tok k, ⟨_, rfl⟩, q⟩
  · rw [decide_eq_false (by omega), decide_eq_false (by omega)]
    rfl
  · have h3 : (1000000 : Int) ≤ (2 ^ 63 - 1) / n := by
      rw [Int.le_ediv_iff_mul_le (by omega)]
      have : (1000000 : Int) * n ≤ 1000000 * 1000000 := Int.mul_le_mul_of_nonneg_left hn (by decide)
      omega
    omega
  · show decide (z.length * n.toNat > sizeLine) = false
    exact decide_eq_false (by omega)

/-! ### (n, text) < (m, text) -/
def ltIS (a : Int × Str) (b : Int × Str) : Bool := DatumOrd.lt a b
def rLtIS (K : PySem.W.Frag) : R2 := fun x y H Q => ∃ a b n m z1 z2, x = .ref a ∧ y = .ref b ∧ SqT K H a [.int n, .str z1] ∧ SqT K H b [.int m, .str z2] ∧ Q (.bl (ltIS (n, z1) (m, z2))) H
theorem holds_is {h : Heap} {l : Addr} {n : Int} {z : Str} {its : List Value} (p : IsTup h l its.toArray) (r : Vals [.int n, .str z] its) : Holds h (.ref l) (n, z) := by
  obtain ⟨u, v, rfl, r1, r2⟩ := vals2 r
  obtain ⟨t, rfl⟩ := r1
  obtain ⟨t', rfl⟩ := r2
  obtain ⟨o, e1, e2, k, e3⟩ := p
  exact holds_pair ⟨o, e1, e2, k, e3⟩ (holds_int n t) (holds_str z t')
theorem opLtIS {X : Cx} (hu : X.A.units + 64 < cLine) : OpR X (compareOp .Lt) (rLtIS X.K) := fun pins s σ H x y u v Q I rx ry h => by
  obtain ⟨a, b, n, m, z1, z2, rfl, rfl, ha, hb, q⟩ := h
  cases rx
  cases ry
  obtain ⟨its, r1, p1, _⟩ := I.tuple ha
  obtain ⟨its2, r2, p2, _⟩ := I.tuple hb
  exact lt_datum (holds_is p1 r1) (holds_is p2 r2) (by
    have : Datum.depth (Int × Str) ≤ 64 := by decide
    omega) ⟨.bl (ltIS (n, z1) (m, z2)), H, I, rfl, q⟩
theorem x_ltIS {K : PySem.W.Frag} {H : Hp} {Q : VK} {a b : Addr} {n m : Int} {z1 z2 : Str} (ha : H a = some (.tup [.int n, .str z1])) (hb : H b = some (.tup [.int m, .str z2])) (q : Q (.bl (ltIS (n, z1) (m, z2))) H) : rLtIS K (.ref a) (.ref b) H Q :=
  ⟨a, b, n, m, z1, z2, rfl, rfl, SqT.of ha, SqT.of hb, q⟩

/-! ### enumerate(text) -/
def Ites (x : Str) : It :=
  ⟨fun i _ => i < x.cps.size, fun i H v H' => ∃ T c, v = .ref T ∧ H T = none ∧ H' = upd H T (.tup [.int (i : Nat), .str ⟨#[c]⟩]) ∧ x.cps[i]? = some c, fun i _ => i = x.cps.size⟩
theorem turn_enumS {P : Program} {w : World} {K : PySem.W.Frag} {elts : List Expr} {kk : Nat} {tpos : Pos} (x : Str) (t : Tok) (e it : Addr) :
    Turn P w K (.Tuple elts kk tpos) (Ites x) [e, it] e (fun i h => (∃ old, IsEnum h e it ((i : Nat) : Int) old) ∧ h.IsStrIter it (strIterType x) x t i ∧ e ≠ it) where
  mem := by simp
  obj := fun i h st b hb => by
    obtain ⟨⟨old, he⟩, ⟨o, ho, hc, hd⟩, _⟩ := st
    have e' : b = e ∨ b = it := by simpa using hb
    rcases e' with z | z
    · rw [z]; exact ⟨_, he, fun v q => nomatch q⟩
    · rw [z]; exact ⟨o, ho, fun v q => by rw [hd] at q; cases q⟩
  keep := fun i h h' st k => by
    obtain ⟨⟨old, he⟩, ⟨o, ho, r⟩, hne⟩ := st
    exact ⟨⟨old, k e (by simp) _ he⟩, ⟨o, k it (by simp) o ho, r⟩, hne⟩
  item := by
    intro X hP hw hK hc i pins s σ H E I hf st hg
    subst hP hw hK
    obtain ⟨⟨old, he⟩, hit, hne⟩ := st
    have hel : e < s.heap.objs.size := Heap.lt_size he
    have hil : it < s.heap.objs.size := by obtain ⟨_, q, _⟩ := hit; exact Heap.lt_size q
    refine wpAny_pyNext_enum_itemD (Draws.text (A := X.A.in1) (I.ok.hd hc) it x t) he hit hg hne (by simpa using hne) fun u h' tk hP ho hit' hT hsz hk => ?_
    obtain ⟨c, tu, hx, rfl⟩ := hP
    refine ⟨_, rfl, wpAny_letOwnedTupleGo_enum (s := { s with heap := h', toks := tk + 1 }) ho fun h'' he' sb => ?_⟩
    have hT2 : h''.get? s.heap.objs.size = some { cls := .type "tuple", data := .seq #[.int i tk, .str ⟨#[c]⟩ tu] } := (sb.2 _ (Nat.ne_of_gt hel)).trans hT
    have new : ObjOk X.prog X.w (upd H s.heap.objs.size (.tup [.int (i : Nat), .str ⟨#[c]⟩])) h'' s.heap.objs.size (.tup [.int (i : Nat), .str ⟨#[c]⟩]) :=
      ⟨by show 2 ≤ sizeLine; decide, [.int i tk, .str ⟨#[c]⟩ tu], .cons ⟨_, rfl⟩ (.cons ⟨_, rfl⟩ .nil), ⟨_, hT2, rfl, _, rfl⟩⟩
    have I1 : Inv X pins σ (upd H s.heap.objs.size (.tup [.int (i : Nat), .str ⟨#[c]⟩])) { s with heap := h'', toks := tk + 1 } :=
      I.turnedNew (ch := [e, it]) (fun b ob hb q => (sb.2 b (fun z => hb (by simp [z]))).trans (hk b ob (fun z => hb (by simp [z])) (fun z => hb (by simp [z])) q)) hf (Nat.le_refl _) new
    refine ⟨.ref s.heap.objs.size, _, I1, rfl, ⟨_, c, rfl, I.hok.fresh (Nat.le_refl _), rfl, hx⟩, ⟨⟨.str ⟨#[c]⟩ tu, ?_⟩, ?_, hne⟩, fun b hb => ?_⟩
    · have e1 : ((i + 1 : Nat) : Int) = (i : Int) + 1 := by omega
      rw [e1]; exact he'
    · obtain ⟨o, ho2, r⟩ := hit'
      exact ⟨o, (sb.2 it (Ne.symm hne)).trans ho2, r⟩
    · have hb' : b < s.heap.objs.size := by
        have e' : b = e ∨ b = it := by simpa using hb
        rcases e' with z | z
        · rw [z]; exact hel
        · rw [z]; exact hil
      rw [upd_ne (Nat.ne_of_lt hb')]
      exact (hf b hb).1
  done := by
    intro X hP hw hK hc i pins s σ H E I hf st hg
    subst hP hw hK
    obtain ⟨⟨old, he⟩, hit, hne⟩ := st
    obtain ⟨f0, f1, f2, f3, f4, f5⟩ := hf it (by simp)
    have hg' : i = x.cps.size := hg
    subst hg'
    exact wpAny_pyNext_enum_endD (Draws.text (A := X.A.in1) (I.ok.hd hc) it x t) he hit fun h' eb => ⟨rfl, I.turned (t' := s.toks) (fun b o hb q => eb b o hb q) f0 f1 f3 f4 f5⟩
  self := fun A i s Q E st h => let ⟨⟨_, he⟩, _⟩ := st; wpAny_pyIter_enum he h
def iEnumS (ta : TA) : TI := fun σ H R => ta σ H fun vs H1 => ∃ x, vs = [.str x] ∧ R (Ites x) H1
theorem pi_enumS {X : Cx} {e : Expr} {ta : TA} {p pos tpos : Pos} {elts : List Expr} {kk : Nat} (hg : Gl X "enumerate") (hm : X.mg "enumerate" = none) (ha : PA X [e] ta) (hs : starEach [e] X.env = [(false, eval e X.env)] := by rfl) :
    PI X (.Tuple elts kk tpos) (.Call (.Name "enumerate" p) [e] [] pos) (iEnumS ta) := by
  refine ⟨fun pins s σ H R I h => ?_⟩
  refine Call_ (ld_blt I hg hm boot_enumerate (PyProof.Rows.callWith_type1 (thn (ha.run pos pins s σ H _ I h) fun us s1 ⟨vs, H1, I1, r1, q1⟩ => ?_) hs rfl))
  obtain ⟨x, ex, q⟩ := q1
  subst ex
  cases r1 with
  | cons r rr =>
    cases rr
    obtain ⟨t, rfl⟩ := r
    refine call_enumerate_str fun h' he hit hsz hk => wpAny_pyIter_enum he ?_
    have I2 : Inv X pins σ H1 { s1 with heap := h' } := I1.kept (t' := s1.toks) hk
    refine ⟨s1.heap.objs.size + 1, [s1.heap.objs.size + 1, s1.heap.objs.size], _, _, H1, rfl, I2, turn_enumS x t (s1.heap.objs.size + 1) s1.heap.objs.size, ⟨⟨.none, he⟩, hit, Nat.succ_ne_self _⟩, fun b hb => ?_, q⟩
    have e' : b = s1.heap.objs.size + 1 ∨ b = s1.heap.objs.size := by simpa using hb
    have hle : s1.heap.objs.size ≤ b := by
      rcases e' with z | z
      · rw [z]; exact Nat.le_add_right _ _
      · rw [z]; exact Nat.le_refl _
    exact I1.fpOk hle (I1.hok.fresh hle)
end NF

/-! Own toolkit: loops and comprehensions. -/
namespace NF
open PySem L2

theorem Own.ignore {B H : Hp} {M R : List (Addr × HO)} {T : Addr} {o : HO} (O : Own B H M R) (h : H T = none) : Own B (upd H T o) M R :=
  ⟨O.nd, fun x hx => by
    have q := O.at_ x hx
    have n : x.1 ≠ T := fun e => by rw [e, h] at q; cases q
    rw [upd_ne n]
    exact q, fun b hb v e => by
    have q := O.out b hb v e
    have n : b ≠ T := fun e => by rw [e, h] at q; cases q
    rw [upd_ne n]
    exact q⟩
theorem Own.last {B H : Hp} {M R : List (Addr × HO)} {p : Addr} {o : HO} (O : Own B H M (R ++ [(p, o)])) : H p = some o :=
  O.at_ (p, o) (List.mem_append_right _ (List.mem_append_right _ (List.mem_singleton.mpr rfl)))
theorem Own.putLast {B H : Hp} {M R : List (Addr × HO)} {p : Addr} {o u : HO} (O : Own B H M (R ++ [(p, o)])) : Own B (upd H p u) M (R ++ [(p, u)]) := by
  have e : (R ++ [(p, o)])[R.length]? = some (p, o) := by rw [List.getElem?_append_right (Nat.le_refl _), Nat.sub_self]; rfl
  have h := O.put R.length e u
  rw [List.set_append_right _ _ (Nat.le_refl _), Nat.sub_self] at h
  exact h

/-- what a for asks of its iterator -/
def forR (g : TG) (tb : TS) (D : Ends) (σ : St) : It → Hp → Prop := fun J H1 => ∃ W : Nat → Nat → St → Hp → Prop, (∃ m, W 0 m σ H1) ∧ ∀ i m σ H, W i m σ H →
  (J.stop i H ∧ D.nx σ H) ∨ (J.go i H ∧ ∃ N : St → Hp → Prop, (∀ σ' H', N σ' H' → ∃ m', m' < m ∧ W (i + 1) m' σ' H') ∧ ∀ x H', J.yld i H x H' → g x σ H' fun σ2 H2 => tb { D with nx := N, ct := N, bk := D.nx } σ2 H2)
/-- what a comprehension asks of its iterator -/
def lcR (g : TG) (tt : TT) (te : TE) (vs : List Nat) (σ : St) (Q : VK) : It → Hp → Prop := fun J H1 => ∀ D, H1 D = none → ∃ W : Nat → Nat → Hp → Prop, (∃ m, W 0 m (upd H1 D (.lst []))) ∧ ∀ i m H, W i m H →
  (J.stop i H ∧ Q (.ref D) H) ∨ (J.go i H ∧ ∃ Nx : Hp → Prop, (∀ H', Nx H' → ∃ m', m' < m ∧ W (i + 1) m' H') ∧ ∀ x H', J.yld i H x H' → g x (wipe σ vs) H' fun σ2 H2 => wipe σ2 vs = wipe σ vs ∧ tt σ2 H2 fun b H3 =>
    if b = true then te σ2 H3 fun y H4 => ∃ acc, H4 D = some (.lst acc) ∧ acc.length < sizeLine ∧ Nx (upd H4 D (.lst (acc ++ [y]))) else Nx H3)
/-! what is walked, by its values -/
def jRng1 : List V → Hp → (It → Hp → Prop) → Prop := fun vs H1 R => ∃ j : Int, vs = [.int j] ∧ -(2 ^ 62) ≤ j ∧ j < 2 ^ 62 ∧ R (Itr 0 j.toNat) H1
def jRng2 : List V → Hp → (It → Hp → Prop) → Prop := fun vs H1 R => ∃ i j : Int, vs = [.int i, .int j] ∧ (-(2 ^ 62) ≤ i ∧ i < 2 ^ 62 ∧ -(2 ^ 62) ≤ j ∧ j < 2 ^ 62) ∧ R (Itr i (j - i).toNat) H1
def jList (K : PySem.W.Frag) : V → Hp → (It → Hp → Prop) → Prop := fun x H1 R => ∃ a, x = .ref a ∧ (∃ xs, SqL K H1 a xs) ∧ R (Itl K a) H1
def jTup (K : PySem.W.Frag) : V → Hp → (It → Hp → Prop) → Prop := fun x H1 R => ∃ a, x = .ref a ∧ (∃ xs, SqT K H1 a xs) ∧ R (Itt K a) H1
def jStr : V → Hp → (It → Hp → Prop) → Prop := fun v H1 R => ∃ x, v = .str x ∧ R (Its x) H1
def jEnumS : List V → Hp → (It → Hp → Prop) → Prop := fun vs H1 R => ∃ x, vs = [.str x] ∧ R (Ites x) H1
def jEnum (K : PySem.W.Frag) : List V → Hp → (It → Hp → Prop) → Prop := fun vs H1 R => ∃ a xs, vs = [.ref a] ∧ SqL K H1 a xs ∧ R (Ite K a) H1
section
variable {K : PySem.W.Frag} {σ : St} {B H : Hp} {M R : List (Addr × HO)} {a : Addr} {g : TG} {tb : TS} {D : Ends} {wi : TI} {tar : TA} {te tl : TE} {tt : TT} {vs : List Nat} {Q : VK} {RI : It → Hp → Prop}
theorem x_for (q : wi σ H (forR g tb D σ)) : tFor wi g tb D σ H := q
theorem x_lc (q : wi σ H (lcR g tt te vs σ Q)) : tLc wi g tt te vs σ H Q := q
theorem x_yes {QT : Bool → Hp → Prop} (q : QT true H) : tYes σ H QT := q
theorem x_jR1 (q : tar σ H fun vs H1 => jRng1 vs H1 RI) : iRng1 tar σ H RI := q
theorem x_jR2 (q : tar σ H fun vs H1 => jRng2 vs H1 RI) : iRng2 tar σ H RI := q
theorem x_jL (q : tl σ H fun v H1 => jList K v H1 RI) : iList K tl σ H RI := q
theorem x_jT (q : tl σ H fun v H1 => jTup K v H1 RI) : iTup K tl σ H RI := q
theorem x_jS (q : tl σ H fun v H1 => jStr v H1 RI) : iStr tl σ H RI := q
theorem x_jE (q : tar σ H fun vs H1 => jEnumS vs H1 RI) : iEnumS tar σ H RI := q
theorem x_jEL (q : tar σ H fun vs H1 => jEnum K vs H1 RI) : iEnum K tar σ H RI := q
section
variable {nx bk ct : St → Hp → Prop} {rt : VK}
/-! #### for: an invariant by the turn -/
theorem f_rng1 {n : Int} {j : Nat} (hn : -(2 ^ 62) ≤ n ∧ n < 2 ^ 62) (Pv : Nat → St → Hp → Prop) (h0 : Pv 0 σ H)
    (hs : ∀ (i : Nat) σ H, (i : Int) < n → Pv i σ H → tb ⟨Pv (i + 1), rt, nx, Pv (i + 1)⟩ (σ.set j (some (.int (i : Int)))) H) (hd : ∀ σ H, Pv n.toNat σ H → nx σ H) : jRng1 [.int n] H (forR (gName j) tb ⟨nx, rt, bk, ct⟩ σ) :=
  ⟨n, rfl, hn.1, hn.2, for_range (lo := 0) Pv h0 (fun i σ H hi p => by
    show tb _ (σ.set j (some (.int ((0 : Int) + (i : Int))))) H
    rw [Int.zero_add]
    exact hs i σ H (by omega) p) hd⟩
theorem f_rng2 {lo n : Int} {j : Nat} (hn : (-(2 ^ 62) ≤ lo ∧ lo < 2 ^ 62) ∧ -(2 ^ 62) ≤ n ∧ n < 2 ^ 62) (Pv : Nat → St → Hp → Prop) (h0 : Pv 0 σ H)
    (hs : ∀ (i : Nat) σ H, lo + (i : Int) < n → Pv i σ H → tb ⟨Pv (i + 1), rt, nx, Pv (i + 1)⟩ (σ.set j (some (.int (lo + (i : Int))))) H) (hd : ∀ σ H, Pv (n - lo).toNat σ H → nx σ H) : jRng2 [.int lo, .int n] H (forR (gName j) tb ⟨nx, rt, bk, ct⟩ σ) :=
  ⟨lo, n, rfl, ⟨hn.1.1, hn.1.2, hn.2.1, hn.2.2⟩, for_range (lo := lo) Pv h0 (fun i σ H hi p => hs i σ H (by omega) p) hd⟩
theorem f_list {xs : List V} {j : Nat} (hx : SqL K H a xs) (Pv : Nat → St → Hp → Prop) (h0 : Pv 0 σ H) (hl : ∀ i σ H, Pv i σ H → SqL K H a xs)
    (hs : ∀ (i : Nat) x σ H, xs[i]? = some x → Pv i σ H → tb ⟨Pv (i + 1), rt, nx, Pv (i + 1)⟩ (σ.set j (some x)) H) (hd : ∀ σ H, Pv xs.length σ H → nx σ H) : jList K (.ref a) H (forR (gName j) tb ⟨nx, rt, bk, ct⟩ σ) :=
  ⟨a, rfl, ⟨xs, hx⟩, for_list Pv h0 (fun i σ H _ p => hl i σ H p) (fun i x σ H hx p => hs i x σ H hx p) hd⟩
theorem f_listG {xs : List V} (hx : SqL K H a xs) (Pv : Nat → St → Hp → Prop) (h0 : Pv 0 σ H) (hl : ∀ i σ H, Pv i σ H → SqL K H a xs)
    (hs : ∀ (i : Nat) x σ H, xs[i]? = some x → Pv i σ H → g x σ H fun σ2 H2 => tb ⟨Pv (i + 1), rt, nx, Pv (i + 1)⟩ σ2 H2) (hd : ∀ σ H, Pv xs.length σ H → nx σ H) : jList K (.ref a) H (forR g tb ⟨nx, rt, bk, ct⟩ σ) :=
  ⟨a, rfl, ⟨xs, hx⟩, for_list Pv h0 (fun i σ H _ p => hl i σ H p) (fun i x σ H hx p => hs i x σ H hx p) hd⟩
theorem f_tup {xs : List V} {j : Nat} (hx : SqT K H a xs) (Pv : Nat → St → Hp → Prop) (h0 : Pv 0 σ H) (hl : ∀ i σ H, Pv i σ H → SqT K H a xs)
    (hs : ∀ (i : Nat) x σ H, xs[i]? = some x → Pv i σ H → tb ⟨Pv (i + 1), rt, nx, Pv (i + 1)⟩ (σ.set j (some x)) H) (hd : ∀ σ H, Pv xs.length σ H → nx σ H) : jTup K (.ref a) H (forR (gName j) tb ⟨nx, rt, bk, ct⟩ σ) :=
  ⟨a, rfl, ⟨xs, hx⟩, for_tup Pv h0 (fun i σ H _ p => hl i σ H p) (fun i x σ H hx p => hs i x σ H hx p) hd⟩
theorem f_str {z : Str} {j : Nat} (Pv : Nat → St → Hp → Prop) (h0 : Pv 0 σ H)
    (hs : ∀ (i : Nat) c σ H, z.cps[i]? = some c → Pv i σ H → tb ⟨Pv (i + 1), rt, nx, Pv (i + 1)⟩ (σ.set j (some (.str ⟨#[c]⟩))) H) (hd : ∀ σ H, Pv z.cps.size σ H → nx σ H) : jStr (.str z) H (forR (gName j) tb ⟨nx, rt, bk, ct⟩ σ) :=
  ⟨z, rfl, for_it walk_str Pv h0 (fun _ _ _ _ _ => trivial) (fun i x σ H H' hi p y => by
    obtain ⟨rfl, c, hc, rfl⟩ := y
    exact hs i c σ _ hc p) hd⟩
theorem f_enumS {z : Str} {j1 j2 : Nat} (Pv : Nat → St → Hp → Prop) (h0 : Pv 0 σ H)
    (hs : ∀ (i : Nat) c σ H H', z.cps[i]? = some c → Pv i σ H → (∀ B M R, Own B H M R → Own B H' M R) → tb ⟨Pv (i + 1), rt, nx, Pv (i + 1)⟩ ((σ.set j1 (some (.int (i : Int)))).set j2 (some (.str ⟨#[c]⟩))) H') (hd : ∀ σ H, Pv z.cps.size σ H → nx σ H) :
    jEnumS [.str z] H (forR (gTup K 2 (gCons (gName j1) (gCons (gName j2) gNil))) tb ⟨nx, rt, bk, ct⟩ σ) := by
  refine ⟨z, rfl, fun i m σ H => m = z.cps.size - i ∧ i ≤ z.cps.size ∧ Pv i σ H, ⟨_, by simp; rfl, Nat.zero_le _, h0⟩, ?_⟩
  rintro i m σ H ⟨rfl, hi, p⟩
  by_cases hlt : i < z.cps.size
  · refine .inr ⟨hlt, Pv (i + 1), fun σ' H' p' => ⟨z.cps.size - (i + 1), by omega, rfl, hlt, p'⟩, ?_⟩
    rintro x H' ⟨T, c, rfl, hT, rfl, hc⟩
    exact ⟨T, [.int (i : Nat), .str ⟨#[c]⟩], rfl, SqT.of upd_same, rfl, _, _, rfl, _, _, rfl, rfl, hs i c σ H _ hc p fun B M R O => O.ignore hT⟩
  · have e : i = z.cps.size := by omega
    subst e
    exact .inl ⟨rfl, hd σ H p⟩
/-- enumerate(list) -/
theorem f_enum {xs : List V} {j1 j2 : Nat} (hx : SqL K H a xs) (Pv : Nat → St → Hp → Prop) (h0 : Pv 0 σ H) (hl : ∀ i σ H, Pv i σ H → SqL K H a xs)
    (hs : ∀ (i : Nat) c σ H H', xs[i]? = some c → Pv i σ H → (∀ B M R, Own B H M R → Own B H' M R) → tb ⟨Pv (i + 1), rt, nx, Pv (i + 1)⟩ ((σ.set j1 (some (.int (i : Int)))).set j2 (some c)) H') (hd : ∀ σ H, Pv xs.length σ H → nx σ H) :
    jEnum K [.ref a] H (forR (gTup K 2 (gCons (gName j1) (gCons (gName j2) gNil))) tb ⟨nx, rt, bk, ct⟩ σ) := by
  refine ⟨a, xs, rfl, hx, fun i m σ H => m = xs.length - i ∧ i ≤ xs.length ∧ Pv i σ H, ⟨_, by simp; rfl, Nat.zero_le _, h0⟩, ?_⟩
  rintro i m σ H ⟨rfl, hi, p⟩
  have q := hl i σ H p
  by_cases hlt : i < xs.length
  · refine .inr ⟨⟨xs, xs[i], q, by simp [hlt]⟩, Pv (i + 1), fun σ' H' p' => ⟨xs.length - (i + 1), by omega, rfl, hlt, p'⟩, ?_⟩
    rintro x H' ⟨T, c, rfl, hT, rfl, hc⟩
    exact ⟨T, [.int (i : Nat), c], rfl, SqT.of upd_same, rfl, _, _, rfl, _, _, rfl, rfl, hs i c σ H _ (hc xs q) p fun B M R O => O.ignore hT⟩
  · have e : i = xs.length := by omega
    subst e
    exact .inl ⟨⟨xs, q, Nat.le_refl _⟩, hd σ H p⟩
end
/-! #### while: an invariant with a measure -/
theorem x_while {nx bk ct : St → Hp → Prop} {rt : VK} (I : Nat → St → Hp → Prop) (m : Nat) (h0 : I m σ H)
    (hs : ∀ m σ H, I m σ H → tt σ H fun b H1 => if b = true then (∃ N : St → Hp → Prop, (∀ σ' H', N σ' H' → ∃ m', m' < m ∧ I m' σ' H') ∧ tb ⟨N, rt, nx, N⟩ σ H1) else nx σ H1) : tWhile tt tb ⟨nx, rt, bk, ct⟩ σ H := ⟨I, ⟨m, h0⟩, hs⟩
theorem x_turn {nx : St → Hp → Prop} {rt : VK} {I : Nat → St → Hp → Prop} {m : Nat} (q : tb ⟨fun σ' H' => ∃ m', m' < m ∧ I m' σ' H', rt, nx, fun σ' H' => ∃ m', m' < m ∧ I m' σ' H'⟩ σ H) :
    ∃ N : St → Hp → Prop, (∀ σ' H', N σ' H' → ∃ m', m' < m ∧ I m' σ' H') ∧ tb ⟨N, rt, nx, N⟩ σ H := ⟨_, fun _ _ h => h, q⟩
/-! #### comprehensions: the new list stands behind what is owned -/
theorem set_wipe (σ : St) (j : Nat) (x : Option V) : wipe ((wipe σ [j]).set j x) [j] = wipe σ [j] := by
  show (((σ.set j none).set j x).set j none) = σ.set j none
  rw [List.set_set, List.set_set]
/-- a turn's end: the list so far is acc, y comes behind it -/
def lcEnd (B : Hp) (R : List (Addr × HO)) (p : Addr) (i : Nat) (N : List V → List (Addr × HO) → Prop) (y : V) (H4 : Hp) : Prop :=
  ∃ acc, H4 p = some (.lst acc) ∧ acc.length < sizeLine ∧ ∃ M' a2, a2.length ≤ i + 1 ∧ N a2 M' ∧ Own B (upd H4 p (.lst (acc ++ [y]))) M' (R ++ [(p, .lst a2)])
def lcSkip (B : Hp) (R : List (Addr × HO)) (p : Addr) (i : Nat) (N : List V → List (Addr × HO) → Prop) (H4 : Hp) : Prop :=
  ∃ M' a2, a2.length ≤ i + 1 ∧ N a2 M' ∧ Own B H4 M' (R ++ [(p, .lst a2)])
theorem lc_done {p : Addr} {i : Nat} {N : List V → List (Addr × HO) → Prop} {y : V} {acc : List V} (O : Own B H M (R ++ [(p, .lst acc)])) (hl : acc.length ≤ i) (hz : i < sizeLine) (pv : N (acc ++ [y]) M) : lcEnd B R p i N y H :=
  ⟨acc, O.last, Nat.lt_of_le_of_lt hl hz, M, acc ++ [y], by simp; omega, pv, O.putLast⟩
theorem lc_skip {p : Addr} {i : Nat} {N : List V → List (Addr × HO) → Prop} {acc : List V} (O : Own B H M (R ++ [(p, .lst acc)])) (hl : acc.length ≤ i) (pv : N acc M) : lcSkip B R p i N H := ⟨M, acc, by omega, pv, O⟩
section
variable {n : Nat} {J : It} {G : Hp → Prop} {Y : Nat → Hp → V → Hp → Prop} {j : Nat}
/-- over anything -/
theorem lc_any (W : L2.Walk J n G Y) (O : Own B H M R) (Pv : Nat → List V → List (Addr × HO) → Prop) (hG : ∀ H' M' p acc, Own B H' M' (R ++ [(p, .lst acc)]) → G H') (h0 : Pv 0 [] M)
    (hs : ∀ (i : Nat) x H' H'' M' p acc, i < n → acc.length ≤ i → Pv i acc M' → Own B H' M' (R ++ [(p, .lst acc)]) → Y i H' x H'' →
      tt ((wipe σ [j]).set j (some x)) H'' fun b H3 => if b = true then te ((wipe σ [j]).set j (some x)) H3 (lcEnd B R p i (Pv (i + 1))) else lcSkip B R p i (Pv (i + 1)) H3)
    (hd : ∀ p H' M' acc, B p = none → acc.length ≤ n → Pv n acc M' → Own B H' M' (R ++ [(p, .lst acc)]) → Q (.ref p) H') : lcR (gName j) tt te [j] σ Q J H := by
  intro p hp
  refine lc_it W (fun i H' => ∃ M' acc, acc.length ≤ i ∧ Pv i acc M' ∧ Own B H' M' (R ++ [(p, .lst acc)])) ⟨M, [], Nat.le_refl _, h0, O.new hp⟩ (fun i H' _ ⟨M', acc, _, _, O'⟩ => hG H' M' p acc O') ?_ (fun H' ⟨M', acc, l, pv, O'⟩ => hd p H' M' acc (O.base_free hp) l pv O')
  rintro i x H' H'' hi ⟨M', acc, hl, pv, O'⟩ y
  exact ⟨set_wipe σ j _, hs i x H' H'' M' p acc hi hl pv O' y⟩
theorem lc_rng1 {n : Int} (hn : -(2 ^ 62) ≤ n ∧ n < 2 ^ 62) (O : Own B H M R) (Pv : Nat → List V → List (Addr × HO) → Prop) (h0 : Pv 0 [] M)
    (hs : ∀ (i : Nat) H' M' p acc, (i : Int) < n → acc.length ≤ i → Pv i acc M' → Own B H' M' (R ++ [(p, .lst acc)]) →
      tt ((wipe σ [j]).set j (some (.int (i : Int)))) H' fun b H3 => if b = true then te ((wipe σ [j]).set j (some (.int (i : Int)))) H3 (lcEnd B R p i (Pv (i + 1))) else lcSkip B R p i (Pv (i + 1)) H3)
    (hd : ∀ p H' M' acc, B p = none → acc.length ≤ n.toNat → Pv n.toNat acc M' → Own B H' M' (R ++ [(p, .lst acc)]) → Q (.ref p) H') : jRng1 [.int n] H (lcR (gName j) tt te [j] σ Q) :=
  ⟨n, rfl, hn.1, hn.2, lc_any (walk_range (lo := 0)) O Pv (fun _ _ _ _ _ => trivial) h0 (fun i x H' H'' M' p acc hi hl pv O' y => by
    obtain ⟨rfl, e⟩ := y
    have e2 : x = .int (i : Int) := e.trans (congrArg V.int (Int.zero_add _))
    subst e2
    exact hs i _ M' p acc (by omega) hl pv O') hd⟩
theorem lc_lst {xs : List V} (hx : SqL K H a xs) (O : Own B H M R) (Pv : Nat → List V → List (Addr × HO) → Prop) (hG : ∀ H' M' p acc, Own B H' M' (R ++ [(p, .lst acc)]) → SqL K H' a xs) (h0 : Pv 0 [] M)
    (hs : ∀ (i : Nat) x H' M' p acc, xs[i]? = some x → acc.length ≤ i → Pv i acc M' → Own B H' M' (R ++ [(p, .lst acc)]) →
      tt ((wipe σ [j]).set j (some x)) H' fun b H3 => if b = true then te ((wipe σ [j]).set j (some x)) H3 (lcEnd B R p i (Pv (i + 1))) else lcSkip B R p i (Pv (i + 1)) H3)
    (hd : ∀ p H' M' acc, B p = none → acc.length ≤ xs.length → Pv xs.length acc M' → Own B H' M' (R ++ [(p, .lst acc)]) → Q (.ref p) H') : jList K (.ref a) H (lcR (gName j) tt te [j] σ Q) :=
  ⟨a, rfl, ⟨xs, hx⟩, lc_any walk_list O Pv hG h0 (fun i x H' H'' M' p acc hi hl pv O' y => by
    obtain ⟨rfl, hx⟩ := y
    exact hs i x _ M' p acc hx hl pv O') hd⟩
theorem lc_tupl {xs : List V} (hx : SqT K H a xs) (O : Own B H M R) (Pv : Nat → List V → List (Addr × HO) → Prop) (hG : ∀ H' M' p acc, Own B H' M' (R ++ [(p, .lst acc)]) → SqT K H' a xs) (h0 : Pv 0 [] M)
    (hs : ∀ (i : Nat) x H' M' p acc, xs[i]? = some x → acc.length ≤ i → Pv i acc M' → Own B H' M' (R ++ [(p, .lst acc)]) →
      tt ((wipe σ [j]).set j (some x)) H' fun b H3 => if b = true then te ((wipe σ [j]).set j (some x)) H3 (lcEnd B R p i (Pv (i + 1))) else lcSkip B R p i (Pv (i + 1)) H3)
    (hd : ∀ p H' M' acc, B p = none → acc.length ≤ xs.length → Pv xs.length acc M' → Own B H' M' (R ++ [(p, .lst acc)]) → Q (.ref p) H') : jTup K (.ref a) H (lcR (gName j) tt te [j] σ Q) :=
  ⟨a, rfl, ⟨xs, hx⟩, lc_any walk_tup O Pv hG h0 (fun i x H' H'' M' p acc hi hl pv O' y => by
    obtain ⟨rfl, hx⟩ := y
    exact hs i x _ M' p acc hx hl pv O') hd⟩
theorem lc_strs {z : Str} (O : Own B H M R) (Pv : Nat → List V → List (Addr × HO) → Prop) (h0 : Pv 0 [] M)
    (hs : ∀ (i : Nat) c H' M' p acc, z.cps[i]? = some c → acc.length ≤ i → Pv i acc M' → Own B H' M' (R ++ [(p, .lst acc)]) →
      tt ((wipe σ [j]).set j (some (.str ⟨#[c]⟩))) H' fun b H3 => if b = true then te ((wipe σ [j]).set j (some (.str ⟨#[c]⟩))) H3 (lcEnd B R p i (Pv (i + 1))) else lcSkip B R p i (Pv (i + 1)) H3)
    (hd : ∀ p H' M' acc, B p = none → acc.length ≤ z.cps.size → Pv z.cps.size acc M' → Own B H' M' (R ++ [(p, .lst acc)]) → Q (.ref p) H') : jStr (.str z) H (lcR (gName j) tt te [j] σ Q) :=
  ⟨z, rfl, lc_any walk_str O Pv (fun _ _ _ _ _ => trivial) h0 (fun i x H' H'' M' p acc hi hl pv O' y => by
    obtain ⟨rfl, c, hx, rfl⟩ := y
    exact hs i c _ M' p acc hx hl pv O') hd⟩
end
end
end NF

/-! Own toolkit: texts. -/
namespace NF
open PySem L2 TL

/-- a text of one sign; signs as a list of texts -/
abbrev ch (c : Nat) : V := .str ⟨#[c]⟩
abbrev mkS (l : List Nat) : Str := ⟨l.toArray⟩
theorem len_mk (l : List Nat) : (mkS l).length = l.length := by rw [len_tl]
theorem len_app (x y : Str) : (x ++ y).length = x.length + y.length := by rw [len_tl, tl_append, List.length_append, ← len_tl, ← len_tl]
theorem len_cut (z : Str) (lo hi : Option Int) : (cutS z lo hi).length ≤ z.length := cutS_length z lo hi
theorem len_ch (c : Nat) : (⟨#[c]⟩ : Str).length = 1 := rfl
theorem lit {s : String} {l : List Nat} (h : s.toList.map Char.toNat = l := by decide +kernel) : Str.ofString s = mkS l := ext_tl (by rw [tl_ofString, h])
theorem tl_cut (z : Str) (lo hi : Option Int) : tl (cutS z lo hi) = ((tl z).drop (HT.sIx z.length 0 lo)).take (HT.sIx z.length z.length hi - HT.sIx z.length 0 lo) := rfl
theorem join_ch (l : List Nat) : Txt.join Str.empty (l.map fun c => (⟨#[c]⟩ : Str)) = mkS l := by
  refine ext_tl ?_
  rw [join_eq, tl_join]
  show joinL [] _ = l
  have e : ∀ l : List Nat, joinL [] ((l.map fun c => (⟨#[c]⟩ : Str)).map tl) = l := by
    intro l
    induction l with
    | nil => rfl
    | cons a l ih =>
      cases l with
      | nil => rfl
      | cons b l =>
        show tl ⟨#[a]⟩ ++ ([] ++ joinL [] (((b :: l).map fun c => (⟨#[c]⟩ : Str)).map tl)) = a :: b :: l
        rw [ih]
        rfl
  exact e l
theorem sum_ch (l : List Nat) : ((l.map fun c => (⟨#[c]⟩ : Str)).map (·.length)).sum = l.length := by
  rw [List.map_map]
  induction l with
  | nil => rfl
  | cons a l ih => rw [List.map_cons, List.sum_cons, ih, List.length_cons]; show 1 + _ = _; omega
theorem map_ch (l : List Nat) : (l.map fun c => (⟨#[c]⟩ : Str)).map V.str = l.map ch := by rw [List.map_map]; rfl
theorem len_mul (x : Str) (n : Int) : (Txt.mul x n).length ≤ x.length * n.toNat := by
  unfold Txt.mul
  by_cases h : n < 1
  · rw [if_pos h]; exact Nat.zero_le _
  · rw [if_neg h]
    by_cases h2 : (n == 1 || x.length == 0) = true
    · rw [if_pos h2]
      simp only [Bool.or_eq_true, beq_iff_eq] at h2
      rcases h2 with h2 | h2
      · rw [h2]; simp
      · rw [h2]; simp
    · rw [if_neg h2]
      refine Nat.le_of_eq ?_
      have e : ∀ (k : Nat) (a : Array Nat), ((List.replicate k x.cps).foldl (· ++ ·) a).size = a.size + k * x.cps.size := by
        intro k
        induction k with
        | zero => intro a; simp
        | succ k ih => intro a; rw [List.replicate_succ, List.foldl_cons, ih, Array.size_append, Nat.succ_mul]; omega
      show ((List.replicate n.toNat x.cps).foldl (· ++ ·) #[]).size = x.cps.size * n.toNat
      rw [e, Nat.mul_comm]
      simp
/-! letters -/
def isLo (c : Nat) : Bool := decide (97 ≤ c ∧ c ≤ 104)
def isUp (c : Nat) : Bool := decide (65 ≤ c ∧ c ≤ 72)
theorem lo_cases {c : Nat} (h : 97 ≤ c ∧ c ≤ 104) : c = 97 ∨ c = 98 ∨ c = 99 ∨ c = 100 ∨ c = 101 ∨ c = 102 ∨ c = 103 ∨ c = 104 := by omega
theorem up_cases {c : Nat} (h : 65 ≤ c ∧ c ≤ 72) : c = 65 ∨ c = 66 ∨ c = 67 ∨ c = 68 ∨ c = 69 ∨ c = 70 ∨ c = 71 ∨ c = 72 := by omega
theorem upper_lo {c : Nat} (h : 97 ≤ c ∧ c ≤ 104) : Txt.upper ⟨#[c]⟩ = ⟨#[c - 32]⟩ := by
  rcases lo_cases h with rfl | rfl | rfl | rfl | rfl | rfl | rfl | rfl <;> decide +kernel
theorem lower_up {c : Nat} (h : 65 ≤ c ∧ c ≤ 72) : Txt.lower ⟨#[c]⟩ = ⟨#[c + 32]⟩ := by
  rcases up_cases h with rfl | rfl | rfl | rfl | rfl | rfl | rfl | rfl <;> decide +kernel
theorem mem_lo {c : Nat} : c ∈ [97, 98, 99, 100, 101, 102, 103, 104] ↔ 97 ≤ c ∧ c ≤ 104 := by
  simp only [List.mem_cons, List.not_mem_nil, or_false]; omega
theorem mem_up {c : Nat} : c ∈ [65, 66, 67, 68, 69, 70, 71, 72] ↔ 65 ≤ c ∧ c ≤ 72 := by
  simp only [List.mem_cons, List.not_mem_nil, or_false]; omega
theorem at_lt {α : Type} {l : List α} {i : Int} (h0 : 0 ≤ i) (h1 : i < (l.length : Int)) : ∃ c, atI l i = some c ∧ l[i.toNat]? = some c ∧ c ∈ l := by
  have hj : i.toNat < l.length := by omega
  have e : ((i.toNat : Nat) : Int) = i := by omega
  refine ⟨l[i.toNat], ?_, by simp [hj], List.getElem_mem hj⟩
  have := atI_nat (xs := l) (j := i.toNat) (v := l[i.toNat]) (by simp [hj])
  rw [e] at this
  exact this
section
variable {K : PySem.W.Frag} {B H : Hp} {M R : List (Addr × HO)} {a p : Addr} {Q : VK} {z : Str} {i : Int}
/-- an item of a text at an open place within it -/
theorem x_ixSo (h0 : 0 ≤ i) (h1 : i < (z.length : Int)) (hz : z.length ≤ sizeLine) (q : ∀ c, tl z = tl z → (tl z)[i.toNat]? = some c → c ∈ tl z → Q (.str ⟨#[c]⟩) H) : rIxS (.str z) (.int i) H Q := by
  obtain ⟨c, e, e2, m⟩ := at_lt (l := tl z) h0 (by rw [← len_tl]; exact h1)
  exact ⟨z, i, c, rfl, rfl, hz, e, q c rfl e2 m⟩
/-- join of signs -/
theorem x_join (l : List Nat) (h : H p = some (.lst (l.map ch))) (hz : l.length ≤ 16777216) (q : Q (.str (mkS l)) H) : rJoin K (.str Str.empty) [.ref p] H Q :=
  x_joinL (l.map fun c => (⟨#[c]⟩ : Str)) (by rw [map_ch]; exact h) (by
    rw [sum_ch, List.length_map]
    show l.length + l.length * 0 ≤ _
    omega) (by rw [join_ch]; exact q)
theorem x_mulS {n : Int} (hz : z.length ≤ 1000000) (hn : n ≤ 1000000) (hn0 : -1000000 ≤ n) (hl : z.length * n.toNat ≤ sizeLine) (q : Q (.str (Txt.mul z n)) H) : rMulS (.str z) (.int n) H Q := ⟨z, n, rfl, rfl, hz, hn, by omega, hl, q⟩
end
end NF

/-! Own toolkit: nested texts as lists of codes. -/
namespace NF
open PySem L2 TL

theorem tl_names : tl (Str.ofString "abcdefgh") = [97, 98, 99, 100, 101, 102, 103, 104] := by rw [tl_ofString]; decide +kernel
theorem len_names : (Str.ofString "abcdefgh").length = 8 := by rw [len_tl, tl_names]; rfl
/-- reading with a stack (the top first) -/
def run : List Nat → List Nat → Option (List Nat)
  | [], st => some st
  | c :: r, st => if 97 ≤ c ∧ c ≤ 104 then run r (c :: st) else match st with
    | t :: ts => if c + 32 = t then run r ts else none
    | [] => none
/-- the fault: the place of the first wrong sign, or the length -/
def flt : List Nat → Nat → List Nat → Option Nat
  | [], k, st => if st = [] then none else some k
  | c :: r, k, st => if 97 ≤ c ∧ c ≤ 104 then flt r (k + 1) (c :: st) else match st with
    | t :: ts => if c + 32 = t then flt r (k + 1) ts else some k
    | [] => some k
theorem run_cons (c : Nat) (r st : List Nat) : run (c :: r) st = if 97 ≤ c ∧ c ≤ 104 then run r (c :: st) else match st with
    | t :: ts => if c + 32 = t then run r ts else none
    | [] => none := by rw [run.eq_def]
theorem flt_cons (c : Nat) (r : List Nat) (k : Nat) (st : List Nat) : flt (c :: r) k st = if 97 ≤ c ∧ c ≤ 104 then flt r (k + 1) (c :: st) else match st with
    | t :: ts => if c + 32 = t then flt r (k + 1) ts else some k
    | [] => some k := by rw [flt.eq_def]
theorem run_append (l m : List Nat) : ∀ st, run (l ++ m) st = (run l st).bind (run m) := by
  induction l with
  | nil => intro st; rfl
  | cons c l ih =>
    intro st
    rw [List.cons_append, run_cons, run_cons]
    by_cases h : 97 ≤ c ∧ c ≤ 104
    · rw [if_pos h, if_pos h]; exact ih _
    · rw [if_neg h, if_neg h]
      cases st with
      | nil => rfl
      | cons t ts =>
        by_cases h2 : c + 32 = t
        · simp only [if_pos h2]; exact ih _
        · simp only [if_neg h2]; rfl
theorem flt_run {l : List Nat} (m : List Nat) : ∀ {k st st'}, run l st = some st' → flt (l ++ m) k st = flt m (k + l.length) st' := by
  induction l with
  | nil => intro k st st' h; cases h; rfl
  | cons c l ih =>
    intro k st st' h
    rw [List.cons_append, List.length_cons, flt_cons]
    rw [run_cons] at h
    have e : k + (l.length + 1) = (k + 1) + l.length := by omega
    by_cases h1 : 97 ≤ c ∧ c ≤ 104
    · rw [if_pos h1] at h ⊢; rw [e]; exact ih h
    · rw [if_neg h1] at h ⊢
      cases st with
      | nil => cases h
      | cons t ts =>
        by_cases h2 : c + 32 = t
        · simp only [if_pos h2] at h ⊢; rw [e]; exact ih h
        · simp only [if_neg h2] at h; cases h
/-- a beginning's stack is what is left open; else the fault is a place within -/
theorem flt_spec (l : List Nat) : ∀ k st, (∃ st', run l st = some st') ∨ (run l st = none ∧ ∃ j, flt l k st = some j ∧ k ≤ j ∧ j < k + l.length ∧ ∀ m, flt (l ++ m) k st = some j) := by
  induction l with
  | nil => intro k st; exact .inl ⟨st, rfl⟩
  | cons c l ih =>
    intro k st
    rw [run_cons]
    by_cases h1 : 97 ≤ c ∧ c ≤ 104
    · rw [if_pos h1]
      rcases ih (k + 1) (c :: st) with h | ⟨h, j, h2, h3, h4, h5⟩
      · exact .inl h
      · refine .inr ⟨h, j, ?_, by omega, by rw [List.length_cons]; omega, fun m => ?_⟩
        · rw [flt_cons]; rw [if_pos h1]; exact h2
        · rw [List.cons_append, flt_cons]; rw [if_pos h1]; exact h5 m
    · rw [if_neg h1]
      cases st with
      | nil =>
        refine .inr ⟨rfl, k, ?_, Nat.le_refl _, by rw [List.length_cons]; omega, fun m => ?_⟩
        · rw [flt_cons]; rw [if_neg h1]
        · rw [List.cons_append, flt_cons]; rw [if_neg h1]
      | cons t ts =>
        by_cases h2 : c + 32 = t
        · simp only [if_pos h2]
          rcases ih (k + 1) ts with h | ⟨h, j, h3, h4, h5, h6⟩
          · exact .inl h
          · refine .inr ⟨h, j, ?_, by omega, by rw [List.length_cons]; omega, fun m => ?_⟩
            · rw [flt_cons]; rw [if_neg h1]; simp only [if_pos h2]; exact h3
            · rw [List.cons_append, flt_cons]; rw [if_neg h1]; simp only [if_pos h2]; exact h6 m
        · simp only [if_neg h2]
          refine .inr ⟨trivial, k, ?_, Nat.le_refl _, by rw [List.length_cons]; omega, fun m => ?_⟩
          · rw [flt_cons]; rw [if_neg h1]; simp only [if_neg h2]
          · rw [List.cons_append, flt_cons]; rw [if_neg h1]; simp only [if_neg h2]
theorem flt_of_run {l : List Nat} {k : Nat} {st st' : List Nat} (h : run l st = some st') : flt l k st = if st' = [] then none else some (k + l.length) := by
  have := flt_run (k := k) [] h
  rw [List.append_nil] at this
  rw [this]
  rfl
/-- the stack's letters are opening ones -/
theorem run_lo {l : List Nat} : ∀ {st st'}, run l st = some st' → (∀ c ∈ st, 97 ≤ c ∧ c ≤ 104) → ∀ c ∈ st', 97 ≤ c ∧ c ≤ 104 := by
  induction l with
  | nil => intro st st' h hs; cases h; exact hs
  | cons c l ih =>
    intro st st' h hs
    rw [run_cons] at h
    by_cases h1 : 97 ≤ c ∧ c ≤ 104
    · rw [if_pos h1] at h
      refine ih h fun d hd => ?_
      rcases List.mem_cons.mp hd with rfl | hd
      · exact h1
      · exact hs d hd
    · rw [if_neg h1] at h
      cases st with
      | nil => cases h
      | cons t ts =>
        by_cases h2 : c + 32 = t
        · simp only [if_pos h2] at h
          exact ih h fun d hd => hs d (List.mem_cons_of_mem _ hd)
        · simp only [if_neg h2] at h; cases h
theorem take_snoc {α : Type} {l : List α} {i : Nat} {c : α} (h : l[i]? = some c) : l.take (i + 1) = l.take i ++ [c] := by rw [List.take_add_one, h]; rfl
theorem drop_cons {α : Type} {l : List α} {i : Nat} {c : α} (h : l[i]? = some c) : l = l.take i ++ c :: l.drop (i + 1) := by
  have hi : i < l.length := (List.getElem?_eq_some_iff.mp h).1
  have e : l[i] = c := (List.getElem?_eq_some_iff.mp h).2
  rw [← e, ← List.drop_eq_getElem_cons hi, List.take_append_drop]
theorem run_lo1 {l st : List Nat} {i c : Nat} (h : run (l.take i) [] = some st) (hc : l[i]? = some c) (h1 : 97 ≤ c ∧ c ≤ 104) : run (l.take (i + 1)) [] = some (c :: st) := by
  rw [take_snoc hc, run_append, h]
  show run [c] st = _
  rw [run_cons, if_pos h1]
  rfl
theorem run_up1 {l st : List Nat} {i c : Nat} (h : run (l.take i) [] = some ((c + 32) :: st)) (hc : l[i]? = some c) (h1 : ¬ (97 ≤ c ∧ c ≤ 104)) : run (l.take (i + 1)) [] = some st := by
  rw [take_snoc hc, run_append, h]
  show run [c] ((c + 32) :: st) = _
  rw [run_cons, if_neg h1]
  simp only [if_true]
  rfl
theorem flt_stop {l st : List Nat} {i c : Nat} (h : run (l.take i) [] = some st) (hc : l[i]? = some c) (h1 : ¬ (97 ≤ c ∧ c ≤ 104)) (h2 : ∀ t ts, st = t :: ts → c + 32 ≠ t) : flt l 0 [] = some i := by
  have hi : i < l.length := (List.getElem?_eq_some_iff.mp hc).1
  rw [drop_cons hc, flt_run _ h, flt_cons, if_neg h1, List.length_take, Nat.min_eq_left (by omega), Nat.zero_add]
  cases st with
  | nil => rfl
  | cons t ts => simp only [if_neg (h2 t ts rfl)]
theorem flt_end {l st : List Nat} (h : run (l.take l.length) [] = some st) : flt l 0 [] = if st = [] then none else some l.length := by
  rw [List.take_length] at h
  rw [flt_of_run h, Nat.zero_add]
theorem run_len {l : List Nat} : ∀ {st st'}, run l st = some st' → st'.length ≤ st.length + l.length := by
  induction l with
  | nil => intro st st' h; cases h; exact Nat.le_refl _
  | cons c l ih =>
    intro st st' h
    rw [run_cons] at h
    by_cases h1 : 97 ≤ c ∧ c ≤ 104
    · rw [if_pos h1] at h
      have := ih h
      simp only [List.length_cons] at this ⊢
      omega
    · rw [if_neg h1] at h
      cases st with
      | nil => cases h
      | cons t ts =>
        by_cases h2 : c + 32 = t
        · simp only [if_pos h2] at h
          have := ih h
          simp only [List.length_cons] at this ⊢
          omega
        · simp only [if_neg h2] at h; cases h
/-- the closing letters of a stack -/
theorem run_close : ∀ {st : List Nat}, (∀ c ∈ st, 97 ≤ c ∧ c ≤ 104) → run (st.map (· - 32)) st = some []
  | [], _ => rfl
  | c :: st, h => by
    have hc := h c (List.mem_cons_self ..)
    show run ((c - 32) :: st.map (· - 32)) (c :: st) = _
    rw [run_cons, if_neg (by omega)]
    simp only [show c - 32 + 32 = c by omega, if_true]
    exact run_close fun d hd => h d (List.mem_cons_of_mem _ hd)
/-- what is written so far, what is still open (the last one opened at the end, as closing letters) -/
def NestI (ls os : List Nat) (n : Nat) : Prop := run ls [] = some ((os.map (· + 32)).reverse) ∧ (∀ c ∈ os, 65 ≤ c ∧ c ≤ 72) ∧ ls.length + os.length = n
theorem NestI.nil : NestI [] [] 0 := ⟨rfl, fun _ h => absurd h List.not_mem_nil, rfl⟩
theorem NestI.pop {ls os : List Nat} {c n : Nat} (h : NestI ls (os ++ [c]) n) : NestI (ls ++ [c]) os n := by
  obtain ⟨h1, h2, h3⟩ := h
  have hc := h2 c (by simp)
  refine ⟨?_, fun d hd => h2 d (List.mem_append_left _ hd), by simp only [List.length_append, List.length_singleton] at h3 ⊢; omega⟩
  rw [run_append, h1, List.map_append, List.reverse_append]
  show run [c] ((c + 32) :: (os.map (· + 32)).reverse) = _
  rw [run_cons, if_neg (by omega)]
  simp only [if_true]
  rfl
theorem NestI.push {ls os : List Nat} {c n : Nat} (h : NestI ls os n) (hc : 97 ≤ c ∧ c ≤ 104) : NestI (ls ++ [c]) (os ++ [c - 32]) (n + 2) := by
  obtain ⟨h1, h2, h3⟩ := h
  refine ⟨?_, fun d hd => ?_, by simp only [List.length_append, List.length_singleton]; omega⟩
  · rw [run_append, h1]
    show run [c] _ = _
    rw [run_cons, if_pos hc, List.map_append, List.reverse_append]
    show some (c :: (os.map (· + 32)).reverse) = some ((c - 32 + 32) :: (os.map (· + 32)).reverse)
    rw [show c - 32 + 32 = c by omega]
  · rcases List.mem_append.mp hd with hd | hd
    · exact h2 d hd
    · rw [List.mem_singleton.mp hd]; omega
/-- nested -/
def Nst (l : List Nat) : Prop := run l [] = some []
theorem NestI.done {ls : List Nat} {n : Nat} (h : NestI ls [] n) : Nst ls ∧ ls.length = n := ⟨h.1, by have := h.2.2; simpa using this⟩
section
variable {K : PySem.W.Frag} {B H : Hp} {M R : List (Addr × HO)} {a p : Addr} {Q : VK} {z : Str} {i : Int} {xs : List V}
theorem x_popC {os : List Nat} {c : Nat} (O : Own B H M R) (k : Nat) (hk : R[k]? = some (a, .lst ((os ++ [c]).map ch))) (q : ∀ H1, Own B H1 M (R.set k (a, .lst (os.map ch))) → Q (ch c) H1) : rPop (.ref a) [] H Q := by
  have e : (os ++ [c]).map ch = os.map ch ++ [ch c] := by rw [List.map_append]; rfl
  rw [e] at hk
  refine x_pop O k hk (v := ch c) (by simp) fun H1 O1 => q H1 ?_
  rw [List.dropLast_concat] at O1
  exact O1
theorem x_appC {l : List Nat} {c : Nat} (O : Own B H M R) (k : Nat) (hk : R[k]? = some (a, .lst (l.map ch))) (hz : l.length < 10000000) (q : ∀ H1, Own B H1 M (R.set k (a, .lst ((l ++ [c]).map ch))) → Q .non H1) : rAppend (.ref a) [ch c] H Q := by
  refine x_append O k hk (by rw [List.length_map, sizeLine_eq]; omega) fun H1 O1 => q H1 ?_
  rw [List.map_append]
  exact O1
theorem map_snoc (l : List Nat) (c : Nat) : l.map ch ++ [ch c] = (l ++ [c]).map ch := by rw [List.map_append]; rfl
/-- an item of a list at an open place within it -/
theorem x_ixLo (h : H a = some (.lst xs)) (h0 : 0 ≤ i) (h1 : i < (xs.length : Int)) (q : ∀ v, xs[i.toNat]? = some v → v ∈ xs → Q v H) : rIxL K (.ref a) (.int i) H Q := by
  obtain ⟨c, e, e2, m⟩ := at_lt h0 h1
  exact x_ixL h e (q c e2 m)
end
theorem snoc_of {α : Type} {l : List α} (h : 0 < l.length) : ∃ m c, l = m ++ [c] := by
  rcases List.eq_nil_or_concat l with e | ⟨m, c, e⟩
  · rw [e] at h; simp at h
  · exact ⟨m, c, by rw [e, List.concat_eq_append]⟩
end NF

/-! Own exceptions: a class over ValueError whose __init__ says super().__init__('..') and keeps its arguments. -/
namespace NF
open PySem PySem.Spec PyProof.Rows PySem.W PySem.Calls L2

/-- what the written part says of an own exception class at C, its __init__ at f, one field fld -/
structure XCls (P : Program) (K : Frag) (mg : Str → Option Value) (C : Addr) : Prop where
  oex : OexC K C
  ini : excInitIn K C PySem.HandSPX.veTail "ValueError.__new__" = true
  sub : subIn K (.ref C) (.type "ValueError") = some true
  opq : nsIn K cStatics "thirdparty.any" = some none
  sup : mg "super" = none
  htop : (P.main.scope.names.lookup ("super" : Str)).isSome = false

def spX (K : Frag) (C : Addr) (fld : Str) : Sp := fun vs H Q _ => ∃ e v, vs = [.ref e, v] ∧ H e = some (exo e C none) ∧
  ∀ dx, H dx = none → dx ≠ e → Q .non (upd (upd H dx (exd dx [(fld, v)])) e (exo e C (some dx)))

section
variable {prog : Program} {w : World} {A : Around} {E : Value → Shared → Prop} {K : Frag} {h : Heap} {g : Array GenState} {d : Drawn} {t : Nat} {os : OsState}
/-- super().__init__(..) bound, called -/
theorem call_mwVE {C x u t0 : Addr} {rest : List Value} {Q : Value → Shared → Prop} (X : K.In h) (q : excInitIn K C PySem.HandSPX.veTail "ValueError.__new__" = true) (hu : h.get? u = some (kxs_mw "ValueError.__init__" x))
    (he : h.get? x = some (PySem.HandSPX.excO C t0)) (hz : rest.length ≤ sizeLine)
    (fin : ∀ h' t1, (∀ b o, b ≠ x → h.get? b = some o → h'.get? b = some o) → h'.get? x = some (PySem.HandSPX.excO C t1) → Q .none ⟨h', g, d, t, os⟩) :
    wpAny (model prog w) A (call (.ref u) rest) Q E ⟨h, g, d, t, os⟩ := by
  obtain ⟨nm, N', qn, bs, bm, hdct, sn, sub, ab, col, dd, k0, k1, k2, k3, k5, hC, hT⟩ := excInit_of X q
  refine wpAny_call (codeAny_of_tree ?_)
  show wpAny _ A.in1 (callAny (.ref u) ⟨rest, []⟩) _ _ _
  simp only [callAny]
  refine wpAny_bind (wpAny_load hu ?_)
  simp only [kxs_mw, show (Value.type "method-wrapper" == Value.type "method" || Value.type "method-wrapper" == Value.type "builtin_function_or_method" || Value.type "method-wrapper" == Value.type "method-wrapper") = true by decide, if_true]
  refine KFB.if_so (by decide) ?_
  refine wpAny_bind (check_bound_init PySem.F.excBase_ValueError.toExcCallFacts hC he rfl ?_)
  refine wpAny_bind (wpAny_pure (wpAny_pure ?_))
  refine ⟨plainId_quiet PySem.F.excBase_ValueError.init.plain _, codeAny_builtin PySem.F.excBase_ValueError.initEntry ?_⟩
  exact exc_init_tree (cls := .ref C) (t0 := t0) (dv := none) (c2 := .none) (c3 := .none) (b4 := .bool false) he hz fun h' k e' _ => fin h' _ k e'
end

theorem fn_sup {CX : CXT} {P : Program} {w : World} {K : Frag} {mg : Str → Option Value} {base : Heap} {k : Nat} {C D f cc cda : Addr} {cdD : ClassData} {name qual fld txt : Str} {j : Nat} {params : Arguments} {scope : Scope} {dV kV doc pm ct oc ccl cl : Value} {an od cdd cld : Option Addr}
    {osl ccs csl : Array (Option Value)} {vs : Array Value} {file : Str} {tf : Tok} {ar : Arg} {p0 p1 p2 p3 p4 p5 q0 q1 q2 q3 : Pos} (T : XCls P K mg C)
    (lk : K.lookup f = some ⟨oc, od, .func (ksFn name qual params [.Expr (.Call (.Attribute (.Call (.Name "super" p0) [] [] p1) "__init__" p2) [.Constant (.str txt) j p3] [] p4) p5, .Assign [.Attribute (.Name "self" q0) fld q1] (.Name fld q2) q3] scope dV kV doc pm an (.ref cda) ct cc), osl⟩)
    (hcd : codeIn K (.ref cda) qual = true) (hcode : K.lookup cda = some ⟨ccl, cdd, .fields vs, ccs⟩) (hvs : vs[2]? = some (.str file tf)) (hfile : ((P.main.file : Str) == file) = true)
    (hcell : K.lookup cc = some ⟨cl, cld, .cell (some (.ref D)), csl⟩) (hD : clsIn K D = some cdD) (hp : (params.posonlyargs ++ params.args).head? = some ar) (har : ar.arg = "self")
    (hmro : mroIn K C (.ref D) = some true) (hsi : ks_superIn K C D "__init__" = some (some (.builtin "ValueError.__init__"))) (hno : findIn K (.ref C) fld = some none)
    (hns : ("self" : Str) ≠ fld) (hdb : (fld == ("__debug__" : Str)) = false)
    (s1 : scope.names.lookup ("self" : Str) = some .local) (s2 : scope.names.lookup fld = some .local) (s3 : scope.names.lookup ("super" : Str) = some .globalImplicit) (s4 : scope.names.lookup ("__class__" : Str) = some .free)
    (hnc : ∀ x ∈ scope.names, x.2 ≠ .cell) (hco : scope.isCoroutine = false) (hgen : scope.isGenerator = false) (hk : scope.kind = .function) (pl : Env → Sem Bool)
    (hme : ∀ env : Env, eval (.Call (.Attribute (.Call (.Name "super" p0) [] [] p1) "__init__" p2) [.Constant (.str txt) j p3] [] p4) env = (do
      let ov ← attributeBase (.Call (.Name "super" p0) [] [] p1) "__init__" env (eval (.Call (.Name "super" p0) [] [] p1) env)
      standAt p2.atName
      let (f, first) ← holding [ov] (getMethod ov "__init__" (pl env))
      callWith p4 f first (backTo p4 (starEach [.Constant (.str txt) j p3] env)) [])) :
    FnOk P w K mg base CX (k + 1) f (ksFn name qual params [.Expr (.Call (.Attribute (.Call (.Name "super" p0) [] [] p1) "__init__" p2) [.Constant (.str txt) j p3] [] p4) p5, .Assign [.Attribute (.Name "self" q0) fld q1] (.Name fld q2) q3] scope dV kV doc pm an (.ref cda) ct cc)
      ["self", fld] (spX K C fld) := by
  refine ⟨fun vs H Q E ⟨e, v, hv, _⟩ => by rw [hv]; rfl, fun A outer s H args us vs Q E hr e0 hb r hsp => ?_⟩
  obtain ⟨x, v, rfl, hx, hq⟩ := hsp
  obtain ⟨u0, us1, rfl, r1, r⟩ : ∃ u0 us1, us = u0 :: us1 ∧ RelV (.ref x) u0 ∧ Vals [v] us1 := by cases r with | cons a b => exact ⟨_, _, rfl, a, b⟩
  obtain ⟨u, us2, rfl, ru, r⟩ : ∃ u us2, us1 = u :: us2 ∧ RelV v u ∧ Vals [] us2 := by cases r with | cons a b => exact ⟨_, _, rfl, a, b⟩
  cases r
  obtain rfl : u0 = Value.ref x := r1
  have KX : K.In s.heap := e0.mod.kin.keeps fun b o e => (e0.bs b o e).1
  have lim : s.heap.NoLimit := e0.mod.nolimit.keeps fun b o e => (e0.bs b o e).1
  refine ks_codeAny_call_defAt hr.depth (KX _ _ lk) rfl lim (codeRec_of KX hcd) rfl hb hnc (fun y hy => ?_) (fun h1 hns1 hk1 => ?_) hco hgen hk
  · have hy' : y = (("self" : Str), Value.ref x) ∨ y = (fld, u) := by simpa using hy
    rcases hy' with rfl | rfl
    · exact s1
    · exact s2
  obtain ⟨t0, hx0⟩ := exo_at e0.hok hx
  have hx1 := hk1 _ _ hx0
  obtain ⟨hp0, g, d, tk, os⟩ := s
  have X1 : K.In h1 := KX.keeps hk1
  have bk1 : ∀ b o, base.get? b = some o → h1.get? b = some o := fun b o e => hk1 b o (e0.bs b o e).1
  have mself : ((((["self", fld] : List Str).zip [Value.ref x, u]).reverse).lookup ("self" : Str)) = some (Value.ref x) := by
    have : (("self" : Str) == fld) = false := by simpa using hns
    simp [List.lookup, this]
  have mfld : ((((["self", fld] : List Str).zip [Value.ref x, u]).reverse).lookup fld) = some u := by
    simp [List.lookup]
  refine ks_wpAt_execs_cons (ks_wpAt_Expr_any (ks_wpAt_MethodCall (pl := pl _) ?body (hme _)) ?hi ?hsw)
  case hi =>
    unfold interactive
    show (scope.kind == ScopeKind.module && _) = false
    rw [hk]
    rfl
  case hsw => rfl
  refine ks_wpAt_super_base s3 s4 (by decide) rfl (X1 _ _ lk) rfl hp rfl (X1 _ _ hcode) rfl hvs hfile T.htop ?_
  obtain ⟨mb, hb1, hb2⟩ := e0.mod.blt
  refine ks_loadName_global hk s3 (loadGlobal_builtin (e0.mod.glob.keeps bk1) T.sup (hb1.keeps bk1) ((hb2 _ (by decide)).trans (by first | boot_by_name | rfl | kernel_rfl)) ⟨rfl, ?_⟩)
  refine wpAny_loadName_free hk s4 rfl ⟨_, X1 _ _ hcell, rfl⟩ ?_
  rw [har]
  refine wpAny_loadName_local hk s1 hns1 mself ?_
  obtain ⟨oD, hD1, hD2⟩ : ∃ oD, h1.get? D = some oD ∧ oD.data = .cls cdD := by
    unfold clsIn at hD
    split at hD
    · rename_i c d cd' sl ho
      cases hD
      exact ⟨_, X1 _ _ ho, rfl⟩
    · cases hD
  refine ks_wpAny_isType_cls hD1 hD2 ⟨rfl, ?_⟩
  refine ks_wpAny_call_super hD1 hD2 hx1 rfl (fun c e => by cases e) (looks_mroIn X1 hmro) (fun h2 e2 k2 => ?_)
  have X2 : K.In h2 := X1.keeps k2
  have hx2 := k2 _ _ hx1
  have I2 : InstAt h2 x (PySem.HandSPX.excO C t0) C none := ⟨hx2, rfl, rfl, trivial⟩
  cases hc : clsIn K C with
  | none => unfold ks_superIn at hsi; rw [hc] at hsi; cases hsi
  | some cd =>
    unfold ks_superIn at hsi
    rw [hc] at hsi
    refine kxs_getMethod kxs_ValueError e2 (looks_opaque X2 T.opq) (l₀ := cd.mro) ?_ rfl X2 hsi (I2.type.andThen (looks_subIn X2 T.sub)) (ks_ne X2 I2 hc) (by decide) ?_
    · exact fun A Q E s k q => wpAny_bind ((looks_clsIn X2 hc) A _ E s k (wpAny_pure q))
    refine kxs_callWith (i := "ValueError.__init__") (x := x) rfl ?_
    refine evalArgs_plain ?_
    show wpAny _ _ (spliced ((false, eval (.Constant (.str txt) j p3) _) :: backTo p4 (starEach [] _))) _ _ _
    refine spliced_cons (Constant_str (spliced_nil ?_))
    have k3 : ∀ b o, h2.get? b = some o → (h2.push (kxs_mw "ValueError.__init__" x)).get? b = some o := fun b o e => Heap.get?_push_of_some _ e
    have hu3 : (h2.push (kxs_mw "ValueError.__init__" x)).get? h2.objs.size = some (kxs_mw "ValueError.__init__" x) := Heap.get?_push_at rfl rfl
    refine ⟨hu3, ?_⟩
    refine call_mwVE (X2.keeps k3) T.ini hu3 (k3 _ _ hx2) (by size_fits) fun h4 t1 k4 hx4 => ?_
    have k14 : ∀ b o, b ≠ x → h1.get? b = some o → h4.get? b = some o := fun b o hb e => k4 b o hb (k3 _ _ (k2 _ _ e))
    have hn : H hp0.objs.size = none := e0.hok.fresh (Nat.le_refl _)
    have hxL : hp0.objs.size ≠ x := fun z => by rw [z, hx] at hn; cases hn
    have X4 : K.In h4 := e0.mod.kin.keeps fun b o e => k14 b o (fun z => by
      have q := (e0.bs b o e).2
      rw [z, hx] at q
      cases q) (bk1 b o e)
    have hns4 : h4.Ns hp0.objs.size (fun y => List.lookup y (([("self" : Str), fld].zip [Value.ref x, u]).reverse)) := hns1.at fun o e => k14 _ _ hxL e
    show _root_.PySem.wpAt _ _ _ (execs [.Assign [.Attribute (.Name "self" q0) fld q1] (.Name fld q2) q3] _) _ _ _
    refine wpAt_of_wpAny (wpAny_execs_cons ?_)
    refine plainObj_wpAny_Assign_Attribute ?_ rfl
    refine wpAny_Name (wpAny_loadName_local hk s2 hns4 mfld ?_) hdb
    refine wpAny_Name (wpAny_loadName_local hk s1 hns4 mself ?_) (by decide)
    obtain ⟨nm, q, N, bs, bm, sn, sub, ab, col, dd, kk0, kk1, kk2, kk3, kk5, hC, hbm⟩ := T.oex.cls
    have hcl : clsIn K C = some { name := nm, bases := bs, mro := .ref C :: bm, ns := N, qualname := q, hasDict := true, slotNames := sn, subclasses := sub, abstract := ab, collection := col, hasDel := false } := by unfold clsIn; rw [hC] <;> rfl
    refine set_plain X4 (ox := PySem.HandSPX.excO C t1) (od := none) ⟨hx4, rfl, rfl, trivial⟩ T.oex.sa ?_
    refine PySem.HandSPX.exc_osa X4 hx4 hcl (show PySem.HandSPX.refsVE (.ref C :: bm) = true from hbm) rfl hno (fun h5 tk5 dx k5 dn dne hx5 hn5 => ?_)
    refine wpAny_execs_nil ?_
    have k05 : ∀ b o, b ≠ x → hp0.get? b = some o → h5.get? b = some o := fun b o hb e => k5 b o hb (k14 b o hb (hk1 b o e))
    have sz : hp0.objs.size ≤ dx := Nat.le_trans (Nat.le_of_lt hns4.lt) dn
    have hnd : H dx = none := e0.hok.fresh sz
    have nd : ∀ {b : Addr} {o : Obj}, hp0.get? b = some o → b ≠ dx := fun {b o} q => Nat.ne_of_lt (Nat.lt_of_lt_of_le (Heap.lt_size q) sz)
    have na : ∀ {b : Addr}, H b = none → b ≠ x := fun {b} n z => by
      rw [z, hx] at n
      cases n
    have Un1 : Un (frs outer) [] H (upd (upd H dx (exd dx [(fld, v)])) x (exo x C (some dx))) hp0 h5 := {
      keep := fun b o q n _ _ => k05 b o (na n) q
      slot := fun b o q n _ _ => ⟨o.slots, k05 b o (na n) q⟩
      free := fun b o q n _ => by rw [upd_ne (na n), upd_ne (nd q)]; exact n
      there := fun b o q _ => by
        by_cases hb : b = x
        · exact ⟨_, by rw [hb]; exact hx5⟩
        · exact ⟨o, k05 b o hb q⟩
      tups := fun b xs q => by rw [upd_ne (at_ne hx q exo_tup), upd_ne (ne_of_none q hnd)]; exact q
      frzs := fun b o v q => by rw [upd_ne (at_ne hx q exo_frz), upd_ne (ne_of_none q hnd)]; exact q
      tbls := fun b ps q => ⟨#[], by rw [upd_ne (at_ne hx q exo_tbl), upd_ne (ne_of_none q hnd), q]; simp⟩ }
    refine ⟨.non, _, rfl, e0.bare, Un1, fun b o q => ?_, rfl, hq dx hnd dne⟩
    by_cases hb : b = x
    · subst hb
      rw [upd_same] at q
      cases q
      exact exo_ok hx5
    · rw [upd_ne hb] at q
      by_cases hd : b = dx
      · subst hd
        rw [upd_same] at q
        cases q
        exact exd_ok hn5 (relO_put (fs := []) ru fun g => True.intro)
      · rw [upd_ne hd] at q
        exact (e0.hok b o q).stay (fun c v hc z => k05 c v (by
            rcases hc with hc | hc
            · rw [hc]
              exact hb
            · exact at_ne hx hc exo_own) z)
          (fun c hc => by rw [upd_ne (at_ne hx hc exo_own), upd_ne (ne_of_none hc hnd)]; exact hc) (fun c xs hc => by rw [upd_ne (at_ne hx hc exo_tup), upd_ne (ne_of_none hc hnd)]; exact hc)
end NF

/-! Own exceptions, second part: classes by name, raising, defs that may raise, isinstance and fields in a suite. -/
namespace NF
open PySem PySem.Spec PyProof.Rows PySem.W PySem.Calls L2

/-- the class that the module's name x stands for -/
def cad (mg : Str → Option Value) (x : Str) : Addr := match mg x with
  | some (.ref a) => a
  | _ => 0
theorem cad_eq {mg : Str → Option Value} {x : Str} {a : Addr} (h : mg x = some (.ref a)) : cad mg x = a := by
  unfold cad
  rw [h]

/-- an exception class: what a clause that names it and isinstance want of it -/
structure XNam (K : Frag) (mg : Str → Option Value) (x : Str) : Prop where
  hm : mg x = some (.ref (cad mg x))
  exC : subIn K (.ref (cad mg x)) (.type "BaseException") = some true
  hd : hasDictIn K (cad mg x) = true
  ty : typeIn K (.ref (cad mg x)) = some (.type "type")

/-- .. whose instances are made and looked at -/
structure XFact (P : Program) (K : Frag) (mg : Str → Option Value) (x fld : Str) : Prop where
  nam : XNam K mg x
  cls : XCls P K mg (cad mg x)
  exc : ExcC K (cad mg x)
  nof : findIn K (.ref (cad mg x)) fld = some none
  ini : ∃ fI fd, findIn K (.ref (cad mg x)) "__init__" = some (some (.ref fI)) ∧ typeIn K (.ref fI) = some (.type "function") ∧ Binds K fd ["self", fld] [] ∧
    ∀ (w : World) (base : Heap) (CX : CXT), FnOk P w K mg base CX 1 fI fd ["self", fld] (spX K (cad mg x) fld)

/-! ### X(e) -/
def tMkX (C : Addr) (fld : Str) (te : TE) : L2.St → Hp → XK → Prop := fun σ H Q => te σ H fun v H1 => ∀ d, H1 d = none → Q (.ref C) (some d) (upd H1 d (.xd [(fld, v)]))

theorem pmk_x {X : Cx} {x fld : Str} {e : Expr} {te : TE} {p pos : Pos} (T : XFact X.prog X.K X.mg x fld) (hr : Room 2 X.A) (hg : Gl X x) (ha : PE X e te)
    (hdb : (x == ("__debug__" : Str)) = false := by decide) (he : starEach [e] X.env = (false, eval e X.env) :: starEach [] X.env := by rfl) :
    L2N.PMk X (.Call (.Name x p) [e] [] pos) (tMkX (cad X.mg x) fld te) := by
  intro pins s σ H Q I h
  obtain ⟨fI, fd, iC, tI, hb, F1⟩ := T.ini
  have F1 := F1 X.w X.base CX0
  obtain ⟨nm, q, N, bs, bm, sn, sub, ab, col, dd, k0, k1, k2, k3, k5, hC, hbm⟩ := T.cls.oex.cls
  refine wpAny_Call_Name_kw (ld_glob I hg T.nam.hm ?_ hdb)
  refine PySem.W.callWith_K (h₀ := X.base) I.ok.mod.kin T.cls.oex.kC ?_ he rfl
  rw [he]
  refine spliced_cons (thn (ha.run pins s σ H _ I h) fun u s1 ⟨v, H1, I1, r1, q1⟩ => spliced_nil ⟨I1.kIn, ?_⟩)
  show wpAny _ _ (call (.ref (cad X.mg x)) [u]) _ _ _
  obtain ⟨hp, g, dr, tk, os⟩ := s1
  have hsz : hp.objs.size ≤ hp.objs.size + 1 := Nat.le_succ _
  have hn : H1 (hp.objs.size + 1) = none := I1.hok.fresh hsz
  have kk : ∀ b o, hp.get? b = some o → ((hp.push (PySem.W.kdv_tup [u])).push (PySem.HandSPX.excO (cad X.mg x) hp.objs.size)).get? b = some o := fun b o e => Heap.get?_push_of_some _ (Heap.get?_push_of_some _ e)
  have hget : ((hp.push (PySem.W.kdv_tup [u])).push (PySem.HandSPX.excO (cad X.mg x) hp.objs.size)).get? (hp.objs.size + 1) = some (PySem.HandSPX.excO (cad X.mg x) hp.objs.size) := by heap_get
  have I2 : Inv X pins σ (upd H1 (hp.objs.size + 1) (exo (hp.objs.size + 1) (cad X.mg x) none)) ⟨(hp.push (PySem.W.kdv_tup [u])).push (PySem.HandSPX.excO (cad X.mg x) hp.objs.size), g, dr, tk, os⟩ :=
    I1.laid (t' := tk) (a := hp.objs.size + 1) (o := exo (hp.objs.size + 1) (cad X.mg x) none) (h' := (hp.push (PySem.W.kdv_tup [u])).push (PySem.HandSPX.excO (cad X.mg x) hp.objs.size)) kk hsz (exo_ok hget)
  have r2 : Vals [V.ref (hp.objs.size + 1), v] [Value.ref (hp.objs.size + 1), u] := .cons rfl (.cons r1 .nil)
  have b2 := hb _ [Value.ref (hp.objs.size + 1), u] I2.kIn rfl
  refine wpAny_call (PySem.HandSPX.call_own PySem.F.excBase_ValueError (fun Y => PySem.HandSPX.refsVE_contains Y bm hbm) (I1.kIn _ _ hC) (PySem.W.looks_findIn I1.kIn iC) (fun self => PySem.W.bind_fn I1.kIn self tI) (by size_fits)
    (codeAny_mono (F1.run _ X.stack _ _ ⟨[Value.ref (hp.objs.size + 1), u], []⟩ [Value.ref (hp.objs.size + 1), u] _
      (fun v2 H2 => v2 = .non ∧ ∃ dx, H1 dx = none ∧ dx ≠ hp.objs.size + 1 ∧ H2 = upd (upd (upd H1 (hp.objs.size + 1) (exo (hp.objs.size + 1) (cad X.mg x) none)) dx (exd dx [(fld, v)])) (hp.objs.size + 1) (exo (hp.objs.size + 1) (cad X.mg x) (some dx)))
      (fun _ _ _ => False) (hr.make (cad X.mg x) [u] []) (I2.env0.make (cad X.mg x) [u] []) b2 r2 ⟨_, v, rfl, upd_same, fun dx h1 h2 => ⟨rfl, dx, by rw [upd_ne h2] at h1; exact h1, h2, rfl⟩⟩) fun r s' hq' => ?_))
  cases r with
  | error er => exact hq'.elim
  | ok fl =>
    cases fl with
    | ret u =>
      obtain ⟨v2, H2, os2, bare2, un2, hok2, rv, ev, dx, hd1, hne, eH⟩ := hq'
      subst ev
      obtain ⟨h2, g2, d2, t2, os'⟩ := s'
      have ea : H2 (hp.objs.size + 1) = some (exo (hp.objs.size + 1) (cad X.mg x) (some dx)) := by rw [eH, upd_same]
      have ed : H2 dx = some (exd dx [(fld, v)]) := by rw [eH, upd_ne hne, upd_same]
      obtain ⟨t0, G, J, kG, ge, hoe, na⟩ := mk_end0 (d2 := d2) (t2 := t2) I1 hsz kk un2 hok2 os2 bare2 ea ed hd1
      have eF : upd (del H2 (hp.objs.size + 1)) dx (.xd [(fld, v)]) = upd H1 dx (.xd [(fld, v)]) := by
        funext b
        by_cases hb : b = dx
        · rw [hb, upd_same, upd_same]
        · rw [upd_ne hb, upd_ne hb]
          by_cases ha : b = hp.objs.size + 1
          · rw [ha, del_same, hn]
          · rw [del_ne ha, eH, upd_ne ha, upd_ne hb, upd_ne ha]
      rw [eF] at J na
      refine ⟨rv, ⟨hp.objs.size + 1, _, _, ⟨G, g2, d2, t2, os'⟩, _, .ref (cad X.mg x), some dx, rfl, J, kG, ge, hoe, ⟨rfl, rfl, fun vs hv => ?_⟩, rfl, rfl, na, rfl, bare2, raises_own T.cls.oex.exC T.cls.oex.tyC, q1 dx hd1⟩⟩
      cases hv
      rfl
    | next => exact False.elim hq'
    | brk => exact False.elim hq'
    | cont => exact False.elim hq'

/-! ### defs that may raise, with defaults -/
structure DefX (P : Program) (w : World) (K : PySem.W.Frag) (mg : Str → Option Value) (base : Heap) (k : Nat) (x : Str) (ps : List Str) (dvs : List V) (sp : Sp) : Prop where
  ex : ∃ f fd ds, FnOk P w K mg base (L2N.CX P w) k f fd ps sp ∧ mg x = some (.ref f) ∧ PySem.W.keepIn K (.ref f) = true ∧ Binds K fd ps ds ∧ Vals dvs ds
/-- a def with defaults as the top leaves it; the last ones always lack -/
def FnD (K : PySem.W.Frag) (mg : Str → Option Value) (x : Str) (st : Stmt) (dvs : List V) : Prop := ∃ f fd, FunD K x x (defArgs st) (defBody st) (defScope st) dvs [] f fd ∧ mg x = some (.ref f)
section
variable {P : Program} {w : World} {K : PySem.W.Frag} {mg : Str → Option Value} {base : Heap}
theorem DefX.mk0 {x : Str} {st : Stmt} {N ps : List Str} {k : Nat} {sp : Sp} (F : Fn0 K mg x st) (S : FnScope N ps (defScope st)) (len : ∀ vs H Q E, sp vs H Q E → vs.length = ps.length)
    (hbind : ∀ (kV doc pm : Value) (an : Option Addr) (cdv ct : Value) (us : List Value), us.length = ps.length → bindArgs (PySem.W.fnOf x x (defArgs st) (defBody st) (defScope st) .none kV doc pm an cdv ct) ⟨us, []⟩ = pure (ps.zip us))
    (hbody : ∀ {f : Addr} (cdv : Value) (A : Around) (outer : List Env) (s : Shared) (H : Hp) (vs : List V) (Q : VK) (E : XK), Room k (A.deeper (envOfC x (defScope st) s.heap.objs.size f cdv)) → sp vs H Q E →
      L2N.Takes (cxOf (L2N.CX P w) P w K mg base N x (defScope st) f cdv A outer s H E) (fun cls d _ H' => E cls d H') → PassesOwn (model P w) (A.deeper (envOfC x (defScope st) s.heap.objs.size f cdv)) (envOfC x (defScope st) s.heap.objs.size f cdv) (cxOf (L2N.CX P w) P w K mg base N x (defScope st) f cdv A outer s H E).xe →
      ∃ t, PSs (cxOf (L2N.CX P w) P w K mg base N x (defScope st) f cdv A outer s H E) (defBody st) t ∧ t { nx := fun _ H' => Q .non H', rt := Q } (start N vs) H) : DefX P w K mg base (k + 1) x ps [] sp := by
  obtain ⟨f, fd, F, hm⟩ := F
  obtain ⟨oc, od, kV, doc, pm, an, cdv, ct, osl, rfl, lk, hcd⟩ := F.ex
  exact ⟨f, _, [], fn_of lk hcd S len fun A outer s H vs Q E hr hsp => hbody cdv A outer s H vs Q E hr hsp (L2N.takes_of rfl rfl rfl rfl) (passes_of rfl), hm, F.kp, F.binds hbind, .nil⟩
theorem DefX.mkD {x : Str} {st : Stmt} {N ps : List Str} {k : Nat} {dvs : List V} {sp : Sp} (F : FnD K mg x st dvs) (hd : dvs ≠ []) (n : Nat) (hn : n + dvs.length = ps.length) (S : FnScope N ps (defScope st)) (len : ∀ vs H Q E, sp vs H Q E → vs.length = ps.length)
    (hbind : ∀ (T : Addr) (kV doc pm : Value) (an : Option Addr) (cdv ct : Value) (us its : List Value), us.length = n → its.length = dvs.length →
      ∃ k, bindArgs (PySem.W.fnOf x x (defArgs st) (defBody st) (defScope st) (.ref T) kV doc pm an cdv ct) ⟨us, []⟩ = seqItems? (.ref T) >>= k ∧ k (some its.toArray) = pure (ps.zip (us ++ its)))
    (hbody : ∀ {f : Addr} (cdv : Value) (A : Around) (outer : List Env) (s : Shared) (H : Hp) (vs : List V) (Q : VK) (E : XK), Room k (A.deeper (envOfC x (defScope st) s.heap.objs.size f cdv)) → sp vs H Q E →
      L2N.Takes (cxOf (L2N.CX P w) P w K mg base N x (defScope st) f cdv A outer s H E) (fun cls d _ H' => E cls d H') → PassesOwn (model P w) (A.deeper (envOfC x (defScope st) s.heap.objs.size f cdv)) (envOfC x (defScope st) s.heap.objs.size f cdv) (cxOf (L2N.CX P w) P w K mg base N x (defScope st) f cdv A outer s H E).xe →
      ∃ t, PSs (cxOf (L2N.CX P w) P w K mg base N x (defScope st) f cdv A outer s H E) (defBody st) t ∧ t { nx := fun _ H' => Q .non H', rt := Q } (start N vs) H) : DefX P w K mg base (k + 1) x ps dvs sp := by
  obtain ⟨f, fd, F, hm⟩ := F
  obtain ⟨ds, hv, hb⟩ := F.binds1 (ps := ps) n 0 hd hn hbind
  obtain ⟨oc, od, dV, kV, doc, pm, an, cdv, ct, osl, rfl, lk, hcd, hD, hK⟩ := F.ex
  exact ⟨f, _, ds, fn_of lk hcd S len fun A outer s H vs Q E hr hsp => hbody cdv A outer s H vs Q E hr hsp (L2N.takes_of rfl rfl rfl rfl) (passes_of rfl), hm, F.kp, hb, hv⟩
end
section
variable {X : Cx} {k : Nat} {x : Str} {ps : List Str} {dvs : List V} {sp : Sp} {p pos : Pos} {e : Expr} {es : List Expr} {t : TA} {W : WX}
/-- f(e, ..) of a def that may raise -/
def tCallX (sp : Sp) (dvs : List V) (W : WX) (t : TA) : TE := fun σ H Q => t σ H fun vs H1 => sp (vs ++ dvs) H1 Q (fun cls d H2 => W cls d σ H2)
theorem pe_dx (D : DefX X.prog X.w X.K X.mg X.base k x ps dvs sp) (hr : Room k X.A) (tk : L2N.Takes X W) (hg : Gl X x) (ha : PA X (e :: es) t) (hdb : (x == ("__debug__" : Str)) = false := by decide)
    (he : starEach (e :: es) X.env = (false, eval e X.env) :: starEach es X.env := by rfl) (hpl : (backTo pos (starEach es X.env)).any (·.1) = false := by rfl) : PE X (.Call (.Name x p) (e :: es) [] pos) (tCallX sp dvs W t) := by
  obtain ⟨f, fd, ds, F, hm, hk, hb, hv⟩ := D.ex
  refine ⟨fun pins s σ H Q I h => ?_⟩
  refine wpAny_Call_Name_kw (ld_glob I hg hm ?_ hdb)
  refine PySem.W.callWith_K (h₀ := X.base) I.ok.mod.kin hk (thn (ha.run pos pins s σ H _ I h) fun us s1 ⟨vs, H1, I1, r, q⟩ => ⟨I1.kIn, ?_⟩) he hpl
  show wpAny _ _ (call (.ref f) us) _ _ _
  have r2 : Vals (vs ++ dvs) (us ++ ds) := r.append hv
  have hl : (us ++ ds).length = ps.length := by rw [← r2.length]; exact F.len _ _ _ _ q
  refine wpAny_call (codeAny_mono (F.run X.A X.stack s1 H1 ⟨us, []⟩ (us ++ ds) (vs ++ dvs) Q _ hr I1.env0 (hb s1 us I1.kIn hl) r2 q) fun r s' hq => ?_)
  cases r with
  | error er => exact L2N.passAt tk σ pins H1 s1 er s' I1 hq
  | ok fl =>
    cases fl with
    | ret u => exact I1.after hq
    | next => exact False.elim hq
    | brk => exact False.elim hq
    | cont => exact False.elim hq
theorem pe_clsn {mg : Str → Option Value} (h : mg x = some (.ref (cad mg x))) (hX : X.mg = mg) (hg : Gl X x) (hdb : (x == ("__debug__" : Str)) = false := by decide) : PE X (.Name x pos) (tC (.ref (cad mg x))) := by
  subst hX
  exact pe_glob hg h rfl hdb
end
theorem takesN0 {X : Cx} : L2N.Takes X (fun _ _ _ _ => False) := fun _ _ ⟨_, _, _, _, _, _, _, _, _, _, _, _, _, _, _, _, w⟩ => w.elim

/-! ### promises of defs that may raise -/
/-- the exception: its class, its fields -/
abbrev ExS := List V → Str → List (Str × V) → Prop
/-- plain values in; a plain value out, or an exception -/
def spPX (mg : Str → Option Value) (n : Nat) (pre : List V → Prop) (post : List V → V → Prop) (exc : ExS) : Sp := fun vs H Q E => vs.length = n ∧ pre vs ∧ (∀ v H', Own H H' [] [] → post vs v → Q v H') ∧
  ∀ x fs d H', Own H H' [] [] → exc vs x fs → H d = none → H' d = some (.xd fs) → E (.ref (cad mg x)) (some d) H'
theorem hl_spPX {mg : Str → Option Value} {n : Nat} {pre : List V → Prop} {post : List V → V → Prop} {exc : ExS} : ∀ vs H Q E, spPX mg n pre post exc vs H Q E → vs.length = n := fun vs H Q E h => h.1
section
variable {mg : Str → Option Value} {B H : Hp} {M R : List (Addr × HO)} {Q : VK} {E : XK} {n : Nat} {pre : List V → Prop} {vs : List V} {exc : ExS}
theorem use_spPX {post : List V → V → Prop} (O : Own B H M R) (hl : vs.length = n) (hp : pre vs) (q : ∀ v H', Own B H' M R → post vs v → Q v H')
    (e : ∀ x fs d H', Own B H' M R → exc vs x fs → B d = none → H' d = some (.xd fs) → E (.ref (cad mg x)) (some d) H') : spPX mg n pre post exc vs H Q E :=
  ⟨hl, hp, fun v H' O' h => q v H' (O.call0 O') h, fun x fs d H' O' h h1 h2 => e x fs d H' (O.call0 O') h (O.base_free h1) h2⟩
/-- X(e) in a def's own reading -/
theorem x_raise {C : Addr} {v : V} {fld : Str} {d : Addr} (O : Own B H M R) (h : H d = none) : Own B (upd H d (.xd [(fld, v)])) M R ∧ B d = none := by
  exact ⟨O.ignore h, O.base_free h⟩
end
end NF

/-! try with several clauses, each with or without a name. -/
namespace NF
open PySem PySem.Spec PyProof.Rows L2

/-- a clause: the class it names, the slot of its name, its suite's reading -/
structure Cls3 where
  c : Value
  i : Option Nat
  ts : Addr → Value → Option Addr → TS

/-- the ends of a suite whose clause may have a name -/
def endsOf : Option Nat → Ends → Ends
  | none, D => D
  | some i, D => { nx := fun σ' H' => D.nx (σ'.set i none) H', rt := D.rt, bk := fun σ' H' => D.bk (σ'.set i none) H', ct := fun σ' H' => D.ct (σ'.set i none) H' }
def startOf (a : Addr) : Option Nat → L2.St → L2.St
  | none, σ => σ
  | some i, σ => σ.set i (some (.ref a))
def wAll (K : PySem.W.Frag) (Wout : WX) (D : Ends) : List Cls3 → WX
  | [] => Wout
  | k :: r => fun cls d σ H => ∃ b, PySem.W.exmOne K cls k.c = some b ∧ (b = true → ∀ a, H a = none → k.ts a cls d (endsOf k.i D) (startOf a k.i σ) H) ∧ (b = false → wAll K Wout D r cls d σ H)

/-- a clause's suite -/
def SuOk (X : Cx) (suite : List Stmt) (ts : Addr → Value → Option Addr → TS) : Prop :=
  ∀ (a : Addr) (oe : Obj) (cls : Value) (d : Option Addr) (pn : List (Addr × Obj)), L2N.Zn cls d oe → (∃ vs, oe.data = .fields vs) → PSs (X.suite a ((a, oe) :: pn)) suite (ts a cls d)
inductive HdA (X : Cx) : List ExceptHandler → List Cls3 → Prop
  | nil : HdA X [] []
  | plain {x : Str} {c : Value} {ts : Addr → Value → Option Addr → TS} {b₀ : Stmt} {su : List Stmt} {np pos' : Pos} {hds : List ExceptHandler} {l : List Cls3} (hc : Names X x c) (hsu : SuOk X (b₀ :: su) ts) (r : HdA X hds l) :
      HdA X (.ExceptHandler (some (.Name x np)) none (b₀ :: su) pos' :: hds) (⟨c, none, ts⟩ :: l)
  | named {x n : Str} {c : Value} {i : Nat} {ts : Addr → Value → Option Addr → TS} {b₀ : Stmt} {su : List Stmt} {np pos' : Pos} {hds : List ExceptHandler} {l : List Cls3} (hN : X.N.Nodup) (hi : X.N[i]? = some n) (hln : X.env.kindOf n = some .local)
      (hc : Names X x c) (hsu : SuOk X (b₀ :: su) ts) (r : HdA X hds l) : HdA X (.ExceptHandler (some (.Name x np)) (some n) (b₀ :: su) pos' :: hds) (⟨c, some i, ts⟩ :: l)

section
variable {X : Cx} {body : List Stmt} {h₀ : ExceptHandler} {hds : List ExceptHandler} {l : List Cls3} {pos : Pos} {tb : WX → TS} {Wout : WX}
theorem ps_try_all (hs : X.stack = X.env :: X.outer) (hf : X.env.frame = some X.env.locals) (tk : L2N.Takes X Wout)
    (hb : ∀ (W : WX) (pn : List (Addr × Obj)) (xe : Value → Shared → Prop), L2N.Takes (X.tr pn xe) W → PassesOwn (model X.prog X.w) X.A X.env xe → PSs (X.tr pn xe) body (tb W))
    (hh : HdA X (h₀ :: hds) l) : PS X (.Try body (h₀ :: hds) [] [] pos) (fun D σ H => tb (wAll X.K Wout D l) D σ H) := by
  refine ⟨fun pins s σ H D I h => ?_⟩
  have ok := I.ok
  have hfr : X.A.frames = some (X.env :: X.outer) := by rw [ok.frames, hs]
  refine wpAny_Try_except (wpAny_mono ((hb (wAll X.K Wout D l) (X.pn ++ pins) (fun e s₁ => wpAny (model X.prog X.w) X.A (noteFrame e X.env) (fun _ s₂ => wpAny (model X.prog X.w) X.A (setFlight e none) (fun _ s₃ =>
    wpAny (model X.prog X.w) X.A (handleBy e X.env (h₀ :: hds)) (SP X pins D) X.xe s₃) X.xe s₂) X.xe s₁) (fun u s' xx => ?_) PassesOwn.looking).run [] s σ H D (I.toTry _) h) (fun f s1 hsp => ?_) (fun e s1 he => he))
  · obtain ⟨a, B, sI, pins', σ', H', cls, d, rfl, J', nb, up, sky, na, os, ag, w⟩ := xx
    have J : Inv X pins σ' H' sI := J'.ofTry ok
    have sky' : L2.Sky B (X.env :: X.outer) a (L2N.Zn cls d) X.env.locals s'.heap := by rw [← hs]; exact sky
    show wpAny (model X.prog X.w) X.A (noteFrame (.ref a) X.env) _ _ _
    refine L2N.Sky.land L2N.Zn.steady hfr hf sky' fun h3 fl3 up3 => ?_
    have J3 : Inv X pins σ' H' { s' with heap := h3 } := J.landed nb fl3.1 (up.trans up3) os ag
    obtain ⟨oe3, vs3, he3, hz3, hd3⟩ := fl3.there
    have nfr : a ∉ frs (X.env :: X.outer) := fun hm => by
      obtain ⟨_, o', e', hnf⟩ := fl3.2.2.1.mem hm
      rw [he3] at e'; cases e'
      exact hnf _ hd3
    have nL : a ≠ X.env.locals := fun z => nfr (List.mem_filterMap.mpr ⟨X.env, List.mem_cons_self, by rw [hf, z]⟩)
    have nF : a ∉ X.fs := fun hm => by
      obtain ⟨e, he, q⟩ := List.mem_filterMap.mp hm
      exact nfr (List.mem_filterMap.mpr ⟨e, List.mem_cons_of_mem _ he, q⟩)
    have S3 := J3.suite he3 hd3 na nL nF
    have LT : PySem.W.Looks (model X.prog X.w) h3 (typeOf (.ref a)) cls := fun A Q E s k q => wpAny_typeOf_ref (k _ _ he3) (by rw [hz3.1]; exact q)
    have test : ∀ {x : Str} {c : Value} {np : Pos} {Q : Value → Shared → Prop} {E : Value → Shared → Prop}, Names X x c → Q c { s' with heap := h3 } → wpAny (model X.prog X.w) (X.A.mark (some (.ref a))) (eval (.Name x np) X.env) Q E { s' with heap := h3 } := fun {x c np Q E} hc q => by
      obtain ⟨hg, hdbg, hm | ⟨hm, hv, hnn⟩⟩ := hc
      · exact ld_glob (X := X.suite a ((a, oe3) :: (X.pn ++ pins))) S3 hg hm q hdbg
      · exact ld_blt (X := X.suite a ((a, oe3) :: (X.pn ++ pins))) S3 hg hm hv q hnn hdbg
    have go : ∀ {hds' : List ExceptHandler} {l' : List Cls3}, HdA X hds' l' → wAll X.K Wout D l' cls d σ' H' →
        wpAny (model X.prog X.w) X.A (handleBy (.ref a) X.env hds') (SP X pins D) X.xe { s' with heap := h3 } := by
      intro hds' l' hk
      induction hk with
      | nil =>
        intro w
        refine wpAny_handleBy_nil ?_
        obtain ⟨k1, k2, k3, oe, vs, T, oT, ts', he, hz, hd, h1, hr⟩ := id fl3
        unfold PySem.passOn
        refine wpAny_bind (wpAny_field he hd h1 ?_)
        rw [if_neg (show ¬ ((Value.ref T == Value.none) = true) from by simp)]
        have fin : wpAny (model X.prog X.w) X.A (setFlight (.ref a) X.env.frame) (fun _ s4 => wpAny (model X.prog X.w) X.A (throw (.ref a) : Sem Flow) (SP X pins D) X.xe s4) X.xe { s' with heap := h3 } := by
          rw [hf]
          refine HandSPX.setFlight_upZ fl3 fun h4 hh4 up4 => wpAny_throw (tk _ _ ?_)
          exact ⟨a, B, sI, pins, σ', H', cls, d, rfl, J, nb, (up.trans up3).trans up4, .inr (.inr (by rw [hs]; exact hh4)), na, os, ag, w⟩
        first
          | exact wpAny_bind (wpAny_pure (wpAny_bind fin))
          | exact wpAny_bind fin
      | @plain x c ts b₀ su np pos' hds2 l2 hc hsu r ih =>
        intro w
        obtain ⟨b, hb1, hyes, hno⟩ := w
        refine wpAny_handleBy_cons (codeAny_handlers_test (test hc ((PySem.W.exm_one (M := model X.prog X.w) (J3.kIn) LT hb1).here ?_))) (by intro q; cases q)
        cases b with
        | false => exact ih (hno rfl)
        | true =>
          refine codeAny_handlers_suite (HandSPX.lands_againZ fl3 fun h4 fl4 up4 => ?_)
          have J4 : Inv X pins σ' H' { s' with heap := h4 } := J.landed nb fl4.1 ((up.trans up3).trans up4) os ag
          obtain ⟨oe4, vs4, he4, hz4, hd4⟩ := fl4.there
          refine wpAny_mono ((hsu a oe4 cls d (X.pn ++ pins) hz4 ⟨_, hd4⟩).run [] _ _ H' _ (J4.suite he4 hd4 na nL nF) (hyes rfl a na)) (fun f s6 hsp => ?_) (fun _ _ z => False.elim z)
          cases f with
          | ret u =>
            obtain ⟨v6, σ6, H6, S6, r6, q6⟩ := hsp
            exact ⟨_, _, _, S6.unsuite ok, r6, q6⟩
          | next =>
            obtain ⟨σ6, H6, S6, q6⟩ := hsp
            exact ⟨_, _, S6.unsuite ok, q6⟩
          | brk =>
            obtain ⟨σ6, H6, S6, q6⟩ := hsp
            exact ⟨_, _, S6.unsuite ok, q6⟩
          | cont =>
            obtain ⟨σ6, H6, S6, q6⟩ := hsp
            exact ⟨_, _, S6.unsuite ok, q6⟩
      | @named x n c i ts b₀ su np pos' hds2 l2 hN hi hln hc hsu r ih =>
        intro w
        obtain ⟨b, hb1, hyes, hno⟩ := w
        refine wpAny_handleBy_cons (codeAny_handlers_test (test hc ((PySem.W.exm_one (M := model X.prog X.w) (J3.kIn) LT hb1).here ?_))) (by intro q; cases q)
        cases b with
        | false => exact ih (hno rfl)
        | true =>
          refine codeAny_handlers_suite_as (HandSPX.lands_againZ fl3 fun h4 fl4 up4 => ?_)
          have J4 : Inv X pins σ' H' { s' with heap := h4 } := J.landed nb fl4.1 ((up.trans up3).trans up4) os ag
          obtain ⟨oe4, vs4, he4, hz4, hd4⟩ := fl4.there
          refine store_ok (X := X.suite a ((a, oe4) :: (X.pn ++ pins))) (v := .ref a) (J4.suite he4 hd4 na nL nF) hN hi (.inl hln) rfl (fun s5 S5 => ?_) (.inr hln)
          refine wpAny_mono ((hsu a oe4 cls d (X.pn ++ pins) hz4 ⟨_, hd4⟩).run [] s5 _ H' _ S5 (hyes rfl a na)) (fun f s6 hsp => ?_) (fun _ _ z => False.elim z)
          have end_ : ∀ {σ6 : L2.St} {H6 : Hp} {Q : Shared → Prop}, Inv (X.suite a ((a, oe4) :: (X.pn ++ pins))) [] σ6 H6 s6 → (∀ s7, Inv X pins (σ6.set i none) H6 s7 → Q s7) →
              wpAny (model X.prog X.w) X.A (do bindName X.env n .none; unbindBehindTheSuite X.env n pos') (fun _ s7 => Q s7) X.xe s6 := fun {σ6 H6 Q} S6 hq => gone_ok (S6.unsuite ok) hN hi hln hq
          cases f with
          | ret u =>
            obtain ⟨v6, σ6, H6, S6, r6, q6⟩ := hsp
            exact end_ S6 fun s7 J7 => ⟨_, _, _, J7, r6, q6⟩
          | next =>
            obtain ⟨σ6, H6, S6, q6⟩ := hsp
            exact end_ S6 fun s7 J7 => ⟨_, _, J7, q6⟩
          | brk =>
            obtain ⟨σ6, H6, S6, q6⟩ := hsp
            exact end_ S6 fun s7 J7 => ⟨_, _, J7, q6⟩
          | cont =>
            obtain ⟨σ6, H6, S6, q6⟩ := hsp
            exact end_ S6 fun s7 J7 => ⟨_, _, J7, q6⟩
    exact go hh w
  · cases f with
    | ret u =>
      obtain ⟨v, σ', H', J', r, q⟩ := hsp
      exact ⟨v, σ', H', J'.ofTry ok, r, q⟩
    | next =>
      obtain ⟨σ', H', J', q⟩ := hsp
      exact wpAny_execs_nil ⟨σ', H', J'.ofTry ok, q⟩
    | brk =>
      obtain ⟨σ', H', J', q⟩ := hsp
      exact ⟨σ', H', J'.ofTry ok, q⟩
    | cont =>
      obtain ⟨σ', H', J', q⟩ := hsp
      exact ⟨σ', H', J'.ofTry ok, q⟩
end
end NF

/-! In a suite: isinstance of the caught exception (it has a dict), its fields. -/
namespace PySem.W
open PySem PySem.Spec PySem.Calls PyProof.Rows
section
variable {prog : Program} {w : World} {A : Around} {E : Value → Shared → Prop} {s : Shared} {K : Frag} {x D : Addr} {ox : Obj} {od : Option Obj}
theorem nf_class {Q : Option Value → Shared → Prop} (C : L2.ExcC K D) (X : K.In s.heap) (I : InstAt s.heap x ox D od) (h : Q (some (.ref D)) { s with toks := s.toks + 1 }) : wpAny (model prog w) A (getAttr? (.ref x) "__class__") Q E s := by
  have hf : findObj K D od "__class__" = some (.bind (.builtin "getset_descriptor.__get__") (.builtin "object.__class__")) := findObj_dataE (by obtain ⟨cd, hc, _⟩ := any_some C.hd; rw [hc]; rfl) C.ha C.hn C.ht
  obtain ⟨hp, g, d, t, os⟩ := s
  have L0 := I.type (M := model prog w)
  have L1 := looks_findIn (M := model prog w) X C.hg
  have L2 := looks_findIn (M := model prog w) X C.hk
  have L3 := looks_find (M := model prog w) X I hf
  have sub : Looks (model prog w) hp (isInstance (.ref x) (.type "BaseException")) true := L0.andThen (looks_subIn X C.hs)
  have e2 : (Value.builtin "BaseException.__getattribute__" == Value.builtin "object.__getattribute__") = false := by decide +kernel
  have e1 : (onTheHeap (Value.ref D) && Value.builtin "BaseException.__getattribute__" == Value.builtin "object.__getattribute__") = false := by rw [e2]; rfl
  unfold getAttr? getAttrBy? getAttrBy
  refine wpAny_bind (wpAny_mkText (wpAny_bind (wpAny_attempt (wpAny_holding (wpAny_bind (L0.at (wpAny_bind (L1.at ?_))))))))
  show wpAny _ _ (if (onTheHeap (Value.ref D) && Value.builtin "BaseException.__getattribute__" == Value.builtin "object.__getattribute__") = true then _ else _) _ _ _
  rw [e1, if_neg Bool.false_ne_true]
  unfold getAttrByItsOwn hookBefore
  refine wpAny_bind ?_
  rw [if_pos (show onTheHeap (Value.ref D) = true from rfl)]
  refine L2.at (wpAny_bind (wpAny_attempt (wpAny_holding ?_)))
  unfold callGetattribute
  rw [show (false && onTheHeap (Value.builtin "BaseException.__getattribute__")) = false from rfl, if_neg Bool.false_ne_true]
  unfold boundAndCalled
  rw [PySem.F.excAttr_ValueError.ga.bind (.ref x)]
  refine wpAny_bind (wpAny_pure ?_)
  show wpAny _ _ (call (.builtin "BaseException.__getattribute__") [.ref x, .str "__class__" t]) _ _ _
  refine wpAny_call (codeAny_call_builtin PySem.F.excAttr_ValueError.ga.plain PySem.F.entry_bexc_ga ?_)
  refine @check_slot (model prog w) _ _ ⟨hp, g, d, t + 1, os⟩ "BaseException.__getattribute__" "BaseException" "__getattribute__" (.ref x) [.str "__class__" t] [] _ (by decide +kernel) (by decide +kernel) sub (PySem.F.args_bexc_ga (.ref x) (.str "__class__" t)) ?_
  unfold Builtin.«object.__getattribute__»
  refine wpAny_bind (wpAny_of_eq (a := ((Value.ref x : Value), [Value.str "__class__" t])) (by first | rfl | (simp only [slotArgs]; rfl)) ?_)
  refine wpAny_bind (wpAny_pure (wpAny_bind (L0.at (wpAny_bind (L3.at ?_)))))
  show wpAny _ _ (holding [Value.builtin "object.__class__"] (call (.builtin "getset_descriptor.__get__") [.builtin "object.__class__", .ref x, .ref D]) >>= ret) _ _ _
  refine wpAny_bind (wpAny_holding (wpAny_call (class_get (s := ⟨hp, g, d, t + 1, os⟩) (ox := ox) (od := od) X I C.hm (wpAny_pure ?_))))
  show wpAny _ _ (handedOut (.ref D)) _ _ _
  rw [handedOut_of (v := .ref D) rfl]
  first
    | exact wpAny_pure (wpAny_pure h)
    | exact wpAny_pure h
    | exact wpAny_pure (wpAny_bind (wpAny_pure (wpAny_pure h)))
theorem nf_kitx (C : L2.ExcC K D) : KitX K (.ref x) (.ref D) (fun h => ∃ od, InstAt h x ox D od) where
  ty := fun _ _ _ ⟨_, I⟩ => I.type
  it := fun _ _ X _ => by
    obtain ⟨cdD, hcD, _⟩ := any_some C.hd
    unfold clsIn at hcD
    split at hcD
    · rename_i c' d' cd' sl' ho
      intro A' Q' E' s' k q
      unfold isType loadHead
      exact wpAny_bind (wpAny_loadPart (k _ _ (X _ _ ho)) (wpAny_pure q))
    · cases hcD
  ne := fun h tp dd its n sl X htp => by
    obtain ⟨cdD, hcD, _⟩ := any_some C.hd
    refine Bool.eq_false_iff.mpr fun q => ?_
    obtain rfl : D = tp := Value.ref.inj (beq_iff_eq.mp q)
    unfold clsIn at hcD
    split at hcD
    · rename_i c' d' cd' sl' ho
      cases (X _ _ ho).symm.trans htp
    · cases hcD
  ca := fun X ⟨_, I⟩ k => nf_class C X I k
end
end PySem.W
namespace NF
open PySem PySem.Spec PyProof.Rows L2

/-- what an object of the suite is -/
theorem inst_of {X : Cx} {a D dd : Addr} {oe : Obj} {pn pins : List (Addr × Obj)} {σ : L2.St} {H : Hp} {s : Shared} {fs : List (Str × V)} (I : Inv (X.suite a ((a, oe) :: pn)) pins σ H s) (hz : L2N.Zn (.ref D) (some dd) oe) (hf : ∃ vs, oe.data = .fields vs) (ea : H dd = some (.xd fs)) :
    ∃ od, PySem.W.InstAt s.heap a oe D (some od) ∧ ∀ n, (v : V) → fs.lookup n = some v → ∃ u, PySem.W.lookIn n od = some (some u) ∧ RelV v u := by
  obtain ⟨ha, _⟩ := I.pin (a, oe) (List.mem_append_left _ List.mem_cons_self)
  obtain ⟨vs, hd⟩ := hf
  have hx : ObjOk X.prog X.w H s.heap dd (.xd fs) := I.hok dd _ ea
  obtain ⟨mA, hns, hr⟩ := hx
  obtain ⟨od, ho, hl⟩ := lookIn_ns hns
  refine ⟨od, ⟨ha, hz.1, by unfold PySem.W.notCls; rw [hd] <;> rfl, by rw [hz.2.1]; exact ho⟩, fun n v l => ?_⟩
  obtain ⟨u, hu, ru⟩ := RelO.some_of (v := v) (o := mA n) (by rw [← l]; exact hr n)
  exact ⟨u, by rw [hl, hu], ru⟩

/-- e.f of the caught exception -/
def tXfN (K : PySem.W.Frag) (a : Addr) (cls : Value) (d : Option Addr) (f : Str) (te : TE) : TE := fun σ H Q => te σ H fun x H1 => x = .ref a ∧ ∃ (D dd : Addr) (fs : List (Str × V)) (v : V), cls = .ref D ∧ ExcC K D ∧ PySem.W.findIn K (.ref D) f = some none ∧ d = some dd ∧ H1 dd = some (.xd fs) ∧ fs.lookup f = some v ∧ Q v H1
theorem pe_xfN {X : Cx} {a : Addr} {oe : Obj} {cls : Value} {d : Option Addr} {pn : List (Addr × Obj)} {e : Expr} {te : TE} {pos : Pos} {n : Str}
    (hz : L2N.Zn cls d oe) (hf : ∃ vs, oe.data = .fields vs) (he : PE (X.suite a ((a, oe) :: pn)) e te) (hb : attributeBase e n X.env (eval e X.env) = eval e X.env := by rfl) :
    PE (X.suite a ((a, oe) :: pn)) (.Attribute e n pos) (tXfN X.K a cls d n te) := by
  refine ⟨fun pins s σ H Q I h => ?_⟩
  refine attr_of hb (thn (he.run pins s σ H _ I h) fun u s1 hh => ?_)
  obtain ⟨x, H1, I1, rx, ex, D, dd, fs, v, ec, T, hno, ed, ea, l, q⟩ := hh
  subst ex
  obtain rfl : u = Value.ref a := rx
  subst ec
  subst ed
  obtain ⟨od, J, hl⟩ := inst_of I1 hz hf ea
  obtain ⟨u, hu, ru⟩ := hl n v l
  exact HandSPX.exc_get I1.kIn J T.hg T.hk T.hs (PySem.W.findObj_own T.hd hno rfl hu) (handed_of ru) ⟨v, H1, I1.tok _, ru, q⟩

/-- isinstance of it -/
def rIsX (K : PySem.W.Frag) (a : Addr) (cls : Value) (d : Option Addr) : List V → Hp → VK → Prop := fun xs H Q => ∃ (D dd : Addr) (fs : List (Str × V)) (b : Bool), cls = .ref D ∧ ExcC K D ∧ d = some dd ∧ H dd = some (.xd fs) ∧
  ((∃ (c : V) (cv : Value), xs = [.ref a, c] ∧ (∀ u, RelV c u → u = cv) ∧ PySem.W.kitOne K (.ref D) cv = some b) ∨
    (∃ (tp : Addr) (cs : List V) (cvs : List Value), xs = [.ref a, .ref tp] ∧ H tp = some (.tup cs) ∧ (∀ us, Vals cs us → us = cvs) ∧ PySem.W.kitAny K (.ref D) cvs = some b)) ∧ Q (.bl b) H
theorem call_isX {X : Cx} {a : Addr} {oe : Obj} {cls : Value} {d : Option Addr} {pn : List (Addr × Obj)} (hz : L2N.Zn cls d oe) (hf : ∃ vs, oe.data = .fields vs) : CallR (X.suite a ((a, oe) :: pn)) (.builtin "isinstance") (rIsX X.K a cls d) := by
  intro pins s σ H xs us Q I r h
  obtain ⟨D, dd, fs, b, ec, T, ed, ea, h, q⟩ := h
  subst ec
  subst ed
  obtain ⟨od, J, _⟩ := inst_of I hz hf ea
  rcases h with ⟨c, cv, rfl, hcv, e⟩ | ⟨tp, cs, cvs, rfl, et, hcv, e⟩
  · cases r with
    | cons rx rr =>
      cases rr with
      | cons rt rr =>
        cases rr
        cases rx
        have ec := hcv _ rt
        subst ec
        exact PySem.W.kia_one (PySem.W.nf_kitx (ox := oe) T) I.kIn ⟨_, J⟩ e (fun z => nomatch z) fun tk => ⟨.bl b, H, I.kept (t' := tk) fun _ _ z => z, rfl, q⟩
  · cases r with
    | cons rx rr =>
      cases rr with
      | cons rt rr =>
        cases rr
        cases rx
        cases rt
        obtain ⟨its, vi, ti, _⟩ := I.tuple (.inl (.inl et))
        obtain rfl := hcv _ vi
        obtain ⟨⟨oc, odd, oda, osl⟩, hg, h1, n, h2⟩ := ti
        dsimp only at h1 h2
        subst h1 h2
        exact PySem.W.kia_tup (PySem.W.nf_kitx (ox := oe) T) I.kIn ⟨_, J⟩ hg e (fun z => nomatch z) fun tk => ⟨.bl b, H, I.kept (t' := tk) fun _ _ z => z, rfl, q⟩
end NF

/-! What the head hands over of exception classes. -/
namespace NF
open PySem PySem.Spec PyProof.Rows PySem.W PySem.Calls L2

/-- what is asked of a raised class at C at once -/
def oexB (K : Frag) (C : Addr) : Bool := match K.lookup C with
  | some ⟨.type "type", _, .cls cd, sl⟩ => (match cd.mro, sl.toList with
    | .ref C' :: bm, [_, _, _, _, some (.builtin n), _] => C' == C && (n == "ValueError.__new__" && (!cd.hasDel && (cd.hasDict && PySem.HandSPX.refsVE bm)))
    | _, _ => false)
  | _ => false
theorem oexB_ok {K : Frag} {C : Addr} (q : oexB K C = true) : ∃ nm q N bs bm sn sub ab col dd k0 k1 k2 k3 k5, K.lookup C = some (excClassObj nm q C N bs bm true sn sub ab col dd k0 k1 k2 k3 k5 "ValueError.__new__") ∧ PySem.HandSPX.refsVE bm = true := by
  unfold oexB at q
  split at q
  · rename_i dd cd sl ho
    split at q
    · rename_i C' bm k0 k1 k2 k3 n k5 hm hs
      simp only [Bool.and_eq_true, beq_iff_eq, Bool.not_eq_true'] at q
      obtain ⟨rfl, rfl, hdel, hdd, ht⟩ := q
      obtain ⟨nm, bs, mro, ns, qn, hd, sn, sub, ab, col, del⟩ := cd
      dsimp only at hm hdel hdd
      subst hm hdel hdd
      have hsl : sl = #[k0, k1, k2, k3, some (.builtin "ValueError.__new__"), k5] := by
        obtain ⟨l⟩ := sl
        simp only at hs
        rw [hs]
      subst hsl
      exact ⟨nm, qn, ns, bs, bm, sn, sub, ab, col, dd, k0, k1, k2, k3, k5, ho, ht⟩
    · cases q
  · cases q
def xrB (K : Frag) (C D f : Addr) (fld : Str) : Bool :=
  oexB K C && (decide (findIn K (.ref C) "__setattr__" = some (some (.builtin "object.__setattr__"))) && (decide (subIn K (.ref C) (.type "BaseException") = some true) && (decide (typeIn K (.ref C) = some (.type "type")) && (keepIn K (.ref C) &&
  (excInitIn K C PySem.HandSPX.veTail "ValueError.__new__" && (decide (subIn K (.ref C) (.type "ValueError") = some true) && (decide (nsIn K cStatics "thirdparty.any" = some none) &&
  (decide (findIn K (.ref C) "__getattribute__" = some (some (.builtin "BaseException.__getattribute__"))) && (decide (findIn K (.ref C) "__getattr__" = some none) && (hasDictIn K C && (decide (findIn K (.ref C) "__class__" = some (some (.builtin "object.__class__"))) &&
  (decide (specialIn K (.builtin "object.__class__") "__get__" = some (some (.builtin "getset_descriptor.__get__"))) && (decide (takesIn K (.builtin "object.__class__") = some true) && (decide (mroIn K C (.type "object") = some true) &&
  (decide (findIn K (.ref C) fld = some none) && (decide (typeIn K (.ref f) = some (.type "function")) && ((clsIn K D).isSome && (decide (mroIn K C (.ref D) = some true) && decide (ks_superIn K C D "__init__" = some (some (.builtin "ValueError.__init__")))))))))))))))))))))
structure XRaw (P : Program) (K : Frag) (C : Addr) (fld : Str) : Prop where
  oex : OexC K C
  ini : excInitIn K C PySem.HandSPX.veTail "ValueError.__new__" = true
  sub : subIn K (.ref C) (.type "ValueError") = some true
  opq : nsIn K cStatics "thirdparty.any" = some none
  htop : (P.main.scope.names.lookup ("super" : Str)).isSome = false
  exc : ExcC K C
  nof : findIn K (.ref C) fld = some none
  fn : ∃ fI fd, findIn K (.ref C) "__init__" = some (some (.ref fI)) ∧ typeIn K (.ref fI) = some (.type "function") ∧ Binds K fd ["self", fld] [] ∧
    ∀ (mg : Str → Option Value), mg "super" = none → ∀ (w : World) (base : Heap) (CX : CXT), FnOk P w K mg base CX 1 fI fd ["self", fld] (spX K C fld)

theorem xraw_mk {P : Program} {K : Frag} {C D f cc cda : Addr} {name qual fld txt : Str} {j : Nat} {params : Arguments} {scope : Scope} {dV kV doc pm ct oc ccl cl : Value} {an od cdd cld : Option Addr}
    {osl ccs csl : Array (Option Value)} {vs : Array Value} {file : Str} {tf : Tok} {ar : Arg} {p0 p1 p2 p3 p4 p5 q0 q1 q2 q3 : Pos} {pl : Env → Sem Bool}
    (iC : findIn K (.ref C) "__init__" = some (some (.ref f)))
    (lk : K.lookup f = some ⟨oc, od, .func (ksFn name qual params [.Expr (.Call (.Attribute (.Call (.Name "super" p0) [] [] p1) "__init__" p2) [.Constant (.str txt) j p3] [] p4) p5, .Assign [.Attribute (.Name "self" q0) fld q1] (.Name fld q2) q3] scope dV kV doc pm an (.ref cda) ct cc), osl⟩)
    (hcode : K.lookup cda = some ⟨ccl, cdd, .fields vs, ccs⟩) (hcell : K.lookup cc = some ⟨cl, cld, .cell (some (.ref D)), csl⟩) (hx : xrB K C D f fld = true)
    (hcd : codeIn K (.ref cda) qual = true) (hvs : vs[2]? = some (.str file tf)) (hfile : ((P.main.file : Str) == file) = true) (htop : (P.main.scope.names.lookup ("super" : Str)).isSome = false)
    (hp : (params.posonlyargs ++ params.args).head? = some ar) (har : ar.arg = "self")
    (hns : ("self" : Str) ≠ fld) (hdb : (fld == ("__debug__" : Str)) = false)
    (s1 : scope.names.lookup ("self" : Str) = some .local) (s2 : scope.names.lookup fld = some .local) (s3 : scope.names.lookup ("super" : Str) = some .globalImplicit) (s4 : scope.names.lookup ("__class__" : Str) = some .free)
    (hnc : ∀ x ∈ scope.names, x.2 ≠ .cell) (hco : scope.isCoroutine = false) (hgen : scope.isGenerator = false) (hk : scope.kind = .function)
    (hb : ∀ us : List Value, us.length = 2 → bindArgs (ksFn name qual params [.Expr (.Call (.Attribute (.Call (.Name "super" p0) [] [] p1) "__init__" p2) [.Constant (.str txt) j p3] [] p4) p5, .Assign [.Attribute (.Name "self" q0) fld q1] (.Name fld q2) q3] scope dV kV doc pm an (.ref cda) ct cc) ⟨us, []⟩ = pure (([("self" : Str), fld] : List Str).zip us))
    (hme : ∀ env : Env, eval (.Call (.Attribute (.Call (.Name "super" p0) [] [] p1) "__init__" p2) [.Constant (.str txt) j p3] [] p4) env = (do
      let ov ← attributeBase (.Call (.Name "super" p0) [] [] p1) "__init__" env (eval (.Call (.Name "super" p0) [] [] p1) env)
      standAt p2.atName
      let (f, first) ← holding [ov] (getMethod ov "__init__" (pl env))
      callWith p4 f first (backTo p4 (starEach [.Constant (.str txt) j p3] env)) [])) : XRaw P K C fld := by
  unfold xrB at hx
  simp only [Bool.and_eq_true, decide_eq_true_eq] at hx
  obtain ⟨x1, x2, x3, x4, x5, x6, x7, x8, x9, x10, x11, x12, x13, x14, x15, x16, x17, x18, x19, x20⟩ := hx
  obtain ⟨cdD, hD⟩ := Option.isSome_iff_exists.mp x18
  have O : OexC K C := ⟨oexB_ok x1, x2, x3, x4, x5⟩
  refine ⟨O, x6, x7, x8, htop, ⟨x9, x10, x3, x11, x12, x13, x14, x15⟩, x16, f, _, iC, x17, .all hb, fun mg hs w base CX => ?_⟩
  exact fn_sup (⟨O, x6, x7, x8, hs, htop⟩ : XCls P K mg C) lk hcd hcode hvs hfile hcell hD hp har x19 x20 x16 hns hdb s1 s2 s3 s4 hnc hco hgen hk pl hme

theorem XRaw.fact {P : Program} {K : Frag} {C : Addr} {x fld : Str} {h : Heap} {mg : Str → Option Value} (R : XRaw P K C fld) (X : K.In h) (G : h.Ns mainGlobals mg) (n : nsIn K mainGlobals x = some (some (.ref C))) (hs : mg "super" = none) : XFact P K mg x fld := by
  have hm := mg_of X G n
  have e := cad_eq hm
  obtain ⟨fI, fd, a1, a2, a3, a4⟩ := R.fn
  refine ⟨⟨by rw [e]; exact hm, by rw [e]; exact R.oex.exC, by rw [e]; exact R.exc.hd, by rw [e]; exact R.oex.tyC⟩, by rw [e]; exact ⟨R.oex, R.ini, R.sub, R.opq, hs, R.htop⟩, by rw [e]; exact R.exc, by rw [e]; exact R.nof, fI, fd, by rw [e]; exact a1, a2, a3, ?_⟩
  rw [e]
  exact a4 mg hs

/-- how two classes stand: is the one's instance the other's -/
structure XPair (K : Frag) (A B : Value) (b : Bool) : Prop where
  kit : kitOne K A B = some b
  exm : exmOne K A B = some b
def xpB (K : Frag) (A B : Value) (b : Bool) : Bool := decide (kitOne K A B = some b) && decide (exmOne K A B = some b)
theorem xpair_mk {K : Frag} {A B : Value} {b : Bool} (h : xpB K A B b = true) : XPair K A B b := by
  obtain ⟨h1, h2⟩ := Bool.and_eq_true_iff.mp h
  exact ⟨of_decide_eq_true h1, of_decide_eq_true h2⟩
theorem kitAny_nil {K : Frag} {t : Value} : kitAny K t [] = some false := rfl
theorem kitAny_f {K : Frag} {t c : Value} {r : List Value} {b : Bool} (h : kitOne K t c = some false) (q : kitAny K t r = some b) : kitAny K t (c :: r) = some b := by
  unfold kitAny
  rw [h]
  exact q
theorem kitAny_t {K : Frag} {t c : Value} {r : List Value} (h : kitOne K t c = some true) : kitAny K t (c :: r) = some true := by
  unfold kitAny
  rw [h]
end NF

/-! Own toolkit: partners of letters in a nested text. -/
namespace NF
open PySem L2 TL

section
variable {B H : Hp} {σ : L2.St} {Q : VK} {QX : XK}
theorem x_callX {sp : Sp} {dvs : List V} {W : WX} {t : TA} (q : t σ H fun vs H1 => sp (vs ++ dvs) H1 Q (fun cls d H2 => W cls d σ H2)) : tCallX sp dvs W t σ H Q := q
theorem x_mkX {C : Addr} {fld : Str} {te : TE} (h : te σ H fun v H1 => ∀ d, H1 d = none → QX (.ref C) (some d) (upd H1 d (.xd [(fld, v)]))) : tMkX C fld te σ H QX := h
theorem x_chain {r r' : R2} {ta tb tc : TE} (q : ta σ H fun x H1 => tb σ H1 fun y H2 => r x y H2 fun z H3 => ∃ k, z = .bl k ∧ (if k = true then tc σ H3 fun w' H4 => r' y w' H4 Q else Q (.bl false) H3)) : tChain r r' ta tb tc σ H Q := q
end
abbrev low (c : Nat) : Prop := 97 ≤ c ∧ c ≤ 104
/-! ### repr, and the caught exception -/
def rRepr : List V → Hp → VK → Prop := fun xs H Q => ∃ i, xs = [.int i] ∧ i.natAbs.log2 < 1920 ∧ Q (.str (toString i)) H
theorem callRepr {X : Cx} : CallR X (.builtin "repr") rRepr := SkE.call_repr_int
section
variable {P : Program} {K : PySem.W.Frag} {mg : Str → Option Value} {H : Hp} {σ : L2.St} {Q : VK} {a dd : Addr} {A fld : Str} {b : Bool}
theorem x_repr {i : Int} (h : i.natAbs.log2 < 1920) (q : Q (.str (toString i)) H) : rRepr [.int i] H Q := ⟨i, rfl, h, q⟩
theorem x_xfV {i : Nat} {v : V} (T : XFact P K mg A fld) (hσ : σ[i]? = some (some (.ref a))) (ed : H dd = some (.xd [(fld, v)])) (q : Q v H) : tXfN K a (.ref (cad mg A)) (some dd) fld (tVar i) σ H Q :=
  ⟨_, hσ, rfl, _, dd, _, v, rfl, T.exc, T.nof, rfl, ed, by simp [List.lookup], q⟩
theorem x_isXC {B : Str} {fs : List (Str × V)} (T : XFact P K mg A fld) (p : XPair K (.ref (cad mg A)) (.ref (cad mg B)) b) (ed : H dd = some (.xd fs)) (q : Q (.bl b) H) : rIsX K a (.ref (cad mg A)) (some dd) [.ref a, .ref (cad mg B)] H Q :=
  ⟨_, dd, fs, b, rfl, T.exc, rfl, ed, .inl ⟨_, _, rfl, fun u h => h, p.kit⟩, q⟩
theorem x_isXB {n : String} {fs : List (Str × V)} (T : XFact P K mg A fld) (p : XPair K (.ref (cad mg A)) (.type n) b) (ed : H dd = some (.xd fs)) (q : Q (.bl b) H) : rIsX K a (.ref (cad mg A)) (some dd) [.ref a, .ty n] H Q :=
  ⟨_, dd, fs, b, rfl, T.exc, rfl, ed, .inl ⟨_, _, rfl, fun u h => h, p.kit⟩, q⟩
theorem vals_refs {cs : List Addr} : ∀ us, Vals (cs.map V.ref) us → us = cs.map Value.ref := by
  induction cs with
  | nil => intro us h; cases h; rfl
  | cons c cs ih =>
    intro us h
    cases h with
    | cons h1 h2 =>
      rw [ih _ h2]
      exact congrArg (· :: cs.map Value.ref) h1
theorem x_isXT {tp : Addr} {fs : List (Str × V)} (cs : List Addr) (T : XFact P K mg A fld) (ht : H tp = some (.tup (cs.map V.ref))) (p : PySem.W.kitAny K (.ref (cad mg A)) (cs.map Value.ref) = some b) (ed : H dd = some (.xd fs)) (q : Q (.bl b) H) : rIsX K a (.ref (cad mg A)) (some dd) [.ref a, .ref tp] H Q :=
  ⟨_, dd, fs, b, rfl, T.exc, rfl, ed, .inr ⟨tp, _, _, rfl, ht, vals_refs, p⟩, q⟩
end
/-- how many letters until the depth d is left -/
def cl : List Nat → Nat → Nat
  | [], _ => 0
  | c :: r, d => if low c then cl r (d + 1) + 1 else match d with
    | 0 => 0
    | d + 1 => cl r d + 1
theorem cl_low {c : Nat} {r : List Nat} {d : Nat} (h : low c) : cl (c :: r) d = cl r (d + 1) + 1 := by rw [cl.eq_def]; exact if_pos h
theorem cl_up0 {c : Nat} {r : List Nat} (h : ¬ low c) : cl (c :: r) 0 = 0 := by rw [cl.eq_def]; exact if_neg h
theorem cl_up {c : Nat} {r : List Nat} {d : Nat} (h : ¬ low c) : cl (c :: r) (d + 1) = cl r d + 1 := by rw [cl.eq_def]; exact if_neg h
theorem cl_mono (r : List Nat) : ∀ d, cl r d ≤ cl r (d + 1) := by
  induction r with
  | nil => intro d; exact Nat.le_refl _
  | cons c r ih =>
    intro d
    by_cases h : low c
    · rw [cl_low h, cl_low h]
      exact Nat.succ_le_succ (ih _)
    · cases d with
      | zero => rw [cl_up0 h]; exact Nat.zero_le _
      | succ d => rw [cl_up h, cl_up h]; exact Nat.succ_le_succ (ih _)
theorem cl_mono0 (r : List Nat) (d : Nat) : cl r 0 ≤ cl r d := by
  induction d with
  | zero => exact Nat.le_refl _
  | succ d ih => exact Nat.le_trans ih (cl_mono r d)
/-- the partner of the letter at a -/
def pt (l : List Nat) (a : Nat) : Nat := a + 1 + cl (l.drop (a + 1)) 0

/-- the open places, the last one first, behind i letters -/
structure Stk (l : List Nat) (i : Nat) (ps : List Nat) : Prop where
  st : run (l.take i) [] = some (ps.map fun a => l.getD a 0)
  dep : ∀ j a, ps[j]? = some a → a < i ∧ pt l a = i + cl (l.drop i) j ∧ low (l.getD a 0) ∧ a < l.length
  all : ∀ a c, a < i → l[a]? = some c → low c → a ∈ ps ∨ pt l a < i
  srt : ps.Pairwise (· > ·)
theorem Stk.zero (l : List Nat) : Stk l 0 [] := ⟨rfl, fun j a h => by simp at h, fun a c h => absurd h (Nat.not_lt_zero _), .nil⟩
section
variable {l ps : List Nat} {i c : Nat}
theorem drop_at (hc : l[i]? = some c) : l.drop i = c :: l.drop (i + 1) := by
  obtain ⟨h, e⟩ := List.getElem?_eq_some_iff.mp hc
  rw [List.drop_eq_getElem_cons h, e]
theorem getD_at (hc : l[i]? = some c) : l.getD i 0 = c := by simp [List.getD, hc]
theorem Stk.lt (S : Stk l i ps) {a : Nat} (h : a ∈ ps) : a < i := by
  obtain ⟨j, hj⟩ := List.getElem?_of_mem h
  exact (S.dep j a hj).1
theorem Stk.push (S : Stk l i ps) (hc : l[i]? = some c) (h : low c) : Stk l (i + 1) (i :: ps) := by
  have hl := (List.getElem?_eq_some_iff.mp hc).1
  refine ⟨?_, fun j a hj => ?_, fun a d ha hd hlo => ?_, ?_⟩
  · rw [List.map_cons, getD_at hc]
    exact run_lo1 S.st hc h
  · cases j with
    | zero =>
      have e : i = a := by simpa using hj
      subst e
      exact ⟨Nat.lt_succ_self _, rfl, by rw [getD_at hc]; exact h, hl⟩
    | succ j =>
      have hj' : ps[j]? = some a := by simpa using hj
      obtain ⟨h1, h2, h3, h4⟩ := S.dep j a hj'
      refine ⟨by omega, ?_, h3, h4⟩
      rw [h2, drop_at hc, cl_low h]
      omega
  · by_cases e : a = i
    · exact .inl (by rw [e]; exact List.mem_cons_self)
    · rcases S.all a d (by omega) hd hlo with q | q
      · exact .inl (List.mem_cons_of_mem _ q)
      · exact .inr (by omega)
  · exact List.pairwise_cons.mpr ⟨fun a ha => S.lt ha, S.srt⟩
theorem Stk.pop (S : Stk l i ps) (hr : run l [] = some []) (hc : l[i]? = some c) (h : ¬ low c) : ∃ a ps', ps = a :: ps' ∧ Stk l (i + 1) ps' ∧ pt l a = i ∧ a < i ∧ c + 32 = l.getD a 0 := by
  have e1 : run l [] = (run (l.take i) []).bind (run (l.drop i)) := by
    rw [← run_append, List.take_append_drop]
  rw [S.st, drop_at hc, hr] at e1
  cases ps with
  | nil =>
    have e2 : some [] = run (c :: l.drop (i + 1)) [] := e1
    rw [run_cons, if_neg h] at e2
    cases e2
  | cons a ps' =>
    have e2 : some [] = run (c :: l.drop (i + 1)) (l.getD a 0 :: ps'.map fun a => l.getD a 0) := e1
    rw [run_cons, if_neg h] at e2
    have e3 : c + 32 = l.getD a 0 := by
      by_cases z : c + 32 = l.getD a 0
      · exact z
      · have : (if c + 32 = l.getD a 0 then run (l.drop (i + 1)) (ps'.map fun a => l.getD a 0) else none) = some [] := e2.symm
        rw [if_neg z] at this
        cases this
    have pa := S.dep 0 a rfl
    have ea : pt l a = i := by rw [pa.2.1, drop_at hc, cl_up0 h]; rfl
    refine ⟨a, ps', rfl, ⟨?_, fun j b hj => ?_, fun b d hb hd hlo => ?_, (List.pairwise_cons.mp S.srt).2⟩, ea, pa.1, e3⟩
    · exact run_up1 (st := ps'.map fun a => l.getD a 0) (by rw [e3]; exact S.st) hc h
    · obtain ⟨h1, h2, h3, h4⟩ := S.dep (j + 1) b (by simpa using hj)
      refine ⟨by omega, ?_, h3, h4⟩
      rw [h2, drop_at hc, cl_up h]
      omega
    · by_cases e : b = i
      · subst e
        rw [hc] at hd
        cases hd
        exact absurd hlo h
      · rcases S.all b d (by omega) hd hlo with q | q
        · rcases List.mem_cons.mp q with q | q
          · exact .inr (by rw [q, ea]; omega)
          · exact .inl q
        · exact .inr (by omega)
theorem Stk.done (S : Stk l i ps) (hr : run l [] = some []) (hi : l.length ≤ i) : ps = [] := by
  have e := S.st
  rw [List.take_of_length_le hi, hr] at e
  have e2 := Option.some.inj e
  exact List.map_eq_nil_iff.mp e2.symm
theorem Stk.len (S : Stk l i ps) : ps.length ≤ i := by
  have h := run_len S.st
  rw [List.length_map, List.length_take, List.length_nil] at h
  omega
theorem Stk.nodup (S : Stk l i ps) : ps.Nodup := S.srt.imp fun h => Nat.ne_of_gt h
end
theorem nst_of_flt {l : List Nat} (h : flt l 0 [] = none) : run l [] = some [] := by
  rcases flt_spec l 0 [] with ⟨st, e⟩ | ⟨_, j, e, _⟩
  · rw [flt_of_run e] at h
    by_cases z : st = []
    · rw [e, z]
    · rw [if_neg z] at h
      cases h
  · rw [h] at e
    cases e
theorem flt_of_nst {l : List Nat} (h : run l [] = some []) : flt l 0 [] = none := by rw [flt_of_run h, if_pos rfl]
end NF

/-! What the head hands over: a def with defaults, names of classes. -/
namespace NF
open PySem L2
structure HasD (K : PySem.W.Frag) (x : Str) (st : Stmt) (dvs : List V) : Prop where
  ex : ∃ (f T : Addr) (oc kV dc pm cd ct : Value) (od an : Option Addr) (sl : Array (Option Value)) (oT : Obj) (its : List Value) (n : Nat), PySem.W.nsIn K mainGlobals x = some (some (.ref f)) ∧
    K.lookup f = some ⟨oc, od, .func (PySem.W.fnOf x x (defArgs st) (defBody st) (defScope st) (.ref T) kV dc pm an cd ct), sl⟩ ∧ PySem.W.codeIn K cd x = true ∧ PySem.W.keepIn K (.ref f) = true ∧ K.lookup T = some oT ∧ oT.data = .seq its.toArray n ∧ Vals dvs its
section
variable {K : PySem.W.Frag} {x : Str} {st : Stmt} {dvs : List V} {h : Heap} {mg : Str → Option Value}
theorem hasD_mk {f T : Addr} {oc kV dc pm cd ct oc2 : Value} {od an od2 : Option Addr} {sl sl2 : Array (Option Value)} {a : Array Value} {n : Nat} (h1 : PySem.W.nsIn K mainGlobals x = some (some (.ref f)))
    (h2 : K.lookup f = some ⟨oc, od, .func (PySem.W.fnOf x x (defArgs st) (defBody st) (defScope st) (.ref T) kV dc pm an cd ct), sl⟩) (h3 : PySem.W.codeIn K cd x = true) (h4 : PySem.W.keepIn K (.ref f) = true)
    (h5 : K.lookup T = some ⟨oc2, od2, .seq a n, sl2⟩) (h6 : Vals dvs a.toList) : HasD K x st dvs :=
  ⟨f, T, oc, kV, dc, pm, cd, ct, od, an, sl, _, a.toList, n, h1, h2, h3, h4, h5, rfl, h6⟩
theorem HasD.fn (A : HasD K x st dvs) (X : K.In h) (G : h.Ns mainGlobals mg) (hd : dvs ≠ []) : FnD K mg x st dvs := by
  obtain ⟨f, T, oc, kV, dc, pm, cd, ct, od, an, sl, oT, its, n, h1, h2, h3, h4, h5, h6, h7⟩ := A.ex
  exact ⟨f, _, ⟨⟨oc, od, .ref T, kV, dc, pm, an, cd, ct, sl, rfl, h2, h3, .inr ⟨hd, T, oT, its, n, rfl, h5, h6, h7⟩, .inl rfl⟩, h4⟩, PySem.W.mg_of X G h1⟩
theorem cls_mk {c : Addr} (X : K.In h) (G : h.Ns mainGlobals mg) (n : PySem.W.nsIn K mainGlobals x = some (some (.ref c))) : mg x = some (.ref (cad mg x)) := by
  have e := PySem.W.mg_of X G n
  rw [cad_eq e]
  exact e
theorem pair_mk {A B : Str} {a c : Addr} {b : Bool} (X : K.In h) (G : h.Ns mainGlobals mg) (nA : PySem.W.nsIn K mainGlobals A = some (some (.ref a))) (nB : PySem.W.nsIn K mainGlobals B = some (some (.ref c))) (p : XPair K (.ref a) (.ref c) b) : XPair K (.ref (cad mg A)) (.ref (cad mg B)) b := by
  rw [cad_eq (PySem.W.mg_of X G nA), cad_eq (PySem.W.mg_of X G nB)]
  exact p
theorem pairT_mk {A : Str} {a : Addr} {n : String} {b : Bool} (X : K.In h) (G : h.Ns mainGlobals mg) (nA : PySem.W.nsIn K mainGlobals A = some (some (.ref a))) (p : XPair K (.ref a) (.type n) b) : XPair K (.ref (cad mg A)) (.type n) b := by
  rw [cad_eq (PySem.W.mg_of X G nA)]
  exact p
end
end NF

/-! Own classes: made by an __init__ that may raise; properties; calls within a suite; dicts; constants that are tuples. -/
namespace NF
open PySem PySem.Spec PyProof.Rows L2

/-! ### X(e) -/
structure MkX (P : Program) (w : World) (K : PySem.W.Frag) (mg : Str → Option Value) (base : Heap) (k : Nat) (x : Str) (ps : List Str) (sp : Sp) : Prop where
  ex : ∃ f fd, Mk K (cad mg x) f ∧ FnOk P w K mg base (L2N.CX P w) k f fd ps sp ∧ mg x = some (.ref (cad mg x)) ∧ Binds K fd ps []
def tMakeX (C : Addr) (sp : Sp) (W : WX) (t : TA) : TE := fun σ H Q => t σ H fun vs H1 => ∀ x dx, H1 x = none → H1 dx = none → dx ≠ x →
  sp (.ref x :: vs) (upd (upd H1 dx (.own x)) x (.ins C dx [])) (fun v H2 => v = .non ∧ Q (.ref x) H2) (fun cls d H2 => W cls d σ H2)
section
variable {X : Cx} {k : Nat} {x : Str} {ps : List Str} {sp : Sp} {p pos : Pos} {e : Expr} {es : List Expr} {t : TA} {W : WX} {f C : Addr} {fd : FuncData}
theorem run_mkx {pins : List (Addr × Obj)} {σ : L2.St} {H : Hp} {s : Shared} {Q : VK} {us : List Value} {vs : List V} (M : Mk X.K C f) (F : FnOk X.prog X.w X.K X.mg X.base (L2N.CX X.prog X.w) k f fd ps sp) (hr : Room (k + 1) X.A) (hb : Binds X.K fd ps [])
    (tk : L2N.Takes X W) (I : Inv X pins σ H s) (r : Vals vs us)
    (h : ∀ x dx, H x = none → H dx = none → dx ≠ x → sp (.ref x :: vs) (upd (upd H dx (.own x)) x (.ins C dx [])) (fun v H2 => v = .non ∧ Q (.ref x) H2) (fun cls d H2 => W cls d σ H2)) :
    wpAny (model X.prog X.w) X.A (call (.ref C) us) (EP X pins σ Q) X.xe s := by
  have hq := h (s.heap.objs.size + 1) s.heap.objs.size (I.hok.fresh (Nat.le_succ _)) (I.hok.fresh (Nat.le_refl _)) (Nat.ne_of_lt (Nat.lt_succ_self _))
  have I2 := Inv.made (C := C) I
  have r2 : Vals (V.ref (s.heap.objs.size + 1) :: vs) (Value.ref (s.heap.objs.size + 1) :: us) := .cons rfl r
  have hl : (Value.ref (s.heap.objs.size + 1) :: us ++ []).length = ps.length := by
    have e := r2.length
    rw [F.len _ _ _ _ hq] at e
    rw [List.append_nil]
    exact e.symm
  have hb2 := hb _ (Value.ref (s.heap.objs.size + 1) :: us) I2.kIn hl
  rw [List.append_nil] at hb2
  refine wpAny_call (make_map (f := f) I.kIn M.makes M.init (beq_iff_eq.mp M.fn) (codeAny_mono (F.run _ X.stack _ _ ⟨Value.ref (s.heap.objs.size + 1) :: us, []⟩ (Value.ref (s.heap.objs.size + 1) :: us) _ _ (fun cls d H2 => W cls d σ H2) (hr.make C us [])
    (I2.env0.make C us []) hb2 r2 hq) fun r s' hq' => ?_))
  cases r with
  | error e => exact L2N.passAt tk σ pins _ _ e s' I2 hq'
  | ok fl =>
    cases fl with
    | ret u =>
      obtain ⟨v, H', I3, rv, ev, q3⟩ := I2.after hq'
      subst ev
      exact ⟨rv, ⟨V.ref (s.heap.objs.size + 1), H', I3, rfl, q3⟩⟩
    | next => exact False.elim hq'
    | brk => exact False.elim hq'
    | cont => exact False.elim hq'
theorem pe_mkx {mg : Str → Option Value} (D : MkX X.prog X.w X.K mg X.base k x ps sp) (hX : X.mg = mg) (hr : Room (k + 1) X.A) (tk : L2N.Takes X W) (hg : Gl X x) (ha : PA X (e :: es) t) (hdb : (x == ("__debug__" : Str)) = false := by decide)
    (he : starEach (e :: es) X.env = (false, eval e X.env) :: starEach es X.env := by rfl) (hpl : (backTo pos (starEach es X.env)).any (·.1) = false := by rfl) : PE X (.Call (.Name x p) (e :: es) [] pos) (tMakeX (cad mg x) sp W t) := by
  subst hX
  obtain ⟨f, fd, M, F, hm, hb⟩ := D.ex
  refine ⟨fun pins s σ H Q I h => ?_⟩
  refine wpAny_Call_Name_kw (ld_glob I hg hm ?_ hdb)
  refine PySem.W.callWith_K (h₀ := X.base) I.ok.mod.kin M.kp (thn (ha.run pos pins s σ H _ I h) fun us s1 ⟨vs, H1, I1, r, q⟩ => ⟨I1.kIn, ?_⟩) he hpl
  exact run_mkx M F hr hb tk I1 r q
end
theorem x_makeX {C : Addr} {sp : Sp} {W : WX} {t : TA} {σ : L2.St} {H : Hp} {Q : VK} (q : t σ H fun vs H1 => ∀ x dx, H1 x = none → H1 dx = none → dx ≠ x →
  sp (.ref x :: vs) (upd (upd H1 dx (.own x)) x (.ins C dx [])) (fun v H2 => v = .non ∧ Q (.ref x) H2) (fun cls d H2 => W cls d σ H2)) : tMakeX C sp W t σ H Q := q

/-! ### a property that reads a field -/
structure PrX (P : Program) (w : World) (K : PySem.W.Frag) (mg : Str → Option Value) (base : Heap) (x f fld : Str) : Prop where
  ex : ∃ p g fd, Cls K (cad mg x) ∧ PropOf K (cad mg x) f p g ∧ FnOk P w K mg base CX0 1 g fd ["self"] (getSp (cad mg x) fld) ∧ Binds K fd ["self"] []
theorem pe_prx {X : Cx} {x f fld : Str} {e : Expr} {pos : Pos} {ta : TE} {mg : Str → Option Value} (D : PrX X.prog X.w X.K mg X.base x f fld) (hX : X.mg = mg) (hr : Room 2 X.A) (he : PE X e ta) (hab : attributeBase e f X.env (eval e X.env) = eval e X.env := by rfl) : PE X (.Attribute e f pos) (tProp (cad mg x) (getSp (cad mg x) fld) [] E0 ta) := by
  subst hX
  obtain ⟨p, g, fd, c, hp, F, hb⟩ := D.ex
  exact pe_prop (E := E0) he c hp F hr hb .nil pass0 hab
theorem x_propE {C : Addr} {sp : Sp} {ta : TE} {σ : L2.St} {H : Hp} {Q : VK} (q : ta σ H fun x H1 => ∃ a dx fs, x = .ref a ∧ H1 a = some (.ins C dx fs) ∧ sp (.ref a :: []) H1 Q E0) : tProp C sp [] E0 ta σ H Q := q
theorem x_getSp {C a dx : Addr} {fs : List (Str × V)} {v : V} {fld : Str} {H : Hp} {Q : VK} (ea : H a = some (.ins C dx fs)) (l : fs.lookup fld = some v) (q : Q v H) :
    ∃ a' dx fs, V.ref a = .ref a' ∧ H a' = some (.ins C dx fs) ∧ getSp C fld (.ref a' :: []) H Q E0 := ⟨a, dx, fs, rfl, ea, a, dx, fs, v, rfl, ea, l, q⟩

/-! ### calls within a suite -/
structure DefH (P : Program) (w : World) (K : PySem.W.Frag) (mg : Str → Option Value) (base : Heap) (k : Nat) (x : Str) (ps : List Str) (sp : Sp) : Prop where
  ex : ∃ f fd, L2H.FnH P w K mg base CX0 k f fd ps sp ∧ mg x = some (.ref f) ∧ PySem.W.keepIn K (.ref f) = true ∧ Binds K fd ps []
theorem DefH.mk0 {P : Program} {w : World} {K : PySem.W.Frag} {mg : Str → Option Value} {base : Heap} {x : Str} {st : Stmt} {N ps : List Str} {k : Nat} {sp : Sp} (F : Fn0 K mg x st) (S : FnScope N ps (defScope st)) (len : ∀ vs H Q E, sp vs H Q E → vs.length = ps.length)
    (hbind : ∀ (kV doc pm : Value) (an : Option Addr) (cdv ct : Value) (us : List Value), us.length = ps.length → bindArgs (PySem.W.fnOf x x (defArgs st) (defBody st) (defScope st) .none kV doc pm an cdv ct) ⟨us, []⟩ = pure (ps.zip us))
    (hbody : ∀ {f : Addr} (cdv : Value) (A : Around) (outer : List Env) (s : Shared) (H : Hp) (vs : List V) (Q : VK) (E : XK) (p : Addr × Obj), L2H.RoomH k (A.deeper (envOfC x (defScope st) s.heap.objs.size f cdv)) → sp vs H Q E →
      ∃ t, PSs (L2H.cxH CX0 P w K mg base N x (defScope st) f cdv A outer s H E p) (defBody st) t ∧ t { nx := fun _ H' => Q .non H', rt := Q } (start N vs) H) : DefH P w K mg base (k + 1) x ps sp := by
  obtain ⟨f, fd, F, hm⟩ := F
  obtain ⟨oc, od, kV, doc, pm, an, cdv, ct, osl, rfl, lk, hcd⟩ := F.ex
  exact ⟨f, _, L2H.fn_ofH lk hcd S len fun A outer s H vs Q E p hot hr hsp => hbody cdv A outer s H vs Q E p hr hsp, hm, F.kp, F.binds hbind⟩
section
variable {X : Cx} {k : Nat} {x : Str} {ps : List Str} {sp : Sp} {p pos : Pos} {e : Expr} {es : List Expr} {t : TA}
def tCallH (sp : Sp) (t : TA) : TE := fun σ H Q => t σ H fun vs H1 => sp vs H1 Q E0
theorem pe_dh (D : DefH X.prog X.w X.K X.mg X.base k x ps sp) (hr : L2H.RoomH k X.A) (hc : L2H.HotC X) (hg : Gl X x) (ha : PA X (e :: es) t) (hdb : (x == ("__debug__" : Str)) = false := by decide)
    (he : starEach (e :: es) X.env = (false, eval e X.env) :: starEach es X.env := by rfl) (hpl : (backTo pos (starEach es X.env)).any (·.1) = false := by rfl) : PE X (.Call (.Name x p) (e :: es) [] pos) (tCallH sp t) := by
  obtain ⟨f, fd, F, hm, hk, hb⟩ := D.ex
  exact L2H.pe_callH (E := fun _ => E0) F hr hc hg hm hk hb (fun _ => fun _ _ _ _ _ _ h => h.elim) ha hdb he hpl
end
theorem x_callH {sp : Sp} {t : TA} {σ : L2.St} {H : Hp} {Q : VK} (q : t σ H fun vs H1 => sp vs H1 Q E0) : tCallH sp t σ H Q := q
theorem hot_suite {X : Cx} {a : Addr} {oe : Obj} {cls : Value} {d : Option Addr} {pn : List (Addr × Obj)} (hz : L2N.Zn cls d oe) (hf : ∃ vs, oe.data = .fields vs) : L2H.HotC (X.suite a ((a, oe) :: pn)) := by
  obtain ⟨vs, e⟩ := hf
  exact ⟨(a, oe), ⟨rfl, vs, e, hz.2.2 vs e⟩, List.mem_cons_self ..⟩
theorem room_suite {X : Cx} {k : Nat} {a : Addr} {pn : List (Addr × Obj)} (hr : Room k X.A) : L2H.RoomH k (X.suite a pn).A := ⟨hr.dp, hr.un⟩

/-! ### dicts of whole numbers -/
section
variable {B H : Hp} {M R : List (Addr × HO)} {Q : VK} {σ : L2.St} {a : Addr} {Qh : Hp → Prop}
def newD (H : Hp) (Q : VK) : Prop := ∀ p, H p = none → Q (.ref p) (upd H p (.dK []))
theorem x_dnew (q : newD H Q) : tDNewK σ H Q := q
theorem x_newD (O : Own B H M R) (q : ∀ p H1, B p = none → Own B H1 M (R ++ [(p, .dK [])]) → Q (.ref p) H1) : newD H Q := fun p hp => q p _ (O.base_free hp) (O.new hp)
theorem x_setD {kvs : List (Key × V)} {i : Int} {v : V} (O : Own B H M R) (j : Nat) (hk : R[j]? = some (a, .dK kvs)) (hl : kvs.length < sizeLine) (q : ∀ H1, Own B H1 M (R.set j (a, .dK (putK kvs (Sum.inl i) v))) → Qh H1) : rSetD (.ref a) (.int i) v H Qh :=
  ⟨a, _, rfl, DPut.k (k := Sum.inl i) (O.get j hk) hl, q _ (O.put j hk _)⟩
end
def rSortedDI : List V → Hp → VK → Prop := fun xs H Q => ∃ (a : Addr) (kvs : List (Key × V)) (ks : List Int), xs = [.ref a] ∧ Rd H a (.dK kvs) ∧ kvs.map (·.1) = ks.map Sum.inl ∧ ks.length < 64 ∧
    ∀ (ys : List Int) (p : Addr), ys.Perm ks → ys.Pairwise (· ≤ ·) → H p = none → Q (.ref p) (upd H p (.lst (ys.map V.int)))
theorem callSortedDI {X : Cx} (hc : X.calm = true) : CallR X (.builtin "sorted") rSortedDI := call_sortedDI hc

/-! ### t + u -/
theorem x_catA {K : PySem.W.Frag} {H : Hp} {a b : Addr} {xs ys : List V} {Q : VK} (h1 : SqT K H a xs) (h2 : SqT K H b ys) (hz : xs.length + ys.length ≤ sizeLine)
    (q0 : xs = [] → Q (.ref b) H) (q1 : xs ≠ [] → ys = [] → Q (.ref a) H) (q2 : ∀ p, H p = none → Q (.ref p) (upd H p (.tup (xs ++ ys)))) : rCatA K (.ref a) (.ref b) H Q :=
  ⟨a, b, xs, ys, rfl, rfl, h1, h2, hz, q0, q1, fun _ _ => q2⟩
/-- a tuple that the module made -/
def KTu (K : PySem.W.Frag) (a : Addr) (xs : List V) : Prop := ∀ H, SqT K H a xs
end NF
namespace NF
open PySem L2 TL
/-! ### texts within texts; more -/
def rInStr : R2 := fun x y H Q => ∃ i j, x = .str i ∧ y = .str j ∧ Q (.bl (!(Builtin.Str.occurrences j i 0 j.length 1).isEmpty)) H
theorem opInStr {X : Cx} : OpR X (compareOp .In) rInStr := op_in_str
theorem found_no {z : Str} {c : Nat} {l : List Nat} (h : c ∉ tl z) : (!(Builtin.Str.occurrences z (mkS (c :: l)) 0 z.length 1).isEmpty) = false := by
  rw [Bool.eq_false_iff, Ne, StrLaws.found_iff]
  rintro ⟨i, hi⟩
  unfold Builtin.Str.subAt at hi
  have e := eq_of_beq hi.2
  have e2 : (z.cps.extract i (i + (mkS (c :: l)).length)).toList = c :: l := by rw [e]
  refine h ?_
  have m : c ∈ (z.cps.extract i (i + (mkS (c :: l)).length)).toList := by rw [e2]; exact List.mem_cons_self ..
  rw [Array.toList_extract] at m
  exact List.mem_of_mem_drop (List.mem_of_mem_take m)
theorem x_inStrNo {z : Str} {c : Nat} {l : List Nat} {H : Hp} {Q : VK} (h : c ∉ tl z) (q : Q (.bl false) H) : rInStr (.str (mkS (c :: l))) (.str z) H Q := ⟨_, _, rfl, rfl, by rw [found_no h]; exact q⟩
theorem x_inStr1 {z : Str} {c : Nat} {H : Hp} {Q : VK} (q : Q (.bl (decide (c ∈ tl z))) H) : rInStr (.str ⟨#[c]⟩) (.str z) H Q := ⟨_, _, rfl, rfl, by rw [StrLaws.found_one]; exact q⟩
theorem u1 {u : Nat} (h : u + 64 < cLine) : u + 1 < cLine := by omega
end NF

/-! A class's own __init__ and property as the head hands them over. -/
namespace NF
open PySem PySem.Spec PyProof.Rows L2
def sub (s : Stmt) (j : Nat) : Stmt := match s with
  | .ClassDef (body := b) .. => b.getD j (.Pass ⟨0, 0, 0, 0⟩)
  | _ => .Pass ⟨0, 0, 0, 0⟩
section
variable {P : Program} {w : World} {K : PySem.W.Frag} {mg : Str → Option Value} {base : Heap}
theorem MkX.make {x qual : Str} {st : Stmt} {N ps : List Str} {k : Nat} {sp : Sp} {f : Addr} {fd : FuncData} (hm : mg x = some (.ref (cad mg x))) (M : Mk K (cad mg x) f) (F : Fun K "__init__" qual st f fd) (S : FnScope N ps (defScope st)) (len : ∀ vs H Q E, sp vs H Q E → vs.length = ps.length)
    (hbind : ∀ (kV doc pm : Value) (an : Option Addr) (cdv ct : Value) (us : List Value), us.length = ps.length → bindArgs (PySem.W.fnOf "__init__" qual (defArgs st) (defBody st) (defScope st) .none kV doc pm an cdv ct) ⟨us, []⟩ = pure (ps.zip us))
    (hbody : ∀ {f : Addr} (cdv : Value) (A : Around) (outer : List Env) (s : Shared) (H : Hp) (vs : List V) (Q : VK) (E : XK), Room k (A.deeper (envOfC qual (defScope st) s.heap.objs.size f cdv)) → sp vs H Q E →
      L2N.Takes (cxOf (L2N.CX P w) P w K mg base N qual (defScope st) f cdv A outer s H E) (fun cls d _ H' => E cls d H') → PassesOwn (model P w) (A.deeper (envOfC qual (defScope st) s.heap.objs.size f cdv)) (envOfC qual (defScope st) s.heap.objs.size f cdv) (cxOf (L2N.CX P w) P w K mg base N qual (defScope st) f cdv A outer s H E).xe →
      ∃ t, PSs (cxOf (L2N.CX P w) P w K mg base N qual (defScope st) f cdv A outer s H E) (defBody st) t ∧ t { nx := fun _ H' => Q .non H', rt := Q } (start N vs) H) : MkX P w K mg base (k + 1) x ps sp := by
  obtain ⟨oc, od, kV, doc, pm, an, cdv, ct, osl, rfl, lk, hcd⟩ := F.ex
  exact ⟨f, _, M, fn_of lk hcd S len fun A outer s H vs Q E hr hsp => hbody cdv A outer s H vs Q E hr hsp (L2N.takes_of rfl rfl rfl rfl) (passes_of rfl), hm, F.binds hbind⟩
theorem PrX.make {x f qual fld : Str} {st : Stmt} {p g : Addr} {fd : FuncData} {p1 p2 p3 : Pos} (c : Cls K (cad mg x)) (hp : PropOf K (cad mg x) f p g) (F : Fun K f qual st g fd) (S : FnScope ["self"] ["self"] (defScope st))
    (hb : defBody st = [.Return (some (.Attribute (.Name "self" p1) fld p2)) p3]) (n : NoAttr K (cad mg x) fld)
    (hbind : ∀ (kV doc pm : Value) (an : Option Addr) (cdv ct : Value) (us : List Value), us.length = 1 → bindArgs (PySem.W.fnOf f qual (defArgs st) (defBody st) (defScope st) .none kV doc pm an cdv ct) ⟨us, []⟩ = pure ((["self"] : List Str).zip us)) : PrX P w K mg base x f fld := by
  obtain ⟨oc, od, kV, doc, pm, an, cdv, ct, osl, rfl, lk, hcd⟩ := F.ex
  exact ⟨p, g, _, c, hp, fn_getter (k := 0) lk hcd S rfl hb c n, F.binds hbind⟩
end
/-- what an own class has of its own -/
structure OCls (K : PySem.W.Frag) (C : Addr) (flds : List Str) (qi : Str) (sI : Stmt) : Prop where
  cl : Cls K C
  nf : ∀ f ∈ flds, NoAttr K C f
  ini : ∃ f fd, Mk K C f ∧ Fun K "__init__" qi sI f fd
def OPrp (K : PySem.W.Frag) (C : Addr) (f qual : Str) (st : Stmt) : Prop := ∃ p g fd, PropOf K C f p g ∧ Fun K f qual st g fd
section
variable {K : PySem.W.Frag} {H : Hp} {σ : L2.St} {D : Ends} {ta tv : TE} {f : Str}
theorem x_fldS (q : tv σ H fun y H1 => ta σ H1 fun x H2 => ∃ a C dx fs, x = .ref a ∧ H2 a = some (.ins C dx fs) ∧ Cls K C ∧ NoAttr K C f ∧ fs.length < 1000 ∧ D.nx σ (upd H2 a (.ins C dx (putF f y fs)))) : sFld K ta tv f D σ H := q
theorem x_setF {B : Hp} {M R : List (Addr × HO)} {a C dx : Addr} {fs : List (Str × V)} {y : V} (O : Own B H M R) (j : Nat) (hk : R[j]? = some (a, .ins C dx fs)) (c : Cls K C) (n : NoAttr K C f) (hl : fs.length < 1000) (q : ∀ H1, Own B H1 M (R.set j (a, .ins C dx (putF f y fs))) → D.nx σ H1) :
    ∃ a' C dx fs, V.ref a = .ref a' ∧ H a' = some (.ins C dx fs) ∧ Cls K C ∧ NoAttr K C f ∧ fs.length < 1000 ∧ D.nx σ (upd H a' (.ins C dx (putF f y fs))) :=
  ⟨a, C, dx, fs, rfl, O.get j hk, c, n, hl, q _ (O.put j hk _)⟩
end
end NF

/-! What the head hands over: own classes, properties, tuples of the module. -/
namespace NF
open PySem PySem.Spec PyProof.Rows PySem.W L2
theorem ktu_mk {K : Frag} {a : Addr} {od : Option Addr} {its : Array Value} {n : Nat} {sl : Array (Option Value)} {xs : List V} (h : K.lookup a = some ⟨.type "tuple", od, .seq its n, sl⟩) (hs : decide (its.size ≤ 1000) = true) (hv : Vals xs its.toList) : KTu K a xs :=
  fun H => .inr ⟨_, its, n, h, rfl, rfl, Nat.le_trans (of_decide_eq_true hs) (by rw [sizeLine_eq]; decide), hv⟩
def ocB (K : Frag) (C f : Addr) (flds : List Str) : Bool :=
  plainGet K C Str.empty && (hasDictIn K C && (plainOver K C && (decide (findIn K (.ref C) "__setattr__" = some (some (.builtin "object.__setattr__"))) && ((flds.all fun x => decide (findIn K (.ref C) x = some none)) &&
  (makesIn K C && (isFn K (.ref f) && (keepIn K (.ref C) && keepIn K (.ref f))))))))
theorem ocls_mk {K : Frag} {C f : Addr} {flds : List Str} {qi : Str} {sI : Stmt} {oc kV doc pm cdv ct : Value} {od an : Option Addr} {osl : Array (Option Value)} (ini : findIn K (.ref C) "__init__" = some (some (.ref f)))
    (lk : K.lookup f = some ⟨oc, od, .func (fnOf "__init__" qi (defArgs sI) (defBody sI) (defScope sI) .none kV doc pm an cdv ct), osl⟩) (cd : codeIn K cdv qi = true) (hb : ocB K C f flds = true) : OCls K C flds qi sI := by
  unfold ocB at hb
  simp only [Bool.and_eq_true, decide_eq_true_eq, List.all_eq_true] at hb
  obtain ⟨b1, b2, b3, b4, b5, b6, b7, b8, b9⟩ := hb
  exact ⟨⟨b1, b2, b3, b4⟩, b5, f, _, ⟨b6, ini, b7, b8⟩, fun_mk lk cd b9⟩
def opB (K : Frag) (p g : Addr) : Bool := decide (specialIn K (.ref p) "__get__" = some (some (.builtin "property.__get__"))) && (decide (takesIn K (.ref p) = some true) && keepIn K (.ref g))
theorem oprp_mk {K : Frag} {C p g : Addr} {f qual : Str} {st : Stmt} {oc kV doc pm cdv ct : Value} {od an : Option Addr} {osl : Array (Option Value)} {rest : List Value} (at_ : findIn K (.ref C) f = some (some (.ref p))) (rc : recIn K p "property" = some (.ref g :: rest))
    (lk : K.lookup g = some ⟨oc, od, .func (fnOf f qual (defArgs st) (defBody st) (defScope st) .none kV doc pm an cdv ct), osl⟩) (cd : codeIn K cdv qual = true) (hb : opB K p g = true) : OPrp K C f qual st := by
  unfold opB at hb
  simp only [Bool.and_eq_true, decide_eq_true_eq] at hb
  obtain ⟨b1, b2, b3⟩ := hb
  exact ⟨p, g, _, ⟨at_, b1, b2, rest, rc⟩, fun_mk lk cd b3⟩
theorem ocls_at {K : Frag} {h : Heap} {mg : Str → Option Value} {x : Str} {c : Addr} {flds : List Str} {qi : Str} {sI : Stmt} (X : K.In h) (G : h.Ns mainGlobals mg) (n : nsIn K mainGlobals x = some (some (.ref c))) (o : OCls K c flds qi sI) : OCls K (cad mg x) flds qi sI := by
  rw [cad_eq (mg_of X G n)]
  exact o
theorem prx_at {P : Program} {w : World} {K : Frag} {h : Heap} {mg : Str → Option Value} {base : Heap} {x f qual fld : Str} {c : Addr} {flds : List Str} {qi : Str} {sI st : Stmt} {p1 p2 p3 : Pos} (X : K.In h) (G : h.Ns mainGlobals mg) (n : nsIn K mainGlobals x = some (some (.ref c))) (o : OCls K c flds qi sI) (hp : OPrp K c f qual st)
    (S : FnScope ["self"] ["self"] (defScope st)) (hb : defBody st = [.Return (some (.Attribute (.Name "self" p1) fld p2)) p3]) (hf : fld ∈ flds)
    (hbind : ∀ (kV doc pm : Value) (an : Option Addr) (cdv ct : Value) (us : List Value), us.length = 1 → bindArgs (fnOf f qual (defArgs st) (defBody st) (defScope st) .none kV doc pm an cdv ct) ⟨us, []⟩ = pure ((["self"] : List Str).zip us)) : PrX P w K mg base x f fld := by
  have e := cad_eq (mg_of X G n)
  obtain ⟨p, g, fd, q1, F⟩ := hp
  exact PrX.make (by rw [e]; exact o.cl) (by rw [e]; exact q1) F S hb (by rw [e]; exact o.nf _ hf) hbind
end NF

namespace NF
open PySem L2 TL
def top (i : Nat) : Stmt := PySem.Challenge.pw_nestform_k04_row_faults.main.body.getD i (.Pass ⟨0, 0, 0, 0⟩)
abbrev s_wall : Stmt := top 0
abbrev s_tokens_of : Stmt := top 14
abbrev s_parsed : Stmt := top 15
abbrev s_linked : Stmt := top 16
abbrev s_sequence : Stmt := top 17
abbrev s_choice : Stmt := top 18
abbrev s_repeated : Stmt := top 19
abbrev s_law_box : Stmt := top 23
abbrev s_law_fill : Stmt := top 24
abbrev s_law_draw : Stmt := top 25
abbrev s_law_word : Stmt := top 26
abbrev s_law_is_word : Stmt := top 27
abbrev s_law_tokens : Stmt := top 28
abbrev s_law_written : Stmt := top 29
abbrev s_law_char : Stmt := top 30
abbrev s_law_changed : Stmt := top 31
abbrev s_law_fault : Stmt := top 32
abbrev s_law_runs : Stmt := top 33
abbrev s_law_is_whole : Stmt := top 34
abbrev s_law_right_words : Stmt := top 35
abbrev s_law_told : Stmt := top 36
abbrev s_law : Stmt := top 37
abbrev s_Row_init : Stmt := sub (top 21) 0
structure Txt (P : Program) (K : PySem.W.Frag) (mg : Str → Option Value) : Prop where
  b_ValueError : mg "ValueError" = none
  b_abs : mg "abs" = none
  b_all : mg "all" = none
  b_bool : mg "bool" = none
  b_enumerate : mg "enumerate" = none
  b_int : mg "int" = none
  b_isinstance : mg "isinstance" = none
  b_len : mg "len" = none
  b_range : mg "range" = none
  b_sorted : mg "sorted" = none
  b_str : mg "str" = none
  b_tuple : mg "tuple" = none
  g_ALPHABET : ∃ u, mg "ALPHABET" = some u ∧ RelV (.str "abcdefghijklmnopqrstuvwxyz") u
  g_MOST_LETTERS : ∃ u, mg "MOST_LETTERS" = some u ∧ RelV (.int 8) u
  g_MOST_OPEN : ∃ u, mg "MOST_OPEN" = some u ∧ RelV (.int 8) u
  g_MOST_WORDS : ∃ u, mg "MOST_WORDS" = some u ∧ RelV (.int 12) u
  g_REPEATS : ∃ u, mg "REPEATS" = some u ∧ RelV (.str "*+?") u
  n_BadLine : mg "BadLine" = some (.ref (cad mg "BadLine"))
  n_BadRow : mg "BadRow" = some (.ref (cad mg "BadRow"))
  n_LimitError : mg "LimitError" = some (.ref (cad mg "LimitError"))
  n_NestError : mg "NestError" = some (.ref (cad mg "NestError"))
  n_Row : mg "Row" = some (.ref (cad mg "Row"))
  n_UnknownKind : mg "UnknownKind" = some (.ref (cad mg "UnknownKind"))
  t_EMPTY : mg "EMPTY" = some (.ref (cad mg "EMPTY"))
  k_EMPTY : ∃ a b : Addr, KTu K (cad mg "EMPTY") [.bl true, .ref a, .ref b] ∧ KTu K a [] ∧ KTu K b []
  x_BadRow : XFact P K mg "BadRow" "index"
  p_BadRow_BadLine : XPair K (.ref (cad mg "BadRow")) (.ref (cad mg "BadLine")) false
  p_BadRow_BadRow : XPair K (.ref (cad mg "BadRow")) (.ref (cad mg "BadRow")) true
  p_BadRow_LimitError : XPair K (.ref (cad mg "BadRow")) (.ref (cad mg "LimitError")) false
  p_BadRow_NestError : XPair K (.ref (cad mg "BadRow")) (.ref (cad mg "NestError")) true
  p_BadRow_UnknownKind : XPair K (.ref (cad mg "BadRow")) (.ref (cad mg "UnknownKind")) false
  p_BadRow_ValueError : XPair K (.ref (cad mg "BadRow")) (.type "ValueError") true
/-! the walk's own steps -/
local macro_rules | `(tactic| walk_at "own") => `(tactic| first
  | assumption
  | (refine' NF.Own.get ?O 0 ?h; (case O => assumption); (case h => exact rfl))
  | (refine' NF.Own.get ?O 1 ?h; (case O => assumption); (case h => exact rfl))
  | (refine' NF.Own.get ?O 2 ?h; (case O => assumption); (case h => exact rfl))
  | (refine' NF.Own.get ?O 3 ?h; (case O => assumption); (case h => exact rfl))
  | (refine' NF.Own.get ?O 4 ?h; (case O => assumption); (case h => exact rfl))
  | (refine' NF.Own.get ?O 5 ?h; (case O => assumption); (case h => exact rfl)))
local macro_rules | `(tactic| walk_at "atn") => `(tactic| first | assumption | exact rfl | (exact L2.atI_nat (by assumption)))
local macro_rules | `(tactic| walk_at "len") => `(tactic| first
  | assumption
  | (simp only [List.length_cons, List.length_nil, List.length_append, List.length_map, NF.len_app, NF.len_mk, NF.len_ch, sizeLine_eq]; done)
  | (simp only [List.length_cons, List.length_nil, List.length_append, List.length_map, List.length_reverse, NF.len_app, NF.len_mk, NF.len_ch, sizeLine_eq]; omega)
  | (rw [sizeLine_eq]; omega)
  | decide
  | omega)
local macro_rules | `(tactic| walk_at "mul") => `(tactic| first | exact Or.inr ⟨by decide, by decide⟩ | exact Or.inl ⟨by decide, by decide⟩ | exact Or.inl ⟨by omega, by omega⟩ | exact Or.inr ⟨by omega, by omega⟩)
set_option hygiene false in
local macro_rules | `(tactic| walk_at "nO") => `(tactic| try dsimp only [List.set, List.cons_append, List.nil_append, List.append_nil, Int.reduceToNat] at O)
set_option hygiene false in
local macro_rules | `(tactic| walk_at "in2") => `(tactic| (intro H1 O; walk_at "nO"))
set_option hygiene false in
local macro_rules | `(tactic| walk_at "in4") => `(tactic| (intro p H1 hp O; walk_at "nO"))
local macro_rules | `(tactic| walk_at "mut") => `(tactic| first
  | ((with_reducible show rSetL _ _ _ _ _); first
      | (refine' NF.x_setL ?O 0 ?hk ?hi ?q; (case O => assumption); (case hk => exact rfl); (case hi => exact rfl); walk_at "in2")
      | (refine' NF.x_setL ?O 1 ?hk ?hi ?q; (case O => assumption); (case hk => exact rfl); (case hi => exact rfl); walk_at "in2")
      | (refine' NF.x_setL ?O 2 ?hk ?hi ?q; (case O => assumption); (case hk => exact rfl); (case hi => exact rfl); walk_at "in2")
      | (refine' NF.x_setL ?O 3 ?hk ?hi ?q; (case O => assumption); (case hk => exact rfl); (case hi => exact rfl); walk_at "in2"))
  | ((with_reducible show rAppend _ _ _ _); first
      | (refine' NF.x_append ?O 0 ?hk ?hz ?q; (case O => assumption); (case hk => exact rfl); (case hz => walk_at "len"); walk_at "in2")
      | (refine' NF.x_append ?O 1 ?hk ?hz ?q; (case O => assumption); (case hk => exact rfl); (case hz => walk_at "len"); walk_at "in2")
      | (refine' NF.x_append ?O 2 ?hk ?hz ?q; (case O => assumption); (case hk => exact rfl); (case hz => walk_at "len"); walk_at "in2")
      | (refine' NF.x_append ?O 3 ?hk ?hz ?q; (case O => assumption); (case hk => exact rfl); (case hz => walk_at "len"); walk_at "in2")))
local macro_rules | `(tactic| walk_at "new") => `(tactic| first
  | ((with_reducible show NF.newL _ _ _); refine' NF.x_newL ?O ?hz ?q; (case O => assumption); (case hz => walk_at "len"); walk_at "in4")
  | ((with_reducible show NF.newT _ _ _); refine' NF.x_newT ?O ?hz ?q; (case O => assumption); (case hz => walk_at "len"); walk_at "in4"))
local macro_rules | `(tactic| walk_at "isi") => `(tactic| ((with_reducible show NF.rIsT _ _ _ _); first
  | (refine' NF.x_isI ?hb ?_; (case hb => first | exact NF.kit_int_int | exact NF.kit_int_bool | exact NF.kit_int_str | exact NF.kit_int_list | exact NF.kit_int_tuple | exact NF.kit_int_dict))
  | (refine' NF.x_isB ?hb ?_; (case hb => first | exact NF.kit_bool_int | exact NF.kit_bool_bool | exact NF.kit_bool_str | exact NF.kit_bool_list | exact NF.kit_bool_tuple | exact NF.kit_bool_dict))
  | (refine' NF.x_isS ?hb ?_; (case hb => first | exact NF.kit_str_int | exact NF.kit_str_bool | exact NF.kit_str_str | exact NF.kit_str_list | exact NF.kit_str_tuple | exact NF.kit_str_dict))
  | (refine' NF.x_isNon ?hb ?_; (case hb => first | exact NF.kit_NoneType_int | exact NF.kit_NoneType_bool | exact NF.kit_NoneType_str | exact NF.kit_NoneType_list | exact NF.kit_NoneType_tuple | exact NF.kit_NoneType_dict))
  | (refine' NF.x_isL ?h ?hb ?_; (case h => walk_at "own"); (case hb => first | exact NF.kit_list_int | exact NF.kit_list_bool | exact NF.kit_list_str | exact NF.kit_list_list | exact NF.kit_list_tuple | exact NF.kit_list_dict))
  | (refine' NF.x_isT ?h ?hb ?_; (case h => walk_at "own"); (case hb => first | exact NF.kit_tuple_int | exact NF.kit_tuple_bool | exact NF.kit_tuple_str | exact NF.kit_tuple_list | exact NF.kit_tuple_tuple | exact NF.kit_tuple_dict))))
local macro_rules | `(tactic| walk_at "s1") => `(tactic| first
  | with_reducible refine NF.x_seq ?_
  | with_reducible refine NF.x_asg ?_
  | with_reducible refine NF.x_op ?_
  | ((with_reducible show tVar _ _ _ _); first | refine NF.x_var rfl ?_ | refine NF.x_var (by assumption) ?_)
  | with_reducible refine NF.x_c ?_
  | with_reducible refine NF.x_cons ?_
  | with_reducible refine NF.x_nil ?_
  | with_reducible refine NF.x_cb ?_
  | with_reducible refine NF.x_call ?_
  | with_reducible refine NF.x_callX ?_
  | with_reducible refine NF.x_chain ?_
  | with_reducible refine NF.x_mkX ?_
  | with_reducible refine NF.x_name ?_
  | with_reducible refine NF.x_sub ?_
  | with_reducible refine NF.x_drop ?_
  | with_reducible refine NF.x_ret ?_
  | with_reducible refine NF.x_retN ?_
  | with_reducible refine NF.x_next ?_
  | with_reducible refine NF.x_brk ?_
  | with_reducible refine NF.x_cnt ?_
  | with_reducible refine NF.x_ifs ?_
  | with_reducible refine NF.x_if ?_
  | with_reducible refine NF.x_test ?_
  | with_reducible refine NF.x_B ?_
  | with_reducible refine NF.x_not ?_
  | with_reducible refine NF.x_andV ?_
  | with_reducible refine NF.x_orV ?_
  | with_reducible refine NF.x_notV ?_
  | with_reducible refine NF.x_tru ?_
  | with_reducible refine NF.x_lst ?_
  | with_reducible refine NF.x_tup ?_
  | with_reducible refine NF.x_bm ?_
  | with_reducible refine NF.x_bm0 ?_
  | with_reducible refine NF.x_un ?_
  | with_reducible refine NF.x_bl ?_
  | with_reducible refine NF.x_tt ?_
  | with_reducible refine NF.x_ff ?_
  | with_reducible refine NF.x_nt ?_
  | with_reducible refine NF.x_nf ?_
  | with_reducible refine NF.x_I0 ?_
  | with_reducible refine NF.x_U ?_
  | with_reducible refine NF.x_int ?_
  | with_reducible refine NF.x_min2 ?_
  | with_reducible refine NF.x_max2 ?_
  | with_reducible refine NF.x_abs ?_
  | with_reducible refine NF.x_isNn ?_
  | with_reducible refine NF.x_notNn ?_
  | with_reducible refine NF.x_isNi ?_
  | with_reducible refine NF.x_notNi ?_
  | with_reducible refine NF.x_isNs ?_
  | with_reducible refine NF.x_notNs ?_
  | with_reducible refine NF.x_isNb ?_
  | with_reducible refine NF.x_notNb ?_
  | with_reducible refine NF.x_isNr ?_
  | with_reducible refine NF.x_notNr ?_
  | with_reducible refine NF.x_isN ?_
  | with_reducible refine NF.x_notN ?_
  | with_reducible refine NF.x_inC ?_
  | with_reducible refine NF.x_notInC ?_
  | with_reducible refine NF.x_find ?_
  | with_reducible refine NF.x_tyS ?_
  | with_reducible refine NF.x_truB ?_
  | with_reducible refine NF.x_truI ?_
  | with_reducible refine NF.x_truN ?_
  | ((with_reducible show rI CMul _ _ _ _ _); refine NF.x_I ?hc ?_; (case hc => walk_at "mul"))
  | ((with_reducible show rI CPow _ _ _ _ _); refine NF.x_I ?hc ?_; (case hc => exact ⟨by decide, by decide, by decide⟩))
  | ((with_reducible show rI CDivW _ _ _ _ _); refine NF.x_I ?hc ?_; (case hc => first | assumption | exact ⟨by assumption, by assumption⟩ | exact ⟨by decide, by decide +kernel⟩))
  | ((with_reducible show rI _ _ _ _ _ _); refine NF.x_I ?hc ?_; (case hc => first | assumption | (show (0 : Int) < _; omega) | decide))
  | ((with_reducible show rEq _ _ _ _); refine NF.x_eq (by rfl) ?_)
  | ((with_reducible show rNe _ _ _ _); refine NF.x_ne (by rfl) ?_)
  | ((with_reducible show rIxL _ _ _ _ _); refine' NF.x_ixL ?h ?hv ?_; (case h => walk_at "own"); (case hv => walk_at "atn"))
  | ((with_reducible show rIxT _ _ _ _ _); refine' NF.x_ixT ?h ?hv ?_; (case h => walk_at "own"); (case hv => walk_at "atn"))
  | ((with_reducible show rIxS _ _ _ _); refine' NF.x_ixS ?h ?hv ?_; (case h => walk_at "len"); (case hv => walk_at "atn"))
  | ((with_reducible show rLen _ [V.str _] _ _); refine NF.x_lenS ?h ?_; (case h => walk_at "len"))
  | ((with_reducible show rLen _ [V.ref _] _ _); first | (refine' NF.x_lenL ?h ?_; (case h => walk_at "own")) | (refine' NF.x_lenT ?h ?_; (case h => walk_at "own")))
  | ((with_reducible show rAddS _ _ _ _); refine NF.x_addS ?h ?_; (case h => walk_at "len"))
  | ((with_reducible show rUpper _ _ _ _); refine NF.x_upper ?h ?_; (case h => walk_at "len"))
  | ((with_reducible show rLower _ _ _ _); refine NF.x_lower ?h ?_; (case h => walk_at "len"))
  | ((with_reducible show tyV _ "list" _ _ ∧ _); refine' NF.x_tyL ?h ?_; (case h => walk_at "own"))
  | ((with_reducible show ∃ k, TruV _ (V.ref _) _ k ∧ _); refine' NF.x_truL ?h ?_; (case h => walk_at "own"))
  | ((with_reducible show ∃ k, TruV _ (V.str _) _ k ∧ _); refine' NF.x_truS ?h ?_; (case h => walk_at "len"))
  | with_reducible refine NF.x_sl ?_
  | with_reducible refine NF.x_noPart ?_
  | with_reducible refine NF.x_part ?_
  | with_reducible refine NF.x_pI ?_
  | ((with_reducible show rSlS _ _ _ _ _); refine NF.x_slS ?h ?_; (case h => walk_at "len"))
  | with_reducible refine NF.x_for ?_
  | with_reducible refine NF.x_lc ?_
  | with_reducible refine NF.x_yes ?_
  | ((with_reducible show NF.rLtIS _ _ _ _ _); refine' NF.x_ltIS ?ha ?hb ?_; (case ha => walk_at "own"); (case hb => walk_at "own"))
  | with_reducible refine NF.x_lstRg1 ?_
  | with_reducible refine NF.x_pI ?_
  | with_reducible refine NF.x_jR1 ?_
  | with_reducible refine NF.x_jR2 ?_
  | with_reducible refine NF.x_jL ?_
  | with_reducible refine NF.x_jT ?_
  | with_reducible refine NF.x_jS ?_
  | with_reducible refine NF.x_jE ?_
  | with_reducible refine NF.x_jEL ?_
  | walk_at "isi"
  | walk_at "mut")
local macro_rules | `(tactic| walk_at "go") => `(tactic| repeat (first | walk_at "s1" | walk_at "ao" | walk_at "new"))
local macro_rules | `(tactic| walk_at "ao") => `(tactic| first
  | with_reducible refine NF.x_and ?_
  | with_reducible refine NF.x_or ?_)
local macro_rules | `(tactic| walk_at "gw") => `(tactic| repeat (first | walk_at "s1" | walk_at "ao"))
local macro_rules | `(tactic| walk_at "gn") => `(tactic| repeat walk_at "s1")
section
variable {P : Program} {w : World} {K : PySem.W.Frag} {mg : Str → Option Value} {base : Heap}
/-! promises and steps that more than one law uses -/
abbrev nV (n : Nat) : V := .int n
def fv : Option Nat → V
  | none => .non
  | some n => .int (n : Int)
theorem tl_at {z : Str} {i c : Nat} (h : z.cps[i]? = some c) : (tl z)[i]? = some c := by rw [Array.getElem?_toList]; exact h
abbrev fI (x : Str) (i : Int) : List (Str × V) := [(x, .int i)]
def spN (n : Nat) (pre : List V → Prop) (post : List V → V → List (Addr × HO) → Prop) : Sp := fun vs H Q _ => vs.length = n ∧ pre vs ∧ ∀ v H' N, (∀ x ∈ N, H x.1 = none) → Own H H' [] N → post vs v N → Q v H'
theorem hl_spN {n : Nat} {pre : List V → Prop} {post : List V → V → List (Addr × HO) → Prop} : ∀ vs H Q E, spN n pre post vs H Q E → vs.length = n := fun vs H Q E h => h.1
theorem use_spN {B H : Hp} {M R : List (Addr × HO)} {n : Nat} {pre : List V → Prop} {post : List V → V → List (Addr × HO) → Prop} {vs : List V} {Q : VK} {E : XK} (O : Own B H M R) (hl : vs.length = n) (hp : pre vs)
    (q : ∀ v H' N, (∀ x ∈ N, B x.1 = none) → Own B H' M (R ++ N) → post vs v N → Q v H') : spN n pre post vs H Q E :=
  ⟨hl, hp, fun v H' N hn O' h => q v H' N (fun x hx => O.base_free (hn x hx)) (O.callN O' hn) h⟩
def spNX (mg : Str → Option Value) (n : Nat) (pre : List V → Prop) (post : List V → V → List (Addr × HO) → Prop) (exc : ExS) : Sp := fun vs H Q E => vs.length = n ∧ pre vs ∧ (∀ v H' N, (∀ x ∈ N, H x.1 = none) → Own H H' [] N → post vs v N → Q v H') ∧
  ∀ x fs d H', Own H H' [] [] → exc vs x fs → H d = none → H' d = some (.xd fs) → E (.ref (cad mg x)) (some d) H'
theorem hl_spNX {mg : Str → Option Value} {n : Nat} {pre : List V → Prop} {post : List V → V → List (Addr × HO) → Prop} {exc : ExS} : ∀ vs H Q E, spNX mg n pre post exc vs H Q E → vs.length = n := fun vs H Q E h => h.1
theorem use_spNX {mg : Str → Option Value} {B H : Hp} {M R : List (Addr × HO)} {n : Nat} {pre : List V → Prop} {post : List V → V → List (Addr × HO) → Prop} {exc : ExS} {vs : List V} {Q : VK} {E : XK} (O : Own B H M R) (hl : vs.length = n) (hp : pre vs)
    (q : ∀ v H' N, (∀ x ∈ N, B x.1 = none) → Own B H' M (R ++ N) → post vs v N → Q v H') (e : ∀ x fs d H', Own B H' M R → exc vs x fs → B d = none → H' d = some (.xd fs) → E (.ref (cad mg x)) (some d) H') : spNX mg n pre post exc vs H Q E :=
  ⟨hl, hp, fun v H' N hn O' h => q v H' N (fun x hx => O.base_free (hn x hx)) (O.callN O' hn) h, fun x fs d H' O' h h1 h2 => e x fs d H' (O.call0 O') h (O.base_free h1) h2⟩
theorem Own.mem {B H : Hp} {M R : List (Addr × HO)} {x : Addr × HO} (O : Own B H M R) (h : x ∈ R) : H x.1 = some x.2 := O.at_ x (List.mem_append_right _ h)
theorem Own.front {B H : Hp} {M R N : List (Addr × HO)} (O : Own B H M (R ++ N)) (hn : ∀ x ∈ N, B x.1 = none) : Own B H M R := (O.perm List.perm_append_comm).dropTo hn
theorem Own.track {B H : Hp} {d : Addr} {o : HO} (O : Own B H [] []) (hd : H d = some o) : Own B H [] [(d, o)] :=
  ⟨by simp, fun x hx => by
    have e : x = (d, o) := by simpa using hx
    rw [e]
    exact hd, fun b hb u e => O.out b (by simp) u e⟩
theorem Own.shift {B H : Hp} {M R : List (Addr × HO)} {x : Addr × HO} (O : Own B H M (R ++ [x])) : Own B H (M ++ [x]) R := by
  have e : (M ++ (R ++ [x])).Perm (M ++ [x] ++ R) := by
    rw [List.append_assoc]
    exact List.Perm.append_left M List.perm_append_comm
  exact ⟨(e.map Prod.fst).nodup_iff.mp O.nd, fun y hy => O.at_ y (e.mem_iff.mpr hy), fun b hb o q => O.out b (fun z => hb ((e.map Prod.fst).mem_iff.mp z)) o q⟩
theorem Own.toOpen {B H : Hp} {M R R' : List (Addr × HO)} (O : Own B H M R) (e : (M ++ R).Perm R') : Own B H [] R' := by
  have e : (M ++ R).Perm ([] ++ R') := e
  exact ⟨(e.map Prod.fst).nodup_iff.mp O.nd, fun y hy => O.at_ y (e.mem_iff.mpr hy), fun b hb o q => O.out b (fun z => hb ((e.map Prod.fst).mem_iff.mp z)) o q⟩
theorem Own.stays {B H : Hp} {p a : Addr} {o u : HO} (O : Own B H [] [(p, u)]) (hp : B p = none) (h : B a = some o) : H a = some o := by
  refine O.out a (fun q => ?_) _ h
  have e : a = p := by simpa using q
  rw [e, hp] at h
  cases h
theorem Own.staysR {B H : Hp} {R : List (Addr × HO)} {a : Addr} {o : HO} (O : Own B H [] R) (hR : ∀ x ∈ R, B x.1 = none) (h : B a = some o) : H a = some o := by
  refine O.out a (fun q => ?_) _ h
  obtain ⟨x, hx, e⟩ := List.mem_map.mp q
  have n := hR x hx
  rw [e, h] at n
  cases n
theorem lc_lst2 {K : PySem.W.Frag} {B H : Hp} {M R : List (Addr × HO)} {Q : VK} {σ : L2.St} {tt : TT} {te : TE} {j : Nat} {a : Addr} {xs : List V} (hx : SqL K H a xs) (O : Own B H M R) (Pv : Nat → List V → List (Addr × HO) → Prop)
    (hG : ∀ i H' M' p acc, B p = none → Pv i acc M' → Own B H' M' (R ++ [(p, .lst acc)]) → SqL K H' a xs) (h0 : Pv 0 [] M)
    (hs : ∀ (i : Nat) x H' M' p acc, B p = none → xs[i]? = some x → acc.length ≤ i → Pv i acc M' → Own B H' M' (R ++ [(p, .lst acc)]) →
      tt ((wipe σ [j]).set j (some x)) H' fun b H3 => if b = true then te ((wipe σ [j]).set j (some x)) H3 (lcEnd B R p i (Pv (i + 1))) else lcSkip B R p i (Pv (i + 1)) H3)
    (hd : ∀ p H' M' acc, B p = none → acc.length ≤ xs.length → Pv xs.length acc M' → Own B H' M' (R ++ [(p, .lst acc)]) → Q (.ref p) H') : jList K (.ref a) H (lcR (gName j) tt te [j] σ Q) := by
  refine ⟨a, rfl, ⟨xs, hx⟩, fun p hp => ?_⟩
  refine lc_it walk_list (fun i H' => ∃ M' acc, acc.length ≤ i ∧ Pv i acc M' ∧ Own B H' M' (R ++ [(p, .lst acc)])) ⟨M, [], Nat.le_refl _, h0, O.new hp⟩ (fun i H' _ ⟨M', acc, _, pv, O'⟩ => hG i H' M' p acc (O.base_free hp) pv O') ?_ (fun H' ⟨M', acc, l, pv, O'⟩ => hd p H' M' acc (O.base_free hp) l pv O')
  rintro i x H' H'' hi ⟨M', acc, hl, pv, O'⟩ ⟨rfl, hx⟩
  exact ⟨set_wipe σ j _, hs i x _ M' p acc (O.base_free hp) hx hl pv O'⟩
theorem lc_tup2 {K : PySem.W.Frag} {B H : Hp} {M R : List (Addr × HO)} {Q : VK} {σ : L2.St} {tt : TT} {te : TE} {j : Nat} {a : Addr} {xs : List V} (hx : SqT K H a xs) (O : Own B H M R) (Pv : Nat → List V → List (Addr × HO) → Prop)
    (hG : ∀ i H' M' p acc, B p = none → Pv i acc M' → Own B H' M' (R ++ [(p, .lst acc)]) → SqT K H' a xs) (h0 : Pv 0 [] M)
    (hs : ∀ (i : Nat) x H' M' p acc, B p = none → xs[i]? = some x → acc.length ≤ i → Pv i acc M' → Own B H' M' (R ++ [(p, .lst acc)]) →
      tt ((wipe σ [j]).set j (some x)) H' fun b H3 => if b = true then te ((wipe σ [j]).set j (some x)) H3 (lcEnd B R p i (Pv (i + 1))) else lcSkip B R p i (Pv (i + 1)) H3)
    (hd : ∀ p H' M' acc, B p = none → acc.length ≤ xs.length → Pv xs.length acc M' → Own B H' M' (R ++ [(p, .lst acc)]) → Q (.ref p) H') : jTup K (.ref a) H (lcR (gName j) tt te [j] σ Q) := by
  refine ⟨a, rfl, ⟨xs, hx⟩, fun p hp => ?_⟩
  refine lc_it walk_tup (fun i H' => ∃ M' acc, acc.length ≤ i ∧ Pv i acc M' ∧ Own B H' M' (R ++ [(p, .lst acc)])) ⟨M, [], Nat.le_refl _, h0, O.new hp⟩ (fun i H' _ ⟨M', acc, _, pv, O'⟩ => hG i H' M' p acc (O.base_free hp) pv O') ?_ (fun H' ⟨M', acc, l, pv, O'⟩ => hd p H' M' acc (O.base_free hp) l pv O')
  rintro i x H' H'' hi ⟨M', acc, hl, pv, O'⟩ ⟨rfl, hx⟩
  exact ⟨set_wipe σ j _, hs i x _ M' p acc (O.base_free hp) hx hl pv O'⟩
theorem x_rep {B H : Hp} {M R : List (Addr × HO)} {a : Addr} {xs : List V} {k : Int} {Q : VK} (O : Own B H M R) (ha : H a = some (.lst xs)) (h1 : -(2 ^ 63) ≤ k) (h2 : k < 2 ^ 63) (hz : xs.length * k.toNat ≤ sizeLine)
    (q : ∀ p H1, B p = none → Own B H1 M (R ++ [(p, .lst (List.replicate k.toNat xs).flatten)]) → Q (.ref p) H1) : rRep (.ref a) (.int k) H Q := ⟨a, k, xs, rfl, rfl, ha, h1, h2, hz, fun p hp => q p _ (O.base_free hp) (O.new hp)⟩
theorem rep_one (v : V) (n : Nat) : (List.replicate n [v]).flatten = List.replicate n v := by
  induction n with
  | zero => rfl
  | succ n ih => rw [List.replicate_succ, List.flatten_cons, ih]; rfl
theorem log_small {j : Nat} (h : j ≤ 10000000) : ((j : Int).natAbs).log2 < 1900 := by
  rw [Int.natAbs_natCast]
  by_cases z : j = 0
  · rw [z]; decide
  · have h1 : j < 2 ^ 24 := by omega
    have h2 := (Nat.log2_lt z).mpr h1
    omega
theorem tl_mul (x : Str) (n : Int) : tl (Txt.mul x n) = (List.replicate n.toNat (tl x)).flatten := by
  unfold Txt.mul
  by_cases h : n < 1
  · rw [if_pos h, show n.toNat = 0 by omega]
    rfl
  · rw [if_neg h]
    by_cases h2 : (n == 1 || x.length == 0) = true
    · rw [if_pos h2]
      simp only [Bool.or_eq_true, beq_iff_eq] at h2
      rcases h2 with h2 | h2
      · rw [h2]
        simp
      · have e : tl x = [] := List.length_eq_zero_iff.mp (by rw [← len_tl]; exact h2)
        rw [e]
        simp
    · rw [if_neg h2]
      have e : ∀ (k : Nat) (a : Array Nat), ((List.replicate k x.cps).foldl (· ++ ·) a).toList = a.toList ++ (List.replicate k x.cps.toList).flatten := by
        intro k
        induction k with
        | zero => intro a; simp
        | succ k ih => intro a; rw [List.replicate_succ, List.foldl_cons, ih, List.replicate_succ, List.flatten_cons, Array.toList_append, List.append_assoc]
      exact (e n.toNat #[]).trans (List.nil_append _)
theorem flat_one {α : Type} (c : α) (k : Nat) : (List.replicate k [c]).flatten = List.replicate k c := by
  induction k with
  | zero => rfl
  | succ k ih => rw [List.replicate_succ, List.flatten_cons, ih]; rfl
theorem flat_len {α : Type} (l : List α) (k : Nat) : (List.replicate k l).flatten.length = k * l.length := by
  induction k with
  | zero => simp
  | succ k ih => rw [List.replicate_succ, List.flatten_cons, List.length_append, ih, Nat.succ_mul]; omega
theorem tl_mul1 (c : Nat) (n : Int) : tl (Txt.mul ⟨#[c]⟩ n) = List.replicate n.toNat c := by rw [tl_mul]; exact flat_one c _
theorem len_mul1 (c : Nat) (n : Int) : (Txt.mul ⟨#[c]⟩ n).length = n.toNat := by rw [len_tl, tl_mul1, List.length_replicate]
theorem x_neDT {K : PySem.W.Frag} {H : Hp} {a b : Addr} {xs : List V} {ds : List PyData} {Q : VK} (ha : H a = some (.tup xs)) (hb : H b = some (.tup xs)) (hd : DpAll K H xs ds) (hs : SeqAt.shaped (.tuple ds) = true) (q : Q (.bl false) H) : rNeD K (.ref a) (.ref b) H Q :=
  ⟨_, _, .tup (SqT.of ha) hd, .tup (SqT.of hb) hd, hs, hs, by rw [SeqAt.eqv_refl _ (SeqAt.canLay_of_shaped hs)]; exact q⟩
theorem strOk_of (x : String) : PyData.strOk (Str.ofString x) = true := by
  unfold PyData.strOk
  rw [← Array.all_toList]
  have e : (Str.ofString x).cps.toList = tl (Str.ofString x) := rfl
  rw [e, tl_ofString, List.all_eq_true]
  intro n hn
  obtain ⟨c, _, rfl⟩ := List.mem_map.mp hn
  have v := c.valid
  refine decide_eq_true ?_
  show c.val.toNat < 1114112
  rcases v with v | ⟨_, v⟩ <;> omega
def rTupOf (K : PySem.W.Frag) : List V → Hp → VK → Prop := fun xs H Q => ∃ p ys, xs = [.ref p] ∧ ((SqL K H p ys ∧ ∀ l, H l = none → Q (.ref l) (upd H l (.tup ys))) ∨ (SqT K H p ys ∧ Q (.ref p) H))
theorem callTupleOf {X : Cx} : CallR X (.type "tuple") (rTupOf X.K) := call_tuple_of
theorem x_tupOf {B H : Hp} {M R : List (Addr × HO)} {K : PySem.W.Frag} {a : Addr} {xs : List V} {Q : VK} (O : Own B H M R) (h : H a = some (.lst xs)) (q : ∀ p H1, B p = none → Own B H1 M (R ++ [(p, .tup xs)]) → Q (.ref p) H1) : rTupOf K [.ref a] H Q :=
  ⟨a, xs, rfl, .inl ⟨SqL.of h, fun l hl => q l _ (O.base_free hl) (O.new hl)⟩⟩
theorem x_catT {K : PySem.W.Frag} {B H : Hp} {M R : List (Addr × HO)} {a b : Addr} {xs ys : List V} {Q : VK} (O : Own B H M R) (h1 : H a = some (.tup xs)) (h2 : H b = some (.tup ys)) (hx : xs ≠ []) (hy : ys ≠ []) (hz : xs.length + ys.length ≤ sizeLine)
    (q : ∀ p H1, B p = none → Own B H1 M (R ++ [(p, .tup (xs ++ ys))]) → Q (.ref p) H1) : rCatT K (.ref a) (.ref b) H Q :=
  ⟨a, b, xs, ys, rfl, rfl, .of h1, .of h2, hx, hz, fun e => absurd e hy, fun _ p hp => q p _ (O.base_free hp) (O.new hp)⟩
theorem ixN_nat {n k : Nat} (h : k < n) : ixN n (k : Int) = some k := by
  unfold ixN
  simp [h]

/-! row expressions: a reader over signs -/
abbrev az (c : Nat) : Prop := 97 ≤ c ∧ c ≤ 122
structure Sc where
  many : Nat
  run : Nat
  opn : Nat
  rdy : Bool
def s0 : Sc := ⟨0, 0, 0, false⟩
def inc (s : Sc) : Nat := if s.run = 0 then 1 else 0
theorem inc1 {s : Sc} (h : s.run = 0) : inc s = 1 := if_pos h
theorem inc0 {s : Sc} (h : s.run ≠ 0) : inc s = 0 := if_neg h
/-- one sign more -/
def stp (s : Sc) (c : Nat) : Option Sc :=
  if az c then if s.run + 1 > 8 ∨ s.many + inc s > 12 then none else some ⟨s.many + inc s, s.run + 1, s.opn, true⟩
  else if c = 40 then if s.opn + 1 > 8 then none else some ⟨s.many, 0, s.opn + 1, false⟩
  else if c = 41 then if s.opn = 0 then none else some ⟨s.many, 0, s.opn - 1, true⟩
  else if c = 124 then some ⟨s.many, 0, s.opn, false⟩
  else if c = 32 then some ⟨s.many, 0, s.opn, s.rdy⟩
  else if (c = 42 ∨ c = 43 ∨ c = 63) ∧ s.rdy = true then some ⟨s.many, 0, s.opn, true⟩ else none
def scn : List Nat → Sc → Option Sc
  | [], s => some s
  | c :: r, s => (stp s c).bind (scn r)
/-- the fault -/
def fl : List Nat → Nat → Sc → Option Nat
  | [], k, s => if s.opn = 0 then none else some k
  | c :: r, k, s => match stp s c with
    | some s' => fl r (k + 1) s'
    | none => some k
theorem scn_append (l m : List Nat) : ∀ s, scn (l ++ m) s = (scn l s).bind (scn m) := by
  induction l with
  | nil => intro s; rfl
  | cons c l ih =>
    intro s
    show (stp s c).bind (scn (l ++ m)) = ((stp s c).bind (scn l)).bind (scn m)
    cases stp s c with
    | none => rfl
    | some s' => exact ih s'
theorem scn_snoc {l : List Nat} {i c : Nat} {s : Sc} (h : scn (l.take i) s0 = some s) (hc : l[i]? = some c) : scn (l.take (i + 1)) s0 = stp s c := by
  rw [take_snoc hc, scn_append, h]
  show (stp s c).bind some = stp s c
  cases stp s c <;> rfl
theorem fl_scn (l m : List Nat) : ∀ {s s' : Sc} {k : Nat}, scn l s = some s' → fl (l ++ m) k s = fl m (k + l.length) s' := by
  induction l with
  | nil => intro s s' k h; cases h; rfl
  | cons c l ih =>
    intro s s' k h
    have h : (stp s c).bind (scn l) = some s' := h
    show (match stp s c with | some s' => fl (l ++ m) (k + 1) s' | none => some k) = _
    cases e : stp s c with
    | none => rw [e] at h; cases h
    | some s1 =>
      rw [e] at h
      have := ih (k := k + 1) (show scn l s1 = some s' from h)
      show fl (l ++ m) (k + 1) s1 = _
      rw [this, List.length_cons]
      congr 1
      omega
theorem fl_at {l : List Nat} {i c : Nat} {s : Sc} (h : scn (l.take i) s0 = some s) (hc : l[i]? = some c) (hs : stp s c = none) : fl l 0 s0 = some i := by
  have hi : i < l.length := (List.getElem?_eq_some_iff.mp hc).1
  rw [drop_cons hc, fl_scn _ _ h, List.length_take, Nat.min_eq_left (by omega), Nat.zero_add]
  show (match stp s c with | some s' => fl _ (i + 1) s' | none => some i) = _
  rw [hs]
theorem fl_end {l : List Nat} {s : Sc} (h : scn l s0 = some s) : fl l 0 s0 = if s.opn = 0 then none else some l.length := by
  have := fl_scn l [] (k := 0) h
  rw [List.append_nil, Nat.zero_add] at this
  rw [this]
  rfl
/-- runs of letters: those that ended, the one that goes on -/
def wst (p : List (List Nat) × List Nat) (c : Nat) : List (List Nat) × List Nat := if az c then (p.1, p.2 ++ [c]) else if p.2 = [] then p else (p.1 ++ [p.2], [])
def wds (l : List Nat) : List (List Nat) × List Nat := l.foldl wst ([], [])
def cur (r : List Nat) : List (List Nat) := if r = [] then [] else [r]
def runsOf (l : List Nat) : List (List Nat) := (wds l).1 ++ cur (wds l).2
theorem wds_snoc {l : List Nat} {i c : Nat} (hc : l[i]? = some c) : wds (l.take (i + 1)) = wst (wds (l.take i)) c := by
  unfold wds
  rw [take_snoc hc, List.foldl_append]
  rfl
abbrev tkn (t : List Nat) : V := .str (mkS t)
def isW (t : List Nat) : Bool := match t with
  | c :: _ => decide (az c)
  | [] => false
def wordsOf (T : List (List Nat)) : List (List Nat) := T.filter isW
theorem wordsOf_append (T U : List (List Nat)) : wordsOf (T ++ U) = wordsOf T ++ wordsOf U := List.filter_append ..
/-- a token -/
def tokOk (t : List Nat) : Prop := t = [40] ∨ t = [41] ∨ t = [124] ∨ t = [42] ∨ t = [43] ∨ t = [63] ∨ (t ≠ [] ∧ t.length ≤ 8 ∧ ∀ c ∈ t, az c)
/-- how parentheses stand -/
def lvl : List (List Nat) → Nat → Option Nat
  | [], n => some n
  | t :: r, n => if t = [40] then lvl r (n + 1) else if t = [41] then (if n = 0 then none else lvl r (n - 1)) else lvl r n
theorem lvl_append (T U : List (List Nat)) : ∀ n, lvl (T ++ U) n = (lvl T n).bind (lvl U) := by
  induction T with
  | nil => intro n; rfl
  | cons t T ih =>
    intro n
    show (if t = [40] then lvl (T ++ U) (n + 1) else if t = [41] then (if n = 0 then none else lvl (T ++ U) (n - 1)) else lvl (T ++ U) n) = Option.bind (if t = [40] then lvl T (n + 1) else if t = [41] then (if n = 0 then none else lvl T (n - 1)) else lvl T n) (lvl U)
    by_cases h1 : t = [40]
    · rw [if_pos h1, if_pos h1]; exact ih _
    · rw [if_neg h1, if_neg h1]
      by_cases h2 : t = [41]
      · rw [if_pos h2, if_pos h2]
        by_cases h3 : n = 0
        · rw [if_pos h3, if_pos h3]; rfl
        · rw [if_neg h3, if_neg h3]; exact ih _
      · rw [if_neg h2, if_neg h2]; exact ih _
/-- the tokens behind some signs -/
structure TR (T : List (List Nat)) (s : Sc) (p : List (List Nat) × List Nat) : Prop where
  run : s.run = p.2.length
  wrd : wordsOf T = p.1 ++ cur p.2
  lst : p.2 ≠ [] → ∃ pre, T = pre ++ [p.2]
  rdy : s.rdy = true ↔ ∃ pre t, T = pre ++ [t] ∧ t ≠ [40] ∧ t ≠ [124]
  mny : s.many = (p.1 ++ cur p.2).length
  ok : ∀ t ∈ T, tokOk t
  lv : lvl T 0 = some s.opn
  big : s.many ≤ 12 ∧ s.run ≤ 8 ∧ s.opn ≤ 8
theorem TR.zero : TR [] s0 ([], []) := ⟨rfl, rfl, fun h => absurd rfl h, ⟨(fun h => by cases h), fun ⟨pre, t, e, _⟩ => by simp at e⟩, rfl, fun t h => absurd h List.not_mem_nil, rfl, by decide⟩
theorem not_az {c : Nat} (h : c = 40 ∨ c = 41 ∨ c = 124 ∨ c = 42 ∨ c = 43 ∨ c = 63 ∨ c = 32) : ¬ az c := by omega
theorem lvl_word {t : List Nat} (h : ∀ c ∈ t, az c) (h0 : t ≠ []) (n : Nat) : lvl [t] n = some n := by
  have h1 : t ≠ [40] := fun e => by have := h 40 (by rw [e]; simp); omega
  have h2 : t ≠ [41] := fun e => by have := h 41 (by rw [e]; simp); omega
  show (if t = [40] then _ else if t = [41] then _ else some n) = some n
  rw [if_neg h1, if_neg h2]
section
variable {T : List (List Nat)} {s : Sc} {p : List (List Nat) × List Nat} {c : Nat}
theorem cur_nil : cur [] = [] := rfl
theorem cur_ne {r : List Nat} (h : r ≠ []) : cur r = [r] := if_neg h
theorem isW_word {t : List Nat} (h : ∀ c ∈ t, az c) (h0 : t ≠ []) : isW t = true := by
  cases t with
  | nil => exact absurd rfl h0
  | cons c r => exact decide_eq_true (h c (List.mem_cons_self ..))
theorem snoc_inj {α : Type} {a b : List α} {x y : α} (h : a ++ [x] = b ++ [y]) : a = b ∧ x = y := by
  have := List.append_inj' h rfl
  exact ⟨this.1, by simpa using this.2⟩
/-- a letter that begins a word -/
theorem TR.new (R : TR T s p) (hc : az c) (h0 : p.2 = []) (hb : s.many + 1 ≤ 12) : TR (T ++ [[c]]) ⟨s.many + 1, s.run + 1, s.opn, true⟩ (wst p c) := by
  have e : wst p c = (p.1, [c]) := by unfold wst; rw [if_pos hc, h0]; rfl
  have hw : isW [c] = true := decide_eq_true hc
  have hR := R.run
  rw [h0] at hR
  have hm := R.mny
  rw [h0, cur_nil, List.append_nil] at hm
  refine ⟨by rw [e]; show s.run + 1 = 1; rw [hR]; rfl, ?_, fun _ => ⟨T, by rw [e]⟩, ⟨fun _ => ⟨T, [c], rfl, by simp; omega, by simp; omega⟩, fun _ => rfl⟩, ?_, ?_, ?_, ?_⟩
  · rw [e, wordsOf_append, R.wrd, h0, cur_nil, List.append_nil]
    show _ = p.1 ++ [[c]]
    congr 1
    show [[c]].filter isW = _
    simp [hw]
  · rw [e]
    show s.many + 1 = (p.1 ++ [[c]]).length
    rw [List.length_append, hm]
    rfl
  · intro t ht
    rcases List.mem_append.mp ht with ht | ht
    · exact R.ok t ht
    · rw [List.mem_singleton.mp ht]
      exact .inr (.inr (.inr (.inr (.inr (.inr ⟨by simp, by simp, fun d hd => by rw [List.mem_singleton.mp hd]; exact hc⟩)))))
  · rw [lvl_append, R.lv]
    exact lvl_word (fun d hd => by rw [List.mem_singleton.mp hd]; exact hc) (by simp) _
  · have := R.big
    exact ⟨hb, by show s.run + 1 ≤ 8; rw [hR]; decide, this.2.2⟩
/-- a letter that goes on with a word -/
theorem TR.more {pre : List (List Nat)} (R : TR (pre ++ [p.2]) s p) (hc : az c) (h0 : p.2 ≠ []) (hb : s.run + 1 ≤ 8) : TR (pre ++ [p.2 ++ [c]]) ⟨s.many, s.run + 1, s.opn, true⟩ (wst p c) := by
  have e : wst p c = (p.1, p.2 ++ [c]) := by unfold wst; rw [if_pos hc]
  have ok1 : ∀ d ∈ p.2, az d := by
    rcases R.ok p.2 (by simp) with h | h | h | h | h | h | h
    case inr.inr.inr.inr.inr.inr => exact h.2.2
    all_goals
      exfalso
      have hw := R.wrd
      rw [wordsOf_append, cur_ne h0] at hw
      have hl : wordsOf [p.2] = [] := by rw [h]; decide
      rw [hl, List.append_nil] at hw
      have hm : p.2 ∈ wordsOf pre := by rw [hw]; simp
      have := (List.mem_filter.mp hm).2
      rw [h] at this
      revert this
      decide
  have ok2 : ∀ d ∈ p.2 ++ [c], az d := fun d hd => by
    rcases List.mem_append.mp hd with hd | hd
    · exact ok1 d hd
    · rw [List.mem_singleton.mp hd]; exact hc
  have n2 : p.2 ++ [c] ≠ [] := by simp
  have hpre : wordsOf pre = p.1 := by
    have hw := R.wrd
    rw [wordsOf_append, cur_ne h0] at hw
    have hl : wordsOf [p.2] = [p.2] := by show [p.2].filter isW = _; simp [isW_word ok1 h0]
    rw [hl] at hw
    exact List.append_cancel_right hw
  have hl1 : lvl (pre ++ [p.2]) 0 = lvl pre 0 := by
    rw [lvl_append]
    cases lvl pre 0 with
    | none => rfl
    | some n => exact lvl_word ok1 h0 n
  refine ⟨by rw [e, List.length_append, ← R.run]; rfl, ?_, fun _ => ⟨pre, by rw [e]⟩, ⟨fun _ => ⟨pre, _, rfl, ?_, ?_⟩, fun _ => rfl⟩, ?_, ?_, ?_, ?_⟩
  · rw [e, wordsOf_append, hpre]
    show _ = p.1 ++ cur (p.2 ++ [c])
    rw [cur_ne n2]
    congr 1
    show [p.2 ++ [c]].filter isW = _
    simp [isW_word ok2 n2]
  · intro h
    have := ok2 40 (by rw [h]; simp)
    omega
  · intro h
    have := ok2 124 (by rw [h]; simp)
    omega
  · rw [e, R.mny, List.length_append, List.length_append]
    show _ = p.1.length + (cur (p.2 ++ [c])).length
    rw [cur_ne h0, cur_ne n2]
    rfl
  · intro t ht
    rcases List.mem_append.mp ht with ht | ht
    · exact R.ok t (List.mem_append_left _ ht)
    · rw [List.mem_singleton.mp ht]
      exact .inr (.inr (.inr (.inr (.inr (.inr ⟨n2, by rw [List.length_append, ← R.run]; exact hb, ok2⟩)))))
  · have h1 := R.lv
    rw [hl1] at h1
    rw [lvl_append, h1]
    exact lvl_word ok2 n2 _
  · have := R.big
    exact ⟨this.1, hb, this.2.2⟩
theorem runs_wst (hc : ¬ az c) : (wst p c).2 = [] ∧ (wst p c).1 = p.1 ++ cur p.2 := by
  unfold wst
  rw [if_neg hc]
  by_cases h : p.2 = []
  · rw [if_pos h]
    exact ⟨h, by rw [h, cur_nil, List.append_nil]⟩
  · rw [if_neg h, cur_ne h]
    exact ⟨rfl, rfl⟩
/-- another sign -/
theorem TR.other (R : TR T s p) (hc : c = 40 ∨ c = 41 ∨ c = 124 ∨ c = 42 ∨ c = 43 ∨ c = 63) {n : Nat} {b : Bool} (hl : lvl [[c]] s.opn = some n) (hn : n ≤ 8) (hb : b = decide (c ≠ 40 ∧ c ≠ 124)) : TR (T ++ [[c]]) ⟨s.many, 0, n, b⟩ (wst p c) := by
  have hz : ¬ az c := by omega
  obtain ⟨e2, e1⟩ := runs_wst (p := p) hz
  have hw : wordsOf [[c]] = [] := by show [[c]].filter isW = _; simp [isW, hz]
  refine ⟨by rw [e2]; rfl, ?_, fun h => absurd e2 h, ?_, ?_, ?_, ?_, ?_⟩
  · rw [wordsOf_append, hw, e2, cur_nil, e1, R.wrd, List.append_nil]
  · subst hb
    refine ⟨fun h => ⟨T, [c], rfl, ?_, ?_⟩, fun ⟨pre, t, e, h1, h2⟩ => ?_⟩
    · have := of_decide_eq_true h
      simpa using this.1
    · have := of_decide_eq_true h
      simpa using this.2
    · obtain ⟨_, e⟩ := snoc_inj e
      subst e
      exact decide_eq_true ⟨by simpa using h1, by simpa using h2⟩
  · rw [e2, cur_nil, e1, List.append_nil]
    exact R.mny
  · intro t ht
    rcases List.mem_append.mp ht with ht | ht
    · exact R.ok t ht
    · rw [List.mem_singleton.mp ht]
      rcases hc with h | h | h | h | h | h <;> subst h <;> simp [tokOk]
  · rw [lvl_append, R.lv]
    exact hl
  · exact ⟨R.big.1, Nat.zero_le _, hn⟩
theorem TR.space (R : TR T s p) : TR T ⟨s.many, 0, s.opn, s.rdy⟩ (wst p 32) := by
  obtain ⟨e2, e1⟩ := runs_wst (p := p) (c := 32) (by decide)
  exact ⟨by rw [e2]; rfl, by rw [e2, cur_nil, e1, R.wrd, List.append_nil], fun h => absurd e2 h, R.rdy, by rw [e2, cur_nil, e1, List.append_nil]; exact R.mny, R.ok, R.lv, R.big.1, Nat.zero_le _, R.big.2.2⟩
theorem TR.az (R : TR T s p) (h0 : p.2 ≠ []) : ∃ pre, T = pre ++ [p.2] := R.lst h0
end

abbrev spTokens (mg : Str → Option Value) : Sp := spNX mg 1 (fun vs => ∃ z, vs = [.str z] ∧ z.length ≤ 1000000)
  (fun vs v N => ∃ z p T, vs = [.str z] ∧ v = .ref p ∧ fl (tl z) 0 s0 = none ∧ N = [(p, .lst (T.map tkn))] ∧ (∀ t ∈ T, tokOk t) ∧ wordsOf T = runsOf (tl z) ∧ lvl T 0 = some 0 ∧ (wordsOf T).length ≤ 12 ∧ T.length ≤ z.length)
  (fun vs x fs => ∃ (z : Str) (k : Nat), vs = [.str z] ∧ x = "BadRow" ∧ fl (tl z) 0 s0 = some k ∧ fs = fI "index" k)
theorem tl_abc : tl (Str.ofString "abcdefghijklmnopqrstuvwxyz") = [97, 98, 99, 100, 101, 102, 103, 104, 105, 106, 107, 108, 109, 110, 111, 112, 113, 114, 115, 116, 117, 118, 119, 120, 121, 122] := by rw [tl_ofString]; decide +kernel
theorem mem_abc {c : Nat} : c ∈ tl (Str.ofString "abcdefghijklmnopqrstuvwxyz") ↔ az c := by
  rw [tl_abc]
  simp only [List.mem_cons, List.not_mem_nil, or_false]
  omega
theorem x_notInT {K : PySem.W.Frag} {H : Hp} {a : Addr} {x : V} {xs : List V} {Q : VK} (h : H a = some (.tup xs)) (f1 : flatV x = true) (f2 : xs.all flatV = true) (q : Q (.bl (!inV x xs)) H) : rIn K true x (.ref a) H Q := ⟨a, xs, rfl, .inr (.of h), f1, f2, q⟩
theorem mk_beq (a b : List Nat) : (mkS a == mkS b) = decide (a = b) := by
  by_cases h : a = b
  · rw [h, decide_eq_true rfl]
    exact beq_self_eq_true _
  · rw [decide_eq_false h]
    refine beq_eq_false_iff_ne.mpr fun e => h ?_
    have h3 : tl (mkS a) = tl (mkS b) := by rw [e]
    exact h3
theorem tl_rep : tl (Str.ofString "*+?") = [42, 43, 63] := by rw [tl_ofString]; decide +kernel
theorem ixN_last (n : Nat) : ixN (n + 1) (-1) = some n := by
  unfold ixN
  rw [if_neg (by decide), if_pos (by omega)]
  congr 1
  omega
theorem ch_eq {c k : Nat} {s : String} (hs : s.toList.map Char.toNat = [k]) : (V.str ⟨#[c]⟩ = V.str (Str.ofString s)) = (c = k) := by
  rw [lit hs]
  refine propext ⟨fun h => ?_, fun h => by rw [h]⟩
  have h2 : (⟨#[c]⟩ : Str) = mkS [k] := V.str.inj h
  have h3 : tl (⟨#[c]⟩ : Str) = tl (mkS [k]) := by rw [h2]
  have h4 : [c] = [k] := h3
  simpa using h4
theorem x_iteC {c k : Nat} {s : String} {A C : Prop} (hs : s.toList.map Char.toNat = [k] := by decide +kernel) (h1 : c = k → A) (h2 : c ≠ k → C) : if decide (V.str ⟨#[c]⟩ = V.str (Str.ofString s)) = true then A else C := by
  simp only [ch_eq hs]
  exact x_ite h1 h2
theorem stp_az {s : Sc} {c : Nat} (h : az c) : stp s c = if s.run + 1 > 8 ∨ s.many + inc s > 12 then none else some ⟨s.many + inc s, s.run + 1, s.opn, true⟩ := by
  unfold stp
  rw [if_pos h]
theorem stp_no {s : Sc} {c : Nat} (h : ¬ az c) : stp s c = if c = 40 then if s.opn + 1 > 8 then none else some ⟨s.many, 0, s.opn + 1, false⟩
  else if c = 41 then if s.opn = 0 then none else some ⟨s.many, 0, s.opn - 1, true⟩
  else if c = 124 then some ⟨s.many, 0, s.opn, false⟩
  else if c = 32 then some ⟨s.many, 0, s.opn, s.rdy⟩
  else if (c = 42 ∨ c = 43 ∨ c = 63) ∧ s.rdy = true then some ⟨s.many, 0, s.opn, true⟩ else none := by
  unfold stp
  rw [if_neg h]
theorem stp_run {s s' : Sc} {c : Nat} (h : stp s c = some s') : decide (s'.run ≠ 0) = decide (az c) := by
  by_cases hz : az c
  · rw [stp_az hz] at h
    split at h
    · cases h
    · cases h
      rw [decide_eq_true hz]
      exact decide_eq_true (Nat.succ_ne_zero _)
  · rw [stp_no hz] at h
    rw [decide_eq_false hz]
    repeat' split at h
    all_goals (cases h; try rfl)
abbrev NM_tokens_of : List Str := ["expression", "tokens", "words", "level", "in_word", "index", "sign", "good"]
theorem sc_tokens_of : FnScope NM_tokens_of ["expression"] (defScope s_tokens_of) := ⟨rfl, rfl, rfl, by decide +kernel, rfl, by decide +kernel, by decide +kernel⟩
theorem d_tokens_of (F : Fn0 K mg "tokens_of" s_tokens_of) (T : Txt P K mg)  :
    DefX P w K mg base 3 "tokens_of" ["expression"] [] (spTokens mg) := by
  refine DefX.mk0 F sc_tokens_of (by first | exact NF.hl_spB | exact NF.hl_spP | exact NF.hl_spNew | exact NF.hl_spPX | exact NF.hl_spN | exact NF.hl_spNX | exact hl_spTokens) (fun _ _ _ _ _ _ us hl => match us, hl with | [_], _ => rfl) (fun cdv A outer s H vs Q E hr h tk po => ?_)
  refine ⟨_, (pss_cons (ps_set (i := 1) sc_tokens_of.nd rfl (Or.inl rfl) (pe_lst pa_nil))
      (pss_cons (ps_set (i := 2) sc_tokens_of.nd rfl (Or.inl rfl) pe_int)
      (pss_cons (ps_set (i := 3) sc_tokens_of.nd rfl (Or.inl rfl) pe_int)
      (pss_cons (ps_set (i := 4) sc_tokens_of.nd rfl (Or.inl rfl) pe_bl)
      (pss_cons (ps_for po rfl (pi_enumS (by rfl) T.b_enumerate (pa_cons (pv 0) pa_nil)) (pg_tup (by rfl) (pgs_cons (pg_name (i := 5) sc_tokens_of.nd rfl (Or.inl rfl)) (pgs_cons (pg_name (i := 6) sc_tokens_of.nd rfl (Or.inl rfl)) pgs_nil)))
      (pss_cons (ps_set (i := 7) sc_tokens_of.nd rfl (Or.inl rfl) pe_bl)
      (Evl.pss_cut (ps_if (pt_cmpR opInC (pv 6) (pe_g rfl T.g_ALPHABET) (by rfl))
      (Evl.pss_cut (ps_if (pt_val (pv 4))
      (pss_one (ps_asg (pe_op opAddS (pe_ix ix_list (pv 1) (pe_un un_neg pe_int) (fun _ _ => rfl)) (pv 6)) (pg_sub (pv 1) (pe_un un_neg pe_int) set_list)))
      (pss_cons (ps_expr (pe_bm PySem.F.plainAttrs_list PySem.F.slot_list_append PySem.F.type_list_append mt_append (pv 1) (pa_cons (pv 6) pa_nil)))
      (pss_one (ps_set (i := 2) sc_tokens_of.nd rfl (Or.inl rfl) (pe_op op_add (pv 2) pe_int)))))
      (pss_one (ps_set (i := 7) sc_tokens_of.nd rfl (Or.inl rfl) (pe_and (pe_cmpR op_le (pv 2) (pe_g rfl T.g_MOST_WORDS) (nomark _)) (pe_one (pe_cmpR op_le (pe_callB (id := "len") callLen (by rfl) T.b_len (by decide +kernel) (pa_cons (pe_ix ix_list (pv 1) (pe_un un_neg pe_int) (fun _ _ => rfl)) pa_nil)) (pe_g rfl T.g_MOST_LETTERS) (nomark _)))))))
      (pss_one (ps_if (pt_cmpR op_eq (pv 6) pe_str (nomark _))
      (pss_cons (ps_expr (pe_bm PySem.F.plainAttrs_list PySem.F.slot_list_append PySem.F.type_list_append mt_append (pv 1) (pa_cons (pv 6) pa_nil)))
      (pss_cons (ps_set (i := 3) sc_tokens_of.nd rfl (Or.inl rfl) (pe_op op_add (pv 3) pe_int))
      (pss_one (ps_set (i := 7) sc_tokens_of.nd rfl (Or.inl rfl) (pe_cmpR op_le (pv 3) (pe_g rfl T.g_MOST_OPEN) (nomark _))))))
      (pss_one (ps_if (pt_cmpR op_eq (pv 6) pe_str (nomark _))
      (pss_cons (ps_expr (pe_bm PySem.F.plainAttrs_list PySem.F.slot_list_append PySem.F.type_list_append mt_append (pv 1) (pa_cons (pv 6) pa_nil)))
      (pss_cons (ps_set (i := 3) sc_tokens_of.nd rfl (Or.inl rfl) (pe_op op_sub (pv 3) pe_int))
      (pss_one (ps_set (i := 7) sc_tokens_of.nd rfl (Or.inl rfl) (pe_cmpR op_ge (pv 3) pe_int (nomark _))))))
      (pss_one (ps_if (pt_cmpR opInC (pv 6) (pe_g rfl T.g_REPEATS) (by rfl))
      (pss_cons (ps_set (i := 7) sc_tokens_of.nd rfl (Or.inl rfl) (pe_and (pe_cmpR op_gt (pe_callB (id := "len") callLen (by rfl) T.b_len (by decide +kernel) (pa_cons (pv 1) pa_nil)) pe_int (nomark _)) (pe_one (pe_cmpR op_notIn_seq (pe_ix ix_list (pv 1) (pe_un un_neg pe_int) (fun _ _ => rfl)) (pe_tup (pa_cons pe_str (pa_cons pe_str pa_nil))) (by rfl)))))
      (pss_one (ps_expr (pe_bm PySem.F.plainAttrs_list PySem.F.slot_list_append PySem.F.type_list_append mt_append (pv 1) (pa_cons (pv 6) pa_nil)))))
      (pss_one (ps_if (pt_cmpR op_eq (pv 6) pe_str (nomark _))
      (pss_one (ps_expr (pe_bm PySem.F.plainAttrs_list PySem.F.slot_list_append PySem.F.type_list_append mt_append (pv 1) (pa_cons (pv 6) pa_nil))))
      (pss_one (ps_set (i := 7) sc_tokens_of.nd rfl (Or.inl rfl) (pe_cmpR op_eq (pv 6) pe_str (nomark _)))))))))))))
      (pss_cons (ps_if (pt_not (pt_val (pv 7)))
      (pss_one (L2N.ps_raise rfl tk (pmk_x T.x_BadRow (hr.mono (by decide)) (by rfl) (pv 5))))
      pss_nil)
      (pss_one (ps_set (i := 4) sc_tokens_of.nd rfl (Or.inl rfl) (pe_cmpR opInC (pv 6) (pe_g rfl T.g_ALPHABET) (by rfl))))))))
      (pss_cons (ps_if (pt_cmpR op_gt (pv 3) pe_int (nomark _))
      (pss_one (L2N.ps_raise rfl tk (pmk_x T.x_BadRow (hr.mono (by decide)) (by rfl) (pe_callB (id := "len") callLen (by rfl) T.b_len (by decide +kernel) (pa_cons (pv 0) pa_nil)))))
      pss_nil)
      (pss_one (ps_ret (pv 1))))))))), ?_⟩
  try dsimp only [cxOf, Cx.nox, Cx.wish]
  obtain ⟨hl, ⟨z, rfl, hz⟩, k, kx⟩ := h
  have O := NF.Own.refl0 H
  walk_at "gw"
  refine NF.x_newL O (by decide +kernel) fun pt H1 hpt O => ?_
  walk_at "nO"
  walk_at "gw"
  refine NF.f_enumS (fun i σ H' => ∃ (u5 u6 u7 : Option V) (T : List (List Nat)) (s : Sc), σ = [some (.str z), some (.ref pt), some (.int s.many), some (.int s.opn), some (.bl (decide (s.run ≠ 0))), u5, u6, u7] ∧ Own H H' [] [(pt, .lst (T.map tkn))] ∧
    scn ((tl z).take i) s0 = some s ∧ TR T s (wds ((tl z).take i)) ∧ T.length ≤ i ∧ i ≤ z.length) ⟨_, _, _, [], s0, rfl, O, rfl, TR.zero, Nat.le_refl _, Nat.zero_le _⟩ ?_ ?_
  · rintro i c _ H2 H3 hc ⟨u5, u6, u7, T, s, rfl, O, hs, R, hT, hi⟩ hO
    have O := hO _ _ _ O
    have hc := tl_at hc
    have hi : i < z.length := by rw [len_tl]; exact (List.getElem?_eq_some_iff.mp hc).1
    generalize hp : wds ((tl z).take i) = p at R
    have hp1 : wds ((tl z).take (i + 1)) = wst p c := by rw [wds_snoc hc, hp]
    have hs1 := scn_snoc hs hc
    have hrun : s.run = p.2.length := R.run
    have hbig := R.big
    walk_at "gw"
    refine NF.x_cut (fun σ H' => ∃ (T' : List (List Nat)) (wd lv : Int) (g : Bool), σ = [some (.str z), some (.ref pt), some (.int wd), some (.int lv), some (.bl (decide (s.run ≠ 0))), some (.int i), some (ch c), some (.bl g)] ∧ Own H H' [] [(pt, .lst (T'.map tkn))] ∧ T'.length ≤ T.length + 1 ∧
      (∀ s', stp s c = some s' → g = true ∧ wd = s'.many ∧ lv = s'.opn ∧ TR T' s' (wst p c)) ∧ (stp s c = none → g = false)) ?_ ?_
    · walk_at "gw"
      refine NF.x_ite (fun h0 => ?_) (fun h0 => ?_)
      · rw [mem_abc] at h0
        walk_at "gw"
        refine NF.x_cut (fun σ H' => ∃ (pre : List (List Nat)) (w : List Nat), σ = [some (.str z), some (.ref pt), some (.int (s.many + inc s : Nat)), some (.int s.opn), some (.bl (decide (s.run ≠ 0))), some (.int i), some (ch c), some (.bl true)] ∧ Own H H' [] [(pt, .lst ((pre ++ [w]).map tkn))] ∧
          pre.length ≤ T.length ∧ w.length = s.run + 1 ∧ (s.many + inc s ≤ 12 → s.run + 1 ≤ 8 → TR (pre ++ [w]) ⟨s.many + inc s, s.run + 1, s.opn, true⟩ (wst p c))) ?_ ?_
        · walk_at "gw"
          by_cases hr0 : s.run = 0
          · have hp0 : p.2 = [] := List.length_eq_zero_iff.mp (by rw [← hrun]; exact hr0)
            refine NF.x_ite (fun h => absurd hr0 h) (fun _ => ?_)
            walk_at "gw"
            refine ⟨T, [c], by rw [inc1 hr0]; rfl, by rw [List.map_append]; exact O, Nat.le_refl _, by rw [hr0]; rfl, fun hb _ => ?_⟩
            rw [inc1 hr0] at hb ⊢
            exact R.new h0 hp0 hb
          · have hp0 : p.2 ≠ [] := fun e => hr0 (by rw [hrun, e]; rfl)
            obtain ⟨pre, rfl⟩ := R.lst hp0
            refine NF.x_ite (fun _ => ?_) (fun h => absurd hr0 h)
            rw [List.map_append] at O
            walk_at "gw"
            refine' NF.x_ixL ?h (L2.atI_last _ _) ?_
            (case h => walk_at "own")
            walk_at "gw"
            have e1 : mkS p.2 ++ ⟨#[c]⟩ = mkS (p.2 ++ [c]) := ext_tl (by rw [tl_append])
            refine NF.x_setL O 0 rfl (n := pre.length) (by rw [List.length_append, List.length_map]; exact ixN_last _) fun H5 O => ?_
            walk_at "nO"
            have e2 : (pre.map tkn ++ [tkn p.2]).set pre.length (.str (mkS p.2 ++ ⟨#[c]⟩)) = (pre ++ [p.2 ++ [c]]).map tkn := by
              rw [e1, List.map_append, List.set_append_right _ _ (by simp), List.length_map, Nat.sub_self]
              rfl
            rw [show List.map tkn [p.2] = [tkn p.2] from rfl, e2] at O
            walk_at "gw"
            refine ⟨pre, p.2 ++ [c], by rw [inc0 hr0]; rfl, O, by simp, by rw [List.length_append, ← hrun]; rfl, fun _ hb => ?_⟩
            rw [inc0 hr0]
            exact R.more h0 hp0 hb
        · rintro _ H4 ⟨pre, w, rfl, O, hT2, hw, hR⟩
          walk_at "gw"
          rw [List.map_append] at O
          have hst := stp_az (s := s) h0
          refine NF.x_ite (fun h1 => ?_) (fun h1 => ?_)
          · walk_at "gw"
            refine' NF.x_ixL ?h (L2.atI_last _ _) ?_
            (case h => walk_at "own")
            walk_at "gw"
            refine ⟨pre ++ [w], _, _, _, rfl, by rw [List.map_append]; exact O, by simp; omega, fun s' e => ?_, fun e => ?_⟩
            · rw [hst] at e
              split at e
              · cases e
              · cases e
                exact ⟨decide_eq_true (by rw [len_mk]; omega), rfl, rfl, hR (by omega) (by omega)⟩
            · rw [hst] at e
              split at e
              · exact decide_eq_false (by rw [len_mk]; omega)
              · cases e
          · walk_at "gw"
            refine ⟨pre ++ [w], _, _, _, rfl, by rw [List.map_append]; exact O, by simp; omega, fun s' e => ?_, fun e => rfl⟩
            rw [hst, if_pos (by omega)] at e
            cases e
      · rw [mem_abc] at h0
        have hst := stp_no (s := s) h0
        have dn : ∀ (T' : List (List Nat)) (lv : Int) (b g : Bool) (R' : List (Addr × HO)) (H4 : Hp) (q : Prop), True := fun _ _ _ _ _ _ _ => trivial
        clear dn
        walk_at "gw"
        refine x_iteC (k := 40) (h1 := fun h1 => ?_) (h2 := fun h1 => ?_)
        · walk_at "gw"
          subst h1
          rw [if_pos rfl] at hst
          refine ⟨T ++ [[40]], _, _, _, rfl, by rw [List.map_append]; exact O, by simp, fun s' e => ?_, fun e => ?_⟩
          · rw [hst] at e
            split at e
            · cases e
            · cases e
              exact ⟨decide_eq_true (by omega), rfl, rfl, R.other (by omega) rfl (by omega) rfl⟩
          · rw [hst] at e
            split at e
            · exact decide_eq_false (by omega)
            · cases e
        rw [if_neg h1] at hst
        walk_at "gw"
        refine x_iteC (k := 41) (h1 := fun h2 => ?_) (h2 := fun h2 => ?_)
        · walk_at "gw"
          subst h2
          rw [if_pos rfl] at hst
          refine ⟨T ++ [[41]], _, _, _, rfl, by rw [List.map_append]; exact O, by simp, fun s' e => ?_, fun e => ?_⟩
          · rw [hst] at e
            split at e
            · cases e
            · rename_i ho
              cases e
              refine ⟨decide_eq_true (by omega), rfl, by show (s.opn : Int) - 1 = ((s.opn - 1 : Nat) : Int); omega, R.other (by omega) ?_ (by omega) rfl⟩
              show (if [41] = [40] then _ else if [41] = [41] then (if s.opn = 0 then none else some (s.opn - 1)) else some s.opn) = _
              rw [if_neg (by decide), if_pos rfl, if_neg ho]
          · rw [hst] at e
            split at e
            · exact decide_eq_false (by omega)
            · cases e
        rw [if_neg h2] at hst
        walk_at "gw"
        refine NF.x_ite (fun h3 => ?_) (fun h3 => ?_)
        · rw [tl_rep] at h3
          have h3 : c = 42 ∨ c = 43 ∨ c = 63 := by simpa using h3
          rw [if_neg (by omega), if_neg (by omega)] at hst
          have fin : ∀ (H5 : Hp) (R5 : List (Addr × HO)) (g : Bool), (∀ x ∈ R5, H x.1 = none) → Own H H5 [] ((pt, .lst (T.map tkn ++ [ch c])) :: R5) → g = s.rdy →
              ∃ (T' : List (List Nat)) (wd lv : Int) (g' : Bool), [some (.str z), some (.ref pt), some (.int s.many), some (.int s.opn), some (.bl (decide (s.run ≠ 0))), some (.int i), some (ch c), some (.bl g)] = [some (.str z), some (.ref pt), some (.int wd), some (.int lv), some (.bl (decide (s.run ≠ 0))), some (.int i), some (ch c), some (.bl g')] ∧ Own H H5 [] [(pt, .lst (T'.map tkn))] ∧ T'.length ≤ T.length + 1 ∧
              (∀ s', stp s c = some s' → g' = true ∧ wd = s'.many ∧ lv = s'.opn ∧ TR T' s' (wst p c)) ∧ (stp s c = none → g' = false) := fun H5 R5 g hR5 O hg => by
            refine ⟨T ++ [[c]], _, _, g, rfl, by rw [List.map_append]; exact Own.front (R := [_]) O hR5, by simp, fun s' e => ?_, fun e => ?_⟩
            · rw [hst] at e
              split at e
              · rename_i hh
                cases e
                refine ⟨by rw [hg]; exact hh.2, rfl, rfl, R.other (by omega) ?_ (by omega) (decide_eq_true ⟨by omega, by omega⟩).symm⟩
                show (if [c] = [40] then _ else if [c] = [41] then _ else some s.opn) = _
                rw [if_neg (by simpa using h1), if_neg (by simpa using h2)]
              · cases e
            · rw [hst] at e
              split at e
              · cases e
              · rename_i hh
                rw [hg]
                cases hr : s.rdy with
                | false => rfl
                | true => exact absurd ⟨h3, hr⟩ hh
          walk_at "gw"
          refine NF.x_ite (fun h4 => ?_) (fun h4 => ?_)
          · obtain ⟨pre, t, rfl⟩ := snoc_of (l := T) (by rw [List.length_map] at h4; omega)
            have hR5 : pre.length + 1 ≤ i := by simpa using hT
            rw [List.map_append] at O fin
            walk_at "gw"
            refine' NF.x_ixL ?h (L2.atI_last _ _) ?_
            (case h => walk_at "own")
            walk_at "gw"
            refine NF.x_newT O (by decide +kernel) fun pp H5 hpp O => ?_
            walk_at "nO"
            walk_at "gw"
            refine x_notInT (O.get 1 rfl) rfl (by rfl) ?_
            walk_at "gw"
            refine fin _ [(pp, _)] _ (fun x hx => by rw [List.mem_singleton.mp hx]; exact hpp) O ?_
            have e1 : inV (tkn t) [.str (Str.ofString "("), .str (Str.ofString "|")] = decide (t = [40] ∨ t = [124]) := by
              rw [lit (s := "(") (l := [40]), lit (s := "|") (l := [124])]
              show ((mkS [40] == mkS t) || ((mkS [124] == mkS t) || false)) = _
              rw [mk_beq, mk_beq, Bool.or_false, ← Bool.decide_or]
              exact decide_eq_decide.mpr ⟨fun h => h.imp Eq.symm Eq.symm, fun h => h.imp Eq.symm Eq.symm⟩
            rw [e1]
            cases hr : s.rdy with
            | true =>
              obtain ⟨pre2, t2, e, n1, n2⟩ := R.rdy.mp hr
              obtain ⟨_, rfl⟩ := snoc_inj e
              rw [decide_eq_false (fun q => q.elim n1 n2)]
              rfl
            | false =>
              rw [decide_eq_true]
              · rfl
              · by_cases q1 : t = [40]
                · exact Or.inl q1
                · by_cases q2 : t = [124]
                  · exact Or.inr q2
                  · have := R.rdy.mpr ⟨pre, t, rfl, q1, q2⟩
                    rw [hr] at this
                    cases this
          · walk_at "gw"
            have hT0 : T = [] := by
              cases T with
              | nil => rfl
              | cons a b => exact absurd (by simp) h4
            refine fin _ [] _ (fun x hx => absurd hx List.not_mem_nil) O ?_
            cases hr : s.rdy with
            | false => rfl
            | true =>
              obtain ⟨pre, t, e, _⟩ := R.rdy.mp hr
              rw [hT0] at e
              simp at e
        rw [tl_rep] at h3
        have h3 : ¬ (c = 42 ∨ c = 43 ∨ c = 63) := by simpa using h3
        walk_at "gw"
        refine x_iteC (k := 124) (h1 := fun h4 => ?_) (h2 := fun h4 => ?_)
        · walk_at "gw"
          subst h4
          rw [if_pos rfl] at hst
          refine ⟨T ++ [[124]], _, _, _, rfl, by rw [List.map_append]; exact O, by simp, fun s' e => ?_, fun e => ?_⟩
          · rw [hst] at e
            cases e
            exact ⟨rfl, rfl, rfl, R.other (by omega) rfl (by omega) rfl⟩
          · rw [hst] at e
            cases e
        rw [if_neg h4] at hst
        walk_at "gw"
        refine ⟨T, _, _, _, rfl, O, by omega, fun s' e => ?_, fun e => ?_⟩
        · rw [hst] at e
          split at e
          · rename_i h5
            cases e
            subst h5
            exact ⟨decide_eq_true (by rw [ch_eq (k := 32) (by decide +kernel)]), rfl, rfl, R.space⟩
          · rw [if_neg (fun q => h3 q.1)] at e
            cases e
        · rw [hst] at e
          split at e
          · cases e
          · rename_i h5
            exact decide_eq_false (by rw [ch_eq (k := 32) (by decide +kernel)]; exact h5)
    · rintro _ H4 ⟨T', wd, lv, g, rfl, O, hT2, hg1, hg2⟩
      walk_at "gw"
      refine NF.x_itb (fun h => ?_) (fun h => ?_)
      · have hg : g = false := by simpa using h
        walk_at "gw"
        intro d hd
        obtain ⟨O, hd0⟩ := x_raise (C := 0) (v := .int (i : Int)) (fld := "index") O hd
        refine kx _ (fI "index" i) d _ (O.drop fun x hx => by rw [List.mem_singleton.mp hx]; exact hpt) ⟨z, i, rfl, rfl, fl_at hs hc ?_, rfl⟩ hd0 upd_same
        cases e : stp s c with
        | none => rfl
        | some s' =>
          have := (hg1 s' e).1
          rw [hg] at this
          cases this
      · have hg : g = true := by simpa using h
        cases e : stp s c with
        | none =>
          have := hg2 e
          rw [hg] at this
          cases this
        | some s' =>
          obtain ⟨_, rfl, rfl, R'⟩ := hg1 s' e
          walk_at "gw"
          refine ⟨some (.int i), some (ch c), some (.bl g), T', s', ?_, O, by rw [hs1, e], by rw [hp1]; exact R', by omega, by omega⟩
          rw [stp_run e]
          simp only [mem_abc]
          rfl
  · rintro _ H2 ⟨u5, u6, u7, T, s, rfl, O, hs, R, hT, hi⟩
    have e0 : z.cps.size = (tl z).length := by simp
    rw [e0, List.take_length] at hs R
    have hf := fl_end hs
    walk_at "gw"
    refine NF.x_ite (fun h0 => ?_) (fun h0 => ?_)
    · walk_at "gw"
      intro d hd
      obtain ⟨O, hd0⟩ := x_raise (C := 0) (v := .int (z.length : Int)) (fld := "index") O hd
      refine kx _ (fI "index" z.length) d _ (O.drop fun x hx => by rw [List.mem_singleton.mp hx]; exact hpt) ⟨z, z.length, rfl, rfl, ?_, rfl⟩ hd0 upd_same
      rw [hf, if_neg (by omega), len_tl]
    · walk_at "gw"
      have ho : s.opn = 0 := by omega
      refine k _ _ [(pt, .lst (T.map tkn))] (fun x hx => by rw [List.mem_singleton.mp hx]; exact hpt) O ⟨z, pt, T, rfl, rfl, by rw [hf, if_pos ho], rfl, R.ok, R.wrd, by rw [R.lv, ho], ?_, by rw [e0, ← len_tl] at hT; exact hT⟩
      rw [R.wrd, ← R.mny]
      exact R.big.1


theorem x_intB {k : Bool} {H : Hp} {Q : VK} (q : Q (.int (if k = true then 1 else 0)) H) : rInt [.bl k] H Q := .inr ⟨k, rfl, q⟩
theorem len_sp : (Str.ofString " ").length = 1 := by decide +kernel
theorem tl_sp : tl (Str.ofString " ") = [32] := by rw [tl_ofString]; decide +kernel
def fvI : Option Nat → V
  | some k => .int k
  | none => .int (-1)
def spLFault : Sp := spP 1 (fun vs => ∃ z, vs = [.str z] ∧ z.length ≤ 1000000) (fun vs v => ∃ z, vs = [.str z] ∧ v = fvI (fl (tl z) 0 s0))
abbrev NM_law_fault : List Str := ["written", "many", "run", "opened", "ready", "k", "letter"]
theorem sc_law_fault : FnScope NM_law_fault ["written"] (defScope s_law_fault) := ⟨rfl, rfl, rfl, by decide +kernel, rfl, by decide +kernel, by decide +kernel⟩
theorem d_law_fault (F : Fn0 K mg "_law_fault" s_law_fault) (T : Txt P K mg)  :
    Def P w K mg base 1 "_law_fault" ["written"] spLFault := by
  refine Def.mk0 F sc_law_fault (by first | exact NF.hl_spB | exact NF.hl_spP | exact NF.hl_spNew | exact NF.hl_spPX | exact NF.hl_spN | exact NF.hl_spNX | exact hl_spLFault) (fun _ _ _ _ _ _ us hl => match us, hl with | [_], _ => rfl) (fun cdv A outer s H vs Q E hr h => ?_)
  refine ⟨_, (pss_cons (ps_set (i := 1) sc_law_fault.nd rfl (Or.inl rfl) pe_int)
      (pss_cons (ps_set (i := 2) sc_law_fault.nd rfl (Or.inl rfl) pe_int)
      (pss_cons (ps_set (i := 3) sc_law_fault.nd rfl (Or.inl rfl) pe_int)
      (pss_cons (ps_set (i := 4) sc_law_fault.nd rfl (Or.inl rfl) pe_bl)
      (pss_cons (ps_for PassesOwn.never rfl (pi_range1 (by rfl) T.b_range (pa_cons (pe_callB (id := "len") callLen (by rfl) T.b_len (by decide +kernel) (pa_cons (pv 0) pa_nil)) pa_nil)) (pg_name (i := 5) sc_law_fault.nd rfl (Or.inl rfl))
      (pss_cons (ps_set (i := 6) sc_law_fault.nd rfl (Or.inl rfl) (pe_ix ix_str (pv 0) (pv 5) (fun _ _ => rfl)))
      (pss_one (ps_if (pt_cmpR opInC (pv 6) pe_str (by rfl))
      (pss_cons (ps_set (i := 2) sc_law_fault.nd rfl (Or.inl rfl) (pe_op op_add (pv 2) pe_int))
      (pss_cons (ps_set (i := 1) sc_law_fault.nd rfl (Or.inl rfl) (pe_op op_add (pv 1) (pe_callTy (T := "int") callInt (by rfl) T.b_int (by decide +kernel) (pa_cons (pe_cmpR op_eq (pv 2) pe_int (nomark _)) pa_nil))))
      (pss_cons (ps_set (i := 4) sc_law_fault.nd rfl (Or.inl rfl) pe_bl)
      (pss_one (ps_if (PW.pt (pw_or (pt_cmpR op_gt (pv 2) pe_int (nomark _)) (pw_or1 (pt_cmpR op_gt (pv 1) pe_int (nomark _)))))
      (pss_one (ps_ret (pv 5)))
      pss_nil)))))
      (pss_cons (ps_set (i := 2) sc_law_fault.nd rfl (Or.inl rfl) pe_int)
      (pss_one (ps_if (pt_cmpR op_eq (pv 6) pe_str (nomark _))
      (pss_cons (ps_set (i := 3) sc_law_fault.nd rfl (Or.inl rfl) (pe_op op_add (pv 3) pe_int))
      (pss_cons (ps_set (i := 4) sc_law_fault.nd rfl (Or.inl rfl) pe_bl)
      (pss_one (ps_if (pt_cmpR op_gt (pv 3) pe_int (nomark _))
      (pss_one (ps_ret (pv 5)))
      pss_nil))))
      (pss_one (ps_if (pt_cmpR op_eq (pv 6) pe_str (nomark _))
      (pss_cons (ps_set (i := 3) sc_law_fault.nd rfl (Or.inl rfl) (pe_op op_sub (pv 3) pe_int))
      (pss_cons (ps_set (i := 4) sc_law_fault.nd rfl (Or.inl rfl) pe_bl)
      (pss_one (ps_if (pt_cmpR op_lt (pv 3) pe_int (nomark _))
      (pss_one (ps_ret (pv 5)))
      pss_nil))))
      (pss_one (ps_if (pt_cmpR op_eq (pv 6) pe_str (nomark _))
      (pss_one (ps_set (i := 4) sc_law_fault.nd rfl (Or.inl rfl) pe_bl))
      (pss_one (ps_if (PW.pt (pw_and (pt_cmpR op_ne (pv 6) pe_str (nomark _)) (pw_and1 (PW.pt (pw_or (pt_cmpR opNotInC (pv 6) pe_str (by rfl)) (pw_or1 (pt_not (pt_val (pv 4)))))))))
      (pss_one (ps_ret (pv 5)))
      pss_nil)))))))))))))
      (pss_cons (ps_if (pt_cmpR op_gt (pv 3) pe_int (nomark _))
      (pss_one (ps_ret (pe_callB (id := "len") callLen (by rfl) T.b_len (by decide +kernel) (pa_cons (pv 0) pa_nil))))
      pss_nil)
      (pss_one (ps_ret (pe_un un_neg pe_int))))))))), ?_⟩
  try dsimp only [cxOf, Cx.nox, Cx.wish]
  obtain ⟨hl, ⟨z, rfl, hz⟩, k⟩ := h
  have O := NF.Own.refl0 H
  walk_at "gw"
  refine NF.f_rng1 ⟨by omega, by omega⟩ (fun i σ H' => ∃ (u5 u6 : Option V) (s : Sc), σ = [some (.str z), some (.int s.many), some (.int s.run), some (.int s.opn), some (.bl s.rdy), u5, u6] ∧ Own H H' [] [] ∧ scn ((tl z).take i) s0 = some s) ⟨_, _, s0, rfl, O, rfl⟩ ?_ ?_
  · rintro i _ H2 hi ⟨u5, u6, s, rfl, O, hs⟩
    have hiz : i < (tl z).length := by rw [← len_tl]; omega
    walk_at "gw"
    refine NF.x_ixSo (by omega) (by omega) (by rw [sizeLine_eq]; omega) fun c _ hc _ => ?_
    rw [Int.toNat_natCast] at hc
    have hs1 := scn_snoc hs hc
    have bad : stp s c = none → Q (.int (i : Int)) H2 := fun e => k _ _ O ⟨z, rfl, by rw [fl_at hs hc e]; rfl⟩
    walk_at "gw"
    refine NF.x_ite (fun h0 => ?_) (fun h0 => ?_)
    · rw [mem_abc] at h0
      have hst := stp_az (s := s) h0
      walk_at "gw"
      refine x_intB ?_
      have einc : (if decide (V.int ((s.run : Int) + 1) = V.int 1) = true then 1 else 0 : Int) = (inc s : Nat) := by
        by_cases h : s.run = 0
        · rw [inc1 h, h]
          rfl
        · rw [inc0 h, if_neg]
          · rfl
          · intro q
            have := V.int.inj (of_decide_eq_true q)
            omega
      rw [einc]
      walk_at "gw"
      refine NF.x_ite (fun h1 => ?_) (fun h1 => ?_)
      · refine NF.x_itb (fun _ => ?_) (fun h => absurd h (by decide))
        walk_at "gw"
        exact bad (by rw [hst, if_pos (by omega)])
      walk_at "gw"
      refine NF.x_ite (fun h2 => ?_) (fun h2 => ?_)
      · walk_at "gw"
        exact bad (by rw [hst, if_pos (by omega)])
      walk_at "gw"
      exact ⟨_, _, ⟨s.many + inc s, s.run + 1, s.opn, true⟩, rfl, O, by rw [hs1, hst, if_neg (by omega)]⟩
    · rw [mem_abc] at h0
      have hst := stp_no (s := s) h0
      walk_at "gw"
      refine x_iteC (k := 40) (h1 := fun h1 => ?_) (h2 := fun h1 => ?_)
      · subst h1
        rw [if_pos rfl] at hst
        walk_at "gw"
        refine NF.x_ite (fun h2 => ?_) (fun h2 => ?_)
        · walk_at "gw"
          exact bad (by rw [hst, if_pos (by omega)])
        · walk_at "gw"
          exact ⟨_, _, ⟨s.many, 0, s.opn + 1, false⟩, rfl, O, by rw [hs1, hst, if_neg (by omega)]⟩
      rw [if_neg h1] at hst
      walk_at "gw"
      refine x_iteC (k := 41) (h1 := fun h2 => ?_) (h2 := fun h2 => ?_)
      · subst h2
        rw [if_pos rfl] at hst
        walk_at "gw"
        refine NF.x_ite (fun h3 => ?_) (fun h3 => ?_)
        · walk_at "gw"
          exact bad (by rw [hst, if_pos (by omega)])
        · walk_at "gw"
          refine ⟨some (.int i), some (ch 41), ⟨s.many, 0, s.opn - 1, true⟩, ?_, O, by rw [hs1, hst, if_neg (by omega)]⟩
          rw [show ((s.opn - 1 : Nat) : Int) = (s.opn : Int) - 1 by omega]
          rfl
      rw [if_neg h2] at hst
      walk_at "gw"
      refine x_iteC (k := 124) (h1 := fun h3 => ?_) (h2 := fun h3 => ?_)
      · subst h3
        rw [if_pos rfl] at hst
        walk_at "gw"
        exact ⟨_, _, ⟨s.many, 0, s.opn, false⟩, rfl, O, by rw [hs1, hst]⟩
      rw [if_neg h3] at hst
      walk_at "gw"
      refine NF.x_itn (fun h4 => ?_) (fun h4 => ?_)
      · have h4 : c ≠ 32 := fun e => h4 (by rw [ch_eq (k := 32) (by decide +kernel)]; exact e)
        rw [if_neg h4] at hst
        walk_at "gw"
        refine NF.x_itn (fun h5 => ?_) (fun h5 => ?_)
        · rw [tl_rep] at h5
          have h5 : ¬ (c = 42 ∨ c = 43 ∨ c = 63) := by simpa using h5
          refine NF.x_itb (fun _ => ?_) (fun h => absurd h (by decide))
          walk_at "gw"
          exact bad (by rw [hst, if_neg (fun q => h5 q.1)])
        · rw [tl_rep] at h5
          have h5 : c = 42 ∨ c = 43 ∨ c = 63 := by simpa using h5
          walk_at "gw"
          refine NF.x_itb (fun h6 => ?_) (fun h6 => ?_)
          · have h6 : s.rdy = false := by simpa using h6
            walk_at "gw"
            exact bad (by rw [hst, if_neg (fun q => by rw [h6] at q; cases q.2)])
          · have h6 : s.rdy = true := by simpa using h6
            walk_at "gw"
            exact ⟨some (.int i), some (ch c), ⟨s.many, 0, s.opn, true⟩, by rw [h6]; rfl, O, by rw [hs1, hst, if_pos ⟨h5, h6⟩]⟩
      · have h4 : c = 32 := by rw [ch_eq (k := 32) (by decide +kernel)] at h4; exact h4
        rw [if_pos h4] at hst
        walk_at "gw"
        exact ⟨_, _, ⟨s.many, 0, s.opn, s.rdy⟩, rfl, O, by rw [hs1, hst]⟩
  · rintro _ H2 ⟨u5, u6, s, rfl, O, hs⟩
    rw [show ((z.length : Int)).toNat = (tl z).length by rw [← len_tl]; omega, List.take_length] at hs
    have hf := fl_end hs
    walk_at "gw"
    walk_at "gw"
    refine NF.x_ite (fun h0 => ?_) (fun h0 => ?_)
    · walk_at "gw"
      exact k _ _ O ⟨z, rfl, by rw [hf, if_neg (by omega), len_tl]; rfl⟩
    · walk_at "gw"
      exact k _ _ O ⟨z, rfl, by rw [hf, if_pos (by omega)]; rfl⟩

def spRuns : Sp := spNew 1 (fun vs => ∃ z, vs = [.str z] ∧ z.length ≤ 1000000) (fun vs o => ∃ z, vs = [.str z] ∧ o = .tup ((runsOf (tl z)).map tkn))
abbrev NM_law_runs : List Str := ["written", "runs", "run", "letter"]
theorem sc_law_runs : FnScope NM_law_runs ["written"] (defScope s_law_runs) := ⟨rfl, rfl, rfl, by decide +kernel, rfl, by decide +kernel, by decide +kernel⟩
theorem d_law_runs (F : Fn0 K mg "_law_runs" s_law_runs) (T : Txt P K mg)  :
    Def P w K mg base 1 "_law_runs" ["written"] spRuns := by
  refine Def.mk0 F sc_law_runs (by first | exact NF.hl_spB | exact NF.hl_spP | exact NF.hl_spNew | exact NF.hl_spPX | exact NF.hl_spN | exact NF.hl_spNX | exact hl_spRuns) (fun _ _ _ _ _ _ us hl => match us, hl with | [_], _ => rfl) (fun cdv A outer s H vs Q E hr h => ?_)
  refine ⟨_, (pss_cons (ps_set (i := 1) sc_law_runs.nd rfl (Or.inl rfl) (pe_lst pa_nil))
      (pss_cons (ps_set (i := 2) sc_law_runs.nd rfl (Or.inl rfl) pe_str)
      (pss_cons (ps_for PassesOwn.never rfl (pi_str (pe_op opAddS (pv 0) pe_str)) (pg_name (i := 3) sc_law_runs.nd rfl (Or.inl rfl))
      (pss_one (ps_if (pt_cmpR opInC (pv 3) pe_str (by rfl))
      (pss_one (ps_set (i := 2) sc_law_runs.nd rfl (Or.inl rfl) (pe_op opAddS (pv 2) (pv 3))))
      (pss_one (ps_if (pt_cmpR op_ne (pv 2) pe_str (nomark _))
      (pss_cons (ps_expr (pe_bm PySem.F.plainAttrs_list PySem.F.slot_list_append PySem.F.type_list_append mt_append (pv 1) (pa_cons (pv 2) pa_nil)))
      (pss_one (ps_set (i := 2) sc_law_runs.nd rfl (Or.inl rfl) pe_str)))
      pss_nil)))))
      (pss_one (ps_ret (pe_callTy (T := "tuple") callTupleOf (by rfl) T.b_tuple (by decide +kernel) (pa_cons (pv 1) pa_nil))))))), ?_⟩
  try dsimp only [cxOf, Cx.nox, Cx.wish]
  obtain ⟨hl, ⟨z, rfl, hz⟩, k⟩ := h
  have O := NF.Own.refl0 H
  walk_at "gw"
  refine NF.x_newL O (by decide +kernel) fun pt H1 hpt O => ?_
  walk_at "nO"
  walk_at "gw"
  refine NF.x_addS (by rw [len_sp, sizeLine_eq]; omega) ?_
  have hlen : (z ++ Str.ofString " ").length = z.length + 1 := by rw [len_app, len_sp]
  have htl : tl (z ++ Str.ofString " ") = tl z ++ [32] := by rw [tl_append, tl_sp]
  refine NF.f_str (fun i σ H' => ∃ (u3 : Option V), σ = [some (.str z), some (.ref pt), some (.str (mkS (wds ((tl z ++ [32]).take i)).2)), u3] ∧ Own H H' [] [(pt, .lst ((wds ((tl z ++ [32]).take i)).1.map tkn))] ∧ (wds ((tl z ++ [32]).take i)).1.length ≤ i ∧ (wds ((tl z ++ [32]).take i)).2.length ≤ i ∧ i ≤ z.length + 1) ⟨none, by rw [List.take_zero]; rfl, by rw [List.take_zero]; exact O, by rw [List.take_zero]; exact Nat.le_refl _, by rw [List.take_zero]; exact Nat.le_refl _, Nat.zero_le _⟩ ?_ ?_
  · rintro i c _ H2 hc ⟨u3, rfl, O, h1, h2, h3⟩
    have hc := tl_at hc
    rw [htl] at hc
    have hi : i < z.length + 1 := by
      have := (List.getElem?_eq_some_iff.mp hc).1
      rw [List.length_append, ← len_tl] at this
      exact this
    have hw := wds_snoc hc
    generalize wds ((tl z ++ [32]).take i) = p at hw O h1 h2
    rw [hw]
    have fin : ∀ (R : List (List Nat)) (r : List Nat) (u : Option V) (H4 : Hp), wst p c = (R, r) → Own H H4 [] [(pt, .lst (R.map tkn))] → R.length ≤ i + 1 → r.length ≤ i + 1 →
        ∃ (u3 : Option V), [some (.str z), some (.ref pt), some (.str (mkS r)), u] = [some (.str z), some (.ref pt), some (.str (mkS (wst p c).2)), u3] ∧ Own H H4 [] [(pt, .lst ((wst p c).1.map tkn))] ∧ (wst p c).1.length ≤ i + 1 ∧ (wst p c).2.length ≤ i + 1 ∧ i + 1 ≤ z.length + 1 := fun R r u H4 e O a b => by
      rw [e]
      exact ⟨u, rfl, O, a, b, by omega⟩
    walk_at "gw"
    refine NF.x_ite (fun h0 => ?_) (fun h0 => ?_)
    · rw [mem_abc] at h0
      walk_at "gw"
      have e1 : mkS p.2 ++ ⟨#[c]⟩ = mkS (p.2 ++ [c]) := ext_tl (by rw [tl_append])
      rw [e1]
      exact fin p.1 (p.2 ++ [c]) _ _ (by unfold wst; rw [if_pos h0]) O (by omega) (by rw [List.length_append]; exact Nat.succ_le_succ h2)
    · rw [mem_abc] at h0
      walk_at "gw"
      refine NF.x_itnS (fun h => ?_) (fun h => ?_)
      · have h4 : p.2 ≠ [] := fun e => h (by rw [e]; rfl)
        walk_at "gw"
        refine fin (p.1 ++ [p.2]) [] _ _ (by unfold wst; rw [if_neg h0, if_neg h4]) (by rw [List.map_append]; exact O) (by rw [List.length_append]; exact Nat.succ_le_succ h1) (by simp)
      · have h4 : p.2 = [] := by
          have h5 : tl (mkS p.2) = tl (Str.ofString "") := by rw [h]
          have h6 : tl (Str.ofString "") = [] := by rw [tl_ofString]; decide +kernel
          rw [h6] at h5
          exact h5
        walk_at "gw"
        exact fin p.1 p.2 _ _ (by unfold wst; rw [if_neg h0, if_pos h4]) O (by omega) (by omega)
  · rintro _ H2 ⟨u3, rfl, O, h1, h2, h3⟩
    have e0 : (z ++ Str.ofString " ").cps.size = (tl z ++ [32]).length := by rw [← htl]; exact (len_tl _)
    rw [e0, List.take_length] at O h1
    have e1 : (wds (tl z ++ [32])).1 = runsOf (tl z) := by
      have e2 : wds (tl z ++ [32]) = wst (wds (tl z)) 32 := by unfold wds; rw [List.foldl_append]; rfl
      rw [e2, (runs_wst (by decide)).2]
      rfl
    rw [e1] at O h1
    walk_at "gw"
    refine x_tupOf O (O.get 0 rfl) fun p H3 hp O => ?_
    walk_at "gw"
    refine k p H3 _ hp ?_ ⟨z, rfl, rfl⟩
    exact Own.dropTo (R := [(pt, _)]) (N := [_]) O fun x hx => by rw [List.mem_singleton.mp hx]; exact hpt

def spIsW : Sp := spP 1 (fun vs => ∃ t : List Nat, vs = [tkn t]) (fun vs v => ∃ t : List Nat, vs = [tkn t] ∧ v = .bl (decide (t ≠ [40] ∧ t ≠ [41] ∧ t ≠ [124] ∧ t ≠ [42] ∧ t ≠ [43] ∧ t ≠ [63])))
theorem mk_beq2 (a b : List Nat) : (mkS a == mkS b) = decide (b = a) := by rw [mk_beq]; exact decide_eq_decide.mpr ⟨Eq.symm, Eq.symm⟩
theorem in6 (t : List Nat) : (!inV (tkn t) [.str (Str.ofString "("), .str (Str.ofString ")"), .str (Str.ofString "|"), .str (Str.ofString "*"), .str (Str.ofString "+"), .str (Str.ofString "?")]) = decide (t ≠ [40] ∧ t ≠ [41] ∧ t ≠ [124] ∧ t ≠ [42] ∧ t ≠ [43] ∧ t ≠ [63]) := by
  rw [lit (s := "(") (l := [40]), lit (s := ")") (l := [41]), lit (s := "|") (l := [124]), lit (s := "*") (l := [42]), lit (s := "+") (l := [43]), lit (s := "?") (l := [63])]
  show (!((mkS [40] == mkS t) || ((mkS [41] == mkS t) || ((mkS [124] == mkS t) || ((mkS [42] == mkS t) || ((mkS [43] == mkS t) || ((mkS [63] == mkS t) || false))))))) = _
  simp only [mk_beq2, Bool.or_false]
  rw [Bool.eq_iff_iff]
  simp
theorem x_notInL {K : PySem.W.Frag} {H : Hp} {a : Addr} {x : V} {xs : List V} {Q : VK} (h : H a = some (.lst xs)) (f1 : flatV x = true) (f2 : xs.all flatV = true) (q : Q (.bl (!inV x xs)) H) : rIn K true x (.ref a) H Q := ⟨a, xs, rfl, .inl (.of h), f1, f2, q⟩
abbrev NM_law_is_word : List Str := ["token"]
theorem sc_law_is_word : FnScope NM_law_is_word ["token"] (defScope s_law_is_word) := ⟨rfl, rfl, rfl, by decide +kernel, rfl, by decide +kernel, by decide +kernel⟩
theorem d_law_is_word (F : Fn0 K mg "_law_is_word" s_law_is_word) (T : Txt P K mg)  :
    Def P w K mg base 1 "_law_is_word" ["token"] spIsW := by
  refine Def.mk0 F sc_law_is_word (by first | exact NF.hl_spB | exact NF.hl_spP | exact NF.hl_spNew | exact NF.hl_spPX | exact NF.hl_spN | exact NF.hl_spNX | exact hl_spIsW) (fun _ _ _ _ _ _ us hl => match us, hl with | [_], _ => rfl) (fun cdv A outer s H vs Q E hr h => ?_)
  refine ⟨_, (pss_one (ps_ret (pe_cmpR op_notIn_seq (pv 0) (pe_lst (pa_cons pe_str (pa_cons pe_str (pa_cons pe_str (pa_cons pe_str (pa_cons pe_str (pa_cons pe_str pa_nil))))))) (by rfl)))), ?_⟩
  try dsimp only [cxOf, Cx.nox, Cx.wish]
  obtain ⟨hl, ⟨t, rfl⟩, k⟩ := h
  have O := NF.Own.refl0 H
  walk_at "gw"
  refine NF.x_newL O (by decide +kernel) fun pp H5 hpp O => ?_
  walk_at "nO"
  walk_at "gw"
  refine x_notInL (O.get 0 rfl) rfl (by rfl) ?_
  walk_at "gw"
  rw [in6]
  exact k _ _ (O.drop fun x hx => by rw [List.mem_singleton.mp hx]; exact hpp) ⟨t, rfl, rfl⟩

/-- two tuples of the same texts -/
def spRight : Sp := fun vs H Q _ => ∃ (a b : Addr) (ws : List (List Nat)), vs = [.ref a, .ref b] ∧ H a = some (.tup (ws.map tkn)) ∧ H b = some (.tup (ws.map tkn)) ∧ ws.length ≤ 1000000 ∧ (∀ t ∈ ws, ∀ c ∈ t, c < 1114112) ∧ ∀ H', Own H H' [] [] → Q (.bl true) H'
theorem hl_spRight : ∀ vs H Q E, spRight vs H Q E → vs.length = 2 := fun vs H Q E ⟨_, _, _, e, _⟩ => by rw [e]; rfl
theorem strOk_mk {t : List Nat} (h : ∀ c ∈ t, c < 1114112) : PyData.strOk (mkS t) = true := by
  unfold PyData.strOk
  rw [← Array.all_toList, List.all_eq_true]
  exact fun n hn => decide_eq_true (h n hn)
theorem words_lay {ws : List (List Nat)} (h : ∀ t ∈ ws, ∀ c ∈ t, c < 1114112) : PyData.canLayAll0 (ws.map fun t => .str (mkS t)) = true ∧ PyData.depthAll (ws.map fun t => .str (mkS t)) = 0 := by
  induction ws with
  | nil => exact ⟨by simp only [List.map_nil, PyData.canLayAll0], by simp only [List.map_nil, PyData.depthAll]⟩
  | cons t ws ih =>
    obtain ⟨a, b⟩ := ih fun u hu => h u (List.mem_cons_of_mem _ hu)
    have s := strOk_mk (h t (List.mem_cons_self ..))
    refine ⟨?_, ?_⟩
    · simp only [List.map_cons, PyData.canLayAll0, PyData.canLay0, s, a, Bool.and_self]
    · simp only [List.map_cons, PyData.depthAll, PyData.depth, b, Nat.max_self]
theorem words_shaped {ws : List (List Nat)} (h : ∀ t ∈ ws, ∀ c ∈ t, c < 1114112) : SeqAt.shaped (.tuple (ws.map fun t => .str (mkS t))) = true := by
  obtain ⟨a, b⟩ := words_lay h
  unfold SeqAt.shaped
  simp only [PyData.canLay0, PyData.depth, a, b]
  decide
theorem words_dp {K : PySem.W.Frag} {H : Hp} : ∀ ws : List (List Nat), DpAll K H (ws.map tkn) (ws.map fun t => .str (mkS t))
  | [] => .nil
  | _ :: ws => .cons (.str _) (words_dp ws)
theorem x_eqDT {K : PySem.W.Frag} {H : Hp} {a b : Addr} {xs : List V} {ds : List PyData} {Q : VK} (ha : H a = some (.tup xs)) (hb : H b = some (.tup xs)) (hd : DpAll K H xs ds) (hs : SeqAt.shaped (.tuple ds) = true) (q : Q (.bl true) H) : rEqD K (.ref a) (.ref b) H Q :=
  ⟨_, _, .tup (SqT.of ha) hd, .tup (SqT.of hb) hd, hs, hs, by rw [SeqAt.eqv_refl _ (SeqAt.canLay_of_shaped hs)]; exact q⟩
abbrev NM_law_right_words : List Str := ["told", "due", "one"]
theorem sc_law_right_words : FnScope NM_law_right_words ["told", "due"] (defScope s_law_right_words) := ⟨rfl, rfl, rfl, by decide +kernel, rfl, by decide +kernel, by decide +kernel⟩
theorem d_law_right_words (F : Fn0 K mg "_law_right_words" s_law_right_words) (T : Txt P K mg)  :
    Def P w K mg base 1 "_law_right_words" ["told", "due"] spRight := by
  refine Def.mk0 F sc_law_right_words (by first | exact NF.hl_spB | exact NF.hl_spP | exact NF.hl_spNew | exact NF.hl_spPX | exact NF.hl_spN | exact NF.hl_spNX | exact hl_spRight) (fun _ _ _ _ _ _ us hl => match us, hl with | [_, _], _ => rfl) (fun cdv A outer s H vs Q E hr h => ?_)
  refine ⟨_, (pss_one (ps_ret (pe_and (pe_callB callIsT (by rfl) T.b_isinstance (by decide +kernel) (pa_cons (pv 0) (pa_cons (pe_ty (n := "tuple") (by rfl) T.b_tuple (by decide +kernel)) pa_nil))) (pe_and (pe_callB (id := "all") (cr_all rfl) (by rfl) T.b_all (by decide +kernel) (pa_cons (pe_lc (own := [("one", 2)]) (g := gName 2) rfl sc_law_right_words.nd (pi_tup (pv 0)) (blkOk_by (own := [("one", 2)]) (N := NM_law_right_words) (sc := defScope s_law_right_words) (by decide +kernel)) (fun _ _ _ _ _ => pg_name (i := 2) sc_law_right_words.nd rfl (Or.inl rfl)) (fun _ _ _ _ _ => pts_nil) (fun _ _ _ _ _ => (pe_callB (id := "isinstance") (r := rIsT K) callIsT (by rfl) T.b_isinstance (by decide +kernel) (pa_cons (pv 2) (pa_cons (pe_ty (n := "str") (by rfl) T.b_str (by decide +kernel)) pa_nil))))) pa_nil)) (pe_one (pe_cmpR (op_eqD hr.units) (pv 0) (pv 1) (nomark _))))))), ?_⟩
  try dsimp only [cxOf, Cx.nox, Cx.wish]
  obtain ⟨a, b, ws, rfl, ha, hb, hl, hc, k⟩ := h
  have O := NF.Own.refl0 H
  walk_at "gw"
  have h1 : ∀ (p' : Addr) (acc : List V), H p' = none → ∀ x ∈ ([] ++ [(p', HO.lst acc)] : List (Addr × HO)), H x.1 = none := fun p' acc hp x hx => by
    rcases List.mem_singleton.mp hx with rfl
    exact hp
  refine lc_tup2 (SqT.of ha) O (fun i acc M' => M' = [] ∧ acc = (List.replicate i true).map V.bl)
    (fun i H' M' p' acc hp' hP O' => by obtain ⟨rfl, _⟩ := hP; exact SqT.of (Own.staysR O' (h1 p' acc hp') ha)) ⟨rfl, rfl⟩ (fun i x H' M' p' acc hp' hx hl2 hP O' => ?_) fun p' H' M' acc hp' hl2 hP O' => ?_
  · obtain ⟨rfl, rfl⟩ := hP
    obtain ⟨t1, ht1, rfl⟩ : ∃ t, ws[i]? = some t ∧ tkn t = x := by
      rw [List.getElem?_map] at hx
      cases h : ws[i]? with
      | none => rw [h] at hx; cases hx
      | some t => rw [h] at hx; exact ⟨t, rfl, Option.some.inj hx⟩
    have hi : i < ws.length := (List.getElem?_eq_some_iff.mp ht1).1
    walk_at "gw"
    refine NF.lc_done O' hl2 (by rw [sizeLine_eq]; omega) ⟨rfl, ?_⟩
    rw [List.replicate_succ', List.map_append]
    rfl
  · obtain ⟨rfl, rfl⟩ := hP
    walk_at "gw"
    refine ⟨_, _, rfl, SqL.of (O'.get 0 rfl), ?_⟩
    have e : (List.replicate (ws.map tkn).length true).all id = true := by simp
    rw [e]
    have hR := h1 p' ((List.replicate (ws.map tkn).length true).map V.bl) hp'
    walk_at "gw"
    refine x_eqDT (Own.staysR O' hR ha) (Own.staysR O' hR hb) (words_dp ws) (words_shaped hc) ?_
    exact k _ (O'.drop hR)


/-! tuples that stay; lists of dicts -/
def TOk (K : PySem.W.Frag) (H : Hp) (M : List (Addr × HO)) (a : Addr) (xs : List V) : Prop := KTu K a xs ∨ (H a = some (.tup xs) ∧ a ∉ M.map Prod.fst)
theorem TOk.at {K : PySem.W.Frag} {B H : Hp} {M M' R : List (Addr × HO)} {a : Addr} {xs : List V} (t : TOk K B M a xs) (O : Own B H M' R) (e : M'.map Prod.fst = M.map Prod.fst) (hR : ∀ x ∈ R, B x.1 = none) : SqT K H a xs := by
  rcases t with t | ⟨t, n⟩
  · exact t H
  · refine SqT.of (O.out a (fun q => ?_) _ t)
    rw [List.map_append] at q
    rcases List.mem_append.mp q with q | q
    · exact n (e ▸ q)
    · obtain ⟨x, hx, ex⟩ := List.mem_map.mp q
      have := hR x hx
      rw [ex, t] at this
      cases this
structure Tri (Ti : Addr → List V → Prop) (n : Nat) (a : Addr) (fs ls : List Nat) : Prop where
  ex : ∃ (b : Bool) (f l : Addr), Ti a [.bl b, .ref f, .ref l] ∧ Ti f (fs.map nV) ∧ Ti l (ls.map nV)
  lf : ∀ x ∈ fs, x < n
  ll : ∀ x ∈ ls, x < n
theorem Tri.mono {Ti Ti' : Addr → List V → Prop} {n n' : Nat} {a : Addr} {fs ls : List Nat} (t : Tri Ti n a fs ls) (h : ∀ a xs, Ti a xs → Ti' a xs) (hn : n ≤ n') : Tri Ti' n' a fs ls := by
  obtain ⟨b, f, l, h1, h2, h3⟩ := t.ex
  exact ⟨⟨b, f, l, h _ _ h1, h _ _ h2, h _ _ h3⟩, fun x hx => Nat.lt_of_lt_of_le (t.lf x hx) hn, fun x hx => Nat.lt_of_lt_of_le (t.ll x hx) hn⟩
/-- new tuples only -/
def NewT (B : Hp) (N : List (Addr × HO)) : Prop := ∀ x ∈ N, B x.1 = none
abbrev Ti2 (Ti : Addr → List V → Prop) (N : List (Addr × HO)) : Addr → List V → Prop := fun a xs => Ti a xs ∨ (a, HO.tup xs) ∈ N
def DOk (kvs : List (Key × V)) : Prop := (kvs.map Prod.fst).Nodup ∧ ∀ q ∈ kvs, ∃ j : Nat, q.1 = Sum.inl (j : Int) ∧ j < 12
theorem putK_keys {κ : Type} [DecidableEq κ] (k : κ) (v : V) : ∀ kvs : List (κ × V), (putK kvs k v).map Prod.fst = if k ∈ kvs.map Prod.fst then kvs.map Prod.fst else kvs.map Prod.fst ++ [k] := by
  intro kvs
  have e1 : (kvs.map fun kv => if kv.1 = k then (kv.1, v) else kv).map Prod.fst = kvs.map Prod.fst := by
    rw [List.map_map]
    refine List.map_congr_left fun q _ => ?_
    show (if q.1 = k then (q.1, v) else q).1 = q.1
    split <;> rfl
  have e2 : ((kvs.any fun kv => decide (kv.1 = k)) = true) ↔ k ∈ kvs.map Prod.fst := by
    rw [List.any_eq_true, List.mem_map]
    exact ⟨fun ⟨q, h1, h2⟩ => ⟨q, h1, of_decide_eq_true h2⟩, fun ⟨q, h1, h2⟩ => ⟨q, h1, decide_eq_true h2⟩⟩
  unfold putK
  by_cases h : k ∈ kvs.map Prod.fst
  · rw [if_pos (e2.mpr h), if_pos h, e1]
  · rw [if_neg (fun q => h (e2.mp q)), if_neg h, List.map_append]
    rfl
theorem DOk.put {kvs : List (Key × V)} {j : Nat} {v : V} (h : DOk kvs) (hj : j < 12) : DOk (putK kvs (Sum.inl (j : Int)) v) := by
  have e := putK_keys (Sum.inl (j : Int) : Key) v kvs
  have mem : ∀ q ∈ putK kvs (Sum.inl (j : Int)) v, q.1 ∈ kvs.map Prod.fst ∨ q.1 = Sum.inl (j : Int) := fun q hq => by
    have m : q.1 ∈ (putK kvs (Sum.inl (j : Int)) v).map Prod.fst := List.mem_map_of_mem hq
    rw [e] at m
    split at m
    · exact .inl m
    · rcases List.mem_append.mp m with m | m
      · exact .inl m
      · exact .inr (List.mem_singleton.mp m)
  refine ⟨?_, fun q hq => ?_⟩
  · rw [e]
    split
    · exact h.1
    · rename_i n
      refine List.nodup_append.mpr ⟨h.1, by simp, fun a ha b hb e => ?_⟩
      rw [List.mem_singleton.mp hb] at e
      exact n (e ▸ ha)
  · rcases mem q hq with m | m
    · obtain ⟨q2, h2, e2⟩ := List.mem_map.mp m
      obtain ⟨i, e3, h3⟩ := h.2 q2 h2
      exact ⟨i, e2 ▸ e3, h3⟩
    · exact ⟨j, m, hj⟩
theorem nodup_lt : ∀ (n : Nat) (l : List Nat), l.Nodup → (∀ x ∈ l, x < n) → l.length ≤ n
  | 0, l, _, h => by
    cases l with
    | nil => exact Nat.le_refl _
    | cons a l => exact absurd (h a (List.mem_cons_self ..)) (Nat.not_lt_zero _)
  | n + 1, l, nd, h => by
    have h1 := nodup_lt n (l.filter (· ≠ n)) (nd.sublist List.filter_sublist) fun x hx => by
      obtain ⟨a, b⟩ := List.mem_filter.mp hx
      have := h x a
      have b : x ≠ n := by simpa using b
      omega
    have h2 : l.length ≤ (l.filter (· ≠ n)).length + 1 := by
      clear h1 h
      induction l with
      | nil => simp
      | cons a l ih =>
        obtain ⟨n1, n2⟩ := List.nodup_cons.mp nd
        by_cases e : a = n
        · subst e
          have : l.filter (· ≠ a) = l := List.filter_eq_self.mpr fun x hx => by
            have : x ≠ a := fun q => n1 (q ▸ hx)
            simpa using this
          rw [List.filter_cons_of_neg (by simp), this]
          exact Nat.le_refl _
        · rw [List.filter_cons_of_pos (by simpa using e)]
          have := ih n2
          simp only [List.length_cons]
          omega
    omega
theorem DOk.ints {kvs : List (Key × V)} (h : DOk kvs) : ∃ ks : List Int, kvs.map Prod.fst = ks.map Sum.inl ∧ ks.length ≤ 12 := by
  have h1 : ∃ ns : List Nat, kvs.map Prod.fst = ns.map (fun j : Nat => (Sum.inl (j : Int) : Key)) ∧ ∀ x ∈ ns, x < 12 := by
    replace h := h.2
    revert h
    induction kvs with
    | nil => exact fun _ => ⟨[], rfl, fun x hx => absurd hx List.not_mem_nil⟩
    | cons q kvs ih =>
      intro h
      obtain ⟨ns, e, hn⟩ := ih fun q hq => h q (List.mem_cons_of_mem _ hq)
      obtain ⟨j, ej, hj⟩ := h q (List.mem_cons_self ..)
      refine ⟨j :: ns, by rw [List.map_cons, List.map_cons, e, ej], fun x hx => ?_⟩
      rcases List.mem_cons.mp hx with rfl | hx
      · exact hj
      · exact hn x hx
  obtain ⟨ns, e, hn⟩ := h1
  have nd : ns.Nodup := by
    have := h.1
    rw [e] at this
    exact (List.pairwise_map.mp this).imp fun h e => h (by rw [e])
  refine ⟨ns.map fun j : Nat => (j : Int), by rw [e, List.map_map]; rfl, ?_⟩
  rw [List.length_map]
  exact nodup_lt 12 ns nd hn
/-- the list of dicts -/
def FolD (pf : Addr) (n : Nat) (M : List (Addr × HO)) : Prop := ∃ (ds : List Addr) (ks : List (List (Key × V))), M = (pf, .lst (ds.map V.ref)) :: ds.zip (ks.map HO.dK) ∧ ds.length = n ∧ ks.length = n ∧ ∀ k ∈ ks, DOk k
theorem zip_set {α β : Type} : ∀ (ds : List α) (ks : List β) (j : Nat) (d : α) (k : β), ds[j]? = some d → (ds.zip ks).set j (d, k) = ds.zip (ks.set j k)
  | [], _, _, _, _, h => by simp at h
  | d :: ds, [], j, d2, k, h => by simp
  | d :: ds, q :: ks, 0, d2, k, h => by
    have e : d = d2 := by simpa using h
    subst e
    rfl
  | d :: ds, q :: ks, j + 1, d2, k, h => by
    show (d, q) :: (ds.zip ks).set j (d2, k) = (d, q) :: ds.zip (ks.set j k)
    rw [zip_set ds ks j d2 k (by simpa using h)]
def spLinked (K : PySem.W.Frag) : Sp := fun vs H Q _ => ∃ (la fa pf : Addr) (M : List (Addr × HO)) (n : Nat) (ls fs : List Nat), vs = [.ref la, .ref fa, .ref pf] ∧ FolD pf n M ∧ n ≤ 12 ∧ Own H H M [] ∧ TOk K H M la (ls.map nV) ∧ TOk K H M fa (fs.map nV) ∧
  (∀ x ∈ ls, x < n) ∧ (∀ x ∈ fs, x < n) ∧ ∀ H' M', FolD pf n M' → M'.map Prod.fst = M.map Prod.fst → Own H H' M' [] → Q .non H'
theorem hl_spLinked {K : PySem.W.Frag} : ∀ vs H Q E, spLinked K vs H Q E → vs.length = 3 := fun vs H Q E ⟨_, _, _, _, _, _, _, e, _⟩ => by rw [e]; rfl
theorem addr_zip {ds : List Addr} {ks : List HO} (h : ds.length = ks.length) : (ds.zip ks).map Prod.fst = ds := by
  rw [List.map_fst_zip (by omega)]
abbrev NM_linked : List Str := ["lasts", "firsts", "follows", "last", "first"]
theorem sc_linked : FnScope NM_linked ["lasts", "firsts", "follows"] (defScope s_linked) := ⟨rfl, rfl, rfl, by decide +kernel, rfl, by decide +kernel, by decide +kernel⟩
theorem d_linked (F : Fn0 K mg "_linked" s_linked) (T : Txt P K mg)  :
    Def P w K mg base 1 "_linked" ["lasts", "firsts", "follows"] (spLinked K) := by
  refine Def.mk0 F sc_linked (by first | exact NF.hl_spB | exact NF.hl_spP | exact NF.hl_spNew | exact NF.hl_spPX | exact NF.hl_spN | exact NF.hl_spNX | exact hl_spLinked) (fun _ _ _ _ _ _ us hl => match us, hl with | [_, _, _], _ => rfl) (fun cdv A outer s H vs Q E hr h => ?_)
  refine ⟨_, (pss_one (ps_for PassesOwn.never rfl (pi_tup (pv 0)) (pg_name (i := 3) sc_linked.nd rfl (Or.inl rfl))
      (pss_one (ps_for PassesOwn.never rfl (pi_tup (pv 1)) (pg_name (i := 4) sc_linked.nd rfl (Or.inl rfl))
      (pss_one (ps_asg pe_bl (pg_sub (pe_ix ix_list (pv 2) (pv 3) (fun _ _ => rfl)) (pv 4) (set_dict (NF.u1 hr.units))))))))), ?_⟩
  try dsimp only [cxOf, Cx.nox, Cx.wish]
  obtain ⟨la, fa, pf, M, n, ls, fs, rfl, hM, hn, O, hla, hfa, hls, hfs, k⟩ := h
  obtain ⟨ds, ks, rfl, hds, hks, hok⟩ := hM
  have O := O.opened
  have nm : ∀ (ks2 : List (List (Key × V))), ks2.length = n → ((pf, HO.lst (ds.map V.ref)) :: ds.zip (ks2.map HO.dK)).map Prod.fst = pf :: ds := fun ks2 h => by
    rw [List.map_cons, addr_zip (by rw [List.length_map]; omega)]
  have tok : ∀ (a : Addr) (xs : List V) (H' : Hp) (ks2 : List (List (Key × V))), ks2.length = n → TOk K H ((pf, HO.lst (ds.map V.ref)) :: ds.zip (ks.map HO.dK)) a xs → Own H H' [] ((pf, HO.lst (ds.map V.ref)) :: ds.zip (ks2.map HO.dK)) → SqT K H' a xs := fun a xs H' ks2 h2 t O =>
    t.at O.closed (by rw [nm ks2 h2, nm ks hks]) (fun x hx => absurd hx List.not_mem_nil)
  walk_at "gw"
  refine NF.f_tup (tok _ _ _ ks hks hla O) (fun i σ H' => ∃ (u3 u4 : Option V) (ks2 : List (List (Key × V))), σ = [some (.ref la), some (.ref fa), some (.ref pf), u3, u4] ∧ Own H H' [] ((pf, HO.lst (ds.map V.ref)) :: ds.zip (ks2.map HO.dK)) ∧ ks2.length = n ∧ ∀ k ∈ ks2, DOk k) ⟨_, _, ks, rfl, O, hks, hok⟩ ?_ ?_ ?_
  · rintro i σ H' ⟨u3, u4, ks2, rfl, O, h2, _⟩
    exact tok _ _ _ ks2 h2 hla O
  · rintro i x _ H2 hx ⟨u3, u4, ks2, rfl, O, h2, hok2⟩
    obtain ⟨m, hm, rfl⟩ : ∃ m, ls[i]? = some m ∧ nV m = x := by
      rw [List.getElem?_map] at hx
      cases h : ls[i]? with
      | none => rw [h] at hx; cases hx
      | some t => rw [h] at hx; exact ⟨t, rfl, Option.some.inj hx⟩
    have hmn := hls m (List.mem_of_getElem? hm)
    walk_at "gw"
    refine NF.f_tup (tok _ _ _ ks2 h2 hfa O) (fun i σ H' => ∃ (u4 : Option V) (ks2 : List (List (Key × V))), σ = [some (.ref la), some (.ref fa), some (.ref pf), some (nV m), u4] ∧ Own H H' [] ((pf, HO.lst (ds.map V.ref)) :: ds.zip (ks2.map HO.dK)) ∧ ks2.length = n ∧ ∀ k ∈ ks2, DOk k) ⟨_, ks2, rfl, O, h2, hok2⟩ ?_ ?_ ?_
    · rintro i σ H' ⟨u4, ks2, rfl, O, h2, _⟩
      exact tok _ _ _ ks2 h2 hfa O
    · rintro i x _ H2 hx ⟨u4, ks2, rfl, O, h2, hok2⟩
      obtain ⟨m2, hm2, rfl⟩ : ∃ m, fs[i]? = some m ∧ nV m = x := by
        rw [List.getElem?_map] at hx
        cases h : fs[i]? with
        | none => rw [h] at hx; cases hx
        | some t => rw [h] at hx; exact ⟨t, rfl, Option.some.inj hx⟩
      have hmn2 := hfs m2 (List.mem_of_getElem? hm2)
      obtain ⟨d, hd⟩ : ∃ d, ds[m]? = some d := ⟨_, List.getElem?_eq_getElem (by omega)⟩
      obtain ⟨kv, hkv⟩ : ∃ d, ks2[m]? = some d := ⟨_, List.getElem?_eq_getElem (by omega)⟩
      have hdr : (ds.map V.ref)[m]? = some (.ref d) := by rw [List.getElem?_map, hd]; rfl
      have hz : (ds.zip (ks2.map HO.dK))[m]? = some (d, .dK kv) := List.getElem?_zip_eq_some.mpr ⟨hd, by rw [List.getElem?_map, hkv]; rfl⟩
      have hkl : kv.length ≤ 12 := by
        obtain ⟨q, e, h⟩ := (hok2 kv (List.mem_of_getElem? hkv)).ints
        have := congrArg List.length e
        rw [List.length_map, List.length_map] at this
        omega
      walk_at "gw"
      refine x_setD O (m + 1) hz (by rw [sizeLine_eq]; omega) fun H3 O => ?_
      have e : (((pf, HO.lst (ds.map V.ref)) :: ds.zip (ks2.map HO.dK)).set (m + 1) (d, .dK (putK kv (Sum.inl (m2 : Int)) (.bl true)))) = (pf, HO.lst (ds.map V.ref)) :: ds.zip ((ks2.set m (putK kv (Sum.inl (m2 : Int)) (.bl true))).map HO.dK) := by
        show _ :: (ds.zip (ks2.map HO.dK)).set m _ = _
        rw [zip_set _ _ _ _ _ hd, List.map_set]
      rw [e] at O
      refine ⟨_, _, rfl, O, by rw [List.length_set]; exact h2, fun q hq => ?_⟩
      rcases List.mem_or_eq_of_mem_set hq with hq | hq
      · exact hok2 q hq
      · rw [hq]
        exact (hok2 kv (List.mem_of_getElem? hkv)).put (by omega)
    · rintro _ H3 ⟨u4, ks2, rfl, O, h2, hok2⟩
      exact ⟨_, _, ks2, rfl, O, h2, hok2⟩
  · rintro _ H3 ⟨u3, u4, ks2, rfl, O, h2, hok2⟩
    walk_at "gw"
    exact k _ _ ⟨ds, ks2, rfl, hds, h2, hok2⟩ (by rw [nm ks2 h2, nm ks hks]) O.closed


section
variable {K : PySem.W.Frag} {B H : Hp} {M R : List (Addr × HO)} {Q : VK} {Ti : Addr → List V → Prop}
theorem x_ixTS {a : Addr} {xs : List V} {i : Int} {v : V} (h : SqT K H a xs) (hv : atI xs i = some v) (q : Q v H) : rIxT K (.ref a) (.int i) H Q := ⟨a, xs, i, v, rfl, rfl, h, hv, q⟩
/-- t + u of whole numbers -/
theorem x_catI {a b : Addr} {xs ys : List Nat} (O : Own B H M R) (h1 : SqT K H a (xs.map nV)) (h2 : SqT K H b (ys.map nV)) (t1 : Ti a (xs.map nV)) (t2 : Ti b (ys.map nV)) (hz : xs.length + ys.length ≤ 1000)
    (q : ∀ r H1 N, (∀ x ∈ N, B x.1 = none) → Ti2 Ti N r ((xs ++ ys).map nV) → Own B H1 M (R ++ N) → Q (.ref r) H1) : rCatA K (.ref a) (.ref b) H Q := by
  refine x_catA h1 h2 (by rw [List.length_map, List.length_map, sizeLine_eq]; omega) (fun e => ?_) (fun _ e => ?_) fun p hp => ?_
  · have e : xs = [] := List.map_eq_nil_iff.mp e
    refine q b H [] (fun x hx => absurd hx List.not_mem_nil) (.inl ?_) (by rw [List.append_nil]; exact O)
    rw [e]
    exact t2
  · have e : ys = [] := List.map_eq_nil_iff.mp e
    refine q a H [] (fun x hx => absurd hx List.not_mem_nil) (.inl ?_) (by rw [List.append_nil]; exact O)
    rw [e, List.append_nil]
    exact t1
  · refine q p _ [(p, .tup (xs.map nV ++ ys.map nV))] (fun x hx => by rw [List.mem_singleton.mp hx]; exact O.base_free hp) (.inr ?_) (O.new hp)
    rw [List.map_append]
    exact List.mem_singleton_self _
end
/-- one after the other -/
def spSeq (K : PySem.W.Frag) : Sp := fun vs H Q _ => ∃ (a1 a2 pf : Addr) (M : List (Addr × HO)) (n : Nat) (fs1 ls1 fs2 ls2 : List Nat) (Ti : Addr → List V → Prop), vs = [.ref a1, .ref a2, .ref pf] ∧ FolD pf n M ∧ n ≤ 12 ∧ Own H H M [] ∧ (∀ a xs, Ti a xs → TOk K H M a xs) ∧
  Tri Ti n a1 fs1 ls1 ∧ Tri Ti n a2 fs2 ls2 ∧ fs1.length + fs2.length ≤ 12 ∧ ls1.length + ls2.length ≤ 12 ∧
  ∀ H' M' N p fs ls, FolD pf n M' → M'.map Prod.fst = M.map Prod.fst → (∀ x ∈ N, H x.1 = none) → Own H H' M' N → Tri (Ti2 Ti N) n p fs ls → fs.length ≤ fs1.length + fs2.length → ls.length ≤ ls1.length + ls2.length → Q (.ref p) H'
theorem hl_spSeq {K : PySem.W.Frag} : ∀ vs H Q E, spSeq K vs H Q E → vs.length = 3 := fun vs H Q E ⟨_, _, _, _, _, _, _, _, _, _, e, _⟩ => by rw [e]; rfl
abbrev NM_sequence : List Str := ["one", "other", "follows", "firsts", "lasts"]
theorem sc_sequence : FnScope NM_sequence ["one", "other", "follows"] (defScope s_sequence) := ⟨rfl, rfl, rfl, by decide +kernel, rfl, by decide +kernel, by decide +kernel⟩
theorem d_sequence (F : Fn0 K mg "_sequence" s_sequence) (T : Txt P K mg) (D_linked : Def P w K mg base 1 "_linked" ["lasts", "firsts", "follows"] (spLinked K)) :
    Def P w K mg base 2 "_sequence" ["one", "other", "follows"] (spSeq K) := by
  refine Def.mk0 F sc_sequence (by first | exact NF.hl_spB | exact NF.hl_spP | exact NF.hl_spNew | exact NF.hl_spPX | exact NF.hl_spN | exact NF.hl_spNX | exact hl_spSeq) (fun _ _ _ _ _ _ us hl => match us, hl with | [_, _, _], _ => rfl) (fun cdv A outer s H vs Q E hr h => ?_)
  refine ⟨_, (pss_cons (ps_expr (pe_d D_linked (hr.mono (by decide)) rfl (pa_cons (pe_ix ix_tup (pv 0) pe_int (fun _ _ => rfl)) (pa_cons (pe_ix ix_tup (pv 1) pe_int (fun _ _ => rfl)) (pa_cons (pv 2) pa_nil)))))
      (pss_cons (ps_set (i := 3) sc_sequence.nd rfl (Or.inl rfl) (pe_ifExp (pt_val (pe_ix ix_tup (pv 0) pe_int (fun _ _ => rfl))) (pe_op op_catA (pe_ix ix_tup (pv 0) pe_int (fun _ _ => rfl)) (pe_ix ix_tup (pv 1) pe_int (fun _ _ => rfl))) (pe_ix ix_tup (pv 0) pe_int (fun _ _ => rfl))))
      (pss_cons (ps_set (i := 4) sc_sequence.nd rfl (Or.inl rfl) (pe_ifExp (pt_val (pe_ix ix_tup (pv 1) pe_int (fun _ _ => rfl))) (pe_op op_catA (pe_ix ix_tup (pv 0) pe_int (fun _ _ => rfl)) (pe_ix ix_tup (pv 1) pe_int (fun _ _ => rfl))) (pe_ix ix_tup (pv 1) pe_int (fun _ _ => rfl))))
      (pss_one (ps_ret (pe_tup (pa_cons (pe_and (pe_ix ix_tup (pv 0) pe_int (fun _ _ => rfl)) (pe_one (pe_ix ix_tup (pv 1) pe_int (fun _ _ => rfl)))) (pa_cons (pv 3) (pa_cons (pv 4) pa_nil))))))))), ?_⟩
  try dsimp only [cxOf, Cx.nox, Cx.wish]
  obtain ⟨a1, a2, pf, M, n, fs1, ls1, fs2, ls2, Ti, rfl, hM, hn, O, hT, T1, T2, hz1, hz2, k⟩ := h
  obtain ⟨b1, f1, l1, t11, t12, t13⟩ := T1.ex
  obtain ⟨b2, f2, l2, t21, t22, t23⟩ := T2.ex
  have at0 : ∀ a xs, Ti a xs → SqT K H a xs := fun a xs h => (hT a xs h).at O rfl (fun x hx => absurd hx List.not_mem_nil)
  walk_at "gw"
  refine x_ixTS (at0 _ _ t11) (by rfl) ?_
  walk_at "gw"
  refine x_ixTS (at0 _ _ t21) (by rfl) ?_
  walk_at "gw"
  refine ⟨l1, f2, pf, M, n, ls1, fs2, rfl, hM, hn, O, hT _ _ t13, hT _ _ t22, T1.ll, T2.lf, fun H1 M1 hM1 e1 O1 => ?_⟩
  have at1 : ∀ (H' : Hp) (R : List (Addr × HO)), Own H H' M1 R → (∀ x ∈ R, H x.1 = none) → ∀ a xs, Ti a xs → SqT K H' a xs := fun H' R O hR a xs h => (hT a xs h).at O e1 hR
  have no : ∀ x ∈ ([] : List (Addr × HO)), H x.1 = none := fun x hx => absurd hx List.not_mem_nil
  walk_at "gw"
  refine x_ixTS (at1 _ _ O1 no _ _ t11) (by rfl) ?_
  walk_at "gw"
  refine NF.x_itb (fun hb1 => ?_) (fun hb1 => ?_)
  · walk_at "gw"
    refine x_ixTS (at1 _ _ O1 no _ _ t11) (by rfl) ?_
    walk_at "gw"
    refine x_ixTS (at1 _ _ O1 no _ _ t21) (by rfl) ?_
    walk_at "gw"
    refine x_catI (Ti := Ti) O1 (at1 _ _ O1 no _ _ t12) (at1 _ _ O1 no _ _ t22) t12 t22 (by omega) fun r1 H2 N hN q1 O => ?_
    rw [List.nil_append] at O
    walk_at "gw"
    refine x_ixTS (at1 _ _ O hN _ _ t21) (by rfl) ?_
    walk_at "gw"
    refine NF.x_itb (fun hb2 => ?_) (fun hb2 => ?_)
    · walk_at "gw"
      refine x_ixTS (at1 _ _ O hN _ _ t11) (by rfl) ?_
      walk_at "gw"
      refine x_ixTS (at1 _ _ O hN _ _ t21) (by rfl) ?_
      walk_at "gw"
      refine x_catI (Ti := Ti2 Ti N) O (at1 _ _ O hN _ _ t13) (at1 _ _ O hN _ _ t23) (.inl t13) (.inl t23) (by omega) fun r2 H3 N2 hN2 q2 O => ?_
      have q1 : Ti2 Ti (N ++ N2) r1 ((fs1 ++ fs2).map nV) := q1.imp id fun h => List.mem_append_left _ h
      have q2 : Ti2 Ti (N ++ N2) r2 ((ls1 ++ ls2).map nV) := q2.elim (fun h => h.imp id fun h => List.mem_append_left _ h) (fun h => .inr (List.mem_append_right _ h))
      have hN : ∀ x ∈ N ++ N2, H x.1 = none := fun x hx => (List.mem_append.mp hx).elim (hN x) (hN2 x)
      walk_at "gw"
      refine x_ixTS (at1 _ _ O hN _ _ t11) (by rfl) ?_
      walk_at "gw"
      have fin : ∀ (b : Bool) (H4 : Hp) (N4 : List (Addr × HO)) (p : Addr), N4 = (N ++ N2) ++ [(p, .tup [.bl b, .ref r1, .ref r2])] → H p = none → Own H H4 M1 N4 → Q (.ref p) H4 := fun b H4 N4 p e hp O => by
        subst e
        refine k _ _ _ p (fs1 ++ fs2) (ls1 ++ ls2) hM1 e1 (fun x hx => ?_) O ⟨⟨b, r1, r2, .inr (by simp), (q1).imp id (fun h => List.mem_append_left _ h), (q2).imp id (fun h => List.mem_append_left _ h)⟩, ?_, ?_⟩ (by simp) (by simp)
        · rcases List.mem_append.mp hx with hx | hx
          · exact hN x hx
          · rw [List.mem_singleton.mp hx]; exact hp
        · intro x hx
          first
            | exact T1.lf x hx
            | exact (List.mem_append.mp hx).elim (T1.lf x) (T2.lf x)
        · intro x hx
          first
            | exact T2.ll x hx
            | exact (List.mem_append.mp hx).elim (T1.ll x) (T2.ll x)
      refine NF.x_itb (fun hb1' => ?_) (fun hb1' => ?_)
      · walk_at "gw"
        refine x_ixTS (at1 _ _ O hN _ _ t21) (by rfl) ?_
        walk_at "gw"
        refine NF.x_newT O (by walk_at "len") fun p H5 hp O => ?_
        exact fin _ _ _ p rfl hp O
      · walk_at "gw"
        refine NF.x_newT O (by walk_at "len") fun p H5 hp O => ?_
        exact fin _ _ _ p rfl hp O
    · walk_at "gw"
      refine x_ixTS (at1 _ _ O hN _ _ t21) (by rfl) ?_
      obtain ⟨r2, er2⟩ : ∃ r2, r2 = l2 := ⟨_, rfl⟩
      have q2 : Ti2 Ti N r2 (ls2.map nV) := .inl (by rw [er2]; exact t23)
      rw [← er2]
      walk_at "gw"
      refine x_ixTS (at1 _ _ O hN _ _ t11) (by rfl) ?_
      walk_at "gw"
      have fin : ∀ (b : Bool) (H4 : Hp) (N4 : List (Addr × HO)) (p : Addr), N4 = N ++ [(p, .tup [.bl b, .ref r1, .ref r2])] → H p = none → Own H H4 M1 N4 → Q (.ref p) H4 := fun b H4 N4 p e hp O => by
        subst e
        refine k _ _ _ p (fs1 ++ fs2) ls2 hM1 e1 (fun x hx => ?_) O ⟨⟨b, r1, r2, .inr (by simp), (q1).imp id (fun h => List.mem_append_left _ h), (q2).imp id (fun h => List.mem_append_left _ h)⟩, ?_, ?_⟩ (by simp) (by simp)
        · rcases List.mem_append.mp hx with hx | hx
          · exact hN x hx
          · rw [List.mem_singleton.mp hx]; exact hp
        · intro x hx
          first
            | exact T1.lf x hx
            | exact (List.mem_append.mp hx).elim (T1.lf x) (T2.lf x)
        · intro x hx
          first
            | exact T2.ll x hx
            | exact (List.mem_append.mp hx).elim (T1.ll x) (T2.ll x)
      refine NF.x_itb (fun hb1' => ?_) (fun hb1' => ?_)
      · walk_at "gw"
        refine x_ixTS (at1 _ _ O hN _ _ t21) (by rfl) ?_
        walk_at "gw"
        refine NF.x_newT O (by walk_at "len") fun p H5 hp O => ?_
        exact fin _ _ _ p rfl hp O
      · walk_at "gw"
        refine NF.x_newT O (by walk_at "len") fun p H5 hp O => ?_
        exact fin _ _ _ p rfl hp O
  · walk_at "gw"
    refine x_ixTS (at1 _ _ O1 no _ _ t11) (by rfl) ?_
    obtain ⟨N, eN⟩ : ∃ N : List (Addr × HO), N = [] := ⟨_, rfl⟩
    obtain ⟨r1, er1⟩ : ∃ r1, r1 = f1 := ⟨_, rfl⟩
    have q1 : Ti2 Ti N r1 (fs1.map nV) := .inl (by rw [er1]; exact t12)
    have hN : ∀ x ∈ N, H x.1 = none := by rw [eN]; exact no
    have O := O1
    rw [← eN] at O
    rw [← er1]
    walk_at "gw"
    refine x_ixTS (at1 _ _ O hN _ _ t21) (by rfl) ?_
    walk_at "gw"
    refine NF.x_itb (fun hb2 => ?_) (fun hb2 => ?_)
    · walk_at "gw"
      refine x_ixTS (at1 _ _ O hN _ _ t11) (by rfl) ?_
      walk_at "gw"
      refine x_ixTS (at1 _ _ O hN _ _ t21) (by rfl) ?_
      walk_at "gw"
      refine x_catI (Ti := Ti2 Ti N) O (at1 _ _ O hN _ _ t13) (at1 _ _ O hN _ _ t23) (.inl t13) (.inl t23) (by omega) fun r2 H3 N2 hN2 q2 O => ?_
      have q1 : Ti2 Ti (N ++ N2) r1 (fs1.map nV) := q1.imp id fun h => List.mem_append_left _ h
      have q2 : Ti2 Ti (N ++ N2) r2 ((ls1 ++ ls2).map nV) := q2.elim (fun h => h.imp id fun h => List.mem_append_left _ h) (fun h => .inr (List.mem_append_right _ h))
      have hN : ∀ x ∈ N ++ N2, H x.1 = none := fun x hx => (List.mem_append.mp hx).elim (hN x) (hN2 x)
      walk_at "gw"
      refine x_ixTS (at1 _ _ O hN _ _ t11) (by rfl) ?_
      walk_at "gw"
      have fin : ∀ (b : Bool) (H4 : Hp) (N4 : List (Addr × HO)) (p : Addr), N4 = (N ++ N2) ++ [(p, .tup [.bl b, .ref r1, .ref r2])] → H p = none → Own H H4 M1 N4 → Q (.ref p) H4 := fun b H4 N4 p e hp O => by
        subst e
        refine k _ _ _ p fs1 (ls1 ++ ls2) hM1 e1 (fun x hx => ?_) O ⟨⟨b, r1, r2, .inr (by simp), (q1).imp id (fun h => List.mem_append_left _ h), (q2).imp id (fun h => List.mem_append_left _ h)⟩, ?_, ?_⟩ (by simp) (by simp)
        · rcases List.mem_append.mp hx with hx | hx
          · exact hN x hx
          · rw [List.mem_singleton.mp hx]; exact hp
        · intro x hx
          first
            | exact T1.lf x hx
            | exact (List.mem_append.mp hx).elim (T1.lf x) (T2.lf x)
        · intro x hx
          first
            | exact T2.ll x hx
            | exact (List.mem_append.mp hx).elim (T1.ll x) (T2.ll x)
      refine NF.x_itb (fun hb1' => ?_) (fun hb1' => ?_)
      · walk_at "gw"
        refine x_ixTS (at1 _ _ O hN _ _ t21) (by rfl) ?_
        walk_at "gw"
        refine NF.x_newT O (by walk_at "len") fun p H5 hp O => ?_
        exact fin _ _ _ p rfl hp O
      · walk_at "gw"
        refine NF.x_newT O (by walk_at "len") fun p H5 hp O => ?_
        exact fin _ _ _ p rfl hp O
    · walk_at "gw"
      refine x_ixTS (at1 _ _ O hN _ _ t21) (by rfl) ?_
      obtain ⟨r2, er2⟩ : ∃ r2, r2 = l2 := ⟨_, rfl⟩
      have q2 : Ti2 Ti N r2 (ls2.map nV) := .inl (by rw [er2]; exact t23)
      rw [← er2]
      walk_at "gw"
      refine x_ixTS (at1 _ _ O hN _ _ t11) (by rfl) ?_
      walk_at "gw"
      have fin : ∀ (b : Bool) (H4 : Hp) (N4 : List (Addr × HO)) (p : Addr), N4 = N ++ [(p, .tup [.bl b, .ref r1, .ref r2])] → H p = none → Own H H4 M1 N4 → Q (.ref p) H4 := fun b H4 N4 p e hp O => by
        subst e
        refine k _ _ _ p fs1 ls2 hM1 e1 (fun x hx => ?_) O ⟨⟨b, r1, r2, .inr (by simp), (q1).imp id (fun h => List.mem_append_left _ h), (q2).imp id (fun h => List.mem_append_left _ h)⟩, ?_, ?_⟩ (by simp) (by simp)
        · rcases List.mem_append.mp hx with hx | hx
          · exact hN x hx
          · rw [List.mem_singleton.mp hx]; exact hp
        · intro x hx
          first
            | exact T1.lf x hx
            | exact (List.mem_append.mp hx).elim (T1.lf x) (T2.lf x)
        · intro x hx
          first
            | exact T2.ll x hx
            | exact (List.mem_append.mp hx).elim (T1.ll x) (T2.ll x)
      refine NF.x_itb (fun hb1' => ?_) (fun hb1' => ?_)
      · walk_at "gw"
        refine x_ixTS (at1 _ _ O hN _ _ t21) (by rfl) ?_
        walk_at "gw"
        refine NF.x_newT O (by walk_at "len") fun p H5 hp O => ?_
        exact fin _ _ _ p rfl hp O
      · walk_at "gw"
        refine NF.x_newT O (by walk_at "len") fun p H5 hp O => ?_
        exact fin _ _ _ p rfl hp O


/-- one or the other -/
def spChoice (K : PySem.W.Frag) : Sp := fun vs H Q _ => ∃ (v1 : V) (a2 : Addr) (n : Nat) (fs1 ls1 fs2 ls2 : List Nat) (Ti : Addr → List V → Prop), vs = [v1, .ref a2] ∧ (∀ a xs, Ti a xs → TOk K H [] a xs) ∧
  ((v1 = .non) ∨ ∃ a1, v1 = .ref a1 ∧ Tri Ti n a1 fs1 ls1) ∧ Tri Ti n a2 fs2 ls2 ∧ fs1.length + fs2.length ≤ 12 ∧ ls1.length + ls2.length ≤ 12 ∧
  ∀ H' N p fs ls, (∀ x ∈ N, H x.1 = none) → Own H H' [] N → Tri (Ti2 Ti N) n p fs ls → fs.length ≤ fs1.length + fs2.length → ls.length ≤ ls1.length + ls2.length → Q (.ref p) H'
theorem hl_spChoice {K : PySem.W.Frag} : ∀ vs H Q E, spChoice K vs H Q E → vs.length = 2 := fun vs H Q E ⟨_, _, _, _, _, _, _, _, e, _⟩ => by rw [e]; rfl
abbrev NM_choice : List Str := ["one", "other"]
theorem sc_choice : FnScope NM_choice ["one", "other"] (defScope s_choice) := ⟨rfl, rfl, rfl, by decide +kernel, rfl, by decide +kernel, by decide +kernel⟩
theorem d_choice (F : Fn0 K mg "_choice" s_choice) (T : Txt P K mg)  :
    Def P w K mg base 1 "_choice" ["one", "other"] (spChoice K) := by
  refine Def.mk0 F sc_choice (by first | exact NF.hl_spB | exact NF.hl_spP | exact NF.hl_spNew | exact NF.hl_spPX | exact NF.hl_spN | exact NF.hl_spNX | exact hl_spChoice) (fun _ _ _ _ _ _ us hl => match us, hl with | [_, _], _ => rfl) (fun cdv A outer s H vs Q E hr h => ?_)
  refine ⟨_, (pss_cons (ps_if (pt_cmpR opIsN (pv 0) pe_non (nomark _))
      (pss_one (ps_ret (pv 1)))
      pss_nil)
      (pss_one (ps_ret (pe_tup (pa_cons (pe_or (pe_ix ix_tup (pv 0) pe_int (fun _ _ => rfl)) (pe_one (pe_ix ix_tup (pv 1) pe_int (fun _ _ => rfl)))) (pa_cons (pe_op op_catA (pe_ix ix_tup (pv 0) pe_int (fun _ _ => rfl)) (pe_ix ix_tup (pv 1) pe_int (fun _ _ => rfl))) (pa_cons (pe_op op_catA (pe_ix ix_tup (pv 0) pe_int (fun _ _ => rfl)) (pe_ix ix_tup (pv 1) pe_int (fun _ _ => rfl))) pa_nil))))))), ?_⟩
  try dsimp only [cxOf, Cx.nox, Cx.wish]
  obtain ⟨v1, a2, n, fs1, ls1, fs2, ls2, Ti, rfl, hT, T1, T2, hz1, hz2, k⟩ := h
  have O := NF.Own.refl0 H
  have no : ∀ x ∈ ([] : List (Addr × HO)), H x.1 = none := fun x hx => absurd hx List.not_mem_nil
  rcases T1 with rfl | ⟨a1, rfl, T1⟩
  · walk_at "gw"
    exact k _ [] a2 fs2 ls2 no O (T2.mono (fun _ _ h => .inl h) (Nat.le_refl _)) (by omega) (by omega)
  obtain ⟨b1, f1, l1, t11, t12, t13⟩ := T1.ex
  obtain ⟨b2, f2, l2, t21, t22, t23⟩ := T2.ex
  have at1 : ∀ (H' : Hp) (R : List (Addr × HO)), Own H H' [] R → (∀ x ∈ R, H x.1 = none) → ∀ a xs, Ti a xs → SqT K H' a xs := fun H' R O hR a xs h => (hT a xs h).at O rfl hR
  walk_at "gw"
  refine x_ixTS (at1 _ _ O no _ _ t11) (by rfl) ?_
  walk_at "gw"
  have rest : ∀ b : Bool, (tCons (tOp (rCatA K) (tOp (rIxT K) (tVar 0) (tC (.int 1))) (tOp (rIxT K) (tVar 1) (tC (.int 1)))) (tCons (tOp (rCatA K) (tOp (rIxT K) (tVar 0) (tC (.int 2))) (tOp (rIxT K) (tVar 1) (tC (.int 2)))) tNil)) (L2.start NM_choice [.ref a1, .ref a2]) H fun xs H2 => NF.newT (.bl b :: xs) H2 Q := fun b => by
    walk_at "gw"
    refine x_ixTS (at1 _ _ O no _ _ t11) (by rfl) ?_
    walk_at "gw"
    refine x_ixTS (at1 _ _ O no _ _ t21) (by rfl) ?_
    walk_at "gw"
    refine x_catI (Ti := Ti) O (at1 _ _ O no _ _ t12) (at1 _ _ O no _ _ t22) t12 t22 (by omega) fun r1 H2 N hN q1 O => ?_
    rw [List.nil_append] at O
    walk_at "gw"
    refine x_ixTS (at1 _ _ O hN _ _ t11) (by rfl) ?_
    walk_at "gw"
    refine x_ixTS (at1 _ _ O hN _ _ t21) (by rfl) ?_
    walk_at "gw"
    refine x_catI (Ti := Ti2 Ti N) O (at1 _ _ O hN _ _ t13) (at1 _ _ O hN _ _ t23) (.inl t13) (.inl t23) (by omega) fun r2 H3 N2 hN2 q2 O => ?_
    walk_at "gw"
    refine NF.x_newT O (by walk_at "len") fun p H5 hp O => ?_
    refine k _ _ p (fs1 ++ fs2) (ls1 ++ ls2) (fun x hx => ?_) O ⟨⟨b, r1, r2, .inr (by simp), ?_, ?_⟩, ?_, ?_⟩ (by simp) (by simp)
    · rcases List.mem_append.mp hx with hx | hx
      · exact (List.mem_append.mp hx).elim (hN x) (hN2 x)
      · rw [List.mem_singleton.mp hx]; exact hp
    · exact q1.imp id fun h => List.mem_append_left _ (List.mem_append_left _ h)
    · exact q2.elim (fun h => h.imp id fun h => List.mem_append_left _ (List.mem_append_left _ h)) (fun h => .inr (List.mem_append_left _ (List.mem_append_right _ h)))
    · exact fun x hx => (List.mem_append.mp hx).elim (T1.lf x) (T2.lf x)
    · exact fun x hx => (List.mem_append.mp hx).elim (T1.ll x) (T2.ll x)
  refine NF.x_itb (fun _ => rest true) (fun _ => ?_)
  refine NF.x_op ?_
  refine NF.x_var rfl ?_
  refine NF.x_c ?_
  exact x_ixTS (at1 _ _ O no _ _ t21) (by rfl) (rest b2)

/-- with a sign -/
def spRep (K : PySem.W.Frag) : Sp := fun vs H Q _ => ∃ (a pf : Addr) (t : List Nat) (M : List (Addr × HO)) (n : Nat) (fs ls : List Nat) (Ti : Addr → List V → Prop), vs = [.ref a, tkn t, .ref pf] ∧ FolD pf n M ∧ n ≤ 12 ∧ Own H H M [] ∧ (∀ a xs, Ti a xs → TOk K H M a xs) ∧ Tri Ti n a fs ls ∧
  ∀ H' M' N p, FolD pf n M' → M'.map Prod.fst = M.map Prod.fst → (∀ x ∈ N, H x.1 = none) → Own H H' M' N → Tri (Ti2 Ti N) n p fs ls → Q (.ref p) H'
theorem hl_spRep {K : PySem.W.Frag} : ∀ vs H Q E, spRep K vs H Q E → vs.length = 3 := fun vs H Q E ⟨_, _, _, _, _, _, _, _, e, _⟩ => by rw [e]; rfl
abbrev NM_repeated : List Str := ["item", "sign", "follows"]
theorem sc_repeated : FnScope NM_repeated ["item", "sign", "follows"] (defScope s_repeated) := ⟨rfl, rfl, rfl, by decide +kernel, rfl, by decide +kernel, by decide +kernel⟩
theorem d_repeated (F : Fn0 K mg "_repeated" s_repeated) (T : Txt P K mg) (D_linked : Def P w K mg base 1 "_linked" ["lasts", "firsts", "follows"] (spLinked K)) :
    Def P w K mg base 2 "_repeated" ["item", "sign", "follows"] (spRep K) := by
  refine Def.mk0 F sc_repeated (by first | exact NF.hl_spB | exact NF.hl_spP | exact NF.hl_spNew | exact NF.hl_spPX | exact NF.hl_spN | exact NF.hl_spNX | exact hl_spRep) (fun _ _ _ _ _ _ us hl => match us, hl with | [_, _, _], _ => rfl) (fun cdv A outer s H vs Q E hr h => ?_)
  refine ⟨_, (Evl.pss_cut (ps_if (pt_cmpR op_ne (pv 1) pe_str (nomark _))
      (pss_one (ps_expr (pe_d D_linked (hr.mono (by decide)) rfl (pa_cons (pe_ix ix_tup (pv 0) pe_int (fun _ _ => rfl)) (pa_cons (pe_ix ix_tup (pv 0) pe_int (fun _ _ => rfl)) (pa_cons (pv 2) pa_nil))))))
      pss_nil)
      (pss_one (ps_ret (pe_tup (pa_cons (pe_or (pe_ix ix_tup (pv 0) pe_int (fun _ _ => rfl)) (pe_one (pe_cmpR op_ne (pv 1) pe_str (nomark _)))) (pa_cons (pe_ix ix_tup (pv 0) pe_int (fun _ _ => rfl)) (pa_cons (pe_ix ix_tup (pv 0) pe_int (fun _ _ => rfl)) pa_nil))))))), ?_⟩
  try dsimp only [cxOf, Cx.nox, Cx.wish]
  obtain ⟨a, pf, t, M, n, fs, ls, Ti, rfl, hM, hn, O, hT, T1, k⟩ := h
  obtain ⟨b1, f1, l1, t11, t12, t13⟩ := T1.ex
  have no : ∀ x ∈ ([] : List (Addr × HO)), H x.1 = none := fun x hx => absurd hx List.not_mem_nil
  have at1 : ∀ (H' : Hp) (M' R : List (Addr × HO)), Own H H' M' R → M'.map Prod.fst = M.map Prod.fst → (∀ x ∈ R, H x.1 = none) → ∀ a xs, Ti a xs → SqT K H' a xs := fun H' M' R O e hR a xs h => (hT a xs h).at O e hR
  walk_at "gw"
  refine NF.x_cut (fun σ H' => ∃ M', σ = [some (.ref a), some (tkn t), some (.ref pf)] ∧ FolD pf n M' ∧ M'.map Prod.fst = M.map Prod.fst ∧ Own H H' M' []) ?_ ?_
  · walk_at "gw"
    refine NF.x_itnS (fun h0 => ?_) (fun h0 => ?_)
    · walk_at "gw"
      refine x_ixTS (at1 _ _ _ O rfl no _ _ t11) (by rfl) ?_
      walk_at "gw"
      refine x_ixTS (at1 _ _ _ O rfl no _ _ t11) (by rfl) ?_
      walk_at "gw"
      refine ⟨l1, f1, pf, M, n, ls, fs, rfl, hM, hn, O, hT _ _ t13, hT _ _ t12, T1.ll, T1.lf, fun H1 M1 hM1 e1 O1 => ?_⟩
      walk_at "gw"
      exact ⟨M1, rfl, hM1, e1, O1⟩
    · walk_at "gw"
      exact ⟨M, rfl, hM, rfl, O⟩
  · rintro _ H2 ⟨M2, rfl, hM2, e2, O⟩
    walk_at "gw"
    refine x_ixTS (at1 _ _ _ O e2 no _ _ t11) (by rfl) ?_
    walk_at "gw"
    have rest : ∀ b : Bool, (tCons (tOp (rIxT K) (tVar 0) (tC (.int 1))) (tCons (tOp (rIxT K) (tVar 0) (tC (.int 2))) tNil)) [some (.ref a), some (tkn t), some (.ref pf)] H2 fun xs H3 => NF.newT (.bl b :: xs) H3 Q := fun b => by
      walk_at "gw"
      refine x_ixTS (at1 _ _ _ O e2 no _ _ t11) (by rfl) ?_
      walk_at "gw"
      refine x_ixTS (at1 _ _ _ O e2 no _ _ t11) (by rfl) ?_
      walk_at "gw"
      refine NF.x_newT O (by walk_at "len") fun p H5 hp O => ?_
      exact k _ _ _ p hM2 e2 (fun x hx => by rw [List.mem_singleton.mp hx]; exact hp) O ⟨⟨b, f1, l1, .inr (by simp), .inl t12, .inl t13⟩, T1.lf, T1.ll⟩
    refine NF.x_itb (fun _ => rest true) (fun _ => ?_)
    refine NF.x_op ?_
    refine NF.x_var rfl ?_
    refine NF.x_c ?_
    refine NF.x_ne (by rfl) ?_
    exact rest _


theorem TOk.of {K : PySem.W.Frag} {B H : Hp} {M R : List (Addr × HO)} {a : Addr} {xs : List V} (O : Own B H M R) (h : (a, HO.tup xs) ∈ R) : TOk K H M a xs := by
  refine .inr ⟨O.mem h, fun q => ?_⟩
  have nd := O.nd
  rw [List.map_append] at nd
  exact (List.nodup_append.mp nd).2.2 _ q _ (List.mem_map_of_mem h) rfl
abbrev TiR (K : PySem.W.Frag) (R : List (Addr × HO)) : Addr → List V → Prop := fun a xs => KTu K a xs ∨ (a, HO.tup xs) ∈ R
theorem TiR.ok {K : PySem.W.Frag} {B H : Hp} {M R : List (Addr × HO)} (O : Own B H M R) : ∀ a xs, TiR K R a xs → TOk K H M a xs := fun a xs h => h.elim .inl (TOk.of O)
theorem TiR.ok0 {K : PySem.W.Frag} {B H : Hp} {M R : List (Addr × HO)} (O : Own B H M R) : ∀ a xs, TiR K R a xs → TOk K H [] a xs := fun a xs h => h.elim .inl fun h => .inr ⟨O.mem h, by simp⟩
theorem TiR.at {K : PySem.W.Frag} {B H : Hp} {M R : List (Addr × HO)} (O : Own B H M R) : ∀ a xs, TiR K R a xs → SqT K H a xs := fun a xs h => h.elim (fun h => h H) fun h => SqT.of (O.mem h)
theorem TiR.more {K : PySem.W.Frag} {R N : List (Addr × HO)} : ∀ a xs, Ti2 (TiR K R) N a xs → TiR K (R ++ N) a xs := fun a xs h => h.elim (fun h => h.imp id (List.mem_append_left _)) (fun h => .inr (List.mem_append_right _ h))
theorem TiR.app {K : PySem.W.Frag} {R N : List (Addr × HO)} : ∀ a xs, TiR K R a xs → TiR K (R ++ N) a xs := fun a xs h => h.imp id (List.mem_append_left _)
def Opt (Ti : Addr → List V → Prop) (n : Nat) (v : V) (fs ls : List Nat) : Prop := (v = .non ∧ fs = [] ∧ ls = []) ∨ ∃ a, v = .ref a ∧ Tri Ti n a fs ls
theorem Opt.mono {Ti Ti' : Addr → List V → Prop} {n n' : Nat} {v : V} {fs ls : List Nat} (t : Opt Ti n v fs ls) (h : ∀ a xs, Ti a xs → Ti' a xs) (hn : n ≤ n') : Opt Ti' n' v fs ls := t.imp id fun ⟨a, e, t⟩ => ⟨a, e, t.mono h hn⟩
inductive OutS (Ti : Addr → List V → Prop) (n : Nat) : List V → Nat → Nat → Prop
  | nil : OutS Ti n [] 0 0
  | snoc {os : List V} {cf cl : Nat} {t b : Addr} {v : V} {fe le fb lb : List Nat} (r : OutS Ti n os cf cl) (ht : Ti t [v, .ref b]) (h1 : Opt Ti n v fe le) (h2 : Tri Ti n b fb lb) : OutS Ti n (os ++ [.ref t]) (cf + fe.length + fb.length) (cl + le.length + lb.length)
theorem OutS.mono {Ti Ti' : Addr → List V → Prop} {n n' : Nat} {os : List V} {cf cl : Nat} (t : OutS Ti n os cf cl) (h : ∀ a xs, Ti a xs → Ti' a xs) (hn : n ≤ n') : OutS Ti' n' os cf cl := by
  induction t with
  | nil => exact .nil
  | snoc r ht h1 h2 ih => exact .snoc ih (h _ _ ht) (h1.mono h hn) (h2.mono h hn)
theorem OutS.last {Ti : Addr → List V → Prop} {n cf cl : Nat} {os : List V} (t : OutS Ti n os cf cl) (h : os.length ≠ 0) : ∃ (os' : List V) (cf' cl' : Nat) (p b : Addr) (v : V) (fe le fb lb : List Nat), os = os' ++ [.ref p] ∧ OutS Ti n os' cf' cl' ∧ Ti p [v, .ref b] ∧ Opt Ti n v fe le ∧ Tri Ti n b fb lb ∧ cf = cf' + fe.length + fb.length ∧ cl = cl' + le.length + lb.length := by
  cases t with
  | nil => exact absurd rfl h
  | snoc r ht h1 h2 => exact ⟨_, _, _, _, _, _, _, _, _, _, rfl, r, ht, h1, h2, rfl, rfl⟩
/-- no words at all: the module's own -/
theorem empty_tri {K : PySem.W.Frag} {Ti : Addr → List V → Prop} {c : Addr} {n : Nat} (h : ∃ a b : Addr, KTu K c [.bl true, .ref a, .ref b] ∧ KTu K a [] ∧ KTu K b []) (hT : ∀ a xs, KTu K a xs → Ti a xs) : Tri Ti n c [] [] := by
  obtain ⟨a, b, h1, h2, h3⟩ := h
  exact ⟨⟨true, a, b, hT _ _ h1, hT _ _ h2, hT _ _ h3⟩, fun x hx => absurd hx List.not_mem_nil, fun x hx => absurd hx List.not_mem_nil⟩
theorem x_iteT {t k : List Nat} {s : String} {A C : Prop} (hs : s.toList.map Char.toNat = k := by decide +kernel) (h1 : t = k → A) (h2 : t ≠ k → C) : if decide (tkn t = V.str (Str.ofString s)) = true then A else C := by
  have e : (tkn t = V.str (Str.ofString s)) = (t = k) := by
    rw [lit hs]
    refine propext ⟨fun h => ?_, fun h => by rw [h]⟩
    have h3 : tl (mkS t) = tl (mkS k) := by rw [V.str.inj h]
    exact h3
  simp only [e]
  exact x_ite h1 h2
theorem lvl_le : ∀ (l : List (List Nat)) {n m : Nat}, lvl l n = some m → m ≤ n + l.length
  | [], n, m, h => by cases h; exact Nat.le_refl _
  | t :: r, n, m, h => by
    have h : (if t = [40] then lvl r (n + 1) else if t = [41] then (if n = 0 then none else lvl r (n - 1)) else lvl r n) = some m := h
    rw [List.length_cons]
    split at h
    · have := lvl_le r h; omega
    · split at h
      · split at h
        · cases h
        · have := lvl_le r h; omega
      · have := lvl_le r h; omega
theorem lvl_upto {l : List (List Nat)} {i : Nat} {t : List Nat} {m : Nat} (ht : l[i]? = some t) (h : lvl l 0 = some m) : lvl (l.take (i + 1)) 0 ≠ none := fun e => by
  have e2 : l = l.take (i + 1) ++ l.drop (i + 1) := (List.take_append_drop _ _).symm
  rw [e2, lvl_append, e] at h
  cases h
theorem perm4 {α : Type} (a b c d : α) : [a, b, c, d].Perm ([d, a, c] ++ [b]) := (List.perm_append_comm (l₁ := [a, b, c]) (l₂ := [d])).trans (.cons d (.cons a (.swap c b [])))
section
variable {K : PySem.W.Frag} {B H : Hp} {M F T : List (Addr × HO)} {Q : VK} {E : XK} {pf a1 a2 : Addr} {n : Nat} {fs1 ls1 fs2 ls2 : List Nat}
theorem fresh_map {M M' : List (Addr × HO)} {B : Hp} (e : M'.map Prod.fst = M.map Prod.fst) (h : ∀ x ∈ M, B x.1 = none) : ∀ x ∈ M', B x.1 = none := fun x hx => by
  have m : x.1 ∈ M'.map Prod.fst := List.mem_map_of_mem hx
  rw [e] at m
  obtain ⟨y, hy, ey⟩ := List.mem_map.mp m
  rw [← ey]
  exact h y hy
theorem TiR.okF (O : Own B H M (F ++ T)) : ∀ a xs, TiR K T a xs → TOk K H M a xs := fun a xs h => h.elim .inl fun h => TOk.of O (List.mem_append_right _ h)
theorem TiR.okF0 (O : Own B H M (F ++ T)) : ∀ a xs, TiR K T a xs → TOk K H [] a xs := fun a xs h => h.elim .inl fun h => .inr ⟨O.mem (List.mem_append_right _ h), by simp⟩
theorem TiR.atF (O : Own B H M (F ++ T)) : ∀ a xs, TiR K T a xs → SqT K H a xs := fun a xs h => h.elim (fun h => h H) fun h => SqT.of (O.mem (List.mem_append_right _ h))
theorem seq_at (O : Own B H M (F ++ T)) (hM : FolD pf n M) (hMn : ∀ x ∈ M, B x.1 = none) (hn : n ≤ 12) (T1 : Tri (TiR K T) n a1 fs1 ls1) (T2 : Tri (TiR K T) n a2 fs2 ls2) (z1 : fs1.length + fs2.length ≤ 12) (z2 : ls1.length + ls2.length ≤ 12)
    (q : ∀ H3 M3 N p fs ls, FolD pf n M3 → (∀ x ∈ M3, B x.1 = none) → (∀ x ∈ N, B x.1 = none) → Own B H3 M3 (F ++ (T ++ N)) → Tri (TiR K (T ++ N)) n p fs ls → fs.length ≤ fs1.length + fs2.length → ls.length ≤ ls1.length + ls2.length → Q (.ref p) H3) : spSeq K [.ref a1, .ref a2, .ref pf] H Q E :=
  ⟨a1, a2, pf, M, n, fs1, ls1, fs2, ls2, TiR K T, rfl, hM, hn, O.sub, TiR.okF O, T1, T2, z1, z2, fun H3 M3 N p fs ls hM3 e3 hN O3 hp w1 w2 =>
    q H3 M3 N p fs ls hM3 (fresh_map e3 hMn) (fun x hx => O.base_free (hN x hx)) (by rw [← List.append_assoc]; exact O.call O3 e3 hN) (hp.mono TiR.more (Nat.le_refl _)) w1 w2⟩
theorem choice_at {v1 : V} (O : Own B H M (F ++ T)) (T1 : Opt (TiR K T) n v1 fs1 ls1) (T2 : Tri (TiR K T) n a2 fs2 ls2) (z1 : fs1.length + fs2.length ≤ 12) (z2 : ls1.length + ls2.length ≤ 12)
    (q : ∀ H3 N p fs ls, (∀ x ∈ N, B x.1 = none) → Own B H3 M (F ++ (T ++ N)) → Tri (TiR K (T ++ N)) n p fs ls → fs.length ≤ fs1.length + fs2.length → ls.length ≤ ls1.length + ls2.length → Q (.ref p) H3) : spChoice K [v1, .ref a2] H Q E :=
  ⟨v1, a2, n, fs1, ls1, fs2, ls2, TiR K T, rfl, TiR.okF0 O, T1.imp (fun h => h.1) id, T2, z1, z2, fun H3 N p fs ls hN O3 hp w1 w2 =>
    q H3 N p fs ls (fun x hx => O.base_free (hN x hx)) (by rw [← List.append_assoc]; exact O.callN O3 hN) (hp.mono TiR.more (Nat.le_refl _)) w1 w2⟩
theorem rep_at {t : List Nat} (O : Own B H M (F ++ T)) (hM : FolD pf n M) (hMn : ∀ x ∈ M, B x.1 = none) (hn : n ≤ 12) (T1 : Tri (TiR K T) n a1 fs1 ls1)
    (q : ∀ H3 M3 N p, FolD pf n M3 → (∀ x ∈ M3, B x.1 = none) → (∀ x ∈ N, B x.1 = none) → Own B H3 M3 (F ++ (T ++ N)) → Tri (TiR K (T ++ N)) n p fs1 ls1 → Q (.ref p) H3) : spRep K [.ref a1, tkn t, .ref pf] H Q E :=
  ⟨a1, pf, t, M, n, fs1, ls1, TiR K T, rfl, hM, hn, O.sub, TiR.okF O, T1, fun H3 M3 N p hM3 e3 hN O3 hp =>
    q H3 M3 N p hM3 (fresh_map e3 hMn) (fun x hx => O.base_free (hN x hx)) (by rw [← List.append_assoc]; exact O.call O3 e3 hN) (hp.mono TiR.more (Nat.le_refl _))⟩
theorem freshA {B : Hp} {T N : List (Addr × HO)} (h1 : ∀ x ∈ T, B x.1 = none) (h2 : ∀ x ∈ N, B x.1 = none) : ∀ x ∈ T ++ N, B x.1 = none := fun x hx => (List.mem_append.mp hx).elim (h1 x) (h2 x)
theorem fresh1 {B : Hp} {p : Addr} {o : HO} (h : B p = none) : ∀ x ∈ [(p, o)], B x.1 = none := fun x hx => by rw [List.mem_singleton.mp hx]; exact h
theorem own_end {B H : Hp} {M R : List (Addr × HO)} {x y : Addr × HO} (O : Own B H M (R ++ [x] ++ [y])) (hM : ∀ x ∈ M, B x.1 = none) (hR : ∀ x ∈ R, B x.1 = none) : Own B H [] [y, x] :=
  (O.toOpen (R' := (M ++ R) ++ [y, x]) (by
    rw [List.append_assoc R, ← List.append_assoc M]
    exact List.Perm.append_left _ (List.Perm.swap _ _ _))).dropTo (freshA hM hR)
end
abbrev spParsed (mg : Str → Option Value) : Sp := spNX mg 1 (fun vs => ∃ z, vs = [.str z] ∧ z.length ≤ 1000000)
  (fun vs v N => ∃ (z : Str) (p tw f l fo : Addr) (b : Bool), vs = [.str z] ∧ v = .ref p ∧ fl (tl z) 0 s0 = none ∧ N = [(p, .tup [.ref tw, .bl b, .ref f, .ref l, .ref fo]), (tw, .tup ((runsOf (tl z)).map tkn))])
  (fun vs x fs => ∃ (z : Str) (k : Nat), vs = [.str z] ∧ x = "BadRow" ∧ fl (tl z) 0 s0 = some k ∧ fs = fI "index" k)
abbrev NM_parsed : List Str := ["expression", "words", "follows", "outer", "either", "before", "item", "token", "nullable", "firsts", "lasts", "followers", "later"]
theorem sc_parsed : FnScope NM_parsed ["expression"] (defScope s_parsed) := ⟨rfl, rfl, rfl, by decide +kernel, rfl, by decide +kernel, by decide +kernel⟩
theorem d_parsed (F : Fn0 K mg "parsed" s_parsed) (T : Txt P K mg) (D_tokens_of : DefX P w K mg base 3 "tokens_of" ["expression"] [] (spTokens mg)) (D_choice : Def P w K mg base 1 "_choice" ["one", "other"] (spChoice K)) (D_sequence : Def P w K mg base 2 "_sequence" ["one", "other", "follows"] (spSeq K)) (D_repeated : Def P w K mg base 2 "_repeated" ["item", "sign", "follows"] (spRep K)) :
    DefX P w K mg base 4 "parsed" ["expression"] [] (spParsed mg) := by
  refine DefX.mk0 F sc_parsed (by first | exact NF.hl_spB | exact NF.hl_spP | exact NF.hl_spNew | exact NF.hl_spPX | exact NF.hl_spN | exact NF.hl_spNX | exact hl_spParsed) (fun _ _ _ _ _ _ us hl => match us, hl with | [_], _ => rfl) (fun cdv A outer s H vs Q E hr h tk po => ?_)
  refine ⟨_, (pss_cons (ps_set (i := 1) sc_parsed.nd rfl (Or.inl rfl) (pe_lst pa_nil))
      (pss_cons (ps_set (i := 2) sc_parsed.nd rfl (Or.inl rfl) (pe_lst pa_nil))
      (pss_cons (ps_set (i := 3) sc_parsed.nd rfl (Or.inl rfl) (pe_lst pa_nil))
      (pss_cons (ps_set (i := 4) sc_parsed.nd rfl (Or.inl rfl) pe_non)
      (pss_cons (ps_set (i := 5) sc_parsed.nd rfl (Or.inl rfl) (pe_clsn T.t_EMPTY rfl rfl))
      (pss_cons (ps_set (i := 6) sc_parsed.nd rfl (Or.inl rfl) (pe_clsn T.t_EMPTY rfl rfl))
      (pss_cons (ps_for po rfl (pi_list (pe_dx D_tokens_of (hr.mono (by decide)) tk (by rfl) (pa_cons (pv 0) pa_nil))) (pg_name (i := 7) sc_parsed.nd rfl (Or.inl rfl))
      (pss_one (ps_if (pt_cmpR op_eq (pv 7) pe_str (nomark _))
      (pss_cons (ps_expr (pe_bm PySem.F.plainAttrs_list PySem.F.slot_list_append PySem.F.type_list_append mt_append (pv 3) (pa_cons (pe_tup (pa_cons (pv 4) (pa_cons (pe_d D_sequence (hr.mono (by decide)) rfl (pa_cons (pv 5) (pa_cons (pv 6) (pa_cons (pv 2) pa_nil)))) pa_nil))) pa_nil)))
      (pss_cons (ps_set (i := 4) sc_parsed.nd rfl (Or.inl rfl) pe_non)
      (pss_cons (ps_set (i := 5) sc_parsed.nd rfl (Or.inl rfl) (pe_clsn T.t_EMPTY rfl rfl))
      (pss_one (ps_set (i := 6) sc_parsed.nd rfl (Or.inl rfl) (pe_clsn T.t_EMPTY rfl rfl))))))
      (pss_one (ps_if (pt_cmpR op_eq (pv 7) pe_str (nomark _))
      (pss_cons (ps_set (i := 6) sc_parsed.nd rfl (Or.inl rfl) (pe_d D_choice (hr.mono (by decide)) rfl (pa_cons (pv 4) (pa_cons (pe_d D_sequence (hr.mono (by decide)) rfl (pa_cons (pv 5) (pa_cons (pv 6) (pa_cons (pv 2) pa_nil)))) pa_nil))))
      (pss_one (ps_asg (pe_bm0 PySem.F.plainAttrs_list PySem.F.slot_list_pop PySem.F.type_list_pop mt_pop (pv 3)) (pg_tup (by rfl) (pgs_cons (pg_name (i := 4) sc_parsed.nd rfl (Or.inl rfl)) (pgs_cons (pg_name (i := 5) sc_parsed.nd rfl (Or.inl rfl)) pgs_nil))))))
      (pss_one (ps_if (pt_cmpR op_eq (pv 7) pe_str (nomark _))
      (pss_cons (ps_set (i := 4) sc_parsed.nd rfl (Or.inl rfl) (pe_d D_choice (hr.mono (by decide)) rfl (pa_cons (pv 4) (pa_cons (pe_d D_sequence (hr.mono (by decide)) rfl (pa_cons (pv 5) (pa_cons (pv 6) (pa_cons (pv 2) pa_nil)))) pa_nil))))
      (pss_cons (ps_set (i := 5) sc_parsed.nd rfl (Or.inl rfl) (pe_clsn T.t_EMPTY rfl rfl))
      (pss_one (ps_set (i := 6) sc_parsed.nd rfl (Or.inl rfl) (pe_clsn T.t_EMPTY rfl rfl)))))
      (pss_one (ps_if (pt_cmpR opInStr (pv 7) (pe_g rfl T.g_REPEATS) (by rfl))
      (pss_one (ps_set (i := 6) sc_parsed.nd rfl (Or.inl rfl) (pe_d D_repeated (hr.mono (by decide)) rfl (pa_cons (pv 6) (pa_cons (pv 7) (pa_cons (pv 2) pa_nil))))))
      (pss_cons (ps_set (i := 5) sc_parsed.nd rfl (Or.inl rfl) (pe_d D_sequence (hr.mono (by decide)) rfl (pa_cons (pv 5) (pa_cons (pv 6) (pa_cons (pv 2) pa_nil)))))
      (pss_cons (ps_set (i := 6) sc_parsed.nd rfl (Or.inl rfl) (pe_tup (pa_cons pe_bl (pa_cons (pe_tup (pa_cons (pe_callB (id := "len") callLen (by rfl) T.b_len (by decide +kernel) (pa_cons (pv 1) pa_nil)) pa_nil)) (pa_cons (pe_tup (pa_cons (pe_callB (id := "len") callLen (by rfl) T.b_len (by decide +kernel) (pa_cons (pv 1) pa_nil)) pa_nil)) pa_nil)))))
      (pss_cons (ps_expr (pe_bm PySem.F.plainAttrs_list PySem.F.slot_list_append PySem.F.type_list_append mt_append (pv 1) (pa_cons (pv 7) pa_nil)))
      (pss_one (ps_expr (pe_bm PySem.F.plainAttrs_list PySem.F.slot_list_append PySem.F.type_list_append mt_append (pv 2) (pa_cons pe_dnewK pa_nil))))))))))))))))
      (pss_cons (ps_asg (pe_d D_choice (hr.mono (by decide)) rfl (pa_cons (pv 4) (pa_cons (pe_d D_sequence (hr.mono (by decide)) rfl (pa_cons (pv 5) (pa_cons (pv 6) (pa_cons (pv 2) pa_nil)))) pa_nil))) (pg_tup (by rfl) (pgs_cons (pg_name (i := 8) sc_parsed.nd rfl (Or.inl rfl)) (pgs_cons (pg_name (i := 9) sc_parsed.nd rfl (Or.inl rfl)) (pgs_cons (pg_name (i := 10) sc_parsed.nd rfl (Or.inl rfl)) pgs_nil)))))
      (pss_cons (ps_set (i := 11) sc_parsed.nd rfl (Or.inl rfl) (pe_callTy (T := "tuple") callTupleOf (by rfl) T.b_tuple (by decide +kernel) (pa_cons (pe_lc (own := [("later", 12)]) (g := gName 12) rfl sc_parsed.nd (pi_list (pv 2)) (blkOk_by (own := [("later", 12)]) (N := NM_parsed) (sc := defScope s_parsed) (by decide +kernel)) (fun _ _ _ _ _ => pg_name (i := 12) sc_parsed.nd rfl (Or.inl rfl)) (fun _ _ _ _ _ => pts_nil) (fun _ _ _ _ _ => (pe_callTy (T := "tuple") (r := rTupOf K) callTupleOf (by rfl) T.b_tuple (by decide +kernel) (pa_cons (pe_callB (id := "sorted") (callSortedDI rfl) (by rfl) T.b_sorted (by decide +kernel) (pa_cons (pv 12) pa_nil)) pa_nil)))) pa_nil)))
      (pss_one (ps_ret (pe_tup (pa_cons (pe_callTy (T := "tuple") callTupleOf (by rfl) T.b_tuple (by decide +kernel) (pa_cons (pv 1) pa_nil)) (pa_cons (pv 8) (pa_cons (pv 9) (pa_cons (pv 10) (pa_cons (pv 11) pa_nil))))))))))))))))), ?_⟩
  try dsimp only [cxOf, Cx.nox, Cx.wish]
  obtain ⟨hl, ⟨z, rfl, hz⟩, k, kx⟩ := h
  have O := NF.Own.refl0 H
  walk_at "gw"
  refine NF.x_newL O (by decide +kernel) fun pw H1 hpw O => ?_
  walk_at "nO"
  walk_at "gw"
  refine NF.x_newL O (by decide +kernel) fun pf H1 hpf O => ?_
  walk_at "nO"
  walk_at "gw"
  refine NF.x_newL O (by decide +kernel) fun po H1 hpo O => ?_
  walk_at "nO"
  walk_at "gw"
  refine NF.use_spNX O rfl ⟨z, rfl, hz⟩ (fun v H1 N hN O ⟨z2, pt, tks, ez, ev, hfl, eN, hok, hwd, hlv, h12, hlen⟩ => ?_) (fun x fs d H1 O ⟨z2, kk, ez, ex, hfl, ef⟩ hd hfd => ?_)
  rotate_left
  · cases ez
    subst ex ef
    exact kx _ _ d _ (O.drop fun x hx => by
      simp only [List.mem_cons, List.not_mem_nil, or_false] at hx
      rcases hx with rfl | rfl | rfl <;> assumption) ⟨z, kk, rfl, rfl, hfl, rfl⟩ hd hfd
  cases ez
  subst ev eN
  have hpt := hN _ (List.mem_cons_self ..)
  have O := (O.perm (R' := [(pt, HO.lst (tks.map tkn)), (pw, HO.lst []), (po, HO.lst [])] ++ [(pf, HO.lst [])]) (perm4 _ _ _ _)).close
  refine NF.f_list (SqL.of (O.get 0 rfl)) (fun i σ H' => ∃ (u7 : Option V) (eV : V) (ab ai : Addr) (os : List V) (M T : List (Addr × HO)) (cf cl : Nat) (fe le fb lb fi li : List Nat),
    σ = [some (.str z), some (.ref pw), some (.ref pf), some (.ref po), some eV, some (.ref ab), some (.ref ai), u7, none, none, none, none, none] ∧
    FolD pf (wordsOf (tks.take i)).length M ∧ (∀ x ∈ M, H x.1 = none) ∧ Own H H' M ([(pt, .lst (tks.map tkn)), (pw, .lst ((wordsOf (tks.take i)).map tkn)), (po, .lst os)] ++ T) ∧ (∀ x ∈ T, H x.1 = none) ∧
    OutS (TiR K T) (wordsOf (tks.take i)).length os cf cl ∧ Opt (TiR K T) (wordsOf (tks.take i)).length eV fe le ∧ Tri (TiR K T) (wordsOf (tks.take i)).length ab fb lb ∧ Tri (TiR K T) (wordsOf (tks.take i)).length ai fi li ∧
    cf + fe.length + fb.length + fi.length ≤ (wordsOf (tks.take i)).length ∧ cl + le.length + lb.length + li.length ≤ (wordsOf (tks.take i)).length ∧ lvl (tks.take i) 0 = some os.length)
    ⟨_, _, _, _, [], _, [], 0, 0, [], [], [], [], [], [], rfl, ⟨[], [], rfl, rfl, rfl, fun k hk => absurd hk List.not_mem_nil⟩, fun x hx => by rw [List.mem_singleton.mp hx]; exact hpf, by rw [List.take_zero]; exact O, fun x hx => absurd hx List.not_mem_nil, .nil, .inl ⟨rfl, rfl, rfl⟩,
      empty_tri T.k_EMPTY (fun _ _ h => .inl h), empty_tri T.k_EMPTY (fun _ _ h => .inl h), Nat.zero_le _, Nat.zero_le _, rfl⟩ ?_ ?_ ?_
  · rintro i σ H' ⟨u7, eV, ab, ai, os, M, Tu, cf, cl, fe, le, fb, lb, fi, li, rfl, _, _, O, _⟩
    exact SqL.of (O.get 0 rfl)
  · rintro i x _ H2 hx ⟨u7, eV, ab, ai, os, M, Tu, cf, cl, fe, le, fb, lb, fi, li, rfl, hM, hMn, O, hTn, hO, hE, hB, hI, zf, zl, hlv2⟩
    obtain ⟨t, ht, rfl⟩ : ∃ t, tks[i]? = some t ∧ tkn t = x := by
      rw [List.getElem?_map] at hx
      cases h : tks[i]? with
      | none => rw [h] at hx; cases hx
      | some t => rw [h] at hx; exact ⟨t, rfl, Option.some.inj hx⟩
    have htk := hok t (List.mem_of_getElem? ht)
    have ew : wordsOf (tks.take (i + 1)) = wordsOf (tks.take i) ++ wordsOf [t] := by rw [take_snoc ht, wordsOf_append]
    have el : lvl (tks.take (i + 1)) 0 = lvl [t] os.length := by rw [take_snoc ht, lvl_append, hlv2]; rfl
    have hn12 : (wordsOf (tks.take i)).length ≤ 12 := by
      have h := wordsOf_append (tks.take i) (tks.drop i)
      rw [List.take_append_drop] at h
      rw [h, List.length_append] at h12
      omega
    generalize hW : wordsOf (tks.take i) = W at *
    have hil : i < tks.length := (List.getElem?_eq_some_iff.mp ht).1
    have hos : os.length ≤ i := by
      have h := lvl_le _ hlv2
      rw [Nat.zero_add] at h
      rw [List.length_take] at h
      omega
    have O0 := O
    walk_at "gw"
    refine x_iteT (k := [40]) (h1 := fun h1 => ?_) (h2 := fun h1 => ?_)
    · walk_at "gw"
      refine seq_at (E := E0) O hM hMn hn12 hB hI (by omega) (by omega) fun H3 M3 N p fs ls hM3 hMn3 hN O hp z1 z2 => ?_
      walk_at "gw"
      refine NF.x_newT O (by walk_at "len") fun pn H4 hpn O => ?_
      rw [List.append_assoc] at O
      walk_at "gw"
      rw [List.append_assoc] at O
      have e5 : wordsOf [t] = [] := by rw [h1]; decide
      rw [e5, List.append_nil] at ew
      rw [ew, el]
      have up : ∀ a xs, TiR K Tu a xs → TiR K (Tu ++ N ++ [(pn, HO.tup [eV, .ref p])]) a xs := fun a xs h => TiR.app _ _ (TiR.app _ _ h)
      refine ⟨_, .non, _, _, os ++ [.ref pn], M3, Tu ++ N ++ [(pn, HO.tup [eV, .ref p])], _, _, [], [], [], [], [], [], rfl, hM3, hMn3, ?_, freshA (freshA hTn hN) (fresh1 hpn), .snoc (hO.mono up (Nat.le_refl _)) (.inr (by simp)) (hE.mono up (Nat.le_refl _)) (hp.mono TiR.app (Nat.le_refl _)), .inl ⟨rfl, rfl, rfl⟩, empty_tri T.k_EMPTY (fun _ _ h => .inl h), empty_tri T.k_EMPTY (fun _ _ h => .inl h), ?_, ?_, ?_⟩
      · rw [List.append_assoc Tu N]
        exact O
      · simp only [List.length_nil]; omega
      · simp only [List.length_nil]; omega
      · rw [h1, List.length_append]
        rfl
    walk_at "gw"
    refine x_iteT (k := [41]) (h1 := fun h2 => ?_) (h2 := fun h2 => ?_)
    · have e5 : wordsOf [t] = [] := by rw [h2]; decide
      rw [e5, List.append_nil] at ew
      rw [ew, el]
      walk_at "gw"
      refine seq_at (E := E0) O hM hMn hn12 hB hI (by omega) (by omega) fun H3 M3 N p fs ls hM3 hMn3 hN O hp z1 z2 => ?_
      walk_at "gw"
      refine choice_at (E := E0) O (hE.mono TiR.app (Nat.le_refl _)) hp (by omega) (by omega) fun H4 N2 p2 fs2 ls2 hN2 O hp2 z3 z4 => ?_
      have hos0 : os.length ≠ 0 := fun h0 => by
        have h := lvl_upto (t := t) ht hlv
        rw [el, h2, h0] at h
        exact h rfl
      obtain ⟨os', cf', cl', pp, pb, v, fe2, le2, fb2, lb2, rfl, hO', hpp, hv, hb, ef, el2⟩ := hO.last hos0
      walk_at "gw"
      refine NF.x_pop O 2 rfl (v := .ref pp) (by simp) fun H5 O => ?_
      walk_at "nO"
      rw [List.dropLast_concat] at O
      refine ⟨pp, [v, .ref pb], rfl, TiR.atF (F := [_, _, _]) O _ _ (TiR.app _ _ (TiR.app _ _ hpp)), rfl, ?_⟩
      have up : ∀ a xs, TiR K Tu a xs → TiR K (Tu ++ N ++ N2) a xs := fun a xs h => TiR.app _ _ (TiR.app _ _ h)
      refine ⟨v, _, rfl, ?_⟩
      walk_at "gw"
      refine ⟨_, _, rfl, ?_⟩
      walk_at "gw"
      refine ⟨rfl, ?_⟩
      refine ⟨_, v, pb, p2, os', M3, Tu ++ N ++ N2, cf', cl', fe2, le2, fb2, lb2, fs2, ls2, rfl, hM3, hMn3, O, freshA (freshA hTn hN) hN2, hO'.mono up (Nat.le_refl _), hv.mono up (Nat.le_refl _), hb.mono up (Nat.le_refl _), hp2, by omega, by omega, ?_⟩
      rw [h2, List.length_append]
      show (if [41] = [40] then _ else if [41] = [41] then (if os'.length + 1 = 0 then none else some (os'.length + 1 - 1)) else _) = _
      rw [if_neg (by decide), if_pos rfl, if_neg (Nat.succ_ne_zero _)]
      rfl
    walk_at "gw"
    refine x_iteT (k := [124]) (h1 := fun h3 => ?_) (h2 := fun h3 => ?_)
    · have e5 : wordsOf [t] = [] := by rw [h3]; decide
      rw [e5, List.append_nil] at ew
      rw [ew, el]
      walk_at "gw"
      refine seq_at (E := E0) O hM hMn hn12 hB hI (by omega) (by omega) fun H3 M3 N p fs ls hM3 hMn3 hN O hp z1 z2 => ?_
      walk_at "gw"
      refine choice_at (E := E0) O (hE.mono TiR.app (Nat.le_refl _)) hp (by omega) (by omega) fun H4 N2 p2 fs2 ls2 hN2 O hp2 z3 z4 => ?_
      walk_at "gw"
      have up : ∀ a xs, TiR K Tu a xs → TiR K (Tu ++ N ++ N2) a xs := fun a xs h => TiR.app _ _ (TiR.app _ _ h)
      refine ⟨_, .ref p2, _, _, os, M3, Tu ++ N ++ N2, cf, cl, fs2, ls2, [], [], [], [], rfl, hM3, hMn3, O, freshA (freshA hTn hN) hN2, hO.mono up (Nat.le_refl _), .inr ⟨p2, rfl, hp2⟩, empty_tri T.k_EMPTY (fun _ _ h => .inl h), empty_tri T.k_EMPTY (fun _ _ h => .inl h), ?_, ?_, ?_⟩
      · simp only [List.length_nil]; omega
      · simp only [List.length_nil]; omega
      · rw [h3]
        rfl
    walk_at "gw"
    by_cases hsg : t = [42] ∨ t = [43] ∨ t = [63]
    · have e5 : wordsOf [t] = [] := by rcases hsg with h | h | h <;> (rw [h]; decide)
      rw [e5, List.append_nil] at ew
      have e6 : lvl [t] os.length = some os.length := by rcases hsg with h | h | h <;> (rw [h]; rfl)
      rw [ew, el, e6]
      obtain ⟨c, rfl, hc⟩ : ∃ c, t = [c] ∧ c ∈ tl (Str.ofString "*+?") := by
        rw [tl_rep]
        rcases hsg with h | h | h
        · exact ⟨42, h, by decide⟩
        · exact ⟨43, h, by decide⟩
        · exact ⟨63, h, by decide⟩
      refine x_inStr1 ?_
      walk_at "gw"
      refine NF.x_ite (fun _ => ?_) (fun h => absurd hc h)
      walk_at "gw"
      refine rep_at (t := [c]) (E := E0) O hM hMn hn12 hI fun H3 M3 N p hM3 hMn3 hN O hp => ?_
      walk_at "gw"
      exact ⟨_, eV, ab, p, os, M3, Tu ++ N, cf, cl, fe, le, fb, lb, fi, li, rfl, hM3, hMn3, O, freshA hTn hN, hO.mono TiR.app (Nat.le_refl _), hE.mono TiR.app (Nat.le_refl _), hB.mono TiR.app (Nat.le_refl _), hp, zf, zl, rfl⟩
    obtain ⟨hw0, hw8, hwa⟩ : t ≠ [] ∧ t.length ≤ 8 ∧ ∀ c ∈ t, az c := by
      rcases htk with h | h | h | h | h | h | h
      · exact absurd h h1
      · exact absurd h h2
      · exact absurd h h3
      · exact absurd (Or.inl h) hsg
      · exact absurd (Or.inr (Or.inl h)) hsg
      · exact absurd (Or.inr (Or.inr h)) hsg
      · exact h
    have e5 : wordsOf [t] = [t] := by show [t].filter isW = _; simp [isW_word hwa hw0]
    have e6 : lvl [t] os.length = some os.length := lvl_word hwa hw0 _
    have hn12b : (W ++ [t]).length ≤ 12 := by
      have h := wordsOf_append (tks.take (i + 1)) (tks.drop (i + 1))
      rw [List.take_append_drop, ew, e5] at h
      rw [h, List.length_append] at h12
      omega
    rw [e5] at ew
    rw [ew, el, e6]
    have hrep : ∀ Q : VK, Q (.bl false) H2 → rInStr (tkn t) (.str (Str.ofString "*+?")) H2 Q := fun Q q => by
      cases t with
      | nil => exact absurd rfl hw0
      | cons c l =>
        refine x_inStrNo (fun h => ?_) q
        rw [tl_rep] at h
        have h := hwa c (List.mem_cons_self ..)
        simp only [List.mem_cons, List.not_mem_nil, or_false] at *
        omega
    refine hrep _ ?_
    walk_at "gw"
    refine seq_at (E := E0) O hM hMn hn12 hB hI (by omega) (by omega) fun H3 M3 N p fs ls hM3 hMn3 hN O hp z1 z2 => ?_
    walk_at "gw"
    refine NF.x_newT O (by walk_at "len") fun q1 H4 hq1 O => ?_
    rw [List.append_assoc] at O
    walk_at "gw"
    refine NF.x_newT O (by walk_at "len") fun q2 H5 hq2 O => ?_
    rw [List.append_assoc] at O
    walk_at "gw"
    refine NF.x_newT O (by walk_at "len") fun q3 H6 hq3 O => ?_
    rw [List.append_assoc] at O
    walk_at "gw"
    obtain ⟨ds, ks, rfl, hds, hks, hdok⟩ := hM3
    refine NF.x_tyL (O.at_ (pf, _) (List.mem_append_left _ (List.mem_cons_self ..))) ?_
    refine NF.x_cons ?_
    refine x_dnew ?_
    refine x_newD O fun pd H7 hpd O => ?_
    walk_at "gw"
    have O := O.toOpen (List.Perm.refl _)
    refine NF.x_append O 0 rfl (by rw [List.length_map, sizeLine_eq]; omega) fun H8 O => ?_
    have zs : ∀ {α β : Type} (a : List α) (b : List β) (x : α) (y : β), a.length = b.length → (a ++ [x]).zip (b ++ [y]) = a.zip b ++ [(x, y)] := fun a b x y h => by rw [List.zip_append h]; rfl
    have ez : (ds ++ [pd]).zip ((ks ++ [[]]).map HO.dK) = ds.zip (ks.map HO.dK) ++ [(pd, HO.dK [])] := by rw [List.map_append]; exact zs _ _ _ _ (by rw [List.length_map]; omega)
    have O := (O.perm (R' := ([(pt, HO.lst (tks.map tkn)), (pw, HO.lst ((W ++ [t]).map tkn)), (po, HO.lst os)] ++ (Tu ++ N ++ [(q1, HO.tup [V.int (W.map tkn).length]), (q2, HO.tup [V.int (W.map tkn).length]), (q3, HO.tup [.bl false, .ref q1, .ref q2])])) ++ ((pf, HO.lst ((ds ++ [pd]).map V.ref)) :: (ds ++ [pd]).zip ((ks ++ [[]]).map HO.dK))) (by
      rw [ez]
      refine List.Perm.trans (List.Perm.of_eq ?_) (List.perm_append_comm_assoc ((pf, HO.lst ((ds ++ [pd]).map V.ref)) :: ds.zip (ks.map HO.dK)) _ [(pd, HO.dK [])])
      simp only [List.append_assoc, List.cons_append, List.nil_append, List.map_append, List.set_cons_zero, List.map_cons, List.map_nil])).close
    have up : ∀ a xs, TiR K Tu a xs → TiR K (Tu ++ N ++ [(q1, HO.tup [V.int (W.map tkn).length]), (q2, HO.tup [V.int (W.map tkn).length]), (q3, HO.tup [.bl false, .ref q1, .ref q2])]) a xs := fun a xs h => TiR.app _ _ (TiR.app _ _ h)
    have hle : W.length ≤ (W ++ [t]).length := by simp
    refine ⟨_, eV, p, q3, os, _, Tu ++ N ++ [(q1, HO.tup [V.int (W.map tkn).length]), (q2, HO.tup [V.int (W.map tkn).length]), (q3, HO.tup [.bl false, .ref q1, .ref q2])], cf, cl, fe, le, fs, ls, [(W.map tkn).length], [(W.map tkn).length], rfl,
      ⟨ds ++ [pd], ks ++ [[]], rfl, by rw [List.length_append, List.length_append, hds]; rfl, by rw [List.length_append, List.length_append, hks]; rfl, fun k hk => ?_⟩, ?_, O, freshA (freshA hTn hN) ?_, hO.mono up hle, hE.mono up hle, hp.mono TiR.app hle, ⟨⟨false, q1, q2, .inr (by simp), .inr (by simp), .inr (by simp)⟩, ?_, ?_⟩, ?_, ?_, rfl⟩
    · rcases List.mem_append.mp hk with hk | hk
      · exact hdok k hk
      · rw [List.mem_singleton.mp hk]
        exact ⟨by simp, fun q hq => absurd hq List.not_mem_nil⟩
    · intro x hx
      rw [ez] at hx
      rcases List.mem_cons.mp hx with rfl | hx
      · exact hpf
      · rcases List.mem_append.mp hx with hx | hx
        · exact hMn3 x (List.mem_cons_of_mem _ hx)
        · rw [List.mem_singleton.mp hx]; exact hpd
    · intro x hx
      simp only [List.mem_cons, List.not_mem_nil, or_false] at hx
      rcases hx with rfl | rfl | rfl <;> assumption
    · intro x hx
      rw [List.mem_singleton.mp hx]
      simp
    · intro x hx
      rw [List.mem_singleton.mp hx]
      simp
    · simp only [List.length_cons, List.length_nil, List.length_append]; omega
    · simp only [List.length_cons, List.length_nil, List.length_append]; omega
  · rintro _ H2 ⟨u7, eV, ab, ai, os, M, Tu, cf, cl, fe, le, fb, lb, fi, li, rfl, hM, hMn, O, hTn, hO, hE, hB, hI, zf, zl, hlv2⟩
    rw [List.length_map, List.take_length] at *
    walk_at "gw"
    refine seq_at (E := E0) O hM hMn h12 hB hI (by omega) (by omega) fun H3 M3 N p fs ls hM3 hMn3 hN O hp z1 z2 => ?_
    walk_at "gw"
    refine choice_at (E := E0) O (hE.mono TiR.app (Nat.le_refl _)) hp (by omega) (by omega) fun H4 N2 p2 fs2 ls2 hN2 O hp2 z3 z4 => ?_
    obtain ⟨b2, f2, l2, hp2a, _, _⟩ := hp2.ex
    refine ⟨p2, _, rfl, TiR.atF (F := [_, _, _]) O _ _ hp2a, rfl, ?_⟩
    refine ⟨_, _, rfl, ?_⟩
    walk_at "gw"
    refine ⟨_, _, rfl, ?_⟩
    walk_at "gw"
    refine ⟨_, _, rfl, ?_⟩
    walk_at "gw"
    refine ⟨rfl, ?_⟩
    walk_at "gw"
    obtain ⟨ds, ks, rfl, hds, hks, hdok⟩ := hM3
    have hpfm : ∀ (H' : Hp) (R : List (Addr × HO)), Own H H' ((pf, HO.lst (ds.map V.ref)) :: ds.zip (ks.map HO.dK)) R → H' pf = some (.lst (ds.map V.ref)) := fun H' R O => O.at_ (pf, _) (List.mem_append_left _ (List.mem_cons_self ..))
    refine lc_lst2 (SqL.of (hpfm _ _ O)) O (fun i acc M' => M' = (pf, HO.lst (ds.map V.ref)) :: ds.zip (ks.map HO.dK)) (fun i H' M' p' acc hp' hP O' => by subst hP; exact SqL.of (hpfm _ _ O')) rfl (fun i x H' M' p' acc hp' hx hl2 hP O' => ?_) fun p' H' M' acc hp' hl2 hP O' => ?_
    · subst hP
      obtain ⟨d, hd, rfl⟩ : ∃ d, ds[i]? = some d ∧ V.ref d = x := by
        rw [List.getElem?_map] at hx
        cases h : ds[i]? with
        | none => rw [h] at hx; cases hx
        | some t => rw [h] at hx; exact ⟨t, rfl, Option.some.inj hx⟩
      have hil := (List.getElem?_eq_some_iff.mp hd).1
      obtain ⟨kv, hkv⟩ : ∃ d, ks[i]? = some d := ⟨_, List.getElem?_eq_getElem (by omega)⟩
      have hz : (ds.zip (ks.map HO.dK))[i]? = some (d, .dK kv) := List.getElem?_zip_eq_some.mpr ⟨hd, by rw [List.getElem?_map, hkv]; rfl⟩
      obtain ⟨ki, eki, hki⟩ := (hdok kv (List.mem_of_getElem? hkv)).ints
      walk_at "gw"
      refine ⟨d, kv, ki, rfl, .inl (O'.at_ (d, .dK kv) (List.mem_append_left _ (List.mem_cons_of_mem _ (List.mem_of_getElem? hz)))), eki, by omega, fun ys q _ _ hq => ?_⟩
      walk_at "gw"
      refine ⟨q, ys.map V.int, rfl, .inl ⟨SqL.of upd_same, fun l hl3 => ?_⟩⟩
      exact lc_done ((O'.ignore hq).ignore hl3) hl2 (by rw [sizeLine_eq]; omega) rfl
    subst hP
    walk_at "gw"
    refine x_tupOf O' O'.last fun fo H5 hfo O => ?_
    walk_at "gw"
    refine x_tupOf O (O.mem (x := (pw, .lst ((wordsOf tks).map tkn))) (by simp)) fun tw H6 htw O => ?_
    walk_at "gw"
    refine NF.x_newT O (by walk_at "len") fun pr H7 hpr O => ?_
    have hF : ∀ x ∈ [(pt, HO.lst (tks.map tkn)), (pw, HO.lst ((wordsOf tks).map tkn)), (po, HO.lst os)], H x.1 = none := fun x hx => by
      simp only [List.mem_cons, List.not_mem_nil, or_false] at hx
      rcases hx with rfl | rfl | rfl <;> assumption
    refine k _ _ [(pr, _), (tw, _)] (fun x hx => ?_) (own_end O hMn3 (freshA (freshA (freshA hF (freshA (freshA hTn hN) hN2)) (fresh1 hp')) (fresh1 hfo))) ⟨z, pr, tw, f2, l2, fo, b2, rfl, rfl, hfl, by rw [hwd]⟩
    simp only [List.mem_cons, List.not_mem_nil, or_false] at hx
    rcases hx with rfl | rfl <;> assumption


theorem putF_lt {f : Str} {v : V} : ∀ {fs : List (Str × V)} {n : Nat}, fs.length < n → (putF f v fs).length < n + 1
  | [], n, h => by show 1 < n + 1; simp at h; omega
  | (g, x) :: r, n, h => by
    unfold putF
    split
    · rw [List.length_cons] at h ⊢; omega
    · rw [List.length_cons] at h ⊢
      have := putF_lt (f := f) (v := v) (fs := r) (n := n - 1) (by omega)
      omega
def spRow (mg : Str → Option Value) : Sp := fun vs H Q E => ∃ (a dx : Addr) (z : Str), vs = [.ref a, .str z] ∧ z.length ≤ 1000000 ∧ H a = some (.ins (cad mg "Row") dx []) ∧
  (∀ (H' : Hp) (tw : Addr) (fs : List (Str × V)), fl (tl z) 0 s0 = none → fs.lookup ("_words" : Str) = some (V.ref tw) → H tw = none → Own H H' [(a, .ins (cad mg "Row") dx fs)] [(tw, .tup ((runsOf (tl z)).map tkn))] → Q .non H') ∧
  (∀ (k : Nat) d H', fl (tl z) 0 s0 = some k → Own H H' [] [] → H d = none → H' d = some (.xd (fI "index" k)) → E (.ref (cad mg "BadRow")) (some d) H')
theorem hl_spRow {mg : Str → Option Value} : ∀ vs H Q E, spRow mg vs H Q E → vs.length = 2 := fun vs H Q E ⟨_, _, _, e, _⟩ => by rw [e]; rfl
abbrev NM_Row_init : List Str := ["self", "expression", "words", "nullable", "firsts", "lasts", "follows"]
theorem sc_Row_init : FnScope NM_Row_init ["self", "expression"] (defScope s_Row_init) := ⟨rfl, rfl, rfl, by decide +kernel, rfl, by decide +kernel, by decide +kernel⟩
theorem d_Row_init {f : Addr} {fd : FuncData} (C : OCls K (cad mg "Row") ["_words", "_nullable", "_firsts", "_lasts", "_follows"] "Row.__init__" s_Row_init) (T : Txt P K mg) (D_parsed : DefX P w K mg base 4 "parsed" ["expression"] [] (spParsed mg)) :
    MkX P w K mg base 5 "Row" ["self", "expression"] (spRow mg) := by
  obtain ⟨f, fd, M, F⟩ := C.ini
  refine MkX.make T.n_Row M F sc_Row_init (by first | exact NF.hl_spB | exact NF.hl_spP | exact NF.hl_spNew | exact NF.hl_spPX | exact NF.hl_spN | exact NF.hl_spNX | exact hl_spRow) (fun _ _ _ _ _ _ us hl => match us, hl with | [_, _], _ => rfl) (fun cdv A outer s H vs Q E hr h tk po => ?_)
  refine ⟨_, (pss_cons (ps_asg (pe_dx D_parsed (hr.mono (by decide)) tk (by rfl) (pa_cons (pv 1) pa_nil)) (pg_tup (by rfl) (pgs_cons (pg_name (i := 2) sc_Row_init.nd rfl (Or.inl rfl)) (pgs_cons (pg_name (i := 3) sc_Row_init.nd rfl (Or.inl rfl)) (pgs_cons (pg_name (i := 4) sc_Row_init.nd rfl (Or.inl rfl)) (pgs_cons (pg_name (i := 5) sc_Row_init.nd rfl (Or.inl rfl)) (pgs_cons (pg_name (i := 6) sc_Row_init.nd rfl (Or.inl rfl)) pgs_nil)))))))
      (pss_cons (ps_fld (pv 0) (pv 2) rfl)
      (pss_cons (ps_fld (pv 0) (pv 3) rfl)
      (pss_cons (ps_fld (pv 0) (pv 4) rfl)
      (pss_cons (ps_fld (pv 0) (pv 5) rfl)
      (pss_one (ps_fld (pv 0) (pv 6) rfl))))))), ?_⟩
  try dsimp only [cxOf, Cx.nox, Cx.wish]
  obtain ⟨a, dx, z, rfl, hz, ha, k, kx⟩ := h
  have O : Own H H [] [(a, .ins (cad mg "Row") dx [])] := Own.start (by simp) fun x hx => by rw [List.mem_singleton.mp hx]; exact ha
  walk_at "gw"
  refine NF.use_spNX (NF.Own.refl0 H) rfl ⟨z, rfl, hz⟩ (fun v H1 N hN O1 ⟨z2, p, tw, f, l, fo, b, ez, ev, hfl, eN⟩ => ?_) (fun x fs d H1 O1 ⟨z2, kk, ez, ex, hfl, ef⟩ hd hfd => ?_)
  rotate_left
  · cases ez
    subst ex ef
    exact kx kk d H1 hfl O1 hd hfd
  cases ez
  subst ev eN
  have hp := hN _ (List.mem_cons_self ..)
  have htw := hN (tw, _) (List.mem_cons_of_mem _ (List.mem_cons_self ..))
  have O := O.callN O1 hN
  walk_at "nO"
  refine ⟨p, _, rfl, SqT.of (O.get 1 rfl), rfl, ?_⟩
  refine ⟨_, _, rfl, ?_⟩
  walk_at "gw"
  refine ⟨_, _, rfl, ?_⟩
  walk_at "gw"
  refine ⟨_, _, rfl, ?_⟩
  walk_at "gw"
  refine ⟨_, _, rfl, ?_⟩
  walk_at "gw"
  refine ⟨_, _, rfl, ?_⟩
  walk_at "gw"
  refine ⟨rfl, ?_⟩
  walk_at "gw"
  (try dsimp only)
  refine x_fldS ?_
  walk_at "gw"
  refine x_setF O 0 rfl C.cl (C.nf _ (by simp)) (by decide) fun H2 O => ?_
  walk_at "nO"
  walk_at "gw"
  (try dsimp only)
  refine x_fldS ?_
  walk_at "gw"
  refine x_setF O 0 rfl C.cl (C.nf _ (by simp)) (Nat.lt_of_lt_of_le (putF_lt (n := 900) (by decide)) (by decide)) fun H2 O => ?_
  walk_at "nO"
  walk_at "gw"
  (try dsimp only)
  refine x_fldS ?_
  walk_at "gw"
  refine x_setF O 0 rfl C.cl (C.nf _ (by simp)) (Nat.lt_of_lt_of_le (putF_lt (n := 901) (putF_lt (n := 900) (by decide))) (by decide)) fun H2 O => ?_
  walk_at "nO"
  walk_at "gw"
  (try dsimp only)
  refine x_fldS ?_
  walk_at "gw"
  refine x_setF O 0 rfl C.cl (C.nf _ (by simp)) (Nat.lt_of_lt_of_le (putF_lt (n := 902) (putF_lt (n := 901) (putF_lt (n := 900) (by decide)))) (by decide)) fun H2 O => ?_
  walk_at "nO"
  walk_at "gw"
  (try dsimp only)
  refine x_fldS ?_
  walk_at "gw"
  refine x_setF O 0 rfl C.cl (C.nf _ (by simp)) (Nat.lt_of_lt_of_le (putF_lt (n := 903) (putF_lt (n := 902) (putF_lt (n := 901) (putF_lt (n := 900) (by decide))))) (by decide)) fun H2 O => ?_
  walk_at "nO"
  show Q V.non H2
  have O2 := O.perm (R' := [(p, _)] ++ ([(tw, _)] ++ [(a, _)])) (by exact (List.Perm.swap _ _ _).trans (List.Perm.cons _ (List.Perm.swap _ _ _)))
  have O3 := (O2.dropTo fun x hx => by rw [List.mem_singleton.mp hx]; exact hp).close
  refine k _ tw _ hfl ?_ htw O3
  simp only [lookup_putF]
  rw [if_neg (by decide), if_neg (by decide), if_neg (by decide), if_neg (by decide), if_pos trivial]


def spWhole : Sp := spP 1 (fun vs => ∃ i : Int, vs = [.int i]) (fun vs v => v = .bl true)
abbrev NM_law_is_whole : List Str := ["told"]
theorem sc_law_is_whole : FnScope NM_law_is_whole ["told"] (defScope s_law_is_whole) := ⟨rfl, rfl, rfl, by decide +kernel, rfl, by decide +kernel, by decide +kernel⟩
theorem dh_law_is_whole (F : Fn0 K mg "_law_is_whole" s_law_is_whole) (T : Txt P K mg)  :
    DefH P w K mg base 1 "_law_is_whole" ["told"] spWhole := by
  refine DefH.mk0 F sc_law_is_whole (by first | exact NF.hl_spB | exact NF.hl_spP | exact NF.hl_spNew | exact NF.hl_spPX | exact NF.hl_spN | exact NF.hl_spNX | exact hl_spWhole) (fun _ _ _ _ _ _ us hl => match us, hl with | [_], _ => rfl) (fun cdv A outer s H vs Q E p hr h => ?_)
  refine ⟨_, (pss_one (ps_ret (pe_and (pe_callB callIsT (by rfl) T.b_isinstance (by decide +kernel) (pa_cons (pv 0) (pa_cons (pe_ty (n := "int") (by rfl) T.b_int (by decide +kernel)) pa_nil))) (pe_one (pe_not (pe_callB callIsT (by rfl) T.b_isinstance (by decide +kernel) (pa_cons (pv 0) (pa_cons (pe_ty (n := "bool") (by rfl) T.b_bool (by decide +kernel)) pa_nil)))))))), ?_⟩
  try dsimp only [cxOf, L2H.cxH, Cx.nox, Cx.wish]
  obtain ⟨hl, ⟨i, rfl⟩, k⟩ := h
  have O := NF.Own.refl0 H
  walk_at "go"
  exact k _ _ O rfl

theorem runs_ok (l : List Nat) : (∀ t ∈ runsOf l, ∀ c ∈ t, az c) ∧ (runsOf l).length ≤ l.length + 1 := by
  have key : ∀ (l : List Nat) (p : List (List Nat) × List Nat), (∀ t ∈ p.1, ∀ c ∈ t, az c) → (∀ c ∈ p.2, az c) → (∀ t ∈ (l.foldl wst p).1, ∀ c ∈ t, az c) ∧ (∀ c ∈ (l.foldl wst p).2, az c) ∧ (l.foldl wst p).1.length ≤ p.1.length + l.length := by
    intro l
    induction l with
    | nil => exact fun p h1 h2 => ⟨h1, h2, Nat.le_refl _⟩
    | cons c l ih =>
      intro p h1 h2
      by_cases hc : az c
      · have e : wst p c = (p.1, p.2 ++ [c]) := by unfold wst; rw [if_pos hc]
        have := ih (wst p c) (by rw [e]; exact h1) (by
          rw [e]
          intro d hd
          rcases List.mem_append.mp hd with hd | hd
          · exact h2 d hd
          · rw [List.mem_singleton.mp hd]; exact hc)
        rw [e] at this
        rw [List.foldl_cons, e, List.length_cons]
        exact ⟨this.1, this.2.1, by have := this.2.2; dsimp only at this ⊢; omega⟩
      · obtain ⟨e2, e1⟩ := runs_wst (p := p) hc
        have := ih (wst p c) (by
          rw [e1]
          intro t ht
          rcases List.mem_append.mp ht with ht | ht
          · exact h1 t ht
          · by_cases h : p.2 = []
            · rw [h, cur_nil] at ht
              exact absurd ht List.not_mem_nil
            · rw [cur_ne h] at ht
              rw [List.mem_singleton.mp ht]
              exact h2) (by rw [e2]; exact fun d hd => absurd hd List.not_mem_nil)
        rw [List.foldl_cons, List.length_cons]
        refine ⟨this.1, this.2.1, ?_⟩
        have h3 := this.2.2
        rw [e1, List.length_append] at h3
        have h4 : (cur p.2).length ≤ 1 := by unfold cur; split <;> simp
        omega
  obtain ⟨h1, h2, h3⟩ := key l ([], []) (fun t h => absurd h List.not_mem_nil) (fun t h => absurd h List.not_mem_nil)
  have h4 : (cur (wds l).2).length ≤ 1 := by unfold cur; split <;> simp
  refine ⟨fun t ht => ?_, ?_⟩
  · rcases List.mem_append.mp ht with ht | ht
    · exact h1 t ht
    · unfold cur at ht
      split at ht
      · exact absurd ht List.not_mem_nil
      · rw [List.mem_singleton.mp ht]; exact h2
  · show ((wds l).1 ++ cur (wds l).2).length ≤ _
    rw [List.length_append]
    have h3 : (wds l).1.length ≤ 0 + l.length := h3
    omega
def spTold : Sp := spP 1 (fun vs => ∃ z, vs = [.str z] ∧ z.length ≤ 100000) (fun vs v => v = .bl true)
abbrev NM_law_told : List Str := ["written", "due", "row", "raised"]
theorem sc_law_told : FnScope NM_law_told ["written"] (defScope s_law_told) := ⟨rfl, rfl, rfl, by decide +kernel, rfl, by decide +kernel, by decide +kernel⟩
theorem d_law_told (F : Fn0 K mg "_law_told" s_law_told) (T : Txt P K mg) (D_law_fault : Def P w K mg base 1 "_law_fault" ["written"] spLFault) (D_Row : MkX P w K mg base 5 "Row" ["self", "expression"] (spRow mg)) (D_law_right_words : Def P w K mg base 1 "_law_right_words" ["told", "due"] spRight) (D_Row_words : PrX P w K mg base "Row" "words" "_words") (D_law_runs : Def P w K mg base 1 "_law_runs" ["written"] spRuns) (DH_law_is_whole : DefH P w K mg base 1 "_law_is_whole" ["told"] spWhole) :
    Def P w K mg base 7 "_law_told" ["written"] spTold := by
  refine Def.mk0 F sc_law_told (by first | exact NF.hl_spB | exact NF.hl_spP | exact NF.hl_spNew | exact NF.hl_spPX | exact NF.hl_spN | exact NF.hl_spNX | exact hl_spTold) (fun _ _ _ _ _ _ us hl => match us, hl with | [_], _ => rfl) (fun cdv A outer s H vs Q E hr h => ?_)
  refine ⟨_, (pss_cons (ps_set (i := 1) sc_law_told.nd rfl (Or.inl rfl) (pe_d D_law_fault (hr.mono (by decide)) rfl (pa_cons (pv 0) pa_nil)))
      (pss_cons (ps_try_all rfl rfl takesN0 (fun _ _ _ tk po => (pss_one (ps_set (i := 2) sc_law_told.nd rfl (Or.inl rfl) (pe_mkx D_Row rfl (hr.mono (by decide)) tk (by rfl) (pa_cons (pv 0) pa_nil)))))
      (HdA.named (i := 3) sc_law_told.nd rfl rfl ⟨rfl, by decide, Or.inl T.n_NestError⟩
      (fun a oe cls d pn hz hf => (pss_cons (ps_if (PW.pt (pw_or (pt_cmpR op_lt (pv 1) pe_int (nomark _)) (pw_or (pt_not (pt_val (pe_callB (call_isX hz hf) (by rfl) T.b_isinstance (by decide +kernel) (pa_cons (pv 3) (pa_cons (pe_clsn T.n_BadRow rfl rfl) pa_nil))))) (pw_or1 (pt_not (pt_val (pe_callB (call_isX hz hf) (by rfl) T.b_isinstance (by decide +kernel) (pa_cons (pv 3) (pa_cons (pe_ty (n := "ValueError") (by rfl) T.b_ValueError (by decide +kernel)) pa_nil)))))))))
      (pss_one (ps_ret pe_bl))
      pss_nil)
      (pss_cons (ps_if (PW.pt (pw_or (pt_val (pe_callB (call_isX hz hf) (by rfl) T.b_isinstance (by decide +kernel) (pa_cons (pv 3) (pa_cons (pe_clsn T.n_LimitError rfl rfl) pa_nil)))) (pw_or (pt_val (pe_callB (call_isX hz hf) (by rfl) T.b_isinstance (by decide +kernel) (pa_cons (pv 3) (pa_cons (pe_clsn T.n_BadLine rfl rfl) pa_nil)))) (pw_or1 (pt_val (pe_callB (call_isX hz hf) (by rfl) T.b_isinstance (by decide +kernel) (pa_cons (pv 3) (pa_cons (pe_clsn T.n_UnknownKind rfl rfl) pa_nil))))))))
      (pss_one (ps_ret pe_bl))
      pss_nil)
      (pss_one (ps_ret (pe_and (pe_dh DH_law_is_whole (room_suite (hr.mono (by decide))) (hot_suite hz hf) (by rfl) (pa_cons (pe_xfN hz hf (pv 3)) pa_nil)) (pe_one (pe_cmpR op_eq (pe_xfN hz hf (pv 3)) (pv 1) (nomark _)))))))))
      HdA.nil))
      (pss_one (ps_ret (pe_and (pe_cmpR op_lt (pv 1) pe_int (nomark _)) (pe_one (pe_d D_law_right_words (hr.mono (by decide)) rfl (pa_cons (pe_prx D_Row_words rfl (hr.mono (by decide)) (pv 2)) (pa_cons (pe_d D_law_runs (hr.mono (by decide)) rfl (pa_cons (pv 0) pa_nil)) pa_nil))))))))), ?_⟩
  try dsimp only [cxOf, Cx.nox, Cx.wish]
  obtain ⟨hl, ⟨z, rfl, hz⟩, k⟩ := h
  have O := NF.Own.refl0 H
  walk_at "gw"
  refine NF.use_spP (E := E0) O rfl ⟨z, rfl, by omega⟩ fun v H1 O ⟨z2, ez, ev⟩ => ?_
  cases ez
  subst ev
  walk_at "gw"
  generalize hW : wAll K (fun _ _ _ _ => False) _ _ = W
  refine x_makeX ?_
  walk_at "gw"
  intro a dx ha hdx hne
  have O1 := (O.new (o := .own a) hdx).new (p := a) (o := .ins (cad mg "Row") dx []) (by rw [upd_ne hne.symm]; exact ha)
  have hdxH := O.base_free hdx
  have haH := O.base_free ha
  have hfr : ∀ x ∈ ([] ++ [(dx, HO.own a)] ++ [(a, HO.ins (cad mg "Row") dx [])] : List (Addr × HO)), H x.1 = none := fun x hx => by
    simp only [List.mem_append, List.mem_cons, List.not_mem_nil, or_false, false_or] at hx
    rcases hx with rfl | rfl <;> assumption
  refine ⟨a, dx, z, rfl, by omega, upd_same, fun H2 tw fs hfl hlk htw O2 => ⟨rfl, ?_⟩, fun kk d H2 hfl O2 hd hfd => ?_⟩
  · have htwH := O1.base_free htw
    have O := (O1.close (R := [] ++ [(dx, HO.own a)]) (N := [(a, HO.ins (cad mg "Row") dx [])])).call O2 rfl (fun x hx => by rw [List.mem_singleton.mp hx]; exact htw)
    have hea := O.at_ (a, .ins (cad mg "Row") dx fs) (List.mem_append_left _ (List.mem_singleton_self _))
    walk_at "nO"
    walk_at "gw"
    rw [hfl]
    dsimp only [fvI]
    walk_at "gw"
    refine NF.x_ite (fun _ => ?_) (fun h => absurd (by decide) h)
    walk_at "gw"
    refine x_propE ?_
    walk_at "gw"
    refine x_getSp hea hlk ?_
    walk_at "gw"
    refine NF.use_spNew (E := E0) O rfl ⟨z, rfl, by omega⟩ fun pr H3 o hpr O ⟨z2, ez, eo⟩ => ?_
    cases ez
    subst eo
    walk_at "nO"
    walk_at "gw"
    obtain ⟨c1, c2⟩ := runs_ok (tl z)
    refine ⟨tw, pr, runsOf (tl z), rfl, O.get 1 rfl, O.get 2 rfl, by rw [← len_tl] at c2; omega, fun t ht c hc => by have := c1 t ht c hc; omega, fun H4 O4 => ?_⟩
    have O := O.call0 O4
    refine k _ _ ?_ rfl
    have O5 := O.toOpen (List.Perm.refl _)
    refine O5.drop fun x hx => ?_
    simp only [List.mem_append, List.mem_cons, List.not_mem_nil, or_false] at hx
    rcases hx with rfl | rfl | rfl | rfl <;> assumption
  · subst hW
    have O := ((O1.call0 O2).drop hfr).track hfd
    have hdH := O1.base_free hd
    refine ⟨true, T.p_BadRow_NestError.exm, fun _ a2 ha2 => ?_, fun h => Bool.noConfusion h⟩
    dsimp only [endsOf, startOf]
    rw [hfl]
    dsimp only [fvI]
    walk_at "gw"
    refine NF.x_ite (fun h => absurd h (by omega)) (fun _ => ?_)
    walk_at "gw"
    refine NF.x_isXC T.x_BadRow T.p_BadRow_BadRow (O.get 0 rfl) ?_
    walk_at "gw"
    refine NF.x_isXB T.x_BadRow T.p_BadRow_ValueError (O.get 0 rfl) ?_
    walk_at "gw"
    refine NF.x_isXC T.x_BadRow T.p_BadRow_LimitError (O.get 0 rfl) ?_
    walk_at "gw"
    refine NF.x_isXC T.x_BadRow T.p_BadRow_BadLine (O.get 0 rfl) ?_
    walk_at "gw"
    refine NF.x_isXC T.x_BadRow T.p_BadRow_UnknownKind (O.get 0 rfl) ?_
    walk_at "gw"
    refine x_callH ?_
    walk_at "gw"
    refine NF.x_xfV T.x_BadRow rfl (O.get 0 rfl) ?_
    walk_at "gw"
    refine NF.use_spP (E := E0) O rfl ⟨_, rfl⟩ fun v H3 O ev => ?_
    subst ev
    walk_at "gw"
    refine NF.x_xfV T.x_BadRow rfl (O.get 0 rfl) ?_
    walk_at "gw"
    rw [decide_eq_true rfl]
    exact k _ _ (O.drop (fresh1 hdH)) rfl


/-! the law's box: its cells, the place, what is left of a great cell, how many numbers are left, the mixed number -/
def BxD (a : Addr) (M : List (Addr × HO)) : Prop := ∃ (c : Addr) (ns : List Int) (x1 x2 x3 x4 : Int), M = [(a, .lst [.ref c, .int x1, .int x2, .int x3, .int x4]), (c, .lst (ns.map V.int))] ∧ 0 ≤ x1 ∧ 0 ≤ x4 ∧ x4 < 2147483648 ∧ ns.length ≤ 63
theorem mod_hi {i j : Int} (h : 0 < j) : 0 ≤ i % j ∧ i % j < j := ⟨Int.emod_nonneg _ (by omega), Int.emod_lt_of_pos _ h⟩
def spFill : Sp := spB 0 BxD (fun _ => True) (fun _ v => v = .non)
abbrev NM_law_fill : List Str := ["box", "cells", "place", "cell"]
theorem sc_law_fill : FnScope NM_law_fill ["box"] (defScope s_law_fill) := ⟨rfl, rfl, rfl, by decide +kernel, rfl, by decide +kernel, by decide +kernel⟩
theorem d_law_fill (F : Fn0 K mg "_law_fill" s_law_fill) (T : Txt P K mg)  :
    Def P w K mg base 1 "_law_fill" ["box"] spFill := by
  refine Def.mk0 F sc_law_fill (by first | exact NF.hl_spB | exact NF.hl_spP | exact NF.hl_spNew | exact NF.hl_spPX | exact NF.hl_spN | exact NF.hl_spNX | exact hl_spFill) (fun _ _ _ _ _ _ us hl => match us, hl with | [_], _ => rfl) (fun cdv A outer s H vs Q E hr h => ?_)
  refine ⟨_, (pss_cons (ps_set (i := 1) sc_law_fill.nd rfl (Or.inl rfl) (pe_ix ix_list (pv 0) pe_int (fun _ _ => rfl)))
      (pss_cons (ps_set (i := 2) sc_law_fill.nd rfl (Or.inl rfl) (pe_ix ix_list (pv 0) pe_int (fun _ _ => rfl)))
      (pss_cons (ps_set (i := 3) sc_law_fill.nd rfl (Or.inl rfl) pe_int)
      (Evl.pss_cut (ps_if (pt_cmpR op_lt (pv 2) (pe_callB (id := "len") callLen (by rfl) T.b_len (by decide +kernel) (pa_cons (pv 1) pa_nil)) (nomark _))
      (pss_one (ps_set (i := 3) sc_law_fill.nd rfl (Or.inl rfl) (pe_ix ix_list (pv 1) (pv 2) (fun _ _ => rfl))))
      pss_nil)
      (pss_cons (ps_asg (pe_op op_add (pv 2) pe_int) (pg_sub (pv 0) pe_int set_list))
      (pss_one (ps_if (pt_cmpR op_ge (pe_callB (id := "abs") callAbs (by rfl) T.b_abs (by decide +kernel) (pa_cons (pv 3) pa_nil)) (pe_op op_pow pe_int pe_int) (nomark _))
      (pss_one (ps_asg (pe_callB (id := "abs") callAbs (by rfl) T.b_abs (by decide +kernel) (pa_cons (pv 3) pa_nil)) (pg_sub (pv 0) pe_int set_list)))
      (pss_cons (ps_asg pe_int (pg_sub (pv 0) pe_int set_list))
      (pss_one (ps_asg (pe_op op_mod (pe_callTy (T := "int") callInt (by rfl) T.b_int (by decide +kernel) (pa_cons (pe_op op_add (pe_op op_add (pe_op op_add (pe_op op_add (pe_op op_mul (pe_ix ix_list (pv 0) pe_int (fun _ _ => rfl)) pe_int) (pe_op op_mul (pe_callB (id := "abs") callAbs (by rfl) T.b_abs (by decide +kernel) (pa_cons (pv 3) pa_nil)) pe_int)) (pe_op op_mul (pv 2) pe_int)) (pe_callTy (T := "int") callInt (by rfl) T.b_int (by decide +kernel) (pa_cons (pe_cmpR op_lt (pv 3) pe_int (nomark _)) pa_nil))) pe_int) pa_nil)) pe_int) (pg_sub (pv 0) pe_int set_list))))))))))), ?_⟩
  try dsimp only [cxOf, Cx.nox, Cx.wish]
  obtain ⟨a, A, M, rest, rfl, hl, ⟨⟨c, ns, x1, x2, x3, x4, rfl, h1, h4, h5, hns⟩, rfl⟩, O, _, k⟩ := h
  obtain rfl := List.length_eq_zero_iff.mp hl
  have O := O.opened
  walk_at "go"
  refine NF.x_cut (fun σ H1 => ∃ (ce : Int), σ = [some (.ref a), some (.ref c), some (.int x1), some (.int ce)] ∧ Own H H1 [] [(a, .lst [.ref c, .int x1, .int x2, .int x3, .int x4]), (c, .lst (ns.map V.int))]) ?_ ?_
  · walk_at "go"
    refine NF.x_ite (fun h0 => ?_) (fun h0 => ?_)
    · walk_at "go"
      refine NF.x_ixLo (O.get 1 rfl) h1 (by exact h0) fun v hv hm => ?_
      obtain ⟨ce, _, rfl⟩ := List.mem_map.mp hm
      walk_at "go"
      exact ⟨_, rfl, O⟩
    · walk_at "go"
      exact ⟨_, rfl, O⟩
  · rintro _ H1 ⟨ce, rfl, O⟩
    walk_at "go"
    refine NF.x_ite (fun h0 => ?_) (fun h0 => ?_)
    · walk_at "go"
      exact k _ _ _ ⟨⟨c, ns, x1 + 1, if ce < 0 then -ce else ce, x3, x4, rfl, by omega, h4, h5, hns⟩, rfl⟩ O.closed rfl
    · walk_at "go"
      refine x_intB ?_
      walk_at "go"
      have q := mod_hi (i := x4 * 48271 + (if ce < 0 then -ce else ce) * 7919 + x1 * 104729 + (if decide (ce < 0) = true then 1 else 0) + 1) (j := 2147483647) (by decide)
      exact k _ _ _ ⟨⟨c, ns, x1 + 1, x2, 9, _, rfl, by omega, q.1, by omega, hns⟩, rfl⟩ O.closed rfl

def spDraw : Sp := spB 1 BxD (fun r => ∃ many, r = [.int many] ∧ 0 < many ∧ many.natAbs.log2 < 9000) (fun r v => ∃ many d, r = [.int many] ∧ v = .int d ∧ 0 ≤ d ∧ d < many)
abbrev NM_law_draw : List Str := ["box", "size", "drawn"]
theorem sc_law_draw : FnScope NM_law_draw ["box", "size"] (defScope s_law_draw) := ⟨rfl, rfl, rfl, by decide +kernel, rfl, by decide +kernel, by decide +kernel⟩
theorem d_law_draw (F : Fn0 K mg "_law_draw" s_law_draw) (T : Txt P K mg) (D_law_fill : Def P w K mg base 1 "_law_fill" ["box"] spFill) :
    Def P w K mg base 2 "_law_draw" ["box", "size"] spDraw := by
  refine Def.mk0 F sc_law_draw (by first | exact NF.hl_spB | exact NF.hl_spP | exact NF.hl_spNew | exact NF.hl_spPX | exact NF.hl_spN | exact NF.hl_spNX | exact hl_spDraw) (fun _ _ _ _ _ _ us hl => match us, hl with | [_, _], _ => rfl) (fun cdv A outer s H vs Q E hr h => ?_)
  refine ⟨_, (Evl.pss_cut (ps_if (PW.pt (pw_and (pt_cmpR op_eq (pe_ix ix_list (pv 0) pe_int (fun _ _ => rfl)) pe_int (nomark _)) (pw_and1 (pt_cmpR op_eq (pe_ix ix_list (pv 0) pe_int (fun _ _ => rfl)) pe_int (nomark _)))))
      (pss_one (ps_expr (pe_d D_law_fill (hr.mono (by decide)) rfl (pa_cons (pv 0) pa_nil))))
      pss_nil)
      (pss_cons (ps_if (pt_cmpR op_gt (pe_ix ix_list (pv 0) pe_int (fun _ _ => rfl)) pe_int (nomark _))
      (pss_cons (ps_set (i := 2) sc_law_draw.nd rfl (Or.inl rfl) (pe_op op_mod (pe_callTy (T := "int") callInt (by rfl) T.b_int (by decide +kernel) (pa_cons (pe_ix ix_list (pv 0) pe_int (fun _ _ => rfl)) pa_nil)) (pv 1)))
      (pss_cons (ps_asg (pe_op op_fdivW (pe_ix ix_list (pv 0) pe_int (fun _ _ => rfl)) (pv 1)) (pg_sub (pv 0) pe_int set_list))
      (pss_one (ps_ret (pv 2)))))
      pss_nil)
      (pss_cons (ps_asg (pe_op op_sub (pe_ix ix_list (pv 0) pe_int (fun _ _ => rfl)) pe_int) (pg_sub (pv 0) pe_int set_list))
      (pss_cons (ps_asg (pe_op op_mod (pe_callTy (T := "int") callInt (by rfl) T.b_int (by decide +kernel) (pa_cons (pe_op op_add (pe_op op_mul (pe_ix ix_list (pv 0) pe_int (fun _ _ => rfl)) pe_int) pe_int) pa_nil)) pe_int) (pg_sub (pv 0) pe_int set_list))
      (pss_one (ps_ret (pe_op op_mod (pe_op op_mod (pe_callTy (T := "int") callInt (by rfl) T.b_int (by decide +kernel) (pa_cons (pe_op op_add (pe_op op_mul (pe_op op_fdivW (pe_ix ix_list (pv 0) pe_int (fun _ _ => rfl)) pe_int) pe_int) (pe_ix ix_list (pv 0) pe_int (fun _ _ => rfl))) pa_nil)) pe_int) (pv 1)))))))), ?_⟩
  try dsimp only [cxOf, Cx.nox, Cx.wish]
  obtain ⟨a, A, M, rest, rfl, hl, hB, O, ⟨many, rfl, hm, hml⟩, k⟩ := h
  walk_at "go"
  refine NF.x_cut (fun σ H1 => ∃ M1, σ = [some (.ref a), some (.int many), none] ∧ In BxD a A M1 ∧ Own H H1 M1 []) ?_ ?_
  · have B0 := hB
    obtain ⟨c, ns, x1, x2, x3, x4, rfl, h1, h4, h5, hns⟩ := hB.d
    have hH := O.at_ (a, .lst [.ref c, .int x1, .int x2, .int x3, .int x4]) (List.mem_append_left _ (List.mem_cons_self ..))
    dsimp only at hH
    walk_at "gw"
    have go : ∀ (H1 : Hp) (M1 : List (Addr × HO)), In BxD a A M1 → Own H H1 M1 [] → spFill ([.ref a] ++ []) H1 (fun _ H2 => ∃ M1, [some (.ref a), some (.int many), none] = [some (V.ref a), some (V.int many), none] ∧ In BxD a A M1 ∧ Own H H2 M1 []) E0 := fun H1 M1 hB O =>
      use_spB (rest := []) O hB rfl trivial fun v H' M' hB' O' _ => ⟨M', rfl, hB', O'⟩
    refine NF.x_iteI (fun h0 => ?_) (fun h0 => ?_)
    · walk_at "gw"
      refine NF.x_iteI (fun h0 => ?_) (fun h0 => ?_)
      · walk_at "gw"
        exact go _ _ B0 O
      · walk_at "gw"
        exact ⟨_, rfl, B0, O⟩
    · walk_at "gw"
      exact ⟨_, rfl, B0, O⟩
  · rintro _ H1 ⟨M1, rfl, ⟨⟨c, ns, x1, x2, x3, x4, rfl, h1, h4, h5, hns⟩, rfl⟩, O⟩
    have O := O.opened
    walk_at "go"
    refine NF.x_ite (fun h0 => ?_) (fun h0 => ?_)
    · walk_at "go"
      have q := mod_hi (i := x2) hm
      exact k _ _ _ ⟨⟨c, ns, x1, x2 / many, x3, x4, rfl, h1, h4, h5, hns⟩, rfl⟩ O.closed ⟨many, _, rfl, rfl, q.1, q.2⟩
    · have q0 := mod_hi (i := x4 * 69621 + 40692) (j := 2147483647) (by decide)
      have q1 := q0.1
      have q2 := q0.2
      walk_at "go"
      exact k _ _ _ ⟨⟨c, ns, x1, x2, x3 - 1, _, rfl, h1, q1, by omega, hns⟩, rfl⟩ O.closed ⟨many, _, rfl, rfl, (mod_hi hm).1, (mod_hi hm).2⟩

section
variable {B H : Hp} {M R : List (Addr × HO)} {a : Addr} {Q : VK} {E : XK}
theorem log2_small {m : Int} (h : m ≤ 1000000) (h0 : 0 < m) : m.natAbs.log2 < 9000 := by
  have h1 : m.natAbs < 2 ^ 20 := by omega
  have := PySem.Flt.log2_lt_of (show 0 < 20 by decide) h1
  omega
theorem x_draw {many : Int} (O : Own B H M R) {A : List Addr} (hB : In BxD a A M) (h0 : 0 < many) (h1 : many ≤ 1000000) (q : ∀ d H1 M1, 0 ≤ d → d < many → In BxD a A M1 → Own B H1 M1 R → Q (.int d) H1) : spDraw ([.ref a, .int many] ++ []) H Q E :=
  use_spB (rest := [.int many]) O hB rfl ⟨many, rfl, h0, log2_small h1 h0⟩ fun v H' M' hB' O' ⟨m2, d, e, ev, d0, d1⟩ => by
    cases e
    subst ev
    exact q d H' M' d0 d1 hB' O'
end
/-- a def of the box that makes a text of which P holds -/
def spTx (n : Nat) (pre : List V → Prop) (P : List V → Str → Prop) : Sp := spB n BxD pre (fun r v => ∃ z, v = .str z ∧ P r z)
theorem x_tx {B H : Hp} {M R : List (Addr × HO)} {a : Addr} {Q : VK} {E : XK} {n : Nat} {pre : List V → Prop} {P : List V → Str → Prop} {rest : List V} (O : Own B H M R) {A : List Addr} (hB : In BxD a A M) (hl : rest.length = n) (hp : pre rest)
    (q : ∀ z H1 M1, P rest z → In BxD a A M1 → Own B H1 M1 R → Q (.str z) H1) : spTx n pre P (.ref a :: rest) H Q E :=
  use_spB O hB hl hp fun v H' M' hB' O' ⟨z, e, h⟩ => by
    subst e
    exact q z H' M' h hB' O'
theorem cutV_ints (ns : List Int) (lo hi : Option Int) : ∃ ms : List Int, cutV (ns.map V.int) lo hi = ms.map V.int ∧ ms.length ≤ ns.length := by
  unfold cutV
  rw [← List.map_drop, ← List.map_take]
  refine ⟨_, rfl, ?_⟩
  rw [List.length_take, List.length_drop]
  omega
def spBox (K : PySem.W.Frag) : Sp := fun vs H Q _ => ∃ (a : Addr) (ns : List Int), vs = [.ref a] ∧ SqL K H a (ns.map V.int) ∧ ns.length ≤ 63 ∧ ∀ b A H' M', In BxD b A M' → (∀ B R, Own B H [] R → Own B H' M' R) → Q (.ref b) H'
theorem hl_spBox {K : PySem.W.Frag} : ∀ vs H Q E, spBox K vs H Q E → vs.length = 1 := fun vs H Q E h => by
  obtain ⟨a, ns, rfl, _⟩ := h
  rfl
abbrev NM_law_box : List Str := ["script", "cell"]
theorem sc_law_box : FnScope NM_law_box ["script"] (defScope s_law_box) := ⟨rfl, rfl, rfl, by decide +kernel, rfl, by decide +kernel, by decide +kernel⟩
theorem d_law_box (F : Fn0 K mg "_law_box" s_law_box) (T : Txt P K mg)  :
    Def P w K mg base 1 "_law_box" ["script"] (spBox K) := by
  refine Def.mk0 F sc_law_box (by first | exact NF.hl_spB | exact NF.hl_spP | exact NF.hl_spNew | exact NF.hl_spPX | exact NF.hl_spN | exact NF.hl_spNX | exact hl_spBox) (fun _ _ _ _ _ _ us hl => match us, hl with | [_], _ => rfl) (fun cdv A outer s H vs Q E hr h => ?_)
  refine ⟨_, (pss_one (ps_ret (pe_lst (pa_cons (pe_lc (own := [("cell", 1)]) (g := gName 1) rfl sc_law_box.nd (pi_list (pe_slice sl_list (pv 0) po_none (po_some pe_int))) (blkOk_by (own := [("cell", 1)]) (N := NM_law_box) (sc := defScope s_law_box) (by decide +kernel)) (fun _ _ _ _ _ => pg_name (i := 1) sc_law_box.nd rfl (Or.inl rfl)) (fun _ _ _ _ _ => pts_nil) (fun _ _ _ _ _ => (pe_callTy (T := "int") (r := rInt) callInt (by rfl) T.b_int (by decide +kernel) (pa_cons (pv 1) pa_nil)))) (pa_cons pe_int (pa_cons pe_int (pa_cons pe_int (pa_cons pe_int pa_nil)))))))), ?_⟩
  try dsimp only [cxOf, Cx.nox, Cx.wish]
  obtain ⟨a, ns, rfl, hS, hns, k⟩ := h
  have O0 := NF.Own.refl0 H
  walk_at "gw"
  refine NF.x_slL hS O0 fun p1 H1 hp1 O1 => ?_
  walk_at "gw"
  obtain ⟨ms, e, hm⟩ := cutV_ints ns none (some 63)
  rw [e] at O1
  refine NF.lc_lst (SqL.of (O1.get 0 rfl)) O1 (fun i acc M' => M' = [] ∧ ∃ l : List Int, acc = l.map V.int ∧ l.length = i) (fun H' M' p' acc O' => SqL.of (O'.get 0 rfl)) ⟨rfl, [], rfl, rfl⟩ (fun i x H' M' p' acc hx hl hP O' => ?_) fun p' H' M' acc hp' hl hP O' => ?_
  · obtain ⟨rfl, l, rfl, hll⟩ := hP
    obtain ⟨m, hm2, rfl⟩ : ∃ m, ms[i]? = some m ∧ V.int m = x := by
      rw [List.getElem?_map] at hx
      cases h : ms[i]? with
      | none => rw [h] at hx; cases hx
      | some t => rw [h] at hx; exact ⟨t, rfl, Option.some.inj hx⟩
    have him := (List.getElem?_eq_some_iff.mp hm2).1
    walk_at "gw"
    exact lc_done O' hl (by rw [sizeLine_eq]; omega) ⟨rfl, l ++ [m], by rw [List.map_append]; rfl, by rw [List.length_append, hll]; rfl⟩
  · obtain ⟨rfl, l, rfl, hll⟩ := hP
    rw [List.length_map] at hll
    walk_at "gw"
    refine NF.x_newL O' (by walk_at "len") fun p H2 hp O => ?_
    have O4 := (O.perm (R' := [(p1, .lst (ms.map V.int))] ++ [(p, .lst [.ref p', .int 0, .int 0, .int 0, .int 5]), (p', .lst (l.map V.int))]) (by exact List.Perm.cons _ (List.Perm.swap _ _ _))).dropTo (fun x hx => by rw [List.mem_singleton.mp hx]; exact hp1)
    exact k p _ _ _ ⟨⟨p', l, 0, 0, 0, 5, rfl, by decide, by decide, by decide, by omega⟩, rfl⟩ fun B R OB => (OB.callN O4 fun x hx => by
      simp only [List.mem_cons, List.not_mem_nil, or_false] at hx
      rcases hx with rfl | rfl
      · exact hp
      · exact hp').close

theorem len_abc : (Str.ofString "abcdefghijklmnopqrstuvwxyz").length = 26 := by decide +kernel
def spWord : Sp := spTx 0 (fun _ => True) (fun _ z => ∃ w, z = mkS w ∧ w ≠ [] ∧ w.length ≤ 8 ∧ ∀ c ∈ w, az c)
abbrev NM_law_word : List Str := ["box", "letters", "size", "k"]
theorem sc_law_word : FnScope NM_law_word ["box"] (defScope s_law_word) := ⟨rfl, rfl, rfl, by decide +kernel, rfl, by decide +kernel, by decide +kernel⟩
theorem d_law_word (F : Fn0 K mg "_law_word" s_law_word) (T : Txt P K mg) (D_law_draw : Def P w K mg base 2 "_law_draw" ["box", "size"] spDraw) :
    Def P w K mg base 3 "_law_word" ["box"] spWord := by
  refine Def.mk0 F sc_law_word (by first | exact NF.hl_spB | exact NF.hl_spP | exact NF.hl_spNew | exact NF.hl_spPX | exact NF.hl_spN | exact NF.hl_spNX | exact hl_spWord) (fun _ _ _ _ _ _ us hl => match us, hl with | [_], _ => rfl) (fun cdv A outer s H vs Q E hr h => ?_)
  refine ⟨_, (pss_cons (ps_set (i := 1) sc_law_word.nd rfl (Or.inr rfl) pe_str)
      (pss_cons (ps_set (i := 2) sc_law_word.nd rfl (Or.inl rfl) (pe_ix ix_list (pe_lst (pa_cons pe_int (pa_cons pe_int (pa_cons pe_int (pa_cons pe_int (pa_cons pe_int (pa_cons pe_int (pa_cons pe_int (pa_cons pe_int (pa_cons pe_int (pa_cons pe_int (pa_cons pe_int (pa_cons pe_int (pa_cons pe_int (pa_cons pe_int pa_nil))))))))))))))) (pe_d D_law_draw (hr.mono (by decide)) rfl (pa_cons (pv 0) (pa_cons pe_int pa_nil))) (fun _ _ => rfl)))
      (pss_one (ps_ret (pe_bm PySem.F.plainAttrs_str PySem.F.slot_str_join PySem.F.type_str_join mtJoin pe_str (pa_cons (pe_lc (own := [("k", 3)]) (g := gName 3) rfl sc_law_word.nd (pi_range1 (by rfl) T.b_range (pa_cons (pv 2) pa_nil)) (blkOk_by (own := [("k", 3)]) (N := NM_law_word) (sc := defScope s_law_word) (by decide +kernel)) (fun _ _ _ _ _ => pg_name (i := 3) sc_law_word.nd rfl (Or.inl rfl)) (fun _ _ _ _ _ => pts_nil) (fun _ _ _ _ _ => (pe_ix ix_str (pv 1) (pe_d D_law_draw (hr.mono (by decide)) rfl (pa_cons (pv 0) (pa_cons pe_int pa_nil))) (fun _ _ => rfl)))) pa_nil)))))), ?_⟩
  try dsimp only [cxOf, Cx.nox, Cx.wish]
  obtain ⟨a, A, M, rest, rfl, hl, hB, O, _, k⟩ := h
  obtain rfl := List.length_eq_zero_iff.mp hl
  walk_at "gw"
  refine NF.x_newL O (by decide +kernel) fun p1 H1 hp1 O => ?_
  walk_at "nO"
  walk_at "gw"
  refine x_draw O hB (by decide) (by decide) fun d H1 M1 d0 d1 hB O => ?_
  walk_at "gw"
  refine NF.x_ixLo (O.get 0 rfl) d0 (by exact d1) fun v hv hm => ?_
  obtain ⟨sz, rfl, hf0, hf1⟩ : ∃ sz, v = V.int sz ∧ 1 ≤ sz ∧ sz ≤ 8 := by
    simp only [List.mem_cons, List.not_mem_nil, or_false] at hm
    rcases hm with rfl | rfl | rfl | rfl | rfl | rfl | rfl | rfl | rfl | rfl | rfl | rfl | rfl | rfl <;> exact ⟨_, rfl, by decide, by decide⟩
  clear hm hv
  walk_at "gw"
  refine NF.lc_rng1 (by omega) O (fun i acc M' => In BxD a A M' ∧ ∃ l : List Nat, acc = l.map ch ∧ l.length = i ∧ ∀ c ∈ l, az c) ⟨hB, [], rfl, rfl, fun c h => absurd h List.not_mem_nil⟩ ?_ ?_
  · rintro i H2 M2 p acc hi hl ⟨hB, l, rfl, hli, hla⟩ O
    walk_at "gw"
    refine x_draw O hB (by decide) (by decide) fun d H1 M1 d0 d1 hB O => ?_
    walk_at "gw"
    refine NF.x_ixSo d0 (by rw [len_abc]; exact d1) (by rw [len_abc, sizeLine_eq]; decide) fun c _ _ hm => ?_
    rw [mem_abc] at hm
    refine lc_done O hl (by rw [sizeLine_eq]; omega) ⟨hB, l ++ [c], map_snoc l c, by rw [List.length_append, hli]; rfl, fun x hx => ?_⟩
    rcases List.mem_append.mp hx with hx | hx
    · exact hla x hx
    · rw [List.mem_singleton.mp hx]; exact hm
  rintro p H2 M2 acc hp hl ⟨hB, l, rfl, hli, hla⟩ O
  rw [List.length_map] at hl
  walk_at "gw"
  refine NF.x_join l (O.get 1 rfl) (by omega) ?_
  refine k _ _ _ hB (O.drop fun x hx => ?_) ⟨_, rfl, l, rfl, ?_, by omega, hla⟩
  · simp only [List.mem_append, List.mem_cons, List.not_mem_nil, or_false] at hx
    rcases hx with rfl | rfl <;> assumption
  · intro e
    rw [e] at hli
    simp at hli
    omega


/-! tokens that are drawn -/
structure Tk where
  many : Nat
  opn : Nat
  rdy : Bool
def t0 : Tk := ⟨0, 0, false⟩
def wOk (t : List Nat) : Prop := t ≠ [] ∧ t.length ≤ 8 ∧ ∀ c ∈ t, az c
/-- a token more -/
inductive TStep : Tk → List Nat → Tk → Prop
  | opn {s : Tk} (h : s.opn + 1 ≤ 8) : TStep s [40] ⟨s.many, s.opn + 1, false⟩
  | cls {s : Tk} (h : s.opn ≠ 0) : TStep s [41] ⟨s.many, s.opn - 1, true⟩
  | bar {s : Tk} : TStep s [124] ⟨s.many, s.opn, false⟩
  | sgn {s : Tk} {c : Nat} (h : c = 42 ∨ c = 43 ∨ c = 63) (hr : s.rdy = true) : TStep s [c] ⟨s.many, s.opn, true⟩
  | wrd {s : Tk} {t : List Nat} (h : wOk t) (hm : s.many + 1 ≤ 12) : TStep s t ⟨s.many + 1, s.opn, true⟩
inductive TRun : List (List Nat) → Tk → Prop
  | nil : TRun [] t0
  | snoc {T : List (List Nat)} {s s' : Tk} {t : List Nat} (r : TRun T s) (h : TStep s t s') : TRun (T ++ [t]) s'
theorem TRun.opens : ∀ n : Nat, n ≤ 8 → TRun (List.replicate n [40]) ⟨0, n, false⟩
  | 0, _ => .nil
  | n + 1, h => by
    rw [List.replicate_succ']
    exact (TRun.opens n (by omega)).snoc (.opn (s := ⟨0, n, false⟩) (by show n + 1 ≤ 8; omega))
theorem TRun.closes {T : List (List Nat)} {m : Nat} : ∀ (o : Nat) {r : Bool}, TRun T ⟨m, o, r⟩ → ∃ r', TRun (T ++ List.replicate o [41]) ⟨m, 0, r'⟩
  | 0, r, h => ⟨r, by rw [List.replicate_zero, List.append_nil]; exact h⟩
  | o + 1, r, h => by
    have h2 := h.snoc (.cls (s := ⟨m, o + 1, r⟩) (by simp))
    obtain ⟨r', h3⟩ := TRun.closes o (T := T ++ [[41]]) (r := true) h2
    rw [List.append_assoc] at h3
    rw [List.replicate_succ]
    exact ⟨r', h3⟩
theorem TRun.words : ∀ {ws T : List (List Nat)} {s : Tk}, TRun T s → (∀ w ∈ ws, wOk w) → s.many + ws.length ≤ 12 → ∃ s', TRun (T ++ ws) s' ∧ s'.opn = s.opn
  | [], T, s, h, _, _ => ⟨s, by rw [List.append_nil]; exact h, rfl⟩
  | w :: ws, T, s, h, hw, hl => by
    rw [List.length_cons] at hl
    obtain ⟨s', h2, e⟩ := TRun.words (ws := ws) (h.snoc (.wrd (hw w (List.mem_cons_self ..)) (by omega))) (fun x hx => hw x (List.mem_cons_of_mem _ hx)) (by show s.many + 1 + ws.length ≤ 12; omega)
    rw [List.append_assoc] at h2
    exact ⟨s', h2, e⟩
theorem x_andJ {p : Prop} [Decidable p] {G X Y : Prop} (q : Prop) (rest : ¬ (p ∧ q) → Y) (hG : p → (¬ q → Y) → G) : if decide p = true then G else if false = true then X else Y := by
  by_cases h : p
  · rw [if_pos (decide_eq_true h)]
    exact hG h fun nq => rest fun z => nq z.2
  · rw [if_neg (fun z => h (of_decide_eq_true z)), if_neg (fun z => by cases z)]
    exact rest fun z => h z.1
theorem x_share {Y G : Prop} (h : Y → G) (r : Y) : G := h r
theorem x_fal {X Y : Prop} (h : Y) : if false = true then X else Y := by rw [if_neg (by decide)]; exact h
theorem x_tru1 {X Y : Prop} (h : X) : if true = true then X else Y := by rw [if_pos rfl]; exact h
def spToks : Sp := fun vs H Q _ => ∃ (a : Addr) (A : List Addr) (M : List (Addr × HO)), vs = [.ref a] ∧ In BxD a A M ∧ Own H H M [] ∧ ∀ p H' M' T s, In BxD a A M' → H p = none → Own H H' M' [(p, .lst (T.map tkn))] → TRun T s → s.opn = 0 → T.length ≤ 60 → Q (.ref p) H'
theorem hl_spToks : ∀ vs H Q E, spToks vs H Q E → vs.length = 1 := fun vs H Q E ⟨_, _, _, e, _⟩ => by rw [e]; rfl
abbrev NM_law_tokens : List Str := ["box", "full", "opened", "tokens", "many", "ready", "k", "way"]
theorem sc_law_tokens : FnScope NM_law_tokens ["box"] (defScope s_law_tokens) := ⟨rfl, rfl, rfl, by decide +kernel, rfl, by decide +kernel, by decide +kernel⟩
theorem d_law_tokens (F : Fn0 K mg "_law_tokens" s_law_tokens) (T : Txt P K mg) (D_law_draw : Def P w K mg base 2 "_law_draw" ["box", "size"] spDraw) (D_law_word : Def P w K mg base 3 "_law_word" ["box"] spWord) :
    Def P w K mg base 4 "_law_tokens" ["box"] spToks := by
  refine Def.mk0 F sc_law_tokens (by first | exact NF.hl_spB | exact NF.hl_spP | exact NF.hl_spNew | exact NF.hl_spPX | exact NF.hl_spN | exact NF.hl_spNX | exact hl_spToks) (fun _ _ _ _ _ _ us hl => match us, hl with | [_], _ => rfl) (fun cdv A outer s H vs Q E hr h => ?_)
  refine ⟨_, (pss_cons (ps_set (i := 1) sc_law_tokens.nd rfl (Or.inl rfl) (pe_d D_law_draw (hr.mono (by decide)) rfl (pa_cons (pv 0) (pa_cons pe_int pa_nil))))
      (pss_cons (ps_set (i := 2) sc_law_tokens.nd rfl (Or.inl rfl) (pe_op op_mul pe_int (pe_callTy (T := "int") callInt (by rfl) T.b_int (by decide +kernel) (pa_cons (pe_cmpR op_eq (pv 1) pe_int (nomark _)) pa_nil))))
      (pss_cons (ps_set (i := 3) sc_law_tokens.nd rfl (Or.inl rfl) (pe_op op_rep (pe_lst (pa_cons pe_str pa_nil)) (pv 2)))
      (pss_cons (ps_set (i := 4) sc_law_tokens.nd rfl (Or.inl rfl) pe_int)
      (pss_cons (ps_set (i := 5) sc_law_tokens.nd rfl (Or.inl rfl) pe_bl)
      (pss_cons (ps_for PassesOwn.never rfl (pi_range1 (by rfl) T.b_range (pa_cons (pe_d D_law_draw (hr.mono (by decide)) rfl (pa_cons (pv 0) (pa_cons pe_int pa_nil))) pa_nil)) (pg_name (i := 6) sc_law_tokens.nd rfl (Or.inl rfl))
      (pss_cons (ps_set (i := 7) sc_law_tokens.nd rfl (Or.inl rfl) (pe_d D_law_draw (hr.mono (by decide)) rfl (pa_cons (pv 0) (pa_cons pe_int pa_nil))))
      (pss_one (ps_if (PW.pt (pw_and (pt_cmpR op_lt (pv 7) pe_int (nomark _)) (pw_and1 (pt_cmpR op_lt (pv 4) pe_int (nomark _)))))
      (pss_cons (ps_expr (pe_bm PySem.F.plainAttrs_list PySem.F.slot_list_append PySem.F.type_list_append mt_append (pv 3) (pa_cons (pe_d D_law_word (hr.mono (by decide)) rfl (pa_cons (pv 0) pa_nil)) pa_nil)))
      (pss_cons (ps_set (i := 4) sc_law_tokens.nd rfl (Or.inl rfl) (pe_op op_add (pv 4) pe_int))
      (pss_one (ps_set (i := 5) sc_law_tokens.nd rfl (Or.inl rfl) pe_bl))))
      (pss_one (ps_if (PW.pt (pw_and (PW.pt (pw_or (pt_cmpR op_eq (pv 7) pe_int (nomark _)) (pw_or1 (pt_cmpR op_eq (pv 7) pe_int (nomark _))))) (pw_and1 (pt_cmpR op_lt (pv 2) pe_int (nomark _)))))
      (pss_cons (ps_expr (pe_bm PySem.F.plainAttrs_list PySem.F.slot_list_append PySem.F.type_list_append mt_append (pv 3) (pa_cons pe_str pa_nil)))
      (pss_cons (ps_set (i := 2) sc_law_tokens.nd rfl (Or.inl rfl) (pe_op op_add (pv 2) pe_int))
      (pss_one (ps_set (i := 5) sc_law_tokens.nd rfl (Or.inl rfl) pe_bl))))
      (pss_one (ps_if (PW.pt (pw_and (pt_cmpR op_eq (pv 7) pe_int (nomark _)) (pw_and1 (pt_cmpR op_gt (pv 2) pe_int (nomark _)))))
      (pss_cons (ps_expr (pe_bm PySem.F.plainAttrs_list PySem.F.slot_list_append PySem.F.type_list_append mt_append (pv 3) (pa_cons pe_str pa_nil)))
      (pss_cons (ps_set (i := 2) sc_law_tokens.nd rfl (Or.inl rfl) (pe_op op_sub (pv 2) pe_int))
      (pss_one (ps_set (i := 5) sc_law_tokens.nd rfl (Or.inl rfl) pe_bl))))
      (pss_one (ps_if (pt_cmpR op_eq (pv 7) pe_int (nomark _))
      (pss_cons (ps_expr (pe_bm PySem.F.plainAttrs_list PySem.F.slot_list_append PySem.F.type_list_append mt_append (pv 3) (pa_cons pe_str pa_nil)))
      (pss_one (ps_set (i := 5) sc_law_tokens.nd rfl (Or.inl rfl) pe_bl)))
      (pss_one (ps_if (PW.pt (pw_and (pt_cmpR op_gt (pv 7) pe_int (nomark _)) (pw_and1 (pt_val (pv 5)))))
      (pss_one (ps_expr (pe_bm PySem.F.plainAttrs_list PySem.F.slot_list_append PySem.F.type_list_append mt_append (pv 3) (pa_cons (pe_ix ix_str pe_str (pe_op op_sub (pv 7) pe_int) (fun _ _ => rfl)) pa_nil))))
      pss_nil))))))))))))
      (Evl.pss_cut (ps_if (pt_cmpR op_eq (pv 1) pe_int (nomark _))
      (pss_one (ps_set (i := 3) sc_law_tokens.nd rfl (Or.inl rfl) (pe_op op_cat (pv 3) (pe_lc (own := [("k", 6)]) (g := gName 6) rfl sc_law_tokens.nd (pi_range1 (by rfl) T.b_range (pa_cons (pe_op op_sub pe_int (pv 4)) pa_nil)) (blkOk_by (own := [("k", 6)]) (N := NM_law_tokens) (sc := defScope s_law_tokens) (by decide +kernel)) (fun _ _ _ _ _ => pg_name (i := 6) sc_law_tokens.nd rfl (Or.inl rfl)) (fun _ _ _ _ _ => pts_nil) (fun _ _ _ _ _ => (pe_d D_law_word (hr.mono (by decide)) rfl (pa_cons (pv 0) pa_nil)))))))
      pss_nil)
      (pss_one (ps_ret (pe_op op_cat (pv 3) (pe_op op_rep (pe_lst (pa_cons pe_str pa_nil)) (pv 2)))))))))))), ?_⟩
  try dsimp only [cxOf, Cx.nox, Cx.wish]
  obtain ⟨a, A, M, rfl, hB, O, k⟩ := h
  walk_at "gw"
  refine x_draw O hB (by decide) (by decide) fun full H1 M1 f0 f1 hB O => ?_
  walk_at "gw"
  refine x_intB ?_
  walk_at "gw"
  obtain ⟨op, hop, hop8⟩ : ∃ op : Nat, 8 * (if decide (V.int full = V.int 1) = true then 1 else 0 : Int) = (op : Nat) ∧ op ≤ 8 := by
    split
    · exact ⟨8, rfl, Nat.le_refl _⟩
    · exact ⟨0, rfl, by decide⟩
  rw [hop]
  refine NF.x_newL O (by decide +kernel) fun p0 H1 hp0 O => ?_
  walk_at "nO"
  walk_at "gw"
  refine x_rep O (O.get 0 rfl) (by omega) (by omega) (by rw [sizeLine_eq]; simp; omega) fun pt H1 hpt O => ?_
  walk_at "nO"
  rw [rep_one, Int.toNat_natCast] at O
  walk_at "gw"
  refine x_draw O hB (by decide) (by decide) fun n H1 M1 n0 n1 hB O => ?_
  walk_at "gw"
  refine NF.f_rng1 ⟨by omega, by omega⟩ (fun i σ H' => ∃ (u6 u7 : Option V) (T : List (List Nat)) (s : Tk) (M' : List (Addr × HO)), σ = [some (.ref a), some (.int full), some (.int s.opn), some (.ref pt), some (.int s.many), some (.bl s.rdy), u6, u7] ∧ In BxD a A M' ∧ Own H H' M' [(p0, .lst [.str (Str.ofString "(")]), (pt, .lst (T.map tkn))] ∧
    TRun T s ∧ T.length ≤ op + i ∧ s.many ≤ 12 ∧ s.opn ≤ 8) ⟨_, _, List.replicate op [40], ⟨0, op, false⟩, _, rfl, hB, by rw [List.map_replicate]; exact O, TRun.opens op hop8, by simp, Nat.zero_le _, hop8⟩ ?_ ?_
  · rintro i _ H2 hi ⟨u6, u7, T, s, M2, rfl, hB, O, hT, hl, hm, ho⟩
    walk_at "gw"
    refine x_draw O hB (by decide) (by decide) fun way H1 M1 w0 w1 hB O => ?_
    have fin : ∀ (H3 : Hp) (M3 : List (Addr × HO)) (t : List Nat) (s' : Tk), In BxD a A M3 → Own H H3 M3 [(p0, .lst [.str (Str.ofString "(")]), (pt, .lst (T.map tkn ++ [tkn t]))] → TStep s t s' → s'.many ≤ 12 → s'.opn ≤ 8 →
        ∃ (u6 u7 : Option V) (T : List (List Nat)) (s : Tk) (M' : List (Addr × HO)), [some (.ref a), some (.int full), some (V.int s'.opn), some (.ref pt), some (.int s'.many), some (.bl s'.rdy), some (.int i), some (.int way)] = [some (.ref a), some (.int full), some (.int s.opn), some (.ref pt), some (.int s.many), some (.bl s.rdy), u6, u7] ∧ In BxD a A M' ∧ Own H H3 M' [(p0, .lst [.str (Str.ofString "(")]), (pt, .lst (T.map tkn))] ∧
        TRun T s ∧ T.length ≤ op + (i + 1) ∧ s.many ≤ 12 ∧ s.opn ≤ 8 := fun H3 M3 t s' hB O hs h1 h2 =>
      ⟨_, _, T ++ [t], s', M3, rfl, hB, by rw [List.map_append]; exact O, hT.snoc hs, by rw [List.length_append]; exact Nat.succ_le_succ hl, h1, h2⟩
    walk_at "gw"
    refine x_andJ (q := (s.many : Int) < 12) (fun n1 => ?_) (fun h1 hY => ?_)
    rotate_left
    · walk_at "gw"
      refine NF.x_ite (fun h2 => ?_) (fun h2 => hY h2)
      walk_at "gw"
      refine x_tx (E := E0) (rest := []) O hB rfl trivial fun z H3 M3 ⟨t, ez, t1, t2, t3⟩ hB O => ?_
      subst ez
      walk_at "gw"
      exact fin _ _ t ⟨s.many + 1, s.opn, true⟩ hB O (.wrd ⟨t1, t2, t3⟩ (by omega)) (by show s.many + 1 ≤ 12; omega) ho
    walk_at "gw"
    refine' x_share (fun hY => ?main1) ?rest1
    case main1 =>
      refine NF.x_iteI (fun h1 => ?_) (fun h1 => ?_)
      · refine x_tru1 ?_
        walk_at "gw"
        refine NF.x_ite (fun h2 => ?_) (fun _ => hY)
        walk_at "gw"
        exact fin _ _ [40] ⟨s.many, s.opn + 1, false⟩ hB O (.opn (by omega)) hm (by show s.opn + 1 ≤ 8; omega)
      · walk_at "gw"
        refine NF.x_iteI (fun h2 => ?_) (fun _ => x_fal hY)
        walk_at "gw"
        refine NF.x_ite (fun h2 => ?_) (fun _ => hY)
        walk_at "gw"
        exact fin _ _ [40] ⟨s.many, s.opn + 1, false⟩ hB O (.opn (by omega)) hm (by show s.opn + 1 ≤ 8; omega)
    walk_at "gw"
    refine' x_share (fun hY => ?main2) ?rest2
    case main2 =>
      refine NF.x_iteI (fun h1 => ?_) (fun _ => x_fal hY)
      walk_at "gw"
      refine NF.x_ite (fun h2 => ?_) (fun _ => hY)
      walk_at "gw"
      rw [show (s.opn : Int) - 1 = ((s.opn - 1 : Nat) : Int) by omega]
      exact fin _ _ [41] ⟨s.many, s.opn - 1, true⟩ hB O (.cls (by omega)) hm (by show s.opn - 1 ≤ 8; omega)
    walk_at "gw"
    refine NF.x_iteI (fun h1 => ?_) (fun h1 => ?_)
    · walk_at "gw"
      exact fin _ _ [124] ⟨s.many, s.opn, false⟩ hB O .bar hm ho
    walk_at "gw"
    have same : ∃ (u6 u7 : Option V) (T : List (List Nat)) (s2 : Tk) (M' : List (Addr × HO)), [some (.ref a), some (.int full), some (V.int s.opn), some (.ref pt), some (.int s.many), some (.bl s.rdy), some (.int i), some (.int way)] = [some (.ref a), some (.int full), some (.int s2.opn), some (.ref pt), some (.int s2.many), some (.bl s2.rdy), u6, u7] ∧ In BxD a A M' ∧ Own H H1 M' [(p0, .lst [.str (Str.ofString "(")]), (pt, .lst (T.map tkn))] ∧
        TRun T s2 ∧ T.length ≤ op + (i + 1) ∧ s2.many ≤ 12 ∧ s2.opn ≤ 8 := ⟨_, _, T, s, M1, rfl, hB, O, hT, by omega, hm, ho⟩
    refine NF.x_ite (fun h2 => ?_) (fun _ => ?_)
    · walk_at "gw"
      refine NF.x_itb (fun h3 => ?_) (fun _ => ?_)
      · walk_at "gw"
        refine NF.x_ixSo (by omega) (by rw [show (Str.ofString "*+?").length = 3 by decide +kernel]; omega) (by decide +kernel) fun c _ _ hc => ?_
        rw [tl_rep] at hc
        have hc : c = 42 ∨ c = 43 ∨ c = 63 := by simpa using hc
        walk_at "gw"
        rw [h3]
        exact fin _ _ [c] ⟨s.many, s.opn, true⟩ hB O (.sgn hc h3) hm ho
      · walk_at "gw"
        exact same
    · refine x_fal ?_
      walk_at "gw"
      exact same
  · rintro _ H2 ⟨u6, u7, T, s, M2, rfl, hB, O, hT, hl, hm, ho⟩
    walk_at "gw"
    refine NF.x_cut (fun σ H' => ∃ (u4 : Option V) (p2 : Addr) (T2 : List (List Nat)) (s2 : Tk) (M' R : List (Addr × HO)), σ = [some (.ref a), some (.int full), some (.int s2.opn), some (.ref p2), some (.int s.many), some (.bl s.rdy), u6, u7] ∧ In BxD a A M' ∧ Own H H' M' R ∧ (∀ x ∈ R, H x.1 = none) ∧ (p2, HO.lst (T2.map tkn)) ∈ R ∧
      TRun T2 s2 ∧ T2.length ≤ 45 ∧ s2.opn ≤ 8) ?_ ?_
    · walk_at "gw"
      refine NF.x_iteI (fun h0 => ?_) (fun h0 => ?_)
      · walk_at "gw"
        refine NF.lc_rng1 (by omega) O (fun i acc M' => In BxD a A M' ∧ ∃ ws : List (List Nat), acc = ws.map tkn ∧ ws.length = i ∧ ∀ w ∈ ws, wOk w) ⟨hB, [], rfl, rfl, fun w h => absurd h List.not_mem_nil⟩ ?_ ?_
        · rintro i H3 M3 p acc hi hl2 ⟨hB, ws, rfl, hwl, hwo⟩ O
          walk_at "gw"
          refine x_tx (E := E0) (rest := []) O hB rfl trivial fun z H4 M4 ⟨t, ez, t1, t2, t3⟩ hB O => ?_
          subst ez
          refine lc_done O hl2 (by rw [sizeLine_eq]; omega) ⟨hB, ws ++ [t], by rw [List.map_append]; rfl, by rw [List.length_append, hwl]; rfl, fun x hx => ?_⟩
          rcases List.mem_append.mp hx with hx | hx
          · exact hwo x hx
          · rw [List.mem_singleton.mp hx]; exact ⟨t1, t2, t3⟩
        rintro p H3 M3 acc hp hl2 ⟨hB, ws, rfl, hwl, hwo⟩ O
        obtain ⟨s2, hT2, e2⟩ := hT.words hwo (by omega)
        refine NF.x_cat O (O.get 1 rfl) O.last (by rw [List.length_map, List.length_map, sizeLine_eq]; omega) fun p2 H4 hp2 O => ?_
        walk_at "gw"
        refine ⟨none, p2, T ++ ws, s2, M3, _, by rw [e2]; rfl, hB, O, ?_, by simp, hT2, by rw [List.length_append]; omega, by omega⟩
        intro x hx
        simp only [List.mem_append, List.mem_cons, List.not_mem_nil, or_false] at hx
        rcases hx with ((rfl | rfl) | rfl) | rfl <;> assumption
      · walk_at "gw"
        refine ⟨none, pt, T, s, M2, _, rfl, hB, O, ?_, by simp, hT, by omega, ho⟩
        intro x hx
        simp only [List.mem_cons, List.not_mem_nil, or_false] at hx
        rcases hx with rfl | rfl <;> assumption
    rintro _ H3 ⟨u4, p2, T2, s2, M3, R3, rfl, hB, O, hR3, hp2, hT2, hl2, ho2⟩
    walk_at "gw"
    refine NF.x_newL O (by decide +kernel) fun q0 H4 hq0 O => ?_
    walk_at "gw"
    refine x_rep O O.last (by omega) (by omega) (by rw [sizeLine_eq]; simp; omega) fun q1 H5 hq1 O => ?_
    rw [rep_one, Int.toNat_natCast] at O
    walk_at "gw"
    refine NF.x_cat O (O.mem (x := (p2, .lst (T2.map tkn))) (by simp [hp2])) O.last (by rw [List.length_map, List.length_replicate, sizeLine_eq]; omega) fun q2 H6 hq2 O => ?_
    obtain ⟨r', hT3⟩ := TRun.closes (T := T2) (m := s2.many) s2.opn (r := s2.rdy) hT2
    have e : T2.map tkn ++ List.replicate s2.opn (V.str (Str.ofString ")")) = (T2 ++ List.replicate s2.opn [41]).map tkn := by
      rw [List.map_append, List.map_replicate]
      rfl
    rw [e] at O
    exact k q2 H6 M3 _ _ hB hq2 (O.dropTo (freshA (freshA hR3 (fresh1 hq0)) (fresh1 hq1))) hT3 rfl (by rw [List.length_append, List.length_replicate]; omega)


theorem TRun.seq {T : List (List Nat)} {s : Tk} (h : TRun T s) : ∃ f : Nat → Tk, f 0 = t0 ∧ f T.length = s ∧ ∀ i t, T[i]? = some t → TStep (f i) t (f (i + 1)) := by
  induction h with
  | nil => exact ⟨fun _ => t0, rfl, rfl, fun i t h => by simp at h⟩
  | @snoc T s s' t r h ih =>
    obtain ⟨f, f0, fT, fs⟩ := ih
    refine ⟨fun i => if i ≤ T.length then f i else s', by simp [f0], by rw [List.length_append]; exact if_neg (by simp), fun i u hu => ?_⟩
    by_cases hi : i < T.length
    · rw [List.getElem?_append_left hi] at hu
      have := fs i u hu
      show TStep (if i ≤ T.length then f i else s') u (if i + 1 ≤ T.length then f (i + 1) else s')
      rw [if_pos (by omega), if_pos (by omega)]
      exact this
    · have hi2 := (List.getElem?_eq_some_iff.mp hu).1
      rw [List.length_append, List.length_singleton] at hi2
      have e : i = T.length := by omega
      subst e
      rw [List.getElem?_append_right (Nat.le_refl _), Nat.sub_self] at hu
      have e2 : t = u := by simpa using hu
      subst e2
      show TStep (if T.length ≤ T.length then f T.length else s') t (if T.length + 1 ≤ T.length then f (T.length + 1) else s')
      rw [if_pos (Nat.le_refl _), if_neg (by omega), fT]
      exact h
theorem scn_cons (c : Nat) (r : List Nat) (s : Sc) : scn (c :: r) s = (stp s c).bind (scn r) := rfl
theorem scn_sp : ∀ (g : Nat) (m run o : Nat) (r : Bool), scn (List.replicate g 32) ⟨m, run, o, r⟩ = some ⟨m, if g = 0 then run else 0, o, r⟩
  | 0, m, run, o, r => rfl
  | g + 1, m, run, o, r => by
    rw [List.replicate_succ, scn_cons, stp_no (by decide), if_neg (by decide), if_neg (by decide), if_neg (by decide), if_pos rfl]
    show scn (List.replicate g 32) ⟨m, 0, o, r⟩ = _
    rw [scn_sp g m 0 o r, if_neg (Nat.succ_ne_zero g)]
    split <;> rfl
theorem scn_az : ∀ (l : List Nat) (m k o : Nat), (∀ c ∈ l, az c) → 0 < k → k + l.length ≤ 8 → m ≤ 12 → scn l ⟨m, k, o, true⟩ = some ⟨m, k + l.length, o, true⟩
  | [], m, k, o, _, _, _, _ => rfl
  | c :: l, m, k, o, h, h0, h8, hm => by
    rw [List.length_cons] at h8
    have e : inc ⟨m, k, o, true⟩ = 0 := inc0 (by show k ≠ 0; omega)
    rw [scn_cons, stp_az (h c (List.mem_cons_self ..)), e, if_neg (by show ¬ (k + 1 > 8 ∨ m + 0 > 12); omega)]
    show scn l ⟨m, k + 1, o, true⟩ = _
    rw [scn_az l m (k + 1) o (fun x hx => h x (List.mem_cons_of_mem _ hx)) (by omega) (by omega) hm, List.length_cons]
    congr 2
    omega
theorem scn_word {w : List Nat} {m o : Nat} {r : Bool} (h : wOk w) (hm : m + 1 ≤ 12) : scn w ⟨m, 0, o, r⟩ = some ⟨m + 1, w.length, o, true⟩ := by
  obtain ⟨h1, h2, h3⟩ := h
  cases w with
  | nil => exact absurd rfl h1
  | cons c l =>
    rw [List.length_cons] at h2 ⊢
    have e : inc ⟨m, 0, o, r⟩ = 1 := inc1 rfl
    rw [scn_cons, stp_az (h3 c (List.mem_cons_self ..)), e, if_neg (by show ¬ (0 + 1 > 8 ∨ m + 1 > 12); omega)]
    show scn l ⟨m + 1, 1, o, true⟩ = _
    rw [scn_az l (m + 1) 1 o (fun x hx => h3 x (List.mem_cons_of_mem _ hx)) (by decide) (by omega) hm]
    congr 2
    omega
theorem scn_tok {s s' : Tk} {t : List Nat} {run : Nat} (h : TStep s t s') (hr : isW t = true → run = 0) : scn t ⟨s.many, run, s.opn, s.rdy⟩ = some ⟨s'.many, if isW t = true then t.length else 0, s'.opn, s'.rdy⟩ := by
  cases h with
  | opn h =>
    rw [scn_cons, stp_no (by decide), if_pos rfl, if_neg (by show ¬ (s.opn + 1 > 8); omega)]
    rfl
  | cls h =>
    rw [scn_cons, stp_no (by decide), if_neg (by decide), if_pos rfl, if_neg (show ¬ s.opn = 0 from h)]
    rfl
  | bar =>
    rw [scn_cons, stp_no (by decide), if_neg (by decide), if_neg (by decide), if_pos rfl]
    rfl
  | @sgn c hc hrd =>
    have hz : ¬ az c := by omega
    rw [scn_cons, stp_no hz, if_neg (by omega), if_neg (by omega), if_neg (by omega), if_neg (by omega), if_pos ⟨hc, hrd⟩]
    have e : isW [c] = false := by simp [isW, hz]
    rw [e]
    rfl
  | wrd hw hm =>
    have e : isW t = true := isW_word hw.2.2 hw.1
    rw [hr e, scn_word hw hm, e]
    rfl
theorem TStep.isW {s s' : Tk} {t : List Nat} (h : TStep s t s') : decide (t ≠ [40] ∧ t ≠ [41] ∧ t ≠ [124] ∧ t ≠ [42] ∧ t ≠ [43] ∧ t ≠ [63]) = NF.isW t := by
  cases h with
  | opn h => rfl
  | cls h => rfl
  | bar => rfl
  | @sgn c hc hrd => rcases hc with rfl | rfl | rfl <;> rfl
  | wrd hw hm =>
    rw [isW_word hw.2.2 hw.1]
    have n : ∀ k, ¬ az k → t ≠ [k] := fun k hk e => hk (hw.2.2 k (by rw [e]; simp))
    exact decide_eq_true ⟨n 40 (by decide), n 41 (by decide), n 124 (by decide), n 42 (by decide), n 43 (by decide), n 63 (by decide)⟩
theorem TStep.len {s s' : Tk} {t : List Nat} (h : TStep s t s') : t.length ≤ 8 := by
  cases h with
  | wrd hw hm => exact hw.2.1
  | sgn _ _ => exact (by decide : (1 : Nat) ≤ 8)
  | _ => decide
theorem tl_spn (n : Int) : tl (Txt.mul (Str.ofString " ") n) = List.replicate n.toNat 32 := by rw [tl_mul, tl_sp]; exact flat_one 32 _
theorem len_spn (n : Int) : (Txt.mul (Str.ofString " ") n).length = n.toNat := by rw [len_tl, tl_spn, List.length_replicate]
theorem tkn_inj {t t' : List Nat} (h : [tkn t] = [tkn t']) : t = t' := by
  have h2 : tkn t = tkn t' := by simpa using h
  have h3 : tl (mkS t) = tl (mkS t') := by rw [V.str.inj h2]
  exact h3
def spWrit : Sp := fun vs H Q _ => ∃ (a p : Addr) (A : List Addr) (M : List (Addr × HO)) (T : List (List Nat)) (s : Tk), vs = [.ref a, .ref p] ∧ In BxD a A M ∧ Own H H M [] ∧ H p = some (.lst (T.map tkn)) ∧ p ∉ A ∧ TRun T s ∧ s.opn = 0 ∧ T.length ≤ 60 ∧
  ∀ H' M' z, In BxD a A M' → Own H H' M' [] → fl (tl z) 0 s0 = none → z.length ≤ 1000 → Q (.str z) H'
theorem hl_spWrit : ∀ vs H Q E, spWrit vs H Q E → vs.length = 2 := fun vs H Q E ⟨_, _, _, _, _, _, e, _⟩ => by rw [e]; rfl
abbrev NM_law_written : List Str := ["box", "tokens", "wide", "written", "k", "gap"]
theorem sc_law_written : FnScope NM_law_written ["box", "tokens"] (defScope s_law_written) := ⟨rfl, rfl, rfl, by decide +kernel, rfl, by decide +kernel, by decide +kernel⟩
theorem d_law_written (F : Fn0 K mg "_law_written" s_law_written) (T : Txt P K mg) (D_law_draw : Def P w K mg base 2 "_law_draw" ["box", "size"] spDraw) (D_law_is_word : Def P w K mg base 1 "_law_is_word" ["token"] spIsW) :
    Def P w K mg base 3 "_law_written" ["box", "tokens"] spWrit := by
  refine Def.mk0 F sc_law_written (by first | exact NF.hl_spB | exact NF.hl_spP | exact NF.hl_spNew | exact NF.hl_spPX | exact NF.hl_spN | exact NF.hl_spNX | exact hl_spWrit) (fun _ _ _ _ _ _ us hl => match us, hl with | [_, _], _ => rfl) (fun cdv A outer s H vs Q E hr h => ?_)
  refine ⟨_, (pss_cons (ps_set (i := 2) sc_law_written.nd rfl (Or.inl rfl) (pe_d D_law_draw (hr.mono (by decide)) rfl (pa_cons (pv 0) (pa_cons pe_int pa_nil))))
      (pss_cons (ps_set (i := 3) sc_law_written.nd rfl (Or.inl rfl) (pe_op opMulS pe_str (pe_op op_mul (pv 2) (pe_d D_law_draw (hr.mono (by decide)) rfl (pa_cons (pv 0) (pa_cons pe_int pa_nil))))))
      (pss_cons (ps_for PassesOwn.never rfl (pi_range1 (by rfl) T.b_range (pa_cons (pe_callB (id := "len") callLen (by rfl) T.b_len (by decide +kernel) (pa_cons (pv 1) pa_nil)) pa_nil)) (pg_name (i := 4) sc_law_written.nd rfl (Or.inl rfl))
      (pss_cons (ps_set (i := 5) sc_law_written.nd rfl (Or.inl rfl) (pe_op op_mul (pv 2) (pe_d D_law_draw (hr.mono (by decide)) rfl (pa_cons (pv 0) (pa_cons pe_int pa_nil)))))
      (Evl.pss_cut (ps_if (PW.pt (pw_and (pt_cmpR op_gt (pv 4) pe_int (nomark _)) (pw_and (pt_cmpR op_eq (pv 5) pe_int (nomark _)) (pw_and (pt_val (pe_d D_law_is_word (hr.mono (by decide)) rfl (pa_cons (pe_ix ix_list (pv 1) (pv 4) (fun _ _ => rfl)) pa_nil))) (pw_and1 (pt_val (pe_d D_law_is_word (hr.mono (by decide)) rfl (pa_cons (pe_ix ix_list (pv 1) (pe_op op_sub (pv 4) pe_int) (fun _ _ => rfl)) pa_nil))))))))
      (pss_one (ps_set (i := 5) sc_law_written.nd rfl (Or.inl rfl) pe_int))
      pss_nil)
      (pss_one (ps_set (i := 3) sc_law_written.nd rfl (Or.inl rfl) (pe_op opAddS (pe_op opAddS (pv 3) (pe_op opMulS pe_str (pv 5))) (pe_ix ix_list (pv 1) (pv 4) (fun _ _ => rfl))))))))
      (pss_one (ps_ret (pe_op opAddS (pv 3) (pe_op opMulS pe_str (pe_op op_mul (pv 2) (pe_d D_law_draw (hr.mono (by decide)) rfl (pa_cons (pv 0) (pa_cons pe_int pa_nil))))))))))), ?_⟩
  try dsimp only [cxOf, Cx.nox, Cx.wish]
  obtain ⟨a, p, A, M, T, s, rfl, hB, O, hp, hpA, hT, ho, hl, k⟩ := h
  obtain ⟨f, f0, fT, fs⟩ := hT.seq
  have hpH : ∀ (H' : Hp) (M' : List (Addr × HO)), In BxD a A M' → Own H H' M' [] → H' p = some (.lst (T.map tkn)) := fun H' M' hB O => O.out p (by rw [List.append_nil, hB.e]; exact hpA) _ hp
  walk_at "gw"
  refine x_draw O hB (by decide) (by decide) fun wide H1 M1 w0 w1 hB O => ?_
  walk_at "gw"
  refine x_draw O hB (by decide) (by decide) fun d H1 M1 d0 d1 hB O => ?_
  walk_at "gw"
  have mul2 : ∀ d : Int, 0 ≤ d → d < 2 → 0 ≤ wide * d ∧ wide * d ≤ 2 := fun d h0 h1 => by
    rcases (by omega : d = 0 ∨ d = 1) with rfl | rfl
    · rw [Int.mul_zero]; omega
    · rw [Int.mul_one]; omega
  have hsp1 : (Str.ofString " ").length = 1 := len_sp
  obtain ⟨g0, hg0⟩ : ∃ g, g = wide * d := ⟨_, rfl⟩
  have hg := mul2 d d0 d1
  rw [← hg0] at hg ⊢
  refine NF.x_mulS (by omega) (by omega) (by omega) (by rw [hsp1, sizeLine_eq]; omega) ?_
  walk_at "gw"
  refine NF.x_lenL (hpH _ _ hB O) ?_
  walk_at "gw"
  have hTl : (T.map tkn).length = T.length := List.length_map ..
  refine NF.f_rng1 ⟨by omega, by omega⟩ (fun i σ H' => ∃ (u4 u5 : Option V) (z : Str) (run : Nat) (M' : List (Addr × HO)), σ = [some (.ref a), some (.ref p), some (.int wide), some (.str z), u4, u5] ∧ In BxD a A M' ∧ Own H H' M' [] ∧ scn (tl z) s0 = some ⟨(f i).many, run, (f i).opn, (f i).rdy⟩ ∧
    (run ≠ 0 → ∃ (j : Nat) (t : List Nat), i = j + 1 ∧ T[j]? = some t ∧ isW t = true) ∧ z.length ≤ 2 + 11 * i) ⟨_, _, _, 0, _, rfl, hB, O, ?_, fun h => absurd rfl h, by rw [len_spn]; omega⟩ ?_ ?_
  · rw [tl_spn, f0]
    exact (scn_sp g0.toNat 0 0 0 false).trans (by split <;> rfl)
  · rintro i _ H2 hi ⟨u4, u5, z, run, M2, rfl, hB, O, hs, hrn, hzl⟩
    have hiT : i < T.length := by omega
    obtain ⟨t, ht⟩ : ∃ t, T[i]? = some t := ⟨_, List.getElem?_eq_getElem hiT⟩
    have hts := fs i t ht
    have htl := hts.len
    have hm : (T.map tkn)[i]? = some (tkn t) := by rw [List.getElem?_map, ht]; rfl
    walk_at "gw"
    refine x_draw O hB (by decide) (by decide) fun d H1 M1 d0 d1 hB O => ?_
    have hpH1 := hpH _ _ hB O
    walk_at "gw"
    obtain ⟨g, hgd⟩ : ∃ g, g = wide * d := ⟨_, rfl⟩
    have hg := mul2 d d0 d1
    rw [← hgd] at hg ⊢
    refine NF.x_cut (fun σ H' => ∃ (g : Int), σ = [some (.ref a), some (.ref p), some (.int wide), some (.str z), some (.int i), some (.int g)] ∧ Own H H' M1 [] ∧ 0 ≤ g ∧ g ≤ 2 ∧ (isW t = true → g = 0 → run = 0)) ?_ ?_
    · walk_at "gw"
      have leaf : ∀ (H4 : Hp), Own H H4 M1 [] → (isW t = true → g = 0 → run = 0) → ∃ (g2 : Int), ([some (.ref a), some (.ref p), some (.int wide), some (.str z), some (.int i), some (.int g)] : List (Option V)) = [some (.ref a), some (.ref p), some (.int wide), some (.str z), some (.int i), some (.int g2)] ∧ Own H H4 M1 [] ∧ 0 ≤ g2 ∧ g2 ≤ 2 ∧ (isW t = true → g2 = 0 → run = 0) := fun H4 O c => ⟨g, rfl, O, hg.1, hg.2, c⟩
      have run0 : (∀ (j : Nat) (t : List Nat), i = j + 1 → T[j]? = some t → isW t = true → False) → run = 0 := fun h => by
        by_cases e : run = 0
        · exact e
        · obtain ⟨j, t2, e1, e2, e3⟩ := hrn e
          exact (h j t2 e1 e2 e3).elim
      refine NF.x_ite (fun h1 => ?_) (fun h1 => x_fal ?_)
      rotate_left
      · walk_at "gw"
        exact leaf _ O fun _ _ => run0 fun j _ e _ _ => by omega
      walk_at "gw"
      refine NF.x_iteI (fun h2 => ?_) (fun h2 => x_fal ?_)
      rotate_left
      · walk_at "gw"
        exact leaf _ O fun _ h => absurd h h2
      walk_at "gw"
      obtain ⟨j, rfl⟩ : ∃ j, i = j + 1 := ⟨i - 1, by omega⟩
      obtain ⟨t2, ht2⟩ : ∃ t, T[j]? = some t := ⟨_, List.getElem?_eq_getElem (by omega)⟩
      have hm2 : (T.map tkn)[j]? = some (tkn t2) := by rw [List.getElem?_map, ht2]; rfl
      refine NF.use_spP (E := E0) O rfl ⟨t, rfl⟩ fun v H3 O ⟨t3, e3, ev⟩ => ?_
      obtain rfl : t = t3 := tkn_inj e3
      subst ev
      rw [hts.isW]
      have hpH1 := hpH _ _ hB O
      walk_at "gw"
      refine NF.x_itb (fun h3 => ?_) (fun h3 => x_fal ?_)
      rotate_left
      · walk_at "gw"
        exact leaf _ O fun h _ => by rw [h3] at h; cases h
      walk_at "gw"
      refine NF.x_ixL hpH1 (by rw [show ((j + 1 : Nat) : Int) - 1 = (j : Nat) by omega]; exact L2.atI_nat hm2) ?_
      walk_at "gw"
      refine NF.use_spP (E := E0) O rfl ⟨t2, rfl⟩ fun v H3 O ⟨t3, e3, ev⟩ => ?_
      obtain rfl : t2 = t3 := tkn_inj e3
      subst ev
      rw [(fs j t2 ht2).isW]
      walk_at "gw"
      refine NF.x_itb (fun h4 => ?_) (fun h4 => ?_)
      · walk_at "gw"
        exact ⟨1, rfl, O, by decide, by decide, fun _ h => absurd h (by decide)⟩
      · walk_at "gw"
        refine leaf _ O fun _ _ => run0 fun j' t' e1 e2 e4 => ?_
        obtain rfl : j = j' := by omega
        rw [ht2] at e2
        cases e2
        rw [h4] at e4
        cases e4
    · rintro _ H3 ⟨g, rfl, O, h0, h2, hgr⟩
      have hpH1 := hpH _ _ hB O
      walk_at "gw"
      refine NF.x_mulS (by omega) (by omega) (by omega) (by rw [hsp1, sizeLine_eq]; omega) ?_
      have hl2 := len_spn g
      have hl3 := len_mk t
      walk_at "gw"
      refine ⟨_, _, z ++ Txt.mul (Str.ofString " ") g ++ mkS t, if isW t = true then t.length else 0, M1, rfl, hB, O, ?_, fun h => ⟨i, t, rfl, ht, ?_⟩, by rw [len_app, len_app]; omega⟩
      · rw [tl_append, tl_append, scn_append, scn_append, hs, tl_spn]
        show ((scn _ _).bind _) = _
        rw [scn_sp]
        show scn t _ = _
        refine scn_tok hts fun hw => ?_
        split
        · rename_i h
          exact hgr hw (by omega)
        · rfl
      · by_cases e : isW t = true
        · exact e
        · rw [if_neg e] at h
          exact absurd rfl h
  · rintro _ H2 ⟨u4, u5, z, run, M2, rfl, hB, O, hs, hrn, hzl⟩
    walk_at "gw"
    refine x_draw O hB (by decide) (by decide) fun d H1 M1 d0 d1 hB O => ?_
    walk_at "gw"
    obtain ⟨g, hgd⟩ : ∃ g, g = wide * d := ⟨_, rfl⟩
    have hg := mul2 d d0 d1
    rw [← hgd] at hg ⊢
    refine NF.x_mulS (by omega) (by omega) (by omega) (by rw [hsp1, sizeLine_eq]; omega) ?_
    have hl2 := len_spn g
    refine NF.x_addS (by rw [sizeLine_eq]; omega) ?_
    have e0 : (((T.map tkn).length : Int)).toNat = T.length := by omega
    rw [e0] at hs hzl
    rw [fT, ho] at hs
    refine k _ _ _ hB O ?_ (by rw [len_app]; omega)
    have h2 : scn (tl (z ++ Txt.mul (Str.ofString " ") g)) s0 = some ⟨s.many, if g.toNat = 0 then run else 0, 0, s.rdy⟩ := by
      rw [tl_append, scn_append, hs, tl_spn]
      exact scn_sp _ _ _ _ _
    rw [fl_end h2]
    rfl


def spChar : Sp := spTx 0 (fun _ => True) (fun _ z => ∃ c, z = ⟨#[c]⟩)
abbrev NM_law_char : List Str := ["box", "chars"]
theorem sc_law_char : FnScope NM_law_char ["box"] (defScope s_law_char) := ⟨rfl, rfl, rfl, by decide +kernel, rfl, by decide +kernel, by decide +kernel⟩
theorem d_law_char (F : Fn0 K mg "_law_char" s_law_char) (T : Txt P K mg) (D_law_draw : Def P w K mg base 2 "_law_draw" ["box", "size"] spDraw) :
    Def P w K mg base 3 "_law_char" ["box"] spChar := by
  refine Def.mk0 F sc_law_char (by first | exact NF.hl_spB | exact NF.hl_spP | exact NF.hl_spNew | exact NF.hl_spPX | exact NF.hl_spN | exact NF.hl_spNX | exact hl_spChar) (fun _ _ _ _ _ _ us hl => match us, hl with | [_], _ => rfl) (fun cdv A outer s H vs Q E hr h => ?_)
  refine ⟨_, (pss_cons (ps_if (pt_cmpR op_eq (pe_d D_law_draw (hr.mono (by decide)) rfl (pa_cons (pv 0) (pa_cons pe_int pa_nil))) pe_int (nomark _))
      (pss_one (ps_ret (pe_ix ix_str pe_str (pe_d D_law_draw (hr.mono (by decide)) rfl (pa_cons (pv 0) (pa_cons pe_int pa_nil))) (fun _ _ => rfl))))
      pss_nil)
      (pss_cons (ps_set (i := 1) sc_law_char.nd rfl (Or.inl rfl) pe_str)
      (pss_cons (ps_set (i := 1) sc_law_char.nd rfl (Or.inl rfl) (pe_op opAddS (pv 1) pe_str))
      (pss_one (ps_ret (pe_ix ix_str (pv 1) (pe_d D_law_draw (hr.mono (by decide)) rfl (pa_cons (pv 0) (pa_cons pe_int pa_nil))) (fun _ _ => rfl))))))), ?_⟩
  try dsimp only [cxOf, Cx.nox, Cx.wish]
  obtain ⟨a, A, M, rest, rfl, hl, hB, O, _, k⟩ := h
  obtain rfl := List.length_eq_zero_iff.mp hl
  walk_at "go"
  refine x_draw O hB (by decide) (by decide) fun d H1 M1 d0 d1 hB O => ?_
  walk_at "go"
  refine NF.x_iteI (fun h0 => ?_) (fun h0 => ?_)
  · walk_at "go"
    refine x_draw O hB (by decide) (by decide) fun d H2 M2 d0 d1 hB O => ?_
    walk_at "go"
    refine NF.x_ixSo d0 (by rw [show (Str.ofString "az ()|*+?  ").length = 11 by decide +kernel]; exact d1) (by decide +kernel) fun c _ hc hm => ?_
    exact k _ _ _ hB O ⟨_, rfl, c, rfl⟩
  · walk_at "go"
    refine x_draw O hB (by decide) (by decide) fun d H2 M2 d0 d1 hB O => ?_
    walk_at "go"
    refine NF.x_ixSo d0 (by rw [len_app, show (Str.ofString " !\"#$&'()*+,-./0123456789:;<=>?@ABCDEFGHIJKLMNOPQRSTUVWXYZ[\\]^_`").length = 64 by decide +kernel, show (Str.ofString "abcdefghijklmnopqrstuvwxyz{|}~\n\t").length = 32 by decide +kernel]; omega) (by decide +kernel) fun c _ hc hm => ?_
    exact k _ _ _ hB O ⟨_, rfl, c, rfl⟩

def spChanged : Sp := spTx 1 (fun r => ∃ z, r = [.str z] ∧ z.length ≤ 20000) (fun r z' => ∃ z, r = [.str z] ∧ z'.length ≤ 2 * z.length + 120)
abbrev NM_law_changed : List Str := ["box", "written", "place", "way", "stretch", "tokens"]
theorem sc_law_changed : FnScope NM_law_changed ["box", "written"] (defScope s_law_changed) := ⟨rfl, rfl, rfl, by decide +kernel, rfl, by decide +kernel, by decide +kernel⟩
theorem d_law_changed (F : Fn0 K mg "_law_changed" s_law_changed) (T : Txt P K mg) (D_law_draw : Def P w K mg base 2 "_law_draw" ["box", "size"] spDraw) (D_law_word : Def P w K mg base 3 "_law_word" ["box"] spWord) (D_law_char : Def P w K mg base 3 "_law_char" ["box"] spChar) :
    Def P w K mg base 4 "_law_changed" ["box", "written"] spChanged := by
  refine Def.mk0 F sc_law_changed (by first | exact NF.hl_spB | exact NF.hl_spP | exact NF.hl_spNew | exact NF.hl_spPX | exact NF.hl_spN | exact NF.hl_spNX | exact hl_spChanged) (fun _ _ _ _ _ _ us hl => match us, hl with | [_, _], _ => rfl) (fun cdv A outer s H vs Q E hr h => ?_)
  refine ⟨_, (pss_cons (ps_set (i := 2) sc_law_changed.nd rfl (Or.inl rfl) (pe_d D_law_draw (hr.mono (by decide)) rfl (pa_cons (pv 0) (pa_cons (pe_op op_add (pe_callB (id := "len") callLen (by rfl) T.b_len (by decide +kernel) (pa_cons (pv 1) pa_nil)) pe_int) pa_nil))))
      (pss_cons (ps_set (i := 3) sc_law_changed.nd rfl (Or.inl rfl) (pe_d D_law_draw (hr.mono (by decide)) rfl (pa_cons (pv 0) (pa_cons pe_int pa_nil))))
      (pss_cons (ps_if (pt_cmpR op_lt (pv 3) pe_int (nomark _))
      (pss_one (ps_ret (pe_op opAddS (pe_op opAddS (pe_slice sl_str (pv 1) po_none (po_some (pv 2))) (pe_d D_law_char (hr.mono (by decide)) rfl (pa_cons (pv 0) pa_nil))) (pe_slice sl_str (pv 1) (po_some (pv 2)) po_none))))
      pss_nil)
      (pss_cons (ps_if (pt_cmpR op_eq (pv 3) pe_int (nomark _))
      (pss_one (ps_ret (pe_op opAddS (pe_slice sl_str (pv 1) po_none (po_some (pv 2))) (pe_slice sl_str (pv 1) (po_some (pe_op op_add (pv 2) pe_int)) po_none))))
      pss_nil)
      (pss_cons (ps_if (pt_cmpR op_lt (pv 3) pe_int (nomark _))
      (pss_one (ps_ret (pe_op opAddS (pe_op opAddS (pe_slice sl_str (pv 1) po_none (po_some (pv 2))) (pe_d D_law_char (hr.mono (by decide)) rfl (pa_cons (pv 0) pa_nil))) (pe_slice sl_str (pv 1) (po_some (pe_op op_add (pv 2) pe_int)) po_none))))
      pss_nil)
      (pss_cons (ps_if (pt_cmpR op_eq (pv 3) pe_int (nomark _))
      (pss_cons (ps_set (i := 4) sc_law_changed.nd rfl (Or.inl rfl) (pe_op opMulS (pe_ix ix_list (pe_lst (pa_cons pe_str (pa_cons pe_str (pa_cons pe_str (pa_cons pe_str (pa_cons pe_str (pa_cons pe_str (pa_cons pe_str (pa_cons pe_str pa_nil))))))))) (pe_d D_law_draw (hr.mono (by decide)) rfl (pa_cons (pv 0) (pa_cons pe_int pa_nil))) (fun _ _ => rfl)) pe_int))
      (pss_one (ps_ret (pe_op opAddS (pe_op opAddS (pe_slice sl_str (pv 1) po_none (po_some (pv 2))) (pv 4)) (pe_slice sl_str (pv 1) (po_some (pv 2)) po_none)))))
      pss_nil)
      (pss_cons (ps_set (i := 5) sc_law_changed.nd rfl (Or.inl rfl) (pe_lst (pa_cons pe_str (pa_cons pe_str (pa_cons (pe_op opAddS (pe_op opAddS pe_str (pe_d D_law_word (hr.mono (by decide)) rfl (pa_cons (pv 0) pa_nil))) pe_str) (pa_cons (pe_op opAddS (pe_d D_law_word (hr.mono (by decide)) rfl (pa_cons (pv 0) pa_nil)) pe_str) (pa_cons pe_str (pa_cons pe_str (pa_cons pe_str (pa_cons pe_str (pa_cons pe_str (pa_cons pe_str pa_nil))))))))))))
      (pss_one (ps_ret (pe_op opAddS (pe_op opAddS (pe_slice sl_str (pv 1) po_none (po_some (pv 2))) (pe_ix ix_list (pv 5) (pe_d D_law_draw (hr.mono (by decide)) rfl (pa_cons (pv 0) (pa_cons pe_int pa_nil))) (fun _ _ => rfl))) (pe_slice sl_str (pv 1) (po_some (pv 2)) po_none))))))))))), ?_⟩
  try dsimp only [cxOf, Cx.nox, Cx.wish]
  obtain ⟨a, A, M, rest, rfl, hl, hB, O, ⟨z, rfl, hz⟩, k⟩ := h
  walk_at "gw"
  refine x_draw O hB (by omega) (by omega) fun pl H1 M1 p0 p1 hB O => ?_
  walk_at "gw"
  refine x_draw O hB (by decide) (by decide) fun way H1 M1 w0 w1 hB O => ?_
  have c1 := len_cut z none (some pl)
  have c2 := len_cut z (some (pl + 1)) none
  have c3 := len_cut z (some pl) none
  have fin : ∀ (H1 : Hp) (M1 R : List (Addr × HO)) (z' : Str), In BxD a A M1 → Own H H1 M1 R → (∀ x ∈ R, H x.1 = none) → z'.length ≤ 2 * z.length + 120 → Q (.str z') H1 := fun H1 M1 R z' hB O hR h => k _ _ _ hB (O.drop hR) ⟨_, rfl, z, rfl, h⟩
  have no : ∀ x ∈ ([] : List (Addr × HO)), H x.1 = none := fun x hx => absurd hx List.not_mem_nil
  walk_at "gw"
  refine NF.x_ite (fun h0 => ?_) (fun h0 => ?_)
  · walk_at "gw"
    refine x_tx (E := E0) (rest := []) O hB rfl trivial fun z1 H1 M1 ⟨c, ec⟩ hB O => ?_
    subst ec
    walk_at "gw"
    exact fin _ _ _ _ hB O no (by simp only [len_app, len_ch]; omega)
  walk_at "gw"
  refine NF.x_iteI (fun h0 => ?_) (fun h0 => ?_)
  · walk_at "gw"
    exact fin _ _ _ _ hB O no (by simp only [len_app]; omega)
  walk_at "gw"
  refine NF.x_ite (fun h0 => ?_) (fun h0 => ?_)
  · walk_at "gw"
    refine x_tx (E := E0) (rest := []) O hB rfl trivial fun z1 H1 M1 ⟨c, ec⟩ hB O => ?_
    subst ec
    walk_at "gw"
    exact fin _ _ _ _ hB O no (by simp only [len_app, len_ch]; omega)
  walk_at "gw"
  refine NF.x_iteI (fun h0 => ?_) (fun h0 => ?_)
  · walk_at "gw"
    refine NF.x_newL O (by decide +kernel) fun q0 H4 hq0 O => ?_
    walk_at "gw"
    refine x_draw O hB (by decide) (by decide) fun d H2 M2 d0 d1 hB O => ?_
    walk_at "gw"
    refine NF.x_ixLo O.last d0 (by exact d1) fun v hv hm => ?_
    obtain ⟨y, rfl, hy⟩ : ∃ y : Str, v = .str y ∧ y.length ≤ 2 := by
      simp only [List.mem_cons, List.not_mem_nil, or_false] at hm
      rcases hm with rfl | rfl | rfl | rfl | rfl | rfl | rfl | rfl <;> exact ⟨_, rfl, by decide +kernel⟩
    clear hm hv
    have lm := len_mul y 60
    simp only [Int.reduceToNat] at lm
    walk_at "gw"
    refine NF.x_mulS (by omega) (by decide) (by decide) (by rw [sizeLine_eq]; simp only [Int.reduceToNat]; omega) ?_
    walk_at "gw"
    exact fin _ _ _ _ hB O (fresh1 hq0) (by simp only [len_app]; omega)
  walk_at "gw"
  refine x_tx (E := E0) (rest := []) O hB rfl trivial fun z1 H1 M1 ⟨w1, e1, _, l1, _⟩ hB O => ?_
  subst e1
  have m1 := len_mk w1
  have s1 := len_sp
  walk_at "gw"
  refine x_tx (E := E0) (rest := []) O hB rfl trivial fun z1 H1 M1 ⟨w2, e1, _, l2, _⟩ hB O => ?_
  subst e1
  have m2 := len_mk w2
  have s2 : (Str.ofString "b").length = 1 := by decide +kernel
  walk_at "gw"
  refine NF.x_newL O (by walk_at "len") fun q0 H4 hq0 O => ?_
  walk_at "gw"
  refine x_draw O hB (by decide) (by decide) fun d H2 M2 d0 d1 hB O => ?_
  walk_at "gw"
  refine NF.x_ixLo O.last d0 (by exact d1) fun v hv hm => ?_
  obtain ⟨y, rfl, hy⟩ : ∃ y : Str, v = .str y ∧ y.length ≤ 10 := by
    simp only [List.mem_cons, List.not_mem_nil, or_false] at hm
    rcases hm with rfl | rfl | rfl | rfl | rfl | rfl | rfl | rfl | rfl | rfl <;> exact ⟨_, rfl, by first | decide +kernel | (simp only [len_app]; omega)⟩
  clear hm hv
  walk_at "gw"
  exact fin _ _ _ _ hB O (fresh1 hq0) (by simp only [len_app]; omega)


def spLaw (K : PySem.W.Frag) : Sp := fun vs H Q _ => ∃ (a : Addr) (ns : List Int), vs = [.ref a] ∧ SqL K H a (ns.map V.int) ∧ ns.length ≤ 63 ∧ ∀ H', Q (.bl true) H'
theorem hl_spLaw {K : PySem.W.Frag} : ∀ vs H Q E, spLaw K vs H Q E → vs.length = 1 := fun vs H Q E h => by
  obtain ⟨a, ns, rfl, _⟩ := h
  rfl
theorem own_row {B H H' : Hp} {M R : List (Addr × HO)} {x y t y' : Addr × HO} (O : Own B H M (R ++ [x] ++ [y])) (C : Own H H' [y'] [t]) (e : y'.1 = y.1) (ht : H t.1 = none) : Own B H' M (R ++ [x] ++ [t] ++ [y']) := by
  have O1 : Own B H [] ((M ++ (R ++ [x])) ++ [y]) := O.toOpen (by rw [List.append_assoc M])
  have O2 := (O1.close).call C (by simp [e]) (fun z hz => by rw [List.mem_singleton.mp hz]; exact ht)
  refine Own.close (O2.toOpen (R' := (R ++ [x] ++ [t] ++ [y']) ++ M) ?_)
  refine (List.perm_append_comm (l₁ := [y'])).trans ?_
  have e2 : M ++ (R ++ [x]) ++ [t] ++ [y'] = M ++ (R ++ [x] ++ [t] ++ [y']) := by simp only [List.append_assoc]
  rw [e2]
  exact List.perm_append_comm
theorem row_words {B H : Hp} {M R : List (Addr × HO)} {z : Str} {Q : VK} {σ : L2.St} (O : Own B H M R) (hz : z.length ≤ 1000000) (hf : fl (tl z) 0 s0 = none) (hσ : σ[2]? = some (some (.str z)))
    (q : ∀ tw H' R', (∀ x ∈ R, x ∈ R') → Own B H' M R' → (tw, HO.tup ((runsOf (tl z)).map tkn)) ∈ R' → Q (.ref tw) H') :
    tProp (cad mg "Row") (getSp (cad mg "Row") "_words") [] E0 (tMakeX (cad mg "Row") (spRow mg) (fun _ _ _ _ => False) (tCons (tVar 2) tNil)) σ H Q := by
  refine x_propE ?_
  refine x_makeX ?_
  refine NF.x_cons ?_
  refine NF.x_var hσ ?_
  refine NF.x_nil ?_
  intro a dx ha hdx hne
  have O1 := (O.new (o := .own a) hdx).new (p := a) (o := .ins (cad mg "Row") dx []) (by rw [upd_ne hne.symm]; exact ha)
  refine ⟨a, dx, z, rfl, hz, upd_same, fun H2 tw fs hfl hlk htw O2 => ⟨rfl, ?_⟩, fun kk d H2 hfl O2 hd hfd => ?_⟩
  · have O := own_row O1 O2 rfl htw
    exact x_getSp (O.mem (x := (a, .ins (cad mg "Row") dx fs)) (by simp)) hlk (q tw H2 _ (fun x hx => by simp [hx]) O (by simp))
  · rw [hf] at hfl
    cases hfl
abbrev NM_law : List Str := ["script", "box", "good", "asked", "written", "k"]
theorem sc_law : FnScope NM_law ["script"] (defScope s_law) := ⟨rfl, rfl, rfl, by decide +kernel, rfl, by decide +kernel, by decide +kernel⟩
theorem d_law {f : Addr} {fd : FuncData} (F : Fun K "law" "law" s_law f fd) (T : Txt P K mg) (D_law_box : Def P w K mg base 1 "_law_box" ["script"] (spBox K)) (D_law_written : Def P w K mg base 3 "_law_written" ["box", "tokens"] spWrit) (D_law_right_words : Def P w K mg base 1 "_law_right_words" ["told", "due"] spRight) (D_law_tokens : Def P w K mg base 4 "_law_tokens" ["box"] spToks) (D_law_changed : Def P w K mg base 4 "_law_changed" ["box", "written"] spChanged) (D_Row_words : PrX P w K mg base "Row" "words" "_words") (D_law_runs : Def P w K mg base 1 "_law_runs" ["written"] spRuns) (D_law_told : Def P w K mg base 7 "_law_told" ["written"] spTold) (D_Row : MkX P w K mg base 5 "Row" ["self", "expression"] (spRow mg)) (D_law_char : Def P w K mg base 3 "_law_char" ["box"] spChar) (D_law_draw : Def P w K mg base 2 "_law_draw" ["box", "size"] spDraw) :
    FnOk P w K mg base CX0 8 f fd ["script"] (spLaw K) := by
  refine F.ok sc_law (by first | exact NF.hl_spB | exact NF.hl_spP | exact NF.hl_spNew | exact NF.hl_spPX | exact NF.hl_spN | exact NF.hl_spNX | exact hl_spLaw) (fun cdv A outer s H vs Q E hr h => ?_)
  refine ⟨_, (pss_cons (ps_set (i := 1) sc_law.nd rfl (Or.inr rfl) (pe_d D_law_box (hr.mono (by decide)) rfl (pa_cons (pv 0) pa_nil)))
      (pss_cons (ps_set (i := 2) sc_law.nd rfl (Or.inr rfl) (pe_d D_law_written (hr.mono (by decide)) rfl (pa_cons (pv 1) (pa_cons (pe_d D_law_tokens (hr.mono (by decide)) rfl (pa_cons (pv 1) pa_nil)) pa_nil))))
      (pss_cons (ps_setLc (i := 3) (own := [("k", 5)]) (g := gName 5) (by rfl) sc_law.nd rfl rfl (sw_true rfl rfl rfl (by decide +kernel)) (pi_range1 (by rfl) T.b_range (pa_cons pe_int pa_nil)) (blkOk_by (own := [("k", 5)]) (N := NM_law) (sc := defScope s_law) (by decide +kernel)) (fun _ _ _ _ _ => pg_name (i := 5) sc_law.nd rfl (Or.inl rfl)) (fun _ _ _ _ _ => pts_nil) (fun _ _ _ _ _ => (pe_d D_law_changed (hr.mono (by decide)) rfl (pa_cons (pv 1) (pa_cons (pv 2) pa_nil)))))
      (pss_cons (ps_expr (pe_bm PySem.F.plainAttrs_list PySem.F.slot_list_append PySem.F.type_list_append mt_append (pv 3) (pa_cons (pe_d D_law_changed (hr.mono (by decide)) rfl (pa_cons (pv 1) (pa_cons (pe_ix ix_list (pv 3) pe_int (fun _ _ => rfl)) pa_nil))) pa_nil)))
      (pss_cons (ps_expr (pe_bm PySem.F.plainAttrs_list PySem.F.slot_list_append PySem.F.type_list_append mt_append (pv 3) (pa_cons (pe_bm PySem.F.plainAttrs_str PySem.F.slot_str_join PySem.F.type_str_join mtJoin pe_str (pa_cons (pe_lc (own := [("k", 5)]) (g := gName 5) rfl sc_law.nd (pi_range1 (by rfl) T.b_range (pa_cons (pe_d D_law_draw (hr.mono (by decide)) rfl (pa_cons (pv 1) (pa_cons pe_int pa_nil))) pa_nil)) (blkOk_by (own := [("k", 5)]) (N := NM_law) (sc := defScope s_law) (by decide +kernel)) (fun _ _ _ _ _ => pg_name (i := 5) sc_law.nd rfl (Or.inl rfl)) (fun _ _ _ _ _ => pts_nil) (fun _ _ _ _ _ => (pe_d D_law_char (hr.mono (by decide)) rfl (pa_cons (pv 1) pa_nil)))) pa_nil)) pa_nil)))
      (pss_cons (ps_expr (pe_bm PySem.F.plainAttrs_list PySem.F.slot_list_append PySem.F.type_list_append mt_append (pv 3) (pa_cons (pe_op opAddS (pv 2) (pe_ix ix_list (pe_lst (pa_cons pe_str (pa_cons pe_str (pa_cons pe_str (pa_cons pe_str (pa_cons pe_str pa_nil)))))) (pe_d D_law_draw (hr.mono (by decide)) rfl (pa_cons (pv 1) (pa_cons pe_int pa_nil))) (fun _ _ => rfl))) pa_nil)))
      (pss_cons (ps_expr (pe_bm PySem.F.plainAttrs_list PySem.F.slot_list_append PySem.F.type_list_append mt_append (pv 3) (pa_cons (pe_op opAddS (pe_ix ix_list (pe_lst (pa_cons pe_str (pa_cons pe_str (pa_cons pe_str pa_nil)))) (pe_d D_law_draw (hr.mono (by decide)) rfl (pa_cons (pv 1) (pa_cons pe_int pa_nil))) (fun _ _ => rfl)) (pv 2)) pa_nil)))
      (pss_cons (ps_if (pt_not (pt_val (pe_d D_law_right_words (hr.mono (by decide)) rfl (pa_cons (pe_prx D_Row_words rfl (hr.mono (by decide)) (pe_mkx D_Row rfl (hr.mono (by decide)) takesN0 (by rfl) (pa_cons (pv 2) pa_nil))) (pa_cons (pe_d D_law_runs (hr.mono (by decide)) rfl (pa_cons (pv 2) pa_nil)) pa_nil)))))
      (pss_one (ps_ret pe_bl))
      pss_nil)
      (pss_cons (ps_for PassesOwn.never rfl (pi_list (pv 3)) (pg_name (i := 4) sc_law.nd rfl (Or.inl rfl))
      (pss_one (ps_if (pt_not (pt_val (pe_d D_law_told (hr.mono (by decide)) rfl (pa_cons (pv 4) pa_nil))))
      (pss_one (ps_ret pe_bl))
      pss_nil)))
      (pss_one (ps_ret (pe_d D_law_right_words (hr.mono (by decide)) rfl (pa_cons (pe_prx D_Row_words rfl (hr.mono (by decide)) (pe_mkx D_Row rfl (hr.mono (by decide)) takesN0 (by rfl) (pa_cons (pv 2) pa_nil))) (pa_cons (pe_d D_law_runs (hr.mono (by decide)) rfl (pa_cons (pv 2) pa_nil)) pa_nil)))))))))))))), ?_⟩
  try dsimp only [cxOf, Cx.nox, Cx.wish]
  obtain ⟨sa, ns, rfl, hS, hns, k⟩ := h
  have O := NF.Own.refl0 H
  walk_at "gw"
  refine ⟨sa, ns, rfl, hS, hns, fun a A H1 M hB hO => ?_⟩
  have O := hO _ _ O
  walk_at "gw"
  refine ⟨a, A, M, rfl, hB, O.sub, fun ptk H2 M2 T s hB2 hptk O2 hT hs hTl => ?_⟩
  have O := O.call O2 (hB2.e.trans hB.e.symm) (fun x hx => by rw [List.mem_singleton.mp hx]; exact hptk)
  have hB := hB2
  clear O2 hB2
  walk_at "nO"
  walk_at "gw"
  refine ⟨a, ptk, A, M2, T, s, rfl, hB, O.sub, O.get 0 rfl, ?_, hT, hs, hTl, fun H3 M3 good hB3 O3 hgf hgl => ?_⟩
  · rw [← hB.e]
    intro q
    have nd := O.nd
    rw [List.map_append] at nd
    exact (List.nodup_append.mp nd).2.2 _ q ptk (by simp) rfl
  have O := O.call O3 (hB3.e.trans hB.e.symm) (fun x hx => absurd hx List.not_mem_nil)
  have hB := hB3
  clear O3 hB3
  walk_at "nO"
  walk_at "gw"
  refine NF.lc_rng1 (by decide) O (fun i acc M' => In BxD a A M' ∧ ∃ zs : List Str, acc = zs.map V.str ∧ zs.length = i ∧ ∀ z ∈ zs, z.length ≤ 2200) ⟨hB, [], rfl, rfl, fun z h => absurd h List.not_mem_nil⟩ ?_ ?_
  · rintro i H2 M2 p acc hi hl ⟨hB, zs, rfl, hzl, hz⟩ O
    walk_at "gw"
    refine x_tx (E := E0) O hB rfl ⟨good, rfl, by omega⟩ fun z1 H1 M1 ⟨g2, eg, hg⟩ hB O => ?_
    cases eg
    refine lc_done O hl (by rw [sizeLine_eq]; omega) ⟨hB, zs ++ [z1], by rw [List.map_append]; rfl, by rw [List.length_append, hzl]; rfl, fun x hx => ?_⟩
    rcases List.mem_append.mp hx with hx | hx
    · exact hz x hx
    · rw [List.mem_singleton.mp hx]; omega
  rintro pa H4 M4 acc hpa hl ⟨hB, zs, rfl, hzl, hz⟩ O
  have hzl : zs.length = 4 := hzl
  obtain ⟨z3, hz3⟩ : ∃ z, zs[3]? = some z := ⟨_, List.getElem?_eq_getElem (by omega)⟩
  have hm3 : (zs.map V.str)[3]? = some (.str z3) := by rw [List.getElem?_map, hz3]; rfl
  have hb3 := hz z3 (List.mem_of_getElem? hz3)
  walk_at "nO"
  walk_at "gw"
  refine x_tx (E := E0) O hB rfl ⟨z3, rfl, by omega⟩ fun z4 H1 M1 ⟨g2, eg, hg⟩ hB O => ?_
  cases eg
  walk_at "gw"
  refine x_draw O hB (by decide) (by decide) fun n H1 M1 n0 n1 hB O => ?_
  walk_at "gw"
  refine NF.lc_rng1 (by omega) O (fun i acc M' => In BxD a A M' ∧ ∃ l : List Nat, acc = l.map ch ∧ l.length = i) ⟨hB, [], rfl, rfl⟩ ?_ ?_
  · rintro i H2 M2 p acc hi hl ⟨hB, l, rfl, hll⟩ O
    walk_at "gw"
    refine x_tx (E := E0) (rest := []) O hB rfl trivial fun z1 H1 M1 ⟨c, ec⟩ hB O => ?_
    subst ec
    exact lc_done O hl (by rw [sizeLine_eq]; omega) ⟨hB, l ++ [c], map_snoc l c, by rw [List.length_append, hll]; rfl⟩
  rintro pc H5 M5 acc hpc hl5 ⟨hB, l, rfl, hll⟩ O
  walk_at "nO"
  walk_at "gw"
  refine NF.x_join l (O.get 2 rfl) (by omega) ?_
  have hlm := len_mk l
  walk_at "gw"
  refine NF.x_newL O (by decide +kernel) fun q1 H6 hq1 O => ?_
  walk_at "nO"
  walk_at "gw"
  refine x_draw O hB (by decide) (by decide) fun d H2 M2 d0 d1 hB O => ?_
  walk_at "gw"
  refine NF.x_ixLo (O.get 3 rfl) d0 (by exact d1) fun v hv hm => ?_
  obtain ⟨y, rfl, hy⟩ : ∃ y : Str, v = .str y ∧ y.length ≤ 2 := by
    simp only [List.mem_cons, List.not_mem_nil, or_false] at hm
    rcases hm with rfl | rfl | rfl | rfl | rfl <;> exact ⟨_, rfl, by decide +kernel⟩
  clear hm hv
  walk_at "gw"
  refine NF.x_newL O (by decide +kernel) fun q2 H6 hq2 O => ?_
  walk_at "nO"
  walk_at "gw"
  refine x_draw O hB (by decide) (by decide) fun d H2 M2 d0 d1 hB O => ?_
  walk_at "gw"
  refine NF.x_ixLo (O.get 4 rfl) d0 (by exact d1) fun v hv hm => ?_
  obtain ⟨y2, rfl, hy2⟩ : ∃ y : Str, v = .str y ∧ y.length ≤ 3 := by
    simp only [List.mem_cons, List.not_mem_nil, or_false] at hm
    rcases hm with rfl | rfl | rfl <;> exact ⟨_, rfl, by decide +kernel⟩
  clear hm hv
  walk_at "gw"
  obtain ⟨c1, c2⟩ := runs_ok (tl good)
  have hgt := len_tl good
  have hcode : ∀ t ∈ runsOf (tl good), ∀ c ∈ t, c < 1114112 := fun t ht c hc => by have := c1 t ht c hc; omega
  refine row_words O (by omega) hgf rfl fun tw H7 R7 hsub O htw => ?_
  have hpaR := hsub (pa, .lst ((zs ++ [z4, mkS l, good ++ y, y2 ++ good]).map V.str)) (by
    refine List.mem_of_getElem? (i := 1) ?_
    rw [List.map_append]
    simp only [List.append_assoc]
    rfl)
  walk_at "gw"
  refine NF.use_spNew (E := E0) O rfl ⟨good, rfl, by omega⟩ fun pr H8 o hpr O ⟨z2, ez, eo⟩ => ?_
  cases ez
  subst eo
  walk_at "gw"
  refine ⟨tw, pr, runsOf (tl good), rfl, O.mem (List.mem_append_left _ htw), O.last, by omega, hcode, fun H9 O9 => ?_⟩
  have O := O.call0 O9
  have hpaR := List.mem_append_left [(pr, HO.tup ((runsOf (tl good)).map tkn))] hpaR
  clear O9
  walk_at "gw"
  refine NF.f_list (SqL.of (O.mem hpaR)) (fun i σ H' => ∃ (u4 : Option V), σ = [some (.ref sa), some (.ref a), some (.str good), some (.ref pa), u4, none] ∧ Own H H' M2 (R7 ++ [(pr, HO.tup ((runsOf (tl good)).map tkn))])) ⟨_, rfl, O⟩ ?_ ?_ ?_
  · rintro i σ H' ⟨u4, rfl, O⟩
    exact SqL.of (O.mem hpaR)
  · rintro i x _ H3 hx ⟨u4, rfl, O⟩
    obtain ⟨w, hw, rfl⟩ : ∃ w, (zs ++ [z4, mkS l, good ++ y, y2 ++ good])[i]? = some w ∧ V.str w = x := by
      rw [List.getElem?_map] at hx
      cases h : (zs ++ [z4, mkS l, good ++ y, y2 ++ good])[i]? with
      | none => rw [h] at hx; cases hx
      | some t => rw [h] at hx; exact ⟨t, rfl, Option.some.inj hx⟩
    have hwl : w.length ≤ 100000 := by
      rcases List.mem_append.mp (List.mem_of_getElem? hw) with h | h
      · have := hz w h; omega
      · simp only [List.mem_cons, List.not_mem_nil, or_false] at h
        rcases h with rfl | rfl | rfl | rfl
        · omega
        · omega
        · rw [len_app]; omega
        · rw [len_app]; omega
    walk_at "gw"
    refine NF.use_spP (E := E0) O rfl ⟨w, rfl, hwl⟩ fun v H4 O ev => ?_
    subst ev
    walk_at "gw"
    exact ⟨_, rfl, O⟩
  · rintro _ H3 ⟨u4, rfl, O⟩
    walk_at "gw"
    refine row_words O (by omega) hgf rfl fun tw2 H7 R8 hsub2 O htw2 => ?_
    walk_at "gw"
    refine NF.use_spNew (E := E0) O rfl ⟨good, rfl, by omega⟩ fun pr2 H8 o hpr2 O ⟨z2, ez, eo⟩ => ?_
    cases ez
    subst eo
    walk_at "gw"
    refine ⟨tw2, pr2, runsOf (tl good), rfl, O.mem (List.mem_append_left _ htw2), O.last, by omega, hcode, fun H9 O9 => ?_⟩
    exact k _


end
abbrev s_Row_words : Stmt := sub (top 21) 1
theorem all_mk {l : PySem.W.OpenLaw} {w : World} {K : PySem.W.Frag} {h : Heap} {mg : Str → Option Value} {fa : Addr} {c_BadLine c_BadRow c_LimitError c_NestError c_Row c_UnknownKind c_EMPTY : Addr} (X : K.In h) (G : h.Ns mainGlobals mg) (hfa : mg "law" = some (.ref fa))
    (h_law_box : Has K "_law_box" s_law_box)
    (h_law_fill : Has K "_law_fill" s_law_fill)
    (h_law_draw : Has K "_law_draw" s_law_draw)
    (h_law_is_word : Has K "_law_is_word" s_law_is_word)
    (h_law_written : Has K "_law_written" s_law_written)
    (h_law_right_words : Has K "_law_right_words" s_law_right_words)
    (h_law_word : Has K "_law_word" s_law_word)
    (h_law_tokens : Has K "_law_tokens" s_law_tokens)
    (h_law_char : Has K "_law_char" s_law_char)
    (h_law_changed : Has K "_law_changed" s_law_changed)
    (h_law_runs : Has K "_law_runs" s_law_runs)
    (h_law_fault : Has K "_law_fault" s_law_fault)
    (h_tokens_of : Has K "tokens_of" s_tokens_of)
    (h_choice : Has K "_choice" s_choice)
    (h_linked : Has K "_linked" s_linked)
    (h_sequence : Has K "_sequence" s_sequence)
    (h_repeated : Has K "_repeated" s_repeated)
    (h_parsed : Has K "parsed" s_parsed)
    (h_law_is_whole : Has K "_law_is_whole" s_law_is_whole)
    (h_law_told : Has K "_law_told" s_law_told)
    (h_law : Has K "law" s_law)
    (z_ValueError : PySem.W.nsIn K mainGlobals "ValueError" = some none)
    (z_abs : PySem.W.nsIn K mainGlobals "abs" = some none)
    (z_all : PySem.W.nsIn K mainGlobals "all" = some none)
    (z_bool : PySem.W.nsIn K mainGlobals "bool" = some none)
    (z_enumerate : PySem.W.nsIn K mainGlobals "enumerate" = some none)
    (z_int : PySem.W.nsIn K mainGlobals "int" = some none)
    (z_isinstance : PySem.W.nsIn K mainGlobals "isinstance" = some none)
    (z_len : PySem.W.nsIn K mainGlobals "len" = some none)
    (z_range : PySem.W.nsIn K mainGlobals "range" = some none)
    (z_sorted : PySem.W.nsIn K mainGlobals "sorted" = some none)
    (z_str : PySem.W.nsIn K mainGlobals "str" = some none)
    (z_super : PySem.W.nsIn K mainGlobals "super" = some none)
    (z_tuple : PySem.W.nsIn K mainGlobals "tuple" = some none)
    (y_ALPHABET : HasC K "ALPHABET" (.str "abcdefghijklmnopqrstuvwxyz"))
    (y_MOST_LETTERS : HasC K "MOST_LETTERS" (.int 8))
    (y_MOST_OPEN : HasC K "MOST_OPEN" (.int 8))
    (y_MOST_WORDS : HasC K "MOST_WORDS" (.int 12))
    (y_REPEATS : HasC K "REPEATS" (.str "*+?"))
    (n_BadLine : PySem.W.nsIn K mainGlobals "BadLine" = some (some (.ref c_BadLine)))
    (n_BadRow : PySem.W.nsIn K mainGlobals "BadRow" = some (some (.ref c_BadRow)))
    (n_LimitError : PySem.W.nsIn K mainGlobals "LimitError" = some (some (.ref c_LimitError)))
    (n_NestError : PySem.W.nsIn K mainGlobals "NestError" = some (some (.ref c_NestError)))
    (n_Row : PySem.W.nsIn K mainGlobals "Row" = some (some (.ref c_Row)))
    (n_UnknownKind : PySem.W.nsIn K mainGlobals "UnknownKind" = some (some (.ref c_UnknownKind)))
    (n_EMPTY : PySem.W.nsIn K mainGlobals "EMPTY" = some (some (.ref c_EMPTY)))
    (k_EMPTY : ∃ a b : Addr, KTu K (c_EMPTY) [.bl true, .ref a, .ref b] ∧ KTu K a [] ∧ KTu K b [])
    (x_BadRow : XRaw l.prog K c_BadRow "index")
    (p_BadRow_BadLine : XPair K (.ref c_BadRow) (.ref c_BadLine) false)
    (p_BadRow_BadRow : XPair K (.ref c_BadRow) (.ref c_BadRow) true)
    (p_BadRow_LimitError : XPair K (.ref c_BadRow) (.ref c_LimitError) false)
    (p_BadRow_NestError : XPair K (.ref c_BadRow) (.ref c_NestError) true)
    (p_BadRow_UnknownKind : XPair K (.ref c_BadRow) (.ref c_UnknownKind) false)
    (p_BadRow_ValueError : XPair K (.ref c_BadRow) (.type "ValueError") true)
    (o_Row : OCls K c_Row ["_words", "_nullable", "_firsts", "_lasts", "_follows"] "Row.__init__" s_Row_init)
    (w_Row_words : OPrp K c_Row "words" "Row.words" s_Row_words)
    : ∃ fd : FuncData, (∀ (s : Shared) (v : Value), BindsTo s fd ⟨[v], []⟩ [("script", v)]) ∧ ∀ base : Heap, K.In base → base.Ns mainGlobals mg → FnOk l.prog w K mg base CX0 8 fa fd ["script"] (spLaw K) := by
  have T : Txt l.prog K mg := ⟨PySem.W.mg_none_of X G z_ValueError, PySem.W.mg_none_of X G z_abs, PySem.W.mg_none_of X G z_all, PySem.W.mg_none_of X G z_bool, PySem.W.mg_none_of X G z_enumerate, PySem.W.mg_none_of X G z_int, PySem.W.mg_none_of X G z_isinstance, PySem.W.mg_none_of X G z_len, PySem.W.mg_none_of X G z_range, PySem.W.mg_none_of X G z_sorted, PySem.W.mg_none_of X G z_str, PySem.W.mg_none_of X G z_tuple, y_ALPHABET.mg X G, y_MOST_LETTERS.mg X G, y_MOST_OPEN.mg X G, y_MOST_WORDS.mg X G, y_REPEATS.mg X G, cls_mk X G n_BadLine, cls_mk X G n_BadRow, cls_mk X G n_LimitError, cls_mk X G n_NestError, cls_mk X G n_Row, cls_mk X G n_UnknownKind, cls_mk X G n_EMPTY, by rw [cad_eq (PySem.W.mg_of X G n_EMPTY)]; exact k_EMPTY, x_BadRow.fact X G n_BadRow (PySem.W.mg_none_of X G z_super), pair_mk X G n_BadRow n_BadLine p_BadRow_BadLine, pair_mk X G n_BadRow n_BadRow p_BadRow_BadRow, pair_mk X G n_BadRow n_LimitError p_BadRow_LimitError, pair_mk X G n_BadRow n_NestError p_BadRow_NestError, pair_mk X G n_BadRow n_UnknownKind p_BadRow_UnknownKind, pairT_mk X G n_BadRow p_BadRow_ValueError⟩
  refine law_end X G hfa h_law (fun _ _ _ _ _ _ s v => .of_eq rfl) fun base fd F => ?_
  have D_Row_words : PrX l.prog w K mg base "Row" "words" "_words" := prx_at X G n_Row o_Row w_Row_words ⟨rfl, rfl, rfl, by decide +kernel, rfl, by decide +kernel, by decide +kernel⟩ rfl (by simp) (fun _ _ _ _ _ _ us hl => match us, hl with | [_], _ => rfl)
  have D_law_box := d_law_box (P := l.prog) (w := w) (base := base) (h_law_box.fn X G) T 
  have D_law_fill := d_law_fill (P := l.prog) (w := w) (base := base) (h_law_fill.fn X G) T 
  have D_law_draw := d_law_draw (P := l.prog) (w := w) (base := base) (h_law_draw.fn X G) T D_law_fill
  have D_law_is_word := d_law_is_word (P := l.prog) (w := w) (base := base) (h_law_is_word.fn X G) T 
  have D_law_written := d_law_written (P := l.prog) (w := w) (base := base) (h_law_written.fn X G) T D_law_draw D_law_is_word
  have D_law_right_words := d_law_right_words (P := l.prog) (w := w) (base := base) (h_law_right_words.fn X G) T 
  have D_law_word := d_law_word (P := l.prog) (w := w) (base := base) (h_law_word.fn X G) T D_law_draw
  have D_law_tokens := d_law_tokens (P := l.prog) (w := w) (base := base) (h_law_tokens.fn X G) T D_law_draw D_law_word
  have D_law_char := d_law_char (P := l.prog) (w := w) (base := base) (h_law_char.fn X G) T D_law_draw
  have D_law_changed := d_law_changed (P := l.prog) (w := w) (base := base) (h_law_changed.fn X G) T D_law_draw D_law_word D_law_char
  have D_law_runs := d_law_runs (P := l.prog) (w := w) (base := base) (h_law_runs.fn X G) T 
  have D_law_fault := d_law_fault (P := l.prog) (w := w) (base := base) (h_law_fault.fn X G) T 
  have D_tokens_of := d_tokens_of (P := l.prog) (w := w) (base := base) (h_tokens_of.fn X G) T 
  have D_choice := d_choice (P := l.prog) (w := w) (base := base) (h_choice.fn X G) T 
  have D_linked := d_linked (P := l.prog) (w := w) (base := base) (h_linked.fn X G) T 
  have D_sequence := d_sequence (P := l.prog) (w := w) (base := base) (h_sequence.fn X G) T D_linked
  have D_repeated := d_repeated (P := l.prog) (w := w) (base := base) (h_repeated.fn X G) T D_linked
  have D_parsed := d_parsed (P := l.prog) (w := w) (base := base) (h_parsed.fn X G) T D_tokens_of D_choice D_sequence D_repeated
  have D_Row := d_Row_init (P := l.prog) (w := w) (base := base) (f := 0) (fd := fd) (ocls_at X G n_Row o_Row) T D_parsed
  have DH_law_is_whole := dh_law_is_whole (P := l.prog) (w := w) (base := base) (h_law_is_whole.fn X G) T 
  have D_law_told := d_law_told (P := l.prog) (w := w) (base := base) (h_law_told.fn X G) T D_law_fault D_Row D_law_right_words D_Row_words D_law_runs DH_law_is_whole
  exact d_law F T D_law_box D_law_written D_law_right_words D_law_tokens D_law_changed D_Row_words D_law_runs D_law_told D_Row D_law_char D_law_draw
theorem walk {l : PySem.W.OpenLaw} {q : Program} {loose : List Str} {XP : (Str → Option Value) → Heap → Prop} {YP : World → Heap → Prop} {d : DefRec} {K : Params → PySem.W.Frag} (hn : l.most = some 63) (hdf : d.params.defaults = [])
    (hY : ∀ (w : World) (h : Heap), YP w h → (K w.params).In h)
    (F : ∀ (w : World) (mg : Str → Option Value) (fa : Addr) (h : Heap), (K w.params).In h → h.Ns mainGlobals mg → mg d.name = some (.ref fa) →
      ∃ fd : FuncData, (∀ (s : Shared) (u : Value), BindsTo s fd ⟨[u], []⟩ [("script", u)]) ∧ ∀ base : Heap, (K w.params).In base → base.Ns mainGlobals mg → FnOk l.prog w (K w.params) mg base CX0 8 fa fd ["script"] (spLaw (K w.params))) :
    PySem.W.WalkO q loose XP YP l.row.toRowW d [] (fun f vs => PySem.call f vs) :=
  L2.walk_of (n := 63) (k := 8) (x := "script") (CX := fun _ => CX0) (sp := fun w => spLaw (K w.params)) hn (by decide) hdf ⟨rfl, by decide, by decide⟩ hY F (fun _ _ a ns hl _ hS => ⟨a, ns, rfl, hS, hl, fun _ => rfl⟩) fun _ _ _ _ _ z => z
end NF
open PySem PySem.W PyProof.Rows in
set_option maxRecDepth 100000 in
set_option maxHeartbeats 0 in
theorem PySem.Challenge.cw_nestform_k04_row_faults_holds : PySem.Challenge.rw_nestform_k04_row_faults.Holds := by
  w_on; o_law; k_head; (case hw => w_witness2)
  k_fill
  refine NF.walk (l := PySem.Challenge.rw_nestform_k04_row_faults) rfl rfl (fun w h Y => PySem.W.kIn_of Y) ?F
  case F =>
    intro w mg fa h KX G hmg
    refine' NF.all_mk KX G hmg (NF.has_mk ?n0 ?l0 ?c0 ?k0) (NF.has_mk ?n1 ?l1 ?c1 ?k1) (NF.has_mk ?n2 ?l2 ?c2 ?k2) (NF.has_mk ?n3 ?l3 ?c3 ?k3) (NF.has_mk ?n4 ?l4 ?c4 ?k4) (NF.has_mk ?n5 ?l5 ?c5 ?k5) (NF.has_mk ?n6 ?l6 ?c6 ?k6) (NF.has_mk ?n7 ?l7 ?c7 ?k7) (NF.has_mk ?n8 ?l8 ?c8 ?k8) (NF.has_mk ?n9 ?l9 ?c9 ?k9) (NF.has_mk ?n10 ?l10 ?c10 ?k10) (NF.has_mk ?n11 ?l11 ?c11 ?k11) (NF.has_mk ?n12 ?l12 ?c12 ?k12) (NF.has_mk ?n13 ?l13 ?c13 ?k13) (NF.has_mk ?n14 ?l14 ?c14 ?k14) (NF.has_mk ?n15 ?l15 ?c15 ?k15) (NF.has_mk ?n16 ?l16 ?c16 ?k16) (NF.has_mk ?n17 ?l17 ?c17 ?k17) (NF.has_mk ?n19 ?l19 ?c19 ?k19) (NF.has_mk ?n20 ?l20 ?c20 ?k20) (NF.has_mk ?n21 ?l21 ?c21 ?k21) ?z_ValueError ?z_abs ?z_all ?z_bool ?z_enumerate ?z_int ?z_isinstance ?z_len ?z_range ?z_sorted ?z_str ?z_super ?z_tuple (NF.hasC_mk ?y_ALPHABET ?r_ALPHABET) (NF.hasC_mk ?y_MOST_LETTERS ?r_MOST_LETTERS) (NF.hasC_mk ?y_MOST_OPEN ?r_MOST_OPEN) (NF.hasC_mk ?y_MOST_WORDS ?r_MOST_WORDS) (NF.hasC_mk ?y_REPEATS ?r_REPEATS) ?q_BadLine ?q_BadRow ?q_LimitError ?q_NestError ?q_Row ?q_UnknownKind ?q_EMPTY ⟨_, _, NF.ktu_mk ?e0 ?s0 ?v0, NF.ktu_mk ?e1 ?s1 ?v1, NF.ktu_mk ?e2 ?s2 ?v2⟩ (NF.xraw_mk ?x_BadRow_iC ?x_BadRow_lk ?x_BadRow_hcode ?x_BadRow_hcell ?x_BadRow_hx ?x_BadRow_hcd ?x_BadRow_hvs ?x_BadRow_hfile ?x_BadRow_htop ?x_BadRow_hp ?x_BadRow_har ?x_BadRow_hns ?x_BadRow_hdb ?x_BadRow_s1 ?x_BadRow_s2 ?x_BadRow_s3 ?x_BadRow_s4 ?x_BadRow_hnc ?x_BadRow_hco ?x_BadRow_hgen ?x_BadRow_hk ?x_BadRow_hb ?x_BadRow_hme) (NF.xpair_mk ?p_BadRow_BadLine) (NF.xpair_mk ?p_BadRow_BadRow) (NF.xpair_mk ?p_BadRow_LimitError) (NF.xpair_mk ?p_BadRow_NestError) (NF.xpair_mk ?p_BadRow_UnknownKind) (NF.xpair_mk ?p_BadRow_ValueError) (NF.ocls_mk ?oi_Row ?ol_Row ?oc_Row ?ob_Row) (NF.oprp_mk ?wa_Row_words ?wr_Row_words ?wl_Row_words ?wc_Row_words ?wb_Row_words)
    (case n0 => k_is)
    (case l0 => k_is)
    (case c0 => k_is)
    (case k0 => k_is)
    (case n1 => k_is)
    (case l1 => k_is)
    (case c1 => k_is)
    (case k1 => k_is)
    (case n2 => k_is)
    (case l2 => k_is)
    (case c2 => k_is)
    (case k2 => k_is)
    (case n3 => k_is)
    (case l3 => k_is)
    (case c3 => k_is)
    (case k3 => k_is)
    (case n4 => k_is)
    (case l4 => k_is)
    (case c4 => k_is)
    (case k4 => k_is)
    (case n5 => k_is)
    (case l5 => k_is)
    (case c5 => k_is)
    (case k5 => k_is)
    (case n6 => k_is)
    (case l6 => k_is)
    (case c6 => k_is)
    (case k6 => k_is)
    (case n7 => k_is)
    (case l7 => k_is)
    (case c7 => k_is)
    (case k7 => k_is)
    (case n8 => k_is)
    (case l8 => k_is)
    (case c8 => k_is)
    (case k8 => k_is)
    (case n9 => k_is)
    (case l9 => k_is)
    (case c9 => k_is)
    (case k9 => k_is)
    (case n10 => k_is)
    (case l10 => k_is)
    (case c10 => k_is)
    (case k10 => k_is)
    (case n11 => k_is)
    (case l11 => k_is)
    (case c11 => k_is)
    (case k11 => k_is)
    (case n12 => k_is)
    (case l12 => k_is)
    (case c12 => k_is)
    (case k12 => k_is)
    (case n13 => k_is)
    (case l13 => k_is)
    (case c13 => k_is)
    (case k13 => k_is)
    (case n14 => k_is)
    (case l14 => k_is)
    (case c14 => k_is)
    (case k14 => k_is)
    (case n15 => k_is)
    (case l15 => k_is)
    (case c15 => k_is)
    (case k15 => k_is)
    (case n16 => k_is)
    (case l16 => k_is)
    (case c16 => k_is)
    (case k16 => k_is)
    (case n17 => k_is)
    (case l17 => k_is)
    (case c17 => k_is)
    (case k17 => k_is)
    (case n19 => k_is)
    (case l19 => k_is)
    (case c19 => k_is)
    (case k19 => k_is)
    (case n20 => k_is)
    (case l20 => k_is)
    (case c20 => k_is)
    (case k20 => k_is)
    (case n21 => k_is)
    (case l21 => k_is)
    (case c21 => k_is)
    (case k21 => k_is)
    (case z_ValueError => k_is)
    (case z_abs => k_is)
    (case z_all => k_is)
    (case z_bool => k_is)
    (case z_enumerate => k_is)
    (case z_int => k_is)
    (case z_isinstance => k_is)
    (case z_len => k_is)
    (case z_range => k_is)
    (case z_sorted => k_is)
    (case z_str => k_is)
    (case z_super => k_is)
    (case z_tuple => k_is)
    (case y_ALPHABET => k_is)
    (case r_ALPHABET => exact ⟨_, rfl⟩)
    (case y_MOST_LETTERS => k_is)
    (case r_MOST_LETTERS => exact ⟨_, rfl⟩)
    (case y_MOST_OPEN => k_is)
    (case r_MOST_OPEN => exact ⟨_, rfl⟩)
    (case y_MOST_WORDS => k_is)
    (case r_MOST_WORDS => exact ⟨_, rfl⟩)
    (case y_REPEATS => k_is)
    (case r_REPEATS => exact ⟨_, rfl⟩)
    (case q_BadLine => k_is)
    (case q_BadRow => k_is)
    (case q_LimitError => k_is)
    (case q_NestError => k_is)
    (case q_Row => k_is)
    (case q_UnknownKind => k_is)
    (case q_EMPTY => k_is)
    (case e0 => k_is)
    (case v0 => exact .cons rfl (.cons rfl (.cons rfl .nil)))
    (case s0 => rfl)
    (case e1 => k_is)
    (case v1 => exact .nil)
    (case s1 => rfl)
    (case e2 => k_is)
    (case v2 => exact .nil)
    (case s2 => rfl)
    (case x_BadRow_iC => k_is)
    (case x_BadRow_lk => k_is)
    (case x_BadRow_hcode => k_is)
    (case x_BadRow_hcell => k_is)
    (case x_BadRow_hx => kernel_rfl)
    (case x_BadRow_hcd => k_is)
    (case x_BadRow_hvs => exact rfl)
    (case x_BadRow_hfile => kernel_rfl)
    (case x_BadRow_htop => kernel_rfl)
    (case x_BadRow_hp => exact rfl)
    (case x_BadRow_har => exact rfl)
    (case x_BadRow_hns => decide)
    (case x_BadRow_hdb => decide)
    (case x_BadRow_s1 => exact rfl)
    (case x_BadRow_s2 => exact rfl)
    (case x_BadRow_s3 => exact rfl)
    (case x_BadRow_s4 => exact rfl)
    (case x_BadRow_hnc => decide)
    (case x_BadRow_hco => exact rfl)
    (case x_BadRow_hgen => exact rfl)
    (case x_BadRow_hk => exact rfl)
    (case x_BadRow_hb => exact fun us hl => match us, hl with | [_, _], _ => rfl)
    (case x_BadRow_hme => exact fun env => rfl)
    (case p_BadRow_BadLine => kernel_rfl)
    (case p_BadRow_BadRow => kernel_rfl)
    (case p_BadRow_LimitError => kernel_rfl)
    (case p_BadRow_NestError => kernel_rfl)
    (case p_BadRow_UnknownKind => kernel_rfl)
    (case p_BadRow_ValueError => kernel_rfl)
    (case oi_Row => k_is)
    (case ol_Row => k_is)
    (case oc_Row => k_is)
    (case ob_Row => kernel_rfl)
    (case wa_Row_words => k_is)
    (case wr_Row_words => k_is)
    (case wl_Row_words => k_is)
    (case wc_Row_words => k_is)
    (case wb_Row_words => kernel_rfl)

