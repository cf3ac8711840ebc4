import PyProof.Rows.All
import Wide.All
import OpenK.AllK
import Wide.FinOn
import HandS.ForMost
import HandS.Wide
import HandS.Conv
import HandS.Evl
import HandS.IsInst
import HandS.TupMul
import KE.DatumOrd
import PyProof.Draws
import KE.GoesEnum
import PyProof.EnumMake
import HandS.Walk
import KE.KExcSuper
import HandS.ExcInit
import HandS.TryMany
import HandS.ExcOwn
import HandS.ExcField
import HandS.ExcIs
import HandS.ExcCtx
import HandS.HotCalls
import KE.KExcIs
import KE.KIsAll
import HandS.Defaults
import HandS.RaiseMore
import PySem.Challenge.RW_nestform_k01_nodes_of_texts
set_option Elab.async false
set_option linter.all false
set_option maxRecDepth 100000
set_option maxHeartbeats 4000000
/-! Own toolkit over the hand layer: what is owned, steps, promises. -/
namespace NF
open PySem L2

/-! ### what is owned: B the heap at the start, M a part kept closed, R the open part -/
structure Own (B H : Hp) (M R : List (Addr × HO)) : Prop where
  nd : ((M ++ R).map Prod.fst).Nodup
  at_ : ∀ x ∈ M ++ R, H x.1 = some x.2
  out : ∀ b, b ∉ (M ++ R).map Prod.fst → ∀ o, B b = some o → H b = some o

section
variable {B H H' : Hp} {M R : List (Addr × HO)} {a p : Addr} {o u : HO}

theorem Own.get (O : Own B H M R) (j : Nat) (h : R[j]? = some (a, o)) : H a = some o :=
  O.at_ (a, o) (List.mem_append_right _ (List.mem_of_getElem? h))
theorem Own.refl0 (H : Hp) : Own H H [] [] := ⟨List.nodup_nil, fun _ h => absurd h List.not_mem_nil, fun _ _ _ h => h⟩
theorem Own.start (nd : (R.map Prod.fst).Nodup) (h : ∀ x ∈ R, H x.1 = some x.2) : Own H H [] R := ⟨nd, h, fun _ _ _ e => e⟩
theorem Own.addr_mem (O : Own B H M R) (h : x ∈ M ++ R) : x.1 ∈ (M ++ R).map Prod.fst := List.mem_map_of_mem h
theorem Own.fresh (O : Own B H M R) (h : H p = none) : p ∉ (M ++ R).map Prod.fst := fun q => by
  obtain ⟨x, hx, e⟩ := List.mem_map.mp q
  have := O.at_ x hx
  rw [e, h] at this
  cases this
theorem Own.base_free (O : Own B H M R) (h : H p = none) : B p = none := by
  cases e : B p with
  | none => rfl
  | some o =>
    have := O.out p (O.fresh h) o e
    rw [h] at this
    cases this
theorem Own.new (O : Own B H M R) (h : H p = none) : Own B (upd H p o) M (R ++ [(p, o)]) := by
  have hp := O.fresh h
  refine ⟨?_, fun x hx => ?_, fun b hb u e => ?_⟩
  · rw [← List.append_assoc, List.map_append]
    refine List.nodup_append.mpr ⟨O.nd, by simp, fun y hy z hz => ?_⟩
    have ez : z = p := by simpa using hz
    intro e
    rw [e, ez] at hy
    exact hp hy
  · rw [← List.append_assoc] at hx
    rcases List.mem_append.mp hx with hx | hx
    · have q := O.at_ x hx
      have n : x.1 ≠ p := fun e => by rw [e, h] at q; cases q
      rw [upd_ne n]
      exact q
    · have e : x = (p, o) := by simpa using hx
      rw [e]
      exact upd_same
  · rw [← List.append_assoc, List.map_append] at hb
    have h1 : b ∉ (M ++ R).map Prod.fst := fun q => hb (List.mem_append_left _ q)
    have h2 : b ≠ p := fun q => hb (List.mem_append_right _ (by simp [q]))
    rw [upd_ne h2]
    exact O.out b h1 u e
theorem nodup_fst {L : List (Addr × HO)} (nd : (L.map Prod.fst).Nodup) {i j : Nat} {x y : Addr × HO} (hi : L[i]? = some x) (hj : L[j]? = some y) (e : x.1 = y.1) : i = j := by
  have h1 : (L.map Prod.fst)[i]? = some x.1 := by rw [List.getElem?_map, hi]; rfl
  have h2 : (L.map Prod.fst)[j]? = some x.1 := by rw [List.getElem?_map, hj, e]; rfl
  exact nodup_at nd h1 h2
where
  nodup_at {l : List Addr} (nd : l.Nodup) {i j : Nat} {v : Addr} (hi : l[i]? = some v) (hj : l[j]? = some v) : i = j := by
    obtain ⟨h1, e1⟩ := List.getElem?_eq_some_iff.mp hi
    obtain ⟨h2, e2⟩ := List.getElem?_eq_some_iff.mp hj
    exact (List.getElem_inj (h₀ := h1) (h₁ := h2) nd).mp (e1.trans e2.symm)
theorem map_set_fst {R : List (Addr × HO)} {j : Nat} (h : R[j]? = some (a, o)) (u : HO) : (R.set j (a, u)).map Prod.fst = R.map Prod.fst := by
  refine List.ext_getElem? fun i => ?_
  rw [List.getElem?_map, List.getElem?_map, List.getElem?_set]
  by_cases e : j = i
  · subst e
    have hj : j < R.length := (List.getElem?_eq_some_iff.mp h).1
    rw [if_pos rfl, if_pos hj, h]
    rfl
  · rw [if_neg e]
theorem mem_set_or {R : List (Addr × HO)} {j : Nat} {x y : Addr × HO} (h : x ∈ R.set j y) : x = y ∨ ∃ i, i ≠ j ∧ R[i]? = some x := by
  obtain ⟨i, hi⟩ := List.getElem?_of_mem h
  rw [List.getElem?_set] at hi
  by_cases e : j = i
  · rw [if_pos e] at hi
    split at hi
    · exact .inl (Option.some.inj hi).symm
    · cases hi
  · rw [if_neg e] at hi
    exact .inr ⟨i, fun q => e q.symm, hi⟩
theorem Own.put (O : Own B H M R) (j : Nat) (h : R[j]? = some (a, o)) (u : HO) : Own B (upd H a u) M (R.set j (a, u)) := by
  have em : (M ++ R.set j (a, u)).map Prod.fst = (M ++ R).map Prod.fst := by
    rw [List.map_append, List.map_append, map_set_fst h u]
  have ha : a ∈ (M ++ R).map Prod.fst := List.mem_map.mpr ⟨(a, o), List.mem_append_right _ (List.mem_of_getElem? h), rfl⟩
  refine ⟨by rw [em]; exact O.nd, fun x hx => ?_, fun b hb v e => ?_⟩
  · rcases List.mem_append.mp hx with hx | hx
    · have q := O.at_ x (List.mem_append_left _ hx)
      have n : x.1 ≠ a := fun e => by
        have nd := O.nd
        rw [List.map_append] at nd
        exact (List.nodup_append.mp nd).2.2 _ (List.mem_map_of_mem hx) _ (List.mem_map.mpr ⟨(a, o), List.mem_of_getElem? h, rfl⟩) e
      rw [upd_ne n]
      exact q
    · rcases mem_set_or hx with rfl | ⟨i, ne, hi⟩
      · exact upd_same
      · have n : x.1 ≠ a := fun e => by
          have nd := O.nd
          rw [List.map_append] at nd
          exact ne (nodup_fst (List.nodup_append.mp nd).2.1 hi h e)
        rw [upd_ne n]
        exact O.at_ x (List.mem_append_right _ (List.mem_of_getElem? hi))
  · rw [em] at hb
    have n : b ≠ a := fun q => hb (q ▸ ha)
    rw [upd_ne n]
    exact O.out b hb v e
/-- a callee that had the closed part M0 and gives it back as M1, with new objects N -/
theorem Own.call {M0 M1 N : List (Addr × HO)} (O : Own B H M0 R) (C : Own H H' M1 N) (e : M1.map Prod.fst = M0.map Prod.fst) (hn : ∀ x ∈ N, H x.1 = none) : Own B H' M1 (R ++ N) := by
  have key : ∀ x ∈ R, x.1 ∉ (M1 ++ N).map Prod.fst := fun x hx q => by
    rw [List.map_append] at q
    rcases List.mem_append.mp q with q | q
    · rw [e] at q
      have nd := O.nd
      rw [List.map_append] at nd
      exact (List.nodup_append.mp nd).2.2 _ q _ (List.mem_map_of_mem hx) rfl
    · obtain ⟨y, hy, ey⟩ := List.mem_map.mp q
      have h1 := hn y hy
      have h2 := O.at_ x (List.mem_append_right _ hx)
      rw [ey, h2] at h1
      cases h1
  refine ⟨?_, fun x hx => ?_, fun b hb v q => ?_⟩
  · have nd1 := C.nd
    have nd0 := O.nd
    rw [List.map_append] at nd1 nd0
    rw [List.map_append, List.map_append]
    obtain ⟨a1, a2, a3⟩ := List.nodup_append.mp nd1
    obtain ⟨b1, b2, b3⟩ := List.nodup_append.mp nd0
    refine List.nodup_append.mpr ⟨a1, List.nodup_append.mpr ⟨b2, a2, fun y hy z hz e2 => ?_⟩, fun y hy z hz e2 => ?_⟩
    · obtain ⟨x, hx, ex⟩ := List.mem_map.mp hy
      refine key x hx ?_
      rw [List.map_append]
      rw [ex, e2]
      exact List.mem_append_right _ hz
    · rcases List.mem_append.mp hz with hz | hz
      · rw [e] at hy
        exact b3 _ hy _ hz e2
      · exact a3 _ hy _ hz e2
  · rcases List.mem_append.mp hx with hx | hx
    · exact C.at_ x (List.mem_append_left _ hx)
    · rcases List.mem_append.mp hx with hx | hx
      · exact C.out x.1 (key x hx) _ (O.at_ x (List.mem_append_right _ hx))
      · exact C.at_ x (List.mem_append_right _ hx)
  · rw [List.map_append, List.map_append] at hb
    have h1 : b ∉ (M0 ++ R).map Prod.fst := fun z => hb (by
      rw [List.map_append] at z
      rcases List.mem_append.mp z with z | z
      · exact List.mem_append_left _ (e ▸ z)
      · exact List.mem_append_right _ (List.mem_append_left _ z))
    have h2 : b ∉ (M1 ++ N).map Prod.fst := fun z => hb (by
      rw [List.map_append] at z
      rcases List.mem_append.mp z with z | z
      · exact List.mem_append_left _ z
      · exact List.mem_append_right _ (List.mem_append_right _ z))
    exact C.out b h2 _ (O.out b h1 v q)
theorem Own.call0 (O : Own B H M R) (C : Own H H' [] []) : Own B H' M R := by
  have h := Own.call (M0 := []) (M1 := []) (N := []) (R := M ++ R) (B := B) ⟨O.nd, O.at_, O.out⟩ C rfl (fun _ h => absurd h List.not_mem_nil)
  rw [List.append_nil] at h
  exact ⟨h.nd, h.at_, h.out⟩
theorem Own.callN {N : List (Addr × HO)} (O : Own B H M R) (C : Own H H' [] N) (hn : ∀ x ∈ N, H x.1 = none) : Own B H' M (R ++ N) := by
  have h := Own.call (M0 := []) (M1 := []) (N := N) (R := M ++ R) (B := B) ⟨O.nd, O.at_, O.out⟩ C rfl hn
  have e : [] ++ (M ++ R ++ N) = M ++ (R ++ N) := by rw [List.nil_append, List.append_assoc]
  rw [show Own B H' M (R ++ N) = Own B H' M (R ++ N) from rfl]
  exact ⟨by rw [← e]; exact h.nd, by rw [← e]; exact h.at_, by rw [← e]; exact h.out⟩
/-- only the closed part is told to a callee -/
theorem Own.sub (O : Own B H M R) : Own H H M [] := ⟨by
    rw [List.append_nil]
    have nd := O.nd
    rw [List.map_append] at nd
    exact (List.nodup_append.mp nd).1, fun x hx => O.at_ x (by
    rw [List.append_nil] at hx
    exact List.mem_append_left _ hx), fun _ _ _ e => e⟩
theorem Own.nil (O : Own B H [] R) : Own H H [] R := ⟨O.nd, O.at_, fun _ _ _ e => e⟩
/-- the end of a def: its own objects (not there at the start) are forgotten -/
theorem Own.drop (O : Own B H M R) (hn : ∀ x ∈ R, B x.1 = none) : Own B H M [] := ⟨by
    rw [List.append_nil]
    have nd := O.nd
    rw [List.map_append] at nd
    exact (List.nodup_append.mp nd).1, fun x hx => O.at_ x (by
    rw [List.append_nil] at hx
    exact List.mem_append_left _ hx), fun b hb o e => O.out b (fun q => by
    rw [List.map_append] at q
    rcases List.mem_append.mp q with q | q
    · exact hb (by rw [List.append_nil]; exact q)
    · obtain ⟨x, hx, ex⟩ := List.mem_map.mp q
      have := hn x hx
      rw [ex, e] at this
      cases this) o e⟩
theorem Own.dropTo {N : List (Addr × HO)} (O : Own B H M (R ++ N)) (hn : ∀ x ∈ R, B x.1 = none) : Own B H M N := ⟨by
    have nd := O.nd
    rw [List.map_append, List.map_append] at nd
    rw [List.map_append]
    obtain ⟨a1, a2, a3⟩ := List.nodup_append.mp nd
    exact List.nodup_append.mpr ⟨a1, (List.nodup_append.mp a2).2.1, fun y hy z hz => a3 y hy z (List.mem_append_right _ hz)⟩, fun x hx => O.at_ x (by
    rcases List.mem_append.mp hx with hx | hx
    · exact List.mem_append_left _ hx
    · exact List.mem_append_right _ (List.mem_append_right _ hx)), fun b hb o e => O.out b (fun q => by
    rw [List.map_append, List.map_append] at q
    rw [List.map_append] at hb
    rcases List.mem_append.mp q with q | q
    · exact hb (List.mem_append_left _ q)
    · rcases List.mem_append.mp q with q | q
      · obtain ⟨x, hx, ex⟩ := List.mem_map.mp q
        have := hn x hx
        rw [ex, e] at this
        cases this
      · exact hb (List.mem_append_right _ q)) o e⟩
end
end NF

/-! Own toolkit: one lemma a step of a reading. -/
namespace NF
open PySem L2
section
variable {K : PySem.W.Frag} {σ : St} {B H H' : Hp} {M R : List (Addr × HO)} {a p : Addr} {o u : HO} {Q : VK} {te ta tb tc : TE} {tt tu : TT} {tar : TA} {v x y : V} {i j : Int} {r : R2}
  {nx bk ct : St → Hp → Prop} {rt : VK} {g : TG} {s1 s2 : TS} {QA : List V → Hp → Prop} {QT : Bool → Hp → Prop} {QO : Option Int → Hp → Prop} {z z1 z2 : Str} {xs ys : List V} {n : Nat} {sp : Sp} {E : XK} {dvs : List V}

/-- a new list, a new tuple is asked for -/
def newL (xs : List V) (H : Hp) (Q : VK) : Prop := xs.length ≤ sizeLine ∧ ∀ p, H p = none → Q (.ref p) (upd H p (.lst xs))
def newT (xs : List V) (H : Hp) (Q : VK) : Prop := xs.length ≤ sizeLine ∧ ∀ p, H p = none → Q (.ref p) (upd H p (.tup xs))
/-! #### expressions -/
theorem x_var {k : Nat} (h : σ[k]? = some (some v)) (q : Q v H) : tVar k σ H Q := ⟨v, h, q⟩
theorem x_c (q : Q v H) : tC v σ H Q := q
theorem x_op (q : ta σ H fun x H1 => tb σ H1 fun y H2 => r x y H2 Q) : tOp r ta tb σ H Q := q
theorem x_un {r : V → Hp → VK → Prop} (q : ta σ H fun x H1 => r x H1 Q) : tUn r ta σ H Q := q
theorem x_if (q : tt σ H fun c H1 => if c = true then ta σ H1 Q else tb σ H1 Q) : tIf tt ta tb σ H Q := q
theorem x_I0 {g : Int → Int → V} (q : Q (g i j) H) : rI0 g (.int i) (.int j) H Q := ⟨i, j, rfl, rfl, q⟩
theorem x_I {C : Int → Int → Prop} {g : Int → Int → V} (hc : C i j) (q : Q (g i j) H) : rI C g (.int i) (.int j) H Q := ⟨i, j, rfl, rfl, hc, q⟩
theorem x_U {g : Int → V} (q : Q (g i) H) : rU g (.int i) H Q := ⟨i, rfl, q⟩
theorem x_eq (h : scal x y = true) (q : Q (.bl (decide (x = y))) H) : rEq x y H Q := ⟨h, q⟩
theorem x_ne (h : scal x y = true) (q : Q (.bl (!decide (x = y))) H) : rNe x y H Q := ⟨h, q⟩
theorem x_ixL (h : H a = some (.lst xs)) (hv : atI xs i = some v) (q : Q v H) : rIxL K (.ref a) (.int i) H Q := ⟨a, xs, i, v, rfl, rfl, SqL.of h, hv, q⟩
theorem x_ixT (h : H a = some (.tup xs)) (hv : atI xs i = some v) (q : Q v H) : rIxT K (.ref a) (.int i) H Q := ⟨a, xs, i, v, rfl, rfl, SqT.of h, hv, q⟩
theorem x_ixS {c : Nat} (hz : z.length ≤ sizeLine) (hv : atI z.cps.toList i = some c) (q : Q (.str ⟨#[c]⟩) H) : rIxS (.str z) (.int i) H Q := ⟨z, i, c, rfl, rfl, hz, hv, q⟩
/-! #### tests -/
theorem x_test (q : te σ H fun x H' => ∃ k, x = .bl k ∧ QT k H') : tTest te σ H QT := q
theorem x_B (q : te σ H fun x H' => ∃ k, x = .bl k ∧ QT k H') : tB te σ H QT := q
theorem x_bl {P : Bool → Prop} {b : Bool} (q : P b) : ∃ k, V.bl b = .bl k ∧ P k := ⟨b, rfl, q⟩
theorem x_and (q : tt σ H fun c H1 => if c = true then tu σ H1 QT else QT false H1) : tAnd tt tu σ H QT := q
theorem x_or (q : tt σ H fun c H1 => if c = true then QT true H1 else tu σ H1 QT) : tOr tt tu σ H QT := q
theorem x_not (q : tt σ H fun c H1 => QT (!c) H1) : tNot tt σ H QT := q
theorem x_andV (q : ta σ H fun x H1 => ∃ c, x = .bl c ∧ if c = true then tb σ H1 Q else Q (.bl false) H1) : tAndV ta tb σ H Q := q
theorem x_orV (q : ta σ H fun x H1 => ∃ c, x = .bl c ∧ if c = true then Q (.bl true) H1 else tb σ H1 Q) : tOrV ta tb σ H Q := q
theorem x_notV (q : ta σ H fun x H1 => ∃ c, x = .bl c ∧ Q (.bl (!c)) H1) : tNotV ta σ H Q := q
theorem x_ite {p : Prop} [Decidable p] {A C : Prop} (h1 : p → A) (h2 : ¬ p → C) : if decide p = true then A else C := by
  by_cases h : p
  · rw [decide_eq_true h, if_pos rfl]; exact h1 h
  · rw [decide_eq_false h, if_neg Bool.false_ne_true]; exact h2 h
theorem x_itn {p : Prop} [Decidable p] {A C : Prop} (h1 : ¬ p → A) (h2 : p → C) : if (!decide p) = true then A else C := by
  by_cases h : p
  · rw [decide_eq_true h, Bool.not_true, if_neg Bool.false_ne_true]; exact h2 h
  · rw [decide_eq_false h, Bool.not_false, if_pos rfl]; exact h1 h
theorem x_itb {b : Bool} {A C : Prop} (h1 : b = true → A) (h2 : b = false → C) : if b = true then A else C := by
  cases b
  · rw [if_neg Bool.false_ne_true]; exact h2 rfl
  · rw [if_pos rfl]; exact h1 rfl
theorem x_tt {A C : Prop} (h : A) : if true = true then A else C := by rw [if_pos rfl]; exact h
theorem x_nt {A C : Prop} (h : C) : if (!true) = true then A else C := h
theorem x_nf {A C : Prop} (h : A) : if (!false) = true then A else C := h
theorem x_ff {A C : Prop} (h : C) : if false = true then A else C := by rw [if_neg Bool.false_ne_true]; exact h
theorem x_andP {b1 b2 : Bool} (h1 : ∀ QT : Bool → Hp → Prop, QT b1 H → tt σ H QT) (h2 : b1 = true → ∀ QT : Bool → Hp → Prop, QT b2 H → tu σ H QT) (q : QT (b1 && b2) H) : tAnd tt tu σ H QT := by
  refine h1 _ ?_
  cases b1 with
  | true => exact h2 rfl _ q
  | false => exact q
theorem x_orP {b1 b2 : Bool} (h1 : ∀ QT : Bool → Hp → Prop, QT b1 H → tt σ H QT) (h2 : b1 = false → ∀ QT : Bool → Hp → Prop, QT b2 H → tu σ H QT) (q : QT (b1 || b2) H) : tOr tt tu σ H QT := by
  refine h1 _ ?_
  cases b1 with
  | false => exact h2 rfl _ q
  | true => exact q
/-- and, or of two tests -/
theorem x_iteA {b1 b2 : Bool} {A C : Prop} (h1 : b1 = true → b2 = true → A) (h2 : ¬ (b1 = true ∧ b2 = true) → C) : if b1 = true then (if b2 = true then A else C) else C := by
  cases b1 <;> cases b2 <;> simp_all
theorem x_iteO {b1 b2 : Bool} {A C : Prop} (h1 : b1 = true ∨ b2 = true → A) (h2 : b1 = false → b2 = false → C) : if b1 = true then A else (if b2 = true then A else C) := by
  cases b1 <;> cases b2 <;> simp_all
theorem x_iteI {A C : Prop} (h1 : i = j → A) (h2 : i ≠ j → C) : if decide (V.int i = V.int j) = true then A else C := x_ite (fun h => h1 (V.int.inj h)) (fun h => h2 fun e => h (e ▸ rfl))
theorem x_itnI {A C : Prop} (h1 : i ≠ j → A) (h2 : i = j → C) : if (!decide (V.int i = V.int j)) = true then A else C := x_itn (fun h => h1 fun e => h (e ▸ rfl)) (fun h => h2 (V.int.inj h))
theorem x_iteS {A C : Prop} (h1 : z1 = z2 → A) (h2 : z1 ≠ z2 → C) : if decide (V.str z1 = V.str z2) = true then A else C := x_ite (fun h => h1 (V.str.inj h)) (fun h => h2 fun e => h (e ▸ rfl))
theorem x_itnS {A C : Prop} (h1 : z1 ≠ z2 → A) (h2 : z1 = z2 → C) : if (!decide (V.str z1 = V.str z2)) = true then A else C := x_itn (fun h => h1 fun e => h (e ▸ rfl)) (fun h => h2 (V.str.inj h))
/-! #### arguments, displays, calls -/
theorem x_nil (q : QA [] H) : tNil σ H QA := q
theorem x_cons (q : ta σ H fun x H1 => tar σ H1 fun xs H2 => QA (x :: xs) H2) : tCons ta tar σ H QA := q
theorem x_lst (q : tar σ H fun xs H1 => newL xs H1 Q) : tLst tar σ H Q := q
theorem x_tup (q : tar σ H fun xs H1 => newT xs H1 Q) : tTup tar σ H Q := q
/-- a new object goes behind what is owned -/
theorem x_newL (O : Own B H M R) (hz : xs.length ≤ sizeLine) (q : ∀ p H1, B p = none → Own B H1 M (R ++ [(p, .lst xs)]) → Q (.ref p) H1) : newL xs H Q := ⟨hz, fun p hp => q p _ (O.base_free hp) (O.new hp)⟩
theorem x_newT (O : Own B H M R) (hz : xs.length ≤ sizeLine) (q : ∀ p H1, B p = none → Own B H1 M (R ++ [(p, .tup xs)]) → Q (.ref p) H1) : newT xs H Q := ⟨hz, fun p hp => q p _ (O.base_free hp) (O.new hp)⟩
theorem x_cb {r : List V → Hp → VK → Prop} (q : tar σ H fun vs H1 => r vs H1 Q) : tCB r tar σ H Q := q
theorem x_call (q : tar σ H fun vs H1 => sp (vs ++ dvs) H1 Q E) : tCall sp dvs E tar σ H Q := q
/-! #### statements -/
theorem x_seq (q : s1 ⟨s2 ⟨nx, rt, bk, ct⟩, rt, bk, ct⟩ σ H) : tSeq s1 s2 ⟨nx, rt, bk, ct⟩ σ H := q
theorem x_cut (Mid : St → Hp → Prop) (q : s1 ⟨Mid, rt, bk, ct⟩ σ H) (k : ∀ σ' H', Mid σ' H' → s2 ⟨nx, rt, bk, ct⟩ σ' H') : Evl.tCut s1 s2 ⟨nx, rt, bk, ct⟩ σ H := ⟨Mid, q, k⟩
theorem x_asg (q : te σ H fun x H1 => g x σ H1 nx) : tAsg te g ⟨nx, rt, bk, ct⟩ σ H := q
theorem x_name {k : Nat} {QS : St → Hp → Prop} (q : QS (σ.set k (some v)) H) : gName k v σ H QS := q
theorem x_sub {to ti : TE} {t : TSet} {QS : St → Hp → Prop} (q : to σ H fun o H1 => ti σ H1 fun i H2 => t o i v H2 fun H3 => QS σ H3) : gSub to ti t v σ H QS := q
theorem x_setL {QH : Hp → Prop} (O : Own B H M R) (k : Nat) (hk : R[k]? = some (a, .lst xs)) (hi : ixN xs.length i = some n) (q : ∀ H1, Own B H1 M (R.set k (a, .lst (xs.set n v))) → QH H1) : rSetL (.ref a) (.int i) v H QH :=
  ⟨a, xs, i, n, rfl, rfl, O.get k hk, hi, q _ (O.put k hk _)⟩
theorem x_drop (q : te σ H fun _ H1 => nx σ H1) : tDrop te ⟨nx, rt, bk, ct⟩ σ H := q
theorem x_ret (q : te σ H rt) : tRet te ⟨nx, rt, bk, ct⟩ σ H := q
theorem x_retN (q : rt .non H) : tRetN ⟨nx, rt, bk, ct⟩ σ H := q
theorem x_ifs (q : tt σ H fun b H1 => if b = true then s1 ⟨nx, rt, bk, ct⟩ σ H1 else s2 ⟨nx, rt, bk, ct⟩ σ H1) : tIfS tt s1 s2 ⟨nx, rt, bk, ct⟩ σ H := q
theorem x_next (q : nx σ H) : tNext ⟨nx, rt, bk, ct⟩ σ H := q
theorem x_brk (q : bk σ H) : tBreak ⟨nx, rt, bk, ct⟩ σ H := q
theorem x_cnt (q : ct σ H) : tCont ⟨nx, rt, bk, ct⟩ σ H := q
/-! #### methods of a tracked list -/
theorem x_bm {T : String} {r : V → List V → Hp → VK → Prop} (q : ta σ H fun x H1 => tyV K T x H1 ∧ tar σ H1 fun xs H2 => r x xs H2 Q) : tBM K T r ta tar σ H Q := q
theorem x_bm0 {T : String} {r : V → List V → Hp → VK → Prop} (q : ta σ H fun x H1 => tyV K T x H1 ∧ r x [] H1 Q) : tBM0 K T r ta σ H Q := q
theorem x_tyL {P : Prop} (h : H a = some (.lst xs)) (q : P) : tyV K "list" (.ref a) H ∧ P := ⟨.inl ⟨rfl, xs, SqL.of h⟩, q⟩
theorem x_tyS {P : Prop} (q : P) : tyV K "str" (.str z) H ∧ P := ⟨rfl, q⟩
theorem x_append (O : Own B H M R) (k : Nat) (hk : R[k]? = some (a, .lst xs)) (hz : xs.length < sizeLine) (q : ∀ H1, Own B H1 M (R.set k (a, .lst (xs ++ [v]))) → Q .non H1) : rAppend (.ref a) [v] H Q :=
  ⟨a, xs, v, rfl, rfl, O.get k hk, hz, q _ (O.put k hk _)⟩
theorem x_pop (O : Own B H M R) (k : Nat) (hk : R[k]? = some (a, .lst xs)) (hv : xs[xs.length - 1]? = some v) (q : ∀ H1, Own B H1 M (R.set k (a, .lst xs.dropLast)) → Q v H1) : rPop (.ref a) [] H Q :=
  ⟨a, xs, v, rfl, rfl, O.get k hk, hv, q _ (O.put k hk _)⟩
theorem x_popAt (O : Own B H M R) (k : Nat) (hk : R[k]? = some (a, .lst xs)) (n : Nat) (h1 : -(2 ^ 63) ≤ i) (h2 : i < 2 ^ 63) (hn : seqIndex? i xs.length = some n) (hv : xs[n]? = some v) (q : ∀ H1, Own B H1 M (R.set k (a, .lst (xs.eraseIdx n))) → Q v H1) : rPopAt (.ref a) [.int i] H Q :=
  ⟨a, xs, i, n, v, rfl, rfl, O.get k hk, h1, h2, hn, hv, q _ (O.put k hk _)⟩
end

/-! ### named rules -/
section
variable {X : Cx}
def rLen (K : PySem.W.Frag) : List V → Hp → VK → Prop := fun xs H Q => ∃ x n, xs = [x] ∧ LenV K x H n ∧ Q (.int n) H
theorem callLen : CallR X (.builtin "len") (rLen X.K) := call_len
def rInt : List V → Hp → VK → Prop := fun xs H Q => (∃ i, xs = [.int i] ∧ Q (.int i) H) ∨ ∃ k, xs = [.bl k] ∧ Q (.int (if k then 1 else 0)) H
theorem callInt : CallR X (.type "int") rInt := call_int1
def rMin2 : List V → Hp → VK → Prop := fun xs H Q => ∃ i j, xs = [.int i, .int j] ∧ Q (.int (if j < i then j else i)) H
theorem callMin2 (hc : X.calm = true) : CallR X (.builtin "min") rMin2 := call_min2 hc
def rMax2 : List V → Hp → VK → Prop := fun xs H Q => ∃ i j, xs = [.int i, .int j] ∧ Q (.int (if j > i then j else i)) H
theorem callMax2 (hc : X.calm = true) : CallR X (.builtin "max") rMax2 := call_max2 hc
def rAbs : List V → Hp → VK → Prop := fun xs H Q => ∃ i, xs = [.int i] ∧ Q (.int (if i < 0 then -i else i)) H
theorem callAbs : CallR X (.builtin "abs") rAbs := call_abs
def rListOf (K : PySem.W.Frag) : List V → Hp → VK → Prop := fun xs H Q => ∃ p ys, xs = [.ref p] ∧ (SqL K H p ys ∨ SqT K H p ys) ∧ ∀ l, H l = none → Q (.ref l) (upd H l (.lst ys))
theorem callListOf : CallR X (.type "list") (rListOf X.K) := call_list_of
def rAddS : R2 := fun x y H Q => ∃ i j, x = .str i ∧ y = .str j ∧ i.length + j.length ≤ sizeLine ∧ Q (.str (i ++ j)) H
theorem opAddS : OpR X (binaryOp .Add) rAddS := op_add_str
def rInC : R2 := fun x y H Q => ∃ (c : Nat) (z : Str), x = .str ⟨#[c]⟩ ∧ y = .str z ∧ Q (.bl (decide (c ∈ z.cps.toList))) H
theorem opInC : OpR X (compareOp .In) rInC := op_in_sign
def rNotInC : R2 := fun x y H Q => ∃ (c : Nat) (z : Str), x = .str ⟨#[c]⟩ ∧ y = .str z ∧ Q (.bl (!decide (c ∈ z.cps.toList))) H
theorem opNotInC : OpR X (compareOp .NotIn) rNotInC := op_notIn_sign
def rIsN : R2 := fun x y H Q => y = .non ∧ Q (.bl (decide (x = .non))) H
theorem opIsN : OpR X (compareOp .Is) rIsN := op_isN
def rNotN : R2 := fun x y H Q => y = .non ∧ Q (.bl (!decide (x = .non))) H
theorem opNotN : OpR X (compareOp .IsNot) rNotN := op_notN
def tTru (K : PySem.W.Frag) (ta : TE) : TT := fun σ H Q => ta σ H fun x H' => ∃ k, TruV K x H' k ∧ Q k H'
theorem ptTruth {a : Expr} {ta : TE} (ha : PE X a ta) (he : ∀ whole, isTrue a X.env whole = (do let v ← whole; standAt a.pos; holding [v] (truthy v))) : PT X a (tTru X.K ta) := pt_truth ha he
def rUpper : V → List V → Hp → VK → Prop := fun x xs H Q => ∃ a, x = .str a ∧ xs = [] ∧ a.length ≤ 5592405 ∧ Q (.str (Txt.upper a)) H
theorem mtUpper : MtR X "str.upper" rUpper := mt_upper
def rLower : V → List V → Hp → VK → Prop := fun x xs H Q => ∃ a, x = .str a ∧ xs = [] ∧ a.length ≤ 5592405 ∧ Q (.str (Txt.lower a)) H
theorem mtLower : MtR X "str.lower" rLower := mt_lower
def rFind : V → List V → Hp → VK → Prop := fun x xs H Q => ∃ a b, x = .str a ∧ xs = [.str b] ∧ Q (.int (Txt.find a b)) H
theorem mtFind : MtR X "str.find" rFind := mt_find
def rJoin (K : PySem.W.Frag) : V → List V → Hp → VK → Prop := fun x xs H Q => ∃ a p, ∃ ys : List Str, x = .str a ∧ xs = [.ref p] ∧ (SqL K H p (ys.map V.str) ∨ SqT K H p (ys.map V.str)) ∧
    (ys.map (·.length)).sum + ys.length * a.length ≤ 16777216 ∧ Q (.str (Txt.join a ys)) H
theorem mtJoin : MtR X "str.join" (rJoin X.K) := mt_join
end
section
variable {K : PySem.W.Frag} {σ : St} {B H H' : Hp} {M R : List (Addr × HO)} {a p : Addr} {Q : VK} {ta : TE} {i j : Int} {z z1 z2 : Str} {xs : List V} {QT : Bool → Hp → Prop} {x : V} {c : Nat}
theorem x_lenS (h : z.length ≤ sizeLine) (q : Q (.int z.length) H) : rLen K [.str z] H Q := ⟨.str z, _, rfl, ⟨h, rfl⟩, q⟩
theorem x_lenL (h : H a = some (.lst xs)) (q : Q (.int xs.length) H) : rLen K [.ref a] H Q := ⟨.ref a, _, rfl, .inl ⟨xs, SqL.of h, rfl⟩, q⟩
theorem x_lenT (h : H a = some (.tup xs)) (q : Q (.int xs.length) H) : rLen K [.ref a] H Q := ⟨.ref a, _, rfl, .inr ⟨xs, SqT.of h, rfl⟩, q⟩
theorem x_int (q : Q (.int i) H) : rInt [.int i] H Q := .inl ⟨i, rfl, q⟩
theorem x_min2 (q : Q (.int (if j < i then j else i)) H) : rMin2 [.int i, .int j] H Q := ⟨i, j, rfl, q⟩
theorem x_max2 (q : Q (.int (if j > i then j else i)) H) : rMax2 [.int i, .int j] H Q := ⟨i, j, rfl, q⟩
theorem x_abs (q : Q (.int (if i < 0 then -i else i)) H) : rAbs [.int i] H Q := ⟨i, rfl, q⟩
theorem x_listOf (O : Own B H M R) (h : H a = some (.lst xs) ∨ H a = some (.tup xs)) (q : ∀ p H1, B p = none → Own B H1 M (R ++ [(p, .lst xs)]) → Q (.ref p) H1) : rListOf K [.ref a] H Q :=
  ⟨a, xs, rfl, h.imp SqL.of SqT.of, fun l hl => q l _ (O.base_free hl) (O.new hl)⟩
theorem x_addS (h : z1.length + z2.length ≤ sizeLine) (q : Q (.str (z1 ++ z2)) H) : rAddS (.str z1) (.str z2) H Q := ⟨z1, z2, rfl, rfl, h, q⟩
theorem x_inC (q : Q (.bl (decide (c ∈ TL.tl z))) H) : rInC (.str ⟨#[c]⟩) (.str z) H Q := ⟨c, z, rfl, rfl, q⟩
theorem x_notInC (q : Q (.bl (!decide (c ∈ TL.tl z))) H) : rNotInC (.str ⟨#[c]⟩) (.str z) H Q := ⟨c, z, rfl, rfl, q⟩
theorem x_isN (q : Q (.bl (decide (x = .non))) H) : rIsN x .non H Q := ⟨rfl, q⟩
theorem x_notN (q : Q (.bl (!decide (x = .non))) H) : rNotN x .non H Q := ⟨rfl, q⟩
theorem x_isNn (q : Q (.bl true) H) : rIsN .non .non H Q := ⟨rfl, q⟩
theorem x_notNn (q : Q (.bl false) H) : rNotN .non .non H Q := ⟨rfl, q⟩
theorem x_isNi (q : Q (.bl false) H) : rIsN (.int i) .non H Q := ⟨rfl, q⟩
theorem x_notNi (q : Q (.bl true) H) : rNotN (.int i) .non H Q := ⟨rfl, q⟩
theorem x_isNs (q : Q (.bl false) H) : rIsN (.str z) .non H Q := ⟨rfl, q⟩
theorem x_notNs (q : Q (.bl true) H) : rNotN (.str z) .non H Q := ⟨rfl, q⟩
theorem x_isNb {b : Bool} (q : Q (.bl false) H) : rIsN (.bl b) .non H Q := ⟨rfl, q⟩
theorem x_notNb {b : Bool} (q : Q (.bl true) H) : rNotN (.bl b) .non H Q := ⟨rfl, q⟩
theorem x_isNr (q : Q (.bl false) H) : rIsN (.ref a) .non H Q := ⟨rfl, q⟩
theorem x_notNr (q : Q (.bl true) H) : rNotN (.ref a) .non H Q := ⟨rfl, q⟩
theorem x_tru (q : ta σ H fun x H' => ∃ k, TruV K x H' k ∧ QT k H') : tTru K ta σ H QT := q
theorem x_truL {P : Bool → Prop} (h : H a = some (.lst xs)) (q : P (!xs.isEmpty)) : ∃ k, TruV K (.ref a) H k ∧ P k := ⟨_, .inl ⟨xs, SqL.of h, rfl⟩, q⟩
theorem x_truS {P : Bool → Prop} (h : z.length ≤ sizeLine) (q : P ((z.length : Int) != 0)) : ∃ k, TruV K (.str z) H k ∧ P k := ⟨_, ⟨h, rfl⟩, q⟩
theorem x_truB {P : Bool → Prop} {b : Bool} (q : P b) : ∃ k, TruV K (.bl b) H k ∧ P k := ⟨_, rfl, q⟩
theorem x_truI {P : Bool → Prop} (q : P (i != 0)) : ∃ k, TruV K (.int i) H k ∧ P k := ⟨_, rfl, q⟩
theorem x_truN {P : Bool → Prop} (q : P false) : ∃ k, TruV K .non H k ∧ P k := ⟨_, rfl, q⟩
theorem x_upper (h : z.length ≤ 5592405) (q : Q (.str (Txt.upper z)) H) : rUpper (.str z) [] H Q := ⟨z, rfl, rfl, h, q⟩
theorem x_lower (h : z.length ≤ 5592405) (q : Q (.str (Txt.lower z)) H) : rLower (.str z) [] H Q := ⟨z, rfl, rfl, h, q⟩
theorem x_find (q : Q (.int (Txt.find z1 z2)) H) : rFind (.str z1) [.str z2] H Q := ⟨z1, z2, rfl, rfl, q⟩
theorem x_joinL (ys : List Str) (h : H p = some (.lst (ys.map V.str))) (hz : (ys.map (·.length)).sum + ys.length * z.length ≤ 16777216) (q : Q (.str (Txt.join z ys)) H) : rJoin K (.str z) [.ref p] H Q :=
  ⟨z, p, ys, rfl, rfl, .inl (SqL.of h), hz, q⟩
end

/-! ### slices -/
section
variable {K : PySem.W.Frag} {σ : St} {B H H' : Hp} {M R : List (Addr × HO)} {a p : Addr} {Q : VK} {te : TE} {i : Int} {z : Str} {xs : List V} {tl th : TO} {r : V → Option Int → Option Int → Hp → VK → Prop} {QO : Option Int → Hp → Prop} {lo hi : Option Int}
theorem x_sl (q : te σ H fun x H1 => tl σ H1 fun l H2 => th σ H2 fun u H3 => r x l u H3 Q) : tSl r te tl th σ H Q := q
theorem x_noPart (q : QO none H) : tNoPart σ H QO := q
theorem x_part (q : te σ H fun x H1 => ∃ i, x = .int i ∧ QO (some i) H1) : tPart te σ H QO := q
theorem x_pI {P : Int → Prop} (q : P i) : ∃ j, V.int i = .int j ∧ P j := ⟨i, rfl, q⟩
theorem x_slS (hz : z.length ≤ sizeLine) (q : Q (.str (cutS z lo hi)) H) : rSlS (.str z) lo hi H Q := ⟨z, rfl, hz, q⟩
theorem x_slL (hx : SqL K H a xs) (O : Own B H M R) (q : ∀ p H1, B p = none → Own B H1 M (R ++ [(p, .lst (cutV xs lo hi))]) → Q (.ref p) H1) : rSlL K (.ref a) lo hi H Q := ⟨a, xs, rfl, hx, fun p hp => q p _ (O.base_free hp) (O.new hp)⟩
theorem Own.perm {R' : List (Addr × HO)} (O : Own B H M R) (h : R.Perm R') : Own B H M R' := by
  have e : (M ++ R).Perm (M ++ R') := List.Perm.append_left M h
  exact ⟨(e.map Prod.fst).nodup_iff.mp O.nd, fun x hx => O.at_ x (e.mem_iff.mpr hx), fun b hb o q => O.out b (fun z => hb ((e.map Prod.fst).mem_iff.mp z)) o q⟩
theorem Own.close {N : List (Addr × HO)} (O : Own B H [] (R ++ N)) : Own B H N R := by
  have e : ([] ++ (R ++ N)).Perm (N ++ R) := by rw [List.nil_append]; exact List.perm_append_comm
  exact ⟨(e.map Prod.fst).nodup_iff.mp O.nd, fun x hx => O.at_ x (e.mem_iff.mpr hx), fun b hb o q => O.out b (fun z => hb ((e.map Prod.fst).mem_iff.mp z)) o q⟩
end

section
variable {K : PySem.W.Frag} {B H : Hp} {M R : List (Addr × HO)} {a b : Addr} {Q : VK} {xs ys : List V}
theorem x_cat (O : Own B H M R) (h1 : H a = some (.lst xs)) (h2 : H b = some (.lst ys)) (hz : xs.length + ys.length ≤ sizeLine) (q : ∀ p H1, B p = none → Own B H1 M (R ++ [(p, .lst (xs ++ ys))]) → Q (.ref p) H1) : rCat (.ref a) (.ref b) H Q :=
  ⟨a, b, xs, ys, rfl, rfl, h1, h2, hz, fun p hp => q p _ (O.base_free hp) (O.new hp)⟩
theorem x_lstRg {te : St → Hp → (Int → Int → Hp → Prop) → Prop} {σ : St} (q : te σ H fun a b H1 => RgOk a b ∧ ∀ q, H1 q = none → Q (.ref q) (upd H1 q (.lst (rgV a b)))) : tLstRg te σ H Q := q
def newRg (a b : Int) (H : Hp) (Q : VK) : Prop := RgOk a b ∧ ∀ q, H q = none → Q (.ref q) (upd H q (.lst (rgV a b)))
theorem x_lstRg1 {ta : TE} {σ : St} (q : ta σ H fun x H1 => ∃ n, x = .int n ∧ newRg 0 n H1 Q) : tLstRg (tRg1 ta) σ H Q := q
theorem x_lstRg2 {ta tb : TE} {σ : St} (q : ta σ H fun x H1 => tb σ H1 fun y H2 => ∃ i j, x = .int i ∧ y = .int j ∧ newRg i j H2 Q) : tLstRg (tRg2 ta tb) σ H Q := q
theorem rgV_ints (a b : Int) : rgV a b = ((List.range (b - a).toNat).map fun i : Nat => a + (i : Int)).map V.int := by unfold rgV; rw [List.map_map]; rfl
theorem x_newRg {n m : Int} (O : Own B H M R) (h : RgOk n m) (q : ∀ p H1, B p = none → Own B H1 M (R ++ [(p, .lst (((List.range (m - n).toNat).map fun i : Nat => n + (i : Int)).map V.int))]) → Q (.ref p) H1) : newRg n m H Q :=
  ⟨h, fun p hp => q p _ (O.base_free hp) (by rw [← rgV_ints]; exact O.new hp)⟩
end

/-! ### promises: a part of the heap M is told by D and given back -/
/-- the closed part is what D says, at the cells A -/
structure In (D : Addr → List (Addr × HO) → Prop) (a : Addr) (A : List Addr) (M : List (Addr × HO)) : Prop where
  d : D a M
  e : M.map Prod.fst = A
/-- with a closed part (a box) at the first argument's address: D a M says what the box at a is -/
def spB (n : Nat) (D : Addr → List (Addr × HO) → Prop) (pre : List V → Prop) (post : List V → V → Prop) : Sp := fun vs H Q _ =>
  ∃ a A M rest, vs = .ref a :: rest ∧ rest.length = n ∧ In D a A M ∧ Own H H M [] ∧ pre rest ∧ ∀ v H' M', In D a A M' → Own H H' M' [] → post rest v → Q v H'
/-- plain values in, a plain value out -/
def spP (n : Nat) (pre : List V → Prop) (post : List V → V → Prop) : Sp := fun vs H Q _ => vs.length = n ∧ pre vs ∧ ∀ v H', Own H H' [] [] → post vs v → Q v H'
/-- plain values in, a new object out -/
def spNew (n : Nat) (pre : List V → Prop) (post : List V → HO → Prop) : Sp := fun vs H Q _ => vs.length = n ∧ pre vs ∧ ∀ p H' o, H p = none → Own H H' [] [(p, o)] → post vs o → Q (.ref p) H'
theorem hl_spNew {n : Nat} {pre : List V → Prop} {post : List V → HO → Prop} : ∀ vs H Q E, spNew n pre post vs H Q E → vs.length = n := fun vs H Q E h => h.1
theorem hl_spB {n : Nat} {D : Addr → List (Addr × HO) → Prop} {pre : List V → Prop} {post : List V → V → Prop} : ∀ vs H Q E, spB n D pre post vs H Q E → vs.length = n + 1 := fun vs H Q E h => by
  obtain ⟨a, A, M, rest, rfl, e, _⟩ := h
  rw [List.length_cons, e]
theorem hl_spP {n : Nat} {pre : List V → Prop} {post : List V → V → Prop} : ∀ vs H Q E, spP n pre post vs H Q E → vs.length = n := fun vs H Q E h => h.1
section
variable {B H : Hp} {M R : List (Addr × HO)} {a : Addr} {Q : VK} {E : XK} {D : Addr → List (Addr × HO) → Prop} {pre : List V → Prop} {post : List V → V → Prop} {vs : List V} {n : Nat}
theorem use_spP (O : Own B H M R) (hl : vs.length = n) (hp : pre vs) (q : ∀ v H', Own B H' M R → post vs v → Q v H') : spP n pre post vs H Q E := ⟨hl, hp, fun v H' O' h => q v H' (O.call0 O') h⟩
theorem use_spNew {post : List V → HO → Prop} (O : Own B H M R) (hl : vs.length = n) (hp : pre vs) (q : ∀ p H' o, B p = none → Own B H' M (R ++ [(p, o)]) → post vs o → Q (.ref p) H') : spNew n pre post vs H Q E :=
  ⟨hl, hp, fun p H' o hp O' h => q p H' o (O.base_free hp) (O.callN O' fun x hx => by rw [List.mem_singleton.mp hx]; exact hp) h⟩
theorem use_spB {rest : List V} {A : List Addr} (O : Own B H M R) (hD : In D a A M) (hl : rest.length = n) (hp : pre rest) (q : ∀ v H' M', In D a A M' → Own B H' M' R → post rest v → Q v H') : spB n D pre post (.ref a :: rest) H Q E :=
  ⟨a, A, M, rest, rfl, hl, hD, O.sub, hp, fun v H' M' hD' O' h => q v H' M' hD' (by
    have := O.call O' (hD'.e.trans hD.e.symm) (fun _ h => absurd h List.not_mem_nil)
    rw [List.append_nil] at this
    exact this) h⟩
theorem Own.opened (O : Own B H M []) : Own B H [] M := ⟨by have h := O.nd; rw [List.append_nil] at h; exact h, by have h := O.at_; rw [List.append_nil] at h; exact h, by have h := O.out; rw [List.append_nil] at h; exact h⟩
theorem Own.closed (O : Own B H [] R) : Own B H R [] := ⟨by rw [List.append_nil]; exact O.nd, by rw [List.append_nil]; exact O.at_, by rw [List.append_nil]; exact O.out⟩
end
end NF

/-! Own toolkit: further rules, defs by name, the end. -/
namespace NF
open PySem L2 PySem.Spec PyProof.Rows PySem.W

/-! ### a global constant, a def by its name -/
section
variable {X : Cx}
theorem pe_g {x : Str} {v : V} {pos : Pos} (hg : Gl X x) (hm : ∃ u, X.mg x = some u ∧ RelV v u) (hd : (x == ("__debug__" : Str)) = false := by decide) : PE X (.Name x pos) (tC v) := by
  obtain ⟨u, h, r⟩ := hm
  exact pe_glob hg h r hd
end
/-- a def as the top leaves it -/
def Fn0 (K : PySem.W.Frag) (mg : Str → Option Value) (x : Str) (st : Stmt) : Prop := ∃ f fd, Fun K x x st f fd ∧ mg x = some (.ref f)
/-- a def by its name, with its promise -/
structure Def (P : Program) (w : World) (K : PySem.W.Frag) (mg : Str → Option Value) (base : Heap) (k : Nat) (x : Str) (ps : List Str) (sp : Sp) : Prop where
  ex : ∃ f fd, FnOk P w K mg base CX0 k f fd ps sp ∧ mg x = some (.ref f) ∧ PySem.W.keepIn K (.ref f) = true ∧ Binds K fd ps []
section
variable {P : Program} {w : World} {K : PySem.W.Frag} {mg : Str → Option Value} {base : Heap}
theorem Def.mk0 {x : Str} {st : Stmt} {N ps : List Str} {k : Nat} {sp : Sp} (F : Fn0 K mg x st) (S : FnScope N ps (defScope st)) (len : ∀ vs H Q E, sp vs H Q E → vs.length = ps.length)
    (hbind : ∀ (kV doc pm : Value) (an : Option Addr) (cdv ct : Value) (us : List Value), us.length = ps.length → bindArgs (PySem.W.fnOf x x (defArgs st) (defBody st) (defScope st) .none kV doc pm an cdv ct) ⟨us, []⟩ = pure (ps.zip us))
    (hbody : ∀ {f : Addr} (cdv : Value) (A : Around) (outer : List Env) (s : Shared) (H : Hp) (vs : List V) (Q : VK) (E : XK), Room k (A.deeper (envOfC x (defScope st) s.heap.objs.size f cdv)) → sp vs H Q E →
      ∃ t, PSs (cxOf CX0 P w K mg base N x (defScope st) f cdv A outer s H E).nox (defBody st) t ∧ t { nx := fun _ H' => Q .non H', rt := Q } (start N vs) H) : Def P w K mg base (k + 1) x ps sp := by
  obtain ⟨f, fd, F, hm⟩ := F
  exact ⟨f, fd, F.ok S len fun cdv A outer s H vs Q E hr h => hbody cdv A outer s H vs Q E hr h, hm, F.kp, F.binds hbind⟩
end
section
variable {X : Cx} {k : Nat} {x : Str} {ps : List Str} {sp : Sp} {p pos : Pos} {e : Expr} {es : List Expr} {t : TA}
theorem pe_d (D : Def X.prog X.w X.K X.mg X.base k x ps sp) (hr : Room k X.A) (hg : Gl X x) (ha : PA X (e :: es) t) (hdb : (x == ("__debug__" : Str)) = false := by decide)
    (he : starEach (e :: es) X.env = (false, eval e X.env) :: starEach es X.env := by rfl) (hpl : (backTo pos (starEach es X.env)).any (·.1) = false := by rfl) : PE X (.Call (.Name x p) (e :: es) [] pos) (tCall sp [] E0 t) := by
  obtain ⟨f, fd, F, hm, hk, hb⟩ := D.ex
  exact pe_call F hr hg hm hk hb .nil pass0 ha hdb he hpl
theorem pe_d0 (D : Def X.prog X.w X.K X.mg X.base k x ps sp) (hr : Room k X.A) (hg : Gl X x) (hdb : (x == ("__debug__" : Str)) = false := by decide) : PE X (.Call (.Name x p) [] [] pos) (tCall sp [] E0 tNil) := by
  obtain ⟨f, fd, F, hm, hk, hb⟩ := D.ex
  exact pe_call0 F hr hg hm hk hb .nil pass0 hdb
end

/-! ### what the head hands over -/
structure Has (K : PySem.W.Frag) (x : Str) (st : Stmt) : Prop where
  ex : ∃ (f : Addr) (oc : Value) (od an : Option Addr) (kV dc pm cd ct : Value) (sl : Array (Option Value)), PySem.W.nsIn K mainGlobals x = some (some (.ref f)) ∧
    K.lookup f = some ⟨oc, od, .func (PySem.W.fnOf x x (defArgs st) (defBody st) (defScope st) .none kV dc pm an cd ct), sl⟩ ∧ PySem.W.codeIn K cd x = true ∧ PySem.W.keepIn K (.ref f) = true
theorem has_mk {K : PySem.W.Frag} {x : Str} {st : Stmt} {f : Addr} {oc : Value} {od an : Option Addr} {kV dc pm cd ct : Value} {sl : Array (Option Value)} (h1 : PySem.W.nsIn K mainGlobals x = some (some (.ref f)))
    (h2 : K.lookup f = some ⟨oc, od, .func (PySem.W.fnOf x x (defArgs st) (defBody st) (defScope st) .none kV dc pm an cd ct), sl⟩) (h3 : PySem.W.codeIn K cd x = true) (h4 : PySem.W.keepIn K (.ref f) = true) : Has K x st := ⟨f, oc, od, an, kV, dc, pm, cd, ct, sl, h1, h2, h3, h4⟩
theorem Has.fn {K : PySem.W.Frag} {x : Str} {st : Stmt} {h : Heap} {mg : Str → Option Value} (A : Has K x st) (X : K.In h) (G : h.Ns mainGlobals mg) : Fn0 K mg x st := by
  obtain ⟨f, oc, od, an, kV, dc, pm, cd, ct, sl, h1, h2, h3, h4⟩ := A.ex
  exact ⟨f, _, fun_mk h2 h3 h4, PySem.W.mg_of X G h1⟩
/-- a constant of the module -/
structure HasC (K : PySem.W.Frag) (x : Str) (v : V) : Prop where
  ex : ∃ u, PySem.W.nsIn K mainGlobals x = some (some u) ∧ RelV v u
theorem hasC_mk {K : PySem.W.Frag} {x : Str} {v : V} {u : Value} (h : PySem.W.nsIn K mainGlobals x = some (some u)) (r : RelV v u) : HasC K x v := ⟨u, h, r⟩
theorem HasC.mg {K : PySem.W.Frag} {x : Str} {v : V} {h : Heap} {mg : Str → Option Value} (A : HasC K x v) (X : K.In h) (G : h.Ns mainGlobals mg) : ∃ u, mg x = some u ∧ RelV v u := by
  obtain ⟨u, h1, r⟩ := A.ex
  exact ⟨u, PySem.W.mg_of X G h1, r⟩
theorem law_end {l : PySem.W.OpenLaw} {w : World} {K : PySem.W.Frag} {h : Heap} {mg : Str → Option Value} {fa : Addr} {st : Stmt} {k : Nat} {sp : Sp} (X : K.In h) (G : h.Ns mainGlobals mg) (hfa : mg "law" = some (.ref fa)) (A : Has K "law" st)
    (hbind : ∀ (kV doc pm : Value) (an : Option Addr) (cdv ct : Value) (s : Shared) (v : Value), BindsTo s (PySem.W.fnOf "law" "law" (defArgs st) (defBody st) (defScope st) .none kV doc pm an cdv ct) ⟨[v], []⟩ [("script", v)])
    (F : ∀ (base : Heap) (fd : FuncData), Fun K "law" "law" st fa fd → FnOk l.prog w K mg base CX0 k fa fd ["script"] sp) :
    ∃ fd : FuncData, (∀ (s : Shared) (v : Value), BindsTo s fd ⟨[v], []⟩ [("script", v)]) ∧ ∀ base : Heap, K.In base → base.Ns mainGlobals mg → FnOk l.prog w K mg base CX0 k fa fd ["script"] sp := by
  obtain ⟨f, oc, od, an, kV, dc, pm, cd, ct, sl, h1, h2, h3, h4⟩ := A.ex
  have e := hfa.symm.trans (PySem.W.mg_of X G h1)
  cases e
  exact ⟨_, fun s v => hbind kV dc pm an cd ct s v, fun base _ _ => F base _ (fun_mk h2 h3 h4)⟩

/-! ### isinstance(x, T), T a built-in class -/
def rIsT (K : PySem.W.Frag) : List V → Hp → VK → Prop := fun xs H Q => ∃ x T n b, xs = [x, .ty T] ∧ TyX K H x (.type n) ∧ kitB n T = some b ∧ Q (.bl b) H
theorem callIsT {X : Cx} : CallR X (.builtin "isinstance") (rIsT X.K) := fun pins s σ H xs us Q I r h => by
  obtain ⟨x, T, n, b, rfl, ty, hb, q⟩ := h
  exact call_isi pins s σ H _ us Q I r ⟨x, .ty T, .type n, .type T, b, rfl, .ty T, ty, kit_ty hb, q⟩
theorem pe_ty {X : Cx} {T : Str} {n : String} {q : Pos} (hgT : Gl X T) (hmT : X.mg T = none) (hvT : bootBuiltins T = some (.type n)) (hn : T ≠ "__name__" := by decide) (hd : (T == ("__debug__" : Str)) = false := by decide) : PE X (.Name T q) (tC (.ty n)) :=
  pe_bltn hgT hmT hvT rfl hn hd
section
variable {K : PySem.W.Frag} {H : Hp} {Q : VK} {T : String} {a : Addr} {xs : List V} {b : Bool}
theorem x_isI {i : Int} (hb : kitB "int" T = some b) (q : Q (.bl b) H) : rIsT K [.int i, .ty T] H Q := ⟨_, _, _, b, rfl, .base (.int i), hb, q⟩
theorem x_isB {i : Bool} (hb : kitB "bool" T = some b) (q : Q (.bl b) H) : rIsT K [.bl i, .ty T] H Q := ⟨_, _, _, b, rfl, .base (.bl i), hb, q⟩
theorem x_isS {i : Str} (hb : kitB "str" T = some b) (q : Q (.bl b) H) : rIsT K [.str i, .ty T] H Q := ⟨_, _, _, b, rfl, .base (.str i), hb, q⟩
theorem x_isNon (hb : kitB "NoneType" T = some b) (q : Q (.bl b) H) : rIsT K [.non, .ty T] H Q := ⟨_, _, _, b, rfl, .base .non, hb, q⟩
theorem x_isL (h : H a = some (.lst xs)) (hb : kitB "list" T = some b) (q : Q (.bl b) H) : rIsT K [.ref a, .ty T] H Q := ⟨_, _, _, b, rfl, .base (.lst h), hb, q⟩
theorem x_isT (h : H a = some (.tup xs)) (hb : kitB "tuple" T = some b) (q : Q (.bl b) H) : rIsT K [.ref a, .ty T] H Q := ⟨_, _, _, b, rfl, .base (.tup h), hb, q⟩
end

theorem kit_int_int : kitB "int" "int" = some true := by decide +kernel
theorem kit_int_bool : kitB "int" "bool" = some false := by decide +kernel
theorem kit_int_str : kitB "int" "str" = some false := by decide +kernel
theorem kit_int_list : kitB "int" "list" = some false := by decide +kernel
theorem kit_int_tuple : kitB "int" "tuple" = some false := by decide +kernel
theorem kit_int_dict : kitB "int" "dict" = some false := by decide +kernel
theorem kit_bool_int : kitB "bool" "int" = some true := by decide +kernel
theorem kit_bool_bool : kitB "bool" "bool" = some true := by decide +kernel
theorem kit_bool_str : kitB "bool" "str" = some false := by decide +kernel
theorem kit_bool_list : kitB "bool" "list" = some false := by decide +kernel
theorem kit_bool_tuple : kitB "bool" "tuple" = some false := by decide +kernel
theorem kit_bool_dict : kitB "bool" "dict" = some false := by decide +kernel
theorem kit_str_int : kitB "str" "int" = some false := by decide +kernel
theorem kit_str_bool : kitB "str" "bool" = some false := by decide +kernel
theorem kit_str_str : kitB "str" "str" = some true := by decide +kernel
theorem kit_str_list : kitB "str" "list" = some false := by decide +kernel
theorem kit_str_tuple : kitB "str" "tuple" = some false := by decide +kernel
theorem kit_str_dict : kitB "str" "dict" = some false := by decide +kernel
theorem kit_NoneType_int : kitB "NoneType" "int" = some false := by decide +kernel
theorem kit_NoneType_bool : kitB "NoneType" "bool" = some false := by decide +kernel
theorem kit_NoneType_str : kitB "NoneType" "str" = some false := by decide +kernel
theorem kit_NoneType_list : kitB "NoneType" "list" = some false := by decide +kernel
theorem kit_NoneType_tuple : kitB "NoneType" "tuple" = some false := by decide +kernel
theorem kit_NoneType_dict : kitB "NoneType" "dict" = some false := by decide +kernel
theorem kit_list_int : kitB "list" "int" = some false := by decide +kernel
theorem kit_list_bool : kitB "list" "bool" = some false := by decide +kernel
theorem kit_list_str : kitB "list" "str" = some false := by decide +kernel
theorem kit_list_list : kitB "list" "list" = some true := by decide +kernel
theorem kit_list_tuple : kitB "list" "tuple" = some false := by decide +kernel
theorem kit_list_dict : kitB "list" "dict" = some false := by decide +kernel
theorem kit_tuple_int : kitB "tuple" "int" = some false := by decide +kernel
theorem kit_tuple_bool : kitB "tuple" "bool" = some false := by decide +kernel
theorem kit_tuple_str : kitB "tuple" "str" = some false := by decide +kernel
theorem kit_tuple_list : kitB "tuple" "list" = some false := by decide +kernel
theorem kit_tuple_tuple : kitB "tuple" "tuple" = some true := by decide +kernel
theorem kit_tuple_dict : kitB "tuple" "dict" = some false := by decide +kernel
theorem kit_dict_int : kitB "dict" "int" = some false := by decide +kernel
theorem kit_dict_bool : kitB "dict" "bool" = some false := by decide +kernel
theorem kit_dict_str : kitB "dict" "str" = some false := by decide +kernel
theorem kit_dict_list : kitB "dict" "list" = some false := by decide +kernel
theorem kit_dict_tuple : kitB "dict" "tuple" = some false := by decide +kernel
theorem kit_dict_dict : kitB "dict" "dict" = some true := by decide +kernel

/-! ### text * n -/
def rMulS : R2 := fun x y H Q => ∃ z n, x = .str z ∧ y = .int n ∧ z.length ≤ 1000000 ∧ n ≤ 1000000 ∧ -(2 ^ 63) ≤ n ∧ z.length * n.toNat ≤ sizeLine ∧ Q (.str (Txt.mul z n)) H
theorem opMulS {X : Cx} : OpR X (binaryOp .Mult) rMulS := fun pins s σ H x y u v Q I rx ry h => by
  obtain ⟨z, n, rfl, rfl, hz, hn, hn0, hl, q⟩ := h
  obtain ⟨t, rfl⟩ := rx
  obtain ⟨t', rfl⟩ := ry
  refine SB.mul ⟨?_, fun h1 h2 => ?_, fun h1 h2 => ?_⟩ fun t' k => ⟨.str (Txt.mul z n), H, I.tok k, ⟨_, rfl⟩, q⟩
  · rw [decide_eq_false (by omega), decide_eq_false (by omega)]
    rfl
  · have h3 : (1000000 : Int) ≤ (2 ^ 63 - 1) / n := by
      rw [Int.le_ediv_iff_mul_le (by omega)]
      have : (1000000 : Int) * n ≤ 1000000 * 1000000 := Int.mul_le_mul_of_nonneg_left hn (by decide)
      omega
    omega
  · show decide (z.length * n.toNat > sizeLine) = false
    exact decide_eq_false (by omega)

/-! ### (n, text) < (m, text) -/
def ltIS (a : Int × Str) (b : Int × Str) : Bool := DatumOrd.lt a b
def rLtIS (K : PySem.W.Frag) : R2 := fun x y H Q => ∃ a b n m z1 z2, x = .ref a ∧ y = .ref b ∧ SqT K H a [.int n, .str z1] ∧ SqT K H b [.int m, .str z2] ∧ Q (.bl (ltIS (n, z1) (m, z2))) H
theorem holds_is {h : Heap} {l : Addr} {n : Int} {z : Str} {its : List Value} (p : IsTup h l its.toArray) (r : Vals [.int n, .str z] its) : Holds h (.ref l) (n, z) := by
  obtain ⟨u, v, rfl, r1, r2⟩ := vals2 r
  obtain ⟨t, rfl⟩ := r1
  obtain ⟨t', rfl⟩ := r2
  obtain ⟨o, e1, e2, k, e3⟩ := p
  exact holds_pair ⟨o, e1, e2, k, e3⟩ (holds_int n t) (holds_str z t')
theorem opLtIS {X : Cx} (hu : X.A.units + 64 < cLine) : OpR X (compareOp .Lt) (rLtIS X.K) := fun pins s σ H x y u v Q I rx ry h => by
  obtain ⟨a, b, n, m, z1, z2, rfl, rfl, ha, hb, q⟩ := h
  cases rx
  cases ry
  obtain ⟨its, r1, p1, _⟩ := I.tuple ha
  obtain ⟨its2, r2, p2, _⟩ := I.tuple hb
  exact lt_datum (holds_is p1 r1) (holds_is p2 r2) (by
    have : Datum.depth (Int × Str) ≤ 64 := by decide
    omega) ⟨.bl (ltIS (n, z1) (m, z2)), H, I, rfl, q⟩
theorem x_ltIS {K : PySem.W.Frag} {H : Hp} {Q : VK} {a b : Addr} {n m : Int} {z1 z2 : Str} (ha : H a = some (.tup [.int n, .str z1])) (hb : H b = some (.tup [.int m, .str z2])) (q : Q (.bl (ltIS (n, z1) (m, z2))) H) : rLtIS K (.ref a) (.ref b) H Q :=
  ⟨a, b, n, m, z1, z2, rfl, rfl, SqT.of ha, SqT.of hb, q⟩

/-! ### enumerate(text) -/
def Ites (x : Str) : It :=
  ⟨fun i _ => i < x.cps.size, fun i H v H' => ∃ T c, v = .ref T ∧ H T = none ∧ H' = upd H T (.tup [.int (i : Nat), .str ⟨#[c]⟩]) ∧ x.cps[i]? = some c, fun i _ => i = x.cps.size⟩
theorem turn_enumS {P : Program} {w : World} {K : PySem.W.Frag} {elts : List Expr} {kk : Nat} {tpos : Pos} (x : Str) (t : Tok) (e it : Addr) :
    Turn P w K (.Tuple elts kk tpos) (Ites x) [e, it] e (fun i h => (∃ old, IsEnum h e it ((i : Nat) : Int) old) ∧ h.IsStrIter it (strIterType x) x t i ∧ e ≠ it) where
  mem := by simp
  obj := fun i h st b hb => by
    obtain ⟨⟨old, he⟩, ⟨o, ho, hc, hd⟩, _⟩ := st
    have e' : b = e ∨ b = it := by simpa using hb
    rcases e' with z | z
    · rw [z]; exact ⟨_, he, fun v q => nomatch q⟩
    · rw [z]; exact ⟨o, ho, fun v q => by rw [hd] at q; cases q⟩
  keep := fun i h h' st k => by
    obtain ⟨⟨old, he⟩, ⟨o, ho, r⟩, hne⟩ := st
    exact ⟨⟨old, k e (by simp) _ he⟩, ⟨o, k it (by simp) o ho, r⟩, hne⟩
  item := by
    intro X hP hw hK hc i pins s σ H E I hf st hg
    subst hP hw hK
    obtain ⟨⟨old, he⟩, hit, hne⟩ := st
    have hel : e < s.heap.objs.size := Heap.lt_size he
    have hil : it < s.heap.objs.size := by obtain ⟨_, q, _⟩ := hit; exact Heap.lt_size q
    refine wpAny_pyNext_enum_itemD (Draws.text (A := X.A.in1) (I.ok.hd hc) it x t) he hit hg hne (by simpa using hne) fun u h' tk hP ho hit' hT hsz hk => ?_
    obtain ⟨c, tu, hx, rfl⟩ := hP
    refine ⟨_, rfl, wpAny_letOwnedTupleGo_enum (s := { s with heap := h', toks := tk + 1 }) ho fun h'' he' sb => ?_⟩
    have hT2 : h''.get? s.heap.objs.size = some { cls := .type "tuple", data := .seq #[.int i tk, .str ⟨#[c]⟩ tu] } := (sb.2 _ (Nat.ne_of_gt hel)).trans hT
    have new : ObjOk X.prog X.w (upd H s.heap.objs.size (.tup [.int (i : Nat), .str ⟨#[c]⟩])) h'' s.heap.objs.size (.tup [.int (i : Nat), .str ⟨#[c]⟩]) :=
      ⟨by show 2 ≤ sizeLine; decide, [.int i tk, .str ⟨#[c]⟩ tu], .cons ⟨_, rfl⟩ (.cons ⟨_, rfl⟩ .nil), ⟨_, hT2, rfl, _, rfl⟩⟩
    have I1 : Inv X pins σ (upd H s.heap.objs.size (.tup [.int (i : Nat), .str ⟨#[c]⟩])) { s with heap := h'', toks := tk + 1 } :=
      I.turnedNew (ch := [e, it]) (fun b ob hb q => (sb.2 b (fun z => hb (by simp [z]))).trans (hk b ob (fun z => hb (by simp [z])) (fun z => hb (by simp [z])) q)) hf (Nat.le_refl _) new
    refine ⟨.ref s.heap.objs.size, _, I1, rfl, ⟨_, c, rfl, I.hok.fresh (Nat.le_refl _), rfl, hx⟩, ⟨⟨.str ⟨#[c]⟩ tu, ?_⟩, ?_, hne⟩, fun b hb => ?_⟩
    · have e1 : ((i + 1 : Nat) : Int) = (i : Int) + 1 := by omega
      rw [e1]; exact he'
    · obtain ⟨o, ho2, r⟩ := hit'
      exact ⟨o, (sb.2 it (Ne.symm hne)).trans ho2, r⟩
    · have hb' : b < s.heap.objs.size := by
        have e' : b = e ∨ b = it := by simpa using hb
        rcases e' with z | z
        · rw [z]; exact hel
        · rw [z]; exact hil
      rw [upd_ne (Nat.ne_of_lt hb')]
      exact (hf b hb).1
  done := by
    intro X hP hw hK hc i pins s σ H E I hf st hg
    subst hP hw hK
    obtain ⟨⟨old, he⟩, hit, hne⟩ := st
    obtain ⟨f0, f1, f2, f3, f4, f5⟩ := hf it (by simp)
    have hg' : i = x.cps.size := hg
    subst hg'
    exact wpAny_pyNext_enum_endD (Draws.text (A := X.A.in1) (I.ok.hd hc) it x t) he hit fun h' eb => ⟨rfl, I.turned (t' := s.toks) (fun b o hb q => eb b o hb q) f0 f1 f3 f4 f5⟩
  self := fun A i s Q E st h => let ⟨⟨_, he⟩, _⟩ := st; wpAny_pyIter_enum he h
def iEnumS (ta : TA) : TI := fun σ H R => ta σ H fun vs H1 => ∃ x, vs = [.str x] ∧ R (Ites x) H1
theorem pi_enumS {X : Cx} {e : Expr} {ta : TA} {p pos tpos : Pos} {elts : List Expr} {kk : Nat} (hg : Gl X "enumerate") (hm : X.mg "enumerate" = none) (ha : PA X [e] ta) (hs : starEach [e] X.env = [(false, eval e X.env)] := by rfl) :
    PI X (.Tuple elts kk tpos) (.Call (.Name "enumerate" p) [e] [] pos) (iEnumS ta) := by
  refine ⟨fun pins s σ H R I h => ?_⟩
  refine Call_ (ld_blt I hg hm boot_enumerate (PyProof.Rows.callWith_type1 (thn (ha.run pos pins s σ H _ I h) fun us s1 ⟨vs, H1, I1, r1, q1⟩ => ?_) hs rfl))
  obtain ⟨x, ex, q⟩ := q1
  subst ex
  cases r1 with
  | cons r rr =>
    cases rr
    obtain ⟨t, rfl⟩ := r
    refine call_enumerate_str fun h' he hit hsz hk => wpAny_pyIter_enum he ?_
    have I2 : Inv X pins σ H1 { s1 with heap := h' } := I1.kept (t' := s1.toks) hk
    refine ⟨s1.heap.objs.size + 1, [s1.heap.objs.size + 1, s1.heap.objs.size], _, _, H1, rfl, I2, turn_enumS x t (s1.heap.objs.size + 1) s1.heap.objs.size, ⟨⟨.none, he⟩, hit, Nat.succ_ne_self _⟩, fun b hb => ?_, q⟩
    have e' : b = s1.heap.objs.size + 1 ∨ b = s1.heap.objs.size := by simpa using hb
    have hle : s1.heap.objs.size ≤ b := by
      rcases e' with z | z
      · rw [z]; exact Nat.le_add_right _ _
      · rw [z]; exact Nat.le_refl _
    exact I1.fpOk hle (I1.hok.fresh hle)
end NF

/-! Own toolkit: loops and comprehensions. -/
namespace NF
open PySem L2

theorem Own.ignore {B H : Hp} {M R : List (Addr × HO)} {T : Addr} {o : HO} (O : Own B H M R) (h : H T = none) : Own B (upd H T o) M R :=
  ⟨O.nd, fun x hx => by
    have q := O.at_ x hx
    have n : x.1 ≠ T := fun e => by rw [e, h] at q; cases q
    rw [upd_ne n]
    exact q, fun b hb v e => by
    have q := O.out b hb v e
    have n : b ≠ T := fun e => by rw [e, h] at q; cases q
    rw [upd_ne n]
    exact q⟩
theorem Own.last {B H : Hp} {M R : List (Addr × HO)} {p : Addr} {o : HO} (O : Own B H M (R ++ [(p, o)])) : H p = some o :=
  O.at_ (p, o) (List.mem_append_right _ (List.mem_append_right _ (List.mem_singleton.mpr rfl)))
theorem Own.putLast {B H : Hp} {M R : List (Addr × HO)} {p : Addr} {o u : HO} (O : Own B H M (R ++ [(p, o)])) : Own B (upd H p u) M (R ++ [(p, u)]) := by
  have e : (R ++ [(p, o)])[R.length]? = some (p, o) := by rw [List.getElem?_append_right (Nat.le_refl _), Nat.sub_self]; rfl
  have h := O.put R.length e u
  rw [List.set_append_right _ _ (Nat.le_refl _), Nat.sub_self] at h
  exact h

/-- what a for asks of its iterator -/
def forR (g : TG) (tb : TS) (D : Ends) (σ : St) : It → Hp → Prop := fun J H1 => ∃ W : Nat → Nat → St → Hp → Prop, (∃ m, W 0 m σ H1) ∧ ∀ i m σ H, W i m σ H →
  (J.stop i H ∧ D.nx σ H) ∨ (J.go i H ∧ ∃ N : St → Hp → Prop, (∀ σ' H', N σ' H' → ∃ m', m' < m ∧ W (i + 1) m' σ' H') ∧ ∀ x H', J.yld i H x H' → g x σ H' fun σ2 H2 => tb { D with nx := N, ct := N, bk := D.nx } σ2 H2)
/-- what a comprehension asks of its iterator -/
def lcR (g : TG) (tt : TT) (te : TE) (vs : List Nat) (σ : St) (Q : VK) : It → Hp → Prop := fun J H1 => ∀ D, H1 D = none → ∃ W : Nat → Nat → Hp → Prop, (∃ m, W 0 m (upd H1 D (.lst []))) ∧ ∀ i m H, W i m H →
  (J.stop i H ∧ Q (.ref D) H) ∨ (J.go i H ∧ ∃ Nx : Hp → Prop, (∀ H', Nx H' → ∃ m', m' < m ∧ W (i + 1) m' H') ∧ ∀ x H', J.yld i H x H' → g x (wipe σ vs) H' fun σ2 H2 => wipe σ2 vs = wipe σ vs ∧ tt σ2 H2 fun b H3 =>
    if b = true then te σ2 H3 fun y H4 => ∃ acc, H4 D = some (.lst acc) ∧ acc.length < sizeLine ∧ Nx (upd H4 D (.lst (acc ++ [y]))) else Nx H3)
/-! what is walked, by its values -/
def jRng1 : List V → Hp → (It → Hp → Prop) → Prop := fun vs H1 R => ∃ j : Int, vs = [.int j] ∧ -(2 ^ 62) ≤ j ∧ j < 2 ^ 62 ∧ R (Itr 0 j.toNat) H1
def jRng2 : List V → Hp → (It → Hp → Prop) → Prop := fun vs H1 R => ∃ i j : Int, vs = [.int i, .int j] ∧ (-(2 ^ 62) ≤ i ∧ i < 2 ^ 62 ∧ -(2 ^ 62) ≤ j ∧ j < 2 ^ 62) ∧ R (Itr i (j - i).toNat) H1
def jList (K : PySem.W.Frag) : V → Hp → (It → Hp → Prop) → Prop := fun x H1 R => ∃ a, x = .ref a ∧ (∃ xs, SqL K H1 a xs) ∧ R (Itl K a) H1
def jTup (K : PySem.W.Frag) : V → Hp → (It → Hp → Prop) → Prop := fun x H1 R => ∃ a, x = .ref a ∧ (∃ xs, SqT K H1 a xs) ∧ R (Itt K a) H1
def jStr : V → Hp → (It → Hp → Prop) → Prop := fun v H1 R => ∃ x, v = .str x ∧ R (Its x) H1
def jEnumS : List V → Hp → (It → Hp → Prop) → Prop := fun vs H1 R => ∃ x, vs = [.str x] ∧ R (Ites x) H1
def jEnum (K : PySem.W.Frag) : List V → Hp → (It → Hp → Prop) → Prop := fun vs H1 R => ∃ a xs, vs = [.ref a] ∧ SqL K H1 a xs ∧ R (Ite K a) H1
section
variable {K : PySem.W.Frag} {σ : St} {B H : Hp} {M R : List (Addr × HO)} {a : Addr} {g : TG} {tb : TS} {D : Ends} {wi : TI} {tar : TA} {te tl : TE} {tt : TT} {vs : List Nat} {Q : VK} {RI : It → Hp → Prop}
theorem x_for (q : wi σ H (forR g tb D σ)) : tFor wi g tb D σ H := q
theorem x_lc (q : wi σ H (lcR g tt te vs σ Q)) : tLc wi g tt te vs σ H Q := q
theorem x_yes {QT : Bool → Hp → Prop} (q : QT true H) : tYes σ H QT := q
theorem x_jR1 (q : tar σ H fun vs H1 => jRng1 vs H1 RI) : iRng1 tar σ H RI := q
theorem x_jR2 (q : tar σ H fun vs H1 => jRng2 vs H1 RI) : iRng2 tar σ H RI := q
theorem x_jL (q : tl σ H fun v H1 => jList K v H1 RI) : iList K tl σ H RI := q
theorem x_jT (q : tl σ H fun v H1 => jTup K v H1 RI) : iTup K tl σ H RI := q
theorem x_jS (q : tl σ H fun v H1 => jStr v H1 RI) : iStr tl σ H RI := q
theorem x_jE (q : tar σ H fun vs H1 => jEnumS vs H1 RI) : iEnumS tar σ H RI := q
theorem x_jEL (q : tar σ H fun vs H1 => jEnum K vs H1 RI) : iEnum K tar σ H RI := q
section
variable {nx bk ct : St → Hp → Prop} {rt : VK}
/-! #### for: an invariant by the turn -/
theorem f_rng1 {n : Int} {j : Nat} (hn : -(2 ^ 62) ≤ n ∧ n < 2 ^ 62) (Pv : Nat → St → Hp → Prop) (h0 : Pv 0 σ H)
    (hs : ∀ (i : Nat) σ H, (i : Int) < n → Pv i σ H → tb ⟨Pv (i + 1), rt, nx, Pv (i + 1)⟩ (σ.set j (some (.int (i : Int)))) H) (hd : ∀ σ H, Pv n.toNat σ H → nx σ H) : jRng1 [.int n] H (forR (gName j) tb ⟨nx, rt, bk, ct⟩ σ) :=
  ⟨n, rfl, hn.1, hn.2, for_range (lo := 0) Pv h0 (fun i σ H hi p => by
    show tb _ (σ.set j (some (.int ((0 : Int) + (i : Int))))) H
    rw [Int.zero_add]
    exact hs i σ H (by omega) p) hd⟩
theorem f_rng2 {lo n : Int} {j : Nat} (hn : (-(2 ^ 62) ≤ lo ∧ lo < 2 ^ 62) ∧ -(2 ^ 62) ≤ n ∧ n < 2 ^ 62) (Pv : Nat → St → Hp → Prop) (h0 : Pv 0 σ H)
    (hs : ∀ (i : Nat) σ H, lo + (i : Int) < n → Pv i σ H → tb ⟨Pv (i + 1), rt, nx, Pv (i + 1)⟩ (σ.set j (some (.int (lo + (i : Int))))) H) (hd : ∀ σ H, Pv (n - lo).toNat σ H → nx σ H) : jRng2 [.int lo, .int n] H (forR (gName j) tb ⟨nx, rt, bk, ct⟩ σ) :=
  ⟨lo, n, rfl, ⟨hn.1.1, hn.1.2, hn.2.1, hn.2.2⟩, for_range (lo := lo) Pv h0 (fun i σ H hi p => hs i σ H (by omega) p) hd⟩
theorem f_list {xs : List V} {j : Nat} (hx : SqL K H a xs) (Pv : Nat → St → Hp → Prop) (h0 : Pv 0 σ H) (hl : ∀ i σ H, Pv i σ H → SqL K H a xs)
    (hs : ∀ (i : Nat) x σ H, xs[i]? = some x → Pv i σ H → tb ⟨Pv (i + 1), rt, nx, Pv (i + 1)⟩ (σ.set j (some x)) H) (hd : ∀ σ H, Pv xs.length σ H → nx σ H) : jList K (.ref a) H (forR (gName j) tb ⟨nx, rt, bk, ct⟩ σ) :=
  ⟨a, rfl, ⟨xs, hx⟩, for_list Pv h0 (fun i σ H _ p => hl i σ H p) (fun i x σ H hx p => hs i x σ H hx p) hd⟩
theorem f_listG {xs : List V} (hx : SqL K H a xs) (Pv : Nat → St → Hp → Prop) (h0 : Pv 0 σ H) (hl : ∀ i σ H, Pv i σ H → SqL K H a xs)
    (hs : ∀ (i : Nat) x σ H, xs[i]? = some x → Pv i σ H → g x σ H fun σ2 H2 => tb ⟨Pv (i + 1), rt, nx, Pv (i + 1)⟩ σ2 H2) (hd : ∀ σ H, Pv xs.length σ H → nx σ H) : jList K (.ref a) H (forR g tb ⟨nx, rt, bk, ct⟩ σ) :=
  ⟨a, rfl, ⟨xs, hx⟩, for_list Pv h0 (fun i σ H _ p => hl i σ H p) (fun i x σ H hx p => hs i x σ H hx p) hd⟩
theorem f_tup {xs : List V} {j : Nat} (hx : SqT K H a xs) (Pv : Nat → St → Hp → Prop) (h0 : Pv 0 σ H) (hl : ∀ i σ H, Pv i σ H → SqT K H a xs)
    (hs : ∀ (i : Nat) x σ H, xs[i]? = some x → Pv i σ H → tb ⟨Pv (i + 1), rt, nx, Pv (i + 1)⟩ (σ.set j (some x)) H) (hd : ∀ σ H, Pv xs.length σ H → nx σ H) : jTup K (.ref a) H (forR (gName j) tb ⟨nx, rt, bk, ct⟩ σ) :=
  ⟨a, rfl, ⟨xs, hx⟩, for_tup Pv h0 (fun i σ H _ p => hl i σ H p) (fun i x σ H hx p => hs i x σ H hx p) hd⟩
theorem f_str {z : Str} {j : Nat} (Pv : Nat → St → Hp → Prop) (h0 : Pv 0 σ H)
    (hs : ∀ (i : Nat) c σ H, z.cps[i]? = some c → Pv i σ H → tb ⟨Pv (i + 1), rt, nx, Pv (i + 1)⟩ (σ.set j (some (.str ⟨#[c]⟩))) H) (hd : ∀ σ H, Pv z.cps.size σ H → nx σ H) : jStr (.str z) H (forR (gName j) tb ⟨nx, rt, bk, ct⟩ σ) :=
  ⟨z, rfl, for_it walk_str Pv h0 (fun _ _ _ _ _ => trivial) (fun i x σ H H' hi p y => by
    obtain ⟨rfl, c, hc, rfl⟩ := y
    exact hs i c σ _ hc p) hd⟩
theorem f_enumS {z : Str} {j1 j2 : Nat} (Pv : Nat → St → Hp → Prop) (h0 : Pv 0 σ H)
    (hs : ∀ (i : Nat) c σ H H', z.cps[i]? = some c → Pv i σ H → (∀ B M R, Own B H M R → Own B H' M R) → tb ⟨Pv (i + 1), rt, nx, Pv (i + 1)⟩ ((σ.set j1 (some (.int (i : Int)))).set j2 (some (.str ⟨#[c]⟩))) H') (hd : ∀ σ H, Pv z.cps.size σ H → nx σ H) :
    jEnumS [.str z] H (forR (gTup K 2 (gCons (gName j1) (gCons (gName j2) gNil))) tb ⟨nx, rt, bk, ct⟩ σ) := by
  refine ⟨z, rfl, fun i m σ H => m = z.cps.size - i ∧ i ≤ z.cps.size ∧ Pv i σ H, ⟨_, by simp; rfl, Nat.zero_le _, h0⟩, ?_⟩
  rintro i m σ H ⟨rfl, hi, p⟩
  by_cases hlt : i < z.cps.size
  · refine .inr ⟨hlt, Pv (i + 1), fun σ' H' p' => ⟨z.cps.size - (i + 1), by omega, rfl, hlt, p'⟩, ?_⟩
    rintro x H' ⟨T, c, rfl, hT, rfl, hc⟩
    exact ⟨T, [.int (i : Nat), .str ⟨#[c]⟩], rfl, SqT.of upd_same, rfl, _, _, rfl, _, _, rfl, rfl, hs i c σ H _ hc p fun B M R O => O.ignore hT⟩
  · have e : i = z.cps.size := by omega
    subst e
    exact .inl ⟨rfl, hd σ H p⟩
/-- enumerate(list) -/
theorem f_enum {xs : List V} {j1 j2 : Nat} (hx : SqL K H a xs) (Pv : Nat → St → Hp → Prop) (h0 : Pv 0 σ H) (hl : ∀ i σ H, Pv i σ H → SqL K H a xs)
    (hs : ∀ (i : Nat) c σ H H', xs[i]? = some c → Pv i σ H → (∀ B M R, Own B H M R → Own B H' M R) → tb ⟨Pv (i + 1), rt, nx, Pv (i + 1)⟩ ((σ.set j1 (some (.int (i : Int)))).set j2 (some c)) H') (hd : ∀ σ H, Pv xs.length σ H → nx σ H) :
    jEnum K [.ref a] H (forR (gTup K 2 (gCons (gName j1) (gCons (gName j2) gNil))) tb ⟨nx, rt, bk, ct⟩ σ) := by
  refine ⟨a, xs, rfl, hx, fun i m σ H => m = xs.length - i ∧ i ≤ xs.length ∧ Pv i σ H, ⟨_, by simp; rfl, Nat.zero_le _, h0⟩, ?_⟩
  rintro i m σ H ⟨rfl, hi, p⟩
  have q := hl i σ H p
  by_cases hlt : i < xs.length
  · refine .inr ⟨⟨xs, xs[i], q, by simp [hlt]⟩, Pv (i + 1), fun σ' H' p' => ⟨xs.length - (i + 1), by omega, rfl, hlt, p'⟩, ?_⟩
    rintro x H' ⟨T, c, rfl, hT, rfl, hc⟩
    exact ⟨T, [.int (i : Nat), c], rfl, SqT.of upd_same, rfl, _, _, rfl, _, _, rfl, rfl, hs i c σ H _ (hc xs q) p fun B M R O => O.ignore hT⟩
  · have e : i = xs.length := by omega
    subst e
    exact .inl ⟨⟨xs, q, Nat.le_refl _⟩, hd σ H p⟩
end
/-! #### while: an invariant with a measure -/
theorem x_while {nx bk ct : St → Hp → Prop} {rt : VK} (I : Nat → St → Hp → Prop) (m : Nat) (h0 : I m σ H)
    (hs : ∀ m σ H, I m σ H → tt σ H fun b H1 => if b = true then (∃ N : St → Hp → Prop, (∀ σ' H', N σ' H' → ∃ m', m' < m ∧ I m' σ' H') ∧ tb ⟨N, rt, nx, N⟩ σ H1) else nx σ H1) : tWhile tt tb ⟨nx, rt, bk, ct⟩ σ H := ⟨I, ⟨m, h0⟩, hs⟩
theorem x_turn {nx : St → Hp → Prop} {rt : VK} {I : Nat → St → Hp → Prop} {m : Nat} (q : tb ⟨fun σ' H' => ∃ m', m' < m ∧ I m' σ' H', rt, nx, fun σ' H' => ∃ m', m' < m ∧ I m' σ' H'⟩ σ H) :
    ∃ N : St → Hp → Prop, (∀ σ' H', N σ' H' → ∃ m', m' < m ∧ I m' σ' H') ∧ tb ⟨N, rt, nx, N⟩ σ H := ⟨_, fun _ _ h => h, q⟩
/-! #### comprehensions: the new list stands behind what is owned -/
theorem set_wipe (σ : St) (j : Nat) (x : Option V) : wipe ((wipe σ [j]).set j x) [j] = wipe σ [j] := by
  show (((σ.set j none).set j x).set j none) = σ.set j none
  rw [List.set_set, List.set_set]
/-- a turn's end: the list so far is acc, y comes behind it -/
def lcEnd (B : Hp) (R : List (Addr × HO)) (p : Addr) (i : Nat) (N : List V → List (Addr × HO) → Prop) (y : V) (H4 : Hp) : Prop :=
  ∃ acc, H4 p = some (.lst acc) ∧ acc.length < sizeLine ∧ ∃ M' a2, a2.length ≤ i + 1 ∧ N a2 M' ∧ Own B (upd H4 p (.lst (acc ++ [y]))) M' (R ++ [(p, .lst a2)])
def lcSkip (B : Hp) (R : List (Addr × HO)) (p : Addr) (i : Nat) (N : List V → List (Addr × HO) → Prop) (H4 : Hp) : Prop :=
  ∃ M' a2, a2.length ≤ i + 1 ∧ N a2 M' ∧ Own B H4 M' (R ++ [(p, .lst a2)])
theorem lc_done {p : Addr} {i : Nat} {N : List V → List (Addr × HO) → Prop} {y : V} {acc : List V} (O : Own B H M (R ++ [(p, .lst acc)])) (hl : acc.length ≤ i) (hz : i < sizeLine) (pv : N (acc ++ [y]) M) : lcEnd B R p i N y H :=
  ⟨acc, O.last, Nat.lt_of_le_of_lt hl hz, M, acc ++ [y], by simp; omega, pv, O.putLast⟩
theorem lc_skip {p : Addr} {i : Nat} {N : List V → List (Addr × HO) → Prop} {acc : List V} (O : Own B H M (R ++ [(p, .lst acc)])) (hl : acc.length ≤ i) (pv : N acc M) : lcSkip B R p i N H := ⟨M, acc, by omega, pv, O⟩
section
variable {n : Nat} {J : It} {G : Hp → Prop} {Y : Nat → Hp → V → Hp → Prop} {j : Nat}
/-- over anything -/
theorem lc_any (W : L2.Walk J n G Y) (O : Own B H M R) (Pv : Nat → List V → List (Addr × HO) → Prop) (hG : ∀ H' M' p acc, Own B H' M' (R ++ [(p, .lst acc)]) → G H') (h0 : Pv 0 [] M)
    (hs : ∀ (i : Nat) x H' H'' M' p acc, i < n → acc.length ≤ i → Pv i acc M' → Own B H' M' (R ++ [(p, .lst acc)]) → Y i H' x H'' →
      tt ((wipe σ [j]).set j (some x)) H'' fun b H3 => if b = true then te ((wipe σ [j]).set j (some x)) H3 (lcEnd B R p i (Pv (i + 1))) else lcSkip B R p i (Pv (i + 1)) H3)
    (hd : ∀ p H' M' acc, B p = none → acc.length ≤ n → Pv n acc M' → Own B H' M' (R ++ [(p, .lst acc)]) → Q (.ref p) H') : lcR (gName j) tt te [j] σ Q J H := by
  intro p hp
  refine lc_it W (fun i H' => ∃ M' acc, acc.length ≤ i ∧ Pv i acc M' ∧ Own B H' M' (R ++ [(p, .lst acc)])) ⟨M, [], Nat.le_refl _, h0, O.new hp⟩ (fun i H' _ ⟨M', acc, _, _, O'⟩ => hG H' M' p acc O') ?_ (fun H' ⟨M', acc, l, pv, O'⟩ => hd p H' M' acc (O.base_free hp) l pv O')
  rintro i x H' H'' hi ⟨M', acc, hl, pv, O'⟩ y
  exact ⟨set_wipe σ j _, hs i x H' H'' M' p acc hi hl pv O' y⟩
theorem lc_rng1 {n : Int} (hn : -(2 ^ 62) ≤ n ∧ n < 2 ^ 62) (O : Own B H M R) (Pv : Nat → List V → List (Addr × HO) → Prop) (h0 : Pv 0 [] M)
    (hs : ∀ (i : Nat) H' M' p acc, (i : Int) < n → acc.length ≤ i → Pv i acc M' → Own B H' M' (R ++ [(p, .lst acc)]) →
      tt ((wipe σ [j]).set j (some (.int (i : Int)))) H' fun b H3 => if b = true then te ((wipe σ [j]).set j (some (.int (i : Int)))) H3 (lcEnd B R p i (Pv (i + 1))) else lcSkip B R p i (Pv (i + 1)) H3)
    (hd : ∀ p H' M' acc, B p = none → acc.length ≤ n.toNat → Pv n.toNat acc M' → Own B H' M' (R ++ [(p, .lst acc)]) → Q (.ref p) H') : jRng1 [.int n] H (lcR (gName j) tt te [j] σ Q) :=
  ⟨n, rfl, hn.1, hn.2, lc_any (walk_range (lo := 0)) O Pv (fun _ _ _ _ _ => trivial) h0 (fun i x H' H'' M' p acc hi hl pv O' y => by
    obtain ⟨rfl, e⟩ := y
    have e2 : x = .int (i : Int) := e.trans (congrArg V.int (Int.zero_add _))
    subst e2
    exact hs i _ M' p acc (by omega) hl pv O') hd⟩
theorem lc_lst {xs : List V} (hx : SqL K H a xs) (O : Own B H M R) (Pv : Nat → List V → List (Addr × HO) → Prop) (hG : ∀ H' M' p acc, Own B H' M' (R ++ [(p, .lst acc)]) → SqL K H' a xs) (h0 : Pv 0 [] M)
    (hs : ∀ (i : Nat) x H' M' p acc, xs[i]? = some x → acc.length ≤ i → Pv i acc M' → Own B H' M' (R ++ [(p, .lst acc)]) →
      tt ((wipe σ [j]).set j (some x)) H' fun b H3 => if b = true then te ((wipe σ [j]).set j (some x)) H3 (lcEnd B R p i (Pv (i + 1))) else lcSkip B R p i (Pv (i + 1)) H3)
    (hd : ∀ p H' M' acc, B p = none → acc.length ≤ xs.length → Pv xs.length acc M' → Own B H' M' (R ++ [(p, .lst acc)]) → Q (.ref p) H') : jList K (.ref a) H (lcR (gName j) tt te [j] σ Q) :=
  ⟨a, rfl, ⟨xs, hx⟩, lc_any walk_list O Pv hG h0 (fun i x H' H'' M' p acc hi hl pv O' y => by
    obtain ⟨rfl, hx⟩ := y
    exact hs i x _ M' p acc hx hl pv O') hd⟩
theorem lc_tupl {xs : List V} (hx : SqT K H a xs) (O : Own B H M R) (Pv : Nat → List V → List (Addr × HO) → Prop) (hG : ∀ H' M' p acc, Own B H' M' (R ++ [(p, .lst acc)]) → SqT K H' a xs) (h0 : Pv 0 [] M)
    (hs : ∀ (i : Nat) x H' M' p acc, xs[i]? = some x → acc.length ≤ i → Pv i acc M' → Own B H' M' (R ++ [(p, .lst acc)]) →
      tt ((wipe σ [j]).set j (some x)) H' fun b H3 => if b = true then te ((wipe σ [j]).set j (some x)) H3 (lcEnd B R p i (Pv (i + 1))) else lcSkip B R p i (Pv (i + 1)) H3)
    (hd : ∀ p H' M' acc, B p = none → acc.length ≤ xs.length → Pv xs.length acc M' → Own B H' M' (R ++ [(p, .lst acc)]) → Q (.ref p) H') : jTup K (.ref a) H (lcR (gName j) tt te [j] σ Q) :=
  ⟨a, rfl, ⟨xs, hx⟩, lc_any walk_tup O Pv hG h0 (fun i x H' H'' M' p acc hi hl pv O' y => by
    obtain ⟨rfl, hx⟩ := y
    exact hs i x _ M' p acc hx hl pv O') hd⟩
theorem lc_strs {z : Str} (O : Own B H M R) (Pv : Nat → List V → List (Addr × HO) → Prop) (h0 : Pv 0 [] M)
    (hs : ∀ (i : Nat) c H' M' p acc, z.cps[i]? = some c → acc.length ≤ i → Pv i acc M' → Own B H' M' (R ++ [(p, .lst acc)]) →
      tt ((wipe σ [j]).set j (some (.str ⟨#[c]⟩))) H' fun b H3 => if b = true then te ((wipe σ [j]).set j (some (.str ⟨#[c]⟩))) H3 (lcEnd B R p i (Pv (i + 1))) else lcSkip B R p i (Pv (i + 1)) H3)
    (hd : ∀ p H' M' acc, B p = none → acc.length ≤ z.cps.size → Pv z.cps.size acc M' → Own B H' M' (R ++ [(p, .lst acc)]) → Q (.ref p) H') : jStr (.str z) H (lcR (gName j) tt te [j] σ Q) :=
  ⟨z, rfl, lc_any walk_str O Pv (fun _ _ _ _ _ => trivial) h0 (fun i x H' H'' M' p acc hi hl pv O' y => by
    obtain ⟨rfl, c, hx, rfl⟩ := y
    exact hs i c _ M' p acc hx hl pv O') hd⟩
end
end
end NF

/-! Own toolkit: texts. -/
namespace NF
open PySem L2 TL

/-- a text of one sign; signs as a list of texts -/
abbrev ch (c : Nat) : V := .str ⟨#[c]⟩
abbrev mkS (l : List Nat) : Str := ⟨l.toArray⟩
theorem len_mk (l : List Nat) : (mkS l).length = l.length := by rw [len_tl]
theorem len_app (x y : Str) : (x ++ y).length = x.length + y.length := by rw [len_tl, tl_append, List.length_append, ← len_tl, ← len_tl]
theorem len_cut (z : Str) (lo hi : Option Int) : (cutS z lo hi).length ≤ z.length := cutS_length z lo hi
theorem len_ch (c : Nat) : (⟨#[c]⟩ : Str).length = 1 := rfl
theorem lit {s : String} {l : List Nat} (h : s.toList.map Char.toNat = l := by decide +kernel) : Str.ofString s = mkS l := ext_tl (by rw [tl_ofString, h])
theorem tl_cut (z : Str) (lo hi : Option Int) : tl (cutS z lo hi) = ((tl z).drop (HT.sIx z.length 0 lo)).take (HT.sIx z.length z.length hi - HT.sIx z.length 0 lo) := rfl
theorem join_ch (l : List Nat) : Txt.join Str.empty (l.map fun c => (⟨#[c]⟩ : Str)) = mkS l := by
  refine ext_tl ?_
  rw [join_eq, tl_join]
  show joinL [] _ = l
  have e : ∀ l : List Nat, joinL [] ((l.map fun c => (⟨#[c]⟩ : Str)).map tl) = l := by
    intro l
    induction l with
    | nil => rfl
    | cons a l ih =>
      cases l with
      | nil => rfl
      | cons b l =>
        show tl ⟨#[a]⟩ ++ ([] ++ joinL [] (((b :: l).map fun c => (⟨#[c]⟩ : Str)).map tl)) = a :: b :: l
        rw [ih]
        rfl
  exact e l
theorem sum_ch (l : List Nat) : ((l.map fun c => (⟨#[c]⟩ : Str)).map (·.length)).sum = l.length := by
  rw [List.map_map]
  induction l with
  | nil => rfl
  | cons a l ih => rw [List.map_cons, List.sum_cons, ih, List.length_cons]; show 1 + _ = _; omega
theorem map_ch (l : List Nat) : (l.map fun c => (⟨#[c]⟩ : Str)).map V.str = l.map ch := by rw [List.map_map]; rfl
theorem len_mul (x : Str) (n : Int) : (Txt.mul x n).length ≤ x.length * n.toNat := by
  unfold Txt.mul
  by_cases h : n < 1
  · rw [if_pos h]; exact Nat.zero_le _
  · rw [if_neg h]
    by_cases h2 : (n == 1 || x.length == 0) = true
    · rw [if_pos h2]
      simp only [Bool.or_eq_true, beq_iff_eq] at h2
      rcases h2 with h2 | h2
      · rw [h2]; simp
      · rw [h2]; simp
    · rw [if_neg h2]
      refine Nat.le_of_eq ?_
      have e : ∀ (k : Nat) (a : Array Nat), ((List.replicate k x.cps).foldl (· ++ ·) a).size = a.size + k * x.cps.size := by
        intro k
        induction k with
        | zero => intro a; simp
        | succ k ih => intro a; rw [List.replicate_succ, List.foldl_cons, ih, Array.size_append, Nat.succ_mul]; omega
      show ((List.replicate n.toNat x.cps).foldl (· ++ ·) #[]).size = x.cps.size * n.toNat
      rw [e, Nat.mul_comm]
      simp
/-! letters -/
def isLo (c : Nat) : Bool := decide (97 ≤ c ∧ c ≤ 104)
def isUp (c : Nat) : Bool := decide (65 ≤ c ∧ c ≤ 72)
theorem lo_cases {c : Nat} (h : 97 ≤ c ∧ c ≤ 104) : c = 97 ∨ c = 98 ∨ c = 99 ∨ c = 100 ∨ c = 101 ∨ c = 102 ∨ c = 103 ∨ c = 104 := by omega
theorem up_cases {c : Nat} (h : 65 ≤ c ∧ c ≤ 72) : c = 65 ∨ c = 66 ∨ c = 67 ∨ c = 68 ∨ c = 69 ∨ c = 70 ∨ c = 71 ∨ c = 72 := by omega
theorem upper_lo {c : Nat} (h : 97 ≤ c ∧ c ≤ 104) : Txt.upper ⟨#[c]⟩ = ⟨#[c - 32]⟩ := by
  rcases lo_cases h with rfl | rfl | rfl | rfl | rfl | rfl | rfl | rfl <;> decide +kernel
theorem lower_up {c : Nat} (h : 65 ≤ c ∧ c ≤ 72) : Txt.lower ⟨#[c]⟩ = ⟨#[c + 32]⟩ := by
  rcases up_cases h with rfl | rfl | rfl | rfl | rfl | rfl | rfl | rfl <;> decide +kernel
theorem mem_lo {c : Nat} : c ∈ [97, 98, 99, 100, 101, 102, 103, 104] ↔ 97 ≤ c ∧ c ≤ 104 := by
  simp only [List.mem_cons, List.not_mem_nil, or_false]; omega
theorem mem_up {c : Nat} : c ∈ [65, 66, 67, 68, 69, 70, 71, 72] ↔ 65 ≤ c ∧ c ≤ 72 := by
  simp only [List.mem_cons, List.not_mem_nil, or_false]; omega
theorem at_lt {α : Type} {l : List α} {i : Int} (h0 : 0 ≤ i) (h1 : i < (l.length : Int)) : ∃ c, atI l i = some c ∧ l[i.toNat]? = some c ∧ c ∈ l := by
  have hj : i.toNat < l.length := by omega
  have e : ((i.toNat : Nat) : Int) = i := by omega
  refine ⟨l[i.toNat], ?_, by simp [hj], List.getElem_mem hj⟩
  have := atI_nat (xs := l) (j := i.toNat) (v := l[i.toNat]) (by simp [hj])
  rw [e] at this
  exact this
section
variable {K : PySem.W.Frag} {B H : Hp} {M R : List (Addr × HO)} {a p : Addr} {Q : VK} {z : Str} {i : Int}
/-- an item of a text at an open place within it -/
theorem x_ixSo (h0 : 0 ≤ i) (h1 : i < (z.length : Int)) (hz : z.length ≤ sizeLine) (q : ∀ c, tl z = tl z → (tl z)[i.toNat]? = some c → c ∈ tl z → Q (.str ⟨#[c]⟩) H) : rIxS (.str z) (.int i) H Q := by
  obtain ⟨c, e, e2, m⟩ := at_lt (l := tl z) h0 (by rw [← len_tl]; exact h1)
  exact ⟨z, i, c, rfl, rfl, hz, e, q c rfl e2 m⟩
/-- join of signs -/
theorem x_join (l : List Nat) (h : H p = some (.lst (l.map ch))) (hz : l.length ≤ 16777216) (q : Q (.str (mkS l)) H) : rJoin K (.str Str.empty) [.ref p] H Q :=
  x_joinL (l.map fun c => (⟨#[c]⟩ : Str)) (by rw [map_ch]; exact h) (by
    rw [sum_ch, List.length_map]
    show l.length + l.length * 0 ≤ _
    omega) (by rw [join_ch]; exact q)
theorem x_mulS {n : Int} (hz : z.length ≤ 1000000) (hn : n ≤ 1000000) (hn0 : -1000000 ≤ n) (hl : z.length * n.toNat ≤ sizeLine) (q : Q (.str (Txt.mul z n)) H) : rMulS (.str z) (.int n) H Q := ⟨z, n, rfl, rfl, hz, hn, by omega, hl, q⟩
end
end NF

/-! Own toolkit: nested texts as lists of codes. -/
namespace NF
open PySem L2 TL

theorem tl_names : tl (Str.ofString "abcdefgh") = [97, 98, 99, 100, 101, 102, 103, 104] := by rw [tl_ofString]; decide +kernel
theorem len_names : (Str.ofString "abcdefgh").length = 8 := by rw [len_tl, tl_names]; rfl
/-- reading with a stack (the top first) -/
def run : List Nat → List Nat → Option (List Nat)
  | [], st => some st
  | c :: r, st => if 97 ≤ c ∧ c ≤ 104 then run r (c :: st) else match st with
    | t :: ts => if c + 32 = t then run r ts else none
    | [] => none
/-- the fault: the place of the first wrong sign, or the length -/
def flt : List Nat → Nat → List Nat → Option Nat
  | [], k, st => if st = [] then none else some k
  | c :: r, k, st => if 97 ≤ c ∧ c ≤ 104 then flt r (k + 1) (c :: st) else match st with
    | t :: ts => if c + 32 = t then flt r (k + 1) ts else some k
    | [] => some k
theorem run_cons (c : Nat) (r st : List Nat) : run (c :: r) st = if 97 ≤ c ∧ c ≤ 104 then run r (c :: st) else match st with
    | t :: ts => if c + 32 = t then run r ts else none
    | [] => none := by rw [run.eq_def]
theorem flt_cons (c : Nat) (r : List Nat) (k : Nat) (st : List Nat) : flt (c :: r) k st = if 97 ≤ c ∧ c ≤ 104 then flt r (k + 1) (c :: st) else match st with
    | t :: ts => if c + 32 = t then flt r (k + 1) ts else some k
    | [] => some k := by rw [flt.eq_def]
theorem run_append (l m : List Nat) : ∀ st, run (l ++ m) st = (run l st).bind (run m) := by
  induction l with
  | nil => intro st; rfl
  | cons c l ih =>
    intro st
    rw [List.cons_append, run_cons, run_cons]
    by_cases h : 97 ≤ c ∧ c ≤ 104
    · rw [if_pos h, if_pos h]; exact ih _
    · rw [if_neg h, if_neg h]
      cases st with
      | nil => rfl
      | cons t ts =>
        by_cases h2 : c + 32 = t
        · simp only [if_pos h2]; exact ih _
        · simp only [if_neg h2]; rfl
theorem flt_run {l : List Nat} (m : List Nat) : ∀ {k st st'}, run l st = some st' → flt (l ++ m) k st = flt m (k + l.length) st' := by
  induction l with
  | nil => intro k st st' h; cases h; rfl
  | cons c l ih =>
    intro k st st' h
    rw [List.cons_append, List.length_cons, flt_cons]
    rw [run_cons] at h
    have e : k + (l.length + 1) = (k + 1) + l.length := by omega
    by_cases h1 : 97 ≤ c ∧ c ≤ 104
    · rw [if_pos h1] at h ⊢; rw [e]; exact ih h
    · rw [if_neg h1] at h ⊢
      cases st with
      | nil => cases h
      | cons t ts =>
        by_cases h2 : c + 32 = t
        · simp only [if_pos h2] at h ⊢; rw [e]; exact ih h
        · simp only [if_neg h2] at h; cases h
/-- a beginning's stack is what is left open; else the fault is a place within -/
theorem flt_spec (l : List Nat) : ∀ k st, (∃ st', run l st = some st') ∨ (run l st = none ∧ ∃ j, flt l k st = some j ∧ k ≤ j ∧ j < k + l.length ∧ ∀ m, flt (l ++ m) k st = some j) := by
  induction l with
  | nil => intro k st; exact .inl ⟨st, rfl⟩
  | cons c l ih =>
    intro k st
    rw [run_cons]
    by_cases h1 : 97 ≤ c ∧ c ≤ 104
    · rw [if_pos h1]
      rcases ih (k + 1) (c :: st) with h | ⟨h, j, h2, h3, h4, h5⟩
      · exact .inl h
      · refine .inr ⟨h, j, ?_, by omega, by rw [List.length_cons]; omega, fun m => ?_⟩
        · rw [flt_cons]; rw [if_pos h1]; exact h2
        · rw [List.cons_append, flt_cons]; rw [if_pos h1]; exact h5 m
    · rw [if_neg h1]
      cases st with
      | nil =>
        refine .inr ⟨rfl, k, ?_, Nat.le_refl _, by rw [List.length_cons]; omega, fun m => ?_⟩
        · rw [flt_cons]; rw [if_neg h1]
        · rw [List.cons_append, flt_cons]; rw [if_neg h1]
      | cons t ts =>
        by_cases h2 : c + 32 = t
        · simp only [if_pos h2]
          rcases ih (k + 1) ts with h | ⟨h, j, h3, h4, h5, h6⟩
          · exact .inl h
          · refine .inr ⟨h, j, ?_, by omega, by rw [List.length_cons]; omega, fun m => ?_⟩
            · rw [flt_cons]; rw [if_neg h1]; simp only [if_pos h2]; exact h3
            · rw [List.cons_append, flt_cons]; rw [if_neg h1]; simp only [if_pos h2]; exact h6 m
        · simp only [if_neg h2]
          refine .inr ⟨trivial, k, ?_, Nat.le_refl _, by rw [List.length_cons]; omega, fun m => ?_⟩
          · rw [flt_cons]; rw [if_neg h1]; simp only [if_neg h2]
          · rw [List.cons_append, flt_cons]; rw [if_neg h1]; simp only [if_neg h2]
theorem flt_of_run {l : List Nat} {k : Nat} {st st' : List Nat} (h : run l st = some st') : flt l k st = if st' = [] then none else some (k + l.length) := by
  have := flt_run (k := k) [] h
  rw [List.append_nil] at this
  rw [this]
  rfl
/-- the stack's letters are opening ones -/
theorem run_lo {l : List Nat} : ∀ {st st'}, run l st = some st' → (∀ c ∈ st, 97 ≤ c ∧ c ≤ 104) → ∀ c ∈ st', 97 ≤ c ∧ c ≤ 104 := by
  induction l with
  | nil => intro st st' h hs; cases h; exact hs
  | cons c l ih =>
    intro st st' h hs
    rw [run_cons] at h
    by_cases h1 : 97 ≤ c ∧ c ≤ 104
    · rw [if_pos h1] at h
      refine ih h fun d hd => ?_
      rcases List.mem_cons.mp hd with rfl | hd
      · exact h1
      · exact hs d hd
    · rw [if_neg h1] at h
      cases st with
      | nil => cases h
      | cons t ts =>
        by_cases h2 : c + 32 = t
        · simp only [if_pos h2] at h
          exact ih h fun d hd => hs d (List.mem_cons_of_mem _ hd)
        · simp only [if_neg h2] at h; cases h
theorem take_snoc {α : Type} {l : List α} {i : Nat} {c : α} (h : l[i]? = some c) : l.take (i + 1) = l.take i ++ [c] := by rw [List.take_add_one, h]; rfl
theorem drop_cons {α : Type} {l : List α} {i : Nat} {c : α} (h : l[i]? = some c) : l = l.take i ++ c :: l.drop (i + 1) := by
  have hi : i < l.length := (List.getElem?_eq_some_iff.mp h).1
  have e : l[i] = c := (List.getElem?_eq_some_iff.mp h).2
  rw [← e, ← List.drop_eq_getElem_cons hi, List.take_append_drop]
theorem run_lo1 {l st : List Nat} {i c : Nat} (h : run (l.take i) [] = some st) (hc : l[i]? = some c) (h1 : 97 ≤ c ∧ c ≤ 104) : run (l.take (i + 1)) [] = some (c :: st) := by
  rw [take_snoc hc, run_append, h]
  show run [c] st = _
  rw [run_cons, if_pos h1]
  rfl
theorem run_up1 {l st : List Nat} {i c : Nat} (h : run (l.take i) [] = some ((c + 32) :: st)) (hc : l[i]? = some c) (h1 : ¬ (97 ≤ c ∧ c ≤ 104)) : run (l.take (i + 1)) [] = some st := by
  rw [take_snoc hc, run_append, h]
  show run [c] ((c + 32) :: st) = _
  rw [run_cons, if_neg h1]
  simp only [if_true]
  rfl
theorem flt_stop {l st : List Nat} {i c : Nat} (h : run (l.take i) [] = some st) (hc : l[i]? = some c) (h1 : ¬ (97 ≤ c ∧ c ≤ 104)) (h2 : ∀ t ts, st = t :: ts → c + 32 ≠ t) : flt l 0 [] = some i := by
  have hi : i < l.length := (List.getElem?_eq_some_iff.mp hc).1
  rw [drop_cons hc, flt_run _ h, flt_cons, if_neg h1, List.length_take, Nat.min_eq_left (by omega), Nat.zero_add]
  cases st with
  | nil => rfl
  | cons t ts => simp only [if_neg (h2 t ts rfl)]
theorem flt_end {l st : List Nat} (h : run (l.take l.length) [] = some st) : flt l 0 [] = if st = [] then none else some l.length := by
  rw [List.take_length] at h
  rw [flt_of_run h, Nat.zero_add]
theorem run_len {l : List Nat} : ∀ {st st'}, run l st = some st' → st'.length ≤ st.length + l.length := by
  induction l with
  | nil => intro st st' h; cases h; exact Nat.le_refl _
  | cons c l ih =>
    intro st st' h
    rw [run_cons] at h
    by_cases h1 : 97 ≤ c ∧ c ≤ 104
    · rw [if_pos h1] at h
      have := ih h
      simp only [List.length_cons] at this ⊢
      omega
    · rw [if_neg h1] at h
      cases st with
      | nil => cases h
      | cons t ts =>
        by_cases h2 : c + 32 = t
        · simp only [if_pos h2] at h
          have := ih h
          simp only [List.length_cons] at this ⊢
          omega
        · simp only [if_neg h2] at h; cases h
/-- the closing letters of a stack -/
theorem run_close : ∀ {st : List Nat}, (∀ c ∈ st, 97 ≤ c ∧ c ≤ 104) → run (st.map (· - 32)) st = some []
  | [], _ => rfl
  | c :: st, h => by
    have hc := h c (List.mem_cons_self ..)
    show run ((c - 32) :: st.map (· - 32)) (c :: st) = _
    rw [run_cons, if_neg (by omega)]
    simp only [show c - 32 + 32 = c by omega, if_true]
    exact run_close fun d hd => h d (List.mem_cons_of_mem _ hd)
/-- what is written so far, what is still open (the last one opened at the end, as closing letters) -/
def NestI (ls os : List Nat) (n : Nat) : Prop := run ls [] = some ((os.map (· + 32)).reverse) ∧ (∀ c ∈ os, 65 ≤ c ∧ c ≤ 72) ∧ ls.length + os.length = n
theorem NestI.nil : NestI [] [] 0 := ⟨rfl, fun _ h => absurd h List.not_mem_nil, rfl⟩
theorem NestI.pop {ls os : List Nat} {c n : Nat} (h : NestI ls (os ++ [c]) n) : NestI (ls ++ [c]) os n := by
  obtain ⟨h1, h2, h3⟩ := h
  have hc := h2 c (by simp)
  refine ⟨?_, fun d hd => h2 d (List.mem_append_left _ hd), by simp only [List.length_append, List.length_singleton] at h3 ⊢; omega⟩
  rw [run_append, h1, List.map_append, List.reverse_append]
  show run [c] ((c + 32) :: (os.map (· + 32)).reverse) = _
  rw [run_cons, if_neg (by omega)]
  simp only [if_true]
  rfl
theorem NestI.push {ls os : List Nat} {c n : Nat} (h : NestI ls os n) (hc : 97 ≤ c ∧ c ≤ 104) : NestI (ls ++ [c]) (os ++ [c - 32]) (n + 2) := by
  obtain ⟨h1, h2, h3⟩ := h
  refine ⟨?_, fun d hd => ?_, by simp only [List.length_append, List.length_singleton]; omega⟩
  · rw [run_append, h1]
    show run [c] _ = _
    rw [run_cons, if_pos hc, List.map_append, List.reverse_append]
    show some (c :: (os.map (· + 32)).reverse) = some ((c - 32 + 32) :: (os.map (· + 32)).reverse)
    rw [show c - 32 + 32 = c by omega]
  · rcases List.mem_append.mp hd with hd | hd
    · exact h2 d hd
    · rw [List.mem_singleton.mp hd]; omega
/-- nested -/
def Nst (l : List Nat) : Prop := run l [] = some []
theorem NestI.done {ls : List Nat} {n : Nat} (h : NestI ls [] n) : Nst ls ∧ ls.length = n := ⟨h.1, by have := h.2.2; simpa using this⟩
section
variable {K : PySem.W.Frag} {B H : Hp} {M R : List (Addr × HO)} {a p : Addr} {Q : VK} {z : Str} {i : Int} {xs : List V}
theorem x_popC {os : List Nat} {c : Nat} (O : Own B H M R) (k : Nat) (hk : R[k]? = some (a, .lst ((os ++ [c]).map ch))) (q : ∀ H1, Own B H1 M (R.set k (a, .lst (os.map ch))) → Q (ch c) H1) : rPop (.ref a) [] H Q := by
  have e : (os ++ [c]).map ch = os.map ch ++ [ch c] := by rw [List.map_append]; rfl
  rw [e] at hk
  refine x_pop O k hk (v := ch c) (by simp) fun H1 O1 => q H1 ?_
  rw [List.dropLast_concat] at O1
  exact O1
theorem x_appC {l : List Nat} {c : Nat} (O : Own B H M R) (k : Nat) (hk : R[k]? = some (a, .lst (l.map ch))) (hz : l.length < 10000000) (q : ∀ H1, Own B H1 M (R.set k (a, .lst ((l ++ [c]).map ch))) → Q .non H1) : rAppend (.ref a) [ch c] H Q := by
  refine x_append O k hk (by rw [List.length_map, sizeLine_eq]; omega) fun H1 O1 => q H1 ?_
  rw [List.map_append]
  exact O1
theorem map_snoc (l : List Nat) (c : Nat) : l.map ch ++ [ch c] = (l ++ [c]).map ch := by rw [List.map_append]; rfl
/-- an item of a list at an open place within it -/
theorem x_ixLo (h : H a = some (.lst xs)) (h0 : 0 ≤ i) (h1 : i < (xs.length : Int)) (q : ∀ v, xs[i.toNat]? = some v → v ∈ xs → Q v H) : rIxL K (.ref a) (.int i) H Q := by
  obtain ⟨c, e, e2, m⟩ := at_lt h0 h1
  exact x_ixL h e (q c e2 m)
end
theorem snoc_of {α : Type} {l : List α} (h : 0 < l.length) : ∃ m c, l = m ++ [c] := by
  rcases List.eq_nil_or_concat l with e | ⟨m, c, e⟩
  · rw [e] at h; simp at h
  · exact ⟨m, c, by rw [e, List.concat_eq_append]⟩
end NF

/-! Own exceptions: a class over ValueError whose __init__ says super().__init__('..') and keeps its arguments. -/
namespace NF
open PySem PySem.Spec PyProof.Rows PySem.W PySem.Calls L2

/-- what the written part says of an own exception class at C, its __init__ at f, one field fld -/
structure XCls (P : Program) (K : Frag) (mg : Str → Option Value) (C : Addr) : Prop where
  oex : OexC K C
  ini : excInitIn K C PySem.HandSPX.veTail "ValueError.__new__" = true
  sub : subIn K (.ref C) (.type "ValueError") = some true
  opq : nsIn K cStatics "thirdparty.any" = some none
  sup : mg "super" = none
  htop : (P.main.scope.names.lookup ("super" : Str)).isSome = false

def spX (K : Frag) (C : Addr) (fld : Str) : Sp := fun vs H Q _ => ∃ e v, vs = [.ref e, v] ∧ H e = some (exo e C none) ∧
  ∀ dx, H dx = none → dx ≠ e → Q .non (upd (upd H dx (exd dx [(fld, v)])) e (exo e C (some dx)))

section
variable {prog : Program} {w : World} {A : Around} {E : Value → Shared → Prop} {K : Frag} {h : Heap} {g : Array GenState} {d : Drawn} {t : Nat} {os : OsState}
/-- super().__init__(..) bound, called -/
theorem call_mwVE {C x u t0 : Addr} {rest : List Value} {Q : Value → Shared → Prop} (X : K.In h) (q : excInitIn K C PySem.HandSPX.veTail "ValueError.__new__" = true) (hu : h.get? u = some (kxs_mw "ValueError.__init__" x))
    (he : h.get? x = some (PySem.HandSPX.excO C t0)) (hz : rest.length ≤ sizeLine)
    (fin : ∀ h' t1, (∀ b o, b ≠ x → h.get? b = some o → h'.get? b = some o) → h'.get? x = some (PySem.HandSPX.excO C t1) → Q .none ⟨h', g, d, t, os⟩) :
    wpAny (model prog w) A (call (.ref u) rest) Q E ⟨h, g, d, t, os⟩ := by
  obtain ⟨nm, N', qn, bs, bm, hdct, sn, sub, ab, col, dd, k0, k1, k2, k3, k5, hC, hT⟩ := excInit_of X q
  refine wpAny_call (codeAny_of_tree ?_)
  show wpAny _ A.in1 (callAny (.ref u) ⟨rest, []⟩) _ _ _
  simp only [callAny]
  refine wpAny_bind (wpAny_load hu ?_)
  simp only [kxs_mw, show (Value.type "method-wrapper" == Value.type "method" || Value.type "method-wrapper" == Value.type "builtin_function_or_method" || Value.type "method-wrapper" == Value.type "method-wrapper") = true by decide, if_true]
  refine KFB.if_so (by decide) ?_
  refine wpAny_bind (check_bound_init PySem.F.excBase_ValueError.toExcCallFacts hC he rfl ?_)
  refine wpAny_bind (wpAny_pure (wpAny_pure ?_))
  refine ⟨plainId_quiet PySem.F.excBase_ValueError.init.plain _, codeAny_builtin PySem.F.excBase_ValueError.initEntry ?_⟩
  exact exc_init_tree (cls := .ref C) (t0 := t0) (dv := none) (c2 := .none) (c3 := .none) (b4 := .bool false) he hz fun h' k e' _ => fin h' _ k e'
end

theorem fn_sup {CX : CXT} {P : Program} {w : World} {K : Frag} {mg : Str → Option Value} {base : Heap} {k : Nat} {C D f cc cda : Addr} {cdD : ClassData} {name qual fld txt : Str} {j : Nat} {params : Arguments} {scope : Scope} {dV kV doc pm ct oc ccl cl : Value} {an od cdd cld : Option Addr}
    {osl ccs csl : Array (Option Value)} {vs : Array Value} {file : Str} {tf : Tok} {ar : Arg} {p0 p1 p2 p3 p4 p5 q0 q1 q2 q3 : Pos} (T : XCls P K mg C)
    (lk : K.lookup f = some ⟨oc, od, .func (ksFn name qual params [.Expr (.Call (.Attribute (.Call (.Name "super" p0) [] [] p1) "__init__" p2) [.Constant (.str txt) j p3] [] p4) p5, .Assign [.Attribute (.Name "self" q0) fld q1] (.Name fld q2) q3] scope dV kV doc pm an (.ref cda) ct cc), osl⟩)
    (hcd : codeIn K (.ref cda) qual = true) (hcode : K.lookup cda = some ⟨ccl, cdd, .fields vs, ccs⟩) (hvs : vs[2]? = some (.str file tf)) (hfile : ((P.main.file : Str) == file) = true)
    (hcell : K.lookup cc = some ⟨cl, cld, .cell (some (.ref D)), csl⟩) (hD : clsIn K D = some cdD) (hp : (params.posonlyargs ++ params.args).head? = some ar) (har : ar.arg = "self")
    (hmro : mroIn K C (.ref D) = some true) (hsi : ks_superIn K C D "__init__" = some (some (.builtin "ValueError.__init__"))) (hno : findIn K (.ref C) fld = some none)
    (hns : ("self" : Str) ≠ fld) (hdb : (fld == ("__debug__" : Str)) = false)
    (s1 : scope.names.lookup ("self" : Str) = some .local) (s2 : scope.names.lookup fld = some .local) (s3 : scope.names.lookup ("super" : Str) = some .globalImplicit) (s4 : scope.names.lookup ("__class__" : Str) = some .free)
    (hnc : ∀ x ∈ scope.names, x.2 ≠ .cell) (hco : scope.isCoroutine = false) (hgen : scope.isGenerator = false) (hk : scope.kind = .function) (pl : Env → Sem Bool)
    (hme : ∀ env : Env, eval (.Call (.Attribute (.Call (.Name "super" p0) [] [] p1) "__init__" p2) [.Constant (.str txt) j p3] [] p4) env = (do
      let ov ← attributeBase (.Call (.Name "super" p0) [] [] p1) "__init__" env (eval (.Call (.Name "super" p0) [] [] p1) env)
      standAt p2.atName
      let (f, first) ← holding [ov] (getMethod ov "__init__" (pl env))
      callWith p4 f first (backTo p4 (starEach [.Constant (.str txt) j p3] env)) [])) :
    FnOk P w K mg base CX (k + 1) f (ksFn name qual params [.Expr (.Call (.Attribute (.Call (.Name "super" p0) [] [] p1) "__init__" p2) [.Constant (.str txt) j p3] [] p4) p5, .Assign [.Attribute (.Name "self" q0) fld q1] (.Name fld q2) q3] scope dV kV doc pm an (.ref cda) ct cc)
      ["self", fld] (spX K C fld) := by
  refine ⟨fun vs H Q E ⟨e, v, hv, _⟩ => by rw [hv]; rfl, fun A outer s H args us vs Q E hr e0 hb r hsp => ?_⟩
  obtain ⟨x, v, rfl, hx, hq⟩ := hsp
  obtain ⟨u0, us1, rfl, r1, r⟩ : ∃ u0 us1, us = u0 :: us1 ∧ RelV (.ref x) u0 ∧ Vals [v] us1 := by cases r with | cons a b => exact ⟨_, _, rfl, a, b⟩
  obtain ⟨u, us2, rfl, ru, r⟩ : ∃ u us2, us1 = u :: us2 ∧ RelV v u ∧ Vals [] us2 := by cases r with | cons a b => exact ⟨_, _, rfl, a, b⟩
  cases r
  obtain rfl : u0 = Value.ref x := r1
  have KX : K.In s.heap := e0.mod.kin.keeps fun b o e => (e0.bs b o e).1
  have lim : s.heap.NoLimit := e0.mod.nolimit.keeps fun b o e => (e0.bs b o e).1
  refine ks_codeAny_call_defAt hr.depth (KX _ _ lk) rfl lim (codeRec_of KX hcd) rfl hb hnc (fun y hy => ?_) (fun h1 hns1 hk1 => ?_) hco hgen hk
  · have hy' : y = (("self" : Str), Value.ref x) ∨ y = (fld, u) := by simpa using hy
    rcases hy' with rfl | rfl
    · exact s1
    · exact s2
  obtain ⟨t0, hx0⟩ := exo_at e0.hok hx
  have hx1 := hk1 _ _ hx0
  obtain ⟨hp0, g, d, tk, os⟩ := s
  have X1 : K.In h1 := KX.keeps hk1
  have bk1 : ∀ b o, base.get? b = some o → h1.get? b = some o := fun b o e => hk1 b o (e0.bs b o e).1
  have mself : ((((["self", fld] : List Str).zip [Value.ref x, u]).reverse).lookup ("self" : Str)) = some (Value.ref x) := by
    have : (("self" : Str) == fld) = false := by simpa using hns
    simp [List.lookup, this]
  have mfld : ((((["self", fld] : List Str).zip [Value.ref x, u]).reverse).lookup fld) = some u := by
    simp [List.lookup]
  refine ks_wpAt_execs_cons (ks_wpAt_Expr_any (ks_wpAt_MethodCall (pl := pl _) ?body (hme _)) ?hi ?hsw)
  case hi =>
    unfold interactive
    show (scope.kind == ScopeKind.module && _) = false
    rw [hk]
    rfl
  case hsw => rfl
  refine ks_wpAt_super_base s3 s4 (by decide) rfl (X1 _ _ lk) rfl hp rfl (X1 _ _ hcode) rfl hvs hfile T.htop ?_
  obtain ⟨mb, hb1, hb2⟩ := e0.mod.blt
  refine ks_loadName_global hk s3 (loadGlobal_builtin (e0.mod.glob.keeps bk1) T.sup (hb1.keeps bk1) ((hb2 _ (by decide)).trans (by first | boot_by_name | rfl | kernel_rfl)) ⟨rfl, ?_⟩)
  refine wpAny_loadName_free hk s4 rfl ⟨_, X1 _ _ hcell, rfl⟩ ?_
  rw [har]
  refine wpAny_loadName_local hk s1 hns1 mself ?_
  obtain ⟨oD, hD1, hD2⟩ : ∃ oD, h1.get? D = some oD ∧ oD.data = .cls cdD := by
    unfold clsIn at hD
    split at hD
    · rename_i c d cd' sl ho
      cases hD
      exact ⟨_, X1 _ _ ho, rfl⟩
    · cases hD
  refine ks_wpAny_isType_cls hD1 hD2 ⟨rfl, ?_⟩
  refine ks_wpAny_call_super hD1 hD2 hx1 rfl (fun c e => by cases e) (looks_mroIn X1 hmro) (fun h2 e2 k2 => ?_)
  have X2 : K.In h2 := X1.keeps k2
  have hx2 := k2 _ _ hx1
  have I2 : InstAt h2 x (PySem.HandSPX.excO C t0) C none := ⟨hx2, rfl, rfl, trivial⟩
  cases hc : clsIn K C with
  | none => unfold ks_superIn at hsi; rw [hc] at hsi; cases hsi
  | some cd =>
    unfold ks_superIn at hsi
    rw [hc] at hsi
    refine kxs_getMethod kxs_ValueError e2 (looks_opaque X2 T.opq) (l₀ := cd.mro) ?_ rfl X2 hsi (I2.type.andThen (looks_subIn X2 T.sub)) (ks_ne X2 I2 hc) (by decide) ?_
    · exact fun A Q E s k q => wpAny_bind ((looks_clsIn X2 hc) A _ E s k (wpAny_pure q))
    refine kxs_callWith (i := "ValueError.__init__") (x := x) rfl ?_
    refine evalArgs_plain ?_
    show wpAny _ _ (spliced ((false, eval (.Constant (.str txt) j p3) _) :: backTo p4 (starEach [] _))) _ _ _
    refine spliced_cons (Constant_str (spliced_nil ?_))
    have k3 : ∀ b o, h2.get? b = some o → (h2.push (kxs_mw "ValueError.__init__" x)).get? b = some o := fun b o e => Heap.get?_push_of_some _ e
    have hu3 : (h2.push (kxs_mw "ValueError.__init__" x)).get? h2.objs.size = some (kxs_mw "ValueError.__init__" x) := Heap.get?_push_at rfl rfl
    refine ⟨hu3, ?_⟩
    refine call_mwVE (X2.keeps k3) T.ini hu3 (k3 _ _ hx2) (by size_fits) fun h4 t1 k4 hx4 => ?_
    have k14 : ∀ b o, b ≠ x → h1.get? b = some o → h4.get? b = some o := fun b o hb e => k4 b o hb (k3 _ _ (k2 _ _ e))
    have hn : H hp0.objs.size = none := e0.hok.fresh (Nat.le_refl _)
    have hxL : hp0.objs.size ≠ x := fun z => by rw [z, hx] at hn; cases hn
    have X4 : K.In h4 := e0.mod.kin.keeps fun b o e => k14 b o (fun z => by
      have q := (e0.bs b o e).2
      rw [z, hx] at q
      cases q) (bk1 b o e)
    have hns4 : h4.Ns hp0.objs.size (fun y => List.lookup y (([("self" : Str), fld].zip [Value.ref x, u]).reverse)) := hns1.at fun o e => k14 _ _ hxL e
    show _root_.PySem.wpAt _ _ _ (execs [.Assign [.Attribute (.Name "self" q0) fld q1] (.Name fld q2) q3] _) _ _ _
    refine wpAt_of_wpAny (wpAny_execs_cons ?_)
    refine plainObj_wpAny_Assign_Attribute ?_ rfl
    refine wpAny_Name (wpAny_loadName_local hk s2 hns4 mfld ?_) hdb
    refine wpAny_Name (wpAny_loadName_local hk s1 hns4 mself ?_) (by decide)
    obtain ⟨nm, q, N, bs, bm, sn, sub, ab, col, dd, kk0, kk1, kk2, kk3, kk5, hC, hbm⟩ := T.oex.cls
    have hcl : clsIn K C = some { name := nm, bases := bs, mro := .ref C :: bm, ns := N, qualname := q, hasDict := true, slotNames := sn, subclasses := sub, abstract := ab, collection := col, hasDel := false } := by unfold clsIn; rw [hC] <;> rfl
    refine set_plain X4 (ox := PySem.HandSPX.excO C t1) (od := none) ⟨hx4, rfl, rfl, trivial⟩ T.oex.sa ?_
    refine PySem.HandSPX.exc_osa X4 hx4 hcl (show PySem.HandSPX.refsVE (.ref C :: bm) = true from hbm) rfl hno (fun h5 tk5 dx k5 dn dne hx5 hn5 => ?_)
    refine wpAny_execs_nil ?_
    have k05 : ∀ b o, b ≠ x → hp0.get? b = some o → h5.get? b = some o := fun b o hb e => k5 b o hb (k14 b o hb (hk1 b o e))
    have sz : hp0.objs.size ≤ dx := Nat.le_trans (Nat.le_of_lt hns4.lt) dn
    have hnd : H dx = none := e0.hok.fresh sz
    have nd : ∀ {b : Addr} {o : Obj}, hp0.get? b = some o → b ≠ dx := fun {b o} q => Nat.ne_of_lt (Nat.lt_of_lt_of_le (Heap.lt_size q) sz)
    have na : ∀ {b : Addr}, H b = none → b ≠ x := fun {b} n z => by
      rw [z, hx] at n
      cases n
    have Un1 : Un (frs outer) [] H (upd (upd H dx (exd dx [(fld, v)])) x (exo x C (some dx))) hp0 h5 := {
      keep := fun b o q n _ _ => k05 b o (na n) q
      slot := fun b o q n _ _ => ⟨o.slots, k05 b o (na n) q⟩
      free := fun b o q n _ => by rw [upd_ne (na n), upd_ne (nd q)]; exact n
      there := fun b o q _ => by
        by_cases hb : b = x
        · exact ⟨_, by rw [hb]; exact hx5⟩
        · exact ⟨o, k05 b o hb q⟩
      tups := fun b xs q => by rw [upd_ne (at_ne hx q exo_tup), upd_ne (ne_of_none q hnd)]; exact q
      frzs := fun b o v q => by rw [upd_ne (at_ne hx q exo_frz), upd_ne (ne_of_none q hnd)]; exact q
      tbls := fun b ps q => ⟨#[], by rw [upd_ne (at_ne hx q exo_tbl), upd_ne (ne_of_none q hnd), q]; simp⟩ }
    refine ⟨.non, _, rfl, e0.bare, Un1, fun b o q => ?_, rfl, hq dx hnd dne⟩
    by_cases hb : b = x
    · subst hb
      rw [upd_same] at q
      cases q
      exact exo_ok hx5
    · rw [upd_ne hb] at q
      by_cases hd : b = dx
      · subst hd
        rw [upd_same] at q
        cases q
        exact exd_ok hn5 (relO_put (fs := []) ru fun g => True.intro)
      · rw [upd_ne hd] at q
        exact (e0.hok b o q).stay (fun c v hc z => k05 c v (by
            rcases hc with hc | hc
            · rw [hc]
              exact hb
            · exact at_ne hx hc exo_own) z)
          (fun c hc => by rw [upd_ne (at_ne hx hc exo_own), upd_ne (ne_of_none hc hnd)]; exact hc) (fun c xs hc => by rw [upd_ne (at_ne hx hc exo_tup), upd_ne (ne_of_none hc hnd)]; exact hc)
end NF

/-! Own exceptions, second part: classes by name, raising, defs that may raise, isinstance and fields in a suite. -/
namespace NF
open PySem PySem.Spec PyProof.Rows PySem.W PySem.Calls L2

/-- the class that the module's name x stands for -/
def cad (mg : Str → Option Value) (x : Str) : Addr := match mg x with
  | some (.ref a) => a
  | _ => 0
theorem cad_eq {mg : Str → Option Value} {x : Str} {a : Addr} (h : mg x = some (.ref a)) : cad mg x = a := by
  unfold cad
  rw [h]

/-- an exception class: what a clause that names it and isinstance want of it -/
structure XNam (K : Frag) (mg : Str → Option Value) (x : Str) : Prop where
  hm : mg x = some (.ref (cad mg x))
  exC : subIn K (.ref (cad mg x)) (.type "BaseException") = some true
  hd : hasDictIn K (cad mg x) = true
  ty : typeIn K (.ref (cad mg x)) = some (.type "type")

/-- .. whose instances are made and looked at -/
structure XFact (P : Program) (K : Frag) (mg : Str → Option Value) (x fld : Str) : Prop where
  nam : XNam K mg x
  cls : XCls P K mg (cad mg x)
  exc : ExcC K (cad mg x)
  nof : findIn K (.ref (cad mg x)) fld = some none
  ini : ∃ fI fd, findIn K (.ref (cad mg x)) "__init__" = some (some (.ref fI)) ∧ typeIn K (.ref fI) = some (.type "function") ∧ Binds K fd ["self", fld] [] ∧
    ∀ (w : World) (base : Heap) (CX : CXT), FnOk P w K mg base CX 1 fI fd ["self", fld] (spX K (cad mg x) fld)

/-! ### X(e) -/
def tMkX (C : Addr) (fld : Str) (te : TE) : L2.St → Hp → XK → Prop := fun σ H Q => te σ H fun v H1 => ∀ d, H1 d = none → Q (.ref C) (some d) (upd H1 d (.xd [(fld, v)]))

theorem pmk_x {X : Cx} {x fld : Str} {e : Expr} {te : TE} {p pos : Pos} (T : XFact X.prog X.K X.mg x fld) (hr : Room 2 X.A) (hg : Gl X x) (ha : PE X e te)
    (hdb : (x == ("__debug__" : Str)) = false := by decide) (he : starEach [e] X.env = (false, eval e X.env) :: starEach [] X.env := by rfl) :
    L2N.PMk X (.Call (.Name x p) [e] [] pos) (tMkX (cad X.mg x) fld te) := by
  intro pins s σ H Q I h
  obtain ⟨fI, fd, iC, tI, hb, F1⟩ := T.ini
  have F1 := F1 X.w X.base CX0
  obtain ⟨nm, q, N, bs, bm, sn, sub, ab, col, dd, k0, k1, k2, k3, k5, hC, hbm⟩ := T.cls.oex.cls
  refine wpAny_Call_Name_kw (ld_glob I hg T.nam.hm ?_ hdb)
  refine PySem.W.callWith_K (h₀ := X.base) I.ok.mod.kin T.cls.oex.kC ?_ he rfl
  rw [he]
  refine spliced_cons (thn (ha.run pins s σ H _ I h) fun u s1 ⟨v, H1, I1, r1, q1⟩ => spliced_nil ⟨I1.kIn, ?_⟩)
  show wpAny _ _ (call (.ref (cad X.mg x)) [u]) _ _ _
  obtain ⟨hp, g, dr, tk, os⟩ := s1
  have hsz : hp.objs.size ≤ hp.objs.size + 1 := Nat.le_succ _
  have hn : H1 (hp.objs.size + 1) = none := I1.hok.fresh hsz
  have kk : ∀ b o, hp.get? b = some o → ((hp.push (PySem.W.kdv_tup [u])).push (PySem.HandSPX.excO (cad X.mg x) hp.objs.size)).get? b = some o := fun b o e => Heap.get?_push_of_some _ (Heap.get?_push_of_some _ e)
  have hget : ((hp.push (PySem.W.kdv_tup [u])).push (PySem.HandSPX.excO (cad X.mg x) hp.objs.size)).get? (hp.objs.size + 1) = some (PySem.HandSPX.excO (cad X.mg x) hp.objs.size) := by heap_get
  have I2 : Inv X pins σ (upd H1 (hp.objs.size + 1) (exo (hp.objs.size + 1) (cad X.mg x) none)) ⟨(hp.push (PySem.W.kdv_tup [u])).push (PySem.HandSPX.excO (cad X.mg x) hp.objs.size), g, dr, tk, os⟩ :=
    I1.laid (t' := tk) (a := hp.objs.size + 1) (o := exo (hp.objs.size + 1) (cad X.mg x) none) (h' := (hp.push (PySem.W.kdv_tup [u])).push (PySem.HandSPX.excO (cad X.mg x) hp.objs.size)) kk hsz (exo_ok hget)
  have r2 : Vals [V.ref (hp.objs.size + 1), v] [Value.ref (hp.objs.size + 1), u] := .cons rfl (.cons r1 .nil)
  have b2 := hb _ [Value.ref (hp.objs.size + 1), u] I2.kIn rfl
  refine wpAny_call (PySem.HandSPX.call_own PySem.F.excBase_ValueError (fun Y => PySem.HandSPX.refsVE_contains Y bm hbm) (I1.kIn _ _ hC) (PySem.W.looks_findIn I1.kIn iC) (fun self => PySem.W.bind_fn I1.kIn self tI) (by size_fits)
    (codeAny_mono (F1.run _ X.stack _ _ ⟨[Value.ref (hp.objs.size + 1), u], []⟩ [Value.ref (hp.objs.size + 1), u] _
      (fun v2 H2 => v2 = .non ∧ ∃ dx, H1 dx = none ∧ dx ≠ hp.objs.size + 1 ∧ H2 = upd (upd (upd H1 (hp.objs.size + 1) (exo (hp.objs.size + 1) (cad X.mg x) none)) dx (exd dx [(fld, v)])) (hp.objs.size + 1) (exo (hp.objs.size + 1) (cad X.mg x) (some dx)))
      (fun _ _ _ => False) (hr.make (cad X.mg x) [u] []) (I2.env0.make (cad X.mg x) [u] []) b2 r2 ⟨_, v, rfl, upd_same, fun dx h1 h2 => ⟨rfl, dx, by rw [upd_ne h2] at h1; exact h1, h2, rfl⟩⟩) fun r s' hq' => ?_))
  cases r with
  | error er => exact hq'.elim
  | ok fl =>
    cases fl with
    | ret u =>
      obtain ⟨v2, H2, os2, bare2, un2, hok2, rv, ev, dx, hd1, hne, eH⟩ := hq'
      subst ev
      obtain ⟨h2, g2, d2, t2, os'⟩ := s'
      have ea : H2 (hp.objs.size + 1) = some (exo (hp.objs.size + 1) (cad X.mg x) (some dx)) := by rw [eH, upd_same]
      have ed : H2 dx = some (exd dx [(fld, v)]) := by rw [eH, upd_ne hne, upd_same]
      obtain ⟨t0, G, J, kG, ge, hoe, na⟩ := mk_end0 (d2 := d2) (t2 := t2) I1 hsz kk un2 hok2 os2 bare2 ea ed hd1
      have eF : upd (del H2 (hp.objs.size + 1)) dx (.xd [(fld, v)]) = upd H1 dx (.xd [(fld, v)]) := by
        funext b
        by_cases hb : b = dx
        · rw [hb, upd_same, upd_same]
        · rw [upd_ne hb, upd_ne hb]
          by_cases ha : b = hp.objs.size + 1
          · rw [ha, del_same, hn]
          · rw [del_ne ha, eH, upd_ne ha, upd_ne hb, upd_ne ha]
      rw [eF] at J na
      refine ⟨rv, ⟨hp.objs.size + 1, _, _, ⟨G, g2, d2, t2, os'⟩, _, .ref (cad X.mg x), some dx, rfl, J, kG, ge, hoe, ⟨rfl, rfl, fun vs hv => ?_⟩, rfl, rfl, na, rfl, bare2, raises_own T.cls.oex.exC T.cls.oex.tyC, q1 dx hd1⟩⟩
      cases hv
      rfl
    | next => exact False.elim hq'
    | brk => exact False.elim hq'
    | cont => exact False.elim hq'

/-! ### defs that may raise, with defaults -/
structure DefX (P : Program) (w : World) (K : PySem.W.Frag) (mg : Str → Option Value) (base : Heap) (k : Nat) (x : Str) (ps : List Str) (dvs : List V) (sp : Sp) : Prop where
  ex : ∃ f fd ds, FnOk P w K mg base (L2N.CX P w) k f fd ps sp ∧ mg x = some (.ref f) ∧ PySem.W.keepIn K (.ref f) = true ∧ Binds K fd ps ds ∧ Vals dvs ds
/-- a def with defaults as the top leaves it; the last ones always lack -/
def FnD (K : PySem.W.Frag) (mg : Str → Option Value) (x : Str) (st : Stmt) (dvs : List V) : Prop := ∃ f fd, FunD K x x (defArgs st) (defBody st) (defScope st) dvs [] f fd ∧ mg x = some (.ref f)
section
variable {P : Program} {w : World} {K : PySem.W.Frag} {mg : Str → Option Value} {base : Heap}
theorem DefX.mk0 {x : Str} {st : Stmt} {N ps : List Str} {k : Nat} {sp : Sp} (F : Fn0 K mg x st) (S : FnScope N ps (defScope st)) (len : ∀ vs H Q E, sp vs H Q E → vs.length = ps.length)
    (hbind : ∀ (kV doc pm : Value) (an : Option Addr) (cdv ct : Value) (us : List Value), us.length = ps.length → bindArgs (PySem.W.fnOf x x (defArgs st) (defBody st) (defScope st) .none kV doc pm an cdv ct) ⟨us, []⟩ = pure (ps.zip us))
    (hbody : ∀ {f : Addr} (cdv : Value) (A : Around) (outer : List Env) (s : Shared) (H : Hp) (vs : List V) (Q : VK) (E : XK), Room k (A.deeper (envOfC x (defScope st) s.heap.objs.size f cdv)) → sp vs H Q E →
      L2N.Takes (cxOf (L2N.CX P w) P w K mg base N x (defScope st) f cdv A outer s H E) (fun cls d _ H' => E cls d H') → PassesOwn (model P w) (A.deeper (envOfC x (defScope st) s.heap.objs.size f cdv)) (envOfC x (defScope st) s.heap.objs.size f cdv) (cxOf (L2N.CX P w) P w K mg base N x (defScope st) f cdv A outer s H E).xe →
      ∃ t, PSs (cxOf (L2N.CX P w) P w K mg base N x (defScope st) f cdv A outer s H E) (defBody st) t ∧ t { nx := fun _ H' => Q .non H', rt := Q } (start N vs) H) : DefX P w K mg base (k + 1) x ps [] sp := by
  obtain ⟨f, fd, F, hm⟩ := F
  obtain ⟨oc, od, kV, doc, pm, an, cdv, ct, osl, rfl, lk, hcd⟩ := F.ex
  exact ⟨f, _, [], fn_of lk hcd S len fun A outer s H vs Q E hr hsp => hbody cdv A outer s H vs Q E hr hsp (L2N.takes_of rfl rfl rfl rfl) (passes_of rfl), hm, F.kp, F.binds hbind, .nil⟩
theorem DefX.mkD {x : Str} {st : Stmt} {N ps : List Str} {k : Nat} {dvs : List V} {sp : Sp} (F : FnD K mg x st dvs) (hd : dvs ≠ []) (n : Nat) (hn : n + dvs.length = ps.length) (S : FnScope N ps (defScope st)) (len : ∀ vs H Q E, sp vs H Q E → vs.length = ps.length)
    (hbind : ∀ (T : Addr) (kV doc pm : Value) (an : Option Addr) (cdv ct : Value) (us its : List Value), us.length = n → its.length = dvs.length →
      ∃ k, bindArgs (PySem.W.fnOf x x (defArgs st) (defBody st) (defScope st) (.ref T) kV doc pm an cdv ct) ⟨us, []⟩ = seqItems? (.ref T) >>= k ∧ k (some its.toArray) = pure (ps.zip (us ++ its)))
    (hbody : ∀ {f : Addr} (cdv : Value) (A : Around) (outer : List Env) (s : Shared) (H : Hp) (vs : List V) (Q : VK) (E : XK), Room k (A.deeper (envOfC x (defScope st) s.heap.objs.size f cdv)) → sp vs H Q E →
      L2N.Takes (cxOf (L2N.CX P w) P w K mg base N x (defScope st) f cdv A outer s H E) (fun cls d _ H' => E cls d H') → PassesOwn (model P w) (A.deeper (envOfC x (defScope st) s.heap.objs.size f cdv)) (envOfC x (defScope st) s.heap.objs.size f cdv) (cxOf (L2N.CX P w) P w K mg base N x (defScope st) f cdv A outer s H E).xe →
      ∃ t, PSs (cxOf (L2N.CX P w) P w K mg base N x (defScope st) f cdv A outer s H E) (defBody st) t ∧ t { nx := fun _ H' => Q .non H', rt := Q } (start N vs) H) : DefX P w K mg base (k + 1) x ps dvs sp := by
  obtain ⟨f, fd, F, hm⟩ := F
  obtain ⟨ds, hv, hb⟩ := F.binds1 (ps := ps) n 0 hd hn hbind
  obtain ⟨oc, od, dV, kV, doc, pm, an, cdv, ct, osl, rfl, lk, hcd, hD, hK⟩ := F.ex
  exact ⟨f, _, ds, fn_of lk hcd S len fun A outer s H vs Q E hr hsp => hbody cdv A outer s H vs Q E hr hsp (L2N.takes_of rfl rfl rfl rfl) (passes_of rfl), hm, F.kp, hb, hv⟩
end
section
variable {X : Cx} {k : Nat} {x : Str} {ps : List Str} {dvs : List V} {sp : Sp} {p pos : Pos} {e : Expr} {es : List Expr} {t : TA} {W : WX}
/-- f(e, ..) of a def that may raise -/
def tCallX (sp : Sp) (dvs : List V) (W : WX) (t : TA) : TE := fun σ H Q => t σ H fun vs H1 => sp (vs ++ dvs) H1 Q (fun cls d H2 => W cls d σ H2)
theorem pe_dx (D : DefX X.prog X.w X.K X.mg X.base k x ps dvs sp) (hr : Room k X.A) (tk : L2N.Takes X W) (hg : Gl X x) (ha : PA X (e :: es) t) (hdb : (x == ("__debug__" : Str)) = false := by decide)
    (he : starEach (e :: es) X.env = (false, eval e X.env) :: starEach es X.env := by rfl) (hpl : (backTo pos (starEach es X.env)).any (·.1) = false := by rfl) : PE X (.Call (.Name x p) (e :: es) [] pos) (tCallX sp dvs W t) := by
  obtain ⟨f, fd, ds, F, hm, hk, hb, hv⟩ := D.ex
  refine ⟨fun pins s σ H Q I h => ?_⟩
  refine wpAny_Call_Name_kw (ld_glob I hg hm ?_ hdb)
  refine PySem.W.callWith_K (h₀ := X.base) I.ok.mod.kin hk (thn (ha.run pos pins s σ H _ I h) fun us s1 ⟨vs, H1, I1, r, q⟩ => ⟨I1.kIn, ?_⟩) he hpl
  show wpAny _ _ (call (.ref f) us) _ _ _
  have r2 : Vals (vs ++ dvs) (us ++ ds) := r.append hv
  have hl : (us ++ ds).length = ps.length := by rw [← r2.length]; exact F.len _ _ _ _ q
  refine wpAny_call (codeAny_mono (F.run X.A X.stack s1 H1 ⟨us, []⟩ (us ++ ds) (vs ++ dvs) Q _ hr I1.env0 (hb s1 us I1.kIn hl) r2 q) fun r s' hq => ?_)
  cases r with
  | error er => exact L2N.passAt tk σ pins H1 s1 er s' I1 hq
  | ok fl =>
    cases fl with
    | ret u => exact I1.after hq
    | next => exact False.elim hq
    | brk => exact False.elim hq
    | cont => exact False.elim hq
theorem pe_clsn {mg : Str → Option Value} (h : mg x = some (.ref (cad mg x))) (hX : X.mg = mg) (hg : Gl X x) (hdb : (x == ("__debug__" : Str)) = false := by decide) : PE X (.Name x pos) (tC (.ref (cad mg x))) := by
  subst hX
  exact pe_glob hg h rfl hdb
end
theorem takesN0 {X : Cx} : L2N.Takes X (fun _ _ _ _ => False) := fun _ _ ⟨_, _, _, _, _, _, _, _, _, _, _, _, _, _, _, _, w⟩ => w.elim

/-! ### promises of defs that may raise -/
/-- the exception: its class, its fields -/
abbrev ExS := List V → Str → List (Str × V) → Prop
/-- plain values in; a plain value out, or an exception -/
def spPX (mg : Str → Option Value) (n : Nat) (pre : List V → Prop) (post : List V → V → Prop) (exc : ExS) : Sp := fun vs H Q E => vs.length = n ∧ pre vs ∧ (∀ v H', Own H H' [] [] → post vs v → Q v H') ∧
  ∀ x fs d H', Own H H' [] [] → exc vs x fs → H d = none → H' d = some (.xd fs) → E (.ref (cad mg x)) (some d) H'
theorem hl_spPX {mg : Str → Option Value} {n : Nat} {pre : List V → Prop} {post : List V → V → Prop} {exc : ExS} : ∀ vs H Q E, spPX mg n pre post exc vs H Q E → vs.length = n := fun vs H Q E h => h.1
section
variable {mg : Str → Option Value} {B H : Hp} {M R : List (Addr × HO)} {Q : VK} {E : XK} {n : Nat} {pre : List V → Prop} {vs : List V} {exc : ExS}
theorem use_spPX {post : List V → V → Prop} (O : Own B H M R) (hl : vs.length = n) (hp : pre vs) (q : ∀ v H', Own B H' M R → post vs v → Q v H')
    (e : ∀ x fs d H', Own B H' M R → exc vs x fs → B d = none → H' d = some (.xd fs) → E (.ref (cad mg x)) (some d) H') : spPX mg n pre post exc vs H Q E :=
  ⟨hl, hp, fun v H' O' h => q v H' (O.call0 O') h, fun x fs d H' O' h h1 h2 => e x fs d H' (O.call0 O') h (O.base_free h1) h2⟩
/-- X(e) in a def's own reading -/
theorem x_raise {C : Addr} {v : V} {fld : Str} {d : Addr} (O : Own B H M R) (h : H d = none) : Own B (upd H d (.xd [(fld, v)])) M R ∧ B d = none := by
  exact ⟨O.ignore h, O.base_free h⟩
end
end NF

/-! try with several clauses, each with or without a name. -/
namespace NF
open PySem PySem.Spec PyProof.Rows L2

/-- a clause: the class it names, the slot of its name, its suite's reading -/
structure Cls3 where
  c : Value
  i : Option Nat
  ts : Addr → Value → Option Addr → TS

/-- the ends of a suite whose clause may have a name -/
def endsOf : Option Nat → Ends → Ends
  | none, D => D
  | some i, D => { nx := fun σ' H' => D.nx (σ'.set i none) H', rt := D.rt, bk := fun σ' H' => D.bk (σ'.set i none) H', ct := fun σ' H' => D.ct (σ'.set i none) H' }
def startOf (a : Addr) : Option Nat → L2.St → L2.St
  | none, σ => σ
  | some i, σ => σ.set i (some (.ref a))
def wAll (K : PySem.W.Frag) (Wout : WX) (D : Ends) : List Cls3 → WX
  | [] => Wout
  | k :: r => fun cls d σ H => ∃ b, PySem.W.exmOne K cls k.c = some b ∧ (b = true → ∀ a, H a = none → k.ts a cls d (endsOf k.i D) (startOf a k.i σ) H) ∧ (b = false → wAll K Wout D r cls d σ H)

/-- a clause's suite -/
def SuOk (X : Cx) (suite : List Stmt) (ts : Addr → Value → Option Addr → TS) : Prop :=
  ∀ (a : Addr) (oe : Obj) (cls : Value) (d : Option Addr) (pn : List (Addr × Obj)), L2N.Zn cls d oe → (∃ vs, oe.data = .fields vs) → PSs (X.suite a ((a, oe) :: pn)) suite (ts a cls d)
inductive HdA (X : Cx) : List ExceptHandler → List Cls3 → Prop
  | nil : HdA X [] []
  | plain {x : Str} {c : Value} {ts : Addr → Value → Option Addr → TS} {b₀ : Stmt} {su : List Stmt} {np pos' : Pos} {hds : List ExceptHandler} {l : List Cls3} (hc : Names X x c) (hsu : SuOk X (b₀ :: su) ts) (r : HdA X hds l) :
      HdA X (.ExceptHandler (some (.Name x np)) none (b₀ :: su) pos' :: hds) (⟨c, none, ts⟩ :: l)
  | named {x n : Str} {c : Value} {i : Nat} {ts : Addr → Value → Option Addr → TS} {b₀ : Stmt} {su : List Stmt} {np pos' : Pos} {hds : List ExceptHandler} {l : List Cls3} (hN : X.N.Nodup) (hi : X.N[i]? = some n) (hln : X.env.kindOf n = some .local)
      (hc : Names X x c) (hsu : SuOk X (b₀ :: su) ts) (r : HdA X hds l) : HdA X (.ExceptHandler (some (.Name x np)) (some n) (b₀ :: su) pos' :: hds) (⟨c, some i, ts⟩ :: l)

section
variable {X : Cx} {body : List Stmt} {h₀ : ExceptHandler} {hds : List ExceptHandler} {l : List Cls3} {pos : Pos} {tb : WX → TS} {Wout : WX}
theorem ps_try_all (hs : X.stack = X.env :: X.outer) (hf : X.env.frame = some X.env.locals) (tk : L2N.Takes X Wout)
    (hb : ∀ (W : WX) (pn : List (Addr × Obj)) (xe : Value → Shared → Prop), L2N.Takes (X.tr pn xe) W → PassesOwn (model X.prog X.w) X.A X.env xe → PSs (X.tr pn xe) body (tb W))
    (hh : HdA X (h₀ :: hds) l) : PS X (.Try body (h₀ :: hds) [] [] pos) (fun D σ H => tb (wAll X.K Wout D l) D σ H) := by
  refine ⟨fun pins s σ H D I h => ?_⟩
  have ok := I.ok
  have hfr : X.A.frames = some (X.env :: X.outer) := by rw [ok.frames, hs]
  refine wpAny_Try_except (wpAny_mono ((hb (wAll X.K Wout D l) (X.pn ++ pins) (fun e s₁ => wpAny (model X.prog X.w) X.A (noteFrame e X.env) (fun _ s₂ => wpAny (model X.prog X.w) X.A (setFlight e none) (fun _ s₃ =>
    wpAny (model X.prog X.w) X.A (handleBy e X.env (h₀ :: hds)) (SP X pins D) X.xe s₃) X.xe s₂) X.xe s₁) (fun u s' xx => ?_) PassesOwn.looking).run [] s σ H D (I.toTry _) h) (fun f s1 hsp => ?_) (fun e s1 he => he))
  · obtain ⟨a, B, sI, pins', σ', H', cls, d, rfl, J', nb, up, sky, na, os, ag, w⟩ := xx
    have J : Inv X pins σ' H' sI := J'.ofTry ok
    have sky' : L2.Sky B (X.env :: X.outer) a (L2N.Zn cls d) X.env.locals s'.heap := by rw [← hs]; exact sky
    show wpAny (model X.prog X.w) X.A (noteFrame (.ref a) X.env) _ _ _
    refine L2N.Sky.land L2N.Zn.steady hfr hf sky' fun h3 fl3 up3 => ?_
    have J3 : Inv X pins σ' H' { s' with heap := h3 } := J.landed nb fl3.1 (up.trans up3) os ag
    obtain ⟨oe3, vs3, he3, hz3, hd3⟩ := fl3.there
    have nfr : a ∉ frs (X.env :: X.outer) := fun hm => by
      obtain ⟨_, o', e', hnf⟩ := fl3.2.2.1.mem hm
      rw [he3] at e'; cases e'
      exact hnf _ hd3
    have nL : a ≠ X.env.locals := fun z => nfr (List.mem_filterMap.mpr ⟨X.env, List.mem_cons_self, by rw [hf, z]⟩)
    have nF : a ∉ X.fs := fun hm => by
      obtain ⟨e, he, q⟩ := List.mem_filterMap.mp hm
      exact nfr (List.mem_filterMap.mpr ⟨e, List.mem_cons_of_mem _ he, q⟩)
    have S3 := J3.suite he3 hd3 na nL nF
    have LT : PySem.W.Looks (model X.prog X.w) h3 (typeOf (.ref a)) cls := fun A Q E s k q => wpAny_typeOf_ref (k _ _ he3) (by rw [hz3.1]; exact q)
    have test : ∀ {x : Str} {c : Value} {np : Pos} {Q : Value → Shared → Prop} {E : Value → Shared → Prop}, Names X x c → Q c { s' with heap := h3 } → wpAny (model X.prog X.w) (X.A.mark (some (.ref a))) (eval (.Name x np) X.env) Q E { s' with heap := h3 } := fun {x c np Q E} hc q => by
      obtain ⟨hg, hdbg, hm | ⟨hm, hv, hnn⟩⟩ := hc
      · exact ld_glob (X := X.suite a ((a, oe3) :: (X.pn ++ pins))) S3 hg hm q hdbg
      · exact ld_blt (X := X.suite a ((a, oe3) :: (X.pn ++ pins))) S3 hg hm hv q hnn hdbg
    have go : ∀ {hds' : List ExceptHandler} {l' : List Cls3}, HdA X hds' l' → wAll X.K Wout D l' cls d σ' H' →
        wpAny (model X.prog X.w) X.A (handleBy (.ref a) X.env hds') (SP X pins D) X.xe { s' with heap := h3 } := by
      intro hds' l' hk
      induction hk with
      | nil =>
        intro w
        refine wpAny_handleBy_nil ?_
        obtain ⟨k1, k2, k3, oe, vs, T, oT, ts', he, hz, hd, h1, hr⟩ := id fl3
        unfold PySem.passOn
        refine wpAny_bind (wpAny_field he hd h1 ?_)
        rw [if_neg (show ¬ ((Value.ref T == Value.none) = true) from by simp)]
        have fin : wpAny (model X.prog X.w) X.A (setFlight (.ref a) X.env.frame) (fun _ s4 => wpAny (model X.prog X.w) X.A (throw (.ref a) : Sem Flow) (SP X pins D) X.xe s4) X.xe { s' with heap := h3 } := by
          rw [hf]
          refine HandSPX.setFlight_upZ fl3 fun h4 hh4 up4 => wpAny_throw (tk _ _ ?_)
          exact ⟨a, B, sI, pins, σ', H', cls, d, rfl, J, nb, (up.trans up3).trans up4, .inr (.inr (by rw [hs]; exact hh4)), na, os, ag, w⟩
        first
          | exact wpAny_bind (wpAny_pure (wpAny_bind fin))
          | exact wpAny_bind fin
      | @plain x c ts b₀ su np pos' hds2 l2 hc hsu r ih =>
        intro w
        obtain ⟨b, hb1, hyes, hno⟩ := w
        refine wpAny_handleBy_cons (codeAny_handlers_test (test hc ((PySem.W.exm_one (M := model X.prog X.w) (J3.kIn) LT hb1).here ?_))) (by intro q; cases q)
        cases b with
        | false => exact ih (hno rfl)
        | true =>
          refine codeAny_handlers_suite (HandSPX.lands_againZ fl3 fun h4 fl4 up4 => ?_)
          have J4 : Inv X pins σ' H' { s' with heap := h4 } := J.landed nb fl4.1 ((up.trans up3).trans up4) os ag
          obtain ⟨oe4, vs4, he4, hz4, hd4⟩ := fl4.there
          refine wpAny_mono ((hsu a oe4 cls d (X.pn ++ pins) hz4 ⟨_, hd4⟩).run [] _ _ H' _ (J4.suite he4 hd4 na nL nF) (hyes rfl a na)) (fun f s6 hsp => ?_) (fun _ _ z => False.elim z)
          cases f with
          | ret u =>
            obtain ⟨v6, σ6, H6, S6, r6, q6⟩ := hsp
            exact ⟨_, _, _, S6.unsuite ok, r6, q6⟩
          | next =>
            obtain ⟨σ6, H6, S6, q6⟩ := hsp
            exact ⟨_, _, S6.unsuite ok, q6⟩
          | brk =>
            obtain ⟨σ6, H6, S6, q6⟩ := hsp
            exact ⟨_, _, S6.unsuite ok, q6⟩
          | cont =>
            obtain ⟨σ6, H6, S6, q6⟩ := hsp
            exact ⟨_, _, S6.unsuite ok, q6⟩
      | @named x n c i ts b₀ su np pos' hds2 l2 hN hi hln hc hsu r ih =>
        intro w
        obtain ⟨b, hb1, hyes, hno⟩ := w
        refine wpAny_handleBy_cons (codeAny_handlers_test (test hc ((PySem.W.exm_one (M := model X.prog X.w) (J3.kIn) LT hb1).here ?_))) (by intro q; cases q)
        cases b with
        | false => exact ih (hno rfl)
        | true =>
          refine codeAny_handlers_suite_as (HandSPX.lands_againZ fl3 fun h4 fl4 up4 => ?_)
          have J4 : Inv X pins σ' H' { s' with heap := h4 } := J.landed nb fl4.1 ((up.trans up3).trans up4) os ag
          obtain ⟨oe4, vs4, he4, hz4, hd4⟩ := fl4.there
          refine store_ok (X := X.suite a ((a, oe4) :: (X.pn ++ pins))) (v := .ref a) (J4.suite he4 hd4 na nL nF) hN hi (.inl hln) rfl (fun s5 S5 => ?_) (.inr hln)
          refine wpAny_mono ((hsu a oe4 cls d (X.pn ++ pins) hz4 ⟨_, hd4⟩).run [] s5 _ H' _ S5 (hyes rfl a na)) (fun f s6 hsp => ?_) (fun _ _ z => False.elim z)
          have end_ : ∀ {σ6 : L2.St} {H6 : Hp} {Q : Shared → Prop}, Inv (X.suite a ((a, oe4) :: (X.pn ++ pins))) [] σ6 H6 s6 → (∀ s7, Inv X pins (σ6.set i none) H6 s7 → Q s7) →
              wpAny (model X.prog X.w) X.A (do bindName X.env n .none; unbindBehindTheSuite X.env n pos') (fun _ s7 => Q s7) X.xe s6 := fun {σ6 H6 Q} S6 hq => gone_ok (S6.unsuite ok) hN hi hln hq
          cases f with
          | ret u =>
            obtain ⟨v6, σ6, H6, S6, r6, q6⟩ := hsp
            exact end_ S6 fun s7 J7 => ⟨_, _, _, J7, r6, q6⟩
          | next =>
            obtain ⟨σ6, H6, S6, q6⟩ := hsp
            exact end_ S6 fun s7 J7 => ⟨_, _, J7, q6⟩
          | brk =>
            obtain ⟨σ6, H6, S6, q6⟩ := hsp
            exact end_ S6 fun s7 J7 => ⟨_, _, J7, q6⟩
          | cont =>
            obtain ⟨σ6, H6, S6, q6⟩ := hsp
            exact end_ S6 fun s7 J7 => ⟨_, _, J7, q6⟩
    exact go hh w
  · cases f with
    | ret u =>
      obtain ⟨v, σ', H', J', r, q⟩ := hsp
      exact ⟨v, σ', H', J'.ofTry ok, r, q⟩
    | next =>
      obtain ⟨σ', H', J', q⟩ := hsp
      exact wpAny_execs_nil ⟨σ', H', J'.ofTry ok, q⟩
    | brk =>
      obtain ⟨σ', H', J', q⟩ := hsp
      exact ⟨σ', H', J'.ofTry ok, q⟩
    | cont =>
      obtain ⟨σ', H', J', q⟩ := hsp
      exact ⟨σ', H', J'.ofTry ok, q⟩
end
end NF

/-! In a suite: isinstance of the caught exception (it has a dict), its fields. -/
namespace PySem.W
open PySem PySem.Spec PySem.Calls PyProof.Rows
section
variable {prog : Program} {w : World} {A : Around} {E : Value → Shared → Prop} {s : Shared} {K : Frag} {x D : Addr} {ox : Obj} {od : Option Obj}
theorem nf_class {Q : Option Value → Shared → Prop} (C : L2.ExcC K D) (X : K.In s.heap) (I : InstAt s.heap x ox D od) (h : Q (some (.ref D)) { s with toks := s.toks + 1 }) : wpAny (model prog w) A (getAttr? (.ref x) "__class__") Q E s := by
  have hf : findObj K D od "__class__" = some (.bind (.builtin "getset_descriptor.__get__") (.builtin "object.__class__")) := findObj_dataE (by obtain ⟨cd, hc, _⟩ := any_some C.hd; rw [hc]; rfl) C.ha C.hn C.ht
  obtain ⟨hp, g, d, t, os⟩ := s
  have L0 := I.type (M := model prog w)
  have L1 := looks_findIn (M := model prog w) X C.hg
  have L2 := looks_findIn (M := model prog w) X C.hk
  have L3 := looks_find (M := model prog w) X I hf
  have sub : Looks (model prog w) hp (isInstance (.ref x) (.type "BaseException")) true := L0.andThen (looks_subIn X C.hs)
  have e2 : (Value.builtin "BaseException.__getattribute__" == Value.builtin "object.__getattribute__") = false := by decide +kernel
  have e1 : (onTheHeap (Value.ref D) && Value.builtin "BaseException.__getattribute__" == Value.builtin "object.__getattribute__") = false := by rw [e2]; rfl
  unfold getAttr? getAttrBy? getAttrBy
  refine wpAny_bind (wpAny_mkText (wpAny_bind (wpAny_attempt (wpAny_holding (wpAny_bind (L0.at (wpAny_bind (L1.at ?_))))))))
  show wpAny _ _ (if (onTheHeap (Value.ref D) && Value.builtin "BaseException.__getattribute__" == Value.builtin "object.__getattribute__") = true then _ else _) _ _ _
  rw [e1, if_neg Bool.false_ne_true]
  unfold getAttrByItsOwn hookBefore
  refine wpAny_bind ?_
  rw [if_pos (show onTheHeap (Value.ref D) = true from rfl)]
  refine L2.at (wpAny_bind (wpAny_attempt (wpAny_holding ?_)))
  unfold callGetattribute
  rw [show (false && onTheHeap (Value.builtin "BaseException.__getattribute__")) = false from rfl, if_neg Bool.false_ne_true]
  unfold boundAndCalled
  rw [PySem.F.excAttr_ValueError.ga.bind (.ref x)]
  refine wpAny_bind (wpAny_pure ?_)
  show wpAny _ _ (call (.builtin "BaseException.__getattribute__") [.ref x, .str "__class__" t]) _ _ _
  refine wpAny_call (codeAny_call_builtin PySem.F.excAttr_ValueError.ga.plain PySem.F.entry_bexc_ga ?_)
  refine @check_slot (model prog w) _ _ ⟨hp, g, d, t + 1, os⟩ "BaseException.__getattribute__" "BaseException" "__getattribute__" (.ref x) [.str "__class__" t] [] _ (by decide +kernel) (by decide +kernel) sub (PySem.F.args_bexc_ga (.ref x) (.str "__class__" t)) ?_
  unfold Builtin.«object.__getattribute__»
  refine wpAny_bind (wpAny_of_eq (a := ((Value.ref x : Value), [Value.str "__class__" t])) (by first | rfl | (simp only [slotArgs]; rfl)) ?_)
  refine wpAny_bind (wpAny_pure (wpAny_bind (L0.at (wpAny_bind (L3.at ?_)))))
  show wpAny _ _ (holding [Value.builtin "object.__class__"] (call (.builtin "getset_descriptor.__get__") [.builtin "object.__class__", .ref x, .ref D]) >>= ret) _ _ _
  refine wpAny_bind (wpAny_holding (wpAny_call (class_get (s := ⟨hp, g, d, t + 1, os⟩) (ox := ox) (od := od) X I C.hm (wpAny_pure ?_))))
  show wpAny _ _ (handedOut (.ref D)) _ _ _
  rw [handedOut_of (v := .ref D) rfl]
  first
    | exact wpAny_pure (wpAny_pure h)
    | exact wpAny_pure h
    | exact wpAny_pure (wpAny_bind (wpAny_pure (wpAny_pure h)))
theorem nf_kitx (C : L2.ExcC K D) : KitX K (.ref x) (.ref D) (fun h => ∃ od, InstAt h x ox D od) where
  ty := fun _ _ _ ⟨_, I⟩ => I.type
  it := fun _ _ X _ => by
    obtain ⟨cdD, hcD, _⟩ := any_some C.hd
    unfold clsIn at hcD
    split at hcD
    · rename_i c' d' cd' sl' ho
      intro A' Q' E' s' k q
      unfold isType loadHead
      exact wpAny_bind (wpAny_loadPart (k _ _ (X _ _ ho)) (wpAny_pure q))
    · cases hcD
  ne := fun h tp dd its n sl X htp => by
    obtain ⟨cdD, hcD, _⟩ := any_some C.hd
    refine Bool.eq_false_iff.mpr fun q => ?_
    obtain rfl : D = tp := Value.ref.inj (beq_iff_eq.mp q)
    unfold clsIn at hcD
    split at hcD
    · rename_i c' d' cd' sl' ho
      cases (X _ _ ho).symm.trans htp
    · cases hcD
  ca := fun X ⟨_, I⟩ k => nf_class C X I k
end
end PySem.W
namespace NF
open PySem PySem.Spec PyProof.Rows L2

/-- what an object of the suite is -/
theorem inst_of {X : Cx} {a D dd : Addr} {oe : Obj} {pn pins : List (Addr × Obj)} {σ : L2.St} {H : Hp} {s : Shared} {fs : List (Str × V)} (I : Inv (X.suite a ((a, oe) :: pn)) pins σ H s) (hz : L2N.Zn (.ref D) (some dd) oe) (hf : ∃ vs, oe.data = .fields vs) (ea : H dd = some (.xd fs)) :
    ∃ od, PySem.W.InstAt s.heap a oe D (some od) ∧ ∀ n, (v : V) → fs.lookup n = some v → ∃ u, PySem.W.lookIn n od = some (some u) ∧ RelV v u := by
  obtain ⟨ha, _⟩ := I.pin (a, oe) (List.mem_append_left _ List.mem_cons_self)
  obtain ⟨vs, hd⟩ := hf
  have hx : ObjOk X.prog X.w H s.heap dd (.xd fs) := I.hok dd _ ea
  obtain ⟨mA, hns, hr⟩ := hx
  obtain ⟨od, ho, hl⟩ := lookIn_ns hns
  refine ⟨od, ⟨ha, hz.1, by unfold PySem.W.notCls; rw [hd] <;> rfl, by rw [hz.2.1]; exact ho⟩, fun n v l => ?_⟩
  obtain ⟨u, hu, ru⟩ := RelO.some_of (v := v) (o := mA n) (by rw [← l]; exact hr n)
  exact ⟨u, by rw [hl, hu], ru⟩

/-- e.f of the caught exception -/
def tXfN (K : PySem.W.Frag) (a : Addr) (cls : Value) (d : Option Addr) (f : Str) (te : TE) : TE := fun σ H Q => te σ H fun x H1 => x = .ref a ∧ ∃ (D dd : Addr) (fs : List (Str × V)) (v : V), cls = .ref D ∧ ExcC K D ∧ PySem.W.findIn K (.ref D) f = some none ∧ d = some dd ∧ H1 dd = some (.xd fs) ∧ fs.lookup f = some v ∧ Q v H1
theorem pe_xfN {X : Cx} {a : Addr} {oe : Obj} {cls : Value} {d : Option Addr} {pn : List (Addr × Obj)} {e : Expr} {te : TE} {pos : Pos} {n : Str}
    (hz : L2N.Zn cls d oe) (hf : ∃ vs, oe.data = .fields vs) (he : PE (X.suite a ((a, oe) :: pn)) e te) (hb : attributeBase e n X.env (eval e X.env) = eval e X.env := by rfl) :
    PE (X.suite a ((a, oe) :: pn)) (.Attribute e n pos) (tXfN X.K a cls d n te) := by
  refine ⟨fun pins s σ H Q I h => ?_⟩
  refine attr_of hb (thn (he.run pins s σ H _ I h) fun u s1 hh => ?_)
  obtain ⟨x, H1, I1, rx, ex, D, dd, fs, v, ec, T, hno, ed, ea, l, q⟩ := hh
  subst ex
  obtain rfl : u = Value.ref a := rx
  subst ec
  subst ed
  obtain ⟨od, J, hl⟩ := inst_of I1 hz hf ea
  obtain ⟨u, hu, ru⟩ := hl n v l
  exact HandSPX.exc_get I1.kIn J T.hg T.hk T.hs (PySem.W.findObj_own T.hd hno rfl hu) (handed_of ru) ⟨v, H1, I1.tok _, ru, q⟩

/-- isinstance of it -/
def rIsX (K : PySem.W.Frag) (a : Addr) (cls : Value) (d : Option Addr) : List V → Hp → VK → Prop := fun xs H Q => ∃ (D dd : Addr) (fs : List (Str × V)) (b : Bool), cls = .ref D ∧ ExcC K D ∧ d = some dd ∧ H dd = some (.xd fs) ∧
  ((∃ (c : V) (cv : Value), xs = [.ref a, c] ∧ (∀ u, RelV c u → u = cv) ∧ PySem.W.kitOne K (.ref D) cv = some b) ∨
    (∃ (tp : Addr) (cs : List V) (cvs : List Value), xs = [.ref a, .ref tp] ∧ H tp = some (.tup cs) ∧ (∀ us, Vals cs us → us = cvs) ∧ PySem.W.kitAny K (.ref D) cvs = some b)) ∧ Q (.bl b) H
theorem call_isX {X : Cx} {a : Addr} {oe : Obj} {cls : Value} {d : Option Addr} {pn : List (Addr × Obj)} (hz : L2N.Zn cls d oe) (hf : ∃ vs, oe.data = .fields vs) : CallR (X.suite a ((a, oe) :: pn)) (.builtin "isinstance") (rIsX X.K a cls d) := by
  intro pins s σ H xs us Q I r h
  obtain ⟨D, dd, fs, b, ec, T, ed, ea, h, q⟩ := h
  subst ec
  subst ed
  obtain ⟨od, J, _⟩ := inst_of I hz hf ea
  rcases h with ⟨c, cv, rfl, hcv, e⟩ | ⟨tp, cs, cvs, rfl, et, hcv, e⟩
  · cases r with
    | cons rx rr =>
      cases rr with
      | cons rt rr =>
        cases rr
        cases rx
        have ec := hcv _ rt
        subst ec
        exact PySem.W.kia_one (PySem.W.nf_kitx (ox := oe) T) I.kIn ⟨_, J⟩ e (fun z => nomatch z) fun tk => ⟨.bl b, H, I.kept (t' := tk) fun _ _ z => z, rfl, q⟩
  · cases r with
    | cons rx rr =>
      cases rr with
      | cons rt rr =>
        cases rr
        cases rx
        cases rt
        obtain ⟨its, vi, ti, _⟩ := I.tuple (.inl (.inl et))
        obtain rfl := hcv _ vi
        obtain ⟨⟨oc, odd, oda, osl⟩, hg, h1, n, h2⟩ := ti
        dsimp only at h1 h2
        subst h1 h2
        exact PySem.W.kia_tup (PySem.W.nf_kitx (ox := oe) T) I.kIn ⟨_, J⟩ hg e (fun z => nomatch z) fun tk => ⟨.bl b, H, I.kept (t' := tk) fun _ _ z => z, rfl, q⟩
end NF

/-! What the head hands over of exception classes. -/
namespace NF
open PySem PySem.Spec PyProof.Rows PySem.W PySem.Calls L2

/-- what is asked of a raised class at C at once -/
def oexB (K : Frag) (C : Addr) : Bool := match K.lookup C with
  | some ⟨.type "type", _, .cls cd, sl⟩ => (match cd.mro, sl.toList with
    | .ref C' :: bm, [_, _, _, _, some (.builtin n), _] => C' == C && (n == "ValueError.__new__" && (!cd.hasDel && (cd.hasDict && PySem.HandSPX.refsVE bm)))
    | _, _ => false)
  | _ => false
theorem oexB_ok {K : Frag} {C : Addr} (q : oexB K C = true) : ∃ nm q N bs bm sn sub ab col dd k0 k1 k2 k3 k5, K.lookup C = some (excClassObj nm q C N bs bm true sn sub ab col dd k0 k1 k2 k3 k5 "ValueError.__new__") ∧ PySem.HandSPX.refsVE bm = true := by
  unfold oexB at q
  split at q
  · rename_i dd cd sl ho
    split at q
    · rename_i C' bm k0 k1 k2 k3 n k5 hm hs
      simp only [Bool.and_eq_true, beq_iff_eq, Bool.not_eq_true'] at q
      obtain ⟨rfl, rfl, hdel, hdd, ht⟩ := q
      obtain ⟨nm, bs, mro, ns, qn, hd, sn, sub, ab, col, del⟩ := cd
      dsimp only at hm hdel hdd
      subst hm hdel hdd
      have hsl : sl = #[k0, k1, k2, k3, some (.builtin "ValueError.__new__"), k5] := by
        obtain ⟨l⟩ := sl
        simp only at hs
        rw [hs]
      subst hsl
      exact ⟨nm, qn, ns, bs, bm, sn, sub, ab, col, dd, k0, k1, k2, k3, k5, ho, ht⟩
    · cases q
  · cases q
def xrB (K : Frag) (C D f : Addr) (fld : Str) : Bool :=
  oexB K C && (decide (findIn K (.ref C) "__setattr__" = some (some (.builtin "object.__setattr__"))) && (decide (subIn K (.ref C) (.type "BaseException") = some true) && (decide (typeIn K (.ref C) = some (.type "type")) && (keepIn K (.ref C) &&
  (excInitIn K C PySem.HandSPX.veTail "ValueError.__new__" && (decide (subIn K (.ref C) (.type "ValueError") = some true) && (decide (nsIn K cStatics "thirdparty.any" = some none) &&
  (decide (findIn K (.ref C) "__getattribute__" = some (some (.builtin "BaseException.__getattribute__"))) && (decide (findIn K (.ref C) "__getattr__" = some none) && (hasDictIn K C && (decide (findIn K (.ref C) "__class__" = some (some (.builtin "object.__class__"))) &&
  (decide (specialIn K (.builtin "object.__class__") "__get__" = some (some (.builtin "getset_descriptor.__get__"))) && (decide (takesIn K (.builtin "object.__class__") = some true) && (decide (mroIn K C (.type "object") = some true) &&
  (decide (findIn K (.ref C) fld = some none) && (decide (typeIn K (.ref f) = some (.type "function")) && ((clsIn K D).isSome && (decide (mroIn K C (.ref D) = some true) && decide (ks_superIn K C D "__init__" = some (some (.builtin "ValueError.__init__")))))))))))))))))))))
structure XRaw (P : Program) (K : Frag) (C : Addr) (fld : Str) : Prop where
  oex : OexC K C
  ini : excInitIn K C PySem.HandSPX.veTail "ValueError.__new__" = true
  sub : subIn K (.ref C) (.type "ValueError") = some true
  opq : nsIn K cStatics "thirdparty.any" = some none
  htop : (P.main.scope.names.lookup ("super" : Str)).isSome = false
  exc : ExcC K C
  nof : findIn K (.ref C) fld = some none
  fn : ∃ fI fd, findIn K (.ref C) "__init__" = some (some (.ref fI)) ∧ typeIn K (.ref fI) = some (.type "function") ∧ Binds K fd ["self", fld] [] ∧
    ∀ (mg : Str → Option Value), mg "super" = none → ∀ (w : World) (base : Heap) (CX : CXT), FnOk P w K mg base CX 1 fI fd ["self", fld] (spX K C fld)

theorem xraw_mk {P : Program} {K : Frag} {C D f cc cda : Addr} {name qual fld txt : Str} {j : Nat} {params : Arguments} {scope : Scope} {dV kV doc pm ct oc ccl cl : Value} {an od cdd cld : Option Addr}
    {osl ccs csl : Array (Option Value)} {vs : Array Value} {file : Str} {tf : Tok} {ar : Arg} {p0 p1 p2 p3 p4 p5 q0 q1 q2 q3 : Pos} {pl : Env → Sem Bool}
    (iC : findIn K (.ref C) "__init__" = some (some (.ref f)))
    (lk : K.lookup f = some ⟨oc, od, .func (ksFn name qual params [.Expr (.Call (.Attribute (.Call (.Name "super" p0) [] [] p1) "__init__" p2) [.Constant (.str txt) j p3] [] p4) p5, .Assign [.Attribute (.Name "self" q0) fld q1] (.Name fld q2) q3] scope dV kV doc pm an (.ref cda) ct cc), osl⟩)
    (hcode : K.lookup cda = some ⟨ccl, cdd, .fields vs, ccs⟩) (hcell : K.lookup cc = some ⟨cl, cld, .cell (some (.ref D)), csl⟩) (hx : xrB K C D f fld = true)
    (hcd : codeIn K (.ref cda) qual = true) (hvs : vs[2]? = some (.str file tf)) (hfile : ((P.main.file : Str) == file) = true) (htop : (P.main.scope.names.lookup ("super" : Str)).isSome = false)
    (hp : (params.posonlyargs ++ params.args).head? = some ar) (har : ar.arg = "self")
    (hns : ("self" : Str) ≠ fld) (hdb : (fld == ("__debug__" : Str)) = false)
    (s1 : scope.names.lookup ("self" : Str) = some .local) (s2 : scope.names.lookup fld = some .local) (s3 : scope.names.lookup ("super" : Str) = some .globalImplicit) (s4 : scope.names.lookup ("__class__" : Str) = some .free)
    (hnc : ∀ x ∈ scope.names, x.2 ≠ .cell) (hco : scope.isCoroutine = false) (hgen : scope.isGenerator = false) (hk : scope.kind = .function)
    (hb : ∀ us : List Value, us.length = 2 → bindArgs (ksFn name qual params [.Expr (.Call (.Attribute (.Call (.Name "super" p0) [] [] p1) "__init__" p2) [.Constant (.str txt) j p3] [] p4) p5, .Assign [.Attribute (.Name "self" q0) fld q1] (.Name fld q2) q3] scope dV kV doc pm an (.ref cda) ct cc) ⟨us, []⟩ = pure (([("self" : Str), fld] : List Str).zip us))
    (hme : ∀ env : Env, eval (.Call (.Attribute (.Call (.Name "super" p0) [] [] p1) "__init__" p2) [.Constant (.str txt) j p3] [] p4) env = (do
      let ov ← attributeBase (.Call (.Name "super" p0) [] [] p1) "__init__" env (eval (.Call (.Name "super" p0) [] [] p1) env)
      standAt p2.atName
      let (f, first) ← holding [ov] (getMethod ov "__init__" (pl env))
      callWith p4 f first (backTo p4 (starEach [.Constant (.str txt) j p3] env)) [])) : XRaw P K C fld := by
  unfold xrB at hx
  simp only [Bool.and_eq_true, decide_eq_true_eq] at hx
  obtain ⟨x1, x2, x3, x4, x5, x6, x7, x8, x9, x10, x11, x12, x13, x14, x15, x16, x17, x18, x19, x20⟩ := hx
  obtain ⟨cdD, hD⟩ := Option.isSome_iff_exists.mp x18
  have O : OexC K C := ⟨oexB_ok x1, x2, x3, x4, x5⟩
  refine ⟨O, x6, x7, x8, htop, ⟨x9, x10, x3, x11, x12, x13, x14, x15⟩, x16, f, _, iC, x17, .all hb, fun mg hs w base CX => ?_⟩
  exact fn_sup (⟨O, x6, x7, x8, hs, htop⟩ : XCls P K mg C) lk hcd hcode hvs hfile hcell hD hp har x19 x20 x16 hns hdb s1 s2 s3 s4 hnc hco hgen hk pl hme

theorem XRaw.fact {P : Program} {K : Frag} {C : Addr} {x fld : Str} {h : Heap} {mg : Str → Option Value} (R : XRaw P K C fld) (X : K.In h) (G : h.Ns mainGlobals mg) (n : nsIn K mainGlobals x = some (some (.ref C))) (hs : mg "super" = none) : XFact P K mg x fld := by
  have hm := mg_of X G n
  have e := cad_eq hm
  obtain ⟨fI, fd, a1, a2, a3, a4⟩ := R.fn
  refine ⟨⟨by rw [e]; exact hm, by rw [e]; exact R.oex.exC, by rw [e]; exact R.exc.hd, by rw [e]; exact R.oex.tyC⟩, by rw [e]; exact ⟨R.oex, R.ini, R.sub, R.opq, hs, R.htop⟩, by rw [e]; exact R.exc, by rw [e]; exact R.nof, fI, fd, by rw [e]; exact a1, a2, a3, ?_⟩
  rw [e]
  exact a4 mg hs

/-- how two classes stand: is the one's instance the other's -/
structure XPair (K : Frag) (A B : Value) (b : Bool) : Prop where
  kit : kitOne K A B = some b
  exm : exmOne K A B = some b
def xpB (K : Frag) (A B : Value) (b : Bool) : Bool := decide (kitOne K A B = some b) && decide (exmOne K A B = some b)
theorem xpair_mk {K : Frag} {A B : Value} {b : Bool} (h : xpB K A B b = true) : XPair K A B b := by
  obtain ⟨h1, h2⟩ := Bool.and_eq_true_iff.mp h
  exact ⟨of_decide_eq_true h1, of_decide_eq_true h2⟩
theorem kitAny_nil {K : Frag} {t : Value} : kitAny K t [] = some false := rfl
theorem kitAny_f {K : Frag} {t c : Value} {r : List Value} {b : Bool} (h : kitOne K t c = some false) (q : kitAny K t r = some b) : kitAny K t (c :: r) = some b := by
  unfold kitAny
  rw [h]
  exact q
theorem kitAny_t {K : Frag} {t c : Value} {r : List Value} (h : kitOne K t c = some true) : kitAny K t (c :: r) = some true := by
  unfold kitAny
  rw [h]
end NF

/-! Own toolkit: partners of letters in a nested text. -/
namespace NF
open PySem L2 TL

section
variable {B H : Hp} {σ : L2.St} {Q : VK} {QX : XK}
theorem x_callX {sp : Sp} {dvs : List V} {W : WX} {t : TA} (q : t σ H fun vs H1 => sp (vs ++ dvs) H1 Q (fun cls d H2 => W cls d σ H2)) : tCallX sp dvs W t σ H Q := q
theorem x_mkX {C : Addr} {fld : Str} {te : TE} (h : te σ H fun v H1 => ∀ d, H1 d = none → QX (.ref C) (some d) (upd H1 d (.xd [(fld, v)]))) : tMkX C fld te σ H QX := h
theorem x_chain {r r' : R2} {ta tb tc : TE} (q : ta σ H fun x H1 => tb σ H1 fun y H2 => r x y H2 fun z H3 => ∃ k, z = .bl k ∧ (if k = true then tc σ H3 fun w' H4 => r' y w' H4 Q else Q (.bl false) H3)) : tChain r r' ta tb tc σ H Q := q
end
abbrev low (c : Nat) : Prop := 97 ≤ c ∧ c ≤ 104
/-! ### repr, and the caught exception -/
def rRepr : List V → Hp → VK → Prop := fun xs H Q => ∃ i, xs = [.int i] ∧ i.natAbs.log2 < 1920 ∧ Q (.str (toString i)) H
theorem callRepr {X : Cx} : CallR X (.builtin "repr") rRepr := SkE.call_repr_int
section
variable {P : Program} {K : PySem.W.Frag} {mg : Str → Option Value} {H : Hp} {σ : L2.St} {Q : VK} {a dd : Addr} {A fld : Str} {b : Bool}
theorem x_repr {i : Int} (h : i.natAbs.log2 < 1920) (q : Q (.str (toString i)) H) : rRepr [.int i] H Q := ⟨i, rfl, h, q⟩
theorem x_xfV {i : Nat} {v : V} (T : XFact P K mg A fld) (hσ : σ[i]? = some (some (.ref a))) (ed : H dd = some (.xd [(fld, v)])) (q : Q v H) : tXfN K a (.ref (cad mg A)) (some dd) fld (tVar i) σ H Q :=
  ⟨_, hσ, rfl, _, dd, _, v, rfl, T.exc, T.nof, rfl, ed, by simp [List.lookup], q⟩
theorem x_isXC {B : Str} {fs : List (Str × V)} (T : XFact P K mg A fld) (p : XPair K (.ref (cad mg A)) (.ref (cad mg B)) b) (ed : H dd = some (.xd fs)) (q : Q (.bl b) H) : rIsX K a (.ref (cad mg A)) (some dd) [.ref a, .ref (cad mg B)] H Q :=
  ⟨_, dd, fs, b, rfl, T.exc, rfl, ed, .inl ⟨_, _, rfl, fun u h => h, p.kit⟩, q⟩
theorem x_isXB {n : String} {fs : List (Str × V)} (T : XFact P K mg A fld) (p : XPair K (.ref (cad mg A)) (.type n) b) (ed : H dd = some (.xd fs)) (q : Q (.bl b) H) : rIsX K a (.ref (cad mg A)) (some dd) [.ref a, .ty n] H Q :=
  ⟨_, dd, fs, b, rfl, T.exc, rfl, ed, .inl ⟨_, _, rfl, fun u h => h, p.kit⟩, q⟩
theorem vals_refs {cs : List Addr} : ∀ us, Vals (cs.map V.ref) us → us = cs.map Value.ref := by
  induction cs with
  | nil => intro us h; cases h; rfl
  | cons c cs ih =>
    intro us h
    cases h with
    | cons h1 h2 =>
      rw [ih _ h2]
      exact congrArg (· :: cs.map Value.ref) h1
theorem x_isXT {tp : Addr} {fs : List (Str × V)} (cs : List Addr) (T : XFact P K mg A fld) (ht : H tp = some (.tup (cs.map V.ref))) (p : PySem.W.kitAny K (.ref (cad mg A)) (cs.map Value.ref) = some b) (ed : H dd = some (.xd fs)) (q : Q (.bl b) H) : rIsX K a (.ref (cad mg A)) (some dd) [.ref a, .ref tp] H Q :=
  ⟨_, dd, fs, b, rfl, T.exc, rfl, ed, .inr ⟨tp, _, _, rfl, ht, vals_refs, p⟩, q⟩
end
/-- how many letters until the depth d is left -/
def cl : List Nat → Nat → Nat
  | [], _ => 0
  | c :: r, d => if low c then cl r (d + 1) + 1 else match d with
    | 0 => 0
    | d + 1 => cl r d + 1
theorem cl_low {c : Nat} {r : List Nat} {d : Nat} (h : low c) : cl (c :: r) d = cl r (d + 1) + 1 := by rw [cl.eq_def]; exact if_pos h
theorem cl_up0 {c : Nat} {r : List Nat} (h : ¬ low c) : cl (c :: r) 0 = 0 := by rw [cl.eq_def]; exact if_neg h
theorem cl_up {c : Nat} {r : List Nat} {d : Nat} (h : ¬ low c) : cl (c :: r) (d + 1) = cl r d + 1 := by rw [cl.eq_def]; exact if_neg h
theorem cl_mono (r : List Nat) : ∀ d, cl r d ≤ cl r (d + 1) := by
  induction r with
  | nil => intro d; exact Nat.le_refl _
  | cons c r ih =>
    intro d
    by_cases h : low c
    · rw [cl_low h, cl_low h]
      exact Nat.succ_le_succ (ih _)
    · cases d with
      | zero => rw [cl_up0 h]; exact Nat.zero_le _
      | succ d => rw [cl_up h, cl_up h]; exact Nat.succ_le_succ (ih _)
theorem cl_mono0 (r : List Nat) (d : Nat) : cl r 0 ≤ cl r d := by
  induction d with
  | zero => exact Nat.le_refl _
  | succ d ih => exact Nat.le_trans ih (cl_mono r d)
/-- the partner of the letter at a -/
def pt (l : List Nat) (a : Nat) : Nat := a + 1 + cl (l.drop (a + 1)) 0

/-- the open places, the last one first, behind i letters -/
structure Stk (l : List Nat) (i : Nat) (ps : List Nat) : Prop where
  st : run (l.take i) [] = some (ps.map fun a => l.getD a 0)
  dep : ∀ j a, ps[j]? = some a → a < i ∧ pt l a = i + cl (l.drop i) j ∧ low (l.getD a 0) ∧ a < l.length
  all : ∀ a c, a < i → l[a]? = some c → low c → a ∈ ps ∨ pt l a < i
  srt : ps.Pairwise (· > ·)
theorem Stk.zero (l : List Nat) : Stk l 0 [] := ⟨rfl, fun j a h => by simp at h, fun a c h => absurd h (Nat.not_lt_zero _), .nil⟩
section
variable {l ps : List Nat} {i c : Nat}
theorem drop_at (hc : l[i]? = some c) : l.drop i = c :: l.drop (i + 1) := by
  obtain ⟨h, e⟩ := List.getElem?_eq_some_iff.mp hc
  rw [List.drop_eq_getElem_cons h, e]
theorem getD_at (hc : l[i]? = some c) : l.getD i 0 = c := by simp [List.getD, hc]
theorem Stk.lt (S : Stk l i ps) {a : Nat} (h : a ∈ ps) : a < i := by
  obtain ⟨j, hj⟩ := List.getElem?_of_mem h
  exact (S.dep j a hj).1
theorem Stk.push (S : Stk l i ps) (hc : l[i]? = some c) (h : low c) : Stk l (i + 1) (i :: ps) := by
  have hl := (List.getElem?_eq_some_iff.mp hc).1
  refine ⟨?_, fun j a hj => ?_, fun a d ha hd hlo => ?_, ?_⟩
  · rw [List.map_cons, getD_at hc]
    exact run_lo1 S.st hc h
  · cases j with
    | zero =>
      have e : i = a := by simpa using hj
      subst e
      exact ⟨Nat.lt_succ_self _, rfl, by rw [getD_at hc]; exact h, hl⟩
    | succ j =>
      have hj' : ps[j]? = some a := by simpa using hj
      obtain ⟨h1, h2, h3, h4⟩ := S.dep j a hj'
      refine ⟨by omega, ?_, h3, h4⟩
      rw [h2, drop_at hc, cl_low h]
      omega
  · by_cases e : a = i
    · exact .inl (by rw [e]; exact List.mem_cons_self)
    · rcases S.all a d (by omega) hd hlo with q | q
      · exact .inl (List.mem_cons_of_mem _ q)
      · exact .inr (by omega)
  · exact List.pairwise_cons.mpr ⟨fun a ha => S.lt ha, S.srt⟩
theorem Stk.pop (S : Stk l i ps) (hr : run l [] = some []) (hc : l[i]? = some c) (h : ¬ low c) : ∃ a ps', ps = a :: ps' ∧ Stk l (i + 1) ps' ∧ pt l a = i ∧ a < i ∧ c + 32 = l.getD a 0 := by
  have e1 : run l [] = (run (l.take i) []).bind (run (l.drop i)) := by
    rw [← run_append, List.take_append_drop]
  rw [S.st, drop_at hc, hr] at e1
  cases ps with
  | nil =>
    have e2 : some [] = run (c :: l.drop (i + 1)) [] := e1
    rw [run_cons, if_neg h] at e2
    cases e2
  | cons a ps' =>
    have e2 : some [] = run (c :: l.drop (i + 1)) (l.getD a 0 :: ps'.map fun a => l.getD a 0) := e1
    rw [run_cons, if_neg h] at e2
    have e3 : c + 32 = l.getD a 0 := by
      by_cases z : c + 32 = l.getD a 0
      · exact z
      · have : (if c + 32 = l.getD a 0 then run (l.drop (i + 1)) (ps'.map fun a => l.getD a 0) else none) = some [] := e2.symm
        rw [if_neg z] at this
        cases this
    have pa := S.dep 0 a rfl
    have ea : pt l a = i := by rw [pa.2.1, drop_at hc, cl_up0 h]; rfl
    refine ⟨a, ps', rfl, ⟨?_, fun j b hj => ?_, fun b d hb hd hlo => ?_, (List.pairwise_cons.mp S.srt).2⟩, ea, pa.1, e3⟩
    · exact run_up1 (st := ps'.map fun a => l.getD a 0) (by rw [e3]; exact S.st) hc h
    · obtain ⟨h1, h2, h3, h4⟩ := S.dep (j + 1) b (by simpa using hj)
      refine ⟨by omega, ?_, h3, h4⟩
      rw [h2, drop_at hc, cl_up h]
      omega
    · by_cases e : b = i
      · subst e
        rw [hc] at hd
        cases hd
        exact absurd hlo h
      · rcases S.all b d (by omega) hd hlo with q | q
        · rcases List.mem_cons.mp q with q | q
          · exact .inr (by rw [q, ea]; omega)
          · exact .inl q
        · exact .inr (by omega)
theorem Stk.done (S : Stk l i ps) (hr : run l [] = some []) (hi : l.length ≤ i) : ps = [] := by
  have e := S.st
  rw [List.take_of_length_le hi, hr] at e
  have e2 := Option.some.inj e
  exact List.map_eq_nil_iff.mp e2.symm
theorem Stk.len (S : Stk l i ps) : ps.length ≤ i := by
  have h := run_len S.st
  rw [List.length_map, List.length_take, List.length_nil] at h
  omega
theorem Stk.nodup (S : Stk l i ps) : ps.Nodup := S.srt.imp fun h => Nat.ne_of_gt h
end
theorem nst_of_flt {l : List Nat} (h : flt l 0 [] = none) : run l [] = some [] := by
  rcases flt_spec l 0 [] with ⟨st, e⟩ | ⟨_, j, e, _⟩
  · rw [flt_of_run e] at h
    by_cases z : st = []
    · rw [e, z]
    · rw [if_neg z] at h
      cases h
  · rw [h] at e
    cases e
theorem flt_of_nst {l : List Nat} (h : run l [] = some []) : flt l 0 [] = none := by rw [flt_of_run h, if_pos rfl]
end NF

/-! What the head hands over: a def with defaults, names of classes. -/
namespace NF
open PySem L2
structure HasD (K : PySem.W.Frag) (x : Str) (st : Stmt) (dvs : List V) : Prop where
  ex : ∃ (f T : Addr) (oc kV dc pm cd ct : Value) (od an : Option Addr) (sl : Array (Option Value)) (oT : Obj) (its : List Value) (n : Nat), PySem.W.nsIn K mainGlobals x = some (some (.ref f)) ∧
    K.lookup f = some ⟨oc, od, .func (PySem.W.fnOf x x (defArgs st) (defBody st) (defScope st) (.ref T) kV dc pm an cd ct), sl⟩ ∧ PySem.W.codeIn K cd x = true ∧ PySem.W.keepIn K (.ref f) = true ∧ K.lookup T = some oT ∧ oT.data = .seq its.toArray n ∧ Vals dvs its
section
variable {K : PySem.W.Frag} {x : Str} {st : Stmt} {dvs : List V} {h : Heap} {mg : Str → Option Value}
theorem hasD_mk {f T : Addr} {oc kV dc pm cd ct oc2 : Value} {od an od2 : Option Addr} {sl sl2 : Array (Option Value)} {a : Array Value} {n : Nat} (h1 : PySem.W.nsIn K mainGlobals x = some (some (.ref f)))
    (h2 : K.lookup f = some ⟨oc, od, .func (PySem.W.fnOf x x (defArgs st) (defBody st) (defScope st) (.ref T) kV dc pm an cd ct), sl⟩) (h3 : PySem.W.codeIn K cd x = true) (h4 : PySem.W.keepIn K (.ref f) = true)
    (h5 : K.lookup T = some ⟨oc2, od2, .seq a n, sl2⟩) (h6 : Vals dvs a.toList) : HasD K x st dvs :=
  ⟨f, T, oc, kV, dc, pm, cd, ct, od, an, sl, _, a.toList, n, h1, h2, h3, h4, h5, rfl, h6⟩
theorem HasD.fn (A : HasD K x st dvs) (X : K.In h) (G : h.Ns mainGlobals mg) (hd : dvs ≠ []) : FnD K mg x st dvs := by
  obtain ⟨f, T, oc, kV, dc, pm, cd, ct, od, an, sl, oT, its, n, h1, h2, h3, h4, h5, h6, h7⟩ := A.ex
  exact ⟨f, _, ⟨⟨oc, od, .ref T, kV, dc, pm, an, cd, ct, sl, rfl, h2, h3, .inr ⟨hd, T, oT, its, n, rfl, h5, h6, h7⟩, .inl rfl⟩, h4⟩, PySem.W.mg_of X G h1⟩
theorem cls_mk {c : Addr} (X : K.In h) (G : h.Ns mainGlobals mg) (n : PySem.W.nsIn K mainGlobals x = some (some (.ref c))) : mg x = some (.ref (cad mg x)) := by
  have e := PySem.W.mg_of X G n
  rw [cad_eq e]
  exact e
theorem pair_mk {A B : Str} {a c : Addr} {b : Bool} (X : K.In h) (G : h.Ns mainGlobals mg) (nA : PySem.W.nsIn K mainGlobals A = some (some (.ref a))) (nB : PySem.W.nsIn K mainGlobals B = some (some (.ref c))) (p : XPair K (.ref a) (.ref c) b) : XPair K (.ref (cad mg A)) (.ref (cad mg B)) b := by
  rw [cad_eq (PySem.W.mg_of X G nA), cad_eq (PySem.W.mg_of X G nB)]
  exact p
theorem pairT_mk {A : Str} {a : Addr} {n : String} {b : Bool} (X : K.In h) (G : h.Ns mainGlobals mg) (nA : PySem.W.nsIn K mainGlobals A = some (some (.ref a))) (p : XPair K (.ref a) (.type n) b) : XPair K (.ref (cad mg A)) (.type n) b := by
  rw [cad_eq (PySem.W.mg_of X G nA)]
  exact p
end
end NF

namespace NF
open PySem L2 TL
def top (i : Nat) : Stmt := PySem.Challenge.pw_nestform_k01_nodes_of_texts.main.body.getD i (.Pass ⟨0, 0, 0, 0⟩)
abbrev s_fault : Stmt := top 11
abbrev s_checked : Stmt := top 12
abbrev s_partners : Stmt := top 13
abbrev s_starts_node : Stmt := top 15
abbrev s_node_rows : Stmt := top 16
abbrev s_nodes : Stmt := top 17
abbrev s_children : Stmt := top 18
abbrev s_inside_of : Stmt := top 19
abbrev s_path_of : Stmt := top 20
abbrev s_size : Stmt := top 21
abbrev s_law_box : Stmt := top 23
abbrev s_law_draw : Stmt := top 24
abbrev s_law_char : Stmt := top 25
abbrev s_law_nested : Stmt := top 26
abbrev s_law_fault : Stmt := top 27
abbrev s_law_bent_text : Stmt := top 28
abbrev s_law_long : Stmt := top 29
abbrev s_law_beyond : Stmt := top 30
abbrev s_law_wrong_text : Stmt := top 31
abbrev s_law_text_error : Stmt := top 32
abbrev s_law_is : Stmt := top 33
abbrev s_law_error : Stmt := top 34
abbrev s_law_refused : Stmt := top 35
abbrev s_law_rows : Stmt := top 36
abbrev s_law_row_same : Stmt := top 37
abbrev s_law_rows_same : Stmt := top 38
abbrev s_law_numbers_same : Stmt := top 39
abbrev s_law_start_right : Stmt := top 40
abbrev s_law_index_right : Stmt := top 41
abbrev s_law : Stmt := top 42
structure Txt (P : Program) (K : PySem.W.Frag) (mg : Str → Option Value) : Prop where
  b_ValueError : mg "ValueError" = none
  b_bool : mg "bool" = none
  b_enumerate : mg "enumerate" = none
  b_int : mg "int" = none
  b_isinstance : mg "isinstance" = none
  b_len : mg "len" = none
  b_list : mg "list" = none
  b_max : mg "max" = none
  b_min : mg "min" = none
  b_range : mg "range" = none
  b_repr : mg "repr" = none
  b_str : mg "str" = none
  b_tuple : mg "tuple" = none
  g_NAMES : ∃ u, mg "NAMES" = some u ∧ RelV (.str "abcdefgh") u
  g_TEXT_LIMIT : ∃ u, mg "TEXT_LIMIT" = some u ∧ RelV (.int 2000) u
  g_CLOSINGS : ∃ u, mg "_CLOSINGS" = some u ∧ RelV (.str "ABCDEFGH") u
  n_BadEdit : mg "BadEdit" = some (.ref (cad mg "BadEdit"))
  n_LimitError : mg "LimitError" = some (.ref (cad mg "LimitError"))
  n_NestError : mg "NestError" = some (.ref (cad mg "NestError"))
  n_NoNode : mg "NoNode" = some (.ref (cad mg "NoNode"))
  n_NotNested : mg "NotNested" = some (.ref (cad mg "NotNested"))
  n_TooLong : mg "TooLong" = some (.ref (cad mg "TooLong"))
  x_NoNode : XFact P K mg "NoNode" "index"
  x_NotNested : XFact P K mg "NotNested" "index"
  x_TooLong : XFact P K mg "TooLong" "limit"
  p_NoNode_BadEdit : XPair K (.ref (cad mg "NoNode")) (.ref (cad mg "BadEdit")) false
  p_NoNode_LimitError : XPair K (.ref (cad mg "NoNode")) (.ref (cad mg "LimitError")) false
  p_NoNode_NestError : XPair K (.ref (cad mg "NoNode")) (.ref (cad mg "NestError")) true
  p_NoNode_NoNode : XPair K (.ref (cad mg "NoNode")) (.ref (cad mg "NoNode")) true
  p_NoNode_NotNested : XPair K (.ref (cad mg "NoNode")) (.ref (cad mg "NotNested")) false
  p_NoNode_TooLong : XPair K (.ref (cad mg "NoNode")) (.ref (cad mg "TooLong")) false
  p_NoNode_ValueError : XPair K (.ref (cad mg "NoNode")) (.type "ValueError") true
  p_NotNested_BadEdit : XPair K (.ref (cad mg "NotNested")) (.ref (cad mg "BadEdit")) false
  p_NotNested_LimitError : XPair K (.ref (cad mg "NotNested")) (.ref (cad mg "LimitError")) false
  p_NotNested_NestError : XPair K (.ref (cad mg "NotNested")) (.ref (cad mg "NestError")) true
  p_NotNested_NoNode : XPair K (.ref (cad mg "NotNested")) (.ref (cad mg "NoNode")) false
  p_NotNested_NotNested : XPair K (.ref (cad mg "NotNested")) (.ref (cad mg "NotNested")) true
  p_NotNested_TooLong : XPair K (.ref (cad mg "NotNested")) (.ref (cad mg "TooLong")) false
  p_NotNested_ValueError : XPair K (.ref (cad mg "NotNested")) (.type "ValueError") true
  p_TooLong_BadEdit : XPair K (.ref (cad mg "TooLong")) (.ref (cad mg "BadEdit")) false
  p_TooLong_LimitError : XPair K (.ref (cad mg "TooLong")) (.ref (cad mg "LimitError")) true
  p_TooLong_NestError : XPair K (.ref (cad mg "TooLong")) (.ref (cad mg "NestError")) true
  p_TooLong_NoNode : XPair K (.ref (cad mg "TooLong")) (.ref (cad mg "NoNode")) false
  p_TooLong_NotNested : XPair K (.ref (cad mg "TooLong")) (.ref (cad mg "NotNested")) false
  p_TooLong_TooLong : XPair K (.ref (cad mg "TooLong")) (.ref (cad mg "TooLong")) true
  p_TooLong_ValueError : XPair K (.ref (cad mg "TooLong")) (.type "ValueError") true
/-! the walk's own steps -/
local macro_rules | `(tactic| walk_at "own") => `(tactic| first
  | assumption
  | (refine' NF.Own.get ?O 0 ?h; (case O => assumption); (case h => exact rfl))
  | (refine' NF.Own.get ?O 1 ?h; (case O => assumption); (case h => exact rfl))
  | (refine' NF.Own.get ?O 2 ?h; (case O => assumption); (case h => exact rfl))
  | (refine' NF.Own.get ?O 3 ?h; (case O => assumption); (case h => exact rfl))
  | (refine' NF.Own.get ?O 4 ?h; (case O => assumption); (case h => exact rfl))
  | (refine' NF.Own.get ?O 5 ?h; (case O => assumption); (case h => exact rfl)))
local macro_rules | `(tactic| walk_at "atn") => `(tactic| first | assumption | exact rfl | (exact L2.atI_nat (by assumption)))
local macro_rules | `(tactic| walk_at "len") => `(tactic| first
  | assumption
  | (simp only [List.length_cons, List.length_nil, List.length_append, List.length_map, NF.len_app, NF.len_mk, NF.len_ch, sizeLine_eq]; done)
  | (simp only [List.length_cons, List.length_nil, List.length_append, List.length_map, List.length_reverse, NF.len_app, NF.len_mk, NF.len_ch, sizeLine_eq]; omega)
  | (rw [sizeLine_eq]; omega)
  | decide
  | omega)
local macro_rules | `(tactic| walk_at "mul") => `(tactic| first | exact Or.inr ⟨by decide, by decide⟩ | exact Or.inl ⟨by decide, by decide⟩ | exact Or.inl ⟨by omega, by omega⟩ | exact Or.inr ⟨by omega, by omega⟩)
set_option hygiene false in
local macro_rules | `(tactic| walk_at "nO") => `(tactic| try dsimp only [List.set, List.cons_append, List.nil_append, List.append_nil, Int.reduceToNat] at O)
set_option hygiene false in
local macro_rules | `(tactic| walk_at "in2") => `(tactic| (intro H1 O; walk_at "nO"))
set_option hygiene false in
local macro_rules | `(tactic| walk_at "in4") => `(tactic| (intro p H1 hp O; walk_at "nO"))
local macro_rules | `(tactic| walk_at "mut") => `(tactic| first
  | ((with_reducible show rSetL _ _ _ _ _); first
      | (refine' NF.x_setL ?O 0 ?hk ?hi ?q; (case O => assumption); (case hk => exact rfl); (case hi => exact rfl); walk_at "in2")
      | (refine' NF.x_setL ?O 1 ?hk ?hi ?q; (case O => assumption); (case hk => exact rfl); (case hi => exact rfl); walk_at "in2")
      | (refine' NF.x_setL ?O 2 ?hk ?hi ?q; (case O => assumption); (case hk => exact rfl); (case hi => exact rfl); walk_at "in2")
      | (refine' NF.x_setL ?O 3 ?hk ?hi ?q; (case O => assumption); (case hk => exact rfl); (case hi => exact rfl); walk_at "in2"))
  | ((with_reducible show rAppend _ _ _ _); first
      | (refine' NF.x_append ?O 0 ?hk ?hz ?q; (case O => assumption); (case hk => exact rfl); (case hz => walk_at "len"); walk_at "in2")
      | (refine' NF.x_append ?O 1 ?hk ?hz ?q; (case O => assumption); (case hk => exact rfl); (case hz => walk_at "len"); walk_at "in2")
      | (refine' NF.x_append ?O 2 ?hk ?hz ?q; (case O => assumption); (case hk => exact rfl); (case hz => walk_at "len"); walk_at "in2")
      | (refine' NF.x_append ?O 3 ?hk ?hz ?q; (case O => assumption); (case hk => exact rfl); (case hz => walk_at "len"); walk_at "in2")))
local macro_rules | `(tactic| walk_at "new") => `(tactic| first
  | ((with_reducible show NF.newL _ _ _); refine' NF.x_newL ?O ?hz ?q; (case O => assumption); (case hz => walk_at "len"); walk_at "in4")
  | ((with_reducible show NF.newT _ _ _); refine' NF.x_newT ?O ?hz ?q; (case O => assumption); (case hz => walk_at "len"); walk_at "in4"))
local macro_rules | `(tactic| walk_at "isi") => `(tactic| ((with_reducible show NF.rIsT _ _ _ _); first
  | (refine' NF.x_isI ?hb ?_; (case hb => first | exact NF.kit_int_int | exact NF.kit_int_bool | exact NF.kit_int_str | exact NF.kit_int_list | exact NF.kit_int_tuple | exact NF.kit_int_dict))
  | (refine' NF.x_isB ?hb ?_; (case hb => first | exact NF.kit_bool_int | exact NF.kit_bool_bool | exact NF.kit_bool_str | exact NF.kit_bool_list | exact NF.kit_bool_tuple | exact NF.kit_bool_dict))
  | (refine' NF.x_isS ?hb ?_; (case hb => first | exact NF.kit_str_int | exact NF.kit_str_bool | exact NF.kit_str_str | exact NF.kit_str_list | exact NF.kit_str_tuple | exact NF.kit_str_dict))
  | (refine' NF.x_isNon ?hb ?_; (case hb => first | exact NF.kit_NoneType_int | exact NF.kit_NoneType_bool | exact NF.kit_NoneType_str | exact NF.kit_NoneType_list | exact NF.kit_NoneType_tuple | exact NF.kit_NoneType_dict))
  | (refine' NF.x_isL ?h ?hb ?_; (case h => walk_at "own"); (case hb => first | exact NF.kit_list_int | exact NF.kit_list_bool | exact NF.kit_list_str | exact NF.kit_list_list | exact NF.kit_list_tuple | exact NF.kit_list_dict))
  | (refine' NF.x_isT ?h ?hb ?_; (case h => walk_at "own"); (case hb => first | exact NF.kit_tuple_int | exact NF.kit_tuple_bool | exact NF.kit_tuple_str | exact NF.kit_tuple_list | exact NF.kit_tuple_tuple | exact NF.kit_tuple_dict))))
local macro_rules | `(tactic| walk_at "s1") => `(tactic| first
  | with_reducible refine NF.x_seq ?_
  | with_reducible refine NF.x_asg ?_
  | with_reducible refine NF.x_op ?_
  | ((with_reducible show tVar _ _ _ _); first | refine NF.x_var rfl ?_ | refine NF.x_var (by assumption) ?_)
  | with_reducible refine NF.x_c ?_
  | with_reducible refine NF.x_cons ?_
  | with_reducible refine NF.x_nil ?_
  | with_reducible refine NF.x_cb ?_
  | with_reducible refine NF.x_call ?_
  | with_reducible refine NF.x_callX ?_
  | with_reducible refine NF.x_chain ?_
  | with_reducible refine NF.x_mkX ?_
  | with_reducible refine NF.x_name ?_
  | with_reducible refine NF.x_sub ?_
  | with_reducible refine NF.x_drop ?_
  | with_reducible refine NF.x_ret ?_
  | with_reducible refine NF.x_retN ?_
  | with_reducible refine NF.x_next ?_
  | with_reducible refine NF.x_brk ?_
  | with_reducible refine NF.x_cnt ?_
  | with_reducible refine NF.x_ifs ?_
  | with_reducible refine NF.x_if ?_
  | with_reducible refine NF.x_test ?_
  | with_reducible refine NF.x_B ?_
  | with_reducible refine NF.x_not ?_
  | with_reducible refine NF.x_andV ?_
  | with_reducible refine NF.x_orV ?_
  | with_reducible refine NF.x_notV ?_
  | with_reducible refine NF.x_tru ?_
  | with_reducible refine NF.x_lst ?_
  | with_reducible refine NF.x_tup ?_
  | with_reducible refine NF.x_bm ?_
  | with_reducible refine NF.x_bm0 ?_
  | with_reducible refine NF.x_un ?_
  | with_reducible refine NF.x_bl ?_
  | with_reducible refine NF.x_tt ?_
  | with_reducible refine NF.x_ff ?_
  | with_reducible refine NF.x_nt ?_
  | with_reducible refine NF.x_nf ?_
  | with_reducible refine NF.x_I0 ?_
  | with_reducible refine NF.x_U ?_
  | with_reducible refine NF.x_int ?_
  | with_reducible refine NF.x_min2 ?_
  | with_reducible refine NF.x_max2 ?_
  | with_reducible refine NF.x_abs ?_
  | with_reducible refine NF.x_isNn ?_
  | with_reducible refine NF.x_notNn ?_
  | with_reducible refine NF.x_isNi ?_
  | with_reducible refine NF.x_notNi ?_
  | with_reducible refine NF.x_isNs ?_
  | with_reducible refine NF.x_notNs ?_
  | with_reducible refine NF.x_isNb ?_
  | with_reducible refine NF.x_notNb ?_
  | with_reducible refine NF.x_isNr ?_
  | with_reducible refine NF.x_notNr ?_
  | with_reducible refine NF.x_isN ?_
  | with_reducible refine NF.x_notN ?_
  | with_reducible refine NF.x_inC ?_
  | with_reducible refine NF.x_notInC ?_
  | with_reducible refine NF.x_find ?_
  | with_reducible refine NF.x_tyS ?_
  | with_reducible refine NF.x_truB ?_
  | with_reducible refine NF.x_truI ?_
  | with_reducible refine NF.x_truN ?_
  | ((with_reducible show rI CMul _ _ _ _ _); refine NF.x_I ?hc ?_; (case hc => walk_at "mul"))
  | ((with_reducible show rI CPow _ _ _ _ _); refine NF.x_I ?hc ?_; (case hc => exact ⟨by decide, by decide, by decide⟩))
  | ((with_reducible show rI CDivW _ _ _ _ _); refine NF.x_I ?hc ?_; (case hc => first | assumption | exact ⟨by assumption, by assumption⟩ | exact ⟨by decide, by decide +kernel⟩))
  | ((with_reducible show rI _ _ _ _ _ _); refine NF.x_I ?hc ?_; (case hc => first | assumption | (show (0 : Int) < _; omega) | decide))
  | ((with_reducible show rEq _ _ _ _); refine NF.x_eq (by rfl) ?_)
  | ((with_reducible show rNe _ _ _ _); refine NF.x_ne (by rfl) ?_)
  | ((with_reducible show rIxL _ _ _ _ _); refine' NF.x_ixL ?h ?hv ?_; (case h => walk_at "own"); (case hv => walk_at "atn"))
  | ((with_reducible show rIxT _ _ _ _ _); refine' NF.x_ixT ?h ?hv ?_; (case h => walk_at "own"); (case hv => walk_at "atn"))
  | ((with_reducible show rIxS _ _ _ _); refine' NF.x_ixS ?h ?hv ?_; (case h => walk_at "len"); (case hv => walk_at "atn"))
  | ((with_reducible show rLen _ [V.str _] _ _); refine NF.x_lenS ?h ?_; (case h => walk_at "len"))
  | ((with_reducible show rLen _ [V.ref _] _ _); first | (refine' NF.x_lenL ?h ?_; (case h => walk_at "own")) | (refine' NF.x_lenT ?h ?_; (case h => walk_at "own")))
  | ((with_reducible show rAddS _ _ _ _); refine NF.x_addS ?h ?_; (case h => walk_at "len"))
  | ((with_reducible show rUpper _ _ _ _); refine NF.x_upper ?h ?_; (case h => walk_at "len"))
  | ((with_reducible show rLower _ _ _ _); refine NF.x_lower ?h ?_; (case h => walk_at "len"))
  | ((with_reducible show tyV _ "list" _ _ ∧ _); refine' NF.x_tyL ?h ?_; (case h => walk_at "own"))
  | ((with_reducible show ∃ k, TruV _ (V.ref _) _ k ∧ _); refine' NF.x_truL ?h ?_; (case h => walk_at "own"))
  | ((with_reducible show ∃ k, TruV _ (V.str _) _ k ∧ _); refine' NF.x_truS ?h ?_; (case h => walk_at "len"))
  | with_reducible refine NF.x_sl ?_
  | with_reducible refine NF.x_noPart ?_
  | with_reducible refine NF.x_part ?_
  | with_reducible refine NF.x_pI ?_
  | ((with_reducible show rSlS _ _ _ _ _); refine NF.x_slS ?h ?_; (case h => walk_at "len"))
  | with_reducible refine NF.x_for ?_
  | with_reducible refine NF.x_lc ?_
  | with_reducible refine NF.x_yes ?_
  | ((with_reducible show NF.rLtIS _ _ _ _ _); refine' NF.x_ltIS ?ha ?hb ?_; (case ha => walk_at "own"); (case hb => walk_at "own"))
  | with_reducible refine NF.x_lstRg1 ?_
  | with_reducible refine NF.x_pI ?_
  | with_reducible refine NF.x_jR1 ?_
  | with_reducible refine NF.x_jR2 ?_
  | with_reducible refine NF.x_jL ?_
  | with_reducible refine NF.x_jT ?_
  | with_reducible refine NF.x_jS ?_
  | with_reducible refine NF.x_jE ?_
  | with_reducible refine NF.x_jEL ?_
  | walk_at "isi"
  | walk_at "mut")
local macro_rules | `(tactic| walk_at "go") => `(tactic| repeat (first | walk_at "s1" | walk_at "ao" | walk_at "new"))
local macro_rules | `(tactic| walk_at "ao") => `(tactic| first
  | with_reducible refine NF.x_and ?_
  | with_reducible refine NF.x_or ?_)
local macro_rules | `(tactic| walk_at "gw") => `(tactic| repeat (first | walk_at "s1" | walk_at "ao"))
local macro_rules | `(tactic| walk_at "gn") => `(tactic| repeat walk_at "s1")
section
variable {P : Program} {w : World} {K : PySem.W.Frag} {mg : Str → Option Value} {base : Heap}
/-! the law's box: a list of what is left of the script, and three numbers -/
def BxD (a : Addr) (M : List (Addr × HO)) : Prop := ∃ (c : Addr) (ns : List Int) (x y z : Int), M = [(a, .lst [.ref c, .int x, .int y, .int z]), (c, .lst (ns.map V.int))] ∧ 0 ≤ y ∧ y < 2147483648 ∧ ns.length ≤ 63
def spDraw : Sp := spB 1 BxD (fun r => ∃ many, r = [.int many] ∧ 0 < many ∧ many.natAbs.log2 < 9000) (fun r v => ∃ many d, r = [.int many] ∧ v = .int d ∧ 0 ≤ d ∧ d < many)
theorem mod_hi {i j : Int} (h : 0 < j) : 0 ≤ i % j ∧ i % j < j := ⟨Int.emod_nonneg _ (by omega), Int.emod_lt_of_pos _ h⟩
theorem CDivW.lit {i j : Int} (h : 0 < j) (hl : j.natAbs.log2 < 9000) : CDivW i j := ⟨h, hl⟩
theorem CMul.of {i j : Int} (h1 : -(2 ^ 64) < i) (h2 : i < 2 ^ 64) : CMul i j := .inl ⟨h1, h2⟩
abbrev NM_law_draw : List Str := ["box", "many", "cell", "digit"]
theorem sc_law_draw : FnScope NM_law_draw ["box", "many"] (defScope s_law_draw) := ⟨rfl, rfl, rfl, by decide +kernel, rfl, by decide +kernel, by decide +kernel⟩
theorem d_law_draw (F : Fn0 K mg "_law_draw" s_law_draw) (T : Txt P K mg)  :
    Def P w K mg base 1 "_law_draw" ["box", "many"] spDraw := by
  refine Def.mk0 F sc_law_draw (by first | exact NF.hl_spB | exact NF.hl_spP | exact NF.hl_spNew | exact NF.hl_spPX | exact NF.hl_spN | exact NF.hl_spNX | exact hl_spDraw) (fun _ _ _ _ _ _ us hl => match us, hl with | [_, _], _ => rfl) (fun cdv A outer s H vs Q E hr h => ?_)
  refine ⟨_, (pss_cons (ps_asg (pe_op op_add (pe_ix ix_list (pv 0) pe_int (fun _ _ => rfl)) pe_int) (pg_sub (pv 0) pe_int set_list))
      (Evl.pss_cut (ps_if (PW.pt (pw_and (pt_cmpR op_eq (pe_ix ix_list (pv 0) pe_int (fun _ _ => rfl)) pe_int (nomark _)) (pw_and1 (pt_cmpR op_gt (pe_callB (id := "len") callLen (by rfl) T.b_len (by decide +kernel) (pa_cons (pe_ix ix_list (pv 0) pe_int (fun _ _ => rfl)) pa_nil)) pe_int (nomark _)))))
      (pss_cons (ps_set (i := 2) sc_law_draw.nd rfl (Or.inl rfl) (pe_bm PySem.F.plainAttrs_list PySem.F.slot_list_pop PySem.F.type_list_pop mt_popAt (pe_ix ix_list (pv 0) pe_int (fun _ _ => rfl)) (pa_cons pe_int pa_nil)))
      (pss_one (ps_if (pt_cmpR op_ge (pv 2) (pe_op op_pow pe_int pe_int) (nomark _))
      (pss_one (ps_asg (pv 2) (pg_sub (pv 0) pe_int set_list)))
      (pss_one (ps_asg (pe_op op_mod (pe_callTy (T := "int") callInt (by rfl) T.b_int (by decide +kernel) (pa_cons (pe_op op_add (pe_op op_add (pe_op op_mul (pe_ix ix_list (pv 0) pe_int (fun _ _ => rfl)) pe_int) (pe_op op_mul (pv 2) pe_int)) pe_int) pa_nil)) pe_int) (pg_sub (pv 0) pe_int set_list))))))
      pss_nil)
      (pss_cons (ps_if (pt_cmpR op_gt (pe_ix ix_list (pv 0) pe_int (fun _ _ => rfl)) pe_int (nomark _))
      (pss_cons (ps_set (i := 3) sc_law_draw.nd rfl (Or.inl rfl) (pe_op op_mod (pe_callTy (T := "int") callInt (by rfl) T.b_int (by decide +kernel) (pa_cons (pe_ix ix_list (pv 0) pe_int (fun _ _ => rfl)) pa_nil)) (pv 1)))
      (pss_cons (ps_asg (pe_op op_fdivW (pe_ix ix_list (pv 0) pe_int (fun _ _ => rfl)) (pv 1)) (pg_sub (pv 0) pe_int set_list))
      (pss_one (ps_ret (pv 3)))))
      pss_nil)
      (pss_cons (ps_asg (pe_op op_mod (pe_callTy (T := "int") callInt (by rfl) T.b_int (by decide +kernel) (pa_cons (pe_op op_add (pe_op op_add (pe_op op_mul (pe_ix ix_list (pv 0) pe_int (fun _ _ => rfl)) pe_int) (pe_op op_mul (pe_ix ix_list (pv 0) pe_int (fun _ _ => rfl)) pe_int)) pe_int) pa_nil)) pe_int) (pg_sub (pv 0) pe_int set_list))
      (pss_one (ps_ret (pe_op op_mod (pe_op op_fdivW (pe_op op_mod (pe_callTy (T := "int") callInt (by rfl) T.b_int (by decide +kernel) (pa_cons (pe_op op_add (pe_op op_add (pe_op op_mul (pe_ix ix_list (pv 0) pe_int (fun _ _ => rfl)) (pe_ix ix_list (pv 0) pe_int (fun _ _ => rfl))) (pe_op op_mul pe_int (pe_ix ix_list (pv 0) pe_int (fun _ _ => rfl)))) pe_int) pa_nil)) pe_int) pe_int) (pv 1)))))))), ?_⟩
  try dsimp only [cxOf, Cx.nox, Cx.wish]
  obtain ⟨a, A, M, rest, rfl, hl, ⟨⟨c, ns, x, y, z, rfl, hy0, hy1, hns⟩, rfl⟩, O, ⟨many, rfl, hm, hml⟩, k⟩ := h
  have O := O.opened
  walk_at "go"
  refine NF.x_cut (fun σ H1 => ∃ (u2 u3 : Option V) (ns : List Int) (x y z : Int), σ = [some (.ref a), some (.int many), u2, u3] ∧ Own H H1 [] [(a, .lst [.ref c, .int x, .int y, .int z]), (c, .lst (ns.map V.int))] ∧ 0 ≤ y ∧ y < 2147483648 ∧ ns.length ≤ 63) ?_ ?_
  · walk_at "go"
    refine NF.x_iteI (fun h0 => ?_) (fun h0 => ?_)
    · walk_at "go"
      refine NF.x_ite (fun h1 => ?_) (fun h1 => ?_)
      · walk_at "go"
        rw [List.length_map] at h1
        obtain ⟨n, ns, rfl⟩ : ∃ n m, ns = n :: m := by cases ns with | nil => simp at h1 | cons n m => exact ⟨n, m, rfl⟩
        rw [List.length_cons] at hns
        simp only [List.map_cons] at O
        refine NF.x_popAt O 1 rfl 0 (by decide) (by decide) (by simp [seqIndex?]) rfl fun H1 O => ?_
        simp only [List.eraseIdx_cons_zero, List.set] at O
        walk_at "go"
        refine NF.x_ite (fun h2 => ?_) (fun h2 => ?_)
        · walk_at "go"
          exact ⟨_, _, ns, _, _, _, rfl, O, hy0, hy1, by omega⟩
        · walk_at "go"
          have q := mod_hi (i := y * 69621 + n * 48271 + 7919) (j := 2147483647) (by decide)
          exact ⟨_, _, ns, _, _, _, rfl, O, q.1, by omega, by omega⟩
      · walk_at "go"
        exact ⟨_, _, ns, _, _, _, rfl, O, hy0, hy1, hns⟩
    · walk_at "go"
      exact ⟨_, _, ns, _, _, _, rfl, O, hy0, hy1, hns⟩
  · rintro _ H1 ⟨u2, u3, ns, x, y, z, rfl, O, hy0, hy1, hns⟩
    walk_at "go"
    refine NF.x_ite (fun h0 => ?_) (fun h0 => ?_)
    · walk_at "go"
      have q := mod_hi (i := x) hm
      exact k _ _ _ ⟨⟨c, ns, _, y, z, rfl, hy0, hy1, hns⟩, rfl⟩ O.closed ⟨many, _, rfl, rfl, q.1, q.2⟩
    · have q0 := mod_hi (i := y * 16807 + z * 69621 + 1013) (j := 2147483647) (by decide)
      have q1 := q0.1
      have q2 := q0.2
      walk_at "go"
      exact k _ _ _ ⟨⟨c, ns, _, _, z, rfl, q0.1, by omega, hns⟩, rfl⟩ O.closed ⟨many, _, rfl, rfl, (mod_hi hm).1, (mod_hi hm).2⟩


/-! the law's box -/
theorem cutV_ints (ns : List Int) (lo hi : Option Int) : ∃ ms : List Int, cutV (ns.map V.int) lo hi = ms.map V.int ∧ ms.length ≤ ns.length := by
  unfold cutV
  rw [← List.map_drop, ← List.map_take]
  refine ⟨_, rfl, ?_⟩
  rw [List.length_take, List.length_drop]
  omega
def spBox (K : PySem.W.Frag) : Sp := fun vs H Q _ => ∃ (a : Addr) (ns : List Int), vs = [.ref a] ∧ SqL K H a (ns.map V.int) ∧ ns.length ≤ 63 ∧ ∀ b A H' M', In BxD b A M' → (∀ B R, Own B H [] R → Own B H' M' R) → Q (.ref b) H'
theorem hl_spBox {K : PySem.W.Frag} : ∀ vs H Q E, spBox K vs H Q E → vs.length = 1 := fun vs H Q E h => by
  obtain ⟨a, ns, rfl, _⟩ := h
  rfl
abbrev NM_law_box : List Str := ["script"]
theorem sc_law_box : FnScope NM_law_box ["script"] (defScope s_law_box) := ⟨rfl, rfl, rfl, by decide +kernel, rfl, by decide +kernel, by decide +kernel⟩
theorem d_law_box (F : Fn0 K mg "_law_box" s_law_box) (T : Txt P K mg)  :
    Def P w K mg base 1 "_law_box" ["script"] (spBox K) := by
  refine Def.mk0 F sc_law_box (by first | exact NF.hl_spB | exact NF.hl_spP | exact NF.hl_spNew | exact NF.hl_spPX | exact NF.hl_spN | exact NF.hl_spNX | exact hl_spBox) (fun _ _ _ _ _ _ us hl => match us, hl with | [_], _ => rfl) (fun cdv A outer s H vs Q E hr h => ?_)
  refine ⟨_, (pss_one (ps_ret (pe_lst (pa_cons (pe_callTy (T := "list") callListOf (by rfl) T.b_list (by decide +kernel) (pa_cons (pe_slice sl_list (pv 0) po_none (po_some pe_int)) pa_nil)) (pa_cons pe_int (pa_cons pe_int (pa_cons pe_int pa_nil))))))), ?_⟩
  try dsimp only [cxOf, Cx.nox, Cx.wish]
  obtain ⟨a, ns, rfl, hS, hns, k⟩ := h
  have O0 := NF.Own.refl0 H
  walk_at "go"
  refine NF.x_slL hS O0 fun p1 H1 hp1 O1 => ?_
  walk_at "go"
  refine NF.x_listOf O1 (.inl (O1.get 0 rfl)) fun p2 H2 hp2 O2 => ?_
  simp only [List.cons_append, List.nil_append] at O2
  walk_at "go"
  have O3 := O
  have hp3 := hp
  obtain ⟨ms, e, hm⟩ := cutV_ints ns none (some 63)
  rw [e] at O3
  have O4 := (O3.perm (R' := [(p1, .lst (ms.map V.int))] ++ [(p, .lst [.ref p2, .int 0, .int 0, .int 0]), (p2, .lst (ms.map V.int))]) (List.Perm.cons _ (List.Perm.swap _ _ _))).dropTo (fun x hx => by rw [List.mem_singleton.mp hx]; exact hp1)
  exact k p _ _ _ ⟨⟨p2, ms, 0, 0, 0, rfl, by decide, by decide, by omega⟩, rfl⟩ fun B R OB => (OB.callN O4 fun x hx => by
    simp only [List.mem_cons, List.not_mem_nil, or_false] at hx
    rcases hx with rfl | rfl
    · exact hp3
    · exact hp2).close


section
variable {B H : Hp} {M R : List (Addr × HO)} {a : Addr} {Q : VK} {E : XK}
theorem log2_small {m : Int} (h : m ≤ 1000000) (h0 : 0 < m) : m.natAbs.log2 < 9000 := by
  have h1 : m.natAbs < 2 ^ 20 := by omega
  have := PySem.Flt.log2_lt_of (show 0 < 20 by decide) h1
  omega
theorem x_draw {many : Int} (O : Own B H M R) {A : List Addr} (hB : In BxD a A M) (h0 : 0 < many) (h1 : many ≤ 1000000) (q : ∀ d H1 M1, 0 ≤ d → d < many → In BxD a A M1 → Own B H1 M1 R → Q (.int d) H1) : spDraw ([.ref a, .int many] ++ []) H Q E :=
  use_spB (rest := [.int many]) O hB rfl ⟨many, rfl, h0, log2_small h1 h0⟩ fun v H' M' hB' O' ⟨m2, d, e, ev, d0, d1⟩ => by
    cases e
    subst ev
    exact q d H' M' d0 d1 hB' O'
end
/-- a def of the box that makes a text of which P holds -/
def spTx (n : Nat) (pre : List V → Prop) (P : List V → Str → Prop) : Sp := spB n BxD pre (fun r v => ∃ z, v = .str z ∧ P r z)
theorem x_tx {B H : Hp} {M R : List (Addr × HO)} {a : Addr} {Q : VK} {E : XK} {n : Nat} {pre : List V → Prop} {P : List V → Str → Prop} {rest : List V} (O : Own B H M R) {A : List Addr} (hB : In BxD a A M) (hl : rest.length = n) (hp : pre rest)
    (q : ∀ z H1 M1, P rest z → In BxD a A M1 → Own B H1 M1 R → Q (.str z) H1) : spTx n pre P (.ref a :: rest) H Q E :=
  use_spB O hB hl hp fun v H' M' hB' O' ⟨z, e, h⟩ => by
    subst e
    exact q z H' M' h hB' O'
def spChar : Sp := spTx 0 (fun _ => True) (fun _ z => ∃ c, z = ⟨#[c]⟩)
abbrev NM_law_char : List Str := ["box", "chars"]
theorem sc_law_char : FnScope NM_law_char ["box"] (defScope s_law_char) := ⟨rfl, rfl, rfl, by decide +kernel, rfl, by decide +kernel, by decide +kernel⟩
theorem d_law_char (F : Fn0 K mg "_law_char" s_law_char) (T : Txt P K mg) (D_law_draw : Def P w K mg base 1 "_law_draw" ["box", "many"] spDraw) :
    Def P w K mg base 2 "_law_char" ["box"] spChar := by
  refine Def.mk0 F sc_law_char (by first | exact NF.hl_spB | exact NF.hl_spP | exact NF.hl_spNew | exact NF.hl_spPX | exact NF.hl_spN | exact NF.hl_spNX | exact hl_spChar) (fun _ _ _ _ _ _ us hl => match us, hl with | [_], _ => rfl) (fun cdv A outer s H vs Q E hr h => ?_)
  refine ⟨_, (pss_cons (ps_if (pt_cmpR op_gt (pe_d D_law_draw (hr.mono (by decide)) rfl (pa_cons (pv 0) (pa_cons pe_int pa_nil))) pe_int (nomark _))
      (pss_one (ps_ret (pe_ix ix_str pe_str (pe_d D_law_draw (hr.mono (by decide)) rfl (pa_cons (pv 0) (pa_cons pe_int pa_nil))) (fun _ _ => rfl))))
      pss_nil)
      (pss_cons (ps_set (i := 1) sc_law_char.nd rfl (Or.inl rfl) pe_str)
      (pss_cons (ps_set (i := 1) sc_law_char.nd rfl (Or.inl rfl) (pe_op opAddS (pv 1) pe_str))
      (pss_one (ps_ret (pe_ix ix_str (pv 1) (pe_d D_law_draw (hr.mono (by decide)) rfl (pa_cons (pv 0) (pa_cons pe_int pa_nil))) (fun _ _ => rfl))))))), ?_⟩
  try dsimp only [cxOf, Cx.nox, Cx.wish]
  obtain ⟨a, A, M, rest, rfl, hl, hB, O, _, k⟩ := h
  obtain rfl := List.length_eq_zero_iff.mp hl
  walk_at "go"
  refine x_draw O hB (by decide) (by decide) fun d H1 M1 d0 d1 hB O => ?_
  walk_at "go"
  refine NF.x_ite (fun h0 => ?_) (fun h0 => ?_)
  · walk_at "go"
    refine x_draw O hB (by decide) (by decide) fun d H2 M2 d0 d1 hB O => ?_
    walk_at "go"
    refine NF.x_ixSo d0 (by rw [show (Str.ofString "abcdefghABCDEFGH").length = 16 by decide +kernel]; exact d1) (by decide +kernel) fun c _ hc hm => ?_
    exact k _ _ _ hB O ⟨_, rfl, c, rfl⟩
  · walk_at "go"
    refine x_draw O hB (by decide) (by decide) fun d H2 M2 d0 d1 hB O => ?_
    walk_at "go"
    refine NF.x_ixSo d0 (by rw [len_app, show (Str.ofString " !\"#$&'()*+,-./0123456789:;<=>?@ABCDEFGHIJKLMNOPQRSTUVWXYZ[\\]^_`").length = 64 by decide +kernel, show (Str.ofString "abcdefghijklmnopqrstuvwxyz{|}~\n\t").length = 32 by decide +kernel]; omega) (by decide +kernel) fun c _ hc hm => ?_
    exact k _ _ _ hB O ⟨_, rfl, c, rfl⟩


def spNested : Sp := spTx 1 (fun r => ∃ many : Int, r = [.int many] ∧ 0 ≤ many ∧ many ≤ 1000) (fun r z => ∃ many : Int, r = [.int many] ∧ Nst (tl z) ∧ (z.length : Int) = 2 * many)
abbrev NM_law_nested : List Str := ["box", "many", "shape", "few", "first", "letters", "opened", "k", "room", "ups", "up", "name"]
theorem sc_law_nested : FnScope NM_law_nested ["box", "many"] (defScope s_law_nested) := ⟨rfl, rfl, rfl, by decide +kernel, rfl, by decide +kernel, by decide +kernel⟩
theorem d_law_nested (F : Fn0 K mg "_law_nested" s_law_nested) (T : Txt P K mg) (D_law_draw : Def P w K mg base 1 "_law_draw" ["box", "many"] spDraw) :
    Def P w K mg base 2 "_law_nested" ["box", "many"] spNested := by
  refine Def.mk0 F sc_law_nested (by first | exact NF.hl_spB | exact NF.hl_spP | exact NF.hl_spNew | exact NF.hl_spPX | exact NF.hl_spN | exact NF.hl_spNX | exact hl_spNested) (fun _ _ _ _ _ _ us hl => match us, hl with | [_, _], _ => rfl) (fun cdv A outer s H vs Q E hr h => ?_)
  refine ⟨_, (pss_cons (ps_set (i := 2) sc_law_nested.nd rfl (Or.inl rfl) (pe_d D_law_draw (hr.mono (by decide)) rfl (pa_cons (pv 0) (pa_cons pe_int pa_nil))))
      (pss_cons (ps_set (i := 3) sc_law_nested.nd rfl (Or.inl rfl) (pe_ix ix_list (pe_lst (pa_cons pe_int (pa_cons pe_int (pa_cons pe_int pa_nil)))) (pe_d D_law_draw (hr.mono (by decide)) rfl (pa_cons (pv 0) (pa_cons pe_int pa_nil))) (fun _ _ => rfl)))
      (pss_cons (ps_set (i := 4) sc_law_nested.nd rfl (Or.inl rfl) (pe_d D_law_draw (hr.mono (by decide)) rfl (pa_cons (pv 0) (pa_cons pe_int pa_nil))))
      (pss_cons (ps_set (i := 5) sc_law_nested.nd rfl (Or.inl rfl) (pe_lst pa_nil))
      (pss_cons (ps_set (i := 6) sc_law_nested.nd rfl (Or.inl rfl) (pe_lst pa_nil))
      (pss_cons (ps_for PassesOwn.never rfl (pi_range1 (by rfl) T.b_range (pa_cons (pv 1) pa_nil)) (pg_name (i := 7) sc_law_nested.nd rfl (Or.inl rfl))
      (pss_cons (ps_set (i := 8) sc_law_nested.nd rfl (Or.inl rfl) (pe_callB (id := "len") callLen (by rfl) T.b_len (by decide +kernel) (pa_cons (pv 6) pa_nil)))
      (pss_cons (ps_set (i := 9) sc_law_nested.nd rfl (Or.inl rfl) (pe_d D_law_draw (hr.mono (by decide)) rfl (pa_cons (pv 0) (pa_cons (pe_op op_add (pv 8) pe_int) pa_nil))))
      (Evl.pss_cut (ps_if (pt_cmpR op_eq (pv 2) pe_int (nomark _))
      (pss_one (ps_set (i := 9) sc_law_nested.nd rfl (Or.inl rfl) (pe_callB (id := "min") (callMin2 rfl) (by rfl) T.b_min (by decide +kernel) (pa_cons (pv 9) (pa_cons (pe_d D_law_draw (hr.mono (by decide)) rfl (pa_cons (pv 0) (pa_cons (pe_op op_add (pv 8) pe_int) pa_nil))) pa_nil)))))
      pss_nil)
      (Evl.pss_cut (ps_if (pt_cmpR op_eq (pv 2) pe_int (nomark _))
      (pss_one (ps_set (i := 9) sc_law_nested.nd rfl (Or.inl rfl) (pe_callB (id := "max") (callMax2 rfl) (by rfl) T.b_max (by decide +kernel) (pa_cons (pv 9) (pa_cons (pe_d D_law_draw (hr.mono (by decide)) rfl (pa_cons (pv 0) (pa_cons (pe_op op_add (pv 8) pe_int) pa_nil))) pa_nil)))))
      pss_nil)
      (pss_cons (ps_for PassesOwn.never rfl (pi_range1 (by rfl) T.b_range (pa_cons (pv 9) pa_nil)) (pg_name (i := 10) sc_law_nested.nd rfl (Or.inl rfl))
      (pss_one (ps_expr (pe_bm PySem.F.plainAttrs_list PySem.F.slot_list_append PySem.F.type_list_append mt_append (pv 5) (pa_cons (pe_bm0 PySem.F.plainAttrs_list PySem.F.slot_list_pop PySem.F.type_list_pop mt_pop (pv 6)) pa_nil)))))
      (pss_cons (ps_set (i := 11) sc_law_nested.nd rfl (Or.inl rfl) (pe_ix ix_str pe_str (pe_op op_mod (pe_callTy (T := "int") callInt (by rfl) T.b_int (by decide +kernel) (pa_cons (pe_op op_add (pv 4) (pe_d D_law_draw (hr.mono (by decide)) rfl (pa_cons (pv 0) (pa_cons (pv 3) pa_nil)))) pa_nil)) pe_int) (fun _ _ => rfl)))
      (pss_cons (ps_expr (pe_bm PySem.F.plainAttrs_list PySem.F.slot_list_append PySem.F.type_list_append mt_append (pv 5) (pa_cons (pv 11) pa_nil)))
      (pss_one (ps_expr (pe_bm PySem.F.plainAttrs_list PySem.F.slot_list_append PySem.F.type_list_append mt_append (pv 6) (pa_cons (pe_bm0 PySem.F.plainAttrs_str PySem.F.slot_str_upper PySem.F.type_str_upper mtUpper (pv 11)) pa_nil))))))))))))
      (pss_cons (ps_for PassesOwn.never rfl (pi_range1 (by rfl) T.b_range (pa_cons (pe_callB (id := "len") callLen (by rfl) T.b_len (by decide +kernel) (pa_cons (pv 6) pa_nil)) pa_nil)) (pg_name (i := 10) sc_law_nested.nd rfl (Or.inl rfl))
      (pss_one (ps_expr (pe_bm PySem.F.plainAttrs_list PySem.F.slot_list_append PySem.F.type_list_append mt_append (pv 5) (pa_cons (pe_bm0 PySem.F.plainAttrs_list PySem.F.slot_list_pop PySem.F.type_list_pop mt_pop (pv 6)) pa_nil)))))
      (pss_one (ps_ret (pe_bm PySem.F.plainAttrs_str PySem.F.slot_str_join PySem.F.type_str_join mtJoin pe_str (pa_cons (pv 5) pa_nil))))))))))), ?_⟩
  try dsimp only [cxOf, Cx.nox, Cx.wish]
  obtain ⟨a, A, M, rest, rfl, hl, hB, O, ⟨many, rfl, hm0, hm1⟩, k⟩ := h
  walk_at "go"
  refine x_draw O hB (by decide) (by decide) fun shape H1 M1 d0 d1 hB O => ?_
  walk_at "gw"
  refine NF.x_newL O (by decide +kernel) fun p8 H1 hp8 O => ?_
  walk_at "nO"
  walk_at "go"
  refine x_draw O hB (by decide) (by decide) fun d2 H1 M1 d0 d1 hB O => ?_
  walk_at "go"
  refine NF.x_ixLo (O.get 0 rfl) d0 (by exact d1) fun v hv hm => ?_
  obtain ⟨few, rfl, hf0, hf1⟩ : ∃ few, v = V.int few ∧ 0 < few ∧ few ≤ 8 := by
    simp only [List.mem_cons, List.not_mem_nil, or_false] at hm
    rcases hm with rfl | rfl | rfl <;> exact ⟨_, rfl, by decide, by decide⟩
  clear hm hv
  walk_at "go"
  refine x_draw O hB (by decide) (by decide) fun first H1 M1 d0 d1 hB O => ?_
  walk_at "gw"
  refine NF.x_newL O (by decide +kernel) fun pl H1 hpl O => ?_
  walk_at "nO"
  walk_at "go"
  refine NF.f_rng1 ⟨by omega, by omega⟩ (fun i σ H' => ∃ (u7 u8 u9 u10 u11 : Option V) (M' : List (Addr × HO)) (ls os : List Nat), σ = [some (.ref a), some (.int many), some (.int shape), some (.int few), some (.int first), some (.ref pl), some (.ref p), u7, u8, u9, u10, u11] ∧
    In BxD a A M' ∧ Own H H' M' [(p8, .lst [.int 8, .int 2, .int 1]), (pl, .lst (ls.map ch)), (p, .lst (os.map ch))] ∧ NestI ls os (2 * i)) ⟨_, _, _, _, _, _, [], [], rfl, hB, O, NestI.nil⟩ ?_ ?_
  · rintro i _ H2 hi ⟨u7, u8, u9, u10, u11, M2, ls, os, rfl, hB, O, hN⟩
    have hlen : ls.length + os.length = 2 * i := hN.2.2
    walk_at "go"
    simp only [List.length_map]
    refine x_draw O hB (by omega) (by omega) fun ups H3 M3 d0 d1 hB O => ?_
    walk_at "go"
    refine NF.x_cut (fun σ H' => ∃ (ups : Int) (M' : List (Addr × HO)), σ = [some (.ref a), some (.int many), some (.int shape), some (.int few), some (.int first), some (.ref pl), some (.ref p), some (.int i), some (.int os.length), some (.int ups), u10, u11] ∧
      In BxD a A M' ∧ Own H H' M' [(p8, .lst [.int 8, .int 2, .int 1]), (pl, .lst (ls.map ch)), (p, .lst (os.map ch))] ∧ 0 ≤ ups ∧ ups ≤ os.length) ?_ ?_
    · walk_at "go"
      refine NF.x_iteI (fun h0 => ?_) (fun h0 => ?_)
      · walk_at "go"
        refine x_draw O hB (by omega) (by omega) fun d H3 M3 e0 e1 hB O => ?_
        walk_at "go"
        refine ⟨_, _, rfl, hB, O, ?_, ?_⟩ <;> (split <;> omega)
      · walk_at "go"
        exact ⟨_, _, rfl, hB, O, d0, by omega⟩
    · rintro _ H3 ⟨ups, M3, rfl, hB, O, d0, d1⟩
      walk_at "go"
      refine NF.x_cut (fun σ H' => ∃ (ups : Int) (M' : List (Addr × HO)), σ = [some (.ref a), some (.int many), some (.int shape), some (.int few), some (.int first), some (.ref pl), some (.ref p), some (.int i), some (.int os.length), some (.int ups), u10, u11] ∧
        In BxD a A M' ∧ Own H H' M' [(p8, .lst [.int 8, .int 2, .int 1]), (pl, .lst (ls.map ch)), (p, .lst (os.map ch))] ∧ 0 ≤ ups ∧ ups ≤ os.length) ?_ ?_
      · walk_at "go"
        refine NF.x_iteI (fun h0 => ?_) (fun h0 => ?_)
        · walk_at "go"
          refine x_draw O hB (by omega) (by omega) fun d H3 M3 e0 e1 hB O => ?_
          walk_at "go"
          refine ⟨_, _, rfl, hB, O, ?_, ?_⟩ <;> (split <;> omega)
        · walk_at "go"
          exact ⟨_, _, rfl, hB, O, d0, d1⟩
      · rintro _ H3 ⟨ups, M3, rfl, hB, O, d0, d1⟩
        walk_at "go"
        refine NF.f_rng1 ⟨by omega, by omega⟩ (fun j σ H' => ∃ (u10 : Option V) (ls' os' : List Nat), σ = [some (.ref a), some (.int many), some (.int shape), some (.int few), some (.int first), some (.ref pl), some (.ref p), some (.int i), some (.int os.length), some (.int ups), u10, u11] ∧
          Own H H' M3 [(p8, .lst [.int 8, .int 2, .int 1]), (pl, .lst (ls'.map ch)), (p, .lst (os'.map ch))] ∧ NestI ls' os' (2 * i) ∧ os'.length + j = os.length) ⟨_, ls, os, rfl, O, hN, rfl⟩ ?_ ?_
        · rintro j _ H4 hj ⟨u10, ls', os', rfl, O, hN', hl'⟩
          obtain ⟨os', c, rfl⟩ := snoc_of (l := os') (by omega)
          have hln : ls'.length + (os' ++ [c]).length = 2 * i := hN'.2.2
          walk_at "go"
          refine NF.x_popC O 2 rfl fun H5 O => ?_
          walk_at "go"
          rw [map_snoc] at O
          rw [List.length_append, List.length_singleton] at hl'
          exact ⟨_, _, _, rfl, O, hN'.pop, by omega⟩
        · rintro _ H4 ⟨u10, ls', os', rfl, O, hN', hl'⟩
          have hln : ls'.length + os'.length = 2 * i := hN'.2.2
          walk_at "go"
          refine x_draw O hB (by omega) (by omega) fun d H5 M5 e0 e1 hB O => ?_
          walk_at "go"
          have q := mod_hi (i := first + d) (j := 8) (by decide)
          refine NF.x_ixSo q.1 (by rw [len_names]; exact q.2) (by rw [len_names]; decide) fun c _ _ hc => ?_
          rw [tl_names, mem_lo] at hc
          walk_at "go"
          rw [upper_lo hc, map_snoc, map_snoc] at O
          exact ⟨_, _, _, _, _, _, _, _, rfl, hB, O, hN'.push hc⟩
  · rintro _ H2 ⟨u7, u8, u9, u10, u11, M2, ls, os, rfl, hB, O, hN⟩
    have hlen : ls.length + os.length = 2 * many.toNat := hN.2.2
    walk_at "go"
    simp only [List.length_map]
    refine NF.f_rng1 ⟨by omega, by omega⟩ (fun j σ H' => ∃ (u10 : Option V) (ls' os' : List Nat), σ = [some (.ref a), some (.int many), some (.int shape), some (.int few), some (.int first), some (.ref pl), some (.ref p), u7, u8, u9, u10, u11] ∧
      Own H H' M2 [(p8, .lst [.int 8, .int 2, .int 1]), (pl, .lst (ls'.map ch)), (p, .lst (os'.map ch))] ∧ NestI ls' os' (2 * many.toNat) ∧ os'.length + j = os.length) ⟨_, ls, os, rfl, O, hN, rfl⟩ ?_ ?_
    · rintro j _ H4 hj ⟨u10, ls', os', rfl, O, hN', hl'⟩
      obtain ⟨os', c, rfl⟩ := snoc_of (l := os') (by omega)
      have hln : ls'.length + (os' ++ [c]).length = 2 * many.toNat := hN'.2.2
      walk_at "go"
      refine NF.x_popC O 2 rfl fun H5 O => ?_
      walk_at "go"
      rw [map_snoc] at O
      rw [List.length_append, List.length_singleton] at hl'
      exact ⟨_, _, _, rfl, O, hN'.pop, by omega⟩
    · rintro _ H4 ⟨u10, ls', os', rfl, O, hN', hl'⟩
      obtain rfl : os' = [] := List.length_eq_zero_iff.mp (by omega)
      have hd := hN'.done
      walk_at "go"
      refine NF.x_join ls' (O.get 1 rfl) (by omega) ?_
      exact k _ _ _ hB (O.drop fun x hx => by
        simp only [List.mem_cons, List.not_mem_nil, or_false] at hx
        rcases hx with rfl | rfl | rfl <;> assumption) ⟨_, rfl, many, rfl, hd.1, by rw [len_mk]; omega⟩


theorem len16 : (Str.ofString "abcdefghABCDEFGH").length = 16 := by decide +kernel
theorem tl16 : tl (Str.ofString "abcdefghABCDEFGH") = [97, 98, 99, 100, 101, 102, 103, 104, 65, 66, 67, 68, 69, 70, 71, 72] := by rw [tl_ofString]; decide +kernel
/-- one of the sixteen letters -/
def isL (c : Nat) : Prop := (97 ≤ c ∧ c ≤ 104) ∨ (65 ≤ c ∧ c ≤ 72)
theorem mem16 {c : Nat} (h : c ∈ tl (Str.ofString "abcdefghABCDEFGH")) : isL c := by
  rw [tl16] at h
  simp only [List.mem_cons, List.not_mem_nil, or_false] at h
  unfold isL
  omega
def spBent : Sp := spTx 1 (fun r => ∃ z, r = [.str z] ∧ z.length ≤ 100000) (fun r z' => ∃ z, r = [.str z] ∧ z'.length ≤ 4 * z.length + 1)
abbrev NM_law_bent_text : List Str := ["box", "text", "way", "place", "char"]
theorem sc_law_bent_text : FnScope NM_law_bent_text ["box", "text"] (defScope s_law_bent_text) := ⟨rfl, rfl, rfl, by decide +kernel, rfl, by decide +kernel, by decide +kernel⟩
theorem d_law_bent_text (F : Fn0 K mg "_law_bent_text" s_law_bent_text) (T : Txt P K mg) (D_law_draw : Def P w K mg base 1 "_law_draw" ["box", "many"] spDraw) (D_law_char : Def P w K mg base 2 "_law_char" ["box"] spChar) :
    Def P w K mg base 3 "_law_bent_text" ["box", "text"] spBent := by
  refine Def.mk0 F sc_law_bent_text (by first | exact NF.hl_spB | exact NF.hl_spP | exact NF.hl_spNew | exact NF.hl_spPX | exact NF.hl_spN | exact NF.hl_spNX | exact hl_spBent) (fun _ _ _ _ _ _ us hl => match us, hl with | [_, _], _ => rfl) (fun cdv A outer s H vs Q E hr h => ?_)
  refine ⟨_, (pss_cons (ps_set (i := 2) sc_law_bent_text.nd rfl (Or.inl rfl) (pe_d D_law_draw (hr.mono (by decide)) rfl (pa_cons (pv 0) (pa_cons pe_int pa_nil))))
      (pss_cons (ps_set (i := 3) sc_law_bent_text.nd rfl (Or.inl rfl) (pe_d D_law_draw (hr.mono (by decide)) rfl (pa_cons (pv 0) (pa_cons (pe_op op_add (pe_callB (id := "len") callLen (by rfl) T.b_len (by decide +kernel) (pa_cons (pv 1) pa_nil)) pe_int) pa_nil))))
      (pss_cons (ps_set (i := 4) sc_law_bent_text.nd rfl (Or.inl rfl) (pe_d D_law_char (hr.mono (by decide)) rfl (pa_cons (pv 0) pa_nil)))
      (pss_cons (ps_if (pt_cmpR op_eq (pv 2) pe_int (nomark _))
      (pss_one (ps_ret (pe_op opAddS (pe_op opAddS (pe_slice sl_str (pv 1) po_none (po_some (pv 3))) (pv 4)) (pe_slice sl_str (pv 1) (po_some (pe_op op_add (pv 3) pe_int)) po_none))))
      pss_nil)
      (pss_cons (ps_if (pt_cmpR op_eq (pv 2) pe_int (nomark _))
      (pss_one (ps_ret (pe_op opAddS (pe_op opAddS (pe_slice sl_str (pv 1) po_none (po_some (pv 3))) (pv 4)) (pe_slice sl_str (pv 1) (po_some (pv 3)) po_none))))
      pss_nil)
      (pss_cons (ps_if (pt_cmpR op_eq (pv 2) pe_int (nomark _))
      (pss_one (ps_ret (pe_op opAddS (pe_slice sl_str (pv 1) po_none (po_some (pv 3))) (pe_slice sl_str (pv 1) (po_some (pe_op op_add (pv 3) pe_int)) po_none))))
      pss_nil)
      (pss_cons (ps_if (pt_cmpR op_eq (pv 2) pe_int (nomark _))
      (pss_one (ps_ret (pe_slice sl_str (pv 1) po_none (po_some (pv 3)))))
      pss_nil)
      (pss_cons (ps_if (pt_cmpR op_eq (pv 2) pe_int (nomark _))
      (pss_one (ps_ret (pe_op opAddS (pe_slice sl_str (pv 1) (po_some (pv 3)) po_none) (pe_slice sl_str (pv 1) po_none (po_some (pv 3))))))
      pss_nil)
      (pss_one (ps_ret (pe_op opAddS (pe_op opAddS (pe_op opAddS (pe_slice sl_str (pv 1) po_none (po_some (pv 3))) (pe_slice sl_str (pv 1) (po_some (pe_op op_add (pv 3) pe_int)) (po_some (pe_op op_add (pv 3) pe_int)))) (pe_slice sl_str (pv 1) (po_some (pv 3)) (po_some (pe_op op_add (pv 3) pe_int)))) (pe_slice sl_str (pv 1) (po_some (pe_op op_add (pv 3) pe_int)) po_none)))))))))))), ?_⟩
  try dsimp only [cxOf, Cx.nox, Cx.wish]
  obtain ⟨a, A, M, rest, rfl, hl, hB, O, ⟨z, rfl, hz⟩, k⟩ := h
  walk_at "go"
  refine x_draw O hB (by decide) (by decide) fun way H1 M1 w0 w1 hB O => ?_
  walk_at "go"
  refine x_draw O hB (by omega) (by omega) fun pl H1 M1 p0 p1 hB O => ?_
  walk_at "go"
  refine x_tx (E := E0) (rest := []) O hB rfl trivial fun z1 H1 M1 ⟨c, ec⟩ hB O => ?_
  subst ec
  have c1 := len_cut z none (some pl)
  have c2 := len_cut z (some (pl + 1)) none
  have c3 := len_cut z (some pl) none
  have c4 := len_cut z (some (pl + 1)) (some (pl + 2))
  have c5 := len_cut z (some pl) (some (pl + 1))
  have c6 := len_cut z (some (pl + 2)) none
  have fin : ∀ z', z'.length ≤ 4 * z.length + 1 → Q (.str z') H1 := fun z' h => k _ _ _ hB O ⟨_, rfl, z, rfl, h⟩
  walk_at "go"
  refine NF.x_iteI (fun h0 => ?_) (fun h0 => ?_)
  · walk_at "go"
    exact fin _ (by first | (simp only [len_app, len_ch]; omega) | omega)
  walk_at "go"
  refine NF.x_iteI (fun h0 => ?_) (fun h0 => ?_)
  · walk_at "go"
    exact fin _ (by first | (simp only [len_app, len_ch]; omega) | omega)
  walk_at "go"
  refine NF.x_iteI (fun h0 => ?_) (fun h0 => ?_)
  · walk_at "go"
    exact fin _ (by first | (simp only [len_app, len_ch]; omega) | omega)
  walk_at "go"
  refine NF.x_iteI (fun h0 => ?_) (fun h0 => ?_)
  · walk_at "go"
    exact fin _ (by first | (simp only [len_app, len_ch]; omega) | omega)
  walk_at "go"
  refine NF.x_iteI (fun h0 => ?_) (fun h0 => ?_)
  · walk_at "go"
    exact fin _ (by first | (simp only [len_app, len_ch]; omega) | omega)
  walk_at "go"
  exact fin _ (by first | (simp only [len_app, len_ch]; omega) | omega)


/-- a fault as a value -/
def fv : Option Nat → V
  | none => .non
  | some n => .int (n : Int)
theorem tl_ups : tl (Str.ofString "ABCDEFGH") = [65, 66, 67, 68, 69, 70, 71, 72] := by rw [tl_ofString]; decide +kernel
theorem tl_at {z : Str} {i c : Nat} (h : z.cps[i]? = some c) : (tl z)[i]? = some c := by rw [Array.getElem?_toList]; exact h
theorem rev_ch (t : Nat) (ts : List Nat) : ((t :: ts).reverse.map ch) = ts.reverse.map ch ++ [ch t] := by rw [List.reverse_cons, List.map_append]; rfl
def spFault : Sp := spP 1 (fun vs => ∃ z, vs = [.str z] ∧ z.length ≤ 10000000) (fun vs v => ∃ z, vs = [.str z] ∧ v = fv (flt (tl z) 0 []))
abbrev NM_fault : List Str := ["text", "open_names", "at", "letter"]
theorem sc_fault : FnScope NM_fault ["text"] (defScope s_fault) := ⟨rfl, rfl, rfl, by decide +kernel, rfl, by decide +kernel, by decide +kernel⟩
theorem d_fault (F : Fn0 K mg "fault" s_fault) (T : Txt P K mg)  :
    Def P w K mg base 1 "fault" ["text"] spFault := by
  refine Def.mk0 F sc_fault (by first | exact NF.hl_spB | exact NF.hl_spP | exact NF.hl_spNew | exact NF.hl_spPX | exact NF.hl_spN | exact NF.hl_spNX | exact hl_spFault) (fun _ _ _ _ _ _ us hl => match us, hl with | [_], _ => rfl) (fun cdv A outer s H vs Q E hr h => ?_)
  refine ⟨_, (pss_cons (ps_set (i := 1) sc_fault.nd rfl (Or.inl rfl) (pe_lst pa_nil))
      (pss_cons (ps_for PassesOwn.never rfl (pi_enumS (by rfl) T.b_enumerate (pa_cons (pv 0) pa_nil)) (pg_tup (by rfl) (pgs_cons (pg_name (i := 2) sc_fault.nd rfl (Or.inl rfl)) (pgs_cons (pg_name (i := 3) sc_fault.nd rfl (Or.inl rfl)) pgs_nil)))
      (pss_one (ps_if (pt_cmpR opInC (pv 3) (pe_g rfl T.g_NAMES) (by rfl))
      (pss_one (ps_expr (pe_bm PySem.F.plainAttrs_list PySem.F.slot_list_append PySem.F.type_list_append mt_append (pv 1) (pa_cons (pv 3) pa_nil))))
      (pss_one (ps_if (PW.pt (pw_and (pt_cmpR opInC (pv 3) (pe_g rfl T.g_CLOSINGS) (by rfl)) (pw_and (ptTruth (pv 1) (by intro _; rfl)) (pw_and1 (pt_cmpR op_eq (pe_ix ix_list (pv 1) (pe_un un_neg pe_int) (fun _ _ => rfl)) (pe_bm0 PySem.F.plainAttrs_str PySem.F.slot_str_lower PySem.F.type_str_lower mtLower (pv 3)) (nomark _))))))
      (pss_one (ps_expr (pe_bm0 PySem.F.plainAttrs_list PySem.F.slot_list_pop PySem.F.type_list_pop mt_pop (pv 1))))
      (pss_one (ps_ret (pv 2))))))))
      (pss_cons (ps_if (ptTruth (pv 1) (by intro _; rfl))
      (pss_one (ps_ret (pe_callB (id := "len") callLen (by rfl) T.b_len (by decide +kernel) (pa_cons (pv 0) pa_nil))))
      pss_nil)
      (pss_one (ps_ret pe_non))))), ?_⟩
  try dsimp only [cxOf, Cx.nox, Cx.wish]
  obtain ⟨hl, ⟨z, rfl, hz⟩, k⟩ := h
  have O := NF.Own.refl0 H
  walk_at "gn"
  refine NF.x_newL O (by decide +kernel) fun p H1 hp O => ?_
  walk_at "nO"
  have fin : ∀ o H' R, flt (tl z) 0 [] = o → Own H H' [] [(p, R)] → Q (fv o) H' := fun o H' R e O' => k _ _ (O'.drop fun x hx => by rw [List.mem_singleton.mp hx]; exact hp) ⟨z, rfl, by rw [e]⟩
  walk_at "go"
  refine NF.f_enumS (fun i σ H' => ∃ (u2 u3 : Option V) (st : List Nat), σ = [some (.str z), some (.ref p), u2, u3] ∧ Own H H' [] [(p, .lst (st.reverse.map ch))] ∧ run ((tl z).take i) [] = some st ∧ st.length ≤ i ∧ i ≤ z.length) ⟨_, _, [], rfl, O, rfl, by decide, Nat.zero_le _⟩ ?_ ?_
  · rintro i c _ H2 H3 hc ⟨u2, u3, st, rfl, O, hr, hst, hi⟩ hO
    have O := hO _ _ _ O
    have hc := tl_at hc
    have hi : i < z.length := by rw [len_tl]; exact (List.getElem?_eq_some_iff.mp hc).1
    walk_at "go"
    refine NF.x_ite (fun h0 => ?_) (fun h0 => ?_)
    · rw [tl_names, mem_lo] at h0
      walk_at "go"
      exact ⟨_, _, c :: st, rfl, by rw [rev_ch]; exact O, run_lo1 hr hc h0, by rw [List.length_cons]; omega, by omega⟩
    · rw [tl_names, mem_lo] at h0
      have ret : ∀ H', (∀ t ts, st = t :: ts → c + 32 ≠ t) → Own H H' [] [(p, .lst (st.reverse.map ch))] → Q (.int (i : Int)) H' := fun H' h2 O' => fin (some i) H' _ (flt_stop hr hc h0 h2) O'
      walk_at "go"
      refine NF.x_ite (fun h1 => ?_) (fun h1 => ?_)
      · rw [tl_ups, mem_up] at h1
        walk_at "go"
        refine NF.x_itb (fun h2 => ?_) (fun h2 => ?_)
        · cases st with
          | nil => simp at h2
          | cons t ts =>
            rw [rev_ch] at O
            walk_at "go"
            refine' NF.x_ixL ?h (L2.atI_last _ _) ?_
            (case h => walk_at "own")
            walk_at "go"
            rw [lower_up h1]
            walk_at "go"
            refine NF.x_iteS (fun h3 => ?_) (fun h3 => ?_)
            · have e : t = c + 32 := by simpa using h3
              subst e
              walk_at "go"
              refine NF.x_pop O 0 rfl (v := ch (c + 32)) (by simp) fun H4 O => ?_
              rw [List.dropLast_concat] at O
              exact ⟨_, _, ts, rfl, O, run_up1 hr hc h0, by simp only [List.length_cons] at hst; omega, by omega⟩
            · walk_at "go"
              refine ret _ (fun t' ts' e => ?_) (by rw [rev_ch]; exact O)
              cases e
              exact fun q => h3 (by rw [q])
        · walk_at "go"
          refine ret _ (fun t' ts' e => ?_) O
          subst e
          simp at h2
      · rw [tl_ups, mem_up] at h1
        walk_at "go"
        refine ret _ (fun t' ts' e q => ?_) O
        have := run_lo hr (fun _ h => absurd h List.not_mem_nil) t' (by rw [e]; exact List.mem_cons_self ..)
        omega
  · rintro _ H2 ⟨u2, u3, st, rfl, O, hr, hst, hi⟩
    have e0 : z.cps.size = (tl z).length := by simp
    rw [e0] at hr
    have hr := flt_end hr
    walk_at "go"
    refine NF.x_itb (fun h2 => ?_) (fun h2 => ?_)
    · walk_at "go"
      have e : st ≠ [] := by intro e; subst e; simp at h2
      rw [if_neg e] at hr
      have := fin _ _ _ hr O
      rw [len_tl]
      exact this
    · walk_at "go"
      have e : st = [] := by simpa using h2
      rw [if_pos e] at hr
      exact fin _ _ _ hr O

def spIsN : Sp := spP 1 (fun vs => ∃ z, vs = [.str z] ∧ z.length ≤ 10000000) (fun vs v => ∃ z, vs = [.str z] ∧ v = .bl (decide (flt (tl z) 0 [] = none)))
abbrev NM_law_fault : List Str := ["text", "opened", "at"]
theorem sc_law_fault : FnScope NM_law_fault ["text"] (defScope s_law_fault) := ⟨rfl, rfl, rfl, by decide +kernel, rfl, by decide +kernel, by decide +kernel⟩
theorem d_law_fault (F : Fn0 K mg "_law_fault" s_law_fault) (T : Txt P K mg)  :
    Def P w K mg base 1 "_law_fault" ["text"] spFault := by
  refine Def.mk0 F sc_law_fault (by first | exact NF.hl_spB | exact NF.hl_spP | exact NF.hl_spNew | exact NF.hl_spPX | exact NF.hl_spN | exact NF.hl_spNX | exact hl_spFault) (fun _ _ _ _ _ _ us hl => match us, hl with | [_], _ => rfl) (fun cdv A outer s H vs Q E hr h => ?_)
  refine ⟨_, (pss_cons (ps_set (i := 1) sc_law_fault.nd rfl (Or.inl rfl) (pe_lst pa_nil))
      (pss_cons (ps_for PassesOwn.never rfl (pi_range1 (by rfl) T.b_range (pa_cons (pe_callB (id := "len") callLen (by rfl) T.b_len (by decide +kernel) (pa_cons (pv 0) pa_nil)) pa_nil)) (pg_name (i := 2) sc_law_fault.nd rfl (Or.inl rfl))
      (pss_one (ps_if (pt_cmpR opInC (pe_ix ix_str (pv 0) (pv 2) (fun _ _ => rfl)) pe_str (by rfl))
      (pss_one (ps_expr (pe_bm PySem.F.plainAttrs_list PySem.F.slot_list_append PySem.F.type_list_append mt_append (pv 1) (pa_cons (pe_bm0 PySem.F.plainAttrs_str PySem.F.slot_str_upper PySem.F.type_str_upper mtUpper (pe_ix ix_str (pv 0) (pv 2) (fun _ _ => rfl))) pa_nil))))
      (pss_one (ps_if (PW.pt (pw_and (pt_cmpR op_gt (pe_callB (id := "len") callLen (by rfl) T.b_len (by decide +kernel) (pa_cons (pv 1) pa_nil)) pe_int (nomark _)) (pw_and1 (pt_cmpR op_eq (pe_ix ix_list (pv 1) (pe_un un_neg pe_int) (fun _ _ => rfl)) (pe_ix ix_str (pv 0) (pv 2) (fun _ _ => rfl)) (nomark _)))))
      (pss_one (ps_expr (pe_bm0 PySem.F.plainAttrs_list PySem.F.slot_list_pop PySem.F.type_list_pop mt_pop (pv 1))))
      (pss_one (ps_ret (pv 2))))))))
      (pss_cons (ps_if (pt_cmpR op_gt (pe_callB (id := "len") callLen (by rfl) T.b_len (by decide +kernel) (pa_cons (pv 1) pa_nil)) pe_int (nomark _))
      (pss_one (ps_ret (pe_callB (id := "len") callLen (by rfl) T.b_len (by decide +kernel) (pa_cons (pv 0) pa_nil))))
      pss_nil)
      (pss_one (ps_ret pe_non))))), ?_⟩
  try dsimp only [cxOf, Cx.nox, Cx.wish]
  obtain ⟨hl, ⟨z, rfl, hz⟩, k⟩ := h
  have O := NF.Own.refl0 H
  walk_at "gn"
  refine NF.x_newL O (by decide +kernel) fun p H1 hp O => ?_
  walk_at "nO"
  have fin : ∀ o H' R, flt (tl z) 0 [] = o → Own H H' [] [(p, R)] → Q (fv o) H' := fun o H' R e O' => k _ _ (O'.drop fun x hx => by rw [List.mem_singleton.mp hx]; exact hp) ⟨z, rfl, by rw [e]⟩
  walk_at "go"
  refine NF.f_rng1 (by omega) (fun i σ H' => ∃ (u2 : Option V) (st : List Nat), σ = [some (.str z), some (.ref p), u2] ∧ Own H H' [] [(p, .lst ((st.map (· - 32)).reverse.map ch))] ∧ run ((tl z).take i) [] = some st ∧ st.length ≤ i ∧ i ≤ z.length) ⟨_, [], rfl, O, rfl, by decide, Nat.zero_le _⟩ ?_ ?_
  · rintro i _ H2 hi ⟨u2, st, rfl, O, hr, hst, hi2⟩
    have hi3 : i < (tl z).length := by rw [← len_tl]; omega
    obtain ⟨c, hc⟩ : ∃ c, (tl z)[i]? = some c := ⟨_, List.getElem?_eq_getElem hi3⟩
    have hat := L2.atI_nat hc
    walk_at "go"
    refine NF.x_ite (fun h0 => ?_) (fun h0 => ?_)
    · rw [tl_names, mem_lo] at h0
      walk_at "go"
      rw [upper_lo h0] at O
      refine ⟨_, c :: st, rfl, ?_, run_lo1 hr hc h0, by rw [List.length_cons]; omega, by omega⟩
      rw [List.map_cons, rev_ch]
      exact O
    · rw [tl_names, mem_lo] at h0
      have ret : ∀ H', (∀ t ts, st = t :: ts → c + 32 ≠ t) → Own H H' [] [(p, .lst ((st.map (· - 32)).reverse.map ch))] → Q (.int (i : Int)) H' := fun H' h2 O' => fin (some i) H' _ (flt_stop hr hc h0 h2) O'
      walk_at "go"
      refine NF.x_ite (fun h1 => ?_) (fun h1 => ?_)
      · cases st with
        | nil => simp at h1
        | cons t ts =>
          have ht := run_lo hr (fun _ h => absurd h List.not_mem_nil) t (List.mem_cons_self ..)
          rw [List.map_cons, rev_ch] at O
          walk_at "go"
          refine' NF.x_ixL ?h (L2.atI_last _ _) ?_
          (case h => walk_at "own")
          walk_at "go"
          refine NF.x_iteS (fun h3 => ?_) (fun h3 => ?_)
          · have e : t - 32 = c := by simpa using h3
            have e2 : t = c + 32 := by omega
            subst e2
            walk_at "go"
            refine NF.x_pop O 0 rfl (v := ch (c + 32 - 32)) (by simp) fun H4 O => ?_
            rw [List.dropLast_concat] at O
            exact ⟨_, ts, rfl, O, run_up1 hr hc h0, by simp only [List.length_cons] at hst; omega, by omega⟩
          · walk_at "go"
            refine ret _ (fun t' ts' e => ?_) (by rw [List.map_cons, rev_ch]; exact O)
            cases e
            exact fun q => h3 (by rw [show t - 32 = c by omega])
      · walk_at "go"
        refine ret _ (fun t' ts' e q => ?_) O
        subst e
        simp at h1
  · rintro _ H2 ⟨u2, st, rfl, O, hr, hst, hi⟩
    have e0 : ((z.length : Int)).toNat = (tl z).length := by rw [len_tl]; omega
    rw [e0] at hr
    have hr := flt_end hr
    walk_at "go"
    refine NF.x_ite (fun h2 => ?_) (fun h2 => ?_)
    · walk_at "go"
      have e : st ≠ [] := by intro e; subst e; simp at h2
      rw [if_neg e] at hr
      have := fin _ _ _ hr O
      rw [len_tl]
      exact this
    · walk_at "go"
      have e : st = [] := by
        cases st with
        | nil => rfl
        | cons t ts => simp at h2
      rw [if_pos e] at hr
      exact fin _ _ _ hr O


/-- one field -/
abbrev fI (x : Str) (i : Int) : List (Str × V) := [(x, .int i)]
/-- what is wrong with a text, as an exception -/
def excT (z x : Str) (fs : List (Str × V)) : Prop := (x = "TooLong" ∧ fs = fI "limit" 2000 ∧ 2000 < z.length) ∨ (x = "NotNested" ∧ z.length ≤ 2000 ∧ ∃ j : Nat, flt (tl z) 0 [] = some j ∧ fs = fI "index" j)
def okT (z : Str) : Prop := z.length ≤ 2000 ∧ flt (tl z) 0 [] = none
abbrev spChecked (mg : Str → Option Value) : Sp := spPX mg 2 (fun vs => ∃ z, vs = [.str z, .int 2000] ∧ z.length ≤ 10000000) (fun vs v => ∃ z, vs = [.str z, .int 2000] ∧ v = .non ∧ okT z) (fun vs x fs => ∃ z, vs = [.str z, .int 2000] ∧ excT z x fs)
abbrev NM_checked : List Str := ["text", "limit", "index"]
theorem sc_checked : FnScope NM_checked ["text", "limit"] (defScope s_checked) := ⟨rfl, rfl, rfl, by decide +kernel, rfl, by decide +kernel, by decide +kernel⟩
theorem d_checked (F : FnD K mg "checked" s_checked [.int 2000]) (T : Txt P K mg) (D_fault : Def P w K mg base 1 "fault" ["text"] spFault) :
    DefX P w K mg base 3 "checked" ["text", "limit"] [.int 2000] (spChecked mg) := by
  refine DefX.mkD F (by decide) 1 rfl sc_checked (by first | exact NF.hl_spB | exact NF.hl_spP | exact NF.hl_spNew | exact NF.hl_spPX | exact NF.hl_spN | exact NF.hl_spNX | exact hl_spChecked) (fun _ _ _ _ _ _ _ us its hl hi => match us, hl, its, hi with | [_], _, [_], _ => ⟨_, rfl, rfl⟩) (fun cdv A outer s H vs Q E hr h tk po => ?_)
  refine ⟨_, (pss_cons (ps_if (pt_cmpR op_gt (pe_callB (id := "len") callLen (by rfl) T.b_len (by decide +kernel) (pa_cons (pv 0) pa_nil)) (pe_g rfl T.g_TEXT_LIMIT) (nomark _))
      (pss_one (L2N.ps_raise rfl tk (pmk_x T.x_TooLong (hr.mono (by decide)) (by rfl) (pe_g rfl T.g_TEXT_LIMIT))))
      pss_nil)
      (pss_cons (ps_set (i := 2) sc_checked.nd rfl (Or.inl rfl) (pe_d D_fault (hr.mono (by decide)) rfl (pa_cons (pv 0) pa_nil)))
      (pss_cons (ps_if (pt_cmpR opNotN (pv 2) pe_non (nomark _))
      (pss_one (L2N.ps_raise rfl tk (pmk_x T.x_NotNested (hr.mono (by decide)) (by rfl) (pv 2))))
      pss_nil)
      (pss_one (ps_if (pt_cmpR op_gt (pe_callB (id := "len") callLen (by rfl) T.b_len (by decide +kernel) (pa_cons (pv 0) pa_nil)) (pv 1) (nomark _))
      (pss_one (L2N.ps_raise rfl tk (pmk_x T.x_TooLong (hr.mono (by decide)) (by rfl) (pv 1))))
      pss_nil))))), ?_⟩
  try dsimp only [cxOf, Cx.nox, Cx.wish]
  obtain ⟨hl, ⟨z, rfl, hz⟩, k, e⟩ := h
  have O := NF.Own.refl0 H
  walk_at "go"
  refine NF.x_ite (fun h0 => ?_) (fun h0 => ?_)
  · walk_at "go"
    exact fun d hd => e _ _ d _ (O.ignore hd) ⟨z, rfl, Or.inl ⟨rfl, rfl, by omega⟩⟩ hd upd_same
  · walk_at "go"
    refine NF.use_spP (E := E0) O rfl ⟨z, rfl, hz⟩ fun v H1 O ⟨z2, ez, ev⟩ => ?_
    cases ez
    subst ev
    generalize hf : flt (tl z) 0 [] = o
    cases o with
    | some j =>
      unfold fv
      walk_at "go"
      exact fun d hd => e _ _ d _ (O.ignore hd) ⟨z, rfl, Or.inr ⟨rfl, by omega, j, hf, rfl⟩⟩ (O.base_free hd) upd_same
    | none =>
      unfold fv
      walk_at "go"
      refine NF.x_ite (fun h1 => ?_) (fun h1 => ?_)
      · omega
      · walk_at "go"
        exact k _ _ O ⟨z, rfl, rfl, by omega, hf⟩


abbrev nV (n : Nat) : V := .int n
theorem x_rep {B H : Hp} {M R : List (Addr × HO)} {a : Addr} {xs : List V} {k : Int} {Q : VK} (O : Own B H M R) (ha : H a = some (.lst xs)) (h1 : -(2 ^ 63) ≤ k) (h2 : k < 2 ^ 63) (hz : xs.length * k.toNat ≤ sizeLine)
    (q : ∀ p H1, B p = none → Own B H1 M (R ++ [(p, .lst (List.replicate k.toNat xs).flatten)]) → Q (.ref p) H1) : rRep (.ref a) (.int k) H Q := ⟨a, k, xs, rfl, rfl, ha, h1, h2, hz, fun p hp => q p _ (O.base_free hp) (O.new hp)⟩
theorem rep_one (v : V) (n : Nat) : (List.replicate n [v]).flatten = List.replicate n v := by
  induction n with
  | zero => rfl
  | succ n ih => rw [List.replicate_succ, List.flatten_cons, ih]; rfl
theorem rev_nV (a : Nat) (ps : List Nat) : ((a :: ps).reverse.map nV) = ps.reverse.map nV ++ [nV a] := by rw [List.reverse_cons, List.map_append]; rfl
theorem ixN_nat {n k : Nat} (h : k < n) : ixN n (k : Int) = some k := by
  unfold ixN
  simp [h]
def spPartners : Sp := spNew 1 (fun vs => ∃ z, vs = [.str z] ∧ z.length ≤ 2000 ∧ run (tl z) [] = some []) (fun vs o => ∃ (z : Str) (F : List Nat), vs = [.str z] ∧ o = .lst (F.map nV) ∧ F.length = z.length ∧ ∀ a c, (tl z)[a]? = some c → low c → F[a]? = some (pt (tl z) a))
abbrev NM_partners : List Str := ["text", "found", "starts", "at", "letter", "start"]
theorem sc_partners : FnScope NM_partners ["text"] (defScope s_partners) := ⟨rfl, rfl, rfl, by decide +kernel, rfl, by decide +kernel, by decide +kernel⟩
theorem d_partners (F : Fn0 K mg "partners" s_partners) (T : Txt P K mg)  :
    Def P w K mg base 1 "partners" ["text"] spPartners := by
  refine Def.mk0 F sc_partners (by first | exact NF.hl_spB | exact NF.hl_spP | exact NF.hl_spNew | exact NF.hl_spPX | exact NF.hl_spN | exact NF.hl_spNX | exact hl_spPartners) (fun _ _ _ _ _ _ us hl => match us, hl with | [_], _ => rfl) (fun cdv A outer s H vs Q E hr h => ?_)
  refine ⟨_, (pss_cons (ps_set (i := 1) sc_partners.nd rfl (Or.inl rfl) (pe_op op_rep (pe_lst (pa_cons pe_int pa_nil)) (pe_callB (id := "len") callLen (by rfl) T.b_len (by decide +kernel) (pa_cons (pv 0) pa_nil))))
      (pss_cons (ps_set (i := 2) sc_partners.nd rfl (Or.inl rfl) (pe_lst pa_nil))
      (pss_cons (ps_for PassesOwn.never rfl (pi_enumS (by rfl) T.b_enumerate (pa_cons (pv 0) pa_nil)) (pg_tup (by rfl) (pgs_cons (pg_name (i := 3) sc_partners.nd rfl (Or.inl rfl)) (pgs_cons (pg_name (i := 4) sc_partners.nd rfl (Or.inl rfl)) pgs_nil)))
      (pss_one (ps_if (pt_cmpR opInC (pv 4) (pe_g rfl T.g_NAMES) (by rfl))
      (pss_one (ps_expr (pe_bm PySem.F.plainAttrs_list PySem.F.slot_list_append PySem.F.type_list_append mt_append (pv 2) (pa_cons (pv 3) pa_nil))))
      (pss_cons (ps_set (i := 5) sc_partners.nd rfl (Or.inl rfl) (pe_bm0 PySem.F.plainAttrs_list PySem.F.slot_list_pop PySem.F.type_list_pop mt_pop (pv 2)))
      (pss_cons (ps_asg (pv 3) (pg_sub (pv 1) (pv 5) set_list))
      (pss_one (ps_asg (pv 5) (pg_sub (pv 1) (pv 3) set_list))))))))
      (pss_one (ps_ret (pv 1)))))), ?_⟩
  try dsimp only [cxOf, Cx.nox, Cx.wish]
  obtain ⟨hl, ⟨z, rfl, hz, hr⟩, k⟩ := h
  have O := NF.Own.refl0 H
  walk_at "gn"
  refine NF.x_newL O (by decide +kernel) fun p0 H1 hp0 O => ?_
  walk_at "nO"
  walk_at "gw"
  refine NF.x_rep O (O.get 0 rfl) (by omega) (by omega) (by rw [sizeLine_eq]; simp; omega) fun pf H1 hpf O => ?_
  walk_at "nO"
  rw [rep_one] at O
  walk_at "gw"
  refine NF.x_newL O (by decide +kernel) fun ps H1 hps O => ?_
  walk_at "nO"
  walk_at "gw"
  refine NF.f_enumS (fun i σ H' => ∃ (u3 u4 u5 : Option V) (F st : List Nat), σ = [some (.str z), some (.ref pf), some (.ref ps), u3, u4, u5] ∧ Own H H' [] [(p0, .lst [.int 0]), (pf, .lst (F.map nV)), (ps, .lst (st.reverse.map nV))] ∧
    Stk (tl z) i st ∧ F.length = z.length ∧ (∀ a c, (tl z)[a]? = some c → low c → pt (tl z) a < i → F[a]? = some (pt (tl z) a)) ∧ i ≤ z.length) ⟨_, _, _, List.replicate z.length 0, [], rfl, ?_, Stk.zero _, by simp, fun a c _ _ h => absurd h (Nat.not_lt_zero _), Nat.zero_le _⟩ ?_ ?_
  · rw [List.map_replicate]
    exact O
  · rintro i c _ H2 H3 hc ⟨u3, u4, u5, F, st, rfl, O, S, hF, hP, hi⟩ hO
    have O := hO _ _ _ O
    have hc := tl_at hc
    have hi : i < z.length := by rw [len_tl]; exact (List.getElem?_eq_some_iff.mp hc).1
    have hst := S.len
    walk_at "go"
    refine NF.x_ite (fun h0 => ?_) (fun h0 => ?_)
    · rw [tl_names, mem_lo] at h0
      walk_at "go"
      refine ⟨_, _, _, F, i :: st, rfl, by rw [rev_nV]; exact O, S.push hc h0, hF, fun a d hd hlo hpt => ?_, by omega⟩
      by_cases e : pt (tl z) a = i
      · have hlt : a < i := by unfold pt at e; omega
        rcases S.all a d hlt hd hlo with q | q
        · obtain ⟨j, hj⟩ := List.getElem?_of_mem q
          have h2 := (S.dep j a hj).2.1
          rw [drop_at hc, cl_low h0] at h2
          omega
        · omega
      · exact hP a d hd hlo (by omega)
    · rw [tl_names, mem_lo] at h0
      obtain ⟨a, st', rfl, S', ea, ha, _⟩ := S.pop hr hc h0
      rw [rev_nV] at O
      walk_at "go"
      refine NF.x_pop O 2 rfl (v := nV a) (by simp) fun H4 O => ?_
      walk_at "nO"
      rw [List.dropLast_concat] at O
      walk_at "go"
      refine NF.x_setL O 1 rfl (n := a) (by rw [List.length_map]; exact ixN_nat (by omega)) fun H5 O => ?_
      walk_at "nO"
      walk_at "go"
      refine NF.x_setL O 1 rfl (n := i) (by rw [List.length_set, List.length_map]; exact ixN_nat (by omega)) fun H6 O => ?_
      walk_at "nO"
      walk_at "go"
      refine ⟨_, _, _, (F.set a i).set i a, st', rfl, ?_, S', by simp [hF], fun b d hd hlo hpt => ?_, by omega⟩
      · rw [List.map_set, List.map_set]
        exact O
      · have hb : b < i := by unfold pt at hpt; omega
        by_cases e : b = a
        · subst e
          rw [List.getElem?_set_ne (by omega), List.getElem?_set_self (by omega), ea]
        · have hq : pt (tl z) b < i := by
            rcases S.all b d hb hd hlo with q | q
            · rcases List.mem_cons.mp q with q | q
              · exact absurd q e
              · obtain ⟨j, hj⟩ := List.getElem?_of_mem q
                have h2 := (S'.dep j b hj).2.1
                omega
            · exact q
          rw [List.getElem?_set_ne (by omega), List.getElem?_set_ne (fun q => e q.symm)]
          exact hP b d hd hlo hq
  · rintro _ H2 ⟨u3, u4, u5, F, st, rfl, O, S, hF, hP, hi⟩
    have e0 : z.cps.size = (tl z).length := by simp
    rw [e0] at S hP
    walk_at "go"
    have es := S.done hr (Nat.le_refl _)
    subst es
    refine k pf _ _ hpf ?_ ⟨z, F, rfl, rfl, hF, fun a c hc hlo => hP a c hc hlo ?_⟩
    · have O := (O.perm (R' := [(p0, .lst [.int 0]), (ps, .lst []), (pf, .lst (F.map nV))]) (List.Perm.cons _ (List.Perm.swap _ _ _)))
      exact Own.dropTo (R := [(p0, .lst [.int 0]), (ps, .lst [])]) O (fun x hx => by
        simp only [List.mem_cons, List.not_mem_nil, or_false] at hx
        rcases hx with rfl | rfl
        · exact hp0
        · exact hps)
    · rcases S.all a c (List.getElem?_eq_some_iff.mp hc).1 hc hlo with q | q
      · exact absurd q List.not_mem_nil
      · exact q


/-- the open places behind i letters -/
def stk (l : List Nat) : Nat → List Nat
  | 0 => []
  | i + 1 => match l[i]? with
    | some c => if low c then i :: stk l i else (stk l i).tail
    | none => stk l i
theorem stk_low {l : List Nat} {i c : Nat} (hc : l[i]? = some c) (h : low c) : stk l (i + 1) = i :: stk l i := by
  show (match l[i]? with | some c => if low c then i :: stk l i else (stk l i).tail | none => stk l i) = _
  rw [hc]
  exact if_pos h
theorem stk_up {l : List Nat} {i c : Nat} (hc : l[i]? = some c) (h : ¬ low c) : stk l (i + 1) = (stk l i).tail := by
  show (match l[i]? with | some c => if low c then i :: stk l i else (stk l i).tail | none => stk l i) = _
  rw [hc]
  exact if_neg h
theorem stk_ok {l : List Nat} (hr : run l [] = some []) : ∀ {i : Nat}, i ≤ l.length → Stk l i (stk l i)
  | 0, _ => Stk.zero l
  | i + 1, h => by
    have S := stk_ok hr (i := i) (by omega)
    obtain ⟨c, hc⟩ : ∃ c, l[i]? = some c := ⟨_, List.getElem?_eq_getElem (by omega)⟩
    by_cases hl : low c
    · rw [stk_low hc hl]
      exact S.push hc hl
    · rw [stk_up hc hl]
      obtain ⟨a, ps, e, S', _⟩ := S.pop hr hc hl
      rw [e]
      exact S'
def lowAt (l : List Nat) (i : Nat) : Bool := match l[i]? with
  | some c => decide (low c)
  | none => false
theorem lowAt_of {l : List Nat} {i c : Nat} (hc : l[i]? = some c) : lowAt l i = decide (low c) := by
  unfold lowAt
  rw [hc]
/-- the starts of nodes among the first n places -/
def ixs (l : List Nat) (n : Nat) : List Nat := (List.range n).filter (lowAt l)
theorem ixs_succ (l : List Nat) (n : Nat) : ixs l (n + 1) = ixs l n ++ if lowAt l n then [n] else [] := by
  unfold ixs
  rw [List.range_succ, List.filter_append]
  cases h : lowAt l n <;> simp [h]
theorem ixs_len (l : List Nat) (n : Nat) : (ixs l n).length ≤ n := by
  have h := List.length_filter_le (lowAt l) (List.range n)
  rw [List.length_range] at h
  exact h
abbrev par (l : List Nat) (i : Nat) : Option Nat := (stk l i).head?
/-- a node's row -/
def rowV (l : List Nat) (i : Nat) : List V := [nV i, nV (pt l i), ch (l.getD i 0), nV (stk l i).length, fv (par l i)]
def tups (l : List Nat) (n : Nat) : List HO := (ixs l n).map fun i => HO.tup (rowV l i)
/-- a list of rows: the list object, its tuples -/
def Rws (l : List Nat) (p : Addr) (N : List (Addr × HO)) : Prop := ∃ ts : List Addr, ts.length = (ixs l l.length).length ∧ N = (p, .lst (ts.map V.ref)) :: ts.zip (tups l l.length)
/-- plain values in; a value out, and new objects -/
def spN (n : Nat) (pre : List V → Prop) (post : List V → V → List (Addr × HO) → Prop) : Sp := fun vs H Q _ => vs.length = n ∧ pre vs ∧ ∀ v H' N, (∀ x ∈ N, H x.1 = none) → Own H H' [] N → post vs v N → Q v H'
theorem hl_spN {n : Nat} {pre : List V → Prop} {post : List V → V → List (Addr × HO) → Prop} : ∀ vs H Q E, spN n pre post vs H Q E → vs.length = n := fun vs H Q E h => h.1
theorem use_spN {B H : Hp} {M R : List (Addr × HO)} {n : Nat} {pre : List V → Prop} {post : List V → V → List (Addr × HO) → Prop} {vs : List V} {Q : VK} {E : XK} (O : Own B H M R) (hl : vs.length = n) (hp : pre vs)
    (q : ∀ v H' N, (∀ x ∈ N, B x.1 = none) → Own B H' M (R ++ N) → post vs v N → Q v H') : spN n pre post vs H Q E :=
  ⟨hl, hp, fun v H' N hn O' h => q v H' N (fun x hx => O.base_free (hn x hx)) (O.callN O' hn) h⟩
def spNX (mg : Str → Option Value) (n : Nat) (pre : List V → Prop) (post : List V → V → List (Addr × HO) → Prop) (exc : ExS) : Sp := fun vs H Q E => vs.length = n ∧ pre vs ∧ (∀ v H' N, (∀ x ∈ N, H x.1 = none) → Own H H' [] N → post vs v N → Q v H') ∧
  ∀ x fs d H', Own H H' [] [] → exc vs x fs → H d = none → H' d = some (.xd fs) → E (.ref (cad mg x)) (some d) H'
theorem hl_spNX {mg : Str → Option Value} {n : Nat} {pre : List V → Prop} {post : List V → V → List (Addr × HO) → Prop} {exc : ExS} : ∀ vs H Q E, spNX mg n pre post exc vs H Q E → vs.length = n := fun vs H Q E h => h.1
theorem use_spNX {mg : Str → Option Value} {B H : Hp} {M R : List (Addr × HO)} {n : Nat} {pre : List V → Prop} {post : List V → V → List (Addr × HO) → Prop} {exc : ExS} {vs : List V} {Q : VK} {E : XK} (O : Own B H M R) (hl : vs.length = n) (hp : pre vs)
    (q : ∀ v H' N, (∀ x ∈ N, B x.1 = none) → Own B H' M (R ++ N) → post vs v N → Q v H') (e : ∀ x fs d H', Own B H' M R → exc vs x fs → B d = none → H' d = some (.xd fs) → E (.ref (cad mg x)) (some d) H') : spNX mg n pre post exc vs H Q E :=
  ⟨hl, hp, fun v H' N hn O' h => q v H' N (fun x hx => O.base_free (hn x hx)) (O.callN O' hn) h, fun x fs d H' O' h h1 h2 => e x fs d H' (O.call0 O') h (O.base_free h1) h2⟩
theorem Own.mem {B H : Hp} {M R : List (Addr × HO)} {x : Addr × HO} (O : Own B H M R) (h : x ∈ R) : H x.1 = some x.2 := O.at_ x (List.mem_append_right _ h)
/-- is it the start of a node? -/
def isN (l : List Nat) (s : Int) : Bool := decide (0 ≤ s) && lowAt l s.toNat
def spStarts : Sp := spP 2 (fun vs => ∃ (z : Str) (s : Int), vs = [.str z, .int s] ∧ z.length ≤ 10000000) (fun vs v => ∃ (z : Str) (s : Int), vs = [.str z, .int s] ∧ v = .bl (isN (tl z) s))
abbrev NM_starts_node : List Str := ["text", "start"]
theorem sc_starts_node : FnScope NM_starts_node ["text", "start"] (defScope s_starts_node) := ⟨rfl, rfl, rfl, by decide +kernel, rfl, by decide +kernel, by decide +kernel⟩
theorem d_starts_node (F : Fn0 K mg "starts_node" s_starts_node) (T : Txt P K mg)  :
    Def P w K mg base 1 "starts_node" ["text", "start"] spStarts := by
  refine Def.mk0 F sc_starts_node (by first | exact NF.hl_spB | exact NF.hl_spP | exact NF.hl_spNew | exact NF.hl_spPX | exact NF.hl_spN | exact NF.hl_spNX | exact hl_spStarts) (fun _ _ _ _ _ _ us hl => match us, hl with | [_, _], _ => rfl) (fun cdv A outer s H vs Q E hr h => ?_)
  refine ⟨_, (pss_cons (ps_if (PW.pt (pw_or (pt_not (pt_val (pe_callB callIsT (by rfl) T.b_isinstance (by decide +kernel) (pa_cons (pv 1) (pa_cons (pe_ty (n := "int") (by rfl) T.b_int (by decide +kernel)) pa_nil))))) (pw_or1 (pt_val (pe_callB callIsT (by rfl) T.b_isinstance (by decide +kernel) (pa_cons (pv 1) (pa_cons (pe_ty (n := "bool") (by rfl) T.b_bool (by decide +kernel)) pa_nil)))))))
      (pss_one (ps_ret pe_bl))
      pss_nil)
      (pss_one (ps_ret (pe_and (pe_chain op_le op_lt pe_int (pv 1) (pe_callB (id := "len") callLen (by rfl) T.b_len (by decide +kernel) (pa_cons (pv 0) pa_nil))) (pe_one (pe_cmpR opInC (pe_ix ix_str (pv 0) (pv 1) (fun _ _ => rfl)) (pe_g rfl T.g_NAMES) (by rfl))))))), ?_⟩
  try dsimp only [cxOf, Cx.nox, Cx.wish]
  obtain ⟨hl, ⟨z, s, rfl, hz⟩, k⟩ := h
  have O := NF.Own.refl0 H
  walk_at "go"
  refine NF.x_ite (fun h0 => ?_) (fun h0 => ?_)
  · walk_at "go"
    refine NF.x_ite (fun h1 => ?_) (fun h1 => ?_)
    · walk_at "go"
      refine NF.x_ixSo h0 (by exact h1) (by rw [sizeLine_eq]; omega) fun c _ hc _ => ?_
      walk_at "go"
      refine k _ _ O ⟨z, s, rfl, ?_⟩
      rw [tl_names]
      unfold isN
      rw [lowAt_of hc, decide_eq_true h0, Bool.true_and]
      exact congrArg V.bl (decide_eq_decide.mpr mem_lo)
    · walk_at "go"
      refine k _ _ O ⟨z, s, rfl, ?_⟩
      unfold isN lowAt
      rw [List.getElem?_eq_none (by rw [← len_tl]; omega)]
      simp
  · walk_at "go"
    refine k _ _ O ⟨z, s, rfl, ?_⟩
    unfold isN
    rw [decide_eq_false h0]
    rfl

def spRows : Sp := spN 1 (fun vs => ∃ z, vs = [.str z] ∧ z.length ≤ 2000 ∧ run (tl z) [] = some []) (fun vs v N => ∃ z p, vs = [.str z] ∧ v = .ref p ∧ Rws (tl z) p N)
abbrev NM_node_rows : List Str := ["text", "ends", "rows", "open_starts", "at", "letter", "parent"]
theorem sc_node_rows : FnScope NM_node_rows ["text"] (defScope s_node_rows) := ⟨rfl, rfl, rfl, by decide +kernel, rfl, by decide +kernel, by decide +kernel⟩
theorem d_node_rows (F : Fn0 K mg "node_rows" s_node_rows) (T : Txt P K mg) (D_partners : Def P w K mg base 1 "partners" ["text"] spPartners) :
    Def P w K mg base 2 "node_rows" ["text"] spRows := by
  refine Def.mk0 F sc_node_rows (by first | exact NF.hl_spB | exact NF.hl_spP | exact NF.hl_spNew | exact NF.hl_spPX | exact NF.hl_spN | exact NF.hl_spNX | exact hl_spRows) (fun _ _ _ _ _ _ us hl => match us, hl with | [_], _ => rfl) (fun cdv A outer s H vs Q E hr h => ?_)
  refine ⟨_, (pss_cons (ps_set (i := 1) sc_node_rows.nd rfl (Or.inl rfl) (pe_d D_partners (hr.mono (by decide)) rfl (pa_cons (pv 0) pa_nil)))
      (pss_cons (ps_set (i := 2) sc_node_rows.nd rfl (Or.inl rfl) (pe_lst pa_nil))
      (pss_cons (ps_set (i := 3) sc_node_rows.nd rfl (Or.inl rfl) (pe_lst pa_nil))
      (pss_cons (ps_for PassesOwn.never rfl (pi_enumS (by rfl) T.b_enumerate (pa_cons (pv 0) pa_nil)) (pg_tup (by rfl) (pgs_cons (pg_name (i := 4) sc_node_rows.nd rfl (Or.inl rfl)) (pgs_cons (pg_name (i := 5) sc_node_rows.nd rfl (Or.inl rfl)) pgs_nil)))
      (pss_one (ps_if (pt_cmpR opInC (pv 5) (pe_g rfl T.g_NAMES) (by rfl))
      (pss_cons (ps_set (i := 6) sc_node_rows.nd rfl (Or.inl rfl) (pe_ifExp (ptTruth (pv 3) (by intro _; rfl)) (pe_ix ix_list (pv 3) (pe_un un_neg pe_int) (fun _ _ => rfl)) pe_non))
      (pss_cons (ps_expr (pe_bm PySem.F.plainAttrs_list PySem.F.slot_list_append PySem.F.type_list_append mt_append (pv 2) (pa_cons (pe_tup (pa_cons (pv 4) (pa_cons (pe_ix ix_list (pv 1) (pv 4) (fun _ _ => rfl)) (pa_cons (pv 5) (pa_cons (pe_callB (id := "len") callLen (by rfl) T.b_len (by decide +kernel) (pa_cons (pv 3) pa_nil)) (pa_cons (pv 6) pa_nil)))))) pa_nil)))
      (pss_one (ps_expr (pe_bm PySem.F.plainAttrs_list PySem.F.slot_list_append PySem.F.type_list_append mt_append (pv 3) (pa_cons (pv 4) pa_nil))))))
      (pss_one (ps_expr (pe_bm0 PySem.F.plainAttrs_list PySem.F.slot_list_pop PySem.F.type_list_pop mt_pop (pv 3)))))))
      (pss_one (ps_ret (pv 2))))))), ?_⟩
  try dsimp only [cxOf, Cx.nox, Cx.wish]
  obtain ⟨hl, ⟨z, rfl, hz, hr⟩, k⟩ := h
  have O := NF.Own.refl0 H
  walk_at "go"
  refine NF.use_spNew (E := E0) O rfl ⟨z, rfl, hz, hr⟩ fun pe H1 o hpe O ⟨z2, F, ez, eo, hF, hP⟩ => ?_
  cases ez
  subst eo
  walk_at "nO"
  walk_at "gw"
  refine NF.x_newL O (by decide +kernel) fun pr H1 hpr O => ?_
  walk_at "nO"
  walk_at "gw"
  refine NF.x_newL O (by decide +kernel) fun po H1 hpo O => ?_
  walk_at "nO"
  walk_at "gw"
  refine NF.f_enumS (fun i σ H' => ∃ (u4 u5 u6 : Option V) (ts : List Addr), σ = [some (.str z), some (.ref pe), some (.ref pr), some (.ref po), u4, u5, u6] ∧
    Own H H' [] ((pe, .lst (F.map nV)) :: (pr, .lst (ts.map V.ref)) :: (po, .lst ((stk (tl z) i).reverse.map nV)) :: ts.zip (tups (tl z) i)) ∧ ts.length = (ixs (tl z) i).length ∧ (∀ t ∈ ts, H t = none) ∧ i ≤ z.length) ⟨_, _, _, [], rfl, O, rfl, fun t h => absurd h List.not_mem_nil, Nat.zero_le _⟩ ?_ ?_
  · rintro i c _ H2 H3 hc ⟨u4, u5, u6, ts, rfl, O, hts, hfr, hi⟩ hO
    have O := hO _ _ _ O
    have hc := tl_at hc
    have hi : i < z.length := by rw [len_tl]; exact (List.getElem?_eq_some_iff.mp hc).1
    have hlen : i < (tl z).length := by rw [← len_tl]; exact hi
    have S := stk_ok hr (Nat.le_of_lt hlen)
    have hst := S.len
    have hix := ixs_len (tl z) i
    walk_at "go"
    refine NF.x_ite (fun h0 => ?_) (fun h0 => ?_)
    · rw [tl_names, mem_lo] at h0
      have hPi := hP i c hc h0
      have hPj : (F.map nV)[i]? = some (nV (pt (tl z) i)) := by rw [List.getElem?_map, hPi]; rfl
      have ei : ixs (tl z) (i + 1) = ixs (tl z) i ++ [i] := by rw [ixs_succ, lowAt_of hc, decide_eq_true h0]; rfl
      have fin : ∀ (t : Addr) (H' : Hp) (x : V), H t = none → x = fv (par (tl z) i) → Own H H' [] ((pe, .lst (F.map nV)) :: (pr, .lst (ts.map V.ref ++ [.ref t])) :: (po, .lst ((stk (tl z) i).reverse.map nV ++ [nV i])) :: (ts.zip (tups (tl z) i) ++ [(t, .tup [nV i, nV (pt (tl z) i), ch c, nV (stk (tl z) i).length, x])])) →
          ∃ ts' : List Addr, Own H H' [] ((pe, .lst (F.map nV)) :: (pr, .lst (ts'.map V.ref)) :: (po, .lst ((stk (tl z) (i + 1)).reverse.map nV)) :: ts'.zip (tups (tl z) (i + 1))) ∧ ts'.length = (ixs (tl z) (i + 1)).length ∧ (∀ t ∈ ts', H t = none) ∧ i + 1 ≤ z.length := fun t H' x ht ex O => by
        refine ⟨ts ++ [t], ?_, by rw [ei, List.length_append, List.length_append, hts]; rfl, fun u hu => ?_, by omega⟩
        · unfold tups at O ⊢
          rw [stk_low hc h0, rev_nV, ei, List.map_append, List.map_append, List.zip_append (by rw [hts, List.length_map])]
          rw [ex, ← getD_at hc] at O
          exact O
        · rcases List.mem_append.mp hu with hu | hu
          · exact hfr u hu
          · rw [List.mem_singleton.mp hu]; exact ht
      cases hs : stk (tl z) i with
      | nil =>
        rw [hs] at O
        walk_at "gw"
        refine NF.x_itb (fun h2 => by simp at h2) (fun h2 => ?_)
        walk_at "gw"
        refine NF.x_newT O (by simp only [List.length_cons, List.length_nil, sizeLine_eq]; omega) fun t H4 ht O => ?_
        walk_at "nO"
        walk_at "gw"
        obtain ⟨ts2, O2, q1, q2, q3⟩ := fin t _ .non ht (by rw [par, hs]; rfl) (by rw [hs]; exact O)
        exact ⟨_, _, _, ts2, rfl, O2, q1, q2, q3⟩
      | cons a ps =>
        rw [hs, rev_nV] at O
        have hst2 : ps.length + 1 ≤ i := by rw [hs] at hst; exact hst
        walk_at "gw"
        refine NF.x_itb (fun h2 => ?_) (fun h2 => by simp at h2)
        walk_at "gw"
        refine' NF.x_ixL ?h (L2.atI_last _ _) ?_
        (case h => walk_at "own")
        walk_at "gw"
        refine NF.x_newT O (by simp only [List.length_cons, List.length_nil, sizeLine_eq]; omega) fun t H4 ht O => ?_
        walk_at "nO"
        walk_at "gw"
        have el : (ps.reverse.map nV ++ [nV a]).length = (a :: ps).length := by simp
        rw [el] at O
        obtain ⟨ts2, O2, q1, q2, q3⟩ := fin t _ (nV a) ht (by rw [par, hs]; rfl) (by rw [hs, rev_nV]; exact O)
        exact ⟨_, _, _, ts2, rfl, O2, q1, q2, q3⟩
    · rw [tl_names, mem_lo] at h0
      obtain ⟨a, st', e, S', ea, ha, _⟩ := S.pop hr hc h0
      rw [e, rev_nV] at O
      walk_at "go"
      refine NF.x_pop O 2 rfl (v := nV a) (by simp) fun H4 O => ?_
      walk_at "nO"
      rw [List.dropLast_concat] at O
      walk_at "go"
      have ei : ixs (tl z) (i + 1) = ixs (tl z) i := by rw [ixs_succ, lowAt_of hc, decide_eq_false h0]; simp
      refine ⟨_, _, _, ts, rfl, ?_, by rw [ei]; exact hts, hfr, by omega⟩
      unfold tups
      rw [stk_up hc h0, e, ei]
      exact O
  · rintro _ H2 ⟨u4, u5, u6, ts, rfl, O, hts, hfr, hi⟩
    have e0 : z.cps.size = (tl z).length := by simp
    rw [e0] at O hts
    walk_at "go"
    have es := (stk_ok hr (Nat.le_refl _)).done hr (Nat.le_refl _)
    rw [es] at O
    refine k _ _ ((pr, .lst (ts.map V.ref)) :: ts.zip (tups (tl z) (tl z).length)) (fun x hx => ?_) ?_ ⟨z, pr, rfl, rfl, ts, hts, rfl⟩
    · rcases List.mem_cons.mp hx with rfl | hx
      · exact hpr
      · exact hfr _ (List.of_mem_zip hx).1
    · have O := O.perm (R' := [(pe, .lst (F.map nV)), (po, .lst [])] ++ ((pr, .lst (ts.map V.ref)) :: ts.zip (tups (tl z) (tl z).length))) (List.Perm.cons _ (List.Perm.swap _ _ _))
      exact Own.dropTo O (fun x hx => by
        simp only [List.mem_cons, List.not_mem_nil, or_false] at hx
        rcases hx with rfl | rfl
        · exact hpe
        · exact hpo)


theorem rws_at {l : List Nat} {n i : Nat} {ts : List Addr} {t : Addr} (hts : ts.length = (ixs l n).length) (h : ts[i]? = some t) : ∃ a, (ixs l n)[i]? = some a ∧ (t, HO.tup (rowV l a)) ∈ ts.zip (tups l n) := by
  have hi := (List.getElem?_eq_some_iff.mp h).1
  obtain ⟨a, ha⟩ : ∃ a, (ixs l n)[i]? = some a := ⟨_, List.getElem?_eq_getElem (by rw [← hts]; exact hi)⟩
  refine ⟨a, ha, List.mem_iff_getElem?.mpr ⟨i, ?_⟩⟩
  unfold tups
  rw [List.getElem?_zip_eq_some]
  exact ⟨h, by rw [List.getElem?_map, ha]; rfl⟩
theorem take_snoc' {α : Type} {l : List α} {i : Nat} {x : α} (h : l[i]? = some x) : l.take (i + 1) = l.take i ++ [x] := by
  obtain ⟨hi, e⟩ := List.getElem?_eq_some_iff.mp h
  rw [List.take_succ_eq_append_getElem hi, e]
/-- the starts of the nodes that lie straight below s -/
def kids (l : List Nat) (is : List Nat) (s : V) : List Nat := is.filter fun a => decide (fv (par l a) = s)
theorem kids_snoc (l : List Nat) (is : List Nat) (a : Nat) (s : V) : kids l (is ++ [a]) s = kids l is s ++ if decide (fv (par l a) = s) = true then [a] else [] := by
  unfold kids
  rw [List.filter_append]
  cases h : decide (fv (par l a) = s) <;> simp [h]
theorem kids_len (l : List Nat) (is : List Nat) (s : V) : (kids l is s).length ≤ is.length := List.length_filter_le _ _
abbrev spNodes (mg : Str → Option Value) : Sp := spNX mg 1 (fun vs => ∃ z, vs = [.str z] ∧ z.length ≤ 10000000) (fun vs v N => ∃ z p, vs = [.str z] ∧ okT z ∧ v = .ref p ∧ Rws (tl z) p N) (fun vs x fs => ∃ z, vs = [.str z] ∧ excT z x fs)
abbrev NM_nodes : List Str := ["text"]
theorem sc_nodes : FnScope NM_nodes ["text"] (defScope s_nodes) := ⟨rfl, rfl, rfl, by decide +kernel, rfl, by decide +kernel, by decide +kernel⟩
theorem d_nodes (F : Fn0 K mg "nodes" s_nodes) (T : Txt P K mg) (D_checked : DefX P w K mg base 3 "checked" ["text", "limit"] [.int 2000] (spChecked mg)) (D_node_rows : Def P w K mg base 2 "node_rows" ["text"] spRows) :
    DefX P w K mg base 4 "nodes" ["text"] [] (spNodes mg) := by
  refine DefX.mk0 F sc_nodes (by first | exact NF.hl_spB | exact NF.hl_spP | exact NF.hl_spNew | exact NF.hl_spPX | exact NF.hl_spN | exact NF.hl_spNX | exact hl_spNodes) (fun _ _ _ _ _ _ us hl => match us, hl with | [_], _ => rfl) (fun cdv A outer s H vs Q E hr h tk po => ?_)
  refine ⟨_, (pss_cons (ps_expr (pe_dx D_checked (hr.mono (by decide)) tk (by rfl) (pa_cons (pv 0) pa_nil)))
      (pss_one (ps_ret (pe_d D_node_rows (hr.mono (by decide)) rfl (pa_cons (pv 0) pa_nil))))), ?_⟩
  try dsimp only [cxOf, Cx.nox, Cx.wish]
  obtain ⟨hl, ⟨z, rfl, hz⟩, k, e⟩ := h
  have O := NF.Own.refl0 H
  walk_at "go"
  refine NF.use_spPX O rfl ⟨z, rfl, hz⟩ (fun v H1 O ⟨z2, ez, ev, ok⟩ => ?_) (fun x fs d H1 O ⟨z2, ez, he⟩ hd hfd => ?_)
  · cases ez
    walk_at "go"
    refine NF.use_spN (E := E0) O rfl ⟨z, rfl, ok.1, nst_of_flt ok.2⟩ fun v H1 N hN O ⟨z2, p, ez, ev, hw⟩ => ?_
    cases ez
    subst ev
    exact k _ _ N hN O ⟨z, p, rfl, ok, rfl, hw⟩
  · cases ez
    exact e x fs d H1 O ⟨z, rfl, he⟩ hd hfd

/-- what a question of a start may meet -/
def excN (z : Str) (s : Option Int) (x : Str) (fs : List (Str × V)) : Prop := excT z x fs ∨ (okT z ∧ ∃ i, s = some i ∧ isN (tl z) i = false ∧ x = "NoNode" ∧ fs = fI "index" i)
abbrev ov : Option Int → V
  | none => .non
  | some i => .int i
abbrev spChildren (mg : Str → Option Value) : Sp := spNX mg 2 (fun vs => ∃ (z : Str) (s : Option Int), vs = [.str z, ov s] ∧ z.length ≤ 10000000)
  (fun vs v N => ∃ (z : Str) (s : Option Int) (p : Addr) (N' : List (Addr × HO)), vs = [.str z, ov s] ∧ okT z ∧ (∀ i, s = some i → isN (tl z) i = true) ∧ v = .ref p ∧ N = (p, .lst ((kids (tl z) (ixs (tl z) z.length) (ov s)).map nV)) :: N')
  (fun vs x fs => ∃ (z : Str) (s : Option Int), vs = [.str z, ov s] ∧ excN z s x fs)
abbrev NM_children : List Str := ["text", "start", "row"]
theorem sc_children : FnScope NM_children ["text", "start"] (defScope s_children) := ⟨rfl, rfl, rfl, by decide +kernel, rfl, by decide +kernel, by decide +kernel⟩
theorem d_children (F : Fn0 K mg "children" s_children) (T : Txt P K mg) (D_checked : DefX P w K mg base 3 "checked" ["text", "limit"] [.int 2000] (spChecked mg)) (D_starts_node : Def P w K mg base 1 "starts_node" ["text", "start"] spStarts) (D_node_rows : Def P w K mg base 2 "node_rows" ["text"] spRows) :
    DefX P w K mg base 4 "children" ["text", "start"] [] (spChildren mg) := by
  refine DefX.mk0 F sc_children (by first | exact NF.hl_spB | exact NF.hl_spP | exact NF.hl_spNew | exact NF.hl_spPX | exact NF.hl_spN | exact NF.hl_spNX | exact hl_spChildren) (fun _ _ _ _ _ _ us hl => match us, hl with | [_, _], _ => rfl) (fun cdv A outer s H vs Q E hr h tk po => ?_)
  refine ⟨_, (pss_cons (ps_expr (pe_dx D_checked (hr.mono (by decide)) tk (by rfl) (pa_cons (pv 0) pa_nil)))
      (pss_cons (ps_if (PW.pt (pw_and (pt_cmpR opNotN (pv 1) pe_non (nomark _)) (pw_and1 (pt_not (pt_val (pe_d D_starts_node (hr.mono (by decide)) rfl (pa_cons (pv 0) (pa_cons (pv 1) pa_nil))))))))
      (pss_one (L2N.ps_raise rfl tk (pmk_x T.x_NoNode (hr.mono (by decide)) (by rfl) (pv 1))))
      pss_nil)
      (pss_one (ps_ret (pe_lc (own := [("row", 2)]) (g := gName 2) rfl sc_children.nd (pi_list (pe_d D_node_rows (hr.mono (by decide)) rfl (pa_cons (pv 0) pa_nil))) (blkOk_by (own := [("row", 2)]) (N := NM_children) (sc := defScope s_children) (by decide +kernel)) (fun _ _ _ _ _ => pg_name (i := 2) sc_children.nd rfl (Or.inl rfl)) (fun _ _ _ _ _ => pts_one (pt_cmpR op_eq (pe_ix (show IxR _ (rIxT K) from ix_tup) (pv 2) pe_int (fun _ _ => rfl)) (pv 1) (nomark _))) (fun _ _ _ _ _ => (pe_ix (show IxR _ (rIxT K) from ix_tup) (pv 2) pe_int (fun _ _ => rfl)))))))), ?_⟩
  try dsimp only [cxOf, Cx.nox, Cx.wish]
  obtain ⟨hl, ⟨z, s, rfl, hz⟩, k, e⟩ := h
  have O := NF.Own.refl0 H
  walk_at "go"
  refine NF.use_spPX O rfl ⟨z, rfl, hz⟩ (fun v H1 O ⟨z2, ez, ev, ok⟩ => ?_) (fun x fs d H1 O ⟨z2, ez, he⟩ hd hfd => ?_)
  · cases ez
    have body : ∀ H1, (∀ i, s = some i → isN (tl z) i = true) → Own H H1 [] [] → spRows [.str z] H1 (fun v H1 => jList K v H1 (lcR (gName 2) (tTest (tOp rEq (tOp (rIxT K) (tVar 2) (tC (.int 4))) (tVar 1))) (tOp (rIxT K) (tVar 2) (tC (.int 0))) [2] (L2.start NM_children [.str z, ov s]) Q)) E0 := by
      intro H1 hs O
      refine NF.use_spN (E := E0) O rfl ⟨z, rfl, ok.1, nst_of_flt ok.2⟩ fun v H1 N hN O ⟨z2, p, ez, ev, ts, hts, hw⟩ => ?_
      cases ez
      subst ev hw
      have hpn := hN _ (List.mem_cons_self ..)
      have hz2 := ok.1
      have hix := ixs_len (tl z) (tl z).length
      have hlz := len_tl z
      refine NF.lc_lst (SqL.of (O.mem (List.mem_cons_self ..))) O (fun i acc M' => M' = [] ∧ acc = (kids (tl z) ((ixs (tl z) (tl z).length).take i) (ov s)).map nV) (fun H' M' p' acc O' => SqL.of (O'.mem (List.mem_append_left _ (List.mem_cons_self ..)))) ⟨rfl, rfl⟩ (fun i x H' M' p' acc hx hl hP O' => ?_) fun p' H' M' acc hp' hl hP O' => ?_
      · obtain ⟨t, ht, rfl⟩ : ∃ t, ts[i]? = some t ∧ V.ref t = x := by
          rw [List.getElem?_map] at hx
          cases h : ts[i]? with
          | none => rw [h] at hx; cases hx
          | some t => rw [h] at hx; exact ⟨t, rfl, Option.some.inj hx⟩
        obtain ⟨a, ha, hm⟩ := rws_at hts ht
        have hT := O'.mem (x := (t, .tup (rowV (tl z) a))) (List.mem_append_left _ (List.mem_append_right _ (List.mem_cons_of_mem _ hm)))
        have hi : i < ts.length := (List.getElem?_eq_some_iff.mp ht).1
        obtain ⟨rfl, rfl⟩ := hP
        walk_at "go"
        refine NF.x_eq (by cases par (tl z) a <;> cases s <;> rfl) ?_
        walk_at "go"
        refine NF.x_itb (fun h => ?_) (fun h => ?_)
        · walk_at "go"
          refine NF.lc_done O' hl (by rw [sizeLine_eq]; omega) ⟨rfl, ?_⟩
          rw [take_snoc' ha, kids_snoc, if_pos h, List.map_append]
          rfl
        · refine NF.lc_skip O' hl ⟨rfl, ?_⟩
          rw [take_snoc' ha, kids_snoc, if_neg (by rw [h]; decide), List.append_nil]
      · obtain ⟨rfl, rfl⟩ := hP
        refine k _ _ ((p', .lst _) :: ((p, .lst (ts.map V.ref)) :: ts.zip (tups (tl z) (tl z).length))) (fun x hx => ?_) (O'.perm ?_) ⟨z, s, p', _, rfl, ok, hs, rfl, rfl⟩
        · rcases List.mem_cons.mp hx with rfl | hx
          · exact hp'
          · exact hN x hx
        · have e : (ts.map V.ref).length = (ixs (tl z) z.length).length := by rw [List.length_map, hts, hlz]
          rw [e, ← hlz, List.take_length]
          exact List.perm_append_comm
    cases s with
    | none =>
      walk_at "go"
      exact body _ (fun i h => by cases h) O
    | some i =>
      walk_at "go"
      refine NF.use_spP (E := E0) O rfl ⟨z, i, rfl, hz⟩ fun v H1 O ⟨z2, i2, ez, ev⟩ => ?_
      cases ez
      subst ev
      walk_at "go"
      cases hi : isN (tl z) i with
      | true =>
        walk_at "go"
        exact body _ (fun j h => by cases h; exact hi) O
      | false =>
        walk_at "go"
        exact fun d hd => e _ _ d _ (O.ignore hd) ⟨z, some i, rfl, Or.inr ⟨ok, i, rfl, hi, rfl, rfl⟩⟩ (O.base_free hd) upd_same
  · cases ez
    exact e x fs d H1 O ⟨z, s, rfl, Or.inl he⟩ hd hfd


abbrev spInside (mg : Str → Option Value) : Sp := spPX mg 2 (fun vs => ∃ (z : Str) (s : Int), vs = [.str z, .int s] ∧ z.length ≤ 10000000) (fun vs v => ∃ (z : Str) (s : Int), vs = [.str z, .int s] ∧ okT z ∧ isN (tl z) s = true ∧ v = .str (cutS z (some (s + 1)) (some (pt (tl z) s.toNat : Int)))) (fun vs x fs => ∃ (z : Str) (s : Int), vs = [.str z, .int s] ∧ excN z (some s) x fs)
theorem isN_at {l : List Nat} {s : Int} (h : isN l s = true) : ∃ (a c : Nat), s = (a : Int) ∧ l[a]? = some c ∧ low c ∧ a < l.length := by
  unfold isN lowAt at h
  obtain ⟨h1, h2⟩ := Bool.and_eq_true_iff.mp h
  have h0 := of_decide_eq_true h1
  cases hc : l[s.toNat]? with
  | none => rw [hc] at h2; cases h2
  | some c =>
    rw [hc] at h2
    exact ⟨s.toNat, c, (Int.toNat_of_nonneg h0).symm, hc, of_decide_eq_true h2, (List.getElem?_eq_some_iff.mp hc).1⟩
abbrev NM_inside_of : List Str := ["text", "start", "end"]
theorem sc_inside_of : FnScope NM_inside_of ["text", "start"] (defScope s_inside_of) := ⟨rfl, rfl, rfl, by decide +kernel, rfl, by decide +kernel, by decide +kernel⟩
theorem d_inside_of (F : Fn0 K mg "inside_of" s_inside_of) (T : Txt P K mg) (D_checked : DefX P w K mg base 3 "checked" ["text", "limit"] [.int 2000] (spChecked mg)) (D_starts_node : Def P w K mg base 1 "starts_node" ["text", "start"] spStarts) (D_partners : Def P w K mg base 1 "partners" ["text"] spPartners) :
    DefX P w K mg base 4 "inside_of" ["text", "start"] [] (spInside mg) := by
  refine DefX.mk0 F sc_inside_of (by first | exact NF.hl_spB | exact NF.hl_spP | exact NF.hl_spNew | exact NF.hl_spPX | exact NF.hl_spN | exact NF.hl_spNX | exact hl_spInside) (fun _ _ _ _ _ _ us hl => match us, hl with | [_, _], _ => rfl) (fun cdv A outer s H vs Q E hr h tk po => ?_)
  refine ⟨_, (pss_cons (ps_expr (pe_dx D_checked (hr.mono (by decide)) tk (by rfl) (pa_cons (pv 0) pa_nil)))
      (pss_cons (ps_if (pt_not (pt_val (pe_d D_starts_node (hr.mono (by decide)) rfl (pa_cons (pv 0) (pa_cons (pv 1) pa_nil)))))
      (pss_one (L2N.ps_raise rfl tk (pmk_x T.x_NoNode (hr.mono (by decide)) (by rfl) (pv 1))))
      pss_nil)
      (pss_cons (ps_set (i := 2) sc_inside_of.nd rfl (Or.inl rfl) (pe_ix ix_list (pe_d D_partners (hr.mono (by decide)) rfl (pa_cons (pv 0) pa_nil)) (pv 1) (fun _ _ => rfl)))
      (pss_one (ps_ret (pe_slice sl_str (pv 0) (po_some (pe_op op_add (pv 1) pe_int)) (po_some (pv 2)))))))), ?_⟩
  try dsimp only [cxOf, Cx.nox, Cx.wish]
  obtain ⟨hl, ⟨z, s, rfl, hz⟩, k, e⟩ := h
  have O := NF.Own.refl0 H
  walk_at "go"
  refine NF.use_spPX O rfl ⟨z, rfl, hz⟩ (fun v H1 O ⟨z2, ez, ev, ok⟩ => ?_) (fun x fs d H1 O ⟨z2, ez, he⟩ hd hfd => ?_)
  · cases ez
    walk_at "go"
    refine NF.use_spP (E := E0) O rfl ⟨z, s, rfl, hz⟩ fun v H1 O ⟨z2, i2, ez, ev⟩ => ?_
    cases ez
    subst ev
    walk_at "go"
    cases hi : isN (tl z) s with
    | false =>
      walk_at "go"
      exact fun d hd => e _ _ d _ (O.ignore hd) ⟨z, s, rfl, Or.inr ⟨ok, s, rfl, hi, rfl, rfl⟩⟩ (O.base_free hd) upd_same
    | true =>
      obtain ⟨a, c, rfl, hc, hlo, hal⟩ := isN_at hi
      walk_at "go"
      refine NF.use_spNew (E := E0) O rfl ⟨z, rfl, ok.1, nst_of_flt ok.2⟩ fun pe H1 o hpe O ⟨z2, F, ez, eo, hF, hP⟩ => ?_
      cases ez
      subst eo
      walk_at "nO"
      have hPj : (F.map nV)[a]? = some (nV (pt (tl z) a)) := by rw [List.getElem?_map, hP a c hc hlo]; rfl
      walk_at "go"
      exact k _ _ (O.drop fun x hx => by rw [List.mem_singleton.mp hx]; exact hpe) ⟨z, _, rfl, ok, hi, rfl⟩
  · cases ez
    exact e x fs d H1 O ⟨z, s, rfl, Or.inl he⟩ hd hfd

theorem tl_upto (z : Str) {a : Nat} (h : a < (tl z).length) : tl (cutS z none (some ((a : Int) + 1))) = (tl z).take (a + 1) := by
  rw [tl_cut]
  have e : ((a : Int) + 1) = ((a + 1 : Nat) : Int) := by omega
  have e2 : HT.sIx z.length z.length (some ((a : Int) + 1)) = a + 1 := by
    rw [e, HT.sIx_nat, len_tl]
    omega
  rw [e2, HT.sIx_none, List.drop_zero, Nat.sub_zero]
/-- the letters of the open places -/
def letters (l ps : List Nat) : List Nat := ps.reverse.map fun a => l.getD a 0
theorem letters_cons (l : List Nat) (a : Nat) (ps : List Nat) : letters l (a :: ps) = letters l ps ++ [l.getD a 0] := by
  unfold letters
  rw [List.reverse_cons, List.map_append]
  rfl
theorem letters_len (l ps : List Nat) : (letters l ps).length = ps.length := by simp [letters]
abbrev spPath (mg : Str → Option Value) : Sp := spPX mg 2 (fun vs => ∃ (z : Str) (s : Int), vs = [.str z, .int s] ∧ z.length ≤ 10000000) (fun vs v => ∃ (z : Str) (s : Int), vs = [.str z, .int s] ∧ okT z ∧ isN (tl z) s = true ∧ v = .str (mkS (letters (tl z) (stk (tl z) (s.toNat + 1))))) (fun vs x fs => ∃ (z : Str) (s : Int), vs = [.str z, .int s] ∧ excN z (some s) x fs)
abbrev NM_path_of : List Str := ["text", "start", "names", "letter"]
theorem sc_path_of : FnScope NM_path_of ["text", "start"] (defScope s_path_of) := ⟨rfl, rfl, rfl, by decide +kernel, rfl, by decide +kernel, by decide +kernel⟩
theorem d_path_of (F : Fn0 K mg "path_of" s_path_of) (T : Txt P K mg) (D_checked : DefX P w K mg base 3 "checked" ["text", "limit"] [.int 2000] (spChecked mg)) (D_starts_node : Def P w K mg base 1 "starts_node" ["text", "start"] spStarts) :
    DefX P w K mg base 4 "path_of" ["text", "start"] [] (spPath mg) := by
  refine DefX.mk0 F sc_path_of (by first | exact NF.hl_spB | exact NF.hl_spP | exact NF.hl_spNew | exact NF.hl_spPX | exact NF.hl_spN | exact NF.hl_spNX | exact hl_spPath) (fun _ _ _ _ _ _ us hl => match us, hl with | [_, _], _ => rfl) (fun cdv A outer s H vs Q E hr h tk po => ?_)
  refine ⟨_, (pss_cons (ps_expr (pe_dx D_checked (hr.mono (by decide)) tk (by rfl) (pa_cons (pv 0) pa_nil)))
      (pss_cons (ps_if (pt_not (pt_val (pe_d D_starts_node (hr.mono (by decide)) rfl (pa_cons (pv 0) (pa_cons (pv 1) pa_nil)))))
      (pss_one (L2N.ps_raise rfl tk (pmk_x T.x_NoNode (hr.mono (by decide)) (by rfl) (pv 1))))
      pss_nil)
      (pss_cons (ps_set (i := 2) sc_path_of.nd rfl (Or.inl rfl) (pe_lst pa_nil))
      (pss_cons (ps_for po rfl (pi_str (pe_slice sl_str (pv 0) po_none (po_some (pe_op op_add (pv 1) pe_int)))) (pg_name (i := 3) sc_path_of.nd rfl (Or.inl rfl))
      (pss_one (ps_if (pt_cmpR opInC (pv 3) (pe_g rfl T.g_NAMES) (by rfl))
      (pss_one (ps_expr (pe_bm PySem.F.plainAttrs_list PySem.F.slot_list_append PySem.F.type_list_append mt_append (pv 2) (pa_cons (pv 3) pa_nil))))
      (pss_one (ps_expr (pe_bm0 PySem.F.plainAttrs_list PySem.F.slot_list_pop PySem.F.type_list_pop mt_pop (pv 2)))))))
      (pss_one (ps_ret (pe_bm PySem.F.plainAttrs_str PySem.F.slot_str_join PySem.F.type_str_join mtJoin pe_str (pa_cons (pv 2) pa_nil)))))))), ?_⟩
  try dsimp only [cxOf, Cx.nox, Cx.wish]
  obtain ⟨hl, ⟨z, s, rfl, hz⟩, k, e⟩ := h
  have O := NF.Own.refl0 H
  walk_at "go"
  refine NF.use_spPX O rfl ⟨z, rfl, hz⟩ (fun v H1 O ⟨z2, ez, ev, ok⟩ => ?_) (fun x fs d H1 O ⟨z2, ez, he⟩ hd hfd => ?_)
  · cases ez
    walk_at "go"
    refine NF.use_spP (E := E0) O rfl ⟨z, s, rfl, hz⟩ fun v H1 O ⟨z2, i2, ez, ev⟩ => ?_
    cases ez
    subst ev
    walk_at "go"
    cases hi : isN (tl z) s with
    | false =>
      walk_at "go"
      exact fun d hd => e _ _ d _ (O.ignore hd) ⟨z, s, rfl, Or.inr ⟨ok, s, rfl, hi, rfl, rfl⟩⟩ (O.base_free hd) upd_same
    | true =>
      obtain ⟨a, c, rfl, hc, hlo, hal⟩ := isN_at hi
      walk_at "gw"
      refine NF.x_newL O (by decide +kernel) fun pn H1 hpn O => ?_
      walk_at "nO"
      walk_at "gw"
      have hr := nst_of_flt ok.2
      have hz2 := ok.1
      have hy := tl_upto z hal
      have hlz := len_tl z
      refine NF.f_str (fun j σ H' => ∃ (u3 : Option V), σ = [some (.str z), some (.int (a : Int)), some (.ref pn), u3] ∧ Own H H' [] [(pn, .lst ((letters (tl z) (stk (tl z) j)).map ch))] ∧ j ≤ a + 1) ⟨_, rfl, O, by omega⟩ ?_ ?_
      · rintro j c2 _ H2 hc2 ⟨u3, rfl, O, hj⟩
        have hc2 := tl_at hc2
        rw [hy] at hc2
        have hj2 : j < a + 1 := by
          have := (List.getElem?_eq_some_iff.mp hc2).1
          rw [List.length_take] at this
          omega
        rw [List.getElem?_take_of_lt hj2] at hc2
        have S := stk_ok hr (i := j) (by omega)
        have hst := S.len
        have hll := letters_len (tl z) (stk (tl z) j)
        walk_at "go"
        refine NF.x_ite (fun h0 => ?_) (fun h0 => ?_)
        · rw [tl_names, mem_lo] at h0
          walk_at "go"
          refine ⟨_, rfl, ?_, by omega⟩
          rw [stk_low hc2 h0, letters_cons, List.map_append, getD_at hc2]
          exact O
        · rw [tl_names, mem_lo] at h0
          obtain ⟨b, st', e2, S', eb, hb, _⟩ := S.pop hr hc2 h0
          rw [e2, letters_cons, List.map_append] at O
          walk_at "go"
          refine NF.x_pop O 0 rfl (v := ch ((tl z).getD b 0)) (by simp) fun H4 O => ?_
          walk_at "nO"
          rw [List.map_cons, List.map_nil, List.dropLast_concat] at O
          refine ⟨_, rfl, ?_, by omega⟩
          rw [stk_up hc2 h0, e2]
          exact O
      · rintro _ H2 ⟨u3, rfl, O, hj⟩
        have e0 : (cutS z none (some ((a : Int) + 1))).cps.size = a + 1 := by
          have h1 : (tl (cutS z none (some ((a : Int) + 1)))).length = a + 1 := by rw [hy, List.length_take]; omega
          simpa using h1
        rw [e0] at O
        have hll := letters_len (tl z) (stk (tl z) (a + 1))
        have hst := (stk_ok hr (i := a + 1) (by omega)).len
        walk_at "go"
        refine NF.x_join _ (O.get 0 rfl) (by omega) ?_
        exact k _ _ (O.drop fun x hx => by rw [List.mem_singleton.mp hx]; exact hpn) ⟨z, _, rfl, ok, hi, rfl⟩
  · cases ez
    exact e x fs d H1 O ⟨z, s, rfl, Or.inl he⟩ hd hfd

abbrev spSize (mg : Str → Option Value) : Sp := spPX mg 1 (fun vs => ∃ z, vs = [.str z] ∧ z.length ≤ 10000000) (fun vs v => ∃ z, vs = [.str z] ∧ okT z ∧ v = .int ((z.length : Int) / 2)) (fun vs x fs => ∃ z, vs = [.str z] ∧ excT z x fs)
abbrev NM_size : List Str := ["text"]
theorem sc_size : FnScope NM_size ["text"] (defScope s_size) := ⟨rfl, rfl, rfl, by decide +kernel, rfl, by decide +kernel, by decide +kernel⟩
theorem d_size (F : Fn0 K mg "size" s_size) (T : Txt P K mg) (D_checked : DefX P w K mg base 3 "checked" ["text", "limit"] [.int 2000] (spChecked mg)) :
    DefX P w K mg base 4 "size" ["text"] [] (spSize mg) := by
  refine DefX.mk0 F sc_size (by first | exact NF.hl_spB | exact NF.hl_spP | exact NF.hl_spNew | exact NF.hl_spPX | exact NF.hl_spN | exact NF.hl_spNX | exact hl_spSize) (fun _ _ _ _ _ _ us hl => match us, hl with | [_], _ => rfl) (fun cdv A outer s H vs Q E hr h tk po => ?_)
  refine ⟨_, (pss_cons (ps_expr (pe_dx D_checked (hr.mono (by decide)) tk (by rfl) (pa_cons (pv 0) pa_nil)))
      (pss_one (ps_ret (pe_op op_fdivW (pe_callB (id := "len") callLen (by rfl) T.b_len (by decide +kernel) (pa_cons (pv 0) pa_nil)) pe_int)))), ?_⟩
  try dsimp only [cxOf, Cx.nox, Cx.wish]
  obtain ⟨hl, ⟨z, rfl, hz⟩, k, e⟩ := h
  have O := NF.Own.refl0 H
  walk_at "go"
  refine NF.use_spPX O rfl ⟨z, rfl, hz⟩ (fun v H1 O ⟨z2, ez, ev, ok⟩ => ?_) (fun x fs d H1 O ⟨z2, ez, he⟩ hd hfd => ?_)
  · cases ez
    walk_at "go"
    exact k _ _ O ⟨z, rfl, ok, rfl⟩
  · cases ez
    exact e x fs d H1 O ⟨z, rfl, he⟩ hd hfd


/-- what the law's own question of errors tells -/
def errE (way : Int) (z : Str) (s : Int) : List V :=
  if 2000 < z.length then [.str "TooLong", .str "2000", .bl true] else match flt (tl z) 0 [] with
    | some j => [.str "NotNested", .str (toString ((j : Nat) : Int)), .bl true]
    | none => if (way = 0 ∨ way = 1 ∨ way = 2) ∧ isN (tl z) s = false then [.str "NoNode", .str (toString s), .bl true] else [.str "no error", .str ""]
theorem Own.track {B H : Hp} {d : Addr} {o : HO} (O : Own B H [] []) (hd : H d = some o) : Own B H [] [(d, o)] :=
  ⟨by simp, fun x hx => by
    have e : x = (d, o) := by simpa using hx
    rw [e]
    exact hd, fun b hb u e => O.out b (by simp) u e⟩
theorem flt_le {l : List Nat} : ∀ {k : Nat} {st : List Nat} {j : Nat}, flt l k st = some j → j ≤ k + l.length := by
  induction l with
  | nil =>
    intro k st j h
    rw [flt.eq_def] at h
    dsimp only at h
    split at h
    · cases h
    · cases h
      simp
  | cons c r ih =>
    intro k st j h
    rw [flt_cons] at h
    rw [List.length_cons]
    split at h
    · have := ih h
      omega
    · cases st with
      | nil => cases h; omega
      | cons t ts =>
        dsimp only at h
        split at h
        · have := ih h
          omega
        · cases h; omega
theorem log_small {j : Nat} (h : j ≤ 10000000) : ((j : Int).natAbs).log2 < 1900 := by
  rw [Int.natAbs_natCast]
  by_cases z : j = 0
  · rw [z]; decide
  · have h1 : j < 2 ^ 24 := by omega
    have h2 := (Nat.log2_lt z).mpr h1
    omega
def spError : Sp := spN 3 (fun vs => ∃ (way : Int) (z : Str) (s : Int), vs = [.int way, .str z, .int s] ∧ z.length ≤ 10000000 ∧ s.natAbs.log2 < 1900) (fun vs v N => ∃ (way : Int) (z : Str) (s : Int) (p : Addr), vs = [.int way, .str z, .int s] ∧ v = .ref p ∧ N = [(p, .tup (errE way z s))])
abbrev NM_law_error : List Str := ["way", "text", "start", "e"]
theorem sc_law_error : FnScope NM_law_error ["way", "text", "start"] (defScope s_law_error) := ⟨rfl, rfl, rfl, by decide +kernel, rfl, by decide +kernel, by decide +kernel⟩
theorem d_law_error (F : Fn0 K mg "_law_error" s_law_error) (T : Txt P K mg) (D_children : DefX P w K mg base 4 "children" ["text", "start"] [] (spChildren mg)) (D_inside_of : DefX P w K mg base 4 "inside_of" ["text", "start"] [] (spInside mg)) (D_path_of : DefX P w K mg base 4 "path_of" ["text", "start"] [] (spPath mg)) (D_nodes : DefX P w K mg base 4 "nodes" ["text"] [] (spNodes mg)) (D_size : DefX P w K mg base 4 "size" ["text"] [] (spSize mg)) :
    Def P w K mg base 5 "_law_error" ["way", "text", "start"] spError := by
  refine Def.mk0 F sc_law_error (by first | exact NF.hl_spB | exact NF.hl_spP | exact NF.hl_spNew | exact NF.hl_spPX | exact NF.hl_spN | exact NF.hl_spNX | exact hl_spError) (fun _ _ _ _ _ _ us hl => match us, hl with | [_, _, _], _ => rfl) (fun cdv A outer s H vs Q E hr h => ?_)
  refine ⟨_, (pss_cons (ps_try_all rfl rfl takesN0 (fun _ _ _ tk po => (pss_one (ps_if (pt_cmpR op_eq (pv 0) pe_int (nomark _))
      (pss_one (ps_expr (pe_dx D_children (hr.mono (by decide)) tk (by rfl) (pa_cons (pv 1) (pa_cons (pv 2) pa_nil)))))
      (pss_one (ps_if (pt_cmpR op_eq (pv 0) pe_int (nomark _))
      (pss_one (ps_expr (pe_dx D_inside_of (hr.mono (by decide)) tk (by rfl) (pa_cons (pv 1) (pa_cons (pv 2) pa_nil)))))
      (pss_one (ps_if (pt_cmpR op_eq (pv 0) pe_int (nomark _))
      (pss_one (ps_expr (pe_dx D_path_of (hr.mono (by decide)) tk (by rfl) (pa_cons (pv 1) (pa_cons (pv 2) pa_nil)))))
      (pss_one (ps_if (pt_cmpR op_eq (pv 0) pe_int (nomark _))
      (pss_one (ps_expr (pe_dx D_nodes (hr.mono (by decide)) tk (by rfl) (pa_cons (pv 1) pa_nil))))
      (pss_one (ps_if (pt_cmpR op_eq (pv 0) pe_int (nomark _))
      (pss_one (ps_expr (pe_dx D_size (hr.mono (by decide)) tk (by rfl) (pa_cons (pv 1) pa_nil))))
      (pss_one (ps_expr (pe_dx D_children (hr.mono (by decide)) tk (by rfl) (pa_cons (pv 1) (pa_cons pe_non pa_nil))))))))))))))))
      (HdA.named (i := 3) sc_law_error.nd rfl rfl ⟨rfl, by decide, Or.inl T.n_NoNode⟩
      (fun a oe cls d pn hz hf => (pss_cons (ps_if (PW.pt (pw_or (pt_val (pe_callB (call_isX hz hf) (by rfl) T.b_isinstance (by decide +kernel) (pa_cons (pv 3) (pa_cons (pe_tup (pa_cons (pe_clsn T.n_BadEdit rfl rfl) (pa_cons (pe_clsn T.n_LimitError rfl rfl) (pa_cons (pe_clsn T.n_NotNested rfl rfl) pa_nil)))) pa_nil)))) (pw_or1 (pt_not (pt_val (pe_callB (call_isX hz hf) (by rfl) T.b_isinstance (by decide +kernel) (pa_cons (pv 3) (pa_cons (pe_clsn T.n_NestError rfl rfl) pa_nil))))))))
      (pss_one (ps_ret (pe_tup (pa_cons pe_str (pa_cons pe_str pa_nil)))))
      pss_nil)
      (pss_one (ps_ret (pe_tup (pa_cons pe_str (pa_cons (pe_callB (id := "repr") callRepr (by rfl) T.b_repr (by decide +kernel) (pa_cons (pe_xfN hz hf (pv 3)) pa_nil)) (pa_cons (pe_callB (call_isX hz hf) (by rfl) T.b_isinstance (by decide +kernel) (pa_cons (pv 3) (pa_cons (pe_ty (n := "ValueError") (by rfl) T.b_ValueError (by decide +kernel)) pa_nil))) pa_nil))))))))
      (HdA.named (i := 3) sc_law_error.nd rfl rfl ⟨rfl, by decide, Or.inl T.n_NotNested⟩
      (fun a oe cls d pn hz hf => (pss_cons (ps_if (PW.pt (pw_or (pt_val (pe_callB (call_isX hz hf) (by rfl) T.b_isinstance (by decide +kernel) (pa_cons (pv 3) (pa_cons (pe_tup (pa_cons (pe_clsn T.n_BadEdit rfl rfl) (pa_cons (pe_clsn T.n_LimitError rfl rfl) pa_nil))) pa_nil)))) (pw_or1 (pt_not (pt_val (pe_callB (call_isX hz hf) (by rfl) T.b_isinstance (by decide +kernel) (pa_cons (pv 3) (pa_cons (pe_clsn T.n_NestError rfl rfl) pa_nil))))))))
      (pss_one (ps_ret (pe_tup (pa_cons pe_str (pa_cons pe_str pa_nil)))))
      pss_nil)
      (pss_one (ps_ret (pe_tup (pa_cons pe_str (pa_cons (pe_callB (id := "repr") callRepr (by rfl) T.b_repr (by decide +kernel) (pa_cons (pe_xfN hz hf (pv 3)) pa_nil)) (pa_cons (pe_callB (call_isX hz hf) (by rfl) T.b_isinstance (by decide +kernel) (pa_cons (pv 3) (pa_cons (pe_ty (n := "ValueError") (by rfl) T.b_ValueError (by decide +kernel)) pa_nil))) pa_nil))))))))
      (HdA.named (i := 3) sc_law_error.nd rfl rfl ⟨rfl, by decide, Or.inl T.n_TooLong⟩
      (fun a oe cls d pn hz hf => (pss_cons (ps_if (PW.pt (pw_or (pt_val (pe_callB (call_isX hz hf) (by rfl) T.b_isinstance (by decide +kernel) (pa_cons (pv 3) (pa_cons (pe_clsn T.n_BadEdit rfl rfl) pa_nil)))) (pw_or (pt_not (pt_val (pe_callB (call_isX hz hf) (by rfl) T.b_isinstance (by decide +kernel) (pa_cons (pv 3) (pa_cons (pe_clsn T.n_LimitError rfl rfl) pa_nil))))) (pw_or1 (pt_not (pt_val (pe_callB (call_isX hz hf) (by rfl) T.b_isinstance (by decide +kernel) (pa_cons (pv 3) (pa_cons (pe_clsn T.n_NestError rfl rfl) pa_nil)))))))))
      (pss_one (ps_ret (pe_tup (pa_cons pe_str (pa_cons pe_str pa_nil)))))
      pss_nil)
      (pss_one (ps_ret (pe_tup (pa_cons pe_str (pa_cons (pe_callB (id := "repr") callRepr (by rfl) T.b_repr (by decide +kernel) (pa_cons (pe_xfN hz hf (pv 3)) pa_nil)) (pa_cons (pe_callB (call_isX hz hf) (by rfl) T.b_isinstance (by decide +kernel) (pa_cons (pv 3) (pa_cons (pe_ty (n := "ValueError") (by rfl) T.b_ValueError (by decide +kernel)) pa_nil))) pa_nil))))))))
      HdA.nil))))
      (pss_one (ps_ret (pe_tup (pa_cons pe_str (pa_cons pe_str pa_nil)))))), ?_⟩
  try dsimp only [cxOf, Cx.nox, Cx.wish]
  obtain ⟨hl, ⟨way, z, s, rfl, hz, hs⟩, k⟩ := h
  have O := NF.Own.refl0 H
  have fin : ∀ (H1 : Hp) (R : List (Addr × HO)) (p : Addr) (xs : List V), (∀ x ∈ R, H x.1 = none) → H p = none → xs = errE way z s → Own H H1 [] (R ++ [(p, .tup xs)]) → Q (.ref p) H1 := fun H1 R p xs hR hp e O => by
    subst e
    exact k _ _ [(p, _)] (fun x hx => by rw [List.mem_singleton.mp hx]; exact hp) (O.dropTo hR) ⟨way, z, s, p, rfl, rfl, rfl⟩
  walk_at "go"
  generalize hW : wAll K (fun _ _ _ _ => False) _ _ = W
  have hE : ∀ (x : Str) (fs : List (Str × V)) (d : Addr) (H1 : Hp), Own H H1 [] [] → H d = none → (excT z x fs ∨ (okT z ∧ (way = 0 ∨ way = 1 ∨ way = 2) ∧ isN (tl z) s = false ∧ x = "NoNode" ∧ fs = fI "index" s)) → H1 d = some (.xd fs) →
      W (.ref (cad mg x)) (some d) (L2.start NM_law_error [.int way, .str z, .int s]) H1 := by
    subst hW
    intro x fs d H1 O hdn he hd
    rcases he with (⟨rfl, rfl, hlen⟩ | ⟨rfl, hlen, j, hj, rfl⟩) | ⟨ok, hw, hi, rfl, rfl⟩
    · refine ⟨false, T.p_TooLong_NoNode.exm, fun h => Bool.noConfusion h, fun _ => ⟨false, T.p_TooLong_NotNested.exm, fun h => Bool.noConfusion h, fun _ => ⟨true, T.p_TooLong_TooLong.exm, fun _ a ha => ?_, fun h => Bool.noConfusion h⟩⟩⟩
      have O := O.track hd
      dsimp only [endsOf, startOf]
      walk_at "gw"
      refine NF.x_isXC T.x_TooLong T.p_TooLong_BadEdit (O.get 0 rfl) ?_
      walk_at "gw"
      refine NF.x_isXC T.x_TooLong T.p_TooLong_LimitError (O.get 0 rfl) ?_
      walk_at "gw"
      refine NF.x_isXC T.x_TooLong T.p_TooLong_NestError (O.get 0 rfl) ?_
      walk_at "gw"
      refine NF.x_xfV T.x_TooLong rfl (O.get 0 rfl) ?_
      walk_at "gw"
      refine NF.x_repr (by decide) ?_
      walk_at "gw"
      refine NF.x_isXB T.x_TooLong T.p_TooLong_ValueError (O.get 0 rfl) ?_
      walk_at "gw"
      refine NF.x_newT O (by simp only [List.length_cons, List.length_nil, sizeLine_eq]; omega) fun p H1 hp O => ?_
      walk_at "nO"
      walk_at "gw"
      refine fin _ [(d, _)] p _ (fun x hx => ?_) hp (by unfold errE; rw [if_pos hlen]; rfl) O
      simp only [List.mem_cons, List.not_mem_nil, or_false] at hx
      rw [hx]
      exact hdn
    · refine ⟨false, T.p_NotNested_NoNode.exm, fun h => Bool.noConfusion h, fun _ => ⟨true, T.p_NotNested_NotNested.exm, fun _ a ha => ?_, fun h => Bool.noConfusion h⟩⟩
      have O := O.track hd
      dsimp only [endsOf, startOf]
      walk_at "gw"
      refine NF.x_newT O (by simp only [List.length_cons, List.length_nil, sizeLine_eq]; omega) fun tp H1 htp O => ?_
      walk_at "nO"
      walk_at "gw"
      refine NF.x_isXT [cad mg "BadEdit", cad mg "LimitError"] T.x_NotNested (O.get 1 rfl) (NF.kitAny_f T.p_NotNested_BadEdit.kit (NF.kitAny_f T.p_NotNested_LimitError.kit (NF.kitAny_nil))) (O.get 0 rfl) ?_
      walk_at "gw"
      refine NF.x_isXC T.x_NotNested T.p_NotNested_NestError (O.get 0 rfl) ?_
      walk_at "gw"
      refine NF.x_xfV T.x_NotNested rfl (O.get 0 rfl) ?_
      walk_at "gw"
      refine NF.x_repr (by have h1 := flt_le hj; have h2 := len_tl z; have h3 := log_small (j := j) (by omega); omega) ?_
      walk_at "gw"
      refine NF.x_isXB T.x_NotNested T.p_NotNested_ValueError (O.get 0 rfl) ?_
      walk_at "gw"
      refine NF.x_newT O (by simp only [List.length_cons, List.length_nil, sizeLine_eq]; omega) fun p H1 hp O => ?_
      walk_at "nO"
      walk_at "gw"
      refine fin _ [(d, _), (tp, _)] p _ (fun x hx => ?_) hp (by unfold errE; rw [if_neg (by omega), hj]) O
      simp only [List.mem_cons, List.not_mem_nil, or_false] at hx
      rcases hx with rfl | rfl
      · exact hdn
      · exact htp
    · refine ⟨true, T.p_NoNode_NoNode.exm, fun _ a ha => ?_, fun h => Bool.noConfusion h⟩
      have O := O.track hd
      dsimp only [endsOf, startOf]
      walk_at "gw"
      refine NF.x_newT O (by simp only [List.length_cons, List.length_nil, sizeLine_eq]; omega) fun tp H1 htp O => ?_
      walk_at "nO"
      walk_at "gw"
      refine NF.x_isXT [cad mg "BadEdit", cad mg "LimitError", cad mg "NotNested"] T.x_NoNode (O.get 1 rfl) (NF.kitAny_f T.p_NoNode_BadEdit.kit (NF.kitAny_f T.p_NoNode_LimitError.kit (NF.kitAny_f T.p_NoNode_NotNested.kit (NF.kitAny_nil)))) (O.get 0 rfl) ?_
      walk_at "gw"
      refine NF.x_isXC T.x_NoNode T.p_NoNode_NestError (O.get 0 rfl) ?_
      walk_at "gw"
      refine NF.x_xfV T.x_NoNode rfl (O.get 0 rfl) ?_
      walk_at "gw"
      refine NF.x_repr (by omega) ?_
      walk_at "gw"
      refine NF.x_isXB T.x_NoNode T.p_NoNode_ValueError (O.get 0 rfl) ?_
      walk_at "gw"
      refine NF.x_newT O (by simp only [List.length_cons, List.length_nil, sizeLine_eq]; omega) fun p H1 hp O => ?_
      walk_at "nO"
      walk_at "gw"
      refine fin _ [(d, _), (tp, _)] p _ (fun x hx => ?_) hp (by unfold errE; rw [if_neg (by have := ok.1; omega), ok.2]; exact (if_pos ⟨hw, hi⟩).symm) O
      simp only [List.mem_cons, List.not_mem_nil, or_false] at hx
      rcases hx with rfl | rfl
      · exact hdn
      · exact htp
  have eqOk : okT z → ((way = 0 ∨ way = 1 ∨ way = 2) → isN (tl z) s = true) → ([.str "no error", .str ""] : List V) = errE way z s := fun ok h => by
    unfold errE
    rw [if_neg (by have := ok.1; omega), ok.2]
    exact (if_neg fun q => by have := h q.1; rw [q.2] at this; cases this).symm
  refine NF.x_iteI (fun h0 => ?_) (fun h0 => ?_)
  · walk_at "go"
    refine NF.use_spNX O rfl ⟨z, some s, rfl, hz⟩ (fun v H1 N hN O ⟨z2, s2, p, N', ez, ok, hs2, ev, eN⟩ => ?_) (fun x fs d H1 O ⟨z2, s2, ez, he⟩ hd hfd => ?_)
    · cases s2 with
      | none => cases ez
      | some i2 =>
        cases ez
        walk_at "gw"
        refine NF.x_newT O (by decide +kernel) fun p H1 hp O => ?_
        exact fin _ _ p _ hN hp (eqOk ok fun _ => hs2 _ rfl) O
    · cases s2 with
      | none => cases ez
      | some i2 =>
        cases ez
        rcases he with he | ⟨ok, i, ei, hi, ex, ef⟩
        · exact hE x fs d H1 O hd (Or.inl he) hfd
        · cases ei
          exact hE x fs d H1 O hd (Or.inr ⟨ok, by omega, hi, ex, ef⟩) hfd
  walk_at "go"
  refine NF.x_iteI (fun h1 => ?_) (fun h1 => ?_)
  · walk_at "go"
    refine NF.use_spPX O rfl ⟨z, s, rfl, hz⟩ (fun v H1 O ⟨z2, s2, ez, ok, hs2, ev⟩ => ?_) (fun x fs d H1 O ⟨z2, s2, ez, he⟩ hd hfd => ?_)
    · cases ez
      walk_at "gw"
      refine NF.x_newT O (by decide +kernel) fun p H1 hp O => ?_
      exact fin _ _ p _ (fun x hx => absurd hx List.not_mem_nil) hp (eqOk ok fun _ => hs2) O
    · cases ez
      rcases he with he | ⟨ok, i, ei, hi, ex, ef⟩
      · exact hE x fs d H1 O hd (Or.inl he) hfd
      · cases ei
        exact hE x fs d H1 O hd (Or.inr ⟨ok, by omega, hi, ex, ef⟩) hfd
  walk_at "go"
  refine NF.x_iteI (fun h2 => ?_) (fun h2 => ?_)
  · walk_at "go"
    refine NF.use_spPX O rfl ⟨z, s, rfl, hz⟩ (fun v H1 O ⟨z2, s2, ez, ok, hs2, ev⟩ => ?_) (fun x fs d H1 O ⟨z2, s2, ez, he⟩ hd hfd => ?_)
    · cases ez
      walk_at "gw"
      refine NF.x_newT O (by decide +kernel) fun p H1 hp O => ?_
      exact fin _ _ p _ (fun x hx => absurd hx List.not_mem_nil) hp (eqOk ok fun _ => hs2) O
    · cases ez
      rcases he with he | ⟨ok, i, ei, hi, ex, ef⟩
      · exact hE x fs d H1 O hd (Or.inl he) hfd
      · cases ei
        exact hE x fs d H1 O hd (Or.inr ⟨ok, by omega, hi, ex, ef⟩) hfd
  walk_at "go"
  refine NF.x_iteI (fun h3 => ?_) (fun h3 => ?_)
  · walk_at "go"
    refine NF.use_spNX O rfl ⟨z, rfl, hz⟩ (fun v H1 N hN O ⟨z2, p, ez, ok, ev, eN⟩ => ?_) (fun x fs d H1 O ⟨z2, ez, he⟩ hd hfd => ?_)
    · cases ez
      walk_at "gw"
      refine NF.x_newT O (by decide +kernel) fun p H1 hp O => ?_
      exact fin _ _ p _ hN hp (eqOk ok fun q => by omega) O
    · cases ez
      exact hE x fs d H1 O hd (Or.inl he) hfd
  walk_at "go"
  refine NF.x_iteI (fun h4 => ?_) (fun h4 => ?_)
  · walk_at "go"
    refine NF.use_spPX O rfl ⟨z, rfl, hz⟩ (fun v H1 O ⟨z2, ez, ok, ev⟩ => ?_) (fun x fs d H1 O ⟨z2, ez, he⟩ hd hfd => ?_)
    · cases ez
      walk_at "gw"
      refine NF.x_newT O (by decide +kernel) fun p H1 hp O => ?_
      exact fin _ _ p _ (fun x hx => absurd hx List.not_mem_nil) hp (eqOk ok fun q => by omega) O
    · cases ez
      exact hE x fs d H1 O hd (Or.inl he) hfd
  walk_at "go"
  refine NF.use_spNX O rfl ⟨z, none, rfl, hz⟩ (fun v H1 N hN O ⟨z2, s2, p, N', ez, ok, hs2, ev, eN⟩ => ?_) (fun x fs d H1 O ⟨z2, s2, ez, he⟩ hd hfd => ?_)
  · cases s2 with
    | some i => cases ez
    | none =>
      cases ez
      walk_at "gw"
      refine NF.x_newT O (by decide +kernel) fun p H1 hp O => ?_
      exact fin _ _ p _ hN hp (eqOk ok fun q => by omega) O
  · cases s2 with
    | some i => cases ez
    | none =>
      cases ez
      rcases he with he | ⟨ok, i, ei, hi, ex, ef⟩
      · exact hE x fs d H1 O hd (Or.inl he) hfd
      · cases ei


def spTextErr : Sp := spN 1 (fun vs => ∃ z, vs = [.str z] ∧ z.length ≤ 10000000 ∧ ¬ okT z) (fun vs v N => ∃ (z : Str) (p : Addr) (xs : List V), vs = [.str z] ∧ v = .ref p ∧ N = [(p, .tup xs)] ∧ ∀ way s, xs ++ [.bl true] = errE way z s)
abbrev NM_law_text_error : List Str := ["text"]
theorem sc_law_text_error : FnScope NM_law_text_error ["text"] (defScope s_law_text_error) := ⟨rfl, rfl, rfl, by decide +kernel, rfl, by decide +kernel, by decide +kernel⟩
theorem d_law_text_error (F : Fn0 K mg "_law_text_error" s_law_text_error) (T : Txt P K mg) (D_law_fault : Def P w K mg base 1 "_law_fault" ["text"] spFault) :
    Def P w K mg base 2 "_law_text_error" ["text"] spTextErr := by
  refine Def.mk0 F sc_law_text_error (by first | exact NF.hl_spB | exact NF.hl_spP | exact NF.hl_spNew | exact NF.hl_spPX | exact NF.hl_spN | exact NF.hl_spNX | exact hl_spTextErr) (fun _ _ _ _ _ _ us hl => match us, hl with | [_], _ => rfl) (fun cdv A outer s H vs Q E hr h => ?_)
  refine ⟨_, (pss_cons (ps_if (pt_cmpR op_gt (pe_callB (id := "len") callLen (by rfl) T.b_len (by decide +kernel) (pa_cons (pv 0) pa_nil)) pe_int (nomark _))
      (pss_one (ps_ret (pe_tup (pa_cons pe_str (pa_cons pe_str pa_nil)))))
      pss_nil)
      (pss_one (ps_ret (pe_tup (pa_cons pe_str (pa_cons (pe_callB (id := "repr") callRepr (by rfl) T.b_repr (by decide +kernel) (pa_cons (pe_d D_law_fault (hr.mono (by decide)) rfl (pa_cons (pv 0) pa_nil)) pa_nil)) pa_nil)))))), ?_⟩
  try dsimp only [cxOf, Cx.nox, Cx.wish]
  obtain ⟨hl, ⟨z, rfl, hz, hno⟩, k⟩ := h
  have O := NF.Own.refl0 H
  have fin : ∀ (H1 : Hp) (p : Addr) (xs : List V), H p = none → (∀ way s, xs ++ [.bl true] = errE way z s) → Own H H1 [] [(p, .tup xs)] → Q (.ref p) H1 := fun H1 p xs hp e O =>
    k _ _ [(p, _)] (fun x hx => by rw [List.mem_singleton.mp hx]; exact hp) O ⟨z, p, xs, rfl, rfl, rfl, e⟩
  walk_at "go"
  refine NF.x_ite (fun h0 => ?_) (fun h0 => ?_)
  · walk_at "gw"
    refine NF.x_newT O (by decide +kernel) fun p H1 hp O => ?_
    refine fin _ p _ hp (fun way s => ?_) O
    unfold errE
    rw [if_pos (by omega)]
    rfl
  · walk_at "go"
    refine NF.use_spP (E := E0) O rfl ⟨z, rfl, hz⟩ fun v H1 O ⟨z2, ez, ev⟩ => ?_
    cases ez
    subst ev
    cases hf : flt (tl z) 0 [] with
    | none => exact absurd ⟨by omega, hf⟩ hno
    | some j =>
      unfold fv
      walk_at "gw"
      refine NF.x_repr (by have h1 := flt_le hf; have h2 := len_tl z; have h3 := log_small (j := j) (by omega); omega) ?_
      walk_at "gw"
      refine NF.x_newT O (by simp only [List.length_cons, List.length_nil, sizeLine_eq]; omega) fun p H1 hp O => ?_
      refine fin _ p _ hp (fun way s => ?_) O
      unfold errE
      rw [if_neg (by omega), hf]
      rfl

def spIs : Sp := spP 2 (fun vs => ∃ i j : Int, vs = [.int i, .int j]) (fun vs v => ∃ i j : Int, vs = [.int i, .int j] ∧ v = .bl (decide (i = j)))
abbrev NM_law_is : List Str := ["told", "due"]
theorem sc_law_is : FnScope NM_law_is ["told", "due"] (defScope s_law_is) := ⟨rfl, rfl, rfl, by decide +kernel, rfl, by decide +kernel, by decide +kernel⟩
theorem d_law_is (F : Fn0 K mg "_law_is" s_law_is) (T : Txt P K mg)  :
    Def P w K mg base 1 "_law_is" ["told", "due"] spIs := by
  refine Def.mk0 F sc_law_is (by first | exact NF.hl_spB | exact NF.hl_spP | exact NF.hl_spNew | exact NF.hl_spPX | exact NF.hl_spN | exact NF.hl_spNX | exact hl_spIs) (fun _ _ _ _ _ _ us hl => match us, hl with | [_, _], _ => rfl) (fun cdv A outer s H vs Q E hr h => ?_)
  refine ⟨_, (pss_one (ps_ret (pe_and (pe_callB callIsT (by rfl) T.b_isinstance (by decide +kernel) (pa_cons (pv 0) (pa_cons (pe_ty (n := "int") (by rfl) T.b_int (by decide +kernel)) pa_nil))) (pe_and (pe_not (pe_callB callIsT (by rfl) T.b_isinstance (by decide +kernel) (pa_cons (pv 0) (pa_cons (pe_ty (n := "bool") (by rfl) T.b_bool (by decide +kernel)) pa_nil)))) (pe_one (pe_cmpR op_eq (pv 0) (pv 1) (nomark _))))))), ?_⟩
  try dsimp only [cxOf, Cx.nox, Cx.wish]
  obtain ⟨hl, ⟨i, j, rfl⟩, k⟩ := h
  have O := NF.Own.refl0 H
  walk_at "go"
  refine k _ _ O ⟨i, j, rfl, ?_⟩
  simp

/-- two lists of the same numbers -/
def spNums : Sp := fun vs H Q _ => ∃ (a b : Addr) (xs : List Nat), vs = [.ref a, .ref b] ∧ xs.length ≤ 1000000 ∧ H a = some (.lst (xs.map nV)) ∧ H b = some (.lst (xs.map nV)) ∧ ∀ H', Own H H' [] [] → Q (.bl true) H'
theorem hl_spNums : ∀ vs H Q E, spNums vs H Q E → vs.length = 2 := fun vs H Q E ⟨_, _, _, e, _⟩ => by rw [e]; rfl
abbrev NM_law_numbers_same : List Str := ["told", "due", "k"]
theorem sc_law_numbers_same : FnScope NM_law_numbers_same ["told", "due"] (defScope s_law_numbers_same) := ⟨rfl, rfl, rfl, by decide +kernel, rfl, by decide +kernel, by decide +kernel⟩
theorem d_law_numbers_same (F : Fn0 K mg "_law_numbers_same" s_law_numbers_same) (T : Txt P K mg) (D_law_is : Def P w K mg base 1 "_law_is" ["told", "due"] spIs) :
    Def P w K mg base 2 "_law_numbers_same" ["told", "due"] spNums := by
  refine Def.mk0 F sc_law_numbers_same (by first | exact NF.hl_spB | exact NF.hl_spP | exact NF.hl_spNew | exact NF.hl_spPX | exact NF.hl_spN | exact NF.hl_spNX | exact hl_spNums) (fun _ _ _ _ _ _ us hl => match us, hl with | [_, _], _ => rfl) (fun cdv A outer s H vs Q E hr h => ?_)
  refine ⟨_, (pss_cons (ps_if (PW.pt (pw_or (pt_not (pt_val (pe_callB callIsT (by rfl) T.b_isinstance (by decide +kernel) (pa_cons (pv 0) (pa_cons (pe_ty (n := "list") (by rfl) T.b_list (by decide +kernel)) pa_nil))))) (pw_or1 (pt_cmpR op_ne (pe_callB (id := "len") callLen (by rfl) T.b_len (by decide +kernel) (pa_cons (pv 0) pa_nil)) (pe_callB (id := "len") callLen (by rfl) T.b_len (by decide +kernel) (pa_cons (pv 1) pa_nil)) (nomark _)))))
      (pss_one (ps_ret pe_bl))
      pss_nil)
      (pss_cons (ps_for PassesOwn.never rfl (pi_range1 (by rfl) T.b_range (pa_cons (pe_callB (id := "len") callLen (by rfl) T.b_len (by decide +kernel) (pa_cons (pv 1) pa_nil)) pa_nil)) (pg_name (i := 2) sc_law_numbers_same.nd rfl (Or.inl rfl))
      (pss_one (ps_if (pt_not (pt_val (pe_d D_law_is (hr.mono (by decide)) rfl (pa_cons (pe_ix ix_list (pv 0) (pv 2) (fun _ _ => rfl)) (pa_cons (pe_ix ix_list (pv 1) (pv 2) (fun _ _ => rfl)) pa_nil)))))
      (pss_one (ps_ret pe_bl))
      pss_nil)))
      (pss_one (ps_ret pe_bl)))), ?_⟩
  try dsimp only [cxOf, Cx.nox, Cx.wish]
  obtain ⟨a, b, xs, rfl, hx, ha, hb, k⟩ := h
  have O := NF.Own.refl0 H
  walk_at "go"
  refine NF.x_itnI (fun h => absurd rfl h) (fun _ => ?_)
  walk_at "go"
  refine NF.f_rng1 ⟨by rw [List.length_map]; omega, by rw [List.length_map]; omega⟩ (fun i σ H' => ∃ (u2 : Option V), σ = [some (.ref a), some (.ref b), u2] ∧ Own H H' [] []) ⟨_, rfl, O⟩ ?_ ?_
  · rintro i _ H2 hi ⟨u2, rfl, O⟩
    have hi2 : i < xs.length := by rw [List.length_map] at hi; omega
    obtain ⟨n, hn⟩ : ∃ n, xs[i]? = some n := ⟨_, List.getElem?_eq_getElem hi2⟩
    have hm : (xs.map nV)[i]? = some (nV n) := by rw [List.getElem?_map, hn]; rfl
    have ha := O.out a (by simp) _ ha
    have hb := O.out b (by simp) _ hb
    walk_at "go"
    refine NF.use_spP (E := E0) O rfl ⟨n, n, rfl⟩ fun v H1 O ⟨i1, j1, ez, ev⟩ => ?_
    cases ez
    subst ev
    walk_at "go"
    refine NF.x_itn (fun h => absurd rfl h) (fun _ => ?_)
    exact ⟨_, rfl, O⟩
  · rintro _ H2 ⟨u2, rfl, O⟩
    walk_at "go"
    exact k _ O


/-- two rows alike -/
def spRowSame : Sp := fun vs H Q _ => ∃ (a b : Addr) (l : List Nat) (i : Nat), vs = [.ref a, .ref b] ∧ H a = some (.tup (rowV l i)) ∧ H b = some (.tup (rowV l i)) ∧ ∀ H', Own H H' [] [] → Q (.bl true) H'
theorem hl_spRowSame : ∀ vs H Q E, spRowSame vs H Q E → vs.length = 2 := fun vs H Q E ⟨_, _, _, _, e, _⟩ => by rw [e]; rfl
abbrev NM_law_row_same : List Str := ["row", "due"]
theorem sc_law_row_same : FnScope NM_law_row_same ["row", "due"] (defScope s_law_row_same) := ⟨rfl, rfl, rfl, by decide +kernel, rfl, by decide +kernel, by decide +kernel⟩
theorem d_law_row_same (F : Fn0 K mg "_law_row_same" s_law_row_same) (T : Txt P K mg) (D_law_is : Def P w K mg base 1 "_law_is" ["told", "due"] spIs) :
    Def P w K mg base 2 "_law_row_same" ["row", "due"] spRowSame := by
  refine Def.mk0 F sc_law_row_same (by first | exact NF.hl_spB | exact NF.hl_spP | exact NF.hl_spNew | exact NF.hl_spPX | exact NF.hl_spN | exact NF.hl_spNX | exact hl_spRowSame) (fun _ _ _ _ _ _ us hl => match us, hl with | [_, _], _ => rfl) (fun cdv A outer s H vs Q E hr h => ?_)
  refine ⟨_, (pss_cons (ps_if (PW.pt (pw_or (pt_not (pt_val (pe_callB callIsT (by rfl) T.b_isinstance (by decide +kernel) (pa_cons (pv 0) (pa_cons (pe_ty (n := "tuple") (by rfl) T.b_tuple (by decide +kernel)) pa_nil))))) (pw_or1 (pt_cmpR op_ne (pe_callB (id := "len") callLen (by rfl) T.b_len (by decide +kernel) (pa_cons (pv 0) pa_nil)) pe_int (nomark _)))))
      (pss_one (ps_ret pe_bl))
      pss_nil)
      (pss_cons (ps_if (PW.pt (pw_or (pt_not (pt_val (pe_d D_law_is (hr.mono (by decide)) rfl (pa_cons (pe_ix ix_tup (pv 0) pe_int (fun _ _ => rfl)) (pa_cons (pe_ix ix_tup (pv 1) pe_int (fun _ _ => rfl)) pa_nil))))) (pw_or (pt_not (pt_val (pe_d D_law_is (hr.mono (by decide)) rfl (pa_cons (pe_ix ix_tup (pv 0) pe_int (fun _ _ => rfl)) (pa_cons (pe_ix ix_tup (pv 1) pe_int (fun _ _ => rfl)) pa_nil))))) (pw_or1 (pt_not (pt_val (pe_d D_law_is (hr.mono (by decide)) rfl (pa_cons (pe_ix ix_tup (pv 0) pe_int (fun _ _ => rfl)) (pa_cons (pe_ix ix_tup (pv 1) pe_int (fun _ _ => rfl)) pa_nil)))))))))
      (pss_one (ps_ret pe_bl))
      pss_nil)
      (pss_cons (ps_if (PW.pt (pw_or (pt_not (pt_val (pe_callB callIsT (by rfl) T.b_isinstance (by decide +kernel) (pa_cons (pe_ix ix_tup (pv 0) pe_int (fun _ _ => rfl)) (pa_cons (pe_ty (n := "str") (by rfl) T.b_str (by decide +kernel)) pa_nil))))) (pw_or1 (pt_cmpR op_ne (pe_ix ix_tup (pv 0) pe_int (fun _ _ => rfl)) (pe_ix ix_tup (pv 1) pe_int (fun _ _ => rfl)) (nomark _)))))
      (pss_one (ps_ret pe_bl))
      pss_nil)
      (pss_cons (ps_if (pt_cmpR opIsN (pe_ix ix_tup (pv 1) pe_int (fun _ _ => rfl)) pe_non (nomark _))
      (pss_one (ps_ret (pe_cmpR opIsN (pe_ix ix_tup (pv 0) pe_int (fun _ _ => rfl)) pe_non (nomark _))))
      pss_nil)
      (pss_one (ps_ret (pe_d D_law_is (hr.mono (by decide)) rfl (pa_cons (pe_ix ix_tup (pv 0) pe_int (fun _ _ => rfl)) (pa_cons (pe_ix ix_tup (pv 1) pe_int (fun _ _ => rfl)) pa_nil))))))))), ?_⟩
  try dsimp only [cxOf, Cx.nox, Cx.wish]
  obtain ⟨a, b, l, i, rfl, ha, hb, k⟩ := h
  have O := NF.Own.refl0 H
  have ha0 := ha
  have hb0 := hb
  walk_at "go"
  refine NF.x_itnI (fun h => absurd rfl h) (fun _ => ?_)
  walk_at "go"
  refine NF.use_spP (E := E0) O rfl ⟨_, _, rfl⟩ fun v H1 O ⟨i1, j1, ez, ev⟩ => ?_
  cases ez
  subst ev
  have ha := O.out a (by simp) _ ha0
  have hb := O.out b (by simp) _ hb0
  simp only [decide_true]
  walk_at "go"
  refine NF.use_spP (E := E0) O rfl ⟨_, _, rfl⟩ fun v H1 O ⟨i1, j1, ez, ev⟩ => ?_
  cases ez
  subst ev
  have ha := O.out a (by simp) _ ha0
  have hb := O.out b (by simp) _ hb0
  simp only [decide_true]
  walk_at "go"
  refine NF.use_spP (E := E0) O rfl ⟨_, _, rfl⟩ fun v H1 O ⟨i1, j1, ez, ev⟩ => ?_
  cases ez
  subst ev
  have ha := O.out a (by simp) _ ha0
  have hb := O.out b (by simp) _ hb0
  simp only [decide_true]
  walk_at "go"
  refine NF.x_itn (fun h => absurd rfl h) (fun _ => ?_)
  walk_at "go"
  refine NF.x_ite (fun h => ?_) (fun h => ?_)
  · walk_at "go"
    rw [decide_eq_true h]
    exact k _ O
  · walk_at "go"
    obtain ⟨n, hn⟩ : ∃ n : Nat, fv (par l i) = .int n := by
      cases hp : par l i with
      | none => rw [hp] at h; exact absurd rfl h
      | some n => exact ⟨n, rfl⟩
    rw [hn]
    refine NF.use_spP (E := E0) O rfl ⟨_, _, rfl⟩ fun v H1 O ⟨i1, j1, ez, ev⟩ => ?_
    cases ez
    subst ev
    rw [decide_eq_true rfl]
    exact k _ O

/-- two lists of the same rows; both stand in the heap at the start -/
def RwsAt (H : Hp) (l : List Nat) (p : Addr) : Prop := ∃ ts : List Addr, ts.length = (ixs l l.length).length ∧ H p = some (.lst (ts.map V.ref)) ∧ ∀ (i : Nat) (t : Addr) (a : Nat), ts[i]? = some t → (ixs l l.length)[i]? = some a → H t = some (.tup (rowV l a))
theorem RwsAt.keep {H H' : Hp} {l : List Nat} {p : Addr} (R : RwsAt H l p) (O : Own H H' [] []) : RwsAt H' l p := by
  obtain ⟨ts, h1, h2, h3⟩ := R
  exact ⟨ts, h1, O.out p (by simp) _ h2, fun i t a q1 q2 => O.out t (by simp) _ (h3 i t a q1 q2)⟩
def spRowsSame : Sp := fun vs H Q _ => ∃ (a b : Addr) (l : List Nat), vs = [.ref a, .ref b] ∧ l.length ≤ 1000000 ∧ RwsAt H l a ∧ RwsAt H l b ∧ ∀ H', Own H H' [] [] → Q (.bl true) H'
theorem hl_spRowsSame : ∀ vs H Q E, spRowsSame vs H Q E → vs.length = 2 := fun vs H Q E ⟨_, _, _, e, _⟩ => by rw [e]; rfl
abbrev NM_law_rows_same : List Str := ["told", "rows", "k"]
theorem sc_law_rows_same : FnScope NM_law_rows_same ["told", "rows"] (defScope s_law_rows_same) := ⟨rfl, rfl, rfl, by decide +kernel, rfl, by decide +kernel, by decide +kernel⟩
theorem d_law_rows_same (F : Fn0 K mg "_law_rows_same" s_law_rows_same) (T : Txt P K mg) (D_law_row_same : Def P w K mg base 2 "_law_row_same" ["row", "due"] spRowSame) :
    Def P w K mg base 3 "_law_rows_same" ["told", "rows"] spRowsSame := by
  refine Def.mk0 F sc_law_rows_same (by first | exact NF.hl_spB | exact NF.hl_spP | exact NF.hl_spNew | exact NF.hl_spPX | exact NF.hl_spN | exact NF.hl_spNX | exact hl_spRowsSame) (fun _ _ _ _ _ _ us hl => match us, hl with | [_, _], _ => rfl) (fun cdv A outer s H vs Q E hr h => ?_)
  refine ⟨_, (pss_cons (ps_if (PW.pt (pw_or (pt_not (pt_val (pe_callB callIsT (by rfl) T.b_isinstance (by decide +kernel) (pa_cons (pv 0) (pa_cons (pe_ty (n := "list") (by rfl) T.b_list (by decide +kernel)) pa_nil))))) (pw_or1 (pt_cmpR op_ne (pe_callB (id := "len") callLen (by rfl) T.b_len (by decide +kernel) (pa_cons (pv 0) pa_nil)) (pe_callB (id := "len") callLen (by rfl) T.b_len (by decide +kernel) (pa_cons (pv 1) pa_nil)) (nomark _)))))
      (pss_one (ps_ret pe_bl))
      pss_nil)
      (pss_cons (ps_for PassesOwn.never rfl (pi_range1 (by rfl) T.b_range (pa_cons (pe_callB (id := "len") callLen (by rfl) T.b_len (by decide +kernel) (pa_cons (pv 1) pa_nil)) pa_nil)) (pg_name (i := 2) sc_law_rows_same.nd rfl (Or.inl rfl))
      (pss_one (ps_if (pt_not (pt_val (pe_d D_law_row_same (hr.mono (by decide)) rfl (pa_cons (pe_ix ix_list (pv 0) (pv 2) (fun _ _ => rfl)) (pa_cons (pe_ix ix_list (pv 1) (pv 2) (fun _ _ => rfl)) pa_nil)))))
      (pss_one (ps_ret pe_bl))
      pss_nil)))
      (pss_one (ps_ret pe_bl)))), ?_⟩
  try dsimp only [cxOf, Cx.nox, Cx.wish]
  obtain ⟨a, b, l, rfl, hl, ha, hb, k⟩ := h
  have O := NF.Own.refl0 H
  have ha0 := ha
  have hb0 := hb
  obtain ⟨ta, la, ga, ra⟩ := ha
  obtain ⟨tb, lb, gb, rb⟩ := hb
  have hix := ixs_len l l.length
  walk_at "go"
  refine NF.x_itnI (fun h => absurd (by rw [List.length_map, List.length_map, la, lb]) h) (fun _ => ?_)
  walk_at "go"
  refine NF.f_rng1 ⟨by rw [List.length_map]; omega, by rw [List.length_map]; omega⟩ (fun i σ H' => ∃ (u2 : Option V), σ = [some (.ref a), some (.ref b), u2] ∧ Own H H' [] []) ⟨_, rfl, O⟩ ?_ ?_
  · rintro i _ H2 hi ⟨u2, rfl, O⟩
    have hi2 : i < (ixs l l.length).length := by rw [List.length_map] at hi; omega
    obtain ⟨n, hn⟩ : ∃ n, (ixs l l.length)[i]? = some n := ⟨_, List.getElem?_eq_getElem hi2⟩
    obtain ⟨t1, h1⟩ : ∃ t, ta[i]? = some t := ⟨_, List.getElem?_eq_getElem (by omega)⟩
    obtain ⟨t2, h2⟩ : ∃ t, tb[i]? = some t := ⟨_, List.getElem?_eq_getElem (by omega)⟩
    have m1 : (ta.map V.ref)[i]? = some (.ref t1) := by rw [List.getElem?_map, h1]; rfl
    have m2 : (tb.map V.ref)[i]? = some (.ref t2) := by rw [List.getElem?_map, h2]; rfl
    have ga := O.out a (by simp) _ ga
    have gb := O.out b (by simp) _ gb
    walk_at "go"
    refine ⟨t1, t2, l, n, rfl, O.out t1 (by simp) _ (ra i t1 n h1 hn), O.out t2 (by simp) _ (rb i t2 n h2 hn), fun H3 O3 => ?_⟩
    have O := O.call0 O3
    walk_at "go"
    exact ⟨_, rfl, O⟩
  · rintro _ H2 ⟨u2, rfl, O⟩
    walk_at "go"
    exact k _ O


/-- a row of the law's own, behind i letters -/
def rowL (l : List Nat) (i a : Nat) : List V := [nV a, nV (if pt l a < i then pt l a else a), ch (l.getD a 0), nV (stk l a).length, fv (par l a)]
theorem ixs_at {l : List Nat} {a : Nat} (h : lowAt l a = true) : ∀ {i : Nat}, a < i → (ixs l i)[(ixs l a).length]? = some a
  | 0, q => absurd q (Nat.not_lt_zero _)
  | i + 1, q => by
    by_cases e : a = i
    · subst e
      rw [ixs_succ, h]
      simp
    · have ih := ixs_at h (i := i) (by omega)
      have hi := (List.getElem?_eq_some_iff.mp ih).1
      rw [ixs_succ, List.getElem?_append_left hi]
      exact ih
theorem ixs_mem {l : List Nat} {i a : Nat} (h : a ∈ ixs l i) : a < i ∧ lowAt l a = true := by
  have q := List.mem_filter.mp h
  exact ⟨List.mem_range.mp q.1, q.2⟩
theorem ixs_inj {l : List Nat} {i j k a : Nat} (h1 : (ixs l i)[j]? = some a) (h2 : (ixs l i)[k]? = some a) : j = k := by
  have nd : (ixs l i).Nodup := (List.nodup_range (n := i)).sublist List.filter_sublist
  obtain ⟨q1, e1⟩ := List.getElem?_eq_some_iff.mp h1
  obtain ⟨q2, e2⟩ := List.getElem?_eq_some_iff.mp h2
  by_cases z : j = k
  · exact z
  · rcases Nat.lt_or_gt_of_ne z with q | q
    · exact absurd (e1.trans e2.symm) (List.pairwise_iff_getElem.mp nd j k q1 q2 q)
    · exact absurd (e2.trans e1.symm) (List.pairwise_iff_getElem.mp nd k j q2 q1 q)
/-- which partners lie at i -/
theorem pt_at_low {l : List Nat} {i a c d : Nat} {ps : List Nat} (S : Stk l i ps) (hc : l[i]? = some c) (h : low c) (hd : l[a]? = some d) (hlo : low d) : pt l a ≠ i := fun e => by
  have hlt : a < i := by unfold pt at e; omega
  rcases S.all a d hlt hd hlo with q | q
  · obtain ⟨j, hj⟩ := List.getElem?_of_mem q
    have h2 := (S.dep j a hj).2.1
    rw [drop_at hc, cl_low h] at h2
    omega
  · omega
theorem pt_at_up {l : List Nat} {i a b d : Nat} {ps : List Nat} (S : Stk l i (b :: ps)) (S' : Stk l (i + 1) ps) (hd : l[a]? = some d) (hlo : low d) (e : pt l a = i) : a = b := by
  have hlt : a < i := by unfold pt at e; omega
  rcases S.all a d hlt hd hlo with q | q
  · rcases List.mem_cons.mp q with q | q
    · exact q
    · obtain ⟨j, hj⟩ := List.getElem?_of_mem q
      have h2 := (S'.dep j a hj).2.1
      omega
  · omega
theorem low_of_lowAt {l : List Nat} {a : Nat} (h : lowAt l a = true) : ∃ d, l[a]? = some d ∧ low d := by
  unfold lowAt at h
  cases hd : l[a]? with
  | none => rw [hd] at h; cases h
  | some d => rw [hd] at h; exact ⟨d, rfl, of_decide_eq_true h⟩
theorem rowL_low {l : List Nat} {i a c : Nat} {ps : List Nat} (S : Stk l i ps) (hc : l[i]? = some c) (h : low c) (ha : lowAt l a = true) : rowL l (i + 1) a = rowL l i a := by
  obtain ⟨d, hd, hlo⟩ := low_of_lowAt ha
  have n := pt_at_low S hc h hd hlo
  have e : (pt l a < i + 1) = (pt l a < i) := propext ⟨fun q => by omega, fun q => by omega⟩
  unfold rowL
  simp only [e]
theorem rowL_up {l : List Nat} {i a b : Nat} {ps : List Nat} (S : Stk l i (b :: ps)) (S' : Stk l (i + 1) ps) (ha : lowAt l a = true) (n : a ≠ b) : rowL l (i + 1) a = rowL l i a := by
  obtain ⟨d, hd, hlo⟩ := low_of_lowAt ha
  have n : pt l a ≠ i := fun e => n (pt_at_up S S' hd hlo e)
  have e : (pt l a < i + 1) = (pt l a < i) := propext ⟨fun q => by omega, fun q => by omega⟩
  unfold rowL
  simp only [e]
theorem rowL_end {l : List Nat} {a : Nat} (h : pt l a < l.length) : rowL l l.length a = rowV l a := by
  unfold rowL rowV
  rw [if_pos h]
def rowsL (l : List Nat) (i : Nat) : List HO := (ixs l i).map fun a => HO.lst (rowL l i a)
theorem rowsL_low {l : List Nat} {i c : Nat} {ps : List Nat} (S : Stk l i ps) (hc : l[i]? = some c) (h : low c) : rowsL l (i + 1) = rowsL l i ++ [.lst [nV i, nV i, ch (l.getD i 0), nV (stk l i).length, fv (par l i)]] := by
  have hlow : lowAt l i = true := by rw [lowAt_of hc]; exact decide_eq_true h
  unfold rowsL
  rw [ixs_succ, hlow, if_pos rfl, List.map_append]
  congr 1
  · exact List.map_congr_left fun a ha => by rw [rowL_low S hc h (ixs_mem ha).2]
  · have n : ¬ pt l i < i + 1 := by unfold pt; omega
    show [HO.lst (rowL l (i + 1) i)] = _
    unfold rowL
    rw [if_neg n]
theorem rowsL_up {l : List Nat} {i c b j : Nat} {ps : List Nat} (S : Stk l i (b :: ps)) (S' : Stk l (i + 1) ps) (hc : l[i]? = some c) (h : ¬ low c) (hb : (ixs l i)[j]? = some b) (e : pt l b = i) : rowsL l (i + 1) = (rowsL l i).set j (.lst ((rowL l i b).set 1 (nV i))) := by
  have hlow : lowAt l i = false := by rw [lowAt_of hc]; exact decide_eq_false h
  unfold rowsL
  rw [ixs_succ, hlow, if_neg Bool.false_ne_true, List.append_nil]
  apply List.ext_getElem?
  intro k
  by_cases hk : k = j
  · subst hk
    have q := (List.getElem?_eq_some_iff.mp hb).1
    rw [List.getElem?_map, hb, List.getElem?_set_self (by rw [List.length_map]; exact q)]
    show some (HO.lst (rowL l (i + 1) b)) = some (HO.lst ((rowL l i b).set 1 (nV i)))
    unfold rowL
    rw [if_pos (show pt l b < i + 1 by omega), e]
    rfl
  · rw [List.getElem?_set_ne (fun q => hk q.symm), List.getElem?_map, List.getElem?_map]
    cases ha : (ixs l i)[k]? with
    | none => rfl
    | some a =>
      have m := ixs_mem (List.mem_of_getElem? ha)
      have n : a ≠ b := fun q => hk (ixs_inj ha (by rw [q]; exact hb))
      show some (HO.lst (rowL l (i + 1) a)) = some (HO.lst (rowL l i a))
      rw [rowL_up S S' m.2 n]
theorem zip_set {ts : List Addr} {xs : List HO} {j : Nat} {t : Addr} {u : HO} (h : ts[j]? = some t) (hl : ts.length = xs.length) : (ts.zip xs).set j (t, u) = ts.zip (xs.set j u) := by
  apply List.ext_getElem?
  intro k
  by_cases hk : k = j
  · subst hk
    have q := (List.getElem?_eq_some_iff.mp h).1
    rw [List.getElem?_set_self (by rw [List.length_zip, ← hl, Nat.min_self]; exact q)]
    exact (List.getElem?_zip_eq_some.mpr ⟨h, List.getElem?_set_self (by rw [← hl]; exact q)⟩).symm
  · rw [List.getElem?_set_ne (fun q => hk q.symm)]
    unfold List.zip
    rw [List.getElem?_zipWith, List.getElem?_zipWith, List.getElem?_set_ne (fun q => hk q.symm)]
theorem Own.shift {B H : Hp} {M R : List (Addr × HO)} {x : Addr × HO} (O : Own B H M (R ++ [x])) : Own B H (M ++ [x]) R := by
  have e : (M ++ (R ++ [x])).Perm (M ++ [x] ++ R) := by
    rw [List.append_assoc]
    exact List.Perm.append_left M List.perm_append_comm
  exact ⟨(e.map Prod.fst).nodup_iff.mp O.nd, fun y hy => O.at_ y (e.mem_iff.mpr hy), fun b hb o q => O.out b (fun z => hb ((e.map Prod.fst).mem_iff.mp z)) o q⟩
def rTupOf (K : PySem.W.Frag) : List V → Hp → VK → Prop := fun xs H Q => ∃ p ys, xs = [.ref p] ∧ ((SqL K H p ys ∧ ∀ l, H l = none → Q (.ref l) (upd H l (.tup ys))) ∨ (SqT K H p ys ∧ Q (.ref p) H))
theorem callTupleOf {X : Cx} : CallR X (.type "tuple") (rTupOf X.K) := call_tuple_of
theorem x_tupOf {B H : Hp} {M R : List (Addr × HO)} {K : PySem.W.Frag} {a : Addr} {xs : List V} {Q : VK} (O : Own B H M R) (h : H a = some (.lst xs)) (q : ∀ p H1, B p = none → Own B H1 M (R ++ [(p, .tup xs)]) → Q (.ref p) H1) : rTupOf K [.ref a] H Q :=
  ⟨a, xs, rfl, .inl ⟨SqL.of h, fun l hl => q l _ (O.base_free hl) (O.new hl)⟩⟩
theorem Own.toOpen {B H : Hp} {M R R' : List (Addr × HO)} (O : Own B H M R) (e : (M ++ R).Perm R') : Own B H [] R' := by
  have e : (M ++ R).Perm ([] ++ R') := e
  exact ⟨(e.map Prod.fst).nodup_iff.mp O.nd, fun y hy => O.at_ y (e.mem_iff.mpr hy), fun b hb o q => O.out b (fun z => hb ((e.map Prod.fst).mem_iff.mp z)) o q⟩
abbrev NM_law_rows : List Str := ["text", "rows", "line", "at", "parent", "row"]
theorem sc_law_rows : FnScope NM_law_rows ["text"] (defScope s_law_rows) := ⟨rfl, rfl, rfl, by decide +kernel, rfl, by decide +kernel, by decide +kernel⟩
theorem d_law_rows (F : Fn0 K mg "_law_rows" s_law_rows) (T : Txt P K mg)  :
    Def P w K mg base 1 "_law_rows" ["text"] spRows := by
  refine Def.mk0 F sc_law_rows (by first | exact NF.hl_spB | exact NF.hl_spP | exact NF.hl_spNew | exact NF.hl_spPX | exact NF.hl_spN | exact NF.hl_spNX | exact hl_spRows) (fun _ _ _ _ _ _ us hl => match us, hl with | [_], _ => rfl) (fun cdv A outer s H vs Q E hr h => ?_)
  refine ⟨_, (pss_cons (ps_set (i := 1) sc_law_rows.nd rfl (Or.inl rfl) (pe_lst pa_nil))
      (pss_cons (ps_set (i := 2) sc_law_rows.nd rfl (Or.inl rfl) (pe_lst pa_nil))
      (pss_cons (ps_for PassesOwn.never rfl (pi_range1 (by rfl) T.b_range (pa_cons (pe_callB (id := "len") callLen (by rfl) T.b_len (by decide +kernel) (pa_cons (pv 0) pa_nil)) pa_nil)) (pg_name (i := 3) sc_law_rows.nd rfl (Or.inl rfl))
      (pss_one (ps_if (pt_cmpR opInC (pe_ix ix_str (pv 0) (pv 3) (fun _ _ => rfl)) pe_str (by rfl))
      (pss_cons (ps_set (i := 4) sc_law_rows.nd rfl (Or.inl rfl) pe_non)
      (Evl.pss_cut (ps_if (pt_cmpR op_gt (pe_callB (id := "len") callLen (by rfl) T.b_len (by decide +kernel) (pa_cons (pv 2) pa_nil)) pe_int (nomark _))
      (pss_one (ps_set (i := 4) sc_law_rows.nd rfl (Or.inl rfl) (pe_ix ix_list (pe_ix ix_list (pv 1) (pe_ix ix_list (pv 2) (pe_un un_neg pe_int) (fun _ _ => rfl)) (fun _ _ => rfl)) pe_int (fun _ _ => rfl))))
      pss_nil)
      (pss_cons (ps_expr (pe_bm PySem.F.plainAttrs_list PySem.F.slot_list_append PySem.F.type_list_append mt_append (pv 1) (pa_cons (pe_lst (pa_cons (pv 3) (pa_cons (pv 3) (pa_cons (pe_ix ix_str (pv 0) (pv 3) (fun _ _ => rfl)) (pa_cons (pe_callB (id := "len") callLen (by rfl) T.b_len (by decide +kernel) (pa_cons (pv 2) pa_nil)) (pa_cons (pv 4) pa_nil)))))) pa_nil)))
      (pss_one (ps_expr (pe_bm PySem.F.plainAttrs_list PySem.F.slot_list_append PySem.F.type_list_append mt_append (pv 2) (pa_cons (pe_op op_sub (pe_callB (id := "len") callLen (by rfl) T.b_len (by decide +kernel) (pa_cons (pv 1) pa_nil)) pe_int) pa_nil)))))))
      (pss_cons (ps_set (i := 5) sc_law_rows.nd rfl (Or.inl rfl) (pe_ix ix_list (pv 1) (pe_bm0 PySem.F.plainAttrs_list PySem.F.slot_list_pop PySem.F.type_list_pop mt_pop (pv 2)) (fun _ _ => rfl)))
      (pss_one (ps_asg (pv 3) (pg_sub (pv 5) pe_int set_list)))))))
      (pss_one (ps_ret (pe_lc (own := [("row", 5)]) (g := gName 5) rfl sc_law_rows.nd (pi_list (pv 1)) (blkOk_by (own := [("row", 5)]) (N := NM_law_rows) (sc := defScope s_law_rows) (by decide +kernel)) (fun _ _ _ _ _ => pg_name (i := 5) sc_law_rows.nd rfl (Or.inl rfl)) (fun _ _ _ _ _ => pts_nil) (fun _ _ _ _ _ => (pe_callTy (T := "tuple") (r := rTupOf K) callTupleOf (by rfl) T.b_tuple (by decide +kernel) (pa_cons (pv 5) pa_nil))))))))), ?_⟩
  try dsimp only [cxOf, Cx.nox, Cx.wish]
  obtain ⟨hl, ⟨z, rfl, hz, hr⟩, k⟩ := h
  have O := NF.Own.refl0 H
  walk_at "gn"
  refine NF.x_newL O (by decide +kernel) fun pr H1 hpr O => ?_
  walk_at "nO"
  walk_at "gw"
  refine NF.x_newL O (by decide +kernel) fun pl H1 hpl O => ?_
  walk_at "nO"
  walk_at "gw"
  refine NF.f_rng1 ⟨by omega, by omega⟩ (fun i σ H' => ∃ (u3 u4 u5 : Option V) (ts : List Addr), σ = [some (.str z), some (.ref pr), some (.ref pl), u3, u4, u5] ∧
    Own H H' [] ((pr, .lst (ts.map V.ref)) :: (pl, .lst ((stk (tl z) i).reverse.map fun a => nV (ixs (tl z) a).length)) :: ts.zip (rowsL (tl z) i)) ∧ ts.length = (ixs (tl z) i).length ∧ (∀ t ∈ ts, H t = none)) ⟨_, _, _, [], rfl, O, rfl, fun t h => absurd h List.not_mem_nil⟩ ?_ ?_
  · rintro i _ H2 hi ⟨u3, u4, u5, ts, rfl, O, hts, hfr⟩
    have hi : i < z.length := by omega
    have hlen : i < (tl z).length := by rw [← len_tl]; exact hi
    obtain ⟨c, hc⟩ : ∃ c, (tl z)[i]? = some c := ⟨_, List.getElem?_eq_getElem hlen⟩
    have S := stk_ok hr (Nat.le_of_lt hlen)
    have hst := S.len
    have hix := ixs_len (tl z) i
    have lmap : ((stk (tl z) i).reverse.map fun a => nV (ixs (tl z) a).length).length = (stk (tl z) i).length := by simp
    walk_at "gw"
    refine NF.x_ite (fun h0 => ?_) (fun h0 => ?_)
    · rw [tl_names, mem_lo] at h0
      have hlow : lowAt (tl z) i = true := by rw [lowAt_of hc]; exact decide_eq_true h0
      have ei : ixs (tl z) (i + 1) = ixs (tl z) i ++ [i] := by rw [ixs_succ, hlow]; rfl
      walk_at "gw"
      refine NF.x_cut (fun σ H' => ∃ (u5 : Option V), σ = [some (.str z), some (.ref pr), some (.ref pl), some (.int (i : Int)), some (fv (par (tl z) i)), u5] ∧
        Own H H' [] ((pr, .lst (ts.map V.ref)) :: (pl, .lst ((stk (tl z) i).reverse.map fun a => nV (ixs (tl z) a).length)) :: ts.zip (rowsL (tl z) i))) ?_ ?_
      · walk_at "gw"
        cases hs : stk (tl z) i with
        | nil =>
          rw [hs] at O
          walk_at "gw"
          refine NF.x_ite (fun h => by simp at h) (fun _ => ?_)
          walk_at "gw"
          exact ⟨_, by rw [par, hs]; rfl, O⟩
        | cons a ps =>
          rw [hs] at S O
          obtain ⟨ha1, _, ha3, ha4⟩ := S.dep 0 a rfl
          have hla : lowAt (tl z) a = true := by
            rw [lowAt_of (List.getElem?_eq_getElem ha4)]
            have e := getD_at (l := tl z) (i := a) (List.getElem?_eq_getElem ha4)
            rw [e] at ha3
            exact decide_eq_true ha3
          have hj := ixs_at hla ha1
          have hjl := (List.getElem?_eq_some_iff.mp hj).1
          obtain ⟨t, ht⟩ : ∃ t, ts[(ixs (tl z) a).length]? = some t := ⟨_, List.getElem?_eq_getElem (by omega)⟩
          have hm : (ts.map V.ref)[(ixs (tl z) a).length]? = some (.ref t) := by rw [List.getElem?_map, ht]; rfl
          have hT : (t, HO.lst (rowL (tl z) i a)) ∈ ts.zip (rowsL (tl z) i) := List.mem_iff_getElem?.mpr ⟨_, by
            unfold rowsL
            rw [List.getElem?_zip_eq_some]
            exact ⟨ht, by rw [List.getElem?_map, hj]; rfl⟩⟩
          have er : ((a :: ps).reverse.map fun a => nV (ixs (tl z) a).length) = (ps.reverse.map fun a => nV (ixs (tl z) a).length) ++ [nV (ixs (tl z) a).length] := by rw [List.reverse_cons, List.map_append]; rfl
          rw [er] at O
          walk_at "gw"
          refine NF.x_ite (fun _ => ?_) (fun h => by simp at h)
          walk_at "gw"
          refine' NF.x_ixL ?h (L2.atI_last _ _) ?_
          (case h => walk_at "own")
          walk_at "gw"
          refine NF.x_ixL (O.mem (List.mem_cons_of_mem _ (List.mem_cons_of_mem _ hT))) rfl ?_
          walk_at "gw"
          exact ⟨_, by rw [par, hs]; rfl, by rw [er]; exact O⟩
      · rintro _ H3 ⟨u5, rfl, O⟩
        walk_at "gw"
        refine NF.x_newL O (by simp only [List.length_cons, List.length_nil, sizeLine_eq]; omega) fun t H4 ht O => ?_
        walk_at "nO"
        walk_at "gw"
        have e1 : (((ts.map V.ref ++ [V.ref t]).length : Nat) : Int) - 1 = ((ixs (tl z) i).length : Int) := by simp [hts]
        rw [e1, lmap] at O
        refine ⟨_, _, _, ts ++ [t], rfl, ?_, by rw [ei, List.length_append, List.length_append, hts]; rfl, fun u hu => ?_⟩
        · rw [stk_low hc h0, rowsL_low S hc h0, List.map_append, List.zip_append (by unfold rowsL; rw [List.length_map, hts]), List.reverse_cons, List.map_append, getD_at hc]
          exact O
        · rcases List.mem_append.mp hu with hu | hu
          · exact hfr u hu
          · rw [List.mem_singleton.mp hu]; exact ht
    · rw [tl_names, mem_lo] at h0
      obtain ⟨a, st', e, S', ea, ha, _⟩ := S.pop hr hc h0
      rw [e] at S O
      have hlow : lowAt (tl z) i = false := by rw [lowAt_of hc]; exact decide_eq_false h0
      have ei : ixs (tl z) (i + 1) = ixs (tl z) i := by rw [ixs_succ, hlow]; simp
      obtain ⟨ha1, _, ha3, ha4⟩ := S.dep 0 a rfl
      have hla : lowAt (tl z) a = true := by
        rw [lowAt_of (List.getElem?_eq_getElem ha4)]
        have e := getD_at (l := tl z) (i := a) (List.getElem?_eq_getElem ha4)
        rw [e] at ha3
        exact decide_eq_true ha3
      have hj := ixs_at hla ha1
      have hjl := (List.getElem?_eq_some_iff.mp hj).1
      obtain ⟨t, ht⟩ : ∃ t, ts[(ixs (tl z) a).length]? = some t := ⟨_, List.getElem?_eq_getElem (by omega)⟩
      have hm : (ts.map V.ref)[(ixs (tl z) a).length]? = some (.ref t) := by rw [List.getElem?_map, ht]; rfl
      have hT : (ts.zip (rowsL (tl z) i))[(ixs (tl z) a).length]? = some (t, HO.lst (rowL (tl z) i a)) := by
        unfold rowsL
        rw [List.getElem?_zip_eq_some]
        exact ⟨ht, by rw [List.getElem?_map, hj]; rfl⟩
      have er : ((a :: st').reverse.map fun a => nV (ixs (tl z) a).length) = (st'.reverse.map fun a => nV (ixs (tl z) a).length) ++ [nV (ixs (tl z) a).length] := by rw [List.reverse_cons, List.map_append]; rfl
      rw [er] at O
      walk_at "gw"
      refine NF.x_pop O 1 rfl (v := nV (ixs (tl z) a).length) (by simp) fun H4 O => ?_
      walk_at "nO"
      rw [List.dropLast_concat] at O
      walk_at "gw"
      refine NF.x_setL O ((ixs (tl z) a).length + 2) (by exact hT) (n := 1) rfl fun H5 O => ?_
      refine ⟨_, _, _, ts, rfl, ?_, by rw [ei]; exact hts, hfr⟩
      rw [stk_up hc h0, e, List.tail_cons, rowsL_up S S' hc h0 hj ea, ← zip_set ht (by unfold rowsL; rw [List.length_map, hts])]
      exact O
  · rintro _ H2 ⟨u3, u4, u5, ts, rfl, O, hts, hfr⟩
    have e0 : ((z.length : Nat) : Int).toNat = (tl z).length := by rw [len_tl]; rfl
    rw [e0] at O hts
    have es := (stk_ok hr (Nat.le_refl _)).done hr (Nat.le_refl _)
    rw [es] at O
    walk_at "gw"
    have hix := ixs_len (tl z) (tl z).length
    have hlz := len_tl z
    have hend : ∀ a ∈ ixs (tl z) (tl z).length, rowL (tl z) (tl z).length a = rowV (tl z) a := fun a ha => by
      have m := ixs_mem ha
      obtain ⟨d, hd, hlo⟩ := low_of_lowAt m.2
      have S := stk_ok hr (Nat.le_refl _)
      rw [es] at S
      rcases S.all a d m.1 hd hlo with q | q
      · exact absurd q List.not_mem_nil
      · exact rowL_end q
    refine NF.lc_lst (SqL.of (O.mem (List.mem_cons_self ..))) O (fun i acc M' => ∃ ts2 : List Addr, acc = ts2.map V.ref ∧ M' = ts2.zip (((ixs (tl z) (tl z).length).take i).map fun a => HO.tup (rowV (tl z) a)) ∧ ts2.length = i ∧ ∀ t ∈ ts2, H t = none)
      (fun H' M' p' acc O' => SqL.of (O'.mem (List.mem_append_left _ (List.mem_cons_self ..)))) ⟨[], rfl, rfl, rfl, fun t h => absurd h List.not_mem_nil⟩ (fun i x H' M' p' acc hx hl hP O' => ?_) fun p' H' M' acc hp' hl hP O' => ?_
    · obtain ⟨t, ht, rfl⟩ : ∃ t, ts[i]? = some t ∧ V.ref t = x := by
        rw [List.getElem?_map] at hx
        cases h : ts[i]? with
        | none => rw [h] at hx; cases hx
        | some t => rw [h] at hx; exact ⟨t, rfl, Option.some.inj hx⟩
      obtain ⟨ts2, rfl, rfl, hl2, hf2⟩ := hP
      have hi : i < ts.length := (List.getElem?_eq_some_iff.mp ht).1
      obtain ⟨a, ha⟩ : ∃ a, (ixs (tl z) (tl z).length)[i]? = some a := ⟨_, List.getElem?_eq_getElem (by omega)⟩
      have hm : (t, HO.lst (rowL (tl z) (tl z).length a)) ∈ ts.zip (rowsL (tl z) (tl z).length) := List.mem_iff_getElem?.mpr ⟨i, by
        unfold rowsL
        rw [List.getElem?_zip_eq_some]
        exact ⟨ht, by rw [List.getElem?_map, ha]; rfl⟩⟩
      have hT := O'.mem (List.mem_append_left _ (List.mem_cons_of_mem _ (List.mem_cons_of_mem _ hm)))
      rw [hend a (List.mem_of_getElem? ha)] at hT
      walk_at "gw"
      refine NF.x_tupOf O' hT fun t2 H4 ht2 O => ?_
      refine NF.lc_done O.shift hl (by rw [sizeLine_eq]; omega) ⟨ts2 ++ [t2], by rw [List.map_append]; rfl, ?_, by rw [List.length_append, hl2]; rfl, fun u hu => ?_⟩
      · rw [take_snoc' ha, List.map_append, List.zip_append (by rw [List.length_map, List.length_take, hl2]; omega)]
        rfl
      · rcases List.mem_append.mp hu with hu | hu
        · exact hf2 u hu
        · rw [List.mem_singleton.mp hu]; exact ht2
    · obtain ⟨ts2, rfl, rfl, hl2, hf2⟩ := hP
      have el : (ts.map V.ref).length = (ixs (tl z) (tl z).length).length := by rw [List.length_map, hts]
      rw [el] at O' hl2
      rw [List.take_length] at O'
      refine k _ _ ((p', .lst (ts2.map V.ref)) :: ts2.zip (tups (tl z) (tl z).length)) (fun x hx => ?_) ?_ ⟨z, p', rfl, rfl, ts2, hl2, rfl⟩
      · rcases List.mem_cons.mp hx with rfl | hx
        · exact hp'
        · exact hf2 _ (List.of_mem_zip hx).1
      · have O := O'.toOpen (R' := ((pr, .lst (ts.map V.ref)) :: (pl, .lst []) :: ts.zip (rowsL (tl z) (tl z).length)) ++ ((p', .lst (ts2.map V.ref)) :: ts2.zip (tups (tl z) (tl z).length))) (by
          refine List.perm_append_comm.trans ?_
          rw [List.append_assoc]
          rfl)
        exact Own.dropTo O (fun x hx => by
          rcases List.mem_cons.mp hx with rfl | hx
          · exact hpr
          rcases List.mem_cons.mp hx with rfl | hx
          · exact hpl
          · exact hfr _ (List.of_mem_zip hx).1)


/-- the open places, in order -/
theorem stk_filter {l : List Nat} (hr : run l [] = some []) : ∀ {i : Nat}, i ≤ l.length → (ixs l i).filter (fun b => decide (b ∈ stk l i)) = (stk l i).reverse
  | 0, _ => rfl
  | i + 1, h => by
    have ih := stk_filter hr (i := i) (by omega)
    have S := stk_ok hr (i := i) (by omega)
    obtain ⟨c, hc⟩ : ∃ c, l[i]? = some c := ⟨_, List.getElem?_eq_getElem (by omega)⟩
    by_cases hl : low c
    · have hlow : lowAt l i = true := by rw [lowAt_of hc]; exact decide_eq_true hl
      rw [stk_low hc hl, ixs_succ, hlow, if_pos rfl, List.filter_append, List.reverse_cons, ← ih]
      congr 1
      · refine List.filter_congr fun b hb => ?_
        have hb := (ixs_mem hb).1
        exact decide_eq_decide.mpr ⟨fun q => (List.mem_cons.mp q).resolve_left (by omega), fun q => List.mem_cons_of_mem _ q⟩
      · rw [List.filter_cons, if_pos (decide_eq_true (List.mem_cons_self ..))]
        rfl
    · have hlow : lowAt l i = false := by rw [lowAt_of hc]; exact decide_eq_false hl
      obtain ⟨a, ps, e, S', _⟩ := S.pop hr hc hl
      rw [e] at S ih
      have hna : a ∉ ps := (List.nodup_cons.mp S.nodup).1
      rw [stk_up hc hl, ixs_succ, hlow, if_neg Bool.false_ne_true, List.append_nil, e, List.tail_cons]
      have q : (ixs l i).filter (fun b => decide (b ∈ ps)) = ((ixs l i).filter (fun b => decide (b ∈ a :: ps))).filter (fun b => decide (b ∈ ps)) := by
        rw [List.filter_filter]
        refine List.filter_congr fun b _ => ?_
        by_cases hb : b ∈ ps
        · rw [decide_eq_true hb, decide_eq_true (List.mem_cons_of_mem a hb)]
          rfl
        · rw [decide_eq_false hb]
          rfl
      rw [q, ih, List.reverse_cons, List.filter_append, List.filter_cons, if_neg (by simpa using hna)]
      rw [List.filter_eq_self.mpr fun b hb => decide_eq_true (List.mem_reverse.mp hb)]
      simp
/-- the nodes around the one at a, from the outermost -/
theorem road {l : List Nat} (hr : run l [] = some []) {a : Nat} (ha : a ∈ ixs l l.length) : (ixs l l.length).filter (fun b => decide (b ≤ a) && decide (pt l a ≤ pt l b)) = (stk l (a + 1)).reverse := by
  have m := ixs_mem ha
  obtain ⟨c, hc, hlo⟩ := low_of_lowAt m.2
  have S := stk_ok hr (i := a + 1) (by omega)
  rw [← stk_filter hr (i := a + 1) (by omega)]
  have top : stk l (a + 1) = a :: stk l a := stk_low hc hlo
  have e1 : ∀ b ∈ ixs l (a + 1), (decide (b ≤ a) && decide (pt l a ≤ pt l b)) = decide (b ∈ stk l (a + 1)) := fun b hb => by
    have hb2 := ixs_mem hb
    obtain ⟨d, hd, hdl⟩ := low_of_lowAt hb2.2
    rw [decide_eq_true (by omega : b ≤ a), Bool.true_and]
    refine decide_eq_decide.mpr ⟨fun q => ?_, fun q => ?_⟩
    · rcases S.all b d hb2.1 hd hdl with z | z
      · exact z
      · have : a + 1 ≤ pt l a := by unfold pt; omega
        omega
    · obtain ⟨j, hj⟩ := List.getElem?_of_mem q
      have h1 := (S.dep j b hj).2.1
      have h2 := (S.dep 0 a (by rw [top]; rfl)).2.1
      have h3 := cl_mono0 (l.drop (a + 1)) j
      omega
  have e2 : ∀ n, (ixs l (a + 1 + n)).filter (fun b => decide (b ≤ a) && decide (pt l a ≤ pt l b)) = (ixs l (a + 1)).filter (fun b => decide (b ≤ a) && decide (pt l a ≤ pt l b)) := fun n => by
    induction n with
    | zero => rfl
    | succ n ih =>
      rw [← Nat.add_assoc, ixs_succ, List.filter_append, ih]
      have : (if lowAt l (a + 1 + n) = true then [a + 1 + n] else []).filter (fun b => decide (b ≤ a) && decide (pt l a ≤ pt l b)) = [] := by
        split
        · rw [List.filter_cons, if_neg (by rw [decide_eq_false (by omega : ¬ a + 1 + n ≤ a)]; simp)]
          rfl
        · rfl
      rw [this, List.append_nil]
  have e3 := e2 (l.length - (a + 1))
  rw [Nat.add_sub_cancel' (by omega)] at e3
  rw [e3]
  exact List.filter_congr e1
theorem lc_lst2 {K : PySem.W.Frag} {B H : Hp} {M R : List (Addr × HO)} {Q : VK} {σ : L2.St} {tt : TT} {te : TE} {j : Nat} {a : Addr} {xs : List V} (hx : SqL K H a xs) (O : Own B H M R) (Pv : Nat → List V → List (Addr × HO) → Prop)
    (hG : ∀ i H' M' p acc, B p = none → Pv i acc M' → Own B H' M' (R ++ [(p, .lst acc)]) → SqL K H' a xs) (h0 : Pv 0 [] M)
    (hs : ∀ (i : Nat) x H' M' p acc, B p = none → xs[i]? = some x → acc.length ≤ i → Pv i acc M' → Own B H' M' (R ++ [(p, .lst acc)]) →
      tt ((wipe σ [j]).set j (some x)) H' fun b H3 => if b = true then te ((wipe σ [j]).set j (some x)) H3 (lcEnd B R p i (Pv (i + 1))) else lcSkip B R p i (Pv (i + 1)) H3)
    (hd : ∀ p H' M' acc, B p = none → acc.length ≤ xs.length → Pv xs.length acc M' → Own B H' M' (R ++ [(p, .lst acc)]) → Q (.ref p) H') : jList K (.ref a) H (lcR (gName j) tt te [j] σ Q) := by
  refine ⟨a, rfl, ⟨xs, hx⟩, fun p hp => ?_⟩
  refine lc_it walk_list (fun i H' => ∃ M' acc, acc.length ≤ i ∧ Pv i acc M' ∧ Own B H' M' (R ++ [(p, .lst acc)])) ⟨M, [], Nat.le_refl _, h0, O.new hp⟩ (fun i H' _ ⟨M', acc, _, pv, O'⟩ => hG i H' M' p acc (O.base_free hp) pv O') ?_ (fun H' ⟨M', acc, l, pv, O'⟩ => hd p H' M' acc (O.base_free hp) l pv O')
  rintro i x H' H'' hi ⟨M', acc, hl, pv, O'⟩ ⟨rfl, hx⟩
  exact ⟨set_wipe σ j _, hs i x _ M' p acc (O.base_free hp) hx hl pv O'⟩
/-- what stood there stays, unless it is owned -/
theorem Own.stays {B H : Hp} {p a : Addr} {o u : HO} (O : Own B H [] [(p, u)]) (hp : B p = none) (h : B a = some o) : H a = some o := by
  refine O.out a (fun q => ?_) _ h
  have e : a = p := by simpa using q
  rw [e, hp] at h
  cases h
theorem Own.staysR {B H : Hp} {R : List (Addr × HO)} {a : Addr} {o : HO} (O : Own B H [] R) (hR : ∀ x ∈ R, B x.1 = none) (h : B a = some o) : H a = some o := by
  refine O.out a (fun q => ?_) _ h
  obtain ⟨x, hx, e⟩ := List.mem_map.mp q
  have n := hR x hx
  rw [e, h] at n
  cases n
def spStart : Sp := fun vs H Q _ => ∃ (z : Str) (p t : Addr) (a : Nat), vs = [.str z, .ref p, .ref t] ∧ okT z ∧ a ∈ ixs (tl z) (tl z).length ∧ RwsAt H (tl z) p ∧ H t = some (.tup (rowV (tl z) a)) ∧ ∀ H', Own H H' [] [] → Q (.bl true) H'
theorem hl_spStart : ∀ vs H Q E, spStart vs H Q E → vs.length = 3 := fun vs H Q E ⟨_, _, _, _, e, _⟩ => by rw [e]; rfl
abbrev NM_law_start_right : List Str := ["text", "rows", "row", "start", "inner", "road", "path", "one"]
theorem sc_law_start_right : FnScope NM_law_start_right ["text", "rows", "row"] (defScope s_law_start_right) := ⟨rfl, rfl, rfl, by decide +kernel, rfl, by decide +kernel, by decide +kernel⟩
theorem d_law_start_right (F : Fn0 K mg "_law_start_right" s_law_start_right) (T : Txt P K mg) (D_inside_of : DefX P w K mg base 4 "inside_of" ["text", "start"] [] (spInside mg)) (D_path_of : DefX P w K mg base 4 "path_of" ["text", "start"] [] (spPath mg)) (D_law_numbers_same : Def P w K mg base 2 "_law_numbers_same" ["told", "due"] spNums) (D_children : DefX P w K mg base 4 "children" ["text", "start"] [] (spChildren mg)) :
    Def P w K mg base 5 "_law_start_right" ["text", "rows", "row"] spStart := by
  refine Def.mk0 F sc_law_start_right (by first | exact NF.hl_spB | exact NF.hl_spP | exact NF.hl_spNew | exact NF.hl_spPX | exact NF.hl_spN | exact NF.hl_spNX | exact hl_spStart) (fun _ _ _ _ _ _ us hl => match us, hl with | [_, _, _], _ => rfl) (fun cdv A outer s H vs Q E hr h => ?_)
  refine ⟨_, (pss_cons (ps_set (i := 3) sc_law_start_right.nd rfl (Or.inr rfl) (pe_ix ix_tup (pv 2) pe_int (fun _ _ => rfl)))
      (pss_cons (ps_set (i := 4) sc_law_start_right.nd rfl (Or.inl rfl) (pe_dx D_inside_of (hr.mono (by decide)) takesN0 (by rfl) (pa_cons (pv 0) (pa_cons (pv 3) pa_nil))))
      (pss_cons (ps_if (PW.pt (pw_or (pt_not (pt_val (pe_callB callIsT (by rfl) T.b_isinstance (by decide +kernel) (pa_cons (pv 4) (pa_cons (pe_ty (n := "str") (by rfl) T.b_str (by decide +kernel)) pa_nil))))) (pw_or1 (pt_cmpR op_ne (pv 4) (pe_slice sl_str (pv 0) (po_some (pe_op op_add (pv 3) pe_int)) (po_some (pe_ix ix_tup (pv 2) pe_int (fun _ _ => rfl)))) (nomark _)))))
      (pss_one (ps_ret pe_bl))
      pss_nil)
      (pss_cons (ps_set (i := 5) sc_law_start_right.nd rfl (Or.inl rfl) (pe_bm PySem.F.plainAttrs_str PySem.F.slot_str_join PySem.F.type_str_join mtJoin pe_str (pa_cons (pe_lc (own := [("one", 7)]) (g := gName 7) rfl sc_law_start_right.nd (pi_list (pv 1)) (blkOk_by (own := [("one", 7)]) (N := NM_law_start_right) (sc := defScope s_law_start_right) (by decide +kernel)) (fun _ _ _ _ _ => pg_name (i := 7) sc_law_start_right.nd rfl (Or.inl rfl)) (fun _ _ _ _ _ => pts_one (PW.pt (pw_and (pt_cmpR op_le (pe_ix (show IxR _ (rIxT K) from ix_tup) (pv 7) pe_int (fun _ _ => rfl)) (pv 3) (nomark _)) (pw_and1 (pt_cmpR op_le (pe_ix (show IxR _ (rIxT K) from ix_tup) (pv 2) pe_int (fun _ _ => rfl)) (pe_ix (show IxR _ (rIxT K) from ix_tup) (pv 7) pe_int (fun _ _ => rfl)) (nomark _)))))) (fun _ _ _ _ _ => (pe_ix (show IxR _ (rIxT K) from ix_tup) (pv 7) pe_int (fun _ _ => rfl)))) pa_nil)))
      (pss_cons (ps_set (i := 6) sc_law_start_right.nd rfl (Or.inl rfl) (pe_dx D_path_of (hr.mono (by decide)) takesN0 (by rfl) (pa_cons (pv 0) (pa_cons (pv 3) pa_nil))))
      (pss_cons (ps_if (PW.pt (pw_or (pt_not (pt_val (pe_callB callIsT (by rfl) T.b_isinstance (by decide +kernel) (pa_cons (pv 6) (pa_cons (pe_ty (n := "str") (by rfl) T.b_str (by decide +kernel)) pa_nil))))) (pw_or1 (pt_cmpR op_ne (pv 6) (pv 5) (nomark _)))))
      (pss_one (ps_ret pe_bl))
      pss_nil)
      (pss_one (ps_ret (pe_d D_law_numbers_same (hr.mono (by decide)) rfl (pa_cons (pe_dx D_children (hr.mono (by decide)) takesN0 (by rfl) (pa_cons (pv 0) (pa_cons (pv 3) pa_nil))) (pa_cons (pe_lc (own := [("one", 7)]) (g := gName 7) rfl sc_law_start_right.nd (pi_list (pv 1)) (blkOk_by (own := [("one", 7)]) (N := NM_law_start_right) (sc := defScope s_law_start_right) (by decide +kernel)) (fun _ _ _ _ _ => pg_name (i := 7) sc_law_start_right.nd rfl (Or.inl rfl)) (fun _ _ _ _ _ => pts_one (pt_cmpR op_eq (pe_ix (show IxR _ (rIxT K) from ix_tup) (pv 7) pe_int (fun _ _ => rfl)) (pv 3) (nomark _))) (fun _ _ _ _ _ => (pe_ix (show IxR _ (rIxT K) from ix_tup) (pv 7) pe_int (fun _ _ => rfl)))) pa_nil))))))))))), ?_⟩
  try dsimp only [cxOf, Cx.nox, Cx.wish]
  obtain ⟨z, p, t, a, rfl, ok, ha, hR, hT, k⟩ := h
  have O := NF.Own.refl0 H
  have hr := nst_of_flt ok.2
  have m := ixs_mem ha
  have hN : isN (tl z) (a : Int) = true := by
    unfold isN
    rw [decide_eq_true (by omega), Int.toNat_natCast, m.2]
    rfl
  have noT : ∀ x fs, ¬ excT z x fs := fun x fs he => by
    rcases he with ⟨_, _, h⟩ | ⟨_, _, j, h, _⟩
    · have := ok.1; omega
    · rw [ok.2] at h; cases h
  have noX : ∀ x fs, ¬ excN z (some (a : Int)) x fs := fun x fs he => by
    rcases he with he | ⟨_, i, ei, hi, _⟩
    · exact noT x fs he
    · cases ei
      rw [hN] at hi
      cases hi
  walk_at "go"
  refine NF.use_spPX O rfl ⟨z, (a : Int), rfl, by have := ok.1; omega⟩ (fun v H1 O ⟨z2, s2, ez, _, _, ev⟩ => ?_) (fun x fs d H1 O ⟨z2, s2, ez, he⟩ hd hfd => ?_)
  · cases ez
    subst ev
    have hT1 := O.out t (by simp) _ hT
    have hR1 := hR.keep O
    have hz2 := ok.1
    rw [Int.toNat_natCast]
    walk_at "go"
    refine NF.x_itn (fun h => absurd rfl h) (fun _ => ?_)
    walk_at "go"
    obtain ⟨ts, hts, hp, hrow⟩ := hR
    have hix := ixs_len (tl z) (tl z).length
    have hlz := len_tl z
    refine NF.lc_lst2 (SqL.of (O.out p (by simp) _ hp)) O (fun i acc M' => M' = [] ∧ acc = (((ixs (tl z) (tl z).length).take i).filter (fun b => decide (b ≤ a) && decide (pt (tl z) a ≤ pt (tl z) b))).map (fun b => ch ((tl z).getD b 0)))
      (fun i H' M' p' acc hp' hP O' => by obtain ⟨rfl, _⟩ := hP; exact SqL.of (Own.stays O' hp' hp)) ⟨rfl, rfl⟩ (fun i x H' M' p' acc hp' hx hl hP O' => ?_) fun p' H' M' acc hp' hl hP O' => ?_
    · obtain ⟨rfl, rfl⟩ := hP
      obtain ⟨t1, ht1, rfl⟩ : ∃ t, ts[i]? = some t ∧ V.ref t = x := by
        rw [List.getElem?_map] at hx
        cases h : ts[i]? with
        | none => rw [h] at hx; cases hx
        | some t => rw [h] at hx; exact ⟨t, rfl, Option.some.inj hx⟩
      have hi : i < ts.length := (List.getElem?_eq_some_iff.mp ht1).1
      obtain ⟨b, hb⟩ : ∃ b, (ixs (tl z) (tl z).length)[i]? = some b := ⟨_, List.getElem?_eq_getElem (by omega)⟩
      have hTb := Own.stays O' hp' (hrow i t1 b ht1 hb)
      have hTa := Own.stays O' hp' hT
      have snoc : (((ixs (tl z) (tl z).length).take (i + 1)).filter (fun b => decide (b ≤ a) && decide (pt (tl z) a ≤ pt (tl z) b))).map (fun b => ch ((tl z).getD b 0)) =
          (((ixs (tl z) (tl z).length).take i).filter (fun b => decide (b ≤ a) && decide (pt (tl z) a ≤ pt (tl z) b))).map (fun b => ch ((tl z).getD b 0)) ++ if (decide (b ≤ a) && decide (pt (tl z) a ≤ pt (tl z) b)) = true then [ch ((tl z).getD b 0)] else [] := by
        rw [take_snoc' hb, List.filter_append, List.map_append]
        congr 1
        cases h : (decide (b ≤ a) && decide (pt (tl z) a ≤ pt (tl z) b)) <;> simp [h]
      walk_at "gw"
      refine NF.x_ite (fun h0 => ?_) (fun h0 => ?_)
      · walk_at "gw"
        refine NF.x_ite (fun h1 => ?_) (fun h1 => ?_)
        · walk_at "gw"
          refine NF.lc_done O' hl (by rw [sizeLine_eq]; omega) ⟨rfl, ?_⟩
          rw [snoc, decide_eq_true (by omega : b ≤ a), decide_eq_true (by omega : pt (tl z) a ≤ pt (tl z) b)]
          rfl
        · refine NF.lc_skip O' hl ⟨rfl, ?_⟩
          rw [snoc, decide_eq_false (by omega : ¬ pt (tl z) a ≤ pt (tl z) b), Bool.and_false]
          simp
      · walk_at "gw"
        refine NF.lc_skip O' hl ⟨rfl, ?_⟩
        rw [snoc, decide_eq_false (by omega : ¬ b ≤ a), Bool.false_and]
        simp
    · obtain ⟨rfl, rfl⟩ := hP
      have el : (ts.map V.ref).length = (ixs (tl z) (tl z).length).length := by rw [List.length_map, hts]
      have eacc : (((ixs (tl z) (tl z).length).take (ts.map V.ref).length).filter (fun b => decide (b ≤ a) && decide (pt (tl z) a ≤ pt (tl z) b))).map (fun b => ch ((tl z).getD b 0)) = (letters (tl z) (stk (tl z) (a + 1))).map ch := by
        rw [el, List.take_length, road hr ha]
        unfold letters
        rw [List.map_map]
        rfl
      rw [eacc] at O'
      have hst := (stk_ok hr (i := a + 1) (by omega)).len
      have hll := letters_len (tl z) (stk (tl z) (a + 1))
      walk_at "gw"
      refine NF.x_join _ (O'.get 0 rfl) (by omega) ?_
      have O : Own H H' [] [] := O'.drop fun x hx => by
        rcases List.mem_singleton.mp hx with rfl
        exact hp'
      walk_at "gw"
      refine NF.use_spPX O rfl ⟨z, (a : Int), rfl, by omega⟩ (fun v H1 O ⟨z2, s2, ez, _, _, ev⟩ => ?_) (fun x fs d H1 O ⟨z2, s2, ez, he⟩ hd hfd => ?_)
      · cases ez
        subst ev
        rw [Int.toNat_natCast]
        walk_at "gw"
        refine NF.x_itn (fun h => absurd rfl h) (fun _ => ?_)
        walk_at "gw"
        refine NF.use_spNX O rfl ⟨z, some (a : Int), rfl, by omega⟩ (fun v H1 N hN O ⟨z2, s2, pc, N', ez, _, _, ev, eN⟩ => ?_) (fun x fs d H1 O ⟨z2, s2, ez, he⟩ hd hfd => ?_)
        · cases s2 with
          | none => cases ez
          | some s3 =>
            cases ez
            subst ev eN
            walk_at "gw"
            have hN2 : ∀ x ∈ [] ++ ((pc, HO.lst ((kids (tl z) (ixs (tl z) z.length) (ov (some (a : Int)))).map nV)) :: N'), H x.1 = none := hN
            have hN3 : ∀ (p2 : Addr) (o : HO), H p2 = none → ∀ x ∈ ([] ++ ((pc, HO.lst ((kids (tl z) (ixs (tl z) z.length) (ov (some (a : Int)))).map nV)) :: N')) ++ [(p2, o)], H x.1 = none := fun p2 o h2 x hx => by
              rcases List.mem_append.mp hx with hx | hx
              · exact hN2 x hx
              · rcases List.mem_singleton.mp hx with rfl
                exact h2
            refine NF.lc_lst2 (SqL.of (Own.staysR O hN2 hp)) O (fun i acc M' => M' = [] ∧ acc = (kids (tl z) ((ixs (tl z) (tl z).length).take i) (ov (some (a : Int)))).map nV)
              (fun i H' M' p' acc hp' hP O' => by obtain ⟨rfl, _⟩ := hP; exact SqL.of (Own.staysR O' (hN3 p' _ hp') hp)) ⟨rfl, rfl⟩ (fun i x H' M' p' acc hp' hx hl hP O' => ?_) fun p' H' M' acc hp' hl hP O' => ?_
            · obtain ⟨rfl, rfl⟩ := hP
              obtain ⟨t1, ht1, rfl⟩ : ∃ t, ts[i]? = some t ∧ V.ref t = x := by
                rw [List.getElem?_map] at hx
                cases h : ts[i]? with
                | none => rw [h] at hx; cases hx
                | some t => rw [h] at hx; exact ⟨t, rfl, Option.some.inj hx⟩
              have hi : i < ts.length := (List.getElem?_eq_some_iff.mp ht1).1
              obtain ⟨b, hb⟩ : ∃ b, (ixs (tl z) (tl z).length)[i]? = some b := ⟨_, List.getElem?_eq_getElem (by omega)⟩
              have hTb := Own.staysR O' (hN3 p' _ hp') (hrow i t1 b ht1 hb)
              walk_at "gw"
              refine NF.x_eq (by cases par (tl z) b <;> rfl) ?_
              walk_at "gw"
              refine NF.x_itb (fun h => ?_) (fun h => ?_)
              · walk_at "gw"
                refine NF.lc_done O' hl (by rw [sizeLine_eq]; omega) ⟨rfl, ?_⟩
                rw [take_snoc' hb, kids_snoc, if_pos h, List.map_append]
                rfl
              · refine NF.lc_skip O' hl ⟨rfl, ?_⟩
                rw [take_snoc' hb, kids_snoc, if_neg (by rw [h]; decide), List.append_nil]
            · obtain ⟨rfl, rfl⟩ := hP
              have el2 : (ts.map V.ref).length = (ixs (tl z) (tl z).length).length := by rw [List.length_map, hts]
              rw [el2, List.take_length] at O'
              have hk := kids_len (tl z) (ixs (tl z) (tl z).length) (ov (some (a : Int)))
              walk_at "gw"
              refine ⟨pc, p', kids (tl z) (ixs (tl z) (tl z).length) (ov (some (a : Int))), rfl, by omega, ?_, O'.last, fun H3 O3 => ?_⟩
              · have q := O'.mem (x := (pc, _)) (List.mem_append_left _ (List.mem_append_right _ (List.mem_cons_self ..)))
                rw [hlz] at q
                exact q
              · exact k _ ((O'.call0 O3).drop (hN3 p' _ hp'))
        · cases s2 with
          | none => cases ez
          | some s3 =>
            cases ez
            exact (noX x fs he).elim
      · cases ez
        exact (noX x fs he).elim
  · cases ez
    exact (noX x fs he).elim


theorem x_neDT {K : PySem.W.Frag} {H : Hp} {a b : Addr} {xs : List V} {ds : List PyData} {Q : VK} (ha : H a = some (.tup xs)) (hb : H b = some (.tup xs)) (hd : DpAll K H xs ds) (hs : SeqAt.shaped (.tuple ds) = true) (q : Q (.bl false) H) : rNeD K (.ref a) (.ref b) H Q :=
  ⟨_, _, .tup (SqT.of ha) hd, .tup (SqT.of hb) hd, hs, hs, by rw [SeqAt.eqv_refl _ (SeqAt.canLay_of_shaped hs)]; exact q⟩
theorem strOk_of (x : String) : PyData.strOk (Str.ofString x) = true := by
  unfold PyData.strOk
  rw [← Array.all_toList]
  have e : (Str.ofString x).cps.toList = tl (Str.ofString x) := rfl
  rw [e, tl_ofString, List.all_eq_true]
  intro n hn
  obtain ⟨c, _, rfl⟩ := List.mem_map.mp hn
  have v := c.valid
  refine decide_eq_true ?_
  show c.val.toNat < 1114112
  rcases v with v | ⟨_, v⟩ <;> omega
theorem shaped3 (x y : String) (b : Bool) : SeqAt.shaped (.tuple [.str x, .str y, .bool b]) = true := by
  have h1 := strOk_of x
  have h2 := strOk_of y
  unfold SeqAt.shaped PyData.canLay0
  simp [PyData.canLayAll0, PyData.canLay0, PyData.depth, PyData.depthAll, h1, h2]
def spIndex : Sp := fun vs H Q _ => ∃ (z : Str) (p : Addr) (s : Int), vs = [.str z, .ref p, .int s] ∧ okT z ∧ s.natAbs.log2 < 1900 ∧ RwsAt H (tl z) p ∧ ∀ H', Own H H' [] [] → Q (.bl true) H'
theorem hl_spIndex : ∀ vs H Q E, spIndex vs H Q E → vs.length = 3 := fun vs H Q E ⟨_, _, _, e, _⟩ => by rw [e]; rfl
abbrev NM_law_index_right : List Str := ["text", "rows", "start", "row", "way"]
theorem sc_law_index_right : FnScope NM_law_index_right ["text", "rows", "start"] (defScope s_law_index_right) := ⟨rfl, rfl, rfl, by decide +kernel, rfl, by decide +kernel, by decide +kernel⟩
theorem d_law_index_right (F : Fn0 K mg "_law_index_right" s_law_index_right) (T : Txt P K mg) (D_law_start_right : Def P w K mg base 5 "_law_start_right" ["text", "rows", "row"] spStart) (D_law_error : Def P w K mg base 5 "_law_error" ["way", "text", "start"] spError) :
    Def P w K mg base 6 "_law_index_right" ["text", "rows", "start"] spIndex := by
  refine Def.mk0 F sc_law_index_right (by first | exact NF.hl_spB | exact NF.hl_spP | exact NF.hl_spNew | exact NF.hl_spPX | exact NF.hl_spN | exact NF.hl_spNX | exact hl_spIndex) (fun _ _ _ _ _ _ us hl => match us, hl with | [_, _, _], _ => rfl) (fun cdv A outer s H vs Q E hr h => ?_)
  refine ⟨_, (pss_cons (ps_for PassesOwn.never rfl (pi_list (pv 1)) (pg_name (i := 3) sc_law_index_right.nd rfl (Or.inl rfl))
      (pss_one (ps_if (pt_cmpR op_eq (pe_ix ix_tup (pv 3) pe_int (fun _ _ => rfl)) (pv 2) (nomark _))
      (pss_one (ps_ret (pe_d D_law_start_right (hr.mono (by decide)) rfl (pa_cons (pv 0) (pa_cons (pv 1) (pa_cons (pv 3) pa_nil))))))
      pss_nil)))
      (pss_cons (ps_for PassesOwn.never rfl (pi_range1 (by rfl) T.b_range (pa_cons pe_int pa_nil)) (pg_name (i := 4) sc_law_index_right.nd rfl (Or.inl rfl))
      (pss_one (ps_if (pt_cmpR (op_neD hr.units) (pe_d D_law_error (hr.mono (by decide)) rfl (pa_cons (pv 4) (pa_cons (pv 0) (pa_cons (pv 2) pa_nil)))) (pe_tup (pa_cons pe_str (pa_cons (pe_callB (id := "repr") callRepr (by rfl) T.b_repr (by decide +kernel) (pa_cons (pv 2) pa_nil)) (pa_cons pe_bl pa_nil)))) (nomark _))
      (pss_one (ps_ret pe_bl))
      pss_nil)))
      (pss_one (ps_ret pe_bl)))), ?_⟩
  try dsimp only [cxOf, Cx.nox, Cx.wish]
  obtain ⟨z, p, s, rfl, ok, hs, hR, k⟩ := h
  have O := NF.Own.refl0 H
  have hr := nst_of_flt ok.2
  have hR0 := hR
  obtain ⟨ts, hts, hp, hrow⟩ := hR
  have hix := ixs_len (tl z) (tl z).length
  have hlz := len_tl z
  have hz2 := ok.1
  walk_at "gw"
  refine NF.f_list (SqL.of hp) (fun i σ H' => ∃ (u3 u4 : Option V), σ = [some (.str z), some (.ref p), some (.int s), u3, u4] ∧ Own H H' [] [] ∧ ∀ (j : Nat) (a : Nat), j < i → (ixs (tl z) (tl z).length)[j]? = some a → (a : Int) ≠ s) ⟨_, _, rfl, O, fun j a h => absurd h (Nat.not_lt_zero _)⟩ ?_ ?_ ?_
  · rintro i σ H' ⟨u3, u4, rfl, O, _⟩
    exact SqL.of (O.out p (by simp) _ hp)
  · rintro i x _ H2 hx ⟨u3, u4, rfl, O, hne⟩
    obtain ⟨t1, ht1, rfl⟩ : ∃ t, ts[i]? = some t ∧ V.ref t = x := by
      rw [List.getElem?_map] at hx
      cases h : ts[i]? with
      | none => rw [h] at hx; cases hx
      | some t => rw [h] at hx; exact ⟨t, rfl, Option.some.inj hx⟩
    have hi : i < ts.length := (List.getElem?_eq_some_iff.mp ht1).1
    obtain ⟨a, ha⟩ : ∃ a, (ixs (tl z) (tl z).length)[i]? = some a := ⟨_, List.getElem?_eq_getElem (by omega)⟩
    have hTa := O.out t1 (by simp) _ (hrow i t1 a ht1 ha)
    walk_at "gw"
    refine NF.x_iteI (fun h => ?_) (fun h => ?_)
    · walk_at "gw"
      exact ⟨z, p, t1, a, rfl, ok, List.mem_of_getElem? ha, hR0.keep O, hTa, fun H3 O3 => k _ (O.call0 O3)⟩
    · refine ⟨_, _, rfl, O, fun j b hj hb => ?_⟩
      by_cases e : j = i
      · subst e
        rw [ha] at hb
        cases hb
        exact h
      · exact hne j b (by omega) hb
  · rintro _ H2 ⟨u3, u4, rfl, O, hne⟩
    have hno : isN (tl z) s = false := by
      cases h : isN (tl z) s with
      | false => rfl
      | true =>
        obtain ⟨a, c, rfl, hc, hlo, hal⟩ := isN_at h
        have hla : lowAt (tl z) a = true := by rw [lowAt_of hc]; exact decide_eq_true hlo
        have hj := ixs_at hla hal
        have hjl := (List.getElem?_eq_some_iff.mp hj).1
        exact absurd rfl (hne _ a (by rw [List.length_map, hts]; exact hjl) hj)
    walk_at "gw"
    refine NF.f_rng1 ⟨by omega, by omega⟩ (fun i σ H' => ∃ (u3 u4 : Option V), σ = [some (.str z), some (.ref p), some (.int s), u3, u4] ∧ Own H H' [] []) ⟨_, _, rfl, O⟩ ?_ ?_
    · rintro i _ H3 hi ⟨u3, u4, rfl, O⟩
      walk_at "gw"
      refine NF.use_spN (E := E0) O rfl ⟨(i : Int), z, s, rfl, by omega, hs⟩ fun v H1 N hN O ⟨way2, z2, s2, pe, ez, ev, eN⟩ => ?_
      cases ez
      subst ev eN
      have hpe := hN _ (List.mem_cons_self ..)
      have ee : errE (i : Int) z s = [.str "NoNode", .str (toString s), .bl true] := by
        unfold errE
        rw [if_neg (by omega), ok.2]
        exact if_pos ⟨by omega, hno⟩
      rw [ee] at O
      walk_at "nO"
      walk_at "gw"
      refine NF.x_repr (by omega) ?_
      walk_at "gw"
      refine NF.x_newT O (by simp only [List.length_cons, List.length_nil, sizeLine_eq]; omega) fun p2 H4 hp2 O => ?_
      walk_at "nO"
      walk_at "gw"
      refine NF.x_neDT (O.get 0 rfl) (O.get 1 rfl) (.cons (.str _) (.cons (.str _) (.cons (.bl _) .nil))) (shaped3 _ _ _) ?_
      walk_at "gw"
      exact ⟨_, _, rfl, O.drop fun x hx => by
        simp only [List.mem_cons, List.not_mem_nil, or_false] at hx
        rcases hx with rfl | rfl
        · exact hpe
        · exact hp2⟩
    · rintro _ H3 ⟨u3, u4, rfl, O⟩
      walk_at "gw"
      exact k _ O


theorem tl_mul (x : Str) (n : Int) : tl (Txt.mul x n) = (List.replicate n.toNat (tl x)).flatten := by
  unfold Txt.mul
  by_cases h : n < 1
  · rw [if_pos h, show n.toNat = 0 by omega]
    rfl
  · rw [if_neg h]
    by_cases h2 : (n == 1 || x.length == 0) = true
    · rw [if_pos h2]
      simp only [Bool.or_eq_true, beq_iff_eq] at h2
      rcases h2 with h2 | h2
      · rw [h2]
        simp
      · have e : tl x = [] := List.length_eq_zero_iff.mp (by rw [← len_tl]; exact h2)
        rw [e]
        simp
    · rw [if_neg h2]
      have e : ∀ (k : Nat) (a : Array Nat), ((List.replicate k x.cps).foldl (· ++ ·) a).toList = a.toList ++ (List.replicate k x.cps.toList).flatten := by
        intro k
        induction k with
        | zero => intro a; simp
        | succ k ih => intro a; rw [List.replicate_succ, List.foldl_cons, ih, List.replicate_succ, List.flatten_cons, Array.toList_append, List.append_assoc]
      exact (e n.toNat #[]).trans (List.nil_append _)
theorem flat_one {α : Type} (c : α) (k : Nat) : (List.replicate k [c]).flatten = List.replicate k c := by
  induction k with
  | zero => rfl
  | succ k ih => rw [List.replicate_succ, List.flatten_cons, ih]; rfl
theorem flat_len {α : Type} (l : List α) (k : Nat) : (List.replicate k l).flatten.length = k * l.length := by
  induction k with
  | zero => simp
  | succ k ih => rw [List.replicate_succ, List.flatten_cons, List.length_append, ih, Nat.succ_mul]; omega
theorem tl_mul1 (c : Nat) (n : Int) : tl (Txt.mul ⟨#[c]⟩ n) = List.replicate n.toNat c := by rw [tl_mul]; exact flat_one c _
theorem len_mul1 (c : Nat) (n : Int) : (Txt.mul ⟨#[c]⟩ n).length = n.toNat := by rw [len_tl, tl_mul1, List.length_replicate]
theorem tl_mul2 (c d : Nat) (n : Int) : tl (Txt.mul (⟨#[c]⟩ ++ ⟨#[d]⟩) n) = (List.replicate n.toNat [c, d]).flatten := by rw [tl_mul, tl_append]; rfl
theorem len_mul2 (c d : Nat) (n : Int) : (Txt.mul (⟨#[c]⟩ ++ ⟨#[d]⟩) n).length = n.toNat * 2 := by rw [len_tl, tl_mul2, flat_len]; rfl
theorem run_more {l : List Nat} (q : List Nat) : ∀ {st st' : List Nat}, run l st = some st' → run l (st ++ q) = some (st' ++ q) := by
  induction l with
  | nil => intro st st' h; cases h; rfl
  | cons c l ih =>
    intro st st' h
    rw [run_cons] at h ⊢
    by_cases h1 : 97 ≤ c ∧ c ≤ 104
    · rw [if_pos h1] at h ⊢
      exact ih h
    · rw [if_neg h1] at h ⊢
      cases st with
      | nil => cases h
      | cons t ts =>
        by_cases h2 : c + 32 = t
        · simp only [List.cons_append, if_pos h2] at h ⊢
          exact ih h
        · simp only [if_neg h2] at h; cases h
theorem run_lows {c : Nat} (h : low c) (k : Nat) : ∀ st : List Nat, run (List.replicate k c) st = some (List.replicate k c ++ st) := by
  induction k with
  | zero => intro st; rfl
  | succ k ih =>
    intro st
    rw [List.replicate_succ, run_cons, if_pos h, ih, List.cons_append]
    have e : ∀ k : Nat, List.replicate k c ++ c :: st = c :: (List.replicate k c ++ st) := by
      intro k
      induction k with
      | zero => rfl
      | succ k ih => rw [List.replicate_succ, List.cons_append, ih]; rfl
    rw [e]
theorem run_ups {c : Nat} (h : low c) (k : Nat) (st : List Nat) : run (List.replicate k (c - 32)) (List.replicate k c ++ st) = some st := by
  induction k with
  | zero => rfl
  | succ k ih =>
    rw [List.replicate_succ, List.replicate_succ, List.cons_append, run_cons, if_neg (by omega)]
    simp only [show c - 32 + 32 = c by omega, if_true]
    exact ih
theorem nst_app {l m : List Nat} (h1 : Nst l) (h2 : Nst m) : Nst (l ++ m) := by
  show run (l ++ m) [] = some []
  rw [run_append, show run l [] = some [] from h1]
  exact h2
theorem nst_wrap {l : List Nat} {c : Nat} (h : low c) (k : Nat) (N : Nst l) : Nst (List.replicate k c ++ l ++ List.replicate k (c - 32)) := by
  show run _ [] = some []
  rw [run_append, run_append, run_lows h, List.append_nil]
  have e := run_more (List.replicate k c) (show run l [] = some [] from N)
  rw [List.nil_append] at e
  show ((run l (List.replicate k c)).bind _) = _
  rw [e]
  have e2 := run_ups h k []
  rw [List.append_nil] at e2
  exact e2
theorem nst_pairs {c : Nat} (h : low c) (k : Nat) : Nst (List.replicate k [c, c - 32]).flatten := by
  induction k with
  | zero => rfl
  | succ k ih =>
    rw [List.replicate_succ, List.flatten_cons]
    exact nst_app (nst_wrap h 1 (l := []) rfl) ih
abbrev NM_law_beyond : List Str := ["box", "text", "deep", "name"]
theorem sc_law_beyond : FnScope NM_law_beyond ["box", "text"] (defScope s_law_beyond) := ⟨rfl, rfl, rfl, by decide +kernel, rfl, by decide +kernel, by decide +kernel⟩
theorem d_law_beyond (F : Fn0 K mg "_law_beyond" s_law_beyond) (T : Txt P K mg) (D_law_draw : Def P w K mg base 1 "_law_draw" ["box", "many"] spDraw) :
    Def P w K mg base 2 "_law_beyond" ["box", "text"] (spTx 1 (fun r => ∃ z, r = [.str z] ∧ z.length ≤ 100) (fun r z' => 2000 < z'.length ∧ z'.length ≤ 2200)) := by
  refine Def.mk0 F sc_law_beyond (by first | exact NF.hl_spB | exact NF.hl_spP | exact NF.hl_spNew | exact NF.hl_spPX | exact NF.hl_spN | exact NF.hl_spNX | exact hl_spTx) (fun _ _ _ _ _ _ us hl => match us, hl with | [_, _], _ => rfl) (fun cdv A outer s H vs Q E hr h => ?_)
  refine ⟨_, (pss_cons (ps_set (i := 2) sc_law_beyond.nd rfl (Or.inl rfl) (pe_op op_add (pe_op op_sub pe_int (pe_op op_fdivW (pe_callB (id := "len") callLen (by rfl) T.b_len (by decide +kernel) (pa_cons (pv 1) pa_nil)) pe_int)) (pe_d D_law_draw (hr.mono (by decide)) rfl (pa_cons (pv 0) (pa_cons pe_int pa_nil)))))
      (pss_cons (ps_set (i := 3) sc_law_beyond.nd rfl (Or.inl rfl) (pe_ix ix_str pe_str (pe_d D_law_draw (hr.mono (by decide)) rfl (pa_cons (pv 0) (pa_cons pe_int pa_nil))) (fun _ _ => rfl)))
      (pss_one (ps_ret (pe_op opAddS (pe_op opAddS (pe_op opMulS (pv 3) (pv 2)) (pv 1)) (pe_op opMulS (pe_bm0 PySem.F.plainAttrs_str PySem.F.slot_str_upper PySem.F.type_str_upper mtUpper (pv 3)) (pv 2))))))), ?_⟩
  try dsimp only [cxOf, Cx.nox, Cx.wish]
  obtain ⟨a, A, M, rest, rfl, hl, hB, O, ⟨z, rfl, hz⟩, k⟩ := h
  walk_at "go"
  refine x_draw O hB (by decide) (by decide) fun d H1 M1 d0 d1 hB O => ?_
  walk_at "go"
  refine x_draw O hB (by decide) (by decide) fun e H1 M1 e0 e1 hB O => ?_
  walk_at "go"
  refine NF.x_ixSo e0 (by rw [len_names]; exact e1) (by rw [len_names]; decide) fun c _ _ hc => ?_
  rw [tl_names, mem_lo] at hc
  have c1 := len_mul1 c (1001 - (z.length : Int) / 2 + d)
  have c2 := len_mul1 (c - 32) (1001 - (z.length : Int) / 2 + d)
  walk_at "go"
  refine NF.x_mulS (by rw [len_ch]; decide) (by omega) (by omega) (by rw [len_ch, sizeLine_eq]; omega) ?_
  walk_at "go"
  rw [upper_lo hc]
  refine NF.x_mulS (by rw [len_ch]; decide) (by omega) (by omega) (by rw [len_ch, sizeLine_eq]; omega) ?_
  walk_at "go"
  refine k _ _ _ hB O ⟨_, rfl, ?_, ?_⟩ <;> (simp only [len_app]; omega)

def spLong : Sp := spTx 1 (fun r => ∃ z, r = [.str z] ∧ Nst (tl z) ∧ z.length ≤ 40) (fun r z' => Nst (tl z') ∧ 2 ≤ z'.length ∧ z'.length ≤ 2000)
abbrev NM_law_long : List Str := ["box", "text", "less", "rest", "part", "deep", "name", "other"]
theorem sc_law_long : FnScope NM_law_long ["box", "text"] (defScope s_law_long) := ⟨rfl, rfl, rfl, by decide +kernel, rfl, by decide +kernel, by decide +kernel⟩
theorem d_law_long (F : Fn0 K mg "_law_long" s_law_long) (T : Txt P K mg) (D_law_draw : Def P w K mg base 1 "_law_draw" ["box", "many"] spDraw) :
    Def P w K mg base 2 "_law_long" ["box", "text"] spLong := by
  refine Def.mk0 F sc_law_long (by first | exact NF.hl_spB | exact NF.hl_spP | exact NF.hl_spNew | exact NF.hl_spPX | exact NF.hl_spN | exact NF.hl_spNX | exact hl_spLong) (fun _ _ _ _ _ _ us hl => match us, hl with | [_, _], _ => rfl) (fun cdv A outer s H vs Q E hr h => ?_)
  refine ⟨_, (pss_cons (ps_set (i := 2) sc_law_long.nd rfl (Or.inl rfl) (pe_lst (pa_cons pe_int (pa_cons pe_int (pa_cons (pe_d D_law_draw (hr.mono (by decide)) rfl (pa_cons (pv 0) (pa_cons pe_int pa_nil))) pa_nil)))))
      (pss_cons (ps_set (i := 3) sc_law_long.nd rfl (Or.inl rfl) (pe_op op_sub (pe_op op_fdivW (pe_op op_sub pe_int (pe_callB (id := "len") callLen (by rfl) T.b_len (by decide +kernel) (pa_cons (pv 1) pa_nil))) pe_int) (pe_ix ix_list (pv 2) (pe_d D_law_draw (hr.mono (by decide)) rfl (pa_cons (pv 0) (pa_cons pe_int pa_nil))) (fun _ _ => rfl))))
      (pss_cons (ps_set (i := 4) sc_law_long.nd rfl (Or.inl rfl) (pe_d D_law_draw (hr.mono (by decide)) rfl (pa_cons (pv 0) (pa_cons (pe_op op_add (pv 3) pe_int) pa_nil))))
      (pss_cons (ps_set (i := 5) sc_law_long.nd rfl (Or.inl rfl) (pe_ix ix_list (pe_lst (pa_cons (pv 3) (pa_cons pe_int (pa_cons (pv 4) pa_nil)))) (pe_d D_law_draw (hr.mono (by decide)) rfl (pa_cons (pv 0) (pa_cons pe_int pa_nil))) (fun _ _ => rfl)))
      (pss_cons (ps_set (i := 6) sc_law_long.nd rfl (Or.inl rfl) (pe_ix ix_str pe_str (pe_d D_law_draw (hr.mono (by decide)) rfl (pa_cons (pv 0) (pa_cons pe_int pa_nil))) (fun _ _ => rfl)))
      (pss_cons (ps_set (i := 7) sc_law_long.nd rfl (Or.inl rfl) (pe_ix ix_str pe_str (pe_d D_law_draw (hr.mono (by decide)) rfl (pa_cons (pv 0) (pa_cons pe_int pa_nil))) (fun _ _ => rfl)))
      (pss_one (ps_ret (pe_op opAddS (pe_op opAddS (pe_op opAddS (pe_op opMulS (pv 6) (pv 5)) (pv 1)) (pe_op opMulS (pe_bm0 PySem.F.plainAttrs_str PySem.F.slot_str_upper PySem.F.type_str_upper mtUpper (pv 6)) (pv 5))) (pe_op opMulS (pe_op opAddS (pv 7) (pe_bm0 PySem.F.plainAttrs_str PySem.F.slot_str_upper PySem.F.type_str_upper mtUpper (pv 7))) (pe_op op_sub (pv 3) (pv 5)))))))))))), ?_⟩
  try dsimp only [cxOf, Cx.nox, Cx.wish]
  obtain ⟨a, A, M, rest, rfl, hl, hB, O, ⟨z, rfl, hN, hz⟩, k⟩ := h
  walk_at "gw"
  refine x_draw O hB (by decide) (by decide) fun d H1 M1 d0 d1 hB O => ?_
  walk_at "gw"
  refine NF.x_newL O (by walk_at "len") fun p1 H1 hp1 O => ?_
  walk_at "nO"
  walk_at "gw"
  refine x_draw O hB (by decide) (by decide) fun d2 H1 M1 e0 e1 hB O => ?_
  walk_at "gw"
  refine NF.x_ixLo (O.get 0 rfl) e0 (by exact e1) fun v hv hm => ?_
  obtain ⟨ls, rfl, hf0, hf1⟩ : ∃ ls, v = V.int ls ∧ 0 ≤ ls ∧ ls ≤ 900 := by
    simp only [List.mem_cons, List.not_mem_nil, or_false] at hm
    rcases hm with rfl | rfl | rfl
    · exact ⟨_, rfl, by decide, by decide⟩
    · exact ⟨_, rfl, by decide, by decide⟩
    · exact ⟨_, rfl, d0, by omega⟩
  clear hm hv
  walk_at "gw"
  obtain ⟨rs, hrs⟩ : ∃ rs, rs = (2000 - (z.length : Int)) / 2 - ls := ⟨_, rfl⟩
  rw [← hrs]
  refine x_draw O hB (by omega) (by omega) fun part H1 M1 p0 p2 hB O => ?_
  walk_at "gw"
  refine NF.x_newL O (by walk_at "len") fun p3 H1 hp3 O => ?_
  walk_at "nO"
  walk_at "gw"
  refine x_draw O hB (by decide) (by decide) fun d3 H1 M1 e0 e1 hB O => ?_
  walk_at "gw"
  refine NF.x_ixLo (O.get 1 rfl) e0 (by exact e1) fun v hv hm => ?_
  obtain ⟨deep, rfl, hg0, hg1⟩ : ∃ ls, v = V.int ls ∧ 0 ≤ ls ∧ ls ≤ rs := by
    simp only [List.mem_cons, List.not_mem_nil, or_false] at hm
    rcases hm with rfl | rfl | rfl
    · exact ⟨_, rfl, by omega, by omega⟩
    · exact ⟨_, rfl, by decide, by omega⟩
    · exact ⟨_, rfl, p0, by omega⟩
  clear hm hv
  walk_at "gw"
  refine x_draw O hB (by decide) (by decide) fun e H1 M1 e0 e1 hB O => ?_
  walk_at "gw"
  refine NF.x_ixSo e0 (by rw [len_names]; exact e1) (by rw [len_names]; decide) fun c _ _ hc => ?_
  rw [tl_names, mem_lo] at hc
  walk_at "gw"
  refine x_draw O hB (by decide) (by decide) fun e H1 M1 e0 e1 hB O => ?_
  walk_at "gw"
  refine NF.x_ixSo e0 (by rw [len_names]; exact e1) (by rw [len_names]; decide) fun o _ _ ho => ?_
  rw [tl_names, mem_lo] at ho
  have c1 := len_mul1 c deep
  have c2 := len_mul1 (c - 32) deep
  have c3 := len_mul2 o (o - 32) (rs - deep)
  have c4 : ((⟨#[o]⟩ : Str) ++ ⟨#[o - 32]⟩).length = 2 := by rw [len_app]; rfl
  walk_at "gw"
  refine NF.x_mulS (by rw [len_ch]; decide) (by omega) (by omega) (by rw [len_ch, sizeLine_eq]; omega) ?_
  walk_at "gw"
  rw [upper_lo hc]
  refine NF.x_mulS (by rw [len_ch]; decide) (by omega) (by omega) (by rw [len_ch, sizeLine_eq]; omega) ?_
  walk_at "gw"
  rw [upper_lo ho]
  walk_at "gw"
  refine NF.x_mulS (by rw [c4]; decide) (by omega) (by omega) (by rw [c4, sizeLine_eq]; omega) ?_
  walk_at "gw"
  refine k _ _ _ hB (O.drop fun x hx => ?_) ⟨_, rfl, ?_, ?_, ?_⟩
  · simp only [List.mem_cons, List.not_mem_nil, or_false] at hx
    rcases hx with rfl | rfl
    · exact hp1
    · exact hp3
  · rw [tl_append, tl_append, tl_append, tl_mul1, tl_mul1, tl_mul2]
    exact nst_app (nst_wrap hc _ hN) (nst_pairs ho _)
  · simp only [len_app]
    omega
  · simp only [len_app]
    omega

theorem not_flt {l : List Nat} (h : flt l 0 [] = none) : flt (l ++ [65]) 0 [] ≠ none := by
  rw [flt_run [65] (nst_of_flt h), flt_cons, if_neg (by decide)]
  simp
def spWrong : Sp := spTx 1 (fun r => ∃ z, r = [.str z] ∧ Nst (tl z) ∧ z.length ≤ 40) (fun r z' => ¬ okT z' ∧ z'.length ≤ 100000)
abbrev NM_law_wrong_text : List Str := ["box", "text", "way"]
theorem sc_law_wrong_text : FnScope NM_law_wrong_text ["box", "text"] (defScope s_law_wrong_text) := ⟨rfl, rfl, rfl, by decide +kernel, rfl, by decide +kernel, by decide +kernel⟩
theorem d_law_wrong_text (F : Fn0 K mg "_law_wrong_text" s_law_wrong_text) (T : Txt P K mg) (D_law_draw : Def P w K mg base 1 "_law_draw" ["box", "many"] spDraw) (D_law_long : Def P w K mg base 2 "_law_long" ["box", "text"] spLong) (D_law_beyond : Def P w K mg base 2 "_law_beyond" ["box", "text"] (spTx 1 (fun r => ∃ z, r = [.str z] ∧ z.length ≤ 100) (fun r z' => 2000 < z'.length ∧ z'.length ≤ 2200))) (D_law_bent_text : Def P w K mg base 3 "_law_bent_text" ["box", "text"] spBent) (D_law_fault : Def P w K mg base 1 "_law_fault" ["text"] spFault) :
    Def P w K mg base 4 "_law_wrong_text" ["box", "text"] spWrong := by
  refine Def.mk0 F sc_law_wrong_text (by first | exact NF.hl_spB | exact NF.hl_spP | exact NF.hl_spNew | exact NF.hl_spPX | exact NF.hl_spN | exact NF.hl_spNX | exact hl_spWrong) (fun _ _ _ _ _ _ us hl => match us, hl with | [_, _], _ => rfl) (fun cdv A outer s H vs Q E hr h => ?_)
  refine ⟨_, (pss_cons (ps_set (i := 2) sc_law_wrong_text.nd rfl (Or.inl rfl) (pe_d D_law_draw (hr.mono (by decide)) rfl (pa_cons (pv 0) (pa_cons pe_int pa_nil))))
      (Evl.pss_cut (ps_if (pt_cmpR op_eq (pv 2) pe_int (nomark _))
      (pss_one (ps_set (i := 1) sc_law_wrong_text.nd rfl (Or.inl rfl) (pe_d D_law_long (hr.mono (by decide)) rfl (pa_cons (pv 0) (pa_cons (pv 1) pa_nil)))))
      pss_nil)
      (Evl.pss_cut (ps_if (pt_cmpR op_gt (pv 2) pe_int (nomark _))
      (pss_one (ps_set (i := 1) sc_law_wrong_text.nd rfl (Or.inl rfl) (pe_d D_law_beyond (hr.mono (by decide)) rfl (pa_cons (pv 0) (pa_cons (pv 1) pa_nil)))))
      pss_nil)
      (Evl.pss_cut (ps_if (pt_cmpR op_lt (pv 2) pe_int (nomark _))
      (pss_cons (ps_set (i := 1) sc_law_wrong_text.nd rfl (Or.inl rfl) (pe_d D_law_bent_text (hr.mono (by decide)) rfl (pa_cons (pv 0) (pa_cons (pv 1) pa_nil))))
      (pss_one (ps_if (pt_cmpR opIsN (pe_d D_law_fault (hr.mono (by decide)) rfl (pa_cons (pv 1) pa_nil)) pe_non (nomark _))
      (pss_one (ps_set (i := 1) sc_law_wrong_text.nd rfl (Or.inl rfl) (pe_op opAddS (pv 1) pe_str)))
      pss_nil)))
      pss_nil)
      (pss_one (ps_ret (pv 1))))))), ?_⟩
  try dsimp only [cxOf, Cx.nox, Cx.wish]
  obtain ⟨a, A, M, rest, rfl, hl, hB, O, ⟨z, rfl, hN, hz⟩, k⟩ := h
  walk_at "go"
  refine x_draw O hB (by decide) (by decide) fun way H1 M1 w0 w1 hB O => ?_
  walk_at "go"
  refine NF.x_cut (fun σ H' => ∃ (z : Str) (M' : List (Addr × HO)), σ = [some (.ref a), some (.str z), some (.int way)] ∧ In BxD a A M' ∧ Own H H' M' [] ∧ z.length ≤ 2200 ∧ (1 < way → z.length ≤ 40)) ?_ ?_
  · walk_at "go"
    refine NF.x_iteI (fun h0 => ?_) (fun h0 => ?_)
    · walk_at "go"
      refine x_tx (E := E0) O hB rfl ⟨z, rfl, hN, hz⟩ fun z2 H1 M1 ⟨_, _, h2⟩ hB O => ?_
      walk_at "go"
      exact ⟨_, _, rfl, hB, O, by omega, fun h => by omega⟩
    · walk_at "go"
      exact ⟨_, _, rfl, hB, O, by omega, fun h => by omega⟩
  · rintro _ H2 ⟨z, M2, rfl, hB, O, hz1, hz2⟩
    walk_at "go"
    refine NF.x_cut (fun σ H' => ∃ (z : Str) (M' : List (Addr × HO)), σ = [some (.ref a), some (.str z), some (.int way)] ∧ In BxD a A M' ∧ Own H H' M' [] ∧ z.length ≤ 2200 ∧ (1 < way → 2000 < z.length)) ?_ ?_
    · walk_at "go"
      refine NF.x_ite (fun h0 => ?_) (fun h0 => ?_)
      · walk_at "go"
        refine x_tx (E := E0) O hB rfl ⟨z, rfl, by have := hz2 h0; omega⟩ fun z2 H1 M1 ⟨h1, h2⟩ hB O => ?_
        walk_at "go"
        exact ⟨_, _, rfl, hB, O, by omega, fun h => h1⟩
      · walk_at "go"
        exact ⟨_, _, rfl, hB, O, by omega, fun h => absurd h h0⟩
    · rintro _ H2 ⟨z, M2, rfl, hB, O, hz1, hz2⟩
      walk_at "go"
      refine NF.x_cut (fun σ H' => ∃ (z : Str) (M' : List (Addr × HO)), σ = [some (.ref a), some (.str z), some (.int way)] ∧ In BxD a A M' ∧ Own H H' M' [] ∧ ¬ okT z ∧ z.length ≤ 100000) ?_ ?_
      · walk_at "go"
        refine NF.x_ite (fun h0 => ?_) (fun h0 => ?_)
        · walk_at "go"
          refine x_tx (E := E0) O hB rfl ⟨z, rfl, by omega⟩ fun z2 H1 M1 ⟨z3, e3, h3⟩ hB O => ?_
          cases e3
          walk_at "go"
          refine NF.use_spP (E := E0) O rfl ⟨z2, rfl, by omega⟩ fun v H1 O ⟨z4, ez, ev⟩ => ?_
          cases ez
          subst ev
          have hA : (Str.ofString "A").length = 1 := by decide +kernel
          have hT : tl (Str.ofString "A") = [65] := by rw [tl_ofString]; decide +kernel
          cases hf : flt (tl z2) 0 [] with
          | none =>
            walk_at "go"
            refine NF.x_itb (fun _ => ?_) (fun h => by simp [fv] at h)
            walk_at "go"
            exact ⟨_, _, rfl, hB, O, fun ok => by have := ok.2; rw [tl_append, hT] at this; exact not_flt hf this, by rw [len_app, hA]; omega⟩
          | some j =>
            walk_at "go"
            refine NF.x_itb (fun h => by simp [fv] at h) (fun _ => ?_)
            walk_at "go"
            exact ⟨_, _, rfl, hB, O, (fun ok => by have := ok.2; rw [hf] at this; cases this), by omega⟩
        · walk_at "go"
          exact ⟨_, _, rfl, hB, O, fun ok => by have := ok.1; have := hz2 (by omega); omega, by omega⟩
      · rintro _ H2 ⟨z, M2, rfl, hB, O, hz1, hz2⟩
        walk_at "go"
        exact k _ _ _ hB O ⟨_, rfl, hz1, hz2⟩


theorem x_catT {K : PySem.W.Frag} {B H : Hp} {M R : List (Addr × HO)} {a b : Addr} {xs ys : List V} {Q : VK} (O : Own B H M R) (h1 : H a = some (.tup xs)) (h2 : H b = some (.tup ys)) (hx : xs ≠ []) (hy : ys ≠ []) (hz : xs.length + ys.length ≤ sizeLine)
    (q : ∀ p H1, B p = none → Own B H1 M (R ++ [(p, .tup (xs ++ ys))]) → Q (.ref p) H1) : rCatT K (.ref a) (.ref b) H Q :=
  ⟨a, b, xs, ys, rfl, rfl, .of h1, .of h2, hx, hz, fun e => absurd e hy, fun _ p hp => q p _ (O.base_free hp) (O.new hp)⟩
theorem errE_no {z : Str} (h : ¬ okT z) : ∃ x y : String, ∀ way s, errE way z s = [.str x, .str y, .bl true] := by
  by_cases h1 : 2000 < z.length
  · exact ⟨"TooLong", "2000", fun way s => by unfold errE; rw [if_pos h1]⟩
  · cases hf : flt (tl z) 0 [] with
    | none => exact absurd ⟨by omega, hf⟩ h
    | some j => exact ⟨"NotNested", toString ((j : Nat) : Int), fun way s => by unfold errE; rw [if_neg h1, hf]⟩
theorem Own.front {B H : Hp} {M R N : List (Addr × HO)} (O : Own B H M (R ++ N)) (hn : ∀ x ∈ N, B x.1 = none) : Own B H M R := (O.perm List.perm_append_comm).dropTo hn
def spRefused : Sp := spB 1 BxD (fun r => ∃ z, r = [.str z] ∧ Nst (tl z) ∧ z.length ≤ 40) (fun _ v => v = .bl true)
abbrev NM_law_refused : List Str := ["box", "text", "due", "start", "way"]
theorem sc_law_refused : FnScope NM_law_refused ["box", "text"] (defScope s_law_refused) := ⟨rfl, rfl, rfl, by decide +kernel, rfl, by decide +kernel, by decide +kernel⟩
theorem d_law_refused (F : Fn0 K mg "_law_refused" s_law_refused) (T : Txt P K mg) (D_law_wrong_text : Def P w K mg base 4 "_law_wrong_text" ["box", "text"] spWrong) (D_law_text_error : Def P w K mg base 2 "_law_text_error" ["text"] spTextErr) (D_law_draw : Def P w K mg base 1 "_law_draw" ["box", "many"] spDraw) (D_law_error : Def P w K mg base 5 "_law_error" ["way", "text", "start"] spError) :
    Def P w K mg base 6 "_law_refused" ["box", "text"] spRefused := by
  refine Def.mk0 F sc_law_refused (by first | exact NF.hl_spB | exact NF.hl_spP | exact NF.hl_spNew | exact NF.hl_spPX | exact NF.hl_spN | exact NF.hl_spNX | exact hl_spRefused) (fun _ _ _ _ _ _ us hl => match us, hl with | [_, _], _ => rfl) (fun cdv A outer s H vs Q E hr h => ?_)
  refine ⟨_, (pss_cons (ps_set (i := 1) sc_law_refused.nd rfl (Or.inl rfl) (pe_d D_law_wrong_text (hr.mono (by decide)) rfl (pa_cons (pv 0) (pa_cons (pv 1) pa_nil))))
      (pss_cons (ps_set (i := 2) sc_law_refused.nd rfl (Or.inl rfl) (pe_op op_catT (pe_d D_law_text_error (hr.mono (by decide)) rfl (pa_cons (pv 1) pa_nil)) (pe_tup (pa_cons pe_bl pa_nil))))
      (pss_cons (ps_set (i := 3) sc_law_refused.nd rfl (Or.inl rfl) (pe_op op_sub (pe_d D_law_draw (hr.mono (by decide)) rfl (pa_cons (pv 0) (pa_cons (pe_op op_add (pe_callB (id := "len") callLen (by rfl) T.b_len (by decide +kernel) (pa_cons (pv 1) pa_nil)) pe_int) pa_nil))) pe_int))
      (pss_cons (ps_for PassesOwn.never rfl (pi_range1 (by rfl) T.b_range (pa_cons pe_int pa_nil)) (pg_name (i := 4) sc_law_refused.nd rfl (Or.inl rfl))
      (pss_one (ps_if (pt_cmpR (op_neD hr.units) (pe_d D_law_error (hr.mono (by decide)) rfl (pa_cons (pv 4) (pa_cons (pv 1) (pa_cons (pv 3) pa_nil)))) (pv 2) (nomark _))
      (pss_one (ps_ret pe_bl))
      pss_nil)))
      (pss_one (ps_ret pe_bl)))))), ?_⟩
  try dsimp only [cxOf, Cx.nox, Cx.wish]
  obtain ⟨a, A, M, rest, rfl, hl, hB, O, ⟨z0, rfl, hN, hz0⟩, k⟩ := h
  walk_at "gw"
  refine x_tx (E := E0) O hB rfl ⟨z0, rfl, hN, hz0⟩ fun z H1 M1 ⟨hno, hz⟩ hB O => ?_
  obtain ⟨s1, s2, he⟩ := errE_no hno
  walk_at "gw"
  refine NF.use_spN (E := E0) O rfl ⟨z, rfl, by omega, hno⟩ fun v H1 N hN1 O ⟨z2, pt, xs, ez, ev, eN, hxs⟩ => ?_
  cases ez
  subst ev eN
  have hpt := hN1 _ (List.mem_cons_self ..)
  have exs : xs = [.str s1, .str s2] := by
    have := hxs 0 0
    rw [he] at this
    exact List.append_cancel_right (bs := [V.bl true]) this
  subst exs
  walk_at "nO"
  walk_at "gw"
  refine NF.x_newT O (by decide +kernel) fun p1 H1 hp1 O => ?_
  walk_at "nO"
  walk_at "gw"
  refine x_catT O (O.get 0 rfl) (O.get 1 rfl) (by simp) (by simp) (by walk_at "len") fun p2 H1 hp2 O => ?_
  walk_at "nO"
  walk_at "gw"
  refine x_draw O hB (by omega) (by omega) fun d H1 M1 d0 d1 hB O => ?_
  walk_at "gw"
  refine NF.f_rng1 ⟨by decide, by decide⟩ (fun i σ H' => ∃ (u4 : Option V), σ = [some (.ref a), some (.str z), some (.ref p2), some (.int (d - 2)), u4] ∧ Own H H' M1 [(pt, .tup [.str s1, .str s2]), (p1, .tup [.bl true]), (p2, .tup [.str s1, .str s2, .bl true])]) ⟨_, rfl, O⟩ ?_ ?_
  · rintro i _ H2 hi ⟨u4, rfl, O⟩
    walk_at "gw"
    refine NF.use_spN (E := E0) O rfl ⟨(i : Int), z, d - 2, rfl, by omega, by
      have h3 := log_small (j := (d - 2).natAbs) (by omega)
      rw [Int.natAbs_natCast] at h3
      exact h3⟩ fun v H1 N hN O ⟨way2, z2, s3, pe, ez, ev, eN⟩ => ?_
    cases ez
    subst ev eN
    rw [he] at O
    walk_at "nO"
    walk_at "gw"
    refine NF.x_neDT (O.get 3 rfl) (O.get 2 rfl) (.cons (.str _) (.cons (.str _) (.cons (.bl _) .nil))) (shaped3 _ _ _) ?_
    walk_at "gw"
    exact ⟨_, rfl, Own.front (R := [_, _, _]) (N := [_]) O (by rw [he] at hN; exact hN)⟩
  · rintro _ H2 ⟨u4, rfl, O⟩
    walk_at "gw"
    refine k _ _ _ hB (O.drop fun x hx => ?_) rfl
    simp only [List.mem_cons, List.not_mem_nil, or_false] at hx
    rcases hx with rfl | rfl | rfl <;> assumption


theorem Rws.at {B H : Hp} {M R : List (Addr × HO)} {p : Addr} {l : List Nat} {N : List (Addr × HO)} (hR : Rws l p N) (O : Own B H M R) (hs : ∀ x ∈ N, x ∈ R) : RwsAt H l p := by
  obtain ⟨ts, hl, rfl⟩ := hR
  refine ⟨ts, hl, O.mem (hs _ (List.mem_cons_self ..)), fun i t a h1 h2 => O.mem (x := (t, .tup (rowV l a))) (hs _ (List.mem_cons_of_mem _ ?_))⟩
  refine List.mem_of_getElem? (i := i) (List.getElem?_zip_eq_some.mpr ⟨h1, ?_⟩)
  unfold tups
  rw [List.getElem?_map, h2]
  rfl
theorem ixs_half {l : List Nat} (hr : run l [] = some []) : ∀ {i : Nat}, i ≤ l.length → 2 * (ixs l i).length = i + (stk l i).length
  | 0, _ => rfl
  | i + 1, h => by
    have ih := ixs_half hr (i := i) (by omega)
    have S := stk_ok hr (i := i) (by omega)
    obtain ⟨c, hc⟩ : ∃ c, l[i]? = some c := ⟨_, List.getElem?_eq_getElem (by omega)⟩
    rw [ixs_succ, lowAt_of hc]
    by_cases hl : low c
    · rw [stk_low hc hl, decide_eq_true hl, if_pos rfl]
      simp only [List.length_append, List.length_cons, List.length_nil]
      omega
    · obtain ⟨a, ps, e, _⟩ := S.pop hr hc hl
      rw [stk_up hc hl, decide_eq_false hl, if_neg (by decide), List.append_nil, e, List.tail_cons]
      rw [e, List.length_cons] at ih
      omega
theorem ixs_all {l : List Nat} (hr : run l [] = some []) : 2 * (ixs l l.length).length = l.length := by
  have h := ixs_half hr (Nat.le_refl _)
  rw [(stk_ok hr (Nat.le_refl _)).done hr (Nat.le_refl _), List.length_nil] at h
  omega
theorem kids_non (l : List Nat) (L : List Nat) (b : Nat) : (par l b).isNone = decide (fv (par l b) = V.non) := by
  cases par l b <;> simp [fv]
def spLaw (K : PySem.W.Frag) : Sp := fun vs H Q _ => ∃ (a : Addr) (ns : List Int), vs = [.ref a] ∧ SqL K H a (ns.map V.int) ∧ ns.length ≤ 63 ∧ ∀ H', Q (.bl true) H'
theorem hl_spLaw {K : PySem.W.Frag} : ∀ vs H Q E, spLaw K vs H Q E → vs.length = 1 := fun vs H Q E h => by
  obtain ⟨a, ns, rfl, _⟩ := h
  rfl
abbrev NM_law : List Str := ["script", "box", "way", "text", "rows", "far", "starts", "start", "row"]
theorem sc_law : FnScope NM_law ["script"] (defScope s_law) := ⟨rfl, rfl, rfl, by decide +kernel, rfl, by decide +kernel, by decide +kernel⟩
theorem d_law {f : Addr} {fd : FuncData} (F : Fun K "law" "law" s_law f fd) (T : Txt P K mg) (D_law_box : Def P w K mg base 1 "_law_box" ["script"] (spBox K)) (D_law_draw : Def P w K mg base 1 "_law_draw" ["box", "many"] spDraw) (D_law_nested : Def P w K mg base 2 "_law_nested" ["box", "many"] spNested) (D_law_rows : Def P w K mg base 1 "_law_rows" ["text"] spRows) (D_law_refused : Def P w K mg base 6 "_law_refused" ["box", "text"] spRefused) (D_law_long : Def P w K mg base 2 "_law_long" ["box", "text"] spLong) (D_law_numbers_same : Def P w K mg base 2 "_law_numbers_same" ["told", "due"] spNums) (D_law_rows_same : Def P w K mg base 3 "_law_rows_same" ["told", "rows"] spRowsSame) (D_law_is : Def P w K mg base 1 "_law_is" ["told", "due"] spIs) (D_children : DefX P w K mg base 4 "children" ["text", "start"] [] (spChildren mg)) (D_law_index_right : Def P w K mg base 6 "_law_index_right" ["text", "rows", "start"] spIndex) (D_nodes : DefX P w K mg base 4 "nodes" ["text"] [] (spNodes mg)) (D_size : DefX P w K mg base 4 "size" ["text"] [] (spSize mg)) :
    FnOk P w K mg base CX0 7 f fd ["script"] (spLaw K) := by
  refine F.ok sc_law (by first | exact NF.hl_spB | exact NF.hl_spP | exact NF.hl_spNew | exact NF.hl_spPX | exact NF.hl_spN | exact NF.hl_spNX | exact hl_spLaw) (fun cdv A outer s H vs Q E hr h => ?_)
  refine ⟨_, (pss_cons (ps_set (i := 1) sc_law.nd rfl (Or.inl rfl) (pe_d D_law_box (hr.mono (by decide)) rfl (pa_cons (pv 0) pa_nil)))
      (pss_cons (ps_set (i := 2) sc_law.nd rfl (Or.inl rfl) (pe_d D_law_draw (hr.mono (by decide)) rfl (pa_cons (pv 1) (pa_cons pe_int pa_nil))))
      (pss_cons (ps_set (i := 3) sc_law.nd rfl (Or.inl rfl) (pe_d D_law_nested (hr.mono (by decide)) rfl (pa_cons (pv 1) (pa_cons (pe_d D_law_draw (hr.mono (by decide)) rfl (pa_cons (pv 1) (pa_cons pe_int pa_nil))) pa_nil))))
      (pss_cons (ps_if (PW.pt (pw_or (pt_cmpR op_eq (pv 2) pe_int (nomark _)) (pw_or1 (pt_cmpR op_eq (pv 2) pe_int (nomark _)))))
      (pss_one (ps_ret (pe_d D_law_refused (hr.mono (by decide)) rfl (pa_cons (pv 1) (pa_cons (pv 3) pa_nil)))))
      pss_nil)
      (Evl.pss_cut (ps_if (pt_cmpR op_eq (pv 2) pe_int (nomark _))
      (pss_one (ps_set (i := 3) sc_law.nd rfl (Or.inl rfl) (pe_d D_law_long (hr.mono (by decide)) rfl (pa_cons (pv 1) (pa_cons (pv 3) pa_nil)))))
      pss_nil)
      (pss_cons (ps_set (i := 4) sc_law.nd rfl (Or.inl rfl) (pe_d D_law_rows (hr.mono (by decide)) rfl (pa_cons (pv 3) pa_nil)))
      (pss_cons (ps_if (PW.pt (pw_or (pt_not (pt_val (pe_d D_law_rows_same (hr.mono (by decide)) rfl (pa_cons (pe_dx D_nodes (hr.mono (by decide)) takesN0 (by rfl) (pa_cons (pv 3) pa_nil)) (pa_cons (pv 4) pa_nil))))) (pw_or1 (pt_not (pt_val (pe_d D_law_is (hr.mono (by decide)) rfl (pa_cons (pe_dx D_size (hr.mono (by decide)) takesN0 (by rfl) (pa_cons (pv 3) pa_nil)) (pa_cons (pe_callB (id := "len") callLen (by rfl) T.b_len (by decide +kernel) (pa_cons (pv 4) pa_nil)) pa_nil))))))))
      (pss_one (ps_ret pe_bl))
      pss_nil)
      (pss_cons (ps_if (pt_not (pt_val (pe_d D_law_numbers_same (hr.mono (by decide)) rfl (pa_cons (pe_dx D_children (hr.mono (by decide)) takesN0 (by rfl) (pa_cons (pv 3) (pa_cons pe_non pa_nil))) (pa_cons (pe_lc (own := [("row", 8)]) (g := gName 8) rfl sc_law.nd (pi_list (pv 4)) (blkOk_by (own := [("row", 8)]) (N := NM_law) (sc := defScope s_law) (by decide +kernel)) (fun _ _ _ _ _ => pg_name (i := 8) sc_law.nd rfl (Or.inl rfl)) (fun _ _ _ _ _ => pts_one (pt_cmpR opIsN (pe_ix (show IxR _ (rIxT K) from ix_tup) (pv 8) pe_int (fun _ _ => rfl)) pe_non (nomark _))) (fun _ _ _ _ _ => (pe_ix (show IxR _ (rIxT K) from ix_tup) (pv 8) pe_int (fun _ _ => rfl)))) pa_nil)))))
      (pss_one (ps_ret pe_bl))
      pss_nil)
      (pss_cons (ps_set (i := 5) sc_law.nd rfl (Or.inl rfl) (pe_op op_add (pe_op op_pow pe_int pe_int) (pe_d D_law_draw (hr.mono (by decide)) rfl (pa_cons (pv 1) (pa_cons (pe_op op_pow pe_int pe_int) pa_nil)))))
      (pss_cons (ps_set (i := 6) sc_law.nd rfl (Or.inl rfl) (pe_lst (pa_cons (pv 5) (pa_cons (pe_un un_neg (pv 5)) pa_nil))))
      (Evl.pss_cut (ps_if (pt_cmpR op_eq (pv 2) pe_int (nomark _))
      (pss_cons (ps_set (i := 6) sc_law.nd rfl (Or.inl rfl) (pe_op op_cat (pv 6) (pe_lst (pa_cons (pe_d D_law_draw (hr.mono (by decide)) rfl (pa_cons (pv 1) (pa_cons (pe_callB (id := "len") callLen (by rfl) T.b_len (by decide +kernel) (pa_cons (pv 3) pa_nil)) pa_nil))) (pa_cons (pe_d D_law_draw (hr.mono (by decide)) rfl (pa_cons (pv 1) (pa_cons (pe_callB (id := "len") callLen (by rfl) T.b_len (by decide +kernel) (pa_cons (pv 3) pa_nil)) pa_nil))) pa_nil)))))
      (pss_one (ps_set (i := 6) sc_law.nd rfl (Or.inl rfl) (pe_op op_cat (pv 6) (pe_lst (pa_cons pe_int (pa_cons (pe_op op_sub (pe_callB (id := "len") callLen (by rfl) T.b_len (by decide +kernel) (pa_cons (pv 3) pa_nil)) pe_int) (pa_cons (pe_un un_neg pe_int) (pa_cons (pe_callB (id := "len") callLen (by rfl) T.b_len (by decide +kernel) (pa_cons (pv 3) pa_nil)) pa_nil)))))))))
      (pss_one (ps_set (i := 6) sc_law.nd rfl (Or.inl rfl) (pe_op op_cat (pv 6) (pe_listRg rfl (by rfl) T.b_list (prg_2 (by rfl) T.b_range (pe_op op_sub (pe_un un_neg (pe_callB (id := "len") callLen (by rfl) T.b_len (by decide +kernel) (pa_cons (pv 3) pa_nil))) pe_int) (pe_op op_add (pe_callB (id := "len") callLen (by rfl) T.b_len (by decide +kernel) (pa_cons (pv 3) pa_nil)) pe_int)))))))
      (pss_cons (ps_for PassesOwn.never rfl (pi_list (pv 6)) (pg_name (i := 7) sc_law.nd rfl (Or.inl rfl))
      (pss_one (ps_if (pt_not (pt_val (pe_d D_law_index_right (hr.mono (by decide)) rfl (pa_cons (pv 3) (pa_cons (pv 4) (pa_cons (pv 7) pa_nil))))))
      (pss_one (ps_ret pe_bl))
      pss_nil)))
      (pss_one (ps_ret pe_bl)))))))))))))), ?_⟩
  try dsimp only [cxOf, Cx.nox, Cx.wish]
  obtain ⟨sa, ns, rfl, hS, hns, k⟩ := h
  have O := NF.Own.refl0 H
  walk_at "gw"
  refine ⟨sa, ns, rfl, hS, hns, fun a A H1 M hB hO => ?_⟩
  have O := hO _ _ O
  walk_at "gw"
  refine x_draw O hB (by decide) (by decide) fun way H1 M1 w0 w1 hB O => ?_
  walk_at "gw"
  refine x_draw O hB (by decide) (by decide) fun many H1 M1 m0 m1 hB O => ?_
  walk_at "gw"
  refine x_tx (E := E0) O hB rfl ⟨many, rfl, by omega, by omega⟩ fun z H1 M1 ⟨m2, em, hN, hz⟩ hB O => ?_
  cases em
  walk_at "gw"
  have fin1 : ∀ H1 M1, In BxD a A M1 → Own H H1 M1 [] → spRefused [.ref a, .str z] H1 Q E0 := fun H1 M1 hB O =>
    NF.use_spB (rest := [.str z]) O hB rfl ⟨z, rfl, hN, by omega⟩ fun v H1 M1 hB O ev => by
      subst ev
      exact k _
  refine NF.x_iteI (fun h1 => ?_) (fun h1 => ?_)
  · refine NF.x_itb (fun _ => ?_) (fun h => absurd h (by decide))
    walk_at "gw"
    exact fin1 _ _ hB O
  walk_at "gw"
  refine NF.x_iteI (fun h2 => ?_) (fun h2 => ?_)
  · walk_at "gw"
    exact fin1 _ _ hB O
  walk_at "gw"
  refine NF.x_cut (fun σ H' => ∃ (z : Str) (M' : List (Addr × HO)), σ = [some (.ref sa), some (.ref a), some (.int way), some (.str z), none, none, none, none, none] ∧ In BxD a A M' ∧ Own H H' M' [] ∧ Nst (tl z) ∧ z.length ≤ 2000 ∧ (way = 0 → 0 < z.length)) ?_ ?_
  · walk_at "gw"
    refine NF.x_iteI (fun h0 => ?_) (fun h0 => ?_)
    · walk_at "gw"
      refine x_tx (E := E0) O hB rfl ⟨z, rfl, hN, by omega⟩ fun z2 H1 M1 ⟨g1, g2, g3⟩ hB O => ?_
      walk_at "gw"
      exact ⟨_, _, rfl, hB, O, g1, g3, fun _ => by omega⟩
    · walk_at "gw"
      exact ⟨_, _, rfl, hB, O, hN, by omega, fun h => absurd h h0⟩
  clear fin1 hN hz
  rintro _ H2 ⟨z, M2, rfl, hB, O, hN, hz, hz0⟩
  have hr : run (tl z) [] = some [] := hN
  have hlz := len_tl z
  have ok : okT z := ⟨hz, flt_of_nst hr⟩
  have noX : ∀ x fs, excT z x fs → False := fun x fs he => by
    rcases he with ⟨_, _, h⟩ | ⟨_, _, j, h, _⟩
    · omega
    · rw [ok.2] at h
      cases h
  walk_at "gw"
  refine NF.use_spN (E := E0) O rfl ⟨z, rfl, hz, hr⟩ fun v H1 N1 hN1 O ⟨z2, pr, ez, ev, hR1⟩ => ?_
  cases ez
  subst ev
  walk_at "gw"
  refine NF.use_spNX O rfl ⟨z, rfl, by omega⟩ (fun v H1 N2 hN2 O ⟨z2, pn, ez, _, ev, hR2⟩ => ?_) (fun x fs d H1 O ⟨z2, ez, he⟩ hd hfd => ?_)
  rotate_left
  · cases ez
    exact (noX _ _ he).elim
  cases ez
  subst ev
  have A1 : RwsAt H1 (tl z) pr := hR1.at O fun x hx => List.mem_append_left _ (List.mem_append_right _ hx)
  have A2 : RwsAt H1 (tl z) pn := hR2.at O fun x hx => List.mem_append_right _ hx
  walk_at "gw"
  refine ⟨pn, pr, tl z, rfl, by omega, A2, A1, fun H3 O3 => ?_⟩
  have A1 := A1.keep O3
  have O := O.call0 O3
  walk_at "gw"
  refine NF.use_spPX O rfl ⟨z, rfl, by omega⟩ (fun v H1 O ⟨z2, ez, _, ev⟩ => ?_) (fun x fs d H1 O ⟨z2, ez, he⟩ hd hfd => ?_)
  rotate_left
  · cases ez
    exact (noX _ _ he).elim
  cases ez
  subst ev
  clear A1 A2
  obtain ⟨ts, hts, eN1⟩ := hR1
  obtain ⟨R0, eR0⟩ : ∃ R0, R0 = [] ++ N1 ++ N2 := ⟨_, rfl⟩
  have m1 : ∀ x ∈ N1, x ∈ R0 := fun x hx => by
    rw [eR0]
    exact List.mem_append_left _ (List.mem_append_right _ hx)
  have hR0 : ∀ x ∈ R0, H x.1 = none := fun x hx => by
    rw [eR0, List.nil_append] at hx
    rcases List.mem_append.mp hx with hx | hx
    · exact hN1 x hx
    · exact hN2 x hx
  have mp : (pr, HO.lst (ts.map V.ref)) ∈ R0 := m1 _ (by rw [eN1]; exact List.mem_cons_self ..)
  have mrow : ∀ (i : Nat) (t : Addr) (b : Nat), ts[i]? = some t → (ixs (tl z) (tl z).length)[i]? = some b → (t, HO.tup (rowV (tl z) b)) ∈ R0 := fun i t b h1 h2 => by
    refine m1 _ ?_
    rw [eN1]
    refine List.mem_cons_of_mem _ (List.mem_of_getElem? (i := i) (List.getElem?_zip_eq_some.mpr ⟨h1, ?_⟩))
    unfold tups
    rw [List.getElem?_map, h2]
    rfl
  have RA : ∀ (H' : Hp) (M' R : List (Addr × HO)), Own H H' M' (R0 ++ R) → RwsAt H' (tl z) pr := fun H' M' R O => ⟨ts, hts, O.mem (List.mem_append_left _ mp), fun i t b h1 h2 => O.mem (x := (t, .tup (rowV (tl z) b))) (List.mem_append_left _ (mrow i t b h1 h2))⟩
  rw [← eR0] at O
  clear m1 eN1 hR2 eR0 hN1 hN2
  have hp := O.mem mp
  have hall := ixs_all hr
  have hix := ixs_len (tl z) (tl z).length
  walk_at "gw"
  refine NF.use_spP (E := E0) O rfl ⟨_, _, rfl⟩ fun v H1 O ⟨i1, j1, ez, ev⟩ => ?_
  cases ez
  subst ev
  rw [decide_eq_true (by rw [List.length_map]; omega)]
  walk_at "gw"
  refine NF.use_spNX O rfl ⟨z, none, rfl, by omega⟩ (fun v H1 N hN O ⟨z2, s2, pc, N', ez, _, _, ev, eN⟩ => ?_) (fun x fs d H1 O ⟨z2, s2, ez, he⟩ hd hfd => ?_)
  rotate_left
  · cases s2 with
    | some s3 => cases ez
    | none =>
      cases ez
      rcases he with he | ⟨_, i, e, _⟩
      · exact (noX _ _ he).elim
      · cases e
  cases s2 with
  | some s3 => cases ez
  | none =>
  cases ez
  subst ev eN
  walk_at "gw"
  have hN3 : ∀ (p2 : Addr) (o : HO), H p2 = none → ∀ x ∈ (R0 ++ ((pc, HO.lst ((kids (tl z) (ixs (tl z) z.length) (ov none)).map nV)) :: N')) ++ [(p2, o)], H x.1 = none := fun p2 o h2 x hx => by
    rcases List.mem_append.mp hx with hx | hx
    · rcases List.mem_append.mp hx with hx | hx
      · exact hR0 x hx
      · exact hN x hx
    · rcases List.mem_singleton.mp hx with rfl
      exact h2
  have hpm : ∀ (H' : Hp) (M' R : List (Addr × HO)) (y : Addr × HO), y ∈ R0 → Own H H' M' (R0 ++ R) → H' y.1 = some y.2 := fun H' M' R y hy O => O.mem (List.mem_append_left _ hy)
  refine NF.lc_lst2 (SqL.of (hpm _ _ _ (pr, _) mp O)) O (fun i acc M' => M' = M2 ∧ acc = (kids (tl z) ((ixs (tl z) (tl z).length).take i) (ov none)).map nV)
    (fun i H' M' p' acc hp' hP O' => by
      rw [List.append_assoc] at O'
      exact SqL.of (hpm _ _ _ (pr, _) mp O')) ⟨rfl, rfl⟩ (fun i x H' M' p' acc hp' hx hl hP O' => ?_) fun p' H' M' acc hp' hl hP O' => ?_
  · obtain ⟨rfl, rfl⟩ := hP
    obtain ⟨t1, ht1, rfl⟩ : ∃ t, ts[i]? = some t ∧ V.ref t = x := by
      rw [List.getElem?_map] at hx
      cases h : ts[i]? with
      | none => rw [h] at hx; cases hx
      | some t => rw [h] at hx; exact ⟨t, rfl, Option.some.inj hx⟩
    have hi : i < ts.length := (List.getElem?_eq_some_iff.mp ht1).1
    obtain ⟨b, hb⟩ : ∃ b, (ixs (tl z) (tl z).length)[i]? = some b := ⟨_, List.getElem?_eq_getElem (by omega)⟩
    have hTb := hpm _ _ _ _ (mrow i t1 b ht1 hb) (by rw [List.append_assoc] at O'; exact O')
    walk_at "gw"
    refine NF.x_ite (fun h => ?_) (fun h => ?_)
    · walk_at "gw"
      refine NF.lc_done O' hl (by rw [sizeLine_eq]; omega) ⟨rfl, ?_⟩
      rw [take_snoc' hb, kids_snoc, if_pos (decide_eq_true h), List.map_append]
      rfl
    · refine NF.lc_skip O' hl ⟨rfl, ?_⟩
      rw [take_snoc' hb, kids_snoc, if_neg (fun q => h (of_decide_eq_true q)), List.append_nil]
  obtain ⟨rfl, rfl⟩ := hP
  have el2 : (ts.map V.ref).length = (ixs (tl z) (tl z).length).length := by rw [List.length_map, hts]
  rw [el2, List.take_length] at O'
  have hk := kids_len (tl z) (ixs (tl z) (tl z).length) (ov none)
  walk_at "gw"
  refine ⟨pc, p', kids (tl z) (ixs (tl z) (tl z).length) (ov none), rfl, by omega, ?_, O'.last, fun H3 O3 => ?_⟩
  · have q := O'.mem (x := (pc, _)) (List.mem_append_left _ (List.mem_append_right _ (List.mem_cons_self ..)))
    rw [hlz] at q
    exact q
  have O4 := O'.call0 O3
  rw [List.append_assoc] at O4
  have O := O4.front fun x hx => hN3 p' _ hp' x (by rw [List.append_assoc]; exact List.mem_append_right _ hx)
  clear O4 O' hN3 hN
  walk_at "gw"
  refine NF.use_spB (E := E0) (rest := [_]) O hB rfl ⟨_, rfl, by decide +kernel, by decide +kernel⟩ fun v H1 M1 hB O ⟨m2, d, em, ev, d0, d1⟩ => ?_
  cases em
  subst ev
  obtain ⟨far, hfar⟩ : ∃ far : Int, far = 10 ^ Int.toNat 6 + d := ⟨_, rfl⟩
  walk_at "gw"
  rw [← hfar]
  have hf1 : far.natAbs < 2 ^ 200 := by
    have e1 : (10 : Int) ^ Int.toNat 30 < 2 ^ 199 := by decide +kernel
    have e2 : (10 : Int) ^ Int.toNat 6 < 2 ^ 199 := by decide +kernel
    have e3 : (0 : Int) < 10 ^ Int.toNat 6 := by decide +kernel
    omega
  have hlog : ∀ n : Int, n.natAbs < 2 ^ 200 → n.natAbs.log2 < 1900 := fun n h => by
    have := PySem.Flt.log2_lt_of (show 0 < 200 by decide) h
    omega
  refine NF.x_newL O (by walk_at "len") fun p0 H1 hp0 O => ?_
  have hp0l := O.last
  walk_at "gw"
  refine NF.x_cut (fun σ H' => ∃ (ps : Addr) (xs : List Int) (M' R : List (Addr × HO)), σ = [some (.ref sa), some (.ref a), some (.int way), some (.str z), some (.ref pr), some (.int far), some (.ref ps), none, none] ∧ In BxD a A M' ∧ Own H H' M' (R0 ++ R) ∧ (ps, HO.lst (xs.map V.int)) ∈ R ∧ ∀ n ∈ xs, n.natAbs < 2 ^ 200) ?_ ?_
  · walk_at "gw"
    refine NF.x_iteI (fun h0 => ?_) (fun h0 => ?_)
    · have hz0 := hz0 h0
      walk_at "gw"
      refine x_draw O hB (by omega) (by omega) fun e1 H1 M1 a0 a1 hB O => ?_
      walk_at "gw"
      refine x_draw O hB (by omega) (by omega) fun e2 H1 M1 b0 b1 hB O => ?_
      walk_at "gw"
      refine NF.x_newL O (by walk_at "len") fun p1 H1 hp1 O => ?_
      walk_at "gw"
      refine NF.x_cat O (O.mem (x := (p0, .lst [.int far, .int (-far)])) (by simp)) O.last (by walk_at "len") fun p2 H1 hp2 O => ?_
      walk_at "gw"
      refine NF.x_newL O (by walk_at "len") fun p3 H1 hp3 O => ?_
      walk_at "gw"
      refine NF.x_cat O (O.mem (x := (p2, .lst ([.int far, .int (-far)] ++ [.int e1, .int e2]))) (by simp)) O.last (by walk_at "len") fun p4 H1 hp4 O => ?_
      simp only [List.append_assoc] at O
      refine ⟨_, [far, -far, e1, e2, 0, (z.length : Int) - 1, -1, z.length], _, _, rfl, hB, O, by simp, fun n hn => ?_⟩
      simp only [List.mem_cons, List.not_mem_nil, or_false] at hn
      rcases hn with rfl | rfl | rfl | rfl | rfl | rfl | rfl | rfl <;> omega
    · walk_at "gw"
      refine NF.x_lstRg2 ?_
      walk_at "gw"
      refine ⟨_, _, rfl, rfl, ?_⟩
      refine NF.x_newRg O (by unfold RgOk; omega) fun p1 H1 hp1 O => ?_
      walk_at "gw"
      refine NF.x_cat O (O.mem (x := (p0, .lst [.int far, .int (-far)])) (by simp)) O.last (by simp only [List.length_cons, List.length_nil, List.length_map, List.length_range, sizeLine_eq]; omega) fun p2 H1 hp2 O => ?_
      simp only [List.append_assoc] at O
      refine ⟨_, [far, -far] ++ ((List.range ((z.length : Int) + 2 - (-(z.length : Int) - 1)).toNat).map fun i : Nat => -(z.length : Int) - 1 + (i : Int)), _, _, rfl, hB, O, by simp, fun n hn => ?_⟩
      rcases List.mem_append.mp hn with hn | hn
      · simp only [List.mem_cons, List.not_mem_nil, or_false] at hn
        rcases hn with rfl | rfl <;> omega
      · obtain ⟨i, hi, rfl⟩ := List.mem_map.mp hn
        have := List.mem_range.mp hi
        omega
  rintro _ H2 ⟨ps, xs, M3, R3, rfl, hB, O, hps, hxs⟩
  have hps2 : (ps, HO.lst (xs.map V.int)) ∈ R0 ++ R3 := List.mem_append_right _ hps
  walk_at "gw"
  refine NF.f_list (SqL.of (O.mem hps2)) (fun i σ H' => ∃ (u7 : Option V), σ = [some (.ref sa), some (.ref a), some (.int way), some (.str z), some (.ref pr), some (.int far), some (.ref ps), u7, none] ∧ Own H H' M3 (R0 ++ R3)) ⟨_, rfl, O⟩ ?_ ?_ ?_
  · rintro i σ H' ⟨u7, rfl, O⟩
    exact SqL.of (O.mem hps2)
  · rintro i x _ H3 hx ⟨u7, rfl, O⟩
    obtain ⟨n, hn, rfl⟩ : ∃ n, xs[i]? = some n ∧ V.int n = x := by
      rw [List.getElem?_map] at hx
      cases h : xs[i]? with
      | none => rw [h] at hx; cases hx
      | some t => rw [h] at hx; exact ⟨t, rfl, Option.some.inj hx⟩
    walk_at "gw"
    refine ⟨z, pr, n, rfl, ok, hlog n (hxs n (List.mem_of_getElem? hn)), RA _ _ _ O, fun H4 O4 => ?_⟩
    have O := O.call0 O4
    walk_at "gw"
    exact ⟨_, rfl, O⟩
  · rintro _ H3 ⟨u7, rfl, O⟩
    walk_at "gw"
    exact k _


end
theorem all_mk {l : PySem.W.OpenLaw} {w : World} {K : PySem.W.Frag} {h : Heap} {mg : Str → Option Value} {fa : Addr} {c_BadEdit c_LimitError c_NestError c_NoNode c_NotNested c_TooLong : Addr} (X : K.In h) (G : h.Ns mainGlobals mg) (hfa : mg "law" = some (.ref fa))
    (h_law_box : Has K "_law_box" s_law_box)
    (h_law_draw : Has K "_law_draw" s_law_draw)
    (h_law_nested : Has K "_law_nested" s_law_nested)
    (h_law_rows : Has K "_law_rows" s_law_rows)
    (h_law_long : Has K "_law_long" s_law_long)
    (h_law_beyond : Has K "_law_beyond" s_law_beyond)
    (h_law_char : Has K "_law_char" s_law_char)
    (h_law_bent_text : Has K "_law_bent_text" s_law_bent_text)
    (h_law_fault : Has K "_law_fault" s_law_fault)
    (h_law_wrong_text : Has K "_law_wrong_text" s_law_wrong_text)
    (h_law_text_error : Has K "_law_text_error" s_law_text_error)
    (h_fault : Has K "fault" s_fault)
    (h_checked : HasD K "checked" s_checked [.int 2000])
    (h_starts_node : Has K "starts_node" s_starts_node)
    (h_partners : Has K "partners" s_partners)
    (h_node_rows : Has K "node_rows" s_node_rows)
    (h_children : Has K "children" s_children)
    (h_inside_of : Has K "inside_of" s_inside_of)
    (h_path_of : Has K "path_of" s_path_of)
    (h_nodes : Has K "nodes" s_nodes)
    (h_size : Has K "size" s_size)
    (h_law_error : Has K "_law_error" s_law_error)
    (h_law_refused : Has K "_law_refused" s_law_refused)
    (h_law_is : Has K "_law_is" s_law_is)
    (h_law_numbers_same : Has K "_law_numbers_same" s_law_numbers_same)
    (h_law_row_same : Has K "_law_row_same" s_law_row_same)
    (h_law_rows_same : Has K "_law_rows_same" s_law_rows_same)
    (h_law_start_right : Has K "_law_start_right" s_law_start_right)
    (h_law_index_right : Has K "_law_index_right" s_law_index_right)
    (h_law : Has K "law" s_law)
    (z_ValueError : PySem.W.nsIn K mainGlobals "ValueError" = some none)
    (z_bool : PySem.W.nsIn K mainGlobals "bool" = some none)
    (z_enumerate : PySem.W.nsIn K mainGlobals "enumerate" = some none)
    (z_int : PySem.W.nsIn K mainGlobals "int" = some none)
    (z_isinstance : PySem.W.nsIn K mainGlobals "isinstance" = some none)
    (z_len : PySem.W.nsIn K mainGlobals "len" = some none)
    (z_list : PySem.W.nsIn K mainGlobals "list" = some none)
    (z_max : PySem.W.nsIn K mainGlobals "max" = some none)
    (z_min : PySem.W.nsIn K mainGlobals "min" = some none)
    (z_range : PySem.W.nsIn K mainGlobals "range" = some none)
    (z_repr : PySem.W.nsIn K mainGlobals "repr" = some none)
    (z_str : PySem.W.nsIn K mainGlobals "str" = some none)
    (z_super : PySem.W.nsIn K mainGlobals "super" = some none)
    (z_tuple : PySem.W.nsIn K mainGlobals "tuple" = some none)
    (y_NAMES : HasC K "NAMES" (.str "abcdefgh"))
    (y_TEXT_LIMIT : HasC K "TEXT_LIMIT" (.int 2000))
    (y_CLOSINGS : HasC K "_CLOSINGS" (.str "ABCDEFGH"))
    (n_BadEdit : PySem.W.nsIn K mainGlobals "BadEdit" = some (some (.ref c_BadEdit)))
    (n_LimitError : PySem.W.nsIn K mainGlobals "LimitError" = some (some (.ref c_LimitError)))
    (n_NestError : PySem.W.nsIn K mainGlobals "NestError" = some (some (.ref c_NestError)))
    (n_NoNode : PySem.W.nsIn K mainGlobals "NoNode" = some (some (.ref c_NoNode)))
    (n_NotNested : PySem.W.nsIn K mainGlobals "NotNested" = some (some (.ref c_NotNested)))
    (n_TooLong : PySem.W.nsIn K mainGlobals "TooLong" = some (some (.ref c_TooLong)))
    (x_NoNode : XRaw l.prog K c_NoNode "index")
    (x_NotNested : XRaw l.prog K c_NotNested "index")
    (x_TooLong : XRaw l.prog K c_TooLong "limit")
    (p_NoNode_BadEdit : XPair K (.ref c_NoNode) (.ref c_BadEdit) false)
    (p_NoNode_LimitError : XPair K (.ref c_NoNode) (.ref c_LimitError) false)
    (p_NoNode_NestError : XPair K (.ref c_NoNode) (.ref c_NestError) true)
    (p_NoNode_NoNode : XPair K (.ref c_NoNode) (.ref c_NoNode) true)
    (p_NoNode_NotNested : XPair K (.ref c_NoNode) (.ref c_NotNested) false)
    (p_NoNode_TooLong : XPair K (.ref c_NoNode) (.ref c_TooLong) false)
    (p_NoNode_ValueError : XPair K (.ref c_NoNode) (.type "ValueError") true)
    (p_NotNested_BadEdit : XPair K (.ref c_NotNested) (.ref c_BadEdit) false)
    (p_NotNested_LimitError : XPair K (.ref c_NotNested) (.ref c_LimitError) false)
    (p_NotNested_NestError : XPair K (.ref c_NotNested) (.ref c_NestError) true)
    (p_NotNested_NoNode : XPair K (.ref c_NotNested) (.ref c_NoNode) false)
    (p_NotNested_NotNested : XPair K (.ref c_NotNested) (.ref c_NotNested) true)
    (p_NotNested_TooLong : XPair K (.ref c_NotNested) (.ref c_TooLong) false)
    (p_NotNested_ValueError : XPair K (.ref c_NotNested) (.type "ValueError") true)
    (p_TooLong_BadEdit : XPair K (.ref c_TooLong) (.ref c_BadEdit) false)
    (p_TooLong_LimitError : XPair K (.ref c_TooLong) (.ref c_LimitError) true)
    (p_TooLong_NestError : XPair K (.ref c_TooLong) (.ref c_NestError) true)
    (p_TooLong_NoNode : XPair K (.ref c_TooLong) (.ref c_NoNode) false)
    (p_TooLong_NotNested : XPair K (.ref c_TooLong) (.ref c_NotNested) false)
    (p_TooLong_TooLong : XPair K (.ref c_TooLong) (.ref c_TooLong) true)
    (p_TooLong_ValueError : XPair K (.ref c_TooLong) (.type "ValueError") true)
    : ∃ fd : FuncData, (∀ (s : Shared) (v : Value), BindsTo s fd ⟨[v], []⟩ [("script", v)]) ∧ ∀ base : Heap, K.In base → base.Ns mainGlobals mg → FnOk l.prog w K mg base CX0 7 fa fd ["script"] (spLaw K) := by
  have T : Txt l.prog K mg := ⟨PySem.W.mg_none_of X G z_ValueError, PySem.W.mg_none_of X G z_bool, PySem.W.mg_none_of X G z_enumerate, PySem.W.mg_none_of X G z_int, PySem.W.mg_none_of X G z_isinstance, PySem.W.mg_none_of X G z_len, PySem.W.mg_none_of X G z_list, PySem.W.mg_none_of X G z_max, PySem.W.mg_none_of X G z_min, PySem.W.mg_none_of X G z_range, PySem.W.mg_none_of X G z_repr, PySem.W.mg_none_of X G z_str, PySem.W.mg_none_of X G z_tuple, y_NAMES.mg X G, y_TEXT_LIMIT.mg X G, y_CLOSINGS.mg X G, cls_mk X G n_BadEdit, cls_mk X G n_LimitError, cls_mk X G n_NestError, cls_mk X G n_NoNode, cls_mk X G n_NotNested, cls_mk X G n_TooLong, x_NoNode.fact X G n_NoNode (PySem.W.mg_none_of X G z_super), x_NotNested.fact X G n_NotNested (PySem.W.mg_none_of X G z_super), x_TooLong.fact X G n_TooLong (PySem.W.mg_none_of X G z_super), pair_mk X G n_NoNode n_BadEdit p_NoNode_BadEdit, pair_mk X G n_NoNode n_LimitError p_NoNode_LimitError, pair_mk X G n_NoNode n_NestError p_NoNode_NestError, pair_mk X G n_NoNode n_NoNode p_NoNode_NoNode, pair_mk X G n_NoNode n_NotNested p_NoNode_NotNested, pair_mk X G n_NoNode n_TooLong p_NoNode_TooLong, pairT_mk X G n_NoNode p_NoNode_ValueError, pair_mk X G n_NotNested n_BadEdit p_NotNested_BadEdit, pair_mk X G n_NotNested n_LimitError p_NotNested_LimitError, pair_mk X G n_NotNested n_NestError p_NotNested_NestError, pair_mk X G n_NotNested n_NoNode p_NotNested_NoNode, pair_mk X G n_NotNested n_NotNested p_NotNested_NotNested, pair_mk X G n_NotNested n_TooLong p_NotNested_TooLong, pairT_mk X G n_NotNested p_NotNested_ValueError, pair_mk X G n_TooLong n_BadEdit p_TooLong_BadEdit, pair_mk X G n_TooLong n_LimitError p_TooLong_LimitError, pair_mk X G n_TooLong n_NestError p_TooLong_NestError, pair_mk X G n_TooLong n_NoNode p_TooLong_NoNode, pair_mk X G n_TooLong n_NotNested p_TooLong_NotNested, pair_mk X G n_TooLong n_TooLong p_TooLong_TooLong, pairT_mk X G n_TooLong p_TooLong_ValueError⟩
  refine law_end X G hfa h_law (fun _ _ _ _ _ _ s v => .of_eq rfl) fun base fd F => ?_
  have D_law_box := d_law_box (P := l.prog) (w := w) (base := base) (h_law_box.fn X G) T 
  have D_law_draw := d_law_draw (P := l.prog) (w := w) (base := base) (h_law_draw.fn X G) T 
  have D_law_nested := d_law_nested (P := l.prog) (w := w) (base := base) (h_law_nested.fn X G) T D_law_draw
  have D_law_rows := d_law_rows (P := l.prog) (w := w) (base := base) (h_law_rows.fn X G) T 
  have D_law_long := d_law_long (P := l.prog) (w := w) (base := base) (h_law_long.fn X G) T D_law_draw
  have D_law_beyond := d_law_beyond (P := l.prog) (w := w) (base := base) (h_law_beyond.fn X G) T D_law_draw
  have D_law_char := d_law_char (P := l.prog) (w := w) (base := base) (h_law_char.fn X G) T D_law_draw
  have D_law_bent_text := d_law_bent_text (P := l.prog) (w := w) (base := base) (h_law_bent_text.fn X G) T D_law_draw D_law_char
  have D_law_fault := d_law_fault (P := l.prog) (w := w) (base := base) (h_law_fault.fn X G) T 
  have D_law_wrong_text := d_law_wrong_text (P := l.prog) (w := w) (base := base) (h_law_wrong_text.fn X G) T D_law_draw D_law_long D_law_beyond D_law_bent_text D_law_fault
  have D_law_text_error := d_law_text_error (P := l.prog) (w := w) (base := base) (h_law_text_error.fn X G) T D_law_fault
  have D_fault := d_fault (P := l.prog) (w := w) (base := base) (h_fault.fn X G) T 
  have D_checked := d_checked (P := l.prog) (w := w) (base := base) (h_checked.fn X G (by decide)) T D_fault
  have D_starts_node := d_starts_node (P := l.prog) (w := w) (base := base) (h_starts_node.fn X G) T 
  have D_partners := d_partners (P := l.prog) (w := w) (base := base) (h_partners.fn X G) T 
  have D_node_rows := d_node_rows (P := l.prog) (w := w) (base := base) (h_node_rows.fn X G) T D_partners
  have D_children := d_children (P := l.prog) (w := w) (base := base) (h_children.fn X G) T D_checked D_starts_node D_node_rows
  have D_inside_of := d_inside_of (P := l.prog) (w := w) (base := base) (h_inside_of.fn X G) T D_checked D_starts_node D_partners
  have D_path_of := d_path_of (P := l.prog) (w := w) (base := base) (h_path_of.fn X G) T D_checked D_starts_node
  have D_nodes := d_nodes (P := l.prog) (w := w) (base := base) (h_nodes.fn X G) T D_checked D_node_rows
  have D_size := d_size (P := l.prog) (w := w) (base := base) (h_size.fn X G) T D_checked
  have D_law_error := d_law_error (P := l.prog) (w := w) (base := base) (h_law_error.fn X G) T D_children D_inside_of D_path_of D_nodes D_size
  have D_law_refused := d_law_refused (P := l.prog) (w := w) (base := base) (h_law_refused.fn X G) T D_law_wrong_text D_law_text_error D_law_draw D_law_error
  have D_law_is := d_law_is (P := l.prog) (w := w) (base := base) (h_law_is.fn X G) T 
  have D_law_numbers_same := d_law_numbers_same (P := l.prog) (w := w) (base := base) (h_law_numbers_same.fn X G) T D_law_is
  have D_law_row_same := d_law_row_same (P := l.prog) (w := w) (base := base) (h_law_row_same.fn X G) T D_law_is
  have D_law_rows_same := d_law_rows_same (P := l.prog) (w := w) (base := base) (h_law_rows_same.fn X G) T D_law_row_same
  have D_law_start_right := d_law_start_right (P := l.prog) (w := w) (base := base) (h_law_start_right.fn X G) T D_inside_of D_path_of D_law_numbers_same D_children
  have D_law_index_right := d_law_index_right (P := l.prog) (w := w) (base := base) (h_law_index_right.fn X G) T D_law_start_right D_law_error
  exact d_law F T D_law_box D_law_draw D_law_nested D_law_rows D_law_refused D_law_long D_law_numbers_same D_law_rows_same D_law_is D_children D_law_index_right D_nodes D_size
theorem walk {l : PySem.W.OpenLaw} {q : Program} {loose : List Str} {XP : (Str → Option Value) → Heap → Prop} {YP : World → Heap → Prop} {d : DefRec} {K : Params → PySem.W.Frag} (hn : l.most = some 63) (hdf : d.params.defaults = [])
    (hY : ∀ (w : World) (h : Heap), YP w h → (K w.params).In h)
    (F : ∀ (w : World) (mg : Str → Option Value) (fa : Addr) (h : Heap), (K w.params).In h → h.Ns mainGlobals mg → mg d.name = some (.ref fa) →
      ∃ fd : FuncData, (∀ (s : Shared) (u : Value), BindsTo s fd ⟨[u], []⟩ [("script", u)]) ∧ ∀ base : Heap, (K w.params).In base → base.Ns mainGlobals mg → FnOk l.prog w (K w.params) mg base CX0 7 fa fd ["script"] (spLaw (K w.params))) :
    PySem.W.WalkO q loose XP YP l.row.toRowW d [] (fun f vs => PySem.call f vs) :=
  L2.walk_of (n := 63) (k := 7) (x := "script") (CX := fun _ => CX0) (sp := fun w => spLaw (K w.params)) hn (by decide) hdf ⟨rfl, by decide, by decide⟩ hY F (fun _ _ a ns hl _ hS => ⟨a, ns, rfl, hS, hl, fun _ => rfl⟩) fun _ _ _ _ _ z => z
end NF
open PySem PySem.W PyProof.Rows in
set_option maxRecDepth 100000 in
set_option maxHeartbeats 0 in
theorem PySem.Challenge.cw_nestform_k01_nodes_of_texts_holds : PySem.Challenge.rw_nestform_k01_nodes_of_texts.Holds := by
  w_on; o_law; k_head; (case hw => w_witness2)
  k_fill
  refine NF.walk (l := PySem.Challenge.rw_nestform_k01_nodes_of_texts) rfl rfl (fun w h Y => PySem.W.kIn_of Y) ?F
  case F =>
    intro w mg fa h KX G hmg
    refine' NF.all_mk KX G hmg (NF.has_mk ?n0 ?l0 ?c0 ?k0) (NF.has_mk ?n1 ?l1 ?c1 ?k1) (NF.has_mk ?n2 ?l2 ?c2 ?k2) (NF.has_mk ?n3 ?l3 ?c3 ?k3) (NF.has_mk ?n4 ?l4 ?c4 ?k4) (NF.has_mk ?n5 ?l5 ?c5 ?k5) (NF.has_mk ?n6 ?l6 ?c6 ?k6) (NF.has_mk ?n7 ?l7 ?c7 ?k7) (NF.has_mk ?n8 ?l8 ?c8 ?k8) (NF.has_mk ?n9 ?l9 ?c9 ?k9) (NF.has_mk ?n10 ?l10 ?c10 ?k10) (NF.has_mk ?n11 ?l11 ?c11 ?k11) (NF.hasD_mk ?n12 ?l12 ?c12 ?k12 ?t12 ?v12) (NF.has_mk ?n13 ?l13 ?c13 ?k13) (NF.has_mk ?n14 ?l14 ?c14 ?k14) (NF.has_mk ?n15 ?l15 ?c15 ?k15) (NF.has_mk ?n16 ?l16 ?c16 ?k16) (NF.has_mk ?n17 ?l17 ?c17 ?k17) (NF.has_mk ?n18 ?l18 ?c18 ?k18) (NF.has_mk ?n19 ?l19 ?c19 ?k19) (NF.has_mk ?n20 ?l20 ?c20 ?k20) (NF.has_mk ?n21 ?l21 ?c21 ?k21) (NF.has_mk ?n22 ?l22 ?c22 ?k22) (NF.has_mk ?n23 ?l23 ?c23 ?k23) (NF.has_mk ?n24 ?l24 ?c24 ?k24) (NF.has_mk ?n25 ?l25 ?c25 ?k25) (NF.has_mk ?n26 ?l26 ?c26 ?k26) (NF.has_mk ?n27 ?l27 ?c27 ?k27) (NF.has_mk ?n28 ?l28 ?c28 ?k28) (NF.has_mk ?n29 ?l29 ?c29 ?k29) ?z_ValueError ?z_bool ?z_enumerate ?z_int ?z_isinstance ?z_len ?z_list ?z_max ?z_min ?z_range ?z_repr ?z_str ?z_super ?z_tuple (NF.hasC_mk ?y_NAMES ?r_NAMES) (NF.hasC_mk ?y_TEXT_LIMIT ?r_TEXT_LIMIT) (NF.hasC_mk ?y_CLOSINGS ?r_CLOSINGS) ?q_BadEdit ?q_LimitError ?q_NestError ?q_NoNode ?q_NotNested ?q_TooLong (NF.xraw_mk ?x_NoNode_iC ?x_NoNode_lk ?x_NoNode_hcode ?x_NoNode_hcell ?x_NoNode_hx ?x_NoNode_hcd ?x_NoNode_hvs ?x_NoNode_hfile ?x_NoNode_htop ?x_NoNode_hp ?x_NoNode_har ?x_NoNode_hns ?x_NoNode_hdb ?x_NoNode_s1 ?x_NoNode_s2 ?x_NoNode_s3 ?x_NoNode_s4 ?x_NoNode_hnc ?x_NoNode_hco ?x_NoNode_hgen ?x_NoNode_hk ?x_NoNode_hb ?x_NoNode_hme) (NF.xraw_mk ?x_NotNested_iC ?x_NotNested_lk ?x_NotNested_hcode ?x_NotNested_hcell ?x_NotNested_hx ?x_NotNested_hcd ?x_NotNested_hvs ?x_NotNested_hfile ?x_NotNested_htop ?x_NotNested_hp ?x_NotNested_har ?x_NotNested_hns ?x_NotNested_hdb ?x_NotNested_s1 ?x_NotNested_s2 ?x_NotNested_s3 ?x_NotNested_s4 ?x_NotNested_hnc ?x_NotNested_hco ?x_NotNested_hgen ?x_NotNested_hk ?x_NotNested_hb ?x_NotNested_hme) (NF.xraw_mk ?x_TooLong_iC ?x_TooLong_lk ?x_TooLong_hcode ?x_TooLong_hcell ?x_TooLong_hx ?x_TooLong_hcd ?x_TooLong_hvs ?x_TooLong_hfile ?x_TooLong_htop ?x_TooLong_hp ?x_TooLong_har ?x_TooLong_hns ?x_TooLong_hdb ?x_TooLong_s1 ?x_TooLong_s2 ?x_TooLong_s3 ?x_TooLong_s4 ?x_TooLong_hnc ?x_TooLong_hco ?x_TooLong_hgen ?x_TooLong_hk ?x_TooLong_hb ?x_TooLong_hme) (NF.xpair_mk ?p_NoNode_BadEdit) (NF.xpair_mk ?p_NoNode_LimitError) (NF.xpair_mk ?p_NoNode_NestError) (NF.xpair_mk ?p_NoNode_NoNode) (NF.xpair_mk ?p_NoNode_NotNested) (NF.xpair_mk ?p_NoNode_TooLong) (NF.xpair_mk ?p_NoNode_ValueError) (NF.xpair_mk ?p_NotNested_BadEdit) (NF.xpair_mk ?p_NotNested_LimitError) (NF.xpair_mk ?p_NotNested_NestError) (NF.xpair_mk ?p_NotNested_NoNode) (NF.xpair_mk ?p_NotNested_NotNested) (NF.xpair_mk ?p_NotNested_TooLong) (NF.xpair_mk ?p_NotNested_ValueError) (NF.xpair_mk ?p_TooLong_BadEdit) (NF.xpair_mk ?p_TooLong_LimitError) (NF.xpair_mk ?p_TooLong_NestError) (NF.xpair_mk ?p_TooLong_NoNode) (NF.xpair_mk ?p_TooLong_NotNested) (NF.xpair_mk ?p_TooLong_TooLong) (NF.xpair_mk ?p_TooLong_ValueError)
    (case n0 => k_is)
    (case l0 => k_is)
    (case c0 => k_is)
    (case k0 => k_is)
    (case n1 => k_is)
    (case l1 => k_is)
    (case c1 => k_is)
    (case k1 => k_is)
    (case n2 => k_is)
    (case l2 => k_is)
    (case c2 => k_is)
    (case k2 => k_is)
    (case n3 => k_is)
    (case l3 => k_is)
    (case c3 => k_is)
    (case k3 => k_is)
    (case n4 => k_is)
    (case l4 => k_is)
    (case c4 => k_is)
    (case k4 => k_is)
    (case n5 => k_is)
    (case l5 => k_is)
    (case c5 => k_is)
    (case k5 => k_is)
    (case n6 => k_is)
    (case l6 => k_is)
    (case c6 => k_is)
    (case k6 => k_is)
    (case n7 => k_is)
    (case l7 => k_is)
    (case c7 => k_is)
    (case k7 => k_is)
    (case n8 => k_is)
    (case l8 => k_is)
    (case c8 => k_is)
    (case k8 => k_is)
    (case n9 => k_is)
    (case l9 => k_is)
    (case c9 => k_is)
    (case k9 => k_is)
    (case n10 => k_is)
    (case l10 => k_is)
    (case c10 => k_is)
    (case k10 => k_is)
    (case n11 => k_is)
    (case l11 => k_is)
    (case c11 => k_is)
    (case k11 => k_is)
    (case n12 => k_is)
    (case l12 => k_is)
    (case c12 => k_is)
    (case k12 => k_is)
    (case t12 => k_is)
    (case v12 => exact .cons ⟨_, rfl⟩ .nil)
    (case n13 => k_is)
    (case l13 => k_is)
    (case c13 => k_is)
    (case k13 => k_is)
    (case n14 => k_is)
    (case l14 => k_is)
    (case c14 => k_is)
    (case k14 => k_is)
    (case n15 => k_is)
    (case l15 => k_is)
    (case c15 => k_is)
    (case k15 => k_is)
    (case n16 => k_is)
    (case l16 => k_is)
    (case c16 => k_is)
    (case k16 => k_is)
    (case n17 => k_is)
    (case l17 => k_is)
    (case c17 => k_is)
    (case k17 => k_is)
    (case n18 => k_is)
    (case l18 => k_is)
    (case c18 => k_is)
    (case k18 => k_is)
    (case n19 => k_is)
    (case l19 => k_is)
    (case c19 => k_is)
    (case k19 => k_is)
    (case n20 => k_is)
    (case l20 => k_is)
    (case c20 => k_is)
    (case k20 => k_is)
    (case n21 => k_is)
    (case l21 => k_is)
    (case c21 => k_is)
    (case k21 => k_is)
    (case n22 => k_is)
    (case l22 => k_is)
    (case c22 => k_is)
    (case k22 => k_is)
    (case n23 => k_is)
    (case l23 => k_is)
    (case c23 => k_is)
    (case k23 => k_is)
    (case n24 => k_is)
    (case l24 => k_is)
    (case c24 => k_is)
    (case k24 => k_is)
    (case n25 => k_is)
    (case l25 => k_is)
    (case c25 => k_is)
    (case k25 => k_is)
    (case n26 => k_is)
    (case l26 => k_is)
    (case c26 => k_is)
    (case k26 => k_is)
    (case n27 => k_is)
    (case l27 => k_is)
    (case c27 => k_is)
    (case k27 => k_is)
    (case n28 => k_is)
    (case l28 => k_is)
    (case c28 => k_is)
    (case k28 => k_is)
    (case n29 => k_is)
    (case l29 => k_is)
    (case c29 => k_is)
    (case k29 => k_is)
    (case z_ValueError => k_is)
    (case z_bool => k_is)
    (case z_enumerate => k_is)
    (case z_int => k_is)
    (case z_isinstance => k_is)
    (case z_len => k_is)
    (case z_list => k_is)
    (case z_max => k_is)
    (case z_min => k_is)
    (case z_range => k_is)
    (case z_repr => k_is)
    (case z_str => k_is)
    (case z_super => k_is)
    (case z_tuple => k_is)
    (case y_NAMES => k_is)
    (case r_NAMES => exact ⟨_, rfl⟩)
    (case y_TEXT_LIMIT => k_is)
    (case r_TEXT_LIMIT => exact ⟨_, rfl⟩)
    (case y_CLOSINGS => k_is)
    (case r_CLOSINGS => exact ⟨_, rfl⟩)
    (case q_BadEdit => k_is)
    (case q_LimitError => k_is)
    (case q_NestError => k_is)
    (case q_NoNode => k_is)
    (case q_NotNested => k_is)
    (case q_TooLong => k_is)
    (case x_NoNode_iC => k_is)
    (case x_NoNode_lk => k_is)
    (case x_NoNode_hcode => k_is)
    (case x_NoNode_hcell => k_is)
    (case x_NoNode_hx => kernel_rfl)
    (case x_NoNode_hcd => k_is)
    (case x_NoNode_hvs => exact rfl)
    (case x_NoNode_hfile => kernel_rfl)
    (case x_NoNode_htop => kernel_rfl)
    (case x_NoNode_hp => exact rfl)
    (case x_NoNode_har => exact rfl)
    (case x_NoNode_hns => decide)
    (case x_NoNode_hdb => decide)
    (case x_NoNode_s1 => exact rfl)
    (case x_NoNode_s2 => exact rfl)
    (case x_NoNode_s3 => exact rfl)
    (case x_NoNode_s4 => exact rfl)
    (case x_NoNode_hnc => decide)
    (case x_NoNode_hco => exact rfl)
    (case x_NoNode_hgen => exact rfl)
    (case x_NoNode_hk => exact rfl)
    (case x_NoNode_hb => exact fun us hl => match us, hl with | [_, _], _ => rfl)
    (case x_NoNode_hme => exact fun env => rfl)
    (case x_NotNested_iC => k_is)
    (case x_NotNested_lk => k_is)
    (case x_NotNested_hcode => k_is)
    (case x_NotNested_hcell => k_is)
    (case x_NotNested_hx => kernel_rfl)
    (case x_NotNested_hcd => k_is)
    (case x_NotNested_hvs => exact rfl)
    (case x_NotNested_hfile => kernel_rfl)
    (case x_NotNested_htop => kernel_rfl)
    (case x_NotNested_hp => exact rfl)
    (case x_NotNested_har => exact rfl)
    (case x_NotNested_hns => decide)
    (case x_NotNested_hdb => decide)
    (case x_NotNested_s1 => exact rfl)
    (case x_NotNested_s2 => exact rfl)
    (case x_NotNested_s3 => exact rfl)
    (case x_NotNested_s4 => exact rfl)
    (case x_NotNested_hnc => decide)
    (case x_NotNested_hco => exact rfl)
    (case x_NotNested_hgen => exact rfl)
    (case x_NotNested_hk => exact rfl)
    (case x_NotNested_hb => exact fun us hl => match us, hl with | [_, _], _ => rfl)
    (case x_NotNested_hme => exact fun env => rfl)
    (case x_TooLong_iC => k_is)
    (case x_TooLong_lk => k_is)
    (case x_TooLong_hcode => k_is)
    (case x_TooLong_hcell => k_is)
    (case x_TooLong_hx => kernel_rfl)
    (case x_TooLong_hcd => k_is)
    (case x_TooLong_hvs => exact rfl)
    (case x_TooLong_hfile => kernel_rfl)
    (case x_TooLong_htop => kernel_rfl)
    (case x_TooLong_hp => exact rfl)
    (case x_TooLong_har => exact rfl)
    (case x_TooLong_hns => decide)
    (case x_TooLong_hdb => decide)
    (case x_TooLong_s1 => exact rfl)
    (case x_TooLong_s2 => exact rfl)
    (case x_TooLong_s3 => exact rfl)
    (case x_TooLong_s4 => exact rfl)
    (case x_TooLong_hnc => decide)
    (case x_TooLong_hco => exact rfl)
    (case x_TooLong_hgen => exact rfl)
    (case x_TooLong_hk => exact rfl)
    (case x_TooLong_hb => exact fun us hl => match us, hl with | [_, _], _ => rfl)
    (case x_TooLong_hme => exact fun env => rfl)
    (case p_NoNode_BadEdit => kernel_rfl)
    (case p_NoNode_LimitError => kernel_rfl)
    (case p_NoNode_NestError => kernel_rfl)
    (case p_NoNode_NoNode => kernel_rfl)
    (case p_NoNode_NotNested => kernel_rfl)
    (case p_NoNode_TooLong => kernel_rfl)
    (case p_NoNode_ValueError => kernel_rfl)
    (case p_NotNested_BadEdit => kernel_rfl)
    (case p_NotNested_LimitError => kernel_rfl)
    (case p_NotNested_NestError => kernel_rfl)
    (case p_NotNested_NoNode => kernel_rfl)
    (case p_NotNested_NotNested => kernel_rfl)
    (case p_NotNested_TooLong => kernel_rfl)
    (case p_NotNested_ValueError => kernel_rfl)
    (case p_TooLong_BadEdit => kernel_rfl)
    (case p_TooLong_LimitError => kernel_rfl)
    (case p_TooLong_NestError => kernel_rfl)
    (case p_TooLong_NoNode => kernel_rfl)
    (case p_TooLong_NotNested => kernel_rfl)
    (case p_TooLong_TooLong => kernel_rfl)
    (case p_TooLong_ValueError => kernel_rfl)

