import PyProof.Rows.All
import Wide.All
import OpenK.AllK
import Wide.FinOn
import HandS.ForMost
import HandS.Wide
import HandS.Conv
import HandS.Evl
import HandS.IsInst
import HandS.TupMul
import KE.DatumOrd
import PyProof.Draws
import KE.GoesEnum
import PyProof.EnumMake
import HandS.Walk
import PySem.Challenge.RW_nestform_k00_faults_of_strings
set_option Elab.async false
set_option linter.all false
set_option maxRecDepth 100000
set_option maxHeartbeats 4000000
/-! Own toolkit over the hand layer: what is owned, steps, promises. -/
namespace NF
open PySem L2

/-! ### what is owned: B the heap at the start, M a part kept closed, R the open part -/
structure Own (B H : Hp) (M R : List (Addr × HO)) : Prop where
  nd : ((M ++ R).map Prod.fst).Nodup
  at_ : ∀ x ∈ M ++ R, H x.1 = some x.2
  out : ∀ b, b ∉ (M ++ R).map Prod.fst → ∀ o, B b = some o → H b = some o

section
variable {B H H' : Hp} {M R : List (Addr × HO)} {a p : Addr} {o u : HO}

theorem Own.get (O : Own B H M R) (j : Nat) (h : R[j]? = some (a, o)) : H a = some o :=
  O.at_ (a, o) (List.mem_append_right _ (List.mem_of_getElem? h))
theorem Own.refl0 (H : Hp) : Own H H [] [] := ⟨List.nodup_nil, fun _ h => absurd h List.not_mem_nil, fun _ _ _ h => h⟩
theorem Own.start (nd : (R.map Prod.fst).Nodup) (h : ∀ x ∈ R, H x.1 = some x.2) : Own H H [] R := ⟨nd, h, fun _ _ _ e => e⟩
theorem Own.addr_mem (O : Own B H M R) (h : x ∈ M ++ R) : x.1 ∈ (M ++ R).map Prod.fst := List.mem_map_of_mem h
theorem Own.fresh (O : Own B H M R) (h : H p = none) : p ∉ (M ++ R).map Prod.fst := fun q => by
  obtain ⟨x, hx, e⟩ := List.mem_map.mp q
  have := O.at_ x hx
  rw [e, h] at this
  cases this
theorem Own.base_free (O : Own B H M R) (h : H p = none) : B p = none := by
  cases e : B p with
  | none => rfl
  | some o =>
    have := O.out p (O.fresh h) o e
    rw [h] at this
    cases this
theorem Own.new (O : Own B H M R) (h : H p = none) : Own B (upd H p o) M (R ++ [(p, o)]) := by
  have hp := O.fresh h
  refine ⟨?_, fun x hx => ?_, fun b hb u e => ?_⟩
  · rw [← List.append_assoc, List.map_append]
    refine List.nodup_append.mpr ⟨O.nd, by simp, fun y hy z hz => ?_⟩
    have ez : z = p := by simpa using hz
    intro e
    rw [e, ez] at hy
    exact hp hy
  · rw [← List.append_assoc] at hx
    rcases List.mem_append.mp hx with hx | hx
    · have q := O.at_ x hx
      have n : x.1 ≠ p := fun e => by rw [e, h] at q; cases q
      rw [upd_ne n]
      exact q
    · have e : x = (p, o) := by simpa using hx
      rw [e]
      exact upd_same
  · rw [← List.append_assoc, List.map_append] at hb
    have h1 : b ∉ (M ++ R).map Prod.fst := fun q => hb (List.mem_append_left _ q)
    have h2 : b ≠ p := fun q => hb (List.mem_append_right _ (by simp [q]))
    rw [upd_ne h2]
    exact O.out b h1 u e
theorem nodup_fst {L : List (Addr × HO)} (nd : (L.map Prod.fst).Nodup) {i j : Nat} {x y : Addr × HO} (hi : L[i]? = some x) (hj : L[j]? = some y) (e : x.1 = y.1) : i = j := by
  have h1 : (L.map Prod.fst)[i]? = some x.1 := by rw [List.getElem?_map, hi]; rfl
  have h2 : (L.map Prod.fst)[j]? = some x.1 := by rw [List.getElem?_map, hj, e]; rfl
  exact nodup_at nd h1 h2
where
  nodup_at {l : List Addr} (nd : l.Nodup) {i j : Nat} {v : Addr} (hi : l[i]? = some v) (hj : l[j]? = some v) : i = j := by
    obtain ⟨h1, e1⟩ := List.getElem?_eq_some_iff.mp hi
    obtain ⟨h2, e2⟩ := List.getElem?_eq_some_iff.mp hj
    exact (List.getElem_inj (h₀ := h1) (h₁ := h2) nd).mp (e1.trans e2.symm)
theorem map_set_fst {R : List (Addr × HO)} {j : Nat} (h : R[j]? = some (a, o)) (u : HO) : (R.set j (a, u)).map Prod.fst = R.map Prod.fst := by
  refine List.ext_getElem? fun i => ?_
  rw [List.getElem?_map, List.getElem?_map, List.getElem?_set]
  by_cases e : j = i
  · subst e
    have hj : j < R.length := (List.getElem?_eq_some_iff.mp h).1
    rw [if_pos rfl, if_pos hj, h]
    rfl
  · rw [if_neg e]
theorem mem_set_or {R : List (Addr × HO)} {j : Nat} {x y : Addr × HO} (h : x ∈ R.set j y) : x = y ∨ ∃ i, i ≠ j ∧ R[i]? = some x := by
  obtain ⟨i, hi⟩ := List.getElem?_of_mem h
  rw [List.getElem?_set] at hi
  by_cases e : j = i
  · rw [if_pos e] at hi
    split at hi
    · exact .inl (Option.some.inj hi).symm
    · cases hi
  · rw [if_neg e] at hi
    exact .inr ⟨i, fun q => e q.symm, hi⟩
theorem Own.put (O : Own B H M R) (j : Nat) (h : R[j]? = some (a, o)) (u : HO) : Own B (upd H a u) M (R.set j (a, u)) := by
  have em : (M ++ R.set j (a, u)).map Prod.fst = (M ++ R).map Prod.fst := by
    rw [List.map_append, List.map_append, map_set_fst h u]
  have ha : a ∈ (M ++ R).map Prod.fst := List.mem_map.mpr ⟨(a, o), List.mem_append_right _ (List.mem_of_getElem? h), rfl⟩
  refine ⟨by rw [em]; exact O.nd, fun x hx => ?_, fun b hb v e => ?_⟩
  · rcases List.mem_append.mp hx with hx | hx
    · have q := O.at_ x (List.mem_append_left _ hx)
      have n : x.1 ≠ a := fun e => by
        have nd := O.nd
        rw [List.map_append] at nd
        exact (List.nodup_append.mp nd).2.2 _ (List.mem_map_of_mem hx) _ (List.mem_map.mpr ⟨(a, o), List.mem_of_getElem? h, rfl⟩) e
      rw [upd_ne n]
      exact q
    · rcases mem_set_or hx with rfl | ⟨i, ne, hi⟩
      · exact upd_same
      · have n : x.1 ≠ a := fun e => by
          have nd := O.nd
          rw [List.map_append] at nd
          exact ne (nodup_fst (List.nodup_append.mp nd).2.1 hi h e)
        rw [upd_ne n]
        exact O.at_ x (List.mem_append_right _ (List.mem_of_getElem? hi))
  · rw [em] at hb
    have n : b ≠ a := fun q => hb (q ▸ ha)
    rw [upd_ne n]
    exact O.out b hb v e
/-- a callee that had the closed part M0 and gives it back as M1, with new objects N -/
theorem Own.call {M0 M1 N : List (Addr × HO)} (O : Own B H M0 R) (C : Own H H' M1 N) (e : M1.map Prod.fst = M0.map Prod.fst) (hn : ∀ x ∈ N, H x.1 = none) : Own B H' M1 (R ++ N) := by
  have key : ∀ x ∈ R, x.1 ∉ (M1 ++ N).map Prod.fst := fun x hx q => by
    rw [List.map_append] at q
    rcases List.mem_append.mp q with q | q
    · rw [e] at q
      have nd := O.nd
      rw [List.map_append] at nd
      exact (List.nodup_append.mp nd).2.2 _ q _ (List.mem_map_of_mem hx) rfl
    · obtain ⟨y, hy, ey⟩ := List.mem_map.mp q
      have h1 := hn y hy
      have h2 := O.at_ x (List.mem_append_right _ hx)
      rw [ey, h2] at h1
      cases h1
  refine ⟨?_, fun x hx => ?_, fun b hb v q => ?_⟩
  · have nd1 := C.nd
    have nd0 := O.nd
    rw [List.map_append] at nd1 nd0
    rw [List.map_append, List.map_append]
    obtain ⟨a1, a2, a3⟩ := List.nodup_append.mp nd1
    obtain ⟨b1, b2, b3⟩ := List.nodup_append.mp nd0
    refine List.nodup_append.mpr ⟨a1, List.nodup_append.mpr ⟨b2, a2, fun y hy z hz e2 => ?_⟩, fun y hy z hz e2 => ?_⟩
    · obtain ⟨x, hx, ex⟩ := List.mem_map.mp hy
      refine key x hx ?_
      rw [List.map_append]
      rw [ex, e2]
      exact List.mem_append_right _ hz
    · rcases List.mem_append.mp hz with hz | hz
      · rw [e] at hy
        exact b3 _ hy _ hz e2
      · exact a3 _ hy _ hz e2
  · rcases List.mem_append.mp hx with hx | hx
    · exact C.at_ x (List.mem_append_left _ hx)
    · rcases List.mem_append.mp hx with hx | hx
      · exact C.out x.1 (key x hx) _ (O.at_ x (List.mem_append_right _ hx))
      · exact C.at_ x (List.mem_append_right _ hx)
  · rw [List.map_append, List.map_append] at hb
    have h1 : b ∉ (M0 ++ R).map Prod.fst := fun z => hb (by
      rw [List.map_append] at z
      rcases List.mem_append.mp z with z | z
      · exact List.mem_append_left _ (e ▸ z)
      · exact List.mem_append_right _ (List.mem_append_left _ z))
    have h2 : b ∉ (M1 ++ N).map Prod.fst := fun z => hb (by
      rw [List.map_append] at z
      rcases List.mem_append.mp z with z | z
      · exact List.mem_append_left _ z
      · exact List.mem_append_right _ (List.mem_append_right _ z))
    exact C.out b h2 _ (O.out b h1 v q)
theorem Own.call0 (O : Own B H M R) (C : Own H H' [] []) : Own B H' M R := by
  have h := Own.call (M0 := []) (M1 := []) (N := []) (R := M ++ R) (B := B) ⟨O.nd, O.at_, O.out⟩ C rfl (fun _ h => absurd h List.not_mem_nil)
  rw [List.append_nil] at h
  exact ⟨h.nd, h.at_, h.out⟩
theorem Own.callN {N : List (Addr × HO)} (O : Own B H M R) (C : Own H H' [] N) (hn : ∀ x ∈ N, H x.1 = none) : Own B H' M (R ++ N) := by
  have h := Own.call (M0 := []) (M1 := []) (N := N) (R := M ++ R) (B := B) ⟨O.nd, O.at_, O.out⟩ C rfl hn
  have e : [] ++ (M ++ R ++ N) = M ++ (R ++ N) := by rw [List.nil_append, List.append_assoc]
  rw [show Own B H' M (R ++ N) = Own B H' M (R ++ N) from rfl]
  exact ⟨by rw [← e]; exact h.nd, by rw [← e]; exact h.at_, by rw [← e]; exact h.out⟩
/-- only the closed part is told to a callee -/
theorem Own.sub (O : Own B H M R) : Own H H M [] := ⟨by
    rw [List.append_nil]
    have nd := O.nd
    rw [List.map_append] at nd
    exact (List.nodup_append.mp nd).1, fun x hx => O.at_ x (by
    rw [List.append_nil] at hx
    exact List.mem_append_left _ hx), fun _ _ _ e => e⟩
theorem Own.nil (O : Own B H [] R) : Own H H [] R := ⟨O.nd, O.at_, fun _ _ _ e => e⟩
/-- the end of a def: its own objects (not there at the start) are forgotten -/
theorem Own.drop (O : Own B H M R) (hn : ∀ x ∈ R, B x.1 = none) : Own B H M [] := ⟨by
    rw [List.append_nil]
    have nd := O.nd
    rw [List.map_append] at nd
    exact (List.nodup_append.mp nd).1, fun x hx => O.at_ x (by
    rw [List.append_nil] at hx
    exact List.mem_append_left _ hx), fun b hb o e => O.out b (fun q => by
    rw [List.map_append] at q
    rcases List.mem_append.mp q with q | q
    · exact hb (by rw [List.append_nil]; exact q)
    · obtain ⟨x, hx, ex⟩ := List.mem_map.mp q
      have := hn x hx
      rw [ex, e] at this
      cases this) o e⟩
theorem Own.dropTo {N : List (Addr × HO)} (O : Own B H M (R ++ N)) (hn : ∀ x ∈ R, B x.1 = none) : Own B H M N := ⟨by
    have nd := O.nd
    rw [List.map_append, List.map_append] at nd
    rw [List.map_append]
    obtain ⟨a1, a2, a3⟩ := List.nodup_append.mp nd
    exact List.nodup_append.mpr ⟨a1, (List.nodup_append.mp a2).2.1, fun y hy z hz => a3 y hy z (List.mem_append_right _ hz)⟩, fun x hx => O.at_ x (by
    rcases List.mem_append.mp hx with hx | hx
    · exact List.mem_append_left _ hx
    · exact List.mem_append_right _ (List.mem_append_right _ hx)), fun b hb o e => O.out b (fun q => by
    rw [List.map_append, List.map_append] at q
    rw [List.map_append] at hb
    rcases List.mem_append.mp q with q | q
    · exact hb (List.mem_append_left _ q)
    · rcases List.mem_append.mp q with q | q
      · obtain ⟨x, hx, ex⟩ := List.mem_map.mp q
        have := hn x hx
        rw [ex, e] at this
        cases this
      · exact hb (List.mem_append_right _ q)) o e⟩
end
end NF

/-! Own toolkit: one lemma a step of a reading. -/
namespace NF
open PySem L2
section
variable {K : PySem.W.Frag} {σ : St} {B H H' : Hp} {M R : List (Addr × HO)} {a p : Addr} {o u : HO} {Q : VK} {te ta tb tc : TE} {tt tu : TT} {tar : TA} {v x y : V} {i j : Int} {r : R2}
  {nx bk ct : St → Hp → Prop} {rt : VK} {g : TG} {s1 s2 : TS} {QA : List V → Hp → Prop} {QT : Bool → Hp → Prop} {QO : Option Int → Hp → Prop} {z z1 z2 : Str} {xs ys : List V} {n : Nat} {sp : Sp} {E : XK} {dvs : List V}

/-- a new list, a new tuple is asked for -/
def newL (xs : List V) (H : Hp) (Q : VK) : Prop := xs.length ≤ sizeLine ∧ ∀ p, H p = none → Q (.ref p) (upd H p (.lst xs))
def newT (xs : List V) (H : Hp) (Q : VK) : Prop := xs.length ≤ sizeLine ∧ ∀ p, H p = none → Q (.ref p) (upd H p (.tup xs))
/-! #### expressions -/
theorem x_var {k : Nat} (h : σ[k]? = some (some v)) (q : Q v H) : tVar k σ H Q := ⟨v, h, q⟩
theorem x_c (q : Q v H) : tC v σ H Q := q
theorem x_op (q : ta σ H fun x H1 => tb σ H1 fun y H2 => r x y H2 Q) : tOp r ta tb σ H Q := q
theorem x_un {r : V → Hp → VK → Prop} (q : ta σ H fun x H1 => r x H1 Q) : tUn r ta σ H Q := q
theorem x_if (q : tt σ H fun c H1 => if c = true then ta σ H1 Q else tb σ H1 Q) : tIf tt ta tb σ H Q := q
theorem x_I0 {g : Int → Int → V} (q : Q (g i j) H) : rI0 g (.int i) (.int j) H Q := ⟨i, j, rfl, rfl, q⟩
theorem x_I {C : Int → Int → Prop} {g : Int → Int → V} (hc : C i j) (q : Q (g i j) H) : rI C g (.int i) (.int j) H Q := ⟨i, j, rfl, rfl, hc, q⟩
theorem x_U {g : Int → V} (q : Q (g i) H) : rU g (.int i) H Q := ⟨i, rfl, q⟩
theorem x_eq (h : scal x y = true) (q : Q (.bl (decide (x = y))) H) : rEq x y H Q := ⟨h, q⟩
theorem x_ne (h : scal x y = true) (q : Q (.bl (!decide (x = y))) H) : rNe x y H Q := ⟨h, q⟩
theorem x_ixL (h : H a = some (.lst xs)) (hv : atI xs i = some v) (q : Q v H) : rIxL K (.ref a) (.int i) H Q := ⟨a, xs, i, v, rfl, rfl, SqL.of h, hv, q⟩
theorem x_ixT (h : H a = some (.tup xs)) (hv : atI xs i = some v) (q : Q v H) : rIxT K (.ref a) (.int i) H Q := ⟨a, xs, i, v, rfl, rfl, SqT.of h, hv, q⟩
theorem x_ixS {c : Nat} (hz : z.length ≤ sizeLine) (hv : atI z.cps.toList i = some c) (q : Q (.str ⟨#[c]⟩) H) : rIxS (.str z) (.int i) H Q := ⟨z, i, c, rfl, rfl, hz, hv, q⟩
/-! #### tests -/
theorem x_test (q : te σ H fun x H' => ∃ k, x = .bl k ∧ QT k H') : tTest te σ H QT := q
theorem x_B (q : te σ H fun x H' => ∃ k, x = .bl k ∧ QT k H') : tB te σ H QT := q
theorem x_bl {P : Bool → Prop} {b : Bool} (q : P b) : ∃ k, V.bl b = .bl k ∧ P k := ⟨b, rfl, q⟩
theorem x_and (q : tt σ H fun c H1 => if c = true then tu σ H1 QT else QT false H1) : tAnd tt tu σ H QT := q
theorem x_or (q : tt σ H fun c H1 => if c = true then QT true H1 else tu σ H1 QT) : tOr tt tu σ H QT := q
theorem x_not (q : tt σ H fun c H1 => QT (!c) H1) : tNot tt σ H QT := q
theorem x_andV (q : ta σ H fun x H1 => ∃ c, x = .bl c ∧ if c = true then tb σ H1 Q else Q (.bl false) H1) : tAndV ta tb σ H Q := q
theorem x_orV (q : ta σ H fun x H1 => ∃ c, x = .bl c ∧ if c = true then Q (.bl true) H1 else tb σ H1 Q) : tOrV ta tb σ H Q := q
theorem x_notV (q : ta σ H fun x H1 => ∃ c, x = .bl c ∧ Q (.bl (!c)) H1) : tNotV ta σ H Q := q
theorem x_ite {p : Prop} [Decidable p] {A C : Prop} (h1 : p → A) (h2 : ¬ p → C) : if decide p = true then A else C := by
  by_cases h : p
  · rw [decide_eq_true h, if_pos rfl]; exact h1 h
  · rw [decide_eq_false h, if_neg Bool.false_ne_true]; exact h2 h
theorem x_itn {p : Prop} [Decidable p] {A C : Prop} (h1 : ¬ p → A) (h2 : p → C) : if (!decide p) = true then A else C := by
  by_cases h : p
  · rw [decide_eq_true h, Bool.not_true, if_neg Bool.false_ne_true]; exact h2 h
  · rw [decide_eq_false h, Bool.not_false, if_pos rfl]; exact h1 h
theorem x_itb {b : Bool} {A C : Prop} (h1 : b = true → A) (h2 : b = false → C) : if b = true then A else C := by
  cases b
  · rw [if_neg Bool.false_ne_true]; exact h2 rfl
  · rw [if_pos rfl]; exact h1 rfl
theorem x_tt {A C : Prop} (h : A) : if true = true then A else C := by rw [if_pos rfl]; exact h
theorem x_nt {A C : Prop} (h : C) : if (!true) = true then A else C := h
theorem x_nf {A C : Prop} (h : A) : if (!false) = true then A else C := h
theorem x_ff {A C : Prop} (h : C) : if false = true then A else C := by rw [if_neg Bool.false_ne_true]; exact h
theorem x_andP {b1 b2 : Bool} (h1 : ∀ QT : Bool → Hp → Prop, QT b1 H → tt σ H QT) (h2 : b1 = true → ∀ QT : Bool → Hp → Prop, QT b2 H → tu σ H QT) (q : QT (b1 && b2) H) : tAnd tt tu σ H QT := by
  refine h1 _ ?_
  cases b1 with
  | true => exact h2 rfl _ q
  | false => exact q
theorem x_orP {b1 b2 : Bool} (h1 : ∀ QT : Bool → Hp → Prop, QT b1 H → tt σ H QT) (h2 : b1 = false → ∀ QT : Bool → Hp → Prop, QT b2 H → tu σ H QT) (q : QT (b1 || b2) H) : tOr tt tu σ H QT := by
  refine h1 _ ?_
  cases b1 with
  | false => exact h2 rfl _ q
  | true => exact q
/-- and, or of two tests -/
theorem x_iteA {b1 b2 : Bool} {A C : Prop} (h1 : b1 = true → b2 = true → A) (h2 : ¬ (b1 = true ∧ b2 = true) → C) : if b1 = true then (if b2 = true then A else C) else C := by
  cases b1 <;> cases b2 <;> simp_all
theorem x_iteO {b1 b2 : Bool} {A C : Prop} (h1 : b1 = true ∨ b2 = true → A) (h2 : b1 = false → b2 = false → C) : if b1 = true then A else (if b2 = true then A else C) := by
  cases b1 <;> cases b2 <;> simp_all
theorem x_iteI {A C : Prop} (h1 : i = j → A) (h2 : i ≠ j → C) : if decide (V.int i = V.int j) = true then A else C := x_ite (fun h => h1 (V.int.inj h)) (fun h => h2 fun e => h (e ▸ rfl))
theorem x_itnI {A C : Prop} (h1 : i ≠ j → A) (h2 : i = j → C) : if (!decide (V.int i = V.int j)) = true then A else C := x_itn (fun h => h1 fun e => h (e ▸ rfl)) (fun h => h2 (V.int.inj h))
theorem x_iteS {A C : Prop} (h1 : z1 = z2 → A) (h2 : z1 ≠ z2 → C) : if decide (V.str z1 = V.str z2) = true then A else C := x_ite (fun h => h1 (V.str.inj h)) (fun h => h2 fun e => h (e ▸ rfl))
theorem x_itnS {A C : Prop} (h1 : z1 ≠ z2 → A) (h2 : z1 = z2 → C) : if (!decide (V.str z1 = V.str z2)) = true then A else C := x_itn (fun h => h1 fun e => h (e ▸ rfl)) (fun h => h2 (V.str.inj h))
/-! #### arguments, displays, calls -/
theorem x_nil (q : QA [] H) : tNil σ H QA := q
theorem x_cons (q : ta σ H fun x H1 => tar σ H1 fun xs H2 => QA (x :: xs) H2) : tCons ta tar σ H QA := q
theorem x_lst (q : tar σ H fun xs H1 => newL xs H1 Q) : tLst tar σ H Q := q
theorem x_tup (q : tar σ H fun xs H1 => newT xs H1 Q) : tTup tar σ H Q := q
/-- a new object goes behind what is owned -/
theorem x_newL (O : Own B H M R) (hz : xs.length ≤ sizeLine) (q : ∀ p H1, B p = none → Own B H1 M (R ++ [(p, .lst xs)]) → Q (.ref p) H1) : newL xs H Q := ⟨hz, fun p hp => q p _ (O.base_free hp) (O.new hp)⟩
theorem x_newT (O : Own B H M R) (hz : xs.length ≤ sizeLine) (q : ∀ p H1, B p = none → Own B H1 M (R ++ [(p, .tup xs)]) → Q (.ref p) H1) : newT xs H Q := ⟨hz, fun p hp => q p _ (O.base_free hp) (O.new hp)⟩
theorem x_cb {r : List V → Hp → VK → Prop} (q : tar σ H fun vs H1 => r vs H1 Q) : tCB r tar σ H Q := q
theorem x_call (q : tar σ H fun vs H1 => sp (vs ++ dvs) H1 Q E) : tCall sp dvs E tar σ H Q := q
/-! #### statements -/
theorem x_seq (q : s1 ⟨s2 ⟨nx, rt, bk, ct⟩, rt, bk, ct⟩ σ H) : tSeq s1 s2 ⟨nx, rt, bk, ct⟩ σ H := q
theorem x_cut (Mid : St → Hp → Prop) (q : s1 ⟨Mid, rt, bk, ct⟩ σ H) (k : ∀ σ' H', Mid σ' H' → s2 ⟨nx, rt, bk, ct⟩ σ' H') : Evl.tCut s1 s2 ⟨nx, rt, bk, ct⟩ σ H := ⟨Mid, q, k⟩
theorem x_asg (q : te σ H fun x H1 => g x σ H1 nx) : tAsg te g ⟨nx, rt, bk, ct⟩ σ H := q
theorem x_name {k : Nat} {QS : St → Hp → Prop} (q : QS (σ.set k (some v)) H) : gName k v σ H QS := q
theorem x_sub {to ti : TE} {t : TSet} {QS : St → Hp → Prop} (q : to σ H fun o H1 => ti σ H1 fun i H2 => t o i v H2 fun H3 => QS σ H3) : gSub to ti t v σ H QS := q
theorem x_setL {QH : Hp → Prop} (O : Own B H M R) (k : Nat) (hk : R[k]? = some (a, .lst xs)) (hi : ixN xs.length i = some n) (q : ∀ H1, Own B H1 M (R.set k (a, .lst (xs.set n v))) → QH H1) : rSetL (.ref a) (.int i) v H QH :=
  ⟨a, xs, i, n, rfl, rfl, O.get k hk, hi, q _ (O.put k hk _)⟩
theorem x_drop (q : te σ H fun _ H1 => nx σ H1) : tDrop te ⟨nx, rt, bk, ct⟩ σ H := q
theorem x_ret (q : te σ H rt) : tRet te ⟨nx, rt, bk, ct⟩ σ H := q
theorem x_retN (q : rt .non H) : tRetN ⟨nx, rt, bk, ct⟩ σ H := q
theorem x_ifs (q : tt σ H fun b H1 => if b = true then s1 ⟨nx, rt, bk, ct⟩ σ H1 else s2 ⟨nx, rt, bk, ct⟩ σ H1) : tIfS tt s1 s2 ⟨nx, rt, bk, ct⟩ σ H := q
theorem x_next (q : nx σ H) : tNext ⟨nx, rt, bk, ct⟩ σ H := q
theorem x_brk (q : bk σ H) : tBreak ⟨nx, rt, bk, ct⟩ σ H := q
theorem x_cnt (q : ct σ H) : tCont ⟨nx, rt, bk, ct⟩ σ H := q
/-! #### methods of a tracked list -/
theorem x_bm {T : String} {r : V → List V → Hp → VK → Prop} (q : ta σ H fun x H1 => tyV K T x H1 ∧ tar σ H1 fun xs H2 => r x xs H2 Q) : tBM K T r ta tar σ H Q := q
theorem x_bm0 {T : String} {r : V → List V → Hp → VK → Prop} (q : ta σ H fun x H1 => tyV K T x H1 ∧ r x [] H1 Q) : tBM0 K T r ta σ H Q := q
theorem x_tyL {P : Prop} (h : H a = some (.lst xs)) (q : P) : tyV K "list" (.ref a) H ∧ P := ⟨.inl ⟨rfl, xs, SqL.of h⟩, q⟩
theorem x_tyS {P : Prop} (q : P) : tyV K "str" (.str z) H ∧ P := ⟨rfl, q⟩
theorem x_append (O : Own B H M R) (k : Nat) (hk : R[k]? = some (a, .lst xs)) (hz : xs.length < sizeLine) (q : ∀ H1, Own B H1 M (R.set k (a, .lst (xs ++ [v]))) → Q .non H1) : rAppend (.ref a) [v] H Q :=
  ⟨a, xs, v, rfl, rfl, O.get k hk, hz, q _ (O.put k hk _)⟩
theorem x_pop (O : Own B H M R) (k : Nat) (hk : R[k]? = some (a, .lst xs)) (hv : xs[xs.length - 1]? = some v) (q : ∀ H1, Own B H1 M (R.set k (a, .lst xs.dropLast)) → Q v H1) : rPop (.ref a) [] H Q :=
  ⟨a, xs, v, rfl, rfl, O.get k hk, hv, q _ (O.put k hk _)⟩
theorem x_popAt (O : Own B H M R) (k : Nat) (hk : R[k]? = some (a, .lst xs)) (n : Nat) (h1 : -(2 ^ 63) ≤ i) (h2 : i < 2 ^ 63) (hn : seqIndex? i xs.length = some n) (hv : xs[n]? = some v) (q : ∀ H1, Own B H1 M (R.set k (a, .lst (xs.eraseIdx n))) → Q v H1) : rPopAt (.ref a) [.int i] H Q :=
  ⟨a, xs, i, n, v, rfl, rfl, O.get k hk, h1, h2, hn, hv, q _ (O.put k hk _)⟩
end

/-! ### named rules -/
section
variable {X : Cx}
def rLen (K : PySem.W.Frag) : List V → Hp → VK → Prop := fun xs H Q => ∃ x n, xs = [x] ∧ LenV K x H n ∧ Q (.int n) H
theorem callLen : CallR X (.builtin "len") (rLen X.K) := call_len
def rInt : List V → Hp → VK → Prop := fun xs H Q => (∃ i, xs = [.int i] ∧ Q (.int i) H) ∨ ∃ k, xs = [.bl k] ∧ Q (.int (if k then 1 else 0)) H
theorem callInt : CallR X (.type "int") rInt := call_int1
def rMin2 : List V → Hp → VK → Prop := fun xs H Q => ∃ i j, xs = [.int i, .int j] ∧ Q (.int (if j < i then j else i)) H
theorem callMin2 (hc : X.calm = true) : CallR X (.builtin "min") rMin2 := call_min2 hc
def rMax2 : List V → Hp → VK → Prop := fun xs H Q => ∃ i j, xs = [.int i, .int j] ∧ Q (.int (if j > i then j else i)) H
theorem callMax2 (hc : X.calm = true) : CallR X (.builtin "max") rMax2 := call_max2 hc
def rAbs : List V → Hp → VK → Prop := fun xs H Q => ∃ i, xs = [.int i] ∧ Q (.int (if i < 0 then -i else i)) H
theorem callAbs : CallR X (.builtin "abs") rAbs := call_abs
def rListOf (K : PySem.W.Frag) : List V → Hp → VK → Prop := fun xs H Q => ∃ p ys, xs = [.ref p] ∧ (SqL K H p ys ∨ SqT K H p ys) ∧ ∀ l, H l = none → Q (.ref l) (upd H l (.lst ys))
theorem callListOf : CallR X (.type "list") (rListOf X.K) := call_list_of
def rAddS : R2 := fun x y H Q => ∃ i j, x = .str i ∧ y = .str j ∧ i.length + j.length ≤ sizeLine ∧ Q (.str (i ++ j)) H
theorem opAddS : OpR X (binaryOp .Add) rAddS := op_add_str
def rInC : R2 := fun x y H Q => ∃ (c : Nat) (z : Str), x = .str ⟨#[c]⟩ ∧ y = .str z ∧ Q (.bl (decide (c ∈ z.cps.toList))) H
theorem opInC : OpR X (compareOp .In) rInC := op_in_sign
def rNotInC : R2 := fun x y H Q => ∃ (c : Nat) (z : Str), x = .str ⟨#[c]⟩ ∧ y = .str z ∧ Q (.bl (!decide (c ∈ z.cps.toList))) H
theorem opNotInC : OpR X (compareOp .NotIn) rNotInC := op_notIn_sign
def rIsN : R2 := fun x y H Q => y = .non ∧ Q (.bl (decide (x = .non))) H
theorem opIsN : OpR X (compareOp .Is) rIsN := op_isN
def rNotN : R2 := fun x y H Q => y = .non ∧ Q (.bl (!decide (x = .non))) H
theorem opNotN : OpR X (compareOp .IsNot) rNotN := op_notN
def tTru (K : PySem.W.Frag) (ta : TE) : TT := fun σ H Q => ta σ H fun x H' => ∃ k, TruV K x H' k ∧ Q k H'
theorem ptTruth {a : Expr} {ta : TE} (ha : PE X a ta) (he : ∀ whole, isTrue a X.env whole = (do let v ← whole; standAt a.pos; holding [v] (truthy v))) : PT X a (tTru X.K ta) := pt_truth ha he
def rUpper : V → List V → Hp → VK → Prop := fun x xs H Q => ∃ a, x = .str a ∧ xs = [] ∧ a.length ≤ 5592405 ∧ Q (.str (Txt.upper a)) H
theorem mtUpper : MtR X "str.upper" rUpper := mt_upper
def rLower : V → List V → Hp → VK → Prop := fun x xs H Q => ∃ a, x = .str a ∧ xs = [] ∧ a.length ≤ 5592405 ∧ Q (.str (Txt.lower a)) H
theorem mtLower : MtR X "str.lower" rLower := mt_lower
def rFind : V → List V → Hp → VK → Prop := fun x xs H Q => ∃ a b, x = .str a ∧ xs = [.str b] ∧ Q (.int (Txt.find a b)) H
theorem mtFind : MtR X "str.find" rFind := mt_find
def rJoin (K : PySem.W.Frag) : V → List V → Hp → VK → Prop := fun x xs H Q => ∃ a p, ∃ ys : List Str, x = .str a ∧ xs = [.ref p] ∧ (SqL K H p (ys.map V.str) ∨ SqT K H p (ys.map V.str)) ∧
    (ys.map (·.length)).sum + ys.length * a.length ≤ 16777216 ∧ Q (.str (Txt.join a ys)) H
theorem mtJoin : MtR X "str.join" (rJoin X.K) := mt_join
end
section
variable {K : PySem.W.Frag} {σ : St} {B H H' : Hp} {M R : List (Addr × HO)} {a p : Addr} {Q : VK} {ta : TE} {i j : Int} {z z1 z2 : Str} {xs : List V} {QT : Bool → Hp → Prop} {x : V} {c : Nat}
theorem x_lenS (h : z.length ≤ sizeLine) (q : Q (.int z.length) H) : rLen K [.str z] H Q := ⟨.str z, _, rfl, ⟨h, rfl⟩, q⟩
theorem x_lenL (h : H a = some (.lst xs)) (q : Q (.int xs.length) H) : rLen K [.ref a] H Q := ⟨.ref a, _, rfl, .inl ⟨xs, SqL.of h, rfl⟩, q⟩
theorem x_lenT (h : H a = some (.tup xs)) (q : Q (.int xs.length) H) : rLen K [.ref a] H Q := ⟨.ref a, _, rfl, .inr ⟨xs, SqT.of h, rfl⟩, q⟩
theorem x_int (q : Q (.int i) H) : rInt [.int i] H Q := .inl ⟨i, rfl, q⟩
theorem x_min2 (q : Q (.int (if j < i then j else i)) H) : rMin2 [.int i, .int j] H Q := ⟨i, j, rfl, q⟩
theorem x_max2 (q : Q (.int (if j > i then j else i)) H) : rMax2 [.int i, .int j] H Q := ⟨i, j, rfl, q⟩
theorem x_abs (q : Q (.int (if i < 0 then -i else i)) H) : rAbs [.int i] H Q := ⟨i, rfl, q⟩
theorem x_listOf (O : Own B H M R) (h : H a = some (.lst xs) ∨ H a = some (.tup xs)) (q : ∀ p H1, B p = none → Own B H1 M (R ++ [(p, .lst xs)]) → Q (.ref p) H1) : rListOf K [.ref a] H Q :=
  ⟨a, xs, rfl, h.imp SqL.of SqT.of, fun l hl => q l _ (O.base_free hl) (O.new hl)⟩
theorem x_addS (h : z1.length + z2.length ≤ sizeLine) (q : Q (.str (z1 ++ z2)) H) : rAddS (.str z1) (.str z2) H Q := ⟨z1, z2, rfl, rfl, h, q⟩
theorem x_inC (q : Q (.bl (decide (c ∈ TL.tl z))) H) : rInC (.str ⟨#[c]⟩) (.str z) H Q := ⟨c, z, rfl, rfl, q⟩
theorem x_notInC (q : Q (.bl (!decide (c ∈ TL.tl z))) H) : rNotInC (.str ⟨#[c]⟩) (.str z) H Q := ⟨c, z, rfl, rfl, q⟩
theorem x_isN (q : Q (.bl (decide (x = .non))) H) : rIsN x .non H Q := ⟨rfl, q⟩
theorem x_notN (q : Q (.bl (!decide (x = .non))) H) : rNotN x .non H Q := ⟨rfl, q⟩
theorem x_isNn (q : Q (.bl true) H) : rIsN .non .non H Q := ⟨rfl, q⟩
theorem x_notNn (q : Q (.bl false) H) : rNotN .non .non H Q := ⟨rfl, q⟩
theorem x_isNi (q : Q (.bl false) H) : rIsN (.int i) .non H Q := ⟨rfl, q⟩
theorem x_notNi (q : Q (.bl true) H) : rNotN (.int i) .non H Q := ⟨rfl, q⟩
theorem x_isNs (q : Q (.bl false) H) : rIsN (.str z) .non H Q := ⟨rfl, q⟩
theorem x_notNs (q : Q (.bl true) H) : rNotN (.str z) .non H Q := ⟨rfl, q⟩
theorem x_isNb {b : Bool} (q : Q (.bl false) H) : rIsN (.bl b) .non H Q := ⟨rfl, q⟩
theorem x_notNb {b : Bool} (q : Q (.bl true) H) : rNotN (.bl b) .non H Q := ⟨rfl, q⟩
theorem x_isNr (q : Q (.bl false) H) : rIsN (.ref a) .non H Q := ⟨rfl, q⟩
theorem x_notNr (q : Q (.bl true) H) : rNotN (.ref a) .non H Q := ⟨rfl, q⟩
theorem x_tru (q : ta σ H fun x H' => ∃ k, TruV K x H' k ∧ QT k H') : tTru K ta σ H QT := q
theorem x_truL {P : Bool → Prop} (h : H a = some (.lst xs)) (q : P (!xs.isEmpty)) : ∃ k, TruV K (.ref a) H k ∧ P k := ⟨_, .inl ⟨xs, SqL.of h, rfl⟩, q⟩
theorem x_truS {P : Bool → Prop} (h : z.length ≤ sizeLine) (q : P ((z.length : Int) != 0)) : ∃ k, TruV K (.str z) H k ∧ P k := ⟨_, ⟨h, rfl⟩, q⟩
theorem x_truB {P : Bool → Prop} {b : Bool} (q : P b) : ∃ k, TruV K (.bl b) H k ∧ P k := ⟨_, rfl, q⟩
theorem x_truI {P : Bool → Prop} (q : P (i != 0)) : ∃ k, TruV K (.int i) H k ∧ P k := ⟨_, rfl, q⟩
theorem x_truN {P : Bool → Prop} (q : P false) : ∃ k, TruV K .non H k ∧ P k := ⟨_, rfl, q⟩
theorem x_upper (h : z.length ≤ 5592405) (q : Q (.str (Txt.upper z)) H) : rUpper (.str z) [] H Q := ⟨z, rfl, rfl, h, q⟩
theorem x_lower (h : z.length ≤ 5592405) (q : Q (.str (Txt.lower z)) H) : rLower (.str z) [] H Q := ⟨z, rfl, rfl, h, q⟩
theorem x_find (q : Q (.int (Txt.find z1 z2)) H) : rFind (.str z1) [.str z2] H Q := ⟨z1, z2, rfl, rfl, q⟩
theorem x_joinL (ys : List Str) (h : H p = some (.lst (ys.map V.str))) (hz : (ys.map (·.length)).sum + ys.length * z.length ≤ 16777216) (q : Q (.str (Txt.join z ys)) H) : rJoin K (.str z) [.ref p] H Q :=
  ⟨z, p, ys, rfl, rfl, .inl (SqL.of h), hz, q⟩
end

/-! ### slices -/
section
variable {K : PySem.W.Frag} {σ : St} {B H H' : Hp} {M R : List (Addr × HO)} {a p : Addr} {Q : VK} {te : TE} {i : Int} {z : Str} {xs : List V} {tl th : TO} {r : V → Option Int → Option Int → Hp → VK → Prop} {QO : Option Int → Hp → Prop} {lo hi : Option Int}
theorem x_sl (q : te σ H fun x H1 => tl σ H1 fun l H2 => th σ H2 fun u H3 => r x l u H3 Q) : tSl r te tl th σ H Q := q
theorem x_noPart (q : QO none H) : tNoPart σ H QO := q
theorem x_part (q : te σ H fun x H1 => ∃ i, x = .int i ∧ QO (some i) H1) : tPart te σ H QO := q
theorem x_pI {P : Int → Prop} (q : P i) : ∃ j, V.int i = .int j ∧ P j := ⟨i, rfl, q⟩
theorem x_slS (hz : z.length ≤ sizeLine) (q : Q (.str (cutS z lo hi)) H) : rSlS (.str z) lo hi H Q := ⟨z, rfl, hz, q⟩
theorem x_slL (hx : SqL K H a xs) (O : Own B H M R) (q : ∀ p H1, B p = none → Own B H1 M (R ++ [(p, .lst (cutV xs lo hi))]) → Q (.ref p) H1) : rSlL K (.ref a) lo hi H Q := ⟨a, xs, rfl, hx, fun p hp => q p _ (O.base_free hp) (O.new hp)⟩
theorem Own.perm {R' : List (Addr × HO)} (O : Own B H M R) (h : R.Perm R') : Own B H M R' := by
  have e : (M ++ R).Perm (M ++ R') := List.Perm.append_left M h
  exact ⟨(e.map Prod.fst).nodup_iff.mp O.nd, fun x hx => O.at_ x (e.mem_iff.mpr hx), fun b hb o q => O.out b (fun z => hb ((e.map Prod.fst).mem_iff.mp z)) o q⟩
theorem Own.close {N : List (Addr × HO)} (O : Own B H [] (R ++ N)) : Own B H N R := by
  have e : ([] ++ (R ++ N)).Perm (N ++ R) := by rw [List.nil_append]; exact List.perm_append_comm
  exact ⟨(e.map Prod.fst).nodup_iff.mp O.nd, fun x hx => O.at_ x (e.mem_iff.mpr hx), fun b hb o q => O.out b (fun z => hb ((e.map Prod.fst).mem_iff.mp z)) o q⟩
end

section
variable {K : PySem.W.Frag} {B H : Hp} {M R : List (Addr × HO)} {a b : Addr} {Q : VK} {xs ys : List V}
theorem x_cat (O : Own B H M R) (h1 : H a = some (.lst xs)) (h2 : H b = some (.lst ys)) (hz : xs.length + ys.length ≤ sizeLine) (q : ∀ p H1, B p = none → Own B H1 M (R ++ [(p, .lst (xs ++ ys))]) → Q (.ref p) H1) : rCat (.ref a) (.ref b) H Q :=
  ⟨a, b, xs, ys, rfl, rfl, h1, h2, hz, fun p hp => q p _ (O.base_free hp) (O.new hp)⟩
theorem x_lstRg {te : St → Hp → (Int → Int → Hp → Prop) → Prop} {σ : St} (q : te σ H fun a b H1 => RgOk a b ∧ ∀ q, H1 q = none → Q (.ref q) (upd H1 q (.lst (rgV a b)))) : tLstRg te σ H Q := q
def newRg (a b : Int) (H : Hp) (Q : VK) : Prop := RgOk a b ∧ ∀ q, H q = none → Q (.ref q) (upd H q (.lst (rgV a b)))
theorem x_lstRg1 {ta : TE} {σ : St} (q : ta σ H fun x H1 => ∃ n, x = .int n ∧ newRg 0 n H1 Q) : tLstRg (tRg1 ta) σ H Q := q
theorem x_lstRg2 {ta tb : TE} {σ : St} (q : ta σ H fun x H1 => tb σ H1 fun y H2 => ∃ i j, x = .int i ∧ y = .int j ∧ newRg i j H2 Q) : tLstRg (tRg2 ta tb) σ H Q := q
theorem rgV_ints (a b : Int) : rgV a b = ((List.range (b - a).toNat).map fun i : Nat => a + (i : Int)).map V.int := by unfold rgV; rw [List.map_map]; rfl
theorem x_newRg {n m : Int} (O : Own B H M R) (h : RgOk n m) (q : ∀ p H1, B p = none → Own B H1 M (R ++ [(p, .lst (((List.range (m - n).toNat).map fun i : Nat => n + (i : Int)).map V.int))]) → Q (.ref p) H1) : newRg n m H Q :=
  ⟨h, fun p hp => q p _ (O.base_free hp) (by rw [← rgV_ints]; exact O.new hp)⟩
end

/-! ### promises: a part of the heap M is told by D and given back -/
/-- the closed part is what D says, at the cells A -/
structure In (D : Addr → List (Addr × HO) → Prop) (a : Addr) (A : List Addr) (M : List (Addr × HO)) : Prop where
  d : D a M
  e : M.map Prod.fst = A
/-- with a closed part (a box) at the first argument's address: D a M says what the box at a is -/
def spB (n : Nat) (D : Addr → List (Addr × HO) → Prop) (pre : List V → Prop) (post : List V → V → Prop) : Sp := fun vs H Q _ =>
  ∃ a A M rest, vs = .ref a :: rest ∧ rest.length = n ∧ In D a A M ∧ Own H H M [] ∧ pre rest ∧ ∀ v H' M', In D a A M' → Own H H' M' [] → post rest v → Q v H'
/-- plain values in, a plain value out -/
def spP (n : Nat) (pre : List V → Prop) (post : List V → V → Prop) : Sp := fun vs H Q _ => vs.length = n ∧ pre vs ∧ ∀ v H', Own H H' [] [] → post vs v → Q v H'
/-- plain values in, a new object out -/
def spNew (n : Nat) (pre : List V → Prop) (post : List V → HO → Prop) : Sp := fun vs H Q _ => vs.length = n ∧ pre vs ∧ ∀ p H' o, H p = none → Own H H' [] [(p, o)] → post vs o → Q (.ref p) H'
theorem hl_spNew {n : Nat} {pre : List V → Prop} {post : List V → HO → Prop} : ∀ vs H Q E, spNew n pre post vs H Q E → vs.length = n := fun vs H Q E h => h.1
theorem hl_spB {n : Nat} {D : Addr → List (Addr × HO) → Prop} {pre : List V → Prop} {post : List V → V → Prop} : ∀ vs H Q E, spB n D pre post vs H Q E → vs.length = n + 1 := fun vs H Q E h => by
  obtain ⟨a, A, M, rest, rfl, e, _⟩ := h
  rw [List.length_cons, e]
theorem hl_spP {n : Nat} {pre : List V → Prop} {post : List V → V → Prop} : ∀ vs H Q E, spP n pre post vs H Q E → vs.length = n := fun vs H Q E h => h.1
section
variable {B H : Hp} {M R : List (Addr × HO)} {a : Addr} {Q : VK} {E : XK} {D : Addr → List (Addr × HO) → Prop} {pre : List V → Prop} {post : List V → V → Prop} {vs : List V} {n : Nat}
theorem use_spP (O : Own B H M R) (hl : vs.length = n) (hp : pre vs) (q : ∀ v H', Own B H' M R → post vs v → Q v H') : spP n pre post vs H Q E := ⟨hl, hp, fun v H' O' h => q v H' (O.call0 O') h⟩
theorem use_spNew {post : List V → HO → Prop} (O : Own B H M R) (hl : vs.length = n) (hp : pre vs) (q : ∀ p H' o, B p = none → Own B H' M (R ++ [(p, o)]) → post vs o → Q (.ref p) H') : spNew n pre post vs H Q E :=
  ⟨hl, hp, fun p H' o hp O' h => q p H' o (O.base_free hp) (O.callN O' fun x hx => by rw [List.mem_singleton.mp hx]; exact hp) h⟩
theorem use_spB {rest : List V} {A : List Addr} (O : Own B H M R) (hD : In D a A M) (hl : rest.length = n) (hp : pre rest) (q : ∀ v H' M', In D a A M' → Own B H' M' R → post rest v → Q v H') : spB n D pre post (.ref a :: rest) H Q E :=
  ⟨a, A, M, rest, rfl, hl, hD, O.sub, hp, fun v H' M' hD' O' h => q v H' M' hD' (by
    have := O.call O' (hD'.e.trans hD.e.symm) (fun _ h => absurd h List.not_mem_nil)
    rw [List.append_nil] at this
    exact this) h⟩
theorem Own.opened (O : Own B H M []) : Own B H [] M := ⟨by have h := O.nd; rw [List.append_nil] at h; exact h, by have h := O.at_; rw [List.append_nil] at h; exact h, by have h := O.out; rw [List.append_nil] at h; exact h⟩
theorem Own.closed (O : Own B H [] R) : Own B H R [] := ⟨by rw [List.append_nil]; exact O.nd, by rw [List.append_nil]; exact O.at_, by rw [List.append_nil]; exact O.out⟩
end
end NF

/-! Own toolkit: further rules, defs by name, the end. -/
namespace NF
open PySem L2 PySem.Spec PyProof.Rows PySem.W

/-! ### a global constant, a def by its name -/
section
variable {X : Cx}
theorem pe_g {x : Str} {v : V} {pos : Pos} (hg : Gl X x) (hm : ∃ u, X.mg x = some u ∧ RelV v u) (hd : (x == ("__debug__" : Str)) = false := by decide) : PE X (.Name x pos) (tC v) := by
  obtain ⟨u, h, r⟩ := hm
  exact pe_glob hg h r hd
end
/-- a def as the top leaves it -/
def Fn0 (K : PySem.W.Frag) (mg : Str → Option Value) (x : Str) (st : Stmt) : Prop := ∃ f fd, Fun K x x st f fd ∧ mg x = some (.ref f)
/-- a def by its name, with its promise -/
structure Def (P : Program) (w : World) (K : PySem.W.Frag) (mg : Str → Option Value) (base : Heap) (k : Nat) (x : Str) (ps : List Str) (sp : Sp) : Prop where
  ex : ∃ f fd, FnOk P w K mg base CX0 k f fd ps sp ∧ mg x = some (.ref f) ∧ PySem.W.keepIn K (.ref f) = true ∧ Binds K fd ps []
section
variable {P : Program} {w : World} {K : PySem.W.Frag} {mg : Str → Option Value} {base : Heap}
theorem Def.mk0 {x : Str} {st : Stmt} {N ps : List Str} {k : Nat} {sp : Sp} (F : Fn0 K mg x st) (S : FnScope N ps (defScope st)) (len : ∀ vs H Q E, sp vs H Q E → vs.length = ps.length)
    (hbind : ∀ (kV doc pm : Value) (an : Option Addr) (cdv ct : Value) (us : List Value), us.length = ps.length → bindArgs (PySem.W.fnOf x x (defArgs st) (defBody st) (defScope st) .none kV doc pm an cdv ct) ⟨us, []⟩ = pure (ps.zip us))
    (hbody : ∀ {f : Addr} (cdv : Value) (A : Around) (outer : List Env) (s : Shared) (H : Hp) (vs : List V) (Q : VK) (E : XK), Room k (A.deeper (envOfC x (defScope st) s.heap.objs.size f cdv)) → sp vs H Q E →
      ∃ t, PSs (cxOf CX0 P w K mg base N x (defScope st) f cdv A outer s H E).nox (defBody st) t ∧ t { nx := fun _ H' => Q .non H', rt := Q } (start N vs) H) : Def P w K mg base (k + 1) x ps sp := by
  obtain ⟨f, fd, F, hm⟩ := F
  exact ⟨f, fd, F.ok S len fun cdv A outer s H vs Q E hr h => hbody cdv A outer s H vs Q E hr h, hm, F.kp, F.binds hbind⟩
end
section
variable {X : Cx} {k : Nat} {x : Str} {ps : List Str} {sp : Sp} {p pos : Pos} {e : Expr} {es : List Expr} {t : TA}
theorem pe_d (D : Def X.prog X.w X.K X.mg X.base k x ps sp) (hr : Room k X.A) (hg : Gl X x) (ha : PA X (e :: es) t) (hdb : (x == ("__debug__" : Str)) = false := by decide)
    (he : starEach (e :: es) X.env = (false, eval e X.env) :: starEach es X.env := by rfl) (hpl : (backTo pos (starEach es X.env)).any (·.1) = false := by rfl) : PE X (.Call (.Name x p) (e :: es) [] pos) (tCall sp [] E0 t) := by
  obtain ⟨f, fd, F, hm, hk, hb⟩ := D.ex
  exact pe_call F hr hg hm hk hb .nil pass0 ha hdb he hpl
theorem pe_d0 (D : Def X.prog X.w X.K X.mg X.base k x ps sp) (hr : Room k X.A) (hg : Gl X x) (hdb : (x == ("__debug__" : Str)) = false := by decide) : PE X (.Call (.Name x p) [] [] pos) (tCall sp [] E0 tNil) := by
  obtain ⟨f, fd, F, hm, hk, hb⟩ := D.ex
  exact pe_call0 F hr hg hm hk hb .nil pass0 hdb
end

/-! ### what the head hands over -/
structure Has (K : PySem.W.Frag) (x : Str) (st : Stmt) : Prop where
  ex : ∃ (f : Addr) (oc : Value) (od an : Option Addr) (kV dc pm cd ct : Value) (sl : Array (Option Value)), PySem.W.nsIn K mainGlobals x = some (some (.ref f)) ∧
    K.lookup f = some ⟨oc, od, .func (PySem.W.fnOf x x (defArgs st) (defBody st) (defScope st) .none kV dc pm an cd ct), sl⟩ ∧ PySem.W.codeIn K cd x = true ∧ PySem.W.keepIn K (.ref f) = true
theorem has_mk {K : PySem.W.Frag} {x : Str} {st : Stmt} {f : Addr} {oc : Value} {od an : Option Addr} {kV dc pm cd ct : Value} {sl : Array (Option Value)} (h1 : PySem.W.nsIn K mainGlobals x = some (some (.ref f)))
    (h2 : K.lookup f = some ⟨oc, od, .func (PySem.W.fnOf x x (defArgs st) (defBody st) (defScope st) .none kV dc pm an cd ct), sl⟩) (h3 : PySem.W.codeIn K cd x = true) (h4 : PySem.W.keepIn K (.ref f) = true) : Has K x st := ⟨f, oc, od, an, kV, dc, pm, cd, ct, sl, h1, h2, h3, h4⟩
theorem Has.fn {K : PySem.W.Frag} {x : Str} {st : Stmt} {h : Heap} {mg : Str → Option Value} (A : Has K x st) (X : K.In h) (G : h.Ns mainGlobals mg) : Fn0 K mg x st := by
  obtain ⟨f, oc, od, an, kV, dc, pm, cd, ct, sl, h1, h2, h3, h4⟩ := A.ex
  exact ⟨f, _, fun_mk h2 h3 h4, PySem.W.mg_of X G h1⟩
/-- a constant of the module -/
structure HasC (K : PySem.W.Frag) (x : Str) (v : V) : Prop where
  ex : ∃ u, PySem.W.nsIn K mainGlobals x = some (some u) ∧ RelV v u
theorem hasC_mk {K : PySem.W.Frag} {x : Str} {v : V} {u : Value} (h : PySem.W.nsIn K mainGlobals x = some (some u)) (r : RelV v u) : HasC K x v := ⟨u, h, r⟩
theorem HasC.mg {K : PySem.W.Frag} {x : Str} {v : V} {h : Heap} {mg : Str → Option Value} (A : HasC K x v) (X : K.In h) (G : h.Ns mainGlobals mg) : ∃ u, mg x = some u ∧ RelV v u := by
  obtain ⟨u, h1, r⟩ := A.ex
  exact ⟨u, PySem.W.mg_of X G h1, r⟩
theorem law_end {l : PySem.W.OpenLaw} {w : World} {K : PySem.W.Frag} {h : Heap} {mg : Str → Option Value} {fa : Addr} {st : Stmt} {k : Nat} {sp : Sp} (X : K.In h) (G : h.Ns mainGlobals mg) (hfa : mg "law" = some (.ref fa)) (A : Has K "law" st)
    (hbind : ∀ (kV doc pm : Value) (an : Option Addr) (cdv ct : Value) (s : Shared) (v : Value), BindsTo s (PySem.W.fnOf "law" "law" (defArgs st) (defBody st) (defScope st) .none kV doc pm an cdv ct) ⟨[v], []⟩ [("script", v)])
    (F : ∀ (base : Heap) (fd : FuncData), Fun K "law" "law" st fa fd → FnOk l.prog w K mg base CX0 k fa fd ["script"] sp) :
    ∃ fd : FuncData, (∀ (s : Shared) (v : Value), BindsTo s fd ⟨[v], []⟩ [("script", v)]) ∧ ∀ base : Heap, K.In base → base.Ns mainGlobals mg → FnOk l.prog w K mg base CX0 k fa fd ["script"] sp := by
  obtain ⟨f, oc, od, an, kV, dc, pm, cd, ct, sl, h1, h2, h3, h4⟩ := A.ex
  have e := hfa.symm.trans (PySem.W.mg_of X G h1)
  cases e
  exact ⟨_, fun s v => hbind kV dc pm an cd ct s v, fun base _ _ => F base _ (fun_mk h2 h3 h4)⟩

/-! ### isinstance(x, T), T a built-in class -/
def rIsT (K : PySem.W.Frag) : List V → Hp → VK → Prop := fun xs H Q => ∃ x T n b, xs = [x, .ty T] ∧ TyX K H x (.type n) ∧ kitB n T = some b ∧ Q (.bl b) H
theorem callIsT {X : Cx} : CallR X (.builtin "isinstance") (rIsT X.K) := fun pins s σ H xs us Q I r h => by
  obtain ⟨x, T, n, b, rfl, ty, hb, q⟩ := h
  exact call_isi pins s σ H _ us Q I r ⟨x, .ty T, .type n, .type T, b, rfl, .ty T, ty, kit_ty hb, q⟩
theorem pe_ty {X : Cx} {T : Str} {n : String} {q : Pos} (hgT : Gl X T) (hmT : X.mg T = none) (hvT : bootBuiltins T = some (.type n)) (hn : T ≠ "__name__" := by decide) (hd : (T == ("__debug__" : Str)) = false := by decide) : PE X (.Name T q) (tC (.ty n)) :=
  pe_bltn hgT hmT hvT rfl hn hd
section
variable {K : PySem.W.Frag} {H : Hp} {Q : VK} {T : String} {a : Addr} {xs : List V} {b : Bool}
theorem x_isI {i : Int} (hb : kitB "int" T = some b) (q : Q (.bl b) H) : rIsT K [.int i, .ty T] H Q := ⟨_, _, _, b, rfl, .base (.int i), hb, q⟩
theorem x_isB {i : Bool} (hb : kitB "bool" T = some b) (q : Q (.bl b) H) : rIsT K [.bl i, .ty T] H Q := ⟨_, _, _, b, rfl, .base (.bl i), hb, q⟩
theorem x_isS {i : Str} (hb : kitB "str" T = some b) (q : Q (.bl b) H) : rIsT K [.str i, .ty T] H Q := ⟨_, _, _, b, rfl, .base (.str i), hb, q⟩
theorem x_isNon (hb : kitB "NoneType" T = some b) (q : Q (.bl b) H) : rIsT K [.non, .ty T] H Q := ⟨_, _, _, b, rfl, .base .non, hb, q⟩
theorem x_isL (h : H a = some (.lst xs)) (hb : kitB "list" T = some b) (q : Q (.bl b) H) : rIsT K [.ref a, .ty T] H Q := ⟨_, _, _, b, rfl, .base (.lst h), hb, q⟩
theorem x_isT (h : H a = some (.tup xs)) (hb : kitB "tuple" T = some b) (q : Q (.bl b) H) : rIsT K [.ref a, .ty T] H Q := ⟨_, _, _, b, rfl, .base (.tup h), hb, q⟩
end

theorem kit_int_int : kitB "int" "int" = some true := by decide +kernel
theorem kit_int_bool : kitB "int" "bool" = some false := by decide +kernel
theorem kit_int_str : kitB "int" "str" = some false := by decide +kernel
theorem kit_int_list : kitB "int" "list" = some false := by decide +kernel
theorem kit_int_tuple : kitB "int" "tuple" = some false := by decide +kernel
theorem kit_int_dict : kitB "int" "dict" = some false := by decide +kernel
theorem kit_bool_int : kitB "bool" "int" = some true := by decide +kernel
theorem kit_bool_bool : kitB "bool" "bool" = some true := by decide +kernel
theorem kit_bool_str : kitB "bool" "str" = some false := by decide +kernel
theorem kit_bool_list : kitB "bool" "list" = some false := by decide +kernel
theorem kit_bool_tuple : kitB "bool" "tuple" = some false := by decide +kernel
theorem kit_bool_dict : kitB "bool" "dict" = some false := by decide +kernel
theorem kit_str_int : kitB "str" "int" = some false := by decide +kernel
theorem kit_str_bool : kitB "str" "bool" = some false := by decide +kernel
theorem kit_str_str : kitB "str" "str" = some true := by decide +kernel
theorem kit_str_list : kitB "str" "list" = some false := by decide +kernel
theorem kit_str_tuple : kitB "str" "tuple" = some false := by decide +kernel
theorem kit_str_dict : kitB "str" "dict" = some false := by decide +kernel
theorem kit_NoneType_int : kitB "NoneType" "int" = some false := by decide +kernel
theorem kit_NoneType_bool : kitB "NoneType" "bool" = some false := by decide +kernel
theorem kit_NoneType_str : kitB "NoneType" "str" = some false := by decide +kernel
theorem kit_NoneType_list : kitB "NoneType" "list" = some false := by decide +kernel
theorem kit_NoneType_tuple : kitB "NoneType" "tuple" = some false := by decide +kernel
theorem kit_NoneType_dict : kitB "NoneType" "dict" = some false := by decide +kernel
theorem kit_list_int : kitB "list" "int" = some false := by decide +kernel
theorem kit_list_bool : kitB "list" "bool" = some false := by decide +kernel
theorem kit_list_str : kitB "list" "str" = some false := by decide +kernel
theorem kit_list_list : kitB "list" "list" = some true := by decide +kernel
theorem kit_list_tuple : kitB "list" "tuple" = some false := by decide +kernel
theorem kit_list_dict : kitB "list" "dict" = some false := by decide +kernel
theorem kit_tuple_int : kitB "tuple" "int" = some false := by decide +kernel
theorem kit_tuple_bool : kitB "tuple" "bool" = some false := by decide +kernel
theorem kit_tuple_str : kitB "tuple" "str" = some false := by decide +kernel
theorem kit_tuple_list : kitB "tuple" "list" = some false := by decide +kernel
theorem kit_tuple_tuple : kitB "tuple" "tuple" = some true := by decide +kernel
theorem kit_tuple_dict : kitB "tuple" "dict" = some false := by decide +kernel
theorem kit_dict_int : kitB "dict" "int" = some false := by decide +kernel
theorem kit_dict_bool : kitB "dict" "bool" = some false := by decide +kernel
theorem kit_dict_str : kitB "dict" "str" = some false := by decide +kernel
theorem kit_dict_list : kitB "dict" "list" = some false := by decide +kernel
theorem kit_dict_tuple : kitB "dict" "tuple" = some false := by decide +kernel
theorem kit_dict_dict : kitB "dict" "dict" = some true := by decide +kernel

/-! ### text * n -/
def rMulS : R2 := fun x y H Q => ∃ z n, x = .str z ∧ y = .int n ∧ z.length ≤ 1000000 ∧ n ≤ 1000000 ∧ -(2 ^ 63) ≤ n ∧ z.length * n.toNat ≤ sizeLine ∧ Q (.str (Txt.mul z n)) H
theorem opMulS {X : Cx} : OpR X (binaryOp .Mult) rMulS := fun pins s σ H x y u v Q I rx ry h => by
  obtain ⟨z, n, rfl, rfl, hz, hn, hn0, hl, q⟩ := h
  obtain ⟨t, rfl⟩ := rx
  obtain ⟨t', rfl⟩ := ry
  refine SB.mul ⟨?_, fun h1 h2 => ?_, fun h1 h2 => ?_⟩ fun t' k => ⟨.str (Txt.mul z n), H, I.tok k, ⟨_, rfl⟩, q⟩
  · rw [decide_eq_false (by omega), decide_eq_false (by omega)]
    rfl
  · have h3 : (1000000 : Int) ≤ (2 ^ 63 - 1) / n := by
      rw [Int.le_ediv_iff_mul_le (by omega)]
      have : (1000000 : Int) * n ≤ 1000000 * 1000000 := Int.mul_le_mul_of_nonneg_left hn (by decide)
      omega
    omega
  · show decide (z.length * n.toNat > sizeLine) = false
    exact decide_eq_false (by omega)

/-! ### (n, text) < (m, text) -/
def ltIS (a : Int × Str) (b : Int × Str) : Bool := DatumOrd.lt a b
def rLtIS (K : PySem.W.Frag) : R2 := fun x y H Q => ∃ a b n m z1 z2, x = .ref a ∧ y = .ref b ∧ SqT K H a [.int n, .str z1] ∧ SqT K H b [.int m, .str z2] ∧ Q (.bl (ltIS (n, z1) (m, z2))) H
theorem holds_is {h : Heap} {l : Addr} {n : Int} {z : Str} {its : List Value} (p : IsTup h l its.toArray) (r : Vals [.int n, .str z] its) : Holds h (.ref l) (n, z) := by
  obtain ⟨u, v, rfl, r1, r2⟩ := vals2 r
  obtain ⟨t, rfl⟩ := r1
  obtain ⟨t', rfl⟩ := r2
  obtain ⟨o, e1, e2, k, e3⟩ := p
  exact holds_pair ⟨o, e1, e2, k, e3⟩ (holds_int n t) (holds_str z t')
theorem opLtIS {X : Cx} (hu : X.A.units + 64 < cLine) : OpR X (compareOp .Lt) (rLtIS X.K) := fun pins s σ H x y u v Q I rx ry h => by
  obtain ⟨a, b, n, m, z1, z2, rfl, rfl, ha, hb, q⟩ := h
  cases rx
  cases ry
  obtain ⟨its, r1, p1, _⟩ := I.tuple ha
  obtain ⟨its2, r2, p2, _⟩ := I.tuple hb
  exact lt_datum (holds_is p1 r1) (holds_is p2 r2) (by
    have : Datum.depth (Int × Str) ≤ 64 := by decide
    omega) ⟨.bl (ltIS (n, z1) (m, z2)), H, I, rfl, q⟩
theorem x_ltIS {K : PySem.W.Frag} {H : Hp} {Q : VK} {a b : Addr} {n m : Int} {z1 z2 : Str} (ha : H a = some (.tup [.int n, .str z1])) (hb : H b = some (.tup [.int m, .str z2])) (q : Q (.bl (ltIS (n, z1) (m, z2))) H) : rLtIS K (.ref a) (.ref b) H Q :=
  ⟨a, b, n, m, z1, z2, rfl, rfl, SqT.of ha, SqT.of hb, q⟩

/-! ### enumerate(text) -/
def Ites (x : Str) : It :=
  ⟨fun i _ => i < x.cps.size, fun i H v H' => ∃ T c, v = .ref T ∧ H T = none ∧ H' = upd H T (.tup [.int (i : Nat), .str ⟨#[c]⟩]) ∧ x.cps[i]? = some c, fun i _ => i = x.cps.size⟩
theorem turn_enumS {P : Program} {w : World} {K : PySem.W.Frag} {elts : List Expr} {kk : Nat} {tpos : Pos} (x : Str) (t : Tok) (e it : Addr) :
    Turn P w K (.Tuple elts kk tpos) (Ites x) [e, it] e (fun i h => (∃ old, IsEnum h e it ((i : Nat) : Int) old) ∧ h.IsStrIter it (strIterType x) x t i ∧ e ≠ it) where
  mem := by simp
  obj := fun i h st b hb => by
    obtain ⟨⟨old, he⟩, ⟨o, ho, hc, hd⟩, _⟩ := st
    have e' : b = e ∨ b = it := by simpa using hb
    rcases e' with z | z
    · rw [z]; exact ⟨_, he, fun v q => nomatch q⟩
    · rw [z]; exact ⟨o, ho, fun v q => by rw [hd] at q; cases q⟩
  keep := fun i h h' st k => by
    obtain ⟨⟨old, he⟩, ⟨o, ho, r⟩, hne⟩ := st
    exact ⟨⟨old, k e (by simp) _ he⟩, ⟨o, k it (by simp) o ho, r⟩, hne⟩
  item := by
    intro X hP hw hK hc i pins s σ H E I hf st hg
    subst hP hw hK
    obtain ⟨⟨old, he⟩, hit, hne⟩ := st
    have hel : e < s.heap.objs.size := Heap.lt_size he
    have hil : it < s.heap.objs.size := by obtain ⟨_, q, _⟩ := hit; exact Heap.lt_size q
    refine wpAny_pyNext_enum_itemD (Draws.text (A := X.A.in1) (I.ok.hd hc) it x t) he hit hg hne (by simpa using hne) fun u h' tk hP ho hit' hT hsz hk => ?_
    obtain ⟨c, tu, hx, rfl⟩ := hP
    refine ⟨_, rfl, wpAny_letOwnedTupleGo_enum (s := { s with heap := h', toks := tk + 1 }) ho fun h'' he' sb => ?_⟩
    have hT2 : h''.get? s.heap.objs.size = some { cls := .type "tuple", data := .seq #[.int i tk, .str ⟨#[c]⟩ tu] } := (sb.2 _ (Nat.ne_of_gt hel)).trans hT
    have new : ObjOk X.prog X.w (upd H s.heap.objs.size (.tup [.int (i : Nat), .str ⟨#[c]⟩])) h'' s.heap.objs.size (.tup [.int (i : Nat), .str ⟨#[c]⟩]) :=
      ⟨by show 2 ≤ sizeLine; decide, [.int i tk, .str ⟨#[c]⟩ tu], .cons ⟨_, rfl⟩ (.cons ⟨_, rfl⟩ .nil), ⟨_, hT2, rfl, _, rfl⟩⟩
    have I1 : Inv X pins σ (upd H s.heap.objs.size (.tup [.int (i : Nat), .str ⟨#[c]⟩])) { s with heap := h'', toks := tk + 1 } :=
      I.turnedNew (ch := [e, it]) (fun b ob hb q => (sb.2 b (fun z => hb (by simp [z]))).trans (hk b ob (fun z => hb (by simp [z])) (fun z => hb (by simp [z])) q)) hf (Nat.le_refl _) new
    refine ⟨.ref s.heap.objs.size, _, I1, rfl, ⟨_, c, rfl, I.hok.fresh (Nat.le_refl _), rfl, hx⟩, ⟨⟨.str ⟨#[c]⟩ tu, ?_⟩, ?_, hne⟩, fun b hb => ?_⟩
    · have e1 : ((i + 1 : Nat) : Int) = (i : Int) + 1 := by omega
      rw [e1]; exact he'
    · obtain ⟨o, ho2, r⟩ := hit'
      exact ⟨o, (sb.2 it (Ne.symm hne)).trans ho2, r⟩
    · have hb' : b < s.heap.objs.size := by
        have e' : b = e ∨ b = it := by simpa using hb
        rcases e' with z | z
        · rw [z]; exact hel
        · rw [z]; exact hil
      rw [upd_ne (Nat.ne_of_lt hb')]
      exact (hf b hb).1
  done := by
    intro X hP hw hK hc i pins s σ H E I hf st hg
    subst hP hw hK
    obtain ⟨⟨old, he⟩, hit, hne⟩ := st
    obtain ⟨f0, f1, f2, f3, f4, f5⟩ := hf it (by simp)
    have hg' : i = x.cps.size := hg
    subst hg'
    exact wpAny_pyNext_enum_endD (Draws.text (A := X.A.in1) (I.ok.hd hc) it x t) he hit fun h' eb => ⟨rfl, I.turned (t' := s.toks) (fun b o hb q => eb b o hb q) f0 f1 f3 f4 f5⟩
  self := fun A i s Q E st h => let ⟨⟨_, he⟩, _⟩ := st; wpAny_pyIter_enum he h
def iEnumS (ta : TA) : TI := fun σ H R => ta σ H fun vs H1 => ∃ x, vs = [.str x] ∧ R (Ites x) H1
theorem pi_enumS {X : Cx} {e : Expr} {ta : TA} {p pos tpos : Pos} {elts : List Expr} {kk : Nat} (hg : Gl X "enumerate") (hm : X.mg "enumerate" = none) (ha : PA X [e] ta) (hs : starEach [e] X.env = [(false, eval e X.env)] := by rfl) :
    PI X (.Tuple elts kk tpos) (.Call (.Name "enumerate" p) [e] [] pos) (iEnumS ta) := by
  refine ⟨fun pins s σ H R I h => ?_⟩
  refine Call_ (ld_blt I hg hm boot_enumerate (PyProof.Rows.callWith_type1 (thn (ha.run pos pins s σ H _ I h) fun us s1 ⟨vs, H1, I1, r1, q1⟩ => ?_) hs rfl))
  obtain ⟨x, ex, q⟩ := q1
  subst ex
  cases r1 with
  | cons r rr =>
    cases rr
    obtain ⟨t, rfl⟩ := r
    refine call_enumerate_str fun h' he hit hsz hk => wpAny_pyIter_enum he ?_
    have I2 : Inv X pins σ H1 { s1 with heap := h' } := I1.kept (t' := s1.toks) hk
    refine ⟨s1.heap.objs.size + 1, [s1.heap.objs.size + 1, s1.heap.objs.size], _, _, H1, rfl, I2, turn_enumS x t (s1.heap.objs.size + 1) s1.heap.objs.size, ⟨⟨.none, he⟩, hit, Nat.succ_ne_self _⟩, fun b hb => ?_, q⟩
    have e' : b = s1.heap.objs.size + 1 ∨ b = s1.heap.objs.size := by simpa using hb
    have hle : s1.heap.objs.size ≤ b := by
      rcases e' with z | z
      · rw [z]; exact Nat.le_add_right _ _
      · rw [z]; exact Nat.le_refl _
    exact I1.fpOk hle (I1.hok.fresh hle)
end NF

/-! Own toolkit: loops and comprehensions. -/
namespace NF
open PySem L2

theorem Own.ignore {B H : Hp} {M R : List (Addr × HO)} {T : Addr} {o : HO} (O : Own B H M R) (h : H T = none) : Own B (upd H T o) M R :=
  ⟨O.nd, fun x hx => by
    have q := O.at_ x hx
    have n : x.1 ≠ T := fun e => by rw [e, h] at q; cases q
    rw [upd_ne n]
    exact q, fun b hb v e => by
    have q := O.out b hb v e
    have n : b ≠ T := fun e => by rw [e, h] at q; cases q
    rw [upd_ne n]
    exact q⟩
theorem Own.last {B H : Hp} {M R : List (Addr × HO)} {p : Addr} {o : HO} (O : Own B H M (R ++ [(p, o)])) : H p = some o :=
  O.at_ (p, o) (List.mem_append_right _ (List.mem_append_right _ (List.mem_singleton.mpr rfl)))
theorem Own.putLast {B H : Hp} {M R : List (Addr × HO)} {p : Addr} {o u : HO} (O : Own B H M (R ++ [(p, o)])) : Own B (upd H p u) M (R ++ [(p, u)]) := by
  have e : (R ++ [(p, o)])[R.length]? = some (p, o) := by rw [List.getElem?_append_right (Nat.le_refl _), Nat.sub_self]; rfl
  have h := O.put R.length e u
  rw [List.set_append_right _ _ (Nat.le_refl _), Nat.sub_self] at h
  exact h

/-- what a for asks of its iterator -/
def forR (g : TG) (tb : TS) (D : Ends) (σ : St) : It → Hp → Prop := fun J H1 => ∃ W : Nat → Nat → St → Hp → Prop, (∃ m, W 0 m σ H1) ∧ ∀ i m σ H, W i m σ H →
  (J.stop i H ∧ D.nx σ H) ∨ (J.go i H ∧ ∃ N : St → Hp → Prop, (∀ σ' H', N σ' H' → ∃ m', m' < m ∧ W (i + 1) m' σ' H') ∧ ∀ x H', J.yld i H x H' → g x σ H' fun σ2 H2 => tb { D with nx := N, ct := N, bk := D.nx } σ2 H2)
/-- what a comprehension asks of its iterator -/
def lcR (g : TG) (tt : TT) (te : TE) (vs : List Nat) (σ : St) (Q : VK) : It → Hp → Prop := fun J H1 => ∀ D, H1 D = none → ∃ W : Nat → Nat → Hp → Prop, (∃ m, W 0 m (upd H1 D (.lst []))) ∧ ∀ i m H, W i m H →
  (J.stop i H ∧ Q (.ref D) H) ∨ (J.go i H ∧ ∃ Nx : Hp → Prop, (∀ H', Nx H' → ∃ m', m' < m ∧ W (i + 1) m' H') ∧ ∀ x H', J.yld i H x H' → g x (wipe σ vs) H' fun σ2 H2 => wipe σ2 vs = wipe σ vs ∧ tt σ2 H2 fun b H3 =>
    if b = true then te σ2 H3 fun y H4 => ∃ acc, H4 D = some (.lst acc) ∧ acc.length < sizeLine ∧ Nx (upd H4 D (.lst (acc ++ [y]))) else Nx H3)
/-! what is walked, by its values -/
def jRng1 : List V → Hp → (It → Hp → Prop) → Prop := fun vs H1 R => ∃ j : Int, vs = [.int j] ∧ -(2 ^ 62) ≤ j ∧ j < 2 ^ 62 ∧ R (Itr 0 j.toNat) H1
def jRng2 : List V → Hp → (It → Hp → Prop) → Prop := fun vs H1 R => ∃ i j : Int, vs = [.int i, .int j] ∧ (-(2 ^ 62) ≤ i ∧ i < 2 ^ 62 ∧ -(2 ^ 62) ≤ j ∧ j < 2 ^ 62) ∧ R (Itr i (j - i).toNat) H1
def jList (K : PySem.W.Frag) : V → Hp → (It → Hp → Prop) → Prop := fun x H1 R => ∃ a, x = .ref a ∧ (∃ xs, SqL K H1 a xs) ∧ R (Itl K a) H1
def jTup (K : PySem.W.Frag) : V → Hp → (It → Hp → Prop) → Prop := fun x H1 R => ∃ a, x = .ref a ∧ (∃ xs, SqT K H1 a xs) ∧ R (Itt K a) H1
def jStr : V → Hp → (It → Hp → Prop) → Prop := fun v H1 R => ∃ x, v = .str x ∧ R (Its x) H1
def jEnumS : List V → Hp → (It → Hp → Prop) → Prop := fun vs H1 R => ∃ x, vs = [.str x] ∧ R (Ites x) H1
def jEnum (K : PySem.W.Frag) : List V → Hp → (It → Hp → Prop) → Prop := fun vs H1 R => ∃ a xs, vs = [.ref a] ∧ SqL K H1 a xs ∧ R (Ite K a) H1
section
variable {K : PySem.W.Frag} {σ : St} {B H : Hp} {M R : List (Addr × HO)} {a : Addr} {g : TG} {tb : TS} {D : Ends} {wi : TI} {tar : TA} {te tl : TE} {tt : TT} {vs : List Nat} {Q : VK} {RI : It → Hp → Prop}
theorem x_for (q : wi σ H (forR g tb D σ)) : tFor wi g tb D σ H := q
theorem x_lc (q : wi σ H (lcR g tt te vs σ Q)) : tLc wi g tt te vs σ H Q := q
theorem x_yes {QT : Bool → Hp → Prop} (q : QT true H) : tYes σ H QT := q
theorem x_jR1 (q : tar σ H fun vs H1 => jRng1 vs H1 RI) : iRng1 tar σ H RI := q
theorem x_jR2 (q : tar σ H fun vs H1 => jRng2 vs H1 RI) : iRng2 tar σ H RI := q
theorem x_jL (q : tl σ H fun v H1 => jList K v H1 RI) : iList K tl σ H RI := q
theorem x_jT (q : tl σ H fun v H1 => jTup K v H1 RI) : iTup K tl σ H RI := q
theorem x_jS (q : tl σ H fun v H1 => jStr v H1 RI) : iStr tl σ H RI := q
theorem x_jE (q : tar σ H fun vs H1 => jEnumS vs H1 RI) : iEnumS tar σ H RI := q
theorem x_jEL (q : tar σ H fun vs H1 => jEnum K vs H1 RI) : iEnum K tar σ H RI := q
section
variable {nx bk ct : St → Hp → Prop} {rt : VK}
/-! #### for: an invariant by the turn -/
theorem f_rng1 {n : Int} {j : Nat} (hn : -(2 ^ 62) ≤ n ∧ n < 2 ^ 62) (Pv : Nat → St → Hp → Prop) (h0 : Pv 0 σ H)
    (hs : ∀ (i : Nat) σ H, (i : Int) < n → Pv i σ H → tb ⟨Pv (i + 1), rt, nx, Pv (i + 1)⟩ (σ.set j (some (.int (i : Int)))) H) (hd : ∀ σ H, Pv n.toNat σ H → nx σ H) : jRng1 [.int n] H (forR (gName j) tb ⟨nx, rt, bk, ct⟩ σ) :=
  ⟨n, rfl, hn.1, hn.2, for_range (lo := 0) Pv h0 (fun i σ H hi p => by
    show tb _ (σ.set j (some (.int ((0 : Int) + (i : Int))))) H
    rw [Int.zero_add]
    exact hs i σ H (by omega) p) hd⟩
theorem f_rng2 {lo n : Int} {j : Nat} (hn : (-(2 ^ 62) ≤ lo ∧ lo < 2 ^ 62) ∧ -(2 ^ 62) ≤ n ∧ n < 2 ^ 62) (Pv : Nat → St → Hp → Prop) (h0 : Pv 0 σ H)
    (hs : ∀ (i : Nat) σ H, lo + (i : Int) < n → Pv i σ H → tb ⟨Pv (i + 1), rt, nx, Pv (i + 1)⟩ (σ.set j (some (.int (lo + (i : Int))))) H) (hd : ∀ σ H, Pv (n - lo).toNat σ H → nx σ H) : jRng2 [.int lo, .int n] H (forR (gName j) tb ⟨nx, rt, bk, ct⟩ σ) :=
  ⟨lo, n, rfl, ⟨hn.1.1, hn.1.2, hn.2.1, hn.2.2⟩, for_range (lo := lo) Pv h0 (fun i σ H hi p => hs i σ H (by omega) p) hd⟩
theorem f_list {xs : List V} {j : Nat} (hx : SqL K H a xs) (Pv : Nat → St → Hp → Prop) (h0 : Pv 0 σ H) (hl : ∀ i σ H, Pv i σ H → SqL K H a xs)
    (hs : ∀ (i : Nat) x σ H, xs[i]? = some x → Pv i σ H → tb ⟨Pv (i + 1), rt, nx, Pv (i + 1)⟩ (σ.set j (some x)) H) (hd : ∀ σ H, Pv xs.length σ H → nx σ H) : jList K (.ref a) H (forR (gName j) tb ⟨nx, rt, bk, ct⟩ σ) :=
  ⟨a, rfl, ⟨xs, hx⟩, for_list Pv h0 (fun i σ H _ p => hl i σ H p) (fun i x σ H hx p => hs i x σ H hx p) hd⟩
theorem f_listG {xs : List V} (hx : SqL K H a xs) (Pv : Nat → St → Hp → Prop) (h0 : Pv 0 σ H) (hl : ∀ i σ H, Pv i σ H → SqL K H a xs)
    (hs : ∀ (i : Nat) x σ H, xs[i]? = some x → Pv i σ H → g x σ H fun σ2 H2 => tb ⟨Pv (i + 1), rt, nx, Pv (i + 1)⟩ σ2 H2) (hd : ∀ σ H, Pv xs.length σ H → nx σ H) : jList K (.ref a) H (forR g tb ⟨nx, rt, bk, ct⟩ σ) :=
  ⟨a, rfl, ⟨xs, hx⟩, for_list Pv h0 (fun i σ H _ p => hl i σ H p) (fun i x σ H hx p => hs i x σ H hx p) hd⟩
theorem f_tup {xs : List V} {j : Nat} (hx : SqT K H a xs) (Pv : Nat → St → Hp → Prop) (h0 : Pv 0 σ H) (hl : ∀ i σ H, Pv i σ H → SqT K H a xs)
    (hs : ∀ (i : Nat) x σ H, xs[i]? = some x → Pv i σ H → tb ⟨Pv (i + 1), rt, nx, Pv (i + 1)⟩ (σ.set j (some x)) H) (hd : ∀ σ H, Pv xs.length σ H → nx σ H) : jTup K (.ref a) H (forR (gName j) tb ⟨nx, rt, bk, ct⟩ σ) :=
  ⟨a, rfl, ⟨xs, hx⟩, for_tup Pv h0 (fun i σ H _ p => hl i σ H p) (fun i x σ H hx p => hs i x σ H hx p) hd⟩
theorem f_str {z : Str} {j : Nat} (Pv : Nat → St → Hp → Prop) (h0 : Pv 0 σ H)
    (hs : ∀ (i : Nat) c σ H, z.cps[i]? = some c → Pv i σ H → tb ⟨Pv (i + 1), rt, nx, Pv (i + 1)⟩ (σ.set j (some (.str ⟨#[c]⟩))) H) (hd : ∀ σ H, Pv z.cps.size σ H → nx σ H) : jStr (.str z) H (forR (gName j) tb ⟨nx, rt, bk, ct⟩ σ) :=
  ⟨z, rfl, for_it walk_str Pv h0 (fun _ _ _ _ _ => trivial) (fun i x σ H H' hi p y => by
    obtain ⟨rfl, c, hc, rfl⟩ := y
    exact hs i c σ _ hc p) hd⟩
theorem f_enumS {z : Str} {j1 j2 : Nat} (Pv : Nat → St → Hp → Prop) (h0 : Pv 0 σ H)
    (hs : ∀ (i : Nat) c σ H H', z.cps[i]? = some c → Pv i σ H → (∀ B M R, Own B H M R → Own B H' M R) → tb ⟨Pv (i + 1), rt, nx, Pv (i + 1)⟩ ((σ.set j1 (some (.int (i : Int)))).set j2 (some (.str ⟨#[c]⟩))) H') (hd : ∀ σ H, Pv z.cps.size σ H → nx σ H) :
    jEnumS [.str z] H (forR (gTup K 2 (gCons (gName j1) (gCons (gName j2) gNil))) tb ⟨nx, rt, bk, ct⟩ σ) := by
  refine ⟨z, rfl, fun i m σ H => m = z.cps.size - i ∧ i ≤ z.cps.size ∧ Pv i σ H, ⟨_, by simp; rfl, Nat.zero_le _, h0⟩, ?_⟩
  rintro i m σ H ⟨rfl, hi, p⟩
  by_cases hlt : i < z.cps.size
  · refine .inr ⟨hlt, Pv (i + 1), fun σ' H' p' => ⟨z.cps.size - (i + 1), by omega, rfl, hlt, p'⟩, ?_⟩
    rintro x H' ⟨T, c, rfl, hT, rfl, hc⟩
    exact ⟨T, [.int (i : Nat), .str ⟨#[c]⟩], rfl, SqT.of upd_same, rfl, _, _, rfl, _, _, rfl, rfl, hs i c σ H _ hc p fun B M R O => O.ignore hT⟩
  · have e : i = z.cps.size := by omega
    subst e
    exact .inl ⟨rfl, hd σ H p⟩
/-- enumerate(list) -/
theorem f_enum {xs : List V} {j1 j2 : Nat} (hx : SqL K H a xs) (Pv : Nat → St → Hp → Prop) (h0 : Pv 0 σ H) (hl : ∀ i σ H, Pv i σ H → SqL K H a xs)
    (hs : ∀ (i : Nat) c σ H H', xs[i]? = some c → Pv i σ H → (∀ B M R, Own B H M R → Own B H' M R) → tb ⟨Pv (i + 1), rt, nx, Pv (i + 1)⟩ ((σ.set j1 (some (.int (i : Int)))).set j2 (some c)) H') (hd : ∀ σ H, Pv xs.length σ H → nx σ H) :
    jEnum K [.ref a] H (forR (gTup K 2 (gCons (gName j1) (gCons (gName j2) gNil))) tb ⟨nx, rt, bk, ct⟩ σ) := by
  refine ⟨a, xs, rfl, hx, fun i m σ H => m = xs.length - i ∧ i ≤ xs.length ∧ Pv i σ H, ⟨_, by simp; rfl, Nat.zero_le _, h0⟩, ?_⟩
  rintro i m σ H ⟨rfl, hi, p⟩
  have q := hl i σ H p
  by_cases hlt : i < xs.length
  · refine .inr ⟨⟨xs, xs[i], q, by simp [hlt]⟩, Pv (i + 1), fun σ' H' p' => ⟨xs.length - (i + 1), by omega, rfl, hlt, p'⟩, ?_⟩
    rintro x H' ⟨T, c, rfl, hT, rfl, hc⟩
    exact ⟨T, [.int (i : Nat), c], rfl, SqT.of upd_same, rfl, _, _, rfl, _, _, rfl, rfl, hs i c σ H _ (hc xs q) p fun B M R O => O.ignore hT⟩
  · have e : i = xs.length := by omega
    subst e
    exact .inl ⟨⟨xs, q, Nat.le_refl _⟩, hd σ H p⟩
end
/-! #### while: an invariant with a measure -/
theorem x_while {nx bk ct : St → Hp → Prop} {rt : VK} (I : Nat → St → Hp → Prop) (m : Nat) (h0 : I m σ H)
    (hs : ∀ m σ H, I m σ H → tt σ H fun b H1 => if b = true then (∃ N : St → Hp → Prop, (∀ σ' H', N σ' H' → ∃ m', m' < m ∧ I m' σ' H') ∧ tb ⟨N, rt, nx, N⟩ σ H1) else nx σ H1) : tWhile tt tb ⟨nx, rt, bk, ct⟩ σ H := ⟨I, ⟨m, h0⟩, hs⟩
theorem x_turn {nx : St → Hp → Prop} {rt : VK} {I : Nat → St → Hp → Prop} {m : Nat} (q : tb ⟨fun σ' H' => ∃ m', m' < m ∧ I m' σ' H', rt, nx, fun σ' H' => ∃ m', m' < m ∧ I m' σ' H'⟩ σ H) :
    ∃ N : St → Hp → Prop, (∀ σ' H', N σ' H' → ∃ m', m' < m ∧ I m' σ' H') ∧ tb ⟨N, rt, nx, N⟩ σ H := ⟨_, fun _ _ h => h, q⟩
/-! #### comprehensions: the new list stands behind what is owned -/
theorem set_wipe (σ : St) (j : Nat) (x : Option V) : wipe ((wipe σ [j]).set j x) [j] = wipe σ [j] := by
  show (((σ.set j none).set j x).set j none) = σ.set j none
  rw [List.set_set, List.set_set]
/-- a turn's end: the list so far is acc, y comes behind it -/
def lcEnd (B : Hp) (R : List (Addr × HO)) (p : Addr) (i : Nat) (N : List V → List (Addr × HO) → Prop) (y : V) (H4 : Hp) : Prop :=
  ∃ acc, H4 p = some (.lst acc) ∧ acc.length < sizeLine ∧ ∃ M' a2, a2.length ≤ i + 1 ∧ N a2 M' ∧ Own B (upd H4 p (.lst (acc ++ [y]))) M' (R ++ [(p, .lst a2)])
def lcSkip (B : Hp) (R : List (Addr × HO)) (p : Addr) (i : Nat) (N : List V → List (Addr × HO) → Prop) (H4 : Hp) : Prop :=
  ∃ M' a2, a2.length ≤ i + 1 ∧ N a2 M' ∧ Own B H4 M' (R ++ [(p, .lst a2)])
theorem lc_done {p : Addr} {i : Nat} {N : List V → List (Addr × HO) → Prop} {y : V} {acc : List V} (O : Own B H M (R ++ [(p, .lst acc)])) (hl : acc.length ≤ i) (hz : i < sizeLine) (pv : N (acc ++ [y]) M) : lcEnd B R p i N y H :=
  ⟨acc, O.last, Nat.lt_of_le_of_lt hl hz, M, acc ++ [y], by simp; omega, pv, O.putLast⟩
theorem lc_skip {p : Addr} {i : Nat} {N : List V → List (Addr × HO) → Prop} {acc : List V} (O : Own B H M (R ++ [(p, .lst acc)])) (hl : acc.length ≤ i) (pv : N acc M) : lcSkip B R p i N H := ⟨M, acc, by omega, pv, O⟩
section
variable {n : Nat} {J : It} {G : Hp → Prop} {Y : Nat → Hp → V → Hp → Prop} {j : Nat}
/-- over anything -/
theorem lc_any (W : L2.Walk J n G Y) (O : Own B H M R) (Pv : Nat → List V → List (Addr × HO) → Prop) (hG : ∀ H' M' p acc, Own B H' M' (R ++ [(p, .lst acc)]) → G H') (h0 : Pv 0 [] M)
    (hs : ∀ (i : Nat) x H' H'' M' p acc, i < n → acc.length ≤ i → Pv i acc M' → Own B H' M' (R ++ [(p, .lst acc)]) → Y i H' x H'' →
      tt ((wipe σ [j]).set j (some x)) H'' fun b H3 => if b = true then te ((wipe σ [j]).set j (some x)) H3 (lcEnd B R p i (Pv (i + 1))) else lcSkip B R p i (Pv (i + 1)) H3)
    (hd : ∀ p H' M' acc, B p = none → acc.length ≤ n → Pv n acc M' → Own B H' M' (R ++ [(p, .lst acc)]) → Q (.ref p) H') : lcR (gName j) tt te [j] σ Q J H := by
  intro p hp
  refine lc_it W (fun i H' => ∃ M' acc, acc.length ≤ i ∧ Pv i acc M' ∧ Own B H' M' (R ++ [(p, .lst acc)])) ⟨M, [], Nat.le_refl _, h0, O.new hp⟩ (fun i H' _ ⟨M', acc, _, _, O'⟩ => hG H' M' p acc O') ?_ (fun H' ⟨M', acc, l, pv, O'⟩ => hd p H' M' acc (O.base_free hp) l pv O')
  rintro i x H' H'' hi ⟨M', acc, hl, pv, O'⟩ y
  exact ⟨set_wipe σ j _, hs i x H' H'' M' p acc hi hl pv O' y⟩
theorem lc_rng1 {n : Int} (hn : -(2 ^ 62) ≤ n ∧ n < 2 ^ 62) (O : Own B H M R) (Pv : Nat → List V → List (Addr × HO) → Prop) (h0 : Pv 0 [] M)
    (hs : ∀ (i : Nat) H' M' p acc, (i : Int) < n → acc.length ≤ i → Pv i acc M' → Own B H' M' (R ++ [(p, .lst acc)]) →
      tt ((wipe σ [j]).set j (some (.int (i : Int)))) H' fun b H3 => if b = true then te ((wipe σ [j]).set j (some (.int (i : Int)))) H3 (lcEnd B R p i (Pv (i + 1))) else lcSkip B R p i (Pv (i + 1)) H3)
    (hd : ∀ p H' M' acc, B p = none → acc.length ≤ n.toNat → Pv n.toNat acc M' → Own B H' M' (R ++ [(p, .lst acc)]) → Q (.ref p) H') : jRng1 [.int n] H (lcR (gName j) tt te [j] σ Q) :=
  ⟨n, rfl, hn.1, hn.2, lc_any (walk_range (lo := 0)) O Pv (fun _ _ _ _ _ => trivial) h0 (fun i x H' H'' M' p acc hi hl pv O' y => by
    obtain ⟨rfl, e⟩ := y
    have e2 : x = .int (i : Int) := e.trans (congrArg V.int (Int.zero_add _))
    subst e2
    exact hs i _ M' p acc (by omega) hl pv O') hd⟩
theorem lc_lst {xs : List V} (hx : SqL K H a xs) (O : Own B H M R) (Pv : Nat → List V → List (Addr × HO) → Prop) (hG : ∀ H' M' p acc, Own B H' M' (R ++ [(p, .lst acc)]) → SqL K H' a xs) (h0 : Pv 0 [] M)
    (hs : ∀ (i : Nat) x H' M' p acc, xs[i]? = some x → acc.length ≤ i → Pv i acc M' → Own B H' M' (R ++ [(p, .lst acc)]) →
      tt ((wipe σ [j]).set j (some x)) H' fun b H3 => if b = true then te ((wipe σ [j]).set j (some x)) H3 (lcEnd B R p i (Pv (i + 1))) else lcSkip B R p i (Pv (i + 1)) H3)
    (hd : ∀ p H' M' acc, B p = none → acc.length ≤ xs.length → Pv xs.length acc M' → Own B H' M' (R ++ [(p, .lst acc)]) → Q (.ref p) H') : jList K (.ref a) H (lcR (gName j) tt te [j] σ Q) :=
  ⟨a, rfl, ⟨xs, hx⟩, lc_any walk_list O Pv hG h0 (fun i x H' H'' M' p acc hi hl pv O' y => by
    obtain ⟨rfl, hx⟩ := y
    exact hs i x _ M' p acc hx hl pv O') hd⟩
theorem lc_tupl {xs : List V} (hx : SqT K H a xs) (O : Own B H M R) (Pv : Nat → List V → List (Addr × HO) → Prop) (hG : ∀ H' M' p acc, Own B H' M' (R ++ [(p, .lst acc)]) → SqT K H' a xs) (h0 : Pv 0 [] M)
    (hs : ∀ (i : Nat) x H' M' p acc, xs[i]? = some x → acc.length ≤ i → Pv i acc M' → Own B H' M' (R ++ [(p, .lst acc)]) →
      tt ((wipe σ [j]).set j (some x)) H' fun b H3 => if b = true then te ((wipe σ [j]).set j (some x)) H3 (lcEnd B R p i (Pv (i + 1))) else lcSkip B R p i (Pv (i + 1)) H3)
    (hd : ∀ p H' M' acc, B p = none → acc.length ≤ xs.length → Pv xs.length acc M' → Own B H' M' (R ++ [(p, .lst acc)]) → Q (.ref p) H') : jTup K (.ref a) H (lcR (gName j) tt te [j] σ Q) :=
  ⟨a, rfl, ⟨xs, hx⟩, lc_any walk_tup O Pv hG h0 (fun i x H' H'' M' p acc hi hl pv O' y => by
    obtain ⟨rfl, hx⟩ := y
    exact hs i x _ M' p acc hx hl pv O') hd⟩
theorem lc_strs {z : Str} (O : Own B H M R) (Pv : Nat → List V → List (Addr × HO) → Prop) (h0 : Pv 0 [] M)
    (hs : ∀ (i : Nat) c H' M' p acc, z.cps[i]? = some c → acc.length ≤ i → Pv i acc M' → Own B H' M' (R ++ [(p, .lst acc)]) →
      tt ((wipe σ [j]).set j (some (.str ⟨#[c]⟩))) H' fun b H3 => if b = true then te ((wipe σ [j]).set j (some (.str ⟨#[c]⟩))) H3 (lcEnd B R p i (Pv (i + 1))) else lcSkip B R p i (Pv (i + 1)) H3)
    (hd : ∀ p H' M' acc, B p = none → acc.length ≤ z.cps.size → Pv z.cps.size acc M' → Own B H' M' (R ++ [(p, .lst acc)]) → Q (.ref p) H') : jStr (.str z) H (lcR (gName j) tt te [j] σ Q) :=
  ⟨z, rfl, lc_any walk_str O Pv (fun _ _ _ _ _ => trivial) h0 (fun i x H' H'' M' p acc hi hl pv O' y => by
    obtain ⟨rfl, c, hx, rfl⟩ := y
    exact hs i c _ M' p acc hx hl pv O') hd⟩
end
end
end NF

/-! Own toolkit: texts. -/
namespace NF
open PySem L2 TL

/-- a text of one sign; signs as a list of texts -/
abbrev ch (c : Nat) : V := .str ⟨#[c]⟩
abbrev mkS (l : List Nat) : Str := ⟨l.toArray⟩
theorem len_mk (l : List Nat) : (mkS l).length = l.length := by rw [len_tl]
theorem len_app (x y : Str) : (x ++ y).length = x.length + y.length := by rw [len_tl, tl_append, List.length_append, ← len_tl, ← len_tl]
theorem len_cut (z : Str) (lo hi : Option Int) : (cutS z lo hi).length ≤ z.length := cutS_length z lo hi
theorem len_ch (c : Nat) : (⟨#[c]⟩ : Str).length = 1 := rfl
theorem lit {s : String} {l : List Nat} (h : s.toList.map Char.toNat = l := by decide +kernel) : Str.ofString s = mkS l := ext_tl (by rw [tl_ofString, h])
theorem tl_cut (z : Str) (lo hi : Option Int) : tl (cutS z lo hi) = ((tl z).drop (HT.sIx z.length 0 lo)).take (HT.sIx z.length z.length hi - HT.sIx z.length 0 lo) := rfl
theorem join_ch (l : List Nat) : Txt.join Str.empty (l.map fun c => (⟨#[c]⟩ : Str)) = mkS l := by
  refine ext_tl ?_
  rw [join_eq, tl_join]
  show joinL [] _ = l
  have e : ∀ l : List Nat, joinL [] ((l.map fun c => (⟨#[c]⟩ : Str)).map tl) = l := by
    intro l
    induction l with
    | nil => rfl
    | cons a l ih =>
      cases l with
      | nil => rfl
      | cons b l =>
        show tl ⟨#[a]⟩ ++ ([] ++ joinL [] (((b :: l).map fun c => (⟨#[c]⟩ : Str)).map tl)) = a :: b :: l
        rw [ih]
        rfl
  exact e l
theorem sum_ch (l : List Nat) : ((l.map fun c => (⟨#[c]⟩ : Str)).map (·.length)).sum = l.length := by
  rw [List.map_map]
  induction l with
  | nil => rfl
  | cons a l ih => rw [List.map_cons, List.sum_cons, ih, List.length_cons]; show 1 + _ = _; omega
theorem map_ch (l : List Nat) : (l.map fun c => (⟨#[c]⟩ : Str)).map V.str = l.map ch := by rw [List.map_map]; rfl
theorem len_mul (x : Str) (n : Int) : (Txt.mul x n).length ≤ x.length * n.toNat := by
  unfold Txt.mul
  by_cases h : n < 1
  · rw [if_pos h]; exact Nat.zero_le _
  · rw [if_neg h]
    by_cases h2 : (n == 1 || x.length == 0) = true
    · rw [if_pos h2]
      simp only [Bool.or_eq_true, beq_iff_eq] at h2
      rcases h2 with h2 | h2
      · rw [h2]; simp
      · rw [h2]; simp
    · rw [if_neg h2]
      refine Nat.le_of_eq ?_
      have e : ∀ (k : Nat) (a : Array Nat), ((List.replicate k x.cps).foldl (· ++ ·) a).size = a.size + k * x.cps.size := by
        intro k
        induction k with
        | zero => intro a; simp
        | succ k ih => intro a; rw [List.replicate_succ, List.foldl_cons, ih, Array.size_append, Nat.succ_mul]; omega
      show ((List.replicate n.toNat x.cps).foldl (· ++ ·) #[]).size = x.cps.size * n.toNat
      rw [e, Nat.mul_comm]
      simp
/-! letters -/
def isLo (c : Nat) : Bool := decide (97 ≤ c ∧ c ≤ 104)
def isUp (c : Nat) : Bool := decide (65 ≤ c ∧ c ≤ 72)
theorem lo_cases {c : Nat} (h : 97 ≤ c ∧ c ≤ 104) : c = 97 ∨ c = 98 ∨ c = 99 ∨ c = 100 ∨ c = 101 ∨ c = 102 ∨ c = 103 ∨ c = 104 := by omega
theorem up_cases {c : Nat} (h : 65 ≤ c ∧ c ≤ 72) : c = 65 ∨ c = 66 ∨ c = 67 ∨ c = 68 ∨ c = 69 ∨ c = 70 ∨ c = 71 ∨ c = 72 := by omega
theorem upper_lo {c : Nat} (h : 97 ≤ c ∧ c ≤ 104) : Txt.upper ⟨#[c]⟩ = ⟨#[c - 32]⟩ := by
  rcases lo_cases h with rfl | rfl | rfl | rfl | rfl | rfl | rfl | rfl <;> decide +kernel
theorem lower_up {c : Nat} (h : 65 ≤ c ∧ c ≤ 72) : Txt.lower ⟨#[c]⟩ = ⟨#[c + 32]⟩ := by
  rcases up_cases h with rfl | rfl | rfl | rfl | rfl | rfl | rfl | rfl <;> decide +kernel
theorem mem_lo {c : Nat} : c ∈ [97, 98, 99, 100, 101, 102, 103, 104] ↔ 97 ≤ c ∧ c ≤ 104 := by
  simp only [List.mem_cons, List.not_mem_nil, or_false]; omega
theorem mem_up {c : Nat} : c ∈ [65, 66, 67, 68, 69, 70, 71, 72] ↔ 65 ≤ c ∧ c ≤ 72 := by
  simp only [List.mem_cons, List.not_mem_nil, or_false]; omega
theorem at_lt {α : Type} {l : List α} {i : Int} (h0 : 0 ≤ i) (h1 : i < (l.length : Int)) : ∃ c, atI l i = some c ∧ l[i.toNat]? = some c ∧ c ∈ l := by
  have hj : i.toNat < l.length := by omega
  have e : ((i.toNat : Nat) : Int) = i := by omega
  refine ⟨l[i.toNat], ?_, by simp [hj], List.getElem_mem hj⟩
  have := atI_nat (xs := l) (j := i.toNat) (v := l[i.toNat]) (by simp [hj])
  rw [e] at this
  exact this
section
variable {K : PySem.W.Frag} {B H : Hp} {M R : List (Addr × HO)} {a p : Addr} {Q : VK} {z : Str} {i : Int}
/-- an item of a text at an open place within it -/
theorem x_ixSo (h0 : 0 ≤ i) (h1 : i < (z.length : Int)) (hz : z.length ≤ sizeLine) (q : ∀ c, tl z = tl z → (tl z)[i.toNat]? = some c → c ∈ tl z → Q (.str ⟨#[c]⟩) H) : rIxS (.str z) (.int i) H Q := by
  obtain ⟨c, e, e2, m⟩ := at_lt (l := tl z) h0 (by rw [← len_tl]; exact h1)
  exact ⟨z, i, c, rfl, rfl, hz, e, q c rfl e2 m⟩
/-- join of signs -/
theorem x_join (l : List Nat) (h : H p = some (.lst (l.map ch))) (hz : l.length ≤ 16777216) (q : Q (.str (mkS l)) H) : rJoin K (.str Str.empty) [.ref p] H Q :=
  x_joinL (l.map fun c => (⟨#[c]⟩ : Str)) (by rw [map_ch]; exact h) (by
    rw [sum_ch, List.length_map]
    show l.length + l.length * 0 ≤ _
    omega) (by rw [join_ch]; exact q)
theorem x_mulS {n : Int} (hz : z.length ≤ 1000000) (hn : n ≤ 1000000) (hn0 : -1000000 ≤ n) (hl : z.length * n.toNat ≤ sizeLine) (q : Q (.str (Txt.mul z n)) H) : rMulS (.str z) (.int n) H Q := ⟨z, n, rfl, rfl, hz, hn, by omega, hl, q⟩
end
end NF

/-! Own toolkit: nested texts as lists of codes. -/
namespace NF
open PySem L2 TL

theorem tl_names : tl (Str.ofString "abcdefgh") = [97, 98, 99, 100, 101, 102, 103, 104] := by rw [tl_ofString]; decide +kernel
theorem len_names : (Str.ofString "abcdefgh").length = 8 := by rw [len_tl, tl_names]; rfl
/-- reading with a stack (the top first) -/
def run : List Nat → List Nat → Option (List Nat)
  | [], st => some st
  | c :: r, st => if 97 ≤ c ∧ c ≤ 104 then run r (c :: st) else match st with
    | t :: ts => if c + 32 = t then run r ts else none
    | [] => none
/-- the fault: the place of the first wrong sign, or the length -/
def flt : List Nat → Nat → List Nat → Option Nat
  | [], k, st => if st = [] then none else some k
  | c :: r, k, st => if 97 ≤ c ∧ c ≤ 104 then flt r (k + 1) (c :: st) else match st with
    | t :: ts => if c + 32 = t then flt r (k + 1) ts else some k
    | [] => some k
theorem run_cons (c : Nat) (r st : List Nat) : run (c :: r) st = if 97 ≤ c ∧ c ≤ 104 then run r (c :: st) else match st with
    | t :: ts => if c + 32 = t then run r ts else none
    | [] => none := by rw [run.eq_def]
theorem flt_cons (c : Nat) (r : List Nat) (k : Nat) (st : List Nat) : flt (c :: r) k st = if 97 ≤ c ∧ c ≤ 104 then flt r (k + 1) (c :: st) else match st with
    | t :: ts => if c + 32 = t then flt r (k + 1) ts else some k
    | [] => some k := by rw [flt.eq_def]
theorem run_append (l m : List Nat) : ∀ st, run (l ++ m) st = (run l st).bind (run m) := by
  induction l with
  | nil => intro st; rfl
  | cons c l ih =>
    intro st
    rw [List.cons_append, run_cons, run_cons]
    by_cases h : 97 ≤ c ∧ c ≤ 104
    · rw [if_pos h, if_pos h]; exact ih _
    · rw [if_neg h, if_neg h]
      cases st with
      | nil => rfl
      | cons t ts =>
        by_cases h2 : c + 32 = t
        · simp only [if_pos h2]; exact ih _
        · simp only [if_neg h2]; rfl
theorem flt_run {l : List Nat} (m : List Nat) : ∀ {k st st'}, run l st = some st' → flt (l ++ m) k st = flt m (k + l.length) st' := by
  induction l with
  | nil => intro k st st' h; cases h; rfl
  | cons c l ih =>
    intro k st st' h
    rw [List.cons_append, List.length_cons, flt_cons]
    rw [run_cons] at h
    have e : k + (l.length + 1) = (k + 1) + l.length := by omega
    by_cases h1 : 97 ≤ c ∧ c ≤ 104
    · rw [if_pos h1] at h ⊢; rw [e]; exact ih h
    · rw [if_neg h1] at h ⊢
      cases st with
      | nil => cases h
      | cons t ts =>
        by_cases h2 : c + 32 = t
        · simp only [if_pos h2] at h ⊢; rw [e]; exact ih h
        · simp only [if_neg h2] at h; cases h
/-- a beginning's stack is what is left open; else the fault is a place within -/
theorem flt_spec (l : List Nat) : ∀ k st, (∃ st', run l st = some st') ∨ (run l st = none ∧ ∃ j, flt l k st = some j ∧ k ≤ j ∧ j < k + l.length ∧ ∀ m, flt (l ++ m) k st = some j) := by
  induction l with
  | nil => intro k st; exact .inl ⟨st, rfl⟩
  | cons c l ih =>
    intro k st
    rw [run_cons]
    by_cases h1 : 97 ≤ c ∧ c ≤ 104
    · rw [if_pos h1]
      rcases ih (k + 1) (c :: st) with h | ⟨h, j, h2, h3, h4, h5⟩
      · exact .inl h
      · refine .inr ⟨h, j, ?_, by omega, by rw [List.length_cons]; omega, fun m => ?_⟩
        · rw [flt_cons]; rw [if_pos h1]; exact h2
        · rw [List.cons_append, flt_cons]; rw [if_pos h1]; exact h5 m
    · rw [if_neg h1]
      cases st with
      | nil =>
        refine .inr ⟨rfl, k, ?_, Nat.le_refl _, by rw [List.length_cons]; omega, fun m => ?_⟩
        · rw [flt_cons]; rw [if_neg h1]
        · rw [List.cons_append, flt_cons]; rw [if_neg h1]
      | cons t ts =>
        by_cases h2 : c + 32 = t
        · simp only [if_pos h2]
          rcases ih (k + 1) ts with h | ⟨h, j, h3, h4, h5, h6⟩
          · exact .inl h
          · refine .inr ⟨h, j, ?_, by omega, by rw [List.length_cons]; omega, fun m => ?_⟩
            · rw [flt_cons]; rw [if_neg h1]; simp only [if_pos h2]; exact h3
            · rw [List.cons_append, flt_cons]; rw [if_neg h1]; simp only [if_pos h2]; exact h6 m
        · simp only [if_neg h2]
          refine .inr ⟨trivial, k, ?_, Nat.le_refl _, by rw [List.length_cons]; omega, fun m => ?_⟩
          · rw [flt_cons]; rw [if_neg h1]; simp only [if_neg h2]
          · rw [List.cons_append, flt_cons]; rw [if_neg h1]; simp only [if_neg h2]
theorem flt_of_run {l : List Nat} {k : Nat} {st st' : List Nat} (h : run l st = some st') : flt l k st = if st' = [] then none else some (k + l.length) := by
  have := flt_run (k := k) [] h
  rw [List.append_nil] at this
  rw [this]
  rfl
/-- the stack's letters are opening ones -/
theorem run_lo {l : List Nat} : ∀ {st st'}, run l st = some st' → (∀ c ∈ st, 97 ≤ c ∧ c ≤ 104) → ∀ c ∈ st', 97 ≤ c ∧ c ≤ 104 := by
  induction l with
  | nil => intro st st' h hs; cases h; exact hs
  | cons c l ih =>
    intro st st' h hs
    rw [run_cons] at h
    by_cases h1 : 97 ≤ c ∧ c ≤ 104
    · rw [if_pos h1] at h
      refine ih h fun d hd => ?_
      rcases List.mem_cons.mp hd with rfl | hd
      · exact h1
      · exact hs d hd
    · rw [if_neg h1] at h
      cases st with
      | nil => cases h
      | cons t ts =>
        by_cases h2 : c + 32 = t
        · simp only [if_pos h2] at h
          exact ih h fun d hd => hs d (List.mem_cons_of_mem _ hd)
        · simp only [if_neg h2] at h; cases h
theorem take_snoc {α : Type} {l : List α} {i : Nat} {c : α} (h : l[i]? = some c) : l.take (i + 1) = l.take i ++ [c] := by rw [List.take_add_one, h]; rfl
theorem drop_cons {α : Type} {l : List α} {i : Nat} {c : α} (h : l[i]? = some c) : l = l.take i ++ c :: l.drop (i + 1) := by
  have hi : i < l.length := (List.getElem?_eq_some_iff.mp h).1
  have e : l[i] = c := (List.getElem?_eq_some_iff.mp h).2
  rw [← e, ← List.drop_eq_getElem_cons hi, List.take_append_drop]
theorem run_lo1 {l st : List Nat} {i c : Nat} (h : run (l.take i) [] = some st) (hc : l[i]? = some c) (h1 : 97 ≤ c ∧ c ≤ 104) : run (l.take (i + 1)) [] = some (c :: st) := by
  rw [take_snoc hc, run_append, h]
  show run [c] st = _
  rw [run_cons, if_pos h1]
  rfl
theorem run_up1 {l st : List Nat} {i c : Nat} (h : run (l.take i) [] = some ((c + 32) :: st)) (hc : l[i]? = some c) (h1 : ¬ (97 ≤ c ∧ c ≤ 104)) : run (l.take (i + 1)) [] = some st := by
  rw [take_snoc hc, run_append, h]
  show run [c] ((c + 32) :: st) = _
  rw [run_cons, if_neg h1]
  simp only [if_true]
  rfl
theorem flt_stop {l st : List Nat} {i c : Nat} (h : run (l.take i) [] = some st) (hc : l[i]? = some c) (h1 : ¬ (97 ≤ c ∧ c ≤ 104)) (h2 : ∀ t ts, st = t :: ts → c + 32 ≠ t) : flt l 0 [] = some i := by
  have hi : i < l.length := (List.getElem?_eq_some_iff.mp hc).1
  rw [drop_cons hc, flt_run _ h, flt_cons, if_neg h1, List.length_take, Nat.min_eq_left (by omega), Nat.zero_add]
  cases st with
  | nil => rfl
  | cons t ts => simp only [if_neg (h2 t ts rfl)]
theorem flt_end {l st : List Nat} (h : run (l.take l.length) [] = some st) : flt l 0 [] = if st = [] then none else some l.length := by
  rw [List.take_length] at h
  rw [flt_of_run h, Nat.zero_add]
theorem run_len {l : List Nat} : ∀ {st st'}, run l st = some st' → st'.length ≤ st.length + l.length := by
  induction l with
  | nil => intro st st' h; cases h; exact Nat.le_refl _
  | cons c l ih =>
    intro st st' h
    rw [run_cons] at h
    by_cases h1 : 97 ≤ c ∧ c ≤ 104
    · rw [if_pos h1] at h
      have := ih h
      simp only [List.length_cons] at this ⊢
      omega
    · rw [if_neg h1] at h
      cases st with
      | nil => cases h
      | cons t ts =>
        by_cases h2 : c + 32 = t
        · simp only [if_pos h2] at h
          have := ih h
          simp only [List.length_cons] at this ⊢
          omega
        · simp only [if_neg h2] at h; cases h
/-- the closing letters of a stack -/
theorem run_close : ∀ {st : List Nat}, (∀ c ∈ st, 97 ≤ c ∧ c ≤ 104) → run (st.map (· - 32)) st = some []
  | [], _ => rfl
  | c :: st, h => by
    have hc := h c (List.mem_cons_self ..)
    show run ((c - 32) :: st.map (· - 32)) (c :: st) = _
    rw [run_cons, if_neg (by omega)]
    simp only [show c - 32 + 32 = c by omega, if_true]
    exact run_close fun d hd => h d (List.mem_cons_of_mem _ hd)
/-- what is written so far, what is still open (the last one opened at the end, as closing letters) -/
def NestI (ls os : List Nat) (n : Nat) : Prop := run ls [] = some ((os.map (· + 32)).reverse) ∧ (∀ c ∈ os, 65 ≤ c ∧ c ≤ 72) ∧ ls.length + os.length = n
theorem NestI.nil : NestI [] [] 0 := ⟨rfl, fun _ h => absurd h List.not_mem_nil, rfl⟩
theorem NestI.pop {ls os : List Nat} {c n : Nat} (h : NestI ls (os ++ [c]) n) : NestI (ls ++ [c]) os n := by
  obtain ⟨h1, h2, h3⟩ := h
  have hc := h2 c (by simp)
  refine ⟨?_, fun d hd => h2 d (List.mem_append_left _ hd), by simp only [List.length_append, List.length_singleton] at h3 ⊢; omega⟩
  rw [run_append, h1, List.map_append, List.reverse_append]
  show run [c] ((c + 32) :: (os.map (· + 32)).reverse) = _
  rw [run_cons, if_neg (by omega)]
  simp only [if_true]
  rfl
theorem NestI.push {ls os : List Nat} {c n : Nat} (h : NestI ls os n) (hc : 97 ≤ c ∧ c ≤ 104) : NestI (ls ++ [c]) (os ++ [c - 32]) (n + 2) := by
  obtain ⟨h1, h2, h3⟩ := h
  refine ⟨?_, fun d hd => ?_, by simp only [List.length_append, List.length_singleton]; omega⟩
  · rw [run_append, h1]
    show run [c] _ = _
    rw [run_cons, if_pos hc, List.map_append, List.reverse_append]
    show some (c :: (os.map (· + 32)).reverse) = some ((c - 32 + 32) :: (os.map (· + 32)).reverse)
    rw [show c - 32 + 32 = c by omega]
  · rcases List.mem_append.mp hd with hd | hd
    · exact h2 d hd
    · rw [List.mem_singleton.mp hd]; omega
/-- nested -/
def Nst (l : List Nat) : Prop := run l [] = some []
theorem NestI.done {ls : List Nat} {n : Nat} (h : NestI ls [] n) : Nst ls ∧ ls.length = n := ⟨h.1, by have := h.2.2; simpa using this⟩
section
variable {K : PySem.W.Frag} {B H : Hp} {M R : List (Addr × HO)} {a p : Addr} {Q : VK} {z : Str} {i : Int} {xs : List V}
theorem x_popC {os : List Nat} {c : Nat} (O : Own B H M R) (k : Nat) (hk : R[k]? = some (a, .lst ((os ++ [c]).map ch))) (q : ∀ H1, Own B H1 M (R.set k (a, .lst (os.map ch))) → Q (ch c) H1) : rPop (.ref a) [] H Q := by
  have e : (os ++ [c]).map ch = os.map ch ++ [ch c] := by rw [List.map_append]; rfl
  rw [e] at hk
  refine x_pop O k hk (v := ch c) (by simp) fun H1 O1 => q H1 ?_
  rw [List.dropLast_concat] at O1
  exact O1
theorem x_appC {l : List Nat} {c : Nat} (O : Own B H M R) (k : Nat) (hk : R[k]? = some (a, .lst (l.map ch))) (hz : l.length < 10000000) (q : ∀ H1, Own B H1 M (R.set k (a, .lst ((l ++ [c]).map ch))) → Q .non H1) : rAppend (.ref a) [ch c] H Q := by
  refine x_append O k hk (by rw [List.length_map, sizeLine_eq]; omega) fun H1 O1 => q H1 ?_
  rw [List.map_append]
  exact O1
theorem map_snoc (l : List Nat) (c : Nat) : l.map ch ++ [ch c] = (l ++ [c]).map ch := by rw [List.map_append]; rfl
/-- an item of a list at an open place within it -/
theorem x_ixLo (h : H a = some (.lst xs)) (h0 : 0 ≤ i) (h1 : i < (xs.length : Int)) (q : ∀ v, xs[i.toNat]? = some v → v ∈ xs → Q v H) : rIxL K (.ref a) (.int i) H Q := by
  obtain ⟨c, e, e2, m⟩ := at_lt h0 h1
  exact x_ixL h e (q c e2 m)
end
theorem snoc_of {α : Type} {l : List α} (h : 0 < l.length) : ∃ m c, l = m ++ [c] := by
  rcases List.eq_nil_or_concat l with e | ⟨m, c, e⟩
  · rw [e] at h; simp at h
  · exact ⟨m, c, by rw [e, List.concat_eq_append]⟩
end NF

namespace NF
open PySem L2 TL
def top (i : Nat) : Stmt := PySem.Challenge.pw_nestform_k00_faults_of_strings.main.body.getD i (.Pass ⟨0, 0, 0, 0⟩)
abbrev s_fault : Stmt := top 3
abbrev s_is_nested : Stmt := top 4
abbrev s_order_key : Stmt := top 5
abbrev s_lesser : Stmt := top 6
abbrev s_law_box : Stmt := top 8
abbrev s_law_draw : Stmt := top 9
abbrev s_law_char : Stmt := top 10
abbrev s_law_nested : Stmt := top 11
abbrev s_law_long : Stmt := top 12
abbrev s_law_bent_text : Stmt := top 13
abbrev s_law_string : Stmt := top 14
abbrev s_law_word : Stmt := top 15
abbrev s_law_other : Stmt := top 16
abbrev s_law_fault : Stmt := top 17
abbrev s_law_ending : Stmt := top 18
abbrev s_law_is : Stmt := top 19
abbrev s_law_right : Stmt := top 20
abbrev s_law_beginnings_right : Stmt := top 21
abbrev s_law_endings_right : Stmt := top 22
abbrev s_law_less : Stmt := top 23
abbrev s_law_lesser_right : Stmt := top 24
abbrev s_law_order_right : Stmt := top 25
abbrev s_law : Stmt := top 26
structure Txt (K : PySem.W.Frag) (mg : Str → Option Value) : Prop where
  b_bool : mg "bool" = none
  b_enumerate : mg "enumerate" = none
  b_int : mg "int" = none
  b_isinstance : mg "isinstance" = none
  b_len : mg "len" = none
  b_list : mg "list" = none
  b_max : mg "max" = none
  b_min : mg "min" = none
  b_range : mg "range" = none
  g_NAMES : ∃ u, mg "NAMES" = some u ∧ RelV (.str "abcdefgh") u
  g_CLOSINGS : ∃ u, mg "_CLOSINGS" = some u ∧ RelV (.str "ABCDEFGH") u
/-! the walk's own steps -/
local macro_rules | `(tactic| walk_at "own") => `(tactic| first
  | assumption
  | (refine' NF.Own.get ?O 0 ?h; (case O => assumption); (case h => exact rfl))
  | (refine' NF.Own.get ?O 1 ?h; (case O => assumption); (case h => exact rfl))
  | (refine' NF.Own.get ?O 2 ?h; (case O => assumption); (case h => exact rfl))
  | (refine' NF.Own.get ?O 3 ?h; (case O => assumption); (case h => exact rfl))
  | (refine' NF.Own.get ?O 4 ?h; (case O => assumption); (case h => exact rfl))
  | (refine' NF.Own.get ?O 5 ?h; (case O => assumption); (case h => exact rfl)))
local macro_rules | `(tactic| walk_at "atn") => `(tactic| first | assumption | exact rfl | (exact L2.atI_nat (by assumption)))
local macro_rules | `(tactic| walk_at "len") => `(tactic| first
  | assumption
  | (simp only [List.length_cons, List.length_nil, List.length_append, List.length_map, NF.len_app, NF.len_mk, NF.len_ch, sizeLine_eq]; done)
  | (simp only [List.length_cons, List.length_nil, List.length_append, List.length_map, List.length_reverse, NF.len_app, NF.len_mk, NF.len_ch, sizeLine_eq]; omega)
  | (rw [sizeLine_eq]; omega)
  | decide
  | omega)
local macro_rules | `(tactic| walk_at "mul") => `(tactic| first | exact Or.inr ⟨by decide, by decide⟩ | exact Or.inl ⟨by decide, by decide⟩ | exact Or.inl ⟨by omega, by omega⟩ | exact Or.inr ⟨by omega, by omega⟩)
set_option hygiene false in
local macro_rules | `(tactic| walk_at "nO") => `(tactic| try dsimp only [List.set, List.cons_append, List.nil_append, List.append_nil, Int.reduceToNat] at O)
set_option hygiene false in
local macro_rules | `(tactic| walk_at "in2") => `(tactic| (intro H1 O; walk_at "nO"))
set_option hygiene false in
local macro_rules | `(tactic| walk_at "in4") => `(tactic| (intro p H1 hp O; walk_at "nO"))
local macro_rules | `(tactic| walk_at "mut") => `(tactic| first
  | ((with_reducible show rSetL _ _ _ _ _); first
      | (refine' NF.x_setL ?O 0 ?hk ?hi ?q; (case O => assumption); (case hk => exact rfl); (case hi => exact rfl); walk_at "in2")
      | (refine' NF.x_setL ?O 1 ?hk ?hi ?q; (case O => assumption); (case hk => exact rfl); (case hi => exact rfl); walk_at "in2")
      | (refine' NF.x_setL ?O 2 ?hk ?hi ?q; (case O => assumption); (case hk => exact rfl); (case hi => exact rfl); walk_at "in2")
      | (refine' NF.x_setL ?O 3 ?hk ?hi ?q; (case O => assumption); (case hk => exact rfl); (case hi => exact rfl); walk_at "in2"))
  | ((with_reducible show rAppend _ _ _ _); first
      | (refine' NF.x_append ?O 0 ?hk ?hz ?q; (case O => assumption); (case hk => exact rfl); (case hz => walk_at "len"); walk_at "in2")
      | (refine' NF.x_append ?O 1 ?hk ?hz ?q; (case O => assumption); (case hk => exact rfl); (case hz => walk_at "len"); walk_at "in2")
      | (refine' NF.x_append ?O 2 ?hk ?hz ?q; (case O => assumption); (case hk => exact rfl); (case hz => walk_at "len"); walk_at "in2")
      | (refine' NF.x_append ?O 3 ?hk ?hz ?q; (case O => assumption); (case hk => exact rfl); (case hz => walk_at "len"); walk_at "in2")))
local macro_rules | `(tactic| walk_at "new") => `(tactic| first
  | ((with_reducible show NF.newL _ _ _); refine' NF.x_newL ?O ?hz ?q; (case O => assumption); (case hz => walk_at "len"); walk_at "in4")
  | ((with_reducible show NF.newT _ _ _); refine' NF.x_newT ?O ?hz ?q; (case O => assumption); (case hz => walk_at "len"); walk_at "in4"))
local macro_rules | `(tactic| walk_at "isi") => `(tactic| ((with_reducible show NF.rIsT _ _ _ _); first
  | (refine' NF.x_isI ?hb ?_; (case hb => first | exact NF.kit_int_int | exact NF.kit_int_bool | exact NF.kit_int_str | exact NF.kit_int_list | exact NF.kit_int_tuple | exact NF.kit_int_dict))
  | (refine' NF.x_isB ?hb ?_; (case hb => first | exact NF.kit_bool_int | exact NF.kit_bool_bool | exact NF.kit_bool_str | exact NF.kit_bool_list | exact NF.kit_bool_tuple | exact NF.kit_bool_dict))
  | (refine' NF.x_isS ?hb ?_; (case hb => first | exact NF.kit_str_int | exact NF.kit_str_bool | exact NF.kit_str_str | exact NF.kit_str_list | exact NF.kit_str_tuple | exact NF.kit_str_dict))
  | (refine' NF.x_isNon ?hb ?_; (case hb => first | exact NF.kit_NoneType_int | exact NF.kit_NoneType_bool | exact NF.kit_NoneType_str | exact NF.kit_NoneType_list | exact NF.kit_NoneType_tuple | exact NF.kit_NoneType_dict))
  | (refine' NF.x_isL ?h ?hb ?_; (case h => walk_at "own"); (case hb => first | exact NF.kit_list_int | exact NF.kit_list_bool | exact NF.kit_list_str | exact NF.kit_list_list | exact NF.kit_list_tuple | exact NF.kit_list_dict))
  | (refine' NF.x_isT ?h ?hb ?_; (case h => walk_at "own"); (case hb => first | exact NF.kit_tuple_int | exact NF.kit_tuple_bool | exact NF.kit_tuple_str | exact NF.kit_tuple_list | exact NF.kit_tuple_tuple | exact NF.kit_tuple_dict))))
local macro_rules | `(tactic| walk_at "s1") => `(tactic| first
  | with_reducible refine NF.x_seq ?_
  | with_reducible refine NF.x_asg ?_
  | with_reducible refine NF.x_op ?_
  | ((with_reducible show tVar _ _ _ _); first | refine NF.x_var rfl ?_ | refine NF.x_var (by assumption) ?_)
  | with_reducible refine NF.x_c ?_
  | with_reducible refine NF.x_cons ?_
  | with_reducible refine NF.x_nil ?_
  | with_reducible refine NF.x_cb ?_
  | with_reducible refine NF.x_call ?_
  | with_reducible refine NF.x_name ?_
  | with_reducible refine NF.x_sub ?_
  | with_reducible refine NF.x_drop ?_
  | with_reducible refine NF.x_ret ?_
  | with_reducible refine NF.x_retN ?_
  | with_reducible refine NF.x_next ?_
  | with_reducible refine NF.x_brk ?_
  | with_reducible refine NF.x_cnt ?_
  | with_reducible refine NF.x_ifs ?_
  | with_reducible refine NF.x_if ?_
  | with_reducible refine NF.x_test ?_
  | with_reducible refine NF.x_B ?_
  | with_reducible refine NF.x_not ?_
  | with_reducible refine NF.x_andV ?_
  | with_reducible refine NF.x_orV ?_
  | with_reducible refine NF.x_notV ?_
  | with_reducible refine NF.x_tru ?_
  | with_reducible refine NF.x_lst ?_
  | with_reducible refine NF.x_tup ?_
  | with_reducible refine NF.x_bm ?_
  | with_reducible refine NF.x_bm0 ?_
  | with_reducible refine NF.x_un ?_
  | with_reducible refine NF.x_bl ?_
  | with_reducible refine NF.x_tt ?_
  | with_reducible refine NF.x_ff ?_
  | with_reducible refine NF.x_nt ?_
  | with_reducible refine NF.x_nf ?_
  | with_reducible refine NF.x_I0 ?_
  | with_reducible refine NF.x_U ?_
  | with_reducible refine NF.x_int ?_
  | with_reducible refine NF.x_min2 ?_
  | with_reducible refine NF.x_max2 ?_
  | with_reducible refine NF.x_abs ?_
  | with_reducible refine NF.x_isNn ?_
  | with_reducible refine NF.x_notNn ?_
  | with_reducible refine NF.x_isNi ?_
  | with_reducible refine NF.x_notNi ?_
  | with_reducible refine NF.x_isNs ?_
  | with_reducible refine NF.x_notNs ?_
  | with_reducible refine NF.x_isNb ?_
  | with_reducible refine NF.x_notNb ?_
  | with_reducible refine NF.x_isNr ?_
  | with_reducible refine NF.x_notNr ?_
  | with_reducible refine NF.x_isN ?_
  | with_reducible refine NF.x_notN ?_
  | with_reducible refine NF.x_inC ?_
  | with_reducible refine NF.x_notInC ?_
  | with_reducible refine NF.x_find ?_
  | with_reducible refine NF.x_tyS ?_
  | with_reducible refine NF.x_truB ?_
  | with_reducible refine NF.x_truI ?_
  | with_reducible refine NF.x_truN ?_
  | ((with_reducible show rI CMul _ _ _ _ _); refine NF.x_I ?hc ?_; (case hc => walk_at "mul"))
  | ((with_reducible show rI CPow _ _ _ _ _); refine NF.x_I ?hc ?_; (case hc => exact ⟨by decide, by decide, by decide⟩))
  | ((with_reducible show rI CDivW _ _ _ _ _); refine NF.x_I ?hc ?_; (case hc => first | assumption | exact ⟨by assumption, by assumption⟩ | exact ⟨by decide, by decide +kernel⟩))
  | ((with_reducible show rI _ _ _ _ _ _); refine NF.x_I ?hc ?_; (case hc => first | assumption | (show (0 : Int) < _; omega) | decide))
  | ((with_reducible show rEq _ _ _ _); refine NF.x_eq (by rfl) ?_)
  | ((with_reducible show rNe _ _ _ _); refine NF.x_ne (by rfl) ?_)
  | ((with_reducible show rIxL _ _ _ _ _); refine' NF.x_ixL ?h ?hv ?_; (case h => walk_at "own"); (case hv => walk_at "atn"))
  | ((with_reducible show rIxT _ _ _ _ _); refine' NF.x_ixT ?h ?hv ?_; (case h => walk_at "own"); (case hv => walk_at "atn"))
  | ((with_reducible show rIxS _ _ _ _); refine' NF.x_ixS ?h ?hv ?_; (case h => walk_at "len"); (case hv => walk_at "atn"))
  | ((with_reducible show rLen _ [V.str _] _ _); refine NF.x_lenS ?h ?_; (case h => walk_at "len"))
  | ((with_reducible show rLen _ [V.ref _] _ _); first | (refine' NF.x_lenL ?h ?_; (case h => walk_at "own")) | (refine' NF.x_lenT ?h ?_; (case h => walk_at "own")))
  | ((with_reducible show rAddS _ _ _ _); refine NF.x_addS ?h ?_; (case h => walk_at "len"))
  | ((with_reducible show rUpper _ _ _ _); refine NF.x_upper ?h ?_; (case h => walk_at "len"))
  | ((with_reducible show rLower _ _ _ _); refine NF.x_lower ?h ?_; (case h => walk_at "len"))
  | ((with_reducible show tyV _ "list" _ _ ∧ _); refine' NF.x_tyL ?h ?_; (case h => walk_at "own"))
  | ((with_reducible show ∃ k, TruV _ (V.ref _) _ k ∧ _); refine' NF.x_truL ?h ?_; (case h => walk_at "own"))
  | ((with_reducible show ∃ k, TruV _ (V.str _) _ k ∧ _); refine' NF.x_truS ?h ?_; (case h => walk_at "len"))
  | with_reducible refine NF.x_sl ?_
  | with_reducible refine NF.x_noPart ?_
  | with_reducible refine NF.x_part ?_
  | with_reducible refine NF.x_pI ?_
  | ((with_reducible show rSlS _ _ _ _ _); refine NF.x_slS ?h ?_; (case h => walk_at "len"))
  | with_reducible refine NF.x_for ?_
  | with_reducible refine NF.x_lc ?_
  | with_reducible refine NF.x_yes ?_
  | ((with_reducible show NF.rLtIS _ _ _ _ _); refine' NF.x_ltIS ?ha ?hb ?_; (case ha => walk_at "own"); (case hb => walk_at "own"))
  | with_reducible refine NF.x_lstRg1 ?_
  | with_reducible refine NF.x_pI ?_
  | with_reducible refine NF.x_jR1 ?_
  | with_reducible refine NF.x_jR2 ?_
  | with_reducible refine NF.x_jL ?_
  | with_reducible refine NF.x_jT ?_
  | with_reducible refine NF.x_jS ?_
  | with_reducible refine NF.x_jE ?_
  | with_reducible refine NF.x_jEL ?_
  | walk_at "isi"
  | walk_at "mut")
local macro_rules | `(tactic| walk_at "go") => `(tactic| repeat (first | walk_at "s1" | walk_at "ao" | walk_at "new"))
local macro_rules | `(tactic| walk_at "ao") => `(tactic| first
  | with_reducible refine NF.x_and ?_
  | with_reducible refine NF.x_or ?_)
local macro_rules | `(tactic| walk_at "gw") => `(tactic| repeat (first | walk_at "s1" | walk_at "ao"))
local macro_rules | `(tactic| walk_at "gn") => `(tactic| repeat walk_at "s1")
section
variable {P : Program} {w : World} {K : PySem.W.Frag} {mg : Str → Option Value} {base : Heap}
/-! the law's box: a list of what is left of the script, and three numbers -/
def BxD (a : Addr) (M : List (Addr × HO)) : Prop := ∃ (c : Addr) (ns : List Int) (x y z : Int), M = [(a, .lst [.ref c, .int x, .int y, .int z]), (c, .lst (ns.map V.int))] ∧ 0 ≤ y ∧ y < 2147483648 ∧ ns.length ≤ 63
def spDraw : Sp := spB 1 BxD (fun r => ∃ many, r = [.int many] ∧ 0 < many ∧ many.natAbs.log2 < 9000) (fun r v => ∃ many d, r = [.int many] ∧ v = .int d ∧ 0 ≤ d ∧ d < many)
theorem mod_hi {i j : Int} (h : 0 < j) : 0 ≤ i % j ∧ i % j < j := ⟨Int.emod_nonneg _ (by omega), Int.emod_lt_of_pos _ h⟩
theorem CDivW.lit {i j : Int} (h : 0 < j) (hl : j.natAbs.log2 < 9000) : CDivW i j := ⟨h, hl⟩
theorem CMul.of {i j : Int} (h1 : -(2 ^ 64) < i) (h2 : i < 2 ^ 64) : CMul i j := .inl ⟨h1, h2⟩
abbrev NM_law_draw : List Str := ["box", "many", "cell", "digit"]
theorem sc_law_draw : FnScope NM_law_draw ["box", "many"] (defScope s_law_draw) := ⟨rfl, rfl, rfl, by decide +kernel, rfl, by decide +kernel, by decide +kernel⟩
theorem d_law_draw (F : Fn0 K mg "_law_draw" s_law_draw) (T : Txt K mg)  :
    Def P w K mg base 1 "_law_draw" ["box", "many"] spDraw := by
  refine Def.mk0 F sc_law_draw (by first | exact NF.hl_spB | exact NF.hl_spP | exact NF.hl_spNew | exact hl_spDraw) (fun _ _ _ _ _ _ us hl => match us, hl with | [_, _], _ => rfl) (fun cdv A outer s H vs Q E hr h => ?_)
  refine ⟨_, (pss_cons (ps_asg (pe_op op_add (pe_ix ix_list (pv 0) pe_int (fun _ _ => rfl)) pe_int) (pg_sub (pv 0) pe_int set_list))
      (Evl.pss_cut (ps_if (PW.pt (pw_and (pt_cmpR op_eq (pe_ix ix_list (pv 0) pe_int (fun _ _ => rfl)) pe_int (nomark _)) (pw_and1 (pt_cmpR op_gt (pe_callB (id := "len") callLen (by rfl) T.b_len (by decide +kernel) (pa_cons (pe_ix ix_list (pv 0) pe_int (fun _ _ => rfl)) pa_nil)) pe_int (nomark _)))))
      (pss_cons (ps_set (i := 2) sc_law_draw.nd rfl (Or.inl rfl) (pe_bm PySem.F.plainAttrs_list PySem.F.slot_list_pop PySem.F.type_list_pop mt_popAt (pe_ix ix_list (pv 0) pe_int (fun _ _ => rfl)) (pa_cons pe_int pa_nil)))
      (pss_one (ps_if (pt_cmpR op_ge (pv 2) (pe_op op_pow pe_int pe_int) (nomark _))
      (pss_one (ps_asg (pv 2) (pg_sub (pv 0) pe_int set_list)))
      (pss_one (ps_asg (pe_op op_mod (pe_callTy (T := "int") callInt (by rfl) T.b_int (by decide +kernel) (pa_cons (pe_op op_add (pe_op op_add (pe_op op_mul (pe_ix ix_list (pv 0) pe_int (fun _ _ => rfl)) pe_int) (pe_op op_mul (pv 2) pe_int)) pe_int) pa_nil)) pe_int) (pg_sub (pv 0) pe_int set_list))))))
      pss_nil)
      (pss_cons (ps_if (pt_cmpR op_gt (pe_ix ix_list (pv 0) pe_int (fun _ _ => rfl)) pe_int (nomark _))
      (pss_cons (ps_set (i := 3) sc_law_draw.nd rfl (Or.inl rfl) (pe_op op_mod (pe_callTy (T := "int") callInt (by rfl) T.b_int (by decide +kernel) (pa_cons (pe_ix ix_list (pv 0) pe_int (fun _ _ => rfl)) pa_nil)) (pv 1)))
      (pss_cons (ps_asg (pe_op op_fdivW (pe_ix ix_list (pv 0) pe_int (fun _ _ => rfl)) (pv 1)) (pg_sub (pv 0) pe_int set_list))
      (pss_one (ps_ret (pv 3)))))
      pss_nil)
      (pss_cons (ps_asg (pe_op op_mod (pe_callTy (T := "int") callInt (by rfl) T.b_int (by decide +kernel) (pa_cons (pe_op op_add (pe_op op_add (pe_op op_mul (pe_ix ix_list (pv 0) pe_int (fun _ _ => rfl)) pe_int) (pe_op op_mul (pe_ix ix_list (pv 0) pe_int (fun _ _ => rfl)) pe_int)) pe_int) pa_nil)) pe_int) (pg_sub (pv 0) pe_int set_list))
      (pss_one (ps_ret (pe_op op_mod (pe_op op_fdivW (pe_op op_mod (pe_callTy (T := "int") callInt (by rfl) T.b_int (by decide +kernel) (pa_cons (pe_op op_add (pe_op op_add (pe_op op_mul (pe_ix ix_list (pv 0) pe_int (fun _ _ => rfl)) (pe_ix ix_list (pv 0) pe_int (fun _ _ => rfl))) (pe_op op_mul pe_int (pe_ix ix_list (pv 0) pe_int (fun _ _ => rfl)))) pe_int) pa_nil)) pe_int) pe_int) (pv 1)))))))), ?_⟩
  try dsimp only [cxOf, Cx.nox, Cx.wish]
  obtain ⟨a, A, M, rest, rfl, hl, ⟨⟨c, ns, x, y, z, rfl, hy0, hy1, hns⟩, rfl⟩, O, ⟨many, rfl, hm, hml⟩, k⟩ := h
  have O := O.opened
  walk_at "go"
  refine NF.x_cut (fun σ H1 => ∃ (u2 u3 : Option V) (ns : List Int) (x y z : Int), σ = [some (.ref a), some (.int many), u2, u3] ∧ Own H H1 [] [(a, .lst [.ref c, .int x, .int y, .int z]), (c, .lst (ns.map V.int))] ∧ 0 ≤ y ∧ y < 2147483648 ∧ ns.length ≤ 63) ?_ ?_
  · walk_at "go"
    refine NF.x_iteI (fun h0 => ?_) (fun h0 => ?_)
    · walk_at "go"
      refine NF.x_ite (fun h1 => ?_) (fun h1 => ?_)
      · walk_at "go"
        rw [List.length_map] at h1
        obtain ⟨n, ns, rfl⟩ : ∃ n m, ns = n :: m := by cases ns with | nil => simp at h1 | cons n m => exact ⟨n, m, rfl⟩
        rw [List.length_cons] at hns
        simp only [List.map_cons] at O
        refine NF.x_popAt O 1 rfl 0 (by decide) (by decide) (by simp [seqIndex?]) rfl fun H1 O => ?_
        simp only [List.eraseIdx_cons_zero, List.set] at O
        walk_at "go"
        refine NF.x_ite (fun h2 => ?_) (fun h2 => ?_)
        · walk_at "go"
          exact ⟨_, _, ns, _, _, _, rfl, O, hy0, hy1, by omega⟩
        · walk_at "go"
          have q := mod_hi (i := y * 69621 + n * 48271 + 7919) (j := 2147483647) (by decide)
          exact ⟨_, _, ns, _, _, _, rfl, O, q.1, by omega, by omega⟩
      · walk_at "go"
        exact ⟨_, _, ns, _, _, _, rfl, O, hy0, hy1, hns⟩
    · walk_at "go"
      exact ⟨_, _, ns, _, _, _, rfl, O, hy0, hy1, hns⟩
  · rintro _ H1 ⟨u2, u3, ns, x, y, z, rfl, O, hy0, hy1, hns⟩
    walk_at "go"
    refine NF.x_ite (fun h0 => ?_) (fun h0 => ?_)
    · walk_at "go"
      have q := mod_hi (i := x) hm
      exact k _ _ _ ⟨⟨c, ns, _, y, z, rfl, hy0, hy1, hns⟩, rfl⟩ O.closed ⟨many, _, rfl, rfl, q.1, q.2⟩
    · have q0 := mod_hi (i := y * 16807 + z * 69621 + 1013) (j := 2147483647) (by decide)
      have q1 := q0.1
      have q2 := q0.2
      walk_at "go"
      exact k _ _ _ ⟨⟨c, ns, _, _, z, rfl, q0.1, by omega, hns⟩, rfl⟩ O.closed ⟨many, _, rfl, rfl, (mod_hi hm).1, (mod_hi hm).2⟩


/-! the law's box -/
theorem cutV_ints (ns : List Int) (lo hi : Option Int) : ∃ ms : List Int, cutV (ns.map V.int) lo hi = ms.map V.int ∧ ms.length ≤ ns.length := by
  unfold cutV
  rw [← List.map_drop, ← List.map_take]
  refine ⟨_, rfl, ?_⟩
  rw [List.length_take, List.length_drop]
  omega
def spBox (K : PySem.W.Frag) : Sp := fun vs H Q _ => ∃ (a : Addr) (ns : List Int), vs = [.ref a] ∧ SqL K H a (ns.map V.int) ∧ ns.length ≤ 63 ∧ ∀ b A H' M', In BxD b A M' → (∀ B R, Own B H [] R → Own B H' M' R) → Q (.ref b) H'
theorem hl_spBox {K : PySem.W.Frag} : ∀ vs H Q E, spBox K vs H Q E → vs.length = 1 := fun vs H Q E h => by
  obtain ⟨a, ns, rfl, _⟩ := h
  rfl
abbrev NM_law_box : List Str := ["script"]
theorem sc_law_box : FnScope NM_law_box ["script"] (defScope s_law_box) := ⟨rfl, rfl, rfl, by decide +kernel, rfl, by decide +kernel, by decide +kernel⟩
theorem d_law_box (F : Fn0 K mg "_law_box" s_law_box) (T : Txt K mg)  :
    Def P w K mg base 1 "_law_box" ["script"] (spBox K) := by
  refine Def.mk0 F sc_law_box (by first | exact NF.hl_spB | exact NF.hl_spP | exact NF.hl_spNew | exact hl_spBox) (fun _ _ _ _ _ _ us hl => match us, hl with | [_], _ => rfl) (fun cdv A outer s H vs Q E hr h => ?_)
  refine ⟨_, (pss_one (ps_ret (pe_lst (pa_cons (pe_callTy (T := "list") callListOf (by rfl) T.b_list (by decide +kernel) (pa_cons (pe_slice sl_list (pv 0) po_none (po_some pe_int)) pa_nil)) (pa_cons pe_int (pa_cons pe_int (pa_cons pe_int pa_nil))))))), ?_⟩
  try dsimp only [cxOf, Cx.nox, Cx.wish]
  obtain ⟨a, ns, rfl, hS, hns, k⟩ := h
  have O0 := NF.Own.refl0 H
  walk_at "go"
  refine NF.x_slL hS O0 fun p1 H1 hp1 O1 => ?_
  walk_at "go"
  refine NF.x_listOf O1 (.inl (O1.get 0 rfl)) fun p2 H2 hp2 O2 => ?_
  simp only [List.cons_append, List.nil_append] at O2
  walk_at "go"
  have O3 := O
  have hp3 := hp
  obtain ⟨ms, e, hm⟩ := cutV_ints ns none (some 63)
  rw [e] at O3
  have O4 := (O3.perm (R' := [(p1, .lst (ms.map V.int))] ++ [(p, .lst [.ref p2, .int 0, .int 0, .int 0]), (p2, .lst (ms.map V.int))]) (List.Perm.cons _ (List.Perm.swap _ _ _))).dropTo (fun x hx => by rw [List.mem_singleton.mp hx]; exact hp1)
  exact k p _ _ _ ⟨⟨p2, ms, 0, 0, 0, rfl, by decide, by decide, by omega⟩, rfl⟩ fun B R OB => (OB.callN O4 fun x hx => by
    simp only [List.mem_cons, List.not_mem_nil, or_false] at hx
    rcases hx with rfl | rfl
    · exact hp3
    · exact hp2).close


section
variable {B H : Hp} {M R : List (Addr × HO)} {a : Addr} {Q : VK} {E : XK}
theorem log2_small {m : Int} (h : m ≤ 1000000) (h0 : 0 < m) : m.natAbs.log2 < 9000 := by
  have h1 : m.natAbs < 2 ^ 20 := by omega
  have := PySem.Flt.log2_lt_of (show 0 < 20 by decide) h1
  omega
theorem x_draw {many : Int} (O : Own B H M R) {A : List Addr} (hB : In BxD a A M) (h0 : 0 < many) (h1 : many ≤ 1000000) (q : ∀ d H1 M1, 0 ≤ d → d < many → In BxD a A M1 → Own B H1 M1 R → Q (.int d) H1) : spDraw ([.ref a, .int many] ++ []) H Q E :=
  use_spB (rest := [.int many]) O hB rfl ⟨many, rfl, h0, log2_small h1 h0⟩ fun v H' M' hB' O' ⟨m2, d, e, ev, d0, d1⟩ => by
    cases e
    subst ev
    exact q d H' M' d0 d1 hB' O'
end
/-- a def of the box that makes a text of which P holds -/
def spTx (n : Nat) (pre : List V → Prop) (P : List V → Str → Prop) : Sp := spB n BxD pre (fun r v => ∃ z, v = .str z ∧ P r z)
theorem x_tx {B H : Hp} {M R : List (Addr × HO)} {a : Addr} {Q : VK} {E : XK} {n : Nat} {pre : List V → Prop} {P : List V → Str → Prop} {rest : List V} (O : Own B H M R) {A : List Addr} (hB : In BxD a A M) (hl : rest.length = n) (hp : pre rest)
    (q : ∀ z H1 M1, P rest z → In BxD a A M1 → Own B H1 M1 R → Q (.str z) H1) : spTx n pre P (.ref a :: rest) H Q E :=
  use_spB O hB hl hp fun v H' M' hB' O' ⟨z, e, h⟩ => by
    subst e
    exact q z H' M' h hB' O'
def spChar : Sp := spTx 0 (fun _ => True) (fun _ z => ∃ c, z = ⟨#[c]⟩)
abbrev NM_law_char : List Str := ["box", "chars"]
theorem sc_law_char : FnScope NM_law_char ["box"] (defScope s_law_char) := ⟨rfl, rfl, rfl, by decide +kernel, rfl, by decide +kernel, by decide +kernel⟩
theorem d_law_char (F : Fn0 K mg "_law_char" s_law_char) (T : Txt K mg) (D_law_draw : Def P w K mg base 1 "_law_draw" ["box", "many"] spDraw) :
    Def P w K mg base 2 "_law_char" ["box"] spChar := by
  refine Def.mk0 F sc_law_char (by first | exact NF.hl_spB | exact NF.hl_spP | exact NF.hl_spNew | exact hl_spChar) (fun _ _ _ _ _ _ us hl => match us, hl with | [_], _ => rfl) (fun cdv A outer s H vs Q E hr h => ?_)
  refine ⟨_, (pss_cons (ps_if (pt_cmpR op_gt (pe_d D_law_draw (hr.mono (by decide)) rfl (pa_cons (pv 0) (pa_cons pe_int pa_nil))) pe_int (nomark _))
      (pss_one (ps_ret (pe_ix ix_str pe_str (pe_d D_law_draw (hr.mono (by decide)) rfl (pa_cons (pv 0) (pa_cons pe_int pa_nil))) (fun _ _ => rfl))))
      pss_nil)
      (pss_cons (ps_set (i := 1) sc_law_char.nd rfl (Or.inl rfl) pe_str)
      (pss_cons (ps_set (i := 1) sc_law_char.nd rfl (Or.inl rfl) (pe_op opAddS (pv 1) pe_str))
      (pss_one (ps_ret (pe_ix ix_str (pv 1) (pe_d D_law_draw (hr.mono (by decide)) rfl (pa_cons (pv 0) (pa_cons pe_int pa_nil))) (fun _ _ => rfl))))))), ?_⟩
  try dsimp only [cxOf, Cx.nox, Cx.wish]
  obtain ⟨a, A, M, rest, rfl, hl, hB, O, _, k⟩ := h
  obtain rfl := List.length_eq_zero_iff.mp hl
  walk_at "go"
  refine x_draw O hB (by decide) (by decide) fun d H1 M1 d0 d1 hB O => ?_
  walk_at "go"
  refine NF.x_ite (fun h0 => ?_) (fun h0 => ?_)
  · walk_at "go"
    refine x_draw O hB (by decide) (by decide) fun d H2 M2 d0 d1 hB O => ?_
    walk_at "go"
    refine NF.x_ixSo d0 (by rw [show (Str.ofString "abcdefghABCDEFGH").length = 16 by decide +kernel]; exact d1) (by decide +kernel) fun c _ hc hm => ?_
    exact k _ _ _ hB O ⟨_, rfl, c, rfl⟩
  · walk_at "go"
    refine x_draw O hB (by decide) (by decide) fun d H2 M2 d0 d1 hB O => ?_
    walk_at "go"
    refine NF.x_ixSo d0 (by rw [len_app, show (Str.ofString " !\"#$&'()*+,-./0123456789:;<=>?@ABCDEFGHIJKLMNOPQRSTUVWXYZ[\\]^_`").length = 64 by decide +kernel, show (Str.ofString "abcdefghijklmnopqrstuvwxyz{|}~\n\t").length = 32 by decide +kernel]; omega) (by decide +kernel) fun c _ hc hm => ?_
    exact k _ _ _ hB O ⟨_, rfl, c, rfl⟩


def spNested : Sp := spTx 1 (fun r => ∃ many : Int, r = [.int many] ∧ 0 ≤ many ∧ many ≤ 1000) (fun r z => ∃ many : Int, r = [.int many] ∧ Nst (tl z) ∧ (z.length : Int) = 2 * many)
abbrev NM_law_nested : List Str := ["box", "many", "shape", "few", "first", "letters", "opened", "k", "room", "ups", "up", "name"]
theorem sc_law_nested : FnScope NM_law_nested ["box", "many"] (defScope s_law_nested) := ⟨rfl, rfl, rfl, by decide +kernel, rfl, by decide +kernel, by decide +kernel⟩
theorem d_law_nested (F : Fn0 K mg "_law_nested" s_law_nested) (T : Txt K mg) (D_law_draw : Def P w K mg base 1 "_law_draw" ["box", "many"] spDraw) :
    Def P w K mg base 2 "_law_nested" ["box", "many"] spNested := by
  refine Def.mk0 F sc_law_nested (by first | exact NF.hl_spB | exact NF.hl_spP | exact NF.hl_spNew | exact hl_spNested) (fun _ _ _ _ _ _ us hl => match us, hl with | [_, _], _ => rfl) (fun cdv A outer s H vs Q E hr h => ?_)
  refine ⟨_, (pss_cons (ps_set (i := 2) sc_law_nested.nd rfl (Or.inl rfl) (pe_d D_law_draw (hr.mono (by decide)) rfl (pa_cons (pv 0) (pa_cons pe_int pa_nil))))
      (pss_cons (ps_set (i := 3) sc_law_nested.nd rfl (Or.inl rfl) (pe_ix ix_list (pe_lst (pa_cons pe_int (pa_cons pe_int (pa_cons pe_int pa_nil)))) (pe_d D_law_draw (hr.mono (by decide)) rfl (pa_cons (pv 0) (pa_cons pe_int pa_nil))) (fun _ _ => rfl)))
      (pss_cons (ps_set (i := 4) sc_law_nested.nd rfl (Or.inl rfl) (pe_d D_law_draw (hr.mono (by decide)) rfl (pa_cons (pv 0) (pa_cons pe_int pa_nil))))
      (pss_cons (ps_set (i := 5) sc_law_nested.nd rfl (Or.inl rfl) (pe_lst pa_nil))
      (pss_cons (ps_set (i := 6) sc_law_nested.nd rfl (Or.inl rfl) (pe_lst pa_nil))
      (pss_cons (ps_for PassesOwn.never rfl (pi_range1 (by rfl) T.b_range (pa_cons (pv 1) pa_nil)) (pg_name (i := 7) sc_law_nested.nd rfl (Or.inl rfl))
      (pss_cons (ps_set (i := 8) sc_law_nested.nd rfl (Or.inl rfl) (pe_callB (id := "len") callLen (by rfl) T.b_len (by decide +kernel) (pa_cons (pv 6) pa_nil)))
      (pss_cons (ps_set (i := 9) sc_law_nested.nd rfl (Or.inl rfl) (pe_d D_law_draw (hr.mono (by decide)) rfl (pa_cons (pv 0) (pa_cons (pe_op op_add (pv 8) pe_int) pa_nil))))
      (Evl.pss_cut (ps_if (pt_cmpR op_eq (pv 2) pe_int (nomark _))
      (pss_one (ps_set (i := 9) sc_law_nested.nd rfl (Or.inl rfl) (pe_callB (id := "min") (callMin2 rfl) (by rfl) T.b_min (by decide +kernel) (pa_cons (pv 9) (pa_cons (pe_d D_law_draw (hr.mono (by decide)) rfl (pa_cons (pv 0) (pa_cons (pe_op op_add (pv 8) pe_int) pa_nil))) pa_nil)))))
      pss_nil)
      (Evl.pss_cut (ps_if (pt_cmpR op_eq (pv 2) pe_int (nomark _))
      (pss_one (ps_set (i := 9) sc_law_nested.nd rfl (Or.inl rfl) (pe_callB (id := "max") (callMax2 rfl) (by rfl) T.b_max (by decide +kernel) (pa_cons (pv 9) (pa_cons (pe_d D_law_draw (hr.mono (by decide)) rfl (pa_cons (pv 0) (pa_cons (pe_op op_add (pv 8) pe_int) pa_nil))) pa_nil)))))
      pss_nil)
      (pss_cons (ps_for PassesOwn.never rfl (pi_range1 (by rfl) T.b_range (pa_cons (pv 9) pa_nil)) (pg_name (i := 10) sc_law_nested.nd rfl (Or.inl rfl))
      (pss_one (ps_expr (pe_bm PySem.F.plainAttrs_list PySem.F.slot_list_append PySem.F.type_list_append mt_append (pv 5) (pa_cons (pe_bm0 PySem.F.plainAttrs_list PySem.F.slot_list_pop PySem.F.type_list_pop mt_pop (pv 6)) pa_nil)))))
      (pss_cons (ps_set (i := 11) sc_law_nested.nd rfl (Or.inl rfl) (pe_ix ix_str pe_str (pe_op op_mod (pe_callTy (T := "int") callInt (by rfl) T.b_int (by decide +kernel) (pa_cons (pe_op op_add (pv 4) (pe_d D_law_draw (hr.mono (by decide)) rfl (pa_cons (pv 0) (pa_cons (pv 3) pa_nil)))) pa_nil)) pe_int) (fun _ _ => rfl)))
      (pss_cons (ps_expr (pe_bm PySem.F.plainAttrs_list PySem.F.slot_list_append PySem.F.type_list_append mt_append (pv 5) (pa_cons (pv 11) pa_nil)))
      (pss_one (ps_expr (pe_bm PySem.F.plainAttrs_list PySem.F.slot_list_append PySem.F.type_list_append mt_append (pv 6) (pa_cons (pe_bm0 PySem.F.plainAttrs_str PySem.F.slot_str_upper PySem.F.type_str_upper mtUpper (pv 11)) pa_nil))))))))))))
      (pss_cons (ps_for PassesOwn.never rfl (pi_range1 (by rfl) T.b_range (pa_cons (pe_callB (id := "len") callLen (by rfl) T.b_len (by decide +kernel) (pa_cons (pv 6) pa_nil)) pa_nil)) (pg_name (i := 10) sc_law_nested.nd rfl (Or.inl rfl))
      (pss_one (ps_expr (pe_bm PySem.F.plainAttrs_list PySem.F.slot_list_append PySem.F.type_list_append mt_append (pv 5) (pa_cons (pe_bm0 PySem.F.plainAttrs_list PySem.F.slot_list_pop PySem.F.type_list_pop mt_pop (pv 6)) pa_nil)))))
      (pss_one (ps_ret (pe_bm PySem.F.plainAttrs_str PySem.F.slot_str_join PySem.F.type_str_join mtJoin pe_str (pa_cons (pv 5) pa_nil))))))))))), ?_⟩
  try dsimp only [cxOf, Cx.nox, Cx.wish]
  obtain ⟨a, A, M, rest, rfl, hl, hB, O, ⟨many, rfl, hm0, hm1⟩, k⟩ := h
  walk_at "go"
  refine x_draw O hB (by decide) (by decide) fun shape H1 M1 d0 d1 hB O => ?_
  walk_at "gw"
  refine NF.x_newL O (by decide +kernel) fun p8 H1 hp8 O => ?_
  walk_at "nO"
  walk_at "go"
  refine x_draw O hB (by decide) (by decide) fun d2 H1 M1 d0 d1 hB O => ?_
  walk_at "go"
  refine NF.x_ixLo (O.get 0 rfl) d0 (by exact d1) fun v hv hm => ?_
  obtain ⟨few, rfl, hf0, hf1⟩ : ∃ few, v = V.int few ∧ 0 < few ∧ few ≤ 8 := by
    simp only [List.mem_cons, List.not_mem_nil, or_false] at hm
    rcases hm with rfl | rfl | rfl <;> exact ⟨_, rfl, by decide, by decide⟩
  clear hm hv
  walk_at "go"
  refine x_draw O hB (by decide) (by decide) fun first H1 M1 d0 d1 hB O => ?_
  walk_at "gw"
  refine NF.x_newL O (by decide +kernel) fun pl H1 hpl O => ?_
  walk_at "nO"
  walk_at "go"
  refine NF.f_rng1 ⟨by omega, by omega⟩ (fun i σ H' => ∃ (u7 u8 u9 u10 u11 : Option V) (M' : List (Addr × HO)) (ls os : List Nat), σ = [some (.ref a), some (.int many), some (.int shape), some (.int few), some (.int first), some (.ref pl), some (.ref p), u7, u8, u9, u10, u11] ∧
    In BxD a A M' ∧ Own H H' M' [(p8, .lst [.int 8, .int 2, .int 1]), (pl, .lst (ls.map ch)), (p, .lst (os.map ch))] ∧ NestI ls os (2 * i)) ⟨_, _, _, _, _, _, [], [], rfl, hB, O, NestI.nil⟩ ?_ ?_
  · rintro i _ H2 hi ⟨u7, u8, u9, u10, u11, M2, ls, os, rfl, hB, O, hN⟩
    have hlen : ls.length + os.length = 2 * i := hN.2.2
    walk_at "go"
    simp only [List.length_map]
    refine x_draw O hB (by omega) (by omega) fun ups H3 M3 d0 d1 hB O => ?_
    walk_at "go"
    refine NF.x_cut (fun σ H' => ∃ (ups : Int) (M' : List (Addr × HO)), σ = [some (.ref a), some (.int many), some (.int shape), some (.int few), some (.int first), some (.ref pl), some (.ref p), some (.int i), some (.int os.length), some (.int ups), u10, u11] ∧
      In BxD a A M' ∧ Own H H' M' [(p8, .lst [.int 8, .int 2, .int 1]), (pl, .lst (ls.map ch)), (p, .lst (os.map ch))] ∧ 0 ≤ ups ∧ ups ≤ os.length) ?_ ?_
    · walk_at "go"
      refine NF.x_iteI (fun h0 => ?_) (fun h0 => ?_)
      · walk_at "go"
        refine x_draw O hB (by omega) (by omega) fun d H3 M3 e0 e1 hB O => ?_
        walk_at "go"
        refine ⟨_, _, rfl, hB, O, ?_, ?_⟩ <;> (split <;> omega)
      · walk_at "go"
        exact ⟨_, _, rfl, hB, O, d0, by omega⟩
    · rintro _ H3 ⟨ups, M3, rfl, hB, O, d0, d1⟩
      walk_at "go"
      refine NF.x_cut (fun σ H' => ∃ (ups : Int) (M' : List (Addr × HO)), σ = [some (.ref a), some (.int many), some (.int shape), some (.int few), some (.int first), some (.ref pl), some (.ref p), some (.int i), some (.int os.length), some (.int ups), u10, u11] ∧
        In BxD a A M' ∧ Own H H' M' [(p8, .lst [.int 8, .int 2, .int 1]), (pl, .lst (ls.map ch)), (p, .lst (os.map ch))] ∧ 0 ≤ ups ∧ ups ≤ os.length) ?_ ?_
      · walk_at "go"
        refine NF.x_iteI (fun h0 => ?_) (fun h0 => ?_)
        · walk_at "go"
          refine x_draw O hB (by omega) (by omega) fun d H3 M3 e0 e1 hB O => ?_
          walk_at "go"
          refine ⟨_, _, rfl, hB, O, ?_, ?_⟩ <;> (split <;> omega)
        · walk_at "go"
          exact ⟨_, _, rfl, hB, O, d0, d1⟩
      · rintro _ H3 ⟨ups, M3, rfl, hB, O, d0, d1⟩
        walk_at "go"
        refine NF.f_rng1 ⟨by omega, by omega⟩ (fun j σ H' => ∃ (u10 : Option V) (ls' os' : List Nat), σ = [some (.ref a), some (.int many), some (.int shape), some (.int few), some (.int first), some (.ref pl), some (.ref p), some (.int i), some (.int os.length), some (.int ups), u10, u11] ∧
          Own H H' M3 [(p8, .lst [.int 8, .int 2, .int 1]), (pl, .lst (ls'.map ch)), (p, .lst (os'.map ch))] ∧ NestI ls' os' (2 * i) ∧ os'.length + j = os.length) ⟨_, ls, os, rfl, O, hN, rfl⟩ ?_ ?_
        · rintro j _ H4 hj ⟨u10, ls', os', rfl, O, hN', hl'⟩
          obtain ⟨os', c, rfl⟩ := snoc_of (l := os') (by omega)
          have hln : ls'.length + (os' ++ [c]).length = 2 * i := hN'.2.2
          walk_at "go"
          refine NF.x_popC O 2 rfl fun H5 O => ?_
          walk_at "go"
          rw [map_snoc] at O
          rw [List.length_append, List.length_singleton] at hl'
          exact ⟨_, _, _, rfl, O, hN'.pop, by omega⟩
        · rintro _ H4 ⟨u10, ls', os', rfl, O, hN', hl'⟩
          have hln : ls'.length + os'.length = 2 * i := hN'.2.2
          walk_at "go"
          refine x_draw O hB (by omega) (by omega) fun d H5 M5 e0 e1 hB O => ?_
          walk_at "go"
          have q := mod_hi (i := first + d) (j := 8) (by decide)
          refine NF.x_ixSo q.1 (by rw [len_names]; exact q.2) (by rw [len_names]; decide) fun c _ _ hc => ?_
          rw [tl_names, mem_lo] at hc
          walk_at "go"
          rw [upper_lo hc, map_snoc, map_snoc] at O
          exact ⟨_, _, _, _, _, _, _, _, rfl, hB, O, hN'.push hc⟩
  · rintro _ H2 ⟨u7, u8, u9, u10, u11, M2, ls, os, rfl, hB, O, hN⟩
    have hlen : ls.length + os.length = 2 * many.toNat := hN.2.2
    walk_at "go"
    simp only [List.length_map]
    refine NF.f_rng1 ⟨by omega, by omega⟩ (fun j σ H' => ∃ (u10 : Option V) (ls' os' : List Nat), σ = [some (.ref a), some (.int many), some (.int shape), some (.int few), some (.int first), some (.ref pl), some (.ref p), u7, u8, u9, u10, u11] ∧
      Own H H' M2 [(p8, .lst [.int 8, .int 2, .int 1]), (pl, .lst (ls'.map ch)), (p, .lst (os'.map ch))] ∧ NestI ls' os' (2 * many.toNat) ∧ os'.length + j = os.length) ⟨_, ls, os, rfl, O, hN, rfl⟩ ?_ ?_
    · rintro j _ H4 hj ⟨u10, ls', os', rfl, O, hN', hl'⟩
      obtain ⟨os', c, rfl⟩ := snoc_of (l := os') (by omega)
      have hln : ls'.length + (os' ++ [c]).length = 2 * many.toNat := hN'.2.2
      walk_at "go"
      refine NF.x_popC O 2 rfl fun H5 O => ?_
      walk_at "go"
      rw [map_snoc] at O
      rw [List.length_append, List.length_singleton] at hl'
      exact ⟨_, _, _, rfl, O, hN'.pop, by omega⟩
    · rintro _ H4 ⟨u10, ls', os', rfl, O, hN', hl'⟩
      obtain rfl : os' = [] := List.length_eq_zero_iff.mp (by omega)
      have hd := hN'.done
      walk_at "go"
      refine NF.x_join ls' (O.get 1 rfl) (by omega) ?_
      exact k _ _ _ hB (O.drop fun x hx => by
        simp only [List.mem_cons, List.not_mem_nil, or_false] at hx
        rcases hx with rfl | rfl | rfl <;> assumption) ⟨_, rfl, many, rfl, hd.1, by rw [len_mk]; omega⟩


theorem len16 : (Str.ofString "abcdefghABCDEFGH").length = 16 := by decide +kernel
theorem tl16 : tl (Str.ofString "abcdefghABCDEFGH") = [97, 98, 99, 100, 101, 102, 103, 104, 65, 66, 67, 68, 69, 70, 71, 72] := by rw [tl_ofString]; decide +kernel
/-- one of the sixteen letters -/
def isL (c : Nat) : Prop := (97 ≤ c ∧ c ≤ 104) ∨ (65 ≤ c ∧ c ≤ 72)
theorem mem16 {c : Nat} (h : c ∈ tl (Str.ofString "abcdefghABCDEFGH")) : isL c := by
  rw [tl16] at h
  simp only [List.mem_cons, List.not_mem_nil, or_false] at h
  unfold isL
  omega
def spLong : Sp := spTx 1 (fun r => ∃ z, r = [.str z] ∧ z.length ≤ 40) (fun r z => z.length ≤ 10000)
abbrev NM_law_long : List Str := ["box", "text", "rest", "part", "deep", "name", "other"]
theorem sc_law_long : FnScope NM_law_long ["box", "text"] (defScope s_law_long) := ⟨rfl, rfl, rfl, by decide +kernel, rfl, by decide +kernel, by decide +kernel⟩
theorem d_law_long (F : Fn0 K mg "_law_long" s_law_long) (T : Txt K mg) (D_law_draw : Def P w K mg base 1 "_law_draw" ["box", "many"] spDraw) :
    Def P w K mg base 2 "_law_long" ["box", "text"] spLong := by
  refine Def.mk0 F sc_law_long (by first | exact NF.hl_spB | exact NF.hl_spP | exact NF.hl_spNew | exact hl_spLong) (fun _ _ _ _ _ _ us hl => match us, hl with | [_, _], _ => rfl) (fun cdv A outer s H vs Q E hr h => ?_)
  refine ⟨_, (pss_cons (ps_set (i := 2) sc_law_long.nd rfl (Or.inl rfl) (pe_op op_sub (pe_op op_add pe_int (pe_d D_law_draw (hr.mono (by decide)) rfl (pa_cons (pv 0) (pa_cons pe_int pa_nil)))) (pe_op op_fdivW (pe_callB (id := "len") callLen (by rfl) T.b_len (by decide +kernel) (pa_cons (pv 1) pa_nil)) pe_int)))
      (pss_cons (ps_set (i := 3) sc_law_long.nd rfl (Or.inl rfl) (pe_d D_law_draw (hr.mono (by decide)) rfl (pa_cons (pv 0) (pa_cons (pe_op op_add (pv 2) pe_int) pa_nil))))
      (pss_cons (ps_set (i := 4) sc_law_long.nd rfl (Or.inl rfl) (pe_ix ix_list (pe_lst (pa_cons (pv 2) (pa_cons pe_int (pa_cons (pv 3) pa_nil)))) (pe_d D_law_draw (hr.mono (by decide)) rfl (pa_cons (pv 0) (pa_cons pe_int pa_nil))) (fun _ _ => rfl)))
      (pss_cons (ps_set (i := 5) sc_law_long.nd rfl (Or.inl rfl) (pe_ix ix_str pe_str (pe_d D_law_draw (hr.mono (by decide)) rfl (pa_cons (pv 0) (pa_cons pe_int pa_nil))) (fun _ _ => rfl)))
      (pss_cons (ps_set (i := 6) sc_law_long.nd rfl (Or.inl rfl) (pe_ix ix_str pe_str (pe_d D_law_draw (hr.mono (by decide)) rfl (pa_cons (pv 0) (pa_cons pe_int pa_nil))) (fun _ _ => rfl)))
      (pss_one (ps_ret (pe_op opAddS (pe_op opAddS (pe_op opAddS (pe_op opMulS (pv 5) (pv 4)) (pv 1)) (pe_op opMulS (pe_bm0 PySem.F.plainAttrs_str PySem.F.slot_str_upper PySem.F.type_str_upper mtUpper (pv 5)) (pv 4))) (pe_op opMulS (pe_op opAddS (pv 6) (pe_bm0 PySem.F.plainAttrs_str PySem.F.slot_str_upper PySem.F.type_str_upper mtUpper (pv 6))) (pe_op op_sub (pv 2) (pv 4))))))))))), ?_⟩
  try dsimp only [cxOf, Cx.nox, Cx.wish]
  obtain ⟨a, A, M, rest, rfl, hl, hB, O, ⟨z, rfl, hz⟩, k⟩ := h
  walk_at "go"
  refine x_draw O hB (by decide) (by decide) fun d H1 M1 d0 d1 hB O => ?_
  walk_at "go"
  obtain ⟨rest, er, hr0, hr1⟩ : ∃ rest : Int, rest = 960 + d - (z.length : Int) / 2 ∧ 900 ≤ rest ∧ rest ≤ 1100 := ⟨_, rfl, by omega, by omega⟩
  rw [← er]
  refine x_draw O hB (by omega) (by omega) fun part H1 M1 p0 p1 hB O => ?_
  walk_at "gw"
  refine NF.x_newL O (by walk_at "len") fun pa H1 hpa O => ?_
  walk_at "nO"
  walk_at "go"
  refine x_draw O hB (by decide) (by decide) fun d2 H1 M1 d20 d21 hB O => ?_
  walk_at "go"
  refine NF.x_ixLo (O.get 0 rfl) d20 (by exact d21) fun v hv hm => ?_
  obtain ⟨deep, rfl, hf0, hf1⟩ : ∃ deep, v = V.int deep ∧ 0 ≤ deep ∧ deep ≤ rest := by
    simp only [List.mem_cons, List.not_mem_nil, or_false] at hm
    rcases hm with rfl | rfl | rfl
    · exact ⟨_, rfl, by omega, by omega⟩
    · exact ⟨_, rfl, by omega, by omega⟩
    · exact ⟨_, rfl, by omega, by omega⟩
  walk_at "go"
  refine x_draw O hB (by decide) (by decide) fun d3 H1 M1 d30 d31 hB O => ?_
  walk_at "go"
  refine NF.x_ixSo d30 (by rw [len_names]; exact d31) (by rw [len_names]; decide) fun c _ _ hc => ?_
  rw [tl_names, mem_lo] at hc
  walk_at "go"
  refine x_draw O hB (by decide) (by decide) fun d4 H1 M1 d40 d41 hB O => ?_
  walk_at "go"
  refine NF.x_ixSo d40 (by rw [len_names]; exact d41) (by rw [len_names]; decide) fun c2 _ _ hc2 => ?_
  rw [tl_names, mem_lo] at hc2
  walk_at "go"
  have l1 := len_mul ⟨#[c]⟩ deep
  have l2 := len_mul ⟨#[c - 32]⟩ deep
  have l3 := len_mul ((⟨#[c2]⟩ : Str) ++ ⟨#[c2 - 32]⟩) (rest - deep)
  simp only [len_app, len_ch] at l1 l2 l3
  refine NF.x_mulS (by rw [len_ch]; decide) (by omega) (by omega) (by rw [len_ch, sizeLine_eq]; omega) ?_
  walk_at "go"
  rw [upper_lo hc]
  refine NF.x_mulS (by rw [len_ch]; decide) (by omega) (by omega) (by rw [len_ch, sizeLine_eq]; omega) ?_
  walk_at "go"
  rw [upper_lo hc2]
  walk_at "go"
  refine NF.x_mulS (by rw [len_app, len_ch, len_ch]; decide) (by omega) (by omega) (by rw [len_app, len_ch, len_ch, sizeLine_eq]; omega) ?_
  walk_at "go"
  refine k _ _ _ hB (O.drop fun x hx => ?_) ⟨_, rfl, ?_⟩
  · rw [List.mem_singleton.mp hx]; exact hpa
  · simp only [len_app]
    omega

def spBent : Sp := spTx 1 (fun r => ∃ z, r = [.str z] ∧ z.length ≤ 100000) (fun r z' => ∃ z, r = [.str z] ∧ z'.length ≤ 4 * z.length + 1)
abbrev NM_law_bent_text : List Str := ["box", "text", "way", "place", "char"]
theorem sc_law_bent_text : FnScope NM_law_bent_text ["box", "text"] (defScope s_law_bent_text) := ⟨rfl, rfl, rfl, by decide +kernel, rfl, by decide +kernel, by decide +kernel⟩
theorem d_law_bent_text (F : Fn0 K mg "_law_bent_text" s_law_bent_text) (T : Txt K mg) (D_law_draw : Def P w K mg base 1 "_law_draw" ["box", "many"] spDraw) (D_law_char : Def P w K mg base 2 "_law_char" ["box"] spChar) :
    Def P w K mg base 3 "_law_bent_text" ["box", "text"] spBent := by
  refine Def.mk0 F sc_law_bent_text (by first | exact NF.hl_spB | exact NF.hl_spP | exact NF.hl_spNew | exact hl_spBent) (fun _ _ _ _ _ _ us hl => match us, hl with | [_, _], _ => rfl) (fun cdv A outer s H vs Q E hr h => ?_)
  refine ⟨_, (pss_cons (ps_set (i := 2) sc_law_bent_text.nd rfl (Or.inl rfl) (pe_d D_law_draw (hr.mono (by decide)) rfl (pa_cons (pv 0) (pa_cons pe_int pa_nil))))
      (pss_cons (ps_set (i := 3) sc_law_bent_text.nd rfl (Or.inl rfl) (pe_d D_law_draw (hr.mono (by decide)) rfl (pa_cons (pv 0) (pa_cons (pe_op op_add (pe_callB (id := "len") callLen (by rfl) T.b_len (by decide +kernel) (pa_cons (pv 1) pa_nil)) pe_int) pa_nil))))
      (pss_cons (ps_set (i := 4) sc_law_bent_text.nd rfl (Or.inl rfl) (pe_d D_law_char (hr.mono (by decide)) rfl (pa_cons (pv 0) pa_nil)))
      (pss_cons (ps_if (pt_cmpR op_eq (pv 2) pe_int (nomark _))
      (pss_one (ps_ret (pe_op opAddS (pe_op opAddS (pe_slice sl_str (pv 1) po_none (po_some (pv 3))) (pv 4)) (pe_slice sl_str (pv 1) (po_some (pe_op op_add (pv 3) pe_int)) po_none))))
      pss_nil)
      (pss_cons (ps_if (pt_cmpR op_eq (pv 2) pe_int (nomark _))
      (pss_one (ps_ret (pe_op opAddS (pe_op opAddS (pe_slice sl_str (pv 1) po_none (po_some (pv 3))) (pv 4)) (pe_slice sl_str (pv 1) (po_some (pv 3)) po_none))))
      pss_nil)
      (pss_cons (ps_if (pt_cmpR op_eq (pv 2) pe_int (nomark _))
      (pss_one (ps_ret (pe_op opAddS (pe_slice sl_str (pv 1) po_none (po_some (pv 3))) (pe_slice sl_str (pv 1) (po_some (pe_op op_add (pv 3) pe_int)) po_none))))
      pss_nil)
      (pss_cons (ps_if (pt_cmpR op_eq (pv 2) pe_int (nomark _))
      (pss_one (ps_ret (pe_slice sl_str (pv 1) po_none (po_some (pv 3)))))
      pss_nil)
      (pss_cons (ps_if (pt_cmpR op_eq (pv 2) pe_int (nomark _))
      (pss_one (ps_ret (pe_op opAddS (pe_slice sl_str (pv 1) (po_some (pv 3)) po_none) (pe_slice sl_str (pv 1) po_none (po_some (pv 3))))))
      pss_nil)
      (pss_one (ps_ret (pe_op opAddS (pe_op opAddS (pe_op opAddS (pe_slice sl_str (pv 1) po_none (po_some (pv 3))) (pe_slice sl_str (pv 1) (po_some (pe_op op_add (pv 3) pe_int)) (po_some (pe_op op_add (pv 3) pe_int)))) (pe_slice sl_str (pv 1) (po_some (pv 3)) (po_some (pe_op op_add (pv 3) pe_int)))) (pe_slice sl_str (pv 1) (po_some (pe_op op_add (pv 3) pe_int)) po_none)))))))))))), ?_⟩
  try dsimp only [cxOf, Cx.nox, Cx.wish]
  obtain ⟨a, A, M, rest, rfl, hl, hB, O, ⟨z, rfl, hz⟩, k⟩ := h
  walk_at "go"
  refine x_draw O hB (by decide) (by decide) fun way H1 M1 w0 w1 hB O => ?_
  walk_at "go"
  refine x_draw O hB (by omega) (by omega) fun pl H1 M1 p0 p1 hB O => ?_
  walk_at "go"
  refine x_tx (E := E0) (rest := []) O hB rfl trivial fun z1 H1 M1 ⟨c, ec⟩ hB O => ?_
  subst ec
  have c1 := len_cut z none (some pl)
  have c2 := len_cut z (some (pl + 1)) none
  have c3 := len_cut z (some pl) none
  have c4 := len_cut z (some (pl + 1)) (some (pl + 2))
  have c5 := len_cut z (some pl) (some (pl + 1))
  have c6 := len_cut z (some (pl + 2)) none
  have fin : ∀ z', z'.length ≤ 4 * z.length + 1 → Q (.str z') H1 := fun z' h => k _ _ _ hB O ⟨_, rfl, z, rfl, h⟩
  walk_at "go"
  refine NF.x_iteI (fun h0 => ?_) (fun h0 => ?_)
  · walk_at "go"
    exact fin _ (by first | (simp only [len_app, len_ch]; omega) | omega)
  walk_at "go"
  refine NF.x_iteI (fun h0 => ?_) (fun h0 => ?_)
  · walk_at "go"
    exact fin _ (by first | (simp only [len_app, len_ch]; omega) | omega)
  walk_at "go"
  refine NF.x_iteI (fun h0 => ?_) (fun h0 => ?_)
  · walk_at "go"
    exact fin _ (by first | (simp only [len_app, len_ch]; omega) | omega)
  walk_at "go"
  refine NF.x_iteI (fun h0 => ?_) (fun h0 => ?_)
  · walk_at "go"
    exact fin _ (by first | (simp only [len_app, len_ch]; omega) | omega)
  walk_at "go"
  refine NF.x_iteI (fun h0 => ?_) (fun h0 => ?_)
  · walk_at "go"
    exact fin _ (by first | (simp only [len_app, len_ch]; omega) | omega)
  walk_at "go"
  exact fin _ (by first | (simp only [len_app, len_ch]; omega) | omega)


theorem mk_app (l m : List Nat) : (mkS l ++ mkS m : Str) = mkS (l ++ m) := ext_tl (by rw [tl_append])
def spString : Sp := spTx 0 (fun _ => True) (fun _ z => z.length ≤ 200000)
abbrev NM_law_string : List Str := ["box", "way", "many", "text", "k"]
theorem sc_law_string : FnScope NM_law_string ["box"] (defScope s_law_string) := ⟨rfl, rfl, rfl, by decide +kernel, rfl, by decide +kernel, by decide +kernel⟩
theorem d_law_string (F : Fn0 K mg "_law_string" s_law_string) (T : Txt K mg) (D_law_draw : Def P w K mg base 1 "_law_draw" ["box", "many"] spDraw) (D_law_nested : Def P w K mg base 2 "_law_nested" ["box", "many"] spNested) (D_law_long : Def P w K mg base 2 "_law_long" ["box", "text"] spLong) (D_law_bent_text : Def P w K mg base 3 "_law_bent_text" ["box", "text"] spBent) (D_law_char : Def P w K mg base 2 "_law_char" ["box"] spChar) :
    Def P w K mg base 4 "_law_string" ["box"] spString := by
  refine Def.mk0 F sc_law_string (by first | exact NF.hl_spB | exact NF.hl_spP | exact NF.hl_spNew | exact hl_spString) (fun _ _ _ _ _ _ us hl => match us, hl with | [_], _ => rfl) (fun cdv A outer s H vs Q E hr h => ?_)
  refine ⟨_, (pss_cons (ps_set (i := 1) sc_law_string.nd rfl (Or.inl rfl) (pe_d D_law_draw (hr.mono (by decide)) rfl (pa_cons (pv 0) (pa_cons pe_int pa_nil))))
      (pss_cons (ps_if (pt_cmpR op_eq (pv 1) pe_int (nomark _))
      (pss_cons (ps_set (i := 2) sc_law_string.nd rfl (Or.inl rfl) (pe_d D_law_draw (hr.mono (by decide)) rfl (pa_cons (pv 0) (pa_cons pe_int pa_nil))))
      (pss_one (ps_ret (pe_bm PySem.F.plainAttrs_str PySem.F.slot_str_join PySem.F.type_str_join mtJoin pe_str (pa_cons (pe_lc (own := [("k", 4)]) (g := gName 4) rfl sc_law_string.nd (pi_range1 (by rfl) T.b_range (pa_cons (pv 2) pa_nil)) (blkOk_by (own := [("k", 4)]) (N := NM_law_string) (sc := defScope s_law_string) (by decide +kernel)) (fun _ _ _ _ _ => pg_name (i := 4) sc_law_string.nd rfl (Or.inl rfl)) (fun _ _ _ _ _ => pts_nil) (fun _ _ _ _ _ => (pe_d D_law_char (hr.mono (by decide)) rfl (pa_cons (pv 0) pa_nil)))) pa_nil)))))
      pss_nil)
      (pss_cons (ps_set (i := 3) sc_law_string.nd rfl (Or.inl rfl) (pe_d D_law_nested (hr.mono (by decide)) rfl (pa_cons (pv 0) (pa_cons (pe_d D_law_draw (hr.mono (by decide)) rfl (pa_cons (pv 0) (pa_cons pe_int pa_nil))) pa_nil))))
      (Evl.pss_cut (ps_if (pt_cmpR op_eq (pv 1) pe_int (nomark _))
      (pss_one (ps_set (i := 3) sc_law_string.nd rfl (Or.inl rfl) (pe_d D_law_long (hr.mono (by decide)) rfl (pa_cons (pv 0) (pa_cons (pv 3) pa_nil)))))
      pss_nil)
      (pss_cons (ps_for PassesOwn.never rfl (pi_range1 (by rfl) T.b_range (pa_cons (pe_d D_law_draw (hr.mono (by decide)) rfl (pa_cons (pv 0) (pa_cons pe_int pa_nil))) pa_nil)) (pg_name (i := 4) sc_law_string.nd rfl (Or.inl rfl))
      (pss_one (ps_set (i := 3) sc_law_string.nd rfl (Or.inl rfl) (pe_d D_law_bent_text (hr.mono (by decide)) rfl (pa_cons (pv 0) (pa_cons (pv 3) pa_nil))))))
      (pss_one (ps_ret (pv 3)))))))), ?_⟩
  try dsimp only [cxOf, Cx.nox, Cx.wish]
  obtain ⟨a, A, M, rest, rfl, hl, hB, O, _, k⟩ := h
  obtain rfl := List.length_eq_zero_iff.mp hl
  walk_at "go"
  refine x_draw O hB (by decide) (by decide) fun way H1 M1 w0 w1 hB O => ?_
  walk_at "go"
  refine NF.x_iteI (fun h0 => ?_) (fun h0 => ?_)
  · walk_at "go"
    refine x_draw O hB (by decide) (by decide) fun many H1 M1 m0 m1 hB O => ?_
    walk_at "go"
    refine NF.lc_rng1 (by omega) O (fun i acc M' => In BxD a A M' ∧ ∃ l : List Nat, acc = l.map ch) ⟨hB, [], rfl⟩ ?_ ?_
    · rintro i H2 M2 p acc hi hl ⟨hB, l, rfl⟩ O
      walk_at "go"
      refine x_tx (E := E0) (rest := []) O hB rfl trivial fun z1 H1 M1 ⟨c, ec⟩ hB O => ?_
      subst ec
      exact lc_done O hl (by rw [sizeLine_eq]; omega) ⟨hB, l ++ [c], map_snoc l c⟩
    · rintro p H2 M2 acc hp hl ⟨hB, l, rfl⟩ O
      rw [List.length_map] at hl
      simp only [List.nil_append] at O
      walk_at "go"
      refine NF.x_join l (O.get 0 rfl) (by omega) ?_
      exact k _ _ _ hB (O.drop fun x hx => by rw [List.mem_singleton.mp hx]; exact hp) ⟨_, rfl, by show (mkS l).length ≤ 200000; rw [len_mk]; omega⟩
  · walk_at "go"
    refine x_draw O hB (by decide) (by decide) fun many H1 M1 m0 m1 hB O => ?_
    refine x_tx (E := E0) (rest := [.int many]) O hB rfl ⟨many, rfl, by omega, by omega⟩ fun z H1 M1 ⟨m2, e2, hn, hz⟩ hB O => ?_
    cases e2
    walk_at "go"
    refine NF.x_cut (fun σ H' => ∃ (u4 : Option V) (M' : List (Addr × HO)) (z : Str), σ = [some (.ref a), some (.int way), none, some (.str z), u4] ∧ In BxD a A M' ∧ Own H H' M' [] ∧ z.length ≤ 10000) ?_ ?_
    · walk_at "go"
      refine NF.x_iteI (fun h0 => ?_) (fun h0 => ?_)
      · walk_at "go"
        refine x_tx (E := E0) (rest := [.str z]) O hB rfl ⟨z, rfl, by omega⟩ fun z2 H1 M1 hz2 hB O => ?_
        walk_at "go"
        exact ⟨_, _, _, rfl, hB, O, hz2⟩
      · walk_at "go"
        exact ⟨_, _, _, rfl, hB, O, by omega⟩
    · rintro _ H2 ⟨u4, M2, z, rfl, hB, O, hz⟩
      walk_at "go"
      refine x_draw O hB (by decide) (by decide) fun d H1 M1 d0 d1 hB O => ?_
      refine NF.f_rng1 (by omega) (fun i σ H' => ∃ (u4 : Option V) (M' : List (Addr × HO)) (z : Str), σ = [some (.ref a), some (.int way), none, some (.str z), u4] ∧ In BxD a A M' ∧ Own H H' M' [] ∧ z.length + 1 ≤ 10001 * 4 ^ i + i) ⟨_, _, _, rfl, hB, O, by omega⟩ ?_ ?_
      · rintro i _ H2 hi ⟨u4, M2, z, rfl, hB, O, hz⟩
        have hb : z.length ≤ 100000 := by
          have : i = 0 ∨ i = 1 := by omega
          rcases this with rfl | rfl <;> omega
        walk_at "go"
        refine x_tx (E := E0) (rest := [.str z]) O hB rfl ⟨z, rfl, hb⟩ fun z2 H1 M1 ⟨z3, e3, hz2⟩ hB O => ?_
        cases e3
        walk_at "go"
        refine ⟨_, _, _, rfl, hB, O, ?_⟩
        rw [Nat.pow_succ]
        omega
      · rintro _ H2 ⟨u4, M2, z, rfl, hB, O, hz⟩
        walk_at "go"
        refine k _ _ _ hB O ⟨_, rfl, ?_⟩
        have : d.toNat = 0 ∨ d.toNat = 1 ∨ d.toNat = 2 := by omega
        rcases this with e | e | e <;> rw [e] at hz <;> omega

def spWord : Sp := spTx 0 (fun _ => True) (fun _ z => z.length ≤ 12 ∧ ∀ c ∈ tl z, isL c)
abbrev NM_law_word : List Str := ["box", "many", "k"]
theorem sc_law_word : FnScope NM_law_word ["box"] (defScope s_law_word) := ⟨rfl, rfl, rfl, by decide +kernel, rfl, by decide +kernel, by decide +kernel⟩
theorem d_law_word (F : Fn0 K mg "_law_word" s_law_word) (T : Txt K mg) (D_law_draw : Def P w K mg base 1 "_law_draw" ["box", "many"] spDraw) :
    Def P w K mg base 2 "_law_word" ["box"] spWord := by
  refine Def.mk0 F sc_law_word (by first | exact NF.hl_spB | exact NF.hl_spP | exact NF.hl_spNew | exact hl_spWord) (fun _ _ _ _ _ _ us hl => match us, hl with | [_], _ => rfl) (fun cdv A outer s H vs Q E hr h => ?_)
  refine ⟨_, (pss_cons (ps_set (i := 1) sc_law_word.nd rfl (Or.inl rfl) (pe_d D_law_draw (hr.mono (by decide)) rfl (pa_cons (pv 0) (pa_cons pe_int pa_nil))))
      (pss_one (ps_ret (pe_bm PySem.F.plainAttrs_str PySem.F.slot_str_join PySem.F.type_str_join mtJoin pe_str (pa_cons (pe_lc (own := [("k", 2)]) (g := gName 2) rfl sc_law_word.nd (pi_range1 (by rfl) T.b_range (pa_cons (pv 1) pa_nil)) (blkOk_by (own := [("k", 2)]) (N := NM_law_word) (sc := defScope s_law_word) (by decide +kernel)) (fun _ _ _ _ _ => pg_name (i := 2) sc_law_word.nd rfl (Or.inl rfl)) (fun _ _ _ _ _ => pts_nil) (fun _ _ _ _ _ => (pe_ix ix_str pe_str (pe_d D_law_draw (hr.mono (by decide)) rfl (pa_cons (pv 0) (pa_cons pe_int pa_nil))) (fun _ _ => rfl)))) pa_nil))))), ?_⟩
  try dsimp only [cxOf, Cx.nox, Cx.wish]
  obtain ⟨a, A, M, rest, rfl, hl, hB, O, _, k⟩ := h
  obtain rfl := List.length_eq_zero_iff.mp hl
  walk_at "go"
  refine x_draw O hB (by decide) (by decide) fun many H1 M1 m0 m1 hB O => ?_
  walk_at "go"
  refine NF.lc_rng1 (by omega) O (fun i acc M' => In BxD a A M' ∧ ∃ l : List Nat, acc = l.map ch ∧ ∀ c ∈ l, isL c) ⟨hB, [], rfl, fun _ h => absurd h List.not_mem_nil⟩ ?_ ?_
  · rintro i H2 M2 p acc hi hl ⟨hB, l, rfl, hL⟩ O
    walk_at "go"
    refine x_draw O hB (by decide) (by decide) fun d H1 M1 d0 d1 hB O => ?_
    refine NF.x_ixSo d0 (by rw [len16]; exact d1) (by rw [len16]; decide) fun c _ _ hc => ?_
    exact lc_done O hl (by rw [sizeLine_eq]; omega) ⟨hB, l ++ [c], map_snoc l c, fun e he => by
      rcases List.mem_append.mp he with he | he
      · exact hL e he
      · rw [List.mem_singleton.mp he]; exact mem16 hc⟩
  · rintro p H2 M2 acc hp hl ⟨hB, l, rfl, hL⟩ O
    rw [List.length_map] at hl
    simp only [List.nil_append] at O
    walk_at "go"
    refine NF.x_join l (O.get 0 rfl) (by omega) ?_
    exact k _ _ _ hB (O.drop fun x hx => by rw [List.mem_singleton.mp hx]; exact hp) ⟨_, rfl, by rw [len_mk]; omega, hL⟩

theorem mem_cut {z : Str} {lo hi : Option Int} {c : Nat} (h : c ∈ tl (cutS z lo hi)) : c ∈ tl z := by
  rw [tl_cut] at h
  exact List.mem_of_mem_drop (List.mem_of_mem_take h)
def spOther : Sp := spTx 1 (fun r => ∃ z, r = [.str z] ∧ z.length ≤ 12 ∧ ∀ c ∈ tl z, isL c) (fun _ z => z.length ≤ 30 ∧ ∀ c ∈ tl z, isL c)
abbrev NM_law_other : List Str := ["box", "one", "way", "place", "letter"]
theorem sc_law_other : FnScope NM_law_other ["box", "one"] (defScope s_law_other) := ⟨rfl, rfl, rfl, by decide +kernel, rfl, by decide +kernel, by decide +kernel⟩
theorem d_law_other (F : Fn0 K mg "_law_other" s_law_other) (T : Txt K mg) (D_law_draw : Def P w K mg base 1 "_law_draw" ["box", "many"] spDraw) (D_law_word : Def P w K mg base 2 "_law_word" ["box"] spWord) :
    Def P w K mg base 3 "_law_other" ["box", "one"] spOther := by
  refine Def.mk0 F sc_law_other (by first | exact NF.hl_spB | exact NF.hl_spP | exact NF.hl_spNew | exact hl_spOther) (fun _ _ _ _ _ _ us hl => match us, hl with | [_, _], _ => rfl) (fun cdv A outer s H vs Q E hr h => ?_)
  refine ⟨_, (pss_cons (ps_set (i := 2) sc_law_other.nd rfl (Or.inl rfl) (pe_d D_law_draw (hr.mono (by decide)) rfl (pa_cons (pv 0) (pa_cons pe_int pa_nil))))
      (pss_cons (ps_set (i := 3) sc_law_other.nd rfl (Or.inl rfl) (pe_d D_law_draw (hr.mono (by decide)) rfl (pa_cons (pv 0) (pa_cons (pe_op op_add (pe_callB (id := "len") callLen (by rfl) T.b_len (by decide +kernel) (pa_cons (pv 1) pa_nil)) pe_int) pa_nil))))
      (pss_cons (ps_set (i := 4) sc_law_other.nd rfl (Or.inl rfl) (pe_ix ix_str pe_str (pe_d D_law_draw (hr.mono (by decide)) rfl (pa_cons (pv 0) (pa_cons pe_int pa_nil))) (fun _ _ => rfl)))
      (pss_cons (ps_if (PW.pt (pw_and (pt_cmpR op_lt (pv 2) pe_int (nomark _)) (pw_and1 (pt_cmpR op_lt (pv 3) (pe_callB (id := "len") callLen (by rfl) T.b_len (by decide +kernel) (pa_cons (pv 1) pa_nil)) (nomark _)))))
      (pss_one (ps_ret (pe_op opAddS (pe_op opAddS (pe_slice sl_str (pv 1) po_none (po_some (pv 3))) (pv 4)) (pe_slice sl_str (pv 1) (po_some (pe_op op_add (pv 3) pe_int)) po_none))))
      pss_nil)
      (pss_cons (ps_if (pt_cmpR op_eq (pv 2) pe_int (nomark _))
      (pss_one (ps_ret (pe_op opAddS (pe_op opAddS (pe_slice sl_str (pv 1) po_none (po_some (pv 3))) (pv 4)) (pe_slice sl_str (pv 1) (po_some (pv 3)) po_none))))
      pss_nil)
      (pss_cons (ps_if (pt_cmpR op_eq (pv 2) pe_int (nomark _))
      (pss_one (ps_ret (pe_op opAddS (pe_slice sl_str (pv 1) po_none (po_some (pv 3))) (pe_slice sl_str (pv 1) (po_some (pe_op op_add (pv 3) pe_int)) po_none))))
      pss_nil)
      (pss_cons (ps_if (pt_cmpR op_eq (pv 2) pe_int (nomark _))
      (pss_one (ps_ret (pe_op opAddS (pe_slice sl_str (pv 1) (po_some (pv 3)) po_none) (pe_slice sl_str (pv 1) po_none (po_some (pv 3))))))
      pss_nil)
      (pss_cons (ps_if (pt_cmpR op_eq (pv 2) pe_int (nomark _))
      (pss_one (ps_ret (pv 1)))
      pss_nil)
      (pss_one (ps_ret (pe_d D_law_word (hr.mono (by decide)) rfl (pa_cons (pv 0) pa_nil)))))))))))), ?_⟩
  try dsimp only [cxOf, Cx.nox, Cx.wish]
  obtain ⟨a, A, M, rest, rfl, hl, hB, O, ⟨z, rfl, hz, hL⟩, k⟩ := h
  walk_at "go"
  refine x_draw O hB (by decide) (by decide) fun way H1 M1 w0 w1 hB O => ?_
  walk_at "go"
  refine x_draw O hB (by omega) (by omega) fun pl H1 M1 p0 p1 hB O => ?_
  walk_at "go"
  refine x_draw O hB (by decide) (by decide) fun d H1 M1 d0 d1 hB O => ?_
  walk_at "go"
  refine NF.x_ixSo d0 (by rw [len16]; exact d1) (by rw [len16]; decide) fun c _ _ hc => ?_
  have hc := mem16 hc
  have c1 := len_cut z none (some pl)
  have c2 := len_cut z (some (pl + 1)) none
  have c3 := len_cut z (some pl) none
  have fin : ∀ z', z'.length ≤ 2 * z.length + 1 → (∀ e ∈ tl z', e ∈ tl z ∨ e = c) → Q (.str z') H1 := fun z' h h2 => k _ _ _ hB O ⟨_, rfl, by omega, fun e he => by
    rcases h2 e he with h | rfl
    · exact hL e h
    · exact hc⟩
  have m1 : ∀ lo hi e, e ∈ tl (cutS z lo hi) → e ∈ tl z := fun lo hi e h => mem_cut h
  have mc : ∀ e, e ∈ tl (⟨#[c]⟩ : Str) → e = c := fun e h => List.mem_singleton.mp h
  walk_at "gn"
  refine NF.x_andP (b1 := decide (way < 2)) (b2 := decide (pl < (z.length : Int))) (fun QT q => by walk_at "gn"; exact q) (fun _ QT q => by walk_at "gn"; exact q) ?_
  refine NF.x_itb (fun h0 => ?_) (fun h0 => ?_)
  · walk_at "go"
    refine fin _ (by simp only [len_app, len_ch]; omega) fun e he => ?_
    simp only [tl_append, List.mem_append] at he
    rcases he with (he | he) | he
    · exact .inl (m1 _ _ e he)
    · exact .inr (mc e he)
    · exact .inl (m1 _ _ e he)
  walk_at "go"
  refine NF.x_iteI (fun h0 => ?_) (fun h0 => ?_)
  · walk_at "go"
    refine fin _ (by simp only [len_app, len_ch]; omega) fun e he => ?_
    simp only [tl_append, List.mem_append] at he
    rcases he with (he | he) | he
    · exact .inl (m1 _ _ e he)
    · exact .inr (mc e he)
    · exact .inl (m1 _ _ e he)
  walk_at "go"
  refine NF.x_iteI (fun h0 => ?_) (fun h0 => ?_)
  · walk_at "go"
    refine fin _ (by simp only [len_app, len_ch]; omega) fun e he => ?_
    simp only [tl_append, List.mem_append] at he
    rcases he with he | he
    · exact .inl (m1 _ _ e he)
    · exact .inl (m1 _ _ e he)
  walk_at "go"
  refine NF.x_iteI (fun h0 => ?_) (fun h0 => ?_)
  · walk_at "go"
    refine fin _ (by simp only [len_app, len_ch]; omega) fun e he => ?_
    simp only [tl_append, List.mem_append] at he
    rcases he with he | he
    · exact .inl (m1 _ _ e he)
    · exact .inl (m1 _ _ e he)
  walk_at "go"
  refine NF.x_iteI (fun h0 => ?_) (fun h0 => ?_)
  · walk_at "go"
    exact fin _ (by omega) fun e he => .inl he
  walk_at "go"
  refine x_tx (E := E0) (rest := []) O hB rfl trivial fun z1 H1 M1 ⟨hz1, hL1⟩ hB O => ?_
  exact k _ _ _ hB O ⟨_, rfl, by omega, hL1⟩


/-- a fault as a value -/
def fv : Option Nat → V
  | none => .non
  | some n => .int (n : Int)
theorem tl_ups : tl (Str.ofString "ABCDEFGH") = [65, 66, 67, 68, 69, 70, 71, 72] := by rw [tl_ofString]; decide +kernel
theorem tl_at {z : Str} {i c : Nat} (h : z.cps[i]? = some c) : (tl z)[i]? = some c := by rw [Array.getElem?_toList]; exact h
theorem rev_ch (t : Nat) (ts : List Nat) : ((t :: ts).reverse.map ch) = ts.reverse.map ch ++ [ch t] := by rw [List.reverse_cons, List.map_append]; rfl
def spFault : Sp := spP 1 (fun vs => ∃ z, vs = [.str z] ∧ z.length ≤ 10000000) (fun vs v => ∃ z, vs = [.str z] ∧ v = fv (flt (tl z) 0 []))
abbrev NM_fault : List Str := ["text", "open_names", "at", "letter"]
theorem sc_fault : FnScope NM_fault ["text"] (defScope s_fault) := ⟨rfl, rfl, rfl, by decide +kernel, rfl, by decide +kernel, by decide +kernel⟩
theorem d_fault (F : Fn0 K mg "fault" s_fault) (T : Txt K mg)  :
    Def P w K mg base 1 "fault" ["text"] spFault := by
  refine Def.mk0 F sc_fault (by first | exact NF.hl_spB | exact NF.hl_spP | exact NF.hl_spNew | exact hl_spFault) (fun _ _ _ _ _ _ us hl => match us, hl with | [_], _ => rfl) (fun cdv A outer s H vs Q E hr h => ?_)
  refine ⟨_, (pss_cons (ps_set (i := 1) sc_fault.nd rfl (Or.inl rfl) (pe_lst pa_nil))
      (pss_cons (ps_for PassesOwn.never rfl (pi_enumS (by rfl) T.b_enumerate (pa_cons (pv 0) pa_nil)) (pg_tup (by rfl) (pgs_cons (pg_name (i := 2) sc_fault.nd rfl (Or.inl rfl)) (pgs_cons (pg_name (i := 3) sc_fault.nd rfl (Or.inl rfl)) pgs_nil)))
      (pss_one (ps_if (pt_cmpR opInC (pv 3) (pe_g rfl T.g_NAMES) (by rfl))
      (pss_one (ps_expr (pe_bm PySem.F.plainAttrs_list PySem.F.slot_list_append PySem.F.type_list_append mt_append (pv 1) (pa_cons (pv 3) pa_nil))))
      (pss_one (ps_if (PW.pt (pw_and (pt_cmpR opInC (pv 3) (pe_g rfl T.g_CLOSINGS) (by rfl)) (pw_and (ptTruth (pv 1) (by intro _; rfl)) (pw_and1 (pt_cmpR op_eq (pe_ix ix_list (pv 1) (pe_un un_neg pe_int) (fun _ _ => rfl)) (pe_bm0 PySem.F.plainAttrs_str PySem.F.slot_str_lower PySem.F.type_str_lower mtLower (pv 3)) (nomark _))))))
      (pss_one (ps_expr (pe_bm0 PySem.F.plainAttrs_list PySem.F.slot_list_pop PySem.F.type_list_pop mt_pop (pv 1))))
      (pss_one (ps_ret (pv 2))))))))
      (pss_cons (ps_if (ptTruth (pv 1) (by intro _; rfl))
      (pss_one (ps_ret (pe_callB (id := "len") callLen (by rfl) T.b_len (by decide +kernel) (pa_cons (pv 0) pa_nil))))
      pss_nil)
      (pss_one (ps_ret pe_non))))), ?_⟩
  try dsimp only [cxOf, Cx.nox, Cx.wish]
  obtain ⟨hl, ⟨z, rfl, hz⟩, k⟩ := h
  have O := NF.Own.refl0 H
  walk_at "gn"
  refine NF.x_newL O (by decide +kernel) fun p H1 hp O => ?_
  walk_at "nO"
  have fin : ∀ o H' R, flt (tl z) 0 [] = o → Own H H' [] [(p, R)] → Q (fv o) H' := fun o H' R e O' => k _ _ (O'.drop fun x hx => by rw [List.mem_singleton.mp hx]; exact hp) ⟨z, rfl, by rw [e]⟩
  walk_at "go"
  refine NF.f_enumS (fun i σ H' => ∃ (u2 u3 : Option V) (st : List Nat), σ = [some (.str z), some (.ref p), u2, u3] ∧ Own H H' [] [(p, .lst (st.reverse.map ch))] ∧ run ((tl z).take i) [] = some st ∧ st.length ≤ i ∧ i ≤ z.length) ⟨_, _, [], rfl, O, rfl, by decide, Nat.zero_le _⟩ ?_ ?_
  · rintro i c _ H2 H3 hc ⟨u2, u3, st, rfl, O, hr, hst, hi⟩ hO
    have O := hO _ _ _ O
    have hc := tl_at hc
    have hi : i < z.length := by rw [len_tl]; exact (List.getElem?_eq_some_iff.mp hc).1
    walk_at "go"
    refine NF.x_ite (fun h0 => ?_) (fun h0 => ?_)
    · rw [tl_names, mem_lo] at h0
      walk_at "go"
      exact ⟨_, _, c :: st, rfl, by rw [rev_ch]; exact O, run_lo1 hr hc h0, by rw [List.length_cons]; omega, by omega⟩
    · rw [tl_names, mem_lo] at h0
      have ret : ∀ H', (∀ t ts, st = t :: ts → c + 32 ≠ t) → Own H H' [] [(p, .lst (st.reverse.map ch))] → Q (.int (i : Int)) H' := fun H' h2 O' => fin (some i) H' _ (flt_stop hr hc h0 h2) O'
      walk_at "go"
      refine NF.x_ite (fun h1 => ?_) (fun h1 => ?_)
      · rw [tl_ups, mem_up] at h1
        walk_at "go"
        refine NF.x_itb (fun h2 => ?_) (fun h2 => ?_)
        · cases st with
          | nil => simp at h2
          | cons t ts =>
            rw [rev_ch] at O
            walk_at "go"
            refine' NF.x_ixL ?h (L2.atI_last _ _) ?_
            (case h => walk_at "own")
            walk_at "go"
            rw [lower_up h1]
            walk_at "go"
            refine NF.x_iteS (fun h3 => ?_) (fun h3 => ?_)
            · have e : t = c + 32 := by simpa using h3
              subst e
              walk_at "go"
              refine NF.x_pop O 0 rfl (v := ch (c + 32)) (by simp) fun H4 O => ?_
              rw [List.dropLast_concat] at O
              exact ⟨_, _, ts, rfl, O, run_up1 hr hc h0, by simp only [List.length_cons] at hst; omega, by omega⟩
            · walk_at "go"
              refine ret _ (fun t' ts' e => ?_) (by rw [rev_ch]; exact O)
              cases e
              exact fun q => h3 (by rw [q])
        · walk_at "go"
          refine ret _ (fun t' ts' e => ?_) O
          subst e
          simp at h2
      · rw [tl_ups, mem_up] at h1
        walk_at "go"
        refine ret _ (fun t' ts' e q => ?_) O
        have := run_lo hr (fun _ h => absurd h List.not_mem_nil) t' (by rw [e]; exact List.mem_cons_self ..)
        omega
  · rintro _ H2 ⟨u2, u3, st, rfl, O, hr, hst, hi⟩
    have e0 : z.cps.size = (tl z).length := by simp
    rw [e0] at hr
    have hr := flt_end hr
    walk_at "go"
    refine NF.x_itb (fun h2 => ?_) (fun h2 => ?_)
    · walk_at "go"
      have e : st ≠ [] := by intro e; subst e; simp at h2
      rw [if_neg e] at hr
      have := fin _ _ _ hr O
      rw [len_tl]
      exact this
    · walk_at "go"
      have e : st = [] := by simpa using h2
      rw [if_pos e] at hr
      exact fin _ _ _ hr O

def spIsN : Sp := spP 1 (fun vs => ∃ z, vs = [.str z] ∧ z.length ≤ 10000000) (fun vs v => ∃ z, vs = [.str z] ∧ v = .bl (decide (flt (tl z) 0 [] = none)))
abbrev NM_is_nested : List Str := ["text"]
theorem sc_is_nested : FnScope NM_is_nested ["text"] (defScope s_is_nested) := ⟨rfl, rfl, rfl, by decide +kernel, rfl, by decide +kernel, by decide +kernel⟩
theorem d_is_nested (F : Fn0 K mg "is_nested" s_is_nested) (T : Txt K mg) (D_fault : Def P w K mg base 1 "fault" ["text"] spFault) :
    Def P w K mg base 2 "is_nested" ["text"] spIsN := by
  refine Def.mk0 F sc_is_nested (by first | exact NF.hl_spB | exact NF.hl_spP | exact NF.hl_spNew | exact hl_spIsN) (fun _ _ _ _ _ _ us hl => match us, hl with | [_], _ => rfl) (fun cdv A outer s H vs Q E hr h => ?_)
  refine ⟨_, (pss_one (ps_ret (pe_cmpR opIsN (pe_d D_fault (hr.mono (by decide)) rfl (pa_cons (pv 0) pa_nil)) pe_non (nomark _)))), ?_⟩
  try dsimp only [cxOf, Cx.nox, Cx.wish]
  obtain ⟨hl, ⟨z, rfl, hz⟩, k⟩ := h
  have O := NF.Own.refl0 H
  walk_at "go"
  refine NF.use_spP (E := E0) O rfl ⟨z, rfl, hz⟩ fun v H1 O ⟨z2, e, ev⟩ => ?_
  cases e
  subst ev
  walk_at "go"
  refine k _ _ O ⟨z, rfl, ?_⟩
  cases e : flt (tl z) 0 [] <;> simp [fv]

abbrev NM_law_fault : List Str := ["text", "opened", "at"]
theorem sc_law_fault : FnScope NM_law_fault ["text"] (defScope s_law_fault) := ⟨rfl, rfl, rfl, by decide +kernel, rfl, by decide +kernel, by decide +kernel⟩
theorem d_law_fault (F : Fn0 K mg "_law_fault" s_law_fault) (T : Txt K mg)  :
    Def P w K mg base 1 "_law_fault" ["text"] spFault := by
  refine Def.mk0 F sc_law_fault (by first | exact NF.hl_spB | exact NF.hl_spP | exact NF.hl_spNew | exact hl_spFault) (fun _ _ _ _ _ _ us hl => match us, hl with | [_], _ => rfl) (fun cdv A outer s H vs Q E hr h => ?_)
  refine ⟨_, (pss_cons (ps_set (i := 1) sc_law_fault.nd rfl (Or.inl rfl) (pe_lst pa_nil))
      (pss_cons (ps_for PassesOwn.never rfl (pi_range1 (by rfl) T.b_range (pa_cons (pe_callB (id := "len") callLen (by rfl) T.b_len (by decide +kernel) (pa_cons (pv 0) pa_nil)) pa_nil)) (pg_name (i := 2) sc_law_fault.nd rfl (Or.inl rfl))
      (pss_one (ps_if (pt_cmpR opInC (pe_ix ix_str (pv 0) (pv 2) (fun _ _ => rfl)) pe_str (by rfl))
      (pss_one (ps_expr (pe_bm PySem.F.plainAttrs_list PySem.F.slot_list_append PySem.F.type_list_append mt_append (pv 1) (pa_cons (pe_bm0 PySem.F.plainAttrs_str PySem.F.slot_str_upper PySem.F.type_str_upper mtUpper (pe_ix ix_str (pv 0) (pv 2) (fun _ _ => rfl))) pa_nil))))
      (pss_one (ps_if (PW.pt (pw_and (pt_cmpR op_gt (pe_callB (id := "len") callLen (by rfl) T.b_len (by decide +kernel) (pa_cons (pv 1) pa_nil)) pe_int (nomark _)) (pw_and1 (pt_cmpR op_eq (pe_ix ix_list (pv 1) (pe_un un_neg pe_int) (fun _ _ => rfl)) (pe_ix ix_str (pv 0) (pv 2) (fun _ _ => rfl)) (nomark _)))))
      (pss_one (ps_expr (pe_bm0 PySem.F.plainAttrs_list PySem.F.slot_list_pop PySem.F.type_list_pop mt_pop (pv 1))))
      (pss_one (ps_ret (pv 2))))))))
      (pss_cons (ps_if (pt_cmpR op_gt (pe_callB (id := "len") callLen (by rfl) T.b_len (by decide +kernel) (pa_cons (pv 1) pa_nil)) pe_int (nomark _))
      (pss_one (ps_ret (pe_callB (id := "len") callLen (by rfl) T.b_len (by decide +kernel) (pa_cons (pv 0) pa_nil))))
      pss_nil)
      (pss_one (ps_ret pe_non))))), ?_⟩
  try dsimp only [cxOf, Cx.nox, Cx.wish]
  obtain ⟨hl, ⟨z, rfl, hz⟩, k⟩ := h
  have O := NF.Own.refl0 H
  walk_at "gn"
  refine NF.x_newL O (by decide +kernel) fun p H1 hp O => ?_
  walk_at "nO"
  have fin : ∀ o H' R, flt (tl z) 0 [] = o → Own H H' [] [(p, R)] → Q (fv o) H' := fun o H' R e O' => k _ _ (O'.drop fun x hx => by rw [List.mem_singleton.mp hx]; exact hp) ⟨z, rfl, by rw [e]⟩
  walk_at "go"
  refine NF.f_rng1 (by omega) (fun i σ H' => ∃ (u2 : Option V) (st : List Nat), σ = [some (.str z), some (.ref p), u2] ∧ Own H H' [] [(p, .lst ((st.map (· - 32)).reverse.map ch))] ∧ run ((tl z).take i) [] = some st ∧ st.length ≤ i ∧ i ≤ z.length) ⟨_, [], rfl, O, rfl, by decide, Nat.zero_le _⟩ ?_ ?_
  · rintro i _ H2 hi ⟨u2, st, rfl, O, hr, hst, hi2⟩
    have hi3 : i < (tl z).length := by rw [← len_tl]; omega
    obtain ⟨c, hc⟩ : ∃ c, (tl z)[i]? = some c := ⟨_, List.getElem?_eq_getElem hi3⟩
    have hat := L2.atI_nat hc
    walk_at "go"
    refine NF.x_ite (fun h0 => ?_) (fun h0 => ?_)
    · rw [tl_names, mem_lo] at h0
      walk_at "go"
      rw [upper_lo h0] at O
      refine ⟨_, c :: st, rfl, ?_, run_lo1 hr hc h0, by rw [List.length_cons]; omega, by omega⟩
      rw [List.map_cons, rev_ch]
      exact O
    · rw [tl_names, mem_lo] at h0
      have ret : ∀ H', (∀ t ts, st = t :: ts → c + 32 ≠ t) → Own H H' [] [(p, .lst ((st.map (· - 32)).reverse.map ch))] → Q (.int (i : Int)) H' := fun H' h2 O' => fin (some i) H' _ (flt_stop hr hc h0 h2) O'
      walk_at "go"
      refine NF.x_ite (fun h1 => ?_) (fun h1 => ?_)
      · cases st with
        | nil => simp at h1
        | cons t ts =>
          have ht := run_lo hr (fun _ h => absurd h List.not_mem_nil) t (List.mem_cons_self ..)
          rw [List.map_cons, rev_ch] at O
          walk_at "go"
          refine' NF.x_ixL ?h (L2.atI_last _ _) ?_
          (case h => walk_at "own")
          walk_at "go"
          refine NF.x_iteS (fun h3 => ?_) (fun h3 => ?_)
          · have e : t - 32 = c := by simpa using h3
            have e2 : t = c + 32 := by omega
            subst e2
            walk_at "go"
            refine NF.x_pop O 0 rfl (v := ch (c + 32 - 32)) (by simp) fun H4 O => ?_
            rw [List.dropLast_concat] at O
            exact ⟨_, ts, rfl, O, run_up1 hr hc h0, by simp only [List.length_cons] at hst; omega, by omega⟩
          · walk_at "go"
            refine ret _ (fun t' ts' e => ?_) (by rw [List.map_cons, rev_ch]; exact O)
            cases e
            exact fun q => h3 (by rw [show t - 32 = c by omega])
      · walk_at "go"
        refine ret _ (fun t' ts' e q => ?_) O
        subst e
        simp at h1
  · rintro _ H2 ⟨u2, st, rfl, O, hr, hst, hi⟩
    have e0 : ((z.length : Int)).toNat = (tl z).length := by rw [len_tl]; omega
    rw [e0] at hr
    have hr := flt_end hr
    walk_at "go"
    refine NF.x_ite (fun h2 => ?_) (fun h2 => ?_)
    · walk_at "go"
      have e : st ≠ [] := by intro e; subst e; simp at h2
      rw [if_neg e] at hr
      have := fin _ _ _ hr O
      rw [len_tl]
      exact this
    · walk_at "go"
      have e : st = [] := by
        cases st with
        | nil => rfl
        | cons t ts => simp at h2
      rw [if_pos e] at hr
      exact fin _ _ _ hr O


def spKey : Sp := spNew 1 (fun vs => ∃ z, vs = [.str z] ∧ z.length ≤ 10000000) (fun vs o => ∃ z, vs = [.str z] ∧ o = .tup [.int z.length, .str z])
abbrev NM_order_key : List Str := ["text"]
theorem sc_order_key : FnScope NM_order_key ["text"] (defScope s_order_key) := ⟨rfl, rfl, rfl, by decide +kernel, rfl, by decide +kernel, by decide +kernel⟩
theorem d_order_key (F : Fn0 K mg "order_key" s_order_key) (T : Txt K mg)  :
    Def P w K mg base 1 "order_key" ["text"] spKey := by
  refine Def.mk0 F sc_order_key (by first | exact NF.hl_spB | exact NF.hl_spP | exact NF.hl_spNew | exact hl_spKey) (fun _ _ _ _ _ _ us hl => match us, hl with | [_], _ => rfl) (fun cdv A outer s H vs Q E hr h => ?_)
  refine ⟨_, (pss_one (ps_ret (pe_tup (pa_cons (pe_callB (id := "len") callLen (by rfl) T.b_len (by decide +kernel) (pa_cons (pv 0) pa_nil)) (pa_cons (pv 0) pa_nil))))), ?_⟩
  try dsimp only [cxOf, Cx.nox, Cx.wish]
  obtain ⟨hl, ⟨z, rfl, hz⟩, k⟩ := h
  have O := NF.Own.refl0 H
  walk_at "gn"
  refine NF.x_newT O (by show 2 ≤ sizeLine; decide) fun p H1 hp O => ?_
  walk_at "nO"
  exact k _ _ _ hp O ⟨z, rfl, rfl⟩

def lss (a b : Str) : Bool := ltIS (a.length, a) (b.length, b)
def spLess : Sp := spP 2 (fun vs => ∃ a b, vs = [.str a, .str b] ∧ a.length ≤ 10000000 ∧ b.length ≤ 10000000) (fun vs v => ∃ a b, vs = [.str a, .str b] ∧ v = .bl (lss a b))
abbrev NM_lesser : List Str := ["one", "other"]
theorem sc_lesser : FnScope NM_lesser ["one", "other"] (defScope s_lesser) := ⟨rfl, rfl, rfl, by decide +kernel, rfl, by decide +kernel, by decide +kernel⟩
theorem d_lesser (F : Fn0 K mg "lesser" s_lesser) (T : Txt K mg) (D_order_key : Def P w K mg base 1 "order_key" ["text"] spKey) :
    Def P w K mg base 2 "lesser" ["one", "other"] spLess := by
  refine Def.mk0 F sc_lesser (by first | exact NF.hl_spB | exact NF.hl_spP | exact NF.hl_spNew | exact hl_spLess) (fun _ _ _ _ _ _ us hl => match us, hl with | [_, _], _ => rfl) (fun cdv A outer s H vs Q E hr h => ?_)
  refine ⟨_, (pss_one (ps_ret (pe_cmpR (opLtIS hr.units) (pe_d D_order_key (hr.mono (by decide)) rfl (pa_cons (pv 0) pa_nil)) (pe_d D_order_key (hr.mono (by decide)) rfl (pa_cons (pv 1) pa_nil)) (nomark _)))), ?_⟩
  try dsimp only [cxOf, Cx.nox, Cx.wish]
  obtain ⟨hl, ⟨a, b, rfl, ha, hb⟩, k⟩ := h
  have O := NF.Own.refl0 H
  walk_at "gn"
  refine NF.use_spNew (E := E0) O rfl ⟨a, rfl, ha⟩ fun p1 H1 o hp1 O ⟨z2, e, eo⟩ => ?_
  cases e
  subst eo
  walk_at "gn"
  refine NF.use_spNew (E := E0) O rfl ⟨b, rfl, hb⟩ fun p2 H2 o hp2 O ⟨z2, e, eo⟩ => ?_
  cases e
  subst eo
  walk_at "nO"
  walk_at "go"
  exact k _ _ (O.drop fun x hx => by
    simp only [List.mem_cons, List.not_mem_nil, or_false] at hx
    rcases hx with rfl | rfl <;> assumption) ⟨a, b, rfl, rfl⟩

theorem lss_eq {a b : Str} (h : a.length = b.length) : lss a b = decide (tl a < tl b) := by
  show (if ((a.length : Int)) = (b.length : Int) then decide (tl a < tl b) else decide ((a.length : Int) < (b.length : Int))) = _
  rw [if_pos (by omega)]
theorem lss_ne {a b : Str} (h : a.length ≠ b.length) : lss a b = decide (a.length < b.length) := by
  show (if ((a.length : Int)) = (b.length : Int) then decide (tl a < tl b) else decide ((a.length : Int) < (b.length : Int))) = _
  rw [if_neg (by omega)]
  exact decide_eq_decide.mpr (by omega)
theorem lt_pre (p : List Nat) {l m : List Nat} : (p ++ l < p ++ m) ↔ l < m := by
  induction p with
  | nil => exact Iff.rfl
  | cons c p ih =>
    rw [List.cons_append, List.cons_append, List.cons_lt_cons_iff, ih]
    constructor
    · rintro (h | ⟨_, h⟩)
      · exact absurd h (Nat.lt_irrefl _)
      · exact h
    · exact fun h => .inr ⟨rfl, h⟩
theorem lt_suf (s : List Nat) : ∀ {l m : List Nat}, l.length = m.length → ((l ++ s < m ++ s) ↔ l < m)
  | [], [], _ => by simp [List.lt_irrefl]
  | [], _ :: _, h => by simp at h
  | _ :: _, [], h => by simp at h
  | a :: l, b :: m, h => by
    rw [List.cons_append, List.cons_append, List.cons_lt_cons_iff, List.cons_lt_cons_iff, lt_suf s (by simpa using h)]
theorem lss_in (a b x y : Str) : lss (a ++ x ++ b) (a ++ y ++ b) = lss x y := by
  by_cases h : x.length = y.length
  · rw [lss_eq h, lss_eq (by simp only [len_app]; omega)]
    refine decide_eq_decide.mpr ?_
    rw [tl_append, tl_append, tl_append, tl_append, List.append_assoc, List.append_assoc, lt_pre]
    exact lt_suf _ (by rw [← len_tl, ← len_tl]; exact h)
  · rw [lss_ne h, lss_ne (by simp only [len_app]; omega)]
    exact decide_eq_decide.mpr (by simp only [len_app]; omega)
theorem lss_self (x : Str) : lss x x = false := by
  rw [lss_eq rfl]
  exact decide_eq_false (List.lt_irrefl _)
theorem isL_cases {c : Nat} (h : isL c) : c = 97 ∨ c = 98 ∨ c = 99 ∨ c = 100 ∨ c = 101 ∨ c = 102 ∨ c = 103 ∨ c = 104 ∨ c = 65 ∨ c = 66 ∨ c = 67 ∨ c = 68 ∨ c = 69 ∨ c = 70 ∨ c = 71 ∨ c = 72 := by unfold isL at h; omega
theorem find_isL {c : Nat} (h : isL c) : Txt.find (Str.ofString "ABCDEFGHabcdefgh") ⟨#[c]⟩ = if c ≤ 72 then (c : Int) - 65 else (c : Int) - 89 := by
  rcases isL_cases h with rfl | rfl | rfl | rfl | rfl | rfl | rfl | rfl | rfl | rfl | rfl | rfl | rfl | rfl | rfl | rfl <;> decide +kernel
theorem find_lt {c d : Nat} (hc : isL c) (hd : isL d) : decide (Txt.find (Str.ofString "ABCDEFGHabcdefgh") ⟨#[c]⟩ < Txt.find (Str.ofString "ABCDEFGHabcdefgh") ⟨#[d]⟩) = decide (c < d) := by
  rw [find_isL hc, find_isL hd]
  refine decide_eq_decide.mpr ?_
  unfold isL at hc hd
  split <;> split <;> omega
def spLawLess : Sp := spP 2 (fun vs => ∃ a b, vs = [.str a, .str b] ∧ a.length ≤ 1000 ∧ b.length ≤ 1000 ∧ (∀ c ∈ tl a, isL c) ∧ ∀ c ∈ tl b, isL c) (fun vs v => ∃ a b, vs = [.str a, .str b] ∧ v = .bl (lss a b))
abbrev NM_law_less : List Str := ["one", "other", "letters", "at"]
theorem sc_law_less : FnScope NM_law_less ["one", "other"] (defScope s_law_less) := ⟨rfl, rfl, rfl, by decide +kernel, rfl, by decide +kernel, by decide +kernel⟩
theorem d_law_less (F : Fn0 K mg "_law_less" s_law_less) (T : Txt K mg)  :
    Def P w K mg base 1 "_law_less" ["one", "other"] spLawLess := by
  refine Def.mk0 F sc_law_less (by first | exact NF.hl_spB | exact NF.hl_spP | exact NF.hl_spNew | exact hl_spLawLess) (fun _ _ _ _ _ _ us hl => match us, hl with | [_, _], _ => rfl) (fun cdv A outer s H vs Q E hr h => ?_)
  refine ⟨_, (pss_cons (ps_if (pt_cmpR op_ne (pe_callB (id := "len") callLen (by rfl) T.b_len (by decide +kernel) (pa_cons (pv 0) pa_nil)) (pe_callB (id := "len") callLen (by rfl) T.b_len (by decide +kernel) (pa_cons (pv 1) pa_nil)) (nomark _))
      (pss_one (ps_ret (pe_cmpR op_lt (pe_callB (id := "len") callLen (by rfl) T.b_len (by decide +kernel) (pa_cons (pv 0) pa_nil)) (pe_callB (id := "len") callLen (by rfl) T.b_len (by decide +kernel) (pa_cons (pv 1) pa_nil)) (nomark _))))
      pss_nil)
      (pss_cons (ps_set (i := 2) sc_law_less.nd rfl (Or.inl rfl) pe_str)
      (pss_cons (ps_for PassesOwn.never rfl (pi_range1 (by rfl) T.b_range (pa_cons (pe_callB (id := "len") callLen (by rfl) T.b_len (by decide +kernel) (pa_cons (pv 0) pa_nil)) pa_nil)) (pg_name (i := 3) sc_law_less.nd rfl (Or.inl rfl))
      (pss_one (ps_if (pt_cmpR op_ne (pe_ix ix_str (pv 0) (pv 3) (fun _ _ => rfl)) (pe_ix ix_str (pv 1) (pv 3) (fun _ _ => rfl)) (nomark _))
      (pss_one (ps_ret (pe_cmpR op_lt (pe_bm PySem.F.plainAttrs_str PySem.F.slot_str_find PySem.F.type_str_find mtFind (pv 2) (pa_cons (pe_ix ix_str (pv 0) (pv 3) (fun _ _ => rfl)) pa_nil)) (pe_bm PySem.F.plainAttrs_str PySem.F.slot_str_find PySem.F.type_str_find mtFind (pv 2) (pa_cons (pe_ix ix_str (pv 1) (pv 3) (fun _ _ => rfl)) pa_nil)) (nomark _))))
      pss_nil)))
      (pss_one (ps_ret pe_bl))))), ?_⟩
  try dsimp only [cxOf, Cx.nox, Cx.wish]
  obtain ⟨hl, ⟨a, b, rfl, ha, hb, hLa, hLb⟩, k⟩ := h
  have O := NF.Own.refl0 H
  walk_at "go"
  refine NF.x_itnI (fun h0 => ?_) (fun h0 => ?_)
  · walk_at "go"
    refine k _ _ O ⟨a, b, rfl, ?_⟩
    rw [lss_ne (by omega)]
    exact congrArg V.bl (decide_eq_decide.mpr (by omega))
  · walk_at "go"
    have hab : a.length = b.length := by omega
    refine NF.f_rng1 (by omega) (fun i σ H' => ∃ (u : Option V), σ = [some (.str a), some (.str b), some (.str (Str.ofString "ABCDEFGHabcdefgh")), u] ∧ Own H H' [] [] ∧ (tl a).take i = (tl b).take i) ⟨_, rfl, O, rfl⟩ ?_ ?_
    · rintro i _ H2 hi ⟨u, rfl, O, hp⟩
      have hia : i < (tl a).length := by rw [← len_tl]; omega
      have hib : i < (tl b).length := by rw [← len_tl]; omega
      obtain ⟨c, hc⟩ : ∃ c, (tl a)[i]? = some c := ⟨_, List.getElem?_eq_getElem hia⟩
      obtain ⟨d, hd⟩ : ∃ d, (tl b)[i]? = some d := ⟨_, List.getElem?_eq_getElem hib⟩
      have hat := L2.atI_nat hc
      have hbt := L2.atI_nat hd
      walk_at "go"
      refine NF.x_itnS (fun h1 => ?_) (fun h1 => ?_)
      · walk_at "go"
        refine k _ _ O ⟨a, b, rfl, ?_⟩
        have hcd : c ≠ d := fun e => h1 (by rw [e])
        rw [lss_eq hab, find_lt (hLa c (List.mem_of_getElem? hc)) (hLb d (List.mem_of_getElem? hd))]
        refine congrArg V.bl (decide_eq_decide.mpr ?_)
        rw [drop_cons hc, drop_cons hd, hp, lt_pre, List.cons_lt_cons_iff]
        constructor
        · exact fun h => .inl h
        · rintro (h | ⟨h, _⟩)
          · exact h
          · exact absurd h hcd
      · walk_at "go"
        have hcd : c = d := by simpa using h1
        subst hcd
        exact ⟨_, rfl, O, by rw [take_snoc hc, take_snoc hd, hp]⟩
    · rintro _ H2 ⟨u, rfl, O, hp⟩
      walk_at "go"
      refine k _ _ O ⟨a, b, rfl, ?_⟩
      have e : a = b := by
        refine ext_tl ?_
        have e1 : ((a.length : Int)).toNat = (tl a).length := by rw [len_tl]; omega
        rw [e1, List.take_length] at hp
        rw [show (tl a).length = (tl b).length by rw [← len_tl, ← len_tl]; exact hab, List.take_length] at hp
        exact hp
      rw [e, lss_self]

abbrev spTrue (n : Nat) (pre : List V → Prop) : Sp := spP n pre (fun _ v => v = .bl true)
abbrev NM_law_lesser_right : List Str := ["one", "other", "due", "told"]
theorem sc_law_lesser_right : FnScope NM_law_lesser_right ["one", "other", "due"] (defScope s_law_lesser_right) := ⟨rfl, rfl, rfl, by decide +kernel, rfl, by decide +kernel, by decide +kernel⟩
theorem d_law_lesser_right (F : Fn0 K mg "_law_lesser_right" s_law_lesser_right) (T : Txt K mg) (D_lesser : Def P w K mg base 2 "lesser" ["one", "other"] spLess) :
    Def P w K mg base 3 "_law_lesser_right" ["one", "other", "due"] (spTrue 3 (fun vs => ∃ a b, vs = [.str a, .str b, .bl (lss a b)] ∧ a.length ≤ 10000000 ∧ b.length ≤ 10000000)) := by
  refine Def.mk0 F sc_law_lesser_right (by first | exact NF.hl_spB | exact NF.hl_spP | exact NF.hl_spNew | exact hl_spTrue) (fun _ _ _ _ _ _ us hl => match us, hl with | [_, _, _], _ => rfl) (fun cdv A outer s H vs Q E hr h => ?_)
  refine ⟨_, (pss_cons (ps_set (i := 3) sc_law_lesser_right.nd rfl (Or.inl rfl) (pe_d D_lesser (hr.mono (by decide)) rfl (pa_cons (pv 0) (pa_cons (pv 1) pa_nil))))
      (pss_one (ps_ret (pe_and (pe_callB callIsT (by rfl) T.b_isinstance (by decide +kernel) (pa_cons (pv 3) (pa_cons (pe_ty (n := "bool") (by rfl) T.b_bool (by decide +kernel)) pa_nil))) (pe_one (pe_cmpR op_eq (pv 3) (pv 2) (nomark _))))))), ?_⟩
  try dsimp only [cxOf, Cx.nox, Cx.wish]
  obtain ⟨hl, ⟨a, b, rfl, ha, hb⟩, k⟩ := h
  have O := NF.Own.refl0 H
  walk_at "go"
  refine NF.use_spP (E := E0) O rfl ⟨a, b, rfl, ha, hb⟩ fun v H1 O ⟨a2, b2, e, ev⟩ => ?_
  cases e
  subst ev
  walk_at "go"
  refine k _ _ O ?_
  simp

abbrev NM_law_order_right : List Str := ["ahead", "one", "other", "behind", "less", "more", "first", "second"]
theorem sc_law_order_right : FnScope NM_law_order_right ["ahead", "one", "other", "behind"] (defScope s_law_order_right) := ⟨rfl, rfl, rfl, by decide +kernel, rfl, by decide +kernel, by decide +kernel⟩
theorem d_law_order_right (F : Fn0 K mg "_law_order_right" s_law_order_right) (T : Txt K mg) (D_law_less : Def P w K mg base 1 "_law_less" ["one", "other"] spLawLess) (D_law_lesser_right : Def P w K mg base 3 "_law_lesser_right" ["one", "other", "due"] (spTrue 3 (fun vs => ∃ a b, vs = [.str a, .str b, .bl (lss a b)] ∧ a.length ≤ 10000000 ∧ b.length ≤ 10000000))) :
    Def P w K mg base 4 "_law_order_right" ["ahead", "one", "other", "behind"] (spTrue 4 (fun vs => ∃ p a b q, vs = [.str p, .str a, .str b, .str q] ∧ p.length ≤ 1000000 ∧ q.length ≤ 1000000 ∧ a.length ≤ 1000 ∧ b.length ≤ 1000 ∧ (∀ c ∈ tl a, isL c) ∧ ∀ c ∈ tl b, isL c)) := by
  refine Def.mk0 F sc_law_order_right (by first | exact NF.hl_spB | exact NF.hl_spP | exact NF.hl_spNew | exact hl_spTrue) (fun _ _ _ _ _ _ us hl => match us, hl with | [_, _, _, _], _ => rfl) (fun cdv A outer s H vs Q E hr h => ?_)
  refine ⟨_, (pss_cons (ps_set (i := 4) sc_law_order_right.nd rfl (Or.inl rfl) (pe_d D_law_less (hr.mono (by decide)) rfl (pa_cons (pv 1) (pa_cons (pv 2) pa_nil))))
      (pss_cons (ps_set (i := 5) sc_law_order_right.nd rfl (Or.inl rfl) (pe_d D_law_less (hr.mono (by decide)) rfl (pa_cons (pv 2) (pa_cons (pv 1) pa_nil))))
      (pss_cons (ps_if (PW.pt (pw_or (pt_not (pt_val (pe_d D_law_lesser_right (hr.mono (by decide)) rfl (pa_cons (pv 1) (pa_cons (pv 2) (pa_cons (pv 4) pa_nil)))))) (pw_or1 (pt_not (pt_val (pe_d D_law_lesser_right (hr.mono (by decide)) rfl (pa_cons (pv 2) (pa_cons (pv 1) (pa_cons (pv 5) pa_nil)))))))))
      (pss_one (ps_ret pe_bl))
      pss_nil)
      (pss_cons (ps_if (pt_not (pt_val (pe_d D_law_lesser_right (hr.mono (by decide)) rfl (pa_cons (pv 1) (pa_cons (pv 1) (pa_cons pe_bl pa_nil))))))
      (pss_one (ps_ret pe_bl))
      pss_nil)
      (pss_cons (ps_set (i := 6) sc_law_order_right.nd rfl (Or.inl rfl) (pe_op opAddS (pe_op opAddS (pv 0) (pv 1)) (pv 3)))
      (pss_cons (ps_set (i := 7) sc_law_order_right.nd rfl (Or.inl rfl) (pe_op opAddS (pe_op opAddS (pv 0) (pv 2)) (pv 3)))
      (pss_one (ps_ret (pe_and (pe_d D_law_lesser_right (hr.mono (by decide)) rfl (pa_cons (pv 6) (pa_cons (pv 7) (pa_cons (pv 4) pa_nil)))) (pe_one (pe_d D_law_lesser_right (hr.mono (by decide)) rfl (pa_cons (pv 7) (pa_cons (pv 6) (pa_cons (pv 5) pa_nil)))))))))))))), ?_⟩
  try dsimp only [cxOf, Cx.nox, Cx.wish]
  obtain ⟨hl, ⟨p, a, b, q, rfl, hp, hq, ha, hb, hLa, hLb⟩, k⟩ := h
  have O := NF.Own.refl0 H
  walk_at "go"
  refine NF.use_spP (E := E0) O rfl ⟨a, b, rfl, ha, hb, hLa, hLb⟩ fun v H1 O ⟨a2, b2, e, ev⟩ => ?_
  cases e
  subst ev
  walk_at "go"
  refine NF.use_spP (E := E0) O rfl ⟨b, a, rfl, hb, ha, hLb, hLa⟩ fun v H1 O ⟨a2, b2, e, ev⟩ => ?_
  cases e
  subst ev
  walk_at "go"
  refine NF.use_spP (E := E0) O rfl ⟨a, b, rfl, by omega, by omega⟩ fun v H1 O ev => ?_
  subst ev
  walk_at "go"
  refine NF.use_spP (E := E0) O rfl ⟨b, a, rfl, by omega, by omega⟩ fun v H1 O ev => ?_
  subst ev
  walk_at "go"
  refine NF.use_spP (E := E0) O rfl ⟨a, a, by rw [lss_self]; rfl, by omega, by omega⟩ fun v H1 O ev => ?_
  subst ev
  walk_at "go"
  refine NF.use_spP (E := E0) O rfl ⟨p ++ a ++ q, p ++ b ++ q, by rw [lss_in]; rfl, by simp only [len_app]; omega, by simp only [len_app]; omega⟩ fun v H1 O ev => ?_
  subst ev
  walk_at "go"
  refine NF.use_spP (E := E0) O rfl ⟨p ++ b ++ q, p ++ a ++ q, by rw [lss_in]; rfl, by simp only [len_app]; omega, by simp only [len_app]; omega⟩ fun v H1 O ev => ?_
  subst ev
  exact k _ _ O rfl


def spIs : Sp := spP 2 (fun vs => ∃ i j : Int, vs = [.int i, .int j]) (fun vs v => ∃ i j : Int, vs = [.int i, .int j] ∧ v = .bl (decide (i = j)))
abbrev NM_law_is : List Str := ["told", "due"]
theorem sc_law_is : FnScope NM_law_is ["told", "due"] (defScope s_law_is) := ⟨rfl, rfl, rfl, by decide +kernel, rfl, by decide +kernel, by decide +kernel⟩
theorem d_law_is (F : Fn0 K mg "_law_is" s_law_is) (T : Txt K mg)  :
    Def P w K mg base 1 "_law_is" ["told", "due"] spIs := by
  refine Def.mk0 F sc_law_is (by first | exact NF.hl_spB | exact NF.hl_spP | exact NF.hl_spNew | exact hl_spIs) (fun _ _ _ _ _ _ us hl => match us, hl with | [_, _], _ => rfl) (fun cdv A outer s H vs Q E hr h => ?_)
  refine ⟨_, (pss_one (ps_ret (pe_and (pe_callB callIsT (by rfl) T.b_isinstance (by decide +kernel) (pa_cons (pv 0) (pa_cons (pe_ty (n := "int") (by rfl) T.b_int (by decide +kernel)) pa_nil))) (pe_and (pe_not (pe_callB callIsT (by rfl) T.b_isinstance (by decide +kernel) (pa_cons (pv 0) (pa_cons (pe_ty (n := "bool") (by rfl) T.b_bool (by decide +kernel)) pa_nil)))) (pe_one (pe_cmpR op_eq (pv 0) (pv 1) (nomark _))))))), ?_⟩
  try dsimp only [cxOf, Cx.nox, Cx.wish]
  obtain ⟨hl, ⟨i, j, rfl⟩, k⟩ := h
  have O := NF.Own.refl0 H
  walk_at "go"
  refine k _ _ O ⟨i, j, rfl, ?_⟩
  simp

abbrev NM_law_right : List Str := ["text", "due", "told", "answer"]
theorem sc_law_right : FnScope NM_law_right ["text", "due"] (defScope s_law_right) := ⟨rfl, rfl, rfl, by decide +kernel, rfl, by decide +kernel, by decide +kernel⟩
theorem d_law_right (F : Fn0 K mg "_law_right" s_law_right) (T : Txt K mg) (D_fault : Def P w K mg base 1 "fault" ["text"] spFault) (D_is_nested : Def P w K mg base 2 "is_nested" ["text"] spIsN) (D_law_is : Def P w K mg base 1 "_law_is" ["told", "due"] spIs) :
    Def P w K mg base 3 "_law_right" ["text", "due"] (spTrue 2 (fun vs => ∃ z, vs = [.str z, fv (flt (tl z) 0 [])] ∧ z.length ≤ 10000000)) := by
  refine Def.mk0 F sc_law_right (by first | exact NF.hl_spB | exact NF.hl_spP | exact NF.hl_spNew | exact hl_spTrue) (fun _ _ _ _ _ _ us hl => match us, hl with | [_, _], _ => rfl) (fun cdv A outer s H vs Q E hr h => ?_)
  refine ⟨_, (pss_cons (ps_set (i := 2) sc_law_right.nd rfl (Or.inl rfl) (pe_d D_fault (hr.mono (by decide)) rfl (pa_cons (pv 0) pa_nil)))
      (pss_cons (ps_if (PW.pt (pw_and (pt_cmpR opIsN (pv 1) pe_non (nomark _)) (pw_and1 (pt_cmpR opNotN (pv 2) pe_non (nomark _)))))
      (pss_one (ps_ret pe_bl))
      pss_nil)
      (pss_cons (ps_if (PW.pt (pw_and (pt_cmpR opNotN (pv 1) pe_non (nomark _)) (pw_and1 (pt_not (pt_val (pe_d D_law_is (hr.mono (by decide)) rfl (pa_cons (pv 2) (pa_cons (pv 1) pa_nil))))))))
      (pss_one (ps_ret pe_bl))
      pss_nil)
      (pss_cons (ps_set (i := 3) sc_law_right.nd rfl (Or.inl rfl) (pe_d D_is_nested (hr.mono (by decide)) rfl (pa_cons (pv 0) pa_nil)))
      (pss_one (ps_ret (pe_and (pe_callB callIsT (by rfl) T.b_isinstance (by decide +kernel) (pa_cons (pv 3) (pa_cons (pe_ty (n := "bool") (by rfl) T.b_bool (by decide +kernel)) pa_nil))) (pe_one (pe_cmpR op_eq (pv 3) (pe_cmpR opIsN (pv 1) pe_non (nomark _)) (nomark _)))))))))), ?_⟩
  try dsimp only [cxOf, Cx.nox, Cx.wish]
  obtain ⟨hl, ⟨z, rfl, hz⟩, k⟩ := h
  have O := NF.Own.refl0 H
  walk_at "go"
  refine NF.use_spP (E := E0) O rfl ⟨z, rfl, hz⟩ fun v H1 O ⟨z2, e, ev⟩ => ?_
  cases e
  subst ev
  have e : flt (tl z) 0 [] = flt (tl z) 0 [] := rfl
  revert e
  generalize hf : flt (tl z) 0 [] = o
  intro _
  cases o with
  | none =>
    show tSeq _ _ ⟨_, _, _, _⟩ ((L2.start NM_law_right [V.str z, V.non]).set 2 (some V.non)) H1
    walk_at "go"
    refine NF.use_spP (E := E0) O rfl ⟨z, rfl, hz⟩ fun v H1 O ⟨z2, e, ev⟩ => ?_
    cases e
    subst ev
    walk_at "go"
    refine k _ _ O ?_
    rw [hf]
    rfl
  | some n =>
    show tSeq _ _ ⟨_, _, _, _⟩ ((L2.start NM_law_right [V.str z, V.int n]).set 2 (some (V.int n))) H1
    walk_at "go"
    refine NF.use_spP (E := E0) O rfl ⟨n, n, rfl⟩ fun v H1 O ⟨i, j, e, ev⟩ => ?_
    cases e
    subst ev
    simp only [decide_true]
    walk_at "go"
    refine NF.use_spP (E := E0) O rfl ⟨z, rfl, hz⟩ fun v H1 O ⟨z2, e, ev⟩ => ?_
    cases e
    subst ev
    walk_at "go"
    refine k _ _ O ?_
    rw [hf]
    rfl

/-- the closing letters that a beginning wants -/
def spEnding : Sp := spP 1 (fun vs => ∃ z st, vs = [.str z] ∧ z.length ≤ 1000000 ∧ run (tl z) [] = some st) (fun vs v => ∃ z st, vs = [.str z] ∧ run (tl z) [] = some st ∧ v = .str (mkS (st.map (· - 32))))
abbrev NM_law_ending : List Str := ["text", "opened", "at", "closing", "up"]
theorem sc_law_ending : FnScope NM_law_ending ["text"] (defScope s_law_ending) := ⟨rfl, rfl, rfl, by decide +kernel, rfl, by decide +kernel, by decide +kernel⟩
theorem d_law_ending (F : Fn0 K mg "_law_ending" s_law_ending) (T : Txt K mg)  :
    Def P w K mg base 1 "_law_ending" ["text"] spEnding := by
  refine Def.mk0 F sc_law_ending (by first | exact NF.hl_spB | exact NF.hl_spP | exact NF.hl_spNew | exact hl_spEnding) (fun _ _ _ _ _ _ us hl => match us, hl with | [_], _ => rfl) (fun cdv A outer s H vs Q E hr h => ?_)
  refine ⟨_, (pss_cons (ps_set (i := 1) sc_law_ending.nd rfl (Or.inl rfl) (pe_lst pa_nil))
      (pss_cons (ps_for PassesOwn.never rfl (pi_range1 (by rfl) T.b_range (pa_cons (pe_callB (id := "len") callLen (by rfl) T.b_len (by decide +kernel) (pa_cons (pv 0) pa_nil)) pa_nil)) (pg_name (i := 2) sc_law_ending.nd rfl (Or.inl rfl))
      (pss_one (ps_if (pt_cmpR opInC (pe_ix ix_str (pv 0) (pv 2) (fun _ _ => rfl)) pe_str (by rfl))
      (pss_one (ps_expr (pe_bm PySem.F.plainAttrs_list PySem.F.slot_list_append PySem.F.type_list_append mt_append (pv 1) (pa_cons (pe_bm0 PySem.F.plainAttrs_str PySem.F.slot_str_upper PySem.F.type_str_upper mtUpper (pe_ix ix_str (pv 0) (pv 2) (fun _ _ => rfl))) pa_nil))))
      (pss_one (ps_expr (pe_bm0 PySem.F.plainAttrs_list PySem.F.slot_list_pop PySem.F.type_list_pop mt_pop (pv 1)))))))
      (pss_cons (ps_set (i := 3) sc_law_ending.nd rfl (Or.inl rfl) pe_str)
      (pss_cons (ps_for PassesOwn.never rfl (pi_range1 (by rfl) T.b_range (pa_cons (pe_callB (id := "len") callLen (by rfl) T.b_len (by decide +kernel) (pa_cons (pv 1) pa_nil)) pa_nil)) (pg_name (i := 4) sc_law_ending.nd rfl (Or.inl rfl))
      (pss_one (ps_set (i := 3) sc_law_ending.nd rfl (Or.inl rfl) (pe_op opAddS (pv 3) (pe_bm0 PySem.F.plainAttrs_list PySem.F.slot_list_pop PySem.F.type_list_pop mt_pop (pv 1))))))
      (pss_one (ps_ret (pv 3))))))), ?_⟩
  try dsimp only [cxOf, Cx.nox, Cx.wish]
  obtain ⟨hl, ⟨z, st0, rfl, hz, hst0⟩, k⟩ := h
  have O := NF.Own.refl0 H
  have hst0l : st0.length ≤ z.length := by have := run_len hst0; rw [len_tl]; simpa using this
  have hst0lo := run_lo hst0 (fun _ h => absurd h List.not_mem_nil)
  walk_at "gn"
  refine NF.x_newL O (by decide +kernel) fun p H1 hp O => ?_
  walk_at "nO"
  walk_at "go"
  refine NF.f_rng1 (by omega) (fun i σ H' => ∃ (u2 u3 u4 : Option V) (st : List Nat), σ = [some (.str z), some (.ref p), u2, u3, u4] ∧ Own H H' [] [(p, .lst ((st.map (· - 32)).reverse.map ch))] ∧ run ((tl z).take i) [] = some st ∧ i ≤ z.length) ⟨_, _, _, [], rfl, O, rfl, Nat.zero_le _⟩ ?_ ?_
  · rintro i _ H2 hi ⟨u2, u3, u4, st, rfl, O, hr, hi2⟩
    have hi3 : i < (tl z).length := by rw [← len_tl]; omega
    have hstl : st.length ≤ i := by have := run_len hr; rw [List.length_take] at this; simp only [List.length_nil] at this; omega
    obtain ⟨c, hc⟩ : ∃ c, (tl z)[i]? = some c := ⟨_, List.getElem?_eq_getElem hi3⟩
    have hat := L2.atI_nat hc
    walk_at "go"
    refine NF.x_ite (fun h0 => ?_) (fun h0 => ?_)
    · rw [tl_names, mem_lo] at h0
      walk_at "go"
      rw [upper_lo h0] at O
      refine ⟨_, _, _, c :: st, rfl, ?_, run_lo1 hr hc h0, by omega⟩
      rw [List.map_cons, rev_ch]
      exact O
    · rw [tl_names, mem_lo] at h0
      have hs : ∃ ts, st = (c + 32) :: ts := by
        have h1 := hst0
        rw [drop_cons hc, run_append, hr] at h1
        have h1 : run (c :: (tl z).drop (i + 1)) st = some st0 := h1
        rw [run_cons, if_neg h0] at h1
        cases st with
        | nil => cases h1
        | cons t ts =>
          by_cases h2 : c + 32 = t
          · exact ⟨ts, by rw [h2]⟩
          · simp only [if_neg h2] at h1; cases h1
      obtain ⟨ts, rfl⟩ := hs
      walk_at "go"
      rw [List.map_cons, rev_ch] at O
      refine NF.x_pop O 0 rfl (v := ch (c + 32 - 32)) (by simp) fun H4 O => ?_
      rw [List.dropLast_concat] at O
      exact ⟨_, _, _, ts, rfl, O, run_up1 hr hc h0, by omega⟩
  · rintro _ H2 ⟨u2, u3, u4, st, rfl, O, hr, hi⟩
    have e0 : ((z.length : Int)).toNat = (tl z).length := by rw [len_tl]; omega
    rw [e0, List.take_length, hst0] at hr
    cases hr
    walk_at "go"
    refine NF.f_rng1 (by simp; omega) (fun i σ H' => ∃ (u2 u4 : Option V) (l : List Nat), σ = [some (.str z), some (.ref p), u2, some (.str (mkS l)), u4] ∧ ∃ m : List Nat, l ++ m = st0.map (· - 32) ∧ m.length + i = st0.length ∧ Own H H' [] [(p, .lst (m.reverse.map ch))]) ⟨_, _, [], rfl, st0.map (· - 32), rfl, by simp, O⟩ ?_ ?_
    · rintro i _ H3 hi ⟨u2, u4, l, rfl, m, hlm, hm, O⟩
      have hi : i < st0.length := by simpa using hi
      obtain ⟨c, m, rfl⟩ : ∃ c m', m = c :: m' := by
        cases m with
        | nil => simp at hm; omega
        | cons c m => exact ⟨c, m, rfl⟩
      have hll : l.length ≤ st0.length := by have := congrArg List.length hlm; simp only [List.length_append, List.length_map] at this; omega
      rw [rev_ch] at O
      walk_at "go"
      refine NF.x_pop O 0 rfl (v := ch c) (by simp) fun H4 O => ?_
      rw [List.dropLast_concat] at O
      walk_at "go"
      refine ⟨u2, some (.int (i : Int)), l ++ [c], ?_, m, by rw [List.append_assoc]; exact hlm, by simp only [List.length_cons] at hm; omega, O⟩
      have e : (mkS l ++ (⟨#[c]⟩ : Str)) = mkS (l ++ [c]) := mk_app l [c]
      rw [e]
      rfl
    · rintro _ H3 ⟨u2, u4, l, rfl, m, hlm, hm, O⟩
      simp only [List.length_map, List.length_reverse, Int.toNat_natCast] at hm
      obtain rfl : m = [] := List.length_eq_zero_iff.mp (by omega)
      rw [List.append_nil] at hlm
      subst hlm
      walk_at "go"
      exact k _ _ (O.drop fun x hx => by rw [List.mem_singleton.mp hx]; exact hp) ⟨z, st0, rfl, hst0, rfl⟩


abbrev NM_law_beginnings_right : List Str := ["box", "text", "ends", "end", "k"]
theorem sc_law_beginnings_right : FnScope NM_law_beginnings_right ["box", "text"] (defScope s_law_beginnings_right) := ⟨rfl, rfl, rfl, by decide +kernel, rfl, by decide +kernel, by decide +kernel⟩
theorem d_law_beginnings_right (F : Fn0 K mg "_law_beginnings_right" s_law_beginnings_right) (T : Txt K mg) (D_law_right : Def P w K mg base 3 "_law_right" ["text", "due"] (spTrue 2 (fun vs => ∃ z, vs = [.str z, fv (flt (tl z) 0 [])] ∧ z.length ≤ 10000000))) (D_law_draw : Def P w K mg base 1 "_law_draw" ["box", "many"] spDraw) (D_law_fault : Def P w K mg base 1 "_law_fault" ["text"] spFault) :
    Def P w K mg base 4 "_law_beginnings_right" ["box", "text"] (spB 1 BxD (fun r => ∃ z, r = [.str z] ∧ z.length ≤ 200000) (fun _ v => v = .bl true)) := by
  refine Def.mk0 F sc_law_beginnings_right (by first | exact NF.hl_spB | exact NF.hl_spP | exact NF.hl_spNew | exact hl_spB) (fun _ _ _ _ _ _ us hl => match us, hl with | [_, _], _ => rfl) (fun cdv A outer s H vs Q E hr h => ?_)
  refine ⟨_, (pss_cons (ps_set (i := 2) sc_law_beginnings_right.nd rfl (Or.inl rfl) (pe_listRg rfl (by rfl) T.b_list (prg_1 (by rfl) T.b_range (pe_op op_add (pe_callB (id := "len") callLen (by rfl) T.b_len (by decide +kernel) (pa_cons (pv 1) pa_nil)) pe_int))))
      (Evl.pss_cut (ps_if (pt_cmpR op_gt (pe_callB (id := "len") callLen (by rfl) T.b_len (by decide +kernel) (pa_cons (pv 1) pa_nil)) pe_int (nomark _))
      (pss_one (ps_set (i := 2) sc_law_beginnings_right.nd rfl (Or.inl rfl) (pe_op op_cat (pe_lc (own := [("k", 4)]) (g := gName 4) rfl sc_law_beginnings_right.nd (pi_range1 (by rfl) T.b_range (pa_cons pe_int pa_nil)) (blkOk_by (own := [("k", 4)]) (N := NM_law_beginnings_right) (sc := defScope s_law_beginnings_right) (by decide +kernel)) (fun _ _ _ _ _ => pg_name (i := 4) sc_law_beginnings_right.nd rfl (Or.inl rfl)) (fun _ _ _ _ _ => pts_nil) (fun _ _ _ _ _ => (pe_d D_law_draw (hr.mono (by decide)) rfl (pa_cons (pv 0) (pa_cons (pe_op op_add (pe_callB (id := "len") (r := rLen K) callLen (by rfl) T.b_len (by decide +kernel) (pa_cons (pv 1) pa_nil)) pe_int) pa_nil))))) (pe_lst (pa_cons (pe_callB (id := "len") callLen (by rfl) T.b_len (by decide +kernel) (pa_cons (pv 1) pa_nil)) pa_nil)))))
      pss_nil)
      (pss_cons (ps_for PassesOwn.never rfl (pi_list (pv 2)) (pg_name (i := 3) sc_law_beginnings_right.nd rfl (Or.inl rfl))
      (pss_one (ps_if (pt_not (pt_val (pe_d D_law_right (hr.mono (by decide)) rfl (pa_cons (pe_slice sl_str (pv 1) po_none (po_some (pv 3))) (pa_cons (pe_d D_law_fault (hr.mono (by decide)) rfl (pa_cons (pe_slice sl_str (pv 1) po_none (po_some (pv 3))) pa_nil)) pa_nil)))))
      (pss_one (ps_ret pe_bl))
      pss_nil)))
      (pss_one (ps_ret pe_bl))))), ?_⟩
  try dsimp only [cxOf, Cx.nox, Cx.wish]
  obtain ⟨a, A, M, rest, rfl, hl, hB, O, ⟨z, rfl, hz⟩, k⟩ := h
  walk_at "go"
  refine NF.x_newRg O (by unfold RgOk; omega) fun p1 H1 hp1 O => ?_
  walk_at "nO"
  walk_at "go"
  refine NF.x_cut (fun σ H' => ∃ (u3 u4 : Option V) (pe : Addr) (es : List Int) (M' : List (Addr × HO)), σ = [some (.ref a), some (.str z), some (.ref pe), u3, u4] ∧ In BxD a A M' ∧ Own H H' M' [(pe, .lst (es.map V.int))] ∧ H pe = none) ?_ ?_
  · walk_at "go"
    refine NF.x_ite (fun h0 => ?_) (fun h0 => ?_)
    · walk_at "go"
      refine NF.lc_rng1 (by decide) O (fun i acc M' => In BxD a A M' ∧ ∃ l : List Int, acc = l.map V.int) ⟨hB, [], rfl⟩ ?_ ?_
      · rintro i H2 M2 p acc hi hl ⟨hB, l, rfl⟩ O
        walk_at "go"
        refine x_draw O hB (by omega) (by omega) fun d H1 M1 d0 d1 hB O => ?_
        exact lc_done O hl (by rw [sizeLine_eq]; omega) ⟨hB, l ++ [d], by rw [List.map_append]; rfl⟩
      · rintro p2 H2 M2 acc hp2 hl ⟨hB, l, rfl⟩ O
        rw [List.length_map] at hl
        simp only [List.cons_append, List.nil_append] at O
        walk_at "gn"
        refine NF.x_newL O (by walk_at "len") fun p3 H1 hp3 O => ?_
        walk_at "nO"
        walk_at "gn"
        refine NF.x_cat O (O.get 1 rfl) (O.get 2 rfl) (by rw [List.length_map, sizeLine_eq]; simp only [List.length_singleton]; omega) fun p4 H1 hp4 O => ?_
        walk_at "nO"
        walk_at "go"
        have e : l.map V.int ++ [V.int (z.length : Int)] = (l ++ [(z.length : Int)]).map V.int := by rw [List.map_append]; rfl
        rw [e] at O
        refine ⟨_, _, p4, l ++ [(z.length : Int)], _, rfl, hB, O.dropTo (R := [_, _, _]) (fun x hx => ?_), hp4⟩
        simp only [List.mem_cons, List.not_mem_nil, or_false] at hx
        rcases hx with rfl | rfl | rfl <;> assumption
    · walk_at "go"
      exact ⟨_, _, p1, _, _, rfl, hB, O, hp1⟩
  · rintro _ H2 ⟨u3, u4, pe, es, M2, rfl, hB, O, hpe⟩
    walk_at "go"
    refine NF.f_list (SqL.of (O.get 0 rfl)) (fun i σ H' => ∃ (u3 : Option V), σ = [some (.ref a), some (.str z), some (.ref pe), u3, u4] ∧ Own H H' M2 [(pe, .lst (es.map V.int))]) ⟨_, rfl, O⟩ (fun i σ H' ⟨_, _, O⟩ => SqL.of (O.get 0 rfl)) ?_ ?_
    · rintro i x _ H3 hx ⟨u3, rfl, O⟩
      obtain ⟨e, rfl⟩ : ∃ e, x = V.int e := by
        rw [List.getElem?_map] at hx
        cases h2 : es[i]? with
        | none => rw [h2] at hx; cases hx
        | some e => rw [h2] at hx; exact ⟨e, (Option.some.inj hx).symm⟩
      have hcut := len_cut z none (some e)
      walk_at "go"
      refine NF.use_spP (E := E0) O rfl ⟨_, rfl, by omega⟩ fun v H1 O ⟨z2, e2, ev⟩ => ?_
      cases e2
      subst ev
      walk_at "go"
      refine NF.use_spP (E := E0) O rfl ⟨_, rfl, by omega⟩ fun v H1 O ev => ?_
      subst ev
      walk_at "go"
      exact ⟨_, rfl, O⟩
    · rintro _ H3 ⟨u3, rfl, O⟩
      walk_at "go"
      exact k _ _ _ hB (O.drop fun x hx => by rw [List.mem_singleton.mp hx]; exact hpe) rfl

theorem len_cutTo (z : Str) (i : Nat) (h : i ≤ z.length) : tl (cutS z none (some (i : Int))) = (tl z).take i := by
  rw [tl_cut]
  show ((tl z).drop 0).take (HT.sIx z.length z.length (some (i : Int)) - 0) = _
  rw [HT.sIx_nat, List.drop_zero, Nat.sub_zero, Nat.min_eq_left h]
abbrev NM_law_endings_right : List Str := ["text", "tail", "due", "closing", "whole"]
theorem sc_law_endings_right : FnScope NM_law_endings_right ["text", "tail"] (defScope s_law_endings_right) := ⟨rfl, rfl, rfl, by decide +kernel, rfl, by decide +kernel, by decide +kernel⟩
theorem d_law_endings_right (F : Fn0 K mg "_law_endings_right" s_law_endings_right) (T : Txt K mg) (D_law_fault : Def P w K mg base 1 "_law_fault" ["text"] spFault) (D_law_ending : Def P w K mg base 1 "_law_ending" ["text"] spEnding) (D_law_right : Def P w K mg base 3 "_law_right" ["text", "due"] (spTrue 2 (fun vs => ∃ z, vs = [.str z, fv (flt (tl z) 0 [])] ∧ z.length ≤ 10000000))) :
    Def P w K mg base 4 "_law_endings_right" ["text", "tail"] (spTrue 2 (fun vs => ∃ z t, vs = [.str z, .str t] ∧ z.length ≤ 1000000 ∧ t.length ≤ 1000000)) := by
  refine Def.mk0 F sc_law_endings_right (by first | exact NF.hl_spB | exact NF.hl_spP | exact NF.hl_spNew | exact hl_spTrue) (fun _ _ _ _ _ _ us hl => match us, hl with | [_, _], _ => rfl) (fun cdv A outer s H vs Q E hr h => ?_)
  refine ⟨_, (pss_cons (ps_set (i := 2) sc_law_endings_right.nd rfl (Or.inl rfl) (pe_d D_law_fault (hr.mono (by decide)) rfl (pa_cons (pv 0) pa_nil)))
      (Evl.pss_cut (ps_if (PW.pt (pw_and (pt_cmpR opNotN (pv 2) pe_non (nomark _)) (pw_and1 (pt_cmpR op_lt (pv 2) (pe_callB (id := "len") callLen (by rfl) T.b_len (by decide +kernel) (pa_cons (pv 0) pa_nil)) (nomark _)))))
      (pss_one (ps_ret (pe_d D_law_right (hr.mono (by decide)) rfl (pa_cons (pe_op opAddS (pv 0) (pv 1)) (pa_cons (pv 2) pa_nil)))))
      pss_nil)
      (pss_cons (ps_set (i := 3) sc_law_endings_right.nd rfl (Or.inl rfl) (pe_d D_law_ending (hr.mono (by decide)) rfl (pa_cons (pv 0) pa_nil)))
      (pss_cons (ps_set (i := 4) sc_law_endings_right.nd rfl (Or.inl rfl) (pe_op opAddS (pv 0) (pv 3)))
      (Evl.pss_cut (ps_if (PW.pt (pw_or (pt_not (pt_val (pe_d D_law_right (hr.mono (by decide)) rfl (pa_cons (pv 4) (pa_cons pe_non pa_nil))))) (pw_or1 (pt_not (pt_val (pe_d D_law_right (hr.mono (by decide)) rfl (pa_cons (pe_op opAddS (pv 4) pe_str) (pa_cons (pe_callB (id := "len") callLen (by rfl) T.b_len (by decide +kernel) (pa_cons (pv 4) pa_nil)) pa_nil))))))))
      (pss_one (ps_ret pe_bl))
      pss_nil)
      (Evl.pss_cut (ps_if (PW.pt (pw_and (pt_cmpR op_gt (pe_callB (id := "len") callLen (by rfl) T.b_len (by decide +kernel) (pa_cons (pv 4) pa_nil)) pe_int (nomark _)) (pw_and1 (pt_not (pt_val (pe_d D_law_right (hr.mono (by decide)) rfl (pa_cons (pe_slice sl_str (pv 4) po_none (po_some (pe_op op_sub (pe_callB (id := "len") callLen (by rfl) T.b_len (by decide +kernel) (pa_cons (pv 4) pa_nil)) pe_int))) (pa_cons (pe_op op_sub (pe_callB (id := "len") callLen (by rfl) T.b_len (by decide +kernel) (pa_cons (pv 4) pa_nil)) pe_int) pa_nil))))))))
      (pss_one (ps_ret pe_bl))
      pss_nil)
      (pss_one (ps_ret (pe_d D_law_right (hr.mono (by decide)) rfl (pa_cons (pe_op opAddS (pv 0) (pv 1)) (pa_cons (pe_d D_law_fault (hr.mono (by decide)) rfl (pa_cons (pe_op opAddS (pv 0) (pv 1)) pa_nil)) pa_nil))))))))))), ?_⟩
  try dsimp only [cxOf, Cx.nox, Cx.wish]
  obtain ⟨hl, ⟨z, t, rfl, hz, ht⟩, k⟩ := h
  have O := NF.Own.refl0 H
  walk_at "go"
  refine NF.use_spP (E := E0) O rfl ⟨z, rfl, by omega⟩ fun v H1 O ⟨z2, e2, ev⟩ => ?_
  cases e2
  subst ev
  refine NF.x_cut (fun σ H' => ∃ (v : V) (st : List Nat), σ = [some (.str z), some (.str t), some v, none, none] ∧ Own H H' [] [] ∧ run (tl z) [] = some st) ?_ ?_
  · rcases flt_spec (tl z) 0 [] with ⟨st, hst⟩ | ⟨hn, j, hj, _, hj2, hj3⟩
    · have hf := flt_of_run (k := 0) hst
      rw [Nat.zero_add, ← len_tl] at hf
      rw [hf]
      by_cases hs : st = []
      · rw [if_pos hs]
        show tIfS _ _ _ ⟨_, _, _, _⟩ ((L2.start NM_law_endings_right [V.str z, V.str t]).set 2 (some V.non)) H1
        walk_at "go"
        exact ⟨_, st, rfl, O, hst⟩
      · rw [if_neg hs]
        show tIfS _ _ _ ⟨_, _, _, _⟩ ((L2.start NM_law_endings_right [V.str z, V.str t]).set 2 (some (V.int z.length))) H1
        walk_at "go"
        refine NF.x_ite (fun h => absurd h (by omega)) (fun _ => ?_)
        walk_at "go"
        exact ⟨_, st, rfl, O, hst⟩
    · rw [hj]
      show tIfS _ _ _ ⟨_, _, _, _⟩ ((L2.start NM_law_endings_right [V.str z, V.str t]).set 2 (some (V.int j))) H1
      walk_at "go"
      refine NF.x_ite (fun h => ?_) (fun h => absurd (by rw [len_tl]; omega) h)
      walk_at "go"
      refine NF.use_spP (E := E0) O rfl ⟨z ++ t, by rw [tl_append, hj3]; rfl, by rw [len_app]; omega⟩ fun v H1 O ev => ?_
      exact k _ _ O ev
  · rintro _ H2 ⟨v, st, rfl, O, hst⟩
    have hlo := run_lo hst (fun _ h => absurd h List.not_mem_nil)
    have hlen : st.length ≤ z.length := by have := run_len hst; rw [len_tl]; simpa using this
    have hw : run (tl z ++ st.map (· - 32)) [] = some [] := by
      rw [run_append, hst]
      exact run_close hlo
    walk_at "go"
    refine NF.use_spP (E := E0) O rfl ⟨z, st, rfl, hz, hst⟩ fun v H1 O ⟨z2, st2, e2, hst2, ev⟩ => ?_
    cases e2
    rw [hst] at hst2
    cases hst2
    subst ev
    obtain ⟨wz, ewz⟩ : ∃ wz, wz = z ++ mkS (st.map (· - 32)) := ⟨_, rfl⟩
    have e1 : (mkS (st.map (· - 32))).length = st.length := by rw [len_mk, List.length_map]
    have hwl : wz.length = z.length + st.length := by rw [ewz, len_app, e1]
    have hwt : tl wz = tl z ++ st.map (· - 32) := by rw [ewz, tl_append]
    have hA : (Str.ofString "A").length = 1 := by decide +kernel
    have hwf : flt (tl wz) 0 [] = none := by rw [hwt, flt_of_run hw]; rfl
    walk_at "go"
    rw [← ewz]
    refine NF.x_cut (fun σ H' => ∃ (v v2 : V), σ = [some (.str z), some (.str t), some v, some v2, some (.str wz)] ∧ Own H H' [] []) ?_ ?_
    · walk_at "go"
      refine NF.use_spP (E := E0) O rfl ⟨wz, by rw [hwf]; rfl, by omega⟩ fun v H1 O ev => ?_
      subst ev
      walk_at "go"
      have e2 : flt (tl (wz ++ Str.ofString "A")) 0 [] = some wz.length := by
        rw [tl_append, flt_run _ (by rw [hwt]; exact hw), show tl (Str.ofString "A") = [65] by rw [tl_ofString]; decide +kernel, Nat.zero_add, ← len_tl]
        rfl
      refine NF.use_spP (E := E0) O rfl ⟨wz ++ Str.ofString "A", by rw [e2]; rfl, by rw [len_app, hA]; omega⟩ fun v H1 O ev => ?_
      subst ev
      walk_at "go"
      exact ⟨_, _, rfl, O⟩
    · rintro _ H2 ⟨v, v2, rfl, O⟩
      walk_at "go"
      refine NF.x_cut (fun σ H' => ∃ (v v2 : V), σ = [some (.str z), some (.str t), some v, some v2, some (.str wz)] ∧ Own H H' [] []) ?_ ?_
      · walk_at "go"
        refine NF.x_ite (fun h => ?_) (fun h => ?_)
        · walk_at "go"
          have e3 : flt (tl (cutS wz none (some ((wz.length : Int) - 1)))) 0 [] = some (wz.length - 1) := by
            have e4 : ((wz.length : Int) - 1) = ((wz.length - 1 : Nat) : Int) := by omega
            rw [e4, len_cutTo _ _ (by omega)]
            rcases flt_spec ((tl wz).take (wz.length - 1)) 0 [] with ⟨st', hst'⟩ | ⟨hn, j, hj, _, hj2, hj3⟩
            · rw [flt_of_run hst']
              have hl2 : ((tl wz).take (wz.length - 1)).length = wz.length - 1 := by rw [List.length_take, ← len_tl]; omega
              by_cases hs : st' = []
              · exfalso
                subst hs
                have h5 := (List.take_append_drop (wz.length - 1) (tl wz)).symm
                have h6 : run (tl wz) [] = some [] := by rw [hwt]; exact hw
                rw [h5, run_append, hst'] at h6
                have h7 : ((tl wz).drop (wz.length - 1)).length = 1 := by rw [List.length_drop, ← len_tl]; omega
                obtain ⟨c, hc⟩ := List.length_eq_one_iff.mp h7
                rw [hc] at h6
                have h6 : run [c] [] = some [] := h6
                rw [run_cons] at h6
                by_cases hcl : 97 ≤ c ∧ c ≤ 104
                · rw [if_pos hcl] at h6; cases h6
                · rw [if_neg hcl] at h6; cases h6
              · rw [if_neg hs, hl2, Nat.zero_add]
            · exfalso
              have h5 := hj3 ((tl wz).drop (wz.length - 1))
              rw [List.take_append_drop, hwf] at h5
              cases h5
          refine NF.use_spP (E := E0) O rfl ⟨cutS wz none (some ((wz.length : Int) - 1)), by rw [e3]; show _ = [_, V.int ((wz.length - 1 : Nat) : Int)]; rw [show ((wz.length - 1 : Nat) : Int) = (wz.length : Int) - 1 by omega]; rfl, by have := len_cut wz none (some ((wz.length : Int) - 1)); omega⟩ fun v H1 O ev => ?_
          subst ev
          walk_at "go"
          exact ⟨_, _, rfl, O⟩
        · walk_at "go"
          exact ⟨_, _, rfl, O⟩
      · rintro _ H2 ⟨v, v2, rfl, O⟩
        walk_at "go"
        refine NF.use_spP (E := E0) O rfl ⟨z ++ t, rfl, by rw [len_app]; omega⟩ fun v H1 O ⟨z2, e2, ev⟩ => ?_
        cases e2
        subst ev
        walk_at "go"
        refine NF.use_spP (E := E0) O rfl ⟨z ++ t, rfl, by rw [len_app]; omega⟩ fun v H1 O ev => ?_
        exact k _ _ O ev


def spLaw (K : PySem.W.Frag) : Sp := fun vs H Q _ => ∃ (a : Addr) (ns : List Int), vs = [.ref a] ∧ SqL K H a (ns.map V.int) ∧ ns.length ≤ 63 ∧ ∀ H', Q (.bl true) H'
theorem hl_spLaw {K : PySem.W.Frag} : ∀ vs H Q E, spLaw K vs H Q E → vs.length = 1 := fun vs H Q E h => by
  obtain ⟨a, ns, rfl, _⟩ := h
  rfl
abbrev NM_law : List Str := ["script", "box", "text", "tail_count", "tail", "one", "other", "ahead", "behind", "k"]
theorem sc_law : FnScope NM_law ["script"] (defScope s_law) := ⟨rfl, rfl, rfl, by decide +kernel, rfl, by decide +kernel, by decide +kernel⟩
theorem d_law {f : Addr} {fd : FuncData} (F : Fun K "law" "law" s_law f fd) (T : Txt K mg) (D_law_box : Def P w K mg base 1 "_law_box" ["script"] (spBox K)) (D_law_string : Def P w K mg base 4 "_law_string" ["box"] spString) (D_law_draw : Def P w K mg base 1 "_law_draw" ["box", "many"] spDraw) (D_law_word : Def P w K mg base 2 "_law_word" ["box"] spWord) (D_law_other : Def P w K mg base 3 "_law_other" ["box", "one"] spOther) (D_law_endings_right : Def P w K mg base 4 "_law_endings_right" ["text", "tail"] (spTrue 2 (fun vs => ∃ z t, vs = [.str z, .str t] ∧ z.length ≤ 1000000 ∧ t.length ≤ 1000000))) (D_law_order_right : Def P w K mg base 4 "_law_order_right" ["ahead", "one", "other", "behind"] (spTrue 4 (fun vs => ∃ p a b q, vs = [.str p, .str a, .str b, .str q] ∧ p.length ≤ 1000000 ∧ q.length ≤ 1000000 ∧ a.length ≤ 1000 ∧ b.length ≤ 1000 ∧ (∀ c ∈ tl a, isL c) ∧ ∀ c ∈ tl b, isL c))) (D_law_char : Def P w K mg base 2 "_law_char" ["box"] spChar) (D_law_beginnings_right : Def P w K mg base 4 "_law_beginnings_right" ["box", "text"] (spB 1 BxD (fun r => ∃ z, r = [.str z] ∧ z.length ≤ 200000) (fun _ v => v = .bl true))) :
    FnOk P w K mg base CX0 5 f fd ["script"] (spLaw K) := by
  refine F.ok sc_law (by first | exact NF.hl_spB | exact NF.hl_spP | exact NF.hl_spNew | exact hl_spLaw) (fun cdv A outer s H vs Q E hr h => ?_)
  refine ⟨_, (pss_cons (ps_set (i := 1) sc_law.nd rfl (Or.inr rfl) (pe_d D_law_box (hr.mono (by decide)) rfl (pa_cons (pv 0) pa_nil)))
      (pss_cons (ps_set (i := 2) sc_law.nd rfl (Or.inl rfl) (pe_d D_law_string (hr.mono (by decide)) rfl (pa_cons (pv 1) pa_nil)))
      (pss_cons (ps_set (i := 3) sc_law.nd rfl (Or.inl rfl) (pe_d D_law_draw (hr.mono (by decide)) rfl (pa_cons (pv 1) (pa_cons pe_int pa_nil))))
      (pss_cons (ps_set (i := 4) sc_law.nd rfl (Or.inl rfl) (pe_bm PySem.F.plainAttrs_str PySem.F.slot_str_join PySem.F.type_str_join mtJoin pe_str (pa_cons (pe_lc (own := [("k", 9)]) (g := gName 9) rfl sc_law.nd (pi_range1 (by rfl) T.b_range (pa_cons (pv 3) pa_nil)) (blkOk_by (own := [("k", 9)]) (N := NM_law) (sc := defScope s_law) (by decide +kernel)) (fun _ _ _ _ _ => pg_name (i := 9) sc_law.nd rfl (Or.inl rfl)) (fun _ _ _ _ _ => pts_nil) (fun _ _ _ _ _ => (pe_d D_law_char (hr.mono (by decide)) rfl (pa_cons (pv 1) pa_nil)))) pa_nil)))
      (pss_cons (ps_set (i := 5) sc_law.nd rfl (Or.inl rfl) (pe_d D_law_word (hr.mono (by decide)) rfl (pa_cons (pv 1) pa_nil)))
      (pss_cons (ps_set (i := 6) sc_law.nd rfl (Or.inl rfl) (pe_d D_law_other (hr.mono (by decide)) rfl (pa_cons (pv 1) (pa_cons (pv 5) pa_nil))))
      (pss_cons (ps_set (i := 7) sc_law.nd rfl (Or.inl rfl) (pe_d D_law_word (hr.mono (by decide)) rfl (pa_cons (pv 1) pa_nil)))
      (pss_cons (ps_set (i := 8) sc_law.nd rfl (Or.inl rfl) (pe_d D_law_word (hr.mono (by decide)) rfl (pa_cons (pv 1) pa_nil)))
      (Evl.pss_cut (ps_if (pt_cmpR op_eq (pe_d D_law_draw (hr.mono (by decide)) rfl (pa_cons (pv 1) (pa_cons pe_int pa_nil))) pe_int (nomark _))
      (pss_cons (ps_set (i := 7) sc_law.nd rfl (Or.inl rfl) (pe_op opMulS (pv 7) pe_int))
      (pss_one (ps_set (i := 8) sc_law.nd rfl (Or.inl rfl) (pe_op opMulS (pv 8) pe_int))))
      pss_nil)
      (pss_cons (ps_if (PW.pt (pw_or (pt_cmpR op_ne (pe_g rfl T.g_NAMES) pe_str (nomark _)) (pw_or1 (pt_not (pt_val (pe_d D_law_beginnings_right (hr.mono (by decide)) rfl (pa_cons (pv 1) (pa_cons (pv 2) pa_nil))))))))
      (pss_one (ps_ret pe_bl))
      pss_nil)
      (pss_one (ps_ret (pe_and (pe_d D_law_endings_right (hr.mono (by decide)) rfl (pa_cons (pv 2) (pa_cons (pv 4) pa_nil))) (pe_one (pe_d D_law_order_right (hr.mono (by decide)) rfl (pa_cons (pv 7) (pa_cons (pv 5) (pa_cons (pv 6) (pa_cons (pv 8) pa_nil))))))))))))))))))), ?_⟩
  try dsimp only [cxOf, Cx.nox, Cx.wish]
  obtain ⟨sa, ns, rfl, hS, hns, k⟩ := h
  have O := NF.Own.refl0 H
  walk_at "go"
  refine ⟨sa, ns, rfl, hS, hns, fun a A H1 M hB hO => ?_⟩
  have O := hO _ _ O
  walk_at "go"
  refine x_tx (E := E0) (rest := []) O hB rfl trivial fun text H1 M1 htext hB O => ?_
  walk_at "go"
  refine x_draw O hB (by decide) (by decide) fun tc H1 M1 t0 t1 hB O => ?_
  walk_at "go"
  refine NF.lc_rng1 (by omega) O (fun i acc M' => In BxD a A M' ∧ ∃ l : List Nat, acc = l.map ch) ⟨hB, [], rfl⟩ ?_ ?_
  · rintro i H2 M2 p acc hi hl ⟨hB, l, rfl⟩ O
    walk_at "go"
    refine x_tx (E := E0) (rest := []) O hB rfl trivial fun z1 H1 M1 ⟨c, ec⟩ hB O => ?_
    subst ec
    exact lc_done O hl (by rw [sizeLine_eq]; omega) ⟨hB, l ++ [c], map_snoc l c⟩
  rintro p H2 M2 acc hp hl ⟨hB, l, rfl⟩ O
  rw [List.length_map] at hl
  simp only [List.nil_append] at O
  walk_at "go"
  refine NF.x_join l (O.get 0 rfl) (by omega) ?_
  walk_at "go"
  refine x_tx (E := E0) (rest := []) O hB rfl trivial fun one H1 M1 ⟨h1, hL1⟩ hB O => ?_
  walk_at "go"
  refine x_tx (E := E0) (rest := [.str one]) O hB rfl ⟨one, rfl, h1, hL1⟩ fun other H1 M1 ⟨h2, hL2⟩ hB O => ?_
  walk_at "go"
  refine x_tx (E := E0) (rest := []) O hB rfl trivial fun ahead H1 M1 ⟨h3, hL3⟩ hB O => ?_
  walk_at "go"
  refine x_tx (E := E0) (rest := []) O hB rfl trivial fun behind H1 M1 ⟨h4, hL4⟩ hB O => ?_
  walk_at "go"
  have e200 := len_mul ahead 200
  have e201 := len_mul behind 200
  simp only [Int.reduceToNat] at e200 e201
  refine NF.x_cut (fun σ H' => ∃ (u9 : Option V) (ahead behind : Str) (M' : List (Addr × HO)) (R : List (Addr × HO)), σ = [some (.ref sa), some (.ref a), some (.str text), some (.int tc), some (.str (mkS l)), some (.str one), some (.str other), some (.str ahead), some (.str behind), u9] ∧
    In BxD a A M' ∧ Own H H' M' R ∧ ahead.length ≤ 10000 ∧ behind.length ≤ 10000) ?_ ?_
  · walk_at "go"
    refine x_draw O hB (by decide) (by decide) fun d H1 M1 d0 d1 hB O => ?_
    walk_at "go"
    refine NF.x_iteI (fun h0 => ?_) (fun h0 => ?_)
    · walk_at "go"
      refine NF.x_mulS (by omega) (by decide) (by decide) (by rw [sizeLine_eq]; simp only [Int.reduceToNat]; omega) ?_
      walk_at "go"
      refine NF.x_mulS (by omega) (by decide) (by decide) (by rw [sizeLine_eq]; simp only [Int.reduceToNat]; omega) ?_
      walk_at "go"
      exact ⟨_, _, _, _, _, rfl, hB, O, by omega, by omega⟩
    · walk_at "go"
      exact ⟨_, _, _, _, _, rfl, hB, O, by omega, by omega⟩
  · rintro _ H2 ⟨u9, ahead, behind, M2, R2, rfl, hB, O, h5, h6⟩
    walk_at "go"
    refine NF.x_itnS (fun h0 => absurd rfl h0) (fun _ => ?_)
    walk_at "go"
    refine NF.use_spB (E := E0) (rest := [.str text]) O hB rfl ⟨text, rfl, by omega⟩ fun v H1 M1 hB O ev => ?_
    subst ev
    walk_at "go"
    refine NF.use_spP (E := E0) O rfl ⟨text, mkS l, rfl, by omega, by rw [len_mk]; omega⟩ fun v H1 O ev => ?_
    subst ev
    walk_at "go"
    refine NF.use_spP (E := E0) O rfl ⟨ahead, one, other, behind, rfl, by omega, by omega, by omega, by omega, hL1, hL2⟩ fun v H1 O ev => ?_
    subst ev
    exact k _


end
theorem all_mk {l : PySem.W.OpenLaw} {w : World} {K : PySem.W.Frag} {h : Heap} {mg : Str → Option Value} {fa : Addr} (X : K.In h) (G : h.Ns mainGlobals mg) (hfa : mg "law" = some (.ref fa))
    (h_law_box : Has K "_law_box" s_law_box)
    (h_law_draw : Has K "_law_draw" s_law_draw)
    (h_law_nested : Has K "_law_nested" s_law_nested)
    (h_law_long : Has K "_law_long" s_law_long)
    (h_law_char : Has K "_law_char" s_law_char)
    (h_law_bent_text : Has K "_law_bent_text" s_law_bent_text)
    (h_law_string : Has K "_law_string" s_law_string)
    (h_law_word : Has K "_law_word" s_law_word)
    (h_law_other : Has K "_law_other" s_law_other)
    (h_law_fault : Has K "_law_fault" s_law_fault)
    (h_law_ending : Has K "_law_ending" s_law_ending)
    (h_fault : Has K "fault" s_fault)
    (h_is_nested : Has K "is_nested" s_is_nested)
    (h_law_is : Has K "_law_is" s_law_is)
    (h_law_right : Has K "_law_right" s_law_right)
    (h_law_endings_right : Has K "_law_endings_right" s_law_endings_right)
    (h_law_less : Has K "_law_less" s_law_less)
    (h_order_key : Has K "order_key" s_order_key)
    (h_lesser : Has K "lesser" s_lesser)
    (h_law_lesser_right : Has K "_law_lesser_right" s_law_lesser_right)
    (h_law_order_right : Has K "_law_order_right" s_law_order_right)
    (h_law_beginnings_right : Has K "_law_beginnings_right" s_law_beginnings_right)
    (h_law : Has K "law" s_law)
    (z_bool : PySem.W.nsIn K mainGlobals "bool" = some none)
    (z_enumerate : PySem.W.nsIn K mainGlobals "enumerate" = some none)
    (z_int : PySem.W.nsIn K mainGlobals "int" = some none)
    (z_isinstance : PySem.W.nsIn K mainGlobals "isinstance" = some none)
    (z_len : PySem.W.nsIn K mainGlobals "len" = some none)
    (z_list : PySem.W.nsIn K mainGlobals "list" = some none)
    (z_max : PySem.W.nsIn K mainGlobals "max" = some none)
    (z_min : PySem.W.nsIn K mainGlobals "min" = some none)
    (z_range : PySem.W.nsIn K mainGlobals "range" = some none)
    (y_NAMES : HasC K "NAMES" (.str "abcdefgh"))
    (y_CLOSINGS : HasC K "_CLOSINGS" (.str "ABCDEFGH"))
    : ∃ fd : FuncData, (∀ (s : Shared) (v : Value), BindsTo s fd ⟨[v], []⟩ [("script", v)]) ∧ ∀ base : Heap, K.In base → base.Ns mainGlobals mg → FnOk l.prog w K mg base CX0 5 fa fd ["script"] (spLaw K) := by
  have T : Txt K mg := ⟨PySem.W.mg_none_of X G z_bool, PySem.W.mg_none_of X G z_enumerate, PySem.W.mg_none_of X G z_int, PySem.W.mg_none_of X G z_isinstance, PySem.W.mg_none_of X G z_len, PySem.W.mg_none_of X G z_list, PySem.W.mg_none_of X G z_max, PySem.W.mg_none_of X G z_min, PySem.W.mg_none_of X G z_range, y_NAMES.mg X G, y_CLOSINGS.mg X G⟩
  refine law_end X G hfa h_law (fun _ _ _ _ _ _ s v => .of_eq rfl) fun base fd F => ?_
  have D_law_box := d_law_box (P := l.prog) (w := w) (base := base) (h_law_box.fn X G) T 
  have D_law_draw := d_law_draw (P := l.prog) (w := w) (base := base) (h_law_draw.fn X G) T 
  have D_law_nested := d_law_nested (P := l.prog) (w := w) (base := base) (h_law_nested.fn X G) T D_law_draw
  have D_law_long := d_law_long (P := l.prog) (w := w) (base := base) (h_law_long.fn X G) T D_law_draw
  have D_law_char := d_law_char (P := l.prog) (w := w) (base := base) (h_law_char.fn X G) T D_law_draw
  have D_law_bent_text := d_law_bent_text (P := l.prog) (w := w) (base := base) (h_law_bent_text.fn X G) T D_law_draw D_law_char
  have D_law_string := d_law_string (P := l.prog) (w := w) (base := base) (h_law_string.fn X G) T D_law_draw D_law_nested D_law_long D_law_bent_text D_law_char
  have D_law_word := d_law_word (P := l.prog) (w := w) (base := base) (h_law_word.fn X G) T D_law_draw
  have D_law_other := d_law_other (P := l.prog) (w := w) (base := base) (h_law_other.fn X G) T D_law_draw D_law_word
  have D_law_fault := d_law_fault (P := l.prog) (w := w) (base := base) (h_law_fault.fn X G) T 
  have D_law_ending := d_law_ending (P := l.prog) (w := w) (base := base) (h_law_ending.fn X G) T 
  have D_fault := d_fault (P := l.prog) (w := w) (base := base) (h_fault.fn X G) T 
  have D_is_nested := d_is_nested (P := l.prog) (w := w) (base := base) (h_is_nested.fn X G) T D_fault
  have D_law_is := d_law_is (P := l.prog) (w := w) (base := base) (h_law_is.fn X G) T 
  have D_law_right := d_law_right (P := l.prog) (w := w) (base := base) (h_law_right.fn X G) T D_fault D_is_nested D_law_is
  have D_law_endings_right := d_law_endings_right (P := l.prog) (w := w) (base := base) (h_law_endings_right.fn X G) T D_law_fault D_law_ending D_law_right
  have D_law_less := d_law_less (P := l.prog) (w := w) (base := base) (h_law_less.fn X G) T 
  have D_order_key := d_order_key (P := l.prog) (w := w) (base := base) (h_order_key.fn X G) T 
  have D_lesser := d_lesser (P := l.prog) (w := w) (base := base) (h_lesser.fn X G) T D_order_key
  have D_law_lesser_right := d_law_lesser_right (P := l.prog) (w := w) (base := base) (h_law_lesser_right.fn X G) T D_lesser
  have D_law_order_right := d_law_order_right (P := l.prog) (w := w) (base := base) (h_law_order_right.fn X G) T D_law_less D_law_lesser_right
  have D_law_beginnings_right := d_law_beginnings_right (P := l.prog) (w := w) (base := base) (h_law_beginnings_right.fn X G) T D_law_right D_law_draw D_law_fault
  exact d_law F T D_law_box D_law_string D_law_draw D_law_word D_law_other D_law_endings_right D_law_order_right D_law_char D_law_beginnings_right
theorem walk {l : PySem.W.OpenLaw} {q : Program} {loose : List Str} {XP : (Str → Option Value) → Heap → Prop} {YP : World → Heap → Prop} {d : DefRec} {K : Params → PySem.W.Frag} (hn : l.most = some 63) (hdf : d.params.defaults = [])
    (hY : ∀ (w : World) (h : Heap), YP w h → (K w.params).In h)
    (F : ∀ (w : World) (mg : Str → Option Value) (fa : Addr) (h : Heap), (K w.params).In h → h.Ns mainGlobals mg → mg d.name = some (.ref fa) →
      ∃ fd : FuncData, (∀ (s : Shared) (u : Value), BindsTo s fd ⟨[u], []⟩ [("script", u)]) ∧ ∀ base : Heap, (K w.params).In base → base.Ns mainGlobals mg → FnOk l.prog w (K w.params) mg base CX0 5 fa fd ["script"] (spLaw (K w.params))) :
    PySem.W.WalkO q loose XP YP l.row.toRowW d [] (fun f vs => PySem.call f vs) :=
  L2.walk_of (n := 63) (k := 5) (x := "script") (CX := fun _ => CX0) (sp := fun w => spLaw (K w.params)) hn (by decide) hdf ⟨rfl, by decide, by decide⟩ hY F (fun _ _ a ns hl _ hS => ⟨a, ns, rfl, hS, hl, fun _ => rfl⟩) fun _ _ _ _ _ z => z
end NF
open PySem PySem.W PyProof.Rows in
set_option maxRecDepth 100000 in
set_option maxHeartbeats 0 in
theorem PySem.Challenge.cw_nestform_k00_faults_of_strings_holds : PySem.Challenge.rw_nestform_k00_faults_of_strings.Holds := by
  w_on; o_law; k_head; (case hw => w_witness2)
  k_fill
  refine NF.walk (l := PySem.Challenge.rw_nestform_k00_faults_of_strings) rfl rfl (fun w h Y => PySem.W.kIn_of Y) ?F
  case F =>
    intro w mg fa h KX G hmg
    refine' NF.all_mk KX G hmg (NF.has_mk ?n0 ?l0 ?c0 ?k0) (NF.has_mk ?n1 ?l1 ?c1 ?k1) (NF.has_mk ?n2 ?l2 ?c2 ?k2) (NF.has_mk ?n3 ?l3 ?c3 ?k3) (NF.has_mk ?n4 ?l4 ?c4 ?k4) (NF.has_mk ?n5 ?l5 ?c5 ?k5) (NF.has_mk ?n6 ?l6 ?c6 ?k6) (NF.has_mk ?n7 ?l7 ?c7 ?k7) (NF.has_mk ?n8 ?l8 ?c8 ?k8) (NF.has_mk ?n9 ?l9 ?c9 ?k9) (NF.has_mk ?n10 ?l10 ?c10 ?k10) (NF.has_mk ?n11 ?l11 ?c11 ?k11) (NF.has_mk ?n12 ?l12 ?c12 ?k12) (NF.has_mk ?n13 ?l13 ?c13 ?k13) (NF.has_mk ?n14 ?l14 ?c14 ?k14) (NF.has_mk ?n15 ?l15 ?c15 ?k15) (NF.has_mk ?n16 ?l16 ?c16 ?k16) (NF.has_mk ?n17 ?l17 ?c17 ?k17) (NF.has_mk ?n18 ?l18 ?c18 ?k18) (NF.has_mk ?n19 ?l19 ?c19 ?k19) (NF.has_mk ?n20 ?l20 ?c20 ?k20) (NF.has_mk ?n21 ?l21 ?c21 ?k21) (NF.has_mk ?n22 ?l22 ?c22 ?k22) ?z_bool ?z_enumerate ?z_int ?z_isinstance ?z_len ?z_list ?z_max ?z_min ?z_range (NF.hasC_mk ?y_NAMES ?r_NAMES) (NF.hasC_mk ?y_CLOSINGS ?r_CLOSINGS)
    (case n0 => k_is)
    (case l0 => k_is)
    (case c0 => k_is)
    (case k0 => k_is)
    (case n1 => k_is)
    (case l1 => k_is)
    (case c1 => k_is)
    (case k1 => k_is)
    (case n2 => k_is)
    (case l2 => k_is)
    (case c2 => k_is)
    (case k2 => k_is)
    (case n3 => k_is)
    (case l3 => k_is)
    (case c3 => k_is)
    (case k3 => k_is)
    (case n4 => k_is)
    (case l4 => k_is)
    (case c4 => k_is)
    (case k4 => k_is)
    (case n5 => k_is)
    (case l5 => k_is)
    (case c5 => k_is)
    (case k5 => k_is)
    (case n6 => k_is)
    (case l6 => k_is)
    (case c6 => k_is)
    (case k6 => k_is)
    (case n7 => k_is)
    (case l7 => k_is)
    (case c7 => k_is)
    (case k7 => k_is)
    (case n8 => k_is)
    (case l8 => k_is)
    (case c8 => k_is)
    (case k8 => k_is)
    (case n9 => k_is)
    (case l9 => k_is)
    (case c9 => k_is)
    (case k9 => k_is)
    (case n10 => k_is)
    (case l10 => k_is)
    (case c10 => k_is)
    (case k10 => k_is)
    (case n11 => k_is)
    (case l11 => k_is)
    (case c11 => k_is)
    (case k11 => k_is)
    (case n12 => k_is)
    (case l12 => k_is)
    (case c12 => k_is)
    (case k12 => k_is)
    (case n13 => k_is)
    (case l13 => k_is)
    (case c13 => k_is)
    (case k13 => k_is)
    (case n14 => k_is)
    (case l14 => k_is)
    (case c14 => k_is)
    (case k14 => k_is)
    (case n15 => k_is)
    (case l15 => k_is)
    (case c15 => k_is)
    (case k15 => k_is)
    (case n16 => k_is)
    (case l16 => k_is)
    (case c16 => k_is)
    (case k16 => k_is)
    (case n17 => k_is)
    (case l17 => k_is)
    (case c17 => k_is)
    (case k17 => k_is)
    (case n18 => k_is)
    (case l18 => k_is)
    (case c18 => k_is)
    (case k18 => k_is)
    (case n19 => k_is)
    (case l19 => k_is)
    (case c19 => k_is)
    (case k19 => k_is)
    (case n20 => k_is)
    (case l20 => k_is)
    (case c20 => k_is)
    (case k20 => k_is)
    (case n21 => k_is)
    (case l21 => k_is)
    (case c21 => k_is)
    (case k21 => k_is)
    (case n22 => k_is)
    (case l22 => k_is)
    (case c22 => k_is)
    (case k22 => k_is)
    (case z_bool => k_is)
    (case z_enumerate => k_is)
    (case z_int => k_is)
    (case z_isinstance => k_is)
    (case z_len => k_is)
    (case z_list => k_is)
    (case z_max => k_is)
    (case z_min => k_is)
    (case z_range => k_is)
    (case y_NAMES => k_is)
    (case y_CLOSINGS => k_is)
    (case r_NAMES => exact ⟨_, rfl⟩)
    (case r_CLOSINGS => exact ⟨_, rfl⟩)

