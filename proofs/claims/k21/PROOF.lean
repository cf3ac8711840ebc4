import PyProof.Rows.All
import Wide.All
import OpenK.AllK
import Wide.FinOn
import HandS.ForMost
import HandS.Wide
import HandS.Conv
import HandS.Evl
import HandS.IsInst
import HandS.TupMul
import KE.DatumOrd
import PyProof.Draws
import KE.GoesEnum
import PyProof.EnumMake
import HandS.Walk
import KE.KExcSuper
import HandS.ExcInit
import HandS.TryMany
import HandS.ExcOwn
import HandS.ExcField
import HandS.ExcIs
import HandS.ExcCtx
import HandS.HotCalls
import KE.KExcIs
import KE.KIsAll
import HandS.Defaults
import HandS.RaiseMore
import HandS.Property
import HandS.Dict
import HandS.Small
import HandS.More
import HandS.TupAny
import HandS.Gcd
import HandS.Style
import HandS.Replace
import PySem.Challenge.RW_nestform_k21_vectors_combine
set_option Elab.async false
set_option linter.all false
set_option maxRecDepth 100000
set_option maxHeartbeats 4000000
/-! Own toolkit over the hand layer: what is owned, steps, promises. -/
namespace NF
open PySem L2

/-! ### what is owned: B the heap at the start, M a part kept closed, R the open part -/
structure Own (B H : Hp) (M R : List (Addr × HO)) : Prop where
  nd : ((M ++ R).map Prod.fst).Nodup
  at_ : ∀ x ∈ M ++ R, H x.1 = some x.2
  out : ∀ b, b ∉ (M ++ R).map Prod.fst → ∀ o, B b = some o → H b = some o

section
variable {B H H' : Hp} {M R : List (Addr × HO)} {a p : Addr} {o u : HO}

theorem Own.get (O : Own B H M R) (j : Nat) (h : R[j]? = some (a, o)) : H a = some o :=
  O.at_ (a, o) (List.mem_append_right _ (List.mem_of_getElem? h))
theorem Own.refl0 (H : Hp) : Own H H [] [] := ⟨List.nodup_nil, fun _ h => absurd h List.not_mem_nil, fun _ _ _ h => h⟩
theorem Own.start (nd : (R.map Prod.fst).Nodup) (h : ∀ x ∈ R, H x.1 = some x.2) : Own H H [] R := ⟨nd, h, fun _ _ _ e => e⟩
theorem Own.addr_mem (O : Own B H M R) (h : x ∈ M ++ R) : x.1 ∈ (M ++ R).map Prod.fst := List.mem_map_of_mem h
theorem Own.fresh (O : Own B H M R) (h : H p = none) : p ∉ (M ++ R).map Prod.fst := fun q => by
  obtain ⟨x, hx, e⟩ := List.mem_map.mp q
  have := O.at_ x hx
  rw [e, h] at this
  cases this
theorem Own.base_free (O : Own B H M R) (h : H p = none) : B p = none := by
  cases e : B p with
  | none => rfl
  | some o =>
    have := O.out p (O.fresh h) o e
    rw [h] at this
    cases this
theorem Own.new (O : Own B H M R) (h : H p = none) : Own B (upd H p o) M (R ++ [(p, o)]) := by
  have hp := O.fresh h
  refine ⟨?_, fun x hx => ?_, fun b hb u e => ?_⟩
  · rw [← List.append_assoc, List.map_append]
    refine List.nodup_append.mpr ⟨O.nd, by simp, fun y hy z hz => ?_⟩
    have ez : z = p := by simpa using hz
    intro e
    rw [e, ez] at hy
    exact hp hy
  · rw [← List.append_assoc] at hx
    rcases List.mem_append.mp hx with hx | hx
    · have q := O.at_ x hx
      have n : x.1 ≠ p := fun e => by rw [e, h] at q; cases q
      rw [upd_ne n]
      exact q
    · have e : x = (p, o) := by simpa using hx
      rw [e]
      exact upd_same
  · rw [← List.append_assoc, List.map_append] at hb
    have h1 : b ∉ (M ++ R).map Prod.fst := fun q => hb (List.mem_append_left _ q)
    have h2 : b ≠ p := fun q => hb (List.mem_append_right _ (by simp [q]))
    rw [upd_ne h2]
    exact O.out b h1 u e
theorem nodup_fst {L : List (Addr × HO)} (nd : (L.map Prod.fst).Nodup) {i j : Nat} {x y : Addr × HO} (hi : L[i]? = some x) (hj : L[j]? = some y) (e : x.1 = y.1) : i = j := by
  have h1 : (L.map Prod.fst)[i]? = some x.1 := by rw [List.getElem?_map, hi]; rfl
  have h2 : (L.map Prod.fst)[j]? = some x.1 := by rw [List.getElem?_map, hj, e]; rfl
  exact nodup_at nd h1 h2
where
  nodup_at {l : List Addr} (nd : l.Nodup) {i j : Nat} {v : Addr} (hi : l[i]? = some v) (hj : l[j]? = some v) : i = j := by
    obtain ⟨h1, e1⟩ := List.getElem?_eq_some_iff.mp hi
    obtain ⟨h2, e2⟩ := List.getElem?_eq_some_iff.mp hj
    exact (List.getElem_inj (h₀ := h1) (h₁ := h2) nd).mp (e1.trans e2.symm)
theorem map_set_fst {R : List (Addr × HO)} {j : Nat} (h : R[j]? = some (a, o)) (u : HO) : (R.set j (a, u)).map Prod.fst = R.map Prod.fst := by
  refine List.ext_getElem? fun i => ?_
  rw [List.getElem?_map, List.getElem?_map, List.getElem?_set]
  by_cases e : j = i
  · subst e
    have hj : j < R.length := (List.getElem?_eq_some_iff.mp h).1
    rw [if_pos rfl, if_pos hj, h]
    rfl
  · rw [if_neg e]
theorem mem_set_or {R : List (Addr × HO)} {j : Nat} {x y : Addr × HO} (h : x ∈ R.set j y) : x = y ∨ ∃ i, i ≠ j ∧ R[i]? = some x := by
  obtain ⟨i, hi⟩ := List.getElem?_of_mem h
  rw [List.getElem?_set] at hi
  by_cases e : j = i
  · rw [if_pos e] at hi
    split at hi
    · exact .inl (Option.some.inj hi).symm
    · cases hi
  · rw [if_neg e] at hi
    exact .inr ⟨i, fun q => e q.symm, hi⟩
theorem Own.put (O : Own B H M R) (j : Nat) (h : R[j]? = some (a, o)) (u : HO) : Own B (upd H a u) M (R.set j (a, u)) := by
  have em : (M ++ R.set j (a, u)).map Prod.fst = (M ++ R).map Prod.fst := by
    rw [List.map_append, List.map_append, map_set_fst h u]
  have ha : a ∈ (M ++ R).map Prod.fst := List.mem_map.mpr ⟨(a, o), List.mem_append_right _ (List.mem_of_getElem? h), rfl⟩
  refine ⟨by rw [em]; exact O.nd, fun x hx => ?_, fun b hb v e => ?_⟩
  · rcases List.mem_append.mp hx with hx | hx
    · have q := O.at_ x (List.mem_append_left _ hx)
      have n : x.1 ≠ a := fun e => by
        have nd := O.nd
        rw [List.map_append] at nd
        exact (List.nodup_append.mp nd).2.2 _ (List.mem_map_of_mem hx) _ (List.mem_map.mpr ⟨(a, o), List.mem_of_getElem? h, rfl⟩) e
      rw [upd_ne n]
      exact q
    · rcases mem_set_or hx with rfl | ⟨i, ne, hi⟩
      · exact upd_same
      · have n : x.1 ≠ a := fun e => by
          have nd := O.nd
          rw [List.map_append] at nd
          exact ne (nodup_fst (List.nodup_append.mp nd).2.1 hi h e)
        rw [upd_ne n]
        exact O.at_ x (List.mem_append_right _ (List.mem_of_getElem? hi))
  · rw [em] at hb
    have n : b ≠ a := fun q => hb (q ▸ ha)
    rw [upd_ne n]
    exact O.out b hb v e
/-- a callee that had the closed part M0 and gives it back as M1, with new objects N -/
theorem Own.call {M0 M1 N : List (Addr × HO)} (O : Own B H M0 R) (C : Own H H' M1 N) (e : M1.map Prod.fst = M0.map Prod.fst) (hn : ∀ x ∈ N, H x.1 = none) : Own B H' M1 (R ++ N) := by
  have key : ∀ x ∈ R, x.1 ∉ (M1 ++ N).map Prod.fst := fun x hx q => by
    rw [List.map_append] at q
    rcases List.mem_append.mp q with q | q
    · rw [e] at q
      have nd := O.nd
      rw [List.map_append] at nd
      exact (List.nodup_append.mp nd).2.2 _ q _ (List.mem_map_of_mem hx) rfl
    · obtain ⟨y, hy, ey⟩ := List.mem_map.mp q
      have h1 := hn y hy
      have h2 := O.at_ x (List.mem_append_right _ hx)
      rw [ey, h2] at h1
      cases h1
  refine ⟨?_, fun x hx => ?_, fun b hb v q => ?_⟩
  · have nd1 := C.nd
    have nd0 := O.nd
    rw [List.map_append] at nd1 nd0
    rw [List.map_append, List.map_append]
    obtain ⟨a1, a2, a3⟩ := List.nodup_append.mp nd1
    obtain ⟨b1, b2, b3⟩ := List.nodup_append.mp nd0
    refine List.nodup_append.mpr ⟨a1, List.nodup_append.mpr ⟨b2, a2, fun y hy z hz e2 => ?_⟩, fun y hy z hz e2 => ?_⟩
    · obtain ⟨x, hx, ex⟩ := List.mem_map.mp hy
      refine key x hx ?_
      rw [List.map_append]
      rw [ex, e2]
      exact List.mem_append_right _ hz
    · rcases List.mem_append.mp hz with hz | hz
      · rw [e] at hy
        exact b3 _ hy _ hz e2
      · exact a3 _ hy _ hz e2
  · rcases List.mem_append.mp hx with hx | hx
    · exact C.at_ x (List.mem_append_left _ hx)
    · rcases List.mem_append.mp hx with hx | hx
      · exact C.out x.1 (key x hx) _ (O.at_ x (List.mem_append_right _ hx))
      · exact C.at_ x (List.mem_append_right _ hx)
  · rw [List.map_append, List.map_append] at hb
    have h1 : b ∉ (M0 ++ R).map Prod.fst := fun z => hb (by
      rw [List.map_append] at z
      rcases List.mem_append.mp z with z | z
      · exact List.mem_append_left _ (e ▸ z)
      · exact List.mem_append_right _ (List.mem_append_left _ z))
    have h2 : b ∉ (M1 ++ N).map Prod.fst := fun z => hb (by
      rw [List.map_append] at z
      rcases List.mem_append.mp z with z | z
      · exact List.mem_append_left _ z
      · exact List.mem_append_right _ (List.mem_append_right _ z))
    exact C.out b h2 _ (O.out b h1 v q)
theorem Own.call0 (O : Own B H M R) (C : Own H H' [] []) : Own B H' M R := by
  have h := Own.call (M0 := []) (M1 := []) (N := []) (R := M ++ R) (B := B) ⟨O.nd, O.at_, O.out⟩ C rfl (fun _ h => absurd h List.not_mem_nil)
  rw [List.append_nil] at h
  exact ⟨h.nd, h.at_, h.out⟩
theorem Own.callN {N : List (Addr × HO)} (O : Own B H M R) (C : Own H H' [] N) (hn : ∀ x ∈ N, H x.1 = none) : Own B H' M (R ++ N) := by
  have h := Own.call (M0 := []) (M1 := []) (N := N) (R := M ++ R) (B := B) ⟨O.nd, O.at_, O.out⟩ C rfl hn
  have e : [] ++ (M ++ R ++ N) = M ++ (R ++ N) := by rw [List.nil_append, List.append_assoc]
  rw [show Own B H' M (R ++ N) = Own B H' M (R ++ N) from rfl]
  exact ⟨by rw [← e]; exact h.nd, by rw [← e]; exact h.at_, by rw [← e]; exact h.out⟩
/-- only the closed part is told to a callee -/
theorem Own.sub (O : Own B H M R) : Own H H M [] := ⟨by
    rw [List.append_nil]
    have nd := O.nd
    rw [List.map_append] at nd
    exact (List.nodup_append.mp nd).1, fun x hx => O.at_ x (by
    rw [List.append_nil] at hx
    exact List.mem_append_left _ hx), fun _ _ _ e => e⟩
theorem Own.nil (O : Own B H [] R) : Own H H [] R := ⟨O.nd, O.at_, fun _ _ _ e => e⟩
/-- the end of a def: its own objects (not there at the start) are forgotten -/
theorem Own.drop (O : Own B H M R) (hn : ∀ x ∈ R, B x.1 = none) : Own B H M [] := ⟨by
    rw [List.append_nil]
    have nd := O.nd
    rw [List.map_append] at nd
    exact (List.nodup_append.mp nd).1, fun x hx => O.at_ x (by
    rw [List.append_nil] at hx
    exact List.mem_append_left _ hx), fun b hb o e => O.out b (fun q => by
    rw [List.map_append] at q
    rcases List.mem_append.mp q with q | q
    · exact hb (by rw [List.append_nil]; exact q)
    · obtain ⟨x, hx, ex⟩ := List.mem_map.mp q
      have := hn x hx
      rw [ex, e] at this
      cases this) o e⟩
theorem Own.dropTo {N : List (Addr × HO)} (O : Own B H M (R ++ N)) (hn : ∀ x ∈ R, B x.1 = none) : Own B H M N := ⟨by
    have nd := O.nd
    rw [List.map_append, List.map_append] at nd
    rw [List.map_append]
    obtain ⟨a1, a2, a3⟩ := List.nodup_append.mp nd
    exact List.nodup_append.mpr ⟨a1, (List.nodup_append.mp a2).2.1, fun y hy z hz => a3 y hy z (List.mem_append_right _ hz)⟩, fun x hx => O.at_ x (by
    rcases List.mem_append.mp hx with hx | hx
    · exact List.mem_append_left _ hx
    · exact List.mem_append_right _ (List.mem_append_right _ hx)), fun b hb o e => O.out b (fun q => by
    rw [List.map_append, List.map_append] at q
    rw [List.map_append] at hb
    rcases List.mem_append.mp q with q | q
    · exact hb (List.mem_append_left _ q)
    · rcases List.mem_append.mp q with q | q
      · obtain ⟨x, hx, ex⟩ := List.mem_map.mp q
        have := hn x hx
        rw [ex, e] at this
        cases this
      · exact hb (List.mem_append_right _ q)) o e⟩
end
end NF

/-! Own toolkit: one lemma a step of a reading. -/
namespace NF
open PySem L2
section
variable {K : PySem.W.Frag} {σ : St} {B H H' : Hp} {M R : List (Addr × HO)} {a p : Addr} {o u : HO} {Q : VK} {te ta tb tc : TE} {tt tu : TT} {tar : TA} {v x y : V} {i j : Int} {r : R2}
  {nx bk ct : St → Hp → Prop} {rt : VK} {g : TG} {s1 s2 : TS} {QA : List V → Hp → Prop} {QT : Bool → Hp → Prop} {QO : Option Int → Hp → Prop} {z z1 z2 : Str} {xs ys : List V} {n : Nat} {sp : Sp} {E : XK} {dvs : List V}

/-- a new list, a new tuple is asked for -/
def newL (xs : List V) (H : Hp) (Q : VK) : Prop := xs.length ≤ sizeLine ∧ ∀ p, H p = none → Q (.ref p) (upd H p (.lst xs))
def newT (xs : List V) (H : Hp) (Q : VK) : Prop := xs.length ≤ sizeLine ∧ ∀ p, H p = none → Q (.ref p) (upd H p (.tup xs))
/-! #### expressions -/
theorem x_var {k : Nat} (h : σ[k]? = some (some v)) (q : Q v H) : tVar k σ H Q := ⟨v, h, q⟩
theorem x_c (q : Q v H) : tC v σ H Q := q
theorem x_op (q : ta σ H fun x H1 => tb σ H1 fun y H2 => r x y H2 Q) : tOp r ta tb σ H Q := q
theorem x_un {r : V → Hp → VK → Prop} (q : ta σ H fun x H1 => r x H1 Q) : tUn r ta σ H Q := q
theorem x_if (q : tt σ H fun c H1 => if c = true then ta σ H1 Q else tb σ H1 Q) : tIf tt ta tb σ H Q := q
theorem x_I0 {g : Int → Int → V} (q : Q (g i j) H) : rI0 g (.int i) (.int j) H Q := ⟨i, j, rfl, rfl, q⟩
theorem x_I {C : Int → Int → Prop} {g : Int → Int → V} (hc : C i j) (q : Q (g i j) H) : rI C g (.int i) (.int j) H Q := ⟨i, j, rfl, rfl, hc, q⟩
theorem x_U {g : Int → V} (q : Q (g i) H) : rU g (.int i) H Q := ⟨i, rfl, q⟩
theorem x_eq (h : scal x y = true) (q : Q (.bl (decide (x = y))) H) : rEq x y H Q := ⟨h, q⟩
theorem x_ne (h : scal x y = true) (q : Q (.bl (!decide (x = y))) H) : rNe x y H Q := ⟨h, q⟩
theorem x_ixL (h : H a = some (.lst xs)) (hv : atI xs i = some v) (q : Q v H) : rIxL K (.ref a) (.int i) H Q := ⟨a, xs, i, v, rfl, rfl, SqL.of h, hv, q⟩
theorem x_ixT (h : H a = some (.tup xs)) (hv : atI xs i = some v) (q : Q v H) : rIxT K (.ref a) (.int i) H Q := ⟨a, xs, i, v, rfl, rfl, SqT.of h, hv, q⟩
theorem x_ixS {c : Nat} (hz : z.length ≤ sizeLine) (hv : atI z.cps.toList i = some c) (q : Q (.str ⟨#[c]⟩) H) : rIxS (.str z) (.int i) H Q := ⟨z, i, c, rfl, rfl, hz, hv, q⟩
/-! #### tests -/
theorem x_test (q : te σ H fun x H' => ∃ k, x = .bl k ∧ QT k H') : tTest te σ H QT := q
theorem x_B (q : te σ H fun x H' => ∃ k, x = .bl k ∧ QT k H') : tB te σ H QT := q
theorem x_bl {P : Bool → Prop} {b : Bool} (q : P b) : ∃ k, V.bl b = .bl k ∧ P k := ⟨b, rfl, q⟩
theorem x_and (q : tt σ H fun c H1 => if c = true then tu σ H1 QT else QT false H1) : tAnd tt tu σ H QT := q
theorem x_or (q : tt σ H fun c H1 => if c = true then QT true H1 else tu σ H1 QT) : tOr tt tu σ H QT := q
theorem x_not (q : tt σ H fun c H1 => QT (!c) H1) : tNot tt σ H QT := q
theorem x_andV (q : ta σ H fun x H1 => ∃ c, x = .bl c ∧ if c = true then tb σ H1 Q else Q (.bl false) H1) : tAndV ta tb σ H Q := q
theorem x_orV (q : ta σ H fun x H1 => ∃ c, x = .bl c ∧ if c = true then Q (.bl true) H1 else tb σ H1 Q) : tOrV ta tb σ H Q := q
theorem x_notV (q : ta σ H fun x H1 => ∃ c, x = .bl c ∧ Q (.bl (!c)) H1) : tNotV ta σ H Q := q
theorem x_ite {p : Prop} [Decidable p] {A C : Prop} (h1 : p → A) (h2 : ¬ p → C) : if decide p = true then A else C := by
  by_cases h : p
  · rw [decide_eq_true h, if_pos rfl]; exact h1 h
  · rw [decide_eq_false h, if_neg Bool.false_ne_true]; exact h2 h
theorem x_itn {p : Prop} [Decidable p] {A C : Prop} (h1 : ¬ p → A) (h2 : p → C) : if (!decide p) = true then A else C := by
  by_cases h : p
  · rw [decide_eq_true h, Bool.not_true, if_neg Bool.false_ne_true]; exact h2 h
  · rw [decide_eq_false h, Bool.not_false, if_pos rfl]; exact h1 h
theorem x_itb {b : Bool} {A C : Prop} (h1 : b = true → A) (h2 : b = false → C) : if b = true then A else C := by
  cases b
  · rw [if_neg Bool.false_ne_true]; exact h2 rfl
  · rw [if_pos rfl]; exact h1 rfl
theorem x_tt {A C : Prop} (h : A) : if true = true then A else C := by rw [if_pos rfl]; exact h
theorem x_nt {A C : Prop} (h : C) : if (!true) = true then A else C := h
theorem x_nf {A C : Prop} (h : A) : if (!false) = true then A else C := h
theorem x_ff {A C : Prop} (h : C) : if false = true then A else C := by rw [if_neg Bool.false_ne_true]; exact h
theorem x_andP {b1 b2 : Bool} (h1 : ∀ QT : Bool → Hp → Prop, QT b1 H → tt σ H QT) (h2 : b1 = true → ∀ QT : Bool → Hp → Prop, QT b2 H → tu σ H QT) (q : QT (b1 && b2) H) : tAnd tt tu σ H QT := by
  refine h1 _ ?_
  cases b1 with
  | true => exact h2 rfl _ q
  | false => exact q
theorem x_orP {b1 b2 : Bool} (h1 : ∀ QT : Bool → Hp → Prop, QT b1 H → tt σ H QT) (h2 : b1 = false → ∀ QT : Bool → Hp → Prop, QT b2 H → tu σ H QT) (q : QT (b1 || b2) H) : tOr tt tu σ H QT := by
  refine h1 _ ?_
  cases b1 with
  | false => exact h2 rfl _ q
  | true => exact q
/-- and, or of two tests -/
theorem x_iteA {b1 b2 : Bool} {A C : Prop} (h1 : b1 = true → b2 = true → A) (h2 : ¬ (b1 = true ∧ b2 = true) → C) : if b1 = true then (if b2 = true then A else C) else C := by
  cases b1 <;> cases b2 <;> simp_all
theorem x_iteO {b1 b2 : Bool} {A C : Prop} (h1 : b1 = true ∨ b2 = true → A) (h2 : b1 = false → b2 = false → C) : if b1 = true then A else (if b2 = true then A else C) := by
  cases b1 <;> cases b2 <;> simp_all
theorem x_iteI {A C : Prop} (h1 : i = j → A) (h2 : i ≠ j → C) : if decide (V.int i = V.int j) = true then A else C := x_ite (fun h => h1 (V.int.inj h)) (fun h => h2 fun e => h (e ▸ rfl))
theorem x_itnI {A C : Prop} (h1 : i ≠ j → A) (h2 : i = j → C) : if (!decide (V.int i = V.int j)) = true then A else C := x_itn (fun h => h1 fun e => h (e ▸ rfl)) (fun h => h2 (V.int.inj h))
theorem x_iteS {A C : Prop} (h1 : z1 = z2 → A) (h2 : z1 ≠ z2 → C) : if decide (V.str z1 = V.str z2) = true then A else C := x_ite (fun h => h1 (V.str.inj h)) (fun h => h2 fun e => h (e ▸ rfl))
theorem x_itnS {A C : Prop} (h1 : z1 ≠ z2 → A) (h2 : z1 = z2 → C) : if (!decide (V.str z1 = V.str z2)) = true then A else C := x_itn (fun h => h1 fun e => h (e ▸ rfl)) (fun h => h2 (V.str.inj h))
/-! #### arguments, displays, calls -/
theorem x_nil (q : QA [] H) : tNil σ H QA := q
theorem x_cons (q : ta σ H fun x H1 => tar σ H1 fun xs H2 => QA (x :: xs) H2) : tCons ta tar σ H QA := q
theorem x_lst (q : tar σ H fun xs H1 => newL xs H1 Q) : tLst tar σ H Q := q
theorem x_tup (q : tar σ H fun xs H1 => newT xs H1 Q) : tTup tar σ H Q := q
/-- a new object goes behind what is owned -/
theorem x_newL (O : Own B H M R) (hz : xs.length ≤ sizeLine) (q : ∀ p H1, B p = none → Own B H1 M (R ++ [(p, .lst xs)]) → Q (.ref p) H1) : newL xs H Q := ⟨hz, fun p hp => q p _ (O.base_free hp) (O.new hp)⟩
theorem x_newT (O : Own B H M R) (hz : xs.length ≤ sizeLine) (q : ∀ p H1, B p = none → Own B H1 M (R ++ [(p, .tup xs)]) → Q (.ref p) H1) : newT xs H Q := ⟨hz, fun p hp => q p _ (O.base_free hp) (O.new hp)⟩
theorem x_cb {r : List V → Hp → VK → Prop} (q : tar σ H fun vs H1 => r vs H1 Q) : tCB r tar σ H Q := q
theorem x_call (q : tar σ H fun vs H1 => sp (vs ++ dvs) H1 Q E) : tCall sp dvs E tar σ H Q := q
/-! #### statements -/
theorem x_seq (q : s1 ⟨s2 ⟨nx, rt, bk, ct⟩, rt, bk, ct⟩ σ H) : tSeq s1 s2 ⟨nx, rt, bk, ct⟩ σ H := q
theorem x_cut (Mid : St → Hp → Prop) (q : s1 ⟨Mid, rt, bk, ct⟩ σ H) (k : ∀ σ' H', Mid σ' H' → s2 ⟨nx, rt, bk, ct⟩ σ' H') : Evl.tCut s1 s2 ⟨nx, rt, bk, ct⟩ σ H := ⟨Mid, q, k⟩
theorem x_asg (q : te σ H fun x H1 => g x σ H1 nx) : tAsg te g ⟨nx, rt, bk, ct⟩ σ H := q
theorem x_name {k : Nat} {QS : St → Hp → Prop} (q : QS (σ.set k (some v)) H) : gName k v σ H QS := q
theorem x_sub {to ti : TE} {t : TSet} {QS : St → Hp → Prop} (q : to σ H fun o H1 => ti σ H1 fun i H2 => t o i v H2 fun H3 => QS σ H3) : gSub to ti t v σ H QS := q
theorem x_setL {QH : Hp → Prop} (O : Own B H M R) (k : Nat) (hk : R[k]? = some (a, .lst xs)) (hi : ixN xs.length i = some n) (q : ∀ H1, Own B H1 M (R.set k (a, .lst (xs.set n v))) → QH H1) : rSetL (.ref a) (.int i) v H QH :=
  ⟨a, xs, i, n, rfl, rfl, O.get k hk, hi, q _ (O.put k hk _)⟩
theorem x_drop (q : te σ H fun _ H1 => nx σ H1) : tDrop te ⟨nx, rt, bk, ct⟩ σ H := q
theorem x_ret (q : te σ H rt) : tRet te ⟨nx, rt, bk, ct⟩ σ H := q
theorem x_retN (q : rt .non H) : tRetN ⟨nx, rt, bk, ct⟩ σ H := q
theorem x_ifs (q : tt σ H fun b H1 => if b = true then s1 ⟨nx, rt, bk, ct⟩ σ H1 else s2 ⟨nx, rt, bk, ct⟩ σ H1) : tIfS tt s1 s2 ⟨nx, rt, bk, ct⟩ σ H := q
theorem x_next (q : nx σ H) : tNext ⟨nx, rt, bk, ct⟩ σ H := q
theorem x_brk (q : bk σ H) : tBreak ⟨nx, rt, bk, ct⟩ σ H := q
theorem x_cnt (q : ct σ H) : tCont ⟨nx, rt, bk, ct⟩ σ H := q
/-! #### methods of a tracked list -/
theorem x_bm {T : String} {r : V → List V → Hp → VK → Prop} (q : ta σ H fun x H1 => tyV K T x H1 ∧ tar σ H1 fun xs H2 => r x xs H2 Q) : tBM K T r ta tar σ H Q := q
theorem x_bm0 {T : String} {r : V → List V → Hp → VK → Prop} (q : ta σ H fun x H1 => tyV K T x H1 ∧ r x [] H1 Q) : tBM0 K T r ta σ H Q := q
theorem x_tyL {P : Prop} (h : H a = some (.lst xs)) (q : P) : tyV K "list" (.ref a) H ∧ P := ⟨.inl ⟨rfl, xs, SqL.of h⟩, q⟩
theorem x_tyS {P : Prop} (q : P) : tyV K "str" (.str z) H ∧ P := ⟨rfl, q⟩
theorem x_append (O : Own B H M R) (k : Nat) (hk : R[k]? = some (a, .lst xs)) (hz : xs.length < sizeLine) (q : ∀ H1, Own B H1 M (R.set k (a, .lst (xs ++ [v]))) → Q .non H1) : rAppend (.ref a) [v] H Q :=
  ⟨a, xs, v, rfl, rfl, O.get k hk, hz, q _ (O.put k hk _)⟩
theorem x_pop (O : Own B H M R) (k : Nat) (hk : R[k]? = some (a, .lst xs)) (hv : xs[xs.length - 1]? = some v) (q : ∀ H1, Own B H1 M (R.set k (a, .lst xs.dropLast)) → Q v H1) : rPop (.ref a) [] H Q :=
  ⟨a, xs, v, rfl, rfl, O.get k hk, hv, q _ (O.put k hk _)⟩
theorem x_popAt (O : Own B H M R) (k : Nat) (hk : R[k]? = some (a, .lst xs)) (n : Nat) (h1 : -(2 ^ 63) ≤ i) (h2 : i < 2 ^ 63) (hn : seqIndex? i xs.length = some n) (hv : xs[n]? = some v) (q : ∀ H1, Own B H1 M (R.set k (a, .lst (xs.eraseIdx n))) → Q v H1) : rPopAt (.ref a) [.int i] H Q :=
  ⟨a, xs, i, n, v, rfl, rfl, O.get k hk, h1, h2, hn, hv, q _ (O.put k hk _)⟩
end

/-! ### named rules -/
section
variable {X : Cx}
def rLen (K : PySem.W.Frag) : List V → Hp → VK → Prop := fun xs H Q => ∃ x n, xs = [x] ∧ LenV K x H n ∧ Q (.int n) H
theorem callLen : CallR X (.builtin "len") (rLen X.K) := call_len
def rInt : List V → Hp → VK → Prop := fun xs H Q => (∃ i, xs = [.int i] ∧ Q (.int i) H) ∨ ∃ k, xs = [.bl k] ∧ Q (.int (if k then 1 else 0)) H
theorem callInt : CallR X (.type "int") rInt := call_int1
def rMin2 : List V → Hp → VK → Prop := fun xs H Q => ∃ i j, xs = [.int i, .int j] ∧ Q (.int (if j < i then j else i)) H
theorem callMin2 (hc : X.calm = true) : CallR X (.builtin "min") rMin2 := call_min2 hc
def rMax2 : List V → Hp → VK → Prop := fun xs H Q => ∃ i j, xs = [.int i, .int j] ∧ Q (.int (if j > i then j else i)) H
theorem callMax2 (hc : X.calm = true) : CallR X (.builtin "max") rMax2 := call_max2 hc
def rAbs : List V → Hp → VK → Prop := fun xs H Q => ∃ i, xs = [.int i] ∧ Q (.int (if i < 0 then -i else i)) H
theorem callAbs : CallR X (.builtin "abs") rAbs := call_abs
def rListOf (K : PySem.W.Frag) : List V → Hp → VK → Prop := fun xs H Q => ∃ p ys, xs = [.ref p] ∧ (SqL K H p ys ∨ SqT K H p ys) ∧ ∀ l, H l = none → Q (.ref l) (upd H l (.lst ys))
theorem callListOf : CallR X (.type "list") (rListOf X.K) := call_list_of
def rAddS : R2 := fun x y H Q => ∃ i j, x = .str i ∧ y = .str j ∧ i.length + j.length ≤ sizeLine ∧ Q (.str (i ++ j)) H
theorem opAddS : OpR X (binaryOp .Add) rAddS := op_add_str
def rInC : R2 := fun x y H Q => ∃ (c : Nat) (z : Str), x = .str ⟨#[c]⟩ ∧ y = .str z ∧ Q (.bl (decide (c ∈ z.cps.toList))) H
theorem opInC : OpR X (compareOp .In) rInC := op_in_sign
def rNotInC : R2 := fun x y H Q => ∃ (c : Nat) (z : Str), x = .str ⟨#[c]⟩ ∧ y = .str z ∧ Q (.bl (!decide (c ∈ z.cps.toList))) H
theorem opNotInC : OpR X (compareOp .NotIn) rNotInC := op_notIn_sign
def rIsN : R2 := fun x y H Q => y = .non ∧ Q (.bl (decide (x = .non))) H
theorem opIsN : OpR X (compareOp .Is) rIsN := op_isN
def rNotN : R2 := fun x y H Q => y = .non ∧ Q (.bl (!decide (x = .non))) H
theorem opNotN : OpR X (compareOp .IsNot) rNotN := op_notN
def tTru (K : PySem.W.Frag) (ta : TE) : TT := fun σ H Q => ta σ H fun x H' => ∃ k, TruV K x H' k ∧ Q k H'
theorem ptTruth {a : Expr} {ta : TE} (ha : PE X a ta) (he : ∀ whole, isTrue a X.env whole = (do let v ← whole; standAt a.pos; holding [v] (truthy v))) : PT X a (tTru X.K ta) := pt_truth ha he
def rUpper : V → List V → Hp → VK → Prop := fun x xs H Q => ∃ a, x = .str a ∧ xs = [] ∧ a.length ≤ 5592405 ∧ Q (.str (Txt.upper a)) H
theorem mtUpper : MtR X "str.upper" rUpper := mt_upper
def rLower : V → List V → Hp → VK → Prop := fun x xs H Q => ∃ a, x = .str a ∧ xs = [] ∧ a.length ≤ 5592405 ∧ Q (.str (Txt.lower a)) H
theorem mtLower : MtR X "str.lower" rLower := mt_lower
def rFind : V → List V → Hp → VK → Prop := fun x xs H Q => ∃ a b, x = .str a ∧ xs = [.str b] ∧ Q (.int (Txt.find a b)) H
theorem mtFind : MtR X "str.find" rFind := mt_find
def rJoin (K : PySem.W.Frag) : V → List V → Hp → VK → Prop := fun x xs H Q => ∃ a p, ∃ ys : List Str, x = .str a ∧ xs = [.ref p] ∧ (SqL K H p (ys.map V.str) ∨ SqT K H p (ys.map V.str)) ∧
    (ys.map (·.length)).sum + ys.length * a.length ≤ 16777216 ∧ Q (.str (Txt.join a ys)) H
theorem mtJoin : MtR X "str.join" (rJoin X.K) := mt_join
end
section
variable {K : PySem.W.Frag} {σ : St} {B H H' : Hp} {M R : List (Addr × HO)} {a p : Addr} {Q : VK} {ta : TE} {i j : Int} {z z1 z2 : Str} {xs : List V} {QT : Bool → Hp → Prop} {x : V} {c : Nat}
theorem x_lenS (h : z.length ≤ sizeLine) (q : Q (.int z.length) H) : rLen K [.str z] H Q := ⟨.str z, _, rfl, ⟨h, rfl⟩, q⟩
theorem x_lenL (h : H a = some (.lst xs)) (q : Q (.int xs.length) H) : rLen K [.ref a] H Q := ⟨.ref a, _, rfl, .inl ⟨xs, SqL.of h, rfl⟩, q⟩
theorem x_lenT (h : H a = some (.tup xs)) (q : Q (.int xs.length) H) : rLen K [.ref a] H Q := ⟨.ref a, _, rfl, .inr ⟨xs, SqT.of h, rfl⟩, q⟩
theorem x_int (q : Q (.int i) H) : rInt [.int i] H Q := .inl ⟨i, rfl, q⟩
theorem x_min2 (q : Q (.int (if j < i then j else i)) H) : rMin2 [.int i, .int j] H Q := ⟨i, j, rfl, q⟩
theorem x_max2 (q : Q (.int (if j > i then j else i)) H) : rMax2 [.int i, .int j] H Q := ⟨i, j, rfl, q⟩
theorem x_abs (q : Q (.int (if i < 0 then -i else i)) H) : rAbs [.int i] H Q := ⟨i, rfl, q⟩
theorem x_listOf (O : Own B H M R) (h : H a = some (.lst xs) ∨ H a = some (.tup xs)) (q : ∀ p H1, B p = none → Own B H1 M (R ++ [(p, .lst xs)]) → Q (.ref p) H1) : rListOf K [.ref a] H Q :=
  ⟨a, xs, rfl, h.imp SqL.of SqT.of, fun l hl => q l _ (O.base_free hl) (O.new hl)⟩
theorem x_addS (h : z1.length + z2.length ≤ sizeLine) (q : Q (.str (z1 ++ z2)) H) : rAddS (.str z1) (.str z2) H Q := ⟨z1, z2, rfl, rfl, h, q⟩
theorem x_inC (q : Q (.bl (decide (c ∈ TL.tl z))) H) : rInC (.str ⟨#[c]⟩) (.str z) H Q := ⟨c, z, rfl, rfl, q⟩
theorem x_notInC (q : Q (.bl (!decide (c ∈ TL.tl z))) H) : rNotInC (.str ⟨#[c]⟩) (.str z) H Q := ⟨c, z, rfl, rfl, q⟩
theorem x_isN (q : Q (.bl (decide (x = .non))) H) : rIsN x .non H Q := ⟨rfl, q⟩
theorem x_notN (q : Q (.bl (!decide (x = .non))) H) : rNotN x .non H Q := ⟨rfl, q⟩
theorem x_isNn (q : Q (.bl true) H) : rIsN .non .non H Q := ⟨rfl, q⟩
theorem x_notNn (q : Q (.bl false) H) : rNotN .non .non H Q := ⟨rfl, q⟩
theorem x_isNi (q : Q (.bl false) H) : rIsN (.int i) .non H Q := ⟨rfl, q⟩
theorem x_notNi (q : Q (.bl true) H) : rNotN (.int i) .non H Q := ⟨rfl, q⟩
theorem x_isNs (q : Q (.bl false) H) : rIsN (.str z) .non H Q := ⟨rfl, q⟩
theorem x_notNs (q : Q (.bl true) H) : rNotN (.str z) .non H Q := ⟨rfl, q⟩
theorem x_isNb {b : Bool} (q : Q (.bl false) H) : rIsN (.bl b) .non H Q := ⟨rfl, q⟩
theorem x_notNb {b : Bool} (q : Q (.bl true) H) : rNotN (.bl b) .non H Q := ⟨rfl, q⟩
theorem x_isNr (q : Q (.bl false) H) : rIsN (.ref a) .non H Q := ⟨rfl, q⟩
theorem x_notNr (q : Q (.bl true) H) : rNotN (.ref a) .non H Q := ⟨rfl, q⟩
theorem x_tru (q : ta σ H fun x H' => ∃ k, TruV K x H' k ∧ QT k H') : tTru K ta σ H QT := q
theorem x_truL {P : Bool → Prop} (h : H a = some (.lst xs)) (q : P (!xs.isEmpty)) : ∃ k, TruV K (.ref a) H k ∧ P k := ⟨_, .inl ⟨xs, SqL.of h, rfl⟩, q⟩
theorem x_truS {P : Bool → Prop} (h : z.length ≤ sizeLine) (q : P ((z.length : Int) != 0)) : ∃ k, TruV K (.str z) H k ∧ P k := ⟨_, ⟨h, rfl⟩, q⟩
theorem x_truB {P : Bool → Prop} {b : Bool} (q : P b) : ∃ k, TruV K (.bl b) H k ∧ P k := ⟨_, rfl, q⟩
theorem x_truI {P : Bool → Prop} (q : P (i != 0)) : ∃ k, TruV K (.int i) H k ∧ P k := ⟨_, rfl, q⟩
theorem x_truN {P : Bool → Prop} (q : P false) : ∃ k, TruV K .non H k ∧ P k := ⟨_, rfl, q⟩
theorem x_upper (h : z.length ≤ 5592405) (q : Q (.str (Txt.upper z)) H) : rUpper (.str z) [] H Q := ⟨z, rfl, rfl, h, q⟩
theorem x_lower (h : z.length ≤ 5592405) (q : Q (.str (Txt.lower z)) H) : rLower (.str z) [] H Q := ⟨z, rfl, rfl, h, q⟩
theorem x_find (q : Q (.int (Txt.find z1 z2)) H) : rFind (.str z1) [.str z2] H Q := ⟨z1, z2, rfl, rfl, q⟩
theorem x_joinL (ys : List Str) (h : H p = some (.lst (ys.map V.str))) (hz : (ys.map (·.length)).sum + ys.length * z.length ≤ 16777216) (q : Q (.str (Txt.join z ys)) H) : rJoin K (.str z) [.ref p] H Q :=
  ⟨z, p, ys, rfl, rfl, .inl (SqL.of h), hz, q⟩
end

/-! ### slices -/
section
variable {K : PySem.W.Frag} {σ : St} {B H H' : Hp} {M R : List (Addr × HO)} {a p : Addr} {Q : VK} {te : TE} {i : Int} {z : Str} {xs : List V} {tl th : TO} {r : V → Option Int → Option Int → Hp → VK → Prop} {QO : Option Int → Hp → Prop} {lo hi : Option Int}
theorem x_sl (q : te σ H fun x H1 => tl σ H1 fun l H2 => th σ H2 fun u H3 => r x l u H3 Q) : tSl r te tl th σ H Q := q
theorem x_noPart (q : QO none H) : tNoPart σ H QO := q
theorem x_part (q : te σ H fun x H1 => ∃ i, x = .int i ∧ QO (some i) H1) : tPart te σ H QO := q
theorem x_pI {P : Int → Prop} (q : P i) : ∃ j, V.int i = .int j ∧ P j := ⟨i, rfl, q⟩
theorem x_slS (hz : z.length ≤ sizeLine) (q : Q (.str (cutS z lo hi)) H) : rSlS (.str z) lo hi H Q := ⟨z, rfl, hz, q⟩
theorem x_slL (hx : SqL K H a xs) (O : Own B H M R) (q : ∀ p H1, B p = none → Own B H1 M (R ++ [(p, .lst (cutV xs lo hi))]) → Q (.ref p) H1) : rSlL K (.ref a) lo hi H Q := ⟨a, xs, rfl, hx, fun p hp => q p _ (O.base_free hp) (O.new hp)⟩
theorem Own.perm {R' : List (Addr × HO)} (O : Own B H M R) (h : R.Perm R') : Own B H M R' := by
  have e : (M ++ R).Perm (M ++ R') := List.Perm.append_left M h
  exact ⟨(e.map Prod.fst).nodup_iff.mp O.nd, fun x hx => O.at_ x (e.mem_iff.mpr hx), fun b hb o q => O.out b (fun z => hb ((e.map Prod.fst).mem_iff.mp z)) o q⟩
theorem Own.close {N : List (Addr × HO)} (O : Own B H [] (R ++ N)) : Own B H N R := by
  have e : ([] ++ (R ++ N)).Perm (N ++ R) := by rw [List.nil_append]; exact List.perm_append_comm
  exact ⟨(e.map Prod.fst).nodup_iff.mp O.nd, fun x hx => O.at_ x (e.mem_iff.mpr hx), fun b hb o q => O.out b (fun z => hb ((e.map Prod.fst).mem_iff.mp z)) o q⟩
end

section
variable {K : PySem.W.Frag} {B H : Hp} {M R : List (Addr × HO)} {a b : Addr} {Q : VK} {xs ys : List V}
theorem x_cat (O : Own B H M R) (h1 : H a = some (.lst xs)) (h2 : H b = some (.lst ys)) (hz : xs.length + ys.length ≤ sizeLine) (q : ∀ p H1, B p = none → Own B H1 M (R ++ [(p, .lst (xs ++ ys))]) → Q (.ref p) H1) : rCat (.ref a) (.ref b) H Q :=
  ⟨a, b, xs, ys, rfl, rfl, h1, h2, hz, fun p hp => q p _ (O.base_free hp) (O.new hp)⟩
theorem x_lstRg {te : St → Hp → (Int → Int → Hp → Prop) → Prop} {σ : St} (q : te σ H fun a b H1 => RgOk a b ∧ ∀ q, H1 q = none → Q (.ref q) (upd H1 q (.lst (rgV a b)))) : tLstRg te σ H Q := q
def newRg (a b : Int) (H : Hp) (Q : VK) : Prop := RgOk a b ∧ ∀ q, H q = none → Q (.ref q) (upd H q (.lst (rgV a b)))
theorem x_lstRg1 {ta : TE} {σ : St} (q : ta σ H fun x H1 => ∃ n, x = .int n ∧ newRg 0 n H1 Q) : tLstRg (tRg1 ta) σ H Q := q
theorem x_lstRg2 {ta tb : TE} {σ : St} (q : ta σ H fun x H1 => tb σ H1 fun y H2 => ∃ i j, x = .int i ∧ y = .int j ∧ newRg i j H2 Q) : tLstRg (tRg2 ta tb) σ H Q := q
theorem rgV_ints (a b : Int) : rgV a b = ((List.range (b - a).toNat).map fun i : Nat => a + (i : Int)).map V.int := by unfold rgV; rw [List.map_map]; rfl
theorem x_newRg {n m : Int} (O : Own B H M R) (h : RgOk n m) (q : ∀ p H1, B p = none → Own B H1 M (R ++ [(p, .lst (((List.range (m - n).toNat).map fun i : Nat => n + (i : Int)).map V.int))]) → Q (.ref p) H1) : newRg n m H Q :=
  ⟨h, fun p hp => q p _ (O.base_free hp) (by rw [← rgV_ints]; exact O.new hp)⟩
end

/-! ### promises: a part of the heap M is told by D and given back -/
/-- the closed part is what D says, at the cells A -/
structure In (D : Addr → List (Addr × HO) → Prop) (a : Addr) (A : List Addr) (M : List (Addr × HO)) : Prop where
  d : D a M
  e : M.map Prod.fst = A
/-- with a closed part (a box) at the first argument's address: D a M says what the box at a is -/
def spB (n : Nat) (D : Addr → List (Addr × HO) → Prop) (pre : List V → Prop) (post : List V → V → Prop) : Sp := fun vs H Q _ =>
  ∃ a A M rest, vs = .ref a :: rest ∧ rest.length = n ∧ In D a A M ∧ Own H H M [] ∧ pre rest ∧ ∀ v H' M', In D a A M' → Own H H' M' [] → post rest v → Q v H'
/-- plain values in, a plain value out -/
def spP (n : Nat) (pre : List V → Prop) (post : List V → V → Prop) : Sp := fun vs H Q _ => vs.length = n ∧ pre vs ∧ ∀ v H', Own H H' [] [] → post vs v → Q v H'
/-- plain values in, a new object out -/
def spNew (n : Nat) (pre : List V → Prop) (post : List V → HO → Prop) : Sp := fun vs H Q _ => vs.length = n ∧ pre vs ∧ ∀ p H' o, H p = none → Own H H' [] [(p, o)] → post vs o → Q (.ref p) H'
theorem hl_spNew {n : Nat} {pre : List V → Prop} {post : List V → HO → Prop} : ∀ vs H Q E, spNew n pre post vs H Q E → vs.length = n := fun vs H Q E h => h.1
theorem hl_spB {n : Nat} {D : Addr → List (Addr × HO) → Prop} {pre : List V → Prop} {post : List V → V → Prop} : ∀ vs H Q E, spB n D pre post vs H Q E → vs.length = n + 1 := fun vs H Q E h => by
  obtain ⟨a, A, M, rest, rfl, e, _⟩ := h
  rw [List.length_cons, e]
theorem hl_spP {n : Nat} {pre : List V → Prop} {post : List V → V → Prop} : ∀ vs H Q E, spP n pre post vs H Q E → vs.length = n := fun vs H Q E h => h.1
section
variable {B H : Hp} {M R : List (Addr × HO)} {a : Addr} {Q : VK} {E : XK} {D : Addr → List (Addr × HO) → Prop} {pre : List V → Prop} {post : List V → V → Prop} {vs : List V} {n : Nat}
theorem use_spP (O : Own B H M R) (hl : vs.length = n) (hp : pre vs) (q : ∀ v H', Own B H' M R → post vs v → Q v H') : spP n pre post vs H Q E := ⟨hl, hp, fun v H' O' h => q v H' (O.call0 O') h⟩
theorem use_spNew {post : List V → HO → Prop} (O : Own B H M R) (hl : vs.length = n) (hp : pre vs) (q : ∀ p H' o, B p = none → Own B H' M (R ++ [(p, o)]) → post vs o → Q (.ref p) H') : spNew n pre post vs H Q E :=
  ⟨hl, hp, fun p H' o hp O' h => q p H' o (O.base_free hp) (O.callN O' fun x hx => by rw [List.mem_singleton.mp hx]; exact hp) h⟩
theorem use_spB {rest : List V} {A : List Addr} (O : Own B H M R) (hD : In D a A M) (hl : rest.length = n) (hp : pre rest) (q : ∀ v H' M', In D a A M' → Own B H' M' R → post rest v → Q v H') : spB n D pre post (.ref a :: rest) H Q E :=
  ⟨a, A, M, rest, rfl, hl, hD, O.sub, hp, fun v H' M' hD' O' h => q v H' M' hD' (by
    have := O.call O' (hD'.e.trans hD.e.symm) (fun _ h => absurd h List.not_mem_nil)
    rw [List.append_nil] at this
    exact this) h⟩
theorem Own.opened (O : Own B H M []) : Own B H [] M := ⟨by have h := O.nd; rw [List.append_nil] at h; exact h, by have h := O.at_; rw [List.append_nil] at h; exact h, by have h := O.out; rw [List.append_nil] at h; exact h⟩
theorem Own.closed (O : Own B H [] R) : Own B H R [] := ⟨by rw [List.append_nil]; exact O.nd, by rw [List.append_nil]; exact O.at_, by rw [List.append_nil]; exact O.out⟩
end
end NF

/-! Own toolkit: further rules, defs by name, the end. -/
namespace NF
open PySem L2 PySem.Spec PyProof.Rows PySem.W

/-! ### a global constant, a def by its name -/
section
variable {X : Cx}
theorem pe_g {x : Str} {v : V} {pos : Pos} (hg : Gl X x) (hm : ∃ u, X.mg x = some u ∧ RelV v u) (hd : (x == ("__debug__" : Str)) = false := by decide) : PE X (.Name x pos) (tC v) := by
  obtain ⟨u, h, r⟩ := hm
  exact pe_glob hg h r hd
end
/-- a def as the top leaves it -/
def Fn0 (K : PySem.W.Frag) (mg : Str → Option Value) (x : Str) (st : Stmt) : Prop := ∃ f fd, Fun K x x st f fd ∧ mg x = some (.ref f)
/-- a def by its name, with its promise -/
structure Def (P : Program) (w : World) (K : PySem.W.Frag) (mg : Str → Option Value) (base : Heap) (k : Nat) (x : Str) (ps : List Str) (sp : Sp) : Prop where
  ex : ∃ f fd, FnOk P w K mg base CX0 k f fd ps sp ∧ mg x = some (.ref f) ∧ PySem.W.keepIn K (.ref f) = true ∧ Binds K fd ps []
section
variable {P : Program} {w : World} {K : PySem.W.Frag} {mg : Str → Option Value} {base : Heap}
theorem Def.mk0 {x : Str} {st : Stmt} {N ps : List Str} {k : Nat} {sp : Sp} (F : Fn0 K mg x st) (S : FnScope N ps (defScope st)) (len : ∀ vs H Q E, sp vs H Q E → vs.length = ps.length)
    (hbind : ∀ (kV doc pm : Value) (an : Option Addr) (cdv ct : Value) (us : List Value), us.length = ps.length → bindArgs (PySem.W.fnOf x x (defArgs st) (defBody st) (defScope st) .none kV doc pm an cdv ct) ⟨us, []⟩ = pure (ps.zip us))
    (hbody : ∀ {f : Addr} (cdv : Value) (A : Around) (outer : List Env) (s : Shared) (H : Hp) (vs : List V) (Q : VK) (E : XK), Room k (A.deeper (envOfC x (defScope st) s.heap.objs.size f cdv)) → sp vs H Q E →
      ∃ t, PSs (cxOf CX0 P w K mg base N x (defScope st) f cdv A outer s H E).nox (defBody st) t ∧ t { nx := fun _ H' => Q .non H', rt := Q } (start N vs) H) : Def P w K mg base (k + 1) x ps sp := by
  obtain ⟨f, fd, F, hm⟩ := F
  exact ⟨f, fd, F.ok S len fun cdv A outer s H vs Q E hr h => hbody cdv A outer s H vs Q E hr h, hm, F.kp, F.binds hbind⟩
end
section
variable {X : Cx} {k : Nat} {x : Str} {ps : List Str} {sp : Sp} {p pos : Pos} {e : Expr} {es : List Expr} {t : TA}
theorem pe_d (D : Def X.prog X.w X.K X.mg X.base k x ps sp) (hr : Room k X.A) (hg : Gl X x) (ha : PA X (e :: es) t) (hdb : (x == ("__debug__" : Str)) = false := by decide)
    (he : starEach (e :: es) X.env = (false, eval e X.env) :: starEach es X.env := by rfl) (hpl : (backTo pos (starEach es X.env)).any (·.1) = false := by rfl) : PE X (.Call (.Name x p) (e :: es) [] pos) (tCall sp [] E0 t) := by
  obtain ⟨f, fd, F, hm, hk, hb⟩ := D.ex
  exact pe_call F hr hg hm hk hb .nil pass0 ha hdb he hpl
theorem pe_d0 (D : Def X.prog X.w X.K X.mg X.base k x ps sp) (hr : Room k X.A) (hg : Gl X x) (hdb : (x == ("__debug__" : Str)) = false := by decide) : PE X (.Call (.Name x p) [] [] pos) (tCall sp [] E0 tNil) := by
  obtain ⟨f, fd, F, hm, hk, hb⟩ := D.ex
  exact pe_call0 F hr hg hm hk hb .nil pass0 hdb
end

/-! ### what the head hands over -/
structure Has (K : PySem.W.Frag) (x : Str) (st : Stmt) : Prop where
  ex : ∃ (f : Addr) (oc : Value) (od an : Option Addr) (kV dc pm cd ct : Value) (sl : Array (Option Value)), PySem.W.nsIn K mainGlobals x = some (some (.ref f)) ∧
    K.lookup f = some ⟨oc, od, .func (PySem.W.fnOf x x (defArgs st) (defBody st) (defScope st) .none kV dc pm an cd ct), sl⟩ ∧ PySem.W.codeIn K cd x = true ∧ PySem.W.keepIn K (.ref f) = true
theorem has_mk {K : PySem.W.Frag} {x : Str} {st : Stmt} {f : Addr} {oc : Value} {od an : Option Addr} {kV dc pm cd ct : Value} {sl : Array (Option Value)} (h1 : PySem.W.nsIn K mainGlobals x = some (some (.ref f)))
    (h2 : K.lookup f = some ⟨oc, od, .func (PySem.W.fnOf x x (defArgs st) (defBody st) (defScope st) .none kV dc pm an cd ct), sl⟩) (h3 : PySem.W.codeIn K cd x = true) (h4 : PySem.W.keepIn K (.ref f) = true) : Has K x st := ⟨f, oc, od, an, kV, dc, pm, cd, ct, sl, h1, h2, h3, h4⟩
theorem Has.fn {K : PySem.W.Frag} {x : Str} {st : Stmt} {h : Heap} {mg : Str → Option Value} (A : Has K x st) (X : K.In h) (G : h.Ns mainGlobals mg) : Fn0 K mg x st := by
  obtain ⟨f, oc, od, an, kV, dc, pm, cd, ct, sl, h1, h2, h3, h4⟩ := A.ex
  exact ⟨f, _, fun_mk h2 h3 h4, PySem.W.mg_of X G h1⟩
/-- a constant of the module -/
structure HasC (K : PySem.W.Frag) (x : Str) (v : V) : Prop where
  ex : ∃ u, PySem.W.nsIn K mainGlobals x = some (some u) ∧ RelV v u
theorem hasC_mk {K : PySem.W.Frag} {x : Str} {v : V} {u : Value} (h : PySem.W.nsIn K mainGlobals x = some (some u)) (r : RelV v u) : HasC K x v := ⟨u, h, r⟩
theorem HasC.mg {K : PySem.W.Frag} {x : Str} {v : V} {h : Heap} {mg : Str → Option Value} (A : HasC K x v) (X : K.In h) (G : h.Ns mainGlobals mg) : ∃ u, mg x = some u ∧ RelV v u := by
  obtain ⟨u, h1, r⟩ := A.ex
  exact ⟨u, PySem.W.mg_of X G h1, r⟩
theorem law_end {l : PySem.W.OpenLaw} {w : World} {K : PySem.W.Frag} {h : Heap} {mg : Str → Option Value} {fa : Addr} {st : Stmt} {k : Nat} {sp : Sp} (X : K.In h) (G : h.Ns mainGlobals mg) (hfa : mg "law" = some (.ref fa)) (A : Has K "law" st)
    (hbind : ∀ (kV doc pm : Value) (an : Option Addr) (cdv ct : Value) (s : Shared) (v : Value), BindsTo s (PySem.W.fnOf "law" "law" (defArgs st) (defBody st) (defScope st) .none kV doc pm an cdv ct) ⟨[v], []⟩ [("script", v)])
    (F : ∀ (base : Heap) (fd : FuncData), Fun K "law" "law" st fa fd → FnOk l.prog w K mg base CX0 k fa fd ["script"] sp) :
    ∃ fd : FuncData, (∀ (s : Shared) (v : Value), BindsTo s fd ⟨[v], []⟩ [("script", v)]) ∧ ∀ base : Heap, K.In base → base.Ns mainGlobals mg → FnOk l.prog w K mg base CX0 k fa fd ["script"] sp := by
  obtain ⟨f, oc, od, an, kV, dc, pm, cd, ct, sl, h1, h2, h3, h4⟩ := A.ex
  have e := hfa.symm.trans (PySem.W.mg_of X G h1)
  cases e
  exact ⟨_, fun s v => hbind kV dc pm an cd ct s v, fun base _ _ => F base _ (fun_mk h2 h3 h4)⟩

/-! ### isinstance(x, T), T a built-in class -/
def rIsT (K : PySem.W.Frag) : List V → Hp → VK → Prop := fun xs H Q => ∃ x T n b, xs = [x, .ty T] ∧ TyX K H x (.type n) ∧ kitB n T = some b ∧ Q (.bl b) H
theorem callIsT {X : Cx} : CallR X (.builtin "isinstance") (rIsT X.K) := fun pins s σ H xs us Q I r h => by
  obtain ⟨x, T, n, b, rfl, ty, hb, q⟩ := h
  exact call_isi pins s σ H _ us Q I r ⟨x, .ty T, .type n, .type T, b, rfl, .ty T, ty, kit_ty hb, q⟩
theorem pe_ty {X : Cx} {T : Str} {n : String} {q : Pos} (hgT : Gl X T) (hmT : X.mg T = none) (hvT : bootBuiltins T = some (.type n)) (hn : T ≠ "__name__" := by decide) (hd : (T == ("__debug__" : Str)) = false := by decide) : PE X (.Name T q) (tC (.ty n)) :=
  pe_bltn hgT hmT hvT rfl hn hd
section
variable {K : PySem.W.Frag} {H : Hp} {Q : VK} {T : String} {a : Addr} {xs : List V} {b : Bool}
theorem x_isI {i : Int} (hb : kitB "int" T = some b) (q : Q (.bl b) H) : rIsT K [.int i, .ty T] H Q := ⟨_, _, _, b, rfl, .base (.int i), hb, q⟩
theorem x_isB {i : Bool} (hb : kitB "bool" T = some b) (q : Q (.bl b) H) : rIsT K [.bl i, .ty T] H Q := ⟨_, _, _, b, rfl, .base (.bl i), hb, q⟩
theorem x_isS {i : Str} (hb : kitB "str" T = some b) (q : Q (.bl b) H) : rIsT K [.str i, .ty T] H Q := ⟨_, _, _, b, rfl, .base (.str i), hb, q⟩
theorem x_isNon (hb : kitB "NoneType" T = some b) (q : Q (.bl b) H) : rIsT K [.non, .ty T] H Q := ⟨_, _, _, b, rfl, .base .non, hb, q⟩
theorem x_isL (h : H a = some (.lst xs)) (hb : kitB "list" T = some b) (q : Q (.bl b) H) : rIsT K [.ref a, .ty T] H Q := ⟨_, _, _, b, rfl, .base (.lst h), hb, q⟩
theorem x_isT (h : H a = some (.tup xs)) (hb : kitB "tuple" T = some b) (q : Q (.bl b) H) : rIsT K [.ref a, .ty T] H Q := ⟨_, _, _, b, rfl, .base (.tup h), hb, q⟩
end

theorem kit_int_int : kitB "int" "int" = some true := by decide +kernel
theorem kit_int_bool : kitB "int" "bool" = some false := by decide +kernel
theorem kit_int_str : kitB "int" "str" = some false := by decide +kernel
theorem kit_int_list : kitB "int" "list" = some false := by decide +kernel
theorem kit_int_tuple : kitB "int" "tuple" = some false := by decide +kernel
theorem kit_int_dict : kitB "int" "dict" = some false := by decide +kernel
theorem kit_bool_int : kitB "bool" "int" = some true := by decide +kernel
theorem kit_bool_bool : kitB "bool" "bool" = some true := by decide +kernel
theorem kit_bool_str : kitB "bool" "str" = some false := by decide +kernel
theorem kit_bool_list : kitB "bool" "list" = some false := by decide +kernel
theorem kit_bool_tuple : kitB "bool" "tuple" = some false := by decide +kernel
theorem kit_bool_dict : kitB "bool" "dict" = some false := by decide +kernel
theorem kit_str_int : kitB "str" "int" = some false := by decide +kernel
theorem kit_str_bool : kitB "str" "bool" = some false := by decide +kernel
theorem kit_str_str : kitB "str" "str" = some true := by decide +kernel
theorem kit_str_list : kitB "str" "list" = some false := by decide +kernel
theorem kit_str_tuple : kitB "str" "tuple" = some false := by decide +kernel
theorem kit_str_dict : kitB "str" "dict" = some false := by decide +kernel
theorem kit_NoneType_int : kitB "NoneType" "int" = some false := by decide +kernel
theorem kit_NoneType_bool : kitB "NoneType" "bool" = some false := by decide +kernel
theorem kit_NoneType_str : kitB "NoneType" "str" = some false := by decide +kernel
theorem kit_NoneType_list : kitB "NoneType" "list" = some false := by decide +kernel
theorem kit_NoneType_tuple : kitB "NoneType" "tuple" = some false := by decide +kernel
theorem kit_NoneType_dict : kitB "NoneType" "dict" = some false := by decide +kernel
theorem kit_list_int : kitB "list" "int" = some false := by decide +kernel
theorem kit_list_bool : kitB "list" "bool" = some false := by decide +kernel
theorem kit_list_str : kitB "list" "str" = some false := by decide +kernel
theorem kit_list_list : kitB "list" "list" = some true := by decide +kernel
theorem kit_list_tuple : kitB "list" "tuple" = some false := by decide +kernel
theorem kit_list_dict : kitB "list" "dict" = some false := by decide +kernel
theorem kit_tuple_int : kitB "tuple" "int" = some false := by decide +kernel
theorem kit_tuple_bool : kitB "tuple" "bool" = some false := by decide +kernel
theorem kit_tuple_str : kitB "tuple" "str" = some false := by decide +kernel
theorem kit_tuple_list : kitB "tuple" "list" = some false := by decide +kernel
theorem kit_tuple_tuple : kitB "tuple" "tuple" = some true := by decide +kernel
theorem kit_tuple_dict : kitB "tuple" "dict" = some false := by decide +kernel
theorem kit_dict_int : kitB "dict" "int" = some false := by decide +kernel
theorem kit_dict_bool : kitB "dict" "bool" = some false := by decide +kernel
theorem kit_dict_str : kitB "dict" "str" = some false := by decide +kernel
theorem kit_dict_list : kitB "dict" "list" = some false := by decide +kernel
theorem kit_dict_tuple : kitB "dict" "tuple" = some false := by decide +kernel
theorem kit_dict_dict : kitB "dict" "dict" = some true := by decide +kernel

/-! ### text * n -/
def rMulS : R2 := fun x y H Q => ∃ z n, x = .str z ∧ y = .int n ∧ z.length ≤ 1000000 ∧ n ≤ 1000000 ∧ -(2 ^ 63) ≤ n ∧ z.length * n.toNat ≤ sizeLine ∧ Q (.str (Txt.mul z n)) H
theorem opMulS {X : Cx} : OpR X (binaryOp .Mult) rMulS := fun pins s σ H x y u v Q I rx ry h => by
  obtain ⟨z, n, rfl, rfl, hz, hn, hn0, hl, q⟩ := h
  obtain ⟨t, rfl⟩ := rx
  obtain ⟨t', rfl⟩ := ry
  refine SB.mul ⟨?_, fun h1 h2 => ?_, fun h1 h2 => ?_⟩ fun t' k => ⟨.str (Txt.mul z n), H, I.tok k, ⟨_, rfl⟩, q⟩
  · rw [decide_eq_false (by omega), decide_eq_false (by omega)]
    rfl
  · have h3 : (1000000 : Int) ≤ (2 ^ 63 - 1) / n := by
      rw [Int.le_ediv_iff_mul_le (by omega)]
      have : (1000000 : Int) * n ≤ 1000000 * 1000000 := Int.mul_le_mul_of_nonneg_left hn (by decide)
      omega
    omega
  · show decide (z.length * n.toNat > sizeLine) = false
    exact decide_eq_false (by omega)

/-! ### (n, text) < (m, text) -/
def ltIS (a : Int × Str) (b : Int × Str) : Bool := DatumOrd.lt a b
def rLtIS (K : PySem.W.Frag) : R2 := fun x y H Q => ∃ a b n m z1 z2, x = .ref a ∧ y = .ref b ∧ SqT K H a [.int n, .str z1] ∧ SqT K H b [.int m, .str z2] ∧ Q (.bl (ltIS (n, z1) (m, z2))) H
theorem holds_is {h : Heap} {l : Addr} {n : Int} {z : Str} {its : List Value} (p : IsTup h l its.toArray) (r : Vals [.int n, .str z] its) : Holds h (.ref l) (n, z) := by
  obtain ⟨u, v, rfl, r1, r2⟩ := vals2 r
  obtain ⟨t, rfl⟩ := r1
  obtain ⟨t', rfl⟩ := r2
  obtain ⟨o, e1, e2, k, e3⟩ := p
  exact holds_pair ⟨o, e1, e2, k, e3⟩ (holds_int n t) (holds_str z t')
theorem opLtIS {X : Cx} (hu : X.A.units + 64 < cLine) : OpR X (compareOp .Lt) (rLtIS X.K) := fun pins s σ H x y u v Q I rx ry h => by
  obtain ⟨a, b, n, m, z1, z2, rfl, rfl, ha, hb, q⟩ := h
  cases rx
  cases ry
  obtain ⟨its, r1, p1, _⟩ := I.tuple ha
  obtain ⟨its2, r2, p2, _⟩ := I.tuple hb
  exact lt_datum (holds_is p1 r1) (holds_is p2 r2) (by
    have : Datum.depth (Int × Str) ≤ 64 := by decide
    omega) ⟨.bl (ltIS (n, z1) (m, z2)), H, I, rfl, q⟩
theorem x_ltIS {K : PySem.W.Frag} {H : Hp} {Q : VK} {a b : Addr} {n m : Int} {z1 z2 : Str} (ha : H a = some (.tup [.int n, .str z1])) (hb : H b = some (.tup [.int m, .str z2])) (q : Q (.bl (ltIS (n, z1) (m, z2))) H) : rLtIS K (.ref a) (.ref b) H Q :=
  ⟨a, b, n, m, z1, z2, rfl, rfl, SqT.of ha, SqT.of hb, q⟩

/-! ### enumerate(text) -/
def Ites (x : Str) : It :=
  ⟨fun i _ => i < x.cps.size, fun i H v H' => ∃ T c, v = .ref T ∧ H T = none ∧ H' = upd H T (.tup [.int (i : Nat), .str ⟨#[c]⟩]) ∧ x.cps[i]? = some c, fun i _ => i = x.cps.size⟩
theorem turn_enumS {P : Program} {w : World} {K : PySem.W.Frag} {elts : List Expr} {kk : Nat} {tpos : Pos} (x : Str) (t : Tok) (e it : Addr) :
    Turn P w K (.Tuple elts kk tpos) (Ites x) [e, it] e (fun i h => (∃ old, IsEnum h e it ((i : Nat) : Int) old) ∧ h.IsStrIter it (strIterType x) x t i ∧ e ≠ it) where
  mem := by simp
  obj := fun i h st b hb => by
    obtain ⟨⟨old, he⟩, ⟨o, ho, hc, hd⟩, _⟩ := st
    have e' : b = e ∨ b = it := by simpa using hb
    rcases e' with z | z
    · rw [z]; exact ⟨_, he, fun v q => nomatch q⟩
    · rw [z]; exact ⟨o, ho, fun v q => by rw [hd] at q; cases q⟩
  keep := fun i h h' st k => by
    obtain ⟨⟨old, he⟩, ⟨o, ho, r⟩, hne⟩ := st
    exact ⟨⟨old, k e (by simp) _ he⟩, ⟨o, k it (by simp) o ho, r⟩, hne⟩
  item := by
    intro X hP hw hK hc i pins s σ H E I hf st hg
    subst hP hw hK
    obtain ⟨⟨old, he⟩, hit, hne⟩ := st
    have hel : e < s.heap.objs.size := Heap.lt_size he
    have hil : it < s.heap.objs.size := by obtain ⟨_, q, _⟩ := hit; exact Heap.lt_size q
    refine wpAny_pyNext_enum_itemD (Draws.text (A := X.A.in1) (I.ok.hd hc) it x t) he hit hg hne (by simpa using hne) fun u h' tk hP ho hit' hT hsz hk => ?_
    obtain ⟨c, tu, hx, rfl⟩ := hP
    refine ⟨_, rfl, wpAny_letOwnedTupleGo_enum (s := { s with heap := h', toks := tk + 1 }) ho fun h'' he' sb => ?_⟩
    have hT2 : h''.get? s.heap.objs.size = some { cls := .type "tuple", data := .seq #[.int i tk, .str ⟨#[c]⟩ tu] } := (sb.2 _ (Nat.ne_of_gt hel)).trans hT
    have new : ObjOk X.prog X.w (upd H s.heap.objs.size (.tup [.int (i : Nat), .str ⟨#[c]⟩])) h'' s.heap.objs.size (.tup [.int (i : Nat), .str ⟨#[c]⟩]) :=
      ⟨by show 2 ≤ sizeLine; decide, [.int i tk, .str ⟨#[c]⟩ tu], .cons ⟨_, rfl⟩ (.cons ⟨_, rfl⟩ .nil), ⟨_, hT2, rfl, _, rfl⟩⟩
    have I1 : Inv X pins σ (upd H s.heap.objs.size (.tup [.int (i : Nat), .str ⟨#[c]⟩])) { s with heap := h'', toks := tk + 1 } :=
      I.turnedNew (ch := [e, it]) (fun b ob hb q => (sb.2 b (fun z => hb (by simp [z]))).trans (hk b ob (fun z => hb (by simp [z])) (fun z => hb (by simp [z])) q)) hf (Nat.le_refl _) new
    refine ⟨.ref s.heap.objs.size, _, I1, rfl, ⟨_, c, rfl, I.hok.fresh (Nat.le_refl _), rfl, hx⟩, ⟨⟨.str ⟨#[c]⟩ tu, ?_⟩, ?_, hne⟩, fun b hb => ?_⟩
    · have e1 : ((i + 1 : Nat) : Int) = (i : Int) + 1 := by omega
      rw [e1]; exact he'
    · obtain ⟨o, ho2, r⟩ := hit'
      exact ⟨o, (sb.2 it (Ne.symm hne)).trans ho2, r⟩
    · have hb' : b < s.heap.objs.size := by
        have e' : b = e ∨ b = it := by simpa using hb
        rcases e' with z | z
        · rw [z]; exact hel
        · rw [z]; exact hil
      rw [upd_ne (Nat.ne_of_lt hb')]
      exact (hf b hb).1
  done := by
    intro X hP hw hK hc i pins s σ H E I hf st hg
    subst hP hw hK
    obtain ⟨⟨old, he⟩, hit, hne⟩ := st
    obtain ⟨f0, f1, f2, f3, f4, f5⟩ := hf it (by simp)
    have hg' : i = x.cps.size := hg
    subst hg'
    exact wpAny_pyNext_enum_endD (Draws.text (A := X.A.in1) (I.ok.hd hc) it x t) he hit fun h' eb => ⟨rfl, I.turned (t' := s.toks) (fun b o hb q => eb b o hb q) f0 f1 f3 f4 f5⟩
  self := fun A i s Q E st h => let ⟨⟨_, he⟩, _⟩ := st; wpAny_pyIter_enum he h
def iEnumS (ta : TA) : TI := fun σ H R => ta σ H fun vs H1 => ∃ x, vs = [.str x] ∧ R (Ites x) H1
theorem pi_enumS {X : Cx} {e : Expr} {ta : TA} {p pos tpos : Pos} {elts : List Expr} {kk : Nat} (hg : Gl X "enumerate") (hm : X.mg "enumerate" = none) (ha : PA X [e] ta) (hs : starEach [e] X.env = [(false, eval e X.env)] := by rfl) :
    PI X (.Tuple elts kk tpos) (.Call (.Name "enumerate" p) [e] [] pos) (iEnumS ta) := by
  refine ⟨fun pins s σ H R I h => ?_⟩
  refine Call_ (ld_blt I hg hm boot_enumerate (PyProof.Rows.callWith_type1 (thn (ha.run pos pins s σ H _ I h) fun us s1 ⟨vs, H1, I1, r1, q1⟩ => ?_) hs rfl))
  obtain ⟨x, ex, q⟩ := q1
  subst ex
  cases r1 with
  | cons r rr =>
    cases rr
    obtain ⟨t, rfl⟩ := r
    refine call_enumerate_str fun h' he hit hsz hk => wpAny_pyIter_enum he ?_
    have I2 : Inv X pins σ H1 { s1 with heap := h' } := I1.kept (t' := s1.toks) hk
    refine ⟨s1.heap.objs.size + 1, [s1.heap.objs.size + 1, s1.heap.objs.size], _, _, H1, rfl, I2, turn_enumS x t (s1.heap.objs.size + 1) s1.heap.objs.size, ⟨⟨.none, he⟩, hit, Nat.succ_ne_self _⟩, fun b hb => ?_, q⟩
    have e' : b = s1.heap.objs.size + 1 ∨ b = s1.heap.objs.size := by simpa using hb
    have hle : s1.heap.objs.size ≤ b := by
      rcases e' with z | z
      · rw [z]; exact Nat.le_add_right _ _
      · rw [z]; exact Nat.le_refl _
    exact I1.fpOk hle (I1.hok.fresh hle)
end NF

/-! Own toolkit: loops and comprehensions. -/
namespace NF
open PySem L2

theorem Own.ignore {B H : Hp} {M R : List (Addr × HO)} {T : Addr} {o : HO} (O : Own B H M R) (h : H T = none) : Own B (upd H T o) M R :=
  ⟨O.nd, fun x hx => by
    have q := O.at_ x hx
    have n : x.1 ≠ T := fun e => by rw [e, h] at q; cases q
    rw [upd_ne n]
    exact q, fun b hb v e => by
    have q := O.out b hb v e
    have n : b ≠ T := fun e => by rw [e, h] at q; cases q
    rw [upd_ne n]
    exact q⟩
theorem Own.last {B H : Hp} {M R : List (Addr × HO)} {p : Addr} {o : HO} (O : Own B H M (R ++ [(p, o)])) : H p = some o :=
  O.at_ (p, o) (List.mem_append_right _ (List.mem_append_right _ (List.mem_singleton.mpr rfl)))
theorem Own.putLast {B H : Hp} {M R : List (Addr × HO)} {p : Addr} {o u : HO} (O : Own B H M (R ++ [(p, o)])) : Own B (upd H p u) M (R ++ [(p, u)]) := by
  have e : (R ++ [(p, o)])[R.length]? = some (p, o) := by rw [List.getElem?_append_right (Nat.le_refl _), Nat.sub_self]; rfl
  have h := O.put R.length e u
  rw [List.set_append_right _ _ (Nat.le_refl _), Nat.sub_self] at h
  exact h

/-- what a for asks of its iterator -/
def forR (g : TG) (tb : TS) (D : Ends) (σ : St) : It → Hp → Prop := fun J H1 => ∃ W : Nat → Nat → St → Hp → Prop, (∃ m, W 0 m σ H1) ∧ ∀ i m σ H, W i m σ H →
  (J.stop i H ∧ D.nx σ H) ∨ (J.go i H ∧ ∃ N : St → Hp → Prop, (∀ σ' H', N σ' H' → ∃ m', m' < m ∧ W (i + 1) m' σ' H') ∧ ∀ x H', J.yld i H x H' → g x σ H' fun σ2 H2 => tb { D with nx := N, ct := N, bk := D.nx } σ2 H2)
/-- what a comprehension asks of its iterator -/
def lcR (g : TG) (tt : TT) (te : TE) (vs : List Nat) (σ : St) (Q : VK) : It → Hp → Prop := fun J H1 => ∀ D, H1 D = none → ∃ W : Nat → Nat → Hp → Prop, (∃ m, W 0 m (upd H1 D (.lst []))) ∧ ∀ i m H, W i m H →
  (J.stop i H ∧ Q (.ref D) H) ∨ (J.go i H ∧ ∃ Nx : Hp → Prop, (∀ H', Nx H' → ∃ m', m' < m ∧ W (i + 1) m' H') ∧ ∀ x H', J.yld i H x H' → g x (wipe σ vs) H' fun σ2 H2 => wipe σ2 vs = wipe σ vs ∧ tt σ2 H2 fun b H3 =>
    if b = true then te σ2 H3 fun y H4 => ∃ acc, H4 D = some (.lst acc) ∧ acc.length < sizeLine ∧ Nx (upd H4 D (.lst (acc ++ [y]))) else Nx H3)
/-! what is walked, by its values -/
def jRng1 : List V → Hp → (It → Hp → Prop) → Prop := fun vs H1 R => ∃ j : Int, vs = [.int j] ∧ -(2 ^ 62) ≤ j ∧ j < 2 ^ 62 ∧ R (Itr 0 j.toNat) H1
def jRng2 : List V → Hp → (It → Hp → Prop) → Prop := fun vs H1 R => ∃ i j : Int, vs = [.int i, .int j] ∧ (-(2 ^ 62) ≤ i ∧ i < 2 ^ 62 ∧ -(2 ^ 62) ≤ j ∧ j < 2 ^ 62) ∧ R (Itr i (j - i).toNat) H1
def jList (K : PySem.W.Frag) : V → Hp → (It → Hp → Prop) → Prop := fun x H1 R => ∃ a, x = .ref a ∧ (∃ xs, SqL K H1 a xs) ∧ R (Itl K a) H1
def jTup (K : PySem.W.Frag) : V → Hp → (It → Hp → Prop) → Prop := fun x H1 R => ∃ a, x = .ref a ∧ (∃ xs, SqT K H1 a xs) ∧ R (Itt K a) H1
def jStr : V → Hp → (It → Hp → Prop) → Prop := fun v H1 R => ∃ x, v = .str x ∧ R (Its x) H1
def jEnumS : List V → Hp → (It → Hp → Prop) → Prop := fun vs H1 R => ∃ x, vs = [.str x] ∧ R (Ites x) H1
def jEnum (K : PySem.W.Frag) : List V → Hp → (It → Hp → Prop) → Prop := fun vs H1 R => ∃ a xs, vs = [.ref a] ∧ SqL K H1 a xs ∧ R (Ite K a) H1
section
variable {K : PySem.W.Frag} {σ : St} {B H : Hp} {M R : List (Addr × HO)} {a : Addr} {g : TG} {tb : TS} {D : Ends} {wi : TI} {tar : TA} {te tl : TE} {tt : TT} {vs : List Nat} {Q : VK} {RI : It → Hp → Prop}
theorem x_for (q : wi σ H (forR g tb D σ)) : tFor wi g tb D σ H := q
theorem x_lc (q : wi σ H (lcR g tt te vs σ Q)) : tLc wi g tt te vs σ H Q := q
theorem x_yes {QT : Bool → Hp → Prop} (q : QT true H) : tYes σ H QT := q
theorem x_jR1 (q : tar σ H fun vs H1 => jRng1 vs H1 RI) : iRng1 tar σ H RI := q
theorem x_jR2 (q : tar σ H fun vs H1 => jRng2 vs H1 RI) : iRng2 tar σ H RI := q
theorem x_jL (q : tl σ H fun v H1 => jList K v H1 RI) : iList K tl σ H RI := q
theorem x_jT (q : tl σ H fun v H1 => jTup K v H1 RI) : iTup K tl σ H RI := q
theorem x_jS (q : tl σ H fun v H1 => jStr v H1 RI) : iStr tl σ H RI := q
theorem x_jE (q : tar σ H fun vs H1 => jEnumS vs H1 RI) : iEnumS tar σ H RI := q
theorem x_jEL (q : tar σ H fun vs H1 => jEnum K vs H1 RI) : iEnum K tar σ H RI := q
section
variable {nx bk ct : St → Hp → Prop} {rt : VK}
/-! #### for: an invariant by the turn -/
theorem f_rng1 {n : Int} {j : Nat} (hn : -(2 ^ 62) ≤ n ∧ n < 2 ^ 62) (Pv : Nat → St → Hp → Prop) (h0 : Pv 0 σ H)
    (hs : ∀ (i : Nat) σ H, (i : Int) < n → Pv i σ H → tb ⟨Pv (i + 1), rt, nx, Pv (i + 1)⟩ (σ.set j (some (.int (i : Int)))) H) (hd : ∀ σ H, Pv n.toNat σ H → nx σ H) : jRng1 [.int n] H (forR (gName j) tb ⟨nx, rt, bk, ct⟩ σ) :=
  ⟨n, rfl, hn.1, hn.2, for_range (lo := 0) Pv h0 (fun i σ H hi p => by
    show tb _ (σ.set j (some (.int ((0 : Int) + (i : Int))))) H
    rw [Int.zero_add]
    exact hs i σ H (by omega) p) hd⟩
theorem f_rng2 {lo n : Int} {j : Nat} (hn : (-(2 ^ 62) ≤ lo ∧ lo < 2 ^ 62) ∧ -(2 ^ 62) ≤ n ∧ n < 2 ^ 62) (Pv : Nat → St → Hp → Prop) (h0 : Pv 0 σ H)
    (hs : ∀ (i : Nat) σ H, lo + (i : Int) < n → Pv i σ H → tb ⟨Pv (i + 1), rt, nx, Pv (i + 1)⟩ (σ.set j (some (.int (lo + (i : Int))))) H) (hd : ∀ σ H, Pv (n - lo).toNat σ H → nx σ H) : jRng2 [.int lo, .int n] H (forR (gName j) tb ⟨nx, rt, bk, ct⟩ σ) :=
  ⟨lo, n, rfl, ⟨hn.1.1, hn.1.2, hn.2.1, hn.2.2⟩, for_range (lo := lo) Pv h0 (fun i σ H hi p => hs i σ H (by omega) p) hd⟩
theorem f_list {xs : List V} {j : Nat} (hx : SqL K H a xs) (Pv : Nat → St → Hp → Prop) (h0 : Pv 0 σ H) (hl : ∀ i σ H, Pv i σ H → SqL K H a xs)
    (hs : ∀ (i : Nat) x σ H, xs[i]? = some x → Pv i σ H → tb ⟨Pv (i + 1), rt, nx, Pv (i + 1)⟩ (σ.set j (some x)) H) (hd : ∀ σ H, Pv xs.length σ H → nx σ H) : jList K (.ref a) H (forR (gName j) tb ⟨nx, rt, bk, ct⟩ σ) :=
  ⟨a, rfl, ⟨xs, hx⟩, for_list Pv h0 (fun i σ H _ p => hl i σ H p) (fun i x σ H hx p => hs i x σ H hx p) hd⟩
theorem f_listG {xs : List V} (hx : SqL K H a xs) (Pv : Nat → St → Hp → Prop) (h0 : Pv 0 σ H) (hl : ∀ i σ H, Pv i σ H → SqL K H a xs)
    (hs : ∀ (i : Nat) x σ H, xs[i]? = some x → Pv i σ H → g x σ H fun σ2 H2 => tb ⟨Pv (i + 1), rt, nx, Pv (i + 1)⟩ σ2 H2) (hd : ∀ σ H, Pv xs.length σ H → nx σ H) : jList K (.ref a) H (forR g tb ⟨nx, rt, bk, ct⟩ σ) :=
  ⟨a, rfl, ⟨xs, hx⟩, for_list Pv h0 (fun i σ H _ p => hl i σ H p) (fun i x σ H hx p => hs i x σ H hx p) hd⟩
theorem f_tup {xs : List V} {j : Nat} (hx : SqT K H a xs) (Pv : Nat → St → Hp → Prop) (h0 : Pv 0 σ H) (hl : ∀ i σ H, Pv i σ H → SqT K H a xs)
    (hs : ∀ (i : Nat) x σ H, xs[i]? = some x → Pv i σ H → tb ⟨Pv (i + 1), rt, nx, Pv (i + 1)⟩ (σ.set j (some x)) H) (hd : ∀ σ H, Pv xs.length σ H → nx σ H) : jTup K (.ref a) H (forR (gName j) tb ⟨nx, rt, bk, ct⟩ σ) :=
  ⟨a, rfl, ⟨xs, hx⟩, for_tup Pv h0 (fun i σ H _ p => hl i σ H p) (fun i x σ H hx p => hs i x σ H hx p) hd⟩
theorem f_str {z : Str} {j : Nat} (Pv : Nat → St → Hp → Prop) (h0 : Pv 0 σ H)
    (hs : ∀ (i : Nat) c σ H, z.cps[i]? = some c → Pv i σ H → tb ⟨Pv (i + 1), rt, nx, Pv (i + 1)⟩ (σ.set j (some (.str ⟨#[c]⟩))) H) (hd : ∀ σ H, Pv z.cps.size σ H → nx σ H) : jStr (.str z) H (forR (gName j) tb ⟨nx, rt, bk, ct⟩ σ) :=
  ⟨z, rfl, for_it walk_str Pv h0 (fun _ _ _ _ _ => trivial) (fun i x σ H H' hi p y => by
    obtain ⟨rfl, c, hc, rfl⟩ := y
    exact hs i c σ _ hc p) hd⟩
theorem f_enumS {z : Str} {j1 j2 : Nat} (Pv : Nat → St → Hp → Prop) (h0 : Pv 0 σ H)
    (hs : ∀ (i : Nat) c σ H H', z.cps[i]? = some c → Pv i σ H → (∀ B M R, Own B H M R → Own B H' M R) → tb ⟨Pv (i + 1), rt, nx, Pv (i + 1)⟩ ((σ.set j1 (some (.int (i : Int)))).set j2 (some (.str ⟨#[c]⟩))) H') (hd : ∀ σ H, Pv z.cps.size σ H → nx σ H) :
    jEnumS [.str z] H (forR (gTup K 2 (gCons (gName j1) (gCons (gName j2) gNil))) tb ⟨nx, rt, bk, ct⟩ σ) := by
  refine ⟨z, rfl, fun i m σ H => m = z.cps.size - i ∧ i ≤ z.cps.size ∧ Pv i σ H, ⟨_, by simp; rfl, Nat.zero_le _, h0⟩, ?_⟩
  rintro i m σ H ⟨rfl, hi, p⟩
  by_cases hlt : i < z.cps.size
  · refine .inr ⟨hlt, Pv (i + 1), fun σ' H' p' => ⟨z.cps.size - (i + 1), by omega, rfl, hlt, p'⟩, ?_⟩
    rintro x H' ⟨T, c, rfl, hT, rfl, hc⟩
    exact ⟨T, [.int (i : Nat), .str ⟨#[c]⟩], rfl, SqT.of upd_same, rfl, _, _, rfl, _, _, rfl, rfl, hs i c σ H _ hc p fun B M R O => O.ignore hT⟩
  · have e : i = z.cps.size := by omega
    subst e
    exact .inl ⟨rfl, hd σ H p⟩
/-- enumerate(list) -/
theorem f_enum {xs : List V} {j1 j2 : Nat} (hx : SqL K H a xs) (Pv : Nat → St → Hp → Prop) (h0 : Pv 0 σ H) (hl : ∀ i σ H, Pv i σ H → SqL K H a xs)
    (hs : ∀ (i : Nat) c σ H H', xs[i]? = some c → Pv i σ H → (∀ B M R, Own B H M R → Own B H' M R) → tb ⟨Pv (i + 1), rt, nx, Pv (i + 1)⟩ ((σ.set j1 (some (.int (i : Int)))).set j2 (some c)) H') (hd : ∀ σ H, Pv xs.length σ H → nx σ H) :
    jEnum K [.ref a] H (forR (gTup K 2 (gCons (gName j1) (gCons (gName j2) gNil))) tb ⟨nx, rt, bk, ct⟩ σ) := by
  refine ⟨a, xs, rfl, hx, fun i m σ H => m = xs.length - i ∧ i ≤ xs.length ∧ Pv i σ H, ⟨_, by simp; rfl, Nat.zero_le _, h0⟩, ?_⟩
  rintro i m σ H ⟨rfl, hi, p⟩
  have q := hl i σ H p
  by_cases hlt : i < xs.length
  · refine .inr ⟨⟨xs, xs[i], q, by simp [hlt]⟩, Pv (i + 1), fun σ' H' p' => ⟨xs.length - (i + 1), by omega, rfl, hlt, p'⟩, ?_⟩
    rintro x H' ⟨T, c, rfl, hT, rfl, hc⟩
    exact ⟨T, [.int (i : Nat), c], rfl, SqT.of upd_same, rfl, _, _, rfl, _, _, rfl, rfl, hs i c σ H _ (hc xs q) p fun B M R O => O.ignore hT⟩
  · have e : i = xs.length := by omega
    subst e
    exact .inl ⟨⟨xs, q, Nat.le_refl _⟩, hd σ H p⟩
end
/-! #### while: an invariant with a measure -/
theorem x_while {nx bk ct : St → Hp → Prop} {rt : VK} (I : Nat → St → Hp → Prop) (m : Nat) (h0 : I m σ H)
    (hs : ∀ m σ H, I m σ H → tt σ H fun b H1 => if b = true then (∃ N : St → Hp → Prop, (∀ σ' H', N σ' H' → ∃ m', m' < m ∧ I m' σ' H') ∧ tb ⟨N, rt, nx, N⟩ σ H1) else nx σ H1) : tWhile tt tb ⟨nx, rt, bk, ct⟩ σ H := ⟨I, ⟨m, h0⟩, hs⟩
theorem x_turn {nx : St → Hp → Prop} {rt : VK} {I : Nat → St → Hp → Prop} {m : Nat} (q : tb ⟨fun σ' H' => ∃ m', m' < m ∧ I m' σ' H', rt, nx, fun σ' H' => ∃ m', m' < m ∧ I m' σ' H'⟩ σ H) :
    ∃ N : St → Hp → Prop, (∀ σ' H', N σ' H' → ∃ m', m' < m ∧ I m' σ' H') ∧ tb ⟨N, rt, nx, N⟩ σ H := ⟨_, fun _ _ h => h, q⟩
/-! #### comprehensions: the new list stands behind what is owned -/
theorem set_wipe (σ : St) (j : Nat) (x : Option V) : wipe ((wipe σ [j]).set j x) [j] = wipe σ [j] := by
  show (((σ.set j none).set j x).set j none) = σ.set j none
  rw [List.set_set, List.set_set]
/-- a turn's end: the list so far is acc, y comes behind it -/
def lcEnd (B : Hp) (R : List (Addr × HO)) (p : Addr) (i : Nat) (N : List V → List (Addr × HO) → Prop) (y : V) (H4 : Hp) : Prop :=
  ∃ acc, H4 p = some (.lst acc) ∧ acc.length < sizeLine ∧ ∃ M' a2, a2.length ≤ i + 1 ∧ N a2 M' ∧ Own B (upd H4 p (.lst (acc ++ [y]))) M' (R ++ [(p, .lst a2)])
def lcSkip (B : Hp) (R : List (Addr × HO)) (p : Addr) (i : Nat) (N : List V → List (Addr × HO) → Prop) (H4 : Hp) : Prop :=
  ∃ M' a2, a2.length ≤ i + 1 ∧ N a2 M' ∧ Own B H4 M' (R ++ [(p, .lst a2)])
theorem lc_done {p : Addr} {i : Nat} {N : List V → List (Addr × HO) → Prop} {y : V} {acc : List V} (O : Own B H M (R ++ [(p, .lst acc)])) (hl : acc.length ≤ i) (hz : i < sizeLine) (pv : N (acc ++ [y]) M) : lcEnd B R p i N y H :=
  ⟨acc, O.last, Nat.lt_of_le_of_lt hl hz, M, acc ++ [y], by simp; omega, pv, O.putLast⟩
theorem lc_skip {p : Addr} {i : Nat} {N : List V → List (Addr × HO) → Prop} {acc : List V} (O : Own B H M (R ++ [(p, .lst acc)])) (hl : acc.length ≤ i) (pv : N acc M) : lcSkip B R p i N H := ⟨M, acc, by omega, pv, O⟩
section
variable {n : Nat} {J : It} {G : Hp → Prop} {Y : Nat → Hp → V → Hp → Prop} {j : Nat}
/-- over anything -/
theorem lc_any (W : L2.Walk J n G Y) (O : Own B H M R) (Pv : Nat → List V → List (Addr × HO) → Prop) (hG : ∀ H' M' p acc, Own B H' M' (R ++ [(p, .lst acc)]) → G H') (h0 : Pv 0 [] M)
    (hs : ∀ (i : Nat) x H' H'' M' p acc, i < n → acc.length ≤ i → Pv i acc M' → Own B H' M' (R ++ [(p, .lst acc)]) → Y i H' x H'' →
      tt ((wipe σ [j]).set j (some x)) H'' fun b H3 => if b = true then te ((wipe σ [j]).set j (some x)) H3 (lcEnd B R p i (Pv (i + 1))) else lcSkip B R p i (Pv (i + 1)) H3)
    (hd : ∀ p H' M' acc, B p = none → acc.length ≤ n → Pv n acc M' → Own B H' M' (R ++ [(p, .lst acc)]) → Q (.ref p) H') : lcR (gName j) tt te [j] σ Q J H := by
  intro p hp
  refine lc_it W (fun i H' => ∃ M' acc, acc.length ≤ i ∧ Pv i acc M' ∧ Own B H' M' (R ++ [(p, .lst acc)])) ⟨M, [], Nat.le_refl _, h0, O.new hp⟩ (fun i H' _ ⟨M', acc, _, _, O'⟩ => hG H' M' p acc O') ?_ (fun H' ⟨M', acc, l, pv, O'⟩ => hd p H' M' acc (O.base_free hp) l pv O')
  rintro i x H' H'' hi ⟨M', acc, hl, pv, O'⟩ y
  exact ⟨set_wipe σ j _, hs i x H' H'' M' p acc hi hl pv O' y⟩
theorem lc_rng1 {n : Int} (hn : -(2 ^ 62) ≤ n ∧ n < 2 ^ 62) (O : Own B H M R) (Pv : Nat → List V → List (Addr × HO) → Prop) (h0 : Pv 0 [] M)
    (hs : ∀ (i : Nat) H' M' p acc, (i : Int) < n → acc.length ≤ i → Pv i acc M' → Own B H' M' (R ++ [(p, .lst acc)]) →
      tt ((wipe σ [j]).set j (some (.int (i : Int)))) H' fun b H3 => if b = true then te ((wipe σ [j]).set j (some (.int (i : Int)))) H3 (lcEnd B R p i (Pv (i + 1))) else lcSkip B R p i (Pv (i + 1)) H3)
    (hd : ∀ p H' M' acc, B p = none → acc.length ≤ n.toNat → Pv n.toNat acc M' → Own B H' M' (R ++ [(p, .lst acc)]) → Q (.ref p) H') : jRng1 [.int n] H (lcR (gName j) tt te [j] σ Q) :=
  ⟨n, rfl, hn.1, hn.2, lc_any (walk_range (lo := 0)) O Pv (fun _ _ _ _ _ => trivial) h0 (fun i x H' H'' M' p acc hi hl pv O' y => by
    obtain ⟨rfl, e⟩ := y
    have e2 : x = .int (i : Int) := e.trans (congrArg V.int (Int.zero_add _))
    subst e2
    exact hs i _ M' p acc (by omega) hl pv O') hd⟩
theorem lc_lst {xs : List V} (hx : SqL K H a xs) (O : Own B H M R) (Pv : Nat → List V → List (Addr × HO) → Prop) (hG : ∀ H' M' p acc, Own B H' M' (R ++ [(p, .lst acc)]) → SqL K H' a xs) (h0 : Pv 0 [] M)
    (hs : ∀ (i : Nat) x H' M' p acc, xs[i]? = some x → acc.length ≤ i → Pv i acc M' → Own B H' M' (R ++ [(p, .lst acc)]) →
      tt ((wipe σ [j]).set j (some x)) H' fun b H3 => if b = true then te ((wipe σ [j]).set j (some x)) H3 (lcEnd B R p i (Pv (i + 1))) else lcSkip B R p i (Pv (i + 1)) H3)
    (hd : ∀ p H' M' acc, B p = none → acc.length ≤ xs.length → Pv xs.length acc M' → Own B H' M' (R ++ [(p, .lst acc)]) → Q (.ref p) H') : jList K (.ref a) H (lcR (gName j) tt te [j] σ Q) :=
  ⟨a, rfl, ⟨xs, hx⟩, lc_any walk_list O Pv hG h0 (fun i x H' H'' M' p acc hi hl pv O' y => by
    obtain ⟨rfl, hx⟩ := y
    exact hs i x _ M' p acc hx hl pv O') hd⟩
theorem lc_tupl {xs : List V} (hx : SqT K H a xs) (O : Own B H M R) (Pv : Nat → List V → List (Addr × HO) → Prop) (hG : ∀ H' M' p acc, Own B H' M' (R ++ [(p, .lst acc)]) → SqT K H' a xs) (h0 : Pv 0 [] M)
    (hs : ∀ (i : Nat) x H' M' p acc, xs[i]? = some x → acc.length ≤ i → Pv i acc M' → Own B H' M' (R ++ [(p, .lst acc)]) →
      tt ((wipe σ [j]).set j (some x)) H' fun b H3 => if b = true then te ((wipe σ [j]).set j (some x)) H3 (lcEnd B R p i (Pv (i + 1))) else lcSkip B R p i (Pv (i + 1)) H3)
    (hd : ∀ p H' M' acc, B p = none → acc.length ≤ xs.length → Pv xs.length acc M' → Own B H' M' (R ++ [(p, .lst acc)]) → Q (.ref p) H') : jTup K (.ref a) H (lcR (gName j) tt te [j] σ Q) :=
  ⟨a, rfl, ⟨xs, hx⟩, lc_any walk_tup O Pv hG h0 (fun i x H' H'' M' p acc hi hl pv O' y => by
    obtain ⟨rfl, hx⟩ := y
    exact hs i x _ M' p acc hx hl pv O') hd⟩
theorem lc_strs {z : Str} (O : Own B H M R) (Pv : Nat → List V → List (Addr × HO) → Prop) (h0 : Pv 0 [] M)
    (hs : ∀ (i : Nat) c H' M' p acc, z.cps[i]? = some c → acc.length ≤ i → Pv i acc M' → Own B H' M' (R ++ [(p, .lst acc)]) →
      tt ((wipe σ [j]).set j (some (.str ⟨#[c]⟩))) H' fun b H3 => if b = true then te ((wipe σ [j]).set j (some (.str ⟨#[c]⟩))) H3 (lcEnd B R p i (Pv (i + 1))) else lcSkip B R p i (Pv (i + 1)) H3)
    (hd : ∀ p H' M' acc, B p = none → acc.length ≤ z.cps.size → Pv z.cps.size acc M' → Own B H' M' (R ++ [(p, .lst acc)]) → Q (.ref p) H') : jStr (.str z) H (lcR (gName j) tt te [j] σ Q) :=
  ⟨z, rfl, lc_any walk_str O Pv (fun _ _ _ _ _ => trivial) h0 (fun i x H' H'' M' p acc hi hl pv O' y => by
    obtain ⟨rfl, c, hx, rfl⟩ := y
    exact hs i c _ M' p acc hx hl pv O') hd⟩
end
end
end NF

/-! Own toolkit: texts. -/
namespace NF
open PySem L2 TL

/-- a text of one sign; signs as a list of texts -/
abbrev ch (c : Nat) : V := .str ⟨#[c]⟩
abbrev mkS (l : List Nat) : Str := ⟨l.toArray⟩
theorem len_mk (l : List Nat) : (mkS l).length = l.length := by rw [len_tl]
theorem len_app (x y : Str) : (x ++ y).length = x.length + y.length := by rw [len_tl, tl_append, List.length_append, ← len_tl, ← len_tl]
theorem len_cut (z : Str) (lo hi : Option Int) : (cutS z lo hi).length ≤ z.length := cutS_length z lo hi
theorem len_ch (c : Nat) : (⟨#[c]⟩ : Str).length = 1 := rfl
theorem lit {s : String} {l : List Nat} (h : s.toList.map Char.toNat = l := by decide +kernel) : Str.ofString s = mkS l := ext_tl (by rw [tl_ofString, h])
theorem tl_cut (z : Str) (lo hi : Option Int) : tl (cutS z lo hi) = ((tl z).drop (HT.sIx z.length 0 lo)).take (HT.sIx z.length z.length hi - HT.sIx z.length 0 lo) := rfl
theorem join_ch (l : List Nat) : Txt.join Str.empty (l.map fun c => (⟨#[c]⟩ : Str)) = mkS l := by
  refine ext_tl ?_
  rw [join_eq, tl_join]
  show joinL [] _ = l
  have e : ∀ l : List Nat, joinL [] ((l.map fun c => (⟨#[c]⟩ : Str)).map tl) = l := by
    intro l
    induction l with
    | nil => rfl
    | cons a l ih =>
      cases l with
      | nil => rfl
      | cons b l =>
        show tl ⟨#[a]⟩ ++ ([] ++ joinL [] (((b :: l).map fun c => (⟨#[c]⟩ : Str)).map tl)) = a :: b :: l
        rw [ih]
        rfl
  exact e l
theorem sum_ch (l : List Nat) : ((l.map fun c => (⟨#[c]⟩ : Str)).map (·.length)).sum = l.length := by
  rw [List.map_map]
  induction l with
  | nil => rfl
  | cons a l ih => rw [List.map_cons, List.sum_cons, ih, List.length_cons]; show 1 + _ = _; omega
theorem map_ch (l : List Nat) : (l.map fun c => (⟨#[c]⟩ : Str)).map V.str = l.map ch := by rw [List.map_map]; rfl
theorem len_mul (x : Str) (n : Int) : (Txt.mul x n).length ≤ x.length * n.toNat := by
  unfold Txt.mul
  by_cases h : n < 1
  · rw [if_pos h]; exact Nat.zero_le _
  · rw [if_neg h]
    by_cases h2 : (n == 1 || x.length == 0) = true
    · rw [if_pos h2]
      simp only [Bool.or_eq_true, beq_iff_eq] at h2
      rcases h2 with h2 | h2
      · rw [h2]; simp
      · rw [h2]; simp
    · rw [if_neg h2]
      refine Nat.le_of_eq ?_
      have e : ∀ (k : Nat) (a : Array Nat), ((List.replicate k x.cps).foldl (· ++ ·) a).size = a.size + k * x.cps.size := by
        intro k
        induction k with
        | zero => intro a; simp
        | succ k ih => intro a; rw [List.replicate_succ, List.foldl_cons, ih, Array.size_append, Nat.succ_mul]; omega
      show ((List.replicate n.toNat x.cps).foldl (· ++ ·) #[]).size = x.cps.size * n.toNat
      rw [e, Nat.mul_comm]
      simp
/-! letters -/
def isLo (c : Nat) : Bool := decide (97 ≤ c ∧ c ≤ 104)
def isUp (c : Nat) : Bool := decide (65 ≤ c ∧ c ≤ 72)
theorem lo_cases {c : Nat} (h : 97 ≤ c ∧ c ≤ 104) : c = 97 ∨ c = 98 ∨ c = 99 ∨ c = 100 ∨ c = 101 ∨ c = 102 ∨ c = 103 ∨ c = 104 := by omega
theorem up_cases {c : Nat} (h : 65 ≤ c ∧ c ≤ 72) : c = 65 ∨ c = 66 ∨ c = 67 ∨ c = 68 ∨ c = 69 ∨ c = 70 ∨ c = 71 ∨ c = 72 := by omega
theorem upper_lo {c : Nat} (h : 97 ≤ c ∧ c ≤ 104) : Txt.upper ⟨#[c]⟩ = ⟨#[c - 32]⟩ := by
  rcases lo_cases h with rfl | rfl | rfl | rfl | rfl | rfl | rfl | rfl <;> decide +kernel
theorem lower_up {c : Nat} (h : 65 ≤ c ∧ c ≤ 72) : Txt.lower ⟨#[c]⟩ = ⟨#[c + 32]⟩ := by
  rcases up_cases h with rfl | rfl | rfl | rfl | rfl | rfl | rfl | rfl <;> decide +kernel
theorem mem_lo {c : Nat} : c ∈ [97, 98, 99, 100, 101, 102, 103, 104] ↔ 97 ≤ c ∧ c ≤ 104 := by
  simp only [List.mem_cons, List.not_mem_nil, or_false]; omega
theorem mem_up {c : Nat} : c ∈ [65, 66, 67, 68, 69, 70, 71, 72] ↔ 65 ≤ c ∧ c ≤ 72 := by
  simp only [List.mem_cons, List.not_mem_nil, or_false]; omega
theorem at_lt {α : Type} {l : List α} {i : Int} (h0 : 0 ≤ i) (h1 : i < (l.length : Int)) : ∃ c, atI l i = some c ∧ l[i.toNat]? = some c ∧ c ∈ l := by
  have hj : i.toNat < l.length := by omega
  have e : ((i.toNat : Nat) : Int) = i := by omega
  refine ⟨l[i.toNat], ?_, by simp [hj], List.getElem_mem hj⟩
  have := atI_nat (xs := l) (j := i.toNat) (v := l[i.toNat]) (by simp [hj])
  rw [e] at this
  exact this
section
variable {K : PySem.W.Frag} {B H : Hp} {M R : List (Addr × HO)} {a p : Addr} {Q : VK} {z : Str} {i : Int}
/-- an item of a text at an open place within it -/
theorem x_ixSo (h0 : 0 ≤ i) (h1 : i < (z.length : Int)) (hz : z.length ≤ sizeLine) (q : ∀ c, tl z = tl z → (tl z)[i.toNat]? = some c → c ∈ tl z → Q (.str ⟨#[c]⟩) H) : rIxS (.str z) (.int i) H Q := by
  obtain ⟨c, e, e2, m⟩ := at_lt (l := tl z) h0 (by rw [← len_tl]; exact h1)
  exact ⟨z, i, c, rfl, rfl, hz, e, q c rfl e2 m⟩
/-- join of signs -/
theorem x_join (l : List Nat) (h : H p = some (.lst (l.map ch))) (hz : l.length ≤ 16777216) (q : Q (.str (mkS l)) H) : rJoin K (.str Str.empty) [.ref p] H Q :=
  x_joinL (l.map fun c => (⟨#[c]⟩ : Str)) (by rw [map_ch]; exact h) (by
    rw [sum_ch, List.length_map]
    show l.length + l.length * 0 ≤ _
    omega) (by rw [join_ch]; exact q)
theorem x_mulS {n : Int} (hz : z.length ≤ 1000000) (hn : n ≤ 1000000) (hn0 : -1000000 ≤ n) (hl : z.length * n.toNat ≤ sizeLine) (q : Q (.str (Txt.mul z n)) H) : rMulS (.str z) (.int n) H Q := ⟨z, n, rfl, rfl, hz, hn, by omega, hl, q⟩
end
end NF

/-! Own toolkit: nested texts as lists of codes. -/
namespace NF
open PySem L2 TL

theorem tl_names : tl (Str.ofString "abcdefgh") = [97, 98, 99, 100, 101, 102, 103, 104] := by rw [tl_ofString]; decide +kernel
theorem len_names : (Str.ofString "abcdefgh").length = 8 := by rw [len_tl, tl_names]; rfl
/-- reading with a stack (the top first) -/
def run : List Nat → List Nat → Option (List Nat)
  | [], st => some st
  | c :: r, st => if 97 ≤ c ∧ c ≤ 104 then run r (c :: st) else match st with
    | t :: ts => if c + 32 = t then run r ts else none
    | [] => none
/-- the fault: the place of the first wrong sign, or the length -/
def flt : List Nat → Nat → List Nat → Option Nat
  | [], k, st => if st = [] then none else some k
  | c :: r, k, st => if 97 ≤ c ∧ c ≤ 104 then flt r (k + 1) (c :: st) else match st with
    | t :: ts => if c + 32 = t then flt r (k + 1) ts else some k
    | [] => some k
theorem run_cons (c : Nat) (r st : List Nat) : run (c :: r) st = if 97 ≤ c ∧ c ≤ 104 then run r (c :: st) else match st with
    | t :: ts => if c + 32 = t then run r ts else none
    | [] => none := by rw [run.eq_def]
theorem flt_cons (c : Nat) (r : List Nat) (k : Nat) (st : List Nat) : flt (c :: r) k st = if 97 ≤ c ∧ c ≤ 104 then flt r (k + 1) (c :: st) else match st with
    | t :: ts => if c + 32 = t then flt r (k + 1) ts else some k
    | [] => some k := by rw [flt.eq_def]
theorem run_append (l m : List Nat) : ∀ st, run (l ++ m) st = (run l st).bind (run m) := by
  induction l with
  | nil => intro st; rfl
  | cons c l ih =>
    intro st
    rw [List.cons_append, run_cons, run_cons]
    by_cases h : 97 ≤ c ∧ c ≤ 104
    · rw [if_pos h, if_pos h]; exact ih _
    · rw [if_neg h, if_neg h]
      cases st with
      | nil => rfl
      | cons t ts =>
        by_cases h2 : c + 32 = t
        · simp only [if_pos h2]; exact ih _
        · simp only [if_neg h2]; rfl
theorem flt_run {l : List Nat} (m : List Nat) : ∀ {k st st'}, run l st = some st' → flt (l ++ m) k st = flt m (k + l.length) st' := by
  induction l with
  | nil => intro k st st' h; cases h; rfl
  | cons c l ih =>
    intro k st st' h
    rw [List.cons_append, List.length_cons, flt_cons]
    rw [run_cons] at h
    have e : k + (l.length + 1) = (k + 1) + l.length := by omega
    by_cases h1 : 97 ≤ c ∧ c ≤ 104
    · rw [if_pos h1] at h ⊢; rw [e]; exact ih h
    · rw [if_neg h1] at h ⊢
      cases st with
      | nil => cases h
      | cons t ts =>
        by_cases h2 : c + 32 = t
        · simp only [if_pos h2] at h ⊢; rw [e]; exact ih h
        · simp only [if_neg h2] at h; cases h
/-- a beginning's stack is what is left open; else the fault is a place within -/
theorem flt_spec (l : List Nat) : ∀ k st, (∃ st', run l st = some st') ∨ (run l st = none ∧ ∃ j, flt l k st = some j ∧ k ≤ j ∧ j < k + l.length ∧ ∀ m, flt (l ++ m) k st = some j) := by
  induction l with
  | nil => intro k st; exact .inl ⟨st, rfl⟩
  | cons c l ih =>
    intro k st
    rw [run_cons]
    by_cases h1 : 97 ≤ c ∧ c ≤ 104
    · rw [if_pos h1]
      rcases ih (k + 1) (c :: st) with h | ⟨h, j, h2, h3, h4, h5⟩
      · exact .inl h
      · refine .inr ⟨h, j, ?_, by omega, by rw [List.length_cons]; omega, fun m => ?_⟩
        · rw [flt_cons]; rw [if_pos h1]; exact h2
        · rw [List.cons_append, flt_cons]; rw [if_pos h1]; exact h5 m
    · rw [if_neg h1]
      cases st with
      | nil =>
        refine .inr ⟨rfl, k, ?_, Nat.le_refl _, by rw [List.length_cons]; omega, fun m => ?_⟩
        · rw [flt_cons]; rw [if_neg h1]
        · rw [List.cons_append, flt_cons]; rw [if_neg h1]
      | cons t ts =>
        by_cases h2 : c + 32 = t
        · simp only [if_pos h2]
          rcases ih (k + 1) ts with h | ⟨h, j, h3, h4, h5, h6⟩
          · exact .inl h
          · refine .inr ⟨h, j, ?_, by omega, by rw [List.length_cons]; omega, fun m => ?_⟩
            · rw [flt_cons]; rw [if_neg h1]; simp only [if_pos h2]; exact h3
            · rw [List.cons_append, flt_cons]; rw [if_neg h1]; simp only [if_pos h2]; exact h6 m
        · simp only [if_neg h2]
          refine .inr ⟨trivial, k, ?_, Nat.le_refl _, by rw [List.length_cons]; omega, fun m => ?_⟩
          · rw [flt_cons]; rw [if_neg h1]; simp only [if_neg h2]
          · rw [List.cons_append, flt_cons]; rw [if_neg h1]; simp only [if_neg h2]
theorem flt_of_run {l : List Nat} {k : Nat} {st st' : List Nat} (h : run l st = some st') : flt l k st = if st' = [] then none else some (k + l.length) := by
  have := flt_run (k := k) [] h
  rw [List.append_nil] at this
  rw [this]
  rfl
/-- the stack's letters are opening ones -/
theorem run_lo {l : List Nat} : ∀ {st st'}, run l st = some st' → (∀ c ∈ st, 97 ≤ c ∧ c ≤ 104) → ∀ c ∈ st', 97 ≤ c ∧ c ≤ 104 := by
  induction l with
  | nil => intro st st' h hs; cases h; exact hs
  | cons c l ih =>
    intro st st' h hs
    rw [run_cons] at h
    by_cases h1 : 97 ≤ c ∧ c ≤ 104
    · rw [if_pos h1] at h
      refine ih h fun d hd => ?_
      rcases List.mem_cons.mp hd with rfl | hd
      · exact h1
      · exact hs d hd
    · rw [if_neg h1] at h
      cases st with
      | nil => cases h
      | cons t ts =>
        by_cases h2 : c + 32 = t
        · simp only [if_pos h2] at h
          exact ih h fun d hd => hs d (List.mem_cons_of_mem _ hd)
        · simp only [if_neg h2] at h; cases h
theorem take_snoc {α : Type} {l : List α} {i : Nat} {c : α} (h : l[i]? = some c) : l.take (i + 1) = l.take i ++ [c] := by rw [List.take_add_one, h]; rfl
theorem drop_cons {α : Type} {l : List α} {i : Nat} {c : α} (h : l[i]? = some c) : l = l.take i ++ c :: l.drop (i + 1) := by
  have hi : i < l.length := (List.getElem?_eq_some_iff.mp h).1
  have e : l[i] = c := (List.getElem?_eq_some_iff.mp h).2
  rw [← e, ← List.drop_eq_getElem_cons hi, List.take_append_drop]
theorem run_lo1 {l st : List Nat} {i c : Nat} (h : run (l.take i) [] = some st) (hc : l[i]? = some c) (h1 : 97 ≤ c ∧ c ≤ 104) : run (l.take (i + 1)) [] = some (c :: st) := by
  rw [take_snoc hc, run_append, h]
  show run [c] st = _
  rw [run_cons, if_pos h1]
  rfl
theorem run_up1 {l st : List Nat} {i c : Nat} (h : run (l.take i) [] = some ((c + 32) :: st)) (hc : l[i]? = some c) (h1 : ¬ (97 ≤ c ∧ c ≤ 104)) : run (l.take (i + 1)) [] = some st := by
  rw [take_snoc hc, run_append, h]
  show run [c] ((c + 32) :: st) = _
  rw [run_cons, if_neg h1]
  simp only [if_true]
  rfl
theorem flt_stop {l st : List Nat} {i c : Nat} (h : run (l.take i) [] = some st) (hc : l[i]? = some c) (h1 : ¬ (97 ≤ c ∧ c ≤ 104)) (h2 : ∀ t ts, st = t :: ts → c + 32 ≠ t) : flt l 0 [] = some i := by
  have hi : i < l.length := (List.getElem?_eq_some_iff.mp hc).1
  rw [drop_cons hc, flt_run _ h, flt_cons, if_neg h1, List.length_take, Nat.min_eq_left (by omega), Nat.zero_add]
  cases st with
  | nil => rfl
  | cons t ts => simp only [if_neg (h2 t ts rfl)]
theorem flt_end {l st : List Nat} (h : run (l.take l.length) [] = some st) : flt l 0 [] = if st = [] then none else some l.length := by
  rw [List.take_length] at h
  rw [flt_of_run h, Nat.zero_add]
theorem run_len {l : List Nat} : ∀ {st st'}, run l st = some st' → st'.length ≤ st.length + l.length := by
  induction l with
  | nil => intro st st' h; cases h; exact Nat.le_refl _
  | cons c l ih =>
    intro st st' h
    rw [run_cons] at h
    by_cases h1 : 97 ≤ c ∧ c ≤ 104
    · rw [if_pos h1] at h
      have := ih h
      simp only [List.length_cons] at this ⊢
      omega
    · rw [if_neg h1] at h
      cases st with
      | nil => cases h
      | cons t ts =>
        by_cases h2 : c + 32 = t
        · simp only [if_pos h2] at h
          have := ih h
          simp only [List.length_cons] at this ⊢
          omega
        · simp only [if_neg h2] at h; cases h
/-- the closing letters of a stack -/
theorem run_close : ∀ {st : List Nat}, (∀ c ∈ st, 97 ≤ c ∧ c ≤ 104) → run (st.map (· - 32)) st = some []
  | [], _ => rfl
  | c :: st, h => by
    have hc := h c (List.mem_cons_self ..)
    show run ((c - 32) :: st.map (· - 32)) (c :: st) = _
    rw [run_cons, if_neg (by omega)]
    simp only [show c - 32 + 32 = c by omega, if_true]
    exact run_close fun d hd => h d (List.mem_cons_of_mem _ hd)
/-- what is written so far, what is still open (the last one opened at the end, as closing letters) -/
def NestI (ls os : List Nat) (n : Nat) : Prop := run ls [] = some ((os.map (· + 32)).reverse) ∧ (∀ c ∈ os, 65 ≤ c ∧ c ≤ 72) ∧ ls.length + os.length = n
theorem NestI.nil : NestI [] [] 0 := ⟨rfl, fun _ h => absurd h List.not_mem_nil, rfl⟩
theorem NestI.pop {ls os : List Nat} {c n : Nat} (h : NestI ls (os ++ [c]) n) : NestI (ls ++ [c]) os n := by
  obtain ⟨h1, h2, h3⟩ := h
  have hc := h2 c (by simp)
  refine ⟨?_, fun d hd => h2 d (List.mem_append_left _ hd), by simp only [List.length_append, List.length_singleton] at h3 ⊢; omega⟩
  rw [run_append, h1, List.map_append, List.reverse_append]
  show run [c] ((c + 32) :: (os.map (· + 32)).reverse) = _
  rw [run_cons, if_neg (by omega)]
  simp only [if_true]
  rfl
theorem NestI.push {ls os : List Nat} {c n : Nat} (h : NestI ls os n) (hc : 97 ≤ c ∧ c ≤ 104) : NestI (ls ++ [c]) (os ++ [c - 32]) (n + 2) := by
  obtain ⟨h1, h2, h3⟩ := h
  refine ⟨?_, fun d hd => ?_, by simp only [List.length_append, List.length_singleton]; omega⟩
  · rw [run_append, h1]
    show run [c] _ = _
    rw [run_cons, if_pos hc, List.map_append, List.reverse_append]
    show some (c :: (os.map (· + 32)).reverse) = some ((c - 32 + 32) :: (os.map (· + 32)).reverse)
    rw [show c - 32 + 32 = c by omega]
  · rcases List.mem_append.mp hd with hd | hd
    · exact h2 d hd
    · rw [List.mem_singleton.mp hd]; omega
/-- nested -/
def Nst (l : List Nat) : Prop := run l [] = some []
theorem NestI.done {ls : List Nat} {n : Nat} (h : NestI ls [] n) : Nst ls ∧ ls.length = n := ⟨h.1, by have := h.2.2; simpa using this⟩
section
variable {K : PySem.W.Frag} {B H : Hp} {M R : List (Addr × HO)} {a p : Addr} {Q : VK} {z : Str} {i : Int} {xs : List V}
theorem x_popC {os : List Nat} {c : Nat} (O : Own B H M R) (k : Nat) (hk : R[k]? = some (a, .lst ((os ++ [c]).map ch))) (q : ∀ H1, Own B H1 M (R.set k (a, .lst (os.map ch))) → Q (ch c) H1) : rPop (.ref a) [] H Q := by
  have e : (os ++ [c]).map ch = os.map ch ++ [ch c] := by rw [List.map_append]; rfl
  rw [e] at hk
  refine x_pop O k hk (v := ch c) (by simp) fun H1 O1 => q H1 ?_
  rw [List.dropLast_concat] at O1
  exact O1
theorem x_appC {l : List Nat} {c : Nat} (O : Own B H M R) (k : Nat) (hk : R[k]? = some (a, .lst (l.map ch))) (hz : l.length < 10000000) (q : ∀ H1, Own B H1 M (R.set k (a, .lst ((l ++ [c]).map ch))) → Q .non H1) : rAppend (.ref a) [ch c] H Q := by
  refine x_append O k hk (by rw [List.length_map, sizeLine_eq]; omega) fun H1 O1 => q H1 ?_
  rw [List.map_append]
  exact O1
theorem map_snoc (l : List Nat) (c : Nat) : l.map ch ++ [ch c] = (l ++ [c]).map ch := by rw [List.map_append]; rfl
/-- an item of a list at an open place within it -/
theorem x_ixLo (h : H a = some (.lst xs)) (h0 : 0 ≤ i) (h1 : i < (xs.length : Int)) (q : ∀ v, xs[i.toNat]? = some v → v ∈ xs → Q v H) : rIxL K (.ref a) (.int i) H Q := by
  obtain ⟨c, e, e2, m⟩ := at_lt h0 h1
  exact x_ixL h e (q c e2 m)
end
theorem snoc_of {α : Type} {l : List α} (h : 0 < l.length) : ∃ m c, l = m ++ [c] := by
  rcases List.eq_nil_or_concat l with e | ⟨m, c, e⟩
  · rw [e] at h; simp at h
  · exact ⟨m, c, by rw [e, List.concat_eq_append]⟩
end NF

/-! Own exceptions: a class over ValueError whose __init__ says super().__init__('..') and keeps its arguments. -/
namespace NF
open PySem PySem.Spec PyProof.Rows PySem.W PySem.Calls L2

/-- what the written part says of an own exception class at C, its __init__ at f, one field fld -/
structure XCls (P : Program) (K : Frag) (mg : Str → Option Value) (C : Addr) : Prop where
  oex : OexC K C
  ini : excInitIn K C PySem.HandSPX.veTail "ValueError.__new__" = true
  sub : subIn K (.ref C) (.type "ValueError") = some true
  opq : nsIn K cStatics "thirdparty.any" = some none
  sup : mg "super" = none
  htop : (P.main.scope.names.lookup ("super" : Str)).isSome = false

def spX (K : Frag) (C : Addr) (fld : Str) : Sp := fun vs H Q _ => ∃ e v, vs = [.ref e, v] ∧ H e = some (exo e C none) ∧
  ∀ dx, H dx = none → dx ≠ e → Q .non (upd (upd H dx (exd dx [(fld, v)])) e (exo e C (some dx)))

section
variable {prog : Program} {w : World} {A : Around} {E : Value → Shared → Prop} {K : Frag} {h : Heap} {g : Array GenState} {d : Drawn} {t : Nat} {os : OsState}
/-- super().__init__(..) bound, called -/
theorem call_mwVE {C x u t0 : Addr} {rest : List Value} {Q : Value → Shared → Prop} (X : K.In h) (q : excInitIn K C PySem.HandSPX.veTail "ValueError.__new__" = true) (hu : h.get? u = some (kxs_mw "ValueError.__init__" x))
    (he : h.get? x = some (PySem.HandSPX.excO C t0)) (hz : rest.length ≤ sizeLine)
    (fin : ∀ h' t1, (∀ b o, b ≠ x → h.get? b = some o → h'.get? b = some o) → h'.get? x = some (PySem.HandSPX.excO C t1) → Q .none ⟨h', g, d, t, os⟩) :
    wpAny (model prog w) A (call (.ref u) rest) Q E ⟨h, g, d, t, os⟩ := by
  obtain ⟨nm, N', qn, bs, bm, hdct, sn, sub, ab, col, dd, k0, k1, k2, k3, k5, hC, hT⟩ := excInit_of X q
  refine wpAny_call (codeAny_of_tree ?_)
  show wpAny _ A.in1 (callAny (.ref u) ⟨rest, []⟩) _ _ _
  simp only [callAny]
  refine wpAny_bind (wpAny_load hu ?_)
  simp only [kxs_mw, show (Value.type "method-wrapper" == Value.type "method" || Value.type "method-wrapper" == Value.type "builtin_function_or_method" || Value.type "method-wrapper" == Value.type "method-wrapper") = true by decide, if_true]
  refine KFB.if_so (by decide) ?_
  refine wpAny_bind (check_bound_init PySem.F.excBase_ValueError.toExcCallFacts hC he rfl ?_)
  refine wpAny_bind (wpAny_pure (wpAny_pure ?_))
  refine ⟨plainId_quiet PySem.F.excBase_ValueError.init.plain _, codeAny_builtin PySem.F.excBase_ValueError.initEntry ?_⟩
  exact exc_init_tree (cls := .ref C) (t0 := t0) (dv := none) (c2 := .none) (c3 := .none) (b4 := .bool false) he hz fun h' k e' _ => fin h' _ k e'
end

theorem fn_sup {CX : CXT} {P : Program} {w : World} {K : Frag} {mg : Str → Option Value} {base : Heap} {k : Nat} {C D f cc cda : Addr} {cdD : ClassData} {name qual fld txt : Str} {j : Nat} {params : Arguments} {scope : Scope} {dV kV doc pm ct oc ccl cl : Value} {an od cdd cld : Option Addr}
    {osl ccs csl : Array (Option Value)} {vs : Array Value} {file : Str} {tf : Tok} {ar : Arg} {p0 p1 p2 p3 p4 p5 q0 q1 q2 q3 : Pos} (T : XCls P K mg C)
    (lk : K.lookup f = some ⟨oc, od, .func (ksFn name qual params [.Expr (.Call (.Attribute (.Call (.Name "super" p0) [] [] p1) "__init__" p2) [.Constant (.str txt) j p3] [] p4) p5, .Assign [.Attribute (.Name "self" q0) fld q1] (.Name fld q2) q3] scope dV kV doc pm an (.ref cda) ct cc), osl⟩)
    (hcd : codeIn K (.ref cda) qual = true) (hcode : K.lookup cda = some ⟨ccl, cdd, .fields vs, ccs⟩) (hvs : vs[2]? = some (.str file tf)) (hfile : ((P.main.file : Str) == file) = true)
    (hcell : K.lookup cc = some ⟨cl, cld, .cell (some (.ref D)), csl⟩) (hD : clsIn K D = some cdD) (hp : (params.posonlyargs ++ params.args).head? = some ar) (har : ar.arg = "self")
    (hmro : mroIn K C (.ref D) = some true) (hsi : ks_superIn K C D "__init__" = some (some (.builtin "ValueError.__init__"))) (hno : findIn K (.ref C) fld = some none)
    (hns : ("self" : Str) ≠ fld) (hdb : (fld == ("__debug__" : Str)) = false)
    (s1 : scope.names.lookup ("self" : Str) = some .local) (s2 : scope.names.lookup fld = some .local) (s3 : scope.names.lookup ("super" : Str) = some .globalImplicit) (s4 : scope.names.lookup ("__class__" : Str) = some .free)
    (hnc : ∀ x ∈ scope.names, x.2 ≠ .cell) (hco : scope.isCoroutine = false) (hgen : scope.isGenerator = false) (hk : scope.kind = .function) (pl : Env → Sem Bool)
    (hme : ∀ env : Env, eval (.Call (.Attribute (.Call (.Name "super" p0) [] [] p1) "__init__" p2) [.Constant (.str txt) j p3] [] p4) env = (do
      let ov ← attributeBase (.Call (.Name "super" p0) [] [] p1) "__init__" env (eval (.Call (.Name "super" p0) [] [] p1) env)
      standAt p2.atName
      let (f, first) ← holding [ov] (getMethod ov "__init__" (pl env))
      callWith p4 f first (backTo p4 (starEach [.Constant (.str txt) j p3] env)) [])) :
    FnOk P w K mg base CX (k + 1) f (ksFn name qual params [.Expr (.Call (.Attribute (.Call (.Name "super" p0) [] [] p1) "__init__" p2) [.Constant (.str txt) j p3] [] p4) p5, .Assign [.Attribute (.Name "self" q0) fld q1] (.Name fld q2) q3] scope dV kV doc pm an (.ref cda) ct cc)
      ["self", fld] (spX K C fld) := by
  refine ⟨fun vs H Q E ⟨e, v, hv, _⟩ => by rw [hv]; rfl, fun A outer s H args us vs Q E hr e0 hb r hsp => ?_⟩
  obtain ⟨x, v, rfl, hx, hq⟩ := hsp
  obtain ⟨u0, us1, rfl, r1, r⟩ : ∃ u0 us1, us = u0 :: us1 ∧ RelV (.ref x) u0 ∧ Vals [v] us1 := by cases r with | cons a b => exact ⟨_, _, rfl, a, b⟩
  obtain ⟨u, us2, rfl, ru, r⟩ : ∃ u us2, us1 = u :: us2 ∧ RelV v u ∧ Vals [] us2 := by cases r with | cons a b => exact ⟨_, _, rfl, a, b⟩
  cases r
  obtain rfl : u0 = Value.ref x := r1
  have KX : K.In s.heap := e0.mod.kin.keeps fun b o e => (e0.bs b o e).1
  have lim : s.heap.NoLimit := e0.mod.nolimit.keeps fun b o e => (e0.bs b o e).1
  refine ks_codeAny_call_defAt hr.depth (KX _ _ lk) rfl lim (codeRec_of KX hcd) rfl hb hnc (fun y hy => ?_) (fun h1 hns1 hk1 => ?_) hco hgen hk
  · have hy' : y = (("self" : Str), Value.ref x) ∨ y = (fld, u) := by simpa using hy
    rcases hy' with rfl | rfl
    · exact s1
    · exact s2
  obtain ⟨t0, hx0⟩ := exo_at e0.hok hx
  have hx1 := hk1 _ _ hx0
  obtain ⟨hp0, g, d, tk, os⟩ := s
  have X1 : K.In h1 := KX.keeps hk1
  have bk1 : ∀ b o, base.get? b = some o → h1.get? b = some o := fun b o e => hk1 b o (e0.bs b o e).1
  have mself : ((((["self", fld] : List Str).zip [Value.ref x, u]).reverse).lookup ("self" : Str)) = some (Value.ref x) := by
    have : (("self" : Str) == fld) = false := by simpa using hns
    simp [List.lookup, this]
  have mfld : ((((["self", fld] : List Str).zip [Value.ref x, u]).reverse).lookup fld) = some u := by
    simp [List.lookup]
  refine ks_wpAt_execs_cons (ks_wpAt_Expr_any (ks_wpAt_MethodCall (pl := pl _) ?body (hme _)) ?hi ?hsw)
  case hi =>
    unfold interactive
    show (scope.kind == ScopeKind.module && _) = false
    rw [hk]
    rfl
  case hsw => rfl
  refine ks_wpAt_super_base s3 s4 (by decide) rfl (X1 _ _ lk) rfl hp rfl (X1 _ _ hcode) rfl hvs hfile T.htop ?_
  obtain ⟨mb, hb1, hb2⟩ := e0.mod.blt
  refine ks_loadName_global hk s3 (loadGlobal_builtin (e0.mod.glob.keeps bk1) T.sup (hb1.keeps bk1) ((hb2 _ (by decide)).trans (by first | boot_by_name | rfl | kernel_rfl)) ⟨rfl, ?_⟩)
  refine wpAny_loadName_free hk s4 rfl ⟨_, X1 _ _ hcell, rfl⟩ ?_
  rw [har]
  refine wpAny_loadName_local hk s1 hns1 mself ?_
  obtain ⟨oD, hD1, hD2⟩ : ∃ oD, h1.get? D = some oD ∧ oD.data = .cls cdD := by
    unfold clsIn at hD
    split at hD
    · rename_i c d cd' sl ho
      cases hD
      exact ⟨_, X1 _ _ ho, rfl⟩
    · cases hD
  refine ks_wpAny_isType_cls hD1 hD2 ⟨rfl, ?_⟩
  refine ks_wpAny_call_super hD1 hD2 hx1 rfl (fun c e => by cases e) (looks_mroIn X1 hmro) (fun h2 e2 k2 => ?_)
  have X2 : K.In h2 := X1.keeps k2
  have hx2 := k2 _ _ hx1
  have I2 : InstAt h2 x (PySem.HandSPX.excO C t0) C none := ⟨hx2, rfl, rfl, trivial⟩
  cases hc : clsIn K C with
  | none => unfold ks_superIn at hsi; rw [hc] at hsi; cases hsi
  | some cd =>
    unfold ks_superIn at hsi
    rw [hc] at hsi
    refine kxs_getMethod kxs_ValueError e2 (looks_opaque X2 T.opq) (l₀ := cd.mro) ?_ rfl X2 hsi (I2.type.andThen (looks_subIn X2 T.sub)) (ks_ne X2 I2 hc) (by decide) ?_
    · exact fun A Q E s k q => wpAny_bind ((looks_clsIn X2 hc) A _ E s k (wpAny_pure q))
    refine kxs_callWith (i := "ValueError.__init__") (x := x) rfl ?_
    refine evalArgs_plain ?_
    show wpAny _ _ (spliced ((false, eval (.Constant (.str txt) j p3) _) :: backTo p4 (starEach [] _))) _ _ _
    refine spliced_cons (Constant_str (spliced_nil ?_))
    have k3 : ∀ b o, h2.get? b = some o → (h2.push (kxs_mw "ValueError.__init__" x)).get? b = some o := fun b o e => Heap.get?_push_of_some _ e
    have hu3 : (h2.push (kxs_mw "ValueError.__init__" x)).get? h2.objs.size = some (kxs_mw "ValueError.__init__" x) := Heap.get?_push_at rfl rfl
    refine ⟨hu3, ?_⟩
    refine call_mwVE (X2.keeps k3) T.ini hu3 (k3 _ _ hx2) (by size_fits) fun h4 t1 k4 hx4 => ?_
    have k14 : ∀ b o, b ≠ x → h1.get? b = some o → h4.get? b = some o := fun b o hb e => k4 b o hb (k3 _ _ (k2 _ _ e))
    have hn : H hp0.objs.size = none := e0.hok.fresh (Nat.le_refl _)
    have hxL : hp0.objs.size ≠ x := fun z => by rw [z, hx] at hn; cases hn
    have X4 : K.In h4 := e0.mod.kin.keeps fun b o e => k14 b o (fun z => by
      have q := (e0.bs b o e).2
      rw [z, hx] at q
      cases q) (bk1 b o e)
    have hns4 : h4.Ns hp0.objs.size (fun y => List.lookup y (([("self" : Str), fld].zip [Value.ref x, u]).reverse)) := hns1.at fun o e => k14 _ _ hxL e
    show _root_.PySem.wpAt _ _ _ (execs [.Assign [.Attribute (.Name "self" q0) fld q1] (.Name fld q2) q3] _) _ _ _
    refine wpAt_of_wpAny (wpAny_execs_cons ?_)
    refine plainObj_wpAny_Assign_Attribute ?_ rfl
    refine wpAny_Name (wpAny_loadName_local hk s2 hns4 mfld ?_) hdb
    refine wpAny_Name (wpAny_loadName_local hk s1 hns4 mself ?_) (by decide)
    obtain ⟨nm, q, N, bs, bm, sn, sub, ab, col, dd, kk0, kk1, kk2, kk3, kk5, hC, hbm⟩ := T.oex.cls
    have hcl : clsIn K C = some { name := nm, bases := bs, mro := .ref C :: bm, ns := N, qualname := q, hasDict := true, slotNames := sn, subclasses := sub, abstract := ab, collection := col, hasDel := false } := by unfold clsIn; rw [hC] <;> rfl
    refine set_plain X4 (ox := PySem.HandSPX.excO C t1) (od := none) ⟨hx4, rfl, rfl, trivial⟩ T.oex.sa ?_
    refine PySem.HandSPX.exc_osa X4 hx4 hcl (show PySem.HandSPX.refsVE (.ref C :: bm) = true from hbm) rfl hno (fun h5 tk5 dx k5 dn dne hx5 hn5 => ?_)
    refine wpAny_execs_nil ?_
    have k05 : ∀ b o, b ≠ x → hp0.get? b = some o → h5.get? b = some o := fun b o hb e => k5 b o hb (k14 b o hb (hk1 b o e))
    have sz : hp0.objs.size ≤ dx := Nat.le_trans (Nat.le_of_lt hns4.lt) dn
    have hnd : H dx = none := e0.hok.fresh sz
    have nd : ∀ {b : Addr} {o : Obj}, hp0.get? b = some o → b ≠ dx := fun {b o} q => Nat.ne_of_lt (Nat.lt_of_lt_of_le (Heap.lt_size q) sz)
    have na : ∀ {b : Addr}, H b = none → b ≠ x := fun {b} n z => by
      rw [z, hx] at n
      cases n
    have Un1 : Un (frs outer) [] H (upd (upd H dx (exd dx [(fld, v)])) x (exo x C (some dx))) hp0 h5 := {
      keep := fun b o q n _ _ => k05 b o (na n) q
      slot := fun b o q n _ _ => ⟨o.slots, k05 b o (na n) q⟩
      free := fun b o q n _ => by rw [upd_ne (na n), upd_ne (nd q)]; exact n
      there := fun b o q _ => by
        by_cases hb : b = x
        · exact ⟨_, by rw [hb]; exact hx5⟩
        · exact ⟨o, k05 b o hb q⟩
      tups := fun b xs q => by rw [upd_ne (at_ne hx q exo_tup), upd_ne (ne_of_none q hnd)]; exact q
      frzs := fun b o v q => by rw [upd_ne (at_ne hx q exo_frz), upd_ne (ne_of_none q hnd)]; exact q
      tbls := fun b ps q => ⟨#[], by rw [upd_ne (at_ne hx q exo_tbl), upd_ne (ne_of_none q hnd), q]; simp⟩ }
    refine ⟨.non, _, rfl, e0.bare, Un1, fun b o q => ?_, rfl, hq dx hnd dne⟩
    by_cases hb : b = x
    · subst hb
      rw [upd_same] at q
      cases q
      exact exo_ok hx5
    · rw [upd_ne hb] at q
      by_cases hd : b = dx
      · subst hd
        rw [upd_same] at q
        cases q
        exact exd_ok hn5 (relO_put (fs := []) ru fun g => True.intro)
      · rw [upd_ne hd] at q
        exact (e0.hok b o q).stay (fun c v hc z => k05 c v (by
            rcases hc with hc | hc
            · rw [hc]
              exact hb
            · exact at_ne hx hc exo_own) z)
          (fun c hc => by rw [upd_ne (at_ne hx hc exo_own), upd_ne (ne_of_none hc hnd)]; exact hc) (fun c xs hc => by rw [upd_ne (at_ne hx hc exo_tup), upd_ne (ne_of_none hc hnd)]; exact hc)
end NF

/-! Own exceptions, second part: classes by name, raising, defs that may raise, isinstance and fields in a suite. -/
namespace NF
open PySem PySem.Spec PyProof.Rows PySem.W PySem.Calls L2

/-- the class that the module's name x stands for -/
def cad (mg : Str → Option Value) (x : Str) : Addr := match mg x with
  | some (.ref a) => a
  | _ => 0
theorem cad_eq {mg : Str → Option Value} {x : Str} {a : Addr} (h : mg x = some (.ref a)) : cad mg x = a := by
  unfold cad
  rw [h]

/-- an exception class: what a clause that names it and isinstance want of it -/
structure XNam (K : Frag) (mg : Str → Option Value) (x : Str) : Prop where
  hm : mg x = some (.ref (cad mg x))
  exC : subIn K (.ref (cad mg x)) (.type "BaseException") = some true
  hd : hasDictIn K (cad mg x) = true
  ty : typeIn K (.ref (cad mg x)) = some (.type "type")

/-- .. whose instances are made and looked at -/
structure XFact (P : Program) (K : Frag) (mg : Str → Option Value) (x fld : Str) : Prop where
  nam : XNam K mg x
  cls : XCls P K mg (cad mg x)
  exc : ExcC K (cad mg x)
  nof : findIn K (.ref (cad mg x)) fld = some none
  ini : ∃ fI fd, findIn K (.ref (cad mg x)) "__init__" = some (some (.ref fI)) ∧ typeIn K (.ref fI) = some (.type "function") ∧ Binds K fd ["self", fld] [] ∧
    ∀ (w : World) (base : Heap) (CX : CXT), FnOk P w K mg base CX 1 fI fd ["self", fld] (spX K (cad mg x) fld)

/-! ### X(e) -/
def tMkX (C : Addr) (fld : Str) (te : TE) : L2.St → Hp → XK → Prop := fun σ H Q => te σ H fun v H1 => ∀ d, H1 d = none → Q (.ref C) (some d) (upd H1 d (.xd [(fld, v)]))

theorem pmk_x {X : Cx} {x fld : Str} {e : Expr} {te : TE} {p pos : Pos} (T : XFact X.prog X.K X.mg x fld) (hr : Room 2 X.A) (hg : Gl X x) (ha : PE X e te)
    (hdb : (x == ("__debug__" : Str)) = false := by decide) (he : starEach [e] X.env = (false, eval e X.env) :: starEach [] X.env := by rfl) :
    L2N.PMk X (.Call (.Name x p) [e] [] pos) (tMkX (cad X.mg x) fld te) := by
  intro pins s σ H Q I h
  obtain ⟨fI, fd, iC, tI, hb, F1⟩ := T.ini
  have F1 := F1 X.w X.base CX0
  obtain ⟨nm, q, N, bs, bm, sn, sub, ab, col, dd, k0, k1, k2, k3, k5, hC, hbm⟩ := T.cls.oex.cls
  refine wpAny_Call_Name_kw (ld_glob I hg T.nam.hm ?_ hdb)
  refine PySem.W.callWith_K (h₀ := X.base) I.ok.mod.kin T.cls.oex.kC ?_ he rfl
  rw [he]
  refine spliced_cons (thn (ha.run pins s σ H _ I h) fun u s1 ⟨v, H1, I1, r1, q1⟩ => spliced_nil ⟨I1.kIn, ?_⟩)
  show wpAny _ _ (call (.ref (cad X.mg x)) [u]) _ _ _
  obtain ⟨hp, g, dr, tk, os⟩ := s1
  have hsz : hp.objs.size ≤ hp.objs.size + 1 := Nat.le_succ _
  have hn : H1 (hp.objs.size + 1) = none := I1.hok.fresh hsz
  have kk : ∀ b o, hp.get? b = some o → ((hp.push (PySem.W.kdv_tup [u])).push (PySem.HandSPX.excO (cad X.mg x) hp.objs.size)).get? b = some o := fun b o e => Heap.get?_push_of_some _ (Heap.get?_push_of_some _ e)
  have hget : ((hp.push (PySem.W.kdv_tup [u])).push (PySem.HandSPX.excO (cad X.mg x) hp.objs.size)).get? (hp.objs.size + 1) = some (PySem.HandSPX.excO (cad X.mg x) hp.objs.size) := by heap_get
  have I2 : Inv X pins σ (upd H1 (hp.objs.size + 1) (exo (hp.objs.size + 1) (cad X.mg x) none)) ⟨(hp.push (PySem.W.kdv_tup [u])).push (PySem.HandSPX.excO (cad X.mg x) hp.objs.size), g, dr, tk, os⟩ :=
    I1.laid (t' := tk) (a := hp.objs.size + 1) (o := exo (hp.objs.size + 1) (cad X.mg x) none) (h' := (hp.push (PySem.W.kdv_tup [u])).push (PySem.HandSPX.excO (cad X.mg x) hp.objs.size)) kk hsz (exo_ok hget)
  have r2 : Vals [V.ref (hp.objs.size + 1), v] [Value.ref (hp.objs.size + 1), u] := .cons rfl (.cons r1 .nil)
  have b2 := hb _ [Value.ref (hp.objs.size + 1), u] I2.kIn rfl
  refine wpAny_call (PySem.HandSPX.call_own PySem.F.excBase_ValueError (fun Y => PySem.HandSPX.refsVE_contains Y bm hbm) (I1.kIn _ _ hC) (PySem.W.looks_findIn I1.kIn iC) (fun self => PySem.W.bind_fn I1.kIn self tI) (by size_fits)
    (codeAny_mono (F1.run _ X.stack _ _ ⟨[Value.ref (hp.objs.size + 1), u], []⟩ [Value.ref (hp.objs.size + 1), u] _
      (fun v2 H2 => v2 = .non ∧ ∃ dx, H1 dx = none ∧ dx ≠ hp.objs.size + 1 ∧ H2 = upd (upd (upd H1 (hp.objs.size + 1) (exo (hp.objs.size + 1) (cad X.mg x) none)) dx (exd dx [(fld, v)])) (hp.objs.size + 1) (exo (hp.objs.size + 1) (cad X.mg x) (some dx)))
      (fun _ _ _ => False) (hr.make (cad X.mg x) [u] []) (I2.env0.make (cad X.mg x) [u] []) b2 r2 ⟨_, v, rfl, upd_same, fun dx h1 h2 => ⟨rfl, dx, by rw [upd_ne h2] at h1; exact h1, h2, rfl⟩⟩) fun r s' hq' => ?_))
  cases r with
  | error er => exact hq'.elim
  | ok fl =>
    cases fl with
    | ret u =>
      obtain ⟨v2, H2, os2, bare2, un2, hok2, rv, ev, dx, hd1, hne, eH⟩ := hq'
      subst ev
      obtain ⟨h2, g2, d2, t2, os'⟩ := s'
      have ea : H2 (hp.objs.size + 1) = some (exo (hp.objs.size + 1) (cad X.mg x) (some dx)) := by rw [eH, upd_same]
      have ed : H2 dx = some (exd dx [(fld, v)]) := by rw [eH, upd_ne hne, upd_same]
      obtain ⟨t0, G, J, kG, ge, hoe, na⟩ := mk_end0 (d2 := d2) (t2 := t2) I1 hsz kk un2 hok2 os2 bare2 ea ed hd1
      have eF : upd (del H2 (hp.objs.size + 1)) dx (.xd [(fld, v)]) = upd H1 dx (.xd [(fld, v)]) := by
        funext b
        by_cases hb : b = dx
        · rw [hb, upd_same, upd_same]
        · rw [upd_ne hb, upd_ne hb]
          by_cases ha : b = hp.objs.size + 1
          · rw [ha, del_same, hn]
          · rw [del_ne ha, eH, upd_ne ha, upd_ne hb, upd_ne ha]
      rw [eF] at J na
      refine ⟨rv, ⟨hp.objs.size + 1, _, _, ⟨G, g2, d2, t2, os'⟩, _, .ref (cad X.mg x), some dx, rfl, J, kG, ge, hoe, ⟨rfl, rfl, fun vs hv => ?_⟩, rfl, rfl, na, rfl, bare2, raises_own T.cls.oex.exC T.cls.oex.tyC, q1 dx hd1⟩⟩
      cases hv
      rfl
    | next => exact False.elim hq'
    | brk => exact False.elim hq'
    | cont => exact False.elim hq'

/-! ### defs that may raise, with defaults -/
structure DefX (P : Program) (w : World) (K : PySem.W.Frag) (mg : Str → Option Value) (base : Heap) (k : Nat) (x : Str) (ps : List Str) (dvs : List V) (sp : Sp) : Prop where
  ex : ∃ f fd ds, FnOk P w K mg base (L2N.CX P w) k f fd ps sp ∧ mg x = some (.ref f) ∧ PySem.W.keepIn K (.ref f) = true ∧ Binds K fd ps ds ∧ Vals dvs ds
/-- a def with defaults as the top leaves it; the last ones always lack -/
def FnD (K : PySem.W.Frag) (mg : Str → Option Value) (x : Str) (st : Stmt) (dvs : List V) : Prop := ∃ f fd, FunD K x x (defArgs st) (defBody st) (defScope st) dvs [] f fd ∧ mg x = some (.ref f)
section
variable {P : Program} {w : World} {K : PySem.W.Frag} {mg : Str → Option Value} {base : Heap}
theorem DefX.mk0 {x : Str} {st : Stmt} {N ps : List Str} {k : Nat} {sp : Sp} (F : Fn0 K mg x st) (S : FnScope N ps (defScope st)) (len : ∀ vs H Q E, sp vs H Q E → vs.length = ps.length)
    (hbind : ∀ (kV doc pm : Value) (an : Option Addr) (cdv ct : Value) (us : List Value), us.length = ps.length → bindArgs (PySem.W.fnOf x x (defArgs st) (defBody st) (defScope st) .none kV doc pm an cdv ct) ⟨us, []⟩ = pure (ps.zip us))
    (hbody : ∀ {f : Addr} (cdv : Value) (A : Around) (outer : List Env) (s : Shared) (H : Hp) (vs : List V) (Q : VK) (E : XK), Room k (A.deeper (envOfC x (defScope st) s.heap.objs.size f cdv)) → sp vs H Q E →
      L2N.Takes (cxOf (L2N.CX P w) P w K mg base N x (defScope st) f cdv A outer s H E) (fun cls d _ H' => E cls d H') → PassesOwn (model P w) (A.deeper (envOfC x (defScope st) s.heap.objs.size f cdv)) (envOfC x (defScope st) s.heap.objs.size f cdv) (cxOf (L2N.CX P w) P w K mg base N x (defScope st) f cdv A outer s H E).xe →
      ∃ t, PSs (cxOf (L2N.CX P w) P w K mg base N x (defScope st) f cdv A outer s H E) (defBody st) t ∧ t { nx := fun _ H' => Q .non H', rt := Q } (start N vs) H) : DefX P w K mg base (k + 1) x ps [] sp := by
  obtain ⟨f, fd, F, hm⟩ := F
  obtain ⟨oc, od, kV, doc, pm, an, cdv, ct, osl, rfl, lk, hcd⟩ := F.ex
  exact ⟨f, _, [], fn_of lk hcd S len fun A outer s H vs Q E hr hsp => hbody cdv A outer s H vs Q E hr hsp (L2N.takes_of rfl rfl rfl rfl) (passes_of rfl), hm, F.kp, F.binds hbind, .nil⟩
theorem DefX.mkD {x : Str} {st : Stmt} {N ps : List Str} {k : Nat} {dvs : List V} {sp : Sp} (F : FnD K mg x st dvs) (hd : dvs ≠ []) (n : Nat) (hn : n + dvs.length = ps.length) (S : FnScope N ps (defScope st)) (len : ∀ vs H Q E, sp vs H Q E → vs.length = ps.length)
    (hbind : ∀ (T : Addr) (kV doc pm : Value) (an : Option Addr) (cdv ct : Value) (us its : List Value), us.length = n → its.length = dvs.length →
      ∃ k, bindArgs (PySem.W.fnOf x x (defArgs st) (defBody st) (defScope st) (.ref T) kV doc pm an cdv ct) ⟨us, []⟩ = seqItems? (.ref T) >>= k ∧ k (some its.toArray) = pure (ps.zip (us ++ its)))
    (hbody : ∀ {f : Addr} (cdv : Value) (A : Around) (outer : List Env) (s : Shared) (H : Hp) (vs : List V) (Q : VK) (E : XK), Room k (A.deeper (envOfC x (defScope st) s.heap.objs.size f cdv)) → sp vs H Q E →
      L2N.Takes (cxOf (L2N.CX P w) P w K mg base N x (defScope st) f cdv A outer s H E) (fun cls d _ H' => E cls d H') → PassesOwn (model P w) (A.deeper (envOfC x (defScope st) s.heap.objs.size f cdv)) (envOfC x (defScope st) s.heap.objs.size f cdv) (cxOf (L2N.CX P w) P w K mg base N x (defScope st) f cdv A outer s H E).xe →
      ∃ t, PSs (cxOf (L2N.CX P w) P w K mg base N x (defScope st) f cdv A outer s H E) (defBody st) t ∧ t { nx := fun _ H' => Q .non H', rt := Q } (start N vs) H) : DefX P w K mg base (k + 1) x ps dvs sp := by
  obtain ⟨f, fd, F, hm⟩ := F
  obtain ⟨ds, hv, hb⟩ := F.binds1 (ps := ps) n 0 hd hn hbind
  obtain ⟨oc, od, dV, kV, doc, pm, an, cdv, ct, osl, rfl, lk, hcd, hD, hK⟩ := F.ex
  exact ⟨f, _, ds, fn_of lk hcd S len fun A outer s H vs Q E hr hsp => hbody cdv A outer s H vs Q E hr hsp (L2N.takes_of rfl rfl rfl rfl) (passes_of rfl), hm, F.kp, hb, hv⟩
end
section
variable {X : Cx} {k : Nat} {x : Str} {ps : List Str} {dvs : List V} {sp : Sp} {p pos : Pos} {e : Expr} {es : List Expr} {t : TA} {W : WX}
/-- f(e, ..) of a def that may raise -/
def tCallX (sp : Sp) (dvs : List V) (W : WX) (t : TA) : TE := fun σ H Q => t σ H fun vs H1 => sp (vs ++ dvs) H1 Q (fun cls d H2 => W cls d σ H2)
theorem pe_dx (D : DefX X.prog X.w X.K X.mg X.base k x ps dvs sp) (hr : Room k X.A) (tk : L2N.Takes X W) (hg : Gl X x) (ha : PA X (e :: es) t) (hdb : (x == ("__debug__" : Str)) = false := by decide)
    (he : starEach (e :: es) X.env = (false, eval e X.env) :: starEach es X.env := by rfl) (hpl : (backTo pos (starEach es X.env)).any (·.1) = false := by rfl) : PE X (.Call (.Name x p) (e :: es) [] pos) (tCallX sp dvs W t) := by
  obtain ⟨f, fd, ds, F, hm, hk, hb, hv⟩ := D.ex
  refine ⟨fun pins s σ H Q I h => ?_⟩
  refine wpAny_Call_Name_kw (ld_glob I hg hm ?_ hdb)
  refine PySem.W.callWith_K (h₀ := X.base) I.ok.mod.kin hk (thn (ha.run pos pins s σ H _ I h) fun us s1 ⟨vs, H1, I1, r, q⟩ => ⟨I1.kIn, ?_⟩) he hpl
  show wpAny _ _ (call (.ref f) us) _ _ _
  have r2 : Vals (vs ++ dvs) (us ++ ds) := r.append hv
  have hl : (us ++ ds).length = ps.length := by rw [← r2.length]; exact F.len _ _ _ _ q
  refine wpAny_call (codeAny_mono (F.run X.A X.stack s1 H1 ⟨us, []⟩ (us ++ ds) (vs ++ dvs) Q _ hr I1.env0 (hb s1 us I1.kIn hl) r2 q) fun r s' hq => ?_)
  cases r with
  | error er => exact L2N.passAt tk σ pins H1 s1 er s' I1 hq
  | ok fl =>
    cases fl with
    | ret u => exact I1.after hq
    | next => exact False.elim hq
    | brk => exact False.elim hq
    | cont => exact False.elim hq
theorem pe_clsn {mg : Str → Option Value} (h : mg x = some (.ref (cad mg x))) (hX : X.mg = mg) (hg : Gl X x) (hdb : (x == ("__debug__" : Str)) = false := by decide) : PE X (.Name x pos) (tC (.ref (cad mg x))) := by
  subst hX
  exact pe_glob hg h rfl hdb
end
theorem takesN0 {X : Cx} : L2N.Takes X (fun _ _ _ _ => False) := fun _ _ ⟨_, _, _, _, _, _, _, _, _, _, _, _, _, _, _, _, w⟩ => w.elim

/-! ### promises of defs that may raise -/
/-- the exception: its class, its fields -/
abbrev ExS := List V → Str → List (Str × V) → Prop
/-- plain values in; a plain value out, or an exception -/
def spPX (mg : Str → Option Value) (n : Nat) (pre : List V → Prop) (post : List V → V → Prop) (exc : ExS) : Sp := fun vs H Q E => vs.length = n ∧ pre vs ∧ (∀ v H', Own H H' [] [] → post vs v → Q v H') ∧
  ∀ x fs d H', Own H H' [] [] → exc vs x fs → H d = none → H' d = some (.xd fs) → E (.ref (cad mg x)) (some d) H'
theorem hl_spPX {mg : Str → Option Value} {n : Nat} {pre : List V → Prop} {post : List V → V → Prop} {exc : ExS} : ∀ vs H Q E, spPX mg n pre post exc vs H Q E → vs.length = n := fun vs H Q E h => h.1
section
variable {mg : Str → Option Value} {B H : Hp} {M R : List (Addr × HO)} {Q : VK} {E : XK} {n : Nat} {pre : List V → Prop} {vs : List V} {exc : ExS}
theorem use_spPX {post : List V → V → Prop} (O : Own B H M R) (hl : vs.length = n) (hp : pre vs) (q : ∀ v H', Own B H' M R → post vs v → Q v H')
    (e : ∀ x fs d H', Own B H' M R → exc vs x fs → B d = none → H' d = some (.xd fs) → E (.ref (cad mg x)) (some d) H') : spPX mg n pre post exc vs H Q E :=
  ⟨hl, hp, fun v H' O' h => q v H' (O.call0 O') h, fun x fs d H' O' h h1 h2 => e x fs d H' (O.call0 O') h (O.base_free h1) h2⟩
/-- X(e) in a def's own reading -/
theorem x_raise {C : Addr} {v : V} {fld : Str} {d : Addr} (O : Own B H M R) (h : H d = none) : Own B (upd H d (.xd [(fld, v)])) M R ∧ B d = none := by
  exact ⟨O.ignore h, O.base_free h⟩
end
end NF

/-! try with several clauses, each with or without a name. -/
namespace NF
open PySem PySem.Spec PyProof.Rows L2

/-- a clause: the class it names, the slot of its name, its suite's reading -/
structure Cls3 where
  c : Value
  i : Option Nat
  ts : Addr → Value → Option Addr → TS

/-- the ends of a suite whose clause may have a name -/
def endsOf : Option Nat → Ends → Ends
  | none, D => D
  | some i, D => { nx := fun σ' H' => D.nx (σ'.set i none) H', rt := D.rt, bk := fun σ' H' => D.bk (σ'.set i none) H', ct := fun σ' H' => D.ct (σ'.set i none) H' }
def startOf (a : Addr) : Option Nat → L2.St → L2.St
  | none, σ => σ
  | some i, σ => σ.set i (some (.ref a))
def wAll (K : PySem.W.Frag) (Wout : WX) (D : Ends) : List Cls3 → WX
  | [] => Wout
  | k :: r => fun cls d σ H => ∃ b, PySem.W.exmOne K cls k.c = some b ∧ (b = true → ∀ a, H a = none → k.ts a cls d (endsOf k.i D) (startOf a k.i σ) H) ∧ (b = false → wAll K Wout D r cls d σ H)

/-- a clause's suite -/
def SuOk (X : Cx) (suite : List Stmt) (ts : Addr → Value → Option Addr → TS) : Prop :=
  ∀ (a : Addr) (oe : Obj) (cls : Value) (d : Option Addr) (pn : List (Addr × Obj)), L2N.Zn cls d oe → (∃ vs, oe.data = .fields vs) → PSs (X.suite a ((a, oe) :: pn)) suite (ts a cls d)
inductive HdA (X : Cx) : List ExceptHandler → List Cls3 → Prop
  | nil : HdA X [] []
  | plain {x : Str} {c : Value} {ts : Addr → Value → Option Addr → TS} {b₀ : Stmt} {su : List Stmt} {np pos' : Pos} {hds : List ExceptHandler} {l : List Cls3} (hc : Names X x c) (hsu : SuOk X (b₀ :: su) ts) (r : HdA X hds l) :
      HdA X (.ExceptHandler (some (.Name x np)) none (b₀ :: su) pos' :: hds) (⟨c, none, ts⟩ :: l)
  | named {x n : Str} {c : Value} {i : Nat} {ts : Addr → Value → Option Addr → TS} {b₀ : Stmt} {su : List Stmt} {np pos' : Pos} {hds : List ExceptHandler} {l : List Cls3} (hN : X.N.Nodup) (hi : X.N[i]? = some n) (hln : X.env.kindOf n = some .local)
      (hc : Names X x c) (hsu : SuOk X (b₀ :: su) ts) (r : HdA X hds l) : HdA X (.ExceptHandler (some (.Name x np)) (some n) (b₀ :: su) pos' :: hds) (⟨c, some i, ts⟩ :: l)

section
variable {X : Cx} {body : List Stmt} {h₀ : ExceptHandler} {hds : List ExceptHandler} {l : List Cls3} {pos : Pos} {tb : WX → TS} {Wout : WX}
theorem ps_try_all (hs : X.stack = X.env :: X.outer) (hf : X.env.frame = some X.env.locals) (tk : L2N.Takes X Wout)
    (hb : ∀ (W : WX) (pn : List (Addr × Obj)) (xe : Value → Shared → Prop), L2N.Takes (X.tr pn xe) W → PassesOwn (model X.prog X.w) X.A X.env xe → PSs (X.tr pn xe) body (tb W))
    (hh : HdA X (h₀ :: hds) l) : PS X (.Try body (h₀ :: hds) [] [] pos) (fun D σ H => tb (wAll X.K Wout D l) D σ H) := by
  refine ⟨fun pins s σ H D I h => ?_⟩
  have ok := I.ok
  have hfr : X.A.frames = some (X.env :: X.outer) := by rw [ok.frames, hs]
  refine wpAny_Try_except (wpAny_mono ((hb (wAll X.K Wout D l) (X.pn ++ pins) (fun e s₁ => wpAny (model X.prog X.w) X.A (noteFrame e X.env) (fun _ s₂ => wpAny (model X.prog X.w) X.A (setFlight e none) (fun _ s₃ =>
    wpAny (model X.prog X.w) X.A (handleBy e X.env (h₀ :: hds)) (SP X pins D) X.xe s₃) X.xe s₂) X.xe s₁) (fun u s' xx => ?_) PassesOwn.looking).run [] s σ H D (I.toTry _) h) (fun f s1 hsp => ?_) (fun e s1 he => he))
  · obtain ⟨a, B, sI, pins', σ', H', cls, d, rfl, J', nb, up, sky, na, os, ag, w⟩ := xx
    have J : Inv X pins σ' H' sI := J'.ofTry ok
    have sky' : L2.Sky B (X.env :: X.outer) a (L2N.Zn cls d) X.env.locals s'.heap := by rw [← hs]; exact sky
    show wpAny (model X.prog X.w) X.A (noteFrame (.ref a) X.env) _ _ _
    refine L2N.Sky.land L2N.Zn.steady hfr hf sky' fun h3 fl3 up3 => ?_
    have J3 : Inv X pins σ' H' { s' with heap := h3 } := J.landed nb fl3.1 (up.trans up3) os ag
    obtain ⟨oe3, vs3, he3, hz3, hd3⟩ := fl3.there
    have nfr : a ∉ frs (X.env :: X.outer) := fun hm => by
      obtain ⟨_, o', e', hnf⟩ := fl3.2.2.1.mem hm
      rw [he3] at e'; cases e'
      exact hnf _ hd3
    have nL : a ≠ X.env.locals := fun z => nfr (List.mem_filterMap.mpr ⟨X.env, List.mem_cons_self, by rw [hf, z]⟩)
    have nF : a ∉ X.fs := fun hm => by
      obtain ⟨e, he, q⟩ := List.mem_filterMap.mp hm
      exact nfr (List.mem_filterMap.mpr ⟨e, List.mem_cons_of_mem _ he, q⟩)
    have S3 := J3.suite he3 hd3 na nL nF
    have LT : PySem.W.Looks (model X.prog X.w) h3 (typeOf (.ref a)) cls := fun A Q E s k q => wpAny_typeOf_ref (k _ _ he3) (by rw [hz3.1]; exact q)
    have test : ∀ {x : Str} {c : Value} {np : Pos} {Q : Value → Shared → Prop} {E : Value → Shared → Prop}, Names X x c → Q c { s' with heap := h3 } → wpAny (model X.prog X.w) (X.A.mark (some (.ref a))) (eval (.Name x np) X.env) Q E { s' with heap := h3 } := fun {x c np Q E} hc q => by
      obtain ⟨hg, hdbg, hm | ⟨hm, hv, hnn⟩⟩ := hc
      · exact ld_glob (X := X.suite a ((a, oe3) :: (X.pn ++ pins))) S3 hg hm q hdbg
      · exact ld_blt (X := X.suite a ((a, oe3) :: (X.pn ++ pins))) S3 hg hm hv q hnn hdbg
    have go : ∀ {hds' : List ExceptHandler} {l' : List Cls3}, HdA X hds' l' → wAll X.K Wout D l' cls d σ' H' →
        wpAny (model X.prog X.w) X.A (handleBy (.ref a) X.env hds') (SP X pins D) X.xe { s' with heap := h3 } := by
      intro hds' l' hk
      induction hk with
      | nil =>
        intro w
        refine wpAny_handleBy_nil ?_
        obtain ⟨k1, k2, k3, oe, vs, T, oT, ts', he, hz, hd, h1, hr⟩ := id fl3
        unfold PySem.passOn
        refine wpAny_bind (wpAny_field he hd h1 ?_)
        rw [if_neg (show ¬ ((Value.ref T == Value.none) = true) from by simp)]
        have fin : wpAny (model X.prog X.w) X.A (setFlight (.ref a) X.env.frame) (fun _ s4 => wpAny (model X.prog X.w) X.A (throw (.ref a) : Sem Flow) (SP X pins D) X.xe s4) X.xe { s' with heap := h3 } := by
          rw [hf]
          refine HandSPX.setFlight_upZ fl3 fun h4 hh4 up4 => wpAny_throw (tk _ _ ?_)
          exact ⟨a, B, sI, pins, σ', H', cls, d, rfl, J, nb, (up.trans up3).trans up4, .inr (.inr (by rw [hs]; exact hh4)), na, os, ag, w⟩
        first
          | exact wpAny_bind (wpAny_pure (wpAny_bind fin))
          | exact wpAny_bind fin
      | @plain x c ts b₀ su np pos' hds2 l2 hc hsu r ih =>
        intro w
        obtain ⟨b, hb1, hyes, hno⟩ := w
        refine wpAny_handleBy_cons (codeAny_handlers_test (test hc ((PySem.W.exm_one (M := model X.prog X.w) (J3.kIn) LT hb1).here ?_))) (by intro q; cases q)
        cases b with
        | false => exact ih (hno rfl)
        | true =>
          refine codeAny_handlers_suite (HandSPX.lands_againZ fl3 fun h4 fl4 up4 => ?_)
          have J4 : Inv X pins σ' H' { s' with heap := h4 } := J.landed nb fl4.1 ((up.trans up3).trans up4) os ag
          obtain ⟨oe4, vs4, he4, hz4, hd4⟩ := fl4.there
          refine wpAny_mono ((hsu a oe4 cls d (X.pn ++ pins) hz4 ⟨_, hd4⟩).run [] _ _ H' _ (J4.suite he4 hd4 na nL nF) (hyes rfl a na)) (fun f s6 hsp => ?_) (fun _ _ z => False.elim z)
          cases f with
          | ret u =>
            obtain ⟨v6, σ6, H6, S6, r6, q6⟩ := hsp
            exact ⟨_, _, _, S6.unsuite ok, r6, q6⟩
          | next =>
            obtain ⟨σ6, H6, S6, q6⟩ := hsp
            exact ⟨_, _, S6.unsuite ok, q6⟩
          | brk =>
            obtain ⟨σ6, H6, S6, q6⟩ := hsp
            exact ⟨_, _, S6.unsuite ok, q6⟩
          | cont =>
            obtain ⟨σ6, H6, S6, q6⟩ := hsp
            exact ⟨_, _, S6.unsuite ok, q6⟩
      | @named x n c i ts b₀ su np pos' hds2 l2 hN hi hln hc hsu r ih =>
        intro w
        obtain ⟨b, hb1, hyes, hno⟩ := w
        refine wpAny_handleBy_cons (codeAny_handlers_test (test hc ((PySem.W.exm_one (M := model X.prog X.w) (J3.kIn) LT hb1).here ?_))) (by intro q; cases q)
        cases b with
        | false => exact ih (hno rfl)
        | true =>
          refine codeAny_handlers_suite_as (HandSPX.lands_againZ fl3 fun h4 fl4 up4 => ?_)
          have J4 : Inv X pins σ' H' { s' with heap := h4 } := J.landed nb fl4.1 ((up.trans up3).trans up4) os ag
          obtain ⟨oe4, vs4, he4, hz4, hd4⟩ := fl4.there
          refine store_ok (X := X.suite a ((a, oe4) :: (X.pn ++ pins))) (v := .ref a) (J4.suite he4 hd4 na nL nF) hN hi (.inl hln) rfl (fun s5 S5 => ?_) (.inr hln)
          refine wpAny_mono ((hsu a oe4 cls d (X.pn ++ pins) hz4 ⟨_, hd4⟩).run [] s5 _ H' _ S5 (hyes rfl a na)) (fun f s6 hsp => ?_) (fun _ _ z => False.elim z)
          have end_ : ∀ {σ6 : L2.St} {H6 : Hp} {Q : Shared → Prop}, Inv (X.suite a ((a, oe4) :: (X.pn ++ pins))) [] σ6 H6 s6 → (∀ s7, Inv X pins (σ6.set i none) H6 s7 → Q s7) →
              wpAny (model X.prog X.w) X.A (do bindName X.env n .none; unbindBehindTheSuite X.env n pos') (fun _ s7 => Q s7) X.xe s6 := fun {σ6 H6 Q} S6 hq => gone_ok (S6.unsuite ok) hN hi hln hq
          cases f with
          | ret u =>
            obtain ⟨v6, σ6, H6, S6, r6, q6⟩ := hsp
            exact end_ S6 fun s7 J7 => ⟨_, _, _, J7, r6, q6⟩
          | next =>
            obtain ⟨σ6, H6, S6, q6⟩ := hsp
            exact end_ S6 fun s7 J7 => ⟨_, _, J7, q6⟩
          | brk =>
            obtain ⟨σ6, H6, S6, q6⟩ := hsp
            exact end_ S6 fun s7 J7 => ⟨_, _, J7, q6⟩
          | cont =>
            obtain ⟨σ6, H6, S6, q6⟩ := hsp
            exact end_ S6 fun s7 J7 => ⟨_, _, J7, q6⟩
    exact go hh w
  · cases f with
    | ret u =>
      obtain ⟨v, σ', H', J', r, q⟩ := hsp
      exact ⟨v, σ', H', J'.ofTry ok, r, q⟩
    | next =>
      obtain ⟨σ', H', J', q⟩ := hsp
      exact wpAny_execs_nil ⟨σ', H', J'.ofTry ok, q⟩
    | brk =>
      obtain ⟨σ', H', J', q⟩ := hsp
      exact ⟨σ', H', J'.ofTry ok, q⟩
    | cont =>
      obtain ⟨σ', H', J', q⟩ := hsp
      exact ⟨σ', H', J'.ofTry ok, q⟩
end
end NF

/-! In a suite: isinstance of the caught exception (it has a dict), its fields. -/
namespace PySem.W
open PySem PySem.Spec PySem.Calls PyProof.Rows
section
variable {prog : Program} {w : World} {A : Around} {E : Value → Shared → Prop} {s : Shared} {K : Frag} {x D : Addr} {ox : Obj} {od : Option Obj}
theorem nf_class {Q : Option Value → Shared → Prop} (C : L2.ExcC K D) (X : K.In s.heap) (I : InstAt s.heap x ox D od) (h : Q (some (.ref D)) { s with toks := s.toks + 1 }) : wpAny (model prog w) A (getAttr? (.ref x) "__class__") Q E s := by
  have hf : findObj K D od "__class__" = some (.bind (.builtin "getset_descriptor.__get__") (.builtin "object.__class__")) := findObj_dataE (by obtain ⟨cd, hc, _⟩ := any_some C.hd; rw [hc]; rfl) C.ha C.hn C.ht
  obtain ⟨hp, g, d, t, os⟩ := s
  have L0 := I.type (M := model prog w)
  have L1 := looks_findIn (M := model prog w) X C.hg
  have L2 := looks_findIn (M := model prog w) X C.hk
  have L3 := looks_find (M := model prog w) X I hf
  have sub : Looks (model prog w) hp (isInstance (.ref x) (.type "BaseException")) true := L0.andThen (looks_subIn X C.hs)
  have e2 : (Value.builtin "BaseException.__getattribute__" == Value.builtin "object.__getattribute__") = false := by decide +kernel
  have e1 : (onTheHeap (Value.ref D) && Value.builtin "BaseException.__getattribute__" == Value.builtin "object.__getattribute__") = false := by rw [e2]; rfl
  unfold getAttr? getAttrBy? getAttrBy
  refine wpAny_bind (wpAny_mkText (wpAny_bind (wpAny_attempt (wpAny_holding (wpAny_bind (L0.at (wpAny_bind (L1.at ?_))))))))
  show wpAny _ _ (if (onTheHeap (Value.ref D) && Value.builtin "BaseException.__getattribute__" == Value.builtin "object.__getattribute__") = true then _ else _) _ _ _
  rw [e1, if_neg Bool.false_ne_true]
  unfold getAttrByItsOwn hookBefore
  refine wpAny_bind ?_
  rw [if_pos (show onTheHeap (Value.ref D) = true from rfl)]
  refine L2.at (wpAny_bind (wpAny_attempt (wpAny_holding ?_)))
  unfold callGetattribute
  rw [show (false && onTheHeap (Value.builtin "BaseException.__getattribute__")) = false from rfl, if_neg Bool.false_ne_true]
  unfold boundAndCalled
  rw [PySem.F.excAttr_ValueError.ga.bind (.ref x)]
  refine wpAny_bind (wpAny_pure ?_)
  show wpAny _ _ (call (.builtin "BaseException.__getattribute__") [.ref x, .str "__class__" t]) _ _ _
  refine wpAny_call (codeAny_call_builtin PySem.F.excAttr_ValueError.ga.plain PySem.F.entry_bexc_ga ?_)
  refine @check_slot (model prog w) _ _ ⟨hp, g, d, t + 1, os⟩ "BaseException.__getattribute__" "BaseException" "__getattribute__" (.ref x) [.str "__class__" t] [] _ (by decide +kernel) (by decide +kernel) sub (PySem.F.args_bexc_ga (.ref x) (.str "__class__" t)) ?_
  unfold Builtin.«object.__getattribute__»
  refine wpAny_bind (wpAny_of_eq (a := ((Value.ref x : Value), [Value.str "__class__" t])) (by first | rfl | (simp only [slotArgs]; rfl)) ?_)
  refine wpAny_bind (wpAny_pure (wpAny_bind (L0.at (wpAny_bind (L3.at ?_)))))
  show wpAny _ _ (holding [Value.builtin "object.__class__"] (call (.builtin "getset_descriptor.__get__") [.builtin "object.__class__", .ref x, .ref D]) >>= ret) _ _ _
  refine wpAny_bind (wpAny_holding (wpAny_call (class_get (s := ⟨hp, g, d, t + 1, os⟩) (ox := ox) (od := od) X I C.hm (wpAny_pure ?_))))
  show wpAny _ _ (handedOut (.ref D)) _ _ _
  rw [handedOut_of (v := .ref D) rfl]
  first
    | exact wpAny_pure (wpAny_pure h)
    | exact wpAny_pure h
    | exact wpAny_pure (wpAny_bind (wpAny_pure (wpAny_pure h)))
theorem nf_kitx (C : L2.ExcC K D) : KitX K (.ref x) (.ref D) (fun h => ∃ od, InstAt h x ox D od) where
  ty := fun _ _ _ ⟨_, I⟩ => I.type
  it := fun _ _ X _ => by
    obtain ⟨cdD, hcD, _⟩ := any_some C.hd
    unfold clsIn at hcD
    split at hcD
    · rename_i c' d' cd' sl' ho
      intro A' Q' E' s' k q
      unfold isType loadHead
      exact wpAny_bind (wpAny_loadPart (k _ _ (X _ _ ho)) (wpAny_pure q))
    · cases hcD
  ne := fun h tp dd its n sl X htp => by
    obtain ⟨cdD, hcD, _⟩ := any_some C.hd
    refine Bool.eq_false_iff.mpr fun q => ?_
    obtain rfl : D = tp := Value.ref.inj (beq_iff_eq.mp q)
    unfold clsIn at hcD
    split at hcD
    · rename_i c' d' cd' sl' ho
      cases (X _ _ ho).symm.trans htp
    · cases hcD
  ca := fun X ⟨_, I⟩ k => nf_class C X I k
end
end PySem.W
namespace NF
open PySem PySem.Spec PyProof.Rows L2

/-- what an object of the suite is -/
theorem inst_of {X : Cx} {a D dd : Addr} {oe : Obj} {pn pins : List (Addr × Obj)} {σ : L2.St} {H : Hp} {s : Shared} {fs : List (Str × V)} (I : Inv (X.suite a ((a, oe) :: pn)) pins σ H s) (hz : L2N.Zn (.ref D) (some dd) oe) (hf : ∃ vs, oe.data = .fields vs) (ea : H dd = some (.xd fs)) :
    ∃ od, PySem.W.InstAt s.heap a oe D (some od) ∧ ∀ n, (v : V) → fs.lookup n = some v → ∃ u, PySem.W.lookIn n od = some (some u) ∧ RelV v u := by
  obtain ⟨ha, _⟩ := I.pin (a, oe) (List.mem_append_left _ List.mem_cons_self)
  obtain ⟨vs, hd⟩ := hf
  have hx : ObjOk X.prog X.w H s.heap dd (.xd fs) := I.hok dd _ ea
  obtain ⟨mA, hns, hr⟩ := hx
  obtain ⟨od, ho, hl⟩ := lookIn_ns hns
  refine ⟨od, ⟨ha, hz.1, by unfold PySem.W.notCls; rw [hd] <;> rfl, by rw [hz.2.1]; exact ho⟩, fun n v l => ?_⟩
  obtain ⟨u, hu, ru⟩ := RelO.some_of (v := v) (o := mA n) (by rw [← l]; exact hr n)
  exact ⟨u, by rw [hl, hu], ru⟩

/-- e.f of the caught exception -/
def tXfN (K : PySem.W.Frag) (a : Addr) (cls : Value) (d : Option Addr) (f : Str) (te : TE) : TE := fun σ H Q => te σ H fun x H1 => x = .ref a ∧ ∃ (D dd : Addr) (fs : List (Str × V)) (v : V), cls = .ref D ∧ ExcC K D ∧ PySem.W.findIn K (.ref D) f = some none ∧ d = some dd ∧ H1 dd = some (.xd fs) ∧ fs.lookup f = some v ∧ Q v H1
theorem pe_xfN {X : Cx} {a : Addr} {oe : Obj} {cls : Value} {d : Option Addr} {pn : List (Addr × Obj)} {e : Expr} {te : TE} {pos : Pos} {n : Str}
    (hz : L2N.Zn cls d oe) (hf : ∃ vs, oe.data = .fields vs) (he : PE (X.suite a ((a, oe) :: pn)) e te) (hb : attributeBase e n X.env (eval e X.env) = eval e X.env := by rfl) :
    PE (X.suite a ((a, oe) :: pn)) (.Attribute e n pos) (tXfN X.K a cls d n te) := by
  refine ⟨fun pins s σ H Q I h => ?_⟩
  refine attr_of hb (thn (he.run pins s σ H _ I h) fun u s1 hh => ?_)
  obtain ⟨x, H1, I1, rx, ex, D, dd, fs, v, ec, T, hno, ed, ea, l, q⟩ := hh
  subst ex
  obtain rfl : u = Value.ref a := rx
  subst ec
  subst ed
  obtain ⟨od, J, hl⟩ := inst_of I1 hz hf ea
  obtain ⟨u, hu, ru⟩ := hl n v l
  exact HandSPX.exc_get I1.kIn J T.hg T.hk T.hs (PySem.W.findObj_own T.hd hno rfl hu) (handed_of ru) ⟨v, H1, I1.tok _, ru, q⟩

/-- isinstance of it -/
def rIsX (K : PySem.W.Frag) (a : Addr) (cls : Value) (d : Option Addr) : List V → Hp → VK → Prop := fun xs H Q => ∃ (D dd : Addr) (fs : List (Str × V)) (b : Bool), cls = .ref D ∧ ExcC K D ∧ d = some dd ∧ H dd = some (.xd fs) ∧
  ((∃ (c : V) (cv : Value), xs = [.ref a, c] ∧ (∀ u, RelV c u → u = cv) ∧ PySem.W.kitOne K (.ref D) cv = some b) ∨
    (∃ (tp : Addr) (cs : List V) (cvs : List Value), xs = [.ref a, .ref tp] ∧ H tp = some (.tup cs) ∧ (∀ us, Vals cs us → us = cvs) ∧ PySem.W.kitAny K (.ref D) cvs = some b)) ∧ Q (.bl b) H
theorem call_isX {X : Cx} {a : Addr} {oe : Obj} {cls : Value} {d : Option Addr} {pn : List (Addr × Obj)} (hz : L2N.Zn cls d oe) (hf : ∃ vs, oe.data = .fields vs) : CallR (X.suite a ((a, oe) :: pn)) (.builtin "isinstance") (rIsX X.K a cls d) := by
  intro pins s σ H xs us Q I r h
  obtain ⟨D, dd, fs, b, ec, T, ed, ea, h, q⟩ := h
  subst ec
  subst ed
  obtain ⟨od, J, _⟩ := inst_of I hz hf ea
  rcases h with ⟨c, cv, rfl, hcv, e⟩ | ⟨tp, cs, cvs, rfl, et, hcv, e⟩
  · cases r with
    | cons rx rr =>
      cases rr with
      | cons rt rr =>
        cases rr
        cases rx
        have ec := hcv _ rt
        subst ec
        exact PySem.W.kia_one (PySem.W.nf_kitx (ox := oe) T) I.kIn ⟨_, J⟩ e (fun z => nomatch z) fun tk => ⟨.bl b, H, I.kept (t' := tk) fun _ _ z => z, rfl, q⟩
  · cases r with
    | cons rx rr =>
      cases rr with
      | cons rt rr =>
        cases rr
        cases rx
        cases rt
        obtain ⟨its, vi, ti, _⟩ := I.tuple (.inl (.inl et))
        obtain rfl := hcv _ vi
        obtain ⟨⟨oc, odd, oda, osl⟩, hg, h1, n, h2⟩ := ti
        dsimp only at h1 h2
        subst h1 h2
        exact PySem.W.kia_tup (PySem.W.nf_kitx (ox := oe) T) I.kIn ⟨_, J⟩ hg e (fun z => nomatch z) fun tk => ⟨.bl b, H, I.kept (t' := tk) fun _ _ z => z, rfl, q⟩
end NF

/-! What the head hands over of exception classes. -/
namespace NF
open PySem PySem.Spec PyProof.Rows PySem.W PySem.Calls L2

/-- what is asked of a raised class at C at once -/
def oexB (K : Frag) (C : Addr) : Bool := match K.lookup C with
  | some ⟨.type "type", _, .cls cd, sl⟩ => (match cd.mro, sl.toList with
    | .ref C' :: bm, [_, _, _, _, some (.builtin n), _] => C' == C && (n == "ValueError.__new__" && (!cd.hasDel && (cd.hasDict && PySem.HandSPX.refsVE bm)))
    | _, _ => false)
  | _ => false
theorem oexB_ok {K : Frag} {C : Addr} (q : oexB K C = true) : ∃ nm q N bs bm sn sub ab col dd k0 k1 k2 k3 k5, K.lookup C = some (excClassObj nm q C N bs bm true sn sub ab col dd k0 k1 k2 k3 k5 "ValueError.__new__") ∧ PySem.HandSPX.refsVE bm = true := by
  unfold oexB at q
  split at q
  · rename_i dd cd sl ho
    split at q
    · rename_i C' bm k0 k1 k2 k3 n k5 hm hs
      simp only [Bool.and_eq_true, beq_iff_eq, Bool.not_eq_true'] at q
      obtain ⟨rfl, rfl, hdel, hdd, ht⟩ := q
      obtain ⟨nm, bs, mro, ns, qn, hd, sn, sub, ab, col, del⟩ := cd
      dsimp only at hm hdel hdd
      subst hm hdel hdd
      have hsl : sl = #[k0, k1, k2, k3, some (.builtin "ValueError.__new__"), k5] := by
        obtain ⟨l⟩ := sl
        simp only at hs
        rw [hs]
      subst hsl
      exact ⟨nm, qn, ns, bs, bm, sn, sub, ab, col, dd, k0, k1, k2, k3, k5, ho, ht⟩
    · cases q
  · cases q
def xrB (K : Frag) (C D f : Addr) (fld : Str) : Bool :=
  oexB K C && (decide (findIn K (.ref C) "__setattr__" = some (some (.builtin "object.__setattr__"))) && (decide (subIn K (.ref C) (.type "BaseException") = some true) && (decide (typeIn K (.ref C) = some (.type "type")) && (keepIn K (.ref C) &&
  (excInitIn K C PySem.HandSPX.veTail "ValueError.__new__" && (decide (subIn K (.ref C) (.type "ValueError") = some true) && (decide (nsIn K cStatics "thirdparty.any" = some none) &&
  (decide (findIn K (.ref C) "__getattribute__" = some (some (.builtin "BaseException.__getattribute__"))) && (decide (findIn K (.ref C) "__getattr__" = some none) && (hasDictIn K C && (decide (findIn K (.ref C) "__class__" = some (some (.builtin "object.__class__"))) &&
  (decide (specialIn K (.builtin "object.__class__") "__get__" = some (some (.builtin "getset_descriptor.__get__"))) && (decide (takesIn K (.builtin "object.__class__") = some true) && (decide (mroIn K C (.type "object") = some true) &&
  (decide (findIn K (.ref C) fld = some none) && (decide (typeIn K (.ref f) = some (.type "function")) && ((clsIn K D).isSome && (decide (mroIn K C (.ref D) = some true) && decide (ks_superIn K C D "__init__" = some (some (.builtin "ValueError.__init__")))))))))))))))))))))
structure XRaw (P : Program) (K : Frag) (C : Addr) (fld : Str) : Prop where
  oex : OexC K C
  ini : excInitIn K C PySem.HandSPX.veTail "ValueError.__new__" = true
  sub : subIn K (.ref C) (.type "ValueError") = some true
  opq : nsIn K cStatics "thirdparty.any" = some none
  htop : (P.main.scope.names.lookup ("super" : Str)).isSome = false
  exc : ExcC K C
  nof : findIn K (.ref C) fld = some none
  fn : ∃ fI fd, findIn K (.ref C) "__init__" = some (some (.ref fI)) ∧ typeIn K (.ref fI) = some (.type "function") ∧ Binds K fd ["self", fld] [] ∧
    ∀ (mg : Str → Option Value), mg "super" = none → ∀ (w : World) (base : Heap) (CX : CXT), FnOk P w K mg base CX 1 fI fd ["self", fld] (spX K C fld)

theorem xraw_mk {P : Program} {K : Frag} {C D f cc cda : Addr} {name qual fld txt : Str} {j : Nat} {params : Arguments} {scope : Scope} {dV kV doc pm ct oc ccl cl : Value} {an od cdd cld : Option Addr}
    {osl ccs csl : Array (Option Value)} {vs : Array Value} {file : Str} {tf : Tok} {ar : Arg} {p0 p1 p2 p3 p4 p5 q0 q1 q2 q3 : Pos} {pl : Env → Sem Bool}
    (iC : findIn K (.ref C) "__init__" = some (some (.ref f)))
    (lk : K.lookup f = some ⟨oc, od, .func (ksFn name qual params [.Expr (.Call (.Attribute (.Call (.Name "super" p0) [] [] p1) "__init__" p2) [.Constant (.str txt) j p3] [] p4) p5, .Assign [.Attribute (.Name "self" q0) fld q1] (.Name fld q2) q3] scope dV kV doc pm an (.ref cda) ct cc), osl⟩)
    (hcode : K.lookup cda = some ⟨ccl, cdd, .fields vs, ccs⟩) (hcell : K.lookup cc = some ⟨cl, cld, .cell (some (.ref D)), csl⟩) (hx : xrB K C D f fld = true)
    (hcd : codeIn K (.ref cda) qual = true) (hvs : vs[2]? = some (.str file tf)) (hfile : ((P.main.file : Str) == file) = true) (htop : (P.main.scope.names.lookup ("super" : Str)).isSome = false)
    (hp : (params.posonlyargs ++ params.args).head? = some ar) (har : ar.arg = "self")
    (hns : ("self" : Str) ≠ fld) (hdb : (fld == ("__debug__" : Str)) = false)
    (s1 : scope.names.lookup ("self" : Str) = some .local) (s2 : scope.names.lookup fld = some .local) (s3 : scope.names.lookup ("super" : Str) = some .globalImplicit) (s4 : scope.names.lookup ("__class__" : Str) = some .free)
    (hnc : ∀ x ∈ scope.names, x.2 ≠ .cell) (hco : scope.isCoroutine = false) (hgen : scope.isGenerator = false) (hk : scope.kind = .function)
    (hb : ∀ us : List Value, us.length = 2 → bindArgs (ksFn name qual params [.Expr (.Call (.Attribute (.Call (.Name "super" p0) [] [] p1) "__init__" p2) [.Constant (.str txt) j p3] [] p4) p5, .Assign [.Attribute (.Name "self" q0) fld q1] (.Name fld q2) q3] scope dV kV doc pm an (.ref cda) ct cc) ⟨us, []⟩ = pure (([("self" : Str), fld] : List Str).zip us))
    (hme : ∀ env : Env, eval (.Call (.Attribute (.Call (.Name "super" p0) [] [] p1) "__init__" p2) [.Constant (.str txt) j p3] [] p4) env = (do
      let ov ← attributeBase (.Call (.Name "super" p0) [] [] p1) "__init__" env (eval (.Call (.Name "super" p0) [] [] p1) env)
      standAt p2.atName
      let (f, first) ← holding [ov] (getMethod ov "__init__" (pl env))
      callWith p4 f first (backTo p4 (starEach [.Constant (.str txt) j p3] env)) [])) : XRaw P K C fld := by
  unfold xrB at hx
  simp only [Bool.and_eq_true, decide_eq_true_eq] at hx
  obtain ⟨x1, x2, x3, x4, x5, x6, x7, x8, x9, x10, x11, x12, x13, x14, x15, x16, x17, x18, x19, x20⟩ := hx
  obtain ⟨cdD, hD⟩ := Option.isSome_iff_exists.mp x18
  have O : OexC K C := ⟨oexB_ok x1, x2, x3, x4, x5⟩
  refine ⟨O, x6, x7, x8, htop, ⟨x9, x10, x3, x11, x12, x13, x14, x15⟩, x16, f, _, iC, x17, .all hb, fun mg hs w base CX => ?_⟩
  exact fn_sup (⟨O, x6, x7, x8, hs, htop⟩ : XCls P K mg C) lk hcd hcode hvs hfile hcell hD hp har x19 x20 x16 hns hdb s1 s2 s3 s4 hnc hco hgen hk pl hme

theorem XRaw.fact {P : Program} {K : Frag} {C : Addr} {x fld : Str} {h : Heap} {mg : Str → Option Value} (R : XRaw P K C fld) (X : K.In h) (G : h.Ns mainGlobals mg) (n : nsIn K mainGlobals x = some (some (.ref C))) (hs : mg "super" = none) : XFact P K mg x fld := by
  have hm := mg_of X G n
  have e := cad_eq hm
  obtain ⟨fI, fd, a1, a2, a3, a4⟩ := R.fn
  refine ⟨⟨by rw [e]; exact hm, by rw [e]; exact R.oex.exC, by rw [e]; exact R.exc.hd, by rw [e]; exact R.oex.tyC⟩, by rw [e]; exact ⟨R.oex, R.ini, R.sub, R.opq, hs, R.htop⟩, by rw [e]; exact R.exc, by rw [e]; exact R.nof, fI, fd, by rw [e]; exact a1, a2, a3, ?_⟩
  rw [e]
  exact a4 mg hs

/-- how two classes stand: is the one's instance the other's -/
structure XPair (K : Frag) (A B : Value) (b : Bool) : Prop where
  kit : kitOne K A B = some b
  exm : exmOne K A B = some b
def xpB (K : Frag) (A B : Value) (b : Bool) : Bool := decide (kitOne K A B = some b) && decide (exmOne K A B = some b)
theorem xpair_mk {K : Frag} {A B : Value} {b : Bool} (h : xpB K A B b = true) : XPair K A B b := by
  obtain ⟨h1, h2⟩ := Bool.and_eq_true_iff.mp h
  exact ⟨of_decide_eq_true h1, of_decide_eq_true h2⟩
theorem kitAny_nil {K : Frag} {t : Value} : kitAny K t [] = some false := rfl
theorem kitAny_f {K : Frag} {t c : Value} {r : List Value} {b : Bool} (h : kitOne K t c = some false) (q : kitAny K t r = some b) : kitAny K t (c :: r) = some b := by
  unfold kitAny
  rw [h]
  exact q
theorem kitAny_t {K : Frag} {t c : Value} {r : List Value} (h : kitOne K t c = some true) : kitAny K t (c :: r) = some true := by
  unfold kitAny
  rw [h]
end NF

/-! Own toolkit: partners of letters in a nested text. -/
namespace NF
open PySem L2 TL

section
variable {B H : Hp} {σ : L2.St} {Q : VK} {QX : XK}
theorem x_callX {sp : Sp} {dvs : List V} {W : WX} {t : TA} (q : t σ H fun vs H1 => sp (vs ++ dvs) H1 Q (fun cls d H2 => W cls d σ H2)) : tCallX sp dvs W t σ H Q := q
theorem x_mkX {C : Addr} {fld : Str} {te : TE} (h : te σ H fun v H1 => ∀ d, H1 d = none → QX (.ref C) (some d) (upd H1 d (.xd [(fld, v)]))) : tMkX C fld te σ H QX := h
theorem x_chain {r r' : R2} {ta tb tc : TE} (q : ta σ H fun x H1 => tb σ H1 fun y H2 => r x y H2 fun z H3 => ∃ k, z = .bl k ∧ (if k = true then tc σ H3 fun w' H4 => r' y w' H4 Q else Q (.bl false) H3)) : tChain r r' ta tb tc σ H Q := q
end
abbrev low (c : Nat) : Prop := 97 ≤ c ∧ c ≤ 104
/-! ### repr, and the caught exception -/
def rRepr : List V → Hp → VK → Prop := fun xs H Q => ∃ i, xs = [.int i] ∧ i.natAbs.log2 < 1920 ∧ Q (.str (toString i)) H
theorem callRepr {X : Cx} : CallR X (.builtin "repr") rRepr := SkE.call_repr_int
section
variable {P : Program} {K : PySem.W.Frag} {mg : Str → Option Value} {H : Hp} {σ : L2.St} {Q : VK} {a dd : Addr} {A fld : Str} {b : Bool}
theorem x_repr {i : Int} (h : i.natAbs.log2 < 1920) (q : Q (.str (toString i)) H) : rRepr [.int i] H Q := ⟨i, rfl, h, q⟩
theorem x_xfV {i : Nat} {v : V} (T : XFact P K mg A fld) (hσ : σ[i]? = some (some (.ref a))) (ed : H dd = some (.xd [(fld, v)])) (q : Q v H) : tXfN K a (.ref (cad mg A)) (some dd) fld (tVar i) σ H Q :=
  ⟨_, hσ, rfl, _, dd, _, v, rfl, T.exc, T.nof, rfl, ed, by simp [List.lookup], q⟩
theorem x_isXC {B : Str} {fs : List (Str × V)} (T : XFact P K mg A fld) (p : XPair K (.ref (cad mg A)) (.ref (cad mg B)) b) (ed : H dd = some (.xd fs)) (q : Q (.bl b) H) : rIsX K a (.ref (cad mg A)) (some dd) [.ref a, .ref (cad mg B)] H Q :=
  ⟨_, dd, fs, b, rfl, T.exc, rfl, ed, .inl ⟨_, _, rfl, fun u h => h, p.kit⟩, q⟩
theorem x_isXB {n : String} {fs : List (Str × V)} (T : XFact P K mg A fld) (p : XPair K (.ref (cad mg A)) (.type n) b) (ed : H dd = some (.xd fs)) (q : Q (.bl b) H) : rIsX K a (.ref (cad mg A)) (some dd) [.ref a, .ty n] H Q :=
  ⟨_, dd, fs, b, rfl, T.exc, rfl, ed, .inl ⟨_, _, rfl, fun u h => h, p.kit⟩, q⟩
theorem vals_refs {cs : List Addr} : ∀ us, Vals (cs.map V.ref) us → us = cs.map Value.ref := by
  induction cs with
  | nil => intro us h; cases h; rfl
  | cons c cs ih =>
    intro us h
    cases h with
    | cons h1 h2 =>
      rw [ih _ h2]
      exact congrArg (· :: cs.map Value.ref) h1
theorem x_isXT {tp : Addr} {fs : List (Str × V)} (cs : List Addr) (T : XFact P K mg A fld) (ht : H tp = some (.tup (cs.map V.ref))) (p : PySem.W.kitAny K (.ref (cad mg A)) (cs.map Value.ref) = some b) (ed : H dd = some (.xd fs)) (q : Q (.bl b) H) : rIsX K a (.ref (cad mg A)) (some dd) [.ref a, .ref tp] H Q :=
  ⟨_, dd, fs, b, rfl, T.exc, rfl, ed, .inr ⟨tp, _, _, rfl, ht, vals_refs, p⟩, q⟩
end
/-- how many letters until the depth d is left -/
def cl : List Nat → Nat → Nat
  | [], _ => 0
  | c :: r, d => if low c then cl r (d + 1) + 1 else match d with
    | 0 => 0
    | d + 1 => cl r d + 1
theorem cl_low {c : Nat} {r : List Nat} {d : Nat} (h : low c) : cl (c :: r) d = cl r (d + 1) + 1 := by rw [cl.eq_def]; exact if_pos h
theorem cl_up0 {c : Nat} {r : List Nat} (h : ¬ low c) : cl (c :: r) 0 = 0 := by rw [cl.eq_def]; exact if_neg h
theorem cl_up {c : Nat} {r : List Nat} {d : Nat} (h : ¬ low c) : cl (c :: r) (d + 1) = cl r d + 1 := by rw [cl.eq_def]; exact if_neg h
theorem cl_mono (r : List Nat) : ∀ d, cl r d ≤ cl r (d + 1) := by
  induction r with
  | nil => intro d; exact Nat.le_refl _
  | cons c r ih =>
    intro d
    by_cases h : low c
    · rw [cl_low h, cl_low h]
      exact Nat.succ_le_succ (ih _)
    · cases d with
      | zero => rw [cl_up0 h]; exact Nat.zero_le _
      | succ d => rw [cl_up h, cl_up h]; exact Nat.succ_le_succ (ih _)
theorem cl_mono0 (r : List Nat) (d : Nat) : cl r 0 ≤ cl r d := by
  induction d with
  | zero => exact Nat.le_refl _
  | succ d ih => exact Nat.le_trans ih (cl_mono r d)
/-- the partner of the letter at a -/
def pt (l : List Nat) (a : Nat) : Nat := a + 1 + cl (l.drop (a + 1)) 0

/-- the open places, the last one first, behind i letters -/
structure Stk (l : List Nat) (i : Nat) (ps : List Nat) : Prop where
  st : run (l.take i) [] = some (ps.map fun a => l.getD a 0)
  dep : ∀ j a, ps[j]? = some a → a < i ∧ pt l a = i + cl (l.drop i) j ∧ low (l.getD a 0) ∧ a < l.length
  all : ∀ a c, a < i → l[a]? = some c → low c → a ∈ ps ∨ pt l a < i
  srt : ps.Pairwise (· > ·)
theorem Stk.zero (l : List Nat) : Stk l 0 [] := ⟨rfl, fun j a h => by simp at h, fun a c h => absurd h (Nat.not_lt_zero _), .nil⟩
section
variable {l ps : List Nat} {i c : Nat}
theorem drop_at (hc : l[i]? = some c) : l.drop i = c :: l.drop (i + 1) := by
  obtain ⟨h, e⟩ := List.getElem?_eq_some_iff.mp hc
  rw [List.drop_eq_getElem_cons h, e]
theorem getD_at (hc : l[i]? = some c) : l.getD i 0 = c := by simp [List.getD, hc]
theorem Stk.lt (S : Stk l i ps) {a : Nat} (h : a ∈ ps) : a < i := by
  obtain ⟨j, hj⟩ := List.getElem?_of_mem h
  exact (S.dep j a hj).1
theorem Stk.push (S : Stk l i ps) (hc : l[i]? = some c) (h : low c) : Stk l (i + 1) (i :: ps) := by
  have hl := (List.getElem?_eq_some_iff.mp hc).1
  refine ⟨?_, fun j a hj => ?_, fun a d ha hd hlo => ?_, ?_⟩
  · rw [List.map_cons, getD_at hc]
    exact run_lo1 S.st hc h
  · cases j with
    | zero =>
      have e : i = a := by simpa using hj
      subst e
      exact ⟨Nat.lt_succ_self _, rfl, by rw [getD_at hc]; exact h, hl⟩
    | succ j =>
      have hj' : ps[j]? = some a := by simpa using hj
      obtain ⟨h1, h2, h3, h4⟩ := S.dep j a hj'
      refine ⟨by omega, ?_, h3, h4⟩
      rw [h2, drop_at hc, cl_low h]
      omega
  · by_cases e : a = i
    · exact .inl (by rw [e]; exact List.mem_cons_self)
    · rcases S.all a d (by omega) hd hlo with q | q
      · exact .inl (List.mem_cons_of_mem _ q)
      · exact .inr (by omega)
  · exact List.pairwise_cons.mpr ⟨fun a ha => S.lt ha, S.srt⟩
theorem Stk.pop (S : Stk l i ps) (hr : run l [] = some []) (hc : l[i]? = some c) (h : ¬ low c) : ∃ a ps', ps = a :: ps' ∧ Stk l (i + 1) ps' ∧ pt l a = i ∧ a < i ∧ c + 32 = l.getD a 0 := by
  have e1 : run l [] = (run (l.take i) []).bind (run (l.drop i)) := by
    rw [← run_append, List.take_append_drop]
  rw [S.st, drop_at hc, hr] at e1
  cases ps with
  | nil =>
    have e2 : some [] = run (c :: l.drop (i + 1)) [] := e1
    rw [run_cons, if_neg h] at e2
    cases e2
  | cons a ps' =>
    have e2 : some [] = run (c :: l.drop (i + 1)) (l.getD a 0 :: ps'.map fun a => l.getD a 0) := e1
    rw [run_cons, if_neg h] at e2
    have e3 : c + 32 = l.getD a 0 := by
      by_cases z : c + 32 = l.getD a 0
      · exact z
      · have : (if c + 32 = l.getD a 0 then run (l.drop (i + 1)) (ps'.map fun a => l.getD a 0) else none) = some [] := e2.symm
        rw [if_neg z] at this
        cases this
    have pa := S.dep 0 a rfl
    have ea : pt l a = i := by rw [pa.2.1, drop_at hc, cl_up0 h]; rfl
    refine ⟨a, ps', rfl, ⟨?_, fun j b hj => ?_, fun b d hb hd hlo => ?_, (List.pairwise_cons.mp S.srt).2⟩, ea, pa.1, e3⟩
    · exact run_up1 (st := ps'.map fun a => l.getD a 0) (by rw [e3]; exact S.st) hc h
    · obtain ⟨h1, h2, h3, h4⟩ := S.dep (j + 1) b (by simpa using hj)
      refine ⟨by omega, ?_, h3, h4⟩
      rw [h2, drop_at hc, cl_up h]
      omega
    · by_cases e : b = i
      · subst e
        rw [hc] at hd
        cases hd
        exact absurd hlo h
      · rcases S.all b d (by omega) hd hlo with q | q
        · rcases List.mem_cons.mp q with q | q
          · exact .inr (by rw [q, ea]; omega)
          · exact .inl q
        · exact .inr (by omega)
theorem Stk.done (S : Stk l i ps) (hr : run l [] = some []) (hi : l.length ≤ i) : ps = [] := by
  have e := S.st
  rw [List.take_of_length_le hi, hr] at e
  have e2 := Option.some.inj e
  exact List.map_eq_nil_iff.mp e2.symm
theorem Stk.len (S : Stk l i ps) : ps.length ≤ i := by
  have h := run_len S.st
  rw [List.length_map, List.length_take, List.length_nil] at h
  omega
theorem Stk.nodup (S : Stk l i ps) : ps.Nodup := S.srt.imp fun h => Nat.ne_of_gt h
end
theorem nst_of_flt {l : List Nat} (h : flt l 0 [] = none) : run l [] = some [] := by
  rcases flt_spec l 0 [] with ⟨st, e⟩ | ⟨_, j, e, _⟩
  · rw [flt_of_run e] at h
    by_cases z : st = []
    · rw [e, z]
    · rw [if_neg z] at h
      cases h
  · rw [h] at e
    cases e
theorem flt_of_nst {l : List Nat} (h : run l [] = some []) : flt l 0 [] = none := by rw [flt_of_run h, if_pos rfl]
end NF

/-! What the head hands over: a def with defaults, names of classes. -/
namespace NF
open PySem L2
structure HasD (K : PySem.W.Frag) (x : Str) (st : Stmt) (dvs : List V) : Prop where
  ex : ∃ (f T : Addr) (oc kV dc pm cd ct : Value) (od an : Option Addr) (sl : Array (Option Value)) (oT : Obj) (its : List Value) (n : Nat), PySem.W.nsIn K mainGlobals x = some (some (.ref f)) ∧
    K.lookup f = some ⟨oc, od, .func (PySem.W.fnOf x x (defArgs st) (defBody st) (defScope st) (.ref T) kV dc pm an cd ct), sl⟩ ∧ PySem.W.codeIn K cd x = true ∧ PySem.W.keepIn K (.ref f) = true ∧ K.lookup T = some oT ∧ oT.data = .seq its.toArray n ∧ Vals dvs its
section
variable {K : PySem.W.Frag} {x : Str} {st : Stmt} {dvs : List V} {h : Heap} {mg : Str → Option Value}
theorem hasD_mk {f T : Addr} {oc kV dc pm cd ct oc2 : Value} {od an od2 : Option Addr} {sl sl2 : Array (Option Value)} {a : Array Value} {n : Nat} (h1 : PySem.W.nsIn K mainGlobals x = some (some (.ref f)))
    (h2 : K.lookup f = some ⟨oc, od, .func (PySem.W.fnOf x x (defArgs st) (defBody st) (defScope st) (.ref T) kV dc pm an cd ct), sl⟩) (h3 : PySem.W.codeIn K cd x = true) (h4 : PySem.W.keepIn K (.ref f) = true)
    (h5 : K.lookup T = some ⟨oc2, od2, .seq a n, sl2⟩) (h6 : Vals dvs a.toList) : HasD K x st dvs :=
  ⟨f, T, oc, kV, dc, pm, cd, ct, od, an, sl, _, a.toList, n, h1, h2, h3, h4, h5, rfl, h6⟩
theorem HasD.fn (A : HasD K x st dvs) (X : K.In h) (G : h.Ns mainGlobals mg) (hd : dvs ≠ []) : FnD K mg x st dvs := by
  obtain ⟨f, T, oc, kV, dc, pm, cd, ct, od, an, sl, oT, its, n, h1, h2, h3, h4, h5, h6, h7⟩ := A.ex
  exact ⟨f, _, ⟨⟨oc, od, .ref T, kV, dc, pm, an, cd, ct, sl, rfl, h2, h3, .inr ⟨hd, T, oT, its, n, rfl, h5, h6, h7⟩, .inl rfl⟩, h4⟩, PySem.W.mg_of X G h1⟩
theorem cls_mk {c : Addr} (X : K.In h) (G : h.Ns mainGlobals mg) (n : PySem.W.nsIn K mainGlobals x = some (some (.ref c))) : mg x = some (.ref (cad mg x)) := by
  have e := PySem.W.mg_of X G n
  rw [cad_eq e]
  exact e
theorem pair_mk {A B : Str} {a c : Addr} {b : Bool} (X : K.In h) (G : h.Ns mainGlobals mg) (nA : PySem.W.nsIn K mainGlobals A = some (some (.ref a))) (nB : PySem.W.nsIn K mainGlobals B = some (some (.ref c))) (p : XPair K (.ref a) (.ref c) b) : XPair K (.ref (cad mg A)) (.ref (cad mg B)) b := by
  rw [cad_eq (PySem.W.mg_of X G nA), cad_eq (PySem.W.mg_of X G nB)]
  exact p
theorem pairT_mk {A : Str} {a : Addr} {n : String} {b : Bool} (X : K.In h) (G : h.Ns mainGlobals mg) (nA : PySem.W.nsIn K mainGlobals A = some (some (.ref a))) (p : XPair K (.ref a) (.type n) b) : XPair K (.ref (cad mg A)) (.type n) b := by
  rw [cad_eq (PySem.W.mg_of X G nA)]
  exact p
end
end NF

/-! Own classes: made by an __init__ that may raise; properties; calls within a suite; dicts; constants that are tuples. -/
namespace NF
open PySem PySem.Spec PyProof.Rows L2

/-! ### X(e) -/
structure MkX (P : Program) (w : World) (K : PySem.W.Frag) (mg : Str → Option Value) (base : Heap) (k : Nat) (x : Str) (ps : List Str) (sp : Sp) : Prop where
  ex : ∃ f fd, Mk K (cad mg x) f ∧ FnOk P w K mg base (L2N.CX P w) k f fd ps sp ∧ mg x = some (.ref (cad mg x)) ∧ Binds K fd ps []
def tMakeX (C : Addr) (sp : Sp) (W : WX) (t : TA) : TE := fun σ H Q => t σ H fun vs H1 => ∀ x dx, H1 x = none → H1 dx = none → dx ≠ x →
  sp (.ref x :: vs) (upd (upd H1 dx (.own x)) x (.ins C dx [])) (fun v H2 => v = .non ∧ Q (.ref x) H2) (fun cls d H2 => W cls d σ H2)
section
variable {X : Cx} {k : Nat} {x : Str} {ps : List Str} {sp : Sp} {p pos : Pos} {e : Expr} {es : List Expr} {t : TA} {W : WX} {f C : Addr} {fd : FuncData}
theorem run_mkx {pins : List (Addr × Obj)} {σ : L2.St} {H : Hp} {s : Shared} {Q : VK} {us : List Value} {vs : List V} (M : Mk X.K C f) (F : FnOk X.prog X.w X.K X.mg X.base (L2N.CX X.prog X.w) k f fd ps sp) (hr : Room (k + 1) X.A) (hb : Binds X.K fd ps [])
    (tk : L2N.Takes X W) (I : Inv X pins σ H s) (r : Vals vs us)
    (h : ∀ x dx, H x = none → H dx = none → dx ≠ x → sp (.ref x :: vs) (upd (upd H dx (.own x)) x (.ins C dx [])) (fun v H2 => v = .non ∧ Q (.ref x) H2) (fun cls d H2 => W cls d σ H2)) :
    wpAny (model X.prog X.w) X.A (call (.ref C) us) (EP X pins σ Q) X.xe s := by
  have hq := h (s.heap.objs.size + 1) s.heap.objs.size (I.hok.fresh (Nat.le_succ _)) (I.hok.fresh (Nat.le_refl _)) (Nat.ne_of_lt (Nat.lt_succ_self _))
  have I2 := Inv.made (C := C) I
  have r2 : Vals (V.ref (s.heap.objs.size + 1) :: vs) (Value.ref (s.heap.objs.size + 1) :: us) := .cons rfl r
  have hl : (Value.ref (s.heap.objs.size + 1) :: us ++ []).length = ps.length := by
    have e := r2.length
    rw [F.len _ _ _ _ hq] at e
    rw [List.append_nil]
    exact e.symm
  have hb2 := hb _ (Value.ref (s.heap.objs.size + 1) :: us) I2.kIn hl
  rw [List.append_nil] at hb2
  refine wpAny_call (make_map (f := f) I.kIn M.makes M.init (beq_iff_eq.mp M.fn) (codeAny_mono (F.run _ X.stack _ _ ⟨Value.ref (s.heap.objs.size + 1) :: us, []⟩ (Value.ref (s.heap.objs.size + 1) :: us) _ _ (fun cls d H2 => W cls d σ H2) (hr.make C us [])
    (I2.env0.make C us []) hb2 r2 hq) fun r s' hq' => ?_))
  cases r with
  | error e => exact L2N.passAt tk σ pins _ _ e s' I2 hq'
  | ok fl =>
    cases fl with
    | ret u =>
      obtain ⟨v, H', I3, rv, ev, q3⟩ := I2.after hq'
      subst ev
      exact ⟨rv, ⟨V.ref (s.heap.objs.size + 1), H', I3, rfl, q3⟩⟩
    | next => exact False.elim hq'
    | brk => exact False.elim hq'
    | cont => exact False.elim hq'
theorem pe_mkx {mg : Str → Option Value} (D : MkX X.prog X.w X.K mg X.base k x ps sp) (hX : X.mg = mg) (hr : Room (k + 1) X.A) (tk : L2N.Takes X W) (hg : Gl X x) (ha : PA X (e :: es) t) (hdb : (x == ("__debug__" : Str)) = false := by decide)
    (he : starEach (e :: es) X.env = (false, eval e X.env) :: starEach es X.env := by rfl) (hpl : (backTo pos (starEach es X.env)).any (·.1) = false := by rfl) : PE X (.Call (.Name x p) (e :: es) [] pos) (tMakeX (cad mg x) sp W t) := by
  subst hX
  obtain ⟨f, fd, M, F, hm, hb⟩ := D.ex
  refine ⟨fun pins s σ H Q I h => ?_⟩
  refine wpAny_Call_Name_kw (ld_glob I hg hm ?_ hdb)
  refine PySem.W.callWith_K (h₀ := X.base) I.ok.mod.kin M.kp (thn (ha.run pos pins s σ H _ I h) fun us s1 ⟨vs, H1, I1, r, q⟩ => ⟨I1.kIn, ?_⟩) he hpl
  exact run_mkx M F hr hb tk I1 r q
end
theorem x_makeX {C : Addr} {sp : Sp} {W : WX} {t : TA} {σ : L2.St} {H : Hp} {Q : VK} (q : t σ H fun vs H1 => ∀ x dx, H1 x = none → H1 dx = none → dx ≠ x →
  sp (.ref x :: vs) (upd (upd H1 dx (.own x)) x (.ins C dx [])) (fun v H2 => v = .non ∧ Q (.ref x) H2) (fun cls d H2 => W cls d σ H2)) : tMakeX C sp W t σ H Q := q

/-! ### a property that reads a field -/
structure PrX (P : Program) (w : World) (K : PySem.W.Frag) (mg : Str → Option Value) (base : Heap) (x f fld : Str) : Prop where
  ex : ∃ p g fd, Cls K (cad mg x) ∧ PropOf K (cad mg x) f p g ∧ FnOk P w K mg base CX0 1 g fd ["self"] (getSp (cad mg x) fld) ∧ Binds K fd ["self"] []
theorem pe_prx {X : Cx} {x f fld : Str} {e : Expr} {pos : Pos} {ta : TE} {mg : Str → Option Value} (D : PrX X.prog X.w X.K mg X.base x f fld) (hX : X.mg = mg) (hr : Room 2 X.A) (he : PE X e ta) (hab : attributeBase e f X.env (eval e X.env) = eval e X.env := by rfl) : PE X (.Attribute e f pos) (tProp (cad mg x) (getSp (cad mg x) fld) [] E0 ta) := by
  subst hX
  obtain ⟨p, g, fd, c, hp, F, hb⟩ := D.ex
  exact pe_prop (E := E0) he c hp F hr hb .nil pass0 hab
theorem x_propE {C : Addr} {sp : Sp} {ta : TE} {σ : L2.St} {H : Hp} {Q : VK} (q : ta σ H fun x H1 => ∃ a dx fs, x = .ref a ∧ H1 a = some (.ins C dx fs) ∧ sp (.ref a :: []) H1 Q E0) : tProp C sp [] E0 ta σ H Q := q
theorem x_getSp {C a dx : Addr} {fs : List (Str × V)} {v : V} {fld : Str} {H : Hp} {Q : VK} (ea : H a = some (.ins C dx fs)) (l : fs.lookup fld = some v) (q : Q v H) :
    ∃ a' dx fs, V.ref a = .ref a' ∧ H a' = some (.ins C dx fs) ∧ getSp C fld (.ref a' :: []) H Q E0 := ⟨a, dx, fs, rfl, ea, a, dx, fs, v, rfl, ea, l, q⟩

/-! ### calls within a suite -/
structure DefH (P : Program) (w : World) (K : PySem.W.Frag) (mg : Str → Option Value) (base : Heap) (k : Nat) (x : Str) (ps : List Str) (sp : Sp) : Prop where
  ex : ∃ f fd, L2H.FnH P w K mg base CX0 k f fd ps sp ∧ mg x = some (.ref f) ∧ PySem.W.keepIn K (.ref f) = true ∧ Binds K fd ps []
theorem DefH.mk0 {P : Program} {w : World} {K : PySem.W.Frag} {mg : Str → Option Value} {base : Heap} {x : Str} {st : Stmt} {N ps : List Str} {k : Nat} {sp : Sp} (F : Fn0 K mg x st) (S : FnScope N ps (defScope st)) (len : ∀ vs H Q E, sp vs H Q E → vs.length = ps.length)
    (hbind : ∀ (kV doc pm : Value) (an : Option Addr) (cdv ct : Value) (us : List Value), us.length = ps.length → bindArgs (PySem.W.fnOf x x (defArgs st) (defBody st) (defScope st) .none kV doc pm an cdv ct) ⟨us, []⟩ = pure (ps.zip us))
    (hbody : ∀ {f : Addr} (cdv : Value) (A : Around) (outer : List Env) (s : Shared) (H : Hp) (vs : List V) (Q : VK) (E : XK) (p : Addr × Obj), L2H.RoomH k (A.deeper (envOfC x (defScope st) s.heap.objs.size f cdv)) → sp vs H Q E →
      ∃ t, PSs (L2H.cxH CX0 P w K mg base N x (defScope st) f cdv A outer s H E p) (defBody st) t ∧ t { nx := fun _ H' => Q .non H', rt := Q } (start N vs) H) : DefH P w K mg base (k + 1) x ps sp := by
  obtain ⟨f, fd, F, hm⟩ := F
  obtain ⟨oc, od, kV, doc, pm, an, cdv, ct, osl, rfl, lk, hcd⟩ := F.ex
  exact ⟨f, _, L2H.fn_ofH lk hcd S len fun A outer s H vs Q E p hot hr hsp => hbody cdv A outer s H vs Q E p hr hsp, hm, F.kp, F.binds hbind⟩
section
variable {X : Cx} {k : Nat} {x : Str} {ps : List Str} {sp : Sp} {p pos : Pos} {e : Expr} {es : List Expr} {t : TA}
def tCallH (sp : Sp) (t : TA) : TE := fun σ H Q => t σ H fun vs H1 => sp vs H1 Q E0
theorem pe_dh (D : DefH X.prog X.w X.K X.mg X.base k x ps sp) (hr : L2H.RoomH k X.A) (hc : L2H.HotC X) (hg : Gl X x) (ha : PA X (e :: es) t) (hdb : (x == ("__debug__" : Str)) = false := by decide)
    (he : starEach (e :: es) X.env = (false, eval e X.env) :: starEach es X.env := by rfl) (hpl : (backTo pos (starEach es X.env)).any (·.1) = false := by rfl) : PE X (.Call (.Name x p) (e :: es) [] pos) (tCallH sp t) := by
  obtain ⟨f, fd, F, hm, hk, hb⟩ := D.ex
  exact L2H.pe_callH (E := fun _ => E0) F hr hc hg hm hk hb (fun _ => fun _ _ _ _ _ _ h => h.elim) ha hdb he hpl
end
theorem x_callH {sp : Sp} {t : TA} {σ : L2.St} {H : Hp} {Q : VK} (q : t σ H fun vs H1 => sp vs H1 Q E0) : tCallH sp t σ H Q := q
theorem hot_suite {X : Cx} {a : Addr} {oe : Obj} {cls : Value} {d : Option Addr} {pn : List (Addr × Obj)} (hz : L2N.Zn cls d oe) (hf : ∃ vs, oe.data = .fields vs) : L2H.HotC (X.suite a ((a, oe) :: pn)) := by
  obtain ⟨vs, e⟩ := hf
  exact ⟨(a, oe), ⟨rfl, vs, e, hz.2.2 vs e⟩, List.mem_cons_self ..⟩
theorem room_suite {X : Cx} {k : Nat} {a : Addr} {pn : List (Addr × Obj)} (hr : Room k X.A) : L2H.RoomH k (X.suite a pn).A := ⟨hr.dp, hr.un⟩

/-! ### dicts of whole numbers -/
section
variable {B H : Hp} {M R : List (Addr × HO)} {Q : VK} {σ : L2.St} {a : Addr} {Qh : Hp → Prop}
def newD (H : Hp) (Q : VK) : Prop := ∀ p, H p = none → Q (.ref p) (upd H p (.dK []))
theorem x_dnew (q : newD H Q) : tDNewK σ H Q := q
theorem x_newD (O : Own B H M R) (q : ∀ p H1, B p = none → Own B H1 M (R ++ [(p, .dK [])]) → Q (.ref p) H1) : newD H Q := fun p hp => q p _ (O.base_free hp) (O.new hp)
theorem x_setD {kvs : List (Key × V)} {i : Int} {v : V} (O : Own B H M R) (j : Nat) (hk : R[j]? = some (a, .dK kvs)) (hl : kvs.length < sizeLine) (q : ∀ H1, Own B H1 M (R.set j (a, .dK (putK kvs (Sum.inl i) v))) → Qh H1) : rSetD (.ref a) (.int i) v H Qh :=
  ⟨a, _, rfl, DPut.k (k := Sum.inl i) (O.get j hk) hl, q _ (O.put j hk _)⟩
end
def rSortedDI : List V → Hp → VK → Prop := fun xs H Q => ∃ (a : Addr) (kvs : List (Key × V)) (ks : List Int), xs = [.ref a] ∧ Rd H a (.dK kvs) ∧ kvs.map (·.1) = ks.map Sum.inl ∧ ks.length < 64 ∧
    ∀ (ys : List Int) (p : Addr), ys.Perm ks → ys.Pairwise (· ≤ ·) → H p = none → Q (.ref p) (upd H p (.lst (ys.map V.int)))
theorem callSortedDI {X : Cx} (hc : X.calm = true) : CallR X (.builtin "sorted") rSortedDI := call_sortedDI hc

/-! ### t + u -/
theorem x_catA {K : PySem.W.Frag} {H : Hp} {a b : Addr} {xs ys : List V} {Q : VK} (h1 : SqT K H a xs) (h2 : SqT K H b ys) (hz : xs.length + ys.length ≤ sizeLine)
    (q0 : xs = [] → Q (.ref b) H) (q1 : xs ≠ [] → ys = [] → Q (.ref a) H) (q2 : ∀ p, H p = none → Q (.ref p) (upd H p (.tup (xs ++ ys)))) : rCatA K (.ref a) (.ref b) H Q :=
  ⟨a, b, xs, ys, rfl, rfl, h1, h2, hz, q0, q1, fun _ _ => q2⟩
/-- a tuple that the module made -/
def KTu (K : PySem.W.Frag) (a : Addr) (xs : List V) : Prop := ∀ H, SqT K H a xs
end NF
namespace NF
open PySem L2 TL
/-! ### texts within texts; more -/
def rInStr : R2 := fun x y H Q => ∃ i j, x = .str i ∧ y = .str j ∧ Q (.bl (!(Builtin.Str.occurrences j i 0 j.length 1).isEmpty)) H
theorem opInStr {X : Cx} : OpR X (compareOp .In) rInStr := op_in_str
theorem found_no {z : Str} {c : Nat} {l : List Nat} (h : c ∉ tl z) : (!(Builtin.Str.occurrences z (mkS (c :: l)) 0 z.length 1).isEmpty) = false := by
  rw [Bool.eq_false_iff, Ne, StrLaws.found_iff]
  rintro ⟨i, hi⟩
  unfold Builtin.Str.subAt at hi
  have e := eq_of_beq hi.2
  have e2 : (z.cps.extract i (i + (mkS (c :: l)).length)).toList = c :: l := by rw [e]
  refine h ?_
  have m : c ∈ (z.cps.extract i (i + (mkS (c :: l)).length)).toList := by rw [e2]; exact List.mem_cons_self ..
  rw [Array.toList_extract] at m
  exact List.mem_of_mem_drop (List.mem_of_mem_take m)
theorem x_inStrNo {z : Str} {c : Nat} {l : List Nat} {H : Hp} {Q : VK} (h : c ∉ tl z) (q : Q (.bl false) H) : rInStr (.str (mkS (c :: l))) (.str z) H Q := ⟨_, _, rfl, rfl, by rw [found_no h]; exact q⟩
theorem x_inStr1 {z : Str} {c : Nat} {H : Hp} {Q : VK} (q : Q (.bl (decide (c ∈ tl z))) H) : rInStr (.str ⟨#[c]⟩) (.str z) H Q := ⟨_, _, rfl, rfl, by rw [StrLaws.found_one]; exact q⟩
theorem u1 {u : Nat} (h : u + 64 < cLine) : u + 1 < cLine := by omega
end NF

/-! A class's own __init__ and property as the head hands them over. -/
namespace NF
open PySem PySem.Spec PyProof.Rows L2
def sub (s : Stmt) (j : Nat) : Stmt := match s with
  | .ClassDef (body := b) .. => b.getD j (.Pass ⟨0, 0, 0, 0⟩)
  | _ => .Pass ⟨0, 0, 0, 0⟩
section
variable {P : Program} {w : World} {K : PySem.W.Frag} {mg : Str → Option Value} {base : Heap}
theorem MkX.make {x qual : Str} {st : Stmt} {N ps : List Str} {k : Nat} {sp : Sp} {f : Addr} {fd : FuncData} (hm : mg x = some (.ref (cad mg x))) (M : Mk K (cad mg x) f) (F : Fun K "__init__" qual st f fd) (S : FnScope N ps (defScope st)) (len : ∀ vs H Q E, sp vs H Q E → vs.length = ps.length)
    (hbind : ∀ (kV doc pm : Value) (an : Option Addr) (cdv ct : Value) (us : List Value), us.length = ps.length → bindArgs (PySem.W.fnOf "__init__" qual (defArgs st) (defBody st) (defScope st) .none kV doc pm an cdv ct) ⟨us, []⟩ = pure (ps.zip us))
    (hbody : ∀ {f : Addr} (cdv : Value) (A : Around) (outer : List Env) (s : Shared) (H : Hp) (vs : List V) (Q : VK) (E : XK), Room k (A.deeper (envOfC qual (defScope st) s.heap.objs.size f cdv)) → sp vs H Q E →
      L2N.Takes (cxOf (L2N.CX P w) P w K mg base N qual (defScope st) f cdv A outer s H E) (fun cls d _ H' => E cls d H') → PassesOwn (model P w) (A.deeper (envOfC qual (defScope st) s.heap.objs.size f cdv)) (envOfC qual (defScope st) s.heap.objs.size f cdv) (cxOf (L2N.CX P w) P w K mg base N qual (defScope st) f cdv A outer s H E).xe →
      ∃ t, PSs (cxOf (L2N.CX P w) P w K mg base N qual (defScope st) f cdv A outer s H E) (defBody st) t ∧ t { nx := fun _ H' => Q .non H', rt := Q } (start N vs) H) : MkX P w K mg base (k + 1) x ps sp := by
  obtain ⟨oc, od, kV, doc, pm, an, cdv, ct, osl, rfl, lk, hcd⟩ := F.ex
  exact ⟨f, _, M, fn_of lk hcd S len fun A outer s H vs Q E hr hsp => hbody cdv A outer s H vs Q E hr hsp (L2N.takes_of rfl rfl rfl rfl) (passes_of rfl), hm, F.binds hbind⟩
theorem PrX.make {x f qual fld : Str} {st : Stmt} {p g : Addr} {fd : FuncData} {p1 p2 p3 : Pos} (c : Cls K (cad mg x)) (hp : PropOf K (cad mg x) f p g) (F : Fun K f qual st g fd) (S : FnScope ["self"] ["self"] (defScope st))
    (hb : defBody st = [.Return (some (.Attribute (.Name "self" p1) fld p2)) p3]) (n : NoAttr K (cad mg x) fld)
    (hbind : ∀ (kV doc pm : Value) (an : Option Addr) (cdv ct : Value) (us : List Value), us.length = 1 → bindArgs (PySem.W.fnOf f qual (defArgs st) (defBody st) (defScope st) .none kV doc pm an cdv ct) ⟨us, []⟩ = pure ((["self"] : List Str).zip us)) : PrX P w K mg base x f fld := by
  obtain ⟨oc, od, kV, doc, pm, an, cdv, ct, osl, rfl, lk, hcd⟩ := F.ex
  exact ⟨p, g, _, c, hp, fn_getter (k := 0) lk hcd S rfl hb c n, F.binds hbind⟩
end
/-- what an own class has of its own -/
structure OCls (K : PySem.W.Frag) (C : Addr) (flds : List Str) (qi : Str) (sI : Stmt) : Prop where
  cl : Cls K C
  nf : ∀ f ∈ flds, NoAttr K C f
  ini : ∃ f fd, Mk K C f ∧ Fun K "__init__" qi sI f fd
def OPrp (K : PySem.W.Frag) (C : Addr) (f qual : Str) (st : Stmt) : Prop := ∃ p g fd, PropOf K C f p g ∧ Fun K f qual st g fd
section
variable {K : PySem.W.Frag} {H : Hp} {σ : L2.St} {D : Ends} {ta tv : TE} {f : Str}
theorem x_fldS (q : tv σ H fun y H1 => ta σ H1 fun x H2 => ∃ a C dx fs, x = .ref a ∧ H2 a = some (.ins C dx fs) ∧ Cls K C ∧ NoAttr K C f ∧ fs.length < 1000 ∧ D.nx σ (upd H2 a (.ins C dx (putF f y fs)))) : sFld K ta tv f D σ H := q
theorem x_setF {B : Hp} {M R : List (Addr × HO)} {a C dx : Addr} {fs : List (Str × V)} {y : V} (O : Own B H M R) (j : Nat) (hk : R[j]? = some (a, .ins C dx fs)) (c : Cls K C) (n : NoAttr K C f) (hl : fs.length < 1000) (q : ∀ H1, Own B H1 M (R.set j (a, .ins C dx (putF f y fs))) → D.nx σ H1) :
    ∃ a' C dx fs, V.ref a = .ref a' ∧ H a' = some (.ins C dx fs) ∧ Cls K C ∧ NoAttr K C f ∧ fs.length < 1000 ∧ D.nx σ (upd H a' (.ins C dx (putF f y fs))) :=
  ⟨a, C, dx, fs, rfl, O.get j hk, c, n, hl, q _ (O.put j hk _)⟩
end
end NF

/-! What the head hands over: own classes, properties, tuples of the module. -/
namespace NF
open PySem PySem.Spec PyProof.Rows PySem.W L2
theorem ktu_mk {K : Frag} {a : Addr} {od : Option Addr} {its : Array Value} {n : Nat} {sl : Array (Option Value)} {xs : List V} (h : K.lookup a = some ⟨.type "tuple", od, .seq its n, sl⟩) (hs : decide (its.size ≤ 1000) = true) (hv : Vals xs its.toList) : KTu K a xs :=
  fun H => .inr ⟨_, its, n, h, rfl, rfl, Nat.le_trans (of_decide_eq_true hs) (by rw [sizeLine_eq]; decide), hv⟩
def ocB (K : Frag) (C f : Addr) (flds : List Str) : Bool :=
  plainGet K C Str.empty && (hasDictIn K C && (plainOver K C && (decide (findIn K (.ref C) "__setattr__" = some (some (.builtin "object.__setattr__"))) && ((flds.all fun x => decide (findIn K (.ref C) x = some none)) &&
  (makesIn K C && (isFn K (.ref f) && (keepIn K (.ref C) && keepIn K (.ref f))))))))
theorem ocls_mk {K : Frag} {C f : Addr} {flds : List Str} {qi : Str} {sI : Stmt} {oc kV doc pm cdv ct : Value} {od an : Option Addr} {osl : Array (Option Value)} (ini : findIn K (.ref C) "__init__" = some (some (.ref f)))
    (lk : K.lookup f = some ⟨oc, od, .func (fnOf "__init__" qi (defArgs sI) (defBody sI) (defScope sI) .none kV doc pm an cdv ct), osl⟩) (cd : codeIn K cdv qi = true) (hb : ocB K C f flds = true) : OCls K C flds qi sI := by
  unfold ocB at hb
  simp only [Bool.and_eq_true, decide_eq_true_eq, List.all_eq_true] at hb
  obtain ⟨b1, b2, b3, b4, b5, b6, b7, b8, b9⟩ := hb
  exact ⟨⟨b1, b2, b3, b4⟩, b5, f, _, ⟨b6, ini, b7, b8⟩, fun_mk lk cd b9⟩
def opB (K : Frag) (p g : Addr) : Bool := decide (specialIn K (.ref p) "__get__" = some (some (.builtin "property.__get__"))) && (decide (takesIn K (.ref p) = some true) && keepIn K (.ref g))
theorem oprp_mk {K : Frag} {C p g : Addr} {f qual : Str} {st : Stmt} {oc kV doc pm cdv ct : Value} {od an : Option Addr} {osl : Array (Option Value)} {rest : List Value} (at_ : findIn K (.ref C) f = some (some (.ref p))) (rc : recIn K p "property" = some (.ref g :: rest))
    (lk : K.lookup g = some ⟨oc, od, .func (fnOf f qual (defArgs st) (defBody st) (defScope st) .none kV doc pm an cdv ct), osl⟩) (cd : codeIn K cdv qual = true) (hb : opB K p g = true) : OPrp K C f qual st := by
  unfold opB at hb
  simp only [Bool.and_eq_true, decide_eq_true_eq] at hb
  obtain ⟨b1, b2, b3⟩ := hb
  exact ⟨p, g, _, ⟨at_, b1, b2, rest, rc⟩, fun_mk lk cd b3⟩
theorem ocls_at {K : Frag} {h : Heap} {mg : Str → Option Value} {x : Str} {c : Addr} {flds : List Str} {qi : Str} {sI : Stmt} (X : K.In h) (G : h.Ns mainGlobals mg) (n : nsIn K mainGlobals x = some (some (.ref c))) (o : OCls K c flds qi sI) : OCls K (cad mg x) flds qi sI := by
  rw [cad_eq (mg_of X G n)]
  exact o
theorem prx_at {P : Program} {w : World} {K : Frag} {h : Heap} {mg : Str → Option Value} {base : Heap} {x f qual fld : Str} {c : Addr} {flds : List Str} {qi : Str} {sI st : Stmt} {p1 p2 p3 : Pos} (X : K.In h) (G : h.Ns mainGlobals mg) (n : nsIn K mainGlobals x = some (some (.ref c))) (o : OCls K c flds qi sI) (hp : OPrp K c f qual st)
    (S : FnScope ["self"] ["self"] (defScope st)) (hb : defBody st = [.Return (some (.Attribute (.Name "self" p1) fld p2)) p3]) (hf : fld ∈ flds)
    (hbind : ∀ (kV doc pm : Value) (an : Option Addr) (cdv ct : Value) (us : List Value), us.length = 1 → bindArgs (fnOf f qual (defArgs st) (defBody st) (defScope st) .none kV doc pm an cdv ct) ⟨us, []⟩ = pure ((["self"] : List Str).zip us)) : PrX P w K mg base x f fld := by
  have e := cad_eq (mg_of X G n)
  obtain ⟨p, g, fd, q1, F⟩ := hp
  exact PrX.make (by rw [e]; exact o.cl) (by rw [e]; exact q1) F S hb (by rw [e]; exact o.nf _ hf) hbind
end NF

/-! Own classes whose methods raise nothing; comprehensions over zip and stepped ranges; gcd; dicts of the module; great divisions. -/
namespace NF
open PySem PySem.Spec PyProof.Rows L2
structure MkP (P : Program) (w : World) (K : PySem.W.Frag) (mg : Str → Option Value) (base : Heap) (k : Nat) (x : Str) (ps : List Str) (sp : Sp) : Prop where
  ex : ∃ f fd, Mk K (cad mg x) f ∧ FnOk P w K mg base CX0 k f fd ps sp ∧ mg x = some (.ref (cad mg x)) ∧ Binds K fd ps []
structure DefM (P : Program) (w : World) (K : PySem.W.Frag) (mg : Str → Option Value) (base : Heap) (k : Nat) (x m : Str) (ps : List Str) (sp : Sp) : Prop where
  ex : ∃ f fd, Cls K (cad mg x) ∧ Meth K (cad mg x) m f ∧ FnOk P w K mg base CX0 k f fd ps sp ∧ Binds K fd ps []
section
variable {P : Program} {w : World} {K : PySem.W.Frag} {mg : Str → Option Value} {base : Heap}
theorem MkP.make {x qual : Str} {st : Stmt} {N ps : List Str} {k : Nat} {sp : Sp} {f : Addr} {fd : FuncData} (hm : mg x = some (.ref (cad mg x))) (M : Mk K (cad mg x) f) (F : Fun K "__init__" qual st f fd) (S : FnScope N ps (defScope st)) (len : ∀ vs H Q E, sp vs H Q E → vs.length = ps.length)
    (hbind : ∀ (kV doc pm : Value) (an : Option Addr) (cdv ct : Value) (us : List Value), us.length = ps.length → bindArgs (PySem.W.fnOf "__init__" qual (defArgs st) (defBody st) (defScope st) .none kV doc pm an cdv ct) ⟨us, []⟩ = pure (ps.zip us))
    (hbody : ∀ {f : Addr} (cdv : Value) (A : Around) (outer : List Env) (s : Shared) (H : Hp) (vs : List V) (Q : VK) (E : XK), Room k (A.deeper (envOfC qual (defScope st) s.heap.objs.size f cdv)) → sp vs H Q E →
      ∃ t, PSs (cxOf CX0 P w K mg base N qual (defScope st) f cdv A outer s H E).nox (defBody st) t ∧ t { nx := fun _ H' => Q .non H', rt := Q } (start N vs) H) : MkP P w K mg base (k + 1) x ps sp :=
  ⟨f, fd, M, F.ok S len fun cdv A outer s H vs Q E hr h => hbody cdv A outer s H vs Q E hr h, hm, F.binds hbind⟩
theorem DefM.make {x m qual : Str} {st : Stmt} {N ps : List Str} {k : Nat} {sp : Sp} {f : Addr} {fd : FuncData} (c : Cls K (cad mg x)) (M : Meth K (cad mg x) m f) (F : Fun K m qual st f fd) (S : FnScope N ps (defScope st)) (len : ∀ vs H Q E, sp vs H Q E → vs.length = ps.length)
    (hbind : ∀ (kV doc pm : Value) (an : Option Addr) (cdv ct : Value) (us : List Value), us.length = ps.length → bindArgs (PySem.W.fnOf m qual (defArgs st) (defBody st) (defScope st) .none kV doc pm an cdv ct) ⟨us, []⟩ = pure (ps.zip us))
    (hbody : ∀ {f : Addr} (cdv : Value) (A : Around) (outer : List Env) (s : Shared) (H : Hp) (vs : List V) (Q : VK) (E : XK), Room k (A.deeper (envOfC qual (defScope st) s.heap.objs.size f cdv)) → sp vs H Q E →
      ∃ t, PSs (cxOf CX0 P w K mg base N qual (defScope st) f cdv A outer s H E).nox (defBody st) t ∧ t { nx := fun _ H' => Q .non H', rt := Q } (start N vs) H) : DefM P w K mg base (k + 1) x m ps sp :=
  ⟨f, fd, c, M, F.ok S len fun cdv A outer s H vs Q E hr h => hbody cdv A outer s H vs Q E hr h, F.binds hbind⟩
end
section
variable {X : Cx} {mg : Str → Option Value} {k : Nat} {x m : Str} {ps : List Str} {sp : Sp} {p pos apos : Pos} {o e : Expr} {es : List Expr} {ta : TE} {t : TA}
theorem pe_mk0 (D : MkP X.prog X.w X.K mg X.base k x ps sp) (hX : X.mg = mg) (hr : Room (k + 1) X.A) (hg : Gl X x) (hdb : (x == ("__debug__" : Str)) = false := by decide) : PE X (.Call (.Name x p) [] [] pos) (tMake (cad mg x) sp [] E0 tNil) := by
  subst hX
  obtain ⟨f, fd, M, F, hm, hb⟩ := D.ex
  exact pe_make0 M F hr hg hm hb .nil pass0 hdb
theorem pe_mt (D : DefM X.prog X.w X.K mg X.base k x m ps sp) (hX : X.mg = mg) (hr : Room k X.A) (he : PE X o ta) (ha : PA X (e :: es) t) {pl : Sem Bool}
    (hst : starEach (e :: es) X.env = (false, eval e X.env) :: starEach es X.env := by rfl) (hpl : (backTo pos (starEach es X.env)).any (·.1) = false := by rfl)
    (ht : eval (.Call (.Attribute o m apos) (e :: es) [] pos) X.env = (do
      let ov ← eval o X.env
      standAt apos.atName
      let (f, first) ← holding [ov] (getMethod ov m pl)
      callWith pos f first (backTo pos (starEach (e :: es) X.env)) (backToKw pos (keywordEach [] X.env))) := by rfl) : PE X (.Call (.Attribute o m apos) (e :: es) [] pos) (tMeth (cad mg x) m sp [] E0 ta t) := by
  subst hX
  obtain ⟨f, fd, c, M, F, hb⟩ := D.ex
  exact pe_meth he c M F hr hb .nil pass0 ha hst hpl ht
end
theorem x_meth {C : Addr} {m : Str} {sp : Sp} {ta : TE} {t : TA} {σ : L2.St} {H : Hp} {Q : VK} (q : ta σ H fun x H1 => ∃ a dx fs, x = .ref a ∧ H1 a = some (.ins C dx fs) ∧ fs.lookup m = none ∧ t σ H1 fun vs H2 => sp (x :: (vs ++ [])) H2 Q E0) : tMeth C m sp [] E0 ta t σ H Q := by
  unfold tMeth
  exact q
theorem x_make0 {C : Addr} {sp : Sp} {t : TA} {σ : L2.St} {H : Hp} {Q : VK} (q : t σ H fun vs H1 => ∀ x dx, H1 x = none → H1 dx = none → dx ≠ x → sp (.ref x :: (vs ++ [])) (upd (upd H1 dx (.own x)) x (.ins C dx [])) (fun v H2 => v = .non ∧ Q (.ref x) H2) E0) : tMake C sp [] E0 t σ H Q := q
theorem x_fld {K : PySem.W.Frag} {ta : TE} {f : Str} {σ : L2.St} {H : Hp} {Q : VK} (q : ta σ H fun x H1 => ∃ a C dx fs v, x = .ref a ∧ H1 a = some (.ins C dx fs) ∧ Cls K C ∧ NoAttr K C f ∧ fs.lookup f = some v ∧ Q v H1) : tFld K ta f σ H Q := q
theorem x_revL {K : PySem.W.Frag} {te : TE} {σ : L2.St} {H : Hp} {Q : VK} (q : te σ H fun x H1 => ∃ a xs, x = .ref a ∧ SqL K H1 a xs ∧ ∀ p, H1 p = none → Q (.ref p) (upd H1 p (.lst xs.reverse))) : tRevL K te σ H Q := q
/-! #### comprehensions over zip, over a stepped range -/
section
variable {K : PySem.W.Frag} {B H : Hp} {M R : List (Addr × HO)} {Q : VK} {σ : L2.St} {tt : TT} {te : TE}
theorem wipe2 (σ : L2.St) (j1 j2 : Nat) (x y : Option V) : wipe (((wipe σ [j1, j2]).set j1 x).set j2 y) [j1, j2] = wipe σ [j1, j2] := by
  show (((((((σ.set j2 none).set j1 none).set j1 x).set j2 y).set j2 none).set j1 none)) = (σ.set j2 none).set j1 none
  refine List.ext_getElem? fun k => ?_
  simp only [List.getElem?_set, List.length_set]
  repeat' split
  all_goals first | rfl | (exfalso; omega) | simp_all
theorem lc_zip {a b : Addr} {xs ys : List V} {j1 j2 : Nat} (hl : xs.length = ys.length) (O : Own B H M R) (Pv : Nat → List V → List (Addr × HO) → Prop)
    (hG : ∀ i H' M' p acc, B p = none → Pv i acc M' → Own B H' M' (R ++ [(p, .lst acc)]) → SqL K H' a xs ∧ SqL K H' b ys) (h0 : Pv 0 [] M)
    (hs : ∀ (i : Nat) x y H' M' p acc, xs[i]? = some x → ys[i]? = some y → acc.length ≤ i → Pv i acc M' → Own B H' M' (R ++ [(p, .lst acc)]) →
      tt (((wipe σ [j1, j2]).set j1 (some x)).set j2 (some y)) H' fun c H3 => if c = true then te (((wipe σ [j1, j2]).set j1 (some x)).set j2 (some y)) H3 (lcEnd B R p i (Pv (i + 1))) else lcSkip B R p i (Pv (i + 1)) H3)
    (hd : ∀ p H' M' acc, B p = none → acc.length ≤ xs.length → Pv xs.length acc M' → Own B H' M' (R ++ [(p, .lst acc)]) → Q (.ref p) H') : lcR (gTup K 2 (gCons (gName j1) (gCons (gName j2) gNil))) tt te [j1, j2] σ Q (Itz K a b) H := by
  intro p hp
  refine lc_it (walk_zip (xs := xs) (ys := ys) (n := xs.length) (by omega)) (fun i H' => ∃ M' acc, acc.length ≤ i ∧ Pv i acc M' ∧ Own B H' M' (R ++ [(p, .lst acc)])) ⟨M, [], Nat.le_refl _, h0, O.new hp⟩ (fun i H' _ ⟨M', acc, _, pv, O'⟩ => hG i H' M' p acc (O.base_free hp) pv O') ?_ (fun H' ⟨M', acc, l, pv, O'⟩ => hd p H' M' acc (O.base_free hp) l pv O')
  rintro i v H' H'' hi ⟨M', acc, hl, pv, O'⟩ ⟨T, x, y, rfl, hT, rfl, hx, hy⟩
  exact ⟨T, [x, y], rfl, SqT.of upd_same, rfl, _, _, rfl, _, _, rfl, rfl, wipe2 σ j1 j2 _ _, hs i x y _ M' p acc hx hy hl pv (O'.ignore hT)⟩
theorem lc_rngC {lo c : Int} {n j : Nat} (O : Own B H M R) (Pv : Nat → List V → List (Addr × HO) → Prop) (h0 : Pv 0 [] M)
    (hs : ∀ (i : Nat) H' M' p acc, i < n → acc.length ≤ i → Pv i acc M' → Own B H' M' (R ++ [(p, .lst acc)]) →
      tt ((wipe σ [j]).set j (some (.int (lo + (i : Nat) * c)))) H' fun b H3 => if b = true then te ((wipe σ [j]).set j (some (.int (lo + (i : Nat) * c)))) H3 (lcEnd B R p i (Pv (i + 1))) else lcSkip B R p i (Pv (i + 1)) H3)
    (hd : ∀ p H' M' acc, B p = none → acc.length ≤ n → Pv n acc M' → Own B H' M' (R ++ [(p, .lst acc)]) → Q (.ref p) H') : lcR (gName j) tt te [j] σ Q (Itc lo c n) H :=
  lc_any walk_rangeC O Pv (fun _ _ _ _ _ => trivial) h0 (fun i x H' H'' M' p acc hi hl pv O' y => by
    obtain ⟨rfl, rfl⟩ := y
    exact hs i _ M' p acc hi hl pv O') hd
end
/-- a method as the head hands it over -/
def OMth (K : PySem.W.Frag) (C : Addr) (m qual : Str) (st : Stmt) : Prop := ∃ f fd, Meth K C m f ∧ Fun K m qual st f fd
theorem omth_mk {K : PySem.W.Frag} {C f : Addr} {m qual : Str} {st : Stmt} {oc kV doc pm cdv ct : Value} {od an : Option Addr} {osl : Array (Option Value)} (at_ : PySem.W.findIn K (.ref C) m = some (some (.ref f)))
    (lk : K.lookup f = some ⟨oc, od, .func (PySem.W.fnOf m qual (defArgs st) (defBody st) (defScope st) .none kV doc pm an cdv ct), osl⟩) (cd : PySem.W.codeIn K cdv qual = true) (hb : (PySem.W.isFn K (.ref f) && PySem.W.keepIn K (.ref f)) = true) : OMth K C m qual st := by
  obtain ⟨b1, b2⟩ := Bool.and_eq_true_iff.mp hb
  exact ⟨f, _, ⟨at_, b1, b2⟩, fun_mk lk cd b2⟩
theorem omth_at {K : PySem.W.Frag} {h : Heap} {mg : Str → Option Value} {x : Str} {c : Addr} {m qual : Str} {st : Stmt} (X : K.In h) (G : h.Ns mainGlobals mg) (n : PySem.W.nsIn K mainGlobals x = some (some (.ref c))) (o : OMth K c m qual st) : OMth K (cad mg x) m qual st := by
  rw [cad_eq (PySem.W.mg_of X G n)]
  exact o
def rIndexS : V → List V → Hp → VK → Prop := fun x xs H Q => ∃ a b i rest, x = .str a ∧ xs = [.str b] ∧ Builtin.Str.occurrences a b 0 a.length 1 = i :: rest ∧ Q (.int (i : Nat)) H
theorem mtIndex {X : Cx} : MtR X "str.index" rIndexS := mt_sindex
/-! #### great divisions -/
def CDivG (i j : Int) : Prop := 0 < j ∧ (j.natAbs.log2 < 9000 ∨ i.natAbs ≤ j.natAbs)
theorem noPylong_le {x y : Int} (h : x.natAbs ≤ y.natAbs) : Builtin.divisionGoesByPylong x y = false := by
  show (decide ((if y == 0 then 0 else y.natAbs.log2 / 30 + 1) > 300) && decide ((if x == 0 then 0 else x.natAbs.log2 / 30 + 1) > (if y == 0 then 0 else y.natAbs.log2 / 30 + 1) + 150)) = false
  have key : (if x == 0 then 0 else x.natAbs.log2 / 30 + 1) ≤ (if y == 0 then 0 else y.natAbs.log2 / 30 + 1) + 150 := by
    by_cases hx : (x == 0) = true
    · rw [if_pos hx]; exact Nat.zero_le _
    · rw [if_neg hx]
      have hx0 : x ≠ 0 := fun e => hx (by rw [e]; rfl)
      have hy0 : y ≠ 0 := fun e => by rw [e] at h; omega
      rw [if_neg (by simpa using hy0)]
      have hl : x.natAbs.log2 ≤ y.natAbs.log2 := by
        have h1 := Nat.log2_self_le (n := x.natAbs) (by omega)
        exact (Nat.le_log2 (by omega)).mpr (Nat.le_trans h1 h)
      omega
  rw [decide_eq_false (Nat.not_lt.mpr key), Bool.and_false]
theorem op_fdivG {X : Cx} : OpR X (binaryOp .FloorDiv) (rI CDivG fun i j => .int (i / j)) := opI fun i j _ _ _ _ _ hc q => by
  have h1 : (0 : Int) < j := hc.1
  exact floordiv_int (by omega) (by rw [Int.fdiv_eq_ediv_of_nonneg i (by omega)]; exact q) (.inl (hc.2.elim PyProof.noPylong_of_log2 noPylong_le))
/-! #### a dict of the module whose keys are texts -/
def rKd (K : PySem.W.Frag) : R2 := fun x y H Q => ∃ (d : Addr) (es : Array DictEntry) (n : Nat) (z : Str) (u0 : Value) (v0 : V), x = .ref d ∧ (∃ w : World, KDict K w d es n) ∧ y = .str z ∧ PySem.W.nsIn K d z = some (some u0) ∧ RelV v0 u0 ∧ Q v0 H
end NF

namespace NF
open PySem L2 TL
def top (i : Nat) : Stmt := PySem.Challenge.pw_nestform_k21_vectors_combine.main.body.getD i (.Pass ⟨0, 0, 0, 0⟩)
abbrev s_wall : Stmt := top 1
abbrev s_value : Stmt := top 5
abbrev s_weight : Stmt := top 6
abbrev s_combines : Stmt := top 8
abbrev s_law_box : Stmt := top 10
abbrev s_law_take : Stmt := top 11
abbrev s_law_same : Stmt := top 12
abbrev s_law_number : Stmt := top 13
abbrev s_law_value : Stmt := top 14
abbrev s_law_reduced : Stmt := top 15
abbrev s_law_lead : Stmt := top 16
abbrev s_law_letters : Stmt := top 17
abbrev s_law_weight : Stmt := top 18
abbrev s_law_span : Stmt := top 19
abbrev s_law_entry : Stmt := top 20
abbrev s_law_sum : Stmt := top 21
abbrev s_law_vectors : Stmt := top 22
abbrev s_law_letters_agree : Stmt := top 23
abbrev s_law_combines_agree : Stmt := top 24
abbrev s_law : Stmt := top 25
abbrev s_Span_init : Stmt := sub (top 7) 0
abbrev s_Span_rest : Stmt := sub (top 7) 1
abbrev s_Span_covers : Stmt := sub (top 7) 2
abbrev s_Span_add : Stmt := sub (top 7) 3
structure Txt (P : Program) (w : World) (K : PySem.W.Frag) (mg : Str → Option Value) : Prop where
  b_all : mg "all" = none
  b_bool : mg "bool" = none
  b_int : mg "int" = none
  b_isinstance : mg "isinstance" = none
  b_len : mg "len" = none
  b_list : mg "list" = none
  b_range : mg "range" = none
  b_sum : mg "sum" = none
  b_tuple : mg "tuple" = none
  b_zip : mg "zip" = none
  g_BASE : ∃ u, mg "BASE" = some u ∧ RelV (.int 17) u
  n_Span : mg "Span" = some (.ref (cad mg "Span"))
  t__CODES : mg "_CODES" = some (.ref (cad mg "_CODES"))
  k__CODES : ∀ c : Nat, (97 ≤ c ∧ c ≤ 104) ∨ (65 ≤ c ∧ c ≤ 72) → KDct K w (cad mg "_CODES") ⟨#[c]⟩ (.int (if 97 ≤ c then (c : Int) - 96 else (c : Int) - 56))
  i_gcd : mg "gcd" = some (.builtin "math.gcd")
/-! the walk's own steps -/
local macro_rules | `(tactic| walk_at "own") => `(tactic| first
  | assumption
  | (refine' NF.Own.get ?O 0 ?h; (case O => assumption); (case h => exact rfl))
  | (refine' NF.Own.get ?O 1 ?h; (case O => assumption); (case h => exact rfl))
  | (refine' NF.Own.get ?O 2 ?h; (case O => assumption); (case h => exact rfl))
  | (refine' NF.Own.get ?O 3 ?h; (case O => assumption); (case h => exact rfl))
  | (refine' NF.Own.get ?O 4 ?h; (case O => assumption); (case h => exact rfl))
  | (refine' NF.Own.get ?O 5 ?h; (case O => assumption); (case h => exact rfl)))
local macro_rules | `(tactic| walk_at "atn") => `(tactic| first | assumption | exact rfl | (exact L2.atI_nat (by assumption)))
local macro_rules | `(tactic| walk_at "len") => `(tactic| first
  | assumption
  | (simp only [List.length_cons, List.length_nil, List.length_append, List.length_map, NF.len_app, NF.len_mk, NF.len_ch, sizeLine_eq]; done)
  | (simp only [List.length_cons, List.length_nil, List.length_append, List.length_map, List.length_reverse, NF.len_app, NF.len_mk, NF.len_ch, sizeLine_eq]; omega)
  | (rw [sizeLine_eq]; omega)
  | decide
  | omega)
local macro_rules | `(tactic| walk_at "mul") => `(tactic| first | exact Or.inr ⟨by decide, by decide⟩ | exact Or.inl ⟨by decide, by decide⟩ | exact Or.inl ⟨by omega, by omega⟩ | exact Or.inr ⟨by omega, by omega⟩)
set_option hygiene false in
local macro_rules | `(tactic| walk_at "nO") => `(tactic| try dsimp only [List.set, List.cons_append, List.nil_append, List.append_nil, Int.reduceToNat] at O)
set_option hygiene false in
local macro_rules | `(tactic| walk_at "in2") => `(tactic| (intro H1 O; walk_at "nO"))
set_option hygiene false in
local macro_rules | `(tactic| walk_at "in4") => `(tactic| (intro p H1 hp O; walk_at "nO"))
local macro_rules | `(tactic| walk_at "mut") => `(tactic| first
  | ((with_reducible show rSetL _ _ _ _ _); first
      | (refine' NF.x_setL ?O 0 ?hk ?hi ?q; (case O => assumption); (case hk => exact rfl); (case hi => exact rfl); walk_at "in2")
      | (refine' NF.x_setL ?O 1 ?hk ?hi ?q; (case O => assumption); (case hk => exact rfl); (case hi => exact rfl); walk_at "in2")
      | (refine' NF.x_setL ?O 2 ?hk ?hi ?q; (case O => assumption); (case hk => exact rfl); (case hi => exact rfl); walk_at "in2")
      | (refine' NF.x_setL ?O 3 ?hk ?hi ?q; (case O => assumption); (case hk => exact rfl); (case hi => exact rfl); walk_at "in2"))
  | ((with_reducible show rAppend _ _ _ _); first
      | (refine' NF.x_append ?O 0 ?hk ?hz ?q; (case O => assumption); (case hk => exact rfl); (case hz => walk_at "len"); walk_at "in2")
      | (refine' NF.x_append ?O 1 ?hk ?hz ?q; (case O => assumption); (case hk => exact rfl); (case hz => walk_at "len"); walk_at "in2")
      | (refine' NF.x_append ?O 2 ?hk ?hz ?q; (case O => assumption); (case hk => exact rfl); (case hz => walk_at "len"); walk_at "in2")
      | (refine' NF.x_append ?O 3 ?hk ?hz ?q; (case O => assumption); (case hk => exact rfl); (case hz => walk_at "len"); walk_at "in2")))
local macro_rules | `(tactic| walk_at "new") => `(tactic| first
  | ((with_reducible show NF.newL _ _ _); refine' NF.x_newL ?O ?hz ?q; (case O => assumption); (case hz => walk_at "len"); walk_at "in4")
  | ((with_reducible show NF.newT _ _ _); refine' NF.x_newT ?O ?hz ?q; (case O => assumption); (case hz => walk_at "len"); walk_at "in4"))
local macro_rules | `(tactic| walk_at "isi") => `(tactic| ((with_reducible show NF.rIsT _ _ _ _); first
  | (refine' NF.x_isI ?hb ?_; (case hb => first | exact NF.kit_int_int | exact NF.kit_int_bool | exact NF.kit_int_str | exact NF.kit_int_list | exact NF.kit_int_tuple | exact NF.kit_int_dict))
  | (refine' NF.x_isB ?hb ?_; (case hb => first | exact NF.kit_bool_int | exact NF.kit_bool_bool | exact NF.kit_bool_str | exact NF.kit_bool_list | exact NF.kit_bool_tuple | exact NF.kit_bool_dict))
  | (refine' NF.x_isS ?hb ?_; (case hb => first | exact NF.kit_str_int | exact NF.kit_str_bool | exact NF.kit_str_str | exact NF.kit_str_list | exact NF.kit_str_tuple | exact NF.kit_str_dict))
  | (refine' NF.x_isNon ?hb ?_; (case hb => first | exact NF.kit_NoneType_int | exact NF.kit_NoneType_bool | exact NF.kit_NoneType_str | exact NF.kit_NoneType_list | exact NF.kit_NoneType_tuple | exact NF.kit_NoneType_dict))
  | (refine' NF.x_isL ?h ?hb ?_; (case h => walk_at "own"); (case hb => first | exact NF.kit_list_int | exact NF.kit_list_bool | exact NF.kit_list_str | exact NF.kit_list_list | exact NF.kit_list_tuple | exact NF.kit_list_dict))
  | (refine' NF.x_isT ?h ?hb ?_; (case h => walk_at "own"); (case hb => first | exact NF.kit_tuple_int | exact NF.kit_tuple_bool | exact NF.kit_tuple_str | exact NF.kit_tuple_list | exact NF.kit_tuple_tuple | exact NF.kit_tuple_dict))))
local macro_rules | `(tactic| walk_at "s1") => `(tactic| first
  | with_reducible refine NF.x_seq ?_
  | with_reducible refine NF.x_asg ?_
  | with_reducible refine NF.x_op ?_
  | ((with_reducible show tVar _ _ _ _); first | refine NF.x_var rfl ?_ | refine NF.x_var (by assumption) ?_)
  | with_reducible refine NF.x_c ?_
  | with_reducible refine NF.x_cons ?_
  | with_reducible refine NF.x_nil ?_
  | with_reducible refine NF.x_cb ?_
  | with_reducible refine NF.x_call ?_
  | with_reducible refine NF.x_callX ?_
  | with_reducible refine NF.x_chain ?_
  | with_reducible refine NF.x_mkX ?_
  | with_reducible refine NF.x_name ?_
  | with_reducible refine NF.x_sub ?_
  | with_reducible refine NF.x_drop ?_
  | with_reducible refine NF.x_ret ?_
  | with_reducible refine NF.x_retN ?_
  | with_reducible refine NF.x_next ?_
  | with_reducible refine NF.x_brk ?_
  | with_reducible refine NF.x_cnt ?_
  | with_reducible refine NF.x_ifs ?_
  | with_reducible refine NF.x_if ?_
  | with_reducible refine NF.x_test ?_
  | with_reducible refine NF.x_B ?_
  | with_reducible refine NF.x_not ?_
  | with_reducible refine NF.x_andV ?_
  | with_reducible refine NF.x_orV ?_
  | with_reducible refine NF.x_notV ?_
  | with_reducible refine NF.x_tru ?_
  | with_reducible refine NF.x_lst ?_
  | with_reducible refine NF.x_tup ?_
  | with_reducible refine NF.x_bm ?_
  | with_reducible refine NF.x_bm0 ?_
  | with_reducible refine NF.x_un ?_
  | with_reducible refine NF.x_bl ?_
  | with_reducible refine NF.x_tt ?_
  | with_reducible refine NF.x_ff ?_
  | with_reducible refine NF.x_nt ?_
  | with_reducible refine NF.x_nf ?_
  | with_reducible refine NF.x_I0 ?_
  | with_reducible refine NF.x_U ?_
  | with_reducible refine NF.x_int ?_
  | with_reducible refine NF.x_min2 ?_
  | with_reducible refine NF.x_max2 ?_
  | with_reducible refine NF.x_abs ?_
  | with_reducible refine NF.x_isNn ?_
  | with_reducible refine NF.x_notNn ?_
  | with_reducible refine NF.x_isNi ?_
  | with_reducible refine NF.x_notNi ?_
  | with_reducible refine NF.x_isNs ?_
  | with_reducible refine NF.x_notNs ?_
  | with_reducible refine NF.x_isNb ?_
  | with_reducible refine NF.x_notNb ?_
  | with_reducible refine NF.x_isNr ?_
  | with_reducible refine NF.x_notNr ?_
  | with_reducible refine NF.x_isN ?_
  | with_reducible refine NF.x_notN ?_
  | with_reducible refine NF.x_inC ?_
  | with_reducible refine NF.x_notInC ?_
  | with_reducible refine NF.x_find ?_
  | with_reducible refine NF.x_tyS ?_
  | with_reducible refine NF.x_truB ?_
  | with_reducible refine NF.x_truI ?_
  | with_reducible refine NF.x_truN ?_
  | ((with_reducible show rI CMul _ _ _ _ _); refine NF.x_I ?hc ?_; (case hc => walk_at "mul"))
  | ((with_reducible show rI CPow _ _ _ _ _); refine NF.x_I ?hc ?_; (case hc => exact ⟨by decide, by decide, by decide⟩))
  | ((with_reducible show rI CDivW _ _ _ _ _); refine NF.x_I ?hc ?_; (case hc => first | assumption | exact ⟨by assumption, by assumption⟩ | exact ⟨by decide, by decide +kernel⟩))
  | ((with_reducible show rI _ _ _ _ _ _); refine NF.x_I ?hc ?_; (case hc => first | assumption | (show (0 : Int) < _; omega) | decide))
  | ((with_reducible show rEq _ _ _ _); refine NF.x_eq (by rfl) ?_)
  | ((with_reducible show rNe _ _ _ _); refine NF.x_ne (by rfl) ?_)
  | ((with_reducible show rIxL _ _ _ _ _); refine' NF.x_ixL ?h ?hv ?_; (case h => walk_at "own"); (case hv => walk_at "atn"))
  | ((with_reducible show rIxT _ _ _ _ _); refine' NF.x_ixT ?h ?hv ?_; (case h => walk_at "own"); (case hv => walk_at "atn"))
  | ((with_reducible show rIxS _ _ _ _); refine' NF.x_ixS ?h ?hv ?_; (case h => walk_at "len"); (case hv => walk_at "atn"))
  | ((with_reducible show rLen _ [V.str _] _ _); refine NF.x_lenS ?h ?_; (case h => walk_at "len"))
  | ((with_reducible show rLen _ [V.ref _] _ _); first | (refine' NF.x_lenL ?h ?_; (case h => walk_at "own")) | (refine' NF.x_lenT ?h ?_; (case h => walk_at "own")))
  | ((with_reducible show rAddS _ _ _ _); refine NF.x_addS ?h ?_; (case h => walk_at "len"))
  | ((with_reducible show rUpper _ _ _ _); refine NF.x_upper ?h ?_; (case h => walk_at "len"))
  | ((with_reducible show rLower _ _ _ _); refine NF.x_lower ?h ?_; (case h => walk_at "len"))
  | ((with_reducible show tyV _ "list" _ _ ∧ _); refine' NF.x_tyL ?h ?_; (case h => walk_at "own"))
  | ((with_reducible show ∃ k, TruV _ (V.ref _) _ k ∧ _); refine' NF.x_truL ?h ?_; (case h => walk_at "own"))
  | ((with_reducible show ∃ k, TruV _ (V.str _) _ k ∧ _); refine' NF.x_truS ?h ?_; (case h => walk_at "len"))
  | with_reducible refine NF.x_sl ?_
  | with_reducible refine NF.x_noPart ?_
  | with_reducible refine NF.x_part ?_
  | with_reducible refine NF.x_pI ?_
  | ((with_reducible show rSlS _ _ _ _ _); refine NF.x_slS ?h ?_; (case h => walk_at "len"))
  | with_reducible refine NF.x_for ?_
  | with_reducible refine NF.x_lc ?_
  | with_reducible refine NF.x_yes ?_
  | ((with_reducible show NF.rLtIS _ _ _ _ _); refine' NF.x_ltIS ?ha ?hb ?_; (case ha => walk_at "own"); (case hb => walk_at "own"))
  | with_reducible refine NF.x_lstRg1 ?_
  | with_reducible refine NF.x_pI ?_
  | with_reducible refine NF.x_jR1 ?_
  | with_reducible refine NF.x_jR2 ?_
  | with_reducible refine NF.x_jL ?_
  | with_reducible refine NF.x_jT ?_
  | with_reducible refine NF.x_jS ?_
  | with_reducible refine NF.x_jE ?_
  | with_reducible refine NF.x_jEL ?_
  | walk_at "isi"
  | walk_at "mut")
local macro_rules | `(tactic| walk_at "go") => `(tactic| repeat (first | walk_at "s1" | walk_at "ao" | walk_at "new"))
local macro_rules | `(tactic| walk_at "ao") => `(tactic| first
  | with_reducible refine NF.x_and ?_
  | with_reducible refine NF.x_or ?_)
local macro_rules | `(tactic| walk_at "gw") => `(tactic| repeat (first | walk_at "s1" | walk_at "ao"))
local macro_rules | `(tactic| walk_at "gn") => `(tactic| repeat walk_at "s1")
section
variable {P : Program} {w : World} {K : PySem.W.Frag} {mg : Str → Option Value} {base : Heap}
/-! promises and steps that more than one law uses -/
abbrev nV (n : Nat) : V := .int n
def fv : Option Nat → V
  | none => .non
  | some n => .int (n : Int)
theorem tl_at {z : Str} {i c : Nat} (h : z.cps[i]? = some c) : (tl z)[i]? = some c := by rw [Array.getElem?_toList]; exact h
abbrev fI (x : Str) (i : Int) : List (Str × V) := [(x, .int i)]
def spN (n : Nat) (pre : List V → Prop) (post : List V → V → List (Addr × HO) → Prop) : Sp := fun vs H Q _ => vs.length = n ∧ pre vs ∧ ∀ v H' N, (∀ x ∈ N, H x.1 = none) → Own H H' [] N → post vs v N → Q v H'
theorem hl_spN {n : Nat} {pre : List V → Prop} {post : List V → V → List (Addr × HO) → Prop} : ∀ vs H Q E, spN n pre post vs H Q E → vs.length = n := fun vs H Q E h => h.1
theorem use_spN {B H : Hp} {M R : List (Addr × HO)} {n : Nat} {pre : List V → Prop} {post : List V → V → List (Addr × HO) → Prop} {vs : List V} {Q : VK} {E : XK} (O : Own B H M R) (hl : vs.length = n) (hp : pre vs)
    (q : ∀ v H' N, (∀ x ∈ N, B x.1 = none) → Own B H' M (R ++ N) → post vs v N → Q v H') : spN n pre post vs H Q E :=
  ⟨hl, hp, fun v H' N hn O' h => q v H' N (fun x hx => O.base_free (hn x hx)) (O.callN O' hn) h⟩
def spNX (mg : Str → Option Value) (n : Nat) (pre : List V → Prop) (post : List V → V → List (Addr × HO) → Prop) (exc : ExS) : Sp := fun vs H Q E => vs.length = n ∧ pre vs ∧ (∀ v H' N, (∀ x ∈ N, H x.1 = none) → Own H H' [] N → post vs v N → Q v H') ∧
  ∀ x fs d H', Own H H' [] [] → exc vs x fs → H d = none → H' d = some (.xd fs) → E (.ref (cad mg x)) (some d) H'
theorem hl_spNX {mg : Str → Option Value} {n : Nat} {pre : List V → Prop} {post : List V → V → List (Addr × HO) → Prop} {exc : ExS} : ∀ vs H Q E, spNX mg n pre post exc vs H Q E → vs.length = n := fun vs H Q E h => h.1
theorem use_spNX {mg : Str → Option Value} {B H : Hp} {M R : List (Addr × HO)} {n : Nat} {pre : List V → Prop} {post : List V → V → List (Addr × HO) → Prop} {exc : ExS} {vs : List V} {Q : VK} {E : XK} (O : Own B H M R) (hl : vs.length = n) (hp : pre vs)
    (q : ∀ v H' N, (∀ x ∈ N, B x.1 = none) → Own B H' M (R ++ N) → post vs v N → Q v H') (e : ∀ x fs d H', Own B H' M R → exc vs x fs → B d = none → H' d = some (.xd fs) → E (.ref (cad mg x)) (some d) H') : spNX mg n pre post exc vs H Q E :=
  ⟨hl, hp, fun v H' N hn O' h => q v H' N (fun x hx => O.base_free (hn x hx)) (O.callN O' hn) h, fun x fs d H' O' h h1 h2 => e x fs d H' (O.call0 O') h (O.base_free h1) h2⟩
theorem Own.mem {B H : Hp} {M R : List (Addr × HO)} {x : Addr × HO} (O : Own B H M R) (h : x ∈ R) : H x.1 = some x.2 := O.at_ x (List.mem_append_right _ h)
theorem Own.front {B H : Hp} {M R N : List (Addr × HO)} (O : Own B H M (R ++ N)) (hn : ∀ x ∈ N, B x.1 = none) : Own B H M R := (O.perm List.perm_append_comm).dropTo hn
theorem Own.track {B H : Hp} {d : Addr} {o : HO} (O : Own B H [] []) (hd : H d = some o) : Own B H [] [(d, o)] :=
  ⟨by simp, fun x hx => by
    have e : x = (d, o) := by simpa using hx
    rw [e]
    exact hd, fun b hb u e => O.out b (by simp) u e⟩
theorem Own.shift {B H : Hp} {M R : List (Addr × HO)} {x : Addr × HO} (O : Own B H M (R ++ [x])) : Own B H (M ++ [x]) R := by
  have e : (M ++ (R ++ [x])).Perm (M ++ [x] ++ R) := by
    rw [List.append_assoc]
    exact List.Perm.append_left M List.perm_append_comm
  exact ⟨(e.map Prod.fst).nodup_iff.mp O.nd, fun y hy => O.at_ y (e.mem_iff.mpr hy), fun b hb o q => O.out b (fun z => hb ((e.map Prod.fst).mem_iff.mp z)) o q⟩
theorem Own.toOpen {B H : Hp} {M R R' : List (Addr × HO)} (O : Own B H M R) (e : (M ++ R).Perm R') : Own B H [] R' := by
  have e : (M ++ R).Perm ([] ++ R') := e
  exact ⟨(e.map Prod.fst).nodup_iff.mp O.nd, fun y hy => O.at_ y (e.mem_iff.mpr hy), fun b hb o q => O.out b (fun z => hb ((e.map Prod.fst).mem_iff.mp z)) o q⟩
theorem Own.stays {B H : Hp} {p a : Addr} {o u : HO} (O : Own B H [] [(p, u)]) (hp : B p = none) (h : B a = some o) : H a = some o := by
  refine O.out a (fun q => ?_) _ h
  have e : a = p := by simpa using q
  rw [e, hp] at h
  cases h
theorem Own.staysR {B H : Hp} {R : List (Addr × HO)} {a : Addr} {o : HO} (O : Own B H [] R) (hR : ∀ x ∈ R, B x.1 = none) (h : B a = some o) : H a = some o := by
  refine O.out a (fun q => ?_) _ h
  obtain ⟨x, hx, e⟩ := List.mem_map.mp q
  have n := hR x hx
  rw [e, h] at n
  cases n
theorem lc_lst2 {K : PySem.W.Frag} {B H : Hp} {M R : List (Addr × HO)} {Q : VK} {σ : L2.St} {tt : TT} {te : TE} {j : Nat} {a : Addr} {xs : List V} (hx : SqL K H a xs) (O : Own B H M R) (Pv : Nat → List V → List (Addr × HO) → Prop)
    (hG : ∀ i H' M' p acc, B p = none → Pv i acc M' → Own B H' M' (R ++ [(p, .lst acc)]) → SqL K H' a xs) (h0 : Pv 0 [] M)
    (hs : ∀ (i : Nat) x H' M' p acc, B p = none → xs[i]? = some x → acc.length ≤ i → Pv i acc M' → Own B H' M' (R ++ [(p, .lst acc)]) →
      tt ((wipe σ [j]).set j (some x)) H' fun b H3 => if b = true then te ((wipe σ [j]).set j (some x)) H3 (lcEnd B R p i (Pv (i + 1))) else lcSkip B R p i (Pv (i + 1)) H3)
    (hd : ∀ p H' M' acc, B p = none → acc.length ≤ xs.length → Pv xs.length acc M' → Own B H' M' (R ++ [(p, .lst acc)]) → Q (.ref p) H') : jList K (.ref a) H (lcR (gName j) tt te [j] σ Q) := by
  refine ⟨a, rfl, ⟨xs, hx⟩, fun p hp => ?_⟩
  refine lc_it walk_list (fun i H' => ∃ M' acc, acc.length ≤ i ∧ Pv i acc M' ∧ Own B H' M' (R ++ [(p, .lst acc)])) ⟨M, [], Nat.le_refl _, h0, O.new hp⟩ (fun i H' _ ⟨M', acc, _, pv, O'⟩ => hG i H' M' p acc (O.base_free hp) pv O') ?_ (fun H' ⟨M', acc, l, pv, O'⟩ => hd p H' M' acc (O.base_free hp) l pv O')
  rintro i x H' H'' hi ⟨M', acc, hl, pv, O'⟩ ⟨rfl, hx⟩
  exact ⟨set_wipe σ j _, hs i x _ M' p acc (O.base_free hp) hx hl pv O'⟩
theorem lc_tup2 {K : PySem.W.Frag} {B H : Hp} {M R : List (Addr × HO)} {Q : VK} {σ : L2.St} {tt : TT} {te : TE} {j : Nat} {a : Addr} {xs : List V} (hx : SqT K H a xs) (O : Own B H M R) (Pv : Nat → List V → List (Addr × HO) → Prop)
    (hG : ∀ i H' M' p acc, B p = none → Pv i acc M' → Own B H' M' (R ++ [(p, .lst acc)]) → SqT K H' a xs) (h0 : Pv 0 [] M)
    (hs : ∀ (i : Nat) x H' M' p acc, B p = none → xs[i]? = some x → acc.length ≤ i → Pv i acc M' → Own B H' M' (R ++ [(p, .lst acc)]) →
      tt ((wipe σ [j]).set j (some x)) H' fun b H3 => if b = true then te ((wipe σ [j]).set j (some x)) H3 (lcEnd B R p i (Pv (i + 1))) else lcSkip B R p i (Pv (i + 1)) H3)
    (hd : ∀ p H' M' acc, B p = none → acc.length ≤ xs.length → Pv xs.length acc M' → Own B H' M' (R ++ [(p, .lst acc)]) → Q (.ref p) H') : jTup K (.ref a) H (lcR (gName j) tt te [j] σ Q) := by
  refine ⟨a, rfl, ⟨xs, hx⟩, fun p hp => ?_⟩
  refine lc_it walk_tup (fun i H' => ∃ M' acc, acc.length ≤ i ∧ Pv i acc M' ∧ Own B H' M' (R ++ [(p, .lst acc)])) ⟨M, [], Nat.le_refl _, h0, O.new hp⟩ (fun i H' _ ⟨M', acc, _, pv, O'⟩ => hG i H' M' p acc (O.base_free hp) pv O') ?_ (fun H' ⟨M', acc, l, pv, O'⟩ => hd p H' M' acc (O.base_free hp) l pv O')
  rintro i x H' H'' hi ⟨M', acc, hl, pv, O'⟩ ⟨rfl, hx⟩
  exact ⟨set_wipe σ j _, hs i x _ M' p acc (O.base_free hp) hx hl pv O'⟩
theorem x_rep {B H : Hp} {M R : List (Addr × HO)} {a : Addr} {xs : List V} {k : Int} {Q : VK} (O : Own B H M R) (ha : H a = some (.lst xs)) (h1 : -(2 ^ 63) ≤ k) (h2 : k < 2 ^ 63) (hz : xs.length * k.toNat ≤ sizeLine)
    (q : ∀ p H1, B p = none → Own B H1 M (R ++ [(p, .lst (List.replicate k.toNat xs).flatten)]) → Q (.ref p) H1) : rRep (.ref a) (.int k) H Q := ⟨a, k, xs, rfl, rfl, ha, h1, h2, hz, fun p hp => q p _ (O.base_free hp) (O.new hp)⟩
theorem rep_one (v : V) (n : Nat) : (List.replicate n [v]).flatten = List.replicate n v := by
  induction n with
  | zero => rfl
  | succ n ih => rw [List.replicate_succ, List.flatten_cons, ih]; rfl
theorem log_small {j : Nat} (h : j ≤ 10000000) : ((j : Int).natAbs).log2 < 1900 := by
  rw [Int.natAbs_natCast]
  by_cases z : j = 0
  · rw [z]; decide
  · have h1 : j < 2 ^ 24 := by omega
    have h2 := (Nat.log2_lt z).mpr h1
    omega
theorem tl_mul (x : Str) (n : Int) : tl (Txt.mul x n) = (List.replicate n.toNat (tl x)).flatten := by
  unfold Txt.mul
  by_cases h : n < 1
  · rw [if_pos h, show n.toNat = 0 by omega]
    rfl
  · rw [if_neg h]
    by_cases h2 : (n == 1 || x.length == 0) = true
    · rw [if_pos h2]
      simp only [Bool.or_eq_true, beq_iff_eq] at h2
      rcases h2 with h2 | h2
      · rw [h2]
        simp
      · have e : tl x = [] := List.length_eq_zero_iff.mp (by rw [← len_tl]; exact h2)
        rw [e]
        simp
    · rw [if_neg h2]
      have e : ∀ (k : Nat) (a : Array Nat), ((List.replicate k x.cps).foldl (· ++ ·) a).toList = a.toList ++ (List.replicate k x.cps.toList).flatten := by
        intro k
        induction k with
        | zero => intro a; simp
        | succ k ih => intro a; rw [List.replicate_succ, List.foldl_cons, ih, List.replicate_succ, List.flatten_cons, Array.toList_append, List.append_assoc]
      exact (e n.toNat #[]).trans (List.nil_append _)
theorem flat_one {α : Type} (c : α) (k : Nat) : (List.replicate k [c]).flatten = List.replicate k c := by
  induction k with
  | zero => rfl
  | succ k ih => rw [List.replicate_succ, List.flatten_cons, ih]; rfl
theorem flat_len {α : Type} (l : List α) (k : Nat) : (List.replicate k l).flatten.length = k * l.length := by
  induction k with
  | zero => simp
  | succ k ih => rw [List.replicate_succ, List.flatten_cons, List.length_append, ih, Nat.succ_mul]; omega
theorem tl_mul1 (c : Nat) (n : Int) : tl (Txt.mul ⟨#[c]⟩ n) = List.replicate n.toNat c := by rw [tl_mul]; exact flat_one c _
theorem len_mul1 (c : Nat) (n : Int) : (Txt.mul ⟨#[c]⟩ n).length = n.toNat := by rw [len_tl, tl_mul1, List.length_replicate]
theorem x_neDT {K : PySem.W.Frag} {H : Hp} {a b : Addr} {xs : List V} {ds : List PyData} {Q : VK} (ha : H a = some (.tup xs)) (hb : H b = some (.tup xs)) (hd : DpAll K H xs ds) (hs : SeqAt.shaped (.tuple ds) = true) (q : Q (.bl false) H) : rNeD K (.ref a) (.ref b) H Q :=
  ⟨_, _, .tup (SqT.of ha) hd, .tup (SqT.of hb) hd, hs, hs, by rw [SeqAt.eqv_refl _ (SeqAt.canLay_of_shaped hs)]; exact q⟩
theorem strOk_of (x : String) : PyData.strOk (Str.ofString x) = true := by
  unfold PyData.strOk
  rw [← Array.all_toList]
  have e : (Str.ofString x).cps.toList = tl (Str.ofString x) := rfl
  rw [e, tl_ofString, List.all_eq_true]
  intro n hn
  obtain ⟨c, _, rfl⟩ := List.mem_map.mp hn
  have v := c.valid
  refine decide_eq_true ?_
  show c.val.toNat < 1114112
  rcases v with v | ⟨_, v⟩ <;> omega
def rTupOf (K : PySem.W.Frag) : List V → Hp → VK → Prop := fun xs H Q => ∃ p ys, xs = [.ref p] ∧ ((SqL K H p ys ∧ ∀ l, H l = none → Q (.ref l) (upd H l (.tup ys))) ∨ (SqT K H p ys ∧ Q (.ref p) H))
theorem callTupleOf {X : Cx} : CallR X (.type "tuple") (rTupOf X.K) := call_tuple_of
theorem x_tupOf {B H : Hp} {M R : List (Addr × HO)} {K : PySem.W.Frag} {a : Addr} {xs : List V} {Q : VK} (O : Own B H M R) (h : H a = some (.lst xs)) (q : ∀ p H1, B p = none → Own B H1 M (R ++ [(p, .tup xs)]) → Q (.ref p) H1) : rTupOf K [.ref a] H Q :=
  ⟨a, xs, rfl, .inl ⟨SqL.of h, fun l hl => q l _ (O.base_free hl) (O.new hl)⟩⟩
theorem x_catT {K : PySem.W.Frag} {B H : Hp} {M R : List (Addr × HO)} {a b : Addr} {xs ys : List V} {Q : VK} (O : Own B H M R) (h1 : H a = some (.tup xs)) (h2 : H b = some (.tup ys)) (hx : xs ≠ []) (hy : ys ≠ []) (hz : xs.length + ys.length ≤ sizeLine)
    (q : ∀ p H1, B p = none → Own B H1 M (R ++ [(p, .tup (xs ++ ys))]) → Q (.ref p) H1) : rCatT K (.ref a) (.ref b) H Q :=
  ⟨a, b, xs, ys, rfl, rfl, .of h1, .of h2, hx, hz, fun e => absurd e hy, fun _ p hp => q p _ (O.base_free hp) (O.new hp)⟩
theorem ixN_nat {n k : Nat} (h : k < n) : ixN n (k : Int) = some k := by
  unfold ixN
  simp [h]
theorem freshA {B : Hp} {T N : List (Addr × HO)} (h1 : ∀ x ∈ T, B x.1 = none) (h2 : ∀ x ∈ N, B x.1 = none) : ∀ x ∈ T ++ N, B x.1 = none := fun x hx => (List.mem_append.mp hx).elim (h1 x) (h2 x)
theorem fresh1 {B : Hp} {p : Addr} {o : HO} (h : B p = none) : ∀ x ∈ [(p, o)], B x.1 = none := fun x hx => by rw [List.mem_singleton.mp hx]; exact h

/-- one of the sixteen letters -/
def isL (c : Nat) : Prop := (97 ≤ c ∧ c ≤ 104) ∨ (65 ≤ c ∧ c ≤ 72)
def code (c : Nat) : Int := if 97 ≤ c then (c : Int) - 96 else (c : Int) - 56
theorem code_pos {c : Nat} (h : isL c) : 0 ≤ code c ∧ code c < 17 := by
  unfold isL at h
  unfold code
  split <;> omega
/-- digits with base b -/
def hv (b : Int) (t : Int) (l : List Int) : Int := l.foldl (fun t d => t * b + d) t
def codes (l : List Nat) : List Int := l.map code
def prs (p : Int) : List Int → List Int
  | x :: y :: l => (x * p + y) :: prs p l
  | _ => []
theorem hv_prs (p : Int) : ∀ (n : Nat) (l : List Int) (t : Int), l.length = 2 * n → hv (p * p) t (prs p l) = hv p t l
  | 0, l, t, h => by
    obtain rfl := List.length_eq_zero_iff.mp h
    rfl
  | n + 1, l, t, h => by
    match l, h with
    | x :: y :: l, h =>
      have e : t * (p * p) + (x * p + y) = (t * p + x) * p + y := by
        rw [Int.add_mul, Int.mul_assoc, Int.add_assoc]
      show hv (p * p) (t * (p * p) + (x * p + y)) (prs p l) = hv p ((t * p + x) * p + y) l
      rw [e]
      exact hv_prs p n l _ (by simp only [List.length_cons] at h; omega)
theorem prs_len (p : Int) : ∀ (n : Nat) (l : List Int), l.length = 2 * n → (prs p l).length = n
  | 0, l, h => by
    obtain rfl := List.length_eq_zero_iff.mp h
    rfl
  | n + 1, l, h => by
    match l, h with
    | x :: y :: l, h =>
      show (prs p l).length + 1 = n + 1
      rw [prs_len p n l (by simp only [List.length_cons] at h; omega)]
theorem prs_at (p : Int) : ∀ (i : Nat) (l : List Int) (x y : Int), l[2 * i]? = some x → l[2 * i + 1]? = some y → (prs p l)[i]? = some (x * p + y)
  | 0, l, x, y, h1, h2 => by
    match l, h1, h2 with
    | a :: b :: l, h1, h2 =>
      have e1 : a = x := by simpa using h1
      have e2 : b = y := by simpa using h2
      subst e1 e2
      rfl
    | [a], h1, h2 => simp at h2
    | [], h1, h2 => simp at h1
  | i + 1, l, x, y, h1, h2 => by
    match l, h1, h2 with
    | a :: b :: l, h1, h2 =>
      show (prs p l)[i]? = _
      exact prs_at p i l x y (by simpa [Nat.mul_succ] using h1) (by simpa [Nat.mul_succ] using h2)
    | [a], h1, h2 => simp at h2
    | [], h1, h2 => simp at h1
theorem prs_bd {p : Int} (hp : 0 < p) : ∀ (l : List Int), (∀ x ∈ l, 0 ≤ x ∧ x < p) → ∀ x ∈ prs p l, 0 ≤ x ∧ x < p * p
  | [], _, x, h => absurd h List.not_mem_nil
  | [_], _, x, h => absurd h List.not_mem_nil
  | a :: b :: l, h, x, hx => by
    rcases List.mem_cons.mp hx with rfl | hx
    · have ha := h a (List.mem_cons_self ..)
      have hb := h b (List.mem_cons_of_mem _ (List.mem_cons_self ..))
      have h1 : 0 ≤ a * p := Int.mul_nonneg ha.1 (by omega)
      have h2 : a * p ≤ (p - 1) * p := Int.mul_le_mul_of_nonneg_right (by omega) (by omega)
      rw [Int.sub_mul, Int.one_mul] at h2
      omega
    · exact prs_bd hp l (fun y hy => h y (List.mem_cons_of_mem _ (List.mem_cons_of_mem _ hy))) x hx
theorem pow17 (e : Nat) : (17 : Int) ^ e < 2 ^ (5 * e) ∨ e = 0 := by
  induction e with
  | zero => exact .inr rfl
  | succ e ih =>
    refine .inl ?_
    rcases ih with ih | rfl
    · rw [Int.pow_succ, Nat.mul_succ, Int.pow_add]
      have h0 : (0 : Int) < 17 ^ e := Int.pow_pos (by decide)
      have h1 : (0 : Int) < 2 ^ (5 * e) := Int.pow_pos (by decide)
      have : (17 : Int) ^ e * 17 < 2 ^ (5 * e) * 32 := by omega
      exact this
    · decide
theorem pow17_nat {e n : Nat} (h : e ≤ n) (hn : 0 < n) : ((17 : Int) ^ e).natAbs < 2 ^ (5 * n) := by
  have h0 : (0 : Int) < 17 ^ e := Int.pow_pos (by decide)
  have h1 : (17 : Int) ^ e < 2 ^ (5 * n) := by
    rcases pow17 e with q | rfl
    · refine Int.lt_of_lt_of_le q ?_
      have : (2 : Nat) ^ (5 * e) ≤ 2 ^ (5 * n) := Nat.pow_le_pow_right (by decide) (by omega)
      exact_mod_cast this
    · have : (1 : Nat) < 2 ^ (5 * n) := Nat.one_lt_two_pow (by omega)
      exact_mod_cast this
  have h2 : (((17 : Int) ^ e).natAbs : Int) < ((2 ^ (5 * n) : Nat) : Int) := by
    rw [Int.natAbs_of_nonneg (by omega)]
    exact_mod_cast h1
  exact_mod_cast h2
theorem x_kd {K : PySem.W.Frag} {w : World} {H : Hp} {p : Addr} {z : Str} {v : V} {Q : VK} (h : KDct K w p z v) (q : Q v H) : rIxD K w (.ref p) (.str z) H Q := ⟨p, z, v, rfl, rfl, h, q⟩
theorem RgC.two {n : Nat} (h : n ≤ 100000) : RgC 0 ((2 * n : Nat) : Int) 2 n := by
  refine ⟨by decide, by decide, ?_, ?_⟩
  · unfold Builtin.Range.small
    rw [PyProof.Rows.rangeSize_pos (by decide) (by omega)]
    have e : (((2 * n : Nat) : Int) + 2 - 1) / 2 = n := by omega
    rw [e]
    unfold Builtin.Range.rangeFitsLong
    have h1 : ((n : Nat) : Int) ≤ 100000 := by omega
    simp only [Bool.and_eq_true, decide_eq_true_eq]
    refine ⟨by omega, ?_⟩
    rw [if_pos (by decide), decide_eq_true (show -(2 : Int) ^ 63 ≤ ((2 * n : Nat) : Int) + (2 - 1) by omega), decide_eq_true (show ((2 * n : Nat) : Int) + (2 - 1) < 2 ^ 63 by omega), Bool.and_self, Bool.or_true]
  · rw [PyProof.Rows.rangeSize_pos (by decide) (by omega)]
    omega
theorem x_rng3 {ta : TA} {σ : L2.St} {H : Hp} {R : It → Hp → Prop} (q : ta σ H fun vs H1 => ∃ (i j c : Int) (n : Nat), vs = [.int i, .int j, .int c] ∧ RgC i j c n ∧ R (Itc i c n) H1) : iRng3 ta σ H R := q
theorem natAbs_lt {x P : Int} (h0 : 0 ≤ x) (h : x < P) : x.natAbs < P.natAbs := by omega
theorem take_all {α : Type} (l : List α) : l.take l.length = l := List.take_length
def spVal : Sp := spP 1 (fun vs => ∃ z, vs = [.str z] ∧ z.length ≤ 700 ∧ ∀ c ∈ tl z, isL c) (fun vs v => ∃ z, vs = [.str z] ∧ v = .int (hv 17 0 (codes (tl z))))
abbrev NM_value : List Str := ["letters", "numbers", "power", "letter", "at"]
theorem sc_value : FnScope NM_value ["letters"] (defScope s_value) := ⟨rfl, rfl, rfl, by decide +kernel, rfl, by decide +kernel, by decide +kernel⟩
theorem d_value (F : Fn0 K mg "value" s_value) (T : Txt P w K mg)  :
    Def P w K mg base 1 "value" ["letters"] spVal := by
  refine Def.mk0 F sc_value (by first | exact NF.hl_spB | exact NF.hl_spP | exact NF.hl_spNew | exact NF.hl_spPX | exact NF.hl_spN | exact NF.hl_spNX | exact hl_spVal) (fun _ _ _ _ _ _ us hl => match us, hl with | [_], _ => rfl) (fun cdv A outer s H vs Q E hr h => ?_)
  refine ⟨_, (pss_cons (ps_set (i := 1) sc_value.nd rfl (Or.inr rfl) (pe_lc (own := [("letter", 3)]) (g := gName 3) rfl sc_value.nd (pi_str (pv 0)) (blkOk_by (own := [("letter", 3)]) (N := NM_value) (sc := defScope s_value) (by decide +kernel)) (fun _ _ _ _ _ => (pg_name (i := 3) sc_value.nd rfl (Or.inl rfl))) (fun _ _ _ _ _ => pts_nil) (fun _ _ _ _ _ => (pe_ix (show IxR _ (rIxD K w) from ix_kdict) (pe_clsn T.t__CODES rfl rfl) (pv 3) (fun _ _ => rfl)))))
      (pss_cons (ps_if (pt_not (ptTruth (pv 1) (by intro _; rfl)))
      (pss_one (ps_ret pe_int))
      pss_nil)
      (pss_cons (ps_set (i := 2) sc_value.nd rfl (Or.inr rfl) (pe_g rfl T.g_BASE))
      (pss_cons (ps_while PassesOwn.never (pt_cmpR op_gt (pe_callB (id := "len") callLen (by rfl) T.b_len (by decide +kernel) (pa_cons (pv 1) pa_nil)) pe_int (nomark _))
      (Evl.pss_cut (ps_if (pt_cmpR op_eq (pe_op op_mod (pe_callB (id := "len") callLen (by rfl) T.b_len (by decide +kernel) (pa_cons (pv 1) pa_nil)) pe_int) pe_int (nomark _))
      (pss_one (ps_set (i := 1) sc_value.nd rfl (Or.inr rfl) (pe_op op_cat (pe_lst (pa_cons pe_int pa_nil)) (pv 1))))
      pss_nil)
      (pss_cons (ps_set (i := 1) sc_value.nd rfl (Or.inr rfl) (pe_lc (own := [("at", 4)]) (g := gName 4) rfl sc_value.nd (pi_range3 (by rfl) T.b_range (pa_cons pe_int (pa_cons (pe_callB (id := "len") callLen (by rfl) T.b_len (by decide +kernel) (pa_cons (pv 1) pa_nil)) (pa_cons pe_int pa_nil)))) (blkOk_by (own := [("at", 4)]) (N := NM_value) (sc := defScope s_value) (by decide +kernel)) (fun _ _ _ _ _ => (pg_name (i := 4) sc_value.nd rfl (Or.inl rfl))) (fun _ _ _ _ _ => pts_nil) (fun _ _ _ _ _ => (pe_op op_add (pe_op op_mulW (pe_ix (show IxR _ (rIxL K) from ix_list) (pv 1) (pv 4) (fun _ _ => rfl)) (pv 2)) (pe_ix (show IxR _ (rIxL K) from ix_list) (pv 1) (pe_op op_add (pv 4) pe_int) (fun _ _ => rfl))))))
      (pss_one (ps_set (i := 2) sc_value.nd rfl (Or.inr rfl) (pe_op op_mulW (pv 2) (pv 2)))))))
      (pss_one (ps_ret (pe_ix ix_list (pv 1) pe_int (fun _ _ => rfl)))))))), ?_⟩
  try dsimp only [cxOf, Cx.nox, Cx.wish]
  obtain ⟨hl, ⟨z, rfl, hz, hL⟩, k⟩ := h
  have O := NF.Own.refl0 H
  walk_at "gw"
  have hlz := len_tl z
  have hcl : (codes (tl z)).length = (tl z).length := List.length_map ..
  refine NF.lc_strs O (fun i acc M' => M' = [] ∧ acc = ((codes (tl z)).take i).map V.int) ⟨rfl, rfl⟩ ?_ ?_
  · rintro i c H2 M2 p acc hc hl2 ⟨rfl, rfl⟩ O
    have hc := tl_at hc
    have hcL := hL c (List.mem_of_getElem? hc)
    have hil := (List.getElem?_eq_some_iff.mp hc).1
    walk_at "gw"
    refine x_kd (T.k__CODES c hcL) ?_
    refine NF.lc_done O hl2 (by rw [sizeLine_eq]; omega) ⟨rfl, ?_⟩
    have e : (codes (tl z))[i]? = some (code c) := by unfold codes; rw [List.getElem?_map, hc]; rfl
    rw [take_snoc e, List.map_append]
    rfl
  rintro pn H2 M2 acc hpn hl2 ⟨rfl, rfl⟩ O
  have e0 : z.cps.size = (codes (tl z)).length := by rw [hcl, ← hlz]; rfl
  rw [e0, List.take_length] at O
  walk_at "nO"
  have hbd : ∀ x ∈ codes (tl z), 0 ≤ x ∧ x < 17 ^ 1 := fun x hx => by
    obtain ⟨c, hc, rfl⟩ := List.mem_map.mp hx
    exact code_pos (hL c hc)
  walk_at "gw"
  refine NF.x_itb (fun h => ?_) (fun h => ?_)
  · have he : codes (tl z) = [] := by simpa using h
    walk_at "gw"
    refine k _ _ (O.drop (fun x hx => by rw [List.mem_singleton.mp hx]; exact hpn)) ⟨z, rfl, ?_⟩
    rw [he]
    rfl
  have hne : codes (tl z) ≠ [] := fun e => by rw [e] at h; simp at h
  walk_at "gw"
  refine NF.x_while (fun m σ H' => ∃ (p : Addr) (ns : List Int) (e : Nat) (u3 u4 : Option V) (R : List (Addr × HO)), σ = [some (.str z), some (.ref p), some (.int (17 ^ e)), u3, u4] ∧ Own H H' [] R ∧ (∀ x ∈ R, H x.1 = none) ∧ (p, HO.lst (ns.map V.int)) ∈ R ∧ m = ns.length ∧ ns ≠ [] ∧
    hv (17 ^ e) 0 ns = hv 17 0 (codes (tl z)) ∧ (∀ x ∈ ns, 0 ≤ x ∧ x < 17 ^ e) ∧ 1 ≤ e ∧ e * (ns.length - 1) ≤ 700 ∧ ns.length ≤ 701) (codes (tl z)).length ⟨pn, codes (tl z), 1, _, _, _, rfl, O, fun x hx => by rw [List.mem_singleton.mp hx]; exact hpn, by simp, rfl, hne, rfl, hbd, by decide, by omega, by omega⟩ ?_
  rintro m σ H3 ⟨p, ns, e, u3, u4, R, rfl, O, hR, hp, rfl, hne2, hval, hb, he1, he2, hn7⟩
  have hpH := O.mem hp
  dsimp only at hpH
  walk_at "gw"
  rw [List.length_map]
  refine NF.x_ite (fun h1 => ?_) (fun h1 => ?_)
  rotate_left
  · obtain ⟨x, rfl⟩ : ∃ x, ns = [x] := by
      cases ns with
      | nil => exact absurd rfl hne2
      | cons x l =>
        cases l with
        | nil => exact ⟨x, rfl⟩
        | cons y l => exact absurd (by simp only [List.length_cons]; omega) h1
    walk_at "gw"
    refine k _ _ (O.drop hR) ⟨z, rfl, ?_⟩
    rw [← hval]
    show V.int x = V.int (0 * 17 ^ e + x)
    rw [Int.zero_mul, Int.zero_add]
  refine NF.x_turn ?_
  have he7 : e ≤ 700 := by
    have : e * 1 ≤ e * (ns.length - 1) := Nat.mul_le_mul_left e (by omega)
    omega
  have hpow := pow17_nat (e := e) (n := 700) he7 (by decide)
  refine NF.x_cut (fun σ H' => ∃ (p : Addr) (ms : List Int) (h : Nat) (R : List (Addr × HO)), σ = [some (.str z), some (.ref p), some (.int (17 ^ e)), u3, u4] ∧ Own H H' [] R ∧ (∀ x ∈ R, H x.1 = none) ∧ (p, HO.lst (ms.map V.int)) ∈ R ∧ ms.length = 2 * h ∧ 1 ≤ h ∧ 2 * h ≤ ns.length + 1 ∧
    hv (17 ^ e) 0 ms = hv 17 0 (codes (tl z)) ∧ (∀ x ∈ ms, 0 ≤ x ∧ x < 17 ^ e)) ?_ ?_
  · walk_at "gw"
    rw [List.length_map]
    refine NF.x_iteI (fun h2 => ?_) (fun h2 => ?_)
    · walk_at "gw"
      refine NF.x_newL O (by decide +kernel) fun q1 H4 hq1 O => ?_
      walk_at "gw"
      refine NF.x_cat O O.last (O.mem (x := (p, .lst (ns.map V.int))) (List.mem_append_left _ hp)) (by rw [List.length_map, sizeLine_eq]; simp only [List.length_singleton]; omega) fun q2 H5 hq2 O => ?_
      walk_at "gw"
      refine ⟨q2, 0 :: ns, (ns.length + 1) / 2, _, rfl, O, freshA (freshA hR (fresh1 hq1)) (fresh1 hq2), by simp, by rw [List.length_cons]; omega, by omega, by omega, ?_, fun x hx => ?_⟩
      · rw [← hval]
        show hv (17 ^ e) (0 * 17 ^ e + 0) ns = _
        rw [Int.zero_mul, Int.add_zero]
      · rcases List.mem_cons.mp hx with rfl | hx
        · exact ⟨Int.le_refl _, Int.pow_pos (by decide)⟩
        · exact hb x hx
    · walk_at "gw"
      exact ⟨p, ns, ns.length / 2, R, rfl, O, hR, hp, by omega, by omega, by omega, hval, hb⟩
  · rintro _ H4 ⟨p, ms, hh, R, rfl, O, hR, hp, hms, hh1, hh2, hval, hb⟩
    have hpH := O.mem hp
    dsimp only at hpH
    walk_at "gw"
    refine x_rng3 ?_
    walk_at "gw"
    refine ⟨0, _, 2, hh, rfl, by rw [List.length_map, hms]; exact RgC.two (by omega), ?_⟩
    have hpp : (0 : Int) < 17 ^ e := Int.pow_pos (by decide)
    refine lc_rngC O (fun i acc M' => M' = [] ∧ acc = ((prs (17 ^ e) ms).take i).map V.int) ⟨rfl, rfl⟩ ?_ ?_
    · rintro i H5 M5 q acc hi hl5 ⟨rfl, rfl⟩ O5
      have hpH5 := O5.mem (x := (p, .lst (ms.map V.int))) (List.mem_append_left _ hp)
      dsimp only at hpH5
      obtain ⟨x, hx⟩ : ∃ x, ms[2 * i]? = some x := ⟨_, List.getElem?_eq_getElem (by omega)⟩
      obtain ⟨y, hy⟩ : ∃ x, ms[2 * i + 1]? = some x := ⟨_, List.getElem?_eq_getElem (by omega)⟩
      have hx2 : (ms.map V.int)[2 * i]? = some (.int x) := by rw [List.getElem?_map, hx]; rfl
      have hy2 : (ms.map V.int)[2 * i + 1]? = some (.int y) := by rw [List.getElem?_map, hy]; rfl
      have hbx := hb x (List.mem_of_getElem? hx)
      walk_at "gw"
      refine NF.x_ixL hpH5 (by rw [show (0 + (i : Int) * 2) = ((2 * i : Nat) : Int) by omega]; exact L2.atI_nat hx2) ?_
      walk_at "gw"
      refine NF.x_I (wide_mul (Nat.lt_trans (natAbs_lt hbx.1 hbx.2) hpow) hpow (by decide) (by decide) (by decide)) ?_
      walk_at "gw"
      refine NF.x_ixL hpH5 (by rw [show (0 + (i : Int) * 2 + 1) = ((2 * i + 1 : Nat) : Int) by omega]; exact L2.atI_nat hy2) ?_
      walk_at "gw"
      refine NF.lc_done O5 hl5 (by rw [sizeLine_eq]; omega) ⟨rfl, ?_⟩
      rw [take_snoc (prs_at (17 ^ e) i ms x y hx hy), List.map_append]
      rfl
    rintro q H5 M5 acc hq hl5 ⟨rfl, rfl⟩ O5
    have hpl := prs_len (17 ^ e) hh ms hms
    rw [← hpl, List.take_length] at O5
    walk_at "gw"
    refine NF.x_I (wide_mul hpow hpow (by decide) (by decide) (by decide)) ?_
    walk_at "gw"
    have e2 : (17 : Int) ^ e * 17 ^ e = 17 ^ (e + e) := (Int.pow_add _ _ _).symm
    refine ⟨hh, by omega, q, prs (17 ^ e) ms, e + e, _, _, _, by rw [e2]; rfl, O5, freshA hR (fresh1 hq), by simp, hpl.symm, ?_, ?_, ?_, by omega, ?_, by omega⟩
    · intro e3
      rw [e3] at hpl
      simp at hpl
      omega
    · rw [← e2, hv_prs _ hh ms 0 hms]
      exact hval
    · rw [← e2]
      exact prs_bd hpp ms hb
    · rw [hpl]
      have : (e + e) * (hh - 1) = e * (2 * (hh - 1)) := by rw [← Nat.two_mul, Nat.mul_assoc, Nat.mul_left_comm]
      rw [this]
      exact Nat.le_trans (Nat.mul_le_mul_left e (by omega)) he2


def spWeight : Sp := spP 1 (fun vs => ∃ z, vs = [.str z] ∧ z.length ≤ 700) (fun vs v => ∃ z, vs = [.str z] ∧ v = .int (17 ^ z.length))
abbrev NM_weight : List Str := ["letters", "result", "power", "left"]
theorem sc_weight : FnScope NM_weight ["letters"] (defScope s_weight) := ⟨rfl, rfl, rfl, by decide +kernel, rfl, by decide +kernel, by decide +kernel⟩
theorem d_weight (F : Fn0 K mg "weight" s_weight) (T : Txt P w K mg)  :
    Def P w K mg base 1 "weight" ["letters"] spWeight := by
  refine Def.mk0 F sc_weight (by first | exact NF.hl_spB | exact NF.hl_spP | exact NF.hl_spNew | exact NF.hl_spPX | exact NF.hl_spN | exact NF.hl_spNX | exact hl_spWeight) (fun _ _ _ _ _ _ us hl => match us, hl with | [_], _ => rfl) (fun cdv A outer s H vs Q E hr h => ?_)
  refine ⟨_, (pss_cons (ps_set (i := 1) sc_weight.nd rfl (Or.inl rfl) pe_int)
      (pss_cons (ps_set (i := 2) sc_weight.nd rfl (Or.inl rfl) (pe_g rfl T.g_BASE))
      (pss_cons (ps_set (i := 3) sc_weight.nd rfl (Or.inl rfl) (pe_callB (id := "len") callLen (by rfl) T.b_len (by decide +kernel) (pa_cons (pv 0) pa_nil)))
      (pss_cons (ps_while PassesOwn.never (pt_cmpR op_gt (pv 3) pe_int (nomark _))
      (Evl.pss_cut (ps_if (pt_cmpR op_eq (pe_op op_mod (pv 3) pe_int) pe_int (nomark _))
      (pss_one (ps_set (i := 1) sc_weight.nd rfl (Or.inl rfl) (pe_op op_mulW (pv 1) (pv 2))))
      pss_nil)
      (pss_cons (ps_set (i := 3) sc_weight.nd rfl (Or.inl rfl) (pe_op op_fdivW (pv 3) pe_int))
      (pss_one (ps_if (pt_cmpR op_gt (pv 3) pe_int (nomark _))
      (pss_one (ps_set (i := 2) sc_weight.nd rfl (Or.inl rfl) (pe_op op_mulW (pv 2) (pv 2))))
      pss_nil)))))
      (pss_one (ps_ret (pv 1))))))), ?_⟩
  try dsimp only [cxOf, Cx.nox, Cx.wish]
  obtain ⟨hl, ⟨z, rfl, hz⟩, k⟩ := h
  have O := NF.Own.refl0 H
  walk_at "gw"
  refine NF.x_while (fun m σ H' => ∃ (r e lf : Nat), σ = [some (.str z), some (.int (17 ^ r)), some (.int (17 ^ e)), some (.int lf)] ∧ Own H H' [] [] ∧ m = lf ∧ r + e * lf = z.length ∧ 1 ≤ e) z.length ⟨0, 1, z.length, rfl, O, rfl, by omega, Nat.le_refl _⟩ ?_
  rintro lf σ H3 ⟨r, e, m, rfl, O, em, hs, he⟩
  obtain rfl : lf = m := em
  walk_at "gw"
  refine NF.x_ite (fun h1 => ?_) (fun h1 => ?_)
  rotate_left
  · walk_at "gw"
    have h0 : lf = 0 := by omega
    subst h0
    rw [Nat.mul_zero, Nat.add_zero] at hs
    exact k _ _ O ⟨z, rfl, by rw [hs]⟩
  refine NF.x_turn ?_
  obtain ⟨q, b, rfl, hb⟩ : ∃ q b, lf = q + q + b ∧ b < 2 := ⟨lf / 2, lf % 2, by omega, by omega⟩
  have hs2 : r + (e * q + e * q + e * b) = z.length := by rw [← hs, Nat.mul_add, Nat.mul_add]
  have he7 : e ≤ 700 := by
    have : e * 1 ≤ e * (q + q + b) := Nat.mul_le_mul_left e (by omega)
    omega
  have hpe := pow17_nat (e := e) (n := 700) he7 (by decide)
  have hpr := pow17_nat (e := r) (n := 700) (by omega) (by decide)
  refine NF.x_cut (fun σ H' => σ = [some (.str z), some (.int (17 ^ (r + e * b))), some (.int (17 ^ e)), some (.int ((q + q + b : Nat) : Int))] ∧ Own H H' [] []) ?_ ?_
  · walk_at "gw"
    refine NF.x_iteI (fun h2 => ?_) (fun h2 => ?_)
    · have hb1 : b = 1 := by omega
      subst hb1
      walk_at "gw"
      refine NF.x_I (wide_mul hpr hpe (by decide) (by decide) (by decide)) ?_
      walk_at "gw"
      refine ⟨?_, O⟩
      rw [Nat.mul_one, Int.pow_add]
      rfl
    · have hb0 : b = 0 := by omega
      subst hb0
      walk_at "gw"
      exact ⟨rfl, O⟩
  · rintro _ H4 ⟨rfl, O⟩
    walk_at "gw"
    have e1 : (((q + q + b : Nat) : Int)) / 2 = (q : Int) := by omega
    rw [e1]
    refine NF.x_ite (fun h2 => ?_) (fun h2 => ?_)
    · walk_at "gw"
      refine NF.x_I (wide_mul hpe hpe (by decide) (by decide) (by decide)) ?_
      walk_at "gw"
      have e2 : (17 : Int) ^ e * 17 ^ e = 17 ^ (e + e) := (Int.pow_add _ _ _).symm
      refine ⟨q, by omega, r + e * b, e + e, q, by rw [e2]; rfl, O, rfl, ?_, by omega⟩
      rw [Nat.add_mul]
      omega
    · walk_at "gw"
      have hq : q = 0 := by omega
      subst hq
      exact ⟨0, by omega, r + e * b, e, 0, rfl, O, rfl, by omega, he⟩

def spLWeight : Sp := spP 1 (fun vs => ∃ z, vs = [.str z] ∧ z.length ≤ 700) (fun vs v => ∃ z, vs = [.str z] ∧ v = .int (17 ^ z.length))
abbrev NM_law_weight : List Str := ["letters", "total", "letter"]
theorem sc_law_weight : FnScope NM_law_weight ["letters"] (defScope s_law_weight) := ⟨rfl, rfl, rfl, by decide +kernel, rfl, by decide +kernel, by decide +kernel⟩
theorem d_law_weight (F : Fn0 K mg "_law_weight" s_law_weight) (T : Txt P w K mg)  :
    Def P w K mg base 1 "_law_weight" ["letters"] spLWeight := by
  refine Def.mk0 F sc_law_weight (by first | exact NF.hl_spB | exact NF.hl_spP | exact NF.hl_spNew | exact NF.hl_spPX | exact NF.hl_spN | exact NF.hl_spNX | exact hl_spLWeight) (fun _ _ _ _ _ _ us hl => match us, hl with | [_], _ => rfl) (fun cdv A outer s H vs Q E hr h => ?_)
  refine ⟨_, (pss_cons (ps_set (i := 1) sc_law_weight.nd rfl (Or.inl rfl) pe_int)
      (pss_cons (ps_for PassesOwn.never rfl (pi_str (pv 0)) (pg_name (i := 2) sc_law_weight.nd rfl (Or.inl rfl))
      (pss_one (ps_set (i := 1) sc_law_weight.nd rfl (Or.inl rfl) (pe_op op_mulW (pv 1) pe_int))))
      (pss_one (ps_ret (pv 1))))), ?_⟩
  try dsimp only [cxOf, Cx.nox, Cx.wish]
  obtain ⟨hl, ⟨z, rfl, hz⟩, k⟩ := h
  have O := NF.Own.refl0 H
  walk_at "gw"
  refine NF.f_str (fun i σ H' => ∃ (u2 : Option V), σ = [some (.str z), some (.int (17 ^ i)), u2] ∧ Own H H' [] []) ⟨_, rfl, O⟩ ?_ ?_
  · rintro i c _ H2 hc ⟨u2, rfl, O⟩
    have hi : i < z.length := by rw [len_tl]; exact (List.getElem?_eq_some_iff.mp (tl_at hc)).1
    walk_at "gw"
    refine NF.x_I (wide_mul (pow17_nat (e := i) (n := 700) (by omega) (by decide)) (b := 5) (by decide) (by decide) (by decide) (by decide)) ?_
    walk_at "gw"
    exact ⟨_, rfl, O⟩
  · rintro _ H2 ⟨u2, rfl, O⟩
    walk_at "gw"
    exact k _ _ O ⟨z, rfl, rfl⟩

def spLVal : Sp := spP 1 (fun vs => ∃ z, vs = [.str z] ∧ z.length ≤ 700 ∧ ∀ c ∈ tl z, isL c) (fun vs v => ∃ z, vs = [.str z] ∧ v = .int (hv 17 0 (codes (tl z))))
theorem lo_or_up {c : Nat} (h : isL c) : c = 97 ∨ c = 98 ∨ c = 99 ∨ c = 100 ∨ c = 101 ∨ c = 102 ∨ c = 103 ∨ c = 104 ∨ c = 65 ∨ c = 66 ∨ c = 67 ∨ c = 68 ∨ c = 69 ∨ c = 70 ∨ c = 71 ∨ c = 72 := by
  unfold isL at h
  omega
theorem x_idx16 {c : Nat} {H : Hp} {Q : VK} (h : isL c) (q : Q (.int (code c - 1)) H) : rIndexS (.str (Str.ofString "abcdefghABCDEFGH")) [.str ⟨#[c]⟩] H Q := by
  have go : ∀ n : Nat, Builtin.Str.occurrences (Str.ofString "abcdefghABCDEFGH") ⟨#[c]⟩ 0 (Str.ofString "abcdefghABCDEFGH").length 1 = [n] → code c - 1 = (n : Int) → rIndexS (.str (Str.ofString "abcdefghABCDEFGH")) [.str ⟨#[c]⟩] H Q := fun n h1 h2 =>
    ⟨_, _, n, [], rfl, rfl, h1, by rw [← h2]; exact q⟩
  rcases lo_or_up h with rfl | rfl | rfl | rfl | rfl | rfl | rfl | rfl | rfl | rfl | rfl | rfl | rfl | rfl | rfl | rfl
  · exact go 0 (by decide +kernel) (by decide)
  · exact go 1 (by decide +kernel) (by decide)
  · exact go 2 (by decide +kernel) (by decide)
  · exact go 3 (by decide +kernel) (by decide)
  · exact go 4 (by decide +kernel) (by decide)
  · exact go 5 (by decide +kernel) (by decide)
  · exact go 6 (by decide +kernel) (by decide)
  · exact go 7 (by decide +kernel) (by decide)
  · exact go 8 (by decide +kernel) (by decide)
  · exact go 9 (by decide +kernel) (by decide)
  · exact go 10 (by decide +kernel) (by decide)
  · exact go 11 (by decide +kernel) (by decide)
  · exact go 12 (by decide +kernel) (by decide)
  · exact go 13 (by decide +kernel) (by decide)
  · exact go 14 (by decide +kernel) (by decide)
  · exact go 15 (by decide +kernel) (by decide)
theorem hv_snoc (b t : Int) (l : List Int) (d : Int) : hv b t (l ++ [d]) = hv b t l * b + d := by
  unfold hv
  rw [List.foldl_append]
  rfl
theorem hv_bd : ∀ (l : List Int), (∀ x ∈ l, 0 ≤ x ∧ x < 17) → ∀ (t : Int) (e : Nat), 0 ≤ t → t < 17 ^ e → 0 ≤ hv 17 t l ∧ hv 17 t l < 17 ^ (e + l.length)
  | [], _, t, e, h0, h1 => ⟨h0, h1⟩
  | x :: l, h, t, e, h0, h1 => by
    have hx := h x (List.mem_cons_self ..)
    have := hv_bd l (fun y hy => h y (List.mem_cons_of_mem _ hy)) (t * 17 + x) (e + 1) (by omega) (by rw [Int.pow_succ]; omega)
    rw [List.length_cons, show e + (l.length + 1) = e + 1 + l.length by omega]
    exact this
abbrev NM_law_value : List Str := ["letters", "total", "letter"]
theorem sc_law_value : FnScope NM_law_value ["letters"] (defScope s_law_value) := ⟨rfl, rfl, rfl, by decide +kernel, rfl, by decide +kernel, by decide +kernel⟩
theorem d_law_value (F : Fn0 K mg "_law_value" s_law_value) (T : Txt P w K mg)  :
    Def P w K mg base 1 "_law_value" ["letters"] spLVal := by
  refine Def.mk0 F sc_law_value (by first | exact NF.hl_spB | exact NF.hl_spP | exact NF.hl_spNew | exact NF.hl_spPX | exact NF.hl_spN | exact NF.hl_spNX | exact hl_spLVal) (fun _ _ _ _ _ _ us hl => match us, hl with | [_], _ => rfl) (fun cdv A outer s H vs Q E hr h => ?_)
  refine ⟨_, (pss_cons (ps_set (i := 1) sc_law_value.nd rfl (Or.inl rfl) pe_int)
      (pss_cons (ps_for PassesOwn.never rfl (pi_str (pv 0)) (pg_name (i := 2) sc_law_value.nd rfl (Or.inl rfl))
      (pss_one (ps_set (i := 1) sc_law_value.nd rfl (Or.inl rfl) (pe_op op_add (pe_op op_add (pe_op op_mulW (pv 1) pe_int) (pe_bm PySem.F.plainAttrs_str PySem.F.slot_str_index PySem.F.type_str_index mtIndex pe_str (pa_cons (pv 2) pa_nil))) pe_int))))
      (pss_one (ps_ret (pv 1))))), ?_⟩
  try dsimp only [cxOf, Cx.nox, Cx.wish]
  obtain ⟨hl, ⟨z, rfl, hz, hL⟩, k⟩ := h
  have O := NF.Own.refl0 H
  walk_at "gw"
  refine NF.f_str (fun i σ H' => ∃ (u2 : Option V), σ = [some (.str z), some (.int (hv 17 0 ((codes (tl z)).take i))), u2] ∧ Own H H' [] []) ⟨_, rfl, O⟩ ?_ ?_
  · rintro i c _ H2 hc ⟨u2, rfl, O⟩
    have hc := tl_at hc
    have hcL := hL c (List.mem_of_getElem? hc)
    have hi : i < z.length := by rw [len_tl]; exact (List.getElem?_eq_some_iff.mp hc).1
    have e : (codes (tl z))[i]? = some (code c) := by unfold codes; rw [List.getElem?_map, hc]; rfl
    have hbd := hv_bd ((codes (tl z)).take i) (fun x hx => by
      obtain ⟨c, hc, rfl⟩ := List.mem_map.mp (List.mem_of_mem_take hx)
      exact code_pos (hL c hc)) 0 0 (by decide) (by decide)
    have hlen : ((codes (tl z)).take i).length ≤ 700 := by rw [List.length_take]; omega
    have hn := Nat.lt_trans (natAbs_lt hbd.1 hbd.2) (pow17_nat (n := 700) (by omega) (by decide))
    walk_at "gw"
    refine NF.x_I (wide_mul hn (b := 5) (by decide) (by decide) (by decide) (by decide)) ?_
    walk_at "gw"
    refine x_idx16 hcL ?_
    walk_at "gw"
    refine ⟨some (.str ⟨#[c]⟩), ?_, O⟩
    rw [take_snoc e, hv_snoc, show hv 17 0 ((codes (tl z)).take i) * 17 + code c = hv 17 0 ((codes (tl z)).take i) * 17 + (code c - 1) + 1 by omega]
    rfl
  · rintro _ H2 ⟨u2, rfl, O⟩
    walk_at "gw"
    refine k _ _ O ⟨z, rfl, ?_⟩
    have e0 : z.cps.size = (codes (tl z)).length := by unfold codes; rw [List.length_map, ← len_tl]; rfl
    rw [e0, List.take_length]

def spNum : Sp := spP 1 (fun vs => ∃ i : Int, vs = [.int i]) (fun vs v => v = .bl true)
abbrev NM_law_number : List Str := ["told"]
theorem sc_law_number : FnScope NM_law_number ["told"] (defScope s_law_number) := ⟨rfl, rfl, rfl, by decide +kernel, rfl, by decide +kernel, by decide +kernel⟩
theorem d_law_number (F : Fn0 K mg "_law_number" s_law_number) (T : Txt P w K mg)  :
    Def P w K mg base 1 "_law_number" ["told"] spNum := by
  refine Def.mk0 F sc_law_number (by first | exact NF.hl_spB | exact NF.hl_spP | exact NF.hl_spNew | exact NF.hl_spPX | exact NF.hl_spN | exact NF.hl_spNX | exact hl_spNum) (fun _ _ _ _ _ _ us hl => match us, hl with | [_], _ => rfl) (fun cdv A outer s H vs Q E hr h => ?_)
  refine ⟨_, (pss_one (ps_ret (pe_and (pe_callB callIsT (by rfl) T.b_isinstance (by decide +kernel) (pa_cons (pv 0) (pa_cons (pe_ty (n := "int") (by rfl) T.b_int (by decide +kernel)) pa_nil))) (pe_one (pe_not (pe_callB callIsT (by rfl) T.b_isinstance (by decide +kernel) (pa_cons (pv 0) (pa_cons (pe_ty (n := "bool") (by rfl) T.b_bool (by decide +kernel)) pa_nil)))))))), ?_⟩
  try dsimp only [cxOf, Cx.nox, Cx.wish]
  obtain ⟨hl, ⟨i, rfl⟩, k⟩ := h
  have O := NF.Own.refl0 H
  walk_at "go"
  exact k _ _ O rfl

def spSame : Sp := spP 2 (fun vs => ∃ i : Bool, vs = [.bl i, .bl i]) (fun vs v => v = .bl true)
abbrev NM_law_same : List Str := ["told", "due"]
theorem sc_law_same : FnScope NM_law_same ["told", "due"] (defScope s_law_same) := ⟨rfl, rfl, rfl, by decide +kernel, rfl, by decide +kernel, by decide +kernel⟩
theorem d_law_same (F : Fn0 K mg "_law_same" s_law_same) (T : Txt P w K mg)  :
    Def P w K mg base 1 "_law_same" ["told", "due"] spSame := by
  refine Def.mk0 F sc_law_same (by first | exact NF.hl_spB | exact NF.hl_spP | exact NF.hl_spNew | exact NF.hl_spPX | exact NF.hl_spN | exact NF.hl_spNX | exact hl_spSame) (fun _ _ _ _ _ _ us hl => match us, hl with | [_, _], _ => rfl) (fun cdv A outer s H vs Q E hr h => ?_)
  refine ⟨_, (pss_one (ps_ret (pe_and (pe_callB callIsT (by rfl) T.b_isinstance (by decide +kernel) (pa_cons (pv 0) (pa_cons (pe_ty (n := "bool") (by rfl) T.b_bool (by decide +kernel)) pa_nil))) (pe_one (pe_cmpR op_eq (pv 0) (pv 1) (nomark _)))))), ?_⟩
  try dsimp only [cxOf, Cx.nox, Cx.wish]
  obtain ⟨hl, ⟨i, rfl⟩, k⟩ := h
  have O := NF.Own.refl0 H
  walk_at "go"
  rw [decide_eq_true rfl]
  exact k _ _ O rfl

def spAgree : Sp := spP 1 (fun vs => ∃ z, vs = [.str z] ∧ z.length ≤ 700 ∧ ∀ c ∈ tl z, isL c) (fun vs v => v = .bl true)
abbrev NM_law_letters_agree : List Str := ["letters", "told"]
theorem sc_law_letters_agree : FnScope NM_law_letters_agree ["letters"] (defScope s_law_letters_agree) := ⟨rfl, rfl, rfl, by decide +kernel, rfl, by decide +kernel, by decide +kernel⟩
theorem d_law_letters_agree (F : Fn0 K mg "_law_letters_agree" s_law_letters_agree) (T : Txt P w K mg) (D_value : Def P w K mg base 1 "value" ["letters"] spVal) (D_weight : Def P w K mg base 1 "weight" ["letters"] spWeight) (D_law_number : Def P w K mg base 1 "_law_number" ["told"] spNum) (D_law_value : Def P w K mg base 1 "_law_value" ["letters"] spLVal) (D_law_weight : Def P w K mg base 1 "_law_weight" ["letters"] spLWeight) :
    Def P w K mg base 2 "_law_letters_agree" ["letters"] spAgree := by
  refine Def.mk0 F sc_law_letters_agree (by first | exact NF.hl_spB | exact NF.hl_spP | exact NF.hl_spNew | exact NF.hl_spPX | exact NF.hl_spN | exact NF.hl_spNX | exact hl_spAgree) (fun _ _ _ _ _ _ us hl => match us, hl with | [_], _ => rfl) (fun cdv A outer s H vs Q E hr h => ?_)
  refine ⟨_, (pss_cons (ps_set (i := 1) sc_law_letters_agree.nd rfl (Or.inl rfl) (pe_d D_value (hr.mono (by decide)) rfl (pa_cons (pv 0) pa_nil)))
      (pss_cons (ps_if (PW.pt (pw_or (pt_not (pt_val (pe_d D_law_number (hr.mono (by decide)) rfl (pa_cons (pv 1) pa_nil)))) (pw_or1 (pt_cmpR op_ne (pv 1) (pe_d D_law_value (hr.mono (by decide)) rfl (pa_cons (pv 0) pa_nil)) (nomark _)))))
      (pss_one (ps_ret pe_bl))
      pss_nil)
      (pss_cons (ps_set (i := 1) sc_law_letters_agree.nd rfl (Or.inl rfl) (pe_d D_weight (hr.mono (by decide)) rfl (pa_cons (pv 0) pa_nil)))
      (pss_one (ps_ret (pe_and (pe_d D_law_number (hr.mono (by decide)) rfl (pa_cons (pv 1) pa_nil)) (pe_one (pe_cmpR op_eq (pv 1) (pe_d D_law_weight (hr.mono (by decide)) rfl (pa_cons (pv 0) pa_nil)) (nomark _))))))))), ?_⟩
  try dsimp only [cxOf, Cx.nox, Cx.wish]
  obtain ⟨hl, ⟨z, rfl, hz, hL⟩, k⟩ := h
  have O := NF.Own.refl0 H
  walk_at "gw"
  refine NF.use_spP (E := E0) O rfl ⟨z, rfl, hz, hL⟩ fun v H1 O ⟨z2, ez, ev⟩ => ?_
  cases ez
  subst ev
  walk_at "gw"
  refine NF.use_spP (E := E0) O rfl ⟨_, rfl⟩ fun v H1 O ev => ?_
  subst ev
  walk_at "gw"
  refine NF.use_spP (E := E0) O rfl ⟨z, rfl, hz, hL⟩ fun v H1 O ⟨z2, ez, ev⟩ => ?_
  cases ez
  subst ev
  walk_at "gw"
  refine NF.x_itnI (fun h => absurd rfl h) (fun _ => ?_)
  walk_at "gw"
  refine NF.use_spP (E := E0) O rfl ⟨z, rfl, hz⟩ fun v H1 O ⟨z2, ez, ev⟩ => ?_
  cases ez
  subst ev
  walk_at "gw"
  refine NF.use_spP (E := E0) O rfl ⟨_, rfl⟩ fun v H1 O ev => ?_
  subst ev
  walk_at "gw"
  refine NF.use_spP (E := E0) O rfl ⟨z, rfl, hz⟩ fun v H1 O ⟨z2, ez, ev⟩ => ?_
  cases ez
  subst ev
  walk_at "gw"
  rw [decide_eq_true rfl]
  exact k _ _ O rfl

/-! the law's box: the digits, two numbers -/
def BxD (a : Addr) (M : List (Addr × HO)) : Prop := ∃ (x1 x2 x3 : Int), M = [(a, .lst [.int x1, .int x2, .int x3])] ∧ 0 ≤ x2 ∧ x2 < 8589934592
theorem mod_hi {i j : Int} (h : 0 < j) : 0 ≤ i % j ∧ i % j < j := ⟨Int.emod_nonneg _ (by omega), Int.emod_lt_of_pos _ h⟩
def spDraw : Sp := spB 1 BxD (fun r => ∃ many, r = [.int many] ∧ 0 < many ∧ many.natAbs.log2 < 9000) (fun r v => ∃ many d, r = [.int many] ∧ v = .int d ∧ 0 ≤ d ∧ d < many)
abbrev NM_law_take : List Str := ["box", "size", "digit", "mixed"]
theorem sc_law_take : FnScope NM_law_take ["box", "size"] (defScope s_law_take) := ⟨rfl, rfl, rfl, by decide +kernel, rfl, by decide +kernel, by decide +kernel⟩
theorem d_law_take (F : Fn0 K mg "_law_take" s_law_take) (T : Txt P w K mg)  :
    Def P w K mg base 1 "_law_take" ["box", "size"] spDraw := by
  refine Def.mk0 F sc_law_take (by first | exact NF.hl_spB | exact NF.hl_spP | exact NF.hl_spNew | exact NF.hl_spPX | exact NF.hl_spN | exact NF.hl_spNX | exact hl_spDraw) (fun _ _ _ _ _ _ us hl => match us, hl with | [_, _], _ => rfl) (fun cdv A outer s H vs Q E hr h => ?_)
  refine ⟨_, (pss_cons (ps_if (pt_cmpR op_gt (pe_ix ix_list (pv 0) pe_int (fun _ _ => rfl)) pe_int (nomark _))
      (pss_cons (ps_set (i := 2) sc_law_take.nd rfl (Or.inl rfl) (pe_op op_mod (pe_callTy (T := "int") callInt (by rfl) T.b_int (by decide +kernel) (pa_cons (pe_ix ix_list (pv 0) pe_int (fun _ _ => rfl)) pa_nil)) (pv 1)))
      (pss_cons (ps_asg (pe_op op_fdivW (pe_callTy (T := "int") callInt (by rfl) T.b_int (by decide +kernel) (pa_cons (pe_ix ix_list (pv 0) pe_int (fun _ _ => rfl)) pa_nil)) (pv 1)) (pg_sub (pv 0) pe_int set_list))
      (pss_one (ps_ret (pv 2)))))
      pss_nil)
      (pss_cons (ps_asg (pe_op op_add (pe_ix ix_list (pv 0) pe_int (fun _ _ => rfl)) pe_int) (pg_sub (pv 0) pe_int set_list))
      (pss_cons (ps_set (i := 3) sc_law_take.nd rfl (Or.inl rfl) (pe_op op_mod (pe_callTy (T := "int") callInt (by rfl) T.b_int (by decide +kernel) (pa_cons (pe_op op_add (pe_op op_add (pe_op op_mul (pe_ix ix_list (pv 0) pe_int (fun _ _ => rfl)) pe_int) (pe_op op_mul (pe_ix ix_list (pv 0) pe_int (fun _ _ => rfl)) pe_int)) pe_int) pa_nil)) pe_int))
      (pss_cons (ps_set (i := 3) sc_law_take.nd rfl (Or.inl rfl) (pe_op op_mod (pe_callTy (T := "int") callInt (by rfl) T.b_int (by decide +kernel) (pa_cons (pe_op op_add (pe_op op_mul (pv 3) (pe_op op_add (pe_op op_mod (pe_callTy (T := "int") callInt (by rfl) T.b_int (by decide +kernel) (pa_cons (pv 3) pa_nil)) pe_int) pe_int)) (pe_op op_mul (pe_ix ix_list (pv 0) pe_int (fun _ _ => rfl)) pe_int)) pa_nil)) pe_int))
      (pss_one (ps_ret (pe_op op_mod (pe_op op_fdivW (pe_callTy (T := "int") callInt (by rfl) T.b_int (by decide +kernel) (pa_cons (pv 3) pa_nil)) pe_int) (pv 1)))))))), ?_⟩
  try dsimp only [cxOf, Cx.nox, Cx.wish]
  obtain ⟨a, A, M, rest, rfl, hl, ⟨⟨x1, x2, x3, rfl, h1, h2⟩, rfl⟩, O, ⟨many, rfl, hm, hml⟩, k⟩ := h
  have O := O.opened
  walk_at "go"
  refine NF.x_ite (fun h0 => ?_) (fun h0 => ?_)
  · walk_at "go"
    have q := mod_hi (i := x1) hm
    exact k _ _ _ ⟨⟨x1 / many, x2, x3, rfl, h1, h2⟩, rfl⟩ O.closed ⟨many, _, rfl, rfl, q.1, q.2⟩
  · walk_at "go"
    exact k _ _ _ ⟨⟨x1, x2, x3 + 1, rfl, h1, h2⟩, rfl⟩ O.closed ⟨many, _, rfl, rfl, (mod_hi hm).1, (mod_hi hm).2⟩


section
variable {B H : Hp} {M R : List (Addr × HO)} {a : Addr} {Q : VK} {E : XK}
theorem log2_small {m : Int} (h : m ≤ 1000000) (h0 : 0 < m) : m.natAbs.log2 < 9000 := by
  have h1 : m.natAbs < 2 ^ 20 := by omega
  have := PySem.Flt.log2_lt_of (show 0 < 20 by decide) h1
  omega
theorem x_draw {many : Int} (O : Own B H M R) {A : List Addr} (hB : In BxD a A M) (h0 : 0 < many) (h1 : many ≤ 1000000) (q : ∀ d H1 M1, 0 ≤ d → d < many → In BxD a A M1 → Own B H1 M1 R → Q (.int d) H1) : spDraw ([.ref a, .int many] ++ []) H Q E :=
  use_spB (rest := [.int many]) O hB rfl ⟨many, rfl, h0, log2_small h1 h0⟩ fun v H' M' hB' O' ⟨m2, d, e, ev, d0, d1⟩ => by
    cases e
    subst ev
    exact q d H' M' d0 d1 hB' O'
end
/-- a def of the box that makes a text of which P holds -/
def spTx (n : Nat) (pre : List V → Prop) (P : List V → Str → Prop) : Sp := spB n BxD pre (fun r v => ∃ z, v = .str z ∧ P r z)
theorem x_tx {B H : Hp} {M R : List (Addr × HO)} {a : Addr} {Q : VK} {E : XK} {n : Nat} {pre : List V → Prop} {P : List V → Str → Prop} {rest : List V} (O : Own B H M R) {A : List Addr} (hB : In BxD a A M) (hl : rest.length = n) (hp : pre rest)
    (q : ∀ z H1 M1, P rest z → In BxD a A M1 → Own B H1 M1 R → Q (.str z) H1) : spTx n pre P (.ref a :: rest) H Q E :=
  use_spB O hB hl hp fun v H' M' hB' O' ⟨z, e, h⟩ => by
    subst e
    exact q z H' M' h hB' O'
theorem sql_keep {K : PySem.W.Frag} {B H : Hp} {M R : List (Addr × HO)} {a : Addr} {xs : List V} (h : SqL K B a xs) (O : Own B H M R) (hM : ∀ x ∈ M, B x.1 = none) (hR : ∀ x ∈ R, B x.1 = none) : SqL K H a xs := by
  have key : ∀ u, B a = some u → H a = some u := fun u e => O.out a (fun q => by
    rw [List.map_append] at q
    rcases List.mem_append.mp q with q | q
    · obtain ⟨x, hx, ex⟩ := List.mem_map.mp q
      have := hM x hx
      rw [ex, e] at this
      cases this
    · obtain ⟨x, hx, ex⟩ := List.mem_map.mp q
      have := hR x hx
      rw [ex, e] at this
      cases this) _ e
  rcases h with (h | ⟨o, h⟩) | h
  · exact .inl (.inl (key _ h))
  · exact .inl (.inr ⟨o, key _ h⟩)
  · exact .inr h
def spBox (K : PySem.W.Frag) : Sp := fun vs H Q _ => ∃ (a : Addr) (ns : List Int) (kk : Nat), vs = [.ref a, .int kk] ∧ SqL K H a (ns.map V.int) ∧ ns.length ≤ 63 ∧ kk ≤ 2 ∧ ∀ b H' M', BxD b M' → (∀ x ∈ M', H x.1 = none) → Own H H' M' [] → Q (.ref b) H'
theorem hl_spBox {K : PySem.W.Frag} : ∀ vs H Q E, spBox K vs H Q E → vs.length = 2 := fun vs H Q E h => by
  obtain ⟨a, ns, kk, rfl, _⟩ := h
  rfl
theorem x_lenSq {K : PySem.W.Frag} {H : Hp} {a : Addr} {xs : List V} {Q : VK} (h : SqL K H a xs) (q : Q (.int xs.length) H) : rLen K [.ref a] H Q := ⟨.ref a, _, rfl, .inl ⟨xs, h, rfl⟩, q⟩
theorem x_ixSq {K : PySem.W.Frag} {H : Hp} {a : Addr} {xs : List V} {i : Int} {v : V} {Q : VK} (h : SqL K H a xs) (hv : atI xs i = some v) (q : Q v H) : rIxL K (.ref a) (.int i) H Q := ⟨a, xs, i, v, rfl, rfl, h, hv, q⟩
abbrev NM_law_box : List Str := ["script", "k", "cell", "digits"]
theorem sc_law_box : FnScope NM_law_box ["script", "k"] (defScope s_law_box) := ⟨rfl, rfl, rfl, by decide +kernel, rfl, by decide +kernel, by decide +kernel⟩
theorem d_law_box (F : Fn0 K mg "_law_box" s_law_box) (T : Txt P w K mg)  :
    Def P w K mg base 1 "_law_box" ["script", "k"] (spBox K) := by
  refine Def.mk0 F sc_law_box (by first | exact NF.hl_spB | exact NF.hl_spP | exact NF.hl_spNew | exact NF.hl_spPX | exact NF.hl_spN | exact NF.hl_spNX | exact hl_spBox) (fun _ _ _ _ _ _ us hl => match us, hl with | [_, _], _ => rfl) (fun cdv A outer s H vs Q E hr h => ?_)
  refine ⟨_, (Evl.pss_cut (ps_if (pt_cmpR op_lt (pv 1) (pe_callB (id := "len") callLen (by rfl) T.b_len (by decide +kernel) (pa_cons (pv 0) pa_nil)) (nomark _))
      (pss_one (ps_set (i := 2) sc_law_box.nd rfl (Or.inl rfl) (pe_callTy (T := "int") callInt (by rfl) T.b_int (by decide +kernel) (pa_cons (pe_ix ix_list (pv 0) (pv 1) (fun _ _ => rfl)) pa_nil))))
      (pss_one (ps_set (i := 2) sc_law_box.nd rfl (Or.inl rfl) (pe_op op_add (pe_op op_mod (pe_callTy (T := "int") callInt (by rfl) T.b_int (by decide +kernel) (pa_cons (pe_callB (id := "sum") (cr_sum rfl) (by rfl) T.b_sum (by decide +kernel) (pa_cons (pv 0) pa_nil)) pa_nil)) pe_int) (pe_op op_mul pe_int (pv 1))))))
      (Evl.pss_cut (ps_if (pt_cmpR op_lt (pv 2) pe_int (nomark _))
      (pss_one (ps_set (i := 2) sc_law_box.nd rfl (Or.inl rfl) (pe_op op_sub pe_int (pe_op op_mul pe_int (pv 2)))))
      pss_nil)
      (pss_cons (ps_set (i := 3) sc_law_box.nd rfl (Or.inl rfl) pe_int)
      (Evl.pss_cut (ps_if (pt_cmpR op_ge (pv 2) (pe_op op_pow pe_int pe_int) (nomark _))
      (pss_one (ps_set (i := 3) sc_law_box.nd rfl (Or.inl rfl) (pv 2)))
      pss_nil)
      (pss_one (ps_ret (pe_lst (pa_cons (pv 3) (pa_cons (pe_op op_add (pe_op op_add (pe_op op_mod (pe_callTy (T := "int") callInt (by rfl) T.b_int (by decide +kernel) (pa_cons (pv 2) pa_nil)) pe_int) (pe_op op_mul pe_int (pv 1))) pe_int) (pa_cons pe_int pa_nil)))))))))), ?_⟩
  try dsimp only [cxOf, Cx.nox, Cx.wish]
  obtain ⟨a, ns, kk, rfl, hS, hns, hk2, k⟩ := h
  have O := NF.Own.refl0 H
  have hS1 : ∀ H', Own H H' [] [] → SqL K H' a (ns.map V.int) := fun H' O => sql_keep hS O (fun x hx => absurd hx List.not_mem_nil) (fun x hx => absurd hx List.not_mem_nil)
  walk_at "gw"
  refine NF.x_cut (fun σ H' => ∃ (ce : Int), σ = [some (.ref a), some (.int kk), some (.int ce), none] ∧ Own H H' [] []) ?_ ?_
  · walk_at "gw"
    refine x_lenSq hS ?_
    walk_at "gw"
    rw [List.length_map]
    refine NF.x_ite (fun h0 => ?_) (fun h0 => ?_)
    · obtain ⟨n, hn⟩ : ∃ n, ns[kk]? = some n := ⟨_, List.getElem?_eq_getElem (by omega)⟩
      walk_at "gw"
      refine x_ixSq hS (L2.atI_nat (v := .int n) (by rw [List.getElem?_map, hn]; rfl)) ?_
      walk_at "gw"
      exact ⟨n, rfl, O⟩
    · walk_at "gw"
      refine ⟨a, ns, rfl, hS, ?_⟩
      walk_at "gw"
      exact ⟨_, rfl, O⟩
  · rintro _ H2 ⟨ce, rfl, O⟩
    walk_at "gw"
    refine NF.x_cut (fun σ H' => ∃ (ce : Int), σ = [some (.ref a), some (.int kk), some (.int ce), none] ∧ Own H H' [] []) ?_ ?_
    · walk_at "gw"
      refine NF.x_ite (fun h0 => ?_) (fun h0 => ?_)
      · walk_at "gw"
        exact ⟨_, rfl, O⟩
      · walk_at "gw"
        exact ⟨_, rfl, O⟩
    · rintro _ H2 ⟨ce, rfl, O⟩
      walk_at "gw"
      refine NF.x_cut (fun σ H' => ∃ (dg : Int), σ = [some (.ref a), some (.int kk), some (.int ce), some (.int dg)] ∧ Own H H' [] []) ?_ ?_
      · walk_at "gw"
        refine NF.x_ite (fun h0 => ?_) (fun h0 => ?_)
        · walk_at "gw"
          exact ⟨_, rfl, O⟩
        · walk_at "gw"
          exact ⟨_, rfl, O⟩
      · rintro _ H2 ⟨dg, rfl, O⟩
        have q := mod_hi (i := ce) (j := 2147483587) (by decide)
        walk_at "gw"
        refine NF.x_newL O (by walk_at "len") fun p H3 hp O => ?_
        exact k p H3 [(p, _)] ⟨dg, _, 0, rfl, by omega, by omega⟩ (fresh1 hp) O.closed

theorem len16 : (Str.ofString "abcdefghABCDEFGH").length = 16 := by decide +kernel
theorem tl16 : tl (Str.ofString "abcdefghABCDEFGH") = [97, 98, 99, 100, 101, 102, 103, 104, 65, 66, 67, 68, 69, 70, 71, 72] := by rw [tl_ofString]; decide +kernel
theorem mem16 {c : Nat} (h : c ∈ tl (Str.ofString "abcdefghABCDEFGH")) : isL c := by
  rw [tl16] at h
  simp only [List.mem_cons, List.not_mem_nil, or_false] at h
  unfold isL
  omega
def spLetters : Sp := spTx 1 (fun r => ∃ most : Int, r = [.int most] ∧ 0 ≤ most ∧ most ≤ 100) (fun r z => ∃ most : Int, r = [.int most] ∧ z.length ≤ most.toNat ∧ ∀ c ∈ tl z, isL c)
abbrev NM_law_letters : List Str := ["box", "most", "letters", "k"]
theorem sc_law_letters : FnScope NM_law_letters ["box", "most"] (defScope s_law_letters) := ⟨rfl, rfl, rfl, by decide +kernel, rfl, by decide +kernel, by decide +kernel⟩
theorem d_law_letters (F : Fn0 K mg "_law_letters" s_law_letters) (T : Txt P w K mg) (D_law_take : Def P w K mg base 1 "_law_take" ["box", "size"] spDraw) :
    Def P w K mg base 2 "_law_letters" ["box", "most"] spLetters := by
  refine Def.mk0 F sc_law_letters (by first | exact NF.hl_spB | exact NF.hl_spP | exact NF.hl_spNew | exact NF.hl_spPX | exact NF.hl_spN | exact NF.hl_spNX | exact hl_spLetters) (fun _ _ _ _ _ _ us hl => match us, hl with | [_, _], _ => rfl) (fun cdv A outer s H vs Q E hr h => ?_)
  refine ⟨_, (pss_cons (ps_set (i := 2) sc_law_letters.nd rfl (Or.inl rfl) pe_str)
      (pss_cons (ps_for PassesOwn.never rfl (pi_range1 (by rfl) T.b_range (pa_cons (pe_d D_law_take (hr.mono (by decide)) rfl (pa_cons (pv 0) (pa_cons (pe_op op_add (pv 1) pe_int) pa_nil))) pa_nil)) (pg_name (i := 3) sc_law_letters.nd rfl (Or.inl rfl))
      (pss_one (ps_set (i := 2) sc_law_letters.nd rfl (Or.inl rfl) (pe_op opAddS (pv 2) (pe_ix ix_str pe_str (pe_d D_law_take (hr.mono (by decide)) rfl (pa_cons (pv 0) (pa_cons pe_int pa_nil))) (fun _ _ => rfl))))))
      (pss_one (ps_ret (pv 2))))), ?_⟩
  try dsimp only [cxOf, Cx.nox, Cx.wish]
  obtain ⟨a, A, M, rest, rfl, hl, hB, O, ⟨most, rfl, hm0, hm1⟩, k⟩ := h
  walk_at "gw"
  refine x_draw O hB (by omega) (by omega) fun n H1 M1 n0 n1 hB O => ?_
  walk_at "gw"
  refine NF.f_rng1 ⟨by omega, by omega⟩ (fun i σ H' => ∃ (u3 : Option V) (z : Str) (M' : List (Addr × HO)), σ = [some (.ref a), some (.int most), some (.str z), u3] ∧ In BxD a A M' ∧ Own H H' M' [] ∧ z.length ≤ i ∧ ∀ c ∈ tl z, isL c) ⟨_, _, _, rfl, hB, O, Nat.le_refl _, fun c hc => by
    have e : tl (Str.ofString "") = [] := by rw [tl_ofString]; decide +kernel
    rw [e] at hc
    exact absurd hc List.not_mem_nil⟩ ?_ ?_
  · rintro i _ H2 hi ⟨u3, z, M2, rfl, hB, O, hzl, hL⟩
    walk_at "gw"
    refine x_draw O hB (by decide) (by decide) fun d H1 M1 d0 d1 hB O => ?_
    walk_at "gw"
    refine NF.x_ixSo d0 (by rw [len16]; exact d1) (by rw [len16, sizeLine_eq]; decide) fun c _ _ hc => ?_
    walk_at "gw"
    refine ⟨_, _, _, rfl, hB, O, by rw [len_app, len_ch]; omega, fun x hx => ?_⟩
    rw [tl_append] at hx
    rcases List.mem_append.mp hx with hx | hx
    · exact hL x hx
    · have e : x = c := by simpa using hx
      rw [e]
      exact mem16 hc
  · rintro _ H2 ⟨u3, z, M2, rfl, hB, O, hzl, hL⟩
    walk_at "gw"
    exact k _ _ _ hB O ⟨_, rfl, most, rfl, by omega, hL⟩

/-- an entry -/
abbrev EB : Int := 17 ^ 24
def spEntry : Sp := spB 1 BxD (fun r => ∃ g : Int, r = [.int g]) (fun _ v => ∃ n : Int, v = .int n ∧ -EB ≤ n ∧ n ≤ EB)
abbrev NM_law_entry : List Str := ["box", "great", "letters", "sign"]
theorem sc_law_entry : FnScope NM_law_entry ["box", "great"] (defScope s_law_entry) := ⟨rfl, rfl, rfl, by decide +kernel, rfl, by decide +kernel, by decide +kernel⟩
theorem d_law_entry (F : Fn0 K mg "_law_entry" s_law_entry) (T : Txt P w K mg) (D_law_letters : Def P w K mg base 2 "_law_letters" ["box", "most"] spLetters) (D_law_take : Def P w K mg base 1 "_law_take" ["box", "size"] spDraw) (D_law_weight : Def P w K mg base 1 "_law_weight" ["letters"] spLWeight) (D_law_value : Def P w K mg base 1 "_law_value" ["letters"] spLVal) :
    Def P w K mg base 3 "_law_entry" ["box", "great"] spEntry := by
  refine Def.mk0 F sc_law_entry (by first | exact NF.hl_spB | exact NF.hl_spP | exact NF.hl_spNew | exact NF.hl_spPX | exact NF.hl_spN | exact NF.hl_spNX | exact hl_spEntry) (fun _ _ _ _ _ _ us hl => match us, hl with | [_, _], _ => rfl) (fun cdv A outer s H vs Q E hr h => ?_)
  refine ⟨_, (pss_cons (ps_if (pt_cmpR op_eq (pv 1) pe_int (nomark _))
      (pss_one (ps_ret (pe_op op_sub (pe_d D_law_take (hr.mono (by decide)) rfl (pa_cons (pv 0) (pa_cons pe_int pa_nil))) pe_int)))
      pss_nil)
      (pss_cons (ps_set (i := 2) sc_law_entry.nd rfl (Or.inl rfl) (pe_d D_law_letters (hr.mono (by decide)) rfl (pa_cons (pv 0) (pa_cons pe_int pa_nil))))
      (pss_cons (ps_set (i := 3) sc_law_entry.nd rfl (Or.inl rfl) (pe_op op_sub pe_int (pe_op op_mul pe_int (pe_d D_law_take (hr.mono (by decide)) rfl (pa_cons (pv 0) (pa_cons pe_int pa_nil))))))
      (pss_cons (ps_if (pt_cmpR op_eq (pe_d D_law_take (hr.mono (by decide)) rfl (pa_cons (pv 0) (pa_cons pe_int pa_nil))) pe_int (nomark _))
      (pss_one (ps_ret (pe_op op_mul (pv 3) (pe_d D_law_value (hr.mono (by decide)) rfl (pa_cons (pv 2) pa_nil)))))
      pss_nil)
      (pss_one (ps_ret (pe_op op_mul (pv 3) (pe_d D_law_weight (hr.mono (by decide)) rfl (pa_cons (pv 2) pa_nil))))))))), ?_⟩
  try dsimp only [cxOf, Cx.nox, Cx.wish]
  obtain ⟨a, A, M, rest, rfl, hl, hB, O, ⟨g, rfl⟩, k⟩ := h
  have hEB : (4 : Int) ≤ EB := by decide +kernel
  walk_at "gw"
  refine NF.x_iteI (fun h0 => ?_) (fun h0 => ?_)
  · walk_at "gw"
    refine x_draw O hB (by decide) (by decide) fun d H1 M1 d0 d1 hB O => ?_
    walk_at "gw"
    exact k _ _ _ hB O ⟨_, rfl, by omega, by omega⟩
  walk_at "gw"
  refine x_tx (E := E0) O hB rfl ⟨24, rfl, by decide, by decide⟩ fun z H1 M1 ⟨m2, em, hzl, hL⟩ hB O => ?_
  cases em
  have hz24 : z.length ≤ 24 := hzl
  walk_at "gw"
  refine x_draw O hB (by decide) (by decide) fun sg H1 M1 s0 s1 hB O => ?_
  walk_at "gw"
  refine x_draw O hB (by decide) (by decide) fun d H1 M1 d0 d1 hB O => ?_
  have hb := hv_bd (codes (tl z)) (fun x hx => by
    obtain ⟨c, hc, rfl⟩ := List.mem_map.mp hx
    exact code_pos (hL c hc)) 0 0 (by decide) (by decide)
  have hcl : (codes (tl z)).length = z.length := by unfold codes; rw [List.length_map, ← len_tl]
  rw [hcl, Nat.zero_add] at hb
  have hpw : (17 : Int) ^ z.length ≤ EB := by
    have : (17 : Nat) ^ z.length ≤ 17 ^ 24 := Nat.pow_le_pow_right (by decide) hz24
    show (17 : Int) ^ z.length ≤ 17 ^ 24
    exact_mod_cast this
  have hpp : (0 : Int) < 17 ^ z.length := Int.pow_pos (by decide)
  have hsg : sg = 0 ∨ sg = 1 := by omega
  walk_at "gw"
  refine NF.x_iteI (fun h1 => ?_) (fun h1 => ?_)
  · walk_at "gw"
    refine NF.use_spP (E := E0) O rfl ⟨z, rfl, by omega, hL⟩ fun v H1 O ⟨z2, ez, ev⟩ => ?_
    cases ez
    subst ev
    walk_at "gw"
    obtain ⟨y, hy⟩ : ∃ y : Int, y = hv 17 0 (codes (tl z)) := ⟨_, rfl⟩
    rw [← hy]
    have hy1 : 0 ≤ y ∧ y ≤ EB := by rw [hy]; omega
    rcases hsg with rfl | rfl
    · exact k _ _ _ hB O ⟨_, rfl, by omega, by omega⟩
    · exact k _ _ _ hB O ⟨_, rfl, by omega, by omega⟩
  · walk_at "gw"
    refine NF.use_spP (E := E0) O rfl ⟨z, rfl, by omega⟩ fun v H1 O ⟨z2, ez, ev⟩ => ?_
    cases ez
    subst ev
    walk_at "gw"
    obtain ⟨y, hy⟩ : ∃ y : Int, y = 17 ^ z.length := ⟨_, rfl⟩
    rw [← hy]
    have hy1 : 0 ≤ y ∧ y ≤ EB := by rw [hy]; omega
    rcases hsg with rfl | rfl
    · exact k _ _ _ hB O ⟨_, rfl, by omega, by omega⟩
    · exact k _ _ _ hB O ⟨_, rfl, by omega, by omega⟩


/-! linear algebra over whole numbers -/
abbrev Fn := Nat → Int
def fn (l : List Int) : Fn := fun k => l.getD k 0
inductive Spn (S : Fn → Prop) : Fn → Prop
  | zero : Spn S (fun _ => 0)
  | mem {v : Fn} (h : S v) : Spn S v
  | lin {u v : Fn} (a b : Int) (h1 : Spn S u) (h2 : Spn S v) : Spn S (fun k => a * u k + b * v k)
  | div {v : Fn} {m : Int} (hm : m ≠ 0) (h : Spn S (fun k => m * v k)) : Spn S v
theorem Spn.trans {S S' : Fn → Prop} (hS : ∀ g, S g → Spn S' g) {g : Fn} (h : Spn S g) : Spn S' g := by
  induction h with
  | zero => exact .zero
  | mem h => exact hS _ h
  | lin a b _ _ i1 i2 => exact .lin a b i1 i2
  | div hm _ i => exact .div hm i
theorem Spn.of_eq {S : Fn → Prop} {g g' : Fn} (h : Spn S g) (e : ∀ k, g' k = g k) : Spn S g' := by
  rw [show g' = g from funext e]
  exact h
/-- one step -/
def stpR (rest : List Int) (q : Nat × List Int) : List Int := if rest.getD q.1 0 = 0 then rest else List.zipWith (fun n t => q.2.getD q.1 0 * n - rest.getD q.1 0 * t) rest q.2
def red (rows : List (Nat × List Int)) (v : List Int) : List Int := rows.foldl stpR v
theorem stpR_len {w : Nat} {rest : List Int} {q : Nat × List Int} (h1 : rest.length = w) (h2 : q.2.length = w) : (stpR rest q).length = w := by
  unfold stpR
  split
  · exact h1
  · rw [List.length_zipWith, h1, h2, Nat.min_self]
theorem red_len {w : Nat} : ∀ {rows : List (Nat × List Int)} {v : List Int}, v.length = w → (∀ q ∈ rows, q.2.length = w) → (red rows v).length = w
  | [], v, h, _ => h
  | q :: rows, v, h, hr => red_len (rows := rows) (stpR_len h (hr q (List.mem_cons_self ..))) fun x hx => hr x (List.mem_cons_of_mem _ hx)
theorem fn_zip {w : Nat} {rest row : List Int} (a b : Int) (h1 : rest.length = w) (h2 : row.length = w) (k : Nat) : fn (List.zipWith (fun n t => a * n - b * t) rest row) k = a * fn rest k - b * fn row k := by
  unfold fn
  by_cases h : k < w
  · simp only [List.getD_eq_getElem?_getD, List.getElem?_zipWith]
    rw [List.getElem?_eq_getElem (by omega), List.getElem?_eq_getElem (by omega)]
    rfl
  · simp only [List.getD_eq_getElem?_getD, List.getElem?_zipWith]
    rw [List.getElem?_eq_none (by omega), List.getElem?_eq_none (l := row) (by omega)]
    simp
/-- the linear step -/
def tst (q : Nat × List Int) (g : Fn) : Fn := fun k => fn q.2 q.1 * g k - g q.1 * fn q.2 k
def tfold (rows : List (Nat × List Int)) (g : Fn) : Fn := rows.foldl (fun g q => tst q g) g
theorem tst_lin (q : Nat × List Int) (a b : Int) (u v : Fn) : tst q (fun k => a * u k + b * v k) = fun k => a * tst q u k + b * tst q v k := by
  funext k
  unfold tst
  simp only [Int.mul_sub, Int.add_mul, Int.mul_add]
  have e1 : fn q.2 q.1 * (a * u k) = a * (fn q.2 q.1 * u k) := Int.mul_left_comm ..
  have e2 : fn q.2 q.1 * (b * v k) = b * (fn q.2 q.1 * v k) := Int.mul_left_comm ..
  have e3 : a * u q.1 * fn q.2 k = a * (u q.1 * fn q.2 k) := Int.mul_assoc ..
  have e4 : b * v q.1 * fn q.2 k = b * (v q.1 * fn q.2 k) := Int.mul_assoc ..
  rw [e1, e2, e3, e4]
  omega
theorem tfold_lin : ∀ (rows : List (Nat × List Int)) (a b : Int) (u v : Fn), tfold rows (fun k => a * u k + b * v k) = fun k => a * tfold rows u k + b * tfold rows v k
  | [], a, b, u, v => rfl
  | q :: rows, a, b, u, v => by
    show tfold rows (tst q _) = _
    rw [tst_lin]
    exact tfold_lin rows a b (tst q u) (tst q v)
theorem tfold_mul (rows : List (Nat × List Int)) (m : Int) (u : Fn) : tfold rows (fun k => m * u k) = fun k => m * tfold rows u k := by
  have h := tfold_lin rows m 0 u u
  have e1 : (fun k => m * u k + 0 * u k) = fun k => m * u k := by funext k; rw [Int.zero_mul, Int.add_zero]
  have e2 : (fun k => m * tfold rows u k + 0 * tfold rows u k) = fun k => m * tfold rows u k := by funext k; rw [Int.zero_mul, Int.add_zero]
  rw [e1, e2] at h
  exact h
theorem tfold_zero (rows : List (Nat × List Int)) : tfold rows (fun _ => 0) = fun _ => 0 := by
  have h := tfold_mul rows 0 (fun _ => 0)
  have e1 : (fun k : Nat => (0 : Int) * (fun _ => (0 : Int)) k) = fun _ => 0 := by funext k; rfl
  rw [e1] at h
  rw [h]
  funext k
  rw [Int.zero_mul]
/-- rows in steps -/
structure Ech (w : Nat) (rows : List (Nat × List Int)) : Prop where
  len : ∀ q ∈ rows, q.2.length = w
  lt : ∀ q ∈ rows, q.1 < w
  led : ∀ q ∈ rows, fn q.2 q.1 ≠ 0
  pw : rows.Pairwise fun q q' => fn q'.2 q.1 = 0
theorem Ech.tail {w : Nat} {q : Nat × List Int} {rows : List (Nat × List Int)} (E : Ech w (q :: rows)) : Ech w rows :=
  ⟨fun x hx => E.len x (List.mem_cons_of_mem _ hx), fun x hx => E.lt x (List.mem_cons_of_mem _ hx), fun x hx => E.led x (List.mem_cons_of_mem _ hx), (List.pairwise_cons.mp E.pw).2⟩
theorem tfold_mem {w : Nat} : ∀ {rows : List (Nat × List Int)}, Ech w rows → ∀ q ∈ rows, ∀ c : Int, tfold rows (fun k => c * fn q.2 k) = fun _ => 0
  | [], _, q, h, _ => absurd h List.not_mem_nil
  | q0 :: rows, E, q, h, c => by
    show tfold rows (tst q0 _) = _
    rcases List.mem_cons.mp h with rfl | h
    · have e : tst q (fun k => c * fn q.2 k) = fun _ => 0 := by
        funext k
        unfold tst
        rw [Int.mul_left_comm, Int.mul_assoc]
        omega
      rw [e]
      exact tfold_zero rows
    · have z := (List.pairwise_cons.mp E.pw).1 q h
      have e : tst q0 (fun k => c * fn q.2 k) = fun k => (fn q0.2 q0.1 * c) * fn q.2 k := by
        funext k
        show fn q0.2 q0.1 * (c * fn q.2 k) - c * fn q.2 q0.1 * fn q0.2 k = _
        rw [z, Int.mul_zero, Int.zero_mul, Int.sub_zero, Int.mul_assoc]
      rw [e]
      exact tfold_mem E.tail q h _
abbrev SR (rows : List (Nat × List Int)) : Fn → Prop := fun g => ∃ q ∈ rows, g = fn q.2
theorem spn_tfold {w : Nat} {rows : List (Nat × List Int)} (E : Ech w rows) {g : Fn} (h : Spn (SR rows) g) : tfold rows g = fun _ => 0 := by
  induction h with
  | zero => exact tfold_zero rows
  | mem h =>
    obtain ⟨q, hq, rfl⟩ := h
    have := tfold_mem E q hq 1
    have e : (fun k => (1 : Int) * fn q.2 k) = fn q.2 := by funext k; rw [Int.one_mul]
    rw [e] at this
    exact this
  | lin a b _ _ i1 i2 =>
    rw [tfold_lin, i1, i2]
    funext k
    rw [Int.mul_zero, Int.mul_zero]
    rfl
  | @div v m hm _ i =>
    rw [tfold_mul] at i
    funext k
    have := congrFun i k
    exact (Int.mul_eq_zero.mp this).resolve_left hm
/-- reducing is the linear map up to a factor -/
theorem red_tfold {w : Nat} : ∀ {rows : List (Nat × List Int)} {v : List Int}, Ech w rows → v.length = w → ∃ K : Int, K ≠ 0 ∧ tfold rows (fn v) = fun k => K * fn (red rows v) k
  | [], v, _, _ => ⟨1, by decide, by funext k; rw [Int.one_mul]; rfl⟩
  | q :: rows, v, E, h => by
    obtain ⟨K, hK, e⟩ := red_tfold (rows := rows) (v := stpR v q) E.tail (stpR_len h (E.len q (List.mem_cons_self ..)))
    have hl := E.led q (List.mem_cons_self ..)
    show ∃ K : Int, K ≠ 0 ∧ tfold rows (tst q (fn v)) = fun k => K * fn (red rows (stpR v q)) k
    by_cases h0 : v.getD q.1 0 = 0
    · have e1 : stpR v q = v := by unfold stpR; rw [if_pos h0]
      rw [e1] at e ⊢
      have e2 : tst q (fn v) = fun k => fn q.2 q.1 * fn v k := by
        funext k
        unfold tst
        rw [show fn v q.1 = 0 from h0, Int.zero_mul, Int.sub_zero]
      refine ⟨fn q.2 q.1 * K, fun z => (Int.mul_eq_zero.mp z).elim hl hK, ?_⟩
      rw [e2, tfold_mul, e]
      funext k
      rw [Int.mul_assoc]
    · have e1 : fn (stpR v q) = tst q (fn v) := by
        funext k
        unfold stpR
        rw [if_neg h0, fn_zip _ _ h (E.len q (List.mem_cons_self ..))]
        rfl
      rw [← e1]
      exact ⟨K, hK, e⟩
/-- a reduced vector lies in the span as the vector does -/
theorem red_spn {w : Nat} {S : Fn → Prop} : ∀ {rows : List (Nat × List Int)} {v : List Int}, Ech w rows → v.length = w → (∀ q ∈ rows, Spn S (fn q.2)) → (Spn S (fn v) ↔ Spn S (fn (red rows v)))
  | [], v, _, _, _ => Iff.rfl
  | q :: rows, v, E, h, hS => by
    have hq := hS q (List.mem_cons_self ..)
    have hl := E.led q (List.mem_cons_self ..)
    have ih := red_spn (S := S) (rows := rows) (v := stpR v q) E.tail (stpR_len h (E.len q (List.mem_cons_self ..))) fun x hx => hS x (List.mem_cons_of_mem _ hx)
    refine Iff.trans ?_ ih
    by_cases h0 : v.getD q.1 0 = 0
    · have e1 : stpR v q = v := by unfold stpR; rw [if_pos h0]
      rw [e1]
    · have e1 : ∀ k, fn (stpR v q) k = fn q.2 q.1 * fn v k - fn v q.1 * fn q.2 k := fun k => by
        unfold stpR
        rw [if_neg h0, fn_zip _ _ h (E.len q (List.mem_cons_self ..))]
        rfl
      constructor
      · intro hv
        refine (Spn.lin (fn q.2 q.1) (-(fn v q.1)) hv hq).of_eq fun k => ?_
        rw [e1, Int.neg_mul]
        omega
      · intro hv
        refine .div hl ((Spn.lin 1 (fn v q.1) hv hq).of_eq fun k => ?_)
        rw [e1]
        omega
/-- zero at the pivots -/
theorem red_keep {w : Nat} : ∀ {rows : List (Nat × List Int)} {v : List Int} {p : Nat}, v.length = w → (∀ q ∈ rows, q.2.length = w ∧ fn q.2 p = 0) → fn v p = 0 → fn (red rows v) p = 0
  | [], v, p, _, _, h => h
  | q :: rows, v, p, hl, hr, h => by
    have hq := hr q (List.mem_cons_self ..)
    refine red_keep (rows := rows) (v := stpR v q) (stpR_len hl hq.1) (fun x hx => hr x (List.mem_cons_of_mem _ hx)) ?_
    unfold stpR
    split
    · exact h
    · rw [fn_zip _ _ hl hq.1, h, hq.2, Int.mul_zero, Int.mul_zero]
      rfl
theorem red_piv {w : Nat} : ∀ {rows : List (Nat × List Int)} {v : List Int}, Ech w rows → v.length = w → ∀ q ∈ rows, fn (red rows v) q.1 = 0
  | [], v, _, _, q, h => absurd h List.not_mem_nil
  | q0 :: rows, v, E, hl, q, h => by
    have hl0 := E.len q0 (List.mem_cons_self ..)
    rcases List.mem_cons.mp h with rfl | h
    · refine red_keep (rows := rows) (v := stpR v q) (stpR_len hl hl0) (fun x hx => ⟨E.tail.len x hx, (List.pairwise_cons.mp E.pw).1 x hx⟩) ?_
      by_cases h0 : v.getD q.1 0 = 0
      · unfold stpR
        rw [if_pos h0]
        exact h0
      · unfold stpR
        rw [if_neg h0, fn_zip _ _ hl hl0]
        show fn q.2 q.1 * fn v q.1 - fn v q.1 * fn q.2 q.1 = 0
        rw [Int.mul_comm]
        omega
    · exact red_piv E.tail (stpR_len hl hl0) q h
abbrev SV (L : List (List Int)) : Fn → Prop := fun g => ∃ l ∈ L, g = fn l
/-- rows for the vectors -/
structure Cov (w : Nat) (rows : List (Nat × List Int)) (L : List (List Int)) : Prop where
  ech : Ech w rows
  rin : ∀ q ∈ rows, Spn (SV L) (fn q.2)
  vin : ∀ l ∈ L, Spn (SR rows) (fn l)
theorem Cov.nil (w : Nat) : Cov w [] [] := ⟨⟨fun _ h => absurd h List.not_mem_nil, fun _ h => absurd h List.not_mem_nil, fun _ h => absurd h List.not_mem_nil, .nil⟩, fun _ h => absurd h List.not_mem_nil, fun _ h => absurd h List.not_mem_nil⟩
def allZ (l : List Int) : Prop := ∀ x ∈ l, x = 0
theorem allZ_fn {l : List Int} : allZ l ↔ fn l = fun _ => 0 := by
  constructor
  · intro h
    funext k
    unfold fn
    rw [List.getD_eq_getElem?_getD]
    cases e : l[k]? with
    | none => rfl
    | some x => exact h x (List.mem_of_getElem? e)
  · intro h x hx
    obtain ⟨k, hk⟩ := List.getElem?_of_mem hx
    have := congrFun h k
    unfold fn at this
    rw [List.getD_eq_getElem?_getD, hk] at this
    exact this
theorem Cov.iff {w : Nat} {rows : List (Nat × List Int)} {L : List (List Int)} (C : Cov w rows L) {v : List Int} (hv : v.length = w) : allZ (red rows v) ↔ Spn (SV L) (fn v) := by
  have h1 := red_spn (S := SR rows) C.ech hv fun q hq => .mem ⟨q, hq, rfl⟩
  constructor
  · intro h
    have h2 : Spn (SR rows) (fn v) := h1.mpr (by rw [allZ_fn.mp h]; exact .zero)
    exact h2.trans fun g ⟨q, hq, e⟩ => by rw [e]; exact C.rin q hq
  · intro h
    have h2 : Spn (SR rows) (fn v) := h.trans fun g ⟨l, hl, e⟩ => by rw [e]; exact C.vin l hl
    have h3 := spn_tfold C.ech h2
    obtain ⟨K, hK, e⟩ := red_tfold C.ech hv
    rw [e] at h3
    refine allZ_fn.mpr (funext fun k => ?_)
    have := congrFun h3 k
    exact (Int.mul_eq_zero.mp this).resolve_left hK
theorem Cov.skip {w : Nat} {rows : List (Nat × List Int)} {L : List (List Int)} (C : Cov w rows L) {v : List Int} (hv : v.length = w) (h : allZ (red rows v)) : Cov w rows (L ++ [v]) := by
  refine ⟨C.ech, fun q hq => (C.rin q hq).trans fun g ⟨l, hl, e⟩ => .mem ⟨l, List.mem_append_left _ hl, e⟩, fun l hl => ?_⟩
  rcases List.mem_append.mp hl with hl | hl
  · exact C.vin l hl
  · rw [List.mem_singleton.mp hl]
    refine (red_spn (S := SR rows) C.ech hv fun q hq => .mem ⟨q, hq, rfl⟩).mpr ?_
    rw [allZ_fn.mp h]
    exact .zero
theorem Cov.add {w : Nat} {rows : List (Nat × List Int)} {L : List (List Int)} (C : Cov w rows L) {v rr : List Int} {p : Nat} {c : Int} (hv : v.length = w) (hr : rr.length = w) (hp : p < w) (hpz : fn rr p ≠ 0) (hc : c ≠ 0) (e : ∀ k, fn (red rows v) k = c * fn rr k) : Cov w (rows ++ [(p, rr)]) (L ++ [v]) := by
  have hS : ∀ S : Fn → Prop, Spn S (fn rr) ↔ Spn S (fn (red rows v)) := fun S => ⟨fun h => (Spn.lin c 0 h .zero).of_eq fun k => by rw [e, Int.mul_zero, Int.add_zero], fun h => .div hc (h.of_eq fun k => (e k).symm)⟩
  have up : ∀ g, SR rows g → Spn (SR (rows ++ [(p, rr)])) g := fun g ⟨q, hq, e⟩ => .mem ⟨q, List.mem_append_left _ hq, e⟩
  have upL : ∀ g, SV L g → Spn (SV (L ++ [v])) g := fun g ⟨l, hl, e⟩ => .mem ⟨l, List.mem_append_left _ hl, e⟩
  refine ⟨⟨fun q hq => ?_, fun q hq => ?_, fun q hq => ?_, ?_⟩, fun q hq => ?_, fun l hl => ?_⟩
  · rcases List.mem_append.mp hq with hq | hq
    · exact C.ech.len q hq
    · rw [List.mem_singleton.mp hq]; exact hr
  · rcases List.mem_append.mp hq with hq | hq
    · exact C.ech.lt q hq
    · rw [List.mem_singleton.mp hq]; exact hp
  · rcases List.mem_append.mp hq with hq | hq
    · exact C.ech.led q hq
    · rw [List.mem_singleton.mp hq]; exact hpz
  · refine List.pairwise_append.mpr ⟨C.ech.pw, List.pairwise_singleton _ _, fun q hq q' hq' => ?_⟩
    rw [List.mem_singleton.mp hq']
    have := red_piv C.ech hv q hq
    rw [e] at this
    exact (Int.mul_eq_zero.mp this).resolve_left hc
  · rcases List.mem_append.mp hq with hq | hq
    · exact (C.rin q hq).trans upL
    · rw [List.mem_singleton.mp hq]
      refine (hS _).mpr ((red_spn C.ech hv fun q hq => (C.rin q hq).trans upL).mp (.mem ⟨v, by simp, rfl⟩))
  · rcases List.mem_append.mp hl with hl | hl
    · exact (C.vin l hl).trans up
    · rw [List.mem_singleton.mp hl]
      refine (red_spn C.ech hv fun q hq => .mem ⟨q, List.mem_append_left _ hq, rfl⟩).mpr ((hS _).mp (.mem ⟨(p, rr), by simp, rfl⟩))
theorem spn_rev {L : List (List Int)} {g : Fn} : Spn (SV L.reverse) g ↔ Spn (SV L) g :=
  ⟨fun h => h.trans fun g ⟨l, hl, e⟩ => .mem ⟨l, List.mem_reverse.mp hl, e⟩, fun h => h.trans fun g ⟨l, hl, e⟩ => .mem ⟨l, List.mem_reverse.mpr hl, e⟩⟩

/-! how great the numbers are -/
def bd (b : Nat) (l : List Int) : Prop := ∀ x ∈ l, x.natAbs < 2 ^ b
theorem bd.mono {b b' : Nat} {l : List Int} (h : bd b l) (hb : b ≤ b') : bd b' l := fun x hx => Nat.lt_of_lt_of_le (h x hx) (Nat.pow_le_pow_right (by decide) hb)
theorem bd.getD {b : Nat} {l : List Int} (h : bd b l) (k : Nat) : (l.getD k 0).natAbs < 2 ^ b := by
  rw [List.getD_eq_getElem?_getD]
  cases e : l[k]? with
  | none => exact Nat.two_pow_pos b
  | some x => exact h x (List.mem_of_getElem? e)
theorem mul_bd {x y : Int} {a b : Nat} (hx : x.natAbs < 2 ^ a) (hy : y.natAbs < 2 ^ b) : (x * y).natAbs < 2 ^ (a + b) := by
  rw [Int.natAbs_mul, Nat.pow_add]
  exact Nat.mul_lt_mul'' hx hy
theorem sub_bd {x y : Int} {a : Nat} (hx : x.natAbs < 2 ^ a) (hy : y.natAbs < 2 ^ a) : (x - y).natAbs < 2 ^ (a + 1) := by
  rw [Nat.pow_succ]
  omega
theorem stpR_bd {b br : Nat} {rest : List Int} {q : Nat × List Int} (h1 : bd b rest) (h2 : bd br q.2) : bd (b + br + 1) (stpR rest q) := by
  unfold stpR
  split
  · exact h1.mono (by omega)
  · intro x hx
    obtain ⟨i, hi⟩ := List.getElem?_of_mem hx
    rw [List.getElem?_zipWith] at hi
    cases e1 : rest[i]? with
    | none => rw [e1] at hi; cases hi
    | some n =>
      cases e2 : q.2[i]? with
      | none => rw [e1, e2] at hi; cases hi
      | some t =>
        rw [e1, e2] at hi
        have e : q.2.getD q.1 0 * n - rest.getD q.1 0 * t = x := Option.some.inj hi
        rw [← e]
        refine sub_bd ?_ (mul_bd (h1.getD _) (h2 t (List.mem_of_getElem? e2)))
        rw [Nat.add_comm b br]
        exact mul_bd (h2.getD _) (h1 n (List.mem_of_getElem? e1))
def RBd (b0 s : Nat) (rows : List (Nat × List Int)) : Prop := ∀ (i : Nat) (q : Nat × List Int), rows[i]? = some q → bd ((b0 + 1) * 2 ^ (s + i) - 1) q.2
theorem red_bd {b0 : Nat} : ∀ {rows : List (Nat × List Int)} {s : Nat} {v : List Int}, RBd b0 s rows → bd ((b0 + 1) * 2 ^ s - 1) v → bd ((b0 + 1) * 2 ^ (s + rows.length) - 1) (red rows v)
  | [], s, v, _, h => h
  | q :: rows, s, v, hr, h => by
    have h0 : bd ((b0 + 1) * 2 ^ s - 1) q.2 := hr 0 q rfl
    have hp : 0 < 2 ^ s := Nat.two_pow_pos s
    have h1 : 1 ≤ (b0 + 1) * 2 ^ s := Nat.mul_pos (by omega) hp
    have h2 := stpR_bd (q := q) h h0
    have e : (b0 + 1) * 2 ^ s - 1 + ((b0 + 1) * 2 ^ s - 1) + 1 = (b0 + 1) * 2 ^ (s + 1) - 1 := by
      rw [Nat.pow_succ, ← Nat.mul_assoc]
      omega
    rw [e] at h2
    have := red_bd (rows := rows) (s := s + 1) (v := stpR v q) (fun i q' hq => by
      have := hr (i + 1) q' (by simpa using hq)
      rw [show s + 1 + i = s + (i + 1) by omega]
      exact this) h2
    rw [List.length_cons, show s + (rows.length + 1) = s + 1 + rows.length by omega]
    exact this
theorem RBd.take {b0 s : Nat} {rows : List (Nat × List Int)} (h : RBd b0 s rows) (n : Nat) : RBd b0 s (rows.take n) := fun i q hq => by
  rw [List.getElem?_take] at hq
  split at hq
  · exact h i q hq
  · cases hq
theorem RBd.snoc {b0 : Nat} {rows : List (Nat × List Int)} {p : Nat} {rr : List Int} (h : RBd b0 0 rows) (hr : bd ((b0 + 1) * 2 ^ (0 + rows.length) - 1) rr) : RBd b0 0 (rows ++ [(p, rr)]) := fun i q hq => by
  by_cases hi : i < rows.length
  · rw [List.getElem?_append_left hi] at hq
    exact h i q hq
  · have h2 := (List.getElem?_eq_some_iff.mp hq).1
    rw [List.length_append, List.length_singleton] at h2
    have e : i = rows.length := by omega
    subst e
    rw [List.getElem?_append_right (Nat.le_refl _), Nat.sub_self] at hq
    have e : (p, rr) = q := by simpa using hq
    rw [← e]
    exact hr
theorem RBd.row {rows : List (Nat × List Int)} (h : RBd 120 0 rows) (hl : rows.length ≤ 8) : ∀ (i : Nat) (q : Nat × List Int), rows[i]? = some q → bd 31000 q.2 := fun i q hq => by
  have hi := (List.getElem?_eq_some_iff.mp hq).1
  refine (h i q hq).mono ?_
  have : (2 : Nat) ^ (0 + i) ≤ 2 ^ 8 := Nat.pow_le_pow_right (by decide) (by omega)
  omega
theorem red_bdU {rows : List (Nat × List Int)} {v : List Int} (h : RBd 120 0 rows) (hl : rows.length ≤ 8) (hv : bd 120 v) : bd 31000 (red rows v) := by
  refine (red_bd (s := 0) h (hv.mono (by decide))).mono ?_
  have : (2 : Nat) ^ (0 + rows.length) ≤ 2 ^ 8 := Nat.pow_le_pow_right (by decide) (by omega)
  omega
theorem red_snoc {rows : List (Nat × List Int)} {q : Nat × List Int} {i : Nat} (h : rows[i]? = some q) (v : List Int) : red (rows.take (i + 1)) v = stpR (red (rows.take i) v) q := by
  unfold red
  rw [take_snoc h, List.foldl_append]
  rfl
/-! rows in the heap -/
abbrev iV (l : List Int) : List V := l.map V.int
def PvAt (H : Hp) (pp : Addr) (rows : List (Nat × List Int)) : Prop := ∃ ts : List Addr, H pp = some (.lst (ts.map V.ref)) ∧ ts.length = rows.length ∧ ∀ (i : Nat) (q : Nat × List Int) (t : Addr), rows[i]? = some q → ts[i]? = some t → ∃ l, H t = some (.tup [.int (q.1 : Nat), .ref l]) ∧ H l = some (.lst (iV q.2))
def PvIn (N : List (Addr × HO)) (pp : Addr) (rows : List (Nat × List Int)) : Prop := ∃ ts : List Addr, (pp, HO.lst (ts.map V.ref)) ∈ N ∧ ts.length = rows.length ∧ ∀ (i : Nat) (q : Nat × List Int) (t : Addr), rows[i]? = some q → ts[i]? = some t → ∃ l, (t, HO.tup [.int (q.1 : Nat), .ref l]) ∈ N ∧ (l, HO.lst (iV q.2)) ∈ N
theorem PvIn.at {B H : Hp} {M R : List (Addr × HO)} {pp : Addr} {rows : List (Nat × List Int)} (h : PvIn R pp rows) (O : Own B H M R) : PvAt H pp rows := by
  obtain ⟨ts, h1, h2, h3⟩ := h
  refine ⟨ts, O.mem h1, h2, fun i q t hq ht => ?_⟩
  obtain ⟨l, a, b⟩ := h3 i q t hq ht
  exact ⟨l, O.mem a, O.mem b⟩
theorem PvIn.mono {N N' : List (Addr × HO)} {pp : Addr} {rows : List (Nat × List Int)} (h : PvIn N pp rows) (hs : ∀ x ∈ N, x ∈ N') : PvIn N' pp rows := by
  obtain ⟨ts, h1, h2, h3⟩ := h
  refine ⟨ts, hs _ h1, h2, fun i q t hq ht => ?_⟩
  obtain ⟨l, a, b⟩ := h3 i q t hq ht
  exact ⟨l, hs _ a, hs _ b⟩
theorem PvAt.keep {H H' : Hp} {R : List (Addr × HO)} {pp : Addr} {rows : List (Nat × List Int)} (h : PvAt H pp rows) (O : Own H H' [] R) (hR : ∀ x ∈ R, H x.1 = none) : PvAt H' pp rows := by
  obtain ⟨ts, h1, h2, h3⟩ := h
  refine ⟨ts, Own.staysR O hR h1, h2, fun i q t hq ht => ?_⟩
  obtain ⟨l, a, b⟩ := h3 i q t hq ht
  exact ⟨l, Own.staysR O hR a, Own.staysR O hR b⟩
theorem sql_of {K : PySem.W.Frag} {H : Hp} {a : Addr} {xs : List V} (h : H a = some (.lst xs)) : SqL K H a xs := .of h
theorem iV_at {l : List Int} {i : Nat} {x : Int} (h : l[i]? = some x) : (iV l)[i]? = some (.int x) := by
  rw [List.getElem?_map, h]
  rfl
theorem getD_of {l : List Int} {i : Nat} {x : Int} (h : l[i]? = some x) : l.getD i 0 = x := by rw [List.getD_eq_getElem?_getD, h]; rfl
theorem lc_rng1p {B H : Hp} {M R : List (Addr × HO)} {Q : VK} {σ : L2.St} {tt : TT} {te : TE} {j : Nat} {n : Int} (hn : -(2 ^ 62) ≤ n ∧ n < 2 ^ 62) (O : Own B H M R) (Pv : Nat → List V → List (Addr × HO) → Prop) (h0 : Pv 0 [] M)
    (hs : ∀ (i : Nat) H' M' p acc, B p = none → (i : Int) < n → acc.length ≤ i → Pv i acc M' → Own B H' M' (R ++ [(p, .lst acc)]) →
      tt ((wipe σ [j]).set j (some (.int (i : Int)))) H' fun b H3 => if b = true then te ((wipe σ [j]).set j (some (.int (i : Int)))) H3 (lcEnd B R p i (Pv (i + 1))) else lcSkip B R p i (Pv (i + 1)) H3)
    (hd : ∀ p H' M' acc, B p = none → acc.length ≤ n.toNat → Pv n.toNat acc M' → Own B H' M' (R ++ [(p, .lst acc)]) → Q (.ref p) H') : jRng1 [.int n] H (lcR (gName j) tt te [j] σ Q) := by
  refine ⟨n, rfl, hn.1, hn.2, fun p hp => ?_⟩
  refine lc_it (walk_range (lo := 0)) (fun i H' => ∃ M' acc, acc.length ≤ i ∧ Pv i acc M' ∧ Own B H' M' (R ++ [(p, .lst acc)])) ⟨M, [], Nat.le_refl _, h0, O.new hp⟩ (fun _ _ _ _ => trivial) ?_ (fun H' ⟨M', acc, l, pv, O'⟩ => hd p H' M' acc (O.base_free hp) l pv O')
  rintro i x H' H'' hi ⟨M', acc, hl, pv, O'⟩ ⟨rfl, e⟩
  have e2 : x = .int (i : Int) := e.trans (congrArg V.int (Int.zero_add _))
  subst e2
  exact ⟨set_wipe σ j _, hs i _ M' p acc (O.base_free hp) (by omega) hl pv O'⟩
/-- a vector and rows: the reduced vector, a new list -/
def spRed : Sp := fun vs H Q _ => ∃ (va pp : Addr) (v : List Int) (rows : List (Nat × List Int)) (w : Nat), vs = [.ref va, .ref pp] ∧ H va = some (.tup (iV v)) ∧ PvAt H pp rows ∧ v.length = w ∧ w ≤ 100 ∧ (∀ q ∈ rows, q.2.length = w ∧ q.1 < w) ∧ rows.length ≤ 8 ∧ bd 120 v ∧ RBd 120 0 rows ∧
  ∀ p H', H p = none → Own H H' [] [(p, .lst (iV (red rows v)))] → Q (.ref p) H'
theorem hl_spRed : ∀ vs H Q E, spRed vs H Q E → vs.length = 2 := fun vs H Q E ⟨_, _, _, _, _, e, _⟩ => by rw [e]; rfl
abbrev NM_law_reduced : List Str := ["vector", "pivots", "rest", "pivot", "row", "head", "k"]
theorem sc_law_reduced : FnScope NM_law_reduced ["vector", "pivots"] (defScope s_law_reduced) := ⟨rfl, rfl, rfl, by decide +kernel, rfl, by decide +kernel, by decide +kernel⟩
theorem d_law_reduced (F : Fn0 K mg "_law_reduced" s_law_reduced) (T : Txt P w K mg)  :
    Def P w K mg base 1 "_law_reduced" ["vector", "pivots"] spRed := by
  refine Def.mk0 F sc_law_reduced (by first | exact NF.hl_spB | exact NF.hl_spP | exact NF.hl_spNew | exact NF.hl_spPX | exact NF.hl_spN | exact NF.hl_spNX | exact hl_spRed) (fun _ _ _ _ _ _ us hl => match us, hl with | [_, _], _ => rfl) (fun cdv A outer s H vs Q E hr h => ?_)
  refine ⟨_, (pss_cons (ps_set (i := 2) sc_law_reduced.nd rfl (Or.inr rfl) (pe_callTy (T := "list") callListOf (by rfl) T.b_list (by decide +kernel) (pa_cons (pv 0) pa_nil)))
      (pss_cons (ps_for PassesOwn.never rfl (pi_list (pv 1)) (pg_name (i := 3) sc_law_reduced.nd rfl (Or.inr rfl))
      (pss_cons (ps_set (i := 4) sc_law_reduced.nd rfl (Or.inr rfl) (pe_ix ix_tup (pv 3) pe_int (fun _ _ => rfl)))
      (pss_cons (ps_set (i := 5) sc_law_reduced.nd rfl (Or.inr rfl) (pe_ix ix_list (pv 2) (pe_ix ix_tup (pv 3) pe_int (fun _ _ => rfl)) (fun _ _ => rfl)))
      (pss_one (ps_if (pt_cmpR op_ne (pv 5) pe_int (nomark _))
      (pss_one (ps_set (i := 2) sc_law_reduced.nd rfl (Or.inr rfl) (pe_lc (own := [("k", 6)]) (g := gName 6) rfl sc_law_reduced.nd (pi_range1 (by rfl) T.b_range (pa_cons (pe_callB (id := "len") callLen (by rfl) T.b_len (by decide +kernel) (pa_cons (pv 2) pa_nil)) pa_nil)) (blkOk_by (own := [("k", 6)]) (N := NM_law_reduced) (sc := defScope s_law_reduced) (by decide +kernel)) (fun _ _ _ _ _ => (pg_name (i := 6) sc_law_reduced.nd rfl (Or.inl rfl))) (fun _ _ _ _ _ => pts_nil) (fun _ _ _ _ _ => (pe_op op_sub (pe_op op_mulW (pe_ix (show IxR _ (rIxL K) from ix_list) (pv 2) (pv 6) (fun _ _ => rfl)) (pe_ix (show IxR _ (rIxL K) from ix_list) (pv 4) (pe_ix (show IxR _ (rIxT K) from ix_tup) (pv 3) pe_int (fun _ _ => rfl)) (fun _ _ => rfl))) (pe_op op_mulW (pv 5) (pe_ix (show IxR _ (rIxL K) from ix_list) (pv 4) (pv 6) (fun _ _ => rfl))))))))
      pss_nil)))))
      (pss_one (ps_ret (pv 2))))), ?_⟩
  try dsimp only [cxOf, Cx.nox, Cx.wish]
  obtain ⟨va, pp, v, rows, w, rfl, hva, hpp, hvl, hw, hrl, hr8, hvb, hrb, k⟩ := h
  have O := NF.Own.refl0 H
  obtain ⟨ts, hts, htl, htr⟩ := hpp
  walk_at "gw"
  refine NF.x_listOf O (.inr hva) fun p0 H1 hp0 O => ?_
  walk_at "nO"
  walk_at "gw"
  refine NF.f_list (SqL.of (Own.staysR O (fresh1 hp0) hts)) (fun i σ H' => ∃ (pr : Addr) (R : List (Addr × HO)) (u3 u4 u5 u6 : Option V), σ = [some (.ref va), some (.ref pp), some (.ref pr), u3, u4, u5, u6] ∧ Own H H' [] R ∧ (∀ x ∈ R, H x.1 = none) ∧ (pr, HO.lst (iV (red (rows.take i) v))) ∈ R)
    ⟨_, _, _, _, _, _, rfl, O, fresh1 hp0, by simp [red]⟩ ?_ ?_ ?_
  · rintro i σ H' ⟨pr, R, u3, u4, u5, u6, rfl, O, hR, _⟩
    exact SqL.of (Own.staysR O hR hts)
  · rintro i x _ H2 hx ⟨pr, R, u3, u4, u5, u6, rfl, O, hR, hpr⟩
    obtain ⟨t, ht, rfl⟩ : ∃ t, ts[i]? = some t ∧ V.ref t = x := by
      rw [List.getElem?_map] at hx
      cases h : ts[i]? with
      | none => rw [h] at hx; cases hx
      | some t => rw [h] at hx; exact ⟨t, rfl, Option.some.inj hx⟩
    have hil := (List.getElem?_eq_some_iff.mp ht).1
    obtain ⟨q, hq⟩ : ∃ q, rows[i]? = some q := ⟨_, List.getElem?_eq_getElem (by omega)⟩
    obtain ⟨l, hta, hla⟩ := htr i q t hq ht
    have hta0 := hta
    have hta := Own.staysR O hR hta
    have hla0 := hla
    have hla := Own.staysR O hR hla
    have hprH := O.mem hpr
    dsimp only at hprH
    have hqm := hrl q (List.mem_of_getElem? hq)
    have hqb := (RBd.row hrb hr8) i q hq
    obtain ⟨rs, hrs⟩ : ∃ rs, rs = red (rows.take i) v := ⟨_, rfl⟩
    have hrsl : rs.length = w := by rw [hrs]; exact red_len hvl fun x hx => (hrl x (List.mem_of_mem_take hx)).1
    have hrsb : bd 31000 rs := by rw [hrs]; exact red_bdU (hrb.take i) (by rw [List.length_take]; omega) hvb
    rw [← hrs] at hpr hprH
    obtain ⟨hd, hhd⟩ : ∃ x, rs[q.1]? = some x := ⟨_, List.getElem?_eq_getElem (by omega)⟩
    obtain ⟨ld, hld⟩ : ∃ x, q.2[q.1]? = some x := ⟨_, List.getElem?_eq_getElem (by omega)⟩
    have ehd := getD_of hhd
    have eld := getD_of hld
    walk_at "gw"
    refine NF.x_ixL hprH (L2.atI_nat (iV_at hhd)) ?_
    walk_at "gw"
    refine NF.x_itnI (fun h0 => ?_) (fun h0 => ?_)
    · walk_at "gw"
      have hil2 : (iV rs).length = w := by rw [List.length_map]; exact hrsl
      have hst : stpR rs q = List.zipWith (fun n t => q.2.getD q.1 0 * n - rs.getD q.1 0 * t) rs q.2 := by unfold stpR; rw [if_neg (by rw [ehd]; exact h0)]
      have hstl : (stpR rs q).length = w := stpR_len hrsl hqm.1
      refine lc_rng1p (by omega) O (fun i acc M' => M' = [] ∧ acc = iV ((stpR rs q).take i)) ⟨rfl, rfl⟩ ?_ ?_
      · rintro j H3 M3 p acc hp hj hl3 ⟨rfl, rfl⟩ O3
        have hj2 : j < w := by omega
        have hprH3 := O3.mem (x := (pr, .lst (iV rs))) (List.mem_append_left _ hpr)
        dsimp only at hprH3
        have hR3 := freshA hR (fresh1 (o := .lst (iV ((stpR rs q).take j))) hp)
        have hta3 := Own.staysR O3 hR3 hta0
        have hla3 := Own.staysR O3 hR3 hla0
        obtain ⟨n, hn⟩ : ∃ x, rs[j]? = some x := ⟨_, List.getElem?_eq_getElem (by omega)⟩
        obtain ⟨tt, htt⟩ : ∃ x, q.2[j]? = some x := ⟨_, List.getElem?_eq_getElem (by omega)⟩
        have n_bd := hrsb n (List.mem_of_getElem? hn)
        have t_bd := hqb tt (List.mem_of_getElem? htt)
        have ld_bd := hqb ld (List.mem_of_getElem? hld)
        have hd_bd := hrsb hd (List.mem_of_getElem? hhd)
        walk_at "gw"
        refine NF.x_ixL hprH3 (L2.atI_nat (iV_at hn)) ?_
        walk_at "gw"
        refine NF.x_ixL hla3 (L2.atI_nat (iV_at hld)) ?_
        walk_at "gw"
        refine NF.x_I (wide_mul n_bd ld_bd (by decide) (by decide) (by decide)) ?_
        walk_at "gw"
        refine NF.x_ixL hla3 (L2.atI_nat (iV_at htt)) ?_
        walk_at "gw"
        refine NF.x_I (wide_mul hd_bd t_bd (by decide) (by decide) (by decide)) ?_
        walk_at "gw"
        refine NF.lc_done O3 hl3 (by rw [sizeLine_eq]; omega) ⟨rfl, ?_⟩
        have e : (stpR rs q)[j]? = some (n * ld - hd * tt) := by
          rw [hst, List.getElem?_zipWith, hn, htt, eld, ehd, Int.mul_comm n ld]
        rw [take_snoc e]
        unfold iV
        rw [List.map_append]
        rfl
      · rintro p H3 M3 acc hp hl3 ⟨rfl, rfl⟩ O3
        walk_at "gw"
        refine ⟨p, _, _, _, _, _, rfl, O3, freshA hR (fresh1 hp), ?_⟩
        rw [red_snoc hq, ← hrs, show (((iV rs).length : Nat) : Int).toNat = (stpR rs q).length by rw [Int.toNat_natCast, hil2, hstl], List.take_length]
        simp
    · walk_at "gw"
      refine ⟨pr, R, _, _, _, _, rfl, O, hR, ?_⟩
      rw [red_snoc hq, ← hrs]
      unfold stpR
      rw [if_pos (by rw [ehd]; exact h0)]
      exact hpr
  · rintro _ H2 ⟨pr, R, u3, u4, u5, u6, rfl, O, hR, hpr⟩
    rw [List.length_map, htl, List.take_length] at hpr
    walk_at "gw"
    obtain ⟨R1, R2, e⟩ := List.append_of_mem hpr
    subst e
    refine k pr _ (hR (pr, HO.lst (iV (red rows v))) (by simp)) ?_
    have O2 := O.perm (R' := (R1 ++ R2) ++ [(pr, HO.lst (iV (red rows v)))]) (by
      rw [List.append_assoc]
      exact List.Perm.append_left _ (List.perm_append_comm (l₁ := [(pr, HO.lst (iV (red rows v)))])))
    exact O2.dropTo fun x hx => hR x (by
      rcases List.mem_append.mp hx with hx | hx
      · exact List.mem_append_left _ hx
      · exact List.mem_append_right _ (List.mem_cons_of_mem _ hx))


def spLead : Sp := fun vs H Q _ => ∃ (p : Addr) (l : List Int), vs = [.ref p] ∧ H p = some (.lst (iV l)) ∧ l.length ≤ 100 ∧ ∀ H' (v : Int), (allZ l ∧ v = -1) ∨ (∃ i : Nat, i < l.length ∧ l.getD i 0 ≠ 0 ∧ v = i) → Own H H' [] [] → Q (.int v) H'
theorem hl_spLead : ∀ vs H Q E, spLead vs H Q E → vs.length = 1 := fun vs H Q E ⟨_, _, e, _⟩ => by rw [e]; rfl
abbrev NM_law_lead : List Str := ["rest", "k"]
theorem sc_law_lead : FnScope NM_law_lead ["rest"] (defScope s_law_lead) := ⟨rfl, rfl, rfl, by decide +kernel, rfl, by decide +kernel, by decide +kernel⟩
theorem d_law_lead (F : Fn0 K mg "_law_lead" s_law_lead) (T : Txt P w K mg)  :
    Def P w K mg base 1 "_law_lead" ["rest"] spLead := by
  refine Def.mk0 F sc_law_lead (by first | exact NF.hl_spB | exact NF.hl_spP | exact NF.hl_spNew | exact NF.hl_spPX | exact NF.hl_spN | exact NF.hl_spNX | exact hl_spLead) (fun _ _ _ _ _ _ us hl => match us, hl with | [_], _ => rfl) (fun cdv A outer s H vs Q E hr h => ?_)
  refine ⟨_, (pss_cons (ps_for PassesOwn.never rfl (pi_range1 (by rfl) T.b_range (pa_cons (pe_callB (id := "len") callLen (by rfl) T.b_len (by decide +kernel) (pa_cons (pv 0) pa_nil)) pa_nil)) (pg_name (i := 1) sc_law_lead.nd rfl (Or.inl rfl))
      (pss_one (ps_if (pt_cmpR op_ne (pe_ix ix_list (pv 0) (pv 1) (fun _ _ => rfl)) pe_int (nomark _))
      (pss_one (ps_ret (pv 1)))
      pss_nil)))
      (pss_one (ps_ret (pe_un un_neg pe_int)))), ?_⟩
  try dsimp only [cxOf, Cx.nox, Cx.wish]
  obtain ⟨p, l, rfl, hp, hl, k⟩ := h
  have O := NF.Own.refl0 H
  walk_at "gw"
  have hll : (iV l).length = l.length := List.length_map ..
  refine NF.f_rng1 ⟨by omega, by omega⟩ (fun i σ H' => ∃ (u1 : Option V), σ = [some (.ref p), u1] ∧ Own H H' [] [] ∧ ∀ j x, j < i → l[j]? = some x → x = 0) ⟨_, rfl, O, fun j x h => absurd h (Nat.not_lt_zero _)⟩ ?_ ?_
  · rintro i _ H2 hi ⟨u1, rfl, O, hz⟩
    obtain ⟨x, hx⟩ : ∃ x, l[i]? = some x := ⟨_, List.getElem?_eq_getElem (by omega)⟩
    have hp2 := O.out p (by simp) _ hp
    walk_at "gw"
    refine NF.x_ixL hp2 (L2.atI_nat (iV_at hx)) ?_
    walk_at "gw"
    refine NF.x_itnI (fun h0 => ?_) (fun h0 => ?_)
    · walk_at "gw"
      exact k _ _ (.inr ⟨i, by omega, by rw [getD_of hx]; exact h0, rfl⟩) O
    · walk_at "gw"
      refine ⟨_, rfl, O, fun j y hj hy => ?_⟩
      by_cases e : j = i
      · subst e
        rw [hx] at hy
        cases hy
        exact h0
      · exact hz j y (by omega) hy
  · rintro _ H2 ⟨u1, rfl, O, hz⟩
    walk_at "gw"
    refine k _ _ (.inl ⟨fun x hx => ?_, rfl⟩) O
    obtain ⟨j, hj⟩ := List.getElem?_of_mem hx
    have := (List.getElem?_eq_some_iff.mp hj).1
    exact hz j x (by omega) hj

/-- vectors in the heap -/
def VsAt (H : Hp) (pv : Addr) (L : List (List Int)) : Prop := ∃ vs : List Addr, H pv = some (.lst (vs.map V.ref)) ∧ vs.length = L.length ∧ ∀ (i : Nat) (l : List Int) (t : Addr), L[i]? = some l → vs[i]? = some t → H t = some (.tup (iV l))
def VsIn (N : List (Addr × HO)) (pv : Addr) (L : List (List Int)) : Prop := ∃ vs : List Addr, (pv, HO.lst (vs.map V.ref)) ∈ N ∧ vs.length = L.length ∧ ∀ (i : Nat) (l : List Int) (t : Addr), L[i]? = some l → vs[i]? = some t → (t, HO.tup (iV l)) ∈ N
theorem VsIn.at {B H : Hp} {M R : List (Addr × HO)} {pv : Addr} {L : List (List Int)} (h : VsIn R pv L) (O : Own B H M R) : VsAt H pv L := by
  obtain ⟨vs, h1, h2, h3⟩ := h
  exact ⟨vs, O.mem h1, h2, fun i l t hl ht => O.mem (h3 i l t hl ht)⟩
theorem VsIn.mono {N N' : List (Addr × HO)} {pv : Addr} {L : List (List Int)} (h : VsIn N pv L) (hs : ∀ x ∈ N, x ∈ N') : VsIn N' pv L := by
  obtain ⟨vs, h1, h2, h3⟩ := h
  exact ⟨vs, hs _ h1, h2, fun i l t hl ht => hs _ (h3 i l t hl ht)⟩
theorem VsAt.keep {H H' : Hp} {R : List (Addr × HO)} {pv : Addr} {L : List (List Int)} (h : VsAt H pv L) (O : Own H H' [] R) (hR : ∀ x ∈ R, H x.1 = none) : VsAt H' pv L := by
  obtain ⟨vs, h1, h2, h3⟩ := h
  exact ⟨vs, Own.staysR O hR h1, h2, fun i l t hl ht => Own.staysR O hR (h3 i l t hl ht)⟩
/-- what the vectors are -/
structure VOk (w : Nat) (L : List (List Int)) : Prop where
  len : ∀ l ∈ L, l.length = w
  b : ∀ l ∈ L, bd 120 l
  few : L.length ≤ 8
  w1 : w ≤ 8
/-- rows for the vectors, of bounded numbers -/
structure CovB (w : Nat) (rows : List (Nat × List Int)) (L : List (List Int)) : Prop where
  cov : Cov w rows L
  rb : RBd 120 0 rows
  few : rows.length ≤ L.length
def PvT (T : List (Addr × HO)) (ts : List Addr) (rows : List (Nat × List Int)) : Prop := ts.length = rows.length ∧ ∀ (i : Nat) (q : Nat × List Int) (t : Addr), rows[i]? = some q → ts[i]? = some t → ∃ l, (t, HO.tup [.int (q.1 : Nat), .ref l]) ∈ T ∧ (l, HO.lst (iV q.2)) ∈ T
theorem PvT.mono {T T' : List (Addr × HO)} {ts : List Addr} {rows : List (Nat × List Int)} (h : PvT T ts rows) (hs : ∀ x ∈ T, x ∈ T') : PvT T' ts rows := ⟨h.1, fun i q t hq ht => by
  obtain ⟨l, a, b⟩ := h.2 i q t hq ht
  exact ⟨l, hs _ a, hs _ b⟩⟩
theorem PvT.in_ {T : List (Addr × HO)} {ts : List Addr} {rows : List (Nat × List Int)} {pp : Addr} (h : PvT T ts rows) : PvIn ((pp, HO.lst (ts.map V.ref)) :: T) pp rows :=
  ⟨ts, List.mem_cons_self .., h.1, fun i q t hq ht => by
    obtain ⟨l, a, b⟩ := h.2 i q t hq ht
    exact ⟨l, List.mem_cons_of_mem _ a, List.mem_cons_of_mem _ b⟩⟩
theorem PvT.snoc {T : List (Addr × HO)} {ts : List Addr} {rows : List (Nat × List Int)} {p : Nat} {rr : List Int} {t l : Addr} (h : PvT T ts rows) (h1 : (t, HO.tup [.int (p : Nat), .ref l]) ∈ T) (h2 : (l, HO.lst (iV rr)) ∈ T) : PvT T (ts ++ [t]) (rows ++ [(p, rr)]) := by
  refine ⟨by rw [List.length_append, List.length_append, h.1]; rfl, fun i q t' hq ht => ?_⟩
  by_cases hi : i < rows.length
  · rw [List.getElem?_append_left hi] at hq
    rw [List.getElem?_append_left (by rw [h.1]; exact hi)] at ht
    exact h.2 i q t' hq ht
  · have h3 := (List.getElem?_eq_some_iff.mp hq).1
    rw [List.length_append, List.length_singleton] at h3
    have e : i = rows.length := by omega
    subst e
    rw [List.getElem?_append_right (Nat.le_refl _), Nat.sub_self] at hq
    rw [List.getElem?_append_right (by rw [h.1]; exact Nat.le_refl _), h.1, Nat.sub_self] at ht
    have e1 : (p, rr) = q := by simpa using hq
    have e2 : t = t' := by simpa using ht
    subst e1 e2
    exact ⟨l, h1, h2⟩
def spSpanL : Sp := fun vs H Q _ => ∃ (pv : Addr) (L : List (List Int)) (w : Nat), vs = [.ref pv] ∧ VsAt H pv L ∧ VOk w L ∧ ∀ pp H' N rows, (∀ x ∈ N, H x.1 = none) → Own H H' [] N → PvIn N pp rows → CovB w rows L → Q (.ref pp) H'
theorem hl_spSpanL : ∀ vs H Q E, spSpanL vs H Q E → vs.length = 1 := fun vs H Q E ⟨_, _, _, e, _⟩ => by rw [e]; rfl
abbrev NM_law_span : List Str := ["vectors", "pivots", "vector", "rest", "lead"]
theorem sc_law_span : FnScope NM_law_span ["vectors"] (defScope s_law_span) := ⟨rfl, rfl, rfl, by decide +kernel, rfl, by decide +kernel, by decide +kernel⟩
theorem d_law_span (F : Fn0 K mg "_law_span" s_law_span) (T : Txt P w K mg) (D_law_reduced : Def P w K mg base 1 "_law_reduced" ["vector", "pivots"] spRed) (D_law_lead : Def P w K mg base 1 "_law_lead" ["rest"] spLead) :
    Def P w K mg base 2 "_law_span" ["vectors"] spSpanL := by
  refine Def.mk0 F sc_law_span (by first | exact NF.hl_spB | exact NF.hl_spP | exact NF.hl_spNew | exact NF.hl_spPX | exact NF.hl_spN | exact NF.hl_spNX | exact hl_spSpanL) (fun _ _ _ _ _ _ us hl => match us, hl with | [_], _ => rfl) (fun cdv A outer s H vs Q E hr h => ?_)
  refine ⟨_, (pss_cons (ps_set (i := 1) sc_law_span.nd rfl (Or.inl rfl) (pe_lst pa_nil))
      (pss_cons (ps_for PassesOwn.never rfl (pi_list (pv 0)) (pg_name (i := 2) sc_law_span.nd rfl (Or.inl rfl))
      (pss_cons (ps_set (i := 3) sc_law_span.nd rfl (Or.inl rfl) (pe_d D_law_reduced (hr.mono (by decide)) rfl (pa_cons (pv 2) (pa_cons (pv 1) pa_nil))))
      (pss_cons (ps_set (i := 4) sc_law_span.nd rfl (Or.inl rfl) (pe_d D_law_lead (hr.mono (by decide)) rfl (pa_cons (pv 3) pa_nil)))
      (pss_one (ps_if (pt_cmpR op_ge (pv 4) pe_int (nomark _))
      (pss_one (ps_expr (pe_bm PySem.F.plainAttrs_list PySem.F.slot_list_append PySem.F.type_list_append mt_append (pv 1) (pa_cons (pe_tup (pa_cons (pv 4) (pa_cons (pv 3) pa_nil))) pa_nil))))
      pss_nil)))))
      (pss_one (ps_ret (pv 1))))), ?_⟩
  try dsimp only [cxOf, Cx.nox, Cx.wish]
  obtain ⟨pv, L, w, rfl, hV, hVo, k⟩ := h
  have O := NF.Own.refl0 H
  have hV0 := hV
  obtain ⟨vs, hpv, hvl, hvt⟩ := hV
  have hf := hVo.few
  have hw := hVo.w1
  walk_at "gw"
  refine NF.x_newL O (by decide +kernel) fun pp H1 hpp O => ?_
  walk_at "nO"
  walk_at "gw"
  refine NF.f_list (SqL.of (Own.staysR O (fresh1 hpp) hpv)) (fun i σ H' => ∃ (u2 u3 u4 : Option V) (ts : List Addr) (T : List (Addr × HO)) (rows : List (Nat × List Int)), σ = [some (.ref pv), some (.ref pp), u2, u3, u4] ∧ Own H H' [] ((pp, HO.lst (ts.map V.ref)) :: T) ∧ (∀ x ∈ T, H x.1 = none) ∧ PvT T ts rows ∧ CovB w rows (L.take i))
    ⟨_, _, _, [], [], [], rfl, O, fun x hx => absurd hx List.not_mem_nil, ⟨rfl, fun i q t hq => by simp at hq⟩, Cov.nil w, fun i q hq => by simp at hq, Nat.le_refl _⟩ ?_ ?_ ?_
  · rintro i σ H' ⟨u2, u3, u4, ts, T, rows, rfl, O, hT, _⟩
    exact SqL.of (Own.staysR O (fun x hx => (List.mem_cons.mp hx).elim (fun e => by rw [e]; exact hpp) (hT x)) hpv)
  · rintro i x _ H2 hx ⟨u2, u3, u4, ts, Tt, rows, rfl, O, hTt, hP, C⟩
    obtain ⟨t, ht, rfl⟩ : ∃ t, vs[i]? = some t ∧ V.ref t = x := by
      rw [List.getElem?_map] at hx
      cases h : vs[i]? with
      | none => rw [h] at hx; cases hx
      | some t => rw [h] at hx; exact ⟨t, rfl, Option.some.inj hx⟩
    have hil := (List.getElem?_eq_some_iff.mp ht).1
    obtain ⟨v, hv⟩ : ∃ v, L[i]? = some v := ⟨_, List.getElem?_eq_getElem (by omega)⟩
    have hvm := List.mem_of_getElem? hv
    have hvw := hVo.len v hvm
    have hR : ∀ x ∈ (pp, HO.lst (ts.map V.ref)) :: Tt, H x.1 = none := fun x hx => (List.mem_cons.mp hx).elim (fun e => by rw [e]; exact hpp) (hTt x)
    have htH := Own.staysR O hR (hvt i v t hv ht)
    have hrf : rows.length ≤ i := Nat.le_trans C.few (by rw [List.length_take]; omega)
    walk_at "gw"
    refine ⟨t, pp, v, rows, w, rfl, htH, (hP.in_ (pp := pp)).at O, hvw, by omega, fun q hq => ⟨C.cov.ech.len q hq, C.cov.ech.lt q hq⟩, by omega, hVo.b v hvm, C.rb, fun p H3 hp O3 => ?_⟩
    have hpH := O.base_free hp
    have O := O.callN O3 (fresh1 hp)
    walk_at "nO"
    walk_at "gw"
    have hrl := red_len (rows := rows) hvw C.cov.ech.len
    have hpat : H3 p = some (.lst (iV (red rows v))) := O.mem (x := (p, _)) (by simp)
    refine ⟨p, red rows v, rfl, hpat, by omega, fun H4 ld hld O4 => ?_⟩
    have O := O.call0 O4
    walk_at "gw"
    have e1 : L.take (i + 1) = L.take i ++ [v] := take_snoc hv
    rcases hld with ⟨hz, rfl⟩ | ⟨j, hj, hjz, rfl⟩
    · refine NF.x_ite (fun h => absurd h (by omega)) (fun _ => ?_)
      walk_at "gw"
      refine ⟨_, _, _, ts, Tt ++ [(p, HO.lst (iV (red rows v)))], rows, rfl, O, freshA hTt (fresh1 hpH), hP.mono (fun x hx => List.mem_append_left _ hx), ?_, C.rb, ?_⟩
      · rw [e1]
        exact C.cov.skip hvw hz
      · rw [e1, List.length_append]
        exact Nat.le_succ_of_le C.few
    · refine NF.x_ite (fun _ => ?_) (fun h => absurd (by omega) h)
      have htl := hP.1
      walk_at "gw"
      refine NF.x_newT O (by walk_at "len") fun t2 H5 ht2 O => ?_
      walk_at "nO"
      walk_at "gw"
      have ej : fn (red rows v) j ≠ 0 := hjz
      refine ⟨_, _, _, ts ++ [t2], Tt ++ [(p, HO.lst (iV (red rows v))), (t2, HO.tup [.int (j : Nat), .ref p])], rows ++ [(j, red rows v)], rfl, ?_, ?_, ?_, ?_, ?_, ?_⟩
      · rw [List.map_append, List.map_singleton, show Tt ++ [(p, HO.lst (iV (red rows v))), (t2, HO.tup [V.int (j : Nat), .ref p])] = Tt ++ [(p, HO.lst (iV (red rows v)))] ++ [(t2, HO.tup [V.int (j : Nat), .ref p])] by rw [List.append_assoc]; rfl]
        exact O
      · intro x hx
        rcases List.mem_append.mp hx with hx | hx
        · exact hTt x hx
        · rcases List.mem_cons.mp hx with e | hx
          · rw [e]; exact hpH
          · rw [List.mem_singleton.mp hx]
            exact ht2
      · exact (hP.mono (fun x hx => List.mem_append_left _ hx)).snoc (l := p) (by simp) (by simp)
      · rw [e1]
        exact C.cov.add hvw hrl (by omega) ej (c := 1) (by decide) fun k => by rw [Int.one_mul]
      · exact C.rb.snoc (red_bd (s := 0) C.rb ((hVo.b v hvm).mono (by decide)))
      · rw [e1, List.length_append, List.length_append]
        exact Nat.succ_le_succ C.few
  · rintro _ H2 ⟨u2, u3, u4, ts, Tt, rows, rfl, O, hTt, hP, C⟩
    rw [List.length_map, hvl, List.take_length] at C
    walk_at "gw"
    exact k pp _ _ rows (fun x hx => (List.mem_cons.mp hx).elim (fun e => by rw [e]; exact hpp) (hTt x)) O hP.in_ C


theorem x_zip {K : PySem.W.Frag} {ta : TA} {σ : L2.St} {H : Hp} {R : It → Hp → Prop} (q : ta σ H fun vs H1 => ∃ a b xs ys, vs = [.ref a, .ref b] ∧ SqL K H1 a xs ∧ SqL K H1 b ys ∧ R (Itz K a b) H1) : iZip K ta σ H R := q
/-- a span in the heap -/
def spSpan (mg : Str → Option Value) : Sp := fun vs H Q _ => ∃ (x dx : Addr), vs = [.ref x] ∧ H x = some (.ins (cad mg "Span") dx []) ∧ ∀ (p : Addr) H', H p = none → Own H H' [(x, .ins (cad mg "Span") dx [("_rows", .ref p)])] [(p, .lst [])] → Q .non H'
theorem hl_spSpan {mg : Str → Option Value} : ∀ vs H Q E, spSpan mg vs H Q E → vs.length = 1 := fun vs H Q E ⟨_, _, e, _⟩ => by rw [e]; rfl
abbrev NM_Span_init : List Str := ["self"]
theorem sc_Span_init : FnScope NM_Span_init ["self"] (defScope s_Span_init) := ⟨rfl, rfl, rfl, by decide +kernel, rfl, by decide +kernel, by decide +kernel⟩
theorem d_Span_init (C : OCls K (cad mg "Span") ["_rows"] "Span.__init__" s_Span_init) (T : Txt P w K mg)  :
    MkP P w K mg base 1 "Span" ["self"] (spSpan mg) := by
  obtain ⟨f, fd, M, F⟩ := C.ini
  refine MkP.make T.n_Span M F sc_Span_init (by first | exact NF.hl_spB | exact NF.hl_spP | exact NF.hl_spNew | exact NF.hl_spPX | exact NF.hl_spN | exact NF.hl_spNX | exact hl_spSpan) (fun _ _ _ _ _ _ us hl => match us, hl with | [_], _ => rfl) (fun cdv A outer s H vs Q E hr h => ?_)
  refine ⟨_, (pss_one (ps_fld (pv 0) (pe_lst pa_nil) rfl)), ?_⟩
  try dsimp only [cxOf, Cx.nox, Cx.wish]
  obtain ⟨x, dx, rfl, hx, k⟩ := h
  have O : Own H H [] [(x, .ins (cad mg "Span") dx [])] := Own.start (by simp) fun y hy => by rw [List.mem_singleton.mp hy]; exact hx
  walk_at "gw"
  (try dsimp only)
  refine x_fldS ?_
  walk_at "gw"
  refine NF.x_newL O (by decide +kernel) fun p H1 hp O => ?_
  walk_at "nO"
  walk_at "gw"
  refine x_setF O 0 rfl C.cl (C.nf _ (by simp)) (by decide) fun H2 O => ?_
  walk_at "nO"
  walk_at "gw"
  exact k p _ hp ((O.perm (List.Perm.swap _ _ _)).close (R := [(p, _)]) (N := [(x, _)]))

def spRest (mg : Str → Option Value) : Sp := fun vs H Q _ => ∃ (x va dx pp : Addr) (v : List Int) (rows : List (Nat × List Int)) (w : Nat), vs = [.ref x, .ref va] ∧ H x = some (.ins (cad mg "Span") dx [("_rows", .ref pp)]) ∧ H va = some (.tup (iV v)) ∧ PvAt H pp rows ∧ v.length = w ∧ w ≤ 100 ∧ (∀ q ∈ rows, q.2.length = w ∧ q.1 < w) ∧ rows.length ≤ 8 ∧ bd 120 v ∧ RBd 120 0 rows ∧
  ∀ p H', H p = none → Own H H' [] [(p, .lst (iV (red rows v)))] → Q (.ref p) H'
theorem hl_spRest {mg : Str → Option Value} : ∀ vs H Q E, spRest mg vs H Q E → vs.length = 2 := fun vs H Q E ⟨_, _, _, _, _, _, _, e, _⟩ => by rw [e]; rfl
abbrev NM_Span_rest : List Str := ["self", "vector", "rest", "index", "row", "factor", "lead", "number", "part"]
theorem sc_Span_rest : FnScope NM_Span_rest ["self", "vector"] (defScope s_Span_rest) := ⟨rfl, rfl, rfl, by decide +kernel, rfl, by decide +kernel, by decide +kernel⟩
theorem d_Span_rest (C : OCls K (cad mg "Span") ["_rows"] "Span.__init__" s_Span_init) (Mm : OMth K (cad mg "Span") "_rest" "Span._rest" s_Span_rest) (T : Txt P w K mg)  :
    DefM P w K mg base 1 "Span" "_rest" ["self", "vector"] (spRest mg) := by
  obtain ⟨f, fd, M, F⟩ := Mm
  refine DefM.make C.cl M F sc_Span_rest (by first | exact NF.hl_spB | exact NF.hl_spP | exact NF.hl_spNew | exact NF.hl_spPX | exact NF.hl_spN | exact NF.hl_spNX | exact hl_spRest) (fun _ _ _ _ _ _ us hl => match us, hl with | [_, _], _ => rfl) (fun cdv A outer s H vs Q E hr h => ?_)
  refine ⟨_, (pss_cons (ps_set (i := 2) sc_Span_rest.nd rfl (Or.inl rfl) (pe_callTy (T := "list") callListOf (by rfl) T.b_list (by decide +kernel) (pa_cons (pv 1) pa_nil)))
      (pss_cons (ps_for PassesOwn.never rfl (pi_list (pe_fld (pv 0) rfl)) (pg_tup (by rfl) (pgs_cons (pg_name (i := 3) sc_Span_rest.nd rfl (Or.inl rfl)) (pgs_cons (pg_name (i := 4) sc_Span_rest.nd rfl (Or.inl rfl)) pgs_nil)))
      (pss_cons (ps_set (i := 5) sc_Span_rest.nd rfl (Or.inr rfl) (pe_ix ix_list (pv 2) (pv 3) (fun _ _ => rfl)))
      (pss_one (ps_if (pt_cmpR op_ne (pv 5) pe_int (nomark _))
      (pss_cons (ps_set (i := 6) sc_Span_rest.nd rfl (Or.inr rfl) (pe_ix ix_list (pv 4) (pv 3) (fun _ _ => rfl)))
      (pss_one (ps_setLc (i := 2) (own := [("number", 7), ("part", 8)]) (g := gTup K 2 (gCons (gName 7) (gCons (gName 8) gNil))) (by rfl) sc_Span_rest.nd rfl rfl (sw_true rfl rfl rfl (by decide +kernel)) (pi_zip (by rfl) T.b_zip (pa_cons (pv 2) (pa_cons (pv 4) pa_nil))) (blkOk_by (own := [("number", 7), ("part", 8)]) (N := NM_Span_rest) (sc := defScope s_Span_rest) (by decide +kernel)) (fun _ _ _ _ _ => (pg_tup (by rfl) (pgs_cons (pg_name (i := 7) sc_Span_rest.nd rfl (Or.inl rfl)) (pgs_cons (pg_name (i := 8) sc_Span_rest.nd rfl (Or.inl rfl)) pgs_nil)))) (fun _ _ _ _ _ => pts_nil) (fun _ _ _ _ _ => (pe_op op_sub (pe_op op_mulW (pv 6) (pv 7)) (pe_op op_mulW (pv 5) (pv 8)))))))
      pss_nil))))
      (pss_one (ps_ret (pv 2))))), ?_⟩
  try dsimp only [cxOf, Cx.nox, Cx.wish]
  obtain ⟨x0, va, dx, pp, v, rows, w, rfl, hx0, hva, hpp, hvl, hw, hrl, hr8, hvb, hrb, k⟩ := h
  have O := NF.Own.refl0 H
  obtain ⟨ts, hts, htl, htr⟩ := hpp
  walk_at "gw"
  refine NF.x_listOf O (.inr hva) fun p0 H1 hp0 O => ?_
  walk_at "nO"
  walk_at "gw"
  refine x_fld ?_
  walk_at "gw"
  refine ⟨x0, _, dx, _, _, rfl, Own.staysR O (fresh1 hp0) hx0, C.cl, C.nf _ (by simp), rfl, ?_⟩
  refine NF.f_listG (SqL.of (Own.staysR O (fresh1 hp0) hts)) (fun i σ H' => ∃ (pr : Addr) (R : List (Addr × HO)) (u3 u4 u5 u6 u7 u8 : Option V), σ = [some (.ref x0), some (.ref va), some (.ref pr), u3, u4, u5, u6, u7, u8] ∧ Own H H' [] R ∧ (∀ x ∈ R, H x.1 = none) ∧ (pr, HO.lst (iV (red (rows.take i) v))) ∈ R)
    ⟨_, _, _, _, _, _, _, _, rfl, O, fresh1 hp0, by simp [red]⟩ ?_ ?_ ?_
  · rintro i σ H' ⟨pr, R, u3, u4, u5, u6, u7, u8, rfl, O, hR, _⟩
    exact SqL.of (Own.staysR O hR hts)
  · rintro i x _ H2 hx ⟨pr, R, u3, u4, u5, u6, u7, u8, rfl, O, hR, hpr⟩
    obtain ⟨t, ht, rfl⟩ : ∃ t, ts[i]? = some t ∧ V.ref t = x := by
      rw [List.getElem?_map] at hx
      cases h : ts[i]? with
      | none => rw [h] at hx; cases hx
      | some t => rw [h] at hx; exact ⟨t, rfl, Option.some.inj hx⟩
    have hil := (List.getElem?_eq_some_iff.mp ht).1
    obtain ⟨q, hq⟩ : ∃ q, rows[i]? = some q := ⟨_, List.getElem?_eq_getElem (by omega)⟩
    obtain ⟨l, hta, hla⟩ := htr i q t hq ht
    have hta0 := hta
    have hta := Own.staysR O hR hta
    have hla0 := hla
    have hla := Own.staysR O hR hla
    have hprH := O.mem hpr
    dsimp only at hprH
    have hqm := hrl q (List.mem_of_getElem? hq)
    have hqb := (RBd.row hrb hr8) i q hq
    obtain ⟨rs, hrs⟩ : ∃ rs, rs = red (rows.take i) v := ⟨_, rfl⟩
    have hrsl : rs.length = w := by rw [hrs]; exact red_len hvl fun x hx => (hrl x (List.mem_of_mem_take hx)).1
    have hrsb : bd 31000 rs := by rw [hrs]; exact red_bdU (hrb.take i) (by rw [List.length_take]; omega) hvb
    rw [← hrs] at hpr hprH
    obtain ⟨hd, hhd⟩ : ∃ x, rs[q.1]? = some x := ⟨_, List.getElem?_eq_getElem (by omega)⟩
    obtain ⟨ld, hld⟩ : ∃ x, q.2[q.1]? = some x := ⟨_, List.getElem?_eq_getElem (by omega)⟩
    have ehd := getD_of hhd
    have eld := getD_of hld
    walk_at "gw"
    refine ⟨t, _, rfl, SqT.of hta, rfl, ?_⟩
    refine ⟨_, _, rfl, ?_⟩
    walk_at "gw"
    refine ⟨_, _, rfl, ?_⟩
    walk_at "gw"
    refine ⟨rfl, ?_⟩
    walk_at "gw"
    refine NF.x_ixL hprH (L2.atI_nat (iV_at hhd)) ?_
    walk_at "gw"
    refine NF.x_itnI (fun h0 => ?_) (fun h0 => ?_)
    · walk_at "gw"
      refine NF.x_ixL hla (L2.atI_nat (iV_at hld)) ?_
      walk_at "gw"
      have hst : stpR rs q = List.zipWith (fun n t => q.2.getD q.1 0 * n - rs.getD q.1 0 * t) rs q.2 := by unfold stpR; rw [if_neg (by rw [ehd]; exact h0)]
      have hstl : (stpR rs q).length = w := stpR_len hrsl hqm.1
      have hil2 : (iV rs).length = w := by rw [List.length_map]; exact hrsl
      refine x_zip ?_
      walk_at "gw"
      refine ⟨_, _, _, _, rfl, SqL.of hprH, SqL.of hla, ?_⟩
      refine lc_zip (xs := iV rs) (ys := iV q.2) (by rw [List.length_map, List.length_map, hrsl, hqm.1]) O (fun i acc M' => M' = [] ∧ acc = iV ((stpR rs q).take i)) (fun i H' M' p acc hp hM O' => ?_) ⟨rfl, rfl⟩ ?_ ?_
      · obtain ⟨rfl, rfl⟩ := hM
        exact ⟨SqL.of (O'.mem (x := (pr, .lst (iV rs))) (List.mem_append_left _ hpr)), SqL.of (Own.staysR O' (freshA hR (fresh1 (o := .lst (iV ((stpR rs q).take i))) hp)) hla0)⟩
      · rintro j xv yv H3 M3 p acc hxv hyv hl3 ⟨rfl, rfl⟩ O3
        obtain ⟨n, hn, rfl⟩ : ∃ n, rs[j]? = some n ∧ V.int n = xv := by
          rw [List.getElem?_map] at hxv
          cases h : rs[j]? with
          | none => rw [h] at hxv; cases hxv
          | some t => rw [h] at hxv; exact ⟨t, rfl, Option.some.inj hxv⟩
        obtain ⟨tt, htt, rfl⟩ : ∃ n, q.2[j]? = some n ∧ V.int n = yv := by
          rw [List.getElem?_map] at hyv
          cases h : q.2[j]? with
          | none => rw [h] at hyv; cases hyv
          | some t => rw [h] at hyv; exact ⟨t, rfl, Option.some.inj hyv⟩
        have n_bd := hrsb n (List.mem_of_getElem? hn)
        have t_bd := hqb tt (List.mem_of_getElem? htt)
        have ld_bd := hqb ld (List.mem_of_getElem? hld)
        have hd_bd := hrsb hd (List.mem_of_getElem? hhd)
        walk_at "gw"
        refine NF.x_I (wide_mul ld_bd n_bd (by decide) (by decide) (by decide)) ?_
        walk_at "gw"
        refine NF.x_I (wide_mul hd_bd t_bd (by decide) (by decide) (by decide)) ?_
        walk_at "gw"
        have hj2 : j < w := by
          have := (List.getElem?_eq_some_iff.mp hn).1
          omega
        refine NF.lc_done O3 hl3 (by rw [sizeLine_eq]; omega) ⟨rfl, ?_⟩
        have e : (stpR rs q)[j]? = some (ld * n - hd * tt) := by
          rw [hst, List.getElem?_zipWith, hn, htt, eld, ehd]
        rw [take_snoc e]
        unfold iV
        rw [List.map_append]
        rfl
      · rintro p H3 M3 acc hp hl3 ⟨rfl, rfl⟩ O3
        walk_at "gw"
        refine ⟨p, _, _, _, _, _, _, _, rfl, O3, freshA hR (fresh1 hp), ?_⟩
        rw [red_snoc hq, ← hrs, show (iV rs).length = (stpR rs q).length by rw [hil2, hstl], List.take_length]
        simp
    · walk_at "gw"
      refine ⟨pr, R, _, _, _, _, _, _, rfl, O, hR, ?_⟩
      rw [red_snoc hq, ← hrs]
      unfold stpR
      rw [if_pos (by rw [ehd]; exact h0)]
      exact hpr
  · rintro _ H2 ⟨pr, R, u3, u4, u5, u6, u7, u8, rfl, O, hR, hpr⟩
    rw [List.length_map, htl, List.take_length] at hpr
    walk_at "gw"
    obtain ⟨R1, R2, e⟩ := List.append_of_mem hpr
    subst e
    refine k pr _ (hR (pr, HO.lst (iV (red rows v))) (by simp)) ?_
    have O2 := O.perm (R' := (R1 ++ R2) ++ [(pr, HO.lst (iV (red rows v)))]) (by
      rw [List.append_assoc]
      exact List.Perm.append_left _ (List.perm_append_comm (l₁ := [(pr, HO.lst (iV (red rows v)))])))
    exact O2.dropTo fun x hx => hR x (by
      rcases List.mem_append.mp hx with hx | hx
      · exact List.mem_append_left _ hx
      · exact List.mem_append_right _ (List.mem_cons_of_mem _ hx))


def spCovers (mg : Str → Option Value) : Sp := fun vs H Q _ => ∃ (x va dx pp : Addr) (v : List Int) (rows : List (Nat × List Int)) (w : Nat), vs = [.ref x, .ref va] ∧ H x = some (.ins (cad mg "Span") dx [("_rows", .ref pp)]) ∧ H va = some (.tup (iV v)) ∧ PvAt H pp rows ∧ v.length = w ∧ w ≤ 100 ∧ (∀ q ∈ rows, q.2.length = w ∧ q.1 < w) ∧ rows.length ≤ 8 ∧ bd 120 v ∧ RBd 120 0 rows ∧
  ∀ b H', (b = true ↔ allZ (red rows v)) → Own H H' [] [] → Q (.bl b) H'
theorem hl_spCovers {mg : Str → Option Value} : ∀ vs H Q E, spCovers mg vs H Q E → vs.length = 2 := fun vs H Q E ⟨_, _, _, _, _, _, _, e, _⟩ => by rw [e]; rfl
def zs (l : List Int) : List Bool := l.map fun x => decide (x = 0)
theorem zs_all {l : List Int} : (zs l).all id = true ↔ allZ l := by
  unfold zs allZ
  rw [List.all_eq_true]
  constructor
  · intro h x hx
    have := h (decide (x = 0)) (List.mem_map.mpr ⟨x, hx, rfl⟩)
    exact of_decide_eq_true this
  · intro h b hb
    obtain ⟨x, hx, rfl⟩ := List.mem_map.mp hb
    exact decide_eq_true (h x hx)
theorem zs_len (l : List Int) : (zs l).length = l.length := List.length_map ..
theorem zs_snoc {l : List Int} {i : Nat} {x : Int} (h : l[i]? = some x) : zs (l.take (i + 1)) = zs (l.take i) ++ [decide (x = 0)] := by
  rw [take_snoc h]
  unfold zs
  rw [List.map_append]
  rfl
theorem dec_int (x y : Int) : decide (V.int x = V.int y) = decide (x = y) := by
  by_cases h : x = y
  · rw [h]; simp
  · rw [decide_eq_false h, decide_eq_false fun q => h (V.int.inj q)]
theorem iV_get {l : List Int} {i : Nat} {x : V} (h : (iV l)[i]? = some x) : ∃ n, l[i]? = some n ∧ V.int n = x := by
  rw [List.getElem?_map] at h
  cases e : l[i]? with
  | none => rw [e] at h; cases h
  | some t => rw [e] at h; exact ⟨t, rfl, Option.some.inj h⟩
theorem lk_no {m : Str} {v : V} (h : (m == ("_rows" : Str)) = false) : List.lookup m [(("_rows" : Str), v)] = none := by
  simp only [List.lookup, h]
abbrev NM_Span_covers : List Str := ["self", "vector", "number"]
theorem sc_Span_covers : FnScope NM_Span_covers ["self", "vector"] (defScope s_Span_covers) := ⟨rfl, rfl, rfl, by decide +kernel, rfl, by decide +kernel, by decide +kernel⟩
theorem d_Span_covers (C : OCls K (cad mg "Span") ["_rows"] "Span.__init__" s_Span_init) (Mm : OMth K (cad mg "Span") "covers" "Span.covers" s_Span_covers) (T : Txt P w K mg) (D_Span_rest : DefM P w K mg base 1 "Span" "_rest" ["self", "vector"] (spRest mg)) :
    DefM P w K mg base 2 "Span" "covers" ["self", "vector"] (spCovers mg) := by
  obtain ⟨f, fd, M, F⟩ := Mm
  refine DefM.make C.cl M F sc_Span_covers (by first | exact NF.hl_spB | exact NF.hl_spP | exact NF.hl_spNew | exact NF.hl_spPX | exact NF.hl_spN | exact NF.hl_spNX | exact hl_spCovers) (fun _ _ _ _ _ _ us hl => match us, hl with | [_, _], _ => rfl) (fun cdv A outer s H vs Q E hr h => ?_)
  refine ⟨_, (pss_one (ps_ret (pe_callB (id := "all") (cr_all rfl) (by rfl) T.b_all (by decide +kernel) (pa_cons (pe_lc (own := [("number", 2)]) (g := gName 2) rfl sc_Span_covers.nd (pi_list (pe_mt D_Span_rest rfl (hr.mono (by decide)) (pv 0) (pa_cons (pv 1) pa_nil))) (blkOk_by (own := [("number", 2)]) (N := NM_Span_covers) (sc := defScope s_Span_covers) (by decide +kernel)) (fun _ _ _ _ _ => (pg_name (i := 2) sc_Span_covers.nd rfl (Or.inl rfl))) (fun _ _ _ _ _ => pts_nil) (fun _ _ _ _ _ => (pe_cmpR op_eq (pv 2) pe_int (nomark _)))) pa_nil)))), ?_⟩
  try dsimp only [cxOf, Cx.nox, Cx.wish]
  obtain ⟨x0, va, dx, pp, v, rows, w, rfl, hx0, hva, hpp, hvl, hw, hrl, hr8, hvb, hrb, k⟩ := h
  have O := NF.Own.refl0 H
  walk_at "gw"
  refine x_meth ?_
  walk_at "gw"
  refine ⟨x0, dx, _, rfl, hx0, lk_no (by decide), ?_⟩
  walk_at "gw"
  refine ⟨x0, va, dx, pp, v, rows, w, rfl, hx0, hva, hpp, hvl, hw, hrl, hr8, hvb, hrb, fun p H1 hp O1 => ?_⟩
  have O := O.callN O1 (fresh1 hp)
  walk_at "nO"
  walk_at "gw"
  have hrl2 : (red rows v).length = w := red_len hvl fun q hq => (hrl q hq).1
  have hp1 : H1 p = some (.lst (iV (red rows v))) := O.mem (x := (p, _)) (by simp)
  (try dsimp only)
  refine NF.lc_lst2 (SqL.of hp1) O (fun i acc M' => M' = [] ∧ acc = (zs ((red rows v).take i)).map V.bl) (fun i H' M' p' acc hp' hM O' => ?_) ⟨rfl, rfl⟩ ?_ ?_
  · exact SqL.of (O'.mem (x := (p, .lst (iV (red rows v)))) (by simp))
  · rintro j xv H3 M3 p3 acc hp3 hxv hl3 ⟨rfl, rfl⟩ O3
    obtain ⟨n, hn, rfl⟩ := iV_get hxv
    walk_at "gw"
    rw [dec_int]
    have hj2 := (List.getElem?_eq_some_iff.mp hn).1
    refine NF.lc_done O3 hl3 (by rw [sizeLine_eq]; omega) ⟨rfl, ?_⟩
    rw [zs_snoc hn, List.map_append]
    rfl
  · rintro p3 H3 M3 acc hp3 hl3 ⟨rfl, rfl⟩ O3
    walk_at "gw"
    rw [show (iV (red rows v)).length = (red rows v).length from List.length_map .., List.take_length] at O3
    refine ⟨p3, zs (red rows v), rfl, SqL.of (O3.mem (x := (p3, _)) (by simp)), ?_⟩
    refine k _ _ zs_all ?_
    exact O3.dropTo (N := []) (R := [(p, .lst (iV (red rows v))), (p3, _)]) fun x hx => by
      rcases List.mem_cons.mp hx with e | hx
      · rw [e]; exact hp
      · rw [List.mem_singleton.mp hx]; exact hp3

/-! the greatest common divisor of a row -/
def gcdL (l : List Int) : Nat := l.foldl (fun g x => g.gcd x.natAbs) 0
theorem gcdL_snoc {l : List Int} {i : Nat} {x : Int} (h : l[i]? = some x) : gcdL (l.take (i + 1)) = (gcdL (l.take i)).gcd x.natAbs := by
  unfold gcdL
  rw [take_snoc h, List.foldl_append]
  rfl
theorem gcdF_dvd : ∀ (l : List Int) (g : Nat), (l.foldl (fun g x => g.gcd x.natAbs) g ∣ g) ∧ ∀ x ∈ l, (l.foldl (fun g x => g.gcd x.natAbs) g) ∣ x.natAbs
  | [], g => ⟨Nat.dvd_refl g, fun x hx => absurd hx List.not_mem_nil⟩
  | y :: l, g => by
    obtain ⟨h1, h2⟩ := gcdF_dvd l (g.gcd y.natAbs)
    refine ⟨Nat.dvd_trans h1 (Nat.gcd_dvd_left ..), fun x hx => ?_⟩
    rcases List.mem_cons.mp hx with rfl | hx
    · exact Nat.dvd_trans h1 (Nat.gcd_dvd_right ..)
    · exact h2 x hx
theorem dvd_gcdF {d : Nat} : ∀ (l : List Int) (g : Nat), d ∣ g → (∀ x ∈ l, d ∣ x.natAbs) → d ∣ l.foldl (fun g x => g.gcd x.natAbs) g
  | [], g, h, _ => h
  | y :: l, g, h, hz => dvd_gcdF l _ (Nat.dvd_gcd h (hz y (List.mem_cons_self ..))) fun x hx => hz x (List.mem_cons_of_mem _ hx)
theorem gcdF_zero : ∀ (l : List Int) (g : Nat), g = 0 → allZ l → l.foldl (fun g x => g.gcd x.natAbs) g = 0
  | [], g, h, _ => h
  | y :: l, g, h, hz => by
    refine gcdF_zero l _ ?_ fun x hx => hz x (List.mem_cons_of_mem _ hx)
    rw [h, hz y (List.mem_cons_self ..)]
    rfl
theorem gcdL_zero {l : List Int} : gcdL l = 0 ↔ allZ l := by
  constructor
  · intro h x hx
    have := (gcdF_dvd l 0).2 x hx
    rw [show l.foldl (fun g x => g.gcd x.natAbs) 0 = 0 from h] at this
    have := Nat.eq_zero_of_zero_dvd this
    omega
  · exact gcdF_zero l 0 rfl
theorem gcdL_dvd {l : List Int} {x : Int} (hx : x ∈ l) : ((gcdL l : Nat) : Int) ∣ x := Int.natAbs_dvd_natAbs.mp (by rw [Int.natAbs_natCast]; exact (gcdF_dvd l 0).2 x hx)
theorem nodup_lt : ∀ (n : Nat) (l : List Nat), l.Nodup → (∀ x ∈ l, x < n) → l.length ≤ n
  | 0, l, _, h => by
    cases l with
    | nil => exact Nat.le_refl _
    | cons x l => exact absurd (h x (List.mem_cons_self ..)) (Nat.not_lt_zero _)
  | n + 1, l, hn, h => by
    have h1 := nodup_lt n (l.erase n) (hn.erase n) fun x hx => by
      obtain ⟨h2, h3⟩ := (hn.mem_erase_iff).mp hx
      have := h x h3
      omega
    have h2 : l.length ≤ (l.erase n).length + 1 := by
      rw [List.length_erase]
      split <;> omega
    omega
theorem Ech.nodup {w : Nat} {rows : List (Nat × List Int)} (E : Ech w rows) : (rows.map Prod.fst).Nodup := by
  refine List.pairwise_map.mpr ((List.pairwise_iff_getElem.mpr fun i j hi hj hij e => ?_))
  have := List.pairwise_iff_getElem.mp E.pw i j hi hj hij
  rw [e] at this
  exact E.led _ (List.getElem_mem hj) this
theorem one_left {w : Nat} {rows : List (Nat × List Int)} (E : Ech w rows) {v : List Int} (hv : v.length = w) (h : w ≤ rows.length + 1) {i j : Nat} (hi : fn (red rows v) i ≠ 0) (hj : fn (red rows v) j ≠ 0) (hiw : i < w) (hjw : j < w) : i = j := by
  rcases Nat.decEq i j with e | e
  · exfalso
    have hp := red_piv E hv
    have key : ∀ k, fn (red rows v) k ≠ 0 → k ∉ rows.map Prod.fst := fun k hk q => by
      obtain ⟨q0, hq, rfl⟩ := List.mem_map.mp q
      exact hk (hp q0 hq)
    have h1 := nodup_lt w (i :: j :: rows.map Prod.fst) (List.nodup_cons.mpr ⟨fun q => (List.mem_cons.mp q).elim e (key i hi), List.nodup_cons.mpr ⟨key j hj, E.nodup⟩⟩) fun x hx => by
      rcases List.mem_cons.mp hx with rfl | hx
      · exact hiw
      · rcases List.mem_cons.mp hx with rfl | hx
        · exact hjw
        · obtain ⟨q0, hq, rfl⟩ := List.mem_map.mp hx
          exact E.lt q0 hq
    simp at h1
    omega
  · exact e
set_option exponentiation.threshold 10000 in
theorem gcd_ok {w : Nat} {rows : List (Nat × List Int)} (E : Ech w rows) (hrb : RBd 120 0 rows) {v : List Int} (hv : v.length = w) (hvb : bd 120 v) (hw : w ≤ 8) (h7 : rows.length ≤ 7) (hz : ¬ allZ (red rows v)) : ∀ x ∈ red rows v, CDivG x ((gcdL (red rows v) : Nat) : Int) := by
  have h0 : gcdL (red rows v) ≠ 0 := fun e => hz (gcdL_zero.mp e)
  have hlen : (red rows v).length = w := red_len hv E.len
  obtain ⟨y, hy, hy0⟩ : ∃ y ∈ red rows v, y ≠ 0 := by
    rcases Classical.em (∃ y ∈ red rows v, y ≠ 0) with h | h
    · exact h
    · exact absurd (fun x hx => Classical.byContradiction fun q => h ⟨x, hx, q⟩) hz
  have hyd := (gcdF_dvd (red rows v) 0).2 y hy
  have hle : gcdL (red rows v) ≤ y.natAbs := Nat.le_of_dvd (by omega) hyd
  intro x hx
  refine ⟨by omega, ?_⟩
  by_cases h6 : rows.length ≤ 6
  · left
    have hb := red_bd (s := 0) hrb (hvb.mono (by decide))
    have h1 := hb y hy
    have h2 : (2 : Nat) ^ (0 + rows.length) ≤ 2 ^ 6 := Nat.pow_le_pow_right (by decide) (by omega)
    have h3 : (2 : Nat) ^ ((120 + 1) * 2 ^ (0 + rows.length) - 1) ≤ 2 ^ 8999 := Nat.pow_le_pow_right (by decide) (by omega)
    exact PySem.Flt.log2_lt_of (by decide) (Nat.lt_of_le_of_lt hle (Nat.lt_of_lt_of_le h1 (Nat.le_trans h3 (Nat.pow_le_pow_right (by decide) (by decide)))))
  · right
    show x.natAbs ≤ gcdL (red rows v)
    by_cases hx0 : x = 0
    · rw [hx0]
      exact Nat.zero_le _
    refine Nat.le_of_dvd (by omega) (dvd_gcdF _ 0 (Nat.dvd_zero _) fun z hz => ?_)
    by_cases hz0 : z = 0
    · rw [hz0]
      exact Nat.dvd_zero _
    obtain ⟨i, hi⟩ := List.getElem?_of_mem hx
    obtain ⟨j, hj⟩ := List.getElem?_of_mem hz
    have hi2 := (List.getElem?_eq_some_iff.mp hi).1
    have hj2 := (List.getElem?_eq_some_iff.mp hj).1
    have e := one_left E hv (by omega) (i := i) (j := j) (by show (red rows v).getD i 0 ≠ 0; rw [getD_of hi]; exact hx0) (by show (red rows v).getD j 0 ≠ 0; rw [getD_of hj]; exact hz0) (by omega) (by omega)
    subst e
    rw [hi] at hj
    rw [Option.some.inj hj]
    exact Nat.dvd_refl _

def PvH (H : Hp) (ts : List Addr) (rows : List (Nat × List Int)) : Prop := ts.length = rows.length ∧ ∀ (i : Nat) (q : Nat × List Int) (t : Addr), rows[i]? = some q → ts[i]? = some t → ∃ l, H t = some (.tup [.int (q.1 : Nat), .ref l]) ∧ H l = some (.lst (iV q.2))
theorem PvT.hp {B H : Hp} {M R T : List (Addr × HO)} {ts : List Addr} {rows : List (Nat × List Int)} (h : PvT T ts rows) (O : Own B H M R) (hs : ∀ x ∈ T, x ∈ R) : PvH H ts rows := ⟨h.1, fun i q t hq ht => by
  obtain ⟨l, a, b⟩ := h.2 i q t hq ht
  exact ⟨l, O.mem (hs _ a), O.mem (hs _ b)⟩⟩
theorem PvH.at {H : Hp} {ts : List Addr} {rows : List (Nat × List Int)} {pp : Addr} (h : PvH H ts rows) (hp : H pp = some (.lst (ts.map V.ref))) : PvAt H pp rows := ⟨ts, hp, h.1, h.2⟩
def spAdd (mg : Str → Option Value) : Sp := fun vs H Q _ => ∃ (x va dx pp : Addr) (v : List Int) (w : Nat) (ts : List Addr) (rows : List (Nat × List Int)) (L : List (List Int)), vs = [.ref x, .ref va] ∧ H x = some (.ins (cad mg "Span") dx [("_rows", .ref pp)]) ∧ H pp = some (.lst (ts.map V.ref)) ∧ PvH H ts rows ∧ H va = some (.tup (iV v)) ∧ v.length = w ∧ w ≤ 8 ∧ bd 120 v ∧ CovB w rows L ∧ L.length < 8 ∧
  (∀ H', CovB w rows (L ++ [v]) → Own H H' [] [] → Q (.bl false) H') ∧
  (∀ H' (p : Nat) (rr : List Int) (t2 l2 : Addr), H t2 = none → H l2 = none → CovB w (rows ++ [(p, rr)]) (L ++ [v]) → Own H H' [(pp, .lst ((ts ++ [t2]).map V.ref))] [(l2, .lst (iV rr)), (t2, .tup [.int (p : Nat), .ref l2])] → Q (.bl true) H')
theorem hl_spAdd {mg : Str → Option Value} : ∀ vs H Q E, spAdd mg vs H Q E → vs.length = 2 := fun vs H Q E ⟨_, _, _, _, _, _, _, _, _, e, _⟩ => by rw [e]; rfl
theorem flat_bl (l : List Bool) : (l.map V.bl).all flatV = true := by
  rw [List.all_eq_true]
  intro x hx
  obtain ⟨b, _, rfl⟩ := List.mem_map.mp hx
  rfl
theorem first_nz : ∀ (l : List Int), ¬ allZ l → ∃ j, j < l.length ∧ l.getD j 0 ≠ 0 ∧ ∀ m, m < j → l.getD m 0 = 0
  | [], h => absurd (fun x hx => absurd hx List.not_mem_nil) h
  | y :: l, h => by
    by_cases hy : y = 0
    · obtain ⟨j, h1, h2, h3⟩ := first_nz l fun q => h fun x hx => (List.mem_cons.mp hx).elim (fun e => by rw [e]; exact hy) (q x)
      refine ⟨j + 1, by simpa using h1, by simpa using h2, fun m hm => ?_⟩
      cases m with
      | zero => exact hy
      | succ m => simpa using h3 m (by omega)
    · exact ⟨0, by simp, hy, fun m hm => absurd hm (Nat.not_lt_zero _)⟩
theorem Own.settle {B H : Hp} {M R : List (Addr × HO)} {a : Addr} {o : HO} (O : Own B H M ((a, o) :: R)) (h : B a = some o) : Own B H M R := by
  have O2 := O.perm (R' := R ++ [(a, o)]) (List.perm_append_comm (l₁ := [(a, o)]))
  refine ⟨?_, fun x hx => O2.at_ x ?_, fun b hb u e => ?_⟩
  · have nd := O2.nd
    rw [← List.append_assoc, List.map_append] at nd
    exact (List.nodup_append.mp nd).1
  · rw [← List.append_assoc]
    exact List.mem_append_left _ hx
  · by_cases hba : b = a
    · subst hba
      rw [h] at e
      cases e
      exact O.mem (x := (b, o)) (List.mem_cons_self ..)
    · refine O2.out b (fun q => hb ?_) u e
      rw [← List.append_assoc, List.map_append] at q
      rcases List.mem_append.mp q with q | q
      · exact q
      · exact absurd (by simpa using q) hba
theorem Own.dropLast {B H : Hp} {M R N : List (Addr × HO)} (O : Own B H M (N ++ R)) (h : ∀ x ∈ R, B x.1 = none) : Own B H M N := O.front h
def dvL (r : List Int) (g : Nat) : List Int := r.map fun x => x / (g : Int)
theorem dvL_at {r : List Int} {g i : Nat} {x : Int} (h : r[i]? = some x) : (dvL r g)[i]? = some (x / (g : Int)) := by
  unfold dvL
  rw [List.getElem?_map, h]
  rfl
theorem dvL_fn (r : List Int) (k : Nat) : fn r k = ((gcdL r : Nat) : Int) * fn (dvL r (gcdL r)) k := by
  unfold fn
  rw [List.getD_eq_getElem?_getD, List.getD_eq_getElem?_getD]
  cases h : r[k]? with
  | none =>
    unfold dvL
    rw [List.getElem?_map, h]
    show (0 : Int) = _ * 0
    rw [Int.mul_zero]
  | some x =>
    rw [dvL_at h]
    exact (Int.mul_ediv_cancel' (gcdL_dvd (List.mem_of_getElem? h))).symm
theorem dvL_bd {b : Nat} {r : List Int} (h : bd b r) : bd b (dvL r (gcdL r)) := fun y hy => by
  unfold dvL at hy
  obtain ⟨x, hx, rfl⟩ := List.mem_map.mp hy
  refine Nat.lt_of_le_of_lt ?_ (h x hx)
  have e := Int.mul_ediv_cancel' (gcdL_dvd hx)
  by_cases h0 : gcdL r = 0
  · rw [h0]
    simp
  · have h1 : x.natAbs = gcdL r * (x / ((gcdL r : Nat) : Int)).natAbs := by
      conv => lhs; rw [← e]
      rw [Int.natAbs_mul, Int.natAbs_natCast]
    rw [h1]
    exact Nat.le_mul_of_pos_left _ (by omega)
abbrev NM_Span_add : List Str := ["self", "vector", "rest", "common", "number", "reduced", "index"]
theorem sc_Span_add : FnScope NM_Span_add ["self", "vector"] (defScope s_Span_add) := ⟨rfl, rfl, rfl, by decide +kernel, rfl, by decide +kernel, by decide +kernel⟩
theorem d_Span_add (C : OCls K (cad mg "Span") ["_rows"] "Span.__init__" s_Span_init) (Mm : OMth K (cad mg "Span") "add" "Span.add" s_Span_add) (T : Txt P w K mg) (D_Span_rest : DefM P w K mg base 1 "Span" "_rest" ["self", "vector"] (spRest mg)) :
    DefM P w K mg base 2 "Span" "add" ["self", "vector"] (spAdd mg) := by
  obtain ⟨f, fd, M, F⟩ := Mm
  refine DefM.make C.cl M F sc_Span_add (by first | exact NF.hl_spB | exact NF.hl_spP | exact NF.hl_spNew | exact NF.hl_spPX | exact NF.hl_spN | exact NF.hl_spNX | exact hl_spAdd) (fun _ _ _ _ _ _ us hl => match us, hl with | [_, _], _ => rfl) (fun cdv A outer s H vs Q E hr h => ?_)
  refine ⟨_, (pss_cons (ps_set (i := 2) sc_Span_add.nd rfl (Or.inl rfl) (pe_mt D_Span_rest rfl (hr.mono (by decide)) (pv 0) (pa_cons (pv 1) pa_nil)))
      (pss_cons (ps_set (i := 3) sc_Span_add.nd rfl (Or.inr rfl) pe_int)
      (pss_cons (ps_for PassesOwn.never rfl (pi_list (pv 2)) (pg_name (i := 4) sc_Span_add.nd rfl (Or.inl rfl))
      (pss_one (ps_set (i := 3) sc_Span_add.nd rfl (Or.inr rfl) (pe_callBfun cr_gcd (by rfl) T.i_gcd (pa_cons (pv 3) (pa_cons (pv 4) pa_nil))))))
      (pss_cons (ps_if (pt_cmpR op_eq (pv 3) pe_int (nomark _))
      (pss_one (ps_ret pe_bl))
      pss_nil)
      (pss_cons (ps_setLc (i := 5) (own := [("number", 4)]) (g := gName 4) (by rfl) sc_Span_add.nd rfl rfl (sw_true rfl rfl rfl (by decide +kernel)) (pi_list (pv 2)) (blkOk_by (own := [("number", 4)]) (N := NM_Span_add) (sc := defScope s_Span_add) (by decide +kernel)) (fun _ _ _ _ _ => (pg_name (i := 4) sc_Span_add.nd rfl (Or.inl rfl))) (fun _ _ _ _ _ => pts_nil) (fun _ _ _ _ _ => (pe_op op_fdivG (pv 4) (pv 3))))
      (pss_cons (ps_set (i := 6) sc_Span_add.nd rfl (Or.inl rfl) (pe_bm PySem.F.plainAttrs_list PySem.F.slot_list_index PySem.F.type_list_index mt_index (pe_lc (own := [("number", 4)]) (g := gName 4) rfl sc_Span_add.nd (pi_list (pv 5)) (blkOk_by (own := [("number", 4)]) (N := NM_Span_add) (sc := defScope s_Span_add) (by decide +kernel)) (fun _ _ _ _ _ => (pg_name (i := 4) sc_Span_add.nd rfl (Or.inl rfl))) (fun _ _ _ _ _ => pts_nil) (fun _ _ _ _ _ => (pe_cmpR op_eq (pv 4) pe_int (nomark _)))) (pa_cons pe_bl pa_nil)))
      (pss_cons (ps_expr (pe_bm PySem.F.plainAttrs_list PySem.F.slot_list_append PySem.F.type_list_append mt_append (pe_fld (pv 0) rfl) (pa_cons (pe_tup (pa_cons (pv 6) (pa_cons (pv 5) pa_nil))) pa_nil)))
      (pss_one (ps_ret pe_bl))))))))), ?_⟩
  try dsimp only [cxOf, Cx.nox, Cx.wish]
  obtain ⟨x0, va, dx, pp, v, w, ts, rows, L, rfl, hx0, hpp, hP, hva, hvw, hw, hvb, Cv, hL, kf, kt⟩ := h
  have hrf : rows.length ≤ 7 := Nat.le_trans Cv.few (by omega)
  have O : Own H H [] [(pp, .lst (ts.map V.ref))] := Own.start (by simp) fun y hy => by rw [List.mem_singleton.mp hy]; exact hpp
  walk_at "gw"
  refine x_meth ?_
  walk_at "gw"
  refine ⟨x0, dx, _, rfl, hx0, lk_no (by decide), ?_⟩
  walk_at "gw"
  refine ⟨x0, va, dx, pp, v, rows, w, rfl, hx0, hva, hP.at hpp, hvw, by omega, fun q hq => ⟨Cv.cov.ech.len q hq, Cv.cov.ech.lt q hq⟩, by omega, hvb, Cv.rb, fun p0 H1 hp0 O1 => ?_⟩
  have O := O.callN O1 (fresh1 hp0)
  walk_at "nO"
  obtain ⟨r, hr0⟩ : ∃ r, r = red rows v := ⟨_, rfl⟩
  have hrl : r.length = w := by rw [hr0]; exact red_len hvw Cv.cov.ech.len
  rw [← hr0] at O
  walk_at "gw"
  refine NF.f_list (SqL.of (O.mem (x := (p0, .lst (iV r))) (by simp))) (fun i σ H' => ∃ (u4 u5 u6 : Option V), σ = [some (.ref x0), some (.ref va), some (.ref p0), some (.int (gcdL (r.take i) : Nat)), u4, u5, u6] ∧ Own H H' [] [(pp, .lst (ts.map V.ref)), (p0, .lst (iV r))])
    ⟨_, _, _, rfl, O⟩ ?_ ?_ ?_
  · rintro i σ H' ⟨u4, u5, u6, rfl, O⟩
    exact SqL.of (O.mem (x := (p0, .lst (iV r))) (by simp))
  · rintro i xv _ H2 hx ⟨u4, u5, u6, rfl, O⟩
    obtain ⟨n, hn, rfl⟩ := iV_get hx
    walk_at "gw"
    refine ⟨_, _, rfl, ?_⟩
    walk_at "gw"
    exact ⟨_, _, _, by rw [gcdL_snoc hn]; rfl, O⟩
  · rintro _ H2 ⟨u4, u5, u6, rfl, O⟩
    rw [show (iV r).length = r.length from List.length_map .., List.take_length]
    walk_at "gw"
    refine NF.x_iteI (fun h0 => ?_) (fun h0 => ?_)
    · have hz : allZ (red rows v) := by rw [← hr0]; exact gcdL_zero.mp (by omega)
      walk_at "gw"
      refine kf _ ⟨Cv.cov.skip hvw hz, Cv.rb, ?_⟩ ?_
      · rw [List.length_append]
        exact Nat.le_succ_of_le Cv.few
      · exact (O.dropLast (N := [(pp, HO.lst (ts.map V.ref))]) (R := [(p0, _)]) (fresh1 hp0)).settle hpp
    have hz : ¬ allZ (red rows v) := by rw [← hr0]; exact fun q => h0 (by rw [gcdL_zero.mpr q]; rfl)
    have hok := gcd_ok Cv.cov.ech Cv.rb hvw hvb hw hrf hz
    rw [← hr0] at hok hz
    walk_at "gw"
    have hgl : (iV r).length = r.length := List.length_map ..
    refine NF.lc_lst2 (SqL.of (O.mem (x := (p0, .lst (iV r))) (by simp))) O (fun i acc M' => M' = [] ∧ acc = iV ((dvL r (gcdL r)).take i)) (fun i H' M' p' acc hp' hM O' => ?_) ⟨rfl, rfl⟩ ?_ ?_
    · exact SqL.of (O'.mem (x := (p0, .lst (iV r))) (by simp))
    · rintro j xv H3 M3 p3 acc hp3 hxv hl3 ⟨rfl, rfl⟩ O3
      obtain ⟨n, hn, rfl⟩ := iV_get hxv
      walk_at "gw"
      refine NF.x_I (hok n (List.mem_of_getElem? hn)) ?_
      have hj2 := (List.getElem?_eq_some_iff.mp hn).1
      refine NF.lc_done O3 hl3 (by rw [sizeLine_eq]; omega) ⟨rfl, ?_⟩
      rw [take_snoc (dvL_at hn)]
      unfold iV
      rw [List.map_append]
      rfl
    · rintro p3 H3 M3 acc hp3 hl3 ⟨rfl, rfl⟩ O3
      have hdl : (dvL r (gcdL r)).length = w := by unfold dvL; rw [List.length_map, hrl]
      rw [show (iV r).length = (dvL r (gcdL r)).length by rw [hgl, hdl, hrl], List.take_length] at O3
      obtain ⟨rr, hrr⟩ : ∃ rr, rr = dvL r (gcdL r) := ⟨_, rfl⟩
      rw [← hrr] at O3 hdl
      walk_at "gw"
      refine NF.lc_lst2 (SqL.of (O3.mem (x := (p3, .lst (iV rr))) (by simp))) O3 (fun i acc M' => M' = [] ∧ acc = (zs (rr.take i)).map V.bl) (fun i H' M' p' acc hp' hM O' => ?_) ⟨rfl, rfl⟩ ?_ ?_
      · exact SqL.of (O'.mem (x := (p3, .lst (iV rr))) (by simp))
      · rintro j xv H4 M4 p4 acc hp4 hxv hl4 ⟨rfl, rfl⟩ O4
        obtain ⟨n, hn, rfl⟩ := iV_get hxv
        walk_at "gw"
        rw [dec_int]
        have hj2 := (List.getElem?_eq_some_iff.mp hn).1
        refine NF.lc_done O4 hl4 (by rw [sizeLine_eq]; omega) ⟨rfl, ?_⟩
        rw [zs_snoc hn, List.map_append]
        rfl
      · rintro p4 H4 M4 acc hp4 hl4 ⟨rfl, rfl⟩ O4
        rw [show (iV rr).length = rr.length from List.length_map .., List.take_length] at O4
        walk_at "gw"
        have hg : ((gcdL r : Nat) : Int) ≠ 0 := fun q => hz (gcdL_zero.mp (by omega))
        have hmul : ∀ k, fn (red rows v) k = ((gcdL r : Nat) : Int) * fn rr k := fun k => by
          rw [← hr0, hrr]
          exact dvL_fn r k
        have hnz : ¬ allZ rr := fun q => hz (by
          rw [allZ_fn]
          funext k
          rw [hr0, hmul k, allZ_fn.mp q, Int.mul_zero])
        obtain ⟨j, hj, hjz, hjm⟩ := first_nz rr hnz
        have hjg : rr[j]? = some (rr.getD j 0) := by rw [List.getD_eq_getElem?_getD, List.getElem?_eq_getElem hj]; rfl
        refine ⟨p4, _, .bl false, j, .bl false, rfl, rfl, SqL.of (O4.mem (x := (p4, .lst ((zs rr).map V.bl))) (by simp)), rfl, flat_bl _, ?_, rfl, ?_, ?_⟩
        · unfold zs
          rw [List.getElem?_map, List.getElem?_map, hjg]
          show some (V.bl (decide (rr.getD j 0 = 0))) = _
          rw [decide_eq_false hjz]
        · intro m z' hm hz'
          unfold zs at hz'
          have hmg : rr[m]? = some (rr.getD m 0) := by rw [List.getD_eq_getElem?_getD, List.getElem?_eq_getElem (by omega)]; rfl
          rw [List.getElem?_map, List.getElem?_map, hmg, hjm m hm] at hz'
          have := Option.some.inj hz'
          rw [← this]
          rfl
        walk_at "gw"
        have hxH4 : H4 x0 = some (.ins (cad mg "Span") dx [("_rows", .ref pp)]) := O4.out x0 (fun q => by
          have q : x0 = pp ∨ x0 = p0 ∨ x0 = p3 ∨ x0 = p4 := by simpa using q
          rcases q with e | e | e | e <;> rw [e] at hx0
          · rw [hpp] at hx0; cases hx0
          · rw [hp0] at hx0; cases hx0
          · rw [hp3] at hx0; cases hx0
          · rw [hp4] at hx0; cases hx0) _ hx0
        refine x_fld ?_
        walk_at "gw"
        refine ⟨x0, _, dx, _, _, rfl, hxH4, C.cl, C.nf _ (by simp), rfl, ?_⟩
        have htl := hP.1
        walk_at "gw"
        refine NF.x_newT O4 (by walk_at "len") fun t2 H5 ht2 O => ?_
        walk_at "nO"
        walk_at "gw"
        have hrf2 : bd ((120 + 1) * 2 ^ (0 + rows.length) - 1) rr := by
          rw [hrr, hr0]
          exact dvL_bd (red_bd (s := 0) Cv.rb (hvb.mono (by decide)))
        refine kt _ j rr t2 p3 ht2 hp3 ⟨Cv.cov.add hvw hdl (by omega) hjz hg hmul, Cv.rb.snoc hrf2, ?_⟩ ?_
        · rw [List.length_append, List.length_append]
          exact Nat.succ_le_succ Cv.few
        · rw [List.map_append]
          have O2 := O.perm ((List.perm_append_comm (l₁ := [(pp, HO.lst (ts.map V.ref ++ [V.ref t2]))])).trans (List.Perm.cons _ (List.Perm.swap _ _ _)))
          exact (O2.dropTo (R := [(p0, _), (p4, _)]) (N := [(p3, HO.lst (iV rr)), (t2, HO.tup [V.int (j : Nat), V.ref p3])] ++ [(pp, HO.lst (ts.map V.ref ++ [V.ref t2]))]) (fun x hx => by
            rcases List.mem_cons.mp hx with e | hx
            · rw [e]; exact hp0
            · rw [List.mem_singleton.mp hx]; exact hp4)).close


theorem Own.opened2 {B H : Hp} {M R : List (Addr × HO)} (O : Own B H M R) : Own B H [] (R ++ M) := by
  have e : (M ++ R).Perm ([] ++ (R ++ M)) := by rw [List.nil_append]; exact List.perm_append_comm
  exact ⟨(e.map Prod.fst).nodup_iff.mp O.nd, fun x hx => O.at_ x (e.mem_iff.mpr hx), fun b hb o q => O.out b (fun z => hb ((e.map Prod.fst).mem_iff.mp z)) o q⟩
def spComb : Sp := fun vs H Q _ => ∃ (va pv : Addr) (v : List Int) (L : List (List Int)) (w : Nat), vs = [.ref va, .ref pv] ∧ H va = some (.tup (iV v)) ∧ VsAt H pv L ∧ VOk w L ∧ v.length = w ∧ bd 120 v ∧ ∀ b H', (b = true ↔ Spn (SV L) (fn v)) → Own H H' [] [] → Q (.bl b) H'
theorem hl_spComb : ∀ vs H Q E, spComb vs H Q E → vs.length = 2 := fun vs H Q E ⟨_, _, _, _, _, e, _⟩ => by rw [e]; rfl
abbrev NM_combines : List Str := ["vector", "vectors", "span", "other"]
theorem sc_combines : FnScope NM_combines ["vector", "vectors"] (defScope s_combines) := ⟨rfl, rfl, rfl, by decide +kernel, rfl, by decide +kernel, by decide +kernel⟩
theorem d_combines (F : Fn0 K mg "combines" s_combines) (T : Txt P w K mg) (D_Span : MkP P w K mg base 1 "Span" ["self"] (spSpan mg)) (D_Span_covers : DefM P w K mg base 2 "Span" "covers" ["self", "vector"] (spCovers mg)) (D_Span_add : DefM P w K mg base 2 "Span" "add" ["self", "vector"] (spAdd mg)) :
    Def P w K mg base 3 "combines" ["vector", "vectors"] spComb := by
  refine Def.mk0 F sc_combines (by first | exact NF.hl_spB | exact NF.hl_spP | exact NF.hl_spNew | exact NF.hl_spPX | exact NF.hl_spN | exact NF.hl_spNX | exact hl_spComb) (fun _ _ _ _ _ _ us hl => match us, hl with | [_, _], _ => rfl) (fun cdv A outer s H vs Q E hr h => ?_)
  refine ⟨_, (pss_cons (ps_set (i := 2) sc_combines.nd rfl (Or.inl rfl) (pe_mk0 D_Span rfl (hr.mono (by decide)) (by rfl)))
      (pss_cons (ps_for PassesOwn.never rfl (pi_list (pv 1)) (pg_name (i := 3) sc_combines.nd rfl (Or.inl rfl))
      (pss_one (ps_expr (pe_mt D_Span_add rfl (hr.mono (by decide)) (pv 2) (pa_cons (pv 3) pa_nil)))))
      (pss_one (ps_ret (pe_mt D_Span_covers rfl (hr.mono (by decide)) (pv 2) (pa_cons (pv 0) pa_nil)))))), ?_⟩
  try dsimp only [cxOf, Cx.nox, Cx.wish]
  obtain ⟨va, pv, v, L, w, rfl, hva, hV, hVo, hvw, hvb, k⟩ := h
  obtain ⟨vs, hpv, hvl, hvt⟩ := hV
  have O := NF.Own.refl0 H
  have hf := hVo.few
  have hw := hVo.w1
  walk_at "gw"
  refine x_make0 ?_
  walk_at "gw"
  intro x dx hx hdx hne
  have hx2 : upd H dx (.own x) x = none := by rw [upd_ne (Ne.symm hne)]; exact hx
  have O1 := (O.ignore (o := .own x) hdx).new (o := .ins (cad mg "Span") dx []) hx2
  refine ⟨x, dx, rfl, upd_same, fun pp H2 hpp O2 => ⟨rfl, ?_⟩⟩
  have O := Own.call (M0 := [(x, HO.ins (cad mg "Span") dx [])]) (R := []) (Own.close (R := []) (N := [(x, HO.ins (cad mg "Span") dx [])]) O1) O2 rfl (fresh1 hpp)
  have O := O.opened2
  have hpH := O1.base_free hpp
  clear O1 O2
  walk_at "gw"
  have hfr : ∀ (ts : List Addr) (Tt : List (Addr × HO)), (∀ y ∈ Tt, H y.1 = none) → ∀ y ∈ (pp, HO.lst (ts.map V.ref)) :: (x, HO.ins (cad mg "Span") dx [("_rows", .ref pp)]) :: Tt, H y.1 = none := fun ts Tt hT y hy => by
    rcases List.mem_cons.mp hy with e | hy
    · rw [e]; exact hpH
    · rcases List.mem_cons.mp hy with e | hy
      · rw [e]; exact hx
      · exact hT y hy
  refine NF.f_list (SqL.of (Own.staysR O (hfr [] [] (fun _ h => absurd h List.not_mem_nil)) hpv)) (fun i σ H' => ∃ (u3 : Option V) (ts : List Addr) (Tt : List (Addr × HO)) (rows : List (Nat × List Int)), σ = [some (.ref va), some (.ref pv), some (.ref x), u3] ∧ Own H H' [] ((pp, HO.lst (ts.map V.ref)) :: (x, HO.ins (cad mg "Span") dx [("_rows", .ref pp)]) :: Tt) ∧ (∀ y ∈ Tt, H y.1 = none) ∧ PvT Tt ts rows ∧ CovB w rows (L.take i))
    ⟨_, [], [], [], rfl, O, fun x hx => absurd hx List.not_mem_nil, ⟨rfl, fun i q t hq => by simp at hq⟩, Cov.nil w, fun i q hq => by simp at hq, Nat.le_refl _⟩ ?_ ?_ ?_
  · rintro i σ H' ⟨u3, ts, Tt, rows, rfl, O, hT, _⟩
    exact SqL.of (Own.staysR O (hfr ts Tt hT) hpv)
  · rintro i xv _ H3 hxv ⟨u3, ts, Tt, rows, rfl, O, hT, hP, Cv⟩
    obtain ⟨t, ht, rfl⟩ : ∃ t, vs[i]? = some t ∧ V.ref t = xv := by
      rw [List.getElem?_map] at hxv
      cases h : vs[i]? with
      | none => rw [h] at hxv; cases hxv
      | some t => rw [h] at hxv; exact ⟨t, rfl, Option.some.inj hxv⟩
    have hil := (List.getElem?_eq_some_iff.mp ht).1
    obtain ⟨u, hu⟩ : ∃ u, L[i]? = some u := ⟨_, List.getElem?_eq_getElem (by omega)⟩
    have hum := List.mem_of_getElem? hu
    have huw := hVo.len u hum
    have htH := Own.staysR O (hfr ts Tt hT) (hvt i u t hu ht)
    have e1 : L.take (i + 1) = L.take i ++ [u] := take_snoc hu
    walk_at "gw"
    refine x_meth ?_
    walk_at "gw"
    have hxI := O.mem (x := (x, HO.ins (cad mg "Span") dx [("_rows", .ref pp)])) (by simp)
    refine ⟨x, dx, _, rfl, hxI, lk_no (by decide), ?_⟩
    walk_at "gw"
    have O3 := O
    refine ⟨x, t, dx, pp, u, w, ts, rows, L.take i, rfl, hxI, O.mem (x := (pp, _)) (by simp), hP.hp O (fun y hy => by simp [hy]), htH, huw, hw, hVo.b u hum, Cv, by rw [List.length_take]; omega, fun H4 C4 O4 => ?_, fun H4 p rr t2 l2 ht2 hl2 C4 O4 => ?_⟩
    · have O := O.call0 O4
      walk_at "gw"
      exact ⟨_, ts, Tt, rows, rfl, O, hT, hP, by rw [e1]; exact C4⟩
    · have O := Own.opened2 (Own.call (M0 := [(pp, HO.lst (ts.map V.ref))]) (R := (x, HO.ins (cad mg "Span") dx [("_rows", .ref pp)]) :: Tt) (O.perm (List.perm_append_comm (l₁ := [(pp, HO.lst (ts.map V.ref))]))).close O4 rfl (freshA (N := [(t2, _)]) (fresh1 hl2) (fresh1 ht2)))
      have O := O.perm (List.perm_append_comm (l₂ := [(pp, HO.lst ((ts ++ [t2]).map V.ref))]))
      walk_at "gw"
      refine ⟨_, ts ++ [t2], Tt ++ [(l2, HO.lst (iV rr)), (t2, HO.tup [.int (p : Nat), .ref l2])], rows ++ [(p, rr)], rfl, O, freshA hT ?_, (hP.mono (fun x hx => List.mem_append_left _ hx)).snoc (l := l2) (by simp) (by simp), by rw [e1]; exact C4⟩
      exact freshA (T := [(l2, _)]) (N := [(t2, _)]) (fresh1 (O3.base_free hl2)) (fresh1 (O3.base_free ht2))
  · rintro _ H3 ⟨u3, ts, Tt, rows, rfl, O, hT, hP, Cv⟩
    rw [List.length_map, hvl, List.take_length] at Cv
    walk_at "gw"
    refine x_meth ?_
    walk_at "gw"
    have hxI := O.mem (x := (x, HO.ins (cad mg "Span") dx [("_rows", .ref pp)])) (by simp)
    refine ⟨x, dx, _, rfl, hxI, lk_no (by decide), ?_⟩
    walk_at "gw"
    refine ⟨x, va, dx, pp, v, rows, w, rfl, hxI, Own.staysR O (hfr ts Tt hT) hva, (hP.hp O (fun y hy => by simp [hy])).at (O.mem (x := (pp, _)) (by simp)), hvw, by omega, fun q hq => ⟨Cv.cov.ech.len q hq, Cv.cov.ech.lt q hq⟩, Nat.le_trans Cv.few hf, hvb, Cv.rb, fun b H4 hb O4 => ?_⟩
    have O := O.call0 O4
    refine k b _ (hb.trans (Cv.cov.iff hvw)) ?_
    exact Own.dropTo (R := (pp, HO.lst (ts.map V.ref)) :: (x, HO.ins (cad mg "Span") dx [("_rows", .ref pp)]) :: Tt) (N := []) (by rw [List.append_nil]; exact O) (hfr ts Tt hT)


def VsH (H : Hp) (pv : Addr) (vs : List Addr) (L : List (List Int)) : Prop := H pv = some (.lst (vs.map V.ref)) ∧ vs.length = L.length ∧ ∀ (i : Nat) (l : List Int) (t : Addr), L[i]? = some l → vs[i]? = some t → H t = some (.tup (iV l))
theorem bx_key {a : Addr} {A : List Addr} {H H' : Hp} {M M' R : List (Addr × HO)} (hB : In BxD a A M) (O0 : Own H H M []) (hB' : In BxD a A M') (O : Own H H' M' R) (hR : ∀ x ∈ R, H x.1 = none) : (∃ x1 x2 x3, H a = some (.lst [.int x1, .int x2, .int x3])) ∧ ∀ b o, H b = some o → b ≠ a → H' b = some o := by
  obtain ⟨⟨x1, x2, x3, rfl, _, _⟩, rfl⟩ := hB
  obtain ⟨⟨y1, y2, y3, rfl, _, _⟩, _⟩ := hB'
  refine ⟨⟨x1, x2, x3, O0.at_ (a, _) (by simp)⟩, fun b o h hne => O.out b (fun q => by
    rw [List.map_append] at q
    rcases List.mem_append.mp q with q | q
    · exact hne (by simpa using q)
    · obtain ⟨x, hx, e⟩ := List.mem_map.mp q
      have := hR x hx
      rw [e, h] at this
      cases this) o h⟩
theorem bx_tup {a : Addr} {A : List Addr} {H H' : Hp} {M M' R : List (Addr × HO)} {b : Addr} {xs : List V} (h : H b = some (.tup xs)) (hB : In BxD a A M) (O0 : Own H H M []) (hB' : In BxD a A M') (O : Own H H' M' R) (hR : ∀ x ∈ R, H x.1 = none) : H' b = some (.tup xs) := by
  obtain ⟨⟨x1, x2, x3, ha⟩, key⟩ := bx_key hB O0 hB' O hR
  refine key _ _ h fun e => ?_
  rw [e, ha] at h
  cases h
theorem vs_boxH {a : Addr} {A : List Addr} {H H' : Hp} {M M' R : List (Addr × HO)} {pv : Addr} {vs : List Addr} {L : List (List Int)} (hV : VsH H pv vs L) (hB : In BxD a A M) (O0 : Own H H M []) (hB' : In BxD a A M') (O : Own H H' M' R) (hR : ∀ x ∈ R, H x.1 = none) : VsH H' pv vs L := by
  obtain ⟨⟨x1, x2, x3, ha⟩, key⟩ := bx_key hB O0 hB' O hR
  obtain ⟨h1, h2, h3⟩ := hV
  refine ⟨key _ _ h1 fun e => ?_, h2, fun i l t hl ht => bx_tup (h3 i l t hl ht) hB O0 hB' O hR⟩
  rw [e, ha] at h1
  have := HO.lst.inj (Option.some.inj h1)
  cases vs with
  | nil => cases this
  | cons t vs => cases this
theorem vs_box {a : Addr} {A : List Addr} {H H' : Hp} {M M' R : List (Addr × HO)} {pv : Addr} {L : List (List Int)} (hV : VsAt H pv L) (hB : In BxD a A M) (O0 : Own H H M []) (hB' : In BxD a A M') (O : Own H H' M' R) (hR : ∀ x ∈ R, H x.1 = none) : VsAt H' pv L := by
  obtain ⟨vs, h⟩ := hV
  exact ⟨vs, vs_boxH h hB O0 hB' O hR⟩
/-- the sum of what stands in a column -/
def cs (L : List (List Int)) (k : Nat) : Nat := (L.map fun l => (l.getD k 0).natAbs).sum
theorem cs_snoc {L : List (List Int)} {i : Nat} {l : List Int} (h : L[i]? = some l) (k : Nat) : cs (L.take (i + 1)) k = cs (L.take i) k + (l.getD k 0).natAbs := by
  unfold cs
  rw [take_snoc h, List.map_append, List.sum_append]
  simp
theorem cs_add (L : List (List Int)) (l : List Int) (k : Nat) : cs (L ++ [l]) k = cs L k + (l.getD k 0).natAbs := by
  unfold cs
  rw [List.map_append, List.sum_append]
  simp
theorem le_sum_mem : ∀ {l : List Nat} {x : Nat}, x ∈ l → x ≤ l.sum
  | [], x, h => absurd h List.not_mem_nil
  | y :: l, x, h => by
    rw [List.sum_cons]
    rcases List.mem_cons.mp h with rfl | h
    · omega
    · have := le_sum_mem h
      omega
theorem cs_mem {L : List (List Int)} {l : List Int} (h : l ∈ L) (k : Nat) : (l.getD k 0).natAbs ≤ cs L k := by
  unfold cs
  exact le_sum_mem (List.mem_map.mpr ⟨l, h, rfl⟩)
theorem cs_take (L : List (List Int)) (i k : Nat) : cs (L.take i) k ≤ cs L k := by
  unfold cs
  conv => rhs; rw [← List.take_append_drop i L]
  rw [List.map_append, List.sum_append]
  omega
theorem rep_z (w k : Nat) : ((List.replicate w (0 : Int)).getD k 0).natAbs = 0 := by
  rw [List.getD_eq_getElem?_getD, List.getElem?_replicate]
  split <;> rfl
theorem sum_bd {w c : Nat} {d : Int} {l u : List Int} {k : Nat} (_ : 0 ≤ w) (hl : l.length = w) (hu : u.length = w) (d0 : 0 ≤ d) (d1 : d < 7) (h : (l.getD k 0).natAbs ≤ 3 * c) : ((List.zipWith (fun x y => x + (d - 3) * y) l u).getD k 0).natAbs ≤ 3 * (c + (u.getD k 0).natAbs) := by
  by_cases hk : k < w
  · obtain ⟨x, hx⟩ : ∃ x, l[k]? = some x := ⟨_, List.getElem?_eq_getElem (by omega)⟩
    obtain ⟨y, hy⟩ : ∃ y, u[k]? = some y := ⟨_, List.getElem?_eq_getElem (by omega)⟩
    have e : (List.zipWith (fun x y => x + (d - 3) * y) l u)[k]? = some (x + (d - 3) * y) := by rw [List.getElem?_zipWith, hx, hy]
    rw [getD_of e, getD_of hy]
    rw [getD_of hx] at h
    have h2 : ((d - 3) * y).natAbs ≤ 3 * y.natAbs := by
      rw [Int.natAbs_mul]
      exact Nat.mul_le_mul_right _ (by omega)
    omega
  · rw [List.getD_eq_getElem?_getD, List.getElem?_eq_none (by rw [List.length_zipWith]; omega)]
    exact Nat.zero_le _
def spSum : Sp := fun vs H Q _ => ∃ (a pv : Addr) (A : List Addr) (M : List (Addr × HO)) (L : List (List Int)) (w : Nat), vs = [.ref a, .ref pv, .int (w : Nat)] ∧ In BxD a A M ∧ Own H H M [] ∧ VsAt H pv L ∧ (∀ l ∈ L, l.length = w) ∧ (∀ k, cs L k < 2 ^ 118) ∧ L.length ≤ 8 ∧ 1 ≤ w ∧ w ≤ 8 ∧
  ∀ p l H' M', H p = none → In BxD a A M' → Own H H' M' [(p, .tup (iV l))] → l.length = w → (∀ k, (l.getD k 0).natAbs ≤ 3 * cs L k) → Q (.ref p) H'
theorem hl_spSum : ∀ vs H Q E, spSum vs H Q E → vs.length = 3 := fun vs H Q E ⟨_, _, _, _, _, _, e, _⟩ => by rw [e]; rfl
abbrev NM_law_sum : List Str := ["box", "vectors", "width", "total", "vector", "factor", "k"]
theorem sc_law_sum : FnScope NM_law_sum ["box", "vectors", "width"] (defScope s_law_sum) := ⟨rfl, rfl, rfl, by decide +kernel, rfl, by decide +kernel, by decide +kernel⟩
theorem d_law_sum (F : Fn0 K mg "_law_sum" s_law_sum) (T : Txt P w K mg) (D_law_take : Def P w K mg base 1 "_law_take" ["box", "size"] spDraw) :
    Def P w K mg base 2 "_law_sum" ["box", "vectors", "width"] spSum := by
  refine Def.mk0 F sc_law_sum (by first | exact NF.hl_spB | exact NF.hl_spP | exact NF.hl_spNew | exact NF.hl_spPX | exact NF.hl_spN | exact NF.hl_spNX | exact hl_spSum) (fun _ _ _ _ _ _ us hl => match us, hl with | [_, _, _], _ => rfl) (fun cdv A outer s H vs Q E hr h => ?_)
  refine ⟨_, (pss_cons (ps_set (i := 3) sc_law_sum.nd rfl (Or.inr rfl) (pe_op op_rep (pe_lst (pa_cons pe_int pa_nil)) (pv 2)))
      (pss_cons (ps_for PassesOwn.never rfl (pi_list (pv 1)) (pg_name (i := 4) sc_law_sum.nd rfl (Or.inr rfl))
      (pss_cons (ps_set (i := 5) sc_law_sum.nd rfl (Or.inr rfl) (pe_op op_sub (pe_d D_law_take (hr.mono (by decide)) rfl (pa_cons (pv 0) (pa_cons pe_int pa_nil))) pe_int))
      (pss_one (ps_set (i := 3) sc_law_sum.nd rfl (Or.inr rfl) (pe_lc (own := [("k", 6)]) (g := gName 6) rfl sc_law_sum.nd (pi_range1 (by rfl) T.b_range (pa_cons (pv 2) pa_nil)) (blkOk_by (own := [("k", 6)]) (N := NM_law_sum) (sc := defScope s_law_sum) (by decide +kernel)) (fun _ _ _ _ _ => (pg_name (i := 6) sc_law_sum.nd rfl (Or.inl rfl))) (fun _ _ _ _ _ => pts_nil) (fun _ _ _ _ _ => (pe_op op_add (pe_ix (show IxR _ (rIxL K) from ix_list) (pv 3) (pv 6) (fun _ _ => rfl)) (pe_op op_mul (pv 5) (pe_ix (show IxR _ (rIxT K) from ix_tup) (pv 4) (pv 6) (fun _ _ => rfl))))))))))
      (pss_one (ps_ret (pe_callTy (T := "tuple") callTupleOf (by rfl) T.b_tuple (by decide +kernel) (pa_cons (pv 3) pa_nil)))))), ?_⟩
  try dsimp only [cxOf, Cx.nox, Cx.wish]
  obtain ⟨a, pv, A, M, L, w, rfl, hB, O0, hV, hLw, hcs, hL8, hw1, hw8, k⟩ := h
  have O := O0
  obtain ⟨vs, hpv, hvl, hvt⟩ := hV
  walk_at "gw"
  refine NF.x_newL O (by walk_at "len") fun p0 H1 hp0 O => ?_
  walk_at "nO"
  walk_at "gw"
  refine NF.x_rep (xs := [.int 0]) O (O.mem (x := (p0, .lst [.int 0])) (by simp)) (by omega) (by omega) (by rw [sizeLine_eq]; simp; omega) fun p1 H2 hp1 O => ?_
  rw [rep_one] at O
  walk_at "nO"
  walk_at "gw"
  have hR0 : ∀ x ∈ ([(p0, HO.lst [V.int 0])] : List (Addr × HO)) ++ [(p1, HO.lst (List.replicate (w : Int).toNat (V.int 0)))], H x.1 = none := freshA (fresh1 hp0) (fresh1 hp1)
  have hVs : ∀ {H' M' R}, In BxD a A M' → Own H H' M' R → (∀ x ∈ R, H x.1 = none) → VsH H' pv vs L := fun hB' O' hR' => vs_boxH ⟨hpv, hvl, hvt⟩ hB O0 hB' O' hR'
  refine NF.f_list (xs := vs.map V.ref) (SqL.of (hVs hB O hR0).1) (fun i σ H' => ∃ (u4 u5 u6 : Option V) (pt : Addr) (l : List Int) (M' R : List (Addr × HO)), σ = [some (.ref a), some (.ref pv), some (.int (w : Nat)), some (.ref pt), u4, u5, u6] ∧ In BxD a A M' ∧ Own H H' M' R ∧ (∀ x ∈ R, H x.1 = none) ∧ (pt, HO.lst (iV l)) ∈ R ∧ l.length = w ∧ ∀ k, (l.getD k 0).natAbs ≤ 3 * cs (L.take i) k)
    ⟨_, _, _, p1, List.replicate w 0, _, _, rfl, hB, O, hR0, by simp [iV], by simp, fun k => by
      rw [rep_z]
      exact Nat.zero_le _⟩ ?_ ?_ ?_
  · rintro i σ H' ⟨u4, u5, u6, pt, l, M', R, rfl, hB', O, hR, _⟩
    exact SqL.of (hVs hB' O hR).1
  · rintro i xv _ H3 hxv ⟨u4, u5, u6, pt, l, M', R, rfl, hB', O, hR, hpt, hll, hlb⟩
    obtain ⟨t, ht, rfl⟩ : ∃ t, vs[i]? = some t ∧ V.ref t = xv := by
      rw [List.getElem?_map] at hxv
      cases h : vs[i]? with
      | none => rw [h] at hxv; cases hxv
      | some t => rw [h] at hxv; exact ⟨t, rfl, Option.some.inj hxv⟩
    have hil := (List.getElem?_eq_some_iff.mp ht).1
    obtain ⟨u, hu⟩ : ∃ u, L[i]? = some u := ⟨_, List.getElem?_eq_getElem (by omega)⟩
    have hum := List.mem_of_getElem? hu
    have huw := hLw u hum
    walk_at "gw"
    refine x_draw O hB' (by decide) (by decide) fun d H1 M1 d0 d1 hB' O => ?_
    walk_at "gw"
    obtain ⟨nl, hnl⟩ : ∃ nl, nl = List.zipWith (fun x y => x + (d - 3) * y) l u := ⟨_, rfl⟩
    have hnll : nl.length = w := by rw [hnl, List.length_zipWith, hll, huw, Nat.min_self]
    refine lc_rng1p (by omega) O (fun i acc M' => M' = M1 ∧ acc = iV (nl.take i)) ⟨rfl, rfl⟩ ?_ ?_
    · rintro j H4 M4 p acc hp hj hl3 ⟨rfl, rfl⟩ O3
      have hj2 : j < w := by omega
      have hR3 := freshA hR (fresh1 (o := .lst (iV (nl.take j))) hp)
      have hV3 := hVs hB' O3 hR3
      have hptH := O3.mem (x := (pt, .lst (iV l))) (List.mem_append_left _ hpt)
      dsimp only at hptH
      obtain ⟨n, hn⟩ : ∃ x, l[j]? = some x := ⟨_, List.getElem?_eq_getElem (by omega)⟩
      obtain ⟨m, hm⟩ : ∃ x, u[j]? = some x := ⟨_, List.getElem?_eq_getElem (by omega)⟩
      have htH : H4 t = some (.tup (iV u)) := hV3.2.2 i u t hu ht
      walk_at "gw"
      refine NF.x_ixL hptH (L2.atI_nat (iV_at hn)) ?_
      walk_at "gw"
      refine NF.x_ixT htH (L2.atI_nat (iV_at hm)) ?_
      walk_at "gw"
      refine NF.lc_done O3 hl3 (by rw [sizeLine_eq]; omega) ⟨rfl, ?_⟩
      have e : nl[j]? = some (n + (d - 3) * m) := by rw [hnl, List.getElem?_zipWith, hn, hm]
      rw [take_snoc e]
      unfold iV
      rw [List.map_append]
      rfl
    · rintro p H4 M4 acc hp hl3 ⟨rfl, rfl⟩ O3
      walk_at "gw"
      refine ⟨_, _, _, p, nl, _, _, rfl, hB', O3, freshA hR (fresh1 hp), ?_, hnll, fun k => ?_⟩
      · rw [Int.toNat_natCast, ← hnll, List.take_length]
        simp
      · rw [cs_snoc hu, hnl]
        exact sum_bd (by omega) hll huw d0 d1 (hlb k)
  · rintro _ H3 ⟨u4, u5, u6, pt, l, M', R, rfl, hB', O, hR, hpt, hll, hlb⟩
    rw [List.length_map, hvl, List.take_length] at hlb
    walk_at "gw"
    refine NF.x_tupOf O (O.mem (x := (pt, .lst (iV l))) hpt) fun p H4 hp O => ?_
    exact k p l _ _ hp hB' (O.dropTo hR) hll hlb


def cB : Nat → Nat
  | 0 => 0
  | i + 1 => 4 * cB i + 17 ^ 24
theorem cB_le {i : Nat} (h : i ≤ 8) : cB i ≤ 21845 * 17 ^ 24 := by
  have key : ∀ i, cB i ≤ cB (i + 1) := fun i => by show cB i ≤ 4 * cB i + 17 ^ 24; omega
  have h8 : cB 8 = 21845 * 17 ^ 24 := by decide +kernel
  have mono : ∀ (d i : Nat), cB i ≤ cB (i + d) := fun d => by
    induction d with
    | zero => exact fun i => Nat.le_refl _
    | succ d ih => exact fun i => Nat.le_trans (ih i) (key (i + d))
  have := mono (8 - i) i
  rw [show i + (8 - i) = 8 by omega, h8] at this
  exact this
def VT (T : List (Addr × HO)) (vs : List Addr) (L : List (List Int)) : Prop := vs.length = L.length ∧ ∀ (i : Nat) (l : List Int) (t : Addr), L[i]? = some l → vs[i]? = some t → (t, HO.tup (iV l)) ∈ T
theorem VT.mono {T T' : List (Addr × HO)} {vs : List Addr} {L : List (List Int)} (h : VT T vs L) (hs : ∀ x ∈ T, x ∈ T') : VT T' vs L := ⟨h.1, fun i l t hl ht => hs _ (h.2 i l t hl ht)⟩
theorem VT.snoc {T : List (Addr × HO)} {vs : List Addr} {L : List (List Int)} {t : Addr} {l : List Int} (h : VT T vs L) (h1 : (t, HO.tup (iV l)) ∈ T) : VT T (vs ++ [t]) (L ++ [l]) := by
  refine ⟨by rw [List.length_append, List.length_append, h.1]; rfl, fun i l' t' hl ht => ?_⟩
  by_cases hi : i < L.length
  · rw [List.getElem?_append_left hi] at hl
    rw [List.getElem?_append_left (by rw [h.1]; exact hi)] at ht
    exact h.2 i l' t' hl ht
  · have h3 := (List.getElem?_eq_some_iff.mp hl).1
    rw [List.length_append, List.length_singleton] at h3
    have e : i = L.length := by omega
    subst e
    rw [List.getElem?_append_right (Nat.le_refl _), Nat.sub_self] at hl
    rw [List.getElem?_append_right (by rw [h.1]; exact Nat.le_refl _), h.1, Nat.sub_self] at ht
    have e1 : l = l' := by simpa using hl
    have e2 : t = t' := by simpa using ht
    subst e1 e2
    exact h1
theorem VT.in_ {T : List (Addr × HO)} {vs : List Addr} {L : List (List Int)} {pv : Addr} (h : VT T vs L) : VsIn ((pv, HO.lst (vs.map V.ref)) :: T) pv L :=
  ⟨vs, List.mem_cons_self .., h.1, fun i l t hl ht => List.mem_cons_of_mem _ (h.2 i l t hl ht)⟩
/-- the vectors so far -/
def VI (H : Hp) (a : Addr) (A : List Addr) (pv : Addr) (w i : Nat) (H' : Hp) : Prop := ∃ (vs : List Addr) (L : List (List Int)) (M' T : List (Addr × HO)), In BxD a A M' ∧ Own H H' M' ((pv, HO.lst (vs.map V.ref)) :: T) ∧ (∀ x ∈ T, H x.1 = none) ∧ VT T vs L ∧ L.length = i ∧ (∀ l ∈ L, l.length = w) ∧ ∀ k, cs L k ≤ cB i
theorem VI.push {H H' : Hp} {a : Addr} {A : List Addr} {pv : Addr} {w i : Nat} {vs : List Addr} {L : List (List Int)} {M' T T' : List (Addr × HO)} {t : Addr} {l : List Int} (hB : In BxD a A M') (O : Own H H' M' ((pv, HO.lst (vs.map V.ref ++ [V.ref t])) :: T')) (hT : ∀ x ∈ T', H x.1 = none) (hV : VT T vs L) (hs : ∀ x ∈ T, x ∈ T') (ht : (t, HO.tup (iV l)) ∈ T') (hL : L.length = i) (hw : ∀ l ∈ L, l.length = w) (hl : l.length = w) (hc : ∀ k, cs L k ≤ cB i) (hb : ∀ k, (l.getD k 0).natAbs ≤ 3 * cB i + 17 ^ 24) : VI H a A pv w (i + 1) H' := by
  refine ⟨vs ++ [t], L ++ [l], M', T', hB, by rw [List.map_append]; exact O, hT, (hV.mono hs).snoc ht, by rw [List.length_append, hL]; rfl, fun x hx => ?_, fun k => ?_⟩
  · rcases List.mem_append.mp hx with hx | hx
    · exact hw x hx
    · rw [List.mem_singleton.mp hx]; exact hl
  · rw [cs_add]
    have := hc k
    have := hb k
    show _ ≤ 4 * cB i + 17 ^ 24
    omega
theorem x_share {Y G : Prop} (h : Y → G) (r : Y) : G := h r
theorem x_fal {X Y : Prop} (h : Y) : if false = true then X else Y := by rw [if_neg (by decide)]; exact h
theorem getD_le {l : List Int} {c : Nat} (h : ∀ x ∈ l, x.natAbs ≤ c) (k : Nat) : (l.getD k 0).natAbs ≤ c := by
  rw [List.getD_eq_getElem?_getD]
  cases e : l[k]? with
  | none => exact Nat.zero_le _
  | some x => exact h x (List.mem_of_getElem? e)
def spVecs : Sp := fun vs H Q _ => ∃ (a : Addr) (A : List Addr) (M : List (Addr × HO)) (w : Nat), vs = [.ref a, .int (w : Nat)] ∧ In BxD a A M ∧ Own H H M [] ∧ 1 ≤ w ∧ w ≤ 8 ∧
  ∀ pv H' M' N L, In BxD a A M' → Own H H' M' N → (∀ x ∈ N, H x.1 = none) → VsIn N pv L → (∀ l ∈ L, l.length = w) → L.length ≤ 8 → (∀ k, cs L k ≤ 21845 * 17 ^ 24) → Q (.ref pv) H'
theorem hl_spVecs : ∀ vs H Q E, spVecs vs H Q E → vs.length = 2 := fun vs H Q E ⟨_, _, _, _, e, _⟩ => by rw [e]; rfl
abbrev NM_law_vectors : List Str := ["box", "width", "vectors", "great", "k", "way", "j"]
theorem sc_law_vectors : FnScope NM_law_vectors ["box", "width"] (defScope s_law_vectors) := ⟨rfl, rfl, rfl, by decide +kernel, rfl, by decide +kernel, by decide +kernel⟩
theorem d_law_vectors (F : Fn0 K mg "_law_vectors" s_law_vectors) (T : Txt P w K mg) (D_law_take : Def P w K mg base 1 "_law_take" ["box", "size"] spDraw) (D_law_sum : Def P w K mg base 2 "_law_sum" ["box", "vectors", "width"] spSum) (D_law_entry : Def P w K mg base 3 "_law_entry" ["box", "great"] spEntry) :
    Def P w K mg base 4 "_law_vectors" ["box", "width"] spVecs := by
  refine Def.mk0 F sc_law_vectors (by first | exact NF.hl_spB | exact NF.hl_spP | exact NF.hl_spNew | exact NF.hl_spPX | exact NF.hl_spN | exact NF.hl_spNX | exact hl_spVecs) (fun _ _ _ _ _ _ us hl => match us, hl with | [_, _], _ => rfl) (fun cdv A outer s H vs Q E hr h => ?_)
  refine ⟨_, (pss_cons (ps_set (i := 2) sc_law_vectors.nd rfl (Or.inl rfl) (pe_lst pa_nil))
      (pss_cons (ps_set (i := 3) sc_law_vectors.nd rfl (Or.inr rfl) (pe_d D_law_take (hr.mono (by decide)) rfl (pa_cons (pv 0) (pa_cons pe_int pa_nil))))
      (pss_cons (ps_for PassesOwn.never rfl (pi_range1 (by rfl) T.b_range (pa_cons (pe_d D_law_take (hr.mono (by decide)) rfl (pa_cons (pv 0) (pa_cons pe_int pa_nil))) pa_nil)) (pg_name (i := 4) sc_law_vectors.nd rfl (Or.inl rfl))
      (pss_cons (ps_set (i := 5) sc_law_vectors.nd rfl (Or.inl rfl) (pe_d D_law_take (hr.mono (by decide)) rfl (pa_cons (pv 0) (pa_cons pe_int pa_nil))))
      (pss_one (ps_if (pt_cmpR op_eq (pv 5) pe_int (nomark _))
      (pss_one (ps_expr (pe_bm PySem.F.plainAttrs_list PySem.F.slot_list_append PySem.F.type_list_append mt_append (pv 2) (pa_cons (pe_callTy (T := "tuple") callTupleOf (by rfl) T.b_tuple (by decide +kernel) (pa_cons (pe_op op_rep (pe_lst (pa_cons pe_int pa_nil)) (pv 1)) pa_nil)) pa_nil))))
      (pss_one (ps_if (PW.pt (pw_and (pt_cmpR op_eq (pv 5) pe_int (nomark _)) (pw_and1 (ptTruth (pv 2) (by intro _; rfl)))))
      (pss_one (ps_expr (pe_bm PySem.F.plainAttrs_list PySem.F.slot_list_append PySem.F.type_list_append mt_append (pv 2) (pa_cons (pe_ix ix_list (pv 2) (pe_d D_law_take (hr.mono (by decide)) rfl (pa_cons (pv 0) (pa_cons (pe_callB (id := "len") callLen (by rfl) T.b_len (by decide +kernel) (pa_cons (pv 2) pa_nil)) pa_nil))) (fun _ _ => rfl)) pa_nil))))
      (pss_one (ps_if (PW.pt (pw_and (pt_cmpR op_eq (pv 5) pe_int (nomark _)) (pw_and1 (ptTruth (pv 2) (by intro _; rfl)))))
      (pss_one (ps_expr (pe_bm PySem.F.plainAttrs_list PySem.F.slot_list_append PySem.F.type_list_append mt_append (pv 2) (pa_cons (pe_d D_law_sum (hr.mono (by decide)) rfl (pa_cons (pv 0) (pa_cons (pv 2) (pa_cons (pv 1) pa_nil)))) pa_nil))))
      (pss_one (ps_expr (pe_bm PySem.F.plainAttrs_list PySem.F.slot_list_append PySem.F.type_list_append mt_append (pv 2) (pa_cons (pe_callTy (T := "tuple") callTupleOf (by rfl) T.b_tuple (by decide +kernel) (pa_cons (pe_lc (own := [("j", 6)]) (g := gName 6) rfl sc_law_vectors.nd (pi_range1 (by rfl) T.b_range (pa_cons (pv 1) pa_nil)) (blkOk_by (own := [("j", 6)]) (N := NM_law_vectors) (sc := defScope s_law_vectors) (by decide +kernel)) (fun _ _ _ _ _ => (pg_name (i := 6) sc_law_vectors.nd rfl (Or.inl rfl))) (fun _ _ _ _ _ => pts_nil) (fun _ _ _ _ _ => (pe_d D_law_entry (hr.mono (by decide)) rfl (pa_cons (pv 0) (pa_cons (pv 3) pa_nil))))) pa_nil)) pa_nil))))))))))))
      (pss_one (ps_ret (pv 2)))))), ?_⟩
  try dsimp only [cxOf, Cx.nox, Cx.wish]
  obtain ⟨a, A, M, w, rfl, hB, O, hw1, hw8, k⟩ := h
  walk_at "gw"
  refine NF.x_newL O (by decide +kernel) fun pv H1 hpv O => ?_
  walk_at "nO"
  walk_at "gw"
  refine x_draw O hB (by decide) (by decide) fun g H2 M2 g0 g1 hB O => ?_
  walk_at "gw"
  refine x_draw O hB (by decide) (by decide) fun n H3 M3 n0 n1 hB O => ?_
  walk_at "gw"
  refine NF.f_rng1 ⟨by omega, by omega⟩ (fun i σ H' => ∃ (u4 u5 u6 : Option V), σ = [some (.ref a), some (.int (w : Nat)), some (.ref pv), some (.int g), u4, u5, u6] ∧ VI H a A pv w i H') ⟨_, _, _, rfl, [], [], _, [], hB, O, fun x hx => absurd hx List.not_mem_nil, ⟨rfl, fun i l t hl => by simp at hl⟩, rfl, fun l hl => absurd hl List.not_mem_nil, fun k => Nat.le_refl _⟩ ?_ ?_
  · rintro i _ H2 hi ⟨u4, u5, u6, rfl, vs, L, M', T', hB, O, hT, hV, hL, hLw, hc⟩
    have hi8 : i < 8 := by omega
    have hvl := hV.1
    walk_at "gw"
    refine x_draw O hB (by decide) (by decide) fun d H1 M1 d0 d1 hB O => ?_
    walk_at "gw"
    refine NF.x_iteI (fun h0 => ?_) (fun h0 => ?_)
    · walk_at "gw"
      refine NF.x_newL O (by walk_at "len") fun p0 H4 hp0 O => ?_
      walk_at "nO"
      walk_at "gw"
      refine NF.x_rep (xs := [.int 0]) O (O.mem (x := (p0, .lst [.int 0])) (by simp)) (by omega) (by omega) (by rw [sizeLine_eq]; simp; omega) fun p1 H2 hp1 O => ?_
      rw [rep_one] at O
      walk_at "nO"
      walk_at "gw"
      refine NF.x_tupOf O (O.mem (x := (p1, .lst (List.replicate (w : Int).toNat (.int 0)))) (by simp)) fun p2 H5 hp2 O => ?_
      walk_at "nO"
      walk_at "gw"
      have ez : (p2, HO.tup (List.replicate (w : Int).toNat (V.int 0))) = (p2, HO.tup (iV (List.replicate w 0))) := by unfold iV; rw [List.map_replicate]; rfl
      refine ⟨_, _, _, rfl, VI.push (T := T') (t := p2) (l := List.replicate w 0) hB O ?_ hV (fun x hx => by simp [hx]) (by rw [← ez]; simp) hL hLw (by simp) hc fun k => by rw [rep_z]; exact Nat.zero_le _⟩
      exact freshA (freshA (freshA hT (fresh1 hp0)) (fresh1 hp1)) (fresh1 hp2)
    · walk_at "gw"
      refine' x_share (fun hY => ?main1) ?rest1
      case main1 =>
        refine NF.x_iteI (fun h1 => ?_) (fun _ => x_fal hY)
        walk_at "gw"
        refine NF.x_itb (fun hne => ?_) (fun _ => hY)
        have hvp : 0 < vs.length := by
          cases vs with
          | nil => cases hne
          | cons x vs => exact Nat.succ_pos _
        walk_at "gw"
        have hml : (vs.map V.ref).length = vs.length := List.length_map ..
        refine x_draw O hB (by omega) (by omega) fun d2 H5 M5 e0 e1 hB O => ?_
        walk_at "gw"
        refine NF.x_ixLo (O.mem (x := (pv, .lst (vs.map V.ref))) (by simp)) e0 e1 fun v2 hv2 _ => ?_
        obtain ⟨t, ht, rfl⟩ : ∃ t, vs[d2.toNat]? = some t ∧ V.ref t = v2 := by
          rw [List.getElem?_map] at hv2
          cases h : vs[d2.toNat]? with
          | none => rw [h] at hv2; cases hv2
          | some t => rw [h] at hv2; exact ⟨t, rfl, Option.some.inj hv2⟩
        have htl := (List.getElem?_eq_some_iff.mp ht).1
        obtain ⟨l, hl⟩ : ∃ l, L[d2.toNat]? = some l := ⟨_, List.getElem?_eq_getElem (by omega)⟩
        have hlm := List.mem_of_getElem? hl
        walk_at "gw"
        exact ⟨_, _, _, rfl, VI.push (T := T') (t := t) (l := l) hB O hT hV (fun x hx => hx) (hV.2 _ l t hl ht) hL hLw (hLw l hlm) hc fun k => by
          have := cs_mem hlm k
          have := hc k
          omega⟩
      walk_at "gw"
      refine' x_share (fun hY => ?main2) ?rest2
      case main2 =>
        refine NF.x_iteI (fun h1 => ?_) (fun _ => x_fal hY)
        walk_at "gw"
        refine NF.x_itb (fun hne => ?_) (fun _ => hY)
        walk_at "gw"
        refine ⟨a, pv, A, _, L, w, rfl, hB, O.sub, (hV.in_ (pv := pv)).at O, hLw, fun k => ?_, by omega, hw1, hw8, fun p l H5 M5 hp hB5 O5 hll hlb => ?_⟩
        · exact Nat.lt_of_le_of_lt (Nat.le_trans (hc k) (cB_le (by omega))) (by decide +kernel)
        have hpH := O.base_free hp
        have O := O.call O5 (hB5.e.trans hB.e.symm) (fresh1 hp)
        have hB := hB5
        walk_at "nO"
        walk_at "gw"
        exact ⟨_, _, _, rfl, VI.push (T := T') (t := p) (l := l) hB O (freshA hT (fresh1 hpH)) hV (fun x hx => by simp [hx]) (by simp) hL hLw hll hc fun k => by
          have := hlb k
          have := hc k
          omega⟩
      walk_at "gw"
      refine lc_rng1p (by omega) O (fun i acc M' => In BxD a A M' ∧ ∃ l : List Int, acc = iV l ∧ l.length = i ∧ ∀ x ∈ l, x.natAbs ≤ 17 ^ 24) ⟨hB, [], rfl, rfl, fun x hx => absurd hx List.not_mem_nil⟩ ?_ ?_
      · rintro j H5 M5 p acc hp hj hl3 ⟨hB, l, rfl, hlj, hlb⟩ O
        walk_at "gw"
        refine NF.use_spB (rest := [.int g]) O hB rfl ⟨g, rfl⟩ fun v H6 M6 hB O ⟨x, ex, x0, x1⟩ => ?_
        subst ex
        refine NF.lc_done O hl3 (by rw [sizeLine_eq]; omega) ⟨hB, l ++ [x], by unfold iV; rw [List.map_append]; rfl, by rw [List.length_append, hlj]; rfl, fun y hy => ?_⟩
        rcases List.mem_append.mp hy with hy | hy
        · exact hlb y hy
        · rw [List.mem_singleton.mp hy]
          have hE : EB = ((17 ^ 24 : Nat) : Int) := by decide +kernel
          rw [hE] at x0 x1
          revert x0 x1
          generalize (17 ^ 24 : Nat) = c
          intro x0 x1
          omega
      · rintro p H5 M5 acc hp hl3 ⟨hB, l, rfl, hlj, hlb⟩ O
        walk_at "gw"
        refine NF.x_tupOf O (O.mem (x := (p, .lst (iV l))) (by simp)) fun p2 H6 hp2 O => ?_
        walk_at "nO"
        walk_at "gw"
        exact ⟨_, _, _, rfl, VI.push (T := T') (t := p2) (l := l) hB O (freshA (freshA hT (fresh1 hp)) (fresh1 hp2)) hV (fun x hx => by simp [hx]) (by simp) hL hLw (by rw [hlj]; exact Int.toNat_natCast w) hc fun k => by
          have := getD_le hlb k
          omega⟩
  · rintro _ H2 ⟨u4, u5, u6, rfl, vs, L, M', T', hB, O, hT, hV, hL, hLw, hc⟩
    walk_at "gw"
    have hn8 : n.toNat ≤ 8 := by omega
    exact k pv _ _ _ L hB O (fun x hx => (List.mem_cons.mp hx).elim (fun e => by rw [e]; exact hpv) (hT x)) hV.in_ hLw (by omega) fun k => Nat.le_trans (hc k) (cB_le hn8)


theorem ints_lay (l : List Int) : PyData.canLayAll0 (l.map PyData.int) = true ∧ PyData.depthAll (l.map PyData.int) = 0 := by
  induction l with
  | nil => exact ⟨by simp only [List.map_nil, PyData.canLayAll0], by simp only [List.map_nil, PyData.depthAll]⟩
  | cons x l ih =>
    obtain ⟨a, b⟩ := ih
    refine ⟨?_, ?_⟩
    · simp only [List.map_cons, PyData.canLayAll0, PyData.canLay0, a, Bool.and_self]
    · simp only [List.map_cons, PyData.depthAll, PyData.depth, b, Nat.max_self]
def pT (l : List Int) : PyData := .tuple (l.map PyData.int)
theorem vecs_lay (L : List (List Int)) : PyData.canLayAll0 (L.map pT) = true ∧ PyData.depthAll (L.map pT) ≤ 1 := by
  induction L with
  | nil => exact ⟨by simp only [List.map_nil, PyData.canLayAll0], by simp only [List.map_nil, PyData.depthAll]; decide⟩
  | cons x l ih =>
    obtain ⟨a, b⟩ := ih
    obtain ⟨a1, b1⟩ := ints_lay x
    refine ⟨?_, ?_⟩
    · simp only [List.map_cons, PyData.canLayAll0, pT, PyData.canLay0, a, a1, Bool.and_self]
    · simp only [List.map_cons, PyData.depthAll, pT, PyData.depth, b1]
      exact Nat.max_le.mpr ⟨by decide, b⟩
theorem ints_dp {K : PySem.W.Frag} {H : Hp} : ∀ l : List Int, DpAll K H (iV l) (l.map PyData.int)
  | [] => .nil
  | x :: l => .cons (.int x) (ints_dp l)
theorem vecs_dp {K : PySem.W.Frag} {H : Hp} : ∀ (vs : List Addr) (L : List (List Int)), vs.length = L.length → (∀ (i : Nat) (l : List Int) (t : Addr), L[i]? = some l → vs[i]? = some t → H t = some (.tup (iV l))) → DpAll K H (vs.map V.ref) (L.map pT)
  | [], [], _, _ => .nil
  | [], _ :: _, h, _ => absurd h (by simp)
  | _ :: _, [], h, _ => absurd h (by simp)
  | t :: vs, l :: L, h, k => .cons (.tup (SqT.of (k 0 l t rfl rfl)) (ints_dp l)) (vecs_dp vs L (by simpa using h) fun i l' t' h1 h2 => k (i + 1) l' t' (by simpa using h1) (by simpa using h2))
theorem vecs_shaped (L : List (List Int)) : SeqAt.shaped (.list (L.map pT)) = true := by
  obtain ⟨a, b⟩ := vecs_lay L
  unfold SeqAt.shaped
  simp only [PyData.canLay0, PyData.depth, a, Bool.true_and]
  exact decide_eq_true (by omega)
theorem x_neDL {K : PySem.W.Frag} {H : Hp} {a b : Addr} {xs : List V} {ds : List PyData} {Q : VK} (ha : H a = some (.lst xs)) (hb : H b = some (.lst xs)) (hd : DpAll K H xs ds) (hs : SeqAt.shaped (.list ds) = true) (q : Q (.bl false) H) : rNeD K (.ref a) (.ref b) H Q :=
  ⟨_, _, .lst (SqL.of ha) hd, .lst (SqL.of hb) hd, hs, hs, by rw [SeqAt.eqv_refl _ (SeqAt.canLay_of_shaped hs)]; exact q⟩
theorem VsAt.rev {H : Hp} {p : Addr} {vs : List Addr} {L : List (List Int)} (h2 : vs.length = L.length) (h3 : ∀ (i : Nat) (l : List Int) (t : Addr), L[i]? = some l → vs[i]? = some t → H t = some (.tup (iV l))) (hp : H p = some (.lst (vs.map V.ref).reverse)) : VsAt H p L.reverse := by
  refine ⟨vs.reverse, by rw [List.map_reverse]; exact hp, by rw [List.length_reverse, List.length_reverse, h2], fun i l t hl ht => ?_⟩
  have h4 := (List.getElem?_eq_some_iff.mp hl).1
  rw [List.length_reverse] at h4
  rw [List.getElem?_reverse h4] at hl
  rw [List.getElem?_reverse (by rw [h2]; exact h4), h2] at ht
  exact h3 _ l t hl ht
theorem VOk.rev {w : Nat} {L : List (List Int)} (h : VOk w L) : VOk w L.reverse := ⟨fun l hl => h.len l (List.mem_reverse.mp hl), fun l hl => h.b l (List.mem_reverse.mp hl), by rw [List.length_reverse]; exact h.few, h.w1⟩
def spCAg : Sp := fun vs H Q _ => ∃ (va pv pp : Addr) (v : List Int) (L : List (List Int)) (rows : List (Nat × List Int)) (w : Nat), vs = [.ref va, .ref pv, .ref pp] ∧ H va = some (.tup (iV v)) ∧ VsAt H pv L ∧ PvAt H pp rows ∧ VOk w L ∧ CovB w rows L ∧ v.length = w ∧ bd 120 v ∧ ∀ H', Own H H' [] [] → Q (.bl true) H'
theorem hl_spCAg : ∀ vs H Q E, spCAg vs H Q E → vs.length = 3 := fun vs H Q E ⟨_, _, _, _, _, _, _, e, _⟩ => by rw [e]; rfl
abbrev NM_law_combines_agree : List Str := ["vector", "vectors", "pivots", "due", "passed"]
theorem sc_law_combines_agree : FnScope NM_law_combines_agree ["vector", "vectors", "pivots"] (defScope s_law_combines_agree) := ⟨rfl, rfl, rfl, by decide +kernel, rfl, by decide +kernel, by decide +kernel⟩
theorem d_law_combines_agree (F : Fn0 K mg "_law_combines_agree" s_law_combines_agree) (T : Txt P w K mg) (D_law_same : Def P w K mg base 1 "_law_same" ["told", "due"] spSame) (D_law_lead : Def P w K mg base 1 "_law_lead" ["rest"] spLead) (D_combines : Def P w K mg base 3 "combines" ["vector", "vectors"] spComb) (D_law_reduced : Def P w K mg base 1 "_law_reduced" ["vector", "pivots"] spRed) :
    Def P w K mg base 4 "_law_combines_agree" ["vector", "vectors", "pivots"] spCAg := by
  refine Def.mk0 F sc_law_combines_agree (by first | exact NF.hl_spB | exact NF.hl_spP | exact NF.hl_spNew | exact NF.hl_spPX | exact NF.hl_spN | exact NF.hl_spNX | exact hl_spCAg) (fun _ _ _ _ _ _ us hl => match us, hl with | [_, _, _], _ => rfl) (fun cdv A outer s H vs Q E hr h => ?_)
  refine ⟨_, (pss_cons (ps_set (i := 3) sc_law_combines_agree.nd rfl (Or.inl rfl) (pe_cmpR op_lt (pe_d D_law_lead (hr.mono (by decide)) rfl (pa_cons (pe_d D_law_reduced (hr.mono (by decide)) rfl (pa_cons (pv 0) (pa_cons (pv 2) pa_nil))) pa_nil)) pe_int (nomark _)))
      (pss_cons (ps_set (i := 4) sc_law_combines_agree.nd rfl (Or.inl rfl) (pe_callTy (T := "list") callListOf (by rfl) T.b_list (by decide +kernel) (pa_cons (pv 1) pa_nil)))
      (pss_cons (ps_if (PW.pt (pw_or (pt_not (pt_val (pe_d D_law_same (hr.mono (by decide)) rfl (pa_cons (pe_d D_combines (hr.mono (by decide)) rfl (pa_cons (pv 0) (pa_cons (pv 4) pa_nil))) (pa_cons (pv 3) pa_nil))))) (pw_or1 (pt_cmpR (op_neD hr.units) (pv 4) (pv 1) (nomark _)))))
      (pss_one (ps_ret pe_bl))
      pss_nil)
      (pss_one (ps_ret (pe_d D_law_same (hr.mono (by decide)) rfl (pa_cons (pe_d D_combines (hr.mono (by decide)) rfl (pa_cons (pv 0) (pa_cons (pe_revL (pv 1)) pa_nil))) (pa_cons (pv 3) pa_nil)))))))), ?_⟩
  try dsimp only [cxOf, Cx.nox, Cx.wish]
  obtain ⟨va, pv, pp, v, L, rows, w, rfl, hva, hV, hP, hVo, Cv, hvw, hvb, k⟩ := h
  have O := NF.Own.refl0 H
  have hf := hVo.few
  have hw := hVo.w1
  walk_at "gw"
  refine ⟨va, pp, v, rows, w, rfl, hva, hP, hvw, by omega, fun q hq => ⟨Cv.cov.ech.len q hq, Cv.cov.ech.lt q hq⟩, Nat.le_trans Cv.few hf, hvb, Cv.rb, fun p0 H1 hp0 O1 => ?_⟩
  have O := O.callN O1 (fresh1 hp0)
  walk_at "nO"
  walk_at "gw"
  have hrl := red_len hvw Cv.cov.ech.len
  refine ⟨p0, red rows v, rfl, O.mem (x := (p0, _)) (by simp), by omega, fun H2 ld hld O2 => ?_⟩
  have O := O.call0 O2
  walk_at "gw"
  obtain ⟨du, hdu, hdi⟩ : ∃ du : Bool, du = decide (ld < 0) ∧ (du = true ↔ Spn (SV L) (fn v)) := ⟨_, rfl, by
    rw [← Cv.cov.iff hvw, decide_eq_true_iff]
    rcases hld with ⟨hz, rfl⟩ | ⟨j, hj, hjz, rfl⟩
    · exact ⟨fun _ => hz, fun _ => by decide⟩
    · refine ⟨fun h => absurd h (by omega), fun hz => absurd ?_ hjz⟩
      exact congrFun (allZ_fn.mp hz) j⟩
  rw [← hdu]
  obtain ⟨vs, hpv, hvl, hvt⟩ := hV
  have hf1 := fresh1 (o := .lst (iV (red rows v))) hp0
  refine NF.x_listOf O (.inl (Own.staysR O hf1 hpv)) fun p1 H3 hp1 O => ?_
  walk_at "nO"
  have hf2 := freshA hf1 (fresh1 (o := .lst (vs.map V.ref)) hp1)
  walk_at "gw"
  refine ⟨va, p1, v, L, w, rfl, Own.staysR O hf2 hva, ⟨vs, O.mem (x := (p1, _)) (by simp), hvl, fun i l t hl ht => Own.staysR O hf2 (hvt i l t hl ht)⟩, hVo, hvw, hvb, fun b H4 hb O4 => ?_⟩
  have O := O.call0 O4
  have eb : b = du := Bool.eq_iff_iff.mpr (hb.trans hdi.symm)
  subst eb
  walk_at "gw"
  refine NF.use_spP O rfl ⟨_, rfl⟩ fun r H5 O er => ?_
  subst er
  walk_at "gw"
  refine x_neDL (O.mem (x := (p1, .lst (vs.map V.ref))) (by simp)) (Own.staysR O hf2 hpv) (vecs_dp vs L hvl fun i l t hl ht => Own.staysR O hf2 (hvt i l t hl ht)) (vecs_shaped L) ?_
  refine ⟨false, rfl, ?_⟩
  refine NF.x_itb (fun h => absurd h (by decide)) (fun _ => ?_)
  walk_at "gw"
  refine x_revL ?_
  walk_at "gw"
  refine ⟨pv, vs.map V.ref, rfl, SqL.of (Own.staysR O hf2 hpv), fun p2 hp2 => ?_⟩
  have hp2H := O.base_free hp2
  have O := O.new (o := .lst (vs.map V.ref).reverse) hp2
  walk_at "nO"
  have hf3 := freshA hf2 (fresh1 (o := .lst (vs.map V.ref).reverse) hp2H)
  walk_at "gw"
  refine ⟨va, p2, v, L.reverse, w, rfl, Own.staysR O hf3 hva, VsAt.rev hvl (fun i l t hl ht => Own.staysR O hf3 (hvt i l t hl ht)) (O.mem (x := (p2, _)) (by simp)), hVo.rev, hvw, hvb, fun b2 H7 hb2 O7 => ?_⟩
  have O := O.call0 O7
  have eb2 : b2 = b := Bool.eq_iff_iff.mpr (hb2.trans (spn_rev.trans hdi.symm))
  subst eb2
  walk_at "gw"
  refine NF.use_spP O rfl ⟨_, rfl⟩ fun r H8 O er => ?_
  subst er
  refine k _ ?_
  exact Own.dropTo (N := []) (by rw [List.append_nil]; exact O) hf3


theorem x_slT {K : PySem.W.Frag} {B H : Hp} {M R : List (Addr × HO)} {a : Addr} {xs : List V} {lo hi : Option Int} {Q : VK} (hx : H a = some (.tup xs)) (hw : ¬ (HT.sIx xs.length 0 lo = 0 ∧ HT.sIx xs.length xs.length hi = xs.length)) (O : Own B H M R) (q : ∀ p H1, B p = none → Own B H1 M (R ++ [(p, .tup (cutV xs lo hi))]) → Q (.ref p) H1) : rSlT K (.ref a) lo hi H Q :=
  ⟨a, xs, rfl, SqT.of hx, hw, fun p hp => q p _ (O.base_free hp) (O.new hp)⟩
theorem x_catAO {K : PySem.W.Frag} {B H : Hp} {M R : List (Addr × HO)} {a b : Addr} {xs ys : List V} {Q : VK} (O : Own B H M R) (h1 : (a, HO.tup xs) ∈ R) (h2 : (b, HO.tup ys) ∈ R) (hz : xs.length + ys.length ≤ sizeLine)
    (q : ∀ p H1 N, (∀ x ∈ N, B x.1 = none) → Own B H1 M (R ++ N) → (p, HO.tup (xs ++ ys)) ∈ R ++ N → Q (.ref p) H1) : rCatA K (.ref a) (.ref b) H Q := by
  refine x_catA (SqT.of (O.mem h1)) (SqT.of (O.mem h2)) hz (fun e => ?_) (fun _ e => ?_) fun p hp => ?_
  · exact q b H [] (fun x hx => absurd hx List.not_mem_nil) (by rw [List.append_nil]; exact O) (by rw [e, List.nil_append, List.append_nil]; exact h2)
  · exact q a H [] (fun x hx => absurd hx List.not_mem_nil) (by rw [List.append_nil]; exact O) (by rw [e, List.append_nil, List.append_nil]; exact h1)
  · exact q p _ [(p, _)] (fresh1 (O.base_free hp)) (O.new hp) (by simp)
theorem cut_lo {xs : List V} {k : Nat} (h : k ≤ xs.length) : cutV xs none (some (k : Int)) = xs.take k := by
  unfold cutV
  rw [HT.sIx_none, HT.sIx_nat, List.drop_zero, Nat.min_eq_left h, Nat.sub_zero]
theorem cut_hi {xs : List V} {k : Nat} (h : k ≤ xs.length) : cutV xs (some (k : Int)) none = xs.drop k := by
  unfold cutV
  rw [HT.sIx_none, HT.sIx_nat, Nat.min_eq_left h, ← List.length_drop, List.take_length]
theorem Own.repart {B H : Hp} {M R M' R' : List (Addr × HO)} (O : Own B H M R) (e : (M ++ R).Perm (M' ++ R')) : Own B H M' R' :=
  ⟨(e.map Prod.fst).nodup_iff.mp O.nd, fun x hx => O.at_ x (e.mem_iff.mpr hx), fun b hb o q => O.out b (fun z => hb ((e.map Prod.fst).mem_iff.mp z)) o q⟩
/-- another box in place of the old one -/
theorem own_box {B H H' : Hp} {M M' R : List (Addr × HO)} (O : Own B H M R) (hM : ∀ x ∈ M, B x.1 = none) (C : Own H H' M' []) (hf : ∀ x ∈ M', H x.1 = none) : Own B H' M' R := by
  have O1 : Own B H [] R := (O.repart (M' := []) (R' := M ++ R) (by rw [List.nil_append])).dropTo hM
  exact (O1.callN C.opened hf).repart (by rw [List.nil_append]; exact List.perm_append_comm)
theorem bx_fresh {B : Hp} {a : Addr} {A : List Addr} {M : List (Addr × HO)} (hB : In BxD a A M) (h : ∀ p ∈ A, B p = none) : ∀ x ∈ M, B x.1 = none := fun x hx => h x.1 (by rw [← hB.e]; exact List.mem_map_of_mem hx)
theorem eqvAll_ints : ∀ l m : List Int, PyData.eqvAll (l.map PyData.int) (m.map PyData.int) = decide (l = m)
  | [], [] => by simp only [List.map_nil, PyData.eqvAll]; rfl
  | [], y :: m => by simp only [List.map_nil, List.map_cons, PyData.eqvAll]; rfl
  | x :: l, [] => by simp only [List.map_nil, List.map_cons, PyData.eqvAll]; rfl
  | x :: l, y :: m => by
    simp only [List.map_cons, PyData.eqvAll, PyData.eqv, eqvAll_ints l m]
    by_cases h1 : x = y
    · by_cases h2 : l = m
      · rw [h1, h2]; simp
      · simp [h1, h2]
    · simp [h1]
theorem ints_shaped (l : List Int) : SeqAt.shaped (pT l) = true := by
  obtain ⟨a, b⟩ := ints_lay l
  unfold SeqAt.shaped pT
  simp only [PyData.canLay0, PyData.depth, a, b]
  decide
theorem x_eqTI {K : PySem.W.Frag} {H : Hp} {a b : Addr} {l m : List Int} {Q : VK} (ha : H a = some (.tup (iV l))) (hb : H b = some (.tup (iV m))) (q : Q (.bl (decide (l = m))) H) : rEqD K (.ref a) (.ref b) H Q :=
  ⟨_, _, .tup (SqT.of ha) (ints_dp l), .tup (SqT.of hb) (ints_dp m), ints_shaped l, ints_shaped m, by
    have e : PyData.eqv (.tuple (l.map PyData.int)) (.tuple (m.map PyData.int)) = decide (l = m) := by rw [PyData.eqv]; exact eqvAll_ints l m
    rw [e]
    exact q⟩
theorem spn_nil {w : Nat} {v : List Int} (h : v.length = w) : Spn (SV []) (fn v) ↔ allZ v := ((Cov.nil w).iff h).symm
theorem allZ_rep {w : Nat} {v : List Int} (h : v.length = w) : allZ v ↔ v = List.replicate w 0 :=
  ⟨fun q => List.eq_replicate_iff.mpr ⟨h, q⟩, fun q x hx => by rw [q] at hx; exact (List.mem_replicate.mp hx).2⟩
theorem lookup_relabel_fc {env : Env} : ∀ {names : List (Str × NameKind)} {x : Str}, (names.lookup x = some .cell ∨ names.lookup x = some .free) →
    ((names.map fun (n, k) => if (k == NameKind.free && env.scope.kind == .function && env.kindOf n == some .cell) then (n, NameKind.cell) else (n, k)).lookup x = some .cell ∨ (names.map fun (n, k) => if (k == NameKind.free && env.scope.kind == .function && env.kindOf n == some .cell) then (n, NameKind.cell) else (n, k)).lookup x = some .free)
  | [], _, h => by simp at h
  | (n, k) :: r, x, h => by
    have ih := @lookup_relabel_fc env r x
    show (List.lookup x ((if (k == NameKind.free && env.scope.kind == .function && env.kindOf n == some .cell) = true then (n, NameKind.cell) else (n, k)) :: _) = _) ∨ (List.lookup x ((if (k == NameKind.free && env.scope.kind == .function && env.kindOf n == some .cell) = true then (n, NameKind.cell) else (n, k)) :: _) = _)
    by_cases hc : (k == NameKind.free && env.scope.kind == .function && env.kindOf n == some .cell) = true
    · rw [if_pos hc]
      cases hx : x == n with
      | true => simp only [List.lookup_cons, hx]; left; trivial
      | false => simp only [List.lookup_cons, hx] at h ⊢; exact ih h
    · rw [if_neg hc]
      cases hx : x == n with
      | true => simp only [List.lookup_cons, hx] at h ⊢; exact h
      | false => simp only [List.lookup_cons, hx] at h ⊢; exact ih h
/-- a block within a block -/
theorem blkOk_in {N : List Str} {sc scope : Scope} {own : List (Str × Nat)} {cl : List (Str × Addr)} {C : Addr} {env : Env} (h : blkC N sc scope own = true) : BlkOk N (compEnvC sc cl C env).scope scope own := by
  have b := blkOk_by h
  exact ⟨b.kind, b.uniq, b.ix, fun y hy e => lookup_relabel_fc (b.free y hy e), b.own⟩
theorem mul_len {z : Str} {n : Int} (hz : z.length ≤ 11) (hn : n.toNat ≤ 60) : (Txt.mul z n).length ≤ 660 := by
  rw [len_tl, tl_mul, flat_len, ← len_tl]
  exact Nat.mul_le_mul hn hz
theorem mul_L {z : Str} {n : Int} (h : ∀ c ∈ tl z, isL c) : ∀ c ∈ tl (Txt.mul z n), isL c := fun c hc => by
  rw [tl_mul] at hc
  obtain ⟨l, hl, hcl⟩ := List.mem_flatten.mp hc
  rw [(List.mem_replicate.mp hl).2] at hcl
  exact h c hcl
theorem L_app {z y : Str} (h1 : ∀ c ∈ tl z, isL c) (h2 : ∀ c ∈ tl y, isL c) : ∀ c ∈ tl (z ++ y), isL c := fun c hc => by
  rw [tl_append] at hc
  exact (List.mem_append.mp hc).elim (h1 c) (h2 c)
def scl (f : Int) (l : List Int) : List Int := l.map (· * f)
theorem scl_at {f : Int} {l : List Int} {i : Nat} {x : Int} (h : l[i]? = some x) : (scl f l)[i]? = some (x * f) := by
  unfold scl
  rw [List.getElem?_map, h]
  rfl
theorem scl_len (f : Int) (l : List Int) : (scl f l).length = l.length := List.length_map ..
theorem scl_bd {f : Int} {l : List Int} {c : Nat} (h0 : 1 ≤ f) (h5 : f ≤ 5) (h : ∀ k, (l.getD k 0).natAbs ≤ c) : ∀ x ∈ scl f l, x.natAbs ≤ c * 5 := fun x hx => by
  unfold scl at hx
  obtain ⟨y, hy, rfl⟩ := List.mem_map.mp hx
  obtain ⟨i, hi⟩ := List.getElem?_of_mem hy
  have := h i
  rw [getD_of hi] at this
  rw [Int.natAbs_mul]
  exact Nat.mul_le_mul this (by omega)
theorem VT.nil : VT [] [] [] := ⟨rfl, fun i l t hl => by simp at hl⟩
theorem mem_le {l : List Int} {c : Nat} (h : ∀ k, (l.getD k 0).natAbs ≤ c) : ∀ x ∈ l, x.natAbs ≤ c := fun x hx => by
  obtain ⟨i, hi⟩ := List.getElem?_of_mem hx
  have := h i
  rw [getD_of hi] at this
  exact this
theorem near_ok {l : List Int} {w pl c : Nat} {x d : Int} (hl : l.length = w) (hp : l[pl]? = some x) (hd : d.natAbs ≤ 3) (h : ∀ y ∈ l, y.natAbs ≤ c) :
    ∃ nl : List Int, (iV l).take pl ++ [V.int (x + d)] ++ (iV l).drop (pl + 1) = iV nl ∧ nl.length = w ∧ ∀ y ∈ nl, y.natAbs ≤ c + 3 := by
  have hpl := (List.getElem?_eq_some_iff.mp hp).1
  refine ⟨l.take pl ++ [x + d] ++ l.drop (pl + 1), ?_, ?_, fun y hy => ?_⟩
  · unfold iV
    rw [List.map_append, List.map_append, List.map_take, List.map_drop]
    rfl
  · simp
    omega
  · rcases List.mem_append.mp hy with hy | hy
    · rcases List.mem_append.mp hy with hy | hy
      · have := h y (List.mem_of_mem_take hy)
        omega
      · rw [List.mem_singleton.mp hy]
        have := h x (List.mem_of_getElem? hp)
        omega
    · have := h y (List.mem_of_mem_drop hy)
      omega
theorem bd_of {l : List Int} {c : Nat} (h : ∀ y ∈ l, y.natAbs ≤ c) (hc : c < 2 ^ 120) : bd 120 l := fun y hy => Nat.lt_of_le_of_lt (h y hy) hc

def spLaw (K : PySem.W.Frag) : Sp := fun vs H Q _ => ∃ (a : Addr) (ns : List Int), vs = [.ref a] ∧ SqL K H a (ns.map V.int) ∧ ns.length ≤ 63 ∧ ∀ H', Q (.bl true) H'
theorem hl_spLaw {K : PySem.W.Frag} : ∀ vs H Q E, spLaw K vs H Q E → vs.length = 1 := fun vs H Q E h => by
  obtain ⟨a, ns, rfl, _⟩ := h
  rfl
abbrev NM_law : List Str := ["script", "box", "first", "second", "letter", "letters", "width", "vectors", "target", "factor", "place", "change", "near", "zero", "pivots", "vector", "k", "number"]
theorem sc_law : FnScope NM_law ["script"] (defScope s_law) := ⟨rfl, rfl, rfl, by decide +kernel, rfl, by decide +kernel, by decide +kernel⟩
theorem d_law {f : Addr} {fd : FuncData} (F : Fun K "law" "law" s_law f fd) (T : Txt P w K mg) (D_law_box : Def P w K mg base 1 "_law_box" ["script", "k"] (spBox K)) (D_law_letters : Def P w K mg base 2 "_law_letters" ["box", "most"] spLetters) (D_law_vectors : Def P w K mg base 4 "_law_vectors" ["box", "width"] spVecs) (D_law_sum : Def P w K mg base 2 "_law_sum" ["box", "vectors", "width"] spSum) (D_law_take : Def P w K mg base 1 "_law_take" ["box", "size"] spDraw) (D_law_span : Def P w K mg base 2 "_law_span" ["vectors"] spSpanL) (D_law_same : Def P w K mg base 1 "_law_same" ["told", "due"] spSame) (D_combines : Def P w K mg base 3 "combines" ["vector", "vectors"] spComb) (D_law_letters_agree : Def P w K mg base 2 "_law_letters_agree" ["letters"] spAgree) (D_law_combines_agree : Def P w K mg base 4 "_law_combines_agree" ["vector", "vectors", "pivots"] spCAg) (D_law_entry : Def P w K mg base 3 "_law_entry" ["box", "great"] spEntry) :
    FnOk P w K mg base CX0 5 f fd ["script"] (spLaw K) := by
  refine F.ok sc_law (by first | exact NF.hl_spB | exact NF.hl_spP | exact NF.hl_spNew | exact NF.hl_spPX | exact NF.hl_spN | exact NF.hl_spNX | exact hl_spLaw) (fun cdv A outer s H vs Q E hr h => ?_)
  refine ⟨_, (pss_cons (ps_set (i := 1) sc_law.nd rfl (Or.inr rfl) (pe_d D_law_box (hr.mono (by decide)) rfl (pa_cons (pv 0) (pa_cons pe_int pa_nil))))
      (pss_cons (ps_set (i := 2) sc_law.nd rfl (Or.inl rfl) (pe_d D_law_letters (hr.mono (by decide)) rfl (pa_cons (pv 1) (pa_cons pe_int pa_nil))))
      (pss_cons (ps_set (i := 3) sc_law.nd rfl (Or.inl rfl) (pe_d D_law_letters (hr.mono (by decide)) rfl (pa_cons (pv 1) (pa_cons pe_int pa_nil))))
      (Evl.pss_cut (ps_if (pt_cmpR op_eq (pe_d D_law_take (hr.mono (by decide)) rfl (pa_cons (pv 1) (pa_cons pe_int pa_nil))) pe_int (nomark _))
      (pss_one (ps_set (i := 2) sc_law.nd rfl (Or.inl rfl) (pe_op opMulS (pv 2) (pe_op op_add pe_int (pe_d D_law_take (hr.mono (by decide)) rfl (pa_cons (pv 1) (pa_cons pe_int pa_nil)))))))
      pss_nil)
      (pss_cons (ps_set (i := 4) sc_law.nd rfl (Or.inl rfl) (pe_ix ix_str pe_str (pe_d D_law_take (hr.mono (by decide)) rfl (pa_cons (pv 1) (pa_cons pe_int pa_nil))) (fun _ _ => rfl)))
      (pss_cons (ps_for PassesOwn.never rfl (pi_list (pe_lst (pa_cons (pv 2) (pa_cons (pv 3) (pa_cons (pe_op opAddS (pv 2) (pv 3)) (pa_cons (pv 4) (pa_cons pe_str pa_nil))))))) (pg_name (i := 5) sc_law.nd rfl (Or.inl rfl))
      (pss_one (ps_if (pt_not (pt_val (pe_d D_law_letters_agree (hr.mono (by decide)) rfl (pa_cons (pv 5) pa_nil))))
      (pss_one (ps_ret pe_bl))
      pss_nil)))
      (pss_cons (ps_set (i := 1) sc_law.nd rfl (Or.inr rfl) (pe_d D_law_box (hr.mono (by decide)) rfl (pa_cons (pv 0) (pa_cons pe_int pa_nil))))
      (pss_cons (ps_set (i := 6) sc_law.nd rfl (Or.inl rfl) (pe_op op_add pe_int (pe_d D_law_take (hr.mono (by decide)) rfl (pa_cons (pv 1) (pa_cons pe_int pa_nil)))))
      (pss_cons (ps_set (i := 7) sc_law.nd rfl (Or.inl rfl) (pe_d D_law_vectors (hr.mono (by decide)) rfl (pa_cons (pv 1) (pa_cons (pv 6) pa_nil))))
      (pss_cons (ps_set (i := 1) sc_law.nd rfl (Or.inr rfl) (pe_d D_law_box (hr.mono (by decide)) rfl (pa_cons (pv 0) (pa_cons pe_int pa_nil))))
      (pss_cons (ps_set (i := 8) sc_law.nd rfl (Or.inl rfl) (pe_d D_law_sum (hr.mono (by decide)) rfl (pa_cons (pv 1) (pa_cons (pv 7) (pa_cons (pv 6) pa_nil)))))
      (Evl.pss_cut (ps_if (pt_cmpR op_eq (pe_d D_law_take (hr.mono (by decide)) rfl (pa_cons (pv 1) (pa_cons pe_int pa_nil))) pe_int (nomark _))
      (pss_one (ps_set (i := 8) sc_law.nd rfl (Or.inl rfl) (pe_callTy (T := "tuple") callTupleOf (by rfl) T.b_tuple (by decide +kernel) (pa_cons (pe_lc (own := [("k", 16)]) (g := gName 16) rfl sc_law.nd (pi_range1 (by rfl) T.b_range (pa_cons (pv 6) pa_nil)) (blkOk_by (own := [("k", 16)]) (N := NM_law) (sc := defScope s_law) (by decide +kernel)) (fun _ _ _ _ _ => (pg_name (i := 16) sc_law.nd rfl (Or.inl rfl))) (fun _ _ _ _ _ => pts_nil) (fun _ _ _ _ _ => (pe_d D_law_entry (hr.mono (by decide)) rfl (pa_cons (pv 1) (pa_cons pe_int pa_nil))))) pa_nil))))
      pss_nil)
      (pss_cons (ps_set (i := 9) sc_law.nd rfl (Or.inr rfl) (pe_op op_add pe_int (pe_d D_law_take (hr.mono (by decide)) rfl (pa_cons (pv 1) (pa_cons pe_int pa_nil)))))
      (pss_cons (ps_setLc (i := 7) (own := [("vector", 15)]) (g := gName 15) (by rfl) sc_law.nd rfl rfl (sw_true rfl rfl rfl (by decide +kernel)) (pi_list (pv 7)) (blkOk_by (own := [("vector", 15)]) (N := NM_law) (sc := defScope s_law) (by decide +kernel)) (fun _ _ _ _ _ => (pg_name (i := 15) sc_law.nd rfl (Or.inl rfl))) (fun _ _ _ _ _ => pts_nil) (fun _ _ _ _ _ => (pe_callTy (T := "tuple") (r := rTupOf K) callTupleOf (by rfl) T.b_tuple (by decide +kernel) (pa_cons (pe_lc (own := [("number", 17)]) (g := gName 17) rfl sc_law.nd (show PI _ _ _ (iTup K _) from pi_tup (pv 15)) (blkOk_in (own := [("number", 17)]) (N := NM_law) (sc := { kind := ScopeKind.function, names := [(".0", NameKind.local), ("vector", NameKind.local), ("tuple", NameKind.globalImplicit), ("factor", NameKind.free)], isGenerator := false, isCoroutine := false }) (by decide +kernel)) (fun _ _ _ _ _ => (pg_name (i := 17) sc_law.nd rfl (Or.inl rfl))) (fun _ _ _ _ _ => pts_nil) (fun _ _ _ _ _ => (pe_op op_mul (pv 17) (pv 9)))) pa_nil))))
      (pss_cons (ps_set (i := 10) sc_law.nd rfl (Or.inl rfl) (pe_d D_law_take (hr.mono (by decide)) rfl (pa_cons (pv 1) (pa_cons (pv 6) pa_nil))))
      (pss_cons (ps_set (i := 11) sc_law.nd rfl (Or.inl rfl) (pe_op op_mul (pe_op op_add pe_int (pe_d D_law_take (hr.mono (by decide)) rfl (pa_cons (pv 1) (pa_cons pe_int pa_nil)))) (pe_op op_sub pe_int (pe_op op_mul pe_int (pe_d D_law_take (hr.mono (by decide)) rfl (pa_cons (pv 1) (pa_cons pe_int pa_nil)))))))
      (pss_cons (ps_set (i := 12) sc_law.nd rfl (Or.inl rfl) (pe_op op_catA (pe_op op_catA (pe_slice sl_tup (pv 8) po_none (po_some (pv 10))) (pe_tup (pa_cons (pe_op op_add (pe_ix ix_tup (pv 8) (pv 10) (fun _ _ => rfl)) (pv 11)) pa_nil))) (pe_slice sl_tup (pv 8) (po_some (pe_op op_add (pv 10) pe_int)) po_none)))
      (pss_cons (ps_set (i := 13) sc_law.nd rfl (Or.inl rfl) (pe_callTy (T := "tuple") callTupleOf (by rfl) T.b_tuple (by decide +kernel) (pa_cons (pe_op op_rep (pe_lst (pa_cons pe_int pa_nil)) (pv 6)) pa_nil)))
      (pss_cons (ps_set (i := 14) sc_law.nd rfl (Or.inl rfl) (pe_d D_law_span (hr.mono (by decide)) rfl (pa_cons (pv 7) pa_nil)))
      (pss_cons (ps_for PassesOwn.never rfl (pi_list (pe_op op_cat (pe_lst (pa_cons (pv 8) (pa_cons (pv 12) (pa_cons (pv 13) pa_nil)))) (pv 7))) (pg_name (i := 15) sc_law.nd rfl (Or.inl rfl))
      (pss_one (ps_if (pt_not (pt_val (pe_d D_law_combines_agree (hr.mono (by decide)) rfl (pa_cons (pv 15) (pa_cons (pv 7) (pa_cons (pv 14) pa_nil))))))
      (pss_one (ps_ret pe_bl))
      pss_nil)))
      (pss_cons (ps_if (pt_not (pt_val (pe_d D_law_same (hr.mono (by decide)) rfl (pa_cons (pe_d D_combines (hr.mono (by decide)) rfl (pa_cons (pv 12) (pa_cons (pe_lst pa_nil) pa_nil))) (pa_cons (pe_cmpR (op_eqD hr.units) (pv 12) (pv 13) (nomark _)) pa_nil)))))
      (pss_one (ps_ret pe_bl))
      pss_nil)
      (pss_one (ps_ret (pe_d D_law_same (hr.mono (by decide)) rfl (pa_cons (pe_d D_combines (hr.mono (by decide)) rfl (pa_cons (pv 13) (pa_cons (pe_lst pa_nil) pa_nil))) (pa_cons pe_bl pa_nil)))))))))))))))))))))))))), ?_⟩
  try dsimp only [cxOf, Cx.nox, Cx.wish]
  obtain ⟨sa, ns, rfl, hS, hns, k⟩ := h
  have O := NF.Own.refl0 H
  walk_at "gw"
  refine ⟨sa, ns, 0, rfl, hS, hns, by decide, fun b0 H1 M0 hB0 hf0 O1 => ?_⟩
  have O := O1
  obtain ⟨A, hB, hA⟩ : ∃ A, In BxD b0 A M0 ∧ ∀ p ∈ A, H p = none := ⟨_, ⟨hB0, rfl⟩, fun p hp => by
    obtain ⟨x, hx, e⟩ := List.mem_map.mp hp
    rw [← e]
    exact hf0 x hx⟩
  walk_at "gw"
  refine x_tx (E := E0) O hB rfl ⟨11, rfl, by decide, by decide⟩ fun z1 H1 M1 ⟨m2, em, hz1, hL1⟩ hB O => ?_
  cases em
  walk_at "gw"
  refine x_tx (E := E0) O hB rfl ⟨11, rfl, by decide, by decide⟩ fun z2 H1 M1 ⟨m2, em, hz2, hL2⟩ hB O => ?_
  cases em
  have hz1 : z1.length ≤ 11 := hz1
  have hz2 : z2.length ≤ 11 := hz2
  walk_at "gw"
  refine NF.x_cut (fun σ H' => ∃ (z : Str) (M' : List (Addr × HO)), σ = [some (.ref sa), some (.ref b0), some (.str z), some (.str z2), none, none, none, none, none, none, none, none, none, none, none, none, none, none] ∧ In BxD b0 A M' ∧ Own H H' M' [] ∧ z.length ≤ 660 ∧ ∀ c ∈ tl z, isL c) ?_ ?_
  · walk_at "gw"
    refine x_draw O hB (by decide) (by decide) fun d H1 M1 d0 d1 hB O => ?_
    walk_at "gw"
    refine NF.x_iteI (fun h0 => ?_) (fun h0 => ?_)
    · walk_at "gw"
      refine x_draw O hB (by decide) (by decide) fun d H1 M1 d0 d1 hB O => ?_
      walk_at "gw"
      refine NF.x_mulS (by omega) (by omega) (by omega) (by
        rw [sizeLine_eq]
        exact Nat.le_trans (Nat.mul_le_mul hz1 (show (1 + d).toNat ≤ 60 by omega)) (by decide)) ?_
      walk_at "gw"
      exact ⟨_, _, rfl, hB, O, mul_len hz1 (by omega), mul_L hL1⟩
    · walk_at "gw"
      exact ⟨z1, _, rfl, hB, O, by omega, hL1⟩
  · rintro _ H2 ⟨z, M2, rfl, hB2, O, hzl, hzL⟩
    walk_at "gw"
    refine x_draw O hB2 (by decide) (by decide) fun d H1 M1 d0 d1 hB O => ?_
    walk_at "gw"
    refine NF.x_ixSo d0 (by rw [len16]; exact d1) (by rw [len16, sizeLine_eq]; decide) fun c _ _ hc => ?_
    walk_at "gw"
    have hcL := mem16 hc
    have hall : ∀ x ∈ [V.str z, V.str z2, V.str (z ++ z2), V.str ⟨#[c]⟩, V.str (Str.ofString "")], ∃ y : Str, x = .str y ∧ y.length ≤ 700 ∧ ∀ c ∈ tl y, isL c := by
      intro x hx
      simp only [List.mem_cons, List.not_mem_nil, or_false] at hx
      rcases hx with rfl | rfl | rfl | rfl | rfl
      · exact ⟨_, rfl, by omega, hzL⟩
      · exact ⟨_, rfl, by omega, hL2⟩
      · exact ⟨_, rfl, by rw [len_app]; omega, L_app hzL hL2⟩
      · exact ⟨_, rfl, by rw [len_ch]; decide, fun x hx => by
          have e : x = c := by simpa using hx
          rw [e]
          exact hcL⟩
      · exact ⟨_, rfl, by decide +kernel, fun x hx => by
          have e : tl (Str.ofString "") = [] := by rw [tl_ofString]; decide +kernel
          rw [e] at hx
          exact absurd hx List.not_mem_nil⟩
    obtain ⟨xs, hxs⟩ : ∃ xs, xs = [V.str z, V.str z2, V.str (z ++ z2), V.str ⟨#[c]⟩, V.str (Str.ofString "")] := ⟨_, rfl⟩
    have hxl : xs.length = 5 := by rw [hxs]; rfl
    rw [← hxs] at hall ⊢
    refine NF.x_newL O (by rw [hxl, sizeLine_eq]; decide) fun pl H3 hpl O => ?_
    walk_at "nO"
    walk_at "gw"
    refine NF.f_list (SqL.of (O.mem (x := (pl, .lst xs)) (by simp))) (fun i σ H' => ∃ (u5 : Option V), σ = [some (.ref sa), some (.ref b0), some (.str z), some (.str z2), some (ch c), u5, none, none, none, none, none, none, none, none, none, none, none, none] ∧ Own H H' _ [(pl, .lst xs)]) ⟨_, rfl, O⟩ ?_ ?_ ?_
    · rintro i σ H' ⟨u5, rfl, O⟩
      exact SqL.of (O.mem (x := (pl, .lst xs)) (by simp))
    · rintro i x _ H4 hx ⟨u5, rfl, O⟩
      obtain ⟨y, rfl, hy1, hy2⟩ := hall x (List.mem_of_getElem? hx)
      walk_at "gw"
      refine NF.use_spP O rfl ⟨_, rfl, hy1, hy2⟩ fun r H5 O er => ?_
      subst er
      walk_at "gw"
      exact ⟨_, rfl, O⟩
    rintro _ H4 ⟨u5, rfl, O⟩
    walk_at "gw"
    refine ⟨sa, ns, 1, rfl, sql_keep hS O (bx_fresh hB hA) (fresh1 hpl), hns, by decide, fun b1 H5 M5 hB5 hf5 O5 => ?_⟩
    have hfH : ∀ x ∈ M5, H x.1 = none := fun x hx => O.base_free (hf5 x hx)
    have O := (own_box O (bx_fresh hB hA) O5 hf5).dropTo (R := [(pl, _)]) (N := []) (fresh1 hpl)
    clear hB hA
    obtain ⟨A, hB, hA⟩ : ∃ A, In BxD b1 A M5 ∧ ∀ p ∈ A, H p = none := ⟨_, ⟨hB5, rfl⟩, fun p hp => by
      obtain ⟨x, hx, e⟩ := List.mem_map.mp hp
      rw [← e]
      exact hfH x hx⟩
    walk_at "gw"
    refine x_draw O hB (by decide) (by decide) fun wd H6 M6 w0 w1 hB O => ?_
    walk_at "gw"
    obtain ⟨w', hw', hw1, hw8⟩ : ∃ w' : Nat, 1 + wd = (w' : Nat) ∧ 1 ≤ w' ∧ w' ≤ 8 := ⟨(1 + wd).toNat, by omega, by omega, by omega⟩
    rw [hw']
    refine ⟨b1, A, M6, w', rfl, hB, O.sub, hw1, hw8, fun pv H7 M7 N L hB7 O7 hN hV hLw hL8 hLc => ?_⟩
    have hNH : ∀ x ∈ N, H x.1 = none := fun x hx => O.base_free (hN x hx)
    have O := O.call O7 (hB7.e.trans hB.e.symm) hN
    have hB := hB7
    walk_at "nO"
    walk_at "gw"
    refine ⟨sa, ns, 2, rfl, sql_keep hS O (bx_fresh hB hA) hNH, hns, by decide, fun b2 H8 M8 hB8 hf8 O8 => ?_⟩
    have hfH8 : ∀ x ∈ M8, H x.1 = none := fun x hx => O.base_free (hf8 x hx)
    have O := own_box O (bx_fresh hB hA) O8 hf8
    clear hB hA
    obtain ⟨A, hB, hA⟩ : ∃ A, In BxD b2 A M8 ∧ ∀ p ∈ A, H p = none := ⟨_, ⟨hB8, rfl⟩, fun p hp => by
      obtain ⟨x, hx, e⟩ := List.mem_map.mp hp
      rw [← e]
      exact hfH8 x hx⟩
    walk_at "gw"
    refine ⟨b2, pv, A, _, L, w', rfl, hB, O.sub, hV.at O, hLw, fun k => ?_, hL8, hw1, hw8, fun pt l H9 M9 hpt hB9 O9 hll hlb => ?_⟩
    · exact Nat.lt_of_le_of_lt (hLc k) (by decide +kernel)
    have hptH := O.base_free hpt
    have O := O.call O9 (hB9.e.trans hB.e.symm) (fresh1 hpt)
    have hB := hB9
    have hlb2 : ∀ k, (l.getD k 0).natAbs ≤ 65535 * 17 ^ 24 := fun k => by
      have := hlb k
      have := hLc k
      omega
    walk_at "nO"
    walk_at "gw"
    refine NF.x_cut (fun σ H' => ∃ (pt : Addr) (l : List Int) (M' N' : List (Addr × HO)), σ = [some (.ref sa), some (.ref b2), some (.str z), some (.str z2), some (ch c), u5, some (.int (w' : Nat)), some (.ref pv), some (.ref pt), none, none, none, none, none, none, none, none, none] ∧ In BxD b2 A M' ∧ Own H H' M' N' ∧ (∀ x ∈ N', H x.1 = none) ∧ (∀ x ∈ N, x ∈ N') ∧ (pt, HO.tup (iV l)) ∈ N' ∧ l.length = w' ∧ ∀ k, (l.getD k 0).natAbs ≤ 65535 * 17 ^ 24) ?_ ?_
    · walk_at "gw"
      refine x_draw O hB (by decide) (by decide) fun d H1 M1 d0 d1 hB O => ?_
      walk_at "gw"
      refine NF.x_iteI (fun h0 => ?_) (fun h0 => ?_)
      · walk_at "gw"
        refine lc_rng1p (by omega) O (fun i acc M' => In BxD b2 A M' ∧ ∃ l : List Int, acc = iV l ∧ l.length = i ∧ ∀ x ∈ l, x.natAbs ≤ 17 ^ 24) ⟨hB, [], rfl, rfl, fun x hx => absurd hx List.not_mem_nil⟩ ?_ ?_
        · rintro j H5 M5 p acc hp hj hl3 ⟨hB, l, rfl, hlj, hlb⟩ O
          walk_at "gw"
          refine NF.use_spB (rest := [.int 0]) O hB rfl ⟨0, rfl⟩ fun v H6 M6 hB O ⟨x, ex, x0, x1⟩ => ?_
          subst ex
          refine NF.lc_done O hl3 (by rw [sizeLine_eq]; omega) ⟨hB, l ++ [x], by unfold iV; rw [List.map_append]; rfl, by rw [List.length_append, hlj]; rfl, fun y hy => ?_⟩
          rcases List.mem_append.mp hy with hy | hy
          · exact hlb y hy
          · rw [List.mem_singleton.mp hy]
            have hE : EB = ((17 ^ 24 : Nat) : Int) := by decide +kernel
            rw [hE] at x0 x1
            revert x0 x1
            generalize (17 ^ 24 : Nat) = c
            intro x0 x1
            omega
        · rintro p H5 M5 acc hp hl3 ⟨hB, l, rfl, hlj, hlb⟩ O
          walk_at "gw"
          refine NF.x_tupOf O (O.mem (x := (p, .lst (iV l))) (by simp)) fun p2 H6 hp2 O => ?_
          walk_at "nO"
          walk_at "gw"
          refine ⟨p2, l, _, _, rfl, hB, O, freshA (freshA (freshA hNH (fresh1 hptH)) (fresh1 hp)) (fresh1 hp2), fun x hx => by simp [hx], by simp, by rw [hlj]; exact Int.toNat_natCast w', fun k => ?_⟩
          have := getD_le hlb k
          omega
      · walk_at "gw"
        exact ⟨pt, l, _, _, rfl, hB, O, freshA hNH (fresh1 hptH), fun x hx => by simp [hx], by simp, hll, hlb2⟩
    clear O hB hll hlb hlb2
    rintro _ H10 ⟨pt, l, M10, N10, rfl, hB, O, hN10, hNN, hpt, hll, hlb⟩
    walk_at "gw"
    refine x_draw O hB (by decide) (by decide) fun fc H11 M11 f0 f1 hB O => ?_
    walk_at "gw"
    obtain ⟨vs, hvN, hvl, hvt⟩ := hV
    obtain ⟨fa, hfa, fa1, fa5⟩ : ∃ fa : Int, 1 + fc = fa ∧ 1 ≤ fa ∧ fa ≤ 5 := ⟨_, rfl, by omega, by omega⟩
    rw [hfa]
    have hvN10 := hNN _ hvN
    have hvml : (vs.map V.ref).length = L.length := by rw [List.length_map]; exact hvl
    refine NF.lc_lst2 (SqL.of (O.mem hvN10)) O (fun i acc M' => ∃ T ts, M' = M11 ++ T ∧ acc = ts.map V.ref ∧ (∀ x ∈ T, H x.1 = none) ∧ VT T ts ((L.take i).map (scl fa))) (fun i H' M' p acc hp _ O' => SqL.of (O'.mem (List.mem_append_left _ hvN10))) ⟨[], [], by rw [List.append_nil], rfl, fun x hx => absurd hx List.not_mem_nil, VT.nil⟩ ?_ ?_
    · rintro i xv H12 _ p _ hp hxv hil ⟨Tt, ts, rfl, rfl, hTt, hVT⟩ O
      obtain ⟨t, ht, rfl⟩ : ∃ t, vs[i]? = some t ∧ V.ref t = xv := by
        rw [List.getElem?_map] at hxv
        cases h : vs[i]? with
        | none => rw [h] at hxv; cases hxv
        | some t => rw [h] at hxv; exact ⟨t, rfl, Option.some.inj hxv⟩
      have hii := (List.getElem?_eq_some_iff.mp ht).1
      obtain ⟨u, hu⟩ : ∃ u, L[i]? = some u := ⟨_, List.getElem?_eq_getElem (by omega)⟩
      have hum := List.mem_of_getElem? hu
      have huw := hLw u hum
      have htN := hNN _ (hvt i u t hu ht)
      have huv : (iV u).length = w' := by rw [List.length_map]; exact huw
      walk_at "gw"
      refine NF.lc_tup2 (SqT.of (O.mem (List.mem_append_left _ htN))) O (fun j acc M' => M' = M11 ++ Tt ∧ acc = iV ((scl fa u).take j)) (fun j H' M' p acc hp _ O' => SqT.of (O'.mem (List.mem_append_left _ (List.mem_append_left _ htN)))) ⟨rfl, rfl⟩ ?_ ?_
      · rintro j xv H13 _ p2 _ hp2 hxv hjl ⟨rfl, rfl⟩ O
        obtain ⟨n, hn, rfl⟩ := iV_get hxv
        have hj2 := (List.getElem?_eq_some_iff.mp hn).1
        walk_at "gw"
        refine NF.lc_done O hjl (by rw [sizeLine_eq]; omega) ⟨rfl, ?_⟩
        rw [take_snoc (scl_at hn)]
        unfold iV
        rw [List.map_append]
        rfl
      · rintro p2 H13 _ _ hp2 hjl ⟨rfl, rfl⟩ O
        rw [show (iV u).length = (scl fa u).length by rw [huv, scl_len, huw], List.take_length] at O
        walk_at "gw"
        refine NF.x_tupOf O (O.mem (x := (p2, .lst (iV (scl fa u)))) (by simp)) fun p3 H14 hp3 O => ?_
        walk_at "nO"
        walk_at "gw"
        have O := O.shift.shift
        refine NF.lc_done O hil (by rw [sizeLine_eq, List.length_map] at *; omega) ⟨Tt ++ [(p3, HO.tup (iV (scl fa u))), (p2, HO.lst (iV (scl fa u)))], ts ++ [p3], by simp, by rw [List.map_append]; rfl, freshA hTt (freshA (T := [(p3, _)]) (N := [(p2, _)]) (fresh1 hp3) (fresh1 hp2)), ?_⟩
        rw [take_snoc hu, List.map_append]
        exact (hVT.mono fun x hx => List.mem_append_left _ hx).snoc (by simp)
    rintro p H12 _ _ hp hil ⟨Tt, ts, rfl, rfl, hTt, hVT⟩ O
    rw [hvml, List.take_length] at hVT
    have hsl : (scl fa l).length = w' := by rw [scl_len, hll]
    obtain ⟨RR, O, hRR, hptR, hVs⟩ : ∃ RR, Own H H12 M11 RR ∧ (∀ x ∈ RR, H x.1 = none) ∧ (pt, HO.tup (iV l)) ∈ RR ∧ VsIn RR p (L.map (scl fa)) := by
      refine ⟨N10 ++ [(p, HO.lst (ts.map V.ref))] ++ Tt, O.repart ?_, freshA (freshA hN10 (fresh1 hp)) hTt, by simp [hpt], ts, by simp, hVT.1, fun i l t hl ht => List.mem_append_right _ (hVT.2 i l t hl ht)⟩
      rw [List.append_assoc M11]
      exact List.Perm.append_left _ List.perm_append_comm
    walk_at "gw"
    refine x_draw O hB (by omega) (by omega) fun pc H13 M13 pc0 pc1 hB O => ?_
    obtain ⟨pl, rfl⟩ : ∃ pl : Nat, pc = (pl : Int) := ⟨pc.toNat, by omega⟩
    walk_at "gw"
    refine x_draw O hB (by decide) (by decide) fun c1 H14 M14 c10 c11 hB O => ?_
    walk_at "gw"
    refine x_draw O hB (by decide) (by decide) fun c2 H15 M15 c20 c21 hB O => ?_
    walk_at "gw"
    obtain ⟨ch1, hch, hchb⟩ : ∃ x : Int, (1 + c1) * (1 - 2 * c2) = x ∧ x.natAbs ≤ 3 := by
      refine ⟨_, rfl, ?_⟩
      rw [Int.natAbs_mul]
      exact Nat.mul_le_mul (show (1 + c1).natAbs ≤ 3 by omega) (show (1 - 2 * c2).natAbs ≤ 1 by omega)
    rw [hch]
    have hlvl : (iV l).length = w' := by rw [List.length_map]; exact hll
    refine x_slT (O.mem hptR) (by rw [HT.sIx_nat, hlvl]; omega) O fun q1 H16 hq1 O => ?_
    rw [cut_lo (by omega)] at O
    walk_at "nO"
    walk_at "gw"
    obtain ⟨x, hx⟩ : ∃ x, l[pl]? = some x := ⟨_, List.getElem?_eq_getElem (by omega)⟩
    refine NF.x_ixT (O.mem (x := (pt, .tup (iV l))) (by simp [hptR])) (L2.atI_nat (iV_at hx)) ?_
    walk_at "gw"
    refine NF.x_newT O (by walk_at "len") fun q2 H17 hq2 O => ?_
    walk_at "nO"
    have htl1 : ((iV l).take pl).length = pl := by rw [List.length_take]; omega
    refine x_catAO O (a := q1) (b := q2) (xs := (iV l).take pl) (ys := [.int (x + ch1)]) (by simp) (by simp) (by rw [sizeLine_eq, htl1]; simp; omega) fun q3 H18 N18 hN18 O hq3 => ?_
    have hf18 := freshA (freshA (freshA hRR (fresh1 (o := .tup ((iV l).take pl)) hq1)) (fresh1 (o := .tup [.int (x + ch1)]) hq2)) hN18
    obtain ⟨R18, hR18⟩ : ∃ R, R = RR ++ [(q1, HO.tup ((iV l).take pl))] ++ [(q2, HO.tup [V.int (x + ch1)])] ++ N18 := ⟨_, rfl⟩
    have hRs : ∀ y ∈ RR, y ∈ R18 := fun y hy => by rw [hR18]; simp [hy]
    rw [← hR18] at O hq3 hf18
    walk_at "gw"
    rw [show (pl : Int) + 1 = ((pl + 1 : Nat) : Int) by omega]
    refine x_slT (O.mem (x := (pt, .tup (iV l))) (hRs _ hptR)) (by rw [HT.sIx_nat, hlvl]; omega) O fun q4 H19 hq4 O => ?_
    rw [cut_hi (by omega)] at O
    refine x_catAO O (a := q3) (b := q4) (xs := (iV l).take pl ++ [.int (x + ch1)]) (ys := (iV l).drop (pl + 1)) (List.mem_append_left _ hq3) (by simp) (by rw [sizeLine_eq]; simp; omega) fun pn H20 N20 hN20 O hpn => ?_
    have hf20 := freshA (freshA hf18 (fresh1 (o := .tup ((iV l).drop (pl + 1))) hq4)) hN20
    obtain ⟨nl, hnl, hnll, hnlb⟩ := near_ok hll hx hchb (mem_le hlb)
    rw [hnl] at hpn
    obtain ⟨R20, hR20⟩ : ∃ R, R = R18 ++ [(q4, HO.tup ((iV l).drop (pl + 1)))] ++ N20 := ⟨_, rfl⟩
    have hRs : ∀ y ∈ RR, y ∈ R20 := fun y hy => by rw [hR20]; simp [hRs y hy]
    rw [← hR20] at O hpn hf20
    walk_at "gw"
    refine NF.x_newL O (by walk_at "len") fun p0 H21 hp0 O => ?_
    walk_at "nO"
    walk_at "gw"
    refine NF.x_rep (xs := [.int 0]) O (O.mem (x := (p0, .lst [.int 0])) (by simp)) (by omega) (by omega) (by rw [sizeLine_eq]; simp; omega) fun p1 H22 hp1 O => ?_
    rw [rep_one] at O
    walk_at "nO"
    walk_at "gw"
    refine NF.x_tupOf O (O.mem (x := (p1, .lst (List.replicate (w' : Int).toNat (.int 0)))) (by simp)) fun pz H23 hpz O => ?_
    walk_at "nO"
    obtain ⟨zl, hzl, hzll, hzz⟩ : ∃ zl : List Int, List.replicate (w' : Int).toNat (V.int 0) = iV zl ∧ zl.length = w' ∧ zl = List.replicate w' 0 := ⟨List.replicate w' 0, by unfold iV; rw [List.map_replicate]; rfl, by simp, rfl⟩
    rw [hzl] at O
    have hf23 := freshA (freshA (freshA hf20 (fresh1 (o := .lst [.int 0]) hp0)) (fresh1 (o := .lst (iV zl)) hp1)) (fresh1 (o := .tup (iV zl)) hpz)
    obtain ⟨R23, hR23⟩ : ∃ R, R = R20 ++ [(p0, HO.lst [V.int 0])] ++ [(p1, HO.lst (iV zl))] ++ [(pz, HO.tup (iV zl))] := ⟨_, rfl⟩
    have hRs : ∀ y ∈ RR, y ∈ R23 := fun y hy => by rw [hR23]; simp [hRs y hy]
    have hpn : (pn, HO.tup (iV nl)) ∈ R23 := by rw [hR23]; simp [hpn]
    have hpzR : (pz, HO.tup (iV zl)) ∈ R23 := by rw [hR23]; simp
    have O : Own H H23 M15 R23 := by rw [hR23]; exact O
    rw [← hR23] at hf23
    have hptR := hRs _ hptR
    have hVs := hVs.mono hRs
    obtain ⟨Ls, hLs⟩ : ∃ Ls, Ls = L.map (scl fa) := ⟨_, rfl⟩
    have hVo : VOk w' Ls := by
      refine ⟨fun y hy => ?_, fun y hy => ?_, by rw [hLs, List.length_map]; exact hL8, hw8⟩
      · rw [hLs] at hy
        obtain ⟨y0, hy0, rfl⟩ := List.mem_map.mp hy
        rw [scl_len]
        exact hLw y0 hy0
      · rw [hLs] at hy
        obtain ⟨y0, hy0, rfl⟩ := List.mem_map.mp hy
        exact bd_of (scl_bd fa1 fa5 fun k => Nat.le_trans (cs_mem hy0 k) (hLc k)) (by decide +kernel)
    rw [← hLs] at hVs
    walk_at "gw"
    refine ⟨p, Ls, w', rfl, hVs.at O, hVo, fun pp H24 N24 rows hN24 O24 hPv Cv => ?_⟩
    have hf24 : ∀ y ∈ N24, H y.1 = none := fun y hy => O.base_free (hN24 y hy)
    have O := O.callN O24 hN24
    obtain ⟨R24, hR24⟩ : ∃ R, R = R23 ++ N24 := ⟨_, rfl⟩
    have hf24 := freshA hf23 hf24
    rw [← hR24] at O hf24
    have hpn : (pn, HO.tup (iV nl)) ∈ R24 := by rw [hR24]; simp [hpn]
    have hpzR : (pz, HO.tup (iV zl)) ∈ R24 := by rw [hR24]; simp [hpzR]
    have hptR : (pt, HO.tup (iV l)) ∈ R24 := by rw [hR24]; simp [hptR]
    have hVs : VsIn R24 p Ls := hVs.mono fun y hy => by rw [hR24]; simp [hy]
    have hPv : PvIn R24 pp rows := hPv.mono fun y hy => by rw [hR24]; simp [hy]
    walk_at "gw"
    refine NF.x_newL O (by rw [sizeLine_eq]; simp) fun l3 H25 hl3 O => ?_
    walk_at "nO"
    walk_at "gw"
    obtain ⟨v2, hv2p, hv2l, hv2t⟩ := hVs
    have hf2 := hVo.few
    refine NF.x_cat O (O.mem (x := (l3, .lst [.ref pt, .ref pn, .ref pz])) (by simp)) (O.mem (x := (p, .lst (v2.map V.ref))) (by simp [hv2p])) (by rw [sizeLine_eq, List.length_map]; simp; omega) fun l4 H26 hl4 O => ?_
    walk_at "nO"
    have hf26 := freshA (freshA hf24 (fresh1 (o := .lst [.ref pt, .ref pn, .ref pz]) hl3)) (fresh1 (o := .lst ([.ref pt, .ref pn, .ref pz] ++ v2.map V.ref)) hl4)
    obtain ⟨R26, hR26⟩ : ∃ R, R = R24 ++ [(l3, HO.lst [.ref pt, .ref pn, .ref pz])] ++ [(l4, HO.lst ([.ref pt, .ref pn, .ref pz] ++ v2.map V.ref))] := ⟨_, rfl⟩
    have O : Own H H26 M15 R26 := by rw [hR26]; exact O
    rw [← hR26] at hf26
    have hup : ∀ y ∈ R24, y ∈ R26 := fun y hy => by rw [hR26]; simp [hy]
    have hl4R : (l4, HO.lst ([.ref pt, .ref pn, .ref pz] ++ v2.map V.ref)) ∈ R26 := by rw [hR26]; simp
    have hpn := hup _ hpn
    have hpzR := hup _ hpzR
    have hptR := hup _ hptR
    have hVs : VsIn R26 p Ls := ⟨v2, hup _ hv2p, hv2l, fun i l t hl ht => hup _ (hv2t i l t hl ht)⟩
    have hPv : PvIn R26 pp rows := hPv.mono hup
    have hbt : bd 120 l := bd_of (mem_le hlb) (by decide +kernel)
    have hbn : bd 120 nl := bd_of hnlb (by decide +kernel)
    have hbz : bd 120 zl := bd_of (c := 0) (fun y hy => by rw [hzz] at hy; rw [(List.mem_replicate.mp hy).2]; exact Nat.le_refl _) (by decide +kernel)
    have hall : ∀ x ∈ [V.ref pt, V.ref pn, V.ref pz] ++ v2.map V.ref, ∃ (t : Addr) (v : List Int), x = .ref t ∧ (t, HO.tup (iV v)) ∈ R26 ∧ v.length = w' ∧ bd 120 v := by
      intro x hx
      rcases List.mem_append.mp hx with hx | hx
      · simp only [List.mem_cons, List.not_mem_nil, or_false] at hx
        rcases hx with rfl | rfl | rfl
        · exact ⟨pt, l, rfl, hptR, hll, hbt⟩
        · exact ⟨pn, nl, rfl, hpn, hnll, hbn⟩
        · exact ⟨pz, zl, rfl, hpzR, hzll, hbz⟩
      · obtain ⟨t, ht, rfl⟩ := List.mem_map.mp hx
        obtain ⟨i, hi⟩ := List.getElem?_of_mem ht
        have hil := (List.getElem?_eq_some_iff.mp hi).1
        obtain ⟨v, hv⟩ : ∃ v, Ls[i]? = some v := ⟨_, List.getElem?_eq_getElem (by omega)⟩
        exact ⟨t, v, rfl, hup _ (hv2t i v t hv hi), hVo.len v (List.mem_of_getElem? hv), hVo.b v (List.mem_of_getElem? hv)⟩
    obtain ⟨xs4, hxs4⟩ : ∃ xs, xs = [V.ref pt, V.ref pn, V.ref pz] ++ v2.map V.ref := ⟨_, rfl⟩
    rw [← hxs4] at hall hl4R
    walk_at "gw"
    refine NF.f_list (SqL.of (O.mem (x := (l4, .lst xs4)) hl4R)) (fun i σ H' => ∃ (u15 : Option V), σ = [some (.ref sa), some (.ref b2), some (.str z), some (.str z2), some (ch c), u5, some (.int (w' : Nat)), some (.ref p), some (.ref pt), some (.int fa), some (.int (pl : Nat)), some (.int ch1), some (.ref pn), some (.ref pz), some (.ref pp), u15, none, none] ∧ Own H H' M15 R26) ⟨_, rfl, O⟩ ?_ ?_ ?_
    · rintro i σ H' ⟨u15, rfl, O⟩
      exact SqL.of (O.mem (x := (l4, .lst xs4)) hl4R)
    · rintro i xv _ H27 hxv ⟨u15, rfl, O⟩
      obtain ⟨t, v, rfl, htR, hvw, hvb⟩ := hall xv (List.mem_of_getElem? hxv)
      walk_at "gw"
      refine ⟨t, p, pp, v, Ls, rows, w', rfl, O.mem htR, hVs.at O, hPv.at O, hVo, Cv, hvw, hvb, fun H28 O28 => ?_⟩
      have O := O.call0 O28
      walk_at "gw"
      exact ⟨_, rfl, O⟩
    rintro _ H27 ⟨u15, rfl, O⟩
    walk_at "gw"
    refine NF.x_newL O (by decide +kernel) fun e1 H28 he1 O => ?_
    walk_at "nO"
    walk_at "gw"
    refine ⟨pn, e1, nl, [], w', rfl, O.mem (x := (pn, .tup (iV nl))) (by simp [hpn]), ⟨[], O.mem (x := (e1, .lst [])) (by simp), rfl, fun i l t hl => by simp at hl⟩, ⟨fun y hy => absurd hy List.not_mem_nil, fun y hy => absurd hy List.not_mem_nil, Nat.zero_le _, hw8⟩, hnll, hbn, fun b H29 hb O29 => ?_⟩
    have O := O.call0 O29
    walk_at "gw"
    refine x_eqTI (O.mem (x := (pn, .tup (iV nl))) (by simp [hpn])) (O.mem (x := (pz, .tup (iV zl))) (by simp [hpzR])) ?_
    have eb : b = decide (nl = zl) := Bool.eq_iff_iff.mpr (by rw [hb, spn_nil hnll, allZ_rep hnll, hzz, decide_eq_true_iff])
    rw [← eb]
    walk_at "gw"
    refine NF.use_spP O rfl ⟨_, rfl⟩ fun r H30 O er => ?_
    subst er
    walk_at "gw"
    refine NF.x_newL O (by decide +kernel) fun e2 H31 he2 O => ?_
    walk_at "nO"
    walk_at "gw"
    refine ⟨pz, e2, zl, [], w', rfl, O.mem (x := (pz, .tup (iV zl))) (by simp [hpzR]), ⟨[], O.mem (x := (e2, .lst [])) (by simp), rfl, fun i l t hl => by simp at hl⟩, ⟨fun y hy => absurd hy List.not_mem_nil, fun y hy => absurd hy List.not_mem_nil, Nat.zero_le _, hw8⟩, hzll, hbz, fun b3 H32 hb3 O32 => ?_⟩
    have O := O.call0 O32
    have eb3 : b3 = true := hb3.mpr ((spn_nil hzll).mpr ((allZ_rep hzll).mpr hzz))
    subst eb3
    walk_at "gw"
    refine NF.use_spP O rfl ⟨_, rfl⟩ fun r H33 O er => ?_
    subst er
    exact k _


theorem codes_mk {K : PySem.W.Frag} {w : World} {a : Addr} {es : Array DictEntry} {n : Nat} {u0 u1 u2 u3 u4 u5 u6 u7 u8 u9 u10 u11 u12 u13 u14 u15 : Value} (hl : K.lookup a = some ⟨.type "dict", none, .dict es n, #[]⟩) (hk : PySem.W.KeysLit w.params es.toList)
    (n0 : PySem.W.nsIn K a "a" = some (some u0)) (r0 : RelV (.int 1) u0)
    (n1 : PySem.W.nsIn K a "b" = some (some u1)) (r1 : RelV (.int 2) u1)
    (n2 : PySem.W.nsIn K a "c" = some (some u2)) (r2 : RelV (.int 3) u2)
    (n3 : PySem.W.nsIn K a "d" = some (some u3)) (r3 : RelV (.int 4) u3)
    (n4 : PySem.W.nsIn K a "e" = some (some u4)) (r4 : RelV (.int 5) u4)
    (n5 : PySem.W.nsIn K a "f" = some (some u5)) (r5 : RelV (.int 6) u5)
    (n6 : PySem.W.nsIn K a "g" = some (some u6)) (r6 : RelV (.int 7) u6)
    (n7 : PySem.W.nsIn K a "h" = some (some u7)) (r7 : RelV (.int 8) u7)
    (n8 : PySem.W.nsIn K a "A" = some (some u8)) (r8 : RelV (.int 9) u8)
    (n9 : PySem.W.nsIn K a "B" = some (some u9)) (r9 : RelV (.int 10) u9)
    (n10 : PySem.W.nsIn K a "C" = some (some u10)) (r10 : RelV (.int 11) u10)
    (n11 : PySem.W.nsIn K a "D" = some (some u11)) (r11 : RelV (.int 12) u11)
    (n12 : PySem.W.nsIn K a "E" = some (some u12)) (r12 : RelV (.int 13) u12)
    (n13 : PySem.W.nsIn K a "F" = some (some u13)) (r13 : RelV (.int 14) u13)
    (n14 : PySem.W.nsIn K a "G" = some (some u14)) (r14 : RelV (.int 15) u14)
    (n15 : PySem.W.nsIn K a "H" = some (some u15)) (r15 : RelV (.int 16) u15)
    : ∀ c : Nat, (97 ≤ c ∧ c ≤ 104) ∨ (65 ≤ c ∧ c ≤ 72) → KDct K w a ⟨#[c]⟩ (.int (if 97 ≤ c then (c : Int) - 96 else (c : Int) - 56)) := by
  intro c hc
  have hc : c = 97 ∨ c = 98 ∨ c = 99 ∨ c = 100 ∨ c = 101 ∨ c = 102 ∨ c = 103 ∨ c = 104 ∨ c = 65 ∨ c = 66 ∨ c = 67 ∨ c = 68 ∨ c = 69 ∨ c = 70 ∨ c = 71 ∨ c = 72 := by omega
  rcases hc with rfl | rfl | rfl | rfl | rfl | rfl | rfl | rfl | rfl | rfl | rfl | rfl | rfl | rfl | rfl | rfl
  · exact ⟨es, n, u0, hl, hk, n0, r0⟩
  · exact ⟨es, n, u1, hl, hk, n1, r1⟩
  · exact ⟨es, n, u2, hl, hk, n2, r2⟩
  · exact ⟨es, n, u3, hl, hk, n3, r3⟩
  · exact ⟨es, n, u4, hl, hk, n4, r4⟩
  · exact ⟨es, n, u5, hl, hk, n5, r5⟩
  · exact ⟨es, n, u6, hl, hk, n6, r6⟩
  · exact ⟨es, n, u7, hl, hk, n7, r7⟩
  · exact ⟨es, n, u8, hl, hk, n8, r8⟩
  · exact ⟨es, n, u9, hl, hk, n9, r9⟩
  · exact ⟨es, n, u10, hl, hk, n10, r10⟩
  · exact ⟨es, n, u11, hl, hk, n11, r11⟩
  · exact ⟨es, n, u12, hl, hk, n12, r12⟩
  · exact ⟨es, n, u13, hl, hk, n13, r13⟩
  · exact ⟨es, n, u14, hl, hk, n14, r14⟩
  · exact ⟨es, n, u15, hl, hk, n15, r15⟩

end
theorem all_mk {l : PySem.W.OpenLaw} {w : World} {K : PySem.W.Frag} {h : Heap} {mg : Str → Option Value} {fa : Addr} {c_Span c__CODES : Addr} (X : K.In h) (G : h.Ns mainGlobals mg) (hfa : mg "law" = some (.ref fa))
    (h_law_box : Has K "_law_box" s_law_box)
    (h_law_take : Has K "_law_take" s_law_take)
    (h_law_letters : Has K "_law_letters" s_law_letters)
    (h_law_sum : Has K "_law_sum" s_law_sum)
    (h_law_weight : Has K "_law_weight" s_law_weight)
    (h_law_value : Has K "_law_value" s_law_value)
    (h_law_entry : Has K "_law_entry" s_law_entry)
    (h_law_vectors : Has K "_law_vectors" s_law_vectors)
    (h_law_reduced : Has K "_law_reduced" s_law_reduced)
    (h_law_lead : Has K "_law_lead" s_law_lead)
    (h_law_span : Has K "_law_span" s_law_span)
    (h_law_same : Has K "_law_same" s_law_same)
    (h_combines : Has K "combines" s_combines)
    (h_value : Has K "value" s_value)
    (h_weight : Has K "weight" s_weight)
    (h_law_number : Has K "_law_number" s_law_number)
    (h_law_letters_agree : Has K "_law_letters_agree" s_law_letters_agree)
    (h_law_combines_agree : Has K "_law_combines_agree" s_law_combines_agree)
    (h_law : Has K "law" s_law)
    (z_all : PySem.W.nsIn K mainGlobals "all" = some none)
    (z_bool : PySem.W.nsIn K mainGlobals "bool" = some none)
    (z_int : PySem.W.nsIn K mainGlobals "int" = some none)
    (z_isinstance : PySem.W.nsIn K mainGlobals "isinstance" = some none)
    (z_len : PySem.W.nsIn K mainGlobals "len" = some none)
    (z_list : PySem.W.nsIn K mainGlobals "list" = some none)
    (z_range : PySem.W.nsIn K mainGlobals "range" = some none)
    (z_sum : PySem.W.nsIn K mainGlobals "sum" = some none)
    (z_super : PySem.W.nsIn K mainGlobals "super" = some none)
    (z_tuple : PySem.W.nsIn K mainGlobals "tuple" = some none)
    (z_zip : PySem.W.nsIn K mainGlobals "zip" = some none)
    (y_BASE : HasC K "BASE" (.int 17))
    (n_Span : PySem.W.nsIn K mainGlobals "Span" = some (some (.ref c_Span)))
    (n__CODES : PySem.W.nsIn K mainGlobals "_CODES" = some (some (.ref c__CODES)))
    (k__CODES : ∀ c : Nat, (97 ≤ c ∧ c ≤ 104) ∨ (65 ≤ c ∧ c ≤ 72) → KDct K w (c__CODES) ⟨#[c]⟩ (.int (if 97 ≤ c then (c : Int) - 96 else (c : Int) - 56)))
    (i_gcd : PySem.W.nsIn K mainGlobals "gcd" = some (some (.builtin "math.gcd")))
    (o_Span : OCls K c_Span ["_rows"] "Span.__init__" s_Span_init)
    (m_Span_rest : OMth K c_Span "_rest" "Span._rest" s_Span_rest)
    (m_Span_covers : OMth K c_Span "covers" "Span.covers" s_Span_covers)
    (m_Span_add : OMth K c_Span "add" "Span.add" s_Span_add)
    : ∃ fd : FuncData, (∀ (s : Shared) (v : Value), BindsTo s fd ⟨[v], []⟩ [("script", v)]) ∧ ∀ base : Heap, K.In base → base.Ns mainGlobals mg → FnOk l.prog w K mg base CX0 5 fa fd ["script"] (spLaw K) := by
  have T : Txt l.prog w K mg := ⟨PySem.W.mg_none_of X G z_all, PySem.W.mg_none_of X G z_bool, PySem.W.mg_none_of X G z_int, PySem.W.mg_none_of X G z_isinstance, PySem.W.mg_none_of X G z_len, PySem.W.mg_none_of X G z_list, PySem.W.mg_none_of X G z_range, PySem.W.mg_none_of X G z_sum, PySem.W.mg_none_of X G z_tuple, PySem.W.mg_none_of X G z_zip, y_BASE.mg X G, cls_mk X G n_Span, cls_mk X G n__CODES, by rw [cad_eq (PySem.W.mg_of X G n__CODES)]; exact k__CODES, PySem.W.mg_of X G i_gcd⟩
  refine law_end X G hfa h_law (fun _ _ _ _ _ _ s v => .of_eq rfl) fun base fd F => ?_
  have D_law_box := d_law_box (P := l.prog) (w := w) (base := base) (h_law_box.fn X G) T 
  have D_law_take := d_law_take (P := l.prog) (w := w) (base := base) (h_law_take.fn X G) T 
  have D_law_letters := d_law_letters (P := l.prog) (w := w) (base := base) (h_law_letters.fn X G) T D_law_take
  have D_law_sum := d_law_sum (P := l.prog) (w := w) (base := base) (h_law_sum.fn X G) T D_law_take
  have D_law_weight := d_law_weight (P := l.prog) (w := w) (base := base) (h_law_weight.fn X G) T 
  have D_law_value := d_law_value (P := l.prog) (w := w) (base := base) (h_law_value.fn X G) T 
  have D_law_entry := d_law_entry (P := l.prog) (w := w) (base := base) (h_law_entry.fn X G) T D_law_letters D_law_take D_law_weight D_law_value
  have D_law_vectors := d_law_vectors (P := l.prog) (w := w) (base := base) (h_law_vectors.fn X G) T D_law_take D_law_sum D_law_entry
  have D_law_reduced := d_law_reduced (P := l.prog) (w := w) (base := base) (h_law_reduced.fn X G) T 
  have D_law_lead := d_law_lead (P := l.prog) (w := w) (base := base) (h_law_lead.fn X G) T 
  have D_law_span := d_law_span (P := l.prog) (w := w) (base := base) (h_law_span.fn X G) T D_law_reduced D_law_lead
  have D_law_same := d_law_same (P := l.prog) (w := w) (base := base) (h_law_same.fn X G) T 
  have D_Span := d_Span_init (P := l.prog) (w := w) (base := base) (ocls_at X G n_Span o_Span) T 
  have D_Span_rest := d_Span_rest (P := l.prog) (w := w) (base := base) (ocls_at X G n_Span o_Span) (omth_at X G n_Span m_Span_rest) T 
  have D_Span_covers := d_Span_covers (P := l.prog) (w := w) (base := base) (ocls_at X G n_Span o_Span) (omth_at X G n_Span m_Span_covers) T D_Span_rest
  have D_Span_add := d_Span_add (P := l.prog) (w := w) (base := base) (ocls_at X G n_Span o_Span) (omth_at X G n_Span m_Span_add) T D_Span_rest
  have D_combines := d_combines (P := l.prog) (w := w) (base := base) (h_combines.fn X G) T D_Span D_Span_covers D_Span_add
  have D_value := d_value (P := l.prog) (w := w) (base := base) (h_value.fn X G) T 
  have D_weight := d_weight (P := l.prog) (w := w) (base := base) (h_weight.fn X G) T 
  have D_law_number := d_law_number (P := l.prog) (w := w) (base := base) (h_law_number.fn X G) T 
  have D_law_letters_agree := d_law_letters_agree (P := l.prog) (w := w) (base := base) (h_law_letters_agree.fn X G) T D_value D_weight D_law_number D_law_value D_law_weight
  have D_law_combines_agree := d_law_combines_agree (P := l.prog) (w := w) (base := base) (h_law_combines_agree.fn X G) T D_law_same D_law_lead D_combines D_law_reduced
  exact d_law F T D_law_box D_law_letters D_law_vectors D_law_sum D_law_take D_law_span D_law_same D_combines D_law_letters_agree D_law_combines_agree D_law_entry
theorem walk {l : PySem.W.OpenLaw} {q : Program} {loose : List Str} {XP : (Str → Option Value) → Heap → Prop} {YP : World → Heap → Prop} {d : DefRec} {K : Params → PySem.W.Frag} (hn : l.most = some 63) (hdf : d.params.defaults = [])
    (hY : ∀ (w : World) (h : Heap), YP w h → (K w.params).In h)
    (F : ∀ (w : World) (mg : Str → Option Value) (fa : Addr) (h : Heap), (K w.params).In h → h.Ns mainGlobals mg → mg d.name = some (.ref fa) →
      ∃ fd : FuncData, (∀ (s : Shared) (u : Value), BindsTo s fd ⟨[u], []⟩ [("script", u)]) ∧ ∀ base : Heap, (K w.params).In base → base.Ns mainGlobals mg → FnOk l.prog w (K w.params) mg base CX0 5 fa fd ["script"] (spLaw (K w.params))) :
    PySem.W.WalkO q loose XP YP l.row.toRowW d [] (fun f vs => PySem.call f vs) :=
  L2.walk_of (n := 63) (k := 5) (x := "script") (CX := fun _ => CX0) (sp := fun w => spLaw (K w.params)) hn (by decide) hdf ⟨rfl, by decide, by decide⟩ hY F (fun _ _ a ns hl _ hS => ⟨a, ns, rfl, hS, hl, fun _ => rfl⟩) fun _ _ _ _ _ z => z
end NF
open PySem PySem.W PyProof.Rows in
set_option maxRecDepth 100000 in
set_option maxHeartbeats 0 in
theorem PySem.Challenge.cw_nestform_k21_vectors_combine_holds : PySem.Challenge.rw_nestform_k21_vectors_combine.Holds := by
  w_on; o_law; k_head; (case hw => w_witness2)
  k_fill
  refine NF.walk (l := PySem.Challenge.rw_nestform_k21_vectors_combine) rfl rfl (fun w h Y => PySem.W.kIn_of Y) ?F
  case F =>
    intro w mg fa h KX G hmg
    refine' NF.all_mk KX G hmg (NF.has_mk ?n0 ?l0 ?c0 ?k0) (NF.has_mk ?n1 ?l1 ?c1 ?k1) (NF.has_mk ?n2 ?l2 ?c2 ?k2) (NF.has_mk ?n3 ?l3 ?c3 ?k3) (NF.has_mk ?n4 ?l4 ?c4 ?k4) (NF.has_mk ?n5 ?l5 ?c5 ?k5) (NF.has_mk ?n6 ?l6 ?c6 ?k6) (NF.has_mk ?n7 ?l7 ?c7 ?k7) (NF.has_mk ?n8 ?l8 ?c8 ?k8) (NF.has_mk ?n9 ?l9 ?c9 ?k9) (NF.has_mk ?n10 ?l10 ?c10 ?k10) (NF.has_mk ?n11 ?l11 ?c11 ?k11) (NF.has_mk ?n16 ?l16 ?c16 ?k16) (NF.has_mk ?n17 ?l17 ?c17 ?k17) (NF.has_mk ?n18 ?l18 ?c18 ?k18) (NF.has_mk ?n19 ?l19 ?c19 ?k19) (NF.has_mk ?n20 ?l20 ?c20 ?k20) (NF.has_mk ?n21 ?l21 ?c21 ?k21) (NF.has_mk ?n22 ?l22 ?c22 ?k22) ?z_all ?z_bool ?z_int ?z_isinstance ?z_len ?z_list ?z_range ?z_sum ?z_super ?z_tuple ?z_zip (NF.hasC_mk ?y_BASE ?r_BASE) ?q_Span ?q__CODES (NF.codes_mk ?cl ?ck ?cn0 ?cr0 ?cn1 ?cr1 ?cn2 ?cr2 ?cn3 ?cr3 ?cn4 ?cr4 ?cn5 ?cr5 ?cn6 ?cr6 ?cn7 ?cr7 ?cn8 ?cr8 ?cn9 ?cr9 ?cn10 ?cr10 ?cn11 ?cr11 ?cn12 ?cr12 ?cn13 ?cr13 ?cn14 ?cr14 ?cn15 ?cr15) ?i_gcd (NF.ocls_mk ?oi_Span ?ol_Span ?oc_Span ?ob_Span) (NF.omth_mk ?ma_Span_rest ?ml_Span_rest ?mc_Span_rest ?mb_Span_rest) (NF.omth_mk ?ma_Span_covers ?ml_Span_covers ?mc_Span_covers ?mb_Span_covers) (NF.omth_mk ?ma_Span_add ?ml_Span_add ?mc_Span_add ?mb_Span_add)
    (case n0 => k_is)
    (case l0 => k_is)
    (case c0 => k_is)
    (case k0 => k_is)
    (case n1 => k_is)
    (case l1 => k_is)
    (case c1 => k_is)
    (case k1 => k_is)
    (case n2 => k_is)
    (case l2 => k_is)
    (case c2 => k_is)
    (case k2 => k_is)
    (case n3 => k_is)
    (case l3 => k_is)
    (case c3 => k_is)
    (case k3 => k_is)
    (case n4 => k_is)
    (case l4 => k_is)
    (case c4 => k_is)
    (case k4 => k_is)
    (case n5 => k_is)
    (case l5 => k_is)
    (case c5 => k_is)
    (case k5 => k_is)
    (case n6 => k_is)
    (case l6 => k_is)
    (case c6 => k_is)
    (case k6 => k_is)
    (case n7 => k_is)
    (case l7 => k_is)
    (case c7 => k_is)
    (case k7 => k_is)
    (case n8 => k_is)
    (case l8 => k_is)
    (case c8 => k_is)
    (case k8 => k_is)
    (case n9 => k_is)
    (case l9 => k_is)
    (case c9 => k_is)
    (case k9 => k_is)
    (case n10 => k_is)
    (case l10 => k_is)
    (case c10 => k_is)
    (case k10 => k_is)
    (case n11 => k_is)
    (case l11 => k_is)
    (case c11 => k_is)
    (case k11 => k_is)
    (case n16 => k_is)
    (case l16 => k_is)
    (case c16 => k_is)
    (case k16 => k_is)
    (case n17 => k_is)
    (case l17 => k_is)
    (case c17 => k_is)
    (case k17 => k_is)
    (case n18 => k_is)
    (case l18 => k_is)
    (case c18 => k_is)
    (case k18 => k_is)
    (case n19 => k_is)
    (case l19 => k_is)
    (case c19 => k_is)
    (case k19 => k_is)
    (case n20 => k_is)
    (case l20 => k_is)
    (case c20 => k_is)
    (case k20 => k_is)
    (case n21 => k_is)
    (case l21 => k_is)
    (case c21 => k_is)
    (case k21 => k_is)
    (case n22 => k_is)
    (case l22 => k_is)
    (case c22 => k_is)
    (case k22 => k_is)
    (case z_all => k_is)
    (case z_bool => k_is)
    (case z_int => k_is)
    (case z_isinstance => k_is)
    (case z_len => k_is)
    (case z_list => k_is)
    (case z_range => k_is)
    (case z_sum => k_is)
    (case z_super => k_is)
    (case z_tuple => k_is)
    (case z_zip => k_is)
    (case y_BASE => k_is)
    (case r_BASE => exact ⟨_, rfl⟩)
    (case q_Span => k_is)
    (case q__CODES => k_is)
    (case cl => k_is)
    (case ck => exact ⟨⟨_, _, rfl, rfl⟩, ⟨_, _, rfl, rfl⟩, ⟨_, _, rfl, rfl⟩, ⟨_, _, rfl, rfl⟩, ⟨_, _, rfl, rfl⟩, ⟨_, _, rfl, rfl⟩, ⟨_, _, rfl, rfl⟩, ⟨_, _, rfl, rfl⟩, ⟨_, _, rfl, rfl⟩, ⟨_, _, rfl, rfl⟩, ⟨_, _, rfl, rfl⟩, ⟨_, _, rfl, rfl⟩, ⟨_, _, rfl, rfl⟩, ⟨_, _, rfl, rfl⟩, ⟨_, _, rfl, rfl⟩, ⟨_, _, rfl, rfl⟩, trivial⟩)
    (case cn0 => k_is)
    (case cr0 => exact ⟨_, rfl⟩)
    (case cn1 => k_is)
    (case cr1 => exact ⟨_, rfl⟩)
    (case cn2 => k_is)
    (case cr2 => exact ⟨_, rfl⟩)
    (case cn3 => k_is)
    (case cr3 => exact ⟨_, rfl⟩)
    (case cn4 => k_is)
    (case cr4 => exact ⟨_, rfl⟩)
    (case cn5 => k_is)
    (case cr5 => exact ⟨_, rfl⟩)
    (case cn6 => k_is)
    (case cr6 => exact ⟨_, rfl⟩)
    (case cn7 => k_is)
    (case cr7 => exact ⟨_, rfl⟩)
    (case cn8 => k_is)
    (case cr8 => exact ⟨_, rfl⟩)
    (case cn9 => k_is)
    (case cr9 => exact ⟨_, rfl⟩)
    (case cn10 => k_is)
    (case cr10 => exact ⟨_, rfl⟩)
    (case cn11 => k_is)
    (case cr11 => exact ⟨_, rfl⟩)
    (case cn12 => k_is)
    (case cr12 => exact ⟨_, rfl⟩)
    (case cn13 => k_is)
    (case cr13 => exact ⟨_, rfl⟩)
    (case cn14 => k_is)
    (case cr14 => exact ⟨_, rfl⟩)
    (case cn15 => k_is)
    (case cr15 => exact ⟨_, rfl⟩)
    (case i_gcd => k_is)
    (case oi_Span => k_is)
    (case ol_Span => k_is)
    (case oc_Span => k_is)
    (case ob_Span => kernel_rfl)
    (case ma_Span_rest => k_is)
    (case ml_Span_rest => k_is)
    (case mc_Span_rest => k_is)
    (case mb_Span_rest => kernel_rfl)
    (case ma_Span_covers => k_is)
    (case ml_Span_covers => k_is)
    (case mc_Span_covers => k_is)
    (case mb_Span_covers => kernel_rfl)
    (case ma_Span_add => k_is)
    (case ml_Span_add => k_is)
    (case mc_Span_add => k_is)
    (case mb_Span_add => kernel_rfl)

