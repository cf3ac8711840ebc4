import PyProof.Rows.All
import Wide.All
import OpenK.AllK
import Wide.FinOn
import HandS.ForMost
import HandS.Wide
import HandS.Conv
import HandS.Evl
import HandS.IsInst
import HandS.TupMul
import KE.DatumOrd
import PyProof.Draws
import KE.GoesEnum
import PyProof.EnumMake
import HandS.Walk
import KE.KExcSuper
import HandS.ExcInit
import HandS.TryMany
import HandS.ExcOwn
import HandS.ExcField
import HandS.ExcIs
import HandS.ExcCtx
import HandS.HotCalls
import KE.KExcIs
import KE.KIsAll
import HandS.Defaults
import HandS.RaiseMore
import HandS.Property
import HandS.Dict
import HandS.Small
import HandS.More
import HandS.TupAny
import HandS.Gcd
import HandS.Style
import HandS.Replace
import HandS.FStr
import HandS.Codes
import HandS.Text
import HandS.Zip
import PySem.Challenge.RW_nestform_k38_paper_forms
set_option Elab.async false
set_option linter.all false
set_option maxRecDepth 100000
set_option maxHeartbeats 4000000
/-! Own toolkit over the hand layer: what is owned, steps, promises. -/
namespace NF
open PySem L2

/-! ### what is owned: B the heap at the start, M a part kept closed, R the open part -/
structure Own (B H : Hp) (M R : List (Addr × HO)) : Prop where
  nd : ((M ++ R).map Prod.fst).Nodup
  at_ : ∀ x ∈ M ++ R, H x.1 = some x.2
  out : ∀ b, b ∉ (M ++ R).map Prod.fst → ∀ o, B b = some o → H b = some o

section
variable {B H H' : Hp} {M R : List (Addr × HO)} {a p : Addr} {o u : HO}

theorem Own.get (O : Own B H M R) (j : Nat) (h : R[j]? = some (a, o)) : H a = some o :=
  O.at_ (a, o) (List.mem_append_right _ (List.mem_of_getElem? h))
theorem Own.refl0 (H : Hp) : Own H H [] [] := ⟨List.nodup_nil, fun _ h => absurd h List.not_mem_nil, fun _ _ _ h => h⟩
theorem Own.start (nd : (R.map Prod.fst).Nodup) (h : ∀ x ∈ R, H x.1 = some x.2) : Own H H [] R := ⟨nd, h, fun _ _ _ e => e⟩
theorem Own.addr_mem (O : Own B H M R) (h : x ∈ M ++ R) : x.1 ∈ (M ++ R).map Prod.fst := List.mem_map_of_mem h
theorem Own.fresh (O : Own B H M R) (h : H p = none) : p ∉ (M ++ R).map Prod.fst := fun q => by
  obtain ⟨x, hx, e⟩ := List.mem_map.mp q
  have := O.at_ x hx
  rw [e, h] at this
  cases this
theorem Own.base_free (O : Own B H M R) (h : H p = none) : B p = none := by
  cases e : B p with
  | none => rfl
  | some o =>
    have := O.out p (O.fresh h) o e
    rw [h] at this
    cases this
theorem Own.new (O : Own B H M R) (h : H p = none) : Own B (upd H p o) M (R ++ [(p, o)]) := by
  have hp := O.fresh h
  refine ⟨?_, fun x hx => ?_, fun b hb u e => ?_⟩
  · rw [← List.append_assoc, List.map_append]
    refine List.nodup_append.mpr ⟨O.nd, by simp, fun y hy z hz => ?_⟩
    have ez : z = p := by simpa using hz
    intro e
    rw [e, ez] at hy
    exact hp hy
  · rw [← List.append_assoc] at hx
    rcases List.mem_append.mp hx with hx | hx
    · have q := O.at_ x hx
      have n : x.1 ≠ p := fun e => by rw [e, h] at q; cases q
      rw [upd_ne n]
      exact q
    · have e : x = (p, o) := by simpa using hx
      rw [e]
      exact upd_same
  · rw [← List.append_assoc, List.map_append] at hb
    have h1 : b ∉ (M ++ R).map Prod.fst := fun q => hb (List.mem_append_left _ q)
    have h2 : b ≠ p := fun q => hb (List.mem_append_right _ (by simp [q]))
    rw [upd_ne h2]
    exact O.out b h1 u e
theorem nodup_fst {L : List (Addr × HO)} (nd : (L.map Prod.fst).Nodup) {i j : Nat} {x y : Addr × HO} (hi : L[i]? = some x) (hj : L[j]? = some y) (e : x.1 = y.1) : i = j := by
  have h1 : (L.map Prod.fst)[i]? = some x.1 := by rw [List.getElem?_map, hi]; rfl
  have h2 : (L.map Prod.fst)[j]? = some x.1 := by rw [List.getElem?_map, hj, e]; rfl
  exact nodup_at nd h1 h2
where
  nodup_at {l : List Addr} (nd : l.Nodup) {i j : Nat} {v : Addr} (hi : l[i]? = some v) (hj : l[j]? = some v) : i = j := by
    obtain ⟨h1, e1⟩ := List.getElem?_eq_some_iff.mp hi
    obtain ⟨h2, e2⟩ := List.getElem?_eq_some_iff.mp hj
    exact (List.getElem_inj (h₀ := h1) (h₁ := h2) nd).mp (e1.trans e2.symm)
theorem map_set_fst {R : List (Addr × HO)} {j : Nat} (h : R[j]? = some (a, o)) (u : HO) : (R.set j (a, u)).map Prod.fst = R.map Prod.fst := by
  refine List.ext_getElem? fun i => ?_
  rw [List.getElem?_map, List.getElem?_map, List.getElem?_set]
  by_cases e : j = i
  · subst e
    have hj : j < R.length := (List.getElem?_eq_some_iff.mp h).1
    rw [if_pos rfl, if_pos hj, h]
    rfl
  · rw [if_neg e]
theorem mem_set_or {R : List (Addr × HO)} {j : Nat} {x y : Addr × HO} (h : x ∈ R.set j y) : x = y ∨ ∃ i, i ≠ j ∧ R[i]? = some x := by
  obtain ⟨i, hi⟩ := List.getElem?_of_mem h
  rw [List.getElem?_set] at hi
  by_cases e : j = i
  · rw [if_pos e] at hi
    split at hi
    · exact .inl (Option.some.inj hi).symm
    · cases hi
  · rw [if_neg e] at hi
    exact .inr ⟨i, fun q => e q.symm, hi⟩
theorem Own.put (O : Own B H M R) (j : Nat) (h : R[j]? = some (a, o)) (u : HO) : Own B (upd H a u) M (R.set j (a, u)) := by
  have em : (M ++ R.set j (a, u)).map Prod.fst = (M ++ R).map Prod.fst := by
    rw [List.map_append, List.map_append, map_set_fst h u]
  have ha : a ∈ (M ++ R).map Prod.fst := List.mem_map.mpr ⟨(a, o), List.mem_append_right _ (List.mem_of_getElem? h), rfl⟩
  refine ⟨by rw [em]; exact O.nd, fun x hx => ?_, fun b hb v e => ?_⟩
  · rcases List.mem_append.mp hx with hx | hx
    · have q := O.at_ x (List.mem_append_left _ hx)
      have n : x.1 ≠ a := fun e => by
        have nd := O.nd
        rw [List.map_append] at nd
        exact (List.nodup_append.mp nd).2.2 _ (List.mem_map_of_mem hx) _ (List.mem_map.mpr ⟨(a, o), List.mem_of_getElem? h, rfl⟩) e
      rw [upd_ne n]
      exact q
    · rcases mem_set_or hx with rfl | ⟨i, ne, hi⟩
      · exact upd_same
      · have n : x.1 ≠ a := fun e => by
          have nd := O.nd
          rw [List.map_append] at nd
          exact ne (nodup_fst (List.nodup_append.mp nd).2.1 hi h e)
        rw [upd_ne n]
        exact O.at_ x (List.mem_append_right _ (List.mem_of_getElem? hi))
  · rw [em] at hb
    have n : b ≠ a := fun q => hb (q ▸ ha)
    rw [upd_ne n]
    exact O.out b hb v e
/-- a callee that had the closed part M0 and gives it back as M1, with new objects N -/
theorem Own.call {M0 M1 N : List (Addr × HO)} (O : Own B H M0 R) (C : Own H H' M1 N) (e : M1.map Prod.fst = M0.map Prod.fst) (hn : ∀ x ∈ N, H x.1 = none) : Own B H' M1 (R ++ N) := by
  have key : ∀ x ∈ R, x.1 ∉ (M1 ++ N).map Prod.fst := fun x hx q => by
    rw [List.map_append] at q
    rcases List.mem_append.mp q with q | q
    · rw [e] at q
      have nd := O.nd
      rw [List.map_append] at nd
      exact (List.nodup_append.mp nd).2.2 _ q _ (List.mem_map_of_mem hx) rfl
    · obtain ⟨y, hy, ey⟩ := List.mem_map.mp q
      have h1 := hn y hy
      have h2 := O.at_ x (List.mem_append_right _ hx)
      rw [ey, h2] at h1
      cases h1
  refine ⟨?_, fun x hx => ?_, fun b hb v q => ?_⟩
  · have nd1 := C.nd
    have nd0 := O.nd
    rw [List.map_append] at nd1 nd0
    rw [List.map_append, List.map_append]
    obtain ⟨a1, a2, a3⟩ := List.nodup_append.mp nd1
    obtain ⟨b1, b2, b3⟩ := List.nodup_append.mp nd0
    refine List.nodup_append.mpr ⟨a1, List.nodup_append.mpr ⟨b2, a2, fun y hy z hz e2 => ?_⟩, fun y hy z hz e2 => ?_⟩
    · obtain ⟨x, hx, ex⟩ := List.mem_map.mp hy
      refine key x hx ?_
      rw [List.map_append]
      rw [ex, e2]
      exact List.mem_append_right _ hz
    · rcases List.mem_append.mp hz with hz | hz
      · rw [e] at hy
        exact b3 _ hy _ hz e2
      · exact a3 _ hy _ hz e2
  · rcases List.mem_append.mp hx with hx | hx
    · exact C.at_ x (List.mem_append_left _ hx)
    · rcases List.mem_append.mp hx with hx | hx
      · exact C.out x.1 (key x hx) _ (O.at_ x (List.mem_append_right _ hx))
      · exact C.at_ x (List.mem_append_right _ hx)
  · rw [List.map_append, List.map_append] at hb
    have h1 : b ∉ (M0 ++ R).map Prod.fst := fun z => hb (by
      rw [List.map_append] at z
      rcases List.mem_append.mp z with z | z
      · exact List.mem_append_left _ (e ▸ z)
      · exact List.mem_append_right _ (List.mem_append_left _ z))
    have h2 : b ∉ (M1 ++ N).map Prod.fst := fun z => hb (by
      rw [List.map_append] at z
      rcases List.mem_append.mp z with z | z
      · exact List.mem_append_left _ z
      · exact List.mem_append_right _ (List.mem_append_right _ z))
    exact C.out b h2 _ (O.out b h1 v q)
theorem Own.call0 (O : Own B H M R) (C : Own H H' [] []) : Own B H' M R := by
  have h := Own.call (M0 := []) (M1 := []) (N := []) (R := M ++ R) (B := B) ⟨O.nd, O.at_, O.out⟩ C rfl (fun _ h => absurd h List.not_mem_nil)
  rw [List.append_nil] at h
  exact ⟨h.nd, h.at_, h.out⟩
theorem Own.callN {N : List (Addr × HO)} (O : Own B H M R) (C : Own H H' [] N) (hn : ∀ x ∈ N, H x.1 = none) : Own B H' M (R ++ N) := by
  have h := Own.call (M0 := []) (M1 := []) (N := N) (R := M ++ R) (B := B) ⟨O.nd, O.at_, O.out⟩ C rfl hn
  have e : [] ++ (M ++ R ++ N) = M ++ (R ++ N) := by rw [List.nil_append, List.append_assoc]
  rw [show Own B H' M (R ++ N) = Own B H' M (R ++ N) from rfl]
  exact ⟨by rw [← e]; exact h.nd, by rw [← e]; exact h.at_, by rw [← e]; exact h.out⟩
/-- only the closed part is told to a callee -/
theorem Own.sub (O : Own B H M R) : Own H H M [] := ⟨by
    rw [List.append_nil]
    have nd := O.nd
    rw [List.map_append] at nd
    exact (List.nodup_append.mp nd).1, fun x hx => O.at_ x (by
    rw [List.append_nil] at hx
    exact List.mem_append_left _ hx), fun _ _ _ e => e⟩
theorem Own.nil (O : Own B H [] R) : Own H H [] R := ⟨O.nd, O.at_, fun _ _ _ e => e⟩
/-- the end of a def: its own objects (not there at the start) are forgotten -/
theorem Own.drop (O : Own B H M R) (hn : ∀ x ∈ R, B x.1 = none) : Own B H M [] := ⟨by
    rw [List.append_nil]
    have nd := O.nd
    rw [List.map_append] at nd
    exact (List.nodup_append.mp nd).1, fun x hx => O.at_ x (by
    rw [List.append_nil] at hx
    exact List.mem_append_left _ hx), fun b hb o e => O.out b (fun q => by
    rw [List.map_append] at q
    rcases List.mem_append.mp q with q | q
    · exact hb (by rw [List.append_nil]; exact q)
    · obtain ⟨x, hx, ex⟩ := List.mem_map.mp q
      have := hn x hx
      rw [ex, e] at this
      cases this) o e⟩
theorem Own.dropTo {N : List (Addr × HO)} (O : Own B H M (R ++ N)) (hn : ∀ x ∈ R, B x.1 = none) : Own B H M N := ⟨by
    have nd := O.nd
    rw [List.map_append, List.map_append] at nd
    rw [List.map_append]
    obtain ⟨a1, a2, a3⟩ := List.nodup_append.mp nd
    exact List.nodup_append.mpr ⟨a1, (List.nodup_append.mp a2).2.1, fun y hy z hz => a3 y hy z (List.mem_append_right _ hz)⟩, fun x hx => O.at_ x (by
    rcases List.mem_append.mp hx with hx | hx
    · exact List.mem_append_left _ hx
    · exact List.mem_append_right _ (List.mem_append_right _ hx)), fun b hb o e => O.out b (fun q => by
    rw [List.map_append, List.map_append] at q
    rw [List.map_append] at hb
    rcases List.mem_append.mp q with q | q
    · exact hb (List.mem_append_left _ q)
    · rcases List.mem_append.mp q with q | q
      · obtain ⟨x, hx, ex⟩ := List.mem_map.mp q
        have := hn x hx
        rw [ex, e] at this
        cases this
      · exact hb (List.mem_append_right _ q)) o e⟩
end
end NF

/-! Own toolkit: one lemma a step of a reading. -/
namespace NF
open PySem L2
section
variable {K : PySem.W.Frag} {σ : St} {B H H' : Hp} {M R : List (Addr × HO)} {a p : Addr} {o u : HO} {Q : VK} {te ta tb tc : TE} {tt tu : TT} {tar : TA} {v x y : V} {i j : Int} {r : R2}
  {nx bk ct : St → Hp → Prop} {rt : VK} {g : TG} {s1 s2 : TS} {QA : List V → Hp → Prop} {QT : Bool → Hp → Prop} {QO : Option Int → Hp → Prop} {z z1 z2 : Str} {xs ys : List V} {n : Nat} {sp : Sp} {E : XK} {dvs : List V}

/-- a new list, a new tuple is asked for -/
def newL (xs : List V) (H : Hp) (Q : VK) : Prop := xs.length ≤ sizeLine ∧ ∀ p, H p = none → Q (.ref p) (upd H p (.lst xs))
def newT (xs : List V) (H : Hp) (Q : VK) : Prop := xs.length ≤ sizeLine ∧ ∀ p, H p = none → Q (.ref p) (upd H p (.tup xs))
/-! #### expressions -/
theorem x_var {k : Nat} (h : σ[k]? = some (some v)) (q : Q v H) : tVar k σ H Q := ⟨v, h, q⟩
theorem x_c (q : Q v H) : tC v σ H Q := q
theorem x_op (q : ta σ H fun x H1 => tb σ H1 fun y H2 => r x y H2 Q) : tOp r ta tb σ H Q := q
theorem x_un {r : V → Hp → VK → Prop} (q : ta σ H fun x H1 => r x H1 Q) : tUn r ta σ H Q := q
theorem x_if (q : tt σ H fun c H1 => if c = true then ta σ H1 Q else tb σ H1 Q) : tIf tt ta tb σ H Q := q
theorem x_I0 {g : Int → Int → V} (q : Q (g i j) H) : rI0 g (.int i) (.int j) H Q := ⟨i, j, rfl, rfl, q⟩
theorem x_I {C : Int → Int → Prop} {g : Int → Int → V} (hc : C i j) (q : Q (g i j) H) : rI C g (.int i) (.int j) H Q := ⟨i, j, rfl, rfl, hc, q⟩
theorem x_U {g : Int → V} (q : Q (g i) H) : rU g (.int i) H Q := ⟨i, rfl, q⟩
theorem x_eq (h : scal x y = true) (q : Q (.bl (decide (x = y))) H) : rEq x y H Q := ⟨h, q⟩
theorem x_ne (h : scal x y = true) (q : Q (.bl (!decide (x = y))) H) : rNe x y H Q := ⟨h, q⟩
theorem x_ixL (h : H a = some (.lst xs)) (hv : atI xs i = some v) (q : Q v H) : rIxL K (.ref a) (.int i) H Q := ⟨a, xs, i, v, rfl, rfl, SqL.of h, hv, q⟩
theorem x_ixT (h : H a = some (.tup xs)) (hv : atI xs i = some v) (q : Q v H) : rIxT K (.ref a) (.int i) H Q := ⟨a, xs, i, v, rfl, rfl, SqT.of h, hv, q⟩
theorem x_ixS {c : Nat} (hz : z.length ≤ sizeLine) (hv : atI z.cps.toList i = some c) (q : Q (.str ⟨#[c]⟩) H) : rIxS (.str z) (.int i) H Q := ⟨z, i, c, rfl, rfl, hz, hv, q⟩
/-! #### tests -/
theorem x_test (q : te σ H fun x H' => ∃ k, x = .bl k ∧ QT k H') : tTest te σ H QT := q
theorem x_B (q : te σ H fun x H' => ∃ k, x = .bl k ∧ QT k H') : tB te σ H QT := q
theorem x_bl {P : Bool → Prop} {b : Bool} (q : P b) : ∃ k, V.bl b = .bl k ∧ P k := ⟨b, rfl, q⟩
theorem x_and (q : tt σ H fun c H1 => if c = true then tu σ H1 QT else QT false H1) : tAnd tt tu σ H QT := q
theorem x_or (q : tt σ H fun c H1 => if c = true then QT true H1 else tu σ H1 QT) : tOr tt tu σ H QT := q
theorem x_not (q : tt σ H fun c H1 => QT (!c) H1) : tNot tt σ H QT := q
theorem x_andV (q : ta σ H fun x H1 => ∃ c, x = .bl c ∧ if c = true then tb σ H1 Q else Q (.bl false) H1) : tAndV ta tb σ H Q := q
theorem x_orV (q : ta σ H fun x H1 => ∃ c, x = .bl c ∧ if c = true then Q (.bl true) H1 else tb σ H1 Q) : tOrV ta tb σ H Q := q
theorem x_notV (q : ta σ H fun x H1 => ∃ c, x = .bl c ∧ Q (.bl (!c)) H1) : tNotV ta σ H Q := q
theorem x_ite {p : Prop} [Decidable p] {A C : Prop} (h1 : p → A) (h2 : ¬ p → C) : if decide p = true then A else C := by
  by_cases h : p
  · rw [decide_eq_true h, if_pos rfl]; exact h1 h
  · rw [decide_eq_false h, if_neg Bool.false_ne_true]; exact h2 h
theorem x_itn {p : Prop} [Decidable p] {A C : Prop} (h1 : ¬ p → A) (h2 : p → C) : if (!decide p) = true then A else C := by
  by_cases h : p
  · rw [decide_eq_true h, Bool.not_true, if_neg Bool.false_ne_true]; exact h2 h
  · rw [decide_eq_false h, Bool.not_false, if_pos rfl]; exact h1 h
theorem x_itb {b : Bool} {A C : Prop} (h1 : b = true → A) (h2 : b = false → C) : if b = true then A else C := by
  cases b
  · rw [if_neg Bool.false_ne_true]; exact h2 rfl
  · rw [if_pos rfl]; exact h1 rfl
theorem x_tt {A C : Prop} (h : A) : if true = true then A else C := by rw [if_pos rfl]; exact h
theorem x_nt {A C : Prop} (h : C) : if (!true) = true then A else C := h
theorem x_nf {A C : Prop} (h : A) : if (!false) = true then A else C := h
theorem x_ff {A C : Prop} (h : C) : if false = true then A else C := by rw [if_neg Bool.false_ne_true]; exact h
theorem x_andP {b1 b2 : Bool} (h1 : ∀ QT : Bool → Hp → Prop, QT b1 H → tt σ H QT) (h2 : b1 = true → ∀ QT : Bool → Hp → Prop, QT b2 H → tu σ H QT) (q : QT (b1 && b2) H) : tAnd tt tu σ H QT := by
  refine h1 _ ?_
  cases b1 with
  | true => exact h2 rfl _ q
  | false => exact q
theorem x_orP {b1 b2 : Bool} (h1 : ∀ QT : Bool → Hp → Prop, QT b1 H → tt σ H QT) (h2 : b1 = false → ∀ QT : Bool → Hp → Prop, QT b2 H → tu σ H QT) (q : QT (b1 || b2) H) : tOr tt tu σ H QT := by
  refine h1 _ ?_
  cases b1 with
  | false => exact h2 rfl _ q
  | true => exact q
/-- and, or of two tests -/
theorem x_iteA {b1 b2 : Bool} {A C : Prop} (h1 : b1 = true → b2 = true → A) (h2 : ¬ (b1 = true ∧ b2 = true) → C) : if b1 = true then (if b2 = true then A else C) else C := by
  cases b1 <;> cases b2 <;> simp_all
theorem x_iteO {b1 b2 : Bool} {A C : Prop} (h1 : b1 = true ∨ b2 = true → A) (h2 : b1 = false → b2 = false → C) : if b1 = true then A else (if b2 = true then A else C) := by
  cases b1 <;> cases b2 <;> simp_all
theorem x_iteI {A C : Prop} (h1 : i = j → A) (h2 : i ≠ j → C) : if decide (V.int i = V.int j) = true then A else C := x_ite (fun h => h1 (V.int.inj h)) (fun h => h2 fun e => h (e ▸ rfl))
theorem x_itnI {A C : Prop} (h1 : i ≠ j → A) (h2 : i = j → C) : if (!decide (V.int i = V.int j)) = true then A else C := x_itn (fun h => h1 fun e => h (e ▸ rfl)) (fun h => h2 (V.int.inj h))
theorem x_iteS {A C : Prop} (h1 : z1 = z2 → A) (h2 : z1 ≠ z2 → C) : if decide (V.str z1 = V.str z2) = true then A else C := x_ite (fun h => h1 (V.str.inj h)) (fun h => h2 fun e => h (e ▸ rfl))
theorem x_itnS {A C : Prop} (h1 : z1 ≠ z2 → A) (h2 : z1 = z2 → C) : if (!decide (V.str z1 = V.str z2)) = true then A else C := x_itn (fun h => h1 fun e => h (e ▸ rfl)) (fun h => h2 (V.str.inj h))
/-! #### arguments, displays, calls -/
theorem x_nil (q : QA [] H) : tNil σ H QA := q
theorem x_cons (q : ta σ H fun x H1 => tar σ H1 fun xs H2 => QA (x :: xs) H2) : tCons ta tar σ H QA := q
theorem x_lst (q : tar σ H fun xs H1 => newL xs H1 Q) : tLst tar σ H Q := q
theorem x_tup (q : tar σ H fun xs H1 => newT xs H1 Q) : tTup tar σ H Q := q
/-- a new object goes behind what is owned -/
theorem x_newL (O : Own B H M R) (hz : xs.length ≤ sizeLine) (q : ∀ p H1, B p = none → Own B H1 M (R ++ [(p, .lst xs)]) → Q (.ref p) H1) : newL xs H Q := ⟨hz, fun p hp => q p _ (O.base_free hp) (O.new hp)⟩
theorem x_newT (O : Own B H M R) (hz : xs.length ≤ sizeLine) (q : ∀ p H1, B p = none → Own B H1 M (R ++ [(p, .tup xs)]) → Q (.ref p) H1) : newT xs H Q := ⟨hz, fun p hp => q p _ (O.base_free hp) (O.new hp)⟩
theorem x_cb {r : List V → Hp → VK → Prop} (q : tar σ H fun vs H1 => r vs H1 Q) : tCB r tar σ H Q := q
theorem x_call (q : tar σ H fun vs H1 => sp (vs ++ dvs) H1 Q E) : tCall sp dvs E tar σ H Q := q
/-! #### statements -/
theorem x_seq (q : s1 ⟨s2 ⟨nx, rt, bk, ct⟩, rt, bk, ct⟩ σ H) : tSeq s1 s2 ⟨nx, rt, bk, ct⟩ σ H := q
theorem x_cut (Mid : St → Hp → Prop) (q : s1 ⟨Mid, rt, bk, ct⟩ σ H) (k : ∀ σ' H', Mid σ' H' → s2 ⟨nx, rt, bk, ct⟩ σ' H') : Evl.tCut s1 s2 ⟨nx, rt, bk, ct⟩ σ H := ⟨Mid, q, k⟩
theorem x_asg (q : te σ H fun x H1 => g x σ H1 nx) : tAsg te g ⟨nx, rt, bk, ct⟩ σ H := q
theorem x_name {k : Nat} {QS : St → Hp → Prop} (q : QS (σ.set k (some v)) H) : gName k v σ H QS := q
theorem x_sub {to ti : TE} {t : TSet} {QS : St → Hp → Prop} (q : to σ H fun o H1 => ti σ H1 fun i H2 => t o i v H2 fun H3 => QS σ H3) : gSub to ti t v σ H QS := q
theorem x_setL {QH : Hp → Prop} (O : Own B H M R) (k : Nat) (hk : R[k]? = some (a, .lst xs)) (hi : ixN xs.length i = some n) (q : ∀ H1, Own B H1 M (R.set k (a, .lst (xs.set n v))) → QH H1) : rSetL (.ref a) (.int i) v H QH :=
  ⟨a, xs, i, n, rfl, rfl, O.get k hk, hi, q _ (O.put k hk _)⟩
theorem x_drop (q : te σ H fun _ H1 => nx σ H1) : tDrop te ⟨nx, rt, bk, ct⟩ σ H := q
theorem x_ret (q : te σ H rt) : tRet te ⟨nx, rt, bk, ct⟩ σ H := q
theorem x_retN (q : rt .non H) : tRetN ⟨nx, rt, bk, ct⟩ σ H := q
theorem x_ifs (q : tt σ H fun b H1 => if b = true then s1 ⟨nx, rt, bk, ct⟩ σ H1 else s2 ⟨nx, rt, bk, ct⟩ σ H1) : tIfS tt s1 s2 ⟨nx, rt, bk, ct⟩ σ H := q
theorem x_next (q : nx σ H) : tNext ⟨nx, rt, bk, ct⟩ σ H := q
theorem x_brk (q : bk σ H) : tBreak ⟨nx, rt, bk, ct⟩ σ H := q
theorem x_cnt (q : ct σ H) : tCont ⟨nx, rt, bk, ct⟩ σ H := q
/-! #### methods of a tracked list -/
theorem x_bm {T : String} {r : V → List V → Hp → VK → Prop} (q : ta σ H fun x H1 => tyV K T x H1 ∧ tar σ H1 fun xs H2 => r x xs H2 Q) : tBM K T r ta tar σ H Q := q
theorem x_bm0 {T : String} {r : V → List V → Hp → VK → Prop} (q : ta σ H fun x H1 => tyV K T x H1 ∧ r x [] H1 Q) : tBM0 K T r ta σ H Q := q
theorem x_tyL {P : Prop} (h : H a = some (.lst xs)) (q : P) : tyV K "list" (.ref a) H ∧ P := ⟨.inl ⟨rfl, xs, SqL.of h⟩, q⟩
theorem x_tyS {P : Prop} (q : P) : tyV K "str" (.str z) H ∧ P := ⟨rfl, q⟩
theorem x_append (O : Own B H M R) (k : Nat) (hk : R[k]? = some (a, .lst xs)) (hz : xs.length < sizeLine) (q : ∀ H1, Own B H1 M (R.set k (a, .lst (xs ++ [v]))) → Q .non H1) : rAppend (.ref a) [v] H Q :=
  ⟨a, xs, v, rfl, rfl, O.get k hk, hz, q _ (O.put k hk _)⟩
theorem x_pop (O : Own B H M R) (k : Nat) (hk : R[k]? = some (a, .lst xs)) (hv : xs[xs.length - 1]? = some v) (q : ∀ H1, Own B H1 M (R.set k (a, .lst xs.dropLast)) → Q v H1) : rPop (.ref a) [] H Q :=
  ⟨a, xs, v, rfl, rfl, O.get k hk, hv, q _ (O.put k hk _)⟩
theorem x_popAt (O : Own B H M R) (k : Nat) (hk : R[k]? = some (a, .lst xs)) (n : Nat) (h1 : -(2 ^ 63) ≤ i) (h2 : i < 2 ^ 63) (hn : seqIndex? i xs.length = some n) (hv : xs[n]? = some v) (q : ∀ H1, Own B H1 M (R.set k (a, .lst (xs.eraseIdx n))) → Q v H1) : rPopAt (.ref a) [.int i] H Q :=
  ⟨a, xs, i, n, v, rfl, rfl, O.get k hk, h1, h2, hn, hv, q _ (O.put k hk _)⟩
end

/-! ### named rules -/
section
variable {X : Cx}
def rLen (K : PySem.W.Frag) : List V → Hp → VK → Prop := fun xs H Q => ∃ x n, xs = [x] ∧ LenV K x H n ∧ Q (.int n) H
theorem callLen : CallR X (.builtin "len") (rLen X.K) := call_len
def rInt : List V → Hp → VK → Prop := fun xs H Q => (∃ i, xs = [.int i] ∧ Q (.int i) H) ∨ ∃ k, xs = [.bl k] ∧ Q (.int (if k then 1 else 0)) H
theorem callInt : CallR X (.type "int") rInt := call_int1
def rMin2 : List V → Hp → VK → Prop := fun xs H Q => ∃ i j, xs = [.int i, .int j] ∧ Q (.int (if j < i then j else i)) H
theorem callMin2 (hc : X.calm = true) : CallR X (.builtin "min") rMin2 := call_min2 hc
def rMax2 : List V → Hp → VK → Prop := fun xs H Q => ∃ i j, xs = [.int i, .int j] ∧ Q (.int (if j > i then j else i)) H
theorem callMax2 (hc : X.calm = true) : CallR X (.builtin "max") rMax2 := call_max2 hc
def rAbs : List V → Hp → VK → Prop := fun xs H Q => ∃ i, xs = [.int i] ∧ Q (.int (if i < 0 then -i else i)) H
theorem callAbs : CallR X (.builtin "abs") rAbs := call_abs
def rListOf (K : PySem.W.Frag) : List V → Hp → VK → Prop := fun xs H Q => ∃ p ys, xs = [.ref p] ∧ (SqL K H p ys ∨ SqT K H p ys) ∧ ∀ l, H l = none → Q (.ref l) (upd H l (.lst ys))
theorem callListOf : CallR X (.type "list") (rListOf X.K) := call_list_of
def rAddS : R2 := fun x y H Q => ∃ i j, x = .str i ∧ y = .str j ∧ i.length + j.length ≤ sizeLine ∧ Q (.str (i ++ j)) H
theorem opAddS : OpR X (binaryOp .Add) rAddS := op_add_str
def rInC : R2 := fun x y H Q => ∃ (c : Nat) (z : Str), x = .str ⟨#[c]⟩ ∧ y = .str z ∧ Q (.bl (decide (c ∈ z.cps.toList))) H
theorem opInC : OpR X (compareOp .In) rInC := op_in_sign
def rNotInC : R2 := fun x y H Q => ∃ (c : Nat) (z : Str), x = .str ⟨#[c]⟩ ∧ y = .str z ∧ Q (.bl (!decide (c ∈ z.cps.toList))) H
theorem opNotInC : OpR X (compareOp .NotIn) rNotInC := op_notIn_sign
def rIsN : R2 := fun x y H Q => y = .non ∧ Q (.bl (decide (x = .non))) H
theorem opIsN : OpR X (compareOp .Is) rIsN := op_isN
def rNotN : R2 := fun x y H Q => y = .non ∧ Q (.bl (!decide (x = .non))) H
theorem opNotN : OpR X (compareOp .IsNot) rNotN := op_notN
def tTru (K : PySem.W.Frag) (ta : TE) : TT := fun σ H Q => ta σ H fun x H' => ∃ k, TruV K x H' k ∧ Q k H'
theorem ptTruth {a : Expr} {ta : TE} (ha : PE X a ta) (he : ∀ whole, isTrue a X.env whole = (do let v ← whole; standAt a.pos; holding [v] (truthy v))) : PT X a (tTru X.K ta) := pt_truth ha he
def rUpper : V → List V → Hp → VK → Prop := fun x xs H Q => ∃ a, x = .str a ∧ xs = [] ∧ a.length ≤ 5592405 ∧ Q (.str (Txt.upper a)) H
theorem mtUpper : MtR X "str.upper" rUpper := mt_upper
def rLower : V → List V → Hp → VK → Prop := fun x xs H Q => ∃ a, x = .str a ∧ xs = [] ∧ a.length ≤ 5592405 ∧ Q (.str (Txt.lower a)) H
theorem mtLower : MtR X "str.lower" rLower := mt_lower
def rFind : V → List V → Hp → VK → Prop := fun x xs H Q => ∃ a b, x = .str a ∧ xs = [.str b] ∧ Q (.int (Txt.find a b)) H
theorem mtFind : MtR X "str.find" rFind := mt_find
def rJoin (K : PySem.W.Frag) : V → List V → Hp → VK → Prop := fun x xs H Q => ∃ a p, ∃ ys : List Str, x = .str a ∧ xs = [.ref p] ∧ (SqL K H p (ys.map V.str) ∨ SqT K H p (ys.map V.str)) ∧
    (ys.map (·.length)).sum + ys.length * a.length ≤ 16777216 ∧ Q (.str (Txt.join a ys)) H
theorem mtJoin : MtR X "str.join" (rJoin X.K) := mt_join
end
section
variable {K : PySem.W.Frag} {σ : St} {B H H' : Hp} {M R : List (Addr × HO)} {a p : Addr} {Q : VK} {ta : TE} {i j : Int} {z z1 z2 : Str} {xs : List V} {QT : Bool → Hp → Prop} {x : V} {c : Nat}
theorem x_lenS (h : z.length ≤ sizeLine) (q : Q (.int z.length) H) : rLen K [.str z] H Q := ⟨.str z, _, rfl, ⟨h, rfl⟩, q⟩
theorem x_lenL (h : H a = some (.lst xs)) (q : Q (.int xs.length) H) : rLen K [.ref a] H Q := ⟨.ref a, _, rfl, .inl ⟨xs, SqL.of h, rfl⟩, q⟩
theorem x_lenT (h : H a = some (.tup xs)) (q : Q (.int xs.length) H) : rLen K [.ref a] H Q := ⟨.ref a, _, rfl, .inr ⟨xs, SqT.of h, rfl⟩, q⟩
theorem x_int (q : Q (.int i) H) : rInt [.int i] H Q := .inl ⟨i, rfl, q⟩
theorem x_min2 (q : Q (.int (if j < i then j else i)) H) : rMin2 [.int i, .int j] H Q := ⟨i, j, rfl, q⟩
theorem x_max2 (q : Q (.int (if j > i then j else i)) H) : rMax2 [.int i, .int j] H Q := ⟨i, j, rfl, q⟩
theorem x_abs (q : Q (.int (if i < 0 then -i else i)) H) : rAbs [.int i] H Q := ⟨i, rfl, q⟩
theorem x_listOf (O : Own B H M R) (h : H a = some (.lst xs) ∨ H a = some (.tup xs)) (q : ∀ p H1, B p = none → Own B H1 M (R ++ [(p, .lst xs)]) → Q (.ref p) H1) : rListOf K [.ref a] H Q :=
  ⟨a, xs, rfl, h.imp SqL.of SqT.of, fun l hl => q l _ (O.base_free hl) (O.new hl)⟩
theorem x_addS (h : z1.length + z2.length ≤ sizeLine) (q : Q (.str (z1 ++ z2)) H) : rAddS (.str z1) (.str z2) H Q := ⟨z1, z2, rfl, rfl, h, q⟩
theorem x_inC (q : Q (.bl (decide (c ∈ TL.tl z))) H) : rInC (.str ⟨#[c]⟩) (.str z) H Q := ⟨c, z, rfl, rfl, q⟩
theorem x_notInC (q : Q (.bl (!decide (c ∈ TL.tl z))) H) : rNotInC (.str ⟨#[c]⟩) (.str z) H Q := ⟨c, z, rfl, rfl, q⟩
theorem x_isN (q : Q (.bl (decide (x = .non))) H) : rIsN x .non H Q := ⟨rfl, q⟩
theorem x_notN (q : Q (.bl (!decide (x = .non))) H) : rNotN x .non H Q := ⟨rfl, q⟩
theorem x_isNn (q : Q (.bl true) H) : rIsN .non .non H Q := ⟨rfl, q⟩
theorem x_notNn (q : Q (.bl false) H) : rNotN .non .non H Q := ⟨rfl, q⟩
theorem x_isNi (q : Q (.bl false) H) : rIsN (.int i) .non H Q := ⟨rfl, q⟩
theorem x_notNi (q : Q (.bl true) H) : rNotN (.int i) .non H Q := ⟨rfl, q⟩
theorem x_isNs (q : Q (.bl false) H) : rIsN (.str z) .non H Q := ⟨rfl, q⟩
theorem x_notNs (q : Q (.bl true) H) : rNotN (.str z) .non H Q := ⟨rfl, q⟩
theorem x_isNb {b : Bool} (q : Q (.bl false) H) : rIsN (.bl b) .non H Q := ⟨rfl, q⟩
theorem x_notNb {b : Bool} (q : Q (.bl true) H) : rNotN (.bl b) .non H Q := ⟨rfl, q⟩
theorem x_isNr (q : Q (.bl false) H) : rIsN (.ref a) .non H Q := ⟨rfl, q⟩
theorem x_notNr (q : Q (.bl true) H) : rNotN (.ref a) .non H Q := ⟨rfl, q⟩
theorem x_tru (q : ta σ H fun x H' => ∃ k, TruV K x H' k ∧ QT k H') : tTru K ta σ H QT := q
theorem x_truL {P : Bool → Prop} (h : H a = some (.lst xs)) (q : P (!xs.isEmpty)) : ∃ k, TruV K (.ref a) H k ∧ P k := ⟨_, .inl ⟨xs, SqL.of h, rfl⟩, q⟩
theorem x_truS {P : Bool → Prop} (h : z.length ≤ sizeLine) (q : P ((z.length : Int) != 0)) : ∃ k, TruV K (.str z) H k ∧ P k := ⟨_, ⟨h, rfl⟩, q⟩
theorem x_truB {P : Bool → Prop} {b : Bool} (q : P b) : ∃ k, TruV K (.bl b) H k ∧ P k := ⟨_, rfl, q⟩
theorem x_truI {P : Bool → Prop} (q : P (i != 0)) : ∃ k, TruV K (.int i) H k ∧ P k := ⟨_, rfl, q⟩
theorem x_truN {P : Bool → Prop} (q : P false) : ∃ k, TruV K .non H k ∧ P k := ⟨_, rfl, q⟩
theorem x_upper (h : z.length ≤ 5592405) (q : Q (.str (Txt.upper z)) H) : rUpper (.str z) [] H Q := ⟨z, rfl, rfl, h, q⟩
theorem x_lower (h : z.length ≤ 5592405) (q : Q (.str (Txt.lower z)) H) : rLower (.str z) [] H Q := ⟨z, rfl, rfl, h, q⟩
theorem x_find (q : Q (.int (Txt.find z1 z2)) H) : rFind (.str z1) [.str z2] H Q := ⟨z1, z2, rfl, rfl, q⟩
theorem x_joinL (ys : List Str) (h : H p = some (.lst (ys.map V.str))) (hz : (ys.map (·.length)).sum + ys.length * z.length ≤ 16777216) (q : Q (.str (Txt.join z ys)) H) : rJoin K (.str z) [.ref p] H Q :=
  ⟨z, p, ys, rfl, rfl, .inl (SqL.of h), hz, q⟩
end

/-! ### slices -/
section
variable {K : PySem.W.Frag} {σ : St} {B H H' : Hp} {M R : List (Addr × HO)} {a p : Addr} {Q : VK} {te : TE} {i : Int} {z : Str} {xs : List V} {tl th : TO} {r : V → Option Int → Option Int → Hp → VK → Prop} {QO : Option Int → Hp → Prop} {lo hi : Option Int}
theorem x_sl (q : te σ H fun x H1 => tl σ H1 fun l H2 => th σ H2 fun u H3 => r x l u H3 Q) : tSl r te tl th σ H Q := q
theorem x_noPart (q : QO none H) : tNoPart σ H QO := q
theorem x_part (q : te σ H fun x H1 => ∃ i, x = .int i ∧ QO (some i) H1) : tPart te σ H QO := q
theorem x_pI {P : Int → Prop} (q : P i) : ∃ j, V.int i = .int j ∧ P j := ⟨i, rfl, q⟩
theorem x_slS (hz : z.length ≤ sizeLine) (q : Q (.str (cutS z lo hi)) H) : rSlS (.str z) lo hi H Q := ⟨z, rfl, hz, q⟩
theorem x_slL (hx : SqL K H a xs) (O : Own B H M R) (q : ∀ p H1, B p = none → Own B H1 M (R ++ [(p, .lst (cutV xs lo hi))]) → Q (.ref p) H1) : rSlL K (.ref a) lo hi H Q := ⟨a, xs, rfl, hx, fun p hp => q p _ (O.base_free hp) (O.new hp)⟩
theorem Own.perm {R' : List (Addr × HO)} (O : Own B H M R) (h : R.Perm R') : Own B H M R' := by
  have e : (M ++ R).Perm (M ++ R') := List.Perm.append_left M h
  exact ⟨(e.map Prod.fst).nodup_iff.mp O.nd, fun x hx => O.at_ x (e.mem_iff.mpr hx), fun b hb o q => O.out b (fun z => hb ((e.map Prod.fst).mem_iff.mp z)) o q⟩
theorem Own.close {N : List (Addr × HO)} (O : Own B H [] (R ++ N)) : Own B H N R := by
  have e : ([] ++ (R ++ N)).Perm (N ++ R) := by rw [List.nil_append]; exact List.perm_append_comm
  exact ⟨(e.map Prod.fst).nodup_iff.mp O.nd, fun x hx => O.at_ x (e.mem_iff.mpr hx), fun b hb o q => O.out b (fun z => hb ((e.map Prod.fst).mem_iff.mp z)) o q⟩
end

section
variable {K : PySem.W.Frag} {B H : Hp} {M R : List (Addr × HO)} {a b : Addr} {Q : VK} {xs ys : List V}
theorem x_cat (O : Own B H M R) (h1 : H a = some (.lst xs)) (h2 : H b = some (.lst ys)) (hz : xs.length + ys.length ≤ sizeLine) (q : ∀ p H1, B p = none → Own B H1 M (R ++ [(p, .lst (xs ++ ys))]) → Q (.ref p) H1) : rCat (.ref a) (.ref b) H Q :=
  ⟨a, b, xs, ys, rfl, rfl, h1, h2, hz, fun p hp => q p _ (O.base_free hp) (O.new hp)⟩
theorem x_lstRg {te : St → Hp → (Int → Int → Hp → Prop) → Prop} {σ : St} (q : te σ H fun a b H1 => RgOk a b ∧ ∀ q, H1 q = none → Q (.ref q) (upd H1 q (.lst (rgV a b)))) : tLstRg te σ H Q := q
def newRg (a b : Int) (H : Hp) (Q : VK) : Prop := RgOk a b ∧ ∀ q, H q = none → Q (.ref q) (upd H q (.lst (rgV a b)))
theorem x_lstRg1 {ta : TE} {σ : St} (q : ta σ H fun x H1 => ∃ n, x = .int n ∧ newRg 0 n H1 Q) : tLstRg (tRg1 ta) σ H Q := q
theorem x_lstRg2 {ta tb : TE} {σ : St} (q : ta σ H fun x H1 => tb σ H1 fun y H2 => ∃ i j, x = .int i ∧ y = .int j ∧ newRg i j H2 Q) : tLstRg (tRg2 ta tb) σ H Q := q
theorem rgV_ints (a b : Int) : rgV a b = ((List.range (b - a).toNat).map fun i : Nat => a + (i : Int)).map V.int := by unfold rgV; rw [List.map_map]; rfl
theorem x_newRg {n m : Int} (O : Own B H M R) (h : RgOk n m) (q : ∀ p H1, B p = none → Own B H1 M (R ++ [(p, .lst (((List.range (m - n).toNat).map fun i : Nat => n + (i : Int)).map V.int))]) → Q (.ref p) H1) : newRg n m H Q :=
  ⟨h, fun p hp => q p _ (O.base_free hp) (by rw [← rgV_ints]; exact O.new hp)⟩
end

/-! ### promises: a part of the heap M is told by D and given back -/
/-- the closed part is what D says, at the cells A -/
structure In (D : Addr → List (Addr × HO) → Prop) (a : Addr) (A : List Addr) (M : List (Addr × HO)) : Prop where
  d : D a M
  e : M.map Prod.fst = A
/-- with a closed part (a box) at the first argument's address: D a M says what the box at a is -/
def spB (n : Nat) (D : Addr → List (Addr × HO) → Prop) (pre : List V → Prop) (post : List V → V → Prop) : Sp := fun vs H Q _ =>
  ∃ a A M rest, vs = .ref a :: rest ∧ rest.length = n ∧ In D a A M ∧ Own H H M [] ∧ pre rest ∧ ∀ v H' M', In D a A M' → Own H H' M' [] → post rest v → Q v H'
/-- plain values in, a plain value out -/
def spP (n : Nat) (pre : List V → Prop) (post : List V → V → Prop) : Sp := fun vs H Q _ => vs.length = n ∧ pre vs ∧ ∀ v H', Own H H' [] [] → post vs v → Q v H'
/-- plain values in, a new object out -/
def spNew (n : Nat) (pre : List V → Prop) (post : List V → HO → Prop) : Sp := fun vs H Q _ => vs.length = n ∧ pre vs ∧ ∀ p H' o, H p = none → Own H H' [] [(p, o)] → post vs o → Q (.ref p) H'
theorem hl_spNew {n : Nat} {pre : List V → Prop} {post : List V → HO → Prop} : ∀ vs H Q E, spNew n pre post vs H Q E → vs.length = n := fun vs H Q E h => h.1
theorem hl_spB {n : Nat} {D : Addr → List (Addr × HO) → Prop} {pre : List V → Prop} {post : List V → V → Prop} : ∀ vs H Q E, spB n D pre post vs H Q E → vs.length = n + 1 := fun vs H Q E h => by
  obtain ⟨a, A, M, rest, rfl, e, _⟩ := h
  rw [List.length_cons, e]
theorem hl_spP {n : Nat} {pre : List V → Prop} {post : List V → V → Prop} : ∀ vs H Q E, spP n pre post vs H Q E → vs.length = n := fun vs H Q E h => h.1
section
variable {B H : Hp} {M R : List (Addr × HO)} {a : Addr} {Q : VK} {E : XK} {D : Addr → List (Addr × HO) → Prop} {pre : List V → Prop} {post : List V → V → Prop} {vs : List V} {n : Nat}
theorem use_spP (O : Own B H M R) (hl : vs.length = n) (hp : pre vs) (q : ∀ v H', Own B H' M R → post vs v → Q v H') : spP n pre post vs H Q E := ⟨hl, hp, fun v H' O' h => q v H' (O.call0 O') h⟩
theorem use_spNew {post : List V → HO → Prop} (O : Own B H M R) (hl : vs.length = n) (hp : pre vs) (q : ∀ p H' o, B p = none → Own B H' M (R ++ [(p, o)]) → post vs o → Q (.ref p) H') : spNew n pre post vs H Q E :=
  ⟨hl, hp, fun p H' o hp O' h => q p H' o (O.base_free hp) (O.callN O' fun x hx => by rw [List.mem_singleton.mp hx]; exact hp) h⟩
theorem use_spB {rest : List V} {A : List Addr} (O : Own B H M R) (hD : In D a A M) (hl : rest.length = n) (hp : pre rest) (q : ∀ v H' M', In D a A M' → Own B H' M' R → post rest v → Q v H') : spB n D pre post (.ref a :: rest) H Q E :=
  ⟨a, A, M, rest, rfl, hl, hD, O.sub, hp, fun v H' M' hD' O' h => q v H' M' hD' (by
    have := O.call O' (hD'.e.trans hD.e.symm) (fun _ h => absurd h List.not_mem_nil)
    rw [List.append_nil] at this
    exact this) h⟩
theorem Own.opened (O : Own B H M []) : Own B H [] M := ⟨by have h := O.nd; rw [List.append_nil] at h; exact h, by have h := O.at_; rw [List.append_nil] at h; exact h, by have h := O.out; rw [List.append_nil] at h; exact h⟩
theorem Own.closed (O : Own B H [] R) : Own B H R [] := ⟨by rw [List.append_nil]; exact O.nd, by rw [List.append_nil]; exact O.at_, by rw [List.append_nil]; exact O.out⟩
end
end NF

/-! Own toolkit: further rules, defs by name, the end. -/
namespace NF
open PySem L2 PySem.Spec PyProof.Rows PySem.W

/-! ### a global constant, a def by its name -/
section
variable {X : Cx}
theorem pe_g {x : Str} {v : V} {pos : Pos} (hg : Gl X x) (hm : ∃ u, X.mg x = some u ∧ RelV v u) (hd : (x == ("__debug__" : Str)) = false := by decide) : PE X (.Name x pos) (tC v) := by
  obtain ⟨u, h, r⟩ := hm
  exact pe_glob hg h r hd
end
/-- a def as the top leaves it -/
def Fn0 (K : PySem.W.Frag) (mg : Str → Option Value) (x : Str) (st : Stmt) : Prop := ∃ f fd, Fun K x x st f fd ∧ mg x = some (.ref f)
/-- a def by its name, with its promise -/
structure Def (P : Program) (w : World) (K : PySem.W.Frag) (mg : Str → Option Value) (base : Heap) (k : Nat) (x : Str) (ps : List Str) (sp : Sp) : Prop where
  ex : ∃ f fd, FnOk P w K mg base CX0 k f fd ps sp ∧ mg x = some (.ref f) ∧ PySem.W.keepIn K (.ref f) = true ∧ Binds K fd ps []
section
variable {P : Program} {w : World} {K : PySem.W.Frag} {mg : Str → Option Value} {base : Heap}
theorem Def.mk0 {x : Str} {st : Stmt} {N ps : List Str} {k : Nat} {sp : Sp} (F : Fn0 K mg x st) (S : FnScope N ps (defScope st)) (len : ∀ vs H Q E, sp vs H Q E → vs.length = ps.length)
    (hbind : ∀ (kV doc pm : Value) (an : Option Addr) (cdv ct : Value) (us : List Value), us.length = ps.length → bindArgs (PySem.W.fnOf x x (defArgs st) (defBody st) (defScope st) .none kV doc pm an cdv ct) ⟨us, []⟩ = pure (ps.zip us))
    (hbody : ∀ {f : Addr} (cdv : Value) (A : Around) (outer : List Env) (s : Shared) (H : Hp) (vs : List V) (Q : VK) (E : XK), Room k (A.deeper (envOfC x (defScope st) s.heap.objs.size f cdv)) → sp vs H Q E →
      ∃ t, PSs (cxOf CX0 P w K mg base N x (defScope st) f cdv A outer s H E).nox (defBody st) t ∧ t { nx := fun _ H' => Q .non H', rt := Q } (start N vs) H) : Def P w K mg base (k + 1) x ps sp := by
  obtain ⟨f, fd, F, hm⟩ := F
  exact ⟨f, fd, F.ok S len fun cdv A outer s H vs Q E hr h => hbody cdv A outer s H vs Q E hr h, hm, F.kp, F.binds hbind⟩
end
section
variable {X : Cx} {k : Nat} {x : Str} {ps : List Str} {sp : Sp} {p pos : Pos} {e : Expr} {es : List Expr} {t : TA}
theorem pe_d (D : Def X.prog X.w X.K X.mg X.base k x ps sp) (hr : Room k X.A) (hg : Gl X x) (ha : PA X (e :: es) t) (hdb : (x == ("__debug__" : Str)) = false := by decide)
    (he : starEach (e :: es) X.env = (false, eval e X.env) :: starEach es X.env := by rfl) (hpl : (backTo pos (starEach es X.env)).any (·.1) = false := by rfl) : PE X (.Call (.Name x p) (e :: es) [] pos) (tCall sp [] E0 t) := by
  obtain ⟨f, fd, F, hm, hk, hb⟩ := D.ex
  exact pe_call F hr hg hm hk hb .nil pass0 ha hdb he hpl
theorem pe_d0 (D : Def X.prog X.w X.K X.mg X.base k x ps sp) (hr : Room k X.A) (hg : Gl X x) (hdb : (x == ("__debug__" : Str)) = false := by decide) : PE X (.Call (.Name x p) [] [] pos) (tCall sp [] E0 tNil) := by
  obtain ⟨f, fd, F, hm, hk, hb⟩ := D.ex
  exact pe_call0 F hr hg hm hk hb .nil pass0 hdb
end

/-! ### what the head hands over -/
structure Has (K : PySem.W.Frag) (x : Str) (st : Stmt) : Prop where
  ex : ∃ (f : Addr) (oc : Value) (od an : Option Addr) (kV dc pm cd ct : Value) (sl : Array (Option Value)), PySem.W.nsIn K mainGlobals x = some (some (.ref f)) ∧
    K.lookup f = some ⟨oc, od, .func (PySem.W.fnOf x x (defArgs st) (defBody st) (defScope st) .none kV dc pm an cd ct), sl⟩ ∧ PySem.W.codeIn K cd x = true ∧ PySem.W.keepIn K (.ref f) = true
theorem has_mk {K : PySem.W.Frag} {x : Str} {st : Stmt} {f : Addr} {oc : Value} {od an : Option Addr} {kV dc pm cd ct : Value} {sl : Array (Option Value)} (h1 : PySem.W.nsIn K mainGlobals x = some (some (.ref f)))
    (h2 : K.lookup f = some ⟨oc, od, .func (PySem.W.fnOf x x (defArgs st) (defBody st) (defScope st) .none kV dc pm an cd ct), sl⟩) (h3 : PySem.W.codeIn K cd x = true) (h4 : PySem.W.keepIn K (.ref f) = true) : Has K x st := ⟨f, oc, od, an, kV, dc, pm, cd, ct, sl, h1, h2, h3, h4⟩
theorem Has.fn {K : PySem.W.Frag} {x : Str} {st : Stmt} {h : Heap} {mg : Str → Option Value} (A : Has K x st) (X : K.In h) (G : h.Ns mainGlobals mg) : Fn0 K mg x st := by
  obtain ⟨f, oc, od, an, kV, dc, pm, cd, ct, sl, h1, h2, h3, h4⟩ := A.ex
  exact ⟨f, _, fun_mk h2 h3 h4, PySem.W.mg_of X G h1⟩
/-- a constant of the module -/
structure HasC (K : PySem.W.Frag) (x : Str) (v : V) : Prop where
  ex : ∃ u, PySem.W.nsIn K mainGlobals x = some (some u) ∧ RelV v u
theorem hasC_mk {K : PySem.W.Frag} {x : Str} {v : V} {u : Value} (h : PySem.W.nsIn K mainGlobals x = some (some u)) (r : RelV v u) : HasC K x v := ⟨u, h, r⟩
theorem HasC.mg {K : PySem.W.Frag} {x : Str} {v : V} {h : Heap} {mg : Str → Option Value} (A : HasC K x v) (X : K.In h) (G : h.Ns mainGlobals mg) : ∃ u, mg x = some u ∧ RelV v u := by
  obtain ⟨u, h1, r⟩ := A.ex
  exact ⟨u, PySem.W.mg_of X G h1, r⟩
theorem law_end {l : PySem.W.OpenLaw} {w : World} {K : PySem.W.Frag} {h : Heap} {mg : Str → Option Value} {fa : Addr} {st : Stmt} {k : Nat} {sp : Sp} (X : K.In h) (G : h.Ns mainGlobals mg) (hfa : mg "law" = some (.ref fa)) (A : Has K "law" st)
    (hbind : ∀ (kV doc pm : Value) (an : Option Addr) (cdv ct : Value) (s : Shared) (v : Value), BindsTo s (PySem.W.fnOf "law" "law" (defArgs st) (defBody st) (defScope st) .none kV doc pm an cdv ct) ⟨[v], []⟩ [("script", v)])
    (F : ∀ (base : Heap) (fd : FuncData), Fun K "law" "law" st fa fd → FnOk l.prog w K mg base CX0 k fa fd ["script"] sp) :
    ∃ fd : FuncData, (∀ (s : Shared) (v : Value), BindsTo s fd ⟨[v], []⟩ [("script", v)]) ∧ ∀ base : Heap, K.In base → base.Ns mainGlobals mg → FnOk l.prog w K mg base CX0 k fa fd ["script"] sp := by
  obtain ⟨f, oc, od, an, kV, dc, pm, cd, ct, sl, h1, h2, h3, h4⟩ := A.ex
  have e := hfa.symm.trans (PySem.W.mg_of X G h1)
  cases e
  exact ⟨_, fun s v => hbind kV dc pm an cd ct s v, fun base _ _ => F base _ (fun_mk h2 h3 h4)⟩

/-! ### isinstance(x, T), T a built-in class -/
def rIsT (K : PySem.W.Frag) : List V → Hp → VK → Prop := fun xs H Q => ∃ x T n b, xs = [x, .ty T] ∧ TyX K H x (.type n) ∧ kitB n T = some b ∧ Q (.bl b) H
theorem callIsT {X : Cx} : CallR X (.builtin "isinstance") (rIsT X.K) := fun pins s σ H xs us Q I r h => by
  obtain ⟨x, T, n, b, rfl, ty, hb, q⟩ := h
  exact call_isi pins s σ H _ us Q I r ⟨x, .ty T, .type n, .type T, b, rfl, .ty T, ty, kit_ty hb, q⟩
theorem pe_ty {X : Cx} {T : Str} {n : String} {q : Pos} (hgT : Gl X T) (hmT : X.mg T = none) (hvT : bootBuiltins T = some (.type n)) (hn : T ≠ "__name__" := by decide) (hd : (T == ("__debug__" : Str)) = false := by decide) : PE X (.Name T q) (tC (.ty n)) :=
  pe_bltn hgT hmT hvT rfl hn hd
section
variable {K : PySem.W.Frag} {H : Hp} {Q : VK} {T : String} {a : Addr} {xs : List V} {b : Bool}
theorem x_isI {i : Int} (hb : kitB "int" T = some b) (q : Q (.bl b) H) : rIsT K [.int i, .ty T] H Q := ⟨_, _, _, b, rfl, .base (.int i), hb, q⟩
theorem x_isB {i : Bool} (hb : kitB "bool" T = some b) (q : Q (.bl b) H) : rIsT K [.bl i, .ty T] H Q := ⟨_, _, _, b, rfl, .base (.bl i), hb, q⟩
theorem x_isS {i : Str} (hb : kitB "str" T = some b) (q : Q (.bl b) H) : rIsT K [.str i, .ty T] H Q := ⟨_, _, _, b, rfl, .base (.str i), hb, q⟩
theorem x_isNon (hb : kitB "NoneType" T = some b) (q : Q (.bl b) H) : rIsT K [.non, .ty T] H Q := ⟨_, _, _, b, rfl, .base .non, hb, q⟩
theorem x_isL (h : H a = some (.lst xs)) (hb : kitB "list" T = some b) (q : Q (.bl b) H) : rIsT K [.ref a, .ty T] H Q := ⟨_, _, _, b, rfl, .base (.lst h), hb, q⟩
theorem x_isT (h : H a = some (.tup xs)) (hb : kitB "tuple" T = some b) (q : Q (.bl b) H) : rIsT K [.ref a, .ty T] H Q := ⟨_, _, _, b, rfl, .base (.tup h), hb, q⟩
end

theorem kit_int_int : kitB "int" "int" = some true := by decide +kernel
theorem kit_int_bool : kitB "int" "bool" = some false := by decide +kernel
theorem kit_int_str : kitB "int" "str" = some false := by decide +kernel
theorem kit_int_list : kitB "int" "list" = some false := by decide +kernel
theorem kit_int_tuple : kitB "int" "tuple" = some false := by decide +kernel
theorem kit_int_dict : kitB "int" "dict" = some false := by decide +kernel
theorem kit_bool_int : kitB "bool" "int" = some true := by decide +kernel
theorem kit_bool_bool : kitB "bool" "bool" = some true := by decide +kernel
theorem kit_bool_str : kitB "bool" "str" = some false := by decide +kernel
theorem kit_bool_list : kitB "bool" "list" = some false := by decide +kernel
theorem kit_bool_tuple : kitB "bool" "tuple" = some false := by decide +kernel
theorem kit_bool_dict : kitB "bool" "dict" = some false := by decide +kernel
theorem kit_str_int : kitB "str" "int" = some false := by decide +kernel
theorem kit_str_bool : kitB "str" "bool" = some false := by decide +kernel
theorem kit_str_str : kitB "str" "str" = some true := by decide +kernel
theorem kit_str_list : kitB "str" "list" = some false := by decide +kernel
theorem kit_str_tuple : kitB "str" "tuple" = some false := by decide +kernel
theorem kit_str_dict : kitB "str" "dict" = some false := by decide +kernel
theorem kit_NoneType_int : kitB "NoneType" "int" = some false := by decide +kernel
theorem kit_NoneType_bool : kitB "NoneType" "bool" = some false := by decide +kernel
theorem kit_NoneType_str : kitB "NoneType" "str" = some false := by decide +kernel
theorem kit_NoneType_list : kitB "NoneType" "list" = some false := by decide +kernel
theorem kit_NoneType_tuple : kitB "NoneType" "tuple" = some false := by decide +kernel
theorem kit_NoneType_dict : kitB "NoneType" "dict" = some false := by decide +kernel
theorem kit_list_int : kitB "list" "int" = some false := by decide +kernel
theorem kit_list_bool : kitB "list" "bool" = some false := by decide +kernel
theorem kit_list_str : kitB "list" "str" = some false := by decide +kernel
theorem kit_list_list : kitB "list" "list" = some true := by decide +kernel
theorem kit_list_tuple : kitB "list" "tuple" = some false := by decide +kernel
theorem kit_list_dict : kitB "list" "dict" = some false := by decide +kernel
theorem kit_tuple_int : kitB "tuple" "int" = some false := by decide +kernel
theorem kit_tuple_bool : kitB "tuple" "bool" = some false := by decide +kernel
theorem kit_tuple_str : kitB "tuple" "str" = some false := by decide +kernel
theorem kit_tuple_list : kitB "tuple" "list" = some false := by decide +kernel
theorem kit_tuple_tuple : kitB "tuple" "tuple" = some true := by decide +kernel
theorem kit_tuple_dict : kitB "tuple" "dict" = some false := by decide +kernel
theorem kit_dict_int : kitB "dict" "int" = some false := by decide +kernel
theorem kit_dict_bool : kitB "dict" "bool" = some false := by decide +kernel
theorem kit_dict_str : kitB "dict" "str" = some false := by decide +kernel
theorem kit_dict_list : kitB "dict" "list" = some false := by decide +kernel
theorem kit_dict_tuple : kitB "dict" "tuple" = some false := by decide +kernel
theorem kit_dict_dict : kitB "dict" "dict" = some true := by decide +kernel

/-! ### text * n -/
def rMulS : R2 := fun x y H Q => ∃ z n, x = .str z ∧ y = .int n ∧ z.length ≤ 1000000 ∧ n ≤ 1000000 ∧ -(2 ^ 63) ≤ n ∧ z.length * n.toNat ≤ sizeLine ∧ Q (.str (Txt.mul z n)) H
theorem opMulS {X : Cx} : OpR X (binaryOp .Mult) rMulS := fun pins s σ H x y u v Q I rx ry h => by
  obtain ⟨z, n, rfl, rfl, hz, hn, hn0, hl, q⟩ := h
  obtain ⟨t, rfl⟩ := rx
  obtain ⟨t', rfl⟩ := ry
  refine SB.mul ⟨?_, fun h1 h2 => ?_, fun h1 h2 => ?_⟩ fun t' k => ⟨.str (Txt.mul z n), H, I.tok k, ⟨_, rfl⟩, q⟩
  · rw [decide_eq_false (by omega), decide_eq_false (by omega)]
    rfl
  · have h3 : (1000000 : Int) ≤ (2 ^ 63 - 1) / n := by
      rw [Int.le_ediv_iff_mul_le (by omega)]
      have : (1000000 : Int) * n ≤ 1000000 * 1000000 := Int.mul_le_mul_of_nonneg_left hn (by decide)
      omega
    omega
  · show decide (z.length * n.toNat > sizeLine) = false
    exact decide_eq_false (by omega)

/-! ### (n, text) < (m, text) -/
def ltIS (a : Int × Str) (b : Int × Str) : Bool := DatumOrd.lt a b
def rLtIS (K : PySem.W.Frag) : R2 := fun x y H Q => ∃ a b n m z1 z2, x = .ref a ∧ y = .ref b ∧ SqT K H a [.int n, .str z1] ∧ SqT K H b [.int m, .str z2] ∧ Q (.bl (ltIS (n, z1) (m, z2))) H
theorem holds_is {h : Heap} {l : Addr} {n : Int} {z : Str} {its : List Value} (p : IsTup h l its.toArray) (r : Vals [.int n, .str z] its) : Holds h (.ref l) (n, z) := by
  obtain ⟨u, v, rfl, r1, r2⟩ := vals2 r
  obtain ⟨t, rfl⟩ := r1
  obtain ⟨t', rfl⟩ := r2
  obtain ⟨o, e1, e2, k, e3⟩ := p
  exact holds_pair ⟨o, e1, e2, k, e3⟩ (holds_int n t) (holds_str z t')
theorem opLtIS {X : Cx} (hu : X.A.units + 64 < cLine) : OpR X (compareOp .Lt) (rLtIS X.K) := fun pins s σ H x y u v Q I rx ry h => by
  obtain ⟨a, b, n, m, z1, z2, rfl, rfl, ha, hb, q⟩ := h
  cases rx
  cases ry
  obtain ⟨its, r1, p1, _⟩ := I.tuple ha
  obtain ⟨its2, r2, p2, _⟩ := I.tuple hb
  exact lt_datum (holds_is p1 r1) (holds_is p2 r2) (by
    have : Datum.depth (Int × Str) ≤ 64 := by decide
    omega) ⟨.bl (ltIS (n, z1) (m, z2)), H, I, rfl, q⟩
theorem x_ltIS {K : PySem.W.Frag} {H : Hp} {Q : VK} {a b : Addr} {n m : Int} {z1 z2 : Str} (ha : H a = some (.tup [.int n, .str z1])) (hb : H b = some (.tup [.int m, .str z2])) (q : Q (.bl (ltIS (n, z1) (m, z2))) H) : rLtIS K (.ref a) (.ref b) H Q :=
  ⟨a, b, n, m, z1, z2, rfl, rfl, SqT.of ha, SqT.of hb, q⟩

/-! ### enumerate(text) -/
def Ites (x : Str) : It :=
  ⟨fun i _ => i < x.cps.size, fun i H v H' => ∃ T c, v = .ref T ∧ H T = none ∧ H' = upd H T (.tup [.int (i : Nat), .str ⟨#[c]⟩]) ∧ x.cps[i]? = some c, fun i _ => i = x.cps.size⟩
theorem turn_enumS {P : Program} {w : World} {K : PySem.W.Frag} {elts : List Expr} {kk : Nat} {tpos : Pos} (x : Str) (t : Tok) (e it : Addr) :
    Turn P w K (.Tuple elts kk tpos) (Ites x) [e, it] e (fun i h => (∃ old, IsEnum h e it ((i : Nat) : Int) old) ∧ h.IsStrIter it (strIterType x) x t i ∧ e ≠ it) where
  mem := by simp
  obj := fun i h st b hb => by
    obtain ⟨⟨old, he⟩, ⟨o, ho, hc, hd⟩, _⟩ := st
    have e' : b = e ∨ b = it := by simpa using hb
    rcases e' with z | z
    · rw [z]; exact ⟨_, he, fun v q => nomatch q⟩
    · rw [z]; exact ⟨o, ho, fun v q => by rw [hd] at q; cases q⟩
  keep := fun i h h' st k => by
    obtain ⟨⟨old, he⟩, ⟨o, ho, r⟩, hne⟩ := st
    exact ⟨⟨old, k e (by simp) _ he⟩, ⟨o, k it (by simp) o ho, r⟩, hne⟩
  item := by
    intro X hP hw hK hc i pins s σ H E I hf st hg
    subst hP hw hK
    obtain ⟨⟨old, he⟩, hit, hne⟩ := st
    have hel : e < s.heap.objs.size := Heap.lt_size he
    have hil : it < s.heap.objs.size := by obtain ⟨_, q, _⟩ := hit; exact Heap.lt_size q
    refine wpAny_pyNext_enum_itemD (Draws.text (A := X.A.in1) (I.ok.hd hc) it x t) he hit hg hne (by simpa using hne) fun u h' tk hP ho hit' hT hsz hk => ?_
    obtain ⟨c, tu, hx, rfl⟩ := hP
    refine ⟨_, rfl, wpAny_letOwnedTupleGo_enum (s := { s with heap := h', toks := tk + 1 }) ho fun h'' he' sb => ?_⟩
    have hT2 : h''.get? s.heap.objs.size = some { cls := .type "tuple", data := .seq #[.int i tk, .str ⟨#[c]⟩ tu] } := (sb.2 _ (Nat.ne_of_gt hel)).trans hT
    have new : ObjOk X.prog X.w (upd H s.heap.objs.size (.tup [.int (i : Nat), .str ⟨#[c]⟩])) h'' s.heap.objs.size (.tup [.int (i : Nat), .str ⟨#[c]⟩]) :=
      ⟨by show 2 ≤ sizeLine; decide, [.int i tk, .str ⟨#[c]⟩ tu], .cons ⟨_, rfl⟩ (.cons ⟨_, rfl⟩ .nil), ⟨_, hT2, rfl, _, rfl⟩⟩
    have I1 : Inv X pins σ (upd H s.heap.objs.size (.tup [.int (i : Nat), .str ⟨#[c]⟩])) { s with heap := h'', toks := tk + 1 } :=
      I.turnedNew (ch := [e, it]) (fun b ob hb q => (sb.2 b (fun z => hb (by simp [z]))).trans (hk b ob (fun z => hb (by simp [z])) (fun z => hb (by simp [z])) q)) hf (Nat.le_refl _) new
    refine ⟨.ref s.heap.objs.size, _, I1, rfl, ⟨_, c, rfl, I.hok.fresh (Nat.le_refl _), rfl, hx⟩, ⟨⟨.str ⟨#[c]⟩ tu, ?_⟩, ?_, hne⟩, fun b hb => ?_⟩
    · have e1 : ((i + 1 : Nat) : Int) = (i : Int) + 1 := by omega
      rw [e1]; exact he'
    · obtain ⟨o, ho2, r⟩ := hit'
      exact ⟨o, (sb.2 it (Ne.symm hne)).trans ho2, r⟩
    · have hb' : b < s.heap.objs.size := by
        have e' : b = e ∨ b = it := by simpa using hb
        rcases e' with z | z
        · rw [z]; exact hel
        · rw [z]; exact hil
      rw [upd_ne (Nat.ne_of_lt hb')]
      exact (hf b hb).1
  done := by
    intro X hP hw hK hc i pins s σ H E I hf st hg
    subst hP hw hK
    obtain ⟨⟨old, he⟩, hit, hne⟩ := st
    obtain ⟨f0, f1, f2, f3, f4, f5⟩ := hf it (by simp)
    have hg' : i = x.cps.size := hg
    subst hg'
    exact wpAny_pyNext_enum_endD (Draws.text (A := X.A.in1) (I.ok.hd hc) it x t) he hit fun h' eb => ⟨rfl, I.turned (t' := s.toks) (fun b o hb q => eb b o hb q) f0 f1 f3 f4 f5⟩
  self := fun A i s Q E st h => let ⟨⟨_, he⟩, _⟩ := st; wpAny_pyIter_enum he h
def iEnumS (ta : TA) : TI := fun σ H R => ta σ H fun vs H1 => ∃ x, vs = [.str x] ∧ R (Ites x) H1
theorem pi_enumS {X : Cx} {e : Expr} {ta : TA} {p pos tpos : Pos} {elts : List Expr} {kk : Nat} (hg : Gl X "enumerate") (hm : X.mg "enumerate" = none) (ha : PA X [e] ta) (hs : starEach [e] X.env = [(false, eval e X.env)] := by rfl) :
    PI X (.Tuple elts kk tpos) (.Call (.Name "enumerate" p) [e] [] pos) (iEnumS ta) := by
  refine ⟨fun pins s σ H R I h => ?_⟩
  refine Call_ (ld_blt I hg hm boot_enumerate (PyProof.Rows.callWith_type1 (thn (ha.run pos pins s σ H _ I h) fun us s1 ⟨vs, H1, I1, r1, q1⟩ => ?_) hs rfl))
  obtain ⟨x, ex, q⟩ := q1
  subst ex
  cases r1 with
  | cons r rr =>
    cases rr
    obtain ⟨t, rfl⟩ := r
    refine call_enumerate_str fun h' he hit hsz hk => wpAny_pyIter_enum he ?_
    have I2 : Inv X pins σ H1 { s1 with heap := h' } := I1.kept (t' := s1.toks) hk
    refine ⟨s1.heap.objs.size + 1, [s1.heap.objs.size + 1, s1.heap.objs.size], _, _, H1, rfl, I2, turn_enumS x t (s1.heap.objs.size + 1) s1.heap.objs.size, ⟨⟨.none, he⟩, hit, Nat.succ_ne_self _⟩, fun b hb => ?_, q⟩
    have e' : b = s1.heap.objs.size + 1 ∨ b = s1.heap.objs.size := by simpa using hb
    have hle : s1.heap.objs.size ≤ b := by
      rcases e' with z | z
      · rw [z]; exact Nat.le_add_right _ _
      · rw [z]; exact Nat.le_refl _
    exact I1.fpOk hle (I1.hok.fresh hle)
end NF

/-! Own toolkit: loops and comprehensions. -/
namespace NF
open PySem L2

theorem Own.ignore {B H : Hp} {M R : List (Addr × HO)} {T : Addr} {o : HO} (O : Own B H M R) (h : H T = none) : Own B (upd H T o) M R :=
  ⟨O.nd, fun x hx => by
    have q := O.at_ x hx
    have n : x.1 ≠ T := fun e => by rw [e, h] at q; cases q
    rw [upd_ne n]
    exact q, fun b hb v e => by
    have q := O.out b hb v e
    have n : b ≠ T := fun e => by rw [e, h] at q; cases q
    rw [upd_ne n]
    exact q⟩
theorem Own.last {B H : Hp} {M R : List (Addr × HO)} {p : Addr} {o : HO} (O : Own B H M (R ++ [(p, o)])) : H p = some o :=
  O.at_ (p, o) (List.mem_append_right _ (List.mem_append_right _ (List.mem_singleton.mpr rfl)))
theorem Own.putLast {B H : Hp} {M R : List (Addr × HO)} {p : Addr} {o u : HO} (O : Own B H M (R ++ [(p, o)])) : Own B (upd H p u) M (R ++ [(p, u)]) := by
  have e : (R ++ [(p, o)])[R.length]? = some (p, o) := by rw [List.getElem?_append_right (Nat.le_refl _), Nat.sub_self]; rfl
  have h := O.put R.length e u
  rw [List.set_append_right _ _ (Nat.le_refl _), Nat.sub_self] at h
  exact h

/-- what a for asks of its iterator -/
def forR (g : TG) (tb : TS) (D : Ends) (σ : St) : It → Hp → Prop := fun J H1 => ∃ W : Nat → Nat → St → Hp → Prop, (∃ m, W 0 m σ H1) ∧ ∀ i m σ H, W i m σ H →
  (J.stop i H ∧ D.nx σ H) ∨ (J.go i H ∧ ∃ N : St → Hp → Prop, (∀ σ' H', N σ' H' → ∃ m', m' < m ∧ W (i + 1) m' σ' H') ∧ ∀ x H', J.yld i H x H' → g x σ H' fun σ2 H2 => tb { D with nx := N, ct := N, bk := D.nx } σ2 H2)
/-- what a comprehension asks of its iterator -/
def lcR (g : TG) (tt : TT) (te : TE) (vs : List Nat) (σ : St) (Q : VK) : It → Hp → Prop := fun J H1 => ∀ D, H1 D = none → ∃ W : Nat → Nat → Hp → Prop, (∃ m, W 0 m (upd H1 D (.lst []))) ∧ ∀ i m H, W i m H →
  (J.stop i H ∧ Q (.ref D) H) ∨ (J.go i H ∧ ∃ Nx : Hp → Prop, (∀ H', Nx H' → ∃ m', m' < m ∧ W (i + 1) m' H') ∧ ∀ x H', J.yld i H x H' → g x (wipe σ vs) H' fun σ2 H2 => wipe σ2 vs = wipe σ vs ∧ tt σ2 H2 fun b H3 =>
    if b = true then te σ2 H3 fun y H4 => ∃ acc, H4 D = some (.lst acc) ∧ acc.length < sizeLine ∧ Nx (upd H4 D (.lst (acc ++ [y]))) else Nx H3)
/-! what is walked, by its values -/
def jRng1 : List V → Hp → (It → Hp → Prop) → Prop := fun vs H1 R => ∃ j : Int, vs = [.int j] ∧ -(2 ^ 62) ≤ j ∧ j < 2 ^ 62 ∧ R (Itr 0 j.toNat) H1
def jRng2 : List V → Hp → (It → Hp → Prop) → Prop := fun vs H1 R => ∃ i j : Int, vs = [.int i, .int j] ∧ (-(2 ^ 62) ≤ i ∧ i < 2 ^ 62 ∧ -(2 ^ 62) ≤ j ∧ j < 2 ^ 62) ∧ R (Itr i (j - i).toNat) H1
def jList (K : PySem.W.Frag) : V → Hp → (It → Hp → Prop) → Prop := fun x H1 R => ∃ a, x = .ref a ∧ (∃ xs, SqL K H1 a xs) ∧ R (Itl K a) H1
def jTup (K : PySem.W.Frag) : V → Hp → (It → Hp → Prop) → Prop := fun x H1 R => ∃ a, x = .ref a ∧ (∃ xs, SqT K H1 a xs) ∧ R (Itt K a) H1
def jStr : V → Hp → (It → Hp → Prop) → Prop := fun v H1 R => ∃ x, v = .str x ∧ R (Its x) H1
def jEnumS : List V → Hp → (It → Hp → Prop) → Prop := fun vs H1 R => ∃ x, vs = [.str x] ∧ R (Ites x) H1
def jEnum (K : PySem.W.Frag) : List V → Hp → (It → Hp → Prop) → Prop := fun vs H1 R => ∃ a xs, vs = [.ref a] ∧ SqL K H1 a xs ∧ R (Ite K a) H1
section
variable {K : PySem.W.Frag} {σ : St} {B H : Hp} {M R : List (Addr × HO)} {a : Addr} {g : TG} {tb : TS} {D : Ends} {wi : TI} {tar : TA} {te tl : TE} {tt : TT} {vs : List Nat} {Q : VK} {RI : It → Hp → Prop}
theorem x_for (q : wi σ H (forR g tb D σ)) : tFor wi g tb D σ H := q
theorem x_lc (q : wi σ H (lcR g tt te vs σ Q)) : tLc wi g tt te vs σ H Q := q
theorem x_yes {QT : Bool → Hp → Prop} (q : QT true H) : tYes σ H QT := q
theorem x_jR1 (q : tar σ H fun vs H1 => jRng1 vs H1 RI) : iRng1 tar σ H RI := q
theorem x_jR2 (q : tar σ H fun vs H1 => jRng2 vs H1 RI) : iRng2 tar σ H RI := q
theorem x_jL (q : tl σ H fun v H1 => jList K v H1 RI) : iList K tl σ H RI := q
theorem x_jT (q : tl σ H fun v H1 => jTup K v H1 RI) : iTup K tl σ H RI := q
theorem x_jS (q : tl σ H fun v H1 => jStr v H1 RI) : iStr tl σ H RI := q
theorem x_jE (q : tar σ H fun vs H1 => jEnumS vs H1 RI) : iEnumS tar σ H RI := q
theorem x_jEL (q : tar σ H fun vs H1 => jEnum K vs H1 RI) : iEnum K tar σ H RI := q
section
variable {nx bk ct : St → Hp → Prop} {rt : VK}
/-! #### for: an invariant by the turn -/
theorem f_rng1 {n : Int} {j : Nat} (hn : -(2 ^ 62) ≤ n ∧ n < 2 ^ 62) (Pv : Nat → St → Hp → Prop) (h0 : Pv 0 σ H)
    (hs : ∀ (i : Nat) σ H, (i : Int) < n → Pv i σ H → tb ⟨Pv (i + 1), rt, nx, Pv (i + 1)⟩ (σ.set j (some (.int (i : Int)))) H) (hd : ∀ σ H, Pv n.toNat σ H → nx σ H) : jRng1 [.int n] H (forR (gName j) tb ⟨nx, rt, bk, ct⟩ σ) :=
  ⟨n, rfl, hn.1, hn.2, for_range (lo := 0) Pv h0 (fun i σ H hi p => by
    show tb _ (σ.set j (some (.int ((0 : Int) + (i : Int))))) H
    rw [Int.zero_add]
    exact hs i σ H (by omega) p) hd⟩
theorem f_rng2 {lo n : Int} {j : Nat} (hn : (-(2 ^ 62) ≤ lo ∧ lo < 2 ^ 62) ∧ -(2 ^ 62) ≤ n ∧ n < 2 ^ 62) (Pv : Nat → St → Hp → Prop) (h0 : Pv 0 σ H)
    (hs : ∀ (i : Nat) σ H, lo + (i : Int) < n → Pv i σ H → tb ⟨Pv (i + 1), rt, nx, Pv (i + 1)⟩ (σ.set j (some (.int (lo + (i : Int))))) H) (hd : ∀ σ H, Pv (n - lo).toNat σ H → nx σ H) : jRng2 [.int lo, .int n] H (forR (gName j) tb ⟨nx, rt, bk, ct⟩ σ) :=
  ⟨lo, n, rfl, ⟨hn.1.1, hn.1.2, hn.2.1, hn.2.2⟩, for_range (lo := lo) Pv h0 (fun i σ H hi p => hs i σ H (by omega) p) hd⟩
theorem f_list {xs : List V} {j : Nat} (hx : SqL K H a xs) (Pv : Nat → St → Hp → Prop) (h0 : Pv 0 σ H) (hl : ∀ i σ H, Pv i σ H → SqL K H a xs)
    (hs : ∀ (i : Nat) x σ H, xs[i]? = some x → Pv i σ H → tb ⟨Pv (i + 1), rt, nx, Pv (i + 1)⟩ (σ.set j (some x)) H) (hd : ∀ σ H, Pv xs.length σ H → nx σ H) : jList K (.ref a) H (forR (gName j) tb ⟨nx, rt, bk, ct⟩ σ) :=
  ⟨a, rfl, ⟨xs, hx⟩, for_list Pv h0 (fun i σ H _ p => hl i σ H p) (fun i x σ H hx p => hs i x σ H hx p) hd⟩
theorem f_listG {xs : List V} (hx : SqL K H a xs) (Pv : Nat → St → Hp → Prop) (h0 : Pv 0 σ H) (hl : ∀ i σ H, Pv i σ H → SqL K H a xs)
    (hs : ∀ (i : Nat) x σ H, xs[i]? = some x → Pv i σ H → g x σ H fun σ2 H2 => tb ⟨Pv (i + 1), rt, nx, Pv (i + 1)⟩ σ2 H2) (hd : ∀ σ H, Pv xs.length σ H → nx σ H) : jList K (.ref a) H (forR g tb ⟨nx, rt, bk, ct⟩ σ) :=
  ⟨a, rfl, ⟨xs, hx⟩, for_list Pv h0 (fun i σ H _ p => hl i σ H p) (fun i x σ H hx p => hs i x σ H hx p) hd⟩
theorem f_tup {xs : List V} {j : Nat} (hx : SqT K H a xs) (Pv : Nat → St → Hp → Prop) (h0 : Pv 0 σ H) (hl : ∀ i σ H, Pv i σ H → SqT K H a xs)
    (hs : ∀ (i : Nat) x σ H, xs[i]? = some x → Pv i σ H → tb ⟨Pv (i + 1), rt, nx, Pv (i + 1)⟩ (σ.set j (some x)) H) (hd : ∀ σ H, Pv xs.length σ H → nx σ H) : jTup K (.ref a) H (forR (gName j) tb ⟨nx, rt, bk, ct⟩ σ) :=
  ⟨a, rfl, ⟨xs, hx⟩, for_tup Pv h0 (fun i σ H _ p => hl i σ H p) (fun i x σ H hx p => hs i x σ H hx p) hd⟩
theorem f_str {z : Str} {j : Nat} (Pv : Nat → St → Hp → Prop) (h0 : Pv 0 σ H)
    (hs : ∀ (i : Nat) c σ H, z.cps[i]? = some c → Pv i σ H → tb ⟨Pv (i + 1), rt, nx, Pv (i + 1)⟩ (σ.set j (some (.str ⟨#[c]⟩))) H) (hd : ∀ σ H, Pv z.cps.size σ H → nx σ H) : jStr (.str z) H (forR (gName j) tb ⟨nx, rt, bk, ct⟩ σ) :=
  ⟨z, rfl, for_it walk_str Pv h0 (fun _ _ _ _ _ => trivial) (fun i x σ H H' hi p y => by
    obtain ⟨rfl, c, hc, rfl⟩ := y
    exact hs i c σ _ hc p) hd⟩
theorem f_enumS {z : Str} {j1 j2 : Nat} (Pv : Nat → St → Hp → Prop) (h0 : Pv 0 σ H)
    (hs : ∀ (i : Nat) c σ H H', z.cps[i]? = some c → Pv i σ H → (∀ B M R, Own B H M R → Own B H' M R) → tb ⟨Pv (i + 1), rt, nx, Pv (i + 1)⟩ ((σ.set j1 (some (.int (i : Int)))).set j2 (some (.str ⟨#[c]⟩))) H') (hd : ∀ σ H, Pv z.cps.size σ H → nx σ H) :
    jEnumS [.str z] H (forR (gTup K 2 (gCons (gName j1) (gCons (gName j2) gNil))) tb ⟨nx, rt, bk, ct⟩ σ) := by
  refine ⟨z, rfl, fun i m σ H => m = z.cps.size - i ∧ i ≤ z.cps.size ∧ Pv i σ H, ⟨_, by simp; rfl, Nat.zero_le _, h0⟩, ?_⟩
  rintro i m σ H ⟨rfl, hi, p⟩
  by_cases hlt : i < z.cps.size
  · refine .inr ⟨hlt, Pv (i + 1), fun σ' H' p' => ⟨z.cps.size - (i + 1), by omega, rfl, hlt, p'⟩, ?_⟩
    rintro x H' ⟨T, c, rfl, hT, rfl, hc⟩
    exact ⟨T, [.int (i : Nat), .str ⟨#[c]⟩], rfl, SqT.of upd_same, rfl, _, _, rfl, _, _, rfl, rfl, hs i c σ H _ hc p fun B M R O => O.ignore hT⟩
  · have e : i = z.cps.size := by omega
    subst e
    exact .inl ⟨rfl, hd σ H p⟩
/-- enumerate(list) -/
theorem f_enum {xs : List V} {j1 j2 : Nat} (hx : SqL K H a xs) (Pv : Nat → St → Hp → Prop) (h0 : Pv 0 σ H) (hl : ∀ i σ H, Pv i σ H → SqL K H a xs)
    (hs : ∀ (i : Nat) c σ H H', xs[i]? = some c → Pv i σ H → (∀ B M R, Own B H M R → Own B H' M R) → tb ⟨Pv (i + 1), rt, nx, Pv (i + 1)⟩ ((σ.set j1 (some (.int (i : Int)))).set j2 (some c)) H') (hd : ∀ σ H, Pv xs.length σ H → nx σ H) :
    jEnum K [.ref a] H (forR (gTup K 2 (gCons (gName j1) (gCons (gName j2) gNil))) tb ⟨nx, rt, bk, ct⟩ σ) := by
  refine ⟨a, xs, rfl, hx, fun i m σ H => m = xs.length - i ∧ i ≤ xs.length ∧ Pv i σ H, ⟨_, by simp; rfl, Nat.zero_le _, h0⟩, ?_⟩
  rintro i m σ H ⟨rfl, hi, p⟩
  have q := hl i σ H p
  by_cases hlt : i < xs.length
  · refine .inr ⟨⟨xs, xs[i], q, by simp [hlt]⟩, Pv (i + 1), fun σ' H' p' => ⟨xs.length - (i + 1), by omega, rfl, hlt, p'⟩, ?_⟩
    rintro x H' ⟨T, c, rfl, hT, rfl, hc⟩
    exact ⟨T, [.int (i : Nat), c], rfl, SqT.of upd_same, rfl, _, _, rfl, _, _, rfl, rfl, hs i c σ H _ (hc xs q) p fun B M R O => O.ignore hT⟩
  · have e : i = xs.length := by omega
    subst e
    exact .inl ⟨⟨xs, q, Nat.le_refl _⟩, hd σ H p⟩
end
/-! #### while: an invariant with a measure -/
theorem x_while {nx bk ct : St → Hp → Prop} {rt : VK} (I : Nat → St → Hp → Prop) (m : Nat) (h0 : I m σ H)
    (hs : ∀ m σ H, I m σ H → tt σ H fun b H1 => if b = true then (∃ N : St → Hp → Prop, (∀ σ' H', N σ' H' → ∃ m', m' < m ∧ I m' σ' H') ∧ tb ⟨N, rt, nx, N⟩ σ H1) else nx σ H1) : tWhile tt tb ⟨nx, rt, bk, ct⟩ σ H := ⟨I, ⟨m, h0⟩, hs⟩
theorem x_turn {nx : St → Hp → Prop} {rt : VK} {I : Nat → St → Hp → Prop} {m : Nat} (q : tb ⟨fun σ' H' => ∃ m', m' < m ∧ I m' σ' H', rt, nx, fun σ' H' => ∃ m', m' < m ∧ I m' σ' H'⟩ σ H) :
    ∃ N : St → Hp → Prop, (∀ σ' H', N σ' H' → ∃ m', m' < m ∧ I m' σ' H') ∧ tb ⟨N, rt, nx, N⟩ σ H := ⟨_, fun _ _ h => h, q⟩
/-! #### comprehensions: the new list stands behind what is owned -/
theorem set_wipe (σ : St) (j : Nat) (x : Option V) : wipe ((wipe σ [j]).set j x) [j] = wipe σ [j] := by
  show (((σ.set j none).set j x).set j none) = σ.set j none
  rw [List.set_set, List.set_set]
/-- a turn's end: the list so far is acc, y comes behind it -/
def lcEnd (B : Hp) (R : List (Addr × HO)) (p : Addr) (i : Nat) (N : List V → List (Addr × HO) → Prop) (y : V) (H4 : Hp) : Prop :=
  ∃ acc, H4 p = some (.lst acc) ∧ acc.length < sizeLine ∧ ∃ M' a2, a2.length ≤ i + 1 ∧ N a2 M' ∧ Own B (upd H4 p (.lst (acc ++ [y]))) M' (R ++ [(p, .lst a2)])
def lcSkip (B : Hp) (R : List (Addr × HO)) (p : Addr) (i : Nat) (N : List V → List (Addr × HO) → Prop) (H4 : Hp) : Prop :=
  ∃ M' a2, a2.length ≤ i + 1 ∧ N a2 M' ∧ Own B H4 M' (R ++ [(p, .lst a2)])
theorem lc_done {p : Addr} {i : Nat} {N : List V → List (Addr × HO) → Prop} {y : V} {acc : List V} (O : Own B H M (R ++ [(p, .lst acc)])) (hl : acc.length ≤ i) (hz : i < sizeLine) (pv : N (acc ++ [y]) M) : lcEnd B R p i N y H :=
  ⟨acc, O.last, Nat.lt_of_le_of_lt hl hz, M, acc ++ [y], by simp; omega, pv, O.putLast⟩
theorem lc_skip {p : Addr} {i : Nat} {N : List V → List (Addr × HO) → Prop} {acc : List V} (O : Own B H M (R ++ [(p, .lst acc)])) (hl : acc.length ≤ i) (pv : N acc M) : lcSkip B R p i N H := ⟨M, acc, by omega, pv, O⟩
section
variable {n : Nat} {J : It} {G : Hp → Prop} {Y : Nat → Hp → V → Hp → Prop} {j : Nat}
/-- over anything -/
theorem lc_any (W : L2.Walk J n G Y) (O : Own B H M R) (Pv : Nat → List V → List (Addr × HO) → Prop) (hG : ∀ H' M' p acc, Own B H' M' (R ++ [(p, .lst acc)]) → G H') (h0 : Pv 0 [] M)
    (hs : ∀ (i : Nat) x H' H'' M' p acc, i < n → acc.length ≤ i → Pv i acc M' → Own B H' M' (R ++ [(p, .lst acc)]) → Y i H' x H'' →
      tt ((wipe σ [j]).set j (some x)) H'' fun b H3 => if b = true then te ((wipe σ [j]).set j (some x)) H3 (lcEnd B R p i (Pv (i + 1))) else lcSkip B R p i (Pv (i + 1)) H3)
    (hd : ∀ p H' M' acc, B p = none → acc.length ≤ n → Pv n acc M' → Own B H' M' (R ++ [(p, .lst acc)]) → Q (.ref p) H') : lcR (gName j) tt te [j] σ Q J H := by
  intro p hp
  refine lc_it W (fun i H' => ∃ M' acc, acc.length ≤ i ∧ Pv i acc M' ∧ Own B H' M' (R ++ [(p, .lst acc)])) ⟨M, [], Nat.le_refl _, h0, O.new hp⟩ (fun i H' _ ⟨M', acc, _, _, O'⟩ => hG H' M' p acc O') ?_ (fun H' ⟨M', acc, l, pv, O'⟩ => hd p H' M' acc (O.base_free hp) l pv O')
  rintro i x H' H'' hi ⟨M', acc, hl, pv, O'⟩ y
  exact ⟨set_wipe σ j _, hs i x H' H'' M' p acc hi hl pv O' y⟩
theorem lc_rng1 {n : Int} (hn : -(2 ^ 62) ≤ n ∧ n < 2 ^ 62) (O : Own B H M R) (Pv : Nat → List V → List (Addr × HO) → Prop) (h0 : Pv 0 [] M)
    (hs : ∀ (i : Nat) H' M' p acc, (i : Int) < n → acc.length ≤ i → Pv i acc M' → Own B H' M' (R ++ [(p, .lst acc)]) →
      tt ((wipe σ [j]).set j (some (.int (i : Int)))) H' fun b H3 => if b = true then te ((wipe σ [j]).set j (some (.int (i : Int)))) H3 (lcEnd B R p i (Pv (i + 1))) else lcSkip B R p i (Pv (i + 1)) H3)
    (hd : ∀ p H' M' acc, B p = none → acc.length ≤ n.toNat → Pv n.toNat acc M' → Own B H' M' (R ++ [(p, .lst acc)]) → Q (.ref p) H') : jRng1 [.int n] H (lcR (gName j) tt te [j] σ Q) :=
  ⟨n, rfl, hn.1, hn.2, lc_any (walk_range (lo := 0)) O Pv (fun _ _ _ _ _ => trivial) h0 (fun i x H' H'' M' p acc hi hl pv O' y => by
    obtain ⟨rfl, e⟩ := y
    have e2 : x = .int (i : Int) := e.trans (congrArg V.int (Int.zero_add _))
    subst e2
    exact hs i _ M' p acc (by omega) hl pv O') hd⟩
theorem lc_lst {xs : List V} (hx : SqL K H a xs) (O : Own B H M R) (Pv : Nat → List V → List (Addr × HO) → Prop) (hG : ∀ H' M' p acc, Own B H' M' (R ++ [(p, .lst acc)]) → SqL K H' a xs) (h0 : Pv 0 [] M)
    (hs : ∀ (i : Nat) x H' M' p acc, xs[i]? = some x → acc.length ≤ i → Pv i acc M' → Own B H' M' (R ++ [(p, .lst acc)]) →
      tt ((wipe σ [j]).set j (some x)) H' fun b H3 => if b = true then te ((wipe σ [j]).set j (some x)) H3 (lcEnd B R p i (Pv (i + 1))) else lcSkip B R p i (Pv (i + 1)) H3)
    (hd : ∀ p H' M' acc, B p = none → acc.length ≤ xs.length → Pv xs.length acc M' → Own B H' M' (R ++ [(p, .lst acc)]) → Q (.ref p) H') : jList K (.ref a) H (lcR (gName j) tt te [j] σ Q) :=
  ⟨a, rfl, ⟨xs, hx⟩, lc_any walk_list O Pv hG h0 (fun i x H' H'' M' p acc hi hl pv O' y => by
    obtain ⟨rfl, hx⟩ := y
    exact hs i x _ M' p acc hx hl pv O') hd⟩
theorem lc_tupl {xs : List V} (hx : SqT K H a xs) (O : Own B H M R) (Pv : Nat → List V → List (Addr × HO) → Prop) (hG : ∀ H' M' p acc, Own B H' M' (R ++ [(p, .lst acc)]) → SqT K H' a xs) (h0 : Pv 0 [] M)
    (hs : ∀ (i : Nat) x H' M' p acc, xs[i]? = some x → acc.length ≤ i → Pv i acc M' → Own B H' M' (R ++ [(p, .lst acc)]) →
      tt ((wipe σ [j]).set j (some x)) H' fun b H3 => if b = true then te ((wipe σ [j]).set j (some x)) H3 (lcEnd B R p i (Pv (i + 1))) else lcSkip B R p i (Pv (i + 1)) H3)
    (hd : ∀ p H' M' acc, B p = none → acc.length ≤ xs.length → Pv xs.length acc M' → Own B H' M' (R ++ [(p, .lst acc)]) → Q (.ref p) H') : jTup K (.ref a) H (lcR (gName j) tt te [j] σ Q) :=
  ⟨a, rfl, ⟨xs, hx⟩, lc_any walk_tup O Pv hG h0 (fun i x H' H'' M' p acc hi hl pv O' y => by
    obtain ⟨rfl, hx⟩ := y
    exact hs i x _ M' p acc hx hl pv O') hd⟩
theorem lc_strs {z : Str} (O : Own B H M R) (Pv : Nat → List V → List (Addr × HO) → Prop) (h0 : Pv 0 [] M)
    (hs : ∀ (i : Nat) c H' M' p acc, z.cps[i]? = some c → acc.length ≤ i → Pv i acc M' → Own B H' M' (R ++ [(p, .lst acc)]) →
      tt ((wipe σ [j]).set j (some (.str ⟨#[c]⟩))) H' fun b H3 => if b = true then te ((wipe σ [j]).set j (some (.str ⟨#[c]⟩))) H3 (lcEnd B R p i (Pv (i + 1))) else lcSkip B R p i (Pv (i + 1)) H3)
    (hd : ∀ p H' M' acc, B p = none → acc.length ≤ z.cps.size → Pv z.cps.size acc M' → Own B H' M' (R ++ [(p, .lst acc)]) → Q (.ref p) H') : jStr (.str z) H (lcR (gName j) tt te [j] σ Q) :=
  ⟨z, rfl, lc_any walk_str O Pv (fun _ _ _ _ _ => trivial) h0 (fun i x H' H'' M' p acc hi hl pv O' y => by
    obtain ⟨rfl, c, hx, rfl⟩ := y
    exact hs i c _ M' p acc hx hl pv O') hd⟩
end
end
end NF

/-! Own toolkit: texts. -/
namespace NF
open PySem L2 TL

/-- a text of one sign; signs as a list of texts -/
abbrev ch (c : Nat) : V := .str ⟨#[c]⟩
abbrev mkS (l : List Nat) : Str := ⟨l.toArray⟩
theorem len_mk (l : List Nat) : (mkS l).length = l.length := by rw [len_tl]
theorem len_app (x y : Str) : (x ++ y).length = x.length + y.length := by rw [len_tl, tl_append, List.length_append, ← len_tl, ← len_tl]
theorem len_cut (z : Str) (lo hi : Option Int) : (cutS z lo hi).length ≤ z.length := cutS_length z lo hi
theorem len_ch (c : Nat) : (⟨#[c]⟩ : Str).length = 1 := rfl
theorem lit {s : String} {l : List Nat} (h : s.toList.map Char.toNat = l := by decide +kernel) : Str.ofString s = mkS l := ext_tl (by rw [tl_ofString, h])
theorem tl_cut (z : Str) (lo hi : Option Int) : tl (cutS z lo hi) = ((tl z).drop (HT.sIx z.length 0 lo)).take (HT.sIx z.length z.length hi - HT.sIx z.length 0 lo) := rfl
theorem join_ch (l : List Nat) : Txt.join Str.empty (l.map fun c => (⟨#[c]⟩ : Str)) = mkS l := by
  refine ext_tl ?_
  rw [join_eq, tl_join]
  show joinL [] _ = l
  have e : ∀ l : List Nat, joinL [] ((l.map fun c => (⟨#[c]⟩ : Str)).map tl) = l := by
    intro l
    induction l with
    | nil => rfl
    | cons a l ih =>
      cases l with
      | nil => rfl
      | cons b l =>
        show tl ⟨#[a]⟩ ++ ([] ++ joinL [] (((b :: l).map fun c => (⟨#[c]⟩ : Str)).map tl)) = a :: b :: l
        rw [ih]
        rfl
  exact e l
theorem sum_ch (l : List Nat) : ((l.map fun c => (⟨#[c]⟩ : Str)).map (·.length)).sum = l.length := by
  rw [List.map_map]
  induction l with
  | nil => rfl
  | cons a l ih => rw [List.map_cons, List.sum_cons, ih, List.length_cons]; show 1 + _ = _; omega
theorem map_ch (l : List Nat) : (l.map fun c => (⟨#[c]⟩ : Str)).map V.str = l.map ch := by rw [List.map_map]; rfl
theorem len_mul (x : Str) (n : Int) : (Txt.mul x n).length ≤ x.length * n.toNat := by
  unfold Txt.mul
  by_cases h : n < 1
  · rw [if_pos h]; exact Nat.zero_le _
  · rw [if_neg h]
    by_cases h2 : (n == 1 || x.length == 0) = true
    · rw [if_pos h2]
      simp only [Bool.or_eq_true, beq_iff_eq] at h2
      rcases h2 with h2 | h2
      · rw [h2]; simp
      · rw [h2]; simp
    · rw [if_neg h2]
      refine Nat.le_of_eq ?_
      have e : ∀ (k : Nat) (a : Array Nat), ((List.replicate k x.cps).foldl (· ++ ·) a).size = a.size + k * x.cps.size := by
        intro k
        induction k with
        | zero => intro a; simp
        | succ k ih => intro a; rw [List.replicate_succ, List.foldl_cons, ih, Array.size_append, Nat.succ_mul]; omega
      show ((List.replicate n.toNat x.cps).foldl (· ++ ·) #[]).size = x.cps.size * n.toNat
      rw [e, Nat.mul_comm]
      simp
/-! letters -/
def isLo (c : Nat) : Bool := decide (97 ≤ c ∧ c ≤ 104)
def isUp (c : Nat) : Bool := decide (65 ≤ c ∧ c ≤ 72)
theorem lo_cases {c : Nat} (h : 97 ≤ c ∧ c ≤ 104) : c = 97 ∨ c = 98 ∨ c = 99 ∨ c = 100 ∨ c = 101 ∨ c = 102 ∨ c = 103 ∨ c = 104 := by omega
theorem up_cases {c : Nat} (h : 65 ≤ c ∧ c ≤ 72) : c = 65 ∨ c = 66 ∨ c = 67 ∨ c = 68 ∨ c = 69 ∨ c = 70 ∨ c = 71 ∨ c = 72 := by omega
theorem upper_lo {c : Nat} (h : 97 ≤ c ∧ c ≤ 104) : Txt.upper ⟨#[c]⟩ = ⟨#[c - 32]⟩ := by
  rcases lo_cases h with rfl | rfl | rfl | rfl | rfl | rfl | rfl | rfl <;> decide +kernel
theorem lower_up {c : Nat} (h : 65 ≤ c ∧ c ≤ 72) : Txt.lower ⟨#[c]⟩ = ⟨#[c + 32]⟩ := by
  rcases up_cases h with rfl | rfl | rfl | rfl | rfl | rfl | rfl | rfl <;> decide +kernel
theorem mem_lo {c : Nat} : c ∈ [97, 98, 99, 100, 101, 102, 103, 104] ↔ 97 ≤ c ∧ c ≤ 104 := by
  simp only [List.mem_cons, List.not_mem_nil, or_false]; omega
theorem mem_up {c : Nat} : c ∈ [65, 66, 67, 68, 69, 70, 71, 72] ↔ 65 ≤ c ∧ c ≤ 72 := by
  simp only [List.mem_cons, List.not_mem_nil, or_false]; omega
theorem at_lt {α : Type} {l : List α} {i : Int} (h0 : 0 ≤ i) (h1 : i < (l.length : Int)) : ∃ c, atI l i = some c ∧ l[i.toNat]? = some c ∧ c ∈ l := by
  have hj : i.toNat < l.length := by omega
  have e : ((i.toNat : Nat) : Int) = i := by omega
  refine ⟨l[i.toNat], ?_, by simp [hj], List.getElem_mem hj⟩
  have := atI_nat (xs := l) (j := i.toNat) (v := l[i.toNat]) (by simp [hj])
  rw [e] at this
  exact this
section
variable {K : PySem.W.Frag} {B H : Hp} {M R : List (Addr × HO)} {a p : Addr} {Q : VK} {z : Str} {i : Int}
/-- an item of a text at an open place within it -/
theorem x_ixSo (h0 : 0 ≤ i) (h1 : i < (z.length : Int)) (hz : z.length ≤ sizeLine) (q : ∀ c, tl z = tl z → (tl z)[i.toNat]? = some c → c ∈ tl z → Q (.str ⟨#[c]⟩) H) : rIxS (.str z) (.int i) H Q := by
  obtain ⟨c, e, e2, m⟩ := at_lt (l := tl z) h0 (by rw [← len_tl]; exact h1)
  exact ⟨z, i, c, rfl, rfl, hz, e, q c rfl e2 m⟩
/-- join of signs -/
theorem x_join (l : List Nat) (h : H p = some (.lst (l.map ch))) (hz : l.length ≤ 16777216) (q : Q (.str (mkS l)) H) : rJoin K (.str Str.empty) [.ref p] H Q :=
  x_joinL (l.map fun c => (⟨#[c]⟩ : Str)) (by rw [map_ch]; exact h) (by
    rw [sum_ch, List.length_map]
    show l.length + l.length * 0 ≤ _
    omega) (by rw [join_ch]; exact q)
theorem x_mulS {n : Int} (hz : z.length ≤ 1000000) (hn : n ≤ 1000000) (hn0 : -1000000 ≤ n) (hl : z.length * n.toNat ≤ sizeLine) (q : Q (.str (Txt.mul z n)) H) : rMulS (.str z) (.int n) H Q := ⟨z, n, rfl, rfl, hz, hn, by omega, hl, q⟩
end
end NF

/-! Own toolkit: nested texts as lists of codes. -/
namespace NF
open PySem L2 TL

theorem tl_names : tl (Str.ofString "abcdefgh") = [97, 98, 99, 100, 101, 102, 103, 104] := by rw [tl_ofString]; decide +kernel
theorem len_names : (Str.ofString "abcdefgh").length = 8 := by rw [len_tl, tl_names]; rfl
/-- reading with a stack (the top first) -/
def run : List Nat → List Nat → Option (List Nat)
  | [], st => some st
  | c :: r, st => if 97 ≤ c ∧ c ≤ 104 then run r (c :: st) else match st with
    | t :: ts => if c + 32 = t then run r ts else none
    | [] => none
/-- the fault: the place of the first wrong sign, or the length -/
def flt : List Nat → Nat → List Nat → Option Nat
  | [], k, st => if st = [] then none else some k
  | c :: r, k, st => if 97 ≤ c ∧ c ≤ 104 then flt r (k + 1) (c :: st) else match st with
    | t :: ts => if c + 32 = t then flt r (k + 1) ts else some k
    | [] => some k
theorem run_cons (c : Nat) (r st : List Nat) : run (c :: r) st = if 97 ≤ c ∧ c ≤ 104 then run r (c :: st) else match st with
    | t :: ts => if c + 32 = t then run r ts else none
    | [] => none := by rw [run.eq_def]
theorem flt_cons (c : Nat) (r : List Nat) (k : Nat) (st : List Nat) : flt (c :: r) k st = if 97 ≤ c ∧ c ≤ 104 then flt r (k + 1) (c :: st) else match st with
    | t :: ts => if c + 32 = t then flt r (k + 1) ts else some k
    | [] => some k := by rw [flt.eq_def]
theorem run_append (l m : List Nat) : ∀ st, run (l ++ m) st = (run l st).bind (run m) := by
  induction l with
  | nil => intro st; rfl
  | cons c l ih =>
    intro st
    rw [List.cons_append, run_cons, run_cons]
    by_cases h : 97 ≤ c ∧ c ≤ 104
    · rw [if_pos h, if_pos h]; exact ih _
    · rw [if_neg h, if_neg h]
      cases st with
      | nil => rfl
      | cons t ts =>
        by_cases h2 : c + 32 = t
        · simp only [if_pos h2]; exact ih _
        · simp only [if_neg h2]; rfl
theorem flt_run {l : List Nat} (m : List Nat) : ∀ {k st st'}, run l st = some st' → flt (l ++ m) k st = flt m (k + l.length) st' := by
  induction l with
  | nil => intro k st st' h; cases h; rfl
  | cons c l ih =>
    intro k st st' h
    rw [List.cons_append, List.length_cons, flt_cons]
    rw [run_cons] at h
    have e : k + (l.length + 1) = (k + 1) + l.length := by omega
    by_cases h1 : 97 ≤ c ∧ c ≤ 104
    · rw [if_pos h1] at h ⊢; rw [e]; exact ih h
    · rw [if_neg h1] at h ⊢
      cases st with
      | nil => cases h
      | cons t ts =>
        by_cases h2 : c + 32 = t
        · simp only [if_pos h2] at h ⊢; rw [e]; exact ih h
        · simp only [if_neg h2] at h; cases h
/-- a beginning's stack is what is left open; else the fault is a place within -/
theorem flt_spec (l : List Nat) : ∀ k st, (∃ st', run l st = some st') ∨ (run l st = none ∧ ∃ j, flt l k st = some j ∧ k ≤ j ∧ j < k + l.length ∧ ∀ m, flt (l ++ m) k st = some j) := by
  induction l with
  | nil => intro k st; exact .inl ⟨st, rfl⟩
  | cons c l ih =>
    intro k st
    rw [run_cons]
    by_cases h1 : 97 ≤ c ∧ c ≤ 104
    · rw [if_pos h1]
      rcases ih (k + 1) (c :: st) with h | ⟨h, j, h2, h3, h4, h5⟩
      · exact .inl h
      · refine .inr ⟨h, j, ?_, by omega, by rw [List.length_cons]; omega, fun m => ?_⟩
        · rw [flt_cons]; rw [if_pos h1]; exact h2
        · rw [List.cons_append, flt_cons]; rw [if_pos h1]; exact h5 m
    · rw [if_neg h1]
      cases st with
      | nil =>
        refine .inr ⟨rfl, k, ?_, Nat.le_refl _, by rw [List.length_cons]; omega, fun m => ?_⟩
        · rw [flt_cons]; rw [if_neg h1]
        · rw [List.cons_append, flt_cons]; rw [if_neg h1]
      | cons t ts =>
        by_cases h2 : c + 32 = t
        · simp only [if_pos h2]
          rcases ih (k + 1) ts with h | ⟨h, j, h3, h4, h5, h6⟩
          · exact .inl h
          · refine .inr ⟨h, j, ?_, by omega, by rw [List.length_cons]; omega, fun m => ?_⟩
            · rw [flt_cons]; rw [if_neg h1]; simp only [if_pos h2]; exact h3
            · rw [List.cons_append, flt_cons]; rw [if_neg h1]; simp only [if_pos h2]; exact h6 m
        · simp only [if_neg h2]
          refine .inr ⟨trivial, k, ?_, Nat.le_refl _, by rw [List.length_cons]; omega, fun m => ?_⟩
          · rw [flt_cons]; rw [if_neg h1]; simp only [if_neg h2]
          · rw [List.cons_append, flt_cons]; rw [if_neg h1]; simp only [if_neg h2]
theorem flt_of_run {l : List Nat} {k : Nat} {st st' : List Nat} (h : run l st = some st') : flt l k st = if st' = [] then none else some (k + l.length) := by
  have := flt_run (k := k) [] h
  rw [List.append_nil] at this
  rw [this]
  rfl
/-- the stack's letters are opening ones -/
theorem run_lo {l : List Nat} : ∀ {st st'}, run l st = some st' → (∀ c ∈ st, 97 ≤ c ∧ c ≤ 104) → ∀ c ∈ st', 97 ≤ c ∧ c ≤ 104 := by
  induction l with
  | nil => intro st st' h hs; cases h; exact hs
  | cons c l ih =>
    intro st st' h hs
    rw [run_cons] at h
    by_cases h1 : 97 ≤ c ∧ c ≤ 104
    · rw [if_pos h1] at h
      refine ih h fun d hd => ?_
      rcases List.mem_cons.mp hd with rfl | hd
      · exact h1
      · exact hs d hd
    · rw [if_neg h1] at h
      cases st with
      | nil => cases h
      | cons t ts =>
        by_cases h2 : c + 32 = t
        · simp only [if_pos h2] at h
          exact ih h fun d hd => hs d (List.mem_cons_of_mem _ hd)
        · simp only [if_neg h2] at h; cases h
theorem take_snoc {α : Type} {l : List α} {i : Nat} {c : α} (h : l[i]? = some c) : l.take (i + 1) = l.take i ++ [c] := by rw [List.take_add_one, h]; rfl
theorem drop_cons {α : Type} {l : List α} {i : Nat} {c : α} (h : l[i]? = some c) : l = l.take i ++ c :: l.drop (i + 1) := by
  have hi : i < l.length := (List.getElem?_eq_some_iff.mp h).1
  have e : l[i] = c := (List.getElem?_eq_some_iff.mp h).2
  rw [← e, ← List.drop_eq_getElem_cons hi, List.take_append_drop]
theorem run_lo1 {l st : List Nat} {i c : Nat} (h : run (l.take i) [] = some st) (hc : l[i]? = some c) (h1 : 97 ≤ c ∧ c ≤ 104) : run (l.take (i + 1)) [] = some (c :: st) := by
  rw [take_snoc hc, run_append, h]
  show run [c] st = _
  rw [run_cons, if_pos h1]
  rfl
theorem run_up1 {l st : List Nat} {i c : Nat} (h : run (l.take i) [] = some ((c + 32) :: st)) (hc : l[i]? = some c) (h1 : ¬ (97 ≤ c ∧ c ≤ 104)) : run (l.take (i + 1)) [] = some st := by
  rw [take_snoc hc, run_append, h]
  show run [c] ((c + 32) :: st) = _
  rw [run_cons, if_neg h1]
  simp only [if_true]
  rfl
theorem flt_stop {l st : List Nat} {i c : Nat} (h : run (l.take i) [] = some st) (hc : l[i]? = some c) (h1 : ¬ (97 ≤ c ∧ c ≤ 104)) (h2 : ∀ t ts, st = t :: ts → c + 32 ≠ t) : flt l 0 [] = some i := by
  have hi : i < l.length := (List.getElem?_eq_some_iff.mp hc).1
  rw [drop_cons hc, flt_run _ h, flt_cons, if_neg h1, List.length_take, Nat.min_eq_left (by omega), Nat.zero_add]
  cases st with
  | nil => rfl
  | cons t ts => simp only [if_neg (h2 t ts rfl)]
theorem flt_end {l st : List Nat} (h : run (l.take l.length) [] = some st) : flt l 0 [] = if st = [] then none else some l.length := by
  rw [List.take_length] at h
  rw [flt_of_run h, Nat.zero_add]
theorem run_len {l : List Nat} : ∀ {st st'}, run l st = some st' → st'.length ≤ st.length + l.length := by
  induction l with
  | nil => intro st st' h; cases h; exact Nat.le_refl _
  | cons c l ih =>
    intro st st' h
    rw [run_cons] at h
    by_cases h1 : 97 ≤ c ∧ c ≤ 104
    · rw [if_pos h1] at h
      have := ih h
      simp only [List.length_cons] at this ⊢
      omega
    · rw [if_neg h1] at h
      cases st with
      | nil => cases h
      | cons t ts =>
        by_cases h2 : c + 32 = t
        · simp only [if_pos h2] at h
          have := ih h
          simp only [List.length_cons] at this ⊢
          omega
        · simp only [if_neg h2] at h; cases h
/-- the closing letters of a stack -/
theorem run_close : ∀ {st : List Nat}, (∀ c ∈ st, 97 ≤ c ∧ c ≤ 104) → run (st.map (· - 32)) st = some []
  | [], _ => rfl
  | c :: st, h => by
    have hc := h c (List.mem_cons_self ..)
    show run ((c - 32) :: st.map (· - 32)) (c :: st) = _
    rw [run_cons, if_neg (by omega)]
    simp only [show c - 32 + 32 = c by omega, if_true]
    exact run_close fun d hd => h d (List.mem_cons_of_mem _ hd)
/-- what is written so far, what is still open (the last one opened at the end, as closing letters) -/
def NestI (ls os : List Nat) (n : Nat) : Prop := run ls [] = some ((os.map (· + 32)).reverse) ∧ (∀ c ∈ os, 65 ≤ c ∧ c ≤ 72) ∧ ls.length + os.length = n
theorem NestI.nil : NestI [] [] 0 := ⟨rfl, fun _ h => absurd h List.not_mem_nil, rfl⟩
theorem NestI.pop {ls os : List Nat} {c n : Nat} (h : NestI ls (os ++ [c]) n) : NestI (ls ++ [c]) os n := by
  obtain ⟨h1, h2, h3⟩ := h
  have hc := h2 c (by simp)
  refine ⟨?_, fun d hd => h2 d (List.mem_append_left _ hd), by simp only [List.length_append, List.length_singleton] at h3 ⊢; omega⟩
  rw [run_append, h1, List.map_append, List.reverse_append]
  show run [c] ((c + 32) :: (os.map (· + 32)).reverse) = _
  rw [run_cons, if_neg (by omega)]
  simp only [if_true]
  rfl
theorem NestI.push {ls os : List Nat} {c n : Nat} (h : NestI ls os n) (hc : 97 ≤ c ∧ c ≤ 104) : NestI (ls ++ [c]) (os ++ [c - 32]) (n + 2) := by
  obtain ⟨h1, h2, h3⟩ := h
  refine ⟨?_, fun d hd => ?_, by simp only [List.length_append, List.length_singleton]; omega⟩
  · rw [run_append, h1]
    show run [c] _ = _
    rw [run_cons, if_pos hc, List.map_append, List.reverse_append]
    show some (c :: (os.map (· + 32)).reverse) = some ((c - 32 + 32) :: (os.map (· + 32)).reverse)
    rw [show c - 32 + 32 = c by omega]
  · rcases List.mem_append.mp hd with hd | hd
    · exact h2 d hd
    · rw [List.mem_singleton.mp hd]; omega
/-- nested -/
def Nst (l : List Nat) : Prop := run l [] = some []
theorem NestI.done {ls : List Nat} {n : Nat} (h : NestI ls [] n) : Nst ls ∧ ls.length = n := ⟨h.1, by have := h.2.2; simpa using this⟩
section
variable {K : PySem.W.Frag} {B H : Hp} {M R : List (Addr × HO)} {a p : Addr} {Q : VK} {z : Str} {i : Int} {xs : List V}
theorem x_popC {os : List Nat} {c : Nat} (O : Own B H M R) (k : Nat) (hk : R[k]? = some (a, .lst ((os ++ [c]).map ch))) (q : ∀ H1, Own B H1 M (R.set k (a, .lst (os.map ch))) → Q (ch c) H1) : rPop (.ref a) [] H Q := by
  have e : (os ++ [c]).map ch = os.map ch ++ [ch c] := by rw [List.map_append]; rfl
  rw [e] at hk
  refine x_pop O k hk (v := ch c) (by simp) fun H1 O1 => q H1 ?_
  rw [List.dropLast_concat] at O1
  exact O1
theorem x_appC {l : List Nat} {c : Nat} (O : Own B H M R) (k : Nat) (hk : R[k]? = some (a, .lst (l.map ch))) (hz : l.length < 10000000) (q : ∀ H1, Own B H1 M (R.set k (a, .lst ((l ++ [c]).map ch))) → Q .non H1) : rAppend (.ref a) [ch c] H Q := by
  refine x_append O k hk (by rw [List.length_map, sizeLine_eq]; omega) fun H1 O1 => q H1 ?_
  rw [List.map_append]
  exact O1
theorem map_snoc (l : List Nat) (c : Nat) : l.map ch ++ [ch c] = (l ++ [c]).map ch := by rw [List.map_append]; rfl
/-- an item of a list at an open place within it -/
theorem x_ixLo (h : H a = some (.lst xs)) (h0 : 0 ≤ i) (h1 : i < (xs.length : Int)) (q : ∀ v, xs[i.toNat]? = some v → v ∈ xs → Q v H) : rIxL K (.ref a) (.int i) H Q := by
  obtain ⟨c, e, e2, m⟩ := at_lt h0 h1
  exact x_ixL h e (q c e2 m)
end
theorem snoc_of {α : Type} {l : List α} (h : 0 < l.length) : ∃ m c, l = m ++ [c] := by
  rcases List.eq_nil_or_concat l with e | ⟨m, c, e⟩
  · rw [e] at h; simp at h
  · exact ⟨m, c, by rw [e, List.concat_eq_append]⟩
end NF

/-! Own exceptions: a class over ValueError whose __init__ says super().__init__('..') and keeps its arguments. -/
namespace NF
open PySem PySem.Spec PyProof.Rows PySem.W PySem.Calls L2

/-- what the written part says of an own exception class at C, its __init__ at f, one field fld -/
structure XCls (P : Program) (K : Frag) (mg : Str → Option Value) (C : Addr) : Prop where
  oex : OexC K C
  ini : excInitIn K C PySem.HandSPX.veTail "ValueError.__new__" = true
  sub : subIn K (.ref C) (.type "ValueError") = some true
  opq : nsIn K cStatics "thirdparty.any" = some none
  sup : mg "super" = none
  htop : (P.main.scope.names.lookup ("super" : Str)).isSome = false

def spX (K : Frag) (C : Addr) (fld : Str) : Sp := fun vs H Q _ => ∃ e v, vs = [.ref e, v] ∧ H e = some (exo e C none) ∧
  ∀ dx, H dx = none → dx ≠ e → Q .non (upd (upd H dx (exd dx [(fld, v)])) e (exo e C (some dx)))

section
variable {prog : Program} {w : World} {A : Around} {E : Value → Shared → Prop} {K : Frag} {h : Heap} {g : Array GenState} {d : Drawn} {t : Nat} {os : OsState}
/-- super().__init__(..) bound, called -/
theorem call_mwVE {C x u t0 : Addr} {rest : List Value} {Q : Value → Shared → Prop} (X : K.In h) (q : excInitIn K C PySem.HandSPX.veTail "ValueError.__new__" = true) (hu : h.get? u = some (kxs_mw "ValueError.__init__" x))
    (he : h.get? x = some (PySem.HandSPX.excO C t0)) (hz : rest.length ≤ sizeLine)
    (fin : ∀ h' t1, (∀ b o, b ≠ x → h.get? b = some o → h'.get? b = some o) → h'.get? x = some (PySem.HandSPX.excO C t1) → Q .none ⟨h', g, d, t, os⟩) :
    wpAny (model prog w) A (call (.ref u) rest) Q E ⟨h, g, d, t, os⟩ := by
  obtain ⟨nm, N', qn, bs, bm, hdct, sn, sub, ab, col, dd, k0, k1, k2, k3, k5, hC, hT⟩ := excInit_of X q
  refine wpAny_call (codeAny_of_tree ?_)
  show wpAny _ A.in1 (callAny (.ref u) ⟨rest, []⟩) _ _ _
  simp only [callAny]
  refine wpAny_bind (wpAny_load hu ?_)
  simp only [kxs_mw, show (Value.type "method-wrapper" == Value.type "method" || Value.type "method-wrapper" == Value.type "builtin_function_or_method" || Value.type "method-wrapper" == Value.type "method-wrapper") = true by decide, if_true]
  refine KFB.if_so (by decide) ?_
  refine wpAny_bind (check_bound_init PySem.F.excBase_ValueError.toExcCallFacts hC he rfl ?_)
  refine wpAny_bind (wpAny_pure (wpAny_pure ?_))
  refine ⟨plainId_quiet PySem.F.excBase_ValueError.init.plain _, codeAny_builtin PySem.F.excBase_ValueError.initEntry ?_⟩
  exact exc_init_tree (cls := .ref C) (t0 := t0) (dv := none) (c2 := .none) (c3 := .none) (b4 := .bool false) he hz fun h' k e' _ => fin h' _ k e'
end

theorem fn_sup {CX : CXT} {P : Program} {w : World} {K : Frag} {mg : Str → Option Value} {base : Heap} {k : Nat} {C D f cc cda : Addr} {cdD : ClassData} {name qual fld txt : Str} {j : Nat} {params : Arguments} {scope : Scope} {dV kV doc pm ct oc ccl cl : Value} {an od cdd cld : Option Addr}
    {osl ccs csl : Array (Option Value)} {vs : Array Value} {file : Str} {tf : Tok} {ar : Arg} {p0 p1 p2 p3 p4 p5 q0 q1 q2 q3 : Pos} (T : XCls P K mg C)
    (lk : K.lookup f = some ⟨oc, od, .func (ksFn name qual params [.Expr (.Call (.Attribute (.Call (.Name "super" p0) [] [] p1) "__init__" p2) [.Constant (.str txt) j p3] [] p4) p5, .Assign [.Attribute (.Name "self" q0) fld q1] (.Name fld q2) q3] scope dV kV doc pm an (.ref cda) ct cc), osl⟩)
    (hcd : codeIn K (.ref cda) qual = true) (hcode : K.lookup cda = some ⟨ccl, cdd, .fields vs, ccs⟩) (hvs : vs[2]? = some (.str file tf)) (hfile : ((P.main.file : Str) == file) = true)
    (hcell : K.lookup cc = some ⟨cl, cld, .cell (some (.ref D)), csl⟩) (hD : clsIn K D = some cdD) (hp : (params.posonlyargs ++ params.args).head? = some ar) (har : ar.arg = "self")
    (hmro : mroIn K C (.ref D) = some true) (hsi : ks_superIn K C D "__init__" = some (some (.builtin "ValueError.__init__"))) (hno : findIn K (.ref C) fld = some none)
    (hns : ("self" : Str) ≠ fld) (hdb : (fld == ("__debug__" : Str)) = false)
    (s1 : scope.names.lookup ("self" : Str) = some .local) (s2 : scope.names.lookup fld = some .local) (s3 : scope.names.lookup ("super" : Str) = some .globalImplicit) (s4 : scope.names.lookup ("__class__" : Str) = some .free)
    (hnc : ∀ x ∈ scope.names, x.2 ≠ .cell) (hco : scope.isCoroutine = false) (hgen : scope.isGenerator = false) (hk : scope.kind = .function) (pl : Env → Sem Bool)
    (hme : ∀ env : Env, eval (.Call (.Attribute (.Call (.Name "super" p0) [] [] p1) "__init__" p2) [.Constant (.str txt) j p3] [] p4) env = (do
      let ov ← attributeBase (.Call (.Name "super" p0) [] [] p1) "__init__" env (eval (.Call (.Name "super" p0) [] [] p1) env)
      standAt p2.atName
      let (f, first) ← holding [ov] (getMethod ov "__init__" (pl env))
      callWith p4 f first (backTo p4 (starEach [.Constant (.str txt) j p3] env)) [])) :
    FnOk P w K mg base CX (k + 1) f (ksFn name qual params [.Expr (.Call (.Attribute (.Call (.Name "super" p0) [] [] p1) "__init__" p2) [.Constant (.str txt) j p3] [] p4) p5, .Assign [.Attribute (.Name "self" q0) fld q1] (.Name fld q2) q3] scope dV kV doc pm an (.ref cda) ct cc)
      ["self", fld] (spX K C fld) := by
  refine ⟨fun vs H Q E ⟨e, v, hv, _⟩ => by rw [hv]; rfl, fun A outer s H args us vs Q E hr e0 hb r hsp => ?_⟩
  obtain ⟨x, v, rfl, hx, hq⟩ := hsp
  obtain ⟨u0, us1, rfl, r1, r⟩ : ∃ u0 us1, us = u0 :: us1 ∧ RelV (.ref x) u0 ∧ Vals [v] us1 := by cases r with | cons a b => exact ⟨_, _, rfl, a, b⟩
  obtain ⟨u, us2, rfl, ru, r⟩ : ∃ u us2, us1 = u :: us2 ∧ RelV v u ∧ Vals [] us2 := by cases r with | cons a b => exact ⟨_, _, rfl, a, b⟩
  cases r
  obtain rfl : u0 = Value.ref x := r1
  have KX : K.In s.heap := e0.mod.kin.keeps fun b o e => (e0.bs b o e).1
  have lim : s.heap.NoLimit := e0.mod.nolimit.keeps fun b o e => (e0.bs b o e).1
  refine ks_codeAny_call_defAt hr.depth (KX _ _ lk) rfl lim (codeRec_of KX hcd) rfl hb hnc (fun y hy => ?_) (fun h1 hns1 hk1 => ?_) hco hgen hk
  · have hy' : y = (("self" : Str), Value.ref x) ∨ y = (fld, u) := by simpa using hy
    rcases hy' with rfl | rfl
    · exact s1
    · exact s2
  obtain ⟨t0, hx0⟩ := exo_at e0.hok hx
  have hx1 := hk1 _ _ hx0
  obtain ⟨hp0, g, d, tk, os⟩ := s
  have X1 : K.In h1 := KX.keeps hk1
  have bk1 : ∀ b o, base.get? b = some o → h1.get? b = some o := fun b o e => hk1 b o (e0.bs b o e).1
  have mself : ((((["self", fld] : List Str).zip [Value.ref x, u]).reverse).lookup ("self" : Str)) = some (Value.ref x) := by
    have : (("self" : Str) == fld) = false := by simpa using hns
    simp [List.lookup, this]
  have mfld : ((((["self", fld] : List Str).zip [Value.ref x, u]).reverse).lookup fld) = some u := by
    simp [List.lookup]
  refine ks_wpAt_execs_cons (ks_wpAt_Expr_any (ks_wpAt_MethodCall (pl := pl _) ?body (hme _)) ?hi ?hsw)
  case hi =>
    unfold interactive
    show (scope.kind == ScopeKind.module && _) = false
    rw [hk]
    rfl
  case hsw => rfl
  refine ks_wpAt_super_base s3 s4 (by decide) rfl (X1 _ _ lk) rfl hp rfl (X1 _ _ hcode) rfl hvs hfile T.htop ?_
  obtain ⟨mb, hb1, hb2⟩ := e0.mod.blt
  refine ks_loadName_global hk s3 (loadGlobal_builtin (e0.mod.glob.keeps bk1) T.sup (hb1.keeps bk1) ((hb2 _ (by decide)).trans (by first | boot_by_name | rfl | kernel_rfl)) ⟨rfl, ?_⟩)
  refine wpAny_loadName_free hk s4 rfl ⟨_, X1 _ _ hcell, rfl⟩ ?_
  rw [har]
  refine wpAny_loadName_local hk s1 hns1 mself ?_
  obtain ⟨oD, hD1, hD2⟩ : ∃ oD, h1.get? D = some oD ∧ oD.data = .cls cdD := by
    unfold clsIn at hD
    split at hD
    · rename_i c d cd' sl ho
      cases hD
      exact ⟨_, X1 _ _ ho, rfl⟩
    · cases hD
  refine ks_wpAny_isType_cls hD1 hD2 ⟨rfl, ?_⟩
  refine ks_wpAny_call_super hD1 hD2 hx1 rfl (fun c e => by cases e) (looks_mroIn X1 hmro) (fun h2 e2 k2 => ?_)
  have X2 : K.In h2 := X1.keeps k2
  have hx2 := k2 _ _ hx1
  have I2 : InstAt h2 x (PySem.HandSPX.excO C t0) C none := ⟨hx2, rfl, rfl, trivial⟩
  cases hc : clsIn K C with
  | none => unfold ks_superIn at hsi; rw [hc] at hsi; cases hsi
  | some cd =>
    unfold ks_superIn at hsi
    rw [hc] at hsi
    refine kxs_getMethod kxs_ValueError e2 (looks_opaque X2 T.opq) (l₀ := cd.mro) ?_ rfl X2 hsi (I2.type.andThen (looks_subIn X2 T.sub)) (ks_ne X2 I2 hc) (by decide) ?_
    · exact fun A Q E s k q => wpAny_bind ((looks_clsIn X2 hc) A _ E s k (wpAny_pure q))
    refine kxs_callWith (i := "ValueError.__init__") (x := x) rfl ?_
    refine evalArgs_plain ?_
    show wpAny _ _ (spliced ((false, eval (.Constant (.str txt) j p3) _) :: backTo p4 (starEach [] _))) _ _ _
    refine spliced_cons (Constant_str (spliced_nil ?_))
    have k3 : ∀ b o, h2.get? b = some o → (h2.push (kxs_mw "ValueError.__init__" x)).get? b = some o := fun b o e => Heap.get?_push_of_some _ e
    have hu3 : (h2.push (kxs_mw "ValueError.__init__" x)).get? h2.objs.size = some (kxs_mw "ValueError.__init__" x) := Heap.get?_push_at rfl rfl
    refine ⟨hu3, ?_⟩
    refine call_mwVE (X2.keeps k3) T.ini hu3 (k3 _ _ hx2) (by size_fits) fun h4 t1 k4 hx4 => ?_
    have k14 : ∀ b o, b ≠ x → h1.get? b = some o → h4.get? b = some o := fun b o hb e => k4 b o hb (k3 _ _ (k2 _ _ e))
    have hn : H hp0.objs.size = none := e0.hok.fresh (Nat.le_refl _)
    have hxL : hp0.objs.size ≠ x := fun z => by rw [z, hx] at hn; cases hn
    have X4 : K.In h4 := e0.mod.kin.keeps fun b o e => k14 b o (fun z => by
      have q := (e0.bs b o e).2
      rw [z, hx] at q
      cases q) (bk1 b o e)
    have hns4 : h4.Ns hp0.objs.size (fun y => List.lookup y (([("self" : Str), fld].zip [Value.ref x, u]).reverse)) := hns1.at fun o e => k14 _ _ hxL e
    show _root_.PySem.wpAt _ _ _ (execs [.Assign [.Attribute (.Name "self" q0) fld q1] (.Name fld q2) q3] _) _ _ _
    refine wpAt_of_wpAny (wpAny_execs_cons ?_)
    refine plainObj_wpAny_Assign_Attribute ?_ rfl
    refine wpAny_Name (wpAny_loadName_local hk s2 hns4 mfld ?_) hdb
    refine wpAny_Name (wpAny_loadName_local hk s1 hns4 mself ?_) (by decide)
    obtain ⟨nm, q, N, bs, bm, sn, sub, ab, col, dd, kk0, kk1, kk2, kk3, kk5, hC, hbm⟩ := T.oex.cls
    have hcl : clsIn K C = some { name := nm, bases := bs, mro := .ref C :: bm, ns := N, qualname := q, hasDict := true, slotNames := sn, subclasses := sub, abstract := ab, collection := col, hasDel := false } := by unfold clsIn; rw [hC] <;> rfl
    refine set_plain X4 (ox := PySem.HandSPX.excO C t1) (od := none) ⟨hx4, rfl, rfl, trivial⟩ T.oex.sa ?_
    refine PySem.HandSPX.exc_osa X4 hx4 hcl (show PySem.HandSPX.refsVE (.ref C :: bm) = true from hbm) rfl hno (fun h5 tk5 dx k5 dn dne hx5 hn5 => ?_)
    refine wpAny_execs_nil ?_
    have k05 : ∀ b o, b ≠ x → hp0.get? b = some o → h5.get? b = some o := fun b o hb e => k5 b o hb (k14 b o hb (hk1 b o e))
    have sz : hp0.objs.size ≤ dx := Nat.le_trans (Nat.le_of_lt hns4.lt) dn
    have hnd : H dx = none := e0.hok.fresh sz
    have nd : ∀ {b : Addr} {o : Obj}, hp0.get? b = some o → b ≠ dx := fun {b o} q => Nat.ne_of_lt (Nat.lt_of_lt_of_le (Heap.lt_size q) sz)
    have na : ∀ {b : Addr}, H b = none → b ≠ x := fun {b} n z => by
      rw [z, hx] at n
      cases n
    have Un1 : Un (frs outer) [] H (upd (upd H dx (exd dx [(fld, v)])) x (exo x C (some dx))) hp0 h5 := {
      keep := fun b o q n _ _ => k05 b o (na n) q
      slot := fun b o q n _ _ => ⟨o.slots, k05 b o (na n) q⟩
      free := fun b o q n _ => by rw [upd_ne (na n), upd_ne (nd q)]; exact n
      there := fun b o q _ => by
        by_cases hb : b = x
        · exact ⟨_, by rw [hb]; exact hx5⟩
        · exact ⟨o, k05 b o hb q⟩
      tups := fun b xs q => by rw [upd_ne (at_ne hx q exo_tup), upd_ne (ne_of_none q hnd)]; exact q
      frzs := fun b o v q => by rw [upd_ne (at_ne hx q exo_frz), upd_ne (ne_of_none q hnd)]; exact q
      tbls := fun b ps q => ⟨#[], by rw [upd_ne (at_ne hx q exo_tbl), upd_ne (ne_of_none q hnd), q]; simp⟩ }
    refine ⟨.non, _, rfl, e0.bare, Un1, fun b o q => ?_, rfl, hq dx hnd dne⟩
    by_cases hb : b = x
    · subst hb
      rw [upd_same] at q
      cases q
      exact exo_ok hx5
    · rw [upd_ne hb] at q
      by_cases hd : b = dx
      · subst hd
        rw [upd_same] at q
        cases q
        exact exd_ok hn5 (relO_put (fs := []) ru fun g => True.intro)
      · rw [upd_ne hd] at q
        exact (e0.hok b o q).stay (fun c v hc z => k05 c v (by
            rcases hc with hc | hc
            · rw [hc]
              exact hb
            · exact at_ne hx hc exo_own) z)
          (fun c hc => by rw [upd_ne (at_ne hx hc exo_own), upd_ne (ne_of_none hc hnd)]; exact hc) (fun c xs hc => by rw [upd_ne (at_ne hx hc exo_tup), upd_ne (ne_of_none hc hnd)]; exact hc)
end NF

/-! Own exceptions, second part: classes by name, raising, defs that may raise, isinstance and fields in a suite. -/
namespace NF
open PySem PySem.Spec PyProof.Rows PySem.W PySem.Calls L2

/-- the class that the module's name x stands for -/
def cad (mg : Str → Option Value) (x : Str) : Addr := match mg x with
  | some (.ref a) => a
  | _ => 0
theorem cad_eq {mg : Str → Option Value} {x : Str} {a : Addr} (h : mg x = some (.ref a)) : cad mg x = a := by
  unfold cad
  rw [h]

/-- an exception class: what a clause that names it and isinstance want of it -/
structure XNam (K : Frag) (mg : Str → Option Value) (x : Str) : Prop where
  hm : mg x = some (.ref (cad mg x))
  exC : subIn K (.ref (cad mg x)) (.type "BaseException") = some true
  hd : hasDictIn K (cad mg x) = true
  ty : typeIn K (.ref (cad mg x)) = some (.type "type")

/-- .. whose instances are made and looked at -/
structure XFact (P : Program) (K : Frag) (mg : Str → Option Value) (x fld : Str) : Prop where
  nam : XNam K mg x
  cls : XCls P K mg (cad mg x)
  exc : ExcC K (cad mg x)
  nof : findIn K (.ref (cad mg x)) fld = some none
  ini : ∃ fI fd, findIn K (.ref (cad mg x)) "__init__" = some (some (.ref fI)) ∧ typeIn K (.ref fI) = some (.type "function") ∧ Binds K fd ["self", fld] [] ∧
    ∀ (w : World) (base : Heap) (CX : CXT), FnOk P w K mg base CX 1 fI fd ["self", fld] (spX K (cad mg x) fld)

/-! ### X(e) -/
def tMkX (C : Addr) (fld : Str) (te : TE) : L2.St → Hp → XK → Prop := fun σ H Q => te σ H fun v H1 => ∀ d, H1 d = none → Q (.ref C) (some d) (upd H1 d (.xd [(fld, v)]))

theorem pmk_x {X : Cx} {x fld : Str} {e : Expr} {te : TE} {p pos : Pos} (T : XFact X.prog X.K X.mg x fld) (hr : Room 2 X.A) (hg : Gl X x) (ha : PE X e te)
    (hdb : (x == ("__debug__" : Str)) = false := by decide) (he : starEach [e] X.env = (false, eval e X.env) :: starEach [] X.env := by rfl) :
    L2N.PMk X (.Call (.Name x p) [e] [] pos) (tMkX (cad X.mg x) fld te) := by
  intro pins s σ H Q I h
  obtain ⟨fI, fd, iC, tI, hb, F1⟩ := T.ini
  have F1 := F1 X.w X.base CX0
  obtain ⟨nm, q, N, bs, bm, sn, sub, ab, col, dd, k0, k1, k2, k3, k5, hC, hbm⟩ := T.cls.oex.cls
  refine wpAny_Call_Name_kw (ld_glob I hg T.nam.hm ?_ hdb)
  refine PySem.W.callWith_K (h₀ := X.base) I.ok.mod.kin T.cls.oex.kC ?_ he rfl
  rw [he]
  refine spliced_cons (thn (ha.run pins s σ H _ I h) fun u s1 ⟨v, H1, I1, r1, q1⟩ => spliced_nil ⟨I1.kIn, ?_⟩)
  show wpAny _ _ (call (.ref (cad X.mg x)) [u]) _ _ _
  obtain ⟨hp, g, dr, tk, os⟩ := s1
  have hsz : hp.objs.size ≤ hp.objs.size + 1 := Nat.le_succ _
  have hn : H1 (hp.objs.size + 1) = none := I1.hok.fresh hsz
  have kk : ∀ b o, hp.get? b = some o → ((hp.push (PySem.W.kdv_tup [u])).push (PySem.HandSPX.excO (cad X.mg x) hp.objs.size)).get? b = some o := fun b o e => Heap.get?_push_of_some _ (Heap.get?_push_of_some _ e)
  have hget : ((hp.push (PySem.W.kdv_tup [u])).push (PySem.HandSPX.excO (cad X.mg x) hp.objs.size)).get? (hp.objs.size + 1) = some (PySem.HandSPX.excO (cad X.mg x) hp.objs.size) := by heap_get
  have I2 : Inv X pins σ (upd H1 (hp.objs.size + 1) (exo (hp.objs.size + 1) (cad X.mg x) none)) ⟨(hp.push (PySem.W.kdv_tup [u])).push (PySem.HandSPX.excO (cad X.mg x) hp.objs.size), g, dr, tk, os⟩ :=
    I1.laid (t' := tk) (a := hp.objs.size + 1) (o := exo (hp.objs.size + 1) (cad X.mg x) none) (h' := (hp.push (PySem.W.kdv_tup [u])).push (PySem.HandSPX.excO (cad X.mg x) hp.objs.size)) kk hsz (exo_ok hget)
  have r2 : Vals [V.ref (hp.objs.size + 1), v] [Value.ref (hp.objs.size + 1), u] := .cons rfl (.cons r1 .nil)
  have b2 := hb _ [Value.ref (hp.objs.size + 1), u] I2.kIn rfl
  refine wpAny_call (PySem.HandSPX.call_own PySem.F.excBase_ValueError (fun Y => PySem.HandSPX.refsVE_contains Y bm hbm) (I1.kIn _ _ hC) (PySem.W.looks_findIn I1.kIn iC) (fun self => PySem.W.bind_fn I1.kIn self tI) (by size_fits)
    (codeAny_mono (F1.run _ X.stack _ _ ⟨[Value.ref (hp.objs.size + 1), u], []⟩ [Value.ref (hp.objs.size + 1), u] _
      (fun v2 H2 => v2 = .non ∧ ∃ dx, H1 dx = none ∧ dx ≠ hp.objs.size + 1 ∧ H2 = upd (upd (upd H1 (hp.objs.size + 1) (exo (hp.objs.size + 1) (cad X.mg x) none)) dx (exd dx [(fld, v)])) (hp.objs.size + 1) (exo (hp.objs.size + 1) (cad X.mg x) (some dx)))
      (fun _ _ _ => False) (hr.make (cad X.mg x) [u] []) (I2.env0.make (cad X.mg x) [u] []) b2 r2 ⟨_, v, rfl, upd_same, fun dx h1 h2 => ⟨rfl, dx, by rw [upd_ne h2] at h1; exact h1, h2, rfl⟩⟩) fun r s' hq' => ?_))
  cases r with
  | error er => exact hq'.elim
  | ok fl =>
    cases fl with
    | ret u =>
      obtain ⟨v2, H2, os2, bare2, un2, hok2, rv, ev, dx, hd1, hne, eH⟩ := hq'
      subst ev
      obtain ⟨h2, g2, d2, t2, os'⟩ := s'
      have ea : H2 (hp.objs.size + 1) = some (exo (hp.objs.size + 1) (cad X.mg x) (some dx)) := by rw [eH, upd_same]
      have ed : H2 dx = some (exd dx [(fld, v)]) := by rw [eH, upd_ne hne, upd_same]
      obtain ⟨t0, G, J, kG, ge, hoe, na⟩ := mk_end0 (d2 := d2) (t2 := t2) I1 hsz kk un2 hok2 os2 bare2 ea ed hd1
      have eF : upd (del H2 (hp.objs.size + 1)) dx (.xd [(fld, v)]) = upd H1 dx (.xd [(fld, v)]) := by
        funext b
        by_cases hb : b = dx
        · rw [hb, upd_same, upd_same]
        · rw [upd_ne hb, upd_ne hb]
          by_cases ha : b = hp.objs.size + 1
          · rw [ha, del_same, hn]
          · rw [del_ne ha, eH, upd_ne ha, upd_ne hb, upd_ne ha]
      rw [eF] at J na
      refine ⟨rv, ⟨hp.objs.size + 1, _, _, ⟨G, g2, d2, t2, os'⟩, _, .ref (cad X.mg x), some dx, rfl, J, kG, ge, hoe, ⟨rfl, rfl, fun vs hv => ?_⟩, rfl, rfl, na, rfl, bare2, raises_own T.cls.oex.exC T.cls.oex.tyC, q1 dx hd1⟩⟩
      cases hv
      rfl
    | next => exact False.elim hq'
    | brk => exact False.elim hq'
    | cont => exact False.elim hq'

/-! ### defs that may raise, with defaults -/
structure DefX (P : Program) (w : World) (K : PySem.W.Frag) (mg : Str → Option Value) (base : Heap) (k : Nat) (x : Str) (ps : List Str) (dvs : List V) (sp : Sp) : Prop where
  ex : ∃ f fd ds, FnOk P w K mg base (L2N.CX P w) k f fd ps sp ∧ mg x = some (.ref f) ∧ PySem.W.keepIn K (.ref f) = true ∧ Binds K fd ps ds ∧ Vals dvs ds
/-- a def with defaults as the top leaves it; the last ones always lack -/
def FnD (K : PySem.W.Frag) (mg : Str → Option Value) (x : Str) (st : Stmt) (dvs : List V) : Prop := ∃ f fd, FunD K x x (defArgs st) (defBody st) (defScope st) dvs [] f fd ∧ mg x = some (.ref f)
section
variable {P : Program} {w : World} {K : PySem.W.Frag} {mg : Str → Option Value} {base : Heap}
theorem DefX.mk0 {x : Str} {st : Stmt} {N ps : List Str} {k : Nat} {sp : Sp} (F : Fn0 K mg x st) (S : FnScope N ps (defScope st)) (len : ∀ vs H Q E, sp vs H Q E → vs.length = ps.length)
    (hbind : ∀ (kV doc pm : Value) (an : Option Addr) (cdv ct : Value) (us : List Value), us.length = ps.length → bindArgs (PySem.W.fnOf x x (defArgs st) (defBody st) (defScope st) .none kV doc pm an cdv ct) ⟨us, []⟩ = pure (ps.zip us))
    (hbody : ∀ {f : Addr} (cdv : Value) (A : Around) (outer : List Env) (s : Shared) (H : Hp) (vs : List V) (Q : VK) (E : XK), Room k (A.deeper (envOfC x (defScope st) s.heap.objs.size f cdv)) → sp vs H Q E →
      L2N.Takes (cxOf (L2N.CX P w) P w K mg base N x (defScope st) f cdv A outer s H E) (fun cls d _ H' => E cls d H') → PassesOwn (model P w) (A.deeper (envOfC x (defScope st) s.heap.objs.size f cdv)) (envOfC x (defScope st) s.heap.objs.size f cdv) (cxOf (L2N.CX P w) P w K mg base N x (defScope st) f cdv A outer s H E).xe →
      ∃ t, PSs (cxOf (L2N.CX P w) P w K mg base N x (defScope st) f cdv A outer s H E) (defBody st) t ∧ t { nx := fun _ H' => Q .non H', rt := Q } (start N vs) H) : DefX P w K mg base (k + 1) x ps [] sp := by
  obtain ⟨f, fd, F, hm⟩ := F
  obtain ⟨oc, od, kV, doc, pm, an, cdv, ct, osl, rfl, lk, hcd⟩ := F.ex
  exact ⟨f, _, [], fn_of lk hcd S len fun A outer s H vs Q E hr hsp => hbody cdv A outer s H vs Q E hr hsp (L2N.takes_of rfl rfl rfl rfl) (passes_of rfl), hm, F.kp, F.binds hbind, .nil⟩
theorem DefX.mkD {x : Str} {st : Stmt} {N ps : List Str} {k : Nat} {dvs : List V} {sp : Sp} (F : FnD K mg x st dvs) (hd : dvs ≠ []) (n : Nat) (hn : n + dvs.length = ps.length) (S : FnScope N ps (defScope st)) (len : ∀ vs H Q E, sp vs H Q E → vs.length = ps.length)
    (hbind : ∀ (T : Addr) (kV doc pm : Value) (an : Option Addr) (cdv ct : Value) (us its : List Value), us.length = n → its.length = dvs.length →
      ∃ k, bindArgs (PySem.W.fnOf x x (defArgs st) (defBody st) (defScope st) (.ref T) kV doc pm an cdv ct) ⟨us, []⟩ = seqItems? (.ref T) >>= k ∧ k (some its.toArray) = pure (ps.zip (us ++ its)))
    (hbody : ∀ {f : Addr} (cdv : Value) (A : Around) (outer : List Env) (s : Shared) (H : Hp) (vs : List V) (Q : VK) (E : XK), Room k (A.deeper (envOfC x (defScope st) s.heap.objs.size f cdv)) → sp vs H Q E →
      L2N.Takes (cxOf (L2N.CX P w) P w K mg base N x (defScope st) f cdv A outer s H E) (fun cls d _ H' => E cls d H') → PassesOwn (model P w) (A.deeper (envOfC x (defScope st) s.heap.objs.size f cdv)) (envOfC x (defScope st) s.heap.objs.size f cdv) (cxOf (L2N.CX P w) P w K mg base N x (defScope st) f cdv A outer s H E).xe →
      ∃ t, PSs (cxOf (L2N.CX P w) P w K mg base N x (defScope st) f cdv A outer s H E) (defBody st) t ∧ t { nx := fun _ H' => Q .non H', rt := Q } (start N vs) H) : DefX P w K mg base (k + 1) x ps dvs sp := by
  obtain ⟨f, fd, F, hm⟩ := F
  obtain ⟨ds, hv, hb⟩ := F.binds1 (ps := ps) n 0 hd hn hbind
  obtain ⟨oc, od, dV, kV, doc, pm, an, cdv, ct, osl, rfl, lk, hcd, hD, hK⟩ := F.ex
  exact ⟨f, _, ds, fn_of lk hcd S len fun A outer s H vs Q E hr hsp => hbody cdv A outer s H vs Q E hr hsp (L2N.takes_of rfl rfl rfl rfl) (passes_of rfl), hm, F.kp, hb, hv⟩
end
section
variable {X : Cx} {k : Nat} {x : Str} {ps : List Str} {dvs : List V} {sp : Sp} {p pos : Pos} {e : Expr} {es : List Expr} {t : TA} {W : WX}
/-- f(e, ..) of a def that may raise -/
def tCallX (sp : Sp) (dvs : List V) (W : WX) (t : TA) : TE := fun σ H Q => t σ H fun vs H1 => sp (vs ++ dvs) H1 Q (fun cls d H2 => W cls d σ H2)
theorem pe_dx (D : DefX X.prog X.w X.K X.mg X.base k x ps dvs sp) (hr : Room k X.A) (tk : L2N.Takes X W) (hg : Gl X x) (ha : PA X (e :: es) t) (hdb : (x == ("__debug__" : Str)) = false := by decide)
    (he : starEach (e :: es) X.env = (false, eval e X.env) :: starEach es X.env := by rfl) (hpl : (backTo pos (starEach es X.env)).any (·.1) = false := by rfl) : PE X (.Call (.Name x p) (e :: es) [] pos) (tCallX sp dvs W t) := by
  obtain ⟨f, fd, ds, F, hm, hk, hb, hv⟩ := D.ex
  refine ⟨fun pins s σ H Q I h => ?_⟩
  refine wpAny_Call_Name_kw (ld_glob I hg hm ?_ hdb)
  refine PySem.W.callWith_K (h₀ := X.base) I.ok.mod.kin hk (thn (ha.run pos pins s σ H _ I h) fun us s1 ⟨vs, H1, I1, r, q⟩ => ⟨I1.kIn, ?_⟩) he hpl
  show wpAny _ _ (call (.ref f) us) _ _ _
  have r2 : Vals (vs ++ dvs) (us ++ ds) := r.append hv
  have hl : (us ++ ds).length = ps.length := by rw [← r2.length]; exact F.len _ _ _ _ q
  refine wpAny_call (codeAny_mono (F.run X.A X.stack s1 H1 ⟨us, []⟩ (us ++ ds) (vs ++ dvs) Q _ hr I1.env0 (hb s1 us I1.kIn hl) r2 q) fun r s' hq => ?_)
  cases r with
  | error er => exact L2N.passAt tk σ pins H1 s1 er s' I1 hq
  | ok fl =>
    cases fl with
    | ret u => exact I1.after hq
    | next => exact False.elim hq
    | brk => exact False.elim hq
    | cont => exact False.elim hq
theorem pe_clsn {mg : Str → Option Value} (h : mg x = some (.ref (cad mg x))) (hX : X.mg = mg) (hg : Gl X x) (hdb : (x == ("__debug__" : Str)) = false := by decide) : PE X (.Name x pos) (tC (.ref (cad mg x))) := by
  subst hX
  exact pe_glob hg h rfl hdb
end
theorem takesN0 {X : Cx} : L2N.Takes X (fun _ _ _ _ => False) := fun _ _ ⟨_, _, _, _, _, _, _, _, _, _, _, _, _, _, _, _, w⟩ => w.elim

/-! ### promises of defs that may raise -/
/-- the exception: its class, its fields -/
abbrev ExS := List V → Str → List (Str × V) → Prop
/-- plain values in; a plain value out, or an exception -/
def spPX (mg : Str → Option Value) (n : Nat) (pre : List V → Prop) (post : List V → V → Prop) (exc : ExS) : Sp := fun vs H Q E => vs.length = n ∧ pre vs ∧ (∀ v H', Own H H' [] [] → post vs v → Q v H') ∧
  ∀ x fs d H', Own H H' [] [] → exc vs x fs → H d = none → H' d = some (.xd fs) → E (.ref (cad mg x)) (some d) H'
theorem hl_spPX {mg : Str → Option Value} {n : Nat} {pre : List V → Prop} {post : List V → V → Prop} {exc : ExS} : ∀ vs H Q E, spPX mg n pre post exc vs H Q E → vs.length = n := fun vs H Q E h => h.1
section
variable {mg : Str → Option Value} {B H : Hp} {M R : List (Addr × HO)} {Q : VK} {E : XK} {n : Nat} {pre : List V → Prop} {vs : List V} {exc : ExS}
theorem use_spPX {post : List V → V → Prop} (O : Own B H M R) (hl : vs.length = n) (hp : pre vs) (q : ∀ v H', Own B H' M R → post vs v → Q v H')
    (e : ∀ x fs d H', Own B H' M R → exc vs x fs → B d = none → H' d = some (.xd fs) → E (.ref (cad mg x)) (some d) H') : spPX mg n pre post exc vs H Q E :=
  ⟨hl, hp, fun v H' O' h => q v H' (O.call0 O') h, fun x fs d H' O' h h1 h2 => e x fs d H' (O.call0 O') h (O.base_free h1) h2⟩
/-- X(e) in a def's own reading -/
theorem x_raise {C : Addr} {v : V} {fld : Str} {d : Addr} (O : Own B H M R) (h : H d = none) : Own B (upd H d (.xd [(fld, v)])) M R ∧ B d = none := by
  exact ⟨O.ignore h, O.base_free h⟩
end
end NF

/-! try with several clauses, each with or without a name. -/
namespace NF
open PySem PySem.Spec PyProof.Rows L2

/-- a clause: the class it names, the slot of its name, its suite's reading -/
structure Cls3 where
  c : Value
  i : Option Nat
  ts : Addr → Value → Option Addr → TS

/-- the ends of a suite whose clause may have a name -/
def endsOf : Option Nat → Ends → Ends
  | none, D => D
  | some i, D => { nx := fun σ' H' => D.nx (σ'.set i none) H', rt := D.rt, bk := fun σ' H' => D.bk (σ'.set i none) H', ct := fun σ' H' => D.ct (σ'.set i none) H' }
def startOf (a : Addr) : Option Nat → L2.St → L2.St
  | none, σ => σ
  | some i, σ => σ.set i (some (.ref a))
def wAll (K : PySem.W.Frag) (Wout : WX) (D : Ends) : List Cls3 → WX
  | [] => Wout
  | k :: r => fun cls d σ H => ∃ b, PySem.W.exmOne K cls k.c = some b ∧ (b = true → ∀ a, H a = none → k.ts a cls d (endsOf k.i D) (startOf a k.i σ) H) ∧ (b = false → wAll K Wout D r cls d σ H)

/-- a clause's suite -/
def SuOk (X : Cx) (suite : List Stmt) (ts : Addr → Value → Option Addr → TS) : Prop :=
  ∀ (a : Addr) (oe : Obj) (cls : Value) (d : Option Addr) (pn : List (Addr × Obj)), L2N.Zn cls d oe → (∃ vs, oe.data = .fields vs) → PSs (X.suite a ((a, oe) :: pn)) suite (ts a cls d)
inductive HdA (X : Cx) : List ExceptHandler → List Cls3 → Prop
  | nil : HdA X [] []
  | plain {x : Str} {c : Value} {ts : Addr → Value → Option Addr → TS} {b₀ : Stmt} {su : List Stmt} {np pos' : Pos} {hds : List ExceptHandler} {l : List Cls3} (hc : Names X x c) (hsu : SuOk X (b₀ :: su) ts) (r : HdA X hds l) :
      HdA X (.ExceptHandler (some (.Name x np)) none (b₀ :: su) pos' :: hds) (⟨c, none, ts⟩ :: l)
  | named {x n : Str} {c : Value} {i : Nat} {ts : Addr → Value → Option Addr → TS} {b₀ : Stmt} {su : List Stmt} {np pos' : Pos} {hds : List ExceptHandler} {l : List Cls3} (hN : X.N.Nodup) (hi : X.N[i]? = some n) (hln : X.env.kindOf n = some .local)
      (hc : Names X x c) (hsu : SuOk X (b₀ :: su) ts) (r : HdA X hds l) : HdA X (.ExceptHandler (some (.Name x np)) (some n) (b₀ :: su) pos' :: hds) (⟨c, some i, ts⟩ :: l)

section
variable {X : Cx} {body : List Stmt} {h₀ : ExceptHandler} {hds : List ExceptHandler} {l : List Cls3} {pos : Pos} {tb : WX → TS} {Wout : WX}
theorem ps_try_all (hs : X.stack = X.env :: X.outer) (hf : X.env.frame = some X.env.locals) (tk : L2N.Takes X Wout)
    (hb : ∀ (W : WX) (pn : List (Addr × Obj)) (xe : Value → Shared → Prop), L2N.Takes (X.tr pn xe) W → PassesOwn (model X.prog X.w) X.A X.env xe → PSs (X.tr pn xe) body (tb W))
    (hh : HdA X (h₀ :: hds) l) : PS X (.Try body (h₀ :: hds) [] [] pos) (fun D σ H => tb (wAll X.K Wout D l) D σ H) := by
  refine ⟨fun pins s σ H D I h => ?_⟩
  have ok := I.ok
  have hfr : X.A.frames = some (X.env :: X.outer) := by rw [ok.frames, hs]
  refine wpAny_Try_except (wpAny_mono ((hb (wAll X.K Wout D l) (X.pn ++ pins) (fun e s₁ => wpAny (model X.prog X.w) X.A (noteFrame e X.env) (fun _ s₂ => wpAny (model X.prog X.w) X.A (setFlight e none) (fun _ s₃ =>
    wpAny (model X.prog X.w) X.A (handleBy e X.env (h₀ :: hds)) (SP X pins D) X.xe s₃) X.xe s₂) X.xe s₁) (fun u s' xx => ?_) PassesOwn.looking).run [] s σ H D (I.toTry _) h) (fun f s1 hsp => ?_) (fun e s1 he => he))
  · obtain ⟨a, B, sI, pins', σ', H', cls, d, rfl, J', nb, up, sky, na, os, ag, w⟩ := xx
    have J : Inv X pins σ' H' sI := J'.ofTry ok
    have sky' : L2.Sky B (X.env :: X.outer) a (L2N.Zn cls d) X.env.locals s'.heap := by rw [← hs]; exact sky
    show wpAny (model X.prog X.w) X.A (noteFrame (.ref a) X.env) _ _ _
    refine L2N.Sky.land L2N.Zn.steady hfr hf sky' fun h3 fl3 up3 => ?_
    have J3 : Inv X pins σ' H' { s' with heap := h3 } := J.landed nb fl3.1 (up.trans up3) os ag
    obtain ⟨oe3, vs3, he3, hz3, hd3⟩ := fl3.there
    have nfr : a ∉ frs (X.env :: X.outer) := fun hm => by
      obtain ⟨_, o', e', hnf⟩ := fl3.2.2.1.mem hm
      rw [he3] at e'; cases e'
      exact hnf _ hd3
    have nL : a ≠ X.env.locals := fun z => nfr (List.mem_filterMap.mpr ⟨X.env, List.mem_cons_self, by rw [hf, z]⟩)
    have nF : a ∉ X.fs := fun hm => by
      obtain ⟨e, he, q⟩ := List.mem_filterMap.mp hm
      exact nfr (List.mem_filterMap.mpr ⟨e, List.mem_cons_of_mem _ he, q⟩)
    have S3 := J3.suite he3 hd3 na nL nF
    have LT : PySem.W.Looks (model X.prog X.w) h3 (typeOf (.ref a)) cls := fun A Q E s k q => wpAny_typeOf_ref (k _ _ he3) (by rw [hz3.1]; exact q)
    have test : ∀ {x : Str} {c : Value} {np : Pos} {Q : Value → Shared → Prop} {E : Value → Shared → Prop}, Names X x c → Q c { s' with heap := h3 } → wpAny (model X.prog X.w) (X.A.mark (some (.ref a))) (eval (.Name x np) X.env) Q E { s' with heap := h3 } := fun {x c np Q E} hc q => by
      obtain ⟨hg, hdbg, hm | ⟨hm, hv, hnn⟩⟩ := hc
      · exact ld_glob (X := X.suite a ((a, oe3) :: (X.pn ++ pins))) S3 hg hm q hdbg
      · exact ld_blt (X := X.suite a ((a, oe3) :: (X.pn ++ pins))) S3 hg hm hv q hnn hdbg
    have go : ∀ {hds' : List ExceptHandler} {l' : List Cls3}, HdA X hds' l' → wAll X.K Wout D l' cls d σ' H' →
        wpAny (model X.prog X.w) X.A (handleBy (.ref a) X.env hds') (SP X pins D) X.xe { s' with heap := h3 } := by
      intro hds' l' hk
      induction hk with
      | nil =>
        intro w
        refine wpAny_handleBy_nil ?_
        obtain ⟨k1, k2, k3, oe, vs, T, oT, ts', he, hz, hd, h1, hr⟩ := id fl3
        unfold PySem.passOn
        refine wpAny_bind (wpAny_field he hd h1 ?_)
        rw [if_neg (show ¬ ((Value.ref T == Value.none) = true) from by simp)]
        have fin : wpAny (model X.prog X.w) X.A (setFlight (.ref a) X.env.frame) (fun _ s4 => wpAny (model X.prog X.w) X.A (throw (.ref a) : Sem Flow) (SP X pins D) X.xe s4) X.xe { s' with heap := h3 } := by
          rw [hf]
          refine HandSPX.setFlight_upZ fl3 fun h4 hh4 up4 => wpAny_throw (tk _ _ ?_)
          exact ⟨a, B, sI, pins, σ', H', cls, d, rfl, J, nb, (up.trans up3).trans up4, .inr (.inr (by rw [hs]; exact hh4)), na, os, ag, w⟩
        first
          | exact wpAny_bind (wpAny_pure (wpAny_bind fin))
          | exact wpAny_bind fin
      | @plain x c ts b₀ su np pos' hds2 l2 hc hsu r ih =>
        intro w
        obtain ⟨b, hb1, hyes, hno⟩ := w
        refine wpAny_handleBy_cons (codeAny_handlers_test (test hc ((PySem.W.exm_one (M := model X.prog X.w) (J3.kIn) LT hb1).here ?_))) (by intro q; cases q)
        cases b with
        | false => exact ih (hno rfl)
        | true =>
          refine codeAny_handlers_suite (HandSPX.lands_againZ fl3 fun h4 fl4 up4 => ?_)
          have J4 : Inv X pins σ' H' { s' with heap := h4 } := J.landed nb fl4.1 ((up.trans up3).trans up4) os ag
          obtain ⟨oe4, vs4, he4, hz4, hd4⟩ := fl4.there
          refine wpAny_mono ((hsu a oe4 cls d (X.pn ++ pins) hz4 ⟨_, hd4⟩).run [] _ _ H' _ (J4.suite he4 hd4 na nL nF) (hyes rfl a na)) (fun f s6 hsp => ?_) (fun _ _ z => False.elim z)
          cases f with
          | ret u =>
            obtain ⟨v6, σ6, H6, S6, r6, q6⟩ := hsp
            exact ⟨_, _, _, S6.unsuite ok, r6, q6⟩
          | next =>
            obtain ⟨σ6, H6, S6, q6⟩ := hsp
            exact ⟨_, _, S6.unsuite ok, q6⟩
          | brk =>
            obtain ⟨σ6, H6, S6, q6⟩ := hsp
            exact ⟨_, _, S6.unsuite ok, q6⟩
          | cont =>
            obtain ⟨σ6, H6, S6, q6⟩ := hsp
            exact ⟨_, _, S6.unsuite ok, q6⟩
      | @named x n c i ts b₀ su np pos' hds2 l2 hN hi hln hc hsu r ih =>
        intro w
        obtain ⟨b, hb1, hyes, hno⟩ := w
        refine wpAny_handleBy_cons (codeAny_handlers_test (test hc ((PySem.W.exm_one (M := model X.prog X.w) (J3.kIn) LT hb1).here ?_))) (by intro q; cases q)
        cases b with
        | false => exact ih (hno rfl)
        | true =>
          refine codeAny_handlers_suite_as (HandSPX.lands_againZ fl3 fun h4 fl4 up4 => ?_)
          have J4 : Inv X pins σ' H' { s' with heap := h4 } := J.landed nb fl4.1 ((up.trans up3).trans up4) os ag
          obtain ⟨oe4, vs4, he4, hz4, hd4⟩ := fl4.there
          refine store_ok (X := X.suite a ((a, oe4) :: (X.pn ++ pins))) (v := .ref a) (J4.suite he4 hd4 na nL nF) hN hi (.inl hln) rfl (fun s5 S5 => ?_) (.inr hln)
          refine wpAny_mono ((hsu a oe4 cls d (X.pn ++ pins) hz4 ⟨_, hd4⟩).run [] s5 _ H' _ S5 (hyes rfl a na)) (fun f s6 hsp => ?_) (fun _ _ z => False.elim z)
          have end_ : ∀ {σ6 : L2.St} {H6 : Hp} {Q : Shared → Prop}, Inv (X.suite a ((a, oe4) :: (X.pn ++ pins))) [] σ6 H6 s6 → (∀ s7, Inv X pins (σ6.set i none) H6 s7 → Q s7) →
              wpAny (model X.prog X.w) X.A (do bindName X.env n .none; unbindBehindTheSuite X.env n pos') (fun _ s7 => Q s7) X.xe s6 := fun {σ6 H6 Q} S6 hq => gone_ok (S6.unsuite ok) hN hi hln hq
          cases f with
          | ret u =>
            obtain ⟨v6, σ6, H6, S6, r6, q6⟩ := hsp
            exact end_ S6 fun s7 J7 => ⟨_, _, _, J7, r6, q6⟩
          | next =>
            obtain ⟨σ6, H6, S6, q6⟩ := hsp
            exact end_ S6 fun s7 J7 => ⟨_, _, J7, q6⟩
          | brk =>
            obtain ⟨σ6, H6, S6, q6⟩ := hsp
            exact end_ S6 fun s7 J7 => ⟨_, _, J7, q6⟩
          | cont =>
            obtain ⟨σ6, H6, S6, q6⟩ := hsp
            exact end_ S6 fun s7 J7 => ⟨_, _, J7, q6⟩
    exact go hh w
  · cases f with
    | ret u =>
      obtain ⟨v, σ', H', J', r, q⟩ := hsp
      exact ⟨v, σ', H', J'.ofTry ok, r, q⟩
    | next =>
      obtain ⟨σ', H', J', q⟩ := hsp
      exact wpAny_execs_nil ⟨σ', H', J'.ofTry ok, q⟩
    | brk =>
      obtain ⟨σ', H', J', q⟩ := hsp
      exact ⟨σ', H', J'.ofTry ok, q⟩
    | cont =>
      obtain ⟨σ', H', J', q⟩ := hsp
      exact ⟨σ', H', J'.ofTry ok, q⟩
end
end NF

/-! In a suite: isinstance of the caught exception (it has a dict), its fields. -/
namespace PySem.W
open PySem PySem.Spec PySem.Calls PyProof.Rows
section
variable {prog : Program} {w : World} {A : Around} {E : Value → Shared → Prop} {s : Shared} {K : Frag} {x D : Addr} {ox : Obj} {od : Option Obj}
theorem nf_class {Q : Option Value → Shared → Prop} (C : L2.ExcC K D) (X : K.In s.heap) (I : InstAt s.heap x ox D od) (h : Q (some (.ref D)) { s with toks := s.toks + 1 }) : wpAny (model prog w) A (getAttr? (.ref x) "__class__") Q E s := by
  have hf : findObj K D od "__class__" = some (.bind (.builtin "getset_descriptor.__get__") (.builtin "object.__class__")) := findObj_dataE (by obtain ⟨cd, hc, _⟩ := any_some C.hd; rw [hc]; rfl) C.ha C.hn C.ht
  obtain ⟨hp, g, d, t, os⟩ := s
  have L0 := I.type (M := model prog w)
  have L1 := looks_findIn (M := model prog w) X C.hg
  have L2 := looks_findIn (M := model prog w) X C.hk
  have L3 := looks_find (M := model prog w) X I hf
  have sub : Looks (model prog w) hp (isInstance (.ref x) (.type "BaseException")) true := L0.andThen (looks_subIn X C.hs)
  have e2 : (Value.builtin "BaseException.__getattribute__" == Value.builtin "object.__getattribute__") = false := by decide +kernel
  have e1 : (onTheHeap (Value.ref D) && Value.builtin "BaseException.__getattribute__" == Value.builtin "object.__getattribute__") = false := by rw [e2]; rfl
  unfold getAttr? getAttrBy? getAttrBy
  refine wpAny_bind (wpAny_mkText (wpAny_bind (wpAny_attempt (wpAny_holding (wpAny_bind (L0.at (wpAny_bind (L1.at ?_))))))))
  show wpAny _ _ (if (onTheHeap (Value.ref D) && Value.builtin "BaseException.__getattribute__" == Value.builtin "object.__getattribute__") = true then _ else _) _ _ _
  rw [e1, if_neg Bool.false_ne_true]
  unfold getAttrByItsOwn hookBefore
  refine wpAny_bind ?_
  rw [if_pos (show onTheHeap (Value.ref D) = true from rfl)]
  refine L2.at (wpAny_bind (wpAny_attempt (wpAny_holding ?_)))
  unfold callGetattribute
  rw [show (false && onTheHeap (Value.builtin "BaseException.__getattribute__")) = false from rfl, if_neg Bool.false_ne_true]
  unfold boundAndCalled
  rw [PySem.F.excAttr_ValueError.ga.bind (.ref x)]
  refine wpAny_bind (wpAny_pure ?_)
  show wpAny _ _ (call (.builtin "BaseException.__getattribute__") [.ref x, .str "__class__" t]) _ _ _
  refine wpAny_call (codeAny_call_builtin PySem.F.excAttr_ValueError.ga.plain PySem.F.entry_bexc_ga ?_)
  refine @check_slot (model prog w) _ _ ⟨hp, g, d, t + 1, os⟩ "BaseException.__getattribute__" "BaseException" "__getattribute__" (.ref x) [.str "__class__" t] [] _ (by decide +kernel) (by decide +kernel) sub (PySem.F.args_bexc_ga (.ref x) (.str "__class__" t)) ?_
  unfold Builtin.«object.__getattribute__»
  refine wpAny_bind (wpAny_of_eq (a := ((Value.ref x : Value), [Value.str "__class__" t])) (by first | rfl | (simp only [slotArgs]; rfl)) ?_)
  refine wpAny_bind (wpAny_pure (wpAny_bind (L0.at (wpAny_bind (L3.at ?_)))))
  show wpAny _ _ (holding [Value.builtin "object.__class__"] (call (.builtin "getset_descriptor.__get__") [.builtin "object.__class__", .ref x, .ref D]) >>= ret) _ _ _
  refine wpAny_bind (wpAny_holding (wpAny_call (class_get (s := ⟨hp, g, d, t + 1, os⟩) (ox := ox) (od := od) X I C.hm (wpAny_pure ?_))))
  show wpAny _ _ (handedOut (.ref D)) _ _ _
  rw [handedOut_of (v := .ref D) rfl]
  first
    | exact wpAny_pure (wpAny_pure h)
    | exact wpAny_pure h
    | exact wpAny_pure (wpAny_bind (wpAny_pure (wpAny_pure h)))
theorem nf_kitx (C : L2.ExcC K D) : KitX K (.ref x) (.ref D) (fun h => ∃ od, InstAt h x ox D od) where
  ty := fun _ _ _ ⟨_, I⟩ => I.type
  it := fun _ _ X _ => by
    obtain ⟨cdD, hcD, _⟩ := any_some C.hd
    unfold clsIn at hcD
    split at hcD
    · rename_i c' d' cd' sl' ho
      intro A' Q' E' s' k q
      unfold isType loadHead
      exact wpAny_bind (wpAny_loadPart (k _ _ (X _ _ ho)) (wpAny_pure q))
    · cases hcD
  ne := fun h tp dd its n sl X htp => by
    obtain ⟨cdD, hcD, _⟩ := any_some C.hd
    refine Bool.eq_false_iff.mpr fun q => ?_
    obtain rfl : D = tp := Value.ref.inj (beq_iff_eq.mp q)
    unfold clsIn at hcD
    split at hcD
    · rename_i c' d' cd' sl' ho
      cases (X _ _ ho).symm.trans htp
    · cases hcD
  ca := fun X ⟨_, I⟩ k => nf_class C X I k
end
end PySem.W
namespace NF
open PySem PySem.Spec PyProof.Rows L2

/-- what an object of the suite is -/
theorem inst_of {X : Cx} {a D dd : Addr} {oe : Obj} {pn pins : List (Addr × Obj)} {σ : L2.St} {H : Hp} {s : Shared} {fs : List (Str × V)} (I : Inv (X.suite a ((a, oe) :: pn)) pins σ H s) (hz : L2N.Zn (.ref D) (some dd) oe) (hf : ∃ vs, oe.data = .fields vs) (ea : H dd = some (.xd fs)) :
    ∃ od, PySem.W.InstAt s.heap a oe D (some od) ∧ ∀ n, (v : V) → fs.lookup n = some v → ∃ u, PySem.W.lookIn n od = some (some u) ∧ RelV v u := by
  obtain ⟨ha, _⟩ := I.pin (a, oe) (List.mem_append_left _ List.mem_cons_self)
  obtain ⟨vs, hd⟩ := hf
  have hx : ObjOk X.prog X.w H s.heap dd (.xd fs) := I.hok dd _ ea
  obtain ⟨mA, hns, hr⟩ := hx
  obtain ⟨od, ho, hl⟩ := lookIn_ns hns
  refine ⟨od, ⟨ha, hz.1, by unfold PySem.W.notCls; rw [hd] <;> rfl, by rw [hz.2.1]; exact ho⟩, fun n v l => ?_⟩
  obtain ⟨u, hu, ru⟩ := RelO.some_of (v := v) (o := mA n) (by rw [← l]; exact hr n)
  exact ⟨u, by rw [hl, hu], ru⟩

/-- e.f of the caught exception -/
def tXfN (K : PySem.W.Frag) (a : Addr) (cls : Value) (d : Option Addr) (f : Str) (te : TE) : TE := fun σ H Q => te σ H fun x H1 => x = .ref a ∧ ∃ (D dd : Addr) (fs : List (Str × V)) (v : V), cls = .ref D ∧ ExcC K D ∧ PySem.W.findIn K (.ref D) f = some none ∧ d = some dd ∧ H1 dd = some (.xd fs) ∧ fs.lookup f = some v ∧ Q v H1
theorem pe_xfN {X : Cx} {a : Addr} {oe : Obj} {cls : Value} {d : Option Addr} {pn : List (Addr × Obj)} {e : Expr} {te : TE} {pos : Pos} {n : Str}
    (hz : L2N.Zn cls d oe) (hf : ∃ vs, oe.data = .fields vs) (he : PE (X.suite a ((a, oe) :: pn)) e te) (hb : attributeBase e n X.env (eval e X.env) = eval e X.env := by rfl) :
    PE (X.suite a ((a, oe) :: pn)) (.Attribute e n pos) (tXfN X.K a cls d n te) := by
  refine ⟨fun pins s σ H Q I h => ?_⟩
  refine attr_of hb (thn (he.run pins s σ H _ I h) fun u s1 hh => ?_)
  obtain ⟨x, H1, I1, rx, ex, D, dd, fs, v, ec, T, hno, ed, ea, l, q⟩ := hh
  subst ex
  obtain rfl : u = Value.ref a := rx
  subst ec
  subst ed
  obtain ⟨od, J, hl⟩ := inst_of I1 hz hf ea
  obtain ⟨u, hu, ru⟩ := hl n v l
  exact HandSPX.exc_get I1.kIn J T.hg T.hk T.hs (PySem.W.findObj_own T.hd hno rfl hu) (handed_of ru) ⟨v, H1, I1.tok _, ru, q⟩

/-- isinstance of it -/
def rIsX (K : PySem.W.Frag) (a : Addr) (cls : Value) (d : Option Addr) : List V → Hp → VK → Prop := fun xs H Q => ∃ (D dd : Addr) (fs : List (Str × V)) (b : Bool), cls = .ref D ∧ ExcC K D ∧ d = some dd ∧ H dd = some (.xd fs) ∧
  ((∃ (c : V) (cv : Value), xs = [.ref a, c] ∧ (∀ u, RelV c u → u = cv) ∧ PySem.W.kitOne K (.ref D) cv = some b) ∨
    (∃ (tp : Addr) (cs : List V) (cvs : List Value), xs = [.ref a, .ref tp] ∧ H tp = some (.tup cs) ∧ (∀ us, Vals cs us → us = cvs) ∧ PySem.W.kitAny K (.ref D) cvs = some b)) ∧ Q (.bl b) H
theorem call_isX {X : Cx} {a : Addr} {oe : Obj} {cls : Value} {d : Option Addr} {pn : List (Addr × Obj)} (hz : L2N.Zn cls d oe) (hf : ∃ vs, oe.data = .fields vs) : CallR (X.suite a ((a, oe) :: pn)) (.builtin "isinstance") (rIsX X.K a cls d) := by
  intro pins s σ H xs us Q I r h
  obtain ⟨D, dd, fs, b, ec, T, ed, ea, h, q⟩ := h
  subst ec
  subst ed
  obtain ⟨od, J, _⟩ := inst_of I hz hf ea
  rcases h with ⟨c, cv, rfl, hcv, e⟩ | ⟨tp, cs, cvs, rfl, et, hcv, e⟩
  · cases r with
    | cons rx rr =>
      cases rr with
      | cons rt rr =>
        cases rr
        cases rx
        have ec := hcv _ rt
        subst ec
        exact PySem.W.kia_one (PySem.W.nf_kitx (ox := oe) T) I.kIn ⟨_, J⟩ e (fun z => nomatch z) fun tk => ⟨.bl b, H, I.kept (t' := tk) fun _ _ z => z, rfl, q⟩
  · cases r with
    | cons rx rr =>
      cases rr with
      | cons rt rr =>
        cases rr
        cases rx
        cases rt
        obtain ⟨its, vi, ti, _⟩ := I.tuple (.inl (.inl et))
        obtain rfl := hcv _ vi
        obtain ⟨⟨oc, odd, oda, osl⟩, hg, h1, n, h2⟩ := ti
        dsimp only at h1 h2
        subst h1 h2
        exact PySem.W.kia_tup (PySem.W.nf_kitx (ox := oe) T) I.kIn ⟨_, J⟩ hg e (fun z => nomatch z) fun tk => ⟨.bl b, H, I.kept (t' := tk) fun _ _ z => z, rfl, q⟩
end NF

/-! What the head hands over of exception classes. -/
namespace NF
open PySem PySem.Spec PyProof.Rows PySem.W PySem.Calls L2

/-- what is asked of a raised class at C at once -/
def oexB (K : Frag) (C : Addr) : Bool := match K.lookup C with
  | some ⟨.type "type", _, .cls cd, sl⟩ => (match cd.mro, sl.toList with
    | .ref C' :: bm, [_, _, _, _, some (.builtin n), _] => C' == C && (n == "ValueError.__new__" && (!cd.hasDel && (cd.hasDict && PySem.HandSPX.refsVE bm)))
    | _, _ => false)
  | _ => false
theorem oexB_ok {K : Frag} {C : Addr} (q : oexB K C = true) : ∃ nm q N bs bm sn sub ab col dd k0 k1 k2 k3 k5, K.lookup C = some (excClassObj nm q C N bs bm true sn sub ab col dd k0 k1 k2 k3 k5 "ValueError.__new__") ∧ PySem.HandSPX.refsVE bm = true := by
  unfold oexB at q
  split at q
  · rename_i dd cd sl ho
    split at q
    · rename_i C' bm k0 k1 k2 k3 n k5 hm hs
      simp only [Bool.and_eq_true, beq_iff_eq, Bool.not_eq_true'] at q
      obtain ⟨rfl, rfl, hdel, hdd, ht⟩ := q
      obtain ⟨nm, bs, mro, ns, qn, hd, sn, sub, ab, col, del⟩ := cd
      dsimp only at hm hdel hdd
      subst hm hdel hdd
      have hsl : sl = #[k0, k1, k2, k3, some (.builtin "ValueError.__new__"), k5] := by
        obtain ⟨l⟩ := sl
        simp only at hs
        rw [hs]
      subst hsl
      exact ⟨nm, qn, ns, bs, bm, sn, sub, ab, col, dd, k0, k1, k2, k3, k5, ho, ht⟩
    · cases q
  · cases q
def xrB (K : Frag) (C D f : Addr) (fld : Str) : Bool :=
  oexB K C && (decide (findIn K (.ref C) "__setattr__" = some (some (.builtin "object.__setattr__"))) && (decide (subIn K (.ref C) (.type "BaseException") = some true) && (decide (typeIn K (.ref C) = some (.type "type")) && (keepIn K (.ref C) &&
  (excInitIn K C PySem.HandSPX.veTail "ValueError.__new__" && (decide (subIn K (.ref C) (.type "ValueError") = some true) && (decide (nsIn K cStatics "thirdparty.any" = some none) &&
  (decide (findIn K (.ref C) "__getattribute__" = some (some (.builtin "BaseException.__getattribute__"))) && (decide (findIn K (.ref C) "__getattr__" = some none) && (hasDictIn K C && (decide (findIn K (.ref C) "__class__" = some (some (.builtin "object.__class__"))) &&
  (decide (specialIn K (.builtin "object.__class__") "__get__" = some (some (.builtin "getset_descriptor.__get__"))) && (decide (takesIn K (.builtin "object.__class__") = some true) && (decide (mroIn K C (.type "object") = some true) &&
  (decide (findIn K (.ref C) fld = some none) && (decide (typeIn K (.ref f) = some (.type "function")) && ((clsIn K D).isSome && (decide (mroIn K C (.ref D) = some true) && decide (ks_superIn K C D "__init__" = some (some (.builtin "ValueError.__init__")))))))))))))))))))))
structure XRaw (P : Program) (K : Frag) (C : Addr) (fld : Str) : Prop where
  oex : OexC K C
  ini : excInitIn K C PySem.HandSPX.veTail "ValueError.__new__" = true
  sub : subIn K (.ref C) (.type "ValueError") = some true
  opq : nsIn K cStatics "thirdparty.any" = some none
  htop : (P.main.scope.names.lookup ("super" : Str)).isSome = false
  exc : ExcC K C
  nof : findIn K (.ref C) fld = some none
  fn : ∃ fI fd, findIn K (.ref C) "__init__" = some (some (.ref fI)) ∧ typeIn K (.ref fI) = some (.type "function") ∧ Binds K fd ["self", fld] [] ∧
    ∀ (mg : Str → Option Value), mg "super" = none → ∀ (w : World) (base : Heap) (CX : CXT), FnOk P w K mg base CX 1 fI fd ["self", fld] (spX K C fld)

theorem xraw_mk {P : Program} {K : Frag} {C D f cc cda : Addr} {name qual fld txt : Str} {j : Nat} {params : Arguments} {scope : Scope} {dV kV doc pm ct oc ccl cl : Value} {an od cdd cld : Option Addr}
    {osl ccs csl : Array (Option Value)} {vs : Array Value} {file : Str} {tf : Tok} {ar : Arg} {p0 p1 p2 p3 p4 p5 q0 q1 q2 q3 : Pos} {pl : Env → Sem Bool}
    (iC : findIn K (.ref C) "__init__" = some (some (.ref f)))
    (lk : K.lookup f = some ⟨oc, od, .func (ksFn name qual params [.Expr (.Call (.Attribute (.Call (.Name "super" p0) [] [] p1) "__init__" p2) [.Constant (.str txt) j p3] [] p4) p5, .Assign [.Attribute (.Name "self" q0) fld q1] (.Name fld q2) q3] scope dV kV doc pm an (.ref cda) ct cc), osl⟩)
    (hcode : K.lookup cda = some ⟨ccl, cdd, .fields vs, ccs⟩) (hcell : K.lookup cc = some ⟨cl, cld, .cell (some (.ref D)), csl⟩) (hx : xrB K C D f fld = true)
    (hcd : codeIn K (.ref cda) qual = true) (hvs : vs[2]? = some (.str file tf)) (hfile : ((P.main.file : Str) == file) = true) (htop : (P.main.scope.names.lookup ("super" : Str)).isSome = false)
    (hp : (params.posonlyargs ++ params.args).head? = some ar) (har : ar.arg = "self")
    (hns : ("self" : Str) ≠ fld) (hdb : (fld == ("__debug__" : Str)) = false)
    (s1 : scope.names.lookup ("self" : Str) = some .local) (s2 : scope.names.lookup fld = some .local) (s3 : scope.names.lookup ("super" : Str) = some .globalImplicit) (s4 : scope.names.lookup ("__class__" : Str) = some .free)
    (hnc : ∀ x ∈ scope.names, x.2 ≠ .cell) (hco : scope.isCoroutine = false) (hgen : scope.isGenerator = false) (hk : scope.kind = .function)
    (hb : ∀ us : List Value, us.length = 2 → bindArgs (ksFn name qual params [.Expr (.Call (.Attribute (.Call (.Name "super" p0) [] [] p1) "__init__" p2) [.Constant (.str txt) j p3] [] p4) p5, .Assign [.Attribute (.Name "self" q0) fld q1] (.Name fld q2) q3] scope dV kV doc pm an (.ref cda) ct cc) ⟨us, []⟩ = pure (([("self" : Str), fld] : List Str).zip us))
    (hme : ∀ env : Env, eval (.Call (.Attribute (.Call (.Name "super" p0) [] [] p1) "__init__" p2) [.Constant (.str txt) j p3] [] p4) env = (do
      let ov ← attributeBase (.Call (.Name "super" p0) [] [] p1) "__init__" env (eval (.Call (.Name "super" p0) [] [] p1) env)
      standAt p2.atName
      let (f, first) ← holding [ov] (getMethod ov "__init__" (pl env))
      callWith p4 f first (backTo p4 (starEach [.Constant (.str txt) j p3] env)) [])) : XRaw P K C fld := by
  unfold xrB at hx
  simp only [Bool.and_eq_true, decide_eq_true_eq] at hx
  obtain ⟨x1, x2, x3, x4, x5, x6, x7, x8, x9, x10, x11, x12, x13, x14, x15, x16, x17, x18, x19, x20⟩ := hx
  obtain ⟨cdD, hD⟩ := Option.isSome_iff_exists.mp x18
  have O : OexC K C := ⟨oexB_ok x1, x2, x3, x4, x5⟩
  refine ⟨O, x6, x7, x8, htop, ⟨x9, x10, x3, x11, x12, x13, x14, x15⟩, x16, f, _, iC, x17, .all hb, fun mg hs w base CX => ?_⟩
  exact fn_sup (⟨O, x6, x7, x8, hs, htop⟩ : XCls P K mg C) lk hcd hcode hvs hfile hcell hD hp har x19 x20 x16 hns hdb s1 s2 s3 s4 hnc hco hgen hk pl hme

theorem XRaw.fact {P : Program} {K : Frag} {C : Addr} {x fld : Str} {h : Heap} {mg : Str → Option Value} (R : XRaw P K C fld) (X : K.In h) (G : h.Ns mainGlobals mg) (n : nsIn K mainGlobals x = some (some (.ref C))) (hs : mg "super" = none) : XFact P K mg x fld := by
  have hm := mg_of X G n
  have e := cad_eq hm
  obtain ⟨fI, fd, a1, a2, a3, a4⟩ := R.fn
  refine ⟨⟨by rw [e]; exact hm, by rw [e]; exact R.oex.exC, by rw [e]; exact R.exc.hd, by rw [e]; exact R.oex.tyC⟩, by rw [e]; exact ⟨R.oex, R.ini, R.sub, R.opq, hs, R.htop⟩, by rw [e]; exact R.exc, by rw [e]; exact R.nof, fI, fd, by rw [e]; exact a1, a2, a3, ?_⟩
  rw [e]
  exact a4 mg hs

/-- how two classes stand: is the one's instance the other's -/
structure XPair (K : Frag) (A B : Value) (b : Bool) : Prop where
  kit : kitOne K A B = some b
  exm : exmOne K A B = some b
def xpB (K : Frag) (A B : Value) (b : Bool) : Bool := decide (kitOne K A B = some b) && decide (exmOne K A B = some b)
theorem xpair_mk {K : Frag} {A B : Value} {b : Bool} (h : xpB K A B b = true) : XPair K A B b := by
  obtain ⟨h1, h2⟩ := Bool.and_eq_true_iff.mp h
  exact ⟨of_decide_eq_true h1, of_decide_eq_true h2⟩
theorem kitAny_nil {K : Frag} {t : Value} : kitAny K t [] = some false := rfl
theorem kitAny_f {K : Frag} {t c : Value} {r : List Value} {b : Bool} (h : kitOne K t c = some false) (q : kitAny K t r = some b) : kitAny K t (c :: r) = some b := by
  unfold kitAny
  rw [h]
  exact q
theorem kitAny_t {K : Frag} {t c : Value} {r : List Value} (h : kitOne K t c = some true) : kitAny K t (c :: r) = some true := by
  unfold kitAny
  rw [h]
end NF

/-! Own exceptions whose __init__ says super().__init__('..') and nothing more: X(). -/
namespace NF
open PySem PySem.Spec PyProof.Rows PySem.W PySem.Calls L2
def spX0 (K : Frag) (C : Addr) : Sp := fun vs H Q _ => ∃ e, vs = [.ref e] ∧ H e = some (exo e C none) ∧ Q .non H
theorem fn_sup0 {CX : CXT} {P : Program} {w : World} {K : Frag} {mg : Str → Option Value} {base : Heap} {k : Nat} {C D f cc cda : Addr} {cdD : ClassData} {name qual txt : Str} {j : Nat} {params : Arguments} {scope : Scope} {dV kV doc pm ct oc ccl cl : Value} {an od cdd cld : Option Addr}
    {osl ccs csl : Array (Option Value)} {vs : Array Value} {file : Str} {tf : Tok} {ar : Arg} {p0 p1 p2 p3 p4 p5 : Pos} (T : XCls P K mg C)
    (lk : K.lookup f = some ⟨oc, od, .func (ksFn name qual params [.Expr (.Call (.Attribute (.Call (.Name "super" p0) [] [] p1) "__init__" p2) [.Constant (.str txt) j p3] [] p4) p5] scope dV kV doc pm an (.ref cda) ct cc), osl⟩)
    (hcd : codeIn K (.ref cda) qual = true) (hcode : K.lookup cda = some ⟨ccl, cdd, .fields vs, ccs⟩) (hvs : vs[2]? = some (.str file tf)) (hfile : ((P.main.file : Str) == file) = true)
    (hcell : K.lookup cc = some ⟨cl, cld, .cell (some (.ref D)), csl⟩) (hD : clsIn K D = some cdD) (hp : (params.posonlyargs ++ params.args).head? = some ar) (har : ar.arg = "self")
    (hmro : mroIn K C (.ref D) = some true) (hsi : ks_superIn K C D "__init__" = some (some (.builtin "ValueError.__init__")))
    (s1 : scope.names.lookup ("self" : Str) = some .local) (s3 : scope.names.lookup ("super" : Str) = some .globalImplicit) (s4 : scope.names.lookup ("__class__" : Str) = some .free)
    (hnc : ∀ x ∈ scope.names, x.2 ≠ .cell) (hco : scope.isCoroutine = false) (hgen : scope.isGenerator = false) (hk : scope.kind = .function) (pl : Env → Sem Bool)
    (hme : ∀ env : Env, eval (.Call (.Attribute (.Call (.Name "super" p0) [] [] p1) "__init__" p2) [.Constant (.str txt) j p3] [] p4) env = (do
      let ov ← attributeBase (.Call (.Name "super" p0) [] [] p1) "__init__" env (eval (.Call (.Name "super" p0) [] [] p1) env)
      standAt p2.atName
      let (f, first) ← holding [ov] (getMethod ov "__init__" (pl env))
      callWith p4 f first (backTo p4 (starEach [.Constant (.str txt) j p3] env)) [])) :
    FnOk P w K mg base CX (k + 1) f (ksFn name qual params [.Expr (.Call (.Attribute (.Call (.Name "super" p0) [] [] p1) "__init__" p2) [.Constant (.str txt) j p3] [] p4) p5] scope dV kV doc pm an (.ref cda) ct cc)
      ["self"] (spX0 K C) := by
  refine ⟨fun vs H Q E ⟨e, hv, _⟩ => by rw [hv]; rfl, fun A outer s H args us vs Q E hr e0 hb r hsp => ?_⟩
  obtain ⟨x, rfl, hx, hq⟩ := hsp
  obtain ⟨u0, us1, rfl, r1, r⟩ : ∃ u0 us1, us = u0 :: us1 ∧ RelV (.ref x) u0 ∧ Vals [] us1 := by cases r with | cons a b => exact ⟨_, _, rfl, a, b⟩
  cases r
  obtain rfl : u0 = Value.ref x := r1
  have KX : K.In s.heap := e0.mod.kin.keeps fun b o e => (e0.bs b o e).1
  have lim : s.heap.NoLimit := e0.mod.nolimit.keeps fun b o e => (e0.bs b o e).1
  refine ks_codeAny_call_defAt hr.depth (KX _ _ lk) rfl lim (codeRec_of KX hcd) rfl hb hnc (fun y hy => ?_) (fun h1 hns1 hk1 => ?_) hco hgen hk
  · have hy' : y = (("self" : Str), Value.ref x) := by simpa using hy
    rcases hy' with rfl
    exact s1
  obtain ⟨t0, hx0⟩ := exo_at e0.hok hx
  have hx1 := hk1 _ _ hx0
  obtain ⟨hp0, g, d, tk, os⟩ := s
  have X1 : K.In h1 := KX.keeps hk1
  have bk1 : ∀ b o, base.get? b = some o → h1.get? b = some o := fun b o e => hk1 b o (e0.bs b o e).1
  have mself : ((((["self"] : List Str).zip [Value.ref x]).reverse).lookup ("self" : Str)) = some (Value.ref x) := by
    simp [List.lookup]
  refine ks_wpAt_execs_cons (ks_wpAt_Expr_any (ks_wpAt_MethodCall (pl := pl _) ?body (hme _)) ?hi ?hsw)
  case hi =>
    unfold interactive
    show (scope.kind == ScopeKind.module && _) = false
    rw [hk]
    rfl
  case hsw => rfl
  refine ks_wpAt_super_base s3 s4 (by decide) rfl (X1 _ _ lk) rfl hp rfl (X1 _ _ hcode) rfl hvs hfile T.htop ?_
  obtain ⟨mb, hb1, hb2⟩ := e0.mod.blt
  refine ks_loadName_global hk s3 (loadGlobal_builtin (e0.mod.glob.keeps bk1) T.sup (hb1.keeps bk1) ((hb2 _ (by decide)).trans (by first | boot_by_name | rfl | kernel_rfl)) ⟨rfl, ?_⟩)
  refine wpAny_loadName_free hk s4 rfl ⟨_, X1 _ _ hcell, rfl⟩ ?_
  rw [har]
  refine wpAny_loadName_local hk s1 hns1 mself ?_
  obtain ⟨oD, hD1, hD2⟩ : ∃ oD, h1.get? D = some oD ∧ oD.data = .cls cdD := by
    unfold clsIn at hD
    split at hD
    · rename_i c d cd' sl ho
      cases hD
      exact ⟨_, X1 _ _ ho, rfl⟩
    · cases hD
  refine ks_wpAny_isType_cls hD1 hD2 ⟨rfl, ?_⟩
  refine ks_wpAny_call_super hD1 hD2 hx1 rfl (fun c e => by cases e) (looks_mroIn X1 hmro) (fun h2 e2 k2 => ?_)
  have X2 : K.In h2 := X1.keeps k2
  have hx2 := k2 _ _ hx1
  have I2 : InstAt h2 x (PySem.HandSPX.excO C t0) C none := ⟨hx2, rfl, rfl, trivial⟩
  cases hc : clsIn K C with
  | none => unfold ks_superIn at hsi; rw [hc] at hsi; cases hsi
  | some cd =>
    unfold ks_superIn at hsi
    rw [hc] at hsi
    refine kxs_getMethod kxs_ValueError e2 (looks_opaque X2 T.opq) (l₀ := cd.mro) ?_ rfl X2 hsi (I2.type.andThen (looks_subIn X2 T.sub)) (ks_ne X2 I2 hc) (by decide) ?_
    · exact fun A Q E s k q => wpAny_bind ((looks_clsIn X2 hc) A _ E s k (wpAny_pure q))
    refine kxs_callWith (i := "ValueError.__init__") (x := x) rfl ?_
    refine evalArgs_plain ?_
    show wpAny _ _ (spliced ((false, eval (.Constant (.str txt) j p3) _) :: backTo p4 (starEach [] _))) _ _ _
    refine spliced_cons (Constant_str (spliced_nil ?_))
    have k3 : ∀ b o, h2.get? b = some o → (h2.push (kxs_mw "ValueError.__init__" x)).get? b = some o := fun b o e => Heap.get?_push_of_some _ e
    have hu3 : (h2.push (kxs_mw "ValueError.__init__" x)).get? h2.objs.size = some (kxs_mw "ValueError.__init__" x) := Heap.get?_push_at rfl rfl
    refine ⟨hu3, ?_⟩
    refine call_mwVE (X2.keeps k3) T.ini hu3 (k3 _ _ hx2) (by size_fits) fun h4 t1 k4 hx4 => ?_
    have k14 : ∀ b o, b ≠ x → h1.get? b = some o → h4.get? b = some o := fun b o hb e => k4 b o hb (k3 _ _ (k2 _ _ e))
    have hn : H hp0.objs.size = none := e0.hok.fresh (Nat.le_refl _)
    have hxL : hp0.objs.size ≠ x := fun z => by rw [z, hx] at hn; cases hn
    have X4 : K.In h4 := e0.mod.kin.keeps fun b o e => k14 b o (fun z => by
      have q := (e0.bs b o e).2
      rw [z, hx] at q
      cases q) (bk1 b o e)
    show _root_.PySem.wpAt _ _ _ (execs [] _) _ _ _
    refine wpAt_of_wpAny (wpAny_execs_nil ?_)
    have k05 : ∀ b o, b ≠ x → hp0.get? b = some o → h4.get? b = some o := fun b o hb e => k14 b o hb (hk1 b o e)
    have na : ∀ {b : Addr}, H b = none → b ≠ x := fun {b} n z => by
      rw [z, hx] at n
      cases n
    have Un1 : Un (frs outer) [] H H hp0 h4 := {
      keep := fun b o q n _ _ => k05 b o (na n) q
      slot := fun b o q n _ _ => ⟨o.slots, k05 b o (na n) q⟩
      free := fun b o q n _ => n
      there := fun b o q _ => by
        by_cases hb : b = x
        · exact ⟨_, by rw [hb]; exact hx4⟩
        · exact ⟨o, k05 b o hb q⟩
      tups := fun b xs q => q
      frzs := fun b o v q => q
      tbls := fun b ps q => ⟨#[], by rw [q]; simp⟩ }
    refine ⟨.non, _, rfl, e0.bare, Un1, fun b o q => ?_, rfl, hq⟩
    by_cases hb : b = x
    · subst hb
      rw [hx] at q
      cases q
      exact exo_ok hx4
    · exact (e0.hok b o q).stay (fun c v hc z => k05 c v (by
            rcases hc with hc | hc
            · rw [hc]
              exact hb
            · exact at_ne hx hc exo_own) z)
          (fun c hc => hc) (fun c xs hc => hc)

section
variable {X : Cx}
theorem mk_end00 {pins : List (Addr × Obj)} {σ : L2.St} {H1 H2 : Hp} {hp hp2 h2 : Heap} {g1 g2 : Array GenState} {d1 d2 : Drawn} {t1 t2 : Nat} {os1 os2 : OsState} {a C : Addr} (I1 : Inv X pins σ H1 ⟨hp, g1, d1, t1, os1⟩)
    (ha : hp.objs.size ≤ a) (k : ∀ b o, hp.get? b = some o → hp2.get? b = some o) (un : Un (frs X.stack) [] (upd H1 a (exo a C none)) H2 hp2 h2) (hok : HOk X.prog X.w H2 h2) (ho : os2 = os1) (hb : AllBare g2)
    (ea : H2 a = some (exo a C none)) :
    ∃ (t0 : Addr) (G : Heap), Inv X pins σ (del H2 a) ⟨G, g2, d2, t2, os2⟩ ∧ (∀ b o, G.get? b = some o → h2.get? b = some o) ∧ G.get? a = none ∧
      h2.get? a = some ({ cls := .ref C, dict := none, data := .fields #[.ref t0, .none, .none, .none, .bool false, .none] } : Obj) ∧ (del H2 a) a = none := by
  obtain ⟨t0, hoe⟩ := exo_at hok ea
  have hn : H1 a = none := I1.hok.fresh ha
  obtain ⟨G, g1', g2'⟩ := restrict h2 fun b => decide (b ≠ a)
  have gk : ∀ b, b ≠ a → G.get? b = h2.get? b := fun b hb => g1' b (decide_eq_true hb)
  have ge : G.get? a = none := g2' a (by simp)
  have nha : ∀ {b : Addr} {o : Obj}, hp.get? b = some o → b ≠ a := fun {b o} z => Nat.ne_of_lt (Nat.lt_of_lt_of_le (Heap.lt_size z) ha)
  have up : ∀ {b : Addr}, b ≠ a → H1 b = none → upd H1 a (exo a C none) b = none := fun {b} hb n => by rw [upd_ne hb]; exact n
  have U : Un (frs X.stack) [] H1 (del H2 a) hp G := {
    keep := fun b o z n hf hx => by
      rw [gk b (nha z)]
      exact un.keep b o (k b o z) (up (nha z) n) hf hx
    slot := fun b o z n hf hx => by
      rw [gk b (nha z)]
      exact un.slot b o (k b o z) (up (nha z) n) hf hx
    free := fun b o z n hx => by
      rw [del_ne (nha z)]
      exact un.free b o (k b o z) (up (nha z) n) hx
    there := fun b o z hx => by
      rw [gk b (nha z)]
      exact un.there b o (k b o z) hx
    tups := fun b xs z => by
      rw [del_ne (ne_of_none z hn)]
      exact un.tups b xs (by rw [upd_ne (ne_of_none z hn)]; exact z)
    frzs := fun b o v z => by
      rw [del_ne (ne_of_none z hn)]
      exact un.frzs b o v (by rw [upd_ne (ne_of_none z hn)]; exact z)
    tbls := fun b ps z => by
      rw [del_ne (ne_of_none z hn)]
      exact un.tbls b ps (by rw [upd_ne (ne_of_none z hn)]; exact z) }
  have hok3 : HOk X.prog X.w (del H2 a) G := fun b o z => by
    have hba : b ≠ a := fun e => by
      rw [e, del_same] at z
      cases z
    rw [del_ne hba] at z
    have noa : ∀ {c : Addr}, H2 c = some (.own b) → c ≠ a := fun {c} hc => at_ne ea hc exo_own
    exact (hok b o z).stay (fun c v hc y => by
        have hca : c ≠ a := by
          rcases hc with hc | hc
          · rw [hc]
            exact hba
          · exact noa hc
        rw [gk c hca]
        exact y)
      (fun c hc => by rw [del_ne (noa hc)]; exact hc) (fun c xs hc => by rw [del_ne (at_ne ea hc exo_tup)]; exact hc)
  have J : Inv X pins σ (del H2 a) ⟨G, g2, d2, t2, os2⟩ := I1.call' (ch := []) ho U hok3 hb (fun b z => absurd z (by simp))
  exact ⟨t0, G, J, fun b o z => by
    have hba : b ≠ a := fun e => by
      rw [e, ge] at z
      cases z
    rw [gk b hba] at z
    exact z, ge, hoe, del_same⟩
end
structure XFact0 (P : Program) (K : Frag) (mg : Str → Option Value) (x : Str) : Prop where
  nam : XNam K mg x
  cls : XCls P K mg (cad mg x)
  exc : ExcC K (cad mg x)
  ini : ∃ fI fd, findIn K (.ref (cad mg x)) "__init__" = some (some (.ref fI)) ∧ typeIn K (.ref fI) = some (.type "function") ∧ Binds K fd ["self"] [] ∧
    ∀ (w : World) (base : Heap) (CX : CXT), FnOk P w K mg base CX 1 fI fd ["self"] (spX0 K (cad mg x))
def tMkX0 (C : Addr) : L2.St → Hp → XK → Prop := fun σ H Q => Q (.ref C) none H
theorem pmk_x0 {X : Cx} {x : Str} {p pos : Pos} (T : XFact0 X.prog X.K X.mg x) (hr : Room 2 X.A) (hg : Gl X x)
    (hdb : (x == ("__debug__" : Str)) = false := by decide) :
    L2N.PMk X (.Call (.Name x p) [] [] pos) (tMkX0 (cad X.mg x)) := by
  intro pins s σ H1 Q I1 h
  obtain ⟨fI, fd, iC, tI, hb, F1⟩ := T.ini
  have F1 := F1 X.w X.base CX0
  obtain ⟨nm, q, N, bs, bm, sn, sub, ab, col, dd, k0, k1, k2, k3, k5, hC, hbm⟩ := T.cls.oex.cls
  refine wpAny_Call_Name_kw (ld_glob I1 hg T.nam.hm ?_ hdb)
  refine PySem.W.callWith_K0 I1.kIn T.cls.oex.kC ?_
  show wpAny _ _ (call (.ref (cad X.mg x)) []) _ _ _
  obtain ⟨hp, g, dr, tk, os⟩ := s
  have hsz : hp.objs.size ≤ hp.objs.size + 1 := Nat.le_succ _
  have hn : H1 (hp.objs.size + 1) = none := I1.hok.fresh hsz
  have kk : ∀ b o, hp.get? b = some o → ((hp.push (PySem.W.kdv_tup [])).push (PySem.HandSPX.excO (cad X.mg x) hp.objs.size)).get? b = some o := fun b o e => Heap.get?_push_of_some _ (Heap.get?_push_of_some _ e)
  have hget : ((hp.push (PySem.W.kdv_tup [])).push (PySem.HandSPX.excO (cad X.mg x) hp.objs.size)).get? (hp.objs.size + 1) = some (PySem.HandSPX.excO (cad X.mg x) hp.objs.size) := by heap_get
  have I2 : Inv X pins σ (upd H1 (hp.objs.size + 1) (exo (hp.objs.size + 1) (cad X.mg x) none)) ⟨(hp.push (PySem.W.kdv_tup [])).push (PySem.HandSPX.excO (cad X.mg x) hp.objs.size), g, dr, tk, os⟩ :=
    I1.laid (t' := tk) (a := hp.objs.size + 1) (o := exo (hp.objs.size + 1) (cad X.mg x) none) (h' := (hp.push (PySem.W.kdv_tup [])).push (PySem.HandSPX.excO (cad X.mg x) hp.objs.size)) kk hsz (exo_ok hget)
  have r2 : Vals [V.ref (hp.objs.size + 1)] [Value.ref (hp.objs.size + 1)] := .cons rfl .nil
  have b2 := hb _ [Value.ref (hp.objs.size + 1)] I2.kIn rfl
  refine wpAny_call (PySem.HandSPX.call_own PySem.F.excBase_ValueError (fun Y => PySem.HandSPX.refsVE_contains Y bm hbm) (I1.kIn _ _ hC) (PySem.W.looks_findIn I1.kIn iC) (fun self => PySem.W.bind_fn I1.kIn self tI) (by size_fits)
    (codeAny_mono (F1.run _ X.stack _ _ ⟨[Value.ref (hp.objs.size + 1)], []⟩ [Value.ref (hp.objs.size + 1)] _
      (fun v2 H2 => v2 = .non ∧ H2 = upd H1 (hp.objs.size + 1) (exo (hp.objs.size + 1) (cad X.mg x) none))
      (fun _ _ _ => False) (hr.make (cad X.mg x) [] []) (I2.env0.make (cad X.mg x) [] []) b2 r2 ⟨_, rfl, upd_same, rfl, rfl⟩) fun r s' hq' => ?_))
  cases r with
  | error er => exact hq'.elim
  | ok fl =>
    cases fl with
    | ret u =>
      obtain ⟨v2, H2, os2, bare2, un2, hok2, rv, ev, eH⟩ := hq'
      subst ev
      obtain ⟨h2, g2, d2, t2, os'⟩ := s'
      have ea : H2 (hp.objs.size + 1) = some (exo (hp.objs.size + 1) (cad X.mg x) none) := by rw [eH, upd_same]
      obtain ⟨t0, G, J, kG, ge, hoe, na⟩ := mk_end00 (d2 := d2) (t2 := t2) I1 hsz kk un2 hok2 os2 bare2 ea
      have eF : del H2 (hp.objs.size + 1) = H1 := by
        funext b
        by_cases ha : b = hp.objs.size + 1
        · rw [ha, del_same, hn]
        · rw [del_ne ha, eH, upd_ne ha]
      rw [eF] at J na
      refine ⟨rv, ⟨hp.objs.size + 1, _, _, ⟨G, g2, d2, t2, os'⟩, _, .ref (cad X.mg x), none, rfl, J, kG, ge, hoe, ⟨rfl, rfl, fun vs hv => ?_⟩, rfl, rfl, na, rfl, bare2, raises_own T.cls.oex.exC T.cls.oex.tyC, h⟩⟩
      cases hv
      rfl
    | next => exact False.elim hq'
    | brk => exact False.elim hq'
    | cont => exact False.elim hq'
/-! ### what the head hands over -/
structure XRaw0 (P : Program) (K : Frag) (C : Addr) : Prop where
  oex : OexC K C
  ini : excInitIn K C PySem.HandSPX.veTail "ValueError.__new__" = true
  sub : subIn K (.ref C) (.type "ValueError") = some true
  opq : nsIn K cStatics "thirdparty.any" = some none
  htop : (P.main.scope.names.lookup ("super" : Str)).isSome = false
  exc : ExcC K C
  fn : ∃ fI fd, findIn K (.ref C) "__init__" = some (some (.ref fI)) ∧ typeIn K (.ref fI) = some (.type "function") ∧ Binds K fd ["self"] [] ∧
    ∀ (mg : Str → Option Value), mg "super" = none → ∀ (w : World) (base : Heap) (CX : CXT), FnOk P w K mg base CX 1 fI fd ["self"] (spX0 K C)
theorem xraw0_mk {P : Program} {K : Frag} {C D f cc cda : Addr} {name qual txt : Str} {j : Nat} {params : Arguments} {scope : Scope} {dV kV doc pm ct oc ccl cl : Value} {an od cdd cld : Option Addr}
    {osl ccs csl : Array (Option Value)} {vs : Array Value} {file : Str} {tf : Tok} {ar : Arg} {p0 p1 p2 p3 p4 p5 : Pos} {pl : Env → Sem Bool}
    (iC : findIn K (.ref C) "__init__" = some (some (.ref f)))
    (lk : K.lookup f = some ⟨oc, od, .func (ksFn name qual params [.Expr (.Call (.Attribute (.Call (.Name "super" p0) [] [] p1) "__init__" p2) [.Constant (.str txt) j p3] [] p4) p5] scope dV kV doc pm an (.ref cda) ct cc), osl⟩)
    (hcode : K.lookup cda = some ⟨ccl, cdd, .fields vs, ccs⟩) (hcell : K.lookup cc = some ⟨cl, cld, .cell (some (.ref D)), csl⟩) (hx : xrB K C D f "zz" = true)
    (hcd : codeIn K (.ref cda) qual = true) (hvs : vs[2]? = some (.str file tf)) (hfile : ((P.main.file : Str) == file) = true) (htop : (P.main.scope.names.lookup ("super" : Str)).isSome = false)
    (hp : (params.posonlyargs ++ params.args).head? = some ar) (har : ar.arg = "self")
    (s1 : scope.names.lookup ("self" : Str) = some .local) (s3 : scope.names.lookup ("super" : Str) = some .globalImplicit) (s4 : scope.names.lookup ("__class__" : Str) = some .free)
    (hnc : ∀ x ∈ scope.names, x.2 ≠ .cell) (hco : scope.isCoroutine = false) (hgen : scope.isGenerator = false) (hk : scope.kind = .function)
    (hb : ∀ us : List Value, us.length = 1 → bindArgs (ksFn name qual params [.Expr (.Call (.Attribute (.Call (.Name "super" p0) [] [] p1) "__init__" p2) [.Constant (.str txt) j p3] [] p4) p5] scope dV kV doc pm an (.ref cda) ct cc) ⟨us, []⟩ = pure (([("self" : Str)] : List Str).zip us))
    (hme : ∀ env : Env, eval (.Call (.Attribute (.Call (.Name "super" p0) [] [] p1) "__init__" p2) [.Constant (.str txt) j p3] [] p4) env = (do
      let ov ← attributeBase (.Call (.Name "super" p0) [] [] p1) "__init__" env (eval (.Call (.Name "super" p0) [] [] p1) env)
      standAt p2.atName
      let (f, first) ← holding [ov] (getMethod ov "__init__" (pl env))
      callWith p4 f first (backTo p4 (starEach [.Constant (.str txt) j p3] env)) [])) : XRaw0 P K C := by
  unfold xrB at hx
  simp only [Bool.and_eq_true, decide_eq_true_eq] at hx
  obtain ⟨x1, x2, x3, x4, x5, x6, x7, x8, x9, x10, x11, x12, x13, x14, x15, x16, x17, x18, x19, x20⟩ := hx
  obtain ⟨cdD, hD⟩ := Option.isSome_iff_exists.mp x18
  have O : OexC K C := ⟨oexB_ok x1, x2, x3, x4, x5⟩
  refine ⟨O, x6, x7, x8, htop, ⟨x9, x10, x3, x11, x12, x13, x14, x15⟩, f, _, iC, x17, .all hb, fun mg hs w base CX => ?_⟩
  exact fn_sup0 (⟨O, x6, x7, x8, hs, htop⟩ : XCls P K mg C) lk hcd hcode hvs hfile hcell hD hp har x19 x20 s1 s3 s4 hnc hco hgen hk pl hme
theorem XRaw0.fact {P : Program} {K : Frag} {C : Addr} {x : Str} {h : Heap} {mg : Str → Option Value} (R : XRaw0 P K C) (X : K.In h) (G : h.Ns mainGlobals mg) (n : nsIn K mainGlobals x = some (some (.ref C))) (hs : mg "super" = none) : XFact0 P K mg x := by
  have hm := mg_of X G n
  have e := cad_eq hm
  obtain ⟨fI, fd, a1, a2, a3, a4⟩ := R.fn
  refine ⟨⟨by rw [e]; exact hm, by rw [e]; exact R.oex.exC, by rw [e]; exact R.exc.hd, by rw [e]; exact R.oex.tyC⟩, by rw [e]; exact ⟨R.oex, R.ini, R.sub, R.opq, hs, R.htop⟩, by rw [e]; exact R.exc, fI, fd, by rw [e]; exact a1, a2, a3, ?_⟩
  rw [e]
  exact a4 mg hs
/-! ### isinstance of it in a suite -/
theorem inst_of0 {X : Cx} {a D : Addr} {oe : Obj} {pn pins : List (Addr × Obj)} {σ : L2.St} {H : Hp} {s : Shared} (I : Inv (X.suite a ((a, oe) :: pn)) pins σ H s) (hz : L2N.Zn (.ref D) none oe) (hf : ∃ vs, oe.data = .fields vs) :
    PySem.W.InstAt s.heap a oe D none := by
  obtain ⟨ha, _⟩ := I.pin (a, oe) (List.mem_append_left _ List.mem_cons_self)
  obtain ⟨vs, hd⟩ := hf
  exact ⟨ha, hz.1, by unfold PySem.W.notCls; rw [hd] <;> rfl, by rw [hz.2.1]; trivial⟩
def rIsX0 (K : PySem.W.Frag) (a : Addr) (cls : Value) (d : Option Addr) : List V → Hp → VK → Prop := fun xs H Q => ∃ (D : Addr) (b : Bool), cls = .ref D ∧ ExcC K D ∧ d = none ∧
  ((∃ (c : V) (cv : Value), xs = [.ref a, c] ∧ (∀ u, RelV c u → u = cv) ∧ PySem.W.kitOne K (.ref D) cv = some b) ∨
    (∃ (tp : Addr) (cs : List V) (cvs : List Value), xs = [.ref a, .ref tp] ∧ H tp = some (.tup cs) ∧ (∀ us, Vals cs us → us = cvs) ∧ PySem.W.kitAny K (.ref D) cvs = some b)) ∧ Q (.bl b) H
theorem call_isX0 {X : Cx} {a : Addr} {oe : Obj} {cls : Value} {d : Option Addr} {pn : List (Addr × Obj)} (hz : L2N.Zn cls d oe) (hf : ∃ vs, oe.data = .fields vs) : CallR (X.suite a ((a, oe) :: pn)) (.builtin "isinstance") (rIsX0 X.K a cls d) := by
  intro pins s σ H xs us Q I r h
  obtain ⟨D, b, ec, T, ed, h, q⟩ := h
  subst ec
  subst ed
  have J := inst_of0 I hz hf
  rcases h with ⟨c, cv, rfl, hcv, e⟩ | ⟨tp, cs, cvs, rfl, et, hcv, e⟩
  · cases r with
    | cons rx rr =>
      cases rr with
      | cons rt rr =>
        cases rr
        cases rx
        have ec := hcv _ rt
        subst ec
        exact PySem.W.kia_one (PySem.W.nf_kitx (ox := oe) T) I.kIn ⟨_, J⟩ e (fun z => nomatch z) fun tk => ⟨.bl b, H, I.kept (t' := tk) fun _ _ z => z, rfl, q⟩
  · cases r with
    | cons rx rr =>
      cases rr with
      | cons rt rr =>
        cases rr
        cases rx
        cases rt
        obtain ⟨its, vi, ti, _⟩ := I.tuple (.inl (.inl et))
        obtain rfl := hcv _ vi
        obtain ⟨⟨oc, odd, oda, osl⟩, hg, h1, n, h2⟩ := ti
        dsimp only at h1 h2
        subst h1 h2
        exact PySem.W.kia_tup (PySem.W.nf_kitx (ox := oe) T) I.kIn ⟨_, J⟩ hg e (fun z => nomatch z) fun tk => ⟨.bl b, H, I.kept (t' := tk) fun _ _ z => z, rfl, q⟩
end NF

/-! Own toolkit: partners of letters in a nested text. -/
namespace NF
open PySem L2 TL

section
variable {B H : Hp} {σ : L2.St} {Q : VK} {QX : XK}
theorem x_callX {sp : Sp} {dvs : List V} {W : WX} {t : TA} (q : t σ H fun vs H1 => sp (vs ++ dvs) H1 Q (fun cls d H2 => W cls d σ H2)) : tCallX sp dvs W t σ H Q := q
theorem x_mkX {C : Addr} {fld : Str} {te : TE} (h : te σ H fun v H1 => ∀ d, H1 d = none → QX (.ref C) (some d) (upd H1 d (.xd [(fld, v)]))) : tMkX C fld te σ H QX := h
theorem x_chain {r r' : R2} {ta tb tc : TE} (q : ta σ H fun x H1 => tb σ H1 fun y H2 => r x y H2 fun z H3 => ∃ k, z = .bl k ∧ (if k = true then tc σ H3 fun w' H4 => r' y w' H4 Q else Q (.bl false) H3)) : tChain r r' ta tb tc σ H Q := q
end
abbrev low (c : Nat) : Prop := 97 ≤ c ∧ c ≤ 104
/-! ### repr, and the caught exception -/
def rRepr : List V → Hp → VK → Prop := fun xs H Q => ∃ i, xs = [.int i] ∧ i.natAbs.log2 < 1920 ∧ Q (.str (toString i)) H
theorem callRepr {X : Cx} : CallR X (.builtin "repr") rRepr := SkE.call_repr_int
section
variable {P : Program} {K : PySem.W.Frag} {mg : Str → Option Value} {H : Hp} {σ : L2.St} {Q : VK} {a dd : Addr} {A fld : Str} {b : Bool}
theorem x_repr {i : Int} (h : i.natAbs.log2 < 1920) (q : Q (.str (toString i)) H) : rRepr [.int i] H Q := ⟨i, rfl, h, q⟩
theorem x_xfV {i : Nat} {v : V} (T : XFact P K mg A fld) (hσ : σ[i]? = some (some (.ref a))) (ed : H dd = some (.xd [(fld, v)])) (q : Q v H) : tXfN K a (.ref (cad mg A)) (some dd) fld (tVar i) σ H Q :=
  ⟨_, hσ, rfl, _, dd, _, v, rfl, T.exc, T.nof, rfl, ed, by simp [List.lookup], q⟩
theorem x_isXC {B : Str} {fs : List (Str × V)} (T : XFact P K mg A fld) (p : XPair K (.ref (cad mg A)) (.ref (cad mg B)) b) (ed : H dd = some (.xd fs)) (q : Q (.bl b) H) : rIsX K a (.ref (cad mg A)) (some dd) [.ref a, .ref (cad mg B)] H Q :=
  ⟨_, dd, fs, b, rfl, T.exc, rfl, ed, .inl ⟨_, _, rfl, fun u h => h, p.kit⟩, q⟩
theorem x_isXB {n : String} {fs : List (Str × V)} (T : XFact P K mg A fld) (p : XPair K (.ref (cad mg A)) (.type n) b) (ed : H dd = some (.xd fs)) (q : Q (.bl b) H) : rIsX K a (.ref (cad mg A)) (some dd) [.ref a, .ty n] H Q :=
  ⟨_, dd, fs, b, rfl, T.exc, rfl, ed, .inl ⟨_, _, rfl, fun u h => h, p.kit⟩, q⟩
theorem vals_refs {cs : List Addr} : ∀ us, Vals (cs.map V.ref) us → us = cs.map Value.ref := by
  induction cs with
  | nil => intro us h; cases h; rfl
  | cons c cs ih =>
    intro us h
    cases h with
    | cons h1 h2 =>
      rw [ih _ h2]
      exact congrArg (· :: cs.map Value.ref) h1
theorem x_isXT {tp : Addr} {fs : List (Str × V)} (cs : List Addr) (T : XFact P K mg A fld) (ht : H tp = some (.tup (cs.map V.ref))) (p : PySem.W.kitAny K (.ref (cad mg A)) (cs.map Value.ref) = some b) (ed : H dd = some (.xd fs)) (q : Q (.bl b) H) : rIsX K a (.ref (cad mg A)) (some dd) [.ref a, .ref tp] H Q :=
  ⟨_, dd, fs, b, rfl, T.exc, rfl, ed, .inr ⟨tp, _, _, rfl, ht, vals_refs, p⟩, q⟩
end
/-- how many letters until the depth d is left -/
def cl : List Nat → Nat → Nat
  | [], _ => 0
  | c :: r, d => if low c then cl r (d + 1) + 1 else match d with
    | 0 => 0
    | d + 1 => cl r d + 1
theorem cl_low {c : Nat} {r : List Nat} {d : Nat} (h : low c) : cl (c :: r) d = cl r (d + 1) + 1 := by rw [cl.eq_def]; exact if_pos h
theorem cl_up0 {c : Nat} {r : List Nat} (h : ¬ low c) : cl (c :: r) 0 = 0 := by rw [cl.eq_def]; exact if_neg h
theorem cl_up {c : Nat} {r : List Nat} {d : Nat} (h : ¬ low c) : cl (c :: r) (d + 1) = cl r d + 1 := by rw [cl.eq_def]; exact if_neg h
theorem cl_mono (r : List Nat) : ∀ d, cl r d ≤ cl r (d + 1) := by
  induction r with
  | nil => intro d; exact Nat.le_refl _
  | cons c r ih =>
    intro d
    by_cases h : low c
    · rw [cl_low h, cl_low h]
      exact Nat.succ_le_succ (ih _)
    · cases d with
      | zero => rw [cl_up0 h]; exact Nat.zero_le _
      | succ d => rw [cl_up h, cl_up h]; exact Nat.succ_le_succ (ih _)
theorem cl_mono0 (r : List Nat) (d : Nat) : cl r 0 ≤ cl r d := by
  induction d with
  | zero => exact Nat.le_refl _
  | succ d ih => exact Nat.le_trans ih (cl_mono r d)
/-- the partner of the letter at a -/
def pt (l : List Nat) (a : Nat) : Nat := a + 1 + cl (l.drop (a + 1)) 0

/-- the open places, the last one first, behind i letters -/
structure Stk (l : List Nat) (i : Nat) (ps : List Nat) : Prop where
  st : run (l.take i) [] = some (ps.map fun a => l.getD a 0)
  dep : ∀ j a, ps[j]? = some a → a < i ∧ pt l a = i + cl (l.drop i) j ∧ low (l.getD a 0) ∧ a < l.length
  all : ∀ a c, a < i → l[a]? = some c → low c → a ∈ ps ∨ pt l a < i
  srt : ps.Pairwise (· > ·)
theorem Stk.zero (l : List Nat) : Stk l 0 [] := ⟨rfl, fun j a h => by simp at h, fun a c h => absurd h (Nat.not_lt_zero _), .nil⟩
section
variable {l ps : List Nat} {i c : Nat}
theorem drop_at (hc : l[i]? = some c) : l.drop i = c :: l.drop (i + 1) := by
  obtain ⟨h, e⟩ := List.getElem?_eq_some_iff.mp hc
  rw [List.drop_eq_getElem_cons h, e]
theorem getD_at (hc : l[i]? = some c) : l.getD i 0 = c := by simp [List.getD, hc]
theorem Stk.lt (S : Stk l i ps) {a : Nat} (h : a ∈ ps) : a < i := by
  obtain ⟨j, hj⟩ := List.getElem?_of_mem h
  exact (S.dep j a hj).1
theorem Stk.push (S : Stk l i ps) (hc : l[i]? = some c) (h : low c) : Stk l (i + 1) (i :: ps) := by
  have hl := (List.getElem?_eq_some_iff.mp hc).1
  refine ⟨?_, fun j a hj => ?_, fun a d ha hd hlo => ?_, ?_⟩
  · rw [List.map_cons, getD_at hc]
    exact run_lo1 S.st hc h
  · cases j with
    | zero =>
      have e : i = a := by simpa using hj
      subst e
      exact ⟨Nat.lt_succ_self _, rfl, by rw [getD_at hc]; exact h, hl⟩
    | succ j =>
      have hj' : ps[j]? = some a := by simpa using hj
      obtain ⟨h1, h2, h3, h4⟩ := S.dep j a hj'
      refine ⟨by omega, ?_, h3, h4⟩
      rw [h2, drop_at hc, cl_low h]
      omega
  · by_cases e : a = i
    · exact .inl (by rw [e]; exact List.mem_cons_self)
    · rcases S.all a d (by omega) hd hlo with q | q
      · exact .inl (List.mem_cons_of_mem _ q)
      · exact .inr (by omega)
  · exact List.pairwise_cons.mpr ⟨fun a ha => S.lt ha, S.srt⟩
theorem Stk.pop (S : Stk l i ps) (hr : run l [] = some []) (hc : l[i]? = some c) (h : ¬ low c) : ∃ a ps', ps = a :: ps' ∧ Stk l (i + 1) ps' ∧ pt l a = i ∧ a < i ∧ c + 32 = l.getD a 0 := by
  have e1 : run l [] = (run (l.take i) []).bind (run (l.drop i)) := by
    rw [← run_append, List.take_append_drop]
  rw [S.st, drop_at hc, hr] at e1
  cases ps with
  | nil =>
    have e2 : some [] = run (c :: l.drop (i + 1)) [] := e1
    rw [run_cons, if_neg h] at e2
    cases e2
  | cons a ps' =>
    have e2 : some [] = run (c :: l.drop (i + 1)) (l.getD a 0 :: ps'.map fun a => l.getD a 0) := e1
    rw [run_cons, if_neg h] at e2
    have e3 : c + 32 = l.getD a 0 := by
      by_cases z : c + 32 = l.getD a 0
      · exact z
      · have : (if c + 32 = l.getD a 0 then run (l.drop (i + 1)) (ps'.map fun a => l.getD a 0) else none) = some [] := e2.symm
        rw [if_neg z] at this
        cases this
    have pa := S.dep 0 a rfl
    have ea : pt l a = i := by rw [pa.2.1, drop_at hc, cl_up0 h]; rfl
    refine ⟨a, ps', rfl, ⟨?_, fun j b hj => ?_, fun b d hb hd hlo => ?_, (List.pairwise_cons.mp S.srt).2⟩, ea, pa.1, e3⟩
    · exact run_up1 (st := ps'.map fun a => l.getD a 0) (by rw [e3]; exact S.st) hc h
    · obtain ⟨h1, h2, h3, h4⟩ := S.dep (j + 1) b (by simpa using hj)
      refine ⟨by omega, ?_, h3, h4⟩
      rw [h2, drop_at hc, cl_up h]
      omega
    · by_cases e : b = i
      · subst e
        rw [hc] at hd
        cases hd
        exact absurd hlo h
      · rcases S.all b d (by omega) hd hlo with q | q
        · rcases List.mem_cons.mp q with q | q
          · exact .inr (by rw [q, ea]; omega)
          · exact .inl q
        · exact .inr (by omega)
theorem Stk.done (S : Stk l i ps) (hr : run l [] = some []) (hi : l.length ≤ i) : ps = [] := by
  have e := S.st
  rw [List.take_of_length_le hi, hr] at e
  have e2 := Option.some.inj e
  exact List.map_eq_nil_iff.mp e2.symm
theorem Stk.len (S : Stk l i ps) : ps.length ≤ i := by
  have h := run_len S.st
  rw [List.length_map, List.length_take, List.length_nil] at h
  omega
theorem Stk.nodup (S : Stk l i ps) : ps.Nodup := S.srt.imp fun h => Nat.ne_of_gt h
end
theorem nst_of_flt {l : List Nat} (h : flt l 0 [] = none) : run l [] = some [] := by
  rcases flt_spec l 0 [] with ⟨st, e⟩ | ⟨_, j, e, _⟩
  · rw [flt_of_run e] at h
    by_cases z : st = []
    · rw [e, z]
    · rw [if_neg z] at h
      cases h
  · rw [h] at e
    cases e
theorem flt_of_nst {l : List Nat} (h : run l [] = some []) : flt l 0 [] = none := by rw [flt_of_run h, if_pos rfl]
end NF

/-! What the head hands over: a def with defaults, names of classes. -/
namespace NF
open PySem L2
structure HasD (K : PySem.W.Frag) (x : Str) (st : Stmt) (dvs : List V) : Prop where
  ex : ∃ (f T : Addr) (oc kV dc pm cd ct : Value) (od an : Option Addr) (sl : Array (Option Value)) (oT : Obj) (its : List Value) (n : Nat), PySem.W.nsIn K mainGlobals x = some (some (.ref f)) ∧
    K.lookup f = some ⟨oc, od, .func (PySem.W.fnOf x x (defArgs st) (defBody st) (defScope st) (.ref T) kV dc pm an cd ct), sl⟩ ∧ PySem.W.codeIn K cd x = true ∧ PySem.W.keepIn K (.ref f) = true ∧ K.lookup T = some oT ∧ oT.data = .seq its.toArray n ∧ Vals dvs its
section
variable {K : PySem.W.Frag} {x : Str} {st : Stmt} {dvs : List V} {h : Heap} {mg : Str → Option Value}
theorem hasD_mk {f T : Addr} {oc kV dc pm cd ct oc2 : Value} {od an od2 : Option Addr} {sl sl2 : Array (Option Value)} {a : Array Value} {n : Nat} (h1 : PySem.W.nsIn K mainGlobals x = some (some (.ref f)))
    (h2 : K.lookup f = some ⟨oc, od, .func (PySem.W.fnOf x x (defArgs st) (defBody st) (defScope st) (.ref T) kV dc pm an cd ct), sl⟩) (h3 : PySem.W.codeIn K cd x = true) (h4 : PySem.W.keepIn K (.ref f) = true)
    (h5 : K.lookup T = some ⟨oc2, od2, .seq a n, sl2⟩) (h6 : Vals dvs a.toList) : HasD K x st dvs :=
  ⟨f, T, oc, kV, dc, pm, cd, ct, od, an, sl, _, a.toList, n, h1, h2, h3, h4, h5, rfl, h6⟩
theorem HasD.fn (A : HasD K x st dvs) (X : K.In h) (G : h.Ns mainGlobals mg) (hd : dvs ≠ []) : FnD K mg x st dvs := by
  obtain ⟨f, T, oc, kV, dc, pm, cd, ct, od, an, sl, oT, its, n, h1, h2, h3, h4, h5, h6, h7⟩ := A.ex
  exact ⟨f, _, ⟨⟨oc, od, .ref T, kV, dc, pm, an, cd, ct, sl, rfl, h2, h3, .inr ⟨hd, T, oT, its, n, rfl, h5, h6, h7⟩, .inl rfl⟩, h4⟩, PySem.W.mg_of X G h1⟩
theorem cls_mk {c : Addr} (X : K.In h) (G : h.Ns mainGlobals mg) (n : PySem.W.nsIn K mainGlobals x = some (some (.ref c))) : mg x = some (.ref (cad mg x)) := by
  have e := PySem.W.mg_of X G n
  rw [cad_eq e]
  exact e
theorem pair_mk {A B : Str} {a c : Addr} {b : Bool} (X : K.In h) (G : h.Ns mainGlobals mg) (nA : PySem.W.nsIn K mainGlobals A = some (some (.ref a))) (nB : PySem.W.nsIn K mainGlobals B = some (some (.ref c))) (p : XPair K (.ref a) (.ref c) b) : XPair K (.ref (cad mg A)) (.ref (cad mg B)) b := by
  rw [cad_eq (PySem.W.mg_of X G nA), cad_eq (PySem.W.mg_of X G nB)]
  exact p
theorem pairT_mk {A : Str} {a : Addr} {n : String} {b : Bool} (X : K.In h) (G : h.Ns mainGlobals mg) (nA : PySem.W.nsIn K mainGlobals A = some (some (.ref a))) (p : XPair K (.ref a) (.type n) b) : XPair K (.ref (cad mg A)) (.type n) b := by
  rw [cad_eq (PySem.W.mg_of X G nA)]
  exact p
end
end NF

/-! Own classes: made by an __init__ that may raise; properties; calls within a suite; dicts; constants that are tuples. -/
namespace NF
open PySem PySem.Spec PyProof.Rows L2

/-! ### X(e) -/
structure MkX (P : Program) (w : World) (K : PySem.W.Frag) (mg : Str → Option Value) (base : Heap) (k : Nat) (x : Str) (ps : List Str) (sp : Sp) : Prop where
  ex : ∃ f fd, Mk K (cad mg x) f ∧ FnOk P w K mg base (L2N.CX P w) k f fd ps sp ∧ mg x = some (.ref (cad mg x)) ∧ Binds K fd ps []
def tMakeX (C : Addr) (sp : Sp) (W : WX) (t : TA) : TE := fun σ H Q => t σ H fun vs H1 => ∀ x dx, H1 x = none → H1 dx = none → dx ≠ x →
  sp (.ref x :: vs) (upd (upd H1 dx (.own x)) x (.ins C dx [])) (fun v H2 => v = .non ∧ Q (.ref x) H2) (fun cls d H2 => W cls d σ H2)
section
variable {X : Cx} {k : Nat} {x : Str} {ps : List Str} {sp : Sp} {p pos : Pos} {e : Expr} {es : List Expr} {t : TA} {W : WX} {f C : Addr} {fd : FuncData}
theorem run_mkx {pins : List (Addr × Obj)} {σ : L2.St} {H : Hp} {s : Shared} {Q : VK} {us : List Value} {vs : List V} (M : Mk X.K C f) (F : FnOk X.prog X.w X.K X.mg X.base (L2N.CX X.prog X.w) k f fd ps sp) (hr : Room (k + 1) X.A) (hb : Binds X.K fd ps [])
    (tk : L2N.Takes X W) (I : Inv X pins σ H s) (r : Vals vs us)
    (h : ∀ x dx, H x = none → H dx = none → dx ≠ x → sp (.ref x :: vs) (upd (upd H dx (.own x)) x (.ins C dx [])) (fun v H2 => v = .non ∧ Q (.ref x) H2) (fun cls d H2 => W cls d σ H2)) :
    wpAny (model X.prog X.w) X.A (call (.ref C) us) (EP X pins σ Q) X.xe s := by
  have hq := h (s.heap.objs.size + 1) s.heap.objs.size (I.hok.fresh (Nat.le_succ _)) (I.hok.fresh (Nat.le_refl _)) (Nat.ne_of_lt (Nat.lt_succ_self _))
  have I2 := Inv.made (C := C) I
  have r2 : Vals (V.ref (s.heap.objs.size + 1) :: vs) (Value.ref (s.heap.objs.size + 1) :: us) := .cons rfl r
  have hl : (Value.ref (s.heap.objs.size + 1) :: us ++ []).length = ps.length := by
    have e := r2.length
    rw [F.len _ _ _ _ hq] at e
    rw [List.append_nil]
    exact e.symm
  have hb2 := hb _ (Value.ref (s.heap.objs.size + 1) :: us) I2.kIn hl
  rw [List.append_nil] at hb2
  refine wpAny_call (make_map (f := f) I.kIn M.makes M.init (beq_iff_eq.mp M.fn) (codeAny_mono (F.run _ X.stack _ _ ⟨Value.ref (s.heap.objs.size + 1) :: us, []⟩ (Value.ref (s.heap.objs.size + 1) :: us) _ _ (fun cls d H2 => W cls d σ H2) (hr.make C us [])
    (I2.env0.make C us []) hb2 r2 hq) fun r s' hq' => ?_))
  cases r with
  | error e => exact L2N.passAt tk σ pins _ _ e s' I2 hq'
  | ok fl =>
    cases fl with
    | ret u =>
      obtain ⟨v, H', I3, rv, ev, q3⟩ := I2.after hq'
      subst ev
      exact ⟨rv, ⟨V.ref (s.heap.objs.size + 1), H', I3, rfl, q3⟩⟩
    | next => exact False.elim hq'
    | brk => exact False.elim hq'
    | cont => exact False.elim hq'
theorem pe_mkx {mg : Str → Option Value} (D : MkX X.prog X.w X.K mg X.base k x ps sp) (hX : X.mg = mg) (hr : Room (k + 1) X.A) (tk : L2N.Takes X W) (hg : Gl X x) (ha : PA X (e :: es) t) (hdb : (x == ("__debug__" : Str)) = false := by decide)
    (he : starEach (e :: es) X.env = (false, eval e X.env) :: starEach es X.env := by rfl) (hpl : (backTo pos (starEach es X.env)).any (·.1) = false := by rfl) : PE X (.Call (.Name x p) (e :: es) [] pos) (tMakeX (cad mg x) sp W t) := by
  subst hX
  obtain ⟨f, fd, M, F, hm, hb⟩ := D.ex
  refine ⟨fun pins s σ H Q I h => ?_⟩
  refine wpAny_Call_Name_kw (ld_glob I hg hm ?_ hdb)
  refine PySem.W.callWith_K (h₀ := X.base) I.ok.mod.kin M.kp (thn (ha.run pos pins s σ H _ I h) fun us s1 ⟨vs, H1, I1, r, q⟩ => ⟨I1.kIn, ?_⟩) he hpl
  exact run_mkx M F hr hb tk I1 r q
end
theorem x_makeX {C : Addr} {sp : Sp} {W : WX} {t : TA} {σ : L2.St} {H : Hp} {Q : VK} (q : t σ H fun vs H1 => ∀ x dx, H1 x = none → H1 dx = none → dx ≠ x →
  sp (.ref x :: vs) (upd (upd H1 dx (.own x)) x (.ins C dx [])) (fun v H2 => v = .non ∧ Q (.ref x) H2) (fun cls d H2 => W cls d σ H2)) : tMakeX C sp W t σ H Q := q

/-! ### a property that reads a field -/
structure PrX (P : Program) (w : World) (K : PySem.W.Frag) (mg : Str → Option Value) (base : Heap) (x f fld : Str) : Prop where
  ex : ∃ p g fd, Cls K (cad mg x) ∧ PropOf K (cad mg x) f p g ∧ FnOk P w K mg base CX0 1 g fd ["self"] (getSp (cad mg x) fld) ∧ Binds K fd ["self"] []
theorem pe_prx {X : Cx} {x f fld : Str} {e : Expr} {pos : Pos} {ta : TE} {mg : Str → Option Value} (D : PrX X.prog X.w X.K mg X.base x f fld) (hX : X.mg = mg) (hr : Room 2 X.A) (he : PE X e ta) (hab : attributeBase e f X.env (eval e X.env) = eval e X.env := by rfl) : PE X (.Attribute e f pos) (tProp (cad mg x) (getSp (cad mg x) fld) [] E0 ta) := by
  subst hX
  obtain ⟨p, g, fd, c, hp, F, hb⟩ := D.ex
  exact pe_prop (E := E0) he c hp F hr hb .nil pass0 hab
theorem x_propE {C : Addr} {sp : Sp} {ta : TE} {σ : L2.St} {H : Hp} {Q : VK} (q : ta σ H fun x H1 => ∃ a dx fs, x = .ref a ∧ H1 a = some (.ins C dx fs) ∧ sp (.ref a :: []) H1 Q E0) : tProp C sp [] E0 ta σ H Q := q
theorem x_getSp {C a dx : Addr} {fs : List (Str × V)} {v : V} {fld : Str} {H : Hp} {Q : VK} (ea : H a = some (.ins C dx fs)) (l : fs.lookup fld = some v) (q : Q v H) :
    ∃ a' dx fs, V.ref a = .ref a' ∧ H a' = some (.ins C dx fs) ∧ getSp C fld (.ref a' :: []) H Q E0 := ⟨a, dx, fs, rfl, ea, a, dx, fs, v, rfl, ea, l, q⟩

/-! ### calls within a suite -/
structure DefH (P : Program) (w : World) (K : PySem.W.Frag) (mg : Str → Option Value) (base : Heap) (k : Nat) (x : Str) (ps : List Str) (sp : Sp) : Prop where
  ex : ∃ f fd, L2H.FnH P w K mg base CX0 k f fd ps sp ∧ mg x = some (.ref f) ∧ PySem.W.keepIn K (.ref f) = true ∧ Binds K fd ps []
theorem DefH.mk0 {P : Program} {w : World} {K : PySem.W.Frag} {mg : Str → Option Value} {base : Heap} {x : Str} {st : Stmt} {N ps : List Str} {k : Nat} {sp : Sp} (F : Fn0 K mg x st) (S : FnScope N ps (defScope st)) (len : ∀ vs H Q E, sp vs H Q E → vs.length = ps.length)
    (hbind : ∀ (kV doc pm : Value) (an : Option Addr) (cdv ct : Value) (us : List Value), us.length = ps.length → bindArgs (PySem.W.fnOf x x (defArgs st) (defBody st) (defScope st) .none kV doc pm an cdv ct) ⟨us, []⟩ = pure (ps.zip us))
    (hbody : ∀ {f : Addr} (cdv : Value) (A : Around) (outer : List Env) (s : Shared) (H : Hp) (vs : List V) (Q : VK) (E : XK) (p : Addr × Obj), L2H.RoomH k (A.deeper (envOfC x (defScope st) s.heap.objs.size f cdv)) → sp vs H Q E →
      ∃ t, PSs (L2H.cxH CX0 P w K mg base N x (defScope st) f cdv A outer s H E p) (defBody st) t ∧ t { nx := fun _ H' => Q .non H', rt := Q } (start N vs) H) : DefH P w K mg base (k + 1) x ps sp := by
  obtain ⟨f, fd, F, hm⟩ := F
  obtain ⟨oc, od, kV, doc, pm, an, cdv, ct, osl, rfl, lk, hcd⟩ := F.ex
  exact ⟨f, _, L2H.fn_ofH lk hcd S len fun A outer s H vs Q E p hot hr hsp => hbody cdv A outer s H vs Q E p hr hsp, hm, F.kp, F.binds hbind⟩
section
variable {X : Cx} {k : Nat} {x : Str} {ps : List Str} {sp : Sp} {p pos : Pos} {e : Expr} {es : List Expr} {t : TA}
def tCallH (sp : Sp) (t : TA) : TE := fun σ H Q => t σ H fun vs H1 => sp vs H1 Q E0
theorem pe_dh (D : DefH X.prog X.w X.K X.mg X.base k x ps sp) (hr : L2H.RoomH k X.A) (hc : L2H.HotC X) (hg : Gl X x) (ha : PA X (e :: es) t) (hdb : (x == ("__debug__" : Str)) = false := by decide)
    (he : starEach (e :: es) X.env = (false, eval e X.env) :: starEach es X.env := by rfl) (hpl : (backTo pos (starEach es X.env)).any (·.1) = false := by rfl) : PE X (.Call (.Name x p) (e :: es) [] pos) (tCallH sp t) := by
  obtain ⟨f, fd, F, hm, hk, hb⟩ := D.ex
  exact L2H.pe_callH (E := fun _ => E0) F hr hc hg hm hk hb (fun _ => fun _ _ _ _ _ _ h => h.elim) ha hdb he hpl
end
theorem x_callH {sp : Sp} {t : TA} {σ : L2.St} {H : Hp} {Q : VK} (q : t σ H fun vs H1 => sp vs H1 Q E0) : tCallH sp t σ H Q := q
theorem hot_suite {X : Cx} {a : Addr} {oe : Obj} {cls : Value} {d : Option Addr} {pn : List (Addr × Obj)} (hz : L2N.Zn cls d oe) (hf : ∃ vs, oe.data = .fields vs) : L2H.HotC (X.suite a ((a, oe) :: pn)) := by
  obtain ⟨vs, e⟩ := hf
  exact ⟨(a, oe), ⟨rfl, vs, e, hz.2.2 vs e⟩, List.mem_cons_self ..⟩
theorem room_suite {X : Cx} {k : Nat} {a : Addr} {pn : List (Addr × Obj)} (hr : Room k X.A) : L2H.RoomH k (X.suite a pn).A := ⟨hr.dp, hr.un⟩

/-! ### dicts of whole numbers -/
section
variable {B H : Hp} {M R : List (Addr × HO)} {Q : VK} {σ : L2.St} {a : Addr} {Qh : Hp → Prop}
def newD (H : Hp) (Q : VK) : Prop := ∀ p, H p = none → Q (.ref p) (upd H p (.dK []))
theorem x_dnew (q : newD H Q) : tDNewK σ H Q := q
theorem x_newD (O : Own B H M R) (q : ∀ p H1, B p = none → Own B H1 M (R ++ [(p, .dK [])]) → Q (.ref p) H1) : newD H Q := fun p hp => q p _ (O.base_free hp) (O.new hp)
theorem x_setD {kvs : List (Key × V)} {i : Int} {v : V} (O : Own B H M R) (j : Nat) (hk : R[j]? = some (a, .dK kvs)) (hl : kvs.length < sizeLine) (q : ∀ H1, Own B H1 M (R.set j (a, .dK (putK kvs (Sum.inl i) v))) → Qh H1) : rSetD (.ref a) (.int i) v H Qh :=
  ⟨a, _, rfl, DPut.k (k := Sum.inl i) (O.get j hk) hl, q _ (O.put j hk _)⟩
end
def rSortedDI : List V → Hp → VK → Prop := fun xs H Q => ∃ (a : Addr) (kvs : List (Key × V)) (ks : List Int), xs = [.ref a] ∧ Rd H a (.dK kvs) ∧ kvs.map (·.1) = ks.map Sum.inl ∧ ks.length < 64 ∧
    ∀ (ys : List Int) (p : Addr), ys.Perm ks → ys.Pairwise (· ≤ ·) → H p = none → Q (.ref p) (upd H p (.lst (ys.map V.int)))
theorem callSortedDI {X : Cx} (hc : X.calm = true) : CallR X (.builtin "sorted") rSortedDI := call_sortedDI hc

/-! ### t + u -/
theorem x_catA {K : PySem.W.Frag} {H : Hp} {a b : Addr} {xs ys : List V} {Q : VK} (h1 : SqT K H a xs) (h2 : SqT K H b ys) (hz : xs.length + ys.length ≤ sizeLine)
    (q0 : xs = [] → Q (.ref b) H) (q1 : xs ≠ [] → ys = [] → Q (.ref a) H) (q2 : ∀ p, H p = none → Q (.ref p) (upd H p (.tup (xs ++ ys)))) : rCatA K (.ref a) (.ref b) H Q :=
  ⟨a, b, xs, ys, rfl, rfl, h1, h2, hz, q0, q1, fun _ _ => q2⟩
/-- a tuple that the module made -/
def KTu (K : PySem.W.Frag) (a : Addr) (xs : List V) : Prop := ∀ H, SqT K H a xs
end NF
namespace NF
open PySem L2 TL
/-! ### texts within texts; more -/
def rInStr : R2 := fun x y H Q => ∃ i j, x = .str i ∧ y = .str j ∧ Q (.bl (!(Builtin.Str.occurrences j i 0 j.length 1).isEmpty)) H
theorem opInStr {X : Cx} : OpR X (compareOp .In) rInStr := op_in_str
theorem found_no {z : Str} {c : Nat} {l : List Nat} (h : c ∉ tl z) : (!(Builtin.Str.occurrences z (mkS (c :: l)) 0 z.length 1).isEmpty) = false := by
  rw [Bool.eq_false_iff, Ne, StrLaws.found_iff]
  rintro ⟨i, hi⟩
  unfold Builtin.Str.subAt at hi
  have e := eq_of_beq hi.2
  have e2 : (z.cps.extract i (i + (mkS (c :: l)).length)).toList = c :: l := by rw [e]
  refine h ?_
  have m : c ∈ (z.cps.extract i (i + (mkS (c :: l)).length)).toList := by rw [e2]; exact List.mem_cons_self ..
  rw [Array.toList_extract] at m
  exact List.mem_of_mem_drop (List.mem_of_mem_take m)
theorem x_inStrNo {z : Str} {c : Nat} {l : List Nat} {H : Hp} {Q : VK} (h : c ∉ tl z) (q : Q (.bl false) H) : rInStr (.str (mkS (c :: l))) (.str z) H Q := ⟨_, _, rfl, rfl, by rw [found_no h]; exact q⟩
theorem x_inStr1 {z : Str} {c : Nat} {H : Hp} {Q : VK} (q : Q (.bl (decide (c ∈ tl z))) H) : rInStr (.str ⟨#[c]⟩) (.str z) H Q := ⟨_, _, rfl, rfl, by rw [StrLaws.found_one]; exact q⟩
theorem u1 {u : Nat} (h : u + 64 < cLine) : u + 1 < cLine := by omega
end NF

/-! A class's own __init__ and property as the head hands them over. -/
namespace NF
open PySem PySem.Spec PyProof.Rows L2
def sub (s : Stmt) (j : Nat) : Stmt := match s with
  | .ClassDef (body := b) .. => b.getD j (.Pass ⟨0, 0, 0, 0⟩)
  | _ => .Pass ⟨0, 0, 0, 0⟩
section
variable {P : Program} {w : World} {K : PySem.W.Frag} {mg : Str → Option Value} {base : Heap}
theorem MkX.make {x qual : Str} {st : Stmt} {N ps : List Str} {k : Nat} {sp : Sp} {f : Addr} {fd : FuncData} (hm : mg x = some (.ref (cad mg x))) (M : Mk K (cad mg x) f) (F : Fun K "__init__" qual st f fd) (S : FnScope N ps (defScope st)) (len : ∀ vs H Q E, sp vs H Q E → vs.length = ps.length)
    (hbind : ∀ (kV doc pm : Value) (an : Option Addr) (cdv ct : Value) (us : List Value), us.length = ps.length → bindArgs (PySem.W.fnOf "__init__" qual (defArgs st) (defBody st) (defScope st) .none kV doc pm an cdv ct) ⟨us, []⟩ = pure (ps.zip us))
    (hbody : ∀ {f : Addr} (cdv : Value) (A : Around) (outer : List Env) (s : Shared) (H : Hp) (vs : List V) (Q : VK) (E : XK), Room k (A.deeper (envOfC qual (defScope st) s.heap.objs.size f cdv)) → sp vs H Q E →
      L2N.Takes (cxOf (L2N.CX P w) P w K mg base N qual (defScope st) f cdv A outer s H E) (fun cls d _ H' => E cls d H') → PassesOwn (model P w) (A.deeper (envOfC qual (defScope st) s.heap.objs.size f cdv)) (envOfC qual (defScope st) s.heap.objs.size f cdv) (cxOf (L2N.CX P w) P w K mg base N qual (defScope st) f cdv A outer s H E).xe →
      ∃ t, PSs (cxOf (L2N.CX P w) P w K mg base N qual (defScope st) f cdv A outer s H E) (defBody st) t ∧ t { nx := fun _ H' => Q .non H', rt := Q } (start N vs) H) : MkX P w K mg base (k + 1) x ps sp := by
  obtain ⟨oc, od, kV, doc, pm, an, cdv, ct, osl, rfl, lk, hcd⟩ := F.ex
  exact ⟨f, _, M, fn_of lk hcd S len fun A outer s H vs Q E hr hsp => hbody cdv A outer s H vs Q E hr hsp (L2N.takes_of rfl rfl rfl rfl) (passes_of rfl), hm, F.binds hbind⟩
theorem PrX.make {x f qual fld : Str} {st : Stmt} {p g : Addr} {fd : FuncData} {p1 p2 p3 : Pos} (c : Cls K (cad mg x)) (hp : PropOf K (cad mg x) f p g) (F : Fun K f qual st g fd) (S : FnScope ["self"] ["self"] (defScope st))
    (hb : defBody st = [.Return (some (.Attribute (.Name "self" p1) fld p2)) p3]) (n : NoAttr K (cad mg x) fld)
    (hbind : ∀ (kV doc pm : Value) (an : Option Addr) (cdv ct : Value) (us : List Value), us.length = 1 → bindArgs (PySem.W.fnOf f qual (defArgs st) (defBody st) (defScope st) .none kV doc pm an cdv ct) ⟨us, []⟩ = pure ((["self"] : List Str).zip us)) : PrX P w K mg base x f fld := by
  obtain ⟨oc, od, kV, doc, pm, an, cdv, ct, osl, rfl, lk, hcd⟩ := F.ex
  exact ⟨p, g, _, c, hp, fn_getter (k := 0) lk hcd S rfl hb c n, F.binds hbind⟩
end
/-- what an own class has of its own -/
structure OCls (K : PySem.W.Frag) (C : Addr) (flds : List Str) (qi : Str) (sI : Stmt) : Prop where
  cl : Cls K C
  nf : ∀ f ∈ flds, NoAttr K C f
  ini : ∃ f fd, Mk K C f ∧ Fun K "__init__" qi sI f fd
def OPrp (K : PySem.W.Frag) (C : Addr) (f qual : Str) (st : Stmt) : Prop := ∃ p g fd, PropOf K C f p g ∧ Fun K f qual st g fd
section
variable {K : PySem.W.Frag} {H : Hp} {σ : L2.St} {D : Ends} {ta tv : TE} {f : Str}
theorem x_fldS (q : tv σ H fun y H1 => ta σ H1 fun x H2 => ∃ a C dx fs, x = .ref a ∧ H2 a = some (.ins C dx fs) ∧ Cls K C ∧ NoAttr K C f ∧ fs.length < 1000 ∧ D.nx σ (upd H2 a (.ins C dx (putF f y fs)))) : sFld K ta tv f D σ H := q
theorem x_setF {B : Hp} {M R : List (Addr × HO)} {a C dx : Addr} {fs : List (Str × V)} {y : V} (O : Own B H M R) (j : Nat) (hk : R[j]? = some (a, .ins C dx fs)) (c : Cls K C) (n : NoAttr K C f) (hl : fs.length < 1000) (q : ∀ H1, Own B H1 M (R.set j (a, .ins C dx (putF f y fs))) → D.nx σ H1) :
    ∃ a' C dx fs, V.ref a = .ref a' ∧ H a' = some (.ins C dx fs) ∧ Cls K C ∧ NoAttr K C f ∧ fs.length < 1000 ∧ D.nx σ (upd H a' (.ins C dx (putF f y fs))) :=
  ⟨a, C, dx, fs, rfl, O.get j hk, c, n, hl, q _ (O.put j hk _)⟩
end
end NF

/-! What the head hands over: own classes, properties, tuples of the module. -/
namespace NF
open PySem PySem.Spec PyProof.Rows PySem.W L2
theorem ktu_mk {K : Frag} {a : Addr} {od : Option Addr} {its : Array Value} {n : Nat} {sl : Array (Option Value)} {xs : List V} (h : K.lookup a = some ⟨.type "tuple", od, .seq its n, sl⟩) (hs : decide (its.size ≤ 1000) = true) (hv : Vals xs its.toList) : KTu K a xs :=
  fun H => .inr ⟨_, its, n, h, rfl, rfl, Nat.le_trans (of_decide_eq_true hs) (by rw [sizeLine_eq]; decide), hv⟩
def ocB (K : Frag) (C f : Addr) (flds : List Str) : Bool :=
  plainGet K C Str.empty && (hasDictIn K C && (plainOver K C && (decide (findIn K (.ref C) "__setattr__" = some (some (.builtin "object.__setattr__"))) && ((flds.all fun x => decide (findIn K (.ref C) x = some none)) &&
  (makesIn K C && (isFn K (.ref f) && (keepIn K (.ref C) && keepIn K (.ref f))))))))
theorem ocls_mk {K : Frag} {C f : Addr} {flds : List Str} {qi : Str} {sI : Stmt} {oc kV doc pm cdv ct : Value} {od an : Option Addr} {osl : Array (Option Value)} (ini : findIn K (.ref C) "__init__" = some (some (.ref f)))
    (lk : K.lookup f = some ⟨oc, od, .func (fnOf "__init__" qi (defArgs sI) (defBody sI) (defScope sI) .none kV doc pm an cdv ct), osl⟩) (cd : codeIn K cdv qi = true) (hb : ocB K C f flds = true) : OCls K C flds qi sI := by
  unfold ocB at hb
  simp only [Bool.and_eq_true, decide_eq_true_eq, List.all_eq_true] at hb
  obtain ⟨b1, b2, b3, b4, b5, b6, b7, b8, b9⟩ := hb
  exact ⟨⟨b1, b2, b3, b4⟩, b5, f, _, ⟨b6, ini, b7, b8⟩, fun_mk lk cd b9⟩
def opB (K : Frag) (p g : Addr) : Bool := decide (specialIn K (.ref p) "__get__" = some (some (.builtin "property.__get__"))) && (decide (takesIn K (.ref p) = some true) && keepIn K (.ref g))
theorem oprp_mk {K : Frag} {C p g : Addr} {f qual : Str} {st : Stmt} {oc kV doc pm cdv ct : Value} {od an : Option Addr} {osl : Array (Option Value)} {rest : List Value} (at_ : findIn K (.ref C) f = some (some (.ref p))) (rc : recIn K p "property" = some (.ref g :: rest))
    (lk : K.lookup g = some ⟨oc, od, .func (fnOf f qual (defArgs st) (defBody st) (defScope st) .none kV doc pm an cdv ct), osl⟩) (cd : codeIn K cdv qual = true) (hb : opB K p g = true) : OPrp K C f qual st := by
  unfold opB at hb
  simp only [Bool.and_eq_true, decide_eq_true_eq] at hb
  obtain ⟨b1, b2, b3⟩ := hb
  exact ⟨p, g, _, ⟨at_, b1, b2, rest, rc⟩, fun_mk lk cd b3⟩
theorem ocls_at {K : Frag} {h : Heap} {mg : Str → Option Value} {x : Str} {c : Addr} {flds : List Str} {qi : Str} {sI : Stmt} (X : K.In h) (G : h.Ns mainGlobals mg) (n : nsIn K mainGlobals x = some (some (.ref c))) (o : OCls K c flds qi sI) : OCls K (cad mg x) flds qi sI := by
  rw [cad_eq (mg_of X G n)]
  exact o
theorem prx_at {P : Program} {w : World} {K : Frag} {h : Heap} {mg : Str → Option Value} {base : Heap} {x f qual fld : Str} {c : Addr} {flds : List Str} {qi : Str} {sI st : Stmt} {p1 p2 p3 : Pos} (X : K.In h) (G : h.Ns mainGlobals mg) (n : nsIn K mainGlobals x = some (some (.ref c))) (o : OCls K c flds qi sI) (hp : OPrp K c f qual st)
    (S : FnScope ["self"] ["self"] (defScope st)) (hb : defBody st = [.Return (some (.Attribute (.Name "self" p1) fld p2)) p3]) (hf : fld ∈ flds)
    (hbind : ∀ (kV doc pm : Value) (an : Option Addr) (cdv ct : Value) (us : List Value), us.length = 1 → bindArgs (fnOf f qual (defArgs st) (defBody st) (defScope st) .none kV doc pm an cdv ct) ⟨us, []⟩ = pure ((["self"] : List Str).zip us)) : PrX P w K mg base x f fld := by
  have e := cad_eq (mg_of X G n)
  obtain ⟨p, g, fd, q1, F⟩ := hp
  exact PrX.make (by rw [e]; exact o.cl) (by rw [e]; exact q1) F S hb (by rw [e]; exact o.nf _ hf) hbind
end NF

/-! Own classes whose methods raise nothing; comprehensions over zip and stepped ranges; gcd; dicts of the module; great divisions. -/
namespace NF
open PySem PySem.Spec PyProof.Rows L2
structure MkP (P : Program) (w : World) (K : PySem.W.Frag) (mg : Str → Option Value) (base : Heap) (k : Nat) (x : Str) (ps : List Str) (sp : Sp) : Prop where
  ex : ∃ f fd, Mk K (cad mg x) f ∧ FnOk P w K mg base CX0 k f fd ps sp ∧ mg x = some (.ref (cad mg x)) ∧ Binds K fd ps []
structure DefM (P : Program) (w : World) (K : PySem.W.Frag) (mg : Str → Option Value) (base : Heap) (k : Nat) (x m : Str) (ps : List Str) (sp : Sp) : Prop where
  ex : ∃ f fd, Cls K (cad mg x) ∧ Meth K (cad mg x) m f ∧ FnOk P w K mg base CX0 k f fd ps sp ∧ Binds K fd ps []
section
variable {P : Program} {w : World} {K : PySem.W.Frag} {mg : Str → Option Value} {base : Heap}
theorem MkP.make {x qual : Str} {st : Stmt} {N ps : List Str} {k : Nat} {sp : Sp} {f : Addr} {fd : FuncData} (hm : mg x = some (.ref (cad mg x))) (M : Mk K (cad mg x) f) (F : Fun K "__init__" qual st f fd) (S : FnScope N ps (defScope st)) (len : ∀ vs H Q E, sp vs H Q E → vs.length = ps.length)
    (hbind : ∀ (kV doc pm : Value) (an : Option Addr) (cdv ct : Value) (us : List Value), us.length = ps.length → bindArgs (PySem.W.fnOf "__init__" qual (defArgs st) (defBody st) (defScope st) .none kV doc pm an cdv ct) ⟨us, []⟩ = pure (ps.zip us))
    (hbody : ∀ {f : Addr} (cdv : Value) (A : Around) (outer : List Env) (s : Shared) (H : Hp) (vs : List V) (Q : VK) (E : XK), Room k (A.deeper (envOfC qual (defScope st) s.heap.objs.size f cdv)) → sp vs H Q E →
      ∃ t, PSs (cxOf CX0 P w K mg base N qual (defScope st) f cdv A outer s H E).nox (defBody st) t ∧ t { nx := fun _ H' => Q .non H', rt := Q } (start N vs) H) : MkP P w K mg base (k + 1) x ps sp :=
  ⟨f, fd, M, F.ok S len fun cdv A outer s H vs Q E hr h => hbody cdv A outer s H vs Q E hr h, hm, F.binds hbind⟩
theorem DefM.make {x m qual : Str} {st : Stmt} {N ps : List Str} {k : Nat} {sp : Sp} {f : Addr} {fd : FuncData} (c : Cls K (cad mg x)) (M : Meth K (cad mg x) m f) (F : Fun K m qual st f fd) (S : FnScope N ps (defScope st)) (len : ∀ vs H Q E, sp vs H Q E → vs.length = ps.length)
    (hbind : ∀ (kV doc pm : Value) (an : Option Addr) (cdv ct : Value) (us : List Value), us.length = ps.length → bindArgs (PySem.W.fnOf m qual (defArgs st) (defBody st) (defScope st) .none kV doc pm an cdv ct) ⟨us, []⟩ = pure (ps.zip us))
    (hbody : ∀ {f : Addr} (cdv : Value) (A : Around) (outer : List Env) (s : Shared) (H : Hp) (vs : List V) (Q : VK) (E : XK), Room k (A.deeper (envOfC qual (defScope st) s.heap.objs.size f cdv)) → sp vs H Q E →
      ∃ t, PSs (cxOf CX0 P w K mg base N qual (defScope st) f cdv A outer s H E).nox (defBody st) t ∧ t { nx := fun _ H' => Q .non H', rt := Q } (start N vs) H) : DefM P w K mg base (k + 1) x m ps sp :=
  ⟨f, fd, c, M, F.ok S len fun cdv A outer s H vs Q E hr h => hbody cdv A outer s H vs Q E hr h, F.binds hbind⟩
end
section
variable {X : Cx} {mg : Str → Option Value} {k : Nat} {x m : Str} {ps : List Str} {sp : Sp} {p pos apos : Pos} {o e : Expr} {es : List Expr} {ta : TE} {t : TA}
theorem pe_mk0 (D : MkP X.prog X.w X.K mg X.base k x ps sp) (hX : X.mg = mg) (hr : Room (k + 1) X.A) (hg : Gl X x) (hdb : (x == ("__debug__" : Str)) = false := by decide) : PE X (.Call (.Name x p) [] [] pos) (tMake (cad mg x) sp [] E0 tNil) := by
  subst hX
  obtain ⟨f, fd, M, F, hm, hb⟩ := D.ex
  exact pe_make0 M F hr hg hm hb .nil pass0 hdb
theorem pe_mt (D : DefM X.prog X.w X.K mg X.base k x m ps sp) (hX : X.mg = mg) (hr : Room k X.A) (he : PE X o ta) (ha : PA X (e :: es) t) {pl : Sem Bool}
    (hst : starEach (e :: es) X.env = (false, eval e X.env) :: starEach es X.env := by rfl) (hpl : (backTo pos (starEach es X.env)).any (·.1) = false := by rfl)
    (ht : eval (.Call (.Attribute o m apos) (e :: es) [] pos) X.env = (do
      let ov ← eval o X.env
      standAt apos.atName
      let (f, first) ← holding [ov] (getMethod ov m pl)
      callWith pos f first (backTo pos (starEach (e :: es) X.env)) (backToKw pos (keywordEach [] X.env))) := by rfl) : PE X (.Call (.Attribute o m apos) (e :: es) [] pos) (tMeth (cad mg x) m sp [] E0 ta t) := by
  subst hX
  obtain ⟨f, fd, c, M, F, hb⟩ := D.ex
  exact pe_meth he c M F hr hb .nil pass0 ha hst hpl ht
end
theorem x_meth {C : Addr} {m : Str} {sp : Sp} {ta : TE} {t : TA} {σ : L2.St} {H : Hp} {Q : VK} (q : ta σ H fun x H1 => ∃ a dx fs, x = .ref a ∧ H1 a = some (.ins C dx fs) ∧ fs.lookup m = none ∧ t σ H1 fun vs H2 => sp (x :: (vs ++ [])) H2 Q E0) : tMeth C m sp [] E0 ta t σ H Q := by
  unfold tMeth
  exact q
theorem x_make0 {C : Addr} {sp : Sp} {t : TA} {σ : L2.St} {H : Hp} {Q : VK} (q : t σ H fun vs H1 => ∀ x dx, H1 x = none → H1 dx = none → dx ≠ x → sp (.ref x :: (vs ++ [])) (upd (upd H1 dx (.own x)) x (.ins C dx [])) (fun v H2 => v = .non ∧ Q (.ref x) H2) E0) : tMake C sp [] E0 t σ H Q := q
theorem x_fld {K : PySem.W.Frag} {ta : TE} {f : Str} {σ : L2.St} {H : Hp} {Q : VK} (q : ta σ H fun x H1 => ∃ a C dx fs v, x = .ref a ∧ H1 a = some (.ins C dx fs) ∧ Cls K C ∧ NoAttr K C f ∧ fs.lookup f = some v ∧ Q v H1) : tFld K ta f σ H Q := q
theorem x_revL {K : PySem.W.Frag} {te : TE} {σ : L2.St} {H : Hp} {Q : VK} (q : te σ H fun x H1 => ∃ a xs, x = .ref a ∧ SqL K H1 a xs ∧ ∀ p, H1 p = none → Q (.ref p) (upd H1 p (.lst xs.reverse))) : tRevL K te σ H Q := q
/-! #### comprehensions over zip, over a stepped range -/
section
variable {K : PySem.W.Frag} {B H : Hp} {M R : List (Addr × HO)} {Q : VK} {σ : L2.St} {tt : TT} {te : TE}
theorem wipe2 (σ : L2.St) (j1 j2 : Nat) (x y : Option V) : wipe (((wipe σ [j1, j2]).set j1 x).set j2 y) [j1, j2] = wipe σ [j1, j2] := by
  show (((((((σ.set j2 none).set j1 none).set j1 x).set j2 y).set j2 none).set j1 none)) = (σ.set j2 none).set j1 none
  refine List.ext_getElem? fun k => ?_
  simp only [List.getElem?_set, List.length_set]
  repeat' split
  all_goals first | rfl | (exfalso; omega) | simp_all
theorem lc_zip {a b : Addr} {xs ys : List V} {j1 j2 : Nat} (hl : xs.length = ys.length) (O : Own B H M R) (Pv : Nat → List V → List (Addr × HO) → Prop)
    (hG : ∀ i H' M' p acc, B p = none → Pv i acc M' → Own B H' M' (R ++ [(p, .lst acc)]) → SqL K H' a xs ∧ SqL K H' b ys) (h0 : Pv 0 [] M)
    (hs : ∀ (i : Nat) x y H' M' p acc, xs[i]? = some x → ys[i]? = some y → acc.length ≤ i → Pv i acc M' → Own B H' M' (R ++ [(p, .lst acc)]) →
      tt (((wipe σ [j1, j2]).set j1 (some x)).set j2 (some y)) H' fun c H3 => if c = true then te (((wipe σ [j1, j2]).set j1 (some x)).set j2 (some y)) H3 (lcEnd B R p i (Pv (i + 1))) else lcSkip B R p i (Pv (i + 1)) H3)
    (hd : ∀ p H' M' acc, B p = none → acc.length ≤ xs.length → Pv xs.length acc M' → Own B H' M' (R ++ [(p, .lst acc)]) → Q (.ref p) H') : lcR (gTup K 2 (gCons (gName j1) (gCons (gName j2) gNil))) tt te [j1, j2] σ Q (Itz K a b) H := by
  intro p hp
  refine lc_it (walk_zip (xs := xs) (ys := ys) (n := xs.length) (by omega)) (fun i H' => ∃ M' acc, acc.length ≤ i ∧ Pv i acc M' ∧ Own B H' M' (R ++ [(p, .lst acc)])) ⟨M, [], Nat.le_refl _, h0, O.new hp⟩ (fun i H' _ ⟨M', acc, _, pv, O'⟩ => hG i H' M' p acc (O.base_free hp) pv O') ?_ (fun H' ⟨M', acc, l, pv, O'⟩ => hd p H' M' acc (O.base_free hp) l pv O')
  rintro i v H' H'' hi ⟨M', acc, hl, pv, O'⟩ ⟨T, x, y, rfl, hT, rfl, hx, hy⟩
  exact ⟨T, [x, y], rfl, SqT.of upd_same, rfl, _, _, rfl, _, _, rfl, rfl, wipe2 σ j1 j2 _ _, hs i x y _ M' p acc hx hy hl pv (O'.ignore hT)⟩
theorem lc_rngC {lo c : Int} {n j : Nat} (O : Own B H M R) (Pv : Nat → List V → List (Addr × HO) → Prop) (h0 : Pv 0 [] M)
    (hs : ∀ (i : Nat) H' M' p acc, i < n → acc.length ≤ i → Pv i acc M' → Own B H' M' (R ++ [(p, .lst acc)]) →
      tt ((wipe σ [j]).set j (some (.int (lo + (i : Nat) * c)))) H' fun b H3 => if b = true then te ((wipe σ [j]).set j (some (.int (lo + (i : Nat) * c)))) H3 (lcEnd B R p i (Pv (i + 1))) else lcSkip B R p i (Pv (i + 1)) H3)
    (hd : ∀ p H' M' acc, B p = none → acc.length ≤ n → Pv n acc M' → Own B H' M' (R ++ [(p, .lst acc)]) → Q (.ref p) H') : lcR (gName j) tt te [j] σ Q (Itc lo c n) H :=
  lc_any walk_rangeC O Pv (fun _ _ _ _ _ => trivial) h0 (fun i x H' H'' M' p acc hi hl pv O' y => by
    obtain ⟨rfl, rfl⟩ := y
    exact hs i _ M' p acc hi hl pv O') hd
end
/-- a method as the head hands it over -/
def OMth (K : PySem.W.Frag) (C : Addr) (m qual : Str) (st : Stmt) : Prop := ∃ f fd, Meth K C m f ∧ Fun K m qual st f fd
theorem omth_mk {K : PySem.W.Frag} {C f : Addr} {m qual : Str} {st : Stmt} {oc kV doc pm cdv ct : Value} {od an : Option Addr} {osl : Array (Option Value)} (at_ : PySem.W.findIn K (.ref C) m = some (some (.ref f)))
    (lk : K.lookup f = some ⟨oc, od, .func (PySem.W.fnOf m qual (defArgs st) (defBody st) (defScope st) .none kV doc pm an cdv ct), osl⟩) (cd : PySem.W.codeIn K cdv qual = true) (hb : (PySem.W.isFn K (.ref f) && PySem.W.keepIn K (.ref f)) = true) : OMth K C m qual st := by
  obtain ⟨b1, b2⟩ := Bool.and_eq_true_iff.mp hb
  exact ⟨f, _, ⟨at_, b1, b2⟩, fun_mk lk cd b2⟩
theorem omth_at {K : PySem.W.Frag} {h : Heap} {mg : Str → Option Value} {x : Str} {c : Addr} {m qual : Str} {st : Stmt} (X : K.In h) (G : h.Ns mainGlobals mg) (n : PySem.W.nsIn K mainGlobals x = some (some (.ref c))) (o : OMth K c m qual st) : OMth K (cad mg x) m qual st := by
  rw [cad_eq (PySem.W.mg_of X G n)]
  exact o
def rIndexS : V → List V → Hp → VK → Prop := fun x xs H Q => ∃ a b i rest, x = .str a ∧ xs = [.str b] ∧ Builtin.Str.occurrences a b 0 a.length 1 = i :: rest ∧ Q (.int (i : Nat)) H
theorem mtIndex {X : Cx} : MtR X "str.index" rIndexS := mt_sindex
/-! #### great divisions -/
def CDivG (i j : Int) : Prop := 0 < j ∧ (j.natAbs.log2 < 9000 ∨ i.natAbs ≤ j.natAbs)
theorem noPylong_le {x y : Int} (h : x.natAbs ≤ y.natAbs) : Builtin.divisionGoesByPylong x y = false := by
  show (decide ((if y == 0 then 0 else y.natAbs.log2 / 30 + 1) > 300) && decide ((if x == 0 then 0 else x.natAbs.log2 / 30 + 1) > (if y == 0 then 0 else y.natAbs.log2 / 30 + 1) + 150)) = false
  have key : (if x == 0 then 0 else x.natAbs.log2 / 30 + 1) ≤ (if y == 0 then 0 else y.natAbs.log2 / 30 + 1) + 150 := by
    by_cases hx : (x == 0) = true
    · rw [if_pos hx]; exact Nat.zero_le _
    · rw [if_neg hx]
      have hx0 : x ≠ 0 := fun e => hx (by rw [e]; rfl)
      have hy0 : y ≠ 0 := fun e => by rw [e] at h; omega
      rw [if_neg (by simpa using hy0)]
      have hl : x.natAbs.log2 ≤ y.natAbs.log2 := by
        have h1 := Nat.log2_self_le (n := x.natAbs) (by omega)
        exact (Nat.le_log2 (by omega)).mpr (Nat.le_trans h1 h)
      omega
  rw [decide_eq_false (Nat.not_lt.mpr key), Bool.and_false]
theorem op_fdivG {X : Cx} : OpR X (binaryOp .FloorDiv) (rI CDivG fun i j => .int (i / j)) := opI fun i j _ _ _ _ _ hc q => by
  have h1 : (0 : Int) < j := hc.1
  exact floordiv_int (by omega) (by rw [Int.fdiv_eq_ediv_of_nonneg i (by omega)]; exact q) (.inl (hc.2.elim PyProof.noPylong_of_log2 noPylong_le))
/-! #### a dict of the module whose keys are texts -/
def rKd (K : PySem.W.Frag) : R2 := fun x y H Q => ∃ (d : Addr) (es : Array DictEntry) (n : Nat) (z : Str) (u0 : Value) (v0 : V), x = .ref d ∧ (∃ w : World, KDict K w d es n) ∧ y = .str z ∧ PySem.W.nsIn K d z = some (some u0) ∧ RelV v0 u0 ∧ Q v0 H
end NF

/-! Texts cut and joined, numbers as texts, f-texts, a local that is a def, data in the heap. -/
namespace NF
open PySem PySem.Spec PyProof.Rows L2
section
variable {X : Cx} {B H : Hp} {M R : List (Addr × HO)} {σ : L2.St} {Q : VK} {te : TE} {t : TA}
/-! #### str(n), int(z) -/
def rStrI : List V → Hp → VK → Prop := fun xs H Q => ∃ i, xs = [.int i] ∧ i.natAbs.log2 < 1920 ∧ Q (.str (toString i)) H
theorem callStrI : CallR X (.type "str") rStrI := call_str_int
theorem x_strI {i : Int} (h : i.natAbs.log2 < 1920) (q : Q (.str (toString i)) H) : rStrI [.int i] H Q := ⟨i, rfl, h, q⟩
def rIntS : List V → Hp → VK → Prop := fun xs H Q => ∃ a n, xs = [.str a] ∧ PySem.intText? a = some n ∧ a.length ≤ 640 ∧ Q (.int n) H
theorem callIntS : CallR X (.type "int") rIntS := call_int_str
theorem x_intS {z : Str} {n : Int} (h : PySem.intText? z = some n) (hl : z.length ≤ 640) (q : Q (.int n) H) : rIntS [.str z] H Q := ⟨z, n, rfl, h, hl, q⟩
/-! #### z.split(sep) -/
def rSplit : V → List V → Hp → VK → Prop := fun x xs H Q => ∃ a b, x = .str a ∧ xs = [.str b] ∧ (b.length == 0) = false ∧ a.length + 2 ≤ sizeLine ∧ rNewStrs (Txt.split a b) H Q
theorem mtSplit : MtR X "str.split" rSplit := mt_split
theorem x_split {a b : Str} (O : Own B H M R) (hb : (b.length == 0) = false) (ha : a.length + 2 ≤ sizeLine) (q : ∀ p H1, B p = none → Own B H1 M (R ++ [(p, .lst ((Txt.split a b).map V.str))]) → Q (.ref p) H1) : rSplit (.str a) [.str b] H Q :=
  ⟨a, b, rfl, rfl, hb, ha, fun p hp => q p _ (O.base_free hp) (O.new hp)⟩
/-! #### f-texts -/
theorem x_fmt (q : te σ H fun x H1 => (∃ y : Str, x = .str y ∧ y.length ≤ sizeLine ∧ Q (.str y) H1) ∨ ∃ i : Int, x = .int i ∧ i.natAbs.log2 < 1920 ∧ Q (.str (toString i)) H1) : tFmt te σ H Q := q
theorem x_fmS {z : Str} (h : z.length ≤ sizeLine) (q : Q (.str z) H) : (∃ y : Str, V.str z = .str y ∧ y.length ≤ sizeLine ∧ Q (.str y) H) ∨ ∃ i : Int, V.str z = .int i ∧ i.natAbs.log2 < 1920 ∧ Q (.str (toString i)) H := .inl ⟨z, rfl, h, q⟩
theorem x_js0 {acc : Str} {R : Str → Hp → Prop} (q : R acc H) : tJs [] acc σ H R := q
theorem x_jsc {acc : Str} {ts : List TE} {R : Str → Hp → Prop} (q : te σ H fun x H1 => ∃ y : Str, x = .str y ∧ (acc ++ y).length ≤ sizeLine ∧ tJs ts (acc ++ y) σ H1 R) : tJs (te :: ts) acc σ H R := q
/-! #### a local that is one of two defs -/
theorem Def.cal {P : Program} {w : World} {K : PySem.W.Frag} {mg : Str → Option Value} {base : Heap} {k : Nat} {x : Str} {ps : List Str} {sp : Sp} (D : Def P w K mg base k x ps sp) : C8.CalAt P w K mg base k (cad mg x) sp := by
  obtain ⟨f, fd, F, hm, hk, hb⟩ := D.ex
  rw [cad_eq hm]
  exact ⟨fd, ps, F, hk, hb⟩
theorem pe_cvD {mg : Str → Option Value} {i k1 k2 j : Nat} {x x1 x2 : Str} {p pos : Pos} {e : Expr} {es : List Expr} {ps1 ps2 : List Str} {sp1 sp2 : Sp} (D1 : Def X.prog X.w X.K mg X.base k1 x1 ps1 sp1) (D2 : Def X.prog X.w X.K mg X.base k2 x2 ps2 sp2) (hX : X.mg = mg) (hr : Room j X.A) (hk1 : k1 ≤ j) (hk2 : k2 ≤ j) (hN : X.N[i]? = some x) (hv : Vis X.env.scope x) (ha : PA X (e :: es) t)
    (hd : (x == ("__debug__" : Str)) = false := by decide) (hcd : (x == ("__classdict__" : Str)) = false := by decide)
    (he : starEach (e :: es) X.env = (false, eval e X.env) :: starEach es X.env := by rfl) (hpl : (backTo pos (starEach es X.env)).any (·.1) = false := by rfl) :
    PE X (.Call (.Name x p) (e :: es) [] pos) (C8.tCallV i (cad mg x1) (cad mg x2) sp1 sp2 t) := by
  subst hX
  exact C8.pe_cv D1.cal D2.cal hr hk1 hk2 hN hv ha hd hcd he hpl
theorem x_cv1 {i : Nat} {f1 f2 : Addr} {sp1 sp2 : Sp} (h : σ[i]? = some (some (.ref f1))) (q : t σ H fun vs H1 => sp1 vs H1 Q E0) : C8.tCallV i f1 f2 sp1 sp2 t σ H Q := .inl ⟨h, q⟩
theorem x_cv2 {i : Nat} {f1 f2 : Addr} {sp1 sp2 : Sp} (h : σ[i]? = some (some (.ref f2))) (q : t σ H fun vs H1 => sp2 vs H1 Q E0) : C8.tCallV i f1 f2 sp1 sp2 t σ H Q := .inr ⟨h, q⟩
/-! #### X() -/
theorem x_mkX0 {C : Addr} {Q : XK} (q : Q (.ref C) none H) : tMkX0 C σ H Q := q
end
/-! #### comprehensions over lists, tuples of tuples -/
section
variable {K : PySem.W.Frag} {B H : Hp} {M R : List (Addr × HO)} {Q : VK} {σ : L2.St} {tt : TT} {te : TE} {a : Addr} {xs : List V}
theorem wipe3 (σ : L2.St) (j1 j2 j3 : Nat) (x y z : Option V) : wipe ((((wipe σ [j1, j2, j3]).set j1 x).set j2 y).set j3 z) [j1, j2, j3] = wipe σ [j1, j2, j3] := by
  show ((((((((((σ.set j3 none).set j2 none).set j1 none).set j1 x).set j2 y).set j3 z).set j3 none).set j2 none).set j1 none)) = ((σ.set j3 none).set j2 none).set j1 none
  refine List.ext_getElem? fun k => ?_
  simp only [List.getElem?_set, List.length_set]
  repeat' split
  all_goals first | rfl | (exfalso; omega) | simp_all
/-- .. each item's parts by what Pt says of it -/
theorem lc_it2 {J : It} {n j1 j2 : Nat} {G : Hp → Prop} (W : L2.Walk J n G (YAt xs)) (O : Own B H M R) (Pv : Nat → List V → List (Addr × HO) → Prop)
    (hG : ∀ i H' M' p acc, B p = none → Pv i acc M' → Own B H' M' (R ++ [(p, .lst acc)]) → G H') (h0 : Pv 0 [] M)
    (hs : ∀ (i : Nat) v H' M' p acc, B p = none → xs[i]? = some v → acc.length ≤ i → Pv i acc M' → Own B H' M' (R ++ [(p, .lst acc)]) → ∃ T x y, v = .ref T ∧ SqT K H' T [x, y] ∧
      tt (((wipe σ [j1, j2]).set j1 (some x)).set j2 (some y)) H' fun c H3 => if c = true then te (((wipe σ [j1, j2]).set j1 (some x)).set j2 (some y)) H3 (lcEnd B R p i (Pv (i + 1))) else lcSkip B R p i (Pv (i + 1)) H3)
    (hd : ∀ p H' M' acc, B p = none → acc.length ≤ n → Pv n acc M' → Own B H' M' (R ++ [(p, .lst acc)]) → Q (.ref p) H') : lcR (gTup K 2 (gCons (gName j1) (gCons (gName j2) gNil))) tt te [j1, j2] σ Q J H := by
  intro p hp
  refine lc_it W (fun i H' => ∃ M' acc, acc.length ≤ i ∧ Pv i acc M' ∧ Own B H' M' (R ++ [(p, .lst acc)])) ⟨M, [], Nat.le_refl _, h0, O.new hp⟩ (fun i H' _ ⟨M', acc, _, pv, O'⟩ => hG i H' M' p acc (O.base_free hp) pv O') ?_ (fun H' ⟨M', acc, l, pv, O'⟩ => hd p H' M' acc (O.base_free hp) l pv O')
  rintro i v H' H'' hi ⟨M', acc, hl, pv, O'⟩ ⟨rfl, hv⟩
  obtain ⟨T, x, y, rfl, hT, q⟩ := hs i v _ M' p acc (O.base_free hp) hv hl pv O'
  exact ⟨T, [x, y], rfl, hT, rfl, _, _, rfl, _, _, rfl, rfl, wipe2 σ j1 j2 _ _, q⟩
theorem lc_it3 {J : It} {n j1 j2 j3 : Nat} {G : Hp → Prop} (W : L2.Walk J n G (YAt xs)) (O : Own B H M R) (Pv : Nat → List V → List (Addr × HO) → Prop)
    (hG : ∀ i H' M' p acc, B p = none → Pv i acc M' → Own B H' M' (R ++ [(p, .lst acc)]) → G H') (h0 : Pv 0 [] M)
    (hs : ∀ (i : Nat) v H' M' p acc, B p = none → xs[i]? = some v → acc.length ≤ i → Pv i acc M' → Own B H' M' (R ++ [(p, .lst acc)]) → ∃ T x y z, v = .ref T ∧ SqT K H' T [x, y, z] ∧
      tt ((((wipe σ [j1, j2, j3]).set j1 (some x)).set j2 (some y)).set j3 (some z)) H' fun c H3 => if c = true then te ((((wipe σ [j1, j2, j3]).set j1 (some x)).set j2 (some y)).set j3 (some z)) H3 (lcEnd B R p i (Pv (i + 1))) else lcSkip B R p i (Pv (i + 1)) H3)
    (hd : ∀ p H' M' acc, B p = none → acc.length ≤ n → Pv n acc M' → Own B H' M' (R ++ [(p, .lst acc)]) → Q (.ref p) H') : lcR (gTup K 3 (gCons (gName j1) (gCons (gName j2) (gCons (gName j3) gNil)))) tt te [j1, j2, j3] σ Q J H := by
  intro p hp
  refine lc_it W (fun i H' => ∃ M' acc, acc.length ≤ i ∧ Pv i acc M' ∧ Own B H' M' (R ++ [(p, .lst acc)])) ⟨M, [], Nat.le_refl _, h0, O.new hp⟩ (fun i H' _ ⟨M', acc, _, pv, O'⟩ => hG i H' M' p acc (O.base_free hp) pv O') ?_ (fun H' ⟨M', acc, l, pv, O'⟩ => hd p H' M' acc (O.base_free hp) l pv O')
  rintro i v H' H'' hi ⟨M', acc, hl, pv, O'⟩ ⟨rfl, hv⟩
  obtain ⟨T, x, y, z, rfl, hT, q⟩ := hs i v _ M' p acc (O.base_free hp) hv hl pv O'
  exact ⟨T, [x, y, z], rfl, hT, rfl, _, _, rfl, _, _, rfl, _, _, rfl, rfl, wipe3 σ j1 j2 j3 _ _ _, q⟩
theorem x_slA {lo hi : Option Int} (hx : H a = some (.tup xs)) (O : Own B H M R) (q1 : HT.sIx xs.length 0 lo = 0 ∧ HT.sIx xs.length xs.length hi = xs.length → Q (.ref a) H)
    (q2 : ∀ p H1, B p = none → Own B H1 M (R ++ [(p, .tup (cutV xs lo hi))]) → Q (.ref p) H1) : rSlA K (.ref a) lo hi H Q := ⟨a, xs, rfl, SqT.of hx, q1, fun _ p hp => q2 p _ (O.base_free hp) (O.new hp)⟩
end
/-! ### data in the heap -/
mutual
/-- v is the datum d, where P says what lies at an address -/
inductive Dat (P : Addr → HO → Prop) : V → PyData → Prop
  | non : Dat P .non .none
  | bl (b : Bool) : Dat P (.bl b) (.bool b)
  | int (i : Int) : Dat P (.int i) (.int i)
  | str (x : Str) : Dat P (.str x) (.str x)
  | lst {a : Addr} {xs : List V} {ds : List PyData} : P a (.lst xs) → DatAll P xs ds → Dat P (.ref a) (.list ds)
  | tup {a : Addr} {xs : List V} {ds : List PyData} : P a (.tup xs) → DatAll P xs ds → Dat P (.ref a) (.tuple ds)
inductive DatAll (P : Addr → HO → Prop) : List V → List PyData → Prop
  | nil : DatAll P [] []
  | cons {v : V} {vs : List V} {d : PyData} {ds : List PyData} : Dat P v d → DatAll P vs ds → DatAll P (v :: vs) (d :: ds)
end
abbrev inH (H : Hp) : Addr → HO → Prop := fun a o => H a = some o
abbrev inT (T : List (Addr × HO)) : Addr → HO → Prop := fun a o => (a, o) ∈ T
mutual
theorem Dat.mono {P P' : Addr → HO → Prop} (h : ∀ a o, P a o → P' a o) : ∀ (d : PyData) (v : V), Dat P v d → Dat P' v d
  | .none, _, x => by cases x; exact .non
  | .bool b, _, x => by cases x; exact .bl b
  | .int i, _, x => by cases x; exact .int i
  | .str s, _, x => by cases x; exact .str s
  | .list ds, _, x => by
    cases x with
    | lst a r => exact .lst (h _ _ a) (DatAll.mono h ds _ r)
  | .tuple ds, _, x => by
    cases x with
    | tup a r => exact .tup (h _ _ a) (DatAll.mono h ds _ r)
  | .dict _, _, x => by cases x
theorem DatAll.mono {P P' : Addr → HO → Prop} (h : ∀ a o, P a o → P' a o) : ∀ (ds : List PyData) (vs : List V), DatAll P vs ds → DatAll P' vs ds
  | [], _, x => by cases x; exact .nil
  | d :: ds, _, x => by
    cases x with
    | cons a r => exact .cons (Dat.mono h d _ a) (DatAll.mono h ds _ r)
end
mutual
theorem Dat.dp {K : PySem.W.Frag} {H : Hp} : ∀ (d : PyData) (v : V), Dat (inH H) v d → Dp K H v d
  | .none, _, x => by cases x; exact .non
  | .bool b, _, x => by cases x; exact .bl b
  | .int i, _, x => by cases x; exact .int i
  | .str s, _, x => by cases x; exact .str s
  | .list ds, _, x => by
    cases x with
    | lst a r => exact .lst (SqL.of a) (DatAll.dp ds _ r)
  | .tuple ds, _, x => by
    cases x with
    | tup a r => exact .tup (SqT.of a) (DatAll.dp ds _ r)
  | .dict _, _, x => by cases x
theorem DatAll.dp {K : PySem.W.Frag} {H : Hp} : ∀ (ds : List PyData) (vs : List V), DatAll (inH H) vs ds → DpAll K H vs ds
  | [], _, x => by cases x; exact .nil
  | d :: ds, _, x => by
    cases x with
    | cons a r => exact .cons (Dat.dp d _ a) (DatAll.dp ds _ r)
end
theorem DatAll.len {P : Addr → HO → Prop} : ∀ {ds : List PyData} {vs : List V}, DatAll P vs ds → vs.length = ds.length
  | [], _, x => by cases x; rfl
  | d :: ds, _, x => by
    cases x with
    | cons a r => rw [List.length_cons, List.length_cons, r.len]
theorem DatAll.at {P : Addr → HO → Prop} : ∀ {ds : List PyData} {vs : List V}, DatAll P vs ds → ∀ {i : Nat} {d : PyData}, ds[i]? = some d → ∃ v, vs[i]? = some v ∧ Dat P v d
  | [], _, x, i, d, h => by simp at h
  | d0 :: ds, _, x, i, d, h => by
    cases x with
    | cons a r =>
      cases i with
      | zero => cases h; exact ⟨_, rfl, a⟩
      | succ i => exact r.at (i := i) (by simpa using h)
theorem DatAll.snoc {P : Addr → HO → Prop} : ∀ {ds : List PyData} {vs : List V}, DatAll P vs ds → ∀ {v : V} {d : PyData}, Dat P v d → DatAll P (vs ++ [v]) (ds ++ [d])
  | [], _, x, v, d, h => by cases x; exact .cons h .nil
  | d0 :: ds, _, x, v, d, h => by
    cases x with
    | cons a r => exact .cons a (r.snoc h)
theorem DatAll.app {P : Addr → HO → Prop} : ∀ {ds es : List PyData} {vs us : List V}, DatAll P vs ds → DatAll P us es → DatAll P (vs ++ us) (ds ++ es)
  | [], _, _, _, x, y => by cases x; exact y
  | d0 :: ds, _, _, _, x, y => by
    cases x with
    | cons a r => exact .cons a (r.app y)
theorem DatAll.take {P : Addr → HO → Prop} : ∀ {ds : List PyData} {vs : List V}, DatAll P vs ds → ∀ n, DatAll P (vs.take n) (ds.take n)
  | [], _, x, n => by cases x; rw [List.take_nil, List.take_nil]; exact .nil
  | d0 :: ds, _, x, n => by
    cases x with
    | cons a r =>
      cases n with
      | zero => exact .nil
      | succ n => exact .cons a (r.take n)
theorem DatAll.ints {P : Addr → HO → Prop} : ∀ ns : List Int, DatAll P (ns.map V.int) (ns.map PyData.int)
  | [] => .nil
  | n :: ns => .cons (.int n) (DatAll.ints ns)
theorem DatAll.strs {P : Addr → HO → Prop} : ∀ ns : List Str, DatAll P (ns.map V.str) (ns.map PyData.str)
  | [] => .nil
  | n :: ns => .cons (.str n) (DatAll.strs ns)
theorem datInts {P : Addr → HO → Prop} : ∀ {ns : List Int} {vs : List V}, DatAll P vs (ns.map PyData.int) → vs = ns.map V.int
  | [], _, x => by cases x; rfl
  | n :: ns, _, x => by
    cases x with
    | cons a r => cases a; rw [datInts r]; rfl
theorem datStrs {P : Addr → HO → Prop} : ∀ {ns : List Str} {vs : List V}, DatAll P vs (ns.map PyData.str) → vs = ns.map V.str
  | [], _, x => by cases x; rfl
  | n :: ns, _, x => by
    cases x with
    | cons a r => cases a; rw [datStrs r]; rfl
end NF

namespace NF
open PySem L2 TL
/-! promises and steps that more than one law uses -/
abbrev nV (n : Nat) : V := .int n
def fv : Option Nat → V
  | none => .non
  | some n => .int (n : Int)
theorem tl_at {z : Str} {i c : Nat} (h : z.cps[i]? = some c) : (tl z)[i]? = some c := by rw [Array.getElem?_toList]; exact h
abbrev fI (x : Str) (i : Int) : List (Str × V) := [(x, .int i)]
def spN (n : Nat) (pre : List V → Prop) (post : List V → V → List (Addr × HO) → Prop) : Sp := fun vs H Q _ => vs.length = n ∧ pre vs ∧ ∀ v H' N, (∀ x ∈ N, H x.1 = none) → Own H H' [] N → post vs v N → Q v H'
theorem hl_spN {n : Nat} {pre : List V → Prop} {post : List V → V → List (Addr × HO) → Prop} : ∀ vs H Q E, spN n pre post vs H Q E → vs.length = n := fun vs H Q E h => h.1
theorem use_spN {B H : Hp} {M R : List (Addr × HO)} {n : Nat} {pre : List V → Prop} {post : List V → V → List (Addr × HO) → Prop} {vs : List V} {Q : VK} {E : XK} (O : Own B H M R) (hl : vs.length = n) (hp : pre vs)
    (q : ∀ v H' N, (∀ x ∈ N, B x.1 = none) → Own B H' M (R ++ N) → post vs v N → Q v H') : spN n pre post vs H Q E :=
  ⟨hl, hp, fun v H' N hn O' h => q v H' N (fun x hx => O.base_free (hn x hx)) (O.callN O' hn) h⟩
def spNX (mg : Str → Option Value) (n : Nat) (pre : List V → Prop) (post : List V → V → List (Addr × HO) → Prop) (exc : ExS) : Sp := fun vs H Q E => vs.length = n ∧ pre vs ∧ (∀ v H' N, (∀ x ∈ N, H x.1 = none) → Own H H' [] N → post vs v N → Q v H') ∧
  ∀ x fs d H', Own H H' [] [] → exc vs x fs → H d = none → H' d = some (.xd fs) → E (.ref (cad mg x)) (some d) H'
theorem hl_spNX {mg : Str → Option Value} {n : Nat} {pre : List V → Prop} {post : List V → V → List (Addr × HO) → Prop} {exc : ExS} : ∀ vs H Q E, spNX mg n pre post exc vs H Q E → vs.length = n := fun vs H Q E h => h.1
theorem use_spNX {mg : Str → Option Value} {B H : Hp} {M R : List (Addr × HO)} {n : Nat} {pre : List V → Prop} {post : List V → V → List (Addr × HO) → Prop} {exc : ExS} {vs : List V} {Q : VK} {E : XK} (O : Own B H M R) (hl : vs.length = n) (hp : pre vs)
    (q : ∀ v H' N, (∀ x ∈ N, B x.1 = none) → Own B H' M (R ++ N) → post vs v N → Q v H') (e : ∀ x fs d H', Own B H' M R → exc vs x fs → B d = none → H' d = some (.xd fs) → E (.ref (cad mg x)) (some d) H') : spNX mg n pre post exc vs H Q E :=
  ⟨hl, hp, fun v H' N hn O' h => q v H' N (fun x hx => O.base_free (hn x hx)) (O.callN O' hn) h, fun x fs d H' O' h h1 h2 => e x fs d H' (O.call0 O') h (O.base_free h1) h2⟩
theorem Own.mem {B H : Hp} {M R : List (Addr × HO)} {x : Addr × HO} (O : Own B H M R) (h : x ∈ R) : H x.1 = some x.2 := O.at_ x (List.mem_append_right _ h)
theorem Own.front {B H : Hp} {M R N : List (Addr × HO)} (O : Own B H M (R ++ N)) (hn : ∀ x ∈ N, B x.1 = none) : Own B H M R := (O.perm List.perm_append_comm).dropTo hn
theorem Own.track {B H : Hp} {d : Addr} {o : HO} (O : Own B H [] []) (hd : H d = some o) : Own B H [] [(d, o)] :=
  ⟨by simp, fun x hx => by
    have e : x = (d, o) := by simpa using hx
    rw [e]
    exact hd, fun b hb u e => O.out b (by simp) u e⟩
theorem Own.shift {B H : Hp} {M R : List (Addr × HO)} {x : Addr × HO} (O : Own B H M (R ++ [x])) : Own B H (M ++ [x]) R := by
  have e : (M ++ (R ++ [x])).Perm (M ++ [x] ++ R) := by
    rw [List.append_assoc]
    exact List.Perm.append_left M List.perm_append_comm
  exact ⟨(e.map Prod.fst).nodup_iff.mp O.nd, fun y hy => O.at_ y (e.mem_iff.mpr hy), fun b hb o q => O.out b (fun z => hb ((e.map Prod.fst).mem_iff.mp z)) o q⟩
theorem Own.toOpen {B H : Hp} {M R R' : List (Addr × HO)} (O : Own B H M R) (e : (M ++ R).Perm R') : Own B H [] R' := by
  have e : (M ++ R).Perm ([] ++ R') := e
  exact ⟨(e.map Prod.fst).nodup_iff.mp O.nd, fun y hy => O.at_ y (e.mem_iff.mpr hy), fun b hb o q => O.out b (fun z => hb ((e.map Prod.fst).mem_iff.mp z)) o q⟩
theorem Own.stays {B H : Hp} {p a : Addr} {o u : HO} (O : Own B H [] [(p, u)]) (hp : B p = none) (h : B a = some o) : H a = some o := by
  refine O.out a (fun q => ?_) _ h
  have e : a = p := by simpa using q
  rw [e, hp] at h
  cases h
theorem Own.staysR {B H : Hp} {R : List (Addr × HO)} {a : Addr} {o : HO} (O : Own B H [] R) (hR : ∀ x ∈ R, B x.1 = none) (h : B a = some o) : H a = some o := by
  refine O.out a (fun q => ?_) _ h
  obtain ⟨x, hx, e⟩ := List.mem_map.mp q
  have n := hR x hx
  rw [e, h] at n
  cases n
theorem lc_lst2 {K : PySem.W.Frag} {B H : Hp} {M R : List (Addr × HO)} {Q : VK} {σ : L2.St} {tt : TT} {te : TE} {j : Nat} {a : Addr} {xs : List V} (hx : SqL K H a xs) (O : Own B H M R) (Pv : Nat → List V → List (Addr × HO) → Prop)
    (hG : ∀ i H' M' p acc, B p = none → Pv i acc M' → Own B H' M' (R ++ [(p, .lst acc)]) → SqL K H' a xs) (h0 : Pv 0 [] M)
    (hs : ∀ (i : Nat) x H' M' p acc, B p = none → xs[i]? = some x → acc.length ≤ i → Pv i acc M' → Own B H' M' (R ++ [(p, .lst acc)]) →
      tt ((wipe σ [j]).set j (some x)) H' fun b H3 => if b = true then te ((wipe σ [j]).set j (some x)) H3 (lcEnd B R p i (Pv (i + 1))) else lcSkip B R p i (Pv (i + 1)) H3)
    (hd : ∀ p H' M' acc, B p = none → acc.length ≤ xs.length → Pv xs.length acc M' → Own B H' M' (R ++ [(p, .lst acc)]) → Q (.ref p) H') : jList K (.ref a) H (lcR (gName j) tt te [j] σ Q) := by
  refine ⟨a, rfl, ⟨xs, hx⟩, fun p hp => ?_⟩
  refine lc_it walk_list (fun i H' => ∃ M' acc, acc.length ≤ i ∧ Pv i acc M' ∧ Own B H' M' (R ++ [(p, .lst acc)])) ⟨M, [], Nat.le_refl _, h0, O.new hp⟩ (fun i H' _ ⟨M', acc, _, pv, O'⟩ => hG i H' M' p acc (O.base_free hp) pv O') ?_ (fun H' ⟨M', acc, l, pv, O'⟩ => hd p H' M' acc (O.base_free hp) l pv O')
  rintro i x H' H'' hi ⟨M', acc, hl, pv, O'⟩ ⟨rfl, hx⟩
  exact ⟨set_wipe σ j _, hs i x _ M' p acc (O.base_free hp) hx hl pv O'⟩
theorem lc_tup2 {K : PySem.W.Frag} {B H : Hp} {M R : List (Addr × HO)} {Q : VK} {σ : L2.St} {tt : TT} {te : TE} {j : Nat} {a : Addr} {xs : List V} (hx : SqT K H a xs) (O : Own B H M R) (Pv : Nat → List V → List (Addr × HO) → Prop)
    (hG : ∀ i H' M' p acc, B p = none → Pv i acc M' → Own B H' M' (R ++ [(p, .lst acc)]) → SqT K H' a xs) (h0 : Pv 0 [] M)
    (hs : ∀ (i : Nat) x H' M' p acc, B p = none → xs[i]? = some x → acc.length ≤ i → Pv i acc M' → Own B H' M' (R ++ [(p, .lst acc)]) →
      tt ((wipe σ [j]).set j (some x)) H' fun b H3 => if b = true then te ((wipe σ [j]).set j (some x)) H3 (lcEnd B R p i (Pv (i + 1))) else lcSkip B R p i (Pv (i + 1)) H3)
    (hd : ∀ p H' M' acc, B p = none → acc.length ≤ xs.length → Pv xs.length acc M' → Own B H' M' (R ++ [(p, .lst acc)]) → Q (.ref p) H') : jTup K (.ref a) H (lcR (gName j) tt te [j] σ Q) := by
  refine ⟨a, rfl, ⟨xs, hx⟩, fun p hp => ?_⟩
  refine lc_it walk_tup (fun i H' => ∃ M' acc, acc.length ≤ i ∧ Pv i acc M' ∧ Own B H' M' (R ++ [(p, .lst acc)])) ⟨M, [], Nat.le_refl _, h0, O.new hp⟩ (fun i H' _ ⟨M', acc, _, pv, O'⟩ => hG i H' M' p acc (O.base_free hp) pv O') ?_ (fun H' ⟨M', acc, l, pv, O'⟩ => hd p H' M' acc (O.base_free hp) l pv O')
  rintro i x H' H'' hi ⟨M', acc, hl, pv, O'⟩ ⟨rfl, hx⟩
  exact ⟨set_wipe σ j _, hs i x _ M' p acc (O.base_free hp) hx hl pv O'⟩
theorem x_rep {B H : Hp} {M R : List (Addr × HO)} {a : Addr} {xs : List V} {k : Int} {Q : VK} (O : Own B H M R) (ha : H a = some (.lst xs)) (h1 : -(2 ^ 63) ≤ k) (h2 : k < 2 ^ 63) (hz : xs.length * k.toNat ≤ sizeLine)
    (q : ∀ p H1, B p = none → Own B H1 M (R ++ [(p, .lst (List.replicate k.toNat xs).flatten)]) → Q (.ref p) H1) : rRep (.ref a) (.int k) H Q := ⟨a, k, xs, rfl, rfl, ha, h1, h2, hz, fun p hp => q p _ (O.base_free hp) (O.new hp)⟩
theorem rep_one (v : V) (n : Nat) : (List.replicate n [v]).flatten = List.replicate n v := by
  induction n with
  | zero => rfl
  | succ n ih => rw [List.replicate_succ, List.flatten_cons, ih]; rfl
theorem log_small {j : Nat} (h : j ≤ 10000000) : ((j : Int).natAbs).log2 < 1900 := by
  rw [Int.natAbs_natCast]
  by_cases z : j = 0
  · rw [z]; decide
  · have h1 : j < 2 ^ 24 := by omega
    have h2 := (Nat.log2_lt z).mpr h1
    omega
theorem tl_mul (x : Str) (n : Int) : tl (Txt.mul x n) = (List.replicate n.toNat (tl x)).flatten := by
  unfold Txt.mul
  by_cases h : n < 1
  · rw [if_pos h, show n.toNat = 0 by omega]
    rfl
  · rw [if_neg h]
    by_cases h2 : (n == 1 || x.length == 0) = true
    · rw [if_pos h2]
      simp only [Bool.or_eq_true, beq_iff_eq] at h2
      rcases h2 with h2 | h2
      · rw [h2]
        simp
      · have e : tl x = [] := List.length_eq_zero_iff.mp (by rw [← len_tl]; exact h2)
        rw [e]
        simp
    · rw [if_neg h2]
      have e : ∀ (k : Nat) (a : Array Nat), ((List.replicate k x.cps).foldl (· ++ ·) a).toList = a.toList ++ (List.replicate k x.cps.toList).flatten := by
        intro k
        induction k with
        | zero => intro a; simp
        | succ k ih => intro a; rw [List.replicate_succ, List.foldl_cons, ih, List.replicate_succ, List.flatten_cons, Array.toList_append, List.append_assoc]
      exact (e n.toNat #[]).trans (List.nil_append _)
theorem flat_one {α : Type} (c : α) (k : Nat) : (List.replicate k [c]).flatten = List.replicate k c := by
  induction k with
  | zero => rfl
  | succ k ih => rw [List.replicate_succ, List.flatten_cons, ih]; rfl
theorem flat_len {α : Type} (l : List α) (k : Nat) : (List.replicate k l).flatten.length = k * l.length := by
  induction k with
  | zero => simp
  | succ k ih => rw [List.replicate_succ, List.flatten_cons, List.length_append, ih, Nat.succ_mul]; omega
theorem tl_mul1 (c : Nat) (n : Int) : tl (Txt.mul ⟨#[c]⟩ n) = List.replicate n.toNat c := by rw [tl_mul]; exact flat_one c _
theorem len_mul1 (c : Nat) (n : Int) : (Txt.mul ⟨#[c]⟩ n).length = n.toNat := by rw [len_tl, tl_mul1, List.length_replicate]
theorem x_neDT {K : PySem.W.Frag} {H : Hp} {a b : Addr} {xs : List V} {ds : List PyData} {Q : VK} (ha : H a = some (.tup xs)) (hb : H b = some (.tup xs)) (hd : DpAll K H xs ds) (hs : SeqAt.shaped (.tuple ds) = true) (q : Q (.bl false) H) : rNeD K (.ref a) (.ref b) H Q :=
  ⟨_, _, .tup (SqT.of ha) hd, .tup (SqT.of hb) hd, hs, hs, by rw [SeqAt.eqv_refl _ (SeqAt.canLay_of_shaped hs)]; exact q⟩
theorem strOk_of (x : String) : PyData.strOk (Str.ofString x) = true := by
  unfold PyData.strOk
  rw [← Array.all_toList]
  have e : (Str.ofString x).cps.toList = tl (Str.ofString x) := rfl
  rw [e, tl_ofString, List.all_eq_true]
  intro n hn
  obtain ⟨c, _, rfl⟩ := List.mem_map.mp hn
  have v := c.valid
  refine decide_eq_true ?_
  show c.val.toNat < 1114112
  rcases v with v | ⟨_, v⟩ <;> omega
def rTupOf (K : PySem.W.Frag) : List V → Hp → VK → Prop := fun xs H Q => ∃ p ys, xs = [.ref p] ∧ ((SqL K H p ys ∧ ∀ l, H l = none → Q (.ref l) (upd H l (.tup ys))) ∨ (SqT K H p ys ∧ Q (.ref p) H))
theorem callTupleOf {X : Cx} : CallR X (.type "tuple") (rTupOf X.K) := call_tuple_of
theorem x_tupOf {B H : Hp} {M R : List (Addr × HO)} {K : PySem.W.Frag} {a : Addr} {xs : List V} {Q : VK} (O : Own B H M R) (h : H a = some (.lst xs)) (q : ∀ p H1, B p = none → Own B H1 M (R ++ [(p, .tup xs)]) → Q (.ref p) H1) : rTupOf K [.ref a] H Q :=
  ⟨a, xs, rfl, .inl ⟨SqL.of h, fun l hl => q l _ (O.base_free hl) (O.new hl)⟩⟩
theorem x_catT {K : PySem.W.Frag} {B H : Hp} {M R : List (Addr × HO)} {a b : Addr} {xs ys : List V} {Q : VK} (O : Own B H M R) (h1 : H a = some (.tup xs)) (h2 : H b = some (.tup ys)) (hx : xs ≠ []) (hy : ys ≠ []) (hz : xs.length + ys.length ≤ sizeLine)
    (q : ∀ p H1, B p = none → Own B H1 M (R ++ [(p, .tup (xs ++ ys))]) → Q (.ref p) H1) : rCatT K (.ref a) (.ref b) H Q :=
  ⟨a, b, xs, ys, rfl, rfl, .of h1, .of h2, hx, hz, fun e => absurd e hy, fun _ p hp => q p _ (O.base_free hp) (O.new hp)⟩
theorem ixN_nat {n k : Nat} (h : k < n) : ixN n (k : Int) = some k := by
  unfold ixN
  simp [h]
theorem freshA {B : Hp} {T N : List (Addr × HO)} (h1 : ∀ x ∈ T, B x.1 = none) (h2 : ∀ x ∈ N, B x.1 = none) : ∀ x ∈ T ++ N, B x.1 = none := fun x hx => (List.mem_append.mp hx).elim (h1 x) (h2 x)
theorem fresh1 {B : Hp} {p : Addr} {o : HO} (h : B p = none) : ∀ x ∈ [(p, o)], B x.1 = none := fun x hx => by rw [List.mem_singleton.mp hx]; exact h
end NF

/-! Typed models of defs (W), heaps that only grow (Fz), one step of the walk beside one step of the model (y_..). -/
namespace NF
open PySem PySem.Spec PyProof.Rows L2 TL

/-! ### heaps that grow -/
def Le (F H : Hp) : Prop := ∀ a o, F a = some o → H a = some o
theorem Le.rfl {H : Hp} : Le H H := fun _ _ h => h
theorem Le.trans {F G H : Hp} (a : Le F G) (b : Le G H) : Le F H := fun x o h => b x o (a x o h)
theorem Le.upd {H : Hp} {p : Addr} {o : HO} (h : H p = none) : Le H (upd H p o) := fun a u e => by rw [upd_ne (ne_of_none e h)]; exact e
/-- F' has F, and besides objects that B does not know -/
structure Ex (B F F' : Hp) : Prop where
  le : Le F F'
  new : ∀ a o, F a = none → B a = some o → F' a = none
theorem Ex.rfl {B F : Hp} : Ex B F F := ⟨Le.rfl, fun _ _ h _ => h⟩
theorem Ex.trans {B F G H : Hp} (a : Ex B F G) (b : Ex B G H) : Ex B F H := ⟨a.le.trans b.le, fun x o h1 h2 => b.new x o (a.new x o h1 h2) h2⟩
theorem Ex.upd {B F : Hp} {p : Addr} {o : HO} (h : B p = none) (hF : F p = none) : Ex B F (upd F p o) := ⟨Le.upd hF, fun a u h1 h2 => by
  have n : a ≠ p := fun e => by rw [e, h] at h2; cases h2
  rw [upd_ne n]; exact h1⟩
/-- B: the start, but for what was handed in to be changed; F: what is frozen; R: what is open -/
structure Fz (B F H : Hp) (R : List (Addr × HO)) : Prop where
  leB : Le B H
  leF : Le F H
  nd : (R.map Prod.fst).Nodup
  at_ : ∀ x ∈ R, H x.1 = some x.2
  nB : ∀ x ∈ R, B x.1 = none
  nF : ∀ x ∈ R, F x.1 = none
section
variable {B F F' H H' : Hp} {R R' : List (Addr × HO)} {a p : Addr} {o u : HO}
theorem none_of_le (l : Le F H) (h : H p = none) : F p = none := by
  cases e : F p with
  | none => rfl
  | some o => rw [l p o e] at h; cases h
theorem Fz.start (h : Le F H) : Fz H F H [] := ⟨Le.rfl, h, List.nodup_nil, fun _ h => absurd h List.not_mem_nil, fun _ h => absurd h List.not_mem_nil, fun _ h => absurd h List.not_mem_nil⟩
/-- the heap without a -/
def del (H : Hp) (a : Addr) : Hp := fun b => if b = a then none else H b
theorem del_le : Le (del H a) H := fun b o h => by
  unfold del at h
  split at h
  · cases h
  · exact h
theorem Fz.startB (h : Le F H) (ha : H a = some o) (hF : F a = none) : Fz (del H a) F H [(a, o)] := ⟨del_le, h, by simp, fun x hx => by
  rw [List.mem_singleton.mp hx]; exact ha, fun x hx => by
  rw [List.mem_singleton.mp hx]; exact if_pos rfl, fun x hx => by
  rw [List.mem_singleton.mp hx]; exact hF⟩
theorem Fz.fresh (O : Fz B F H R) (h : H p = none) : p ∉ R.map Prod.fst := fun q => by
  obtain ⟨x, hx, e⟩ := List.mem_map.mp q
  have := O.at_ x hx
  rw [e, h] at this
  cases this
theorem Fz.ignore (O : Fz B F H R) (h : H p = none) : Fz B F (upd H p o) R := ⟨O.leB.trans (Le.upd h), O.leF.trans (Le.upd h), O.nd, fun x hx => by
  have q := O.at_ x hx
  rw [upd_ne (ne_of_none q h)]; exact q, O.nB, O.nF⟩
theorem Fz.frz (O : Fz B F H R) (h : H p = none) : Fz B (upd F p o) (upd H p o) R := by
  have hF := none_of_le O.leF h
  refine ⟨O.leB.trans (Le.upd h), fun a u e => ?_, O.nd, fun x hx => ?_, O.nB, fun x hx => ?_⟩
  · by_cases q : a = p
    · subst q; rw [upd_same] at e ⊢; exact e
    · rw [upd_ne q] at e ⊢; exact O.leF a u e
  · have q := O.at_ x hx
    rw [upd_ne (ne_of_none q h)]; exact q
  · rw [upd_ne (ne_of_none (O.at_ x hx) h)]; exact O.nF x hx
theorem Fz.exN (O : Fz B F H R) (h : H p = none) : Ex B F (upd F p o) := Ex.upd (none_of_le O.leB h) (none_of_le O.leF h)
theorem Fz.mut (O : Fz B F H R) (h : H p = none) : Fz B F (upd H p o) (R ++ [(p, o)]) := by
  have hp := O.fresh h
  refine ⟨O.leB.trans (Le.upd h), O.leF.trans (Le.upd h), ?_, fun x hx => ?_, fun x hx => ?_, fun x hx => ?_⟩
  · rw [List.map_append]
    refine List.nodup_append.mpr ⟨O.nd, by simp, fun y hy z hz => ?_⟩
    have ez : z = p := by simpa using hz
    intro e
    rw [e, ez] at hy
    exact hp hy
  · rcases List.mem_append.mp hx with hx | hx
    · have q := O.at_ x hx
      rw [upd_ne (ne_of_none q h)]; exact q
    · rw [List.mem_singleton.mp hx]; exact upd_same
  · rcases List.mem_append.mp hx with hx | hx
    · exact O.nB x hx
    · rw [List.mem_singleton.mp hx]; exact none_of_le O.leB h
  · rcases List.mem_append.mp hx with hx | hx
    · exact O.nF x hx
    · rw [List.mem_singleton.mp hx]; exact none_of_le O.leF h
theorem Fz.put (O : Fz B F H R) (j : Nat) (h : R[j]? = some (a, o)) (u : HO) : Fz B F (upd H a u) (R.set j (a, u)) := by
  have hm := List.mem_of_getElem? h
  have nb : ∀ (G : Hp), G a = none → Le G H → Le G (upd H a u) := fun G hG l b v e => by
    rw [upd_ne (ne_of_none e hG)]; exact l b v e
  refine ⟨nb B (O.nB _ hm) O.leB, nb F (O.nF _ hm) O.leF, by rw [map_set_fst h u]; exact O.nd, fun x hx => ?_, fun x hx => ?_, fun x hx => ?_⟩
  · rcases mem_set_or hx with rfl | ⟨i, ne, hi⟩
    · exact upd_same
    · have n : x.1 ≠ a := fun e => ne (nodup_fst O.nd hi h e)
      rw [upd_ne n]
      exact O.at_ x (List.mem_of_getElem? hi)
  · rcases mem_set_or hx with rfl | ⟨i, ne, hi⟩
    · exact O.nB (a, o) hm
    · exact O.nB x (List.mem_of_getElem? hi)
  · rcases mem_set_or hx with rfl | ⟨i, ne, hi⟩
    · exact O.nF (a, o) hm
    · exact O.nF x (List.mem_of_getElem? hi)
theorem Fz.get (O : Fz B F H R) (j : Nat) (h : R[j]? = some (a, o)) : H a = some o := O.at_ (a, o) (List.mem_of_getElem? h)
theorem Fz.sub (O : Fz B F H R) (h : R'.Sublist R) : Fz B F H R' := ⟨O.leB, O.leF, (h.map Prod.fst).nodup O.nd, fun x hx => O.at_ x (h.subset hx), fun x hx => O.nB x (h.subset hx), fun x hx => O.nF x (h.subset hx)⟩
/-- an open object is frozen -/
theorem Fz.freeze (O : Fz B F H R) (j : Nat) (h : R[j]? = some (a, o)) : Fz B (upd F a o) H (R.eraseIdx j) := by
  have S := List.eraseIdx_sublist R j
  have hm := List.mem_of_getElem? h
  refine ⟨O.leB, fun b v e => ?_, (S.map Prod.fst).nodup O.nd, fun x hx => O.at_ x (S.subset hx), fun x hx => O.nB x (S.subset hx), fun x hx => ?_⟩
  · by_cases q : b = a
    · subst q; rw [upd_same] at e; rw [← Option.some.inj e]; exact O.at_ _ hm
    · rw [upd_ne q] at e; exact O.leF b v e
  · obtain ⟨i, hi⟩ := List.getElem?_of_mem hx
    rw [List.getElem?_eraseIdx] at hi
    have n : x.1 ≠ a := fun e => by
      split at hi
      · have := nodup_fst O.nd hi h e; omega
      · have := nodup_fst O.nd hi h e; omega
    rw [upd_ne n]
    exact O.nF x (S.subset hx)
theorem Fz.exF (O : Fz B F H R) (j : Nat) (h : R[j]? = some (a, o)) : Ex B F (upd F a o) := Ex.upd (O.nB _ (List.mem_of_getElem? h)) (O.nF _ (List.mem_of_getElem? h))
theorem last_at (R : List (Addr × HO)) (x : Addr × HO) : (R ++ [x])[R.length]? = some x := by rw [List.getElem?_append_right (Nat.le_refl _), Nat.sub_self]; rfl
theorem Fz.freezeL (O : Fz B F H (R ++ [(a, o)])) : Fz B (upd F a o) H R := by
  have h := O.freeze R.length (last_at R (a, o))
  rw [List.eraseIdx_append_of_length_le (Nat.le_refl _), Nat.sub_self] at h
  simpa using h
theorem Fz.exL (O : Fz B F H (R ++ [(a, o)])) : Ex B F (upd F a o) := O.exF R.length (last_at R (a, o))
theorem Fz.putL (O : Fz B F H (R ++ [(a, o)])) (u : HO) : Fz B F (upd H a u) (R ++ [(a, u)]) := by
  have h := O.put R.length (last_at R (a, o)) u
  rw [List.set_append_right _ _ (Nat.le_refl _), Nat.sub_self] at h
  exact h
theorem Fz.getL (O : Fz B F H (R ++ [(a, o)])) : H a = some o := O.get R.length (last_at R (a, o))
/-- an open object read as if it were frozen -/
theorem Fz.vl (O : Fz B F H R) (j : Nat) (h : R[j]? = some (a, o)) : Le (upd F a o) H := (O.freeze j h).leF
theorem Fz.call (O : Fz B F H R) (l : Le H H') (l' : Le F' H') (e : Ex H F F') : Fz B F' H' R := ⟨O.leB.trans l, l', O.nd, fun x hx => l _ _ (O.at_ x hx), O.nB, fun x hx => e.new x.1 x.2 (O.nF x hx) (O.at_ x hx)⟩
theorem Fz.exC (O : Fz B F H R) (e : Ex H F F') : Ex B F F' := ⟨e.le, fun a o h1 h2 => e.new a o h1 (O.leB a o h2)⟩
theorem Fz.callB (O : Fz B F H R) (j : Nat) (h : R[j]? = some (a, o)) (ha : H' a = some u) (l : ∀ b v, b ≠ a → H b = some v → H' b = some v) (l' : Le F' H') (e : Ex H F F') : Fz B F' H' (R.set j (a, u)) := by
  have hm := List.mem_of_getElem? h
  refine ⟨fun b v hb => l b v (ne_of_none hb (O.nB _ hm)) (O.leB b v hb), l', by rw [map_set_fst h u]; exact O.nd, fun x hx => ?_, fun x hx => ?_, fun x hx => ?_⟩
  · rcases mem_set_or hx with rfl | ⟨i, ne, hi⟩
    · exact ha
    · have n : x.1 ≠ a := fun e => ne (nodup_fst O.nd hi h e)
      exact l x.1 x.2 n (O.at_ x (List.mem_of_getElem? hi))
  · rcases mem_set_or hx with rfl | ⟨i, ne, hi⟩
    · exact O.nB (a, o) hm
    · exact O.nB x (List.mem_of_getElem? hi)
  · rcases mem_set_or hx with rfl | ⟨i, ne, hi⟩
    · exact e.new a o (O.nF _ hm) (O.at_ _ hm)
    · exact e.new x.1 x.2 (O.nF x (List.mem_of_getElem? hi)) (O.at_ x (List.mem_of_getElem? hi))
end

theorem y_frz {B F H : Hp} {R : List (Addr × HO)} {a : Addr} {o : HO} {G : Prop} (O : Fz B F H R) (j : Nat) (h : R[j]? = some (a, o)) (q : ∀ F', Ex B F F' → F' a = some o → Fz B F' H (R.eraseIdx j) → G) : G := q _ (O.exF j h) upd_same (O.freeze j h)
theorem y_frzL {B F H : Hp} {R : List (Addr × HO)} {a : Addr} {o : HO} {G : Prop} (O : Fz B F H (R ++ [(a, o)])) (q : ∀ F', Ex B F F' → F' a = some o → Fz B F' H R → G) : G := q _ O.exL upd_same O.freezeL

/-! ### what stands for what -/
structure Enc (α : Type) where
  rep : Hp → V → α → Prop
  mono : ∀ {F F' : Hp} {v : V} {x : α}, Le F F' → rep F v x → rep F' v x
inductive RL {α : Type} (P : V → α → Prop) : List V → List α → Prop
  | nil : RL P [] []
  | cons {v : V} {x : α} {vs : List V} {xs : List α} : P v x → RL P vs xs → RL P (v :: vs) (x :: xs)
section
variable {α β : Type} {P P' : V → α → Prop} {vs us : List V} {xs ys : List α} {v : V} {x : α}
theorem RL.mono (h : ∀ v x, P v x → P' v x) (r : RL P vs xs) : RL P' vs xs := by
  induction r with
  | nil => exact .nil
  | cons a _ ih => exact .cons (h _ _ a) ih
theorem RL.len (r : RL P vs xs) : vs.length = xs.length := by
  induction r with
  | nil => rfl
  | cons _ _ ih => rw [List.length_cons, List.length_cons, ih]
theorem RL.snoc (r : RL P vs xs) (h : P v x) : RL P (vs ++ [v]) (xs ++ [x]) := by
  induction r with
  | nil => exact .cons h .nil
  | cons a _ ih => exact .cons a ih
theorem RL.app (r : RL P vs xs) (s : RL P us ys) : RL P (vs ++ us) (xs ++ ys) := by
  induction r with
  | nil => exact s
  | cons a _ ih => exact .cons a ih
theorem RL.take (r : RL P vs xs) (n : Nat) : RL P (vs.take n) (xs.take n) := by
  induction r generalizing n with
  | nil => rw [List.take_nil, List.take_nil]; exact .nil
  | cons a _ ih =>
    cases n with
    | zero => exact .nil
    | succ n => exact .cons a (ih n)
theorem RL.drop (r : RL P vs xs) (n : Nat) : RL P (vs.drop n) (xs.drop n) := by
  induction r generalizing n with
  | nil => rw [List.drop_nil, List.drop_nil]; exact .nil
  | cons a q ih =>
    cases n with
    | zero => exact .cons a q
    | succ n => exact ih n
theorem RL.at (r : RL P vs xs) {i : Nat} (h : xs[i]? = some x) : ∃ v, vs[i]? = some v ∧ P v x := by
  induction r generalizing i with
  | nil => simp at h
  | cons a _ ih =>
    cases i with
    | zero => cases h; exact ⟨_, rfl, a⟩
    | succ i => exact ih (i := i) (by simpa using h)
theorem RL.at' (r : RL P vs xs) {i : Nat} (h : vs[i]? = some v) : ∃ x, xs[i]? = some x ∧ P v x := by
  induction r generalizing i with
  | nil => simp at h
  | cons a _ ih =>
    cases i with
    | zero => cases h; exact ⟨_, rfl, a⟩
    | succ i => exact ih (i := i) (by simpa using h)
theorem RL.rep (r : RL P vs xs) : ∀ n, RL P (List.replicate n vs).flatten (List.replicate n xs).flatten
  | 0 => .nil
  | n + 1 => by rw [List.replicate_succ, List.replicate_succ, List.flatten_cons, List.flatten_cons]; exact r.app (r.rep n)
theorem RL.rev (r : RL P vs xs) : RL P vs.reverse xs.reverse := by
  induction r with
  | nil => exact .nil
  | cons a _ ih => rw [List.reverse_cons, List.reverse_cons]; exact ih.snoc a
theorem RL.mapV {f : α → V} (h : ∀ v x, P v x → v = f x) (r : RL P vs xs) : vs = xs.map f := by
  induction r with
  | nil => rfl
  | cons a _ ih => rw [h _ _ a, ih]; rfl
theorem RL.ofMap {f : α → V} (h : ∀ x, P (f x) x) : ∀ xs : List α, RL P (xs.map f) xs
  | [] => .nil
  | x :: xs => .cons (h x) (RL.ofMap h xs)
end
def eInt : Enc Int := ⟨fun _ v x => v = .int x, fun _ h => h⟩
def eStr : Enc Str := ⟨fun _ v x => v = .str x, fun _ h => h⟩
def eBool : Enc Bool := ⟨fun _ v x => v = .bl x, fun _ h => h⟩
def eNon : Enc Unit := ⟨fun _ v _ => v = .non, fun _ h => h⟩
/-- never None -/
class NN {α : Type} (e : Enc α) : Prop where
  nn : ∀ {F : Hp} {x : α}, ¬ e.rep F .non x
def eOpt {α : Type} (e : Enc α) : Enc (Option α) := ⟨fun F v x => match x with | none => v = .non | some y => e.rep F v y, fun {_ _ _ x} l h => match x, h with | none, h => h | some _, h => e.mono l h⟩
def eTup {α : Type} (e : Enc α) : Enc (List α) := ⟨fun F v xs => ∃ a vs, v = .ref a ∧ F a = some (.tup vs) ∧ RL (e.rep F) vs xs, fun l ⟨a, vs, h1, h2, h3⟩ => ⟨a, vs, h1, l _ _ h2, h3.mono fun _ _ => e.mono l⟩⟩
def eLst {α : Type} (e : Enc α) : Enc (List α) := ⟨fun F v xs => ∃ a vs, v = .ref a ∧ F a = some (.lst vs) ∧ RL (e.rep F) vs xs, fun l ⟨a, vs, h1, h2, h3⟩ => ⟨a, vs, h1, l _ _ h2, h3.mono fun _ _ => e.mono l⟩⟩
def eP2 {α β : Type} (e1 : Enc α) (e2 : Enc β) : Enc (α × β) := ⟨fun F v x => ∃ a v1 v2, v = .ref a ∧ F a = some (.tup [v1, v2]) ∧ e1.rep F v1 x.1 ∧ e2.rep F v2 x.2, fun l ⟨a, v1, v2, h, h0, h1, h2⟩ => ⟨a, v1, v2, h, l _ _ h0, e1.mono l h1, e2.mono l h2⟩⟩
def eP3 {α β γ : Type} (e1 : Enc α) (e2 : Enc β) (e3 : Enc γ) : Enc (α × β × γ) := ⟨fun F v x => ∃ a v1 v2 v3, v = .ref a ∧ F a = some (.tup [v1, v2, v3]) ∧ e1.rep F v1 x.1 ∧ e2.rep F v2 x.2.1 ∧ e3.rep F v3 x.2.2, fun l ⟨a, v1, v2, v3, h, h0, h1, h2, h3⟩ => ⟨a, v1, v2, v3, h, l _ _ h0, e1.mono l h1, e2.mono l h2, e3.mono l h3⟩⟩
instance : NN eInt := ⟨fun h => nomatch h⟩
instance : NN eStr := ⟨fun h => nomatch h⟩
instance : NN eBool := ⟨fun h => nomatch h⟩
instance {α : Type} {e : Enc α} : NN (eTup e) := ⟨fun ⟨_, _, h, _⟩ => nomatch h⟩
instance {α : Type} {e : Enc α} : NN (eLst e) := ⟨fun ⟨_, _, h, _⟩ => nomatch h⟩
instance {α β : Type} {e1 : Enc α} {e2 : Enc β} : NN (eP2 e1 e2) := ⟨fun ⟨_, _, _, h, _⟩ => nomatch h⟩
instance {α β γ : Type} {e1 : Enc α} {e2 : Enc β} {e3 : Enc γ} : NN (eP3 e1 e2 e3) := ⟨fun ⟨_, _, _, _, h, _⟩ => nomatch h⟩
section
variable {F : Hp} {v : V} {P : V → Prop}
theorem elI {x : Int} (q : P (.int x)) : ∀ u, eInt.rep F u x → P u := fun _ h => by cases h; exact q
theorem elS {x : Str} (q : P (.str x)) : ∀ u, eStr.rep F u x → P u := fun _ h => by cases h; exact q
theorem elB {x : Bool} (q : P (.bl x)) : ∀ u, eBool.rep F u x → P u := fun _ h => by cases h; exact q
end

/-! ### models -/
abbrev W (α : Type) := (α → Prop) → Prop
namespace W
@[reducible] def ok {α : Type} (a : α) : W α := fun K => K a
@[reducible] def bind {α β : Type} (m : W α) (f : α → W β) : W β := fun K => m fun a => f a K
/-- what must hold for the step to be made -/
@[reducible] def chk {α : Type} (p : Prop) (m : W α) : W α := fun K => p ∧ m K
@[reducible] def ite {α : Type} (c : Bool) (m1 m2 : W α) : W α := fun K => (c = true → m1 K) ∧ (c = false → m2 K)
@[reducible] def onone {α β : Type} (x : Option α) (m : W β) (f : α → W β) : W β := fun K => (x = none → m K) ∧ ∀ y, x = some y → f y K
/-- an item -/
@[reducible] def at_ {α β : Type} (xs : List α) (i : Int) (f : α → W β) : W β := fun K => ∃ x, atI xs i = some x ∧ f x K
end W
inductive Ctl (σ ρ : Type) | nx (s : σ) | br (s : σ) | rt (r : ρ)
@[reducible] def ctlK {σ ρ : Type} (Kn Kf : σ → Prop) (Kr : ρ → Prop) : Ctl σ ρ → Prop
  | .nx s => Kn s
  | .br s => Kf s
  | .rt r => Kr r
def forW {α σ ρ : Type} (body : α → σ → W (Ctl σ ρ)) (Kf : σ → Prop) (Kr : ρ → Prop) : List α → σ → Prop
  | [], s => Kf s
  | x :: xs, s => body x s (ctlK (forW body Kf Kr xs) Kf Kr)
@[reducible] def W.for_ {α σ ρ : Type} (xs : List α) (s : σ) (body : α → σ → W (Ctl σ ρ)) (rest : σ → W ρ) : W ρ := fun K => forW body (fun s => rest s K) K xs s
@[reducible] def compK {β : Type} (Kn : List β → Prop) (acc : List β) : Option β → Prop
  | some y => Kn (acc ++ [y])
  | none => Kn acc
def compW {α β : Type} (body : α → W (Option β)) (K : List β → Prop) : List α → List β → Prop
  | [], acc => K acc
  | x :: xs, acc => body x (compK (compW body K xs) acc)
@[reducible] def W.comp {α β : Type} (xs : List α) (body : α → W (Option β)) : W (List β) := fun K => xs.length ≤ sizeLine ∧ compW body K xs []
/-- in plain proofs: a loop by an invariant -/
theorem forW_inv {α σ ρ : Type} {body : α → σ → W (Ctl σ ρ)} {Kf : σ → Prop} {Kr : ρ → Prop} (xs : List α) (s : σ) (I : List α → σ → Prop) (h0 : I xs s)
    (hs : ∀ x r s, I (x :: r) s → body x s (ctlK (I r) Kf Kr)) (hd : ∀ s, I [] s → Kf s) (hm : ∀ x s (K K' : Ctl σ ρ → Prop), (∀ c, K c → K' c) → body x s K → body x s K') : forW body Kf Kr xs s := by
  induction xs generalizing s with
  | nil => exact hd s h0
  | cons x xs ih =>
    refine hm x s _ _ (fun c hc => ?_) (hs x xs s h0)
    cases c with
    | nx s' => exact ih s' hc
    | br s' => exact hc
    | rt r => exact hc
/-- .. by steps, the rest taken as it is -/
theorem forW_go {α σ ρ : Type} {body : α → σ → W (Ctl σ ρ)} {Kf : σ → Prop} {Kr : ρ → Prop} (I : List α → σ → Prop)
    (hs : ∀ x r s (Kn : σ → Prop), I (x :: r) s → (∀ s', I r s' → Kn s') → body x s (ctlK Kn Kf Kr)) (hd : ∀ s, I [] s → Kf s) : ∀ (xs : List α) (s : σ), I xs s → forW body Kf Kr xs s
  | [], s, h => hd s h
  | x :: xs, s, h => hs x xs s _ h fun s' h' => forW_go I hs hd xs s' h'
theorem compW_go {α β : Type} {body : α → W (Option β)} {K : List β → Prop} (I : List α → List β → Prop)
    (hs : ∀ x r acc (Kn : List β → Prop), I (x :: r) acc → (∀ a, I r a → Kn a) → body x (compK Kn acc)) (hd : ∀ acc, I [] acc → K acc) : ∀ (xs : List α) (acc : List β), I xs acc → compW body K xs acc
  | [], acc, h => hd acc h
  | x :: xs, acc, h => hs x xs acc _ h fun a h' => compW_go I hs hd xs a h'
/-- a comprehension without a test whose items are f x -/
theorem compW_map {α β : Type} {body : α → W (Option β)} {K : List β → Prop} (f : α → β) (xs : List α) (hs : ∀ x ∈ xs, ∀ K, K (some (f x)) → body x K) (h : K (xs.map f)) : compW body K xs [] := by
  have go : ∀ (ys : List α) (acc : List β), (∀ x ∈ ys, x ∈ xs) → acc ++ ys.map f = xs.map f → compW body K ys acc := by
    intro ys
    induction ys with
    | nil => intro acc _ e; rw [List.map_nil, List.append_nil] at e; rw [e]; exact h
    | cons y ys ih => intro acc hm e; exact hs y (hm y List.mem_cons_self) _ (ih (acc ++ [f y]) (fun x hx => hm x (List.mem_cons_of_mem _ hx)) (by rw [← e]; simp))
  exact go xs [] (fun _ h => h) (by simp)

/-! ### promises -/
/-- plain: what is handed in stays; a value out -/
def spW {ι ρ : Type} (n : Nat) (A : Hp → List V → ι → Prop) (er : Enc ρ) (m : ι → W ρ) : Sp := fun vs H Q _ => vs.length = n ∧ ∃ F i K, Le F H ∧ A F vs i ∧ m i K ∧ ∀ y, K y → ∀ v F' H', Le H H' → Le F' H' → Ex H F F' → er.rep F' v y → Q v H'
theorem hl_spW {ι ρ : Type} {n : Nat} {A : Hp → List V → ι → Prop} {er : Enc ρ} {m : ι → W ρ} : ∀ vs H Q E, spW n A er m vs H Q E → vs.length = n := fun _ _ _ _ h => h.1
/-- .. with a box ahead that is changed -/
def spWb {ι ρ : Type} (Bx : List V → Prop) (n : Nat) (A : Hp → List V → ι → Prop) (er : Enc ρ) (m : ι → W ρ) : Sp := fun vs H Q _ => ∃ a bx rest F i K, vs = .ref a :: rest ∧ rest.length = n ∧ Bx bx ∧ H a = some (.lst bx) ∧ F a = none ∧ Le F H ∧ A F rest i ∧ m i K ∧
  ∀ y, K y → ∀ v F' H' bx', Bx bx' → H' a = some (.lst bx') → (∀ b o, b ≠ a → H b = some o → H' b = some o) → Le F' H' → Ex H F F' → er.rep F' v y → Q v H'
theorem hl_spWb {ι ρ : Type} {Bx : List V → Prop} {n : Nat} {A : Hp → List V → ι → Prop} {er : Enc ρ} {m : ι → W ρ} : ∀ vs H Q E, spWb Bx n A er m vs H Q E → vs.length = n + 1 := fun _ _ _ _ ⟨_, _, _, _, _, _, e, h, _⟩ => by rw [e, List.length_cons, h]
abbrev Exn := Str × Option (List (Str × V))
/-- an exception on its way -/
@[reducible] def ExnAt (mg : Str → Option Value) (H : Hp) (e : Exn) (E : XK) : Prop := match e.2 with
  | none => ∀ H', Le H H' → E (.ref (cad mg e.1)) none H'
  | some fs => ∀ d H', Le H H' → H d = none → H' d = some (.xd fs) → E (.ref (cad mg e.1)) (some d) H'
theorem ExnAt.up {mg : Str → Option Value} {H0 H : Hp} {e : Exn} {E : XK} (l : Le H0 H) (h : ExnAt mg H0 e E) : ExnAt mg H e E := by
  obtain ⟨x, fs⟩ := e
  cases fs with
  | none => exact fun H' l' => h H' (l.trans l')
  | some fs => exact fun d H' l' hd hf => h d H' (l.trans l') (none_of_le l hd) hf
@[reducible] def W.bindE {α γ : Type} (m : W (Except Exn α)) (inj : Exn → γ) (f : α → W γ) : W γ := fun K => m fun r => match r with | .ok y => f y K | .error e => K (inj e)
/-- that may raise -/
def spWX {ι ρ : Type} (mg : Str → Option Value) (n : Nat) (A : Hp → List V → ι → Prop) (er : Enc ρ) (m : ι → W (Except Exn ρ)) : Sp := fun vs H Q E => vs.length = n ∧ ∃ F i K, Le F H ∧ A F vs i ∧ m i K ∧ (∀ y, K (.ok y) → ∀ v F' H', Le H H' → Le F' H' → Ex H F F' → er.rep F' v y → Q v H') ∧ ∀ e, K (.error e) → ExnAt mg H e E
theorem hl_spWX {ι ρ : Type} {mg : Str → Option Value} {n : Nat} {A : Hp → List V → ι → Prop} {er : Enc ρ} {m : ι → W (Except Exn ρ)} : ∀ vs H Q E, spWX mg n A er m vs H Q E → vs.length = n := fun _ _ _ _ h => h.1
section
variable {B F H : Hp} {R : List (Addr × HO)} {ι ρ : Type} {n : Nat} {A : Hp → List V → ι → Prop} {er : Enc ρ} {vs rest : List V} {Q : VK} {E : XK} {a : Addr} {bx : List V} {Bx : List V → Prop} {mg : Str → Option Value}
theorem use_spW {m : ι → W ρ} {K : ρ → Prop} {i : ι} (O : Fz B F H R) (hl : vs.length = n) (hA : A F vs i) (k : m i K) (q : ∀ y v F' H', Ex B F F' → Fz B F' H' R → er.rep F' v y → K y → Q v H') : spW n A er m vs H Q E :=
  ⟨hl, F, i, K, O.leF, hA, k, fun y hy v F' H' l1 l2 e r => q y v F' H' (O.exC e) (O.call l1 l2 e) r hy⟩
theorem use_spWb {m : ι → W ρ} {K : ρ → Prop} {i : ι} (O : Fz B F H R) (j : Nat) (hj : R[j]? = some (a, .lst bx)) (hb : Bx bx) (hl : rest.length = n) (hA : A F rest i) (k : m i K)
    (q : ∀ y v F' H' bx', Bx bx' → Ex B F F' → Fz B F' H' (R.set j (a, .lst bx')) → er.rep F' v y → K y → Q v H') : spWb Bx n A er m (.ref a :: rest) H Q E :=
  ⟨a, bx, rest, F, i, K, rfl, hl, hb, O.get j hj, O.nF _ (List.mem_of_getElem? hj), O.leF, hA, k, fun y hy v F' H' bx' hb' h1 h2 h3 e r => q y v F' H' bx' hb' (O.exC e) (O.callB j hj h1 h2 h3 e) r hy⟩
theorem use_spWX {m : ι → W (Except Exn ρ)} {K : Except Exn ρ → Prop} {i : ι} (O : Fz B F H R) (hl : vs.length = n) (hA : A F vs i) (k : m i K) (q : ∀ y v F' H', Ex B F F' → Fz B F' H' R → er.rep F' v y → K (.ok y) → Q v H') (qe : ∀ e, K (.error e) → ExnAt mg H e E) : spWX mg n A er m vs H Q E :=
  ⟨hl, F, i, K, O.leF, hA, k, fun y hy v F' H' l1 l2 e r => q y v F' H' (O.exC e) (O.call l1 l2 e) r hy, qe⟩
end

/-! ### steps -/
section
variable {K : PySem.W.Frag} {B F H : Hp} {R : List (Addr × HO)} {α β γ : Type} {e : Enc α} {e1 : Enc α} {e2 : Enc β} {e3 : Enc γ} {v : V} {x : Option α} {xs ys : List α} {Q : VK} {QT : Bool → Hp → Prop} {i : Int} {vs us : List V} {a p : Addr} {σ : L2.St} {ta tb : TE} {tt tu : TT}
/-- a new tuple, frozen -/
theorem y_tup (O : Fz B F H R) (hz : vs.length ≤ sizeLine) (q : ∀ p F' H', F' p = some (.tup vs) → Ex B F F' → Fz B F' H' R → Q (.ref p) H') : newT vs H Q := ⟨hz, fun p hp => q p _ _ upd_same (O.exN hp) (O.frz hp)⟩
theorem y_lstF (O : Fz B F H R) (hz : vs.length ≤ sizeLine) (q : ∀ p F' H', F' p = some (.lst vs) → Ex B F F' → Fz B F' H' R → Q (.ref p) H') : newL vs H Q := ⟨hz, fun p hp => q p _ _ upd_same (O.exN hp) (O.frz hp)⟩
theorem y_lstM (O : Fz B F H R) (hz : vs.length ≤ sizeLine) (q : ∀ p H', Fz B F H' (R ++ [(p, .lst vs)]) → Q (.ref p) H') : newL vs H Q := ⟨hz, fun p hp => q p _ (O.mut hp)⟩
/-- tests -/
theorem y_isN [NN e] (h : (eOpt e).rep F v x) (q : Q (.bl x.isNone) H) : rIsN v .non H Q := ⟨rfl, by
  cases x with
  | none =>
    have hv : v = .non := h
    subst hv
    exact q
  | some y =>
    have hv : v ≠ .non := fun q => NN.nn (e := e) (F := F) (x := y) (by rw [q] at h; exact h)
    rw [decide_eq_false hv]
    exact q⟩
theorem y_notN [NN e] (h : (eOpt e).rep F v x) (q : Q (.bl (!x.isNone)) H) : rNotN v .non H Q := ⟨rfl, by
  cases x with
  | none =>
    have hv : v = .non := h
    subst hv
    exact q
  | some y =>
    have hv : v ≠ .non := fun q => NN.nn (e := e) (F := F) (x := y) (by rw [q] at h; exact h)
    rw [decide_eq_false hv]
    exact q⟩
theorem isNone_f {x : Option α} (h : x.isNone = false) : ∃ y, x = some y := by
  cases x with
  | none => cases h
  | some y => exact ⟨y, rfl⟩
theorem isNone_t {x : Option α} (h : x.isNone = true) : x = none := by
  cases x with
  | none => rfl
  | some y => cases h
theorem y_eqI {i j : Int} (q : Q (.bl (decide (i = j))) H) : rEq (.int i) (.int j) H Q := ⟨rfl, by
  have e : decide (V.int i = V.int j) = decide (i = j) := decide_eq_decide.mpr ⟨V.int.inj, fun h => h ▸ rfl⟩
  rw [e]; exact q⟩
theorem y_neI {i j : Int} (q : Q (.bl (!decide (i = j))) H) : rNe (.int i) (.int j) H Q := ⟨rfl, by
  have e : decide (V.int i = V.int j) = decide (i = j) := decide_eq_decide.mpr ⟨V.int.inj, fun h => h ▸ rfl⟩
  rw [e]; exact q⟩
theorem y_eqS {i j : Str} (q : Q (.bl (decide (i = j))) H) : rEq (.str i) (.str j) H Q := ⟨rfl, by
  have e : decide (V.str i = V.str j) = decide (i = j) := decide_eq_decide.mpr ⟨V.str.inj, fun h => h ▸ rfl⟩
  rw [e]; exact q⟩
theorem y_neS {i j : Str} (q : Q (.bl (!decide (i = j))) H) : rNe (.str i) (.str j) H Q := ⟨rfl, by
  have e : decide (V.str i = V.str j) = decide (i = j) := decide_eq_decide.mpr ⟨V.str.inj, fun h => h ▸ rfl⟩
  rw [e]; exact q⟩
/-- sizes, truth -/
theorem y_lenL (l : Le F H) (h : (eLst e).rep F v xs) (q : Q (.int xs.length) H) : rLen K [v] H Q := by
  obtain ⟨a, vs, rfl, ha, r⟩ := h
  exact x_lenL (l _ _ ha) (by rw [r.len]; exact q)
theorem y_lenT (l : Le F H) (h : (eTup e).rep F v xs) (q : Q (.int xs.length) H) : rLen K [v] H Q := by
  obtain ⟨a, vs, rfl, ha, r⟩ := h
  exact x_lenT (l _ _ ha) (by rw [r.len]; exact q)
theorem isE_len {vs : List V} {xs : List α} (h : vs.length = xs.length) : vs.isEmpty = xs.isEmpty := by
  cases vs <;> cases xs <;> simp_all
theorem y_truL {P : Bool → Prop} (l : Le F H) (h : (eLst e).rep F v xs) (q : P (!xs.isEmpty)) : ∃ k, TruV K v H k ∧ P k := by
  obtain ⟨a, vs, rfl, ha, r⟩ := h
  exact x_truL (l _ _ ha) (by rw [isE_len r.len]; exact q)
theorem y_truS {P : Bool → Prop} {z : Str} (h : z.length ≤ sizeLine) (q : P (!decide (z.length = 0))) : ∃ k, TruV K (.str z) H k ∧ P k := x_truS h (by
  have e : ((z.length : Int) != 0) = !decide (z.length = 0) := by
    by_cases h : z.length = 0
    · rw [h]; rfl
    · rw [decide_eq_false h]
      have h2 : ((z.length : Int)) ≠ 0 := by omega
      exact bne_iff_ne.mpr h2
  rw [e]; exact q)
theorem y_truI {P : Bool → Prop} {i : Int} (q : P (!decide (i = 0))) : ∃ k, TruV K (.int i) H k ∧ P k := x_truI (by
  have e : (i != 0) = !decide (i = 0) := by
    by_cases h : i = 0
    · rw [h]; rfl
    · rw [decide_eq_false h]; simp [h]
  rw [e]; exact q)
/-- items -/
theorem atI_RL {P : V → α → Prop} {y : α} (r : RL P vs xs) (h : atI xs i = some y) : ∃ u, atI vs i = some u ∧ P u y := by
  unfold atI at h ⊢
  rw [r.len]
  cases e : ixN xs.length i with
  | none => rw [e] at h; cases h
  | some k =>
    rw [e] at h
    exact r.at h
theorem y_ixL {y : α} (l : Le F H) (h : (eLst e).rep F v xs) (hi : atI xs i = some y) (q : ∀ u, e.rep F u y → Q u H) : rIxL K v (.int i) H Q := by
  obtain ⟨a, vs, rfl, ha, r⟩ := h
  obtain ⟨u, h1, h2⟩ := atI_RL r hi
  exact x_ixL (l _ _ ha) h1 (q u h2)
theorem y_ixT {y : α} (l : Le F H) (h : (eTup e).rep F v xs) (hi : atI xs i = some y) (q : ∀ u, e.rep F u y → Q u H) : rIxT K v (.int i) H Q := by
  obtain ⟨a, vs, rfl, ha, r⟩ := h
  obtain ⟨u, h1, h2⟩ := atI_RL r hi
  exact x_ixT (l _ _ ha) h1 (q u h2)
def cS (z : Str) (i : Int) : Nat := (atI (tl z) i).getD 0
theorem y_ixS {z : Str} (hz : z.length ≤ sizeLine) (hi : ∃ c, atI (tl z) i = some c) (q : Q (.str ⟨#[cS z i]⟩) H) : rIxS (.str z) (.int i) H Q := by
  obtain ⟨c, hc⟩ := hi
  refine x_ixS hz hc ?_
  have e : cS z i = c := by unfold cS; rw [hc]; rfl
  rw [e] at q
  exact q
section
variable {x2 : α × β} {x3 : α × β × γ}
theorem y_ix20 (l : Le F H) (h : (eP2 e1 e2).rep F v x2) (q : ∀ u, e1.rep F u x2.1 → Q u H) : rIxT K v (.int 0) H Q := by
  obtain ⟨a, v1, v2, rfl, h0, h1, h2⟩ := h
  exact x_ixT (l _ _ h0) rfl (q _ h1)
theorem y_ix21 (l : Le F H) (h : (eP2 e1 e2).rep F v x2) (q : ∀ u, e2.rep F u x2.2 → Q u H) : rIxT K v (.int 1) H Q := by
  obtain ⟨a, v1, v2, rfl, h0, h1, h2⟩ := h
  exact x_ixT (l _ _ h0) rfl (q _ h2)
theorem y_ix30 (l : Le F H) (h : (eP3 e1 e2 e3).rep F v x3) (q : ∀ u, e1.rep F u x3.1 → Q u H) : rIxT K v (.int 0) H Q := by
  obtain ⟨a, v1, v2, v3, rfl, h0, h1, h2, h3⟩ := h
  exact x_ixT (l _ _ h0) rfl (q _ h1)
theorem y_ix31 (l : Le F H) (h : (eP3 e1 e2 e3).rep F v x3) (q : ∀ u, e2.rep F u x3.2.1 → Q u H) : rIxT K v (.int 1) H Q := by
  obtain ⟨a, v1, v2, v3, rfl, h0, h1, h2, h3⟩ := h
  exact x_ixT (l _ _ h0) rfl (q _ h2)
theorem y_ix32 (l : Le F H) (h : (eP3 e1 e2 e3).rep F v x3) (q : ∀ u, e3.rep F u x3.2.2 → Q u H) : rIxT K v (.int 2) H Q := by
  obtain ⟨a, v1, v2, v3, rfl, h0, h1, h2, h3⟩ := h
  exact x_ixT (l _ _ h0) rfl (q _ h3)
/-- a, b = pair -/
theorem g_cons {t : TG} {u : TGs} {r : List V} {QS : L2.St → Hp → Prop} (q : t v σ H fun σ' H' => u r σ' H' QS) : gCons t u (v :: r) σ H QS := ⟨v, r, rfl, q⟩
theorem g_nil {QS : L2.St → Hp → Prop} (q : QS σ H) : gNil [] σ H QS := ⟨rfl, q⟩
theorem y_un2 {t : TGs} {QS : L2.St → Hp → Prop} (l : Le F H) (h : (eP2 e1 e2).rep F v x2) (q : ∀ u1 u2, e1.rep F u1 x2.1 → e2.rep F u2 x2.2 → t [u1, u2] σ H QS) : gTup K 2 t v σ H QS := by
  obtain ⟨a, v1, v2, rfl, h0, h1, h2⟩ := h
  exact ⟨a, [v1, v2], rfl, SqT.of (l _ _ h0), rfl, q v1 v2 h1 h2⟩
theorem y_un3 {t : TGs} {QS : L2.St → Hp → Prop} (l : Le F H) (h : (eP3 e1 e2 e3).rep F v x3) (q : ∀ u1 u2 u3, e1.rep F u1 x3.1 → e2.rep F u2 x3.2.1 → e3.rep F u3 x3.2.2 → t [u1, u2, u3] σ H QS) : gTup K 3 t v σ H QS := by
  obtain ⟨a, v1, v2, v3, rfl, h0, h1, h2, h3⟩ := h
  exact ⟨a, [v1, v2, v3], rfl, SqT.of (l _ _ h0), rfl, q v1 v2 v3 h1 h2 h3⟩
end
/-- append -/
theorem y_app {P : V → α → Prop} {x : α} (O : Fz B F H R) (j : Nat) (hj : R[j]? = some (p, .lst vs)) (hz : vs.length < sizeLine) (q : ∀ H', Fz B F H' (R.set j (p, .lst (vs ++ [v]))) → Q .non H') : rAppend (.ref p) [v] H Q :=
  ⟨p, vs, v, rfl, rfl, O.get j hj, hz, q _ (O.put j hj _)⟩
/-- tuple(..) of a list -/
theorem y_tupOfL (O : Fz B F H R) (h : (eLst e).rep F v xs) (q : ∀ p F' H', (eTup e).rep F' (.ref p) xs → Ex B F F' → Fz B F' H' R → Q (.ref p) H') : rTupOf K [v] H Q := by
  obtain ⟨a, vs, rfl, ha, r⟩ := h
  exact ⟨a, vs, rfl, .inl ⟨SqL.of (O.leF _ _ ha), fun p hp => q p _ _ ⟨p, vs, rfl, upd_same, r.mono fun _ _ => e.mono (O.exN hp).le⟩ (O.exN hp) (O.frz hp)⟩⟩
theorem y_tupOfT (O : Fz B F H R) (h : (eTup e).rep F v xs) (q : Q v H) : rTupOf K [v] H Q := by
  obtain ⟨a, vs, rfl, ha, r⟩ := h
  exact ⟨a, vs, rfl, .inr ⟨SqT.of (O.leF _ _ ha), q⟩⟩
/-- .. of an open one: it is read as if it were frozen -/
theorem y_tupOfM (O : Fz B F H R) (j : Nat) (hj : R[j]? = some (p, .lst vs)) (r : RL (e.rep F) vs xs) (q : ∀ p F' H', (eTup e).rep F' (.ref p) xs → Ex B F F' → Fz B F' H' R → Q (.ref p) H') : rTupOf K [.ref p] H Q :=
  ⟨p, vs, rfl, .inl ⟨SqL.of (O.get j hj), fun t ht => q t _ _ ⟨t, vs, rfl, upd_same, r.mono fun _ _ => e.mono (O.exN ht).le⟩ (O.exN ht) (O.frz ht)⟩⟩
/-- list(..) -/
theorem y_listOfF (O : Fz B F H R) (h : (eLst e).rep F v xs ∨ (eTup e).rep F v xs) (q : ∀ p F' H', (eLst e).rep F' (.ref p) xs → Ex B F F' → Fz B F' H' R → Q (.ref p) H') : rListOf K [v] H Q := by
  rcases h with ⟨a, vs, rfl, ha, r⟩ | ⟨a, vs, rfl, ha, r⟩
  · exact ⟨a, vs, rfl, .inl (SqL.of (O.leF _ _ ha)), fun t ht => q t _ _ ⟨t, vs, rfl, upd_same, r.mono fun _ _ => e.mono (O.exN ht).le⟩ (O.exN ht) (O.frz ht)⟩
  · exact ⟨a, vs, rfl, .inr (SqT.of (O.leF _ _ ha)), fun t ht => q t _ _ ⟨t, vs, rfl, upd_same, r.mono fun _ _ => e.mono (O.exN ht).le⟩ (O.exN ht) (O.frz ht)⟩
theorem y_listOfM (O : Fz B F H R) (h : (eLst e).rep F v xs ∨ (eTup e).rep F v xs) (q : ∀ p vs H', RL (e.rep F) vs xs → Fz B F H' (R ++ [(p, .lst vs)]) → Q (.ref p) H') : rListOf K [v] H Q := by
  rcases h with ⟨a, vs, rfl, ha, r⟩ | ⟨a, vs, rfl, ha, r⟩
  · exact ⟨a, vs, rfl, .inl (SqL.of (O.leF _ _ ha)), fun t ht => q t vs _ r (O.mut ht)⟩
  · exact ⟨a, vs, rfl, .inr (SqT.of (O.leF _ _ ha)), fun t ht => q t vs _ r (O.mut ht)⟩
/-- list + list, list * n -/
theorem y_catF {v w : V} (O : Fz B F H R) (h1 : (eLst e).rep F v xs) (h2 : (eLst e).rep F w ys) (hz : xs.length + ys.length ≤ sizeLine) (q : ∀ p F' H', (eLst e).rep F' (.ref p) (xs ++ ys) → Ex B F F' → Fz B F' H' R → Q (.ref p) H') : rCat v w H Q := by
  obtain ⟨a, vs, rfl, ha, r⟩ := h1
  obtain ⟨b, us, rfl, hb, s⟩ := h2
  exact ⟨a, b, vs, us, rfl, rfl, O.leF _ _ ha, O.leF _ _ hb, by rw [r.len, s.len]; exact hz, fun p hp => q p _ _ ⟨p, vs ++ us, rfl, upd_same, (r.app s).mono fun _ _ => e.mono (O.exN hp).le⟩ (O.exN hp) (O.frz hp)⟩
theorem y_repF {n : Int} (O : Fz B F H R) (h1 : (eLst e).rep F v xs) (h2 : -(2 ^ 63) ≤ n ∧ n < 2 ^ 63) (hz : xs.length * n.toNat ≤ sizeLine) (q : ∀ p F' H', (eLst e).rep F' (.ref p) (List.replicate n.toNat xs).flatten → Ex B F F' → Fz B F' H' R → Q (.ref p) H') : rRep v (.int n) H Q := by
  obtain ⟨a, vs, rfl, ha, r⟩ := h1
  exact ⟨a, n, vs, rfl, rfl, O.leF _ _ ha, h2.1, h2.2, by rw [r.len]; exact hz, fun p hp => q p _ _ ⟨p, _, rfl, upd_same, (r.rep _).mono fun _ _ => e.mono (O.exN hp).le⟩ (O.exN hp) (O.frz hp)⟩
/-- slices -/
def cutT {α : Type} (xs : List α) (lo hi : Option Int) : List α := (xs.drop (HT.sIx xs.length 0 lo)).take (HT.sIx xs.length xs.length hi - HT.sIx xs.length 0 lo)
theorem RL.cut {P : V → α → Prop} (r : RL P vs xs) (lo hi : Option Int) : RL P (cutV vs lo hi) (cutT xs lo hi) := by
  unfold cutV cutT
  rw [r.len]
  exact (r.drop _).take _
theorem y_slLF {lo hi : Option Int} (O : Fz B F H R) (h : (eLst e).rep F v xs) (q : ∀ p F' H', (eLst e).rep F' (.ref p) (cutT xs lo hi) → Ex B F F' → Fz B F' H' R → Q (.ref p) H') : rSlL K v lo hi H Q := by
  obtain ⟨a, vs, rfl, ha, r⟩ := h
  exact ⟨a, vs, rfl, SqL.of (O.leF _ _ ha), fun p hp => q p _ _ ⟨p, _, rfl, upd_same, (r.cut lo hi).mono fun _ _ => e.mono (O.exN hp).le⟩ (O.exN hp) (O.frz hp)⟩
theorem y_splitF {a b : Str} (O : Fz B F H R) (hb : (b.length == 0) = false) (ha : a.length + 2 ≤ sizeLine) (q : ∀ p F' H', (eLst eStr).rep F' (.ref p) (Txt.split a b) → Ex B F F' → Fz B F' H' R → Q (.ref p) H') : rSplit (.str a) [.str b] H Q :=
  ⟨a, b, rfl, rfl, hb, ha, fun p hp => q p _ _ ⟨p, _, rfl, upd_same, RL.ofMap (f := V.str) (fun _ => rfl) _⟩ (O.exN hp) (O.frz hp)⟩
theorem y_joinL {z : Str} {zs : List Str} (l : Le F H) (h : (eLst eStr).rep F v zs) (hz : (zs.map (·.length)).sum + zs.length * z.length ≤ 16777216) (q : Q (.str (Txt.join z zs)) H) : rJoin K (.str z) [v] H Q := by
  obtain ⟨a, vs, rfl, ha, r⟩ := h
  have e := r.mapV (f := V.str) fun _ _ h => h
  subst e
  exact x_joinL zs (l _ _ ha) hz q
theorem y_allL {QA : Bool → Prop} {bs : List Bool} (l : Le F H) (h : (eLst eBool).rep F v bs) : ∃ p, v = .ref p ∧ SqL K H p (bs.map V.bl) := by
  obtain ⟨a, vs, rfl, ha, r⟩ := h
  have e := r.mapV (f := V.bl) fun _ _ h => h
  subst e
  exact ⟨a, rfl, SqL.of (l _ _ ha)⟩
/-- and, or: the second operand without a further effect -/
theorem y_and {b c : Bool} (ha : ∀ Q : VK, Q (.bl b) H → ta σ H Q) (hb : b = true → ∀ Q : VK, Q (.bl c) H → tb σ H Q) (q : Q (.bl (b && c)) H) : tAndV ta tb σ H Q := ha _ ⟨b, rfl, by
  cases b with
  | true => exact hb rfl _ q
  | false => exact q⟩
theorem y_or {b c : Bool} (ha : ∀ Q : VK, Q (.bl b) H → ta σ H Q) (hb : b = false → ∀ Q : VK, Q (.bl c) H → tb σ H Q) (q : Q (.bl (b || c)) H) : tOrV ta tb σ H Q := ha _ ⟨b, rfl, by
  cases b with
  | false => exact hb rfl _ q
  | true => exact q⟩
end
end NF

/-! Loops and comprehensions beside their models. -/
namespace NF
open PySem PySem.Spec PyProof.Rows L2 TL

/-- what J walks, by its model xs -/
structure TW {α : Type} (B F : Hp) (J : It) (xs : List α) (e : Enc α) : Prop where
  ex : ∃ (G : Hp → Prop) (Y : Nat → Hp → V → Hp → Prop), L2.Walk J xs.length G Y ∧ (∀ H, Le F H → G H) ∧
    ∀ i H v H' F' R x, xs[i]? = some x → Y i H v H' → Fz B F' H R → Le F F' → ∃ F'', Fz B F'' H' R ∧ Ex B F' F'' ∧ e.rep F'' v x
section
variable {K : PySem.W.Frag} {B F H : Hp} {R : List (Addr × HO)} {α β : Type} {e : Enc α} {v : V} {xs : List α} {a : Addr} {z : Str}
theorem TW.list {vs : List V} (h : F a = some (.lst vs)) (r : RL (e.rep F) vs xs) : TW B F (Itl K a) xs e := ⟨_, _, by rw [← r.len]; exact walk_list, fun H l => SqL.of (l _ _ h), fun i H v H' F' R x hx y O l => by
  obtain ⟨rfl, hv⟩ := y
  obtain ⟨u, hu, hr⟩ := r.at hx
  rw [hu] at hv
  cases hv
  exact ⟨F', O, Ex.rfl, e.mono l hr⟩⟩
theorem TW.tup {vs : List V} (h : F a = some (.tup vs)) (r : RL (e.rep F) vs xs) : TW B F (Itt K a) xs e := ⟨_, _, by rw [← r.len]; exact walk_tup, fun H l => SqT.of (l _ _ h), fun i H v H' F' R x hx y O l => by
  obtain ⟨rfl, hv⟩ := y
  obtain ⟨u, hu, hr⟩ := r.at hx
  rw [hu] at hv
  cases hv
  exact ⟨F', O, Ex.rfl, e.mono l hr⟩⟩
def signs (z : Str) : List Str := (tl z).map fun c => ⟨#[c]⟩
theorem signs_len (z : Str) : (signs z).length = z.cps.size := by unfold signs; rw [List.length_map]; exact Array.length_toList
theorem TW.str : TW B F (Its z) (signs z) eStr := ⟨_, _, by rw [signs_len]; exact walk_str, fun _ _ => trivial, fun i H v H' F' R x hx y O l => by
  obtain ⟨rfl, c, hc, rfl⟩ := y
  unfold signs at hx
  rw [List.getElem?_map, tl_at hc] at hx
  exact ⟨F', O, Ex.rfl, by rw [← Option.some.inj hx]; rfl⟩⟩
def rngT (lo hi : Int) : List Int := (List.range (hi - lo).toNat).map fun i : Nat => lo + (i : Int)
theorem rngT_len (lo hi : Int) : (rngT lo hi).length = (hi - lo).toNat := by unfold rngT; rw [List.length_map, List.length_range]
theorem TW.rng {lo hi : Int} : TW B F (Itr lo (hi - lo).toNat) (rngT lo hi) eInt := ⟨_, _, by rw [rngT_len]; exact walk_range, fun _ _ => trivial, fun i H v H' F' R x hx y O l => by
  obtain ⟨rfl, rfl⟩ := y
  unfold rngT at hx
  rw [List.getElem?_map] at hx
  obtain ⟨j, hj, rfl⟩ := Option.map_eq_some_iff.mp hx
  obtain ⟨h1, h2⟩ := List.getElem?_eq_some_iff.mp hj
  rw [List.getElem_range] at h2
  subst h2
  exact ⟨F', O, Ex.rfl, rfl⟩⟩
/-- pairs that are made on the way -/
theorem tw_pair {J : It} {e1 : Enc α} {e2 : Enc β} {zs : List (α × β)} {f g : Nat → Option V} {n : Nat} {G : Hp → Prop} (W : L2.Walk J n G (YPair f g)) (hn : n = zs.length) (hG : ∀ H, Le F H → G H)
    (h : ∀ i x, zs[i]? = some x → ∀ u1 u2, f i = some u1 → g i = some u2 → e1.rep F u1 x.1 ∧ e2.rep F u2 x.2) : TW B F J zs (eP2 e1 e2) := ⟨G, _, by rw [← hn]; exact W, hG, fun i H v H' F' R x hx y O l => by
  obtain ⟨T, u1, u2, rfl, hT, rfl, h1, h2⟩ := y
  obtain ⟨r1, r2⟩ := h i x hx u1 u2 h1 h2
  have l2 := l.trans (O.exN (o := .tup [u1, u2]) hT).le
  exact ⟨_, O.frz hT, O.exN hT, T, u1, u2, rfl, upd_same, e1.mono l2 r1, e2.mono l2 r2⟩⟩
def enumT (xs : List α) : List (Int × α) := xs.zipIdx.map fun p => ((p.2 : Int), p.1)
theorem enumT_len (xs : List α) : (enumT xs).length = xs.length := by unfold enumT; rw [List.length_map, List.length_zipIdx]
theorem enumT_at {xs : List α} {i : Nat} {x : Int × α} (h : (enumT xs)[i]? = some x) : x.1 = (i : Int) ∧ xs[i]? = some x.2 := by
  unfold enumT at h
  rw [List.getElem?_map] at h
  obtain ⟨p, hp, rfl⟩ := Option.map_eq_some_iff.mp h
  rw [List.getElem?_zipIdx] at hp
  obtain ⟨y, hy, rfl⟩ := Option.map_eq_some_iff.mp hp
  simp [hy]
theorem TW.enumL {vs : List V} (h : F a = some (.lst vs)) (r : RL (e.rep F) vs xs) : TW B F (Ite K a) (enumT xs) (eP2 eInt e) :=
  tw_pair walk_enum (by rw [enumT_len, r.len]) (fun H l => SqL.of (l _ _ h)) fun i x hx u1 u2 h1 h2 => by
    obtain ⟨e1, e2⟩ := enumT_at hx
    obtain ⟨u, hu, hr⟩ := r.at e2
    rw [hu] at h2
    cases h1
    cases h2
    exact ⟨by rw [e1]; rfl, hr⟩
theorem TW.zipL {ys : List β} {e2 : Enc β} {b : Addr} {vs us : List V} (h : F a = some (.lst vs)) (r : RL (e.rep F) vs xs) (h2 : F b = some (.lst us)) (s : RL (e2.rep F) us ys) : TW B F (Itz K a b) (xs.zip ys) (eP2 e e2) :=
  tw_pair (walk_zip rfl) (by rw [List.length_zip, r.len, s.len]) (fun H l => ⟨SqL.of (l _ _ h), SqL.of (l _ _ h2)⟩) fun i x hx u1 u2 h1 h2 => by
    rw [List.getElem?_zip_eq_some] at hx
    obtain ⟨w1, hw1, r1⟩ := r.at hx.1
    obtain ⟨w2, hw2, r2⟩ := s.at hx.2
    rw [hw1] at h1
    rw [hw2] at h2
    cases h1
    cases h2
    exact ⟨r1, r2⟩
theorem dropW_at {n : Nat} (xs : List α) (h : n < xs.length) : ∃ x, xs[n]? = some x ∧ xs.drop n = x :: xs.drop (n + 1) := ⟨xs[n], by simp [h], by rw [List.drop_eq_getElem_cons h]⟩

/-! ### for -/
section
variable {σt ρ : Type} {body : α → σt → W (Ctl σt ρ)} {Kf : σt → Prop} {Kr : ρ → Prop} {s0 : σt} {J : It} {σ : L2.St} {g : TG} {tb : TS} {nx bk ct : L2.St → Hp → Prop} {rt : VK}
/-- what holds ahead of the turn for the first of r -/
@[reducible] def NxW (B F : Hp) (body : α → σt → W (Ctl σt ρ)) (Kf : σt → Prop) (Kr : ρ → Prop) (I : σt → L2.St → Hp → List (Addr × HO) → Prop) (r : List α) (σ : L2.St) (H : Hp) : Prop :=
  ∃ s F' R, Ex B F F' ∧ Fz B F' H R ∧ I s σ F' R ∧ forW body Kf Kr r s
theorem y_for (I : σt → L2.St → Hp → List (Addr × HO) → Prop) (T : TW B F J xs e) (O : Fz B F H R) (k : forW body Kf Kr xs s0) (h0 : I s0 σ F R)
    (hs : ∀ x r s σ F0 F' R' H' v, Ex B F F0 → I s σ F0 R' → Ex B F0 F' → Fz B F' H' R' → e.rep F' v x → body x s (ctlK (forW body Kf Kr r) Kf Kr) → g v σ H' fun σ2 H2 => tb ⟨NxW B F body Kf Kr I r, rt, nx, NxW B F body Kf Kr I r⟩ σ2 H2)
    (hd : ∀ s σ F' R' H', Ex B F F' → Fz B F' H' R' → I s σ F' R' → Kf s → nx σ H') : forR g tb ⟨nx, rt, bk, ct⟩ σ J H := by
  obtain ⟨G, Y, W, hG, hy⟩ := T.ex
  refine for_it W (fun i σ H' => NxW B F body Kf Kr I (xs.drop i) σ H') ⟨s0, F, R, Ex.rfl, O, h0, by rw [List.drop_zero]; exact k⟩ ?_ ?_ ?_
  · rintro i σ H' _ ⟨s, F', R', l, O', _⟩
    exact hG _ (l.le.trans O'.leF)
  · rintro i v σ H1 H2 hi ⟨s, F0, R', l, O', hI, kk⟩ y
    obtain ⟨x, hx, hd⟩ := dropW_at xs hi
    obtain ⟨F', O2, l2, hr⟩ := hy i H1 v H2 F0 R' x hx y O' l.le
    rw [hd] at kk
    exact hs x _ s σ F0 F' R' H2 v l hI l2 O2 hr kk
  · rintro σ H' ⟨s, F', R', l, O', hI, kk⟩
    rw [List.drop_length] at kk
    exact hd s σ F' R' H' l O' hI kk
end
/-! ### comprehensions -/
section
variable {body : α → W (Option β)} {K1 : List β → Prop} {er : Enc β} {J : It} {σ : L2.St} {g : TG} {tt : TT} {te : TE} {ws : List Nat} {Q : VK}
/-- what holds ahead of the turn for the first of r, i turns behind it -/
@[reducible] def PvC (B F : Hp) (body : α → W (Option β)) (K1 : List β → Prop) (er : Enc β) (I : List (Addr × HO) → Prop) (p : Addr) (r : List α) (i : Nat) (H : Hp) : Prop :=
  ∃ F' R' acc accT, Ex B F F' ∧ I R' ∧ Fz B F' H (R' ++ [(p, .lst acc)]) ∧ RL (er.rep F') acc accT ∧ acc.length ≤ i ∧ compW body K1 r accT
/-- the end of a turn with an item -/
@[reducible] def cE (B F : Hp) (body : α → W (Option β)) (K1 : List β → Prop) (er : Enc β) (I : List (Addr × HO) → Prop) (p : Addr) (r : List α) (i : Nat) : VK := fun y H =>
  ∃ acc, H p = some (.lst acc) ∧ acc.length < sizeLine ∧ PvC B F body K1 er I p r (i + 1) (upd H p (.lst (acc ++ [y])))
theorem cE_mk {I : List (Addr × HO) → Prop} {p : Addr} {r : List α} {i : Nat} {acc : List V} {accT : List β} {y : V} {yT : β} {F' : Hp} {R' : List (Addr × HO)} (hi : i < sizeLine) (l : Ex B F F') (hI : I R') (O : Fz B F' H (R' ++ [(p, .lst acc)])) (ha : RL (er.rep F') acc accT) (hl : acc.length ≤ i) (hy : er.rep F' y yT)
    (k : compW body K1 r (accT ++ [yT])) : cE B F body K1 er I p r i y H :=
  ⟨acc, O.getL, Nat.lt_of_le_of_lt hl hi, F', R', acc ++ [y], accT ++ [yT], l, hI, O.putL _, ha.snoc hy, by rw [List.length_append]; exact Nat.add_le_add hl (Nat.le_refl 1), k⟩
theorem cN_mk {I : List (Addr × HO) → Prop} {p : Addr} {r : List α} {i : Nat} {acc : List V} {accT : List β} {F' : Hp} {R' : List (Addr × HO)} (l : Ex B F F') (hI : I R') (O : Fz B F' H (R' ++ [(p, .lst acc)])) (ha : RL (er.rep F') acc accT) (hl : acc.length ≤ i)
    (k : compW body K1 r accT) : PvC B F body K1 er I p r (i + 1) H := ⟨F', R', acc, accT, l, hI, O, ha, by omega, k⟩
theorem y_comp (I : List (Addr × HO) → Prop) (T : TW B F J xs e) (O : Fz B F H R) (k : compW body K1 xs []) (hz : xs.length ≤ sizeLine) (h0 : I R)
    (hs : ∀ i x r p acc accT F0 F' R' H' v, i < sizeLine → Ex B F F0 → I R' → RL (er.rep F0) acc accT → acc.length ≤ i → Ex B F0 F' → Fz B F' H' (R' ++ [(p, .lst acc)]) → e.rep F' v x → body x (compK (compW body K1 r) accT) →
      g v (wipe σ ws) H' fun σ2 H2 => wipe σ2 ws = wipe σ ws ∧ tt σ2 H2 fun b H3 => if b = true then te σ2 H3 (cE B F body K1 er I p r i) else PvC B F body K1 er I p r (i + 1) H3)
    (hd : ∀ p F' R' acc accT H', Ex B F F' → I R' → Fz B F' H' (R' ++ [(p, .lst acc)]) → RL (er.rep F') acc accT → K1 accT → Q (.ref p) H') : lcR g tt te ws σ Q J H := by
  obtain ⟨G, Y, W, hG, hy⟩ := T.ex
  intro p hp
  refine lc_it W (fun i H' => PvC B F body K1 er I p (xs.drop i) i H') ⟨F, R, [], [], Ex.rfl, h0, O.mut hp, .nil, Nat.le_refl _, by rw [List.drop_zero]; exact k⟩ ?_ ?_ ?_
  · rintro i H' _ ⟨F', R', acc, accT, l, _, O', _⟩
    exact hG _ (l.le.trans O'.leF)
  · rintro i v H1 H2 hi ⟨F0, R', acc, accT, l, hI, O', ha, hl, kk⟩ y
    obtain ⟨x, hx, hd⟩ := dropW_at xs hi
    obtain ⟨F', O2, l2, hr⟩ := hy i H1 v H2 F0 _ x hx y O' l.le
    rw [hd] at kk
    exact hs i x _ p acc accT F0 F' R' H2 v (by omega) l hI ha hl l2 O2 hr kk
  · rintro H' ⟨F', R', acc, accT, l, hI, O', ha, hl, kk⟩
    rw [List.drop_length] at kk
    exact hd p F' R' acc accT H' l hI O' ha kk
end
end
/-! the iterators by what is handed in -/
section
variable {K : PySem.W.Frag} {B F H : Hp} {R : List (Addr × HO)} {α β : Type} {e : Enc α} {e2 : Enc β} {v w : V} {xs : List α} {ys : List β} {z : Str} {RI : It → Hp → Prop}
theorem y_jL (l : Le F H) (h : (eLst e).rep F v xs) (q : ∀ a, TW B F (Itl K a) xs e → RI (Itl K a) H) : jList K v H RI := by
  obtain ⟨a, vs, rfl, ha, r⟩ := h
  exact ⟨a, rfl, ⟨vs, SqL.of (l _ _ ha)⟩, q a (TW.list ha r)⟩
theorem y_jT (l : Le F H) (h : (eTup e).rep F v xs) (q : ∀ a, TW B F (Itt K a) xs e → RI (Itt K a) H) : jTup K v H RI := by
  obtain ⟨a, vs, rfl, ha, r⟩ := h
  exact ⟨a, rfl, ⟨vs, SqT.of (l _ _ ha)⟩, q a (TW.tup ha r)⟩
theorem y_jS (q : TW B F (Its z) (signs z) eStr → RI (Its z) H) : jStr (.str z) H RI := ⟨z, rfl, q TW.str⟩
theorem y_jR1 {n : Int} (hn : -(2 ^ 62) ≤ n ∧ n < 2 ^ 62) (q : ∀ J, TW B F J (rngT 0 n) eInt → RI J H) : jRng1 [.int n] H RI :=
  ⟨n, rfl, hn.1, hn.2, by
    have h := q _ (TW.rng (lo := 0) (hi := n))
    rw [Int.sub_zero] at h
    exact h⟩
theorem y_jR2 {m n : Int} (hm : -(2 ^ 62) ≤ m ∧ m < 2 ^ 62) (hn : -(2 ^ 62) ≤ n ∧ n < 2 ^ 62) (q : ∀ J, TW B F J (rngT m n) eInt → RI J H) : jRng2 [.int m, .int n] H RI :=
  ⟨m, n, rfl, ⟨hm.1, hm.2, hn.1, hn.2⟩, q _ TW.rng⟩
theorem y_jEL (l : Le F H) (h : (eLst e).rep F v xs) (q : ∀ a, TW B F (Ite K a) (enumT xs) (eP2 eInt e) → RI (Ite K a) H) : jEnum K [v] H RI := by
  obtain ⟨a, vs, rfl, ha, r⟩ := h
  exact ⟨a, vs, rfl, SqL.of (l _ _ ha), q a (TW.enumL ha r)⟩
end
end NF

/-! More steps beside the model. -/
namespace NF
open PySem PySem.Spec PyProof.Rows L2 TL
abbrev sg (c : Nat) : Str := ⟨#[c]⟩
def eChr : Enc Nat := ⟨fun _ v x => v = .str (sg x), fun _ h => h⟩
def eFn (f : Addr) : Enc Unit := ⟨fun _ v _ => v = .ref f, fun _ h => h⟩
instance : NN eChr := ⟨fun h => nomatch h⟩
def bI (b : Bool) : Int := if b then 1 else 0
abbrev strI (i : Int) : Str := toString i
section
variable {F : Hp} {P : V → Prop}
@[elab_as_elim] theorem byI (v : V) {x : Int} (h : eInt.rep F v x) (q : P (.int x)) : P v := by cases h; exact q
@[elab_as_elim] theorem byS (v : V) {x : Str} (h : eStr.rep F v x) (q : P (.str x)) : P v := by cases h; exact q
@[elab_as_elim] theorem byB (v : V) {x : Bool} (h : eBool.rep F v x) (q : P (.bl x)) : P v := by cases h; exact q
@[elab_as_elim] theorem byC (v : V) {x : Nat} (h : eChr.rep F v x) (q : P (.str (sg x))) : P v := by cases h; exact q
@[elab_as_elim] theorem byN (v : V) {x : Unit} (h : eNon.rep F v x) (q : P .non) : P v := by cases h; exact q
end
theorem notN_t {b : Bool} (h : (!b) = true) : b = false := by cases b <;> simp_all
theorem notN_f {b : Bool} (h : (!b) = false) : b = true := by cases b <;> simp_all
section
variable {α β : Type} {e : Enc α} {F : Hp} {v : V} {x : Option α} {y : α}
theorem noneR (h : (eOpt e).rep F v x) (hx : x = none) : eNon.rep F v () := by subst hx; exact h
theorem someR (h : (eOpt e).rep F v x) (hx : x = some y) : e.rep F v y := by subst hx; exact h
end
section
variable {K : PySem.W.Frag} {B F H : Hp} {R : List (Addr × HO)} {α β : Type} {e : Enc α} {v w : V} {xs ys : List α} {Q : VK} {QT : Bool → Hp → Prop} {vs : List V} {a p : Addr} {σ : L2.St} {tt tu : TT}
theorem vwL (O : Fz B F H R) (j : Nat) (hj : R[j]? = some (p, .lst vs)) (r : RL (e.rep F) vs xs) : (eLst e).rep (upd F p (.lst vs)) (.ref p) xs := ⟨p, vs, rfl, upd_same, r.mono fun _ _ => e.mono (O.exF j hj).le⟩
theorem castR {R' X : List (Addr × HO)} (h : R' = R) (O : Fz B F H (R' ++ X)) : Fz B F H (R ++ X) := h ▸ O
theorem keepB {H0 : Hp} (l : Le (del H0 a) H) : ∀ b o, b ≠ a → H0 b = some o → H b = some o := fun b o n h => l b o (by unfold del; rw [if_neg n]; exact h)
theorem exB {H0 F' : Hp} {c : HO} {X : List (Addr × HO)} (l : Ex (del H0 a) F F') (O : Fz B F' H ((a, c) :: X)) : Ex H0 F F' := ⟨l.le, fun b o h1 h2 => by
  by_cases n : b = a
  · rw [n]; exact O.nF (a, c) List.mem_cons_self
  · exact l.new b o h1 (by unfold del; rw [if_neg n]; exact h2)⟩
theorem y_app2 (O : Fz B F H R) (j : Nat) (hj : R[j]? = some (p, .lst vs)) (r : RL (e.rep F) vs xs) (hz : xs.length < sizeLine) (q : ∀ H', Fz B F H' (R.set j (p, .lst (vs ++ [v]))) → Q .non H') : rAppend (.ref p) [v] H Q :=
  ⟨p, vs, v, rfl, rfl, O.get j hj, by rw [r.len]; exact hz, q _ (O.put j hj _)⟩
theorem y_andT {b c : Bool} (ha : ∀ Q : Bool → Hp → Prop, Q b H → tt σ H Q) (hb : b = true → ∀ Q : Bool → Hp → Prop, Q c H → tu σ H Q) (q : QT (b && c) H) : tAnd tt tu σ H QT := x_andP ha hb q
theorem y_orT {b c : Bool} (ha : ∀ Q : Bool → Hp → Prop, Q b H → tt σ H Q) (hb : b = false → ∀ Q : Bool → Hp → Prop, Q c H → tu σ H Q) (q : QT (b || c) H) : tOr tt tu σ H QT := x_orP ha hb q
theorem y_allR {bs : List Bool} (l : Le F H) (h : (eLst eBool).rep F v bs) (q : Q (.bl (bs.all id)) H) : rAll K [v] H Q := by
  obtain ⟨a, vs, rfl, ha, r⟩ := h
  have e := r.mapV (f := V.bl) fun _ _ h => h
  subst e
  exact ⟨a, bs, rfl, SqL.of (l _ _ ha), q⟩
theorem x_intB {b : Bool} (q : Q (.int (bI b)) H) : rInt [.bl b] H Q := .inr ⟨b, rfl, q⟩
def MulOk (z : Str) (n : Int) : Prop := z.length ≤ 1000000 ∧ n ≤ 1000000 ∧ -1000000 ≤ n ∧ z.length * n.toNat ≤ sizeLine
theorem y_mulS {z : Str} {n : Int} (h : MulOk z n) (q : Q (.str (Txt.mul z n)) H) : rMulS (.str z) (.int n) H Q := x_mulS h.1 h.2.1 h.2.2.1 h.2.2.2 q
theorem TW.chr {z : Str} : TW B F (Its z) (tl z) eChr := ⟨_, _, by rw [show (tl z).length = z.cps.size from Array.length_toList]; exact walk_str, fun _ _ => trivial, fun i H v H' F' R x hx y O l => by
  obtain ⟨rfl, c, hc, rfl⟩ := y
  have e := tl_at hc
  rw [hx] at e
  exact ⟨F', O, Ex.rfl, by rw [Option.some.inj e]; rfl⟩⟩
theorem y_jC {z : Str} {RI : It → Hp → Prop} (q : ∀ J, TW B F J (tl z) eChr → RI J H) : jStr (.str z) H RI := ⟨z, rfl, q _ TW.chr⟩
end
@[reducible] def W.intS {β : Type} (z : Str) (f : Int → W β) : W β := fun K => ∃ n, PySem.intText? z = some n ∧ z.length ≤ 640 ∧ f n K
theorem x_doc {nx bk ct : L2.St → Hp → Prop} {rt : VK} {σ : L2.St} {H : Hp} (q : nx σ H) : tNext ⟨nx, rt, bk, ct⟩ σ H := q
/-! ### joins behind an if -/
section
variable {B F H : Hp} {R : List (Addr × HO)} {σt ρ : Type} {m : W σt} {f : σt → W ρ} {K0 : ρ → Prop} {s1 s2 : TS} {nx bk ct : L2.St → Hp → Prop} {rt : VK} {σ : L2.St}
@[reducible] def NxI (B F : Hp) (f : σt → W ρ) (K0 : ρ → Prop) (I : σt → L2.St → Hp → List (Addr × HO) → Prop) (σ : L2.St) (H : Hp) : Prop := ∃ s F' R, Ex B F F' ∧ Fz B F' H R ∧ I s σ F' R ∧ f s K0
theorem y_cut (I : σt → L2.St → Hp → List (Addr × HO) → Prop) (O : Fz B F H R) (k : W.bind m f K0) (h1 : m (fun s => f s K0) → Ex B F F → s1 ⟨NxI B F f K0 I, rt, bk, ct⟩ σ H)
    (h2 : ∀ s σ F' R' H', Ex B F F' → Fz B F' H' R' → I s σ F' R' → f s K0 → s2 ⟨nx, rt, bk, ct⟩ σ H') : Evl.tCut s1 s2 ⟨nx, rt, bk, ct⟩ σ H :=
  ⟨_, h1 k Ex.rfl, fun σ' H' ⟨s, F', R', l, O', hI, hk⟩ => h2 s σ' F' R' H' l O' hI hk⟩
end
/-! ### equality of data -/
class EnD {α : Type} [DecidableEq α] (e : Enc α) where
  dat : α → PyData
  dp : ∀ {K : PySem.W.Frag} {F H : Hp} {v : V} {x : α}, Le F H → e.rep F v x → Dp K H v (dat x)
  deep : Nat
  good : α → Prop
  lay : ∀ x, good x → PyData.canLay0 (dat x) = true
  dep : ∀ x, PyData.depth (dat x) ≤ deep
  eqv : ∀ x y, PyData.eqv (dat x) (dat y) = decide (x = y)
abbrev EqOk {α : Type} [DecidableEq α] (e : Enc α) [EnD e] (x : α) : Prop := EnD.good e x
section
variable {α β γ : Type} [DecidableEq α] [DecidableEq β] [DecidableEq γ] {e : Enc α} {e2 : Enc β} {e3 : Enc γ}
instance : EnD eInt := ⟨.int, fun _ h => by cases h; exact .int _, 0, fun _ => True, fun _ _ => by simp only [PyData.canLay0], fun _ => by simp only [PyData.depth]; exact Nat.le_refl _, fun x y => by
  simp only [PyData.eqv]
  by_cases h : x = y
  · rw [h]; simp
  · simp [h]⟩
instance : EnD eStr := ⟨.str, fun _ h => by cases h; exact .str _, 0, fun z => ∀ c ∈ tl z, c < 1114112, fun z h => by
  simp only [PyData.canLay0]
  unfold PyData.strOk
  rw [← Array.all_toList, List.all_eq_true]
  intro n hn
  exact decide_eq_true (h n hn), fun _ => by simp only [PyData.depth]; exact Nat.le_refl _, fun x y => by
  simp only [PyData.eqv]
  by_cases h : x = y
  · rw [h]; simp
  · simp [h]⟩
instance : EnD eBool := ⟨.bool, fun _ h => by cases h; exact .bl _, 0, fun _ => True, fun _ _ => by simp only [PyData.canLay0], fun _ => by simp only [PyData.depth]; exact Nat.le_refl _, fun x y => by
  simp only [PyData.eqv]
  cases x <;> cases y <;> rfl⟩
theorem dp_RL [EnD e] {K : PySem.W.Frag} {F H : Hp} (l : Le F H) : ∀ {vs : List V} {xs : List α}, RL (e.rep F) vs xs → DpAll K H vs (xs.map (EnD.dat e))
  | _, _, .nil => .nil
  | _, _, .cons a r => .cons (EnD.dp l a) (dp_RL l r)
theorem lay_all [EnD e] : ∀ xs : List α, (∀ x ∈ xs, EnD.good e x) → PyData.canLayAll0 (xs.map (EnD.dat e)) = true
  | [], _ => by simp only [List.map_nil, PyData.canLayAll0]
  | x :: xs, h => by simp only [List.map_cons, PyData.canLayAll0, EnD.lay x (h x List.mem_cons_self), lay_all xs (fun y hy => h y (List.mem_cons_of_mem _ hy)), Bool.and_self]
theorem dep_all [EnD e] : ∀ xs : List α, PyData.depthAll (xs.map (EnD.dat e)) ≤ EnD.deep e
  | [] => by simp only [List.map_nil, PyData.depthAll]; exact Nat.zero_le _
  | x :: xs => by simp only [List.map_cons, PyData.depthAll]; exact Nat.max_le.mpr ⟨EnD.dep x, dep_all xs⟩
theorem eqv_all [EnD e] : ∀ xs ys : List α, PyData.eqvAll (xs.map (EnD.dat e)) (ys.map (EnD.dat e)) = decide (xs = ys)
  | [], [] => by simp only [List.map_nil, PyData.eqvAll]; rfl
  | [], y :: ys => by simp only [List.map_nil, List.map_cons, PyData.eqvAll]; rfl
  | x :: xs, [] => by simp only [List.map_nil, List.map_cons, PyData.eqvAll]; rfl
  | x :: xs, y :: ys => by
    simp only [List.map_cons, PyData.eqvAll, EnD.eqv, eqv_all xs ys]
    by_cases h1 : x = y
    · by_cases h2 : xs = ys
      · simp [h1, h2]
      · simp [h1, h2]
    · simp [h1]
instance [EnD e] : EnD (eTup e) := ⟨fun xs => .tuple (xs.map (EnD.dat e)), fun l ⟨a, vs, h, ha, r⟩ => by subst h; exact .tup (SqT.of (l _ _ ha)) (dp_RL l r), EnD.deep e + 1, fun xs => ∀ x ∈ xs, EnD.good e x, fun xs h => by
  simp only [PyData.canLay0]; exact lay_all xs h, fun xs => by
  have := dep_all (e := e) xs
  simp only [PyData.depth]; omega, fun xs ys => by simp only [PyData.eqv]; exact eqv_all xs ys⟩
instance [EnD e] : EnD (eLst e) := ⟨fun xs => .list (xs.map (EnD.dat e)), fun l ⟨a, vs, h, ha, r⟩ => by subst h; exact .lst (SqL.of (l _ _ ha)) (dp_RL l r), EnD.deep e + 1, fun xs => ∀ x ∈ xs, EnD.good e x, fun xs h => by
  simp only [PyData.canLay0]; exact lay_all xs h, fun xs => by
  have := dep_all (e := e) xs
  simp only [PyData.depth]; omega, fun xs ys => by simp only [PyData.eqv]; exact eqv_all xs ys⟩
instance [EnD e] [EnD e2] : EnD (eP2 e e2) := ⟨fun x => .tuple [EnD.dat e x.1, EnD.dat e2 x.2], fun l ⟨a, v1, v2, h, ha, h1, h2⟩ => by subst h; exact .tup (SqT.of (l _ _ ha)) (.cons (EnD.dp l h1) (.cons (EnD.dp l h2) .nil)), max (EnD.deep e) (EnD.deep e2) + 1, fun x => EnD.good e x.1 ∧ EnD.good e2 x.2, fun x h => by
  simp only [PyData.canLay0, PyData.canLayAll0, EnD.lay _ h.1, EnD.lay _ h.2, Bool.and_self], fun x => by
  have h1 := EnD.dep (e := e) x.1
  have h2 := EnD.dep (e := e2) x.2
  simp only [PyData.depth, PyData.depthAll]; omega, fun x y => by
  simp only [PyData.eqv, PyData.eqvAll, EnD.eqv, Bool.and_true]
  obtain ⟨x1, x2⟩ := x
  obtain ⟨y1, y2⟩ := y
  by_cases h1 : x1 = y1 <;> by_cases h2 : x2 = y2 <;> simp [h1, h2]⟩
instance [EnD e] [EnD e2] [EnD e3] : EnD (eP3 e e2 e3) := ⟨fun x => .tuple [EnD.dat e x.1, EnD.dat e2 x.2.1, EnD.dat e3 x.2.2], fun l ⟨a, v1, v2, v3, h, ha, h1, h2, h3⟩ => by subst h; exact .tup (SqT.of (l _ _ ha)) (.cons (EnD.dp l h1) (.cons (EnD.dp l h2) (.cons (EnD.dp l h3) .nil))), max (EnD.deep e) (max (EnD.deep e2) (EnD.deep e3)) + 1, fun x => EnD.good e x.1 ∧ EnD.good e2 x.2.1 ∧ EnD.good e3 x.2.2, fun x h => by
  simp only [PyData.canLay0, PyData.canLayAll0, EnD.lay _ h.1, EnD.lay _ h.2.1, EnD.lay _ h.2.2, Bool.and_self], fun x => by
  have h1 := EnD.dep (e := e) x.1
  have h2 := EnD.dep (e := e2) x.2.1
  have h3 := EnD.dep (e := e3) x.2.2
  simp only [PyData.depth, PyData.depthAll]; omega, fun x y => by
  simp only [PyData.eqv, PyData.eqvAll, EnD.eqv, Bool.and_true]
  obtain ⟨x1, x2, x3⟩ := x
  obtain ⟨y1, y2, y3⟩ := y
  by_cases h1 : x1 = y1 <;> by_cases h2 : x2 = y2 <;> by_cases h3 : x3 = y3 <;> simp [h1, h2, h3]⟩
variable {K : PySem.W.Frag} {F H : Hp} {v w : V} {x y : α} {Q : VK}
theorem shaped_of [EnD e] (hd : EnD.deep e ≤ 64) (h : EnD.good e x) : SeqAt.shaped (EnD.dat e x) = true := by
  unfold SeqAt.shaped
  rw [EnD.lay x h, Bool.true_and]
  have := EnD.dep (e := e) x
  exact decide_eq_true (by omega)
theorem y_eqD [EnD e] (l : Le F H) (h1 : e.rep F v x) (h2 : e.rep F w y) (g1 : EnD.good e x) (g2 : EnD.good e y) (q : Q (.bl (decide (x = y))) H) (hd : EnD.deep e ≤ 64 := by decide) : rEqD K v w H Q :=
  ⟨_, _, EnD.dp l h1, EnD.dp l h2, shaped_of hd g1, shaped_of hd g2, by rw [EnD.eqv]; exact q⟩
theorem y_neD [EnD e] (l : Le F H) (h1 : e.rep F v x) (h2 : e.rep F w y) (g1 : EnD.good e x) (g2 : EnD.good e y) (q : Q (.bl (!decide (x = y))) H) (hd : EnD.deep e ≤ 64 := by decide) : rNeD K v w H Q :=
  ⟨_, _, EnD.dp l h1, EnD.dp l h2, shaped_of hd g1, shaped_of hd g2, by rw [EnD.eqv]; exact q⟩
end
end NF
namespace NF
open PySem PySem.Spec PyProof.Rows L2 TL
theorem rd_le {H H' : Hp} {a : Addr} {u : HO} (l : Le H H') (h : Rd H a u) : Rd H' a u := by
  rcases h with h | ⟨o, h⟩
  · exact .inl (l _ _ h)
  · exact .inr ⟨o, l _ _ h⟩
theorem sqL_le {K : PySem.W.Frag} {H H' : Hp} {a : Addr} {xs : List V} (l : Le H H') (h : SqL K H a xs) : SqL K H' a xs := by
  rcases h with h | h
  · exact .inl (rd_le l h)
  · exact .inr h
theorem Own.le0 {H H' : Hp} {R : List (Addr × HO)} (O : Own H H' [] R) (h : ∀ x ∈ R, H x.1 = none) : Le H H' := fun a o e => O.staysR h e
theorem Own.startB {H : Hp} {a : Addr} {o : HO} (h : H a = some o) : Own (del H a) H [] [(a, o)] := ⟨by simp, fun x hx => by
  have e : x = (a, o) := by simpa using hx
  rw [e]; exact h, fun b _ u e => del_le b u e⟩
theorem Own.leB {H H' : Hp} {a : Addr} {R : List (Addr × HO)} (O : Own (del H a) H' [] R) (h : ∀ x ∈ R, del H a x.1 = none) : Le (del H a) H' := fun b u e => O.staysR h e
theorem del_self {H : Hp} {a : Addr} : del H a a = none := if_pos rfl
theorem x_lenSqL {K : PySem.W.Frag} {H : Hp} {Q : VK} {a : Addr} {xs : List V} (h : SqL K H a xs) (q : Q (.int xs.length) H) : rLen K [.ref a] H Q := ⟨.ref a, _, rfl, .inl ⟨xs, h, rfl⟩, q⟩
theorem x_ixSqL {K : PySem.W.Frag} {H : Hp} {Q : VK} {a : Addr} {xs : List V} {i : Int} {v : V} (h : SqL K H a xs) (hv : atI xs i = some v) (q : Q v H) : rIxL K (.ref a) (.int i) H Q := ⟨a, xs, i, v, rfl, rfl, h, hv, q⟩
/-- a new open object out of a call -/
theorem Fz.newB {B F H H' : Hp} {R : List (Addr × HO)} {p : Addr} {o : HO} (O : Fz B F H R) (l : Le H H') (hp : H p = none) (h : H' p = some o) : Fz B F H' (R ++ [(p, o)]) := by
  have hn := O.fresh hp
  refine ⟨O.leB.trans l, O.leF.trans l, ?_, fun x hx => ?_, fun x hx => ?_, fun x hx => ?_⟩
  · rw [List.map_append]
    refine List.nodup_append.mpr ⟨O.nd, by simp, fun y hy z hz => ?_⟩
    have ez : z = p := by simpa using hz
    intro e
    rw [e, ez] at hy
    exact hn hy
  · rcases List.mem_append.mp hx with hx | hx
    · exact l _ _ (O.at_ x hx)
    · rw [List.mem_singleton.mp hx]; exact h
  · rcases List.mem_append.mp hx with hx | hx
    · exact O.nB x hx
    · rw [List.mem_singleton.mp hx]; exact none_of_le O.leB hp
  · rcases List.mem_append.mp hx with hx | hx
    · exact O.nF x hx
    · rw [List.mem_singleton.mp hx]; exact none_of_le O.leF hp
end NF

namespace NF
open PySem PySem.Spec PyProof.Rows L2 TL
section
variable {K : PySem.W.Frag} {B F H : Hp} {R : List (Addr × HO)} {α β : Type} {e : Enc α} {e3 : Enc β} {v : V} {Q : VK}
theorem y_slP22 {x : α × α} (O : Fz B F H R) (h : (eP2 e e).rep F v x) (q : ∀ u F' H', (eTup e).rep F' u [x.1, x.2] → Ex B F F' → Fz B F' H' R → Q u H') : rSlA K v none (some 2) H Q := by
  obtain ⟨a, v1, v2, rfl, h0, h1, h2⟩ := h
  refine ⟨a, [v1, v2], rfl, SqT.of (O.leF _ _ h0), fun _ => q _ F H ⟨a, _, rfl, h0, .cons h1 (.cons h2 .nil)⟩ Ex.rfl O, fun hn => absurd (show HT.sIx 2 0 none = 0 ∧ HT.sIx 2 2 (some 2) = 2 by decide) hn⟩
theorem y_slP32 {x : α × α × β} (O : Fz B F H R) (h : (eP3 e e e3).rep F v x) (q : ∀ u F' H', (eTup e).rep F' u [x.1, x.2.1] → Ex B F F' → Fz B F' H' R → Q u H') : rSlA K v none (some 2) H Q := by
  obtain ⟨a, v1, v2, v3, rfl, h0, h1, h2, h3⟩ := h
  refine ⟨a, [v1, v2, v3], rfl, SqT.of (O.leF _ _ h0), fun hn => absurd hn (show ¬ (HT.sIx 3 0 none = 0 ∧ HT.sIx 3 3 (some 2) = 3) by decide), fun _ p hp => ?_⟩
  have l := (O.exN (o := .tup (cutV [v1, v2, v3] none (some 2))) hp).le
  exact q _ _ _ ⟨p, _, rfl, upd_same, .cons (e.mono l h1) (.cons (e.mono l h2) .nil)⟩ (O.exN hp) (O.frz hp)
end
/-- what a try tells: the value, or that it was refused -/
def eTold {α : Type} (e : Enc α) : Enc (Except Unit α) := ⟨fun F v r => match r with | .ok y => (eP2 eInt e).rep F v (0, y) | .error _ => (eP2 eInt eBool).rep F v (1, true), fun {_ _ _ r} l h => match r, h with | .ok _, h => Enc.mono _ l h | .error _, h => Enc.mono _ l h⟩
end NF
namespace NF
open PySem PySem.Spec PyProof.Rows L2 TL
section
variable {P : Program} {K : PySem.W.Frag} {mg : Str → Option Value} {A : Str} {H : Hp} {Q : VK} {a : Addr} {b : Bool}
theorem x_isX0C {B : Str} (T : XFact0 P K mg A) (p : XPair K (.ref (cad mg A)) (.ref (cad mg B)) b) (q : Q (.bl b) H) : rIsX0 K a (.ref (cad mg A)) none [.ref a, .ref (cad mg B)] H Q :=
  ⟨_, b, rfl, T.exc, rfl, .inl ⟨_, _, rfl, fun u h => h, p.kit⟩, q⟩
theorem x_isX0B {n : String} (T : XFact0 P K mg A) (p : XPair K (.ref (cad mg A)) (.type n) b) (q : Q (.bl b) H) : rIsX0 K a (.ref (cad mg A)) none [.ref a, .ty n] H Q :=
  ⟨_, b, rfl, T.exc, rfl, .inl ⟨_, _, rfl, fun u h => h, p.kit⟩, q⟩
theorem x_isX0T {tp : Addr} (cs : List Addr) (T : XFact0 P K mg A) (ht : H tp = some (.tup (cs.map V.ref))) (p : PySem.W.kitAny K (.ref (cad mg A)) (cs.map Value.ref) = some b) (q : Q (.bl b) H) : rIsX0 K a (.ref (cad mg A)) none [.ref a, .ref tp] H Q :=
  ⟨_, b, rfl, T.exc, rfl, .inr ⟨tp, _, _, rfl, ht, vals_refs, p⟩, q⟩
end
end NF
namespace NF
open PySem L2
theorem dec_isN {α : Type} {e : Enc α} [NN e] {F : Hp} {v : V} {x : Option α} (h : (eOpt e).rep F v x) : decide (v = V.non) = x.isNone := by
  cases x with
  | none =>
    have hv : v = .non := h
    subst hv
    rfl
  | some y =>
    have hv : v ≠ .non := fun q => NN.nn (e := e) (F := F) (x := y) (by rw [q] at h; exact h)
    rw [decide_eq_false hv]
    rfl
end NF

namespace NF
open PySem L2 TL
def top (i : Nat) : Stmt := PySem.Challenge.pw_nestform_k38_paper_forms.main.body.getD i (.Pass ⟨0, 0, 0, 0⟩)
abbrev s_is_letters : Stmt := top 8
abbrev s_whole_number : Stmt := top 13
abbrev s_letters_of : Stmt := top 14
abbrev s_all_read : Stmt := top 15
abbrev s_write_letters : Stmt := top 16
abbrev s_write_pairs : Stmt := top 18
abbrev s_read_pairs : Stmt := top 19
abbrev s_write_rows : Stmt := top 20
abbrev s_read_rows : Stmt := top 21
abbrev s_paper_form : Stmt := top 22
abbrev s_paper_of : Stmt := top 23
abbrev s_state_form : Stmt := top 24
abbrev s_row_form : Stmt := top 25
abbrev s_state_of : Stmt := top 26
abbrev s_pair_of : Stmt := top 27
abbrev s_row_of : Stmt := top 28
abbrev s_law_box : Stmt := top 30
abbrev s_law_take : Stmt := top 31
abbrev s_law_drawn_number : Stmt := top 32
abbrev s_law_state : Stmt := top 33
abbrev s_law_drawn_pairs : Stmt := top 34
abbrev s_law_string : Stmt := top 35
abbrev s_law_drawn_rows : Stmt := top 36
abbrev s_law_state_line : Stmt := top 37
abbrev s_law_pairs_line : Stmt := top 38
abbrev s_law_letters_of : Stmt := top 39
abbrev s_law_letters_line : Stmt := top 40
abbrev s_law_rows_line : Stmt := top 41
abbrev s_law_number_of : Stmt := top 42
abbrev s_law_state_of : Stmt := top 43
abbrev s_law_strings_of : Stmt := top 44
abbrev s_law_pairs_of : Stmt := top 45
abbrev s_law_rows_of : Stmt := top 46
abbrev s_law_told_pairs : Stmt := top 47
abbrev s_law_told_rows : Stmt := top 48
abbrev s_law_same : Stmt := top 49
abbrev s_law_pairs_asked : Stmt := top 50
abbrev s_law_rows_asked : Stmt := top 51
abbrev s_law_pairs_hold : Stmt := top 52
abbrev s_law_rows_hold : Stmt := top 53
abbrev s_law_both_hold : Stmt := top 54
abbrev s_law_menu_holds : Stmt := top 55
abbrev s_law_runs : Stmt := top 56
abbrev s_law_sign_spoiled : Stmt := top 57
abbrev s_law_piece_spoiled : Stmt := top 58
abbrev s_law_end_spoiled : Stmt := top 59
abbrev s_law_number_spoiled : Stmt := top 60
abbrev s_law_spoiled : Stmt := top 61
abbrev s_law : Stmt := top 62
abbrev s_all_readN : Stmt := top 15
abbrev s_all_readL : Stmt := top 15
abbrev s_all_readS : Stmt := top 15
abbrev s_all_readP : Stmt := top 15
abbrev s_all_readR : Stmt := top 15
abbrev s_paper_ofP : Stmt := top 23
abbrev s_paper_ofR : Stmt := top 23
abbrev s_write_pairsL : Stmt := top 18
abbrev s_write_pairsT : Stmt := top 18
abbrev s_write_rowsL : Stmt := top 20
abbrev s_write_rowsT : Stmt := top 20
abbrev s_law_sameP : Stmt := top 49
abbrev s_law_sameR : Stmt := top 49
structure Txt (P : Program) (K : PySem.W.Frag) (mg : Str → Option Value) : Prop where
  b_abs : mg "abs" = none
  b_all : mg "all" = none
  b_bool : mg "bool" = none
  b_int : mg "int" = none
  b_isinstance : mg "isinstance" = none
  b_len : mg "len" = none
  b_list : mg "list" = none
  b_max : mg "max" = none
  b_min : mg "min" = none
  b_range : mg "range" = none
  b_str : mg "str" = none
  b_sum : mg "sum" = none
  b_tuple : mg "tuple" = none
  g_EMPTY : ∃ u, mg "EMPTY" = some u ∧ RelV (.str ".") u
  g_MOST_DIGITS : ∃ u, mg "MOST_DIGITS" = some u ∧ RelV (.int 9) u
  g_NAMES : ∃ u, mg "NAMES" = some u ∧ RelV (.str "abcdefgh") u
  g_CLOSINGS : ∃ u, mg "_CLOSINGS" = some u ∧ RelV (.str "ABCDEFGH") u
  g_DIGITS : ∃ u, mg "_DIGITS" = some u ∧ RelV (.str "0123456789") u
  n_BadForm : mg "BadForm" = some (.ref (cad mg "BadForm"))
  n_LimitError : mg "LimitError" = some (.ref (cad mg "LimitError"))
  n_NestError : mg "NestError" = some (.ref (cad mg "NestError"))
  n_NotNested : mg "NotNested" = some (.ref (cad mg "NotNested"))
  n__pair_of : mg "_pair_of" = some (.ref (cad mg "_pair_of"))
  n__row_of : mg "_row_of" = some (.ref (cad mg "_row_of"))
  n__state_of : mg "_state_of" = some (.ref (cad mg "_state_of"))
  n_letters_of : mg "letters_of" = some (.ref (cad mg "letters_of"))
  n_whole_number : mg "whole_number" = some (.ref (cad mg "whole_number"))
  x_BadForm : XFact0 P K mg "BadForm"
  p_BadForm_BadForm : XPair K (.ref (cad mg "BadForm")) (.ref (cad mg "BadForm")) true
  p_BadForm_LimitError : XPair K (.ref (cad mg "BadForm")) (.ref (cad mg "LimitError")) false
  p_BadForm_NestError : XPair K (.ref (cad mg "BadForm")) (.ref (cad mg "NestError")) true
  p_BadForm_NotNested : XPair K (.ref (cad mg "BadForm")) (.ref (cad mg "NotNested")) false
/-! the walk's own steps -/
local macro_rules | `(tactic| walk_at "own") => `(tactic| first
  | assumption
  | (refine' NF.Own.get ?O 0 ?h; (case O => assumption); (case h => exact rfl))
  | (refine' NF.Own.get ?O 1 ?h; (case O => assumption); (case h => exact rfl))
  | (refine' NF.Own.get ?O 2 ?h; (case O => assumption); (case h => exact rfl))
  | (refine' NF.Own.get ?O 3 ?h; (case O => assumption); (case h => exact rfl))
  | (refine' NF.Own.get ?O 4 ?h; (case O => assumption); (case h => exact rfl))
  | (refine' NF.Own.get ?O 5 ?h; (case O => assumption); (case h => exact rfl)))
local macro_rules | `(tactic| walk_at "atn") => `(tactic| first | assumption | exact rfl | (exact L2.atI_nat (by assumption)))
local macro_rules | `(tactic| walk_at "len") => `(tactic| first
  | assumption
  | (simp only [List.length_cons, List.length_nil, List.length_append, List.length_map, NF.len_app, NF.len_mk, NF.len_ch, sizeLine_eq]; done)
  | (simp only [List.length_cons, List.length_nil, List.length_append, List.length_map, List.length_reverse, NF.len_app, NF.len_mk, NF.len_ch, sizeLine_eq]; omega)
  | (rw [sizeLine_eq]; omega)
  | decide
  | omega)
local macro_rules | `(tactic| walk_at "mul") => `(tactic| first | exact Or.inr ⟨by decide, by decide⟩ | exact Or.inl ⟨by decide, by decide⟩ | exact Or.inl ⟨by omega, by omega⟩ | exact Or.inr ⟨by omega, by omega⟩)
set_option hygiene false in
local macro_rules | `(tactic| walk_at "nO") => `(tactic| try dsimp only [List.set, List.cons_append, List.nil_append, List.append_nil, Int.reduceToNat] at O)
set_option hygiene false in
local macro_rules | `(tactic| walk_at "in2") => `(tactic| (intro H1 O; walk_at "nO"))
set_option hygiene false in
local macro_rules | `(tactic| walk_at "in4") => `(tactic| (intro p H1 hp O; walk_at "nO"))
local macro_rules | `(tactic| walk_at "mut") => `(tactic| first
  | ((with_reducible show rSetL _ _ _ _ _); first
      | (refine' NF.x_setL ?O 0 ?hk ?hi ?q; (case O => assumption); (case hk => exact rfl); (case hi => exact rfl); walk_at "in2")
      | (refine' NF.x_setL ?O 1 ?hk ?hi ?q; (case O => assumption); (case hk => exact rfl); (case hi => exact rfl); walk_at "in2")
      | (refine' NF.x_setL ?O 2 ?hk ?hi ?q; (case O => assumption); (case hk => exact rfl); (case hi => exact rfl); walk_at "in2")
      | (refine' NF.x_setL ?O 3 ?hk ?hi ?q; (case O => assumption); (case hk => exact rfl); (case hi => exact rfl); walk_at "in2"))
  | ((with_reducible show rAppend _ _ _ _); first
      | (refine' NF.x_append ?O 0 ?hk ?hz ?q; (case O => assumption); (case hk => exact rfl); (case hz => walk_at "len"); walk_at "in2")
      | (refine' NF.x_append ?O 1 ?hk ?hz ?q; (case O => assumption); (case hk => exact rfl); (case hz => walk_at "len"); walk_at "in2")
      | (refine' NF.x_append ?O 2 ?hk ?hz ?q; (case O => assumption); (case hk => exact rfl); (case hz => walk_at "len"); walk_at "in2")
      | (refine' NF.x_append ?O 3 ?hk ?hz ?q; (case O => assumption); (case hk => exact rfl); (case hz => walk_at "len"); walk_at "in2")))
local macro_rules | `(tactic| walk_at "new") => `(tactic| first
  | ((with_reducible show NF.newL _ _ _); refine' NF.x_newL ?O ?hz ?q; (case O => assumption); (case hz => walk_at "len"); walk_at "in4")
  | ((with_reducible show NF.newT _ _ _); refine' NF.x_newT ?O ?hz ?q; (case O => assumption); (case hz => walk_at "len"); walk_at "in4"))
local macro_rules | `(tactic| walk_at "isi") => `(tactic| ((with_reducible show NF.rIsT _ _ _ _); first
  | (refine' NF.x_isI ?hb ?_; (case hb => first | exact NF.kit_int_int | exact NF.kit_int_bool | exact NF.kit_int_str | exact NF.kit_int_list | exact NF.kit_int_tuple | exact NF.kit_int_dict))
  | (refine' NF.x_isB ?hb ?_; (case hb => first | exact NF.kit_bool_int | exact NF.kit_bool_bool | exact NF.kit_bool_str | exact NF.kit_bool_list | exact NF.kit_bool_tuple | exact NF.kit_bool_dict))
  | (refine' NF.x_isS ?hb ?_; (case hb => first | exact NF.kit_str_int | exact NF.kit_str_bool | exact NF.kit_str_str | exact NF.kit_str_list | exact NF.kit_str_tuple | exact NF.kit_str_dict))
  | (refine' NF.x_isNon ?hb ?_; (case hb => first | exact NF.kit_NoneType_int | exact NF.kit_NoneType_bool | exact NF.kit_NoneType_str | exact NF.kit_NoneType_list | exact NF.kit_NoneType_tuple | exact NF.kit_NoneType_dict))
  | (refine' NF.x_isL ?h ?hb ?_; (case h => walk_at "own"); (case hb => first | exact NF.kit_list_int | exact NF.kit_list_bool | exact NF.kit_list_str | exact NF.kit_list_list | exact NF.kit_list_tuple | exact NF.kit_list_dict))
  | (refine' NF.x_isT ?h ?hb ?_; (case h => walk_at "own"); (case hb => first | exact NF.kit_tuple_int | exact NF.kit_tuple_bool | exact NF.kit_tuple_str | exact NF.kit_tuple_list | exact NF.kit_tuple_tuple | exact NF.kit_tuple_dict))))
local macro_rules | `(tactic| walk_at "s1") => `(tactic| first
  | with_reducible refine NF.x_seq ?_
  | with_reducible refine NF.x_asg ?_
  | with_reducible refine NF.x_op ?_
  | ((with_reducible show tVar _ _ _ _); first | refine NF.x_var rfl ?_ | refine NF.x_var (by assumption) ?_)
  | with_reducible refine NF.x_c ?_
  | with_reducible refine NF.x_cons ?_
  | with_reducible refine NF.x_nil ?_
  | with_reducible refine NF.x_cb ?_
  | with_reducible refine NF.x_call ?_
  | with_reducible refine NF.x_callX ?_
  | with_reducible refine NF.x_chain ?_
  | with_reducible refine NF.x_mkX ?_
  | with_reducible refine NF.x_name ?_
  | with_reducible refine NF.x_sub ?_
  | with_reducible refine NF.x_drop ?_
  | with_reducible refine NF.x_ret ?_
  | with_reducible refine NF.x_retN ?_
  | with_reducible refine NF.x_next ?_
  | with_reducible refine NF.x_brk ?_
  | with_reducible refine NF.x_cnt ?_
  | with_reducible refine NF.x_ifs ?_
  | with_reducible refine NF.x_if ?_
  | with_reducible refine NF.x_test ?_
  | with_reducible refine NF.x_B ?_
  | with_reducible refine NF.x_not ?_
  | with_reducible refine NF.x_andV ?_
  | with_reducible refine NF.x_orV ?_
  | with_reducible refine NF.x_notV ?_
  | with_reducible refine NF.x_tru ?_
  | with_reducible refine NF.x_lst ?_
  | with_reducible refine NF.x_tup ?_
  | with_reducible refine NF.x_bm ?_
  | with_reducible refine NF.x_bm0 ?_
  | with_reducible refine NF.x_un ?_
  | with_reducible refine NF.x_bl ?_
  | with_reducible refine NF.x_tt ?_
  | with_reducible refine NF.x_ff ?_
  | with_reducible refine NF.x_nt ?_
  | with_reducible refine NF.x_nf ?_
  | with_reducible refine NF.x_I0 ?_
  | with_reducible refine NF.x_U ?_
  | with_reducible refine NF.x_int ?_
  | with_reducible refine NF.x_min2 ?_
  | with_reducible refine NF.x_max2 ?_
  | with_reducible refine NF.x_abs ?_
  | with_reducible refine NF.x_isNn ?_
  | with_reducible refine NF.x_notNn ?_
  | with_reducible refine NF.x_isNi ?_
  | with_reducible refine NF.x_notNi ?_
  | with_reducible refine NF.x_isNs ?_
  | with_reducible refine NF.x_notNs ?_
  | with_reducible refine NF.x_isNb ?_
  | with_reducible refine NF.x_notNb ?_
  | with_reducible refine NF.x_isNr ?_
  | with_reducible refine NF.x_notNr ?_
  | with_reducible refine NF.x_isN ?_
  | with_reducible refine NF.x_notN ?_
  | with_reducible refine NF.x_inC ?_
  | with_reducible refine NF.x_notInC ?_
  | with_reducible refine NF.x_find ?_
  | with_reducible refine NF.x_tyS ?_
  | with_reducible refine NF.x_truB ?_
  | with_reducible refine NF.x_truI ?_
  | with_reducible refine NF.x_truN ?_
  | ((with_reducible show rI CMul _ _ _ _ _); refine NF.x_I ?hc ?_; (case hc => walk_at "mul"))
  | ((with_reducible show rI CPow _ _ _ _ _); refine NF.x_I ?hc ?_; (case hc => exact ⟨by decide, by decide, by decide⟩))
  | ((with_reducible show rI CDivW _ _ _ _ _); refine NF.x_I ?hc ?_; (case hc => first | assumption | exact ⟨by assumption, by assumption⟩ | exact ⟨by decide, by decide +kernel⟩))
  | ((with_reducible show rI _ _ _ _ _ _); refine NF.x_I ?hc ?_; (case hc => first | assumption | (show (0 : Int) < _; omega) | decide))
  | ((with_reducible show rEq _ _ _ _); refine NF.x_eq (by rfl) ?_)
  | ((with_reducible show rNe _ _ _ _); refine NF.x_ne (by rfl) ?_)
  | ((with_reducible show rIxL _ _ _ _ _); refine' NF.x_ixL ?h ?hv ?_; (case h => walk_at "own"); (case hv => walk_at "atn"))
  | ((with_reducible show rIxT _ _ _ _ _); refine' NF.x_ixT ?h ?hv ?_; (case h => walk_at "own"); (case hv => walk_at "atn"))
  | ((with_reducible show rIxS _ _ _ _); refine' NF.x_ixS ?h ?hv ?_; (case h => walk_at "len"); (case hv => walk_at "atn"))
  | ((with_reducible show rLen _ [V.str _] _ _); refine NF.x_lenS ?h ?_; (case h => walk_at "len"))
  | ((with_reducible show rLen _ [V.ref _] _ _); first | (refine' NF.x_lenL ?h ?_; (case h => walk_at "own")) | (refine' NF.x_lenT ?h ?_; (case h => walk_at "own")))
  | ((with_reducible show rAddS _ _ _ _); refine NF.x_addS ?h ?_; (case h => walk_at "len"))
  | ((with_reducible show rUpper _ _ _ _); refine NF.x_upper ?h ?_; (case h => walk_at "len"))
  | ((with_reducible show rLower _ _ _ _); refine NF.x_lower ?h ?_; (case h => walk_at "len"))
  | ((with_reducible show tyV _ "list" _ _ ∧ _); refine' NF.x_tyL ?h ?_; (case h => walk_at "own"))
  | ((with_reducible show ∃ k, TruV _ (V.ref _) _ k ∧ _); refine' NF.x_truL ?h ?_; (case h => walk_at "own"))
  | ((with_reducible show ∃ k, TruV _ (V.str _) _ k ∧ _); refine' NF.x_truS ?h ?_; (case h => walk_at "len"))
  | with_reducible refine NF.x_sl ?_
  | with_reducible refine NF.x_noPart ?_
  | with_reducible refine NF.x_part ?_
  | with_reducible refine NF.x_pI ?_
  | ((with_reducible show rSlS _ _ _ _ _); refine NF.x_slS ?h ?_; (case h => walk_at "len"))
  | with_reducible refine NF.x_for ?_
  | with_reducible refine NF.x_lc ?_
  | with_reducible refine NF.x_yes ?_
  | ((with_reducible show NF.rLtIS _ _ _ _ _); refine' NF.x_ltIS ?ha ?hb ?_; (case ha => walk_at "own"); (case hb => walk_at "own"))
  | with_reducible refine NF.x_lstRg1 ?_
  | with_reducible refine NF.x_pI ?_
  | with_reducible refine NF.x_jR1 ?_
  | with_reducible refine NF.x_jR2 ?_
  | with_reducible refine NF.x_jL ?_
  | with_reducible refine NF.x_jT ?_
  | with_reducible refine NF.x_jS ?_
  | with_reducible refine NF.x_jE ?_
  | with_reducible refine NF.x_jEL ?_
  | walk_at "isi"
  | walk_at "mut")
local macro_rules | `(tactic| walk_at "go") => `(tactic| repeat (first | walk_at "s1" | walk_at "ao" | walk_at "new"))
local macro_rules | `(tactic| walk_at "ao") => `(tactic| first
  | with_reducible refine NF.x_and ?_
  | with_reducible refine NF.x_or ?_)
local macro_rules | `(tactic| walk_at "gw") => `(tactic| repeat (first | walk_at "s1" | walk_at "ao"))
local macro_rules | `(tactic| walk_at "gn") => `(tactic| repeat walk_at "s1")
local macro_rules | `(tactic| walk_at "s1") => `(tactic| first
  | with_reducible refine NF.x_fmt ?_
  | with_reducible refine NF.x_js0 ?_
  | with_reducible refine NF.x_jsc ?_
  | with_reducible refine NF.x_mkX0 ?_)
section
variable {P : Program} {w : World} {K : PySem.W.Frag} {mg : Str → Option Value} {base : Heap}
/-! the box -/
def BxW (bx : List V) : Prop := ∃ x y z : Int, bx = [.int x, .int y, .int z]
def m_law_take (n : Int) : W Int := fun K => (0 < n ∧ n.natAbs.log2 < 9000) ∧ ∀ d, 0 ≤ d → d < n → K d
theorem mod_hi {i j : Int} (h : 0 < j) : 0 ≤ i % j ∧ i % j < j := ⟨Int.emod_nonneg _ (by omega), Int.emod_lt_of_pos _ h⟩
def spBox (K : PySem.W.Frag) : Sp := fun vs H Q _ => ∃ (a : Addr) (ns : List Int) (i : Int), vs = [.ref a, .int i] ∧ SqL K H a (ns.map V.int) ∧ 0 ≤ i ∧ ∀ p bx H', Le H H' → H p = none → H' p = some (.lst bx) → BxW bx → Q (.ref p) H'
theorem hl_spBox {K : PySem.W.Frag} : ∀ vs H Q E, spBox K vs H Q E → vs.length = 2 := fun vs H Q E ⟨_, _, _, e, _⟩ => by rw [e]; rfl
abbrev NM_law_box : List Str := ["script", "at", "cell", "great"]
theorem sc_law_box : FnScope NM_law_box ["script", "at"] (defScope s_law_box) := ⟨rfl, rfl, rfl, by decide +kernel, rfl, by decide +kernel, by decide +kernel⟩
theorem d_law_box (F : Fn0 K mg "_law_box" s_law_box) (T : Txt P K mg)  :
    Def P w K mg base 1 "_law_box" ["script", "at"] (spBox K) := by
  refine Def.mk0 F sc_law_box (by first | exact NF.hl_spB | exact NF.hl_spP | exact NF.hl_spNew | exact NF.hl_spPX | exact NF.hl_spN | exact NF.hl_spNX | exact NF.hl_spW | exact NF.hl_spWb | exact NF.hl_spWX | exact hl_spBox) (fun _ _ _ _ _ _ us hl => match us, hl with | [_, _], _ => rfl) (fun cdv A outer s H vs Q E hr h => ?_)
  refine ⟨_, (pss_cons (ps_set (i := 2) sc_law_box.nd rfl (Or.inl rfl) (pe_op op_add (pe_op op_add (pe_op op_mul pe_int (pv 1)) pe_int) (pe_op op_mod (pe_callTy (T := "int") callInt (by rfl) T.b_int (by decide +kernel) (pa_cons (pe_callB (id := "sum") (cr_sum rfl) (by rfl) T.b_sum (by decide +kernel) (pa_cons (pe_slice sl_list (pv 0) po_none (po_some pe_int)) pa_nil)) pa_nil)) pe_int)))
      (Evl.pss_cut (ps_if (pt_cmpR op_lt (pv 1) (pe_callB (id := "len") callLen (by rfl) T.b_len (by decide +kernel) (pa_cons (pv 0) pa_nil)) (nomark _))
      (pss_one (ps_set (i := 2) sc_law_box.nd rfl (Or.inl rfl) (pe_ix ix_list (pv 0) (pv 1) (fun _ _ => rfl))))
      pss_nil)
      (pss_cons (ps_set (i := 2) sc_law_box.nd rfl (Or.inl rfl) (pe_callB (id := "abs") callAbs (by rfl) T.b_abs (by decide +kernel) (pa_cons (pv 2) pa_nil)))
      (pss_cons (ps_set (i := 3) sc_law_box.nd rfl (Or.inl rfl) pe_int)
      (Evl.pss_cut (ps_if (pt_cmpR op_ge (pv 2) (pe_op op_pow pe_int pe_int) (nomark _))
      (pss_one (ps_set (i := 3) sc_law_box.nd rfl (Or.inl rfl) (pv 2)))
      pss_nil)
      (pss_one (ps_ret (pe_lst (pa_cons (pv 3) (pa_cons (pe_op op_mod (pe_callTy (T := "int") callInt (by rfl) T.b_int (by decide +kernel) (pa_cons (pv 2) pa_nil)) pe_int) (pa_cons (pv 1) pa_nil))))))))))), ?_⟩
  try dsimp only [cxOf, Cx.nox, Cx.wish]
  obtain ⟨a, ns, at_, rfl, hS, hi, k⟩ := h
  have O := NF.Own.refl0 H
  walk_at "gw"
  refine NF.x_slL hS O fun p1 H1 hp1 O => ?_
  obtain ⟨ms, e⟩ : ∃ ms : List Int, cutV (ns.map V.int) none (some 1) = ms.map V.int := by
    unfold cutV
    rw [← List.map_drop, ← List.map_take]
    exact ⟨_, rfl⟩
  rw [e] at O
  walk_at "gw"
  refine ⟨p1, ms, rfl, SqL.of (O.get 0 rfl), ?_⟩
  have O := O.dropTo (N := []) (fresh1 hp1)
  walk_at "gw"
  refine NF.x_cut (fun σ H' => ∃ (ce : Int), σ = [some (.ref a), some (.int at_), some (.int ce), none] ∧ Own H H' [] []) ?_ ?_
  · walk_at "gw"
    refine NF.x_lenSqL (sqL_le (O.le0 (fun x hx => absurd hx List.not_mem_nil)) hS) ?_
    walk_at "gw"
    rw [List.length_map]
    refine NF.x_ite (fun h0 => ?_) (fun h0 => ?_)
    · obtain ⟨n, hn⟩ : ∃ n, ns[at_.toNat]? = some n := ⟨_, List.getElem?_eq_getElem (by omega)⟩
      walk_at "gw"
      have e2 : ((at_.toNat : Nat) : Int) = at_ := by omega
      have e3 : atI (ns.map V.int) at_ = some (.int n) := by
        rw [← e2]
        exact L2.atI_nat (by rw [List.getElem?_map, hn]; rfl)
      refine NF.x_ixSqL (sqL_le (O.le0 (fun x hx => absurd hx List.not_mem_nil)) hS) e3 ?_
      walk_at "gw"
      exact ⟨n, rfl, O⟩
    · walk_at "gw"
      exact ⟨_, rfl, O⟩
  · rintro _ H2 ⟨ce, rfl, O⟩
    walk_at "gw"
    refine NF.x_cut (fun σ H' => ∃ (gr : Int) (ce : Int), σ = [some (.ref a), some (.int at_), some (.int ce), some (.int gr)] ∧ Own H H' [] []) ?_ ?_
    · walk_at "gw"
      refine NF.x_ite (fun h0 => ?_) (fun h0 => ?_)
      · walk_at "gw"
        exact ⟨_, _, rfl, O⟩
      · walk_at "gw"
        exact ⟨_, _, rfl, O⟩
    · rintro _ H2 ⟨gr, ce, rfl, O⟩
      walk_at "gw"
      refine NF.x_newL O (by walk_at "len") fun p H3 hp O => ?_
      exact k p _ H3 (O.le0 (fresh1 hp)) hp (O.get 0 rfl) ⟨gr, _, at_, rfl⟩

abbrev NM_law_take : List Str := ["box", "many", "digit", "mixed"]
theorem sc_law_take : FnScope NM_law_take ["box", "many"] (defScope s_law_take) := ⟨rfl, rfl, rfl, by decide +kernel, rfl, by decide +kernel, by decide +kernel⟩
theorem d_law_take (F : Fn0 K mg "_law_take" s_law_take) (T : Txt P K mg)  :
    Def P w K mg base 1 "_law_take" ["box", "many"] (spWb BxW 1 (fun F vs (i : Int) => ∃ v0, vs = [v0] ∧ eInt.rep F v0 i) eInt (fun (i : Int) => m_law_take i)) := by
  refine Def.mk0 F sc_law_take (by first | exact NF.hl_spB | exact NF.hl_spP | exact NF.hl_spNew | exact NF.hl_spPX | exact NF.hl_spN | exact NF.hl_spNX | exact NF.hl_spW | exact NF.hl_spWb | exact NF.hl_spWX | exact hl_spWb) (fun _ _ _ _ _ _ us hl => match us, hl with | [_, _], _ => rfl) (fun cdv A outer s H vs Q E hr h => ?_)
  refine ⟨_, (pss_cons (ps_if (pt_cmpR op_gt (pe_ix ix_list (pv 0) pe_int (fun _ _ => rfl)) pe_int (nomark _))
      (pss_cons (ps_set (i := 2) sc_law_take.nd rfl (Or.inl rfl) (pe_op op_mod (pe_callTy (T := "int") callInt (by rfl) T.b_int (by decide +kernel) (pa_cons (pe_ix ix_list (pv 0) pe_int (fun _ _ => rfl)) pa_nil)) (pv 1)))
      (pss_cons (ps_asg (pe_op op_fdivW (pe_ix ix_list (pv 0) pe_int (fun _ _ => rfl)) (pv 1)) (pg_sub (pv 0) pe_int set_list))
      (pss_one (ps_ret (pv 2)))))
      pss_nil)
      (pss_cons (ps_asg (pe_op op_add (pe_ix ix_list (pv 0) pe_int (fun _ _ => rfl)) pe_int) (pg_sub (pv 0) pe_int set_list))
      (pss_cons (ps_asg (pe_op op_mod (pe_callTy (T := "int") callInt (by rfl) T.b_int (by decide +kernel) (pa_cons (pe_op op_add (pe_op op_add (pe_op op_mul (pe_ix ix_list (pv 0) pe_int (fun _ _ => rfl)) pe_int) (pe_op op_mul (pe_ix ix_list (pv 0) pe_int (fun _ _ => rfl)) pe_int)) pe_int) pa_nil)) pe_int) (pg_sub (pv 0) pe_int set_list))
      (pss_cons (ps_set (i := 3) sc_law_take.nd rfl (Or.inl rfl) (pe_op op_mod (pe_callTy (T := "int") callInt (by rfl) T.b_int (by decide +kernel) (pa_cons (pe_op op_add (pe_op op_add (pe_op op_mul (pe_ix ix_list (pv 0) pe_int (fun _ _ => rfl)) pe_int) (pe_op op_mul (pe_ix ix_list (pv 0) pe_int (fun _ _ => rfl)) pe_int)) pe_int) pa_nil)) pe_int))
      (pss_one (ps_ret (pe_op op_mod (pe_callTy (T := "int") callInt (by rfl) T.b_int (by decide +kernel) (pa_cons (pe_op op_fdivW (pv 3) pe_int) pa_nil)) (pv 1)))))))), ?_⟩
  try dsimp only [cxOf, Cx.nox, Cx.wish]
  obtain ⟨ab, _, _, F, n, K0, rfl, hl, ⟨x, y, z, rfl⟩, hbx, hbF, hF, ⟨_, rfl, rfl⟩, ⟨⟨hn, hln⟩, k⟩, q⟩ := h
  have O := Own.startB hbx
  have hd : ∀ (o : HO), ∀ x ∈ [(ab, o)], del H ab x.1 = none := fun o x hx => by rw [List.mem_singleton.mp hx]; exact del_self
  walk_at "gw"
  refine NF.x_ite (fun h0 => ?_) (fun h0 => ?_)
  · have hc : CDivW x n := ⟨hn, hln⟩
    walk_at "gw"
    have m := mod_hi (i := x) hn
    have l := O.leB (hd _)
    exact q _ (k _ m.1 m.2) _ F _ _ ⟨_, _, _, rfl⟩ (O.get 0 rfl) (keepB l) (fun b o e => keepB l b o (ne_of_none e hbF) (hF b o e)) Ex.rfl rfl
  · walk_at "gw"
    have l := O.leB (hd _)
    exact q _ (k _ (mod_hi hn).1 (mod_hi hn).2) _ F _ _ ⟨_, _, _, rfl⟩ (O.get 0 rfl) (keepB l) (fun b o e => keepB l b o (ne_of_none e hbF) (hF b o e)) Ex.rfl rfl


def m_is_letters (a_given : Str) : W (Bool) :=
  W.ite (!true) (W.ok false)
  (W.bind (W.comp (tl a_given) fun x1 =>
  W.ok (some ((decide (x1 ∈ tl (Str.ofString "abcdefgh"))) || (decide (x1 ∈ tl (Str.ofString "ABCDEFGH")))))) fun y10 =>
  W.ok (y10.all id))
abbrev NM_is_letters : List Str := ["given", "letter"]
theorem sc_is_letters : FnScope NM_is_letters ["given"] (defScope s_is_letters) := ⟨rfl, rfl, rfl, by decide +kernel, rfl, by decide +kernel, by decide +kernel⟩
theorem d_is_letters (F : Fn0 K mg "is_letters" s_is_letters) (T : Txt P K mg)  :
    Def P w K mg base 1 "is_letters" ["given"] (spW 1 (fun F vs (i : Str) => ∃ v0, vs = [v0] ∧ eStr.rep F v0 i) eBool (fun (i : Str) => m_is_letters i)) := by
  refine Def.mk0 F sc_is_letters (by first | exact NF.hl_spW | exact NF.hl_spWb | exact NF.hl_spWX) (fun _ _ _ _ _ _ us hl => match us, hl with | [_], _ => rfl) (fun cdv A outer s H vs Q E hr h => ?_)
  refine ⟨_, (pss_cons (ps_if (pt_not (pt_val (pe_callB callIsT (by rfl) T.b_isinstance (by decide +kernel) (pa_cons (pv 0) (pa_cons (pe_ty (n := "str") (by rfl) T.b_str (by decide +kernel)) pa_nil)))))
      (pss_one (ps_ret pe_bl))
      pss_nil)
      (pss_one (ps_ret (pe_callB (id := "all") (cr_all rfl) (by rfl) T.b_all (by decide +kernel) (pa_cons (pe_lc (own := [("letter", 1)]) (g := gName 1) rfl sc_is_letters.nd (pi_str (pv 0)) (blkOk_by (own := [("letter", 1)]) (N := NM_is_letters) (sc := defScope s_is_letters) (by decide +kernel)) (fun _ _ _ _ _ => (pg_name (i := 1) sc_is_letters.nd rfl (Or.inl rfl))) (fun _ _ _ _ _ => pts_nil) (fun _ _ _ _ _ => (pe_or (pe_cmpR opInC (pv 1) (pe_g rfl T.g_NAMES) (by rfl)) (pe_one (pe_cmpR opInC (pv 1) (pe_g rfl T.g_CLOSINGS) (by rfl)))))) pa_nil))))), ?_⟩
  try dsimp only [cxOf, Cx.nox, Cx.wish]
  obtain ⟨hl, F, a_given, K0, hF, ⟨_, rfl, rfl⟩, k, q⟩ := h
  have O := NF.Fz.start hF
  have lF := NF.Ex.rfl (B := H) (F := F)
  refine (NF.x_seq (NF.x_ifs (NF.x_not (NF.x_B (NF.x_cb (NF.x_cons (NF.x_var rfl (NF.x_cons (NF.x_c (NF.x_nil (NF.x_isS NF.kit_str_str (NF.x_bl (NF.x_itb (fun g15 => (have k := k.1 g15; ?_)) (fun g15 => (have k := k.2 g15; ?_)))))))))))))))
  · exact (NF.x_ret (NF.x_c (q false k _ _ _ O.leB O.leF lF rfl)))
  · refine NF.x_next ?_
    exact (NF.x_ret (NF.x_cb (NF.x_cons (NF.x_lc (NF.x_jS (NF.x_var rfl (NF.y_jC (F := F) (fun J T => (NF.y_comp (er := eBool) (fun R => R = []) T O k.2 k.1 rfl (fun i x1 r pc7 acc5 at6 F0 F R H v hi lc4 hI ra8 hl l1 O hv k => (have lc4 := Ex.trans lc4 l1; (have ra8 := ra8.mono fun _ _ => Enc.mono eBool l1.le; (have O := NF.castR hI O; (have lF := Ex.trans lF lc4; (NF.byC v hv (NF.x_name ⟨NF.set_wipe _ _ _, (NF.x_yes (NF.x_tt (NF.y_or (fun Q q => (NF.x_op (NF.x_var rfl (NF.x_c (NF.x_inC q))))) (fun g9 Q q => (NF.x_op (NF.x_var rfl (NF.x_c (NF.x_inC q))))) (NF.cE_mk (R' := []) hi lc4 rfl O ra8 hl rfl k))))⟩))))))) (fun p12 F R vs11 y10 H l0 hI O ra13 k => (have O := NF.castR hI O; (have lF := Ex.trans lF l0; (NF.y_frzL O (fun F l0 hp O => (have lF := Ex.trans lF l0; (have h14 : (eLst eBool).rep F (.ref p12) y10 := ⟨_, _, rfl, hp, ra13.mono fun _ _ => Enc.mono eBool l0.le⟩; (NF.x_nil (NF.y_allR O.leF h14 (q (y10.all id) k _ _ _ O.leB O.leF lF rfl)))))))))))))))))))

def m_whole_number (a_word : Str) : W (Option Int) :=
  W.chk (a_word.length ≤ sizeLine) <|
  W.chk ((decide ((a_word.length : Int) = (0 : Int))) = false → a_word.length ≤ sizeLine) <|
  W.ite ((decide ((a_word.length : Int) = (0 : Int))) || (decide ((9 : Int) < (a_word.length : Int)))) (W.ok none)
  (W.chk (a_word.length ≤ sizeLine) <|
  W.chk ((decide ((1 : Int) < (a_word.length : Int))) = true → a_word.length ≤ sizeLine ∧ ∃ c, atI (tl a_word) (0 : Int) = some c) <|
  W.ite ((decide ((1 : Int) < (a_word.length : Int))) && (decide ((sg (cS a_word (0 : Int))) = (Str.ofString "0")))) (W.ok none)
  (W.bind (W.comp (tl a_word) fun x7 =>
  W.ok (some (decide (x7 ∈ tl (Str.ofString "0123456789"))))) fun y15 =>
  W.ite (!(y15.all id)) (W.ok none)
  (W.intS a_word fun n20 =>
  W.ok (some n20))))
abbrev NM_whole_number : List Str := ["word", "digit"]
theorem sc_whole_number : FnScope NM_whole_number ["word"] (defScope s_whole_number) := ⟨rfl, rfl, rfl, by decide +kernel, rfl, by decide +kernel, by decide +kernel⟩
theorem d_whole_number (F : Fn0 K mg "whole_number" s_whole_number) (T : Txt P K mg)  :
    Def P w K mg base 1 "whole_number" ["word"] (spW 1 (fun F vs (i : Str) => ∃ v0, vs = [v0] ∧ eStr.rep F v0 i) (eOpt eInt) (fun (i : Str) => m_whole_number i)) := by
  refine Def.mk0 F sc_whole_number (by first | exact NF.hl_spW | exact NF.hl_spWb | exact NF.hl_spWX) (fun _ _ _ _ _ _ us hl => match us, hl with | [_], _ => rfl) (fun cdv A outer s H vs Q E hr h => ?_)
  refine ⟨_, (pss_cons (ps_if (PW.pt (pw_or (pt_cmpR op_eq (pe_callB (id := "len") callLen (by rfl) T.b_len (by decide +kernel) (pa_cons (pv 0) pa_nil)) pe_int (nomark _)) (pw_or1 (pt_cmpR op_gt (pe_callB (id := "len") callLen (by rfl) T.b_len (by decide +kernel) (pa_cons (pv 0) pa_nil)) (pe_g rfl T.g_MOST_DIGITS) (nomark _)))))
      (pss_one (ps_ret pe_non))
      pss_nil)
      (pss_cons (ps_if (PW.pt (pw_and (pt_cmpR op_gt (pe_callB (id := "len") callLen (by rfl) T.b_len (by decide +kernel) (pa_cons (pv 0) pa_nil)) pe_int (nomark _)) (pw_and1 (pt_cmpR op_eq (pe_ix ix_str (pv 0) pe_int (fun _ _ => rfl)) pe_str (nomark _)))))
      (pss_one (ps_ret pe_non))
      pss_nil)
      (pss_cons (ps_if (pt_not (pt_val (pe_callB (id := "all") (cr_all rfl) (by rfl) T.b_all (by decide +kernel) (pa_cons (pe_lc (own := [("digit", 1)]) (g := gName 1) rfl sc_whole_number.nd (pi_str (pv 0)) (blkOk_by (own := [("digit", 1)]) (N := NM_whole_number) (sc := defScope s_whole_number) (by decide +kernel)) (fun _ _ _ _ _ => (pg_name (i := 1) sc_whole_number.nd rfl (Or.inl rfl))) (fun _ _ _ _ _ => pts_nil) (fun _ _ _ _ _ => (pe_cmpR opInC (pv 1) (pe_g rfl T.g_DIGITS) (by rfl)))) pa_nil))))
      (pss_one (ps_ret pe_non))
      pss_nil)
      (pss_one (ps_ret (pe_callTy (T := "int") callIntS (by rfl) T.b_int (by decide +kernel) (pa_cons (pv 0) pa_nil))))))), ?_⟩
  try dsimp only [cxOf, Cx.nox, Cx.wish]
  obtain ⟨hl, F, a_word, K0, hF, ⟨_, rfl, rfl⟩, k, q⟩ := h
  have O := NF.Fz.start hF
  have lF := NF.Ex.rfl (B := H) (F := F)
  refine (NF.x_seq (NF.x_ifs (have c1 := k.1; have k := k.2; (have c3 := k.1; have k := k.2; (NF.y_orT (fun Q q => (NF.x_test (NF.x_op (NF.x_cb (NF.x_cons (NF.x_var rfl (NF.x_nil (NF.x_lenS (c1) (NF.x_c (NF.y_eqI (NF.x_bl q))))))))))) (fun g2 Q q => (NF.x_test (NF.x_op (NF.x_cb (NF.x_cons (NF.x_var rfl (NF.x_nil (NF.x_lenS (c3 g2) (NF.x_c (NF.x_I0 (NF.x_bl q))))))))))) (NF.x_itb (fun g23 => (have k := k.1 g23; ?_)) (fun g23 => (have k := k.2 g23; ?_))))))))
  · exact (NF.x_ret (NF.x_c (q none k _ _ _ O.leB O.leF lF rfl)))
  · refine NF.x_next ?_
    refine (NF.x_seq (NF.x_ifs (have c4 := k.1; have k := k.2; (have c6 := k.1; have k := k.2; (NF.y_andT (fun Q q => (NF.x_test (NF.x_op (NF.x_cb (NF.x_cons (NF.x_var rfl (NF.x_nil (NF.x_lenS (c4) (NF.x_c (NF.x_I0 (NF.x_bl q))))))))))) (fun g5 Q q => (NF.x_test (NF.x_op (NF.x_op (NF.x_var rfl (NF.x_c (NF.y_ixS (c6 g5).1 (c6 g5).2 (NF.x_c (NF.y_eqS (NF.x_bl q)))))))))) (NF.x_itb (fun g22 => (have k := k.1 g22; ?_)) (fun g22 => (have k := k.2 g22; ?_))))))))
    · exact (NF.x_ret (NF.x_c (q none k _ _ _ O.leB O.leF lF rfl)))
    · refine NF.x_next ?_
      refine (NF.x_seq (NF.x_ifs (NF.x_not (NF.x_B (NF.x_cb (NF.x_cons (NF.x_lc (NF.x_jS (NF.x_var rfl (NF.y_jC (F := F) (fun J T => (NF.y_comp (er := eBool) (fun R => R = []) T O k.2 k.1 rfl (fun i x7 r pc13 acc11 at12 F0 F R H v hi lc10 hI ra14 hl l1 O hv k => (have lc10 := Ex.trans lc10 l1; (have ra14 := ra14.mono fun _ _ => Enc.mono eBool l1.le; (have O := NF.castR hI O; (have lF := Ex.trans lF lc10; (NF.byC v hv (NF.x_name ⟨NF.set_wipe _ _ _, (NF.x_yes (NF.x_tt (NF.x_op (NF.x_var rfl (NF.x_c (NF.x_inC (NF.cE_mk (R' := []) hi lc10 rfl O ra14 hl rfl k)))))))⟩))))))) (fun p17 F R vs16 y15 H l0 hI O ra18 k => (have O := NF.castR hI O; (have lF := Ex.trans lF l0; (NF.y_frzL O (fun F l0 hp O => (have lF := Ex.trans lF l0; (have h19 : (eLst eBool).rep F (.ref p17) y15 := ⟨_, _, rfl, hp, ra18.mono fun _ _ => Enc.mono eBool l0.le⟩; (NF.x_nil (NF.y_allR O.leF h19 (NF.x_bl (NF.x_itb (fun g21 => (have k := k.1 g21; ?_)) (fun g21 => (have k := k.2 g21; ?_)))))))))))))))))))))))))
      · exact (NF.x_ret (NF.x_c (q none k _ _ _ O.leB O.leF lF rfl)))
      · refine NF.x_next ?_
        exact (NF.x_ret (NF.x_cb (NF.x_cons (NF.x_var rfl (NF.x_nil (Exists.elim k fun n20 hk => (have k := hk.2.2; (NF.x_intS hk.1 hk.2.1 (q (some n20) k _ _ _ O.leB O.leF lF rfl)))))))))

def m_letters_of (a_word : Str) : W (Option Str) :=
  W.ite (decide (a_word = (Str.ofString "."))) (W.ok (some (Str.ofString "")))
  (W.chk (a_word.length ≤ sizeLine) <|
  W.ite (decide ((a_word.length : Int) = (0 : Int))) (W.ok none)
  (W.bind (m_is_letters a_word) fun y2 =>
  W.ite (!y2) (W.ok none)
  (W.ok (some a_word))))
abbrev NM_letters_of : List Str := ["word"]
theorem sc_letters_of : FnScope NM_letters_of ["word"] (defScope s_letters_of) := ⟨rfl, rfl, rfl, by decide +kernel, rfl, by decide +kernel, by decide +kernel⟩
theorem d_letters_of (F : Fn0 K mg "letters_of" s_letters_of) (T : Txt P K mg) (D_is_letters : Def P w K mg base 1 "is_letters" ["given"] (spW 1 (fun F vs (i : Str) => ∃ v0, vs = [v0] ∧ eStr.rep F v0 i) eBool (fun (i : Str) => m_is_letters i))) :
    Def P w K mg base 2 "letters_of" ["word"] (spW 1 (fun F vs (i : Str) => ∃ v0, vs = [v0] ∧ eStr.rep F v0 i) (eOpt eStr) (fun (i : Str) => m_letters_of i)) := by
  refine Def.mk0 F sc_letters_of (by first | exact NF.hl_spW | exact NF.hl_spWb | exact NF.hl_spWX) (fun _ _ _ _ _ _ us hl => match us, hl with | [_], _ => rfl) (fun cdv A outer s H vs Q E hr h => ?_)
  refine ⟨_, (pss_cons (ps_if (pt_cmpR op_eq (pv 0) (pe_g rfl T.g_EMPTY) (nomark _))
      (pss_one (ps_ret pe_str))
      pss_nil)
      (pss_cons (ps_if (PW.pt (pw_or (pt_cmpR op_eq (pe_callB (id := "len") callLen (by rfl) T.b_len (by decide +kernel) (pa_cons (pv 0) pa_nil)) pe_int (nomark _)) (pw_or1 (pt_not (pt_val (pe_d D_is_letters (hr.mono (by decide)) rfl (pa_cons (pv 0) pa_nil)))))))
      (pss_one (ps_ret pe_non))
      pss_nil)
      (pss_one (ps_ret (pv 0))))), ?_⟩
  try dsimp only [cxOf, Cx.nox, Cx.wish]
  obtain ⟨hl, F, a_word, K0, hF, ⟨_, rfl, rfl⟩, k, q⟩ := h
  have O := NF.Fz.start hF
  have lF := NF.Ex.rfl (B := H) (F := F)
  refine (NF.x_seq (NF.x_ifs (NF.x_test (NF.x_op (NF.x_var rfl (NF.x_c (NF.y_eqS (NF.x_bl (NF.x_itb (fun g5 => (have k := k.1 g5; ?_)) (fun g5 => (have k := k.2 g5; ?_)))))))))))
  · exact (NF.x_ret (NF.x_c (q (some (Str.ofString "")) k _ _ _ O.leB O.leF lF rfl)))
  · refine NF.x_next ?_
    refine (NF.x_seq (NF.x_ifs (NF.x_or (NF.x_test (NF.x_op (NF.x_cb (NF.x_cons (NF.x_var rfl (NF.x_nil (have c1 := k.1; have k := k.2; (NF.x_lenS c1 (NF.x_c (NF.y_eqI (NF.x_bl (NF.x_itb (fun g4 => (have k := k.1 g4; (NF.x_tt ?_))) (fun g4 => (have k := k.2 g4; (NF.x_not (NF.x_B (NF.x_call (NF.x_cons (NF.x_var rfl (NF.x_nil (NF.use_spW (i := a_word) O rfl ⟨_, rfl, rfl⟩ k (fun y2 v F H l0 O hv k => NF.byB v hv (have lF := Ex.trans lF l0; (NF.x_bl (NF.x_itb (fun g3 => (have k := k.1 g3; ?_)) (fun g3 => (have k := k.2 g3; ?_))))))))))))))))))))))))))))))
    · exact (NF.x_ret (NF.x_c (q none k _ _ _ O.leB O.leF lF rfl)))
    · exact (NF.x_ret (NF.x_c (q none k _ _ _ O.leB O.leF lF rfl)))
    · refine NF.x_next ?_
      exact (NF.x_ret (NF.x_var rfl (q (some a_word) k _ _ _ O.leB O.leF lF rfl)))

def m_write_letters (a_letters : Str) : W (Str) :=
  W.chk (a_letters.length ≤ sizeLine) <|
  W.ite (decide ((a_letters.length : Int) = (0 : Int))) (W.ok (Str.ofString "."))
  (W.ok a_letters)
abbrev NM_write_letters : List Str := ["letters"]
theorem sc_write_letters : FnScope NM_write_letters ["letters"] (defScope s_write_letters) := ⟨rfl, rfl, rfl, by decide +kernel, rfl, by decide +kernel, by decide +kernel⟩
theorem d_write_letters (F : Fn0 K mg "write_letters" s_write_letters) (T : Txt P K mg)  :
    Def P w K mg base 1 "write_letters" ["letters"] (spW 1 (fun F vs (i : Str) => ∃ v0, vs = [v0] ∧ eStr.rep F v0 i) eStr (fun (i : Str) => m_write_letters i)) := by
  refine Def.mk0 F sc_write_letters (by first | exact NF.hl_spW | exact NF.hl_spWb | exact NF.hl_spWX) (fun _ _ _ _ _ _ us hl => match us, hl with | [_], _ => rfl) (fun cdv A outer s H vs Q E hr h => ?_)
  refine ⟨_, (pss_cons (ps_if (pt_cmpR op_eq (pe_callB (id := "len") callLen (by rfl) T.b_len (by decide +kernel) (pa_cons (pv 0) pa_nil)) pe_int (nomark _))
      (pss_one (ps_ret (pe_g rfl T.g_EMPTY)))
      pss_nil)
      (pss_one (ps_ret (pv 0)))), ?_⟩
  try dsimp only [cxOf, Cx.nox, Cx.wish]
  obtain ⟨hl, F, a_letters, K0, hF, ⟨_, rfl, rfl⟩, k, q⟩ := h
  have O := NF.Fz.start hF
  have lF := NF.Ex.rfl (B := H) (F := F)
  refine (NF.x_seq (NF.x_ifs (NF.x_test (NF.x_op (NF.x_cb (NF.x_cons (NF.x_var rfl (NF.x_nil (have c1 := k.1; have k := k.2; (NF.x_lenS c1 (NF.x_c (NF.y_eqI (NF.x_bl (NF.x_itb (fun g2 => (have k := k.1 g2; ?_)) (fun g2 => (have k := k.2 g2; ?_))))))))))))))))
  · exact (NF.x_ret (NF.x_c (q (Str.ofString ".") k _ _ _ O.leB O.leF lF rfl)))
  · refine NF.x_next ?_
    exact (NF.x_ret (NF.x_var rfl (q a_letters k _ _ _ O.leB O.leF lF rfl)))

def m_all_readN (a_words : List Str) (a_reader : Unit) : W (Option (List Int)) :=
  W.for_ a_words ([] : List Int) (fun (x4 : Str) (z_found : (List Int)) =>
  W.bind (m_whole_number x4) fun y7 =>
  W.onone y7 (W.ok (.rt none)) fun y10 =>
  W.chk (z_found.length < sizeLine) <|
  W.ok (.nx (z_found ++ [y10]))) (fun (z_found : (List Int)) =>
  W.ok (some z_found))
abbrev NM_all_readN : List Str := ["words", "reader", "found", "word", "item"]
theorem sc_all_readN : FnScope NM_all_readN ["words", "reader"] (defScope s_all_readN) := ⟨rfl, rfl, rfl, by decide +kernel, rfl, by decide +kernel, by decide +kernel⟩
theorem d_all_readN (F : Fn0 K mg "all_read" s_all_readN) (T : Txt P K mg) (D_whole_number : Def P w K mg base 1 "whole_number" ["word"] (spW 1 (fun F vs (i : Str) => ∃ v0, vs = [v0] ∧ eStr.rep F v0 i) (eOpt eInt) (fun (i : Str) => m_whole_number i))) :
    Def P w K mg base 2 "all_read" ["words", "reader"] (spW 2 (fun F vs (i : (List Str) × Unit) => ∃ v0 v1, vs = [v0, v1] ∧ (eLst eStr).rep F v0 i.1 ∧ (eFn (cad mg "whole_number")).rep F v1 i.2) (eOpt (eLst eInt)) (fun (i : (List Str) × Unit) => m_all_readN i.1 i.2)) := by
  refine Def.mk0 F sc_all_readN (by first | exact NF.hl_spW | exact NF.hl_spWb | exact NF.hl_spWX) (fun _ _ _ _ _ _ us hl => match us, hl with | [_, _], _ => rfl) (fun cdv A outer s H vs Q E hr h => ?_)
  refine ⟨_, (pss_cons (ps_set (i := 2) sc_all_readN.nd rfl (Or.inl rfl) (pe_lst pa_nil))
      (pss_cons (ps_for PassesOwn.never rfl (pi_list (pv 0)) (pg_name (i := 3) sc_all_readN.nd rfl (Or.inl rfl))
      (pss_cons (ps_set (i := 4) sc_all_readN.nd rfl (Or.inl rfl) (pe_cvD D_whole_number D_whole_number rfl hr (by decide) (by decide) (i := 1) rfl (by first | exact Or.inl rfl | exact Or.inr (Or.inl rfl) | exact Or.inr (Or.inr rfl)) (pa_cons (pv 3) pa_nil)))
      (pss_cons (ps_if (pt_cmpR opIsN (pv 4) pe_non (nomark _))
      (pss_one (ps_ret pe_non))
      pss_nil)
      (pss_one (ps_expr (pe_bm PySem.F.plainAttrs_list PySem.F.slot_list_append PySem.F.type_list_append mt_append (pv 2) (pa_cons (pv 4) pa_nil)))))))
      (pss_one (ps_ret (pv 2))))), ?_⟩
  try dsimp only [cxOf, Cx.nox, Cx.wish]
  obtain ⟨hl, F, ⟨a_words, a_reader⟩, K0, hF, ⟨v_words, _, rfl, h_words, rfl⟩, k, q⟩ := h
  have O := NF.Fz.start hF
  have lF := NF.Ex.rfl (B := H) (F := F)
  refine (NF.x_seq (NF.x_asg (NF.x_lst (NF.x_nil (NF.y_lstM O (show 0 ≤ sizeLine by decide) (fun p2 H O => (have h1 : NF.RL (eInt.rep F) _ [] := .nil; (NF.x_name ?_))))))))
  refine (NF.x_seq (NF.x_for (NF.x_jL (NF.x_var rfl (NF.y_jL O.leF h_words (fun J T => (NF.y_for (σt := (List Int)) (fun (z_found : (List Int)) (σ : L2.St) (F : Hp) (R : List (Addr × HO)) => ∃ vs_found : List V, ∃ u3 : Option V, ∃ u4 : Option V, σ = [some v_words, some (.ref (cad mg "whole_number")), some (.ref p2), u3, u4] ∧ R = [(p2, HO.lst vs_found)] ∧ RL (eInt.rep F) vs_found z_found) T O k ⟨_, _, _, rfl, rfl, h1⟩ ?_ ?_)))))))
  · rintro x4 r z_found _ F0 F _ H v5 lp3 ⟨vs_found, u3, u4, rfl, rfl, r_found⟩ l1 O h6 k
    have lp3 := Ex.trans lp3 l1
    have h_words := Enc.mono (eLst eStr) lp3.le h_words
    have r_found := r_found.mono fun _ _ => Enc.mono eInt l1.le
    have lF := Ex.trans lF lp3
    cases h6
    refine NF.x_name ?_
    refine (NF.x_seq (NF.x_asg (NF.x_cv1 rfl (NF.x_cons (NF.x_var rfl (NF.x_nil (NF.use_spW (i := x4) O rfl ⟨_, rfl, rfl⟩ k (fun y7 v8 F H l0 O h9 k => (have h_words := Enc.mono (eLst eStr) l0.le h_words; (have r_found := r_found.mono fun _ _ => Enc.mono eInt l0.le; (have lF := Ex.trans lF l0; (have lp3 := Ex.trans lp3 l0; (NF.x_name ?_)))))))))))))
    refine (NF.x_seq (NF.x_ifs (NF.x_test (NF.x_op (NF.x_var rfl (NF.x_c (NF.y_isN h9 (NF.x_bl (NF.x_itb (fun g11 => (have h12 := NF.noneR h9 (NF.isNone_t g11); have k := k.1 (NF.isNone_t g11); ?_)) (fun g11 => (Exists.elim (NF.isNone_f g11) fun y10 he => (have k := k.2 y10 he; NF.byI v8 (NF.someR h9 he) ?_))))))))))))
    · exact (NF.x_ret (NF.x_c (q none k _ _ _ O.leB O.leF lF rfl)))
    · refine NF.x_next ?_
      refine (NF.x_drop (NF.x_bm (NF.x_var rfl (NF.x_tyL (O.get 0 rfl) (NF.x_cons (NF.x_var rfl (NF.x_nil (have c13 := k.1; have k := k.2; (NF.y_app2 O 0 rfl r_found c13 (fun H O => (have r_found := NF.RL.snoc (x := y10) r_found rfl; ?_)))))))))))
      exact ⟨(z_found ++ [y10]), _, _, lp3, O, ⟨_, _, _, rfl, rfl, r_found⟩, k⟩
  · rintro z_found _ F _ H l0 O ⟨vs_found, u3, u4, rfl, rfl, r_found⟩ k
    have h_words := Enc.mono (eLst eStr) l0.le h_words
    have lF := Ex.trans lF l0
    exact (NF.x_ret (NF.x_var rfl (NF.y_frz O 0 rfl (fun F l0 hp O => (have h_words := Enc.mono (eLst eStr) l0.le h_words; (have r_found := r_found.mono fun _ _ => Enc.mono eInt l0.le; (have lF := Ex.trans lF l0; (have h14 : (eLst eInt).rep F (.ref p2) z_found := ⟨_, _, rfl, hp, r_found⟩; (q (some z_found) k _ _ _ O.leB O.leF lF h14)))))))))

def m_all_readL (a_words : List Str) (a_reader : Unit) : W (Option (List Str)) :=
  W.for_ a_words ([] : List Str) (fun (x4 : Str) (z_found : (List Str)) =>
  W.bind (m_letters_of x4) fun y7 =>
  W.onone y7 (W.ok (.rt none)) fun y10 =>
  W.chk (z_found.length < sizeLine) <|
  W.ok (.nx (z_found ++ [y10]))) (fun (z_found : (List Str)) =>
  W.ok (some z_found))
abbrev NM_all_readL : List Str := ["words", "reader", "found", "word", "item"]
theorem sc_all_readL : FnScope NM_all_readL ["words", "reader"] (defScope s_all_readL) := ⟨rfl, rfl, rfl, by decide +kernel, rfl, by decide +kernel, by decide +kernel⟩
theorem d_all_readL (F : Fn0 K mg "all_read" s_all_readL) (T : Txt P K mg) (D_letters_of : Def P w K mg base 2 "letters_of" ["word"] (spW 1 (fun F vs (i : Str) => ∃ v0, vs = [v0] ∧ eStr.rep F v0 i) (eOpt eStr) (fun (i : Str) => m_letters_of i))) :
    Def P w K mg base 3 "all_read" ["words", "reader"] (spW 2 (fun F vs (i : (List Str) × Unit) => ∃ v0 v1, vs = [v0, v1] ∧ (eLst eStr).rep F v0 i.1 ∧ (eFn (cad mg "letters_of")).rep F v1 i.2) (eOpt (eLst eStr)) (fun (i : (List Str) × Unit) => m_all_readL i.1 i.2)) := by
  refine Def.mk0 F sc_all_readL (by first | exact NF.hl_spW | exact NF.hl_spWb | exact NF.hl_spWX) (fun _ _ _ _ _ _ us hl => match us, hl with | [_, _], _ => rfl) (fun cdv A outer s H vs Q E hr h => ?_)
  refine ⟨_, (pss_cons (ps_set (i := 2) sc_all_readL.nd rfl (Or.inl rfl) (pe_lst pa_nil))
      (pss_cons (ps_for PassesOwn.never rfl (pi_list (pv 0)) (pg_name (i := 3) sc_all_readL.nd rfl (Or.inl rfl))
      (pss_cons (ps_set (i := 4) sc_all_readL.nd rfl (Or.inl rfl) (pe_cvD D_letters_of D_letters_of rfl hr (by decide) (by decide) (i := 1) rfl (by first | exact Or.inl rfl | exact Or.inr (Or.inl rfl) | exact Or.inr (Or.inr rfl)) (pa_cons (pv 3) pa_nil)))
      (pss_cons (ps_if (pt_cmpR opIsN (pv 4) pe_non (nomark _))
      (pss_one (ps_ret pe_non))
      pss_nil)
      (pss_one (ps_expr (pe_bm PySem.F.plainAttrs_list PySem.F.slot_list_append PySem.F.type_list_append mt_append (pv 2) (pa_cons (pv 4) pa_nil)))))))
      (pss_one (ps_ret (pv 2))))), ?_⟩
  try dsimp only [cxOf, Cx.nox, Cx.wish]
  obtain ⟨hl, F, ⟨a_words, a_reader⟩, K0, hF, ⟨v_words, _, rfl, h_words, rfl⟩, k, q⟩ := h
  have O := NF.Fz.start hF
  have lF := NF.Ex.rfl (B := H) (F := F)
  refine (NF.x_seq (NF.x_asg (NF.x_lst (NF.x_nil (NF.y_lstM O (show 0 ≤ sizeLine by decide) (fun p2 H O => (have h1 : NF.RL (eStr.rep F) _ [] := .nil; (NF.x_name ?_))))))))
  refine (NF.x_seq (NF.x_for (NF.x_jL (NF.x_var rfl (NF.y_jL O.leF h_words (fun J T => (NF.y_for (σt := (List Str)) (fun (z_found : (List Str)) (σ : L2.St) (F : Hp) (R : List (Addr × HO)) => ∃ vs_found : List V, ∃ u3 : Option V, ∃ u4 : Option V, σ = [some v_words, some (.ref (cad mg "letters_of")), some (.ref p2), u3, u4] ∧ R = [(p2, HO.lst vs_found)] ∧ RL (eStr.rep F) vs_found z_found) T O k ⟨_, _, _, rfl, rfl, h1⟩ ?_ ?_)))))))
  · rintro x4 r z_found _ F0 F _ H v5 lp3 ⟨vs_found, u3, u4, rfl, rfl, r_found⟩ l1 O h6 k
    have lp3 := Ex.trans lp3 l1
    have h_words := Enc.mono (eLst eStr) lp3.le h_words
    have r_found := r_found.mono fun _ _ => Enc.mono eStr l1.le
    have lF := Ex.trans lF lp3
    cases h6
    refine NF.x_name ?_
    refine (NF.x_seq (NF.x_asg (NF.x_cv1 rfl (NF.x_cons (NF.x_var rfl (NF.x_nil (NF.use_spW (i := x4) O rfl ⟨_, rfl, rfl⟩ k (fun y7 v8 F H l0 O h9 k => (have h_words := Enc.mono (eLst eStr) l0.le h_words; (have r_found := r_found.mono fun _ _ => Enc.mono eStr l0.le; (have lF := Ex.trans lF l0; (have lp3 := Ex.trans lp3 l0; (NF.x_name ?_)))))))))))))
    refine (NF.x_seq (NF.x_ifs (NF.x_test (NF.x_op (NF.x_var rfl (NF.x_c (NF.y_isN h9 (NF.x_bl (NF.x_itb (fun g11 => (have h12 := NF.noneR h9 (NF.isNone_t g11); have k := k.1 (NF.isNone_t g11); ?_)) (fun g11 => (Exists.elim (NF.isNone_f g11) fun y10 he => (have k := k.2 y10 he; NF.byS v8 (NF.someR h9 he) ?_))))))))))))
    · exact (NF.x_ret (NF.x_c (q none k _ _ _ O.leB O.leF lF rfl)))
    · refine NF.x_next ?_
      refine (NF.x_drop (NF.x_bm (NF.x_var rfl (NF.x_tyL (O.get 0 rfl) (NF.x_cons (NF.x_var rfl (NF.x_nil (have c13 := k.1; have k := k.2; (NF.y_app2 O 0 rfl r_found c13 (fun H O => (have r_found := NF.RL.snoc (x := y10) r_found rfl; ?_)))))))))))
      exact ⟨(z_found ++ [y10]), _, _, lp3, O, ⟨_, _, _, rfl, rfl, r_found⟩, k⟩
  · rintro z_found _ F _ H l0 O ⟨vs_found, u3, u4, rfl, rfl, r_found⟩ k
    have h_words := Enc.mono (eLst eStr) l0.le h_words
    have lF := Ex.trans lF l0
    exact (NF.x_ret (NF.x_var rfl (NF.y_frz O 0 rfl (fun F l0 hp O => (have h_words := Enc.mono (eLst eStr) l0.le h_words; (have r_found := r_found.mono fun _ _ => Enc.mono eStr l0.le; (have lF := Ex.trans lF l0; (have h14 : (eLst eStr).rep F (.ref p2) z_found := ⟨_, _, rfl, hp, r_found⟩; (q (some z_found) k _ _ _ O.leB O.leF lF h14)))))))))

def m_state_of (a_word : Str) : W (Option (List Int)) :=
  W.chk (((Str.ofString ",").length == 0) = false ∧ a_word.length + 2 ≤ sizeLine) <|
  W.bind (m_all_readN (Txt.split a_word (Str.ofString ",")) ()) fun y4 =>
  W.onone y4 (W.ok none) fun y7 =>
  W.ok (some y7)
abbrev NM_state_of : List Str := ["word", "numbers"]
theorem sc_state_of : FnScope NM_state_of ["word"] (defScope s_state_of) := ⟨rfl, rfl, rfl, by decide +kernel, rfl, by decide +kernel, by decide +kernel⟩
theorem d_state_of (F : Fn0 K mg "_state_of" s_state_of) (T : Txt P K mg) (D_all_readN : Def P w K mg base 2 "all_read" ["words", "reader"] (spW 2 (fun F vs (i : (List Str) × Unit) => ∃ v0 v1, vs = [v0, v1] ∧ (eLst eStr).rep F v0 i.1 ∧ (eFn (cad mg "whole_number")).rep F v1 i.2) (eOpt (eLst eInt)) (fun (i : (List Str) × Unit) => m_all_readN i.1 i.2))) :
    Def P w K mg base 3 "_state_of" ["word"] (spW 1 (fun F vs (i : Str) => ∃ v0, vs = [v0] ∧ eStr.rep F v0 i) (eOpt (eTup eInt)) (fun (i : Str) => m_state_of i)) := by
  refine Def.mk0 F sc_state_of (by first | exact NF.hl_spW | exact NF.hl_spWb | exact NF.hl_spWX) (fun _ _ _ _ _ _ us hl => match us, hl with | [_], _ => rfl) (fun cdv A outer s H vs Q E hr h => ?_)
  refine ⟨_, (pss_cons (ps_set (i := 1) sc_state_of.nd rfl (Or.inl rfl) (pe_d D_all_readN (hr.mono (by decide)) rfl (pa_cons (pe_bm PySem.F.plainAttrs_str PySem.F.slot_str_split PySem.F.type_str_split mtSplit (pv 0) (pa_cons pe_str pa_nil)) (pa_cons (pe_clsn T.n_whole_number rfl rfl) pa_nil))))
      (pss_one (ps_ret (pe_ifExp (pt_cmpR opIsN (pv 1) pe_non (nomark _)) pe_non (pe_callTy (T := "tuple") callTupleOf (by rfl) T.b_tuple (by decide +kernel) (pa_cons (pv 1) pa_nil)))))), ?_⟩
  try dsimp only [cxOf, Cx.nox, Cx.wish]
  obtain ⟨hl, F, a_word, K0, hF, ⟨_, rfl, rfl⟩, k, q⟩ := h
  have O := NF.Fz.start hF
  have lF := NF.Ex.rfl (B := H) (F := F)
  refine (NF.x_seq (NF.x_asg (NF.x_call (NF.x_cons (NF.x_bm (NF.x_var rfl (NF.x_tyS (NF.x_cons (NF.x_c (NF.x_nil (have c1 := k.1; have k := k.2; (NF.y_splitF O c1.1 c1.2 (fun p3 F H h2 l0 O => (have lF := Ex.trans lF l0; (NF.x_cons (NF.x_c (NF.x_nil (NF.use_spW (i := ((Txt.split a_word (Str.ofString ",")), ())) O rfl ⟨_, _, rfl, h2, rfl⟩ k (fun y4 v5 F H l0 O h6 k => (have h2 := Enc.mono (eLst eStr) l0.le h2; (have lF := Ex.trans lF l0; (NF.x_name ?_))))))))))))))))))))))
  exact (NF.x_ret (NF.x_if (NF.x_test (NF.x_op (NF.x_var rfl (NF.x_c (NF.y_isN h6 (NF.x_bl (NF.x_itb (fun g8 => (have h9 := NF.noneR h6 (NF.isNone_t g8); have k := k.1 (NF.isNone_t g8); (NF.x_c (q none k _ _ _ O.leB O.leF lF rfl)))) (fun g8 => (Exists.elim (NF.isNone_f g8) fun y7 he => (have h10 := NF.someR h6 he; have k := k.2 y7 he; (NF.x_cb (NF.x_cons (NF.x_var rfl (NF.x_nil (NF.y_tupOfL O h10 (fun p12 F H h11 l0 O => (have h6 := Enc.mono (eOpt (eLst eInt)) l0.le h6; (have h10 := Enc.mono (eLst eInt) l0.le h10; (have lF := Ex.trans lF l0; (q (some y7) k _ _ _ O.leB O.leF lF h11))))))))))))))))))))))

def m_all_readS (a_words : List Str) (a_reader : Unit) : W (Option (List (List Int))) :=
  W.for_ a_words ([] : List (List Int)) (fun (x4 : Str) (z_found : (List (List Int))) =>
  W.bind (m_state_of x4) fun y7 =>
  W.onone y7 (W.ok (.rt none)) fun y10 =>
  W.chk (z_found.length < sizeLine) <|
  W.ok (.nx (z_found ++ [y10]))) (fun (z_found : (List (List Int))) =>
  W.ok (some z_found))
abbrev NM_all_readS : List Str := ["words", "reader", "found", "word", "item"]
theorem sc_all_readS : FnScope NM_all_readS ["words", "reader"] (defScope s_all_readS) := ⟨rfl, rfl, rfl, by decide +kernel, rfl, by decide +kernel, by decide +kernel⟩
theorem d_all_readS (F : Fn0 K mg "all_read" s_all_readS) (T : Txt P K mg) (D_state_of : Def P w K mg base 3 "_state_of" ["word"] (spW 1 (fun F vs (i : Str) => ∃ v0, vs = [v0] ∧ eStr.rep F v0 i) (eOpt (eTup eInt)) (fun (i : Str) => m_state_of i))) :
    Def P w K mg base 4 "all_read" ["words", "reader"] (spW 2 (fun F vs (i : (List Str) × Unit) => ∃ v0 v1, vs = [v0, v1] ∧ (eLst eStr).rep F v0 i.1 ∧ (eFn (cad mg "_state_of")).rep F v1 i.2) (eOpt (eLst (eTup eInt))) (fun (i : (List Str) × Unit) => m_all_readS i.1 i.2)) := by
  refine Def.mk0 F sc_all_readS (by first | exact NF.hl_spW | exact NF.hl_spWb | exact NF.hl_spWX) (fun _ _ _ _ _ _ us hl => match us, hl with | [_, _], _ => rfl) (fun cdv A outer s H vs Q E hr h => ?_)
  refine ⟨_, (pss_cons (ps_set (i := 2) sc_all_readS.nd rfl (Or.inl rfl) (pe_lst pa_nil))
      (pss_cons (ps_for PassesOwn.never rfl (pi_list (pv 0)) (pg_name (i := 3) sc_all_readS.nd rfl (Or.inl rfl))
      (pss_cons (ps_set (i := 4) sc_all_readS.nd rfl (Or.inl rfl) (pe_cvD D_state_of D_state_of rfl hr (by decide) (by decide) (i := 1) rfl (by first | exact Or.inl rfl | exact Or.inr (Or.inl rfl) | exact Or.inr (Or.inr rfl)) (pa_cons (pv 3) pa_nil)))
      (pss_cons (ps_if (pt_cmpR opIsN (pv 4) pe_non (nomark _))
      (pss_one (ps_ret pe_non))
      pss_nil)
      (pss_one (ps_expr (pe_bm PySem.F.plainAttrs_list PySem.F.slot_list_append PySem.F.type_list_append mt_append (pv 2) (pa_cons (pv 4) pa_nil)))))))
      (pss_one (ps_ret (pv 2))))), ?_⟩
  try dsimp only [cxOf, Cx.nox, Cx.wish]
  obtain ⟨hl, F, ⟨a_words, a_reader⟩, K0, hF, ⟨v_words, _, rfl, h_words, rfl⟩, k, q⟩ := h
  have O := NF.Fz.start hF
  have lF := NF.Ex.rfl (B := H) (F := F)
  refine (NF.x_seq (NF.x_asg (NF.x_lst (NF.x_nil (NF.y_lstM O (show 0 ≤ sizeLine by decide) (fun p2 H O => (have h1 : NF.RL ((eTup eInt).rep F) _ [] := .nil; (NF.x_name ?_))))))))
  refine (NF.x_seq (NF.x_for (NF.x_jL (NF.x_var rfl (NF.y_jL O.leF h_words (fun J T => (NF.y_for (σt := (List (List Int))) (fun (z_found : (List (List Int))) (σ : L2.St) (F : Hp) (R : List (Addr × HO)) => ∃ vs_found : List V, ∃ u3 : Option V, ∃ u4 : Option V, σ = [some v_words, some (.ref (cad mg "_state_of")), some (.ref p2), u3, u4] ∧ R = [(p2, HO.lst vs_found)] ∧ RL ((eTup eInt).rep F) vs_found z_found) T O k ⟨_, _, _, rfl, rfl, h1⟩ ?_ ?_)))))))
  · rintro x4 r z_found _ F0 F _ H v5 lp3 ⟨vs_found, u3, u4, rfl, rfl, r_found⟩ l1 O h6 k
    have lp3 := Ex.trans lp3 l1
    have h_words := Enc.mono (eLst eStr) lp3.le h_words
    have r_found := r_found.mono fun _ _ => Enc.mono (eTup eInt) l1.le
    have lF := Ex.trans lF lp3
    cases h6
    refine NF.x_name ?_
    refine (NF.x_seq (NF.x_asg (NF.x_cv1 rfl (NF.x_cons (NF.x_var rfl (NF.x_nil (NF.use_spW (i := x4) O rfl ⟨_, rfl, rfl⟩ k (fun y7 v8 F H l0 O h9 k => (have h_words := Enc.mono (eLst eStr) l0.le h_words; (have r_found := r_found.mono fun _ _ => Enc.mono (eTup eInt) l0.le; (have lF := Ex.trans lF l0; (have lp3 := Ex.trans lp3 l0; (NF.x_name ?_)))))))))))))
    refine (NF.x_seq (NF.x_ifs (NF.x_test (NF.x_op (NF.x_var rfl (NF.x_c (NF.y_isN h9 (NF.x_bl (NF.x_itb (fun g11 => (have h12 := NF.noneR h9 (NF.isNone_t g11); have k := k.1 (NF.isNone_t g11); ?_)) (fun g11 => (Exists.elim (NF.isNone_f g11) fun y10 he => (have h13 := NF.someR h9 he; have k := k.2 y10 he; ?_))))))))))))
    · exact (NF.x_ret (NF.x_c (q none k _ _ _ O.leB O.leF lF rfl)))
    · refine NF.x_next ?_
      refine (NF.x_drop (NF.x_bm (NF.x_var rfl (NF.x_tyL (O.get 0 rfl) (NF.x_cons (NF.x_var rfl (NF.x_nil (have c14 := k.1; have k := k.2; (NF.y_app2 O 0 rfl r_found c14 (fun H O => (have r_found := NF.RL.snoc (x := y10) r_found h13; ?_)))))))))))
      exact ⟨(z_found ++ [y10]), _, _, lp3, O, ⟨_, _, _, rfl, rfl, r_found⟩, k⟩
  · rintro z_found _ F _ H l0 O ⟨vs_found, u3, u4, rfl, rfl, r_found⟩ k
    have h_words := Enc.mono (eLst eStr) l0.le h_words
    have lF := Ex.trans lF l0
    exact (NF.x_ret (NF.x_var rfl (NF.y_frz O 0 rfl (fun F l0 hp O => (have h_words := Enc.mono (eLst eStr) l0.le h_words; (have r_found := r_found.mono fun _ _ => Enc.mono (eTup eInt) l0.le; (have lF := Ex.trans lF l0; (have h15 : (eLst (eTup eInt)).rep F (.ref p2) z_found := ⟨_, _, rfl, hp, r_found⟩; (q (some z_found) k _ _ _ O.leB O.leF lF h15)))))))))

def m_pair_of (a_word : Str) : W (Option ((List Int) × (List Int))) :=
  W.chk (((Str.ofString ">").length == 0) = false ∧ a_word.length + 2 ≤ sizeLine) <|
  W.bind (m_all_readS (Txt.split a_word (Str.ofString ">")) ()) fun y4 =>
  W.onone y4 (W.ok none) fun y7 =>
  W.ite (!decide ((y7.length : Int) = (2 : Int))) (W.ok none)
  (W.at_ y7 (0 : Int) fun x11 =>
  W.at_ y7 (1 : Int) fun x14 =>
  W.ok (some (x11, x14)))
abbrev NM_pair_of : List Str := ["word", "states"]
theorem sc_pair_of : FnScope NM_pair_of ["word"] (defScope s_pair_of) := ⟨rfl, rfl, rfl, by decide +kernel, rfl, by decide +kernel, by decide +kernel⟩
theorem d_pair_of (F : Fn0 K mg "_pair_of" s_pair_of) (T : Txt P K mg) (D_all_readS : Def P w K mg base 4 "all_read" ["words", "reader"] (spW 2 (fun F vs (i : (List Str) × Unit) => ∃ v0 v1, vs = [v0, v1] ∧ (eLst eStr).rep F v0 i.1 ∧ (eFn (cad mg "_state_of")).rep F v1 i.2) (eOpt (eLst (eTup eInt))) (fun (i : (List Str) × Unit) => m_all_readS i.1 i.2))) :
    Def P w K mg base 5 "_pair_of" ["word"] (spW 1 (fun F vs (i : Str) => ∃ v0, vs = [v0] ∧ eStr.rep F v0 i) (eOpt (eP2 (eTup eInt) (eTup eInt))) (fun (i : Str) => m_pair_of i)) := by
  refine Def.mk0 F sc_pair_of (by first | exact NF.hl_spW | exact NF.hl_spWb | exact NF.hl_spWX) (fun _ _ _ _ _ _ us hl => match us, hl with | [_], _ => rfl) (fun cdv A outer s H vs Q E hr h => ?_)
  refine ⟨_, (pss_cons (ps_set (i := 1) sc_pair_of.nd rfl (Or.inl rfl) (pe_d D_all_readS (hr.mono (by decide)) rfl (pa_cons (pe_bm PySem.F.plainAttrs_str PySem.F.slot_str_split PySem.F.type_str_split mtSplit (pv 0) (pa_cons pe_str pa_nil)) (pa_cons (pe_clsn T.n__state_of rfl rfl) pa_nil))))
      (pss_cons (ps_if (PW.pt (pw_or (pt_cmpR opIsN (pv 1) pe_non (nomark _)) (pw_or1 (pt_cmpR op_ne (pe_callB (id := "len") callLen (by rfl) T.b_len (by decide +kernel) (pa_cons (pv 1) pa_nil)) pe_int (nomark _)))))
      (pss_one (ps_ret pe_non))
      pss_nil)
      (pss_one (ps_ret (pe_tup (pa_cons (pe_ix ix_list (pv 1) pe_int (fun _ _ => rfl)) (pa_cons (pe_ix ix_list (pv 1) pe_int (fun _ _ => rfl)) pa_nil))))))), ?_⟩
  try dsimp only [cxOf, Cx.nox, Cx.wish]
  obtain ⟨hl, F, a_word, K0, hF, ⟨_, rfl, rfl⟩, k, q⟩ := h
  have O := NF.Fz.start hF
  have lF := NF.Ex.rfl (B := H) (F := F)
  refine (NF.x_seq (NF.x_asg (NF.x_call (NF.x_cons (NF.x_bm (NF.x_var rfl (NF.x_tyS (NF.x_cons (NF.x_c (NF.x_nil (have c1 := k.1; have k := k.2; (NF.y_splitF O c1.1 c1.2 (fun p3 F H h2 l0 O => (have lF := Ex.trans lF l0; (NF.x_cons (NF.x_c (NF.x_nil (NF.use_spW (i := ((Txt.split a_word (Str.ofString ">")), ())) O rfl ⟨_, _, rfl, h2, rfl⟩ k (fun y4 v5 F H l0 O h6 k => (have h2 := Enc.mono (eLst eStr) l0.le h2; (have lF := Ex.trans lF l0; (NF.x_name ?_))))))))))))))))))))))
  refine (NF.x_seq (NF.x_ifs (NF.x_or (NF.x_test (NF.x_op (NF.x_var rfl (NF.x_c (NF.y_isN h6 (NF.x_bl (NF.x_itb (fun g8 => (have h9 := NF.noneR h6 (NF.isNone_t g8); have k := k.1 (NF.isNone_t g8); (NF.x_tt ?_))) (fun g8 => (Exists.elim (NF.isNone_f g8) fun y7 he => (have h10 := NF.someR h6 he; have k := k.2 y7 he; (NF.x_test (NF.x_op (NF.x_cb (NF.x_cons (NF.x_var rfl (NF.x_nil (NF.y_lenL O.leF h10 (NF.x_c (NF.y_neI (NF.x_bl (NF.x_itb (fun g19 => (have k := k.1 g19; ?_)) (fun g19 => (have k := k.2 g19; ?_))))))))))))))))))))))))))
  · exact (NF.x_ret (NF.x_c (q none k _ _ _ O.leB O.leF lF rfl)))
  · exact (NF.x_ret (NF.x_c (q none k _ _ _ O.leB O.leF lF rfl)))
  · refine NF.x_next ?_
    exact (NF.x_ret (NF.x_tup (NF.x_cons (NF.x_op (NF.x_var rfl (NF.x_c (Exists.elim k fun x11 hk => (have k := hk.2; (NF.y_ixL O.leF h10 hk.1 (fun v12 h13 => (NF.x_cons (NF.x_op (NF.x_var rfl (NF.x_c (Exists.elim k fun x14 hk => (have k := hk.2; (NF.y_ixL O.leF h10 hk.1 (fun v15 h16 => (NF.x_nil (NF.y_tup O (show 2 ≤ sizeLine by decide) (fun p18 F H hp l0 O => (have h10 := Enc.mono (eLst (eTup eInt)) l0.le h10; (have h13 := Enc.mono (eTup eInt) l0.le h13; (have h16 := Enc.mono (eTup eInt) l0.le h16; (have lF := Ex.trans lF l0; (have h17 : (eP2 (eTup eInt) (eTup eInt)).rep F (.ref p18) (x11, x14) := ⟨_, _, _, rfl, hp, h13, h16⟩; (q (some (x11, x14)) k _ _ _ O.leB O.leF lF h17)))))))))))))))))))))))))))

def m_row_of (a_word : Str) : W (Option ((List Int) × (List Int) × (List Str))) :=
  W.chk (((Str.ofString ">").length == 0) = false ∧ a_word.length + 2 ≤ sizeLine) <|
  W.ite (!decide (((Txt.split a_word (Str.ofString ">")).length : Int) = (3 : Int))) (W.ok none)
  (W.bind (m_all_readS (cutT (Txt.split a_word (Str.ofString ">")) none (some (2 : Int))) ()) fun y6 =>
  W.at_ (Txt.split a_word (Str.ofString ">")) (2 : Int) fun x9 =>
  W.chk (((Str.ofString ",").length == 0) = false ∧ x9.length + 2 ≤ sizeLine) <|
  W.bind (m_all_readL (Txt.split x9 (Str.ofString ",")) ()) fun y13 =>
  W.onone y6 (W.ok none) fun y16 =>
  W.onone y13 (W.ok none) fun y20 =>
  W.at_ y16 (0 : Int) fun x24 =>
  W.at_ y16 (1 : Int) fun x27 =>
  W.ok (some (x24, x27, y20)))
abbrev NM_row_of : List Str := ["word", "parts", "states", "texts"]
theorem sc_row_of : FnScope NM_row_of ["word"] (defScope s_row_of) := ⟨rfl, rfl, rfl, by decide +kernel, rfl, by decide +kernel, by decide +kernel⟩
theorem d_row_of (F : Fn0 K mg "_row_of" s_row_of) (T : Txt P K mg) (D_all_readS : Def P w K mg base 4 "all_read" ["words", "reader"] (spW 2 (fun F vs (i : (List Str) × Unit) => ∃ v0 v1, vs = [v0, v1] ∧ (eLst eStr).rep F v0 i.1 ∧ (eFn (cad mg "_state_of")).rep F v1 i.2) (eOpt (eLst (eTup eInt))) (fun (i : (List Str) × Unit) => m_all_readS i.1 i.2))) (D_all_readL : Def P w K mg base 3 "all_read" ["words", "reader"] (spW 2 (fun F vs (i : (List Str) × Unit) => ∃ v0 v1, vs = [v0, v1] ∧ (eLst eStr).rep F v0 i.1 ∧ (eFn (cad mg "letters_of")).rep F v1 i.2) (eOpt (eLst eStr)) (fun (i : (List Str) × Unit) => m_all_readL i.1 i.2))) :
    Def P w K mg base 5 "_row_of" ["word"] (spW 1 (fun F vs (i : Str) => ∃ v0, vs = [v0] ∧ eStr.rep F v0 i) (eOpt (eP3 (eTup eInt) (eTup eInt) (eTup eStr))) (fun (i : Str) => m_row_of i)) := by
  refine Def.mk0 F sc_row_of (by first | exact NF.hl_spW | exact NF.hl_spWb | exact NF.hl_spWX) (fun _ _ _ _ _ _ us hl => match us, hl with | [_], _ => rfl) (fun cdv A outer s H vs Q E hr h => ?_)
  refine ⟨_, (pss_cons (ps_set (i := 1) sc_row_of.nd rfl (Or.inl rfl) (pe_bm PySem.F.plainAttrs_str PySem.F.slot_str_split PySem.F.type_str_split mtSplit (pv 0) (pa_cons pe_str pa_nil)))
      (pss_cons (ps_if (pt_cmpR op_ne (pe_callB (id := "len") callLen (by rfl) T.b_len (by decide +kernel) (pa_cons (pv 1) pa_nil)) pe_int (nomark _))
      (pss_one (ps_ret pe_non))
      pss_nil)
      (pss_cons (ps_set (i := 2) sc_row_of.nd rfl (Or.inl rfl) (pe_d D_all_readS (hr.mono (by decide)) rfl (pa_cons (pe_slice sl_list (pv 1) po_none (po_some pe_int)) (pa_cons (pe_clsn T.n__state_of rfl rfl) pa_nil))))
      (pss_cons (ps_set (i := 3) sc_row_of.nd rfl (Or.inl rfl) (pe_d D_all_readL (hr.mono (by decide)) rfl (pa_cons (pe_bm PySem.F.plainAttrs_str PySem.F.slot_str_split PySem.F.type_str_split mtSplit (pe_ix ix_list (pv 1) pe_int (fun _ _ => rfl)) (pa_cons pe_str pa_nil)) (pa_cons (pe_clsn T.n_letters_of rfl rfl) pa_nil))))
      (pss_cons (ps_if (PW.pt (pw_or (pt_cmpR opIsN (pv 2) pe_non (nomark _)) (pw_or1 (pt_cmpR opIsN (pv 3) pe_non (nomark _)))))
      (pss_one (ps_ret pe_non))
      pss_nil)
      (pss_one (ps_ret (pe_tup (pa_cons (pe_ix ix_list (pv 2) pe_int (fun _ _ => rfl)) (pa_cons (pe_ix ix_list (pv 2) pe_int (fun _ _ => rfl)) (pa_cons (pe_callTy (T := "tuple") callTupleOf (by rfl) T.b_tuple (by decide +kernel) (pa_cons (pv 3) pa_nil)) pa_nil))))))))))), ?_⟩
  try dsimp only [cxOf, Cx.nox, Cx.wish]
  obtain ⟨hl, F, a_word, K0, hF, ⟨_, rfl, rfl⟩, k, q⟩ := h
  have O := NF.Fz.start hF
  have lF := NF.Ex.rfl (B := H) (F := F)
  refine (NF.x_seq (NF.x_asg (NF.x_bm (NF.x_var rfl (NF.x_tyS (NF.x_cons (NF.x_c (NF.x_nil (have c1 := k.1; have k := k.2; (NF.y_splitF O c1.1 c1.2 (fun p3 F H h2 l0 O => (have lF := Ex.trans lF l0; (NF.x_name ?_)))))))))))))
  refine (NF.x_seq (NF.x_ifs (NF.x_test (NF.x_op (NF.x_cb (NF.x_cons (NF.x_var rfl (NF.x_nil (NF.y_lenL O.leF h2 (NF.x_c (NF.y_neI (NF.x_bl (NF.x_itb (fun g34 => (have k := k.1 g34; ?_)) (fun g34 => (have k := k.2 g34; ?_)))))))))))))))
  · exact (NF.x_ret (NF.x_c (q none k _ _ _ O.leB O.leF lF rfl)))
  · refine NF.x_next ?_
    refine (NF.x_seq (NF.x_asg (NF.x_call (NF.x_cons (NF.x_sl (NF.x_var rfl (NF.x_noPart (NF.x_part (NF.x_c (NF.x_pI (NF.y_slLF O h2 (fun p5 F H h4 l0 O => (have h2 := Enc.mono (eLst eStr) l0.le h2; (have lF := Ex.trans lF l0; (NF.x_cons (NF.x_c (NF.x_nil (NF.use_spW (i := ((cutT (Txt.split a_word (Str.ofString ">")) none (some (2 : Int))), ())) O rfl ⟨_, _, rfl, h4, rfl⟩ k (fun y6 v7 F H l0 O h8 k => (have h2 := Enc.mono (eLst eStr) l0.le h2; (have h4 := Enc.mono (eLst eStr) l0.le h4; (have lF := Ex.trans lF l0; (NF.x_name ?_)))))))))))))))))))))))
    refine (NF.x_seq (NF.x_asg (NF.x_call (NF.x_cons (NF.x_bm (NF.x_op (NF.x_var rfl (NF.x_c (Exists.elim k fun x9 hk => (have k := hk.2; (NF.y_ixL O.leF h2 hk.1 (fun u hu => NF.byS u hu (NF.x_tyS (NF.x_cons (NF.x_c (NF.x_nil (have c10 := k.1; have k := k.2; (NF.y_splitF O c10.1 c10.2 (fun p12 F H h11 l0 O => (have h2 := Enc.mono (eLst eStr) l0.le h2; (have h8 := Enc.mono (eOpt (eLst (eTup eInt))) l0.le h8; (have lF := Ex.trans lF l0; (NF.x_cons (NF.x_c (NF.x_nil (NF.use_spW (i := ((Txt.split x9 (Str.ofString ",")), ())) O rfl ⟨_, _, rfl, h11, rfl⟩ k (fun y13 v14 F H l0 O h15 k => (have h2 := Enc.mono (eLst eStr) l0.le h2; (have h8 := Enc.mono (eOpt (eLst (eTup eInt))) l0.le h8; (have h11 := Enc.mono (eLst eStr) l0.le h11; (have lF := Ex.trans lF l0; (NF.x_name ?_))))))))))))))))))))))))))))))))
    refine (NF.x_seq (NF.x_ifs (NF.x_or (NF.x_test (NF.x_op (NF.x_var rfl (NF.x_c (NF.y_isN h8 (NF.x_bl (NF.x_itb (fun g17 => (have h18 := NF.noneR h8 (NF.isNone_t g17); have k := k.1 (NF.isNone_t g17); (NF.x_tt ?_))) (fun g17 => (Exists.elim (NF.isNone_f g17) fun y16 he => (have h19 := NF.someR h8 he; have k := k.2 y16 he; (NF.x_test (NF.x_op (NF.x_var rfl (NF.x_c (NF.y_isN h15 (NF.x_bl (NF.x_itb (fun g21 => (have h22 := NF.noneR h15 (NF.isNone_t g21); have k := k.1 (NF.isNone_t g21); ?_)) (fun g21 => (Exists.elim (NF.isNone_f g21) fun y20 he => (have h23 := NF.someR h15 he; have k := k.2 y20 he; ?_)))))))))))))))))))))))
    · exact (NF.x_ret (NF.x_c (q none k _ _ _ O.leB O.leF lF rfl)))
    · exact (NF.x_ret (NF.x_c (q none k _ _ _ O.leB O.leF lF rfl)))
    · refine NF.x_next ?_
      exact (NF.x_ret (NF.x_tup (NF.x_cons (NF.x_op (NF.x_var rfl (NF.x_c (Exists.elim k fun x24 hk => (have k := hk.2; (NF.y_ixL O.leF h19 hk.1 (fun v25 h26 => (NF.x_cons (NF.x_op (NF.x_var rfl (NF.x_c (Exists.elim k fun x27 hk => (have k := hk.2; (NF.y_ixL O.leF h19 hk.1 (fun v28 h29 => (NF.x_cons (NF.x_cb (NF.x_cons (NF.x_var rfl (NF.x_nil (NF.y_tupOfL O h23 (fun p31 F H h30 l0 O => (have h2 := Enc.mono (eLst eStr) l0.le h2; (have h19 := Enc.mono (eLst (eTup eInt)) l0.le h19; (have h23 := Enc.mono (eLst eStr) l0.le h23; (have h26 := Enc.mono (eTup eInt) l0.le h26; (have h29 := Enc.mono (eTup eInt) l0.le h29; (have lF := Ex.trans lF l0; (NF.x_nil (NF.y_tup O (show 3 ≤ sizeLine by decide) (fun p33 F H hp l0 O => (have h2 := Enc.mono (eLst eStr) l0.le h2; (have h19 := Enc.mono (eLst (eTup eInt)) l0.le h19; (have h23 := Enc.mono (eLst eStr) l0.le h23; (have h26 := Enc.mono (eTup eInt) l0.le h26; (have h29 := Enc.mono (eTup eInt) l0.le h29; (have h30 := Enc.mono (eTup eStr) l0.le h30; (have lF := Ex.trans lF l0; (have h32 : (eP3 (eTup eInt) (eTup eInt) (eTup eStr)).rep F (.ref p33) (x24, x27, y20) := ⟨_, _, _, _, rfl, hp, h26, h29, h30⟩; (q (some (x24, x27, y20)) k _ _ _ O.leB O.leF lF h32)))))))))))))))))))))))))))))))))))))))))))

def m_all_readP (a_words : List Str) (a_reader : Unit) : W (Option (List ((List Int) × (List Int)))) :=
  W.for_ a_words ([] : List ((List Int) × (List Int))) (fun (x4 : Str) (z_found : (List ((List Int) × (List Int)))) =>
  W.bind (m_pair_of x4) fun y7 =>
  W.onone y7 (W.ok (.rt none)) fun y10 =>
  W.chk (z_found.length < sizeLine) <|
  W.ok (.nx (z_found ++ [y10]))) (fun (z_found : (List ((List Int) × (List Int)))) =>
  W.ok (some z_found))
abbrev NM_all_readP : List Str := ["words", "reader", "found", "word", "item"]
theorem sc_all_readP : FnScope NM_all_readP ["words", "reader"] (defScope s_all_readP) := ⟨rfl, rfl, rfl, by decide +kernel, rfl, by decide +kernel, by decide +kernel⟩
theorem d_all_readP (F : Fn0 K mg "all_read" s_all_readP) (T : Txt P K mg) (D_pair_of : Def P w K mg base 5 "_pair_of" ["word"] (spW 1 (fun F vs (i : Str) => ∃ v0, vs = [v0] ∧ eStr.rep F v0 i) (eOpt (eP2 (eTup eInt) (eTup eInt))) (fun (i : Str) => m_pair_of i))) :
    Def P w K mg base 6 "all_read" ["words", "reader"] (spW 2 (fun F vs (i : (List Str) × Unit) => ∃ v0 v1, vs = [v0, v1] ∧ (eLst eStr).rep F v0 i.1 ∧ (eFn (cad mg "_pair_of")).rep F v1 i.2) (eOpt (eLst (eP2 (eTup eInt) (eTup eInt)))) (fun (i : (List Str) × Unit) => m_all_readP i.1 i.2)) := by
  refine Def.mk0 F sc_all_readP (by first | exact NF.hl_spW | exact NF.hl_spWb | exact NF.hl_spWX) (fun _ _ _ _ _ _ us hl => match us, hl with | [_, _], _ => rfl) (fun cdv A outer s H vs Q E hr h => ?_)
  refine ⟨_, (pss_cons (ps_set (i := 2) sc_all_readP.nd rfl (Or.inl rfl) (pe_lst pa_nil))
      (pss_cons (ps_for PassesOwn.never rfl (pi_list (pv 0)) (pg_name (i := 3) sc_all_readP.nd rfl (Or.inl rfl))
      (pss_cons (ps_set (i := 4) sc_all_readP.nd rfl (Or.inl rfl) (pe_cvD D_pair_of D_pair_of rfl hr (by decide) (by decide) (i := 1) rfl (by first | exact Or.inl rfl | exact Or.inr (Or.inl rfl) | exact Or.inr (Or.inr rfl)) (pa_cons (pv 3) pa_nil)))
      (pss_cons (ps_if (pt_cmpR opIsN (pv 4) pe_non (nomark _))
      (pss_one (ps_ret pe_non))
      pss_nil)
      (pss_one (ps_expr (pe_bm PySem.F.plainAttrs_list PySem.F.slot_list_append PySem.F.type_list_append mt_append (pv 2) (pa_cons (pv 4) pa_nil)))))))
      (pss_one (ps_ret (pv 2))))), ?_⟩
  try dsimp only [cxOf, Cx.nox, Cx.wish]
  obtain ⟨hl, F, ⟨a_words, a_reader⟩, K0, hF, ⟨v_words, _, rfl, h_words, rfl⟩, k, q⟩ := h
  have O := NF.Fz.start hF
  have lF := NF.Ex.rfl (B := H) (F := F)
  refine (NF.x_seq (NF.x_asg (NF.x_lst (NF.x_nil (NF.y_lstM O (show 0 ≤ sizeLine by decide) (fun p2 H O => (have h1 : NF.RL ((eP2 (eTup eInt) (eTup eInt)).rep F) _ [] := .nil; (NF.x_name ?_))))))))
  refine (NF.x_seq (NF.x_for (NF.x_jL (NF.x_var rfl (NF.y_jL O.leF h_words (fun J T => (NF.y_for (σt := (List ((List Int) × (List Int)))) (fun (z_found : (List ((List Int) × (List Int)))) (σ : L2.St) (F : Hp) (R : List (Addr × HO)) => ∃ vs_found : List V, ∃ u3 : Option V, ∃ u4 : Option V, σ = [some v_words, some (.ref (cad mg "_pair_of")), some (.ref p2), u3, u4] ∧ R = [(p2, HO.lst vs_found)] ∧ RL ((eP2 (eTup eInt) (eTup eInt)).rep F) vs_found z_found) T O k ⟨_, _, _, rfl, rfl, h1⟩ ?_ ?_)))))))
  · rintro x4 r z_found _ F0 F _ H v5 lp3 ⟨vs_found, u3, u4, rfl, rfl, r_found⟩ l1 O h6 k
    have lp3 := Ex.trans lp3 l1
    have h_words := Enc.mono (eLst eStr) lp3.le h_words
    have r_found := r_found.mono fun _ _ => Enc.mono (eP2 (eTup eInt) (eTup eInt)) l1.le
    have lF := Ex.trans lF lp3
    cases h6
    refine NF.x_name ?_
    refine (NF.x_seq (NF.x_asg (NF.x_cv1 rfl (NF.x_cons (NF.x_var rfl (NF.x_nil (NF.use_spW (i := x4) O rfl ⟨_, rfl, rfl⟩ k (fun y7 v8 F H l0 O h9 k => (have h_words := Enc.mono (eLst eStr) l0.le h_words; (have r_found := r_found.mono fun _ _ => Enc.mono (eP2 (eTup eInt) (eTup eInt)) l0.le; (have lF := Ex.trans lF l0; (have lp3 := Ex.trans lp3 l0; (NF.x_name ?_)))))))))))))
    refine (NF.x_seq (NF.x_ifs (NF.x_test (NF.x_op (NF.x_var rfl (NF.x_c (NF.y_isN h9 (NF.x_bl (NF.x_itb (fun g11 => (have h12 := NF.noneR h9 (NF.isNone_t g11); have k := k.1 (NF.isNone_t g11); ?_)) (fun g11 => (Exists.elim (NF.isNone_f g11) fun y10 he => (have h13 := NF.someR h9 he; have k := k.2 y10 he; ?_))))))))))))
    · exact (NF.x_ret (NF.x_c (q none k _ _ _ O.leB O.leF lF rfl)))
    · refine NF.x_next ?_
      refine (NF.x_drop (NF.x_bm (NF.x_var rfl (NF.x_tyL (O.get 0 rfl) (NF.x_cons (NF.x_var rfl (NF.x_nil (have c14 := k.1; have k := k.2; (NF.y_app2 O 0 rfl r_found c14 (fun H O => (have r_found := NF.RL.snoc (x := y10) r_found h13; ?_)))))))))))
      exact ⟨(z_found ++ [y10]), _, _, lp3, O, ⟨_, _, _, rfl, rfl, r_found⟩, k⟩
  · rintro z_found _ F _ H l0 O ⟨vs_found, u3, u4, rfl, rfl, r_found⟩ k
    have h_words := Enc.mono (eLst eStr) l0.le h_words
    have lF := Ex.trans lF l0
    exact (NF.x_ret (NF.x_var rfl (NF.y_frz O 0 rfl (fun F l0 hp O => (have h_words := Enc.mono (eLst eStr) l0.le h_words; (have r_found := r_found.mono fun _ _ => Enc.mono (eP2 (eTup eInt) (eTup eInt)) l0.le; (have lF := Ex.trans lF l0; (have h15 : (eLst (eP2 (eTup eInt) (eTup eInt))).rep F (.ref p2) z_found := ⟨_, _, rfl, hp, r_found⟩; (q (some z_found) k _ _ _ O.leB O.leF lF h15)))))))))

def m_all_readR (a_words : List Str) (a_reader : Unit) : W (Option (List ((List Int) × (List Int) × (List Str)))) :=
  W.for_ a_words ([] : List ((List Int) × (List Int) × (List Str))) (fun (x4 : Str) (z_found : (List ((List Int) × (List Int) × (List Str)))) =>
  W.bind (m_row_of x4) fun y7 =>
  W.onone y7 (W.ok (.rt none)) fun y10 =>
  W.chk (z_found.length < sizeLine) <|
  W.ok (.nx (z_found ++ [y10]))) (fun (z_found : (List ((List Int) × (List Int) × (List Str)))) =>
  W.ok (some z_found))
abbrev NM_all_readR : List Str := ["words", "reader", "found", "word", "item"]
theorem sc_all_readR : FnScope NM_all_readR ["words", "reader"] (defScope s_all_readR) := ⟨rfl, rfl, rfl, by decide +kernel, rfl, by decide +kernel, by decide +kernel⟩
theorem d_all_readR (F : Fn0 K mg "all_read" s_all_readR) (T : Txt P K mg) (D_row_of : Def P w K mg base 5 "_row_of" ["word"] (spW 1 (fun F vs (i : Str) => ∃ v0, vs = [v0] ∧ eStr.rep F v0 i) (eOpt (eP3 (eTup eInt) (eTup eInt) (eTup eStr))) (fun (i : Str) => m_row_of i))) :
    Def P w K mg base 6 "all_read" ["words", "reader"] (spW 2 (fun F vs (i : (List Str) × Unit) => ∃ v0 v1, vs = [v0, v1] ∧ (eLst eStr).rep F v0 i.1 ∧ (eFn (cad mg "_row_of")).rep F v1 i.2) (eOpt (eLst (eP3 (eTup eInt) (eTup eInt) (eTup eStr)))) (fun (i : (List Str) × Unit) => m_all_readR i.1 i.2)) := by
  refine Def.mk0 F sc_all_readR (by first | exact NF.hl_spW | exact NF.hl_spWb | exact NF.hl_spWX) (fun _ _ _ _ _ _ us hl => match us, hl with | [_, _], _ => rfl) (fun cdv A outer s H vs Q E hr h => ?_)
  refine ⟨_, (pss_cons (ps_set (i := 2) sc_all_readR.nd rfl (Or.inl rfl) (pe_lst pa_nil))
      (pss_cons (ps_for PassesOwn.never rfl (pi_list (pv 0)) (pg_name (i := 3) sc_all_readR.nd rfl (Or.inl rfl))
      (pss_cons (ps_set (i := 4) sc_all_readR.nd rfl (Or.inl rfl) (pe_cvD D_row_of D_row_of rfl hr (by decide) (by decide) (i := 1) rfl (by first | exact Or.inl rfl | exact Or.inr (Or.inl rfl) | exact Or.inr (Or.inr rfl)) (pa_cons (pv 3) pa_nil)))
      (pss_cons (ps_if (pt_cmpR opIsN (pv 4) pe_non (nomark _))
      (pss_one (ps_ret pe_non))
      pss_nil)
      (pss_one (ps_expr (pe_bm PySem.F.plainAttrs_list PySem.F.slot_list_append PySem.F.type_list_append mt_append (pv 2) (pa_cons (pv 4) pa_nil)))))))
      (pss_one (ps_ret (pv 2))))), ?_⟩
  try dsimp only [cxOf, Cx.nox, Cx.wish]
  obtain ⟨hl, F, ⟨a_words, a_reader⟩, K0, hF, ⟨v_words, _, rfl, h_words, rfl⟩, k, q⟩ := h
  have O := NF.Fz.start hF
  have lF := NF.Ex.rfl (B := H) (F := F)
  refine (NF.x_seq (NF.x_asg (NF.x_lst (NF.x_nil (NF.y_lstM O (show 0 ≤ sizeLine by decide) (fun p2 H O => (have h1 : NF.RL ((eP3 (eTup eInt) (eTup eInt) (eTup eStr)).rep F) _ [] := .nil; (NF.x_name ?_))))))))
  refine (NF.x_seq (NF.x_for (NF.x_jL (NF.x_var rfl (NF.y_jL O.leF h_words (fun J T => (NF.y_for (σt := (List ((List Int) × (List Int) × (List Str)))) (fun (z_found : (List ((List Int) × (List Int) × (List Str)))) (σ : L2.St) (F : Hp) (R : List (Addr × HO)) => ∃ vs_found : List V, ∃ u3 : Option V, ∃ u4 : Option V, σ = [some v_words, some (.ref (cad mg "_row_of")), some (.ref p2), u3, u4] ∧ R = [(p2, HO.lst vs_found)] ∧ RL ((eP3 (eTup eInt) (eTup eInt) (eTup eStr)).rep F) vs_found z_found) T O k ⟨_, _, _, rfl, rfl, h1⟩ ?_ ?_)))))))
  · rintro x4 r z_found _ F0 F _ H v5 lp3 ⟨vs_found, u3, u4, rfl, rfl, r_found⟩ l1 O h6 k
    have lp3 := Ex.trans lp3 l1
    have h_words := Enc.mono (eLst eStr) lp3.le h_words
    have r_found := r_found.mono fun _ _ => Enc.mono (eP3 (eTup eInt) (eTup eInt) (eTup eStr)) l1.le
    have lF := Ex.trans lF lp3
    cases h6
    refine NF.x_name ?_
    refine (NF.x_seq (NF.x_asg (NF.x_cv1 rfl (NF.x_cons (NF.x_var rfl (NF.x_nil (NF.use_spW (i := x4) O rfl ⟨_, rfl, rfl⟩ k (fun y7 v8 F H l0 O h9 k => (have h_words := Enc.mono (eLst eStr) l0.le h_words; (have r_found := r_found.mono fun _ _ => Enc.mono (eP3 (eTup eInt) (eTup eInt) (eTup eStr)) l0.le; (have lF := Ex.trans lF l0; (have lp3 := Ex.trans lp3 l0; (NF.x_name ?_)))))))))))))
    refine (NF.x_seq (NF.x_ifs (NF.x_test (NF.x_op (NF.x_var rfl (NF.x_c (NF.y_isN h9 (NF.x_bl (NF.x_itb (fun g11 => (have h12 := NF.noneR h9 (NF.isNone_t g11); have k := k.1 (NF.isNone_t g11); ?_)) (fun g11 => (Exists.elim (NF.isNone_f g11) fun y10 he => (have h13 := NF.someR h9 he; have k := k.2 y10 he; ?_))))))))))))
    · exact (NF.x_ret (NF.x_c (q none k _ _ _ O.leB O.leF lF rfl)))
    · refine NF.x_next ?_
      refine (NF.x_drop (NF.x_bm (NF.x_var rfl (NF.x_tyL (O.get 0 rfl) (NF.x_cons (NF.x_var rfl (NF.x_nil (have c14 := k.1; have k := k.2; (NF.y_app2 O 0 rfl r_found c14 (fun H O => (have r_found := NF.RL.snoc (x := y10) r_found h13; ?_)))))))))))
      exact ⟨(z_found ++ [y10]), _, _, lp3, O, ⟨_, _, _, rfl, rfl, r_found⟩, k⟩
  · rintro z_found _ F _ H l0 O ⟨vs_found, u3, u4, rfl, rfl, r_found⟩ k
    have h_words := Enc.mono (eLst eStr) l0.le h_words
    have lF := Ex.trans lF l0
    exact (NF.x_ret (NF.x_var rfl (NF.y_frz O 0 rfl (fun F l0 hp O => (have h_words := Enc.mono (eLst eStr) l0.le h_words; (have r_found := r_found.mono fun _ _ => Enc.mono (eP3 (eTup eInt) (eTup eInt) (eTup eStr)) l0.le; (have lF := Ex.trans lF l0; (have h15 : (eLst (eP3 (eTup eInt) (eTup eInt) (eTup eStr))).rep F (.ref p2) z_found := ⟨_, _, rfl, hp, r_found⟩; (q (some z_found) k _ _ _ O.leB O.leF lF h15)))))))))

def m_paper_form (a_words : List Str) : W (Str) :=
  W.ite (decide ((a_words.length : Int) = (0 : Int))) (W.ok (Str.ofString "."))
  (W.chk ((a_words.map (·.length)).sum + a_words.length * (Str.ofString ";").length ≤ 16777216) <|
  W.ok (Txt.join (Str.ofString ";") a_words))
abbrev NM_paper_form : List Str := ["words"]
theorem sc_paper_form : FnScope NM_paper_form ["words"] (defScope s_paper_form) := ⟨rfl, rfl, rfl, by decide +kernel, rfl, by decide +kernel, by decide +kernel⟩
theorem d_paper_form (F : Fn0 K mg "_paper_form" s_paper_form) (T : Txt P K mg)  :
    Def P w K mg base 1 "_paper_form" ["words"] (spW 1 (fun F vs (i : (List Str)) => ∃ v0, vs = [v0] ∧ (eLst eStr).rep F v0 i) eStr (fun (i : (List Str)) => m_paper_form i)) := by
  refine Def.mk0 F sc_paper_form (by first | exact NF.hl_spW | exact NF.hl_spWb | exact NF.hl_spWX) (fun _ _ _ _ _ _ us hl => match us, hl with | [_], _ => rfl) (fun cdv A outer s H vs Q E hr h => ?_)
  refine ⟨_, (pss_cons (ps_if (pt_cmpR op_eq (pe_callB (id := "len") callLen (by rfl) T.b_len (by decide +kernel) (pa_cons (pv 0) pa_nil)) pe_int (nomark _))
      (pss_one (ps_ret (pe_g rfl T.g_EMPTY)))
      pss_nil)
      (pss_one (ps_ret (pe_bm PySem.F.plainAttrs_str PySem.F.slot_str_join PySem.F.type_str_join mtJoin pe_str (pa_cons (pv 0) pa_nil))))), ?_⟩
  try dsimp only [cxOf, Cx.nox, Cx.wish]
  obtain ⟨hl, F, a_words, K0, hF, ⟨v_words, rfl, h_words⟩, k, q⟩ := h
  have O := NF.Fz.start hF
  have lF := NF.Ex.rfl (B := H) (F := F)
  refine (NF.x_seq (NF.x_ifs (NF.x_test (NF.x_op (NF.x_cb (NF.x_cons (NF.x_var rfl (NF.x_nil (NF.y_lenL O.leF h_words (NF.x_c (NF.y_eqI (NF.x_bl (NF.x_itb (fun g2 => (have k := k.1 g2; ?_)) (fun g2 => (have k := k.2 g2; ?_)))))))))))))))
  · exact (NF.x_ret (NF.x_c (q (Str.ofString ".") k _ _ _ O.leB O.leF lF rfl)))
  · refine NF.x_next ?_
    exact (NF.x_ret (NF.x_bm (NF.x_c (NF.x_tyS (NF.x_cons (NF.x_var rfl (NF.x_nil (have c1 := k.1; have k := k.2; (NF.y_joinL O.leF h_words c1 (q (Txt.join (Str.ofString ";") a_words) k _ _ _ O.leB O.leF lF rfl))))))))))

def m_state_form (a_state : List Int) : W (Str) :=
  W.bind (W.comp a_state fun x1 =>
  W.chk ((x1).natAbs.log2 < 1920) <|
  W.ok (some (strI x1))) fun y10 =>
  W.chk ((y10.map (·.length)).sum + y10.length * (Str.ofString ",").length ≤ 16777216) <|
  W.ok (Txt.join (Str.ofString ",") y10)
abbrev NM_state_form : List Str := ["state", "number"]
theorem sc_state_form : FnScope NM_state_form ["state"] (defScope s_state_form) := ⟨rfl, rfl, rfl, by decide +kernel, rfl, by decide +kernel, by decide +kernel⟩
theorem d_state_form (F : Fn0 K mg "_state_form" s_state_form) (T : Txt P K mg)  :
    Def P w K mg base 1 "_state_form" ["state"] (spW 1 (fun F vs (i : (List Int)) => ∃ v0, vs = [v0] ∧ (eTup eInt).rep F v0 i) eStr (fun (i : (List Int)) => m_state_form i)) := by
  refine Def.mk0 F sc_state_form (by first | exact NF.hl_spW | exact NF.hl_spWb | exact NF.hl_spWX) (fun _ _ _ _ _ _ us hl => match us, hl with | [_], _ => rfl) (fun cdv A outer s H vs Q E hr h => ?_)
  refine ⟨_, (pss_one (ps_ret (pe_bm PySem.F.plainAttrs_str PySem.F.slot_str_join PySem.F.type_str_join mtJoin pe_str (pa_cons (pe_lc (own := [("number", 1)]) (g := gName 1) rfl sc_state_form.nd (pi_tup (pv 0)) (blkOk_by (own := [("number", 1)]) (N := NM_state_form) (sc := defScope s_state_form) (by decide +kernel)) (fun _ _ _ _ _ => (pg_name (i := 1) sc_state_form.nd rfl (Or.inl rfl))) (fun _ _ _ _ _ => pts_nil) (fun _ _ _ _ _ => (pe_callTy (T := "str") (r := rStrI) callStrI (by rfl) T.b_str (by decide +kernel) (pa_cons (pv 1) pa_nil)))) pa_nil)))), ?_⟩
  try dsimp only [cxOf, Cx.nox, Cx.wish]
  obtain ⟨hl, F, a_state, K0, hF, ⟨v_state, rfl, h_state⟩, k, q⟩ := h
  have O := NF.Fz.start hF
  have lF := NF.Ex.rfl (B := H) (F := F)
  exact (NF.x_ret (NF.x_bm (NF.x_c (NF.x_tyS (NF.x_cons (NF.x_lc (NF.x_jT (NF.x_var rfl (NF.y_jT O.leF h_state (fun J T => (NF.y_comp (er := eStr) (fun R => R = []) T O k.2 k.1 rfl (fun i x1 r pc7 acc5 at6 F0 F R H v hi lc4 hI ra8 hl l1 O hv k => (have lc4 := Ex.trans lc4 l1; (have ra8 := ra8.mono fun _ _ => Enc.mono eStr l1.le; (have O := NF.castR hI O; (have h_state := Enc.mono (eTup eInt) lc4.le h_state; (have lF := Ex.trans lF lc4; (NF.byI v hv (NF.x_name ⟨NF.set_wipe _ _ _, (NF.x_yes (NF.x_tt (NF.x_cb (NF.x_cons (NF.x_var rfl (NF.x_nil (have c9 := k.1; have k := k.2; (NF.x_strI c9 (NF.cE_mk (R' := []) hi lc4 rfl O ra8 hl rfl k)))))))))⟩)))))))) (fun p12 F R vs11 y10 H l0 hI O ra13 k => (have O := NF.castR hI O; (have h_state := Enc.mono (eTup eInt) l0.le h_state; (have lF := Ex.trans lF l0; (NF.y_frzL O (fun F l0 hp O => (have h_state := Enc.mono (eTup eInt) l0.le h_state; (have lF := Ex.trans lF l0; (have h14 : (eLst eStr).rep F (.ref p12) y10 := ⟨_, _, rfl, hp, ra13.mono fun _ _ => Enc.mono eStr l0.le⟩; (NF.x_nil (have c15 := k.1; have k := k.2; (NF.y_joinL O.leF h14 c15 (q (Txt.join (Str.ofString ",") y10) k _ _ _ O.leB O.leF lF rfl))))))))))))))))))))))))

def m_row_form (a_start : List Int) (a_end : List Int) (a_texts : List Str) : W (Str) :=
  W.bind (W.comp a_texts fun x1 =>
  W.bind (m_write_letters x1) fun y9 =>
  W.ok (some y9)) fun y10 =>
  W.chk ((y10.map (·.length)).sum + y10.length * (Str.ofString ",").length ≤ 16777216) <|
  W.bind (m_state_form a_start) fun y16 =>
  W.chk (y16.length ≤ sizeLine) <|
  W.chk ((Str.empty ++ y16).length ≤ sizeLine) <|
  W.chk (((Str.empty ++ y16) ++ (Str.ofString ">")).length ≤ sizeLine) <|
  W.bind (m_state_form a_end) fun y20 =>
  W.chk (y20.length ≤ sizeLine) <|
  W.chk ((((Str.empty ++ y16) ++ (Str.ofString ">")) ++ y20).length ≤ sizeLine) <|
  W.chk (((((Str.empty ++ y16) ++ (Str.ofString ">")) ++ y20) ++ (Str.ofString ">")).length ≤ sizeLine) <|
  W.chk ((Txt.join (Str.ofString ",") y10).length ≤ sizeLine) <|
  W.chk ((((((Str.empty ++ y16) ++ (Str.ofString ">")) ++ y20) ++ (Str.ofString ">")) ++ (Txt.join (Str.ofString ",") y10)).length ≤ sizeLine) <|
  W.ok (((((Str.empty ++ y16) ++ (Str.ofString ">")) ++ y20) ++ (Str.ofString ">")) ++ (Txt.join (Str.ofString ",") y10))
abbrev NM_row_form : List Str := ["start", "end", "texts", "written", "letters"]
theorem sc_row_form : FnScope NM_row_form ["start", "end", "texts"] (defScope s_row_form) := ⟨rfl, rfl, rfl, by decide +kernel, rfl, by decide +kernel, by decide +kernel⟩
theorem d_row_form (F : Fn0 K mg "_row_form" s_row_form) (T : Txt P K mg) (D_write_letters : Def P w K mg base 1 "write_letters" ["letters"] (spW 1 (fun F vs (i : Str) => ∃ v0, vs = [v0] ∧ eStr.rep F v0 i) eStr (fun (i : Str) => m_write_letters i))) (D_state_form : Def P w K mg base 1 "_state_form" ["state"] (spW 1 (fun F vs (i : (List Int)) => ∃ v0, vs = [v0] ∧ (eTup eInt).rep F v0 i) eStr (fun (i : (List Int)) => m_state_form i))) :
    Def P w K mg base 2 "_row_form" ["start", "end", "texts"] (spW 3 (fun F vs (i : (List Int) × (List Int) × (List Str)) => ∃ v0 v1 v2, vs = [v0, v1, v2] ∧ (eTup eInt).rep F v0 i.1 ∧ (eTup eInt).rep F v1 i.2.1 ∧ (eTup eStr).rep F v2 i.2.2) eStr (fun (i : (List Int) × (List Int) × (List Str)) => m_row_form i.1 i.2.1 i.2.2)) := by
  refine Def.mk0 F sc_row_form (by first | exact NF.hl_spW | exact NF.hl_spWb | exact NF.hl_spWX) (fun _ _ _ _ _ _ us hl => match us, hl with | [_, _, _], _ => rfl) (fun cdv A outer s H vs Q E hr h => ?_)
  refine ⟨_, (pss_cons (ps_set (i := 3) sc_row_form.nd rfl (Or.inl rfl) (pe_bm PySem.F.plainAttrs_str PySem.F.slot_str_join PySem.F.type_str_join mtJoin pe_str (pa_cons (pe_lc (own := [("letters", 4)]) (g := gName 4) rfl sc_row_form.nd (pi_tup (pv 2)) (blkOk_by (own := [("letters", 4)]) (N := NM_row_form) (sc := defScope s_row_form) (by decide +kernel)) (fun _ _ _ _ _ => (pg_name (i := 4) sc_row_form.nd rfl (Or.inl rfl))) (fun _ _ _ _ _ => pts_nil) (fun _ _ _ _ _ => (pe_d D_write_letters (hr.mono (by decide)) rfl (pa_cons (pv 4) pa_nil)))) pa_nil)))
      (pss_one (ps_ret (pe_joined (PJ.cons (pe_fmt (pe_d D_state_form (hr.mono (by decide)) rfl (pa_cons (pv 0) pa_nil))) (PJ.cons pe_str (PJ.cons (pe_fmt (pe_d D_state_form (hr.mono (by decide)) rfl (pa_cons (pv 1) pa_nil))) (PJ.cons pe_str (PJ.cons (pe_fmt (pv 3)) PJ.nil))))))))), ?_⟩
  try dsimp only [cxOf, Cx.nox, Cx.wish]
  obtain ⟨hl, F, ⟨a_start, a_end, a_texts⟩, K0, hF, ⟨v_start, v_end, v_texts, rfl, h_start, h_end, h_texts⟩, k, q⟩ := h
  have O := NF.Fz.start hF
  have lF := NF.Ex.rfl (B := H) (F := F)
  refine (NF.x_seq (NF.x_asg (NF.x_bm (NF.x_c (NF.x_tyS (NF.x_cons (NF.x_lc (NF.x_jT (NF.x_var rfl (NF.y_jT O.leF h_texts (fun J T => (NF.y_comp (er := eStr) (fun R => R = []) T O k.2 k.1 rfl (fun i x1 r pc7 acc5 at6 F0 F R H v hi lc4 hI ra8 hl l1 O hv k => (have lc4 := Ex.trans lc4 l1; (have ra8 := ra8.mono fun _ _ => Enc.mono eStr l1.le; (have O := NF.castR hI O; (have h_start := Enc.mono (eTup eInt) lc4.le h_start; (have h_end := Enc.mono (eTup eInt) lc4.le h_end; (have h_texts := Enc.mono (eTup eStr) lc4.le h_texts; (have lF := Ex.trans lF lc4; (NF.byS v hv (NF.x_name ⟨NF.set_wipe _ _ _, (NF.x_yes (NF.x_tt (NF.x_call (NF.x_cons (NF.x_var rfl (NF.x_nil (NF.use_spW (i := x1) O rfl ⟨_, rfl, rfl⟩ k (fun y9 v F H l0 O hv k => NF.byS v hv (have h_start := Enc.mono (eTup eInt) l0.le h_start; (have h_end := Enc.mono (eTup eInt) l0.le h_end; (have h_texts := Enc.mono (eTup eStr) l0.le h_texts; (have lF := Ex.trans lF l0; (have lc4 := Ex.trans lc4 l0; (NF.cE_mk (R' := []) hi lc4 rfl O ra8 hl rfl k))))))))))))))⟩)))))))))) (fun p12 F R vs11 y10 H l0 hI O ra13 k => (have O := NF.castR hI O; (have h_start := Enc.mono (eTup eInt) l0.le h_start; (have h_end := Enc.mono (eTup eInt) l0.le h_end; (have h_texts := Enc.mono (eTup eStr) l0.le h_texts; (have lF := Ex.trans lF l0; (NF.y_frzL O (fun F l0 hp O => (have h_start := Enc.mono (eTup eInt) l0.le h_start; (have h_end := Enc.mono (eTup eInt) l0.le h_end; (have h_texts := Enc.mono (eTup eStr) l0.le h_texts; (have lF := Ex.trans lF l0; (have h14 : (eLst eStr).rep F (.ref p12) y10 := ⟨_, _, rfl, hp, ra13.mono fun _ _ => Enc.mono eStr l0.le⟩; (NF.x_nil (have c15 := k.1; have k := k.2; (NF.y_joinL O.leF h14 c15 (NF.x_name ?_)))))))))))))))))))))))))))))
  exact (NF.x_ret (NF.x_jsc (NF.x_fmt (NF.x_call (NF.x_cons (NF.x_var rfl (NF.x_nil (NF.use_spW (i := a_start) O rfl ⟨_, rfl, h_start⟩ k (fun y16 v F H l0 O hv k => NF.byS v hv (have h_start := Enc.mono (eTup eInt) l0.le h_start; (have h_end := Enc.mono (eTup eInt) l0.le h_end; (have h_texts := Enc.mono (eTup eStr) l0.le h_texts; (have lF := Ex.trans lF l0; (have c17 := k.1; have k := k.2; (Or.inl ⟨_, rfl, c17, (have c18 := k.1; have k := k.2; ⟨_, rfl, c18, (NF.x_jsc (NF.x_c (have c19 := k.1; have k := k.2; ⟨_, rfl, c19, (NF.x_jsc (NF.x_fmt (NF.x_call (NF.x_cons (NF.x_var rfl (NF.x_nil (NF.use_spW (i := a_end) O rfl ⟨_, rfl, h_end⟩ k (fun y20 v F H l0 O hv k => NF.byS v hv (have h_start := Enc.mono (eTup eInt) l0.le h_start; (have h_end := Enc.mono (eTup eInt) l0.le h_end; (have h_texts := Enc.mono (eTup eStr) l0.le h_texts; (have lF := Ex.trans lF l0; (have c21 := k.1; have k := k.2; (Or.inl ⟨_, rfl, c21, (have c22 := k.1; have k := k.2; ⟨_, rfl, c22, (NF.x_jsc (NF.x_c (have c23 := k.1; have k := k.2; ⟨_, rfl, c23, (NF.x_jsc (NF.x_fmt (NF.x_var rfl (have c24 := k.1; have k := k.2; (Or.inl ⟨_, rfl, c24, (have c25 := k.1; have k := k.2; ⟨_, rfl, c25, (NF.x_js0 (q (((((Str.empty ++ y16) ++ (Str.ofString ">")) ++ y20) ++ (Str.ofString ">")) ++ (Txt.join (Str.ofString ",") y10)) k _ _ _ O.leB O.leF lF rfl))⟩)⟩)))))⟩)))⟩)⟩))))))))))))))⟩)))⟩)⟩)))))))))))))))

def m_write_pairsL (a_paper : List ((List Int) × (List Int))) : W (Str) :=
  W.bind (W.comp a_paper fun x1 =>
  W.bind (m_state_form x1.1) fun y13 =>
  W.chk (y13.length ≤ sizeLine) <|
  W.chk ((Str.empty ++ y13).length ≤ sizeLine) <|
  W.chk (((Str.empty ++ y13) ++ (Str.ofString ">")).length ≤ sizeLine) <|
  W.bind (m_state_form x1.2) fun y17 =>
  W.chk (y17.length ≤ sizeLine) <|
  W.chk ((((Str.empty ++ y13) ++ (Str.ofString ">")) ++ y17).length ≤ sizeLine) <|
  W.ok (some (((Str.empty ++ y13) ++ (Str.ofString ">")) ++ y17))) fun y20 =>
  W.bind (m_paper_form y20) fun y25 =>
  W.ok y25
abbrev NM_write_pairsL : List Str := ["paper", "start", "end"]
theorem sc_write_pairsL : FnScope NM_write_pairsL ["paper"] (defScope s_write_pairsL) := ⟨rfl, rfl, rfl, by decide +kernel, rfl, by decide +kernel, by decide +kernel⟩
theorem d_write_pairsL (F : Fn0 K mg "write_pairs" s_write_pairsL) (T : Txt P K mg) (D_paper_form : Def P w K mg base 1 "_paper_form" ["words"] (spW 1 (fun F vs (i : (List Str)) => ∃ v0, vs = [v0] ∧ (eLst eStr).rep F v0 i) eStr (fun (i : (List Str)) => m_paper_form i))) (D_state_form : Def P w K mg base 1 "_state_form" ["state"] (spW 1 (fun F vs (i : (List Int)) => ∃ v0, vs = [v0] ∧ (eTup eInt).rep F v0 i) eStr (fun (i : (List Int)) => m_state_form i))) :
    Def P w K mg base 2 "write_pairs" ["paper"] (spW 1 (fun F vs (i : (List ((List Int) × (List Int)))) => ∃ v0, vs = [v0] ∧ (eLst (eP2 (eTup eInt) (eTup eInt))).rep F v0 i) eStr (fun (i : (List ((List Int) × (List Int)))) => m_write_pairsL i)) := by
  refine Def.mk0 F sc_write_pairsL (by first | exact NF.hl_spW | exact NF.hl_spWb | exact NF.hl_spWX) (fun _ _ _ _ _ _ us hl => match us, hl with | [_], _ => rfl) (fun cdv A outer s H vs Q E hr h => ?_)
  refine ⟨_, (pss_one (ps_ret (pe_d D_paper_form (hr.mono (by decide)) rfl (pa_cons (pe_lc (own := [("start", 1), ("end", 2)]) (g := gTup K 2 (gCons (gName 1) (gCons (gName 2) gNil))) rfl sc_write_pairsL.nd (pi_list (pv 0)) (blkOk_by (own := [("start", 1), ("end", 2)]) (N := NM_write_pairsL) (sc := defScope s_write_pairsL) (by decide +kernel)) (fun _ _ _ _ _ => (pg_tup (by rfl) (pgs_cons (pg_name (i := 1) sc_write_pairsL.nd rfl (Or.inl rfl)) (pgs_cons (pg_name (i := 2) sc_write_pairsL.nd rfl (Or.inl rfl)) pgs_nil)))) (fun _ _ _ _ _ => pts_nil) (fun _ _ _ _ _ => (pe_joined (PJ.cons (pe_fmt (pe_d D_state_form (hr.mono (by decide)) rfl (pa_cons (pv 1) pa_nil))) (PJ.cons pe_str (PJ.cons (pe_fmt (pe_d D_state_form (hr.mono (by decide)) rfl (pa_cons (pv 2) pa_nil))) PJ.nil)))))) pa_nil)))), ?_⟩
  try dsimp only [cxOf, Cx.nox, Cx.wish]
  obtain ⟨hl, F, a_paper, K0, hF, ⟨v_paper, rfl, h_paper⟩, k, q⟩ := h
  have O := NF.Fz.start hF
  have lF := NF.Ex.rfl (B := H) (F := F)
  exact (NF.x_ret (NF.x_call (NF.x_cons (NF.x_lc (NF.x_jL (NF.x_var rfl (NF.y_jL O.leF h_paper (fun J T => (NF.y_comp (er := eStr) (fun R => R = []) T O k.2 k.1 rfl (fun i x1 r pc7 acc5 at6 F0 F R H v2 hi lc4 hI ra8 hl l1 O h3 k => (have lc4 := Ex.trans lc4 l1; (have ra8 := ra8.mono fun _ _ => Enc.mono eStr l1.le; (have O := NF.castR hI O; (have h_paper := Enc.mono (eLst (eP2 (eTup eInt) (eTup eInt))) lc4.le h_paper; (have lF := Ex.trans lF lc4; (NF.y_un2 O.leF h3 (fun v9 v11 h10 h12 => (NF.g_cons (NF.x_name (NF.g_cons (NF.x_name (NF.g_nil ⟨NF.wipe2 _ _ _ _ _, (NF.x_yes (NF.x_tt (NF.x_jsc (NF.x_fmt (NF.x_call (NF.x_cons (NF.x_var rfl (NF.x_nil (NF.use_spW (i := x1.1) O rfl ⟨_, rfl, h10⟩ k (fun y13 v F H l0 O hv k => NF.byS v hv (have h_paper := Enc.mono (eLst (eP2 (eTup eInt) (eTup eInt))) l0.le h_paper; (have h10 := Enc.mono (eTup eInt) l0.le h10; (have h12 := Enc.mono (eTup eInt) l0.le h12; (have lF := Ex.trans lF l0; (have lc4 := Ex.trans lc4 l0; (have c14 := k.1; have k := k.2; (Or.inl ⟨_, rfl, c14, (have c15 := k.1; have k := k.2; ⟨_, rfl, c15, (NF.x_jsc (NF.x_c (have c16 := k.1; have k := k.2; ⟨_, rfl, c16, (NF.x_jsc (NF.x_fmt (NF.x_call (NF.x_cons (NF.x_var rfl (NF.x_nil (NF.use_spW (i := x1.2) O rfl ⟨_, rfl, h12⟩ k (fun y17 v F H l0 O hv k => NF.byS v hv (have h_paper := Enc.mono (eLst (eP2 (eTup eInt) (eTup eInt))) l0.le h_paper; (have h10 := Enc.mono (eTup eInt) l0.le h10; (have h12 := Enc.mono (eTup eInt) l0.le h12; (have lF := Ex.trans lF l0; (have lc4 := Ex.trans lc4 l0; (have c18 := k.1; have k := k.2; (Or.inl ⟨_, rfl, c18, (have c19 := k.1; have k := k.2; ⟨_, rfl, c19, (NF.x_js0 (NF.cE_mk (R' := []) hi lc4 rfl O ra8 hl rfl k))⟩)⟩)))))))))))))))⟩)))⟩)⟩)))))))))))))))))⟩))))))))))))) (fun p22 F R vs21 y20 H l0 hI O ra23 k => (have O := NF.castR hI O; (have h_paper := Enc.mono (eLst (eP2 (eTup eInt) (eTup eInt))) l0.le h_paper; (have lF := Ex.trans lF l0; (NF.y_frzL O (fun F l0 hp O => (have h_paper := Enc.mono (eLst (eP2 (eTup eInt) (eTup eInt))) l0.le h_paper; (have lF := Ex.trans lF l0; (have h24 : (eLst eStr).rep F (.ref p22) y20 := ⟨_, _, rfl, hp, ra23.mono fun _ _ => Enc.mono eStr l0.le⟩; (NF.x_nil (NF.use_spW (i := y20) O rfl ⟨_, rfl, h24⟩ k (fun y25 v F H l0 O hv k => NF.byS v hv (have h_paper := Enc.mono (eLst (eP2 (eTup eInt) (eTup eInt))) l0.le h_paper; (have h24 := Enc.mono (eLst eStr) l0.le h24; (have lF := Ex.trans lF l0; (q y25 k _ _ _ O.leB O.leF lF rfl)))))))))))))))))))))))))

def m_write_pairsT (a_paper : List ((List Int) × (List Int))) : W (Str) :=
  W.bind (W.comp a_paper fun x1 =>
  W.bind (m_state_form x1.1) fun y13 =>
  W.chk (y13.length ≤ sizeLine) <|
  W.chk ((Str.empty ++ y13).length ≤ sizeLine) <|
  W.chk (((Str.empty ++ y13) ++ (Str.ofString ">")).length ≤ sizeLine) <|
  W.bind (m_state_form x1.2) fun y17 =>
  W.chk (y17.length ≤ sizeLine) <|
  W.chk ((((Str.empty ++ y13) ++ (Str.ofString ">")) ++ y17).length ≤ sizeLine) <|
  W.ok (some (((Str.empty ++ y13) ++ (Str.ofString ">")) ++ y17))) fun y20 =>
  W.bind (m_paper_form y20) fun y25 =>
  W.ok y25
abbrev NM_write_pairsT : List Str := ["paper", "start", "end"]
theorem sc_write_pairsT : FnScope NM_write_pairsT ["paper"] (defScope s_write_pairsT) := ⟨rfl, rfl, rfl, by decide +kernel, rfl, by decide +kernel, by decide +kernel⟩
theorem d_write_pairsT (F : Fn0 K mg "write_pairs" s_write_pairsT) (T : Txt P K mg) (D_paper_form : Def P w K mg base 1 "_paper_form" ["words"] (spW 1 (fun F vs (i : (List Str)) => ∃ v0, vs = [v0] ∧ (eLst eStr).rep F v0 i) eStr (fun (i : (List Str)) => m_paper_form i))) (D_state_form : Def P w K mg base 1 "_state_form" ["state"] (spW 1 (fun F vs (i : (List Int)) => ∃ v0, vs = [v0] ∧ (eTup eInt).rep F v0 i) eStr (fun (i : (List Int)) => m_state_form i))) :
    Def P w K mg base 2 "write_pairs" ["paper"] (spW 1 (fun F vs (i : (List ((List Int) × (List Int)))) => ∃ v0, vs = [v0] ∧ (eTup (eP2 (eTup eInt) (eTup eInt))).rep F v0 i) eStr (fun (i : (List ((List Int) × (List Int)))) => m_write_pairsT i)) := by
  refine Def.mk0 F sc_write_pairsT (by first | exact NF.hl_spW | exact NF.hl_spWb | exact NF.hl_spWX) (fun _ _ _ _ _ _ us hl => match us, hl with | [_], _ => rfl) (fun cdv A outer s H vs Q E hr h => ?_)
  refine ⟨_, (pss_one (ps_ret (pe_d D_paper_form (hr.mono (by decide)) rfl (pa_cons (pe_lc (own := [("start", 1), ("end", 2)]) (g := gTup K 2 (gCons (gName 1) (gCons (gName 2) gNil))) rfl sc_write_pairsT.nd (pi_tup (pv 0)) (blkOk_by (own := [("start", 1), ("end", 2)]) (N := NM_write_pairsT) (sc := defScope s_write_pairsT) (by decide +kernel)) (fun _ _ _ _ _ => (pg_tup (by rfl) (pgs_cons (pg_name (i := 1) sc_write_pairsT.nd rfl (Or.inl rfl)) (pgs_cons (pg_name (i := 2) sc_write_pairsT.nd rfl (Or.inl rfl)) pgs_nil)))) (fun _ _ _ _ _ => pts_nil) (fun _ _ _ _ _ => (pe_joined (PJ.cons (pe_fmt (pe_d D_state_form (hr.mono (by decide)) rfl (pa_cons (pv 1) pa_nil))) (PJ.cons pe_str (PJ.cons (pe_fmt (pe_d D_state_form (hr.mono (by decide)) rfl (pa_cons (pv 2) pa_nil))) PJ.nil)))))) pa_nil)))), ?_⟩
  try dsimp only [cxOf, Cx.nox, Cx.wish]
  obtain ⟨hl, F, a_paper, K0, hF, ⟨v_paper, rfl, h_paper⟩, k, q⟩ := h
  have O := NF.Fz.start hF
  have lF := NF.Ex.rfl (B := H) (F := F)
  exact (NF.x_ret (NF.x_call (NF.x_cons (NF.x_lc (NF.x_jT (NF.x_var rfl (NF.y_jT O.leF h_paper (fun J T => (NF.y_comp (er := eStr) (fun R => R = []) T O k.2 k.1 rfl (fun i x1 r pc7 acc5 at6 F0 F R H v2 hi lc4 hI ra8 hl l1 O h3 k => (have lc4 := Ex.trans lc4 l1; (have ra8 := ra8.mono fun _ _ => Enc.mono eStr l1.le; (have O := NF.castR hI O; (have h_paper := Enc.mono (eTup (eP2 (eTup eInt) (eTup eInt))) lc4.le h_paper; (have lF := Ex.trans lF lc4; (NF.y_un2 O.leF h3 (fun v9 v11 h10 h12 => (NF.g_cons (NF.x_name (NF.g_cons (NF.x_name (NF.g_nil ⟨NF.wipe2 _ _ _ _ _, (NF.x_yes (NF.x_tt (NF.x_jsc (NF.x_fmt (NF.x_call (NF.x_cons (NF.x_var rfl (NF.x_nil (NF.use_spW (i := x1.1) O rfl ⟨_, rfl, h10⟩ k (fun y13 v F H l0 O hv k => NF.byS v hv (have h_paper := Enc.mono (eTup (eP2 (eTup eInt) (eTup eInt))) l0.le h_paper; (have h10 := Enc.mono (eTup eInt) l0.le h10; (have h12 := Enc.mono (eTup eInt) l0.le h12; (have lF := Ex.trans lF l0; (have lc4 := Ex.trans lc4 l0; (have c14 := k.1; have k := k.2; (Or.inl ⟨_, rfl, c14, (have c15 := k.1; have k := k.2; ⟨_, rfl, c15, (NF.x_jsc (NF.x_c (have c16 := k.1; have k := k.2; ⟨_, rfl, c16, (NF.x_jsc (NF.x_fmt (NF.x_call (NF.x_cons (NF.x_var rfl (NF.x_nil (NF.use_spW (i := x1.2) O rfl ⟨_, rfl, h12⟩ k (fun y17 v F H l0 O hv k => NF.byS v hv (have h_paper := Enc.mono (eTup (eP2 (eTup eInt) (eTup eInt))) l0.le h_paper; (have h10 := Enc.mono (eTup eInt) l0.le h10; (have h12 := Enc.mono (eTup eInt) l0.le h12; (have lF := Ex.trans lF l0; (have lc4 := Ex.trans lc4 l0; (have c18 := k.1; have k := k.2; (Or.inl ⟨_, rfl, c18, (have c19 := k.1; have k := k.2; ⟨_, rfl, c19, (NF.x_js0 (NF.cE_mk (R' := []) hi lc4 rfl O ra8 hl rfl k))⟩)⟩)))))))))))))))⟩)))⟩)⟩)))))))))))))))))⟩))))))))))))) (fun p22 F R vs21 y20 H l0 hI O ra23 k => (have O := NF.castR hI O; (have h_paper := Enc.mono (eTup (eP2 (eTup eInt) (eTup eInt))) l0.le h_paper; (have lF := Ex.trans lF l0; (NF.y_frzL O (fun F l0 hp O => (have h_paper := Enc.mono (eTup (eP2 (eTup eInt) (eTup eInt))) l0.le h_paper; (have lF := Ex.trans lF l0; (have h24 : (eLst eStr).rep F (.ref p22) y20 := ⟨_, _, rfl, hp, ra23.mono fun _ _ => Enc.mono eStr l0.le⟩; (NF.x_nil (NF.use_spW (i := y20) O rfl ⟨_, rfl, h24⟩ k (fun y25 v F H l0 O hv k => NF.byS v hv (have h_paper := Enc.mono (eTup (eP2 (eTup eInt) (eTup eInt))) l0.le h_paper; (have h24 := Enc.mono (eLst eStr) l0.le h24; (have lF := Ex.trans lF l0; (q y25 k _ _ _ O.leB O.leF lF rfl)))))))))))))))))))))))))

def m_write_rowsL (a_paper : List ((List Int) × (List Int) × (List Str))) : W (Str) :=
  W.bind (W.comp a_paper fun x1 =>
  W.bind (m_row_form x1.1 x1.2.1 x1.2.2) fun y15 =>
  W.ok (some y15)) fun y16 =>
  W.bind (m_paper_form y16) fun y21 =>
  W.ok y21
abbrev NM_write_rowsL : List Str := ["paper", "start", "end", "texts"]
theorem sc_write_rowsL : FnScope NM_write_rowsL ["paper"] (defScope s_write_rowsL) := ⟨rfl, rfl, rfl, by decide +kernel, rfl, by decide +kernel, by decide +kernel⟩
theorem d_write_rowsL (F : Fn0 K mg "write_rows" s_write_rowsL) (T : Txt P K mg) (D_paper_form : Def P w K mg base 1 "_paper_form" ["words"] (spW 1 (fun F vs (i : (List Str)) => ∃ v0, vs = [v0] ∧ (eLst eStr).rep F v0 i) eStr (fun (i : (List Str)) => m_paper_form i))) (D_row_form : Def P w K mg base 2 "_row_form" ["start", "end", "texts"] (spW 3 (fun F vs (i : (List Int) × (List Int) × (List Str)) => ∃ v0 v1 v2, vs = [v0, v1, v2] ∧ (eTup eInt).rep F v0 i.1 ∧ (eTup eInt).rep F v1 i.2.1 ∧ (eTup eStr).rep F v2 i.2.2) eStr (fun (i : (List Int) × (List Int) × (List Str)) => m_row_form i.1 i.2.1 i.2.2))) :
    Def P w K mg base 3 "write_rows" ["paper"] (spW 1 (fun F vs (i : (List ((List Int) × (List Int) × (List Str)))) => ∃ v0, vs = [v0] ∧ (eLst (eP3 (eTup eInt) (eTup eInt) (eTup eStr))).rep F v0 i) eStr (fun (i : (List ((List Int) × (List Int) × (List Str)))) => m_write_rowsL i)) := by
  refine Def.mk0 F sc_write_rowsL (by first | exact NF.hl_spW | exact NF.hl_spWb | exact NF.hl_spWX) (fun _ _ _ _ _ _ us hl => match us, hl with | [_], _ => rfl) (fun cdv A outer s H vs Q E hr h => ?_)
  refine ⟨_, (pss_one (ps_ret (pe_d D_paper_form (hr.mono (by decide)) rfl (pa_cons (pe_lc (own := [("start", 1), ("end", 2), ("texts", 3)]) (g := gTup K 3 (gCons (gName 1) (gCons (gName 2) (gCons (gName 3) gNil)))) rfl sc_write_rowsL.nd (pi_list (pv 0)) (blkOk_by (own := [("start", 1), ("end", 2), ("texts", 3)]) (N := NM_write_rowsL) (sc := defScope s_write_rowsL) (by decide +kernel)) (fun _ _ _ _ _ => (pg_tup (by rfl) (pgs_cons (pg_name (i := 1) sc_write_rowsL.nd rfl (Or.inl rfl)) (pgs_cons (pg_name (i := 2) sc_write_rowsL.nd rfl (Or.inl rfl)) (pgs_cons (pg_name (i := 3) sc_write_rowsL.nd rfl (Or.inl rfl)) pgs_nil))))) (fun _ _ _ _ _ => pts_nil) (fun _ _ _ _ _ => (pe_d D_row_form (hr.mono (by decide)) rfl (pa_cons (pv 1) (pa_cons (pv 2) (pa_cons (pv 3) pa_nil)))))) pa_nil)))), ?_⟩
  try dsimp only [cxOf, Cx.nox, Cx.wish]
  obtain ⟨hl, F, a_paper, K0, hF, ⟨v_paper, rfl, h_paper⟩, k, q⟩ := h
  have O := NF.Fz.start hF
  have lF := NF.Ex.rfl (B := H) (F := F)
  exact (NF.x_ret (NF.x_call (NF.x_cons (NF.x_lc (NF.x_jL (NF.x_var rfl (NF.y_jL O.leF h_paper (fun J T => (NF.y_comp (er := eStr) (fun R => R = []) T O k.2 k.1 rfl (fun i x1 r pc7 acc5 at6 F0 F R H v2 hi lc4 hI ra8 hl l1 O h3 k => (have lc4 := Ex.trans lc4 l1; (have ra8 := ra8.mono fun _ _ => Enc.mono eStr l1.le; (have O := NF.castR hI O; (have h_paper := Enc.mono (eLst (eP3 (eTup eInt) (eTup eInt) (eTup eStr))) lc4.le h_paper; (have lF := Ex.trans lF lc4; (NF.y_un3 O.leF h3 (fun v9 v11 v13 h10 h12 h14 => (NF.g_cons (NF.x_name (NF.g_cons (NF.x_name (NF.g_cons (NF.x_name (NF.g_nil ⟨NF.wipe3 _ _ _ _ _ _ _, (NF.x_yes (NF.x_tt (NF.x_call (NF.x_cons (NF.x_var rfl (NF.x_cons (NF.x_var rfl (NF.x_cons (NF.x_var rfl (NF.x_nil (NF.use_spW (i := (x1.1, x1.2.1, x1.2.2)) O rfl ⟨_, _, _, rfl, h10, h12, h14⟩ k (fun y15 v F H l0 O hv k => NF.byS v hv (have h_paper := Enc.mono (eLst (eP3 (eTup eInt) (eTup eInt) (eTup eStr))) l0.le h_paper; (have h10 := Enc.mono (eTup eInt) l0.le h10; (have h12 := Enc.mono (eTup eInt) l0.le h12; (have h14 := Enc.mono (eTup eStr) l0.le h14; (have lF := Ex.trans lF l0; (have lc4 := Ex.trans lc4 l0; (NF.cE_mk (R' := []) hi lc4 rfl O ra8 hl rfl k)))))))))))))))))))⟩))))))))))))))) (fun p18 F R vs17 y16 H l0 hI O ra19 k => (have O := NF.castR hI O; (have h_paper := Enc.mono (eLst (eP3 (eTup eInt) (eTup eInt) (eTup eStr))) l0.le h_paper; (have lF := Ex.trans lF l0; (NF.y_frzL O (fun F l0 hp O => (have h_paper := Enc.mono (eLst (eP3 (eTup eInt) (eTup eInt) (eTup eStr))) l0.le h_paper; (have lF := Ex.trans lF l0; (have h20 : (eLst eStr).rep F (.ref p18) y16 := ⟨_, _, rfl, hp, ra19.mono fun _ _ => Enc.mono eStr l0.le⟩; (NF.x_nil (NF.use_spW (i := y16) O rfl ⟨_, rfl, h20⟩ k (fun y21 v F H l0 O hv k => NF.byS v hv (have h_paper := Enc.mono (eLst (eP3 (eTup eInt) (eTup eInt) (eTup eStr))) l0.le h_paper; (have h20 := Enc.mono (eLst eStr) l0.le h20; (have lF := Ex.trans lF l0; (q y21 k _ _ _ O.leB O.leF lF rfl)))))))))))))))))))))))))

def m_write_rowsT (a_paper : List ((List Int) × (List Int) × (List Str))) : W (Str) :=
  W.bind (W.comp a_paper fun x1 =>
  W.bind (m_row_form x1.1 x1.2.1 x1.2.2) fun y15 =>
  W.ok (some y15)) fun y16 =>
  W.bind (m_paper_form y16) fun y21 =>
  W.ok y21
abbrev NM_write_rowsT : List Str := ["paper", "start", "end", "texts"]
theorem sc_write_rowsT : FnScope NM_write_rowsT ["paper"] (defScope s_write_rowsT) := ⟨rfl, rfl, rfl, by decide +kernel, rfl, by decide +kernel, by decide +kernel⟩
theorem d_write_rowsT (F : Fn0 K mg "write_rows" s_write_rowsT) (T : Txt P K mg) (D_paper_form : Def P w K mg base 1 "_paper_form" ["words"] (spW 1 (fun F vs (i : (List Str)) => ∃ v0, vs = [v0] ∧ (eLst eStr).rep F v0 i) eStr (fun (i : (List Str)) => m_paper_form i))) (D_row_form : Def P w K mg base 2 "_row_form" ["start", "end", "texts"] (spW 3 (fun F vs (i : (List Int) × (List Int) × (List Str)) => ∃ v0 v1 v2, vs = [v0, v1, v2] ∧ (eTup eInt).rep F v0 i.1 ∧ (eTup eInt).rep F v1 i.2.1 ∧ (eTup eStr).rep F v2 i.2.2) eStr (fun (i : (List Int) × (List Int) × (List Str)) => m_row_form i.1 i.2.1 i.2.2))) :
    Def P w K mg base 3 "write_rows" ["paper"] (spW 1 (fun F vs (i : (List ((List Int) × (List Int) × (List Str)))) => ∃ v0, vs = [v0] ∧ (eTup (eP3 (eTup eInt) (eTup eInt) (eTup eStr))).rep F v0 i) eStr (fun (i : (List ((List Int) × (List Int) × (List Str)))) => m_write_rowsT i)) := by
  refine Def.mk0 F sc_write_rowsT (by first | exact NF.hl_spW | exact NF.hl_spWb | exact NF.hl_spWX) (fun _ _ _ _ _ _ us hl => match us, hl with | [_], _ => rfl) (fun cdv A outer s H vs Q E hr h => ?_)
  refine ⟨_, (pss_one (ps_ret (pe_d D_paper_form (hr.mono (by decide)) rfl (pa_cons (pe_lc (own := [("start", 1), ("end", 2), ("texts", 3)]) (g := gTup K 3 (gCons (gName 1) (gCons (gName 2) (gCons (gName 3) gNil)))) rfl sc_write_rowsT.nd (pi_tup (pv 0)) (blkOk_by (own := [("start", 1), ("end", 2), ("texts", 3)]) (N := NM_write_rowsT) (sc := defScope s_write_rowsT) (by decide +kernel)) (fun _ _ _ _ _ => (pg_tup (by rfl) (pgs_cons (pg_name (i := 1) sc_write_rowsT.nd rfl (Or.inl rfl)) (pgs_cons (pg_name (i := 2) sc_write_rowsT.nd rfl (Or.inl rfl)) (pgs_cons (pg_name (i := 3) sc_write_rowsT.nd rfl (Or.inl rfl)) pgs_nil))))) (fun _ _ _ _ _ => pts_nil) (fun _ _ _ _ _ => (pe_d D_row_form (hr.mono (by decide)) rfl (pa_cons (pv 1) (pa_cons (pv 2) (pa_cons (pv 3) pa_nil)))))) pa_nil)))), ?_⟩
  try dsimp only [cxOf, Cx.nox, Cx.wish]
  obtain ⟨hl, F, a_paper, K0, hF, ⟨v_paper, rfl, h_paper⟩, k, q⟩ := h
  have O := NF.Fz.start hF
  have lF := NF.Ex.rfl (B := H) (F := F)
  exact (NF.x_ret (NF.x_call (NF.x_cons (NF.x_lc (NF.x_jT (NF.x_var rfl (NF.y_jT O.leF h_paper (fun J T => (NF.y_comp (er := eStr) (fun R => R = []) T O k.2 k.1 rfl (fun i x1 r pc7 acc5 at6 F0 F R H v2 hi lc4 hI ra8 hl l1 O h3 k => (have lc4 := Ex.trans lc4 l1; (have ra8 := ra8.mono fun _ _ => Enc.mono eStr l1.le; (have O := NF.castR hI O; (have h_paper := Enc.mono (eTup (eP3 (eTup eInt) (eTup eInt) (eTup eStr))) lc4.le h_paper; (have lF := Ex.trans lF lc4; (NF.y_un3 O.leF h3 (fun v9 v11 v13 h10 h12 h14 => (NF.g_cons (NF.x_name (NF.g_cons (NF.x_name (NF.g_cons (NF.x_name (NF.g_nil ⟨NF.wipe3 _ _ _ _ _ _ _, (NF.x_yes (NF.x_tt (NF.x_call (NF.x_cons (NF.x_var rfl (NF.x_cons (NF.x_var rfl (NF.x_cons (NF.x_var rfl (NF.x_nil (NF.use_spW (i := (x1.1, x1.2.1, x1.2.2)) O rfl ⟨_, _, _, rfl, h10, h12, h14⟩ k (fun y15 v F H l0 O hv k => NF.byS v hv (have h_paper := Enc.mono (eTup (eP3 (eTup eInt) (eTup eInt) (eTup eStr))) l0.le h_paper; (have h10 := Enc.mono (eTup eInt) l0.le h10; (have h12 := Enc.mono (eTup eInt) l0.le h12; (have h14 := Enc.mono (eTup eStr) l0.le h14; (have lF := Ex.trans lF l0; (have lc4 := Ex.trans lc4 l0; (NF.cE_mk (R' := []) hi lc4 rfl O ra8 hl rfl k)))))))))))))))))))⟩))))))))))))))) (fun p18 F R vs17 y16 H l0 hI O ra19 k => (have O := NF.castR hI O; (have h_paper := Enc.mono (eTup (eP3 (eTup eInt) (eTup eInt) (eTup eStr))) l0.le h_paper; (have lF := Ex.trans lF l0; (NF.y_frzL O (fun F l0 hp O => (have h_paper := Enc.mono (eTup (eP3 (eTup eInt) (eTup eInt) (eTup eStr))) l0.le h_paper; (have lF := Ex.trans lF l0; (have h20 : (eLst eStr).rep F (.ref p18) y16 := ⟨_, _, rfl, hp, ra19.mono fun _ _ => Enc.mono eStr l0.le⟩; (NF.x_nil (NF.use_spW (i := y16) O rfl ⟨_, rfl, h20⟩ k (fun y21 v F H l0 O hv k => NF.byS v hv (have h_paper := Enc.mono (eTup (eP3 (eTup eInt) (eTup eInt) (eTup eStr))) l0.le h_paper; (have h20 := Enc.mono (eLst eStr) l0.le h20; (have lF := Ex.trans lF l0; (q y21 k _ _ _ O.leB O.leF lF rfl)))))))))))))))))))))))))

def m_paper_ofP (a_form : Str) (a_reader : Unit) : W (Except Exn (List ((List Int) × (List Int)))) :=
  W.ite (decide (a_form = (Str.ofString "."))) (W.ok (.ok []))
  (W.chk (((Str.ofString ";").length == 0) = false ∧ a_form.length + 2 ≤ sizeLine) <|
  W.bind (m_all_readP (Txt.split a_form (Str.ofString ";")) ()) fun y6 =>
  W.onone y6 (W.ok (.error ("BadForm", none))) fun y9 =>
  W.ok (.ok y9))
abbrev NM_paper_ofP : List Str := ["form", "reader", "parts"]
theorem sc_paper_ofP : FnScope NM_paper_ofP ["form", "reader"] (defScope s_paper_ofP) := ⟨rfl, rfl, rfl, by decide +kernel, rfl, by decide +kernel, by decide +kernel⟩
theorem d_paper_ofP (F : Fn0 K mg "_paper_of" s_paper_ofP) (T : Txt P K mg) (D_all_readP : Def P w K mg base 6 "all_read" ["words", "reader"] (spW 2 (fun F vs (i : (List Str) × Unit) => ∃ v0 v1, vs = [v0, v1] ∧ (eLst eStr).rep F v0 i.1 ∧ (eFn (cad mg "_pair_of")).rep F v1 i.2) (eOpt (eLst (eP2 (eTup eInt) (eTup eInt)))) (fun (i : (List Str) × Unit) => m_all_readP i.1 i.2))) :
    DefX P w K mg base 7 "_paper_of" ["form", "reader"] [] (spWX mg 2 (fun F vs (i : Str × Unit) => ∃ v0 v1, vs = [v0, v1] ∧ eStr.rep F v0 i.1 ∧ (eFn (cad mg "_pair_of")).rep F v1 i.2) (eTup (eP2 (eTup eInt) (eTup eInt))) (fun (i : Str × Unit) => m_paper_ofP i.1 i.2)) := by
  refine DefX.mk0 F sc_paper_ofP (by first | exact NF.hl_spW | exact NF.hl_spWb | exact NF.hl_spWX) (fun _ _ _ _ _ _ us hl => match us, hl with | [_, _], _ => rfl) (fun cdv A outer s H vs Q E hr h tk po => ?_)
  refine ⟨_, (pss_cons (ps_if (pt_cmpR op_eq (pv 0) (pe_g rfl T.g_EMPTY) (nomark _))
      (pss_one (ps_ret (pe_tup pa_nil)))
      pss_nil)
      (pss_cons (ps_set (i := 2) sc_paper_ofP.nd rfl (Or.inl rfl) (pe_d D_all_readP (hr.mono (by decide)) rfl (pa_cons (pe_bm PySem.F.plainAttrs_str PySem.F.slot_str_split PySem.F.type_str_split mtSplit (pv 0) (pa_cons pe_str pa_nil)) (pa_cons (pv 1) pa_nil))))
      (pss_cons (ps_if (pt_cmpR opIsN (pv 2) pe_non (nomark _))
      (pss_one (L2N.ps_raise rfl tk (pmk_x0 T.x_BadForm (hr.mono (by decide)) (by rfl))))
      pss_nil)
      (pss_one (ps_ret (pe_callTy (T := "tuple") callTupleOf (by rfl) T.b_tuple (by decide +kernel) (pa_cons (pv 2) pa_nil))))))), ?_⟩
  try dsimp only [cxOf, Cx.nox, Cx.wish]
  obtain ⟨hl, F, ⟨a_form, a_reader⟩, K0, hF, ⟨_, _, rfl, rfl, rfl⟩, k, q, qe⟩ := h
  have O := NF.Fz.start hF
  have lF := NF.Ex.rfl (B := H) (F := F)
  refine (NF.x_seq (NF.x_ifs (NF.x_test (NF.x_op (NF.x_var rfl (NF.x_c (NF.y_eqS (NF.x_bl (NF.x_itb (fun g15 => (have k := k.1 g15; ?_)) (fun g15 => (have k := k.2 g15; ?_)))))))))))
  · exact (NF.x_ret (NF.x_tup (NF.x_nil (NF.y_tup O (show 0 ≤ sizeLine by decide) (fun p2 F H hp l0 O => (have lF := Ex.trans lF l0; (have h1 : (eTup (eP2 (eTup eInt) (eTup eInt))).rep F (.ref p2) [] := ⟨_, _, rfl, hp, .nil⟩; (q [] k _ _ _ O.leB O.leF lF h1))))))))
  · refine NF.x_next ?_
    refine (NF.x_seq (NF.x_asg (NF.x_call (NF.x_cons (NF.x_bm (NF.x_var rfl (NF.x_tyS (NF.x_cons (NF.x_c (NF.x_nil (have c3 := k.1; have k := k.2; (NF.y_splitF O c3.1 c3.2 (fun p5 F H h4 l0 O => (have lF := Ex.trans lF l0; (NF.x_cons (NF.x_var rfl (NF.x_nil (NF.use_spW (i := ((Txt.split a_form (Str.ofString ";")), ())) O rfl ⟨_, _, rfl, h4, rfl⟩ k (fun y6 v7 F H l0 O h8 k => (have h4 := Enc.mono (eLst eStr) l0.le h4; (have lF := Ex.trans lF l0; (NF.x_name ?_))))))))))))))))))))))
    refine (NF.x_seq (NF.x_ifs (NF.x_test (NF.x_op (NF.x_var rfl (NF.x_c (NF.y_isN h8 (NF.x_bl (NF.x_itb (fun g10 => (have h11 := NF.noneR h8 (NF.isNone_t g10); have k := k.1 (NF.isNone_t g10); ?_)) (fun g10 => (Exists.elim (NF.isNone_f g10) fun y9 he => (have h12 := NF.someR h8 he; have k := k.2 y9 he; ?_))))))))))))
    · exact (NF.x_mkX0 (qe ("BadForm", none) k _ O.leB))
    · refine NF.x_next ?_
      exact (NF.x_ret (NF.x_cb (NF.x_cons (NF.x_var rfl (NF.x_nil (NF.y_tupOfL O h12 (fun p14 F H h13 l0 O => (have h12 := Enc.mono (eLst (eP2 (eTup eInt) (eTup eInt))) l0.le h12; (have lF := Ex.trans lF l0; (q y9 k _ _ _ O.leB O.leF lF h13))))))))))

def m_paper_ofR (a_form : Str) (a_reader : Unit) : W (Except Exn (List ((List Int) × (List Int) × (List Str)))) :=
  W.ite (decide (a_form = (Str.ofString "."))) (W.ok (.ok []))
  (W.chk (((Str.ofString ";").length == 0) = false ∧ a_form.length + 2 ≤ sizeLine) <|
  W.bind (m_all_readR (Txt.split a_form (Str.ofString ";")) ()) fun y6 =>
  W.onone y6 (W.ok (.error ("BadForm", none))) fun y9 =>
  W.ok (.ok y9))
abbrev NM_paper_ofR : List Str := ["form", "reader", "parts"]
theorem sc_paper_ofR : FnScope NM_paper_ofR ["form", "reader"] (defScope s_paper_ofR) := ⟨rfl, rfl, rfl, by decide +kernel, rfl, by decide +kernel, by decide +kernel⟩
theorem d_paper_ofR (F : Fn0 K mg "_paper_of" s_paper_ofR) (T : Txt P K mg) (D_all_readR : Def P w K mg base 6 "all_read" ["words", "reader"] (spW 2 (fun F vs (i : (List Str) × Unit) => ∃ v0 v1, vs = [v0, v1] ∧ (eLst eStr).rep F v0 i.1 ∧ (eFn (cad mg "_row_of")).rep F v1 i.2) (eOpt (eLst (eP3 (eTup eInt) (eTup eInt) (eTup eStr)))) (fun (i : (List Str) × Unit) => m_all_readR i.1 i.2))) :
    DefX P w K mg base 7 "_paper_of" ["form", "reader"] [] (spWX mg 2 (fun F vs (i : Str × Unit) => ∃ v0 v1, vs = [v0, v1] ∧ eStr.rep F v0 i.1 ∧ (eFn (cad mg "_row_of")).rep F v1 i.2) (eTup (eP3 (eTup eInt) (eTup eInt) (eTup eStr))) (fun (i : Str × Unit) => m_paper_ofR i.1 i.2)) := by
  refine DefX.mk0 F sc_paper_ofR (by first | exact NF.hl_spW | exact NF.hl_spWb | exact NF.hl_spWX) (fun _ _ _ _ _ _ us hl => match us, hl with | [_, _], _ => rfl) (fun cdv A outer s H vs Q E hr h tk po => ?_)
  refine ⟨_, (pss_cons (ps_if (pt_cmpR op_eq (pv 0) (pe_g rfl T.g_EMPTY) (nomark _))
      (pss_one (ps_ret (pe_tup pa_nil)))
      pss_nil)
      (pss_cons (ps_set (i := 2) sc_paper_ofR.nd rfl (Or.inl rfl) (pe_d D_all_readR (hr.mono (by decide)) rfl (pa_cons (pe_bm PySem.F.plainAttrs_str PySem.F.slot_str_split PySem.F.type_str_split mtSplit (pv 0) (pa_cons pe_str pa_nil)) (pa_cons (pv 1) pa_nil))))
      (pss_cons (ps_if (pt_cmpR opIsN (pv 2) pe_non (nomark _))
      (pss_one (L2N.ps_raise rfl tk (pmk_x0 T.x_BadForm (hr.mono (by decide)) (by rfl))))
      pss_nil)
      (pss_one (ps_ret (pe_callTy (T := "tuple") callTupleOf (by rfl) T.b_tuple (by decide +kernel) (pa_cons (pv 2) pa_nil))))))), ?_⟩
  try dsimp only [cxOf, Cx.nox, Cx.wish]
  obtain ⟨hl, F, ⟨a_form, a_reader⟩, K0, hF, ⟨_, _, rfl, rfl, rfl⟩, k, q, qe⟩ := h
  have O := NF.Fz.start hF
  have lF := NF.Ex.rfl (B := H) (F := F)
  refine (NF.x_seq (NF.x_ifs (NF.x_test (NF.x_op (NF.x_var rfl (NF.x_c (NF.y_eqS (NF.x_bl (NF.x_itb (fun g15 => (have k := k.1 g15; ?_)) (fun g15 => (have k := k.2 g15; ?_)))))))))))
  · exact (NF.x_ret (NF.x_tup (NF.x_nil (NF.y_tup O (show 0 ≤ sizeLine by decide) (fun p2 F H hp l0 O => (have lF := Ex.trans lF l0; (have h1 : (eTup (eP3 (eTup eInt) (eTup eInt) (eTup eStr))).rep F (.ref p2) [] := ⟨_, _, rfl, hp, .nil⟩; (q [] k _ _ _ O.leB O.leF lF h1))))))))
  · refine NF.x_next ?_
    refine (NF.x_seq (NF.x_asg (NF.x_call (NF.x_cons (NF.x_bm (NF.x_var rfl (NF.x_tyS (NF.x_cons (NF.x_c (NF.x_nil (have c3 := k.1; have k := k.2; (NF.y_splitF O c3.1 c3.2 (fun p5 F H h4 l0 O => (have lF := Ex.trans lF l0; (NF.x_cons (NF.x_var rfl (NF.x_nil (NF.use_spW (i := ((Txt.split a_form (Str.ofString ";")), ())) O rfl ⟨_, _, rfl, h4, rfl⟩ k (fun y6 v7 F H l0 O h8 k => (have h4 := Enc.mono (eLst eStr) l0.le h4; (have lF := Ex.trans lF l0; (NF.x_name ?_))))))))))))))))))))))
    refine (NF.x_seq (NF.x_ifs (NF.x_test (NF.x_op (NF.x_var rfl (NF.x_c (NF.y_isN h8 (NF.x_bl (NF.x_itb (fun g10 => (have h11 := NF.noneR h8 (NF.isNone_t g10); have k := k.1 (NF.isNone_t g10); ?_)) (fun g10 => (Exists.elim (NF.isNone_f g10) fun y9 he => (have h12 := NF.someR h8 he; have k := k.2 y9 he; ?_))))))))))))
    · exact (NF.x_mkX0 (qe ("BadForm", none) k _ O.leB))
    · refine NF.x_next ?_
      exact (NF.x_ret (NF.x_cb (NF.x_cons (NF.x_var rfl (NF.x_nil (NF.y_tupOfL O h12 (fun p14 F H h13 l0 O => (have h12 := Enc.mono (eLst (eP3 (eTup eInt) (eTup eInt) (eTup eStr))) l0.le h12; (have lF := Ex.trans lF l0; (q y9 k _ _ _ O.leB O.leF lF h13))))))))))

def m_read_pairs (a_form : Str) : W (Except Exn (List ((List Int) × (List Int)))) :=
  W.bindE (m_paper_ofP a_form ()) (fun e => (.error e)) fun y1 =>
  W.ok (.ok y1)
abbrev NM_read_pairs : List Str := ["form"]
theorem sc_read_pairs : FnScope NM_read_pairs ["form"] (defScope s_read_pairs) := ⟨rfl, rfl, rfl, by decide +kernel, rfl, by decide +kernel, by decide +kernel⟩
theorem d_read_pairs (F : Fn0 K mg "read_pairs" s_read_pairs) (T : Txt P K mg) (D_paper_ofP : DefX P w K mg base 7 "_paper_of" ["form", "reader"] [] (spWX mg 2 (fun F vs (i : Str × Unit) => ∃ v0 v1, vs = [v0, v1] ∧ eStr.rep F v0 i.1 ∧ (eFn (cad mg "_pair_of")).rep F v1 i.2) (eTup (eP2 (eTup eInt) (eTup eInt))) (fun (i : Str × Unit) => m_paper_ofP i.1 i.2))) :
    DefX P w K mg base 8 "read_pairs" ["form"] [] (spWX mg 1 (fun F vs (i : Str) => ∃ v0, vs = [v0] ∧ eStr.rep F v0 i) (eTup (eP2 (eTup eInt) (eTup eInt))) (fun (i : Str) => m_read_pairs i)) := by
  refine DefX.mk0 F sc_read_pairs (by first | exact NF.hl_spW | exact NF.hl_spWb | exact NF.hl_spWX) (fun _ _ _ _ _ _ us hl => match us, hl with | [_], _ => rfl) (fun cdv A outer s H vs Q E hr h tk po => ?_)
  refine ⟨_, (pss_one (ps_ret (pe_dx D_paper_ofP (hr.mono (by decide)) tk (by rfl) (pa_cons (pv 0) (pa_cons (pe_clsn T.n__pair_of rfl rfl) pa_nil))))), ?_⟩
  try dsimp only [cxOf, Cx.nox, Cx.wish]
  obtain ⟨hl, F, a_form, K0, hF, ⟨_, rfl, rfl⟩, k, q, qe⟩ := h
  have O := NF.Fz.start hF
  have lF := NF.Ex.rfl (B := H) (F := F)
  exact (NF.x_ret (NF.x_callX (NF.x_cons (NF.x_var rfl (NF.x_cons (NF.x_c (NF.x_nil (NF.use_spWX (i := (a_form, ())) O rfl ⟨_, _, rfl, rfl, rfl⟩ k (fun y1 v2 F H l0 O h3 k => (have lF := Ex.trans lF l0; (q y1 k _ _ _ O.leB O.leF lF h3))) (fun e ke => NF.ExnAt.up O.leB (qe e ke))))))))))

def m_read_rows (a_form : Str) : W (Except Exn (List ((List Int) × (List Int) × (List Str)))) :=
  W.bindE (m_paper_ofR a_form ()) (fun e => (.error e)) fun y1 =>
  W.ok (.ok y1)
abbrev NM_read_rows : List Str := ["form"]
theorem sc_read_rows : FnScope NM_read_rows ["form"] (defScope s_read_rows) := ⟨rfl, rfl, rfl, by decide +kernel, rfl, by decide +kernel, by decide +kernel⟩
theorem d_read_rows (F : Fn0 K mg "read_rows" s_read_rows) (T : Txt P K mg) (D_paper_ofR : DefX P w K mg base 7 "_paper_of" ["form", "reader"] [] (spWX mg 2 (fun F vs (i : Str × Unit) => ∃ v0 v1, vs = [v0, v1] ∧ eStr.rep F v0 i.1 ∧ (eFn (cad mg "_row_of")).rep F v1 i.2) (eTup (eP3 (eTup eInt) (eTup eInt) (eTup eStr))) (fun (i : Str × Unit) => m_paper_ofR i.1 i.2))) :
    DefX P w K mg base 8 "read_rows" ["form"] [] (spWX mg 1 (fun F vs (i : Str) => ∃ v0, vs = [v0] ∧ eStr.rep F v0 i) (eTup (eP3 (eTup eInt) (eTup eInt) (eTup eStr))) (fun (i : Str) => m_read_rows i)) := by
  refine DefX.mk0 F sc_read_rows (by first | exact NF.hl_spW | exact NF.hl_spWb | exact NF.hl_spWX) (fun _ _ _ _ _ _ us hl => match us, hl with | [_], _ => rfl) (fun cdv A outer s H vs Q E hr h tk po => ?_)
  refine ⟨_, (pss_one (ps_ret (pe_dx D_paper_ofR (hr.mono (by decide)) tk (by rfl) (pa_cons (pv 0) (pa_cons (pe_clsn T.n__row_of rfl rfl) pa_nil))))), ?_⟩
  try dsimp only [cxOf, Cx.nox, Cx.wish]
  obtain ⟨hl, F, a_form, K0, hF, ⟨_, rfl, rfl⟩, k, q, qe⟩ := h
  have O := NF.Fz.start hF
  have lF := NF.Ex.rfl (B := H) (F := F)
  exact (NF.x_ret (NF.x_callX (NF.x_cons (NF.x_var rfl (NF.x_cons (NF.x_c (NF.x_nil (NF.use_spWX (i := (a_form, ())) O rfl ⟨_, _, rfl, rfl, rfl⟩ k (fun y1 v2 F H l0 O h3 k => (have lF := Ex.trans lF l0; (q y1 k _ _ _ O.leB O.leF lF h3))) (fun e ke => NF.ExnAt.up O.leB (qe e ke))))))))))


def m_law_drawn_number : W (Int) :=
  W.bind (m_law_take (4 : Int)) fun y1 =>
  W.ite (decide (y1 = (0 : Int))) (W.bind (m_law_take (10 : Int)) fun y3 =>
  W.ok y3)
  (W.ite (decide (y1 = (1 : Int))) (W.bind (m_law_take (1000 : Int)) fun y5 =>
  W.ok y5)
  (W.ite (decide (y1 = (2 : Int))) (W.bind (m_law_take (1000 : Int)) fun y7 =>
  W.bind (m_law_take (1000 : Int)) fun y9 =>
  W.bind (m_law_take (1000 : Int)) fun y11 =>
  W.ok ((((y7 * (1000 : Int)) + y9) * (1000 : Int)) + y11))
  (W.bind (m_law_take (10 : Int)) fun y15 =>
  W.at_ [(0 : Int), (1 : Int), (9 : Int), (10 : Int), (99 : Int), (100 : Int), (12345678 : Int), (100000000 : Int), (999999998 : Int), (999999999 : Int)] y15 fun x17 =>
  W.ok x17)))
abbrev NM_law_drawn_number : List Str := ["box", "way", "number"]
theorem sc_law_drawn_number : FnScope NM_law_drawn_number ["box"] (defScope s_law_drawn_number) := ⟨rfl, rfl, rfl, by decide +kernel, rfl, by decide +kernel, by decide +kernel⟩
theorem d_law_drawn_number (F : Fn0 K mg "_law_drawn_number" s_law_drawn_number) (T : Txt P K mg) (D_law_take : Def P w K mg base 1 "_law_take" ["box", "many"] (spWb BxW 1 (fun F vs (i : Int) => ∃ v0, vs = [v0] ∧ eInt.rep F v0 i) eInt (fun (i : Int) => m_law_take i))) :
    Def P w K mg base 2 "_law_drawn_number" ["box"] (spWb BxW 0 (fun F vs (i : Unit) => vs = []) eInt (fun (i : Unit) => m_law_drawn_number)) := by
  refine Def.mk0 F sc_law_drawn_number (by first | exact NF.hl_spW | exact NF.hl_spWb | exact NF.hl_spWX) (fun _ _ _ _ _ _ us hl => match us, hl with | [_], _ => rfl) (fun cdv A outer s H vs Q E hr h => ?_)
  refine ⟨_, (pss_cons (ps_set (i := 1) sc_law_drawn_number.nd rfl (Or.inl rfl) (pe_d D_law_take (hr.mono (by decide)) rfl (pa_cons (pv 0) (pa_cons pe_int pa_nil))))
      (pss_cons (ps_if (pt_cmpR op_eq (pv 1) pe_int (nomark _))
      (pss_one (ps_ret (pe_d D_law_take (hr.mono (by decide)) rfl (pa_cons (pv 0) (pa_cons pe_int pa_nil)))))
      pss_nil)
      (pss_cons (ps_if (pt_cmpR op_eq (pv 1) pe_int (nomark _))
      (pss_one (ps_ret (pe_d D_law_take (hr.mono (by decide)) rfl (pa_cons (pv 0) (pa_cons pe_int pa_nil)))))
      pss_nil)
      (pss_cons (ps_if (pt_cmpR op_eq (pv 1) pe_int (nomark _))
      (pss_cons (ps_set (i := 2) sc_law_drawn_number.nd rfl (Or.inl rfl) (pe_d D_law_take (hr.mono (by decide)) rfl (pa_cons (pv 0) (pa_cons pe_int pa_nil))))
      (pss_cons (ps_set (i := 2) sc_law_drawn_number.nd rfl (Or.inl rfl) (pe_op op_add (pe_op op_mul (pv 2) pe_int) (pe_d D_law_take (hr.mono (by decide)) rfl (pa_cons (pv 0) (pa_cons pe_int pa_nil)))))
      (pss_one (ps_ret (pe_op op_add (pe_op op_mul (pv 2) pe_int) (pe_d D_law_take (hr.mono (by decide)) rfl (pa_cons (pv 0) (pa_cons pe_int pa_nil))))))))
      pss_nil)
      (pss_one (ps_ret (pe_ix ix_list (pe_lst (pa_cons pe_int (pa_cons pe_int (pa_cons pe_int (pa_cons pe_int (pa_cons pe_int (pa_cons pe_int (pa_cons pe_int (pa_cons pe_int (pa_cons pe_int (pa_cons pe_int pa_nil))))))))))) (pe_d D_law_take (hr.mono (by decide)) rfl (pa_cons (pv 0) (pa_cons pe_int pa_nil))) (fun _ _ => rfl)))))))), ?_⟩
  try dsimp only [cxOf, Cx.nox, Cx.wish]
  obtain ⟨ab, bx, _, F, _, K0, rfl, hl, hb, hbx, hbF, hF, rfl, k, q⟩ := h
  have O := NF.Fz.startB hF hbx hbF
  have lF := NF.Ex.rfl (B := del H ab) (F := F)
  refine (NF.x_seq (NF.x_asg (NF.x_call (NF.x_cons (NF.x_var rfl (NF.x_cons (NF.x_c (NF.x_nil (NF.use_spWb (i := (4 : Int)) O 0 rfl hb rfl ⟨_, rfl, rfl⟩ k (fun y1 v F H bx2 hb l0 O hv k => NF.byI v hv (have lF := Ex.trans lF l0; (have O : NF.Fz _ F H [(ab, HO.lst bx2)] := O; (NF.x_name ?_)))))))))))))
  refine (NF.x_seq (NF.x_ifs (NF.x_test (NF.x_op (NF.x_var rfl (NF.x_c (NF.y_eqI (NF.x_bl (NF.x_itb (fun g20 => (have k := k.1 g20; ?_)) (fun g20 => (have k := k.2 g20; ?_)))))))))))
  · exact (NF.x_ret (NF.x_call (NF.x_cons (NF.x_var rfl (NF.x_cons (NF.x_c (NF.x_nil (NF.use_spWb (i := (10 : Int)) O 0 rfl hb rfl ⟨_, rfl, rfl⟩ k (fun y3 v F H bx4 hb l0 O hv k => NF.byI v hv (have lF := Ex.trans lF l0; (have O : NF.Fz _ F H [(ab, HO.lst bx4)] := O; (q y3 k _ _ _ _ hb (O.get 0 rfl) (NF.keepB O.leB) O.leF (NF.exB lF O) rfl))))))))))))
  · refine NF.x_next ?_
    refine (NF.x_seq (NF.x_ifs (NF.x_test (NF.x_op (NF.x_var rfl (NF.x_c (NF.y_eqI (NF.x_bl (NF.x_itb (fun g19 => (have k := k.1 g19; ?_)) (fun g19 => (have k := k.2 g19; ?_)))))))))))
    · exact (NF.x_ret (NF.x_call (NF.x_cons (NF.x_var rfl (NF.x_cons (NF.x_c (NF.x_nil (NF.use_spWb (i := (1000 : Int)) O 0 rfl hb rfl ⟨_, rfl, rfl⟩ k (fun y5 v F H bx6 hb l0 O hv k => NF.byI v hv (have lF := Ex.trans lF l0; (have O : NF.Fz _ F H [(ab, HO.lst bx6)] := O; (q y5 k _ _ _ _ hb (O.get 0 rfl) (NF.keepB O.leB) O.leF (NF.exB lF O) rfl))))))))))))
    · refine NF.x_next ?_
      refine (NF.x_seq (NF.x_ifs (NF.x_test (NF.x_op (NF.x_var rfl (NF.x_c (NF.y_eqI (NF.x_bl (NF.x_itb (fun g18 => (have k := k.1 g18; ?_)) (fun g18 => (have k := k.2 g18; ?_)))))))))))
      · refine (NF.x_seq (NF.x_asg (NF.x_call (NF.x_cons (NF.x_var rfl (NF.x_cons (NF.x_c (NF.x_nil (NF.use_spWb (i := (1000 : Int)) O 0 rfl hb rfl ⟨_, rfl, rfl⟩ k (fun y7 v F H bx8 hb l0 O hv k => NF.byI v hv (have lF := Ex.trans lF l0; (have O : NF.Fz _ F H [(ab, HO.lst bx8)] := O; (NF.x_name ?_)))))))))))))
        refine (NF.x_seq (NF.x_asg (NF.x_op (NF.x_op (NF.x_var rfl (NF.x_c (NF.x_I (Or.inr ⟨by decide, by decide⟩) (NF.x_call (NF.x_cons (NF.x_var rfl (NF.x_cons (NF.x_c (NF.x_nil (NF.use_spWb (i := (1000 : Int)) O 0 rfl hb rfl ⟨_, rfl, rfl⟩ k (fun y9 v F H bx10 hb l0 O hv k => NF.byI v hv (have lF := Ex.trans lF l0; (have O : NF.Fz _ F H [(ab, HO.lst bx10)] := O; (NF.x_I0 (NF.x_name ?_)))))))))))))))))))
        exact (NF.x_ret (NF.x_op (NF.x_op (NF.x_var rfl (NF.x_c (NF.x_I (Or.inr ⟨by decide, by decide⟩) (NF.x_call (NF.x_cons (NF.x_var rfl (NF.x_cons (NF.x_c (NF.x_nil (NF.use_spWb (i := (1000 : Int)) O 0 rfl hb rfl ⟨_, rfl, rfl⟩ k (fun y11 v F H bx12 hb l0 O hv k => NF.byI v hv (have lF := Ex.trans lF l0; (have O : NF.Fz _ F H [(ab, HO.lst bx12)] := O; (NF.x_I0 (q ((((y7 * (1000 : Int)) + y9) * (1000 : Int)) + y11) k _ _ _ _ hb (O.get 0 rfl) (NF.keepB O.leB) O.leF (NF.exB lF O) rfl))))))))))))))))))
      · refine NF.x_next ?_
        exact (NF.x_ret (NF.x_op (NF.x_lst (NF.x_cons (NF.x_c (NF.x_cons (NF.x_c (NF.x_cons (NF.x_c (NF.x_cons (NF.x_c (NF.x_cons (NF.x_c (NF.x_cons (NF.x_c (NF.x_cons (NF.x_c (NF.x_cons (NF.x_c (NF.x_cons (NF.x_c (NF.x_cons (NF.x_c (NF.x_nil (NF.y_lstF O (show 10 ≤ sizeLine by decide) (fun p14 F H hp l0 O => (have lF := Ex.trans lF l0; (have h13 : (eLst eInt).rep F (.ref p14) [(0 : Int), (1 : Int), (9 : Int), (10 : Int), (99 : Int), (100 : Int), (12345678 : Int), (100000000 : Int), (999999998 : Int), (999999999 : Int)] := ⟨_, _, rfl, hp, .cons rfl (.cons rfl (.cons rfl (.cons rfl (.cons rfl (.cons rfl (.cons rfl (.cons rfl (.cons rfl (.cons rfl (.nil))))))))))⟩; (NF.x_call (NF.x_cons (NF.x_var rfl (NF.x_cons (NF.x_c (NF.x_nil (NF.use_spWb (i := (10 : Int)) O 0 rfl hb rfl ⟨_, rfl, rfl⟩ k (fun y15 v F H bx16 hb l0 O hv k => NF.byI v hv (have h13 := Enc.mono (eLst eInt) l0.le h13; (have lF := Ex.trans lF l0; (have O : NF.Fz _ F H [(ab, HO.lst bx16)] := O; (Exists.elim k fun x17 hk => (have k := hk.2; (NF.y_ixL O.leF h13 hk.1 (fun u hu => NF.byI u hu (q x17 k _ _ _ _ hb (O.get 0 rfl) (NF.keepB O.leB) O.leF (NF.exB lF O) rfl))))))))))))))))))))))))))))))))))))))))))))

def m_law_state (a_width : Int) : W (List Int) :=
  W.bind (W.ite (decide (a_width = (0 : Int))) (W.bind (m_law_take (6 : Int)) fun y3 =>
  W.ok ((1 : Int) + y3))
  (W.ok a_width)) fun z_width =>
  W.chk (-(2 ^ 62) ≤ z_width ∧ z_width < 2 ^ 62) <|
  W.for_ (rngT 0 z_width) ([] : List Int) (fun (x10 : Int) (z_numbers : (List Int)) =>
  W.bind (m_law_drawn_number) fun y13 =>
  W.chk (z_numbers.length < sizeLine) <|
  W.ok (.nx (z_numbers ++ [y13]))) (fun (z_numbers : (List Int)) =>
  W.ok z_numbers)
abbrev NM_law_state : List Str := ["box", "width", "numbers", "k"]
theorem sc_law_state : FnScope NM_law_state ["box", "width"] (defScope s_law_state) := ⟨rfl, rfl, rfl, by decide +kernel, rfl, by decide +kernel, by decide +kernel⟩
theorem d_law_state (F : Fn0 K mg "_law_state" s_law_state) (T : Txt P K mg) (D_law_take : Def P w K mg base 1 "_law_take" ["box", "many"] (spWb BxW 1 (fun F vs (i : Int) => ∃ v0, vs = [v0] ∧ eInt.rep F v0 i) eInt (fun (i : Int) => m_law_take i))) (D_law_drawn_number : Def P w K mg base 2 "_law_drawn_number" ["box"] (spWb BxW 0 (fun F vs (i : Unit) => vs = []) eInt (fun (i : Unit) => m_law_drawn_number))) :
    Def P w K mg base 3 "_law_state" ["box", "width"] (spWb BxW 1 (fun F vs (i : Int) => ∃ v0, vs = [v0] ∧ eInt.rep F v0 i) (eTup eInt) (fun (i : Int) => m_law_state i)) := by
  refine Def.mk0 F sc_law_state (by first | exact NF.hl_spW | exact NF.hl_spWb | exact NF.hl_spWX) (fun _ _ _ _ _ _ us hl => match us, hl with | [_, _], _ => rfl) (fun cdv A outer s H vs Q E hr h => ?_)
  refine ⟨_, (Evl.pss_cut (ps_if (pt_cmpR op_eq (pv 1) pe_int (nomark _))
      (pss_one (ps_set (i := 1) sc_law_state.nd rfl (Or.inl rfl) (pe_op op_add pe_int (pe_d D_law_take (hr.mono (by decide)) rfl (pa_cons (pv 0) (pa_cons pe_int pa_nil))))))
      pss_nil)
      (pss_cons (ps_set (i := 2) sc_law_state.nd rfl (Or.inl rfl) (pe_lst pa_nil))
      (pss_cons (ps_for PassesOwn.never rfl (pi_range1 (by rfl) T.b_range (pa_cons (pv 1) pa_nil)) (pg_name (i := 3) sc_law_state.nd rfl (Or.inl rfl))
      (pss_one (ps_expr (pe_bm PySem.F.plainAttrs_list PySem.F.slot_list_append PySem.F.type_list_append mt_append (pv 2) (pa_cons (pe_d D_law_drawn_number (hr.mono (by decide)) rfl (pa_cons (pv 0) pa_nil)) pa_nil)))))
      (pss_one (ps_ret (pe_callTy (T := "tuple") callTupleOf (by rfl) T.b_tuple (by decide +kernel) (pa_cons (pv 2) pa_nil))))))), ?_⟩
  try dsimp only [cxOf, Cx.nox, Cx.wish]
  obtain ⟨ab, bx, _, F, a_width, K0, rfl, hl, hb, hbx, hbF, hF, ⟨_, rfl, rfl⟩, k, q⟩ := h
  have O := NF.Fz.startB hF hbx hbF
  have lF := NF.Ex.rfl (B := del H ab) (F := F)
  refine NF.y_cut (fun (z_width : Int) (σ : L2.St) (F : Hp) (R : List (Addr × HO)) => ∃ bx : List V, σ = [some (.ref ab), some (.int z_width), none, none] ∧ R = [(ab, HO.lst bx)] ∧ BxW bx) O k ?_ ?_
  · intro k lp1
    refine (NF.x_ifs (NF.x_test (NF.x_op (NF.x_var rfl (NF.x_c (NF.y_eqI (NF.x_bl (NF.x_itb (fun g5 => (have k := k.1 g5; ?_)) (fun g5 => (have k := k.2 g5; ?_))))))))))
    · refine (NF.x_asg (NF.x_op (NF.x_c (NF.x_call (NF.x_cons (NF.x_var rfl (NF.x_cons (NF.x_c (NF.x_nil (NF.use_spWb (i := (6 : Int)) O 0 rfl hb rfl ⟨_, rfl, rfl⟩ k (fun y3 v F H bx4 hb l0 O hv k => NF.byI v hv (have lF := Ex.trans lF l0; (have lp1 := Ex.trans lp1 l0; (have O : NF.Fz _ F H [(ab, HO.lst bx4)] := O; (NF.x_I0 (NF.x_name ?_))))))))))))))))
      exact ⟨((1 : Int) + y3), _, _, lp1, O, ⟨_, rfl, rfl, hb⟩, k⟩
    · refine NF.x_next ?_
      exact ⟨a_width, _, _, lp1, O, ⟨_, rfl, rfl, hb⟩, k⟩
  · rintro z_width _ F _ H l0 O ⟨bx, rfl, rfl, hb⟩ k
    have lF := Ex.trans lF l0
    refine (NF.x_seq (NF.x_asg (NF.x_lst (NF.x_nil (NF.y_lstM O (show 0 ≤ sizeLine by decide) (fun p7 H O => (have h6 : NF.RL (eInt.rep F) _ [] := .nil; (NF.x_name ?_))))))))
    refine (NF.x_seq (NF.x_for (NF.x_jR1 (NF.x_cons (NF.x_var rfl (NF.x_nil (have c8 := k.1; have k := k.2; (NF.y_jR1 (F := F) c8 (fun J T => (NF.y_for (σt := (List Int)) (fun (z_numbers : (List Int)) (σ : L2.St) (F : Hp) (R : List (Addr × HO)) => ∃ vs_numbers : List V, ∃ u3 : Option V, ∃ bx : List V, σ = [some (.ref ab), some (.int z_width), some (.ref p7), u3] ∧ R = [(ab, HO.lst bx), (p7, HO.lst vs_numbers)] ∧ RL (eInt.rep F) vs_numbers z_numbers ∧ BxW bx) T O k ⟨_, _, _, rfl, rfl, h6, hb⟩ ?_ ?_))))))))))
    · rintro x10 r z_numbers _ F0 F _ H v11 lp9 ⟨vs_numbers, u3, bx, rfl, rfl, r_numbers, hb⟩ l1 O h12 k
      have lp9 := Ex.trans lp9 l1
      have r_numbers := r_numbers.mono fun _ _ => Enc.mono eInt l1.le
      have lF := Ex.trans lF lp9
      cases h12
      refine NF.x_name ?_
      refine (NF.x_drop (NF.x_bm (NF.x_var rfl (NF.x_tyL (O.get 1 rfl) (NF.x_cons (NF.x_call (NF.x_cons (NF.x_var rfl (NF.x_nil (NF.use_spWb (i := ()) O 0 rfl hb rfl rfl k (fun y13 v F H bx14 hb l0 O hv k => NF.byI v hv (have r_numbers := r_numbers.mono fun _ _ => Enc.mono eInt l0.le; (have lF := Ex.trans lF l0; (have lp9 := Ex.trans lp9 l0; (have O : NF.Fz _ F H [(ab, HO.lst bx14), (p7, HO.lst vs_numbers)] := O; (NF.x_nil (have c15 := k.1; have k := k.2; (NF.y_app2 O 1 rfl r_numbers c15 (fun H O => (have r_numbers := NF.RL.snoc (x := y13) r_numbers rfl; ?_))))))))))))))))))))
      exact ⟨(z_numbers ++ [y13]), _, _, lp9, O, ⟨_, _, _, rfl, rfl, r_numbers, hb⟩, k⟩
    · rintro z_numbers _ F _ H l0 O ⟨vs_numbers, u3, bx, rfl, rfl, r_numbers, hb⟩ k
      have lF := Ex.trans lF l0
      exact (NF.x_ret (NF.x_cb (NF.x_cons (NF.x_var rfl (NF.x_nil (NF.y_tupOfM O 1 rfl r_numbers (fun p17 F H h16 l0 O => (have r_numbers := r_numbers.mono fun _ _ => Enc.mono eInt l0.le; (have lF := Ex.trans lF l0; (q z_numbers k _ _ _ _ hb (O.get 0 rfl) (NF.keepB O.leB) O.leF (NF.exB lF O) h16))))))))))

def m_law_drawn_pairs : W (List ((List Int) × (List Int))) :=
  W.bind (m_law_take (5 : Int)) fun y3 =>
  W.at_ [(3 : Int), (5 : Int), (3 : Int), (5 : Int), (0 : Int)] y3 fun x5 =>
  W.bind (m_law_take (7 : Int)) fun y8 =>
  W.chk (-(2 ^ 62) ≤ y8 ∧ y8 < 2 ^ 62) <|
  W.for_ (rngT 0 y8) ([] : List ((List Int) × (List Int))) (fun (x12 : Int) (z_rows : (List ((List Int) × (List Int)))) =>
  W.bind (m_law_state x5) fun y15 =>
  W.bind (m_law_state x5) fun y19 =>
  W.chk (z_rows.length < sizeLine) <|
  W.ok (.nx (z_rows ++ [(y15, y19)]))) (fun (z_rows : (List ((List Int) × (List Int)))) =>
  W.bind (W.bind (m_law_take (8 : Int)) fun y28 =>
  W.ite (decide (y28 = (2 : Int))) (W.bind (m_law_take (2 : Int)) fun y32 =>
  W.at_ [(20 : Int), (100 : Int)] y32 fun x34 =>
  W.chk ((-(2 ^ 63) ≤ x34 ∧ x34 < 2 ^ 63) ∧ z_rows.length * (x34).toNat ≤ sizeLine) <|
  W.ok (List.replicate (x34).toNat z_rows).flatten)
  (W.ok z_rows)) fun z_rows =>
  W.ok z_rows)
abbrev NM_law_drawn_pairs : List Str := ["box", "width", "rows", "k", "state"]
theorem sc_law_drawn_pairs : FnScope NM_law_drawn_pairs ["box"] (defScope s_law_drawn_pairs) := ⟨rfl, rfl, rfl, by decide +kernel, rfl, by decide +kernel, by decide +kernel⟩
theorem d_law_drawn_pairs (F : Fn0 K mg "_law_drawn_pairs" s_law_drawn_pairs) (T : Txt P K mg) (D_law_take : Def P w K mg base 1 "_law_take" ["box", "many"] (spWb BxW 1 (fun F vs (i : Int) => ∃ v0, vs = [v0] ∧ eInt.rep F v0 i) eInt (fun (i : Int) => m_law_take i))) (D_law_state : Def P w K mg base 3 "_law_state" ["box", "width"] (spWb BxW 1 (fun F vs (i : Int) => ∃ v0, vs = [v0] ∧ eInt.rep F v0 i) (eTup eInt) (fun (i : Int) => m_law_state i))) :
    Def P w K mg base 4 "_law_drawn_pairs" ["box"] (spWb BxW 0 (fun F vs (i : Unit) => vs = []) (eLst (eP2 (eTup eInt) (eTup eInt))) (fun (i : Unit) => m_law_drawn_pairs)) := by
  refine Def.mk0 F sc_law_drawn_pairs (by first | exact NF.hl_spW | exact NF.hl_spWb | exact NF.hl_spWX) (fun _ _ _ _ _ _ us hl => match us, hl with | [_], _ => rfl) (fun cdv A outer s H vs Q E hr h => ?_)
  refine ⟨_, (pss_cons (ps_set (i := 1) sc_law_drawn_pairs.nd rfl (Or.inl rfl) (pe_ix ix_list (pe_lst (pa_cons pe_int (pa_cons pe_int (pa_cons pe_int (pa_cons pe_int (pa_cons pe_int pa_nil)))))) (pe_d D_law_take (hr.mono (by decide)) rfl (pa_cons (pv 0) (pa_cons pe_int pa_nil))) (fun _ _ => rfl)))
      (pss_cons (ps_set (i := 2) sc_law_drawn_pairs.nd rfl (Or.inl rfl) (pe_lst pa_nil))
      (pss_cons (ps_for PassesOwn.never rfl (pi_range1 (by rfl) T.b_range (pa_cons (pe_d D_law_take (hr.mono (by decide)) rfl (pa_cons (pv 0) (pa_cons pe_int pa_nil))) pa_nil)) (pg_name (i := 3) sc_law_drawn_pairs.nd rfl (Or.inl rfl))
      (pss_cons (ps_set (i := 4) sc_law_drawn_pairs.nd rfl (Or.inl rfl) (pe_d D_law_state (hr.mono (by decide)) rfl (pa_cons (pv 0) (pa_cons (pv 1) pa_nil))))
      (pss_one (ps_expr (pe_bm PySem.F.plainAttrs_list PySem.F.slot_list_append PySem.F.type_list_append mt_append (pv 2) (pa_cons (pe_tup (pa_cons (pv 4) (pa_cons (pe_d D_law_state (hr.mono (by decide)) rfl (pa_cons (pv 0) (pa_cons (pv 1) pa_nil))) pa_nil))) pa_nil))))))
      (Evl.pss_cut (ps_if (pt_cmpR op_eq (pe_d D_law_take (hr.mono (by decide)) rfl (pa_cons (pv 0) (pa_cons pe_int pa_nil))) pe_int (nomark _))
      (pss_one (ps_set (i := 2) sc_law_drawn_pairs.nd rfl (Or.inl rfl) (pe_op op_rep (pv 2) (pe_ix ix_list (pe_lst (pa_cons pe_int (pa_cons pe_int pa_nil))) (pe_d D_law_take (hr.mono (by decide)) rfl (pa_cons (pv 0) (pa_cons pe_int pa_nil))) (fun _ _ => rfl)))))
      pss_nil)
      (pss_one (ps_ret (pv 2))))))), ?_⟩
  try dsimp only [cxOf, Cx.nox, Cx.wish]
  obtain ⟨ab, bx, _, F, _, K0, rfl, hl, hb, hbx, hbF, hF, rfl, k, q⟩ := h
  have O := NF.Fz.startB hF hbx hbF
  have lF := NF.Ex.rfl (B := del H ab) (F := F)
  refine (NF.x_seq (NF.x_asg (NF.x_op (NF.x_lst (NF.x_cons (NF.x_c (NF.x_cons (NF.x_c (NF.x_cons (NF.x_c (NF.x_cons (NF.x_c (NF.x_cons (NF.x_c (NF.x_nil (NF.y_lstF O (show 5 ≤ sizeLine by decide) (fun p2 F H hp l0 O => (have lF := Ex.trans lF l0; (have h1 : (eLst eInt).rep F (.ref p2) [(3 : Int), (5 : Int), (3 : Int), (5 : Int), (0 : Int)] := ⟨_, _, rfl, hp, .cons rfl (.cons rfl (.cons rfl (.cons rfl (.cons rfl (.nil)))))⟩; (NF.x_call (NF.x_cons (NF.x_var rfl (NF.x_cons (NF.x_c (NF.x_nil (NF.use_spWb (i := (5 : Int)) O 0 rfl hb rfl ⟨_, rfl, rfl⟩ k (fun y3 v F H bx4 hb l0 O hv k => NF.byI v hv (have h1 := Enc.mono (eLst eInt) l0.le h1; (have lF := Ex.trans lF l0; (have O : NF.Fz _ F H [(ab, HO.lst bx4)] := O; (Exists.elim k fun x5 hk => (have k := hk.2; (NF.y_ixL O.leF h1 hk.1 (fun u hu => NF.byI u hu (NF.x_name ?_)))))))))))))))))))))))))))))))))))
  refine (NF.x_seq (NF.x_asg (NF.x_lst (NF.x_nil (NF.y_lstM O (show 0 ≤ sizeLine by decide) (fun p7 H O => (have h6 : NF.RL ((eP2 (eTup eInt) (eTup eInt)).rep F) _ [] := .nil; (NF.x_name ?_))))))))
  refine (NF.x_seq (NF.x_for (NF.x_jR1 (NF.x_cons (NF.x_call (NF.x_cons (NF.x_var rfl (NF.x_cons (NF.x_c (NF.x_nil (NF.use_spWb (i := (7 : Int)) O 0 rfl hb rfl ⟨_, rfl, rfl⟩ k (fun y8 v F H bx9 hb l0 O hv k => NF.byI v hv (have h6 := h6.mono fun _ _ => Enc.mono (eP2 (eTup eInt) (eTup eInt)) l0.le; (have lF := Ex.trans lF l0; (have O : NF.Fz _ F H [(ab, HO.lst bx9), (p7, HO.lst [])] := O; (NF.x_nil (have c10 := k.1; have k := k.2; (NF.y_jR1 (F := F) c10 (fun J T => (NF.y_for (σt := (List ((List Int) × (List Int)))) (fun (z_rows : (List ((List Int) × (List Int)))) (σ : L2.St) (F : Hp) (R : List (Addr × HO)) => ∃ vs_rows : List V, ∃ u3 : Option V, ∃ u4 : Option V, ∃ bx : List V, σ = [some (.ref ab), some (.int x5), some (.ref p7), u3, u4] ∧ R = [(ab, HO.lst bx), (p7, HO.lst vs_rows)] ∧ RL ((eP2 (eTup eInt) (eTup eInt)).rep F) vs_rows z_rows ∧ BxW bx) T O k ⟨_, _, _, _, rfl, rfl, h6, hb⟩ ?_ ?_))))))))))))))))))))
  · rintro x12 r z_rows _ F0 F _ H v13 lp11 ⟨vs_rows, u3, u4, bx, rfl, rfl, r_rows, hb⟩ l1 O h14 k
    have lp11 := Ex.trans lp11 l1
    have r_rows := r_rows.mono fun _ _ => Enc.mono (eP2 (eTup eInt) (eTup eInt)) l1.le
    have lF := Ex.trans lF lp11
    cases h14
    refine NF.x_name ?_
    refine (NF.x_seq (NF.x_asg (NF.x_call (NF.x_cons (NF.x_var rfl (NF.x_cons (NF.x_var rfl (NF.x_nil (NF.use_spWb (i := x5) O 0 rfl hb rfl ⟨_, rfl, rfl⟩ k (fun y15 v17 F H bx16 hb l0 O h18 k => (have r_rows := r_rows.mono fun _ _ => Enc.mono (eP2 (eTup eInt) (eTup eInt)) l0.le; (have lF := Ex.trans lF l0; (have lp11 := Ex.trans lp11 l0; (have O : NF.Fz _ F H [(ab, HO.lst bx16), (p7, HO.lst vs_rows)] := O; (NF.x_name ?_)))))))))))))))
    refine (NF.x_drop (NF.x_bm (NF.x_var rfl (NF.x_tyL (O.get 1 rfl) (NF.x_cons (NF.x_tup (NF.x_cons (NF.x_var rfl (NF.x_cons (NF.x_call (NF.x_cons (NF.x_var rfl (NF.x_cons (NF.x_var rfl (NF.x_nil (NF.use_spWb (i := x5) O 0 rfl hb rfl ⟨_, rfl, rfl⟩ k (fun y19 v21 F H bx20 hb l0 O h22 k => (have r_rows := r_rows.mono fun _ _ => Enc.mono (eP2 (eTup eInt) (eTup eInt)) l0.le; (have h18 := Enc.mono (eTup eInt) l0.le h18; (have lF := Ex.trans lF l0; (have lp11 := Ex.trans lp11 l0; (have O : NF.Fz _ F H [(ab, HO.lst bx20), (p7, HO.lst vs_rows)] := O; (NF.x_nil (NF.y_tup O (show 2 ≤ sizeLine by decide) (fun p24 F H hp l0 O => (have r_rows := r_rows.mono fun _ _ => Enc.mono (eP2 (eTup eInt) (eTup eInt)) l0.le; (have h18 := Enc.mono (eTup eInt) l0.le h18; (have h22 := Enc.mono (eTup eInt) l0.le h22; (have lF := Ex.trans lF l0; (have lp11 := Ex.trans lp11 l0; (have h23 : (eP2 (eTup eInt) (eTup eInt)).rep F (.ref p24) (y15, y19) := ⟨_, _, _, rfl, hp, h18, h22⟩; (NF.x_nil (have c25 := k.1; have k := k.2; (NF.y_app2 O 1 rfl r_rows c25 (fun H O => (have r_rows := NF.RL.snoc (x := (y15, y19)) r_rows h23; ?_))))))))))))))))))))))))))))))))))))
    exact ⟨(z_rows ++ [(y15, y19)]), _, _, lp11, O, ⟨_, _, _, _, rfl, rfl, r_rows, hb⟩, k⟩
  · rintro z_rows _ F _ H l0 O ⟨vs_rows, u3, u4, bx, rfl, rfl, r_rows, hb⟩ k
    have lF := Ex.trans lF l0
    refine NF.y_cut (fun (z_rows : (List ((List Int) × (List Int)))) (σ : L2.St) (F : Hp) (R : List (Addr × HO)) => ∃ v_rows : V, ∃ u3 : Option V, ∃ u4 : Option V, ∃ bx : List V, σ = [some (.ref ab), some (.int x5), some v_rows, u3, u4] ∧ R = [(ab, HO.lst bx)] ∧ (eLst (eP2 (eTup eInt) (eTup eInt))).rep F v_rows z_rows ∧ BxW bx) O k ?_ ?_
    · intro k lp26
      refine (NF.x_ifs (NF.x_test (NF.x_op (NF.x_call (NF.x_cons (NF.x_var rfl (NF.x_cons (NF.x_c (NF.x_nil (NF.use_spWb (i := (8 : Int)) O 0 rfl hb rfl ⟨_, rfl, rfl⟩ k (fun y28 v F H bx29 hb l0 O hv k => NF.byI v hv (have r_rows := r_rows.mono fun _ _ => Enc.mono (eP2 (eTup eInt) (eTup eInt)) l0.le; (have lF := Ex.trans lF l0; (have lp26 := Ex.trans lp26 l0; (have O : NF.Fz _ F H [(ab, HO.lst bx29), (p7, HO.lst vs_rows)] := O; (NF.x_c (NF.y_eqI (NF.x_bl (NF.x_itb (fun g40 => (have k := k.1 g40; ?_)) (fun g40 => (have k := k.2 g40; ?_)))))))))))))))))))))
      · refine (NF.x_asg (NF.x_op (NF.x_var rfl (NF.x_op (NF.x_lst (NF.x_cons (NF.x_c (NF.x_cons (NF.x_c (NF.x_nil (NF.y_lstF O (show 2 ≤ sizeLine by decide) (fun p31 F H hp l0 O => (have r_rows := r_rows.mono fun _ _ => Enc.mono (eP2 (eTup eInt) (eTup eInt)) l0.le; (have lF := Ex.trans lF l0; (have lp26 := Ex.trans lp26 l0; (have h30 : (eLst eInt).rep F (.ref p31) [(20 : Int), (100 : Int)] := ⟨_, _, rfl, hp, .cons rfl (.cons rfl (.nil))⟩; (NF.x_call (NF.x_cons (NF.x_var rfl (NF.x_cons (NF.x_c (NF.x_nil (NF.use_spWb (i := (2 : Int)) O 0 rfl hb rfl ⟨_, rfl, rfl⟩ k (fun y32 v F H bx33 hb l0 O hv k => NF.byI v hv (have r_rows := r_rows.mono fun _ _ => Enc.mono (eP2 (eTup eInt) (eTup eInt)) l0.le; (have h30 := Enc.mono (eLst eInt) l0.le h30; (have lF := Ex.trans lF l0; (have lp26 := Ex.trans lp26 l0; (have O : NF.Fz _ F H [(ab, HO.lst bx33), (p7, HO.lst vs_rows)] := O; (Exists.elim k fun x34 hk => (have k := hk.2; (NF.y_ixL O.leF h30 hk.1 (fun u hu => NF.byI u hu (NF.y_frz O 1 rfl (fun F l0 hp O => (have r_rows := r_rows.mono fun _ _ => Enc.mono (eP2 (eTup eInt) (eTup eInt)) l0.le; (have h30 := Enc.mono (eLst eInt) l0.le h30; (have lF := Ex.trans lF l0; (have lp26 := Ex.trans lp26 l0; (have h35 : (eLst (eP2 (eTup eInt) (eTup eInt))).rep F (.ref p7) z_rows := ⟨_, _, rfl, hp, r_rows⟩; (have c36 := k.1; have k := k.2; (NF.y_repF O h35 c36.1 c36.2 (fun p38 F H h37 l0 O => (have h30 := Enc.mono (eLst eInt) l0.le h30; (have h35 := Enc.mono (eLst (eP2 (eTup eInt) (eTup eInt))) l0.le h35; (have lF := Ex.trans lF l0; (have lp26 := Ex.trans lp26 l0; (NF.x_name ?_))))))))))))))))))))))))))))))))))))))))))))))))
        exact ⟨(List.replicate (x34).toNat z_rows).flatten, _, _, lp26, O, ⟨_, _, _, _, rfl, rfl, h37, hb⟩, k⟩
      · refine NF.x_next ?_
        exact (NF.y_frz O 1 rfl (fun F l0 hp O => (have r_rows := r_rows.mono fun _ _ => Enc.mono (eP2 (eTup eInt) (eTup eInt)) l0.le; (have lF := Ex.trans lF l0; (have lp26 := Ex.trans lp26 l0; (have h39 : (eLst (eP2 (eTup eInt) (eTup eInt))).rep F (.ref p7) z_rows := ⟨_, _, rfl, hp, r_rows⟩; ⟨z_rows, _, _, lp26, O, ⟨_, _, _, _, rfl, rfl, h39, hb⟩, k⟩))))))
    · rintro z_rows _ F _ H l0 O ⟨v_rows, u3, u4, bx, rfl, rfl, h_rows, hb⟩ k
      have lF := Ex.trans lF l0
      exact (NF.x_ret (NF.x_var rfl (q z_rows k _ _ _ _ hb (O.get 0 rfl) (NF.keepB O.leB) O.leF (NF.exB lF O) h_rows)))

def m_law_string : W (Str) :=
  W.bind (m_law_take (9 : Int)) fun y1 =>
  W.chk (-(2 ^ 62) ≤ y1 ∧ y1 < 2 ^ 62) <|
  W.for_ (rngT 0 y1) (Str.ofString "") (fun (x5 : Int) (z_letters : Str) =>
  W.bind (m_law_take (16 : Int)) fun y8 =>
  W.chk ((Str.ofString "abcdefghABCDEFGH").length ≤ sizeLine ∧ ∃ c, atI (tl (Str.ofString "abcdefghABCDEFGH")) y8 = some c) <|
  W.chk (z_letters.length + (sg (cS (Str.ofString "abcdefghABCDEFGH") y8)).length ≤ sizeLine) <|
  W.ok (.nx (z_letters ++ (sg (cS (Str.ofString "abcdefghABCDEFGH") y8))))) (fun (z_letters : Str) =>
  W.ok z_letters)
abbrev NM_law_string : List Str := ["box", "letters", "k"]
theorem sc_law_string : FnScope NM_law_string ["box"] (defScope s_law_string) := ⟨rfl, rfl, rfl, by decide +kernel, rfl, by decide +kernel, by decide +kernel⟩
theorem d_law_string (F : Fn0 K mg "_law_string" s_law_string) (T : Txt P K mg) (D_law_take : Def P w K mg base 1 "_law_take" ["box", "many"] (spWb BxW 1 (fun F vs (i : Int) => ∃ v0, vs = [v0] ∧ eInt.rep F v0 i) eInt (fun (i : Int) => m_law_take i))) :
    Def P w K mg base 2 "_law_string" ["box"] (spWb BxW 0 (fun F vs (i : Unit) => vs = []) eStr (fun (i : Unit) => m_law_string)) := by
  refine Def.mk0 F sc_law_string (by first | exact NF.hl_spW | exact NF.hl_spWb | exact NF.hl_spWX) (fun _ _ _ _ _ _ us hl => match us, hl with | [_], _ => rfl) (fun cdv A outer s H vs Q E hr h => ?_)
  refine ⟨_, (pss_cons (ps_set (i := 1) sc_law_string.nd rfl (Or.inl rfl) pe_str)
      (pss_cons (ps_for PassesOwn.never rfl (pi_range1 (by rfl) T.b_range (pa_cons (pe_d D_law_take (hr.mono (by decide)) rfl (pa_cons (pv 0) (pa_cons pe_int pa_nil))) pa_nil)) (pg_name (i := 2) sc_law_string.nd rfl (Or.inl rfl))
      (pss_one (ps_set (i := 1) sc_law_string.nd rfl (Or.inl rfl) (pe_op opAddS (pv 1) (pe_ix ix_str pe_str (pe_d D_law_take (hr.mono (by decide)) rfl (pa_cons (pv 0) (pa_cons pe_int pa_nil))) (fun _ _ => rfl))))))
      (pss_one (ps_ret (pv 1))))), ?_⟩
  try dsimp only [cxOf, Cx.nox, Cx.wish]
  obtain ⟨ab, bx, _, F, _, K0, rfl, hl, hb, hbx, hbF, hF, rfl, k, q⟩ := h
  have O := NF.Fz.startB hF hbx hbF
  have lF := NF.Ex.rfl (B := del H ab) (F := F)
  refine (NF.x_seq (NF.x_asg (NF.x_c (NF.x_name ?_))))
  refine (NF.x_seq (NF.x_for (NF.x_jR1 (NF.x_cons (NF.x_call (NF.x_cons (NF.x_var rfl (NF.x_cons (NF.x_c (NF.x_nil (NF.use_spWb (i := (9 : Int)) O 0 rfl hb rfl ⟨_, rfl, rfl⟩ k (fun y1 v F H bx2 hb l0 O hv k => NF.byI v hv (have lF := Ex.trans lF l0; (have O : NF.Fz _ F H [(ab, HO.lst bx2)] := O; (NF.x_nil (have c3 := k.1; have k := k.2; (NF.y_jR1 (F := F) c3 (fun J T => (NF.y_for (σt := Str) (fun (z_letters : Str) (σ : L2.St) (F : Hp) (R : List (Addr × HO)) => ∃ u2 : Option V, ∃ bx : List V, σ = [some (.ref ab), some (.str z_letters), u2] ∧ R = [(ab, HO.lst bx)] ∧ BxW bx) T O k ⟨_, _, rfl, rfl, hb⟩ ?_ ?_)))))))))))))))))))
  · rintro x5 r z_letters _ F0 F _ H v6 lp4 ⟨u2, bx, rfl, rfl, hb⟩ l1 O h7 k
    have lp4 := Ex.trans lp4 l1
    have lF := Ex.trans lF lp4
    cases h7
    refine NF.x_name ?_
    refine (NF.x_asg (NF.x_op (NF.x_var rfl (NF.x_op (NF.x_c (NF.x_call (NF.x_cons (NF.x_var rfl (NF.x_cons (NF.x_c (NF.x_nil (NF.use_spWb (i := (16 : Int)) O 0 rfl hb rfl ⟨_, rfl, rfl⟩ k (fun y8 v F H bx9 hb l0 O hv k => NF.byI v hv (have lF := Ex.trans lF l0; (have lp4 := Ex.trans lp4 l0; (have O : NF.Fz _ F H [(ab, HO.lst bx9)] := O; (have c10 := k.1; have k := k.2; (NF.y_ixS c10.1 c10.2 (have c11 := k.1; have k := k.2; (NF.x_addS c11 (NF.x_name ?_)))))))))))))))))))))
    exact ⟨(z_letters ++ (sg (cS (Str.ofString "abcdefghABCDEFGH") y8))), _, _, lp4, O, ⟨_, _, rfl, rfl, hb⟩, k⟩
  · rintro z_letters _ F _ H l0 O ⟨u2, bx, rfl, rfl, hb⟩ k
    have lF := Ex.trans lF l0
    exact (NF.x_ret (NF.x_var rfl (q z_letters k _ _ _ _ hb (O.get 0 rfl) (NF.keepB O.leB) O.leF (NF.exB lF O) rfl)))

def m_law_drawn_rows : W (List ((List Int) × (List Int) × (List Str))) :=
  W.bind (m_law_take (5 : Int)) fun y3 =>
  W.at_ [(3 : Int), (3 : Int), (3 : Int), (3 : Int), (0 : Int)] y3 fun x5 =>
  W.bind (W.bind (m_law_take (8 : Int)) fun y8 =>
  W.ite (decide (y8 = (2 : Int))) (W.ok (30 : Int))
  (W.ok (1 : Int))) fun z_times =>
  W.bind (m_law_take (7 : Int)) fun y13 =>
  W.chk (-(2 ^ 62) ≤ y13 ∧ y13 < 2 ^ 62) <|
  W.for_ (rngT 0 y13) ([] : List ((List Int) × (List Int) × (List Str))) (fun (x17 : Int) (z_rows : (List ((List Int) × (List Int) × (List Str)))) =>
  W.bind (m_law_state x5) fun y20 =>
  W.bind (m_law_state x5) fun y24 =>
  W.bind (m_law_take (4 : Int)) fun y30 =>
  W.chk (-(2 ^ 62) ≤ ((1 : Int) + y30) ∧ ((1 : Int) + y30) < 2 ^ 62) <|
  W.for_ (rngT 0 ((1 : Int) + y30)) ([] : List Str) (fun (x34 : Int) (z_strings : (List Str)) =>
  W.bind (m_law_string) fun y37 =>
  W.chk (MulOk y37 z_times) <|
  W.chk (z_strings.length < sizeLine) <|
  W.ok (.nx (z_strings ++ [(Txt.mul y37 z_times)]))) (fun (z_strings : (List Str)) =>
  W.chk (z_rows.length < sizeLine) <|
  W.ok (.nx (z_rows ++ [(y20, y24, z_strings)])))) (fun (z_rows : (List ((List Int) × (List Int) × (List Str)))) =>
  W.bind (W.bind (m_law_take (8 : Int)) fun y48 =>
  W.ite (decide (y48 = (2 : Int))) (W.chk ((-(2 ^ 63) ≤ (20 : Int) ∧ (20 : Int) < 2 ^ 63) ∧ z_rows.length * ((20 : Int)).toNat ≤ sizeLine) <|
  W.ok (List.replicate ((20 : Int)).toNat z_rows).flatten)
  (W.ok z_rows)) fun z_rows =>
  W.ok z_rows)
abbrev NM_law_drawn_rows : List Str := ["box", "width", "times", "rows", "k", "state", "other", "strings", "at"]
theorem sc_law_drawn_rows : FnScope NM_law_drawn_rows ["box"] (defScope s_law_drawn_rows) := ⟨rfl, rfl, rfl, by decide +kernel, rfl, by decide +kernel, by decide +kernel⟩
theorem d_law_drawn_rows (F : Fn0 K mg "_law_drawn_rows" s_law_drawn_rows) (T : Txt P K mg) (D_law_take : Def P w K mg base 1 "_law_take" ["box", "many"] (spWb BxW 1 (fun F vs (i : Int) => ∃ v0, vs = [v0] ∧ eInt.rep F v0 i) eInt (fun (i : Int) => m_law_take i))) (D_law_state : Def P w K mg base 3 "_law_state" ["box", "width"] (spWb BxW 1 (fun F vs (i : Int) => ∃ v0, vs = [v0] ∧ eInt.rep F v0 i) (eTup eInt) (fun (i : Int) => m_law_state i))) (D_law_string : Def P w K mg base 2 "_law_string" ["box"] (spWb BxW 0 (fun F vs (i : Unit) => vs = []) eStr (fun (i : Unit) => m_law_string))) :
    Def P w K mg base 4 "_law_drawn_rows" ["box"] (spWb BxW 0 (fun F vs (i : Unit) => vs = []) (eLst (eP3 (eTup eInt) (eTup eInt) (eTup eStr))) (fun (i : Unit) => m_law_drawn_rows)) := by
  refine Def.mk0 F sc_law_drawn_rows (by first | exact NF.hl_spW | exact NF.hl_spWb | exact NF.hl_spWX) (fun _ _ _ _ _ _ us hl => match us, hl with | [_], _ => rfl) (fun cdv A outer s H vs Q E hr h => ?_)
  refine ⟨_, (pss_cons (ps_set (i := 1) sc_law_drawn_rows.nd rfl (Or.inl rfl) (pe_ix ix_list (pe_lst (pa_cons pe_int (pa_cons pe_int (pa_cons pe_int (pa_cons pe_int (pa_cons pe_int pa_nil)))))) (pe_d D_law_take (hr.mono (by decide)) rfl (pa_cons (pv 0) (pa_cons pe_int pa_nil))) (fun _ _ => rfl)))
      (pss_cons (ps_set (i := 2) sc_law_drawn_rows.nd rfl (Or.inl rfl) pe_int)
      (Evl.pss_cut (ps_if (pt_cmpR op_eq (pe_d D_law_take (hr.mono (by decide)) rfl (pa_cons (pv 0) (pa_cons pe_int pa_nil))) pe_int (nomark _))
      (pss_one (ps_set (i := 2) sc_law_drawn_rows.nd rfl (Or.inl rfl) pe_int))
      pss_nil)
      (pss_cons (ps_set (i := 3) sc_law_drawn_rows.nd rfl (Or.inl rfl) (pe_lst pa_nil))
      (pss_cons (ps_for PassesOwn.never rfl (pi_range1 (by rfl) T.b_range (pa_cons (pe_d D_law_take (hr.mono (by decide)) rfl (pa_cons (pv 0) (pa_cons pe_int pa_nil))) pa_nil)) (pg_name (i := 4) sc_law_drawn_rows.nd rfl (Or.inl rfl))
      (pss_cons (ps_set (i := 5) sc_law_drawn_rows.nd rfl (Or.inl rfl) (pe_d D_law_state (hr.mono (by decide)) rfl (pa_cons (pv 0) (pa_cons (pv 1) pa_nil))))
      (pss_cons (ps_set (i := 6) sc_law_drawn_rows.nd rfl (Or.inl rfl) (pe_d D_law_state (hr.mono (by decide)) rfl (pa_cons (pv 0) (pa_cons (pv 1) pa_nil))))
      (pss_cons (ps_set (i := 7) sc_law_drawn_rows.nd rfl (Or.inl rfl) (pe_lst pa_nil))
      (pss_cons (ps_for PassesOwn.never rfl (pi_range1 (by rfl) T.b_range (pa_cons (pe_op op_add pe_int (pe_d D_law_take (hr.mono (by decide)) rfl (pa_cons (pv 0) (pa_cons pe_int pa_nil)))) pa_nil)) (pg_name (i := 8) sc_law_drawn_rows.nd rfl (Or.inl rfl))
      (pss_one (ps_expr (pe_bm PySem.F.plainAttrs_list PySem.F.slot_list_append PySem.F.type_list_append mt_append (pv 7) (pa_cons (pe_op opMulS (pe_d D_law_string (hr.mono (by decide)) rfl (pa_cons (pv 0) pa_nil)) (pv 2)) pa_nil)))))
      (pss_one (ps_expr (pe_bm PySem.F.plainAttrs_list PySem.F.slot_list_append PySem.F.type_list_append mt_append (pv 3) (pa_cons (pe_tup (pa_cons (pv 5) (pa_cons (pv 6) (pa_cons (pe_callTy (T := "tuple") callTupleOf (by rfl) T.b_tuple (by decide +kernel) (pa_cons (pv 7) pa_nil)) pa_nil)))) pa_nil)))))))))
      (Evl.pss_cut (ps_if (pt_cmpR op_eq (pe_d D_law_take (hr.mono (by decide)) rfl (pa_cons (pv 0) (pa_cons pe_int pa_nil))) pe_int (nomark _))
      (pss_one (ps_set (i := 3) sc_law_drawn_rows.nd rfl (Or.inl rfl) (pe_op op_rep (pv 3) pe_int)))
      pss_nil)
      (pss_one (ps_ret (pv 3))))))))), ?_⟩
  try dsimp only [cxOf, Cx.nox, Cx.wish]
  obtain ⟨ab, bx, _, F, _, K0, rfl, hl, hb, hbx, hbF, hF, rfl, k, q⟩ := h
  have O := NF.Fz.startB hF hbx hbF
  have lF := NF.Ex.rfl (B := del H ab) (F := F)
  refine (NF.x_seq (NF.x_asg (NF.x_op (NF.x_lst (NF.x_cons (NF.x_c (NF.x_cons (NF.x_c (NF.x_cons (NF.x_c (NF.x_cons (NF.x_c (NF.x_cons (NF.x_c (NF.x_nil (NF.y_lstF O (show 5 ≤ sizeLine by decide) (fun p2 F H hp l0 O => (have lF := Ex.trans lF l0; (have h1 : (eLst eInt).rep F (.ref p2) [(3 : Int), (3 : Int), (3 : Int), (3 : Int), (0 : Int)] := ⟨_, _, rfl, hp, .cons rfl (.cons rfl (.cons rfl (.cons rfl (.cons rfl (.nil)))))⟩; (NF.x_call (NF.x_cons (NF.x_var rfl (NF.x_cons (NF.x_c (NF.x_nil (NF.use_spWb (i := (5 : Int)) O 0 rfl hb rfl ⟨_, rfl, rfl⟩ k (fun y3 v F H bx4 hb l0 O hv k => NF.byI v hv (have h1 := Enc.mono (eLst eInt) l0.le h1; (have lF := Ex.trans lF l0; (have O : NF.Fz _ F H [(ab, HO.lst bx4)] := O; (Exists.elim k fun x5 hk => (have k := hk.2; (NF.y_ixL O.leF h1 hk.1 (fun u hu => NF.byI u hu (NF.x_name ?_)))))))))))))))))))))))))))))))))))
  refine (NF.x_seq (NF.x_asg (NF.x_c (NF.x_name ?_))))
  refine NF.y_cut (fun (z_times : Int) (σ : L2.St) (F : Hp) (R : List (Addr × HO)) => ∃ bx : List V, σ = [some (.ref ab), some (.int x5), some (.int z_times), none, none, none, none, none, none] ∧ R = [(ab, HO.lst bx)] ∧ BxW bx) O k ?_ ?_
  · intro k lp6
    refine (NF.x_ifs (NF.x_test (NF.x_op (NF.x_call (NF.x_cons (NF.x_var rfl (NF.x_cons (NF.x_c (NF.x_nil (NF.use_spWb (i := (8 : Int)) O 0 rfl hb rfl ⟨_, rfl, rfl⟩ k (fun y8 v F H bx9 hb l0 O hv k => NF.byI v hv (have lF := Ex.trans lF l0; (have lp6 := Ex.trans lp6 l0; (have O : NF.Fz _ F H [(ab, HO.lst bx9)] := O; (NF.x_c (NF.y_eqI (NF.x_bl (NF.x_itb (fun g10 => (have k := k.1 g10; ?_)) (fun g10 => (have k := k.2 g10; ?_))))))))))))))))))))
    · refine (NF.x_asg (NF.x_c (NF.x_name ?_)))
      exact ⟨(30 : Int), _, _, lp6, O, ⟨_, rfl, rfl, hb⟩, k⟩
    · refine NF.x_next ?_
      exact ⟨(1 : Int), _, _, lp6, O, ⟨_, rfl, rfl, hb⟩, k⟩
  · rintro z_times _ F _ H l0 O ⟨bx, rfl, rfl, hb⟩ k
    have lF := Ex.trans lF l0
    refine (NF.x_seq (NF.x_asg (NF.x_lst (NF.x_nil (NF.y_lstM O (show 0 ≤ sizeLine by decide) (fun p12 H O => (have h11 : NF.RL ((eP3 (eTup eInt) (eTup eInt) (eTup eStr)).rep F) _ [] := .nil; (NF.x_name ?_))))))))
    refine (NF.x_seq (NF.x_for (NF.x_jR1 (NF.x_cons (NF.x_call (NF.x_cons (NF.x_var rfl (NF.x_cons (NF.x_c (NF.x_nil (NF.use_spWb (i := (7 : Int)) O 0 rfl hb rfl ⟨_, rfl, rfl⟩ k (fun y13 v F H bx14 hb l0 O hv k => NF.byI v hv (have h11 := h11.mono fun _ _ => Enc.mono (eP3 (eTup eInt) (eTup eInt) (eTup eStr)) l0.le; (have lF := Ex.trans lF l0; (have O : NF.Fz _ F H [(ab, HO.lst bx14), (p12, HO.lst [])] := O; (NF.x_nil (have c15 := k.1; have k := k.2; (NF.y_jR1 (F := F) c15 (fun J T => (NF.y_for (σt := (List ((List Int) × (List Int) × (List Str)))) (fun (z_rows : (List ((List Int) × (List Int) × (List Str)))) (σ : L2.St) (F : Hp) (R : List (Addr × HO)) => ∃ vs_rows : List V, ∃ u4 : Option V, ∃ u5 : Option V, ∃ u6 : Option V, ∃ u7 : Option V, ∃ u8 : Option V, ∃ bx : List V, σ = [some (.ref ab), some (.int x5), some (.int z_times), some (.ref p12), u4, u5, u6, u7, u8] ∧ R = [(ab, HO.lst bx), (p12, HO.lst vs_rows)] ∧ RL ((eP3 (eTup eInt) (eTup eInt) (eTup eStr)).rep F) vs_rows z_rows ∧ BxW bx) T O k ⟨_, _, _, _, _, _, _, rfl, rfl, h11, hb⟩ ?_ ?_))))))))))))))))))))
    · rintro x17 r z_rows _ F0 F _ H v18 lp16 ⟨vs_rows, u4, u5, u6, u7, u8, bx, rfl, rfl, r_rows, hb⟩ l1 O h19 k
      have lp16 := Ex.trans lp16 l1
      have r_rows := r_rows.mono fun _ _ => Enc.mono (eP3 (eTup eInt) (eTup eInt) (eTup eStr)) l1.le
      have lF := Ex.trans lF lp16
      cases h19
      refine NF.x_name ?_
      refine (NF.x_seq (NF.x_asg (NF.x_call (NF.x_cons (NF.x_var rfl (NF.x_cons (NF.x_var rfl (NF.x_nil (NF.use_spWb (i := x5) O 0 rfl hb rfl ⟨_, rfl, rfl⟩ k (fun y20 v22 F H bx21 hb l0 O h23 k => (have r_rows := r_rows.mono fun _ _ => Enc.mono (eP3 (eTup eInt) (eTup eInt) (eTup eStr)) l0.le; (have lF := Ex.trans lF l0; (have lp16 := Ex.trans lp16 l0; (have O : NF.Fz _ F H [(ab, HO.lst bx21), (p12, HO.lst vs_rows)] := O; (NF.x_name ?_)))))))))))))))
      refine (NF.x_seq (NF.x_asg (NF.x_call (NF.x_cons (NF.x_var rfl (NF.x_cons (NF.x_var rfl (NF.x_nil (NF.use_spWb (i := x5) O 0 rfl hb rfl ⟨_, rfl, rfl⟩ k (fun y24 v26 F H bx25 hb l0 O h27 k => (have r_rows := r_rows.mono fun _ _ => Enc.mono (eP3 (eTup eInt) (eTup eInt) (eTup eStr)) l0.le; (have h23 := Enc.mono (eTup eInt) l0.le h23; (have lF := Ex.trans lF l0; (have lp16 := Ex.trans lp16 l0; (have O : NF.Fz _ F H [(ab, HO.lst bx25), (p12, HO.lst vs_rows)] := O; (NF.x_name ?_))))))))))))))))
      refine (NF.x_seq (NF.x_asg (NF.x_lst (NF.x_nil (NF.y_lstM O (show 0 ≤ sizeLine by decide) (fun p29 H O => (have h28 : NF.RL (eStr.rep F) _ [] := .nil; (NF.x_name ?_))))))))
      refine (NF.x_seq (NF.x_for (NF.x_jR1 (NF.x_cons (NF.x_op (NF.x_c (NF.x_call (NF.x_cons (NF.x_var rfl (NF.x_cons (NF.x_c (NF.x_nil (NF.use_spWb (i := (4 : Int)) O 0 rfl hb rfl ⟨_, rfl, rfl⟩ k (fun y30 v F H bx31 hb l0 O hv k => NF.byI v hv (have r_rows := r_rows.mono fun _ _ => Enc.mono (eP3 (eTup eInt) (eTup eInt) (eTup eStr)) l0.le; (have h23 := Enc.mono (eTup eInt) l0.le h23; (have h27 := Enc.mono (eTup eInt) l0.le h27; (have h28 := h28.mono fun _ _ => Enc.mono eStr l0.le; (have lF := Ex.trans lF l0; (have lp16 := Ex.trans lp16 l0; (have O : NF.Fz _ F H [(ab, HO.lst bx31), (p12, HO.lst vs_rows), (p29, HO.lst [])] := O; (NF.x_I0 (NF.x_nil (have c32 := k.1; have k := k.2; (NF.y_jR1 (F := F) c32 (fun J T => (NF.y_for (σt := (List Str)) (fun (z_strings : (List Str)) (σ : L2.St) (F : Hp) (R : List (Addr × HO)) => ∃ vs_strings : List V, ∃ u8 : Option V, ∃ bx : List V, σ = [some (.ref ab), some (.int x5), some (.int z_times), some (.ref p12), some (.int x17), some v22, some v26, some (.ref p29), u8] ∧ R = [(ab, HO.lst bx), (p12, HO.lst vs_rows), (p29, HO.lst vs_strings)] ∧ RL (eStr.rep F) vs_strings z_strings ∧ BxW bx) T O k ⟨_, _, _, rfl, rfl, h28, hb⟩ ?_ ?_)))))))))))))))))))))))))))
      · rintro x34 r z_strings _ F0 F _ H v35 lp33 ⟨vs_strings, u8, bx, rfl, rfl, r_strings, hb⟩ l1 O h36 k
        have lp33 := Ex.trans lp33 l1
        have r_rows := r_rows.mono fun _ _ => Enc.mono (eP3 (eTup eInt) (eTup eInt) (eTup eStr)) lp33.le
        have h23 := Enc.mono (eTup eInt) lp33.le h23
        have h27 := Enc.mono (eTup eInt) lp33.le h27
        have r_strings := r_strings.mono fun _ _ => Enc.mono eStr l1.le
        have lF := Ex.trans lF lp33
        have lp16 := Ex.trans lp16 lp33
        cases h36
        refine NF.x_name ?_
        refine (NF.x_drop (NF.x_bm (NF.x_var rfl (NF.x_tyL (O.get 2 rfl) (NF.x_cons (NF.x_op (NF.x_call (NF.x_cons (NF.x_var rfl (NF.x_nil (NF.use_spWb (i := ()) O 0 rfl hb rfl rfl k (fun y37 v F H bx38 hb l0 O hv k => NF.byS v hv (have r_rows := r_rows.mono fun _ _ => Enc.mono (eP3 (eTup eInt) (eTup eInt) (eTup eStr)) l0.le; (have h23 := Enc.mono (eTup eInt) l0.le h23; (have h27 := Enc.mono (eTup eInt) l0.le h27; (have r_strings := r_strings.mono fun _ _ => Enc.mono eStr l0.le; (have lF := Ex.trans lF l0; (have lp16 := Ex.trans lp16 l0; (have lp33 := Ex.trans lp33 l0; (have O : NF.Fz _ F H [(ab, HO.lst bx38), (p12, HO.lst vs_rows), (p29, HO.lst vs_strings)] := O; (NF.x_var rfl (have c39 := k.1; have k := k.2; (NF.y_mulS c39 (NF.x_nil (have c40 := k.1; have k := k.2; (NF.y_app2 O 2 rfl r_strings c40 (fun H O => (have r_strings := NF.RL.snoc (x := (Txt.mul y37 z_times)) r_strings rfl; ?_))))))))))))))))))))))))))))
        exact ⟨(z_strings ++ [(Txt.mul y37 z_times)]), _, _, lp33, O, ⟨_, _, _, rfl, rfl, r_strings, hb⟩, k⟩
      · rintro z_strings _ F _ H l0 O ⟨vs_strings, u8, bx, rfl, rfl, r_strings, hb⟩ k
        have r_rows := r_rows.mono fun _ _ => Enc.mono (eP3 (eTup eInt) (eTup eInt) (eTup eStr)) l0.le
        have h23 := Enc.mono (eTup eInt) l0.le h23
        have h27 := Enc.mono (eTup eInt) l0.le h27
        have lF := Ex.trans lF l0
        have lp16 := Ex.trans lp16 l0
        refine (NF.x_drop (NF.x_bm (NF.x_var rfl (NF.x_tyL (O.get 1 rfl) (NF.x_cons (NF.x_tup (NF.x_cons (NF.x_var rfl (NF.x_cons (NF.x_var rfl (NF.x_cons (NF.x_cb (NF.x_cons (NF.x_var rfl (NF.x_nil (NF.y_tupOfM O 2 rfl r_strings (fun p42 F H h41 l0 O => (have r_rows := r_rows.mono fun _ _ => Enc.mono (eP3 (eTup eInt) (eTup eInt) (eTup eStr)) l0.le; (have h23 := Enc.mono (eTup eInt) l0.le h23; (have h27 := Enc.mono (eTup eInt) l0.le h27; (have r_strings := r_strings.mono fun _ _ => Enc.mono eStr l0.le; (have lF := Ex.trans lF l0; (have lp16 := Ex.trans lp16 l0; (NF.x_nil (NF.y_tup O (show 3 ≤ sizeLine by decide) (fun p44 F H hp l0 O => (have r_rows := r_rows.mono fun _ _ => Enc.mono (eP3 (eTup eInt) (eTup eInt) (eTup eStr)) l0.le; (have h23 := Enc.mono (eTup eInt) l0.le h23; (have h27 := Enc.mono (eTup eInt) l0.le h27; (have r_strings := r_strings.mono fun _ _ => Enc.mono eStr l0.le; (have h41 := Enc.mono (eTup eStr) l0.le h41; (have lF := Ex.trans lF l0; (have lp16 := Ex.trans lp16 l0; (have h43 : (eP3 (eTup eInt) (eTup eInt) (eTup eStr)).rep F (.ref p44) (y20, y24, z_strings) := ⟨_, _, _, _, rfl, hp, h23, h27, h41⟩; (NF.x_nil (have c45 := k.1; have k := k.2; (NF.y_app2 O 1 rfl r_rows c45 (fun H O => (have r_rows := NF.RL.snoc (x := (y20, y24, z_strings)) r_rows h43; ?_)))))))))))))))))))))))))))))))))))))))
        exact ⟨(z_rows ++ [(y20, y24, z_strings)]), _, _, lp16, (NF.Fz.sub O (.cons₂ _ (.cons₂ _ (.cons _ .slnil)))), ⟨_, _, _, _, _, _, _, rfl, rfl, r_rows, hb⟩, k⟩
    · rintro z_rows _ F _ H l0 O ⟨vs_rows, u4, u5, u6, u7, u8, bx, rfl, rfl, r_rows, hb⟩ k
      have lF := Ex.trans lF l0
      refine NF.y_cut (fun (z_rows : (List ((List Int) × (List Int) × (List Str)))) (σ : L2.St) (F : Hp) (R : List (Addr × HO)) => ∃ v_rows : V, ∃ u4 : Option V, ∃ u5 : Option V, ∃ u6 : Option V, ∃ u7 : Option V, ∃ u8 : Option V, ∃ bx : List V, σ = [some (.ref ab), some (.int x5), some (.int z_times), some v_rows, u4, u5, u6, u7, u8] ∧ R = [(ab, HO.lst bx)] ∧ (eLst (eP3 (eTup eInt) (eTup eInt) (eTup eStr))).rep F v_rows z_rows ∧ BxW bx) O k ?_ ?_
      · intro k lp46
        refine (NF.x_ifs (NF.x_test (NF.x_op (NF.x_call (NF.x_cons (NF.x_var rfl (NF.x_cons (NF.x_c (NF.x_nil (NF.use_spWb (i := (8 : Int)) O 0 rfl hb rfl ⟨_, rfl, rfl⟩ k (fun y48 v F H bx49 hb l0 O hv k => NF.byI v hv (have r_rows := r_rows.mono fun _ _ => Enc.mono (eP3 (eTup eInt) (eTup eInt) (eTup eStr)) l0.le; (have lF := Ex.trans lF l0; (have lp46 := Ex.trans lp46 l0; (have O : NF.Fz _ F H [(ab, HO.lst bx49), (p12, HO.lst vs_rows)] := O; (NF.x_c (NF.y_eqI (NF.x_bl (NF.x_itb (fun g55 => (have k := k.1 g55; ?_)) (fun g55 => (have k := k.2 g55; ?_)))))))))))))))))))))
        · refine (NF.x_asg (NF.x_op (NF.x_var rfl (NF.x_c (NF.y_frz O 1 rfl (fun F l0 hp O => (have r_rows := r_rows.mono fun _ _ => Enc.mono (eP3 (eTup eInt) (eTup eInt) (eTup eStr)) l0.le; (have lF := Ex.trans lF l0; (have lp46 := Ex.trans lp46 l0; (have h50 : (eLst (eP3 (eTup eInt) (eTup eInt) (eTup eStr))).rep F (.ref p12) z_rows := ⟨_, _, rfl, hp, r_rows⟩; (have c51 := k.1; have k := k.2; (NF.y_repF O h50 c51.1 c51.2 (fun p53 F H h52 l0 O => (have h50 := Enc.mono (eLst (eP3 (eTup eInt) (eTup eInt) (eTup eStr))) l0.le h50; (have lF := Ex.trans lF l0; (have lp46 := Ex.trans lp46 l0; (NF.x_name ?_)))))))))))))))))
          exact ⟨(List.replicate ((20 : Int)).toNat z_rows).flatten, _, _, lp46, O, ⟨_, _, _, _, _, _, _, rfl, rfl, h52, hb⟩, k⟩
        · refine NF.x_next ?_
          exact (NF.y_frz O 1 rfl (fun F l0 hp O => (have r_rows := r_rows.mono fun _ _ => Enc.mono (eP3 (eTup eInt) (eTup eInt) (eTup eStr)) l0.le; (have lF := Ex.trans lF l0; (have lp46 := Ex.trans lp46 l0; (have h54 : (eLst (eP3 (eTup eInt) (eTup eInt) (eTup eStr))).rep F (.ref p12) z_rows := ⟨_, _, rfl, hp, r_rows⟩; ⟨z_rows, _, _, lp46, O, ⟨_, _, _, _, _, _, _, rfl, rfl, h54, hb⟩, k⟩))))))
      · rintro z_rows _ F _ H l0 O ⟨v_rows, u4, u5, u6, u7, u8, bx, rfl, rfl, h_rows, hb⟩ k
        have lF := Ex.trans lF l0
        exact (NF.x_ret (NF.x_var rfl (q z_rows k _ _ _ _ hb (O.get 0 rfl) (NF.keepB O.leB) O.leF (NF.exB lF O) h_rows)))

def m_law_state_line (a_state : List Int) : W (Str) :=
  W.bind (W.comp a_state fun x1 =>
  W.chk ((x1).natAbs.log2 < 1920) <|
  W.ok (some (strI x1))) fun y10 =>
  W.chk ((y10.map (·.length)).sum + y10.length * (Str.ofString ",").length ≤ 16777216) <|
  W.ok (Txt.join (Str.ofString ",") y10)
abbrev NM_law_state_line : List Str := ["state", "number"]
theorem sc_law_state_line : FnScope NM_law_state_line ["state"] (defScope s_law_state_line) := ⟨rfl, rfl, rfl, by decide +kernel, rfl, by decide +kernel, by decide +kernel⟩
theorem d_law_state_line (F : Fn0 K mg "_law_state_line" s_law_state_line) (T : Txt P K mg)  :
    Def P w K mg base 1 "_law_state_line" ["state"] (spW 1 (fun F vs (i : (List Int)) => ∃ v0, vs = [v0] ∧ (eTup eInt).rep F v0 i) eStr (fun (i : (List Int)) => m_law_state_line i)) := by
  refine Def.mk0 F sc_law_state_line (by first | exact NF.hl_spW | exact NF.hl_spWb | exact NF.hl_spWX) (fun _ _ _ _ _ _ us hl => match us, hl with | [_], _ => rfl) (fun cdv A outer s H vs Q E hr h => ?_)
  refine ⟨_, (pss_one (ps_ret (pe_bm PySem.F.plainAttrs_str PySem.F.slot_str_join PySem.F.type_str_join mtJoin pe_str (pa_cons (pe_lc (own := [("number", 1)]) (g := gName 1) rfl sc_law_state_line.nd (pi_tup (pv 0)) (blkOk_by (own := [("number", 1)]) (N := NM_law_state_line) (sc := defScope s_law_state_line) (by decide +kernel)) (fun _ _ _ _ _ => (pg_name (i := 1) sc_law_state_line.nd rfl (Or.inl rfl))) (fun _ _ _ _ _ => pts_nil) (fun _ _ _ _ _ => (pe_callTy (T := "str") (r := rStrI) callStrI (by rfl) T.b_str (by decide +kernel) (pa_cons (pv 1) pa_nil)))) pa_nil)))), ?_⟩
  try dsimp only [cxOf, Cx.nox, Cx.wish]
  obtain ⟨hl, F, a_state, K0, hF, ⟨v_state, rfl, h_state⟩, k, q⟩ := h
  have O := NF.Fz.start hF
  have lF := NF.Ex.rfl (B := H) (F := F)
  exact (NF.x_ret (NF.x_bm (NF.x_c (NF.x_tyS (NF.x_cons (NF.x_lc (NF.x_jT (NF.x_var rfl (NF.y_jT O.leF h_state (fun J T => (NF.y_comp (er := eStr) (fun R => R = []) T O k.2 k.1 rfl (fun i x1 r pc7 acc5 at6 F0 F R H v hi lc4 hI ra8 hl l1 O hv k => (have lc4 := Ex.trans lc4 l1; (have ra8 := ra8.mono fun _ _ => Enc.mono eStr l1.le; (have O := NF.castR hI O; (have h_state := Enc.mono (eTup eInt) lc4.le h_state; (have lF := Ex.trans lF lc4; (NF.byI v hv (NF.x_name ⟨NF.set_wipe _ _ _, (NF.x_yes (NF.x_tt (NF.x_cb (NF.x_cons (NF.x_var rfl (NF.x_nil (have c9 := k.1; have k := k.2; (NF.x_strI c9 (NF.cE_mk (R' := []) hi lc4 rfl O ra8 hl rfl k)))))))))⟩)))))))) (fun p12 F R vs11 y10 H l0 hI O ra13 k => (have O := NF.castR hI O; (have h_state := Enc.mono (eTup eInt) l0.le h_state; (have lF := Ex.trans lF l0; (NF.y_frzL O (fun F l0 hp O => (have h_state := Enc.mono (eTup eInt) l0.le h_state; (have lF := Ex.trans lF l0; (have h14 : (eLst eStr).rep F (.ref p12) y10 := ⟨_, _, rfl, hp, ra13.mono fun _ _ => Enc.mono eStr l0.le⟩; (NF.x_nil (have c15 := k.1; have k := k.2; (NF.y_joinL O.leF h14 c15 (q (Txt.join (Str.ofString ",") y10) k _ _ _ O.leB O.leF lF rfl))))))))))))))))))))))))

def m_law_pairs_line (a_rows : List ((List Int) × (List Int))) : W (Str) :=
  W.ite (!(!a_rows.isEmpty)) (W.ok (Str.ofString "."))
  (W.bind (W.comp a_rows fun x1 =>
  W.bind (m_law_state_line x1.1) fun y11 =>
  W.chk (y11.length + (Str.ofString ">").length ≤ sizeLine) <|
  W.bind (m_law_state_line x1.2) fun y15 =>
  W.chk ((y11 ++ (Str.ofString ">")).length + y15.length ≤ sizeLine) <|
  W.ok (some ((y11 ++ (Str.ofString ">")) ++ y15))) fun y17 =>
  W.chk ((y17.map (·.length)).sum + y17.length * (Str.ofString ";").length ≤ 16777216) <|
  W.ok (Txt.join (Str.ofString ";") y17))
abbrev NM_law_pairs_line : List Str := ["rows", "row"]
theorem sc_law_pairs_line : FnScope NM_law_pairs_line ["rows"] (defScope s_law_pairs_line) := ⟨rfl, rfl, rfl, by decide +kernel, rfl, by decide +kernel, by decide +kernel⟩
theorem d_law_pairs_line (F : Fn0 K mg "_law_pairs_line" s_law_pairs_line) (T : Txt P K mg) (D_law_state_line : Def P w K mg base 1 "_law_state_line" ["state"] (spW 1 (fun F vs (i : (List Int)) => ∃ v0, vs = [v0] ∧ (eTup eInt).rep F v0 i) eStr (fun (i : (List Int)) => m_law_state_line i))) :
    Def P w K mg base 2 "_law_pairs_line" ["rows"] (spW 1 (fun F vs (i : (List ((List Int) × (List Int)))) => ∃ v0, vs = [v0] ∧ (eLst (eP2 (eTup eInt) (eTup eInt))).rep F v0 i) eStr (fun (i : (List ((List Int) × (List Int)))) => m_law_pairs_line i)) := by
  refine Def.mk0 F sc_law_pairs_line (by first | exact NF.hl_spW | exact NF.hl_spWb | exact NF.hl_spWX) (fun _ _ _ _ _ _ us hl => match us, hl with | [_], _ => rfl) (fun cdv A outer s H vs Q E hr h => ?_)
  refine ⟨_, (pss_cons (ps_if (pt_not (ptTruth (pv 0) (by intro _; rfl)))
      (pss_one (ps_ret pe_str))
      pss_nil)
      (pss_one (ps_ret (pe_bm PySem.F.plainAttrs_str PySem.F.slot_str_join PySem.F.type_str_join mtJoin pe_str (pa_cons (pe_lc (own := [("row", 1)]) (g := gName 1) rfl sc_law_pairs_line.nd (pi_list (pv 0)) (blkOk_by (own := [("row", 1)]) (N := NM_law_pairs_line) (sc := defScope s_law_pairs_line) (by decide +kernel)) (fun _ _ _ _ _ => (pg_name (i := 1) sc_law_pairs_line.nd rfl (Or.inl rfl))) (fun _ _ _ _ _ => pts_nil) (fun _ _ _ _ _ => (pe_op opAddS (pe_op opAddS (pe_d D_law_state_line (hr.mono (by decide)) rfl (pa_cons (pe_ix (show IxR _ (rIxT K) from ix_tup) (pv 1) pe_int (fun _ _ => rfl)) pa_nil)) pe_str) (pe_d D_law_state_line (hr.mono (by decide)) rfl (pa_cons (pe_ix (show IxR _ (rIxT K) from ix_tup) (pv 1) pe_int (fun _ _ => rfl)) pa_nil))))) pa_nil))))), ?_⟩
  try dsimp only [cxOf, Cx.nox, Cx.wish]
  obtain ⟨hl, F, a_rows, K0, hF, ⟨v_rows, rfl, h_rows⟩, k, q⟩ := h
  have O := NF.Fz.start hF
  have lF := NF.Ex.rfl (B := H) (F := F)
  refine (NF.x_seq (NF.x_ifs (NF.x_not (NF.x_tru (NF.x_var rfl (NF.y_truL O.leF h_rows (NF.x_itb (fun g23 => (have k := k.1 g23; ?_)) (fun g23 => (have k := k.2 g23; ?_)))))))))
  · exact (NF.x_ret (NF.x_c (q (Str.ofString ".") k _ _ _ O.leB O.leF lF rfl)))
  · refine NF.x_next ?_
    exact (NF.x_ret (NF.x_bm (NF.x_c (NF.x_tyS (NF.x_cons (NF.x_lc (NF.x_jL (NF.x_var rfl (NF.y_jL O.leF h_rows (fun J T => (NF.y_comp (er := eStr) (fun R => R = []) T O k.2 k.1 rfl (fun i x1 r pc7 acc5 at6 F0 F R H v2 hi lc4 hI ra8 hl l1 O h3 k => (have lc4 := Ex.trans lc4 l1; (have ra8 := ra8.mono fun _ _ => Enc.mono eStr l1.le; (have O := NF.castR hI O; (have h_rows := Enc.mono (eLst (eP2 (eTup eInt) (eTup eInt))) lc4.le h_rows; (have lF := Ex.trans lF lc4; (NF.x_name ⟨NF.set_wipe _ _ _, (NF.x_yes (NF.x_tt (NF.x_op (NF.x_op (NF.x_call (NF.x_cons (NF.x_op (NF.x_var rfl (NF.x_c (NF.y_ix20 O.leF h3 (fun v9 h10 => (NF.x_nil (NF.use_spW (i := x1.1) O rfl ⟨_, rfl, h10⟩ k (fun y11 v F H l0 O hv k => NF.byS v hv (have h_rows := Enc.mono (eLst (eP2 (eTup eInt) (eTup eInt))) l0.le h_rows; (have h3 := Enc.mono (eP2 (eTup eInt) (eTup eInt)) l0.le h3; (have h10 := Enc.mono (eTup eInt) l0.le h10; (have lF := Ex.trans lF l0; (have lc4 := Ex.trans lc4 l0; (NF.x_c (have c12 := k.1; have k := k.2; (NF.x_addS c12 (NF.x_call (NF.x_cons (NF.x_op (NF.x_var rfl (NF.x_c (NF.y_ix21 O.leF h3 (fun v13 h14 => (NF.x_nil (NF.use_spW (i := x1.2) O rfl ⟨_, rfl, h14⟩ k (fun y15 v F H l0 O hv k => NF.byS v hv (have h_rows := Enc.mono (eLst (eP2 (eTup eInt) (eTup eInt))) l0.le h_rows; (have h3 := Enc.mono (eP2 (eTup eInt) (eTup eInt)) l0.le h3; (have h10 := Enc.mono (eTup eInt) l0.le h10; (have h14 := Enc.mono (eTup eInt) l0.le h14; (have lF := Ex.trans lF l0; (have lc4 := Ex.trans lc4 l0; (have c16 := k.1; have k := k.2; (NF.x_addS c16 (NF.cE_mk (R' := []) hi lc4 rfl O ra8 hl rfl k)))))))))))))))))))))))))))))))))))))))))⟩))))))) (fun p19 F R vs18 y17 H l0 hI O ra20 k => (have O := NF.castR hI O; (have h_rows := Enc.mono (eLst (eP2 (eTup eInt) (eTup eInt))) l0.le h_rows; (have lF := Ex.trans lF l0; (NF.y_frzL O (fun F l0 hp O => (have h_rows := Enc.mono (eLst (eP2 (eTup eInt) (eTup eInt))) l0.le h_rows; (have lF := Ex.trans lF l0; (have h21 : (eLst eStr).rep F (.ref p19) y17 := ⟨_, _, rfl, hp, ra20.mono fun _ _ => Enc.mono eStr l0.le⟩; (NF.x_nil (have c22 := k.1; have k := k.2; (NF.y_joinL O.leF h21 c22 (q (Txt.join (Str.ofString ";") y17) k _ _ _ O.leB O.leF lF rfl))))))))))))))))))))))))

def m_law_letters_of (a_form : Str) : W (Option Str) :=
  W.ite (decide (a_form = (Str.ofString "."))) (W.ok (some (Str.ofString "")))
  (W.for_ (tl a_form) () (fun (x2 : Nat) (s : Unit) =>
  W.ite (!decide (x2 ∈ tl (Str.ofString "abcdefghABCDEFGH"))) (W.ok (.rt none))
  (W.ok (.nx ()))) (fun (s : Unit) =>
  W.ite (decide (a_form = (Str.ofString ""))) (W.ok none)
  (W.ok (some a_form))))
abbrev NM_law_letters_of : List Str := ["form", "sign"]
theorem sc_law_letters_of : FnScope NM_law_letters_of ["form"] (defScope s_law_letters_of) := ⟨rfl, rfl, rfl, by decide +kernel, rfl, by decide +kernel, by decide +kernel⟩
theorem d_law_letters_of (F : Fn0 K mg "_law_letters_of" s_law_letters_of) (T : Txt P K mg)  :
    Def P w K mg base 1 "_law_letters_of" ["form"] (spW 1 (fun F vs (i : Str) => ∃ v0, vs = [v0] ∧ eStr.rep F v0 i) (eOpt eStr) (fun (i : Str) => m_law_letters_of i)) := by
  refine Def.mk0 F sc_law_letters_of (by first | exact NF.hl_spW | exact NF.hl_spWb | exact NF.hl_spWX) (fun _ _ _ _ _ _ us hl => match us, hl with | [_], _ => rfl) (fun cdv A outer s H vs Q E hr h => ?_)
  refine ⟨_, (pss_cons (ps_if (pt_cmpR op_eq (pv 0) pe_str (nomark _))
      (pss_one (ps_ret pe_str))
      pss_nil)
      (pss_cons (ps_for PassesOwn.never rfl (pi_str (pv 0)) (pg_name (i := 1) sc_law_letters_of.nd rfl (Or.inl rfl))
      (pss_one (ps_if (pt_cmpR opNotInC (pv 1) pe_str (by rfl))
      (pss_one (ps_ret pe_non))
      pss_nil)))
      (pss_cons (ps_if (pt_cmpR op_eq (pv 0) pe_str (nomark _))
      (pss_one (ps_ret pe_non))
      pss_nil)
      (pss_one (ps_ret (pv 0)))))), ?_⟩
  try dsimp only [cxOf, Cx.nox, Cx.wish]
  obtain ⟨hl, F, a_form, K0, hF, ⟨_, rfl, rfl⟩, k, q⟩ := h
  have O := NF.Fz.start hF
  have lF := NF.Ex.rfl (B := H) (F := F)
  refine (NF.x_seq (NF.x_ifs (NF.x_test (NF.x_op (NF.x_var rfl (NF.x_c (NF.y_eqS (NF.x_bl (NF.x_itb (fun g7 => (have k := k.1 g7; ?_)) (fun g7 => (have k := k.2 g7; ?_)))))))))))
  · exact (NF.x_ret (NF.x_c (q (some (Str.ofString "")) k _ _ _ O.leB O.leF lF rfl)))
  · refine NF.x_next ?_
    refine (NF.x_seq (NF.x_for (NF.x_jS (NF.x_var rfl (NF.y_jC (F := F) (fun J T => (NF.y_for (σt := Unit) (fun (_s : Unit) (σ : L2.St) (F : Hp) (R : List (Addr × HO)) => ∃ u1 : Option V, σ = [some (.str a_form), u1] ∧ R = []) T O k ⟨_, rfl, rfl⟩ ?_ ?_)))))))
    · rintro x2 r _ _ F0 F _ H v3 lp1 ⟨u1, rfl, rfl⟩ l1 O h4 k
      have lp1 := Ex.trans lp1 l1
      have lF := Ex.trans lF lp1
      cases h4
      refine NF.x_name ?_
      refine (NF.x_ifs (NF.x_test (NF.x_op (NF.x_var rfl (NF.x_c (NF.x_notInC (NF.x_bl (NF.x_itb (fun g5 => (have k := k.1 g5; ?_)) (fun g5 => (have k := k.2 g5; ?_))))))))))
      · exact (NF.x_ret (NF.x_c (q none k _ _ _ O.leB O.leF lF rfl)))
      · refine NF.x_next ?_
        exact ⟨(), _, _, lp1, O, ⟨_, rfl, rfl⟩, k⟩
    · rintro _ _ F _ H l0 O ⟨u1, rfl, rfl⟩ k
      have lF := Ex.trans lF l0
      refine (NF.x_seq (NF.x_ifs (NF.x_test (NF.x_op (NF.x_var rfl (NF.x_c (NF.y_eqS (NF.x_bl (NF.x_itb (fun g6 => (have k := k.1 g6; ?_)) (fun g6 => (have k := k.2 g6; ?_)))))))))))
      · exact (NF.x_ret (NF.x_c (q none k _ _ _ O.leB O.leF lF rfl)))
      · refine NF.x_next ?_
        exact (NF.x_ret (NF.x_var rfl (q (some a_form) k _ _ _ O.leB O.leF lF rfl)))

def m_law_letters_line (a_letters : Str) : W (Str) :=
  W.ite (decide (a_letters = (Str.ofString ""))) (W.ok (Str.ofString "."))
  (W.ok a_letters)
abbrev NM_law_letters_line : List Str := ["letters"]
theorem sc_law_letters_line : FnScope NM_law_letters_line ["letters"] (defScope s_law_letters_line) := ⟨rfl, rfl, rfl, by decide +kernel, rfl, by decide +kernel, by decide +kernel⟩
theorem d_law_letters_line (F : Fn0 K mg "_law_letters_line" s_law_letters_line) (T : Txt P K mg)  :
    Def P w K mg base 1 "_law_letters_line" ["letters"] (spW 1 (fun F vs (i : Str) => ∃ v0, vs = [v0] ∧ eStr.rep F v0 i) eStr (fun (i : Str) => m_law_letters_line i)) := by
  refine Def.mk0 F sc_law_letters_line (by first | exact NF.hl_spW | exact NF.hl_spWb | exact NF.hl_spWX) (fun _ _ _ _ _ _ us hl => match us, hl with | [_], _ => rfl) (fun cdv A outer s H vs Q E hr h => ?_)
  refine ⟨_, (pss_cons (ps_if (pt_cmpR op_eq (pv 0) pe_str (nomark _))
      (pss_one (ps_ret pe_str))
      pss_nil)
      (pss_one (ps_ret (pv 0)))), ?_⟩
  try dsimp only [cxOf, Cx.nox, Cx.wish]
  obtain ⟨hl, F, a_letters, K0, hF, ⟨_, rfl, rfl⟩, k, q⟩ := h
  have O := NF.Fz.start hF
  have lF := NF.Ex.rfl (B := H) (F := F)
  refine (NF.x_seq (NF.x_ifs (NF.x_test (NF.x_op (NF.x_var rfl (NF.x_c (NF.y_eqS (NF.x_bl (NF.x_itb (fun g1 => (have k := k.1 g1; ?_)) (fun g1 => (have k := k.2 g1; ?_)))))))))))
  · exact (NF.x_ret (NF.x_c (q (Str.ofString ".") k _ _ _ O.leB O.leF lF rfl)))
  · refine NF.x_next ?_
    exact (NF.x_ret (NF.x_var rfl (q a_letters k _ _ _ O.leB O.leF lF rfl)))

def m_law_rows_line (a_rows : List ((List Int) × (List Int) × (List Str))) : W (Str) :=
  W.ite (!(!a_rows.isEmpty)) (W.ok (Str.ofString "."))
  (W.for_ a_rows ([] : List Str) (fun (x4 : (List Int) × (List Int) × (List Str)) (z_pieces : (List Str)) =>
  W.bind (W.comp x4.2.2 fun x9 =>
  W.bind (m_law_letters_line x9) fun y17 =>
  W.ok (some y17)) fun y18 =>
  W.chk ((y18.map (·.length)).sum + y18.length * (Str.ofString ",").length ≤ 16777216) <|
  W.bind (m_law_state_line x4.1) fun y26 =>
  W.chk (y26.length + (Str.ofString ">").length ≤ sizeLine) <|
  W.bind (m_law_state_line x4.2.1) fun y30 =>
  W.chk ((y26 ++ (Str.ofString ">")).length + y30.length ≤ sizeLine) <|
  W.chk (((y26 ++ (Str.ofString ">")) ++ y30).length + (Str.ofString ">").length ≤ sizeLine) <|
  W.chk ((((y26 ++ (Str.ofString ">")) ++ y30) ++ (Str.ofString ">")).length + (Txt.join (Str.ofString ",") y18).length ≤ sizeLine) <|
  W.chk (z_pieces.length < sizeLine) <|
  W.ok (.nx (z_pieces ++ [((((y26 ++ (Str.ofString ">")) ++ y30) ++ (Str.ofString ">")) ++ (Txt.join (Str.ofString ",") y18))]))) (fun (z_pieces : (List Str)) =>
  W.chk ((z_pieces.map (·.length)).sum + z_pieces.length * (Str.ofString ";").length ≤ 16777216) <|
  W.ok (Txt.join (Str.ofString ";") z_pieces)))
abbrev NM_law_rows_line : List Str := ["rows", "pieces", "row", "strings", "letters"]
theorem sc_law_rows_line : FnScope NM_law_rows_line ["rows"] (defScope s_law_rows_line) := ⟨rfl, rfl, rfl, by decide +kernel, rfl, by decide +kernel, by decide +kernel⟩
theorem d_law_rows_line (F : Fn0 K mg "_law_rows_line" s_law_rows_line) (T : Txt P K mg) (D_law_letters_line : Def P w K mg base 1 "_law_letters_line" ["letters"] (spW 1 (fun F vs (i : Str) => ∃ v0, vs = [v0] ∧ eStr.rep F v0 i) eStr (fun (i : Str) => m_law_letters_line i))) (D_law_state_line : Def P w K mg base 1 "_law_state_line" ["state"] (spW 1 (fun F vs (i : (List Int)) => ∃ v0, vs = [v0] ∧ (eTup eInt).rep F v0 i) eStr (fun (i : (List Int)) => m_law_state_line i))) :
    Def P w K mg base 2 "_law_rows_line" ["rows"] (spW 1 (fun F vs (i : (List ((List Int) × (List Int) × (List Str)))) => ∃ v0, vs = [v0] ∧ (eLst (eP3 (eTup eInt) (eTup eInt) (eTup eStr))).rep F v0 i) eStr (fun (i : (List ((List Int) × (List Int) × (List Str)))) => m_law_rows_line i)) := by
  refine Def.mk0 F sc_law_rows_line (by first | exact NF.hl_spW | exact NF.hl_spWb | exact NF.hl_spWX) (fun _ _ _ _ _ _ us hl => match us, hl with | [_], _ => rfl) (fun cdv A outer s H vs Q E hr h => ?_)
  refine ⟨_, (pss_cons (ps_if (pt_not (ptTruth (pv 0) (by intro _; rfl)))
      (pss_one (ps_ret pe_str))
      pss_nil)
      (pss_cons (ps_set (i := 1) sc_law_rows_line.nd rfl (Or.inl rfl) (pe_lst pa_nil))
      (pss_cons (ps_for PassesOwn.never rfl (pi_list (pv 0)) (pg_name (i := 2) sc_law_rows_line.nd rfl (Or.inl rfl))
      (pss_cons (ps_set (i := 3) sc_law_rows_line.nd rfl (Or.inl rfl) (pe_bm PySem.F.plainAttrs_str PySem.F.slot_str_join PySem.F.type_str_join mtJoin pe_str (pa_cons (pe_lc (own := [("letters", 4)]) (g := gName 4) rfl sc_law_rows_line.nd (pi_tup (pe_ix ix_tup (pv 2) pe_int (fun _ _ => rfl))) (blkOk_by (own := [("letters", 4)]) (N := NM_law_rows_line) (sc := defScope s_law_rows_line) (by decide +kernel)) (fun _ _ _ _ _ => (pg_name (i := 4) sc_law_rows_line.nd rfl (Or.inl rfl))) (fun _ _ _ _ _ => pts_nil) (fun _ _ _ _ _ => (pe_d D_law_letters_line (hr.mono (by decide)) rfl (pa_cons (pv 4) pa_nil)))) pa_nil)))
      (pss_one (ps_expr (pe_bm PySem.F.plainAttrs_list PySem.F.slot_list_append PySem.F.type_list_append mt_append (pv 1) (pa_cons (pe_op opAddS (pe_op opAddS (pe_op opAddS (pe_op opAddS (pe_d D_law_state_line (hr.mono (by decide)) rfl (pa_cons (pe_ix ix_tup (pv 2) pe_int (fun _ _ => rfl)) pa_nil)) pe_str) (pe_d D_law_state_line (hr.mono (by decide)) rfl (pa_cons (pe_ix ix_tup (pv 2) pe_int (fun _ _ => rfl)) pa_nil))) pe_str) (pv 3)) pa_nil))))))
      (pss_one (ps_ret (pe_bm PySem.F.plainAttrs_str PySem.F.slot_str_join PySem.F.type_str_join mtJoin pe_str (pa_cons (pv 1) pa_nil))))))), ?_⟩
  try dsimp only [cxOf, Cx.nox, Cx.wish]
  obtain ⟨hl, F, a_rows, K0, hF, ⟨v_rows, rfl, h_rows⟩, k, q⟩ := h
  have O := NF.Fz.start hF
  have lF := NF.Ex.rfl (B := H) (F := F)
  refine (NF.x_seq (NF.x_ifs (NF.x_not (NF.x_tru (NF.x_var rfl (NF.y_truL O.leF h_rows (NF.x_itb (fun g37 => (have k := k.1 g37; ?_)) (fun g37 => (have k := k.2 g37; ?_)))))))))
  · exact (NF.x_ret (NF.x_c (q (Str.ofString ".") k _ _ _ O.leB O.leF lF rfl)))
  · refine NF.x_next ?_
    refine (NF.x_seq (NF.x_asg (NF.x_lst (NF.x_nil (NF.y_lstM O (show 0 ≤ sizeLine by decide) (fun p2 H O => (have h1 : NF.RL (eStr.rep F) _ [] := .nil; (NF.x_name ?_))))))))
    refine (NF.x_seq (NF.x_for (NF.x_jL (NF.x_var rfl (NF.y_jL O.leF h_rows (fun J T => (NF.y_for (σt := (List Str)) (fun (z_pieces : (List Str)) (σ : L2.St) (F : Hp) (R : List (Addr × HO)) => ∃ vs_pieces : List V, ∃ u2 : Option V, ∃ u3 : Option V, σ = [some v_rows, some (.ref p2), u2, u3, none] ∧ R = [(p2, HO.lst vs_pieces)] ∧ RL (eStr.rep F) vs_pieces z_pieces) T O k ⟨_, _, _, rfl, rfl, h1⟩ ?_ ?_)))))))
    · rintro x4 r z_pieces _ F0 F _ H v5 lp3 ⟨vs_pieces, u2, u3, rfl, rfl, r_pieces⟩ l1 O h6 k
      have lp3 := Ex.trans lp3 l1
      have h_rows := Enc.mono (eLst (eP3 (eTup eInt) (eTup eInt) (eTup eStr))) lp3.le h_rows
      have r_pieces := r_pieces.mono fun _ _ => Enc.mono eStr l1.le
      have lF := Ex.trans lF lp3
      refine NF.x_name ?_
      refine (NF.x_seq (NF.x_asg (NF.x_bm (NF.x_c (NF.x_tyS (NF.x_cons (NF.x_lc (NF.x_jT (NF.x_op (NF.x_var rfl (NF.x_c (NF.y_ix32 O.leF h6 (fun v7 h8 => (NF.y_jT O.leF h8 (fun J T => (NF.y_comp (er := eStr) (fun R => R = [(p2, HO.lst vs_pieces)]) T O k.2 k.1 rfl (fun i x9 r pc15 acc13 at14 F0 F R H v hi lc12 hI ra16 hl l1 O hv k => (have lc12 := Ex.trans lc12 l1; (have ra16 := ra16.mono fun _ _ => Enc.mono eStr l1.le; (have O := NF.castR hI O; (have h_rows := Enc.mono (eLst (eP3 (eTup eInt) (eTup eInt) (eTup eStr))) lc12.le h_rows; (have r_pieces := r_pieces.mono fun _ _ => Enc.mono eStr lc12.le; (have h6 := Enc.mono (eP3 (eTup eInt) (eTup eInt) (eTup eStr)) lc12.le h6; (have h8 := Enc.mono (eTup eStr) lc12.le h8; (have lF := Ex.trans lF lc12; (have lp3 := Ex.trans lp3 lc12; (NF.byS v hv (NF.x_name ⟨NF.set_wipe _ _ _, (NF.x_yes (NF.x_tt (NF.x_call (NF.x_cons (NF.x_var rfl (NF.x_nil (NF.use_spW (i := x9) O rfl ⟨_, rfl, rfl⟩ k (fun y17 v F H l0 O hv k => NF.byS v hv (have h_rows := Enc.mono (eLst (eP3 (eTup eInt) (eTup eInt) (eTup eStr))) l0.le h_rows; (have r_pieces := r_pieces.mono fun _ _ => Enc.mono eStr l0.le; (have h6 := Enc.mono (eP3 (eTup eInt) (eTup eInt) (eTup eStr)) l0.le h6; (have h8 := Enc.mono (eTup eStr) l0.le h8; (have lF := Ex.trans lF l0; (have lp3 := Ex.trans lp3 l0; (have lc12 := Ex.trans lc12 l0; (NF.cE_mk (R' := [(p2, HO.lst vs_pieces)]) hi lc12 rfl O ra16 hl rfl k))))))))))))))))⟩)))))))))))) (fun p20 F R vs19 y18 H l0 hI O ra21 k => (have O := NF.castR hI O; (have h_rows := Enc.mono (eLst (eP3 (eTup eInt) (eTup eInt) (eTup eStr))) l0.le h_rows; (have r_pieces := r_pieces.mono fun _ _ => Enc.mono eStr l0.le; (have h6 := Enc.mono (eP3 (eTup eInt) (eTup eInt) (eTup eStr)) l0.le h6; (have h8 := Enc.mono (eTup eStr) l0.le h8; (have lF := Ex.trans lF l0; (have lp3 := Ex.trans lp3 l0; (NF.y_frzL O (fun F l0 hp O => (have h_rows := Enc.mono (eLst (eP3 (eTup eInt) (eTup eInt) (eTup eStr))) l0.le h_rows; (have r_pieces := r_pieces.mono fun _ _ => Enc.mono eStr l0.le; (have h6 := Enc.mono (eP3 (eTup eInt) (eTup eInt) (eTup eStr)) l0.le h6; (have h8 := Enc.mono (eTup eStr) l0.le h8; (have lF := Ex.trans lF l0; (have lp3 := Ex.trans lp3 l0; (have h22 : (eLst eStr).rep F (.ref p20) y18 := ⟨_, _, rfl, hp, ra21.mono fun _ _ => Enc.mono eStr l0.le⟩; (NF.x_nil (have c23 := k.1; have k := k.2; (NF.y_joinL O.leF h22 c23 (NF.x_name ?_)))))))))))))))))))))))))))))))))))))
      refine (NF.x_drop (NF.x_bm (NF.x_var rfl (NF.x_tyL (O.get 0 rfl) (NF.x_cons (NF.x_op (NF.x_op (NF.x_op (NF.x_op (NF.x_call (NF.x_cons (NF.x_op (NF.x_var rfl (NF.x_c (NF.y_ix30 O.leF h6 (fun v24 h25 => (NF.x_nil (NF.use_spW (i := x4.1) O rfl ⟨_, rfl, h25⟩ k (fun y26 v F H l0 O hv k => NF.byS v hv (have h_rows := Enc.mono (eLst (eP3 (eTup eInt) (eTup eInt) (eTup eStr))) l0.le h_rows; (have r_pieces := r_pieces.mono fun _ _ => Enc.mono eStr l0.le; (have h6 := Enc.mono (eP3 (eTup eInt) (eTup eInt) (eTup eStr)) l0.le h6; (have h25 := Enc.mono (eTup eInt) l0.le h25; (have lF := Ex.trans lF l0; (have lp3 := Ex.trans lp3 l0; (NF.x_c (have c27 := k.1; have k := k.2; (NF.x_addS c27 (NF.x_call (NF.x_cons (NF.x_op (NF.x_var rfl (NF.x_c (NF.y_ix31 O.leF h6 (fun v28 h29 => (NF.x_nil (NF.use_spW (i := x4.2.1) O rfl ⟨_, rfl, h29⟩ k (fun y30 v F H l0 O hv k => NF.byS v hv (have h_rows := Enc.mono (eLst (eP3 (eTup eInt) (eTup eInt) (eTup eStr))) l0.le h_rows; (have r_pieces := r_pieces.mono fun _ _ => Enc.mono eStr l0.le; (have h6 := Enc.mono (eP3 (eTup eInt) (eTup eInt) (eTup eStr)) l0.le h6; (have h25 := Enc.mono (eTup eInt) l0.le h25; (have h29 := Enc.mono (eTup eInt) l0.le h29; (have lF := Ex.trans lF l0; (have lp3 := Ex.trans lp3 l0; (have c31 := k.1; have k := k.2; (NF.x_addS c31 (NF.x_c (have c32 := k.1; have k := k.2; (NF.x_addS c32 (NF.x_var rfl (have c33 := k.1; have k := k.2; (NF.x_addS c33 (NF.x_nil (have c34 := k.1; have k := k.2; (NF.y_app2 O 0 rfl r_pieces c34 (fun H O => (have r_pieces := NF.RL.snoc (x := ((((y26 ++ (Str.ofString ">")) ++ y30) ++ (Str.ofString ">")) ++ (Txt.join (Str.ofString ",") y18))) r_pieces rfl; ?_))))))))))))))))))))))))))))))))))))))))))))))))))))))))))
      exact ⟨(z_pieces ++ [((((y26 ++ (Str.ofString ">")) ++ y30) ++ (Str.ofString ">")) ++ (Txt.join (Str.ofString ",") y18))]), _, _, lp3, O, ⟨_, _, _, rfl, rfl, r_pieces⟩, k⟩
    · rintro z_pieces _ F _ H l0 O ⟨vs_pieces, u2, u3, rfl, rfl, r_pieces⟩ k
      have h_rows := Enc.mono (eLst (eP3 (eTup eInt) (eTup eInt) (eTup eStr))) l0.le h_rows
      have lF := Ex.trans lF l0
      exact (NF.x_ret (NF.x_bm (NF.x_c (NF.x_tyS (NF.x_cons (NF.x_var rfl (NF.x_nil (NF.y_frz O 0 rfl (fun F l0 hp O => (have h_rows := Enc.mono (eLst (eP3 (eTup eInt) (eTup eInt) (eTup eStr))) l0.le h_rows; (have r_pieces := r_pieces.mono fun _ _ => Enc.mono eStr l0.le; (have lF := Ex.trans lF l0; (have h35 : (eLst eStr).rep F (.ref p2) z_pieces := ⟨_, _, rfl, hp, r_pieces⟩; (have c36 := k.1; have k := k.2; (NF.y_joinL O.leF h35 c36 (q (Txt.join (Str.ofString ";") z_pieces) k _ _ _ O.leB O.leF lF rfl))))))))))))))))

def m_law_number_of (a_word : Str) : W (Int) :=
  W.chk ((decide (a_word = (Str.ofString ""))) = false → a_word.length ≤ sizeLine) <|
  W.ite ((decide (a_word = (Str.ofString ""))) || (decide ((9 : Int) < (a_word.length : Int)))) (W.ok (-(1 : Int)))
  (W.chk (a_word.length ≤ sizeLine) <|
  W.chk ((decide ((1 : Int) < (a_word.length : Int))) = true → a_word.length ≤ sizeLine ∧ ∃ c, atI (tl a_word) (0 : Int) = some c) <|
  W.ite ((decide ((1 : Int) < (a_word.length : Int))) && (decide ((sg (cS a_word (0 : Int))) = (Str.ofString "0")))) (W.ok (-(1 : Int)))
  (W.for_ (tl a_word) () (fun (x7 : Nat) (s : Unit) =>
  W.ite (!decide (x7 ∈ tl (Str.ofString "0123456789"))) (W.ok (.rt (-(1 : Int))))
  (W.ok (.nx ()))) (fun (s : Unit) =>
  W.intS a_word fun n11 =>
  W.ok n11)))
abbrev NM_law_number_of : List Str := ["word", "sign"]
theorem sc_law_number_of : FnScope NM_law_number_of ["word"] (defScope s_law_number_of) := ⟨rfl, rfl, rfl, by decide +kernel, rfl, by decide +kernel, by decide +kernel⟩
theorem d_law_number_of (F : Fn0 K mg "_law_number_of" s_law_number_of) (T : Txt P K mg)  :
    Def P w K mg base 1 "_law_number_of" ["word"] (spW 1 (fun F vs (i : Str) => ∃ v0, vs = [v0] ∧ eStr.rep F v0 i) eInt (fun (i : Str) => m_law_number_of i)) := by
  refine Def.mk0 F sc_law_number_of (by first | exact NF.hl_spW | exact NF.hl_spWb | exact NF.hl_spWX) (fun _ _ _ _ _ _ us hl => match us, hl with | [_], _ => rfl) (fun cdv A outer s H vs Q E hr h => ?_)
  refine ⟨_, (pss_cons (ps_if (PW.pt (pw_or (pt_cmpR op_eq (pv 0) pe_str (nomark _)) (pw_or1 (pt_cmpR op_gt (pe_callB (id := "len") callLen (by rfl) T.b_len (by decide +kernel) (pa_cons (pv 0) pa_nil)) pe_int (nomark _)))))
      (pss_one (ps_ret (pe_un un_neg pe_int)))
      pss_nil)
      (pss_cons (ps_if (PW.pt (pw_and (pt_cmpR op_gt (pe_callB (id := "len") callLen (by rfl) T.b_len (by decide +kernel) (pa_cons (pv 0) pa_nil)) pe_int (nomark _)) (pw_and1 (pt_cmpR op_eq (pe_ix ix_str (pv 0) pe_int (fun _ _ => rfl)) pe_str (nomark _)))))
      (pss_one (ps_ret (pe_un un_neg pe_int)))
      pss_nil)
      (pss_cons (ps_for PassesOwn.never rfl (pi_str (pv 0)) (pg_name (i := 1) sc_law_number_of.nd rfl (Or.inl rfl))
      (pss_one (ps_if (pt_cmpR opNotInC (pv 1) pe_str (by rfl))
      (pss_one (ps_ret (pe_un un_neg pe_int)))
      pss_nil)))
      (pss_one (ps_ret (pe_callTy (T := "int") callIntS (by rfl) T.b_int (by decide +kernel) (pa_cons (pv 0) pa_nil))))))), ?_⟩
  try dsimp only [cxOf, Cx.nox, Cx.wish]
  obtain ⟨hl, F, a_word, K0, hF, ⟨_, rfl, rfl⟩, k, q⟩ := h
  have O := NF.Fz.start hF
  have lF := NF.Ex.rfl (B := H) (F := F)
  refine (NF.x_seq (NF.x_ifs (have c2 := k.1; have k := k.2; (NF.y_orT (fun Q q => (NF.x_test (NF.x_op (NF.x_var rfl (NF.x_c (NF.y_eqS (NF.x_bl q))))))) (fun g1 Q q => (NF.x_test (NF.x_op (NF.x_cb (NF.x_cons (NF.x_var rfl (NF.x_nil (NF.x_lenS (c2 g1) (NF.x_c (NF.x_I0 (NF.x_bl q))))))))))) (NF.x_itb (fun g13 => (have k := k.1 g13; ?_)) (fun g13 => (have k := k.2 g13; ?_)))))))
  · exact (NF.x_ret (NF.x_un (NF.x_c (NF.x_U (q (-(1 : Int)) k _ _ _ O.leB O.leF lF rfl)))))
  · refine NF.x_next ?_
    refine (NF.x_seq (NF.x_ifs (have c3 := k.1; have k := k.2; (have c5 := k.1; have k := k.2; (NF.y_andT (fun Q q => (NF.x_test (NF.x_op (NF.x_cb (NF.x_cons (NF.x_var rfl (NF.x_nil (NF.x_lenS (c3) (NF.x_c (NF.x_I0 (NF.x_bl q))))))))))) (fun g4 Q q => (NF.x_test (NF.x_op (NF.x_op (NF.x_var rfl (NF.x_c (NF.y_ixS (c5 g4).1 (c5 g4).2 (NF.x_c (NF.y_eqS (NF.x_bl q)))))))))) (NF.x_itb (fun g12 => (have k := k.1 g12; ?_)) (fun g12 => (have k := k.2 g12; ?_))))))))
    · exact (NF.x_ret (NF.x_un (NF.x_c (NF.x_U (q (-(1 : Int)) k _ _ _ O.leB O.leF lF rfl)))))
    · refine NF.x_next ?_
      refine (NF.x_seq (NF.x_for (NF.x_jS (NF.x_var rfl (NF.y_jC (F := F) (fun J T => (NF.y_for (σt := Unit) (fun (_s : Unit) (σ : L2.St) (F : Hp) (R : List (Addr × HO)) => ∃ u1 : Option V, σ = [some (.str a_word), u1] ∧ R = []) T O k ⟨_, rfl, rfl⟩ ?_ ?_)))))))
      · rintro x7 r _ _ F0 F _ H v8 lp6 ⟨u1, rfl, rfl⟩ l1 O h9 k
        have lp6 := Ex.trans lp6 l1
        have lF := Ex.trans lF lp6
        cases h9
        refine NF.x_name ?_
        refine (NF.x_ifs (NF.x_test (NF.x_op (NF.x_var rfl (NF.x_c (NF.x_notInC (NF.x_bl (NF.x_itb (fun g10 => (have k := k.1 g10; ?_)) (fun g10 => (have k := k.2 g10; ?_))))))))))
        · exact (NF.x_ret (NF.x_un (NF.x_c (NF.x_U (q (-(1 : Int)) k _ _ _ O.leB O.leF lF rfl)))))
        · refine NF.x_next ?_
          exact ⟨(), _, _, lp6, O, ⟨_, rfl, rfl⟩, k⟩
      · rintro _ _ F _ H l0 O ⟨u1, rfl, rfl⟩ k
        have lF := Ex.trans lF l0
        exact (NF.x_ret (NF.x_cb (NF.x_cons (NF.x_var rfl (NF.x_nil (Exists.elim k fun n11 hk => (have k := hk.2.2; (NF.x_intS hk.1 hk.2.1 (q n11 k _ _ _ O.leB O.leF lF rfl)))))))))

def m_law_state_of (a_piece : Str) : W (Option (List Int)) :=
  W.chk (((Str.ofString ",").length == 0) = false ∧ a_piece.length + 2 ≤ sizeLine) <|
  W.for_ (Txt.split a_piece (Str.ofString ",")) ([] : List Int) (fun (x7 : Str) (z_numbers : (List Int)) =>
  W.bind (m_law_number_of x7) fun y10 =>
  W.ite (decide (y10 < (0 : Int))) (W.ok (.rt none))
  (W.chk (z_numbers.length < sizeLine) <|
  W.ok (.nx (z_numbers ++ [y10])))) (fun (z_numbers : (List Int)) =>
  W.ok (some z_numbers))
abbrev NM_law_state_of : List Str := ["piece", "numbers", "word", "number"]
theorem sc_law_state_of : FnScope NM_law_state_of ["piece"] (defScope s_law_state_of) := ⟨rfl, rfl, rfl, by decide +kernel, rfl, by decide +kernel, by decide +kernel⟩
theorem d_law_state_of (F : Fn0 K mg "_law_state_of" s_law_state_of) (T : Txt P K mg) (D_law_number_of : Def P w K mg base 1 "_law_number_of" ["word"] (spW 1 (fun F vs (i : Str) => ∃ v0, vs = [v0] ∧ eStr.rep F v0 i) eInt (fun (i : Str) => m_law_number_of i))) :
    Def P w K mg base 2 "_law_state_of" ["piece"] (spW 1 (fun F vs (i : Str) => ∃ v0, vs = [v0] ∧ eStr.rep F v0 i) (eOpt (eTup eInt)) (fun (i : Str) => m_law_state_of i)) := by
  refine Def.mk0 F sc_law_state_of (by first | exact NF.hl_spW | exact NF.hl_spWb | exact NF.hl_spWX) (fun _ _ _ _ _ _ us hl => match us, hl with | [_], _ => rfl) (fun cdv A outer s H vs Q E hr h => ?_)
  refine ⟨_, (pss_cons (ps_set (i := 1) sc_law_state_of.nd rfl (Or.inl rfl) (pe_lst pa_nil))
      (pss_cons (ps_for PassesOwn.never rfl (pi_list (pe_bm PySem.F.plainAttrs_str PySem.F.slot_str_split PySem.F.type_str_split mtSplit (pv 0) (pa_cons pe_str pa_nil))) (pg_name (i := 2) sc_law_state_of.nd rfl (Or.inl rfl))
      (pss_cons (ps_set (i := 3) sc_law_state_of.nd rfl (Or.inl rfl) (pe_d D_law_number_of (hr.mono (by decide)) rfl (pa_cons (pv 2) pa_nil)))
      (pss_cons (ps_if (pt_cmpR op_lt (pv 3) pe_int (nomark _))
      (pss_one (ps_ret pe_non))
      pss_nil)
      (pss_one (ps_expr (pe_bm PySem.F.plainAttrs_list PySem.F.slot_list_append PySem.F.type_list_append mt_append (pv 1) (pa_cons (pv 3) pa_nil)))))))
      (pss_one (ps_ret (pe_callTy (T := "tuple") callTupleOf (by rfl) T.b_tuple (by decide +kernel) (pa_cons (pv 1) pa_nil)))))), ?_⟩
  try dsimp only [cxOf, Cx.nox, Cx.wish]
  obtain ⟨hl, F, a_piece, K0, hF, ⟨_, rfl, rfl⟩, k, q⟩ := h
  have O := NF.Fz.start hF
  have lF := NF.Ex.rfl (B := H) (F := F)
  refine (NF.x_seq (NF.x_asg (NF.x_lst (NF.x_nil (NF.y_lstM O (show 0 ≤ sizeLine by decide) (fun p2 H O => (have h1 : NF.RL (eInt.rep F) _ [] := .nil; (NF.x_name ?_))))))))
  refine (NF.x_seq (NF.x_for (NF.x_jL (NF.x_bm (NF.x_var rfl (NF.x_tyS (NF.x_cons (NF.x_c (NF.x_nil (have c3 := k.1; have k := k.2; (NF.y_splitF O c3.1 c3.2 (fun p5 F H h4 l0 O => (have h1 := h1.mono fun _ _ => Enc.mono eInt l0.le; (have lF := Ex.trans lF l0; (NF.y_jL O.leF h4 (fun J T => (NF.y_for (σt := (List Int)) (fun (z_numbers : (List Int)) (σ : L2.St) (F : Hp) (R : List (Addr × HO)) => ∃ vs_numbers : List V, ∃ u2 : Option V, ∃ u3 : Option V, σ = [some (.str a_piece), some (.ref p2), u2, u3] ∧ R = [(p2, HO.lst vs_numbers)] ∧ RL (eInt.rep F) vs_numbers z_numbers) T O k ⟨_, _, _, rfl, rfl, h1⟩ ?_ ?_)))))))))))))))))
  · rintro x7 r z_numbers _ F0 F _ H v8 lp6 ⟨vs_numbers, u2, u3, rfl, rfl, r_numbers⟩ l1 O h9 k
    have lp6 := Ex.trans lp6 l1
    have h4 := Enc.mono (eLst eStr) lp6.le h4
    have r_numbers := r_numbers.mono fun _ _ => Enc.mono eInt l1.le
    have lF := Ex.trans lF lp6
    cases h9
    refine NF.x_name ?_
    refine (NF.x_seq (NF.x_asg (NF.x_call (NF.x_cons (NF.x_var rfl (NF.x_nil (NF.use_spW (i := x7) O rfl ⟨_, rfl, rfl⟩ k (fun y10 v F H l0 O hv k => NF.byI v hv (have r_numbers := r_numbers.mono fun _ _ => Enc.mono eInt l0.le; (have lF := Ex.trans lF l0; (have lp6 := Ex.trans lp6 l0; (NF.x_name ?_))))))))))))
    refine (NF.x_seq (NF.x_ifs (NF.x_test (NF.x_op (NF.x_var rfl (NF.x_c (NF.x_I0 (NF.x_bl (NF.x_itb (fun g12 => (have k := k.1 g12; ?_)) (fun g12 => (have k := k.2 g12; ?_)))))))))))
    · exact (NF.x_ret (NF.x_c (q none k _ _ _ O.leB O.leF lF rfl)))
    · refine NF.x_next ?_
      refine (NF.x_drop (NF.x_bm (NF.x_var rfl (NF.x_tyL (O.get 0 rfl) (NF.x_cons (NF.x_var rfl (NF.x_nil (have c11 := k.1; have k := k.2; (NF.y_app2 O 0 rfl r_numbers c11 (fun H O => (have r_numbers := NF.RL.snoc (x := y10) r_numbers rfl; ?_)))))))))))
      exact ⟨(z_numbers ++ [y10]), _, _, lp6, O, ⟨_, _, _, rfl, rfl, r_numbers⟩, k⟩
  · rintro z_numbers _ F _ H l0 O ⟨vs_numbers, u2, u3, rfl, rfl, r_numbers⟩ k
    have h4 := Enc.mono (eLst eStr) l0.le h4
    have lF := Ex.trans lF l0
    exact (NF.x_ret (NF.x_cb (NF.x_cons (NF.x_var rfl (NF.x_nil (NF.y_tupOfM O 0 rfl r_numbers (fun p14 F H h13 l0 O => (have r_numbers := r_numbers.mono fun _ _ => Enc.mono eInt l0.le; (have lF := Ex.trans lF l0; (q (some z_numbers) k _ _ _ O.leB O.leF lF h13))))))))))

def m_law_strings_of (a_piece : Str) : W (Option (List Str)) :=
  W.chk (((Str.ofString ",").length == 0) = false ∧ a_piece.length + 2 ≤ sizeLine) <|
  W.for_ (Txt.split a_piece (Str.ofString ",")) ([] : List Str) (fun (x7 : Str) (z_strings : (List Str)) =>
  W.bind (m_law_letters_of x7) fun y10 =>
  W.onone y10 (W.ok (.rt none)) fun y13 =>
  W.chk (z_strings.length < sizeLine) <|
  W.ok (.nx (z_strings ++ [y13]))) (fun (z_strings : (List Str)) =>
  W.ok (some z_strings))
abbrev NM_law_strings_of : List Str := ["piece", "strings", "word", "letters"]
theorem sc_law_strings_of : FnScope NM_law_strings_of ["piece"] (defScope s_law_strings_of) := ⟨rfl, rfl, rfl, by decide +kernel, rfl, by decide +kernel, by decide +kernel⟩
theorem d_law_strings_of (F : Fn0 K mg "_law_strings_of" s_law_strings_of) (T : Txt P K mg) (D_law_letters_of : Def P w K mg base 1 "_law_letters_of" ["form"] (spW 1 (fun F vs (i : Str) => ∃ v0, vs = [v0] ∧ eStr.rep F v0 i) (eOpt eStr) (fun (i : Str) => m_law_letters_of i))) :
    Def P w K mg base 2 "_law_strings_of" ["piece"] (spW 1 (fun F vs (i : Str) => ∃ v0, vs = [v0] ∧ eStr.rep F v0 i) (eOpt (eTup eStr)) (fun (i : Str) => m_law_strings_of i)) := by
  refine Def.mk0 F sc_law_strings_of (by first | exact NF.hl_spW | exact NF.hl_spWb | exact NF.hl_spWX) (fun _ _ _ _ _ _ us hl => match us, hl with | [_], _ => rfl) (fun cdv A outer s H vs Q E hr h => ?_)
  refine ⟨_, (pss_cons (ps_set (i := 1) sc_law_strings_of.nd rfl (Or.inl rfl) (pe_lst pa_nil))
      (pss_cons (ps_for PassesOwn.never rfl (pi_list (pe_bm PySem.F.plainAttrs_str PySem.F.slot_str_split PySem.F.type_str_split mtSplit (pv 0) (pa_cons pe_str pa_nil))) (pg_name (i := 2) sc_law_strings_of.nd rfl (Or.inl rfl))
      (pss_cons (ps_set (i := 3) sc_law_strings_of.nd rfl (Or.inl rfl) (pe_d D_law_letters_of (hr.mono (by decide)) rfl (pa_cons (pv 2) pa_nil)))
      (pss_cons (ps_if (pt_cmpR opIsN (pv 3) pe_non (nomark _))
      (pss_one (ps_ret pe_non))
      pss_nil)
      (pss_one (ps_expr (pe_bm PySem.F.plainAttrs_list PySem.F.slot_list_append PySem.F.type_list_append mt_append (pv 1) (pa_cons (pv 3) pa_nil)))))))
      (pss_one (ps_ret (pe_callTy (T := "tuple") callTupleOf (by rfl) T.b_tuple (by decide +kernel) (pa_cons (pv 1) pa_nil)))))), ?_⟩
  try dsimp only [cxOf, Cx.nox, Cx.wish]
  obtain ⟨hl, F, a_piece, K0, hF, ⟨_, rfl, rfl⟩, k, q⟩ := h
  have O := NF.Fz.start hF
  have lF := NF.Ex.rfl (B := H) (F := F)
  refine (NF.x_seq (NF.x_asg (NF.x_lst (NF.x_nil (NF.y_lstM O (show 0 ≤ sizeLine by decide) (fun p2 H O => (have h1 : NF.RL (eStr.rep F) _ [] := .nil; (NF.x_name ?_))))))))
  refine (NF.x_seq (NF.x_for (NF.x_jL (NF.x_bm (NF.x_var rfl (NF.x_tyS (NF.x_cons (NF.x_c (NF.x_nil (have c3 := k.1; have k := k.2; (NF.y_splitF O c3.1 c3.2 (fun p5 F H h4 l0 O => (have h1 := h1.mono fun _ _ => Enc.mono eStr l0.le; (have lF := Ex.trans lF l0; (NF.y_jL O.leF h4 (fun J T => (NF.y_for (σt := (List Str)) (fun (z_strings : (List Str)) (σ : L2.St) (F : Hp) (R : List (Addr × HO)) => ∃ vs_strings : List V, ∃ u2 : Option V, ∃ u3 : Option V, σ = [some (.str a_piece), some (.ref p2), u2, u3] ∧ R = [(p2, HO.lst vs_strings)] ∧ RL (eStr.rep F) vs_strings z_strings) T O k ⟨_, _, _, rfl, rfl, h1⟩ ?_ ?_)))))))))))))))))
  · rintro x7 r z_strings _ F0 F _ H v8 lp6 ⟨vs_strings, u2, u3, rfl, rfl, r_strings⟩ l1 O h9 k
    have lp6 := Ex.trans lp6 l1
    have h4 := Enc.mono (eLst eStr) lp6.le h4
    have r_strings := r_strings.mono fun _ _ => Enc.mono eStr l1.le
    have lF := Ex.trans lF lp6
    cases h9
    refine NF.x_name ?_
    refine (NF.x_seq (NF.x_asg (NF.x_call (NF.x_cons (NF.x_var rfl (NF.x_nil (NF.use_spW (i := x7) O rfl ⟨_, rfl, rfl⟩ k (fun y10 v11 F H l0 O h12 k => (have r_strings := r_strings.mono fun _ _ => Enc.mono eStr l0.le; (have lF := Ex.trans lF l0; (have lp6 := Ex.trans lp6 l0; (NF.x_name ?_))))))))))))
    refine (NF.x_seq (NF.x_ifs (NF.x_test (NF.x_op (NF.x_var rfl (NF.x_c (NF.y_isN h12 (NF.x_bl (NF.x_itb (fun g14 => (have h15 := NF.noneR h12 (NF.isNone_t g14); have k := k.1 (NF.isNone_t g14); ?_)) (fun g14 => (Exists.elim (NF.isNone_f g14) fun y13 he => (have k := k.2 y13 he; NF.byS v11 (NF.someR h12 he) ?_))))))))))))
    · exact (NF.x_ret (NF.x_c (q none k _ _ _ O.leB O.leF lF rfl)))
    · refine NF.x_next ?_
      refine (NF.x_drop (NF.x_bm (NF.x_var rfl (NF.x_tyL (O.get 0 rfl) (NF.x_cons (NF.x_var rfl (NF.x_nil (have c16 := k.1; have k := k.2; (NF.y_app2 O 0 rfl r_strings c16 (fun H O => (have r_strings := NF.RL.snoc (x := y13) r_strings rfl; ?_)))))))))))
      exact ⟨(z_strings ++ [y13]), _, _, lp6, O, ⟨_, _, _, rfl, rfl, r_strings⟩, k⟩
  · rintro z_strings _ F _ H l0 O ⟨vs_strings, u2, u3, rfl, rfl, r_strings⟩ k
    have h4 := Enc.mono (eLst eStr) l0.le h4
    have lF := Ex.trans lF l0
    exact (NF.x_ret (NF.x_cb (NF.x_cons (NF.x_var rfl (NF.x_nil (NF.y_tupOfM O 0 rfl r_strings (fun p18 F H h17 l0 O => (have r_strings := r_strings.mono fun _ _ => Enc.mono eStr l0.le; (have lF := Ex.trans lF l0; (q (some z_strings) k _ _ _ O.leB O.leF lF h17))))))))))

def m_law_pairs_of (a_form : Str) : W (Option (List ((List Int) × (List Int)))) :=
  W.ite (decide (a_form = (Str.ofString "."))) (W.ok (some []))
  (W.chk (((Str.ofString ";").length == 0) = false ∧ a_form.length + 2 ≤ sizeLine) <|
  W.for_ (Txt.split a_form (Str.ofString ";")) ([] : List ((List Int) × (List Int))) (fun (x9 : Str) (z_rows : (List ((List Int) × (List Int)))) =>
  W.chk (((Str.ofString ">").length == 0) = false ∧ x9.length + 2 ≤ sizeLine) <|
  W.ite (!decide (((Txt.split x9 (Str.ofString ">")).length : Int) = (2 : Int))) (W.ok (.rt none))
  (W.at_ (Txt.split x9 (Str.ofString ">")) (0 : Int) fun x15 =>
  W.bind (m_law_state_of x15) fun y16 =>
  W.at_ (Txt.split x9 (Str.ofString ">")) (1 : Int) fun x19 =>
  W.bind (m_law_state_of x19) fun y20 =>
  W.onone y16 (W.ok (.rt none)) fun y23 =>
  W.onone y20 (W.ok (.rt none)) fun y27 =>
  W.chk (z_rows.length < sizeLine) <|
  W.ok (.nx (z_rows ++ [(y23, y27)])))) (fun (z_rows : (List ((List Int) × (List Int)))) =>
  W.ok (some z_rows)))
abbrev NM_law_pairs_of : List Str := ["form", "rows", "piece", "parts", "state", "other"]
theorem sc_law_pairs_of : FnScope NM_law_pairs_of ["form"] (defScope s_law_pairs_of) := ⟨rfl, rfl, rfl, by decide +kernel, rfl, by decide +kernel, by decide +kernel⟩
theorem d_law_pairs_of (F : Fn0 K mg "_law_pairs_of" s_law_pairs_of) (T : Txt P K mg) (D_law_state_of : Def P w K mg base 2 "_law_state_of" ["piece"] (spW 1 (fun F vs (i : Str) => ∃ v0, vs = [v0] ∧ eStr.rep F v0 i) (eOpt (eTup eInt)) (fun (i : Str) => m_law_state_of i))) :
    Def P w K mg base 3 "_law_pairs_of" ["form"] (spW 1 (fun F vs (i : Str) => ∃ v0, vs = [v0] ∧ eStr.rep F v0 i) (eOpt (eTup (eP2 (eTup eInt) (eTup eInt)))) (fun (i : Str) => m_law_pairs_of i)) := by
  refine Def.mk0 F sc_law_pairs_of (by first | exact NF.hl_spW | exact NF.hl_spWb | exact NF.hl_spWX) (fun _ _ _ _ _ _ us hl => match us, hl with | [_], _ => rfl) (fun cdv A outer s H vs Q E hr h => ?_)
  refine ⟨_, (pss_cons (ps_set (i := 1) sc_law_pairs_of.nd rfl (Or.inl rfl) (pe_lst pa_nil))
      (pss_cons (ps_if (pt_cmpR op_eq (pv 0) pe_str (nomark _))
      (pss_one (ps_ret (pe_tup pa_nil)))
      pss_nil)
      (pss_cons (ps_for PassesOwn.never rfl (pi_list (pe_bm PySem.F.plainAttrs_str PySem.F.slot_str_split PySem.F.type_str_split mtSplit (pv 0) (pa_cons pe_str pa_nil))) (pg_name (i := 2) sc_law_pairs_of.nd rfl (Or.inl rfl))
      (pss_cons (ps_set (i := 3) sc_law_pairs_of.nd rfl (Or.inl rfl) (pe_bm PySem.F.plainAttrs_str PySem.F.slot_str_split PySem.F.type_str_split mtSplit (pv 2) (pa_cons pe_str pa_nil)))
      (pss_cons (ps_if (pt_cmpR op_ne (pe_callB (id := "len") callLen (by rfl) T.b_len (by decide +kernel) (pa_cons (pv 3) pa_nil)) pe_int (nomark _))
      (pss_one (ps_ret pe_non))
      pss_nil)
      (pss_cons (ps_set (i := 4) sc_law_pairs_of.nd rfl (Or.inl rfl) (pe_d D_law_state_of (hr.mono (by decide)) rfl (pa_cons (pe_ix ix_list (pv 3) pe_int (fun _ _ => rfl)) pa_nil)))
      (pss_cons (ps_set (i := 5) sc_law_pairs_of.nd rfl (Or.inl rfl) (pe_d D_law_state_of (hr.mono (by decide)) rfl (pa_cons (pe_ix ix_list (pv 3) pe_int (fun _ _ => rfl)) pa_nil)))
      (pss_cons (ps_if (PW.pt (pw_or (pt_cmpR opIsN (pv 4) pe_non (nomark _)) (pw_or1 (pt_cmpR opIsN (pv 5) pe_non (nomark _)))))
      (pss_one (ps_ret pe_non))
      pss_nil)
      (pss_one (ps_expr (pe_bm PySem.F.plainAttrs_list PySem.F.slot_list_append PySem.F.type_list_append mt_append (pv 1) (pa_cons (pe_tup (pa_cons (pv 4) (pa_cons (pv 5) pa_nil))) pa_nil))))))))))
      (pss_one (ps_ret (pe_callTy (T := "tuple") callTupleOf (by rfl) T.b_tuple (by decide +kernel) (pa_cons (pv 1) pa_nil))))))), ?_⟩
  try dsimp only [cxOf, Cx.nox, Cx.wish]
  obtain ⟨hl, F, a_form, K0, hF, ⟨_, rfl, rfl⟩, k, q⟩ := h
  have O := NF.Fz.start hF
  have lF := NF.Ex.rfl (B := H) (F := F)
  refine (NF.x_seq (NF.x_asg (NF.x_lst (NF.x_nil (NF.y_lstM O (show 0 ≤ sizeLine by decide) (fun p2 H O => (have h1 : NF.RL ((eP2 (eTup eInt) (eTup eInt)).rep F) _ [] := .nil; (NF.x_name ?_))))))))
  refine (NF.x_seq (NF.x_ifs (NF.x_test (NF.x_op (NF.x_var rfl (NF.x_c (NF.y_eqS (NF.x_bl (NF.x_itb (fun g37 => (have k := k.1 g37; ?_)) (fun g37 => (have k := k.2 g37; ?_)))))))))))
  · exact (NF.x_ret (NF.x_tup (NF.x_nil (NF.y_tup O (show 0 ≤ sizeLine by decide) (fun p4 F H hp l0 O => (have h1 := h1.mono fun _ _ => Enc.mono (eP2 (eTup eInt) (eTup eInt)) l0.le; (have lF := Ex.trans lF l0; (have h3 : (eTup (eP2 (eTup eInt) (eTup eInt))).rep F (.ref p4) [] := ⟨_, _, rfl, hp, .nil⟩; (q (some []) k _ _ _ O.leB O.leF lF h3)))))))))
  · refine NF.x_next ?_
    refine (NF.x_seq (NF.x_for (NF.x_jL (NF.x_bm (NF.x_var rfl (NF.x_tyS (NF.x_cons (NF.x_c (NF.x_nil (have c5 := k.1; have k := k.2; (NF.y_splitF O c5.1 c5.2 (fun p7 F H h6 l0 O => (have h1 := h1.mono fun _ _ => Enc.mono (eP2 (eTup eInt) (eTup eInt)) l0.le; (have lF := Ex.trans lF l0; (NF.y_jL O.leF h6 (fun J T => (NF.y_for (σt := (List ((List Int) × (List Int)))) (fun (z_rows : (List ((List Int) × (List Int)))) (σ : L2.St) (F : Hp) (R : List (Addr × HO)) => ∃ vs_rows : List V, ∃ u2 : Option V, ∃ u3 : Option V, ∃ u4 : Option V, ∃ u5 : Option V, σ = [some (.str a_form), some (.ref p2), u2, u3, u4, u5] ∧ R = [(p2, HO.lst vs_rows)] ∧ RL ((eP2 (eTup eInt) (eTup eInt)).rep F) vs_rows z_rows) T O k ⟨_, _, _, _, _, rfl, rfl, h1⟩ ?_ ?_)))))))))))))))))
    · rintro x9 r z_rows _ F0 F _ H v10 lp8 ⟨vs_rows, u2, u3, u4, u5, rfl, rfl, r_rows⟩ l1 O h11 k
      have lp8 := Ex.trans lp8 l1
      have h6 := Enc.mono (eLst eStr) lp8.le h6
      have r_rows := r_rows.mono fun _ _ => Enc.mono (eP2 (eTup eInt) (eTup eInt)) l1.le
      have lF := Ex.trans lF lp8
      cases h11
      refine NF.x_name ?_
      refine (NF.x_seq (NF.x_asg (NF.x_bm (NF.x_var rfl (NF.x_tyS (NF.x_cons (NF.x_c (NF.x_nil (have c12 := k.1; have k := k.2; (NF.y_splitF O c12.1 c12.2 (fun p14 F H h13 l0 O => (have r_rows := r_rows.mono fun _ _ => Enc.mono (eP2 (eTup eInt) (eTup eInt)) l0.le; (have lF := Ex.trans lF l0; (have lp8 := Ex.trans lp8 l0; (NF.x_name ?_)))))))))))))))
      refine (NF.x_seq (NF.x_ifs (NF.x_test (NF.x_op (NF.x_cb (NF.x_cons (NF.x_var rfl (NF.x_nil (NF.y_lenL O.leF h13 (NF.x_c (NF.y_neI (NF.x_bl (NF.x_itb (fun g34 => (have k := k.1 g34; ?_)) (fun g34 => (have k := k.2 g34; ?_)))))))))))))))
      · exact (NF.x_ret (NF.x_c (q none k _ _ _ O.leB O.leF lF rfl)))
      · refine NF.x_next ?_
        refine (NF.x_seq (NF.x_asg (NF.x_call (NF.x_cons (NF.x_op (NF.x_var rfl (NF.x_c (Exists.elim k fun x15 hk => (have k := hk.2; (NF.y_ixL O.leF h13 hk.1 (fun u hu => NF.byS u hu (NF.x_nil (NF.use_spW (i := x15) O rfl ⟨_, rfl, rfl⟩ k (fun y16 v17 F H l0 O h18 k => (have r_rows := r_rows.mono fun _ _ => Enc.mono (eP2 (eTup eInt) (eTup eInt)) l0.le; (have h13 := Enc.mono (eLst eStr) l0.le h13; (have lF := Ex.trans lF l0; (have lp8 := Ex.trans lp8 l0; (NF.x_name ?_)))))))))))))))))))
        refine (NF.x_seq (NF.x_asg (NF.x_call (NF.x_cons (NF.x_op (NF.x_var rfl (NF.x_c (Exists.elim k fun x19 hk => (have k := hk.2; (NF.y_ixL O.leF h13 hk.1 (fun u hu => NF.byS u hu (NF.x_nil (NF.use_spW (i := x19) O rfl ⟨_, rfl, rfl⟩ k (fun y20 v21 F H l0 O h22 k => (have r_rows := r_rows.mono fun _ _ => Enc.mono (eP2 (eTup eInt) (eTup eInt)) l0.le; (have h13 := Enc.mono (eLst eStr) l0.le h13; (have h18 := Enc.mono (eOpt (eTup eInt)) l0.le h18; (have lF := Ex.trans lF l0; (have lp8 := Ex.trans lp8 l0; (NF.x_name ?_))))))))))))))))))))
        refine (NF.x_seq (NF.x_ifs (NF.x_or (NF.x_test (NF.x_op (NF.x_var rfl (NF.x_c (NF.y_isN h18 (NF.x_bl (NF.x_itb (fun g24 => (have h25 := NF.noneR h18 (NF.isNone_t g24); have k := k.1 (NF.isNone_t g24); (NF.x_tt ?_))) (fun g24 => (Exists.elim (NF.isNone_f g24) fun y23 he => (have h26 := NF.someR h18 he; have k := k.2 y23 he; (NF.x_test (NF.x_op (NF.x_var rfl (NF.x_c (NF.y_isN h22 (NF.x_bl (NF.x_itb (fun g28 => (have h29 := NF.noneR h22 (NF.isNone_t g28); have k := k.1 (NF.isNone_t g28); ?_)) (fun g28 => (Exists.elim (NF.isNone_f g28) fun y27 he => (have h30 := NF.someR h22 he; have k := k.2 y27 he; ?_)))))))))))))))))))))))
        · exact (NF.x_ret (NF.x_c (q none k _ _ _ O.leB O.leF lF rfl)))
        · exact (NF.x_ret (NF.x_c (q none k _ _ _ O.leB O.leF lF rfl)))
        · refine NF.x_next ?_
          refine (NF.x_drop (NF.x_bm (NF.x_var rfl (NF.x_tyL (O.get 0 rfl) (NF.x_cons (NF.x_tup (NF.x_cons (NF.x_var rfl (NF.x_cons (NF.x_var rfl (NF.x_nil (NF.y_tup O (show 2 ≤ sizeLine by decide) (fun p32 F H hp l0 O => (have r_rows := r_rows.mono fun _ _ => Enc.mono (eP2 (eTup eInt) (eTup eInt)) l0.le; (have h13 := Enc.mono (eLst eStr) l0.le h13; (have h26 := Enc.mono (eTup eInt) l0.le h26; (have h30 := Enc.mono (eTup eInt) l0.le h30; (have lF := Ex.trans lF l0; (have lp8 := Ex.trans lp8 l0; (have h31 : (eP2 (eTup eInt) (eTup eInt)).rep F (.ref p32) (y23, y27) := ⟨_, _, _, rfl, hp, h26, h30⟩; (NF.x_nil (have c33 := k.1; have k := k.2; (NF.y_app2 O 0 rfl r_rows c33 (fun H O => (have r_rows := NF.RL.snoc (x := (y23, y27)) r_rows h31; ?_)))))))))))))))))))))))))
          exact ⟨(z_rows ++ [(y23, y27)]), _, _, lp8, O, ⟨_, _, _, _, _, rfl, rfl, r_rows⟩, k⟩
    · rintro z_rows _ F _ H l0 O ⟨vs_rows, u2, u3, u4, u5, rfl, rfl, r_rows⟩ k
      have h6 := Enc.mono (eLst eStr) l0.le h6
      have lF := Ex.trans lF l0
      exact (NF.x_ret (NF.x_cb (NF.x_cons (NF.x_var rfl (NF.x_nil (NF.y_tupOfM O 0 rfl r_rows (fun p36 F H h35 l0 O => (have r_rows := r_rows.mono fun _ _ => Enc.mono (eP2 (eTup eInt) (eTup eInt)) l0.le; (have lF := Ex.trans lF l0; (q (some z_rows) k _ _ _ O.leB O.leF lF h35))))))))))

def m_law_rows_of (a_form : Str) : W (Option (List ((List Int) × (List Int) × (List Str)))) :=
  W.ite (decide (a_form = (Str.ofString "."))) (W.ok (some []))
  (W.chk (((Str.ofString ";").length == 0) = false ∧ a_form.length + 2 ≤ sizeLine) <|
  W.for_ (Txt.split a_form (Str.ofString ";")) ([] : List ((List Int) × (List Int) × (List Str))) (fun (x9 : Str) (z_rows : (List ((List Int) × (List Int) × (List Str)))) =>
  W.chk (((Str.ofString ">").length == 0) = false ∧ x9.length + 2 ≤ sizeLine) <|
  W.ite (!decide (((Txt.split x9 (Str.ofString ">")).length : Int) = (3 : Int))) (W.ok (.rt none))
  (W.at_ (Txt.split x9 (Str.ofString ">")) (0 : Int) fun x15 =>
  W.bind (m_law_state_of x15) fun y16 =>
  W.at_ (Txt.split x9 (Str.ofString ">")) (1 : Int) fun x19 =>
  W.bind (m_law_state_of x19) fun y20 =>
  W.at_ (Txt.split x9 (Str.ofString ">")) (2 : Int) fun x23 =>
  W.bind (m_law_strings_of x23) fun y24 =>
  W.onone y16 (W.ok (.rt none)) fun y27 =>
  W.onone y20 (W.ok (.rt none)) fun y31 =>
  W.onone y24 (W.ok (.rt none)) fun y35 =>
  W.chk (z_rows.length < sizeLine) <|
  W.ok (.nx (z_rows ++ [(y27, y31, y35)])))) (fun (z_rows : (List ((List Int) × (List Int) × (List Str)))) =>
  W.ok (some z_rows)))
abbrev NM_law_rows_of : List Str := ["form", "rows", "piece", "parts", "state", "other", "strings"]
theorem sc_law_rows_of : FnScope NM_law_rows_of ["form"] (defScope s_law_rows_of) := ⟨rfl, rfl, rfl, by decide +kernel, rfl, by decide +kernel, by decide +kernel⟩
theorem d_law_rows_of (F : Fn0 K mg "_law_rows_of" s_law_rows_of) (T : Txt P K mg) (D_law_state_of : Def P w K mg base 2 "_law_state_of" ["piece"] (spW 1 (fun F vs (i : Str) => ∃ v0, vs = [v0] ∧ eStr.rep F v0 i) (eOpt (eTup eInt)) (fun (i : Str) => m_law_state_of i))) (D_law_strings_of : Def P w K mg base 2 "_law_strings_of" ["piece"] (spW 1 (fun F vs (i : Str) => ∃ v0, vs = [v0] ∧ eStr.rep F v0 i) (eOpt (eTup eStr)) (fun (i : Str) => m_law_strings_of i))) :
    Def P w K mg base 3 "_law_rows_of" ["form"] (spW 1 (fun F vs (i : Str) => ∃ v0, vs = [v0] ∧ eStr.rep F v0 i) (eOpt (eTup (eP3 (eTup eInt) (eTup eInt) (eTup eStr)))) (fun (i : Str) => m_law_rows_of i)) := by
  refine Def.mk0 F sc_law_rows_of (by first | exact NF.hl_spW | exact NF.hl_spWb | exact NF.hl_spWX) (fun _ _ _ _ _ _ us hl => match us, hl with | [_], _ => rfl) (fun cdv A outer s H vs Q E hr h => ?_)
  refine ⟨_, (pss_cons (ps_set (i := 1) sc_law_rows_of.nd rfl (Or.inl rfl) (pe_lst pa_nil))
      (pss_cons (ps_if (pt_cmpR op_eq (pv 0) pe_str (nomark _))
      (pss_one (ps_ret (pe_tup pa_nil)))
      pss_nil)
      (pss_cons (ps_for PassesOwn.never rfl (pi_list (pe_bm PySem.F.plainAttrs_str PySem.F.slot_str_split PySem.F.type_str_split mtSplit (pv 0) (pa_cons pe_str pa_nil))) (pg_name (i := 2) sc_law_rows_of.nd rfl (Or.inl rfl))
      (pss_cons (ps_set (i := 3) sc_law_rows_of.nd rfl (Or.inl rfl) (pe_bm PySem.F.plainAttrs_str PySem.F.slot_str_split PySem.F.type_str_split mtSplit (pv 2) (pa_cons pe_str pa_nil)))
      (pss_cons (ps_if (pt_cmpR op_ne (pe_callB (id := "len") callLen (by rfl) T.b_len (by decide +kernel) (pa_cons (pv 3) pa_nil)) pe_int (nomark _))
      (pss_one (ps_ret pe_non))
      pss_nil)
      (pss_cons (ps_set (i := 4) sc_law_rows_of.nd rfl (Or.inl rfl) (pe_d D_law_state_of (hr.mono (by decide)) rfl (pa_cons (pe_ix ix_list (pv 3) pe_int (fun _ _ => rfl)) pa_nil)))
      (pss_cons (ps_set (i := 5) sc_law_rows_of.nd rfl (Or.inl rfl) (pe_d D_law_state_of (hr.mono (by decide)) rfl (pa_cons (pe_ix ix_list (pv 3) pe_int (fun _ _ => rfl)) pa_nil)))
      (pss_cons (ps_set (i := 6) sc_law_rows_of.nd rfl (Or.inl rfl) (pe_d D_law_strings_of (hr.mono (by decide)) rfl (pa_cons (pe_ix ix_list (pv 3) pe_int (fun _ _ => rfl)) pa_nil)))
      (pss_cons (ps_if (PW.pt (pw_or (pt_cmpR opIsN (pv 4) pe_non (nomark _)) (pw_or (pt_cmpR opIsN (pv 5) pe_non (nomark _)) (pw_or1 (pt_cmpR opIsN (pv 6) pe_non (nomark _))))))
      (pss_one (ps_ret pe_non))
      pss_nil)
      (pss_one (ps_expr (pe_bm PySem.F.plainAttrs_list PySem.F.slot_list_append PySem.F.type_list_append mt_append (pv 1) (pa_cons (pe_tup (pa_cons (pv 4) (pa_cons (pv 5) (pa_cons (pv 6) pa_nil)))) pa_nil)))))))))))
      (pss_one (ps_ret (pe_callTy (T := "tuple") callTupleOf (by rfl) T.b_tuple (by decide +kernel) (pa_cons (pv 1) pa_nil))))))), ?_⟩
  try dsimp only [cxOf, Cx.nox, Cx.wish]
  obtain ⟨hl, F, a_form, K0, hF, ⟨_, rfl, rfl⟩, k, q⟩ := h
  have O := NF.Fz.start hF
  have lF := NF.Ex.rfl (B := H) (F := F)
  refine (NF.x_seq (NF.x_asg (NF.x_lst (NF.x_nil (NF.y_lstM O (show 0 ≤ sizeLine by decide) (fun p2 H O => (have h1 : NF.RL ((eP3 (eTup eInt) (eTup eInt) (eTup eStr)).rep F) _ [] := .nil; (NF.x_name ?_))))))))
  refine (NF.x_seq (NF.x_ifs (NF.x_test (NF.x_op (NF.x_var rfl (NF.x_c (NF.y_eqS (NF.x_bl (NF.x_itb (fun g45 => (have k := k.1 g45; ?_)) (fun g45 => (have k := k.2 g45; ?_)))))))))))
  · exact (NF.x_ret (NF.x_tup (NF.x_nil (NF.y_tup O (show 0 ≤ sizeLine by decide) (fun p4 F H hp l0 O => (have h1 := h1.mono fun _ _ => Enc.mono (eP3 (eTup eInt) (eTup eInt) (eTup eStr)) l0.le; (have lF := Ex.trans lF l0; (have h3 : (eTup (eP3 (eTup eInt) (eTup eInt) (eTup eStr))).rep F (.ref p4) [] := ⟨_, _, rfl, hp, .nil⟩; (q (some []) k _ _ _ O.leB O.leF lF h3)))))))))
  · refine NF.x_next ?_
    refine (NF.x_seq (NF.x_for (NF.x_jL (NF.x_bm (NF.x_var rfl (NF.x_tyS (NF.x_cons (NF.x_c (NF.x_nil (have c5 := k.1; have k := k.2; (NF.y_splitF O c5.1 c5.2 (fun p7 F H h6 l0 O => (have h1 := h1.mono fun _ _ => Enc.mono (eP3 (eTup eInt) (eTup eInt) (eTup eStr)) l0.le; (have lF := Ex.trans lF l0; (NF.y_jL O.leF h6 (fun J T => (NF.y_for (σt := (List ((List Int) × (List Int) × (List Str)))) (fun (z_rows : (List ((List Int) × (List Int) × (List Str)))) (σ : L2.St) (F : Hp) (R : List (Addr × HO)) => ∃ vs_rows : List V, ∃ u2 : Option V, ∃ u3 : Option V, ∃ u4 : Option V, ∃ u5 : Option V, ∃ u6 : Option V, σ = [some (.str a_form), some (.ref p2), u2, u3, u4, u5, u6] ∧ R = [(p2, HO.lst vs_rows)] ∧ RL ((eP3 (eTup eInt) (eTup eInt) (eTup eStr)).rep F) vs_rows z_rows) T O k ⟨_, _, _, _, _, _, rfl, rfl, h1⟩ ?_ ?_)))))))))))))))))
    · rintro x9 r z_rows _ F0 F _ H v10 lp8 ⟨vs_rows, u2, u3, u4, u5, u6, rfl, rfl, r_rows⟩ l1 O h11 k
      have lp8 := Ex.trans lp8 l1
      have h6 := Enc.mono (eLst eStr) lp8.le h6
      have r_rows := r_rows.mono fun _ _ => Enc.mono (eP3 (eTup eInt) (eTup eInt) (eTup eStr)) l1.le
      have lF := Ex.trans lF lp8
      cases h11
      refine NF.x_name ?_
      refine (NF.x_seq (NF.x_asg (NF.x_bm (NF.x_var rfl (NF.x_tyS (NF.x_cons (NF.x_c (NF.x_nil (have c12 := k.1; have k := k.2; (NF.y_splitF O c12.1 c12.2 (fun p14 F H h13 l0 O => (have r_rows := r_rows.mono fun _ _ => Enc.mono (eP3 (eTup eInt) (eTup eInt) (eTup eStr)) l0.le; (have lF := Ex.trans lF l0; (have lp8 := Ex.trans lp8 l0; (NF.x_name ?_)))))))))))))))
      refine (NF.x_seq (NF.x_ifs (NF.x_test (NF.x_op (NF.x_cb (NF.x_cons (NF.x_var rfl (NF.x_nil (NF.y_lenL O.leF h13 (NF.x_c (NF.y_neI (NF.x_bl (NF.x_itb (fun g42 => (have k := k.1 g42; ?_)) (fun g42 => (have k := k.2 g42; ?_)))))))))))))))
      · exact (NF.x_ret (NF.x_c (q none k _ _ _ O.leB O.leF lF rfl)))
      · refine NF.x_next ?_
        refine (NF.x_seq (NF.x_asg (NF.x_call (NF.x_cons (NF.x_op (NF.x_var rfl (NF.x_c (Exists.elim k fun x15 hk => (have k := hk.2; (NF.y_ixL O.leF h13 hk.1 (fun u hu => NF.byS u hu (NF.x_nil (NF.use_spW (i := x15) O rfl ⟨_, rfl, rfl⟩ k (fun y16 v17 F H l0 O h18 k => (have r_rows := r_rows.mono fun _ _ => Enc.mono (eP3 (eTup eInt) (eTup eInt) (eTup eStr)) l0.le; (have h13 := Enc.mono (eLst eStr) l0.le h13; (have lF := Ex.trans lF l0; (have lp8 := Ex.trans lp8 l0; (NF.x_name ?_)))))))))))))))))))
        refine (NF.x_seq (NF.x_asg (NF.x_call (NF.x_cons (NF.x_op (NF.x_var rfl (NF.x_c (Exists.elim k fun x19 hk => (have k := hk.2; (NF.y_ixL O.leF h13 hk.1 (fun u hu => NF.byS u hu (NF.x_nil (NF.use_spW (i := x19) O rfl ⟨_, rfl, rfl⟩ k (fun y20 v21 F H l0 O h22 k => (have r_rows := r_rows.mono fun _ _ => Enc.mono (eP3 (eTup eInt) (eTup eInt) (eTup eStr)) l0.le; (have h13 := Enc.mono (eLst eStr) l0.le h13; (have h18 := Enc.mono (eOpt (eTup eInt)) l0.le h18; (have lF := Ex.trans lF l0; (have lp8 := Ex.trans lp8 l0; (NF.x_name ?_))))))))))))))))))))
        refine (NF.x_seq (NF.x_asg (NF.x_call (NF.x_cons (NF.x_op (NF.x_var rfl (NF.x_c (Exists.elim k fun x23 hk => (have k := hk.2; (NF.y_ixL O.leF h13 hk.1 (fun u hu => NF.byS u hu (NF.x_nil (NF.use_spW (i := x23) O rfl ⟨_, rfl, rfl⟩ k (fun y24 v25 F H l0 O h26 k => (have r_rows := r_rows.mono fun _ _ => Enc.mono (eP3 (eTup eInt) (eTup eInt) (eTup eStr)) l0.le; (have h13 := Enc.mono (eLst eStr) l0.le h13; (have h18 := Enc.mono (eOpt (eTup eInt)) l0.le h18; (have h22 := Enc.mono (eOpt (eTup eInt)) l0.le h22; (have lF := Ex.trans lF l0; (have lp8 := Ex.trans lp8 l0; (NF.x_name ?_)))))))))))))))))))))
        refine (NF.x_seq (NF.x_ifs (NF.x_or (NF.x_test (NF.x_op (NF.x_var rfl (NF.x_c (NF.y_isN h18 (NF.x_bl (NF.x_itb (fun g28 => (have h29 := NF.noneR h18 (NF.isNone_t g28); have k := k.1 (NF.isNone_t g28); (NF.x_tt ?_))) (fun g28 => (Exists.elim (NF.isNone_f g28) fun y27 he => (have h30 := NF.someR h18 he; have k := k.2 y27 he; (NF.x_or (NF.x_test (NF.x_op (NF.x_var rfl (NF.x_c (NF.y_isN h22 (NF.x_bl (NF.x_itb (fun g32 => (have h33 := NF.noneR h22 (NF.isNone_t g32); have k := k.1 (NF.isNone_t g32); (NF.x_tt ?_))) (fun g32 => (Exists.elim (NF.isNone_f g32) fun y31 he => (have h34 := NF.someR h22 he; have k := k.2 y31 he; (NF.x_test (NF.x_op (NF.x_var rfl (NF.x_c (NF.y_isN h26 (NF.x_bl (NF.x_itb (fun g36 => (have h37 := NF.noneR h26 (NF.isNone_t g36); have k := k.1 (NF.isNone_t g36); ?_)) (fun g36 => (Exists.elim (NF.isNone_f g36) fun y35 he => (have h38 := NF.someR h26 he; have k := k.2 y35 he; ?_))))))))))))))))))))))))))))))))))
        · exact (NF.x_ret (NF.x_c (q none k _ _ _ O.leB O.leF lF rfl)))
        · exact (NF.x_ret (NF.x_c (q none k _ _ _ O.leB O.leF lF rfl)))
        · exact (NF.x_ret (NF.x_c (q none k _ _ _ O.leB O.leF lF rfl)))
        · refine NF.x_next ?_
          refine (NF.x_drop (NF.x_bm (NF.x_var rfl (NF.x_tyL (O.get 0 rfl) (NF.x_cons (NF.x_tup (NF.x_cons (NF.x_var rfl (NF.x_cons (NF.x_var rfl (NF.x_cons (NF.x_var rfl (NF.x_nil (NF.y_tup O (show 3 ≤ sizeLine by decide) (fun p40 F H hp l0 O => (have r_rows := r_rows.mono fun _ _ => Enc.mono (eP3 (eTup eInt) (eTup eInt) (eTup eStr)) l0.le; (have h13 := Enc.mono (eLst eStr) l0.le h13; (have h30 := Enc.mono (eTup eInt) l0.le h30; (have h34 := Enc.mono (eTup eInt) l0.le h34; (have h38 := Enc.mono (eTup eStr) l0.le h38; (have lF := Ex.trans lF l0; (have lp8 := Ex.trans lp8 l0; (have h39 : (eP3 (eTup eInt) (eTup eInt) (eTup eStr)).rep F (.ref p40) (y27, y31, y35) := ⟨_, _, _, _, rfl, hp, h30, h34, h38⟩; (NF.x_nil (have c41 := k.1; have k := k.2; (NF.y_app2 O 0 rfl r_rows c41 (fun H O => (have r_rows := NF.RL.snoc (x := (y27, y31, y35)) r_rows h39; ?_))))))))))))))))))))))))))))
          exact ⟨(z_rows ++ [(y27, y31, y35)]), _, _, lp8, O, ⟨_, _, _, _, _, _, rfl, rfl, r_rows⟩, k⟩
    · rintro z_rows _ F _ H l0 O ⟨vs_rows, u2, u3, u4, u5, u6, rfl, rfl, r_rows⟩ k
      have h6 := Enc.mono (eLst eStr) l0.le h6
      have lF := Ex.trans lF l0
      exact (NF.x_ret (NF.x_cb (NF.x_cons (NF.x_var rfl (NF.x_nil (NF.y_tupOfM O 0 rfl r_rows (fun p44 F H h43 l0 O => (have r_rows := r_rows.mono fun _ _ => Enc.mono (eP3 (eTup eInt) (eTup eInt) (eTup eStr)) l0.le; (have lF := Ex.trans lF l0; (q (some z_rows) k _ _ _ O.leB O.leF lF h43))))))))))

def m_law_runs (a_form : Str) : W (List (Int × Int)) :=
  W.chk (a_form.length ≤ sizeLine) <|
  W.chk (-(2 ^ 62) ≤ ((a_form.length : Int) + (1 : Int)) ∧ ((a_form.length : Int) + (1 : Int)) < 2 ^ 62) <|
  W.for_ (rngT 0 ((a_form.length : Int) + (1 : Int))) ((-(1 : Int)), ([] : List (Int × Int))) (fun (x6 : Int) (s : Int × (List (Int × Int))) =>
  (fun (z_start : Int) (z_runs : List (Int × Int)) =>
  W.chk (a_form.length ≤ sizeLine) <|
  W.chk ((decide (x6 < (a_form.length : Int))) = true → a_form.length ≤ sizeLine ∧ ∃ c, atI (tl a_form) x6 = some c) <|
  W.bind (W.ite (((decide (x6 < (a_form.length : Int))) && (decide ((cS a_form x6) ∈ tl (Str.ofString "0123456789")))) && (decide (z_start < (0 : Int)))) (W.ok x6)
  (W.ok z_start)) fun z_start =>
  W.ite ((!((decide (x6 < (a_form.length : Int))) && (decide ((cS a_form x6) ∈ tl (Str.ofString "0123456789"))))) && (decide ((0 : Int) ≤ z_start))) (W.chk (z_runs.length < sizeLine) <|
  W.ok (.nx ((-(1 : Int)), (z_runs ++ [(z_start, x6)]))))
  (W.ok (.nx (z_start, z_runs)))) s.1 s.2) (fun (s : Int × (List (Int × Int))) =>
  (fun (z_start : Int) (z_runs : List (Int × Int)) =>
  W.ok z_runs) s.1 s.2)
abbrev NM_law_runs : List Str := ["form", "runs", "start", "at", "digit"]
theorem sc_law_runs : FnScope NM_law_runs ["form"] (defScope s_law_runs) := ⟨rfl, rfl, rfl, by decide +kernel, rfl, by decide +kernel, by decide +kernel⟩
theorem d_law_runs (F : Fn0 K mg "_law_runs" s_law_runs) (T : Txt P K mg)  :
    Def P w K mg base 1 "_law_runs" ["form"] (spW 1 (fun F vs (i : Str) => ∃ v0, vs = [v0] ∧ eStr.rep F v0 i) (eLst (eP2 eInt eInt)) (fun (i : Str) => m_law_runs i)) := by
  refine Def.mk0 F sc_law_runs (by first | exact NF.hl_spW | exact NF.hl_spWb | exact NF.hl_spWX) (fun _ _ _ _ _ _ us hl => match us, hl with | [_], _ => rfl) (fun cdv A outer s H vs Q E hr h => ?_)
  refine ⟨_, (pss_cons (ps_set (i := 1) sc_law_runs.nd rfl (Or.inl rfl) (pe_lst pa_nil))
      (pss_cons (ps_set (i := 2) sc_law_runs.nd rfl (Or.inl rfl) (pe_un un_neg pe_int))
      (pss_cons (ps_for PassesOwn.never rfl (pi_range1 (by rfl) T.b_range (pa_cons (pe_op op_add (pe_callB (id := "len") callLen (by rfl) T.b_len (by decide +kernel) (pa_cons (pv 0) pa_nil)) pe_int) pa_nil)) (pg_name (i := 3) sc_law_runs.nd rfl (Or.inl rfl))
      (pss_cons (ps_set (i := 4) sc_law_runs.nd rfl (Or.inl rfl) (pe_and (pe_cmpR op_lt (pv 3) (pe_callB (id := "len") callLen (by rfl) T.b_len (by decide +kernel) (pa_cons (pv 0) pa_nil)) (nomark _)) (pe_one (pe_cmpR opInC (pe_ix ix_str (pv 0) (pv 3) (fun _ _ => rfl)) pe_str (by rfl)))))
      (Evl.pss_cut (ps_if (PW.pt (pw_and (pt_val (pv 4)) (pw_and1 (pt_cmpR op_lt (pv 2) pe_int (nomark _)))))
      (pss_one (ps_set (i := 2) sc_law_runs.nd rfl (Or.inl rfl) (pv 3)))
      pss_nil)
      (pss_one (ps_if (PW.pt (pw_and (pt_not (pt_val (pv 4))) (pw_and1 (pt_cmpR op_ge (pv 2) pe_int (nomark _)))))
      (pss_cons (ps_expr (pe_bm PySem.F.plainAttrs_list PySem.F.slot_list_append PySem.F.type_list_append mt_append (pv 1) (pa_cons (pe_tup (pa_cons (pv 2) (pa_cons (pv 3) pa_nil))) pa_nil)))
      (pss_one (ps_set (i := 2) sc_law_runs.nd rfl (Or.inl rfl) (pe_un un_neg pe_int))))
      pss_nil)))))
      (pss_one (ps_ret (pv 1)))))), ?_⟩
  try dsimp only [cxOf, Cx.nox, Cx.wish]
  obtain ⟨hl, F, a_form, K0, hF, ⟨_, rfl, rfl⟩, k, q⟩ := h
  have O := NF.Fz.start hF
  have lF := NF.Ex.rfl (B := H) (F := F)
  refine (NF.x_seq (NF.x_asg (NF.x_lst (NF.x_nil (NF.y_lstM O (show 0 ≤ sizeLine by decide) (fun p2 H O => (have h1 : NF.RL ((eP2 eInt eInt).rep F) _ [] := .nil; (NF.x_name ?_))))))))
  refine (NF.x_seq (NF.x_asg (NF.x_un (NF.x_c (NF.x_U (NF.x_name ?_))))))
  refine (NF.x_seq (NF.x_for (NF.x_jR1 (NF.x_cons (NF.x_op (NF.x_cb (NF.x_cons (NF.x_var rfl (NF.x_nil (have c3 := k.1; have k := k.2; (NF.x_lenS c3 (NF.x_c (NF.x_I0 (NF.x_nil (have c4 := k.1; have k := k.2; (NF.y_jR1 (F := F) c4 (fun J T => (NF.y_for (σt := Int × (List (Int × Int))) (fun (s : Int × (List (Int × Int))) (σ : L2.St) (F : Hp) (R : List (Addr × HO)) => (fun (z_start : Int) (z_runs : List (Int × Int)) => ∃ vs_runs : List V, ∃ u3 : Option V, ∃ u4 : Option V, σ = [some (.str a_form), some (.ref p2), some (.int z_start), u3, u4] ∧ R = [(p2, HO.lst vs_runs)] ∧ RL ((eP2 eInt eInt).rep F) vs_runs z_runs) s.1 s.2) T O k ⟨_, _, _, rfl, rfl, h1⟩ ?_ ?_))))))))))))))))))
  · rintro x6 r ⟨z_start, z_runs⟩ _ F0 F _ H v7 lp5 ⟨vs_runs, u3, u4, rfl, rfl, r_runs⟩ l1 O h8 k
    have lp5 := Ex.trans lp5 l1
    have r_runs := r_runs.mono fun _ _ => Enc.mono (eP2 eInt eInt) l1.le
    have lF := Ex.trans lF lp5
    cases h8
    refine NF.x_name ?_
    refine (NF.x_seq (NF.x_asg (have c9 := k.1; have k := k.2; (have c11 := k.1; have k := k.2; (NF.y_and (fun Q q => (NF.x_op (NF.x_var rfl (NF.x_cb (NF.x_cons (NF.x_var rfl (NF.x_nil (NF.x_lenS (c9) (NF.x_I0 q))))))))) (fun g10 Q q => (NF.x_op (NF.x_op (NF.x_var rfl (NF.x_var rfl (NF.y_ixS (c11 g10).1 (c11 g10).2 (NF.x_c (NF.x_inC q)))))))) (NF.x_name ?_))))))
    refine NF.y_cut (fun (z_start : Int) (σ : L2.St) (F : Hp) (R : List (Addr × HO)) => σ = [some (.str a_form), some (.ref p2), some (.int z_start), some (.int x6), some (.bl ((decide (x6 < (a_form.length : Int))) && (decide ((cS a_form x6) ∈ tl (Str.ofString "0123456789")))))] ∧ R = [(p2, HO.lst vs_runs)]) O k ?_ ?_
    · intro k lp12
      refine (NF.x_ifs (NF.y_andT (fun Q q => (NF.x_B (NF.x_var rfl (NF.x_bl q)))) (fun g14 Q q => (NF.x_test (NF.x_op (NF.x_var rfl (NF.x_c (NF.x_I0 (NF.x_bl q))))))) (NF.x_itb (fun g15 => (have k := k.1 g15; ?_)) (fun g15 => (have k := k.2 g15; ?_)))))
      · refine (NF.x_asg (NF.x_var rfl (NF.x_name ?_)))
        exact ⟨x6, _, _, lp12, O, ⟨rfl, rfl⟩, k⟩
      · refine NF.x_next ?_
        exact ⟨z_start, _, _, lp12, O, ⟨rfl, rfl⟩, k⟩
    · rintro z_start _ F _ H l0 O ⟨rfl, rfl⟩ k
      have r_runs := r_runs.mono fun _ _ => Enc.mono (eP2 eInt eInt) l0.le
      have lF := Ex.trans lF l0
      have lp5 := Ex.trans lp5 l0
      refine (NF.x_ifs (NF.y_andT (fun Q q => (NF.x_not (NF.x_B (NF.x_var rfl (NF.x_bl q))))) (fun g16 Q q => (NF.x_test (NF.x_op (NF.x_var rfl (NF.x_c (NF.x_I0 (NF.x_bl q))))))) (NF.x_itb (fun g20 => (have k := k.1 g20; ?_)) (fun g20 => (have k := k.2 g20; ?_)))))
      · refine (NF.x_seq (NF.x_drop (NF.x_bm (NF.x_var rfl (NF.x_tyL (O.get 0 rfl) (NF.x_cons (NF.x_tup (NF.x_cons (NF.x_var rfl (NF.x_cons (NF.x_var rfl (NF.x_nil (NF.y_tup O (show 2 ≤ sizeLine by decide) (fun p18 F H hp l0 O => (have r_runs := r_runs.mono fun _ _ => Enc.mono (eP2 eInt eInt) l0.le; (have lF := Ex.trans lF l0; (have lp5 := Ex.trans lp5 l0; (have h17 : (eP2 eInt eInt).rep F (.ref p18) (z_start, x6) := ⟨_, _, _, rfl, hp, rfl, rfl⟩; (NF.x_nil (have c19 := k.1; have k := k.2; (NF.y_app2 O 0 rfl r_runs c19 (fun H O => (have r_runs := NF.RL.snoc (x := (z_start, x6)) r_runs h17; ?_)))))))))))))))))))))))
        refine (NF.x_asg (NF.x_un (NF.x_c (NF.x_U (NF.x_name ?_)))))
        exact ⟨((-(1 : Int)), (z_runs ++ [(z_start, x6)])), _, _, lp5, O, ⟨_, _, _, rfl, rfl, r_runs⟩, k⟩
      · refine NF.x_next ?_
        exact ⟨(z_start, z_runs), _, _, lp5, O, ⟨_, _, _, rfl, rfl, r_runs⟩, k⟩
  · rintro ⟨z_start, z_runs⟩ _ F _ H l0 O ⟨vs_runs, u3, u4, rfl, rfl, r_runs⟩ k
    have lF := Ex.trans lF l0
    exact (NF.x_ret (NF.x_var rfl (NF.y_frz O 0 rfl (fun F l0 hp O => (have r_runs := r_runs.mono fun _ _ => Enc.mono (eP2 eInt eInt) l0.le; (have lF := Ex.trans lF l0; (have h21 : (eLst (eP2 eInt eInt)).rep F (.ref p2) z_runs := ⟨_, _, rfl, hp, r_runs⟩; (q z_runs k _ _ _ O.leB O.leF lF h21))))))))

def m_law_sign_spoiled (a_way : Int) (a_form : Str) : W (Str) :=
  W.chk (a_form.length ≤ sizeLine) <|
  W.bind (m_law_take ((a_form.length : Int) + (1 : Int))) fun y2 =>
  W.chk ((Str.ofString "+-;,:.!=>abhijzABHIJZ0198_ \n\t*").length ≤ sizeLine) <|
  W.bind (m_law_take ((Str.ofString "+-;,:.!=>abhijzABHIJZ0198_ \n\t*").length : Int)) fun y5 =>
  W.chk ((Str.ofString "+-;,:.!=>abhijzABHIJZ0198_ \n\t*").length ≤ sizeLine ∧ ∃ c, atI (tl (Str.ofString "+-;,:.!=>abhijzABHIJZ0198_ \n\t*")) y5 = some c) <|
  W.ite (decide (a_way = (0 : Int))) (W.chk (a_form.length ≤ sizeLine) <|
  W.chk ((cutS a_form none (some y2)).length + (sg (cS (Str.ofString "+-;,:.!=>abhijzABHIJZ0198_ \n\t*") y5)).length ≤ sizeLine) <|
  W.chk (a_form.length ≤ sizeLine) <|
  W.chk (((cutS a_form none (some y2)) ++ (sg (cS (Str.ofString "+-;,:.!=>abhijzABHIJZ0198_ \n\t*") y5))).length + (cutS a_form (some y2) none).length ≤ sizeLine) <|
  W.ok (((cutS a_form none (some y2)) ++ (sg (cS (Str.ofString "+-;,:.!=>abhijzABHIJZ0198_ \n\t*") y5))) ++ (cutS a_form (some y2) none)))
  (W.ite (decide (a_way = (1 : Int))) (W.chk (a_form.length ≤ sizeLine) <|
  W.chk ((cutS a_form none (some y2)).length + (sg (cS (Str.ofString "+-;,:.!=>abhijzABHIJZ0198_ \n\t*") y5)).length ≤ sizeLine) <|
  W.chk (a_form.length ≤ sizeLine) <|
  W.chk (((cutS a_form none (some y2)) ++ (sg (cS (Str.ofString "+-;,:.!=>abhijzABHIJZ0198_ \n\t*") y5))).length + (cutS a_form (some (y2 + (1 : Int))) none).length ≤ sizeLine) <|
  W.ok (((cutS a_form none (some y2)) ++ (sg (cS (Str.ofString "+-;,:.!=>abhijzABHIJZ0198_ \n\t*") y5))) ++ (cutS a_form (some (y2 + (1 : Int))) none)))
  (W.ite (decide (a_way = (2 : Int))) (W.chk (a_form.length ≤ sizeLine) <|
  W.chk (a_form.length ≤ sizeLine) <|
  W.chk ((cutS a_form none (some y2)).length + (cutS a_form (some (y2 + (1 : Int))) none).length ≤ sizeLine) <|
  W.ok ((cutS a_form none (some y2)) ++ (cutS a_form (some (y2 + (1 : Int))) none)))
  (W.chk (a_form.length ≤ sizeLine) <|
  W.chk (a_form.length ≤ sizeLine) <|
  W.chk ((cutS a_form none (some y2)).length + (cutS a_form (some (y2 + (1 : Int))) (some (y2 + (2 : Int)))).length ≤ sizeLine) <|
  W.chk (a_form.length ≤ sizeLine) <|
  W.chk (((cutS a_form none (some y2)) ++ (cutS a_form (some (y2 + (1 : Int))) (some (y2 + (2 : Int))))).length + (cutS a_form (some y2) (some (y2 + (1 : Int)))).length ≤ sizeLine) <|
  W.chk (a_form.length ≤ sizeLine) <|
  W.chk ((((cutS a_form none (some y2)) ++ (cutS a_form (some (y2 + (1 : Int))) (some (y2 + (2 : Int))))) ++ (cutS a_form (some y2) (some (y2 + (1 : Int))))).length + (cutS a_form (some (y2 + (2 : Int))) none).length ≤ sizeLine) <|
  W.ok ((((cutS a_form none (some y2)) ++ (cutS a_form (some (y2 + (1 : Int))) (some (y2 + (2 : Int))))) ++ (cutS a_form (some y2) (some (y2 + (1 : Int))))) ++ (cutS a_form (some (y2 + (2 : Int))) none)))))
abbrev NM_law_sign_spoiled : List Str := ["box", "way", "form", "signs", "at", "sign"]
theorem sc_law_sign_spoiled : FnScope NM_law_sign_spoiled ["box", "way", "form"] (defScope s_law_sign_spoiled) := ⟨rfl, rfl, rfl, by decide +kernel, rfl, by decide +kernel, by decide +kernel⟩
theorem d_law_sign_spoiled (F : Fn0 K mg "_law_sign_spoiled" s_law_sign_spoiled) (T : Txt P K mg) (D_law_take : Def P w K mg base 1 "_law_take" ["box", "many"] (spWb BxW 1 (fun F vs (i : Int) => ∃ v0, vs = [v0] ∧ eInt.rep F v0 i) eInt (fun (i : Int) => m_law_take i))) :
    Def P w K mg base 2 "_law_sign_spoiled" ["box", "way", "form"] (spWb BxW 2 (fun F vs (i : Int × Str) => ∃ v0 v1, vs = [v0, v1] ∧ eInt.rep F v0 i.1 ∧ eStr.rep F v1 i.2) eStr (fun (i : Int × Str) => m_law_sign_spoiled i.1 i.2)) := by
  refine Def.mk0 F sc_law_sign_spoiled (by first | exact NF.hl_spW | exact NF.hl_spWb | exact NF.hl_spWX) (fun _ _ _ _ _ _ us hl => match us, hl with | [_, _, _], _ => rfl) (fun cdv A outer s H vs Q E hr h => ?_)
  refine ⟨_, (pss_cons (ps_set (i := 3) sc_law_sign_spoiled.nd rfl (Or.inl rfl) pe_str)
      (pss_cons (ps_set (i := 4) sc_law_sign_spoiled.nd rfl (Or.inl rfl) (pe_d D_law_take (hr.mono (by decide)) rfl (pa_cons (pv 0) (pa_cons (pe_op op_add (pe_callB (id := "len") callLen (by rfl) T.b_len (by decide +kernel) (pa_cons (pv 2) pa_nil)) pe_int) pa_nil))))
      (pss_cons (ps_set (i := 5) sc_law_sign_spoiled.nd rfl (Or.inl rfl) (pe_ix ix_str (pv 3) (pe_d D_law_take (hr.mono (by decide)) rfl (pa_cons (pv 0) (pa_cons (pe_callB (id := "len") callLen (by rfl) T.b_len (by decide +kernel) (pa_cons (pv 3) pa_nil)) pa_nil))) (fun _ _ => rfl)))
      (pss_cons (ps_if (pt_cmpR op_eq (pv 1) pe_int (nomark _))
      (pss_one (ps_ret (pe_op opAddS (pe_op opAddS (pe_slice sl_str (pv 2) po_none (po_some (pv 4))) (pv 5)) (pe_slice sl_str (pv 2) (po_some (pv 4)) po_none))))
      pss_nil)
      (pss_cons (ps_if (pt_cmpR op_eq (pv 1) pe_int (nomark _))
      (pss_one (ps_ret (pe_op opAddS (pe_op opAddS (pe_slice sl_str (pv 2) po_none (po_some (pv 4))) (pv 5)) (pe_slice sl_str (pv 2) (po_some (pe_op op_add (pv 4) pe_int)) po_none))))
      pss_nil)
      (pss_cons (ps_if (pt_cmpR op_eq (pv 1) pe_int (nomark _))
      (pss_one (ps_ret (pe_op opAddS (pe_slice sl_str (pv 2) po_none (po_some (pv 4))) (pe_slice sl_str (pv 2) (po_some (pe_op op_add (pv 4) pe_int)) po_none))))
      pss_nil)
      (pss_one (ps_ret (pe_op opAddS (pe_op opAddS (pe_op opAddS (pe_slice sl_str (pv 2) po_none (po_some (pv 4))) (pe_slice sl_str (pv 2) (po_some (pe_op op_add (pv 4) pe_int)) (po_some (pe_op op_add (pv 4) pe_int)))) (pe_slice sl_str (pv 2) (po_some (pv 4)) (po_some (pe_op op_add (pv 4) pe_int)))) (pe_slice sl_str (pv 2) (po_some (pe_op op_add (pv 4) pe_int)) po_none)))))))))), ?_⟩
  try dsimp only [cxOf, Cx.nox, Cx.wish]
  obtain ⟨ab, bx, _, F, ⟨a_way, a_form⟩, K0, rfl, hl, hb, hbx, hbF, hF, ⟨_, _, rfl, rfl, rfl⟩, k, q⟩ := h
  have O := NF.Fz.startB hF hbx hbF
  have lF := NF.Ex.rfl (B := del H ab) (F := F)
  refine (NF.x_seq (NF.x_asg (NF.x_c (NF.x_name ?_))))
  refine (NF.x_seq (NF.x_asg (NF.x_call (NF.x_cons (NF.x_var rfl (NF.x_cons (NF.x_op (NF.x_cb (NF.x_cons (NF.x_var rfl (NF.x_nil (have c1 := k.1; have k := k.2; (NF.x_lenS c1 (NF.x_c (NF.x_I0 (NF.x_nil (NF.use_spWb (i := ((a_form.length : Int) + (1 : Int))) O 0 rfl hb rfl ⟨_, rfl, rfl⟩ k (fun y2 v F H bx3 hb l0 O hv k => NF.byI v hv (have lF := Ex.trans lF l0; (have O : NF.Fz _ F H [(ab, HO.lst bx3)] := O; (NF.x_name ?_)))))))))))))))))))))
  refine (NF.x_seq (NF.x_asg (NF.x_op (NF.x_var rfl (NF.x_call (NF.x_cons (NF.x_var rfl (NF.x_cons (NF.x_cb (NF.x_cons (NF.x_var rfl (NF.x_nil (have c4 := k.1; have k := k.2; (NF.x_lenS c4 (NF.x_nil (NF.use_spWb (i := ((Str.ofString "+-;,:.!=>abhijzABHIJZ0198_ \n\t*").length : Int)) O 0 rfl hb rfl ⟨_, rfl, rfl⟩ k (fun y5 v F H bx6 hb l0 O hv k => NF.byI v hv (have lF := Ex.trans lF l0; (have O : NF.Fz _ F H [(ab, HO.lst bx6)] := O; (have c7 := k.1; have k := k.2; (NF.y_ixS c7.1 c7.2 (NF.x_name ?_))))))))))))))))))))))
  refine (NF.x_seq (NF.x_ifs (NF.x_test (NF.x_op (NF.x_var rfl (NF.x_c (NF.y_eqI (NF.x_bl (NF.x_itb (fun g28 => (have k := k.1 g28; ?_)) (fun g28 => (have k := k.2 g28; ?_)))))))))))
  · exact (NF.x_ret (NF.x_op (NF.x_op (NF.x_sl (NF.x_var rfl (NF.x_noPart (NF.x_part (NF.x_var rfl (NF.x_pI (have c8 := k.1; have k := k.2; (NF.x_slS c8 (NF.x_var rfl (have c9 := k.1; have k := k.2; (NF.x_addS c9 (NF.x_sl (NF.x_var rfl (NF.x_part (NF.x_var rfl (NF.x_pI (NF.x_noPart (have c10 := k.1; have k := k.2; (NF.x_slS c10 (have c11 := k.1; have k := k.2; (NF.x_addS c11 (q (((cutS a_form none (some y2)) ++ (sg (cS (Str.ofString "+-;,:.!=>abhijzABHIJZ0198_ \n\t*") y5))) ++ (cutS a_form (some y2) none)) k _ _ _ _ hb (O.get 0 rfl) (NF.keepB O.leB) O.leF (NF.exB lF O) rfl)))))))))))))))))))))))))
  · refine NF.x_next ?_
    refine (NF.x_seq (NF.x_ifs (NF.x_test (NF.x_op (NF.x_var rfl (NF.x_c (NF.y_eqI (NF.x_bl (NF.x_itb (fun g27 => (have k := k.1 g27; ?_)) (fun g27 => (have k := k.2 g27; ?_)))))))))))
    · exact (NF.x_ret (NF.x_op (NF.x_op (NF.x_sl (NF.x_var rfl (NF.x_noPart (NF.x_part (NF.x_var rfl (NF.x_pI (have c12 := k.1; have k := k.2; (NF.x_slS c12 (NF.x_var rfl (have c13 := k.1; have k := k.2; (NF.x_addS c13 (NF.x_sl (NF.x_var rfl (NF.x_part (NF.x_op (NF.x_var rfl (NF.x_c (NF.x_I0 (NF.x_pI (NF.x_noPart (have c14 := k.1; have k := k.2; (NF.x_slS c14 (have c15 := k.1; have k := k.2; (NF.x_addS c15 (q (((cutS a_form none (some y2)) ++ (sg (cS (Str.ofString "+-;,:.!=>abhijzABHIJZ0198_ \n\t*") y5))) ++ (cutS a_form (some (y2 + (1 : Int))) none)) k _ _ _ _ hb (O.get 0 rfl) (NF.keepB O.leB) O.leF (NF.exB lF O) rfl))))))))))))))))))))))))))))
    · refine NF.x_next ?_
      refine (NF.x_seq (NF.x_ifs (NF.x_test (NF.x_op (NF.x_var rfl (NF.x_c (NF.y_eqI (NF.x_bl (NF.x_itb (fun g26 => (have k := k.1 g26; ?_)) (fun g26 => (have k := k.2 g26; ?_)))))))))))
      · exact (NF.x_ret (NF.x_op (NF.x_sl (NF.x_var rfl (NF.x_noPart (NF.x_part (NF.x_var rfl (NF.x_pI (have c16 := k.1; have k := k.2; (NF.x_slS c16 (NF.x_sl (NF.x_var rfl (NF.x_part (NF.x_op (NF.x_var rfl (NF.x_c (NF.x_I0 (NF.x_pI (NF.x_noPart (have c17 := k.1; have k := k.2; (NF.x_slS c17 (have c18 := k.1; have k := k.2; (NF.x_addS c18 (q ((cutS a_form none (some y2)) ++ (cutS a_form (some (y2 + (1 : Int))) none)) k _ _ _ _ hb (O.get 0 rfl) (NF.keepB O.leB) O.leF (NF.exB lF O) rfl))))))))))))))))))))))))
      · refine NF.x_next ?_
        exact (NF.x_ret (NF.x_op (NF.x_op (NF.x_op (NF.x_sl (NF.x_var rfl (NF.x_noPart (NF.x_part (NF.x_var rfl (NF.x_pI (have c19 := k.1; have k := k.2; (NF.x_slS c19 (NF.x_sl (NF.x_var rfl (NF.x_part (NF.x_op (NF.x_var rfl (NF.x_c (NF.x_I0 (NF.x_pI (NF.x_part (NF.x_op (NF.x_var rfl (NF.x_c (NF.x_I0 (NF.x_pI (have c20 := k.1; have k := k.2; (NF.x_slS c20 (have c21 := k.1; have k := k.2; (NF.x_addS c21 (NF.x_sl (NF.x_var rfl (NF.x_part (NF.x_var rfl (NF.x_pI (NF.x_part (NF.x_op (NF.x_var rfl (NF.x_c (NF.x_I0 (NF.x_pI (have c22 := k.1; have k := k.2; (NF.x_slS c22 (have c23 := k.1; have k := k.2; (NF.x_addS c23 (NF.x_sl (NF.x_var rfl (NF.x_part (NF.x_op (NF.x_var rfl (NF.x_c (NF.x_I0 (NF.x_pI (NF.x_noPart (have c24 := k.1; have k := k.2; (NF.x_slS c24 (have c25 := k.1; have k := k.2; (NF.x_addS c25 (q ((((cutS a_form none (some y2)) ++ (cutS a_form (some (y2 + (1 : Int))) (some (y2 + (2 : Int))))) ++ (cutS a_form (some y2) (some (y2 + (1 : Int))))) ++ (cutS a_form (some (y2 + (2 : Int))) none)) k _ _ _ _ hb (O.get 0 rfl) (NF.keepB O.leB) O.leF (NF.exB lF O) rfl)))))))))))))))))))))))))))))))))))))))))))))))))))))))))))

def m_law_piece_spoiled (a_way : Int) (a_form : Str) : W (Str) :=
  W.bind (m_law_take (4 : Int)) fun y1 =>
  W.chk ((Str.ofString ";,>:").length ≤ sizeLine ∧ ∃ c, atI (tl (Str.ofString ";,>:")) y1 = some c) <|
  W.chk (((sg (cS (Str.ofString ";,>:") y1)).length == 0) = false ∧ a_form.length + 2 ≤ sizeLine) <|
  W.bind (m_law_take ((Txt.split a_form (sg (cS (Str.ofString ";,>:") y1))).length : Int)) fun y7 =>
  W.ite (decide (a_way = (0 : Int))) (W.chk ((cutT (Txt.split a_form (sg (cS (Str.ofString ";,>:") y1))) none (some (y7 + (1 : Int)))).length + (cutT (Txt.split a_form (sg (cS (Str.ofString ";,>:") y1))) (some y7) none).length ≤ sizeLine) <|
  W.chk ((((cutT (Txt.split a_form (sg (cS (Str.ofString ";,>:") y1))) none (some (y7 + (1 : Int)))) ++ (cutT (Txt.split a_form (sg (cS (Str.ofString ";,>:") y1))) (some y7) none)).map (·.length)).sum + ((cutT (Txt.split a_form (sg (cS (Str.ofString ";,>:") y1))) none (some (y7 + (1 : Int)))) ++ (cutT (Txt.split a_form (sg (cS (Str.ofString ";,>:") y1))) (some y7) none)).length * (sg (cS (Str.ofString ";,>:") y1)).length ≤ 16777216) <|
  W.ok (Txt.join (sg (cS (Str.ofString ";,>:") y1)) ((cutT (Txt.split a_form (sg (cS (Str.ofString ";,>:") y1))) none (some (y7 + (1 : Int)))) ++ (cutT (Txt.split a_form (sg (cS (Str.ofString ";,>:") y1))) (some y7) none))))
  (W.ite (decide (a_way = (1 : Int))) (W.chk ((cutT (Txt.split a_form (sg (cS (Str.ofString ";,>:") y1))) none (some y7)).length + (cutT (Txt.split a_form (sg (cS (Str.ofString ";,>:") y1))) (some (y7 + (1 : Int))) none).length ≤ sizeLine) <|
  W.chk ((((cutT (Txt.split a_form (sg (cS (Str.ofString ";,>:") y1))) none (some y7)) ++ (cutT (Txt.split a_form (sg (cS (Str.ofString ";,>:") y1))) (some (y7 + (1 : Int))) none)).map (·.length)).sum + ((cutT (Txt.split a_form (sg (cS (Str.ofString ";,>:") y1))) none (some y7)) ++ (cutT (Txt.split a_form (sg (cS (Str.ofString ";,>:") y1))) (some (y7 + (1 : Int))) none)).length * (sg (cS (Str.ofString ";,>:") y1)).length ≤ 16777216) <|
  W.ok (Txt.join (sg (cS (Str.ofString ";,>:") y1)) ((cutT (Txt.split a_form (sg (cS (Str.ofString ";,>:") y1))) none (some y7)) ++ (cutT (Txt.split a_form (sg (cS (Str.ofString ";,>:") y1))) (some (y7 + (1 : Int))) none))))
  (W.ite (decide (a_way = (2 : Int))) (W.chk ((cutT (Txt.split a_form (sg (cS (Str.ofString ";,>:") y1))) none (some y7)).length + (cutT (Txt.split a_form (sg (cS (Str.ofString ";,>:") y1))) (some (y7 + (1 : Int))) (some (y7 + (2 : Int)))).length ≤ sizeLine) <|
  W.chk (((cutT (Txt.split a_form (sg (cS (Str.ofString ";,>:") y1))) none (some y7)) ++ (cutT (Txt.split a_form (sg (cS (Str.ofString ";,>:") y1))) (some (y7 + (1 : Int))) (some (y7 + (2 : Int))))).length + (cutT (Txt.split a_form (sg (cS (Str.ofString ";,>:") y1))) (some y7) (some (y7 + (1 : Int)))).length ≤ sizeLine) <|
  W.chk ((((cutT (Txt.split a_form (sg (cS (Str.ofString ";,>:") y1))) none (some y7)) ++ (cutT (Txt.split a_form (sg (cS (Str.ofString ";,>:") y1))) (some (y7 + (1 : Int))) (some (y7 + (2 : Int))))) ++ (cutT (Txt.split a_form (sg (cS (Str.ofString ";,>:") y1))) (some y7) (some (y7 + (1 : Int))))).length + (cutT (Txt.split a_form (sg (cS (Str.ofString ";,>:") y1))) (some (y7 + (2 : Int))) none).length ≤ sizeLine) <|
  W.chk ((((((cutT (Txt.split a_form (sg (cS (Str.ofString ";,>:") y1))) none (some y7)) ++ (cutT (Txt.split a_form (sg (cS (Str.ofString ";,>:") y1))) (some (y7 + (1 : Int))) (some (y7 + (2 : Int))))) ++ (cutT (Txt.split a_form (sg (cS (Str.ofString ";,>:") y1))) (some y7) (some (y7 + (1 : Int))))) ++ (cutT (Txt.split a_form (sg (cS (Str.ofString ";,>:") y1))) (some (y7 + (2 : Int))) none)).map (·.length)).sum + ((((cutT (Txt.split a_form (sg (cS (Str.ofString ";,>:") y1))) none (some y7)) ++ (cutT (Txt.split a_form (sg (cS (Str.ofString ";,>:") y1))) (some (y7 + (1 : Int))) (some (y7 + (2 : Int))))) ++ (cutT (Txt.split a_form (sg (cS (Str.ofString ";,>:") y1))) (some y7) (some (y7 + (1 : Int))))) ++ (cutT (Txt.split a_form (sg (cS (Str.ofString ";,>:") y1))) (some (y7 + (2 : Int))) none)).length * (sg (cS (Str.ofString ";,>:") y1)).length ≤ 16777216) <|
  W.ok (Txt.join (sg (cS (Str.ofString ";,>:") y1)) ((((cutT (Txt.split a_form (sg (cS (Str.ofString ";,>:") y1))) none (some y7)) ++ (cutT (Txt.split a_form (sg (cS (Str.ofString ";,>:") y1))) (some (y7 + (1 : Int))) (some (y7 + (2 : Int))))) ++ (cutT (Txt.split a_form (sg (cS (Str.ofString ";,>:") y1))) (some y7) (some (y7 + (1 : Int))))) ++ (cutT (Txt.split a_form (sg (cS (Str.ofString ";,>:") y1))) (some (y7 + (2 : Int))) none))))
  (W.bind (m_law_take (6 : Int)) fun y43 =>
  W.chk ((Str.ofString ";,>:.!").length ≤ sizeLine ∧ ∃ c, atI (tl (Str.ofString ";,>:.!")) y43 = some c) <|
  W.chk (((cutT (Txt.split a_form (sg (cS (Str.ofString ";,>:") y1))) none (some (y7 + (1 : Int)))).map (·.length)).sum + (cutT (Txt.split a_form (sg (cS (Str.ofString ";,>:") y1))) none (some (y7 + (1 : Int)))).length * (sg (cS (Str.ofString ";,>:") y1)).length ≤ 16777216) <|
  W.chk ((Txt.join (sg (cS (Str.ofString ";,>:") y1)) (cutT (Txt.split a_form (sg (cS (Str.ofString ";,>:") y1))) none (some (y7 + (1 : Int))))).length + (sg (cS (Str.ofString ";,>:.!") y43)).length ≤ sizeLine) <|
  W.chk (((cutT (Txt.split a_form (sg (cS (Str.ofString ";,>:") y1))) (some (y7 + (1 : Int))) none).map (·.length)).sum + (cutT (Txt.split a_form (sg (cS (Str.ofString ";,>:") y1))) (some (y7 + (1 : Int))) none).length * (sg (cS (Str.ofString ";,>:") y1)).length ≤ 16777216) <|
  W.chk (((Txt.join (sg (cS (Str.ofString ";,>:") y1)) (cutT (Txt.split a_form (sg (cS (Str.ofString ";,>:") y1))) none (some (y7 + (1 : Int))))) ++ (sg (cS (Str.ofString ";,>:.!") y43))).length + (Txt.join (sg (cS (Str.ofString ";,>:") y1)) (cutT (Txt.split a_form (sg (cS (Str.ofString ";,>:") y1))) (some (y7 + (1 : Int))) none)).length ≤ sizeLine) <|
  W.ok (((Txt.join (sg (cS (Str.ofString ";,>:") y1)) (cutT (Txt.split a_form (sg (cS (Str.ofString ";,>:") y1))) none (some (y7 + (1 : Int))))) ++ (sg (cS (Str.ofString ";,>:.!") y43))) ++ (Txt.join (sg (cS (Str.ofString ";,>:") y1)) (cutT (Txt.split a_form (sg (cS (Str.ofString ";,>:") y1))) (some (y7 + (1 : Int))) none))))))
abbrev NM_law_piece_spoiled : List Str := ["box", "way", "form", "sign", "parts", "at", "other"]
theorem sc_law_piece_spoiled : FnScope NM_law_piece_spoiled ["box", "way", "form"] (defScope s_law_piece_spoiled) := ⟨rfl, rfl, rfl, by decide +kernel, rfl, by decide +kernel, by decide +kernel⟩
theorem d_law_piece_spoiled (F : Fn0 K mg "_law_piece_spoiled" s_law_piece_spoiled) (T : Txt P K mg) (D_law_take : Def P w K mg base 1 "_law_take" ["box", "many"] (spWb BxW 1 (fun F vs (i : Int) => ∃ v0, vs = [v0] ∧ eInt.rep F v0 i) eInt (fun (i : Int) => m_law_take i))) :
    Def P w K mg base 2 "_law_piece_spoiled" ["box", "way", "form"] (spWb BxW 2 (fun F vs (i : Int × Str) => ∃ v0 v1, vs = [v0, v1] ∧ eInt.rep F v0 i.1 ∧ eStr.rep F v1 i.2) eStr (fun (i : Int × Str) => m_law_piece_spoiled i.1 i.2)) := by
  refine Def.mk0 F sc_law_piece_spoiled (by first | exact NF.hl_spW | exact NF.hl_spWb | exact NF.hl_spWX) (fun _ _ _ _ _ _ us hl => match us, hl with | [_, _, _], _ => rfl) (fun cdv A outer s H vs Q E hr h => ?_)
  refine ⟨_, (pss_cons (ps_set (i := 3) sc_law_piece_spoiled.nd rfl (Or.inl rfl) (pe_ix ix_str pe_str (pe_d D_law_take (hr.mono (by decide)) rfl (pa_cons (pv 0) (pa_cons pe_int pa_nil))) (fun _ _ => rfl)))
      (pss_cons (ps_set (i := 4) sc_law_piece_spoiled.nd rfl (Or.inl rfl) (pe_bm PySem.F.plainAttrs_str PySem.F.slot_str_split PySem.F.type_str_split mtSplit (pv 2) (pa_cons (pv 3) pa_nil)))
      (pss_cons (ps_set (i := 5) sc_law_piece_spoiled.nd rfl (Or.inl rfl) (pe_d D_law_take (hr.mono (by decide)) rfl (pa_cons (pv 0) (pa_cons (pe_callB (id := "len") callLen (by rfl) T.b_len (by decide +kernel) (pa_cons (pv 4) pa_nil)) pa_nil))))
      (pss_cons (ps_if (pt_cmpR op_eq (pv 1) pe_int (nomark _))
      (pss_one (ps_ret (pe_bm PySem.F.plainAttrs_str PySem.F.slot_str_join PySem.F.type_str_join mtJoin (pv 3) (pa_cons (pe_op op_cat (pe_slice sl_list (pv 4) po_none (po_some (pe_op op_add (pv 5) pe_int))) (pe_slice sl_list (pv 4) (po_some (pv 5)) po_none)) pa_nil))))
      pss_nil)
      (pss_cons (ps_if (pt_cmpR op_eq (pv 1) pe_int (nomark _))
      (pss_one (ps_ret (pe_bm PySem.F.plainAttrs_str PySem.F.slot_str_join PySem.F.type_str_join mtJoin (pv 3) (pa_cons (pe_op op_cat (pe_slice sl_list (pv 4) po_none (po_some (pv 5))) (pe_slice sl_list (pv 4) (po_some (pe_op op_add (pv 5) pe_int)) po_none)) pa_nil))))
      pss_nil)
      (pss_cons (ps_if (pt_cmpR op_eq (pv 1) pe_int (nomark _))
      (pss_one (ps_ret (pe_bm PySem.F.plainAttrs_str PySem.F.slot_str_join PySem.F.type_str_join mtJoin (pv 3) (pa_cons (pe_op op_cat (pe_op op_cat (pe_op op_cat (pe_slice sl_list (pv 4) po_none (po_some (pv 5))) (pe_slice sl_list (pv 4) (po_some (pe_op op_add (pv 5) pe_int)) (po_some (pe_op op_add (pv 5) pe_int)))) (pe_slice sl_list (pv 4) (po_some (pv 5)) (po_some (pe_op op_add (pv 5) pe_int)))) (pe_slice sl_list (pv 4) (po_some (pe_op op_add (pv 5) pe_int)) po_none)) pa_nil))))
      pss_nil)
      (pss_cons (ps_set (i := 6) sc_law_piece_spoiled.nd rfl (Or.inl rfl) (pe_ix ix_str pe_str (pe_d D_law_take (hr.mono (by decide)) rfl (pa_cons (pv 0) (pa_cons pe_int pa_nil))) (fun _ _ => rfl)))
      (pss_one (ps_ret (pe_op opAddS (pe_op opAddS (pe_bm PySem.F.plainAttrs_str PySem.F.slot_str_join PySem.F.type_str_join mtJoin (pv 3) (pa_cons (pe_slice sl_list (pv 4) po_none (po_some (pe_op op_add (pv 5) pe_int))) pa_nil)) (pv 6)) (pe_bm PySem.F.plainAttrs_str PySem.F.slot_str_join PySem.F.type_str_join mtJoin (pv 3) (pa_cons (pe_slice sl_list (pv 4) (po_some (pe_op op_add (pv 5) pe_int)) po_none) pa_nil)))))))))))), ?_⟩
  try dsimp only [cxOf, Cx.nox, Cx.wish]
  obtain ⟨ab, bx, _, F, ⟨a_way, a_form⟩, K0, rfl, hl, hb, hbx, hbF, hF, ⟨_, _, rfl, rfl, rfl⟩, k, q⟩ := h
  have O := NF.Fz.startB hF hbx hbF
  have lF := NF.Ex.rfl (B := del H ab) (F := F)
  refine (NF.x_seq (NF.x_asg (NF.x_op (NF.x_c (NF.x_call (NF.x_cons (NF.x_var rfl (NF.x_cons (NF.x_c (NF.x_nil (NF.use_spWb (i := (4 : Int)) O 0 rfl hb rfl ⟨_, rfl, rfl⟩ k (fun y1 v F H bx2 hb l0 O hv k => NF.byI v hv (have lF := Ex.trans lF l0; (have O : NF.Fz _ F H [(ab, HO.lst bx2)] := O; (have c3 := k.1; have k := k.2; (NF.y_ixS c3.1 c3.2 (NF.x_name ?_)))))))))))))))))
  refine (NF.x_seq (NF.x_asg (NF.x_bm (NF.x_var rfl (NF.x_tyS (NF.x_cons (NF.x_var rfl (NF.x_nil (have c4 := k.1; have k := k.2; (NF.y_splitF O c4.1 c4.2 (fun p6 F H h5 l0 O => (have lF := Ex.trans lF l0; (NF.x_name ?_)))))))))))))
  refine (NF.x_seq (NF.x_asg (NF.x_call (NF.x_cons (NF.x_var rfl (NF.x_cons (NF.x_cb (NF.x_cons (NF.x_var rfl (NF.x_nil (NF.y_lenL O.leF h5 (NF.x_nil (NF.use_spWb (i := ((Txt.split a_form (sg (cS (Str.ofString ";,>:") y1))).length : Int)) O 0 rfl hb rfl ⟨_, rfl, rfl⟩ k (fun y7 v F H bx8 hb l0 O hv k => NF.byI v hv (have h5 := Enc.mono (eLst eStr) l0.le h5; (have lF := Ex.trans lF l0; (have O : NF.Fz _ F H [(ab, HO.lst bx8)] := O; (NF.x_name ?_))))))))))))))))))
  refine (NF.x_seq (NF.x_ifs (NF.x_test (NF.x_op (NF.x_var rfl (NF.x_c (NF.y_eqI (NF.x_bl (NF.x_itb (fun g56 => (have k := k.1 g56; ?_)) (fun g56 => (have k := k.2 g56; ?_)))))))))))
  · exact (NF.x_ret (NF.x_bm (NF.x_var rfl (NF.x_tyS (NF.x_cons (NF.x_op (NF.x_sl (NF.x_var rfl (NF.x_noPart (NF.x_part (NF.x_op (NF.x_var rfl (NF.x_c (NF.x_I0 (NF.x_pI (NF.y_slLF O h5 (fun p10 F H h9 l0 O => (have h5 := Enc.mono (eLst eStr) l0.le h5; (have lF := Ex.trans lF l0; (NF.x_sl (NF.x_var rfl (NF.x_part (NF.x_var rfl (NF.x_pI (NF.x_noPart (NF.y_slLF O h5 (fun p12 F H h11 l0 O => (have h5 := Enc.mono (eLst eStr) l0.le h5; (have h9 := Enc.mono (eLst eStr) l0.le h9; (have lF := Ex.trans lF l0; (have c13 := k.1; have k := k.2; (NF.y_catF O h9 h11 c13 (fun p15 F H h14 l0 O => (have h5 := Enc.mono (eLst eStr) l0.le h5; (have h9 := Enc.mono (eLst eStr) l0.le h9; (have h11 := Enc.mono (eLst eStr) l0.le h11; (have lF := Ex.trans lF l0; (NF.x_nil (have c16 := k.1; have k := k.2; (NF.y_joinL O.leF h14 c16 (q (Txt.join (sg (cS (Str.ofString ";,>:") y1)) ((cutT (Txt.split a_form (sg (cS (Str.ofString ";,>:") y1))) none (some (y7 + (1 : Int)))) ++ (cutT (Txt.split a_form (sg (cS (Str.ofString ";,>:") y1))) (some y7) none))) k _ _ _ _ hb (O.get 0 rfl) (NF.keepB O.leB) O.leF (NF.exB lF O) rfl)))))))))))))))))))))))))))))))))))))))))
  · refine NF.x_next ?_
    refine (NF.x_seq (NF.x_ifs (NF.x_test (NF.x_op (NF.x_var rfl (NF.x_c (NF.y_eqI (NF.x_bl (NF.x_itb (fun g55 => (have k := k.1 g55; ?_)) (fun g55 => (have k := k.2 g55; ?_)))))))))))
    · exact (NF.x_ret (NF.x_bm (NF.x_var rfl (NF.x_tyS (NF.x_cons (NF.x_op (NF.x_sl (NF.x_var rfl (NF.x_noPart (NF.x_part (NF.x_var rfl (NF.x_pI (NF.y_slLF O h5 (fun p18 F H h17 l0 O => (have h5 := Enc.mono (eLst eStr) l0.le h5; (have lF := Ex.trans lF l0; (NF.x_sl (NF.x_var rfl (NF.x_part (NF.x_op (NF.x_var rfl (NF.x_c (NF.x_I0 (NF.x_pI (NF.x_noPart (NF.y_slLF O h5 (fun p20 F H h19 l0 O => (have h5 := Enc.mono (eLst eStr) l0.le h5; (have h17 := Enc.mono (eLst eStr) l0.le h17; (have lF := Ex.trans lF l0; (have c21 := k.1; have k := k.2; (NF.y_catF O h17 h19 c21 (fun p23 F H h22 l0 O => (have h5 := Enc.mono (eLst eStr) l0.le h5; (have h17 := Enc.mono (eLst eStr) l0.le h17; (have h19 := Enc.mono (eLst eStr) l0.le h19; (have lF := Ex.trans lF l0; (NF.x_nil (have c24 := k.1; have k := k.2; (NF.y_joinL O.leF h22 c24 (q (Txt.join (sg (cS (Str.ofString ";,>:") y1)) ((cutT (Txt.split a_form (sg (cS (Str.ofString ";,>:") y1))) none (some y7)) ++ (cutT (Txt.split a_form (sg (cS (Str.ofString ";,>:") y1))) (some (y7 + (1 : Int))) none))) k _ _ _ _ hb (O.get 0 rfl) (NF.keepB O.leB) O.leF (NF.exB lF O) rfl)))))))))))))))))))))))))))))))))))))))))
    · refine NF.x_next ?_
      refine (NF.x_seq (NF.x_ifs (NF.x_test (NF.x_op (NF.x_var rfl (NF.x_c (NF.y_eqI (NF.x_bl (NF.x_itb (fun g54 => (have k := k.1 g54; ?_)) (fun g54 => (have k := k.2 g54; ?_)))))))))))
      · exact (NF.x_ret (NF.x_bm (NF.x_var rfl (NF.x_tyS (NF.x_cons (NF.x_op (NF.x_op (NF.x_op (NF.x_sl (NF.x_var rfl (NF.x_noPart (NF.x_part (NF.x_var rfl (NF.x_pI (NF.y_slLF O h5 (fun p26 F H h25 l0 O => (have h5 := Enc.mono (eLst eStr) l0.le h5; (have lF := Ex.trans lF l0; (NF.x_sl (NF.x_var rfl (NF.x_part (NF.x_op (NF.x_var rfl (NF.x_c (NF.x_I0 (NF.x_pI (NF.x_part (NF.x_op (NF.x_var rfl (NF.x_c (NF.x_I0 (NF.x_pI (NF.y_slLF O h5 (fun p28 F H h27 l0 O => (have h5 := Enc.mono (eLst eStr) l0.le h5; (have h25 := Enc.mono (eLst eStr) l0.le h25; (have lF := Ex.trans lF l0; (have c29 := k.1; have k := k.2; (NF.y_catF O h25 h27 c29 (fun p31 F H h30 l0 O => (have h5 := Enc.mono (eLst eStr) l0.le h5; (have h25 := Enc.mono (eLst eStr) l0.le h25; (have h27 := Enc.mono (eLst eStr) l0.le h27; (have lF := Ex.trans lF l0; (NF.x_sl (NF.x_var rfl (NF.x_part (NF.x_var rfl (NF.x_pI (NF.x_part (NF.x_op (NF.x_var rfl (NF.x_c (NF.x_I0 (NF.x_pI (NF.y_slLF O h5 (fun p33 F H h32 l0 O => (have h5 := Enc.mono (eLst eStr) l0.le h5; (have h25 := Enc.mono (eLst eStr) l0.le h25; (have h27 := Enc.mono (eLst eStr) l0.le h27; (have h30 := Enc.mono (eLst eStr) l0.le h30; (have lF := Ex.trans lF l0; (have c34 := k.1; have k := k.2; (NF.y_catF O h30 h32 c34 (fun p36 F H h35 l0 O => (have h5 := Enc.mono (eLst eStr) l0.le h5; (have h25 := Enc.mono (eLst eStr) l0.le h25; (have h27 := Enc.mono (eLst eStr) l0.le h27; (have h30 := Enc.mono (eLst eStr) l0.le h30; (have h32 := Enc.mono (eLst eStr) l0.le h32; (have lF := Ex.trans lF l0; (NF.x_sl (NF.x_var rfl (NF.x_part (NF.x_op (NF.x_var rfl (NF.x_c (NF.x_I0 (NF.x_pI (NF.x_noPart (NF.y_slLF O h5 (fun p38 F H h37 l0 O => (have h5 := Enc.mono (eLst eStr) l0.le h5; (have h25 := Enc.mono (eLst eStr) l0.le h25; (have h27 := Enc.mono (eLst eStr) l0.le h27; (have h30 := Enc.mono (eLst eStr) l0.le h30; (have h32 := Enc.mono (eLst eStr) l0.le h32; (have h35 := Enc.mono (eLst eStr) l0.le h35; (have lF := Ex.trans lF l0; (have c39 := k.1; have k := k.2; (NF.y_catF O h35 h37 c39 (fun p41 F H h40 l0 O => (have h5 := Enc.mono (eLst eStr) l0.le h5; (have h25 := Enc.mono (eLst eStr) l0.le h25; (have h27 := Enc.mono (eLst eStr) l0.le h27; (have h30 := Enc.mono (eLst eStr) l0.le h30; (have h32 := Enc.mono (eLst eStr) l0.le h32; (have h35 := Enc.mono (eLst eStr) l0.le h35; (have h37 := Enc.mono (eLst eStr) l0.le h37; (have lF := Ex.trans lF l0; (NF.x_nil (have c42 := k.1; have k := k.2; (NF.y_joinL O.leF h40 c42 (q (Txt.join (sg (cS (Str.ofString ";,>:") y1)) ((((cutT (Txt.split a_form (sg (cS (Str.ofString ";,>:") y1))) none (some y7)) ++ (cutT (Txt.split a_form (sg (cS (Str.ofString ";,>:") y1))) (some (y7 + (1 : Int))) (some (y7 + (2 : Int))))) ++ (cutT (Txt.split a_form (sg (cS (Str.ofString ";,>:") y1))) (some y7) (some (y7 + (1 : Int))))) ++ (cutT (Txt.split a_form (sg (cS (Str.ofString ";,>:") y1))) (some (y7 + (2 : Int))) none))) k _ _ _ _ hb (O.get 0 rfl) (NF.keepB O.leB) O.leF (NF.exB lF O) rfl))))))))))))))))))))))))))))))))))))))))))))))))))))))))))))))))))))))))))))))))))))))))))))))))))))))))
      · refine NF.x_next ?_
        refine (NF.x_seq (NF.x_asg (NF.x_op (NF.x_c (NF.x_call (NF.x_cons (NF.x_var rfl (NF.x_cons (NF.x_c (NF.x_nil (NF.use_spWb (i := (6 : Int)) O 0 rfl hb rfl ⟨_, rfl, rfl⟩ k (fun y43 v F H bx44 hb l0 O hv k => NF.byI v hv (have h5 := Enc.mono (eLst eStr) l0.le h5; (have lF := Ex.trans lF l0; (have O : NF.Fz _ F H [(ab, HO.lst bx44)] := O; (have c45 := k.1; have k := k.2; (NF.y_ixS c45.1 c45.2 (NF.x_name ?_))))))))))))))))))
        exact (NF.x_ret (NF.x_op (NF.x_op (NF.x_bm (NF.x_var rfl (NF.x_tyS (NF.x_cons (NF.x_sl (NF.x_var rfl (NF.x_noPart (NF.x_part (NF.x_op (NF.x_var rfl (NF.x_c (NF.x_I0 (NF.x_pI (NF.y_slLF O h5 (fun p47 F H h46 l0 O => (have h5 := Enc.mono (eLst eStr) l0.le h5; (have lF := Ex.trans lF l0; (NF.x_nil (have c48 := k.1; have k := k.2; (NF.y_joinL O.leF h46 c48 (NF.x_var rfl (have c49 := k.1; have k := k.2; (NF.x_addS c49 (NF.x_bm (NF.x_var rfl (NF.x_tyS (NF.x_cons (NF.x_sl (NF.x_var rfl (NF.x_part (NF.x_op (NF.x_var rfl (NF.x_c (NF.x_I0 (NF.x_pI (NF.x_noPart (NF.y_slLF O h5 (fun p51 F H h50 l0 O => (have h5 := Enc.mono (eLst eStr) l0.le h5; (have h46 := Enc.mono (eLst eStr) l0.le h46; (have lF := Ex.trans lF l0; (NF.x_nil (have c52 := k.1; have k := k.2; (NF.y_joinL O.leF h50 c52 (have c53 := k.1; have k := k.2; (NF.x_addS c53 (q (((Txt.join (sg (cS (Str.ofString ";,>:") y1)) (cutT (Txt.split a_form (sg (cS (Str.ofString ";,>:") y1))) none (some (y7 + (1 : Int))))) ++ (sg (cS (Str.ofString ";,>:.!") y43))) ++ (Txt.join (sg (cS (Str.ofString ";,>:") y1)) (cutT (Txt.split a_form (sg (cS (Str.ofString ";,>:") y1))) (some (y7 + (1 : Int))) none))) k _ _ _ _ hb (O.get 0 rfl) (NF.keepB O.leB) O.leF (NF.exB lF O) rfl))))))))))))))))))))))))))))))))))))))))))))))))))

def m_law_end_spoiled (a_form : Str) : W (Str) :=
  W.bind (m_law_take (8 : Int)) fun y3 =>
  W.at_ [(Str.ofString "\n"), (Str.ofString " "), (Str.ofString ";"), (Str.ofString ","), (Str.ofString "."), (Str.ofString "0"), (Str.ofString "\t"), (Str.ofString ">")] y3 fun x5 =>
  W.bind (m_law_take (3 : Int)) fun y6 =>
  W.ite (decide (y6 = (0 : Int))) (W.chk (x5.length + a_form.length ≤ sizeLine) <|
  W.ok (x5 ++ a_form))
  (W.chk (a_form.length + x5.length ≤ sizeLine) <|
  W.ok (a_form ++ x5))
abbrev NM_law_end_spoiled : List Str := ["box", "form", "sign"]
theorem sc_law_end_spoiled : FnScope NM_law_end_spoiled ["box", "form"] (defScope s_law_end_spoiled) := ⟨rfl, rfl, rfl, by decide +kernel, rfl, by decide +kernel, by decide +kernel⟩
theorem d_law_end_spoiled (F : Fn0 K mg "_law_end_spoiled" s_law_end_spoiled) (T : Txt P K mg) (D_law_take : Def P w K mg base 1 "_law_take" ["box", "many"] (spWb BxW 1 (fun F vs (i : Int) => ∃ v0, vs = [v0] ∧ eInt.rep F v0 i) eInt (fun (i : Int) => m_law_take i))) :
    Def P w K mg base 2 "_law_end_spoiled" ["box", "form"] (spWb BxW 1 (fun F vs (i : Str) => ∃ v0, vs = [v0] ∧ eStr.rep F v0 i) eStr (fun (i : Str) => m_law_end_spoiled i)) := by
  refine Def.mk0 F sc_law_end_spoiled (by first | exact NF.hl_spW | exact NF.hl_spWb | exact NF.hl_spWX) (fun _ _ _ _ _ _ us hl => match us, hl with | [_, _], _ => rfl) (fun cdv A outer s H vs Q E hr h => ?_)
  refine ⟨_, (pss_cons (ps_set (i := 2) sc_law_end_spoiled.nd rfl (Or.inl rfl) (pe_ix ix_list (pe_lst (pa_cons pe_str (pa_cons pe_str (pa_cons pe_str (pa_cons pe_str (pa_cons pe_str (pa_cons pe_str (pa_cons pe_str (pa_cons pe_str pa_nil))))))))) (pe_d D_law_take (hr.mono (by decide)) rfl (pa_cons (pv 0) (pa_cons pe_int pa_nil))) (fun _ _ => rfl)))
      (pss_cons (ps_if (pt_cmpR op_eq (pe_d D_law_take (hr.mono (by decide)) rfl (pa_cons (pv 0) (pa_cons pe_int pa_nil))) pe_int (nomark _))
      (pss_one (ps_ret (pe_op opAddS (pv 2) (pv 1))))
      pss_nil)
      (pss_one (ps_ret (pe_op opAddS (pv 1) (pv 2)))))), ?_⟩
  try dsimp only [cxOf, Cx.nox, Cx.wish]
  obtain ⟨ab, bx, _, F, a_form, K0, rfl, hl, hb, hbx, hbF, hF, ⟨_, rfl, rfl⟩, k, q⟩ := h
  have O := NF.Fz.startB hF hbx hbF
  have lF := NF.Ex.rfl (B := del H ab) (F := F)
  refine (NF.x_seq (NF.x_asg (NF.x_op (NF.x_lst (NF.x_cons (NF.x_c (NF.x_cons (NF.x_c (NF.x_cons (NF.x_c (NF.x_cons (NF.x_c (NF.x_cons (NF.x_c (NF.x_cons (NF.x_c (NF.x_cons (NF.x_c (NF.x_cons (NF.x_c (NF.x_nil (NF.y_lstF O (show 8 ≤ sizeLine by decide) (fun p2 F H hp l0 O => (have lF := Ex.trans lF l0; (have h1 : (eLst eStr).rep F (.ref p2) [(Str.ofString "\n"), (Str.ofString " "), (Str.ofString ";"), (Str.ofString ","), (Str.ofString "."), (Str.ofString "0"), (Str.ofString "\t"), (Str.ofString ">")] := ⟨_, _, rfl, hp, .cons rfl (.cons rfl (.cons rfl (.cons rfl (.cons rfl (.cons rfl (.cons rfl (.cons rfl (.nil))))))))⟩; (NF.x_call (NF.x_cons (NF.x_var rfl (NF.x_cons (NF.x_c (NF.x_nil (NF.use_spWb (i := (8 : Int)) O 0 rfl hb rfl ⟨_, rfl, rfl⟩ k (fun y3 v F H bx4 hb l0 O hv k => NF.byI v hv (have h1 := Enc.mono (eLst eStr) l0.le h1; (have lF := Ex.trans lF l0; (have O : NF.Fz _ F H [(ab, HO.lst bx4)] := O; (Exists.elim k fun x5 hk => (have k := hk.2; (NF.y_ixL O.leF h1 hk.1 (fun u hu => NF.byS u hu (NF.x_name ?_)))))))))))))))))))))))))))))))))))))))))
  refine (NF.x_seq (NF.x_ifs (NF.x_test (NF.x_op (NF.x_call (NF.x_cons (NF.x_var rfl (NF.x_cons (NF.x_c (NF.x_nil (NF.use_spWb (i := (3 : Int)) O 0 rfl hb rfl ⟨_, rfl, rfl⟩ k (fun y6 v F H bx7 hb l0 O hv k => NF.byI v hv (have lF := Ex.trans lF l0; (have O : NF.Fz _ F H [(ab, HO.lst bx7)] := O; (NF.x_c (NF.y_eqI (NF.x_bl (NF.x_itb (fun g10 => (have k := k.1 g10; ?_)) (fun g10 => (have k := k.2 g10; ?_))))))))))))))))))))
  · exact (NF.x_ret (NF.x_op (NF.x_var rfl (NF.x_var rfl (have c8 := k.1; have k := k.2; (NF.x_addS c8 (q (x5 ++ a_form) k _ _ _ _ hb (O.get 0 rfl) (NF.keepB O.leB) O.leF (NF.exB lF O) rfl)))))))
  · refine NF.x_next ?_
    exact (NF.x_ret (NF.x_op (NF.x_var rfl (NF.x_var rfl (have c9 := k.1; have k := k.2; (NF.x_addS c9 (q (a_form ++ x5) k _ _ _ _ hb (O.get 0 rfl) (NF.keepB O.leB) O.leF (NF.exB lF O) rfl)))))))

def m_law_number_spoiled (a_way : Int) (a_form : Str) : W (Str) :=
  W.bind (m_law_runs a_form) fun y1 =>
  W.ite ((decide (a_way = (3 : Int))) || (!(!y1.isEmpty))) (W.bind (m_law_end_spoiled a_form) fun y5 =>
  W.ok y5)
  (W.bind (m_law_take (y1.length : Int)) fun y7 =>
  W.at_ y1 y7 fun x9 =>
  W.chk (a_form.length ≤ sizeLine) <|
  W.chk ((Str.ofString "0").length + (cutS a_form (some x9.1) (some x9.2)).length ≤ sizeLine) <|
  W.bind (W.ite (decide (a_way = (1 : Int))) (W.chk (MulOk (Str.ofString "0") (4399 : Int)) <|
  W.chk ((Str.ofString "1").length + (Txt.mul (Str.ofString "0") (4399 : Int)).length ≤ sizeLine) <|
  W.chk ([(Str.ofString "1000000000"), (Str.ofString "999999999"), ((Str.ofString "1") ++ (Txt.mul (Str.ofString "0") (4399 : Int))), (Str.ofString "0999999999"), (Str.ofString "00"), (Str.ofString "1_0"), (Str.ofString "+1"), (Str.ofString "-1")].length + [(Str.ofString " 1"), (Str.ofString "1 ")].length ≤ sizeLine) <|
  W.bind (m_law_take (([(Str.ofString "1000000000"), (Str.ofString "999999999"), ((Str.ofString "1") ++ (Txt.mul (Str.ofString "0") (4399 : Int))), (Str.ofString "0999999999"), (Str.ofString "00"), (Str.ofString "1_0"), (Str.ofString "+1"), (Str.ofString "-1")] ++ [(Str.ofString " 1"), (Str.ofString "1 ")]).length : Int)) fun y29 =>
  W.at_ ([(Str.ofString "1000000000"), (Str.ofString "999999999"), ((Str.ofString "1") ++ (Txt.mul (Str.ofString "0") (4399 : Int))), (Str.ofString "0999999999"), (Str.ofString "00"), (Str.ofString "1_0"), (Str.ofString "+1"), (Str.ofString "-1")] ++ [(Str.ofString " 1"), (Str.ofString "1 ")]) y29 fun x31 =>
  W.ok x31)
  (W.ok ((Str.ofString "0") ++ (cutS a_form (some x9.1) (some x9.2))))) fun z_fresh =>
  W.bind (W.ite (decide (a_way = (2 : Int))) (W.bind (m_law_take (12 : Int)) fun y35 =>
  W.chk ((y35).natAbs.log2 < 1920) <|
  W.ok (strI y35))
  (W.ok z_fresh)) fun z_fresh =>
  W.chk (a_form.length ≤ sizeLine) <|
  W.chk ((cutS a_form none (some x9.1)).length + z_fresh.length ≤ sizeLine) <|
  W.chk (a_form.length ≤ sizeLine) <|
  W.chk (((cutS a_form none (some x9.1)) ++ z_fresh).length + (cutS a_form (some x9.2) none).length ≤ sizeLine) <|
  W.ok (((cutS a_form none (some x9.1)) ++ z_fresh) ++ (cutS a_form (some x9.2) none)))
abbrev NM_law_number_spoiled : List Str := ["box", "way", "form", "runs", "start", "stop", "fresh", "menu"]
theorem sc_law_number_spoiled : FnScope NM_law_number_spoiled ["box", "way", "form"] (defScope s_law_number_spoiled) := ⟨rfl, rfl, rfl, by decide +kernel, rfl, by decide +kernel, by decide +kernel⟩
theorem d_law_number_spoiled (F : Fn0 K mg "_law_number_spoiled" s_law_number_spoiled) (T : Txt P K mg) (D_law_runs : Def P w K mg base 1 "_law_runs" ["form"] (spW 1 (fun F vs (i : Str) => ∃ v0, vs = [v0] ∧ eStr.rep F v0 i) (eLst (eP2 eInt eInt)) (fun (i : Str) => m_law_runs i))) (D_law_end_spoiled : Def P w K mg base 2 "_law_end_spoiled" ["box", "form"] (spWb BxW 1 (fun F vs (i : Str) => ∃ v0, vs = [v0] ∧ eStr.rep F v0 i) eStr (fun (i : Str) => m_law_end_spoiled i))) (D_law_take : Def P w K mg base 1 "_law_take" ["box", "many"] (spWb BxW 1 (fun F vs (i : Int) => ∃ v0, vs = [v0] ∧ eInt.rep F v0 i) eInt (fun (i : Int) => m_law_take i))) :
    Def P w K mg base 3 "_law_number_spoiled" ["box", "way", "form"] (spWb BxW 2 (fun F vs (i : Int × Str) => ∃ v0 v1, vs = [v0, v1] ∧ eInt.rep F v0 i.1 ∧ eStr.rep F v1 i.2) eStr (fun (i : Int × Str) => m_law_number_spoiled i.1 i.2)) := by
  refine Def.mk0 F sc_law_number_spoiled (by first | exact NF.hl_spW | exact NF.hl_spWb | exact NF.hl_spWX) (fun _ _ _ _ _ _ us hl => match us, hl with | [_, _, _], _ => rfl) (fun cdv A outer s H vs Q E hr h => ?_)
  refine ⟨_, (pss_cons (ps_set (i := 3) sc_law_number_spoiled.nd rfl (Or.inl rfl) (pe_d D_law_runs (hr.mono (by decide)) rfl (pa_cons (pv 2) pa_nil)))
      (pss_cons (ps_if (PW.pt (pw_or (pt_cmpR op_eq (pv 1) pe_int (nomark _)) (pw_or1 (pt_not (ptTruth (pv 3) (by intro _; rfl))))))
      (pss_one (ps_ret (pe_d D_law_end_spoiled (hr.mono (by decide)) rfl (pa_cons (pv 0) (pa_cons (pv 2) pa_nil)))))
      pss_nil)
      (pss_cons (ps_asg (pe_ix ix_list (pv 3) (pe_d D_law_take (hr.mono (by decide)) rfl (pa_cons (pv 0) (pa_cons (pe_callB (id := "len") callLen (by rfl) T.b_len (by decide +kernel) (pa_cons (pv 3) pa_nil)) pa_nil))) (fun _ _ => rfl)) (pg_tup (by rfl) (pgs_cons (pg_name (i := 4) sc_law_number_spoiled.nd rfl (Or.inl rfl)) (pgs_cons (pg_name (i := 5) sc_law_number_spoiled.nd rfl (Or.inl rfl)) pgs_nil))))
      (pss_cons (ps_set (i := 6) sc_law_number_spoiled.nd rfl (Or.inl rfl) (pe_op opAddS pe_str (pe_slice sl_str (pv 2) (po_some (pv 4)) (po_some (pv 5)))))
      (Evl.pss_cut (ps_if (pt_cmpR op_eq (pv 1) pe_int (nomark _))
      (pss_cons (ps_set (i := 7) sc_law_number_spoiled.nd rfl (Or.inl rfl) (pe_lst (pa_cons pe_str (pa_cons pe_str (pa_cons (pe_op opAddS pe_str (pe_op opMulS pe_str pe_int)) (pa_cons pe_str (pa_cons pe_str (pa_cons pe_str (pa_cons pe_str (pa_cons pe_str pa_nil))))))))))
      (pss_cons (ps_set (i := 7) sc_law_number_spoiled.nd rfl (Or.inl rfl) (pe_op op_cat (pv 7) (pe_lst (pa_cons pe_str (pa_cons pe_str pa_nil)))))
      (pss_one (ps_set (i := 6) sc_law_number_spoiled.nd rfl (Or.inl rfl) (pe_ix ix_list (pv 7) (pe_d D_law_take (hr.mono (by decide)) rfl (pa_cons (pv 0) (pa_cons (pe_callB (id := "len") callLen (by rfl) T.b_len (by decide +kernel) (pa_cons (pv 7) pa_nil)) pa_nil))) (fun _ _ => rfl))))))
      pss_nil)
      (Evl.pss_cut (ps_if (pt_cmpR op_eq (pv 1) pe_int (nomark _))
      (pss_one (ps_set (i := 6) sc_law_number_spoiled.nd rfl (Or.inl rfl) (pe_callTy (T := "str") callStrI (by rfl) T.b_str (by decide +kernel) (pa_cons (pe_d D_law_take (hr.mono (by decide)) rfl (pa_cons (pv 0) (pa_cons pe_int pa_nil))) pa_nil))))
      pss_nil)
      (pss_one (ps_ret (pe_op opAddS (pe_op opAddS (pe_slice sl_str (pv 2) po_none (po_some (pv 4))) (pv 6)) (pe_slice sl_str (pv 2) (po_some (pv 5)) po_none)))))))))), ?_⟩
  try dsimp only [cxOf, Cx.nox, Cx.wish]
  obtain ⟨ab, bx, _, F, ⟨a_way, a_form⟩, K0, rfl, hl, hb, hbx, hbF, hF, ⟨_, _, rfl, rfl, rfl⟩, k, q⟩ := h
  have O := NF.Fz.startB hF hbx hbF
  have lF := NF.Ex.rfl (B := del H ab) (F := F)
  refine (NF.x_seq (NF.x_asg (NF.x_call (NF.x_cons (NF.x_var rfl (NF.x_nil (NF.use_spW (i := a_form) O rfl ⟨_, rfl, rfl⟩ k (fun y1 v2 F H l0 O h3 k => (have lF := Ex.trans lF l0; (NF.x_name ?_))))))))))
  refine (NF.x_seq (NF.x_ifs (NF.y_orT (fun Q q => (NF.x_test (NF.x_op (NF.x_var rfl (NF.x_c (NF.y_eqI (NF.x_bl q))))))) (fun g4 Q q => (NF.x_not (NF.x_tru (NF.x_var rfl (NF.y_truL O.leF h3 q))))) (NF.x_itb (fun g43 => (have k := k.1 g43; ?_)) (fun g43 => (have k := k.2 g43; ?_))))))
  · exact (NF.x_ret (NF.x_call (NF.x_cons (NF.x_var rfl (NF.x_cons (NF.x_var rfl (NF.x_nil (NF.use_spWb (i := a_form) O 0 rfl hb rfl ⟨_, rfl, rfl⟩ k (fun y5 v F H bx6 hb l0 O hv k => NF.byS v hv (have h3 := Enc.mono (eLst (eP2 eInt eInt)) l0.le h3; (have lF := Ex.trans lF l0; (have O : NF.Fz _ F H [(ab, HO.lst bx6)] := O; (q y5 k _ _ _ _ hb (O.get 0 rfl) (NF.keepB O.leB) O.leF (NF.exB lF O) rfl)))))))))))))
  · refine NF.x_next ?_
    refine (NF.x_seq (NF.x_asg (NF.x_op (NF.x_var rfl (NF.x_call (NF.x_cons (NF.x_var rfl (NF.x_cons (NF.x_cb (NF.x_cons (NF.x_var rfl (NF.x_nil (NF.y_lenL O.leF h3 (NF.x_nil (NF.use_spWb (i := (y1.length : Int)) O 0 rfl hb rfl ⟨_, rfl, rfl⟩ k (fun y7 v F H bx8 hb l0 O hv k => NF.byI v hv (have h3 := Enc.mono (eLst (eP2 eInt eInt)) l0.le h3; (have lF := Ex.trans lF l0; (have O : NF.Fz _ F H [(ab, HO.lst bx8)] := O; (Exists.elim k fun x9 hk => (have k := hk.2; (NF.y_ixL O.leF h3 hk.1 (fun v10 h11 => (NF.y_un2 O.leF h11 (fun v12 v14 h13 h15 => (NF.byI v12 h13 (NF.byI v14 h15 (NF.g_cons (NF.x_name (NF.g_cons (NF.x_name (NF.g_nil ?_))))))))))))))))))))))))))))))))
    refine (NF.x_seq (NF.x_asg (NF.x_op (NF.x_c (NF.x_sl (NF.x_var rfl (NF.x_part (NF.x_var rfl (NF.x_pI (NF.x_part (NF.x_var rfl (NF.x_pI (have c16 := k.1; have k := k.2; (NF.x_slS c16 (have c17 := k.1; have k := k.2; (NF.x_addS c17 (NF.x_name ?_)))))))))))))))))
    refine NF.y_cut (fun (z_fresh : Str) (σ : L2.St) (F : Hp) (R : List (Addr × HO)) => ∃ u7 : Option V, ∃ bx : List V, σ = [some (.ref ab), some (.int a_way), some (.str a_form), some v2, some (.int x9.1), some (.int x9.2), some (.str z_fresh), u7] ∧ R = [(ab, HO.lst bx)] ∧ BxW bx) O k ?_ ?_
    · intro k lp18
      refine (NF.x_ifs (NF.x_test (NF.x_op (NF.x_var rfl (NF.x_c (NF.y_eqI (NF.x_bl (NF.x_itb (fun g32 => (have k := k.1 g32; ?_)) (fun g32 => (have k := k.2 g32; ?_))))))))))
      · refine (NF.x_seq (NF.x_asg (NF.x_lst (NF.x_cons (NF.x_c (NF.x_cons (NF.x_c (NF.x_cons (NF.x_op (NF.x_c (NF.x_op (NF.x_c (NF.x_c (have c20 := k.1; have k := k.2; (NF.y_mulS c20 (have c21 := k.1; have k := k.2; (NF.x_addS c21 (NF.x_cons (NF.x_c (NF.x_cons (NF.x_c (NF.x_cons (NF.x_c (NF.x_cons (NF.x_c (NF.x_cons (NF.x_c (NF.x_nil (NF.y_lstF O (show 8 ≤ sizeLine by decide) (fun p23 F H hp l0 O => (have h3 := Enc.mono (eLst (eP2 eInt eInt)) l0.le h3; (have lF := Ex.trans lF l0; (have lp18 := Ex.trans lp18 l0; (have h22 : (eLst eStr).rep F (.ref p23) [(Str.ofString "1000000000"), (Str.ofString "999999999"), ((Str.ofString "1") ++ (Txt.mul (Str.ofString "0") (4399 : Int))), (Str.ofString "0999999999"), (Str.ofString "00"), (Str.ofString "1_0"), (Str.ofString "+1"), (Str.ofString "-1")] := ⟨_, _, rfl, hp, .cons rfl (.cons rfl (.cons rfl (.cons rfl (.cons rfl (.cons rfl (.cons rfl (.cons rfl (.nil))))))))⟩; (NF.x_name ?_)))))))))))))))))))))))))))))))))))
        refine (NF.x_seq (NF.x_asg (NF.x_op (NF.x_var rfl (NF.x_lst (NF.x_cons (NF.x_c (NF.x_cons (NF.x_c (NF.x_nil (NF.y_lstF O (show 2 ≤ sizeLine by decide) (fun p25 F H hp l0 O => (have h3 := Enc.mono (eLst (eP2 eInt eInt)) l0.le h3; (have h22 := Enc.mono (eLst eStr) l0.le h22; (have lF := Ex.trans lF l0; (have lp18 := Ex.trans lp18 l0; (have h24 : (eLst eStr).rep F (.ref p25) [(Str.ofString " 1"), (Str.ofString "1 ")] := ⟨_, _, rfl, hp, .cons rfl (.cons rfl (.nil))⟩; (have c26 := k.1; have k := k.2; (NF.y_catF O h22 h24 c26 (fun p28 F H h27 l0 O => (have h3 := Enc.mono (eLst (eP2 eInt eInt)) l0.le h3; (have h22 := Enc.mono (eLst eStr) l0.le h22; (have h24 := Enc.mono (eLst eStr) l0.le h24; (have lF := Ex.trans lF l0; (have lp18 := Ex.trans lp18 l0; (NF.x_name ?_))))))))))))))))))))))))))
        refine (NF.x_asg (NF.x_op (NF.x_var rfl (NF.x_call (NF.x_cons (NF.x_var rfl (NF.x_cons (NF.x_cb (NF.x_cons (NF.x_var rfl (NF.x_nil (NF.y_lenL O.leF h27 (NF.x_nil (NF.use_spWb (i := (([(Str.ofString "1000000000"), (Str.ofString "999999999"), ((Str.ofString "1") ++ (Txt.mul (Str.ofString "0") (4399 : Int))), (Str.ofString "0999999999"), (Str.ofString "00"), (Str.ofString "1_0"), (Str.ofString "+1"), (Str.ofString "-1")] ++ [(Str.ofString " 1"), (Str.ofString "1 ")]).length : Int)) O 0 rfl hb rfl ⟨_, rfl, rfl⟩ k (fun y29 v F H bx30 hb l0 O hv k => NF.byI v hv (have h3 := Enc.mono (eLst (eP2 eInt eInt)) l0.le h3; (have h27 := Enc.mono (eLst eStr) l0.le h27; (have lF := Ex.trans lF l0; (have lp18 := Ex.trans lp18 l0; (have O : NF.Fz _ F H [(ab, HO.lst bx30)] := O; (Exists.elim k fun x31 hk => (have k := hk.2; (NF.y_ixL O.leF h27 hk.1 (fun u hu => NF.byS u hu (NF.x_name ?_)))))))))))))))))))))))))
        exact ⟨x31, _, _, lp18, O, ⟨_, _, rfl, rfl, hb⟩, k⟩
      · refine NF.x_next ?_
        exact ⟨((Str.ofString "0") ++ (cutS a_form (some x9.1) (some x9.2))), _, _, lp18, O, ⟨_, _, rfl, rfl, hb⟩, k⟩
    · rintro z_fresh _ F _ H l0 O ⟨u7, bx, rfl, rfl, hb⟩ k
      have h3 := Enc.mono (eLst (eP2 eInt eInt)) l0.le h3
      have lF := Ex.trans lF l0
      refine NF.y_cut (fun (z_fresh : Str) (σ : L2.St) (F : Hp) (R : List (Addr × HO)) => ∃ u7 : Option V, ∃ bx : List V, σ = [some (.ref ab), some (.int a_way), some (.str a_form), some v2, some (.int x9.1), some (.int x9.2), some (.str z_fresh), u7] ∧ R = [(ab, HO.lst bx)] ∧ BxW bx) O k ?_ ?_
      · intro k lp33
        refine (NF.x_ifs (NF.x_test (NF.x_op (NF.x_var rfl (NF.x_c (NF.y_eqI (NF.x_bl (NF.x_itb (fun g38 => (have k := k.1 g38; ?_)) (fun g38 => (have k := k.2 g38; ?_))))))))))
        · refine (NF.x_asg (NF.x_cb (NF.x_cons (NF.x_call (NF.x_cons (NF.x_var rfl (NF.x_cons (NF.x_c (NF.x_nil (NF.use_spWb (i := (12 : Int)) O 0 rfl hb rfl ⟨_, rfl, rfl⟩ k (fun y35 v F H bx36 hb l0 O hv k => NF.byI v hv (have h3 := Enc.mono (eLst (eP2 eInt eInt)) l0.le h3; (have lF := Ex.trans lF l0; (have lp33 := Ex.trans lp33 l0; (have O : NF.Fz _ F H [(ab, HO.lst bx36)] := O; (NF.x_nil (have c37 := k.1; have k := k.2; (NF.x_strI c37 (NF.x_name ?_)))))))))))))))))))
          exact ⟨(strI y35), _, _, lp33, O, ⟨_, _, rfl, rfl, hb⟩, k⟩
        · refine NF.x_next ?_
          exact ⟨z_fresh, _, _, lp33, O, ⟨_, _, rfl, rfl, hb⟩, k⟩
      · rintro z_fresh _ F _ H l0 O ⟨u7, bx, rfl, rfl, hb⟩ k
        have h3 := Enc.mono (eLst (eP2 eInt eInt)) l0.le h3
        have lF := Ex.trans lF l0
        exact (NF.x_ret (NF.x_op (NF.x_op (NF.x_sl (NF.x_var rfl (NF.x_noPart (NF.x_part (NF.x_var rfl (NF.x_pI (have c39 := k.1; have k := k.2; (NF.x_slS c39 (NF.x_var rfl (have c40 := k.1; have k := k.2; (NF.x_addS c40 (NF.x_sl (NF.x_var rfl (NF.x_part (NF.x_var rfl (NF.x_pI (NF.x_noPart (have c41 := k.1; have k := k.2; (NF.x_slS c41 (have c42 := k.1; have k := k.2; (NF.x_addS c42 (q (((cutS a_form none (some x9.1)) ++ z_fresh) ++ (cutS a_form (some x9.2) none)) k _ _ _ _ hb (O.get 0 rfl) (NF.keepB O.leB) O.leF (NF.exB lF O) rfl)))))))))))))))))))))))))

def m_law_spoiled (a_form : Str) : W (Str) :=
  W.bind (m_law_take (12 : Int)) fun y1 =>
  W.ite (decide (y1 < (4 : Int))) (W.bind (m_law_sign_spoiled y1 a_form) fun y3 =>
  W.ok y3)
  (W.ite (decide (y1 < (8 : Int))) (W.bind (m_law_piece_spoiled (y1 - (4 : Int)) a_form) fun y5 =>
  W.ok y5)
  (W.bind (m_law_number_spoiled (y1 - (8 : Int)) a_form) fun y7 =>
  W.ok y7))
abbrev NM_law_spoiled : List Str := ["box", "form", "way"]
theorem sc_law_spoiled : FnScope NM_law_spoiled ["box", "form"] (defScope s_law_spoiled) := ⟨rfl, rfl, rfl, by decide +kernel, rfl, by decide +kernel, by decide +kernel⟩
theorem d_law_spoiled (F : Fn0 K mg "_law_spoiled" s_law_spoiled) (T : Txt P K mg) (D_law_take : Def P w K mg base 1 "_law_take" ["box", "many"] (spWb BxW 1 (fun F vs (i : Int) => ∃ v0, vs = [v0] ∧ eInt.rep F v0 i) eInt (fun (i : Int) => m_law_take i))) (D_law_number_spoiled : Def P w K mg base 3 "_law_number_spoiled" ["box", "way", "form"] (spWb BxW 2 (fun F vs (i : Int × Str) => ∃ v0 v1, vs = [v0, v1] ∧ eInt.rep F v0 i.1 ∧ eStr.rep F v1 i.2) eStr (fun (i : Int × Str) => m_law_number_spoiled i.1 i.2))) (D_law_sign_spoiled : Def P w K mg base 2 "_law_sign_spoiled" ["box", "way", "form"] (spWb BxW 2 (fun F vs (i : Int × Str) => ∃ v0 v1, vs = [v0, v1] ∧ eInt.rep F v0 i.1 ∧ eStr.rep F v1 i.2) eStr (fun (i : Int × Str) => m_law_sign_spoiled i.1 i.2))) (D_law_piece_spoiled : Def P w K mg base 2 "_law_piece_spoiled" ["box", "way", "form"] (spWb BxW 2 (fun F vs (i : Int × Str) => ∃ v0 v1, vs = [v0, v1] ∧ eInt.rep F v0 i.1 ∧ eStr.rep F v1 i.2) eStr (fun (i : Int × Str) => m_law_piece_spoiled i.1 i.2))) :
    Def P w K mg base 4 "_law_spoiled" ["box", "form"] (spWb BxW 1 (fun F vs (i : Str) => ∃ v0, vs = [v0] ∧ eStr.rep F v0 i) eStr (fun (i : Str) => m_law_spoiled i)) := by
  refine Def.mk0 F sc_law_spoiled (by first | exact NF.hl_spW | exact NF.hl_spWb | exact NF.hl_spWX) (fun _ _ _ _ _ _ us hl => match us, hl with | [_, _], _ => rfl) (fun cdv A outer s H vs Q E hr h => ?_)
  refine ⟨_, (pss_cons (ps_set (i := 2) sc_law_spoiled.nd rfl (Or.inl rfl) (pe_d D_law_take (hr.mono (by decide)) rfl (pa_cons (pv 0) (pa_cons pe_int pa_nil))))
      (pss_cons (ps_if (pt_cmpR op_lt (pv 2) pe_int (nomark _))
      (pss_one (ps_ret (pe_d D_law_sign_spoiled (hr.mono (by decide)) rfl (pa_cons (pv 0) (pa_cons (pv 2) (pa_cons (pv 1) pa_nil))))))
      pss_nil)
      (pss_cons (ps_if (pt_cmpR op_lt (pv 2) pe_int (nomark _))
      (pss_one (ps_ret (pe_d D_law_piece_spoiled (hr.mono (by decide)) rfl (pa_cons (pv 0) (pa_cons (pe_op op_sub (pv 2) pe_int) (pa_cons (pv 1) pa_nil))))))
      pss_nil)
      (pss_one (ps_ret (pe_d D_law_number_spoiled (hr.mono (by decide)) rfl (pa_cons (pv 0) (pa_cons (pe_op op_sub (pv 2) pe_int) (pa_cons (pv 1) pa_nil))))))))), ?_⟩
  try dsimp only [cxOf, Cx.nox, Cx.wish]
  obtain ⟨ab, bx, _, F, a_form, K0, rfl, hl, hb, hbx, hbF, hF, ⟨_, rfl, rfl⟩, k, q⟩ := h
  have O := NF.Fz.startB hF hbx hbF
  have lF := NF.Ex.rfl (B := del H ab) (F := F)
  refine (NF.x_seq (NF.x_asg (NF.x_call (NF.x_cons (NF.x_var rfl (NF.x_cons (NF.x_c (NF.x_nil (NF.use_spWb (i := (12 : Int)) O 0 rfl hb rfl ⟨_, rfl, rfl⟩ k (fun y1 v F H bx2 hb l0 O hv k => NF.byI v hv (have lF := Ex.trans lF l0; (have O : NF.Fz _ F H [(ab, HO.lst bx2)] := O; (NF.x_name ?_)))))))))))))
  refine (NF.x_seq (NF.x_ifs (NF.x_test (NF.x_op (NF.x_var rfl (NF.x_c (NF.x_I0 (NF.x_bl (NF.x_itb (fun g10 => (have k := k.1 g10; ?_)) (fun g10 => (have k := k.2 g10; ?_)))))))))))
  · exact (NF.x_ret (NF.x_call (NF.x_cons (NF.x_var rfl (NF.x_cons (NF.x_var rfl (NF.x_cons (NF.x_var rfl (NF.x_nil (NF.use_spWb (i := (y1, a_form)) O 0 rfl hb rfl ⟨_, _, rfl, rfl, rfl⟩ k (fun y3 v F H bx4 hb l0 O hv k => NF.byS v hv (have lF := Ex.trans lF l0; (have O : NF.Fz _ F H [(ab, HO.lst bx4)] := O; (q y3 k _ _ _ _ hb (O.get 0 rfl) (NF.keepB O.leB) O.leF (NF.exB lF O) rfl))))))))))))))
  · refine NF.x_next ?_
    refine (NF.x_seq (NF.x_ifs (NF.x_test (NF.x_op (NF.x_var rfl (NF.x_c (NF.x_I0 (NF.x_bl (NF.x_itb (fun g9 => (have k := k.1 g9; ?_)) (fun g9 => (have k := k.2 g9; ?_)))))))))))
    · exact (NF.x_ret (NF.x_call (NF.x_cons (NF.x_var rfl (NF.x_cons (NF.x_op (NF.x_var rfl (NF.x_c (NF.x_I0 (NF.x_cons (NF.x_var rfl (NF.x_nil (NF.use_spWb (i := ((y1 - (4 : Int)), a_form)) O 0 rfl hb rfl ⟨_, _, rfl, rfl, rfl⟩ k (fun y5 v F H bx6 hb l0 O hv k => NF.byS v hv (have lF := Ex.trans lF l0; (have O : NF.Fz _ F H [(ab, HO.lst bx6)] := O; (q y5 k _ _ _ _ hb (O.get 0 rfl) (NF.keepB O.leB) O.leF (NF.exB lF O) rfl)))))))))))))))))
    · refine NF.x_next ?_
      exact (NF.x_ret (NF.x_call (NF.x_cons (NF.x_var rfl (NF.x_cons (NF.x_op (NF.x_var rfl (NF.x_c (NF.x_I0 (NF.x_cons (NF.x_var rfl (NF.x_nil (NF.use_spWb (i := ((y1 - (8 : Int)), a_form)) O 0 rfl hb rfl ⟨_, _, rfl, rfl, rfl⟩ k (fun y7 v F H bx8 hb l0 O hv k => NF.byS v hv (have lF := Ex.trans lF l0; (have O : NF.Fz _ F H [(ab, HO.lst bx8)] := O; (q y7 k _ _ _ _ hb (O.get 0 rfl) (NF.keepB O.leB) O.leF (NF.exB lF O) rfl)))))))))))))))))


def m_law_sameP (a_told : List ((List Int) × (List Int))) (a_due : List ((List Int) × (List Int))) : W (Bool) :=
  W.chk (EqOk (eTup (eP2 (eTup eInt) (eTup eInt))) a_told ∧ EqOk (eTup (eP2 (eTup eInt) (eTup eInt))) a_due) <|
  W.ite (!decide (a_told = a_due)) (W.ok false)
  (W.for_ a_told () (fun (x3 : (List Int) × (List Int)) (s : Unit) =>
  W.for_ [x3.1, x3.2] () (fun (x9 : List Int) (s : Unit) =>
  W.for_ x9 () (fun (x13 : Int) (s : Unit) =>
  W.ok (.nx ())) (fun (s : Unit) =>
  W.ok (.nx ()))) (fun (s : Unit) =>
  W.ok (.nx ()))) (fun (s : Unit) =>
  W.ok true))
abbrev NM_law_sameP : List Str := ["told", "due", "row", "state", "number"]
theorem sc_law_sameP : FnScope NM_law_sameP ["told", "due"] (defScope s_law_sameP) := ⟨rfl, rfl, rfl, by decide +kernel, rfl, by decide +kernel, by decide +kernel⟩
theorem d_law_sameP (F : Fn0 K mg "_law_same" s_law_sameP) (T : Txt P K mg)  :
    Def P w K mg base 1 "_law_same" ["told", "due"] (spW 2 (fun F vs (i : (List ((List Int) × (List Int))) × (List ((List Int) × (List Int)))) => ∃ v0 v1, vs = [v0, v1] ∧ (eTup (eP2 (eTup eInt) (eTup eInt))).rep F v0 i.1 ∧ (eTup (eP2 (eTup eInt) (eTup eInt))).rep F v1 i.2) eBool (fun (i : (List ((List Int) × (List Int))) × (List ((List Int) × (List Int)))) => m_law_sameP i.1 i.2)) := by
  refine Def.mk0 F sc_law_sameP (by first | exact NF.hl_spW | exact NF.hl_spWb | exact NF.hl_spWX) (fun _ _ _ _ _ _ us hl => match us, hl with | [_, _], _ => rfl) (fun cdv A outer s H vs Q E hr h => ?_)
  refine ⟨_, (pss_cons (ps_if (pt_cmpR (op_neD hr.units) (pv 0) (pv 1) (nomark _))
      (pss_one (ps_ret pe_bl))
      pss_nil)
      (pss_cons (ps_for PassesOwn.never rfl (pi_tup (pv 0)) (pg_name (i := 2) sc_law_sameP.nd rfl (Or.inl rfl))
      (pss_one (ps_for PassesOwn.never rfl (pi_tup (pe_slice sl_tupA (pv 2) po_none (po_some pe_int))) (pg_name (i := 3) sc_law_sameP.nd rfl (Or.inl rfl))
      (pss_one (ps_for PassesOwn.never rfl (pi_tup (pv 3)) (pg_name (i := 4) sc_law_sameP.nd rfl (Or.inl rfl))
      (pss_one (ps_if (pt_val (pe_callB callIsT (by rfl) T.b_isinstance (by decide +kernel) (pa_cons (pv 4) (pa_cons (pe_ty (n := "bool") (by rfl) T.b_bool (by decide +kernel)) pa_nil))))
      (pss_one (ps_ret pe_bl))
      pss_nil)))))))
      (pss_one (ps_ret pe_bl)))), ?_⟩
  try dsimp only [cxOf, Cx.nox, Cx.wish]
  obtain ⟨hl, F, ⟨a_told, a_due⟩, K0, hF, ⟨v_told, v_due, rfl, h_told, h_due⟩, k, q⟩ := h
  have O := NF.Fz.start hF
  have lF := NF.Ex.rfl (B := H) (F := F)
  refine (NF.x_seq (NF.x_ifs (NF.x_test (NF.x_op (NF.x_var rfl (NF.x_var rfl (have c1 := k.1; have k := k.2; (NF.y_neD O.leF h_told h_due c1.1 c1.2 (NF.x_bl (NF.x_itb (fun g16 => (have k := k.1 g16; ?_)) (fun g16 => (have k := k.2 g16; ?_))))))))))))
  · exact (NF.x_ret (NF.x_c (q false k _ _ _ O.leB O.leF lF rfl)))
  · refine NF.x_next ?_
    refine (NF.x_seq (NF.x_for (NF.x_jT (NF.x_var rfl (NF.y_jT O.leF h_told (fun J T => (NF.y_for (σt := Unit) (fun (_s : Unit) (σ : L2.St) (F : Hp) (R : List (Addr × HO)) => ∃ u2 : Option V, ∃ u3 : Option V, ∃ u4 : Option V, σ = [some v_told, some v_due, u2, u3, u4] ∧ R = []) T O k ⟨_, _, _, rfl, rfl⟩ ?_ ?_)))))))
    · rintro x3 r _ _ F0 F _ H v4 lp2 ⟨u2, u3, u4, rfl, rfl⟩ l1 O h5 k
      have lp2 := Ex.trans lp2 l1
      have h_told := Enc.mono (eTup (eP2 (eTup eInt) (eTup eInt))) lp2.le h_told
      have h_due := Enc.mono (eTup (eP2 (eTup eInt) (eTup eInt))) lp2.le h_due
      have lF := Ex.trans lF lp2
      refine NF.x_name ?_
      refine (NF.x_for (NF.x_jT (NF.x_sl (NF.x_var rfl (NF.x_noPart (NF.x_part (NF.x_c (NF.x_pI (NF.y_slP22 O h5 (fun v7 F H h6 l0 O => (have h_told := Enc.mono (eTup (eP2 (eTup eInt) (eTup eInt))) l0.le h_told; (have h_due := Enc.mono (eTup (eP2 (eTup eInt) (eTup eInt))) l0.le h_due; (have h5 := Enc.mono (eP2 (eTup eInt) (eTup eInt)) l0.le h5; (have lF := Ex.trans lF l0; (have lp2 := Ex.trans lp2 l0; (NF.y_jT O.leF h6 (fun J T => (NF.y_for (σt := Unit) (fun (_s : Unit) (σ : L2.St) (F : Hp) (R : List (Addr × HO)) => ∃ u3 : Option V, ∃ u4 : Option V, σ = [some v_told, some v_due, some v4, u3, u4] ∧ R = []) T O k ⟨_, _, rfl, rfl⟩ ?_ ?_))))))))))))))))))
      · rintro x9 r _ _ F0 F _ H v10 lp8 ⟨u3, u4, rfl, rfl⟩ l1 O h11 k
        have lp8 := Ex.trans lp8 l1
        have h_told := Enc.mono (eTup (eP2 (eTup eInt) (eTup eInt))) lp8.le h_told
        have h_due := Enc.mono (eTup (eP2 (eTup eInt) (eTup eInt))) lp8.le h_due
        have h5 := Enc.mono (eP2 (eTup eInt) (eTup eInt)) lp8.le h5
        have h6 := Enc.mono (eTup (eTup eInt)) lp8.le h6
        have lF := Ex.trans lF lp8
        have lp2 := Ex.trans lp2 lp8
        refine NF.x_name ?_
        refine (NF.x_for (NF.x_jT (NF.x_var rfl (NF.y_jT O.leF h11 (fun J T => (NF.y_for (σt := Unit) (fun (_s : Unit) (σ : L2.St) (F : Hp) (R : List (Addr × HO)) => ∃ u4 : Option V, σ = [some v_told, some v_due, some v4, some v10, u4] ∧ R = []) T O k ⟨_, rfl, rfl⟩ ?_ ?_))))))
        · rintro x13 r _ _ F0 F _ H v14 lp12 ⟨u4, rfl, rfl⟩ l1 O h15 k
          have lp12 := Ex.trans lp12 l1
          have h_told := Enc.mono (eTup (eP2 (eTup eInt) (eTup eInt))) lp12.le h_told
          have h_due := Enc.mono (eTup (eP2 (eTup eInt) (eTup eInt))) lp12.le h_due
          have h5 := Enc.mono (eP2 (eTup eInt) (eTup eInt)) lp12.le h5
          have h11 := Enc.mono (eTup eInt) lp12.le h11
          have lF := Ex.trans lF lp12
          have lp2 := Ex.trans lp2 lp12
          have lp8 := Ex.trans lp8 lp12
          cases h15
          refine NF.x_name ?_
          refine (NF.x_ifs (NF.x_B (NF.x_cb (NF.x_cons (NF.x_var rfl (NF.x_cons (NF.x_c (NF.x_nil (NF.x_isI NF.kit_int_bool (NF.x_bl (NF.x_ff ?_)))))))))))
          refine NF.x_next ?_
          exact ⟨(), _, _, lp12, O, ⟨_, rfl, rfl⟩, k⟩
        · rintro _ _ F _ H l0 O ⟨u4, rfl, rfl⟩ k
          have h_told := Enc.mono (eTup (eP2 (eTup eInt) (eTup eInt))) l0.le h_told
          have h_due := Enc.mono (eTup (eP2 (eTup eInt) (eTup eInt))) l0.le h_due
          have h5 := Enc.mono (eP2 (eTup eInt) (eTup eInt)) l0.le h5
          have h11 := Enc.mono (eTup eInt) l0.le h11
          have lF := Ex.trans lF l0
          have lp2 := Ex.trans lp2 l0
          have lp8 := Ex.trans lp8 l0
          exact ⟨(), _, _, lp8, O, ⟨_, _, rfl, rfl⟩, k⟩
      · rintro _ _ F _ H l0 O ⟨u3, u4, rfl, rfl⟩ k
        have h_told := Enc.mono (eTup (eP2 (eTup eInt) (eTup eInt))) l0.le h_told
        have h_due := Enc.mono (eTup (eP2 (eTup eInt) (eTup eInt))) l0.le h_due
        have h5 := Enc.mono (eP2 (eTup eInt) (eTup eInt)) l0.le h5
        have h6 := Enc.mono (eTup (eTup eInt)) l0.le h6
        have lF := Ex.trans lF l0
        have lp2 := Ex.trans lp2 l0
        exact ⟨(), _, _, lp2, O, ⟨_, _, _, rfl, rfl⟩, k⟩
    · rintro _ _ F _ H l0 O ⟨u2, u3, u4, rfl, rfl⟩ k
      have h_told := Enc.mono (eTup (eP2 (eTup eInt) (eTup eInt))) l0.le h_told
      have h_due := Enc.mono (eTup (eP2 (eTup eInt) (eTup eInt))) l0.le h_due
      have lF := Ex.trans lF l0
      exact (NF.x_ret (NF.x_c (q true k _ _ _ O.leB O.leF lF rfl)))

def m_law_sameR (a_told : List ((List Int) × (List Int) × (List Str))) (a_due : List ((List Int) × (List Int) × (List Str))) : W (Bool) :=
  W.chk (EqOk (eTup (eP3 (eTup eInt) (eTup eInt) (eTup eStr))) a_told ∧ EqOk (eTup (eP3 (eTup eInt) (eTup eInt) (eTup eStr))) a_due) <|
  W.ite (!decide (a_told = a_due)) (W.ok false)
  (W.for_ a_told () (fun (x3 : (List Int) × (List Int) × (List Str)) (s : Unit) =>
  W.for_ [x3.1, x3.2.1] () (fun (x9 : List Int) (s : Unit) =>
  W.for_ x9 () (fun (x13 : Int) (s : Unit) =>
  W.ok (.nx ())) (fun (s : Unit) =>
  W.ok (.nx ()))) (fun (s : Unit) =>
  W.ok (.nx ()))) (fun (s : Unit) =>
  W.ok true))
abbrev NM_law_sameR : List Str := ["told", "due", "row", "state", "number"]
theorem sc_law_sameR : FnScope NM_law_sameR ["told", "due"] (defScope s_law_sameR) := ⟨rfl, rfl, rfl, by decide +kernel, rfl, by decide +kernel, by decide +kernel⟩
theorem d_law_sameR (F : Fn0 K mg "_law_same" s_law_sameR) (T : Txt P K mg)  :
    Def P w K mg base 1 "_law_same" ["told", "due"] (spW 2 (fun F vs (i : (List ((List Int) × (List Int) × (List Str))) × (List ((List Int) × (List Int) × (List Str)))) => ∃ v0 v1, vs = [v0, v1] ∧ (eTup (eP3 (eTup eInt) (eTup eInt) (eTup eStr))).rep F v0 i.1 ∧ (eTup (eP3 (eTup eInt) (eTup eInt) (eTup eStr))).rep F v1 i.2) eBool (fun (i : (List ((List Int) × (List Int) × (List Str))) × (List ((List Int) × (List Int) × (List Str)))) => m_law_sameR i.1 i.2)) := by
  refine Def.mk0 F sc_law_sameR (by first | exact NF.hl_spW | exact NF.hl_spWb | exact NF.hl_spWX) (fun _ _ _ _ _ _ us hl => match us, hl with | [_, _], _ => rfl) (fun cdv A outer s H vs Q E hr h => ?_)
  refine ⟨_, (pss_cons (ps_if (pt_cmpR (op_neD hr.units) (pv 0) (pv 1) (nomark _))
      (pss_one (ps_ret pe_bl))
      pss_nil)
      (pss_cons (ps_for PassesOwn.never rfl (pi_tup (pv 0)) (pg_name (i := 2) sc_law_sameR.nd rfl (Or.inl rfl))
      (pss_one (ps_for PassesOwn.never rfl (pi_tup (pe_slice sl_tupA (pv 2) po_none (po_some pe_int))) (pg_name (i := 3) sc_law_sameR.nd rfl (Or.inl rfl))
      (pss_one (ps_for PassesOwn.never rfl (pi_tup (pv 3)) (pg_name (i := 4) sc_law_sameR.nd rfl (Or.inl rfl))
      (pss_one (ps_if (pt_val (pe_callB callIsT (by rfl) T.b_isinstance (by decide +kernel) (pa_cons (pv 4) (pa_cons (pe_ty (n := "bool") (by rfl) T.b_bool (by decide +kernel)) pa_nil))))
      (pss_one (ps_ret pe_bl))
      pss_nil)))))))
      (pss_one (ps_ret pe_bl)))), ?_⟩
  try dsimp only [cxOf, Cx.nox, Cx.wish]
  obtain ⟨hl, F, ⟨a_told, a_due⟩, K0, hF, ⟨v_told, v_due, rfl, h_told, h_due⟩, k, q⟩ := h
  have O := NF.Fz.start hF
  have lF := NF.Ex.rfl (B := H) (F := F)
  refine (NF.x_seq (NF.x_ifs (NF.x_test (NF.x_op (NF.x_var rfl (NF.x_var rfl (have c1 := k.1; have k := k.2; (NF.y_neD O.leF h_told h_due c1.1 c1.2 (NF.x_bl (NF.x_itb (fun g16 => (have k := k.1 g16; ?_)) (fun g16 => (have k := k.2 g16; ?_))))))))))))
  · exact (NF.x_ret (NF.x_c (q false k _ _ _ O.leB O.leF lF rfl)))
  · refine NF.x_next ?_
    refine (NF.x_seq (NF.x_for (NF.x_jT (NF.x_var rfl (NF.y_jT O.leF h_told (fun J T => (NF.y_for (σt := Unit) (fun (_s : Unit) (σ : L2.St) (F : Hp) (R : List (Addr × HO)) => ∃ u2 : Option V, ∃ u3 : Option V, ∃ u4 : Option V, σ = [some v_told, some v_due, u2, u3, u4] ∧ R = []) T O k ⟨_, _, _, rfl, rfl⟩ ?_ ?_)))))))
    · rintro x3 r _ _ F0 F _ H v4 lp2 ⟨u2, u3, u4, rfl, rfl⟩ l1 O h5 k
      have lp2 := Ex.trans lp2 l1
      have h_told := Enc.mono (eTup (eP3 (eTup eInt) (eTup eInt) (eTup eStr))) lp2.le h_told
      have h_due := Enc.mono (eTup (eP3 (eTup eInt) (eTup eInt) (eTup eStr))) lp2.le h_due
      have lF := Ex.trans lF lp2
      refine NF.x_name ?_
      refine (NF.x_for (NF.x_jT (NF.x_sl (NF.x_var rfl (NF.x_noPart (NF.x_part (NF.x_c (NF.x_pI (NF.y_slP32 O h5 (fun v7 F H h6 l0 O => (have h_told := Enc.mono (eTup (eP3 (eTup eInt) (eTup eInt) (eTup eStr))) l0.le h_told; (have h_due := Enc.mono (eTup (eP3 (eTup eInt) (eTup eInt) (eTup eStr))) l0.le h_due; (have h5 := Enc.mono (eP3 (eTup eInt) (eTup eInt) (eTup eStr)) l0.le h5; (have lF := Ex.trans lF l0; (have lp2 := Ex.trans lp2 l0; (NF.y_jT O.leF h6 (fun J T => (NF.y_for (σt := Unit) (fun (_s : Unit) (σ : L2.St) (F : Hp) (R : List (Addr × HO)) => ∃ u3 : Option V, ∃ u4 : Option V, σ = [some v_told, some v_due, some v4, u3, u4] ∧ R = []) T O k ⟨_, _, rfl, rfl⟩ ?_ ?_))))))))))))))))))
      · rintro x9 r _ _ F0 F _ H v10 lp8 ⟨u3, u4, rfl, rfl⟩ l1 O h11 k
        have lp8 := Ex.trans lp8 l1
        have h_told := Enc.mono (eTup (eP3 (eTup eInt) (eTup eInt) (eTup eStr))) lp8.le h_told
        have h_due := Enc.mono (eTup (eP3 (eTup eInt) (eTup eInt) (eTup eStr))) lp8.le h_due
        have h5 := Enc.mono (eP3 (eTup eInt) (eTup eInt) (eTup eStr)) lp8.le h5
        have h6 := Enc.mono (eTup (eTup eInt)) lp8.le h6
        have lF := Ex.trans lF lp8
        have lp2 := Ex.trans lp2 lp8
        refine NF.x_name ?_
        refine (NF.x_for (NF.x_jT (NF.x_var rfl (NF.y_jT O.leF h11 (fun J T => (NF.y_for (σt := Unit) (fun (_s : Unit) (σ : L2.St) (F : Hp) (R : List (Addr × HO)) => ∃ u4 : Option V, σ = [some v_told, some v_due, some v4, some v10, u4] ∧ R = []) T O k ⟨_, rfl, rfl⟩ ?_ ?_))))))
        · rintro x13 r _ _ F0 F _ H v14 lp12 ⟨u4, rfl, rfl⟩ l1 O h15 k
          have lp12 := Ex.trans lp12 l1
          have h_told := Enc.mono (eTup (eP3 (eTup eInt) (eTup eInt) (eTup eStr))) lp12.le h_told
          have h_due := Enc.mono (eTup (eP3 (eTup eInt) (eTup eInt) (eTup eStr))) lp12.le h_due
          have h5 := Enc.mono (eP3 (eTup eInt) (eTup eInt) (eTup eStr)) lp12.le h5
          have h11 := Enc.mono (eTup eInt) lp12.le h11
          have lF := Ex.trans lF lp12
          have lp2 := Ex.trans lp2 lp12
          have lp8 := Ex.trans lp8 lp12
          cases h15
          refine NF.x_name ?_
          refine (NF.x_ifs (NF.x_B (NF.x_cb (NF.x_cons (NF.x_var rfl (NF.x_cons (NF.x_c (NF.x_nil (NF.x_isI NF.kit_int_bool (NF.x_bl (NF.x_ff ?_)))))))))))
          refine NF.x_next ?_
          exact ⟨(), _, _, lp12, O, ⟨_, rfl, rfl⟩, k⟩
        · rintro _ _ F _ H l0 O ⟨u4, rfl, rfl⟩ k
          have h_told := Enc.mono (eTup (eP3 (eTup eInt) (eTup eInt) (eTup eStr))) l0.le h_told
          have h_due := Enc.mono (eTup (eP3 (eTup eInt) (eTup eInt) (eTup eStr))) l0.le h_due
          have h5 := Enc.mono (eP3 (eTup eInt) (eTup eInt) (eTup eStr)) l0.le h5
          have h11 := Enc.mono (eTup eInt) l0.le h11
          have lF := Ex.trans lF l0
          have lp2 := Ex.trans lp2 l0
          have lp8 := Ex.trans lp8 l0
          exact ⟨(), _, _, lp8, O, ⟨_, _, rfl, rfl⟩, k⟩
      · rintro _ _ F _ H l0 O ⟨u3, u4, rfl, rfl⟩ k
        have h_told := Enc.mono (eTup (eP3 (eTup eInt) (eTup eInt) (eTup eStr))) l0.le h_told
        have h_due := Enc.mono (eTup (eP3 (eTup eInt) (eTup eInt) (eTup eStr))) l0.le h_due
        have h5 := Enc.mono (eP3 (eTup eInt) (eTup eInt) (eTup eStr)) l0.le h5
        have h6 := Enc.mono (eTup (eTup eInt)) l0.le h6
        have lF := Ex.trans lF l0
        have lp2 := Ex.trans lp2 l0
        exact ⟨(), _, _, lp2, O, ⟨_, _, _, rfl, rfl⟩, k⟩
    · rintro _ _ F _ H l0 O ⟨u2, u3, u4, rfl, rfl⟩ k
      have h_told := Enc.mono (eTup (eP3 (eTup eInt) (eTup eInt) (eTup eStr))) l0.le h_told
      have h_due := Enc.mono (eTup (eP3 (eTup eInt) (eTup eInt) (eTup eStr))) l0.le h_due
      have lF := Ex.trans lF l0
      exact (NF.x_ret (NF.x_c (q true k _ _ _ O.leB O.leF lF rfl)))

theorem told_err {α : Type} {F : Hp} {e : Enc α} {v : V} {r : Except Unit α} (h : (eTold e).rep F v r) : ∃ a w, v = .ref a ∧ ((∃ y, r = .ok y ∧ F a = some (.tup [.int 0, w]) ∧ e.rep F w y) ∨ (r = .error () ∧ w = .bl true ∧ F a = some (.tup [.int 1, w]))) := by
  cases r with
  | ok y =>
    obtain ⟨a, v1, v2, rfl, h0, h1, h2⟩ := h
    cases h1
    exact ⟨a, v2, rfl, .inl ⟨y, rfl, h0, h2⟩⟩
  | error u =>
    obtain ⟨a, v1, v2, rfl, h0, h1, h2⟩ := h
    cases h1
    cases h2
    exact ⟨a, _, rfl, .inr ⟨rfl, rfl, h0⟩⟩
def toldK {α : Type} (K : Except Unit α → Prop) : Except Exn α → Prop
  | .ok y => K (.ok y)
  | .error e => e = ((Str.ofString "BadForm", none) : Exn) ∧ K (.error ())
def m_law_told_pairs (z : Str) : W (Except Unit (List (List Int × List Int))) := fun K => m_read_pairs z (toldK K)
def m_law_told_rows (z : Str) : W (Except Unit (List (List Int × List Int × List Str))) := fun K => m_read_rows z (toldK K)
abbrev NM_law_told_pairs : List Str := ["form", "e"]
theorem sc_law_told_pairs : FnScope NM_law_told_pairs ["form"] (defScope s_law_told_pairs) := ⟨rfl, rfl, rfl, by decide +kernel, rfl, by decide +kernel, by decide +kernel⟩
theorem d_law_told_pairs (F : Fn0 K mg "_law_told_pairs" s_law_told_pairs) (T : Txt P K mg) (D_read_pairs : DefX P w K mg base 8 "read_pairs" ["form"] [] (spWX mg 1 (fun F vs (i : Str) => ∃ v0, vs = [v0] ∧ eStr.rep F v0 i) (eTup (eP2 (eTup eInt) (eTup eInt))) (fun (i : Str) => m_read_pairs i))) :
    Def P w K mg base 9 "_law_told_pairs" ["form"] (spW 1 (fun F vs (i : Str) => ∃ v0, vs = [v0] ∧ eStr.rep F v0 i) (eTold (eTup (eP2 (eTup eInt) (eTup eInt)))) (fun (i : Str) => m_law_told_pairs i)) := by
  refine Def.mk0 F sc_law_told_pairs (by first | exact NF.hl_spB | exact NF.hl_spP | exact NF.hl_spNew | exact NF.hl_spPX | exact NF.hl_spN | exact NF.hl_spNX | exact NF.hl_spW | exact NF.hl_spWb | exact NF.hl_spWX | exact hl_spW) (fun _ _ _ _ _ _ us hl => match us, hl with | [_], _ => rfl) (fun cdv A outer s H vs Q E hr h => ?_)
  refine ⟨_, (pss_one (ps_try_all rfl rfl takesN0 (fun _ _ _ tk po => (pss_one (ps_ret (pe_tup (pa_cons pe_int (pa_cons (pe_dx D_read_pairs (hr.mono (by decide)) tk (by rfl) (pa_cons (pv 0) pa_nil)) pa_nil))))))
      (HdA.named (i := 1) sc_law_told_pairs.nd rfl rfl ⟨rfl, by decide, Or.inl T.n_BadForm⟩
      (fun a oe cls d pn hz hf => (pss_one (ps_ret (pe_tup (pa_cons pe_int (pa_cons (pe_and (pe_callB (call_isX0 hz hf) (by rfl) T.b_isinstance (by decide +kernel) (pa_cons (pv 1) (pa_cons (pe_clsn T.n_NestError rfl rfl) pa_nil))) (pe_one (pe_not (pe_callB (call_isX0 hz hf) (by rfl) T.b_isinstance (by decide +kernel) (pa_cons (pv 1) (pa_cons (pe_tup (pa_cons (pe_clsn T.n_LimitError rfl rfl) (pa_cons (pe_clsn T.n_NotNested rfl rfl) pa_nil))) pa_nil)))))) pa_nil))))))
      HdA.nil))), ?_⟩
  try dsimp only [cxOf, Cx.nox, Cx.wish]
  obtain ⟨hl, F, z, K0, hF, ⟨_, rfl, rfl⟩, k, q⟩ := h
  have O := NF.Fz.start hF
  have lF := NF.Ex.rfl (B := H) (F := F)
  walk_at "gw"
  refine NF.use_spWX (i := z) O rfl ⟨_, rfl, rfl⟩ k (fun y v F H l0 O hv k => ?_) (fun e ke => ?_)
  · have lF := Ex.trans lF l0
    walk_at "gw"
    refine NF.y_tup O (show 2 ≤ sizeLine by decide) (fun p F H hp l0 O => ?_)
    exact q (.ok y) k _ _ _ O.leB O.leF (Ex.trans lF l0) ⟨p, _, _, rfl, hp, rfl, Enc.mono _ l0.le hv⟩
  · obtain ⟨rfl, k⟩ := ke
    intro H' hle
    refine ⟨true, T.p_BadForm_BadForm.exm, fun _ a ha => ?_, fun h => nomatch h⟩
    have O := O.call hle (hF.trans hle) Ex.rfl
    dsimp only [endsOf, startOf]
    walk_at "gw"
    refine NF.x_isX0C T.x_BadForm T.p_BadForm_NestError ?_
    refine ⟨true, rfl, NF.x_tt ?_⟩
    walk_at "gw"
    refine NF.y_tup O (show 2 ≤ sizeLine by decide) (fun p F H hp l0 O => ?_)
    have lF := Ex.trans lF l0
    walk_at "gw"
    refine NF.x_isX0T [cad mg "LimitError", cad mg "NotNested"] T.x_BadForm (O.leF _ _ hp) (kitAny_f T.p_BadForm_LimitError.kit (kitAny_f T.p_BadForm_NotNested.kit kitAny_nil)) ?_
    refine ⟨false, rfl, ?_⟩
    walk_at "gw"
    refine NF.y_tup O (show 2 ≤ sizeLine by decide) (fun p F H hp l0 O => ?_)
    exact q (.error ()) k _ _ _ O.leB O.leF (Ex.trans lF l0) ⟨p, _, _, rfl, hp, rfl, rfl⟩

abbrev NM_law_told_rows : List Str := ["form", "e"]
theorem sc_law_told_rows : FnScope NM_law_told_rows ["form"] (defScope s_law_told_rows) := ⟨rfl, rfl, rfl, by decide +kernel, rfl, by decide +kernel, by decide +kernel⟩
theorem d_law_told_rows (F : Fn0 K mg "_law_told_rows" s_law_told_rows) (T : Txt P K mg) (D_read_rows : DefX P w K mg base 8 "read_rows" ["form"] [] (spWX mg 1 (fun F vs (i : Str) => ∃ v0, vs = [v0] ∧ eStr.rep F v0 i) (eTup (eP3 (eTup eInt) (eTup eInt) (eTup eStr))) (fun (i : Str) => m_read_rows i))) :
    Def P w K mg base 9 "_law_told_rows" ["form"] (spW 1 (fun F vs (i : Str) => ∃ v0, vs = [v0] ∧ eStr.rep F v0 i) (eTold (eTup (eP3 (eTup eInt) (eTup eInt) (eTup eStr)))) (fun (i : Str) => m_law_told_rows i)) := by
  refine Def.mk0 F sc_law_told_rows (by first | exact NF.hl_spB | exact NF.hl_spP | exact NF.hl_spNew | exact NF.hl_spPX | exact NF.hl_spN | exact NF.hl_spNX | exact NF.hl_spW | exact NF.hl_spWb | exact NF.hl_spWX | exact hl_spW) (fun _ _ _ _ _ _ us hl => match us, hl with | [_], _ => rfl) (fun cdv A outer s H vs Q E hr h => ?_)
  refine ⟨_, (pss_one (ps_try_all rfl rfl takesN0 (fun _ _ _ tk po => (pss_one (ps_ret (pe_tup (pa_cons pe_int (pa_cons (pe_dx D_read_rows (hr.mono (by decide)) tk (by rfl) (pa_cons (pv 0) pa_nil)) pa_nil))))))
      (HdA.named (i := 1) sc_law_told_rows.nd rfl rfl ⟨rfl, by decide, Or.inl T.n_BadForm⟩
      (fun a oe cls d pn hz hf => (pss_one (ps_ret (pe_tup (pa_cons pe_int (pa_cons (pe_and (pe_callB (call_isX0 hz hf) (by rfl) T.b_isinstance (by decide +kernel) (pa_cons (pv 1) (pa_cons (pe_clsn T.n_NestError rfl rfl) pa_nil))) (pe_one (pe_not (pe_callB (call_isX0 hz hf) (by rfl) T.b_isinstance (by decide +kernel) (pa_cons (pv 1) (pa_cons (pe_tup (pa_cons (pe_clsn T.n_LimitError rfl rfl) (pa_cons (pe_clsn T.n_NotNested rfl rfl) pa_nil))) pa_nil)))))) pa_nil))))))
      HdA.nil))), ?_⟩
  try dsimp only [cxOf, Cx.nox, Cx.wish]
  obtain ⟨hl, F, z, K0, hF, ⟨_, rfl, rfl⟩, k, q⟩ := h
  have O := NF.Fz.start hF
  have lF := NF.Ex.rfl (B := H) (F := F)
  walk_at "gw"
  refine NF.use_spWX (i := z) O rfl ⟨_, rfl, rfl⟩ k (fun y v F H l0 O hv k => ?_) (fun e ke => ?_)
  · have lF := Ex.trans lF l0
    walk_at "gw"
    refine NF.y_tup O (show 2 ≤ sizeLine by decide) (fun p F H hp l0 O => ?_)
    exact q (.ok y) k _ _ _ O.leB O.leF (Ex.trans lF l0) ⟨p, _, _, rfl, hp, rfl, Enc.mono _ l0.le hv⟩
  · obtain ⟨rfl, k⟩ := ke
    intro H' hle
    refine ⟨true, T.p_BadForm_BadForm.exm, fun _ a ha => ?_, fun h => nomatch h⟩
    have O := O.call hle (hF.trans hle) Ex.rfl
    dsimp only [endsOf, startOf]
    walk_at "gw"
    refine NF.x_isX0C T.x_BadForm T.p_BadForm_NestError ?_
    refine ⟨true, rfl, NF.x_tt ?_⟩
    walk_at "gw"
    refine NF.y_tup O (show 2 ≤ sizeLine by decide) (fun p F H hp l0 O => ?_)
    have lF := Ex.trans lF l0
    walk_at "gw"
    refine NF.x_isX0T [cad mg "LimitError", cad mg "NotNested"] T.x_BadForm (O.leF _ _ hp) (kitAny_f T.p_BadForm_LimitError.kit (kitAny_f T.p_BadForm_NotNested.kit kitAny_nil)) ?_
    refine ⟨false, rfl, ?_⟩
    walk_at "gw"
    refine NF.y_tup O (show 2 ≤ sizeLine by decide) (fun p F H hp l0 O => ?_)
    exact q (.error ()) k _ _ _ O.leB O.leF (Ex.trans lF l0) ⟨p, _, _, rfl, hp, rfl, rfl⟩

def m_law_pairs_asked (z : Str) (due : Option (List (List Int × List Int))) : W Bool := fun K => m_law_told_pairs z fun r => match r, due with
  | .error _, none => K true
  | .ok _, none => K false
  | .error _, some _ => K false
  | .ok y, some d => m_law_sameP y d fun b => (b = false → K false) ∧ (b = true → m_write_pairsT y fun w => K (decide (w = z)))
def m_law_rows_asked (z : Str) (due : Option (List (List Int × List Int × List Str))) : W Bool := fun K => m_law_told_rows z fun r => match r, due with
  | .error _, none => K true
  | .ok _, none => K false
  | .error _, some _ => K false
  | .ok y, some d => m_law_sameR y d fun b => (b = false → K false) ∧ (b = true → m_write_rowsT y fun w => K (decide (w = z)))
abbrev NM_law_pairs_asked : List Str := ["form", "due", "told"]
theorem sc_law_pairs_asked : FnScope NM_law_pairs_asked ["form", "due"] (defScope s_law_pairs_asked) := ⟨rfl, rfl, rfl, by decide +kernel, rfl, by decide +kernel, by decide +kernel⟩
theorem d_law_pairs_asked (F : Fn0 K mg "_law_pairs_asked" s_law_pairs_asked) (T : Txt P K mg) (D_law_told_pairs : Def P w K mg base 9 "_law_told_pairs" ["form"] (spW 1 (fun F vs (i : Str) => ∃ v0, vs = [v0] ∧ eStr.rep F v0 i) (eTold (eTup (eP2 (eTup eInt) (eTup eInt)))) (fun (i : Str) => m_law_told_pairs i))) (D_law_sameP : Def P w K mg base 1 "_law_same" ["told", "due"] (spW 2 (fun F vs (i : (List ((List Int) × (List Int))) × (List ((List Int) × (List Int)))) => ∃ v0 v1, vs = [v0, v1] ∧ (eTup (eP2 (eTup eInt) (eTup eInt))).rep F v0 i.1 ∧ (eTup (eP2 (eTup eInt) (eTup eInt))).rep F v1 i.2) eBool (fun (i : (List ((List Int) × (List Int))) × (List ((List Int) × (List Int)))) => m_law_sameP i.1 i.2))) (D_write_pairsT : Def P w K mg base 2 "write_pairs" ["paper"] (spW 1 (fun F vs (i : (List ((List Int) × (List Int)))) => ∃ v0, vs = [v0] ∧ (eTup (eP2 (eTup eInt) (eTup eInt))).rep F v0 i) eStr (fun (i : (List ((List Int) × (List Int)))) => m_write_pairsT i))) :
    Def P w K mg base 10 "_law_pairs_asked" ["form", "due"] (spW 2 (fun F vs (i : Str × (Option (List ((List Int) × (List Int))))) => ∃ v0 v1, vs = [v0, v1] ∧ eStr.rep F v0 i.1 ∧ (eOpt (eTup (eP2 (eTup eInt) (eTup eInt)))).rep F v1 i.2) eBool (fun (i : Str × (Option (List ((List Int) × (List Int))))) => m_law_pairs_asked i.1 i.2)) := by
  refine Def.mk0 F sc_law_pairs_asked (by first | exact NF.hl_spB | exact NF.hl_spP | exact NF.hl_spNew | exact NF.hl_spPX | exact NF.hl_spN | exact NF.hl_spNX | exact NF.hl_spW | exact NF.hl_spWb | exact NF.hl_spWX | exact hl_spW) (fun _ _ _ _ _ _ us hl => match us, hl with | [_, _], _ => rfl) (fun cdv A outer s H vs Q E hr h => ?_)
  refine ⟨_, (pss_cons (ps_set (i := 2) sc_law_pairs_asked.nd rfl (Or.inl rfl) (pe_d D_law_told_pairs (hr.mono (by decide)) rfl (pa_cons (pv 0) pa_nil)))
      (pss_cons (ps_if (pt_cmpR opIsN (pv 1) pe_non (nomark _))
      (pss_one (ps_ret (pe_and (pe_cmpR op_eq (pe_ix ix_tup (pv 2) pe_int (fun _ _ => rfl)) pe_int (nomark _)) (pe_one (pe_ix ix_tup (pv 2) pe_int (fun _ _ => rfl))))))
      pss_nil)
      (pss_one (ps_ret (pe_and (pe_cmpR op_eq (pe_ix ix_tup (pv 2) pe_int (fun _ _ => rfl)) pe_int (nomark _)) (pe_and (pe_d D_law_sameP (hr.mono (by decide)) rfl (pa_cons (pe_ix ix_tup (pv 2) pe_int (fun _ _ => rfl)) (pa_cons (pv 1) pa_nil))) (pe_one (pe_cmpR op_eq (pe_d D_write_pairsT (hr.mono (by decide)) rfl (pa_cons (pe_ix ix_tup (pv 2) pe_int (fun _ _ => rfl)) pa_nil)) (pv 0) (nomark _))))))))), ?_⟩
  try dsimp only [cxOf, Cx.nox, Cx.wish]
  obtain ⟨hl, F, ⟨z, due⟩, K0, hF, ⟨_, vd, rfl, rfl, hd⟩, k, q⟩ := h
  have O := NF.Fz.start hF
  have lF := NF.Ex.rfl (B := H) (F := F)
  walk_at "gw"
  refine NF.use_spW (i := z) O rfl ⟨_, rfl, rfl⟩ k (fun r v F H l0 O hv k => ?_)
  have lF := Ex.trans lF l0
  have hd := Enc.mono _ l0.le hd
  obtain ⟨a, w, rfl, hr⟩ := told_err hv
  have fin : ∀ b, K0 b → Q (.bl b) H := fun b kb => q b kb _ _ _ O.leB O.leF lF rfl
  walk_at "gn"
  rw [dec_isN hd]
  refine NF.x_itb (fun g => ?_) (fun g => ?_)
  · obtain rfl := isNone_t g
    walk_at "gn"
    rcases hr with ⟨y, rfl, ha, hy⟩ | ⟨rfl, rfl, ha⟩
    · refine NF.x_ixT (O.leF _ _ ha) rfl ?_
      walk_at "gn"
      exact fin _ k
    · refine NF.x_ixT (O.leF _ _ ha) rfl ?_
      walk_at "gn"
      refine NF.x_iteI (fun _ => ?_) (fun h => absurd rfl h)
      walk_at "gn"
      refine NF.x_ixT (O.leF _ _ ha) rfl ?_
      exact fin _ k
  · obtain ⟨d, rfl⟩ := isNone_f g
    walk_at "gn"
    rcases hr with ⟨y, rfl, ha, hy⟩ | ⟨rfl, rfl, ha⟩
    · refine NF.x_ixT (O.leF _ _ ha) rfl ?_
      walk_at "gn"
      refine NF.x_iteI (fun _ => ?_) (fun h => absurd rfl h)
      walk_at "gn"
      refine NF.x_ixT (O.leF _ _ ha) rfl ?_
      walk_at "gn"
      refine NF.use_spW (i := (y, d)) O rfl ⟨_, _, rfl, hy, hd⟩ k (fun b v F H l0 O hv k => ?_)
      have lF := Ex.trans lF l0
      have hy := Enc.mono _ l0.le hy
      have ha := l0.le _ _ ha
      cases hv
      refine ⟨b, rfl, NF.x_itb (fun hb => ?_) (fun hb => ?_)⟩
      · walk_at "gn"
        refine NF.x_ixT (O.leF _ _ ha) rfl ?_
        walk_at "gn"
        refine NF.use_spW (i := y) O rfl ⟨_, rfl, hy⟩ (k.2 hb) (fun b v F H l0 O hv k => ?_)
        cases hv
        walk_at "gn"
        rw [show decide (V.str b = V.str (z, some d).fst) = decide (b = z) from decide_eq_decide.mpr ⟨V.str.inj, fun h => h ▸ rfl⟩]
        exact q _ k _ _ _ O.leB O.leF (Ex.trans lF l0) rfl
      · exact q _ (k.1 hb) _ _ _ O.leB O.leF lF rfl
    · refine NF.x_ixT (O.leF _ _ ha) rfl ?_
      walk_at "gn"
      exact fin _ k

abbrev NM_law_rows_asked : List Str := ["form", "due", "told"]
theorem sc_law_rows_asked : FnScope NM_law_rows_asked ["form", "due"] (defScope s_law_rows_asked) := ⟨rfl, rfl, rfl, by decide +kernel, rfl, by decide +kernel, by decide +kernel⟩
theorem d_law_rows_asked (F : Fn0 K mg "_law_rows_asked" s_law_rows_asked) (T : Txt P K mg) (D_law_told_rows : Def P w K mg base 9 "_law_told_rows" ["form"] (spW 1 (fun F vs (i : Str) => ∃ v0, vs = [v0] ∧ eStr.rep F v0 i) (eTold (eTup (eP3 (eTup eInt) (eTup eInt) (eTup eStr)))) (fun (i : Str) => m_law_told_rows i))) (D_law_sameR : Def P w K mg base 1 "_law_same" ["told", "due"] (spW 2 (fun F vs (i : (List ((List Int) × (List Int) × (List Str))) × (List ((List Int) × (List Int) × (List Str)))) => ∃ v0 v1, vs = [v0, v1] ∧ (eTup (eP3 (eTup eInt) (eTup eInt) (eTup eStr))).rep F v0 i.1 ∧ (eTup (eP3 (eTup eInt) (eTup eInt) (eTup eStr))).rep F v1 i.2) eBool (fun (i : (List ((List Int) × (List Int) × (List Str))) × (List ((List Int) × (List Int) × (List Str)))) => m_law_sameR i.1 i.2))) (D_write_rowsT : Def P w K mg base 3 "write_rows" ["paper"] (spW 1 (fun F vs (i : (List ((List Int) × (List Int) × (List Str)))) => ∃ v0, vs = [v0] ∧ (eTup (eP3 (eTup eInt) (eTup eInt) (eTup eStr))).rep F v0 i) eStr (fun (i : (List ((List Int) × (List Int) × (List Str)))) => m_write_rowsT i))) :
    Def P w K mg base 10 "_law_rows_asked" ["form", "due"] (spW 2 (fun F vs (i : Str × (Option (List ((List Int) × (List Int) × (List Str))))) => ∃ v0 v1, vs = [v0, v1] ∧ eStr.rep F v0 i.1 ∧ (eOpt (eTup (eP3 (eTup eInt) (eTup eInt) (eTup eStr)))).rep F v1 i.2) eBool (fun (i : Str × (Option (List ((List Int) × (List Int) × (List Str))))) => m_law_rows_asked i.1 i.2)) := by
  refine Def.mk0 F sc_law_rows_asked (by first | exact NF.hl_spB | exact NF.hl_spP | exact NF.hl_spNew | exact NF.hl_spPX | exact NF.hl_spN | exact NF.hl_spNX | exact NF.hl_spW | exact NF.hl_spWb | exact NF.hl_spWX | exact hl_spW) (fun _ _ _ _ _ _ us hl => match us, hl with | [_, _], _ => rfl) (fun cdv A outer s H vs Q E hr h => ?_)
  refine ⟨_, (pss_cons (ps_set (i := 2) sc_law_rows_asked.nd rfl (Or.inl rfl) (pe_d D_law_told_rows (hr.mono (by decide)) rfl (pa_cons (pv 0) pa_nil)))
      (pss_cons (ps_if (pt_cmpR opIsN (pv 1) pe_non (nomark _))
      (pss_one (ps_ret (pe_and (pe_cmpR op_eq (pe_ix ix_tup (pv 2) pe_int (fun _ _ => rfl)) pe_int (nomark _)) (pe_one (pe_ix ix_tup (pv 2) pe_int (fun _ _ => rfl))))))
      pss_nil)
      (pss_one (ps_ret (pe_and (pe_cmpR op_eq (pe_ix ix_tup (pv 2) pe_int (fun _ _ => rfl)) pe_int (nomark _)) (pe_and (pe_d D_law_sameR (hr.mono (by decide)) rfl (pa_cons (pe_ix ix_tup (pv 2) pe_int (fun _ _ => rfl)) (pa_cons (pv 1) pa_nil))) (pe_one (pe_cmpR op_eq (pe_d D_write_rowsT (hr.mono (by decide)) rfl (pa_cons (pe_ix ix_tup (pv 2) pe_int (fun _ _ => rfl)) pa_nil)) (pv 0) (nomark _))))))))), ?_⟩
  try dsimp only [cxOf, Cx.nox, Cx.wish]
  obtain ⟨hl, F, ⟨z, due⟩, K0, hF, ⟨_, vd, rfl, rfl, hd⟩, k, q⟩ := h
  have O := NF.Fz.start hF
  have lF := NF.Ex.rfl (B := H) (F := F)
  walk_at "gw"
  refine NF.use_spW (i := z) O rfl ⟨_, rfl, rfl⟩ k (fun r v F H l0 O hv k => ?_)
  have lF := Ex.trans lF l0
  have hd := Enc.mono _ l0.le hd
  obtain ⟨a, w, rfl, hr⟩ := told_err hv
  have fin : ∀ b, K0 b → Q (.bl b) H := fun b kb => q b kb _ _ _ O.leB O.leF lF rfl
  walk_at "gn"
  rw [dec_isN hd]
  refine NF.x_itb (fun g => ?_) (fun g => ?_)
  · obtain rfl := isNone_t g
    walk_at "gn"
    rcases hr with ⟨y, rfl, ha, hy⟩ | ⟨rfl, rfl, ha⟩
    · refine NF.x_ixT (O.leF _ _ ha) rfl ?_
      walk_at "gn"
      exact fin _ k
    · refine NF.x_ixT (O.leF _ _ ha) rfl ?_
      walk_at "gn"
      refine NF.x_iteI (fun _ => ?_) (fun h => absurd rfl h)
      walk_at "gn"
      refine NF.x_ixT (O.leF _ _ ha) rfl ?_
      exact fin _ k
  · obtain ⟨d, rfl⟩ := isNone_f g
    walk_at "gn"
    rcases hr with ⟨y, rfl, ha, hy⟩ | ⟨rfl, rfl, ha⟩
    · refine NF.x_ixT (O.leF _ _ ha) rfl ?_
      walk_at "gn"
      refine NF.x_iteI (fun _ => ?_) (fun h => absurd rfl h)
      walk_at "gn"
      refine NF.x_ixT (O.leF _ _ ha) rfl ?_
      walk_at "gn"
      refine NF.use_spW (i := (y, d)) O rfl ⟨_, _, rfl, hy, hd⟩ k (fun b v F H l0 O hv k => ?_)
      have lF := Ex.trans lF l0
      have hy := Enc.mono _ l0.le hy
      have ha := l0.le _ _ ha
      cases hv
      refine ⟨b, rfl, NF.x_itb (fun hb => ?_) (fun hb => ?_)⟩
      · walk_at "gn"
        refine NF.x_ixT (O.leF _ _ ha) rfl ?_
        walk_at "gn"
        refine NF.use_spW (i := y) O rfl ⟨_, rfl, hy⟩ (k.2 hb) (fun b v F H l0 O hv k => ?_)
        cases hv
        walk_at "gn"
        rw [show decide (V.str b = V.str (z, some d).fst) = decide (b = z) from decide_eq_decide.mpr ⟨V.str.inj, fun h => h ▸ rfl⟩]
        exact q _ k _ _ _ O.leB O.leF (Ex.trans lF l0) rfl
      · exact q _ (k.1 hb) _ _ _ O.leB O.leF lF rfl
    · refine NF.x_ixT (O.leF _ _ ha) rfl ?_
      walk_at "gn"
      exact fin _ k

def m_law_pairs_hold (a_rows : List ((List Int) × (List Int))) : W (Bool) :=
  W.bind (m_law_pairs_line a_rows) fun y1 =>
  W.bind (m_write_pairsL a_rows) fun y4 =>
  W.ite (!decide (y4 = y1)) (W.ok false)
  (W.chk (EqOk (eLst (eP2 (eTup eInt) (eTup eInt))) a_rows ∧ EqOk (eLst (eP2 (eTup eInt) (eTup eInt))) a_rows) <|
  W.ite (!decide (a_rows = a_rows)) (W.ok false)
  (W.bind (m_write_pairsT a_rows) fun y8 =>
  W.ite (!decide (y8 = y1)) (W.ok false)
  (W.bind (m_law_pairs_asked y1 (some a_rows)) fun y11 =>
  W.ok y11)))
abbrev NM_law_pairs_hold : List Str := ["rows", "line", "given"]
theorem sc_law_pairs_hold : FnScope NM_law_pairs_hold ["rows"] (defScope s_law_pairs_hold) := ⟨rfl, rfl, rfl, by decide +kernel, rfl, by decide +kernel, by decide +kernel⟩
theorem d_law_pairs_hold (F : Fn0 K mg "_law_pairs_hold" s_law_pairs_hold) (T : Txt P K mg) (D_law_pairs_line : Def P w K mg base 2 "_law_pairs_line" ["rows"] (spW 1 (fun F vs (i : (List ((List Int) × (List Int)))) => ∃ v0, vs = [v0] ∧ (eLst (eP2 (eTup eInt) (eTup eInt))).rep F v0 i) eStr (fun (i : (List ((List Int) × (List Int)))) => m_law_pairs_line i))) (D_law_pairs_asked : Def P w K mg base 10 "_law_pairs_asked" ["form", "due"] (spW 2 (fun F vs (i : Str × (Option (List ((List Int) × (List Int))))) => ∃ v0 v1, vs = [v0, v1] ∧ eStr.rep F v0 i.1 ∧ (eOpt (eTup (eP2 (eTup eInt) (eTup eInt)))).rep F v1 i.2) eBool (fun (i : Str × (Option (List ((List Int) × (List Int))))) => m_law_pairs_asked i.1 i.2))) (D_write_pairsT : Def P w K mg base 2 "write_pairs" ["paper"] (spW 1 (fun F vs (i : (List ((List Int) × (List Int)))) => ∃ v0, vs = [v0] ∧ (eTup (eP2 (eTup eInt) (eTup eInt))).rep F v0 i) eStr (fun (i : (List ((List Int) × (List Int)))) => m_write_pairsT i))) (D_write_pairsL : Def P w K mg base 2 "write_pairs" ["paper"] (spW 1 (fun F vs (i : (List ((List Int) × (List Int)))) => ∃ v0, vs = [v0] ∧ (eLst (eP2 (eTup eInt) (eTup eInt))).rep F v0 i) eStr (fun (i : (List ((List Int) × (List Int)))) => m_write_pairsL i))) :
    Def P w K mg base 11 "_law_pairs_hold" ["rows"] (spW 1 (fun F vs (i : (List ((List Int) × (List Int)))) => ∃ v0, vs = [v0] ∧ (eLst (eP2 (eTup eInt) (eTup eInt))).rep F v0 i) eBool (fun (i : (List ((List Int) × (List Int)))) => m_law_pairs_hold i)) := by
  refine Def.mk0 F sc_law_pairs_hold (by first | exact NF.hl_spW | exact NF.hl_spWb | exact NF.hl_spWX) (fun _ _ _ _ _ _ us hl => match us, hl with | [_], _ => rfl) (fun cdv A outer s H vs Q E hr h => ?_)
  refine ⟨_, (pss_cons (ps_set (i := 1) sc_law_pairs_hold.nd rfl (Or.inl rfl) (pe_d D_law_pairs_line (hr.mono (by decide)) rfl (pa_cons (pv 0) pa_nil)))
      (pss_cons (ps_set (i := 2) sc_law_pairs_hold.nd rfl (Or.inl rfl) (pe_callTy (T := "list") callListOf (by rfl) T.b_list (by decide +kernel) (pa_cons (pv 0) pa_nil)))
      (pss_cons (ps_if (PW.pt (pw_or (pt_cmpR op_ne (pe_d D_write_pairsL (hr.mono (by decide)) rfl (pa_cons (pv 2) pa_nil)) (pv 1) (nomark _)) (pw_or1 (pt_cmpR (op_neD hr.units) (pv 2) (pv 0) (nomark _)))))
      (pss_one (ps_ret pe_bl))
      pss_nil)
      (pss_cons (ps_if (pt_cmpR op_ne (pe_d D_write_pairsT (hr.mono (by decide)) rfl (pa_cons (pe_callTy (T := "tuple") callTupleOf (by rfl) T.b_tuple (by decide +kernel) (pa_cons (pv 0) pa_nil)) pa_nil)) (pv 1) (nomark _))
      (pss_one (ps_ret pe_bl))
      pss_nil)
      (pss_one (ps_ret (pe_d D_law_pairs_asked (hr.mono (by decide)) rfl (pa_cons (pv 1) (pa_cons (pe_callTy (T := "tuple") callTupleOf (by rfl) T.b_tuple (by decide +kernel) (pa_cons (pv 0) pa_nil)) pa_nil))))))))), ?_⟩
  try dsimp only [cxOf, Cx.nox, Cx.wish]
  obtain ⟨hl, F, a_rows, K0, hF, ⟨v_rows, rfl, h_rows⟩, k, q⟩ := h
  have O := NF.Fz.start hF
  have lF := NF.Ex.rfl (B := H) (F := F)
  refine (NF.x_seq (NF.x_asg (NF.x_call (NF.x_cons (NF.x_var rfl (NF.x_nil (NF.use_spW (i := a_rows) O rfl ⟨_, rfl, h_rows⟩ k (fun y1 v F H l0 O hv k => NF.byS v hv (have h_rows := Enc.mono (eLst (eP2 (eTup eInt) (eTup eInt))) l0.le h_rows; (have lF := Ex.trans lF l0; (NF.x_name ?_)))))))))))
  refine (NF.x_seq (NF.x_asg (NF.x_cb (NF.x_cons (NF.x_var rfl (NF.x_nil (NF.y_listOfF O (Or.inl h_rows) (fun p3 F H h2 l0 O => (have h_rows := Enc.mono (eLst (eP2 (eTup eInt) (eTup eInt))) l0.le h_rows; (have lF := Ex.trans lF l0; (NF.x_name ?_)))))))))))
  refine (NF.x_seq (NF.x_ifs (NF.x_or (NF.x_test (NF.x_op (NF.x_call (NF.x_cons (NF.x_var rfl (NF.x_nil (NF.use_spW (i := a_rows) O rfl ⟨_, rfl, h2⟩ k (fun y4 v F H l0 O hv k => NF.byS v hv (have h_rows := Enc.mono (eLst (eP2 (eTup eInt) (eTup eInt))) l0.le h_rows; (have h2 := Enc.mono (eLst (eP2 (eTup eInt) (eTup eInt))) l0.le h2; (have lF := Ex.trans lF l0; (NF.x_var rfl (NF.y_neS (NF.x_bl (NF.x_itb (fun g14 => (have k := k.1 g14; (NF.x_tt ?_))) (fun g14 => (have k := k.2 g14; (NF.x_test (NF.x_op (NF.x_var rfl (NF.x_var rfl (have c5 := k.1; have k := k.2; (NF.y_neD O.leF h2 h_rows c5.1 c5.2 (NF.x_bl (NF.x_itb (fun g13 => (have k := k.1 g13; ?_)) (fun g13 => (have k := k.2 g13; ?_))))))))))))))))))))))))))))))
  · exact (NF.x_ret (NF.x_c (q false k _ _ _ O.leB O.leF lF rfl)))
  · exact (NF.x_ret (NF.x_c (q false k _ _ _ O.leB O.leF lF rfl)))
  · refine NF.x_next ?_
    refine (NF.x_seq (NF.x_ifs (NF.x_test (NF.x_op (NF.x_call (NF.x_cons (NF.x_cb (NF.x_cons (NF.x_var rfl (NF.x_nil (NF.y_tupOfL O h_rows (fun p7 F H h6 l0 O => (have h_rows := Enc.mono (eLst (eP2 (eTup eInt) (eTup eInt))) l0.le h_rows; (have h2 := Enc.mono (eLst (eP2 (eTup eInt) (eTup eInt))) l0.le h2; (have lF := Ex.trans lF l0; (NF.x_nil (NF.use_spW (i := a_rows) O rfl ⟨_, rfl, h6⟩ k (fun y8 v F H l0 O hv k => NF.byS v hv (have h_rows := Enc.mono (eLst (eP2 (eTup eInt) (eTup eInt))) l0.le h_rows; (have h2 := Enc.mono (eLst (eP2 (eTup eInt) (eTup eInt))) l0.le h2; (have h6 := Enc.mono (eTup (eP2 (eTup eInt) (eTup eInt))) l0.le h6; (have lF := Ex.trans lF l0; (NF.x_var rfl (NF.y_neS (NF.x_bl (NF.x_itb (fun g12 => (have k := k.1 g12; ?_)) (fun g12 => (have k := k.2 g12; ?_))))))))))))))))))))))))))))
    · exact (NF.x_ret (NF.x_c (q false k _ _ _ O.leB O.leF lF rfl)))
    · refine NF.x_next ?_
      exact (NF.x_ret (NF.x_call (NF.x_cons (NF.x_var rfl (NF.x_cons (NF.x_cb (NF.x_cons (NF.x_var rfl (NF.x_nil (NF.y_tupOfL O h_rows (fun p10 F H h9 l0 O => (have h_rows := Enc.mono (eLst (eP2 (eTup eInt) (eTup eInt))) l0.le h_rows; (have h2 := Enc.mono (eLst (eP2 (eTup eInt) (eTup eInt))) l0.le h2; (have lF := Ex.trans lF l0; (NF.x_nil (NF.use_spW (i := (y1, (some a_rows))) O rfl ⟨_, _, rfl, rfl, h9⟩ k (fun y11 v F H l0 O hv k => NF.byB v hv (have h_rows := Enc.mono (eLst (eP2 (eTup eInt) (eTup eInt))) l0.le h_rows; (have h2 := Enc.mono (eLst (eP2 (eTup eInt) (eTup eInt))) l0.le h2; (have h9 := Enc.mono (eTup (eP2 (eTup eInt) (eTup eInt))) l0.le h9; (have lF := Ex.trans lF l0; (q y11 k _ _ _ O.leB O.leF lF rfl))))))))))))))))))))))

def m_law_rows_hold (a_rows : List ((List Int) × (List Int) × (List Str))) : W (Bool) :=
  W.bind (m_law_rows_line a_rows) fun y1 =>
  W.bind (m_write_rowsL a_rows) fun y4 =>
  W.ite (!decide (y4 = y1)) (W.ok false)
  (W.chk (EqOk (eLst (eP3 (eTup eInt) (eTup eInt) (eTup eStr))) a_rows ∧ EqOk (eLst (eP3 (eTup eInt) (eTup eInt) (eTup eStr))) a_rows) <|
  W.ite (!decide (a_rows = a_rows)) (W.ok false)
  (W.bind (m_write_rowsT a_rows) fun y8 =>
  W.ite (!decide (y8 = y1)) (W.ok false)
  (W.bind (m_law_rows_asked y1 (some a_rows)) fun y11 =>
  W.ok y11)))
abbrev NM_law_rows_hold : List Str := ["rows", "line", "given"]
theorem sc_law_rows_hold : FnScope NM_law_rows_hold ["rows"] (defScope s_law_rows_hold) := ⟨rfl, rfl, rfl, by decide +kernel, rfl, by decide +kernel, by decide +kernel⟩
theorem d_law_rows_hold (F : Fn0 K mg "_law_rows_hold" s_law_rows_hold) (T : Txt P K mg) (D_law_rows_line : Def P w K mg base 2 "_law_rows_line" ["rows"] (spW 1 (fun F vs (i : (List ((List Int) × (List Int) × (List Str)))) => ∃ v0, vs = [v0] ∧ (eLst (eP3 (eTup eInt) (eTup eInt) (eTup eStr))).rep F v0 i) eStr (fun (i : (List ((List Int) × (List Int) × (List Str)))) => m_law_rows_line i))) (D_law_rows_asked : Def P w K mg base 10 "_law_rows_asked" ["form", "due"] (spW 2 (fun F vs (i : Str × (Option (List ((List Int) × (List Int) × (List Str))))) => ∃ v0 v1, vs = [v0, v1] ∧ eStr.rep F v0 i.1 ∧ (eOpt (eTup (eP3 (eTup eInt) (eTup eInt) (eTup eStr)))).rep F v1 i.2) eBool (fun (i : Str × (Option (List ((List Int) × (List Int) × (List Str))))) => m_law_rows_asked i.1 i.2))) (D_write_rowsT : Def P w K mg base 3 "write_rows" ["paper"] (spW 1 (fun F vs (i : (List ((List Int) × (List Int) × (List Str)))) => ∃ v0, vs = [v0] ∧ (eTup (eP3 (eTup eInt) (eTup eInt) (eTup eStr))).rep F v0 i) eStr (fun (i : (List ((List Int) × (List Int) × (List Str)))) => m_write_rowsT i))) (D_write_rowsL : Def P w K mg base 3 "write_rows" ["paper"] (spW 1 (fun F vs (i : (List ((List Int) × (List Int) × (List Str)))) => ∃ v0, vs = [v0] ∧ (eLst (eP3 (eTup eInt) (eTup eInt) (eTup eStr))).rep F v0 i) eStr (fun (i : (List ((List Int) × (List Int) × (List Str)))) => m_write_rowsL i))) :
    Def P w K mg base 11 "_law_rows_hold" ["rows"] (spW 1 (fun F vs (i : (List ((List Int) × (List Int) × (List Str)))) => ∃ v0, vs = [v0] ∧ (eLst (eP3 (eTup eInt) (eTup eInt) (eTup eStr))).rep F v0 i) eBool (fun (i : (List ((List Int) × (List Int) × (List Str)))) => m_law_rows_hold i)) := by
  refine Def.mk0 F sc_law_rows_hold (by first | exact NF.hl_spW | exact NF.hl_spWb | exact NF.hl_spWX) (fun _ _ _ _ _ _ us hl => match us, hl with | [_], _ => rfl) (fun cdv A outer s H vs Q E hr h => ?_)
  refine ⟨_, (pss_cons (ps_set (i := 1) sc_law_rows_hold.nd rfl (Or.inl rfl) (pe_d D_law_rows_line (hr.mono (by decide)) rfl (pa_cons (pv 0) pa_nil)))
      (pss_cons (ps_set (i := 2) sc_law_rows_hold.nd rfl (Or.inl rfl) (pe_callTy (T := "list") callListOf (by rfl) T.b_list (by decide +kernel) (pa_cons (pv 0) pa_nil)))
      (pss_cons (ps_if (PW.pt (pw_or (pt_cmpR op_ne (pe_d D_write_rowsL (hr.mono (by decide)) rfl (pa_cons (pv 2) pa_nil)) (pv 1) (nomark _)) (pw_or1 (pt_cmpR (op_neD hr.units) (pv 2) (pv 0) (nomark _)))))
      (pss_one (ps_ret pe_bl))
      pss_nil)
      (pss_cons (ps_if (pt_cmpR op_ne (pe_d D_write_rowsT (hr.mono (by decide)) rfl (pa_cons (pe_callTy (T := "tuple") callTupleOf (by rfl) T.b_tuple (by decide +kernel) (pa_cons (pv 0) pa_nil)) pa_nil)) (pv 1) (nomark _))
      (pss_one (ps_ret pe_bl))
      pss_nil)
      (pss_one (ps_ret (pe_d D_law_rows_asked (hr.mono (by decide)) rfl (pa_cons (pv 1) (pa_cons (pe_callTy (T := "tuple") callTupleOf (by rfl) T.b_tuple (by decide +kernel) (pa_cons (pv 0) pa_nil)) pa_nil))))))))), ?_⟩
  try dsimp only [cxOf, Cx.nox, Cx.wish]
  obtain ⟨hl, F, a_rows, K0, hF, ⟨v_rows, rfl, h_rows⟩, k, q⟩ := h
  have O := NF.Fz.start hF
  have lF := NF.Ex.rfl (B := H) (F := F)
  refine (NF.x_seq (NF.x_asg (NF.x_call (NF.x_cons (NF.x_var rfl (NF.x_nil (NF.use_spW (i := a_rows) O rfl ⟨_, rfl, h_rows⟩ k (fun y1 v F H l0 O hv k => NF.byS v hv (have h_rows := Enc.mono (eLst (eP3 (eTup eInt) (eTup eInt) (eTup eStr))) l0.le h_rows; (have lF := Ex.trans lF l0; (NF.x_name ?_)))))))))))
  refine (NF.x_seq (NF.x_asg (NF.x_cb (NF.x_cons (NF.x_var rfl (NF.x_nil (NF.y_listOfF O (Or.inl h_rows) (fun p3 F H h2 l0 O => (have h_rows := Enc.mono (eLst (eP3 (eTup eInt) (eTup eInt) (eTup eStr))) l0.le h_rows; (have lF := Ex.trans lF l0; (NF.x_name ?_)))))))))))
  refine (NF.x_seq (NF.x_ifs (NF.x_or (NF.x_test (NF.x_op (NF.x_call (NF.x_cons (NF.x_var rfl (NF.x_nil (NF.use_spW (i := a_rows) O rfl ⟨_, rfl, h2⟩ k (fun y4 v F H l0 O hv k => NF.byS v hv (have h_rows := Enc.mono (eLst (eP3 (eTup eInt) (eTup eInt) (eTup eStr))) l0.le h_rows; (have h2 := Enc.mono (eLst (eP3 (eTup eInt) (eTup eInt) (eTup eStr))) l0.le h2; (have lF := Ex.trans lF l0; (NF.x_var rfl (NF.y_neS (NF.x_bl (NF.x_itb (fun g14 => (have k := k.1 g14; (NF.x_tt ?_))) (fun g14 => (have k := k.2 g14; (NF.x_test (NF.x_op (NF.x_var rfl (NF.x_var rfl (have c5 := k.1; have k := k.2; (NF.y_neD O.leF h2 h_rows c5.1 c5.2 (NF.x_bl (NF.x_itb (fun g13 => (have k := k.1 g13; ?_)) (fun g13 => (have k := k.2 g13; ?_))))))))))))))))))))))))))))))
  · exact (NF.x_ret (NF.x_c (q false k _ _ _ O.leB O.leF lF rfl)))
  · exact (NF.x_ret (NF.x_c (q false k _ _ _ O.leB O.leF lF rfl)))
  · refine NF.x_next ?_
    refine (NF.x_seq (NF.x_ifs (NF.x_test (NF.x_op (NF.x_call (NF.x_cons (NF.x_cb (NF.x_cons (NF.x_var rfl (NF.x_nil (NF.y_tupOfL O h_rows (fun p7 F H h6 l0 O => (have h_rows := Enc.mono (eLst (eP3 (eTup eInt) (eTup eInt) (eTup eStr))) l0.le h_rows; (have h2 := Enc.mono (eLst (eP3 (eTup eInt) (eTup eInt) (eTup eStr))) l0.le h2; (have lF := Ex.trans lF l0; (NF.x_nil (NF.use_spW (i := a_rows) O rfl ⟨_, rfl, h6⟩ k (fun y8 v F H l0 O hv k => NF.byS v hv (have h_rows := Enc.mono (eLst (eP3 (eTup eInt) (eTup eInt) (eTup eStr))) l0.le h_rows; (have h2 := Enc.mono (eLst (eP3 (eTup eInt) (eTup eInt) (eTup eStr))) l0.le h2; (have h6 := Enc.mono (eTup (eP3 (eTup eInt) (eTup eInt) (eTup eStr))) l0.le h6; (have lF := Ex.trans lF l0; (NF.x_var rfl (NF.y_neS (NF.x_bl (NF.x_itb (fun g12 => (have k := k.1 g12; ?_)) (fun g12 => (have k := k.2 g12; ?_))))))))))))))))))))))))))))
    · exact (NF.x_ret (NF.x_c (q false k _ _ _ O.leB O.leF lF rfl)))
    · refine NF.x_next ?_
      exact (NF.x_ret (NF.x_call (NF.x_cons (NF.x_var rfl (NF.x_cons (NF.x_cb (NF.x_cons (NF.x_var rfl (NF.x_nil (NF.y_tupOfL O h_rows (fun p10 F H h9 l0 O => (have h_rows := Enc.mono (eLst (eP3 (eTup eInt) (eTup eInt) (eTup eStr))) l0.le h_rows; (have h2 := Enc.mono (eLst (eP3 (eTup eInt) (eTup eInt) (eTup eStr))) l0.le h2; (have lF := Ex.trans lF l0; (NF.x_nil (NF.use_spW (i := (y1, (some a_rows))) O rfl ⟨_, _, rfl, rfl, h9⟩ k (fun y11 v F H l0 O hv k => NF.byB v hv (have h_rows := Enc.mono (eLst (eP3 (eTup eInt) (eTup eInt) (eTup eStr))) l0.le h_rows; (have h2 := Enc.mono (eLst (eP3 (eTup eInt) (eTup eInt) (eTup eStr))) l0.le h2; (have h9 := Enc.mono (eTup (eP3 (eTup eInt) (eTup eInt) (eTup eStr))) l0.le h9; (have lF := Ex.trans lF l0; (q y11 k _ _ _ O.leB O.leF lF rfl))))))))))))))))))))))

def m_law_both_hold (a_form : Str) : W (Bool) :=
  W.bind (m_law_pairs_of a_form) fun y1 =>
  W.bind (m_law_pairs_asked a_form y1) fun y4 =>
  W.ite (!y4) (W.ok false)
  (W.bind (m_law_rows_of a_form) fun y5 =>
  W.bind (m_law_rows_asked a_form y5) fun y8 =>
  W.ok y8)
abbrev NM_law_both_hold : List Str := ["form"]
theorem sc_law_both_hold : FnScope NM_law_both_hold ["form"] (defScope s_law_both_hold) := ⟨rfl, rfl, rfl, by decide +kernel, rfl, by decide +kernel, by decide +kernel⟩
theorem d_law_both_hold (F : Fn0 K mg "_law_both_hold" s_law_both_hold) (T : Txt P K mg) (D_law_rows_asked : Def P w K mg base 10 "_law_rows_asked" ["form", "due"] (spW 2 (fun F vs (i : Str × (Option (List ((List Int) × (List Int) × (List Str))))) => ∃ v0 v1, vs = [v0, v1] ∧ eStr.rep F v0 i.1 ∧ (eOpt (eTup (eP3 (eTup eInt) (eTup eInt) (eTup eStr)))).rep F v1 i.2) eBool (fun (i : Str × (Option (List ((List Int) × (List Int) × (List Str))))) => m_law_rows_asked i.1 i.2))) (D_law_pairs_asked : Def P w K mg base 10 "_law_pairs_asked" ["form", "due"] (spW 2 (fun F vs (i : Str × (Option (List ((List Int) × (List Int))))) => ∃ v0 v1, vs = [v0, v1] ∧ eStr.rep F v0 i.1 ∧ (eOpt (eTup (eP2 (eTup eInt) (eTup eInt)))).rep F v1 i.2) eBool (fun (i : Str × (Option (List ((List Int) × (List Int))))) => m_law_pairs_asked i.1 i.2))) (D_law_rows_of : Def P w K mg base 3 "_law_rows_of" ["form"] (spW 1 (fun F vs (i : Str) => ∃ v0, vs = [v0] ∧ eStr.rep F v0 i) (eOpt (eTup (eP3 (eTup eInt) (eTup eInt) (eTup eStr)))) (fun (i : Str) => m_law_rows_of i))) (D_law_pairs_of : Def P w K mg base 3 "_law_pairs_of" ["form"] (spW 1 (fun F vs (i : Str) => ∃ v0, vs = [v0] ∧ eStr.rep F v0 i) (eOpt (eTup (eP2 (eTup eInt) (eTup eInt)))) (fun (i : Str) => m_law_pairs_of i))) :
    Def P w K mg base 11 "_law_both_hold" ["form"] (spW 1 (fun F vs (i : Str) => ∃ v0, vs = [v0] ∧ eStr.rep F v0 i) eBool (fun (i : Str) => m_law_both_hold i)) := by
  refine Def.mk0 F sc_law_both_hold (by first | exact NF.hl_spW | exact NF.hl_spWb | exact NF.hl_spWX) (fun _ _ _ _ _ _ us hl => match us, hl with | [_], _ => rfl) (fun cdv A outer s H vs Q E hr h => ?_)
  refine ⟨_, (pss_cons (ps_if (pt_not (pt_val (pe_d D_law_pairs_asked (hr.mono (by decide)) rfl (pa_cons (pv 0) (pa_cons (pe_d D_law_pairs_of (hr.mono (by decide)) rfl (pa_cons (pv 0) pa_nil)) pa_nil)))))
      (pss_one (ps_ret pe_bl))
      pss_nil)
      (pss_one (ps_ret (pe_d D_law_rows_asked (hr.mono (by decide)) rfl (pa_cons (pv 0) (pa_cons (pe_d D_law_rows_of (hr.mono (by decide)) rfl (pa_cons (pv 0) pa_nil)) pa_nil)))))), ?_⟩
  try dsimp only [cxOf, Cx.nox, Cx.wish]
  obtain ⟨hl, F, a_form, K0, hF, ⟨_, rfl, rfl⟩, k, q⟩ := h
  have O := NF.Fz.start hF
  have lF := NF.Ex.rfl (B := H) (F := F)
  refine (NF.x_seq (NF.x_ifs (NF.x_not (NF.x_B (NF.x_call (NF.x_cons (NF.x_var rfl (NF.x_cons (NF.x_call (NF.x_cons (NF.x_var rfl (NF.x_nil (NF.use_spW (i := a_form) O rfl ⟨_, rfl, rfl⟩ k (fun y1 v2 F H l0 O h3 k => (have lF := Ex.trans lF l0; (NF.x_nil (NF.use_spW (i := (a_form, y1)) O rfl ⟨_, _, rfl, rfl, h3⟩ k (fun y4 v F H l0 O hv k => NF.byB v hv (have h3 := Enc.mono (eOpt (eTup (eP2 (eTup eInt) (eTup eInt)))) l0.le h3; (have lF := Ex.trans lF l0; (NF.x_bl (NF.x_itb (fun g9 => (have k := k.1 g9; ?_)) (fun g9 => (have k := k.2 g9; ?_))))))))))))))))))))))))
  · exact (NF.x_ret (NF.x_c (q false k _ _ _ O.leB O.leF lF rfl)))
  · refine NF.x_next ?_
    exact (NF.x_ret (NF.x_call (NF.x_cons (NF.x_var rfl (NF.x_cons (NF.x_call (NF.x_cons (NF.x_var rfl (NF.x_nil (NF.use_spW (i := a_form) O rfl ⟨_, rfl, rfl⟩ k (fun y5 v6 F H l0 O h7 k => (have lF := Ex.trans lF l0; (NF.x_nil (NF.use_spW (i := (a_form, y5)) O rfl ⟨_, _, rfl, rfl, h7⟩ k (fun y8 v F H l0 O hv k => NF.byB v hv (have h7 := Enc.mono (eOpt (eTup (eP3 (eTup eInt) (eTup eInt) (eTup eStr)))) l0.le h7; (have lF := Ex.trans lF l0; (q y8 k _ _ _ O.leB O.leF lF rfl))))))))))))))))))

def m_law_menu_holds : W (Bool) :=
  W.chk ([(Str.ofString ""), (Str.ofString "."), (Str.ofString ".."), (Str.ofString ">"), (Str.ofString ">>"), (Str.ofString ";"), (Str.ofString ","), (Str.ofString "0"), (Str.ofString "0>"), (Str.ofString ">0"), (Str.ofString "0>0"), (Str.ofString "0>0>"), (Str.ofString "0>0>."), (Str.ofString "0>0>a")].length + [(Str.ofString "0>0>a,"), (Str.ofString "0>0>,a")].length ≤ sizeLine) <|
  W.chk (([(Str.ofString ""), (Str.ofString "."), (Str.ofString ".."), (Str.ofString ">"), (Str.ofString ">>"), (Str.ofString ";"), (Str.ofString ","), (Str.ofString "0"), (Str.ofString "0>"), (Str.ofString ">0"), (Str.ofString "0>0"), (Str.ofString "0>0>"), (Str.ofString "0>0>."), (Str.ofString "0>0>a")] ++ [(Str.ofString "0>0>a,"), (Str.ofString "0>0>,a")]).length + [(Str.ofString "0>0>a,A"), (Str.ofString "0>0>.,."), (Str.ofString "0>0>a."), (Str.ofString "0>0>i"), (Str.ofString "0>0>0"), (Str.ofString "0>0>0>0"), (Str.ofString "0>0;"), (Str.ofString ";0>0")].length ≤ sizeLine) <|
  W.chk ((([(Str.ofString ""), (Str.ofString "."), (Str.ofString ".."), (Str.ofString ">"), (Str.ofString ">>"), (Str.ofString ";"), (Str.ofString ","), (Str.ofString "0"), (Str.ofString "0>"), (Str.ofString ">0"), (Str.ofString "0>0"), (Str.ofString "0>0>"), (Str.ofString "0>0>."), (Str.ofString "0>0>a")] ++ [(Str.ofString "0>0>a,"), (Str.ofString "0>0>,a")]) ++ [(Str.ofString "0>0>a,A"), (Str.ofString "0>0>.,."), (Str.ofString "0>0>a."), (Str.ofString "0>0>i"), (Str.ofString "0>0>0"), (Str.ofString "0>0>0>0"), (Str.ofString "0>0;"), (Str.ofString ";0>0")]).length + [(Str.ofString "0>0;;0>0"), (Str.ofString "0>0;."), (Str.ofString ".;0>0")].length ≤ sizeLine) <|
  W.chk (((([(Str.ofString ""), (Str.ofString "."), (Str.ofString ".."), (Str.ofString ">"), (Str.ofString ">>"), (Str.ofString ";"), (Str.ofString ","), (Str.ofString "0"), (Str.ofString "0>"), (Str.ofString ">0"), (Str.ofString "0>0"), (Str.ofString "0>0>"), (Str.ofString "0>0>."), (Str.ofString "0>0>a")] ++ [(Str.ofString "0>0>a,"), (Str.ofString "0>0>,a")]) ++ [(Str.ofString "0>0>a,A"), (Str.ofString "0>0>.,."), (Str.ofString "0>0>a."), (Str.ofString "0>0>i"), (Str.ofString "0>0>0"), (Str.ofString "0>0>0>0"), (Str.ofString "0>0;"), (Str.ofString ";0>0")]) ++ [(Str.ofString "0>0;;0>0"), (Str.ofString "0>0;."), (Str.ofString ".;0>0")]).length + [(Str.ofString "0>0;0>0"), (Str.ofString "0,>0"), (Str.ofString "0>,0"), (Str.ofString ",0>0"), (Str.ofString "0,,0>0"), (Str.ofString "0,0>0"), (Str.ofString "0>0,0"), (Str.ofString "0,1,2>3,4,5")].length ≤ sizeLine) <|
  W.chk ((((([(Str.ofString ""), (Str.ofString "."), (Str.ofString ".."), (Str.ofString ">"), (Str.ofString ">>"), (Str.ofString ";"), (Str.ofString ","), (Str.ofString "0"), (Str.ofString "0>"), (Str.ofString ">0"), (Str.ofString "0>0"), (Str.ofString "0>0>"), (Str.ofString "0>0>."), (Str.ofString "0>0>a")] ++ [(Str.ofString "0>0>a,"), (Str.ofString "0>0>,a")]) ++ [(Str.ofString "0>0>a,A"), (Str.ofString "0>0>.,."), (Str.ofString "0>0>a."), (Str.ofString "0>0>i"), (Str.ofString "0>0>0"), (Str.ofString "0>0>0>0"), (Str.ofString "0>0;"), (Str.ofString ";0>0")]) ++ [(Str.ofString "0>0;;0>0"), (Str.ofString "0>0;."), (Str.ofString ".;0>0")]) ++ [(Str.ofString "0>0;0>0"), (Str.ofString "0,>0"), (Str.ofString "0>,0"), (Str.ofString ",0>0"), (Str.ofString "0,,0>0"), (Str.ofString "0,0>0"), (Str.ofString "0>0,0"), (Str.ofString "0,1,2>3,4,5")]).length + [(Str.ofString "0,1,2,3,1>0,1,2,3,0"), (Str.ofString "00>0")].length ≤ sizeLine) <|
  W.chk (((((([(Str.ofString ""), (Str.ofString "."), (Str.ofString ".."), (Str.ofString ">"), (Str.ofString ">>"), (Str.ofString ";"), (Str.ofString ","), (Str.ofString "0"), (Str.ofString "0>"), (Str.ofString ">0"), (Str.ofString "0>0"), (Str.ofString "0>0>"), (Str.ofString "0>0>."), (Str.ofString "0>0>a")] ++ [(Str.ofString "0>0>a,"), (Str.ofString "0>0>,a")]) ++ [(Str.ofString "0>0>a,A"), (Str.ofString "0>0>.,."), (Str.ofString "0>0>a."), (Str.ofString "0>0>i"), (Str.ofString "0>0>0"), (Str.ofString "0>0>0>0"), (Str.ofString "0>0;"), (Str.ofString ";0>0")]) ++ [(Str.ofString "0>0;;0>0"), (Str.ofString "0>0;."), (Str.ofString ".;0>0")]) ++ [(Str.ofString "0>0;0>0"), (Str.ofString "0,>0"), (Str.ofString "0>,0"), (Str.ofString ",0>0"), (Str.ofString "0,,0>0"), (Str.ofString "0,0>0"), (Str.ofString "0>0,0"), (Str.ofString "0,1,2>3,4,5")]) ++ [(Str.ofString "0,1,2,3,1>0,1,2,3,0"), (Str.ofString "00>0")]).length + [(Str.ofString "0>01"), (Str.ofString "-1>0"), (Str.ofString "+1>0"), (Str.ofString "0> 0"), (Str.ofString " 0>0"), (Str.ofString "0>0\n"), (Str.ofString "0>0 "), (Str.ofString "1000000000>0")].length ≤ sizeLine) <|
  W.chk ((((((([(Str.ofString ""), (Str.ofString "."), (Str.ofString ".."), (Str.ofString ">"), (Str.ofString ">>"), (Str.ofString ";"), (Str.ofString ","), (Str.ofString "0"), (Str.ofString "0>"), (Str.ofString ">0"), (Str.ofString "0>0"), (Str.ofString "0>0>"), (Str.ofString "0>0>."), (Str.ofString "0>0>a")] ++ [(Str.ofString "0>0>a,"), (Str.ofString "0>0>,a")]) ++ [(Str.ofString "0>0>a,A"), (Str.ofString "0>0>.,."), (Str.ofString "0>0>a."), (Str.ofString "0>0>i"), (Str.ofString "0>0>0"), (Str.ofString "0>0>0>0"), (Str.ofString "0>0;"), (Str.ofString ";0>0")]) ++ [(Str.ofString "0>0;;0>0"), (Str.ofString "0>0;."), (Str.ofString ".;0>0")]) ++ [(Str.ofString "0>0;0>0"), (Str.ofString "0,>0"), (Str.ofString "0>,0"), (Str.ofString ",0>0"), (Str.ofString "0,,0>0"), (Str.ofString "0,0>0"), (Str.ofString "0>0,0"), (Str.ofString "0,1,2>3,4,5")]) ++ [(Str.ofString "0,1,2,3,1>0,1,2,3,0"), (Str.ofString "00>0")]) ++ [(Str.ofString "0>01"), (Str.ofString "-1>0"), (Str.ofString "+1>0"), (Str.ofString "0> 0"), (Str.ofString " 0>0"), (Str.ofString "0>0\n"), (Str.ofString "0>0 "), (Str.ofString "1000000000>0")]).length + [(Str.ofString "0>1000000000"), (Str.ofString "999999999>999999999")].length ≤ sizeLine) <|
  W.chk (((((((([(Str.ofString ""), (Str.ofString "."), (Str.ofString ".."), (Str.ofString ">"), (Str.ofString ">>"), (Str.ofString ";"), (Str.ofString ","), (Str.ofString "0"), (Str.ofString "0>"), (Str.ofString ">0"), (Str.ofString "0>0"), (Str.ofString "0>0>"), (Str.ofString "0>0>."), (Str.ofString "0>0>a")] ++ [(Str.ofString "0>0>a,"), (Str.ofString "0>0>,a")]) ++ [(Str.ofString "0>0>a,A"), (Str.ofString "0>0>.,."), (Str.ofString "0>0>a."), (Str.ofString "0>0>i"), (Str.ofString "0>0>0"), (Str.ofString "0>0>0>0"), (Str.ofString "0>0;"), (Str.ofString ";0>0")]) ++ [(Str.ofString "0>0;;0>0"), (Str.ofString "0>0;."), (Str.ofString ".;0>0")]) ++ [(Str.ofString "0>0;0>0"), (Str.ofString "0,>0"), (Str.ofString "0>,0"), (Str.ofString ",0>0"), (Str.ofString "0,,0>0"), (Str.ofString "0,0>0"), (Str.ofString "0>0,0"), (Str.ofString "0,1,2>3,4,5")]) ++ [(Str.ofString "0,1,2,3,1>0,1,2,3,0"), (Str.ofString "00>0")]) ++ [(Str.ofString "0>01"), (Str.ofString "-1>0"), (Str.ofString "+1>0"), (Str.ofString "0> 0"), (Str.ofString " 0>0"), (Str.ofString "0>0\n"), (Str.ofString "0>0 "), (Str.ofString "1000000000>0")]) ++ [(Str.ofString "0>1000000000"), (Str.ofString "999999999>999999999")]).length + [(Str.ofString "0999999999>0"), (Str.ofString "a>0"), (Str.ofString "0>a"), (Str.ofString "0>0>.;0>0"), (Str.ofString "0>0>.;"), (Str.ofString "0>0>.;."), (Str.ofString "0>0>.\n"), (Str.ofString "0>0>a A")].length ≤ sizeLine) <|
  W.chk ((((((((([(Str.ofString ""), (Str.ofString "."), (Str.ofString ".."), (Str.ofString ">"), (Str.ofString ">>"), (Str.ofString ";"), (Str.ofString ","), (Str.ofString "0"), (Str.ofString "0>"), (Str.ofString ">0"), (Str.ofString "0>0"), (Str.ofString "0>0>"), (Str.ofString "0>0>."), (Str.ofString "0>0>a")] ++ [(Str.ofString "0>0>a,"), (Str.ofString "0>0>,a")]) ++ [(Str.ofString "0>0>a,A"), (Str.ofString "0>0>.,."), (Str.ofString "0>0>a."), (Str.ofString "0>0>i"), (Str.ofString "0>0>0"), (Str.ofString "0>0>0>0"), (Str.ofString "0>0;"), (Str.ofString ";0>0")]) ++ [(Str.ofString "0>0;;0>0"), (Str.ofString "0>0;."), (Str.ofString ".;0>0")]) ++ [(Str.ofString "0>0;0>0"), (Str.ofString "0,>0"), (Str.ofString "0>,0"), (Str.ofString ",0>0"), (Str.ofString "0,,0>0"), (Str.ofString "0,0>0"), (Str.ofString "0>0,0"), (Str.ofString "0,1,2>3,4,5")]) ++ [(Str.ofString "0,1,2,3,1>0,1,2,3,0"), (Str.ofString "00>0")]) ++ [(Str.ofString "0>01"), (Str.ofString "-1>0"), (Str.ofString "+1>0"), (Str.ofString "0> 0"), (Str.ofString " 0>0"), (Str.ofString "0>0\n"), (Str.ofString "0>0 "), (Str.ofString "1000000000>0")]) ++ [(Str.ofString "0>1000000000"), (Str.ofString "999999999>999999999")]) ++ [(Str.ofString "0999999999>0"), (Str.ofString "a>0"), (Str.ofString "0>a"), (Str.ofString "0>0>.;0>0"), (Str.ofString "0>0>.;"), (Str.ofString "0>0>.;."), (Str.ofString "0>0>.\n"), (Str.ofString "0>0>a A")]).length + [(Str.ofString "0>>0"), (Str.ofString "0>>."), (Str.ofString ">0>."), (Str.ofString "0.0>0")].length ≤ sizeLine) <|
  W.chk (((((((((([(Str.ofString ""), (Str.ofString "."), (Str.ofString ".."), (Str.ofString ">"), (Str.ofString ">>"), (Str.ofString ";"), (Str.ofString ","), (Str.ofString "0"), (Str.ofString "0>"), (Str.ofString ">0"), (Str.ofString "0>0"), (Str.ofString "0>0>"), (Str.ofString "0>0>."), (Str.ofString "0>0>a")] ++ [(Str.ofString "0>0>a,"), (Str.ofString "0>0>,a")]) ++ [(Str.ofString "0>0>a,A"), (Str.ofString "0>0>.,."), (Str.ofString "0>0>a."), (Str.ofString "0>0>i"), (Str.ofString "0>0>0"), (Str.ofString "0>0>0>0"), (Str.ofString "0>0;"), (Str.ofString ";0>0")]) ++ [(Str.ofString "0>0;;0>0"), (Str.ofString "0>0;."), (Str.ofString ".;0>0")]) ++ [(Str.ofString "0>0;0>0"), (Str.ofString "0,>0"), (Str.ofString "0>,0"), (Str.ofString ",0>0"), (Str.ofString "0,,0>0"), (Str.ofString "0,0>0"), (Str.ofString "0>0,0"), (Str.ofString "0,1,2>3,4,5")]) ++ [(Str.ofString "0,1,2,3,1>0,1,2,3,0"), (Str.ofString "00>0")]) ++ [(Str.ofString "0>01"), (Str.ofString "-1>0"), (Str.ofString "+1>0"), (Str.ofString "0> 0"), (Str.ofString " 0>0"), (Str.ofString "0>0\n"), (Str.ofString "0>0 "), (Str.ofString "1000000000>0")]) ++ [(Str.ofString "0>1000000000"), (Str.ofString "999999999>999999999")]) ++ [(Str.ofString "0999999999>0"), (Str.ofString "a>0"), (Str.ofString "0>a"), (Str.ofString "0>0>.;0>0"), (Str.ofString "0>0>.;"), (Str.ofString "0>0>.;."), (Str.ofString "0>0>.\n"), (Str.ofString "0>0>a A")]) ++ [(Str.ofString "0>>0"), (Str.ofString "0>>."), (Str.ofString ">0>."), (Str.ofString "0.0>0")]).length + [(Str.ofString "0>0>.;0>0>."), (Str.ofString "0>0>hH,hH"), (Str.ofString "0>0>Hh"), (Str.ofString "0>00>."), (Str.ofString "0,0,0>0,0,0>.,aA,aAbB"), (Str.ofString "0>0>.,")].length ≤ sizeLine) <|
  W.chk ((((((((((([(Str.ofString ""), (Str.ofString "."), (Str.ofString ".."), (Str.ofString ">"), (Str.ofString ">>"), (Str.ofString ";"), (Str.ofString ","), (Str.ofString "0"), (Str.ofString "0>"), (Str.ofString ">0"), (Str.ofString "0>0"), (Str.ofString "0>0>"), (Str.ofString "0>0>."), (Str.ofString "0>0>a")] ++ [(Str.ofString "0>0>a,"), (Str.ofString "0>0>,a")]) ++ [(Str.ofString "0>0>a,A"), (Str.ofString "0>0>.,."), (Str.ofString "0>0>a."), (Str.ofString "0>0>i"), (Str.ofString "0>0>0"), (Str.ofString "0>0>0>0"), (Str.ofString "0>0;"), (Str.ofString ";0>0")]) ++ [(Str.ofString "0>0;;0>0"), (Str.ofString "0>0;."), (Str.ofString ".;0>0")]) ++ [(Str.ofString "0>0;0>0"), (Str.ofString "0,>0"), (Str.ofString "0>,0"), (Str.ofString ",0>0"), (Str.ofString "0,,0>0"), (Str.ofString "0,0>0"), (Str.ofString "0>0,0"), (Str.ofString "0,1,2>3,4,5")]) ++ [(Str.ofString "0,1,2,3,1>0,1,2,3,0"), (Str.ofString "00>0")]) ++ [(Str.ofString "0>01"), (Str.ofString "-1>0"), (Str.ofString "+1>0"), (Str.ofString "0> 0"), (Str.ofString " 0>0"), (Str.ofString "0>0\n"), (Str.ofString "0>0 "), (Str.ofString "1000000000>0")]) ++ [(Str.ofString "0>1000000000"), (Str.ofString "999999999>999999999")]) ++ [(Str.ofString "0999999999>0"), (Str.ofString "a>0"), (Str.ofString "0>a"), (Str.ofString "0>0>.;0>0"), (Str.ofString "0>0>.;"), (Str.ofString "0>0>.;."), (Str.ofString "0>0>.\n"), (Str.ofString "0>0>a A")]) ++ [(Str.ofString "0>>0"), (Str.ofString "0>>."), (Str.ofString ">0>."), (Str.ofString "0.0>0")]) ++ [(Str.ofString "0>0>.;0>0>."), (Str.ofString "0>0>hH,hH"), (Str.ofString "0>0>Hh"), (Str.ofString "0>00>."), (Str.ofString "0,0,0>0,0,0>.,aA,aAbB"), (Str.ofString "0>0>.,")]).length + [(Str.ofString "0>0>;0>0>a"), (Str.ofString "(0,0)>0"), (Str.ofString "!")].length ≤ sizeLine) <|
  W.bind (m_law_take (((((((((((([(Str.ofString ""), (Str.ofString "."), (Str.ofString ".."), (Str.ofString ">"), (Str.ofString ">>"), (Str.ofString ";"), (Str.ofString ","), (Str.ofString "0"), (Str.ofString "0>"), (Str.ofString ">0"), (Str.ofString "0>0"), (Str.ofString "0>0>"), (Str.ofString "0>0>."), (Str.ofString "0>0>a")] ++ [(Str.ofString "0>0>a,"), (Str.ofString "0>0>,a")]) ++ [(Str.ofString "0>0>a,A"), (Str.ofString "0>0>.,."), (Str.ofString "0>0>a."), (Str.ofString "0>0>i"), (Str.ofString "0>0>0"), (Str.ofString "0>0>0>0"), (Str.ofString "0>0;"), (Str.ofString ";0>0")]) ++ [(Str.ofString "0>0;;0>0"), (Str.ofString "0>0;."), (Str.ofString ".;0>0")]) ++ [(Str.ofString "0>0;0>0"), (Str.ofString "0,>0"), (Str.ofString "0>,0"), (Str.ofString ",0>0"), (Str.ofString "0,,0>0"), (Str.ofString "0,0>0"), (Str.ofString "0>0,0"), (Str.ofString "0,1,2>3,4,5")]) ++ [(Str.ofString "0,1,2,3,1>0,1,2,3,0"), (Str.ofString "00>0")]) ++ [(Str.ofString "0>01"), (Str.ofString "-1>0"), (Str.ofString "+1>0"), (Str.ofString "0> 0"), (Str.ofString " 0>0"), (Str.ofString "0>0\n"), (Str.ofString "0>0 "), (Str.ofString "1000000000>0")]) ++ [(Str.ofString "0>1000000000"), (Str.ofString "999999999>999999999")]) ++ [(Str.ofString "0999999999>0"), (Str.ofString "a>0"), (Str.ofString "0>a"), (Str.ofString "0>0>.;0>0"), (Str.ofString "0>0>.;"), (Str.ofString "0>0>.;."), (Str.ofString "0>0>.\n"), (Str.ofString "0>0>a A")]) ++ [(Str.ofString "0>>0"), (Str.ofString "0>>."), (Str.ofString ">0>."), (Str.ofString "0.0>0")]) ++ [(Str.ofString "0>0>.;0>0>."), (Str.ofString "0>0>hH,hH"), (Str.ofString "0>0>Hh"), (Str.ofString "0>00>."), (Str.ofString "0,0,0>0,0,0>.,aA,aAbB"), (Str.ofString "0>0>.,")]) ++ [(Str.ofString "0>0>;0>0>a"), (Str.ofString "(0,0)>0"), (Str.ofString "!")]).length : Int)) fun y58 =>
  W.at_ ((((((((((([(Str.ofString ""), (Str.ofString "."), (Str.ofString ".."), (Str.ofString ">"), (Str.ofString ">>"), (Str.ofString ";"), (Str.ofString ","), (Str.ofString "0"), (Str.ofString "0>"), (Str.ofString ">0"), (Str.ofString "0>0"), (Str.ofString "0>0>"), (Str.ofString "0>0>."), (Str.ofString "0>0>a")] ++ [(Str.ofString "0>0>a,"), (Str.ofString "0>0>,a")]) ++ [(Str.ofString "0>0>a,A"), (Str.ofString "0>0>.,."), (Str.ofString "0>0>a."), (Str.ofString "0>0>i"), (Str.ofString "0>0>0"), (Str.ofString "0>0>0>0"), (Str.ofString "0>0;"), (Str.ofString ";0>0")]) ++ [(Str.ofString "0>0;;0>0"), (Str.ofString "0>0;."), (Str.ofString ".;0>0")]) ++ [(Str.ofString "0>0;0>0"), (Str.ofString "0,>0"), (Str.ofString "0>,0"), (Str.ofString ",0>0"), (Str.ofString "0,,0>0"), (Str.ofString "0,0>0"), (Str.ofString "0>0,0"), (Str.ofString "0,1,2>3,4,5")]) ++ [(Str.ofString "0,1,2,3,1>0,1,2,3,0"), (Str.ofString "00>0")]) ++ [(Str.ofString "0>01"), (Str.ofString "-1>0"), (Str.ofString "+1>0"), (Str.ofString "0> 0"), (Str.ofString " 0>0"), (Str.ofString "0>0\n"), (Str.ofString "0>0 "), (Str.ofString "1000000000>0")]) ++ [(Str.ofString "0>1000000000"), (Str.ofString "999999999>999999999")]) ++ [(Str.ofString "0999999999>0"), (Str.ofString "a>0"), (Str.ofString "0>a"), (Str.ofString "0>0>.;0>0"), (Str.ofString "0>0>.;"), (Str.ofString "0>0>.;."), (Str.ofString "0>0>.\n"), (Str.ofString "0>0>a A")]) ++ [(Str.ofString "0>>0"), (Str.ofString "0>>."), (Str.ofString ">0>."), (Str.ofString "0.0>0")]) ++ [(Str.ofString "0>0>.;0>0>."), (Str.ofString "0>0>hH,hH"), (Str.ofString "0>0>Hh"), (Str.ofString "0>00>."), (Str.ofString "0,0,0>0,0,0>.,aA,aAbB"), (Str.ofString "0>0>.,")]) ++ [(Str.ofString "0>0>;0>0>a"), (Str.ofString "(0,0)>0"), (Str.ofString "!")]) y58 fun x60 =>
  W.bind (m_law_both_hold x60) fun y61 =>
  W.ok y61
abbrev NM_law_menu_holds : List Str := ["box", "menu"]
theorem sc_law_menu_holds : FnScope NM_law_menu_holds ["box"] (defScope s_law_menu_holds) := ⟨rfl, rfl, rfl, by decide +kernel, rfl, by decide +kernel, by decide +kernel⟩
theorem d_law_menu_holds (F : Fn0 K mg "_law_menu_holds" s_law_menu_holds) (T : Txt P K mg) (D_law_both_hold : Def P w K mg base 11 "_law_both_hold" ["form"] (spW 1 (fun F vs (i : Str) => ∃ v0, vs = [v0] ∧ eStr.rep F v0 i) eBool (fun (i : Str) => m_law_both_hold i))) (D_law_take : Def P w K mg base 1 "_law_take" ["box", "many"] (spWb BxW 1 (fun F vs (i : Int) => ∃ v0, vs = [v0] ∧ eInt.rep F v0 i) eInt (fun (i : Int) => m_law_take i))) :
    Def P w K mg base 12 "_law_menu_holds" ["box"] (spWb BxW 0 (fun F vs (i : Unit) => vs = []) eBool (fun (i : Unit) => m_law_menu_holds)) := by
  refine Def.mk0 F sc_law_menu_holds (by first | exact NF.hl_spW | exact NF.hl_spWb | exact NF.hl_spWX) (fun _ _ _ _ _ _ us hl => match us, hl with | [_], _ => rfl) (fun cdv A outer s H vs Q E hr h => ?_)
  refine ⟨_, (pss_cons (ps_set (i := 1) sc_law_menu_holds.nd rfl (Or.inl rfl) (pe_lst (pa_cons pe_str (pa_cons pe_str (pa_cons pe_str (pa_cons pe_str (pa_cons pe_str (pa_cons pe_str (pa_cons pe_str (pa_cons pe_str (pa_cons pe_str (pa_cons pe_str (pa_cons pe_str (pa_cons pe_str (pa_cons pe_str (pa_cons pe_str pa_nil))))))))))))))))
      (pss_cons (ps_set (i := 1) sc_law_menu_holds.nd rfl (Or.inl rfl) (pe_op op_cat (pv 1) (pe_lst (pa_cons pe_str (pa_cons pe_str pa_nil)))))
      (pss_cons (ps_set (i := 1) sc_law_menu_holds.nd rfl (Or.inl rfl) (pe_op op_cat (pv 1) (pe_lst (pa_cons pe_str (pa_cons pe_str (pa_cons pe_str (pa_cons pe_str (pa_cons pe_str (pa_cons pe_str (pa_cons pe_str (pa_cons pe_str pa_nil)))))))))))
      (pss_cons (ps_set (i := 1) sc_law_menu_holds.nd rfl (Or.inl rfl) (pe_op op_cat (pv 1) (pe_lst (pa_cons pe_str (pa_cons pe_str (pa_cons pe_str pa_nil))))))
      (pss_cons (ps_set (i := 1) sc_law_menu_holds.nd rfl (Or.inl rfl) (pe_op op_cat (pv 1) (pe_lst (pa_cons pe_str (pa_cons pe_str (pa_cons pe_str (pa_cons pe_str (pa_cons pe_str (pa_cons pe_str (pa_cons pe_str (pa_cons pe_str pa_nil)))))))))))
      (pss_cons (ps_set (i := 1) sc_law_menu_holds.nd rfl (Or.inl rfl) (pe_op op_cat (pv 1) (pe_lst (pa_cons pe_str (pa_cons pe_str pa_nil)))))
      (pss_cons (ps_set (i := 1) sc_law_menu_holds.nd rfl (Or.inl rfl) (pe_op op_cat (pv 1) (pe_lst (pa_cons pe_str (pa_cons pe_str (pa_cons pe_str (pa_cons pe_str (pa_cons pe_str (pa_cons pe_str (pa_cons pe_str (pa_cons pe_str pa_nil)))))))))))
      (pss_cons (ps_set (i := 1) sc_law_menu_holds.nd rfl (Or.inl rfl) (pe_op op_cat (pv 1) (pe_lst (pa_cons pe_str (pa_cons pe_str pa_nil)))))
      (pss_cons (ps_set (i := 1) sc_law_menu_holds.nd rfl (Or.inl rfl) (pe_op op_cat (pv 1) (pe_lst (pa_cons pe_str (pa_cons pe_str (pa_cons pe_str (pa_cons pe_str (pa_cons pe_str (pa_cons pe_str (pa_cons pe_str (pa_cons pe_str pa_nil)))))))))))
      (pss_cons (ps_set (i := 1) sc_law_menu_holds.nd rfl (Or.inl rfl) (pe_op op_cat (pv 1) (pe_lst (pa_cons pe_str (pa_cons pe_str (pa_cons pe_str (pa_cons pe_str pa_nil)))))))
      (pss_cons (ps_set (i := 1) sc_law_menu_holds.nd rfl (Or.inl rfl) (pe_op op_cat (pv 1) (pe_lst (pa_cons pe_str (pa_cons pe_str (pa_cons pe_str (pa_cons pe_str (pa_cons pe_str (pa_cons pe_str pa_nil)))))))))
      (pss_cons (ps_set (i := 1) sc_law_menu_holds.nd rfl (Or.inl rfl) (pe_op op_cat (pv 1) (pe_lst (pa_cons pe_str (pa_cons pe_str (pa_cons pe_str pa_nil))))))
      (pss_one (ps_ret (pe_d D_law_both_hold (hr.mono (by decide)) rfl (pa_cons (pe_ix ix_list (pv 1) (pe_d D_law_take (hr.mono (by decide)) rfl (pa_cons (pv 0) (pa_cons (pe_callB (id := "len") callLen (by rfl) T.b_len (by decide +kernel) (pa_cons (pv 1) pa_nil)) pa_nil))) (fun _ _ => rfl)) pa_nil)))))))))))))))), ?_⟩
  try dsimp only [cxOf, Cx.nox, Cx.wish]
  obtain ⟨ab, bx, _, F, _, K0, rfl, hl, hb, hbx, hbF, hF, rfl, k, q⟩ := h
  have O := NF.Fz.startB hF hbx hbF
  have lF := NF.Ex.rfl (B := del H ab) (F := F)
  refine (NF.x_seq (NF.x_asg (NF.x_lst (NF.x_cons (NF.x_c (NF.x_cons (NF.x_c (NF.x_cons (NF.x_c (NF.x_cons (NF.x_c (NF.x_cons (NF.x_c (NF.x_cons (NF.x_c (NF.x_cons (NF.x_c (NF.x_cons (NF.x_c (NF.x_cons (NF.x_c (NF.x_cons (NF.x_c (NF.x_cons (NF.x_c (NF.x_cons (NF.x_c (NF.x_cons (NF.x_c (NF.x_cons (NF.x_c (NF.x_nil (NF.y_lstF O (show 14 ≤ sizeLine by decide) (fun p2 F H hp l0 O => (have lF := Ex.trans lF l0; (have h1 : (eLst eStr).rep F (.ref p2) [(Str.ofString ""), (Str.ofString "."), (Str.ofString ".."), (Str.ofString ">"), (Str.ofString ">>"), (Str.ofString ";"), (Str.ofString ","), (Str.ofString "0"), (Str.ofString "0>"), (Str.ofString ">0"), (Str.ofString "0>0"), (Str.ofString "0>0>"), (Str.ofString "0>0>."), (Str.ofString "0>0>a")] := ⟨_, _, rfl, hp, .cons rfl (.cons rfl (.cons rfl (.cons rfl (.cons rfl (.cons rfl (.cons rfl (.cons rfl (.cons rfl (.cons rfl (.cons rfl (.cons rfl (.cons rfl (.cons rfl (.nil))))))))))))))⟩; (NF.x_name ?_)))))))))))))))))))))))))))))))))))))
  refine (NF.x_seq (NF.x_asg (NF.x_op (NF.x_var rfl (NF.x_lst (NF.x_cons (NF.x_c (NF.x_cons (NF.x_c (NF.x_nil (NF.y_lstF O (show 2 ≤ sizeLine by decide) (fun p4 F H hp l0 O => (have h1 := Enc.mono (eLst eStr) l0.le h1; (have lF := Ex.trans lF l0; (have h3 : (eLst eStr).rep F (.ref p4) [(Str.ofString "0>0>a,"), (Str.ofString "0>0>,a")] := ⟨_, _, rfl, hp, .cons rfl (.cons rfl (.nil))⟩; (have c5 := k.1; have k := k.2; (NF.y_catF O h1 h3 c5 (fun p7 F H h6 l0 O => (have h1 := Enc.mono (eLst eStr) l0.le h1; (have h3 := Enc.mono (eLst eStr) l0.le h3; (have lF := Ex.trans lF l0; (NF.x_name ?_))))))))))))))))))))))
  refine (NF.x_seq (NF.x_asg (NF.x_op (NF.x_var rfl (NF.x_lst (NF.x_cons (NF.x_c (NF.x_cons (NF.x_c (NF.x_cons (NF.x_c (NF.x_cons (NF.x_c (NF.x_cons (NF.x_c (NF.x_cons (NF.x_c (NF.x_cons (NF.x_c (NF.x_cons (NF.x_c (NF.x_nil (NF.y_lstF O (show 8 ≤ sizeLine by decide) (fun p9 F H hp l0 O => (have h6 := Enc.mono (eLst eStr) l0.le h6; (have lF := Ex.trans lF l0; (have h8 : (eLst eStr).rep F (.ref p9) [(Str.ofString "0>0>a,A"), (Str.ofString "0>0>.,."), (Str.ofString "0>0>a."), (Str.ofString "0>0>i"), (Str.ofString "0>0>0"), (Str.ofString "0>0>0>0"), (Str.ofString "0>0;"), (Str.ofString ";0>0")] := ⟨_, _, rfl, hp, .cons rfl (.cons rfl (.cons rfl (.cons rfl (.cons rfl (.cons rfl (.cons rfl (.cons rfl (.nil))))))))⟩; (have c10 := k.1; have k := k.2; (NF.y_catF O h6 h8 c10 (fun p12 F H h11 l0 O => (have h6 := Enc.mono (eLst eStr) l0.le h6; (have h8 := Enc.mono (eLst eStr) l0.le h8; (have lF := Ex.trans lF l0; (NF.x_name ?_))))))))))))))))))))))))))))))))))
  refine (NF.x_seq (NF.x_asg (NF.x_op (NF.x_var rfl (NF.x_lst (NF.x_cons (NF.x_c (NF.x_cons (NF.x_c (NF.x_cons (NF.x_c (NF.x_nil (NF.y_lstF O (show 3 ≤ sizeLine by decide) (fun p14 F H hp l0 O => (have h11 := Enc.mono (eLst eStr) l0.le h11; (have lF := Ex.trans lF l0; (have h13 : (eLst eStr).rep F (.ref p14) [(Str.ofString "0>0;;0>0"), (Str.ofString "0>0;."), (Str.ofString ".;0>0")] := ⟨_, _, rfl, hp, .cons rfl (.cons rfl (.cons rfl (.nil)))⟩; (have c15 := k.1; have k := k.2; (NF.y_catF O h11 h13 c15 (fun p17 F H h16 l0 O => (have h11 := Enc.mono (eLst eStr) l0.le h11; (have h13 := Enc.mono (eLst eStr) l0.le h13; (have lF := Ex.trans lF l0; (NF.x_name ?_))))))))))))))))))))))))
  refine (NF.x_seq (NF.x_asg (NF.x_op (NF.x_var rfl (NF.x_lst (NF.x_cons (NF.x_c (NF.x_cons (NF.x_c (NF.x_cons (NF.x_c (NF.x_cons (NF.x_c (NF.x_cons (NF.x_c (NF.x_cons (NF.x_c (NF.x_cons (NF.x_c (NF.x_cons (NF.x_c (NF.x_nil (NF.y_lstF O (show 8 ≤ sizeLine by decide) (fun p19 F H hp l0 O => (have h16 := Enc.mono (eLst eStr) l0.le h16; (have lF := Ex.trans lF l0; (have h18 : (eLst eStr).rep F (.ref p19) [(Str.ofString "0>0;0>0"), (Str.ofString "0,>0"), (Str.ofString "0>,0"), (Str.ofString ",0>0"), (Str.ofString "0,,0>0"), (Str.ofString "0,0>0"), (Str.ofString "0>0,0"), (Str.ofString "0,1,2>3,4,5")] := ⟨_, _, rfl, hp, .cons rfl (.cons rfl (.cons rfl (.cons rfl (.cons rfl (.cons rfl (.cons rfl (.cons rfl (.nil))))))))⟩; (have c20 := k.1; have k := k.2; (NF.y_catF O h16 h18 c20 (fun p22 F H h21 l0 O => (have h16 := Enc.mono (eLst eStr) l0.le h16; (have h18 := Enc.mono (eLst eStr) l0.le h18; (have lF := Ex.trans lF l0; (NF.x_name ?_))))))))))))))))))))))))))))))))))
  refine (NF.x_seq (NF.x_asg (NF.x_op (NF.x_var rfl (NF.x_lst (NF.x_cons (NF.x_c (NF.x_cons (NF.x_c (NF.x_nil (NF.y_lstF O (show 2 ≤ sizeLine by decide) (fun p24 F H hp l0 O => (have h21 := Enc.mono (eLst eStr) l0.le h21; (have lF := Ex.trans lF l0; (have h23 : (eLst eStr).rep F (.ref p24) [(Str.ofString "0,1,2,3,1>0,1,2,3,0"), (Str.ofString "00>0")] := ⟨_, _, rfl, hp, .cons rfl (.cons rfl (.nil))⟩; (have c25 := k.1; have k := k.2; (NF.y_catF O h21 h23 c25 (fun p27 F H h26 l0 O => (have h21 := Enc.mono (eLst eStr) l0.le h21; (have h23 := Enc.mono (eLst eStr) l0.le h23; (have lF := Ex.trans lF l0; (NF.x_name ?_))))))))))))))))))))))
  refine (NF.x_seq (NF.x_asg (NF.x_op (NF.x_var rfl (NF.x_lst (NF.x_cons (NF.x_c (NF.x_cons (NF.x_c (NF.x_cons (NF.x_c (NF.x_cons (NF.x_c (NF.x_cons (NF.x_c (NF.x_cons (NF.x_c (NF.x_cons (NF.x_c (NF.x_cons (NF.x_c (NF.x_nil (NF.y_lstF O (show 8 ≤ sizeLine by decide) (fun p29 F H hp l0 O => (have h26 := Enc.mono (eLst eStr) l0.le h26; (have lF := Ex.trans lF l0; (have h28 : (eLst eStr).rep F (.ref p29) [(Str.ofString "0>01"), (Str.ofString "-1>0"), (Str.ofString "+1>0"), (Str.ofString "0> 0"), (Str.ofString " 0>0"), (Str.ofString "0>0\n"), (Str.ofString "0>0 "), (Str.ofString "1000000000>0")] := ⟨_, _, rfl, hp, .cons rfl (.cons rfl (.cons rfl (.cons rfl (.cons rfl (.cons rfl (.cons rfl (.cons rfl (.nil))))))))⟩; (have c30 := k.1; have k := k.2; (NF.y_catF O h26 h28 c30 (fun p32 F H h31 l0 O => (have h26 := Enc.mono (eLst eStr) l0.le h26; (have h28 := Enc.mono (eLst eStr) l0.le h28; (have lF := Ex.trans lF l0; (NF.x_name ?_))))))))))))))))))))))))))))))))))
  refine (NF.x_seq (NF.x_asg (NF.x_op (NF.x_var rfl (NF.x_lst (NF.x_cons (NF.x_c (NF.x_cons (NF.x_c (NF.x_nil (NF.y_lstF O (show 2 ≤ sizeLine by decide) (fun p34 F H hp l0 O => (have h31 := Enc.mono (eLst eStr) l0.le h31; (have lF := Ex.trans lF l0; (have h33 : (eLst eStr).rep F (.ref p34) [(Str.ofString "0>1000000000"), (Str.ofString "999999999>999999999")] := ⟨_, _, rfl, hp, .cons rfl (.cons rfl (.nil))⟩; (have c35 := k.1; have k := k.2; (NF.y_catF O h31 h33 c35 (fun p37 F H h36 l0 O => (have h31 := Enc.mono (eLst eStr) l0.le h31; (have h33 := Enc.mono (eLst eStr) l0.le h33; (have lF := Ex.trans lF l0; (NF.x_name ?_))))))))))))))))))))))
  refine (NF.x_seq (NF.x_asg (NF.x_op (NF.x_var rfl (NF.x_lst (NF.x_cons (NF.x_c (NF.x_cons (NF.x_c (NF.x_cons (NF.x_c (NF.x_cons (NF.x_c (NF.x_cons (NF.x_c (NF.x_cons (NF.x_c (NF.x_cons (NF.x_c (NF.x_cons (NF.x_c (NF.x_nil (NF.y_lstF O (show 8 ≤ sizeLine by decide) (fun p39 F H hp l0 O => (have h36 := Enc.mono (eLst eStr) l0.le h36; (have lF := Ex.trans lF l0; (have h38 : (eLst eStr).rep F (.ref p39) [(Str.ofString "0999999999>0"), (Str.ofString "a>0"), (Str.ofString "0>a"), (Str.ofString "0>0>.;0>0"), (Str.ofString "0>0>.;"), (Str.ofString "0>0>.;."), (Str.ofString "0>0>.\n"), (Str.ofString "0>0>a A")] := ⟨_, _, rfl, hp, .cons rfl (.cons rfl (.cons rfl (.cons rfl (.cons rfl (.cons rfl (.cons rfl (.cons rfl (.nil))))))))⟩; (have c40 := k.1; have k := k.2; (NF.y_catF O h36 h38 c40 (fun p42 F H h41 l0 O => (have h36 := Enc.mono (eLst eStr) l0.le h36; (have h38 := Enc.mono (eLst eStr) l0.le h38; (have lF := Ex.trans lF l0; (NF.x_name ?_))))))))))))))))))))))))))))))))))
  refine (NF.x_seq (NF.x_asg (NF.x_op (NF.x_var rfl (NF.x_lst (NF.x_cons (NF.x_c (NF.x_cons (NF.x_c (NF.x_cons (NF.x_c (NF.x_cons (NF.x_c (NF.x_nil (NF.y_lstF O (show 4 ≤ sizeLine by decide) (fun p44 F H hp l0 O => (have h41 := Enc.mono (eLst eStr) l0.le h41; (have lF := Ex.trans lF l0; (have h43 : (eLst eStr).rep F (.ref p44) [(Str.ofString "0>>0"), (Str.ofString "0>>."), (Str.ofString ">0>."), (Str.ofString "0.0>0")] := ⟨_, _, rfl, hp, .cons rfl (.cons rfl (.cons rfl (.cons rfl (.nil))))⟩; (have c45 := k.1; have k := k.2; (NF.y_catF O h41 h43 c45 (fun p47 F H h46 l0 O => (have h41 := Enc.mono (eLst eStr) l0.le h41; (have h43 := Enc.mono (eLst eStr) l0.le h43; (have lF := Ex.trans lF l0; (NF.x_name ?_))))))))))))))))))))))))))
  refine (NF.x_seq (NF.x_asg (NF.x_op (NF.x_var rfl (NF.x_lst (NF.x_cons (NF.x_c (NF.x_cons (NF.x_c (NF.x_cons (NF.x_c (NF.x_cons (NF.x_c (NF.x_cons (NF.x_c (NF.x_cons (NF.x_c (NF.x_nil (NF.y_lstF O (show 6 ≤ sizeLine by decide) (fun p49 F H hp l0 O => (have h46 := Enc.mono (eLst eStr) l0.le h46; (have lF := Ex.trans lF l0; (have h48 : (eLst eStr).rep F (.ref p49) [(Str.ofString "0>0>.;0>0>."), (Str.ofString "0>0>hH,hH"), (Str.ofString "0>0>Hh"), (Str.ofString "0>00>."), (Str.ofString "0,0,0>0,0,0>.,aA,aAbB"), (Str.ofString "0>0>.,")] := ⟨_, _, rfl, hp, .cons rfl (.cons rfl (.cons rfl (.cons rfl (.cons rfl (.cons rfl (.nil))))))⟩; (have c50 := k.1; have k := k.2; (NF.y_catF O h46 h48 c50 (fun p52 F H h51 l0 O => (have h46 := Enc.mono (eLst eStr) l0.le h46; (have h48 := Enc.mono (eLst eStr) l0.le h48; (have lF := Ex.trans lF l0; (NF.x_name ?_))))))))))))))))))))))))))))))
  refine (NF.x_seq (NF.x_asg (NF.x_op (NF.x_var rfl (NF.x_lst (NF.x_cons (NF.x_c (NF.x_cons (NF.x_c (NF.x_cons (NF.x_c (NF.x_nil (NF.y_lstF O (show 3 ≤ sizeLine by decide) (fun p54 F H hp l0 O => (have h51 := Enc.mono (eLst eStr) l0.le h51; (have lF := Ex.trans lF l0; (have h53 : (eLst eStr).rep F (.ref p54) [(Str.ofString "0>0>;0>0>a"), (Str.ofString "(0,0)>0"), (Str.ofString "!")] := ⟨_, _, rfl, hp, .cons rfl (.cons rfl (.cons rfl (.nil)))⟩; (have c55 := k.1; have k := k.2; (NF.y_catF O h51 h53 c55 (fun p57 F H h56 l0 O => (have h51 := Enc.mono (eLst eStr) l0.le h51; (have h53 := Enc.mono (eLst eStr) l0.le h53; (have lF := Ex.trans lF l0; (NF.x_name ?_))))))))))))))))))))))))
  exact (NF.x_ret (NF.x_call (NF.x_cons (NF.x_op (NF.x_var rfl (NF.x_call (NF.x_cons (NF.x_var rfl (NF.x_cons (NF.x_cb (NF.x_cons (NF.x_var rfl (NF.x_nil (NF.y_lenL O.leF h56 (NF.x_nil (NF.use_spWb (i := (((((((((((([(Str.ofString ""), (Str.ofString "."), (Str.ofString ".."), (Str.ofString ">"), (Str.ofString ">>"), (Str.ofString ";"), (Str.ofString ","), (Str.ofString "0"), (Str.ofString "0>"), (Str.ofString ">0"), (Str.ofString "0>0"), (Str.ofString "0>0>"), (Str.ofString "0>0>."), (Str.ofString "0>0>a")] ++ [(Str.ofString "0>0>a,"), (Str.ofString "0>0>,a")]) ++ [(Str.ofString "0>0>a,A"), (Str.ofString "0>0>.,."), (Str.ofString "0>0>a."), (Str.ofString "0>0>i"), (Str.ofString "0>0>0"), (Str.ofString "0>0>0>0"), (Str.ofString "0>0;"), (Str.ofString ";0>0")]) ++ [(Str.ofString "0>0;;0>0"), (Str.ofString "0>0;."), (Str.ofString ".;0>0")]) ++ [(Str.ofString "0>0;0>0"), (Str.ofString "0,>0"), (Str.ofString "0>,0"), (Str.ofString ",0>0"), (Str.ofString "0,,0>0"), (Str.ofString "0,0>0"), (Str.ofString "0>0,0"), (Str.ofString "0,1,2>3,4,5")]) ++ [(Str.ofString "0,1,2,3,1>0,1,2,3,0"), (Str.ofString "00>0")]) ++ [(Str.ofString "0>01"), (Str.ofString "-1>0"), (Str.ofString "+1>0"), (Str.ofString "0> 0"), (Str.ofString " 0>0"), (Str.ofString "0>0\n"), (Str.ofString "0>0 "), (Str.ofString "1000000000>0")]) ++ [(Str.ofString "0>1000000000"), (Str.ofString "999999999>999999999")]) ++ [(Str.ofString "0999999999>0"), (Str.ofString "a>0"), (Str.ofString "0>a"), (Str.ofString "0>0>.;0>0"), (Str.ofString "0>0>.;"), (Str.ofString "0>0>.;."), (Str.ofString "0>0>.\n"), (Str.ofString "0>0>a A")]) ++ [(Str.ofString "0>>0"), (Str.ofString "0>>."), (Str.ofString ">0>."), (Str.ofString "0.0>0")]) ++ [(Str.ofString "0>0>.;0>0>."), (Str.ofString "0>0>hH,hH"), (Str.ofString "0>0>Hh"), (Str.ofString "0>00>."), (Str.ofString "0,0,0>0,0,0>.,aA,aAbB"), (Str.ofString "0>0>.,")]) ++ [(Str.ofString "0>0>;0>0>a"), (Str.ofString "(0,0)>0"), (Str.ofString "!")]).length : Int)) O 0 rfl hb rfl ⟨_, rfl, rfl⟩ k (fun y58 v F H bx59 hb l0 O hv k => NF.byI v hv (have h56 := Enc.mono (eLst eStr) l0.le h56; (have lF := Ex.trans lF l0; (have O : NF.Fz _ F H [(ab, HO.lst bx59)] := O; (Exists.elim k fun x60 hk => (have k := hk.2; (NF.y_ixL O.leF h56 hk.1 (fun u hu => NF.byS u hu (NF.x_nil (NF.use_spW (i := x60) O rfl ⟨_, rfl, rfl⟩ k (fun y61 v F H l0 O hv k => NF.byB v hv (have h56 := Enc.mono (eLst eStr) l0.le h56; (have lF := Ex.trans lF l0; (q y61 k _ _ _ _ hb (O.get 0 rfl) (NF.keepB O.leB) O.leF (NF.exB lF O) rfl))))))))))))))))))))))))))))))


/-! ### reading, in plain Lean -/
def isD (c : Nat) : Prop := 48 ≤ c ∧ c ≤ 57
instance (c : Nat) : Decidable (isD c) := inferInstanceAs (Decidable (_ ∧ _))
def isL (c : Nat) : Prop := (97 ≤ c ∧ c ≤ 104) ∨ (65 ≤ c ∧ c ≤ 72)
instance (c : Nat) : Decidable (isL c) := inferInstanceAs (Decidable (_ ∨ _))
def okN (l : List Nat) : Prop := l ≠ [] ∧ l.length ≤ 9 ∧ ¬ (1 < l.length ∧ l[0]? = some 48) ∧ ∀ c ∈ l, isD c
instance (l : List Nat) : Decidable (okN l) := inferInstanceAs (Decidable (_ ∧ _))
def valN (l : List Nat) : Nat := NumText.digitsVal l
def okL (l : List Nat) : Prop := l ≠ [] ∧ ∀ c ∈ l, isL c
instance (l : List Nat) : Decidable (okL l) := inferInstanceAs (Decidable (_ ∧ _))
/-! ### numbers -/
theorem digitsVal_snoc (l : List Nat) (c : Nat) : NumText.digitsVal (l ++ [c]) = NumText.digitsVal l * 10 + (c - 48) := by
  unfold NumText.digitsVal
  rw [List.foldl_append]
  rfl
theorem val_pos : ∀ (n : Nat) (l : List Nat), l.length = n → l ≠ [] → (∀ c ∈ l, isD c) → l[0]? ≠ some 48 → 0 < NumText.digitsVal l
  | 0, l, h, h0, _, _ => absurd (List.length_eq_zero_iff.mp h) h0
  | n + 1, l, h, h0, hd, hz => by
    rcases List.eq_nil_or_concat l with e | ⟨l', c, e⟩
    · exact absurd e h0
    rw [List.concat_eq_append] at e
    subst e
    rw [digitsVal_snoc]
    by_cases hl : l' = []
    · subst hl
      have hc := hd c (by simp)
      have : c ≠ 48 := fun e => hz (by rw [e]; rfl)
      unfold isD at hc
      omega
    · have := val_pos n l' (by rw [List.length_append] at h; simpa using h) hl (fun x hx => hd x (List.mem_append_left _ hx)) (fun q => hz (by
        rw [List.getElem?_append_left (List.length_pos_iff.mpr hl)]
        exact q))
      omega
/-- the digits of a number without a zero ahead -/
theorem num_back : ∀ (n : Nat) (l : List Nat), l.length = n → l ≠ [] → (∀ c ∈ l, isD c) → ¬ (1 < l.length ∧ l[0]? = some 48) → numL (NumText.digitsVal l) = l
  | 0, l, h, h0, _, _ => absurd (List.length_eq_zero_iff.mp h) h0
  | n + 1, l, h, h0, hd, hz => by
    rcases List.eq_nil_or_concat l with e | ⟨l', c, e⟩
    · exact absurd e h0
    rw [List.concat_eq_append] at e
    subst e
    have hc := hd c (by simp)
    unfold isD at hc
    rw [digitsVal_snoc]
    by_cases hl : l' = []
    · subst hl
      have e : NumText.digitsVal [] * 10 + (c - 48) = c - 48 := by
        have : NumText.digitsVal [] = 0 := rfl
        omega
      rw [e, numL_lt (by omega)]
      show [48 + (c - 48)] = [c]
      rw [show 48 + (c - 48) = c by omega]
    · have hpos := List.length_pos_iff.mpr hl
      have h1 : l'[0]? ≠ some 48 := fun q => hz ⟨by simp; omega, by rw [List.getElem?_append_left hpos]; exact q⟩
      have hd' : ∀ x ∈ l', isD x := fun x hx => hd x (List.mem_append_left _ hx)
      have hv := val_pos _ l' rfl hl hd' h1
      have ih := num_back n l' (by rw [List.length_append] at h; simpa using h) hl hd' (fun q => h1 q.2)
      rw [numL_step (by omega), show (NumText.digitsVal l' * 10 + (c - 48)) / 10 = NumText.digitsVal l' by omega, show (NumText.digitsVal l' * 10 + (c - 48)) % 10 = c - 48 by omega, ih, show 48 + (c - 48) = c by omega]
theorem val_lt : ∀ (n : Nat) (l : List Nat), l.length = n → (∀ c ∈ l, isD c) → NumText.digitsVal l < 10 ^ n
  | 0, l, h, _ => by rw [List.length_eq_zero_iff.mp h]; decide
  | n + 1, l, h, hd => by
    rcases List.eq_nil_or_concat l with e | ⟨l', c, e⟩
    · rw [e] at h; cases h
    rw [List.concat_eq_append] at e
    subst e
    have h1 := val_lt n l' (by rw [List.length_append] at h; simpa using h) fun x hx => hd x (List.mem_append_left _ hx)
    have hc := hd c (by simp)
    unfold isD at hc
    rw [digitsVal_snoc, Nat.pow_succ]
    omega
theorem intText_ok {z : Str} (h : okN (tl z)) : PySem.intText? z = some ((valN (tl z) : Nat) : Int) := by
  have e := SX.int_S (a := tl z) (by
    rw [List.all_eq_true]
    intro c hc
    have := h.2.2.2 c hc
    unfold isD at this
    simp [this.1, this.2]) h.1 (by have := h.2.1; omega)
  have e2 : SX.S (tl z) = z := TL.mk_tl z
  rw [e2] at e
  exact e
theorem len_e : (Str.ofString "").length = 0 := by decide +kernel
theorem tl_dot : tl (Str.ofString ".") = [46] := by rw [tl_ofString]; decide +kernel
theorem mem_dig {c : Nat} : c ∈ tl (Str.ofString "0123456789") ↔ isD c := by
  rw [tl_ofString, show ("0123456789".toList.map Char.toNat) = [48, 49, 50, 51, 52, 53, 54, 55, 56, 57] by decide +kernel]
  simp only [List.mem_cons, List.not_mem_nil, or_false]
  unfold isD
  omega
theorem mem_nam {c : Nat} : c ∈ tl (Str.ofString "abcdefgh") ∨ c ∈ tl (Str.ofString "ABCDEFGH") ↔ isL c := by
  rw [tl_ofString, tl_ofString, show ("abcdefgh".toList.map Char.toNat) = [97, 98, 99, 100, 101, 102, 103, 104] by decide +kernel, show ("ABCDEFGH".toList.map Char.toNat) = [65, 66, 67, 68, 69, 70, 71, 72] by decide +kernel]
  simp only [List.mem_cons, List.not_mem_nil, or_false]
  unfold isL
  omega

def gN (z : Str) : Option Int := if okN (tl z) then some (valN (tl z) : Nat) else none
def gT (z : Str) : Option Str := if z = Str.ofString "." then some (Str.ofString "") else if okL (tl z) then some z else none
theorem sl_le {n : Nat} (h : n ≤ 4000000) : n ≤ sizeLine := by rw [sizeLine_eq]; omega
theorem sl_lt {n : Nat} (h : n ≤ 4000000) : n < sizeLine := by rw [sizeLine_eq]; omega
theorem cS_zero {z : Str} {c : Nat} (h : (tl z)[0]? = some c) : cS z 0 = c := by
  unfold cS
  rw [show (0 : Int) = ((0 : Nat) : Int) from rfl, L2.atI_nat h]
  rfl
theorem first_at {z : Str} (h : 0 < z.length) : ∃ c, (tl z)[0]? = some c ∧ atI (tl z) 0 = some c := by
  rw [len_tl] at h
  exact ⟨_, List.getElem?_eq_getElem h, L2.atI_nat (List.getElem?_eq_getElem h)⟩
theorem sg_zero {c : Nat} : sg c = Str.ofString "0" ↔ c = 48 := by
  rw [lit (s := "0") (l := [48]) (by decide +kernel)]
  refine ⟨fun h => ?_, fun h => by rw [h]⟩
  have e := congrArg tl h
  have e : [c] = [48] := e
  simpa using e
theorem z_empty {z : Str} : z.length = 0 ↔ z = Str.ofString "" := by
  rw [lit (s := "") (l := []) (by decide +kernel)]
  refine ⟨fun h => ext_tl ?_, fun h => by rw [h]; rfl⟩
  rw [len_tl] at h
  exact List.length_eq_zero_iff.mp h
theorem all_map {α : Type} {l : List α} {p : α → Bool} : (l.map p).all id = true ↔ ∀ x ∈ l, p x = true := by
  rw [List.all_map, List.all_eq_true]
  rfl
theorem whole_number_ok {z : Str} (hz : z.length ≤ 4000000) {K : Option Int → Prop} (k : K (gN z)) : m_whole_number z K := by
  have hl := len_tl z
  have no : ¬ okN (tl z) → K none := fun h => by unfold gN at k; rw [if_neg h] at k; exact k
  unfold m_whole_number
  refine ⟨sl_le hz, fun _ => sl_le hz, fun h => ?_, fun h => ?_⟩
  · refine no fun ok => ?_
    simp only [Bool.or_eq_true, decide_eq_true_eq] at h
    have h1 := ok.1
    have h2 := ok.2.1
    rcases h with h | h
    · exact h1 (List.length_eq_zero_iff.mp (by omega))
    · omega
  simp only [Bool.or_eq_false_iff, decide_eq_false_iff_not] at h
  obtain ⟨c, hc, hc2⟩ := first_at (z := z) (by omega)
  refine ⟨sl_le hz, fun _ => ⟨sl_le hz, c, hc2⟩, fun h2 => ?_, fun h2 => ?_⟩
  · refine no fun ok => ok.2.2.1 ?_
    simp only [Bool.and_eq_true, decide_eq_true_eq] at h2
    rw [cS_zero hc, sg_zero] at h2
    exact ⟨by omega, by rw [hc, h2.2]⟩
  have h3 : ¬ (1 < (tl z).length ∧ (tl z)[0]? = some 48) := fun q => by
    rw [hc] at q
    have e : c = 48 := Option.some.inj q.2
    rw [cS_zero hc, decide_eq_true (sg_zero.mpr e), decide_eq_true (show (1 : Int) < z.length by omega)] at h2
    cases h2
  refine ⟨sl_le (by omega), compW_map (fun c => decide (isD c)) _ (fun x _ K hk => by rw [decide_eq_decide.mpr mem_dig]; exact hk) ⟨fun h4 => no fun ok => ?_, fun h4 => ?_⟩⟩
  · rw [all_map.mpr fun c hc => decide_eq_true (ok.2.2.2 c hc)] at h4
    cases h4
  · have h5 := all_map.mp (notN_f h4)
    have ok : okN (tl z) := ⟨fun e => by rw [e] at hl; simp at hl; omega, by omega, h3, fun c hc => of_decide_eq_true (h5 c hc)⟩
    refine ⟨_, intText_ok ok, by omega, ?_⟩
    unfold gN at k
    rw [if_pos ok] at k
    exact k
theorem is_letters_ok {z : Str} (hz : z.length ≤ 4000000) {K : Bool → Prop} (k : K (decide (∀ c ∈ tl z, isL c))) : m_is_letters z K := by
  unfold m_is_letters
  refine ⟨fun h => absurd h (by decide), fun _ => ⟨sl_le (by rw [← len_tl]; exact hz), compW_map (fun c => decide (isL c)) _ (fun x _ K hk => ?_) ?_⟩⟩
  · have e : (decide (x ∈ tl (Str.ofString "abcdefgh")) || decide (x ∈ tl (Str.ofString "ABCDEFGH"))) = decide (isL x) := by
      rw [← Bool.decide_or]
      exact decide_eq_decide.mpr mem_nam
    show K _
    rw [e]
    exact hk
  · have e : ((tl z).map fun c => decide (isL c)).all id = decide (∀ c ∈ tl z, isL c) := by
      rw [Bool.eq_iff_iff, all_map, decide_eq_true_iff]
      exact ⟨fun h c hc => of_decide_eq_true (h c hc), fun h c hc => decide_eq_true (h c hc)⟩
    show K _
    rw [e]
    exact k
theorem dot_len : (Str.ofString ".").length = 1 := by decide +kernel
theorem letters_of_ok {z : Str} (hz : z.length ≤ 4000000) {K : Option Str → Prop} (k : K (gT z)) : m_letters_of z K := by
  unfold m_letters_of
  unfold gT at k
  refine ⟨fun h => ?_, fun h => ?_⟩
  · rw [if_pos (of_decide_eq_true h)] at k
    exact k
  · rw [if_neg (of_decide_eq_false h)] at k
    refine ⟨sl_le hz, fun h2 => ?_, fun h2 => is_letters_ok hz ⟨fun h3 => ?_, fun h3 => ?_⟩⟩
    · rw [if_neg fun q => q.1 (List.length_eq_zero_iff.mp (by rw [← len_tl]; have := of_decide_eq_true h2; omega))] at k
      exact k
    · rw [if_neg fun q => by rw [decide_eq_true q.2] at h3; cases h3] at k
      exact k
    · rw [if_pos ⟨fun e => of_decide_eq_false h2 (by rw [len_tl, e]; rfl), of_decide_eq_true (notN_f h3)⟩] at k
      exact k
def rdA {α : Type} (g : Str → Option α) : List Str → Option (List α)
  | [] => some []
  | w :: ws => match g w with
    | none => none
    | some d => match rdA g ws with
      | none => none
      | some ds => some (d :: ds)
/-- a list of words read, one by one -/
theorem read_loop {α : Type} {g : Str → Option α} {body : Str → List α → W (Ctl (List α) (Option (List α)))}
    (hb : ∀ x acc (K' : Ctl (List α) (Option (List α)) → Prop), x.length ≤ 4000000 → acc.length < sizeLine → (g x = none → K' (.rt none)) → (∀ y, g x = some y → K' (.nx (acc ++ [y]))) → body x acc K')
    (ws : List Str) (hn : ws.length ≤ 5000000) (hw : ∀ w ∈ ws, w.length ≤ 4000000) {K : Option (List α) → Prop} (k : K (rdA g ws)) : forW body (fun zf => K (some zf)) K ws [] := by
  refine forW_go (fun r acc => acc.length + r.length ≤ 5000000 ∧ (∀ w ∈ r, w.length ≤ 4000000) ∧ ((rdA g r = none → K none) ∧ ∀ l, rdA g r = some l → K (some (acc ++ l)))) ?_ ?_ ws [] ⟨by simpa using hn, hw, fun e => by rw [e] at k; exact k, fun l e => by rw [e] at k; exact k⟩
  · rintro x r acc Kn ⟨h1, h2, h3, h4⟩ hk
    rw [List.length_cons] at h1
    refine hb x acc _ (h2 x List.mem_cons_self) (by rw [sizeLine_eq]; omega) (fun e => ?_) (fun y e => ?_)
    · exact h3 (by unfold rdA; rw [e])
    · refine hk _ ⟨by rw [List.length_append]; simp; omega, fun w hw => h2 w (List.mem_cons_of_mem _ hw), fun e2 => h3 (by unfold rdA; rw [e, e2]), fun l e2 => ?_⟩
      have := h4 (y :: l) (by unfold rdA; rw [e, e2])
      rw [List.append_assoc]
      exact this
  · rintro acc ⟨_, _, _, h4⟩
    have := h4 [] rfl
    rw [List.append_nil] at this
    exact this
theorem all_read_ok {α : Type} {g : Str → Option α} {m : Str → W (Option α)} (hm : ∀ z, z.length ≤ 4000000 → ∀ K : Option α → Prop, K (g z) → m z K) (ws : List Str) (hn : ws.length ≤ 5000000) (hw : ∀ w ∈ ws, w.length ≤ 4000000) {K : Option (List α) → Prop} (k : K (rdA g ws)) :
    forW (fun (x : Str) (zf : List α) => W.bind (m x) fun y => W.onone y (W.ok (.rt none)) fun y1 => W.chk (zf.length < sizeLine) <| W.ok (.nx (zf ++ [y1]))) (fun zf => K (some zf)) K ws [] :=
  read_loop (g := g) (fun x acc K' hx ha h1 h2 => hm x hx _ ⟨h1, fun y e => ⟨ha, h2 y e⟩⟩) ws hn hw k
theorem sep_len (c : Char) (h : (Str.ofString (String.ofList [c])).length = 1) : ((Str.ofString (String.ofList [c])).length == 0) = false := by rw [h]; rfl
theorem split_n {z y : Str} (hy : 1 ≤ y.length) (hz : z.length ≤ 4000000) : (Txt.split z y).length ≤ 5000000 ∧ ∀ w ∈ Txt.split z y, w.length ≤ 4000000 := by
  have := PyProof.Rows.split_weight z y hy
  exact ⟨by omega, fun w hw => Nat.le_trans (PyProof.Rows.part_short hw) hz⟩
theorem rdA_len {α : Type} {g : Str → Option α} : ∀ {ws : List Str} {l : List α}, rdA g ws = some l → l.length = ws.length
  | [], l, h => by cases h; rfl
  | w :: ws, l, h => by
    unfold rdA at h
    cases e : g w with
    | none => rw [e] at h; cases h
    | some d =>
      rw [e] at h
      cases e2 : rdA g ws with
      | none => rw [e2] at h; cases h
      | some ds =>
        rw [e2] at h
        cases h
        rw [List.length_cons, List.length_cons, rdA_len e2]
abbrev sC : Str := Str.ofString ","
abbrev sG : Str := Str.ofString ">"
abbrev sS : Str := Str.ofString ";"
theorem sC_len : sC.length = 1 := by decide +kernel
theorem sG_len : sG.length = 1 := by decide +kernel
theorem sS_len : sS.length = 1 := by decide +kernel
theorem sep_ok {y z : Str} (hy : y.length = 1) (hz : z.length ≤ 4000000) : (y.length == 0) = false ∧ z.length + 2 ≤ sizeLine := ⟨by rw [hy]; rfl, by rw [sizeLine_eq]; omega⟩
def gS (z : Str) : Option (List Int) := rdA gN (Txt.split z sC)
def gP (z : Str) : Option (List Int × List Int) := match rdA gS (Txt.split z sG) with
  | some [a, b] => some (a, b)
  | _ => none
def gR (z : Str) : Option (List Int × List Int × List Str) := match Txt.split z sG with
  | [a, b, c] => match gS a, gS b, rdA gT (Txt.split c sC) with
    | some x, some y, some ts => some (x, y, ts)
    | _, _, _ => none
  | _ => none
def gPap {α : Type} (g : Str → Option α) (z : Str) : Option (List α) := if z = Str.ofString "." then some [] else rdA g (Txt.split z sS)
theorem all_readN_ok {ws : List Str} (hn : ws.length ≤ 5000000) (hw : ∀ w ∈ ws, w.length ≤ 4000000) {K : Option (List Int) → Prop} (k : K (rdA gN ws)) : m_all_readN ws () K := by
  unfold m_all_readN
  exact all_read_ok (g := gN) (fun z hz K k => whole_number_ok hz k) ws hn hw k
theorem all_readL_ok {ws : List Str} (hn : ws.length ≤ 5000000) (hw : ∀ w ∈ ws, w.length ≤ 4000000) {K : Option (List Str) → Prop} (k : K (rdA gT ws)) : m_all_readL ws () K := by
  unfold m_all_readL
  exact all_read_ok (g := gT) (fun z hz K k => letters_of_ok hz k) ws hn hw k
theorem state_of_ok {z : Str} (hz : z.length ≤ 4000000) {K : Option (List Int) → Prop} (k : K (gS z)) : m_state_of z K := by
  obtain ⟨h1, h2⟩ := split_n (z := z) (y := sC) (by rw [sC_len]; decide) hz
  refine ⟨sep_ok sC_len hz, all_readN_ok h1 h2 ⟨fun e => ?_, fun y e => ?_⟩⟩
  · unfold gS at k; rw [e] at k; exact k
  · unfold gS at k; rw [e] at k; exact k
theorem all_readS_ok {ws : List Str} (hn : ws.length ≤ 5000000) (hw : ∀ w ∈ ws, w.length ≤ 4000000) {K : Option (List (List Int)) → Prop} (k : K (rdA gS ws)) : m_all_readS ws () K := by
  unfold m_all_readS
  exact all_read_ok (g := gS) (fun z hz K k => state_of_ok hz k) ws hn hw k
theorem at_two {α : Type} {l : List α} (h : (l.length : Int) = 2) : ∃ a b, l = [a, b] := by
  match l, h with
  | [a, b], _ => exact ⟨a, b, rfl⟩
  | [], h => simp at h
  | [a], h => simp at h
  | a :: b :: c :: r, h => simp at h; omega
theorem at_three {α : Type} {l : List α} (h : (l.length : Int) = 3) : ∃ a b c, l = [a, b, c] := by
  match l, h with
  | [a, b, c], _ => exact ⟨a, b, c, rfl⟩
  | [], h => simp at h
  | [a], h => simp at h
  | [a, b], h => simp at h
  | a :: b :: c :: d :: r, h => simp at h; omega
theorem pair_of_ok {z : Str} (hz : z.length ≤ 4000000) {K : Option (List Int × List Int) → Prop} (k : K (gP z)) : m_pair_of z K := by
  obtain ⟨h1, h2⟩ := split_n (z := z) (y := sG) (by rw [sG_len]; decide) hz
  unfold gP at k
  refine ⟨sep_ok sG_len hz, all_readS_ok h1 h2 ⟨fun e => ?_, fun y e => ⟨fun h3 => ?_, fun h3 => ?_⟩⟩⟩
  · rw [e] at k; exact k
  · rw [e] at k
    have h4 := of_decide_eq_false (notN_t h3)
    match y, h4, k with
    | [], _, k => exact k
    | [a], _, k => exact k
    | [a, b], h4, _ => exact absurd rfl h4
    | a :: b :: c :: r, _, k => exact k
  · obtain ⟨a, b, rfl⟩ := at_two (of_decide_eq_true (notN_f h3))
    rw [e] at k
    exact ⟨a, rfl, b, rfl, k⟩
theorem rdA_two {α : Type} {g : Str → Option α} {a b : Str} : rdA g [a, b] = match g a, g b with | some x, some y => some [x, y] | _, _ => none := by
  simp only [rdA]
  cases g a <;> cases g b <;> rfl
theorem row_of_ok {z : Str} (hz : z.length ≤ 4000000) {K : Option (List Int × List Int × List Str) → Prop} (k : K (gR z)) : m_row_of z K := by
  obtain ⟨h1, h2⟩ := split_n (z := z) (y := sG) (by rw [sG_len]; decide) hz
  unfold gR at k
  refine ⟨sep_ok sG_len hz, fun h3 => ?_, fun h3 => ?_⟩
  · have h4 := of_decide_eq_false (notN_t h3)
    generalize Txt.split z sG = ws at h4 k
    match ws, h4, k with
    | [], _, k => exact k
    | [a], _, k => exact k
    | [a, b], _, k => exact k
    | [a, b, c], h4, _ => exact absurd rfl h4
    | a :: b :: c :: d :: r, _, k => exact k
  · obtain ⟨a, b, c, e⟩ := at_three (of_decide_eq_true (notN_f h3))
    show m_all_readS (cutT (Txt.split z sG) none (some 2)) () _
    rw [e] at h1 h2 k ⊢
    rw [show cutT [a, b, c] none (some 2) = [a, b] from rfl]
    have hc := h2 c (by simp)
    obtain ⟨h5, h6⟩ := split_n (z := c) (y := sC) (by rw [sC_len]; decide) hc
    refine all_readS_ok (by simp) (fun w hw => h2 w (by simp at hw ⊢; rcases hw with h | h <;> simp [h])) ⟨c, rfl, sep_ok sC_len hc, ?_⟩
    refine all_readL_ok h5 h6 ?_
    rw [rdA_two]
    dsimp only at k
    revert k
    cases gS a with
    | none => exact fun k => ⟨fun _ => k, fun y e => nomatch e⟩
    | some x =>
      cases gS b with
      | none => exact fun k => ⟨fun _ => k, fun y e => nomatch e⟩
      | some y =>
        cases rdA gT (Txt.split c sC) with
        | none => exact fun k => ⟨fun e => (nomatch e), fun _ _ => ⟨fun _ => k, fun y e => nomatch e⟩⟩
        | some ts => exact fun k => ⟨fun e => (nomatch e), fun l el => by
            cases el
            exact ⟨fun e => (nomatch e), fun ts' et => by
              cases et
              exact ⟨x, rfl, y, rfl, k⟩⟩⟩
theorem all_readP_ok {ws : List Str} (hn : ws.length ≤ 5000000) (hw : ∀ w ∈ ws, w.length ≤ 4000000) {K : Option (List (List Int × List Int)) → Prop} (k : K (rdA gP ws)) : m_all_readP ws () K := by
  unfold m_all_readP
  exact all_read_ok (g := gP) (fun z hz K k => pair_of_ok hz k) ws hn hw k
theorem all_readR_ok {ws : List Str} (hn : ws.length ≤ 5000000) (hw : ∀ w ∈ ws, w.length ≤ 4000000) {K : Option (List (List Int × List Int × List Str)) → Prop} (k : K (rdA gR ws)) : m_all_readR ws () K := by
  unfold m_all_readR
  exact all_read_ok (g := gR) (fun z hz K k => row_of_ok hz k) ws hn hw k
def outX {α : Type} : Option α → Except Exn α
  | some l => .ok l
  | none => .error (Str.ofString "BadForm", none)
theorem read_pairs_ok {z : Str} (hz : z.length ≤ 4000000) {K : Except Exn (List (List Int × List Int)) → Prop} (k : K (outX (gPap gP z))) : m_read_pairs z K := by
  obtain ⟨h1, h2⟩ := split_n (z := z) (y := sS) (by rw [sS_len]; decide) hz
  unfold gPap at k
  refine ⟨fun h => ?_, fun h => ⟨sep_ok sS_len hz, ?_⟩⟩
  · rw [if_pos (of_decide_eq_true h)] at k
    exact k
  · rw [if_neg (of_decide_eq_false h)] at k
    refine all_readP_ok h1 h2 ⟨fun e => ?_, fun y e => ?_⟩
    · rw [e] at k; exact k
    · rw [e] at k; exact k
theorem read_rows_ok {z : Str} (hz : z.length ≤ 4000000) {K : Except Exn (List (List Int × List Int × List Str)) → Prop} (k : K (outX (gPap gR z))) : m_read_rows z K := by
  obtain ⟨h1, h2⟩ := split_n (z := z) (y := sS) (by rw [sS_len]; decide) hz
  unfold gPap at k
  refine ⟨fun h => ?_, fun h => ⟨sep_ok sS_len hz, ?_⟩⟩
  · rw [if_pos (of_decide_eq_true h)] at k
    exact k
  · rw [if_neg (of_decide_eq_false h)] at k
    refine all_readR_ok h1 h2 ⟨fun e => ?_, fun y e => ?_⟩
    · rw [e] at k; exact k
    · rw [e] at k; exact k
/-! the law's own reader -/
theorem number_of_ok {z : Str} (hz : z.length ≤ 4000000) {K : Int → Prop} (k0 : gN z = none → K (-1)) (k1 : ∀ n, gN z = some n → K n) : m_law_number_of z K := by
  have hl := len_tl z
  have no : ¬ okN (tl z) → K (-1) := fun h => k0 (by unfold gN; rw [if_neg h])
  unfold m_law_number_of
  refine ⟨fun _ => sl_le hz, fun h => ?_, fun h => ?_⟩
  · refine no fun ok => ?_
    simp only [Bool.or_eq_true, decide_eq_true_eq] at h
    have h1 := ok.1
    have h2 := ok.2.1
    rcases h with h | h
    · exact h1 (List.length_eq_zero_iff.mp (by rw [← hl]; exact z_empty.mpr h))
    · omega
  simp only [Bool.or_eq_false_iff, decide_eq_false_iff_not] at h
  have h0 : z.length ≠ 0 := fun e => h.1 (z_empty.mp e)
  obtain ⟨c, hc, hc2⟩ := first_at (z := z) (by omega)
  refine ⟨sl_le hz, fun _ => ⟨sl_le hz, c, hc2⟩, fun h2 => ?_, fun h2 => ?_⟩
  · refine no fun ok => ok.2.2.1 ?_
    simp only [Bool.and_eq_true, decide_eq_true_eq] at h2
    rw [cS_zero hc, sg_zero] at h2
    exact ⟨by omega, by rw [hc, h2.2]⟩
  have h3 : ¬ (1 < (tl z).length ∧ (tl z)[0]? = some 48) := fun q => by
    rw [hc] at q
    have e : c = 48 := Option.some.inj q.2
    rw [cS_zero hc, decide_eq_true (sg_zero.mpr e), decide_eq_true (show (1 : Int) < z.length by omega)] at h2
    cases h2
  refine forW_go (fun r _ => (∀ c ∈ tl z, c ∉ r → isD c) ∧ ∀ c ∈ r, c ∈ tl z) ?_ ?_ (tl z) () ⟨fun c h1 h2 => absurd h1 h2, fun c h => h⟩
  · rintro x r _ Kn ⟨h4, h5⟩ hk
    refine ⟨fun h6 => no fun ok => ?_, fun h6 => hk () ⟨fun c h1 h2 => ?_, fun c h1 => h5 c (List.mem_cons_of_mem _ h1)⟩⟩
    · exact of_decide_eq_false (notN_t h6) (mem_dig.mpr (ok.2.2.2 x (h5 x List.mem_cons_self)))
    · by_cases e : c = x
      · rw [e]; exact mem_dig.mp (of_decide_eq_true (notN_f h6))
      · exact h4 c h1 fun q => (List.mem_cons.mp q).elim e h2
  · rintro _ ⟨h4, _⟩
    have ok : okN (tl z) := ⟨fun e => by rw [e] at hl; simp at hl; omega, by omega, h3, fun c hc => h4 c hc List.not_mem_nil⟩
    exact ⟨_, intText_ok ok, by omega, k1 _ (by unfold gN; rw [if_pos ok])⟩
theorem gN_pos {z : Str} {n : Int} (h : gN z = some n) : 0 ≤ n := by
  unfold gN at h
  split at h
  · cases h; omega
  · cases h
theorem lstate_of_ok {z : Str} (hz : z.length ≤ 4000000) {K : Option (List Int) → Prop} (k : K (gS z)) : m_law_state_of z K := by
  obtain ⟨h1, h2⟩ := split_n (z := z) (y := sC) (by rw [sC_len]; decide) hz
  refine ⟨sep_ok sC_len hz, read_loop (g := gN) (fun x acc K' hx ha k1 k2 => number_of_ok hx (fun e => ⟨fun _ => k1 e, fun h => absurd (of_decide_eq_false h) (by decide)⟩) (fun n e => ⟨fun h => ?_, fun h => ⟨ha, k2 n e⟩⟩)) _ h1 h2 k⟩
  have := gN_pos e
  have := of_decide_eq_true h
  omega
theorem mem_nam16 {c : Nat} : c ∈ tl (Str.ofString "abcdefghABCDEFGH") ↔ isL c := by
  rw [tl_ofString, show ("abcdefghABCDEFGH".toList.map Char.toNat) = [97, 98, 99, 100, 101, 102, 103, 104, 65, 66, 67, 68, 69, 70, 71, 72] by decide +kernel]
  simp only [List.mem_cons, List.not_mem_nil, or_false]
  unfold isL
  omega
theorem lletters_of_ok {z : Str} {K : Option Str → Prop} (k : K (gT z)) : m_law_letters_of z K := by
  unfold gT at k
  refine ⟨fun h => ?_, fun h => ?_⟩
  · rw [if_pos (of_decide_eq_true h)] at k
    exact k
  · rw [if_neg (of_decide_eq_false h)] at k
    refine forW_go (fun r _ => (∀ c ∈ tl z, c ∉ r → isL c) ∧ ∀ c ∈ r, c ∈ tl z) ?_ ?_ (tl z) () ⟨fun c h1 h2 => absurd h1 h2, fun c h => h⟩
    · rintro x r _ Kn ⟨h4, h5⟩ hk
      refine ⟨fun h6 => ?_, fun h6 => hk () ⟨fun c h1 h2 => ?_, fun c h1 => h5 c (List.mem_cons_of_mem _ h1)⟩⟩
      · rw [if_neg fun ok => of_decide_eq_false (notN_t h6) (mem_nam16.mpr (ok.2 x (h5 x List.mem_cons_self)))] at k
        exact k
      · by_cases e : c = x
        · rw [e]; exact mem_nam16.mp (of_decide_eq_true (notN_f h6))
        · exact h4 c h1 fun q => (List.mem_cons.mp q).elim e h2
    · rintro _ ⟨h4, _⟩
      refine ⟨fun h6 => ?_, fun h6 => ?_⟩
      · have e := z_empty.mpr (of_decide_eq_true h6)
        rw [if_neg fun ok => ok.1 (List.length_eq_zero_iff.mp (by rw [← len_tl]; exact e))] at k
        exact k
      · rw [if_pos ⟨fun e => of_decide_eq_false h6 (z_empty.mp (by rw [len_tl, e]; rfl)), fun c hc => h4 c hc List.not_mem_nil⟩] at k
        exact k
theorem lstrings_of_ok {z : Str} (hz : z.length ≤ 4000000) {K : Option (List Str) → Prop} (k : K (rdA gT (Txt.split z sC))) : m_law_strings_of z K := by
  obtain ⟨h1, h2⟩ := split_n (z := z) (y := sC) (by rw [sC_len]; decide) hz
  exact ⟨sep_ok sC_len hz, all_read_ok (g := gT) (fun z hz K k => lletters_of_ok k) _ h1 h2 k⟩
theorem lpairs_of_ok {z : Str} (hz : z.length ≤ 4000000) {K : Option (List (List Int × List Int)) → Prop} (k : K (gPap gP z)) : m_law_pairs_of z K := by
  obtain ⟨h1, h2⟩ := split_n (z := z) (y := sS) (by rw [sS_len]; decide) hz
  unfold gPap at k
  refine ⟨fun h => ?_, fun h => ⟨sep_ok sS_len hz, ?_⟩⟩
  · rw [if_pos (of_decide_eq_true h)] at k
    exact k
  rw [if_neg (of_decide_eq_false h)] at k
  refine read_loop (g := gP) (fun x acc K' hx ha k1 k2 => ?_) _ h1 h2 k
  obtain ⟨h3, h4⟩ := split_n (z := x) (y := sG) (by rw [sG_len]; decide) hx
  unfold gP at k1 k2
  refine ⟨sep_ok sG_len hx, fun h5 => k1 ?_, fun h5 => ?_⟩
  · have h6 := of_decide_eq_false (notN_t h5)
    split
    · rename_i a b e
      exact absurd (by rw [← rdA_len e]; rfl) h6
    · rfl
  · obtain ⟨a, b, e⟩ := at_two (of_decide_eq_true (notN_f h5))
    show W.at_ (Txt.split x sG) 0 _ _
    rw [e] at h4 k1 k2 ⊢
    rw [rdA_two] at k1 k2
    refine ⟨a, rfl, lstate_of_ok (h4 a (by simp)) ?_⟩
    refine ⟨b, rfl, lstate_of_ok (h4 b (by simp)) ?_⟩
    revert k2
    revert k1
    cases gS a with
    | none => exact fun k1 _ => ⟨fun _ => k1 rfl, fun y e => nomatch e⟩
    | some u =>
      cases gS b with
      | none => exact fun k1 _ => ⟨fun e => (nomatch e), fun _ _ => ⟨fun _ => k1 rfl, fun y e => nomatch e⟩⟩
      | some v => exact fun _ k2 => ⟨fun e => (nomatch e), fun _ e1 => ⟨fun e => (nomatch e), fun _ e2 => ⟨ha, by cases e1; cases e2; exact k2 _ rfl⟩⟩⟩
theorem lrows_of_ok {z : Str} (hz : z.length ≤ 4000000) {K : Option (List (List Int × List Int × List Str)) → Prop} (k : K (gPap gR z)) : m_law_rows_of z K := by
  obtain ⟨h1, h2⟩ := split_n (z := z) (y := sS) (by rw [sS_len]; decide) hz
  unfold gPap at k
  refine ⟨fun h => ?_, fun h => ⟨sep_ok sS_len hz, ?_⟩⟩
  · rw [if_pos (of_decide_eq_true h)] at k
    exact k
  rw [if_neg (of_decide_eq_false h)] at k
  refine read_loop (g := gR) (fun x acc K' hx ha k1 k2 => ?_) _ h1 h2 k
  obtain ⟨h3, h4⟩ := split_n (z := x) (y := sG) (by rw [sG_len]; decide) hx
  unfold gR at k1 k2
  refine ⟨sep_ok sG_len hx, fun h5 => k1 ?_, fun h5 => ?_⟩
  · have h6 := of_decide_eq_false (notN_t h5)
    split
    · rename_i a b c e
      exact absurd (by rw [e]; rfl) h6
    · rfl
  · obtain ⟨a, b, c, e⟩ := at_three (of_decide_eq_true (notN_f h5))
    show W.at_ (Txt.split x sG) 0 _ _
    rw [e] at h4 k1 k2 ⊢
    dsimp only at k1 k2
    refine ⟨a, rfl, lstate_of_ok (h4 a (by simp)) ?_⟩
    refine ⟨b, rfl, lstate_of_ok (h4 b (by simp)) ?_⟩
    refine ⟨c, rfl, lstrings_of_ok (h4 c (by simp)) ?_⟩
    revert k2
    revert k1
    cases gS a with
    | none => exact fun k1 _ => ⟨fun _ => k1 rfl, fun y e => nomatch e⟩
    | some u =>
      cases gS b with
      | none => exact fun k1 _ => ⟨fun e => (nomatch e), fun _ _ => ⟨fun _ => k1 rfl, fun y e => nomatch e⟩⟩
      | some v =>
        cases rdA gT (Txt.split c sC) with
        | none => exact fun k1 _ => ⟨fun e => (nomatch e), fun _ _ => ⟨fun e => (nomatch e), fun _ _ => ⟨fun _ => k1 rfl, fun y e => nomatch e⟩⟩⟩
        | some ts => exact fun _ k2 => ⟨fun e => (nomatch e), fun _ e1 => ⟨fun e => (nomatch e), fun _ e2 => ⟨fun e => (nomatch e), fun _ e3 => ⟨ha, by cases e1; cases e2; cases e3; exact k2 _ rfl⟩⟩⟩⟩

/-! ### writing, in plain Lean -/
def okI (i : Int) : Prop := 0 ≤ i ∧ i < 1000000000
def wS (l : List Int) : Str := Txt.join sC (l.map strI)
def wT (t : Str) : Str := if t = Str.ofString "" then Str.ofString "." else t
def wP (p : List Int × List Int) : Str := ((Str.empty ++ wS p.1) ++ sG) ++ wS p.2
def wR (r : List Int × List Int × List Str) : Str := ((((Str.empty ++ wS r.1) ++ sG) ++ wS r.2.1) ++ sG) ++ Txt.join sC (r.2.2.map wT)
def wPap {α : Type} (w : α → Str) (l : List α) : Str := if l.length = 0 then Str.ofString "." else Txt.join sS (l.map w)
theorem join_len {y : Str} (hy : y.length = 1) {ws : List Str} (h : ws ≠ []) : (Txt.join y ws).length + 1 = (ws.map (·.length)).sum + ws.length := by
  obtain ⟨a, l, rfl⟩ := List.exists_cons_of_ne_nil h
  rw [join_eq, PyProof.Rows.len_join_cons, hy, List.length_cons]
  omega
theorem join_nil {y : Str} : Txt.join y [] = Str.empty := by rw [join_eq]; rfl
theorem join_bound {y : Str} (hy : y.length = 1) (ws : List Str) : (ws.map (·.length)).sum + ws.length ≤ (Txt.join y ws).length + 1 := by
  by_cases h : ws = []
  · subst h; simp
  · rw [join_len hy h]; exact Nat.le_refl _
theorem mem_sum {l : List Str} {x : Str} (h : x ∈ l) : x.length ≤ (l.map (·.length)).sum := by
  induction l with
  | nil => exact absurd h List.not_mem_nil
  | cons a l ih =>
    rw [List.map_cons, List.sum_cons]
    rcases List.mem_cons.mp h with rfl | h
    · omega
    · have := ih h; omega
theorem join_mem {y : Str} (hy : y.length = 1) {ws : List Str} {w : Str} (h : w ∈ ws) : w.length ≤ (Txt.join y ws).length := by
  have h1 := join_bound hy ws
  have h2 := mem_sum h
  have := List.length_pos_of_mem h
  omega
theorem okI_log {i : Int} (h : okI i) : i.natAbs.log2 < 1920 := by
  obtain ⟨n, rfl⟩ : ∃ n : Nat, i = (n : Int) := ⟨i.toNat, by have := h.1; omega⟩
  have h2 := h.2
  by_cases z : n = 0
  · rw [z]; decide
  · rw [Int.natAbs_natCast]
    have := (Nat.log2_lt z).mpr (show n < 2 ^ 30 by omega)
    omega
theorem e_app (x : Str) : Str.empty ++ x = x := ext_tl (by rw [tl_append]; rfl)
theorem jn (ws : List Str) : (Txt.join sC ws).length ≤ 4000000 → ws.length ≤ sizeLine ∧ (ws.map (·.length)).sum + ws.length * sC.length ≤ 16777216 := fun h => by
  have := join_bound sC_len ws
  rw [sC_len]
  exact ⟨by rw [sizeLine_eq]; omega, by omega⟩
theorem jnS (ws : List Str) : (Txt.join sS ws).length ≤ 4000000 → ws.length ≤ sizeLine ∧ (ws.map (·.length)).sum + ws.length * sS.length ≤ 16777216 := fun h => by
  have := join_bound sS_len ws
  rw [sS_len]
  exact ⟨by rw [sizeLine_eq]; omega, by omega⟩
theorem state_form_ok {l : List Int} (hi : ∀ i ∈ l, okI i) (hl : (wS l).length ≤ 4000000) {K : Str → Prop} (k : K (wS l)) : m_state_form l K := by
  obtain ⟨h1, h2⟩ := jn _ hl
  rw [List.length_map] at h1
  exact ⟨h1, compW_map strI l (fun x hx K hk => ⟨okI_log (hi x hx), hk⟩) ⟨h2, k⟩⟩
theorem state_line_ok {l : List Int} (hi : ∀ i ∈ l, okI i) (hl : (wS l).length ≤ 4000000) {K : Str → Prop} (k : K (wS l)) : m_law_state_line l K := by
  obtain ⟨h1, h2⟩ := jn _ hl
  rw [List.length_map] at h1
  exact ⟨h1, compW_map strI l (fun x hx K hk => ⟨okI_log (hi x hx), hk⟩) ⟨h2, k⟩⟩
def okP (p : List Int × List Int) : Prop := (∀ i ∈ p.1, okI i) ∧ ∀ i ∈ p.2, okI i
def okR (r : List Int × List Int × List Str) : Prop := (∀ i ∈ r.1, okI i) ∧ (∀ i ∈ r.2.1, okI i) ∧ ∀ t ∈ r.2.2, ∀ c ∈ tl t, isL c
theorem wP_len (p : List Int × List Int) : (wP p).length = (wS p.1).length + 1 + (wS p.2).length := by
  unfold wP
  rw [len_app, len_app, e_app, sG_len]
theorem wR_len (r : List Int × List Int × List Str) : (wR r).length = (wS r.1).length + 1 + (wS r.2.1).length + 1 + (Txt.join sC (r.2.2.map wT)).length := by
  unfold wR
  rw [len_app, len_app, len_app, len_app, e_app, sG_len]
theorem paper_form_ok {α : Type} {w : α → Str} {l : List α} (hl : (wPap w l).length ≤ 4000000) {K : Str → Prop} (k : K (wPap w l)) : m_paper_form (l.map w) K := by
  unfold wPap at hl k
  refine ⟨fun h => ?_, fun h => ?_⟩
  · have h := of_decide_eq_true h
    rw [List.length_map] at h
    rw [if_pos (by omega)] at k
    exact k
  · have h := of_decide_eq_false h
    rw [List.length_map] at h
    rw [if_neg (by omega)] at hl k
    exact ⟨(jnS _ hl).2, k⟩
theorem pap_mem {α : Type} {w : α → Str} {l : List α} {x : α} (h : x ∈ l) : (w x).length ≤ (wPap w l).length := by
  unfold wPap
  rw [if_neg (by have := List.length_pos_of_mem h; omega)]
  exact join_mem sS_len (List.mem_map_of_mem h)
theorem pap_few {α : Type} {w : α → Str} {l : List α} (hl : (wPap w l).length ≤ 4000000) : l.length ≤ sizeLine := by
  by_cases h : l.length = 0
  · rw [h]; exact Nat.zero_le _
  · unfold wPap at hl
    rw [if_neg h] at hl
    have := (jnS _ hl).1
    rwa [List.length_map] at this
theorem pair_body {p : List Int × List Int} (hp : okP p) (hl : (wP p).length ≤ 4000000) {K : Option Str → Prop} (k : K (some (wP p))) :
    (W.bind (m_state_form p.1) fun y13 => W.chk (y13.length ≤ sizeLine) <| W.chk ((Str.empty ++ y13).length ≤ sizeLine) <| W.chk (((Str.empty ++ y13) ++ (Str.ofString ">")).length ≤ sizeLine) <|
      W.bind (m_state_form p.2) fun y17 => W.chk (y17.length ≤ sizeLine) <| W.chk ((((Str.empty ++ y13) ++ (Str.ofString ">")) ++ y17).length ≤ sizeLine) <| W.ok (some (((Str.empty ++ y13) ++ (Str.ofString ">")) ++ y17))) K := by
  have h := wP_len p
  have g := sG_len
  refine state_form_ok hp.1 (by omega) ⟨sl_le (by omega), sl_le (by rw [e_app]; omega), sl_le (by rw [len_app, e_app, g]; omega), state_form_ok hp.2 (by omega) ⟨sl_le (by omega), sl_le (by rw [len_app, len_app, e_app, g]; omega), k⟩⟩
theorem write_pairsL_ok {l : List (List Int × List Int)} (hp : ∀ p ∈ l, okP p) (hl : (wPap wP l).length ≤ 4000000) {K : Str → Prop} (k : K (wPap wP l)) : m_write_pairsL l K :=
  ⟨pap_few hl, compW_map wP l (fun x hx K hk => pair_body (hp x hx) (Nat.le_trans (pap_mem hx) hl) hk) (paper_form_ok hl k)⟩
theorem write_pairsT_ok {l : List (List Int × List Int)} (hp : ∀ p ∈ l, okP p) (hl : (wPap wP l).length ≤ 4000000) {K : Str → Prop} (k : K (wPap wP l)) : m_write_pairsT l K :=
  ⟨pap_few hl, compW_map wP l (fun x hx K hk => pair_body (hp x hx) (Nat.le_trans (pap_mem hx) hl) hk) (paper_form_ok hl k)⟩
theorem write_letters_ok {t : Str} (h : t.length ≤ 4000000) {K : Str → Prop} (k : K (wT t)) : m_write_letters t K := by
  unfold wT at k
  refine ⟨sl_le h, fun h => ?_, fun h => ?_⟩
  · have h := of_decide_eq_true h
    rw [if_pos (z_empty.mp (by omega))] at k
    exact k
  · have h := of_decide_eq_false h
    rw [if_neg (fun e => h (by have := z_empty.mpr e; omega))] at k
    exact k
theorem wT_len (t : Str) : t.length ≤ (wT t).length := by
  unfold wT
  split
  · rename_i h
    rw [z_empty.mpr h]
    exact Nat.zero_le _
  · exact Nat.le_refl _
theorem row_form_ok {r : List Int × List Int × List Str} (hr : okR r) (hl : (wR r).length ≤ 4000000) {K : Str → Prop} (k : K (wR r)) : m_row_form r.1 r.2.1 r.2.2 K := by
  have h := wR_len r
  have g := sG_len
  obtain ⟨h1, h2⟩ := jn (r.2.2.map wT) (by omega)
  rw [List.length_map] at h1
  have e0 : (Txt.join (Str.ofString ",") (r.2.2.map wT)).length = (Txt.join sC (r.2.2.map wT)).length := rfl
  refine ⟨h1, compW_map wT _ (fun x hx K hk => write_letters_ok ?_ hk) ⟨h2, state_form_ok hr.1 (by omega) ⟨sl_le (by omega), sl_le (by rw [e_app]; omega), sl_le (by rw [len_app, e_app, g]; omega), state_form_ok hr.2.1 (by omega)
    ⟨sl_le (by omega), sl_le (by rw [len_app, len_app, e_app, g]; omega), sl_le (by rw [len_app, len_app, len_app, e_app, g]; omega), sl_le (by omega), sl_le (by rw [len_app, len_app, len_app, len_app, e_app, g]; omega), k⟩⟩⟩⟩
  have := join_mem sC_len (List.mem_map_of_mem (f := wT) hx)
  have := wT_len x
  omega
theorem write_rowsL_ok {l : List (List Int × List Int × List Str)} (hp : ∀ p ∈ l, okR p) (hl : (wPap wR l).length ≤ 4000000) {K : Str → Prop} (k : K (wPap wR l)) : m_write_rowsL l K :=
  ⟨pap_few hl, compW_map wR l (fun x hx K hk => row_form_ok (hp x hx) (Nat.le_trans (pap_mem hx) hl) hk) (paper_form_ok hl k)⟩
theorem write_rowsT_ok {l : List (List Int × List Int × List Str)} (hp : ∀ p ∈ l, okR p) (hl : (wPap wR l).length ≤ 4000000) {K : Str → Prop} (k : K (wPap wR l)) : m_write_rowsT l K :=
  ⟨pap_few hl, compW_map wR l (fun x hx K hk => row_form_ok (hp x hx) (Nat.le_trans (pap_mem hx) hl) hk) (paper_form_ok hl k)⟩
/-! the law's own writer -/
theorem isE {α : Type} {l : List α} : l.isEmpty = true ↔ l.length = 0 := by cases l <;> simp
theorem pairs_line_ok {l : List (List Int × List Int)} (hp : ∀ p ∈ l, okP p) (hl : (wPap wP l).length ≤ 4000000) {K : Str → Prop} (k : K (wPap wP l)) : m_law_pairs_line l K := by
  have h0 := pap_few hl
  have hm := fun x (hx : x ∈ l) => Nat.le_trans (pap_mem (w := wP) hx) hl
  unfold wPap at hl k
  refine ⟨fun h => ?_, fun h => ?_⟩
  · rw [if_pos (isE.mp (notN_f (notN_t h)))] at k
    exact k
  · rw [if_neg (fun e => by rw [isE.mpr e] at h; cases h)] at hl k
    refine ⟨h0, compW_map wP l (fun x hx K hk => ?_) ⟨(jnS _ hl).2, k⟩⟩
    have h1 := hm x hx
    have h2 := wP_len x
    have g : (Str.ofString ">").length = 1 := sG_len
    refine state_line_ok (hp x hx).1 (by omega) ⟨sl_le (by omega), state_line_ok (hp x hx).2 (by omega) ⟨sl_le (by rw [len_app, g]; omega), ?_⟩⟩
    unfold wP at hk
    rw [e_app] at hk
    exact hk
theorem letters_line_ok {t : Str} {K : Str → Prop} (k : K (wT t)) : m_law_letters_line t K := by
  unfold wT at k
  refine ⟨fun h => ?_, fun h => ?_⟩
  · rw [if_pos (of_decide_eq_true h)] at k; exact k
  · rw [if_neg (of_decide_eq_false h)] at k; exact k
theorem rows_line_ok {l : List (List Int × List Int × List Str)} (hp : ∀ p ∈ l, okR p) (hl : (wPap wR l).length ≤ 4000000) {K : Str → Prop} (k : K (wPap wR l)) : m_law_rows_line l K := by
  have h0 := pap_few hl
  have hm := fun x (hx : x ∈ l) => Nat.le_trans (pap_mem (w := wR) hx) hl
  unfold wPap at hl k
  refine ⟨fun h => ?_, fun h => ?_⟩
  · rw [if_pos (isE.mp (notN_f (notN_t h)))] at k
    exact k
  · rw [if_neg (fun e => by rw [isE.mpr e] at h; cases h)] at hl k
    have hj0 := jnS _ hl
    have hj := hj0.1
    rw [List.length_map] at hj
    refine forW_go (fun r acc => acc ++ r.map wR = l.map wR ∧ ∀ x ∈ r, x ∈ l) ?_ ?_ l [] ⟨rfl, fun x h => h⟩
    · rintro x r acc Kn ⟨e, hx⟩ hk
      have hxl := hx x List.mem_cons_self
      have h1 := hm x hxl
      have h2 := wR_len x
      have g : (Str.ofString ">").length = 1 := sG_len
      have e0 : (Txt.join (Str.ofString ",") (x.2.2.map wT)).length = (Txt.join sC (x.2.2.map wT)).length := rfl
      obtain ⟨h3, h4⟩ := jn (x.2.2.map wT) (by omega)
      rw [List.length_map] at h3
      have h5 : acc.length < sizeLine := by
        have := congrArg List.length e
        rw [List.length_append, List.length_map, List.length_map, List.length_cons] at this
        omega
      refine ⟨h3, compW_map wT _ (fun t ht K hk => letters_line_ok hk) ⟨h4, state_line_ok (hp x hxl).1 (by omega) ⟨sl_le (by rw [g]; omega), state_line_ok (hp x hxl).2.1 (by omega) ⟨sl_le (by rw [len_app, g]; omega), sl_le (by rw [len_app, len_app, g]; omega), sl_le (by rw [len_app, len_app, len_app, g]; omega), h5, hk _ ⟨?_, fun y hy => hx y (List.mem_cons_of_mem _ hy)⟩⟩⟩⟩⟩
      rw [← e, List.map_cons, List.append_assoc]
      unfold wR
      rw [e_app]
      rfl
    · rintro acc ⟨e, _⟩
      rw [List.map_nil, List.append_nil] at e
      subst e
      exact ⟨hj0.2, k⟩
/-! ### there and back -/
theorem numL_first : ∀ n : Nat, 1 ≤ n → (numL n)[0]? ≠ some 48 := by
  intro n
  induction n using Nat.strongRecOn with
  | _ n ih =>
    intro h1 h
    by_cases h2 : n < 10
    · rw [numL_lt h2] at h
      simp at h
      omega
    · rw [numL_step (by omega), List.getElem?_append_left (List.length_pos_iff.mpr (numL_ne _))] at h
      exact ih (n / 10) (by omega) (by omega) h
theorem gN_str {i : Int} (h : okI i) : gN (strI i) = some i := by
  obtain ⟨n, rfl⟩ : ∃ n : Nat, i = (n : Int) := ⟨i.toNat, by have := h.1; omega⟩
  have e : tl (strI (n : Int)) = numL n := tl_num n
  have h2 := h.2
  have ok : okN (numL n) := ⟨numL_ne n, numL_len (k := 9) (by decide) (by omega), fun q => by
    by_cases h3 : n < 10
    · rw [numL_lt h3] at q; simp at q
    · exact numL_first n (by omega) q.2, fun c hc => numL_digits n c hc⟩
  unfold gN
  rw [e, if_pos ok]
  unfold valN
  rw [numL_val]
theorem str_gN {z : Str} {i : Int} (h : gN z = some i) : strI i = z ∧ okI i := by
  unfold gN at h
  split at h
  · rename_i ok
    cases h
    refine ⟨ext_tl ?_, ?_⟩
    · have e : tl (strI (valN (tl z) : Nat)) = numL (valN (tl z)) := tl_num _
      rw [e]
      exact num_back _ _ rfl ok.1 ok.2.2.2 ok.2.2.1
    · have h1 := val_lt _ _ rfl ok.2.2.2
      have h2 : 10 ^ (tl z).length ≤ 10 ^ 9 := Nat.pow_le_pow_right (by decide) ok.2.1
      unfold okI valN
      have h3 : NumText.digitsVal (tl z) < 10 ^ 9 := Nat.lt_of_lt_of_le h1 h2
      omega
  · cases h
theorem rdA_w {α : Type} {g : Str → Option α} {w : α → Str} : ∀ {l : List α}, (∀ x ∈ l, g (w x) = some x) → rdA g (l.map w) = some l
  | [], _ => rfl
  | x :: l, h => by
    rw [List.map_cons]
    unfold rdA
    rw [h x List.mem_cons_self, rdA_w fun y hy => h y (List.mem_cons_of_mem _ hy)]
theorem w_rdA {α : Type} {g : Str → Option α} {w : α → Str} {P : α → Prop} (hg : ∀ z x, g z = some x → w x = z ∧ P x) : ∀ {ws : List Str} {l : List α}, rdA g ws = some l → l.map w = ws ∧ ∀ x ∈ l, P x
  | [], l, h => by cases h; exact ⟨rfl, fun x hx => absurd hx List.not_mem_nil⟩
  | z :: ws, l, h => by
    unfold rdA at h
    cases e : g z with
    | none => rw [e] at h; cases h
    | some d =>
      rw [e] at h
      cases e2 : rdA g ws with
      | none => rw [e2] at h; cases h
      | some ds =>
        rw [e2] at h
        cases h
        obtain ⟨h1, h2⟩ := hg z d e
        obtain ⟨h3, h4⟩ := w_rdA hg e2
        exact ⟨by rw [List.map_cons, h1, h3], fun x hx => (List.mem_cons.mp hx).elim (fun q => q ▸ h2) (h4 x)⟩
theorem split_ne (z y : Str) : Txt.split z y ≠ [] := fun e => by
  have := PyProof.Rows.split_pos z y
  rw [e] at this
  exact absurd this (by decide)
theorem join_back (z y : Str) : Txt.join y (Txt.split z y) = z := by rw [join_eq]; exact PySem.StrLaws.join_split z y
theorem tl_sC : tl sC = [44] := by rw [tl_ofString]; decide +kernel
theorem tl_sG : tl sG = [62] := by rw [tl_ofString]; decide +kernel
theorem tl_sS : tl sS = [59] := by rw [tl_ofString]; decide +kernel
theorem tl_strI {i : Int} (h : 0 ≤ i) : tl (strI i) = numL i.toNat := by
  obtain ⟨n, rfl⟩ : ∃ n : Nat, i = (n : Int) := ⟨i.toNat, by omega⟩
  exact tl_num n
theorem strI_D {i : Int} (h : okI i) {c : Nat} (hc : c ∈ tl (strI i)) : isD c := by
  rw [tl_strI h.1] at hc
  exact numL_digits _ c hc
theorem mem_joinL {S : List Nat} {c : Nat} : ∀ {ps : List (List Nat)}, c ∈ joinL S ps → c ∈ S ∨ ∃ p ∈ ps, c ∈ p
  | [], h => absurd h List.not_mem_nil
  | [p], h => .inr ⟨p, by simp, h⟩
  | p :: q :: r, h => by
    have h : c ∈ p ++ (S ++ joinL S (q :: r)) := h
    rcases List.mem_append.mp h with h | h
    · exact .inr ⟨p, by simp, h⟩
    · rcases List.mem_append.mp h with h | h
      · exact .inl h
      · rcases mem_joinL h with h | ⟨p', hp, hc⟩
        · exact .inl h
        · exact .inr ⟨p', List.mem_cons_of_mem _ hp, hc⟩
theorem mem_join {y : Str} {ws : List Str} {c : Nat} (h : c ∈ tl (Txt.join y ws)) : c ∈ tl y ∨ ∃ w ∈ ws, c ∈ tl w := by
  rw [join_eq, tl_join] at h
  rcases mem_joinL h with h | ⟨p, hp, hc⟩
  · exact .inl h
  · obtain ⟨w, hw, rfl⟩ := List.mem_map.mp hp
    exact .inr ⟨w, hw, hc⟩
theorem mem_wS {l : List Int} (h : ∀ i ∈ l, okI i) {c : Nat} (hc : c ∈ tl (wS l)) : isD c ∨ c = 44 := by
  rcases mem_join hc with q | ⟨w, hw, q⟩
  · rw [tl_sC] at q; exact .inr (by simpa using q)
  · obtain ⟨i, hi, rfl⟩ := List.mem_map.mp hw
    exact .inl (strI_D (h i hi) q)
theorem gS_w {l : List Int} (h0 : l ≠ []) (h : ∀ i ∈ l, okI i) : gS (wS l) = some l := by
  unfold gS wS
  rw [TL.split_join tl_sC (by decide +kernel) (fun e => h0 (List.map_eq_nil_iff.mp e)) fun p hp hc => ?_]
  · exact rdA_w fun x hx => gN_str (h x hx)
  · obtain ⟨i, hi, rfl⟩ := List.mem_map.mp hp
    have := strI_D (h i hi) hc
    unfold isD at this
    omega
theorem w_gS {z : Str} {l : List Int} (h : gS z = some l) : wS l = z ∧ (l ≠ [] ∧ ∀ i ∈ l, okI i) := by
  unfold gS at h
  obtain ⟨h1, h2⟩ := w_rdA (w := strI) (P := okI) (fun z x h => str_gN h) h
  refine ⟨by unfold wS; rw [h1]; exact join_back z sC, fun e => ?_, h2⟩
  rw [e] at h1
  exact split_ne _ _ h1.symm
theorem tl_wT {t : Str} : tl (wT t) = if t = Str.ofString "" then [46] else tl t := by
  unfold wT
  split
  · exact tl_dot
  · rfl
theorem gT_w {t : Str} (h : ∀ c ∈ tl t, isL c) : gT (wT t) = some t := by
  unfold gT wT
  by_cases e : t = Str.ofString ""
  · rw [if_pos e, if_pos rfl, e]
  · rw [if_neg e, if_neg, if_pos]
    · exact ⟨fun q => e (z_empty.mp (by rw [len_tl, q]; rfl)), h⟩
    · intro q
      have := h 46 (by rw [q, tl_dot]; simp)
      unfold isL at this
      omega
theorem w_gT {z t : Str} (h : gT z = some t) : wT t = z ∧ ∀ c ∈ tl t, isL c := by
  unfold gT at h
  split at h
  · rename_i e
    cases h
    refine ⟨by unfold wT; rw [if_pos rfl, e], fun c hc => ?_⟩
    rw [show tl (Str.ofString "") = [] by rw [tl_ofString]; decide +kernel] at hc
    exact absurd hc List.not_mem_nil
  · split at h
    · rename_i ok
      cases h
      refine ⟨?_, ok.2⟩
      unfold wT
      rw [if_neg fun e => ok.1 (List.length_eq_zero_iff.mp (by rw [← len_tl]; exact z_empty.mpr e))]
    · cases h
theorem wP_join (p : List Int × List Int) : wP p = Txt.join sG [wS p.1, wS p.2] := by
  unfold wP
  refine ext_tl ?_
  rw [join_eq, tl_join, e_app, tl_append, tl_append, List.append_assoc]
  rfl
theorem wR_join (r : List Int × List Int × List Str) : wR r = Txt.join sG [wS r.1, wS r.2.1, Txt.join sC (r.2.2.map wT)] := by
  unfold wR
  refine ext_tl ?_
  rw [join_eq (y := sG), tl_join, e_app, tl_append, tl_append, tl_append, tl_append, List.append_assoc, List.append_assoc, List.append_assoc]
  rfl
theorem wS_no {l : List Int} (h : ∀ i ∈ l, okI i) {c : Nat} (h2 : c = 62 ∨ c = 59) : c ∉ tl (wS l) := fun hc => by
  have := mem_wS h hc
  unfold isD at this
  omega
theorem mem_wTs {ts : List Str} (h : ∀ t ∈ ts, ∀ c ∈ tl t, isL c) {c : Nat} (hc : c ∈ tl (Txt.join sC (ts.map wT))) : isL c ∨ c = 46 ∨ c = 44 := by
  rcases mem_join hc with q | ⟨w, hw, q⟩
  · rw [tl_sC] at q; exact .inr (.inr (by simpa using q))
  · obtain ⟨t, ht, rfl⟩ := List.mem_map.mp hw
    rw [tl_wT] at q
    split at q
    · exact .inr (.inl (by simpa using q))
    · exact .inl (h t ht c q)
theorem gP_w {p : List Int × List Int} (h1 : p.1 ≠ []) (h2 : p.2 ≠ []) (h : okP p) : gP (wP p) = some p := by
  unfold gP
  rw [wP_join, TL.split_join tl_sG (by decide +kernel) (by simp) fun w hw => ?_]
  · rw [rdA_two, gS_w h1 h.1, gS_w h2 h.2]
  · simp only [List.mem_cons, List.not_mem_nil, or_false] at hw
    rcases hw with rfl | rfl
    · exact wS_no h.1 (.inl rfl)
    · exact wS_no h.2 (.inl rfl)
theorem w_gP {z : Str} {p : List Int × List Int} (h : gP z = some p) : wP p = z ∧ (p.1 ≠ [] ∧ p.2 ≠ [] ∧ okP p) := by
  unfold gP at h
  split at h
  · rename_i a b e
    cases h
    obtain ⟨h1, h2⟩ := w_rdA (w := wS) (P := fun l => l ≠ [] ∧ ∀ i ∈ l, okI i) (fun z x h => w_gS h) e
    have ha := h2 a (by simp)
    have hb := h2 b (by simp)
    refine ⟨?_, ha.1, hb.1, ha.2, hb.2⟩
    rw [wP_join]
    show Txt.join sG ([a, b].map wS) = z
    rw [h1]
    exact join_back z sG
  · cases h
theorem gR_w {r : List Int × List Int × List Str} (h1 : r.1 ≠ []) (h2 : r.2.1 ≠ []) (h3 : r.2.2 ≠ []) (h : okR r) : gR (wR r) = some r := by
  unfold gR
  rw [wR_join, TL.split_join tl_sG (by decide +kernel) (by simp) fun w hw => ?_]
  · dsimp only
    rw [gS_w h1 h.1, gS_w h2 h.2.1, TL.split_join tl_sC (by decide +kernel) (fun e => h3 (List.map_eq_nil_iff.mp e)) fun w hw => ?_]
    · rw [rdA_w fun t ht => gT_w (h.2.2 t ht)]
    · obtain ⟨t, ht, rfl⟩ := List.mem_map.mp hw
      intro hc
      rw [tl_wT] at hc
      split at hc
      · simp at hc
      · have := h.2.2 t ht _ hc
        unfold isL at this
        omega
  · simp only [List.mem_cons, List.not_mem_nil, or_false] at hw
    rcases hw with rfl | rfl | rfl
    · exact wS_no h.1 (.inl rfl)
    · exact wS_no h.2.1 (.inl rfl)
    · intro hc
      have := mem_wTs h.2.2 hc
      unfold isL at this
      omega
theorem w_gR {z : Str} {r : List Int × List Int × List Str} (h : gR z = some r) : wR r = z ∧ (r.1 ≠ [] ∧ r.2.1 ≠ [] ∧ r.2.2 ≠ [] ∧ okR r) := by
  unfold gR at h
  split at h
  · rename_i a b c e
    split at h
    · rename_i x y ts e1 e2 e3
      cases h
      obtain ⟨a1, a2⟩ := w_gS e1
      obtain ⟨b1, b2⟩ := w_gS e2
      obtain ⟨c1, c2⟩ := w_rdA (w := wT) (P := fun t => ∀ c ∈ tl t, isL c) (fun z x h => w_gT h) e3
      refine ⟨?_, a2.1, b2.1, fun q => ?_, a2.2, b2.2, c2⟩
      · rw [wR_join]
        show Txt.join sG [wS x, wS y, Txt.join sC (ts.map wT)] = z
        rw [a1, b1, c1, join_back c sC, ← e]
        exact join_back z sG
      · have q : ts = [] := q
        rw [q] at c1
        exact split_ne _ _ c1.symm
    · cases h
  · cases h
theorem gPap_w {α : Type} {g : Str → Option α} {w : α → Str} {l : List α} (hg : ∀ x ∈ l, g (w x) = some x) (h1 : ∀ x ∈ l, 59 ∉ tl (w x)) (h2 : ∀ x ∈ l, 62 ∈ tl (w x)) : gPap g (wPap w l) = some l := by
  unfold gPap wPap
  by_cases e : l.length = 0
  · rw [if_pos e, if_pos rfl, List.length_eq_zero_iff.mp e]
  · rw [if_neg e, if_neg, TL.split_join tl_sS (by decide +kernel) (fun q => e (by rw [List.map_eq_nil_iff.mp q]; rfl)) fun p hp => ?_]
    · exact rdA_w hg
    · obtain ⟨x, hx, rfl⟩ := List.mem_map.mp hp
      exact h1 x hx
    · intro q
      obtain ⟨x, r, rfl⟩ := List.exists_cons_of_ne_nil (l := l) (fun q => e (by rw [q]; rfl))
      have h3 : 62 ∈ tl (Txt.join sS ((x :: r).map w)) := by
        rw [join_eq, tl_join]
        cases r with
        | nil => exact h2 x (by simp)
        | cons y r => exact List.mem_append_left _ (h2 x (by simp))
      rw [q, tl_dot] at h3
      simp at h3
theorem w_gPap {α : Type} {g : Str → Option α} {w : α → Str} {P : α → Prop} (hg : ∀ z x, g z = some x → w x = z ∧ P x) {z : Str} {l : List α} (h : gPap g z = some l) : wPap w l = z ∧ ∀ x ∈ l, P x := by
  unfold gPap at h
  split at h
  · rename_i e
    cases h
    exact ⟨e.symm, fun x hx => absurd hx List.not_mem_nil⟩
  · obtain ⟨h1, h2⟩ := w_rdA hg h
    refine ⟨?_, h2⟩
    unfold wPap
    rw [if_neg fun e => split_ne z sS (by rw [← h1, List.length_eq_zero_iff.mp e]; rfl), h1]
    exact join_back z sS

/-! ### what is drawn -/
theorem take_ok {n : Int} (h0 : 0 < n) (h1 : n ≤ 10000000) {K : Int → Prop} (k : ∀ d, 0 ≤ d → d < n → K d) : m_law_take n K := by
  obtain ⟨j, rfl⟩ : ∃ j : Nat, n = (j : Int) := ⟨n.toNat, by omega⟩
  have := log_small (j := j) (by omega)
  exact ⟨⟨h0, by omega⟩, k⟩
theorem at_ok {α β : Type} {xs : List α} {i : Int} (h0 : 0 ≤ i) (h1 : i < (xs.length : Int)) {f : α → W β} {K : β → Prop} (k : ∀ x ∈ xs, f x K) : W.at_ xs i f K := by
  obtain ⟨c, e, _, m⟩ := at_lt (l := xs) h0 h1
  exact ⟨c, e, k c m⟩
theorem ch_ok {z : Str} {i : Int} (h0 : 0 ≤ i) (h1 : i < (z.length : Int)) : ∃ c, atI (tl z) i = some c ∧ cS z i = c ∧ c ∈ tl z := by
  obtain ⟨c, e, _, m⟩ := at_lt (l := tl z) h0 (by rw [← len_tl]; exact h1)
  exact ⟨c, e, by unfold cS; rw [e]; rfl, m⟩
theorem drawn_number_ok {K : Int → Prop} (k : ∀ i, okI i → K i) : m_law_drawn_number K := by
  refine take_ok (by decide) (by decide) fun d d0 d1 => ⟨fun _ => take_ok (by decide) (by decide) fun d d0 d1 => k d ⟨d0, by omega⟩, fun _ => ⟨fun _ => take_ok (by decide) (by decide) fun d d0 d1 => k d ⟨d0, by omega⟩, fun _ => ⟨fun _ => ?_, fun _ => ?_⟩⟩⟩
  · refine take_ok (by decide) (by decide) fun a a0 a1 => take_ok (by decide) (by decide) fun b b0 b1 => take_ok (by decide) (by decide) fun c c0 c1 => k _ ⟨by omega, by omega⟩
  · refine take_ok (by decide) (by decide) fun a a0 a1 => at_ok a0 (by exact a1) fun x hx => k x ?_
    simp only [List.mem_cons, List.not_mem_nil, or_false] at hx
    unfold okI
    omega
def StOk (l : List Int) : Prop := l ≠ [] ∧ l.length ≤ 6 ∧ ∀ i ∈ l, okI i
theorem state_ok {w : Int} (h0 : 0 ≤ w) (h1 : w ≤ 6) {K : List Int → Prop} (k : ∀ l, StOk l → K l) : m_law_state w K := by
  have go : ∀ w' : Int, 1 ≤ w' → w' ≤ 6 → ((-(2 ^ 62) ≤ w' ∧ w' < 2 ^ 62) ∧ forW (fun (x10 : Int) (z_numbers : (List Int)) => W.bind (m_law_drawn_number) fun y13 => W.chk (z_numbers.length < sizeLine) <| W.ok (.nx (z_numbers ++ [y13]))) (fun z => (fun (z_numbers : (List Int)) => W.ok z_numbers) z K) K (rngT 0 w') []) := by
    intro w' a b
    refine ⟨by omega, forW_go (fun r acc => acc.length + r.length = w'.toNat ∧ ∀ i ∈ acc, okI i) ?_ ?_ (rngT 0 w') [] ⟨by rw [rngT_len]; simp, fun x h => absurd h List.not_mem_nil⟩⟩
    · rintro x r acc Kn ⟨h2, h3⟩ hk
      rw [List.length_cons] at h2
      refine drawn_number_ok fun i hi => ⟨sl_lt (by omega), hk _ ⟨by rw [List.length_append]; simp; omega, fun y hy => ?_⟩⟩
      rcases List.mem_append.mp hy with hy | hy
      · exact h3 y hy
      · rw [List.mem_singleton.mp hy]; exact hi
    · rintro acc ⟨h2, h3⟩
      rw [List.length_nil] at h2
      exact k acc ⟨fun e => by rw [e] at h2; simp at h2; omega, by omega, h3⟩
  refine ⟨fun h => take_ok (by decide) (by decide) fun d d0 d1 => go _ (by omega) (by omega), fun h => go _ ?_ (by omega)⟩
  have := of_decide_eq_false h
  omega
def PairsOk (l : List (List Int × List Int)) : Prop := l.length ≤ 600 ∧ ∀ p ∈ l, StOk p.1 ∧ StOk p.2
def TxOk (t : Str) : Prop := t.length ≤ 240 ∧ ∀ c ∈ tl t, isL c
def RowsOk (l : List (List Int × List Int × List Str)) : Prop := l.length ≤ 120 ∧ ∀ r ∈ l, StOk r.1 ∧ StOk r.2.1 ∧ r.2.2 ≠ [] ∧ r.2.2.length ≤ 4 ∧ ∀ t ∈ r.2.2, TxOk t
theorem flat_rep {α : Type} {l : List α} {n : Nat} {x : α} (h : x ∈ (List.replicate n l).flatten) : x ∈ l := by
  obtain ⟨m, hm, hx⟩ := List.mem_flatten.mp h
  rw [(List.mem_replicate.mp hm).2] at hx
  exact hx
theorem drawn_pairs_ok {K : List (List Int × List Int) → Prop} (k : ∀ l, PairsOk l → K l) : m_law_drawn_pairs K := by
  refine take_ok (by decide) (by decide) fun d d0 d1 => at_ok d0 (by exact d1) fun w hw => ?_
  have hw2 : 0 ≤ w ∧ w ≤ 6 := by
    simp only [List.mem_cons, List.not_mem_nil, or_false] at hw
    omega
  refine take_ok (by decide) (by decide) fun n n0 n1 => ⟨by omega, forW_go (fun r acc => acc.length + r.length ≤ 6 ∧ ∀ p ∈ acc, StOk p.1 ∧ StOk p.2) ?_ ?_ (rngT 0 n) [] ⟨by rw [rngT_len]; simp; omega, fun x h => absurd h List.not_mem_nil⟩⟩
  · rintro x r acc Kn ⟨h2, h3⟩ hk
    rw [List.length_cons] at h2
    refine state_ok hw2.1 hw2.2 fun a ha => state_ok hw2.1 hw2.2 fun b hb => ⟨sl_lt (by omega), hk _ ⟨by rw [List.length_append]; simp; omega, fun y hy => ?_⟩⟩
    rcases List.mem_append.mp hy with hy | hy
    · exact h3 y hy
    · rw [List.mem_singleton.mp hy]; exact ⟨ha, hb⟩
  · rintro acc ⟨h2, h3⟩
    rw [List.length_nil] at h2
    refine take_ok (by decide) (by decide) fun d d0 d1 => ⟨fun _ => take_ok (by decide) (by decide) fun e e0 e1 => at_ok e0 (by exact e1) fun m hm => ?_, fun _ => k acc ⟨by omega, h3⟩⟩
    have hm2 : m = 20 ∨ m = 100 := by simpa using hm
    have hb : acc.length * m.toNat ≤ 6 * 100 := Nat.mul_le_mul (by omega) (by omega)
    refine ⟨⟨by omega, sl_le (by omega)⟩, k _ ⟨?_, fun p hp => h3 p (flat_rep hp)⟩⟩
    rw [flat_len, Nat.mul_comm]
    omega
theorem string_ok {K : Str → Prop} (k : ∀ t : Str, t.length ≤ 8 → (∀ c ∈ tl t, isL c) → K t) : m_law_string K := by
  refine take_ok (by decide) (by decide) fun n n0 n1 => ⟨by omega, forW_go (fun r acc => acc.length + r.length ≤ 8 ∧ ∀ c ∈ tl acc, isL c) ?_ ?_ (rngT 0 n) _ ⟨by rw [rngT_len, len_e]; simp; omega, fun c hc => ?_⟩⟩
  · rintro x r acc Kn ⟨h2, h3⟩ hk
    rw [List.length_cons] at h2
    refine take_ok (by decide) (by decide) fun d d0 d1 => ?_
    have l16 : (Str.ofString "abcdefghABCDEFGH").length = 16 := by decide +kernel
    obtain ⟨c, hc, ec, hm⟩ := ch_ok (z := Str.ofString "abcdefghABCDEFGH") d0 (by rw [l16]; exact d1)
    refine ⟨⟨by rw [l16, sizeLine_eq]; decide, c, hc⟩, sl_le (by rw [len_ch]; omega), hk _ ⟨by rw [len_app, len_ch]; omega, fun y hy => ?_⟩⟩
    rw [tl_append] at hy
    rcases List.mem_append.mp hy with hy | hy
    · exact h3 y hy
    · have e : y = c := by rw [ec] at hy; simpa using hy
      rw [e]
      exact mem_nam16.mp hm
  · rintro acc ⟨h2, h3⟩
    exact k acc (by omega) h3
  · rw [show tl (Str.ofString "") = [] by rw [tl_ofString]; decide +kernel] at hc
    exact absurd hc List.not_mem_nil
theorem mul_L {z : Str} {n : Int} (h : ∀ c ∈ tl z, isL c) : ∀ c ∈ tl (Txt.mul z n), isL c := fun c hc => by
  rw [tl_mul] at hc
  exact h c (flat_rep hc)
theorem tx_mul {t : Str} (ht : t.length ≤ 8) (hL : ∀ c ∈ tl t, isL c) {n : Int} (hn : n.toNat ≤ 30) : TxOk (Txt.mul t n) := by
  refine ⟨?_, mul_L hL⟩
  have hb : t.length * n.toNat ≤ 8 * 30 := Nat.mul_le_mul ht hn
  rw [len_tl, tl_mul, flat_len, ← len_tl, Nat.mul_comm]
  omega
theorem mul_okL {t : Str} (ht : t.length ≤ 8) {n : Int} (h1 : n ≤ 30) (h2 : 0 ≤ n) : MulOk t n := by
  have hb : t.length * n.toNat ≤ 8 * 30 := Nat.mul_le_mul ht (by omega)
  exact ⟨by omega, by omega, by omega, sl_le (by omega)⟩
def RowOk (r : List Int × List Int × List Str) : Prop := StOk r.1 ∧ StOk r.2.1 ∧ r.2.2 ≠ [] ∧ r.2.2.length ≤ 4 ∧ ∀ t ∈ r.2.2, TxOk t
theorem drawn_rows_ok {K : List (List Int × List Int × List Str) → Prop} (k : ∀ l, RowsOk l → K l) : m_law_drawn_rows K := by
  unfold m_law_drawn_rows
  refine take_ok (by decide) (by decide) fun d d0 d1 => at_ok d0 (by exact d1) fun w hw => ?_
  have hw2 : 0 ≤ w ∧ w ≤ 6 := by
    simp only [List.mem_cons, List.not_mem_nil, or_false] at hw
    omega
  refine take_ok (by decide) (by decide) fun d d0 d1 => ⟨fun _ => ?_, fun _ => ?_⟩
  all_goals
    refine take_ok (by decide) (by decide) fun n n0 n1 => ⟨by omega, forW_go (fun r acc => acc.length + r.length ≤ 6 ∧ ∀ r ∈ acc, RowOk r) ?_ ?_ (rngT 0 n) [] ⟨by rw [rngT_len]; simp; omega, fun x h => absurd h List.not_mem_nil⟩⟩
    · rintro x r acc Kn ⟨h2, h3⟩ hk
      rw [List.length_cons] at h2
      refine state_ok hw2.1 hw2.2 fun a ha => state_ok hw2.1 hw2.2 fun b hb => take_ok (by decide) (by decide) fun m m0 m1 => ⟨by omega, ?_⟩
      refine forW_go (fun r acc => acc.length + r.length = (1 + m).toNat ∧ ∀ t ∈ acc, TxOk t) ?_ ?_ (rngT 0 (1 + m)) [] ⟨by rw [rngT_len]; simp, fun x h => absurd h List.not_mem_nil⟩
      · rintro x r acc Kn ⟨h4, h5⟩ hk
        rw [List.length_cons] at h4
        refine string_ok fun t ht hL => ⟨mul_okL ht (by decide) (by decide), sl_lt (by omega), hk _ ⟨by rw [List.length_append]; simp; omega, fun y hy => ?_⟩⟩
        rcases List.mem_append.mp hy with hy | hy
        · exact h5 y hy
        · rw [List.mem_singleton.mp hy]; exact tx_mul ht hL (by decide)
      · rintro ts ⟨h4, h5⟩
        rw [List.length_nil] at h4
        refine ⟨sl_lt (by omega), hk _ ⟨by rw [List.length_append]; simp; omega, fun y hy => ?_⟩⟩
        rcases List.mem_append.mp hy with hy | hy
        · exact h3 y hy
        · rw [List.mem_singleton.mp hy]; exact ⟨ha, hb, fun e => by have e : ts = [] := e; rw [e] at h4; simp at h4; omega, by show ts.length ≤ 4; omega, h5⟩
    · rintro acc ⟨h2, h3⟩
      rw [List.length_nil] at h2
      refine take_ok (by decide) (by decide) fun d d0 d1 => ⟨fun _ => ?_, fun _ => k acc ⟨by omega, h3⟩⟩
      refine ⟨⟨⟨by decide, by decide⟩, sl_le (by show acc.length * 20 ≤ _; omega)⟩, k _ ⟨?_, fun p hp => h3 p (flat_rep hp)⟩⟩
      rw [flat_len]
      show 20 * acc.length ≤ 120
      omega
/-! how long the lines are -/
theorem sum_le {l : List Str} {b : Nat} (h : ∀ x ∈ l, x.length ≤ b) : (l.map (·.length)).sum ≤ l.length * b := by
  induction l with
  | nil => simp
  | cons a l ih =>
    rw [List.map_cons, List.sum_cons, List.length_cons, Nat.succ_mul]
    have h1 := h a List.mem_cons_self
    have h2 := ih fun x hx => h x (List.mem_cons_of_mem _ hx)
    omega
theorem join_le {y : Str} (hy : y.length = 1) {l : List Str} {b n : Nat} (h : ∀ x ∈ l, x.length ≤ b) (hn : l.length ≤ n) : (Txt.join y l).length ≤ n * (b + 1) := by
  by_cases e : l = []
  · subst e
    rw [join_nil]
    exact Nat.zero_le _
  · have h1 := join_len hy e
    have h2 := sum_le h
    have h3 : l.length * (b + 1) ≤ n * (b + 1) := Nat.mul_le_mul_right _ hn
    rw [Nat.mul_add, Nat.mul_one] at h3
    omega
theorem strI_len {i : Int} (h : okI i) : (strI i).length ≤ 9 := by
  rw [len_tl, tl_strI h.1]
  have := h.1
  have := h.2
  exact numL_len (k := 9) (by decide) (by omega)
theorem wS_le {l : List Int} (h : StOk l) : (wS l).length ≤ 60 := join_le (b := 9) (n := 6) sC_len (fun x hx => by
  obtain ⟨i, hi, rfl⟩ := List.mem_map.mp hx
  exact strI_len (h.2.2 i hi)) (by rw [List.length_map]; exact h.2.1)
theorem wT_le {t : Str} {n : Nat} (h : t.length ≤ n) (h1 : 1 ≤ n) : (wT t).length ≤ n := by
  unfold wT
  split
  · rw [dot_len]; exact h1
  · exact h
theorem dl : (Str.ofString ".").length ≤ 1 := by decide +kernel
theorem wPap_le {α : Type} {w : α → Str} {l : List α} {b n : Nat} (h : ∀ x ∈ l, (w x).length ≤ b) (hn : l.length ≤ n) : (wPap w l).length ≤ n * (b + 1) + 1 := by
  unfold wPap
  split
  · have := dl; omega
  · have := join_le (b := b) (n := n) sS_len (l := l.map w) (fun x hx => by
      obtain ⟨i, hi, rfl⟩ := List.mem_map.mp hx
      exact h i hi) (by rw [List.length_map]; exact hn)
    omega
theorem wP_le {p : List Int × List Int} (h : StOk p.1 ∧ StOk p.2) : (wP p).length ≤ 121 := by
  have := wS_le h.1
  have := wS_le h.2
  rw [wP_len]
  omega
theorem wR_le {r : List Int × List Int × List Str} (h : StOk r.1 ∧ StOk r.2.1 ∧ r.2.2 ≠ [] ∧ r.2.2.length ≤ 4 ∧ ∀ t ∈ r.2.2, TxOk t) : (wR r).length ≤ 1086 := by
  have := wS_le h.1
  have := wS_le h.2.1
  have := join_le (b := 240) (n := 4) sC_len (l := r.2.2.map wT) (fun x hx => by
    obtain ⟨t, ht, rfl⟩ := List.mem_map.mp hx
    exact wT_le (h.2.2.2.2 t ht).1 (by decide)) (by rw [List.length_map]; exact h.2.2.2.1)
  rw [wR_len]
  omega
theorem PairsOk.p {l : List (List Int × List Int)} (h : PairsOk l) : ∀ p ∈ l, okP p := fun p hp => ⟨(h.2 p hp).1.2.2, (h.2 p hp).2.2.2⟩
theorem RowsOk.p {l : List (List Int × List Int × List Str)} (h : RowsOk l) : ∀ p ∈ l, okR p := fun p hp => ⟨(h.2 p hp).1.2.2, (h.2 p hp).2.1.2.2, fun t ht => ((h.2 p hp).2.2.2.2 t ht).2⟩
theorem pairs_len {l : List (List Int × List Int)} (h : PairsOk l) {n : Nat} (hn : l.length ≤ n) : (wPap wP l).length ≤ n * 122 + 1 := wPap_le (fun x hx => wP_le (h.2 x hx)) hn
theorem rows_len {l : List (List Int × List Int × List Str)} (h : RowsOk l) {n : Nat} (hn : l.length ≤ n) : (wPap wR l).length ≤ n * 1087 + 1 := wPap_le (fun x hx => wR_le (h.2 x hx)) hn
/-! ### what is asked -/
theorem triv_loop {α : Type} {ρ : Type} {K : Ctl Unit ρ → Prop} (xs : List α) {Kf : Unit → Prop} {Kr : ρ → Prop} (k : Kf ()) : forW (fun (_ : α) (_ : Unit) => (W.ok (.nx ()) : W (Ctl Unit ρ))) Kf Kr xs () := by
  induction xs with
  | nil => exact k
  | cons x xs ih => exact ih
theorem triv_loop' {α ρ : Type} {body : α → Unit → W (Ctl Unit ρ)} (hb : ∀ x K, K (.nx ()) → body x () K) (xs : List α) {Kf : Unit → Prop} {Kr : ρ → Prop} (k : Kf ()) : forW body Kf Kr xs () := by
  induction xs with
  | nil => exact k
  | cons x xs ih => exact hb x _ ih
theorem sameP_ok {y : List (List Int × List Int)} {K : Bool → Prop} (k : K true) : m_law_sameP y y K := by
  refine ⟨⟨fun _ _ => ⟨fun _ _ => trivial, fun _ _ => trivial⟩, fun _ _ => ⟨fun _ _ => trivial, fun _ _ => trivial⟩⟩, fun h => ?_, fun _ => triv_loop' (fun x K hK => triv_loop' (fun x K hK => triv_loop' (fun x K hK => hK) _ hK) _ hK) _ k⟩
  rw [decide_eq_true rfl] at h
  cases h
theorem goodR {y : List (List Int × List Int × List Str)} (h : ∀ r ∈ y, okR r) : EnD.good (eTup (eP3 (eTup eInt) (eTup eInt) (eTup eStr))) y := fun r hr => ⟨fun _ _ => trivial, fun _ _ => trivial, fun t ht c hc => by
  have := (h r hr).2.2 t ht c hc
  unfold isL at this
  omega⟩
theorem sameR_ok {y : List (List Int × List Int × List Str)} (h : ∀ r ∈ y, okR r) {K : Bool → Prop} (k : K true) : m_law_sameR y y K := by
  refine ⟨⟨goodR h, goodR h⟩, fun h => ?_, fun _ => triv_loop' (fun x K hK => triv_loop' (fun x K hK => triv_loop' (fun x K hK => hK) _ hK) _ hK) _ k⟩
  rw [decide_eq_true rfl] at h
  cases h
theorem pairs_asked_ok {z : Str} (hz : z.length ≤ 4000000) {K : Bool → Prop} (k : K true) : m_law_pairs_asked z (gPap gP z) K := by
  refine read_pairs_ok hz ?_
  cases e : gPap gP z with
  | none => exact ⟨rfl, k⟩
  | some y =>
    obtain ⟨h1, h2⟩ := w_gPap (w := wP) (P := fun p => p.1 ≠ [] ∧ p.2 ≠ [] ∧ okP p) (fun z x h => w_gP h) e
    refine sameP_ok ⟨fun h => (nomatch h), fun _ => write_pairsT_ok (fun p hp => (h2 p hp).2.2) (by rw [h1]; exact hz) ?_⟩
    rw [h1, decide_eq_true rfl]
    exact k
theorem rows_asked_ok {z : Str} (hz : z.length ≤ 4000000) {K : Bool → Prop} (k : K true) : m_law_rows_asked z (gPap gR z) K := by
  refine read_rows_ok hz ?_
  cases e : gPap gR z with
  | none => exact ⟨rfl, k⟩
  | some y =>
    obtain ⟨h1, h2⟩ := w_gPap (w := wR) (P := fun r => r.1 ≠ [] ∧ r.2.1 ≠ [] ∧ r.2.2 ≠ [] ∧ okR r) (fun z x h => w_gR h) e
    have hr : ∀ r ∈ y, okR r := fun p hp => (h2 p hp).2.2.2
    refine sameR_ok hr ⟨fun h => (nomatch h), fun _ => write_rowsT_ok hr (by rw [h1]; exact hz) ?_⟩
    rw [h1, decide_eq_true rfl]
    exact k
theorem both_hold_ok {z : Str} (hz : z.length ≤ 4000000) {K : Bool → Prop} (k : K true) : m_law_both_hold z K :=
  lpairs_of_ok hz (pairs_asked_ok hz ⟨fun h => (nomatch h), fun _ => lrows_of_ok hz (rows_asked_ok hz k)⟩)
theorem eqT {α : Type} [DecidableEq α] (x : α) {P : Prop} (h : (!decide (x = x)) = true) : P := by
  rw [decide_eq_true rfl] at h
  cases h
theorem mem62 {a b : Str} : 62 ∈ tl ((a ++ sG) ++ b) := by rw [tl_append, tl_append, tl_sG]; simp
theorem no59 {l : List Int} (h : ∀ i ∈ l, okI i) : 59 ∉ tl (wS l) := wS_no h (.inr rfl)
theorem pairs_back {l : List (List Int × List Int)} (h : PairsOk l) : gPap gP (wPap wP l) = some l := gPap_w (fun x hx => gP_w (h.2 x hx).1.1 (h.2 x hx).2.1 (h.p x hx)) (fun x hx hc => by
    unfold wP at hc
    rw [tl_append, tl_append, e_app, tl_sG] at hc
    have := no59 (h.p x hx).1
    have := no59 (h.p x hx).2
    simp only [List.mem_append, List.mem_cons, List.not_mem_nil, or_false] at hc
    rcases hc with (hc | hc) | hc
    · contradiction
    · omega
    · contradiction) fun x hx => mem62
theorem rows_back {l : List (List Int × List Int × List Str)} (h : RowsOk l) : gPap gR (wPap wR l) = some l := gPap_w (fun x hx => gR_w (h.2 x hx).1.1 (h.2 x hx).2.1.1 (h.2 x hx).2.2.1 (h.p x hx)) (fun x hx hc => by
    unfold wR at hc
    rw [tl_append, tl_append, tl_append, tl_append, e_app, tl_sG] at hc
    have := no59 (h.p x hx).1
    have := no59 (h.p x hx).2.1
    simp only [List.mem_append, List.mem_cons, List.not_mem_nil, or_false] at hc
    rcases hc with (((hc | hc) | hc) | hc) | hc
    · contradiction
    · omega
    · contradiction
    · omega
    · have := mem_wTs (h.p x hx).2.2 hc
      unfold isL at this
      omega) fun x hx => mem62
theorem pairs_hold_ok {l : List (List Int × List Int)} (h : PairsOk l) {K : Bool → Prop} (k : K true) : m_law_pairs_hold l K := by
  have hl := pairs_len h h.1
  refine pairs_line_ok h.p (by omega) (write_pairsL_ok h.p (by omega) ⟨eqT _, fun _ => ⟨⟨fun _ _ => ⟨fun _ _ => trivial, fun _ _ => trivial⟩, fun _ _ => ⟨fun _ _ => trivial, fun _ _ => trivial⟩⟩, eqT _, fun _ => write_pairsT_ok h.p (by omega) ⟨eqT _, fun _ => ?_⟩⟩⟩)
  have := pairs_asked_ok (z := wPap wP l) (by omega) k
  rw [pairs_back h] at this
  exact this
theorem rows_hold_ok {l : List (List Int × List Int × List Str)} (h : RowsOk l) {K : Bool → Prop} (k : K true) : m_law_rows_hold l K := by
  have hl := rows_len h h.1
  refine rows_line_ok h.p (by omega) (write_rowsL_ok h.p (by omega) ⟨eqT _, fun _ => ⟨⟨goodR h.p, goodR h.p⟩, eqT _, fun _ => write_rowsT_ok h.p (by omega) ⟨eqT _, fun _ => ?_⟩⟩⟩)
  have := rows_asked_ok (z := wPap wR l) (by omega) k
  rw [rows_back h] at this
  exact this

theorem mem_le {L : List Str} {x : Str} (hx : x ∈ L) {n : Nat} (h : L.all (fun x => decide (x.length ≤ n)) = true) : x.length ≤ n := of_decide_eq_true (List.all_eq_true.mp h x hx)
theorem menu_holds_ok {K : Bool → Prop} (k : K true) : m_law_menu_holds K := by
  unfold m_law_menu_holds
  repeat refine ⟨by decide +kernel, ?_⟩
  intro d d0 d1
  refine at_ok d0 d1 fun x hx => both_hold_ok (Nat.le_trans (mem_le (n := 100) hx ?_) (by decide)) k
  decide +kernel
theorem cutT_len {α : Type} (l : List α) (lo hi : Option Int) : (cutT l lo hi).length ≤ l.length := by
  unfold cutT
  rw [List.length_take, List.length_drop]
  omega
theorem sum_take (l : List Str) (n : Nat) : ((l.take n).map (·.length)).sum ≤ (l.map (·.length)).sum := by
  conv => rhs; rw [← List.take_append_drop n l]
  rw [List.map_append, List.sum_append]
  omega
theorem sum_drop (l : List Str) (n : Nat) : ((l.drop n).map (·.length)).sum ≤ (l.map (·.length)).sum := by
  conv => rhs; rw [← List.take_append_drop n l]
  rw [List.map_append, List.sum_append]
  omega
theorem cutT_sum (l : List Str) (lo hi : Option Int) : ((cutT l lo hi).map (·.length)).sum ≤ (l.map (·.length)).sum := by
  unfold cutT
  exact Nat.le_trans (sum_take _ _) (sum_drop _ _)
theorem sum_app (a b : List Str) : ((a ++ b).map (·.length)).sum = (a.map (·.length)).sum + (b.map (·.length)).sum := by rw [List.map_append, List.sum_append]
theorem join_up {y : Str} (hy : y.length = 1) (ws : List Str) : (Txt.join y ws).length ≤ (ws.map (·.length)).sum + ws.length := by
  by_cases h : ws = []
  · subst h; rw [join_nil]; exact Nat.zero_le _
  · have := join_len hy h; omega
theorem sg_len (c : Nat) : (sg c).length = 1 := rfl
theorem sign_spoiled_ok {w : Int} {z : Str} (hz : z.length ≤ 10000) {K : Str → Prop} (k : ∀ t : Str, t.length ≤ 100000 → K t) : m_law_sign_spoiled w z K := by
  unfold m_law_sign_spoiled
  refine ⟨sl_le (by omega), take_ok (by omega) (by omega) fun a a0 a1 => ⟨by decide +kernel, take_ok (by decide +kernel) (by decide +kernel) fun b b0 b1 => ?_⟩⟩
  obtain ⟨c, hc, _, _⟩ := ch_ok b0 b1
  have h1 := len_cut z none (some a)
  have h2 := len_cut z (some a) none
  have h3 := len_cut z (some (a + 1)) none
  have h4 := len_cut z (some (a + 1)) (some (a + 2))
  have h5 := len_cut z (some a) (some (a + 1))
  have h6 := len_cut z (some (a + 2)) none
  have hz2 : z.length ≤ sizeLine := sl_le (by omega)
  refine ⟨⟨by decide +kernel, c, hc⟩, fun _ => ⟨hz2, sl_le (by rw [sg_len]; omega), hz2, sl_le (by rw [len_app, sg_len]; omega), k _ (by rw [len_app, len_app, sg_len]; omega)⟩, fun _ => ⟨fun _ => ⟨hz2, sl_le (by rw [sg_len]; omega), hz2, sl_le (by rw [len_app, sg_len]; omega), k _ (by rw [len_app, len_app, sg_len]; omega)⟩, fun _ => ⟨fun _ => ⟨hz2, hz2, sl_le (by omega), k _ (by rw [len_app]; omega)⟩, fun _ => ⟨hz2, hz2, sl_le (by omega), hz2, sl_le (by rw [len_app]; omega), hz2, sl_le (by rw [len_app, len_app]; omega), k _ (by rw [len_app, len_app, len_app]; omega)⟩⟩⟩⟩
theorem piece_spoiled_ok {w : Int} {z : Str} (hz : z.length ≤ 10000) {K : Str → Prop} (k : ∀ t : Str, t.length ≤ 100000 → K t) : m_law_piece_spoiled w z K := by
  unfold m_law_piece_spoiled
  refine take_ok (by decide) (by decide) fun a a0 a1 => ?_
  obtain ⟨c, hc, _, _⟩ := ch_ok (z := Str.ofString ";,>:") a0 (by rw [show (Str.ofString ";,>:").length = 4 by decide +kernel]; exact a1)
  refine ⟨⟨by decide +kernel, c, hc⟩, ⟨rfl, sl_le (by omega)⟩, ?_⟩
  generalize cS (Str.ofString ";,>:") a = s
  have hw := PyProof.Rows.split_weight z (sg s) (by rw [sg_len]; exact Nat.le_refl _)
  have hp := PyProof.Rows.split_pos z (sg s)
  generalize Txt.split z (sg s) = ws at hw hp
  refine take_ok (by omega) (by omega) fun b b0 b1 => ?_
  have cl := cutT_len ws
  have cs := cutT_sum ws
  have j := fun l => join_up (y := sg s) (sg_len s) l
  have l1 := cl none (some (b + 1))
  have l2 := cl (some b) none
  have l3 := cl none (some b)
  have l4 := cl (some (b + 1)) none
  have l5 := cl (some (b + 1)) (some (b + 2))
  have l6 := cl (some b) (some (b + 1))
  have l7 := cl (some (b + 2)) none
  have s1 := cs none (some (b + 1))
  have s2 := cs (some b) none
  have s3 := cs none (some b)
  have s4 := cs (some (b + 1)) none
  have s5 := cs (some (b + 1)) (some (b + 2))
  have s6 := cs (some b) (some (b + 1))
  have s7 := cs (some (b + 2)) none
  have up : ∀ l : List Str, (l.map (·.length)).sum + l.length ≤ 100000 → K (Txt.join (sg s) l) := fun l h => k _ (Nat.le_trans (j l) h)
  have ch : ∀ l : List Str, (l.map (·.length)).sum + l.length ≤ 100000 → (l.map (·.length)).sum + l.length * (sg s).length ≤ 16777216 := fun l h => by rw [sg_len]; omega
  refine ⟨fun _ => ⟨sl_le (by omega), ch _ (by rw [sum_app, List.length_append]; omega), up _ (by rw [sum_app, List.length_append]; omega)⟩, fun _ => ⟨fun _ => ⟨sl_le (by omega), ch _ (by rw [sum_app, List.length_append]; omega), up _ (by rw [sum_app, List.length_append]; omega)⟩, fun _ => ⟨fun _ => ⟨sl_le (by omega), sl_le (by rw [List.length_append]; omega), sl_le (by rw [List.length_append, List.length_append]; omega),
    ch _ (by rw [sum_app, sum_app, sum_app, List.length_append, List.length_append, List.length_append]; omega), up _ (by rw [sum_app, sum_app, sum_app, List.length_append, List.length_append, List.length_append]; omega)⟩, fun _ => take_ok (by decide) (by decide) fun e e0 e1 => ?_⟩⟩⟩
  obtain ⟨c2, hc2, _, _⟩ := ch_ok (z := Str.ofString ";,>:.!") e0 (by rw [show (Str.ofString ";,>:.!").length = 6 by decide +kernel]; exact e1)
  have j1 := j (cutT ws none (some (b + 1)))
  have j2 := j (cutT ws (some (b + 1)) none)
  exact ⟨⟨by decide +kernel, c2, hc2⟩, ch _ (by omega), sl_le (by rw [sg_len]; omega), ch _ (by omega), sl_le (by rw [len_app, sg_len]; omega), k _ (by rw [len_app, len_app, sg_len]; omega)⟩
theorem end_spoiled_ok {z : Str} (hz : z.length ≤ 10000) {K : Str → Prop} (k : ∀ t : Str, t.length ≤ 100000 → K t) : m_law_end_spoiled z K := by
  unfold m_law_end_spoiled
  refine take_ok (by decide) (by decide) fun a a0 a1 => at_ok a0 (by exact a1) fun x hx => ?_
  have hl := mem_le (n := 1) hx (by decide +kernel)
  exact take_ok (by decide) (by decide) fun b b0 b1 => ⟨fun _ => ⟨sl_le (by omega), k _ (by rw [len_app]; omega)⟩, fun _ => ⟨sl_le (by omega), k _ (by rw [len_app]; omega)⟩⟩
theorem runs_ok {z : Str} (hz : z.length ≤ 10000) {K : List (Int × Int) → Prop} (k : ∀ l, l.length ≤ 20000 → K l) : m_law_runs z K := by
  unfold m_law_runs
  refine ⟨sl_le (by omega), by omega, forW_go (fun r s => s.2.length + r.length ≤ z.length + 1 ∧ ∀ x ∈ r, 0 ≤ x) ?_ ?_ _ _ ⟨by rw [rngT_len]; simp, fun x hx => ?_⟩⟩
  · rintro x r ⟨st, ac⟩ Kn ⟨h1, h2⟩ hk
    rw [List.length_cons] at h1
    have hx := h2 x List.mem_cons_self
    have h1 : ac.length + (r.length + 1) ≤ z.length + 1 := h1
    have h3 : ∀ x ∈ r, 0 ≤ x := fun y hy => h2 y (List.mem_cons_of_mem _ hy)
    have a1 : ∀ q, Kn (q, ac) := fun q => hk _ ⟨by show ac.length + r.length ≤ _; omega, h3⟩
    have a2 : ∀ q t, Kn (q, ac ++ [t]) := fun q t => hk _ ⟨by show (ac ++ [t]).length + r.length ≤ _; rw [List.length_append]; simp; omega, h3⟩
    refine ⟨sl_le (by omega), fun hd => ⟨sl_le (by omega), ?_⟩, fun _ => ?_, fun _ => ?_⟩
    · obtain ⟨c, hc, _⟩ := ch_ok (z := z) hx (of_decide_eq_true hd)
      exact ⟨c, hc⟩
    · exact ⟨fun _ => ⟨sl_lt (by show ac.length ≤ _; omega), a2 _ _⟩, fun _ => a1 _⟩
    · exact ⟨fun _ => ⟨sl_lt (by show ac.length ≤ _; omega), a2 _ _⟩, fun _ => a1 _⟩
  · rintro ⟨st, ac⟩ ⟨h1, _⟩
    have h1 : ac.length + 0 ≤ z.length + 1 := h1
    exact k ac (by omega)
  · unfold rngT at hx
    obtain ⟨n, _, rfl⟩ := List.mem_map.mp hx
    omega
theorem number_spoiled_ok {w : Int} {z : Str} (hz : z.length ≤ 10000) {K : Str → Prop} (k : ∀ t : Str, t.length ≤ 100000 → K t) : m_law_number_spoiled w z K := by
  unfold m_law_number_spoiled
  refine runs_ok hz fun l hl => ⟨fun _ => end_spoiled_ok hz k, fun h => ?_⟩
  have hne : 0 < l.length := by
    rw [Bool.or_eq_false_iff] at h
    have h2 := notN_t (notN_f h.2)
    cases l with
    | nil => cases h2
    | cons x l => simp
  have o1 : (Str.ofString "0").length = 1 := by decide +kernel
  have o2 : (Str.ofString "1").length = 1 := by decide +kernel
  refine take_ok (by omega) (by omega) fun a a0 a1 => at_ok a0 a1 fun p hp => ?_
  have h1 := len_cut z (some p.1) (some p.2)
  have h2 := len_cut z none (some p.1)
  have h3 := len_cut z (some p.2) none
  have hz2 : z.length ≤ sizeLine := sl_le (by omega)
  have fin : ∀ f : Str, f.length ≤ 20000 → z.length ≤ sizeLine ∧ (cutS z none (some p.1)).length + f.length ≤ sizeLine ∧ z.length ≤ sizeLine ∧ ((cutS z none (some p.1)) ++ f).length + (cutS z (some p.2) none).length ≤ sizeLine ∧ K (((cutS z none (some p.1)) ++ f) ++ (cutS z (some p.2) none)) := fun f hf =>
    ⟨hz2, sl_le (by omega), hz2, sl_le (by rw [len_app]; omega), k _ (by rw [len_app, len_app]; omega)⟩
  have fin2 : ∀ f : Str, f.length ≤ 20000 → (decide (w = 2) = true → m_law_take 12 fun y => y.natAbs.log2 < 1920 ∧ z.length ≤ sizeLine ∧ (cutS z none (some p.1)).length + (strI y).length ≤ sizeLine ∧ z.length ≤ sizeLine ∧ ((cutS z none (some p.1)) ++ strI y).length + (cutS z (some p.2) none).length ≤ sizeLine ∧ K (((cutS z none (some p.1)) ++ strI y) ++ (cutS z (some p.2) none))) ∧
      (decide (w = 2) = false → z.length ≤ sizeLine ∧ (cutS z none (some p.1)).length + f.length ≤ sizeLine ∧ z.length ≤ sizeLine ∧ ((cutS z none (some p.1)) ++ f).length + (cutS z (some p.2) none).length ≤ sizeLine ∧ K (((cutS z none (some p.1)) ++ f) ++ (cutS z (some p.2) none))) := fun f hf =>
    ⟨fun _ => take_ok (by decide) (by decide) fun y y0 y1 => have hy : okI y := ⟨y0, by omega⟩; ⟨okI_log hy, fin _ (by have := strI_len hy; omega)⟩, fun _ => fin f hf⟩
  have hm : (Txt.mul (Str.ofString "0") 4399).length = 4399 := by rw [len_tl, tl_mul, flat_len, ← len_tl, o1]; rfl
  refine ⟨hz2, sl_le (by omega), fun _ => ⟨⟨by omega, by decide, by decide, sl_le (by rw [o1]; decide)⟩, sl_le (by rw [o2, hm]; decide), by decide +kernel, take_ok (by decide +kernel) (by decide +kernel) fun b b0 b1 => at_ok b0 b1 fun x hx => fin2 x ?_⟩, fun _ => fin2 _ (by rw [len_app]; omega)⟩
  simp only [List.cons_append, List.nil_append, List.mem_cons, List.not_mem_nil, or_false] at hx
  rcases hx with rfl | rfl | rfl | rfl | rfl | rfl | rfl | rfl | rfl | rfl
  · exact Nat.le_trans (show _ ≤ 10 by decide +kernel) (by decide)
  · exact Nat.le_trans (show _ ≤ 10 by decide +kernel) (by decide)
  · rw [len_app, hm, o2]
    decide
  all_goals exact Nat.le_trans (show _ ≤ 10 by decide +kernel) (by decide)
theorem spoiled_ok {z : Str} (hz : z.length ≤ 10000) {K : Str → Prop} (k : ∀ t : Str, t.length ≤ 100000 → K t) : m_law_spoiled z K := by
  unfold m_law_spoiled
  exact take_ok (by decide) (by decide) fun a a0 a1 => ⟨fun _ => sign_spoiled_ok hz k, fun _ => ⟨fun _ => piece_spoiled_ok hz k, fun _ => number_spoiled_ok hz k⟩⟩

def spLaw (K : PySem.W.Frag) : Sp := fun vs H Q _ => ∃ (a : Addr) (ns : List Int), vs = [.ref a] ∧ SqL K H a (ns.map V.int) ∧ ns.length ≤ 63 ∧ ∀ H', Q (.bl true) H'
theorem hl_spLaw {K : PySem.W.Frag} : ∀ vs H Q E, spLaw K vs H Q E → vs.length = 1 := fun vs H Q E h => by
  obtain ⟨a, ns, rfl, _⟩ := h
  rfl
theorem cut4 {α : Type} (l : List α) : (cutT l none (some (4 : Int))).length ≤ 4 ∧ ∀ x ∈ cutT l none (some (4 : Int)), x ∈ l := by
  unfold cutT
  refine ⟨?_, fun x hx => List.mem_of_mem_drop (List.mem_of_mem_take hx)⟩
  have e : HT.sIx l.length l.length (some (4 : Int)) ≤ 4 := by
    rw [show (4 : Int) = ((4 : Nat) : Int) from rfl, HT.sIx_nat]
    omega
  rw [List.length_take]
  omega
abbrev NM_law : List Str := ["script", "rows", "others", "at", "box", "line"]
theorem sc_law : FnScope NM_law ["script"] (defScope s_law) := ⟨rfl, rfl, rfl, by decide +kernel, rfl, by decide +kernel, by decide +kernel⟩
theorem d_law {f : Addr} {fd : FuncData} (F : Fun K "law" "law" s_law f fd) (T : Txt P K mg) (D_law_drawn_pairs : Def P w K mg base 4 "_law_drawn_pairs" ["box"] (spWb BxW 0 (fun F vs (i : Unit) => vs = []) (eLst (eP2 (eTup eInt) (eTup eInt))) (fun (i : Unit) => m_law_drawn_pairs))) (D_law_drawn_rows : Def P w K mg base 4 "_law_drawn_rows" ["box"] (spWb BxW 0 (fun F vs (i : Unit) => vs = []) (eLst (eP3 (eTup eInt) (eTup eInt) (eTup eStr))) (fun (i : Unit) => m_law_drawn_rows))) (D_law_box : Def P w K mg base 1 "_law_box" ["script", "at"] (spBox K)) (D_law_pairs_hold : Def P w K mg base 11 "_law_pairs_hold" ["rows"] (spW 1 (fun F vs (i : (List ((List Int) × (List Int)))) => ∃ v0, vs = [v0] ∧ (eLst (eP2 (eTup eInt) (eTup eInt))).rep F v0 i) eBool (fun (i : (List ((List Int) × (List Int)))) => m_law_pairs_hold i))) (D_law_rows_hold : Def P w K mg base 11 "_law_rows_hold" ["rows"] (spW 1 (fun F vs (i : (List ((List Int) × (List Int) × (List Str)))) => ∃ v0, vs = [v0] ∧ (eLst (eP3 (eTup eInt) (eTup eInt) (eTup eStr))).rep F v0 i) eBool (fun (i : (List ((List Int) × (List Int) × (List Str)))) => m_law_rows_hold i))) (D_law_both_hold : Def P w K mg base 11 "_law_both_hold" ["form"] (spW 1 (fun F vs (i : Str) => ∃ v0, vs = [v0] ∧ eStr.rep F v0 i) eBool (fun (i : Str) => m_law_both_hold i))) (D_law_take : Def P w K mg base 1 "_law_take" ["box", "many"] (spWb BxW 1 (fun F vs (i : Int) => ∃ v0, vs = [v0] ∧ eInt.rep F v0 i) eInt (fun (i : Int) => m_law_take i))) (D_law_pairs_line : Def P w K mg base 2 "_law_pairs_line" ["rows"] (spW 1 (fun F vs (i : (List ((List Int) × (List Int)))) => ∃ v0, vs = [v0] ∧ (eLst (eP2 (eTup eInt) (eTup eInt))).rep F v0 i) eStr (fun (i : (List ((List Int) × (List Int)))) => m_law_pairs_line i))) (D_law_rows_line : Def P w K mg base 2 "_law_rows_line" ["rows"] (spW 1 (fun F vs (i : (List ((List Int) × (List Int) × (List Str)))) => ∃ v0, vs = [v0] ∧ (eLst (eP3 (eTup eInt) (eTup eInt) (eTup eStr))).rep F v0 i) eStr (fun (i : (List ((List Int) × (List Int) × (List Str)))) => m_law_rows_line i))) (D_law_menu_holds : Def P w K mg base 12 "_law_menu_holds" ["box"] (spWb BxW 0 (fun F vs (i : Unit) => vs = []) eBool (fun (i : Unit) => m_law_menu_holds))) (D_law_spoiled : Def P w K mg base 4 "_law_spoiled" ["box", "form"] (spWb BxW 1 (fun F vs (i : Str) => ∃ v0, vs = [v0] ∧ eStr.rep F v0 i) eStr (fun (i : Str) => m_law_spoiled i))) :
    FnOk P w K mg base CX0 13 f fd ["script"] (spLaw K) := by
  refine F.ok sc_law (by first | exact NF.hl_spB | exact NF.hl_spP | exact NF.hl_spNew | exact NF.hl_spPX | exact NF.hl_spN | exact NF.hl_spNX | exact NF.hl_spW | exact NF.hl_spWb | exact NF.hl_spWX | exact hl_spLaw) (fun cdv A outer s H vs Q E hr h => ?_)
  refine ⟨_, (pss_cons (ps_set (i := 1) sc_law.nd rfl (Or.inl rfl) (pe_d D_law_drawn_pairs (hr.mono (by decide)) rfl (pa_cons (pe_d D_law_box (hr.mono (by decide)) rfl (pa_cons (pv 0) (pa_cons pe_int pa_nil))) pa_nil)))
      (pss_cons (ps_set (i := 2) sc_law.nd rfl (Or.inl rfl) (pe_d D_law_drawn_rows (hr.mono (by decide)) rfl (pa_cons (pe_d D_law_box (hr.mono (by decide)) rfl (pa_cons (pv 0) (pa_cons pe_int pa_nil))) pa_nil)))
      (pss_cons (ps_if (PW.pt (pw_or (pt_not (pt_val (pe_d D_law_pairs_hold (hr.mono (by decide)) rfl (pa_cons (pv 1) pa_nil)))) (pw_or1 (pt_not (pt_val (pe_d D_law_rows_hold (hr.mono (by decide)) rfl (pa_cons (pv 2) pa_nil)))))))
      (pss_one (ps_ret pe_bl))
      pss_nil)
      (pss_cons (ps_if (PW.pt (pw_or (pt_not (pt_val (pe_d D_law_both_hold (hr.mono (by decide)) rfl (pa_cons (pe_d D_law_pairs_line (hr.mono (by decide)) rfl (pa_cons (pv 1) pa_nil)) pa_nil)))) (pw_or1 (pt_not (pt_val (pe_d D_law_both_hold (hr.mono (by decide)) rfl (pa_cons (pe_d D_law_rows_line (hr.mono (by decide)) rfl (pa_cons (pv 2) pa_nil)) pa_nil)))))))
      (pss_one (ps_ret pe_bl))
      pss_nil)
      (pss_cons (ps_for PassesOwn.never rfl (pi_range2 (by rfl) T.b_range (pa_cons pe_int (pa_cons (pe_callB (id := "max") (callMax2 rfl) (by rfl) T.b_max (by decide +kernel) (pa_cons pe_int (pa_cons (pe_callB (id := "min") (callMin2 rfl) (by rfl) T.b_min (by decide +kernel) (pa_cons (pe_callB (id := "len") callLen (by rfl) T.b_len (by decide +kernel) (pa_cons (pv 0) pa_nil)) (pa_cons pe_int pa_nil))) pa_nil))) pa_nil))) (pg_name (i := 3) sc_law.nd rfl (Or.inl rfl))
      (pss_cons (ps_set (i := 4) sc_law.nd rfl (Or.inl rfl) (pe_d D_law_box (hr.mono (by decide)) rfl (pa_cons (pv 0) (pa_cons (pv 3) pa_nil))))
      (pss_cons (ps_set (i := 5) sc_law.nd rfl (Or.inl rfl) (pe_ix ix_list (pe_lst (pa_cons (pe_d D_law_pairs_line (hr.mono (by decide)) rfl (pa_cons (pe_slice sl_list (pv 1) po_none (po_some pe_int)) pa_nil)) (pa_cons (pe_d D_law_rows_line (hr.mono (by decide)) rfl (pa_cons (pe_slice sl_list (pv 2) po_none (po_some pe_int)) pa_nil)) pa_nil))) (pe_d D_law_take (hr.mono (by decide)) rfl (pa_cons (pv 4) (pa_cons pe_int pa_nil))) (fun _ _ => rfl)))
      (pss_one (ps_if (PW.pt (pw_or (pt_not (pt_val (pe_d D_law_both_hold (hr.mono (by decide)) rfl (pa_cons (pe_d D_law_spoiled (hr.mono (by decide)) rfl (pa_cons (pv 4) (pa_cons (pv 5) pa_nil))) pa_nil)))) (pw_or1 (pt_not (pt_val (pe_d D_law_menu_holds (hr.mono (by decide)) rfl (pa_cons (pv 4) pa_nil)))))))
      (pss_one (ps_ret pe_bl))
      pss_nil)))))
      (pss_one (ps_ret pe_bl))))))), ?_⟩
  try dsimp only [cxOf, Cx.nox, Cx.wish]
  obtain ⟨sa, ns, rfl, hS, hns, k⟩ := h
  have O := NF.Fz.start (H := H) (F := H) Le.rfl
  walk_at "gn"
  refine ⟨sa, ns, 0, rfl, hS, by decide, fun p bx H1 l hp hp' hb => ?_⟩
  have O := O.newB l hp hp'
  walk_at "gn"
  refine NF.use_spWb (i := ()) O 0 rfl hb rfl rfl (drawn_pairs_ok (K := PairsOk) fun l h => h) (fun rows vr F H1 bx hb l0 O hr hP => ?_)
  have O : Fz H F H1 [] := O.sub (.cons _ .slnil)
  walk_at "gn"
  refine ⟨sa, ns, 1, rfl, sqL_le O.leB hS, by decide, fun p bx H1 l hp hp' hb => ?_⟩
  have O := O.newB l hp hp'
  walk_at "gn"
  refine NF.use_spWb (i := ()) O 0 rfl hb rfl rfl (drawn_rows_ok (K := RowsOk) fun l h => h) (fun others vo F H1 bx hb l0 O ho hR => ?_)
  have O : Fz H F H1 [] := O.sub (.cons _ .slnil)
  have hr := Enc.mono _ l0.le hr
  walk_at "gw"
  refine NF.use_spW (i := rows) O rfl ⟨_, rfl, hr⟩ (pairs_hold_ok hP (K := fun b => b = true) rfl) (fun y v F H1 l0 O hv hy => ?_)
  subst hy
  cases hv
  have hr := Enc.mono _ l0.le hr
  have ho := Enc.mono _ l0.le ho
  refine ⟨true, rfl, NF.x_itb (fun h => nomatch h) (fun _ => ?_)⟩
  walk_at "gw"
  refine NF.use_spW (i := others) O rfl ⟨_, rfl, ho⟩ (rows_hold_ok hR (K := fun b => b = true) rfl) (fun y v F H1 l0 O hv hy => ?_)
  subst hy
  cases hv
  have hr := Enc.mono _ l0.le hr
  have ho := Enc.mono _ l0.le ho
  refine ⟨true, rfl, NF.x_itb (fun h => nomatch h) (fun _ => ?_)⟩
  have hl1 := pairs_len hP hP.1
  have hl2 := rows_len hR hR.1
  walk_at "gw"
  refine NF.use_spW (i := rows) O rfl ⟨_, rfl, hr⟩ (pairs_line_ok hP.p (by omega) (K := fun z => z.length ≤ 4000000) (by omega)) (fun y v F H1 l0 O hv hy => ?_)
  cases hv
  have hr := Enc.mono _ l0.le hr
  have ho := Enc.mono _ l0.le ho
  walk_at "gw"
  refine NF.use_spW (i := y) O rfl ⟨_, rfl, rfl⟩ (both_hold_ok hy (K := fun b => b = true) rfl) (fun y v F H1 l0 O hv hy => ?_)
  subst hy
  cases hv
  have hr := Enc.mono _ l0.le hr
  have ho := Enc.mono _ l0.le ho
  refine ⟨true, rfl, NF.x_itb (fun h => nomatch h) (fun _ => ?_)⟩
  walk_at "gw"
  refine NF.use_spW (i := others) O rfl ⟨_, rfl, ho⟩ (rows_line_ok hR.p (by omega) (K := fun z => z.length ≤ 4000000) (by omega)) (fun y v F H1 l0 O hv hy => ?_)
  cases hv
  have hr := Enc.mono _ l0.le hr
  have ho := Enc.mono _ l0.le ho
  walk_at "gw"
  refine NF.use_spW (i := y) O rfl ⟨_, rfl, rfl⟩ (both_hold_ok hy (K := fun b => b = true) rfl) (fun y v F H1 l0 O hv hy => ?_)
  subst hy
  cases hv
  have hr := Enc.mono _ l0.le hr
  have ho := Enc.mono _ l0.le ho
  refine ⟨true, rfl, NF.x_itb (fun h => nomatch h) (fun _ => ?_)⟩
  walk_at "gw"
  refine NF.x_lenSqL (sqL_le O.leB hS) ?_
  walk_at "gw"
  rw [List.length_map]
  obtain ⟨n, hn, hn2⟩ : ∃ n : Int, (if (if (11 : Int) < (ns.length : Int) then (11 : Int) else (ns.length : Int)) > 5 then (if (11 : Int) < (ns.length : Int) then (11 : Int) else (ns.length : Int)) else 5) = n ∧ 5 ≤ n ∧ n ≤ 11 := ⟨_, rfl, by split <;> split <;> omega, by split <;> split <;> omega⟩
  rw [hn]
  have kk : forW (fun (x : Int) (_ : Unit) => (fun K => 0 ≤ x ∧ K (.nx ()) : W (Ctl Unit Unit))) (fun _ => True) (fun _ => True) (rngT 2 n) () := by
    refine forW_go (fun r _ => ∀ x ∈ r, 0 ≤ x) (fun x r s Kn h hk => ⟨h x List.mem_cons_self, hk _ fun y hy => h y (List.mem_cons_of_mem _ hy)⟩) (fun _ _ => trivial) _ _ fun x hx => ?_
    unfold rngT at hx
    obtain ⟨m, _, rfl⟩ := List.mem_map.mp hx
    omega
  refine NF.y_jR2 (F := F) (by omega) (by omega) (fun J T => NF.y_for (σt := Unit) (fun (_s : Unit) (σ : L2.St) (F : Hp) (R : List (Addr × HO)) => ∃ u3 u4 u5 : Option V, σ = [some (.ref sa), some vr, some vo, u3, u4, u5] ∧ R = []) T O kk ⟨_, _, _, rfl, rfl⟩ ?_ ?_)
  · rintro x r _ _ F0 F _ H1 v lp ⟨u3, u4, u5, rfl, rfl⟩ l1 O hv ⟨hx, kn⟩
    have lp := Ex.trans lp l1
    have hr := Enc.mono _ lp.le hr
    have ho := Enc.mono _ lp.le ho
    cases hv
    walk_at "gn"
    refine ⟨sa, ns, x, rfl, sqL_le O.leB hS, hx, fun p bx H1 l hp hp' hb => ?_⟩
    have O := O.newB l hp hp'
    walk_at "gn"
    refine NF.y_slLF O hr (fun p1 F H1 h1 l0 O => ?_)
    have lp := Ex.trans lp l0
    have ho := Enc.mono _ l0.le ho
    obtain ⟨c1, c2⟩ := cut4 rows
    have hP4 : PairsOk (cutT rows none (some 4)) := ⟨by omega, fun p hp => hP.2 p (c2 p hp)⟩
    have hl4 := pairs_len hP4 c1
    walk_at "gn"
    refine NF.use_spW (i := cutT rows none (some 4)) O rfl ⟨_, rfl, h1⟩ (pairs_line_ok hP4.p (by omega) (K := fun z => z.length ≤ 10000) (by omega)) (fun y1 v F H1 l0 O hv hy1 => ?_)
    cases hv
    have lp := Ex.trans lp l0
    have ho := Enc.mono _ l0.le ho
    walk_at "gn"
    refine NF.y_slLF O ho (fun p2 F H1 h2 l0 O => ?_)
    have lp := Ex.trans lp l0
    obtain ⟨c3, c4⟩ := cut4 others
    have hR4 : RowsOk (cutT others none (some 4)) := ⟨by omega, fun p hp => hR.2 p (c4 p hp)⟩
    have hl5 := rows_len hR4 c3
    walk_at "gn"
    refine NF.use_spW (i := cutT others none (some 4)) O rfl ⟨_, rfl, h2⟩ (rows_line_ok hR4.p (by omega) (K := fun z => z.length ≤ 10000) (by omega)) (fun y2 v F H1 l0 O hv hy2 => ?_)
    cases hv
    have lp := Ex.trans lp l0
    walk_at "gn"
    refine NF.y_lstF O (show 2 ≤ sizeLine by decide) (fun p3 F H1 h3 l0 O => ?_)
    have lp := Ex.trans lp l0
    have h3 : (eLst eStr).rep F (.ref p3) [y1, y2] := ⟨_, _, rfl, h3, .cons rfl (.cons rfl .nil)⟩
    walk_at "gn"
    refine NF.use_spWb (i := 2) O 0 rfl hb rfl ⟨_, rfl, rfl⟩ (take_ok (by decide) (by decide) (K := fun d => 0 ≤ d ∧ d < 2) fun d d0 d1 => ⟨d0, d1⟩) (fun d v F H1 bx hb l0 O hv hd => ?_)
    cases hv
    have lp := Ex.trans lp l0
    have h3 := Enc.mono _ l0.le h3
    walk_at "gn"
    obtain ⟨z, hz, _, hm⟩ := at_lt (l := [y1, y2]) hd.1 (by exact hd.2)
    have hzl : z.length ≤ 10000 := by
      simp only [List.mem_cons, List.not_mem_nil, or_false] at hm
      rcases hm with rfl | rfl <;> assumption
    refine NF.y_ixL O.leF h3 hz (fun u hu => ?_)
    cases hu
    walk_at "gw"
    refine NF.use_spWb (i := z) O 0 rfl hb rfl ⟨_, rfl, rfl⟩ (spoiled_ok hzl (K := fun t => t.length ≤ 100000) fun t h => h) (fun t v F H1 bx hb l0 O hv ht => ?_)
    cases hv
    have lp := Ex.trans lp l0
    walk_at "gw"
    refine NF.use_spW (i := t) O rfl ⟨_, rfl, rfl⟩ (both_hold_ok (by omega) (K := fun b => b = true) rfl) (fun y v F H1 l0 O hv hy => ?_)
    subst hy
    cases hv
    have lp := Ex.trans lp l0
    refine ⟨true, rfl, NF.x_itb (fun h => nomatch h) (fun _ => ?_)⟩
    walk_at "gw"
    refine NF.use_spWb (i := ()) O 0 rfl hb rfl rfl (menu_holds_ok (K := fun b => b = true) rfl) (fun y v F H1 bx hb l0 O hv hy => ?_)
    subst hy
    cases hv
    have lp := Ex.trans lp l0
    refine ⟨true, rfl, NF.x_itb (fun h => nomatch h) (fun _ => ?_)⟩
    walk_at "gw"
    exact ⟨(), _, _, lp, O.sub (.cons _ .slnil), ⟨_, _, _, rfl, rfl⟩, kn⟩
  · rintro _ _ F _ H1 l0 O ⟨u3, u4, u5, rfl, rfl⟩ _
    walk_at "gw"
    exact k _


end
theorem all_mk {l : PySem.W.OpenLaw} {w : World} {K : PySem.W.Frag} {h : Heap} {mg : Str → Option Value} {fa : Addr} {c_BadForm c_LimitError c_NestError c_NotNested c__pair_of c__row_of c__state_of c_letters_of c_whole_number : Addr} (X : K.In h) (G : h.Ns mainGlobals mg) (hfa : mg "law" = some (.ref fa))
    (h_law_take : Has K "_law_take" s_law_take)
    (h_law_drawn_number : Has K "_law_drawn_number" s_law_drawn_number)
    (h_law_state : Has K "_law_state" s_law_state)
    (h_law_drawn_pairs : Has K "_law_drawn_pairs" s_law_drawn_pairs)
    (h_law_string : Has K "_law_string" s_law_string)
    (h_law_drawn_rows : Has K "_law_drawn_rows" s_law_drawn_rows)
    (h_law_box : Has K "_law_box" s_law_box)
    (h_law_state_line : Has K "_law_state_line" s_law_state_line)
    (h_law_pairs_line : Has K "_law_pairs_line" s_law_pairs_line)
    (h_whole_number : Has K "whole_number" s_whole_number)
    (h_all_readN : Has K "all_read" s_all_readN)
    (h_state_of : Has K "_state_of" s_state_of)
    (h_all_readS : Has K "all_read" s_all_readS)
    (h_pair_of : Has K "_pair_of" s_pair_of)
    (h_all_readP : Has K "all_read" s_all_readP)
    (h_paper_ofP : Has K "_paper_of" s_paper_ofP)
    (h_read_pairs : Has K "read_pairs" s_read_pairs)
    (h_law_told_pairs : Has K "_law_told_pairs" s_law_told_pairs)
    (h_law_sameP : Has K "_law_same" s_law_sameP)
    (h_paper_form : Has K "_paper_form" s_paper_form)
    (h_state_form : Has K "_state_form" s_state_form)
    (h_write_pairsT : Has K "write_pairs" s_write_pairsT)
    (h_law_pairs_asked : Has K "_law_pairs_asked" s_law_pairs_asked)
    (h_write_pairsL : Has K "write_pairs" s_write_pairsL)
    (h_law_pairs_hold : Has K "_law_pairs_hold" s_law_pairs_hold)
    (h_law_letters_line : Has K "_law_letters_line" s_law_letters_line)
    (h_law_rows_line : Has K "_law_rows_line" s_law_rows_line)
    (h_is_letters : Has K "is_letters" s_is_letters)
    (h_letters_of : Has K "letters_of" s_letters_of)
    (h_all_readL : Has K "all_read" s_all_readL)
    (h_row_of : Has K "_row_of" s_row_of)
    (h_all_readR : Has K "all_read" s_all_readR)
    (h_paper_ofR : Has K "_paper_of" s_paper_ofR)
    (h_read_rows : Has K "read_rows" s_read_rows)
    (h_law_told_rows : Has K "_law_told_rows" s_law_told_rows)
    (h_law_sameR : Has K "_law_same" s_law_sameR)
    (h_write_letters : Has K "write_letters" s_write_letters)
    (h_row_form : Has K "_row_form" s_row_form)
    (h_write_rowsT : Has K "write_rows" s_write_rowsT)
    (h_law_rows_asked : Has K "_law_rows_asked" s_law_rows_asked)
    (h_write_rowsL : Has K "write_rows" s_write_rowsL)
    (h_law_rows_hold : Has K "_law_rows_hold" s_law_rows_hold)
    (h_law_number_of : Has K "_law_number_of" s_law_number_of)
    (h_law_state_of : Has K "_law_state_of" s_law_state_of)
    (h_law_letters_of : Has K "_law_letters_of" s_law_letters_of)
    (h_law_strings_of : Has K "_law_strings_of" s_law_strings_of)
    (h_law_rows_of : Has K "_law_rows_of" s_law_rows_of)
    (h_law_pairs_of : Has K "_law_pairs_of" s_law_pairs_of)
    (h_law_both_hold : Has K "_law_both_hold" s_law_both_hold)
    (h_law_menu_holds : Has K "_law_menu_holds" s_law_menu_holds)
    (h_law_runs : Has K "_law_runs" s_law_runs)
    (h_law_end_spoiled : Has K "_law_end_spoiled" s_law_end_spoiled)
    (h_law_number_spoiled : Has K "_law_number_spoiled" s_law_number_spoiled)
    (h_law_sign_spoiled : Has K "_law_sign_spoiled" s_law_sign_spoiled)
    (h_law_piece_spoiled : Has K "_law_piece_spoiled" s_law_piece_spoiled)
    (h_law_spoiled : Has K "_law_spoiled" s_law_spoiled)
    (h_law : Has K "law" s_law)
    (z_abs : PySem.W.nsIn K mainGlobals "abs" = some none)
    (z_all : PySem.W.nsIn K mainGlobals "all" = some none)
    (z_bool : PySem.W.nsIn K mainGlobals "bool" = some none)
    (z_int : PySem.W.nsIn K mainGlobals "int" = some none)
    (z_isinstance : PySem.W.nsIn K mainGlobals "isinstance" = some none)
    (z_len : PySem.W.nsIn K mainGlobals "len" = some none)
    (z_list : PySem.W.nsIn K mainGlobals "list" = some none)
    (z_max : PySem.W.nsIn K mainGlobals "max" = some none)
    (z_min : PySem.W.nsIn K mainGlobals "min" = some none)
    (z_range : PySem.W.nsIn K mainGlobals "range" = some none)
    (z_str : PySem.W.nsIn K mainGlobals "str" = some none)
    (z_sum : PySem.W.nsIn K mainGlobals "sum" = some none)
    (z_super : PySem.W.nsIn K mainGlobals "super" = some none)
    (z_tuple : PySem.W.nsIn K mainGlobals "tuple" = some none)
    (y_EMPTY : HasC K "EMPTY" (.str "."))
    (y_MOST_DIGITS : HasC K "MOST_DIGITS" (.int 9))
    (y_NAMES : HasC K "NAMES" (.str "abcdefgh"))
    (y_CLOSINGS : HasC K "_CLOSINGS" (.str "ABCDEFGH"))
    (y_DIGITS : HasC K "_DIGITS" (.str "0123456789"))
    (n_BadForm : PySem.W.nsIn K mainGlobals "BadForm" = some (some (.ref c_BadForm)))
    (n_LimitError : PySem.W.nsIn K mainGlobals "LimitError" = some (some (.ref c_LimitError)))
    (n_NestError : PySem.W.nsIn K mainGlobals "NestError" = some (some (.ref c_NestError)))
    (n_NotNested : PySem.W.nsIn K mainGlobals "NotNested" = some (some (.ref c_NotNested)))
    (n__pair_of : PySem.W.nsIn K mainGlobals "_pair_of" = some (some (.ref c__pair_of)))
    (n__row_of : PySem.W.nsIn K mainGlobals "_row_of" = some (some (.ref c__row_of)))
    (n__state_of : PySem.W.nsIn K mainGlobals "_state_of" = some (some (.ref c__state_of)))
    (n_letters_of : PySem.W.nsIn K mainGlobals "letters_of" = some (some (.ref c_letters_of)))
    (n_whole_number : PySem.W.nsIn K mainGlobals "whole_number" = some (some (.ref c_whole_number)))
    (x_BadForm : XRaw0 l.prog K c_BadForm)
    (p_BadForm_BadForm : XPair K (.ref c_BadForm) (.ref c_BadForm) true)
    (p_BadForm_LimitError : XPair K (.ref c_BadForm) (.ref c_LimitError) false)
    (p_BadForm_NestError : XPair K (.ref c_BadForm) (.ref c_NestError) true)
    (p_BadForm_NotNested : XPair K (.ref c_BadForm) (.ref c_NotNested) false)
    : ∃ fd : FuncData, (∀ (s : Shared) (v : Value), BindsTo s fd ⟨[v], []⟩ [("script", v)]) ∧ ∀ base : Heap, K.In base → base.Ns mainGlobals mg → FnOk l.prog w K mg base CX0 13 fa fd ["script"] (spLaw K) := by
  have T : Txt l.prog K mg := ⟨PySem.W.mg_none_of X G z_abs, PySem.W.mg_none_of X G z_all, PySem.W.mg_none_of X G z_bool, PySem.W.mg_none_of X G z_int, PySem.W.mg_none_of X G z_isinstance, PySem.W.mg_none_of X G z_len, PySem.W.mg_none_of X G z_list, PySem.W.mg_none_of X G z_max, PySem.W.mg_none_of X G z_min, PySem.W.mg_none_of X G z_range, PySem.W.mg_none_of X G z_str, PySem.W.mg_none_of X G z_sum, PySem.W.mg_none_of X G z_tuple, y_EMPTY.mg X G, y_MOST_DIGITS.mg X G, y_NAMES.mg X G, y_CLOSINGS.mg X G, y_DIGITS.mg X G, cls_mk X G n_BadForm, cls_mk X G n_LimitError, cls_mk X G n_NestError, cls_mk X G n_NotNested, cls_mk X G n__pair_of, cls_mk X G n__row_of, cls_mk X G n__state_of, cls_mk X G n_letters_of, cls_mk X G n_whole_number, x_BadForm.fact X G n_BadForm (PySem.W.mg_none_of X G z_super), pair_mk X G n_BadForm n_BadForm p_BadForm_BadForm, pair_mk X G n_BadForm n_LimitError p_BadForm_LimitError, pair_mk X G n_BadForm n_NestError p_BadForm_NestError, pair_mk X G n_BadForm n_NotNested p_BadForm_NotNested⟩
  refine law_end X G hfa h_law (fun _ _ _ _ _ _ s v => .of_eq rfl) fun base fd F => ?_
  have D_law_take := d_law_take (P := l.prog) (w := w) (base := base) (h_law_take.fn X G) T 
  have D_law_drawn_number := d_law_drawn_number (P := l.prog) (w := w) (base := base) (h_law_drawn_number.fn X G) T D_law_take
  have D_law_state := d_law_state (P := l.prog) (w := w) (base := base) (h_law_state.fn X G) T D_law_take D_law_drawn_number
  have D_law_drawn_pairs := d_law_drawn_pairs (P := l.prog) (w := w) (base := base) (h_law_drawn_pairs.fn X G) T D_law_take D_law_state
  have D_law_string := d_law_string (P := l.prog) (w := w) (base := base) (h_law_string.fn X G) T D_law_take
  have D_law_drawn_rows := d_law_drawn_rows (P := l.prog) (w := w) (base := base) (h_law_drawn_rows.fn X G) T D_law_take D_law_state D_law_string
  have D_law_box := d_law_box (P := l.prog) (w := w) (base := base) (h_law_box.fn X G) T 
  have D_law_state_line := d_law_state_line (P := l.prog) (w := w) (base := base) (h_law_state_line.fn X G) T 
  have D_law_pairs_line := d_law_pairs_line (P := l.prog) (w := w) (base := base) (h_law_pairs_line.fn X G) T D_law_state_line
  have D_whole_number := d_whole_number (P := l.prog) (w := w) (base := base) (h_whole_number.fn X G) T 
  have D_all_readN := d_all_readN (P := l.prog) (w := w) (base := base) (h_all_readN.fn X G) T D_whole_number
  have D_state_of := d_state_of (P := l.prog) (w := w) (base := base) (h_state_of.fn X G) T D_all_readN
  have D_all_readS := d_all_readS (P := l.prog) (w := w) (base := base) (h_all_readS.fn X G) T D_state_of
  have D_pair_of := d_pair_of (P := l.prog) (w := w) (base := base) (h_pair_of.fn X G) T D_all_readS
  have D_all_readP := d_all_readP (P := l.prog) (w := w) (base := base) (h_all_readP.fn X G) T D_pair_of
  have D_paper_ofP := d_paper_ofP (P := l.prog) (w := w) (base := base) (h_paper_ofP.fn X G) T D_all_readP
  have D_read_pairs := d_read_pairs (P := l.prog) (w := w) (base := base) (h_read_pairs.fn X G) T D_paper_ofP
  have D_law_told_pairs := d_law_told_pairs (P := l.prog) (w := w) (base := base) (h_law_told_pairs.fn X G) T D_read_pairs
  have D_law_sameP := d_law_sameP (P := l.prog) (w := w) (base := base) (h_law_sameP.fn X G) T 
  have D_paper_form := d_paper_form (P := l.prog) (w := w) (base := base) (h_paper_form.fn X G) T 
  have D_state_form := d_state_form (P := l.prog) (w := w) (base := base) (h_state_form.fn X G) T 
  have D_write_pairsT := d_write_pairsT (P := l.prog) (w := w) (base := base) (h_write_pairsT.fn X G) T D_paper_form D_state_form
  have D_law_pairs_asked := d_law_pairs_asked (P := l.prog) (w := w) (base := base) (h_law_pairs_asked.fn X G) T D_law_told_pairs D_law_sameP D_write_pairsT
  have D_write_pairsL := d_write_pairsL (P := l.prog) (w := w) (base := base) (h_write_pairsL.fn X G) T D_paper_form D_state_form
  have D_law_pairs_hold := d_law_pairs_hold (P := l.prog) (w := w) (base := base) (h_law_pairs_hold.fn X G) T D_law_pairs_line D_law_pairs_asked D_write_pairsT D_write_pairsL
  have D_law_letters_line := d_law_letters_line (P := l.prog) (w := w) (base := base) (h_law_letters_line.fn X G) T 
  have D_law_rows_line := d_law_rows_line (P := l.prog) (w := w) (base := base) (h_law_rows_line.fn X G) T D_law_letters_line D_law_state_line
  have D_is_letters := d_is_letters (P := l.prog) (w := w) (base := base) (h_is_letters.fn X G) T 
  have D_letters_of := d_letters_of (P := l.prog) (w := w) (base := base) (h_letters_of.fn X G) T D_is_letters
  have D_all_readL := d_all_readL (P := l.prog) (w := w) (base := base) (h_all_readL.fn X G) T D_letters_of
  have D_row_of := d_row_of (P := l.prog) (w := w) (base := base) (h_row_of.fn X G) T D_all_readS D_all_readL
  have D_all_readR := d_all_readR (P := l.prog) (w := w) (base := base) (h_all_readR.fn X G) T D_row_of
  have D_paper_ofR := d_paper_ofR (P := l.prog) (w := w) (base := base) (h_paper_ofR.fn X G) T D_all_readR
  have D_read_rows := d_read_rows (P := l.prog) (w := w) (base := base) (h_read_rows.fn X G) T D_paper_ofR
  have D_law_told_rows := d_law_told_rows (P := l.prog) (w := w) (base := base) (h_law_told_rows.fn X G) T D_read_rows
  have D_law_sameR := d_law_sameR (P := l.prog) (w := w) (base := base) (h_law_sameR.fn X G) T 
  have D_write_letters := d_write_letters (P := l.prog) (w := w) (base := base) (h_write_letters.fn X G) T 
  have D_row_form := d_row_form (P := l.prog) (w := w) (base := base) (h_row_form.fn X G) T D_write_letters D_state_form
  have D_write_rowsT := d_write_rowsT (P := l.prog) (w := w) (base := base) (h_write_rowsT.fn X G) T D_paper_form D_row_form
  have D_law_rows_asked := d_law_rows_asked (P := l.prog) (w := w) (base := base) (h_law_rows_asked.fn X G) T D_law_told_rows D_law_sameR D_write_rowsT
  have D_write_rowsL := d_write_rowsL (P := l.prog) (w := w) (base := base) (h_write_rowsL.fn X G) T D_paper_form D_row_form
  have D_law_rows_hold := d_law_rows_hold (P := l.prog) (w := w) (base := base) (h_law_rows_hold.fn X G) T D_law_rows_line D_law_rows_asked D_write_rowsT D_write_rowsL
  have D_law_number_of := d_law_number_of (P := l.prog) (w := w) (base := base) (h_law_number_of.fn X G) T 
  have D_law_state_of := d_law_state_of (P := l.prog) (w := w) (base := base) (h_law_state_of.fn X G) T D_law_number_of
  have D_law_letters_of := d_law_letters_of (P := l.prog) (w := w) (base := base) (h_law_letters_of.fn X G) T 
  have D_law_strings_of := d_law_strings_of (P := l.prog) (w := w) (base := base) (h_law_strings_of.fn X G) T D_law_letters_of
  have D_law_rows_of := d_law_rows_of (P := l.prog) (w := w) (base := base) (h_law_rows_of.fn X G) T D_law_state_of D_law_strings_of
  have D_law_pairs_of := d_law_pairs_of (P := l.prog) (w := w) (base := base) (h_law_pairs_of.fn X G) T D_law_state_of
  have D_law_both_hold := d_law_both_hold (P := l.prog) (w := w) (base := base) (h_law_both_hold.fn X G) T D_law_rows_asked D_law_pairs_asked D_law_rows_of D_law_pairs_of
  have D_law_menu_holds := d_law_menu_holds (P := l.prog) (w := w) (base := base) (h_law_menu_holds.fn X G) T D_law_both_hold D_law_take
  have D_law_runs := d_law_runs (P := l.prog) (w := w) (base := base) (h_law_runs.fn X G) T 
  have D_law_end_spoiled := d_law_end_spoiled (P := l.prog) (w := w) (base := base) (h_law_end_spoiled.fn X G) T D_law_take
  have D_law_number_spoiled := d_law_number_spoiled (P := l.prog) (w := w) (base := base) (h_law_number_spoiled.fn X G) T D_law_runs D_law_end_spoiled D_law_take
  have D_law_sign_spoiled := d_law_sign_spoiled (P := l.prog) (w := w) (base := base) (h_law_sign_spoiled.fn X G) T D_law_take
  have D_law_piece_spoiled := d_law_piece_spoiled (P := l.prog) (w := w) (base := base) (h_law_piece_spoiled.fn X G) T D_law_take
  have D_law_spoiled := d_law_spoiled (P := l.prog) (w := w) (base := base) (h_law_spoiled.fn X G) T D_law_take D_law_number_spoiled D_law_sign_spoiled D_law_piece_spoiled
  exact d_law F T D_law_drawn_pairs D_law_drawn_rows D_law_box D_law_pairs_hold D_law_rows_hold D_law_both_hold D_law_take D_law_pairs_line D_law_rows_line D_law_menu_holds D_law_spoiled
theorem walk {l : PySem.W.OpenLaw} {q : Program} {loose : List Str} {XP : (Str → Option Value) → Heap → Prop} {YP : World → Heap → Prop} {d : DefRec} {K : Params → PySem.W.Frag} (hn : l.most = some 63) (hdf : d.params.defaults = [])
    (hY : ∀ (w : World) (h : Heap), YP w h → (K w.params).In h)
    (F : ∀ (w : World) (mg : Str → Option Value) (fa : Addr) (h : Heap), (K w.params).In h → h.Ns mainGlobals mg → mg d.name = some (.ref fa) →
      ∃ fd : FuncData, (∀ (s : Shared) (u : Value), BindsTo s fd ⟨[u], []⟩ [("script", u)]) ∧ ∀ base : Heap, (K w.params).In base → base.Ns mainGlobals mg → FnOk l.prog w (K w.params) mg base CX0 13 fa fd ["script"] (spLaw (K w.params))) :
    PySem.W.WalkO q loose XP YP l.row.toRowW d [] (fun f vs => PySem.call f vs) :=
  L2.walk_of (n := 63) (k := 13) (x := "script") (CX := fun _ => CX0) (sp := fun w => spLaw (K w.params)) hn (by decide) hdf ⟨rfl, by decide, by decide⟩ hY F (fun _ _ a ns hl _ hS => ⟨a, ns, rfl, hS, hl, fun _ => rfl⟩) fun _ _ _ _ _ z => z
end NF
open PySem PySem.W PyProof.Rows in
set_option maxRecDepth 100000 in
set_option maxHeartbeats 0 in
theorem PySem.Challenge.cw_nestform_k38_paper_forms_holds : PySem.Challenge.rw_nestform_k38_paper_forms.Holds := by
  w_on; o_law; k_head; (case hw => w_witness2)
  k_fill
  refine NF.walk (l := PySem.Challenge.rw_nestform_k38_paper_forms) rfl rfl (fun w h Y => PySem.W.kIn_of Y) ?F
  case F =>
    intro w mg fa h KX G hmg
    refine' NF.all_mk KX G hmg (NF.has_mk ?n0 ?l0 ?c0 ?k0) (NF.has_mk ?n1 ?l1 ?c1 ?k1) (NF.has_mk ?n2 ?l2 ?c2 ?k2) (NF.has_mk ?n3 ?l3 ?c3 ?k3) (NF.has_mk ?n4 ?l4 ?c4 ?k4) (NF.has_mk ?n5 ?l5 ?c5 ?k5) (NF.has_mk ?n6 ?l6 ?c6 ?k6) (NF.has_mk ?n7 ?l7 ?c7 ?k7) (NF.has_mk ?n8 ?l8 ?c8 ?k8) (NF.has_mk ?n9 ?l9 ?c9 ?k9) (NF.has_mk ?n10 ?l10 ?c10 ?k10) (NF.has_mk ?n11 ?l11 ?c11 ?k11) (NF.has_mk ?n12 ?l12 ?c12 ?k12) (NF.has_mk ?n13 ?l13 ?c13 ?k13) (NF.has_mk ?n14 ?l14 ?c14 ?k14) (NF.has_mk ?n15 ?l15 ?c15 ?k15) (NF.has_mk ?n16 ?l16 ?c16 ?k16) (NF.has_mk ?n17 ?l17 ?c17 ?k17) (NF.has_mk ?n18 ?l18 ?c18 ?k18) (NF.has_mk ?n19 ?l19 ?c19 ?k19) (NF.has_mk ?n20 ?l20 ?c20 ?k20) (NF.has_mk ?n21 ?l21 ?c21 ?k21) (NF.has_mk ?n22 ?l22 ?c22 ?k22) (NF.has_mk ?n23 ?l23 ?c23 ?k23) (NF.has_mk ?n24 ?l24 ?c24 ?k24) (NF.has_mk ?n25 ?l25 ?c25 ?k25) (NF.has_mk ?n26 ?l26 ?c26 ?k26) (NF.has_mk ?n27 ?l27 ?c27 ?k27) (NF.has_mk ?n28 ?l28 ?c28 ?k28) (NF.has_mk ?n29 ?l29 ?c29 ?k29) (NF.has_mk ?n30 ?l30 ?c30 ?k30) (NF.has_mk ?n31 ?l31 ?c31 ?k31) (NF.has_mk ?n32 ?l32 ?c32 ?k32) (NF.has_mk ?n33 ?l33 ?c33 ?k33) (NF.has_mk ?n34 ?l34 ?c34 ?k34) (NF.has_mk ?n35 ?l35 ?c35 ?k35) (NF.has_mk ?n36 ?l36 ?c36 ?k36) (NF.has_mk ?n37 ?l37 ?c37 ?k37) (NF.has_mk ?n38 ?l38 ?c38 ?k38) (NF.has_mk ?n39 ?l39 ?c39 ?k39) (NF.has_mk ?n40 ?l40 ?c40 ?k40) (NF.has_mk ?n41 ?l41 ?c41 ?k41) (NF.has_mk ?n42 ?l42 ?c42 ?k42) (NF.has_mk ?n43 ?l43 ?c43 ?k43) (NF.has_mk ?n44 ?l44 ?c44 ?k44) (NF.has_mk ?n45 ?l45 ?c45 ?k45) (NF.has_mk ?n46 ?l46 ?c46 ?k46) (NF.has_mk ?n47 ?l47 ?c47 ?k47) (NF.has_mk ?n48 ?l48 ?c48 ?k48) (NF.has_mk ?n49 ?l49 ?c49 ?k49) (NF.has_mk ?n50 ?l50 ?c50 ?k50) (NF.has_mk ?n51 ?l51 ?c51 ?k51) (NF.has_mk ?n52 ?l52 ?c52 ?k52) (NF.has_mk ?n53 ?l53 ?c53 ?k53) (NF.has_mk ?n54 ?l54 ?c54 ?k54) (NF.has_mk ?n55 ?l55 ?c55 ?k55) (NF.has_mk ?n56 ?l56 ?c56 ?k56) ?z_abs ?z_all ?z_bool ?z_int ?z_isinstance ?z_len ?z_list ?z_max ?z_min ?z_range ?z_str ?z_sum ?z_super ?z_tuple (NF.hasC_mk ?y_EMPTY ?r_EMPTY) (NF.hasC_mk ?y_MOST_DIGITS ?r_MOST_DIGITS) (NF.hasC_mk ?y_NAMES ?r_NAMES) (NF.hasC_mk ?y_CLOSINGS ?r_CLOSINGS) (NF.hasC_mk ?y_DIGITS ?r_DIGITS) ?q_BadForm ?q_LimitError ?q_NestError ?q_NotNested ?q__pair_of ?q__row_of ?q__state_of ?q_letters_of ?q_whole_number (NF.xraw0_mk ?x_BadForm_iC ?x_BadForm_lk ?x_BadForm_hcode ?x_BadForm_hcell ?x_BadForm_hx ?x_BadForm_hcd ?x_BadForm_hvs ?x_BadForm_hfile ?x_BadForm_htop ?x_BadForm_hp ?x_BadForm_har ?x_BadForm_s1 ?x_BadForm_s3 ?x_BadForm_s4 ?x_BadForm_hnc ?x_BadForm_hco ?x_BadForm_hgen ?x_BadForm_hk ?x_BadForm_hb ?x_BadForm_hme) (NF.xpair_mk ?p_BadForm_BadForm) (NF.xpair_mk ?p_BadForm_LimitError) (NF.xpair_mk ?p_BadForm_NestError) (NF.xpair_mk ?p_BadForm_NotNested)
    (case n0 => k_is)
    (case l0 => k_is)
    (case c0 => k_is)
    (case k0 => k_is)
    (case n1 => k_is)
    (case l1 => k_is)
    (case c1 => k_is)
    (case k1 => k_is)
    (case n2 => k_is)
    (case l2 => k_is)
    (case c2 => k_is)
    (case k2 => k_is)
    (case n3 => k_is)
    (case l3 => k_is)
    (case c3 => k_is)
    (case k3 => k_is)
    (case n4 => k_is)
    (case l4 => k_is)
    (case c4 => k_is)
    (case k4 => k_is)
    (case n5 => k_is)
    (case l5 => k_is)
    (case c5 => k_is)
    (case k5 => k_is)
    (case n6 => k_is)
    (case l6 => k_is)
    (case c6 => k_is)
    (case k6 => k_is)
    (case n7 => k_is)
    (case l7 => k_is)
    (case c7 => k_is)
    (case k7 => k_is)
    (case n8 => k_is)
    (case l8 => k_is)
    (case c8 => k_is)
    (case k8 => k_is)
    (case n9 => k_is)
    (case l9 => k_is)
    (case c9 => k_is)
    (case k9 => k_is)
    (case n10 => k_is)
    (case l10 => k_is)
    (case c10 => k_is)
    (case k10 => k_is)
    (case n11 => k_is)
    (case l11 => k_is)
    (case c11 => k_is)
    (case k11 => k_is)
    (case n12 => k_is)
    (case l12 => k_is)
    (case c12 => k_is)
    (case k12 => k_is)
    (case n13 => k_is)
    (case l13 => k_is)
    (case c13 => k_is)
    (case k13 => k_is)
    (case n14 => k_is)
    (case l14 => k_is)
    (case c14 => k_is)
    (case k14 => k_is)
    (case n15 => k_is)
    (case l15 => k_is)
    (case c15 => k_is)
    (case k15 => k_is)
    (case n16 => k_is)
    (case l16 => k_is)
    (case c16 => k_is)
    (case k16 => k_is)
    (case n17 => k_is)
    (case l17 => k_is)
    (case c17 => k_is)
    (case k17 => k_is)
    (case n18 => k_is)
    (case l18 => k_is)
    (case c18 => k_is)
    (case k18 => k_is)
    (case n19 => k_is)
    (case l19 => k_is)
    (case c19 => k_is)
    (case k19 => k_is)
    (case n20 => k_is)
    (case l20 => k_is)
    (case c20 => k_is)
    (case k20 => k_is)
    (case n21 => k_is)
    (case l21 => k_is)
    (case c21 => k_is)
    (case k21 => k_is)
    (case n22 => k_is)
    (case l22 => k_is)
    (case c22 => k_is)
    (case k22 => k_is)
    (case n23 => k_is)
    (case l23 => k_is)
    (case c23 => k_is)
    (case k23 => k_is)
    (case n24 => k_is)
    (case l24 => k_is)
    (case c24 => k_is)
    (case k24 => k_is)
    (case n25 => k_is)
    (case l25 => k_is)
    (case c25 => k_is)
    (case k25 => k_is)
    (case n26 => k_is)
    (case l26 => k_is)
    (case c26 => k_is)
    (case k26 => k_is)
    (case n27 => k_is)
    (case l27 => k_is)
    (case c27 => k_is)
    (case k27 => k_is)
    (case n28 => k_is)
    (case l28 => k_is)
    (case c28 => k_is)
    (case k28 => k_is)
    (case n29 => k_is)
    (case l29 => k_is)
    (case c29 => k_is)
    (case k29 => k_is)
    (case n30 => k_is)
    (case l30 => k_is)
    (case c30 => k_is)
    (case k30 => k_is)
    (case n31 => k_is)
    (case l31 => k_is)
    (case c31 => k_is)
    (case k31 => k_is)
    (case n32 => k_is)
    (case l32 => k_is)
    (case c32 => k_is)
    (case k32 => k_is)
    (case n33 => k_is)
    (case l33 => k_is)
    (case c33 => k_is)
    (case k33 => k_is)
    (case n34 => k_is)
    (case l34 => k_is)
    (case c34 => k_is)
    (case k34 => k_is)
    (case n35 => k_is)
    (case l35 => k_is)
    (case c35 => k_is)
    (case k35 => k_is)
    (case n36 => k_is)
    (case l36 => k_is)
    (case c36 => k_is)
    (case k36 => k_is)
    (case n37 => k_is)
    (case l37 => k_is)
    (case c37 => k_is)
    (case k37 => k_is)
    (case n38 => k_is)
    (case l38 => k_is)
    (case c38 => k_is)
    (case k38 => k_is)
    (case n39 => k_is)
    (case l39 => k_is)
    (case c39 => k_is)
    (case k39 => k_is)
    (case n40 => k_is)
    (case l40 => k_is)
    (case c40 => k_is)
    (case k40 => k_is)
    (case n41 => k_is)
    (case l41 => k_is)
    (case c41 => k_is)
    (case k41 => k_is)
    (case n42 => k_is)
    (case l42 => k_is)
    (case c42 => k_is)
    (case k42 => k_is)
    (case n43 => k_is)
    (case l43 => k_is)
    (case c43 => k_is)
    (case k43 => k_is)
    (case n44 => k_is)
    (case l44 => k_is)
    (case c44 => k_is)
    (case k44 => k_is)
    (case n45 => k_is)
    (case l45 => k_is)
    (case c45 => k_is)
    (case k45 => k_is)
    (case n46 => k_is)
    (case l46 => k_is)
    (case c46 => k_is)
    (case k46 => k_is)
    (case n47 => k_is)
    (case l47 => k_is)
    (case c47 => k_is)
    (case k47 => k_is)
    (case n48 => k_is)
    (case l48 => k_is)
    (case c48 => k_is)
    (case k48 => k_is)
    (case n49 => k_is)
    (case l49 => k_is)
    (case c49 => k_is)
    (case k49 => k_is)
    (case n50 => k_is)
    (case l50 => k_is)
    (case c50 => k_is)
    (case k50 => k_is)
    (case n51 => k_is)
    (case l51 => k_is)
    (case c51 => k_is)
    (case k51 => k_is)
    (case n52 => k_is)
    (case l52 => k_is)
    (case c52 => k_is)
    (case k52 => k_is)
    (case n53 => k_is)
    (case l53 => k_is)
    (case c53 => k_is)
    (case k53 => k_is)
    (case n54 => k_is)
    (case l54 => k_is)
    (case c54 => k_is)
    (case k54 => k_is)
    (case n55 => k_is)
    (case l55 => k_is)
    (case c55 => k_is)
    (case k55 => k_is)
    (case n56 => k_is)
    (case l56 => k_is)
    (case c56 => k_is)
    (case k56 => k_is)
    (case z_abs => k_is)
    (case z_all => k_is)
    (case z_bool => k_is)
    (case z_int => k_is)
    (case z_isinstance => k_is)
    (case z_len => k_is)
    (case z_list => k_is)
    (case z_max => k_is)
    (case z_min => k_is)
    (case z_range => k_is)
    (case z_str => k_is)
    (case z_sum => k_is)
    (case z_super => k_is)
    (case z_tuple => k_is)
    (case y_EMPTY => k_is)
    (case r_EMPTY => exact ⟨_, rfl⟩)
    (case y_MOST_DIGITS => k_is)
    (case r_MOST_DIGITS => exact ⟨_, rfl⟩)
    (case y_NAMES => k_is)
    (case r_NAMES => exact ⟨_, rfl⟩)
    (case y_CLOSINGS => k_is)
    (case r_CLOSINGS => exact ⟨_, rfl⟩)
    (case y_DIGITS => k_is)
    (case r_DIGITS => exact ⟨_, rfl⟩)
    (case q_BadForm => k_is)
    (case q_LimitError => k_is)
    (case q_NestError => k_is)
    (case q_NotNested => k_is)
    (case q__pair_of => k_is)
    (case q__row_of => k_is)
    (case q__state_of => k_is)
    (case q_letters_of => k_is)
    (case q_whole_number => k_is)
    (case x_BadForm_iC => k_is)
    (case x_BadForm_lk => k_is)
    (case x_BadForm_hcode => k_is)
    (case x_BadForm_hcell => k_is)
    (case x_BadForm_hx => kernel_rfl)
    (case x_BadForm_hcd => k_is)
    (case x_BadForm_hvs => exact rfl)
    (case x_BadForm_hfile => kernel_rfl)
    (case x_BadForm_htop => kernel_rfl)
    (case x_BadForm_hp => exact rfl)
    (case x_BadForm_har => exact rfl)
    (case x_BadForm_s1 => exact rfl)
    (case x_BadForm_s3 => exact rfl)
    (case x_BadForm_s4 => exact rfl)
    (case x_BadForm_hnc => decide)
    (case x_BadForm_hco => exact rfl)
    (case x_BadForm_hgen => exact rfl)
    (case x_BadForm_hk => exact rfl)
    (case x_BadForm_hb => exact fun us hl => match us, hl with | [_], _ => rfl)
    (case x_BadForm_hme => exact fun env => rfl)
    (case p_BadForm_BadForm => kernel_rfl)
    (case p_BadForm_LimitError => kernel_rfl)
    (case p_BadForm_NestError => kernel_rfl)
    (case p_BadForm_NotNested => kernel_rfl)

