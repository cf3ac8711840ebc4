import PyProof.Rows.All
import Wide.All
import OpenK.AllK
import Wide.FinOn
import HandS.ForMost
import HandS.Wide
import HandS.Conv
import HandS.Evl
import HandS.IsInst
import HandS.TupMul
import KE.DatumOrd
import PyProof.Draws
import KE.GoesEnum
import PyProof.EnumMake
import HandS.Walk
import KE.KExcSuper
import HandS.ExcInit
import HandS.TryMany
import HandS.ExcOwn
import HandS.ExcField
import HandS.ExcIs
import HandS.ExcCtx
import HandS.HotCalls
import KE.KExcIs
import KE.KIsAll
import HandS.Defaults
import HandS.RaiseMore
import HandS.Property
import HandS.Dict
import HandS.Small
import HandS.More
import HandS.TupAny
import HandS.Gcd
import HandS.Style
import HandS.Replace
import HandS.FStr
import HandS.Codes
import HandS.Text
import HandS.Zip
import HandS.StrMore
import HandS.Star
import PySem.Challenge.RW_nestform_k18_reading_in_pieces
set_option Elab.async false
set_option linter.all false
set_option maxRecDepth 100000
set_option maxHeartbeats 4000000
/-! Own toolkit over the hand layer: what is owned, steps, promises. -/
namespace NF
open PySem L2

/-! ### what is owned: B the heap at the start, M a part kept closed, R the open part -/
structure Own (B H : Hp) (M R : List (Addr × HO)) : Prop where
  nd : ((M ++ R).map Prod.fst).Nodup
  at_ : ∀ x ∈ M ++ R, H x.1 = some x.2
  out : ∀ b, b ∉ (M ++ R).map Prod.fst → ∀ o, B b = some o → H b = some o

section
variable {B H H' : Hp} {M R : List (Addr × HO)} {a p : Addr} {o u : HO}

theorem Own.get (O : Own B H M R) (j : Nat) (h : R[j]? = some (a, o)) : H a = some o :=
  O.at_ (a, o) (List.mem_append_right _ (List.mem_of_getElem? h))
theorem Own.refl0 (H : Hp) : Own H H [] [] := ⟨List.nodup_nil, fun _ h => absurd h List.not_mem_nil, fun _ _ _ h => h⟩
theorem Own.start (nd : (R.map Prod.fst).Nodup) (h : ∀ x ∈ R, H x.1 = some x.2) : Own H H [] R := ⟨nd, h, fun _ _ _ e => e⟩
theorem Own.addr_mem (O : Own B H M R) (h : x ∈ M ++ R) : x.1 ∈ (M ++ R).map Prod.fst := List.mem_map_of_mem h
theorem Own.fresh (O : Own B H M R) (h : H p = none) : p ∉ (M ++ R).map Prod.fst := fun q => by
  obtain ⟨x, hx, e⟩ := List.mem_map.mp q
  have := O.at_ x hx
  rw [e, h] at this
  cases this
theorem Own.base_free (O : Own B H M R) (h : H p = none) : B p = none := by
  cases e : B p with
  | none => rfl
  | some o =>
    have := O.out p (O.fresh h) o e
    rw [h] at this
    cases this
theorem Own.new (O : Own B H M R) (h : H p = none) : Own B (upd H p o) M (R ++ [(p, o)]) := by
  have hp := O.fresh h
  refine ⟨?_, fun x hx => ?_, fun b hb u e => ?_⟩
  · rw [← List.append_assoc, List.map_append]
    refine List.nodup_append.mpr ⟨O.nd, by simp, fun y hy z hz => ?_⟩
    have ez : z = p := by simpa using hz
    intro e
    rw [e, ez] at hy
    exact hp hy
  · rw [← List.append_assoc] at hx
    rcases List.mem_append.mp hx with hx | hx
    · have q := O.at_ x hx
      have n : x.1 ≠ p := fun e => by rw [e, h] at q; cases q
      rw [upd_ne n]
      exact q
    · have e : x = (p, o) := by simpa using hx
      rw [e]
      exact upd_same
  · rw [← List.append_assoc, List.map_append] at hb
    have h1 : b ∉ (M ++ R).map Prod.fst := fun q => hb (List.mem_append_left _ q)
    have h2 : b ≠ p := fun q => hb (List.mem_append_right _ (by simp [q]))
    rw [upd_ne h2]
    exact O.out b h1 u e
theorem nodup_fst {L : List (Addr × HO)} (nd : (L.map Prod.fst).Nodup) {i j : Nat} {x y : Addr × HO} (hi : L[i]? = some x) (hj : L[j]? = some y) (e : x.1 = y.1) : i = j := by
  have h1 : (L.map Prod.fst)[i]? = some x.1 := by rw [List.getElem?_map, hi]; rfl
  have h2 : (L.map Prod.fst)[j]? = some x.1 := by rw [List.getElem?_map, hj, e]; rfl
  exact nodup_at nd h1 h2
where
  nodup_at {l : List Addr} (nd : l.Nodup) {i j : Nat} {v : Addr} (hi : l[i]? = some v) (hj : l[j]? = some v) : i = j := by
    obtain ⟨h1, e1⟩ := List.getElem?_eq_some_iff.mp hi
    obtain ⟨h2, e2⟩ := List.getElem?_eq_some_iff.mp hj
    exact (List.getElem_inj (h₀ := h1) (h₁ := h2) nd).mp (e1.trans e2.symm)
theorem map_set_fst {R : List (Addr × HO)} {j : Nat} (h : R[j]? = some (a, o)) (u : HO) : (R.set j (a, u)).map Prod.fst = R.map Prod.fst := by
  refine List.ext_getElem? fun i => ?_
  rw [List.getElem?_map, List.getElem?_map, List.getElem?_set]
  by_cases e : j = i
  · subst e
    have hj : j < R.length := (List.getElem?_eq_some_iff.mp h).1
    rw [if_pos rfl, if_pos hj, h]
    rfl
  · rw [if_neg e]
theorem mem_set_or {R : List (Addr × HO)} {j : Nat} {x y : Addr × HO} (h : x ∈ R.set j y) : x = y ∨ ∃ i, i ≠ j ∧ R[i]? = some x := by
  obtain ⟨i, hi⟩ := List.getElem?_of_mem h
  rw [List.getElem?_set] at hi
  by_cases e : j = i
  · rw [if_pos e] at hi
    split at hi
    · exact .inl (Option.some.inj hi).symm
    · cases hi
  · rw [if_neg e] at hi
    exact .inr ⟨i, fun q => e q.symm, hi⟩
theorem Own.put (O : Own B H M R) (j : Nat) (h : R[j]? = some (a, o)) (u : HO) : Own B (upd H a u) M (R.set j (a, u)) := by
  have em : (M ++ R.set j (a, u)).map Prod.fst = (M ++ R).map Prod.fst := by
    rw [List.map_append, List.map_append, map_set_fst h u]
  have ha : a ∈ (M ++ R).map Prod.fst := List.mem_map.mpr ⟨(a, o), List.mem_append_right _ (List.mem_of_getElem? h), rfl⟩
  refine ⟨by rw [em]; exact O.nd, fun x hx => ?_, fun b hb v e => ?_⟩
  · rcases List.mem_append.mp hx with hx | hx
    · have q := O.at_ x (List.mem_append_left _ hx)
      have n : x.1 ≠ a := fun e => by
        have nd := O.nd
        rw [List.map_append] at nd
        exact (List.nodup_append.mp nd).2.2 _ (List.mem_map_of_mem hx) _ (List.mem_map.mpr ⟨(a, o), List.mem_of_getElem? h, rfl⟩) e
      rw [upd_ne n]
      exact q
    · rcases mem_set_or hx with rfl | ⟨i, ne, hi⟩
      · exact upd_same
      · have n : x.1 ≠ a := fun e => by
          have nd := O.nd
          rw [List.map_append] at nd
          exact ne (nodup_fst (List.nodup_append.mp nd).2.1 hi h e)
        rw [upd_ne n]
        exact O.at_ x (List.mem_append_right _ (List.mem_of_getElem? hi))
  · rw [em] at hb
    have n : b ≠ a := fun q => hb (q ▸ ha)
    rw [upd_ne n]
    exact O.out b hb v e
/-- a callee that had the closed part M0 and gives it back as M1, with new objects N -/
theorem Own.call {M0 M1 N : List (Addr × HO)} (O : Own B H M0 R) (C : Own H H' M1 N) (e : M1.map Prod.fst = M0.map Prod.fst) (hn : ∀ x ∈ N, H x.1 = none) : Own B H' M1 (R ++ N) := by
  have key : ∀ x ∈ R, x.1 ∉ (M1 ++ N).map Prod.fst := fun x hx q => by
    rw [List.map_append] at q
    rcases List.mem_append.mp q with q | q
    · rw [e] at q
      have nd := O.nd
      rw [List.map_append] at nd
      exact (List.nodup_append.mp nd).2.2 _ q _ (List.mem_map_of_mem hx) rfl
    · obtain ⟨y, hy, ey⟩ := List.mem_map.mp q
      have h1 := hn y hy
      have h2 := O.at_ x (List.mem_append_right _ hx)
      rw [ey, h2] at h1
      cases h1
  refine ⟨?_, fun x hx => ?_, fun b hb v q => ?_⟩
  · have nd1 := C.nd
    have nd0 := O.nd
    rw [List.map_append] at nd1 nd0
    rw [List.map_append, List.map_append]
    obtain ⟨a1, a2, a3⟩ := List.nodup_append.mp nd1
    obtain ⟨b1, b2, b3⟩ := List.nodup_append.mp nd0
    refine List.nodup_append.mpr ⟨a1, List.nodup_append.mpr ⟨b2, a2, fun y hy z hz e2 => ?_⟩, fun y hy z hz e2 => ?_⟩
    · obtain ⟨x, hx, ex⟩ := List.mem_map.mp hy
      refine key x hx ?_
      rw [List.map_append]
      rw [ex, e2]
      exact List.mem_append_right _ hz
    · rcases List.mem_append.mp hz with hz | hz
      · rw [e] at hy
        exact b3 _ hy _ hz e2
      · exact a3 _ hy _ hz e2
  · rcases List.mem_append.mp hx with hx | hx
    · exact C.at_ x (List.mem_append_left _ hx)
    · rcases List.mem_append.mp hx with hx | hx
      · exact C.out x.1 (key x hx) _ (O.at_ x (List.mem_append_right _ hx))
      · exact C.at_ x (List.mem_append_right _ hx)
  · rw [List.map_append, List.map_append] at hb
    have h1 : b ∉ (M0 ++ R).map Prod.fst := fun z => hb (by
      rw [List.map_append] at z
      rcases List.mem_append.mp z with z | z
      · exact List.mem_append_left _ (e ▸ z)
      · exact List.mem_append_right _ (List.mem_append_left _ z))
    have h2 : b ∉ (M1 ++ N).map Prod.fst := fun z => hb (by
      rw [List.map_append] at z
      rcases List.mem_append.mp z with z | z
      · exact List.mem_append_left _ z
      · exact List.mem_append_right _ (List.mem_append_right _ z))
    exact C.out b h2 _ (O.out b h1 v q)
theorem Own.call0 (O : Own B H M R) (C : Own H H' [] []) : Own B H' M R := by
  have h := Own.call (M0 := []) (M1 := []) (N := []) (R := M ++ R) (B := B) ⟨O.nd, O.at_, O.out⟩ C rfl (fun _ h => absurd h List.not_mem_nil)
  rw [List.append_nil] at h
  exact ⟨h.nd, h.at_, h.out⟩
theorem Own.callN {N : List (Addr × HO)} (O : Own B H M R) (C : Own H H' [] N) (hn : ∀ x ∈ N, H x.1 = none) : Own B H' M (R ++ N) := by
  have h := Own.call (M0 := []) (M1 := []) (N := N) (R := M ++ R) (B := B) ⟨O.nd, O.at_, O.out⟩ C rfl hn
  have e : [] ++ (M ++ R ++ N) = M ++ (R ++ N) := by rw [List.nil_append, List.append_assoc]
  rw [show Own B H' M (R ++ N) = Own B H' M (R ++ N) from rfl]
  exact ⟨by rw [← e]; exact h.nd, by rw [← e]; exact h.at_, by rw [← e]; exact h.out⟩
/-- only the closed part is told to a callee -/
theorem Own.sub (O : Own B H M R) : Own H H M [] := ⟨by
    rw [List.append_nil]
    have nd := O.nd
    rw [List.map_append] at nd
    exact (List.nodup_append.mp nd).1, fun x hx => O.at_ x (by
    rw [List.append_nil] at hx
    exact List.mem_append_left _ hx), fun _ _ _ e => e⟩
theorem Own.nil (O : Own B H [] R) : Own H H [] R := ⟨O.nd, O.at_, fun _ _ _ e => e⟩
/-- the end of a def: its own objects (not there at the start) are forgotten -/
theorem Own.drop (O : Own B H M R) (hn : ∀ x ∈ R, B x.1 = none) : Own B H M [] := ⟨by
    rw [List.append_nil]
    have nd := O.nd
    rw [List.map_append] at nd
    exact (List.nodup_append.mp nd).1, fun x hx => O.at_ x (by
    rw [List.append_nil] at hx
    exact List.mem_append_left _ hx), fun b hb o e => O.out b (fun q => by
    rw [List.map_append] at q
    rcases List.mem_append.mp q with q | q
    · exact hb (by rw [List.append_nil]; exact q)
    · obtain ⟨x, hx, ex⟩ := List.mem_map.mp q
      have := hn x hx
      rw [ex, e] at this
      cases this) o e⟩
theorem Own.dropTo {N : List (Addr × HO)} (O : Own B H M (R ++ N)) (hn : ∀ x ∈ R, B x.1 = none) : Own B H M N := ⟨by
    have nd := O.nd
    rw [List.map_append, List.map_append] at nd
    rw [List.map_append]
    obtain ⟨a1, a2, a3⟩ := List.nodup_append.mp nd
    exact List.nodup_append.mpr ⟨a1, (List.nodup_append.mp a2).2.1, fun y hy z hz => a3 y hy z (List.mem_append_right _ hz)⟩, fun x hx => O.at_ x (by
    rcases List.mem_append.mp hx with hx | hx
    · exact List.mem_append_left _ hx
    · exact List.mem_append_right _ (List.mem_append_right _ hx)), fun b hb o e => O.out b (fun q => by
    rw [List.map_append, List.map_append] at q
    rw [List.map_append] at hb
    rcases List.mem_append.mp q with q | q
    · exact hb (List.mem_append_left _ q)
    · rcases List.mem_append.mp q with q | q
      · obtain ⟨x, hx, ex⟩ := List.mem_map.mp q
        have := hn x hx
        rw [ex, e] at this
        cases this
      · exact hb (List.mem_append_right _ q)) o e⟩
end
end NF

/-! Own toolkit: one lemma a step of a reading. -/
namespace NF
open PySem L2
section
variable {K : PySem.W.Frag} {σ : St} {B H H' : Hp} {M R : List (Addr × HO)} {a p : Addr} {o u : HO} {Q : VK} {te ta tb tc : TE} {tt tu : TT} {tar : TA} {v x y : V} {i j : Int} {r : R2}
  {nx bk ct : St → Hp → Prop} {rt : VK} {g : TG} {s1 s2 : TS} {QA : List V → Hp → Prop} {QT : Bool → Hp → Prop} {QO : Option Int → Hp → Prop} {z z1 z2 : Str} {xs ys : List V} {n : Nat} {sp : Sp} {E : XK} {dvs : List V}

/-- a new list, a new tuple is asked for -/
def newL (xs : List V) (H : Hp) (Q : VK) : Prop := xs.length ≤ sizeLine ∧ ∀ p, H p = none → Q (.ref p) (upd H p (.lst xs))
def newT (xs : List V) (H : Hp) (Q : VK) : Prop := xs.length ≤ sizeLine ∧ ∀ p, H p = none → Q (.ref p) (upd H p (.tup xs))
/-! #### expressions -/
theorem x_var {k : Nat} (h : σ[k]? = some (some v)) (q : Q v H) : tVar k σ H Q := ⟨v, h, q⟩
theorem x_c (q : Q v H) : tC v σ H Q := q
theorem x_op (q : ta σ H fun x H1 => tb σ H1 fun y H2 => r x y H2 Q) : tOp r ta tb σ H Q := q
theorem x_un {r : V → Hp → VK → Prop} (q : ta σ H fun x H1 => r x H1 Q) : tUn r ta σ H Q := q
theorem x_if (q : tt σ H fun c H1 => if c = true then ta σ H1 Q else tb σ H1 Q) : tIf tt ta tb σ H Q := q
theorem x_I0 {g : Int → Int → V} (q : Q (g i j) H) : rI0 g (.int i) (.int j) H Q := ⟨i, j, rfl, rfl, q⟩
theorem x_I {C : Int → Int → Prop} {g : Int → Int → V} (hc : C i j) (q : Q (g i j) H) : rI C g (.int i) (.int j) H Q := ⟨i, j, rfl, rfl, hc, q⟩
theorem x_U {g : Int → V} (q : Q (g i) H) : rU g (.int i) H Q := ⟨i, rfl, q⟩
theorem x_eq (h : scal x y = true) (q : Q (.bl (decide (x = y))) H) : rEq x y H Q := ⟨h, q⟩
theorem x_ne (h : scal x y = true) (q : Q (.bl (!decide (x = y))) H) : rNe x y H Q := ⟨h, q⟩
theorem x_ixL (h : H a = some (.lst xs)) (hv : atI xs i = some v) (q : Q v H) : rIxL K (.ref a) (.int i) H Q := ⟨a, xs, i, v, rfl, rfl, SqL.of h, hv, q⟩
theorem x_ixT (h : H a = some (.tup xs)) (hv : atI xs i = some v) (q : Q v H) : rIxT K (.ref a) (.int i) H Q := ⟨a, xs, i, v, rfl, rfl, SqT.of h, hv, q⟩
theorem x_ixS {c : Nat} (hz : z.length ≤ sizeLine) (hv : atI z.cps.toList i = some c) (q : Q (.str ⟨#[c]⟩) H) : rIxS (.str z) (.int i) H Q := ⟨z, i, c, rfl, rfl, hz, hv, q⟩
/-! #### tests -/
theorem x_test (q : te σ H fun x H' => ∃ k, x = .bl k ∧ QT k H') : tTest te σ H QT := q
theorem x_B (q : te σ H fun x H' => ∃ k, x = .bl k ∧ QT k H') : tB te σ H QT := q
theorem x_bl {P : Bool → Prop} {b : Bool} (q : P b) : ∃ k, V.bl b = .bl k ∧ P k := ⟨b, rfl, q⟩
theorem x_and (q : tt σ H fun c H1 => if c = true then tu σ H1 QT else QT false H1) : tAnd tt tu σ H QT := q
theorem x_or (q : tt σ H fun c H1 => if c = true then QT true H1 else tu σ H1 QT) : tOr tt tu σ H QT := q
theorem x_not (q : tt σ H fun c H1 => QT (!c) H1) : tNot tt σ H QT := q
theorem x_andV (q : ta σ H fun x H1 => ∃ c, x = .bl c ∧ if c = true then tb σ H1 Q else Q (.bl false) H1) : tAndV ta tb σ H Q := q
theorem x_orV (q : ta σ H fun x H1 => ∃ c, x = .bl c ∧ if c = true then Q (.bl true) H1 else tb σ H1 Q) : tOrV ta tb σ H Q := q
theorem x_notV (q : ta σ H fun x H1 => ∃ c, x = .bl c ∧ Q (.bl (!c)) H1) : tNotV ta σ H Q := q
theorem x_ite {p : Prop} [Decidable p] {A C : Prop} (h1 : p → A) (h2 : ¬ p → C) : if decide p = true then A else C := by
  by_cases h : p
  · rw [decide_eq_true h, if_pos rfl]; exact h1 h
  · rw [decide_eq_false h, if_neg Bool.false_ne_true]; exact h2 h
theorem x_itn {p : Prop} [Decidable p] {A C : Prop} (h1 : ¬ p → A) (h2 : p → C) : if (!decide p) = true then A else C := by
  by_cases h : p
  · rw [decide_eq_true h, Bool.not_true, if_neg Bool.false_ne_true]; exact h2 h
  · rw [decide_eq_false h, Bool.not_false, if_pos rfl]; exact h1 h
theorem x_itb {b : Bool} {A C : Prop} (h1 : b = true → A) (h2 : b = false → C) : if b = true then A else C := by
  cases b
  · rw [if_neg Bool.false_ne_true]; exact h2 rfl
  · rw [if_pos rfl]; exact h1 rfl
theorem x_tt {A C : Prop} (h : A) : if true = true then A else C := by rw [if_pos rfl]; exact h
theorem x_nt {A C : Prop} (h : C) : if (!true) = true then A else C := h
theorem x_nf {A C : Prop} (h : A) : if (!false) = true then A else C := h
theorem x_ff {A C : Prop} (h : C) : if false = true then A else C := by rw [if_neg Bool.false_ne_true]; exact h
theorem x_andP {b1 b2 : Bool} (h1 : ∀ QT : Bool → Hp → Prop, QT b1 H → tt σ H QT) (h2 : b1 = true → ∀ QT : Bool → Hp → Prop, QT b2 H → tu σ H QT) (q : QT (b1 && b2) H) : tAnd tt tu σ H QT := by
  refine h1 _ ?_
  cases b1 with
  | true => exact h2 rfl _ q
  | false => exact q
theorem x_orP {b1 b2 : Bool} (h1 : ∀ QT : Bool → Hp → Prop, QT b1 H → tt σ H QT) (h2 : b1 = false → ∀ QT : Bool → Hp → Prop, QT b2 H → tu σ H QT) (q : QT (b1 || b2) H) : tOr tt tu σ H QT := by
  refine h1 _ ?_
  cases b1 with
  | false => exact h2 rfl _ q
  | true => exact q
/-- and, or of two tests -/
theorem x_iteA {b1 b2 : Bool} {A C : Prop} (h1 : b1 = true → b2 = true → A) (h2 : ¬ (b1 = true ∧ b2 = true) → C) : if b1 = true then (if b2 = true then A else C) else C := by
  cases b1 <;> cases b2 <;> simp_all
theorem x_iteO {b1 b2 : Bool} {A C : Prop} (h1 : b1 = true ∨ b2 = true → A) (h2 : b1 = false → b2 = false → C) : if b1 = true then A else (if b2 = true then A else C) := by
  cases b1 <;> cases b2 <;> simp_all
theorem x_iteI {A C : Prop} (h1 : i = j → A) (h2 : i ≠ j → C) : if decide (V.int i = V.int j) = true then A else C := x_ite (fun h => h1 (V.int.inj h)) (fun h => h2 fun e => h (e ▸ rfl))
theorem x_itnI {A C : Prop} (h1 : i ≠ j → A) (h2 : i = j → C) : if (!decide (V.int i = V.int j)) = true then A else C := x_itn (fun h => h1 fun e => h (e ▸ rfl)) (fun h => h2 (V.int.inj h))
theorem x_iteS {A C : Prop} (h1 : z1 = z2 → A) (h2 : z1 ≠ z2 → C) : if decide (V.str z1 = V.str z2) = true then A else C := x_ite (fun h => h1 (V.str.inj h)) (fun h => h2 fun e => h (e ▸ rfl))
theorem x_itnS {A C : Prop} (h1 : z1 ≠ z2 → A) (h2 : z1 = z2 → C) : if (!decide (V.str z1 = V.str z2)) = true then A else C := x_itn (fun h => h1 fun e => h (e ▸ rfl)) (fun h => h2 (V.str.inj h))
/-! #### arguments, displays, calls -/
theorem x_nil (q : QA [] H) : tNil σ H QA := q
theorem x_cons (q : ta σ H fun x H1 => tar σ H1 fun xs H2 => QA (x :: xs) H2) : tCons ta tar σ H QA := q
theorem x_lst (q : tar σ H fun xs H1 => newL xs H1 Q) : tLst tar σ H Q := q
theorem x_tup (q : tar σ H fun xs H1 => newT xs H1 Q) : tTup tar σ H Q := q
/-- a new object goes behind what is owned -/
theorem x_newL (O : Own B H M R) (hz : xs.length ≤ sizeLine) (q : ∀ p H1, B p = none → Own B H1 M (R ++ [(p, .lst xs)]) → Q (.ref p) H1) : newL xs H Q := ⟨hz, fun p hp => q p _ (O.base_free hp) (O.new hp)⟩
theorem x_newT (O : Own B H M R) (hz : xs.length ≤ sizeLine) (q : ∀ p H1, B p = none → Own B H1 M (R ++ [(p, .tup xs)]) → Q (.ref p) H1) : newT xs H Q := ⟨hz, fun p hp => q p _ (O.base_free hp) (O.new hp)⟩
theorem x_cb {r : List V → Hp → VK → Prop} (q : tar σ H fun vs H1 => r vs H1 Q) : tCB r tar σ H Q := q
theorem x_call (q : tar σ H fun vs H1 => sp (vs ++ dvs) H1 Q E) : tCall sp dvs E tar σ H Q := q
/-! #### statements -/
theorem x_seq (q : s1 ⟨s2 ⟨nx, rt, bk, ct⟩, rt, bk, ct⟩ σ H) : tSeq s1 s2 ⟨nx, rt, bk, ct⟩ σ H := q
theorem x_cut (Mid : St → Hp → Prop) (q : s1 ⟨Mid, rt, bk, ct⟩ σ H) (k : ∀ σ' H', Mid σ' H' → s2 ⟨nx, rt, bk, ct⟩ σ' H') : Evl.tCut s1 s2 ⟨nx, rt, bk, ct⟩ σ H := ⟨Mid, q, k⟩
theorem x_asg (q : te σ H fun x H1 => g x σ H1 nx) : tAsg te g ⟨nx, rt, bk, ct⟩ σ H := q
theorem x_name {k : Nat} {QS : St → Hp → Prop} (q : QS (σ.set k (some v)) H) : gName k v σ H QS := q
theorem x_sub {to ti : TE} {t : TSet} {QS : St → Hp → Prop} (q : to σ H fun o H1 => ti σ H1 fun i H2 => t o i v H2 fun H3 => QS σ H3) : gSub to ti t v σ H QS := q
theorem x_setL {QH : Hp → Prop} (O : Own B H M R) (k : Nat) (hk : R[k]? = some (a, .lst xs)) (hi : ixN xs.length i = some n) (q : ∀ H1, Own B H1 M (R.set k (a, .lst (xs.set n v))) → QH H1) : rSetL (.ref a) (.int i) v H QH :=
  ⟨a, xs, i, n, rfl, rfl, O.get k hk, hi, q _ (O.put k hk _)⟩
theorem x_drop (q : te σ H fun _ H1 => nx σ H1) : tDrop te ⟨nx, rt, bk, ct⟩ σ H := q
theorem x_ret (q : te σ H rt) : tRet te ⟨nx, rt, bk, ct⟩ σ H := q
theorem x_retN (q : rt .non H) : tRetN ⟨nx, rt, bk, ct⟩ σ H := q
theorem x_ifs (q : tt σ H fun b H1 => if b = true then s1 ⟨nx, rt, bk, ct⟩ σ H1 else s2 ⟨nx, rt, bk, ct⟩ σ H1) : tIfS tt s1 s2 ⟨nx, rt, bk, ct⟩ σ H := q
theorem x_next (q : nx σ H) : tNext ⟨nx, rt, bk, ct⟩ σ H := q
theorem x_brk (q : bk σ H) : tBreak ⟨nx, rt, bk, ct⟩ σ H := q
theorem x_cnt (q : ct σ H) : tCont ⟨nx, rt, bk, ct⟩ σ H := q
/-! #### methods of a tracked list -/
theorem x_bm {T : String} {r : V → List V → Hp → VK → Prop} (q : ta σ H fun x H1 => tyV K T x H1 ∧ tar σ H1 fun xs H2 => r x xs H2 Q) : tBM K T r ta tar σ H Q := q
theorem x_bm0 {T : String} {r : V → List V → Hp → VK → Prop} (q : ta σ H fun x H1 => tyV K T x H1 ∧ r x [] H1 Q) : tBM0 K T r ta σ H Q := q
theorem x_tyL {P : Prop} (h : H a = some (.lst xs)) (q : P) : tyV K "list" (.ref a) H ∧ P := ⟨.inl ⟨rfl, xs, SqL.of h⟩, q⟩
theorem x_tyS {P : Prop} (q : P) : tyV K "str" (.str z) H ∧ P := ⟨rfl, q⟩
theorem x_append (O : Own B H M R) (k : Nat) (hk : R[k]? = some (a, .lst xs)) (hz : xs.length < sizeLine) (q : ∀ H1, Own B H1 M (R.set k (a, .lst (xs ++ [v]))) → Q .non H1) : rAppend (.ref a) [v] H Q :=
  ⟨a, xs, v, rfl, rfl, O.get k hk, hz, q _ (O.put k hk _)⟩
theorem x_pop (O : Own B H M R) (k : Nat) (hk : R[k]? = some (a, .lst xs)) (hv : xs[xs.length - 1]? = some v) (q : ∀ H1, Own B H1 M (R.set k (a, .lst xs.dropLast)) → Q v H1) : rPop (.ref a) [] H Q :=
  ⟨a, xs, v, rfl, rfl, O.get k hk, hv, q _ (O.put k hk _)⟩
theorem x_popAt (O : Own B H M R) (k : Nat) (hk : R[k]? = some (a, .lst xs)) (n : Nat) (h1 : -(2 ^ 63) ≤ i) (h2 : i < 2 ^ 63) (hn : seqIndex? i xs.length = some n) (hv : xs[n]? = some v) (q : ∀ H1, Own B H1 M (R.set k (a, .lst (xs.eraseIdx n))) → Q v H1) : rPopAt (.ref a) [.int i] H Q :=
  ⟨a, xs, i, n, v, rfl, rfl, O.get k hk, h1, h2, hn, hv, q _ (O.put k hk _)⟩
end

/-! ### named rules -/
section
variable {X : Cx}
def rLen (K : PySem.W.Frag) : List V → Hp → VK → Prop := fun xs H Q => ∃ x n, xs = [x] ∧ LenV K x H n ∧ Q (.int n) H
theorem callLen : CallR X (.builtin "len") (rLen X.K) := call_len
def rInt : List V → Hp → VK → Prop := fun xs H Q => (∃ i, xs = [.int i] ∧ Q (.int i) H) ∨ ∃ k, xs = [.bl k] ∧ Q (.int (if k then 1 else 0)) H
theorem callInt : CallR X (.type "int") rInt := call_int1
def rMin2 : List V → Hp → VK → Prop := fun xs H Q => ∃ i j, xs = [.int i, .int j] ∧ Q (.int (if j < i then j else i)) H
theorem callMin2 (hc : X.calm = true) : CallR X (.builtin "min") rMin2 := call_min2 hc
def rMax2 : List V → Hp → VK → Prop := fun xs H Q => ∃ i j, xs = [.int i, .int j] ∧ Q (.int (if j > i then j else i)) H
theorem callMax2 (hc : X.calm = true) : CallR X (.builtin "max") rMax2 := call_max2 hc
def rAbs : List V → Hp → VK → Prop := fun xs H Q => ∃ i, xs = [.int i] ∧ Q (.int (if i < 0 then -i else i)) H
theorem callAbs : CallR X (.builtin "abs") rAbs := call_abs
def rListOf (K : PySem.W.Frag) : List V → Hp → VK → Prop := fun xs H Q => ∃ p ys, xs = [.ref p] ∧ (SqL K H p ys ∨ SqT K H p ys) ∧ ∀ l, H l = none → Q (.ref l) (upd H l (.lst ys))
theorem callListOf : CallR X (.type "list") (rListOf X.K) := call_list_of
def rAddS : R2 := fun x y H Q => ∃ i j, x = .str i ∧ y = .str j ∧ i.length + j.length ≤ sizeLine ∧ Q (.str (i ++ j)) H
theorem opAddS : OpR X (binaryOp .Add) rAddS := op_add_str
def rInC : R2 := fun x y H Q => ∃ (c : Nat) (z : Str), x = .str ⟨#[c]⟩ ∧ y = .str z ∧ Q (.bl (decide (c ∈ z.cps.toList))) H
theorem opInC : OpR X (compareOp .In) rInC := op_in_sign
def rNotInC : R2 := fun x y H Q => ∃ (c : Nat) (z : Str), x = .str ⟨#[c]⟩ ∧ y = .str z ∧ Q (.bl (!decide (c ∈ z.cps.toList))) H
theorem opNotInC : OpR X (compareOp .NotIn) rNotInC := op_notIn_sign
def rIsN : R2 := fun x y H Q => y = .non ∧ Q (.bl (decide (x = .non))) H
theorem opIsN : OpR X (compareOp .Is) rIsN := op_isN
def rNotN : R2 := fun x y H Q => y = .non ∧ Q (.bl (!decide (x = .non))) H
theorem opNotN : OpR X (compareOp .IsNot) rNotN := op_notN
def tTru (K : PySem.W.Frag) (ta : TE) : TT := fun σ H Q => ta σ H fun x H' => ∃ k, TruV K x H' k ∧ Q k H'
theorem ptTruth {a : Expr} {ta : TE} (ha : PE X a ta) (he : ∀ whole, isTrue a X.env whole = (do let v ← whole; standAt a.pos; holding [v] (truthy v))) : PT X a (tTru X.K ta) := pt_truth ha he
def rUpper : V → List V → Hp → VK → Prop := fun x xs H Q => ∃ a, x = .str a ∧ xs = [] ∧ a.length ≤ 5592405 ∧ Q (.str (Txt.upper a)) H
theorem mtUpper : MtR X "str.upper" rUpper := mt_upper
def rLower : V → List V → Hp → VK → Prop := fun x xs H Q => ∃ a, x = .str a ∧ xs = [] ∧ a.length ≤ 5592405 ∧ Q (.str (Txt.lower a)) H
theorem mtLower : MtR X "str.lower" rLower := mt_lower
def rFind : V → List V → Hp → VK → Prop := fun x xs H Q => ∃ a b, x = .str a ∧ xs = [.str b] ∧ Q (.int (Txt.find a b)) H
theorem mtFind : MtR X "str.find" rFind := mt_find
def rJoin (K : PySem.W.Frag) : V → List V → Hp → VK → Prop := fun x xs H Q => ∃ a p, ∃ ys : List Str, x = .str a ∧ xs = [.ref p] ∧ (SqL K H p (ys.map V.str) ∨ SqT K H p (ys.map V.str)) ∧
    (ys.map (·.length)).sum + ys.length * a.length ≤ 16777216 ∧ Q (.str (Txt.join a ys)) H
theorem mtJoin : MtR X "str.join" (rJoin X.K) := mt_join
end
section
variable {K : PySem.W.Frag} {σ : St} {B H H' : Hp} {M R : List (Addr × HO)} {a p : Addr} {Q : VK} {ta : TE} {i j : Int} {z z1 z2 : Str} {xs : List V} {QT : Bool → Hp → Prop} {x : V} {c : Nat}
theorem x_lenS (h : z.length ≤ sizeLine) (q : Q (.int z.length) H) : rLen K [.str z] H Q := ⟨.str z, _, rfl, ⟨h, rfl⟩, q⟩
theorem x_lenL (h : H a = some (.lst xs)) (q : Q (.int xs.length) H) : rLen K [.ref a] H Q := ⟨.ref a, _, rfl, .inl ⟨xs, SqL.of h, rfl⟩, q⟩
theorem x_lenT (h : H a = some (.tup xs)) (q : Q (.int xs.length) H) : rLen K [.ref a] H Q := ⟨.ref a, _, rfl, .inr ⟨xs, SqT.of h, rfl⟩, q⟩
theorem x_int (q : Q (.int i) H) : rInt [.int i] H Q := .inl ⟨i, rfl, q⟩
theorem x_min2 (q : Q (.int (if j < i then j else i)) H) : rMin2 [.int i, .int j] H Q := ⟨i, j, rfl, q⟩
theorem x_max2 (q : Q (.int (if j > i then j else i)) H) : rMax2 [.int i, .int j] H Q := ⟨i, j, rfl, q⟩
theorem x_abs (q : Q (.int (if i < 0 then -i else i)) H) : rAbs [.int i] H Q := ⟨i, rfl, q⟩
theorem x_listOf (O : Own B H M R) (h : H a = some (.lst xs) ∨ H a = some (.tup xs)) (q : ∀ p H1, B p = none → Own B H1 M (R ++ [(p, .lst xs)]) → Q (.ref p) H1) : rListOf K [.ref a] H Q :=
  ⟨a, xs, rfl, h.imp SqL.of SqT.of, fun l hl => q l _ (O.base_free hl) (O.new hl)⟩
theorem x_addS (h : z1.length + z2.length ≤ sizeLine) (q : Q (.str (z1 ++ z2)) H) : rAddS (.str z1) (.str z2) H Q := ⟨z1, z2, rfl, rfl, h, q⟩
theorem x_inC (q : Q (.bl (decide (c ∈ TL.tl z))) H) : rInC (.str ⟨#[c]⟩) (.str z) H Q := ⟨c, z, rfl, rfl, q⟩
theorem x_notInC (q : Q (.bl (!decide (c ∈ TL.tl z))) H) : rNotInC (.str ⟨#[c]⟩) (.str z) H Q := ⟨c, z, rfl, rfl, q⟩
theorem x_isN (q : Q (.bl (decide (x = .non))) H) : rIsN x .non H Q := ⟨rfl, q⟩
theorem x_notN (q : Q (.bl (!decide (x = .non))) H) : rNotN x .non H Q := ⟨rfl, q⟩
theorem x_isNn (q : Q (.bl true) H) : rIsN .non .non H Q := ⟨rfl, q⟩
theorem x_notNn (q : Q (.bl false) H) : rNotN .non .non H Q := ⟨rfl, q⟩
theorem x_isNi (q : Q (.bl false) H) : rIsN (.int i) .non H Q := ⟨rfl, q⟩
theorem x_notNi (q : Q (.bl true) H) : rNotN (.int i) .non H Q := ⟨rfl, q⟩
theorem x_isNs (q : Q (.bl false) H) : rIsN (.str z) .non H Q := ⟨rfl, q⟩
theorem x_notNs (q : Q (.bl true) H) : rNotN (.str z) .non H Q := ⟨rfl, q⟩
theorem x_isNb {b : Bool} (q : Q (.bl false) H) : rIsN (.bl b) .non H Q := ⟨rfl, q⟩
theorem x_notNb {b : Bool} (q : Q (.bl true) H) : rNotN (.bl b) .non H Q := ⟨rfl, q⟩
theorem x_isNr (q : Q (.bl false) H) : rIsN (.ref a) .non H Q := ⟨rfl, q⟩
theorem x_notNr (q : Q (.bl true) H) : rNotN (.ref a) .non H Q := ⟨rfl, q⟩
theorem x_tru (q : ta σ H fun x H' => ∃ k, TruV K x H' k ∧ QT k H') : tTru K ta σ H QT := q
theorem x_truL {P : Bool → Prop} (h : H a = some (.lst xs)) (q : P (!xs.isEmpty)) : ∃ k, TruV K (.ref a) H k ∧ P k := ⟨_, .inl ⟨xs, SqL.of h, rfl⟩, q⟩
theorem x_truS {P : Bool → Prop} (h : z.length ≤ sizeLine) (q : P ((z.length : Int) != 0)) : ∃ k, TruV K (.str z) H k ∧ P k := ⟨_, ⟨h, rfl⟩, q⟩
theorem x_truB {P : Bool → Prop} {b : Bool} (q : P b) : ∃ k, TruV K (.bl b) H k ∧ P k := ⟨_, rfl, q⟩
theorem x_truI {P : Bool → Prop} (q : P (i != 0)) : ∃ k, TruV K (.int i) H k ∧ P k := ⟨_, rfl, q⟩
theorem x_truN {P : Bool → Prop} (q : P false) : ∃ k, TruV K .non H k ∧ P k := ⟨_, rfl, q⟩
theorem x_upper (h : z.length ≤ 5592405) (q : Q (.str (Txt.upper z)) H) : rUpper (.str z) [] H Q := ⟨z, rfl, rfl, h, q⟩
theorem x_lower (h : z.length ≤ 5592405) (q : Q (.str (Txt.lower z)) H) : rLower (.str z) [] H Q := ⟨z, rfl, rfl, h, q⟩
theorem x_find (q : Q (.int (Txt.find z1 z2)) H) : rFind (.str z1) [.str z2] H Q := ⟨z1, z2, rfl, rfl, q⟩
theorem x_joinL (ys : List Str) (h : H p = some (.lst (ys.map V.str))) (hz : (ys.map (·.length)).sum + ys.length * z.length ≤ 16777216) (q : Q (.str (Txt.join z ys)) H) : rJoin K (.str z) [.ref p] H Q :=
  ⟨z, p, ys, rfl, rfl, .inl (SqL.of h), hz, q⟩
end

/-! ### slices -/
section
variable {K : PySem.W.Frag} {σ : St} {B H H' : Hp} {M R : List (Addr × HO)} {a p : Addr} {Q : VK} {te : TE} {i : Int} {z : Str} {xs : List V} {tl th : TO} {r : V → Option Int → Option Int → Hp → VK → Prop} {QO : Option Int → Hp → Prop} {lo hi : Option Int}
theorem x_sl (q : te σ H fun x H1 => tl σ H1 fun l H2 => th σ H2 fun u H3 => r x l u H3 Q) : tSl r te tl th σ H Q := q
theorem x_noPart (q : QO none H) : tNoPart σ H QO := q
theorem x_part (q : te σ H fun x H1 => ∃ i, x = .int i ∧ QO (some i) H1) : tPart te σ H QO := q
theorem x_pI {P : Int → Prop} (q : P i) : ∃ j, V.int i = .int j ∧ P j := ⟨i, rfl, q⟩
theorem x_slS (hz : z.length ≤ sizeLine) (q : Q (.str (cutS z lo hi)) H) : rSlS (.str z) lo hi H Q := ⟨z, rfl, hz, q⟩
theorem x_slL (hx : SqL K H a xs) (O : Own B H M R) (q : ∀ p H1, B p = none → Own B H1 M (R ++ [(p, .lst (cutV xs lo hi))]) → Q (.ref p) H1) : rSlL K (.ref a) lo hi H Q := ⟨a, xs, rfl, hx, fun p hp => q p _ (O.base_free hp) (O.new hp)⟩
theorem Own.perm {R' : List (Addr × HO)} (O : Own B H M R) (h : R.Perm R') : Own B H M R' := by
  have e : (M ++ R).Perm (M ++ R') := List.Perm.append_left M h
  exact ⟨(e.map Prod.fst).nodup_iff.mp O.nd, fun x hx => O.at_ x (e.mem_iff.mpr hx), fun b hb o q => O.out b (fun z => hb ((e.map Prod.fst).mem_iff.mp z)) o q⟩
theorem Own.close {N : List (Addr × HO)} (O : Own B H [] (R ++ N)) : Own B H N R := by
  have e : ([] ++ (R ++ N)).Perm (N ++ R) := by rw [List.nil_append]; exact List.perm_append_comm
  exact ⟨(e.map Prod.fst).nodup_iff.mp O.nd, fun x hx => O.at_ x (e.mem_iff.mpr hx), fun b hb o q => O.out b (fun z => hb ((e.map Prod.fst).mem_iff.mp z)) o q⟩
end

section
variable {K : PySem.W.Frag} {B H : Hp} {M R : List (Addr × HO)} {a b : Addr} {Q : VK} {xs ys : List V}
theorem x_cat (O : Own B H M R) (h1 : H a = some (.lst xs)) (h2 : H b = some (.lst ys)) (hz : xs.length + ys.length ≤ sizeLine) (q : ∀ p H1, B p = none → Own B H1 M (R ++ [(p, .lst (xs ++ ys))]) → Q (.ref p) H1) : rCat (.ref a) (.ref b) H Q :=
  ⟨a, b, xs, ys, rfl, rfl, h1, h2, hz, fun p hp => q p _ (O.base_free hp) (O.new hp)⟩
theorem x_lstRg {te : St → Hp → (Int → Int → Hp → Prop) → Prop} {σ : St} (q : te σ H fun a b H1 => RgOk a b ∧ ∀ q, H1 q = none → Q (.ref q) (upd H1 q (.lst (rgV a b)))) : tLstRg te σ H Q := q
def newRg (a b : Int) (H : Hp) (Q : VK) : Prop := RgOk a b ∧ ∀ q, H q = none → Q (.ref q) (upd H q (.lst (rgV a b)))
theorem x_lstRg1 {ta : TE} {σ : St} (q : ta σ H fun x H1 => ∃ n, x = .int n ∧ newRg 0 n H1 Q) : tLstRg (tRg1 ta) σ H Q := q
theorem x_lstRg2 {ta tb : TE} {σ : St} (q : ta σ H fun x H1 => tb σ H1 fun y H2 => ∃ i j, x = .int i ∧ y = .int j ∧ newRg i j H2 Q) : tLstRg (tRg2 ta tb) σ H Q := q
theorem rgV_ints (a b : Int) : rgV a b = ((List.range (b - a).toNat).map fun i : Nat => a + (i : Int)).map V.int := by unfold rgV; rw [List.map_map]; rfl
theorem x_newRg {n m : Int} (O : Own B H M R) (h : RgOk n m) (q : ∀ p H1, B p = none → Own B H1 M (R ++ [(p, .lst (((List.range (m - n).toNat).map fun i : Nat => n + (i : Int)).map V.int))]) → Q (.ref p) H1) : newRg n m H Q :=
  ⟨h, fun p hp => q p _ (O.base_free hp) (by rw [← rgV_ints]; exact O.new hp)⟩
end

/-! ### promises: a part of the heap M is told by D and given back -/
/-- the closed part is what D says, at the cells A -/
structure In (D : Addr → List (Addr × HO) → Prop) (a : Addr) (A : List Addr) (M : List (Addr × HO)) : Prop where
  d : D a M
  e : M.map Prod.fst = A
/-- with a closed part (a box) at the first argument's address: D a M says what the box at a is -/
def spB (n : Nat) (D : Addr → List (Addr × HO) → Prop) (pre : List V → Prop) (post : List V → V → Prop) : Sp := fun vs H Q _ =>
  ∃ a A M rest, vs = .ref a :: rest ∧ rest.length = n ∧ In D a A M ∧ Own H H M [] ∧ pre rest ∧ ∀ v H' M', In D a A M' → Own H H' M' [] → post rest v → Q v H'
/-- plain values in, a plain value out -/
def spP (n : Nat) (pre : List V → Prop) (post : List V → V → Prop) : Sp := fun vs H Q _ => vs.length = n ∧ pre vs ∧ ∀ v H', Own H H' [] [] → post vs v → Q v H'
/-- plain values in, a new object out -/
def spNew (n : Nat) (pre : List V → Prop) (post : List V → HO → Prop) : Sp := fun vs H Q _ => vs.length = n ∧ pre vs ∧ ∀ p H' o, H p = none → Own H H' [] [(p, o)] → post vs o → Q (.ref p) H'
theorem hl_spNew {n : Nat} {pre : List V → Prop} {post : List V → HO → Prop} : ∀ vs H Q E, spNew n pre post vs H Q E → vs.length = n := fun vs H Q E h => h.1
theorem hl_spB {n : Nat} {D : Addr → List (Addr × HO) → Prop} {pre : List V → Prop} {post : List V → V → Prop} : ∀ vs H Q E, spB n D pre post vs H Q E → vs.length = n + 1 := fun vs H Q E h => by
  obtain ⟨a, A, M, rest, rfl, e, _⟩ := h
  rw [List.length_cons, e]
theorem hl_spP {n : Nat} {pre : List V → Prop} {post : List V → V → Prop} : ∀ vs H Q E, spP n pre post vs H Q E → vs.length = n := fun vs H Q E h => h.1
section
variable {B H : Hp} {M R : List (Addr × HO)} {a : Addr} {Q : VK} {E : XK} {D : Addr → List (Addr × HO) → Prop} {pre : List V → Prop} {post : List V → V → Prop} {vs : List V} {n : Nat}
theorem use_spP (O : Own B H M R) (hl : vs.length = n) (hp : pre vs) (q : ∀ v H', Own B H' M R → post vs v → Q v H') : spP n pre post vs H Q E := ⟨hl, hp, fun v H' O' h => q v H' (O.call0 O') h⟩
theorem use_spNew {post : List V → HO → Prop} (O : Own B H M R) (hl : vs.length = n) (hp : pre vs) (q : ∀ p H' o, B p = none → Own B H' M (R ++ [(p, o)]) → post vs o → Q (.ref p) H') : spNew n pre post vs H Q E :=
  ⟨hl, hp, fun p H' o hp O' h => q p H' o (O.base_free hp) (O.callN O' fun x hx => by rw [List.mem_singleton.mp hx]; exact hp) h⟩
theorem use_spB {rest : List V} {A : List Addr} (O : Own B H M R) (hD : In D a A M) (hl : rest.length = n) (hp : pre rest) (q : ∀ v H' M', In D a A M' → Own B H' M' R → post rest v → Q v H') : spB n D pre post (.ref a :: rest) H Q E :=
  ⟨a, A, M, rest, rfl, hl, hD, O.sub, hp, fun v H' M' hD' O' h => q v H' M' hD' (by
    have := O.call O' (hD'.e.trans hD.e.symm) (fun _ h => absurd h List.not_mem_nil)
    rw [List.append_nil] at this
    exact this) h⟩
theorem Own.opened (O : Own B H M []) : Own B H [] M := ⟨by have h := O.nd; rw [List.append_nil] at h; exact h, by have h := O.at_; rw [List.append_nil] at h; exact h, by have h := O.out; rw [List.append_nil] at h; exact h⟩
theorem Own.closed (O : Own B H [] R) : Own B H R [] := ⟨by rw [List.append_nil]; exact O.nd, by rw [List.append_nil]; exact O.at_, by rw [List.append_nil]; exact O.out⟩
end
end NF

/-! Own toolkit: further rules, defs by name, the end. -/
namespace NF
open PySem L2 PySem.Spec PyProof.Rows PySem.W

/-! ### a global constant, a def by its name -/
section
variable {X : Cx}
theorem pe_g {x : Str} {v : V} {pos : Pos} (hg : Gl X x) (hm : ∃ u, X.mg x = some u ∧ RelV v u) (hd : (x == ("__debug__" : Str)) = false := by decide) : PE X (.Name x pos) (tC v) := by
  obtain ⟨u, h, r⟩ := hm
  exact pe_glob hg h r hd
end
/-- a def as the top leaves it -/
def Fn0 (K : PySem.W.Frag) (mg : Str → Option Value) (x : Str) (st : Stmt) : Prop := ∃ f fd, Fun K x x st f fd ∧ mg x = some (.ref f)
/-- a def by its name, with its promise -/
structure Def (P : Program) (w : World) (K : PySem.W.Frag) (mg : Str → Option Value) (base : Heap) (k : Nat) (x : Str) (ps : List Str) (sp : Sp) : Prop where
  ex : ∃ f fd, FnOk P w K mg base CX0 k f fd ps sp ∧ mg x = some (.ref f) ∧ PySem.W.keepIn K (.ref f) = true ∧ Binds K fd ps []
section
variable {P : Program} {w : World} {K : PySem.W.Frag} {mg : Str → Option Value} {base : Heap}
theorem Def.mk0 {x : Str} {st : Stmt} {N ps : List Str} {k : Nat} {sp : Sp} (F : Fn0 K mg x st) (S : FnScope N ps (defScope st)) (len : ∀ vs H Q E, sp vs H Q E → vs.length = ps.length)
    (hbind : ∀ (kV doc pm : Value) (an : Option Addr) (cdv ct : Value) (us : List Value), us.length = ps.length → bindArgs (PySem.W.fnOf x x (defArgs st) (defBody st) (defScope st) .none kV doc pm an cdv ct) ⟨us, []⟩ = pure (ps.zip us))
    (hbody : ∀ {f : Addr} (cdv : Value) (A : Around) (outer : List Env) (s : Shared) (H : Hp) (vs : List V) (Q : VK) (E : XK), Room k (A.deeper (envOfC x (defScope st) s.heap.objs.size f cdv)) → sp vs H Q E →
      ∃ t, PSs (cxOf CX0 P w K mg base N x (defScope st) f cdv A outer s H E).nox (defBody st) t ∧ t { nx := fun _ H' => Q .non H', rt := Q } (start N vs) H) : Def P w K mg base (k + 1) x ps sp := by
  obtain ⟨f, fd, F, hm⟩ := F
  exact ⟨f, fd, F.ok S len fun cdv A outer s H vs Q E hr h => hbody cdv A outer s H vs Q E hr h, hm, F.kp, F.binds hbind⟩
end
section
variable {X : Cx} {k : Nat} {x : Str} {ps : List Str} {sp : Sp} {p pos : Pos} {e : Expr} {es : List Expr} {t : TA}
theorem pe_d (D : Def X.prog X.w X.K X.mg X.base k x ps sp) (hr : Room k X.A) (hg : Gl X x) (ha : PA X (e :: es) t) (hdb : (x == ("__debug__" : Str)) = false := by decide)
    (he : starEach (e :: es) X.env = (false, eval e X.env) :: starEach es X.env := by rfl) (hpl : (backTo pos (starEach es X.env)).any (·.1) = false := by rfl) : PE X (.Call (.Name x p) (e :: es) [] pos) (tCall sp [] E0 t) := by
  obtain ⟨f, fd, F, hm, hk, hb⟩ := D.ex
  exact pe_call F hr hg hm hk hb .nil pass0 ha hdb he hpl
theorem pe_d0 (D : Def X.prog X.w X.K X.mg X.base k x ps sp) (hr : Room k X.A) (hg : Gl X x) (hdb : (x == ("__debug__" : Str)) = false := by decide) : PE X (.Call (.Name x p) [] [] pos) (tCall sp [] E0 tNil) := by
  obtain ⟨f, fd, F, hm, hk, hb⟩ := D.ex
  exact pe_call0 F hr hg hm hk hb .nil pass0 hdb
end

/-! ### what the head hands over -/
structure Has (K : PySem.W.Frag) (x : Str) (st : Stmt) : Prop where
  ex : ∃ (f : Addr) (oc : Value) (od an : Option Addr) (kV dc pm cd ct : Value) (sl : Array (Option Value)), PySem.W.nsIn K mainGlobals x = some (some (.ref f)) ∧
    K.lookup f = some ⟨oc, od, .func (PySem.W.fnOf x x (defArgs st) (defBody st) (defScope st) .none kV dc pm an cd ct), sl⟩ ∧ PySem.W.codeIn K cd x = true ∧ PySem.W.keepIn K (.ref f) = true
theorem has_mk {K : PySem.W.Frag} {x : Str} {st : Stmt} {f : Addr} {oc : Value} {od an : Option Addr} {kV dc pm cd ct : Value} {sl : Array (Option Value)} (h1 : PySem.W.nsIn K mainGlobals x = some (some (.ref f)))
    (h2 : K.lookup f = some ⟨oc, od, .func (PySem.W.fnOf x x (defArgs st) (defBody st) (defScope st) .none kV dc pm an cd ct), sl⟩) (h3 : PySem.W.codeIn K cd x = true) (h4 : PySem.W.keepIn K (.ref f) = true) : Has K x st := ⟨f, oc, od, an, kV, dc, pm, cd, ct, sl, h1, h2, h3, h4⟩
theorem Has.fn {K : PySem.W.Frag} {x : Str} {st : Stmt} {h : Heap} {mg : Str → Option Value} (A : Has K x st) (X : K.In h) (G : h.Ns mainGlobals mg) : Fn0 K mg x st := by
  obtain ⟨f, oc, od, an, kV, dc, pm, cd, ct, sl, h1, h2, h3, h4⟩ := A.ex
  exact ⟨f, _, fun_mk h2 h3 h4, PySem.W.mg_of X G h1⟩
/-- a constant of the module -/
structure HasC (K : PySem.W.Frag) (x : Str) (v : V) : Prop where
  ex : ∃ u, PySem.W.nsIn K mainGlobals x = some (some u) ∧ RelV v u
theorem hasC_mk {K : PySem.W.Frag} {x : Str} {v : V} {u : Value} (h : PySem.W.nsIn K mainGlobals x = some (some u)) (r : RelV v u) : HasC K x v := ⟨u, h, r⟩
theorem HasC.mg {K : PySem.W.Frag} {x : Str} {v : V} {h : Heap} {mg : Str → Option Value} (A : HasC K x v) (X : K.In h) (G : h.Ns mainGlobals mg) : ∃ u, mg x = some u ∧ RelV v u := by
  obtain ⟨u, h1, r⟩ := A.ex
  exact ⟨u, PySem.W.mg_of X G h1, r⟩
theorem law_end {l : PySem.W.OpenLaw} {w : World} {K : PySem.W.Frag} {h : Heap} {mg : Str → Option Value} {fa : Addr} {st : Stmt} {k : Nat} {sp : Sp} (X : K.In h) (G : h.Ns mainGlobals mg) (hfa : mg "law" = some (.ref fa)) (A : Has K "law" st)
    (hbind : ∀ (kV doc pm : Value) (an : Option Addr) (cdv ct : Value) (s : Shared) (v : Value), BindsTo s (PySem.W.fnOf "law" "law" (defArgs st) (defBody st) (defScope st) .none kV doc pm an cdv ct) ⟨[v], []⟩ [("script", v)])
    (F : ∀ (base : Heap) (fd : FuncData), Fun K "law" "law" st fa fd → FnOk l.prog w K mg base CX0 k fa fd ["script"] sp) :
    ∃ fd : FuncData, (∀ (s : Shared) (v : Value), BindsTo s fd ⟨[v], []⟩ [("script", v)]) ∧ ∀ base : Heap, K.In base → base.Ns mainGlobals mg → FnOk l.prog w K mg base CX0 k fa fd ["script"] sp := by
  obtain ⟨f, oc, od, an, kV, dc, pm, cd, ct, sl, h1, h2, h3, h4⟩ := A.ex
  have e := hfa.symm.trans (PySem.W.mg_of X G h1)
  cases e
  exact ⟨_, fun s v => hbind kV dc pm an cd ct s v, fun base _ _ => F base _ (fun_mk h2 h3 h4)⟩

/-! ### isinstance(x, T), T a built-in class -/
def rIsT (K : PySem.W.Frag) : List V → Hp → VK → Prop := fun xs H Q => ∃ x T n b, xs = [x, .ty T] ∧ TyX K H x (.type n) ∧ kitB n T = some b ∧ Q (.bl b) H
theorem callIsT {X : Cx} : CallR X (.builtin "isinstance") (rIsT X.K) := fun pins s σ H xs us Q I r h => by
  obtain ⟨x, T, n, b, rfl, ty, hb, q⟩ := h
  exact call_isi pins s σ H _ us Q I r ⟨x, .ty T, .type n, .type T, b, rfl, .ty T, ty, kit_ty hb, q⟩
theorem pe_ty {X : Cx} {T : Str} {n : String} {q : Pos} (hgT : Gl X T) (hmT : X.mg T = none) (hvT : bootBuiltins T = some (.type n)) (hn : T ≠ "__name__" := by decide) (hd : (T == ("__debug__" : Str)) = false := by decide) : PE X (.Name T q) (tC (.ty n)) :=
  pe_bltn hgT hmT hvT rfl hn hd
section
variable {K : PySem.W.Frag} {H : Hp} {Q : VK} {T : String} {a : Addr} {xs : List V} {b : Bool}
theorem x_isI {i : Int} (hb : kitB "int" T = some b) (q : Q (.bl b) H) : rIsT K [.int i, .ty T] H Q := ⟨_, _, _, b, rfl, .base (.int i), hb, q⟩
theorem x_isB {i : Bool} (hb : kitB "bool" T = some b) (q : Q (.bl b) H) : rIsT K [.bl i, .ty T] H Q := ⟨_, _, _, b, rfl, .base (.bl i), hb, q⟩
theorem x_isS {i : Str} (hb : kitB "str" T = some b) (q : Q (.bl b) H) : rIsT K [.str i, .ty T] H Q := ⟨_, _, _, b, rfl, .base (.str i), hb, q⟩
theorem x_isNon (hb : kitB "NoneType" T = some b) (q : Q (.bl b) H) : rIsT K [.non, .ty T] H Q := ⟨_, _, _, b, rfl, .base .non, hb, q⟩
theorem x_isL (h : H a = some (.lst xs)) (hb : kitB "list" T = some b) (q : Q (.bl b) H) : rIsT K [.ref a, .ty T] H Q := ⟨_, _, _, b, rfl, .base (.lst h), hb, q⟩
theorem x_isT (h : H a = some (.tup xs)) (hb : kitB "tuple" T = some b) (q : Q (.bl b) H) : rIsT K [.ref a, .ty T] H Q := ⟨_, _, _, b, rfl, .base (.tup h), hb, q⟩
end

theorem kit_int_int : kitB "int" "int" = some true := by decide +kernel
theorem kit_int_bool : kitB "int" "bool" = some false := by decide +kernel
theorem kit_int_str : kitB "int" "str" = some false := by decide +kernel
theorem kit_int_list : kitB "int" "list" = some false := by decide +kernel
theorem kit_int_tuple : kitB "int" "tuple" = some false := by decide +kernel
theorem kit_int_dict : kitB "int" "dict" = some false := by decide +kernel
theorem kit_bool_int : kitB "bool" "int" = some true := by decide +kernel
theorem kit_bool_bool : kitB "bool" "bool" = some true := by decide +kernel
theorem kit_bool_str : kitB "bool" "str" = some false := by decide +kernel
theorem kit_bool_list : kitB "bool" "list" = some false := by decide +kernel
theorem kit_bool_tuple : kitB "bool" "tuple" = some false := by decide +kernel
theorem kit_bool_dict : kitB "bool" "dict" = some false := by decide +kernel
theorem kit_str_int : kitB "str" "int" = some false := by decide +kernel
theorem kit_str_bool : kitB "str" "bool" = some false := by decide +kernel
theorem kit_str_str : kitB "str" "str" = some true := by decide +kernel
theorem kit_str_list : kitB "str" "list" = some false := by decide +kernel
theorem kit_str_tuple : kitB "str" "tuple" = some false := by decide +kernel
theorem kit_str_dict : kitB "str" "dict" = some false := by decide +kernel
theorem kit_NoneType_int : kitB "NoneType" "int" = some false := by decide +kernel
theorem kit_NoneType_bool : kitB "NoneType" "bool" = some false := by decide +kernel
theorem kit_NoneType_str : kitB "NoneType" "str" = some false := by decide +kernel
theorem kit_NoneType_list : kitB "NoneType" "list" = some false := by decide +kernel
theorem kit_NoneType_tuple : kitB "NoneType" "tuple" = some false := by decide +kernel
theorem kit_NoneType_dict : kitB "NoneType" "dict" = some false := by decide +kernel
theorem kit_list_int : kitB "list" "int" = some false := by decide +kernel
theorem kit_list_bool : kitB "list" "bool" = some false := by decide +kernel
theorem kit_list_str : kitB "list" "str" = some false := by decide +kernel
theorem kit_list_list : kitB "list" "list" = some true := by decide +kernel
theorem kit_list_tuple : kitB "list" "tuple" = some false := by decide +kernel
theorem kit_list_dict : kitB "list" "dict" = some false := by decide +kernel
theorem kit_tuple_int : kitB "tuple" "int" = some false := by decide +kernel
theorem kit_tuple_bool : kitB "tuple" "bool" = some false := by decide +kernel
theorem kit_tuple_str : kitB "tuple" "str" = some false := by decide +kernel
theorem kit_tuple_list : kitB "tuple" "list" = some false := by decide +kernel
theorem kit_tuple_tuple : kitB "tuple" "tuple" = some true := by decide +kernel
theorem kit_tuple_dict : kitB "tuple" "dict" = some false := by decide +kernel
theorem kit_dict_int : kitB "dict" "int" = some false := by decide +kernel
theorem kit_dict_bool : kitB "dict" "bool" = some false := by decide +kernel
theorem kit_dict_str : kitB "dict" "str" = some false := by decide +kernel
theorem kit_dict_list : kitB "dict" "list" = some false := by decide +kernel
theorem kit_dict_tuple : kitB "dict" "tuple" = some false := by decide +kernel
theorem kit_dict_dict : kitB "dict" "dict" = some true := by decide +kernel

/-! ### text * n -/
def rMulS : R2 := fun x y H Q => ∃ z n, x = .str z ∧ y = .int n ∧ z.length ≤ 1000000 ∧ n ≤ 1000000 ∧ -(2 ^ 63) ≤ n ∧ z.length * n.toNat ≤ sizeLine ∧ Q (.str (Txt.mul z n)) H
theorem opMulS {X : Cx} : OpR X (binaryOp .Mult) rMulS := fun pins s σ H x y u v Q I rx ry h => by
  obtain ⟨z, n, rfl, rfl, hz, hn, hn0, hl, q⟩ := h
  obtain ⟨t, rfl⟩ := rx
  obtain ⟨t', rfl⟩ := ry
  refine SB.mul ⟨?_, fun h1 h2 => ?_, fun h1 h2 => ?_⟩ fun t' k => ⟨.str (Txt.mul z n), H, I.tok k, ⟨_, rfl⟩, q⟩
  · rw [decide_eq_false (by omega), decide_eq_false (by omega)]
    rfl
  · have h3 : (1000000 : Int) ≤ (2 ^ 63 - 1) / n := by
      rw [Int.le_ediv_iff_mul_le (by omega)]
      have : (1000000 : Int) * n ≤ 1000000 * 1000000 := Int.mul_le_mul_of_nonneg_left hn (by decide)
      omega
    omega
  · show decide (z.length * n.toNat > sizeLine) = false
    exact decide_eq_false (by omega)

/-! ### (n, text) < (m, text) -/
def ltIS (a : Int × Str) (b : Int × Str) : Bool := DatumOrd.lt a b
def rLtIS (K : PySem.W.Frag) : R2 := fun x y H Q => ∃ a b n m z1 z2, x = .ref a ∧ y = .ref b ∧ SqT K H a [.int n, .str z1] ∧ SqT K H b [.int m, .str z2] ∧ Q (.bl (ltIS (n, z1) (m, z2))) H
theorem holds_is {h : Heap} {l : Addr} {n : Int} {z : Str} {its : List Value} (p : IsTup h l its.toArray) (r : Vals [.int n, .str z] its) : Holds h (.ref l) (n, z) := by
  obtain ⟨u, v, rfl, r1, r2⟩ := vals2 r
  obtain ⟨t, rfl⟩ := r1
  obtain ⟨t', rfl⟩ := r2
  obtain ⟨o, e1, e2, k, e3⟩ := p
  exact holds_pair ⟨o, e1, e2, k, e3⟩ (holds_int n t) (holds_str z t')
theorem opLtIS {X : Cx} (hu : X.A.units + 64 < cLine) : OpR X (compareOp .Lt) (rLtIS X.K) := fun pins s σ H x y u v Q I rx ry h => by
  obtain ⟨a, b, n, m, z1, z2, rfl, rfl, ha, hb, q⟩ := h
  cases rx
  cases ry
  obtain ⟨its, r1, p1, _⟩ := I.tuple ha
  obtain ⟨its2, r2, p2, _⟩ := I.tuple hb
  exact lt_datum (holds_is p1 r1) (holds_is p2 r2) (by
    have : Datum.depth (Int × Str) ≤ 64 := by decide
    omega) ⟨.bl (ltIS (n, z1) (m, z2)), H, I, rfl, q⟩
theorem x_ltIS {K : PySem.W.Frag} {H : Hp} {Q : VK} {a b : Addr} {n m : Int} {z1 z2 : Str} (ha : H a = some (.tup [.int n, .str z1])) (hb : H b = some (.tup [.int m, .str z2])) (q : Q (.bl (ltIS (n, z1) (m, z2))) H) : rLtIS K (.ref a) (.ref b) H Q :=
  ⟨a, b, n, m, z1, z2, rfl, rfl, SqT.of ha, SqT.of hb, q⟩

/-! ### enumerate(text) -/
def Ites (x : Str) : It :=
  ⟨fun i _ => i < x.cps.size, fun i H v H' => ∃ T c, v = .ref T ∧ H T = none ∧ H' = upd H T (.tup [.int (i : Nat), .str ⟨#[c]⟩]) ∧ x.cps[i]? = some c, fun i _ => i = x.cps.size⟩
theorem turn_enumS {P : Program} {w : World} {K : PySem.W.Frag} {elts : List Expr} {kk : Nat} {tpos : Pos} (x : Str) (t : Tok) (e it : Addr) :
    Turn P w K (.Tuple elts kk tpos) (Ites x) [e, it] e (fun i h => (∃ old, IsEnum h e it ((i : Nat) : Int) old) ∧ h.IsStrIter it (strIterType x) x t i ∧ e ≠ it) where
  mem := by simp
  obj := fun i h st b hb => by
    obtain ⟨⟨old, he⟩, ⟨o, ho, hc, hd⟩, _⟩ := st
    have e' : b = e ∨ b = it := by simpa using hb
    rcases e' with z | z
    · rw [z]; exact ⟨_, he, fun v q => nomatch q⟩
    · rw [z]; exact ⟨o, ho, fun v q => by rw [hd] at q; cases q⟩
  keep := fun i h h' st k => by
    obtain ⟨⟨old, he⟩, ⟨o, ho, r⟩, hne⟩ := st
    exact ⟨⟨old, k e (by simp) _ he⟩, ⟨o, k it (by simp) o ho, r⟩, hne⟩
  item := by
    intro X hP hw hK hc i pins s σ H E I hf st hg
    subst hP hw hK
    obtain ⟨⟨old, he⟩, hit, hne⟩ := st
    have hel : e < s.heap.objs.size := Heap.lt_size he
    have hil : it < s.heap.objs.size := by obtain ⟨_, q, _⟩ := hit; exact Heap.lt_size q
    refine wpAny_pyNext_enum_itemD (Draws.text (A := X.A.in1) (I.ok.hd hc) it x t) he hit hg hne (by simpa using hne) fun u h' tk hP ho hit' hT hsz hk => ?_
    obtain ⟨c, tu, hx, rfl⟩ := hP
    refine ⟨_, rfl, wpAny_letOwnedTupleGo_enum (s := { s with heap := h', toks := tk + 1 }) ho fun h'' he' sb => ?_⟩
    have hT2 : h''.get? s.heap.objs.size = some { cls := .type "tuple", data := .seq #[.int i tk, .str ⟨#[c]⟩ tu] } := (sb.2 _ (Nat.ne_of_gt hel)).trans hT
    have new : ObjOk X.prog X.w (upd H s.heap.objs.size (.tup [.int (i : Nat), .str ⟨#[c]⟩])) h'' s.heap.objs.size (.tup [.int (i : Nat), .str ⟨#[c]⟩]) :=
      ⟨by show 2 ≤ sizeLine; decide, [.int i tk, .str ⟨#[c]⟩ tu], .cons ⟨_, rfl⟩ (.cons ⟨_, rfl⟩ .nil), ⟨_, hT2, rfl, _, rfl⟩⟩
    have I1 : Inv X pins σ (upd H s.heap.objs.size (.tup [.int (i : Nat), .str ⟨#[c]⟩])) { s with heap := h'', toks := tk + 1 } :=
      I.turnedNew (ch := [e, it]) (fun b ob hb q => (sb.2 b (fun z => hb (by simp [z]))).trans (hk b ob (fun z => hb (by simp [z])) (fun z => hb (by simp [z])) q)) hf (Nat.le_refl _) new
    refine ⟨.ref s.heap.objs.size, _, I1, rfl, ⟨_, c, rfl, I.hok.fresh (Nat.le_refl _), rfl, hx⟩, ⟨⟨.str ⟨#[c]⟩ tu, ?_⟩, ?_, hne⟩, fun b hb => ?_⟩
    · have e1 : ((i + 1 : Nat) : Int) = (i : Int) + 1 := by omega
      rw [e1]; exact he'
    · obtain ⟨o, ho2, r⟩ := hit'
      exact ⟨o, (sb.2 it (Ne.symm hne)).trans ho2, r⟩
    · have hb' : b < s.heap.objs.size := by
        have e' : b = e ∨ b = it := by simpa using hb
        rcases e' with z | z
        · rw [z]; exact hel
        · rw [z]; exact hil
      rw [upd_ne (Nat.ne_of_lt hb')]
      exact (hf b hb).1
  done := by
    intro X hP hw hK hc i pins s σ H E I hf st hg
    subst hP hw hK
    obtain ⟨⟨old, he⟩, hit, hne⟩ := st
    obtain ⟨f0, f1, f2, f3, f4, f5⟩ := hf it (by simp)
    have hg' : i = x.cps.size := hg
    subst hg'
    exact wpAny_pyNext_enum_endD (Draws.text (A := X.A.in1) (I.ok.hd hc) it x t) he hit fun h' eb => ⟨rfl, I.turned (t' := s.toks) (fun b o hb q => eb b o hb q) f0 f1 f3 f4 f5⟩
  self := fun A i s Q E st h => let ⟨⟨_, he⟩, _⟩ := st; wpAny_pyIter_enum he h
def iEnumS (ta : TA) : TI := fun σ H R => ta σ H fun vs H1 => ∃ x, vs = [.str x] ∧ R (Ites x) H1
theorem pi_enumS {X : Cx} {e : Expr} {ta : TA} {p pos tpos : Pos} {elts : List Expr} {kk : Nat} (hg : Gl X "enumerate") (hm : X.mg "enumerate" = none) (ha : PA X [e] ta) (hs : starEach [e] X.env = [(false, eval e X.env)] := by rfl) :
    PI X (.Tuple elts kk tpos) (.Call (.Name "enumerate" p) [e] [] pos) (iEnumS ta) := by
  refine ⟨fun pins s σ H R I h => ?_⟩
  refine Call_ (ld_blt I hg hm boot_enumerate (PyProof.Rows.callWith_type1 (thn (ha.run pos pins s σ H _ I h) fun us s1 ⟨vs, H1, I1, r1, q1⟩ => ?_) hs rfl))
  obtain ⟨x, ex, q⟩ := q1
  subst ex
  cases r1 with
  | cons r rr =>
    cases rr
    obtain ⟨t, rfl⟩ := r
    refine call_enumerate_str fun h' he hit hsz hk => wpAny_pyIter_enum he ?_
    have I2 : Inv X pins σ H1 { s1 with heap := h' } := I1.kept (t' := s1.toks) hk
    refine ⟨s1.heap.objs.size + 1, [s1.heap.objs.size + 1, s1.heap.objs.size], _, _, H1, rfl, I2, turn_enumS x t (s1.heap.objs.size + 1) s1.heap.objs.size, ⟨⟨.none, he⟩, hit, Nat.succ_ne_self _⟩, fun b hb => ?_, q⟩
    have e' : b = s1.heap.objs.size + 1 ∨ b = s1.heap.objs.size := by simpa using hb
    have hle : s1.heap.objs.size ≤ b := by
      rcases e' with z | z
      · rw [z]; exact Nat.le_add_right _ _
      · rw [z]; exact Nat.le_refl _
    exact I1.fpOk hle (I1.hok.fresh hle)
end NF

/-! Own toolkit: loops and comprehensions. -/
namespace NF
open PySem L2

theorem Own.ignore {B H : Hp} {M R : List (Addr × HO)} {T : Addr} {o : HO} (O : Own B H M R) (h : H T = none) : Own B (upd H T o) M R :=
  ⟨O.nd, fun x hx => by
    have q := O.at_ x hx
    have n : x.1 ≠ T := fun e => by rw [e, h] at q; cases q
    rw [upd_ne n]
    exact q, fun b hb v e => by
    have q := O.out b hb v e
    have n : b ≠ T := fun e => by rw [e, h] at q; cases q
    rw [upd_ne n]
    exact q⟩
theorem Own.last {B H : Hp} {M R : List (Addr × HO)} {p : Addr} {o : HO} (O : Own B H M (R ++ [(p, o)])) : H p = some o :=
  O.at_ (p, o) (List.mem_append_right _ (List.mem_append_right _ (List.mem_singleton.mpr rfl)))
theorem Own.putLast {B H : Hp} {M R : List (Addr × HO)} {p : Addr} {o u : HO} (O : Own B H M (R ++ [(p, o)])) : Own B (upd H p u) M (R ++ [(p, u)]) := by
  have e : (R ++ [(p, o)])[R.length]? = some (p, o) := by rw [List.getElem?_append_right (Nat.le_refl _), Nat.sub_self]; rfl
  have h := O.put R.length e u
  rw [List.set_append_right _ _ (Nat.le_refl _), Nat.sub_self] at h
  exact h

/-- what a for asks of its iterator -/
def forR (g : TG) (tb : TS) (D : Ends) (σ : St) : It → Hp → Prop := fun J H1 => ∃ W : Nat → Nat → St → Hp → Prop, (∃ m, W 0 m σ H1) ∧ ∀ i m σ H, W i m σ H →
  (J.stop i H ∧ D.nx σ H) ∨ (J.go i H ∧ ∃ N : St → Hp → Prop, (∀ σ' H', N σ' H' → ∃ m', m' < m ∧ W (i + 1) m' σ' H') ∧ ∀ x H', J.yld i H x H' → g x σ H' fun σ2 H2 => tb { D with nx := N, ct := N, bk := D.nx } σ2 H2)
/-- what a comprehension asks of its iterator -/
def lcR (g : TG) (tt : TT) (te : TE) (vs : List Nat) (σ : St) (Q : VK) : It → Hp → Prop := fun J H1 => ∀ D, H1 D = none → ∃ W : Nat → Nat → Hp → Prop, (∃ m, W 0 m (upd H1 D (.lst []))) ∧ ∀ i m H, W i m H →
  (J.stop i H ∧ Q (.ref D) H) ∨ (J.go i H ∧ ∃ Nx : Hp → Prop, (∀ H', Nx H' → ∃ m', m' < m ∧ W (i + 1) m' H') ∧ ∀ x H', J.yld i H x H' → g x (wipe σ vs) H' fun σ2 H2 => wipe σ2 vs = wipe σ vs ∧ tt σ2 H2 fun b H3 =>
    if b = true then te σ2 H3 fun y H4 => ∃ acc, H4 D = some (.lst acc) ∧ acc.length < sizeLine ∧ Nx (upd H4 D (.lst (acc ++ [y]))) else Nx H3)
/-! what is walked, by its values -/
def jRng1 : List V → Hp → (It → Hp → Prop) → Prop := fun vs H1 R => ∃ j : Int, vs = [.int j] ∧ -(2 ^ 62) ≤ j ∧ j < 2 ^ 62 ∧ R (Itr 0 j.toNat) H1
def jRng2 : List V → Hp → (It → Hp → Prop) → Prop := fun vs H1 R => ∃ i j : Int, vs = [.int i, .int j] ∧ (-(2 ^ 62) ≤ i ∧ i < 2 ^ 62 ∧ -(2 ^ 62) ≤ j ∧ j < 2 ^ 62) ∧ R (Itr i (j - i).toNat) H1
def jList (K : PySem.W.Frag) : V → Hp → (It → Hp → Prop) → Prop := fun x H1 R => ∃ a, x = .ref a ∧ (∃ xs, SqL K H1 a xs) ∧ R (Itl K a) H1
def jTup (K : PySem.W.Frag) : V → Hp → (It → Hp → Prop) → Prop := fun x H1 R => ∃ a, x = .ref a ∧ (∃ xs, SqT K H1 a xs) ∧ R (Itt K a) H1
def jStr : V → Hp → (It → Hp → Prop) → Prop := fun v H1 R => ∃ x, v = .str x ∧ R (Its x) H1
def jEnumS : List V → Hp → (It → Hp → Prop) → Prop := fun vs H1 R => ∃ x, vs = [.str x] ∧ R (Ites x) H1
def jEnum (K : PySem.W.Frag) : List V → Hp → (It → Hp → Prop) → Prop := fun vs H1 R => ∃ a xs, vs = [.ref a] ∧ SqL K H1 a xs ∧ R (Ite K a) H1
section
variable {K : PySem.W.Frag} {σ : St} {B H : Hp} {M R : List (Addr × HO)} {a : Addr} {g : TG} {tb : TS} {D : Ends} {wi : TI} {tar : TA} {te tl : TE} {tt : TT} {vs : List Nat} {Q : VK} {RI : It → Hp → Prop}
theorem x_for (q : wi σ H (forR g tb D σ)) : tFor wi g tb D σ H := q
theorem x_lc (q : wi σ H (lcR g tt te vs σ Q)) : tLc wi g tt te vs σ H Q := q
theorem x_yes {QT : Bool → Hp → Prop} (q : QT true H) : tYes σ H QT := q
theorem x_jR1 (q : tar σ H fun vs H1 => jRng1 vs H1 RI) : iRng1 tar σ H RI := q
theorem x_jR2 (q : tar σ H fun vs H1 => jRng2 vs H1 RI) : iRng2 tar σ H RI := q
theorem x_jL (q : tl σ H fun v H1 => jList K v H1 RI) : iList K tl σ H RI := q
theorem x_jT (q : tl σ H fun v H1 => jTup K v H1 RI) : iTup K tl σ H RI := q
theorem x_jS (q : tl σ H fun v H1 => jStr v H1 RI) : iStr tl σ H RI := q
theorem x_jE (q : tar σ H fun vs H1 => jEnumS vs H1 RI) : iEnumS tar σ H RI := q
theorem x_jEL (q : tar σ H fun vs H1 => jEnum K vs H1 RI) : iEnum K tar σ H RI := q
section
variable {nx bk ct : St → Hp → Prop} {rt : VK}
/-! #### for: an invariant by the turn -/
theorem f_rng1 {n : Int} {j : Nat} (hn : -(2 ^ 62) ≤ n ∧ n < 2 ^ 62) (Pv : Nat → St → Hp → Prop) (h0 : Pv 0 σ H)
    (hs : ∀ (i : Nat) σ H, (i : Int) < n → Pv i σ H → tb ⟨Pv (i + 1), rt, nx, Pv (i + 1)⟩ (σ.set j (some (.int (i : Int)))) H) (hd : ∀ σ H, Pv n.toNat σ H → nx σ H) : jRng1 [.int n] H (forR (gName j) tb ⟨nx, rt, bk, ct⟩ σ) :=
  ⟨n, rfl, hn.1, hn.2, for_range (lo := 0) Pv h0 (fun i σ H hi p => by
    show tb _ (σ.set j (some (.int ((0 : Int) + (i : Int))))) H
    rw [Int.zero_add]
    exact hs i σ H (by omega) p) hd⟩
theorem f_rng2 {lo n : Int} {j : Nat} (hn : (-(2 ^ 62) ≤ lo ∧ lo < 2 ^ 62) ∧ -(2 ^ 62) ≤ n ∧ n < 2 ^ 62) (Pv : Nat → St → Hp → Prop) (h0 : Pv 0 σ H)
    (hs : ∀ (i : Nat) σ H, lo + (i : Int) < n → Pv i σ H → tb ⟨Pv (i + 1), rt, nx, Pv (i + 1)⟩ (σ.set j (some (.int (lo + (i : Int))))) H) (hd : ∀ σ H, Pv (n - lo).toNat σ H → nx σ H) : jRng2 [.int lo, .int n] H (forR (gName j) tb ⟨nx, rt, bk, ct⟩ σ) :=
  ⟨lo, n, rfl, ⟨hn.1.1, hn.1.2, hn.2.1, hn.2.2⟩, for_range (lo := lo) Pv h0 (fun i σ H hi p => hs i σ H (by omega) p) hd⟩
theorem f_list {xs : List V} {j : Nat} (hx : SqL K H a xs) (Pv : Nat → St → Hp → Prop) (h0 : Pv 0 σ H) (hl : ∀ i σ H, Pv i σ H → SqL K H a xs)
    (hs : ∀ (i : Nat) x σ H, xs[i]? = some x → Pv i σ H → tb ⟨Pv (i + 1), rt, nx, Pv (i + 1)⟩ (σ.set j (some x)) H) (hd : ∀ σ H, Pv xs.length σ H → nx σ H) : jList K (.ref a) H (forR (gName j) tb ⟨nx, rt, bk, ct⟩ σ) :=
  ⟨a, rfl, ⟨xs, hx⟩, for_list Pv h0 (fun i σ H _ p => hl i σ H p) (fun i x σ H hx p => hs i x σ H hx p) hd⟩
theorem f_listG {xs : List V} (hx : SqL K H a xs) (Pv : Nat → St → Hp → Prop) (h0 : Pv 0 σ H) (hl : ∀ i σ H, Pv i σ H → SqL K H a xs)
    (hs : ∀ (i : Nat) x σ H, xs[i]? = some x → Pv i σ H → g x σ H fun σ2 H2 => tb ⟨Pv (i + 1), rt, nx, Pv (i + 1)⟩ σ2 H2) (hd : ∀ σ H, Pv xs.length σ H → nx σ H) : jList K (.ref a) H (forR g tb ⟨nx, rt, bk, ct⟩ σ) :=
  ⟨a, rfl, ⟨xs, hx⟩, for_list Pv h0 (fun i σ H _ p => hl i σ H p) (fun i x σ H hx p => hs i x σ H hx p) hd⟩
theorem f_tup {xs : List V} {j : Nat} (hx : SqT K H a xs) (Pv : Nat → St → Hp → Prop) (h0 : Pv 0 σ H) (hl : ∀ i σ H, Pv i σ H → SqT K H a xs)
    (hs : ∀ (i : Nat) x σ H, xs[i]? = some x → Pv i σ H → tb ⟨Pv (i + 1), rt, nx, Pv (i + 1)⟩ (σ.set j (some x)) H) (hd : ∀ σ H, Pv xs.length σ H → nx σ H) : jTup K (.ref a) H (forR (gName j) tb ⟨nx, rt, bk, ct⟩ σ) :=
  ⟨a, rfl, ⟨xs, hx⟩, for_tup Pv h0 (fun i σ H _ p => hl i σ H p) (fun i x σ H hx p => hs i x σ H hx p) hd⟩
theorem f_str {z : Str} {j : Nat} (Pv : Nat → St → Hp → Prop) (h0 : Pv 0 σ H)
    (hs : ∀ (i : Nat) c σ H, z.cps[i]? = some c → Pv i σ H → tb ⟨Pv (i + 1), rt, nx, Pv (i + 1)⟩ (σ.set j (some (.str ⟨#[c]⟩))) H) (hd : ∀ σ H, Pv z.cps.size σ H → nx σ H) : jStr (.str z) H (forR (gName j) tb ⟨nx, rt, bk, ct⟩ σ) :=
  ⟨z, rfl, for_it walk_str Pv h0 (fun _ _ _ _ _ => trivial) (fun i x σ H H' hi p y => by
    obtain ⟨rfl, c, hc, rfl⟩ := y
    exact hs i c σ _ hc p) hd⟩
theorem f_enumS {z : Str} {j1 j2 : Nat} (Pv : Nat → St → Hp → Prop) (h0 : Pv 0 σ H)
    (hs : ∀ (i : Nat) c σ H H', z.cps[i]? = some c → Pv i σ H → (∀ B M R, Own B H M R → Own B H' M R) → tb ⟨Pv (i + 1), rt, nx, Pv (i + 1)⟩ ((σ.set j1 (some (.int (i : Int)))).set j2 (some (.str ⟨#[c]⟩))) H') (hd : ∀ σ H, Pv z.cps.size σ H → nx σ H) :
    jEnumS [.str z] H (forR (gTup K 2 (gCons (gName j1) (gCons (gName j2) gNil))) tb ⟨nx, rt, bk, ct⟩ σ) := by
  refine ⟨z, rfl, fun i m σ H => m = z.cps.size - i ∧ i ≤ z.cps.size ∧ Pv i σ H, ⟨_, by simp; rfl, Nat.zero_le _, h0⟩, ?_⟩
  rintro i m σ H ⟨rfl, hi, p⟩
  by_cases hlt : i < z.cps.size
  · refine .inr ⟨hlt, Pv (i + 1), fun σ' H' p' => ⟨z.cps.size - (i + 1), by omega, rfl, hlt, p'⟩, ?_⟩
    rintro x H' ⟨T, c, rfl, hT, rfl, hc⟩
    exact ⟨T, [.int (i : Nat), .str ⟨#[c]⟩], rfl, SqT.of upd_same, rfl, _, _, rfl, _, _, rfl, rfl, hs i c σ H _ hc p fun B M R O => O.ignore hT⟩
  · have e : i = z.cps.size := by omega
    subst e
    exact .inl ⟨rfl, hd σ H p⟩
/-- enumerate(list) -/
theorem f_enum {xs : List V} {j1 j2 : Nat} (hx : SqL K H a xs) (Pv : Nat → St → Hp → Prop) (h0 : Pv 0 σ H) (hl : ∀ i σ H, Pv i σ H → SqL K H a xs)
    (hs : ∀ (i : Nat) c σ H H', xs[i]? = some c → Pv i σ H → (∀ B M R, Own B H M R → Own B H' M R) → tb ⟨Pv (i + 1), rt, nx, Pv (i + 1)⟩ ((σ.set j1 (some (.int (i : Int)))).set j2 (some c)) H') (hd : ∀ σ H, Pv xs.length σ H → nx σ H) :
    jEnum K [.ref a] H (forR (gTup K 2 (gCons (gName j1) (gCons (gName j2) gNil))) tb ⟨nx, rt, bk, ct⟩ σ) := by
  refine ⟨a, xs, rfl, hx, fun i m σ H => m = xs.length - i ∧ i ≤ xs.length ∧ Pv i σ H, ⟨_, by simp; rfl, Nat.zero_le _, h0⟩, ?_⟩
  rintro i m σ H ⟨rfl, hi, p⟩
  have q := hl i σ H p
  by_cases hlt : i < xs.length
  · refine .inr ⟨⟨xs, xs[i], q, by simp [hlt]⟩, Pv (i + 1), fun σ' H' p' => ⟨xs.length - (i + 1), by omega, rfl, hlt, p'⟩, ?_⟩
    rintro x H' ⟨T, c, rfl, hT, rfl, hc⟩
    exact ⟨T, [.int (i : Nat), c], rfl, SqT.of upd_same, rfl, _, _, rfl, _, _, rfl, rfl, hs i c σ H _ (hc xs q) p fun B M R O => O.ignore hT⟩
  · have e : i = xs.length := by omega
    subst e
    exact .inl ⟨⟨xs, q, Nat.le_refl _⟩, hd σ H p⟩
end
/-! #### while: an invariant with a measure -/
theorem x_while {nx bk ct : St → Hp → Prop} {rt : VK} (I : Nat → St → Hp → Prop) (m : Nat) (h0 : I m σ H)
    (hs : ∀ m σ H, I m σ H → tt σ H fun b H1 => if b = true then (∃ N : St → Hp → Prop, (∀ σ' H', N σ' H' → ∃ m', m' < m ∧ I m' σ' H') ∧ tb ⟨N, rt, nx, N⟩ σ H1) else nx σ H1) : tWhile tt tb ⟨nx, rt, bk, ct⟩ σ H := ⟨I, ⟨m, h0⟩, hs⟩
theorem x_turn {nx : St → Hp → Prop} {rt : VK} {I : Nat → St → Hp → Prop} {m : Nat} (q : tb ⟨fun σ' H' => ∃ m', m' < m ∧ I m' σ' H', rt, nx, fun σ' H' => ∃ m', m' < m ∧ I m' σ' H'⟩ σ H) :
    ∃ N : St → Hp → Prop, (∀ σ' H', N σ' H' → ∃ m', m' < m ∧ I m' σ' H') ∧ tb ⟨N, rt, nx, N⟩ σ H := ⟨_, fun _ _ h => h, q⟩
/-! #### comprehensions: the new list stands behind what is owned -/
theorem set_wipe (σ : St) (j : Nat) (x : Option V) : wipe ((wipe σ [j]).set j x) [j] = wipe σ [j] := by
  show (((σ.set j none).set j x).set j none) = σ.set j none
  rw [List.set_set, List.set_set]
/-- a turn's end: the list so far is acc, y comes behind it -/
def lcEnd (B : Hp) (R : List (Addr × HO)) (p : Addr) (i : Nat) (N : List V → List (Addr × HO) → Prop) (y : V) (H4 : Hp) : Prop :=
  ∃ acc, H4 p = some (.lst acc) ∧ acc.length < sizeLine ∧ ∃ M' a2, a2.length ≤ i + 1 ∧ N a2 M' ∧ Own B (upd H4 p (.lst (acc ++ [y]))) M' (R ++ [(p, .lst a2)])
def lcSkip (B : Hp) (R : List (Addr × HO)) (p : Addr) (i : Nat) (N : List V → List (Addr × HO) → Prop) (H4 : Hp) : Prop :=
  ∃ M' a2, a2.length ≤ i + 1 ∧ N a2 M' ∧ Own B H4 M' (R ++ [(p, .lst a2)])
theorem lc_done {p : Addr} {i : Nat} {N : List V → List (Addr × HO) → Prop} {y : V} {acc : List V} (O : Own B H M (R ++ [(p, .lst acc)])) (hl : acc.length ≤ i) (hz : i < sizeLine) (pv : N (acc ++ [y]) M) : lcEnd B R p i N y H :=
  ⟨acc, O.last, Nat.lt_of_le_of_lt hl hz, M, acc ++ [y], by simp; omega, pv, O.putLast⟩
theorem lc_skip {p : Addr} {i : Nat} {N : List V → List (Addr × HO) → Prop} {acc : List V} (O : Own B H M (R ++ [(p, .lst acc)])) (hl : acc.length ≤ i) (pv : N acc M) : lcSkip B R p i N H := ⟨M, acc, by omega, pv, O⟩
section
variable {n : Nat} {J : It} {G : Hp → Prop} {Y : Nat → Hp → V → Hp → Prop} {j : Nat}
/-- over anything -/
theorem lc_any (W : L2.Walk J n G Y) (O : Own B H M R) (Pv : Nat → List V → List (Addr × HO) → Prop) (hG : ∀ H' M' p acc, Own B H' M' (R ++ [(p, .lst acc)]) → G H') (h0 : Pv 0 [] M)
    (hs : ∀ (i : Nat) x H' H'' M' p acc, i < n → acc.length ≤ i → Pv i acc M' → Own B H' M' (R ++ [(p, .lst acc)]) → Y i H' x H'' →
      tt ((wipe σ [j]).set j (some x)) H'' fun b H3 => if b = true then te ((wipe σ [j]).set j (some x)) H3 (lcEnd B R p i (Pv (i + 1))) else lcSkip B R p i (Pv (i + 1)) H3)
    (hd : ∀ p H' M' acc, B p = none → acc.length ≤ n → Pv n acc M' → Own B H' M' (R ++ [(p, .lst acc)]) → Q (.ref p) H') : lcR (gName j) tt te [j] σ Q J H := by
  intro p hp
  refine lc_it W (fun i H' => ∃ M' acc, acc.length ≤ i ∧ Pv i acc M' ∧ Own B H' M' (R ++ [(p, .lst acc)])) ⟨M, [], Nat.le_refl _, h0, O.new hp⟩ (fun i H' _ ⟨M', acc, _, _, O'⟩ => hG H' M' p acc O') ?_ (fun H' ⟨M', acc, l, pv, O'⟩ => hd p H' M' acc (O.base_free hp) l pv O')
  rintro i x H' H'' hi ⟨M', acc, hl, pv, O'⟩ y
  exact ⟨set_wipe σ j _, hs i x H' H'' M' p acc hi hl pv O' y⟩
theorem lc_rng1 {n : Int} (hn : -(2 ^ 62) ≤ n ∧ n < 2 ^ 62) (O : Own B H M R) (Pv : Nat → List V → List (Addr × HO) → Prop) (h0 : Pv 0 [] M)
    (hs : ∀ (i : Nat) H' M' p acc, (i : Int) < n → acc.length ≤ i → Pv i acc M' → Own B H' M' (R ++ [(p, .lst acc)]) →
      tt ((wipe σ [j]).set j (some (.int (i : Int)))) H' fun b H3 => if b = true then te ((wipe σ [j]).set j (some (.int (i : Int)))) H3 (lcEnd B R p i (Pv (i + 1))) else lcSkip B R p i (Pv (i + 1)) H3)
    (hd : ∀ p H' M' acc, B p = none → acc.length ≤ n.toNat → Pv n.toNat acc M' → Own B H' M' (R ++ [(p, .lst acc)]) → Q (.ref p) H') : jRng1 [.int n] H (lcR (gName j) tt te [j] σ Q) :=
  ⟨n, rfl, hn.1, hn.2, lc_any (walk_range (lo := 0)) O Pv (fun _ _ _ _ _ => trivial) h0 (fun i x H' H'' M' p acc hi hl pv O' y => by
    obtain ⟨rfl, e⟩ := y
    have e2 : x = .int (i : Int) := e.trans (congrArg V.int (Int.zero_add _))
    subst e2
    exact hs i _ M' p acc (by omega) hl pv O') hd⟩
theorem lc_lst {xs : List V} (hx : SqL K H a xs) (O : Own B H M R) (Pv : Nat → List V → List (Addr × HO) → Prop) (hG : ∀ H' M' p acc, Own B H' M' (R ++ [(p, .lst acc)]) → SqL K H' a xs) (h0 : Pv 0 [] M)
    (hs : ∀ (i : Nat) x H' M' p acc, xs[i]? = some x → acc.length ≤ i → Pv i acc M' → Own B H' M' (R ++ [(p, .lst acc)]) →
      tt ((wipe σ [j]).set j (some x)) H' fun b H3 => if b = true then te ((wipe σ [j]).set j (some x)) H3 (lcEnd B R p i (Pv (i + 1))) else lcSkip B R p i (Pv (i + 1)) H3)
    (hd : ∀ p H' M' acc, B p = none → acc.length ≤ xs.length → Pv xs.length acc M' → Own B H' M' (R ++ [(p, .lst acc)]) → Q (.ref p) H') : jList K (.ref a) H (lcR (gName j) tt te [j] σ Q) :=
  ⟨a, rfl, ⟨xs, hx⟩, lc_any walk_list O Pv hG h0 (fun i x H' H'' M' p acc hi hl pv O' y => by
    obtain ⟨rfl, hx⟩ := y
    exact hs i x _ M' p acc hx hl pv O') hd⟩
theorem lc_tupl {xs : List V} (hx : SqT K H a xs) (O : Own B H M R) (Pv : Nat → List V → List (Addr × HO) → Prop) (hG : ∀ H' M' p acc, Own B H' M' (R ++ [(p, .lst acc)]) → SqT K H' a xs) (h0 : Pv 0 [] M)
    (hs : ∀ (i : Nat) x H' M' p acc, xs[i]? = some x → acc.length ≤ i → Pv i acc M' → Own B H' M' (R ++ [(p, .lst acc)]) →
      tt ((wipe σ [j]).set j (some x)) H' fun b H3 => if b = true then te ((wipe σ [j]).set j (some x)) H3 (lcEnd B R p i (Pv (i + 1))) else lcSkip B R p i (Pv (i + 1)) H3)
    (hd : ∀ p H' M' acc, B p = none → acc.length ≤ xs.length → Pv xs.length acc M' → Own B H' M' (R ++ [(p, .lst acc)]) → Q (.ref p) H') : jTup K (.ref a) H (lcR (gName j) tt te [j] σ Q) :=
  ⟨a, rfl, ⟨xs, hx⟩, lc_any walk_tup O Pv hG h0 (fun i x H' H'' M' p acc hi hl pv O' y => by
    obtain ⟨rfl, hx⟩ := y
    exact hs i x _ M' p acc hx hl pv O') hd⟩
theorem lc_strs {z : Str} (O : Own B H M R) (Pv : Nat → List V → List (Addr × HO) → Prop) (h0 : Pv 0 [] M)
    (hs : ∀ (i : Nat) c H' M' p acc, z.cps[i]? = some c → acc.length ≤ i → Pv i acc M' → Own B H' M' (R ++ [(p, .lst acc)]) →
      tt ((wipe σ [j]).set j (some (.str ⟨#[c]⟩))) H' fun b H3 => if b = true then te ((wipe σ [j]).set j (some (.str ⟨#[c]⟩))) H3 (lcEnd B R p i (Pv (i + 1))) else lcSkip B R p i (Pv (i + 1)) H3)
    (hd : ∀ p H' M' acc, B p = none → acc.length ≤ z.cps.size → Pv z.cps.size acc M' → Own B H' M' (R ++ [(p, .lst acc)]) → Q (.ref p) H') : jStr (.str z) H (lcR (gName j) tt te [j] σ Q) :=
  ⟨z, rfl, lc_any walk_str O Pv (fun _ _ _ _ _ => trivial) h0 (fun i x H' H'' M' p acc hi hl pv O' y => by
    obtain ⟨rfl, c, hx, rfl⟩ := y
    exact hs i c _ M' p acc hx hl pv O') hd⟩
end
end
end NF

/-! Own toolkit: texts. -/
namespace NF
open PySem L2 TL

/-- a text of one sign; signs as a list of texts -/
abbrev ch (c : Nat) : V := .str ⟨#[c]⟩
abbrev mkS (l : List Nat) : Str := ⟨l.toArray⟩
theorem len_mk (l : List Nat) : (mkS l).length = l.length := by rw [len_tl]
theorem len_app (x y : Str) : (x ++ y).length = x.length + y.length := by rw [len_tl, tl_append, List.length_append, ← len_tl, ← len_tl]
theorem len_cut (z : Str) (lo hi : Option Int) : (cutS z lo hi).length ≤ z.length := cutS_length z lo hi
theorem len_ch (c : Nat) : (⟨#[c]⟩ : Str).length = 1 := rfl
theorem lit {s : String} {l : List Nat} (h : s.toList.map Char.toNat = l := by decide +kernel) : Str.ofString s = mkS l := ext_tl (by rw [tl_ofString, h])
theorem tl_cut (z : Str) (lo hi : Option Int) : tl (cutS z lo hi) = ((tl z).drop (HT.sIx z.length 0 lo)).take (HT.sIx z.length z.length hi - HT.sIx z.length 0 lo) := rfl
theorem join_ch (l : List Nat) : Txt.join Str.empty (l.map fun c => (⟨#[c]⟩ : Str)) = mkS l := by
  refine ext_tl ?_
  rw [join_eq, tl_join]
  show joinL [] _ = l
  have e : ∀ l : List Nat, joinL [] ((l.map fun c => (⟨#[c]⟩ : Str)).map tl) = l := by
    intro l
    induction l with
    | nil => rfl
    | cons a l ih =>
      cases l with
      | nil => rfl
      | cons b l =>
        show tl ⟨#[a]⟩ ++ ([] ++ joinL [] (((b :: l).map fun c => (⟨#[c]⟩ : Str)).map tl)) = a :: b :: l
        rw [ih]
        rfl
  exact e l
theorem sum_ch (l : List Nat) : ((l.map fun c => (⟨#[c]⟩ : Str)).map (·.length)).sum = l.length := by
  rw [List.map_map]
  induction l with
  | nil => rfl
  | cons a l ih => rw [List.map_cons, List.sum_cons, ih, List.length_cons]; show 1 + _ = _; omega
theorem map_ch (l : List Nat) : (l.map fun c => (⟨#[c]⟩ : Str)).map V.str = l.map ch := by rw [List.map_map]; rfl
theorem len_mul (x : Str) (n : Int) : (Txt.mul x n).length ≤ x.length * n.toNat := by
  unfold Txt.mul
  by_cases h : n < 1
  · rw [if_pos h]; exact Nat.zero_le _
  · rw [if_neg h]
    by_cases h2 : (n == 1 || x.length == 0) = true
    · rw [if_pos h2]
      simp only [Bool.or_eq_true, beq_iff_eq] at h2
      rcases h2 with h2 | h2
      · rw [h2]; simp
      · rw [h2]; simp
    · rw [if_neg h2]
      refine Nat.le_of_eq ?_
      have e : ∀ (k : Nat) (a : Array Nat), ((List.replicate k x.cps).foldl (· ++ ·) a).size = a.size + k * x.cps.size := by
        intro k
        induction k with
        | zero => intro a; simp
        | succ k ih => intro a; rw [List.replicate_succ, List.foldl_cons, ih, Array.size_append, Nat.succ_mul]; omega
      show ((List.replicate n.toNat x.cps).foldl (· ++ ·) #[]).size = x.cps.size * n.toNat
      rw [e, Nat.mul_comm]
      simp
/-! letters -/
def isLo (c : Nat) : Bool := decide (97 ≤ c ∧ c ≤ 104)
def isUp (c : Nat) : Bool := decide (65 ≤ c ∧ c ≤ 72)
theorem lo_cases {c : Nat} (h : 97 ≤ c ∧ c ≤ 104) : c = 97 ∨ c = 98 ∨ c = 99 ∨ c = 100 ∨ c = 101 ∨ c = 102 ∨ c = 103 ∨ c = 104 := by omega
theorem up_cases {c : Nat} (h : 65 ≤ c ∧ c ≤ 72) : c = 65 ∨ c = 66 ∨ c = 67 ∨ c = 68 ∨ c = 69 ∨ c = 70 ∨ c = 71 ∨ c = 72 := by omega
theorem upper_lo {c : Nat} (h : 97 ≤ c ∧ c ≤ 104) : Txt.upper ⟨#[c]⟩ = ⟨#[c - 32]⟩ := by
  rcases lo_cases h with rfl | rfl | rfl | rfl | rfl | rfl | rfl | rfl <;> decide +kernel
theorem lower_up {c : Nat} (h : 65 ≤ c ∧ c ≤ 72) : Txt.lower ⟨#[c]⟩ = ⟨#[c + 32]⟩ := by
  rcases up_cases h with rfl | rfl | rfl | rfl | rfl | rfl | rfl | rfl <;> decide +kernel
theorem mem_lo {c : Nat} : c ∈ [97, 98, 99, 100, 101, 102, 103, 104] ↔ 97 ≤ c ∧ c ≤ 104 := by
  simp only [List.mem_cons, List.not_mem_nil, or_false]; omega
theorem mem_up {c : Nat} : c ∈ [65, 66, 67, 68, 69, 70, 71, 72] ↔ 65 ≤ c ∧ c ≤ 72 := by
  simp only [List.mem_cons, List.not_mem_nil, or_false]; omega
theorem at_lt {α : Type} {l : List α} {i : Int} (h0 : 0 ≤ i) (h1 : i < (l.length : Int)) : ∃ c, atI l i = some c ∧ l[i.toNat]? = some c ∧ c ∈ l := by
  have hj : i.toNat < l.length := by omega
  have e : ((i.toNat : Nat) : Int) = i := by omega
  refine ⟨l[i.toNat], ?_, by simp [hj], List.getElem_mem hj⟩
  have := atI_nat (xs := l) (j := i.toNat) (v := l[i.toNat]) (by simp [hj])
  rw [e] at this
  exact this
section
variable {K : PySem.W.Frag} {B H : Hp} {M R : List (Addr × HO)} {a p : Addr} {Q : VK} {z : Str} {i : Int}
/-- an item of a text at an open place within it -/
theorem x_ixSo (h0 : 0 ≤ i) (h1 : i < (z.length : Int)) (hz : z.length ≤ sizeLine) (q : ∀ c, tl z = tl z → (tl z)[i.toNat]? = some c → c ∈ tl z → Q (.str ⟨#[c]⟩) H) : rIxS (.str z) (.int i) H Q := by
  obtain ⟨c, e, e2, m⟩ := at_lt (l := tl z) h0 (by rw [← len_tl]; exact h1)
  exact ⟨z, i, c, rfl, rfl, hz, e, q c rfl e2 m⟩
/-- join of signs -/
theorem x_join (l : List Nat) (h : H p = some (.lst (l.map ch))) (hz : l.length ≤ 16777216) (q : Q (.str (mkS l)) H) : rJoin K (.str Str.empty) [.ref p] H Q :=
  x_joinL (l.map fun c => (⟨#[c]⟩ : Str)) (by rw [map_ch]; exact h) (by
    rw [sum_ch, List.length_map]
    show l.length + l.length * 0 ≤ _
    omega) (by rw [join_ch]; exact q)
theorem x_mulS {n : Int} (hz : z.length ≤ 1000000) (hn : n ≤ 1000000) (hn0 : -1000000 ≤ n) (hl : z.length * n.toNat ≤ sizeLine) (q : Q (.str (Txt.mul z n)) H) : rMulS (.str z) (.int n) H Q := ⟨z, n, rfl, rfl, hz, hn, by omega, hl, q⟩
end
end NF

/-! Own toolkit: nested texts as lists of codes. -/
namespace NF
open PySem L2 TL

theorem tl_names : tl (Str.ofString "abcdefgh") = [97, 98, 99, 100, 101, 102, 103, 104] := by rw [tl_ofString]; decide +kernel
theorem len_names : (Str.ofString "abcdefgh").length = 8 := by rw [len_tl, tl_names]; rfl
/-- reading with a stack (the top first) -/
def run : List Nat → List Nat → Option (List Nat)
  | [], st => some st
  | c :: r, st => if 97 ≤ c ∧ c ≤ 104 then run r (c :: st) else match st with
    | t :: ts => if c + 32 = t then run r ts else none
    | [] => none
/-- the fault: the place of the first wrong sign, or the length -/
def flt : List Nat → Nat → List Nat → Option Nat
  | [], k, st => if st = [] then none else some k
  | c :: r, k, st => if 97 ≤ c ∧ c ≤ 104 then flt r (k + 1) (c :: st) else match st with
    | t :: ts => if c + 32 = t then flt r (k + 1) ts else some k
    | [] => some k
theorem run_cons (c : Nat) (r st : List Nat) : run (c :: r) st = if 97 ≤ c ∧ c ≤ 104 then run r (c :: st) else match st with
    | t :: ts => if c + 32 = t then run r ts else none
    | [] => none := by rw [run.eq_def]
theorem flt_cons (c : Nat) (r : List Nat) (k : Nat) (st : List Nat) : flt (c :: r) k st = if 97 ≤ c ∧ c ≤ 104 then flt r (k + 1) (c :: st) else match st with
    | t :: ts => if c + 32 = t then flt r (k + 1) ts else some k
    | [] => some k := by rw [flt.eq_def]
theorem run_append (l m : List Nat) : ∀ st, run (l ++ m) st = (run l st).bind (run m) := by
  induction l with
  | nil => intro st; rfl
  | cons c l ih =>
    intro st
    rw [List.cons_append, run_cons, run_cons]
    by_cases h : 97 ≤ c ∧ c ≤ 104
    · rw [if_pos h, if_pos h]; exact ih _
    · rw [if_neg h, if_neg h]
      cases st with
      | nil => rfl
      | cons t ts =>
        by_cases h2 : c + 32 = t
        · simp only [if_pos h2]; exact ih _
        · simp only [if_neg h2]; rfl
theorem flt_run {l : List Nat} (m : List Nat) : ∀ {k st st'}, run l st = some st' → flt (l ++ m) k st = flt m (k + l.length) st' := by
  induction l with
  | nil => intro k st st' h; cases h; rfl
  | cons c l ih =>
    intro k st st' h
    rw [List.cons_append, List.length_cons, flt_cons]
    rw [run_cons] at h
    have e : k + (l.length + 1) = (k + 1) + l.length := by omega
    by_cases h1 : 97 ≤ c ∧ c ≤ 104
    · rw [if_pos h1] at h ⊢; rw [e]; exact ih h
    · rw [if_neg h1] at h ⊢
      cases st with
      | nil => cases h
      | cons t ts =>
        by_cases h2 : c + 32 = t
        · simp only [if_pos h2] at h ⊢; rw [e]; exact ih h
        · simp only [if_neg h2] at h; cases h
/-- a beginning's stack is what is left open; else the fault is a place within -/
theorem flt_spec (l : List Nat) : ∀ k st, (∃ st', run l st = some st') ∨ (run l st = none ∧ ∃ j, flt l k st = some j ∧ k ≤ j ∧ j < k + l.length ∧ ∀ m, flt (l ++ m) k st = some j) := by
  induction l with
  | nil => intro k st; exact .inl ⟨st, rfl⟩
  | cons c l ih =>
    intro k st
    rw [run_cons]
    by_cases h1 : 97 ≤ c ∧ c ≤ 104
    · rw [if_pos h1]
      rcases ih (k + 1) (c :: st) with h | ⟨h, j, h2, h3, h4, h5⟩
      · exact .inl h
      · refine .inr ⟨h, j, ?_, by omega, by rw [List.length_cons]; omega, fun m => ?_⟩
        · rw [flt_cons]; rw [if_pos h1]; exact h2
        · rw [List.cons_append, flt_cons]; rw [if_pos h1]; exact h5 m
    · rw [if_neg h1]
      cases st with
      | nil =>
        refine .inr ⟨rfl, k, ?_, Nat.le_refl _, by rw [List.length_cons]; omega, fun m => ?_⟩
        · rw [flt_cons]; rw [if_neg h1]
        · rw [List.cons_append, flt_cons]; rw [if_neg h1]
      | cons t ts =>
        by_cases h2 : c + 32 = t
        · simp only [if_pos h2]
          rcases ih (k + 1) ts with h | ⟨h, j, h3, h4, h5, h6⟩
          · exact .inl h
          · refine .inr ⟨h, j, ?_, by omega, by rw [List.length_cons]; omega, fun m => ?_⟩
            · rw [flt_cons]; rw [if_neg h1]; simp only [if_pos h2]; exact h3
            · rw [List.cons_append, flt_cons]; rw [if_neg h1]; simp only [if_pos h2]; exact h6 m
        · simp only [if_neg h2]
          refine .inr ⟨trivial, k, ?_, Nat.le_refl _, by rw [List.length_cons]; omega, fun m => ?_⟩
          · rw [flt_cons]; rw [if_neg h1]; simp only [if_neg h2]
          · rw [List.cons_append, flt_cons]; rw [if_neg h1]; simp only [if_neg h2]
theorem flt_of_run {l : List Nat} {k : Nat} {st st' : List Nat} (h : run l st = some st') : flt l k st = if st' = [] then none else some (k + l.length) := by
  have := flt_run (k := k) [] h
  rw [List.append_nil] at this
  rw [this]
  rfl
/-- the stack's letters are opening ones -/
theorem run_lo {l : List Nat} : ∀ {st st'}, run l st = some st' → (∀ c ∈ st, 97 ≤ c ∧ c ≤ 104) → ∀ c ∈ st', 97 ≤ c ∧ c ≤ 104 := by
  induction l with
  | nil => intro st st' h hs; cases h; exact hs
  | cons c l ih =>
    intro st st' h hs
    rw [run_cons] at h
    by_cases h1 : 97 ≤ c ∧ c ≤ 104
    · rw [if_pos h1] at h
      refine ih h fun d hd => ?_
      rcases List.mem_cons.mp hd with rfl | hd
      · exact h1
      · exact hs d hd
    · rw [if_neg h1] at h
      cases st with
      | nil => cases h
      | cons t ts =>
        by_cases h2 : c + 32 = t
        · simp only [if_pos h2] at h
          exact ih h fun d hd => hs d (List.mem_cons_of_mem _ hd)
        · simp only [if_neg h2] at h; cases h
theorem take_snoc {α : Type} {l : List α} {i : Nat} {c : α} (h : l[i]? = some c) : l.take (i + 1) = l.take i ++ [c] := by rw [List.take_add_one, h]; rfl
theorem drop_cons {α : Type} {l : List α} {i : Nat} {c : α} (h : l[i]? = some c) : l = l.take i ++ c :: l.drop (i + 1) := by
  have hi : i < l.length := (List.getElem?_eq_some_iff.mp h).1
  have e : l[i] = c := (List.getElem?_eq_some_iff.mp h).2
  rw [← e, ← List.drop_eq_getElem_cons hi, List.take_append_drop]
theorem run_lo1 {l st : List Nat} {i c : Nat} (h : run (l.take i) [] = some st) (hc : l[i]? = some c) (h1 : 97 ≤ c ∧ c ≤ 104) : run (l.take (i + 1)) [] = some (c :: st) := by
  rw [take_snoc hc, run_append, h]
  show run [c] st = _
  rw [run_cons, if_pos h1]
  rfl
theorem run_up1 {l st : List Nat} {i c : Nat} (h : run (l.take i) [] = some ((c + 32) :: st)) (hc : l[i]? = some c) (h1 : ¬ (97 ≤ c ∧ c ≤ 104)) : run (l.take (i + 1)) [] = some st := by
  rw [take_snoc hc, run_append, h]
  show run [c] ((c + 32) :: st) = _
  rw [run_cons, if_neg h1]
  simp only [if_true]
  rfl
theorem flt_stop {l st : List Nat} {i c : Nat} (h : run (l.take i) [] = some st) (hc : l[i]? = some c) (h1 : ¬ (97 ≤ c ∧ c ≤ 104)) (h2 : ∀ t ts, st = t :: ts → c + 32 ≠ t) : flt l 0 [] = some i := by
  have hi : i < l.length := (List.getElem?_eq_some_iff.mp hc).1
  rw [drop_cons hc, flt_run _ h, flt_cons, if_neg h1, List.length_take, Nat.min_eq_left (by omega), Nat.zero_add]
  cases st with
  | nil => rfl
  | cons t ts => simp only [if_neg (h2 t ts rfl)]
theorem flt_end {l st : List Nat} (h : run (l.take l.length) [] = some st) : flt l 0 [] = if st = [] then none else some l.length := by
  rw [List.take_length] at h
  rw [flt_of_run h, Nat.zero_add]
theorem run_len {l : List Nat} : ∀ {st st'}, run l st = some st' → st'.length ≤ st.length + l.length := by
  induction l with
  | nil => intro st st' h; cases h; exact Nat.le_refl _
  | cons c l ih =>
    intro st st' h
    rw [run_cons] at h
    by_cases h1 : 97 ≤ c ∧ c ≤ 104
    · rw [if_pos h1] at h
      have := ih h
      simp only [List.length_cons] at this ⊢
      omega
    · rw [if_neg h1] at h
      cases st with
      | nil => cases h
      | cons t ts =>
        by_cases h2 : c + 32 = t
        · simp only [if_pos h2] at h
          have := ih h
          simp only [List.length_cons] at this ⊢
          omega
        · simp only [if_neg h2] at h; cases h
/-- the closing letters of a stack -/
theorem run_close : ∀ {st : List Nat}, (∀ c ∈ st, 97 ≤ c ∧ c ≤ 104) → run (st.map (· - 32)) st = some []
  | [], _ => rfl
  | c :: st, h => by
    have hc := h c (List.mem_cons_self ..)
    show run ((c - 32) :: st.map (· - 32)) (c :: st) = _
    rw [run_cons, if_neg (by omega)]
    simp only [show c - 32 + 32 = c by omega, if_true]
    exact run_close fun d hd => h d (List.mem_cons_of_mem _ hd)
/-- what is written so far, what is still open (the last one opened at the end, as closing letters) -/
def NestI (ls os : List Nat) (n : Nat) : Prop := run ls [] = some ((os.map (· + 32)).reverse) ∧ (∀ c ∈ os, 65 ≤ c ∧ c ≤ 72) ∧ ls.length + os.length = n
theorem NestI.nil : NestI [] [] 0 := ⟨rfl, fun _ h => absurd h List.not_mem_nil, rfl⟩
theorem NestI.pop {ls os : List Nat} {c n : Nat} (h : NestI ls (os ++ [c]) n) : NestI (ls ++ [c]) os n := by
  obtain ⟨h1, h2, h3⟩ := h
  have hc := h2 c (by simp)
  refine ⟨?_, fun d hd => h2 d (List.mem_append_left _ hd), by simp only [List.length_append, List.length_singleton] at h3 ⊢; omega⟩
  rw [run_append, h1, List.map_append, List.reverse_append]
  show run [c] ((c + 32) :: (os.map (· + 32)).reverse) = _
  rw [run_cons, if_neg (by omega)]
  simp only [if_true]
  rfl
theorem NestI.push {ls os : List Nat} {c n : Nat} (h : NestI ls os n) (hc : 97 ≤ c ∧ c ≤ 104) : NestI (ls ++ [c]) (os ++ [c - 32]) (n + 2) := by
  obtain ⟨h1, h2, h3⟩ := h
  refine ⟨?_, fun d hd => ?_, by simp only [List.length_append, List.length_singleton]; omega⟩
  · rw [run_append, h1]
    show run [c] _ = _
    rw [run_cons, if_pos hc, List.map_append, List.reverse_append]
    show some (c :: (os.map (· + 32)).reverse) = some ((c - 32 + 32) :: (os.map (· + 32)).reverse)
    rw [show c - 32 + 32 = c by omega]
  · rcases List.mem_append.mp hd with hd | hd
    · exact h2 d hd
    · rw [List.mem_singleton.mp hd]; omega
/-- nested -/
def Nst (l : List Nat) : Prop := run l [] = some []
theorem NestI.done {ls : List Nat} {n : Nat} (h : NestI ls [] n) : Nst ls ∧ ls.length = n := ⟨h.1, by have := h.2.2; simpa using this⟩
section
variable {K : PySem.W.Frag} {B H : Hp} {M R : List (Addr × HO)} {a p : Addr} {Q : VK} {z : Str} {i : Int} {xs : List V}
theorem x_popC {os : List Nat} {c : Nat} (O : Own B H M R) (k : Nat) (hk : R[k]? = some (a, .lst ((os ++ [c]).map ch))) (q : ∀ H1, Own B H1 M (R.set k (a, .lst (os.map ch))) → Q (ch c) H1) : rPop (.ref a) [] H Q := by
  have e : (os ++ [c]).map ch = os.map ch ++ [ch c] := by rw [List.map_append]; rfl
  rw [e] at hk
  refine x_pop O k hk (v := ch c) (by simp) fun H1 O1 => q H1 ?_
  rw [List.dropLast_concat] at O1
  exact O1
theorem x_appC {l : List Nat} {c : Nat} (O : Own B H M R) (k : Nat) (hk : R[k]? = some (a, .lst (l.map ch))) (hz : l.length < 10000000) (q : ∀ H1, Own B H1 M (R.set k (a, .lst ((l ++ [c]).map ch))) → Q .non H1) : rAppend (.ref a) [ch c] H Q := by
  refine x_append O k hk (by rw [List.length_map, sizeLine_eq]; omega) fun H1 O1 => q H1 ?_
  rw [List.map_append]
  exact O1
theorem map_snoc (l : List Nat) (c : Nat) : l.map ch ++ [ch c] = (l ++ [c]).map ch := by rw [List.map_append]; rfl
/-- an item of a list at an open place within it -/
theorem x_ixLo (h : H a = some (.lst xs)) (h0 : 0 ≤ i) (h1 : i < (xs.length : Int)) (q : ∀ v, xs[i.toNat]? = some v → v ∈ xs → Q v H) : rIxL K (.ref a) (.int i) H Q := by
  obtain ⟨c, e, e2, m⟩ := at_lt h0 h1
  exact x_ixL h e (q c e2 m)
end
theorem snoc_of {α : Type} {l : List α} (h : 0 < l.length) : ∃ m c, l = m ++ [c] := by
  rcases List.eq_nil_or_concat l with e | ⟨m, c, e⟩
  · rw [e] at h; simp at h
  · exact ⟨m, c, by rw [e, List.concat_eq_append]⟩
end NF

/-! Own exceptions: a class over ValueError whose __init__ says super().__init__('..') and keeps its arguments. -/
namespace NF
open PySem PySem.Spec PyProof.Rows PySem.W PySem.Calls L2

/-- what the written part says of an own exception class at C, its __init__ at f, one field fld -/
structure XCls (P : Program) (K : Frag) (mg : Str → Option Value) (C : Addr) : Prop where
  oex : OexC K C
  ini : excInitIn K C PySem.HandSPX.veTail "ValueError.__new__" = true
  sub : subIn K (.ref C) (.type "ValueError") = some true
  opq : nsIn K cStatics "thirdparty.any" = some none
  sup : mg "super" = none
  htop : (P.main.scope.names.lookup ("super" : Str)).isSome = false

def spX (K : Frag) (C : Addr) (fld : Str) : Sp := fun vs H Q _ => ∃ e v, vs = [.ref e, v] ∧ H e = some (exo e C none) ∧
  ∀ dx, H dx = none → dx ≠ e → Q .non (upd (upd H dx (exd dx [(fld, v)])) e (exo e C (some dx)))

section
variable {prog : Program} {w : World} {A : Around} {E : Value → Shared → Prop} {K : Frag} {h : Heap} {g : Array GenState} {d : Drawn} {t : Nat} {os : OsState}
/-- super().__init__(..) bound, called -/
theorem call_mwVE {C x u t0 : Addr} {rest : List Value} {Q : Value → Shared → Prop} (X : K.In h) (q : excInitIn K C PySem.HandSPX.veTail "ValueError.__new__" = true) (hu : h.get? u = some (kxs_mw "ValueError.__init__" x))
    (he : h.get? x = some (PySem.HandSPX.excO C t0)) (hz : rest.length ≤ sizeLine)
    (fin : ∀ h' t1, (∀ b o, b ≠ x → h.get? b = some o → h'.get? b = some o) → h'.get? x = some (PySem.HandSPX.excO C t1) → Q .none ⟨h', g, d, t, os⟩) :
    wpAny (model prog w) A (call (.ref u) rest) Q E ⟨h, g, d, t, os⟩ := by
  obtain ⟨nm, N', qn, bs, bm, hdct, sn, sub, ab, col, dd, k0, k1, k2, k3, k5, hC, hT⟩ := excInit_of X q
  refine wpAny_call (codeAny_of_tree ?_)
  show wpAny _ A.in1 (callAny (.ref u) ⟨rest, []⟩) _ _ _
  simp only [callAny]
  refine wpAny_bind (wpAny_load hu ?_)
  simp only [kxs_mw, show (Value.type "method-wrapper" == Value.type "method" || Value.type "method-wrapper" == Value.type "builtin_function_or_method" || Value.type "method-wrapper" == Value.type "method-wrapper") = true by decide, if_true]
  refine KFB.if_so (by decide) ?_
  refine wpAny_bind (check_bound_init PySem.F.excBase_ValueError.toExcCallFacts hC he rfl ?_)
  refine wpAny_bind (wpAny_pure (wpAny_pure ?_))
  refine ⟨plainId_quiet PySem.F.excBase_ValueError.init.plain _, codeAny_builtin PySem.F.excBase_ValueError.initEntry ?_⟩
  exact exc_init_tree (cls := .ref C) (t0 := t0) (dv := none) (c2 := .none) (c3 := .none) (b4 := .bool false) he hz fun h' k e' _ => fin h' _ k e'
end

theorem fn_sup {CX : CXT} {P : Program} {w : World} {K : Frag} {mg : Str → Option Value} {base : Heap} {k : Nat} {C D f cc cda : Addr} {cdD : ClassData} {name qual fld txt : Str} {j : Nat} {params : Arguments} {scope : Scope} {dV kV doc pm ct oc ccl cl : Value} {an od cdd cld : Option Addr}
    {osl ccs csl : Array (Option Value)} {vs : Array Value} {file : Str} {tf : Tok} {ar : Arg} {p0 p1 p2 p3 p4 p5 q0 q1 q2 q3 : Pos} (T : XCls P K mg C)
    (lk : K.lookup f = some ⟨oc, od, .func (ksFn name qual params [.Expr (.Call (.Attribute (.Call (.Name "super" p0) [] [] p1) "__init__" p2) [.Constant (.str txt) j p3] [] p4) p5, .Assign [.Attribute (.Name "self" q0) fld q1] (.Name fld q2) q3] scope dV kV doc pm an (.ref cda) ct cc), osl⟩)
    (hcd : codeIn K (.ref cda) qual = true) (hcode : K.lookup cda = some ⟨ccl, cdd, .fields vs, ccs⟩) (hvs : vs[2]? = some (.str file tf)) (hfile : ((P.main.file : Str) == file) = true)
    (hcell : K.lookup cc = some ⟨cl, cld, .cell (some (.ref D)), csl⟩) (hD : clsIn K D = some cdD) (hp : (params.posonlyargs ++ params.args).head? = some ar) (har : ar.arg = "self")
    (hmro : mroIn K C (.ref D) = some true) (hsi : ks_superIn K C D "__init__" = some (some (.builtin "ValueError.__init__"))) (hno : findIn K (.ref C) fld = some none)
    (hns : ("self" : Str) ≠ fld) (hdb : (fld == ("__debug__" : Str)) = false)
    (s1 : scope.names.lookup ("self" : Str) = some .local) (s2 : scope.names.lookup fld = some .local) (s3 : scope.names.lookup ("super" : Str) = some .globalImplicit) (s4 : scope.names.lookup ("__class__" : Str) = some .free)
    (hnc : ∀ x ∈ scope.names, x.2 ≠ .cell) (hco : scope.isCoroutine = false) (hgen : scope.isGenerator = false) (hk : scope.kind = .function) (pl : Env → Sem Bool)
    (hme : ∀ env : Env, eval (.Call (.Attribute (.Call (.Name "super" p0) [] [] p1) "__init__" p2) [.Constant (.str txt) j p3] [] p4) env = (do
      let ov ← attributeBase (.Call (.Name "super" p0) [] [] p1) "__init__" env (eval (.Call (.Name "super" p0) [] [] p1) env)
      standAt p2.atName
      let (f, first) ← holding [ov] (getMethod ov "__init__" (pl env))
      callWith p4 f first (backTo p4 (starEach [.Constant (.str txt) j p3] env)) [])) :
    FnOk P w K mg base CX (k + 1) f (ksFn name qual params [.Expr (.Call (.Attribute (.Call (.Name "super" p0) [] [] p1) "__init__" p2) [.Constant (.str txt) j p3] [] p4) p5, .Assign [.Attribute (.Name "self" q0) fld q1] (.Name fld q2) q3] scope dV kV doc pm an (.ref cda) ct cc)
      ["self", fld] (spX K C fld) := by
  refine ⟨fun vs H Q E ⟨e, v, hv, _⟩ => by rw [hv]; rfl, fun A outer s H args us vs Q E hr e0 hb r hsp => ?_⟩
  obtain ⟨x, v, rfl, hx, hq⟩ := hsp
  obtain ⟨u0, us1, rfl, r1, r⟩ : ∃ u0 us1, us = u0 :: us1 ∧ RelV (.ref x) u0 ∧ Vals [v] us1 := by cases r with | cons a b => exact ⟨_, _, rfl, a, b⟩
  obtain ⟨u, us2, rfl, ru, r⟩ : ∃ u us2, us1 = u :: us2 ∧ RelV v u ∧ Vals [] us2 := by cases r with | cons a b => exact ⟨_, _, rfl, a, b⟩
  cases r
  obtain rfl : u0 = Value.ref x := r1
  have KX : K.In s.heap := e0.mod.kin.keeps fun b o e => (e0.bs b o e).1
  have lim : s.heap.NoLimit := e0.mod.nolimit.keeps fun b o e => (e0.bs b o e).1
  refine ks_codeAny_call_defAt hr.depth (KX _ _ lk) rfl lim (codeRec_of KX hcd) rfl hb hnc (fun y hy => ?_) (fun h1 hns1 hk1 => ?_) hco hgen hk
  · have hy' : y = (("self" : Str), Value.ref x) ∨ y = (fld, u) := by simpa using hy
    rcases hy' with rfl | rfl
    · exact s1
    · exact s2
  obtain ⟨t0, hx0⟩ := exo_at e0.hok hx
  have hx1 := hk1 _ _ hx0
  obtain ⟨hp0, g, d, tk, os⟩ := s
  have X1 : K.In h1 := KX.keeps hk1
  have bk1 : ∀ b o, base.get? b = some o → h1.get? b = some o := fun b o e => hk1 b o (e0.bs b o e).1
  have mself : ((((["self", fld] : List Str).zip [Value.ref x, u]).reverse).lookup ("self" : Str)) = some (Value.ref x) := by
    have : (("self" : Str) == fld) = false := by simpa using hns
    simp [List.lookup, this]
  have mfld : ((((["self", fld] : List Str).zip [Value.ref x, u]).reverse).lookup fld) = some u := by
    simp [List.lookup]
  refine ks_wpAt_execs_cons (ks_wpAt_Expr_any (ks_wpAt_MethodCall (pl := pl _) ?body (hme _)) ?hi ?hsw)
  case hi =>
    unfold interactive
    show (scope.kind == ScopeKind.module && _) = false
    rw [hk]
    rfl
  case hsw => rfl
  refine ks_wpAt_super_base s3 s4 (by decide) rfl (X1 _ _ lk) rfl hp rfl (X1 _ _ hcode) rfl hvs hfile T.htop ?_
  obtain ⟨mb, hb1, hb2⟩ := e0.mod.blt
  refine ks_loadName_global hk s3 (loadGlobal_builtin (e0.mod.glob.keeps bk1) T.sup (hb1.keeps bk1) ((hb2 _ (by decide)).trans (by first | boot_by_name | rfl | kernel_rfl)) ⟨rfl, ?_⟩)
  refine wpAny_loadName_free hk s4 rfl ⟨_, X1 _ _ hcell, rfl⟩ ?_
  rw [har]
  refine wpAny_loadName_local hk s1 hns1 mself ?_
  obtain ⟨oD, hD1, hD2⟩ : ∃ oD, h1.get? D = some oD ∧ oD.data = .cls cdD := by
    unfold clsIn at hD
    split at hD
    · rename_i c d cd' sl ho
      cases hD
      exact ⟨_, X1 _ _ ho, rfl⟩
    · cases hD
  refine ks_wpAny_isType_cls hD1 hD2 ⟨rfl, ?_⟩
  refine ks_wpAny_call_super hD1 hD2 hx1 rfl (fun c e => by cases e) (looks_mroIn X1 hmro) (fun h2 e2 k2 => ?_)
  have X2 : K.In h2 := X1.keeps k2
  have hx2 := k2 _ _ hx1
  have I2 : InstAt h2 x (PySem.HandSPX.excO C t0) C none := ⟨hx2, rfl, rfl, trivial⟩
  cases hc : clsIn K C with
  | none => unfold ks_superIn at hsi; rw [hc] at hsi; cases hsi
  | some cd =>
    unfold ks_superIn at hsi
    rw [hc] at hsi
    refine kxs_getMethod kxs_ValueError e2 (looks_opaque X2 T.opq) (l₀ := cd.mro) ?_ rfl X2 hsi (I2.type.andThen (looks_subIn X2 T.sub)) (ks_ne X2 I2 hc) (by decide) ?_
    · exact fun A Q E s k q => wpAny_bind ((looks_clsIn X2 hc) A _ E s k (wpAny_pure q))
    refine kxs_callWith (i := "ValueError.__init__") (x := x) rfl ?_
    refine evalArgs_plain ?_
    show wpAny _ _ (spliced ((false, eval (.Constant (.str txt) j p3) _) :: backTo p4 (starEach [] _))) _ _ _
    refine spliced_cons (Constant_str (spliced_nil ?_))
    have k3 : ∀ b o, h2.get? b = some o → (h2.push (kxs_mw "ValueError.__init__" x)).get? b = some o := fun b o e => Heap.get?_push_of_some _ e
    have hu3 : (h2.push (kxs_mw "ValueError.__init__" x)).get? h2.objs.size = some (kxs_mw "ValueError.__init__" x) := Heap.get?_push_at rfl rfl
    refine ⟨hu3, ?_⟩
    refine call_mwVE (X2.keeps k3) T.ini hu3 (k3 _ _ hx2) (by size_fits) fun h4 t1 k4 hx4 => ?_
    have k14 : ∀ b o, b ≠ x → h1.get? b = some o → h4.get? b = some o := fun b o hb e => k4 b o hb (k3 _ _ (k2 _ _ e))
    have hn : H hp0.objs.size = none := e0.hok.fresh (Nat.le_refl _)
    have hxL : hp0.objs.size ≠ x := fun z => by rw [z, hx] at hn; cases hn
    have X4 : K.In h4 := e0.mod.kin.keeps fun b o e => k14 b o (fun z => by
      have q := (e0.bs b o e).2
      rw [z, hx] at q
      cases q) (bk1 b o e)
    have hns4 : h4.Ns hp0.objs.size (fun y => List.lookup y (([("self" : Str), fld].zip [Value.ref x, u]).reverse)) := hns1.at fun o e => k14 _ _ hxL e
    show _root_.PySem.wpAt _ _ _ (execs [.Assign [.Attribute (.Name "self" q0) fld q1] (.Name fld q2) q3] _) _ _ _
    refine wpAt_of_wpAny (wpAny_execs_cons ?_)
    refine plainObj_wpAny_Assign_Attribute ?_ rfl
    refine wpAny_Name (wpAny_loadName_local hk s2 hns4 mfld ?_) hdb
    refine wpAny_Name (wpAny_loadName_local hk s1 hns4 mself ?_) (by decide)
    obtain ⟨nm, q, N, bs, bm, sn, sub, ab, col, dd, kk0, kk1, kk2, kk3, kk5, hC, hbm⟩ := T.oex.cls
    have hcl : clsIn K C = some { name := nm, bases := bs, mro := .ref C :: bm, ns := N, qualname := q, hasDict := true, slotNames := sn, subclasses := sub, abstract := ab, collection := col, hasDel := false } := by unfold clsIn; rw [hC] <;> rfl
    refine set_plain X4 (ox := PySem.HandSPX.excO C t1) (od := none) ⟨hx4, rfl, rfl, trivial⟩ T.oex.sa ?_
    refine PySem.HandSPX.exc_osa X4 hx4 hcl (show PySem.HandSPX.refsVE (.ref C :: bm) = true from hbm) rfl hno (fun h5 tk5 dx k5 dn dne hx5 hn5 => ?_)
    refine wpAny_execs_nil ?_
    have k05 : ∀ b o, b ≠ x → hp0.get? b = some o → h5.get? b = some o := fun b o hb e => k5 b o hb (k14 b o hb (hk1 b o e))
    have sz : hp0.objs.size ≤ dx := Nat.le_trans (Nat.le_of_lt hns4.lt) dn
    have hnd : H dx = none := e0.hok.fresh sz
    have nd : ∀ {b : Addr} {o : Obj}, hp0.get? b = some o → b ≠ dx := fun {b o} q => Nat.ne_of_lt (Nat.lt_of_lt_of_le (Heap.lt_size q) sz)
    have na : ∀ {b : Addr}, H b = none → b ≠ x := fun {b} n z => by
      rw [z, hx] at n
      cases n
    have Un1 : Un (frs outer) [] H (upd (upd H dx (exd dx [(fld, v)])) x (exo x C (some dx))) hp0 h5 := {
      keep := fun b o q n _ _ => k05 b o (na n) q
      slot := fun b o q n _ _ => ⟨o.slots, k05 b o (na n) q⟩
      free := fun b o q n _ => by rw [upd_ne (na n), upd_ne (nd q)]; exact n
      there := fun b o q _ => by
        by_cases hb : b = x
        · exact ⟨_, by rw [hb]; exact hx5⟩
        · exact ⟨o, k05 b o hb q⟩
      tups := fun b xs q => by rw [upd_ne (at_ne hx q exo_tup), upd_ne (ne_of_none q hnd)]; exact q
      frzs := fun b o v q => by rw [upd_ne (at_ne hx q exo_frz), upd_ne (ne_of_none q hnd)]; exact q
      tbls := fun b ps q => ⟨#[], by rw [upd_ne (at_ne hx q exo_tbl), upd_ne (ne_of_none q hnd), q]; simp⟩ }
    refine ⟨.non, _, rfl, e0.bare, Un1, fun b o q => ?_, rfl, hq dx hnd dne⟩
    by_cases hb : b = x
    · subst hb
      rw [upd_same] at q
      cases q
      exact exo_ok hx5
    · rw [upd_ne hb] at q
      by_cases hd : b = dx
      · subst hd
        rw [upd_same] at q
        cases q
        exact exd_ok hn5 (relO_put (fs := []) ru fun g => True.intro)
      · rw [upd_ne hd] at q
        exact (e0.hok b o q).stay (fun c v hc z => k05 c v (by
            rcases hc with hc | hc
            · rw [hc]
              exact hb
            · exact at_ne hx hc exo_own) z)
          (fun c hc => by rw [upd_ne (at_ne hx hc exo_own), upd_ne (ne_of_none hc hnd)]; exact hc) (fun c xs hc => by rw [upd_ne (at_ne hx hc exo_tup), upd_ne (ne_of_none hc hnd)]; exact hc)
end NF

/-! Own exceptions, second part: classes by name, raising, defs that may raise, isinstance and fields in a suite. -/
namespace NF
open PySem PySem.Spec PyProof.Rows PySem.W PySem.Calls L2

/-- the class that the module's name x stands for -/
def cad (mg : Str → Option Value) (x : Str) : Addr := match mg x with
  | some (.ref a) => a
  | _ => 0
theorem cad_eq {mg : Str → Option Value} {x : Str} {a : Addr} (h : mg x = some (.ref a)) : cad mg x = a := by
  unfold cad
  rw [h]

/-- an exception class: what a clause that names it and isinstance want of it -/
structure XNam (K : Frag) (mg : Str → Option Value) (x : Str) : Prop where
  hm : mg x = some (.ref (cad mg x))
  exC : subIn K (.ref (cad mg x)) (.type "BaseException") = some true
  hd : hasDictIn K (cad mg x) = true
  ty : typeIn K (.ref (cad mg x)) = some (.type "type")

/-- .. whose instances are made and looked at -/
structure XFact (P : Program) (K : Frag) (mg : Str → Option Value) (x fld : Str) : Prop where
  nam : XNam K mg x
  cls : XCls P K mg (cad mg x)
  exc : ExcC K (cad mg x)
  nof : findIn K (.ref (cad mg x)) fld = some none
  ini : ∃ fI fd, findIn K (.ref (cad mg x)) "__init__" = some (some (.ref fI)) ∧ typeIn K (.ref fI) = some (.type "function") ∧ Binds K fd ["self", fld] [] ∧
    ∀ (w : World) (base : Heap) (CX : CXT), FnOk P w K mg base CX 1 fI fd ["self", fld] (spX K (cad mg x) fld)

/-! ### X(e) -/
def tMkX (C : Addr) (fld : Str) (te : TE) : L2.St → Hp → XK → Prop := fun σ H Q => te σ H fun v H1 => ∀ d, H1 d = none → Q (.ref C) (some d) (upd H1 d (.xd [(fld, v)]))

theorem pmk_x {X : Cx} {x fld : Str} {e : Expr} {te : TE} {p pos : Pos} (T : XFact X.prog X.K X.mg x fld) (hr : Room 2 X.A) (hg : Gl X x) (ha : PE X e te)
    (hdb : (x == ("__debug__" : Str)) = false := by decide) (he : starEach [e] X.env = (false, eval e X.env) :: starEach [] X.env := by rfl) :
    L2N.PMk X (.Call (.Name x p) [e] [] pos) (tMkX (cad X.mg x) fld te) := by
  intro pins s σ H Q I h
  obtain ⟨fI, fd, iC, tI, hb, F1⟩ := T.ini
  have F1 := F1 X.w X.base CX0
  obtain ⟨nm, q, N, bs, bm, sn, sub, ab, col, dd, k0, k1, k2, k3, k5, hC, hbm⟩ := T.cls.oex.cls
  refine wpAny_Call_Name_kw (ld_glob I hg T.nam.hm ?_ hdb)
  refine PySem.W.callWith_K (h₀ := X.base) I.ok.mod.kin T.cls.oex.kC ?_ he rfl
  rw [he]
  refine spliced_cons (thn (ha.run pins s σ H _ I h) fun u s1 ⟨v, H1, I1, r1, q1⟩ => spliced_nil ⟨I1.kIn, ?_⟩)
  show wpAny _ _ (call (.ref (cad X.mg x)) [u]) _ _ _
  obtain ⟨hp, g, dr, tk, os⟩ := s1
  have hsz : hp.objs.size ≤ hp.objs.size + 1 := Nat.le_succ _
  have hn : H1 (hp.objs.size + 1) = none := I1.hok.fresh hsz
  have kk : ∀ b o, hp.get? b = some o → ((hp.push (PySem.W.kdv_tup [u])).push (PySem.HandSPX.excO (cad X.mg x) hp.objs.size)).get? b = some o := fun b o e => Heap.get?_push_of_some _ (Heap.get?_push_of_some _ e)
  have hget : ((hp.push (PySem.W.kdv_tup [u])).push (PySem.HandSPX.excO (cad X.mg x) hp.objs.size)).get? (hp.objs.size + 1) = some (PySem.HandSPX.excO (cad X.mg x) hp.objs.size) := by heap_get
  have I2 : Inv X pins σ (upd H1 (hp.objs.size + 1) (exo (hp.objs.size + 1) (cad X.mg x) none)) ⟨(hp.push (PySem.W.kdv_tup [u])).push (PySem.HandSPX.excO (cad X.mg x) hp.objs.size), g, dr, tk, os⟩ :=
    I1.laid (t' := tk) (a := hp.objs.size + 1) (o := exo (hp.objs.size + 1) (cad X.mg x) none) (h' := (hp.push (PySem.W.kdv_tup [u])).push (PySem.HandSPX.excO (cad X.mg x) hp.objs.size)) kk hsz (exo_ok hget)
  have r2 : Vals [V.ref (hp.objs.size + 1), v] [Value.ref (hp.objs.size + 1), u] := .cons rfl (.cons r1 .nil)
  have b2 := hb _ [Value.ref (hp.objs.size + 1), u] I2.kIn rfl
  refine wpAny_call (PySem.HandSPX.call_own PySem.F.excBase_ValueError (fun Y => PySem.HandSPX.refsVE_contains Y bm hbm) (I1.kIn _ _ hC) (PySem.W.looks_findIn I1.kIn iC) (fun self => PySem.W.bind_fn I1.kIn self tI) (by size_fits)
    (codeAny_mono (F1.run _ X.stack _ _ ⟨[Value.ref (hp.objs.size + 1), u], []⟩ [Value.ref (hp.objs.size + 1), u] _
      (fun v2 H2 => v2 = .non ∧ ∃ dx, H1 dx = none ∧ dx ≠ hp.objs.size + 1 ∧ H2 = upd (upd (upd H1 (hp.objs.size + 1) (exo (hp.objs.size + 1) (cad X.mg x) none)) dx (exd dx [(fld, v)])) (hp.objs.size + 1) (exo (hp.objs.size + 1) (cad X.mg x) (some dx)))
      (fun _ _ _ => False) (hr.make (cad X.mg x) [u] []) (I2.env0.make (cad X.mg x) [u] []) b2 r2 ⟨_, v, rfl, upd_same, fun dx h1 h2 => ⟨rfl, dx, by rw [upd_ne h2] at h1; exact h1, h2, rfl⟩⟩) fun r s' hq' => ?_))
  cases r with
  | error er => exact hq'.elim
  | ok fl =>
    cases fl with
    | ret u =>
      obtain ⟨v2, H2, os2, bare2, un2, hok2, rv, ev, dx, hd1, hne, eH⟩ := hq'
      subst ev
      obtain ⟨h2, g2, d2, t2, os'⟩ := s'
      have ea : H2 (hp.objs.size + 1) = some (exo (hp.objs.size + 1) (cad X.mg x) (some dx)) := by rw [eH, upd_same]
      have ed : H2 dx = some (exd dx [(fld, v)]) := by rw [eH, upd_ne hne, upd_same]
      obtain ⟨t0, G, J, kG, ge, hoe, na⟩ := mk_end0 (d2 := d2) (t2 := t2) I1 hsz kk un2 hok2 os2 bare2 ea ed hd1
      have eF : upd (del H2 (hp.objs.size + 1)) dx (.xd [(fld, v)]) = upd H1 dx (.xd [(fld, v)]) := by
        funext b
        by_cases hb : b = dx
        · rw [hb, upd_same, upd_same]
        · rw [upd_ne hb, upd_ne hb]
          by_cases ha : b = hp.objs.size + 1
          · rw [ha, del_same, hn]
          · rw [del_ne ha, eH, upd_ne ha, upd_ne hb, upd_ne ha]
      rw [eF] at J na
      refine ⟨rv, ⟨hp.objs.size + 1, _, _, ⟨G, g2, d2, t2, os'⟩, _, .ref (cad X.mg x), some dx, rfl, J, kG, ge, hoe, ⟨rfl, rfl, fun vs hv => ?_⟩, rfl, rfl, na, rfl, bare2, raises_own T.cls.oex.exC T.cls.oex.tyC, q1 dx hd1⟩⟩
      cases hv
      rfl
    | next => exact False.elim hq'
    | brk => exact False.elim hq'
    | cont => exact False.elim hq'

/-! ### defs that may raise, with defaults -/
structure DefX (P : Program) (w : World) (K : PySem.W.Frag) (mg : Str → Option Value) (base : Heap) (k : Nat) (x : Str) (ps : List Str) (dvs : List V) (sp : Sp) : Prop where
  ex : ∃ f fd ds, FnOk P w K mg base (L2N.CX P w) k f fd ps sp ∧ mg x = some (.ref f) ∧ PySem.W.keepIn K (.ref f) = true ∧ Binds K fd ps ds ∧ Vals dvs ds
/-- a def with defaults as the top leaves it; the last ones always lack -/
def FnD (K : PySem.W.Frag) (mg : Str → Option Value) (x : Str) (st : Stmt) (dvs : List V) : Prop := ∃ f fd, FunD K x x (defArgs st) (defBody st) (defScope st) dvs [] f fd ∧ mg x = some (.ref f)
section
variable {P : Program} {w : World} {K : PySem.W.Frag} {mg : Str → Option Value} {base : Heap}
theorem DefX.mk0 {x : Str} {st : Stmt} {N ps : List Str} {k : Nat} {sp : Sp} (F : Fn0 K mg x st) (S : FnScope N ps (defScope st)) (len : ∀ vs H Q E, sp vs H Q E → vs.length = ps.length)
    (hbind : ∀ (kV doc pm : Value) (an : Option Addr) (cdv ct : Value) (us : List Value), us.length = ps.length → bindArgs (PySem.W.fnOf x x (defArgs st) (defBody st) (defScope st) .none kV doc pm an cdv ct) ⟨us, []⟩ = pure (ps.zip us))
    (hbody : ∀ {f : Addr} (cdv : Value) (A : Around) (outer : List Env) (s : Shared) (H : Hp) (vs : List V) (Q : VK) (E : XK), Room k (A.deeper (envOfC x (defScope st) s.heap.objs.size f cdv)) → sp vs H Q E →
      L2N.Takes (cxOf (L2N.CX P w) P w K mg base N x (defScope st) f cdv A outer s H E) (fun cls d _ H' => E cls d H') → PassesOwn (model P w) (A.deeper (envOfC x (defScope st) s.heap.objs.size f cdv)) (envOfC x (defScope st) s.heap.objs.size f cdv) (cxOf (L2N.CX P w) P w K mg base N x (defScope st) f cdv A outer s H E).xe →
      ∃ t, PSs (cxOf (L2N.CX P w) P w K mg base N x (defScope st) f cdv A outer s H E) (defBody st) t ∧ t { nx := fun _ H' => Q .non H', rt := Q } (start N vs) H) : DefX P w K mg base (k + 1) x ps [] sp := by
  obtain ⟨f, fd, F, hm⟩ := F
  obtain ⟨oc, od, kV, doc, pm, an, cdv, ct, osl, rfl, lk, hcd⟩ := F.ex
  exact ⟨f, _, [], fn_of lk hcd S len fun A outer s H vs Q E hr hsp => hbody cdv A outer s H vs Q E hr hsp (L2N.takes_of rfl rfl rfl rfl) (passes_of rfl), hm, F.kp, F.binds hbind, .nil⟩
theorem DefX.mkD {x : Str} {st : Stmt} {N ps : List Str} {k : Nat} {dvs : List V} {sp : Sp} (F : FnD K mg x st dvs) (hd : dvs ≠ []) (n : Nat) (hn : n + dvs.length = ps.length) (S : FnScope N ps (defScope st)) (len : ∀ vs H Q E, sp vs H Q E → vs.length = ps.length)
    (hbind : ∀ (T : Addr) (kV doc pm : Value) (an : Option Addr) (cdv ct : Value) (us its : List Value), us.length = n → its.length = dvs.length →
      ∃ k, bindArgs (PySem.W.fnOf x x (defArgs st) (defBody st) (defScope st) (.ref T) kV doc pm an cdv ct) ⟨us, []⟩ = seqItems? (.ref T) >>= k ∧ k (some its.toArray) = pure (ps.zip (us ++ its)))
    (hbody : ∀ {f : Addr} (cdv : Value) (A : Around) (outer : List Env) (s : Shared) (H : Hp) (vs : List V) (Q : VK) (E : XK), Room k (A.deeper (envOfC x (defScope st) s.heap.objs.size f cdv)) → sp vs H Q E →
      L2N.Takes (cxOf (L2N.CX P w) P w K mg base N x (defScope st) f cdv A outer s H E) (fun cls d _ H' => E cls d H') → PassesOwn (model P w) (A.deeper (envOfC x (defScope st) s.heap.objs.size f cdv)) (envOfC x (defScope st) s.heap.objs.size f cdv) (cxOf (L2N.CX P w) P w K mg base N x (defScope st) f cdv A outer s H E).xe →
      ∃ t, PSs (cxOf (L2N.CX P w) P w K mg base N x (defScope st) f cdv A outer s H E) (defBody st) t ∧ t { nx := fun _ H' => Q .non H', rt := Q } (start N vs) H) : DefX P w K mg base (k + 1) x ps dvs sp := by
  obtain ⟨f, fd, F, hm⟩ := F
  obtain ⟨ds, hv, hb⟩ := F.binds1 (ps := ps) n 0 hd hn hbind
  obtain ⟨oc, od, dV, kV, doc, pm, an, cdv, ct, osl, rfl, lk, hcd, hD, hK⟩ := F.ex
  exact ⟨f, _, ds, fn_of lk hcd S len fun A outer s H vs Q E hr hsp => hbody cdv A outer s H vs Q E hr hsp (L2N.takes_of rfl rfl rfl rfl) (passes_of rfl), hm, F.kp, hb, hv⟩
end
section
variable {X : Cx} {k : Nat} {x : Str} {ps : List Str} {dvs : List V} {sp : Sp} {p pos : Pos} {e : Expr} {es : List Expr} {t : TA} {W : WX}
/-- f(e, ..) of a def that may raise -/
def tCallX (sp : Sp) (dvs : List V) (W : WX) (t : TA) : TE := fun σ H Q => t σ H fun vs H1 => sp (vs ++ dvs) H1 Q (fun cls d H2 => W cls d σ H2)
theorem pe_dx (D : DefX X.prog X.w X.K X.mg X.base k x ps dvs sp) (hr : Room k X.A) (tk : L2N.Takes X W) (hg : Gl X x) (ha : PA X (e :: es) t) (hdb : (x == ("__debug__" : Str)) = false := by decide)
    (he : starEach (e :: es) X.env = (false, eval e X.env) :: starEach es X.env := by rfl) (hpl : (backTo pos (starEach es X.env)).any (·.1) = false := by rfl) : PE X (.Call (.Name x p) (e :: es) [] pos) (tCallX sp dvs W t) := by
  obtain ⟨f, fd, ds, F, hm, hk, hb, hv⟩ := D.ex
  refine ⟨fun pins s σ H Q I h => ?_⟩
  refine wpAny_Call_Name_kw (ld_glob I hg hm ?_ hdb)
  refine PySem.W.callWith_K (h₀ := X.base) I.ok.mod.kin hk (thn (ha.run pos pins s σ H _ I h) fun us s1 ⟨vs, H1, I1, r, q⟩ => ⟨I1.kIn, ?_⟩) he hpl
  show wpAny _ _ (call (.ref f) us) _ _ _
  have r2 : Vals (vs ++ dvs) (us ++ ds) := r.append hv
  have hl : (us ++ ds).length = ps.length := by rw [← r2.length]; exact F.len _ _ _ _ q
  refine wpAny_call (codeAny_mono (F.run X.A X.stack s1 H1 ⟨us, []⟩ (us ++ ds) (vs ++ dvs) Q _ hr I1.env0 (hb s1 us I1.kIn hl) r2 q) fun r s' hq => ?_)
  cases r with
  | error er => exact L2N.passAt tk σ pins H1 s1 er s' I1 hq
  | ok fl =>
    cases fl with
    | ret u => exact I1.after hq
    | next => exact False.elim hq
    | brk => exact False.elim hq
    | cont => exact False.elim hq
theorem pe_clsn {mg : Str → Option Value} (h : mg x = some (.ref (cad mg x))) (hX : X.mg = mg) (hg : Gl X x) (hdb : (x == ("__debug__" : Str)) = false := by decide) : PE X (.Name x pos) (tC (.ref (cad mg x))) := by
  subst hX
  exact pe_glob hg h rfl hdb
end
theorem takesN0 {X : Cx} : L2N.Takes X (fun _ _ _ _ => False) := fun _ _ ⟨_, _, _, _, _, _, _, _, _, _, _, _, _, _, _, _, w⟩ => w.elim

/-! ### promises of defs that may raise -/
/-- the exception: its class, its fields -/
abbrev ExS := List V → Str → List (Str × V) → Prop
/-- plain values in; a plain value out, or an exception -/
def spPX (mg : Str → Option Value) (n : Nat) (pre : List V → Prop) (post : List V → V → Prop) (exc : ExS) : Sp := fun vs H Q E => vs.length = n ∧ pre vs ∧ (∀ v H', Own H H' [] [] → post vs v → Q v H') ∧
  ∀ x fs d H', Own H H' [] [] → exc vs x fs → H d = none → H' d = some (.xd fs) → E (.ref (cad mg x)) (some d) H'
theorem hl_spPX {mg : Str → Option Value} {n : Nat} {pre : List V → Prop} {post : List V → V → Prop} {exc : ExS} : ∀ vs H Q E, spPX mg n pre post exc vs H Q E → vs.length = n := fun vs H Q E h => h.1
section
variable {mg : Str → Option Value} {B H : Hp} {M R : List (Addr × HO)} {Q : VK} {E : XK} {n : Nat} {pre : List V → Prop} {vs : List V} {exc : ExS}
theorem use_spPX {post : List V → V → Prop} (O : Own B H M R) (hl : vs.length = n) (hp : pre vs) (q : ∀ v H', Own B H' M R → post vs v → Q v H')
    (e : ∀ x fs d H', Own B H' M R → exc vs x fs → B d = none → H' d = some (.xd fs) → E (.ref (cad mg x)) (some d) H') : spPX mg n pre post exc vs H Q E :=
  ⟨hl, hp, fun v H' O' h => q v H' (O.call0 O') h, fun x fs d H' O' h h1 h2 => e x fs d H' (O.call0 O') h (O.base_free h1) h2⟩
/-- X(e) in a def's own reading -/
theorem x_raise {C : Addr} {v : V} {fld : Str} {d : Addr} (O : Own B H M R) (h : H d = none) : Own B (upd H d (.xd [(fld, v)])) M R ∧ B d = none := by
  exact ⟨O.ignore h, O.base_free h⟩
end
end NF

/-! try with several clauses, each with or without a name. -/
namespace NF
open PySem PySem.Spec PyProof.Rows L2

/-- a clause: the class it names, the slot of its name, its suite's reading -/
structure Cls3 where
  c : Value
  i : Option Nat
  ts : Addr → Value → Option Addr → TS

/-- the ends of a suite whose clause may have a name -/
def endsOf : Option Nat → Ends → Ends
  | none, D => D
  | some i, D => { nx := fun σ' H' => D.nx (σ'.set i none) H', rt := D.rt, bk := fun σ' H' => D.bk (σ'.set i none) H', ct := fun σ' H' => D.ct (σ'.set i none) H' }
def startOf (a : Addr) : Option Nat → L2.St → L2.St
  | none, σ => σ
  | some i, σ => σ.set i (some (.ref a))
def wAll (K : PySem.W.Frag) (Wout : WX) (D : Ends) : List Cls3 → WX
  | [] => Wout
  | k :: r => fun cls d σ H => ∃ b, PySem.W.exmOne K cls k.c = some b ∧ (b = true → ∀ a, H a = none → k.ts a cls d (endsOf k.i D) (startOf a k.i σ) H) ∧ (b = false → wAll K Wout D r cls d σ H)

/-- a clause's suite -/
def SuOk (X : Cx) (suite : List Stmt) (ts : Addr → Value → Option Addr → TS) : Prop :=
  ∀ (a : Addr) (oe : Obj) (cls : Value) (d : Option Addr) (pn : List (Addr × Obj)), L2N.Zn cls d oe → (∃ vs, oe.data = .fields vs) → PSs (X.suite a ((a, oe) :: pn)) suite (ts a cls d)
inductive HdA (X : Cx) : List ExceptHandler → List Cls3 → Prop
  | nil : HdA X [] []
  | plain {x : Str} {c : Value} {ts : Addr → Value → Option Addr → TS} {b₀ : Stmt} {su : List Stmt} {np pos' : Pos} {hds : List ExceptHandler} {l : List Cls3} (hc : Names X x c) (hsu : SuOk X (b₀ :: su) ts) (r : HdA X hds l) :
      HdA X (.ExceptHandler (some (.Name x np)) none (b₀ :: su) pos' :: hds) (⟨c, none, ts⟩ :: l)
  | named {x n : Str} {c : Value} {i : Nat} {ts : Addr → Value → Option Addr → TS} {b₀ : Stmt} {su : List Stmt} {np pos' : Pos} {hds : List ExceptHandler} {l : List Cls3} (hN : X.N.Nodup) (hi : X.N[i]? = some n) (hln : X.env.kindOf n = some .local)
      (hc : Names X x c) (hsu : SuOk X (b₀ :: su) ts) (r : HdA X hds l) : HdA X (.ExceptHandler (some (.Name x np)) (some n) (b₀ :: su) pos' :: hds) (⟨c, some i, ts⟩ :: l)

section
variable {X : Cx} {body : List Stmt} {h₀ : ExceptHandler} {hds : List ExceptHandler} {l : List Cls3} {pos : Pos} {tb : WX → TS} {Wout : WX}
theorem ps_try_all (hs : X.stack = X.env :: X.outer) (hf : X.env.frame = some X.env.locals) (tk : L2N.Takes X Wout)
    (hb : ∀ (W : WX) (pn : List (Addr × Obj)) (xe : Value → Shared → Prop), L2N.Takes (X.tr pn xe) W → PassesOwn (model X.prog X.w) X.A X.env xe → PSs (X.tr pn xe) body (tb W))
    (hh : HdA X (h₀ :: hds) l) : PS X (.Try body (h₀ :: hds) [] [] pos) (fun D σ H => tb (wAll X.K Wout D l) D σ H) := by
  refine ⟨fun pins s σ H D I h => ?_⟩
  have ok := I.ok
  have hfr : X.A.frames = some (X.env :: X.outer) := by rw [ok.frames, hs]
  refine wpAny_Try_except (wpAny_mono ((hb (wAll X.K Wout D l) (X.pn ++ pins) (fun e s₁ => wpAny (model X.prog X.w) X.A (noteFrame e X.env) (fun _ s₂ => wpAny (model X.prog X.w) X.A (setFlight e none) (fun _ s₃ =>
    wpAny (model X.prog X.w) X.A (handleBy e X.env (h₀ :: hds)) (SP X pins D) X.xe s₃) X.xe s₂) X.xe s₁) (fun u s' xx => ?_) PassesOwn.looking).run [] s σ H D (I.toTry _) h) (fun f s1 hsp => ?_) (fun e s1 he => he))
  · obtain ⟨a, B, sI, pins', σ', H', cls, d, rfl, J', nb, up, sky, na, os, ag, w⟩ := xx
    have J : Inv X pins σ' H' sI := J'.ofTry ok
    have sky' : L2.Sky B (X.env :: X.outer) a (L2N.Zn cls d) X.env.locals s'.heap := by rw [← hs]; exact sky
    show wpAny (model X.prog X.w) X.A (noteFrame (.ref a) X.env) _ _ _
    refine L2N.Sky.land L2N.Zn.steady hfr hf sky' fun h3 fl3 up3 => ?_
    have J3 : Inv X pins σ' H' { s' with heap := h3 } := J.landed nb fl3.1 (up.trans up3) os ag
    obtain ⟨oe3, vs3, he3, hz3, hd3⟩ := fl3.there
    have nfr : a ∉ frs (X.env :: X.outer) := fun hm => by
      obtain ⟨_, o', e', hnf⟩ := fl3.2.2.1.mem hm
      rw [he3] at e'; cases e'
      exact hnf _ hd3
    have nL : a ≠ X.env.locals := fun z => nfr (List.mem_filterMap.mpr ⟨X.env, List.mem_cons_self, by rw [hf, z]⟩)
    have nF : a ∉ X.fs := fun hm => by
      obtain ⟨e, he, q⟩ := List.mem_filterMap.mp hm
      exact nfr (List.mem_filterMap.mpr ⟨e, List.mem_cons_of_mem _ he, q⟩)
    have S3 := J3.suite he3 hd3 na nL nF
    have LT : PySem.W.Looks (model X.prog X.w) h3 (typeOf (.ref a)) cls := fun A Q E s k q => wpAny_typeOf_ref (k _ _ he3) (by rw [hz3.1]; exact q)
    have test : ∀ {x : Str} {c : Value} {np : Pos} {Q : Value → Shared → Prop} {E : Value → Shared → Prop}, Names X x c → Q c { s' with heap := h3 } → wpAny (model X.prog X.w) (X.A.mark (some (.ref a))) (eval (.Name x np) X.env) Q E { s' with heap := h3 } := fun {x c np Q E} hc q => by
      obtain ⟨hg, hdbg, hm | ⟨hm, hv, hnn⟩⟩ := hc
      · exact ld_glob (X := X.suite a ((a, oe3) :: (X.pn ++ pins))) S3 hg hm q hdbg
      · exact ld_blt (X := X.suite a ((a, oe3) :: (X.pn ++ pins))) S3 hg hm hv q hnn hdbg
    have go : ∀ {hds' : List ExceptHandler} {l' : List Cls3}, HdA X hds' l' → wAll X.K Wout D l' cls d σ' H' →
        wpAny (model X.prog X.w) X.A (handleBy (.ref a) X.env hds') (SP X pins D) X.xe { s' with heap := h3 } := by
      intro hds' l' hk
      induction hk with
      | nil =>
        intro w
        refine wpAny_handleBy_nil ?_
        obtain ⟨k1, k2, k3, oe, vs, T, oT, ts', he, hz, hd, h1, hr⟩ := id fl3
        unfold PySem.passOn
        refine wpAny_bind (wpAny_field he hd h1 ?_)
        rw [if_neg (show ¬ ((Value.ref T == Value.none) = true) from by simp)]
        have fin : wpAny (model X.prog X.w) X.A (setFlight (.ref a) X.env.frame) (fun _ s4 => wpAny (model X.prog X.w) X.A (throw (.ref a) : Sem Flow) (SP X pins D) X.xe s4) X.xe { s' with heap := h3 } := by
          rw [hf]
          refine HandSPX.setFlight_upZ fl3 fun h4 hh4 up4 => wpAny_throw (tk _ _ ?_)
          exact ⟨a, B, sI, pins, σ', H', cls, d, rfl, J, nb, (up.trans up3).trans up4, .inr (.inr (by rw [hs]; exact hh4)), na, os, ag, w⟩
        first
          | exact wpAny_bind (wpAny_pure (wpAny_bind fin))
          | exact wpAny_bind fin
      | @plain x c ts b₀ su np pos' hds2 l2 hc hsu r ih =>
        intro w
        obtain ⟨b, hb1, hyes, hno⟩ := w
        refine wpAny_handleBy_cons (codeAny_handlers_test (test hc ((PySem.W.exm_one (M := model X.prog X.w) (J3.kIn) LT hb1).here ?_))) (by intro q; cases q)
        cases b with
        | false => exact ih (hno rfl)
        | true =>
          refine codeAny_handlers_suite (HandSPX.lands_againZ fl3 fun h4 fl4 up4 => ?_)
          have J4 : Inv X pins σ' H' { s' with heap := h4 } := J.landed nb fl4.1 ((up.trans up3).trans up4) os ag
          obtain ⟨oe4, vs4, he4, hz4, hd4⟩ := fl4.there
          refine wpAny_mono ((hsu a oe4 cls d (X.pn ++ pins) hz4 ⟨_, hd4⟩).run [] _ _ H' _ (J4.suite he4 hd4 na nL nF) (hyes rfl a na)) (fun f s6 hsp => ?_) (fun _ _ z => False.elim z)
          cases f with
          | ret u =>
            obtain ⟨v6, σ6, H6, S6, r6, q6⟩ := hsp
            exact ⟨_, _, _, S6.unsuite ok, r6, q6⟩
          | next =>
            obtain ⟨σ6, H6, S6, q6⟩ := hsp
            exact ⟨_, _, S6.unsuite ok, q6⟩
          | brk =>
            obtain ⟨σ6, H6, S6, q6⟩ := hsp
            exact ⟨_, _, S6.unsuite ok, q6⟩
          | cont =>
            obtain ⟨σ6, H6, S6, q6⟩ := hsp
            exact ⟨_, _, S6.unsuite ok, q6⟩
      | @named x n c i ts b₀ su np pos' hds2 l2 hN hi hln hc hsu r ih =>
        intro w
        obtain ⟨b, hb1, hyes, hno⟩ := w
        refine wpAny_handleBy_cons (codeAny_handlers_test (test hc ((PySem.W.exm_one (M := model X.prog X.w) (J3.kIn) LT hb1).here ?_))) (by intro q; cases q)
        cases b with
        | false => exact ih (hno rfl)
        | true =>
          refine codeAny_handlers_suite_as (HandSPX.lands_againZ fl3 fun h4 fl4 up4 => ?_)
          have J4 : Inv X pins σ' H' { s' with heap := h4 } := J.landed nb fl4.1 ((up.trans up3).trans up4) os ag
          obtain ⟨oe4, vs4, he4, hz4, hd4⟩ := fl4.there
          refine store_ok (X := X.suite a ((a, oe4) :: (X.pn ++ pins))) (v := .ref a) (J4.suite he4 hd4 na nL nF) hN hi (.inl hln) rfl (fun s5 S5 => ?_) (.inr hln)
          refine wpAny_mono ((hsu a oe4 cls d (X.pn ++ pins) hz4 ⟨_, hd4⟩).run [] s5 _ H' _ S5 (hyes rfl a na)) (fun f s6 hsp => ?_) (fun _ _ z => False.elim z)
          have end_ : ∀ {σ6 : L2.St} {H6 : Hp} {Q : Shared → Prop}, Inv (X.suite a ((a, oe4) :: (X.pn ++ pins))) [] σ6 H6 s6 → (∀ s7, Inv X pins (σ6.set i none) H6 s7 → Q s7) →
              wpAny (model X.prog X.w) X.A (do bindName X.env n .none; unbindBehindTheSuite X.env n pos') (fun _ s7 => Q s7) X.xe s6 := fun {σ6 H6 Q} S6 hq => gone_ok (S6.unsuite ok) hN hi hln hq
          cases f with
          | ret u =>
            obtain ⟨v6, σ6, H6, S6, r6, q6⟩ := hsp
            exact end_ S6 fun s7 J7 => ⟨_, _, _, J7, r6, q6⟩
          | next =>
            obtain ⟨σ6, H6, S6, q6⟩ := hsp
            exact end_ S6 fun s7 J7 => ⟨_, _, J7, q6⟩
          | brk =>
            obtain ⟨σ6, H6, S6, q6⟩ := hsp
            exact end_ S6 fun s7 J7 => ⟨_, _, J7, q6⟩
          | cont =>
            obtain ⟨σ6, H6, S6, q6⟩ := hsp
            exact end_ S6 fun s7 J7 => ⟨_, _, J7, q6⟩
    exact go hh w
  · cases f with
    | ret u =>
      obtain ⟨v, σ', H', J', r, q⟩ := hsp
      exact ⟨v, σ', H', J'.ofTry ok, r, q⟩
    | next =>
      obtain ⟨σ', H', J', q⟩ := hsp
      exact wpAny_execs_nil ⟨σ', H', J'.ofTry ok, q⟩
    | brk =>
      obtain ⟨σ', H', J', q⟩ := hsp
      exact ⟨σ', H', J'.ofTry ok, q⟩
    | cont =>
      obtain ⟨σ', H', J', q⟩ := hsp
      exact ⟨σ', H', J'.ofTry ok, q⟩
end
end NF

/-! In a suite: isinstance of the caught exception (it has a dict), its fields. -/
namespace PySem.W
open PySem PySem.Spec PySem.Calls PyProof.Rows
section
variable {prog : Program} {w : World} {A : Around} {E : Value → Shared → Prop} {s : Shared} {K : Frag} {x D : Addr} {ox : Obj} {od : Option Obj}
theorem nf_class {Q : Option Value → Shared → Prop} (C : L2.ExcC K D) (X : K.In s.heap) (I : InstAt s.heap x ox D od) (h : Q (some (.ref D)) { s with toks := s.toks + 1 }) : wpAny (model prog w) A (getAttr? (.ref x) "__class__") Q E s := by
  have hf : findObj K D od "__class__" = some (.bind (.builtin "getset_descriptor.__get__") (.builtin "object.__class__")) := findObj_dataE (by obtain ⟨cd, hc, _⟩ := any_some C.hd; rw [hc]; rfl) C.ha C.hn C.ht
  obtain ⟨hp, g, d, t, os⟩ := s
  have L0 := I.type (M := model prog w)
  have L1 := looks_findIn (M := model prog w) X C.hg
  have L2 := looks_findIn (M := model prog w) X C.hk
  have L3 := looks_find (M := model prog w) X I hf
  have sub : Looks (model prog w) hp (isInstance (.ref x) (.type "BaseException")) true := L0.andThen (looks_subIn X C.hs)
  have e2 : (Value.builtin "BaseException.__getattribute__" == Value.builtin "object.__getattribute__") = false := by decide +kernel
  have e1 : (onTheHeap (Value.ref D) && Value.builtin "BaseException.__getattribute__" == Value.builtin "object.__getattribute__") = false := by rw [e2]; rfl
  unfold getAttr? getAttrBy? getAttrBy
  refine wpAny_bind (wpAny_mkText (wpAny_bind (wpAny_attempt (wpAny_holding (wpAny_bind (L0.at (wpAny_bind (L1.at ?_))))))))
  show wpAny _ _ (if (onTheHeap (Value.ref D) && Value.builtin "BaseException.__getattribute__" == Value.builtin "object.__getattribute__") = true then _ else _) _ _ _
  rw [e1, if_neg Bool.false_ne_true]
  unfold getAttrByItsOwn hookBefore
  refine wpAny_bind ?_
  rw [if_pos (show onTheHeap (Value.ref D) = true from rfl)]
  refine L2.at (wpAny_bind (wpAny_attempt (wpAny_holding ?_)))
  unfold callGetattribute
  rw [show (false && onTheHeap (Value.builtin "BaseException.__getattribute__")) = false from rfl, if_neg Bool.false_ne_true]
  unfold boundAndCalled
  rw [PySem.F.excAttr_ValueError.ga.bind (.ref x)]
  refine wpAny_bind (wpAny_pure ?_)
  show wpAny _ _ (call (.builtin "BaseException.__getattribute__") [.ref x, .str "__class__" t]) _ _ _
  refine wpAny_call (codeAny_call_builtin PySem.F.excAttr_ValueError.ga.plain PySem.F.entry_bexc_ga ?_)
  refine @check_slot (model prog w) _ _ ⟨hp, g, d, t + 1, os⟩ "BaseException.__getattribute__" "BaseException" "__getattribute__" (.ref x) [.str "__class__" t] [] _ (by decide +kernel) (by decide +kernel) sub (PySem.F.args_bexc_ga (.ref x) (.str "__class__" t)) ?_
  unfold Builtin.«object.__getattribute__»
  refine wpAny_bind (wpAny_of_eq (a := ((Value.ref x : Value), [Value.str "__class__" t])) (by first | rfl | (simp only [slotArgs]; rfl)) ?_)
  refine wpAny_bind (wpAny_pure (wpAny_bind (L0.at (wpAny_bind (L3.at ?_)))))
  show wpAny _ _ (holding [Value.builtin "object.__class__"] (call (.builtin "getset_descriptor.__get__") [.builtin "object.__class__", .ref x, .ref D]) >>= ret) _ _ _
  refine wpAny_bind (wpAny_holding (wpAny_call (class_get (s := ⟨hp, g, d, t + 1, os⟩) (ox := ox) (od := od) X I C.hm (wpAny_pure ?_))))
  show wpAny _ _ (handedOut (.ref D)) _ _ _
  rw [handedOut_of (v := .ref D) rfl]
  first
    | exact wpAny_pure (wpAny_pure h)
    | exact wpAny_pure h
    | exact wpAny_pure (wpAny_bind (wpAny_pure (wpAny_pure h)))
theorem nf_kitx (C : L2.ExcC K D) : KitX K (.ref x) (.ref D) (fun h => ∃ od, InstAt h x ox D od) where
  ty := fun _ _ _ ⟨_, I⟩ => I.type
  it := fun _ _ X _ => by
    obtain ⟨cdD, hcD, _⟩ := any_some C.hd
    unfold clsIn at hcD
    split at hcD
    · rename_i c' d' cd' sl' ho
      intro A' Q' E' s' k q
      unfold isType loadHead
      exact wpAny_bind (wpAny_loadPart (k _ _ (X _ _ ho)) (wpAny_pure q))
    · cases hcD
  ne := fun h tp dd its n sl X htp => by
    obtain ⟨cdD, hcD, _⟩ := any_some C.hd
    refine Bool.eq_false_iff.mpr fun q => ?_
    obtain rfl : D = tp := Value.ref.inj (beq_iff_eq.mp q)
    unfold clsIn at hcD
    split at hcD
    · rename_i c' d' cd' sl' ho
      cases (X _ _ ho).symm.trans htp
    · cases hcD
  ca := fun X ⟨_, I⟩ k => nf_class C X I k
end
end PySem.W
namespace NF
open PySem PySem.Spec PyProof.Rows L2

/-- what an object of the suite is -/
theorem inst_of {X : Cx} {a D dd : Addr} {oe : Obj} {pn pins : List (Addr × Obj)} {σ : L2.St} {H : Hp} {s : Shared} {fs : List (Str × V)} (I : Inv (X.suite a ((a, oe) :: pn)) pins σ H s) (hz : L2N.Zn (.ref D) (some dd) oe) (hf : ∃ vs, oe.data = .fields vs) (ea : H dd = some (.xd fs)) :
    ∃ od, PySem.W.InstAt s.heap a oe D (some od) ∧ ∀ n, (v : V) → fs.lookup n = some v → ∃ u, PySem.W.lookIn n od = some (some u) ∧ RelV v u := by
  obtain ⟨ha, _⟩ := I.pin (a, oe) (List.mem_append_left _ List.mem_cons_self)
  obtain ⟨vs, hd⟩ := hf
  have hx : ObjOk X.prog X.w H s.heap dd (.xd fs) := I.hok dd _ ea
  obtain ⟨mA, hns, hr⟩ := hx
  obtain ⟨od, ho, hl⟩ := lookIn_ns hns
  refine ⟨od, ⟨ha, hz.1, by unfold PySem.W.notCls; rw [hd] <;> rfl, by rw [hz.2.1]; exact ho⟩, fun n v l => ?_⟩
  obtain ⟨u, hu, ru⟩ := RelO.some_of (v := v) (o := mA n) (by rw [← l]; exact hr n)
  exact ⟨u, by rw [hl, hu], ru⟩

/-- e.f of the caught exception -/
def tXfN (K : PySem.W.Frag) (a : Addr) (cls : Value) (d : Option Addr) (f : Str) (te : TE) : TE := fun σ H Q => te σ H fun x H1 => x = .ref a ∧ ∃ (D dd : Addr) (fs : List (Str × V)) (v : V), cls = .ref D ∧ ExcC K D ∧ PySem.W.findIn K (.ref D) f = some none ∧ d = some dd ∧ H1 dd = some (.xd fs) ∧ fs.lookup f = some v ∧ Q v H1
theorem pe_xfN {X : Cx} {a : Addr} {oe : Obj} {cls : Value} {d : Option Addr} {pn : List (Addr × Obj)} {e : Expr} {te : TE} {pos : Pos} {n : Str}
    (hz : L2N.Zn cls d oe) (hf : ∃ vs, oe.data = .fields vs) (he : PE (X.suite a ((a, oe) :: pn)) e te) (hb : attributeBase e n X.env (eval e X.env) = eval e X.env := by rfl) :
    PE (X.suite a ((a, oe) :: pn)) (.Attribute e n pos) (tXfN X.K a cls d n te) := by
  refine ⟨fun pins s σ H Q I h => ?_⟩
  refine attr_of hb (thn (he.run pins s σ H _ I h) fun u s1 hh => ?_)
  obtain ⟨x, H1, I1, rx, ex, D, dd, fs, v, ec, T, hno, ed, ea, l, q⟩ := hh
  subst ex
  obtain rfl : u = Value.ref a := rx
  subst ec
  subst ed
  obtain ⟨od, J, hl⟩ := inst_of I1 hz hf ea
  obtain ⟨u, hu, ru⟩ := hl n v l
  exact HandSPX.exc_get I1.kIn J T.hg T.hk T.hs (PySem.W.findObj_own T.hd hno rfl hu) (handed_of ru) ⟨v, H1, I1.tok _, ru, q⟩

/-- isinstance of it -/
def rIsX (K : PySem.W.Frag) (a : Addr) (cls : Value) (d : Option Addr) : List V → Hp → VK → Prop := fun xs H Q => ∃ (D dd : Addr) (fs : List (Str × V)) (b : Bool), cls = .ref D ∧ ExcC K D ∧ d = some dd ∧ H dd = some (.xd fs) ∧
  ((∃ (c : V) (cv : Value), xs = [.ref a, c] ∧ (∀ u, RelV c u → u = cv) ∧ PySem.W.kitOne K (.ref D) cv = some b) ∨
    (∃ (tp : Addr) (cs : List V) (cvs : List Value), xs = [.ref a, .ref tp] ∧ H tp = some (.tup cs) ∧ (∀ us, Vals cs us → us = cvs) ∧ PySem.W.kitAny K (.ref D) cvs = some b)) ∧ Q (.bl b) H
theorem call_isX {X : Cx} {a : Addr} {oe : Obj} {cls : Value} {d : Option Addr} {pn : List (Addr × Obj)} (hz : L2N.Zn cls d oe) (hf : ∃ vs, oe.data = .fields vs) : CallR (X.suite a ((a, oe) :: pn)) (.builtin "isinstance") (rIsX X.K a cls d) := by
  intro pins s σ H xs us Q I r h
  obtain ⟨D, dd, fs, b, ec, T, ed, ea, h, q⟩ := h
  subst ec
  subst ed
  obtain ⟨od, J, _⟩ := inst_of I hz hf ea
  rcases h with ⟨c, cv, rfl, hcv, e⟩ | ⟨tp, cs, cvs, rfl, et, hcv, e⟩
  · cases r with
    | cons rx rr =>
      cases rr with
      | cons rt rr =>
        cases rr
        cases rx
        have ec := hcv _ rt
        subst ec
        exact PySem.W.kia_one (PySem.W.nf_kitx (ox := oe) T) I.kIn ⟨_, J⟩ e (fun z => nomatch z) fun tk => ⟨.bl b, H, I.kept (t' := tk) fun _ _ z => z, rfl, q⟩
  · cases r with
    | cons rx rr =>
      cases rr with
      | cons rt rr =>
        cases rr
        cases rx
        cases rt
        obtain ⟨its, vi, ti, _⟩ := I.tuple (.inl (.inl et))
        obtain rfl := hcv _ vi
        obtain ⟨⟨oc, odd, oda, osl⟩, hg, h1, n, h2⟩ := ti
        dsimp only at h1 h2
        subst h1 h2
        exact PySem.W.kia_tup (PySem.W.nf_kitx (ox := oe) T) I.kIn ⟨_, J⟩ hg e (fun z => nomatch z) fun tk => ⟨.bl b, H, I.kept (t' := tk) fun _ _ z => z, rfl, q⟩
end NF

/-! What the head hands over of exception classes. -/
namespace NF
open PySem PySem.Spec PyProof.Rows PySem.W PySem.Calls L2

/-- what is asked of a raised class at C at once -/
def oexB (K : Frag) (C : Addr) : Bool := match K.lookup C with
  | some ⟨.type "type", _, .cls cd, sl⟩ => (match cd.mro, sl.toList with
    | .ref C' :: bm, [_, _, _, _, some (.builtin n), _] => C' == C && (n == "ValueError.__new__" && (!cd.hasDel && (cd.hasDict && PySem.HandSPX.refsVE bm)))
    | _, _ => false)
  | _ => false
theorem oexB_ok {K : Frag} {C : Addr} (q : oexB K C = true) : ∃ nm q N bs bm sn sub ab col dd k0 k1 k2 k3 k5, K.lookup C = some (excClassObj nm q C N bs bm true sn sub ab col dd k0 k1 k2 k3 k5 "ValueError.__new__") ∧ PySem.HandSPX.refsVE bm = true := by
  unfold oexB at q
  split at q
  · rename_i dd cd sl ho
    split at q
    · rename_i C' bm k0 k1 k2 k3 n k5 hm hs
      simp only [Bool.and_eq_true, beq_iff_eq, Bool.not_eq_true'] at q
      obtain ⟨rfl, rfl, hdel, hdd, ht⟩ := q
      obtain ⟨nm, bs, mro, ns, qn, hd, sn, sub, ab, col, del⟩ := cd
      dsimp only at hm hdel hdd
      subst hm hdel hdd
      have hsl : sl = #[k0, k1, k2, k3, some (.builtin "ValueError.__new__"), k5] := by
        obtain ⟨l⟩ := sl
        simp only at hs
        rw [hs]
      subst hsl
      exact ⟨nm, qn, ns, bs, bm, sn, sub, ab, col, dd, k0, k1, k2, k3, k5, ho, ht⟩
    · cases q
  · cases q
def xrB (K : Frag) (C D f : Addr) (fld : Str) : Bool :=
  oexB K C && (decide (findIn K (.ref C) "__setattr__" = some (some (.builtin "object.__setattr__"))) && (decide (subIn K (.ref C) (.type "BaseException") = some true) && (decide (typeIn K (.ref C) = some (.type "type")) && (keepIn K (.ref C) &&
  (excInitIn K C PySem.HandSPX.veTail "ValueError.__new__" && (decide (subIn K (.ref C) (.type "ValueError") = some true) && (decide (nsIn K cStatics "thirdparty.any" = some none) &&
  (decide (findIn K (.ref C) "__getattribute__" = some (some (.builtin "BaseException.__getattribute__"))) && (decide (findIn K (.ref C) "__getattr__" = some none) && (hasDictIn K C && (decide (findIn K (.ref C) "__class__" = some (some (.builtin "object.__class__"))) &&
  (decide (specialIn K (.builtin "object.__class__") "__get__" = some (some (.builtin "getset_descriptor.__get__"))) && (decide (takesIn K (.builtin "object.__class__") = some true) && (decide (mroIn K C (.type "object") = some true) &&
  (decide (findIn K (.ref C) fld = some none) && (decide (typeIn K (.ref f) = some (.type "function")) && ((clsIn K D).isSome && (decide (mroIn K C (.ref D) = some true) && decide (ks_superIn K C D "__init__" = some (some (.builtin "ValueError.__init__")))))))))))))))))))))
structure XRaw (P : Program) (K : Frag) (C : Addr) (fld : Str) : Prop where
  oex : OexC K C
  ini : excInitIn K C PySem.HandSPX.veTail "ValueError.__new__" = true
  sub : subIn K (.ref C) (.type "ValueError") = some true
  opq : nsIn K cStatics "thirdparty.any" = some none
  htop : (P.main.scope.names.lookup ("super" : Str)).isSome = false
  exc : ExcC K C
  nof : findIn K (.ref C) fld = some none
  fn : ∃ fI fd, findIn K (.ref C) "__init__" = some (some (.ref fI)) ∧ typeIn K (.ref fI) = some (.type "function") ∧ Binds K fd ["self", fld] [] ∧
    ∀ (mg : Str → Option Value), mg "super" = none → ∀ (w : World) (base : Heap) (CX : CXT), FnOk P w K mg base CX 1 fI fd ["self", fld] (spX K C fld)

theorem xraw_mk {P : Program} {K : Frag} {C D f cc cda : Addr} {name qual fld txt : Str} {j : Nat} {params : Arguments} {scope : Scope} {dV kV doc pm ct oc ccl cl : Value} {an od cdd cld : Option Addr}
    {osl ccs csl : Array (Option Value)} {vs : Array Value} {file : Str} {tf : Tok} {ar : Arg} {p0 p1 p2 p3 p4 p5 q0 q1 q2 q3 : Pos} {pl : Env → Sem Bool}
    (iC : findIn K (.ref C) "__init__" = some (some (.ref f)))
    (lk : K.lookup f = some ⟨oc, od, .func (ksFn name qual params [.Expr (.Call (.Attribute (.Call (.Name "super" p0) [] [] p1) "__init__" p2) [.Constant (.str txt) j p3] [] p4) p5, .Assign [.Attribute (.Name "self" q0) fld q1] (.Name fld q2) q3] scope dV kV doc pm an (.ref cda) ct cc), osl⟩)
    (hcode : K.lookup cda = some ⟨ccl, cdd, .fields vs, ccs⟩) (hcell : K.lookup cc = some ⟨cl, cld, .cell (some (.ref D)), csl⟩) (hx : xrB K C D f fld = true)
    (hcd : codeIn K (.ref cda) qual = true) (hvs : vs[2]? = some (.str file tf)) (hfile : ((P.main.file : Str) == file) = true) (htop : (P.main.scope.names.lookup ("super" : Str)).isSome = false)
    (hp : (params.posonlyargs ++ params.args).head? = some ar) (har : ar.arg = "self")
    (hns : ("self" : Str) ≠ fld) (hdb : (fld == ("__debug__" : Str)) = false)
    (s1 : scope.names.lookup ("self" : Str) = some .local) (s2 : scope.names.lookup fld = some .local) (s3 : scope.names.lookup ("super" : Str) = some .globalImplicit) (s4 : scope.names.lookup ("__class__" : Str) = some .free)
    (hnc : ∀ x ∈ scope.names, x.2 ≠ .cell) (hco : scope.isCoroutine = false) (hgen : scope.isGenerator = false) (hk : scope.kind = .function)
    (hb : ∀ us : List Value, us.length = 2 → bindArgs (ksFn name qual params [.Expr (.Call (.Attribute (.Call (.Name "super" p0) [] [] p1) "__init__" p2) [.Constant (.str txt) j p3] [] p4) p5, .Assign [.Attribute (.Name "self" q0) fld q1] (.Name fld q2) q3] scope dV kV doc pm an (.ref cda) ct cc) ⟨us, []⟩ = pure (([("self" : Str), fld] : List Str).zip us))
    (hme : ∀ env : Env, eval (.Call (.Attribute (.Call (.Name "super" p0) [] [] p1) "__init__" p2) [.Constant (.str txt) j p3] [] p4) env = (do
      let ov ← attributeBase (.Call (.Name "super" p0) [] [] p1) "__init__" env (eval (.Call (.Name "super" p0) [] [] p1) env)
      standAt p2.atName
      let (f, first) ← holding [ov] (getMethod ov "__init__" (pl env))
      callWith p4 f first (backTo p4 (starEach [.Constant (.str txt) j p3] env)) [])) : XRaw P K C fld := by
  unfold xrB at hx
  simp only [Bool.and_eq_true, decide_eq_true_eq] at hx
  obtain ⟨x1, x2, x3, x4, x5, x6, x7, x8, x9, x10, x11, x12, x13, x14, x15, x16, x17, x18, x19, x20⟩ := hx
  obtain ⟨cdD, hD⟩ := Option.isSome_iff_exists.mp x18
  have O : OexC K C := ⟨oexB_ok x1, x2, x3, x4, x5⟩
  refine ⟨O, x6, x7, x8, htop, ⟨x9, x10, x3, x11, x12, x13, x14, x15⟩, x16, f, _, iC, x17, .all hb, fun mg hs w base CX => ?_⟩
  exact fn_sup (⟨O, x6, x7, x8, hs, htop⟩ : XCls P K mg C) lk hcd hcode hvs hfile hcell hD hp har x19 x20 x16 hns hdb s1 s2 s3 s4 hnc hco hgen hk pl hme

theorem XRaw.fact {P : Program} {K : Frag} {C : Addr} {x fld : Str} {h : Heap} {mg : Str → Option Value} (R : XRaw P K C fld) (X : K.In h) (G : h.Ns mainGlobals mg) (n : nsIn K mainGlobals x = some (some (.ref C))) (hs : mg "super" = none) : XFact P K mg x fld := by
  have hm := mg_of X G n
  have e := cad_eq hm
  obtain ⟨fI, fd, a1, a2, a3, a4⟩ := R.fn
  refine ⟨⟨by rw [e]; exact hm, by rw [e]; exact R.oex.exC, by rw [e]; exact R.exc.hd, by rw [e]; exact R.oex.tyC⟩, by rw [e]; exact ⟨R.oex, R.ini, R.sub, R.opq, hs, R.htop⟩, by rw [e]; exact R.exc, by rw [e]; exact R.nof, fI, fd, by rw [e]; exact a1, a2, a3, ?_⟩
  rw [e]
  exact a4 mg hs

/-- how two classes stand: is the one's instance the other's -/
structure XPair (K : Frag) (A B : Value) (b : Bool) : Prop where
  kit : kitOne K A B = some b
  exm : exmOne K A B = some b
def xpB (K : Frag) (A B : Value) (b : Bool) : Bool := decide (kitOne K A B = some b) && decide (exmOne K A B = some b)
theorem xpair_mk {K : Frag} {A B : Value} {b : Bool} (h : xpB K A B b = true) : XPair K A B b := by
  obtain ⟨h1, h2⟩ := Bool.and_eq_true_iff.mp h
  exact ⟨of_decide_eq_true h1, of_decide_eq_true h2⟩
theorem kitAny_nil {K : Frag} {t : Value} : kitAny K t [] = some false := rfl
theorem kitAny_f {K : Frag} {t c : Value} {r : List Value} {b : Bool} (h : kitOne K t c = some false) (q : kitAny K t r = some b) : kitAny K t (c :: r) = some b := by
  unfold kitAny
  rw [h]
  exact q
theorem kitAny_t {K : Frag} {t c : Value} {r : List Value} (h : kitOne K t c = some true) : kitAny K t (c :: r) = some true := by
  unfold kitAny
  rw [h]
end NF

/-! Own exceptions whose __init__ says super().__init__('..') and nothing more: X(). -/
namespace NF
open PySem PySem.Spec PyProof.Rows PySem.W PySem.Calls L2
def spX0 (K : Frag) (C : Addr) : Sp := fun vs H Q _ => ∃ e, vs = [.ref e] ∧ H e = some (exo e C none) ∧ Q .non H
theorem fn_sup0 {CX : CXT} {P : Program} {w : World} {K : Frag} {mg : Str → Option Value} {base : Heap} {k : Nat} {C D f cc cda : Addr} {cdD : ClassData} {name qual txt : Str} {j : Nat} {params : Arguments} {scope : Scope} {dV kV doc pm ct oc ccl cl : Value} {an od cdd cld : Option Addr}
    {osl ccs csl : Array (Option Value)} {vs : Array Value} {file : Str} {tf : Tok} {ar : Arg} {p0 p1 p2 p3 p4 p5 : Pos} (T : XCls P K mg C)
    (lk : K.lookup f = some ⟨oc, od, .func (ksFn name qual params [.Expr (.Call (.Attribute (.Call (.Name "super" p0) [] [] p1) "__init__" p2) [.Constant (.str txt) j p3] [] p4) p5] scope dV kV doc pm an (.ref cda) ct cc), osl⟩)
    (hcd : codeIn K (.ref cda) qual = true) (hcode : K.lookup cda = some ⟨ccl, cdd, .fields vs, ccs⟩) (hvs : vs[2]? = some (.str file tf)) (hfile : ((P.main.file : Str) == file) = true)
    (hcell : K.lookup cc = some ⟨cl, cld, .cell (some (.ref D)), csl⟩) (hD : clsIn K D = some cdD) (hp : (params.posonlyargs ++ params.args).head? = some ar) (har : ar.arg = "self")
    (hmro : mroIn K C (.ref D) = some true) (hsi : ks_superIn K C D "__init__" = some (some (.builtin "ValueError.__init__")))
    (s1 : scope.names.lookup ("self" : Str) = some .local) (s3 : scope.names.lookup ("super" : Str) = some .globalImplicit) (s4 : scope.names.lookup ("__class__" : Str) = some .free)
    (hnc : ∀ x ∈ scope.names, x.2 ≠ .cell) (hco : scope.isCoroutine = false) (hgen : scope.isGenerator = false) (hk : scope.kind = .function) (pl : Env → Sem Bool)
    (hme : ∀ env : Env, eval (.Call (.Attribute (.Call (.Name "super" p0) [] [] p1) "__init__" p2) [.Constant (.str txt) j p3] [] p4) env = (do
      let ov ← attributeBase (.Call (.Name "super" p0) [] [] p1) "__init__" env (eval (.Call (.Name "super" p0) [] [] p1) env)
      standAt p2.atName
      let (f, first) ← holding [ov] (getMethod ov "__init__" (pl env))
      callWith p4 f first (backTo p4 (starEach [.Constant (.str txt) j p3] env)) [])) :
    FnOk P w K mg base CX (k + 1) f (ksFn name qual params [.Expr (.Call (.Attribute (.Call (.Name "super" p0) [] [] p1) "__init__" p2) [.Constant (.str txt) j p3] [] p4) p5] scope dV kV doc pm an (.ref cda) ct cc)
      ["self"] (spX0 K C) := by
  refine ⟨fun vs H Q E ⟨e, hv, _⟩ => by rw [hv]; rfl, fun A outer s H args us vs Q E hr e0 hb r hsp => ?_⟩
  obtain ⟨x, rfl, hx, hq⟩ := hsp
  obtain ⟨u0, us1, rfl, r1, r⟩ : ∃ u0 us1, us = u0 :: us1 ∧ RelV (.ref x) u0 ∧ Vals [] us1 := by cases r with | cons a b => exact ⟨_, _, rfl, a, b⟩
  cases r
  obtain rfl : u0 = Value.ref x := r1
  have KX : K.In s.heap := e0.mod.kin.keeps fun b o e => (e0.bs b o e).1
  have lim : s.heap.NoLimit := e0.mod.nolimit.keeps fun b o e => (e0.bs b o e).1
  refine ks_codeAny_call_defAt hr.depth (KX _ _ lk) rfl lim (codeRec_of KX hcd) rfl hb hnc (fun y hy => ?_) (fun h1 hns1 hk1 => ?_) hco hgen hk
  · have hy' : y = (("self" : Str), Value.ref x) := by simpa using hy
    rcases hy' with rfl
    exact s1
  obtain ⟨t0, hx0⟩ := exo_at e0.hok hx
  have hx1 := hk1 _ _ hx0
  obtain ⟨hp0, g, d, tk, os⟩ := s
  have X1 : K.In h1 := KX.keeps hk1
  have bk1 : ∀ b o, base.get? b = some o → h1.get? b = some o := fun b o e => hk1 b o (e0.bs b o e).1
  have mself : ((((["self"] : List Str).zip [Value.ref x]).reverse).lookup ("self" : Str)) = some (Value.ref x) := by
    simp [List.lookup]
  refine ks_wpAt_execs_cons (ks_wpAt_Expr_any (ks_wpAt_MethodCall (pl := pl _) ?body (hme _)) ?hi ?hsw)
  case hi =>
    unfold interactive
    show (scope.kind == ScopeKind.module && _) = false
    rw [hk]
    rfl
  case hsw => rfl
  refine ks_wpAt_super_base s3 s4 (by decide) rfl (X1 _ _ lk) rfl hp rfl (X1 _ _ hcode) rfl hvs hfile T.htop ?_
  obtain ⟨mb, hb1, hb2⟩ := e0.mod.blt
  refine ks_loadName_global hk s3 (loadGlobal_builtin (e0.mod.glob.keeps bk1) T.sup (hb1.keeps bk1) ((hb2 _ (by decide)).trans (by first | boot_by_name | rfl | kernel_rfl)) ⟨rfl, ?_⟩)
  refine wpAny_loadName_free hk s4 rfl ⟨_, X1 _ _ hcell, rfl⟩ ?_
  rw [har]
  refine wpAny_loadName_local hk s1 hns1 mself ?_
  obtain ⟨oD, hD1, hD2⟩ : ∃ oD, h1.get? D = some oD ∧ oD.data = .cls cdD := by
    unfold clsIn at hD
    split at hD
    · rename_i c d cd' sl ho
      cases hD
      exact ⟨_, X1 _ _ ho, rfl⟩
    · cases hD
  refine ks_wpAny_isType_cls hD1 hD2 ⟨rfl, ?_⟩
  refine ks_wpAny_call_super hD1 hD2 hx1 rfl (fun c e => by cases e) (looks_mroIn X1 hmro) (fun h2 e2 k2 => ?_)
  have X2 : K.In h2 := X1.keeps k2
  have hx2 := k2 _ _ hx1
  have I2 : InstAt h2 x (PySem.HandSPX.excO C t0) C none := ⟨hx2, rfl, rfl, trivial⟩
  cases hc : clsIn K C with
  | none => unfold ks_superIn at hsi; rw [hc] at hsi; cases hsi
  | some cd =>
    unfold ks_superIn at hsi
    rw [hc] at hsi
    refine kxs_getMethod kxs_ValueError e2 (looks_opaque X2 T.opq) (l₀ := cd.mro) ?_ rfl X2 hsi (I2.type.andThen (looks_subIn X2 T.sub)) (ks_ne X2 I2 hc) (by decide) ?_
    · exact fun A Q E s k q => wpAny_bind ((looks_clsIn X2 hc) A _ E s k (wpAny_pure q))
    refine kxs_callWith (i := "ValueError.__init__") (x := x) rfl ?_
    refine evalArgs_plain ?_
    show wpAny _ _ (spliced ((false, eval (.Constant (.str txt) j p3) _) :: backTo p4 (starEach [] _))) _ _ _
    refine spliced_cons (Constant_str (spliced_nil ?_))
    have k3 : ∀ b o, h2.get? b = some o → (h2.push (kxs_mw "ValueError.__init__" x)).get? b = some o := fun b o e => Heap.get?_push_of_some _ e
    have hu3 : (h2.push (kxs_mw "ValueError.__init__" x)).get? h2.objs.size = some (kxs_mw "ValueError.__init__" x) := Heap.get?_push_at rfl rfl
    refine ⟨hu3, ?_⟩
    refine call_mwVE (X2.keeps k3) T.ini hu3 (k3 _ _ hx2) (by size_fits) fun h4 t1 k4 hx4 => ?_
    have k14 : ∀ b o, b ≠ x → h1.get? b = some o → h4.get? b = some o := fun b o hb e => k4 b o hb (k3 _ _ (k2 _ _ e))
    have hn : H hp0.objs.size = none := e0.hok.fresh (Nat.le_refl _)
    have hxL : hp0.objs.size ≠ x := fun z => by rw [z, hx] at hn; cases hn
    have X4 : K.In h4 := e0.mod.kin.keeps fun b o e => k14 b o (fun z => by
      have q := (e0.bs b o e).2
      rw [z, hx] at q
      cases q) (bk1 b o e)
    show _root_.PySem.wpAt _ _ _ (execs [] _) _ _ _
    refine wpAt_of_wpAny (wpAny_execs_nil ?_)
    have k05 : ∀ b o, b ≠ x → hp0.get? b = some o → h4.get? b = some o := fun b o hb e => k14 b o hb (hk1 b o e)
    have na : ∀ {b : Addr}, H b = none → b ≠ x := fun {b} n z => by
      rw [z, hx] at n
      cases n
    have Un1 : Un (frs outer) [] H H hp0 h4 := {
      keep := fun b o q n _ _ => k05 b o (na n) q
      slot := fun b o q n _ _ => ⟨o.slots, k05 b o (na n) q⟩
      free := fun b o q n _ => n
      there := fun b o q _ => by
        by_cases hb : b = x
        · exact ⟨_, by rw [hb]; exact hx4⟩
        · exact ⟨o, k05 b o hb q⟩
      tups := fun b xs q => q
      frzs := fun b o v q => q
      tbls := fun b ps q => ⟨#[], by rw [q]; simp⟩ }
    refine ⟨.non, _, rfl, e0.bare, Un1, fun b o q => ?_, rfl, hq⟩
    by_cases hb : b = x
    · subst hb
      rw [hx] at q
      cases q
      exact exo_ok hx4
    · exact (e0.hok b o q).stay (fun c v hc z => k05 c v (by
            rcases hc with hc | hc
            · rw [hc]
              exact hb
            · exact at_ne hx hc exo_own) z)
          (fun c hc => hc) (fun c xs hc => hc)

section
variable {X : Cx}
theorem mk_end00 {pins : List (Addr × Obj)} {σ : L2.St} {H1 H2 : Hp} {hp hp2 h2 : Heap} {g1 g2 : Array GenState} {d1 d2 : Drawn} {t1 t2 : Nat} {os1 os2 : OsState} {a C : Addr} (I1 : Inv X pins σ H1 ⟨hp, g1, d1, t1, os1⟩)
    (ha : hp.objs.size ≤ a) (k : ∀ b o, hp.get? b = some o → hp2.get? b = some o) (un : Un (frs X.stack) [] (upd H1 a (exo a C none)) H2 hp2 h2) (hok : HOk X.prog X.w H2 h2) (ho : os2 = os1) (hb : AllBare g2)
    (ea : H2 a = some (exo a C none)) :
    ∃ (t0 : Addr) (G : Heap), Inv X pins σ (del H2 a) ⟨G, g2, d2, t2, os2⟩ ∧ (∀ b o, G.get? b = some o → h2.get? b = some o) ∧ G.get? a = none ∧
      h2.get? a = some ({ cls := .ref C, dict := none, data := .fields #[.ref t0, .none, .none, .none, .bool false, .none] } : Obj) ∧ (del H2 a) a = none := by
  obtain ⟨t0, hoe⟩ := exo_at hok ea
  have hn : H1 a = none := I1.hok.fresh ha
  obtain ⟨G, g1', g2'⟩ := restrict h2 fun b => decide (b ≠ a)
  have gk : ∀ b, b ≠ a → G.get? b = h2.get? b := fun b hb => g1' b (decide_eq_true hb)
  have ge : G.get? a = none := g2' a (by simp)
  have nha : ∀ {b : Addr} {o : Obj}, hp.get? b = some o → b ≠ a := fun {b o} z => Nat.ne_of_lt (Nat.lt_of_lt_of_le (Heap.lt_size z) ha)
  have up : ∀ {b : Addr}, b ≠ a → H1 b = none → upd H1 a (exo a C none) b = none := fun {b} hb n => by rw [upd_ne hb]; exact n
  have U : Un (frs X.stack) [] H1 (del H2 a) hp G := {
    keep := fun b o z n hf hx => by
      rw [gk b (nha z)]
      exact un.keep b o (k b o z) (up (nha z) n) hf hx
    slot := fun b o z n hf hx => by
      rw [gk b (nha z)]
      exact un.slot b o (k b o z) (up (nha z) n) hf hx
    free := fun b o z n hx => by
      rw [del_ne (nha z)]
      exact un.free b o (k b o z) (up (nha z) n) hx
    there := fun b o z hx => by
      rw [gk b (nha z)]
      exact un.there b o (k b o z) hx
    tups := fun b xs z => by
      rw [del_ne (ne_of_none z hn)]
      exact un.tups b xs (by rw [upd_ne (ne_of_none z hn)]; exact z)
    frzs := fun b o v z => by
      rw [del_ne (ne_of_none z hn)]
      exact un.frzs b o v (by rw [upd_ne (ne_of_none z hn)]; exact z)
    tbls := fun b ps z => by
      rw [del_ne (ne_of_none z hn)]
      exact un.tbls b ps (by rw [upd_ne (ne_of_none z hn)]; exact z) }
  have hok3 : HOk X.prog X.w (del H2 a) G := fun b o z => by
    have hba : b ≠ a := fun e => by
      rw [e, del_same] at z
      cases z
    rw [del_ne hba] at z
    have noa : ∀ {c : Addr}, H2 c = some (.own b) → c ≠ a := fun {c} hc => at_ne ea hc exo_own
    exact (hok b o z).stay (fun c v hc y => by
        have hca : c ≠ a := by
          rcases hc with hc | hc
          · rw [hc]
            exact hba
          · exact noa hc
        rw [gk c hca]
        exact y)
      (fun c hc => by rw [del_ne (noa hc)]; exact hc) (fun c xs hc => by rw [del_ne (at_ne ea hc exo_tup)]; exact hc)
  have J : Inv X pins σ (del H2 a) ⟨G, g2, d2, t2, os2⟩ := I1.call' (ch := []) ho U hok3 hb (fun b z => absurd z (by simp))
  exact ⟨t0, G, J, fun b o z => by
    have hba : b ≠ a := fun e => by
      rw [e, ge] at z
      cases z
    rw [gk b hba] at z
    exact z, ge, hoe, del_same⟩
end
structure XFact0 (P : Program) (K : Frag) (mg : Str → Option Value) (x : Str) : Prop where
  nam : XNam K mg x
  cls : XCls P K mg (cad mg x)
  exc : ExcC K (cad mg x)
  ini : ∃ fI fd, findIn K (.ref (cad mg x)) "__init__" = some (some (.ref fI)) ∧ typeIn K (.ref fI) = some (.type "function") ∧ Binds K fd ["self"] [] ∧
    ∀ (w : World) (base : Heap) (CX : CXT), FnOk P w K mg base CX 1 fI fd ["self"] (spX0 K (cad mg x))
def tMkX0 (C : Addr) : L2.St → Hp → XK → Prop := fun σ H Q => Q (.ref C) none H
theorem pmk_x0 {X : Cx} {x : Str} {p pos : Pos} (T : XFact0 X.prog X.K X.mg x) (hr : Room 2 X.A) (hg : Gl X x)
    (hdb : (x == ("__debug__" : Str)) = false := by decide) :
    L2N.PMk X (.Call (.Name x p) [] [] pos) (tMkX0 (cad X.mg x)) := by
  intro pins s σ H1 Q I1 h
  obtain ⟨fI, fd, iC, tI, hb, F1⟩ := T.ini
  have F1 := F1 X.w X.base CX0
  obtain ⟨nm, q, N, bs, bm, sn, sub, ab, col, dd, k0, k1, k2, k3, k5, hC, hbm⟩ := T.cls.oex.cls
  refine wpAny_Call_Name_kw (ld_glob I1 hg T.nam.hm ?_ hdb)
  refine PySem.W.callWith_K0 I1.kIn T.cls.oex.kC ?_
  show wpAny _ _ (call (.ref (cad X.mg x)) []) _ _ _
  obtain ⟨hp, g, dr, tk, os⟩ := s
  have hsz : hp.objs.size ≤ hp.objs.size + 1 := Nat.le_succ _
  have hn : H1 (hp.objs.size + 1) = none := I1.hok.fresh hsz
  have kk : ∀ b o, hp.get? b = some o → ((hp.push (PySem.W.kdv_tup [])).push (PySem.HandSPX.excO (cad X.mg x) hp.objs.size)).get? b = some o := fun b o e => Heap.get?_push_of_some _ (Heap.get?_push_of_some _ e)
  have hget : ((hp.push (PySem.W.kdv_tup [])).push (PySem.HandSPX.excO (cad X.mg x) hp.objs.size)).get? (hp.objs.size + 1) = some (PySem.HandSPX.excO (cad X.mg x) hp.objs.size) := by heap_get
  have I2 : Inv X pins σ (upd H1 (hp.objs.size + 1) (exo (hp.objs.size + 1) (cad X.mg x) none)) ⟨(hp.push (PySem.W.kdv_tup [])).push (PySem.HandSPX.excO (cad X.mg x) hp.objs.size), g, dr, tk, os⟩ :=
    I1.laid (t' := tk) (a := hp.objs.size + 1) (o := exo (hp.objs.size + 1) (cad X.mg x) none) (h' := (hp.push (PySem.W.kdv_tup [])).push (PySem.HandSPX.excO (cad X.mg x) hp.objs.size)) kk hsz (exo_ok hget)
  have r2 : Vals [V.ref (hp.objs.size + 1)] [Value.ref (hp.objs.size + 1)] := .cons rfl .nil
  have b2 := hb _ [Value.ref (hp.objs.size + 1)] I2.kIn rfl
  refine wpAny_call (PySem.HandSPX.call_own PySem.F.excBase_ValueError (fun Y => PySem.HandSPX.refsVE_contains Y bm hbm) (I1.kIn _ _ hC) (PySem.W.looks_findIn I1.kIn iC) (fun self => PySem.W.bind_fn I1.kIn self tI) (by size_fits)
    (codeAny_mono (F1.run _ X.stack _ _ ⟨[Value.ref (hp.objs.size + 1)], []⟩ [Value.ref (hp.objs.size + 1)] _
      (fun v2 H2 => v2 = .non ∧ H2 = upd H1 (hp.objs.size + 1) (exo (hp.objs.size + 1) (cad X.mg x) none))
      (fun _ _ _ => False) (hr.make (cad X.mg x) [] []) (I2.env0.make (cad X.mg x) [] []) b2 r2 ⟨_, rfl, upd_same, rfl, rfl⟩) fun r s' hq' => ?_))
  cases r with
  | error er => exact hq'.elim
  | ok fl =>
    cases fl with
    | ret u =>
      obtain ⟨v2, H2, os2, bare2, un2, hok2, rv, ev, eH⟩ := hq'
      subst ev
      obtain ⟨h2, g2, d2, t2, os'⟩ := s'
      have ea : H2 (hp.objs.size + 1) = some (exo (hp.objs.size + 1) (cad X.mg x) none) := by rw [eH, upd_same]
      obtain ⟨t0, G, J, kG, ge, hoe, na⟩ := mk_end00 (d2 := d2) (t2 := t2) I1 hsz kk un2 hok2 os2 bare2 ea
      have eF : del H2 (hp.objs.size + 1) = H1 := by
        funext b
        by_cases ha : b = hp.objs.size + 1
        · rw [ha, del_same, hn]
        · rw [del_ne ha, eH, upd_ne ha]
      rw [eF] at J na
      refine ⟨rv, ⟨hp.objs.size + 1, _, _, ⟨G, g2, d2, t2, os'⟩, _, .ref (cad X.mg x), none, rfl, J, kG, ge, hoe, ⟨rfl, rfl, fun vs hv => ?_⟩, rfl, rfl, na, rfl, bare2, raises_own T.cls.oex.exC T.cls.oex.tyC, h⟩⟩
      cases hv
      rfl
    | next => exact False.elim hq'
    | brk => exact False.elim hq'
    | cont => exact False.elim hq'
/-! ### what the head hands over -/
structure XRaw0 (P : Program) (K : Frag) (C : Addr) : Prop where
  oex : OexC K C
  ini : excInitIn K C PySem.HandSPX.veTail "ValueError.__new__" = true
  sub : subIn K (.ref C) (.type "ValueError") = some true
  opq : nsIn K cStatics "thirdparty.any" = some none
  htop : (P.main.scope.names.lookup ("super" : Str)).isSome = false
  exc : ExcC K C
  fn : ∃ fI fd, findIn K (.ref C) "__init__" = some (some (.ref fI)) ∧ typeIn K (.ref fI) = some (.type "function") ∧ Binds K fd ["self"] [] ∧
    ∀ (mg : Str → Option Value), mg "super" = none → ∀ (w : World) (base : Heap) (CX : CXT), FnOk P w K mg base CX 1 fI fd ["self"] (spX0 K C)
theorem xraw0_mk {P : Program} {K : Frag} {C D f cc cda : Addr} {name qual txt : Str} {j : Nat} {params : Arguments} {scope : Scope} {dV kV doc pm ct oc ccl cl : Value} {an od cdd cld : Option Addr}
    {osl ccs csl : Array (Option Value)} {vs : Array Value} {file : Str} {tf : Tok} {ar : Arg} {p0 p1 p2 p3 p4 p5 : Pos} {pl : Env → Sem Bool}
    (iC : findIn K (.ref C) "__init__" = some (some (.ref f)))
    (lk : K.lookup f = some ⟨oc, od, .func (ksFn name qual params [.Expr (.Call (.Attribute (.Call (.Name "super" p0) [] [] p1) "__init__" p2) [.Constant (.str txt) j p3] [] p4) p5] scope dV kV doc pm an (.ref cda) ct cc), osl⟩)
    (hcode : K.lookup cda = some ⟨ccl, cdd, .fields vs, ccs⟩) (hcell : K.lookup cc = some ⟨cl, cld, .cell (some (.ref D)), csl⟩) (hx : xrB K C D f "zz" = true)
    (hcd : codeIn K (.ref cda) qual = true) (hvs : vs[2]? = some (.str file tf)) (hfile : ((P.main.file : Str) == file) = true) (htop : (P.main.scope.names.lookup ("super" : Str)).isSome = false)
    (hp : (params.posonlyargs ++ params.args).head? = some ar) (har : ar.arg = "self")
    (s1 : scope.names.lookup ("self" : Str) = some .local) (s3 : scope.names.lookup ("super" : Str) = some .globalImplicit) (s4 : scope.names.lookup ("__class__" : Str) = some .free)
    (hnc : ∀ x ∈ scope.names, x.2 ≠ .cell) (hco : scope.isCoroutine = false) (hgen : scope.isGenerator = false) (hk : scope.kind = .function)
    (hb : ∀ us : List Value, us.length = 1 → bindArgs (ksFn name qual params [.Expr (.Call (.Attribute (.Call (.Name "super" p0) [] [] p1) "__init__" p2) [.Constant (.str txt) j p3] [] p4) p5] scope dV kV doc pm an (.ref cda) ct cc) ⟨us, []⟩ = pure (([("self" : Str)] : List Str).zip us))
    (hme : ∀ env : Env, eval (.Call (.Attribute (.Call (.Name "super" p0) [] [] p1) "__init__" p2) [.Constant (.str txt) j p3] [] p4) env = (do
      let ov ← attributeBase (.Call (.Name "super" p0) [] [] p1) "__init__" env (eval (.Call (.Name "super" p0) [] [] p1) env)
      standAt p2.atName
      let (f, first) ← holding [ov] (getMethod ov "__init__" (pl env))
      callWith p4 f first (backTo p4 (starEach [.Constant (.str txt) j p3] env)) [])) : XRaw0 P K C := by
  unfold xrB at hx
  simp only [Bool.and_eq_true, decide_eq_true_eq] at hx
  obtain ⟨x1, x2, x3, x4, x5, x6, x7, x8, x9, x10, x11, x12, x13, x14, x15, x16, x17, x18, x19, x20⟩ := hx
  obtain ⟨cdD, hD⟩ := Option.isSome_iff_exists.mp x18
  have O : OexC K C := ⟨oexB_ok x1, x2, x3, x4, x5⟩
  refine ⟨O, x6, x7, x8, htop, ⟨x9, x10, x3, x11, x12, x13, x14, x15⟩, f, _, iC, x17, .all hb, fun mg hs w base CX => ?_⟩
  exact fn_sup0 (⟨O, x6, x7, x8, hs, htop⟩ : XCls P K mg C) lk hcd hcode hvs hfile hcell hD hp har x19 x20 s1 s3 s4 hnc hco hgen hk pl hme
theorem XRaw0.fact {P : Program} {K : Frag} {C : Addr} {x : Str} {h : Heap} {mg : Str → Option Value} (R : XRaw0 P K C) (X : K.In h) (G : h.Ns mainGlobals mg) (n : nsIn K mainGlobals x = some (some (.ref C))) (hs : mg "super" = none) : XFact0 P K mg x := by
  have hm := mg_of X G n
  have e := cad_eq hm
  obtain ⟨fI, fd, a1, a2, a3, a4⟩ := R.fn
  refine ⟨⟨by rw [e]; exact hm, by rw [e]; exact R.oex.exC, by rw [e]; exact R.exc.hd, by rw [e]; exact R.oex.tyC⟩, by rw [e]; exact ⟨R.oex, R.ini, R.sub, R.opq, hs, R.htop⟩, by rw [e]; exact R.exc, fI, fd, by rw [e]; exact a1, a2, a3, ?_⟩
  rw [e]
  exact a4 mg hs
/-! ### isinstance of it in a suite -/
theorem inst_of0 {X : Cx} {a D : Addr} {oe : Obj} {pn pins : List (Addr × Obj)} {σ : L2.St} {H : Hp} {s : Shared} (I : Inv (X.suite a ((a, oe) :: pn)) pins σ H s) (hz : L2N.Zn (.ref D) none oe) (hf : ∃ vs, oe.data = .fields vs) :
    PySem.W.InstAt s.heap a oe D none := by
  obtain ⟨ha, _⟩ := I.pin (a, oe) (List.mem_append_left _ List.mem_cons_self)
  obtain ⟨vs, hd⟩ := hf
  exact ⟨ha, hz.1, by unfold PySem.W.notCls; rw [hd] <;> rfl, by rw [hz.2.1]; trivial⟩
def rIsX0 (K : PySem.W.Frag) (a : Addr) (cls : Value) (d : Option Addr) : List V → Hp → VK → Prop := fun xs H Q => ∃ (D : Addr) (b : Bool), cls = .ref D ∧ ExcC K D ∧ d = none ∧
  ((∃ (c : V) (cv : Value), xs = [.ref a, c] ∧ (∀ u, RelV c u → u = cv) ∧ PySem.W.kitOne K (.ref D) cv = some b) ∨
    (∃ (tp : Addr) (cs : List V) (cvs : List Value), xs = [.ref a, .ref tp] ∧ H tp = some (.tup cs) ∧ (∀ us, Vals cs us → us = cvs) ∧ PySem.W.kitAny K (.ref D) cvs = some b)) ∧ Q (.bl b) H
theorem call_isX0 {X : Cx} {a : Addr} {oe : Obj} {cls : Value} {d : Option Addr} {pn : List (Addr × Obj)} (hz : L2N.Zn cls d oe) (hf : ∃ vs, oe.data = .fields vs) : CallR (X.suite a ((a, oe) :: pn)) (.builtin "isinstance") (rIsX0 X.K a cls d) := by
  intro pins s σ H xs us Q I r h
  obtain ⟨D, b, ec, T, ed, h, q⟩ := h
  subst ec
  subst ed
  have J := inst_of0 I hz hf
  rcases h with ⟨c, cv, rfl, hcv, e⟩ | ⟨tp, cs, cvs, rfl, et, hcv, e⟩
  · cases r with
    | cons rx rr =>
      cases rr with
      | cons rt rr =>
        cases rr
        cases rx
        have ec := hcv _ rt
        subst ec
        exact PySem.W.kia_one (PySem.W.nf_kitx (ox := oe) T) I.kIn ⟨_, J⟩ e (fun z => nomatch z) fun tk => ⟨.bl b, H, I.kept (t' := tk) fun _ _ z => z, rfl, q⟩
  · cases r with
    | cons rx rr =>
      cases rr with
      | cons rt rr =>
        cases rr
        cases rx
        cases rt
        obtain ⟨its, vi, ti, _⟩ := I.tuple (.inl (.inl et))
        obtain rfl := hcv _ vi
        obtain ⟨⟨oc, odd, oda, osl⟩, hg, h1, n, h2⟩ := ti
        dsimp only at h1 h2
        subst h1 h2
        exact PySem.W.kia_tup (PySem.W.nf_kitx (ox := oe) T) I.kIn ⟨_, J⟩ hg e (fun z => nomatch z) fun tk => ⟨.bl b, H, I.kept (t' := tk) fun _ _ z => z, rfl, q⟩
end NF

/-! Own toolkit: partners of letters in a nested text. -/
namespace NF
open PySem L2 TL

section
variable {B H : Hp} {σ : L2.St} {Q : VK} {QX : XK}
theorem x_callX {sp : Sp} {dvs : List V} {W : WX} {t : TA} (q : t σ H fun vs H1 => sp (vs ++ dvs) H1 Q (fun cls d H2 => W cls d σ H2)) : tCallX sp dvs W t σ H Q := q
theorem x_mkX {C : Addr} {fld : Str} {te : TE} (h : te σ H fun v H1 => ∀ d, H1 d = none → QX (.ref C) (some d) (upd H1 d (.xd [(fld, v)]))) : tMkX C fld te σ H QX := h
theorem x_chain {r r' : R2} {ta tb tc : TE} (q : ta σ H fun x H1 => tb σ H1 fun y H2 => r x y H2 fun z H3 => ∃ k, z = .bl k ∧ (if k = true then tc σ H3 fun w' H4 => r' y w' H4 Q else Q (.bl false) H3)) : tChain r r' ta tb tc σ H Q := q
end
abbrev low (c : Nat) : Prop := 97 ≤ c ∧ c ≤ 104
/-! ### repr, and the caught exception -/
def rRepr : List V → Hp → VK → Prop := fun xs H Q => ∃ i, xs = [.int i] ∧ i.natAbs.log2 < 1920 ∧ Q (.str (toString i)) H
theorem callRepr {X : Cx} : CallR X (.builtin "repr") rRepr := SkE.call_repr_int
section
variable {P : Program} {K : PySem.W.Frag} {mg : Str → Option Value} {H : Hp} {σ : L2.St} {Q : VK} {a dd : Addr} {A fld : Str} {b : Bool}
theorem x_repr {i : Int} (h : i.natAbs.log2 < 1920) (q : Q (.str (toString i)) H) : rRepr [.int i] H Q := ⟨i, rfl, h, q⟩
theorem x_xfV {i : Nat} {v : V} (T : XFact P K mg A fld) (hσ : σ[i]? = some (some (.ref a))) (ed : H dd = some (.xd [(fld, v)])) (q : Q v H) : tXfN K a (.ref (cad mg A)) (some dd) fld (tVar i) σ H Q :=
  ⟨_, hσ, rfl, _, dd, _, v, rfl, T.exc, T.nof, rfl, ed, by simp [List.lookup], q⟩
theorem x_isXC {B : Str} {fs : List (Str × V)} (T : XFact P K mg A fld) (p : XPair K (.ref (cad mg A)) (.ref (cad mg B)) b) (ed : H dd = some (.xd fs)) (q : Q (.bl b) H) : rIsX K a (.ref (cad mg A)) (some dd) [.ref a, .ref (cad mg B)] H Q :=
  ⟨_, dd, fs, b, rfl, T.exc, rfl, ed, .inl ⟨_, _, rfl, fun u h => h, p.kit⟩, q⟩
theorem x_isXB {n : String} {fs : List (Str × V)} (T : XFact P K mg A fld) (p : XPair K (.ref (cad mg A)) (.type n) b) (ed : H dd = some (.xd fs)) (q : Q (.bl b) H) : rIsX K a (.ref (cad mg A)) (some dd) [.ref a, .ty n] H Q :=
  ⟨_, dd, fs, b, rfl, T.exc, rfl, ed, .inl ⟨_, _, rfl, fun u h => h, p.kit⟩, q⟩
theorem vals_refs {cs : List Addr} : ∀ us, Vals (cs.map V.ref) us → us = cs.map Value.ref := by
  induction cs with
  | nil => intro us h; cases h; rfl
  | cons c cs ih =>
    intro us h
    cases h with
    | cons h1 h2 =>
      rw [ih _ h2]
      exact congrArg (· :: cs.map Value.ref) h1
theorem x_isXT {tp : Addr} {fs : List (Str × V)} (cs : List Addr) (T : XFact P K mg A fld) (ht : H tp = some (.tup (cs.map V.ref))) (p : PySem.W.kitAny K (.ref (cad mg A)) (cs.map Value.ref) = some b) (ed : H dd = some (.xd fs)) (q : Q (.bl b) H) : rIsX K a (.ref (cad mg A)) (some dd) [.ref a, .ref tp] H Q :=
  ⟨_, dd, fs, b, rfl, T.exc, rfl, ed, .inr ⟨tp, _, _, rfl, ht, vals_refs, p⟩, q⟩
end
/-- how many letters until the depth d is left -/
def cl : List Nat → Nat → Nat
  | [], _ => 0
  | c :: r, d => if low c then cl r (d + 1) + 1 else match d with
    | 0 => 0
    | d + 1 => cl r d + 1
theorem cl_low {c : Nat} {r : List Nat} {d : Nat} (h : low c) : cl (c :: r) d = cl r (d + 1) + 1 := by rw [cl.eq_def]; exact if_pos h
theorem cl_up0 {c : Nat} {r : List Nat} (h : ¬ low c) : cl (c :: r) 0 = 0 := by rw [cl.eq_def]; exact if_neg h
theorem cl_up {c : Nat} {r : List Nat} {d : Nat} (h : ¬ low c) : cl (c :: r) (d + 1) = cl r d + 1 := by rw [cl.eq_def]; exact if_neg h
theorem cl_mono (r : List Nat) : ∀ d, cl r d ≤ cl r (d + 1) := by
  induction r with
  | nil => intro d; exact Nat.le_refl _
  | cons c r ih =>
    intro d
    by_cases h : low c
    · rw [cl_low h, cl_low h]
      exact Nat.succ_le_succ (ih _)
    · cases d with
      | zero => rw [cl_up0 h]; exact Nat.zero_le _
      | succ d => rw [cl_up h, cl_up h]; exact Nat.succ_le_succ (ih _)
theorem cl_mono0 (r : List Nat) (d : Nat) : cl r 0 ≤ cl r d := by
  induction d with
  | zero => exact Nat.le_refl _
  | succ d ih => exact Nat.le_trans ih (cl_mono r d)
/-- the partner of the letter at a -/
def pt (l : List Nat) (a : Nat) : Nat := a + 1 + cl (l.drop (a + 1)) 0

/-- the open places, the last one first, behind i letters -/
structure Stk (l : List Nat) (i : Nat) (ps : List Nat) : Prop where
  st : run (l.take i) [] = some (ps.map fun a => l.getD a 0)
  dep : ∀ j a, ps[j]? = some a → a < i ∧ pt l a = i + cl (l.drop i) j ∧ low (l.getD a 0) ∧ a < l.length
  all : ∀ a c, a < i → l[a]? = some c → low c → a ∈ ps ∨ pt l a < i
  srt : ps.Pairwise (· > ·)
theorem Stk.zero (l : List Nat) : Stk l 0 [] := ⟨rfl, fun j a h => by simp at h, fun a c h => absurd h (Nat.not_lt_zero _), .nil⟩
section
variable {l ps : List Nat} {i c : Nat}
theorem drop_at (hc : l[i]? = some c) : l.drop i = c :: l.drop (i + 1) := by
  obtain ⟨h, e⟩ := List.getElem?_eq_some_iff.mp hc
  rw [List.drop_eq_getElem_cons h, e]
theorem getD_at (hc : l[i]? = some c) : l.getD i 0 = c := by simp [List.getD, hc]
theorem Stk.lt (S : Stk l i ps) {a : Nat} (h : a ∈ ps) : a < i := by
  obtain ⟨j, hj⟩ := List.getElem?_of_mem h
  exact (S.dep j a hj).1
theorem Stk.push (S : Stk l i ps) (hc : l[i]? = some c) (h : low c) : Stk l (i + 1) (i :: ps) := by
  have hl := (List.getElem?_eq_some_iff.mp hc).1
  refine ⟨?_, fun j a hj => ?_, fun a d ha hd hlo => ?_, ?_⟩
  · rw [List.map_cons, getD_at hc]
    exact run_lo1 S.st hc h
  · cases j with
    | zero =>
      have e : i = a := by simpa using hj
      subst e
      exact ⟨Nat.lt_succ_self _, rfl, by rw [getD_at hc]; exact h, hl⟩
    | succ j =>
      have hj' : ps[j]? = some a := by simpa using hj
      obtain ⟨h1, h2, h3, h4⟩ := S.dep j a hj'
      refine ⟨by omega, ?_, h3, h4⟩
      rw [h2, drop_at hc, cl_low h]
      omega
  · by_cases e : a = i
    · exact .inl (by rw [e]; exact List.mem_cons_self)
    · rcases S.all a d (by omega) hd hlo with q | q
      · exact .inl (List.mem_cons_of_mem _ q)
      · exact .inr (by omega)
  · exact List.pairwise_cons.mpr ⟨fun a ha => S.lt ha, S.srt⟩
theorem Stk.pop (S : Stk l i ps) (hr : run l [] = some []) (hc : l[i]? = some c) (h : ¬ low c) : ∃ a ps', ps = a :: ps' ∧ Stk l (i + 1) ps' ∧ pt l a = i ∧ a < i ∧ c + 32 = l.getD a 0 := by
  have e1 : run l [] = (run (l.take i) []).bind (run (l.drop i)) := by
    rw [← run_append, List.take_append_drop]
  rw [S.st, drop_at hc, hr] at e1
  cases ps with
  | nil =>
    have e2 : some [] = run (c :: l.drop (i + 1)) [] := e1
    rw [run_cons, if_neg h] at e2
    cases e2
  | cons a ps' =>
    have e2 : some [] = run (c :: l.drop (i + 1)) (l.getD a 0 :: ps'.map fun a => l.getD a 0) := e1
    rw [run_cons, if_neg h] at e2
    have e3 : c + 32 = l.getD a 0 := by
      by_cases z : c + 32 = l.getD a 0
      · exact z
      · have : (if c + 32 = l.getD a 0 then run (l.drop (i + 1)) (ps'.map fun a => l.getD a 0) else none) = some [] := e2.symm
        rw [if_neg z] at this
        cases this
    have pa := S.dep 0 a rfl
    have ea : pt l a = i := by rw [pa.2.1, drop_at hc, cl_up0 h]; rfl
    refine ⟨a, ps', rfl, ⟨?_, fun j b hj => ?_, fun b d hb hd hlo => ?_, (List.pairwise_cons.mp S.srt).2⟩, ea, pa.1, e3⟩
    · exact run_up1 (st := ps'.map fun a => l.getD a 0) (by rw [e3]; exact S.st) hc h
    · obtain ⟨h1, h2, h3, h4⟩ := S.dep (j + 1) b (by simpa using hj)
      refine ⟨by omega, ?_, h3, h4⟩
      rw [h2, drop_at hc, cl_up h]
      omega
    · by_cases e : b = i
      · subst e
        rw [hc] at hd
        cases hd
        exact absurd hlo h
      · rcases S.all b d (by omega) hd hlo with q | q
        · rcases List.mem_cons.mp q with q | q
          · exact .inr (by rw [q, ea]; omega)
          · exact .inl q
        · exact .inr (by omega)
theorem Stk.done (S : Stk l i ps) (hr : run l [] = some []) (hi : l.length ≤ i) : ps = [] := by
  have e := S.st
  rw [List.take_of_length_le hi, hr] at e
  have e2 := Option.some.inj e
  exact List.map_eq_nil_iff.mp e2.symm
theorem Stk.len (S : Stk l i ps) : ps.length ≤ i := by
  have h := run_len S.st
  rw [List.length_map, List.length_take, List.length_nil] at h
  omega
theorem Stk.nodup (S : Stk l i ps) : ps.Nodup := S.srt.imp fun h => Nat.ne_of_gt h
end
theorem nst_of_flt {l : List Nat} (h : flt l 0 [] = none) : run l [] = some [] := by
  rcases flt_spec l 0 [] with ⟨st, e⟩ | ⟨_, j, e, _⟩
  · rw [flt_of_run e] at h
    by_cases z : st = []
    · rw [e, z]
    · rw [if_neg z] at h
      cases h
  · rw [h] at e
    cases e
theorem flt_of_nst {l : List Nat} (h : run l [] = some []) : flt l 0 [] = none := by rw [flt_of_run h, if_pos rfl]
end NF

/-! What the head hands over: a def with defaults, names of classes. -/
namespace NF
open PySem L2
structure HasD (K : PySem.W.Frag) (x : Str) (st : Stmt) (dvs : List V) : Prop where
  ex : ∃ (f T : Addr) (oc kV dc pm cd ct : Value) (od an : Option Addr) (sl : Array (Option Value)) (oT : Obj) (its : List Value) (n : Nat), PySem.W.nsIn K mainGlobals x = some (some (.ref f)) ∧
    K.lookup f = some ⟨oc, od, .func (PySem.W.fnOf x x (defArgs st) (defBody st) (defScope st) (.ref T) kV dc pm an cd ct), sl⟩ ∧ PySem.W.codeIn K cd x = true ∧ PySem.W.keepIn K (.ref f) = true ∧ K.lookup T = some oT ∧ oT.data = .seq its.toArray n ∧ Vals dvs its
section
variable {K : PySem.W.Frag} {x : Str} {st : Stmt} {dvs : List V} {h : Heap} {mg : Str → Option Value}
theorem hasD_mk {f T : Addr} {oc kV dc pm cd ct oc2 : Value} {od an od2 : Option Addr} {sl sl2 : Array (Option Value)} {a : Array Value} {n : Nat} (h1 : PySem.W.nsIn K mainGlobals x = some (some (.ref f)))
    (h2 : K.lookup f = some ⟨oc, od, .func (PySem.W.fnOf x x (defArgs st) (defBody st) (defScope st) (.ref T) kV dc pm an cd ct), sl⟩) (h3 : PySem.W.codeIn K cd x = true) (h4 : PySem.W.keepIn K (.ref f) = true)
    (h5 : K.lookup T = some ⟨oc2, od2, .seq a n, sl2⟩) (h6 : Vals dvs a.toList) : HasD K x st dvs :=
  ⟨f, T, oc, kV, dc, pm, cd, ct, od, an, sl, _, a.toList, n, h1, h2, h3, h4, h5, rfl, h6⟩
theorem HasD.fn (A : HasD K x st dvs) (X : K.In h) (G : h.Ns mainGlobals mg) (hd : dvs ≠ []) : FnD K mg x st dvs := by
  obtain ⟨f, T, oc, kV, dc, pm, cd, ct, od, an, sl, oT, its, n, h1, h2, h3, h4, h5, h6, h7⟩ := A.ex
  exact ⟨f, _, ⟨⟨oc, od, .ref T, kV, dc, pm, an, cd, ct, sl, rfl, h2, h3, .inr ⟨hd, T, oT, its, n, rfl, h5, h6, h7⟩, .inl rfl⟩, h4⟩, PySem.W.mg_of X G h1⟩
theorem cls_mk {c : Addr} (X : K.In h) (G : h.Ns mainGlobals mg) (n : PySem.W.nsIn K mainGlobals x = some (some (.ref c))) : mg x = some (.ref (cad mg x)) := by
  have e := PySem.W.mg_of X G n
  rw [cad_eq e]
  exact e
theorem pair_mk {A B : Str} {a c : Addr} {b : Bool} (X : K.In h) (G : h.Ns mainGlobals mg) (nA : PySem.W.nsIn K mainGlobals A = some (some (.ref a))) (nB : PySem.W.nsIn K mainGlobals B = some (some (.ref c))) (p : XPair K (.ref a) (.ref c) b) : XPair K (.ref (cad mg A)) (.ref (cad mg B)) b := by
  rw [cad_eq (PySem.W.mg_of X G nA), cad_eq (PySem.W.mg_of X G nB)]
  exact p
theorem pairT_mk {A : Str} {a : Addr} {n : String} {b : Bool} (X : K.In h) (G : h.Ns mainGlobals mg) (nA : PySem.W.nsIn K mainGlobals A = some (some (.ref a))) (p : XPair K (.ref a) (.type n) b) : XPair K (.ref (cad mg A)) (.type n) b := by
  rw [cad_eq (PySem.W.mg_of X G nA)]
  exact p
end
end NF

/-! Own classes: made by an __init__ that may raise; properties; calls within a suite; dicts; constants that are tuples. -/
namespace NF
open PySem PySem.Spec PyProof.Rows L2

/-! ### X(e) -/
structure MkX (P : Program) (w : World) (K : PySem.W.Frag) (mg : Str → Option Value) (base : Heap) (k : Nat) (x : Str) (ps : List Str) (sp : Sp) : Prop where
  ex : ∃ f fd, Mk K (cad mg x) f ∧ FnOk P w K mg base (L2N.CX P w) k f fd ps sp ∧ mg x = some (.ref (cad mg x)) ∧ Binds K fd ps []
def tMakeX (C : Addr) (sp : Sp) (W : WX) (t : TA) : TE := fun σ H Q => t σ H fun vs H1 => ∀ x dx, H1 x = none → H1 dx = none → dx ≠ x →
  sp (.ref x :: vs) (upd (upd H1 dx (.own x)) x (.ins C dx [])) (fun v H2 => v = .non ∧ Q (.ref x) H2) (fun cls d H2 => W cls d σ H2)
section
variable {X : Cx} {k : Nat} {x : Str} {ps : List Str} {sp : Sp} {p pos : Pos} {e : Expr} {es : List Expr} {t : TA} {W : WX} {f C : Addr} {fd : FuncData}
theorem run_mkx {pins : List (Addr × Obj)} {σ : L2.St} {H : Hp} {s : Shared} {Q : VK} {us : List Value} {vs : List V} (M : Mk X.K C f) (F : FnOk X.prog X.w X.K X.mg X.base (L2N.CX X.prog X.w) k f fd ps sp) (hr : Room (k + 1) X.A) (hb : Binds X.K fd ps [])
    (tk : L2N.Takes X W) (I : Inv X pins σ H s) (r : Vals vs us)
    (h : ∀ x dx, H x = none → H dx = none → dx ≠ x → sp (.ref x :: vs) (upd (upd H dx (.own x)) x (.ins C dx [])) (fun v H2 => v = .non ∧ Q (.ref x) H2) (fun cls d H2 => W cls d σ H2)) :
    wpAny (model X.prog X.w) X.A (call (.ref C) us) (EP X pins σ Q) X.xe s := by
  have hq := h (s.heap.objs.size + 1) s.heap.objs.size (I.hok.fresh (Nat.le_succ _)) (I.hok.fresh (Nat.le_refl _)) (Nat.ne_of_lt (Nat.lt_succ_self _))
  have I2 := Inv.made (C := C) I
  have r2 : Vals (V.ref (s.heap.objs.size + 1) :: vs) (Value.ref (s.heap.objs.size + 1) :: us) := .cons rfl r
  have hl : (Value.ref (s.heap.objs.size + 1) :: us ++ []).length = ps.length := by
    have e := r2.length
    rw [F.len _ _ _ _ hq] at e
    rw [List.append_nil]
    exact e.symm
  have hb2 := hb _ (Value.ref (s.heap.objs.size + 1) :: us) I2.kIn hl
  rw [List.append_nil] at hb2
  refine wpAny_call (make_map (f := f) I.kIn M.makes M.init (beq_iff_eq.mp M.fn) (codeAny_mono (F.run _ X.stack _ _ ⟨Value.ref (s.heap.objs.size + 1) :: us, []⟩ (Value.ref (s.heap.objs.size + 1) :: us) _ _ (fun cls d H2 => W cls d σ H2) (hr.make C us [])
    (I2.env0.make C us []) hb2 r2 hq) fun r s' hq' => ?_))
  cases r with
  | error e => exact L2N.passAt tk σ pins _ _ e s' I2 hq'
  | ok fl =>
    cases fl with
    | ret u =>
      obtain ⟨v, H', I3, rv, ev, q3⟩ := I2.after hq'
      subst ev
      exact ⟨rv, ⟨V.ref (s.heap.objs.size + 1), H', I3, rfl, q3⟩⟩
    | next => exact False.elim hq'
    | brk => exact False.elim hq'
    | cont => exact False.elim hq'
theorem pe_mkx {mg : Str → Option Value} (D : MkX X.prog X.w X.K mg X.base k x ps sp) (hX : X.mg = mg) (hr : Room (k + 1) X.A) (tk : L2N.Takes X W) (hg : Gl X x) (ha : PA X (e :: es) t) (hdb : (x == ("__debug__" : Str)) = false := by decide)
    (he : starEach (e :: es) X.env = (false, eval e X.env) :: starEach es X.env := by rfl) (hpl : (backTo pos (starEach es X.env)).any (·.1) = false := by rfl) : PE X (.Call (.Name x p) (e :: es) [] pos) (tMakeX (cad mg x) sp W t) := by
  subst hX
  obtain ⟨f, fd, M, F, hm, hb⟩ := D.ex
  refine ⟨fun pins s σ H Q I h => ?_⟩
  refine wpAny_Call_Name_kw (ld_glob I hg hm ?_ hdb)
  refine PySem.W.callWith_K (h₀ := X.base) I.ok.mod.kin M.kp (thn (ha.run pos pins s σ H _ I h) fun us s1 ⟨vs, H1, I1, r, q⟩ => ⟨I1.kIn, ?_⟩) he hpl
  exact run_mkx M F hr hb tk I1 r q
end
theorem x_makeX {C : Addr} {sp : Sp} {W : WX} {t : TA} {σ : L2.St} {H : Hp} {Q : VK} (q : t σ H fun vs H1 => ∀ x dx, H1 x = none → H1 dx = none → dx ≠ x →
  sp (.ref x :: vs) (upd (upd H1 dx (.own x)) x (.ins C dx [])) (fun v H2 => v = .non ∧ Q (.ref x) H2) (fun cls d H2 => W cls d σ H2)) : tMakeX C sp W t σ H Q := q

/-! ### a property that reads a field -/
structure PrX (P : Program) (w : World) (K : PySem.W.Frag) (mg : Str → Option Value) (base : Heap) (x f fld : Str) : Prop where
  ex : ∃ p g fd, Cls K (cad mg x) ∧ PropOf K (cad mg x) f p g ∧ FnOk P w K mg base CX0 1 g fd ["self"] (getSp (cad mg x) fld) ∧ Binds K fd ["self"] []
theorem pe_prx {X : Cx} {x f fld : Str} {e : Expr} {pos : Pos} {ta : TE} {mg : Str → Option Value} (D : PrX X.prog X.w X.K mg X.base x f fld) (hX : X.mg = mg) (hr : Room 2 X.A) (he : PE X e ta) (hab : attributeBase e f X.env (eval e X.env) = eval e X.env := by rfl) : PE X (.Attribute e f pos) (tProp (cad mg x) (getSp (cad mg x) fld) [] E0 ta) := by
  subst hX
  obtain ⟨p, g, fd, c, hp, F, hb⟩ := D.ex
  exact pe_prop (E := E0) he c hp F hr hb .nil pass0 hab
theorem x_propE {C : Addr} {sp : Sp} {ta : TE} {σ : L2.St} {H : Hp} {Q : VK} (q : ta σ H fun x H1 => ∃ a dx fs, x = .ref a ∧ H1 a = some (.ins C dx fs) ∧ sp (.ref a :: []) H1 Q E0) : tProp C sp [] E0 ta σ H Q := q
theorem x_getSp {C a dx : Addr} {fs : List (Str × V)} {v : V} {fld : Str} {H : Hp} {Q : VK} (ea : H a = some (.ins C dx fs)) (l : fs.lookup fld = some v) (q : Q v H) :
    ∃ a' dx fs, V.ref a = .ref a' ∧ H a' = some (.ins C dx fs) ∧ getSp C fld (.ref a' :: []) H Q E0 := ⟨a, dx, fs, rfl, ea, a, dx, fs, v, rfl, ea, l, q⟩

/-! ### calls within a suite -/
structure DefH (P : Program) (w : World) (K : PySem.W.Frag) (mg : Str → Option Value) (base : Heap) (k : Nat) (x : Str) (ps : List Str) (sp : Sp) : Prop where
  ex : ∃ f fd, L2H.FnH P w K mg base CX0 k f fd ps sp ∧ mg x = some (.ref f) ∧ PySem.W.keepIn K (.ref f) = true ∧ Binds K fd ps []
theorem DefH.mk0 {P : Program} {w : World} {K : PySem.W.Frag} {mg : Str → Option Value} {base : Heap} {x : Str} {st : Stmt} {N ps : List Str} {k : Nat} {sp : Sp} (F : Fn0 K mg x st) (S : FnScope N ps (defScope st)) (len : ∀ vs H Q E, sp vs H Q E → vs.length = ps.length)
    (hbind : ∀ (kV doc pm : Value) (an : Option Addr) (cdv ct : Value) (us : List Value), us.length = ps.length → bindArgs (PySem.W.fnOf x x (defArgs st) (defBody st) (defScope st) .none kV doc pm an cdv ct) ⟨us, []⟩ = pure (ps.zip us))
    (hbody : ∀ {f : Addr} (cdv : Value) (A : Around) (outer : List Env) (s : Shared) (H : Hp) (vs : List V) (Q : VK) (E : XK) (p : Addr × Obj), L2H.RoomH k (A.deeper (envOfC x (defScope st) s.heap.objs.size f cdv)) → sp vs H Q E →
      ∃ t, PSs (L2H.cxH CX0 P w K mg base N x (defScope st) f cdv A outer s H E p) (defBody st) t ∧ t { nx := fun _ H' => Q .non H', rt := Q } (start N vs) H) : DefH P w K mg base (k + 1) x ps sp := by
  obtain ⟨f, fd, F, hm⟩ := F
  obtain ⟨oc, od, kV, doc, pm, an, cdv, ct, osl, rfl, lk, hcd⟩ := F.ex
  exact ⟨f, _, L2H.fn_ofH lk hcd S len fun A outer s H vs Q E p hot hr hsp => hbody cdv A outer s H vs Q E p hr hsp, hm, F.kp, F.binds hbind⟩
section
variable {X : Cx} {k : Nat} {x : Str} {ps : List Str} {sp : Sp} {p pos : Pos} {e : Expr} {es : List Expr} {t : TA}
def tCallH (sp : Sp) (t : TA) : TE := fun σ H Q => t σ H fun vs H1 => sp vs H1 Q E0
theorem pe_dh (D : DefH X.prog X.w X.K X.mg X.base k x ps sp) (hr : L2H.RoomH k X.A) (hc : L2H.HotC X) (hg : Gl X x) (ha : PA X (e :: es) t) (hdb : (x == ("__debug__" : Str)) = false := by decide)
    (he : starEach (e :: es) X.env = (false, eval e X.env) :: starEach es X.env := by rfl) (hpl : (backTo pos (starEach es X.env)).any (·.1) = false := by rfl) : PE X (.Call (.Name x p) (e :: es) [] pos) (tCallH sp t) := by
  obtain ⟨f, fd, F, hm, hk, hb⟩ := D.ex
  exact L2H.pe_callH (E := fun _ => E0) F hr hc hg hm hk hb (fun _ => fun _ _ _ _ _ _ h => h.elim) ha hdb he hpl
end
theorem x_callH {sp : Sp} {t : TA} {σ : L2.St} {H : Hp} {Q : VK} (q : t σ H fun vs H1 => sp vs H1 Q E0) : tCallH sp t σ H Q := q
theorem hot_suite {X : Cx} {a : Addr} {oe : Obj} {cls : Value} {d : Option Addr} {pn : List (Addr × Obj)} (hz : L2N.Zn cls d oe) (hf : ∃ vs, oe.data = .fields vs) : L2H.HotC (X.suite a ((a, oe) :: pn)) := by
  obtain ⟨vs, e⟩ := hf
  exact ⟨(a, oe), ⟨rfl, vs, e, hz.2.2 vs e⟩, List.mem_cons_self ..⟩
theorem room_suite {X : Cx} {k : Nat} {a : Addr} {pn : List (Addr × Obj)} (hr : Room k X.A) : L2H.RoomH k (X.suite a pn).A := ⟨hr.dp, hr.un⟩

/-! ### dicts of whole numbers -/
section
variable {B H : Hp} {M R : List (Addr × HO)} {Q : VK} {σ : L2.St} {a : Addr} {Qh : Hp → Prop}
def newD (H : Hp) (Q : VK) : Prop := ∀ p, H p = none → Q (.ref p) (upd H p (.dK []))
theorem x_dnew (q : newD H Q) : tDNewK σ H Q := q
theorem x_newD (O : Own B H M R) (q : ∀ p H1, B p = none → Own B H1 M (R ++ [(p, .dK [])]) → Q (.ref p) H1) : newD H Q := fun p hp => q p _ (O.base_free hp) (O.new hp)
theorem x_setD {kvs : List (Key × V)} {i : Int} {v : V} (O : Own B H M R) (j : Nat) (hk : R[j]? = some (a, .dK kvs)) (hl : kvs.length < sizeLine) (q : ∀ H1, Own B H1 M (R.set j (a, .dK (putK kvs (Sum.inl i) v))) → Qh H1) : rSetD (.ref a) (.int i) v H Qh :=
  ⟨a, _, rfl, DPut.k (k := Sum.inl i) (O.get j hk) hl, q _ (O.put j hk _)⟩
end
def rSortedDI : List V → Hp → VK → Prop := fun xs H Q => ∃ (a : Addr) (kvs : List (Key × V)) (ks : List Int), xs = [.ref a] ∧ Rd H a (.dK kvs) ∧ kvs.map (·.1) = ks.map Sum.inl ∧ ks.length < 64 ∧
    ∀ (ys : List Int) (p : Addr), ys.Perm ks → ys.Pairwise (· ≤ ·) → H p = none → Q (.ref p) (upd H p (.lst (ys.map V.int)))
theorem callSortedDI {X : Cx} (hc : X.calm = true) : CallR X (.builtin "sorted") rSortedDI := call_sortedDI hc

/-! ### t + u -/
theorem x_catA {K : PySem.W.Frag} {H : Hp} {a b : Addr} {xs ys : List V} {Q : VK} (h1 : SqT K H a xs) (h2 : SqT K H b ys) (hz : xs.length + ys.length ≤ sizeLine)
    (q0 : xs = [] → Q (.ref b) H) (q1 : xs ≠ [] → ys = [] → Q (.ref a) H) (q2 : ∀ p, H p = none → Q (.ref p) (upd H p (.tup (xs ++ ys)))) : rCatA K (.ref a) (.ref b) H Q :=
  ⟨a, b, xs, ys, rfl, rfl, h1, h2, hz, q0, q1, fun _ _ => q2⟩
/-- a tuple that the module made -/
def KTu (K : PySem.W.Frag) (a : Addr) (xs : List V) : Prop := ∀ H, SqT K H a xs
end NF
namespace NF
open PySem L2 TL
/-! ### texts within texts; more -/
def rInStr : R2 := fun x y H Q => ∃ i j, x = .str i ∧ y = .str j ∧ Q (.bl (!(Builtin.Str.occurrences j i 0 j.length 1).isEmpty)) H
theorem opInStr {X : Cx} : OpR X (compareOp .In) rInStr := op_in_str
theorem found_no {z : Str} {c : Nat} {l : List Nat} (h : c ∉ tl z) : (!(Builtin.Str.occurrences z (mkS (c :: l)) 0 z.length 1).isEmpty) = false := by
  rw [Bool.eq_false_iff, Ne, StrLaws.found_iff]
  rintro ⟨i, hi⟩
  unfold Builtin.Str.subAt at hi
  have e := eq_of_beq hi.2
  have e2 : (z.cps.extract i (i + (mkS (c :: l)).length)).toList = c :: l := by rw [e]
  refine h ?_
  have m : c ∈ (z.cps.extract i (i + (mkS (c :: l)).length)).toList := by rw [e2]; exact List.mem_cons_self ..
  rw [Array.toList_extract] at m
  exact List.mem_of_mem_drop (List.mem_of_mem_take m)
theorem x_inStrNo {z : Str} {c : Nat} {l : List Nat} {H : Hp} {Q : VK} (h : c ∉ tl z) (q : Q (.bl false) H) : rInStr (.str (mkS (c :: l))) (.str z) H Q := ⟨_, _, rfl, rfl, by rw [found_no h]; exact q⟩
theorem x_inStr1 {z : Str} {c : Nat} {H : Hp} {Q : VK} (q : Q (.bl (decide (c ∈ tl z))) H) : rInStr (.str ⟨#[c]⟩) (.str z) H Q := ⟨_, _, rfl, rfl, by rw [StrLaws.found_one]; exact q⟩
theorem u1 {u : Nat} (h : u + 64 < cLine) : u + 1 < cLine := by omega
end NF

/-! A class's own __init__ and property as the head hands them over. -/
namespace NF
open PySem PySem.Spec PyProof.Rows L2
def sub (s : Stmt) (j : Nat) : Stmt := match s with
  | .ClassDef (body := b) .. => b.getD j (.Pass ⟨0, 0, 0, 0⟩)
  | _ => .Pass ⟨0, 0, 0, 0⟩
section
variable {P : Program} {w : World} {K : PySem.W.Frag} {mg : Str → Option Value} {base : Heap}
theorem MkX.make {x qual : Str} {st : Stmt} {N ps : List Str} {k : Nat} {sp : Sp} {f : Addr} {fd : FuncData} (hm : mg x = some (.ref (cad mg x))) (M : Mk K (cad mg x) f) (F : Fun K "__init__" qual st f fd) (S : FnScope N ps (defScope st)) (len : ∀ vs H Q E, sp vs H Q E → vs.length = ps.length)
    (hbind : ∀ (kV doc pm : Value) (an : Option Addr) (cdv ct : Value) (us : List Value), us.length = ps.length → bindArgs (PySem.W.fnOf "__init__" qual (defArgs st) (defBody st) (defScope st) .none kV doc pm an cdv ct) ⟨us, []⟩ = pure (ps.zip us))
    (hbody : ∀ {f : Addr} (cdv : Value) (A : Around) (outer : List Env) (s : Shared) (H : Hp) (vs : List V) (Q : VK) (E : XK), Room k (A.deeper (envOfC qual (defScope st) s.heap.objs.size f cdv)) → sp vs H Q E →
      L2N.Takes (cxOf (L2N.CX P w) P w K mg base N qual (defScope st) f cdv A outer s H E) (fun cls d _ H' => E cls d H') → PassesOwn (model P w) (A.deeper (envOfC qual (defScope st) s.heap.objs.size f cdv)) (envOfC qual (defScope st) s.heap.objs.size f cdv) (cxOf (L2N.CX P w) P w K mg base N qual (defScope st) f cdv A outer s H E).xe →
      ∃ t, PSs (cxOf (L2N.CX P w) P w K mg base N qual (defScope st) f cdv A outer s H E) (defBody st) t ∧ t { nx := fun _ H' => Q .non H', rt := Q } (start N vs) H) : MkX P w K mg base (k + 1) x ps sp := by
  obtain ⟨oc, od, kV, doc, pm, an, cdv, ct, osl, rfl, lk, hcd⟩ := F.ex
  exact ⟨f, _, M, fn_of lk hcd S len fun A outer s H vs Q E hr hsp => hbody cdv A outer s H vs Q E hr hsp (L2N.takes_of rfl rfl rfl rfl) (passes_of rfl), hm, F.binds hbind⟩
theorem PrX.make {x f qual fld : Str} {st : Stmt} {p g : Addr} {fd : FuncData} {p1 p2 p3 : Pos} (c : Cls K (cad mg x)) (hp : PropOf K (cad mg x) f p g) (F : Fun K f qual st g fd) (S : FnScope ["self"] ["self"] (defScope st))
    (hb : defBody st = [.Return (some (.Attribute (.Name "self" p1) fld p2)) p3]) (n : NoAttr K (cad mg x) fld)
    (hbind : ∀ (kV doc pm : Value) (an : Option Addr) (cdv ct : Value) (us : List Value), us.length = 1 → bindArgs (PySem.W.fnOf f qual (defArgs st) (defBody st) (defScope st) .none kV doc pm an cdv ct) ⟨us, []⟩ = pure ((["self"] : List Str).zip us)) : PrX P w K mg base x f fld := by
  obtain ⟨oc, od, kV, doc, pm, an, cdv, ct, osl, rfl, lk, hcd⟩ := F.ex
  exact ⟨p, g, _, c, hp, fn_getter (k := 0) lk hcd S rfl hb c n, F.binds hbind⟩
end
/-- what an own class has of its own -/
structure OCls (K : PySem.W.Frag) (C : Addr) (flds : List Str) (qi : Str) (sI : Stmt) : Prop where
  cl : Cls K C
  nf : ∀ f ∈ flds, NoAttr K C f
  ini : ∃ f fd, Mk K C f ∧ Fun K "__init__" qi sI f fd
def OPrp (K : PySem.W.Frag) (C : Addr) (f qual : Str) (st : Stmt) : Prop := ∃ p g fd, PropOf K C f p g ∧ Fun K f qual st g fd
section
variable {K : PySem.W.Frag} {H : Hp} {σ : L2.St} {D : Ends} {ta tv : TE} {f : Str}
theorem x_fldS (q : tv σ H fun y H1 => ta σ H1 fun x H2 => ∃ a C dx fs, x = .ref a ∧ H2 a = some (.ins C dx fs) ∧ Cls K C ∧ NoAttr K C f ∧ fs.length < 1000 ∧ D.nx σ (upd H2 a (.ins C dx (putF f y fs)))) : sFld K ta tv f D σ H := q
theorem x_setF {B : Hp} {M R : List (Addr × HO)} {a C dx : Addr} {fs : List (Str × V)} {y : V} (O : Own B H M R) (j : Nat) (hk : R[j]? = some (a, .ins C dx fs)) (c : Cls K C) (n : NoAttr K C f) (hl : fs.length < 1000) (q : ∀ H1, Own B H1 M (R.set j (a, .ins C dx (putF f y fs))) → D.nx σ H1) :
    ∃ a' C dx fs, V.ref a = .ref a' ∧ H a' = some (.ins C dx fs) ∧ Cls K C ∧ NoAttr K C f ∧ fs.length < 1000 ∧ D.nx σ (upd H a' (.ins C dx (putF f y fs))) :=
  ⟨a, C, dx, fs, rfl, O.get j hk, c, n, hl, q _ (O.put j hk _)⟩
end
end NF

/-! What the head hands over: own classes, properties, tuples of the module. -/
namespace NF
open PySem PySem.Spec PyProof.Rows PySem.W L2
theorem ktu_mk {K : Frag} {a : Addr} {od : Option Addr} {its : Array Value} {n : Nat} {sl : Array (Option Value)} {xs : List V} (h : K.lookup a = some ⟨.type "tuple", od, .seq its n, sl⟩) (hs : decide (its.size ≤ 1000) = true) (hv : Vals xs its.toList) : KTu K a xs :=
  fun H => .inr ⟨_, its, n, h, rfl, rfl, Nat.le_trans (of_decide_eq_true hs) (by rw [sizeLine_eq]; decide), hv⟩
def ocB (K : Frag) (C f : Addr) (flds : List Str) : Bool :=
  plainGet K C Str.empty && (hasDictIn K C && (plainOver K C && (decide (findIn K (.ref C) "__setattr__" = some (some (.builtin "object.__setattr__"))) && ((flds.all fun x => decide (findIn K (.ref C) x = some none)) &&
  (makesIn K C && (isFn K (.ref f) && (keepIn K (.ref C) && keepIn K (.ref f))))))))
theorem ocls_mk {K : Frag} {C f : Addr} {flds : List Str} {qi : Str} {sI : Stmt} {oc kV doc pm cdv ct : Value} {od an : Option Addr} {osl : Array (Option Value)} (ini : findIn K (.ref C) "__init__" = some (some (.ref f)))
    (lk : K.lookup f = some ⟨oc, od, .func (fnOf "__init__" qi (defArgs sI) (defBody sI) (defScope sI) .none kV doc pm an cdv ct), osl⟩) (cd : codeIn K cdv qi = true) (hb : ocB K C f flds = true) : OCls K C flds qi sI := by
  unfold ocB at hb
  simp only [Bool.and_eq_true, decide_eq_true_eq, List.all_eq_true] at hb
  obtain ⟨b1, b2, b3, b4, b5, b6, b7, b8, b9⟩ := hb
  exact ⟨⟨b1, b2, b3, b4⟩, b5, f, _, ⟨b6, ini, b7, b8⟩, fun_mk lk cd b9⟩
def opB (K : Frag) (p g : Addr) : Bool := decide (specialIn K (.ref p) "__get__" = some (some (.builtin "property.__get__"))) && (decide (takesIn K (.ref p) = some true) && keepIn K (.ref g))
theorem oprp_mk {K : Frag} {C p g : Addr} {f qual : Str} {st : Stmt} {oc kV doc pm cdv ct : Value} {od an : Option Addr} {osl : Array (Option Value)} {rest : List Value} (at_ : findIn K (.ref C) f = some (some (.ref p))) (rc : recIn K p "property" = some (.ref g :: rest))
    (lk : K.lookup g = some ⟨oc, od, .func (fnOf f qual (defArgs st) (defBody st) (defScope st) .none kV doc pm an cdv ct), osl⟩) (cd : codeIn K cdv qual = true) (hb : opB K p g = true) : OPrp K C f qual st := by
  unfold opB at hb
  simp only [Bool.and_eq_true, decide_eq_true_eq] at hb
  obtain ⟨b1, b2, b3⟩ := hb
  exact ⟨p, g, _, ⟨at_, b1, b2, rest, rc⟩, fun_mk lk cd b3⟩
theorem ocls_at {K : Frag} {h : Heap} {mg : Str → Option Value} {x : Str} {c : Addr} {flds : List Str} {qi : Str} {sI : Stmt} (X : K.In h) (G : h.Ns mainGlobals mg) (n : nsIn K mainGlobals x = some (some (.ref c))) (o : OCls K c flds qi sI) : OCls K (cad mg x) flds qi sI := by
  rw [cad_eq (mg_of X G n)]
  exact o
theorem prx_at {P : Program} {w : World} {K : Frag} {h : Heap} {mg : Str → Option Value} {base : Heap} {x f qual fld : Str} {c : Addr} {flds : List Str} {qi : Str} {sI st : Stmt} {p1 p2 p3 : Pos} (X : K.In h) (G : h.Ns mainGlobals mg) (n : nsIn K mainGlobals x = some (some (.ref c))) (o : OCls K c flds qi sI) (hp : OPrp K c f qual st)
    (S : FnScope ["self"] ["self"] (defScope st)) (hb : defBody st = [.Return (some (.Attribute (.Name "self" p1) fld p2)) p3]) (hf : fld ∈ flds)
    (hbind : ∀ (kV doc pm : Value) (an : Option Addr) (cdv ct : Value) (us : List Value), us.length = 1 → bindArgs (fnOf f qual (defArgs st) (defBody st) (defScope st) .none kV doc pm an cdv ct) ⟨us, []⟩ = pure ((["self"] : List Str).zip us)) : PrX P w K mg base x f fld := by
  have e := cad_eq (mg_of X G n)
  obtain ⟨p, g, fd, q1, F⟩ := hp
  exact PrX.make (by rw [e]; exact o.cl) (by rw [e]; exact q1) F S hb (by rw [e]; exact o.nf _ hf) hbind
end NF

/-! Own classes whose methods raise nothing; comprehensions over zip and stepped ranges; gcd; dicts of the module; great divisions. -/
namespace NF
open PySem PySem.Spec PyProof.Rows L2
structure MkP (P : Program) (w : World) (K : PySem.W.Frag) (mg : Str → Option Value) (base : Heap) (k : Nat) (x : Str) (ps : List Str) (sp : Sp) : Prop where
  ex : ∃ f fd, Mk K (cad mg x) f ∧ FnOk P w K mg base CX0 k f fd ps sp ∧ mg x = some (.ref (cad mg x)) ∧ Binds K fd ps []
structure DefM (P : Program) (w : World) (K : PySem.W.Frag) (mg : Str → Option Value) (base : Heap) (k : Nat) (x m : Str) (ps : List Str) (sp : Sp) : Prop where
  ex : ∃ f fd, Cls K (cad mg x) ∧ Meth K (cad mg x) m f ∧ FnOk P w K mg base CX0 k f fd ps sp ∧ Binds K fd ps []
section
variable {P : Program} {w : World} {K : PySem.W.Frag} {mg : Str → Option Value} {base : Heap}
theorem MkP.make {x qual : Str} {st : Stmt} {N ps : List Str} {k : Nat} {sp : Sp} {f : Addr} {fd : FuncData} (hm : mg x = some (.ref (cad mg x))) (M : Mk K (cad mg x) f) (F : Fun K "__init__" qual st f fd) (S : FnScope N ps (defScope st)) (len : ∀ vs H Q E, sp vs H Q E → vs.length = ps.length)
    (hbind : ∀ (kV doc pm : Value) (an : Option Addr) (cdv ct : Value) (us : List Value), us.length = ps.length → bindArgs (PySem.W.fnOf "__init__" qual (defArgs st) (defBody st) (defScope st) .none kV doc pm an cdv ct) ⟨us, []⟩ = pure (ps.zip us))
    (hbody : ∀ {f : Addr} (cdv : Value) (A : Around) (outer : List Env) (s : Shared) (H : Hp) (vs : List V) (Q : VK) (E : XK), Room k (A.deeper (envOfC qual (defScope st) s.heap.objs.size f cdv)) → sp vs H Q E →
      ∃ t, PSs (cxOf CX0 P w K mg base N qual (defScope st) f cdv A outer s H E).nox (defBody st) t ∧ t { nx := fun _ H' => Q .non H', rt := Q } (start N vs) H) : MkP P w K mg base (k + 1) x ps sp :=
  ⟨f, fd, M, F.ok S len fun cdv A outer s H vs Q E hr h => hbody cdv A outer s H vs Q E hr h, hm, F.binds hbind⟩
theorem DefM.make {x m qual : Str} {st : Stmt} {N ps : List Str} {k : Nat} {sp : Sp} {f : Addr} {fd : FuncData} (c : Cls K (cad mg x)) (M : Meth K (cad mg x) m f) (F : Fun K m qual st f fd) (S : FnScope N ps (defScope st)) (len : ∀ vs H Q E, sp vs H Q E → vs.length = ps.length)
    (hbind : ∀ (kV doc pm : Value) (an : Option Addr) (cdv ct : Value) (us : List Value), us.length = ps.length → bindArgs (PySem.W.fnOf m qual (defArgs st) (defBody st) (defScope st) .none kV doc pm an cdv ct) ⟨us, []⟩ = pure (ps.zip us))
    (hbody : ∀ {f : Addr} (cdv : Value) (A : Around) (outer : List Env) (s : Shared) (H : Hp) (vs : List V) (Q : VK) (E : XK), Room k (A.deeper (envOfC qual (defScope st) s.heap.objs.size f cdv)) → sp vs H Q E →
      ∃ t, PSs (cxOf CX0 P w K mg base N qual (defScope st) f cdv A outer s H E).nox (defBody st) t ∧ t { nx := fun _ H' => Q .non H', rt := Q } (start N vs) H) : DefM P w K mg base (k + 1) x m ps sp :=
  ⟨f, fd, c, M, F.ok S len fun cdv A outer s H vs Q E hr h => hbody cdv A outer s H vs Q E hr h, F.binds hbind⟩
end
section
variable {X : Cx} {mg : Str → Option Value} {k : Nat} {x m : Str} {ps : List Str} {sp : Sp} {p pos apos : Pos} {o e : Expr} {es : List Expr} {ta : TE} {t : TA}
theorem pe_mk0 (D : MkP X.prog X.w X.K mg X.base k x ps sp) (hX : X.mg = mg) (hr : Room (k + 1) X.A) (hg : Gl X x) (hdb : (x == ("__debug__" : Str)) = false := by decide) : PE X (.Call (.Name x p) [] [] pos) (tMake (cad mg x) sp [] E0 tNil) := by
  subst hX
  obtain ⟨f, fd, M, F, hm, hb⟩ := D.ex
  exact pe_make0 M F hr hg hm hb .nil pass0 hdb
theorem pe_mt (D : DefM X.prog X.w X.K mg X.base k x m ps sp) (hX : X.mg = mg) (hr : Room k X.A) (he : PE X o ta) (ha : PA X (e :: es) t) {pl : Sem Bool}
    (hst : starEach (e :: es) X.env = (false, eval e X.env) :: starEach es X.env := by rfl) (hpl : (backTo pos (starEach es X.env)).any (·.1) = false := by rfl)
    (ht : eval (.Call (.Attribute o m apos) (e :: es) [] pos) X.env = (do
      let ov ← eval o X.env
      standAt apos.atName
      let (f, first) ← holding [ov] (getMethod ov m pl)
      callWith pos f first (backTo pos (starEach (e :: es) X.env)) (backToKw pos (keywordEach [] X.env))) := by rfl) : PE X (.Call (.Attribute o m apos) (e :: es) [] pos) (tMeth (cad mg x) m sp [] E0 ta t) := by
  subst hX
  obtain ⟨f, fd, c, M, F, hb⟩ := D.ex
  exact pe_meth he c M F hr hb .nil pass0 ha hst hpl ht
end
theorem x_meth {C : Addr} {m : Str} {sp : Sp} {ta : TE} {t : TA} {σ : L2.St} {H : Hp} {Q : VK} (q : ta σ H fun x H1 => ∃ a dx fs, x = .ref a ∧ H1 a = some (.ins C dx fs) ∧ fs.lookup m = none ∧ t σ H1 fun vs H2 => sp (x :: (vs ++ [])) H2 Q E0) : tMeth C m sp [] E0 ta t σ H Q := by
  unfold tMeth
  exact q
theorem x_make0 {C : Addr} {sp : Sp} {t : TA} {σ : L2.St} {H : Hp} {Q : VK} (q : t σ H fun vs H1 => ∀ x dx, H1 x = none → H1 dx = none → dx ≠ x → sp (.ref x :: (vs ++ [])) (upd (upd H1 dx (.own x)) x (.ins C dx [])) (fun v H2 => v = .non ∧ Q (.ref x) H2) E0) : tMake C sp [] E0 t σ H Q := q
theorem x_fld {K : PySem.W.Frag} {ta : TE} {f : Str} {σ : L2.St} {H : Hp} {Q : VK} (q : ta σ H fun x H1 => ∃ a C dx fs v, x = .ref a ∧ H1 a = some (.ins C dx fs) ∧ Cls K C ∧ NoAttr K C f ∧ fs.lookup f = some v ∧ Q v H1) : tFld K ta f σ H Q := q
theorem x_revL {K : PySem.W.Frag} {te : TE} {σ : L2.St} {H : Hp} {Q : VK} (q : te σ H fun x H1 => ∃ a xs, x = .ref a ∧ SqL K H1 a xs ∧ ∀ p, H1 p = none → Q (.ref p) (upd H1 p (.lst xs.reverse))) : tRevL K te σ H Q := q
/-! #### comprehensions over zip, over a stepped range -/
section
variable {K : PySem.W.Frag} {B H : Hp} {M R : List (Addr × HO)} {Q : VK} {σ : L2.St} {tt : TT} {te : TE}
theorem wipe2 (σ : L2.St) (j1 j2 : Nat) (x y : Option V) : wipe (((wipe σ [j1, j2]).set j1 x).set j2 y) [j1, j2] = wipe σ [j1, j2] := by
  show (((((((σ.set j2 none).set j1 none).set j1 x).set j2 y).set j2 none).set j1 none)) = (σ.set j2 none).set j1 none
  refine List.ext_getElem? fun k => ?_
  simp only [List.getElem?_set, List.length_set]
  repeat' split
  all_goals first | rfl | (exfalso; omega) | simp_all
theorem lc_zip {a b : Addr} {xs ys : List V} {j1 j2 : Nat} (hl : xs.length = ys.length) (O : Own B H M R) (Pv : Nat → List V → List (Addr × HO) → Prop)
    (hG : ∀ i H' M' p acc, B p = none → Pv i acc M' → Own B H' M' (R ++ [(p, .lst acc)]) → SqL K H' a xs ∧ SqL K H' b ys) (h0 : Pv 0 [] M)
    (hs : ∀ (i : Nat) x y H' M' p acc, xs[i]? = some x → ys[i]? = some y → acc.length ≤ i → Pv i acc M' → Own B H' M' (R ++ [(p, .lst acc)]) →
      tt (((wipe σ [j1, j2]).set j1 (some x)).set j2 (some y)) H' fun c H3 => if c = true then te (((wipe σ [j1, j2]).set j1 (some x)).set j2 (some y)) H3 (lcEnd B R p i (Pv (i + 1))) else lcSkip B R p i (Pv (i + 1)) H3)
    (hd : ∀ p H' M' acc, B p = none → acc.length ≤ xs.length → Pv xs.length acc M' → Own B H' M' (R ++ [(p, .lst acc)]) → Q (.ref p) H') : lcR (gTup K 2 (gCons (gName j1) (gCons (gName j2) gNil))) tt te [j1, j2] σ Q (Itz K a b) H := by
  intro p hp
  refine lc_it (walk_zip (xs := xs) (ys := ys) (n := xs.length) (by omega)) (fun i H' => ∃ M' acc, acc.length ≤ i ∧ Pv i acc M' ∧ Own B H' M' (R ++ [(p, .lst acc)])) ⟨M, [], Nat.le_refl _, h0, O.new hp⟩ (fun i H' _ ⟨M', acc, _, pv, O'⟩ => hG i H' M' p acc (O.base_free hp) pv O') ?_ (fun H' ⟨M', acc, l, pv, O'⟩ => hd p H' M' acc (O.base_free hp) l pv O')
  rintro i v H' H'' hi ⟨M', acc, hl, pv, O'⟩ ⟨T, x, y, rfl, hT, rfl, hx, hy⟩
  exact ⟨T, [x, y], rfl, SqT.of upd_same, rfl, _, _, rfl, _, _, rfl, rfl, wipe2 σ j1 j2 _ _, hs i x y _ M' p acc hx hy hl pv (O'.ignore hT)⟩
theorem lc_rngC {lo c : Int} {n j : Nat} (O : Own B H M R) (Pv : Nat → List V → List (Addr × HO) → Prop) (h0 : Pv 0 [] M)
    (hs : ∀ (i : Nat) H' M' p acc, i < n → acc.length ≤ i → Pv i acc M' → Own B H' M' (R ++ [(p, .lst acc)]) →
      tt ((wipe σ [j]).set j (some (.int (lo + (i : Nat) * c)))) H' fun b H3 => if b = true then te ((wipe σ [j]).set j (some (.int (lo + (i : Nat) * c)))) H3 (lcEnd B R p i (Pv (i + 1))) else lcSkip B R p i (Pv (i + 1)) H3)
    (hd : ∀ p H' M' acc, B p = none → acc.length ≤ n → Pv n acc M' → Own B H' M' (R ++ [(p, .lst acc)]) → Q (.ref p) H') : lcR (gName j) tt te [j] σ Q (Itc lo c n) H :=
  lc_any walk_rangeC O Pv (fun _ _ _ _ _ => trivial) h0 (fun i x H' H'' M' p acc hi hl pv O' y => by
    obtain ⟨rfl, rfl⟩ := y
    exact hs i _ M' p acc hi hl pv O') hd
end
/-- a method as the head hands it over -/
def OMth (K : PySem.W.Frag) (C : Addr) (m qual : Str) (st : Stmt) : Prop := ∃ f fd, Meth K C m f ∧ Fun K m qual st f fd
theorem omth_mk {K : PySem.W.Frag} {C f : Addr} {m qual : Str} {st : Stmt} {oc kV doc pm cdv ct : Value} {od an : Option Addr} {osl : Array (Option Value)} (at_ : PySem.W.findIn K (.ref C) m = some (some (.ref f)))
    (lk : K.lookup f = some ⟨oc, od, .func (PySem.W.fnOf m qual (defArgs st) (defBody st) (defScope st) .none kV doc pm an cdv ct), osl⟩) (cd : PySem.W.codeIn K cdv qual = true) (hb : (PySem.W.isFn K (.ref f) && PySem.W.keepIn K (.ref f)) = true) : OMth K C m qual st := by
  obtain ⟨b1, b2⟩ := Bool.and_eq_true_iff.mp hb
  exact ⟨f, _, ⟨at_, b1, b2⟩, fun_mk lk cd b2⟩
theorem omth_at {K : PySem.W.Frag} {h : Heap} {mg : Str → Option Value} {x : Str} {c : Addr} {m qual : Str} {st : Stmt} (X : K.In h) (G : h.Ns mainGlobals mg) (n : PySem.W.nsIn K mainGlobals x = some (some (.ref c))) (o : OMth K c m qual st) : OMth K (cad mg x) m qual st := by
  rw [cad_eq (PySem.W.mg_of X G n)]
  exact o
def rIndexS : V → List V → Hp → VK → Prop := fun x xs H Q => ∃ a b i rest, x = .str a ∧ xs = [.str b] ∧ Builtin.Str.occurrences a b 0 a.length 1 = i :: rest ∧ Q (.int (i : Nat)) H
theorem mtIndex {X : Cx} : MtR X "str.index" rIndexS := mt_sindex
/-! #### great divisions -/
def CDivG (i j : Int) : Prop := 0 < j ∧ (j.natAbs.log2 < 9000 ∨ i.natAbs ≤ j.natAbs)
theorem noPylong_le {x y : Int} (h : x.natAbs ≤ y.natAbs) : Builtin.divisionGoesByPylong x y = false := by
  show (decide ((if y == 0 then 0 else y.natAbs.log2 / 30 + 1) > 300) && decide ((if x == 0 then 0 else x.natAbs.log2 / 30 + 1) > (if y == 0 then 0 else y.natAbs.log2 / 30 + 1) + 150)) = false
  have key : (if x == 0 then 0 else x.natAbs.log2 / 30 + 1) ≤ (if y == 0 then 0 else y.natAbs.log2 / 30 + 1) + 150 := by
    by_cases hx : (x == 0) = true
    · rw [if_pos hx]; exact Nat.zero_le _
    · rw [if_neg hx]
      have hx0 : x ≠ 0 := fun e => hx (by rw [e]; rfl)
      have hy0 : y ≠ 0 := fun e => by rw [e] at h; omega
      rw [if_neg (by simpa using hy0)]
      have hl : x.natAbs.log2 ≤ y.natAbs.log2 := by
        have h1 := Nat.log2_self_le (n := x.natAbs) (by omega)
        exact (Nat.le_log2 (by omega)).mpr (Nat.le_trans h1 h)
      omega
  rw [decide_eq_false (Nat.not_lt.mpr key), Bool.and_false]
theorem op_fdivG {X : Cx} : OpR X (binaryOp .FloorDiv) (rI CDivG fun i j => .int (i / j)) := opI fun i j _ _ _ _ _ hc q => by
  have h1 : (0 : Int) < j := hc.1
  exact floordiv_int (by omega) (by rw [Int.fdiv_eq_ediv_of_nonneg i (by omega)]; exact q) (.inl (hc.2.elim PyProof.noPylong_of_log2 noPylong_le))
/-! #### a dict of the module whose keys are texts -/
def rKd (K : PySem.W.Frag) : R2 := fun x y H Q => ∃ (d : Addr) (es : Array DictEntry) (n : Nat) (z : Str) (u0 : Value) (v0 : V), x = .ref d ∧ (∃ w : World, KDict K w d es n) ∧ y = .str z ∧ PySem.W.nsIn K d z = some (some u0) ∧ RelV v0 u0 ∧ Q v0 H
end NF

/-! Texts cut and joined, numbers as texts, f-texts, a local that is a def, data in the heap. -/
namespace NF
open PySem PySem.Spec PyProof.Rows L2
section
variable {X : Cx} {B H : Hp} {M R : List (Addr × HO)} {σ : L2.St} {Q : VK} {te : TE} {t : TA}
/-! #### str(n), int(z) -/
def rStrI : List V → Hp → VK → Prop := fun xs H Q => ∃ i, xs = [.int i] ∧ i.natAbs.log2 < 1920 ∧ Q (.str (toString i)) H
theorem callStrI : CallR X (.type "str") rStrI := call_str_int
theorem x_strI {i : Int} (h : i.natAbs.log2 < 1920) (q : Q (.str (toString i)) H) : rStrI [.int i] H Q := ⟨i, rfl, h, q⟩
def rIntS : List V → Hp → VK → Prop := fun xs H Q => ∃ a n, xs = [.str a] ∧ PySem.intText? a = some n ∧ a.length ≤ 640 ∧ Q (.int n) H
theorem callIntS : CallR X (.type "int") rIntS := call_int_str
theorem x_intS {z : Str} {n : Int} (h : PySem.intText? z = some n) (hl : z.length ≤ 640) (q : Q (.int n) H) : rIntS [.str z] H Q := ⟨z, n, rfl, h, hl, q⟩
/-! #### z.split(sep) -/
def rSplit : V → List V → Hp → VK → Prop := fun x xs H Q => ∃ a b, x = .str a ∧ xs = [.str b] ∧ (b.length == 0) = false ∧ a.length + 2 ≤ sizeLine ∧ rNewStrs (Txt.split a b) H Q
theorem mtSplit : MtR X "str.split" rSplit := mt_split
theorem x_split {a b : Str} (O : Own B H M R) (hb : (b.length == 0) = false) (ha : a.length + 2 ≤ sizeLine) (q : ∀ p H1, B p = none → Own B H1 M (R ++ [(p, .lst ((Txt.split a b).map V.str))]) → Q (.ref p) H1) : rSplit (.str a) [.str b] H Q :=
  ⟨a, b, rfl, rfl, hb, ha, fun p hp => q p _ (O.base_free hp) (O.new hp)⟩
/-! #### f-texts -/
theorem x_fmt (q : te σ H fun x H1 => (∃ y : Str, x = .str y ∧ y.length ≤ sizeLine ∧ Q (.str y) H1) ∨ ∃ i : Int, x = .int i ∧ i.natAbs.log2 < 1920 ∧ Q (.str (toString i)) H1) : tFmt te σ H Q := q
theorem x_fmS {z : Str} (h : z.length ≤ sizeLine) (q : Q (.str z) H) : (∃ y : Str, V.str z = .str y ∧ y.length ≤ sizeLine ∧ Q (.str y) H) ∨ ∃ i : Int, V.str z = .int i ∧ i.natAbs.log2 < 1920 ∧ Q (.str (toString i)) H := .inl ⟨z, rfl, h, q⟩
theorem x_js0 {acc : Str} {R : Str → Hp → Prop} (q : R acc H) : tJs [] acc σ H R := q
theorem x_jsc {acc : Str} {ts : List TE} {R : Str → Hp → Prop} (q : te σ H fun x H1 => ∃ y : Str, x = .str y ∧ (acc ++ y).length ≤ sizeLine ∧ tJs ts (acc ++ y) σ H1 R) : tJs (te :: ts) acc σ H R := q
/-! #### a local that is one of two defs -/
theorem Def.cal {P : Program} {w : World} {K : PySem.W.Frag} {mg : Str → Option Value} {base : Heap} {k : Nat} {x : Str} {ps : List Str} {sp : Sp} (D : Def P w K mg base k x ps sp) : C8.CalAt P w K mg base k (cad mg x) sp := by
  obtain ⟨f, fd, F, hm, hk, hb⟩ := D.ex
  rw [cad_eq hm]
  exact ⟨fd, ps, F, hk, hb⟩
theorem pe_cvD {mg : Str → Option Value} {i k1 k2 j : Nat} {x x1 x2 : Str} {p pos : Pos} {e : Expr} {es : List Expr} {ps1 ps2 : List Str} {sp1 sp2 : Sp} (D1 : Def X.prog X.w X.K mg X.base k1 x1 ps1 sp1) (D2 : Def X.prog X.w X.K mg X.base k2 x2 ps2 sp2) (hX : X.mg = mg) (hr : Room j X.A) (hk1 : k1 ≤ j) (hk2 : k2 ≤ j) (hN : X.N[i]? = some x) (hv : Vis X.env.scope x) (ha : PA X (e :: es) t)
    (hd : (x == ("__debug__" : Str)) = false := by decide) (hcd : (x == ("__classdict__" : Str)) = false := by decide)
    (he : starEach (e :: es) X.env = (false, eval e X.env) :: starEach es X.env := by rfl) (hpl : (backTo pos (starEach es X.env)).any (·.1) = false := by rfl) :
    PE X (.Call (.Name x p) (e :: es) [] pos) (C8.tCallV i (cad mg x1) (cad mg x2) sp1 sp2 t) := by
  subst hX
  exact C8.pe_cv D1.cal D2.cal hr hk1 hk2 hN hv ha hd hcd he hpl
theorem x_cv1 {i : Nat} {f1 f2 : Addr} {sp1 sp2 : Sp} (h : σ[i]? = some (some (.ref f1))) (q : t σ H fun vs H1 => sp1 vs H1 Q E0) : C8.tCallV i f1 f2 sp1 sp2 t σ H Q := .inl ⟨h, q⟩
theorem x_cv2 {i : Nat} {f1 f2 : Addr} {sp1 sp2 : Sp} (h : σ[i]? = some (some (.ref f2))) (q : t σ H fun vs H1 => sp2 vs H1 Q E0) : C8.tCallV i f1 f2 sp1 sp2 t σ H Q := .inr ⟨h, q⟩
/-! #### X() -/
theorem x_mkX0 {C : Addr} {Q : XK} (q : Q (.ref C) none H) : tMkX0 C σ H Q := q
end
/-! #### comprehensions over lists, tuples of tuples -/
section
variable {K : PySem.W.Frag} {B H : Hp} {M R : List (Addr × HO)} {Q : VK} {σ : L2.St} {tt : TT} {te : TE} {a : Addr} {xs : List V}
theorem wipe3 (σ : L2.St) (j1 j2 j3 : Nat) (x y z : Option V) : wipe ((((wipe σ [j1, j2, j3]).set j1 x).set j2 y).set j3 z) [j1, j2, j3] = wipe σ [j1, j2, j3] := by
  show ((((((((((σ.set j3 none).set j2 none).set j1 none).set j1 x).set j2 y).set j3 z).set j3 none).set j2 none).set j1 none)) = ((σ.set j3 none).set j2 none).set j1 none
  refine List.ext_getElem? fun k => ?_
  simp only [List.getElem?_set, List.length_set]
  repeat' split
  all_goals first | rfl | (exfalso; omega) | simp_all
/-- .. each item's parts by what Pt says of it -/
theorem lc_it2 {J : It} {n j1 j2 : Nat} {G : Hp → Prop} (W : L2.Walk J n G (YAt xs)) (O : Own B H M R) (Pv : Nat → List V → List (Addr × HO) → Prop)
    (hG : ∀ i H' M' p acc, B p = none → Pv i acc M' → Own B H' M' (R ++ [(p, .lst acc)]) → G H') (h0 : Pv 0 [] M)
    (hs : ∀ (i : Nat) v H' M' p acc, B p = none → xs[i]? = some v → acc.length ≤ i → Pv i acc M' → Own B H' M' (R ++ [(p, .lst acc)]) → ∃ T x y, v = .ref T ∧ SqT K H' T [x, y] ∧
      tt (((wipe σ [j1, j2]).set j1 (some x)).set j2 (some y)) H' fun c H3 => if c = true then te (((wipe σ [j1, j2]).set j1 (some x)).set j2 (some y)) H3 (lcEnd B R p i (Pv (i + 1))) else lcSkip B R p i (Pv (i + 1)) H3)
    (hd : ∀ p H' M' acc, B p = none → acc.length ≤ n → Pv n acc M' → Own B H' M' (R ++ [(p, .lst acc)]) → Q (.ref p) H') : lcR (gTup K 2 (gCons (gName j1) (gCons (gName j2) gNil))) tt te [j1, j2] σ Q J H := by
  intro p hp
  refine lc_it W (fun i H' => ∃ M' acc, acc.length ≤ i ∧ Pv i acc M' ∧ Own B H' M' (R ++ [(p, .lst acc)])) ⟨M, [], Nat.le_refl _, h0, O.new hp⟩ (fun i H' _ ⟨M', acc, _, pv, O'⟩ => hG i H' M' p acc (O.base_free hp) pv O') ?_ (fun H' ⟨M', acc, l, pv, O'⟩ => hd p H' M' acc (O.base_free hp) l pv O')
  rintro i v H' H'' hi ⟨M', acc, hl, pv, O'⟩ ⟨rfl, hv⟩
  obtain ⟨T, x, y, rfl, hT, q⟩ := hs i v _ M' p acc (O.base_free hp) hv hl pv O'
  exact ⟨T, [x, y], rfl, hT, rfl, _, _, rfl, _, _, rfl, rfl, wipe2 σ j1 j2 _ _, q⟩
theorem lc_it3 {J : It} {n j1 j2 j3 : Nat} {G : Hp → Prop} (W : L2.Walk J n G (YAt xs)) (O : Own B H M R) (Pv : Nat → List V → List (Addr × HO) → Prop)
    (hG : ∀ i H' M' p acc, B p = none → Pv i acc M' → Own B H' M' (R ++ [(p, .lst acc)]) → G H') (h0 : Pv 0 [] M)
    (hs : ∀ (i : Nat) v H' M' p acc, B p = none → xs[i]? = some v → acc.length ≤ i → Pv i acc M' → Own B H' M' (R ++ [(p, .lst acc)]) → ∃ T x y z, v = .ref T ∧ SqT K H' T [x, y, z] ∧
      tt ((((wipe σ [j1, j2, j3]).set j1 (some x)).set j2 (some y)).set j3 (some z)) H' fun c H3 => if c = true then te ((((wipe σ [j1, j2, j3]).set j1 (some x)).set j2 (some y)).set j3 (some z)) H3 (lcEnd B R p i (Pv (i + 1))) else lcSkip B R p i (Pv (i + 1)) H3)
    (hd : ∀ p H' M' acc, B p = none → acc.length ≤ n → Pv n acc M' → Own B H' M' (R ++ [(p, .lst acc)]) → Q (.ref p) H') : lcR (gTup K 3 (gCons (gName j1) (gCons (gName j2) (gCons (gName j3) gNil)))) tt te [j1, j2, j3] σ Q J H := by
  intro p hp
  refine lc_it W (fun i H' => ∃ M' acc, acc.length ≤ i ∧ Pv i acc M' ∧ Own B H' M' (R ++ [(p, .lst acc)])) ⟨M, [], Nat.le_refl _, h0, O.new hp⟩ (fun i H' _ ⟨M', acc, _, pv, O'⟩ => hG i H' M' p acc (O.base_free hp) pv O') ?_ (fun H' ⟨M', acc, l, pv, O'⟩ => hd p H' M' acc (O.base_free hp) l pv O')
  rintro i v H' H'' hi ⟨M', acc, hl, pv, O'⟩ ⟨rfl, hv⟩
  obtain ⟨T, x, y, z, rfl, hT, q⟩ := hs i v _ M' p acc (O.base_free hp) hv hl pv O'
  exact ⟨T, [x, y, z], rfl, hT, rfl, _, _, rfl, _, _, rfl, _, _, rfl, rfl, wipe3 σ j1 j2 j3 _ _ _, q⟩
theorem x_slA {lo hi : Option Int} (hx : H a = some (.tup xs)) (O : Own B H M R) (q1 : HT.sIx xs.length 0 lo = 0 ∧ HT.sIx xs.length xs.length hi = xs.length → Q (.ref a) H)
    (q2 : ∀ p H1, B p = none → Own B H1 M (R ++ [(p, .tup (cutV xs lo hi))]) → Q (.ref p) H1) : rSlA K (.ref a) lo hi H Q := ⟨a, xs, rfl, SqT.of hx, q1, fun _ p hp => q2 p _ (O.base_free hp) (O.new hp)⟩
end
/-! ### data in the heap -/
mutual
/-- v is the datum d, where P says what lies at an address -/
inductive Dat (P : Addr → HO → Prop) : V → PyData → Prop
  | non : Dat P .non .none
  | bl (b : Bool) : Dat P (.bl b) (.bool b)
  | int (i : Int) : Dat P (.int i) (.int i)
  | str (x : Str) : Dat P (.str x) (.str x)
  | lst {a : Addr} {xs : List V} {ds : List PyData} : P a (.lst xs) → DatAll P xs ds → Dat P (.ref a) (.list ds)
  | tup {a : Addr} {xs : List V} {ds : List PyData} : P a (.tup xs) → DatAll P xs ds → Dat P (.ref a) (.tuple ds)
inductive DatAll (P : Addr → HO → Prop) : List V → List PyData → Prop
  | nil : DatAll P [] []
  | cons {v : V} {vs : List V} {d : PyData} {ds : List PyData} : Dat P v d → DatAll P vs ds → DatAll P (v :: vs) (d :: ds)
end
abbrev inH (H : Hp) : Addr → HO → Prop := fun a o => H a = some o
abbrev inT (T : List (Addr × HO)) : Addr → HO → Prop := fun a o => (a, o) ∈ T
mutual
theorem Dat.mono {P P' : Addr → HO → Prop} (h : ∀ a o, P a o → P' a o) : ∀ (d : PyData) (v : V), Dat P v d → Dat P' v d
  | .none, _, x => by cases x; exact .non
  | .bool b, _, x => by cases x; exact .bl b
  | .int i, _, x => by cases x; exact .int i
  | .str s, _, x => by cases x; exact .str s
  | .list ds, _, x => by
    cases x with
    | lst a r => exact .lst (h _ _ a) (DatAll.mono h ds _ r)
  | .tuple ds, _, x => by
    cases x with
    | tup a r => exact .tup (h _ _ a) (DatAll.mono h ds _ r)
  | .dict _, _, x => by cases x
theorem DatAll.mono {P P' : Addr → HO → Prop} (h : ∀ a o, P a o → P' a o) : ∀ (ds : List PyData) (vs : List V), DatAll P vs ds → DatAll P' vs ds
  | [], _, x => by cases x; exact .nil
  | d :: ds, _, x => by
    cases x with
    | cons a r => exact .cons (Dat.mono h d _ a) (DatAll.mono h ds _ r)
end
mutual
theorem Dat.dp {K : PySem.W.Frag} {H : Hp} : ∀ (d : PyData) (v : V), Dat (inH H) v d → Dp K H v d
  | .none, _, x => by cases x; exact .non
  | .bool b, _, x => by cases x; exact .bl b
  | .int i, _, x => by cases x; exact .int i
  | .str s, _, x => by cases x; exact .str s
  | .list ds, _, x => by
    cases x with
    | lst a r => exact .lst (SqL.of a) (DatAll.dp ds _ r)
  | .tuple ds, _, x => by
    cases x with
    | tup a r => exact .tup (SqT.of a) (DatAll.dp ds _ r)
  | .dict _, _, x => by cases x
theorem DatAll.dp {K : PySem.W.Frag} {H : Hp} : ∀ (ds : List PyData) (vs : List V), DatAll (inH H) vs ds → DpAll K H vs ds
  | [], _, x => by cases x; exact .nil
  | d :: ds, _, x => by
    cases x with
    | cons a r => exact .cons (Dat.dp d _ a) (DatAll.dp ds _ r)
end
theorem DatAll.len {P : Addr → HO → Prop} : ∀ {ds : List PyData} {vs : List V}, DatAll P vs ds → vs.length = ds.length
  | [], _, x => by cases x; rfl
  | d :: ds, _, x => by
    cases x with
    | cons a r => rw [List.length_cons, List.length_cons, r.len]
theorem DatAll.at {P : Addr → HO → Prop} : ∀ {ds : List PyData} {vs : List V}, DatAll P vs ds → ∀ {i : Nat} {d : PyData}, ds[i]? = some d → ∃ v, vs[i]? = some v ∧ Dat P v d
  | [], _, x, i, d, h => by simp at h
  | d0 :: ds, _, x, i, d, h => by
    cases x with
    | cons a r =>
      cases i with
      | zero => cases h; exact ⟨_, rfl, a⟩
      | succ i => exact r.at (i := i) (by simpa using h)
theorem DatAll.snoc {P : Addr → HO → Prop} : ∀ {ds : List PyData} {vs : List V}, DatAll P vs ds → ∀ {v : V} {d : PyData}, Dat P v d → DatAll P (vs ++ [v]) (ds ++ [d])
  | [], _, x, v, d, h => by cases x; exact .cons h .nil
  | d0 :: ds, _, x, v, d, h => by
    cases x with
    | cons a r => exact .cons a (r.snoc h)
theorem DatAll.app {P : Addr → HO → Prop} : ∀ {ds es : List PyData} {vs us : List V}, DatAll P vs ds → DatAll P us es → DatAll P (vs ++ us) (ds ++ es)
  | [], _, _, _, x, y => by cases x; exact y
  | d0 :: ds, _, _, _, x, y => by
    cases x with
    | cons a r => exact .cons a (r.app y)
theorem DatAll.take {P : Addr → HO → Prop} : ∀ {ds : List PyData} {vs : List V}, DatAll P vs ds → ∀ n, DatAll P (vs.take n) (ds.take n)
  | [], _, x, n => by cases x; rw [List.take_nil, List.take_nil]; exact .nil
  | d0 :: ds, _, x, n => by
    cases x with
    | cons a r =>
      cases n with
      | zero => exact .nil
      | succ n => exact .cons a (r.take n)
theorem DatAll.ints {P : Addr → HO → Prop} : ∀ ns : List Int, DatAll P (ns.map V.int) (ns.map PyData.int)
  | [] => .nil
  | n :: ns => .cons (.int n) (DatAll.ints ns)
theorem DatAll.strs {P : Addr → HO → Prop} : ∀ ns : List Str, DatAll P (ns.map V.str) (ns.map PyData.str)
  | [] => .nil
  | n :: ns => .cons (.str n) (DatAll.strs ns)
theorem datInts {P : Addr → HO → Prop} : ∀ {ns : List Int} {vs : List V}, DatAll P vs (ns.map PyData.int) → vs = ns.map V.int
  | [], _, x => by cases x; rfl
  | n :: ns, _, x => by
    cases x with
    | cons a r => cases a; rw [datInts r]; rfl
theorem datStrs {P : Addr → HO → Prop} : ∀ {ns : List Str} {vs : List V}, DatAll P vs (ns.map PyData.str) → vs = ns.map V.str
  | [], _, x => by cases x; rfl
  | n :: ns, _, x => by
    cases x with
    | cons a r => cases a; rw [datStrs r]; rfl
end NF

namespace NF
open PySem L2 TL
/-! promises and steps that more than one law uses -/
abbrev nV (n : Nat) : V := .int n
def fv : Option Nat → V
  | none => .non
  | some n => .int (n : Int)
theorem tl_at {z : Str} {i c : Nat} (h : z.cps[i]? = some c) : (tl z)[i]? = some c := by rw [Array.getElem?_toList]; exact h
abbrev fI (x : Str) (i : Int) : List (Str × V) := [(x, .int i)]
def spN (n : Nat) (pre : List V → Prop) (post : List V → V → List (Addr × HO) → Prop) : Sp := fun vs H Q _ => vs.length = n ∧ pre vs ∧ ∀ v H' N, (∀ x ∈ N, H x.1 = none) → Own H H' [] N → post vs v N → Q v H'
theorem hl_spN {n : Nat} {pre : List V → Prop} {post : List V → V → List (Addr × HO) → Prop} : ∀ vs H Q E, spN n pre post vs H Q E → vs.length = n := fun vs H Q E h => h.1
theorem use_spN {B H : Hp} {M R : List (Addr × HO)} {n : Nat} {pre : List V → Prop} {post : List V → V → List (Addr × HO) → Prop} {vs : List V} {Q : VK} {E : XK} (O : Own B H M R) (hl : vs.length = n) (hp : pre vs)
    (q : ∀ v H' N, (∀ x ∈ N, B x.1 = none) → Own B H' M (R ++ N) → post vs v N → Q v H') : spN n pre post vs H Q E :=
  ⟨hl, hp, fun v H' N hn O' h => q v H' N (fun x hx => O.base_free (hn x hx)) (O.callN O' hn) h⟩
def spNX (mg : Str → Option Value) (n : Nat) (pre : List V → Prop) (post : List V → V → List (Addr × HO) → Prop) (exc : ExS) : Sp := fun vs H Q E => vs.length = n ∧ pre vs ∧ (∀ v H' N, (∀ x ∈ N, H x.1 = none) → Own H H' [] N → post vs v N → Q v H') ∧
  ∀ x fs d H', Own H H' [] [] → exc vs x fs → H d = none → H' d = some (.xd fs) → E (.ref (cad mg x)) (some d) H'
theorem hl_spNX {mg : Str → Option Value} {n : Nat} {pre : List V → Prop} {post : List V → V → List (Addr × HO) → Prop} {exc : ExS} : ∀ vs H Q E, spNX mg n pre post exc vs H Q E → vs.length = n := fun vs H Q E h => h.1
theorem use_spNX {mg : Str → Option Value} {B H : Hp} {M R : List (Addr × HO)} {n : Nat} {pre : List V → Prop} {post : List V → V → List (Addr × HO) → Prop} {exc : ExS} {vs : List V} {Q : VK} {E : XK} (O : Own B H M R) (hl : vs.length = n) (hp : pre vs)
    (q : ∀ v H' N, (∀ x ∈ N, B x.1 = none) → Own B H' M (R ++ N) → post vs v N → Q v H') (e : ∀ x fs d H', Own B H' M R → exc vs x fs → B d = none → H' d = some (.xd fs) → E (.ref (cad mg x)) (some d) H') : spNX mg n pre post exc vs H Q E :=
  ⟨hl, hp, fun v H' N hn O' h => q v H' N (fun x hx => O.base_free (hn x hx)) (O.callN O' hn) h, fun x fs d H' O' h h1 h2 => e x fs d H' (O.call0 O') h (O.base_free h1) h2⟩
theorem Own.mem {B H : Hp} {M R : List (Addr × HO)} {x : Addr × HO} (O : Own B H M R) (h : x ∈ R) : H x.1 = some x.2 := O.at_ x (List.mem_append_right _ h)
theorem Own.front {B H : Hp} {M R N : List (Addr × HO)} (O : Own B H M (R ++ N)) (hn : ∀ x ∈ N, B x.1 = none) : Own B H M R := (O.perm List.perm_append_comm).dropTo hn
theorem Own.track {B H : Hp} {d : Addr} {o : HO} (O : Own B H [] []) (hd : H d = some o) : Own B H [] [(d, o)] :=
  ⟨by simp, fun x hx => by
    have e : x = (d, o) := by simpa using hx
    rw [e]
    exact hd, fun b hb u e => O.out b (by simp) u e⟩
theorem Own.shift {B H : Hp} {M R : List (Addr × HO)} {x : Addr × HO} (O : Own B H M (R ++ [x])) : Own B H (M ++ [x]) R := by
  have e : (M ++ (R ++ [x])).Perm (M ++ [x] ++ R) := by
    rw [List.append_assoc]
    exact List.Perm.append_left M List.perm_append_comm
  exact ⟨(e.map Prod.fst).nodup_iff.mp O.nd, fun y hy => O.at_ y (e.mem_iff.mpr hy), fun b hb o q => O.out b (fun z => hb ((e.map Prod.fst).mem_iff.mp z)) o q⟩
theorem Own.toOpen {B H : Hp} {M R R' : List (Addr × HO)} (O : Own B H M R) (e : (M ++ R).Perm R') : Own B H [] R' := by
  have e : (M ++ R).Perm ([] ++ R') := e
  exact ⟨(e.map Prod.fst).nodup_iff.mp O.nd, fun y hy => O.at_ y (e.mem_iff.mpr hy), fun b hb o q => O.out b (fun z => hb ((e.map Prod.fst).mem_iff.mp z)) o q⟩
theorem Own.stays {B H : Hp} {p a : Addr} {o u : HO} (O : Own B H [] [(p, u)]) (hp : B p = none) (h : B a = some o) : H a = some o := by
  refine O.out a (fun q => ?_) _ h
  have e : a = p := by simpa using q
  rw [e, hp] at h
  cases h
theorem Own.staysR {B H : Hp} {R : List (Addr × HO)} {a : Addr} {o : HO} (O : Own B H [] R) (hR : ∀ x ∈ R, B x.1 = none) (h : B a = some o) : H a = some o := by
  refine O.out a (fun q => ?_) _ h
  obtain ⟨x, hx, e⟩ := List.mem_map.mp q
  have n := hR x hx
  rw [e, h] at n
  cases n
theorem lc_lst2 {K : PySem.W.Frag} {B H : Hp} {M R : List (Addr × HO)} {Q : VK} {σ : L2.St} {tt : TT} {te : TE} {j : Nat} {a : Addr} {xs : List V} (hx : SqL K H a xs) (O : Own B H M R) (Pv : Nat → List V → List (Addr × HO) → Prop)
    (hG : ∀ i H' M' p acc, B p = none → Pv i acc M' → Own B H' M' (R ++ [(p, .lst acc)]) → SqL K H' a xs) (h0 : Pv 0 [] M)
    (hs : ∀ (i : Nat) x H' M' p acc, B p = none → xs[i]? = some x → acc.length ≤ i → Pv i acc M' → Own B H' M' (R ++ [(p, .lst acc)]) →
      tt ((wipe σ [j]).set j (some x)) H' fun b H3 => if b = true then te ((wipe σ [j]).set j (some x)) H3 (lcEnd B R p i (Pv (i + 1))) else lcSkip B R p i (Pv (i + 1)) H3)
    (hd : ∀ p H' M' acc, B p = none → acc.length ≤ xs.length → Pv xs.length acc M' → Own B H' M' (R ++ [(p, .lst acc)]) → Q (.ref p) H') : jList K (.ref a) H (lcR (gName j) tt te [j] σ Q) := by
  refine ⟨a, rfl, ⟨xs, hx⟩, fun p hp => ?_⟩
  refine lc_it walk_list (fun i H' => ∃ M' acc, acc.length ≤ i ∧ Pv i acc M' ∧ Own B H' M' (R ++ [(p, .lst acc)])) ⟨M, [], Nat.le_refl _, h0, O.new hp⟩ (fun i H' _ ⟨M', acc, _, pv, O'⟩ => hG i H' M' p acc (O.base_free hp) pv O') ?_ (fun H' ⟨M', acc, l, pv, O'⟩ => hd p H' M' acc (O.base_free hp) l pv O')
  rintro i x H' H'' hi ⟨M', acc, hl, pv, O'⟩ ⟨rfl, hx⟩
  exact ⟨set_wipe σ j _, hs i x _ M' p acc (O.base_free hp) hx hl pv O'⟩
theorem lc_tup2 {K : PySem.W.Frag} {B H : Hp} {M R : List (Addr × HO)} {Q : VK} {σ : L2.St} {tt : TT} {te : TE} {j : Nat} {a : Addr} {xs : List V} (hx : SqT K H a xs) (O : Own B H M R) (Pv : Nat → List V → List (Addr × HO) → Prop)
    (hG : ∀ i H' M' p acc, B p = none → Pv i acc M' → Own B H' M' (R ++ [(p, .lst acc)]) → SqT K H' a xs) (h0 : Pv 0 [] M)
    (hs : ∀ (i : Nat) x H' M' p acc, B p = none → xs[i]? = some x → acc.length ≤ i → Pv i acc M' → Own B H' M' (R ++ [(p, .lst acc)]) →
      tt ((wipe σ [j]).set j (some x)) H' fun b H3 => if b = true then te ((wipe σ [j]).set j (some x)) H3 (lcEnd B R p i (Pv (i + 1))) else lcSkip B R p i (Pv (i + 1)) H3)
    (hd : ∀ p H' M' acc, B p = none → acc.length ≤ xs.length → Pv xs.length acc M' → Own B H' M' (R ++ [(p, .lst acc)]) → Q (.ref p) H') : jTup K (.ref a) H (lcR (gName j) tt te [j] σ Q) := by
  refine ⟨a, rfl, ⟨xs, hx⟩, fun p hp => ?_⟩
  refine lc_it walk_tup (fun i H' => ∃ M' acc, acc.length ≤ i ∧ Pv i acc M' ∧ Own B H' M' (R ++ [(p, .lst acc)])) ⟨M, [], Nat.le_refl _, h0, O.new hp⟩ (fun i H' _ ⟨M', acc, _, pv, O'⟩ => hG i H' M' p acc (O.base_free hp) pv O') ?_ (fun H' ⟨M', acc, l, pv, O'⟩ => hd p H' M' acc (O.base_free hp) l pv O')
  rintro i x H' H'' hi ⟨M', acc, hl, pv, O'⟩ ⟨rfl, hx⟩
  exact ⟨set_wipe σ j _, hs i x _ M' p acc (O.base_free hp) hx hl pv O'⟩
theorem x_rep {B H : Hp} {M R : List (Addr × HO)} {a : Addr} {xs : List V} {k : Int} {Q : VK} (O : Own B H M R) (ha : H a = some (.lst xs)) (h1 : -(2 ^ 63) ≤ k) (h2 : k < 2 ^ 63) (hz : xs.length * k.toNat ≤ sizeLine)
    (q : ∀ p H1, B p = none → Own B H1 M (R ++ [(p, .lst (List.replicate k.toNat xs).flatten)]) → Q (.ref p) H1) : rRep (.ref a) (.int k) H Q := ⟨a, k, xs, rfl, rfl, ha, h1, h2, hz, fun p hp => q p _ (O.base_free hp) (O.new hp)⟩
theorem rep_one (v : V) (n : Nat) : (List.replicate n [v]).flatten = List.replicate n v := by
  induction n with
  | zero => rfl
  | succ n ih => rw [List.replicate_succ, List.flatten_cons, ih]; rfl
theorem log_small {j : Nat} (h : j ≤ 10000000) : ((j : Int).natAbs).log2 < 1900 := by
  rw [Int.natAbs_natCast]
  by_cases z : j = 0
  · rw [z]; decide
  · have h1 : j < 2 ^ 24 := by omega
    have h2 := (Nat.log2_lt z).mpr h1
    omega
theorem tl_mul (x : Str) (n : Int) : tl (Txt.mul x n) = (List.replicate n.toNat (tl x)).flatten := by
  unfold Txt.mul
  by_cases h : n < 1
  · rw [if_pos h, show n.toNat = 0 by omega]
    rfl
  · rw [if_neg h]
    by_cases h2 : (n == 1 || x.length == 0) = true
    · rw [if_pos h2]
      simp only [Bool.or_eq_true, beq_iff_eq] at h2
      rcases h2 with h2 | h2
      · rw [h2]
        simp
      · have e : tl x = [] := List.length_eq_zero_iff.mp (by rw [← len_tl]; exact h2)
        rw [e]
        simp
    · rw [if_neg h2]
      have e : ∀ (k : Nat) (a : Array Nat), ((List.replicate k x.cps).foldl (· ++ ·) a).toList = a.toList ++ (List.replicate k x.cps.toList).flatten := by
        intro k
        induction k with
        | zero => intro a; simp
        | succ k ih => intro a; rw [List.replicate_succ, List.foldl_cons, ih, List.replicate_succ, List.flatten_cons, Array.toList_append, List.append_assoc]
      exact (e n.toNat #[]).trans (List.nil_append _)
theorem flat_one {α : Type} (c : α) (k : Nat) : (List.replicate k [c]).flatten = List.replicate k c := by
  induction k with
  | zero => rfl
  | succ k ih => rw [List.replicate_succ, List.flatten_cons, ih]; rfl
theorem flat_len {α : Type} (l : List α) (k : Nat) : (List.replicate k l).flatten.length = k * l.length := by
  induction k with
  | zero => simp
  | succ k ih => rw [List.replicate_succ, List.flatten_cons, List.length_append, ih, Nat.succ_mul]; omega
theorem tl_mul1 (c : Nat) (n : Int) : tl (Txt.mul ⟨#[c]⟩ n) = List.replicate n.toNat c := by rw [tl_mul]; exact flat_one c _
theorem len_mul1 (c : Nat) (n : Int) : (Txt.mul ⟨#[c]⟩ n).length = n.toNat := by rw [len_tl, tl_mul1, List.length_replicate]
theorem x_neDT {K : PySem.W.Frag} {H : Hp} {a b : Addr} {xs : List V} {ds : List PyData} {Q : VK} (ha : H a = some (.tup xs)) (hb : H b = some (.tup xs)) (hd : DpAll K H xs ds) (hs : SeqAt.shaped (.tuple ds) = true) (q : Q (.bl false) H) : rNeD K (.ref a) (.ref b) H Q :=
  ⟨_, _, .tup (SqT.of ha) hd, .tup (SqT.of hb) hd, hs, hs, by rw [SeqAt.eqv_refl _ (SeqAt.canLay_of_shaped hs)]; exact q⟩
theorem strOk_of (x : String) : PyData.strOk (Str.ofString x) = true := by
  unfold PyData.strOk
  rw [← Array.all_toList]
  have e : (Str.ofString x).cps.toList = tl (Str.ofString x) := rfl
  rw [e, tl_ofString, List.all_eq_true]
  intro n hn
  obtain ⟨c, _, rfl⟩ := List.mem_map.mp hn
  have v := c.valid
  refine decide_eq_true ?_
  show c.val.toNat < 1114112
  rcases v with v | ⟨_, v⟩ <;> omega
def rTupOf (K : PySem.W.Frag) : List V → Hp → VK → Prop := fun xs H Q => ∃ p ys, xs = [.ref p] ∧ ((SqL K H p ys ∧ ∀ l, H l = none → Q (.ref l) (upd H l (.tup ys))) ∨ (SqT K H p ys ∧ Q (.ref p) H))
theorem callTupleOf {X : Cx} : CallR X (.type "tuple") (rTupOf X.K) := call_tuple_of
theorem x_tupOf {B H : Hp} {M R : List (Addr × HO)} {K : PySem.W.Frag} {a : Addr} {xs : List V} {Q : VK} (O : Own B H M R) (h : H a = some (.lst xs)) (q : ∀ p H1, B p = none → Own B H1 M (R ++ [(p, .tup xs)]) → Q (.ref p) H1) : rTupOf K [.ref a] H Q :=
  ⟨a, xs, rfl, .inl ⟨SqL.of h, fun l hl => q l _ (O.base_free hl) (O.new hl)⟩⟩
theorem x_catT {K : PySem.W.Frag} {B H : Hp} {M R : List (Addr × HO)} {a b : Addr} {xs ys : List V} {Q : VK} (O : Own B H M R) (h1 : H a = some (.tup xs)) (h2 : H b = some (.tup ys)) (hx : xs ≠ []) (hy : ys ≠ []) (hz : xs.length + ys.length ≤ sizeLine)
    (q : ∀ p H1, B p = none → Own B H1 M (R ++ [(p, .tup (xs ++ ys))]) → Q (.ref p) H1) : rCatT K (.ref a) (.ref b) H Q :=
  ⟨a, b, xs, ys, rfl, rfl, .of h1, .of h2, hx, hz, fun e => absurd e hy, fun _ p hp => q p _ (O.base_free hp) (O.new hp)⟩
theorem ixN_nat {n k : Nat} (h : k < n) : ixN n (k : Int) = some k := by
  unfold ixN
  simp [h]
theorem freshA {B : Hp} {T N : List (Addr × HO)} (h1 : ∀ x ∈ T, B x.1 = none) (h2 : ∀ x ∈ N, B x.1 = none) : ∀ x ∈ T ++ N, B x.1 = none := fun x hx => (List.mem_append.mp hx).elim (h1 x) (h2 x)
theorem fresh1 {B : Hp} {p : Addr} {o : HO} (h : B p = none) : ∀ x ∈ [(p, o)], B x.1 = none := fun x hx => by rw [List.mem_singleton.mp hx]; exact h
end NF

/-! Typed models of defs (W), heaps that only grow (Fz), one step of the walk beside one step of the model (y_..). -/
namespace NF
open PySem PySem.Spec PyProof.Rows L2 TL

/-! ### heaps that grow -/
def Le (F H : Hp) : Prop := ∀ a o, F a = some o → H a = some o
theorem Le.rfl {H : Hp} : Le H H := fun _ _ h => h
theorem Le.trans {F G H : Hp} (a : Le F G) (b : Le G H) : Le F H := fun x o h => b x o (a x o h)
theorem Le.upd {H : Hp} {p : Addr} {o : HO} (h : H p = none) : Le H (upd H p o) := fun a u e => by rw [upd_ne (ne_of_none e h)]; exact e
/-- F' has F, and besides objects that B does not know -/
structure Ex (B F F' : Hp) : Prop where
  le : Le F F'
  new : ∀ a o, F a = none → B a = some o → F' a = none
theorem Ex.rfl {B F : Hp} : Ex B F F := ⟨Le.rfl, fun _ _ h _ => h⟩
theorem Ex.trans {B F G H : Hp} (a : Ex B F G) (b : Ex B G H) : Ex B F H := ⟨a.le.trans b.le, fun x o h1 h2 => b.new x o (a.new x o h1 h2) h2⟩
theorem Ex.upd {B F : Hp} {p : Addr} {o : HO} (h : B p = none) (hF : F p = none) : Ex B F (upd F p o) := ⟨Le.upd hF, fun a u h1 h2 => by
  have n : a ≠ p := fun e => by rw [e, h] at h2; cases h2
  rw [upd_ne n]; exact h1⟩
/-- B: the start, but for what was handed in to be changed; F: what is frozen; R: what is open -/
structure Fz (B F H : Hp) (R : List (Addr × HO)) : Prop where
  leB : Le B H
  leF : Le F H
  nd : (R.map Prod.fst).Nodup
  at_ : ∀ x ∈ R, H x.1 = some x.2
  nB : ∀ x ∈ R, B x.1 = none
  nF : ∀ x ∈ R, F x.1 = none
section
variable {B F F' H H' : Hp} {R R' : List (Addr × HO)} {a p : Addr} {o u : HO}
theorem none_of_le (l : Le F H) (h : H p = none) : F p = none := by
  cases e : F p with
  | none => rfl
  | some o => rw [l p o e] at h; cases h
theorem Fz.start (h : Le F H) : Fz H F H [] := ⟨Le.rfl, h, List.nodup_nil, fun _ h => absurd h List.not_mem_nil, fun _ h => absurd h List.not_mem_nil, fun _ h => absurd h List.not_mem_nil⟩
/-- the heap without a -/
def del (H : Hp) (a : Addr) : Hp := fun b => if b = a then none else H b
theorem del_le : Le (del H a) H := fun b o h => by
  unfold del at h
  split at h
  · cases h
  · exact h
theorem Fz.startB (h : Le F H) (ha : H a = some o) (hF : F a = none) : Fz (del H a) F H [(a, o)] := ⟨del_le, h, by simp, fun x hx => by
  rw [List.mem_singleton.mp hx]; exact ha, fun x hx => by
  rw [List.mem_singleton.mp hx]; exact if_pos rfl, fun x hx => by
  rw [List.mem_singleton.mp hx]; exact hF⟩
theorem Fz.fresh (O : Fz B F H R) (h : H p = none) : p ∉ R.map Prod.fst := fun q => by
  obtain ⟨x, hx, e⟩ := List.mem_map.mp q
  have := O.at_ x hx
  rw [e, h] at this
  cases this
theorem Fz.ignore (O : Fz B F H R) (h : H p = none) : Fz B F (upd H p o) R := ⟨O.leB.trans (Le.upd h), O.leF.trans (Le.upd h), O.nd, fun x hx => by
  have q := O.at_ x hx
  rw [upd_ne (ne_of_none q h)]; exact q, O.nB, O.nF⟩
theorem Fz.frz (O : Fz B F H R) (h : H p = none) : Fz B (upd F p o) (upd H p o) R := by
  have hF := none_of_le O.leF h
  refine ⟨O.leB.trans (Le.upd h), fun a u e => ?_, O.nd, fun x hx => ?_, O.nB, fun x hx => ?_⟩
  · by_cases q : a = p
    · subst q; rw [upd_same] at e ⊢; exact e
    · rw [upd_ne q] at e ⊢; exact O.leF a u e
  · have q := O.at_ x hx
    rw [upd_ne (ne_of_none q h)]; exact q
  · rw [upd_ne (ne_of_none (O.at_ x hx) h)]; exact O.nF x hx
theorem Fz.exN (O : Fz B F H R) (h : H p = none) : Ex B F (upd F p o) := Ex.upd (none_of_le O.leB h) (none_of_le O.leF h)
theorem Fz.mut (O : Fz B F H R) (h : H p = none) : Fz B F (upd H p o) ((p, o) :: R) := by
  have hp := O.fresh h
  refine ⟨O.leB.trans (Le.upd h), O.leF.trans (Le.upd h), List.nodup_cons.mpr ⟨hp, O.nd⟩, fun x hx => ?_, fun x hx => ?_, fun x hx => ?_⟩
  · rcases List.mem_cons.mp hx with rfl | hx
    · exact upd_same
    · have q := O.at_ x hx
      rw [upd_ne (ne_of_none q h)]; exact q
  · rcases List.mem_cons.mp hx with rfl | hx
    · exact none_of_le O.leB h
    · exact O.nB x hx
  · rcases List.mem_cons.mp hx with rfl | hx
    · exact none_of_le O.leF h
    · exact O.nF x hx
theorem Fz.put (O : Fz B F H R) (j : Nat) (h : R[j]? = some (a, o)) (u : HO) : Fz B F (upd H a u) (R.set j (a, u)) := by
  have hm := List.mem_of_getElem? h
  have nb : ∀ (G : Hp), G a = none → Le G H → Le G (upd H a u) := fun G hG l b v e => by
    rw [upd_ne (ne_of_none e hG)]; exact l b v e
  refine ⟨nb B (O.nB _ hm) O.leB, nb F (O.nF _ hm) O.leF, by rw [map_set_fst h u]; exact O.nd, fun x hx => ?_, fun x hx => ?_, fun x hx => ?_⟩
  · rcases mem_set_or hx with rfl | ⟨i, ne, hi⟩
    · exact upd_same
    · have n : x.1 ≠ a := fun e => ne (nodup_fst O.nd hi h e)
      rw [upd_ne n]
      exact O.at_ x (List.mem_of_getElem? hi)
  · rcases mem_set_or hx with rfl | ⟨i, ne, hi⟩
    · exact O.nB (a, o) hm
    · exact O.nB x (List.mem_of_getElem? hi)
  · rcases mem_set_or hx with rfl | ⟨i, ne, hi⟩
    · exact O.nF (a, o) hm
    · exact O.nF x (List.mem_of_getElem? hi)
theorem Fz.get (O : Fz B F H R) (j : Nat) (h : R[j]? = some (a, o)) : H a = some o := O.at_ (a, o) (List.mem_of_getElem? h)
theorem Fz.sub (O : Fz B F H R) (h : R'.Sublist R) : Fz B F H R' := ⟨O.leB, O.leF, (h.map Prod.fst).nodup O.nd, fun x hx => O.at_ x (h.subset hx), fun x hx => O.nB x (h.subset hx), fun x hx => O.nF x (h.subset hx)⟩
/-- an open object is frozen -/
theorem Fz.freeze (O : Fz B F H R) (j : Nat) (h : R[j]? = some (a, o)) : Fz B (upd F a o) H (R.eraseIdx j) := by
  have S := List.eraseIdx_sublist R j
  have hm := List.mem_of_getElem? h
  refine ⟨O.leB, fun b v e => ?_, (S.map Prod.fst).nodup O.nd, fun x hx => O.at_ x (S.subset hx), fun x hx => O.nB x (S.subset hx), fun x hx => ?_⟩
  · by_cases q : b = a
    · subst q; rw [upd_same] at e; rw [← Option.some.inj e]; exact O.at_ _ hm
    · rw [upd_ne q] at e; exact O.leF b v e
  · obtain ⟨i, hi⟩ := List.getElem?_of_mem hx
    rw [List.getElem?_eraseIdx] at hi
    have n : x.1 ≠ a := fun e => by
      split at hi
      · have := nodup_fst O.nd hi h e; omega
      · have := nodup_fst O.nd hi h e; omega
    rw [upd_ne n]
    exact O.nF x (S.subset hx)
theorem Fz.exF (O : Fz B F H R) (j : Nat) (h : R[j]? = some (a, o)) : Ex B F (upd F a o) := Ex.upd (O.nB _ (List.mem_of_getElem? h)) (O.nF _ (List.mem_of_getElem? h))
/-- an open object read as if it were frozen -/
theorem Fz.vl (O : Fz B F H R) (j : Nat) (h : R[j]? = some (a, o)) : Le (upd F a o) H := (O.freeze j h).leF
theorem Fz.call (O : Fz B F H R) (l : Le H H') (l' : Le F' H') (e : Ex H F F') : Fz B F' H' R := ⟨O.leB.trans l, l', O.nd, fun x hx => l _ _ (O.at_ x hx), O.nB, fun x hx => e.new x.1 x.2 (O.nF x hx) (O.at_ x hx)⟩
theorem Fz.exC (O : Fz B F H R) (e : Ex H F F') : Ex B F F' := ⟨e.le, fun a o h1 h2 => e.new a o h1 (O.leB a o h2)⟩
theorem Fz.perm (O : Fz B F H R) (h : R.Perm R') : Fz B F H R' := ⟨O.leB, O.leF, (h.map Prod.fst).nodup_iff.mp O.nd, fun x hx => O.at_ x (h.mem_iff.mpr hx), fun x hx => O.nB x (h.mem_iff.mpr hx), fun x hx => O.nF x (h.mem_iff.mpr hx)⟩
theorem front_perm {α : Type} {a : α} : ∀ {R : List α} {j : Nat}, R[j]? = some a → R.Perm (a :: R.eraseIdx j)
  | [], j, h => by simp at h
  | x :: R, 0, h => by cases h; exact List.Perm.refl _
  | x :: R, j + 1, h => by
    have ih := front_perm (R := R) (j := j) (by simpa using h)
    exact (ih.cons x).trans (List.Perm.swap _ _ _)
/-- the j-th to the front -/
theorem Fz.toFront (O : Fz B F H R) (j : Nat) (h : R[j]? = some (a, o)) : Fz B F H ((a, o) :: R.eraseIdx j) := O.perm (front_perm h)
/-- open objects handed in -/
structure At (F H : Hp) (M : List (Addr × HO)) : Prop where
  nd : (M.map Prod.fst).Nodup
  at_ : ∀ x ∈ M, H x.1 = some x.2
  nF : ∀ x ∈ M, F x.1 = none
theorem Fz.atOf {M : List (Addr × HO)} (O : Fz B F H R) (h : M.Sublist R) : At F H M := ⟨(h.map Prod.fst).nodup O.nd, fun x hx => O.at_ x (h.subset hx), fun x hx => O.nF x (h.subset hx)⟩
/-- the heap without what was handed in -/
def dels (H : Hp) (as : List Addr) : Hp := fun b => if b ∈ as then none else H b
theorem dels_le {as : List Addr} : Le (dels H as) H := fun b o h => by
  unfold dels at h
  split at h
  · cases h
  · exact h
theorem Fz.startM {M : List (Addr × HO)} (h : Le F H) (A : At F H M) : Fz (dels H (M.map Prod.fst)) F H M := ⟨dels_le, h, A.nd, A.at_, fun x hx => if_pos (List.mem_map_of_mem hx), A.nF⟩
/-- behind a call that changed W0 to W1 -/
theorem Fz.callM {W0 W1 : List (Addr × HO)} (O : Fz B F H (W0 ++ R)) (e : W1.map Prod.fst = W0.map Prod.fst) (A : At F' H' W1) (l : ∀ b v, b ∉ W0.map Prod.fst → H b = some v → H' b = some v) (l' : Le F' H') (x : Ex H F F') : Fz B F' H' (W1 ++ R) := by
  have key : ∀ y ∈ R, y.1 ∉ W0.map Prod.fst := fun y hy q => by
    have nd := O.nd
    rw [List.map_append] at nd
    exact (List.nodup_append.mp nd).2.2 _ q _ (List.mem_map_of_mem hy) rfl
  have back : ∀ y ∈ W1, ∃ z ∈ W0, z.1 = y.1 := fun y hy => by
    have : y.1 ∈ W0.map Prod.fst := by rw [← e]; exact List.mem_map_of_mem hy
    obtain ⟨z, hz, q⟩ := List.mem_map.mp this
    exact ⟨z, hz, q⟩
  refine ⟨fun b v hb => l b v (fun q => ?_) (O.leB b v hb), l', by rw [List.map_append, e, ← List.map_append]; exact O.nd, fun y hy => ?_, fun y hy => ?_, fun y hy => ?_⟩
  · obtain ⟨z, hz, q⟩ := List.mem_map.mp q
    have := O.nB z (List.mem_append_left _ hz)
    rw [q, hb] at this
    cases this
  · rcases List.mem_append.mp hy with hy | hy
    · exact A.at_ y hy
    · exact l _ _ (key y hy) (O.at_ y (List.mem_append_right _ hy))
  · rcases List.mem_append.mp hy with hy | hy
    · obtain ⟨z, hz, q⟩ := back y hy
      rw [← q]; exact O.nB z (List.mem_append_left _ hz)
    · exact O.nB y (List.mem_append_right _ hy)
  · rcases List.mem_append.mp hy with hy | hy
    · exact A.nF y hy
    · exact x.new y.1 y.2 (O.nF y (List.mem_append_right _ hy)) (O.at_ y (List.mem_append_right _ hy))
theorem keepM {as : List Addr} {H0 : Hp} (l : Le (dels H0 as) H) : ∀ b o, b ∉ as → H0 b = some o → H b = some o := fun b o n h => l b o (by unfold dels; rw [if_neg n]; exact h)
theorem exM {as : List Addr} {H0 : Hp} (l : Ex (dels H0 as) F F') (h : ∀ a ∈ as, F' a = none) : Ex H0 F F' := ⟨l.le, fun b o h1 h2 => by
  by_cases n : b ∈ as
  · exact h b n
  · exact l.new b o h1 (by unfold dels; rw [if_neg n]; exact h2)⟩
end

theorem y_frz {B F H : Hp} {R : List (Addr × HO)} {a : Addr} {o : HO} {G : Prop} (O : Fz B F H R) (j : Nat) (h : R[j]? = some (a, o)) (q : ∀ F', Ex B F F' → F' a = some o → Fz B F' H (R.eraseIdx j) → G) : G := q _ (O.exF j h) upd_same (O.freeze j h)

/-! ### what stands for what -/
structure Enc (α : Type) where
  rep : Hp → V → α → Prop
  mono : ∀ {F F' : Hp} {v : V} {x : α}, Le F F' → rep F v x → rep F' v x
inductive RL {α : Type} (P : V → α → Prop) : List V → List α → Prop
  | nil : RL P [] []
  | cons {v : V} {x : α} {vs : List V} {xs : List α} : P v x → RL P vs xs → RL P (v :: vs) (x :: xs)
section
variable {α β : Type} {P P' : V → α → Prop} {vs us : List V} {xs ys : List α} {v : V} {x : α}
theorem RL.mono (h : ∀ v x, P v x → P' v x) (r : RL P vs xs) : RL P' vs xs := by
  induction r with
  | nil => exact .nil
  | cons a _ ih => exact .cons (h _ _ a) ih
theorem RL.len (r : RL P vs xs) : vs.length = xs.length := by
  induction r with
  | nil => rfl
  | cons _ _ ih => rw [List.length_cons, List.length_cons, ih]
theorem RL.snoc (r : RL P vs xs) (h : P v x) : RL P (vs ++ [v]) (xs ++ [x]) := by
  induction r with
  | nil => exact .cons h .nil
  | cons a _ ih => exact .cons a ih
theorem RL.app (r : RL P vs xs) (s : RL P us ys) : RL P (vs ++ us) (xs ++ ys) := by
  induction r with
  | nil => exact s
  | cons a _ ih => exact .cons a ih
theorem RL.take (r : RL P vs xs) (n : Nat) : RL P (vs.take n) (xs.take n) := by
  induction r generalizing n with
  | nil => rw [List.take_nil, List.take_nil]; exact .nil
  | cons a _ ih =>
    cases n with
    | zero => exact .nil
    | succ n => exact .cons a (ih n)
theorem RL.drop (r : RL P vs xs) (n : Nat) : RL P (vs.drop n) (xs.drop n) := by
  induction r generalizing n with
  | nil => rw [List.drop_nil, List.drop_nil]; exact .nil
  | cons a q ih =>
    cases n with
    | zero => exact .cons a q
    | succ n => exact ih n
theorem RL.at (r : RL P vs xs) {i : Nat} (h : xs[i]? = some x) : ∃ v, vs[i]? = some v ∧ P v x := by
  induction r generalizing i with
  | nil => simp at h
  | cons a _ ih =>
    cases i with
    | zero => cases h; exact ⟨_, rfl, a⟩
    | succ i => exact ih (i := i) (by simpa using h)
theorem RL.at' (r : RL P vs xs) {i : Nat} (h : vs[i]? = some v) : ∃ x, xs[i]? = some x ∧ P v x := by
  induction r generalizing i with
  | nil => simp at h
  | cons a _ ih =>
    cases i with
    | zero => cases h; exact ⟨_, rfl, a⟩
    | succ i => exact ih (i := i) (by simpa using h)
theorem RL.rep (r : RL P vs xs) : ∀ n, RL P (List.replicate n vs).flatten (List.replicate n xs).flatten
  | 0 => .nil
  | n + 1 => by rw [List.replicate_succ, List.replicate_succ, List.flatten_cons, List.flatten_cons]; exact r.app (r.rep n)
theorem RL.rev (r : RL P vs xs) : RL P vs.reverse xs.reverse := by
  induction r with
  | nil => exact .nil
  | cons a _ ih => rw [List.reverse_cons, List.reverse_cons]; exact ih.snoc a
theorem RL.mapV {f : α → V} (h : ∀ v x, P v x → v = f x) (r : RL P vs xs) : vs = xs.map f := by
  induction r with
  | nil => rfl
  | cons a _ ih => rw [h _ _ a, ih]; rfl
theorem RL.ofMap {f : α → V} (h : ∀ x, P (f x) x) : ∀ xs : List α, RL P (xs.map f) xs
  | [] => .nil
  | x :: xs => .cons (h x) (RL.ofMap h xs)
end
def eInt : Enc Int := ⟨fun _ v x => v = .int x, fun _ h => h⟩
def eStr : Enc Str := ⟨fun _ v x => v = .str x, fun _ h => h⟩
def eBool : Enc Bool := ⟨fun _ v x => v = .bl x, fun _ h => h⟩
def eNon : Enc Unit := ⟨fun _ v _ => v = .non, fun _ h => h⟩
/-- never None -/
class NN {α : Type} (e : Enc α) : Prop where
  nn : ∀ {F : Hp} {x : α}, ¬ e.rep F .non x
def eOpt {α : Type} (e : Enc α) : Enc (Option α) := ⟨fun F v x => match x with | none => v = .non | some y => e.rep F v y, fun {_ _ _ x} l h => match x, h with | none, h => h | some _, h => e.mono l h⟩
def eTup {α : Type} (e : Enc α) : Enc (List α) := ⟨fun F v xs => ∃ a vs, v = .ref a ∧ F a = some (.tup vs) ∧ RL (e.rep F) vs xs, fun l ⟨a, vs, h1, h2, h3⟩ => ⟨a, vs, h1, l _ _ h2, h3.mono fun _ _ => e.mono l⟩⟩
def eLst {α : Type} (e : Enc α) : Enc (List α) := ⟨fun F v xs => ∃ a vs, v = .ref a ∧ F a = some (.lst vs) ∧ RL (e.rep F) vs xs, fun l ⟨a, vs, h1, h2, h3⟩ => ⟨a, vs, h1, l _ _ h2, h3.mono fun _ _ => e.mono l⟩⟩
def eP2 {α β : Type} (e1 : Enc α) (e2 : Enc β) : Enc (α × β) := ⟨fun F v x => ∃ a v1 v2, v = .ref a ∧ F a = some (.tup [v1, v2]) ∧ e1.rep F v1 x.1 ∧ e2.rep F v2 x.2, fun l ⟨a, v1, v2, h, h0, h1, h2⟩ => ⟨a, v1, v2, h, l _ _ h0, e1.mono l h1, e2.mono l h2⟩⟩
def eP3 {α β γ : Type} (e1 : Enc α) (e2 : Enc β) (e3 : Enc γ) : Enc (α × β × γ) := ⟨fun F v x => ∃ a v1 v2 v3, v = .ref a ∧ F a = some (.tup [v1, v2, v3]) ∧ e1.rep F v1 x.1 ∧ e2.rep F v2 x.2.1 ∧ e3.rep F v3 x.2.2, fun l ⟨a, v1, v2, v3, h, h0, h1, h2, h3⟩ => ⟨a, v1, v2, v3, h, l _ _ h0, e1.mono l h1, e2.mono l h2, e3.mono l h3⟩⟩
instance : NN eInt := ⟨fun h => nomatch h⟩
instance : NN eStr := ⟨fun h => nomatch h⟩
instance : NN eBool := ⟨fun h => nomatch h⟩
instance {α : Type} {e : Enc α} : NN (eTup e) := ⟨fun ⟨_, _, h, _⟩ => nomatch h⟩
instance {α : Type} {e : Enc α} : NN (eLst e) := ⟨fun ⟨_, _, h, _⟩ => nomatch h⟩
instance {α β : Type} {e1 : Enc α} {e2 : Enc β} : NN (eP2 e1 e2) := ⟨fun ⟨_, _, _, h, _⟩ => nomatch h⟩
instance {α β γ : Type} {e1 : Enc α} {e2 : Enc β} {e3 : Enc γ} : NN (eP3 e1 e2 e3) := ⟨fun ⟨_, _, _, _, h, _⟩ => nomatch h⟩
section
variable {F : Hp} {v : V} {P : V → Prop}
theorem elI {x : Int} (q : P (.int x)) : ∀ u, eInt.rep F u x → P u := fun _ h => by cases h; exact q
theorem elS {x : Str} (q : P (.str x)) : ∀ u, eStr.rep F u x → P u := fun _ h => by cases h; exact q
theorem elB {x : Bool} (q : P (.bl x)) : ∀ u, eBool.rep F u x → P u := fun _ h => by cases h; exact q
end

/-! ### models -/
abbrev W (α : Type) := (α → Prop) → Prop
namespace W
@[reducible] def ok {α : Type} (a : α) : W α := fun K => K a
@[reducible] def bind {α β : Type} (m : W α) (f : α → W β) : W β := fun K => m fun a => f a K
/-- what must hold for the step to be made -/
@[reducible] def chk {α : Type} (p : Prop) (m : W α) : W α := fun K => p ∧ m K
@[reducible] def ite {α : Type} (c : Bool) (m1 m2 : W α) : W α := fun K => (c = true → m1 K) ∧ (c = false → m2 K)
@[reducible] def onone {α β : Type} (x : Option α) (m : W β) (f : α → W β) : W β := fun K => (x = none → m K) ∧ ∀ y, x = some y → f y K
/-- an item -/
@[reducible] def at_ {α β : Type} (xs : List α) (i : Int) (f : α → W β) : W β := fun K => ∃ x, atI xs i = some x ∧ f x K
end W
inductive Ctl (σ ρ : Type) | nx (s : σ) | br (s : σ) | rt (r : ρ)
@[reducible] def ctlK {σ ρ : Type} (Kn Kf : σ → Prop) (Kr : ρ → Prop) : Ctl σ ρ → Prop
  | .nx s => Kn s
  | .br s => Kf s
  | .rt r => Kr r
def forW {α σ ρ : Type} (body : α → σ → W (Ctl σ ρ)) (Kf : σ → Prop) (Kr : ρ → Prop) : List α → σ → Prop
  | [], s => Kf s
  | x :: xs, s => body x s (ctlK (forW body Kf Kr xs) Kf Kr)
@[reducible] def W.for_ {α σ ρ : Type} (xs : List α) (s : σ) (body : α → σ → W (Ctl σ ρ)) (rest : σ → W ρ) : W ρ := fun K => forW body (fun s => rest s K) K xs s
@[reducible] def compK {β : Type} (Kn : List β → Prop) (acc : List β) : Option β → Prop
  | some y => Kn (acc ++ [y])
  | none => Kn acc
def compW {α β : Type} (body : α → W (Option β)) (K : List β → Prop) : List α → List β → Prop
  | [], acc => K acc
  | x :: xs, acc => body x (compK (compW body K xs) acc)
@[reducible] def W.comp {α β : Type} (xs : List α) (body : α → W (Option β)) : W (List β) := fun K => xs.length ≤ sizeLine ∧ compW body K xs []
/-- in plain proofs: a loop by an invariant -/
theorem forW_inv {α σ ρ : Type} {body : α → σ → W (Ctl σ ρ)} {Kf : σ → Prop} {Kr : ρ → Prop} (xs : List α) (s : σ) (I : List α → σ → Prop) (h0 : I xs s)
    (hs : ∀ x r s, I (x :: r) s → body x s (ctlK (I r) Kf Kr)) (hd : ∀ s, I [] s → Kf s) (hm : ∀ x s (K K' : Ctl σ ρ → Prop), (∀ c, K c → K' c) → body x s K → body x s K') : forW body Kf Kr xs s := by
  induction xs generalizing s with
  | nil => exact hd s h0
  | cons x xs ih =>
    refine hm x s _ _ (fun c hc => ?_) (hs x xs s h0)
    cases c with
    | nx s' => exact ih s' hc
    | br s' => exact hc
    | rt r => exact hc
/-- .. by steps, the rest taken as it is -/
theorem forW_go {α σ ρ : Type} {body : α → σ → W (Ctl σ ρ)} {Kf : σ → Prop} {Kr : ρ → Prop} (I : List α → σ → Prop)
    (hs : ∀ x r s (Kn : σ → Prop), I (x :: r) s → (∀ s', I r s' → Kn s') → body x s (ctlK Kn Kf Kr)) (hd : ∀ s, I [] s → Kf s) : ∀ (xs : List α) (s : σ), I xs s → forW body Kf Kr xs s
  | [], s, h => hd s h
  | x :: xs, s, h => hs x xs s _ h fun s' h' => forW_go I hs hd xs s' h'
theorem compW_go {α β : Type} {body : α → W (Option β)} {K : List β → Prop} (I : List α → List β → Prop)
    (hs : ∀ x r acc (Kn : List β → Prop), I (x :: r) acc → (∀ a, I r a → Kn a) → body x (compK Kn acc)) (hd : ∀ acc, I [] acc → K acc) : ∀ (xs : List α) (acc : List β), I xs acc → compW body K xs acc
  | [], acc, h => hd acc h
  | x :: xs, acc, h => hs x xs acc _ h fun a h' => compW_go I hs hd xs a h'
/-- a comprehension without a test whose items are f x -/
theorem compW_map {α β : Type} {body : α → W (Option β)} {K : List β → Prop} (f : α → β) (xs : List α) (hs : ∀ x ∈ xs, ∀ K, K (some (f x)) → body x K) (h : K (xs.map f)) : compW body K xs [] := by
  have go : ∀ (ys : List α) (acc : List β), (∀ x ∈ ys, x ∈ xs) → acc ++ ys.map f = xs.map f → compW body K ys acc := by
    intro ys
    induction ys with
    | nil => intro acc _ e; rw [List.map_nil, List.append_nil] at e; rw [e]; exact h
    | cons y ys ih => intro acc hm e; exact hs y (hm y List.mem_cons_self) _ (ih (acc ++ [f y]) (fun x hx => hm x (List.mem_cons_of_mem _ hx)) (by rw [← e]; simp))
  exact go xs [] (fun _ h => h) (by simp)

/-! ### promises -/
/-- plain: what is handed in stays; a value out -/
def spW {ι ρ : Type} (n : Nat) (A : Hp → List V → ι → Prop) (er : Enc ρ) (m : ι → W ρ) : Sp := fun vs H Q _ => vs.length = n ∧ ∃ F i K, Le F H ∧ A F vs i ∧ m i K ∧ ∀ y, K y → ∀ v F' H', Le H H' → Le F' H' → Ex H F F' → er.rep F' v y → Q v H'
theorem hl_spW {ι ρ : Type} {n : Nat} {A : Hp → List V → ι → Prop} {er : Enc ρ} {m : ι → W ρ} : ∀ vs H Q E, spW n A er m vs H Q E → vs.length = n := fun _ _ _ _ h => h.1
/-- what is open, told by a model: at p, its objects N at the addresses as -/
structure Rsc (α : Type) where
  rep : Hp → Addr → List Addr → List (Addr × HO) → α → Prop
  mono : ∀ {F F' : Hp} {p : Addr} {as : List Addr} {N : List (Addr × HO)} {x : α}, Le F F' → rep F p as N x → rep F' p as N x
  dom : ∀ {F : Hp} {p : Addr} {as : List Addr} {N : List (Addr × HO)} {x : α}, rep F p as N x → N.map Prod.fst = as
/-- .. with open things W (handles h) that are changed -/
def spWm {ι ρ η : Type} (n : Nat) (A : Hp → η → List (Addr × HO) → List V → ι → Prop) (P : Hp → Hp → Hp → η → List (Addr × HO) → V → ρ → Prop) (m : ι → W ρ) : Sp := fun vs H Q _ => vs.length = n ∧ ∃ F h W i K, Le F H ∧ At F H W ∧ A F h W vs i ∧ m i K ∧
  ∀ y, K y → ∀ v F' H' W', W'.map Prod.fst = W.map Prod.fst → At F' H' W' → (∀ b o, b ∉ W.map Prod.fst → H b = some o → H' b = some o) → Le F' H' → Ex H F F' → P H F' H' h W' v y → Q v H'
theorem hl_spWm {ι ρ η : Type} {n : Nat} {A : Hp → η → List (Addr × HO) → List V → ι → Prop} {P : Hp → Hp → Hp → η → List (Addr × HO) → V → ρ → Prop} {m : ι → W ρ} : ∀ vs H Q E, spWm n A P m vs H Q E → vs.length = n := fun _ _ _ _ h => h.1
abbrev Exn := Str × Option (List (Str × V))
/-- an exception on its way -/
@[reducible] def ExnAt (mg : Str → Option Value) (H : Hp) (e : Exn) (E : XK) : Prop := match e.2 with
  | none => ∀ H', Le H H' → E (.ref (cad mg e.1)) none H'
  | some fs => ∀ d H', Le H H' → H d = none → H' d = some (.xd fs) → E (.ref (cad mg e.1)) (some d) H'
theorem ExnAt.up {mg : Str → Option Value} {H0 H : Hp} {e : Exn} {E : XK} (l : Le H0 H) (h : ExnAt mg H0 e E) : ExnAt mg H e E := by
  obtain ⟨x, fs⟩ := e
  cases fs with
  | none => exact fun H' l' => h H' (l.trans l')
  | some fs => exact fun d H' l' hd hf => h d H' (l.trans l') (none_of_le l hd) hf
@[reducible] def W.bindE {α γ : Type} (m : W (Except Exn α)) (inj : Exn → γ) (f : α → W γ) : W γ := fun K => m fun r => match r with | .ok y => f y K | .error e => K (inj e)
/-- that may raise -/
def spWX {ι ρ : Type} (mg : Str → Option Value) (n : Nat) (A : Hp → List V → ι → Prop) (er : Enc ρ) (m : ι → W (Except Exn ρ)) : Sp := fun vs H Q E => vs.length = n ∧ ∃ F i K, Le F H ∧ A F vs i ∧ m i K ∧ (∀ y, K (.ok y) → ∀ v F' H', Le H H' → Le F' H' → Ex H F F' → er.rep F' v y → Q v H') ∧ ∀ e, K (.error e) → ExnAt mg H e E
theorem hl_spWX {ι ρ : Type} {mg : Str → Option Value} {n : Nat} {A : Hp → List V → ι → Prop} {er : Enc ρ} {m : ι → W (Except Exn ρ)} : ∀ vs H Q E, spWX mg n A er m vs H Q E → vs.length = n := fun _ _ _ _ h => h.1
section
variable {B F H : Hp} {R : List (Addr × HO)} {ι ρ : Type} {n : Nat} {A : Hp → List V → ι → Prop} {er : Enc ρ} {vs rest : List V} {Q : VK} {E : XK} {mg : Str → Option Value}
theorem use_spW {m : ι → W ρ} {K : ρ → Prop} {i : ι} (O : Fz B F H R) (hl : vs.length = n) (hA : A F vs i) (k : m i K) (q : ∀ y v F' H', Ex B F F' → Fz B F' H' R → er.rep F' v y → K y → Q v H') : spW n A er m vs H Q E :=
  ⟨hl, F, i, K, O.leF, hA, k, fun y hy v F' H' l1 l2 e r => q y v F' H' (O.exC e) (O.call l1 l2 e) r hy⟩
theorem use_spWm {η : Type} {A : Hp → η → List (Addr × HO) → List V → ι → Prop} {P : Hp → Hp → Hp → η → List (Addr × HO) → V → ρ → Prop} {m : ι → W ρ} {K : ρ → Prop} {i : ι} {W : List (Addr × HO)} (h : η) (O : Fz B F H (W ++ R)) (hl : vs.length = n) (hA : A F h W vs i) (k : m i K)
    (q : ∀ y v F' H' W', Ex B F F' → Fz B F' H' (W' ++ R) → P H F' H' h W' v y → K y → Q v H') : spWm n A P m vs H Q E :=
  ⟨hl, F, h, W, i, K, O.leF, O.atOf (List.sublist_append_left _ _), hA, k, fun y hy v F' H' W' h2 h3 h5 h6 h7 h8 => q y v F' H' W' (O.exC h7) (O.callM h2 h3 h5 h6 h7) h8 hy⟩
/-- the end of such a def -/
theorem ret_m {η : Type} {P : Hp → Hp → Hp → η → List (Addr × HO) → V → ρ → Prop} {K : ρ → Prop} {h : η} {F' H' : Hp} {W W' : List (Addr × HO)} {v : V} (q : ∀ y, K y → ∀ v F' H' W', W'.map Prod.fst = W.map Prod.fst → At F' H' W' → (∀ b o, b ∉ W.map Prod.fst → H b = some o → H' b = some o) → Le F' H' → Ex H F F' → P H F' H' h W' v y → Q v H')
    (y : ρ) (k : K y) (O : Fz (dels H (W.map Prod.fst)) F' H' W') (e : W'.map Prod.fst = W.map Prod.fst) (lF : Ex (dels H (W.map Prod.fst)) F F') (hP : P H F' H' h W' v y) : Q v H' :=
  q y k v F' H' W' e (O.atOf (List.Sublist.refl _)) (keepM O.leB) O.leF (exM lF fun a ha => by
    rw [← e] at ha
    obtain ⟨x, hx, e2⟩ := List.mem_map.mp ha
    rw [← e2]
    exact O.nF x hx) hP
theorem app_dom {A A' M M' : List (Addr × HO)} (h1 : A'.map Prod.fst = A.map Prod.fst) (h2 : M'.map Prod.fst = M.map Prod.fst) : (A' ++ M').map Prod.fst = (A ++ M).map Prod.fst := by rw [List.map_append, List.map_append, h1, h2]
/-- a new open object out of a call -/
theorem Fz.newO {F' H' : Hp} {R' : List (Addr × HO)} {p : Addr} {o : HO} (O0 : Fz B F H R) (O : Fz B F' H' R') (e : R'.map Prod.fst = R.map Prod.fst) (hp : H p = none) (h : H' p = some o) (hF : F' p = none) : Fz B F' H' ((p, o) :: R') := by
  refine ⟨O.leB, O.leF, List.nodup_cons.mpr ⟨fun q => ?_, O.nd⟩, fun x hx => ?_, fun x hx => ?_, fun x hx => ?_⟩
  · rw [e] at q
    obtain ⟨x, hx, e2⟩ := List.mem_map.mp q
    have := O0.at_ x hx
    rw [e2, hp] at this
    cases this
  · rcases List.mem_cons.mp hx with rfl | hx
    · exact h
    · exact O.at_ x hx
  · rcases List.mem_cons.mp hx with rfl | hx
    · exact none_of_le O0.leB hp
    · exact O.nB x hx
  · rcases List.mem_cons.mp hx with rfl | hx
    · exact hF
    · exact O.nF x hx
theorem Fz.sel {W X : List (Addr × HO)} {R0 : List (Addr × HO)} (O : Fz B F H R) (p : R.Perm X) (e : W ++ R0 = X) : Fz B F H (W ++ R0) := e ▸ O.perm p
theorem Fz.unsel {W X Y : List (Addr × HO)} {R0 : List (Addr × HO)} (O : Fz B F H (W ++ R0)) (e : W ++ R0 = X) (p : X.Perm Y) : Fz B F H Y := (e ▸ O).perm p
theorem ap0 {α : Type} {r : List α} : [] ++ r = r := rfl
theorem apS {α : Type} {s w r x : List α} (h : w ++ r = x) : (s ++ w) ++ r = s ++ x := by rw [List.append_assoc, h]
theorem sb0 {α : Type} {y : List α} : List.Sublist [] y := List.nil_sublist y
theorem sbS {α : Type} {g x y : List α} (h : x.Sublist y) : (g ++ x).Sublist (g ++ y) := List.Sublist.append_left h g
/-- groups moved -/
theorem mv0 {α : Type} {a b : List α} : (a ++ b).Perm (a ++ b) := List.Perm.refl _
theorem mvS {α : Type} {g a x y : List α} (h : x.Perm (a ++ y)) : (g ++ x).Perm (a ++ (g ++ y)) := by
  refine (List.Perm.append_left g h).trans ?_
  rw [← List.append_assoc, ← List.append_assoc]
  exact List.Perm.append_right y List.perm_append_comm
/-- plain in, a new open list out -/
def spWo {ι α : Type} (n : Nat) (A : Hp → List V → ι → Prop) (er : Enc α) (m : ι → W (List α)) : Sp := fun vs H Q _ => vs.length = n ∧ ∃ F i K, Le F H ∧ A F vs i ∧ m i K ∧ ∀ y, K y → ∀ p c F' H', Le H H' → Le F' H' → Ex H F F' → H p = none → H' p = some (.lst c) → F' p = none → RL (er.rep F') c y → Q (.ref p) H'
theorem hl_spWo {ι α : Type} {n : Nat} {A : Hp → List V → ι → Prop} {er : Enc α} {m : ι → W (List α)} : ∀ vs H Q E, spWo n A er m vs H Q E → vs.length = n := fun _ _ _ _ h => h.1
theorem use_spWo {α : Type} {er : Enc α} {m : ι → W (List α)} {K : List α → Prop} {i : ι} (O : Fz B F H R) (hl : vs.length = n) (hA : A F vs i) (k : m i K) (q : ∀ y p c F' H', Ex B F F' → Fz B F' H' ([(p, .lst c)] ++ R) → RL (er.rep F') c y → K y → Q (.ref p) H') : spWo n A er m vs H Q E :=
  ⟨hl, F, i, K, O.leF, hA, k, fun y hy p c F' H' l1 l2 e h1 h2 h3 r => q y p c F' H' (O.exC e) (Fz.newO O (O.call l1 l2 e) rfl h1 h2 h3) r hy⟩
theorem use_spWX {m : ι → W (Except Exn ρ)} {K : Except Exn ρ → Prop} {i : ι} (O : Fz B F H R) (hl : vs.length = n) (hA : A F vs i) (k : m i K) (q : ∀ y v F' H', Ex B F F' → Fz B F' H' R → er.rep F' v y → K (.ok y) → Q v H') (qe : ∀ e, K (.error e) → ExnAt mg H e E) : spWX mg n A er m vs H Q E :=
  ⟨hl, F, i, K, O.leF, hA, k, fun y hy v F' H' l1 l2 e r => q y v F' H' (O.exC e) (O.call l1 l2 e) r hy, qe⟩
end

/-! ### steps -/
section
variable {K : PySem.W.Frag} {B F H : Hp} {R : List (Addr × HO)} {α β γ : Type} {e : Enc α} {e1 : Enc α} {e2 : Enc β} {e3 : Enc γ} {v : V} {x : Option α} {xs ys : List α} {Q : VK} {QT : Bool → Hp → Prop} {i : Int} {vs us : List V} {a p : Addr} {σ : L2.St} {ta tb : TE} {tt tu : TT}
/-- a new tuple, frozen -/
theorem y_tup (O : Fz B F H R) (hz : vs.length ≤ sizeLine) (q : ∀ p F' H', F' p = some (.tup vs) → Ex B F F' → Fz B F' H' R → Q (.ref p) H') : newT vs H Q := ⟨hz, fun p hp => q p _ _ upd_same (O.exN hp) (O.frz hp)⟩
theorem y_lstF (O : Fz B F H R) (hz : vs.length ≤ sizeLine) (q : ∀ p F' H', F' p = some (.lst vs) → Ex B F F' → Fz B F' H' R → Q (.ref p) H') : newL vs H Q := ⟨hz, fun p hp => q p _ _ upd_same (O.exN hp) (O.frz hp)⟩
theorem y_lstM (O : Fz B F H R) (hz : vs.length ≤ sizeLine) (q : ∀ p H', Fz B F H' ((p, .lst vs) :: R) → Q (.ref p) H') : newL vs H Q := ⟨hz, fun p hp => q p _ (O.mut hp)⟩
/-- tests -/
theorem y_isN [NN e] (h : (eOpt e).rep F v x) (q : Q (.bl x.isNone) H) : rIsN v .non H Q := ⟨rfl, by
  cases x with
  | none =>
    have hv : v = .non := h
    subst hv
    exact q
  | some y =>
    have hv : v ≠ .non := fun q => NN.nn (e := e) (F := F) (x := y) (by rw [q] at h; exact h)
    rw [decide_eq_false hv]
    exact q⟩
theorem y_notN [NN e] (h : (eOpt e).rep F v x) (q : Q (.bl (!x.isNone)) H) : rNotN v .non H Q := ⟨rfl, by
  cases x with
  | none =>
    have hv : v = .non := h
    subst hv
    exact q
  | some y =>
    have hv : v ≠ .non := fun q => NN.nn (e := e) (F := F) (x := y) (by rw [q] at h; exact h)
    rw [decide_eq_false hv]
    exact q⟩
theorem isNone_f {x : Option α} (h : x.isNone = false) : ∃ y, x = some y := by
  cases x with
  | none => cases h
  | some y => exact ⟨y, rfl⟩
theorem isNone_t {x : Option α} (h : x.isNone = true) : x = none := by
  cases x with
  | none => rfl
  | some y => cases h
theorem y_eqI {i j : Int} (q : Q (.bl (decide (i = j))) H) : rEq (.int i) (.int j) H Q := ⟨rfl, by
  have e : decide (V.int i = V.int j) = decide (i = j) := decide_eq_decide.mpr ⟨V.int.inj, fun h => h ▸ rfl⟩
  rw [e]; exact q⟩
theorem y_neI {i j : Int} (q : Q (.bl (!decide (i = j))) H) : rNe (.int i) (.int j) H Q := ⟨rfl, by
  have e : decide (V.int i = V.int j) = decide (i = j) := decide_eq_decide.mpr ⟨V.int.inj, fun h => h ▸ rfl⟩
  rw [e]; exact q⟩
theorem y_eqS {i j : Str} (q : Q (.bl (decide (i = j))) H) : rEq (.str i) (.str j) H Q := ⟨rfl, by
  have e : decide (V.str i = V.str j) = decide (i = j) := decide_eq_decide.mpr ⟨V.str.inj, fun h => h ▸ rfl⟩
  rw [e]; exact q⟩
theorem y_neS {i j : Str} (q : Q (.bl (!decide (i = j))) H) : rNe (.str i) (.str j) H Q := ⟨rfl, by
  have e : decide (V.str i = V.str j) = decide (i = j) := decide_eq_decide.mpr ⟨V.str.inj, fun h => h ▸ rfl⟩
  rw [e]; exact q⟩
/-- sizes, truth -/
theorem y_lenL (l : Le F H) (h : (eLst e).rep F v xs) (q : Q (.int xs.length) H) : rLen K [v] H Q := by
  obtain ⟨a, vs, rfl, ha, r⟩ := h
  exact x_lenL (l _ _ ha) (by rw [r.len]; exact q)
theorem y_lenT (l : Le F H) (h : (eTup e).rep F v xs) (q : Q (.int xs.length) H) : rLen K [v] H Q := by
  obtain ⟨a, vs, rfl, ha, r⟩ := h
  exact x_lenT (l _ _ ha) (by rw [r.len]; exact q)
theorem isE_len {vs : List V} {xs : List α} (h : vs.length = xs.length) : vs.isEmpty = xs.isEmpty := by
  cases vs <;> cases xs <;> simp_all
theorem y_truL {P : Bool → Prop} (l : Le F H) (h : (eLst e).rep F v xs) (q : P (!xs.isEmpty)) : ∃ k, TruV K v H k ∧ P k := by
  obtain ⟨a, vs, rfl, ha, r⟩ := h
  exact x_truL (l _ _ ha) (by rw [isE_len r.len]; exact q)
theorem y_truS {P : Bool → Prop} {z : Str} (h : z.length ≤ sizeLine) (q : P (!decide (z.length = 0))) : ∃ k, TruV K (.str z) H k ∧ P k := x_truS h (by
  have e : ((z.length : Int) != 0) = !decide (z.length = 0) := by
    by_cases h : z.length = 0
    · rw [h]; rfl
    · rw [decide_eq_false h]
      have h2 : ((z.length : Int)) ≠ 0 := by omega
      exact bne_iff_ne.mpr h2
  rw [e]; exact q)
theorem y_truI {P : Bool → Prop} {i : Int} (q : P (!decide (i = 0))) : ∃ k, TruV K (.int i) H k ∧ P k := x_truI (by
  have e : (i != 0) = !decide (i = 0) := by
    by_cases h : i = 0
    · rw [h]; rfl
    · rw [decide_eq_false h]; simp [h]
  rw [e]; exact q)
/-- items -/
theorem atI_RL {P : V → α → Prop} {y : α} (r : RL P vs xs) (h : atI xs i = some y) : ∃ u, atI vs i = some u ∧ P u y := by
  unfold atI at h ⊢
  rw [r.len]
  cases e : ixN xs.length i with
  | none => rw [e] at h; cases h
  | some k =>
    rw [e] at h
    exact r.at h
theorem y_ixL {y : α} (l : Le F H) (h : (eLst e).rep F v xs) (hi : atI xs i = some y) (q : ∀ u, e.rep F u y → Q u H) : rIxL K v (.int i) H Q := by
  obtain ⟨a, vs, rfl, ha, r⟩ := h
  obtain ⟨u, h1, h2⟩ := atI_RL r hi
  exact x_ixL (l _ _ ha) h1 (q u h2)
theorem y_ixT {y : α} (l : Le F H) (h : (eTup e).rep F v xs) (hi : atI xs i = some y) (q : ∀ u, e.rep F u y → Q u H) : rIxT K v (.int i) H Q := by
  obtain ⟨a, vs, rfl, ha, r⟩ := h
  obtain ⟨u, h1, h2⟩ := atI_RL r hi
  exact x_ixT (l _ _ ha) h1 (q u h2)
def cS (z : Str) (i : Int) : Nat := (atI (tl z) i).getD 0
theorem y_ixS {z : Str} (hz : z.length ≤ sizeLine) (hi : ∃ c, atI (tl z) i = some c) (q : Q (.str ⟨#[cS z i]⟩) H) : rIxS (.str z) (.int i) H Q := by
  obtain ⟨c, hc⟩ := hi
  refine x_ixS hz hc ?_
  have e : cS z i = c := by unfold cS; rw [hc]; rfl
  rw [e] at q
  exact q
section
variable {x2 : α × β} {x3 : α × β × γ}
theorem y_ix20 (l : Le F H) (h : (eP2 e1 e2).rep F v x2) (q : ∀ u, e1.rep F u x2.1 → Q u H) : rIxT K v (.int 0) H Q := by
  obtain ⟨a, v1, v2, rfl, h0, h1, h2⟩ := h
  exact x_ixT (l _ _ h0) rfl (q _ h1)
theorem y_ix21 (l : Le F H) (h : (eP2 e1 e2).rep F v x2) (q : ∀ u, e2.rep F u x2.2 → Q u H) : rIxT K v (.int 1) H Q := by
  obtain ⟨a, v1, v2, rfl, h0, h1, h2⟩ := h
  exact x_ixT (l _ _ h0) rfl (q _ h2)
theorem y_ix30 (l : Le F H) (h : (eP3 e1 e2 e3).rep F v x3) (q : ∀ u, e1.rep F u x3.1 → Q u H) : rIxT K v (.int 0) H Q := by
  obtain ⟨a, v1, v2, v3, rfl, h0, h1, h2, h3⟩ := h
  exact x_ixT (l _ _ h0) rfl (q _ h1)
theorem y_ix31 (l : Le F H) (h : (eP3 e1 e2 e3).rep F v x3) (q : ∀ u, e2.rep F u x3.2.1 → Q u H) : rIxT K v (.int 1) H Q := by
  obtain ⟨a, v1, v2, v3, rfl, h0, h1, h2, h3⟩ := h
  exact x_ixT (l _ _ h0) rfl (q _ h2)
theorem y_ix32 (l : Le F H) (h : (eP3 e1 e2 e3).rep F v x3) (q : ∀ u, e3.rep F u x3.2.2 → Q u H) : rIxT K v (.int 2) H Q := by
  obtain ⟨a, v1, v2, v3, rfl, h0, h1, h2, h3⟩ := h
  exact x_ixT (l _ _ h0) rfl (q _ h3)
/-- a, b = pair -/
theorem g_cons {t : TG} {u : TGs} {r : List V} {QS : L2.St → Hp → Prop} (q : t v σ H fun σ' H' => u r σ' H' QS) : gCons t u (v :: r) σ H QS := ⟨v, r, rfl, q⟩
theorem g_nil {QS : L2.St → Hp → Prop} (q : QS σ H) : gNil [] σ H QS := ⟨rfl, q⟩
theorem y_un2 {t : TGs} {QS : L2.St → Hp → Prop} (l : Le F H) (h : (eP2 e1 e2).rep F v x2) (q : ∀ u1 u2, e1.rep F u1 x2.1 → e2.rep F u2 x2.2 → t [u1, u2] σ H QS) : gTup K 2 t v σ H QS := by
  obtain ⟨a, v1, v2, rfl, h0, h1, h2⟩ := h
  exact ⟨a, [v1, v2], rfl, SqT.of (l _ _ h0), rfl, q v1 v2 h1 h2⟩
theorem y_un3 {t : TGs} {QS : L2.St → Hp → Prop} (l : Le F H) (h : (eP3 e1 e2 e3).rep F v x3) (q : ∀ u1 u2 u3, e1.rep F u1 x3.1 → e2.rep F u2 x3.2.1 → e3.rep F u3 x3.2.2 → t [u1, u2, u3] σ H QS) : gTup K 3 t v σ H QS := by
  obtain ⟨a, v1, v2, v3, rfl, h0, h1, h2, h3⟩ := h
  exact ⟨a, [v1, v2, v3], rfl, SqT.of (l _ _ h0), rfl, q v1 v2 v3 h1 h2 h3⟩
end
/-- append -/
theorem y_app {P : V → α → Prop} {x : α} (O : Fz B F H R) (j : Nat) (hj : R[j]? = some (p, .lst vs)) (hz : vs.length < sizeLine) (q : ∀ H', Fz B F H' (R.set j (p, .lst (vs ++ [v]))) → Q .non H') : rAppend (.ref p) [v] H Q :=
  ⟨p, vs, v, rfl, rfl, O.get j hj, hz, q _ (O.put j hj _)⟩
/-- tuple(..) of a list -/
theorem y_tupOfL (O : Fz B F H R) (h : (eLst e).rep F v xs) (q : ∀ p F' H', (eTup e).rep F' (.ref p) xs → Ex B F F' → Fz B F' H' R → Q (.ref p) H') : rTupOf K [v] H Q := by
  obtain ⟨a, vs, rfl, ha, r⟩ := h
  exact ⟨a, vs, rfl, .inl ⟨SqL.of (O.leF _ _ ha), fun p hp => q p _ _ ⟨p, vs, rfl, upd_same, r.mono fun _ _ => e.mono (O.exN hp).le⟩ (O.exN hp) (O.frz hp)⟩⟩
theorem y_tupOfT (O : Fz B F H R) (h : (eTup e).rep F v xs) (q : Q v H) : rTupOf K [v] H Q := by
  obtain ⟨a, vs, rfl, ha, r⟩ := h
  exact ⟨a, vs, rfl, .inr ⟨SqT.of (O.leF _ _ ha), q⟩⟩
/-- .. of an open one: it is read as if it were frozen -/
theorem y_tupOfM (O : Fz B F H R) (j : Nat) (hj : R[j]? = some (p, .lst vs)) (r : RL (e.rep F) vs xs) (q : ∀ p F' H', (eTup e).rep F' (.ref p) xs → Ex B F F' → Fz B F' H' R → Q (.ref p) H') : rTupOf K [.ref p] H Q :=
  ⟨p, vs, rfl, .inl ⟨SqL.of (O.get j hj), fun t ht => q t _ _ ⟨t, vs, rfl, upd_same, r.mono fun _ _ => e.mono (O.exN ht).le⟩ (O.exN ht) (O.frz ht)⟩⟩
/-- list(..) -/
theorem y_listOfF (O : Fz B F H R) (h : (eLst e).rep F v xs ∨ (eTup e).rep F v xs) (q : ∀ p F' H', (eLst e).rep F' (.ref p) xs → Ex B F F' → Fz B F' H' R → Q (.ref p) H') : rListOf K [v] H Q := by
  rcases h with ⟨a, vs, rfl, ha, r⟩ | ⟨a, vs, rfl, ha, r⟩
  · exact ⟨a, vs, rfl, .inl (SqL.of (O.leF _ _ ha)), fun t ht => q t _ _ ⟨t, vs, rfl, upd_same, r.mono fun _ _ => e.mono (O.exN ht).le⟩ (O.exN ht) (O.frz ht)⟩
  · exact ⟨a, vs, rfl, .inr (SqT.of (O.leF _ _ ha)), fun t ht => q t _ _ ⟨t, vs, rfl, upd_same, r.mono fun _ _ => e.mono (O.exN ht).le⟩ (O.exN ht) (O.frz ht)⟩
theorem y_listOfM (O : Fz B F H R) (h : (eLst e).rep F v xs ∨ (eTup e).rep F v xs) (q : ∀ p vs H', RL (e.rep F) vs xs → Fz B F H' ((p, .lst vs) :: R) → Q (.ref p) H') : rListOf K [v] H Q := by
  rcases h with ⟨a, vs, rfl, ha, r⟩ | ⟨a, vs, rfl, ha, r⟩
  · exact ⟨a, vs, rfl, .inl (SqL.of (O.leF _ _ ha)), fun t ht => q t vs _ r (O.mut ht)⟩
  · exact ⟨a, vs, rfl, .inr (SqT.of (O.leF _ _ ha)), fun t ht => q t vs _ r (O.mut ht)⟩
/-- list + list, list * n -/
theorem y_catF {v w : V} (O : Fz B F H R) (h1 : (eLst e).rep F v xs) (h2 : (eLst e).rep F w ys) (hz : xs.length + ys.length ≤ sizeLine) (q : ∀ p F' H', (eLst e).rep F' (.ref p) (xs ++ ys) → Ex B F F' → Fz B F' H' R → Q (.ref p) H') : rCat v w H Q := by
  obtain ⟨a, vs, rfl, ha, r⟩ := h1
  obtain ⟨b, us, rfl, hb, s⟩ := h2
  exact ⟨a, b, vs, us, rfl, rfl, O.leF _ _ ha, O.leF _ _ hb, by rw [r.len, s.len]; exact hz, fun p hp => q p _ _ ⟨p, vs ++ us, rfl, upd_same, (r.app s).mono fun _ _ => e.mono (O.exN hp).le⟩ (O.exN hp) (O.frz hp)⟩
theorem y_repF {n : Int} (O : Fz B F H R) (h1 : (eLst e).rep F v xs) (h2 : -(2 ^ 63) ≤ n ∧ n < 2 ^ 63) (hz : xs.length * n.toNat ≤ sizeLine) (q : ∀ p F' H', (eLst e).rep F' (.ref p) (List.replicate n.toNat xs).flatten → Ex B F F' → Fz B F' H' R → Q (.ref p) H') : rRep v (.int n) H Q := by
  obtain ⟨a, vs, rfl, ha, r⟩ := h1
  exact ⟨a, n, vs, rfl, rfl, O.leF _ _ ha, h2.1, h2.2, by rw [r.len]; exact hz, fun p hp => q p _ _ ⟨p, _, rfl, upd_same, (r.rep _).mono fun _ _ => e.mono (O.exN hp).le⟩ (O.exN hp) (O.frz hp)⟩
/-- slices -/
def cutT {α : Type} (xs : List α) (lo hi : Option Int) : List α := (xs.drop (HT.sIx xs.length 0 lo)).take (HT.sIx xs.length xs.length hi - HT.sIx xs.length 0 lo)
theorem RL.cut {P : V → α → Prop} (r : RL P vs xs) (lo hi : Option Int) : RL P (cutV vs lo hi) (cutT xs lo hi) := by
  unfold cutV cutT
  rw [r.len]
  exact (r.drop _).take _
theorem y_slLF {lo hi : Option Int} (O : Fz B F H R) (h : (eLst e).rep F v xs) (q : ∀ p F' H', (eLst e).rep F' (.ref p) (cutT xs lo hi) → Ex B F F' → Fz B F' H' R → Q (.ref p) H') : rSlL K v lo hi H Q := by
  obtain ⟨a, vs, rfl, ha, r⟩ := h
  exact ⟨a, vs, rfl, SqL.of (O.leF _ _ ha), fun p hp => q p _ _ ⟨p, _, rfl, upd_same, (r.cut lo hi).mono fun _ _ => e.mono (O.exN hp).le⟩ (O.exN hp) (O.frz hp)⟩
theorem y_splitF {a b : Str} (O : Fz B F H R) (hb : (b.length == 0) = false) (ha : a.length + 2 ≤ sizeLine) (q : ∀ p F' H', (eLst eStr).rep F' (.ref p) (Txt.split a b) → Ex B F F' → Fz B F' H' R → Q (.ref p) H') : rSplit (.str a) [.str b] H Q :=
  ⟨a, b, rfl, rfl, hb, ha, fun p hp => q p _ _ ⟨p, _, rfl, upd_same, RL.ofMap (f := V.str) (fun _ => rfl) _⟩ (O.exN hp) (O.frz hp)⟩
theorem y_joinL {z : Str} {zs : List Str} (l : Le F H) (h : (eLst eStr).rep F v zs) (hz : (zs.map (·.length)).sum + zs.length * z.length ≤ 16777216) (q : Q (.str (Txt.join z zs)) H) : rJoin K (.str z) [v] H Q := by
  obtain ⟨a, vs, rfl, ha, r⟩ := h
  have e := r.mapV (f := V.str) fun _ _ h => h
  subst e
  exact x_joinL zs (l _ _ ha) hz q
theorem y_allL {QA : Bool → Prop} {bs : List Bool} (l : Le F H) (h : (eLst eBool).rep F v bs) : ∃ p, v = .ref p ∧ SqL K H p (bs.map V.bl) := by
  obtain ⟨a, vs, rfl, ha, r⟩ := h
  have e := r.mapV (f := V.bl) fun _ _ h => h
  subst e
  exact ⟨a, rfl, SqL.of (l _ _ ha)⟩
/-- and, or: the second operand without a further effect -/
theorem y_and {b c : Bool} (ha : ∀ Q : VK, Q (.bl b) H → ta σ H Q) (hb : b = true → ∀ Q : VK, Q (.bl c) H → tb σ H Q) (q : Q (.bl (b && c)) H) : tAndV ta tb σ H Q := ha _ ⟨b, rfl, by
  cases b with
  | true => exact hb rfl _ q
  | false => exact q⟩
theorem y_or {b c : Bool} (ha : ∀ Q : VK, Q (.bl b) H → ta σ H Q) (hb : b = false → ∀ Q : VK, Q (.bl c) H → tb σ H Q) (q : Q (.bl (b || c)) H) : tOrV ta tb σ H Q := ha _ ⟨b, rfl, by
  cases b with
  | false => exact hb rfl _ q
  | true => exact q⟩
end
end NF

/-! Loops and comprehensions beside their models. -/
namespace NF
open PySem PySem.Spec PyProof.Rows L2 TL

abbrev sg (c : Nat) : Str := ⟨#[c]⟩
def eChr : Enc Nat := ⟨fun _ v x => v = .str (sg x), fun _ h => h⟩
/-- what J walks, by its model xs, where S tells what stays open -/
structure TW {α : Type} (F : Hp) (S : List (Addr × HO) → Prop) (J : It) (xs : List α) (e : Enc α) : Prop where
  ex : ∃ (G : Hp → Prop) (Y : Nat → Hp → V → Hp → Prop), L2.Walk J xs.length G Y ∧ (∀ B F' H R, Fz B F' H R → Le F F' → S R → G H) ∧
    ∀ i H v H' B F' R x, xs[i]? = some x → Y i H v H' → Fz B F' H R → Le F F' → ∃ F'', Fz B F'' H' R ∧ Ex B F' F'' ∧ e.rep F'' v x
  up : ∀ x R, S R → S (x :: R)
abbrev S0 : List (Addr × HO) → Prop := fun _ => True
section
variable {K : PySem.W.Frag} {B F H : Hp} {R : List (Addr × HO)} {α β : Type} {e : Enc α} {v : V} {xs : List α} {a : Addr} {z : Str}
theorem tw_list {vs : List V} {G : Hp → Prop} {J : It} (W : L2.Walk J vs.length G (YAt vs)) {S : List (Addr × HO) → Prop} (hG : ∀ B F' H R, Fz B F' H R → Le F F' → S R → G H) (up : ∀ x R, S R → S (x :: R)) (r : RL (e.rep F) vs xs) : TW F S J xs e := ⟨⟨G, _, by rw [← r.len]; exact W, hG, fun i H v H' B F' R x hx y O l => by
  obtain ⟨rfl, hv⟩ := y
  obtain ⟨u, hu, hr⟩ := r.at hx
  rw [hu] at hv
  cases hv
  exact ⟨F', O, Ex.rfl, e.mono l hr⟩⟩, up⟩
theorem TW.list {vs : List V} (h : F a = some (.lst vs)) (r : RL (e.rep F) vs xs) : TW F S0 (Itl K a) xs e := tw_list walk_list (fun B F' H R O l _ => SqL.of (O.leF _ _ (l _ _ h))) (fun _ _ _ => trivial) r
theorem TW.listO {vs : List V} (r : RL (e.rep F) vs xs) : TW F (fun R => (a, HO.lst vs) ∈ R) (Itl K a) xs e := tw_list walk_list (fun B F' H R O l h => SqL.of (O.at_ (a, .lst vs) h)) (fun _ _ h => List.mem_cons_of_mem _ h) r
theorem TW.tup {vs : List V} (h : F a = some (.tup vs)) (r : RL (e.rep F) vs xs) : TW F S0 (Itt K a) xs e := tw_list walk_tup (fun B F' H R O l _ => SqT.of (O.leF _ _ (l _ _ h))) (fun _ _ _ => trivial) r
theorem TW.chr : TW F S0 (Its z) (tl z) eChr := ⟨⟨_, _, by rw [show (tl z).length = z.cps.size from Array.length_toList]; exact walk_str, fun _ _ _ _ _ _ _ => trivial, fun i H v H' B F' R x hx y O l => by
  obtain ⟨rfl, c, hc, rfl⟩ := y
  have e := tl_at hc
  rw [hx] at e
  exact ⟨F', O, Ex.rfl, by rw [Option.some.inj e]; rfl⟩⟩, fun _ _ _ => trivial⟩
def rngT (lo hi : Int) : List Int := (List.range (hi - lo).toNat).map fun i : Nat => lo + (i : Int)
theorem rngT_len (lo hi : Int) : (rngT lo hi).length = (hi - lo).toNat := by unfold rngT; rw [List.length_map, List.length_range]
theorem TW.rng {lo hi : Int} : TW F S0 (Itr lo (hi - lo).toNat) (rngT lo hi) eInt := ⟨⟨_, _, by rw [rngT_len]; exact walk_range, fun _ _ _ _ _ _ _ => trivial, fun i H v H' B F' R x hx y O l => by
  obtain ⟨rfl, rfl⟩ := y
  unfold rngT at hx
  rw [List.getElem?_map] at hx
  obtain ⟨j, hj, rfl⟩ := Option.map_eq_some_iff.mp hx
  obtain ⟨h1, h2⟩ := List.getElem?_eq_some_iff.mp hj
  rw [List.getElem_range] at h2
  subst h2
  exact ⟨F', O, Ex.rfl, rfl⟩⟩, fun _ _ _ => trivial⟩
/-- pairs that are made on the way -/
theorem tw_pair {J : It} {e1 : Enc α} {e2 : Enc β} {zs : List (α × β)} {f g : Nat → Option V} {n : Nat} {G : Hp → Prop} {S : List (Addr × HO) → Prop} (W : L2.Walk J n G (YPair f g)) (hn : n = zs.length) (hG : ∀ B F' H R, Fz B F' H R → Le F F' → S R → G H) (up : ∀ x R, S R → S (x :: R))
    (h : ∀ i x, zs[i]? = some x → ∀ u1 u2, f i = some u1 → g i = some u2 → e1.rep F u1 x.1 ∧ e2.rep F u2 x.2) : TW F S J zs (eP2 e1 e2) := ⟨⟨G, _, by rw [← hn]; exact W, hG, fun i H v H' B F' R x hx y O l => by
  obtain ⟨T, u1, u2, rfl, hT, rfl, h1, h2⟩ := y
  obtain ⟨r1, r2⟩ := h i x hx u1 u2 h1 h2
  have l2 := l.trans (O.exN (o := .tup [u1, u2]) hT).le
  exact ⟨_, O.frz hT, O.exN hT, T, u1, u2, rfl, upd_same, e1.mono l2 r1, e2.mono l2 r2⟩⟩, up⟩
def enumT (xs : List α) : List (Int × α) := xs.zipIdx.map fun p => ((p.2 : Int), p.1)
theorem enumT_len (xs : List α) : (enumT xs).length = xs.length := by unfold enumT; rw [List.length_map, List.length_zipIdx]
theorem enumT_at {xs : List α} {i : Nat} {x : Int × α} (h : (enumT xs)[i]? = some x) : x.1 = (i : Int) ∧ xs[i]? = some x.2 := by
  unfold enumT at h
  rw [List.getElem?_map] at h
  obtain ⟨p, hp, rfl⟩ := Option.map_eq_some_iff.mp h
  rw [List.getElem?_zipIdx] at hp
  obtain ⟨y, hy, rfl⟩ := Option.map_eq_some_iff.mp hp
  simp [hy]
theorem TW.enumL {vs : List V} (h : F a = some (.lst vs)) (r : RL (e.rep F) vs xs) : TW F S0 (Ite K a) (enumT xs) (eP2 eInt e) :=
  tw_pair walk_enum (by rw [enumT_len, r.len]) (fun B F' H R O l _ => SqL.of (O.leF _ _ (l _ _ h))) (fun _ _ _ => trivial) fun i x hx u1 u2 h1 h2 => by
    obtain ⟨e1, e2⟩ := enumT_at hx
    obtain ⟨u, hu, hr⟩ := r.at e2
    rw [hu] at h2
    cases h1
    cases h2
    exact ⟨by rw [e1]; rfl, hr⟩
theorem TW.enumS : TW F S0 (Ites z) (enumT (tl z)) (eP2 eInt eChr) := ⟨⟨fun _ => True, fun i H v H' => ∃ T c, v = .ref T ∧ H T = none ∧ H' = upd H T (.tup [.int (i : Nat), .str ⟨#[c]⟩]) ∧ z.cps[i]? = some c, ⟨fun i H hi _ => by rw [enumT_len] at hi; exact (by rwa [show (tl z).length = z.cps.size from Array.length_toList] at hi), fun H _ => by rw [enumT_len]; exact Array.length_toList, fun i H x H' _ _ y => y⟩, fun _ _ _ _ _ _ _ => trivial, fun i H v H' B F' R x hx y O l => by
  obtain ⟨T, c, rfl, hT, rfl, hc⟩ := y
  obtain ⟨e1, e2⟩ := enumT_at hx
  rw [tl_at hc] at e2
  exact ⟨_, O.frz hT, O.exN hT, T, _, _, rfl, upd_same, by rw [e1]; rfl, by rw [← Option.some.inj e2]; rfl⟩⟩, fun _ _ _ => trivial⟩
theorem TW.zipL {ys : List β} {e2 : Enc β} {b : Addr} {vs us : List V} (h : F a = some (.lst vs)) (r : RL (e.rep F) vs xs) (h2 : F b = some (.lst us)) (s : RL (e2.rep F) us ys) : TW F S0 (Itz K a b) (xs.zip ys) (eP2 e e2) :=
  tw_pair (walk_zip rfl) (by rw [List.length_zip, r.len, s.len]) (fun B F' H R O l _ => ⟨SqL.of (O.leF _ _ (l _ _ h)), SqL.of (O.leF _ _ (l _ _ h2))⟩) (fun _ _ _ => trivial) fun i x hx u1 u2 h1 h2 => by
    rw [List.getElem?_zip_eq_some] at hx
    obtain ⟨w1, hw1, r1⟩ := r.at hx.1
    obtain ⟨w2, hw2, r2⟩ := s.at hx.2
    rw [hw1] at h1
    rw [hw2] at h2
    cases h1
    cases h2
    exact ⟨r1, r2⟩
theorem dropW_at {n : Nat} (xs : List α) (h : n < xs.length) : ∃ x, xs[n]? = some x ∧ xs.drop n = x :: xs.drop (n + 1) := ⟨xs[n], by simp [h], by rw [List.drop_eq_getElem_cons h]⟩

/-! ### for -/
section
variable {σt ρ : Type} {body : α → σt → W (Ctl σt ρ)} {Kf : σt → Prop} {Kr : ρ → Prop} {s0 : σt} {J : It} {σ : L2.St} {g : TG} {tb : TS} {nx bk ct : L2.St → Hp → Prop} {rt : VK}
/-- what holds ahead of the turn for the first of r -/
@[reducible] def NxW (B F : Hp) (body : α → σt → W (Ctl σt ρ)) (Kf : σt → Prop) (Kr : ρ → Prop) (I : σt → L2.St → Hp → List (Addr × HO) → Prop) (r : List α) (σ : L2.St) (H : Hp) : Prop :=
  ∃ s F' R, Ex B F F' ∧ Fz B F' H R ∧ I s σ F' R ∧ forW body Kf Kr r s
theorem y_for {S : List (Addr × HO) → Prop} (I : σt → L2.St → Hp → List (Addr × HO) → Prop) (T : TW F S J xs e) (hS : ∀ s σ F' R', I s σ F' R' → S R') (O : Fz B F H R) (k : forW body Kf Kr xs s0) (h0 : I s0 σ F R)
    (hs : ∀ x r s σ F0 F' R' H' v, Ex B F F0 → I s σ F0 R' → Ex B F0 F' → Fz B F' H' R' → e.rep F' v x → body x s (ctlK (forW body Kf Kr r) Kf Kr) → g v σ H' fun σ2 H2 => tb ⟨NxW B F body Kf Kr I r, rt, nx, NxW B F body Kf Kr I r⟩ σ2 H2)
    (hd : ∀ s σ F' R' H', Ex B F F' → Fz B F' H' R' → I s σ F' R' → Kf s → nx σ H') : forR g tb ⟨nx, rt, bk, ct⟩ σ J H := by
  obtain ⟨G, Y, W, hG, hy⟩ := T.ex
  refine for_it W (fun i σ H' => NxW B F body Kf Kr I (xs.drop i) σ H') ⟨s0, F, R, Ex.rfl, O, h0, by rw [List.drop_zero]; exact k⟩ ?_ ?_ ?_
  · rintro i σ H' _ ⟨s, F', R', l, O', hI, _⟩
    exact hG _ _ _ _ O' l.le (hS _ _ _ _ hI)
  · rintro i v σ H1 H2 hi ⟨s, F0, R', l, O', hI, kk⟩ y
    obtain ⟨x, hx, hd⟩ := dropW_at xs hi
    obtain ⟨F', O2, l2, hr⟩ := hy i H1 v H2 B F0 R' x hx y O' l.le
    rw [hd] at kk
    exact hs x _ s σ F0 F' R' H2 v l hI l2 O2 hr kk
  · rintro σ H' ⟨s, F', R', l, O', hI, kk⟩
    rw [List.drop_length] at kk
    exact hd s σ F' R' H' l O' hI kk
end
/-! ### comprehensions -/
section
variable {body : α → W (Option β)} {K1 : List β → Prop} {er : Enc β} {J : It} {σ : L2.St} {g : TG} {tt : TT} {te : TE} {ws : List Nat} {Q : VK}
/-- what holds ahead of the turn for the first of r, i turns behind it -/
@[reducible] def PvC (B F : Hp) (body : α → W (Option β)) (K1 : List β → Prop) (er : Enc β) (I : Hp → List (Addr × HO) → Prop) (p : Addr) (r : List α) (i : Nat) (H : Hp) : Prop :=
  ∃ F' R' acc accT, Ex B F F' ∧ I F' R' ∧ Fz B F' H ((p, .lst acc) :: R') ∧ RL (er.rep F') acc accT ∧ acc.length ≤ i ∧ compW body K1 r accT
/-- the end of a turn with an item -/
@[reducible] def cE (B F : Hp) (body : α → W (Option β)) (K1 : List β → Prop) (er : Enc β) (I : Hp → List (Addr × HO) → Prop) (p : Addr) (r : List α) (i : Nat) : VK := fun y H =>
  ∃ acc, H p = some (.lst acc) ∧ acc.length < sizeLine ∧ PvC B F body K1 er I p r (i + 1) (upd H p (.lst (acc ++ [y])))
theorem cE_mk {I : Hp → List (Addr × HO) → Prop} {p : Addr} {r : List α} {i : Nat} {acc : List V} {accT : List β} {y : V} {yT : β} {F' : Hp} {R' : List (Addr × HO)} (hi : i < sizeLine) (l : Ex B F F') (hI : I F' R') (O : Fz B F' H ((p, .lst acc) :: R')) (ha : RL (er.rep F') acc accT) (hl : acc.length ≤ i) (hy : er.rep F' y yT)
    (k : compW body K1 r (accT ++ [yT])) : cE B F body K1 er I p r i y H :=
  ⟨acc, O.get 0 rfl, Nat.lt_of_le_of_lt hl hi, F', R', acc ++ [y], accT ++ [yT], l, hI, O.put 0 rfl _, ha.snoc hy, by rw [List.length_append]; exact Nat.add_le_add hl (Nat.le_refl 1), k⟩
theorem cN_mk {I : Hp → List (Addr × HO) → Prop} {p : Addr} {r : List α} {i : Nat} {acc : List V} {accT : List β} {F' : Hp} {R' : List (Addr × HO)} (l : Ex B F F') (hI : I F' R') (O : Fz B F' H ((p, .lst acc) :: R')) (ha : RL (er.rep F') acc accT) (hl : acc.length ≤ i)
    (k : compW body K1 r accT) : PvC B F body K1 er I p r (i + 1) H := ⟨F', R', acc, accT, l, hI, O, ha, by omega, k⟩
theorem y_comp {S : List (Addr × HO) → Prop} (I : Hp → List (Addr × HO) → Prop) (T : TW F S J xs e) (hS : ∀ F' R', I F' R' → S R') (O : Fz B F H R) (k : compW body K1 xs []) (hz : xs.length ≤ sizeLine) (h0 : I F R)
    (hs : ∀ i x r p acc accT F0 F' R' H' v, i < sizeLine → Ex B F F0 → I F0 R' → RL (er.rep F0) acc accT → acc.length ≤ i → Ex B F0 F' → Fz B F' H' ((p, .lst acc) :: R') → e.rep F' v x → body x (compK (compW body K1 r) accT) →
      g v (wipe σ ws) H' fun σ2 H2 => wipe σ2 ws = wipe σ ws ∧ tt σ2 H2 fun b H3 => if b = true then te σ2 H3 (cE B F body K1 er I p r i) else PvC B F body K1 er I p r (i + 1) H3)
    (hd : ∀ p F' R' acc accT H', Ex B F F' → I F' R' → Fz B F' H' ((p, .lst acc) :: R') → RL (er.rep F') acc accT → K1 accT → Q (.ref p) H') : lcR g tt te ws σ Q J H := by
  obtain ⟨G, Y, W, hG, hy⟩ := T.ex
  intro p hp
  refine lc_it W (fun i H' => PvC B F body K1 er I p (xs.drop i) i H') ⟨F, R, [], [], Ex.rfl, h0, O.mut hp, .nil, Nat.le_refl _, by rw [List.drop_zero]; exact k⟩ ?_ ?_ ?_
  · rintro i H' _ ⟨F', R', acc, accT, l, hI, O', _⟩
    exact hG _ _ _ _ O' l.le (T.up _ _ (hS _ _ hI))
  · rintro i v H1 H2 hi ⟨F0, R', acc, accT, l, hI, O', ha, hl, kk⟩ y
    obtain ⟨x, hx, hd⟩ := dropW_at xs hi
    obtain ⟨F', O2, l2, hr⟩ := hy i H1 v H2 B F0 _ x hx y O' l.le
    rw [hd] at kk
    exact hs i x _ p acc accT F0 F' R' H2 v (by omega) l hI ha hl l2 O2 hr kk
  · rintro H' ⟨F', R', acc, accT, l, hI, O', ha, hl, kk⟩
    rw [List.drop_length] at kk
    exact hd p F' R' acc accT H' l hI O' ha kk
end
end
/-! the iterators by what is handed in -/
section
variable {K : PySem.W.Frag} {B F H : Hp} {R : List (Addr × HO)} {α β : Type} {e : Enc α} {e2 : Enc β} {v w : V} {xs : List α} {ys : List β} {z : Str} {RI : It → Hp → Prop}
theorem y_jL (l : Le F H) (h : (eLst e).rep F v xs) (q : ∀ a, TW F S0 (Itl K a) xs e → RI (Itl K a) H) : jList K v H RI := by
  obtain ⟨a, vs, rfl, ha, r⟩ := h
  exact ⟨a, rfl, ⟨vs, SqL.of (l _ _ ha)⟩, q a (TW.list ha r)⟩
theorem y_jLO {a : Addr} {vs : List V} (h : H a = some (.lst vs)) (r : RL (e.rep F) vs xs) (q : ∀ J, TW F (fun R => (a, HO.lst vs) ∈ R) J xs e → RI J H) : jList K (.ref a) H RI := ⟨a, rfl, ⟨vs, SqL.of h⟩, q _ (TW.listO r)⟩
theorem y_jT (l : Le F H) (h : (eTup e).rep F v xs) (q : ∀ a, TW F S0 (Itt K a) xs e → RI (Itt K a) H) : jTup K v H RI := by
  obtain ⟨a, vs, rfl, ha, r⟩ := h
  exact ⟨a, rfl, ⟨vs, SqT.of (l _ _ ha)⟩, q a (TW.tup ha r)⟩
theorem y_jC (q : ∀ J, TW F S0 J (tl z) eChr → RI J H) : jStr (.str z) H RI := ⟨z, rfl, q _ TW.chr⟩
theorem y_jES (q : ∀ J, TW F S0 J (enumT (tl z)) (eP2 eInt eChr) → RI J H) : jEnumS [.str z] H RI := ⟨z, rfl, q _ TW.enumS⟩
theorem y_jR1 {n : Int} (hn : -(2 ^ 62) ≤ n ∧ n < 2 ^ 62) (q : ∀ J, TW F S0 J (rngT 0 n) eInt → RI J H) : jRng1 [.int n] H RI :=
  ⟨n, rfl, hn.1, hn.2, by
    have h := q _ (TW.rng (lo := 0) (hi := n))
    rw [Int.sub_zero] at h
    exact h⟩
theorem y_jR2 {m n : Int} (hm : -(2 ^ 62) ≤ m ∧ m < 2 ^ 62) (hn : -(2 ^ 62) ≤ n ∧ n < 2 ^ 62) (q : ∀ J, TW F S0 J (rngT m n) eInt → RI J H) : jRng2 [.int m, .int n] H RI :=
  ⟨m, n, rfl, ⟨hm.1, hm.2, hn.1, hn.2⟩, q _ TW.rng⟩
theorem y_jEL (l : Le F H) (h : (eLst e).rep F v xs) (q : ∀ a, TW F S0 (Ite K a) (enumT xs) (eP2 eInt e) → RI (Ite K a) H) : jEnum K [v] H RI := by
  obtain ⟨a, vs, rfl, ha, r⟩ := h
  exact ⟨a, vs, rfl, SqL.of (l _ _ ha), q a (TW.enumL ha r)⟩
end
end NF

/-! More steps beside the model. -/
namespace NF
open PySem PySem.Spec PyProof.Rows L2 TL
def eFn (f : Addr) : Enc Unit := ⟨fun _ v _ => v = .ref f, fun _ h => h⟩
instance : NN eChr := ⟨fun h => nomatch h⟩
def bI (b : Bool) : Int := if b then 1 else 0
abbrev strI (i : Int) : Str := toString i
section
variable {F : Hp} {P : V → Prop}
@[elab_as_elim] theorem byI (v : V) {x : Int} (h : eInt.rep F v x) (q : P (.int x)) : P v := by cases h; exact q
@[elab_as_elim] theorem byS (v : V) {x : Str} (h : eStr.rep F v x) (q : P (.str x)) : P v := by cases h; exact q
@[elab_as_elim] theorem byB (v : V) {x : Bool} (h : eBool.rep F v x) (q : P (.bl x)) : P v := by cases h; exact q
@[elab_as_elim] theorem byC (v : V) {x : Nat} (h : eChr.rep F v x) (q : P (.str (sg x))) : P v := by cases h; exact q
@[elab_as_elim] theorem byN (v : V) {x : Unit} (h : eNon.rep F v x) (q : P .non) : P v := by cases h; exact q
end
theorem notN_t {b : Bool} (h : (!b) = true) : b = false := by cases b <;> simp_all
theorem notN_f {b : Bool} (h : (!b) = false) : b = true := by cases b <;> simp_all
section
variable {α β : Type} {e : Enc α} {F : Hp} {v : V} {x : Option α} {y : α}
theorem noneR (h : (eOpt e).rep F v x) (hx : x = none) : eNon.rep F v () := by subst hx; exact h
theorem someR (h : (eOpt e).rep F v x) (hx : x = some y) : e.rep F v y := by subst hx; exact h
end
section
variable {K : PySem.W.Frag} {B F H : Hp} {R : List (Addr × HO)} {α β : Type} {e : Enc α} {v w : V} {xs ys : List α} {Q : VK} {QT : Bool → Hp → Prop} {vs : List V} {a p : Addr} {σ : L2.St} {tt tu : TT}
theorem vwL (O : Fz B F H R) (j : Nat) (hj : R[j]? = some (p, .lst vs)) (r : RL (e.rep F) vs xs) : (eLst e).rep (upd F p (.lst vs)) (.ref p) xs := ⟨p, vs, rfl, upd_same, r.mono fun _ _ => e.mono (O.exF j hj).le⟩
theorem castR {R' : List (Addr × HO)} {x : Addr × HO} (h : R' = R) (O : Fz B F H (x :: R')) : Fz B F H (x :: R) := h ▸ O
theorem keepB {H0 : Hp} (l : Le (del H0 a) H) : ∀ b o, b ≠ a → H0 b = some o → H b = some o := fun b o n h => l b o (by unfold del; rw [if_neg n]; exact h)
theorem y_app2 (O : Fz B F H R) (j : Nat) (hj : R[j]? = some (p, .lst vs)) (r : RL (e.rep F) vs xs) (hz : xs.length < sizeLine) (q : ∀ H', Fz B F H' (R.set j (p, .lst (vs ++ [v]))) → Q .non H') : rAppend (.ref p) [v] H Q :=
  ⟨p, vs, v, rfl, rfl, O.get j hj, by rw [r.len]; exact hz, q _ (O.put j hj _)⟩
theorem y_andT {b c : Bool} (ha : ∀ Q : Bool → Hp → Prop, Q b H → tt σ H Q) (hb : b = true → ∀ Q : Bool → Hp → Prop, Q c H → tu σ H Q) (q : QT (b && c) H) : tAnd tt tu σ H QT := x_andP ha hb q
theorem y_orT {b c : Bool} (ha : ∀ Q : Bool → Hp → Prop, Q b H → tt σ H Q) (hb : b = false → ∀ Q : Bool → Hp → Prop, Q c H → tu σ H Q) (q : QT (b || c) H) : tOr tt tu σ H QT := x_orP ha hb q
theorem y_allR {bs : List Bool} (l : Le F H) (h : (eLst eBool).rep F v bs) (q : Q (.bl (bs.all id)) H) : rAll K [v] H Q := by
  obtain ⟨a, vs, rfl, ha, r⟩ := h
  have e := r.mapV (f := V.bl) fun _ _ h => h
  subst e
  exact ⟨a, bs, rfl, SqL.of (l _ _ ha), q⟩
theorem x_intB {b : Bool} (q : Q (.int (bI b)) H) : rInt [.bl b] H Q := .inr ⟨b, rfl, q⟩
def MulOk (z : Str) (n : Int) : Prop := z.length ≤ 1000000 ∧ n ≤ 1000000 ∧ -1000000 ≤ n ∧ z.length * n.toNat ≤ sizeLine
theorem y_mulS {z : Str} {n : Int} (h : MulOk z n) (q : Q (.str (Txt.mul z n)) H) : rMulS (.str z) (.int n) H Q := x_mulS h.1 h.2.1 h.2.2.1 h.2.2.2 q
end
@[reducible] def W.intS {β : Type} (z : Str) (f : Int → W β) : W β := fun K => ∃ n, PySem.intText? z = some n ∧ z.length ≤ 640 ∧ f n K
theorem x_doc {nx bk ct : L2.St → Hp → Prop} {rt : VK} {σ : L2.St} {H : Hp} (q : nx σ H) : tNext ⟨nx, rt, bk, ct⟩ σ H := q
/-! ### joins behind an if -/
section
variable {B F H : Hp} {R : List (Addr × HO)} {σt ρ : Type} {m : W σt} {f : σt → W ρ} {K0 : ρ → Prop} {s1 s2 : TS} {nx bk ct : L2.St → Hp → Prop} {rt : VK} {σ : L2.St}
@[reducible] def NxI (B F : Hp) (f : σt → W ρ) (K0 : ρ → Prop) (I : σt → L2.St → Hp → List (Addr × HO) → Prop) (σ : L2.St) (H : Hp) : Prop := ∃ s F' R, Ex B F F' ∧ Fz B F' H R ∧ I s σ F' R ∧ f s K0
theorem y_cut (I : σt → L2.St → Hp → List (Addr × HO) → Prop) (O : Fz B F H R) (k : W.bind m f K0) (h1 : m (fun s => f s K0) → Ex B F F → s1 ⟨NxI B F f K0 I, rt, bk, ct⟩ σ H)
    (h2 : ∀ s σ F' R' H', Ex B F F' → Fz B F' H' R' → I s σ F' R' → f s K0 → s2 ⟨nx, rt, bk, ct⟩ σ H') : Evl.tCut s1 s2 ⟨nx, rt, bk, ct⟩ σ H :=
  ⟨_, h1 k Ex.rfl, fun σ' H' ⟨s, F', R', l, O', hI, hk⟩ => h2 s σ' F' R' H' l O' hI hk⟩
end
/-! ### equality of data -/
class EnD {α : Type} [DecidableEq α] (e : Enc α) where
  dat : α → PyData
  dp : ∀ {K : PySem.W.Frag} {F H : Hp} {v : V} {x : α}, Le F H → e.rep F v x → Dp K H v (dat x)
  deep : Nat
  good : α → Prop
  lay : ∀ x, good x → PyData.canLay0 (dat x) = true
  dep : ∀ x, PyData.depth (dat x) ≤ deep
  eqv : ∀ x y, PyData.eqv (dat x) (dat y) = decide (x = y)
abbrev EqOk {α : Type} [DecidableEq α] (e : Enc α) [EnD e] (x : α) : Prop := EnD.good e x
section
variable {α β γ : Type} [DecidableEq α] [DecidableEq β] [DecidableEq γ] {e : Enc α} {e2 : Enc β} {e3 : Enc γ}
instance : EnD eInt := ⟨.int, fun _ h => by cases h; exact .int _, 0, fun _ => True, fun _ _ => by simp only [PyData.canLay0], fun _ => by simp only [PyData.depth]; exact Nat.le_refl _, fun x y => by
  simp only [PyData.eqv]
  by_cases h : x = y
  · rw [h]; simp
  · simp [h]⟩
instance : EnD eStr := ⟨.str, fun _ h => by cases h; exact .str _, 0, fun z => ∀ c ∈ tl z, c < 1114112, fun z h => by
  simp only [PyData.canLay0]
  unfold PyData.strOk
  rw [← Array.all_toList, List.all_eq_true]
  intro n hn
  exact decide_eq_true (h n hn), fun _ => by simp only [PyData.depth]; exact Nat.le_refl _, fun x y => by
  simp only [PyData.eqv]
  by_cases h : x = y
  · rw [h]; simp
  · simp [h]⟩
instance : EnD eBool := ⟨.bool, fun _ h => by cases h; exact .bl _, 0, fun _ => True, fun _ _ => by simp only [PyData.canLay0], fun _ => by simp only [PyData.depth]; exact Nat.le_refl _, fun x y => by
  simp only [PyData.eqv]
  cases x <;> cases y <;> rfl⟩
theorem dp_RL [EnD e] {K : PySem.W.Frag} {F H : Hp} (l : Le F H) : ∀ {vs : List V} {xs : List α}, RL (e.rep F) vs xs → DpAll K H vs (xs.map (EnD.dat e))
  | _, _, .nil => .nil
  | _, _, .cons a r => .cons (EnD.dp l a) (dp_RL l r)
theorem lay_all [EnD e] : ∀ xs : List α, (∀ x ∈ xs, EnD.good e x) → PyData.canLayAll0 (xs.map (EnD.dat e)) = true
  | [], _ => by simp only [List.map_nil, PyData.canLayAll0]
  | x :: xs, h => by simp only [List.map_cons, PyData.canLayAll0, EnD.lay x (h x List.mem_cons_self), lay_all xs (fun y hy => h y (List.mem_cons_of_mem _ hy)), Bool.and_self]
theorem dep_all [EnD e] : ∀ xs : List α, PyData.depthAll (xs.map (EnD.dat e)) ≤ EnD.deep e
  | [] => by simp only [List.map_nil, PyData.depthAll]; exact Nat.zero_le _
  | x :: xs => by simp only [List.map_cons, PyData.depthAll]; exact Nat.max_le.mpr ⟨EnD.dep x, dep_all xs⟩
theorem eqv_all [EnD e] : ∀ xs ys : List α, PyData.eqvAll (xs.map (EnD.dat e)) (ys.map (EnD.dat e)) = decide (xs = ys)
  | [], [] => by simp only [List.map_nil, PyData.eqvAll]; rfl
  | [], y :: ys => by simp only [List.map_nil, List.map_cons, PyData.eqvAll]; rfl
  | x :: xs, [] => by simp only [List.map_nil, List.map_cons, PyData.eqvAll]; rfl
  | x :: xs, y :: ys => by
    simp only [List.map_cons, PyData.eqvAll, EnD.eqv, eqv_all xs ys]
    by_cases h1 : x = y
    · by_cases h2 : xs = ys
      · simp [h1, h2]
      · simp [h1, h2]
    · simp [h1]
instance [EnD e] : EnD (eTup e) := ⟨fun xs => .tuple (xs.map (EnD.dat e)), fun l ⟨a, vs, h, ha, r⟩ => by subst h; exact .tup (SqT.of (l _ _ ha)) (dp_RL l r), EnD.deep e + 1, fun xs => ∀ x ∈ xs, EnD.good e x, fun xs h => by
  simp only [PyData.canLay0]; exact lay_all xs h, fun xs => by
  have := dep_all (e := e) xs
  simp only [PyData.depth]; omega, fun xs ys => by simp only [PyData.eqv]; exact eqv_all xs ys⟩
instance [EnD e] : EnD (eLst e) := ⟨fun xs => .list (xs.map (EnD.dat e)), fun l ⟨a, vs, h, ha, r⟩ => by subst h; exact .lst (SqL.of (l _ _ ha)) (dp_RL l r), EnD.deep e + 1, fun xs => ∀ x ∈ xs, EnD.good e x, fun xs h => by
  simp only [PyData.canLay0]; exact lay_all xs h, fun xs => by
  have := dep_all (e := e) xs
  simp only [PyData.depth]; omega, fun xs ys => by simp only [PyData.eqv]; exact eqv_all xs ys⟩
instance [EnD e] [EnD e2] : EnD (eP2 e e2) := ⟨fun x => .tuple [EnD.dat e x.1, EnD.dat e2 x.2], fun l ⟨a, v1, v2, h, ha, h1, h2⟩ => by subst h; exact .tup (SqT.of (l _ _ ha)) (.cons (EnD.dp l h1) (.cons (EnD.dp l h2) .nil)), max (EnD.deep e) (EnD.deep e2) + 1, fun x => EnD.good e x.1 ∧ EnD.good e2 x.2, fun x h => by
  simp only [PyData.canLay0, PyData.canLayAll0, EnD.lay _ h.1, EnD.lay _ h.2, Bool.and_self], fun x => by
  have h1 := EnD.dep (e := e) x.1
  have h2 := EnD.dep (e := e2) x.2
  simp only [PyData.depth, PyData.depthAll]; omega, fun x y => by
  simp only [PyData.eqv, PyData.eqvAll, EnD.eqv, Bool.and_true]
  obtain ⟨x1, x2⟩ := x
  obtain ⟨y1, y2⟩ := y
  by_cases h1 : x1 = y1 <;> by_cases h2 : x2 = y2 <;> simp [h1, h2]⟩
instance [EnD e] [EnD e2] [EnD e3] : EnD (eP3 e e2 e3) := ⟨fun x => .tuple [EnD.dat e x.1, EnD.dat e2 x.2.1, EnD.dat e3 x.2.2], fun l ⟨a, v1, v2, v3, h, ha, h1, h2, h3⟩ => by subst h; exact .tup (SqT.of (l _ _ ha)) (.cons (EnD.dp l h1) (.cons (EnD.dp l h2) (.cons (EnD.dp l h3) .nil))), max (EnD.deep e) (max (EnD.deep e2) (EnD.deep e3)) + 1, fun x => EnD.good e x.1 ∧ EnD.good e2 x.2.1 ∧ EnD.good e3 x.2.2, fun x h => by
  simp only [PyData.canLay0, PyData.canLayAll0, EnD.lay _ h.1, EnD.lay _ h.2.1, EnD.lay _ h.2.2, Bool.and_self], fun x => by
  have h1 := EnD.dep (e := e) x.1
  have h2 := EnD.dep (e := e2) x.2.1
  have h3 := EnD.dep (e := e3) x.2.2
  simp only [PyData.depth, PyData.depthAll]; omega, fun x y => by
  simp only [PyData.eqv, PyData.eqvAll, EnD.eqv, Bool.and_true]
  obtain ⟨x1, x2, x3⟩ := x
  obtain ⟨y1, y2, y3⟩ := y
  by_cases h1 : x1 = y1 <;> by_cases h2 : x2 = y2 <;> by_cases h3 : x3 = y3 <;> simp [h1, h2, h3]⟩
variable {K : PySem.W.Frag} {F H : Hp} {v w : V} {x y : α} {Q : VK}
theorem shaped_of [EnD e] (hd : EnD.deep e ≤ 64) (h : EnD.good e x) : SeqAt.shaped (EnD.dat e x) = true := by
  unfold SeqAt.shaped
  rw [EnD.lay x h, Bool.true_and]
  have := EnD.dep (e := e) x
  exact decide_eq_true (by omega)
theorem y_eqD [EnD e] (l : Le F H) (h1 : e.rep F v x) (h2 : e.rep F w y) (g1 : EnD.good e x) (g2 : EnD.good e y) (q : Q (.bl (decide (x = y))) H) (hd : EnD.deep e ≤ 64 := by decide) : rEqD K v w H Q :=
  ⟨_, _, EnD.dp l h1, EnD.dp l h2, shaped_of hd g1, shaped_of hd g2, by rw [EnD.eqv]; exact q⟩
theorem y_neD [EnD e] (l : Le F H) (h1 : e.rep F v x) (h2 : e.rep F w y) (g1 : EnD.good e x) (g2 : EnD.good e y) (q : Q (.bl (!decide (x = y))) H) (hd : EnD.deep e ≤ 64 := by decide) : rNeD K v w H Q :=
  ⟨_, _, EnD.dp l h1, EnD.dp l h2, shaped_of hd g1, shaped_of hd g2, by rw [EnD.eqv]; exact q⟩
end
end NF
namespace NF
open PySem PySem.Spec PyProof.Rows L2 TL
theorem rd_le {H H' : Hp} {a : Addr} {u : HO} (l : Le H H') (h : Rd H a u) : Rd H' a u := by
  rcases h with h | ⟨o, h⟩
  · exact .inl (l _ _ h)
  · exact .inr ⟨o, l _ _ h⟩
theorem sqL_le {K : PySem.W.Frag} {H H' : Hp} {a : Addr} {xs : List V} (l : Le H H') (h : SqL K H a xs) : SqL K H' a xs := by
  rcases h with h | h
  · exact .inl (rd_le l h)
  · exact .inr h
theorem Own.le0 {H H' : Hp} {R : List (Addr × HO)} (O : Own H H' [] R) (h : ∀ x ∈ R, H x.1 = none) : Le H H' := fun a o e => O.staysR h e
theorem Own.startB {H : Hp} {a : Addr} {o : HO} (h : H a = some o) : Own (del H a) H [] [(a, o)] := ⟨by simp, fun x hx => by
  have e : x = (a, o) := by simpa using hx
  rw [e]; exact h, fun b _ u e => del_le b u e⟩
theorem Own.leB {H H' : Hp} {a : Addr} {R : List (Addr × HO)} (O : Own (del H a) H' [] R) (h : ∀ x ∈ R, del H a x.1 = none) : Le (del H a) H' := fun b u e => O.staysR h e
theorem del_self {H : Hp} {a : Addr} : del H a a = none := if_pos rfl
theorem x_lenSqL {K : PySem.W.Frag} {H : Hp} {Q : VK} {a : Addr} {xs : List V} (h : SqL K H a xs) (q : Q (.int xs.length) H) : rLen K [.ref a] H Q := ⟨.ref a, _, rfl, .inl ⟨xs, h, rfl⟩, q⟩
theorem x_ixSqL {K : PySem.W.Frag} {H : Hp} {Q : VK} {a : Addr} {xs : List V} {i : Int} {v : V} (h : SqL K H a xs) (hv : atI xs i = some v) (q : Q v H) : rIxL K (.ref a) (.int i) H Q := ⟨a, xs, i, v, rfl, rfl, h, hv, q⟩
/-- a new open object out of a call -/
theorem Fz.newB {B F H H' : Hp} {R : List (Addr × HO)} {p : Addr} {o : HO} (O : Fz B F H R) (l : Le H H') (hp : H p = none) (h : H' p = some o) : Fz B F H' ((p, o) :: R) := by
  have hn := O.fresh hp
  refine ⟨O.leB.trans l, O.leF.trans l, List.nodup_cons.mpr ⟨hn, O.nd⟩, fun x hx => ?_, fun x hx => ?_, fun x hx => ?_⟩
  · rcases List.mem_cons.mp hx with rfl | hx
    · exact h
    · exact l _ _ (O.at_ x hx)
  · rcases List.mem_cons.mp hx with rfl | hx
    · exact none_of_le O.leB hp
    · exact O.nB x hx
  · rcases List.mem_cons.mp hx with rfl | hx
    · exact none_of_le O.leF hp
    · exact O.nF x hx
end NF

namespace NF
open PySem PySem.Spec PyProof.Rows L2 TL
section
variable {K : PySem.W.Frag} {B F H : Hp} {R : List (Addr × HO)} {α β : Type} {e : Enc α} {e3 : Enc β} {v : V} {Q : VK}
theorem y_slP22 {x : α × α} (O : Fz B F H R) (h : (eP2 e e).rep F v x) (q : ∀ u F' H', (eTup e).rep F' u [x.1, x.2] → Ex B F F' → Fz B F' H' R → Q u H') : rSlA K v none (some 2) H Q := by
  obtain ⟨a, v1, v2, rfl, h0, h1, h2⟩ := h
  refine ⟨a, [v1, v2], rfl, SqT.of (O.leF _ _ h0), fun _ => q _ F H ⟨a, _, rfl, h0, .cons h1 (.cons h2 .nil)⟩ Ex.rfl O, fun hn => absurd (show HT.sIx 2 0 none = 0 ∧ HT.sIx 2 2 (some 2) = 2 by decide) hn⟩
theorem y_slP32 {x : α × α × β} (O : Fz B F H R) (h : (eP3 e e e3).rep F v x) (q : ∀ u F' H', (eTup e).rep F' u [x.1, x.2.1] → Ex B F F' → Fz B F' H' R → Q u H') : rSlA K v none (some 2) H Q := by
  obtain ⟨a, v1, v2, v3, rfl, h0, h1, h2, h3⟩ := h
  refine ⟨a, [v1, v2, v3], rfl, SqT.of (O.leF _ _ h0), fun hn => absurd hn (show ¬ (HT.sIx 3 0 none = 0 ∧ HT.sIx 3 3 (some 2) = 3) by decide), fun _ p hp => ?_⟩
  have l := (O.exN (o := .tup (cutV [v1, v2, v3] none (some 2))) hp).le
  exact q _ _ _ ⟨p, _, rfl, upd_same, .cons (e.mono l h1) (.cons (e.mono l h2) .nil)⟩ (O.exN hp) (O.frz hp)
end
/-- what a try tells: the value, or that it was refused -/
def eTold {α : Type} (e : Enc α) : Enc (Except Unit α) := ⟨fun F v r => match r with | .ok y => (eP2 eInt e).rep F v (0, y) | .error _ => (eP2 eInt eBool).rep F v (1, true), fun {_ _ _ r} l h => match r, h with | .ok _, h => Enc.mono _ l h | .error _, h => Enc.mono _ l h⟩
end NF
namespace NF
open PySem PySem.Spec PyProof.Rows L2 TL
section
variable {P : Program} {K : PySem.W.Frag} {mg : Str → Option Value} {A : Str} {H : Hp} {Q : VK} {a : Addr} {b : Bool}
theorem x_isX0C {B : Str} (T : XFact0 P K mg A) (p : XPair K (.ref (cad mg A)) (.ref (cad mg B)) b) (q : Q (.bl b) H) : rIsX0 K a (.ref (cad mg A)) none [.ref a, .ref (cad mg B)] H Q :=
  ⟨_, b, rfl, T.exc, rfl, .inl ⟨_, _, rfl, fun u h => h, p.kit⟩, q⟩
theorem x_isX0B {n : String} (T : XFact0 P K mg A) (p : XPair K (.ref (cad mg A)) (.type n) b) (q : Q (.bl b) H) : rIsX0 K a (.ref (cad mg A)) none [.ref a, .ty n] H Q :=
  ⟨_, b, rfl, T.exc, rfl, .inl ⟨_, _, rfl, fun u h => h, p.kit⟩, q⟩
theorem x_isX0T {tp : Addr} (cs : List Addr) (T : XFact0 P K mg A) (ht : H tp = some (.tup (cs.map V.ref))) (p : PySem.W.kitAny K (.ref (cad mg A)) (cs.map Value.ref) = some b) (q : Q (.bl b) H) : rIsX0 K a (.ref (cad mg A)) none [.ref a, .ref tp] H Q :=
  ⟨_, b, rfl, T.exc, rfl, .inr ⟨tp, _, _, rfl, ht, vals_refs, p⟩, q⟩
end
end NF
namespace NF
open PySem L2
theorem dec_isN {α : Type} {e : Enc α} [NN e] {F : Hp} {v : V} {x : Option α} (h : (eOpt e).rep F v x) : decide (v = V.non) = x.isNone := by
  cases x with
  | none =>
    have hv : v = .non := h
    subst hv
    rfl
  | some y =>
    have hv : v ≠ .non := fun q => NN.nn (e := e) (F := F) (x := y) (by rw [q] at h; exact h)
    rw [decide_eq_false hv]
    rfl
end NF

/-! Open lists handed in; pop; cuts within an expression. -/
namespace NF
open PySem PySem.Spec PyProof.Rows L2 TL
/-- an open list as a resource -/
def rLst {α : Type} (e : Enc α) : Rsc (List α) := ⟨fun F p as N xs => as = [p] ∧ ∃ c, N = [(p, HO.lst c)] ∧ RL (e.rep F) c xs, fun l ⟨h1, c, h2, h3⟩ => ⟨h1, c, h2, h3.mono fun _ _ => e.mono l⟩, fun ⟨h1, c, h2, _⟩ => by rw [h1, h2]; rfl⟩
section
variable {K : PySem.W.Frag} {B F H : Hp} {R : List (Addr × HO)} {α : Type} {e : Enc α} {Q : VK} {p : Addr} {vs : List V} {xs : List α} {i : Int}
theorem y_ixM {y : α} (O : Fz B F H R) (j : Nat) (hj : R[j]? = some (p, .lst vs)) (r : RL (e.rep F) vs xs) (hi : atI xs i = some y) (q : ∀ u, e.rep F u y → Q u H) : rIxL K (.ref p) (.int i) H Q := by
  obtain ⟨u, h1, h2⟩ := atI_RL r hi
  exact x_ixL (O.get j hj) h1 (q u h2)
theorem RL.dropLast {P : V → α → Prop} {r : List α} {y : α} {us : List V} (h : RL P us (r ++ [y])) : ∃ u, us[us.length - 1]? = some u ∧ P u y ∧ RL P us.dropLast r := by
  have hl := h.len
  rw [List.length_append, List.length_singleton] at hl
  obtain ⟨u, h1, h2⟩ := h.at (i := r.length) (x := y) (by rw [List.getElem?_append_right (Nat.le_refl _), Nat.sub_self]; rfl)
  refine ⟨u, by rw [hl]; exact h1, h2, ?_⟩
  have t := h.take r.length
  rw [List.take_left'] at t
  · rw [List.dropLast_eq_take, hl]; exact t
  · rfl
/-- pop of an open list -/
theorem y_pop {r : List α} {y : α} (O : Fz B F H R) (j : Nat) (hj : R[j]? = some (p, .lst vs)) (h : RL (e.rep F) vs xs) (hx : xs = r ++ [y]) (q : ∀ u vs' H', e.rep F u y → RL (e.rep F) vs' r → Fz B F H' (R.set j (p, .lst vs')) → Q u H') : rPop (.ref p) [] H Q := by
  subst hx
  obtain ⟨u, h1, h2, h3⟩ := h.dropLast
  exact ⟨p, vs, u, rfl, rfl, O.get j hj, h1, q u _ _ h2 h3 (O.put j hj _)⟩
end
@[reducible] def W.pop {α β : Type} (xs : List α) (f : α → List α → W β) : W β := fun K => ∃ r y, xs = r ++ [y] ∧ f y r K
/-- an expression, then the rest, with a word between them -/
def tCutE (te : TE) : TE := fun σ H Q => ∃ Mid : V → Hp → Prop, te σ H Mid ∧ ∀ v H', Mid v H' → Q v H'
theorem pe_cutE {X : Cx} {a : Expr} {te : TE} (h : PE X a te) : PE X a (tCutE te) := ⟨fun pins s σ H Q I ⟨Mid, h1, h2⟩ => thn (h.run pins s σ H Mid I h1) fun u s' ⟨v, H', I', r, q⟩ => ⟨v, H', I', r, h2 v H' q⟩⟩
section
variable {B F H : Hp} {R : List (Addr × HO)} {σt ρ : Type} {m : W σt} {f : σt → W ρ} {K0 : ρ → Prop} {te : TE} {σ : L2.St} {Q : VK}
@[reducible] def NxE (B F : Hp) (f : σt → W ρ) (K0 : ρ → Prop) (I : σt → V → Hp → List (Addr × HO) → Prop) (v : V) (H : Hp) : Prop := ∃ s F' R, Ex B F F' ∧ Fz B F' H R ∧ I s v F' R ∧ f s K0
theorem y_cutE (I : σt → V → Hp → List (Addr × HO) → Prop) (O : Fz B F H R) (k : W.bind m f K0) (h1 : m (fun s => f s K0) → Ex B F F → te σ H (NxE B F f K0 I))
    (h2 : ∀ s v F' R' H', Ex B F F' → Fz B F' H' R' → I s v F' R' → f s K0 → Q v H') : tCutE te σ H Q :=
  ⟨_, h1 k Ex.rfl, fun v H' ⟨s, F', R', l, O', hI, hk⟩ => h2 s v F' R' H' l O' hI hk⟩
/-- a name for a long model -/
theorem y_let {α : Type} {e : Enc α} {v : V} {x : α} {f : α → W ρ} {G : Prop} (h : e.rep F v x) (k : f x K0) (q : ∀ y, e.rep F v y → f y K0 → G) : G := q x h k
@[elab_as_elim] theorem y_letB {α : Type} {f : α → W ρ} {P : α → Prop} (x : α) (k : f x K0) (q : ∀ y, f y K0 → P y) : P x := q x k
end
end NF

/-! Larger tuples, records (dicts with fixed text keys), dicts whose keys are tuples. Printed by mknfd.py. -/
namespace NF
open PySem PySem.Spec PyProof.Rows L2 TL
def eP4 {α β γ δ : Type} (e1 : Enc α) (e2 : Enc β) (e3 : Enc γ) (e4 : Enc δ) : Enc (α × β × γ × δ) := ⟨fun F v x => ∃ a v1 v2 v3 v4, v = .ref a ∧ F a = some (.tup [v1, v2, v3, v4]) ∧ e1.rep F v1 x.1 ∧ e2.rep F v2 x.2.1 ∧ e3.rep F v3 x.2.2.1 ∧ e4.rep F v4 x.2.2.2, fun l ⟨a, v1, v2, v3, v4, h, h0, h1, h2, h3, h4⟩ => ⟨a, v1, v2, v3, v4, h, l _ _ h0, e1.mono l h1, e2.mono l h2, e3.mono l h3, e4.mono l h4⟩⟩
instance {α β γ δ : Type} {e1 : Enc α} {e2 : Enc β} {e3 : Enc γ} {e4 : Enc δ} : NN (eP4 e1 e2 e3 e4) := ⟨fun ⟨_, _, _, _, _, h, _⟩ => nomatch h⟩
section
variable {K : PySem.W.Frag} {F H : Hp} {α β γ δ : Type} {e1 : Enc α} {e2 : Enc β} {e3 : Enc γ} {e4 : Enc δ} {v : V} {x : α × β × γ × δ} {Q : VK} {σ : L2.St}
theorem y_ix40 (l : Le F H) (h : (eP4 e1 e2 e3 e4).rep F v x) (q : ∀ u, e1.rep F u x.1 → Q u H) : rIxT K v (.int 0) H Q := by
  obtain ⟨a, v1, v2, v3, v4, rfl, h0, h1, h2, h3, h4⟩ := h
  exact x_ixT (l _ _ h0) rfl (q _ h1)
theorem y_ix41 (l : Le F H) (h : (eP4 e1 e2 e3 e4).rep F v x) (q : ∀ u, e2.rep F u x.2.1 → Q u H) : rIxT K v (.int 1) H Q := by
  obtain ⟨a, v1, v2, v3, v4, rfl, h0, h1, h2, h3, h4⟩ := h
  exact x_ixT (l _ _ h0) rfl (q _ h2)
theorem y_ix42 (l : Le F H) (h : (eP4 e1 e2 e3 e4).rep F v x) (q : ∀ u, e3.rep F u x.2.2.1 → Q u H) : rIxT K v (.int 2) H Q := by
  obtain ⟨a, v1, v2, v3, v4, rfl, h0, h1, h2, h3, h4⟩ := h
  exact x_ixT (l _ _ h0) rfl (q _ h3)
theorem y_ix43 (l : Le F H) (h : (eP4 e1 e2 e3 e4).rep F v x) (q : ∀ u, e4.rep F u x.2.2.2 → Q u H) : rIxT K v (.int 3) H Q := by
  obtain ⟨a, v1, v2, v3, v4, rfl, h0, h1, h2, h3, h4⟩ := h
  exact x_ixT (l _ _ h0) rfl (q _ h4)
theorem y_un4 {t : TGs} {QS : L2.St → Hp → Prop} (l : Le F H) (h : (eP4 e1 e2 e3 e4).rep F v x) (q : ∀ u1 u2 u3 u4, e1.rep F u1 x.1 → e2.rep F u2 x.2.1 → e3.rep F u3 x.2.2.1 → e4.rep F u4 x.2.2.2 → t [u1, u2, u3, u4] σ H QS) : gTup K 4 t v σ H QS := by
  obtain ⟨a, v1, v2, v3, v4, rfl, h0, h1, h2, h3, h4⟩ := h
  exact ⟨a, [v1, v2, v3, v4], rfl, SqT.of (l _ _ h0), rfl, q v1 v2 v3 v4 h1 h2 h3 h4⟩
end
def eP5 {α β γ δ ε : Type} (e1 : Enc α) (e2 : Enc β) (e3 : Enc γ) (e4 : Enc δ) (e5 : Enc ε) : Enc (α × β × γ × δ × ε) := ⟨fun F v x => ∃ a v1 v2 v3 v4 v5, v = .ref a ∧ F a = some (.tup [v1, v2, v3, v4, v5]) ∧ e1.rep F v1 x.1 ∧ e2.rep F v2 x.2.1 ∧ e3.rep F v3 x.2.2.1 ∧ e4.rep F v4 x.2.2.2.1 ∧ e5.rep F v5 x.2.2.2.2, fun l ⟨a, v1, v2, v3, v4, v5, h, h0, h1, h2, h3, h4, h5⟩ => ⟨a, v1, v2, v3, v4, v5, h, l _ _ h0, e1.mono l h1, e2.mono l h2, e3.mono l h3, e4.mono l h4, e5.mono l h5⟩⟩
instance {α β γ δ ε : Type} {e1 : Enc α} {e2 : Enc β} {e3 : Enc γ} {e4 : Enc δ} {e5 : Enc ε} : NN (eP5 e1 e2 e3 e4 e5) := ⟨fun ⟨_, _, _, _, _, _, h, _⟩ => nomatch h⟩
section
variable {K : PySem.W.Frag} {F H : Hp} {α β γ δ ε : Type} {e1 : Enc α} {e2 : Enc β} {e3 : Enc γ} {e4 : Enc δ} {e5 : Enc ε} {v : V} {x : α × β × γ × δ × ε} {Q : VK} {σ : L2.St}
theorem y_ix50 (l : Le F H) (h : (eP5 e1 e2 e3 e4 e5).rep F v x) (q : ∀ u, e1.rep F u x.1 → Q u H) : rIxT K v (.int 0) H Q := by
  obtain ⟨a, v1, v2, v3, v4, v5, rfl, h0, h1, h2, h3, h4, h5⟩ := h
  exact x_ixT (l _ _ h0) rfl (q _ h1)
theorem y_ix51 (l : Le F H) (h : (eP5 e1 e2 e3 e4 e5).rep F v x) (q : ∀ u, e2.rep F u x.2.1 → Q u H) : rIxT K v (.int 1) H Q := by
  obtain ⟨a, v1, v2, v3, v4, v5, rfl, h0, h1, h2, h3, h4, h5⟩ := h
  exact x_ixT (l _ _ h0) rfl (q _ h2)
theorem y_ix52 (l : Le F H) (h : (eP5 e1 e2 e3 e4 e5).rep F v x) (q : ∀ u, e3.rep F u x.2.2.1 → Q u H) : rIxT K v (.int 2) H Q := by
  obtain ⟨a, v1, v2, v3, v4, v5, rfl, h0, h1, h2, h3, h4, h5⟩ := h
  exact x_ixT (l _ _ h0) rfl (q _ h3)
theorem y_ix53 (l : Le F H) (h : (eP5 e1 e2 e3 e4 e5).rep F v x) (q : ∀ u, e4.rep F u x.2.2.2.1 → Q u H) : rIxT K v (.int 3) H Q := by
  obtain ⟨a, v1, v2, v3, v4, v5, rfl, h0, h1, h2, h3, h4, h5⟩ := h
  exact x_ixT (l _ _ h0) rfl (q _ h4)
theorem y_ix54 (l : Le F H) (h : (eP5 e1 e2 e3 e4 e5).rep F v x) (q : ∀ u, e5.rep F u x.2.2.2.2 → Q u H) : rIxT K v (.int 4) H Q := by
  obtain ⟨a, v1, v2, v3, v4, v5, rfl, h0, h1, h2, h3, h4, h5⟩ := h
  exact x_ixT (l _ _ h0) rfl (q _ h5)
theorem y_un5 {t : TGs} {QS : L2.St → Hp → Prop} (l : Le F H) (h : (eP5 e1 e2 e3 e4 e5).rep F v x) (q : ∀ u1 u2 u3 u4 u5, e1.rep F u1 x.1 → e2.rep F u2 x.2.1 → e3.rep F u3 x.2.2.1 → e4.rep F u4 x.2.2.2.1 → e5.rep F u5 x.2.2.2.2 → t [u1, u2, u3, u4, u5] σ H QS) : gTup K 5 t v σ H QS := by
  obtain ⟨a, v1, v2, v3, v4, v5, rfl, h0, h1, h2, h3, h4, h5⟩ := h
  exact ⟨a, [v1, v2, v3, v4, v5], rfl, SqT.of (l _ _ h0), rfl, q v1 v2 v3 v4 v5 h1 h2 h3 h4 h5⟩
end
def eP6 {α β γ δ ε ζ : Type} (e1 : Enc α) (e2 : Enc β) (e3 : Enc γ) (e4 : Enc δ) (e5 : Enc ε) (e6 : Enc ζ) : Enc (α × β × γ × δ × ε × ζ) := ⟨fun F v x => ∃ a v1 v2 v3 v4 v5 v6, v = .ref a ∧ F a = some (.tup [v1, v2, v3, v4, v5, v6]) ∧ e1.rep F v1 x.1 ∧ e2.rep F v2 x.2.1 ∧ e3.rep F v3 x.2.2.1 ∧ e4.rep F v4 x.2.2.2.1 ∧ e5.rep F v5 x.2.2.2.2.1 ∧ e6.rep F v6 x.2.2.2.2.2, fun l ⟨a, v1, v2, v3, v4, v5, v6, h, h0, h1, h2, h3, h4, h5, h6⟩ => ⟨a, v1, v2, v3, v4, v5, v6, h, l _ _ h0, e1.mono l h1, e2.mono l h2, e3.mono l h3, e4.mono l h4, e5.mono l h5, e6.mono l h6⟩⟩
instance {α β γ δ ε ζ : Type} {e1 : Enc α} {e2 : Enc β} {e3 : Enc γ} {e4 : Enc δ} {e5 : Enc ε} {e6 : Enc ζ} : NN (eP6 e1 e2 e3 e4 e5 e6) := ⟨fun ⟨_, _, _, _, _, _, _, h, _⟩ => nomatch h⟩
section
variable {K : PySem.W.Frag} {F H : Hp} {α β γ δ ε ζ : Type} {e1 : Enc α} {e2 : Enc β} {e3 : Enc γ} {e4 : Enc δ} {e5 : Enc ε} {e6 : Enc ζ} {v : V} {x : α × β × γ × δ × ε × ζ} {Q : VK} {σ : L2.St}
theorem y_ix60 (l : Le F H) (h : (eP6 e1 e2 e3 e4 e5 e6).rep F v x) (q : ∀ u, e1.rep F u x.1 → Q u H) : rIxT K v (.int 0) H Q := by
  obtain ⟨a, v1, v2, v3, v4, v5, v6, rfl, h0, h1, h2, h3, h4, h5, h6⟩ := h
  exact x_ixT (l _ _ h0) rfl (q _ h1)
theorem y_ix61 (l : Le F H) (h : (eP6 e1 e2 e3 e4 e5 e6).rep F v x) (q : ∀ u, e2.rep F u x.2.1 → Q u H) : rIxT K v (.int 1) H Q := by
  obtain ⟨a, v1, v2, v3, v4, v5, v6, rfl, h0, h1, h2, h3, h4, h5, h6⟩ := h
  exact x_ixT (l _ _ h0) rfl (q _ h2)
theorem y_ix62 (l : Le F H) (h : (eP6 e1 e2 e3 e4 e5 e6).rep F v x) (q : ∀ u, e3.rep F u x.2.2.1 → Q u H) : rIxT K v (.int 2) H Q := by
  obtain ⟨a, v1, v2, v3, v4, v5, v6, rfl, h0, h1, h2, h3, h4, h5, h6⟩ := h
  exact x_ixT (l _ _ h0) rfl (q _ h3)
theorem y_ix63 (l : Le F H) (h : (eP6 e1 e2 e3 e4 e5 e6).rep F v x) (q : ∀ u, e4.rep F u x.2.2.2.1 → Q u H) : rIxT K v (.int 3) H Q := by
  obtain ⟨a, v1, v2, v3, v4, v5, v6, rfl, h0, h1, h2, h3, h4, h5, h6⟩ := h
  exact x_ixT (l _ _ h0) rfl (q _ h4)
theorem y_ix64 (l : Le F H) (h : (eP6 e1 e2 e3 e4 e5 e6).rep F v x) (q : ∀ u, e5.rep F u x.2.2.2.2.1 → Q u H) : rIxT K v (.int 4) H Q := by
  obtain ⟨a, v1, v2, v3, v4, v5, v6, rfl, h0, h1, h2, h3, h4, h5, h6⟩ := h
  exact x_ixT (l _ _ h0) rfl (q _ h5)
theorem y_ix65 (l : Le F H) (h : (eP6 e1 e2 e3 e4 e5 e6).rep F v x) (q : ∀ u, e6.rep F u x.2.2.2.2.2 → Q u H) : rIxT K v (.int 5) H Q := by
  obtain ⟨a, v1, v2, v3, v4, v5, v6, rfl, h0, h1, h2, h3, h4, h5, h6⟩ := h
  exact x_ixT (l _ _ h0) rfl (q _ h6)
theorem y_un6 {t : TGs} {QS : L2.St → Hp → Prop} (l : Le F H) (h : (eP6 e1 e2 e3 e4 e5 e6).rep F v x) (q : ∀ u1 u2 u3 u4 u5 u6, e1.rep F u1 x.1 → e2.rep F u2 x.2.1 → e3.rep F u3 x.2.2.1 → e4.rep F u4 x.2.2.2.1 → e5.rep F u5 x.2.2.2.2.1 → e6.rep F u6 x.2.2.2.2.2 → t [u1, u2, u3, u4, u5, u6] σ H QS) : gTup K 6 t v σ H QS := by
  obtain ⟨a, v1, v2, v3, v4, v5, v6, rfl, h0, h1, h2, h3, h4, h5, h6⟩ := h
  exact ⟨a, [v1, v2, v3, v4, v5, v6], rfl, SqT.of (l _ _ h0), rfl, q v1 v2 v3 v4 v5 v6 h1 h2 h3 h4 h5 h6⟩
end

/-! ### dicts -/
def rDget : V → V → Hp → VK → Prop := fun x y H Q => ∃ a v, x = .ref a ∧ DGet H a y (some v) ∧ Q v H
theorem x_dget {td ty : TE} {σ : L2.St} {H : Hp} {Q : VK} (q : td σ H fun x H1 => ty σ H1 fun y H2 => rDget x y H2 Q) : tDGet td ty σ H Q := q
def rDg : Addr → V → V → Hp → VK → Prop := fun a y z H Q => ∃ o, DGet H a y o ∧ Q (o.getD z) H
def rDget2 : V → V → V → Hp → VK → Prop := fun x y z H Q => ∃ a o, x = .ref a ∧ DGet H a y o ∧ Q (o.getD z) H
theorem x_dget2 {td ty tx : TE} {σ : L2.St} {H : Hp} {Q : VK} (q : td σ H fun x H1 => ∃ a, x = .ref a ∧ IsD H1 a ∧ ty σ H1 fun y H2 => tx σ H2 fun z H3 => rDg a y z H3 Q) : tDGet2 td ty tx σ H Q := q
def rDin : V → V → Hp → VK → Prop := fun y x H Q => ∃ a o, x = .ref a ∧ DGet H a y o ∧ Q (.bl o.isSome) H
theorem x_din {td ty : TE} {σ : L2.St} {H : Hp} {Q : VK} (q : ty σ H fun y H1 => td σ H1 fun x H2 => rDin y x H2 Q) : tDIn ty td σ H Q := q
theorem x_dnewT {σ : L2.St} {H : Hp} {Q : VK} {B F : Hp} {R : List (Addr × HO)} (O : Fz B F H R) (q : ∀ p H', Fz B F H' ((p, .dT []) :: R) → Q (.ref p) H') : tDNewT σ H Q := fun p hp => q p _ (O.mut hp)
/-! records -/
def rDisp : Addr → List (V × V) → Hp → VK → Prop := fun p ps H Q => H p = some (.dK []) ∧ ∃ kvs : List (Key × V), ps = kvs.map (fun kv => (kV kv.1, kv.2)) ∧ kvs.length ≤ 15 ∧ Q (.ref p) (upd H p (.dK (mergeK [] kvs)))
/-- a dict that is being written -/
theorem y_disp {trs : List (TE × TE)} {σ : L2.St} {H : Hp} {Q : VK} {B F : Hp} {R : List (Addr × HO)} (O : Fz B F H R) (q : ∀ p H', Fz B F H' ([(p, .dK [])] ++ R) → tPairs trs σ H' fun ps H2 => rDisp p ps H2 Q) : tDisp trs σ H Q := fun p hp => q p _ (O.mut hp)
theorem y_dispE {H : Hp} {Q : VK} {B F : Hp} {R : List (Addr × HO)} {p : Addr} {ps : List (V × V)} (O : Fz B F H R) (j : Nat) (hj : R[j]? = some (p, .dK [])) (kvs : List (Key × V)) (h1 : ps = kvs.map (fun kv => (kV kv.1, kv.2))) (h2 : kvs.length ≤ 15) (h3 : mergeK [] kvs = kvs)
    (q : ∀ F' H', Ex B F F' → F' p = some (.dK kvs) → Fz B F' H' (R.eraseIdx j) → Q (.ref p) H') : rDisp p ps H Q := by
  refine ⟨O.get j hj, kvs, h1, h2, ?_⟩
  rw [h3]
  have O2 := O.put j hj (.dK kvs)
  have hj2 : (R.set j (p, HO.dK kvs))[j]? = some (p, .dK kvs) := by
    rw [List.getElem?_set_self (by rw [List.getElem?_eq_some_iff] at hj; exact hj.1)]
  refine y_frz O2 j hj2 fun F' l hp O => q F' _ l hp ?_
  rw [List.eraseIdx_set_eq] at O
  exact O
def eR2 {α β : Type} (k1 : Str) (e1 : Enc α) (k2 : Str) (e2 : Enc β) : Enc (α × β) := ⟨fun F v x => ∃ a v1 v2, v = .ref a ∧ F a = some (.dK [(.inr k1, v1), (.inr k2, v2)]) ∧ e1.rep F v1 x.1 ∧ e2.rep F v2 x.2, fun l ⟨a, v1, v2, h, h0, h1, h2⟩ => ⟨a, v1, v2, h, l _ _ h0, e1.mono l h1, e2.mono l h2⟩⟩
section
variable {K : PySem.W.Frag} {F H : Hp} {α β : Type} {k1 : Str} {e1 : Enc α} {k2 : Str} {e2 : Enc β} {v : V} {x : α × β} {Q : VK} {σ : L2.St} {y : Str}
theorem y_rix20 (l : Le F H) (h : (eR2 k1 e1 k2 e2).rep F v x) (hk : ∀ v1 v2 : V, valV ([(.inr k1, v1), (.inr k2, v2)] : List (Key × V)) (.inr y) = some v1) (q : ∀ u, e1.rep F u x.1 → Q u H) : rDget v (.str y) H Q := by
  obtain ⟨a, v1, v2, rfl, h0, h1, h2⟩ := h
  exact ⟨a, v1, rfl, (hk v1 v2) ▸ DGet.k (k := Sum.inr y) (l _ _ h0), q _ h1⟩
theorem y_rix21 (l : Le F H) (h : (eR2 k1 e1 k2 e2).rep F v x) (hk : ∀ v1 v2 : V, valV ([(.inr k1, v1), (.inr k2, v2)] : List (Key × V)) (.inr y) = some v2) (q : ∀ u, e2.rep F u x.2 → Q u H) : rDget v (.str y) H Q := by
  obtain ⟨a, v1, v2, rfl, h0, h1, h2⟩ := h
  exact ⟨a, v2, rfl, (hk v1 v2) ▸ DGet.k (k := Sum.inr y) (l _ _ h0), q _ h2⟩
end
def eR3 {α β γ : Type} (k1 : Str) (e1 : Enc α) (k2 : Str) (e2 : Enc β) (k3 : Str) (e3 : Enc γ) : Enc (α × β × γ) := ⟨fun F v x => ∃ a v1 v2 v3, v = .ref a ∧ F a = some (.dK [(.inr k1, v1), (.inr k2, v2), (.inr k3, v3)]) ∧ e1.rep F v1 x.1 ∧ e2.rep F v2 x.2.1 ∧ e3.rep F v3 x.2.2, fun l ⟨a, v1, v2, v3, h, h0, h1, h2, h3⟩ => ⟨a, v1, v2, v3, h, l _ _ h0, e1.mono l h1, e2.mono l h2, e3.mono l h3⟩⟩
section
variable {K : PySem.W.Frag} {F H : Hp} {α β γ : Type} {k1 : Str} {e1 : Enc α} {k2 : Str} {e2 : Enc β} {k3 : Str} {e3 : Enc γ} {v : V} {x : α × β × γ} {Q : VK} {σ : L2.St} {y : Str}
theorem y_rix30 (l : Le F H) (h : (eR3 k1 e1 k2 e2 k3 e3).rep F v x) (hk : ∀ v1 v2 v3 : V, valV ([(.inr k1, v1), (.inr k2, v2), (.inr k3, v3)] : List (Key × V)) (.inr y) = some v1) (q : ∀ u, e1.rep F u x.1 → Q u H) : rDget v (.str y) H Q := by
  obtain ⟨a, v1, v2, v3, rfl, h0, h1, h2, h3⟩ := h
  exact ⟨a, v1, rfl, (hk v1 v2 v3) ▸ DGet.k (k := Sum.inr y) (l _ _ h0), q _ h1⟩
theorem y_rix31 (l : Le F H) (h : (eR3 k1 e1 k2 e2 k3 e3).rep F v x) (hk : ∀ v1 v2 v3 : V, valV ([(.inr k1, v1), (.inr k2, v2), (.inr k3, v3)] : List (Key × V)) (.inr y) = some v2) (q : ∀ u, e2.rep F u x.2.1 → Q u H) : rDget v (.str y) H Q := by
  obtain ⟨a, v1, v2, v3, rfl, h0, h1, h2, h3⟩ := h
  exact ⟨a, v2, rfl, (hk v1 v2 v3) ▸ DGet.k (k := Sum.inr y) (l _ _ h0), q _ h2⟩
theorem y_rix32 (l : Le F H) (h : (eR3 k1 e1 k2 e2 k3 e3).rep F v x) (hk : ∀ v1 v2 v3 : V, valV ([(.inr k1, v1), (.inr k2, v2), (.inr k3, v3)] : List (Key × V)) (.inr y) = some v3) (q : ∀ u, e3.rep F u x.2.2 → Q u H) : rDget v (.str y) H Q := by
  obtain ⟨a, v1, v2, v3, rfl, h0, h1, h2, h3⟩ := h
  exact ⟨a, v3, rfl, (hk v1 v2 v3) ▸ DGet.k (k := Sum.inr y) (l _ _ h0), q _ h3⟩
end
def eR4 {α β γ δ : Type} (k1 : Str) (e1 : Enc α) (k2 : Str) (e2 : Enc β) (k3 : Str) (e3 : Enc γ) (k4 : Str) (e4 : Enc δ) : Enc (α × β × γ × δ) := ⟨fun F v x => ∃ a v1 v2 v3 v4, v = .ref a ∧ F a = some (.dK [(.inr k1, v1), (.inr k2, v2), (.inr k3, v3), (.inr k4, v4)]) ∧ e1.rep F v1 x.1 ∧ e2.rep F v2 x.2.1 ∧ e3.rep F v3 x.2.2.1 ∧ e4.rep F v4 x.2.2.2, fun l ⟨a, v1, v2, v3, v4, h, h0, h1, h2, h3, h4⟩ => ⟨a, v1, v2, v3, v4, h, l _ _ h0, e1.mono l h1, e2.mono l h2, e3.mono l h3, e4.mono l h4⟩⟩
section
variable {K : PySem.W.Frag} {F H : Hp} {α β γ δ : Type} {k1 : Str} {e1 : Enc α} {k2 : Str} {e2 : Enc β} {k3 : Str} {e3 : Enc γ} {k4 : Str} {e4 : Enc δ} {v : V} {x : α × β × γ × δ} {Q : VK} {σ : L2.St} {y : Str}
theorem y_rix40 (l : Le F H) (h : (eR4 k1 e1 k2 e2 k3 e3 k4 e4).rep F v x) (hk : ∀ v1 v2 v3 v4 : V, valV ([(.inr k1, v1), (.inr k2, v2), (.inr k3, v3), (.inr k4, v4)] : List (Key × V)) (.inr y) = some v1) (q : ∀ u, e1.rep F u x.1 → Q u H) : rDget v (.str y) H Q := by
  obtain ⟨a, v1, v2, v3, v4, rfl, h0, h1, h2, h3, h4⟩ := h
  exact ⟨a, v1, rfl, (hk v1 v2 v3 v4) ▸ DGet.k (k := Sum.inr y) (l _ _ h0), q _ h1⟩
theorem y_rix41 (l : Le F H) (h : (eR4 k1 e1 k2 e2 k3 e3 k4 e4).rep F v x) (hk : ∀ v1 v2 v3 v4 : V, valV ([(.inr k1, v1), (.inr k2, v2), (.inr k3, v3), (.inr k4, v4)] : List (Key × V)) (.inr y) = some v2) (q : ∀ u, e2.rep F u x.2.1 → Q u H) : rDget v (.str y) H Q := by
  obtain ⟨a, v1, v2, v3, v4, rfl, h0, h1, h2, h3, h4⟩ := h
  exact ⟨a, v2, rfl, (hk v1 v2 v3 v4) ▸ DGet.k (k := Sum.inr y) (l _ _ h0), q _ h2⟩
theorem y_rix42 (l : Le F H) (h : (eR4 k1 e1 k2 e2 k3 e3 k4 e4).rep F v x) (hk : ∀ v1 v2 v3 v4 : V, valV ([(.inr k1, v1), (.inr k2, v2), (.inr k3, v3), (.inr k4, v4)] : List (Key × V)) (.inr y) = some v3) (q : ∀ u, e3.rep F u x.2.2.1 → Q u H) : rDget v (.str y) H Q := by
  obtain ⟨a, v1, v2, v3, v4, rfl, h0, h1, h2, h3, h4⟩ := h
  exact ⟨a, v3, rfl, (hk v1 v2 v3 v4) ▸ DGet.k (k := Sum.inr y) (l _ _ h0), q _ h3⟩
theorem y_rix43 (l : Le F H) (h : (eR4 k1 e1 k2 e2 k3 e3 k4 e4).rep F v x) (hk : ∀ v1 v2 v3 v4 : V, valV ([(.inr k1, v1), (.inr k2, v2), (.inr k3, v3), (.inr k4, v4)] : List (Key × V)) (.inr y) = some v4) (q : ∀ u, e4.rep F u x.2.2.2 → Q u H) : rDget v (.str y) H Q := by
  obtain ⟨a, v1, v2, v3, v4, rfl, h0, h1, h2, h3, h4⟩ := h
  exact ⟨a, v4, rfl, (hk v1 v2 v3 v4) ▸ DGet.k (k := Sum.inr y) (l _ _ h0), q _ h4⟩
end

/-! dicts whose keys are tuples -/
structure KE (κ : Type) where
  key : κ → List Key
  inj : ∀ a b, key a = key b → a = b
  rep : Hp → V → κ → Prop
  tup : ∀ {F H : Hp} {v : V} {x : κ}, Le F H → rep F v x → ∃ b, v = .ref b ∧ H b = some (.tup ((key x).map kV))
def dGet {κ β : Type} [DecidableEq κ] (d : List (κ × β)) (k : κ) : Option β := (d.find? fun y => decide (y.1 = k)).map (·.2)
def dPut {κ β : Type} [DecidableEq κ] (d : List (κ × β)) (k : κ) (v : β) : List (κ × β) := if d.any (fun y => decide (y.1 = k)) then d.map (fun y => if y.1 = k then (y.1, v) else y) else d ++ [(k, v)]
inductive RD {κ β : Type} (f : κ → List Key) (P : V → β → Prop) : List (List Key × V) → List (κ × β) → Prop
  | nil : RD f P [] []
  | cons {k : κ} {v : V} {x : β} {vs : List (List Key × V)} {xs : List (κ × β)} : P v x → RD f P vs xs → RD f P ((f k, v) :: vs) ((k, x) :: xs)
section
variable {κ β : Type} {f : κ → List Key} {P P' : V → β → Prop} {vs us : List (List Key × V)} {xs ys : List (κ × β)} {v : V} {x : β} {k : κ}
theorem RD.mono (h : ∀ v x, P v x → P' v x) (r : RD f P vs xs) : RD f P' vs xs := by
  induction r with
  | nil => exact .nil
  | cons a _ ih => exact .cons (h _ _ a) ih
theorem RD.len (r : RD f P vs xs) : vs.length = xs.length := by
  induction r with
  | nil => rfl
  | cons _ _ ih => rw [List.length_cons, List.length_cons, ih]
theorem RD.get [DecidableEq κ] (hf : ∀ a b, f a = f b → a = b) (r : RD f P vs xs) (k : κ) : (∃ v x, valV vs (f k) = some v ∧ dGet xs k = some x ∧ P v x) ∨ (valV vs (f k) = none ∧ dGet xs k = none) := by
  induction r with
  | nil => exact .inr ⟨rfl, rfl⟩
  | @cons k' v' x' vs' xs' a _ ih =>
    by_cases h : k' = k
    · subst h
      left
      refine ⟨v', x', ?_, ?_, a⟩
      · unfold valV; rw [List.find?_cons_of_pos (by simp)]; rfl
      · unfold dGet; rw [List.find?_cons_of_pos (by simp)]; rfl
    · have h2 : f k' ≠ f k := fun e => h (hf _ _ e)
      rcases ih with ⟨v, x, h3, h4, h5⟩ | ⟨h3, h4⟩
      · left
        refine ⟨v, x, ?_, ?_, h5⟩
        · unfold valV at h3 ⊢; rw [List.find?_cons_of_neg (by simp [h2])]; exact h3
        · unfold dGet at h4 ⊢; rw [List.find?_cons_of_neg (by simp [h])]; exact h4
      · right
        refine ⟨?_, ?_⟩
        · unfold valV at h3 ⊢; rw [List.find?_cons_of_neg (by simp [h2])]; exact h3
        · unfold dGet at h4 ⊢; rw [List.find?_cons_of_neg (by simp [h])]; exact h4
theorem RD.any [DecidableEq κ] (hf : ∀ a b, f a = f b → a = b) (r : RD f P vs xs) (k : κ) : (vs.any fun y => decide (y.1 = f k)) = xs.any fun y => decide (y.1 = k) := by
  induction r with
  | nil => rfl
  | @cons k' v' x' vs' xs' a _ ih =>
    rw [List.any_cons, List.any_cons, ih]
    by_cases h : k' = k
    · subst h; simp
    · have h2 : f k' ≠ f k := fun e => h (hf _ _ e)
      simp [h, h2]
theorem RD.map [DecidableEq κ] (hf : ∀ a b, f a = f b → a = b) (r : RD f P vs xs) (k : κ) (h : P v x) : RD f P (vs.map fun y => if y.1 = f k then (y.1, v) else y) (xs.map fun y => if y.1 = k then (y.1, x) else y) := by
  induction r with
  | nil => exact .nil
  | @cons k' v' x' vs' xs' a _ ih =>
    rw [List.map_cons, List.map_cons]
    by_cases h1 : k' = k
    · subst h1
      rw [if_pos rfl, if_pos rfl]
      exact .cons h ih
    · have h2 : f k' ≠ f k := fun e => h1 (hf _ _ e)
      rw [if_neg h2, if_neg h1]
      exact .cons a ih
theorem RD.snoc (r : RD f P vs xs) (k : κ) (h : P v x) : RD f P (vs ++ [(f k, v)]) (xs ++ [(k, x)]) := by
  induction r with
  | nil => exact .cons h .nil
  | cons a _ ih => exact .cons a ih
theorem RD.put [DecidableEq κ] (hf : ∀ a b, f a = f b → a = b) (r : RD f P vs xs) (k : κ) (h : P v x) : RD f P (putK vs (f k) v) (dPut xs k x) := by
  unfold putK dPut
  rw [r.any hf k]
  split
  · exact r.map hf k h
  · exact r.snoc k h
end
def eDT {κ β : Type} (c : KE κ) (e : Enc β) : Enc (List (κ × β)) := ⟨fun F v xs => ∃ a vs, v = .ref a ∧ F a = some (.dT vs) ∧ RD c.key (e.rep F) vs xs, fun l ⟨a, vs, h1, h2, h3⟩ => ⟨a, vs, h1, l _ _ h2, h3.mono fun _ _ => e.mono l⟩⟩
def kIC : KE (Int × Nat) := ⟨fun x => [.inl x.1, .inr (sg x.2)], fun a b h => by
  injection h with h1 h2
  injection h2 with h2 h3
  have e1 := Sum.inl.inj h1
  have e2 := congrArg (fun z : Str => tl z) (Sum.inr.inj h2)
  have e3 : a.2 = b.2 := by
    have : [a.2] = [b.2] := e2
    exact List.head_eq_of_cons_eq this
  exact Prod.ext e1 e3, (eP2 eInt eChr).rep, fun l ⟨a, v1, v2, h, h0, h1, h2⟩ => by
  cases h1; cases h2
  exact ⟨a, h, l _ _ h0⟩⟩
def kICI : KE (Int × Nat × Int) := ⟨fun x => [.inl x.1, .inr (sg x.2.1), .inl x.2.2], fun a b h => by
  injection h with h1 h2
  injection h2 with h2 h3
  injection h3 with h3 h4
  have e1 := Sum.inl.inj h1
  have e4 := Sum.inl.inj h3
  have e2 := congrArg (fun z : Str => tl z) (Sum.inr.inj h2)
  have e3 : a.2.1 = b.2.1 := by
    have : [a.2.1] = [b.2.1] := e2
    exact List.head_eq_of_cons_eq this
  exact Prod.ext e1 (Prod.ext e3 e4), (eP3 eInt eChr eInt).rep, fun l ⟨a, v1, v2, v3, h, h0, h1, h2, h3⟩ => by
  cases h1; cases h2; cases h3
  exact ⟨a, h, l _ _ h0⟩⟩
section
variable {K : PySem.W.Frag} {B F G H : Hp} {R : List (Addr × HO)} {κ β : Type} [DecidableEq κ] {c : KE κ} {e : Enc β} {v w z : V} {d : List (κ × β)} {k : κ} {x y : β} {Q : VK} {Qh : Hp → Prop} {p : Addr} {kvs : List (List Key × V)}
theorem eDT_get (l : Le G H) (lk : Le F H) (h : (eDT c e).rep G v d) (hk : c.rep F w k) : ∃ a, v = .ref a ∧ ((∃ u x, DGet H a w (some u) ∧ dGet d k = some x ∧ e.rep G u x) ∨ (DGet H a w none ∧ dGet d k = none)) := by
  obtain ⟨a, vs, rfl, ha, r⟩ := h
  obtain ⟨b, rfl, hb⟩ := c.tup lk hk
  refine ⟨a, rfl, ?_⟩
  rcases r.get c.inj k with ⟨u, x, h1, h2, h3⟩ | ⟨h1, h2⟩
  · exact .inl ⟨u, x, h1 ▸ DGet.t (l _ _ ha) hb, h2, h3⟩
  · exact .inr ⟨h1 ▸ DGet.t (l _ _ ha) hb, h2⟩
theorem y_dget (l : Le G H) (lk : Le F H) (h : (eDT c e).rep G v d) (hk : c.rep F w k) (hx : dGet d k = some x) (q : ∀ u, e.rep G u x → Q u H) : rDget v w H Q := by
  obtain ⟨a, rfl, hh⟩ := eDT_get l lk h hk
  rcases hh with ⟨u, x', h1, h2, h3⟩ | ⟨h1, h2⟩
  · rw [hx] at h2; cases h2; exact ⟨a, u, rfl, h1, q _ h3⟩
  · rw [hx] at h2; cases h2
theorem isD_eDT (l : Le G H) (h : (eDT c e).rep G v d) : ∃ a, v = .ref a ∧ IsD H a := by
  obtain ⟨a, vs, rfl, ha, r⟩ := h
  exact ⟨a, rfl, .inr ⟨vs, .inl (l _ _ ha)⟩⟩
/-- d.get(k, z) -/
theorem y_dget2 {a : Addr} (l : Le G H) (lk : Le F H) (h : (eDT c e).rep G (.ref a) d) (hk : c.rep F w k) (hz : e.rep G z y) (q : ∀ u, e.rep G u ((dGet d k).getD y) → Q u H) : ∃ o, DGet H a w o ∧ Q (o.getD z) H := by
  obtain ⟨a', ha, hh⟩ := eDT_get l lk h hk
  cases ha
  rcases hh with ⟨u, x', h1, h2, h3⟩ | ⟨h1, h2⟩
  · exact ⟨_, h1, q _ (by rw [h2]; exact h3)⟩
  · exact ⟨_, h1, q _ (by rw [h2]; exact hz)⟩
theorem y_din (l : Le G H) (lk : Le F H) (h : (eDT c e).rep G v d) (hk : c.rep F w k) (q : Q (.bl (dGet d k).isSome) H) : rDin w v H Q := by
  obtain ⟨a, rfl, hh⟩ := eDT_get l lk h hk
  rcases hh with ⟨u, x', h1, h2, h3⟩ | ⟨h1, h2⟩
  · exact ⟨a, _, rfl, h1, by rw [h2] at q; exact q⟩
  · exact ⟨a, _, rfl, h1, by rw [h2] at q; exact q⟩
theorem vwD (O : Fz B F H R) (j : Nat) (hj : R[j]? = some (p, .dT kvs)) (r : RD c.key (e.rep F) kvs d) : (eDT c e).rep (upd F p (.dT kvs)) (.ref p) d := ⟨p, kvs, rfl, upd_same, r.mono fun _ _ => e.mono (O.exF j hj).le⟩
theorem y_dput (O : Fz B F H R) (j : Nat) (hj : R[j]? = some (p, .dT kvs)) (r : RD c.key (e.rep F) kvs d) (hk : c.rep F w k) (hx : e.rep F v x) (hl : d.length < sizeLine) (q : ∀ us H', RD c.key (e.rep F) us (dPut d k x) → Fz B F H' (R.set j (p, .dT us)) → Qh H') : rSetD (.ref p) w v H Qh := by
  obtain ⟨b, rfl, hb⟩ := c.tup O.leF hk
  exact ⟨p, _, rfl, DPut.t (O.get j hj) hb (by rw [r.len]; exact hl), q _ _ (r.put c.inj k hx) (O.put j hj _)⟩
end
@[reducible] def W.get {κ β ρ : Type} [DecidableEq κ] (d : List (κ × β)) (k : κ) (f : β → W ρ) : W ρ := fun K => ∃ x, dGet d k = some x ∧ f x K
def rIslower : V → List V → Hp → VK → Prop := fun x xs H Q => ∃ a, x = .str a ∧ xs = [] ∧ True ∧ Q (.bl (Txt.islower a)) H
theorem mtIslower {X : Cx} : MtR X "str.islower" rIslower := mt_islower
theorem x_islower {z : Str} {H : Hp} {Q : VK} (q : Q (.bl (Txt.islower z)) H) : rIslower (.str z) [] H Q := ⟨z, rfl, rfl, trivial, q⟩
section
variable {K : PySem.W.Frag} {B F H : Hp} {R : List (Addr × HO)} {α : Type} {e : Enc α} {v : V} {xs : List α} {Q : VK} {te : TE} {σ : L2.St} {vs : List V} {p : Addr}
def rRevL (K : PySem.W.Frag) : V → Hp → VK → Prop := fun x H Q => ∃ a xs, x = .ref a ∧ SqL K H a xs ∧ ∀ p, H p = none → Q (.ref p) (upd H p (.lst xs.reverse))
theorem x_rev (q : te σ H fun x H1 => rRevL K x H1 Q) : tRevL K te σ H Q := q
theorem y_revL (O : Fz B F H R) (h : (eLst e).rep F v xs) (q : ∀ p F' H', (eLst e).rep F' (.ref p) xs.reverse → Ex B F F' → Fz B F' H' R → Q (.ref p) H') : rRevL K v H Q := by
  obtain ⟨a, vs, rfl, ha, r⟩ := h
  exact ⟨a, vs, rfl, SqL.of (O.leF _ _ ha), fun p hp => q p _ _ ⟨p, _, rfl, upd_same, r.rev.mono fun _ _ => e.mono (O.exN hp).le⟩ (O.exN hp) (O.frz hp)⟩
/-- list(xs): a new open list -/
theorem y_listOfO (O : Fz B F H R) (h : (eLst e).rep F v xs) (q : ∀ p us H', RL (e.rep F) us xs → Fz B F H' ([(p, .lst us)] ++ R) → Q (.ref p) H') : rListOf K [v] H Q := by
  obtain ⟨a, vs, rfl, ha, r⟩ := h
  exact ⟨a, vs, rfl, .inl (SqL.of (O.leF _ _ ha)), fun p hp => q p vs _ r (O.mut hp)⟩
end
end NF


/-! What is never reached; isinstance of (tuple, list); len of tuples. -/
namespace NF
open PySem PySem.Spec PyProof.Rows L2 TL
theorem ps_dead {X : Cx} {s : Stmt} : PS X s (fun _ _ _ => False) := ⟨fun _ _ _ _ _ _ h => h.elim⟩
@[reducible] def W.no {α : Type} : W α := fun _ => False
/-- what stands for a tuple (n parts, if that is known) -/
class IsTup {α : Type} (e : Enc α) (n : outParam (α → Nat)) where
  tup : ∀ {F : Hp} {v : V} {x : α}, e.rep F v x → ∃ a xs, v = .ref a ∧ F a = some (.tup xs) ∧ xs.length = n x
section
variable {α β γ δ ε ζ : Type} {e1 : Enc α} {e2 : Enc β} {e3 : Enc γ} {e4 : Enc δ} {e5 : Enc ε} {e6 : Enc ζ}
instance : IsTup (eTup e1) List.length := ⟨fun ⟨a, vs, h, ha, r⟩ => ⟨a, vs, h, ha, r.len⟩⟩
instance : IsTup (eP2 e1 e2) (fun _ => 2) := ⟨fun ⟨a, _, _, h, ha, _⟩ => ⟨a, _, h, ha, rfl⟩⟩
instance : IsTup (eP3 e1 e2 e3) (fun _ => 3) := ⟨fun ⟨a, _, _, _, h, ha, _⟩ => ⟨a, _, h, ha, rfl⟩⟩
instance : IsTup (eP4 e1 e2 e3 e4) (fun _ => 4) := ⟨fun ⟨a, _, _, _, _, h, ha, _⟩ => ⟨a, _, h, ha, rfl⟩⟩
instance : IsTup (eP5 e1 e2 e3 e4 e5) (fun _ => 5) := ⟨fun ⟨a, _, _, _, _, _, h, ha, _⟩ => ⟨a, _, h, ha, rfl⟩⟩
instance : IsTup (eP6 e1 e2 e3 e4 e5 e6) (fun _ => 6) := ⟨fun ⟨a, _, _, _, _, _, _, h, ha, _⟩ => ⟨a, _, h, ha, rfl⟩⟩
end
section
variable {K : PySem.W.Frag} {F H : Hp} {α : Type} {e : Enc α} {v : V} {x : α} {Q : VK} {tp : Addr}
def rIsTT (K : PySem.W.Frag) : List V → Hp → VK → Prop := rIsiT K
theorem callIsTT {X : Cx} : CallR X (.builtin "isinstance") (rIsTT X.K) := call_isiT
theorem y_isTT {n : α → Nat} [T : IsTup e n] (l : Le F H) (h : e.rep F v x) (ht : H tp = some (.tup [.ty "tuple", .ty "list"])) (q : Q (.bl true) H) : rIsTT K [v, .ref tp] H Q := by
  obtain ⟨a, xs, rfl, ha, _⟩ := IsTup.tup h
  exact ⟨_, tp, _, _, _, true, rfl, ht, .cons (.ty _) (.cons (.ty _) .nil), .base (.tup (l _ _ ha)), by rfl, q⟩
theorem y_lenP {n : α → Nat} [T : IsTup e n] (l : Le F H) (h : e.rep F v x) (q : Q (.int (n x : Int)) H) : rLen K [v] H Q := by
  obtain ⟨a, xs, rfl, ha, hn⟩ := IsTup.tup h
  rw [← hn] at q
  exact x_lenT (l _ _ ha) q
end
/-- a new tuple that nobody keeps -/
theorem y_tmp {B F H : Hp} {R : List (Addr × HO)} {vs : List V} {Q : VK} (O : Fz B F H R) (hz : vs.length ≤ sizeLine) (q : ∀ p H', H' p = some (.tup vs) → Fz B F H' R → Q (.ref p) H') : newT vs H Q := ⟨hz, fun p hp => q p _ upd_same (O.ignore hp)⟩
end NF
namespace NF
open PySem PySem.Spec PyProof.Rows L2 TL
theorem y_chain {tc : TE} {r' : R2} {y : V} {σ : L2.St} {H : Hp} {Q : VK} {b1 b2 : Bool} (h : ∀ Q' : VK, Q' (.bl b2) H → tc σ H fun w' H4 => r' y w' H4 Q') (q : Q (.bl (b1 && b2)) H) : ∃ k, V.bl b1 = .bl k ∧ if k = true then tc σ H fun w' H4 => r' y w' H4 Q else Q (.bl false) H := by
  refine ⟨b1, rfl, ?_⟩
  cases b1 with
  | true => rw [if_pos rfl]; exact h Q q
  | false => rw [if_neg (by simp)]; exact q
theorem x_pair {tk tv : TE} {trs : List (TE × TE)} {σ : L2.St} {H : Hp} {Q : List (V × V) → Hp → Prop} (q : tk σ H fun k H1 => tv σ H1 fun v H2 => tPairs trs σ H2 fun ps H3 => Q ((k, v) :: ps) H3) : tPairs ((tk, tv) :: trs) σ H Q := q
theorem x_pair0 {σ : L2.St} {H : Hp} {Q : List (V × V) → Hp → Prop} (q : Q [] H) : tPairs [] σ H Q := q
end NF
namespace NF
open PySem PySem.Spec PyProof.Rows L2 TL
section
variable {F G H : Hp} {κ β : Type} [DecidableEq κ] {c : KE κ} {e : Enc β} {v w z : V} {d : List (κ × β)} {k : κ} {y : β} {Q : VK} {a : Addr} {Z : Prop}
theorem y_isD (l : Le G H) (h : (eDT c e).rep G v d) (q : ∀ a, v = .ref a → IsD H a → Z) : Z := by
  obtain ⟨a, h1, h2⟩ := isD_eDT l h
  exact q a h1 h2
theorem y_dget2v (hv : v = .ref a) (l : Le G H) (lk : Le F H) (h : (eDT c e).rep G v d) (hk : c.rep F w k) (hz : e.rep G z y) (q : ∀ u, e.rep G u ((dGet d k).getD y) → Q u H) : rDg a w z H Q := by
  subst hv
  exact y_dget2 l lk h hk hz q
end
end NF

/-! Open dicts with text keys; pop(0); what is walked in K. -/
namespace NF
open PySem PySem.Spec PyProof.Rows L2 TL
section
variable {K : PySem.W.Frag} {B F H : Hp} {R : List (Addr × HO)} {p : Addr} {kvs kvs' : List (Key × V)} {k : Str} {v : V} {Q : VK} {Qh : Hp → Prop}
theorem y_rget (O : Fz B F H R) (j : Nat) (hj : R[j]? = some (p, .dK kvs)) (hv : valV kvs (.inr k) = some v) (q : Q v H) : rDget (.ref p) (.str k) H Q := ⟨p, v, rfl, hv ▸ DGet.k (k := Sum.inr k) (O.get j hj), q⟩
theorem y_rput (O : Fz B F H R) (j : Nat) (hj : R[j]? = some (p, .dK kvs)) (hp : putK kvs (.inr k) v = kvs') (hl : kvs.length < sizeLine) (q : ∀ H', Fz B F H' (R.set j (p, .dK kvs')) → Qh H') : rSetD (.ref p) (.str k) v H Qh := by
  subst hp
  exact ⟨p, _, rfl, DPut.k (k := Sum.inr k) (O.get j hj) hl, q _ (O.put j hj _)⟩
theorem y_pop0 {u : V} {us : List V} (O : Fz B F H R) (j : Nat) (hj : R[j]? = some (p, .lst (u :: us))) (q : ∀ H', Fz B F H' (R.set j (p, .lst us)) → Q u H') : rPopAt (.ref p) [.int 0] H Q :=
  ⟨p, _, 0, 0, u, rfl, rfl, O.get j hj, by decide, by decide, by unfold seqIndex?; simp, rfl, q _ (O.put j hj _)⟩
end
/-- the law's script: a list of numbers in K or in the heap -/
def eScr (K : PySem.W.Frag) : Enc (List Int) := ⟨fun F v xs => ∃ a, v = .ref a ∧ SqL K F a (xs.map V.int), fun l ⟨a, h1, h2⟩ => ⟨a, h1, sqL_le l h2⟩⟩
end NF
namespace NF
open PySem PySem.Spec PyProof.Rows L2 TL
theorem Fz.reW {B F H : Hp} {W W' R : List (Addr × HO)} (e : W = W') (O : Fz B F H (W ++ R)) : Fz B F H (W' ++ R) := e ▸ O
theorem reS {α : Type} {M N X Y : List α} (h : M = N) (e : X = Y) : M ++ X = N ++ Y := by rw [h, e]
end NF

/-! Own classes: made with arguments; methods that may raise; __call__. -/
namespace NF
open PySem PySem.Spec PyProof.Rows L2
/-- a method that may raise -/
structure DefMX (P : Program) (w : World) (K : PySem.W.Frag) (mg : Str → Option Value) (base : Heap) (k : Nat) (x m : Str) (ps : List Str) (sp : Sp) : Prop where
  ex : ∃ f fd, Cls K (cad mg x) ∧ Meth K (cad mg x) m f ∧ FnOk P w K mg base (L2N.CX P w) k f fd ps sp ∧ Binds K fd ps []
def tMethX (C : Addr) (m : Str) (sp : Sp) (W : WX) (ta : TE) (t : TA) : TE := fun σ H Q => ta σ H fun x H1 => ∃ a dx fs, x = .ref a ∧ H1 a = some (.ins C dx fs) ∧ fs.lookup m = none ∧ t σ H1 fun vs H2 => sp (x :: vs) H2 Q (fun cls d H3 => W cls d σ H3)
section
variable {X : Cx} {mg : Str → Option Value} {k : Nat} {x m : Str} {ps : List Str} {sp : Sp} {p pos apos : Pos} {o e : Expr} {es : List Expr} {ta : TE} {t : TA} {W : WX}
theorem pe_mtX (D : DefMX X.prog X.w X.K mg X.base k x m ps sp) (hX : X.mg = mg) (hr : Room k X.A) (tk : L2N.Takes X W) (he : PE X o ta) (ha : PA X (e :: es) t) {pl : Sem Bool}
    (hst : starEach (e :: es) X.env = (false, eval e X.env) :: starEach es X.env := by rfl) (hpl : (backTo pos (starEach es X.env)).any (·.1) = false := by rfl)
    (ht : eval (.Call (.Attribute o m apos) (e :: es) [] pos) X.env = (do
      let ov ← eval o X.env
      standAt apos.atName
      let (f, first) ← holding [ov] (getMethod ov m pl)
      callWith pos f first (backTo pos (starEach (e :: es) X.env)) (backToKw pos (keywordEach [] X.env))) := by rfl) : PE X (.Call (.Attribute o m apos) (e :: es) [] pos) (tMethX (cad mg x) m sp W ta t) := by
  subst hX
  obtain ⟨f, fd, c, M, F, hb⟩ := D.ex
  refine ⟨fun pins s σ H Q I h => ?_⟩
  refine methcall_of (pe_cutE he) I (te := tCutE ta) ⟨_, h, ?_⟩ ht
  rintro v H1 ⟨a, dx, fs, rfl, ha1, hl1, h⟩
  refine ⟨a, _, dx, fs, f, rfl, ha1, c, M, hl1, fun s1 I1 => ?_⟩
  refine PySem.W.callWith_K (h₀ := X.base) I1.ok.mod.kin M.kp (thn (ha.run pos pins s1 σ H1 _ I1 h) fun us s2 ⟨vs, H2, I2, r, q⟩ => ⟨I2.kIn, ?_⟩) hst hpl
  show wpAny _ _ (call (.ref f) (.ref a :: us)) _ _ _
  have r2 : Vals (V.ref a :: vs) (.ref a :: us) := .cons rfl r
  have hl : (Value.ref a :: us).length = ps.length := by rw [← r2.length]; exact F.len _ _ _ _ q
  have hb2 := hb s2 (Value.ref a :: us) I2.kIn (by rw [List.append_nil]; exact hl)
  rw [List.append_nil] at hb2
  refine wpAny_call (codeAny_mono (F.run X.A X.stack s2 H2 ⟨.ref a :: us, []⟩ (.ref a :: us) (V.ref a :: vs) Q _ hr I2.env0 hb2 r2 q) fun r s' hq => ?_)
  cases r with
  | error er => exact L2N.passAt tk σ pins H2 s2 er s' I2 hq
  | ok fl =>
    cases fl with
    | ret u => exact I2.after hq
    | next => exact False.elim hq
    | brk => exact False.elim hq
    | cont => exact False.elim hq
end
theorem x_methX {C : Addr} {m : Str} {sp : Sp} {W : WX} {ta : TE} {t : TA} {σ : L2.St} {H : Hp} {Q : VK} (q : ta σ H fun x H1 => ∃ a dx fs, x = .ref a ∧ H1 a = some (.ins C dx fs) ∧ fs.lookup m = none ∧ t σ H1 fun vs H2 => sp (x :: vs) H2 Q (fun cls d H3 => W cls d σ H3)) : tMethX C m sp W ta t σ H Q := q
end NF
/-! ### what the head knows of a class -/
namespace NF
open PySem PySem.Spec PyProof.Rows L2 PySem.W
/-- a class whose __init__ has one default -/
structure OClsD (K : PySem.W.Frag) (C : Addr) (flds : List Str) (qi : Str) (sI : Stmt) : Prop where
  cl : Cls K C
  nf : ∀ f ∈ flds, NoAttr K C f
  ini : ∃ f fd dv, Mk K C f ∧ FunD K "__init__" qi (defArgs sI) (defBody sI) (defScope sI) [dv] [] f fd
theorem oclsD_mk {K : Frag} {C f T : Addr} {flds : List Str} {qi : Str} {sI : Stmt} {oc kV doc pm cdv ct oc2 dw : Value} {od an od2 : Option Addr} {osl sl2 : Array (Option Value)} {n : Nat} {dv : V} (ini : findIn K (.ref C) "__init__" = some (some (.ref f)))
    (lk : K.lookup f = some ⟨oc, od, .func (fnOf "__init__" qi (defArgs sI) (defBody sI) (defScope sI) (.ref T) kV doc pm an cdv ct), osl⟩) (cd : codeIn K cdv qi = true) (h5 : K.lookup T = some ⟨oc2, od2, .seq #[dw] n, sl2⟩) (h6 : RelV dv dw) (hk : kV = .none) (hb : ocB K C f flds = true) : OClsD K C flds qi sI := by
  unfold ocB at hb
  simp only [Bool.and_eq_true, decide_eq_true_eq, List.all_eq_true] at hb
  obtain ⟨b1, b2, b3, b4, b5, b6, b7, b8, b9⟩ := hb
  subst hk
  exact ⟨⟨b1, b2, b3, b4⟩, b5, f, _, dv, ⟨b6, ini, b7, b8⟩, ⟨⟨oc, od, .ref T, .none, doc, pm, an, cdv, ct, osl, rfl, lk, cd, .inr ⟨List.cons_ne_nil _ _, T, _, [dw], n, rfl, h5, rfl, .cons h6 .nil⟩, .inl rfl⟩, b9⟩⟩
theorem oclsD_at {K : Frag} {h : Heap} {mg : Str → Option Value} {x : Str} {c : Addr} {flds : List Str} {qi : Str} {sI : Stmt} (X : K.In h) (G : h.Ns mainGlobals mg) (n : nsIn K mainGlobals x = some (some (.ref c))) (o : OClsD K c flds qi sI) : OClsD K (cad mg x) flds qi sI := by
  rw [cad_eq (mg_of X G n)]
  exact o
section
variable {P : Program} {w : World} {K : PySem.W.Frag} {mg : Str → Option Value} {base : Heap}
theorem MkX.makeD {x qual : Str} {st : Stmt} {N ps : List Str} {k : Nat} {sp : Sp} {f : Addr} {fd : FuncData} {dv : V} (hm : mg x = some (.ref (cad mg x))) (M : Mk K (cad mg x) f) (F : FunD K "__init__" qual (defArgs st) (defBody st) (defScope st) [dv] [] f fd) (S : FnScope N ps (defScope st)) (len : ∀ vs H Q E, sp vs H Q E → vs.length = ps.length)
    (hbind : ∀ (T : Addr) (kV doc pm : Value) (an : Option Addr) (cdv ct : Value) (us its : List Value), us.length = ps.length → its.length = [dv].length →
      ∃ k, bindArgs (PySem.W.fnOf "__init__" qual (defArgs st) (defBody st) (defScope st) (.ref T) kV doc pm an cdv ct) ⟨us, []⟩ = seqItems? (.ref T) >>= k ∧ k (some its.toArray) = pure (ps.zip (us ++ its.drop 1)))
    (hbody : ∀ {f : Addr} (cdv : Value) (A : Around) (outer : List Env) (s : Shared) (H : Hp) (vs : List V) (Q : VK) (E : XK), Room k (A.deeper (envOfC qual (defScope st) s.heap.objs.size f cdv)) → sp vs H Q E →
      L2N.Takes (cxOf (L2N.CX P w) P w K mg base N qual (defScope st) f cdv A outer s H E) (fun cls d _ H' => E cls d H') → PassesOwn (model P w) (A.deeper (envOfC qual (defScope st) s.heap.objs.size f cdv)) (envOfC qual (defScope st) s.heap.objs.size f cdv) (cxOf (L2N.CX P w) P w K mg base N qual (defScope st) f cdv A outer s H E).xe →
      ∃ t, PSs (cxOf (L2N.CX P w) P w K mg base N qual (defScope st) f cdv A outer s H E) (defBody st) t ∧ t { nx := fun _ H' => Q .non H', rt := Q } (start N vs) H) : MkX P w K mg base (k + 1) x ps sp := by
  obtain ⟨ds, hv, hb⟩ := F.binds1 (ps := ps) ps.length 1 (List.cons_ne_nil _ _) (by simp) hbind
  have hd : ds = [] := by
    have h2 : Vals ([] : List V) ds := hv
    cases h2
    rfl
  subst hd
  obtain ⟨oc, od, dV, kV, doc, pm, an, cdv, ct, osl, rfl, lk, hcd, hD, hK⟩ := F.ex
  exact ⟨f, _, M, fn_of lk hcd S len fun A outer s H vs Q E hr hsp => hbody cdv A outer s H vs Q E hr hsp (L2N.takes_of rfl rfl rfl rfl) (passes_of rfl), hm, hb⟩
theorem DefMX.make {x m qual : Str} {st : Stmt} {N ps : List Str} {k : Nat} {sp : Sp} {f : Addr} {fd : FuncData} (c : Cls K (cad mg x)) (M : Meth K (cad mg x) m f) (F : Fun K m qual st f fd) (S : FnScope N ps (defScope st)) (len : ∀ vs H Q E, sp vs H Q E → vs.length = ps.length)
    (hbind : ∀ (kV doc pm : Value) (an : Option Addr) (cdv ct : Value) (us : List Value), us.length = ps.length → bindArgs (PySem.W.fnOf m qual (defArgs st) (defBody st) (defScope st) .none kV doc pm an cdv ct) ⟨us, []⟩ = pure (ps.zip us))
    (hbody : ∀ {f : Addr} (cdv : Value) (A : Around) (outer : List Env) (s : Shared) (H : Hp) (vs : List V) (Q : VK) (E : XK), Room k (A.deeper (envOfC qual (defScope st) s.heap.objs.size f cdv)) → sp vs H Q E →
      L2N.Takes (cxOf (L2N.CX P w) P w K mg base N qual (defScope st) f cdv A outer s H E) (fun cls d _ H' => E cls d H') → PassesOwn (model P w) (A.deeper (envOfC qual (defScope st) s.heap.objs.size f cdv)) (envOfC qual (defScope st) s.heap.objs.size f cdv) (cxOf (L2N.CX P w) P w K mg base N qual (defScope st) f cdv A outer s H E).xe →
      ∃ t, PSs (cxOf (L2N.CX P w) P w K mg base N qual (defScope st) f cdv A outer s H E) (defBody st) t ∧ t { nx := fun _ H' => Q .non H', rt := Q } (start N vs) H) : DefMX P w K mg base (k + 1) x m ps sp := by
  obtain ⟨oc, od, kV, doc, pm, an, cdv, ct, osl, rfl, lk, hcd⟩ := F.ex
  exact ⟨f, _, c, M, fn_of lk hcd S len fun A outer s H vs Q E hr hsp => hbody cdv A outer s H vs Q E hr hsp (L2N.takes_of rfl rfl rfl rfl) (passes_of rfl), F.binds hbind⟩
/-- a property with a body of its own -/
structure PrG (P : Program) (w : World) (K : PySem.W.Frag) (mg : Str → Option Value) (base : Heap) (k : Nat) (x f : Str) (ps : List Str) (sp : Sp) : Prop where
  ex : ∃ p g fd, Cls K (cad mg x) ∧ PropOf K (cad mg x) f p g ∧ FnOk P w K mg base CX0 k g fd ps sp ∧ Binds K fd ps []
theorem PrG.make {x f qual : Str} {st : Stmt} {N ps : List Str} {k : Nat} {sp : Sp} (c : Cls K (cad mg x)) (h : OPrp K (cad mg x) f qual st) (S : FnScope N ps (defScope st)) (len : ∀ vs H Q E, sp vs H Q E → vs.length = ps.length)
    (hbind : ∀ (kV doc pm : Value) (an : Option Addr) (cdv ct : Value) (us : List Value), us.length = ps.length → bindArgs (PySem.W.fnOf f qual (defArgs st) (defBody st) (defScope st) .none kV doc pm an cdv ct) ⟨us, []⟩ = pure (ps.zip us))
    (hbody : ∀ {f : Addr} (cdv : Value) (A : Around) (outer : List Env) (s : Shared) (H : Hp) (vs : List V) (Q : VK) (E : XK), Room k (A.deeper (envOfC qual (defScope st) s.heap.objs.size f cdv)) → sp vs H Q E →
      ∃ t, PSs (cxOf CX0 P w K mg base N qual (defScope st) f cdv A outer s H E).nox (defBody st) t ∧ t { nx := fun _ H' => Q .non H', rt := Q } (start N vs) H) : PrG P w K mg base (k + 1) x f ps sp := by
  obtain ⟨p, g, fd, hp, F⟩ := h
  exact ⟨p, g, fd, c, hp, F.ok S len fun cdv A outer s H vs Q E hr h => hbody cdv A outer s H vs Q E hr h, F.binds hbind⟩
theorem oprp_at {h : Heap} {x f qual : Str} {c : Addr} {st : Stmt} (X : K.In h) (G : h.Ns mainGlobals mg) (n : nsIn K mainGlobals x = some (some (.ref c))) (o : OPrp K c f qual st) : OPrp K (cad mg x) f qual st := by
  rw [cad_eq (mg_of X G n)]
  exact o
/-- an instance that is called -/
def OCal (K : PySem.W.Frag) (C : Addr) (qual : Str) (st : Stmt) : Prop := ∃ f fd, StX.CallO K C f ∧ Fun K "__call__" qual st f fd
theorem ocal_mk {C f : Addr} {qual : Str} {st : Stmt} {oc kV doc pm cdv ct : Value} {od an : Option Addr} {osl : Array (Option Value)} (at_ : findIn K (.ref C) "__call__" = some (some (.ref f)))
    (lk : K.lookup f = some ⟨oc, od, .func (fnOf "__call__" qual (defArgs st) (defBody st) (defScope st) .none kV doc pm an cdv ct), osl⟩) (cd : codeIn K cdv qual = true) (hb : (isFn K (.ref f) && (fnIn K f && keepIn K (.ref f))) = true) : OCal K C qual st := by
  simp only [Bool.and_eq_true] at hb
  exact ⟨f, _, ⟨at_, hb.1, hb.2.1⟩, fun_mk lk cd hb.2.2⟩
theorem ocal_at {h : Heap} {x qual : Str} {c : Addr} {st : Stmt} (X : K.In h) (G : h.Ns mainGlobals mg) (n : nsIn K mainGlobals x = some (some (.ref c))) (o : OCal K c qual st) : OCal K (cad mg x) qual st := by
  rw [cad_eq (mg_of X G n)]
  exact o
structure DefC (P : Program) (w : World) (K : PySem.W.Frag) (mg : Str → Option Value) (base : Heap) (k : Nat) (x : Str) (ps : List Str) (sp : Sp) : Prop where
  ex : ∃ f fd, StX.CallO K (cad mg x) f ∧ FnOk P w K mg base CX0 k f fd ps sp ∧ Binds K fd ps []
theorem DefC.make {x qual : Str} {st : Stmt} {N ps : List Str} {k : Nat} {sp : Sp} (h : OCal K (cad mg x) qual st) (S : FnScope N ps (defScope st)) (len : ∀ vs H Q E, sp vs H Q E → vs.length = ps.length)
    (hbind : ∀ (kV doc pm : Value) (an : Option Addr) (cdv ct : Value) (us : List Value), us.length = ps.length → bindArgs (PySem.W.fnOf "__call__" qual (defArgs st) (defBody st) (defScope st) .none kV doc pm an cdv ct) ⟨us, []⟩ = pure (ps.zip us))
    (hbody : ∀ {f : Addr} (cdv : Value) (A : Around) (outer : List Env) (s : Shared) (H : Hp) (vs : List V) (Q : VK) (E : XK), Room k (A.deeper (envOfC qual (defScope st) s.heap.objs.size f cdv)) → sp vs H Q E →
      ∃ t, PSs (cxOf CX0 P w K mg base N qual (defScope st) f cdv A outer s H E).nox (defBody st) t ∧ t { nx := fun _ H' => Q .non H', rt := Q } (start N vs) H) : DefC P w K mg base (k + 1) x ps sp := by
  obtain ⟨f, fd, c, F⟩ := h
  exact ⟨f, fd, c, F.ok S len fun cdv A outer s H vs Q E hr h => hbody cdv A outer s H vs Q E hr h, F.binds hbind⟩
end
section
variable {X : Cx} {mg : Str → Option Value} {k : Nat} {x m f : Str} {ps : List Str} {sp : Sp} {p pos apos : Pos} {o e : Expr} {es : List Expr} {ta : TE} {t : TA}
theorem pe_prg (D : PrG X.prog X.w X.K mg X.base k x f ps sp) (hX : X.mg = mg) (hr : Room (k + 1) X.A) (he : PE X e ta) (hab : attributeBase e f X.env (eval e X.env) = eval e X.env := by rfl) : PE X (.Attribute e f pos) (tProp (cad mg x) sp [] E0 ta) := by
  subst hX
  obtain ⟨p, g, fd, c, hp, F, hb⟩ := D.ex
  exact pe_prop (E := E0) he c hp F hr hb .nil pass0 hab
theorem pe_cal {fe : Expr} {tf : TE} (D : DefC X.prog X.w X.K mg X.base k x ps sp) (hX : X.mg = mg) (hr : Room k X.A) (he : PE X fe tf) (ha : PA X (e :: es) t)
    (ht : eval (.Call fe (e :: es) [] pos) X.env = (do
      let f ← eval fe X.env
      callWith pos f [] (backTo pos (starEach (e :: es) X.env)) (backToKw pos (keywordEach [] X.env))) := by rfl)
    (hst : starEach (e :: es) X.env = (false, eval e X.env) :: starEach es X.env := by rfl) (hpl : (backTo pos (starEach es X.env)).any (·.1) = false := by rfl) : PE X (.Call fe (e :: es) [] pos) (StX.tCallO X (cad mg x) (fun vs H Q E => sp (vs ++ []) H Q E) E0 tf t) := by
  subst hX
  obtain ⟨f, fd, c, F, hb⟩ := D.ex
  exact StX.pe_callO (E := E0) he c (FnOk.raw F hb .nil) hr pass0 ha ht hst hpl
end
end NF
namespace NF
open PySem PySem.Spec PyProof.Rows L2
theorem pe_mkp {X : Cx} {mg : Str → Option Value} {k : Nat} {x : Str} {ps : List Str} {sp : Sp} {p pos : Pos} {e : Expr} {es : List Expr} {t : TA} (D : MkP X.prog X.w X.K mg X.base k x ps sp) (hX : X.mg = mg) (hr : Room (k + 1) X.A) (hg : Gl X x) (ha : PA X (e :: es) t) (hdb : (x == ("__debug__" : Str)) = false := by decide)
    (he : starEach (e :: es) X.env = (false, eval e X.env) :: starEach es X.env := by rfl) (hpl : (backTo pos (starEach es X.env)).any (·.1) = false := by rfl) : PE X (.Call (.Name x p) (e :: es) [] pos) (tMake (cad mg x) sp [] E0 t) := by
  subst hX
  obtain ⟨f, fd, M, F, hm, hb⟩ := D.ex
  exact pe_make M F hr hg hm hb .nil pass0 ha hdb he hpl
theorem x_make {C : Addr} {sp : Sp} {t : TA} {σ : L2.St} {H : Hp} {Q : VK} (q : t σ H fun vs H1 => ∀ x dx, H1 x = none → H1 dx = none → dx ≠ x → sp (.ref x :: (vs ++ [])) (upd (upd H1 dx (.own x)) x (.ins C dx [])) (fun v H2 => v = .non ∧ Q (.ref x) H2) E0) : tMake C sp [] E0 t σ H Q := q
end NF
namespace NF
open PySem PySem.Spec PyProof.Rows L2 TL
/-- behind the making of an object that is frozen by now -/
theorem Fz.made {B F F' H H' : Hp} {R : List (Addr × HO)} {x : Addr} {o : HO} (O : Fz B F H ((x, o) :: R)) (l : Le (del H x) H') (l' : Le F' H') (e : Ex (del H x) F F') : Fz B F' H' R ∧ Ex B F F' := by
  have hB := O.nB (x, o) List.mem_cons_self
  have hlB : Le B (del H x) := fun b v hb => by
    have n : b ≠ x := fun q => by rw [q] at hb; rw [show B x = none from hB] at hb; cases hb
    unfold del
    rw [if_neg n]
    exact O.leB b v hb
  have hR : ∀ y ∈ R, del H x y.1 = some y.2 := fun y hy => by
    have nd := O.nd
    rw [List.map_cons, List.nodup_cons] at nd
    have n : y.1 ≠ x := fun q => nd.1 (show x ∈ R.map Prod.fst from q ▸ List.mem_map_of_mem (f := Prod.fst) hy)
    unfold del
    rw [if_neg n]
    exact O.at_ y (List.mem_cons_of_mem _ hy)
  refine ⟨⟨hlB.trans l, l', (List.nodup_cons.mp O.nd).2, fun y hy => l _ _ (hR y hy), fun y hy => O.nB y (List.mem_cons_of_mem _ hy), fun y hy => e.new y.1 y.2 (O.nF y (List.mem_cons_of_mem _ hy)) (hR y hy)⟩, e.le, fun a u h1 h2 => e.new a u h1 (hlB a u h2)⟩
/-- a new object and its dict -/
theorem Fz.obj {B F H : Hp} {R : List (Addr × HO)} {x dx : Addr} {o u : HO} (O : Fz B F H R) (h1 : H x = none) (h2 : H dx = none) (n : dx ≠ x) : Fz B F (upd (upd H dx o) x u) ((x, u) :: R) := (O.ignore h2).mut (by rw [upd_ne (Ne.symm n)]; exact h1)
end NF
namespace NF
open PySem PySem.Spec PyProof.Rows L2
theorem x_aug {i : Nat} {a : V} {ti : TIp} {te : TE} {D : Ends} {σ : L2.St} {H : Hp} (h : σ[i]? = some (some a)) (q : te σ H fun y H1 => ti a y H1 fun z H2 => D.nx (σ.set i (some z)) H2) : tAug i te ti D σ H := ⟨_, h, q⟩
theorem x_ipI {a b : Int} {f : Int → Int → Int} {H : Hp} {Q : VK} (q : Q (.int (f a b)) H) : ipI f (.int a) (.int b) H Q := ⟨a, b, rfl, rfl, q⟩
end NF
namespace NF
/-- a call that never raises here -/
@[reducible] def W.bindN {α β : Type} (m : W (Except Exn α)) (f : α → W β) : W β := fun K => m fun r => match r with | .ok y => f y K | .error _ => False
end NF
namespace NF
open PySem PySem.Spec PyProof.Rows L2 TL
/-- what a call made stands open beside what was open -/
theorem Fz.newG {B F F' H H' : Hp} {R W : List (Addr × HO)} (O0 : Fz B F H R) (O : Fz H F' H' W) (e : Ex H F F') : Fz B F' H' (W ++ R) := by
  refine ⟨O0.leB.trans O.leB, O.leF, ?_, fun x hx => ?_, fun x hx => ?_, fun x hx => ?_⟩
  · rw [List.map_append]
    refine List.nodup_append.mpr ⟨O.nd, O0.nd, fun a ha b hb q => ?_⟩
    obtain ⟨y, hy, rfl⟩ := List.mem_map.mp ha
    obtain ⟨z, hz, rfl⟩ := List.mem_map.mp hb
    have h1 := O.nB y hy
    have h2 := O0.at_ z hz
    rw [← q, h1] at h2
    cases h2
  · rcases List.mem_append.mp hx with hx | hx
    · exact O.at_ x hx
    · exact O.leB _ _ (O0.at_ x hx)
  · rcases List.mem_append.mp hx with hx | hx
    · exact none_of_le O0.leB (O.nB x hx)
    · exact O0.nB x hx
  · rcases List.mem_append.mp hx with hx | hx
    · exact O.nF x hx
    · exact e.new x.1 x.2 (O0.nF x hx) (O0.at_ x hx)
end NF

/-! One of two; texts that are known; defs that look at open things; objects made by a call. -/
namespace NF
open PySem PySem.Spec PyProof.Rows L2 TL
@[reducible] def W.exc {α β ε : Type} (r : Except ε α) (f : α → W β) (g : ε → W β) : W β := fun K => (∀ y, r = .ok y → f y K) ∧ ∀ e, r = .error e → g e K
theorem excE {ε α : Type} {r : Except ε α} {P : Prop} (h1 : ∀ y, r = .ok y → P) (h2 : ∀ e, r = .error e → P) : P := by
  cases r with
  | ok y => exact h1 y rfl
  | error e => exact h2 e rfl
theorem Enc.at_eq {α : Type} {e : Enc α} {F : Hp} {v : V} {x y : α} (h : e.rep F v x) (he : x = y) : e.rep F v y := he ▸ h
theorem y_eqSt {H : Hp} {i j : Str} {b : Bool} {Q : VK} (hb : decide (i = j) = b) (q : Q (.bl b) H) : rEq (.str i) (.str j) H Q := y_eqS (by rw [hb]; exact q)
theorem y_neSt {H : Hp} {i j : Str} {b : Bool} {Q : VK} (hb : (!decide (i = j)) = b) (q : Q (.bl b) H) : rNe (.str i) (.str j) H Q := y_neS (by rw [hb]; exact q)
section
variable {B F G H H' : Hp} {R : List (Addr × HO)} {ι ρ : Type} {n : Nat} {A : Hp → List V → ι → Prop} {er : Enc ρ} {vs : List V} {Q : VK} {E : XK} {m : ι → W ρ} {K : ρ → Prop} {i : ι}
/-- a def that looks at open things only; what is frozen stays as it is -/
theorem use_spWvF (O : Fz B F H R) (lG : Le G H) (hl : vs.length = n) (hA : A G vs i) (k : m i K) (q : ∀ y v F' H', er.rep F' v y → Fz B F H' R → K y → Q v H') : spW n A er m vs H Q E :=
  ⟨hl, G, i, K, lG, hA, k, fun y hy v F' H' l1 l2 e r => q y v F' H' r (O.call l1 (O.leF.trans l1) Ex.rfl) hy⟩
/-- an open object that is another now, and a new one that it knows -/
theorem Fz.obj2 {x p : Addr} {o o' u : HO} (O : Fz B F H ((x, o) :: R)) (hp : H p = none) (k : ∀ b v, b ≠ x → H b = some v → H' b = some v) (h1 : H' x = some o') (h2 : H' p = some u) : Fz B F H' ([(x, o'), (p, u)] ++ R) := by
  have nB : ∀ (G : Hp), G x = none → Le G H → Le G H' := fun G hG l b v e => k b v (fun q => by rw [q, hG] at e; cases e) (l b v e)
  have hx := O.at_ _ (List.mem_cons_self ..)
  have hp1 := O.fresh hp
  have nd := O.nd
  simp only [List.map_cons, List.mem_cons, not_or, List.nodup_cons] at hp1 nd
  refine ⟨nB B (O.nB _ (List.mem_cons_self ..)) O.leB, nB F (O.nF _ (List.mem_cons_self ..)) O.leF, ?_, fun y hy => ?_, fun y hy => ?_, fun y hy => ?_⟩
  · simp only [List.cons_append, List.nil_append, List.map_cons, List.nodup_cons, List.mem_cons, not_or]
    exact ⟨⟨fun e => hp1.1 e.symm, nd.1⟩, hp1.2, nd.2⟩
  · rcases List.mem_cons.mp hy with rfl | hy
    · exact h1
    · rcases List.mem_cons.mp hy with rfl | hy
      · exact h2
      · exact k _ _ (fun q => nd.1 (q ▸ List.mem_map_of_mem (f := Prod.fst) hy)) (O.at_ y (List.mem_cons_of_mem _ hy))
  · rcases List.mem_cons.mp hy with rfl | hy
    · exact O.nB (x, o) (List.mem_cons_self ..)
    · rcases List.mem_cons.mp hy with rfl | hy
      · exact none_of_le O.leB hp
      · exact O.nB y (List.mem_cons_of_mem _ hy)
  · rcases List.mem_cons.mp hy with rfl | hy
    · exact O.nF (x, o) (List.mem_cons_self ..)
    · rcases List.mem_cons.mp hy with rfl | hy
      · exact none_of_le O.leF hp
      · exact O.nF y (List.mem_cons_of_mem _ hy)
/-- behind the arguments of X(..) -/
def rMade (C : Addr) (sp : Sp) (vs : List V) (E : XK) (H : Hp) (Q : VK) : Prop := ∀ x dx, H x = none → H dx = none → dx ≠ x → sp (.ref x :: vs) (upd (upd H dx (.own x)) x (.ins C dx [])) (fun v H2 => v = .non ∧ Q (.ref x) H2) E
theorem x_makeR {C : Addr} {sp : Sp} {t : TA} {σ : L2.St} (q : t σ H fun vs H1 => rMade C sp (vs ++ []) E0 H1 Q) : tMake C sp [] E0 t σ H Q := q
theorem x_makeXR {C : Addr} {sp : Sp} {W : WX} {t : TA} {σ : L2.St} (q : t σ H fun vs H1 => rMade C sp vs (fun cls d H2 => W cls d σ H2) H1 Q) : tMakeX C sp W t σ H Q := q
theorem x_cal {X : Cx} {C : Addr} {sp : Sp} {E : XK} {tf : TE} {t : TA} {σ : L2.St} (q : tf σ H fun y H1 => ∃ a, y = V.ref a ∧ t σ H1 fun vs H2 => StX.InsC X H2 a C ∧ sp (V.ref a :: vs) H2 Q E) : StX.tCallO X C sp E tf t σ H Q := q
end
end NF

/-! Plain side: loops and texts. -/
namespace NF
open PySem PySem.Spec PyProof.Rows L2 TL
section
variable {α β σ ρ : Type}
theorem forW_enumFrom {body : Int × α → σ → W (Ctl σ ρ)} {Kf : σ → Prop} {Kr : ρ → Prop} (I : Nat → List α → σ → Prop)
    (hs : ∀ k x r s (Kn : σ → Prop), I k (x :: r) s → (∀ s', I (k + 1) r s' → Kn s') → body ((k : Int), x) s (ctlK Kn Kf Kr)) (hd : ∀ k s, I k [] s → Kf s) :
    ∀ (xs : List α) (k : Nat) (s : σ), I k xs s → forW body Kf Kr ((xs.zipIdx k).map fun p => ((p.2 : Int), p.1)) s
  | [], k, s, h => hd k s h
  | x :: xs, k, s, h => hs k x xs s _ h fun s' h' => forW_enumFrom I hs hd xs (k + 1) s' h'
theorem forW_enum {body : Int × α → σ → W (Ctl σ ρ)} {Kf : σ → Prop} {Kr : ρ → Prop} {xs : List α} {s : σ} (I : Nat → List α → σ → Prop) (h : I 0 xs s)
    (hs : ∀ k x r s (Kn : σ → Prop), I k (x :: r) s → (∀ s', I (k + 1) r s' → Kn s') → body ((k : Int), x) s (ctlK Kn Kf Kr)) (hd : ∀ k s, I k [] s → Kf s) : forW body Kf Kr (enumT xs) s := forW_enumFrom I hs hd xs 0 s h
theorem rngT_nat (n : Nat) : rngT 0 (n : Int) = (List.range n).map fun i : Nat => (i : Int) := by
  unfold rngT
  have e : ((n : Int) - 0).toNat = n := by omega
  rw [e]
  exact List.map_congr_left fun i _ => Int.zero_add _
theorem forW_rngFrom {body : Int → σ → W (Ctl σ ρ)} {Kf : σ → Prop} {Kr : ρ → Prop} {n : Nat} (I : Nat → σ → Prop)
    (hs : ∀ k s (Kn : σ → Prop), k < n → I k s → (∀ s', I (k + 1) s' → Kn s') → body (k : Int) s (ctlK Kn Kf Kr)) (hd : ∀ s, I n s → Kf s) :
    ∀ (d k : Nat) (s : σ), k + d = n → I k s → forW body Kf Kr ((List.range' k d).map fun i : Nat => (i : Int)) s
  | 0, k, s, e, h => hd s (by rw [← e]; exact h)
  | d + 1, k, s, e, h => hs k s _ (by omega) h fun s' h' => forW_rngFrom I hs hd d (k + 1) s' (by omega) h'
theorem forW_rng {body : Int → σ → W (Ctl σ ρ)} {Kf : σ → Prop} {Kr : ρ → Prop} {m : Int} {n : Nat} {s : σ} (hm : m = (n : Int)) (I : Nat → σ → Prop) (h : I 0 s)
    (hs : ∀ k s (Kn : σ → Prop), k < n → I k s → (∀ s', I (k + 1) s' → Kn s') → body (k : Int) s (ctlK Kn Kf Kr)) (hd : ∀ s, I n s → Kf s) : forW body Kf Kr (rngT 0 m) s := by
  rw [hm, rngT_nat, List.range_eq_range']
  exact forW_rngFrom I hs hd n 0 s (by omega) h
/-- what stays of a list that is walked with a test -/
theorem compW_filter {body : α → W (Option β)} {K : List β → Prop} (f : α → Option β) (xs : List α) (hs : ∀ x ∈ xs, ∀ K, K (f x) → body x K) (h : K (xs.filterMap f)) : compW body K xs [] := by
  have go : ∀ (ys : List α) (acc : List β), (∀ x ∈ ys, x ∈ xs) → acc ++ ys.filterMap f = xs.filterMap f → compW body K ys acc := by
    intro ys
    induction ys with
    | nil => intro acc _ e; rw [List.filterMap_nil, List.append_nil] at e; rw [e]; exact h
    | cons y ys ih =>
      intro acc hm e
      refine hs y (hm y List.mem_cons_self) _ ?_
      cases hf : f y with
      | none => exact ih acc (fun x hx => hm x (List.mem_cons_of_mem _ hx)) (by rw [← e, List.filterMap_cons_none hf])
      | some z => exact ih (acc ++ [z]) (fun x hx => hm x (List.mem_cons_of_mem _ hx)) (by rw [← e, List.filterMap_cons_some hf]; simp)
  exact go xs [] (fun _ h => h) (by simp)
theorem at_ok {xs : List α} {i : Int} (h0 : 0 ≤ i) (h1 : i < (xs.length : Int)) {f : α → W β} {K : β → Prop} (k : ∀ x ∈ xs, f x K) : W.at_ xs i f K := by
  obtain ⟨c, h2, h3, h4⟩ := at_lt h0 h1
  exact ⟨c, h2, k c h4⟩
theorem atI_last (r : List α) (y : α) : atI (r ++ [y]) (-1) = some y := by
  unfold atI ixN
  have e : (-1 + ((r.length : Int) + 1)).toNat = r.length := by omega
  simp only [List.length_append, List.length_singleton]
  rw [if_neg (by omega), if_pos (by omega)]
  simp [e]
end
theorem ch_ok {z : Str} {i : Int} (h0 : 0 ≤ i) (h1 : i < (z.length : Int)) : ∃ c, atI (tl z) i = some c ∧ cS z i = c ∧ c ∈ tl z := by
  obtain ⟨c, h2, h3, h4⟩ := at_lt (l := tl z) h0 (by rw [← len_tl]; exact h1)
  exact ⟨c, h2, by unfold cS; rw [h2]; rfl, h4⟩
theorem cS_nat {z : Str} {i c : Nat} (h : (tl z)[i]? = some c) : atI (tl z) (i : Int) = some c ∧ cS z (i : Int) = c := by
  have e := atI_nat h
  exact ⟨e, by unfold cS; rw [e]; rfl⟩
theorem sg_inj {a b : Nat} : sg a = sg b ↔ a = b := ⟨fun h => by
  have e : [a] = [b] := congrArg tl h
  exact List.head_eq_of_cons_eq e, fun h => by rw [h]⟩
theorem tl_sg (c : Nat) : tl (sg c) = [c] := rfl
theorem len_sg (c : Nat) : (sg c).length = 1 := rfl
theorem len_e0 : (Str.ofString "").length = 0 := rfl
theorem tl_e0 : tl (Str.ofString "") = [] := rfl
theorem joinL_nil : ∀ ps : List (List Nat), joinL [] ps = ps.flatten
  | [] => rfl
  | [p] => by simp [joinL]
  | p :: q :: r => by
    have ih := joinL_nil (q :: r)
    show p ++ ([] ++ joinL [] (q :: r)) = _
    rw [ih]
    rfl
theorem tl_join0 (zs : List Str) : tl (Txt.join (Str.ofString "") zs) = (zs.map tl).flatten := by
  rw [join_eq, tl_join, tl_e0]
  exact joinL_nil _
theorem sum_len (zs : List Str) : (zs.map (·.length)).sum = (zs.map tl).flatten.length := by
  induction zs with
  | nil => rfl
  | cons z zs ih => rw [List.map_cons, List.sum_cons, ih, List.map_cons, List.flatten_cons, List.length_append, ← len_tl]
theorem len_join0 (zs : List Str) : (Txt.join (Str.ofString "") zs).length = (zs.map (·.length)).sum := by
  rw [len_tl, tl_join0, sum_len]
theorem join0_app (xs ys : List Str) : Txt.join (Str.ofString "") (xs ++ ys) = Txt.join (Str.ofString "") xs ++ Txt.join (Str.ofString "") ys := ext_tl (by
  rw [tl_join0, tl_append, tl_join0, tl_join0, List.map_append, List.flatten_append])
theorem join0_one (x : Str) : Txt.join (Str.ofString "") [x] = x := ext_tl (by rw [tl_join0]; simp)
theorem sum_le {l : List Str} {b : Nat} (h : ∀ x ∈ l, x.length ≤ b) : (l.map (·.length)).sum ≤ l.length * b := by
  induction l with
  | nil => simp
  | cons x l ih =>
    rw [List.map_cons, List.sum_cons, List.length_cons, Nat.succ_mul]
    have h1 := h x List.mem_cons_self
    have h2 := ih fun y hy => h y (List.mem_cons_of_mem _ hy)
    omega
theorem low_mem {c : Nat} : c ∈ tl (Str.ofString "abcdefgh") ↔ low c := by rw [tl_names]; exact mem_lo
theorem tl_closings : tl (Str.ofString "ABCDEFGH") = [65, 66, 67, 68, 69, 70, 71, 72] := by rw [tl_ofString]; decide +kernel
theorem upp_mem {c : Nat} : c ∈ tl (Str.ofString "ABCDEFGH") ↔ (65 ≤ c ∧ c ≤ 72) := by rw [tl_closings]; exact mem_up
theorem small_ok {n : Nat} (h : n ≤ 1000000) : n < sizeLine := by rw [sizeLine_eq]; omega
theorem small_le {n : Nat} (h : n ≤ 1000000) : n ≤ sizeLine := Nat.le_of_lt (small_ok h)
theorem upper_sg {c : Nat} (h : low c) : Txt.upper (sg c) = sg (c - 32) := upper_lo h
theorem rng62 {i : Int} (h0 : 0 ≤ i) (h1 : i ≤ 1000000) : -(2 ^ 62) ≤ i ∧ i < 2 ^ 62 := ⟨by omega, by omega⟩
theorem not_f {p : Prop} [Decidable p] (h : (!decide p) = false) : p := by simpa using h
theorem not_t {p : Prop} [Decidable p] (h : (!decide p) = true) : ¬ p := by simpa using h
theorem isEm {α : Type} {l : List α} : (!l.isEmpty) = false ↔ l = [] := by cases l <;> simp
theorem nisEm {α : Type} {l : List α} : (!l.isEmpty) = true ↔ l ≠ [] := by cases l <;> simp
end NF
namespace NF
open PySem L2 TL
theorem mem_rngT {n x : Int} (h : x ∈ rngT 0 n) : 0 ≤ x ∧ x < n := by
  unfold rngT at h
  obtain ⟨i, hi, rfl⟩ := List.mem_map.mp h
  have := List.mem_range.mp hi
  omega
theorem mul_small {z : Str} {n : Int} (hz : z.length ≤ 1000) (h0 : 0 ≤ n) (h1 : n ≤ 1000000) (h : z.length * n.toNat ≤ 1000000) : MulOk z n := ⟨by omega, by omega, by omega, small_le h⟩
theorem islo {c : Nat} (h : low c) : Txt.islower (sg c) = true := by
  rcases lo_cases h with rfl | rfl | rfl | rfl | rfl | rfl | rfl | rfl <;> decide +kernel
theorem isup {c : Nat} (h : 65 ≤ c ∧ c ≤ 72) : Txt.islower (sg c) = false := by
  rcases up_cases h with rfl | rfl | rfl | rfl | rfl | rfl | rfl | rfl <;> decide +kernel
theorem len_rngT (n : Int) : (rngT 0 n).length = n.toNat := by rw [rngT_len]; congr 1; omega
end NF

namespace NF
open PySem L2 TL
def top (i : Nat) : Stmt := PySem.Challenge.pw_nestform_k18_reading_in_pieces.main.body.getD i (.Pass ⟨0, 0, 0, 0⟩)
abbrev s_wall : Stmt := top 0
abbrev s_fault : Stmt := top 12
abbrev s_is_nested : Stmt := top 13
abbrev s_is_name : Stmt := top 14
abbrev s_is_letters : Stmt := top 15
abbrev s_checked : Stmt := top 16
abbrev s_is_mode : Stmt := top 20
abbrev s_is_piece : Stmt := top 21
abbrev s_is_rule : Stmt := top 22
abbrev s_rule_at : Stmt := top 23
abbrev s_is_exception : Stmt := top 24
abbrev s_copied : Stmt := top 25
abbrev s_checked_rules : Stmt := top 26
abbrev s_checked_exceptions : Stmt := top 27
abbrev s_whole_tables : Stmt := top 28
abbrev s_opening_of : Stmt := top 30
abbrev s_closing_of : Stmt := top 31
abbrev s_rewrite_letters : Stmt := top 32
abbrev s_result : Stmt := top 33
abbrev s_law_is_integer : Stmt := top 37
abbrev s_law_pot : Stmt := top 38
abbrev s_law_draw : Stmt := top 39
abbrev s_law_menu : Stmt := top 40
abbrev s_law_walk : Stmt := top 41
abbrev s_law_close : Stmt := top 42
abbrev s_law_opened : Stmt := top 43
abbrev s_law_mode : Stmt := top 44
abbrev s_law_strings : Stmt := top 45
abbrev s_law_rows : Stmt := top 46
abbrev s_law_before : Stmt := top 47
abbrev s_law_after : Stmt := top 48
abbrev s_law_extra : Stmt := top 49
abbrev s_law_model : Stmt := top 50
abbrev s_law_begin : Stmt := top 51
abbrev s_law_end : Stmt := top 52
abbrev s_law_try : Stmt := top 53
abbrev s_law_fresh : Stmt := top 54
abbrev s_law_call : Stmt := top 55
abbrev s_law_stands : Stmt := top 56
abbrev s_law_agrees : Stmt := top 57
abbrev s_law_each : Stmt := top 58
abbrev s_law_piece : Stmt := top 59
abbrev s_law_long : Stmt := top 60
abbrev s_law_large : Stmt := top 61
abbrev s_law_whole : Stmt := top 62
abbrev s_law : Stmt := top 63
abbrev s_Rewriting_init : Stmt := sub (top 29) 0
abbrev s_Rewriting_call : Stmt := sub (top 29) 5
abbrev s_Rewriter_init : Stmt := sub (top 35) 0
abbrev s_Rewriter_read : Stmt := sub (top 35) 1
abbrev s_Rewriter_current_mode : Stmt := sub (top 35) 2
abbrev s_Rewriter_depth : Stmt := sub (top 35) 3
abbrev s_Rewriter_first_wrong : Stmt := sub (top 35) 4
structure Txt (P : Program) (K : PySem.W.Frag) (mg : Str → Option Value) : Prop where
  b_ValueError : mg "ValueError" = none
  b_all : mg "all" = none
  b_bool : mg "bool" = none
  b_enumerate : mg "enumerate" = none
  b_int : mg "int" = none
  b_isinstance : mg "isinstance" = none
  b_len : mg "len" = none
  b_list : mg "list" = none
  b_max : mg "max" = none
  b_min : mg "min" = none
  b_range : mg "range" = none
  b_str : mg "str" = none
  b_tuple : mg "tuple" = none
  g_MODE_LIMIT : ∃ u, mg "MODE_LIMIT" = some u ∧ RelV (.int 64) u
  g_NAMES : ∃ u, mg "NAMES" = some u ∧ RelV (.str "abcdefgh") u
  g_PIECE_LIMIT : ∃ u, mg "PIECE_LIMIT" = some u ∧ RelV (.int 400) u
  g_TEXT_LIMIT : ∃ u, mg "TEXT_LIMIT" = some u ∧ RelV (.int 2000) u
  g_CLOSINGS : ∃ u, mg "_CLOSINGS" = some u ∧ RelV (.str "ABCDEFGH") u
  n_BadRule : mg "BadRule" = some (.ref (cad mg "BadRule"))
  n_NestError : mg "NestError" = some (.ref (cad mg "NestError"))
  n_NotNested : mg "NotNested" = some (.ref (cad mg "NotNested"))
  n_Rewriter : mg "Rewriter" = some (.ref (cad mg "Rewriter"))
  n_Rewriting : mg "Rewriting" = some (.ref (cad mg "Rewriting"))
  n_TooMany : mg "TooMany" = some (.ref (cad mg "TooMany"))
  o_Rewriting : OClsD K (cad mg "Rewriting") ["_modes", "_opening_rules", "_closing_rules"] "Rewriting.__init__" s_Rewriting_init
  o_Rewriter : OCls K (cad mg "Rewriter") ["_rewriting", "_mode", "_opened", "_count"] "Rewriter.__init__" s_Rewriter_init
  x_BadRule : XFact P K mg "BadRule" "wrong"
  x_NotNested : XFact P K mg "NotNested" "index"
  x_TooMany : XFact P K mg "TooMany" "limit"
  p_BadRule_NestError : XPair K (.ref (cad mg "BadRule")) (.ref (cad mg "NestError")) true
  p_BadRule_NotNested : XPair K (.ref (cad mg "BadRule")) (.ref (cad mg "NotNested")) false
  p_BadRule_ValueError : XPair K (.ref (cad mg "BadRule")) (.type "ValueError") true
  p_NotNested_NestError : XPair K (.ref (cad mg "NotNested")) (.ref (cad mg "NestError")) true
  p_NotNested_NotNested : XPair K (.ref (cad mg "NotNested")) (.ref (cad mg "NotNested")) true
  p_NotNested_ValueError : XPair K (.ref (cad mg "NotNested")) (.type "ValueError") true
  p_TooMany_NestError : XPair K (.ref (cad mg "TooMany")) (.ref (cad mg "NestError")) true
  p_TooMany_NotNested : XPair K (.ref (cad mg "TooMany")) (.ref (cad mg "NotNested")) false
  p_TooMany_ValueError : XPair K (.ref (cad mg "TooMany")) (.type "ValueError") true
/-! the walk's own steps -/
local macro_rules | `(tactic| walk_at "own") => `(tactic| first
  | assumption
  | (refine' NF.Own.get ?O 0 ?h; (case O => assumption); (case h => exact rfl))
  | (refine' NF.Own.get ?O 1 ?h; (case O => assumption); (case h => exact rfl))
  | (refine' NF.Own.get ?O 2 ?h; (case O => assumption); (case h => exact rfl))
  | (refine' NF.Own.get ?O 3 ?h; (case O => assumption); (case h => exact rfl))
  | (refine' NF.Own.get ?O 4 ?h; (case O => assumption); (case h => exact rfl))
  | (refine' NF.Own.get ?O 5 ?h; (case O => assumption); (case h => exact rfl)))
local macro_rules | `(tactic| walk_at "atn") => `(tactic| first | assumption | exact rfl | (exact L2.atI_nat (by assumption)))
local macro_rules | `(tactic| walk_at "len") => `(tactic| first
  | assumption
  | (simp only [List.length_cons, List.length_nil, List.length_append, List.length_map, NF.len_app, NF.len_mk, NF.len_ch, sizeLine_eq]; done)
  | (simp only [List.length_cons, List.length_nil, List.length_append, List.length_map, List.length_reverse, NF.len_app, NF.len_mk, NF.len_ch, sizeLine_eq]; omega)
  | (rw [sizeLine_eq]; omega)
  | decide
  | omega)
local macro_rules | `(tactic| walk_at "mul") => `(tactic| first | exact Or.inr ⟨by decide, by decide⟩ | exact Or.inl ⟨by decide, by decide⟩ | exact Or.inl ⟨by omega, by omega⟩ | exact Or.inr ⟨by omega, by omega⟩)
set_option hygiene false in
local macro_rules | `(tactic| walk_at "nO") => `(tactic| try dsimp only [List.set, List.cons_append, List.nil_append, List.append_nil, Int.reduceToNat] at O)
set_option hygiene false in
local macro_rules | `(tactic| walk_at "in2") => `(tactic| (intro H1 O; walk_at "nO"))
set_option hygiene false in
local macro_rules | `(tactic| walk_at "in4") => `(tactic| (intro p H1 hp O; walk_at "nO"))
local macro_rules | `(tactic| walk_at "mut") => `(tactic| first
  | ((with_reducible show rSetL _ _ _ _ _); first
      | (refine' NF.x_setL ?O 0 ?hk ?hi ?q; (case O => assumption); (case hk => exact rfl); (case hi => exact rfl); walk_at "in2")
      | (refine' NF.x_setL ?O 1 ?hk ?hi ?q; (case O => assumption); (case hk => exact rfl); (case hi => exact rfl); walk_at "in2")
      | (refine' NF.x_setL ?O 2 ?hk ?hi ?q; (case O => assumption); (case hk => exact rfl); (case hi => exact rfl); walk_at "in2")
      | (refine' NF.x_setL ?O 3 ?hk ?hi ?q; (case O => assumption); (case hk => exact rfl); (case hi => exact rfl); walk_at "in2"))
  | ((with_reducible show rAppend _ _ _ _); first
      | (refine' NF.x_append ?O 0 ?hk ?hz ?q; (case O => assumption); (case hk => exact rfl); (case hz => walk_at "len"); walk_at "in2")
      | (refine' NF.x_append ?O 1 ?hk ?hz ?q; (case O => assumption); (case hk => exact rfl); (case hz => walk_at "len"); walk_at "in2")
      | (refine' NF.x_append ?O 2 ?hk ?hz ?q; (case O => assumption); (case hk => exact rfl); (case hz => walk_at "len"); walk_at "in2")
      | (refine' NF.x_append ?O 3 ?hk ?hz ?q; (case O => assumption); (case hk => exact rfl); (case hz => walk_at "len"); walk_at "in2")))
local macro_rules | `(tactic| walk_at "new") => `(tactic| first
  | ((with_reducible show NF.newL _ _ _); refine' NF.x_newL ?O ?hz ?q; (case O => assumption); (case hz => walk_at "len"); walk_at "in4")
  | ((with_reducible show NF.newT _ _ _); refine' NF.x_newT ?O ?hz ?q; (case O => assumption); (case hz => walk_at "len"); walk_at "in4"))
local macro_rules | `(tactic| walk_at "isi") => `(tactic| ((with_reducible show NF.rIsT _ _ _ _); first
  | (refine' NF.x_isI ?hb ?_; (case hb => first | exact NF.kit_int_int | exact NF.kit_int_bool | exact NF.kit_int_str | exact NF.kit_int_list | exact NF.kit_int_tuple | exact NF.kit_int_dict))
  | (refine' NF.x_isB ?hb ?_; (case hb => first | exact NF.kit_bool_int | exact NF.kit_bool_bool | exact NF.kit_bool_str | exact NF.kit_bool_list | exact NF.kit_bool_tuple | exact NF.kit_bool_dict))
  | (refine' NF.x_isS ?hb ?_; (case hb => first | exact NF.kit_str_int | exact NF.kit_str_bool | exact NF.kit_str_str | exact NF.kit_str_list | exact NF.kit_str_tuple | exact NF.kit_str_dict))
  | (refine' NF.x_isNon ?hb ?_; (case hb => first | exact NF.kit_NoneType_int | exact NF.kit_NoneType_bool | exact NF.kit_NoneType_str | exact NF.kit_NoneType_list | exact NF.kit_NoneType_tuple | exact NF.kit_NoneType_dict))
  | (refine' NF.x_isL ?h ?hb ?_; (case h => walk_at "own"); (case hb => first | exact NF.kit_list_int | exact NF.kit_list_bool | exact NF.kit_list_str | exact NF.kit_list_list | exact NF.kit_list_tuple | exact NF.kit_list_dict))
  | (refine' NF.x_isT ?h ?hb ?_; (case h => walk_at "own"); (case hb => first | exact NF.kit_tuple_int | exact NF.kit_tuple_bool | exact NF.kit_tuple_str | exact NF.kit_tuple_list | exact NF.kit_tuple_tuple | exact NF.kit_tuple_dict))))
local macro_rules | `(tactic| walk_at "s1") => `(tactic| first
  | with_reducible refine NF.x_seq ?_
  | with_reducible refine NF.x_asg ?_
  | with_reducible refine NF.x_op ?_
  | ((with_reducible show tVar _ _ _ _); first | refine NF.x_var rfl ?_ | refine NF.x_var (by assumption) ?_)
  | with_reducible refine NF.x_c ?_
  | with_reducible refine NF.x_cons ?_
  | with_reducible refine NF.x_nil ?_
  | with_reducible refine NF.x_cb ?_
  | with_reducible refine NF.x_call ?_
  | with_reducible refine NF.x_callX ?_
  | with_reducible refine NF.x_chain ?_
  | with_reducible refine NF.x_mkX ?_
  | with_reducible refine NF.x_name ?_
  | with_reducible refine NF.x_sub ?_
  | with_reducible refine NF.x_drop ?_
  | with_reducible refine NF.x_ret ?_
  | with_reducible refine NF.x_retN ?_
  | with_reducible refine NF.x_next ?_
  | with_reducible refine NF.x_brk ?_
  | with_reducible refine NF.x_cnt ?_
  | with_reducible refine NF.x_ifs ?_
  | with_reducible refine NF.x_if ?_
  | with_reducible refine NF.x_test ?_
  | with_reducible refine NF.x_B ?_
  | with_reducible refine NF.x_not ?_
  | with_reducible refine NF.x_andV ?_
  | with_reducible refine NF.x_orV ?_
  | with_reducible refine NF.x_notV ?_
  | with_reducible refine NF.x_tru ?_
  | with_reducible refine NF.x_lst ?_
  | with_reducible refine NF.x_tup ?_
  | with_reducible refine NF.x_bm ?_
  | with_reducible refine NF.x_bm0 ?_
  | with_reducible refine NF.x_un ?_
  | with_reducible refine NF.x_bl ?_
  | with_reducible refine NF.x_tt ?_
  | with_reducible refine NF.x_ff ?_
  | with_reducible refine NF.x_nt ?_
  | with_reducible refine NF.x_nf ?_
  | with_reducible refine NF.x_I0 ?_
  | with_reducible refine NF.x_U ?_
  | with_reducible refine NF.x_int ?_
  | with_reducible refine NF.x_min2 ?_
  | with_reducible refine NF.x_max2 ?_
  | with_reducible refine NF.x_abs ?_
  | with_reducible refine NF.x_isNn ?_
  | with_reducible refine NF.x_notNn ?_
  | with_reducible refine NF.x_isNi ?_
  | with_reducible refine NF.x_notNi ?_
  | with_reducible refine NF.x_isNs ?_
  | with_reducible refine NF.x_notNs ?_
  | with_reducible refine NF.x_isNb ?_
  | with_reducible refine NF.x_notNb ?_
  | with_reducible refine NF.x_isNr ?_
  | with_reducible refine NF.x_notNr ?_
  | with_reducible refine NF.x_isN ?_
  | with_reducible refine NF.x_notN ?_
  | with_reducible refine NF.x_inC ?_
  | with_reducible refine NF.x_notInC ?_
  | with_reducible refine NF.x_find ?_
  | with_reducible refine NF.x_tyS ?_
  | with_reducible refine NF.x_truB ?_
  | with_reducible refine NF.x_truI ?_
  | with_reducible refine NF.x_truN ?_
  | ((with_reducible show rI CMul _ _ _ _ _); refine NF.x_I ?hc ?_; (case hc => walk_at "mul"))
  | ((with_reducible show rI CPow _ _ _ _ _); refine NF.x_I ?hc ?_; (case hc => exact ⟨by decide, by decide, by decide⟩))
  | ((with_reducible show rI CDivW _ _ _ _ _); refine NF.x_I ?hc ?_; (case hc => first | assumption | exact ⟨by assumption, by assumption⟩ | exact ⟨by decide, by decide +kernel⟩))
  | ((with_reducible show rI _ _ _ _ _ _); refine NF.x_I ?hc ?_; (case hc => first | assumption | (show (0 : Int) < _; omega) | decide))
  | ((with_reducible show rEq _ _ _ _); refine NF.x_eq (by rfl) ?_)
  | ((with_reducible show rNe _ _ _ _); refine NF.x_ne (by rfl) ?_)
  | ((with_reducible show rIxL _ _ _ _ _); refine' NF.x_ixL ?h ?hv ?_; (case h => walk_at "own"); (case hv => walk_at "atn"))
  | ((with_reducible show rIxT _ _ _ _ _); refine' NF.x_ixT ?h ?hv ?_; (case h => walk_at "own"); (case hv => walk_at "atn"))
  | ((with_reducible show rIxS _ _ _ _); refine' NF.x_ixS ?h ?hv ?_; (case h => walk_at "len"); (case hv => walk_at "atn"))
  | ((with_reducible show rLen _ [V.str _] _ _); refine NF.x_lenS ?h ?_; (case h => walk_at "len"))
  | ((with_reducible show rLen _ [V.ref _] _ _); first | (refine' NF.x_lenL ?h ?_; (case h => walk_at "own")) | (refine' NF.x_lenT ?h ?_; (case h => walk_at "own")))
  | ((with_reducible show rAddS _ _ _ _); refine NF.x_addS ?h ?_; (case h => walk_at "len"))
  | ((with_reducible show rUpper _ _ _ _); refine NF.x_upper ?h ?_; (case h => walk_at "len"))
  | ((with_reducible show rLower _ _ _ _); refine NF.x_lower ?h ?_; (case h => walk_at "len"))
  | ((with_reducible show tyV _ "list" _ _ ∧ _); refine' NF.x_tyL ?h ?_; (case h => walk_at "own"))
  | ((with_reducible show ∃ k, TruV _ (V.ref _) _ k ∧ _); refine' NF.x_truL ?h ?_; (case h => walk_at "own"))
  | ((with_reducible show ∃ k, TruV _ (V.str _) _ k ∧ _); refine' NF.x_truS ?h ?_; (case h => walk_at "len"))
  | with_reducible refine NF.x_sl ?_
  | with_reducible refine NF.x_noPart ?_
  | with_reducible refine NF.x_part ?_
  | with_reducible refine NF.x_pI ?_
  | ((with_reducible show rSlS _ _ _ _ _); refine NF.x_slS ?h ?_; (case h => walk_at "len"))
  | with_reducible refine NF.x_for ?_
  | with_reducible refine NF.x_lc ?_
  | with_reducible refine NF.x_yes ?_
  | ((with_reducible show NF.rLtIS _ _ _ _ _); refine' NF.x_ltIS ?ha ?hb ?_; (case ha => walk_at "own"); (case hb => walk_at "own"))
  | with_reducible refine NF.x_lstRg1 ?_
  | with_reducible refine NF.x_pI ?_
  | with_reducible refine NF.x_jR1 ?_
  | with_reducible refine NF.x_jR2 ?_
  | with_reducible refine NF.x_jL ?_
  | with_reducible refine NF.x_jT ?_
  | with_reducible refine NF.x_jS ?_
  | with_reducible refine NF.x_jE ?_
  | with_reducible refine NF.x_jEL ?_
  | walk_at "isi"
  | walk_at "mut")
local macro_rules | `(tactic| walk_at "go") => `(tactic| repeat (first | walk_at "s1" | walk_at "ao" | walk_at "new"))
local macro_rules | `(tactic| walk_at "ao") => `(tactic| first
  | with_reducible refine NF.x_and ?_
  | with_reducible refine NF.x_or ?_)
local macro_rules | `(tactic| walk_at "gw") => `(tactic| repeat (first | walk_at "s1" | walk_at "ao"))
local macro_rules | `(tactic| walk_at "gn") => `(tactic| repeat walk_at "s1")
local macro_rules | `(tactic| walk_at "s1") => `(tactic| first
  | with_reducible refine NF.x_fmt ?_
  | with_reducible refine NF.x_js0 ?_
  | with_reducible refine NF.x_jsc ?_
  | with_reducible refine NF.x_mkX0 ?_)
section
variable {P : Program} {w : World} {K : PySem.W.Frag} {mg : Str → Option Value} {base : Heap}
def m_fault (a_text : Str) : W (Option Int) :=
  W.for_ (enumT (tl a_text)) ([] : List Nat) (fun (x4 : Int × Nat) (z_open_names : (List Nat)) =>
  W.ite (decide (x4.2 ∈ tl (Str.ofString "abcdefgh"))) (W.chk (z_open_names.length < sizeLine) <|
  W.ok (.nx (z_open_names ++ [x4.2])))
  (W.ite (decide (x4.2 ∈ tl (Str.ofString "ABCDEFGH"))) (W.ite (!z_open_names.isEmpty) (W.at_ z_open_names (-(1 : Int)) fun x12 =>
  W.chk ((sg x4.2).length ≤ 5592405) <|
  W.ite (decide ((sg x12) = (Txt.lower (sg x4.2)))) (W.pop z_open_names fun x14 r15 =>
  W.ok (.nx r15))
  (W.ok (.rt (some x4.1))))
  (W.ok (.rt (some x4.1))))
  (W.ok (.rt (some x4.1))))) (fun (z_open_names : (List Nat)) =>
  W.ite (!z_open_names.isEmpty) (W.chk (a_text.length ≤ sizeLine) <|
  W.ok (some (a_text.length : Int)))
  (W.ok none))
abbrev NM_fault : List Str := ["text", "open_names", "at", "letter"]
theorem sc_fault : FnScope NM_fault ["text"] (defScope s_fault) := ⟨rfl, rfl, rfl, by decide +kernel, rfl, by decide +kernel, by decide +kernel⟩
theorem d_fault (F : Fn0 K mg "fault" s_fault) (T : Txt P K mg)  :
    Def P w K mg base 1 "fault" ["text"] (spW 1 (fun F vs (i : Str) => ∃ v0, vs = [v0] ∧ eStr.rep F v0 i) (eOpt eInt) (fun (i : Str) => m_fault i)) := by
  refine Def.mk0 F sc_fault (by first | exact NF.hl_spW | exact NF.hl_spWb | exact NF.hl_spWX | exact NF.hl_spWm | exact NF.hl_spWo) (fun _ _ _ _ _ _ us hl => match us, hl with | [_], _ => rfl) (fun cdv A outer s H vs Q E hr h => ?_)
  refine ⟨_, (pss_cons (ps_set (i := 1) sc_fault.nd rfl (Or.inl rfl) (pe_lst pa_nil))
      (pss_cons (ps_for PassesOwn.never rfl (pi_enumS (by rfl) T.b_enumerate (pa_cons (pv 0) pa_nil)) (pg_tup (by rfl) (pgs_cons (pg_name (i := 2) sc_fault.nd rfl (Or.inl rfl)) (pgs_cons (pg_name (i := 3) sc_fault.nd rfl (Or.inl rfl)) pgs_nil)))
      (pss_one (ps_if (pt_cmpR opInC (pv 3) (pe_g rfl T.g_NAMES) (by rfl))
      (pss_one (ps_expr (pe_bm PySem.F.plainAttrs_list PySem.F.slot_list_append PySem.F.type_list_append mt_append (pv 1) (pa_cons (pv 3) pa_nil))))
      (pss_one (ps_if (PW.pt (pw_and (pt_cmpR opInC (pv 3) (pe_g rfl T.g_CLOSINGS) (by rfl)) (pw_and (ptTruth (pv 1) (by intro _; rfl)) (pw_and1 (pt_cmpR op_eq (pe_ix ix_list (pv 1) (pe_un un_neg pe_int) (fun _ _ => rfl)) (pe_bm0 PySem.F.plainAttrs_str PySem.F.slot_str_lower PySem.F.type_str_lower mtLower (pv 3)) (nomark _))))))
      (pss_one (ps_expr (pe_bm0 PySem.F.plainAttrs_list PySem.F.slot_list_pop PySem.F.type_list_pop mt_pop (pv 1))))
      (pss_one (ps_ret (pv 2))))))))
      (pss_cons (ps_if (ptTruth (pv 1) (by intro _; rfl))
      (pss_one (ps_ret (pe_callB (id := "len") callLen (by rfl) T.b_len (by decide +kernel) (pa_cons (pv 0) pa_nil))))
      pss_nil)
      (pss_one (ps_ret pe_non))))), ?_⟩
  try dsimp only [cxOf, Cx.nox, Cx.wish]
  obtain ⟨hl, F, a_text, K0, hF, ⟨_, rfl, rfl⟩, k, q⟩ := h
  have O := NF.Fz.start hF
  have lF := NF.Ex.rfl (B := H) (F := F)
  refine (NF.x_seq (NF.x_asg (NF.x_lst (NF.x_nil (NF.y_lstM O (show 0 ≤ sizeLine by decide) (fun p2 H O => (have O : NF.Fz _ F H ([(p2, HO.lst [])] ++ ([]) : List (Addr × HO)) := O; (have h1 : NF.RL (eChr.rep F) _ [] := .nil; (NF.x_name ?_)))))))))
  refine (NF.x_seq (NF.x_for (NF.x_jE (NF.x_cons (NF.x_var rfl (NF.x_nil (NF.y_jES (F := F) (fun J T => (NF.y_for (σt := (List Nat)) (fun (z_open_names : (List Nat)) (σ : L2.St) (F : Hp) (R : List (Addr × HO)) => ∃ vs_open_names : List V, ∃ u2 : Option V, ∃ u3 : Option V, σ = [some (.str a_text), some (.ref p2), u2, u3] ∧ R = ([(p2, HO.lst vs_open_names)] ++ ([]) : List (Addr × HO)) ∧ RL (eChr.rep F) vs_open_names z_open_names) T (by rintro z_open_names _ _ _ ⟨vs_open_names, u2, u3, rfl, rfl, r_open_names⟩; first | trivial | simp) O k ⟨_, _, _, rfl, rfl, h1⟩ ?_ ?_)))))))))
  · rintro x4 r z_open_names _ F0 F _ H v5 lp3 ⟨vs_open_names, u2, u3, rfl, rfl, r_open_names⟩ l1 O h6 k
    have lp3 := Ex.trans lp3 l1
    have r_open_names := r_open_names.mono fun _ _ => Enc.mono eChr l1.le
    have lF := Ex.trans lF lp3
    refine NF.y_un2 O.leF h6 (fun v7 v9 h8 h10 => ?_)
    cases h8
    cases h10
    refine NF.g_cons (NF.x_name ?_)
    refine NF.g_cons (NF.x_name ?_)
    refine NF.g_nil ?_
    refine (NF.x_ifs (NF.x_test (NF.x_op (NF.x_var rfl (NF.x_c (NF.x_inC (NF.x_bl (NF.x_itb (fun g26 => (have k := k.1 g26; ?n27)) (fun g26 => (have k := k.2 g26; ?n28))))))))))
    case n27 =>
      refine (NF.x_drop (NF.x_bm (NF.x_var rfl (NF.x_tyL (O.get 0 rfl) (NF.x_cons (NF.x_var rfl (NF.x_nil (have c11 := k.1; have k := k.2; (NF.y_app2 O 0 rfl r_open_names c11 (fun H O => (have O : NF.Fz _ F H ([(p2, HO.lst (vs_open_names ++ [(.str (sg x4.2))]))] ++ ([]) : List (Addr × HO)) := O; (have r_open_names := NF.RL.snoc (x := x4.2) r_open_names rfl; ?_))))))))))))
      exact ⟨(z_open_names ++ [x4.2]), _, _, lp3, O, ⟨_, _, _, rfl, rfl, r_open_names⟩, k⟩
    case n28 =>
      refine (NF.x_ifs (NF.x_and (NF.x_test (NF.x_op (NF.x_var rfl (NF.x_c (NF.x_inC (NF.x_bl (NF.x_itb (fun g21 => (have k := k.1 g21; (NF.x_and (NF.x_tru (NF.x_var rfl (NF.y_truL (NF.Fz.vl O 0 rfl) (NF.vwL O 0 rfl r_open_names) (NF.x_itb (fun g20 => (have k := k.1 g20; (NF.x_test (NF.x_op (NF.x_op (NF.x_var rfl (NF.x_un (NF.x_c (NF.x_U (Exists.elim k fun x12 hk => (have k := hk.2; (NF.y_ixM O 0 rfl r_open_names hk.1 (fun u hu => NF.byC u hu (NF.x_bm0 (NF.x_var rfl (NF.x_tyS (have c13 := k.1; have k := k.2; (NF.x_lower c13 (NF.y_eqS (NF.x_bl (NF.x_itb (fun g19 => (have k := k.1 g19; ?n22)) (fun g19 => (have k := k.2 g19; ?n23))))))))))))))))))))))) (fun g20 => (have k := k.2 g20; (NF.x_ff ?n24)))))))))) (fun g21 => (have k := k.2 g21; (NF.x_ff ?n25))))))))))))
      case n22 =>
        refine (NF.x_drop (NF.x_bm0 (NF.x_var rfl (NF.x_tyL (O.get 0 rfl) (Exists.elim k fun r15 hk => Exists.elim hk fun x14 hk => (have k := hk.2; (NF.y_pop O 0 rfl r_open_names hk.1 (fun v17 vs16 H h18 r_open_names O => (have O : NF.Fz _ F H ([(p2, HO.lst vs16)] ++ ([]) : List (Addr × HO)) := O; (NF.byC v17 h18 ?_))))))))))
        exact ⟨r15, _, _, lp3, O, ⟨_, _, _, rfl, rfl, r_open_names⟩, k⟩
      case n23 =>
        exact (NF.x_ret (NF.x_var rfl (q (some x4.1) k _ _ _ O.leB O.leF lF rfl)))
      case n24 =>
        exact (NF.x_ret (NF.x_var rfl (q (some x4.1) k _ _ _ O.leB O.leF lF rfl)))
      case n25 =>
        exact (NF.x_ret (NF.x_var rfl (q (some x4.1) k _ _ _ O.leB O.leF lF rfl)))
  · rintro z_open_names _ F _ H l0 O ⟨vs_open_names, u2, u3, rfl, rfl, r_open_names⟩ k
    have lF := Ex.trans lF l0
    refine (NF.x_seq (NF.x_ifs (NF.x_tru (NF.x_var rfl (NF.y_truL (NF.Fz.vl O 0 rfl) (NF.vwL O 0 rfl r_open_names) (NF.x_itb (fun g30 => (have k := k.1 g30; ?n31)) (fun g30 => (have k := k.2 g30; ?n32))))))))
    case n31 =>
      exact (NF.x_ret (NF.x_cb (NF.x_cons (NF.x_var rfl (NF.x_nil (have c29 := k.1; have k := k.2; (NF.x_lenS c29 (q (some (a_text.length : Int)) k _ _ _ O.leB O.leF lF rfl))))))))
    case n32 =>
      refine NF.x_next ?_
      exact (NF.x_ret (NF.x_c (q none k _ _ _ O.leB O.leF lF rfl)))

def m_is_nested (a_text : Str) : W (Bool) :=
  W.bind (m_fault a_text) fun y1 =>
  W.ok y1.isNone
abbrev NM_is_nested : List Str := ["text"]
theorem sc_is_nested : FnScope NM_is_nested ["text"] (defScope s_is_nested) := ⟨rfl, rfl, rfl, by decide +kernel, rfl, by decide +kernel, by decide +kernel⟩
theorem d_is_nested (F : Fn0 K mg "is_nested" s_is_nested) (T : Txt P K mg) (D_fault : Def P w K mg base 1 "fault" ["text"] (spW 1 (fun F vs (i : Str) => ∃ v0, vs = [v0] ∧ eStr.rep F v0 i) (eOpt eInt) (fun (i : Str) => m_fault i))) :
    Def P w K mg base 2 "is_nested" ["text"] (spW 1 (fun F vs (i : Str) => ∃ v0, vs = [v0] ∧ eStr.rep F v0 i) eBool (fun (i : Str) => m_is_nested i)) := by
  refine Def.mk0 F sc_is_nested (by first | exact NF.hl_spW | exact NF.hl_spWb | exact NF.hl_spWX | exact NF.hl_spWm | exact NF.hl_spWo) (fun _ _ _ _ _ _ us hl => match us, hl with | [_], _ => rfl) (fun cdv A outer s H vs Q E hr h => ?_)
  refine ⟨_, (pss_one (ps_ret (pe_cmpR opIsN (pe_d D_fault (hr.mono (by decide)) rfl (pa_cons (pv 0) pa_nil)) pe_non (nomark _)))), ?_⟩
  try dsimp only [cxOf, Cx.nox, Cx.wish]
  obtain ⟨hl, F, a_text, K0, hF, ⟨_, rfl, rfl⟩, k, q⟩ := h
  have O := NF.Fz.start hF
  have lF := NF.Ex.rfl (B := H) (F := F)
  exact (NF.x_ret (NF.x_op (NF.x_call (NF.x_cons (NF.x_var rfl (NF.x_nil (NF.use_spW (i := a_text) O rfl ⟨_, rfl, rfl⟩ k (fun y1 v2 F H l0 O h3 k => (have lF := Ex.trans lF l0; (NF.x_c (NF.y_isN h3 (q y1.isNone k _ _ _ O.leB O.leF lF rfl))))))))))))

def m_is_name (a_given : Nat) : W (Bool) :=
  W.chk (true = true → (sg a_given).length ≤ sizeLine) <|
  W.ok (true && ((decide (((sg a_given).length : Int) = (1 : Int))) && (decide (a_given ∈ tl (Str.ofString "abcdefgh")))))
abbrev NM_is_name : List Str := ["given"]
theorem sc_is_name : FnScope NM_is_name ["given"] (defScope s_is_name) := ⟨rfl, rfl, rfl, by decide +kernel, rfl, by decide +kernel, by decide +kernel⟩
theorem d_is_name (F : Fn0 K mg "is_name" s_is_name) (T : Txt P K mg)  :
    Def P w K mg base 1 "is_name" ["given"] (spW 1 (fun F vs (i : Nat) => ∃ v0, vs = [v0] ∧ eChr.rep F v0 i) eBool (fun (i : Nat) => m_is_name i)) := by
  refine Def.mk0 F sc_is_name (by first | exact NF.hl_spW | exact NF.hl_spWb | exact NF.hl_spWX | exact NF.hl_spWm | exact NF.hl_spWo) (fun _ _ _ _ _ _ us hl => match us, hl with | [_], _ => rfl) (fun cdv A outer s H vs Q E hr h => ?_)
  refine ⟨_, (pss_one (ps_ret (pe_and (pe_callB callIsT (by rfl) T.b_isinstance (by decide +kernel) (pa_cons (pv 0) (pa_cons (pe_ty (n := "str") (by rfl) T.b_str (by decide +kernel)) pa_nil))) (pe_and (pe_cmpR op_eq (pe_callB (id := "len") callLen (by rfl) T.b_len (by decide +kernel) (pa_cons (pv 0) pa_nil)) pe_int (nomark _)) (pe_one (pe_cmpR opInC (pv 0) (pe_g rfl T.g_NAMES) (by rfl))))))), ?_⟩
  try dsimp only [cxOf, Cx.nox, Cx.wish]
  obtain ⟨hl, F, a_given, K0, hF, ⟨_, rfl, rfl⟩, k, q⟩ := h
  have O := NF.Fz.start hF
  have lF := NF.Ex.rfl (B := H) (F := F)
  exact (NF.x_ret (have c2 := k.1; have k := k.2; (NF.y_and (fun Q q => (NF.x_cb (NF.x_cons (NF.x_var rfl (NF.x_cons (NF.x_c (NF.x_nil (NF.x_isS NF.kit_str_str q)))))))) (fun g1 Q q => (NF.y_and (fun Q q => (NF.x_op (NF.x_cb (NF.x_cons (NF.x_var rfl (NF.x_nil (NF.x_lenS (c2 g1) (NF.x_c (NF.y_eqI q))))))))) (fun g3 Q q => (NF.x_op (NF.x_var rfl (NF.x_c (NF.x_inC q))))) q)) (q (true && ((decide (((sg a_given).length : Int) = (1 : Int))) && (decide (a_given ∈ tl (Str.ofString "abcdefgh"))))) k _ _ _ O.leB O.leF lF rfl))))

def m_is_letters (a_given : Str) : W (Bool) :=
  W.bind (W.comp (tl a_given) fun x1 =>
  W.ok (some ((decide (x1 ∈ tl (Str.ofString "abcdefgh"))) || (decide (x1 ∈ tl (Str.ofString "ABCDEFGH")))))) fun y10 =>
  W.ok (y10.all id)
abbrev NM_is_letters : List Str := ["given", "letter"]
theorem sc_is_letters : FnScope NM_is_letters ["given"] (defScope s_is_letters) := ⟨rfl, rfl, rfl, by decide +kernel, rfl, by decide +kernel, by decide +kernel⟩
theorem d_is_letters (F : Fn0 K mg "is_letters" s_is_letters) (T : Txt P K mg)  :
    Def P w K mg base 1 "is_letters" ["given"] (spW 1 (fun F vs (i : Str) => ∃ v0, vs = [v0] ∧ eStr.rep F v0 i) eBool (fun (i : Str) => m_is_letters i)) := by
  refine Def.mk0 F sc_is_letters (by first | exact NF.hl_spW | exact NF.hl_spWb | exact NF.hl_spWX | exact NF.hl_spWm | exact NF.hl_spWo) (fun _ _ _ _ _ _ us hl => match us, hl with | [_], _ => rfl) (fun cdv A outer s H vs Q E hr h => ?_)
  refine ⟨_, (pss_cons (ps_if (pt_not (pt_val (pe_callB callIsT (by rfl) T.b_isinstance (by decide +kernel) (pa_cons (pv 0) (pa_cons (pe_ty (n := "str") (by rfl) T.b_str (by decide +kernel)) pa_nil)))))
      (pss_one (ps_ret pe_bl))
      pss_nil)
      (pss_one (ps_ret (pe_callB (id := "all") (cr_all rfl) (by rfl) T.b_all (by decide +kernel) (pa_cons (pe_lc (own := [("letter", 1)]) (g := gName 1) rfl sc_is_letters.nd (pi_str (pv 0)) (blkOk_by (own := [("letter", 1)]) (N := NM_is_letters) (sc := defScope s_is_letters) (by decide +kernel)) (fun _ _ _ _ _ => (pg_name (i := 1) sc_is_letters.nd rfl (Or.inl rfl))) (fun _ _ _ _ _ => pts_nil) (fun _ _ _ _ _ => (pe_or (pe_cmpR opInC (pv 1) (pe_g rfl T.g_NAMES) (by rfl)) (pe_one (pe_cmpR opInC (pv 1) (pe_g rfl T.g_CLOSINGS) (by rfl)))))) pa_nil))))), ?_⟩
  try dsimp only [cxOf, Cx.nox, Cx.wish]
  obtain ⟨hl, F, a_given, K0, hF, ⟨_, rfl, rfl⟩, k, q⟩ := h
  have O := NF.Fz.start hF
  have lF := NF.Ex.rfl (B := H) (F := F)
  refine (NF.x_seq (NF.x_ifs (NF.x_not (NF.x_B (NF.x_cb (NF.x_cons (NF.x_var rfl (NF.x_cons (NF.x_c (NF.x_nil (NF.x_isS NF.kit_str_str (NF.x_bl (NF.x_ff ?_)))))))))))))
  refine NF.x_next ?_
  exact (NF.x_ret (NF.x_cb (NF.x_cons (NF.x_lc (NF.x_jS (NF.x_var rfl (NF.y_jC (F := F) (fun J T => (NF.y_comp (er := eBool) (fun F R => R = ([] : List (Addr × HO))) T (by rintro _ _ rfl; first | trivial | simp) O k.2 k.1 rfl (fun i x1 r pc7 acc5 at6 F0 F R H v hi lc4 hI ra8 hl l1 O hv k => match R, hI, O with | _, rfl, O => (have O : NF.Fz _ F H ([(pc7, HO.lst acc5)] ++ []) := O; (have lc4 := Ex.trans lc4 l1; (have ra8 := ra8.mono fun _ _ => Enc.mono eBool l1.le; (have lF := Ex.trans lF lc4; (NF.byC v hv (NF.x_name ⟨NF.set_wipe _ _ _, (NF.x_yes (NF.x_tt (NF.y_or (fun Q q => (NF.x_op (NF.x_var rfl (NF.x_c (NF.x_inC q))))) (fun g9 Q q => (NF.x_op (NF.x_var rfl (NF.x_c (NF.x_inC q))))) (NF.cE_mk (R' := []) hi lc4 rfl O ra8 hl rfl k))))⟩))))))) (fun p12 F R vs11 y10 H l0 hI O ra13 k => match R, hI, O with | _, rfl, O => (have lF := Ex.trans lF l0; (NF.y_frz O 0 rfl (fun F l0 hp O => (have O : NF.Fz _ F H ([] : List (Addr × HO)) := O; (have lF := Ex.trans lF l0; (have h14 : (eLst eBool).rep F (.ref p12) y10 := ⟨_, _, rfl, hp, ra13.mono fun _ _ => Enc.mono eBool l0.le⟩; (NF.x_nil (NF.y_allR O.leF h14 (q (y10.all id) k _ _ _ O.leB O.leF lF rfl)))))))))))))))))))

def m_is_mode (a_given : Int) (a_modes : Int) : W (Bool) :=
  W.ite (false || false) (W.ok false)
  (W.ok ((decide ((0 : Int) ≤ a_given)) && (decide (a_given < a_modes))))
abbrev NM_is_mode : List Str := ["given", "modes"]
theorem sc_is_mode : FnScope NM_is_mode ["given", "modes"] (defScope s_is_mode) := ⟨rfl, rfl, rfl, by decide +kernel, rfl, by decide +kernel, by decide +kernel⟩
theorem d_is_mode (F : Fn0 K mg "_is_mode" s_is_mode) (T : Txt P K mg)  :
    Def P w K mg base 1 "_is_mode" ["given", "modes"] (spW 2 (fun F vs (i : Int × Int) => ∃ v0 v1, vs = [v0, v1] ∧ eInt.rep F v0 i.1 ∧ eInt.rep F v1 i.2) eBool (fun (i : Int × Int) => m_is_mode i.1 i.2)) := by
  refine Def.mk0 F sc_is_mode (by first | exact NF.hl_spW | exact NF.hl_spWb | exact NF.hl_spWX | exact NF.hl_spWm | exact NF.hl_spWo) (fun _ _ _ _ _ _ us hl => match us, hl with | [_, _], _ => rfl) (fun cdv A outer s H vs Q E hr h => ?_)
  refine ⟨_, (pss_cons (ps_if (PW.pt (pw_or (pt_not (pt_val (pe_callB callIsT (by rfl) T.b_isinstance (by decide +kernel) (pa_cons (pv 0) (pa_cons (pe_ty (n := "int") (by rfl) T.b_int (by decide +kernel)) pa_nil))))) (pw_or1 (pt_val (pe_callB callIsT (by rfl) T.b_isinstance (by decide +kernel) (pa_cons (pv 0) (pa_cons (pe_ty (n := "bool") (by rfl) T.b_bool (by decide +kernel)) pa_nil)))))))
      (pss_one (ps_ret pe_bl))
      pss_nil)
      (pss_one (ps_ret (pe_chain op_le op_lt pe_int (pv 0) (pv 1))))), ?_⟩
  try dsimp only [cxOf, Cx.nox, Cx.wish]
  obtain ⟨hl, F, ⟨a_given, a_modes⟩, K0, hF, ⟨_, _, rfl, rfl, rfl⟩, k, q⟩ := h
  have O := NF.Fz.start hF
  have lF := NF.Ex.rfl (B := H) (F := F)
  refine (NF.x_seq (NF.x_ifs (NF.y_orT (fun Q q => (NF.x_not (NF.x_B (NF.x_cb (NF.x_cons (NF.x_var rfl (NF.x_cons (NF.x_c (NF.x_nil (NF.x_isI NF.kit_int_int (NF.x_bl q))))))))))) (fun g1 Q q => (NF.x_B (NF.x_cb (NF.x_cons (NF.x_var rfl (NF.x_cons (NF.x_c (NF.x_nil (NF.x_isI NF.kit_int_bool (NF.x_bl q)))))))))) (NF.x_itb (fun g2 => (have k := k.1 g2; ?n3)) (fun g2 => (have k := k.2 g2; ?n4))))))
  case n3 =>
    exact (NF.x_ret (NF.x_c (q false k _ _ _ O.leB O.leF lF rfl)))
  case n4 =>
    refine NF.x_next ?_
    exact (NF.x_ret (NF.x_chain (NF.x_c (NF.x_var rfl (NF.x_I0 (NF.y_chain (fun Q q => (NF.x_var rfl (NF.x_I0 q))) (q ((decide ((0 : Int) ≤ a_given)) && (decide (a_given < a_modes))) k _ _ _ O.leB O.leF lF rfl)))))))

def m_is_piece (a_given : Str) : W (Bool) :=
  W.bind (m_is_letters a_given) fun y1 =>
  W.ite y1 (W.chk (a_given.length ≤ sizeLine) <|
  W.ok (decide ((a_given.length : Int) ≤ (400 : Int))))
  (W.ok false)
abbrev NM_is_piece : List Str := ["given"]
theorem sc_is_piece : FnScope NM_is_piece ["given"] (defScope s_is_piece) := ⟨rfl, rfl, rfl, by decide +kernel, rfl, by decide +kernel, by decide +kernel⟩
theorem d_is_piece (F : Fn0 K mg "_is_piece" s_is_piece) (T : Txt P K mg) (D_is_letters : Def P w K mg base 1 "is_letters" ["given"] (spW 1 (fun F vs (i : Str) => ∃ v0, vs = [v0] ∧ eStr.rep F v0 i) eBool (fun (i : Str) => m_is_letters i))) :
    Def P w K mg base 2 "_is_piece" ["given"] (spW 1 (fun F vs (i : Str) => ∃ v0, vs = [v0] ∧ eStr.rep F v0 i) eBool (fun (i : Str) => m_is_piece i)) := by
  refine Def.mk0 F sc_is_piece (by first | exact NF.hl_spW | exact NF.hl_spWb | exact NF.hl_spWX | exact NF.hl_spWm | exact NF.hl_spWo) (fun _ _ _ _ _ _ us hl => match us, hl with | [_], _ => rfl) (fun cdv A outer s H vs Q E hr h => ?_)
  refine ⟨_, (pss_one (ps_ret (pe_and (pe_d D_is_letters (hr.mono (by decide)) rfl (pa_cons (pv 0) pa_nil)) (pe_one (pe_cmpR op_le (pe_callB (id := "len") callLen (by rfl) T.b_len (by decide +kernel) (pa_cons (pv 0) pa_nil)) (pe_g rfl T.g_PIECE_LIMIT) (nomark _)))))), ?_⟩
  try dsimp only [cxOf, Cx.nox, Cx.wish]
  obtain ⟨hl, F, a_given, K0, hF, ⟨_, rfl, rfl⟩, k, q⟩ := h
  have O := NF.Fz.start hF
  have lF := NF.Ex.rfl (B := H) (F := F)
  exact (NF.x_ret (NF.x_andV (NF.x_call (NF.x_cons (NF.x_var rfl (NF.x_nil (NF.use_spW (i := a_given) O rfl ⟨_, rfl, rfl⟩ k (fun y1 v F H l0 O hv k => NF.byB v hv (have lF := Ex.trans lF l0; ⟨_, rfl, (NF.x_itb (fun g2 => (have k := k.1 g2; (NF.x_op (NF.x_cb (NF.x_cons (NF.x_var rfl (NF.x_nil (have c3 := k.1; have k := k.2; (NF.x_lenS c3 (NF.x_c (NF.x_I0 (q (decide ((a_given.length : Int) ≤ (400 : Int))) k _ _ _ O.leB O.leF lF rfl)))))))))))) (fun g2 => (have k := k.2 g2; (q false k _ _ _ O.leB O.leF lF rfl))))⟩)))))))))

def m_is_rule (a_given : Int × Nat × Str × Int × Str × Int) (a_modes : Int) : W (Bool) :=
  W.ite (!decide ((6 : Int) = (6 : Int))) (W.ok false)
  (W.bind (m_is_name a_given.2.1) fun y13 =>
  W.ite (!y13) (W.ok false)
  (W.bind (W.comp [a_given.1, a_given.2.2.2.1, a_given.2.2.2.2.2] fun x16 =>
  W.bind (m_is_mode x16 a_modes) fun y24 =>
  W.ok (some y24)) fun y25 =>
  W.ite (!(y25.all id)) (W.ok false)
  (W.bind (m_is_piece a_given.2.2.1) fun y30 =>
  W.ite y30 (W.bind (m_is_piece a_given.2.2.2.2.1) fun y32 =>
  W.ite y32 (W.chk (a_given.2.2.1.length + a_given.2.2.2.2.1.length ≤ sizeLine) <|
  W.bind (m_is_nested (a_given.2.2.1 ++ a_given.2.2.2.2.1)) fun y35 =>
  W.ok y35)
  (W.ok false))
  (W.ok false))))
abbrev NM_is_rule : List Str := ["given", "modes", "mode", "name", "before", "inner", "after", "following", "number"]
theorem sc_is_rule : FnScope NM_is_rule ["given", "modes"] (defScope s_is_rule) := ⟨rfl, rfl, rfl, by decide +kernel, rfl, by decide +kernel, by decide +kernel⟩
theorem d_is_rule (F : Fn0 K mg "_is_rule" s_is_rule) (T : Txt P K mg) (D_is_name : Def P w K mg base 1 "is_name" ["given"] (spW 1 (fun F vs (i : Nat) => ∃ v0, vs = [v0] ∧ eChr.rep F v0 i) eBool (fun (i : Nat) => m_is_name i))) (D_is_piece : Def P w K mg base 2 "_is_piece" ["given"] (spW 1 (fun F vs (i : Str) => ∃ v0, vs = [v0] ∧ eStr.rep F v0 i) eBool (fun (i : Str) => m_is_piece i))) (D_is_nested : Def P w K mg base 2 "is_nested" ["text"] (spW 1 (fun F vs (i : Str) => ∃ v0, vs = [v0] ∧ eStr.rep F v0 i) eBool (fun (i : Str) => m_is_nested i))) (D_is_mode : Def P w K mg base 1 "_is_mode" ["given", "modes"] (spW 2 (fun F vs (i : Int × Int) => ∃ v0 v1, vs = [v0, v1] ∧ eInt.rep F v0 i.1 ∧ eInt.rep F v1 i.2) eBool (fun (i : Int × Int) => m_is_mode i.1 i.2))) :
    Def P w K mg base 3 "_is_rule" ["given", "modes"] (spW 2 (fun F vs (i : (Int × Nat × Str × Int × Str × Int) × Int) => ∃ v0 v1, vs = [v0, v1] ∧ (eP6 eInt eChr eStr eInt eStr eInt).rep F v0 i.1 ∧ eInt.rep F v1 i.2) eBool (fun (i : (Int × Nat × Str × Int × Str × Int) × Int) => m_is_rule i.1 i.2)) := by
  refine Def.mk0 F sc_is_rule (by first | exact NF.hl_spW | exact NF.hl_spWb | exact NF.hl_spWX | exact NF.hl_spWm | exact NF.hl_spWo) (fun _ _ _ _ _ _ us hl => match us, hl with | [_, _], _ => rfl) (fun cdv A outer s H vs Q E hr h => ?_)
  refine ⟨_, (pss_cons (ps_if (PW.pt (pw_or (pt_not (pt_val (pe_callB callIsTT (by rfl) T.b_isinstance (by decide +kernel) (pa_cons (pv 0) (pa_cons (pe_tup (pa_cons (pe_ty (n := "tuple") (by rfl) T.b_tuple (by decide +kernel)) (pa_cons (pe_ty (n := "list") (by rfl) T.b_list (by decide +kernel)) pa_nil))) pa_nil))))) (pw_or1 (pt_cmpR op_ne (pe_callB (id := "len") callLen (by rfl) T.b_len (by decide +kernel) (pa_cons (pv 0) pa_nil)) pe_int (nomark _)))))
      (pss_one (ps_ret pe_bl))
      pss_nil)
      (pss_cons (ps_asg (pv 0) (pg_tup (by rfl) (pgs_cons (pg_name (i := 2) sc_is_rule.nd rfl (Or.inl rfl)) (pgs_cons (pg_name (i := 3) sc_is_rule.nd rfl (Or.inl rfl)) (pgs_cons (pg_name (i := 4) sc_is_rule.nd rfl (Or.inl rfl)) (pgs_cons (pg_name (i := 5) sc_is_rule.nd rfl (Or.inl rfl)) (pgs_cons (pg_name (i := 6) sc_is_rule.nd rfl (Or.inl rfl)) (pgs_cons (pg_name (i := 7) sc_is_rule.nd rfl (Or.inl rfl)) pgs_nil))))))))
      (pss_cons (ps_if (pt_not (pt_val (pe_d D_is_name (hr.mono (by decide)) rfl (pa_cons (pv 3) pa_nil))))
      (pss_one (ps_ret pe_bl))
      pss_nil)
      (pss_cons (ps_if (pt_not (pt_val (pe_callB (id := "all") (cr_all rfl) (by rfl) T.b_all (by decide +kernel) (pa_cons (pe_lc (own := [("number", 8)]) (g := gName 8) rfl sc_is_rule.nd (pi_tup (pe_tup (pa_cons (pv 2) (pa_cons (pv 5) (pa_cons (pv 7) pa_nil))))) (blkOk_by (own := [("number", 8)]) (N := NM_is_rule) (sc := defScope s_is_rule) (by decide +kernel)) (fun _ _ _ _ _ => (pg_name (i := 8) sc_is_rule.nd rfl (Or.inl rfl))) (fun _ _ _ _ _ => pts_nil) (fun _ _ _ _ _ => (pe_d D_is_mode (hr.mono (by decide)) rfl (pa_cons (pv 8) (pa_cons (pv 1) pa_nil))))) pa_nil))))
      (pss_one (ps_ret pe_bl))
      pss_nil)
      (pss_one (ps_ret (pe_and (pe_d D_is_piece (hr.mono (by decide)) rfl (pa_cons (pv 4) pa_nil)) (pe_and (pe_d D_is_piece (hr.mono (by decide)) rfl (pa_cons (pv 6) pa_nil)) (pe_one (pe_d D_is_nested (hr.mono (by decide)) rfl (pa_cons (pe_op opAddS (pv 4) (pv 6)) pa_nil))))))))))), ?_⟩
  try dsimp only [cxOf, Cx.nox, Cx.wish]
  obtain ⟨hl, F, ⟨a_given, a_modes⟩, K0, hF, ⟨v_given, _, rfl, h_given, rfl⟩, k, q⟩ := h
  have O := NF.Fz.start hF
  have lF := NF.Ex.rfl (B := H) (F := F)
  refine (NF.x_seq (NF.x_ifs (NF.x_or (NF.x_not (NF.x_B (NF.x_cb (NF.x_cons (NF.x_var rfl (NF.x_cons (NF.x_tup (NF.x_cons (NF.x_c (NF.x_cons (NF.x_c (NF.x_nil (NF.y_tmp O (show 2 ≤ sizeLine by decide) (fun tp H ht O => (NF.x_nil (NF.y_isTT O.leF h_given ht (NF.x_bl (NF.x_ff (NF.x_test (NF.x_op (NF.x_cb (NF.x_cons (NF.x_var rfl (NF.x_nil (NF.y_lenP O.leF h_given (NF.x_c (NF.y_neI (NF.x_bl (NF.x_itb (fun g42 => (have k := k.1 g42; ?n43)) (fun g42 => (have k := k.2 g42; ?n44))))))))))))))))))))))))))))))))))
  case n43 =>
    exact (NF.x_ret (NF.x_c (q false k _ _ _ O.leB O.leF lF rfl)))
  case n44 =>
    refine NF.x_next ?_
    refine (NF.x_seq (NF.x_asg (NF.x_var rfl (NF.y_un6 O.leF h_given (fun v1 v3 v5 v7 v9 v11 h2 h4 h6 h8 h10 h12 => (NF.byI v1 h2 (NF.byC v3 h4 (NF.byS v5 h6 (NF.byI v7 h8 (NF.byS v9 h10 (NF.byI v11 h12 (NF.g_cons (NF.x_name (NF.g_cons (NF.x_name (NF.g_cons (NF.x_name (NF.g_cons (NF.x_name (NF.g_cons (NF.x_name (NF.g_cons (NF.x_name (NF.g_nil ?_))))))))))))))))))))))))
    refine (NF.x_seq (NF.x_ifs (NF.x_not (NF.x_B (NF.x_call (NF.x_cons (NF.x_var rfl (NF.x_nil (NF.use_spW (i := a_given.2.1) O rfl ⟨_, rfl, rfl⟩ k (fun y13 v F H l0 O hv k => NF.byB v hv (have h_given := Enc.mono (eP6 eInt eChr eStr eInt eStr eInt) l0.le h_given; (have lF := Ex.trans lF l0; (NF.x_bl (NF.x_itb (fun g39 => (have k := k.1 g39; ?n40)) (fun g39 => (have k := k.2 g39; ?n41))))))))))))))))
    case n40 =>
      exact (NF.x_ret (NF.x_c (q false k _ _ _ O.leB O.leF lF rfl)))
    case n41 =>
      refine NF.x_next ?_
      refine (NF.x_seq (NF.x_ifs (NF.x_not (NF.x_B (NF.x_cb (NF.x_cons (NF.x_lc (NF.x_jT (NF.x_tup (NF.x_cons (NF.x_var rfl (NF.x_cons (NF.x_var rfl (NF.x_cons (NF.x_var rfl (NF.x_nil (NF.y_tup O (show 3 ≤ sizeLine by decide) (fun p15 F H hp l0 O => (have h_given := Enc.mono (eP6 eInt eChr eStr eInt eStr eInt) l0.le h_given; (have lF := Ex.trans lF l0; (have h14 : (eTup eInt).rep F (.ref p15) [a_given.1, a_given.2.2.2.1, a_given.2.2.2.2.2] := ⟨_, _, rfl, hp, .cons rfl (.cons rfl (.cons rfl (.nil)))⟩; (NF.y_jT O.leF h14 (fun J T => (NF.y_comp (er := eBool) (fun F R => R = ([] : List (Addr × HO))) T (by rintro _ _ rfl; first | trivial | simp) O k.2 k.1 rfl (fun i x16 r pc22 acc20 at21 F0 F R H v hi lc19 hI ra23 hl l1 O hv k => match R, hI, O with | _, rfl, O => (have O : NF.Fz _ F H ([(pc22, HO.lst acc20)] ++ []) := O; (have lc19 := Ex.trans lc19 l1; (have ra23 := ra23.mono fun _ _ => Enc.mono eBool l1.le; (have h_given := Enc.mono (eP6 eInt eChr eStr eInt eStr eInt) lc19.le h_given; (have h14 := Enc.mono (eTup eInt) lc19.le h14; (have lF := Ex.trans lF lc19; (NF.byI v hv (NF.x_name ⟨NF.set_wipe _ _ _, (NF.x_yes (NF.x_tt (NF.x_call (NF.x_cons (NF.x_var rfl (NF.x_cons (NF.x_var rfl (NF.x_nil (NF.use_spW (i := (x16, a_modes)) O rfl ⟨_, _, rfl, rfl, rfl⟩ k (fun y24 v F H l0 O hv k => NF.byB v hv (have h_given := Enc.mono (eP6 eInt eChr eStr eInt eStr eInt) l0.le h_given; (have h14 := Enc.mono (eTup eInt) l0.le h14; (have ra23 := ra23.mono fun _ _ => Enc.mono eBool l0.le; (have lF := Ex.trans lF l0; (have lc19 := Ex.trans lc19 l0; (NF.cE_mk (R' := []) hi lc19 rfl O ra23 hl rfl k))))))))))))))))⟩))))))))) (fun p27 F R vs26 y25 H l0 hI O ra28 k => match R, hI, O with | _, rfl, O => (have h_given := Enc.mono (eP6 eInt eChr eStr eInt eStr eInt) l0.le h_given; (have h14 := Enc.mono (eTup eInt) l0.le h14; (have lF := Ex.trans lF l0; (NF.y_frz O 0 rfl (fun F l0 hp O => (have O : NF.Fz _ F H ([] : List (Addr × HO)) := O; (have h_given := Enc.mono (eP6 eInt eChr eStr eInt eStr eInt) l0.le h_given; (have h14 := Enc.mono (eTup eInt) l0.le h14; (have lF := Ex.trans lF l0; (have h29 : (eLst eBool).rep F (.ref p27) y25 := ⟨_, _, rfl, hp, ra28.mono fun _ _ => Enc.mono eBool l0.le⟩; (NF.x_nil (NF.y_allR O.leF h29 (NF.x_bl (NF.x_itb (fun g36 => (have k := k.1 g36; ?n37)) (fun g36 => (have k := k.2 g36; ?n38)))))))))))))))))))))))))))))))))))))))))
      case n37 =>
        exact (NF.x_ret (NF.x_c (q false k _ _ _ O.leB O.leF lF rfl)))
      case n38 =>
        refine NF.x_next ?_
        exact (NF.x_ret (NF.x_andV (NF.x_call (NF.x_cons (NF.x_var rfl (NF.x_nil (NF.use_spW (i := a_given.2.2.1) O rfl ⟨_, rfl, rfl⟩ k (fun y30 v F H l0 O hv k => NF.byB v hv (have h_given := Enc.mono (eP6 eInt eChr eStr eInt eStr eInt) l0.le h_given; (have lF := Ex.trans lF l0; ⟨_, rfl, (NF.x_itb (fun g31 => (have k := k.1 g31; (NF.x_andV (NF.x_call (NF.x_cons (NF.x_var rfl (NF.x_nil (NF.use_spW (i := a_given.2.2.2.2.1) O rfl ⟨_, rfl, rfl⟩ k (fun y32 v F H l0 O hv k => NF.byB v hv (have h_given := Enc.mono (eP6 eInt eChr eStr eInt eStr eInt) l0.le h_given; (have lF := Ex.trans lF l0; ⟨_, rfl, (NF.x_itb (fun g33 => (have k := k.1 g33; (NF.x_call (NF.x_cons (NF.x_op (NF.x_var rfl (NF.x_var rfl (have c34 := k.1; have k := k.2; (NF.x_addS c34 (NF.x_nil (NF.use_spW (i := (a_given.2.2.1 ++ a_given.2.2.2.2.1)) O rfl ⟨_, rfl, rfl⟩ k (fun y35 v F H l0 O hv k => NF.byB v hv (have h_given := Enc.mono (eP6 eInt eChr eStr eInt eStr eInt) l0.le h_given; (have lF := Ex.trans lF l0; (q y35 k _ _ _ O.leB O.leF lF rfl))))))))))))))) (fun g33 => (have k := k.2 g33; (q false k _ _ _ O.leB O.leF lF rfl))))⟩))))))))))) (fun g31 => (have k := k.2 g31; (q false k _ _ _ O.leB O.leF lF rfl))))⟩))))))))))

def m_rule_at (a_rules : List ((Int × Nat) × (Str × Int × Str × Int))) (a_mode : Int) (a_name : Nat) : W (Str × Int × Str × Int) :=
  W.chk ((sg a_name).length ≤ 5592405) <|
  W.ok ((dGet a_rules (a_mode, a_name)).getD ((sg a_name), a_mode, (Txt.upper (sg a_name)), a_mode))
abbrev NM_rule_at : List Str := ["rules", "mode", "name"]
theorem sc_rule_at : FnScope NM_rule_at ["rules", "mode", "name"] (defScope s_rule_at) := ⟨rfl, rfl, rfl, by decide +kernel, rfl, by decide +kernel, by decide +kernel⟩
theorem d_rule_at (F : Fn0 K mg "_rule_at" s_rule_at) (T : Txt P K mg)  :
    Def P w K mg base 1 "_rule_at" ["rules", "mode", "name"] (spW 3 (fun F vs (i : (List ((Int × Nat) × (Str × Int × Str × Int))) × Int × Nat) => ∃ v0 v1 v2, vs = [v0, v1, v2] ∧ (eDT kIC (eP4 eStr eInt eStr eInt)).rep F v0 i.1 ∧ eInt.rep F v1 i.2.1 ∧ eChr.rep F v2 i.2.2) (eP4 eStr eInt eStr eInt) (fun (i : (List ((Int × Nat) × (Str × Int × Str × Int))) × Int × Nat) => m_rule_at i.1 i.2.1 i.2.2)) := by
  refine Def.mk0 F sc_rule_at (by first | exact NF.hl_spW | exact NF.hl_spWb | exact NF.hl_spWX | exact NF.hl_spWm | exact NF.hl_spWo) (fun _ _ _ _ _ _ us hl => match us, hl with | [_, _, _], _ => rfl) (fun cdv A outer s H vs Q E hr h => ?_)
  refine ⟨_, (pss_one (ps_ret (pe_dget2 (NF.u1 hr.units) (pv 0) (pe_tup (pa_cons (pv 1) (pa_cons (pv 2) pa_nil))) (pe_tup (pa_cons (pv 2) (pa_cons (pv 1) (pa_cons (pe_bm0 PySem.F.plainAttrs_str PySem.F.slot_str_upper PySem.F.type_str_upper mtUpper (pv 2)) (pa_cons (pv 1) pa_nil))))) ⟨rfl, rfl, rfl, rfl⟩))), ?_⟩
  try dsimp only [cxOf, Cx.nox, Cx.wish]
  obtain ⟨hl, F, ⟨a_rules, a_mode, a_name⟩, K0, hF, ⟨v_rules, _, _, rfl, h_rules, rfl, rfl⟩, k, q⟩ := h
  have O := NF.Fz.start hF
  have lF := NF.Ex.rfl (B := H) (F := F)
  exact (NF.x_ret (NF.x_dget2 (NF.x_var rfl (NF.y_isD O.leF h_rules (fun a1 hd2 hD => ⟨a1, hd2, hD, (NF.x_tup (NF.x_cons (NF.x_var rfl (NF.x_cons (NF.x_var rfl (NF.x_nil (NF.y_tup O (show 2 ≤ sizeLine by decide) (fun p4 F H hp l0 O => (have h_rules := Enc.mono (eDT kIC (eP4 eStr eInt eStr eInt)) l0.le h_rules; (have lF := Ex.trans lF l0; (have h3 : (eP2 eInt eChr).rep F (.ref p4) (a_mode, a_name) := ⟨_, _, _, rfl, hp, rfl, rfl⟩; (NF.x_tup (NF.x_cons (NF.x_var rfl (NF.x_cons (NF.x_var rfl (NF.x_cons (NF.x_bm0 (NF.x_var rfl (NF.x_tyS (have c5 := k.1; have k := k.2; (NF.x_upper c5 (NF.x_cons (NF.x_var rfl (NF.x_nil (NF.y_tup O (show 4 ≤ sizeLine by decide) (fun p7 F H hp l0 O => (have h_rules := Enc.mono (eDT kIC (eP4 eStr eInt eStr eInt)) l0.le h_rules; (have h3 := Enc.mono (eP2 eInt eChr) l0.le h3; (have lF := Ex.trans lF l0; (have h6 : (eP4 eStr eInt eStr eInt).rep F (.ref p7) ((sg a_name), a_mode, (Txt.upper (sg a_name)), a_mode) := ⟨_, _, _, _, _, rfl, hp, rfl, rfl, rfl, rfl⟩; (NF.y_dget2v hd2 O.leF O.leF h_rules h3 h6 (fun v8 h9 => (q ((dGet a_rules (a_mode, a_name)).getD ((sg a_name), a_mode, (Txt.upper (sg a_name)), a_mode)) k _ _ _ O.leB O.leF lF h9))))))))))))))))))))))))))))))))))⟩)))))

def m_is_exception (a_given : Int × Nat × Int × Str × Int) (a_modes : Int) (a_rules : List ((Int × Nat) × (Str × Int × Str × Int))) : W (Bool) :=
  W.ite (!decide ((5 : Int) = (5 : Int))) (W.ok false)
  (W.bind (m_is_name a_given.2.1) fun y11 =>
  W.ite (!y11) (W.ok false)
  (W.bind (W.comp [a_given.1, a_given.2.2.1, a_given.2.2.2.2] fun x14 =>
  W.bind (m_is_mode x14 a_modes) fun y22 =>
  W.ok (some y22)) fun y23 =>
  W.ite (!(y23.all id)) (W.ok false)
  (W.bind (m_is_piece a_given.2.2.2.1) fun y28 =>
  W.ite y28 (W.bind (m_rule_at a_rules a_given.1 a_given.2.1) fun y30 =>
  W.chk (y30.1.length + a_given.2.2.2.1.length ≤ sizeLine) <|
  W.bind (m_is_nested (y30.1 ++ a_given.2.2.2.1)) fun y34 =>
  W.ok y34)
  (W.ok false))))
abbrev NM_is_exception : List Str := ["given", "modes", "rules", "mode", "name", "end", "after", "following", "number"]
theorem sc_is_exception : FnScope NM_is_exception ["given", "modes", "rules"] (defScope s_is_exception) := ⟨rfl, rfl, rfl, by decide +kernel, rfl, by decide +kernel, by decide +kernel⟩
theorem d_is_exception (F : Fn0 K mg "_is_exception" s_is_exception) (T : Txt P K mg) (D_is_name : Def P w K mg base 1 "is_name" ["given"] (spW 1 (fun F vs (i : Nat) => ∃ v0, vs = [v0] ∧ eChr.rep F v0 i) eBool (fun (i : Nat) => m_is_name i))) (D_is_piece : Def P w K mg base 2 "_is_piece" ["given"] (spW 1 (fun F vs (i : Str) => ∃ v0, vs = [v0] ∧ eStr.rep F v0 i) eBool (fun (i : Str) => m_is_piece i))) (D_is_nested : Def P w K mg base 2 "is_nested" ["text"] (spW 1 (fun F vs (i : Str) => ∃ v0, vs = [v0] ∧ eStr.rep F v0 i) eBool (fun (i : Str) => m_is_nested i))) (D_is_mode : Def P w K mg base 1 "_is_mode" ["given", "modes"] (spW 2 (fun F vs (i : Int × Int) => ∃ v0 v1, vs = [v0, v1] ∧ eInt.rep F v0 i.1 ∧ eInt.rep F v1 i.2) eBool (fun (i : Int × Int) => m_is_mode i.1 i.2))) (D_rule_at : Def P w K mg base 1 "_rule_at" ["rules", "mode", "name"] (spW 3 (fun F vs (i : (List ((Int × Nat) × (Str × Int × Str × Int))) × Int × Nat) => ∃ v0 v1 v2, vs = [v0, v1, v2] ∧ (eDT kIC (eP4 eStr eInt eStr eInt)).rep F v0 i.1 ∧ eInt.rep F v1 i.2.1 ∧ eChr.rep F v2 i.2.2) (eP4 eStr eInt eStr eInt) (fun (i : (List ((Int × Nat) × (Str × Int × Str × Int))) × Int × Nat) => m_rule_at i.1 i.2.1 i.2.2))) :
    Def P w K mg base 3 "_is_exception" ["given", "modes", "rules"] (spW 3 (fun F vs (i : (Int × Nat × Int × Str × Int) × Int × (List ((Int × Nat) × (Str × Int × Str × Int)))) => ∃ v0 v1 v2, vs = [v0, v1, v2] ∧ (eP5 eInt eChr eInt eStr eInt).rep F v0 i.1 ∧ eInt.rep F v1 i.2.1 ∧ (eDT kIC (eP4 eStr eInt eStr eInt)).rep F v2 i.2.2) eBool (fun (i : (Int × Nat × Int × Str × Int) × Int × (List ((Int × Nat) × (Str × Int × Str × Int)))) => m_is_exception i.1 i.2.1 i.2.2)) := by
  refine Def.mk0 F sc_is_exception (by first | exact NF.hl_spW | exact NF.hl_spWb | exact NF.hl_spWX | exact NF.hl_spWm | exact NF.hl_spWo) (fun _ _ _ _ _ _ us hl => match us, hl with | [_, _, _], _ => rfl) (fun cdv A outer s H vs Q E hr h => ?_)
  refine ⟨_, (pss_cons (ps_if (PW.pt (pw_or (pt_not (pt_val (pe_callB callIsTT (by rfl) T.b_isinstance (by decide +kernel) (pa_cons (pv 0) (pa_cons (pe_tup (pa_cons (pe_ty (n := "tuple") (by rfl) T.b_tuple (by decide +kernel)) (pa_cons (pe_ty (n := "list") (by rfl) T.b_list (by decide +kernel)) pa_nil))) pa_nil))))) (pw_or1 (pt_cmpR op_ne (pe_callB (id := "len") callLen (by rfl) T.b_len (by decide +kernel) (pa_cons (pv 0) pa_nil)) pe_int (nomark _)))))
      (pss_one (ps_ret pe_bl))
      pss_nil)
      (pss_cons (ps_asg (pv 0) (pg_tup (by rfl) (pgs_cons (pg_name (i := 3) sc_is_exception.nd rfl (Or.inl rfl)) (pgs_cons (pg_name (i := 4) sc_is_exception.nd rfl (Or.inl rfl)) (pgs_cons (pg_name (i := 5) sc_is_exception.nd rfl (Or.inl rfl)) (pgs_cons (pg_name (i := 6) sc_is_exception.nd rfl (Or.inl rfl)) (pgs_cons (pg_name (i := 7) sc_is_exception.nd rfl (Or.inl rfl)) pgs_nil)))))))
      (pss_cons (ps_if (pt_not (pt_val (pe_d D_is_name (hr.mono (by decide)) rfl (pa_cons (pv 4) pa_nil))))
      (pss_one (ps_ret pe_bl))
      pss_nil)
      (pss_cons (ps_if (pt_not (pt_val (pe_callB (id := "all") (cr_all rfl) (by rfl) T.b_all (by decide +kernel) (pa_cons (pe_lc (own := [("number", 8)]) (g := gName 8) rfl sc_is_exception.nd (pi_tup (pe_tup (pa_cons (pv 3) (pa_cons (pv 5) (pa_cons (pv 7) pa_nil))))) (blkOk_by (own := [("number", 8)]) (N := NM_is_exception) (sc := defScope s_is_exception) (by decide +kernel)) (fun _ _ _ _ _ => (pg_name (i := 8) sc_is_exception.nd rfl (Or.inl rfl))) (fun _ _ _ _ _ => pts_nil) (fun _ _ _ _ _ => (pe_d D_is_mode (hr.mono (by decide)) rfl (pa_cons (pv 8) (pa_cons (pv 1) pa_nil))))) pa_nil))))
      (pss_one (ps_ret pe_bl))
      pss_nil)
      (pss_one (ps_ret (pe_and (pe_d D_is_piece (hr.mono (by decide)) rfl (pa_cons (pv 6) pa_nil)) (pe_one (pe_d D_is_nested (hr.mono (by decide)) rfl (pa_cons (pe_op opAddS (pe_ix ix_tup (pe_d D_rule_at (hr.mono (by decide)) rfl (pa_cons (pv 2) (pa_cons (pv 3) (pa_cons (pv 4) pa_nil)))) pe_int (fun _ _ => rfl)) (pv 6)) pa_nil)))))))))), ?_⟩
  try dsimp only [cxOf, Cx.nox, Cx.wish]
  obtain ⟨hl, F, ⟨a_given, a_modes, a_rules⟩, K0, hF, ⟨v_given, _, v_rules, rfl, h_given, rfl, h_rules⟩, k, q⟩ := h
  have O := NF.Fz.start hF
  have lF := NF.Ex.rfl (B := H) (F := F)
  refine (NF.x_seq (NF.x_ifs (NF.x_or (NF.x_not (NF.x_B (NF.x_cb (NF.x_cons (NF.x_var rfl (NF.x_cons (NF.x_tup (NF.x_cons (NF.x_c (NF.x_cons (NF.x_c (NF.x_nil (NF.y_tmp O (show 2 ≤ sizeLine by decide) (fun tp H ht O => (NF.x_nil (NF.y_isTT O.leF h_given ht (NF.x_bl (NF.x_ff (NF.x_test (NF.x_op (NF.x_cb (NF.x_cons (NF.x_var rfl (NF.x_nil (NF.y_lenP O.leF h_given (NF.x_c (NF.y_neI (NF.x_bl (NF.x_itb (fun g41 => (have k := k.1 g41; ?n42)) (fun g41 => (have k := k.2 g41; ?n43))))))))))))))))))))))))))))))))))
  case n42 =>
    exact (NF.x_ret (NF.x_c (q false k _ _ _ O.leB O.leF lF rfl)))
  case n43 =>
    refine NF.x_next ?_
    refine (NF.x_seq (NF.x_asg (NF.x_var rfl (NF.y_un5 O.leF h_given (fun v1 v3 v5 v7 v9 h2 h4 h6 h8 h10 => (NF.byI v1 h2 (NF.byC v3 h4 (NF.byI v5 h6 (NF.byS v7 h8 (NF.byI v9 h10 (NF.g_cons (NF.x_name (NF.g_cons (NF.x_name (NF.g_cons (NF.x_name (NF.g_cons (NF.x_name (NF.g_cons (NF.x_name (NF.g_nil ?_)))))))))))))))))))))
    refine (NF.x_seq (NF.x_ifs (NF.x_not (NF.x_B (NF.x_call (NF.x_cons (NF.x_var rfl (NF.x_nil (NF.use_spW (i := a_given.2.1) O rfl ⟨_, rfl, rfl⟩ k (fun y11 v F H l0 O hv k => NF.byB v hv (have h_given := Enc.mono (eP5 eInt eChr eInt eStr eInt) l0.le h_given; (have h_rules := Enc.mono (eDT kIC (eP4 eStr eInt eStr eInt)) l0.le h_rules; (have lF := Ex.trans lF l0; (NF.x_bl (NF.x_itb (fun g38 => (have k := k.1 g38; ?n39)) (fun g38 => (have k := k.2 g38; ?n40)))))))))))))))))
    case n39 =>
      exact (NF.x_ret (NF.x_c (q false k _ _ _ O.leB O.leF lF rfl)))
    case n40 =>
      refine NF.x_next ?_
      refine (NF.x_seq (NF.x_ifs (NF.x_not (NF.x_B (NF.x_cb (NF.x_cons (NF.x_lc (NF.x_jT (NF.x_tup (NF.x_cons (NF.x_var rfl (NF.x_cons (NF.x_var rfl (NF.x_cons (NF.x_var rfl (NF.x_nil (NF.y_tup O (show 3 ≤ sizeLine by decide) (fun p13 F H hp l0 O => (have h_given := Enc.mono (eP5 eInt eChr eInt eStr eInt) l0.le h_given; (have h_rules := Enc.mono (eDT kIC (eP4 eStr eInt eStr eInt)) l0.le h_rules; (have lF := Ex.trans lF l0; (have h12 : (eTup eInt).rep F (.ref p13) [a_given.1, a_given.2.2.1, a_given.2.2.2.2] := ⟨_, _, rfl, hp, .cons rfl (.cons rfl (.cons rfl (.nil)))⟩; (NF.y_jT O.leF h12 (fun J T => (NF.y_comp (er := eBool) (fun F R => R = ([] : List (Addr × HO))) T (by rintro _ _ rfl; first | trivial | simp) O k.2 k.1 rfl (fun i x14 r pc20 acc18 at19 F0 F R H v hi lc17 hI ra21 hl l1 O hv k => match R, hI, O with | _, rfl, O => (have O : NF.Fz _ F H ([(pc20, HO.lst acc18)] ++ []) := O; (have lc17 := Ex.trans lc17 l1; (have ra21 := ra21.mono fun _ _ => Enc.mono eBool l1.le; (have h_given := Enc.mono (eP5 eInt eChr eInt eStr eInt) lc17.le h_given; (have h_rules := Enc.mono (eDT kIC (eP4 eStr eInt eStr eInt)) lc17.le h_rules; (have h12 := Enc.mono (eTup eInt) lc17.le h12; (have lF := Ex.trans lF lc17; (NF.byI v hv (NF.x_name ⟨NF.set_wipe _ _ _, (NF.x_yes (NF.x_tt (NF.x_call (NF.x_cons (NF.x_var rfl (NF.x_cons (NF.x_var rfl (NF.x_nil (NF.use_spW (i := (x14, a_modes)) O rfl ⟨_, _, rfl, rfl, rfl⟩ k (fun y22 v F H l0 O hv k => NF.byB v hv (have h_given := Enc.mono (eP5 eInt eChr eInt eStr eInt) l0.le h_given; (have h_rules := Enc.mono (eDT kIC (eP4 eStr eInt eStr eInt)) l0.le h_rules; (have h12 := Enc.mono (eTup eInt) l0.le h12; (have ra21 := ra21.mono fun _ _ => Enc.mono eBool l0.le; (have lF := Ex.trans lF l0; (have lc17 := Ex.trans lc17 l0; (NF.cE_mk (R' := []) hi lc17 rfl O ra21 hl rfl k)))))))))))))))))⟩)))))))))) (fun p25 F R vs24 y23 H l0 hI O ra26 k => match R, hI, O with | _, rfl, O => (have h_given := Enc.mono (eP5 eInt eChr eInt eStr eInt) l0.le h_given; (have h_rules := Enc.mono (eDT kIC (eP4 eStr eInt eStr eInt)) l0.le h_rules; (have h12 := Enc.mono (eTup eInt) l0.le h12; (have lF := Ex.trans lF l0; (NF.y_frz O 0 rfl (fun F l0 hp O => (have O : NF.Fz _ F H ([] : List (Addr × HO)) := O; (have h_given := Enc.mono (eP5 eInt eChr eInt eStr eInt) l0.le h_given; (have h_rules := Enc.mono (eDT kIC (eP4 eStr eInt eStr eInt)) l0.le h_rules; (have h12 := Enc.mono (eTup eInt) l0.le h12; (have lF := Ex.trans lF l0; (have h27 : (eLst eBool).rep F (.ref p25) y23 := ⟨_, _, rfl, hp, ra26.mono fun _ _ => Enc.mono eBool l0.le⟩; (NF.x_nil (NF.y_allR O.leF h27 (NF.x_bl (NF.x_itb (fun g35 => (have k := k.1 g35; ?n36)) (fun g35 => (have k := k.2 g35; ?n37))))))))))))))))))))))))))))))))))))))))))))
      case n36 =>
        exact (NF.x_ret (NF.x_c (q false k _ _ _ O.leB O.leF lF rfl)))
      case n37 =>
        refine NF.x_next ?_
        exact (NF.x_ret (NF.x_andV (NF.x_call (NF.x_cons (NF.x_var rfl (NF.x_nil (NF.use_spW (i := a_given.2.2.2.1) O rfl ⟨_, rfl, rfl⟩ k (fun y28 v F H l0 O hv k => NF.byB v hv (have h_given := Enc.mono (eP5 eInt eChr eInt eStr eInt) l0.le h_given; (have h_rules := Enc.mono (eDT kIC (eP4 eStr eInt eStr eInt)) l0.le h_rules; (have lF := Ex.trans lF l0; ⟨_, rfl, (NF.x_itb (fun g29 => (have k := k.1 g29; (NF.x_call (NF.x_cons (NF.x_op (NF.x_op (NF.x_call (NF.x_cons (NF.x_var rfl (NF.x_cons (NF.x_var rfl (NF.x_cons (NF.x_var rfl (NF.x_nil (NF.use_spW (i := (a_rules, a_given.1, a_given.2.1)) O rfl ⟨_, _, _, rfl, h_rules, rfl, rfl⟩ k (fun y30 v31 F H l0 O h32 k => (have h_given := Enc.mono (eP5 eInt eChr eInt eStr eInt) l0.le h_given; (have h_rules := Enc.mono (eDT kIC (eP4 eStr eInt eStr eInt)) l0.le h_rules; (have lF := Ex.trans lF l0; (NF.x_c (NF.y_ix40 O.leF h32 (fun u hu => NF.byS u hu (NF.x_var rfl (have c33 := k.1; have k := k.2; (NF.x_addS c33 (NF.x_nil (NF.use_spW (i := (y30.1 ++ a_given.2.2.2.1)) O rfl ⟨_, rfl, rfl⟩ k (fun y34 v F H l0 O hv k => NF.byB v hv (have h_given := Enc.mono (eP5 eInt eChr eInt eStr eInt) l0.le h_given; (have h_rules := Enc.mono (eDT kIC (eP4 eStr eInt eStr eInt)) l0.le h_rules; (have h32 := Enc.mono (eP4 eStr eInt eStr eInt) l0.le h32; (have lF := Ex.trans lF l0; (q y34 k _ _ _ O.leB O.leF lF rfl))))))))))))))))))))))))))))))))) (fun g29 => (have k := k.2 g29; (q false k _ _ _ O.leB O.leF lF rfl))))⟩)))))))))))


def m_checked_rules (a_modes : Int) (a_rules : List (Int × Nat × Str × Int × Str × Int)) : W (List ((Int × Nat) × (Str × Int × Str × Int))) :=
  W.for_ a_rules ([] : List ((Int × Nat) × (Str × Int × Str × Int))) (fun (x4 : Int × Nat × Str × Int × Str × Int) (z_found : (List ((Int × Nat) × (Str × Int × Str × Int)))) =>
  W.bind (m_is_rule x4 a_modes) fun y7 =>
  W.ite (!y7) (W.no)
  (W.ite (dGet z_found (x4.1, x4.2.1)).isSome (W.no)
  (W.chk (z_found.length < sizeLine) <|
  W.ok (.nx (dPut z_found (x4.1, x4.2.1) (x4.2.2.1, x4.2.2.2.1, x4.2.2.2.2.1, x4.2.2.2.2.2)))))) (fun (z_found : (List ((Int × Nat) × (Str × Int × Str × Int)))) =>
  W.ok z_found)
abbrev NM_checked_rules : List Str := ["modes", "rules", "found", "rule", "mode", "name", "before", "inner", "after", "following"]
theorem sc_checked_rules : FnScope NM_checked_rules ["modes", "rules"] (defScope s_checked_rules) := ⟨rfl, rfl, rfl, by decide +kernel, rfl, by decide +kernel, by decide +kernel⟩
theorem d_checked_rules (F : Fn0 K mg "_checked_rules" s_checked_rules) (T : Txt P K mg) (D_is_rule : Def P w K mg base 3 "_is_rule" ["given", "modes"] (spW 2 (fun F vs (i : (Int × Nat × Str × Int × Str × Int) × Int) => ∃ v0 v1, vs = [v0, v1] ∧ (eP6 eInt eChr eStr eInt eStr eInt).rep F v0 i.1 ∧ eInt.rep F v1 i.2) eBool (fun (i : (Int × Nat × Str × Int × Str × Int) × Int) => m_is_rule i.1 i.2))) :
    Def P w K mg base 4 "_checked_rules" ["modes", "rules"] (spW 2 (fun F vs (i : Int × (List (Int × Nat × Str × Int × Str × Int))) => ∃ v0 v1, vs = [v0, v1] ∧ eInt.rep F v0 i.1 ∧ (eLst (eP6 eInt eChr eStr eInt eStr eInt)).rep F v1 i.2) (eDT kIC (eP4 eStr eInt eStr eInt)) (fun (i : Int × (List (Int × Nat × Str × Int × Str × Int))) => m_checked_rules i.1 i.2)) := by
  refine Def.mk0 F sc_checked_rules (by first | exact NF.hl_spW | exact NF.hl_spWb | exact NF.hl_spWX | exact NF.hl_spWm | exact NF.hl_spWo) (fun _ _ _ _ _ _ us hl => match us, hl with | [_, _], _ => rfl) (fun cdv A outer s H vs Q E hr h => ?_)
  refine ⟨_, (pss_cons (ps_set (i := 2) sc_checked_rules.nd rfl (Or.inl rfl) pe_dnewT)
      (pss_cons (ps_for PassesOwn.never rfl (pi_list (pv 1)) (pg_name (i := 3) sc_checked_rules.nd rfl (Or.inl rfl))
      (pss_cons (ps_if (PW.pt (pw_or (pt_not (pt_val (pe_d D_is_rule (hr.mono (by decide)) rfl (pa_cons (pv 3) (pa_cons (pv 0) pa_nil))))) (pw_or1 (pt_cmp (pc_din (NF.u1 hr.units) (pe_tup (pa_cons (pe_ix ix_tup (pv 3) pe_int (fun _ _ => rfl)) (pa_cons (pe_ix ix_tup (pv 3) pe_int (fun _ _ => rfl)) pa_nil))) (pv 2))))))
      (pss_one NF.ps_dead)
      pss_nil)
      (pss_cons (ps_asg (pv 3) (pg_tup (by rfl) (pgs_cons (pg_name (i := 4) sc_checked_rules.nd rfl (Or.inl rfl)) (pgs_cons (pg_name (i := 5) sc_checked_rules.nd rfl (Or.inl rfl)) (pgs_cons (pg_name (i := 6) sc_checked_rules.nd rfl (Or.inl rfl)) (pgs_cons (pg_name (i := 7) sc_checked_rules.nd rfl (Or.inl rfl)) (pgs_cons (pg_name (i := 8) sc_checked_rules.nd rfl (Or.inl rfl)) (pgs_cons (pg_name (i := 9) sc_checked_rules.nd rfl (Or.inl rfl)) pgs_nil))))))))
      (pss_one (ps_asg (pe_tup (pa_cons (pv 6) (pa_cons (pv 7) (pa_cons (pv 8) (pa_cons (pv 9) pa_nil))))) (pg_sub (pv 2) (pe_tup (pa_cons (pv 4) (pa_cons (pv 5) pa_nil))) (set_dict (NF.u1 hr.units))))))))
      (pss_one (ps_ret (pv 2))))), ?_⟩
  try dsimp only [cxOf, Cx.nox, Cx.wish]
  obtain ⟨hl, F, ⟨a_modes, a_rules⟩, K0, hF, ⟨_, v_rules, rfl, rfl, h_rules⟩, k, q⟩ := h
  have O := NF.Fz.start hF
  have lF := NF.Ex.rfl (B := H) (F := F)
  refine (NF.x_seq (NF.x_asg (NF.x_dnewT O (fun p1 H O => (have O : NF.Fz _ F H ([(p1, HO.dT [])] ++ ([]) : List (Addr × HO)) := O; (have h2 : NF.RD kIC.key ((eP4 eStr eInt eStr eInt).rep F) [] [] := .nil; (NF.x_name ?_)))))))
  refine (NF.x_seq (NF.x_for (NF.x_jL (NF.x_var rfl (NF.y_jL O.leF h_rules (fun J T => (NF.y_for (σt := (List ((Int × Nat) × (Str × Int × Str × Int)))) (fun (z_found : (List ((Int × Nat) × (Str × Int × Str × Int)))) (σ : L2.St) (F : Hp) (R : List (Addr × HO)) => ∃ vs_found : List (List Key × V), ∃ u3 : Option V, ∃ u4 : Option V, ∃ u5 : Option V, ∃ u6 : Option V, ∃ u7 : Option V, ∃ u8 : Option V, ∃ u9 : Option V, σ = [some (.int a_modes), some v_rules, some (.ref p1), u3, u4, u5, u6, u7, u8, u9] ∧ R = ([(p1, HO.dT vs_found)] ++ ([]) : List (Addr × HO)) ∧ RD kIC.key ((eP4 eStr eInt eStr eInt).rep F) vs_found z_found) T (by rintro z_found _ _ _ ⟨vs_found, u3, u4, u5, u6, u7, u8, u9, rfl, rfl, r_found⟩; first | trivial | simp) O k ⟨_, _, _, _, _, _, _, _, rfl, rfl, h2⟩ ?_ ?_)))))))
  · rintro x4 r z_found _ F0 F _ H v5 lp3 ⟨vs_found, u3, u4, u5, u6, u7, u8, u9, rfl, rfl, r_found⟩ l1 O h6 k
    have lp3 := Ex.trans lp3 l1
    have h_rules := Enc.mono (eLst (eP6 eInt eChr eStr eInt eStr eInt)) lp3.le h_rules
    have r_found := r_found.mono fun _ _ => Enc.mono (eP4 eStr eInt eStr eInt) l1.le
    have lF := Ex.trans lF lp3
    refine NF.x_name ?_
    refine (NF.x_seq (NF.x_ifs (NF.x_or (NF.x_not (NF.x_B (NF.x_call (NF.x_cons (NF.x_var rfl (NF.x_cons (NF.x_var rfl (NF.x_nil (NF.use_spW (i := (x4, a_modes)) O rfl ⟨_, _, rfl, h6, rfl⟩ k (fun y7 v F H l0 O hv k => NF.byB v hv (have h_rules := Enc.mono (eLst (eP6 eInt eChr eStr eInt eStr eInt)) l0.le h_rules; (have r_found := r_found.mono fun _ _ => Enc.mono (eP4 eStr eInt eStr eInt) l0.le; (have h6 := Enc.mono (eP6 eInt eChr eStr eInt eStr eInt) l0.le h6; (have lF := Ex.trans lF l0; (have lp3 := Ex.trans lp3 l0; (NF.x_bl (NF.x_itb (fun g29 => (have k := k.1 g29; (NF.x_tt ?n30))) (fun g29 => (have k := k.2 g29; (NF.x_test (NF.x_din (NF.x_tup (NF.x_cons (NF.x_op (NF.x_var rfl (NF.x_c (NF.y_ix60 O.leF h6 (fun u hu => NF.byI u hu (NF.x_cons (NF.x_op (NF.x_var rfl (NF.x_c (NF.y_ix61 O.leF h6 (fun u hu => NF.byC u hu (NF.x_nil (NF.y_tup O (show 2 ≤ sizeLine by decide) (fun p9 F H hp l0 O => (have h_rules := Enc.mono (eLst (eP6 eInt eChr eStr eInt eStr eInt)) l0.le h_rules; (have r_found := r_found.mono fun _ _ => Enc.mono (eP4 eStr eInt eStr eInt) l0.le; (have h6 := Enc.mono (eP6 eInt eChr eStr eInt eStr eInt) l0.le h6; (have lF := Ex.trans lF l0; (have lp3 := Ex.trans lp3 l0; (have h8 : (eP2 eInt eChr).rep F (.ref p9) (x4.1, x4.2.1) := ⟨_, _, _, rfl, hp, rfl, rfl⟩; (NF.x_var rfl (NF.y_din (NF.Fz.vl O 0 rfl) O.leF (NF.vwD O 0 rfl r_found) h8 (NF.x_bl (NF.x_itb (fun g28 => (have k := k.1 g28; ?n31)) (fun g28 => (have k := k.2 g28; ?n32))))))))))))))))))))))))))))))))))))))))))))))))))))
    case n30 =>
      exact k.elim
    case n31 =>
      exact k.elim
    case n32 =>
      refine NF.x_next ?_
      refine (NF.x_seq (NF.x_asg (NF.x_var rfl (NF.y_un6 O.leF h6 (fun v10 v12 v14 v16 v18 v20 h11 h13 h15 h17 h19 h21 => (NF.byI v10 h11 (NF.byC v12 h13 (NF.byS v14 h15 (NF.byI v16 h17 (NF.byS v18 h19 (NF.byI v20 h21 (NF.g_cons (NF.x_name (NF.g_cons (NF.x_name (NF.g_cons (NF.x_name (NF.g_cons (NF.x_name (NF.g_cons (NF.x_name (NF.g_cons (NF.x_name (NF.g_nil ?_))))))))))))))))))))))))
      refine (NF.x_asg (NF.x_tup (NF.x_cons (NF.x_var rfl (NF.x_cons (NF.x_var rfl (NF.x_cons (NF.x_var rfl (NF.x_cons (NF.x_var rfl (NF.x_nil (NF.y_tup O (show 4 ≤ sizeLine by decide) (fun p23 F H hp l0 O => (have h_rules := Enc.mono (eLst (eP6 eInt eChr eStr eInt eStr eInt)) l0.le h_rules; (have r_found := r_found.mono fun _ _ => Enc.mono (eP4 eStr eInt eStr eInt) l0.le; (have h6 := Enc.mono (eP6 eInt eChr eStr eInt eStr eInt) l0.le h6; (have lF := Ex.trans lF l0; (have lp3 := Ex.trans lp3 l0; (have h22 : (eP4 eStr eInt eStr eInt).rep F (.ref p23) (x4.2.2.1, x4.2.2.2.1, x4.2.2.2.2.1, x4.2.2.2.2.2) := ⟨_, _, _, _, _, rfl, hp, rfl, rfl, rfl, rfl⟩; (NF.x_sub (NF.x_var rfl (NF.x_tup (NF.x_cons (NF.x_var rfl (NF.x_cons (NF.x_var rfl (NF.x_nil (NF.y_tup O (show 2 ≤ sizeLine by decide) (fun p25 F H hp l0 O => (have h_rules := Enc.mono (eLst (eP6 eInt eChr eStr eInt eStr eInt)) l0.le h_rules; (have r_found := r_found.mono fun _ _ => Enc.mono (eP4 eStr eInt eStr eInt) l0.le; (have h6 := Enc.mono (eP6 eInt eChr eStr eInt eStr eInt) l0.le h6; (have h22 := Enc.mono (eP4 eStr eInt eStr eInt) l0.le h22; (have lF := Ex.trans lF l0; (have lp3 := Ex.trans lp3 l0; (have h24 : (eP2 eInt eChr).rep F (.ref p25) (x4.1, x4.2.1) := ⟨_, _, _, rfl, hp, rfl, rfl⟩; (have c26 := k.1; have k := k.2; (NF.y_dput O 0 rfl r_found h24 h22 c26 (fun vs27 H r_found O => (have O : NF.Fz _ F H ([(p1, HO.dT vs27)] ++ ([]) : List (Addr × HO)) := O; ?_))))))))))))))))))))))))))))))))))))))))
      exact ⟨(dPut z_found (x4.1, x4.2.1) (x4.2.2.1, x4.2.2.2.1, x4.2.2.2.2.1, x4.2.2.2.2.2)), _, _, lp3, O, ⟨_, _, _, _, _, _, _, _, rfl, rfl, r_found⟩, k⟩
  · rintro z_found _ F _ H l0 O ⟨vs_found, u3, u4, u5, u6, u7, u8, u9, rfl, rfl, r_found⟩ k
    have h_rules := Enc.mono (eLst (eP6 eInt eChr eStr eInt eStr eInt)) l0.le h_rules
    have lF := Ex.trans lF l0
    exact (NF.x_ret (NF.x_var rfl (NF.y_frz O 0 rfl (fun F l0 hp O => (have O : NF.Fz _ F H ([] : List (Addr × HO)) := O; (have h_rules := Enc.mono (eLst (eP6 eInt eChr eStr eInt eStr eInt)) l0.le h_rules; (have r_found := r_found.mono fun _ _ => Enc.mono (eP4 eStr eInt eStr eInt) l0.le; (have lF := Ex.trans lF l0; (have h33 : (eDT kIC (eP4 eStr eInt eStr eInt)).rep F (.ref p1) z_found := ⟨_, _, rfl, hp, r_found⟩; (q z_found k _ _ _ O.leB O.leF lF h33))))))))))

def m_checked_exceptions (a_modes : Int) (a_rules : List ((Int × Nat) × (Str × Int × Str × Int))) (a_exceptions : List (Int × Nat × Int × Str × Int)) : W (List ((Int × Nat × Int) × (Str × Int))) :=
  W.for_ a_exceptions ([] : List ((Int × Nat × Int) × (Str × Int))) (fun (x4 : Int × Nat × Int × Str × Int) (z_found : (List ((Int × Nat × Int) × (Str × Int)))) =>
  W.bind (m_is_exception x4 a_modes a_rules) fun y7 =>
  W.ite (!y7) (W.no)
  (W.ite (dGet z_found (x4.1, x4.2.1, x4.2.2.1)).isSome (W.no)
  (W.chk (z_found.length < sizeLine) <|
  W.ok (.nx (dPut z_found (x4.1, x4.2.1, x4.2.2.1) (x4.2.2.2.1, x4.2.2.2.2)))))) (fun (z_found : (List ((Int × Nat × Int) × (Str × Int)))) =>
  W.ok z_found)
abbrev NM_checked_exceptions : List Str := ["modes", "rules", "exceptions", "found", "exception", "mode", "name", "end", "after", "following"]
theorem sc_checked_exceptions : FnScope NM_checked_exceptions ["modes", "rules", "exceptions"] (defScope s_checked_exceptions) := ⟨rfl, rfl, rfl, by decide +kernel, rfl, by decide +kernel, by decide +kernel⟩
theorem d_checked_exceptions (F : Fn0 K mg "_checked_exceptions" s_checked_exceptions) (T : Txt P K mg) (D_is_exception : Def P w K mg base 3 "_is_exception" ["given", "modes", "rules"] (spW 3 (fun F vs (i : (Int × Nat × Int × Str × Int) × Int × (List ((Int × Nat) × (Str × Int × Str × Int)))) => ∃ v0 v1 v2, vs = [v0, v1, v2] ∧ (eP5 eInt eChr eInt eStr eInt).rep F v0 i.1 ∧ eInt.rep F v1 i.2.1 ∧ (eDT kIC (eP4 eStr eInt eStr eInt)).rep F v2 i.2.2) eBool (fun (i : (Int × Nat × Int × Str × Int) × Int × (List ((Int × Nat) × (Str × Int × Str × Int)))) => m_is_exception i.1 i.2.1 i.2.2))) :
    Def P w K mg base 4 "_checked_exceptions" ["modes", "rules", "exceptions"] (spW 3 (fun F vs (i : Int × (List ((Int × Nat) × (Str × Int × Str × Int))) × (List (Int × Nat × Int × Str × Int))) => ∃ v0 v1 v2, vs = [v0, v1, v2] ∧ eInt.rep F v0 i.1 ∧ (eDT kIC (eP4 eStr eInt eStr eInt)).rep F v1 i.2.1 ∧ (eLst (eP5 eInt eChr eInt eStr eInt)).rep F v2 i.2.2) (eDT kICI (eP2 eStr eInt)) (fun (i : Int × (List ((Int × Nat) × (Str × Int × Str × Int))) × (List (Int × Nat × Int × Str × Int))) => m_checked_exceptions i.1 i.2.1 i.2.2)) := by
  refine Def.mk0 F sc_checked_exceptions (by first | exact NF.hl_spW | exact NF.hl_spWb | exact NF.hl_spWX | exact NF.hl_spWm | exact NF.hl_spWo) (fun _ _ _ _ _ _ us hl => match us, hl with | [_, _, _], _ => rfl) (fun cdv A outer s H vs Q E hr h => ?_)
  refine ⟨_, (pss_cons (ps_set (i := 3) sc_checked_exceptions.nd rfl (Or.inl rfl) pe_dnewT)
      (pss_cons (ps_for PassesOwn.never rfl (pi_list (pv 2)) (pg_name (i := 4) sc_checked_exceptions.nd rfl (Or.inl rfl))
      (pss_cons (ps_if (pt_not (pt_val (pe_d D_is_exception (hr.mono (by decide)) rfl (pa_cons (pv 4) (pa_cons (pv 0) (pa_cons (pv 1) pa_nil))))))
      (pss_one NF.ps_dead)
      pss_nil)
      (pss_cons (ps_asg (pv 4) (pg_tup (by rfl) (pgs_cons (pg_name (i := 5) sc_checked_exceptions.nd rfl (Or.inl rfl)) (pgs_cons (pg_name (i := 6) sc_checked_exceptions.nd rfl (Or.inl rfl)) (pgs_cons (pg_name (i := 7) sc_checked_exceptions.nd rfl (Or.inl rfl)) (pgs_cons (pg_name (i := 8) sc_checked_exceptions.nd rfl (Or.inl rfl)) (pgs_cons (pg_name (i := 9) sc_checked_exceptions.nd rfl (Or.inl rfl)) pgs_nil)))))))
      (pss_cons (ps_if (pt_cmp (pc_din (NF.u1 hr.units) (pe_tup (pa_cons (pv 5) (pa_cons (pv 6) (pa_cons (pv 7) pa_nil)))) (pv 3)))
      (pss_one NF.ps_dead)
      pss_nil)
      (pss_one (ps_asg (pe_tup (pa_cons (pv 8) (pa_cons (pv 9) pa_nil))) (pg_sub (pv 3) (pe_tup (pa_cons (pv 5) (pa_cons (pv 6) (pa_cons (pv 7) pa_nil)))) (set_dict (NF.u1 hr.units)))))))))
      (pss_one (ps_ret (pv 3))))), ?_⟩
  try dsimp only [cxOf, Cx.nox, Cx.wish]
  obtain ⟨hl, F, ⟨a_modes, a_rules, a_exceptions⟩, K0, hF, ⟨_, v_rules, v_exceptions, rfl, rfl, h_rules, h_exceptions⟩, k, q⟩ := h
  have O := NF.Fz.start hF
  have lF := NF.Ex.rfl (B := H) (F := F)
  refine (NF.x_seq (NF.x_asg (NF.x_dnewT O (fun p1 H O => (have O : NF.Fz _ F H ([(p1, HO.dT [])] ++ ([]) : List (Addr × HO)) := O; (have h2 : NF.RD kICI.key ((eP2 eStr eInt).rep F) [] [] := .nil; (NF.x_name ?_)))))))
  refine (NF.x_seq (NF.x_for (NF.x_jL (NF.x_var rfl (NF.y_jL O.leF h_exceptions (fun J T => (NF.y_for (σt := (List ((Int × Nat × Int) × (Str × Int)))) (fun (z_found : (List ((Int × Nat × Int) × (Str × Int)))) (σ : L2.St) (F : Hp) (R : List (Addr × HO)) => ∃ vs_found : List (List Key × V), ∃ u4 : Option V, ∃ u5 : Option V, ∃ u6 : Option V, ∃ u7 : Option V, ∃ u8 : Option V, ∃ u9 : Option V, σ = [some (.int a_modes), some v_rules, some v_exceptions, some (.ref p1), u4, u5, u6, u7, u8, u9] ∧ R = ([(p1, HO.dT vs_found)] ++ ([]) : List (Addr × HO)) ∧ RD kICI.key ((eP2 eStr eInt).rep F) vs_found z_found) T (by rintro z_found _ _ _ ⟨vs_found, u4, u5, u6, u7, u8, u9, rfl, rfl, r_found⟩; first | trivial | simp) O k ⟨_, _, _, _, _, _, _, rfl, rfl, h2⟩ ?_ ?_)))))))
  · rintro x4 r z_found _ F0 F _ H v5 lp3 ⟨vs_found, u4, u5, u6, u7, u8, u9, rfl, rfl, r_found⟩ l1 O h6 k
    have lp3 := Ex.trans lp3 l1
    have h_rules := Enc.mono (eDT kIC (eP4 eStr eInt eStr eInt)) lp3.le h_rules
    have h_exceptions := Enc.mono (eLst (eP5 eInt eChr eInt eStr eInt)) lp3.le h_exceptions
    have r_found := r_found.mono fun _ _ => Enc.mono (eP2 eStr eInt) l1.le
    have lF := Ex.trans lF lp3
    refine NF.x_name ?_
    refine (NF.x_seq (NF.x_ifs (NF.x_not (NF.x_B (NF.x_call (NF.x_cons (NF.x_var rfl (NF.x_cons (NF.x_var rfl (NF.x_cons (NF.x_var rfl (NF.x_nil (NF.use_spW (i := (x4, a_modes, a_rules)) O rfl ⟨_, _, _, rfl, h6, rfl, h_rules⟩ k (fun y7 v F H l0 O hv k => NF.byB v hv (have h_rules := Enc.mono (eDT kIC (eP4 eStr eInt eStr eInt)) l0.le h_rules; (have h_exceptions := Enc.mono (eLst (eP5 eInt eChr eInt eStr eInt)) l0.le h_exceptions; (have r_found := r_found.mono fun _ _ => Enc.mono (eP2 eStr eInt) l0.le; (have h6 := Enc.mono (eP5 eInt eChr eInt eStr eInt) l0.le h6; (have lF := Ex.trans lF l0; (have lp3 := Ex.trans lp3 l0; (NF.x_bl (NF.x_itb (fun g29 => (have k := k.1 g29; ?n30)) (fun g29 => (have k := k.2 g29; ?n31))))))))))))))))))))))))
    case n30 =>
      exact k.elim
    case n31 =>
      refine NF.x_next ?_
      refine (NF.x_seq (NF.x_asg (NF.x_var rfl (NF.y_un5 O.leF h6 (fun v8 v10 v12 v14 v16 h9 h11 h13 h15 h17 => (NF.byI v8 h9 (NF.byC v10 h11 (NF.byI v12 h13 (NF.byS v14 h15 (NF.byI v16 h17 (NF.g_cons (NF.x_name (NF.g_cons (NF.x_name (NF.g_cons (NF.x_name (NF.g_cons (NF.x_name (NF.g_cons (NF.x_name (NF.g_nil ?_)))))))))))))))))))))
      refine (NF.x_seq (NF.x_ifs (NF.x_test (NF.x_din (NF.x_tup (NF.x_cons (NF.x_var rfl (NF.x_cons (NF.x_var rfl (NF.x_cons (NF.x_var rfl (NF.x_nil (NF.y_tup O (show 3 ≤ sizeLine by decide) (fun p19 F H hp l0 O => (have h_rules := Enc.mono (eDT kIC (eP4 eStr eInt eStr eInt)) l0.le h_rules; (have h_exceptions := Enc.mono (eLst (eP5 eInt eChr eInt eStr eInt)) l0.le h_exceptions; (have r_found := r_found.mono fun _ _ => Enc.mono (eP2 eStr eInt) l0.le; (have h6 := Enc.mono (eP5 eInt eChr eInt eStr eInt) l0.le h6; (have lF := Ex.trans lF l0; (have lp3 := Ex.trans lp3 l0; (have h18 : (eP3 eInt eChr eInt).rep F (.ref p19) (x4.1, x4.2.1, x4.2.2.1) := ⟨_, _, _, _, rfl, hp, rfl, rfl, rfl⟩; (NF.x_var rfl (NF.y_din (NF.Fz.vl O 0 rfl) O.leF (NF.vwD O 0 rfl r_found) h18 (NF.x_bl (NF.x_itb (fun g26 => (have k := k.1 g26; ?n27)) (fun g26 => (have k := k.2 g26; ?n28)))))))))))))))))))))))))))
      case n27 =>
        exact k.elim
      case n28 =>
        refine NF.x_next ?_
        refine (NF.x_asg (NF.x_tup (NF.x_cons (NF.x_var rfl (NF.x_cons (NF.x_var rfl (NF.x_nil (NF.y_tup O (show 2 ≤ sizeLine by decide) (fun p21 F H hp l0 O => (have h_rules := Enc.mono (eDT kIC (eP4 eStr eInt eStr eInt)) l0.le h_rules; (have h_exceptions := Enc.mono (eLst (eP5 eInt eChr eInt eStr eInt)) l0.le h_exceptions; (have r_found := r_found.mono fun _ _ => Enc.mono (eP2 eStr eInt) l0.le; (have h6 := Enc.mono (eP5 eInt eChr eInt eStr eInt) l0.le h6; (have lF := Ex.trans lF l0; (have lp3 := Ex.trans lp3 l0; (have h20 : (eP2 eStr eInt).rep F (.ref p21) (x4.2.2.2.1, x4.2.2.2.2) := ⟨_, _, _, rfl, hp, rfl, rfl⟩; (NF.x_sub (NF.x_var rfl (NF.x_tup (NF.x_cons (NF.x_var rfl (NF.x_cons (NF.x_var rfl (NF.x_cons (NF.x_var rfl (NF.x_nil (NF.y_tup O (show 3 ≤ sizeLine by decide) (fun p23 F H hp l0 O => (have h_rules := Enc.mono (eDT kIC (eP4 eStr eInt eStr eInt)) l0.le h_rules; (have h_exceptions := Enc.mono (eLst (eP5 eInt eChr eInt eStr eInt)) l0.le h_exceptions; (have r_found := r_found.mono fun _ _ => Enc.mono (eP2 eStr eInt) l0.le; (have h6 := Enc.mono (eP5 eInt eChr eInt eStr eInt) l0.le h6; (have h20 := Enc.mono (eP2 eStr eInt) l0.le h20; (have lF := Ex.trans lF l0; (have lp3 := Ex.trans lp3 l0; (have h22 : (eP3 eInt eChr eInt).rep F (.ref p23) (x4.1, x4.2.1, x4.2.2.1) := ⟨_, _, _, _, rfl, hp, rfl, rfl, rfl⟩; (have c24 := k.1; have k := k.2; (NF.y_dput O 0 rfl r_found h22 h20 c24 (fun vs25 H r_found O => (have O : NF.Fz _ F H ([(p1, HO.dT vs25)] ++ ([]) : List (Addr × HO)) := O; ?_))))))))))))))))))))))))))))))))))))))))
        exact ⟨(dPut z_found (x4.1, x4.2.1, x4.2.2.1) (x4.2.2.2.1, x4.2.2.2.2)), _, _, lp3, O, ⟨_, _, _, _, _, _, _, rfl, rfl, r_found⟩, k⟩
  · rintro z_found _ F _ H l0 O ⟨vs_found, u4, u5, u6, u7, u8, u9, rfl, rfl, r_found⟩ k
    have h_rules := Enc.mono (eDT kIC (eP4 eStr eInt eStr eInt)) l0.le h_rules
    have h_exceptions := Enc.mono (eLst (eP5 eInt eChr eInt eStr eInt)) l0.le h_exceptions
    have lF := Ex.trans lF l0
    exact (NF.x_ret (NF.x_var rfl (NF.y_frz O 0 rfl (fun F l0 hp O => (have O : NF.Fz _ F H ([] : List (Addr × HO)) := O; (have h_rules := Enc.mono (eDT kIC (eP4 eStr eInt eStr eInt)) l0.le h_rules; (have h_exceptions := Enc.mono (eLst (eP5 eInt eChr eInt eStr eInt)) l0.le h_exceptions; (have r_found := r_found.mono fun _ _ => Enc.mono (eP2 eStr eInt) l0.le; (have lF := Ex.trans lF l0; (have h32 : (eDT kICI (eP2 eStr eInt)).rep F (.ref p1) z_found := ⟨_, _, rfl, hp, r_found⟩; (q z_found k _ _ _ O.leB O.leF lF h32)))))))))))

def m_whole_tables (a_modes : Int) (a_rules : List ((Int × Nat) × (Str × Int × Str × Int))) (a_exceptions : List ((Int × Nat × Int) × (Str × Int))) : W ((List ((Int × Nat) × (Str × Int))) × (List ((Int × Nat × Int) × (Str × Int)))) :=
  W.chk (-(2 ^ 62) ≤ a_modes ∧ a_modes < 2 ^ 62) <|
  W.for_ (rngT 0 a_modes) (([] : List ((Int × Nat) × (Str × Int))), ([] : List ((Int × Nat × Int) × (Str × Int)))) (fun (x7 : Int) (s : (List ((Int × Nat) × (Str × Int))) × (List ((Int × Nat × Int) × (Str × Int)))) =>
  (fun (z_opening_rules : List ((Int × Nat) × (Str × Int))) (z_closing_rules : List ((Int × Nat × Int) × (Str × Int))) =>
  W.for_ (tl (Str.ofString "abcdefgh")) (z_opening_rules, z_closing_rules) (fun (x11 : Nat) (s : (List ((Int × Nat) × (Str × Int))) × (List ((Int × Nat × Int) × (Str × Int)))) =>
  (fun (z_opening_rules : List ((Int × Nat) × (Str × Int))) (z_closing_rules : List ((Int × Nat × Int) × (Str × Int))) =>
  W.bind (m_rule_at a_rules x7 x11) fun y14 =>
  W.chk (z_opening_rules.length < sizeLine) <|
  W.chk (-(2 ^ 62) ≤ a_modes ∧ a_modes < 2 ^ 62) <|
  W.for_ (rngT 0 a_modes) z_closing_rules (fun (x33 : Int) (z_closing_rules : (List ((Int × Nat × Int) × (Str × Int)))) =>
  W.chk (z_closing_rules.length < sizeLine) <|
  W.ok (.nx (dPut z_closing_rules (x7, x11, x33) ((dGet a_exceptions (x7, x11, x33)).getD (y14.2.2.1, y14.2.2.2))))) (fun (z_closing_rules : (List ((Int × Nat × Int) × (Str × Int)))) =>
  W.ok (.nx ((dPut z_opening_rules (x7, x11) (y14.1, y14.2.1)), z_closing_rules)))) s.1 s.2) (fun (s : (List ((Int × Nat) × (Str × Int))) × (List ((Int × Nat × Int) × (Str × Int)))) =>
  (fun (z_opening_rules : List ((Int × Nat) × (Str × Int))) (z_closing_rules : List ((Int × Nat × Int) × (Str × Int))) =>
  W.ok (.nx (z_opening_rules, z_closing_rules))) s.1 s.2)) s.1 s.2) (fun (s : (List ((Int × Nat) × (Str × Int))) × (List ((Int × Nat × Int) × (Str × Int)))) =>
  (fun (z_opening_rules : List ((Int × Nat) × (Str × Int))) (z_closing_rules : List ((Int × Nat × Int) × (Str × Int))) =>
  W.ok (z_opening_rules, z_closing_rules)) s.1 s.2)
abbrev NM_whole_tables : List Str := ["modes", "rules", "exceptions", "opening_rules", "closing_rules", "mode", "name", "before", "inner", "after", "following", "end", "rule"]
theorem sc_whole_tables : FnScope NM_whole_tables ["modes", "rules", "exceptions"] (defScope s_whole_tables) := ⟨rfl, rfl, rfl, by decide +kernel, rfl, by decide +kernel, by decide +kernel⟩
theorem d_whole_tables (F : Fn0 K mg "_whole_tables" s_whole_tables) (T : Txt P K mg) (D_rule_at : Def P w K mg base 1 "_rule_at" ["rules", "mode", "name"] (spW 3 (fun F vs (i : (List ((Int × Nat) × (Str × Int × Str × Int))) × Int × Nat) => ∃ v0 v1 v2, vs = [v0, v1, v2] ∧ (eDT kIC (eP4 eStr eInt eStr eInt)).rep F v0 i.1 ∧ eInt.rep F v1 i.2.1 ∧ eChr.rep F v2 i.2.2) (eP4 eStr eInt eStr eInt) (fun (i : (List ((Int × Nat) × (Str × Int × Str × Int))) × Int × Nat) => m_rule_at i.1 i.2.1 i.2.2))) :
    Def P w K mg base 2 "_whole_tables" ["modes", "rules", "exceptions"] (spW 3 (fun F vs (i : Int × (List ((Int × Nat) × (Str × Int × Str × Int))) × (List ((Int × Nat × Int) × (Str × Int)))) => ∃ v0 v1 v2, vs = [v0, v1, v2] ∧ eInt.rep F v0 i.1 ∧ (eDT kIC (eP4 eStr eInt eStr eInt)).rep F v1 i.2.1 ∧ (eDT kICI (eP2 eStr eInt)).rep F v2 i.2.2) (eP2 (eDT kIC (eP2 eStr eInt)) (eDT kICI (eP2 eStr eInt))) (fun (i : Int × (List ((Int × Nat) × (Str × Int × Str × Int))) × (List ((Int × Nat × Int) × (Str × Int)))) => m_whole_tables i.1 i.2.1 i.2.2)) := by
  refine Def.mk0 F sc_whole_tables (by first | exact NF.hl_spW | exact NF.hl_spWb | exact NF.hl_spWX | exact NF.hl_spWm | exact NF.hl_spWo) (fun _ _ _ _ _ _ us hl => match us, hl with | [_, _, _], _ => rfl) (fun cdv A outer s H vs Q E hr h => ?_)
  refine ⟨_, (pss_cons (ps_set (i := 3) sc_whole_tables.nd rfl (Or.inl rfl) pe_dnewT)
      (pss_cons (ps_set (i := 4) sc_whole_tables.nd rfl (Or.inl rfl) pe_dnewT)
      (pss_cons (ps_for PassesOwn.never rfl (pi_range1 (by rfl) T.b_range (pa_cons (pv 0) pa_nil)) (pg_name (i := 5) sc_whole_tables.nd rfl (Or.inl rfl))
      (pss_one (ps_for PassesOwn.never rfl (pi_str (pe_g rfl T.g_NAMES)) (pg_name (i := 6) sc_whole_tables.nd rfl (Or.inl rfl))
      (pss_cons (ps_asg (pe_d D_rule_at (hr.mono (by decide)) rfl (pa_cons (pv 1) (pa_cons (pv 5) (pa_cons (pv 6) pa_nil)))) (pg_tup (by rfl) (pgs_cons (pg_name (i := 7) sc_whole_tables.nd rfl (Or.inl rfl)) (pgs_cons (pg_name (i := 8) sc_whole_tables.nd rfl (Or.inl rfl)) (pgs_cons (pg_name (i := 9) sc_whole_tables.nd rfl (Or.inl rfl)) (pgs_cons (pg_name (i := 10) sc_whole_tables.nd rfl (Or.inl rfl)) pgs_nil))))))
      (pss_cons (ps_asg (pe_tup (pa_cons (pv 7) (pa_cons (pv 8) pa_nil))) (pg_sub (pv 3) (pe_tup (pa_cons (pv 5) (pa_cons (pv 6) pa_nil))) (set_dict (NF.u1 hr.units))))
      (pss_one (ps_for PassesOwn.never rfl (pi_range1 (by rfl) T.b_range (pa_cons (pv 0) pa_nil)) (pg_name (i := 11) sc_whole_tables.nd rfl (Or.inl rfl))
      (pss_cons (ps_set (i := 12) sc_whole_tables.nd rfl (Or.inl rfl) (pe_dget2 (NF.u1 hr.units) (pv 2) (pe_tup (pa_cons (pv 5) (pa_cons (pv 6) (pa_cons (pv 11) pa_nil)))) (pe_tup (pa_cons (pv 9) (pa_cons (pv 10) pa_nil))) ⟨rfl, rfl, rfl, rfl⟩))
      (pss_one (ps_asg (pv 12) (pg_sub (pv 4) (pe_tup (pa_cons (pv 5) (pa_cons (pv 6) (pa_cons (pv 11) pa_nil)))) (set_dict (NF.u1 hr.units)))))))))))))
      (pss_one (ps_ret (pe_tup (pa_cons (pv 3) (pa_cons (pv 4) pa_nil)))))))), ?_⟩
  try dsimp only [cxOf, Cx.nox, Cx.wish]
  obtain ⟨hl, F, ⟨a_modes, a_rules, a_exceptions⟩, K0, hF, ⟨_, v_rules, v_exceptions, rfl, rfl, h_rules, h_exceptions⟩, k, q⟩ := h
  have O := NF.Fz.start hF
  have lF := NF.Ex.rfl (B := H) (F := F)
  refine (NF.x_seq (NF.x_asg (NF.x_dnewT O (fun p1 H O => (have O : NF.Fz _ F H ([(p1, HO.dT [])] ++ ([]) : List (Addr × HO)) := O; (have h2 : NF.RD kIC.key ((eP2 eStr eInt).rep F) [] [] := .nil; (NF.x_name ?_)))))))
  refine (NF.x_seq (NF.x_asg (NF.x_dnewT O (fun p3 H O => (have O : NF.Fz _ F H ([(p3, HO.dT [])] ++ ([(p1, HO.dT [])] ++ ([])) : List (Addr × HO)) := O; (have h4 : NF.RD kICI.key ((eP2 eStr eInt).rep F) [] [] := .nil; (NF.x_name ?_)))))))
  refine (NF.x_seq (NF.x_for (NF.x_jR1 (NF.x_cons (NF.x_var rfl (NF.x_nil (have c5 := k.1; have k := k.2; (NF.y_jR1 (F := F) c5 (fun J T => (NF.y_for (σt := (List ((Int × Nat) × (Str × Int))) × (List ((Int × Nat × Int) × (Str × Int)))) (fun (s : (List ((Int × Nat) × (Str × Int))) × (List ((Int × Nat × Int) × (Str × Int)))) (σ : L2.St) (F : Hp) (R : List (Addr × HO)) => (fun (z_opening_rules : List ((Int × Nat) × (Str × Int))) (z_closing_rules : List ((Int × Nat × Int) × (Str × Int))) => ∃ vs_opening_rules : List (List Key × V), ∃ vs_closing_rules : List (List Key × V), ∃ u5 : Option V, ∃ u6 : Option V, ∃ u7 : Option V, ∃ u8 : Option V, ∃ u9 : Option V, ∃ u10 : Option V, ∃ u11 : Option V, ∃ u12 : Option V, σ = [some (.int a_modes), some v_rules, some v_exceptions, some (.ref p1), some (.ref p3), u5, u6, u7, u8, u9, u10, u11, u12] ∧ R = ([(p3, HO.dT vs_closing_rules)] ++ ([(p1, HO.dT vs_opening_rules)] ++ ([])) : List (Addr × HO)) ∧ RD kIC.key ((eP2 eStr eInt).rep F) vs_opening_rules z_opening_rules ∧ RD kICI.key ((eP2 eStr eInt).rep F) vs_closing_rules z_closing_rules) s.1 s.2) T (by rintro ⟨z_opening_rules, z_closing_rules⟩ _ _ _ ⟨vs_opening_rules, vs_closing_rules, u5, u6, u7, u8, u9, u10, u11, u12, rfl, rfl, r_opening_rules, r_closing_rules⟩; first | trivial | simp) O k ⟨_, _, _, _, _, _, _, _, _, _, rfl, rfl, h2, h4⟩ ?_ ?_))))))))))
  · rintro x7 r ⟨z_opening_rules, z_closing_rules⟩ _ F0 F _ H v8 lp6 ⟨vs_opening_rules, vs_closing_rules, u5, u6, u7, u8, u9, u10, u11, u12, rfl, rfl, r_opening_rules, r_closing_rules⟩ l1 O h9 k
    have lp6 := Ex.trans lp6 l1
    have h_rules := Enc.mono (eDT kIC (eP4 eStr eInt eStr eInt)) lp6.le h_rules
    have h_exceptions := Enc.mono (eDT kICI (eP2 eStr eInt)) lp6.le h_exceptions
    have r_opening_rules := r_opening_rules.mono fun _ _ => Enc.mono (eP2 eStr eInt) l1.le
    have r_closing_rules := r_closing_rules.mono fun _ _ => Enc.mono (eP2 eStr eInt) l1.le
    have lF := Ex.trans lF lp6
    cases h9
    refine NF.x_name ?_
    refine (NF.x_for (NF.x_jS (NF.x_c (NF.y_jC (F := F) (fun J T => (NF.y_for (σt := (List ((Int × Nat) × (Str × Int))) × (List ((Int × Nat × Int) × (Str × Int)))) (fun (s : (List ((Int × Nat) × (Str × Int))) × (List ((Int × Nat × Int) × (Str × Int)))) (σ : L2.St) (F : Hp) (R : List (Addr × HO)) => (fun (z_opening_rules : List ((Int × Nat) × (Str × Int))) (z_closing_rules : List ((Int × Nat × Int) × (Str × Int))) => ∃ vs_opening_rules : List (List Key × V), ∃ vs_closing_rules : List (List Key × V), ∃ u6 : Option V, ∃ u7 : Option V, ∃ u8 : Option V, ∃ u9 : Option V, ∃ u10 : Option V, ∃ u11 : Option V, ∃ u12 : Option V, σ = [some (.int a_modes), some v_rules, some v_exceptions, some (.ref p1), some (.ref p3), some (.int x7), u6, u7, u8, u9, u10, u11, u12] ∧ R = ([(p3, HO.dT vs_closing_rules)] ++ ([(p1, HO.dT vs_opening_rules)] ++ ([])) : List (Addr × HO)) ∧ RD kIC.key ((eP2 eStr eInt).rep F) vs_opening_rules z_opening_rules ∧ RD kICI.key ((eP2 eStr eInt).rep F) vs_closing_rules z_closing_rules) s.1 s.2) T (by rintro ⟨z_opening_rules, z_closing_rules⟩ _ _ _ ⟨vs_opening_rules, vs_closing_rules, u6, u7, u8, u9, u10, u11, u12, rfl, rfl, r_opening_rules, r_closing_rules⟩; first | trivial | simp) O k ⟨_, _, _, _, _, _, _, _, _, rfl, rfl, r_opening_rules, r_closing_rules⟩ ?_ ?_))))))
    · rintro x11 r ⟨z_opening_rules, z_closing_rules⟩ _ F0 F _ H v12 lp10 ⟨vs_opening_rules, vs_closing_rules, u6, u7, u8, u9, u10, u11, u12, rfl, rfl, r_opening_rules, r_closing_rules⟩ l1 O h13 k
      have lp10 := Ex.trans lp10 l1
      have h_rules := Enc.mono (eDT kIC (eP4 eStr eInt eStr eInt)) lp10.le h_rules
      have h_exceptions := Enc.mono (eDT kICI (eP2 eStr eInt)) lp10.le h_exceptions
      have r_opening_rules := r_opening_rules.mono fun _ _ => Enc.mono (eP2 eStr eInt) l1.le
      have r_closing_rules := r_closing_rules.mono fun _ _ => Enc.mono (eP2 eStr eInt) l1.le
      have lF := Ex.trans lF lp10
      have lp6 := Ex.trans lp6 lp10
      cases h13
      refine NF.x_name ?_
      refine (NF.x_seq (NF.x_asg (NF.x_call (NF.x_cons (NF.x_var rfl (NF.x_cons (NF.x_var rfl (NF.x_cons (NF.x_var rfl (NF.x_nil (NF.use_spW (i := (a_rules, x7, x11)) O rfl ⟨_, _, _, rfl, h_rules, rfl, rfl⟩ k (fun y14 v15 F H l0 O h16 k => (have h_rules := Enc.mono (eDT kIC (eP4 eStr eInt eStr eInt)) l0.le h_rules; (have h_exceptions := Enc.mono (eDT kICI (eP2 eStr eInt)) l0.le h_exceptions; (have r_opening_rules := r_opening_rules.mono fun _ _ => Enc.mono (eP2 eStr eInt) l0.le; (have r_closing_rules := r_closing_rules.mono fun _ _ => Enc.mono (eP2 eStr eInt) l0.le; (have lF := Ex.trans lF l0; (have lp6 := Ex.trans lp6 l0; (have lp10 := Ex.trans lp10 l0; (NF.y_un4 O.leF h16 (fun v17 v19 v21 v23 h18 h20 h22 h24 => (NF.byS v17 h18 (NF.byI v19 h20 (NF.byS v21 h22 (NF.byI v23 h24 (NF.g_cons (NF.x_name (NF.g_cons (NF.x_name (NF.g_cons (NF.x_name (NF.g_cons (NF.x_name (NF.g_nil ?_))))))))))))))))))))))))))))))))))
      refine (NF.x_seq (NF.x_asg (NF.x_tup (NF.x_cons (NF.x_var rfl (NF.x_cons (NF.x_var rfl (NF.x_nil (NF.y_tup O (show 2 ≤ sizeLine by decide) (fun p26 F H hp l0 O => (have h_rules := Enc.mono (eDT kIC (eP4 eStr eInt eStr eInt)) l0.le h_rules; (have h_exceptions := Enc.mono (eDT kICI (eP2 eStr eInt)) l0.le h_exceptions; (have r_opening_rules := r_opening_rules.mono fun _ _ => Enc.mono (eP2 eStr eInt) l0.le; (have r_closing_rules := r_closing_rules.mono fun _ _ => Enc.mono (eP2 eStr eInt) l0.le; (have lF := Ex.trans lF l0; (have lp6 := Ex.trans lp6 l0; (have lp10 := Ex.trans lp10 l0; (have h25 : (eP2 eStr eInt).rep F (.ref p26) (y14.1, y14.2.1) := ⟨_, _, _, rfl, hp, rfl, rfl⟩; (NF.x_sub (NF.x_var rfl (NF.x_tup (NF.x_cons (NF.x_var rfl (NF.x_cons (NF.x_var rfl (NF.x_nil (NF.y_tup O (show 2 ≤ sizeLine by decide) (fun p28 F H hp l0 O => (have h_rules := Enc.mono (eDT kIC (eP4 eStr eInt eStr eInt)) l0.le h_rules; (have h_exceptions := Enc.mono (eDT kICI (eP2 eStr eInt)) l0.le h_exceptions; (have r_opening_rules := r_opening_rules.mono fun _ _ => Enc.mono (eP2 eStr eInt) l0.le; (have r_closing_rules := r_closing_rules.mono fun _ _ => Enc.mono (eP2 eStr eInt) l0.le; (have h25 := Enc.mono (eP2 eStr eInt) l0.le h25; (have lF := Ex.trans lF l0; (have lp6 := Ex.trans lp6 l0; (have lp10 := Ex.trans lp10 l0; (have h27 : (eP2 eInt eChr).rep F (.ref p28) (x7, x11) := ⟨_, _, _, rfl, hp, rfl, rfl⟩; (have c29 := k.1; have k := k.2; (NF.y_dput O 1 rfl r_opening_rules h27 h25 c29 (fun vs30 H r_opening_rules O => (have O : NF.Fz _ F H ([(p3, HO.dT vs_closing_rules)] ++ ([(p1, HO.dT vs30)] ++ ([])) : List (Addr × HO)) := O; ?_)))))))))))))))))))))))))))))))))))))))))
      refine (NF.x_for (NF.x_jR1 (NF.x_cons (NF.x_var rfl (NF.x_nil (have c31 := k.1; have k := k.2; (NF.y_jR1 (F := F) c31 (fun J T => (NF.y_for (σt := (List ((Int × Nat × Int) × (Str × Int)))) (fun (z_closing_rules : (List ((Int × Nat × Int) × (Str × Int)))) (σ : L2.St) (F : Hp) (R : List (Addr × HO)) => ∃ vs_closing_rules : List (List Key × V), ∃ u11 : Option V, ∃ u12 : Option V, σ = [some (.int a_modes), some v_rules, some v_exceptions, some (.ref p1), some (.ref p3), some (.int x7), some (.str (sg x11)), some (.str y14.1), some (.int y14.2.1), some (.str y14.2.2.1), some (.int y14.2.2.2), u11, u12] ∧ R = ([(p3, HO.dT vs_closing_rules)] ++ ([(p1, HO.dT vs30)] ++ ([])) : List (Addr × HO)) ∧ RD kICI.key ((eP2 eStr eInt).rep F) vs_closing_rules z_closing_rules) T (by rintro z_closing_rules _ _ _ ⟨vs_closing_rules, u11, u12, rfl, rfl, r_closing_rules⟩; first | trivial | simp) O k ⟨_, _, _, rfl, rfl, r_closing_rules⟩ ?_ ?_)))))))))
      · rintro x33 r z_closing_rules _ F0 F _ H v34 lp32 ⟨vs_closing_rules, u11, u12, rfl, rfl, r_closing_rules⟩ l1 O h35 k
        have lp32 := Ex.trans lp32 l1
        have h_rules := Enc.mono (eDT kIC (eP4 eStr eInt eStr eInt)) lp32.le h_rules
        have h_exceptions := Enc.mono (eDT kICI (eP2 eStr eInt)) lp32.le h_exceptions
        have r_opening_rules := r_opening_rules.mono fun _ _ => Enc.mono (eP2 eStr eInt) lp32.le
        have r_closing_rules := r_closing_rules.mono fun _ _ => Enc.mono (eP2 eStr eInt) l1.le
        have lF := Ex.trans lF lp32
        have lp6 := Ex.trans lp6 lp32
        have lp10 := Ex.trans lp10 lp32
        cases h35
        refine NF.x_name ?_
        refine (NF.x_seq (NF.x_asg (NF.x_dget2 (NF.x_var rfl (NF.y_isD O.leF h_exceptions (fun a36 hd37 hD => ⟨a36, hd37, hD, (NF.x_tup (NF.x_cons (NF.x_var rfl (NF.x_cons (NF.x_var rfl (NF.x_cons (NF.x_var rfl (NF.x_nil (NF.y_tup O (show 3 ≤ sizeLine by decide) (fun p39 F H hp l0 O => (have h_rules := Enc.mono (eDT kIC (eP4 eStr eInt eStr eInt)) l0.le h_rules; (have h_exceptions := Enc.mono (eDT kICI (eP2 eStr eInt)) l0.le h_exceptions; (have r_opening_rules := r_opening_rules.mono fun _ _ => Enc.mono (eP2 eStr eInt) l0.le; (have r_closing_rules := r_closing_rules.mono fun _ _ => Enc.mono (eP2 eStr eInt) l0.le; (have lF := Ex.trans lF l0; (have lp6 := Ex.trans lp6 l0; (have lp10 := Ex.trans lp10 l0; (have lp32 := Ex.trans lp32 l0; (have h38 : (eP3 eInt eChr eInt).rep F (.ref p39) (x7, x11, x33) := ⟨_, _, _, _, rfl, hp, rfl, rfl, rfl⟩; (NF.x_tup (NF.x_cons (NF.x_var rfl (NF.x_cons (NF.x_var rfl (NF.x_nil (NF.y_tup O (show 2 ≤ sizeLine by decide) (fun p41 F H hp l0 O => (have h_rules := Enc.mono (eDT kIC (eP4 eStr eInt eStr eInt)) l0.le h_rules; (have h_exceptions := Enc.mono (eDT kICI (eP2 eStr eInt)) l0.le h_exceptions; (have r_opening_rules := r_opening_rules.mono fun _ _ => Enc.mono (eP2 eStr eInt) l0.le; (have r_closing_rules := r_closing_rules.mono fun _ _ => Enc.mono (eP2 eStr eInt) l0.le; (have h38 := Enc.mono (eP3 eInt eChr eInt) l0.le h38; (have lF := Ex.trans lF l0; (have lp6 := Ex.trans lp6 l0; (have lp10 := Ex.trans lp10 l0; (have lp32 := Ex.trans lp32 l0; (have h40 : (eP2 eStr eInt).rep F (.ref p41) (y14.2.2.1, y14.2.2.2) := ⟨_, _, _, rfl, hp, rfl, rfl⟩; (NF.y_dget2v hd37 O.leF O.leF h_exceptions h38 h40 (fun v42 h43 => (NF.x_name ?_))))))))))))))))))))))))))))))))))))))))⟩))))))
        refine (NF.x_asg (NF.x_var rfl (NF.x_sub (NF.x_var rfl (NF.x_tup (NF.x_cons (NF.x_var rfl (NF.x_cons (NF.x_var rfl (NF.x_cons (NF.x_var rfl (NF.x_nil (NF.y_tup O (show 3 ≤ sizeLine by decide) (fun p45 F H hp l0 O => (have h_rules := Enc.mono (eDT kIC (eP4 eStr eInt eStr eInt)) l0.le h_rules; (have h_exceptions := Enc.mono (eDT kICI (eP2 eStr eInt)) l0.le h_exceptions; (have r_opening_rules := r_opening_rules.mono fun _ _ => Enc.mono (eP2 eStr eInt) l0.le; (have r_closing_rules := r_closing_rules.mono fun _ _ => Enc.mono (eP2 eStr eInt) l0.le; (have h43 := Enc.mono (eP2 eStr eInt) l0.le h43; (have lF := Ex.trans lF l0; (have lp6 := Ex.trans lp6 l0; (have lp10 := Ex.trans lp10 l0; (have lp32 := Ex.trans lp32 l0; (have h44 : (eP3 eInt eChr eInt).rep F (.ref p45) (x7, x11, x33) := ⟨_, _, _, _, rfl, hp, rfl, rfl, rfl⟩; (have c46 := k.1; have k := k.2; (NF.y_dput O 0 rfl r_closing_rules h44 h43 c46 (fun vs47 H r_closing_rules O => (have O : NF.Fz _ F H ([(p3, HO.dT vs47)] ++ ([(p1, HO.dT vs30)] ++ ([])) : List (Addr × HO)) := O; ?_))))))))))))))))))))))))))))
        exact ⟨(dPut z_closing_rules (x7, x11, x33) ((dGet a_exceptions (x7, x11, x33)).getD (y14.2.2.1, y14.2.2.2))), _, _, lp32, O, ⟨_, _, _, rfl, rfl, r_closing_rules⟩, k⟩
      · rintro z_closing_rules _ F _ H l0 O ⟨vs_closing_rules, u11, u12, rfl, rfl, r_closing_rules⟩ k
        have h_rules := Enc.mono (eDT kIC (eP4 eStr eInt eStr eInt)) l0.le h_rules
        have h_exceptions := Enc.mono (eDT kICI (eP2 eStr eInt)) l0.le h_exceptions
        have r_opening_rules := r_opening_rules.mono fun _ _ => Enc.mono (eP2 eStr eInt) l0.le
        have lF := Ex.trans lF l0
        have lp6 := Ex.trans lp6 l0
        have lp10 := Ex.trans lp10 l0
        exact ⟨((dPut z_opening_rules (x7, x11) (y14.1, y14.2.1)), z_closing_rules), _, _, lp10, O, ⟨_, _, _, _, _, _, _, _, _, rfl, rfl, r_opening_rules, r_closing_rules⟩, k⟩
    · rintro ⟨z_opening_rules, z_closing_rules⟩ _ F _ H l0 O ⟨vs_opening_rules, vs_closing_rules, u6, u7, u8, u9, u10, u11, u12, rfl, rfl, r_opening_rules, r_closing_rules⟩ k
      have h_rules := Enc.mono (eDT kIC (eP4 eStr eInt eStr eInt)) l0.le h_rules
      have h_exceptions := Enc.mono (eDT kICI (eP2 eStr eInt)) l0.le h_exceptions
      have lF := Ex.trans lF l0
      have lp6 := Ex.trans lp6 l0
      exact ⟨(z_opening_rules, z_closing_rules), _, _, lp6, O, ⟨_, _, _, _, _, _, _, _, _, _, rfl, rfl, r_opening_rules, r_closing_rules⟩, k⟩
  · rintro ⟨z_opening_rules, z_closing_rules⟩ _ F _ H l0 O ⟨vs_opening_rules, vs_closing_rules, u5, u6, u7, u8, u9, u10, u11, u12, rfl, rfl, r_opening_rules, r_closing_rules⟩ k
    have h_rules := Enc.mono (eDT kIC (eP4 eStr eInt eStr eInt)) l0.le h_rules
    have h_exceptions := Enc.mono (eDT kICI (eP2 eStr eInt)) l0.le h_exceptions
    have lF := Ex.trans lF l0
    exact (NF.x_ret (NF.x_tup (NF.x_cons (NF.x_var rfl (NF.x_cons (NF.x_var rfl (NF.x_nil (NF.y_frz O 1 rfl (fun F l0 hp O => (have O : NF.Fz _ F H ([(p3, HO.dT vs_closing_rules)] ++ ([]) : List (Addr × HO)) := O; (have h_rules := Enc.mono (eDT kIC (eP4 eStr eInt eStr eInt)) l0.le h_rules; (have h_exceptions := Enc.mono (eDT kICI (eP2 eStr eInt)) l0.le h_exceptions; (have r_opening_rules := r_opening_rules.mono fun _ _ => Enc.mono (eP2 eStr eInt) l0.le; (have r_closing_rules := r_closing_rules.mono fun _ _ => Enc.mono (eP2 eStr eInt) l0.le; (have lF := Ex.trans lF l0; (have h48 : (eDT kIC (eP2 eStr eInt)).rep F (.ref p1) z_opening_rules := ⟨_, _, rfl, hp, r_opening_rules⟩; (NF.y_frz O 0 rfl (fun F l0 hp O => (have O : NF.Fz _ F H ([] : List (Addr × HO)) := O; (have h_rules := Enc.mono (eDT kIC (eP4 eStr eInt eStr eInt)) l0.le h_rules; (have h_exceptions := Enc.mono (eDT kICI (eP2 eStr eInt)) l0.le h_exceptions; (have r_closing_rules := r_closing_rules.mono fun _ _ => Enc.mono (eP2 eStr eInt) l0.le; (have h48 := Enc.mono (eDT kIC (eP2 eStr eInt)) l0.le h48; (have lF := Ex.trans lF l0; (have h49 : (eDT kICI (eP2 eStr eInt)).rep F (.ref p3) z_closing_rules := ⟨_, _, rfl, hp, r_closing_rules⟩; (NF.y_tup O (show 2 ≤ sizeLine by decide) (fun p51 F H hp l0 O => (have h_rules := Enc.mono (eDT kIC (eP4 eStr eInt eStr eInt)) l0.le h_rules; (have h_exceptions := Enc.mono (eDT kICI (eP2 eStr eInt)) l0.le h_exceptions; (have h48 := Enc.mono (eDT kIC (eP2 eStr eInt)) l0.le h48; (have h49 := Enc.mono (eDT kICI (eP2 eStr eInt)) l0.le h49; (have lF := Ex.trans lF l0; (have h50 : (eP2 (eDT kIC (eP2 eStr eInt)) (eDT kICI (eP2 eStr eInt))).rep F (.ref p51) (z_opening_rules, z_closing_rules) := ⟨_, _, _, rfl, hp, h48, h49⟩; (q (z_opening_rules, z_closing_rules) k _ _ _ O.leB O.leF lF h50))))))))))))))))))))))))))))))))))



def m_law_close (a_opened : List Str) : W (Str) :=
  W.bind (W.comp a_opened.reverse fun x3 =>
  W.chk (x3.length ≤ 5592405) <|
  W.ok (some (Txt.upper x3))) fun y12 =>
  W.chk ((y12.map (·.length)).sum + y12.length * (Str.ofString "").length ≤ 16777216) <|
  W.ok (Txt.join (Str.ofString "") y12)
abbrev NM_law_close : List Str := ["opened", "name"]
theorem sc_law_close : FnScope NM_law_close ["opened"] (defScope s_law_close) := ⟨rfl, rfl, rfl, by decide +kernel, rfl, by decide +kernel, by decide +kernel⟩
theorem d_law_close (F : Fn0 K mg "_law_close" s_law_close) (T : Txt P K mg)  :
    Def P w K mg base 1 "_law_close" ["opened"] (spW 1 (fun F vs (i : (List Str)) => ∃ v0, vs = [v0] ∧ (eLst eStr).rep F v0 i) eStr (fun (i : (List Str)) => m_law_close i)) := by
  refine Def.mk0 F sc_law_close (by first | exact NF.hl_spW | exact NF.hl_spWb | exact NF.hl_spWX | exact NF.hl_spWm | exact NF.hl_spWo) (fun _ _ _ _ _ _ us hl => match us, hl with | [_], _ => rfl) (fun cdv A outer s H vs Q E hr h => ?_)
  refine ⟨_, (pss_one (ps_ret (pe_bm PySem.F.plainAttrs_str PySem.F.slot_str_join PySem.F.type_str_join mtJoin pe_str (pa_cons (pe_lc (own := [("name", 1)]) (g := gName 1) rfl sc_law_close.nd (pi_list (pe_revL (pv 0))) (blkOk_by (own := [("name", 1)]) (N := NM_law_close) (sc := defScope s_law_close) (by decide +kernel)) (fun _ _ _ _ _ => (pg_name (i := 1) sc_law_close.nd rfl (Or.inl rfl))) (fun _ _ _ _ _ => pts_nil) (fun _ _ _ _ _ => (show PE _ _ (tBM0 K "str" rUpper _) from pe_bm0 PySem.F.plainAttrs_str PySem.F.slot_str_upper PySem.F.type_str_upper mtUpper (pv 1)))) pa_nil)))), ?_⟩
  try dsimp only [cxOf, Cx.nox, Cx.wish]
  obtain ⟨hl, F, a_opened, K0, hF, ⟨v_opened, rfl, h_opened⟩, k, q⟩ := h
  have O := NF.Fz.start hF
  have lF := NF.Ex.rfl (B := H) (F := F)
  exact (NF.x_ret (NF.x_bm (NF.x_c (NF.x_tyS (NF.x_cons (NF.x_lc (NF.x_jL (NF.x_rev (NF.x_var rfl (NF.y_revL O h_opened (fun p2 F H h1 l0 O => (have h_opened := Enc.mono (eLst eStr) l0.le h_opened; (have lF := Ex.trans lF l0; (NF.y_jL O.leF h1 (fun J T => (NF.y_comp (er := eStr) (fun F R => R = ([] : List (Addr × HO))) T (by rintro _ _ rfl; first | trivial | simp) O k.2 k.1 rfl (fun i x3 r pc9 acc7 at8 F0 F R H v hi lc6 hI ra10 hl l1 O hv k => match R, hI, O with | _, rfl, O => (have O : NF.Fz _ F H ([(pc9, HO.lst acc7)] ++ []) := O; (have lc6 := Ex.trans lc6 l1; (have ra10 := ra10.mono fun _ _ => Enc.mono eStr l1.le; (have h_opened := Enc.mono (eLst eStr) lc6.le h_opened; (have h1 := Enc.mono (eLst eStr) lc6.le h1; (have lF := Ex.trans lF lc6; (NF.byS v hv (NF.x_name ⟨NF.set_wipe _ _ _, (NF.x_yes (NF.x_tt (NF.x_bm0 (NF.x_var rfl (NF.x_tyS (have c11 := k.1; have k := k.2; (NF.x_upper c11 (NF.cE_mk (R' := []) hi lc6 rfl O ra10 hl rfl k))))))))⟩))))))))) (fun p14 F R vs13 y12 H l0 hI O ra15 k => match R, hI, O with | _, rfl, O => (have h_opened := Enc.mono (eLst eStr) l0.le h_opened; (have h1 := Enc.mono (eLst eStr) l0.le h1; (have lF := Ex.trans lF l0; (NF.y_frz O 0 rfl (fun F l0 hp O => (have O : NF.Fz _ F H ([] : List (Addr × HO)) := O; (have h_opened := Enc.mono (eLst eStr) l0.le h_opened; (have h1 := Enc.mono (eLst eStr) l0.le h1; (have lF := Ex.trans lF l0; (have h16 : (eLst eStr).rep F (.ref p14) y12 := ⟨_, _, rfl, hp, ra15.mono fun _ _ => Enc.mono eStr l0.le⟩; (NF.x_nil (have c17 := k.1; have k := k.2; (NF.y_joinL O.leF h16 c17 (q (Txt.join (Str.ofString "") y12) k _ _ _ O.leB O.leF lF rfl)))))))))))))))))))))))))))))))

def m_law_opened (a_before : Str) : W (List Str) :=
  W.for_ (tl a_before) ([] : List Str) (fun (x4 : Nat) (z_opened : (List Str)) =>
  W.ite (Txt.islower (sg x4)) (W.chk (z_opened.length < sizeLine) <|
  W.ok (.nx (z_opened ++ [(sg x4)])))
  (W.pop z_opened fun x8 r9 =>
  W.ok (.nx r9))) (fun (z_opened : (List Str)) =>
  W.ok z_opened)
abbrev NM_law_opened : List Str := ["before", "opened", "letter"]
theorem sc_law_opened : FnScope NM_law_opened ["before"] (defScope s_law_opened) := ⟨rfl, rfl, rfl, by decide +kernel, rfl, by decide +kernel, by decide +kernel⟩
theorem d_law_opened (F : Fn0 K mg "_law_opened" s_law_opened) (T : Txt P K mg)  :
    Def P w K mg base 1 "_law_opened" ["before"] (spWo 1 (fun F vs (i : Str) => ∃ v0, vs = [v0] ∧ eStr.rep F v0 i) eStr (fun (i : Str) => m_law_opened i)) := by
  refine Def.mk0 F sc_law_opened (by first | exact NF.hl_spW | exact NF.hl_spWb | exact NF.hl_spWX | exact NF.hl_spWm | exact NF.hl_spWo) (fun _ _ _ _ _ _ us hl => match us, hl with | [_], _ => rfl) (fun cdv A outer s H vs Q E hr h => ?_)
  refine ⟨_, (pss_cons (ps_set (i := 1) sc_law_opened.nd rfl (Or.inl rfl) (pe_lst pa_nil))
      (pss_cons (ps_for PassesOwn.never rfl (pi_str (pv 0)) (pg_name (i := 2) sc_law_opened.nd rfl (Or.inl rfl))
      (pss_one (ps_if (pt_val (pe_bm0 PySem.F.plainAttrs_str PySem.F.slot_str_islower PySem.F.type_str_islower mtIslower (pv 2)))
      (pss_one (ps_expr (pe_bm PySem.F.plainAttrs_list PySem.F.slot_list_append PySem.F.type_list_append mt_append (pv 1) (pa_cons (pv 2) pa_nil))))
      (pss_one (ps_expr (pe_bm0 PySem.F.plainAttrs_list PySem.F.slot_list_pop PySem.F.type_list_pop mt_pop (pv 1)))))))
      (pss_one (ps_ret (pv 1))))), ?_⟩
  try dsimp only [cxOf, Cx.nox, Cx.wish]
  obtain ⟨hl, F, a_before, K0, hF, ⟨_, rfl, rfl⟩, k, q⟩ := h
  have O := NF.Fz.start hF
  have lF := NF.Ex.rfl (B := H) (F := F)
  refine (NF.x_seq (NF.x_asg (NF.x_lst (NF.x_nil (NF.y_lstM O (show 0 ≤ sizeLine by decide) (fun p2 H O => (have O : NF.Fz _ F H ([(p2, HO.lst [])] ++ ([]) : List (Addr × HO)) := O; (have h1 : NF.RL (eStr.rep F) _ [] := .nil; (NF.x_name ?_)))))))))
  refine (NF.x_seq (NF.x_for (NF.x_jS (NF.x_var rfl (NF.y_jC (F := F) (fun J T => (NF.y_for (σt := (List Str)) (fun (z_opened : (List Str)) (σ : L2.St) (F : Hp) (R : List (Addr × HO)) => ∃ vs_opened : List V, ∃ u2 : Option V, σ = [some (.str a_before), some (.ref p2), u2] ∧ R = ([(p2, HO.lst vs_opened)] ++ ([]) : List (Addr × HO)) ∧ RL (eStr.rep F) vs_opened z_opened) T (by rintro z_opened _ _ _ ⟨vs_opened, u2, rfl, rfl, r_opened⟩; first | trivial | simp) O k ⟨_, _, rfl, rfl, h1⟩ ?_ ?_)))))))
  · rintro x4 r z_opened _ F0 F _ H v5 lp3 ⟨vs_opened, u2, rfl, rfl, r_opened⟩ l1 O h6 k
    have lp3 := Ex.trans lp3 l1
    have r_opened := r_opened.mono fun _ _ => Enc.mono eStr l1.le
    have lF := Ex.trans lF lp3
    cases h6
    refine NF.x_name ?_
    refine (NF.x_ifs (NF.x_B (NF.x_bm0 (NF.x_var rfl (NF.x_tyS (NF.x_islower (NF.x_bl (NF.x_itb (fun g13 => (have k := k.1 g13; ?n14)) (fun g13 => (have k := k.2 g13; ?n15))))))))))
    case n14 =>
      refine (NF.x_drop (NF.x_bm (NF.x_var rfl (NF.x_tyL (O.get 0 rfl) (NF.x_cons (NF.x_var rfl (NF.x_nil (have c7 := k.1; have k := k.2; (NF.y_app2 O 0 rfl r_opened c7 (fun H O => (have O : NF.Fz _ F H ([(p2, HO.lst (vs_opened ++ [(.str (sg x4))]))] ++ ([]) : List (Addr × HO)) := O; (have r_opened := NF.RL.snoc (x := (sg x4)) r_opened rfl; ?_))))))))))))
      exact ⟨(z_opened ++ [(sg x4)]), _, _, lp3, O, ⟨_, _, rfl, rfl, r_opened⟩, k⟩
    case n15 =>
      refine (NF.x_drop (NF.x_bm0 (NF.x_var rfl (NF.x_tyL (O.get 0 rfl) (Exists.elim k fun r9 hk => Exists.elim hk fun x8 hk => (have k := hk.2; (NF.y_pop O 0 rfl r_opened hk.1 (fun v11 vs10 H h12 r_opened O => (have O : NF.Fz _ F H ([(p2, HO.lst vs10)] ++ ([]) : List (Addr × HO)) := O; (NF.byS v11 h12 ?_))))))))))
      exact ⟨r9, _, _, lp3, O, ⟨_, _, rfl, rfl, r_opened⟩, k⟩
  · rintro z_opened _ F _ H l0 O ⟨vs_opened, u2, rfl, rfl, r_opened⟩ k
    have lF := Ex.trans lF l0
    exact (NF.x_ret (NF.x_var rfl (q z_opened k _ _ _ _ O.leB O.leF lF (O.nB _ (List.mem_of_getElem? (i := 0) rfl)) (O.get 0 rfl) (O.nF _ (List.mem_of_getElem? (i := 0) rfl)) r_opened)))

def m_law_before (a_rows : List (Int × Nat × Str × Int × Str × Int)) (a_mode : Int) (a_name : Nat) : W (Str) :=
  W.bind (W.comp a_rows fun x1 =>
  W.ite ((decide (x1.1 = a_mode)) && (decide ((sg x1.2.1) = (sg a_name)))) (W.ok (some x1.2.2.1))
  (W.ok none)) fun y11 =>
  W.chk (y11.length + [(sg a_name)].length ≤ sizeLine) <|
  W.at_ (y11 ++ [(sg a_name)]) (0 : Int) fun x21 =>
  W.ok x21
abbrev NM_law_before : List Str := ["rows", "mode", "name", "found", "row"]
theorem sc_law_before : FnScope NM_law_before ["rows", "mode", "name"] (defScope s_law_before) := ⟨rfl, rfl, rfl, by decide +kernel, rfl, by decide +kernel, by decide +kernel⟩
theorem d_law_before (F : Fn0 K mg "_law_before" s_law_before) (T : Txt P K mg)  :
    Def P w K mg base 1 "_law_before" ["rows", "mode", "name"] (spW 3 (fun F vs (i : (List (Int × Nat × Str × Int × Str × Int)) × Int × Nat) => ∃ v0 v1 v2, vs = [v0, v1, v2] ∧ (eLst (eP6 eInt eChr eStr eInt eStr eInt)).rep F v0 i.1 ∧ eInt.rep F v1 i.2.1 ∧ eChr.rep F v2 i.2.2) eStr (fun (i : (List (Int × Nat × Str × Int × Str × Int)) × Int × Nat) => m_law_before i.1 i.2.1 i.2.2)) := by
  refine Def.mk0 F sc_law_before (by first | exact NF.hl_spW | exact NF.hl_spWb | exact NF.hl_spWX | exact NF.hl_spWm | exact NF.hl_spWo) (fun _ _ _ _ _ _ us hl => match us, hl with | [_, _, _], _ => rfl) (fun cdv A outer s H vs Q E hr h => ?_)
  refine ⟨_, (pss_cons (ps_setLc (i := 3) (own := [("row", 4)]) (g := gName 4) (by rfl) sc_law_before.nd rfl rfl (sw_true rfl rfl rfl (by decide +kernel)) (pi_list (pv 0)) (blkOk_by (own := [("row", 4)]) (N := NM_law_before) (sc := defScope s_law_before) (by decide +kernel)) (fun _ _ _ _ _ => (pg_name (i := 4) sc_law_before.nd rfl (Or.inl rfl))) (fun _ _ _ _ _ => pts_one (PW.pt (pw_and (pt_cmpR op_eq (pe_ix (show IxR _ (rIxT K) from ix_tup) (pv 4) pe_int (fun _ _ => rfl)) (pv 1) (nomark _)) (pw_and1 (pt_cmpR op_eq (pe_ix (show IxR _ (rIxT K) from ix_tup) (pv 4) pe_int (fun _ _ => rfl)) (pv 2) (nomark _)))))) (fun _ _ _ _ _ => (pe_ix (show IxR _ (rIxT K) from ix_tup) (pv 4) pe_int (fun _ _ => rfl))))
      (pss_one (ps_ret (pe_ix ix_list (pe_op op_cat (pv 3) (pe_lst (pa_cons (pv 2) pa_nil))) pe_int (fun _ _ => rfl))))), ?_⟩
  try dsimp only [cxOf, Cx.nox, Cx.wish]
  obtain ⟨hl, F, ⟨a_rows, a_mode, a_name⟩, K0, hF, ⟨v_rows, _, _, rfl, h_rows, rfl, rfl⟩, k, q⟩ := h
  have O := NF.Fz.start hF
  have lF := NF.Ex.rfl (B := H) (F := F)
  refine (NF.x_seq (NF.x_asg (NF.x_lc (NF.x_jL (NF.x_var rfl (NF.y_jL O.leF h_rows (fun J T => (NF.y_comp (er := eStr) (fun F R => R = ([] : List (Addr × HO))) T (by rintro _ _ rfl; first | trivial | simp) O k.2 k.1 rfl (fun i x1 r pc7 acc5 at6 F0 F R H v2 hi lc4 hI ra8 hl l1 O h3 k => match R, hI, O with | _, rfl, O => (have O : NF.Fz _ F H ([(pc7, HO.lst acc5)] ++ []) := O; (have lc4 := Ex.trans lc4 l1; (have ra8 := ra8.mono fun _ _ => Enc.mono eStr l1.le; (have h_rows := Enc.mono (eLst (eP6 eInt eChr eStr eInt eStr eInt)) lc4.le h_rows; (have lF := Ex.trans lF lc4; (NF.x_name ⟨NF.set_wipe _ _ _, (NF.y_andT (fun Q q => (NF.x_test (NF.x_op (NF.x_op (NF.x_var rfl (NF.x_c (NF.y_ix60 O.leF h3 (fun u hu => NF.byI u hu (NF.x_var rfl (NF.y_eqI (NF.x_bl q))))))))))) (fun g9 Q q => (NF.x_test (NF.x_op (NF.x_op (NF.x_var rfl (NF.x_c (NF.y_ix61 O.leF h3 (fun u hu => NF.byC u hu (NF.x_var rfl (NF.y_eqS (NF.x_bl q))))))))))) (NF.x_itb (fun g10 => (have k := k.1 g10; (NF.x_op (NF.x_var rfl (NF.x_c (NF.y_ix62 O.leF h3 (fun u hu => NF.byS u hu (NF.cE_mk (R' := []) hi lc4 rfl O ra8 hl rfl k)))))))) (fun g10 => (have k := k.2 g10; (NF.cN_mk (R' := []) lc4 rfl O ra8 hl k)))))⟩))))))) (fun p13 F R vs12 y11 H l0 hI O ra14 k => match R, hI, O with | _, rfl, O => (have h_rows := Enc.mono (eLst (eP6 eInt eChr eStr eInt eStr eInt)) l0.le h_rows; (have lF := Ex.trans lF l0; (NF.y_frz O 0 rfl (fun F l0 hp O => (have O : NF.Fz _ F H ([] : List (Addr × HO)) := O; (have h_rows := Enc.mono (eLst (eP6 eInt eChr eStr eInt eStr eInt)) l0.le h_rows; (have lF := Ex.trans lF l0; (have h15 : (eLst eStr).rep F (.ref p13) y11 := ⟨_, _, rfl, hp, ra14.mono fun _ _ => Enc.mono eStr l0.le⟩; (NF.x_name ?_))))))))))))))))))
  exact (NF.x_ret (NF.x_op (NF.x_op (NF.x_var rfl (NF.x_lst (NF.x_cons (NF.x_var rfl (NF.x_nil (NF.y_lstF O (show 1 ≤ sizeLine by decide) (fun p17 F H hp l0 O => (have h_rows := Enc.mono (eLst (eP6 eInt eChr eStr eInt eStr eInt)) l0.le h_rows; (have h15 := Enc.mono (eLst eStr) l0.le h15; (have lF := Ex.trans lF l0; (have h16 : (eLst eStr).rep F (.ref p17) [(sg a_name)] := ⟨_, _, rfl, hp, .cons rfl (.nil)⟩; (have c18 := k.1; have k := k.2; (NF.y_catF O h15 h16 c18 (fun p20 F H h19 l0 O => (have h_rows := Enc.mono (eLst (eP6 eInt eChr eStr eInt eStr eInt)) l0.le h_rows; (have h15 := Enc.mono (eLst eStr) l0.le h15; (have h16 := Enc.mono (eLst eStr) l0.le h16; (have lF := Ex.trans lF l0; (NF.x_c (Exists.elim k fun x21 hk => (have k := hk.2; (NF.y_ixL O.leF h19 hk.1 (fun u hu => NF.byS u hu (q x21 k _ _ _ O.leB O.leF lF rfl)))))))))))))))))))))))))))

def m_law_begin (a_model : Int × (List ((Int × Nat) × (Str × Int))) × (List ((Int × Nat) × (Str × Int))) × (List ((Int × Nat × Int) × (Str × Int)))) (a_mode : Int) (a_name : Nat) : W (Str × Int) :=
  W.ok ((dGet a_model.2.1 (a_mode, a_name)).getD ((sg a_name), a_mode))
abbrev NM_law_begin : List Str := ["model", "mode", "name"]
theorem sc_law_begin : FnScope NM_law_begin ["model", "mode", "name"] (defScope s_law_begin) := ⟨rfl, rfl, rfl, by decide +kernel, rfl, by decide +kernel, by decide +kernel⟩
theorem d_law_begin (F : Fn0 K mg "_law_begin" s_law_begin) (T : Txt P K mg)  :
    Def P w K mg base 1 "_law_begin" ["model", "mode", "name"] (spW 3 (fun F vs (i : (Int × (List ((Int × Nat) × (Str × Int))) × (List ((Int × Nat) × (Str × Int))) × (List ((Int × Nat × Int) × (Str × Int)))) × Int × Nat) => ∃ v0 v1 v2, vs = [v0, v1, v2] ∧ (eR4 "count" eInt "begin" (eDT kIC (eP2 eStr eInt)) "end" (eDT kIC (eP2 eStr eInt)) "special" (eDT kICI (eP2 eStr eInt))).rep F v0 i.1 ∧ eInt.rep F v1 i.2.1 ∧ eChr.rep F v2 i.2.2) (eP2 eStr eInt) (fun (i : (Int × (List ((Int × Nat) × (Str × Int))) × (List ((Int × Nat) × (Str × Int))) × (List ((Int × Nat × Int) × (Str × Int)))) × Int × Nat) => m_law_begin i.1 i.2.1 i.2.2)) := by
  refine Def.mk0 F sc_law_begin (by first | exact NF.hl_spW | exact NF.hl_spWb | exact NF.hl_spWX | exact NF.hl_spWm | exact NF.hl_spWo) (fun _ _ _ _ _ _ us hl => match us, hl with | [_, _, _], _ => rfl) (fun cdv A outer s H vs Q E hr h => ?_)
  refine ⟨_, (pss_one (ps_ret (pe_dget2 (NF.u1 hr.units) (pe_dget (NF.u1 hr.units) (pv 0) pe_str (fun _ _ => rfl)) (pe_tup (pa_cons (pv 1) (pa_cons (pv 2) pa_nil))) (pe_tup (pa_cons (pv 2) (pa_cons (pv 1) pa_nil))) ⟨rfl, rfl, rfl, rfl⟩))), ?_⟩
  try dsimp only [cxOf, Cx.nox, Cx.wish]
  obtain ⟨hl, F, ⟨a_model, a_mode, a_name⟩, K0, hF, ⟨v_model, _, _, rfl, h_model, rfl, rfl⟩, k, q⟩ := h
  have O := NF.Fz.start hF
  have lF := NF.Ex.rfl (B := H) (F := F)
  exact (NF.x_ret (NF.x_dget2 (NF.x_dget (NF.x_var rfl (NF.x_c (NF.y_rix41 O.leF h_model (fun _ _ _ _ => rfl) (fun v1 h2 => (NF.y_isD O.leF h2 (fun a3 hd4 hD => ⟨a3, hd4, hD, (NF.x_tup (NF.x_cons (NF.x_var rfl (NF.x_cons (NF.x_var rfl (NF.x_nil (NF.y_tup O (show 2 ≤ sizeLine by decide) (fun p6 F H hp l0 O => (have h_model := Enc.mono (eR4 "count" eInt "begin" (eDT kIC (eP2 eStr eInt)) "end" (eDT kIC (eP2 eStr eInt)) "special" (eDT kICI (eP2 eStr eInt))) l0.le h_model; (have h2 := Enc.mono (eDT kIC (eP2 eStr eInt)) l0.le h2; (have lF := Ex.trans lF l0; (have h5 : (eP2 eInt eChr).rep F (.ref p6) (a_mode, a_name) := ⟨_, _, _, rfl, hp, rfl, rfl⟩; (NF.x_tup (NF.x_cons (NF.x_var rfl (NF.x_cons (NF.x_var rfl (NF.x_nil (NF.y_tup O (show 2 ≤ sizeLine by decide) (fun p8 F H hp l0 O => (have h_model := Enc.mono (eR4 "count" eInt "begin" (eDT kIC (eP2 eStr eInt)) "end" (eDT kIC (eP2 eStr eInt)) "special" (eDT kICI (eP2 eStr eInt))) l0.le h_model; (have h2 := Enc.mono (eDT kIC (eP2 eStr eInt)) l0.le h2; (have h5 := Enc.mono (eP2 eInt eChr) l0.le h5; (have lF := Ex.trans lF l0; (have h7 : (eP2 eStr eInt).rep F (.ref p8) ((sg a_name), a_mode) := ⟨_, _, _, rfl, hp, rfl, rfl⟩; (NF.y_dget2v hd4 O.leF O.leF h2 h5 h7 (fun v9 h10 => (q ((dGet a_model.2.1 (a_mode, a_name)).getD ((sg a_name), a_mode)) k _ _ _ O.leB O.leF lF h10))))))))))))))))))))))))))))⟩)))))))))

def m_law_end (a_model : Int × (List ((Int × Nat) × (Str × Int))) × (List ((Int × Nat) × (Str × Int))) × (List ((Int × Nat × Int) × (Str × Int)))) (a_mode : Int) (a_name : Nat) (a_end : Int) : W (Str × Int) :=
  W.chk ((sg a_name).length ≤ 5592405) <|
  W.ok ((dGet a_model.2.2.2 (a_mode, a_name, a_end)).getD ((dGet a_model.2.2.1 (a_mode, a_name)).getD ((Txt.upper (sg a_name)), a_mode)))
abbrev NM_law_end : List Str := ["model", "mode", "name", "end", "usual"]
theorem sc_law_end : FnScope NM_law_end ["model", "mode", "name", "end"] (defScope s_law_end) := ⟨rfl, rfl, rfl, by decide +kernel, rfl, by decide +kernel, by decide +kernel⟩
theorem d_law_end (F : Fn0 K mg "_law_end" s_law_end) (T : Txt P K mg)  :
    Def P w K mg base 1 "_law_end" ["model", "mode", "name", "end"] (spW 4 (fun F vs (i : (Int × (List ((Int × Nat) × (Str × Int))) × (List ((Int × Nat) × (Str × Int))) × (List ((Int × Nat × Int) × (Str × Int)))) × Int × Nat × Int) => ∃ v0 v1 v2 v3, vs = [v0, v1, v2, v3] ∧ (eR4 "count" eInt "begin" (eDT kIC (eP2 eStr eInt)) "end" (eDT kIC (eP2 eStr eInt)) "special" (eDT kICI (eP2 eStr eInt))).rep F v0 i.1 ∧ eInt.rep F v1 i.2.1 ∧ eChr.rep F v2 i.2.2.1 ∧ eInt.rep F v3 i.2.2.2) (eP2 eStr eInt) (fun (i : (Int × (List ((Int × Nat) × (Str × Int))) × (List ((Int × Nat) × (Str × Int))) × (List ((Int × Nat × Int) × (Str × Int)))) × Int × Nat × Int) => m_law_end i.1 i.2.1 i.2.2.1 i.2.2.2)) := by
  refine Def.mk0 F sc_law_end (by first | exact NF.hl_spW | exact NF.hl_spWb | exact NF.hl_spWX | exact NF.hl_spWm | exact NF.hl_spWo) (fun _ _ _ _ _ _ us hl => match us, hl with | [_, _, _, _], _ => rfl) (fun cdv A outer s H vs Q E hr h => ?_)
  refine ⟨_, (pss_cons (ps_set (i := 4) sc_law_end.nd rfl (Or.inl rfl) (pe_dget2 (NF.u1 hr.units) (pe_dget (NF.u1 hr.units) (pv 0) pe_str (fun _ _ => rfl)) (pe_tup (pa_cons (pv 1) (pa_cons (pv 2) pa_nil))) (pe_tup (pa_cons (pe_bm0 PySem.F.plainAttrs_str PySem.F.slot_str_upper PySem.F.type_str_upper mtUpper (pv 2)) (pa_cons (pv 1) pa_nil))) ⟨rfl, rfl, rfl, rfl⟩))
      (pss_one (ps_ret (pe_dget2 (NF.u1 hr.units) (pe_dget (NF.u1 hr.units) (pv 0) pe_str (fun _ _ => rfl)) (pe_tup (pa_cons (pv 1) (pa_cons (pv 2) (pa_cons (pv 3) pa_nil)))) (pv 4) ⟨rfl, rfl, rfl, rfl⟩)))), ?_⟩
  try dsimp only [cxOf, Cx.nox, Cx.wish]
  obtain ⟨hl, F, ⟨a_model, a_mode, a_name, a_end⟩, K0, hF, ⟨v_model, _, _, _, rfl, h_model, rfl, rfl, rfl⟩, k, q⟩ := h
  have O := NF.Fz.start hF
  have lF := NF.Ex.rfl (B := H) (F := F)
  refine (NF.x_seq (NF.x_asg (NF.x_dget2 (NF.x_dget (NF.x_var rfl (NF.x_c (NF.y_rix42 O.leF h_model (fun _ _ _ _ => rfl) (fun v1 h2 => (NF.y_isD O.leF h2 (fun a3 hd4 hD => ⟨a3, hd4, hD, (NF.x_tup (NF.x_cons (NF.x_var rfl (NF.x_cons (NF.x_var rfl (NF.x_nil (NF.y_tup O (show 2 ≤ sizeLine by decide) (fun p6 F H hp l0 O => (have h_model := Enc.mono (eR4 "count" eInt "begin" (eDT kIC (eP2 eStr eInt)) "end" (eDT kIC (eP2 eStr eInt)) "special" (eDT kICI (eP2 eStr eInt))) l0.le h_model; (have h2 := Enc.mono (eDT kIC (eP2 eStr eInt)) l0.le h2; (have lF := Ex.trans lF l0; (have h5 : (eP2 eInt eChr).rep F (.ref p6) (a_mode, a_name) := ⟨_, _, _, rfl, hp, rfl, rfl⟩; (NF.x_tup (NF.x_cons (NF.x_bm0 (NF.x_var rfl (NF.x_tyS (have c7 := k.1; have k := k.2; (NF.x_upper c7 (NF.x_cons (NF.x_var rfl (NF.x_nil (NF.y_tup O (show 2 ≤ sizeLine by decide) (fun p9 F H hp l0 O => (have h_model := Enc.mono (eR4 "count" eInt "begin" (eDT kIC (eP2 eStr eInt)) "end" (eDT kIC (eP2 eStr eInt)) "special" (eDT kICI (eP2 eStr eInt))) l0.le h_model; (have h2 := Enc.mono (eDT kIC (eP2 eStr eInt)) l0.le h2; (have h5 := Enc.mono (eP2 eInt eChr) l0.le h5; (have lF := Ex.trans lF l0; (have h8 : (eP2 eStr eInt).rep F (.ref p9) ((Txt.upper (sg a_name)), a_mode) := ⟨_, _, _, rfl, hp, rfl, rfl⟩; (NF.y_dget2v hd4 O.leF O.leF h2 h5 h8 (fun v10 h11 => (NF.x_name ?_))))))))))))))))))))))))))))))))⟩))))))))))
  exact (NF.x_ret (NF.x_dget2 (NF.x_dget (NF.x_var rfl (NF.x_c (NF.y_rix43 O.leF h_model (fun _ _ _ _ => rfl) (fun v12 h13 => (NF.y_isD O.leF h13 (fun a14 hd15 hD => ⟨a14, hd15, hD, (NF.x_tup (NF.x_cons (NF.x_var rfl (NF.x_cons (NF.x_var rfl (NF.x_cons (NF.x_var rfl (NF.x_nil (NF.y_tup O (show 3 ≤ sizeLine by decide) (fun p17 F H hp l0 O => (have h_model := Enc.mono (eR4 "count" eInt "begin" (eDT kIC (eP2 eStr eInt)) "end" (eDT kIC (eP2 eStr eInt)) "special" (eDT kICI (eP2 eStr eInt))) l0.le h_model; (have h11 := Enc.mono (eP2 eStr eInt) l0.le h11; (have h13 := Enc.mono (eDT kICI (eP2 eStr eInt)) l0.le h13; (have lF := Ex.trans lF l0; (have h16 : (eP3 eInt eChr eInt).rep F (.ref p17) (a_mode, a_name, a_end) := ⟨_, _, _, _, rfl, hp, rfl, rfl, rfl⟩; (NF.x_var rfl (NF.y_dget2v hd15 O.leF O.leF h13 h16 h11 (fun v18 h19 => (q ((dGet a_model.2.2.2 (a_mode, a_name, a_end)).getD ((dGet a_model.2.2.1 (a_mode, a_name)).getD ((Txt.upper (sg a_name)), a_mode))) k _ _ _ O.leB O.leF lF h19)))))))))))))))))))⟩)))))))))

def m_law_fresh : W ((List (Int × Nat)) × Int × Int) :=
  W.ok ([], (0 : Int), (0 : Int))
abbrev NM_law_fresh : List Str := []
theorem sc_law_fresh : FnScope NM_law_fresh [] (defScope s_law_fresh) := ⟨rfl, rfl, rfl, by decide +kernel, rfl, by decide +kernel, by decide +kernel⟩
theorem d_law_fresh (F : Fn0 K mg "_law_fresh" s_law_fresh) (T : Txt P K mg)  :
    Def P w K mg base 1 "_law_fresh" [] (spW 0 (fun F vs (i : Unit) => vs = []) (eR3 "nodes" (eLst (eP2 eInt eChr)) "mode" eInt "seen" eInt) (fun (i : Unit) => m_law_fresh)) := by
  refine Def.mk0 F sc_law_fresh (by first | exact NF.hl_spW | exact NF.hl_spWb | exact NF.hl_spWX | exact NF.hl_spWm | exact NF.hl_spWo) (fun _ _ _ _ _ _ us hl => match us, hl with | [], _ => rfl) (fun cdv A outer s H vs Q E hr h => ?_)
  refine ⟨_, (pss_one (ps_ret (pe_disp (pps_cons pe_str (pe_lst pa_nil) (pps_cons pe_str pe_int (pps_cons pe_str pe_int pps_nil))) (by rfl) (by rfl) (fun z => by cases z) (by decide)))), ?_⟩
  try dsimp only [cxOf, Cx.nox, Cx.wish]
  obtain ⟨hl, F, _, K0, hF, rfl, k, q⟩ := h
  have O := NF.Fz.start hF
  have lF := NF.Ex.rfl (B := H) (F := F)
  exact (NF.x_ret (NF.y_disp O (fun p1 H O => (have O : NF.Fz _ F H ([(p1, (.dK []))] ++ ([]) : List (Addr × HO)) := O; (NF.x_pair (NF.x_c (NF.x_lst (NF.x_nil (NF.y_lstF O (show 0 ≤ sizeLine by decide) (fun p3 F H hp l0 O => (have lF := Ex.trans lF l0; (have h2 : (eLst (eP2 eInt eChr)).rep F (.ref p3) [] := ⟨_, _, rfl, hp, .nil⟩; (NF.x_pair (NF.x_c (NF.x_c (NF.x_pair (NF.x_c (NF.x_c (NF.x_pair0 (NF.y_dispE O 0 rfl [(.inr "nodes", (.ref p3)), (.inr "mode", (.int (0 : Int))), (.inr "seen", (.int (0 : Int)))] rfl (by simp) rfl (fun F H l0 hp O => (have O : NF.Fz _ F H ([] : List (Addr × HO)) := O; (have h2 := Enc.mono (eLst (eP2 eInt eChr)) l0.le h2; (have lF := Ex.trans lF l0; (have h4 : (eR3 "nodes" (eLst (eP2 eInt eChr)) "mode" eInt "seen" eInt).rep F (.ref p1) ([], (0 : Int), (0 : Int)) := ⟨_, _, _, _, rfl, hp, h2, rfl, rfl⟩; (q ([], (0 : Int), (0 : Int)) k _ _ _ O.leB O.leF lF h4))))))))))))))))))))))))))

def m_law_model (a_count : Int) (a_rows : List (Int × Nat × Str × Int × Str × Int)) (a_extra : List (Int × Nat × Int × Str × Int)) : W (Int × (List ((Int × Nat) × (Str × Int))) × (List ((Int × Nat) × (Str × Int))) × (List ((Int × Nat × Int) × (Str × Int)))) :=
  W.for_ a_rows (([] : List ((Int × Nat) × (Str × Int))), ([] : List ((Int × Nat) × (Str × Int)))) (fun (x8 : Int × Nat × Str × Int × Str × Int) (s : (List ((Int × Nat) × (Str × Int))) × (List ((Int × Nat) × (Str × Int)))) =>
  (fun (z_opening : List ((Int × Nat) × (Str × Int))) (z_closing : List ((Int × Nat) × (Str × Int))) =>
  W.chk (z_opening.length < sizeLine) <|
  W.chk (z_closing.length < sizeLine) <|
  W.ok (.nx ((dPut z_opening (x8.1, x8.2.1) (x8.2.2.1, x8.2.2.2.1)), (dPut z_closing (x8.1, x8.2.1) (x8.2.2.2.2.1, x8.2.2.2.2.2))))) s.1 s.2) (fun (s : (List ((Int × Nat) × (Str × Int))) × (List ((Int × Nat) × (Str × Int)))) =>
  (fun (z_opening : List ((Int × Nat) × (Str × Int))) (z_closing : List ((Int × Nat) × (Str × Int))) =>
  W.for_ a_extra ([] : List ((Int × Nat × Int) × (Str × Int))) (fun (x24 : Int × Nat × Int × Str × Int) (z_special : (List ((Int × Nat × Int) × (Str × Int)))) =>
  W.chk (z_special.length < sizeLine) <|
  W.ok (.nx (dPut z_special (x24.1, x24.2.1, x24.2.2.1) (x24.2.2.2.1, x24.2.2.2.2)))) (fun (z_special : (List ((Int × Nat × Int) × (Str × Int)))) =>
  W.ok (a_count, z_opening, z_closing, z_special))) s.1 s.2)
abbrev NM_law_model : List Str := ["count", "rows", "extra", "opening", "closing", "special", "row"]
theorem sc_law_model : FnScope NM_law_model ["count", "rows", "extra"] (defScope s_law_model) := ⟨rfl, rfl, rfl, by decide +kernel, rfl, by decide +kernel, by decide +kernel⟩
theorem d_law_model (F : Fn0 K mg "_law_model" s_law_model) (T : Txt P K mg)  :
    Def P w K mg base 1 "_law_model" ["count", "rows", "extra"] (spW 3 (fun F vs (i : Int × (List (Int × Nat × Str × Int × Str × Int)) × (List (Int × Nat × Int × Str × Int))) => ∃ v0 v1 v2, vs = [v0, v1, v2] ∧ eInt.rep F v0 i.1 ∧ (eLst (eP6 eInt eChr eStr eInt eStr eInt)).rep F v1 i.2.1 ∧ (eLst (eP5 eInt eChr eInt eStr eInt)).rep F v2 i.2.2) (eR4 "count" eInt "begin" (eDT kIC (eP2 eStr eInt)) "end" (eDT kIC (eP2 eStr eInt)) "special" (eDT kICI (eP2 eStr eInt))) (fun (i : Int × (List (Int × Nat × Str × Int × Str × Int)) × (List (Int × Nat × Int × Str × Int))) => m_law_model i.1 i.2.1 i.2.2)) := by
  refine Def.mk0 F sc_law_model (by first | exact NF.hl_spW | exact NF.hl_spWb | exact NF.hl_spWX | exact NF.hl_spWm | exact NF.hl_spWo) (fun _ _ _ _ _ _ us hl => match us, hl with | [_, _, _], _ => rfl) (fun cdv A outer s H vs Q E hr h => ?_)
  refine ⟨_, (pss_cons (ps_set (i := 3) sc_law_model.nd rfl (Or.inl rfl) pe_dnewT)
      (pss_cons (ps_set (i := 4) sc_law_model.nd rfl (Or.inl rfl) pe_dnewT)
      (pss_cons (ps_set (i := 5) sc_law_model.nd rfl (Or.inl rfl) pe_dnewT)
      (pss_cons (ps_for PassesOwn.never rfl (pi_list (pv 1)) (pg_name (i := 6) sc_law_model.nd rfl (Or.inl rfl))
      (pss_cons (ps_asg (pe_tup (pa_cons (pe_ix ix_tup (pv 6) pe_int (fun _ _ => rfl)) (pa_cons (pe_ix ix_tup (pv 6) pe_int (fun _ _ => rfl)) pa_nil))) (pg_sub (pv 3) (pe_tup (pa_cons (pe_ix ix_tup (pv 6) pe_int (fun _ _ => rfl)) (pa_cons (pe_ix ix_tup (pv 6) pe_int (fun _ _ => rfl)) pa_nil))) (set_dict (NF.u1 hr.units))))
      (pss_one (ps_asg (pe_tup (pa_cons (pe_ix ix_tup (pv 6) pe_int (fun _ _ => rfl)) (pa_cons (pe_ix ix_tup (pv 6) pe_int (fun _ _ => rfl)) pa_nil))) (pg_sub (pv 4) (pe_tup (pa_cons (pe_ix ix_tup (pv 6) pe_int (fun _ _ => rfl)) (pa_cons (pe_ix ix_tup (pv 6) pe_int (fun _ _ => rfl)) pa_nil))) (set_dict (NF.u1 hr.units)))))))
      (pss_cons (ps_for PassesOwn.never rfl (pi_list (pv 2)) (pg_name (i := 6) sc_law_model.nd rfl (Or.inl rfl))
      (pss_one (ps_asg (pe_tup (pa_cons (pe_ix ix_tup (pv 6) pe_int (fun _ _ => rfl)) (pa_cons (pe_ix ix_tup (pv 6) pe_int (fun _ _ => rfl)) pa_nil))) (pg_sub (pv 5) (pe_tup (pa_cons (pe_ix ix_tup (pv 6) pe_int (fun _ _ => rfl)) (pa_cons (pe_ix ix_tup (pv 6) pe_int (fun _ _ => rfl)) (pa_cons (pe_ix ix_tup (pv 6) pe_int (fun _ _ => rfl)) pa_nil)))) (set_dict (NF.u1 hr.units))))))
      (pss_one (ps_ret (pe_disp (pps_cons pe_str (pv 0) (pps_cons pe_str (pv 3) (pps_cons pe_str (pv 4) (pps_cons pe_str (pv 5) pps_nil)))) (by rfl) (by rfl) (fun z => by cases z) (by decide))))))))), ?_⟩
  try dsimp only [cxOf, Cx.nox, Cx.wish]
  obtain ⟨hl, F, ⟨a_count, a_rows, a_extra⟩, K0, hF, ⟨_, v_rows, v_extra, rfl, rfl, h_rows, h_extra⟩, k, q⟩ := h
  have O := NF.Fz.start hF
  have lF := NF.Ex.rfl (B := H) (F := F)
  refine (NF.x_seq (NF.x_asg (NF.x_dnewT O (fun p1 H O => (have O : NF.Fz _ F H ([(p1, HO.dT [])] ++ ([]) : List (Addr × HO)) := O; (have h2 : NF.RD kIC.key ((eP2 eStr eInt).rep F) [] [] := .nil; (NF.x_name ?_)))))))
  refine (NF.x_seq (NF.x_asg (NF.x_dnewT O (fun p3 H O => (have O : NF.Fz _ F H ([(p3, HO.dT [])] ++ ([(p1, HO.dT [])] ++ ([])) : List (Addr × HO)) := O; (have h4 : NF.RD kIC.key ((eP2 eStr eInt).rep F) [] [] := .nil; (NF.x_name ?_)))))))
  refine (NF.x_seq (NF.x_asg (NF.x_dnewT O (fun p5 H O => (have O : NF.Fz _ F H ([(p5, HO.dT [])] ++ ([(p3, HO.dT [])] ++ ([(p1, HO.dT [])] ++ ([]))) : List (Addr × HO)) := O; (have h6 : NF.RD kICI.key ((eP2 eStr eInt).rep F) [] [] := .nil; (NF.x_name ?_)))))))
  refine (NF.x_seq (NF.x_for (NF.x_jL (NF.x_var rfl (NF.y_jL O.leF h_rows (fun J T => (NF.y_for (σt := (List ((Int × Nat) × (Str × Int))) × (List ((Int × Nat) × (Str × Int)))) (fun (s : (List ((Int × Nat) × (Str × Int))) × (List ((Int × Nat) × (Str × Int)))) (σ : L2.St) (F : Hp) (R : List (Addr × HO)) => (fun (z_opening : List ((Int × Nat) × (Str × Int))) (z_closing : List ((Int × Nat) × (Str × Int))) => ∃ vs_opening : List (List Key × V), ∃ vs_closing : List (List Key × V), ∃ u6 : Option V, σ = [some (.int a_count), some v_rows, some v_extra, some (.ref p1), some (.ref p3), some (.ref p5), u6] ∧ R = ([(p5, HO.dT [])] ++ ([(p3, HO.dT vs_closing)] ++ ([(p1, HO.dT vs_opening)] ++ ([]))) : List (Addr × HO)) ∧ RD kIC.key ((eP2 eStr eInt).rep F) vs_opening z_opening ∧ RD kIC.key ((eP2 eStr eInt).rep F) vs_closing z_closing) s.1 s.2) T (by rintro ⟨z_opening, z_closing⟩ _ _ _ ⟨vs_opening, vs_closing, u6, rfl, rfl, r_opening, r_closing⟩; first | trivial | simp) O k ⟨_, _, _, rfl, rfl, h2, h4⟩ ?_ ?_)))))))
  · rintro x8 r ⟨z_opening, z_closing⟩ _ F0 F _ H v9 lp7 ⟨vs_opening, vs_closing, u6, rfl, rfl, r_opening, r_closing⟩ l1 O h10 k
    have lp7 := Ex.trans lp7 l1
    have h_rows := Enc.mono (eLst (eP6 eInt eChr eStr eInt eStr eInt)) lp7.le h_rows
    have h_extra := Enc.mono (eLst (eP5 eInt eChr eInt eStr eInt)) lp7.le h_extra
    have h6 := h6.mono fun _ _ => Enc.mono (eP2 eStr eInt) lp7.le
    have r_opening := r_opening.mono fun _ _ => Enc.mono (eP2 eStr eInt) l1.le
    have r_closing := r_closing.mono fun _ _ => Enc.mono (eP2 eStr eInt) l1.le
    have lF := Ex.trans lF lp7
    refine NF.x_name ?_
    refine (NF.x_seq (NF.x_asg (NF.x_tup (NF.x_cons (NF.x_op (NF.x_var rfl (NF.x_c (NF.y_ix62 O.leF h10 (fun u hu => NF.byS u hu (NF.x_cons (NF.x_op (NF.x_var rfl (NF.x_c (NF.y_ix63 O.leF h10 (fun u hu => NF.byI u hu (NF.x_nil (NF.y_tup O (show 2 ≤ sizeLine by decide) (fun p12 F H hp l0 O => (have h_rows := Enc.mono (eLst (eP6 eInt eChr eStr eInt eStr eInt)) l0.le h_rows; (have h_extra := Enc.mono (eLst (eP5 eInt eChr eInt eStr eInt)) l0.le h_extra; (have h6 := h6.mono fun _ _ => Enc.mono (eP2 eStr eInt) l0.le; (have r_opening := r_opening.mono fun _ _ => Enc.mono (eP2 eStr eInt) l0.le; (have r_closing := r_closing.mono fun _ _ => Enc.mono (eP2 eStr eInt) l0.le; (have h10 := Enc.mono (eP6 eInt eChr eStr eInt eStr eInt) l0.le h10; (have lF := Ex.trans lF l0; (have lp7 := Ex.trans lp7 l0; (have h11 : (eP2 eStr eInt).rep F (.ref p12) (x8.2.2.1, x8.2.2.2.1) := ⟨_, _, _, rfl, hp, rfl, rfl⟩; (NF.x_sub (NF.x_var rfl (NF.x_tup (NF.x_cons (NF.x_op (NF.x_var rfl (NF.x_c (NF.y_ix60 O.leF h10 (fun u hu => NF.byI u hu (NF.x_cons (NF.x_op (NF.x_var rfl (NF.x_c (NF.y_ix61 O.leF h10 (fun u hu => NF.byC u hu (NF.x_nil (NF.y_tup O (show 2 ≤ sizeLine by decide) (fun p14 F H hp l0 O => (have h_rows := Enc.mono (eLst (eP6 eInt eChr eStr eInt eStr eInt)) l0.le h_rows; (have h_extra := Enc.mono (eLst (eP5 eInt eChr eInt eStr eInt)) l0.le h_extra; (have h6 := h6.mono fun _ _ => Enc.mono (eP2 eStr eInt) l0.le; (have r_opening := r_opening.mono fun _ _ => Enc.mono (eP2 eStr eInt) l0.le; (have r_closing := r_closing.mono fun _ _ => Enc.mono (eP2 eStr eInt) l0.le; (have h10 := Enc.mono (eP6 eInt eChr eStr eInt eStr eInt) l0.le h10; (have h11 := Enc.mono (eP2 eStr eInt) l0.le h11; (have lF := Ex.trans lF l0; (have lp7 := Ex.trans lp7 l0; (have h13 : (eP2 eInt eChr).rep F (.ref p14) (x8.1, x8.2.1) := ⟨_, _, _, rfl, hp, rfl, rfl⟩; (have c15 := k.1; have k := k.2; (NF.y_dput O 2 rfl r_opening h13 h11 c15 (fun vs16 H r_opening O => (have O : NF.Fz _ F H ([(p5, HO.dT [])] ++ ([(p3, HO.dT vs_closing)] ++ ([(p1, HO.dT vs16)] ++ ([]))) : List (Addr × HO)) := O; ?_)))))))))))))))))))))))))))))))))))))))))))))))))))))))))))
    refine (NF.x_asg (NF.x_tup (NF.x_cons (NF.x_op (NF.x_var rfl (NF.x_c (NF.y_ix64 O.leF h10 (fun u hu => NF.byS u hu (NF.x_cons (NF.x_op (NF.x_var rfl (NF.x_c (NF.y_ix65 O.leF h10 (fun u hu => NF.byI u hu (NF.x_nil (NF.y_tup O (show 2 ≤ sizeLine by decide) (fun p18 F H hp l0 O => (have h_rows := Enc.mono (eLst (eP6 eInt eChr eStr eInt eStr eInt)) l0.le h_rows; (have h_extra := Enc.mono (eLst (eP5 eInt eChr eInt eStr eInt)) l0.le h_extra; (have h6 := h6.mono fun _ _ => Enc.mono (eP2 eStr eInt) l0.le; (have r_opening := r_opening.mono fun _ _ => Enc.mono (eP2 eStr eInt) l0.le; (have r_closing := r_closing.mono fun _ _ => Enc.mono (eP2 eStr eInt) l0.le; (have h10 := Enc.mono (eP6 eInt eChr eStr eInt eStr eInt) l0.le h10; (have lF := Ex.trans lF l0; (have lp7 := Ex.trans lp7 l0; (have h17 : (eP2 eStr eInt).rep F (.ref p18) (x8.2.2.2.2.1, x8.2.2.2.2.2) := ⟨_, _, _, rfl, hp, rfl, rfl⟩; (NF.x_sub (NF.x_var rfl (NF.x_tup (NF.x_cons (NF.x_op (NF.x_var rfl (NF.x_c (NF.y_ix60 O.leF h10 (fun u hu => NF.byI u hu (NF.x_cons (NF.x_op (NF.x_var rfl (NF.x_c (NF.y_ix61 O.leF h10 (fun u hu => NF.byC u hu (NF.x_nil (NF.y_tup O (show 2 ≤ sizeLine by decide) (fun p20 F H hp l0 O => (have h_rows := Enc.mono (eLst (eP6 eInt eChr eStr eInt eStr eInt)) l0.le h_rows; (have h_extra := Enc.mono (eLst (eP5 eInt eChr eInt eStr eInt)) l0.le h_extra; (have h6 := h6.mono fun _ _ => Enc.mono (eP2 eStr eInt) l0.le; (have r_opening := r_opening.mono fun _ _ => Enc.mono (eP2 eStr eInt) l0.le; (have r_closing := r_closing.mono fun _ _ => Enc.mono (eP2 eStr eInt) l0.le; (have h10 := Enc.mono (eP6 eInt eChr eStr eInt eStr eInt) l0.le h10; (have h17 := Enc.mono (eP2 eStr eInt) l0.le h17; (have lF := Ex.trans lF l0; (have lp7 := Ex.trans lp7 l0; (have h19 : (eP2 eInt eChr).rep F (.ref p20) (x8.1, x8.2.1) := ⟨_, _, _, rfl, hp, rfl, rfl⟩; (have c21 := k.1; have k := k.2; (NF.y_dput O 1 rfl r_closing h19 h17 c21 (fun vs22 H r_closing O => (have O : NF.Fz _ F H ([(p5, HO.dT [])] ++ ([(p3, HO.dT vs22)] ++ ([(p1, HO.dT vs16)] ++ ([]))) : List (Addr × HO)) := O; ?_))))))))))))))))))))))))))))))))))))))))))))))))))))))))))
    exact ⟨((dPut z_opening (x8.1, x8.2.1) (x8.2.2.1, x8.2.2.2.1)), (dPut z_closing (x8.1, x8.2.1) (x8.2.2.2.2.1, x8.2.2.2.2.2))), _, _, lp7, O, ⟨_, _, _, rfl, rfl, r_opening, r_closing⟩, k⟩
  · rintro ⟨z_opening, z_closing⟩ _ F _ H l0 O ⟨vs_opening, vs_closing, u6, rfl, rfl, r_opening, r_closing⟩ k
    have h_rows := Enc.mono (eLst (eP6 eInt eChr eStr eInt eStr eInt)) l0.le h_rows
    have h_extra := Enc.mono (eLst (eP5 eInt eChr eInt eStr eInt)) l0.le h_extra
    have h6 := h6.mono fun _ _ => Enc.mono (eP2 eStr eInt) l0.le
    have lF := Ex.trans lF l0
    refine (NF.x_seq (NF.x_for (NF.x_jL (NF.x_var rfl (NF.y_jL O.leF h_extra (fun J T => (NF.y_for (σt := (List ((Int × Nat × Int) × (Str × Int)))) (fun (z_special : (List ((Int × Nat × Int) × (Str × Int)))) (σ : L2.St) (F : Hp) (R : List (Addr × HO)) => ∃ vs_special : List (List Key × V), ∃ u6 : Option V, σ = [some (.int a_count), some v_rows, some v_extra, some (.ref p1), some (.ref p3), some (.ref p5), u6] ∧ R = ([(p5, HO.dT vs_special)] ++ ([(p3, HO.dT vs_closing)] ++ ([(p1, HO.dT vs_opening)] ++ ([]))) : List (Addr × HO)) ∧ RD kICI.key ((eP2 eStr eInt).rep F) vs_special z_special) T (by rintro z_special _ _ _ ⟨vs_special, u6, rfl, rfl, r_special⟩; first | trivial | simp) O k ⟨_, _, rfl, rfl, h6⟩ ?_ ?_)))))))
    · rintro x24 r z_special _ F0 F _ H v25 lp23 ⟨vs_special, u6, rfl, rfl, r_special⟩ l1 O h26 k
      have lp23 := Ex.trans lp23 l1
      have h_rows := Enc.mono (eLst (eP6 eInt eChr eStr eInt eStr eInt)) lp23.le h_rows
      have h_extra := Enc.mono (eLst (eP5 eInt eChr eInt eStr eInt)) lp23.le h_extra
      have r_opening := r_opening.mono fun _ _ => Enc.mono (eP2 eStr eInt) lp23.le
      have r_closing := r_closing.mono fun _ _ => Enc.mono (eP2 eStr eInt) lp23.le
      have r_special := r_special.mono fun _ _ => Enc.mono (eP2 eStr eInt) l1.le
      have lF := Ex.trans lF lp23
      refine NF.x_name ?_
      refine (NF.x_asg (NF.x_tup (NF.x_cons (NF.x_op (NF.x_var rfl (NF.x_c (NF.y_ix53 O.leF h26 (fun u hu => NF.byS u hu (NF.x_cons (NF.x_op (NF.x_var rfl (NF.x_c (NF.y_ix54 O.leF h26 (fun u hu => NF.byI u hu (NF.x_nil (NF.y_tup O (show 2 ≤ sizeLine by decide) (fun p28 F H hp l0 O => (have h_rows := Enc.mono (eLst (eP6 eInt eChr eStr eInt eStr eInt)) l0.le h_rows; (have h_extra := Enc.mono (eLst (eP5 eInt eChr eInt eStr eInt)) l0.le h_extra; (have r_opening := r_opening.mono fun _ _ => Enc.mono (eP2 eStr eInt) l0.le; (have r_closing := r_closing.mono fun _ _ => Enc.mono (eP2 eStr eInt) l0.le; (have r_special := r_special.mono fun _ _ => Enc.mono (eP2 eStr eInt) l0.le; (have h26 := Enc.mono (eP5 eInt eChr eInt eStr eInt) l0.le h26; (have lF := Ex.trans lF l0; (have lp23 := Ex.trans lp23 l0; (have h27 : (eP2 eStr eInt).rep F (.ref p28) (x24.2.2.2.1, x24.2.2.2.2) := ⟨_, _, _, rfl, hp, rfl, rfl⟩; (NF.x_sub (NF.x_var rfl (NF.x_tup (NF.x_cons (NF.x_op (NF.x_var rfl (NF.x_c (NF.y_ix50 O.leF h26 (fun u hu => NF.byI u hu (NF.x_cons (NF.x_op (NF.x_var rfl (NF.x_c (NF.y_ix51 O.leF h26 (fun u hu => NF.byC u hu (NF.x_cons (NF.x_op (NF.x_var rfl (NF.x_c (NF.y_ix52 O.leF h26 (fun u hu => NF.byI u hu (NF.x_nil (NF.y_tup O (show 3 ≤ sizeLine by decide) (fun p30 F H hp l0 O => (have h_rows := Enc.mono (eLst (eP6 eInt eChr eStr eInt eStr eInt)) l0.le h_rows; (have h_extra := Enc.mono (eLst (eP5 eInt eChr eInt eStr eInt)) l0.le h_extra; (have r_opening := r_opening.mono fun _ _ => Enc.mono (eP2 eStr eInt) l0.le; (have r_closing := r_closing.mono fun _ _ => Enc.mono (eP2 eStr eInt) l0.le; (have r_special := r_special.mono fun _ _ => Enc.mono (eP2 eStr eInt) l0.le; (have h26 := Enc.mono (eP5 eInt eChr eInt eStr eInt) l0.le h26; (have h27 := Enc.mono (eP2 eStr eInt) l0.le h27; (have lF := Ex.trans lF l0; (have lp23 := Ex.trans lp23 l0; (have h29 : (eP3 eInt eChr eInt).rep F (.ref p30) (x24.1, x24.2.1, x24.2.2.1) := ⟨_, _, _, _, rfl, hp, rfl, rfl, rfl⟩; (have c31 := k.1; have k := k.2; (NF.y_dput O 0 rfl r_special h29 h27 c31 (fun vs32 H r_special O => (have O : NF.Fz _ F H ([(p5, HO.dT vs32)] ++ ([(p3, HO.dT vs_closing)] ++ ([(p1, HO.dT vs_opening)] ++ ([]))) : List (Addr × HO)) := O; ?_))))))))))))))))))))))))))))))))))))))))))))))))))))))))))))))))
      exact ⟨(dPut z_special (x24.1, x24.2.1, x24.2.2.1) (x24.2.2.2.1, x24.2.2.2.2)), _, _, lp23, O, ⟨_, _, rfl, rfl, r_special⟩, k⟩
    · rintro z_special _ F _ H l0 O ⟨vs_special, u6, rfl, rfl, r_special⟩ k
      have h_rows := Enc.mono (eLst (eP6 eInt eChr eStr eInt eStr eInt)) l0.le h_rows
      have h_extra := Enc.mono (eLst (eP5 eInt eChr eInt eStr eInt)) l0.le h_extra
      have r_opening := r_opening.mono fun _ _ => Enc.mono (eP2 eStr eInt) l0.le
      have r_closing := r_closing.mono fun _ _ => Enc.mono (eP2 eStr eInt) l0.le
      have lF := Ex.trans lF l0
      exact (NF.x_ret (NF.y_disp O (fun p33 H O => (have O : NF.Fz _ F H ([(p33, (.dK []))] ++ ([(p5, HO.dT vs_special)] ++ ([(p3, HO.dT vs_closing)] ++ ([(p1, HO.dT vs_opening)] ++ ([])))) : List (Addr × HO)) := O; (NF.x_pair (NF.x_c (NF.x_var rfl (NF.x_pair (NF.x_c (NF.x_var rfl (NF.x_pair (NF.x_c (NF.x_var rfl (NF.x_pair (NF.x_c (NF.x_var rfl (NF.x_pair0 (NF.y_frz O 3 rfl (fun F l0 hp O => (have O : NF.Fz _ F H ([(p33, (.dK []))] ++ ([(p5, HO.dT vs_special)] ++ ([(p3, HO.dT vs_closing)] ++ ([]))) : List (Addr × HO)) := O; (have h_rows := Enc.mono (eLst (eP6 eInt eChr eStr eInt eStr eInt)) l0.le h_rows; (have h_extra := Enc.mono (eLst (eP5 eInt eChr eInt eStr eInt)) l0.le h_extra; (have r_opening := r_opening.mono fun _ _ => Enc.mono (eP2 eStr eInt) l0.le; (have r_closing := r_closing.mono fun _ _ => Enc.mono (eP2 eStr eInt) l0.le; (have r_special := r_special.mono fun _ _ => Enc.mono (eP2 eStr eInt) l0.le; (have lF := Ex.trans lF l0; (have h34 : (eDT kIC (eP2 eStr eInt)).rep F (.ref p1) z_opening := ⟨_, _, rfl, hp, r_opening⟩; (NF.y_frz O 2 rfl (fun F l0 hp O => (have O : NF.Fz _ F H ([(p33, (.dK []))] ++ ([(p5, HO.dT vs_special)] ++ ([])) : List (Addr × HO)) := O; (have h_rows := Enc.mono (eLst (eP6 eInt eChr eStr eInt eStr eInt)) l0.le h_rows; (have h_extra := Enc.mono (eLst (eP5 eInt eChr eInt eStr eInt)) l0.le h_extra; (have r_closing := r_closing.mono fun _ _ => Enc.mono (eP2 eStr eInt) l0.le; (have r_special := r_special.mono fun _ _ => Enc.mono (eP2 eStr eInt) l0.le; (have h34 := Enc.mono (eDT kIC (eP2 eStr eInt)) l0.le h34; (have lF := Ex.trans lF l0; (have h35 : (eDT kIC (eP2 eStr eInt)).rep F (.ref p3) z_closing := ⟨_, _, rfl, hp, r_closing⟩; (NF.y_frz O 1 rfl (fun F l0 hp O => (have O : NF.Fz _ F H ([(p33, (.dK []))] ++ ([]) : List (Addr × HO)) := O; (have h_rows := Enc.mono (eLst (eP6 eInt eChr eStr eInt eStr eInt)) l0.le h_rows; (have h_extra := Enc.mono (eLst (eP5 eInt eChr eInt eStr eInt)) l0.le h_extra; (have r_special := r_special.mono fun _ _ => Enc.mono (eP2 eStr eInt) l0.le; (have h34 := Enc.mono (eDT kIC (eP2 eStr eInt)) l0.le h34; (have h35 := Enc.mono (eDT kIC (eP2 eStr eInt)) l0.le h35; (have lF := Ex.trans lF l0; (have h36 : (eDT kICI (eP2 eStr eInt)).rep F (.ref p5) z_special := ⟨_, _, rfl, hp, r_special⟩; (NF.y_dispE O 0 rfl [(.inr "count", (.int a_count)), (.inr "begin", (.ref p1)), (.inr "end", (.ref p3)), (.inr "special", (.ref p5))] rfl (by simp) rfl (fun F H l0 hp O => (have O : NF.Fz _ F H ([] : List (Addr × HO)) := O; (have h_rows := Enc.mono (eLst (eP6 eInt eChr eStr eInt eStr eInt)) l0.le h_rows; (have h_extra := Enc.mono (eLst (eP5 eInt eChr eInt eStr eInt)) l0.le h_extra; (have h34 := Enc.mono (eDT kIC (eP2 eStr eInt)) l0.le h34; (have h35 := Enc.mono (eDT kIC (eP2 eStr eInt)) l0.le h35; (have h36 := Enc.mono (eDT kICI (eP2 eStr eInt)) l0.le h36; (have lF := Ex.trans lF l0; (have h37 : (eR4 "count" eInt "begin" (eDT kIC (eP2 eStr eInt)) "end" (eDT kIC (eP2 eStr eInt)) "special" (eDT kICI (eP2 eStr eInt))).rep F (.ref p33) (a_count, z_opening, z_closing, z_special) := ⟨_, _, _, _, _, rfl, hp, rfl, h34, h35, h36⟩; (q (a_count, z_opening, z_closing, z_special) k _ _ _ O.leB O.leF lF h37))))))))))))))))))))))))))))))))))))))))))))))))))))))))))

def m_law_try (a_model : Int × (List ((Int × Nat) × (Str × Int))) × (List ((Int × Nat) × (Str × Int))) × (List ((Int × Nat × Int) × (Str × Int)))) (a_state : (List (Int × Nat)) × Int × Int) (a_letters : Str) : W (Int × (List Str) × ((List (Int × Nat)) × Int × Int)) :=
  W.chk (a_letters.length ≤ sizeLine) <|
  W.chk (-(2 ^ 62) ≤ (a_letters.length : Int) ∧ (a_letters.length : Int) < 2 ^ 62) <|
  W.for_ (rngT 0 (a_letters.length : Int)) (a_state.1, ([] : List Str), a_state.2.1) (fun (x11 : Int) (s : (List (Int × Nat)) × (List Str) × Int) =>
  (fun (z_nodes : List (Int × Nat)) (z_told : List Str) (z_mode : Int) =>
  W.chk (a_letters.length ≤ sizeLine ∧ ∃ c, atI (tl a_letters) x11 = some c) <|
  W.ite (decide ((cS a_letters x11) ∈ tl (Str.ofString "abcdefgh"))) (W.bind (m_law_begin a_model z_mode (cS a_letters x11)) fun y15 =>
  W.chk (z_nodes.length < sizeLine) <|
  W.chk (z_told.length < sizeLine) <|
  W.ok (.nx ((z_nodes ++ [(z_mode, (cS a_letters x11))]), (z_told ++ [y15.1]), y15.2)))
  (W.ite (!z_nodes.isEmpty) (W.at_ z_nodes (-(1 : Int)) fun x22 =>
  W.chk ((sg x22.2).length ≤ 5592405) <|
  W.ite (decide ((Txt.upper (sg x22.2)) = (sg (cS a_letters x11)))) (W.pop z_nodes fun x26 r27 =>
  W.bind (m_law_end a_model x26.1 x26.2 z_mode) fun y31 =>
  W.chk (z_told.length < sizeLine) <|
  W.ok (.nx (r27, (z_told ++ [y31.1]), y31.2)))
  (W.ok (.rt ((a_state.2.2 + x11), [], a_state))))
  (W.ok (.rt ((a_state.2.2 + x11), [], a_state))))) s.1 s.2.1 s.2.2) (fun (s : (List (Int × Nat)) × (List Str) × Int) =>
  (fun (z_nodes : List (Int × Nat)) (z_told : List Str) (z_mode : Int) =>
  W.chk (a_letters.length ≤ sizeLine) <|
  W.ok ((-(1 : Int)), z_told, (z_nodes, z_mode, (a_state.2.2 + (a_letters.length : Int))))) s.1 s.2.1 s.2.2)
abbrev NM_law_try : List Str := ["model", "state", "letters", "nodes", "mode", "told", "k", "sign", "row", "node"]
theorem sc_law_try : FnScope NM_law_try ["model", "state", "letters"] (defScope s_law_try) := ⟨rfl, rfl, rfl, by decide +kernel, rfl, by decide +kernel, by decide +kernel⟩
theorem d_law_try (F : Fn0 K mg "_law_try" s_law_try) (T : Txt P K mg) (D_law_begin : Def P w K mg base 1 "_law_begin" ["model", "mode", "name"] (spW 3 (fun F vs (i : (Int × (List ((Int × Nat) × (Str × Int))) × (List ((Int × Nat) × (Str × Int))) × (List ((Int × Nat × Int) × (Str × Int)))) × Int × Nat) => ∃ v0 v1 v2, vs = [v0, v1, v2] ∧ (eR4 "count" eInt "begin" (eDT kIC (eP2 eStr eInt)) "end" (eDT kIC (eP2 eStr eInt)) "special" (eDT kICI (eP2 eStr eInt))).rep F v0 i.1 ∧ eInt.rep F v1 i.2.1 ∧ eChr.rep F v2 i.2.2) (eP2 eStr eInt) (fun (i : (Int × (List ((Int × Nat) × (Str × Int))) × (List ((Int × Nat) × (Str × Int))) × (List ((Int × Nat × Int) × (Str × Int)))) × Int × Nat) => m_law_begin i.1 i.2.1 i.2.2))) (D_law_end : Def P w K mg base 1 "_law_end" ["model", "mode", "name", "end"] (spW 4 (fun F vs (i : (Int × (List ((Int × Nat) × (Str × Int))) × (List ((Int × Nat) × (Str × Int))) × (List ((Int × Nat × Int) × (Str × Int)))) × Int × Nat × Int) => ∃ v0 v1 v2 v3, vs = [v0, v1, v2, v3] ∧ (eR4 "count" eInt "begin" (eDT kIC (eP2 eStr eInt)) "end" (eDT kIC (eP2 eStr eInt)) "special" (eDT kICI (eP2 eStr eInt))).rep F v0 i.1 ∧ eInt.rep F v1 i.2.1 ∧ eChr.rep F v2 i.2.2.1 ∧ eInt.rep F v3 i.2.2.2) (eP2 eStr eInt) (fun (i : (Int × (List ((Int × Nat) × (Str × Int))) × (List ((Int × Nat) × (Str × Int))) × (List ((Int × Nat × Int) × (Str × Int)))) × Int × Nat × Int) => m_law_end i.1 i.2.1 i.2.2.1 i.2.2.2))) :
    Def P w K mg base 2 "_law_try" ["model", "state", "letters"] (spW 3 (fun F vs (i : (Int × (List ((Int × Nat) × (Str × Int))) × (List ((Int × Nat) × (Str × Int))) × (List ((Int × Nat × Int) × (Str × Int)))) × ((List (Int × Nat)) × Int × Int) × Str) => ∃ v0 v1 v2, vs = [v0, v1, v2] ∧ (eR4 "count" eInt "begin" (eDT kIC (eP2 eStr eInt)) "end" (eDT kIC (eP2 eStr eInt)) "special" (eDT kICI (eP2 eStr eInt))).rep F v0 i.1 ∧ (eR3 "nodes" (eLst (eP2 eInt eChr)) "mode" eInt "seen" eInt).rep F v1 i.2.1 ∧ eStr.rep F v2 i.2.2) (eP3 eInt (eLst eStr) (eR3 "nodes" (eLst (eP2 eInt eChr)) "mode" eInt "seen" eInt)) (fun (i : (Int × (List ((Int × Nat) × (Str × Int))) × (List ((Int × Nat) × (Str × Int))) × (List ((Int × Nat × Int) × (Str × Int)))) × ((List (Int × Nat)) × Int × Int) × Str) => m_law_try i.1 i.2.1 i.2.2)) := by
  refine Def.mk0 F sc_law_try (by first | exact NF.hl_spW | exact NF.hl_spWb | exact NF.hl_spWX | exact NF.hl_spWm | exact NF.hl_spWo) (fun _ _ _ _ _ _ us hl => match us, hl with | [_, _, _], _ => rfl) (fun cdv A outer s H vs Q E hr h => ?_)
  refine ⟨_, (pss_cons (ps_set (i := 3) sc_law_try.nd rfl (Or.inl rfl) (pe_callTy (T := "list") callListOf (by rfl) T.b_list (by decide +kernel) (pa_cons (pe_dget (NF.u1 hr.units) (pv 1) pe_str (fun _ _ => rfl)) pa_nil)))
      (pss_cons (ps_set (i := 4) sc_law_try.nd rfl (Or.inl rfl) (pe_dget (NF.u1 hr.units) (pv 1) pe_str (fun _ _ => rfl)))
      (pss_cons (ps_set (i := 5) sc_law_try.nd rfl (Or.inl rfl) (pe_lst pa_nil))
      (pss_cons (ps_for PassesOwn.never rfl (pi_range1 (by rfl) T.b_range (pa_cons (pe_callB (id := "len") callLen (by rfl) T.b_len (by decide +kernel) (pa_cons (pv 2) pa_nil)) pa_nil)) (pg_name (i := 6) sc_law_try.nd rfl (Or.inl rfl))
      (pss_cons (ps_set (i := 7) sc_law_try.nd rfl (Or.inl rfl) (pe_ix ix_str (pv 2) (pv 6) (fun _ _ => rfl)))
      (pss_cons (ps_if (pt_cmpR opInC (pv 7) pe_str (by rfl))
      (pss_cons (ps_set (i := 8) sc_law_try.nd rfl (Or.inl rfl) (pe_d D_law_begin (hr.mono (by decide)) rfl (pa_cons (pv 0) (pa_cons (pv 4) (pa_cons (pv 7) pa_nil)))))
      (pss_one (ps_expr (pe_bm PySem.F.plainAttrs_list PySem.F.slot_list_append PySem.F.type_list_append mt_append (pv 3) (pa_cons (pe_tup (pa_cons (pv 4) (pa_cons (pv 7) pa_nil))) pa_nil)))))
      (pss_one (ps_if (PW.pt (pw_and (ptTruth (pv 3) (by intro _; rfl)) (pw_and1 (pt_cmpR op_eq (pe_bm0 PySem.F.plainAttrs_str PySem.F.slot_str_upper PySem.F.type_str_upper mtUpper (pe_ix ix_tup (pe_ix ix_list (pv 3) (pe_un un_neg pe_int) (fun _ _ => rfl)) pe_int (fun _ _ => rfl))) (pv 7) (nomark _)))))
      (pss_cons (ps_set (i := 9) sc_law_try.nd rfl (Or.inl rfl) (pe_bm0 PySem.F.plainAttrs_list PySem.F.slot_list_pop PySem.F.type_list_pop mt_pop (pv 3)))
      (pss_one (ps_set (i := 8) sc_law_try.nd rfl (Or.inl rfl) (pe_d D_law_end (hr.mono (by decide)) rfl (pa_cons (pv 0) (pa_cons (pe_ix ix_tup (pv 9) pe_int (fun _ _ => rfl)) (pa_cons (pe_ix ix_tup (pv 9) pe_int (fun _ _ => rfl)) (pa_cons (pv 4) pa_nil))))))))
      (pss_one (ps_ret (pe_tup (pa_cons (pe_op op_add (pe_dget (NF.u1 hr.units) (pv 1) pe_str (fun _ _ => rfl)) (pv 6)) (pa_cons (pe_lst pa_nil) (pa_cons (pv 1) pa_nil)))))))))
      (pss_cons (ps_expr (pe_bm PySem.F.plainAttrs_list PySem.F.slot_list_append PySem.F.type_list_append mt_append (pv 5) (pa_cons (pe_ix ix_tup (pv 8) pe_int (fun _ _ => rfl)) pa_nil)))
      (pss_one (ps_set (i := 4) sc_law_try.nd rfl (Or.inl rfl) (pe_ix ix_tup (pv 8) pe_int (fun _ _ => rfl))))))))
      (pss_one (ps_ret (pe_tup (pa_cons (pe_un un_neg pe_int) (pa_cons (pv 5) (pa_cons (pe_disp (pps_cons pe_str (pv 3) (pps_cons pe_str (pv 4) (pps_cons pe_str (pe_op op_add (pe_dget (NF.u1 hr.units) (pv 1) pe_str (fun _ _ => rfl)) (pe_callB (id := "len") callLen (by rfl) T.b_len (by decide +kernel) (pa_cons (pv 2) pa_nil))) pps_nil))) (by rfl) (by rfl) (fun z => by cases z) (by decide)) pa_nil)))))))))), ?_⟩
  try dsimp only [cxOf, Cx.nox, Cx.wish]
  obtain ⟨hl, F, ⟨a_model, a_state, a_letters⟩, K0, hF, ⟨v_model, v_state, _, rfl, h_model, h_state, rfl⟩, k, q⟩ := h
  have O := NF.Fz.start hF
  have lF := NF.Ex.rfl (B := H) (F := F)
  refine (NF.x_seq (NF.x_asg (NF.x_cb (NF.x_cons (NF.x_dget (NF.x_var rfl (NF.x_c (NF.y_rix30 O.leF h_state (fun _ _ _ => rfl) (fun v1 h2 => (NF.x_nil (NF.y_listOfO O h2 (fun p3 vs4 H ra5 O => (have O : NF.Fz _ F H ([(p3, HO.lst vs4)] ++ ([]) : List (Addr × HO)) := O; (NF.x_name ?_))))))))))))))
  refine (NF.x_seq (NF.x_asg (NF.x_dget (NF.x_var rfl (NF.x_c (NF.y_rix31 O.leF h_state (fun _ _ _ => rfl) (fun u hu => NF.byI u hu (NF.x_name ?_))))))))
  refine (NF.x_seq (NF.x_asg (NF.x_lst (NF.x_nil (NF.y_lstM O (show 0 ≤ sizeLine by decide) (fun p7 H O => (have O : NF.Fz _ F H ([(p7, HO.lst [])] ++ ([(p3, HO.lst vs4)] ++ ([])) : List (Addr × HO)) := O; (have h6 : NF.RL (eStr.rep F) _ [] := .nil; (NF.x_name ?_)))))))))
  refine (NF.x_seq (NF.x_for (NF.x_jR1 (NF.x_cons (NF.x_cb (NF.x_cons (NF.x_var rfl (NF.x_nil (have c8 := k.1; have k := k.2; (NF.x_lenS c8 (NF.x_nil (have c9 := k.1; have k := k.2; (NF.y_jR1 (F := F) c9 (fun J T => (NF.y_for (σt := (List (Int × Nat)) × (List Str) × Int) (fun (s : (List (Int × Nat)) × (List Str) × Int) (σ : L2.St) (F : Hp) (R : List (Addr × HO)) => (fun (z_nodes : List (Int × Nat)) (z_told : List Str) (z_mode : Int) => ∃ vs_nodes : List V, ∃ vs_told : List V, ∃ u6 : Option V, ∃ u7 : Option V, ∃ u8 : Option V, ∃ u9 : Option V, σ = [some v_model, some v_state, some (.str a_letters), some (.ref p3), some (.int z_mode), some (.ref p7), u6, u7, u8, u9] ∧ R = ([(p7, HO.lst vs_told)] ++ ([(p3, HO.lst vs_nodes)] ++ ([])) : List (Addr × HO)) ∧ RL ((eP2 eInt eChr).rep F) vs_nodes z_nodes ∧ RL (eStr.rep F) vs_told z_told) s.1 s.2.1 s.2.2) T (by rintro ⟨z_nodes, z_told, z_mode⟩ _ _ _ ⟨vs_nodes, vs_told, u6, u7, u8, u9, rfl, rfl, r_nodes, r_told⟩; first | trivial | simp) O k ⟨_, _, _, _, _, _, rfl, rfl, ra5, h6⟩ ?_ ?_)))))))))))))))
  · rintro x11 r ⟨z_nodes, z_told, z_mode⟩ _ F0 F _ H v12 lp10 ⟨vs_nodes, vs_told, u6, u7, u8, u9, rfl, rfl, r_nodes, r_told⟩ l1 O h13 k
    have lp10 := Ex.trans lp10 l1
    have h_model := Enc.mono (eR4 "count" eInt "begin" (eDT kIC (eP2 eStr eInt)) "end" (eDT kIC (eP2 eStr eInt)) "special" (eDT kICI (eP2 eStr eInt))) lp10.le h_model
    have h_state := Enc.mono (eR3 "nodes" (eLst (eP2 eInt eChr)) "mode" eInt "seen" eInt) lp10.le h_state
    have r_nodes := r_nodes.mono fun _ _ => Enc.mono (eP2 eInt eChr) l1.le
    have r_told := r_told.mono fun _ _ => Enc.mono eStr l1.le
    have lF := Ex.trans lF lp10
    cases h13
    refine NF.x_name ?_
    refine (NF.x_seq (NF.x_asg (NF.x_op (NF.x_var rfl (NF.x_var rfl (have c14 := k.1; have k := k.2; (NF.y_ixS c14.1 c14.2 (NF.x_name ?_))))))))
    refine (NF.x_seq (NF.x_ifs (NF.x_test (NF.x_op (NF.x_var rfl (NF.x_c (NF.x_inC (NF.x_bl (NF.x_itb (fun g48 => (have k := k.1 g48; ?n49)) (fun g48 => (have k := k.2 g48; ?n50)))))))))))
    case n49 =>
      refine (NF.x_seq (NF.x_asg (NF.x_call (NF.x_cons (NF.x_var rfl (NF.x_cons (NF.x_var rfl (NF.x_cons (NF.x_var rfl (NF.x_nil (NF.use_spW (i := (a_model, z_mode, (cS a_letters x11))) O rfl ⟨_, _, _, rfl, h_model, rfl, rfl⟩ k (fun y15 v16 F H l0 O h17 k => (have h_model := Enc.mono (eR4 "count" eInt "begin" (eDT kIC (eP2 eStr eInt)) "end" (eDT kIC (eP2 eStr eInt)) "special" (eDT kICI (eP2 eStr eInt))) l0.le h_model; (have h_state := Enc.mono (eR3 "nodes" (eLst (eP2 eInt eChr)) "mode" eInt "seen" eInt) l0.le h_state; (have r_nodes := r_nodes.mono fun _ _ => Enc.mono (eP2 eInt eChr) l0.le; (have r_told := r_told.mono fun _ _ => Enc.mono eStr l0.le; (have lF := Ex.trans lF l0; (have lp10 := Ex.trans lp10 l0; (NF.x_name ?_)))))))))))))))))))
      refine (NF.x_drop (NF.x_bm (NF.x_var rfl (NF.x_tyL (O.get 1 rfl) (NF.x_cons (NF.x_tup (NF.x_cons (NF.x_var rfl (NF.x_cons (NF.x_var rfl (NF.x_nil (NF.y_tup O (show 2 ≤ sizeLine by decide) (fun p19 F H hp l0 O => (have h_model := Enc.mono (eR4 "count" eInt "begin" (eDT kIC (eP2 eStr eInt)) "end" (eDT kIC (eP2 eStr eInt)) "special" (eDT kICI (eP2 eStr eInt))) l0.le h_model; (have h_state := Enc.mono (eR3 "nodes" (eLst (eP2 eInt eChr)) "mode" eInt "seen" eInt) l0.le h_state; (have r_nodes := r_nodes.mono fun _ _ => Enc.mono (eP2 eInt eChr) l0.le; (have r_told := r_told.mono fun _ _ => Enc.mono eStr l0.le; (have h17 := Enc.mono (eP2 eStr eInt) l0.le h17; (have lF := Ex.trans lF l0; (have lp10 := Ex.trans lp10 l0; (have h18 : (eP2 eInt eChr).rep F (.ref p19) (z_mode, (cS a_letters x11)) := ⟨_, _, _, rfl, hp, rfl, rfl⟩; (NF.x_nil (have c20 := k.1; have k := k.2; (NF.y_app2 O 1 rfl r_nodes c20 (fun H O => (have O : NF.Fz _ F H ([(p7, HO.lst vs_told)] ++ ([(p3, HO.lst (vs_nodes ++ [(.ref p19)]))] ++ ([])) : List (Addr × HO)) := O; (have r_nodes := NF.RL.snoc (x := (z_mode, (cS a_letters x11))) r_nodes h18; ?_)))))))))))))))))))))))))))
      refine (NF.x_seq (NF.x_drop (NF.x_bm (NF.x_var rfl (NF.x_tyL (O.get 0 rfl) (NF.x_cons (NF.x_op (NF.x_var rfl (NF.x_c (NF.y_ix20 O.leF h17 (fun u hu => NF.byS u hu (NF.x_nil (have c21 := k.1; have k := k.2; (NF.y_app2 O 0 rfl r_told c21 (fun H O => (have O : NF.Fz _ F H ([(p7, HO.lst (vs_told ++ [(.str y15.1)]))] ++ ([(p3, HO.lst (vs_nodes ++ [(.ref p19)]))] ++ ([])) : List (Addr × HO)) := O; (have r_told := NF.RL.snoc (x := y15.1) r_told rfl; ?_)))))))))))))))))
      refine (NF.x_asg (NF.x_op (NF.x_var rfl (NF.x_c (NF.y_ix21 O.leF h17 (fun u hu => NF.byI u hu (NF.x_name ?_)))))))
      exact ⟨((z_nodes ++ [(z_mode, (cS a_letters x11))]), (z_told ++ [y15.1]), y15.2), _, _, lp10, O, ⟨_, _, _, _, _, _, rfl, rfl, r_nodes, r_told⟩, k⟩
    case n50 =>
      refine (NF.x_ifs (NF.x_and (NF.x_tru (NF.x_var rfl (NF.y_truL (NF.Fz.vl O 1 rfl) (NF.vwL O 1 rfl r_nodes) (NF.x_itb (fun g44 => (have k := k.1 g44; (NF.x_test (NF.x_op (NF.x_bm0 (NF.x_op (NF.x_op (NF.x_var rfl (NF.x_un (NF.x_c (NF.x_U (Exists.elim k fun x22 hk => (have k := hk.2; (NF.y_ixM O 1 rfl r_nodes hk.1 (fun v23 h24 => (NF.x_c (NF.y_ix21 O.leF h24 (fun u hu => NF.byC u hu (NF.x_tyS (have c25 := k.1; have k := k.2; (NF.x_upper c25 (NF.x_var rfl (NF.y_eqS (NF.x_bl (NF.x_itb (fun g39 => (have k := k.1 g39; ?n45)) (fun g39 => (have k := k.2 g39; ?n46))))))))))))))))))))))))))) (fun g44 => (have k := k.2 g44; (NF.x_ff ?n47)))))))))
      case n45 =>
        refine (NF.x_seq (NF.x_asg (NF.x_bm0 (NF.x_var rfl (NF.x_tyL (O.get 1 rfl) (Exists.elim k fun r27 hk => Exists.elim hk fun x26 hk => (have k := hk.2; (NF.y_pop O 1 rfl r_nodes hk.1 (fun v29 vs28 H h30 r_nodes O => (have O : NF.Fz _ F H ([(p7, HO.lst vs_told)] ++ ([(p3, HO.lst vs28)] ++ ([])) : List (Addr × HO)) := O; (NF.x_name ?_)))))))))))
        refine (NF.x_asg (NF.x_call (NF.x_cons (NF.x_var rfl (NF.x_cons (NF.x_op (NF.x_var rfl (NF.x_c (NF.y_ix20 O.leF h30 (fun u hu => NF.byI u hu (NF.x_cons (NF.x_op (NF.x_var rfl (NF.x_c (NF.y_ix21 O.leF h30 (fun u hu => NF.byC u hu (NF.x_cons (NF.x_var rfl (NF.x_nil (NF.use_spW (i := (a_model, x26.1, x26.2, z_mode)) O rfl ⟨_, _, _, _, rfl, h_model, rfl, rfl, rfl⟩ k (fun y31 v32 F H l0 O h33 k => (have h_model := Enc.mono (eR4 "count" eInt "begin" (eDT kIC (eP2 eStr eInt)) "end" (eDT kIC (eP2 eStr eInt)) "special" (eDT kICI (eP2 eStr eInt))) l0.le h_model; (have h_state := Enc.mono (eR3 "nodes" (eLst (eP2 eInt eChr)) "mode" eInt "seen" eInt) l0.le h_state; (have r_nodes := r_nodes.mono fun _ _ => Enc.mono (eP2 eInt eChr) l0.le; (have r_told := r_told.mono fun _ _ => Enc.mono eStr l0.le; (have h30 := Enc.mono (eP2 eInt eChr) l0.le h30; (have lF := Ex.trans lF l0; (have lp10 := Ex.trans lp10 l0; (NF.x_name ?_)))))))))))))))))))))))))))))
        refine (NF.x_seq (NF.x_drop (NF.x_bm (NF.x_var rfl (NF.x_tyL (O.get 0 rfl) (NF.x_cons (NF.x_op (NF.x_var rfl (NF.x_c (NF.y_ix20 O.leF h33 (fun u hu => NF.byS u hu (NF.x_nil (have c34 := k.1; have k := k.2; (NF.y_app2 O 0 rfl r_told c34 (fun H O => (have O : NF.Fz _ F H ([(p7, HO.lst (vs_told ++ [(.str y31.1)]))] ++ ([(p3, HO.lst vs28)] ++ ([])) : List (Addr × HO)) := O; (have r_told := NF.RL.snoc (x := y31.1) r_told rfl; ?_)))))))))))))))))
        refine (NF.x_asg (NF.x_op (NF.x_var rfl (NF.x_c (NF.y_ix21 O.leF h33 (fun u hu => NF.byI u hu (NF.x_name ?_)))))))
        exact ⟨(r27, (z_told ++ [y31.1]), y31.2), _, _, lp10, O, ⟨_, _, _, _, _, _, rfl, rfl, r_nodes, r_told⟩, k⟩
      case n46 =>
        exact (NF.x_ret (NF.x_tup (NF.x_cons (NF.x_op (NF.x_dget (NF.x_var rfl (NF.x_c (NF.y_rix32 O.leF h_state (fun _ _ _ => rfl) (fun u hu => NF.byI u hu (NF.x_var rfl (NF.x_I0 (NF.x_cons (NF.x_lst (NF.x_nil (NF.y_lstF O (show 0 ≤ sizeLine by decide) (fun p36 F H hp l0 O => (have h_model := Enc.mono (eR4 "count" eInt "begin" (eDT kIC (eP2 eStr eInt)) "end" (eDT kIC (eP2 eStr eInt)) "special" (eDT kICI (eP2 eStr eInt))) l0.le h_model; (have h_state := Enc.mono (eR3 "nodes" (eLst (eP2 eInt eChr)) "mode" eInt "seen" eInt) l0.le h_state; (have r_nodes := r_nodes.mono fun _ _ => Enc.mono (eP2 eInt eChr) l0.le; (have r_told := r_told.mono fun _ _ => Enc.mono eStr l0.le; (have lF := Ex.trans lF l0; (have lp10 := Ex.trans lp10 l0; (have h35 : (eLst eStr).rep F (.ref p36) [] := ⟨_, _, rfl, hp, .nil⟩; (NF.x_cons (NF.x_var rfl (NF.x_nil (NF.y_tup O (show 3 ≤ sizeLine by decide) (fun p38 F H hp l0 O => (have h_model := Enc.mono (eR4 "count" eInt "begin" (eDT kIC (eP2 eStr eInt)) "end" (eDT kIC (eP2 eStr eInt)) "special" (eDT kICI (eP2 eStr eInt))) l0.le h_model; (have h_state := Enc.mono (eR3 "nodes" (eLst (eP2 eInt eChr)) "mode" eInt "seen" eInt) l0.le h_state; (have r_nodes := r_nodes.mono fun _ _ => Enc.mono (eP2 eInt eChr) l0.le; (have r_told := r_told.mono fun _ _ => Enc.mono eStr l0.le; (have h35 := Enc.mono (eLst eStr) l0.le h35; (have lF := Ex.trans lF l0; (have lp10 := Ex.trans lp10 l0; (have h37 : (eP3 eInt (eLst eStr) (eR3 "nodes" (eLst (eP2 eInt eChr)) "mode" eInt "seen" eInt)).rep F (.ref p38) ((a_state.2.2 + x11), [], a_state) := ⟨_, _, _, _, rfl, hp, rfl, h35, h_state⟩; (q ((a_state.2.2 + x11), [], a_state) k _ _ _ O.leB O.leF lF h37)))))))))))))))))))))))))))))))))))))
      case n47 =>
        exact (NF.x_ret (NF.x_tup (NF.x_cons (NF.x_op (NF.x_dget (NF.x_var rfl (NF.x_c (NF.y_rix32 O.leF h_state (fun _ _ _ => rfl) (fun u hu => NF.byI u hu (NF.x_var rfl (NF.x_I0 (NF.x_cons (NF.x_lst (NF.x_nil (NF.y_lstF O (show 0 ≤ sizeLine by decide) (fun p41 F H hp l0 O => (have h_model := Enc.mono (eR4 "count" eInt "begin" (eDT kIC (eP2 eStr eInt)) "end" (eDT kIC (eP2 eStr eInt)) "special" (eDT kICI (eP2 eStr eInt))) l0.le h_model; (have h_state := Enc.mono (eR3 "nodes" (eLst (eP2 eInt eChr)) "mode" eInt "seen" eInt) l0.le h_state; (have r_nodes := r_nodes.mono fun _ _ => Enc.mono (eP2 eInt eChr) l0.le; (have r_told := r_told.mono fun _ _ => Enc.mono eStr l0.le; (have lF := Ex.trans lF l0; (have lp10 := Ex.trans lp10 l0; (have h40 : (eLst eStr).rep F (.ref p41) [] := ⟨_, _, rfl, hp, .nil⟩; (NF.x_cons (NF.x_var rfl (NF.x_nil (NF.y_tup O (show 3 ≤ sizeLine by decide) (fun p43 F H hp l0 O => (have h_model := Enc.mono (eR4 "count" eInt "begin" (eDT kIC (eP2 eStr eInt)) "end" (eDT kIC (eP2 eStr eInt)) "special" (eDT kICI (eP2 eStr eInt))) l0.le h_model; (have h_state := Enc.mono (eR3 "nodes" (eLst (eP2 eInt eChr)) "mode" eInt "seen" eInt) l0.le h_state; (have r_nodes := r_nodes.mono fun _ _ => Enc.mono (eP2 eInt eChr) l0.le; (have r_told := r_told.mono fun _ _ => Enc.mono eStr l0.le; (have h40 := Enc.mono (eLst eStr) l0.le h40; (have lF := Ex.trans lF l0; (have lp10 := Ex.trans lp10 l0; (have h42 : (eP3 eInt (eLst eStr) (eR3 "nodes" (eLst (eP2 eInt eChr)) "mode" eInt "seen" eInt)).rep F (.ref p43) ((a_state.2.2 + x11), [], a_state) := ⟨_, _, _, _, rfl, hp, rfl, h40, h_state⟩; (q ((a_state.2.2 + x11), [], a_state) k _ _ _ O.leB O.leF lF h42)))))))))))))))))))))))))))))))))))))
  · rintro ⟨z_nodes, z_told, z_mode⟩ _ F _ H l0 O ⟨vs_nodes, vs_told, u6, u7, u8, u9, rfl, rfl, r_nodes, r_told⟩ k
    have h_model := Enc.mono (eR4 "count" eInt "begin" (eDT kIC (eP2 eStr eInt)) "end" (eDT kIC (eP2 eStr eInt)) "special" (eDT kICI (eP2 eStr eInt))) l0.le h_model
    have h_state := Enc.mono (eR3 "nodes" (eLst (eP2 eInt eChr)) "mode" eInt "seen" eInt) l0.le h_state
    have lF := Ex.trans lF l0
    exact (NF.x_ret (NF.x_tup (NF.x_cons (NF.x_un (NF.x_c (NF.x_U (NF.x_cons (NF.x_var rfl (NF.x_cons (NF.y_disp O (fun p51 H O => (have O : NF.Fz _ F H ([(p51, (.dK []))] ++ ([(p7, HO.lst vs_told)] ++ ([(p3, HO.lst vs_nodes)] ++ ([]))) : List (Addr × HO)) := O; (NF.x_pair (NF.x_c (NF.x_var rfl (NF.x_pair (NF.x_c (NF.x_var rfl (NF.x_pair (NF.x_c (NF.x_op (NF.x_dget (NF.x_var rfl (NF.x_c (NF.y_rix32 O.leF h_state (fun _ _ _ => rfl) (fun u hu => NF.byI u hu (NF.x_cb (NF.x_cons (NF.x_var rfl (NF.x_nil (have c52 := k.1; have k := k.2; (NF.x_lenS c52 (NF.x_I0 (NF.x_pair0 (NF.y_frz O 2 rfl (fun F l0 hp O => (have O : NF.Fz _ F H ([(p51, (.dK []))] ++ ([(p7, HO.lst vs_told)] ++ ([])) : List (Addr × HO)) := O; (have h_model := Enc.mono (eR4 "count" eInt "begin" (eDT kIC (eP2 eStr eInt)) "end" (eDT kIC (eP2 eStr eInt)) "special" (eDT kICI (eP2 eStr eInt))) l0.le h_model; (have h_state := Enc.mono (eR3 "nodes" (eLst (eP2 eInt eChr)) "mode" eInt "seen" eInt) l0.le h_state; (have r_nodes := r_nodes.mono fun _ _ => Enc.mono (eP2 eInt eChr) l0.le; (have r_told := r_told.mono fun _ _ => Enc.mono eStr l0.le; (have lF := Ex.trans lF l0; (have h53 : (eLst (eP2 eInt eChr)).rep F (.ref p3) z_nodes := ⟨_, _, rfl, hp, r_nodes⟩; (NF.y_dispE O 0 rfl [(.inr "nodes", (.ref p3)), (.inr "mode", (.int z_mode)), (.inr "seen", (.int (a_state.2.2 + (a_letters.length : Int))))] rfl (by simp) rfl (fun F H l0 hp O => (have O : NF.Fz _ F H ([(p7, HO.lst vs_told)] ++ ([]) : List (Addr × HO)) := O; (have h_model := Enc.mono (eR4 "count" eInt "begin" (eDT kIC (eP2 eStr eInt)) "end" (eDT kIC (eP2 eStr eInt)) "special" (eDT kICI (eP2 eStr eInt))) l0.le h_model; (have h_state := Enc.mono (eR3 "nodes" (eLst (eP2 eInt eChr)) "mode" eInt "seen" eInt) l0.le h_state; (have r_told := r_told.mono fun _ _ => Enc.mono eStr l0.le; (have h53 := Enc.mono (eLst (eP2 eInt eChr)) l0.le h53; (have lF := Ex.trans lF l0; (have h54 : (eR3 "nodes" (eLst (eP2 eInt eChr)) "mode" eInt "seen" eInt).rep F (.ref p51) (z_nodes, z_mode, (a_state.2.2 + (a_letters.length : Int))) := ⟨_, _, _, _, rfl, hp, h53, rfl, rfl⟩; (NF.x_nil (NF.y_frz O 0 rfl (fun F l0 hp O => (have O : NF.Fz _ F H ([] : List (Addr × HO)) := O; (have h_model := Enc.mono (eR4 "count" eInt "begin" (eDT kIC (eP2 eStr eInt)) "end" (eDT kIC (eP2 eStr eInt)) "special" (eDT kICI (eP2 eStr eInt))) l0.le h_model; (have h_state := Enc.mono (eR3 "nodes" (eLst (eP2 eInt eChr)) "mode" eInt "seen" eInt) l0.le h_state; (have r_told := r_told.mono fun _ _ => Enc.mono eStr l0.le; (have h53 := Enc.mono (eLst (eP2 eInt eChr)) l0.le h53; (have h54 := Enc.mono (eR3 "nodes" (eLst (eP2 eInt eChr)) "mode" eInt "seen" eInt) l0.le h54; (have lF := Ex.trans lF l0; (have h55 : (eLst eStr).rep F (.ref p7) z_told := ⟨_, _, rfl, hp, r_told⟩; (NF.y_tup O (show 3 ≤ sizeLine by decide) (fun p57 F H hp l0 O => (have h_model := Enc.mono (eR4 "count" eInt "begin" (eDT kIC (eP2 eStr eInt)) "end" (eDT kIC (eP2 eStr eInt)) "special" (eDT kICI (eP2 eStr eInt))) l0.le h_model; (have h_state := Enc.mono (eR3 "nodes" (eLst (eP2 eInt eChr)) "mode" eInt "seen" eInt) l0.le h_state; (have h53 := Enc.mono (eLst (eP2 eInt eChr)) l0.le h53; (have h54 := Enc.mono (eR3 "nodes" (eLst (eP2 eInt eChr)) "mode" eInt "seen" eInt) l0.le h54; (have h55 := Enc.mono (eLst eStr) l0.le h55; (have lF := Ex.trans lF l0; (have h56 : (eP3 eInt (eLst eStr) (eR3 "nodes" (eLst (eP2 eInt eChr)) "mode" eInt "seen" eInt)).rep F (.ref p57) ((-(1 : Int)), z_told, (z_nodes, z_mode, (a_state.2.2 + (a_letters.length : Int)))) := ⟨_, _, _, _, rfl, hp, rfl, h55, h54⟩; (q ((-(1 : Int)), z_told, (z_nodes, z_mode, (a_state.2.2 + (a_letters.length : Int)))) k _ _ _ O.leB O.leF lF h56)))))))))))))))))))))))))))))))))))))))))))))))))))))))))))))))))))))))))


/-! the pot: a dict with two lists -/
abbrev bxK (pg ps : Addr) (l m d : Int) : List (Key × V) := [(.inr "great", .ref pg), (.inr "left", .int l), (.inr "small", .ref ps), (.inr "mark", .int m), (.inr "drawn", .int d)]
def rBx : Rsc Unit := ⟨fun F p as N _ => ∃ (pg ps : Addr) (g s : List Int) (l m d : Int), as = [p, pg] ∧ N = [(p, .dK (bxK pg ps l m d)), (pg, .lst (g.map V.int))] ∧ F ps = some (.lst (s.map V.int)), fun l ⟨pg, ps, g, s, a, m, d, h1, h2, h3⟩ => ⟨pg, ps, g, s, a, m, d, h1, h2, l _ _ h3⟩, fun ⟨pg, ps, g, s, a, m, d, h1, h2, h3⟩ => by rw [h1, h2]; rfl⟩
def m_law_draw (n : Int) : W Int := fun K => (0 < n ∧ n ≤ 2 ^ 31) ∧ ∀ i, 0 ≤ i → i < n → K i
theorem log_le {n : Int} (h0 : 0 < n) (h : n ≤ 2 ^ 31) : n.natAbs.log2 < 9000 := by
  have h1 : n.natAbs < 2 ^ 32 := by omega
  have := (Nat.log2_lt (by omega)).mpr h1
  omega
abbrev NM_law_draw : List Str := ["pot", "many", "digit", "drawn", "cell", "once", "twice", "thrice"]
theorem sc_law_draw : FnScope NM_law_draw ["pot", "many"] (defScope s_law_draw) := ⟨rfl, rfl, rfl, by decide +kernel, rfl, by decide +kernel, by decide +kernel⟩
theorem d_law_draw (F : Fn0 K mg "_law_draw" s_law_draw) (T : Txt P K mg)  :
    Def P w K mg base 1 "_law_draw" ["pot", "many"] (spWm 2 (fun F (h : (Addr × List Addr)) W vs (i : Int) => ∃ v1, vs = [.ref h.1, v1] ∧ ∃ N0, W = N0 ++ ([]) ∧ rBx.rep F h.1 h.2 N0 () ∧ eInt.rep F v1 i) (fun _ F _ (h : (Addr × List Addr)) W v (y : Int) => ∃ N0, W = N0 ++ ([]) ∧ rBx.rep F h.1 h.2 N0 () ∧ eInt.rep F v y) (fun (i : Int) => m_law_draw i)) := by
  refine Def.mk0 F sc_law_draw (by first | exact NF.hl_spB | exact NF.hl_spP | exact NF.hl_spNew | exact NF.hl_spPX | exact NF.hl_spN | exact NF.hl_spNX | exact NF.hl_spW | exact NF.hl_spWb | exact NF.hl_spWX | exact NF.hl_spWm | exact NF.hl_spWo | exact hl_spWm) (fun _ _ _ _ _ _ us hl => match us, hl with | [_, _], _ => rfl) (fun cdv A outer s H vs Q E hr h => ?_)
  refine ⟨_, (pss_cons (ps_asg (pe_op op_add (pe_dget (NF.u1 hr.units) (pv 0) pe_str (fun _ _ => rfl)) pe_int) (pg_sub (pv 0) pe_str (set_dict (NF.u1 hr.units))))
      (Evl.pss_cut (ps_if (PW.pt (pw_and (pt_cmpR op_eq (pe_dget (NF.u1 hr.units) (pv 0) pe_str (fun _ _ => rfl)) pe_int (nomark _)) (pw_and1 (ptTruth (pe_dget (NF.u1 hr.units) (pv 0) pe_str (fun _ _ => rfl)) (by intro _; rfl)))))
      (pss_one (ps_asg (pe_bm PySem.F.plainAttrs_list PySem.F.slot_list_pop PySem.F.type_list_pop mt_popAt (pe_dget (NF.u1 hr.units) (pv 0) pe_str (fun _ _ => rfl)) (pa_cons pe_int pa_nil)) (pg_sub (pv 0) pe_str (set_dict (NF.u1 hr.units)))))
      pss_nil)
      (pss_cons (ps_if (pt_cmpR op_gt (pe_dget (NF.u1 hr.units) (pv 0) pe_str (fun _ _ => rfl)) pe_int (nomark _))
      (pss_cons (ps_set (i := 2) sc_law_draw.nd rfl (Or.inl rfl) (pe_op op_mod (pe_callTy (T := "int") callInt (by rfl) T.b_int (by decide +kernel) (pa_cons (pe_dget (NF.u1 hr.units) (pv 0) pe_str (fun _ _ => rfl)) pa_nil)) (pv 1)))
      (pss_cons (ps_asg (pe_op op_fdivW (pe_dget (NF.u1 hr.units) (pv 0) pe_str (fun _ _ => rfl)) (pv 1)) (pg_sub (pv 0) pe_str (set_dict (NF.u1 hr.units))))
      (pss_one (ps_ret (pv 2)))))
      pss_nil)
      (pss_cons (ps_set (i := 3) sc_law_draw.nd rfl (Or.inl rfl) (pe_dget (NF.u1 hr.units) (pv 0) pe_str (fun _ _ => rfl)))
      (pss_cons (ps_set (i := 4) sc_law_draw.nd rfl (Or.inl rfl) (pe_dget (NF.u1 hr.units) (pv 0) pe_str (fun _ _ => rfl)))
      (Evl.pss_cut (ps_if (ptTruth (pe_dget (NF.u1 hr.units) (pv 0) pe_str (fun _ _ => rfl)) (by intro _; rfl))
      (pss_one (ps_set (i := 4) sc_law_draw.nd rfl (Or.inl rfl) (pe_op op_add (pv 4) (pe_ix ix_list (pe_dget (NF.u1 hr.units) (pv 0) pe_str (fun _ _ => rfl)) (pe_op op_mod (pv 3) (pe_callB (id := "len") callLen (by rfl) T.b_len (by decide +kernel) (pa_cons (pe_dget (NF.u1 hr.units) (pv 0) pe_str (fun _ _ => rfl)) pa_nil))) (fun _ _ => rfl)))))
      pss_nil)
      (pss_cons (ps_set (i := 5) sc_law_draw.nd rfl (Or.inl rfl) (pe_op op_mod (pe_callTy (T := "int") callInt (by rfl) T.b_int (by decide +kernel) (pa_cons (pe_op op_add (pe_op op_add (pe_op op_mul (pv 4) pe_int) (pe_op op_mul (pv 3) pe_int)) pe_int) pa_nil)) pe_int))
      (pss_cons (ps_set (i := 6) sc_law_draw.nd rfl (Or.inl rfl) (pe_op op_mod (pe_callTy (T := "int") callInt (by rfl) T.b_int (by decide +kernel) (pa_cons (pe_op op_mul (pv 5) (pe_op op_add (pe_op op_mod (pv 5) pe_int) pe_int)) pa_nil)) pe_int))
      (pss_cons (ps_set (i := 7) sc_law_draw.nd rfl (Or.inl rfl) (pe_op op_mod (pe_callTy (T := "int") callInt (by rfl) T.b_int (by decide +kernel) (pa_cons (pe_op op_mul (pv 6) (pe_op op_add (pe_op op_mod (pv 6) pe_int) pe_int)) pa_nil)) pe_int))
      (pss_one (ps_ret (pe_op op_mod (pe_callTy (T := "int") callInt (by rfl) T.b_int (by decide +kernel) (pa_cons (pe_op op_fdivW (pv 7) pe_int) pa_nil)) (pv 1))))))))))))), ?_⟩
  try dsimp only [cxOf, Cx.nox, Cx.wish]
  obtain ⟨hl, F, ⟨p, as⟩, _, n, K0, hF, hAt, ⟨_, rfl, N, rfl, ⟨pg, ps, g, s, l, m, d, has, hN, hs⟩, hv⟩, ⟨⟨hn, hn2⟩, k⟩, q⟩ := h
  cases hv
  dsimp only at has hN
  subst has
  subst hN
  have O := NF.Fz.startM hF hAt
  have e0 : p ≠ pg := by have := O.nd; simp at this; exact this
  have O : Fz _ F H [(p, .dK (bxK pg ps l m d)), (pg, .lst (g.map V.int))] := O
  have fin : ∀ (i : Int) (g' : List Int) (l' m' d' : Int) (H' : Hp), 0 ≤ i → i < n → Fz (dels H (([(p, HO.dK (bxK pg ps l m d)), (pg, HO.lst (g.map V.int))] ++ []).map Prod.fst)) F H' [(p, .dK (bxK pg ps l' m' d')), (pg, .lst (g'.map V.int))] → Q (.int i) H' := fun i g' l' m' d' H' h0 h1 O => NF.ret_m (P := fun _ F _ (h : Addr × List Addr) W v (y : Int) => ∃ N0, W = N0 ++ [] ∧ rBx.rep F h.1 h.2 N0 () ∧ eInt.rep F v y) (h := (p, [p, pg])) (W := [(p, HO.dK (bxK pg ps l m d)), (pg, HO.lst (g.map V.int))] ++ []) (W' := [(p, .dK (bxK pg ps l' m' d')), (pg, .lst (g'.map V.int))] ++ []) q i (k i h0 h1) O rfl NF.Ex.rfl ⟨_, rfl, ⟨pg, ps, g', s, l', m', d', rfl, rfl, hs⟩, rfl⟩
  generalize dels H (([(p, HO.dK (bxK pg ps l m d)), (pg, HO.lst (g.map V.int))] ++ []).map Prod.fst) = B0 at O fin
  refine NF.x_seq (NF.x_asg (NF.x_op (NF.x_dget (NF.x_var rfl (NF.x_c (NF.y_rget O 0 rfl rfl (NF.x_c (NF.x_I0 (NF.x_sub (NF.x_var rfl (NF.x_c (NF.y_rput O 0 rfl rfl (by simp [sizeLine_eq]) (fun H O => ?_))))))))))))) 
  have O : Fz _ F H [(p, .dK (bxK pg ps l m (d + 1))), (pg, .lst (g.map V.int))] := O
  refine ⟨fun σ' H' => ∃ (g' : List Int) (l' : Int), σ' = [some (.ref p), some (.int n), none, none, none, none, none, none] ∧ Fz B0 F H' [(p, .dK (bxK pg ps l' m (d + 1))), (pg, .lst (g'.map V.int))], ?_, ?_⟩
  · refine NF.x_ifs (NF.x_and (NF.x_test (NF.x_op (NF.x_dget (NF.x_var rfl (NF.x_c (NF.y_rget O 0 rfl rfl (NF.x_c (NF.y_eqI (NF.x_bl (NF.x_itb (fun h1 => ?_) (fun h1 => (NF.x_ff ?_)))))))))))))
    · refine NF.x_tru (NF.x_dget (NF.x_var rfl (NF.x_c (NF.y_rget O 0 rfl rfl ?_))))
      refine NF.x_truL (O.get 1 rfl) ?_
      cases g with
      | nil => exact NF.x_ff (NF.x_next ⟨[], l, rfl, O⟩)
      | cons x g =>
        refine NF.x_tt (NF.x_asg (NF.x_bm (NF.x_dget (NF.x_var rfl (NF.x_c (NF.y_rget O 0 rfl rfl (NF.x_tyL (O.get 1 rfl) (NF.x_cons (NF.x_c (NF.x_nil (NF.y_pop0 O 1 rfl (fun H O => (NF.x_sub (NF.x_var rfl (NF.x_c (NF.y_rput O 0 rfl rfl (by simp [sizeLine_eq]) (fun H O => ?_)))))))))))))))))
        exact ⟨g, x, rfl, O⟩
    · exact NF.x_next ⟨g, l, rfl, O⟩
  · rintro _ H ⟨g, l, rfl, O⟩
    refine NF.x_seq (NF.x_ifs (NF.x_test (NF.x_op (NF.x_dget (NF.x_var rfl (NF.x_c (NF.y_rget O 0 rfl rfl (NF.x_c (NF.x_I0 (NF.x_bl (NF.x_itb (fun h1 => ?_) (fun h1 => (NF.x_next ?_)))))))))))))
    · refine NF.x_seq (NF.x_asg (NF.x_op (NF.x_cb (NF.x_cons (NF.x_dget (NF.x_var rfl (NF.x_c (NF.y_rget O 0 rfl rfl (NF.x_nil (NF.x_int (NF.x_var rfl (NF.x_I hn (NF.x_name ?_))))))))))))) 
      refine NF.x_seq (NF.x_asg (NF.x_op (NF.x_dget (NF.x_var rfl (NF.x_c (NF.y_rget O 0 rfl rfl (NF.x_var rfl (NF.x_I ⟨hn, log_le hn hn2⟩ (NF.x_sub (NF.x_var rfl (NF.x_c (NF.y_rput O 0 rfl rfl (by simp [sizeLine_eq]) (fun H O => ?_))))))))))))) 
      exact NF.x_ret (NF.x_var rfl (fin _ g _ m _ H (Int.emod_nonneg _ (by omega)) (Int.emod_lt_of_pos _ hn) O))
    · refine NF.x_seq (NF.x_asg (NF.x_dget (NF.x_var rfl (NF.x_c (NF.y_rget O 0 rfl rfl (NF.x_name ?_))))))
      refine NF.x_seq (NF.x_asg (NF.x_dget (NF.x_var rfl (NF.x_c (NF.y_rget O 0 rfl rfl (NF.x_name ?_))))))
      refine ⟨fun σ' H' => ∃ (c : Int), σ' = [some (.ref p), some (.int n), none, some (.int (d + 1)), some (.int c), none, none, none] ∧ Fz B0 F H' [(p, .dK (bxK pg ps l m (d + 1))), (pg, .lst (g.map V.int))], ?_, ?_⟩
      · refine NF.x_ifs (NF.x_tru (NF.x_dget (NF.x_var rfl (NF.x_c (NF.y_rget O 0 rfl rfl ?_)))))
        refine NF.x_truL (O.leF _ _ hs) ?_
        cases s with
        | nil => exact NF.x_ff (NF.x_next ⟨_, rfl, O⟩)
        | cons y s =>
          refine NF.x_tt (NF.x_asg (NF.x_op (NF.x_var rfl (NF.x_op (NF.x_dget (NF.x_var rfl (NF.x_c (NF.y_rget O 0 rfl rfl (NF.x_op (NF.x_var rfl (NF.x_cb (NF.x_cons (NF.x_dget (NF.x_var rfl (NF.x_c (NF.y_rget O 0 rfl rfl (NF.x_nil (NF.x_lenL (O.leF _ _ hs) (NF.x_I ?_ ?_)))))))))))))))))))
          · show (0 : Int) < _
            simp only [List.length_map, List.length_cons]; omega
          · have hz : 0 < ((y :: s).map V.int).length := by simp
            obtain ⟨c, hc⟩ : ∃ c, atI ((y :: s).map V.int) ((d + 1) % (((y :: s).map V.int).length : Int)) = some (.int c) := by
              have h0 := Int.emod_nonneg (d + 1) (b := (((y :: s).map V.int).length : Int)) (by omega)
              have h2 := Int.emod_lt_of_pos (d + 1) (b := (((y :: s).map V.int).length : Int)) (by omega)
              obtain ⟨t, ht⟩ := Int.eq_ofNat_of_zero_le h0
              rw [ht] at h2 ⊢
              have ht2 : t < (y :: s).length := by simp only [List.length_map] at h2; omega
              exact ⟨(y :: s)[t], atI_nat (by rw [List.getElem?_map, List.getElem?_eq_getElem ht2]; rfl)⟩
            refine NF.x_ixL (O.leF _ _ hs) hc (NF.x_I0 (NF.x_name ?_))
            exact ⟨_, rfl, O⟩
      · rintro _ H ⟨c, rfl, O⟩
        walk_at "gn"
        all_goals first | decide | exact fin _ g _ m _ H (Int.emod_nonneg _ (by omega)) (Int.emod_lt_of_pos _ hn) O | skip


def m_law_menu (a_most : Int) : W (Str) :=
  W.bind (m_law_draw (8 : Int)) fun y1 =>
  W.bind (m_law_draw (4 : Int)) fun y5 =>
  W.bind (m_law_draw a_most) fun y9 =>
  W.chk (-(2 ^ 62) ≤ ((1 : Int) + y9) ∧ ((1 : Int) + y9) < 2 ^ 62) <|
  W.bind (W.comp (rngT 0 ((1 : Int) + y9)) fun x14 =>
  W.chk (CMul x14 ((1 : Int) + ((2 : Int) * y5))) <|
  W.chk ((Str.ofString "abcdefgh").length ≤ sizeLine ∧ ∃ c, atI (tl (Str.ofString "abcdefgh")) ((y1 + (x14 * ((1 : Int) + ((2 : Int) * y5)))) % (8 : Int)) = some c) <|
  W.ok (some (sg (cS (Str.ofString "abcdefgh") ((y1 + (x14 * ((1 : Int) + ((2 : Int) * y5)))) % (8 : Int)))))) fun y24 =>
  W.chk ((y24.map (·.length)).sum + y24.length * (Str.ofString "").length ≤ 16777216) <|
  W.ok (Txt.join (Str.ofString "") y24)
abbrev NM_law_menu : List Str := ["pot", "most", "start", "step", "many", "k"]
theorem sc_law_menu : FnScope NM_law_menu ["pot", "most"] (defScope s_law_menu) := ⟨rfl, rfl, rfl, by decide +kernel, rfl, by decide +kernel, by decide +kernel⟩
theorem d_law_menu (F : Fn0 K mg "_law_menu" s_law_menu) (T : Txt P K mg) (D_law_draw : Def P w K mg base 1 "_law_draw" ["pot", "many"] (spWm 2 (fun F (h : (Addr × List Addr)) W vs (i : Int) => ∃ v1, vs = [.ref h.1, v1] ∧ ∃ N0, W = N0 ++ ([]) ∧ rBx.rep F h.1 h.2 N0 () ∧ eInt.rep F v1 i) (fun _ F _ (h : (Addr × List Addr)) W v (y : Int) => ∃ N0, W = N0 ++ ([]) ∧ rBx.rep F h.1 h.2 N0 () ∧ eInt.rep F v y) (fun (i : Int) => m_law_draw i))) :
    Def P w K mg base 2 "_law_menu" ["pot", "most"] (spWm 2 (fun F (h : (Addr × List Addr)) W vs (i : Int) => ∃ v1, vs = [.ref h.1, v1] ∧ ∃ N0, W = N0 ++ ([]) ∧ rBx.rep F h.1 h.2 N0 () ∧ eInt.rep F v1 i) (fun _ F _ (h : (Addr × List Addr)) W v (y : Str) => ∃ N0, W = N0 ++ ([]) ∧ rBx.rep F h.1 h.2 N0 () ∧ eStr.rep F v y) (fun (i : Int) => m_law_menu i)) := by
  refine Def.mk0 F sc_law_menu (by first | exact NF.hl_spW | exact NF.hl_spWb | exact NF.hl_spWX | exact NF.hl_spWm | exact NF.hl_spWo) (fun _ _ _ _ _ _ us hl => match us, hl with | [_, _], _ => rfl) (fun cdv A outer s H vs Q E hr h => ?_)
  refine ⟨_, (pss_cons (ps_set (i := 2) sc_law_menu.nd rfl (Or.inr rfl) (pe_d D_law_draw (hr.mono (by decide)) rfl (pa_cons (pv 0) (pa_cons pe_int pa_nil))))
      (pss_cons (ps_set (i := 3) sc_law_menu.nd rfl (Or.inr rfl) (pe_op op_add pe_int (pe_op op_mul pe_int (pe_d D_law_draw (hr.mono (by decide)) rfl (pa_cons (pv 0) (pa_cons pe_int pa_nil))))))
      (pss_cons (ps_set (i := 4) sc_law_menu.nd rfl (Or.inl rfl) (pe_op op_add pe_int (pe_d D_law_draw (hr.mono (by decide)) rfl (pa_cons (pv 0) (pa_cons (pv 1) pa_nil)))))
      (pss_one (ps_ret (pe_bm PySem.F.plainAttrs_str PySem.F.slot_str_join PySem.F.type_str_join mtJoin pe_str (pa_cons (pe_lc (own := [("k", 5)]) (g := gName 5) rfl sc_law_menu.nd (pi_range1 (by rfl) T.b_range (pa_cons (pv 4) pa_nil)) (blkOk_by (own := [("k", 5)]) (N := NM_law_menu) (sc := defScope s_law_menu) (by decide +kernel)) (fun _ _ _ _ _ => (pg_name (i := 5) sc_law_menu.nd rfl (Or.inl rfl))) (fun _ _ _ _ _ => pts_nil) (fun _ _ _ _ _ => (pe_ix ix_str pe_str (pe_op op_mod (pe_callTy (T := "int") (r := rInt) callInt (by rfl) T.b_int (by decide +kernel) (pa_cons (pe_op op_add (pv 2) (pe_op op_mul (pv 5) (pv 3))) pa_nil)) pe_int) (fun _ _ => rfl)))) pa_nil))))))), ?_⟩
  try dsimp only [cxOf, Cx.nox, Cx.wish]
  obtain ⟨hl, F, ⟨p_pot, as_pot⟩, _, a_most, K0, hF, hAt, ⟨_, rfl, N_pot, rfl, r_pot, rfl⟩, k, q⟩ := h
  have O := NF.Fz.startM hF hAt
  have O : NF.Fz _ F H (N_pot ++ ([]) : List (Addr × HO)) := O
  have lF := NF.Ex.rfl (B := dels H ((N_pot ++ ([]) : List (Addr × HO)).map Prod.fst)) (F := F)
  have d_p_pot := Rsc.dom rBx r_pot
  refine (NF.x_seq (NF.x_asg (NF.x_call (NF.x_cons (NF.x_var rfl (NF.x_cons (NF.x_c (NF.x_nil (NF.use_spWm (i := (8 : Int)) (p_pot, as_pot) (NF.Fz.sel O (List.Perm.refl _) (NF.apS NF.ap0)) rfl ⟨_, rfl, _, rfl, r_pot, rfl⟩ k (fun y1 v4 F H W l0 O hP k => Exists.elim hP fun N2 hP => (have hW := hP.1; have hP := hP.2; have r_pot := hP.1; have hP := hP.2; have O := NF.Fz.reW (hW.trans (NF.reS rfl rfl)) O; (have h3 := hP; have O := NF.Fz.unsel O (NF.apS NF.ap0) (List.Perm.refl _); (have O : NF.Fz _ F H (N2 ++ ([]) : List (Addr × HO)) := O; (have lF := Ex.trans lF l0; (NF.byI v4 h3 (NF.x_name ?_))))))))))))))))
  refine (NF.x_seq (NF.x_asg (NF.x_op (NF.x_c (NF.x_op (NF.x_c (NF.x_call (NF.x_cons (NF.x_var rfl (NF.x_cons (NF.x_c (NF.x_nil (NF.use_spWm (i := (4 : Int)) (p_pot, as_pot) (NF.Fz.sel O (List.Perm.refl _) (NF.apS NF.ap0)) rfl ⟨_, rfl, _, rfl, r_pot, rfl⟩ k (fun y5 v8 F H W l0 O hP k => Exists.elim hP fun N6 hP => (have hW := hP.1; have hP := hP.2; have r_pot := hP.1; have hP := hP.2; have O := NF.Fz.reW (hW.trans (NF.reS rfl rfl)) O; (have h7 := hP; have O := NF.Fz.unsel O (NF.apS NF.ap0) (List.Perm.refl _); (have O : NF.Fz _ F H (N6 ++ ([]) : List (Addr × HO)) := O; (have lF := Ex.trans lF l0; (NF.byI v8 h7 (NF.x_I (Or.inl ⟨by decide, by decide⟩) (NF.x_I0 (NF.x_name ?_))))))))))))))))))))))
  refine (NF.x_seq (NF.x_asg (NF.x_op (NF.x_c (NF.x_call (NF.x_cons (NF.x_var rfl (NF.x_cons (NF.x_var rfl (NF.x_nil (NF.use_spWm (i := a_most) (p_pot, as_pot) (NF.Fz.sel O (List.Perm.refl _) (NF.apS NF.ap0)) rfl ⟨_, rfl, _, rfl, r_pot, rfl⟩ k (fun y9 v12 F H W l0 O hP k => Exists.elim hP fun N10 hP => (have hW := hP.1; have hP := hP.2; have r_pot := hP.1; have hP := hP.2; have O := NF.Fz.reW (hW.trans (NF.reS rfl rfl)) O; (have h11 := hP; have O := NF.Fz.unsel O (NF.apS NF.ap0) (List.Perm.refl _); (have O : NF.Fz _ F H (N10 ++ ([]) : List (Addr × HO)) := O; (have lF := Ex.trans lF l0; (NF.byI v12 h11 (NF.x_I0 (NF.x_name ?_)))))))))))))))))))
  exact (NF.x_ret (NF.x_bm (NF.x_c (NF.x_tyS (NF.x_cons (NF.x_lc (NF.x_jR1 (NF.x_cons (NF.x_var rfl (NF.x_nil (have c13 := k.1; have k := k.2; (NF.y_jR1 (F := F) c13 (fun J T => (NF.y_comp (er := eStr) (fun F R => ∃ N10 : List (Addr × HO), R = (N10 ++ ([]) : List (Addr × HO)) ∧ rBx.rep F p_pot as_pot N10 ()) T (by rintro _ _ ⟨N10, rfl, r_pot⟩; first | trivial | simp) O k.2 k.1 ⟨_, rfl, r_pot⟩ (fun i x14 r pc20 acc18 at19 F0 F R H v hi lc17 hI ra21 hl l1 O hv k => match R, hI, O with | _, ⟨N10, rfl, r_pot⟩, O => (have O : NF.Fz _ F H ([(pc20, HO.lst acc18)] ++ N10 ++ ([])) := O; (have r_pot := Rsc.mono rBx l1.le r_pot; (have lc17 := Ex.trans lc17 l1; (have ra21 := ra21.mono fun _ _ => Enc.mono eStr l1.le; (have lF := Ex.trans lF lc17; (NF.byI v hv (NF.x_name ⟨NF.set_wipe _ _ _, (NF.x_yes (NF.x_tt (NF.x_op (NF.x_c (NF.x_op (NF.x_cb (NF.x_cons (NF.x_op (NF.x_var rfl (NF.x_op (NF.x_var rfl (NF.x_var rfl (have c22 := k.1; have k := k.2; (NF.x_I c22 (NF.x_I0 (NF.x_nil (NF.x_int (NF.x_c (NF.x_I (by decide) (have c23 := k.1; have k := k.2; (NF.y_ixS c23.1 c23.2 (NF.cE_mk (R' := N10 ++ ([])) hi lc17 ⟨_, rfl, r_pot⟩ O ra21 hl rfl k))))))))))))))))))))))⟩)))))))) (fun p26 F R vs25 y24 H l0 hI O ra27 k => match R, hI, O with | _, ⟨N10, rfl, r_pot⟩, O => (have lF := Ex.trans lF l0; (NF.y_frz O 0 rfl (fun F l0 hp O => (have O : NF.Fz _ F H (N10 ++ ([]) : List (Addr × HO)) := O; (have r_pot := Rsc.mono rBx l0.le r_pot; (have lF := Ex.trans lF l0; (have h28 : (eLst eStr).rep F (.ref p26) y24 := ⟨_, _, rfl, hp, ra27.mono fun _ _ => Enc.mono eStr l0.le⟩; (NF.x_nil (have c29 := k.1; have k := k.2; (NF.y_joinL O.leF h28 c29 (NF.ret_m (P := fun _ F _ (h : (Addr × List Addr)) W v (y : Str) => ∃ N0, W = N0 ++ ([]) ∧ rBx.rep F h.1 h.2 N0 () ∧ eStr.rep F v y) (h := (p_pot, as_pot)) q (Txt.join (Str.ofString "") y24) k O (NF.app_dom ((Rsc.dom rBx r_pot).trans d_p_pot.symm) rfl) lF ⟨_, rfl, r_pot, rfl⟩))))))))))))))))))))))))))

def m_law_walk (a_menu : Str) (a_opened : List Str) (a_steps : Int) : W (Str × (List Str)) :=
  W.chk (-(2 ^ 62) ≤ a_steps ∧ a_steps < 2 ^ 62) <|
  W.for_ (rngT 0 a_steps) (([] : List Str), a_opened) (fun (x5 : Int) (s : (List Str) × (List Str)) =>
  (fun (z_told : List Str) (z_opened : List Str) =>
  W.bind (m_law_draw (15 : Int)) fun y8 =>
  W.ite ((decide ((8 : Int) < y8)) && (!z_opened.isEmpty)) (W.pop z_opened fun x13 r14 =>
  W.chk (x13.length ≤ 5592405) <|
  W.chk (z_told.length < sizeLine) <|
  W.ok (.nx ((z_told ++ [(Txt.upper x13)]), r14)))
  (W.chk (a_menu.length ≤ sizeLine) <|
  W.chk ((0 : Int) < (a_menu.length : Int)) <|
  W.chk (a_menu.length ≤ sizeLine ∧ ∃ c, atI (tl a_menu) (y8 % (a_menu.length : Int)) = some c) <|
  W.chk (z_opened.length < sizeLine) <|
  W.at_ (z_opened ++ [(sg (cS a_menu (y8 % (a_menu.length : Int))))]) (-(1 : Int)) fun x24 =>
  W.chk (z_told.length < sizeLine) <|
  W.ok (.nx ((z_told ++ [x24]), (z_opened ++ [(sg (cS a_menu (y8 % (a_menu.length : Int))))]))))) s.1 s.2) (fun (s : (List Str) × (List Str)) =>
  (fun (z_told : List Str) (z_opened : List Str) =>
  W.chk ((z_told.map (·.length)).sum + z_told.length * (Str.ofString "").length ≤ 16777216) <|
  W.ok ((Txt.join (Str.ofString "") z_told), z_opened)) s.1 s.2)
abbrev NM_law_walk : List Str := ["pot", "menu", "opened", "steps", "told", "k", "pick"]
theorem sc_law_walk : FnScope NM_law_walk ["pot", "menu", "opened", "steps"] (defScope s_law_walk) := ⟨rfl, rfl, rfl, by decide +kernel, rfl, by decide +kernel, by decide +kernel⟩
theorem d_law_walk (F : Fn0 K mg "_law_walk" s_law_walk) (T : Txt P K mg) (D_law_draw : Def P w K mg base 1 "_law_draw" ["pot", "many"] (spWm 2 (fun F (h : (Addr × List Addr)) W vs (i : Int) => ∃ v1, vs = [.ref h.1, v1] ∧ ∃ N0, W = N0 ++ ([]) ∧ rBx.rep F h.1 h.2 N0 () ∧ eInt.rep F v1 i) (fun _ F _ (h : (Addr × List Addr)) W v (y : Int) => ∃ N0, W = N0 ++ ([]) ∧ rBx.rep F h.1 h.2 N0 () ∧ eInt.rep F v y) (fun (i : Int) => m_law_draw i))) :
    Def P w K mg base 2 "_law_walk" ["pot", "menu", "opened", "steps"] (spWm 4 (fun F (h : (Addr × List Addr) × (Addr × List Addr)) W vs (i : Str × (List Str) × Int) => ∃ v1 v3, vs = [.ref h.2.1, v1, .ref h.1.1, v3] ∧ ∃ N0 N1, W = N0 ++ (N1 ++ ([])) ∧ (rLst eStr).rep F h.1.1 h.1.2 N0 i.2.1 ∧ rBx.rep F h.2.1 h.2.2 N1 () ∧ eStr.rep F v1 i.1 ∧ eInt.rep F v3 i.2.2) (fun _ F _ (h : (Addr × List Addr) × (Addr × List Addr)) W v (y : Str × (List Str)) => ∃ N0 N1, W = N0 ++ (N1 ++ ([])) ∧ (rLst eStr).rep F h.1.1 h.1.2 N0 y.2 ∧ rBx.rep F h.2.1 h.2.2 N1 () ∧ eStr.rep F v y.1) (fun (i : Str × (List Str) × Int) => m_law_walk i.1 i.2.1 i.2.2)) := by
  refine Def.mk0 F sc_law_walk (by first | exact NF.hl_spW | exact NF.hl_spWb | exact NF.hl_spWX | exact NF.hl_spWm | exact NF.hl_spWo) (fun _ _ _ _ _ _ us hl => match us, hl with | [_, _, _, _], _ => rfl) (fun cdv A outer s H vs Q E hr h => ?_)
  refine ⟨_, (pss_cons (ps_set (i := 4) sc_law_walk.nd rfl (Or.inl rfl) (pe_lst pa_nil))
      (pss_cons (ps_for PassesOwn.never rfl (pi_range1 (by rfl) T.b_range (pa_cons (pv 3) pa_nil)) (pg_name (i := 5) sc_law_walk.nd rfl (Or.inl rfl))
      (pss_cons (ps_set (i := 6) sc_law_walk.nd rfl (Or.inl rfl) (pe_d D_law_draw (hr.mono (by decide)) rfl (pa_cons (pv 0) (pa_cons pe_int pa_nil))))
      (pss_one (ps_if (PW.pt (pw_and (pt_cmpR op_gt (pv 6) pe_int (nomark _)) (pw_and1 (ptTruth (pv 2) (by intro _; rfl)))))
      (pss_one (ps_expr (pe_bm PySem.F.plainAttrs_list PySem.F.slot_list_append PySem.F.type_list_append mt_append (pv 4) (pa_cons (pe_bm0 PySem.F.plainAttrs_str PySem.F.slot_str_upper PySem.F.type_str_upper mtUpper (pe_bm0 PySem.F.plainAttrs_list PySem.F.slot_list_pop PySem.F.type_list_pop mt_pop (pv 2))) pa_nil))))
      (pss_cons (ps_expr (pe_bm PySem.F.plainAttrs_list PySem.F.slot_list_append PySem.F.type_list_append mt_append (pv 2) (pa_cons (pe_ix ix_str (pv 1) (pe_op op_mod (pe_callTy (T := "int") callInt (by rfl) T.b_int (by decide +kernel) (pa_cons (pv 6) pa_nil)) (pe_callB (id := "len") callLen (by rfl) T.b_len (by decide +kernel) (pa_cons (pv 1) pa_nil))) (fun _ _ => rfl)) pa_nil)))
      (pss_one (ps_expr (pe_bm PySem.F.plainAttrs_list PySem.F.slot_list_append PySem.F.type_list_append mt_append (pv 4) (pa_cons (pe_ix ix_list (pv 2) (pe_un un_neg pe_int) (fun _ _ => rfl)) pa_nil)))))))))
      (pss_one (ps_ret (pe_bm PySem.F.plainAttrs_str PySem.F.slot_str_join PySem.F.type_str_join mtJoin pe_str (pa_cons (pv 4) pa_nil)))))), ?_⟩
  try dsimp only [cxOf, Cx.nox, Cx.wish]
  obtain ⟨hl, F, ⟨⟨p_opened, as_opened⟩, ⟨p_pot, as_pot⟩⟩, _, ⟨a_menu, a_opened, a_steps⟩, K0, hF, hAt, ⟨_, _, rfl, N0_p_opened, N_pot, rfl, ⟨ha_p_opened, vs_opened, hN_p_opened, r_opened⟩, r_pot, rfl, rfl⟩, k, q⟩ := h
  dsimp only at ha_p_opened hN_p_opened
  subst ha_p_opened
  subst hN_p_opened
  have O := NF.Fz.startM hF hAt
  have O : NF.Fz _ F H ([(p_opened, HO.lst vs_opened)] ++ (N_pot ++ ([])) : List (Addr × HO)) := O
  have lF := NF.Ex.rfl (B := dels H (([(p_opened, HO.lst vs_opened)] ++ (N_pot ++ ([])) : List (Addr × HO)).map Prod.fst)) (F := F)
  have d_p_pot := Rsc.dom rBx r_pot
  refine (NF.x_seq (NF.x_asg (NF.x_lst (NF.x_nil (NF.y_lstM O (show 0 ≤ sizeLine by decide) (fun p2 H O => (have O : NF.Fz _ F H ([(p2, HO.lst [])] ++ ([(p_opened, HO.lst vs_opened)] ++ (N_pot ++ ([]))) : List (Addr × HO)) := O; (have h1 : NF.RL (eStr.rep F) _ [] := .nil; (NF.x_name ?_)))))))))
  refine (NF.x_seq (NF.x_for (NF.x_jR1 (NF.x_cons (NF.x_var rfl (NF.x_nil (have c3 := k.1; have k := k.2; (NF.y_jR1 (F := F) c3 (fun J T => (NF.y_for (σt := (List Str) × (List Str)) (fun (s : (List Str) × (List Str)) (σ : L2.St) (F : Hp) (R : List (Addr × HO)) => (fun (z_told : List Str) (z_opened : List Str) => ∃ vs_told : List V, ∃ vs_opened : List V, ∃ u5 : Option V, ∃ u6 : Option V, ∃ M_p_pot : List (Addr × HO), σ = [some (.ref p_pot), some (.str a_menu), some (.ref p_opened), some (.int a_steps), some (.ref p2), u5, u6] ∧ R = ([(p2, HO.lst vs_told)] ++ ([(p_opened, HO.lst vs_opened)] ++ (M_p_pot ++ ([]))) : List (Addr × HO)) ∧ RL (eStr.rep F) vs_told z_told ∧ RL (eStr.rep F) vs_opened z_opened ∧ rBx.rep F p_pot as_pot M_p_pot ()) s.1 s.2) T (by rintro ⟨z_told, z_opened⟩ _ _ _ ⟨vs_told, vs_opened, u5, u6, M_p_pot, rfl, rfl, r_told, r_opened, hb_p_pot⟩; first | trivial | simp) O k ⟨_, _, _, _, _, rfl, rfl, h1, r_opened, r_pot⟩ ?_ ?_))))))))))
  · rintro x5 r ⟨z_told, z_opened⟩ _ F0 F _ H v6 lp4 ⟨vs_told, vs_opened, u5, u6, M_p_pot, rfl, rfl, r_told, r_opened, hb_p_pot⟩ l1 O h7 k
    have lp4 := Ex.trans lp4 l1
    have r_told := r_told.mono fun _ _ => Enc.mono eStr l1.le
    have r_opened := r_opened.mono fun _ _ => Enc.mono eStr l1.le
    have hb_p_pot := Rsc.mono rBx l1.le hb_p_pot
    have lF := Ex.trans lF lp4
    cases h7
    refine NF.x_name ?_
    refine (NF.x_seq (NF.x_asg (NF.x_call (NF.x_cons (NF.x_var rfl (NF.x_cons (NF.x_c (NF.x_nil (NF.use_spWm (i := (15 : Int)) (p_pot, as_pot) (NF.Fz.sel O (NF.mvS (NF.mvS NF.mv0)) (NF.apS NF.ap0)) rfl ⟨_, rfl, _, rfl, hb_p_pot, rfl⟩ k (fun y8 v11 F H W l0 O hP k => Exists.elim hP fun N9 hP => (have hW := hP.1; have hP := hP.2; have hb_p_pot := hP.1; have hP := hP.2; have O := NF.Fz.reW (hW.trans (NF.reS rfl rfl)) O; (have h10 := hP; have O := NF.Fz.unsel O (NF.apS NF.ap0) (List.Perm.trans (NF.mvS NF.mv0) (List.Perm.append_left _ (NF.mvS NF.mv0))); (have O : NF.Fz _ F H ([(p2, HO.lst vs_told)] ++ ([(p_opened, HO.lst vs_opened)] ++ (N9 ++ ([]))) : List (Addr × HO)) := O; (have r_told := r_told.mono fun _ _ => Enc.mono eStr l0.le; (have r_opened := r_opened.mono fun _ _ => Enc.mono eStr l0.le; (have lF := Ex.trans lF l0; (have lp4 := Ex.trans lp4 l0; (NF.byI v11 h10 (NF.x_name ?_)))))))))))))))))))
    refine (NF.x_ifs (NF.y_andT (fun Q q => (NF.x_test (NF.x_op (NF.x_var rfl (NF.x_c (NF.x_I0 (NF.x_bl q))))))) (fun g12 Q q => (NF.x_tru (NF.x_var rfl (NF.y_truL (NF.Fz.vl O 1 rfl) (NF.vwL O 1 rfl r_opened) q)))) (NF.x_itb (fun g26 => (have k := k.1 g26; ?n27)) (fun g26 => (have k := k.2 g26; ?n28)))))
    case n27 =>
      refine (NF.x_drop (NF.x_bm (NF.x_var rfl (NF.x_tyL (O.get 0 rfl) (NF.x_cons (NF.x_bm0 (NF.x_bm0 (NF.x_var rfl (NF.x_tyL (O.get 1 rfl) (Exists.elim k fun r14 hk => Exists.elim hk fun x13 hk => (have k := hk.2; (NF.y_pop O 1 rfl r_opened hk.1 (fun v16 vs15 H h17 r_opened O => (have O : NF.Fz _ F H ([(p2, HO.lst vs_told)] ++ ([(p_opened, HO.lst vs15)] ++ (N9 ++ ([]))) : List (Addr × HO)) := O; (NF.byS v16 h17 (NF.x_tyS (have c18 := k.1; have k := k.2; (NF.x_upper c18 (NF.x_nil (have c19 := k.1; have k := k.2; (NF.y_app2 O 0 rfl r_told c19 (fun H O => (have O : NF.Fz _ F H ([(p2, HO.lst (vs_told ++ [(.str (Txt.upper x13))]))] ++ ([(p_opened, HO.lst vs15)] ++ (N9 ++ ([]))) : List (Addr × HO)) := O; (have r_told := NF.RL.snoc (x := (Txt.upper x13)) r_told rfl; ?_))))))))))))))))))))))))
      exact ⟨((z_told ++ [(Txt.upper x13)]), r14), _, _, lp4, O, ⟨_, _, _, _, _, rfl, rfl, r_told, r_opened, hb_p_pot⟩, k⟩
    case n28 =>
      refine (NF.x_seq (NF.x_drop (NF.x_bm (NF.x_var rfl (NF.x_tyL (O.get 1 rfl) (NF.x_cons (NF.x_op (NF.x_var rfl (NF.x_op (NF.x_cb (NF.x_cons (NF.x_var rfl (NF.x_nil (NF.x_int (NF.x_cb (NF.x_cons (NF.x_var rfl (NF.x_nil (have c20 := k.1; have k := k.2; (NF.x_lenS c20 (have c21 := k.1; have k := k.2; (NF.x_I c21 (have c22 := k.1; have k := k.2; (NF.y_ixS c22.1 c22.2 (NF.x_nil (have c23 := k.1; have k := k.2; (NF.y_app2 O 1 rfl r_opened c23 (fun H O => (have O : NF.Fz _ F H ([(p2, HO.lst vs_told)] ++ ([(p_opened, HO.lst (vs_opened ++ [(.str (sg (cS a_menu (y8 % (a_menu.length : Int)))))]))] ++ (N9 ++ ([]))) : List (Addr × HO)) := O; (have r_opened := NF.RL.snoc (x := (sg (cS a_menu (y8 % (a_menu.length : Int))))) r_opened rfl; ?_))))))))))))))))))))))))))))))
      refine (NF.x_drop (NF.x_bm (NF.x_var rfl (NF.x_tyL (O.get 0 rfl) (NF.x_cons (NF.x_op (NF.x_var rfl (NF.x_un (NF.x_c (NF.x_U (Exists.elim k fun x24 hk => (have k := hk.2; (NF.y_ixM O 1 rfl r_opened hk.1 (fun u hu => NF.byS u hu (NF.x_nil (have c25 := k.1; have k := k.2; (NF.y_app2 O 0 rfl r_told c25 (fun H O => (have O : NF.Fz _ F H ([(p2, HO.lst (vs_told ++ [(.str x24)]))] ++ ([(p_opened, HO.lst (vs_opened ++ [(.str (sg (cS a_menu (y8 % (a_menu.length : Int)))))]))] ++ (N9 ++ ([]))) : List (Addr × HO)) := O; (have r_told := NF.RL.snoc (x := x24) r_told rfl; ?_))))))))))))))))))))
      exact ⟨((z_told ++ [x24]), (z_opened ++ [(sg (cS a_menu (y8 % (a_menu.length : Int))))])), _, _, lp4, O, ⟨_, _, _, _, _, rfl, rfl, r_told, r_opened, hb_p_pot⟩, k⟩
  · rintro ⟨z_told, z_opened⟩ _ F _ H l0 O ⟨vs_told, vs_opened, u5, u6, M_p_pot, rfl, rfl, r_told, r_opened, hb_p_pot⟩ k
    have lF := Ex.trans lF l0
    exact (NF.x_ret (NF.x_bm (NF.x_c (NF.x_tyS (NF.x_cons (NF.x_var rfl (NF.x_nil (NF.y_frz O 0 rfl (fun F l0 hp O => (have O : NF.Fz _ F H ([(p_opened, HO.lst vs_opened)] ++ (M_p_pot ++ ([])) : List (Addr × HO)) := O; (have r_told := r_told.mono fun _ _ => Enc.mono eStr l0.le; (have r_opened := r_opened.mono fun _ _ => Enc.mono eStr l0.le; (have hb_p_pot := Rsc.mono rBx l0.le hb_p_pot; (have lF := Ex.trans lF l0; (have h29 : (eLst eStr).rep F (.ref p2) z_told := ⟨_, _, rfl, hp, r_told⟩; (have c30 := k.1; have k := k.2; (NF.y_joinL O.leF h29 c30 (NF.ret_m (P := fun _ F _ (h : (Addr × List Addr) × (Addr × List Addr)) W v (y : Str × (List Str)) => ∃ N0 N1, W = N0 ++ (N1 ++ ([])) ∧ (rLst eStr).rep F h.1.1 h.1.2 N0 y.2 ∧ rBx.rep F h.2.1 h.2.2 N1 () ∧ eStr.rep F v y.1) (h := ((p_opened, [p_opened]), (p_pot, as_pot))) q ((Txt.join (Str.ofString "") z_told), z_opened) k O (NF.app_dom rfl (NF.app_dom ((Rsc.dom rBx hb_p_pot).trans d_p_pot.symm) rfl)) lF ⟨_, _, rfl, ⟨rfl, _, rfl, r_opened⟩, hb_p_pot, rfl⟩))))))))))))))))))

def m_law_mode (a_count : Int) : W (Int) :=
  W.bind (m_law_draw (if (3 : Int) < a_count then (3 : Int) else a_count)) fun y1 =>
  W.bind (m_law_draw a_count) fun y5 =>
  W.bind (m_law_draw (3 : Int)) fun y9 =>
  W.ite (decide (y9 = (0 : Int))) (W.ok y5)
  (W.ok y1)
abbrev NM_law_mode : List Str := ["pot", "count", "near", "far"]
theorem sc_law_mode : FnScope NM_law_mode ["pot", "count"] (defScope s_law_mode) := ⟨rfl, rfl, rfl, by decide +kernel, rfl, by decide +kernel, by decide +kernel⟩
theorem d_law_mode (F : Fn0 K mg "_law_mode" s_law_mode) (T : Txt P K mg) (D_law_draw : Def P w K mg base 1 "_law_draw" ["pot", "many"] (spWm 2 (fun F (h : (Addr × List Addr)) W vs (i : Int) => ∃ v1, vs = [.ref h.1, v1] ∧ ∃ N0, W = N0 ++ ([]) ∧ rBx.rep F h.1 h.2 N0 () ∧ eInt.rep F v1 i) (fun _ F _ (h : (Addr × List Addr)) W v (y : Int) => ∃ N0, W = N0 ++ ([]) ∧ rBx.rep F h.1 h.2 N0 () ∧ eInt.rep F v y) (fun (i : Int) => m_law_draw i))) :
    Def P w K mg base 2 "_law_mode" ["pot", "count"] (spWm 2 (fun F (h : (Addr × List Addr)) W vs (i : Int) => ∃ v1, vs = [.ref h.1, v1] ∧ ∃ N0, W = N0 ++ ([]) ∧ rBx.rep F h.1 h.2 N0 () ∧ eInt.rep F v1 i) (fun _ F _ (h : (Addr × List Addr)) W v (y : Int) => ∃ N0, W = N0 ++ ([]) ∧ rBx.rep F h.1 h.2 N0 () ∧ eInt.rep F v y) (fun (i : Int) => m_law_mode i)) := by
  refine Def.mk0 F sc_law_mode (by first | exact NF.hl_spW | exact NF.hl_spWb | exact NF.hl_spWX | exact NF.hl_spWm | exact NF.hl_spWo) (fun _ _ _ _ _ _ us hl => match us, hl with | [_, _], _ => rfl) (fun cdv A outer s H vs Q E hr h => ?_)
  refine ⟨_, (pss_cons (ps_set (i := 2) sc_law_mode.nd rfl (Or.inl rfl) (pe_d D_law_draw (hr.mono (by decide)) rfl (pa_cons (pv 0) (pa_cons (pe_callB (id := "min") (callMin2 rfl) (by rfl) T.b_min (by decide +kernel) (pa_cons (pv 1) (pa_cons pe_int pa_nil))) pa_nil))))
      (pss_cons (ps_set (i := 3) sc_law_mode.nd rfl (Or.inl rfl) (pe_d D_law_draw (hr.mono (by decide)) rfl (pa_cons (pv 0) (pa_cons (pv 1) pa_nil))))
      (pss_cons (ps_if (pt_cmpR op_eq (pe_d D_law_draw (hr.mono (by decide)) rfl (pa_cons (pv 0) (pa_cons pe_int pa_nil))) pe_int (nomark _))
      (pss_one (ps_ret (pv 3)))
      pss_nil)
      (pss_one (ps_ret (pv 2)))))), ?_⟩
  try dsimp only [cxOf, Cx.nox, Cx.wish]
  obtain ⟨hl, F, ⟨p_pot, as_pot⟩, _, a_count, K0, hF, hAt, ⟨_, rfl, N_pot, rfl, r_pot, rfl⟩, k, q⟩ := h
  have O := NF.Fz.startM hF hAt
  have O : NF.Fz _ F H (N_pot ++ ([]) : List (Addr × HO)) := O
  have lF := NF.Ex.rfl (B := dels H ((N_pot ++ ([]) : List (Addr × HO)).map Prod.fst)) (F := F)
  have d_p_pot := Rsc.dom rBx r_pot
  refine (NF.x_seq (NF.x_asg (NF.x_call (NF.x_cons (NF.x_var rfl (NF.x_cons (NF.x_cb (NF.x_cons (NF.x_var rfl (NF.x_cons (NF.x_c (NF.x_nil (NF.x_min2 (NF.x_nil (NF.use_spWm (i := (if (3 : Int) < a_count then (3 : Int) else a_count)) (p_pot, as_pot) (NF.Fz.sel O (List.Perm.refl _) (NF.apS NF.ap0)) rfl ⟨_, rfl, _, rfl, r_pot, rfl⟩ k (fun y1 v4 F H W l0 O hP k => Exists.elim hP fun N2 hP => (have hW := hP.1; have hP := hP.2; have r_pot := hP.1; have hP := hP.2; have O := NF.Fz.reW (hW.trans (NF.reS rfl rfl)) O; (have h3 := hP; have O := NF.Fz.unsel O (NF.apS NF.ap0) (List.Perm.refl _); (have O : NF.Fz _ F H (N2 ++ ([]) : List (Addr × HO)) := O; (have lF := Ex.trans lF l0; (NF.byI v4 h3 (NF.x_name ?_))))))))))))))))))))))
  refine (NF.x_seq (NF.x_asg (NF.x_call (NF.x_cons (NF.x_var rfl (NF.x_cons (NF.x_var rfl (NF.x_nil (NF.use_spWm (i := a_count) (p_pot, as_pot) (NF.Fz.sel O (List.Perm.refl _) (NF.apS NF.ap0)) rfl ⟨_, rfl, _, rfl, r_pot, rfl⟩ k (fun y5 v8 F H W l0 O hP k => Exists.elim hP fun N6 hP => (have hW := hP.1; have hP := hP.2; have r_pot := hP.1; have hP := hP.2; have O := NF.Fz.reW (hW.trans (NF.reS rfl rfl)) O; (have h7 := hP; have O := NF.Fz.unsel O (NF.apS NF.ap0) (List.Perm.refl _); (have O : NF.Fz _ F H (N6 ++ ([]) : List (Addr × HO)) := O; (have lF := Ex.trans lF l0; (NF.byI v8 h7 (NF.x_name ?_))))))))))))))))
  refine (NF.x_seq (NF.x_ifs (NF.x_test (NF.x_op (NF.x_call (NF.x_cons (NF.x_var rfl (NF.x_cons (NF.x_c (NF.x_nil (NF.use_spWm (i := (3 : Int)) (p_pot, as_pot) (NF.Fz.sel O (List.Perm.refl _) (NF.apS NF.ap0)) rfl ⟨_, rfl, _, rfl, r_pot, rfl⟩ k (fun y9 v12 F H W l0 O hP k => Exists.elim hP fun N10 hP => (have hW := hP.1; have hP := hP.2; have r_pot := hP.1; have hP := hP.2; have O := NF.Fz.reW (hW.trans (NF.reS rfl rfl)) O; (have h11 := hP; have O := NF.Fz.unsel O (NF.apS NF.ap0) (List.Perm.refl _); (have O : NF.Fz _ F H (N10 ++ ([]) : List (Addr × HO)) := O; (have lF := Ex.trans lF l0; (NF.byI v12 h11 (NF.x_c (NF.y_eqI (NF.x_bl (NF.x_itb (fun g13 => (have k := k.1 g13; ?n14)) (fun g13 => (have k := k.2 g13; ?n15)))))))))))))))))))))))
  case n14 =>
    exact (NF.x_ret (NF.x_var rfl (NF.ret_m (P := fun _ F _ (h : (Addr × List Addr)) W v (y : Int) => ∃ N0, W = N0 ++ ([]) ∧ rBx.rep F h.1 h.2 N0 () ∧ eInt.rep F v y) (h := (p_pot, as_pot)) q y5 k O (NF.app_dom ((Rsc.dom rBx r_pot).trans d_p_pot.symm) rfl) lF ⟨_, rfl, r_pot, rfl⟩)))
  case n15 =>
    refine NF.x_next ?_
    exact (NF.x_ret (NF.x_var rfl (NF.ret_m (P := fun _ F _ (h : (Addr × List Addr)) W v (y : Int) => ∃ N0, W = N0 ++ ([]) ∧ rBx.rep F h.1 h.2 N0 () ∧ eInt.rep F v y) (h := (p_pot, as_pot)) q y1 k O (NF.app_dom ((Rsc.dom rBx r_pot).trans d_p_pot.symm) rfl) lF ⟨_, rfl, r_pot, rfl⟩)))

def m_law_strings (a_plain : Bool) : W (Str × Str) :=
  W.bind (m_law_draw (8 : Int)) fun y1 =>
  W.chk ((Str.ofString "abcdefgh").length ≤ sizeLine ∧ ∃ c, atI (tl (Str.ofString "abcdefgh")) y1 = some c) <|
  W.bind (m_law_draw (12 : Int)) fun y6 =>
  W.ite a_plain (W.chk ((sg (cS (Str.ofString "abcdefgh") y1)).length ≤ 5592405) <|
  W.ok ((sg (cS (Str.ofString "abcdefgh") y1)), (Txt.upper (sg (cS (Str.ofString "abcdefgh") y1)))))
  (W.ite (decide (y6 = (0 : Int))) (W.bind (m_law_draw (400 : Int)) fun y13 =>
  W.chk (MulOk (sg (cS (Str.ofString "abcdefgh") y1)) ((1 : Int) + y13)) <|
  W.chk ((sg (cS (Str.ofString "abcdefgh") y1)).length ≤ 5592405) <|
  W.chk (MulOk (Txt.upper (sg (cS (Str.ofString "abcdefgh") y1))) ((1 : Int) + y13)) <|
  W.ok ((Txt.mul (sg (cS (Str.ofString "abcdefgh") y1)) ((1 : Int) + y13)), (Txt.mul (Txt.upper (sg (cS (Str.ofString "abcdefgh") y1))) ((1 : Int) + y13))))
  (W.bind (m_law_draw (7 : Int)) fun y24 =>
  W.bind (m_law_walk (Str.ofString "abcdefgh") ([] : List Str) y24) fun y28 =>
  W.bind (m_law_draw (6 : Int)) fun y34 =>
  W.bind (m_law_walk (Str.ofString "abcdefgh") y28.2 y34) fun y38 =>
  W.bind (m_law_close y38.2) fun y45 =>
  W.chk (y38.1.length + y45.length ≤ sizeLine) <|
  W.ok (y28.1, (y38.1 ++ y45))))
abbrev NM_law_strings : List Str := ["pot", "plain", "name", "way", "many", "opened", "before", "after"]
theorem sc_law_strings : FnScope NM_law_strings ["pot", "plain"] (defScope s_law_strings) := ⟨rfl, rfl, rfl, by decide +kernel, rfl, by decide +kernel, by decide +kernel⟩
theorem d_law_strings (F : Fn0 K mg "_law_strings" s_law_strings) (T : Txt P K mg) (D_law_draw : Def P w K mg base 1 "_law_draw" ["pot", "many"] (spWm 2 (fun F (h : (Addr × List Addr)) W vs (i : Int) => ∃ v1, vs = [.ref h.1, v1] ∧ ∃ N0, W = N0 ++ ([]) ∧ rBx.rep F h.1 h.2 N0 () ∧ eInt.rep F v1 i) (fun _ F _ (h : (Addr × List Addr)) W v (y : Int) => ∃ N0, W = N0 ++ ([]) ∧ rBx.rep F h.1 h.2 N0 () ∧ eInt.rep F v y) (fun (i : Int) => m_law_draw i))) (D_law_walk : Def P w K mg base 2 "_law_walk" ["pot", "menu", "opened", "steps"] (spWm 4 (fun F (h : (Addr × List Addr) × (Addr × List Addr)) W vs (i : Str × (List Str) × Int) => ∃ v1 v3, vs = [.ref h.2.1, v1, .ref h.1.1, v3] ∧ ∃ N0 N1, W = N0 ++ (N1 ++ ([])) ∧ (rLst eStr).rep F h.1.1 h.1.2 N0 i.2.1 ∧ rBx.rep F h.2.1 h.2.2 N1 () ∧ eStr.rep F v1 i.1 ∧ eInt.rep F v3 i.2.2) (fun _ F _ (h : (Addr × List Addr) × (Addr × List Addr)) W v (y : Str × (List Str)) => ∃ N0 N1, W = N0 ++ (N1 ++ ([])) ∧ (rLst eStr).rep F h.1.1 h.1.2 N0 y.2 ∧ rBx.rep F h.2.1 h.2.2 N1 () ∧ eStr.rep F v y.1) (fun (i : Str × (List Str) × Int) => m_law_walk i.1 i.2.1 i.2.2))) (D_law_close : Def P w K mg base 1 "_law_close" ["opened"] (spW 1 (fun F vs (i : (List Str)) => ∃ v0, vs = [v0] ∧ (eLst eStr).rep F v0 i) eStr (fun (i : (List Str)) => m_law_close i))) :
    Def P w K mg base 3 "_law_strings" ["pot", "plain"] (spWm 2 (fun F (h : (Addr × List Addr)) W vs (i : Bool) => ∃ v1, vs = [.ref h.1, v1] ∧ ∃ N0, W = N0 ++ ([]) ∧ rBx.rep F h.1 h.2 N0 () ∧ eBool.rep F v1 i) (fun _ F _ (h : (Addr × List Addr)) W v (y : Str × Str) => ∃ N0, W = N0 ++ ([]) ∧ rBx.rep F h.1 h.2 N0 () ∧ (eP2 eStr eStr).rep F v y) (fun (i : Bool) => m_law_strings i)) := by
  refine Def.mk0 F sc_law_strings (by first | exact NF.hl_spW | exact NF.hl_spWb | exact NF.hl_spWX | exact NF.hl_spWm | exact NF.hl_spWo) (fun _ _ _ _ _ _ us hl => match us, hl with | [_, _], _ => rfl) (fun cdv A outer s H vs Q E hr h => ?_)
  refine ⟨_, (pss_cons (ps_set (i := 2) sc_law_strings.nd rfl (Or.inl rfl) (pe_ix ix_str pe_str (pe_d D_law_draw (hr.mono (by decide)) rfl (pa_cons (pv 0) (pa_cons pe_int pa_nil))) (fun _ _ => rfl)))
      (pss_cons (ps_set (i := 3) sc_law_strings.nd rfl (Or.inl rfl) (pe_d D_law_draw (hr.mono (by decide)) rfl (pa_cons (pv 0) (pa_cons pe_int pa_nil))))
      (pss_cons (ps_if (pt_val (pv 1))
      (pss_one (ps_ret (pe_tup (pa_cons (pv 2) (pa_cons (pe_bm0 PySem.F.plainAttrs_str PySem.F.slot_str_upper PySem.F.type_str_upper mtUpper (pv 2)) pa_nil)))))
      pss_nil)
      (pss_cons (ps_if (pt_cmpR op_eq (pv 3) pe_int (nomark _))
      (pss_cons (ps_set (i := 4) sc_law_strings.nd rfl (Or.inl rfl) (pe_op op_add pe_int (pe_d D_law_draw (hr.mono (by decide)) rfl (pa_cons (pv 0) (pa_cons pe_int pa_nil)))))
      (pss_one (ps_ret (pe_tup (pa_cons (pe_op opMulS (pv 2) (pv 4)) (pa_cons (pe_op opMulS (pe_bm0 PySem.F.plainAttrs_str PySem.F.slot_str_upper PySem.F.type_str_upper mtUpper (pv 2)) (pv 4)) pa_nil))))))
      pss_nil)
      (pss_cons (ps_set (i := 5) sc_law_strings.nd rfl (Or.inl rfl) (pe_lst pa_nil))
      (pss_cons (ps_set (i := 6) sc_law_strings.nd rfl (Or.inl rfl) (pe_d D_law_walk (hr.mono (by decide)) rfl (pa_cons (pv 0) (pa_cons pe_str (pa_cons (pv 5) (pa_cons (pe_d D_law_draw (hr.mono (by decide)) rfl (pa_cons (pv 0) (pa_cons pe_int pa_nil))) pa_nil))))))
      (pss_cons (ps_set (i := 7) sc_law_strings.nd rfl (Or.inl rfl) (pe_d D_law_walk (hr.mono (by decide)) rfl (pa_cons (pv 0) (pa_cons pe_str (pa_cons (pv 5) (pa_cons (pe_d D_law_draw (hr.mono (by decide)) rfl (pa_cons (pv 0) (pa_cons pe_int pa_nil))) pa_nil))))))
      (pss_one (ps_ret (pe_tup (pa_cons (pv 6) (pa_cons (pe_op opAddS (pv 7) (pe_d D_law_close (hr.mono (by decide)) rfl (pa_cons (pv 5) pa_nil))) pa_nil)))))))))))), ?_⟩
  try dsimp only [cxOf, Cx.nox, Cx.wish]
  obtain ⟨hl, F, ⟨p_pot, as_pot⟩, _, a_plain, K0, hF, hAt, ⟨_, rfl, N_pot, rfl, r_pot, rfl⟩, k, q⟩ := h
  have O := NF.Fz.startM hF hAt
  have O : NF.Fz _ F H (N_pot ++ ([]) : List (Addr × HO)) := O
  have lF := NF.Ex.rfl (B := dels H ((N_pot ++ ([]) : List (Addr × HO)).map Prod.fst)) (F := F)
  have d_p_pot := Rsc.dom rBx r_pot
  refine (NF.x_seq (NF.x_asg (NF.x_op (NF.x_c (NF.x_call (NF.x_cons (NF.x_var rfl (NF.x_cons (NF.x_c (NF.x_nil (NF.use_spWm (i := (8 : Int)) (p_pot, as_pot) (NF.Fz.sel O (List.Perm.refl _) (NF.apS NF.ap0)) rfl ⟨_, rfl, _, rfl, r_pot, rfl⟩ k (fun y1 v4 F H W l0 O hP k => Exists.elim hP fun N2 hP => (have hW := hP.1; have hP := hP.2; have r_pot := hP.1; have hP := hP.2; have O := NF.Fz.reW (hW.trans (NF.reS rfl rfl)) O; (have h3 := hP; have O := NF.Fz.unsel O (NF.apS NF.ap0) (List.Perm.refl _); (have O : NF.Fz _ F H (N2 ++ ([]) : List (Addr × HO)) := O; (have lF := Ex.trans lF l0; (NF.byI v4 h3 (have c5 := k.1; have k := k.2; (NF.y_ixS c5.1 c5.2 (NF.x_name ?_))))))))))))))))))))
  refine (NF.x_seq (NF.x_asg (NF.x_call (NF.x_cons (NF.x_var rfl (NF.x_cons (NF.x_c (NF.x_nil (NF.use_spWm (i := (12 : Int)) (p_pot, as_pot) (NF.Fz.sel O (List.Perm.refl _) (NF.apS NF.ap0)) rfl ⟨_, rfl, _, rfl, r_pot, rfl⟩ k (fun y6 v9 F H W l0 O hP k => Exists.elim hP fun N7 hP => (have hW := hP.1; have hP := hP.2; have r_pot := hP.1; have hP := hP.2; have O := NF.Fz.reW (hW.trans (NF.reS rfl rfl)) O; (have h8 := hP; have O := NF.Fz.unsel O (NF.apS NF.ap0) (List.Perm.refl _); (have O : NF.Fz _ F H (N7 ++ ([]) : List (Addr × HO)) := O; (have lF := Ex.trans lF l0; (NF.byI v9 h8 (NF.x_name ?_))))))))))))))))
  refine (NF.x_seq (NF.x_ifs (NF.x_B (NF.x_var rfl (NF.x_bl (NF.x_itb (fun g54 => (have k := k.1 g54; ?n55)) (fun g54 => (have k := k.2 g54; ?n56))))))))
  case n55 =>
    exact (NF.x_ret (NF.x_tup (NF.x_cons (NF.x_var rfl (NF.x_cons (NF.x_bm0 (NF.x_var rfl (NF.x_tyS (have c10 := k.1; have k := k.2; (NF.x_upper c10 (NF.x_nil (NF.y_tup O (show 2 ≤ sizeLine by decide) (fun p12 F H hp l0 O => (have r_pot := Rsc.mono rBx l0.le r_pot; (have lF := Ex.trans lF l0; (have h11 : (eP2 eStr eStr).rep F (.ref p12) ((sg (cS (Str.ofString "abcdefgh") y1)), (Txt.upper (sg (cS (Str.ofString "abcdefgh") y1)))) := ⟨_, _, _, rfl, hp, rfl, rfl⟩; (NF.ret_m (P := fun _ F _ (h : (Addr × List Addr)) W v (y : Str × Str) => ∃ N0, W = N0 ++ ([]) ∧ rBx.rep F h.1 h.2 N0 () ∧ (eP2 eStr eStr).rep F v y) (h := (p_pot, as_pot)) q ((sg (cS (Str.ofString "abcdefgh") y1)), (Txt.upper (sg (cS (Str.ofString "abcdefgh") y1)))) k O (NF.app_dom ((Rsc.dom rBx r_pot).trans d_p_pot.symm) rfl) lF ⟨_, rfl, r_pot, h11⟩)))))))))))))))))
  case n56 =>
    refine NF.x_next ?_
    refine (NF.x_seq (NF.x_ifs (NF.x_test (NF.x_op (NF.x_var rfl (NF.x_c (NF.y_eqI (NF.x_bl (NF.x_itb (fun g51 => (have k := k.1 g51; ?n52)) (fun g51 => (have k := k.2 g51; ?n53)))))))))))
    case n52 =>
      refine (NF.x_seq (NF.x_asg (NF.x_op (NF.x_c (NF.x_call (NF.x_cons (NF.x_var rfl (NF.x_cons (NF.x_c (NF.x_nil (NF.use_spWm (i := (400 : Int)) (p_pot, as_pot) (NF.Fz.sel O (List.Perm.refl _) (NF.apS NF.ap0)) rfl ⟨_, rfl, _, rfl, r_pot, rfl⟩ k (fun y13 v16 F H W l0 O hP k => Exists.elim hP fun N14 hP => (have hW := hP.1; have hP := hP.2; have r_pot := hP.1; have hP := hP.2; have O := NF.Fz.reW (hW.trans (NF.reS rfl rfl)) O; (have h15 := hP; have O := NF.Fz.unsel O (NF.apS NF.ap0) (List.Perm.refl _); (have O : NF.Fz _ F H (N14 ++ ([]) : List (Addr × HO)) := O; (have lF := Ex.trans lF l0; (NF.byI v16 h15 (NF.x_I0 (NF.x_name ?_)))))))))))))))))))
      exact (NF.x_ret (NF.x_tup (NF.x_cons (NF.x_op (NF.x_var rfl (NF.x_var rfl (have c17 := k.1; have k := k.2; (NF.y_mulS c17 (NF.x_cons (NF.x_op (NF.x_bm0 (NF.x_var rfl (NF.x_tyS (have c18 := k.1; have k := k.2; (NF.x_upper c18 (NF.x_var rfl (have c19 := k.1; have k := k.2; (NF.y_mulS c19 (NF.x_nil (NF.y_tup O (show 2 ≤ sizeLine by decide) (fun p21 F H hp l0 O => (have r_pot := Rsc.mono rBx l0.le r_pot; (have lF := Ex.trans lF l0; (have h20 : (eP2 eStr eStr).rep F (.ref p21) ((Txt.mul (sg (cS (Str.ofString "abcdefgh") y1)) ((1 : Int) + y13)), (Txt.mul (Txt.upper (sg (cS (Str.ofString "abcdefgh") y1))) ((1 : Int) + y13))) := ⟨_, _, _, rfl, hp, rfl, rfl⟩; (NF.ret_m (P := fun _ F _ (h : (Addr × List Addr)) W v (y : Str × Str) => ∃ N0, W = N0 ++ ([]) ∧ rBx.rep F h.1 h.2 N0 () ∧ (eP2 eStr eStr).rep F v y) (h := (p_pot, as_pot)) q ((Txt.mul (sg (cS (Str.ofString "abcdefgh") y1)) ((1 : Int) + y13)), (Txt.mul (Txt.upper (sg (cS (Str.ofString "abcdefgh") y1))) ((1 : Int) + y13))) k O (NF.app_dom ((Rsc.dom rBx r_pot).trans d_p_pot.symm) rfl) lF ⟨_, rfl, r_pot, h20⟩)))))))))))))))))))))))))
    case n53 =>
      refine NF.x_next ?_
      refine (NF.x_seq (NF.x_asg (NF.x_lst (NF.x_nil (NF.y_lstM O (show 0 ≤ sizeLine by decide) (fun p23 H O => (have O : NF.Fz _ F H ([(p23, HO.lst [])] ++ (N7 ++ ([])) : List (Addr × HO)) := O; (have h22 : NF.RL (eStr.rep F) _ [] := .nil; (NF.x_name ?_)))))))))
      refine (NF.x_seq (NF.x_asg (NF.x_call (NF.x_cons (NF.x_var rfl (NF.x_cons (NF.x_c (NF.x_cons (NF.x_var rfl (NF.x_cons (NF.x_call (NF.x_cons (NF.x_var rfl (NF.x_cons (NF.x_c (NF.x_nil (NF.use_spWm (i := (7 : Int)) (p_pot, as_pot) (NF.Fz.sel O (NF.mvS NF.mv0) (NF.apS NF.ap0)) rfl ⟨_, rfl, _, rfl, r_pot, rfl⟩ k (fun y24 v27 F H W l0 O hP k => Exists.elim hP fun N25 hP => (have hW := hP.1; have hP := hP.2; have r_pot := hP.1; have hP := hP.2; have O := NF.Fz.reW (hW.trans (NF.reS rfl rfl)) O; (have h26 := hP; have O := NF.Fz.unsel O (NF.apS NF.ap0) (NF.mvS NF.mv0); (have O : NF.Fz _ F H ([(p23, HO.lst [])] ++ (N25 ++ ([])) : List (Addr × HO)) := O; (have h22 := h22.mono fun _ _ => Enc.mono eStr l0.le; (have lF := Ex.trans lF l0; (NF.byI v27 h26 (NF.x_nil (NF.use_spWm (i := ((Str.ofString "abcdefgh"), ([] : List Str), y24)) ((p23, [p23]), (p_pot, as_pot)) (NF.Fz.sel O (List.Perm.refl _) (NF.apS (NF.apS NF.ap0))) rfl ⟨_, _, rfl, _, _, rfl, ⟨rfl, _, rfl, h22⟩, r_pot, rfl, rfl⟩ k (fun y28 v33 F H W l0 O hP k => Exists.elim hP fun N50 hP => (Exists.elim hP fun N31 hP => (have hW := hP.1; have hP := hP.2; Exists.elim hP.1.2 fun vs29 hE => (have e30 := hE.1; have h22 := hE.2; have hP := hP.2; have r_pot := hP.1; have hP := hP.2; have O := NF.Fz.reW (hW.trans (NF.reS e30 (NF.reS rfl rfl))) O; (have h32 := hP; have O := NF.Fz.unsel O (NF.apS (NF.apS NF.ap0)) (List.Perm.refl _); (have O : NF.Fz _ F H ([(p23, HO.lst vs29)] ++ (N31 ++ ([])) : List (Addr × HO)) := O; (have lF := Ex.trans lF l0; (NF.byS v33 h32 (NF.x_name ?_)))))))))))))))))))))))))))))))))))
      refine (NF.x_seq (NF.x_asg (NF.x_call (NF.x_cons (NF.x_var rfl (NF.x_cons (NF.x_c (NF.x_cons (NF.x_var rfl (NF.x_cons (NF.x_call (NF.x_cons (NF.x_var rfl (NF.x_cons (NF.x_c (NF.x_nil (NF.use_spWm (i := (6 : Int)) (p_pot, as_pot) (NF.Fz.sel O (NF.mvS NF.mv0) (NF.apS NF.ap0)) rfl ⟨_, rfl, _, rfl, r_pot, rfl⟩ k (fun y34 v37 F H W l0 O hP k => Exists.elim hP fun N35 hP => (have hW := hP.1; have hP := hP.2; have r_pot := hP.1; have hP := hP.2; have O := NF.Fz.reW (hW.trans (NF.reS rfl rfl)) O; (have h36 := hP; have O := NF.Fz.unsel O (NF.apS NF.ap0) (NF.mvS NF.mv0); (have O : NF.Fz _ F H ([(p23, HO.lst vs29)] ++ (N35 ++ ([])) : List (Addr × HO)) := O; (have h22 := h22.mono fun _ _ => Enc.mono eStr l0.le; (have lF := Ex.trans lF l0; (NF.byI v37 h36 (NF.x_nil (NF.use_spWm (i := ((Str.ofString "abcdefgh"), y28.2, y34)) ((p23, [p23]), (p_pot, as_pot)) (NF.Fz.sel O (List.Perm.refl _) (NF.apS (NF.apS NF.ap0))) rfl ⟨_, _, rfl, _, _, rfl, ⟨rfl, _, rfl, h22⟩, r_pot, rfl, rfl⟩ k (fun y38 v43 F H W l0 O hP k => Exists.elim hP fun N49 hP => (Exists.elim hP fun N41 hP => (have hW := hP.1; have hP := hP.2; Exists.elim hP.1.2 fun vs39 hE => (have e40 := hE.1; have h22 := hE.2; have hP := hP.2; have r_pot := hP.1; have hP := hP.2; have O := NF.Fz.reW (hW.trans (NF.reS e40 (NF.reS rfl rfl))) O; (have h42 := hP; have O := NF.Fz.unsel O (NF.apS (NF.apS NF.ap0)) (List.Perm.refl _); (have O : NF.Fz _ F H ([(p23, HO.lst vs39)] ++ (N41 ++ ([])) : List (Addr × HO)) := O; (have lF := Ex.trans lF l0; (NF.byS v43 h42 (NF.x_name ?_)))))))))))))))))))))))))))))))))))
      exact (NF.x_ret (NF.x_tup (NF.x_cons (NF.x_var rfl (NF.x_cons (NF.x_op (NF.x_var rfl (NF.x_call (NF.x_cons (NF.x_var rfl (NF.x_nil (NF.y_frz O 0 rfl (fun F l0 hp O => (have O : NF.Fz _ F H (N41 ++ ([]) : List (Addr × HO)) := O; (have r_pot := Rsc.mono rBx l0.le r_pot; (have h22 := h22.mono fun _ _ => Enc.mono eStr l0.le; (have lF := Ex.trans lF l0; (have h44 : (eLst eStr).rep F (.ref p23) y38.2 := ⟨_, _, rfl, hp, h22⟩; (NF.use_spW (i := y38.2) O rfl ⟨_, rfl, h44⟩ k (fun y45 v F H l0 O hv k => NF.byS v hv (have r_pot := Rsc.mono rBx l0.le r_pot; (have h44 := Enc.mono (eLst eStr) l0.le h44; (have lF := Ex.trans lF l0; (have c46 := k.1; have k := k.2; (NF.x_addS c46 (NF.x_nil (NF.y_tup O (show 2 ≤ sizeLine by decide) (fun p48 F H hp l0 O => (have r_pot := Rsc.mono rBx l0.le r_pot; (have h44 := Enc.mono (eLst eStr) l0.le h44; (have lF := Ex.trans lF l0; (have h47 : (eP2 eStr eStr).rep F (.ref p48) (y28.1, (y38.1 ++ y45)) := ⟨_, _, _, rfl, hp, rfl, rfl⟩; (NF.ret_m (P := fun _ F _ (h : (Addr × List Addr)) W v (y : Str × Str) => ∃ N0, W = N0 ++ ([]) ∧ rBx.rep F h.1 h.2 N0 () ∧ (eP2 eStr eStr).rep F v y) (h := (p_pot, as_pot)) q (y28.1, (y38.1 ++ y45)) k O (NF.app_dom ((Rsc.dom rBx r_pot).trans d_p_pot.symm) rfl) lF ⟨_, rfl, r_pot, h47⟩)))))))))))))))))))))))))))))))))

def m_law_rows (a_menu : Str) (a_count : Int) (a_plain : Bool) : W (List (Int × Nat × Str × Int × Str × Int)) :=
  W.bind (m_law_draw (9 : Int)) fun y3 =>
  W.chk (-(2 ^ 62) ≤ y3 ∧ y3 < 2 ^ 62) <|
  W.for_ (rngT 0 y3) ([] : List (Int × Nat × Str × Int × Str × Int)) (fun (x9 : Int) (z_rows : (List (Int × Nat × Str × Int × Str × Int))) =>
  W.bind (m_law_mode a_count) fun y12 =>
  W.chk (CMul y12 (bI (decide ((0 : Int) < x9)))) <|
  W.chk (a_menu.length ≤ sizeLine) <|
  W.bind (m_law_draw (a_menu.length : Int)) fun y18 =>
  W.chk (a_menu.length ≤ sizeLine ∧ ∃ c, atI (tl a_menu) y18 = some c) <|
  W.bind (m_law_strings a_plain) fun y23 =>
  W.bind (m_law_mode a_count) fun y27 =>
  W.bind (m_law_mode a_count) fun y31 =>
  W.bind (W.comp z_rows fun x35 =>
  W.ite ((decide (x35.1 = (y12 * (bI (decide ((0 : Int) < x9)))))) && (decide ((sg x35.2.1) = (sg (cS a_menu y18))))) (W.ok (some x35))
  (W.ok none)) fun y45 =>
  W.ite (!(!y45.isEmpty)) (W.chk (z_rows.length < sizeLine) <|
  W.ok (.nx (z_rows ++ [((y12 * (bI (decide ((0 : Int) < x9)))), (cS a_menu y18), y23.1, y27, y23.2, y31)])))
  (W.ok (.nx z_rows))) (fun (z_rows : (List (Int × Nat × Str × Int × Str × Int))) =>
  W.ok z_rows)
abbrev NM_law_rows : List Str := ["pot", "menu", "count", "plain", "rows", "k", "mode", "name", "strings", "inner", "then", "row"]
theorem sc_law_rows : FnScope NM_law_rows ["pot", "menu", "count", "plain"] (defScope s_law_rows) := ⟨rfl, rfl, rfl, by decide +kernel, rfl, by decide +kernel, by decide +kernel⟩
theorem d_law_rows (F : Fn0 K mg "_law_rows" s_law_rows) (T : Txt P K mg) (D_law_draw : Def P w K mg base 1 "_law_draw" ["pot", "many"] (spWm 2 (fun F (h : (Addr × List Addr)) W vs (i : Int) => ∃ v1, vs = [.ref h.1, v1] ∧ ∃ N0, W = N0 ++ ([]) ∧ rBx.rep F h.1 h.2 N0 () ∧ eInt.rep F v1 i) (fun _ F _ (h : (Addr × List Addr)) W v (y : Int) => ∃ N0, W = N0 ++ ([]) ∧ rBx.rep F h.1 h.2 N0 () ∧ eInt.rep F v y) (fun (i : Int) => m_law_draw i))) (D_law_strings : Def P w K mg base 3 "_law_strings" ["pot", "plain"] (spWm 2 (fun F (h : (Addr × List Addr)) W vs (i : Bool) => ∃ v1, vs = [.ref h.1, v1] ∧ ∃ N0, W = N0 ++ ([]) ∧ rBx.rep F h.1 h.2 N0 () ∧ eBool.rep F v1 i) (fun _ F _ (h : (Addr × List Addr)) W v (y : Str × Str) => ∃ N0, W = N0 ++ ([]) ∧ rBx.rep F h.1 h.2 N0 () ∧ (eP2 eStr eStr).rep F v y) (fun (i : Bool) => m_law_strings i))) (D_law_mode : Def P w K mg base 2 "_law_mode" ["pot", "count"] (spWm 2 (fun F (h : (Addr × List Addr)) W vs (i : Int) => ∃ v1, vs = [.ref h.1, v1] ∧ ∃ N0, W = N0 ++ ([]) ∧ rBx.rep F h.1 h.2 N0 () ∧ eInt.rep F v1 i) (fun _ F _ (h : (Addr × List Addr)) W v (y : Int) => ∃ N0, W = N0 ++ ([]) ∧ rBx.rep F h.1 h.2 N0 () ∧ eInt.rep F v y) (fun (i : Int) => m_law_mode i))) :
    Def P w K mg base 4 "_law_rows" ["pot", "menu", "count", "plain"] (spWm 4 (fun F (h : (Addr × List Addr)) W vs (i : Str × Int × Bool) => ∃ v1 v2 v3, vs = [.ref h.1, v1, v2, v3] ∧ ∃ N0, W = N0 ++ ([]) ∧ rBx.rep F h.1 h.2 N0 () ∧ eStr.rep F v1 i.1 ∧ eInt.rep F v2 i.2.1 ∧ eBool.rep F v3 i.2.2) (fun _ F _ (h : (Addr × List Addr)) W v (y : List (Int × Nat × Str × Int × Str × Int)) => ∃ N0, W = N0 ++ ([]) ∧ rBx.rep F h.1 h.2 N0 () ∧ (eLst (eP6 eInt eChr eStr eInt eStr eInt)).rep F v y) (fun (i : Str × Int × Bool) => m_law_rows i.1 i.2.1 i.2.2)) := by
  refine Def.mk0 F sc_law_rows (by first | exact NF.hl_spW | exact NF.hl_spWb | exact NF.hl_spWX | exact NF.hl_spWm | exact NF.hl_spWo) (fun _ _ _ _ _ _ us hl => match us, hl with | [_, _, _, _], _ => rfl) (fun cdv A outer s H vs Q E hr h => ?_)
  refine ⟨_, (pss_cons (ps_set (i := 4) sc_law_rows.nd rfl (Or.inl rfl) (pe_lst pa_nil))
      (pss_cons (ps_for PassesOwn.never rfl (pi_range1 (by rfl) T.b_range (pa_cons (pe_d D_law_draw (hr.mono (by decide)) rfl (pa_cons (pv 0) (pa_cons pe_int pa_nil))) pa_nil)) (pg_name (i := 5) sc_law_rows.nd rfl (Or.inl rfl))
      (pss_cons (ps_set (i := 6) sc_law_rows.nd rfl (Or.inr rfl) (pe_op op_mul (pe_d D_law_mode (hr.mono (by decide)) rfl (pa_cons (pv 0) (pa_cons (pv 2) pa_nil))) (pe_callTy (T := "int") callInt (by rfl) T.b_int (by decide +kernel) (pa_cons (pe_cmpR op_gt (pv 5) pe_int (nomark _)) pa_nil))))
      (pss_cons (ps_set (i := 7) sc_law_rows.nd rfl (Or.inr rfl) (pe_ix ix_str (pv 1) (pe_d D_law_draw (hr.mono (by decide)) rfl (pa_cons (pv 0) (pa_cons (pe_callB (id := "len") callLen (by rfl) T.b_len (by decide +kernel) (pa_cons (pv 1) pa_nil)) pa_nil))) (fun _ _ => rfl)))
      (pss_cons (ps_set (i := 8) sc_law_rows.nd rfl (Or.inl rfl) (pe_d D_law_strings (hr.mono (by decide)) rfl (pa_cons (pv 0) (pa_cons (pv 3) pa_nil))))
      (pss_cons (ps_set (i := 9) sc_law_rows.nd rfl (Or.inl rfl) (pe_d D_law_mode (hr.mono (by decide)) rfl (pa_cons (pv 0) (pa_cons (pv 2) pa_nil))))
      (pss_cons (ps_set (i := 10) sc_law_rows.nd rfl (Or.inl rfl) (pe_d D_law_mode (hr.mono (by decide)) rfl (pa_cons (pv 0) (pa_cons (pv 2) pa_nil))))
      (pss_one (ps_if (pt_not (ptTruth (pe_lc (own := [("row", 11)]) (g := gName 11) rfl sc_law_rows.nd (pi_list (pv 4)) (blkOk_by (own := [("row", 11)]) (N := NM_law_rows) (sc := defScope s_law_rows) (by decide +kernel)) (fun _ _ _ _ _ => (pg_name (i := 11) sc_law_rows.nd rfl (Or.inl rfl))) (fun _ _ _ _ _ => pts_one (PW.pt (pw_and (pt_cmpR op_eq (pe_ix (show IxR _ (rIxT K) from ix_tup) (pv 11) pe_int (fun _ _ => rfl)) (pv 6) (nomark _)) (pw_and1 (pt_cmpR op_eq (pe_ix (show IxR _ (rIxT K) from ix_tup) (pv 11) pe_int (fun _ _ => rfl)) (pv 7) (nomark _)))))) (fun _ _ _ _ _ => (pv 11))) (by intro _; rfl)))
      (pss_one (ps_expr (pe_bm PySem.F.plainAttrs_list PySem.F.slot_list_append PySem.F.type_list_append mt_append (pv 4) (pa_cons (pe_tup (pa_cons (pv 6) (pa_cons (pv 7) (pa_cons (pe_ix ix_tup (pv 8) pe_int (fun _ _ => rfl)) (pa_cons (pv 9) (pa_cons (pe_ix ix_tup (pv 8) pe_int (fun _ _ => rfl)) (pa_cons (pv 10) pa_nil))))))) pa_nil))))
      pss_nil))))))))
      (pss_one (ps_ret (pv 4))))), ?_⟩
  try dsimp only [cxOf, Cx.nox, Cx.wish]
  obtain ⟨hl, F, ⟨p_pot, as_pot⟩, _, ⟨a_menu, a_count, a_plain⟩, K0, hF, hAt, ⟨_, _, _, rfl, N_pot, rfl, r_pot, rfl, rfl, rfl⟩, k, q⟩ := h
  have O := NF.Fz.startM hF hAt
  have O : NF.Fz _ F H (N_pot ++ ([]) : List (Addr × HO)) := O
  have lF := NF.Ex.rfl (B := dels H ((N_pot ++ ([]) : List (Addr × HO)).map Prod.fst)) (F := F)
  have d_p_pot := Rsc.dom rBx r_pot
  refine (NF.x_seq (NF.x_asg (NF.x_lst (NF.x_nil (NF.y_lstM O (show 0 ≤ sizeLine by decide) (fun p2 H O => (have O : NF.Fz _ F H ([(p2, HO.lst [])] ++ (N_pot ++ ([])) : List (Addr × HO)) := O; (have h1 : NF.RL ((eP6 eInt eChr eStr eInt eStr eInt).rep F) _ [] := .nil; (NF.x_name ?_)))))))))
  refine (NF.x_seq (NF.x_for (NF.x_jR1 (NF.x_cons (NF.x_call (NF.x_cons (NF.x_var rfl (NF.x_cons (NF.x_c (NF.x_nil (NF.use_spWm (i := (9 : Int)) (p_pot, as_pot) (NF.Fz.sel O (NF.mvS NF.mv0) (NF.apS NF.ap0)) rfl ⟨_, rfl, _, rfl, r_pot, rfl⟩ k (fun y3 v6 F H W l0 O hP k => Exists.elim hP fun N4 hP => (have hW := hP.1; have hP := hP.2; have r_pot := hP.1; have hP := hP.2; have O := NF.Fz.reW (hW.trans (NF.reS rfl rfl)) O; (have h5 := hP; have O := NF.Fz.unsel O (NF.apS NF.ap0) (NF.mvS NF.mv0); (have O : NF.Fz _ F H ([(p2, HO.lst [])] ++ (N4 ++ ([])) : List (Addr × HO)) := O; (have h1 := h1.mono fun _ _ => Enc.mono (eP6 eInt eChr eStr eInt eStr eInt) l0.le; (have lF := Ex.trans lF l0; (NF.byI v6 h5 (NF.x_nil (have c7 := k.1; have k := k.2; (NF.y_jR1 (F := F) c7 (fun J T => (NF.y_for (σt := (List (Int × Nat × Str × Int × Str × Int))) (fun (z_rows : (List (Int × Nat × Str × Int × Str × Int))) (σ : L2.St) (F : Hp) (R : List (Addr × HO)) => ∃ vs_rows : List V, ∃ u5 : Option V, ∃ u6 : Option V, ∃ u7 : Option V, ∃ u8 : Option V, ∃ u9 : Option V, ∃ u10 : Option V, ∃ M_p_pot : List (Addr × HO), σ = [some (.ref p_pot), some (.str a_menu), some (.int a_count), some (.bl a_plain), some (.ref p2), u5, u6, u7, u8, u9, u10, none] ∧ R = ([(p2, HO.lst vs_rows)] ++ (M_p_pot ++ ([])) : List (Addr × HO)) ∧ RL ((eP6 eInt eChr eStr eInt eStr eInt).rep F) vs_rows z_rows ∧ rBx.rep F p_pot as_pot M_p_pot ()) T (by rintro z_rows _ _ _ ⟨vs_rows, u5, u6, u7, u8, u9, u10, M_p_pot, rfl, rfl, r_rows, hb_p_pot⟩; first | trivial | simp) O k ⟨_, _, _, _, _, _, _, _, rfl, rfl, h1, r_pot⟩ ?_ ?_)))))))))))))))))))))))
  · rintro x9 r z_rows _ F0 F _ H v10 lp8 ⟨vs_rows, u5, u6, u7, u8, u9, u10, M_p_pot, rfl, rfl, r_rows, hb_p_pot⟩ l1 O h11 k
    have lp8 := Ex.trans lp8 l1
    have r_rows := r_rows.mono fun _ _ => Enc.mono (eP6 eInt eChr eStr eInt eStr eInt) l1.le
    have hb_p_pot := Rsc.mono rBx l1.le hb_p_pot
    have lF := Ex.trans lF lp8
    cases h11
    refine NF.x_name ?_
    refine (NF.x_seq (NF.x_asg (NF.x_op (NF.x_call (NF.x_cons (NF.x_var rfl (NF.x_cons (NF.x_var rfl (NF.x_nil (NF.use_spWm (i := a_count) (p_pot, as_pot) (NF.Fz.sel O (NF.mvS NF.mv0) (NF.apS NF.ap0)) rfl ⟨_, rfl, _, rfl, hb_p_pot, rfl⟩ k (fun y12 v15 F H W l0 O hP k => Exists.elim hP fun N13 hP => (have hW := hP.1; have hP := hP.2; have hb_p_pot := hP.1; have hP := hP.2; have O := NF.Fz.reW (hW.trans (NF.reS rfl rfl)) O; (have h14 := hP; have O := NF.Fz.unsel O (NF.apS NF.ap0) (NF.mvS NF.mv0); (have O : NF.Fz _ F H ([(p2, HO.lst vs_rows)] ++ (N13 ++ ([])) : List (Addr × HO)) := O; (have r_rows := r_rows.mono fun _ _ => Enc.mono (eP6 eInt eChr eStr eInt eStr eInt) l0.le; (have lF := Ex.trans lF l0; (have lp8 := Ex.trans lp8 l0; (NF.byI v15 h14 (NF.x_cb (NF.x_cons (NF.x_op (NF.x_var rfl (NF.x_c (NF.x_I0 (NF.x_nil (NF.x_intB (have c16 := k.1; have k := k.2; (NF.x_I c16 (NF.x_name ?_)))))))))))))))))))))))))))))
    refine (NF.x_seq (NF.x_asg (NF.x_op (NF.x_var rfl (NF.x_call (NF.x_cons (NF.x_var rfl (NF.x_cons (NF.x_cb (NF.x_cons (NF.x_var rfl (NF.x_nil (have c17 := k.1; have k := k.2; (NF.x_lenS c17 (NF.x_nil (NF.use_spWm (i := (a_menu.length : Int)) (p_pot, as_pot) (NF.Fz.sel O (NF.mvS NF.mv0) (NF.apS NF.ap0)) rfl ⟨_, rfl, _, rfl, hb_p_pot, rfl⟩ k (fun y18 v21 F H W l0 O hP k => Exists.elim hP fun N19 hP => (have hW := hP.1; have hP := hP.2; have hb_p_pot := hP.1; have hP := hP.2; have O := NF.Fz.reW (hW.trans (NF.reS rfl rfl)) O; (have h20 := hP; have O := NF.Fz.unsel O (NF.apS NF.ap0) (NF.mvS NF.mv0); (have O : NF.Fz _ F H ([(p2, HO.lst vs_rows)] ++ (N19 ++ ([])) : List (Addr × HO)) := O; (have r_rows := r_rows.mono fun _ _ => Enc.mono (eP6 eInt eChr eStr eInt eStr eInt) l0.le; (have lF := Ex.trans lF l0; (have lp8 := Ex.trans lp8 l0; (NF.byI v21 h20 (have c22 := k.1; have k := k.2; (NF.y_ixS c22.1 c22.2 (NF.x_name ?_)))))))))))))))))))))))))))
    refine (NF.x_seq (NF.x_asg (NF.x_call (NF.x_cons (NF.x_var rfl (NF.x_cons (NF.x_var rfl (NF.x_nil (NF.use_spWm (i := a_plain) (p_pot, as_pot) (NF.Fz.sel O (NF.mvS NF.mv0) (NF.apS NF.ap0)) rfl ⟨_, rfl, _, rfl, hb_p_pot, rfl⟩ k (fun y23 v26 F H W l0 O hP k => Exists.elim hP fun N24 hP => (have hW := hP.1; have hP := hP.2; have hb_p_pot := hP.1; have hP := hP.2; have O := NF.Fz.reW (hW.trans (NF.reS rfl rfl)) O; (have h25 := hP; have O := NF.Fz.unsel O (NF.apS NF.ap0) (NF.mvS NF.mv0); (have O : NF.Fz _ F H ([(p2, HO.lst vs_rows)] ++ (N24 ++ ([])) : List (Addr × HO)) := O; (have r_rows := r_rows.mono fun _ _ => Enc.mono (eP6 eInt eChr eStr eInt eStr eInt) l0.le; (have lF := Ex.trans lF l0; (have lp8 := Ex.trans lp8 l0; (NF.x_name ?_)))))))))))))))))
    refine (NF.x_seq (NF.x_asg (NF.x_call (NF.x_cons (NF.x_var rfl (NF.x_cons (NF.x_var rfl (NF.x_nil (NF.use_spWm (i := a_count) (p_pot, as_pot) (NF.Fz.sel O (NF.mvS NF.mv0) (NF.apS NF.ap0)) rfl ⟨_, rfl, _, rfl, hb_p_pot, rfl⟩ k (fun y27 v30 F H W l0 O hP k => Exists.elim hP fun N28 hP => (have hW := hP.1; have hP := hP.2; have hb_p_pot := hP.1; have hP := hP.2; have O := NF.Fz.reW (hW.trans (NF.reS rfl rfl)) O; (have h29 := hP; have O := NF.Fz.unsel O (NF.apS NF.ap0) (NF.mvS NF.mv0); (have O : NF.Fz _ F H ([(p2, HO.lst vs_rows)] ++ (N28 ++ ([])) : List (Addr × HO)) := O; (have r_rows := r_rows.mono fun _ _ => Enc.mono (eP6 eInt eChr eStr eInt eStr eInt) l0.le; (have h25 := Enc.mono (eP2 eStr eStr) l0.le h25; (have lF := Ex.trans lF l0; (have lp8 := Ex.trans lp8 l0; (NF.byI v30 h29 (NF.x_name ?_)))))))))))))))))))
    refine (NF.x_seq (NF.x_asg (NF.x_call (NF.x_cons (NF.x_var rfl (NF.x_cons (NF.x_var rfl (NF.x_nil (NF.use_spWm (i := a_count) (p_pot, as_pot) (NF.Fz.sel O (NF.mvS NF.mv0) (NF.apS NF.ap0)) rfl ⟨_, rfl, _, rfl, hb_p_pot, rfl⟩ k (fun y31 v34 F H W l0 O hP k => Exists.elim hP fun N32 hP => (have hW := hP.1; have hP := hP.2; have hb_p_pot := hP.1; have hP := hP.2; have O := NF.Fz.reW (hW.trans (NF.reS rfl rfl)) O; (have h33 := hP; have O := NF.Fz.unsel O (NF.apS NF.ap0) (NF.mvS NF.mv0); (have O : NF.Fz _ F H ([(p2, HO.lst vs_rows)] ++ (N32 ++ ([])) : List (Addr × HO)) := O; (have r_rows := r_rows.mono fun _ _ => Enc.mono (eP6 eInt eChr eStr eInt eStr eInt) l0.le; (have h25 := Enc.mono (eP2 eStr eStr) l0.le h25; (have lF := Ex.trans lF l0; (have lp8 := Ex.trans lp8 l0; (NF.byI v34 h33 (NF.x_name ?_)))))))))))))))))))
    refine (NF.x_ifs (NF.x_not (NF.x_tru (NF.x_lc (NF.x_jL (NF.x_var rfl (NF.y_jLO (O.get 0 rfl) r_rows (fun J T => (NF.y_comp (er := (eP6 eInt eChr eStr eInt eStr eInt)) (fun F R => ∃ N32 : List (Addr × HO), R = ([(p2, HO.lst vs_rows)] ++ (N32 ++ ([])) : List (Addr × HO)) ∧ rBx.rep F p_pot as_pot N32 ()) T (by rintro _ _ ⟨N32, rfl, hb_p_pot⟩; first | trivial | simp) O k.2 k.1 ⟨_, rfl, hb_p_pot⟩ (fun i x35 r pc41 acc39 at40 F0 F R H v36 hi lc38 hI ra42 hl l1 O h37 k => match R, hI, O with | _, ⟨N32, rfl, hb_p_pot⟩, O => (have O : NF.Fz _ F H ([(pc41, HO.lst acc39)] ++ [(p2, HO.lst vs_rows)] ++ (N32 ++ ([]))) := O; (have hb_p_pot := Rsc.mono rBx l1.le hb_p_pot; (have lc38 := Ex.trans lc38 l1; (have ra42 := ra42.mono fun _ _ => Enc.mono (eP6 eInt eChr eStr eInt eStr eInt) l1.le; (have r_rows := r_rows.mono fun _ _ => Enc.mono (eP6 eInt eChr eStr eInt eStr eInt) lc38.le; (have h25 := Enc.mono (eP2 eStr eStr) lc38.le h25; (have lF := Ex.trans lF lc38; (have lp8 := Ex.trans lp8 lc38; (NF.x_name ⟨NF.set_wipe _ _ _, (NF.y_andT (fun Q q => (NF.x_test (NF.x_op (NF.x_op (NF.x_var rfl (NF.x_c (NF.y_ix60 O.leF h37 (fun u hu => NF.byI u hu (NF.x_var rfl (NF.y_eqI (NF.x_bl q))))))))))) (fun g43 Q q => (NF.x_test (NF.x_op (NF.x_op (NF.x_var rfl (NF.x_c (NF.y_ix61 O.leF h37 (fun u hu => NF.byC u hu (NF.x_var rfl (NF.y_eqS (NF.x_bl q))))))))))) (NF.x_itb (fun g44 => (have k := k.1 g44; (NF.x_var rfl (NF.cE_mk (R' := [(p2, HO.lst vs_rows)] ++ (N32 ++ ([]))) hi lc38 ⟨_, rfl, hb_p_pot⟩ O ra42 hl h37 k)))) (fun g44 => (have k := k.2 g44; (NF.cN_mk (R' := [(p2, HO.lst vs_rows)] ++ (N32 ++ ([]))) lc38 ⟨_, rfl, hb_p_pot⟩ O ra42 hl k)))))⟩)))))))))) (fun p47 F R vs46 y45 H l0 hI O ra48 k => match R, hI, O with | _, ⟨N32, rfl, hb_p_pot⟩, O => (have r_rows := r_rows.mono fun _ _ => Enc.mono (eP6 eInt eChr eStr eInt eStr eInt) l0.le; (have h25 := Enc.mono (eP2 eStr eStr) l0.le h25; (have lF := Ex.trans lF l0; (have lp8 := Ex.trans lp8 l0; (NF.y_frz O 0 rfl (fun F l0 hp O => (have O : NF.Fz _ F H ([(p2, HO.lst vs_rows)] ++ (N32 ++ ([])) : List (Addr × HO)) := O; (have r_rows := r_rows.mono fun _ _ => Enc.mono (eP6 eInt eChr eStr eInt eStr eInt) l0.le; (have hb_p_pot := Rsc.mono rBx l0.le hb_p_pot; (have h25 := Enc.mono (eP2 eStr eStr) l0.le h25; (have lF := Ex.trans lF l0; (have lp8 := Ex.trans lp8 l0; (have h49 : (eLst (eP6 eInt eChr eStr eInt eStr eInt)).rep F (.ref p47) y45 := ⟨_, _, rfl, hp, ra48.mono fun _ _ => Enc.mono (eP6 eInt eChr eStr eInt eStr eInt) l0.le⟩; (NF.y_truL O.leF h49 (NF.x_itb (fun g53 => (have k := k.1 g53; ?n54)) (fun g53 => (have k := k.2 g53; ?n55)))))))))))))))))))))))))))
    case n54 =>
      refine (NF.x_drop (NF.x_bm (NF.x_var rfl (NF.x_tyL (O.get 0 rfl) (NF.x_cons (NF.x_tup (NF.x_cons (NF.x_var rfl (NF.x_cons (NF.x_var rfl (NF.x_cons (NF.x_op (NF.x_var rfl (NF.x_c (NF.y_ix20 O.leF h25 (fun u hu => NF.byS u hu (NF.x_cons (NF.x_var rfl (NF.x_cons (NF.x_op (NF.x_var rfl (NF.x_c (NF.y_ix21 O.leF h25 (fun u hu => NF.byS u hu (NF.x_cons (NF.x_var rfl (NF.x_nil (NF.y_tup O (show 6 ≤ sizeLine by decide) (fun p51 F H hp l0 O => (have r_rows := r_rows.mono fun _ _ => Enc.mono (eP6 eInt eChr eStr eInt eStr eInt) l0.le; (have hb_p_pot := Rsc.mono rBx l0.le hb_p_pot; (have h25 := Enc.mono (eP2 eStr eStr) l0.le h25; (have lF := Ex.trans lF l0; (have lp8 := Ex.trans lp8 l0; (have h50 : (eP6 eInt eChr eStr eInt eStr eInt).rep F (.ref p51) ((y12 * (bI (decide ((0 : Int) < x9)))), (cS a_menu y18), y23.1, y27, y23.2, y31) := ⟨_, _, _, _, _, _, _, rfl, hp, rfl, rfl, rfl, rfl, rfl, rfl⟩; (NF.x_nil (have c52 := k.1; have k := k.2; (NF.y_app2 O 0 rfl r_rows c52 (fun H O => (have O : NF.Fz _ F H ([(p2, HO.lst (vs_rows ++ [(.ref p51)]))] ++ (N32 ++ ([])) : List (Addr × HO)) := O; (have r_rows := NF.RL.snoc (x := ((y12 * (bI (decide ((0 : Int) < x9)))), (cS a_menu y18), y23.1, y27, y23.2, y31)) r_rows h50; ?_)))))))))))))))))))))))))))))))))))))))))
      exact ⟨(z_rows ++ [((y12 * (bI (decide ((0 : Int) < x9)))), (cS a_menu y18), y23.1, y27, y23.2, y31)]), _, _, lp8, O, ⟨_, _, _, _, _, _, _, _, rfl, rfl, r_rows, hb_p_pot⟩, k⟩
    case n55 =>
      refine NF.x_next ?_
      exact ⟨z_rows, _, _, lp8, O, ⟨_, _, _, _, _, _, _, _, rfl, rfl, r_rows, hb_p_pot⟩, k⟩
  · rintro z_rows _ F _ H l0 O ⟨vs_rows, u5, u6, u7, u8, u9, u10, M_p_pot, rfl, rfl, r_rows, hb_p_pot⟩ k
    have lF := Ex.trans lF l0
    exact (NF.x_ret (NF.x_var rfl (NF.y_frz O 0 rfl (fun F l0 hp O => (have O : NF.Fz _ F H (M_p_pot ++ ([]) : List (Addr × HO)) := O; (have r_rows := r_rows.mono fun _ _ => Enc.mono (eP6 eInt eChr eStr eInt eStr eInt) l0.le; (have hb_p_pot := Rsc.mono rBx l0.le hb_p_pot; (have lF := Ex.trans lF l0; (have h56 : (eLst (eP6 eInt eChr eStr eInt eStr eInt)).rep F (.ref p2) z_rows := ⟨_, _, rfl, hp, r_rows⟩; (NF.ret_m (P := fun _ F _ (h : (Addr × List Addr)) W v (y : List (Int × Nat × Str × Int × Str × Int)) => ∃ N0, W = N0 ++ ([]) ∧ rBx.rep F h.1 h.2 N0 () ∧ (eLst (eP6 eInt eChr eStr eInt eStr eInt)).rep F v y) (h := (p_pot, as_pot)) q z_rows k O (NF.app_dom ((Rsc.dom rBx hb_p_pot).trans d_p_pot.symm) rfl) lF ⟨_, rfl, hb_p_pot, h56⟩))))))))))

def m_law_after (a_before : Str) (a_plain : Bool) : W (Str) :=
  W.bind (m_law_opened a_before) fun y1 =>
  W.bind (m_law_draw (5 : Int)) fun y5 =>
  W.ite (a_plain || (decide ((300 : Int) < (y1.length : Int)))) (W.bind (m_law_close y1) fun y11 =>
  W.ok y11)
  (W.bind (m_law_walk (Str.ofString "abcdefgh") y1 y5) fun y12 =>
  W.bind (m_law_close y12.2) fun y19 =>
  W.chk (y12.1.length + y19.length ≤ sizeLine) <|
  W.ok (y12.1 ++ y19))
abbrev NM_law_after : List Str := ["pot", "before", "plain", "opened", "steps", "after"]
theorem sc_law_after : FnScope NM_law_after ["pot", "before", "plain"] (defScope s_law_after) := ⟨rfl, rfl, rfl, by decide +kernel, rfl, by decide +kernel, by decide +kernel⟩
theorem d_law_after (F : Fn0 K mg "_law_after" s_law_after) (T : Txt P K mg) (D_law_opened : Def P w K mg base 1 "_law_opened" ["before"] (spWo 1 (fun F vs (i : Str) => ∃ v0, vs = [v0] ∧ eStr.rep F v0 i) eStr (fun (i : Str) => m_law_opened i))) (D_law_draw : Def P w K mg base 1 "_law_draw" ["pot", "many"] (spWm 2 (fun F (h : (Addr × List Addr)) W vs (i : Int) => ∃ v1, vs = [.ref h.1, v1] ∧ ∃ N0, W = N0 ++ ([]) ∧ rBx.rep F h.1 h.2 N0 () ∧ eInt.rep F v1 i) (fun _ F _ (h : (Addr × List Addr)) W v (y : Int) => ∃ N0, W = N0 ++ ([]) ∧ rBx.rep F h.1 h.2 N0 () ∧ eInt.rep F v y) (fun (i : Int) => m_law_draw i))) (D_law_walk : Def P w K mg base 2 "_law_walk" ["pot", "menu", "opened", "steps"] (spWm 4 (fun F (h : (Addr × List Addr) × (Addr × List Addr)) W vs (i : Str × (List Str) × Int) => ∃ v1 v3, vs = [.ref h.2.1, v1, .ref h.1.1, v3] ∧ ∃ N0 N1, W = N0 ++ (N1 ++ ([])) ∧ (rLst eStr).rep F h.1.1 h.1.2 N0 i.2.1 ∧ rBx.rep F h.2.1 h.2.2 N1 () ∧ eStr.rep F v1 i.1 ∧ eInt.rep F v3 i.2.2) (fun _ F _ (h : (Addr × List Addr) × (Addr × List Addr)) W v (y : Str × (List Str)) => ∃ N0 N1, W = N0 ++ (N1 ++ ([])) ∧ (rLst eStr).rep F h.1.1 h.1.2 N0 y.2 ∧ rBx.rep F h.2.1 h.2.2 N1 () ∧ eStr.rep F v y.1) (fun (i : Str × (List Str) × Int) => m_law_walk i.1 i.2.1 i.2.2))) (D_law_close : Def P w K mg base 1 "_law_close" ["opened"] (spW 1 (fun F vs (i : (List Str)) => ∃ v0, vs = [v0] ∧ (eLst eStr).rep F v0 i) eStr (fun (i : (List Str)) => m_law_close i))) :
    Def P w K mg base 3 "_law_after" ["pot", "before", "plain"] (spWm 3 (fun F (h : (Addr × List Addr)) W vs (i : Str × Bool) => ∃ v1 v2, vs = [.ref h.1, v1, v2] ∧ ∃ N0, W = N0 ++ ([]) ∧ rBx.rep F h.1 h.2 N0 () ∧ eStr.rep F v1 i.1 ∧ eBool.rep F v2 i.2) (fun _ F _ (h : (Addr × List Addr)) W v (y : Str) => ∃ N0, W = N0 ++ ([]) ∧ rBx.rep F h.1 h.2 N0 () ∧ eStr.rep F v y) (fun (i : Str × Bool) => m_law_after i.1 i.2)) := by
  refine Def.mk0 F sc_law_after (by first | exact NF.hl_spW | exact NF.hl_spWb | exact NF.hl_spWX | exact NF.hl_spWm | exact NF.hl_spWo) (fun _ _ _ _ _ _ us hl => match us, hl with | [_, _, _], _ => rfl) (fun cdv A outer s H vs Q E hr h => ?_)
  refine ⟨_, (pss_cons (ps_set (i := 3) sc_law_after.nd rfl (Or.inl rfl) (pe_d D_law_opened (hr.mono (by decide)) rfl (pa_cons (pv 1) pa_nil)))
      (pss_cons (ps_set (i := 4) sc_law_after.nd rfl (Or.inl rfl) (pe_d D_law_draw (hr.mono (by decide)) rfl (pa_cons (pv 0) (pa_cons pe_int pa_nil))))
      (pss_cons (ps_if (PW.pt (pw_or (pt_val (pv 2)) (pw_or1 (pt_cmpR op_gt (pe_callB (id := "len") callLen (by rfl) T.b_len (by decide +kernel) (pa_cons (pv 3) pa_nil)) pe_int (nomark _)))))
      (pss_one (ps_ret (pe_d D_law_close (hr.mono (by decide)) rfl (pa_cons (pv 3) pa_nil))))
      pss_nil)
      (pss_cons (ps_set (i := 5) sc_law_after.nd rfl (Or.inl rfl) (pe_d D_law_walk (hr.mono (by decide)) rfl (pa_cons (pv 0) (pa_cons pe_str (pa_cons (pv 3) (pa_cons (pv 4) pa_nil))))))
      (pss_one (ps_ret (pe_op opAddS (pv 5) (pe_d D_law_close (hr.mono (by decide)) rfl (pa_cons (pv 3) pa_nil))))))))), ?_⟩
  try dsimp only [cxOf, Cx.nox, Cx.wish]
  obtain ⟨hl, F, ⟨p_pot, as_pot⟩, _, ⟨a_before, a_plain⟩, K0, hF, hAt, ⟨_, _, rfl, N_pot, rfl, r_pot, rfl, rfl⟩, k, q⟩ := h
  have O := NF.Fz.startM hF hAt
  have O : NF.Fz _ F H (N_pot ++ ([]) : List (Addr × HO)) := O
  have lF := NF.Ex.rfl (B := dels H ((N_pot ++ ([]) : List (Addr × HO)).map Prod.fst)) (F := F)
  have d_p_pot := Rsc.dom rBx r_pot
  refine (NF.x_seq (NF.x_asg (NF.x_call (NF.x_cons (NF.x_var rfl (NF.x_nil (NF.use_spWo (i := a_before) O rfl ⟨_, rfl, rfl⟩ k (fun y1 p2 vs3 F H l0 O ra4 k => (have O : NF.Fz _ F H ([(p2, HO.lst vs3)] ++ (N_pot ++ ([])) : List (Addr × HO)) := O; (have r_pot := Rsc.mono rBx l0.le r_pot; (have lF := Ex.trans lF l0; (NF.x_name ?_))))))))))))
  refine (NF.x_seq (NF.x_asg (NF.x_call (NF.x_cons (NF.x_var rfl (NF.x_cons (NF.x_c (NF.x_nil (NF.use_spWm (i := (5 : Int)) (p_pot, as_pot) (NF.Fz.sel O (NF.mvS NF.mv0) (NF.apS NF.ap0)) rfl ⟨_, rfl, _, rfl, r_pot, rfl⟩ k (fun y5 v8 F H W l0 O hP k => Exists.elim hP fun N6 hP => (have hW := hP.1; have hP := hP.2; have r_pot := hP.1; have hP := hP.2; have O := NF.Fz.reW (hW.trans (NF.reS rfl rfl)) O; (have h7 := hP; have O := NF.Fz.unsel O (NF.apS NF.ap0) (NF.mvS NF.mv0); (have O : NF.Fz _ F H ([(p2, HO.lst vs3)] ++ (N6 ++ ([])) : List (Addr × HO)) := O; (have ra4 := ra4.mono fun _ _ => Enc.mono eStr l0.le; (have lF := Ex.trans lF l0; (NF.byI v8 h7 (NF.x_name ?_)))))))))))))))))
  refine (NF.x_seq (NF.x_ifs (NF.y_orT (fun Q q => (NF.x_B (NF.x_var rfl (NF.x_bl q)))) (fun g9 Q q => (NF.x_test (NF.x_op (NF.x_cb (NF.x_cons (NF.x_var rfl (NF.x_nil (NF.y_lenL (NF.Fz.vl O 0 rfl) (NF.vwL O 0 rfl ra4) (NF.x_c (NF.x_I0 (NF.x_bl q))))))))))) (NF.x_itb (fun g22 => (have k := k.1 g22; ?n23)) (fun g22 => (have k := k.2 g22; ?n24))))))
  case n23 =>
    exact (NF.x_ret (NF.x_call (NF.x_cons (NF.x_var rfl (NF.x_nil (NF.y_frz O 0 rfl (fun F l0 hp O => (have O : NF.Fz _ F H (N6 ++ ([]) : List (Addr × HO)) := O; (have r_pot := Rsc.mono rBx l0.le r_pot; (have ra4 := ra4.mono fun _ _ => Enc.mono eStr l0.le; (have lF := Ex.trans lF l0; (have h10 : (eLst eStr).rep F (.ref p2) y1 := ⟨_, _, rfl, hp, ra4⟩; (NF.use_spW (i := y1) O rfl ⟨_, rfl, h10⟩ k (fun y11 v F H l0 O hv k => NF.byS v hv (have r_pot := Rsc.mono rBx l0.le r_pot; (have h10 := Enc.mono (eLst eStr) l0.le h10; (have lF := Ex.trans lF l0; (NF.ret_m (P := fun _ F _ (h : (Addr × List Addr)) W v (y : Str) => ∃ N0, W = N0 ++ ([]) ∧ rBx.rep F h.1 h.2 N0 () ∧ eStr.rep F v y) (h := (p_pot, as_pot)) q y11 k O (NF.app_dom ((Rsc.dom rBx r_pot).trans d_p_pot.symm) rfl) lF ⟨_, rfl, r_pot, rfl⟩))))))))))))))))))
  case n24 =>
    refine NF.x_next ?_
    refine (NF.x_seq (NF.x_asg (NF.x_call (NF.x_cons (NF.x_var rfl (NF.x_cons (NF.x_c (NF.x_cons (NF.x_var rfl (NF.x_cons (NF.x_var rfl (NF.x_nil (NF.use_spWm (i := ((Str.ofString "abcdefgh"), y1, y5)) ((p2, [p2]), (p_pot, as_pot)) (NF.Fz.sel O (List.Perm.refl _) (NF.apS (NF.apS NF.ap0))) rfl ⟨_, _, rfl, _, _, rfl, ⟨rfl, _, rfl, ra4⟩, r_pot, rfl, rfl⟩ k (fun y12 v17 F H W l0 O hP k => Exists.elim hP fun N21 hP => (Exists.elim hP fun N15 hP => (have hW := hP.1; have hP := hP.2; Exists.elim hP.1.2 fun vs13 hE => (have e14 := hE.1; have ra4 := hE.2; have hP := hP.2; have r_pot := hP.1; have hP := hP.2; have O := NF.Fz.reW (hW.trans (NF.reS e14 (NF.reS rfl rfl))) O; (have h16 := hP; have O := NF.Fz.unsel O (NF.apS (NF.apS NF.ap0)) (List.Perm.refl _); (have O : NF.Fz _ F H ([(p2, HO.lst vs13)] ++ (N15 ++ ([])) : List (Addr × HO)) := O; (have lF := Ex.trans lF l0; (NF.byS v17 h16 (NF.x_name ?_))))))))))))))))))))))
    exact (NF.x_ret (NF.x_op (NF.x_var rfl (NF.x_call (NF.x_cons (NF.x_var rfl (NF.x_nil (NF.y_frz O 0 rfl (fun F l0 hp O => (have O : NF.Fz _ F H (N15 ++ ([]) : List (Addr × HO)) := O; (have r_pot := Rsc.mono rBx l0.le r_pot; (have ra4 := ra4.mono fun _ _ => Enc.mono eStr l0.le; (have lF := Ex.trans lF l0; (have h18 : (eLst eStr).rep F (.ref p2) y12.2 := ⟨_, _, rfl, hp, ra4⟩; (NF.use_spW (i := y12.2) O rfl ⟨_, rfl, h18⟩ k (fun y19 v F H l0 O hv k => NF.byS v hv (have r_pot := Rsc.mono rBx l0.le r_pot; (have h18 := Enc.mono (eLst eStr) l0.le h18; (have lF := Ex.trans lF l0; (have c20 := k.1; have k := k.2; (NF.x_addS c20 (NF.ret_m (P := fun _ F _ (h : (Addr × List Addr)) W v (y : Str) => ∃ N0, W = N0 ++ ([]) ∧ rBx.rep F h.1 h.2 N0 () ∧ eStr.rep F v y) (h := (p_pot, as_pot)) q (y12.1 ++ y19) k O (NF.app_dom ((Rsc.dom rBx r_pot).trans d_p_pot.symm) rfl) lF ⟨_, rfl, r_pot, rfl⟩))))))))))))))))))))))

def m_law_extra (a_menu : Str) (a_count : Int) (a_rows : List (Int × Nat × Str × Int × Str × Int)) (a_plain : Bool) : W (List (Int × Nat × Int × Str × Int)) :=
  W.bind (W.bind (m_law_draw (4 : Int)) fun y5 =>
  W.ite (decide (y5 = (0 : Int))) (W.ok (decide (a_count < (5 : Int))))
  (W.ok false)) fun z_whole =>
  W.bind (m_law_draw (7 : Int)) fun y12 =>
  W.chk (-(2 ^ 62) ≤ y12 ∧ y12 < 2 ^ 62) <|
  W.for_ (rngT 0 y12) ([] : List (Int × Nat × Int × Str × Int)) (fun (x18 : Int) (z_extra : (List (Int × Nat × Int × Str × Int))) =>
  W.bind (m_law_mode a_count) fun y21 =>
  W.chk (a_menu.length ≤ sizeLine) <|
  W.bind (m_law_draw (a_menu.length : Int)) fun y26 =>
  W.chk (a_menu.length ≤ sizeLine ∧ ∃ c, atI (tl a_menu) y26 = some c) <|
  W.bind (m_law_draw ((3 : Int) * (if (a_rows.length : Int) > (1 : Int) then (a_rows.length : Int) else (1 : Int)))) fun y31 =>
  W.bind (β := _) (W.ite ((!a_rows.isEmpty) && (decide (y31 < ((2 : Int) * (a_rows.length : Int))))) (W.at_ a_rows (y31 / (2 : Int)) fun x38 =>
  W.at_ a_rows (y31 / (2 : Int)) fun x41 =>
  W.ok (x38.1, x41.2.1))
  (W.ok (y21, (cS a_menu y26))) : W (Int × Nat)) fun s =>
  (fun (z_mode : Int) (z_name : Nat) =>
  W.bind (m_law_before a_rows z_mode z_name) fun y47 =>
  W.bind (m_law_after y47 a_plain) fun y48 =>
  W.bind (m_law_mode a_count) fun y52 =>
  W.bind (m_law_mode a_count) fun y56 =>
  W.bind (W.ite z_whole (W.chk (-(2 ^ 62) ≤ a_count ∧ a_count < 2 ^ 62) <|
  W.bind (W.comp (rngT 0 a_count) fun x65 =>
  W.ok (some x65)) fun y73 =>
  W.ok y73)
  (W.ok [y52])) fun z_ends =>
  W.for_ z_ends z_extra (fun (x82 : Int) (z_extra : (List (Int × Nat × Int × Str × Int))) =>
  W.bind (W.comp z_extra fun x85 =>
  W.ite ((decide (x85.1 = z_mode)) && ((decide ((sg x85.2.1) = (sg z_name))) && (decide (x85.2.2.1 = x82)))) (W.ok (some x85))
  (W.ok none)) fun y96 =>
  W.ite (!(!y96.isEmpty)) (W.chk (z_extra.length < sizeLine) <|
  W.ok (.nx (z_extra ++ [(z_mode, z_name, x82, y48, y56)])))
  (W.ok (.nx z_extra))) (fun (z_extra : (List (Int × Nat × Int × Str × Int))) =>
  W.ok (.nx z_extra))) s.1 s.2) (fun (z_extra : (List (Int × Nat × Int × Str × Int))) =>
  W.ok z_extra)
abbrev NM_law_extra : List Str := ["pot", "menu", "count", "rows", "plain", "extra", "whole", "k", "mode", "name", "pick", "after", "end", "then", "ends", "one", "row"]
theorem sc_law_extra : FnScope NM_law_extra ["pot", "menu", "count", "rows", "plain"] (defScope s_law_extra) := ⟨rfl, rfl, rfl, by decide +kernel, rfl, by decide +kernel, by decide +kernel⟩
theorem d_law_extra (F : Fn0 K mg "_law_extra" s_law_extra) (T : Txt P K mg) (D_law_draw : Def P w K mg base 1 "_law_draw" ["pot", "many"] (spWm 2 (fun F (h : (Addr × List Addr)) W vs (i : Int) => ∃ v1, vs = [.ref h.1, v1] ∧ ∃ N0, W = N0 ++ ([]) ∧ rBx.rep F h.1 h.2 N0 () ∧ eInt.rep F v1 i) (fun _ F _ (h : (Addr × List Addr)) W v (y : Int) => ∃ N0, W = N0 ++ ([]) ∧ rBx.rep F h.1 h.2 N0 () ∧ eInt.rep F v y) (fun (i : Int) => m_law_draw i))) (D_law_mode : Def P w K mg base 2 "_law_mode" ["pot", "count"] (spWm 2 (fun F (h : (Addr × List Addr)) W vs (i : Int) => ∃ v1, vs = [.ref h.1, v1] ∧ ∃ N0, W = N0 ++ ([]) ∧ rBx.rep F h.1 h.2 N0 () ∧ eInt.rep F v1 i) (fun _ F _ (h : (Addr × List Addr)) W v (y : Int) => ∃ N0, W = N0 ++ ([]) ∧ rBx.rep F h.1 h.2 N0 () ∧ eInt.rep F v y) (fun (i : Int) => m_law_mode i))) (D_law_after : Def P w K mg base 3 "_law_after" ["pot", "before", "plain"] (spWm 3 (fun F (h : (Addr × List Addr)) W vs (i : Str × Bool) => ∃ v1 v2, vs = [.ref h.1, v1, v2] ∧ ∃ N0, W = N0 ++ ([]) ∧ rBx.rep F h.1 h.2 N0 () ∧ eStr.rep F v1 i.1 ∧ eBool.rep F v2 i.2) (fun _ F _ (h : (Addr × List Addr)) W v (y : Str) => ∃ N0, W = N0 ++ ([]) ∧ rBx.rep F h.1 h.2 N0 () ∧ eStr.rep F v y) (fun (i : Str × Bool) => m_law_after i.1 i.2))) (D_law_before : Def P w K mg base 1 "_law_before" ["rows", "mode", "name"] (spW 3 (fun F vs (i : (List (Int × Nat × Str × Int × Str × Int)) × Int × Nat) => ∃ v0 v1 v2, vs = [v0, v1, v2] ∧ (eLst (eP6 eInt eChr eStr eInt eStr eInt)).rep F v0 i.1 ∧ eInt.rep F v1 i.2.1 ∧ eChr.rep F v2 i.2.2) eStr (fun (i : (List (Int × Nat × Str × Int × Str × Int)) × Int × Nat) => m_law_before i.1 i.2.1 i.2.2))) :
    Def P w K mg base 4 "_law_extra" ["pot", "menu", "count", "rows", "plain"] (spWm 5 (fun F (h : (Addr × List Addr)) W vs (i : Str × Int × (List (Int × Nat × Str × Int × Str × Int)) × Bool) => ∃ v1 v2 v3 v4, vs = [.ref h.1, v1, v2, v3, v4] ∧ ∃ N0, W = N0 ++ ([]) ∧ rBx.rep F h.1 h.2 N0 () ∧ eStr.rep F v1 i.1 ∧ eInt.rep F v2 i.2.1 ∧ (eLst (eP6 eInt eChr eStr eInt eStr eInt)).rep F v3 i.2.2.1 ∧ eBool.rep F v4 i.2.2.2) (fun _ F _ (h : (Addr × List Addr)) W v (y : List (Int × Nat × Int × Str × Int)) => ∃ N0, W = N0 ++ ([]) ∧ rBx.rep F h.1 h.2 N0 () ∧ (eLst (eP5 eInt eChr eInt eStr eInt)).rep F v y) (fun (i : Str × Int × (List (Int × Nat × Str × Int × Str × Int)) × Bool) => m_law_extra i.1 i.2.1 i.2.2.1 i.2.2.2)) := by
  refine Def.mk0 F sc_law_extra (by first | exact NF.hl_spW | exact NF.hl_spWb | exact NF.hl_spWX | exact NF.hl_spWm | exact NF.hl_spWo) (fun _ _ _ _ _ _ us hl => match us, hl with | [_, _, _, _, _], _ => rfl) (fun cdv A outer s H vs Q E hr h => ?_)
  refine ⟨_, (pss_cons (ps_set (i := 5) sc_law_extra.nd rfl (Or.inl rfl) (pe_lst pa_nil))
      (Evl.pss_cut (ps_set (i := 6) sc_law_extra.nd rfl (Or.inl rfl) (pe_and (pe_cmpR op_eq (pe_d D_law_draw (hr.mono (by decide)) rfl (pa_cons (pv 0) (pa_cons pe_int pa_nil))) pe_int (nomark _)) (pe_one (pe_cmpR op_lt (pv 2) pe_int (nomark _)))))
      (pss_cons (ps_for PassesOwn.never rfl (pi_range1 (by rfl) T.b_range (pa_cons (pe_d D_law_draw (hr.mono (by decide)) rfl (pa_cons (pv 0) (pa_cons pe_int pa_nil))) pa_nil)) (pg_name (i := 7) sc_law_extra.nd rfl (Or.inl rfl))
      (pss_cons (ps_set (i := 8) sc_law_extra.nd rfl (Or.inr rfl) (pe_d D_law_mode (hr.mono (by decide)) rfl (pa_cons (pv 0) (pa_cons (pv 2) pa_nil))))
      (pss_cons (ps_set (i := 9) sc_law_extra.nd rfl (Or.inr rfl) (pe_ix ix_str (pv 1) (pe_d D_law_draw (hr.mono (by decide)) rfl (pa_cons (pv 0) (pa_cons (pe_callB (id := "len") callLen (by rfl) T.b_len (by decide +kernel) (pa_cons (pv 1) pa_nil)) pa_nil))) (fun _ _ => rfl)))
      (pss_cons (ps_set (i := 10) sc_law_extra.nd rfl (Or.inl rfl) (pe_d D_law_draw (hr.mono (by decide)) rfl (pa_cons (pv 0) (pa_cons (pe_op op_mul pe_int (pe_callB (id := "max") (callMax2 rfl) (by rfl) T.b_max (by decide +kernel) (pa_cons pe_int (pa_cons (pe_callB (id := "len") callLen (by rfl) T.b_len (by decide +kernel) (pa_cons (pv 3) pa_nil)) pa_nil)))) pa_nil))))
      (Evl.pss_cut (ps_if (PW.pt (pw_and (ptTruth (pv 3) (by intro _; rfl)) (pw_and1 (pt_cmpR op_lt (pv 10) (pe_op op_mul pe_int (pe_callB (id := "len") callLen (by rfl) T.b_len (by decide +kernel) (pa_cons (pv 3) pa_nil))) (nomark _)))))
      (pss_cons (ps_set (i := 8) sc_law_extra.nd rfl (Or.inr rfl) (pe_ix ix_tup (pe_ix ix_list (pv 3) (pe_op op_fdivW (pv 10) pe_int) (fun _ _ => rfl)) pe_int (fun _ _ => rfl)))
      (pss_one (ps_set (i := 9) sc_law_extra.nd rfl (Or.inr rfl) (pe_ix ix_tup (pe_ix ix_list (pv 3) (pe_op op_fdivW (pv 10) pe_int) (fun _ _ => rfl)) pe_int (fun _ _ => rfl)))))
      pss_nil)
      (pss_cons (ps_set (i := 11) sc_law_extra.nd rfl (Or.inl rfl) (pe_d D_law_after (hr.mono (by decide)) rfl (pa_cons (pv 0) (pa_cons (pe_d D_law_before (hr.mono (by decide)) rfl (pa_cons (pv 3) (pa_cons (pv 8) (pa_cons (pv 9) pa_nil)))) (pa_cons (pv 4) pa_nil)))))
      (pss_cons (ps_set (i := 12) sc_law_extra.nd rfl (Or.inl rfl) (pe_d D_law_mode (hr.mono (by decide)) rfl (pa_cons (pv 0) (pa_cons (pv 2) pa_nil))))
      (pss_cons (ps_set (i := 13) sc_law_extra.nd rfl (Or.inl rfl) (pe_d D_law_mode (hr.mono (by decide)) rfl (pa_cons (pv 0) (pa_cons (pv 2) pa_nil))))
      (pss_cons (ps_set (i := 14) sc_law_extra.nd rfl (Or.inl rfl) (pe_lst (pa_cons (pv 12) pa_nil)))
      (Evl.pss_cut (ps_if (pt_val (pv 6))
      (pss_one (ps_setLc (i := 14) (own := [("one", 15)]) (g := gName 15) (by rfl) sc_law_extra.nd rfl rfl (sw_true rfl rfl rfl (by decide +kernel)) (pi_range1 (by rfl) T.b_range (pa_cons (pv 2) pa_nil)) (blkOk_by (own := [("one", 15)]) (N := NM_law_extra) (sc := defScope s_law_extra) (by decide +kernel)) (fun _ _ _ _ _ => (pg_name (i := 15) sc_law_extra.nd rfl (Or.inl rfl))) (fun _ _ _ _ _ => pts_nil) (fun _ _ _ _ _ => (pv 15))))
      pss_nil)
      (pss_one (ps_for PassesOwn.never rfl (pi_list (pv 14)) (pg_name (i := 15) sc_law_extra.nd rfl (Or.inr rfl))
      (pss_one (ps_if (pt_not (ptTruth (pe_lc (own := [("row", 16)]) (g := gName 16) rfl sc_law_extra.nd (pi_list (pv 5)) (blkOk_by (own := [("row", 16)]) (N := NM_law_extra) (sc := defScope s_law_extra) (by decide +kernel)) (fun _ _ _ _ _ => (pg_name (i := 16) sc_law_extra.nd rfl (Or.inl rfl))) (fun _ _ _ _ _ => pts_one (PW.pt (pw_and (pt_cmpR op_eq (pe_ix (show IxR _ (rIxT K) from ix_tup) (pv 16) pe_int (fun _ _ => rfl)) (pv 8) (nomark _)) (pw_and (pt_cmpR op_eq (pe_ix (show IxR _ (rIxT K) from ix_tup) (pv 16) pe_int (fun _ _ => rfl)) (pv 9) (nomark _)) (pw_and1 (pt_cmpR op_eq (pe_ix (show IxR _ (rIxT K) from ix_tup) (pv 16) pe_int (fun _ _ => rfl)) (pv 15) (nomark _))))))) (fun _ _ _ _ _ => (pv 16))) (by intro _; rfl)))
      (pss_one (ps_expr (pe_bm PySem.F.plainAttrs_list PySem.F.slot_list_append PySem.F.type_list_append mt_append (pv 5) (pa_cons (pe_tup (pa_cons (pv 8) (pa_cons (pv 9) (pa_cons (pv 15) (pa_cons (pv 11) (pa_cons (pv 13) pa_nil)))))) pa_nil))))
      pss_nil))))))))))))))
      (pss_one (ps_ret (pv 5)))))), ?_⟩
  try dsimp only [cxOf, Cx.nox, Cx.wish]
  obtain ⟨hl, F, ⟨p_pot, as_pot⟩, _, ⟨a_menu, a_count, a_rows, a_plain⟩, K0, hF, hAt, ⟨_, _, v_rows, _, rfl, N_pot, rfl, r_pot, rfl, rfl, h_rows, rfl⟩, k, q⟩ := h
  have O := NF.Fz.startM hF hAt
  have O : NF.Fz _ F H (N_pot ++ ([]) : List (Addr × HO)) := O
  have lF := NF.Ex.rfl (B := dels H ((N_pot ++ ([]) : List (Addr × HO)).map Prod.fst)) (F := F)
  have d_p_pot := Rsc.dom rBx r_pot
  refine (NF.x_seq (NF.x_asg (NF.x_lst (NF.x_nil (NF.y_lstM O (show 0 ≤ sizeLine by decide) (fun p2 H O => (have O : NF.Fz _ F H ([(p2, HO.lst [])] ++ (N_pot ++ ([])) : List (Addr × HO)) := O; (have h1 : NF.RL ((eP5 eInt eChr eInt eStr eInt).rep F) _ [] := .nil; (NF.x_name ?_)))))))))
  refine NF.y_cut (fun (z_whole : Bool) (σ : L2.St) (F : Hp) (R : List (Addr × HO)) => ∃ M_p_pot : List (Addr × HO), σ = [some (.ref p_pot), some (.str a_menu), some (.int a_count), some v_rows, some (.bl a_plain), some (.ref p2), some (.bl z_whole), none, none, none, none, none, none, none, none, none, none] ∧ R = ([(p2, HO.lst [])] ++ (M_p_pot ++ ([])) : List (Addr × HO)) ∧ rBx.rep F p_pot as_pot M_p_pot ()) O k ?_ ?_
  · intro k lp3
    refine (NF.x_asg (NF.x_andV (NF.x_op (NF.x_call (NF.x_cons (NF.x_var rfl (NF.x_cons (NF.x_c (NF.x_nil (NF.use_spWm (i := (4 : Int)) (p_pot, as_pot) (NF.Fz.sel O (NF.mvS NF.mv0) (NF.apS NF.ap0)) rfl ⟨_, rfl, _, rfl, r_pot, rfl⟩ k (fun y5 v8 F H W l0 O hP k => Exists.elim hP fun N6 hP => (have hW := hP.1; have hP := hP.2; have r_pot := hP.1; have hP := hP.2; have O := NF.Fz.reW (hW.trans (NF.reS rfl rfl)) O; (have h7 := hP; have O := NF.Fz.unsel O (NF.apS NF.ap0) (NF.mvS NF.mv0); (have O : NF.Fz _ F H ([(p2, HO.lst [])] ++ (N6 ++ ([])) : List (Addr × HO)) := O; (have h_rows := Enc.mono (eLst (eP6 eInt eChr eStr eInt eStr eInt)) l0.le h_rows; (have h1 := h1.mono fun _ _ => Enc.mono (eP5 eInt eChr eInt eStr eInt) l0.le; (have lF := Ex.trans lF l0; (have lp3 := Ex.trans lp3 l0; (NF.byI v8 h7 (NF.x_c (NF.y_eqI ⟨_, rfl, (NF.x_itb (fun g9 => (have k := k.1 g9; (NF.x_op (NF.x_var rfl (NF.x_c (NF.x_I0 (NF.x_name ?n10))))))) (fun g9 => (have k := k.2 g9; (NF.x_name ?n11))))⟩)))))))))))))))))))))
    case n10 =>
      exact ⟨(decide (a_count < (5 : Int))), _, _, lp3, O, ⟨_, rfl, rfl, r_pot⟩, k⟩
    case n11 =>
      exact ⟨false, _, _, lp3, O, ⟨_, rfl, rfl, r_pot⟩, k⟩
  · rintro z_whole _ F _ H l0 O ⟨M_p_pot, rfl, rfl, hb_p_pot⟩ k
    have h_rows := Enc.mono (eLst (eP6 eInt eChr eStr eInt eStr eInt)) l0.le h_rows
    have h1 := h1.mono fun _ _ => Enc.mono (eP5 eInt eChr eInt eStr eInt) l0.le
    have lF := Ex.trans lF l0
    refine (NF.x_seq (NF.x_for (NF.x_jR1 (NF.x_cons (NF.x_call (NF.x_cons (NF.x_var rfl (NF.x_cons (NF.x_c (NF.x_nil (NF.use_spWm (i := (7 : Int)) (p_pot, as_pot) (NF.Fz.sel O (NF.mvS NF.mv0) (NF.apS NF.ap0)) rfl ⟨_, rfl, _, rfl, hb_p_pot, rfl⟩ k (fun y12 v15 F H W l0 O hP k => Exists.elim hP fun N13 hP => (have hW := hP.1; have hP := hP.2; have hb_p_pot := hP.1; have hP := hP.2; have O := NF.Fz.reW (hW.trans (NF.reS rfl rfl)) O; (have h14 := hP; have O := NF.Fz.unsel O (NF.apS NF.ap0) (NF.mvS NF.mv0); (have O : NF.Fz _ F H ([(p2, HO.lst [])] ++ (N13 ++ ([])) : List (Addr × HO)) := O; (have h_rows := Enc.mono (eLst (eP6 eInt eChr eStr eInt eStr eInt)) l0.le h_rows; (have h1 := h1.mono fun _ _ => Enc.mono (eP5 eInt eChr eInt eStr eInt) l0.le; (have lF := Ex.trans lF l0; (NF.byI v15 h14 (NF.x_nil (have c16 := k.1; have k := k.2; (NF.y_jR1 (F := F) c16 (fun J T => (NF.y_for (σt := (List (Int × Nat × Int × Str × Int))) (fun (z_extra : (List (Int × Nat × Int × Str × Int))) (σ : L2.St) (F : Hp) (R : List (Addr × HO)) => ∃ vs_extra : List V, ∃ u7 : Option V, ∃ u8 : Option V, ∃ u9 : Option V, ∃ u10 : Option V, ∃ u11 : Option V, ∃ u12 : Option V, ∃ u13 : Option V, ∃ u14 : Option V, ∃ u15 : Option V, ∃ M_p_pot : List (Addr × HO), σ = [some (.ref p_pot), some (.str a_menu), some (.int a_count), some v_rows, some (.bl a_plain), some (.ref p2), some (.bl z_whole), u7, u8, u9, u10, u11, u12, u13, u14, u15, none] ∧ R = ([(p2, HO.lst vs_extra)] ++ (M_p_pot ++ ([])) : List (Addr × HO)) ∧ RL ((eP5 eInt eChr eInt eStr eInt).rep F) vs_extra z_extra ∧ rBx.rep F p_pot as_pot M_p_pot ()) T (by rintro z_extra _ _ _ ⟨vs_extra, u7, u8, u9, u10, u11, u12, u13, u14, u15, M_p_pot, rfl, rfl, r_extra, hb_p_pot⟩; first | trivial | simp) O k ⟨_, _, _, _, _, _, _, _, _, _, _, rfl, rfl, h1, hb_p_pot⟩ ?_ ?_))))))))))))))))))))))))
    · rintro x18 r z_extra _ F0 F _ H v19 lp17 ⟨vs_extra, u7, u8, u9, u10, u11, u12, u13, u14, u15, M_p_pot, rfl, rfl, r_extra, hb_p_pot⟩ l1 O h20 k
      have lp17 := Ex.trans lp17 l1
      have h_rows := Enc.mono (eLst (eP6 eInt eChr eStr eInt eStr eInt)) lp17.le h_rows
      have r_extra := r_extra.mono fun _ _ => Enc.mono (eP5 eInt eChr eInt eStr eInt) l1.le
      have hb_p_pot := Rsc.mono rBx l1.le hb_p_pot
      have lF := Ex.trans lF lp17
      cases h20
      refine NF.x_name ?_
      refine (NF.x_seq (NF.x_asg (NF.x_call (NF.x_cons (NF.x_var rfl (NF.x_cons (NF.x_var rfl (NF.x_nil (NF.use_spWm (i := a_count) (p_pot, as_pot) (NF.Fz.sel O (NF.mvS NF.mv0) (NF.apS NF.ap0)) rfl ⟨_, rfl, _, rfl, hb_p_pot, rfl⟩ k (fun y21 v24 F H W l0 O hP k => Exists.elim hP fun N22 hP => (have hW := hP.1; have hP := hP.2; have hb_p_pot := hP.1; have hP := hP.2; have O := NF.Fz.reW (hW.trans (NF.reS rfl rfl)) O; (have h23 := hP; have O := NF.Fz.unsel O (NF.apS NF.ap0) (NF.mvS NF.mv0); (have O : NF.Fz _ F H ([(p2, HO.lst vs_extra)] ++ (N22 ++ ([])) : List (Addr × HO)) := O; (have h_rows := Enc.mono (eLst (eP6 eInt eChr eStr eInt eStr eInt)) l0.le h_rows; (have r_extra := r_extra.mono fun _ _ => Enc.mono (eP5 eInt eChr eInt eStr eInt) l0.le; (have lF := Ex.trans lF l0; (have lp17 := Ex.trans lp17 l0; (NF.byI v24 h23 (NF.x_name ?_)))))))))))))))))))
      refine (NF.x_seq (NF.x_asg (NF.x_op (NF.x_var rfl (NF.x_call (NF.x_cons (NF.x_var rfl (NF.x_cons (NF.x_cb (NF.x_cons (NF.x_var rfl (NF.x_nil (have c25 := k.1; have k := k.2; (NF.x_lenS c25 (NF.x_nil (NF.use_spWm (i := (a_menu.length : Int)) (p_pot, as_pot) (NF.Fz.sel O (NF.mvS NF.mv0) (NF.apS NF.ap0)) rfl ⟨_, rfl, _, rfl, hb_p_pot, rfl⟩ k (fun y26 v29 F H W l0 O hP k => Exists.elim hP fun N27 hP => (have hW := hP.1; have hP := hP.2; have hb_p_pot := hP.1; have hP := hP.2; have O := NF.Fz.reW (hW.trans (NF.reS rfl rfl)) O; (have h28 := hP; have O := NF.Fz.unsel O (NF.apS NF.ap0) (NF.mvS NF.mv0); (have O : NF.Fz _ F H ([(p2, HO.lst vs_extra)] ++ (N27 ++ ([])) : List (Addr × HO)) := O; (have h_rows := Enc.mono (eLst (eP6 eInt eChr eStr eInt eStr eInt)) l0.le h_rows; (have r_extra := r_extra.mono fun _ _ => Enc.mono (eP5 eInt eChr eInt eStr eInt) l0.le; (have lF := Ex.trans lF l0; (have lp17 := Ex.trans lp17 l0; (NF.byI v29 h28 (have c30 := k.1; have k := k.2; (NF.y_ixS c30.1 c30.2 (NF.x_name ?_))))))))))))))))))))))))))))
      refine (NF.x_seq (NF.x_asg (NF.x_call (NF.x_cons (NF.x_var rfl (NF.x_cons (NF.x_op (NF.x_c (NF.x_cb (NF.x_cons (NF.x_c (NF.x_cons (NF.x_cb (NF.x_cons (NF.x_var rfl (NF.x_nil (NF.y_lenL O.leF h_rows (NF.x_nil (NF.x_max2 (NF.x_I (Or.inl ⟨by decide, by decide⟩) (NF.x_nil (NF.use_spWm (i := ((3 : Int) * (if (a_rows.length : Int) > (1 : Int) then (a_rows.length : Int) else (1 : Int)))) (p_pot, as_pot) (NF.Fz.sel O (NF.mvS NF.mv0) (NF.apS NF.ap0)) rfl ⟨_, rfl, _, rfl, hb_p_pot, rfl⟩ k (fun y31 v34 F H W l0 O hP k => Exists.elim hP fun N32 hP => (have hW := hP.1; have hP := hP.2; have hb_p_pot := hP.1; have hP := hP.2; have O := NF.Fz.reW (hW.trans (NF.reS rfl rfl)) O; (have h33 := hP; have O := NF.Fz.unsel O (NF.apS NF.ap0) (NF.mvS NF.mv0); (have O : NF.Fz _ F H ([(p2, HO.lst vs_extra)] ++ (N32 ++ ([])) : List (Addr × HO)) := O; (have h_rows := Enc.mono (eLst (eP6 eInt eChr eStr eInt eStr eInt)) l0.le h_rows; (have r_extra := r_extra.mono fun _ _ => Enc.mono (eP5 eInt eChr eInt eStr eInt) l0.le; (have lF := Ex.trans lF l0; (have lp17 := Ex.trans lp17 l0; (NF.byI v34 h33 (NF.x_name ?_))))))))))))))))))))))))))))))))
      refine NF.y_cut (fun (s : Int × Nat) (σ : L2.St) (F : Hp) (R : List (Addr × HO)) => (fun (z_mode : Int) (z_name : Nat) => ∃ u11 : Option V, ∃ u12 : Option V, ∃ u13 : Option V, ∃ u14 : Option V, ∃ u15 : Option V, ∃ M_p_pot : List (Addr × HO), σ = [some (.ref p_pot), some (.str a_menu), some (.int a_count), some v_rows, some (.bl a_plain), some (.ref p2), some (.bl z_whole), some (.int x18), some (.int z_mode), some (.str (sg z_name)), some (.int y31), u11, u12, u13, u14, u15, none] ∧ R = ([(p2, HO.lst vs_extra)] ++ (M_p_pot ++ ([])) : List (Addr × HO)) ∧ rBx.rep F p_pot as_pot M_p_pot ()) s.1 s.2) O k ?_ ?_
      · intro k lp35
        refine (NF.x_ifs (NF.y_andT (fun Q q => (NF.x_tru (NF.x_var rfl (NF.y_truL O.leF h_rows q)))) (fun g37 Q q => (NF.x_test (NF.x_op (NF.x_var rfl (NF.x_op (NF.x_c (NF.x_cb (NF.x_cons (NF.x_var rfl (NF.x_nil (NF.y_lenL O.leF h_rows (NF.x_I (Or.inl ⟨by decide, by decide⟩) (NF.x_I0 (NF.x_bl q)))))))))))))) (NF.x_itb (fun g44 => (have k := k.1 g44; ?n45)) (fun g44 => (have k := k.2 g44; ?n46)))))
        case n45 =>
          refine (NF.x_seq (NF.x_asg (NF.x_op (NF.x_op (NF.x_var rfl (NF.x_op (NF.x_var rfl (NF.x_c (NF.x_I ⟨by decide, by decide +kernel⟩ (Exists.elim k fun x38 hk => (have k := hk.2; (NF.y_ixL O.leF h_rows hk.1 (fun v39 h40 => (NF.x_c (NF.y_ix60 O.leF h40 (fun u hu => NF.byI u hu (NF.x_name ?_)))))))))))))))))
          refine (NF.x_asg (NF.x_op (NF.x_op (NF.x_var rfl (NF.x_op (NF.x_var rfl (NF.x_c (NF.x_I ⟨by decide, by decide +kernel⟩ (Exists.elim k fun x41 hk => (have k := hk.2; (NF.y_ixL O.leF h_rows hk.1 (fun v42 h43 => (NF.x_c (NF.y_ix61 O.leF h43 (fun u hu => NF.byC u hu (NF.x_name ?_))))))))))))))))
          exact ⟨(x38.1, x41.2.1), _, _, lp35, O, ⟨_, _, _, _, _, _, rfl, rfl, hb_p_pot⟩, k⟩
        case n46 =>
          refine NF.x_next ?_
          exact ⟨(y21, (cS a_menu y26)), _, _, lp35, O, ⟨_, _, _, _, _, _, rfl, rfl, hb_p_pot⟩, k⟩
      · rintro ⟨z_mode, z_name⟩ _ F _ H l0 O ⟨u11, u12, u13, u14, u15, M_p_pot, rfl, rfl, hb_p_pot⟩ k
        have h_rows := Enc.mono (eLst (eP6 eInt eChr eStr eInt eStr eInt)) l0.le h_rows
        have r_extra := r_extra.mono fun _ _ => Enc.mono (eP5 eInt eChr eInt eStr eInt) l0.le
        have lF := Ex.trans lF l0
        have lp17 := Ex.trans lp17 l0
        refine (NF.x_seq (NF.x_asg (NF.x_call (NF.x_cons (NF.x_var rfl (NF.x_cons (NF.x_call (NF.x_cons (NF.x_var rfl (NF.x_cons (NF.x_var rfl (NF.x_cons (NF.x_var rfl (NF.x_nil (NF.use_spW (i := (a_rows, z_mode, z_name)) O rfl ⟨_, _, _, rfl, h_rows, rfl, rfl⟩ k (fun y47 v F H l0 O hv k => NF.byS v hv (have h_rows := Enc.mono (eLst (eP6 eInt eChr eStr eInt eStr eInt)) l0.le h_rows; (have r_extra := r_extra.mono fun _ _ => Enc.mono (eP5 eInt eChr eInt eStr eInt) l0.le; (have hb_p_pot := Rsc.mono rBx l0.le hb_p_pot; (have lF := Ex.trans lF l0; (have lp17 := Ex.trans lp17 l0; (NF.x_cons (NF.x_var rfl (NF.x_nil (NF.use_spWm (i := (y47, a_plain)) (p_pot, as_pot) (NF.Fz.sel O (NF.mvS NF.mv0) (NF.apS NF.ap0)) rfl ⟨_, _, rfl, _, rfl, hb_p_pot, rfl, rfl⟩ k (fun y48 v51 F H W l0 O hP k => Exists.elim hP fun N49 hP => (have hW := hP.1; have hP := hP.2; have hb_p_pot := hP.1; have hP := hP.2; have O := NF.Fz.reW (hW.trans (NF.reS rfl rfl)) O; (have h50 := hP; have O := NF.Fz.unsel O (NF.apS NF.ap0) (NF.mvS NF.mv0); (have O : NF.Fz _ F H ([(p2, HO.lst vs_extra)] ++ (N49 ++ ([])) : List (Addr × HO)) := O; (have h_rows := Enc.mono (eLst (eP6 eInt eChr eStr eInt eStr eInt)) l0.le h_rows; (have r_extra := r_extra.mono fun _ _ => Enc.mono (eP5 eInt eChr eInt eStr eInt) l0.le; (have lF := Ex.trans lF l0; (have lp17 := Ex.trans lp17 l0; (NF.byS v51 h50 (NF.x_name ?_)))))))))))))))))))))))))))))))))))
        refine (NF.x_seq (NF.x_asg (NF.x_call (NF.x_cons (NF.x_var rfl (NF.x_cons (NF.x_var rfl (NF.x_nil (NF.use_spWm (i := a_count) (p_pot, as_pot) (NF.Fz.sel O (NF.mvS NF.mv0) (NF.apS NF.ap0)) rfl ⟨_, rfl, _, rfl, hb_p_pot, rfl⟩ k (fun y52 v55 F H W l0 O hP k => Exists.elim hP fun N53 hP => (have hW := hP.1; have hP := hP.2; have hb_p_pot := hP.1; have hP := hP.2; have O := NF.Fz.reW (hW.trans (NF.reS rfl rfl)) O; (have h54 := hP; have O := NF.Fz.unsel O (NF.apS NF.ap0) (NF.mvS NF.mv0); (have O : NF.Fz _ F H ([(p2, HO.lst vs_extra)] ++ (N53 ++ ([])) : List (Addr × HO)) := O; (have h_rows := Enc.mono (eLst (eP6 eInt eChr eStr eInt eStr eInt)) l0.le h_rows; (have r_extra := r_extra.mono fun _ _ => Enc.mono (eP5 eInt eChr eInt eStr eInt) l0.le; (have lF := Ex.trans lF l0; (have lp17 := Ex.trans lp17 l0; (NF.byI v55 h54 (NF.x_name ?_)))))))))))))))))))
        refine (NF.x_seq (NF.x_asg (NF.x_call (NF.x_cons (NF.x_var rfl (NF.x_cons (NF.x_var rfl (NF.x_nil (NF.use_spWm (i := a_count) (p_pot, as_pot) (NF.Fz.sel O (NF.mvS NF.mv0) (NF.apS NF.ap0)) rfl ⟨_, rfl, _, rfl, hb_p_pot, rfl⟩ k (fun y56 v59 F H W l0 O hP k => Exists.elim hP fun N57 hP => (have hW := hP.1; have hP := hP.2; have hb_p_pot := hP.1; have hP := hP.2; have O := NF.Fz.reW (hW.trans (NF.reS rfl rfl)) O; (have h58 := hP; have O := NF.Fz.unsel O (NF.apS NF.ap0) (NF.mvS NF.mv0); (have O : NF.Fz _ F H ([(p2, HO.lst vs_extra)] ++ (N57 ++ ([])) : List (Addr × HO)) := O; (have h_rows := Enc.mono (eLst (eP6 eInt eChr eStr eInt eStr eInt)) l0.le h_rows; (have r_extra := r_extra.mono fun _ _ => Enc.mono (eP5 eInt eChr eInt eStr eInt) l0.le; (have lF := Ex.trans lF l0; (have lp17 := Ex.trans lp17 l0; (NF.byI v59 h58 (NF.x_name ?_)))))))))))))))))))
        refine (NF.x_seq (NF.x_asg (NF.x_lst (NF.x_cons (NF.x_var rfl (NF.x_nil (NF.y_lstF O (show 1 ≤ sizeLine by decide) (fun p61 F H hp l0 O => (have h_rows := Enc.mono (eLst (eP6 eInt eChr eStr eInt eStr eInt)) l0.le h_rows; (have r_extra := r_extra.mono fun _ _ => Enc.mono (eP5 eInt eChr eInt eStr eInt) l0.le; (have hb_p_pot := Rsc.mono rBx l0.le hb_p_pot; (have lF := Ex.trans lF l0; (have lp17 := Ex.trans lp17 l0; (have h60 : (eLst eInt).rep F (.ref p61) [y52] := ⟨_, _, rfl, hp, .cons rfl (.nil)⟩; (NF.x_name ?_)))))))))))))))
        refine NF.y_cut (fun (z_ends : (List Int)) (σ : L2.St) (F : Hp) (R : List (Addr × HO)) => ∃ v_ends : V, ∃ u15 : Option V, ∃ M_p_pot : List (Addr × HO), σ = [some (.ref p_pot), some (.str a_menu), some (.int a_count), some v_rows, some (.bl a_plain), some (.ref p2), some (.bl z_whole), some (.int x18), some (.int z_mode), some (.str (sg z_name)), some (.int y31), some (.str y48), some (.int y52), some (.int y56), some v_ends, u15, none] ∧ R = ([(p2, HO.lst vs_extra)] ++ (M_p_pot ++ ([])) : List (Addr × HO)) ∧ (eLst eInt).rep F v_ends z_ends ∧ rBx.rep F p_pot as_pot M_p_pot ()) O k ?_ ?_
        · intro k lp62
          refine (NF.x_ifs (NF.x_B (NF.x_var rfl (NF.x_bl (NF.x_itb (fun g78 => (have k := k.1 g78; ?n79)) (fun g78 => (have k := k.2 g78; ?n80)))))))
          case n79 =>
            refine (NF.x_asg (NF.x_lc (NF.x_jR1 (NF.x_cons (NF.x_var rfl (NF.x_nil (have c64 := k.1; have k := k.2; (NF.y_jR1 (F := F) c64 (fun J T => (NF.y_comp (er := eInt) (fun F R => ∃ N57 : List (Addr × HO), R = ([(p2, HO.lst vs_extra)] ++ (N57 ++ ([])) : List (Addr × HO)) ∧ rBx.rep F p_pot as_pot N57 ()) T (by rintro _ _ ⟨N57, rfl, hb_p_pot⟩; first | trivial | simp) O k.2 k.1 ⟨_, rfl, hb_p_pot⟩ (fun i x65 r pc71 acc69 at70 F0 F R H v hi lc68 hI ra72 hl l1 O hv k => match R, hI, O with | _, ⟨N57, rfl, hb_p_pot⟩, O => (have O : NF.Fz _ F H ([(pc71, HO.lst acc69)] ++ [(p2, HO.lst vs_extra)] ++ (N57 ++ ([]))) := O; (have hb_p_pot := Rsc.mono rBx l1.le hb_p_pot; (have lc68 := Ex.trans lc68 l1; (have ra72 := ra72.mono fun _ _ => Enc.mono eInt l1.le; (have h_rows := Enc.mono (eLst (eP6 eInt eChr eStr eInt eStr eInt)) lc68.le h_rows; (have r_extra := r_extra.mono fun _ _ => Enc.mono (eP5 eInt eChr eInt eStr eInt) lc68.le; (have h60 := Enc.mono (eLst eInt) lc68.le h60; (have lF := Ex.trans lF lc68; (have lp17 := Ex.trans lp17 lc68; (have lp62 := Ex.trans lp62 lc68; (NF.byI v hv (NF.x_name ⟨NF.set_wipe _ _ _, (NF.x_yes (NF.x_tt (NF.x_var rfl (NF.cE_mk (R' := [(p2, HO.lst vs_extra)] ++ (N57 ++ ([]))) hi lc68 ⟨_, rfl, hb_p_pot⟩ O ra72 hl rfl k))))⟩))))))))))))) (fun p75 F R vs74 y73 H l0 hI O ra76 k => match R, hI, O with | _, ⟨N57, rfl, hb_p_pot⟩, O => (have h_rows := Enc.mono (eLst (eP6 eInt eChr eStr eInt eStr eInt)) l0.le h_rows; (have r_extra := r_extra.mono fun _ _ => Enc.mono (eP5 eInt eChr eInt eStr eInt) l0.le; (have h60 := Enc.mono (eLst eInt) l0.le h60; (have lF := Ex.trans lF l0; (have lp17 := Ex.trans lp17 l0; (have lp62 := Ex.trans lp62 l0; (NF.y_frz O 0 rfl (fun F l0 hp O => (have O : NF.Fz _ F H ([(p2, HO.lst vs_extra)] ++ (N57 ++ ([])) : List (Addr × HO)) := O; (have h_rows := Enc.mono (eLst (eP6 eInt eChr eStr eInt eStr eInt)) l0.le h_rows; (have r_extra := r_extra.mono fun _ _ => Enc.mono (eP5 eInt eChr eInt eStr eInt) l0.le; (have hb_p_pot := Rsc.mono rBx l0.le hb_p_pot; (have h60 := Enc.mono (eLst eInt) l0.le h60; (have lF := Ex.trans lF l0; (have lp17 := Ex.trans lp17 l0; (have lp62 := Ex.trans lp62 l0; (have h77 : (eLst eInt).rep F (.ref p75) y73 := ⟨_, _, rfl, hp, ra76.mono fun _ _ => Enc.mono eInt l0.le⟩; (NF.x_name ?_)))))))))))))))))))))))))))))
            exact ⟨y73, _, _, lp62, O, ⟨_, _, _, rfl, rfl, h77, hb_p_pot⟩, k⟩
          case n80 =>
            refine NF.x_next ?_
            exact ⟨[y52], _, _, lp62, O, ⟨_, _, _, rfl, rfl, h60, hb_p_pot⟩, k⟩
        · rintro z_ends _ F _ H l0 O ⟨v_ends, u15, M_p_pot, rfl, rfl, h_ends, hb_p_pot⟩ k
          have h_rows := Enc.mono (eLst (eP6 eInt eChr eStr eInt eStr eInt)) l0.le h_rows
          have r_extra := r_extra.mono fun _ _ => Enc.mono (eP5 eInt eChr eInt eStr eInt) l0.le
          have h60 := Enc.mono (eLst eInt) l0.le h60
          have lF := Ex.trans lF l0
          have lp17 := Ex.trans lp17 l0
          refine (NF.x_for (NF.x_jL (NF.x_var rfl (NF.y_jL O.leF h_ends (fun J T => (NF.y_for (σt := (List (Int × Nat × Int × Str × Int))) (fun (z_extra : (List (Int × Nat × Int × Str × Int))) (σ : L2.St) (F : Hp) (R : List (Addr × HO)) => ∃ vs_extra : List V, ∃ u15 : Option V, ∃ M_p_pot : List (Addr × HO), σ = [some (.ref p_pot), some (.str a_menu), some (.int a_count), some v_rows, some (.bl a_plain), some (.ref p2), some (.bl z_whole), some (.int x18), some (.int z_mode), some (.str (sg z_name)), some (.int y31), some (.str y48), some (.int y52), some (.int y56), some v_ends, u15, none] ∧ R = ([(p2, HO.lst vs_extra)] ++ (M_p_pot ++ ([])) : List (Addr × HO)) ∧ RL ((eP5 eInt eChr eInt eStr eInt).rep F) vs_extra z_extra ∧ rBx.rep F p_pot as_pot M_p_pot ()) T (by rintro z_extra _ _ _ ⟨vs_extra, u15, M_p_pot, rfl, rfl, r_extra, hb_p_pot⟩; first | trivial | simp) O k ⟨_, _, _, rfl, rfl, r_extra, hb_p_pot⟩ ?_ ?_))))))
          · rintro x82 r z_extra _ F0 F _ H v83 lp81 ⟨vs_extra, u15, M_p_pot, rfl, rfl, r_extra, hb_p_pot⟩ l1 O h84 k
            have lp81 := Ex.trans lp81 l1
            have h_rows := Enc.mono (eLst (eP6 eInt eChr eStr eInt eStr eInt)) lp81.le h_rows
            have h_ends := Enc.mono (eLst eInt) lp81.le h_ends
            have r_extra := r_extra.mono fun _ _ => Enc.mono (eP5 eInt eChr eInt eStr eInt) l1.le
            have hb_p_pot := Rsc.mono rBx l1.le hb_p_pot
            have lF := Ex.trans lF lp81
            have lp17 := Ex.trans lp17 lp81
            cases h84
            refine NF.x_name ?_
            refine (NF.x_ifs (NF.x_not (NF.x_tru (NF.x_lc (NF.x_jL (NF.x_var rfl (NF.y_jLO (O.get 0 rfl) r_extra (fun J T => (NF.y_comp (er := (eP5 eInt eChr eInt eStr eInt)) (fun F R => ∃ M_p_pot : List (Addr × HO), R = ([(p2, HO.lst vs_extra)] ++ (M_p_pot ++ ([])) : List (Addr × HO)) ∧ rBx.rep F p_pot as_pot M_p_pot ()) T (by rintro _ _ ⟨M_p_pot, rfl, hb_p_pot⟩; first | trivial | simp) O k.2 k.1 ⟨_, rfl, hb_p_pot⟩ (fun i x85 r pc91 acc89 at90 F0 F R H v86 hi lc88 hI ra92 hl l1 O h87 k => match R, hI, O with | _, ⟨M_p_pot, rfl, hb_p_pot⟩, O => (have O : NF.Fz _ F H ([(pc91, HO.lst acc89)] ++ [(p2, HO.lst vs_extra)] ++ (M_p_pot ++ ([]))) := O; (have hb_p_pot := Rsc.mono rBx l1.le hb_p_pot; (have lc88 := Ex.trans lc88 l1; (have ra92 := ra92.mono fun _ _ => Enc.mono (eP5 eInt eChr eInt eStr eInt) l1.le; (have h_rows := Enc.mono (eLst (eP6 eInt eChr eStr eInt eStr eInt)) lc88.le h_rows; (have h_ends := Enc.mono (eLst eInt) lc88.le h_ends; (have r_extra := r_extra.mono fun _ _ => Enc.mono (eP5 eInt eChr eInt eStr eInt) lc88.le; (have lF := Ex.trans lF lc88; (have lp17 := Ex.trans lp17 lc88; (have lp81 := Ex.trans lp81 lc88; (NF.x_name ⟨NF.set_wipe _ _ _, (NF.y_andT (fun Q q => (NF.x_test (NF.x_op (NF.x_op (NF.x_var rfl (NF.x_c (NF.y_ix50 O.leF h87 (fun u hu => NF.byI u hu (NF.x_var rfl (NF.y_eqI (NF.x_bl q))))))))))) (fun g93 Q q => (NF.y_andT (fun Q q => (NF.x_test (NF.x_op (NF.x_op (NF.x_var rfl (NF.x_c (NF.y_ix51 O.leF h87 (fun u hu => NF.byC u hu (NF.x_var rfl (NF.y_eqS (NF.x_bl q))))))))))) (fun g94 Q q => (NF.x_test (NF.x_op (NF.x_op (NF.x_var rfl (NF.x_c (NF.y_ix52 O.leF h87 (fun u hu => NF.byI u hu (NF.x_var rfl (NF.y_eqI (NF.x_bl q))))))))))) q)) (NF.x_itb (fun g95 => (have k := k.1 g95; (NF.x_var rfl (NF.cE_mk (R' := [(p2, HO.lst vs_extra)] ++ (M_p_pot ++ ([]))) hi lc88 ⟨_, rfl, hb_p_pot⟩ O ra92 hl h87 k)))) (fun g95 => (have k := k.2 g95; (NF.cN_mk (R' := [(p2, HO.lst vs_extra)] ++ (M_p_pot ++ ([]))) lc88 ⟨_, rfl, hb_p_pot⟩ O ra92 hl k)))))⟩)))))))))))) (fun p98 F R vs97 y96 H l0 hI O ra99 k => match R, hI, O with | _, ⟨M_p_pot, rfl, hb_p_pot⟩, O => (have h_rows := Enc.mono (eLst (eP6 eInt eChr eStr eInt eStr eInt)) l0.le h_rows; (have h_ends := Enc.mono (eLst eInt) l0.le h_ends; (have r_extra := r_extra.mono fun _ _ => Enc.mono (eP5 eInt eChr eInt eStr eInt) l0.le; (have lF := Ex.trans lF l0; (have lp17 := Ex.trans lp17 l0; (have lp81 := Ex.trans lp81 l0; (NF.y_frz O 0 rfl (fun F l0 hp O => (have O : NF.Fz _ F H ([(p2, HO.lst vs_extra)] ++ (M_p_pot ++ ([])) : List (Addr × HO)) := O; (have h_rows := Enc.mono (eLst (eP6 eInt eChr eStr eInt eStr eInt)) l0.le h_rows; (have h_ends := Enc.mono (eLst eInt) l0.le h_ends; (have r_extra := r_extra.mono fun _ _ => Enc.mono (eP5 eInt eChr eInt eStr eInt) l0.le; (have hb_p_pot := Rsc.mono rBx l0.le hb_p_pot; (have lF := Ex.trans lF l0; (have lp17 := Ex.trans lp17 l0; (have lp81 := Ex.trans lp81 l0; (have h100 : (eLst (eP5 eInt eChr eInt eStr eInt)).rep F (.ref p98) y96 := ⟨_, _, rfl, hp, ra99.mono fun _ _ => Enc.mono (eP5 eInt eChr eInt eStr eInt) l0.le⟩; (NF.y_truL O.leF h100 (NF.x_itb (fun g104 => (have k := k.1 g104; ?n105)) (fun g104 => (have k := k.2 g104; ?n106)))))))))))))))))))))))))))))))
            case n105 =>
              refine (NF.x_drop (NF.x_bm (NF.x_var rfl (NF.x_tyL (O.get 0 rfl) (NF.x_cons (NF.x_tup (NF.x_cons (NF.x_var rfl (NF.x_cons (NF.x_var rfl (NF.x_cons (NF.x_var rfl (NF.x_cons (NF.x_var rfl (NF.x_cons (NF.x_var rfl (NF.x_nil (NF.y_tup O (show 5 ≤ sizeLine by decide) (fun p102 F H hp l0 O => (have h_rows := Enc.mono (eLst (eP6 eInt eChr eStr eInt eStr eInt)) l0.le h_rows; (have h_ends := Enc.mono (eLst eInt) l0.le h_ends; (have r_extra := r_extra.mono fun _ _ => Enc.mono (eP5 eInt eChr eInt eStr eInt) l0.le; (have hb_p_pot := Rsc.mono rBx l0.le hb_p_pot; (have lF := Ex.trans lF l0; (have lp17 := Ex.trans lp17 l0; (have lp81 := Ex.trans lp81 l0; (have h101 : (eP5 eInt eChr eInt eStr eInt).rep F (.ref p102) (z_mode, z_name, x82, y48, y56) := ⟨_, _, _, _, _, _, rfl, hp, rfl, rfl, rfl, rfl, rfl⟩; (NF.x_nil (have c103 := k.1; have k := k.2; (NF.y_app2 O 0 rfl r_extra c103 (fun H O => (have O : NF.Fz _ F H ([(p2, HO.lst (vs_extra ++ [(.ref p102)]))] ++ (M_p_pot ++ ([])) : List (Addr × HO)) := O; (have r_extra := NF.RL.snoc (x := (z_mode, z_name, x82, y48, y56)) r_extra h101; ?_)))))))))))))))))))))))))))))))))
              exact ⟨(z_extra ++ [(z_mode, z_name, x82, y48, y56)]), _, _, lp81, O, ⟨_, _, _, rfl, rfl, r_extra, hb_p_pot⟩, k⟩
            case n106 =>
              refine NF.x_next ?_
              exact ⟨z_extra, _, _, lp81, O, ⟨_, _, _, rfl, rfl, r_extra, hb_p_pot⟩, k⟩
          · rintro z_extra _ F _ H l0 O ⟨vs_extra, u15, M_p_pot, rfl, rfl, r_extra, hb_p_pot⟩ k
            have h_rows := Enc.mono (eLst (eP6 eInt eChr eStr eInt eStr eInt)) l0.le h_rows
            have h_ends := Enc.mono (eLst eInt) l0.le h_ends
            have lF := Ex.trans lF l0
            have lp17 := Ex.trans lp17 l0
            exact ⟨z_extra, _, _, lp17, O, ⟨_, _, _, _, _, _, _, _, _, _, _, rfl, rfl, r_extra, hb_p_pot⟩, k⟩
    · rintro z_extra _ F _ H l0 O ⟨vs_extra, u7, u8, u9, u10, u11, u12, u13, u14, u15, M_p_pot, rfl, rfl, r_extra, hb_p_pot⟩ k
      have h_rows := Enc.mono (eLst (eP6 eInt eChr eStr eInt eStr eInt)) l0.le h_rows
      have lF := Ex.trans lF l0
      exact (NF.x_ret (NF.x_var rfl (NF.y_frz O 0 rfl (fun F l0 hp O => (have O : NF.Fz _ F H (M_p_pot ++ ([]) : List (Addr × HO)) := O; (have h_rows := Enc.mono (eLst (eP6 eInt eChr eStr eInt eStr eInt)) l0.le h_rows; (have r_extra := r_extra.mono fun _ _ => Enc.mono (eP5 eInt eChr eInt eStr eInt) l0.le; (have hb_p_pot := Rsc.mono rBx l0.le hb_p_pot; (have lF := Ex.trans lF l0; (have h107 : (eLst (eP5 eInt eChr eInt eStr eInt)).rep F (.ref p2) z_extra := ⟨_, _, rfl, hp, r_extra⟩; (NF.ret_m (P := fun _ F _ (h : (Addr × List Addr)) W v (y : List (Int × Nat × Int × Str × Int)) => ∃ N0, W = N0 ++ ([]) ∧ rBx.rep F h.1 h.2 N0 () ∧ (eLst (eP5 eInt eChr eInt eStr eInt)).rep F v y) (h := (p_pot, as_pot)) q z_extra k O (NF.app_dom ((Rsc.dom rBx hb_p_pot).trans d_p_pot.symm) rfl) lF ⟨_, rfl, hb_p_pot, h107⟩)))))))))))

def m_law_piece (a_menu : Str) (a_state : (List (Int × Nat)) × Int × Int) : W (Str) :=
  W.bind (W.comp a_state.1 fun x3 =>
  W.ok (some (sg x3.2))) fun y11 =>
  W.bind (m_law_draw (7 : Int)) fun y15 =>
  W.bind (m_law_walk a_menu y11 y15) fun y19 =>
  W.bind (m_law_draw (4 : Int)) fun y25 =>
  W.ite (decide ((0 : Int) < y25)) (W.ok y19.1)
  (W.bind (m_law_draw (24 : Int)) fun y29 =>
  W.chk ((Str.ofString "iIzZ .1,ABCDEFGHABCDEFGH").length ≤ sizeLine ∧ ∃ c, atI (tl (Str.ofString "iIzZ .1,ABCDEFGHABCDEFGH")) y29 = some c) <|
  W.chk (y19.1.length + (sg (cS (Str.ofString "iIzZ .1,ABCDEFGHABCDEFGH") y29)).length ≤ sizeLine) <|
  W.bind (m_law_draw (4 : Int)) fun y35 =>
  W.bind (m_law_walk a_menu y19.2 y35) fun y39 =>
  W.chk ((y19.1 ++ (sg (cS (Str.ofString "iIzZ .1,ABCDEFGHABCDEFGH") y29))).length + y39.1.length ≤ sizeLine) <|
  W.ok ((y19.1 ++ (sg (cS (Str.ofString "iIzZ .1,ABCDEFGHABCDEFGH") y29))) ++ y39.1))
abbrev NM_law_piece : List Str := ["pot", "menu", "state", "opened", "letters", "sign", "node"]
theorem sc_law_piece : FnScope NM_law_piece ["pot", "menu", "state"] (defScope s_law_piece) := ⟨rfl, rfl, rfl, by decide +kernel, rfl, by decide +kernel, by decide +kernel⟩
theorem d_law_piece (F : Fn0 K mg "_law_piece" s_law_piece) (T : Txt P K mg) (D_law_walk : Def P w K mg base 2 "_law_walk" ["pot", "menu", "opened", "steps"] (spWm 4 (fun F (h : (Addr × List Addr) × (Addr × List Addr)) W vs (i : Str × (List Str) × Int) => ∃ v1 v3, vs = [.ref h.2.1, v1, .ref h.1.1, v3] ∧ ∃ N0 N1, W = N0 ++ (N1 ++ ([])) ∧ (rLst eStr).rep F h.1.1 h.1.2 N0 i.2.1 ∧ rBx.rep F h.2.1 h.2.2 N1 () ∧ eStr.rep F v1 i.1 ∧ eInt.rep F v3 i.2.2) (fun _ F _ (h : (Addr × List Addr) × (Addr × List Addr)) W v (y : Str × (List Str)) => ∃ N0 N1, W = N0 ++ (N1 ++ ([])) ∧ (rLst eStr).rep F h.1.1 h.1.2 N0 y.2 ∧ rBx.rep F h.2.1 h.2.2 N1 () ∧ eStr.rep F v y.1) (fun (i : Str × (List Str) × Int) => m_law_walk i.1 i.2.1 i.2.2))) (D_law_draw : Def P w K mg base 1 "_law_draw" ["pot", "many"] (spWm 2 (fun F (h : (Addr × List Addr)) W vs (i : Int) => ∃ v1, vs = [.ref h.1, v1] ∧ ∃ N0, W = N0 ++ ([]) ∧ rBx.rep F h.1 h.2 N0 () ∧ eInt.rep F v1 i) (fun _ F _ (h : (Addr × List Addr)) W v (y : Int) => ∃ N0, W = N0 ++ ([]) ∧ rBx.rep F h.1 h.2 N0 () ∧ eInt.rep F v y) (fun (i : Int) => m_law_draw i))) :
    Def P w K mg base 3 "_law_piece" ["pot", "menu", "state"] (spWm 3 (fun F (h : (Addr × List Addr)) W vs (i : Str × ((List (Int × Nat)) × Int × Int)) => ∃ v1 v2, vs = [.ref h.1, v1, v2] ∧ ∃ N0, W = N0 ++ ([]) ∧ rBx.rep F h.1 h.2 N0 () ∧ eStr.rep F v1 i.1 ∧ (eR3 "nodes" (eLst (eP2 eInt eChr)) "mode" eInt "seen" eInt).rep F v2 i.2) (fun _ F _ (h : (Addr × List Addr)) W v (y : Str) => ∃ N0, W = N0 ++ ([]) ∧ rBx.rep F h.1 h.2 N0 () ∧ eStr.rep F v y) (fun (i : Str × ((List (Int × Nat)) × Int × Int)) => m_law_piece i.1 i.2)) := by
  refine Def.mk0 F sc_law_piece (by first | exact NF.hl_spW | exact NF.hl_spWb | exact NF.hl_spWX | exact NF.hl_spWm | exact NF.hl_spWo) (fun _ _ _ _ _ _ us hl => match us, hl with | [_, _, _], _ => rfl) (fun cdv A outer s H vs Q E hr h => ?_)
  refine ⟨_, (pss_cons (ps_setLc (i := 3) (own := [("node", 6)]) (g := gName 6) (by rfl) sc_law_piece.nd rfl rfl (sw_true rfl rfl rfl (by decide +kernel)) (pi_list (pe_dget (NF.u1 hr.units) (pv 2) pe_str (fun _ _ => rfl))) (blkOk_by (own := [("node", 6)]) (N := NM_law_piece) (sc := defScope s_law_piece) (by decide +kernel)) (fun _ _ _ _ _ => (pg_name (i := 6) sc_law_piece.nd rfl (Or.inl rfl))) (fun _ _ _ _ _ => pts_nil) (fun _ _ _ _ _ => (pe_ix (show IxR _ (rIxT K) from ix_tup) (pv 6) pe_int (fun _ _ => rfl))))
      (pss_cons (ps_set (i := 4) sc_law_piece.nd rfl (Or.inl rfl) (pe_d D_law_walk (hr.mono (by decide)) rfl (pa_cons (pv 0) (pa_cons (pv 1) (pa_cons (pv 3) (pa_cons (pe_d D_law_draw (hr.mono (by decide)) rfl (pa_cons (pv 0) (pa_cons pe_int pa_nil))) pa_nil))))))
      (pss_cons (ps_if (pt_cmpR op_gt (pe_d D_law_draw (hr.mono (by decide)) rfl (pa_cons (pv 0) (pa_cons pe_int pa_nil))) pe_int (nomark _))
      (pss_one (ps_ret (pv 4)))
      pss_nil)
      (pss_cons (ps_set (i := 5) sc_law_piece.nd rfl (Or.inl rfl) (pe_ix ix_str pe_str (pe_d D_law_draw (hr.mono (by decide)) rfl (pa_cons (pv 0) (pa_cons pe_int pa_nil))) (fun _ _ => rfl)))
      (pss_one (ps_ret (pe_op opAddS (pe_op opAddS (pv 4) (pv 5)) (pe_d D_law_walk (hr.mono (by decide)) rfl (pa_cons (pv 0) (pa_cons (pv 1) (pa_cons (pv 3) (pa_cons (pe_d D_law_draw (hr.mono (by decide)) rfl (pa_cons (pv 0) (pa_cons pe_int pa_nil))) pa_nil)))))))))))), ?_⟩
  try dsimp only [cxOf, Cx.nox, Cx.wish]
  obtain ⟨hl, F, ⟨p_pot, as_pot⟩, _, ⟨a_menu, a_state⟩, K0, hF, hAt, ⟨_, v_state, rfl, N_pot, rfl, r_pot, rfl, h_state⟩, k, q⟩ := h
  have O := NF.Fz.startM hF hAt
  have O : NF.Fz _ F H (N_pot ++ ([]) : List (Addr × HO)) := O
  have lF := NF.Ex.rfl (B := dels H ((N_pot ++ ([]) : List (Addr × HO)).map Prod.fst)) (F := F)
  have d_p_pot := Rsc.dom rBx r_pot
  refine (NF.x_seq (NF.x_asg (NF.x_lc (NF.x_jL (NF.x_dget (NF.x_var rfl (NF.x_c (NF.y_rix30 O.leF h_state (fun _ _ _ => rfl) (fun v1 h2 => (NF.y_jL O.leF h2 (fun J T => (NF.y_comp (er := eStr) (fun F R => ∃ N_pot : List (Addr × HO), R = (N_pot ++ ([]) : List (Addr × HO)) ∧ rBx.rep F p_pot as_pot N_pot ()) T (by rintro _ _ ⟨N_pot, rfl, r_pot⟩; first | trivial | simp) O k.2 k.1 ⟨_, rfl, r_pot⟩ (fun i x3 r pc9 acc7 at8 F0 F R H v4 hi lc6 hI ra10 hl l1 O h5 k => match R, hI, O with | _, ⟨N_pot, rfl, r_pot⟩, O => (have O : NF.Fz _ F H ([(pc9, HO.lst acc7)] ++ N_pot ++ ([])) := O; (have r_pot := Rsc.mono rBx l1.le r_pot; (have lc6 := Ex.trans lc6 l1; (have ra10 := ra10.mono fun _ _ => Enc.mono eStr l1.le; (have h_state := Enc.mono (eR3 "nodes" (eLst (eP2 eInt eChr)) "mode" eInt "seen" eInt) lc6.le h_state; (have h2 := Enc.mono (eLst (eP2 eInt eChr)) lc6.le h2; (have lF := Ex.trans lF lc6; (NF.x_name ⟨NF.set_wipe _ _ _, (NF.x_yes (NF.x_tt (NF.x_op (NF.x_var rfl (NF.x_c (NF.y_ix21 O.leF h5 (fun u hu => NF.byC u hu (NF.cE_mk (R' := N_pot ++ ([])) hi lc6 ⟨_, rfl, r_pot⟩ O ra10 hl rfl k))))))))⟩))))))))) (fun p13 F R vs12 y11 H l0 hI O ra14 k => match R, hI, O with | _, ⟨N_pot, rfl, r_pot⟩, O => (have O : NF.Fz _ F H ([(p13, HO.lst vs12)] ++ (N_pot ++ ([])) : List (Addr × HO)) := O; (have h_state := Enc.mono (eR3 "nodes" (eLst (eP2 eInt eChr)) "mode" eInt "seen" eInt) l0.le h_state; (have h2 := Enc.mono (eLst (eP2 eInt eChr)) l0.le h2; (have lF := Ex.trans lF l0; (NF.x_name ?_))))))))))))))))))
  refine (NF.x_seq (NF.x_asg (NF.x_call (NF.x_cons (NF.x_var rfl (NF.x_cons (NF.x_var rfl (NF.x_cons (NF.x_var rfl (NF.x_cons (NF.x_call (NF.x_cons (NF.x_var rfl (NF.x_cons (NF.x_c (NF.x_nil (NF.use_spWm (i := (7 : Int)) (p_pot, as_pot) (NF.Fz.sel O (NF.mvS NF.mv0) (NF.apS NF.ap0)) rfl ⟨_, rfl, _, rfl, r_pot, rfl⟩ k (fun y15 v18 F H W l0 O hP k => Exists.elim hP fun N16 hP => (have hW := hP.1; have hP := hP.2; have r_pot := hP.1; have hP := hP.2; have O := NF.Fz.reW (hW.trans (NF.reS rfl rfl)) O; (have h17 := hP; have O := NF.Fz.unsel O (NF.apS NF.ap0) (NF.mvS NF.mv0); (have O : NF.Fz _ F H ([(p13, HO.lst vs12)] ++ (N16 ++ ([])) : List (Addr × HO)) := O; (have h_state := Enc.mono (eR3 "nodes" (eLst (eP2 eInt eChr)) "mode" eInt "seen" eInt) l0.le h_state; (have ra14 := ra14.mono fun _ _ => Enc.mono eStr l0.le; (have lF := Ex.trans lF l0; (NF.byI v18 h17 (NF.x_nil (NF.use_spWm (i := (a_menu, y11, y15)) ((p13, [p13]), (p_pot, as_pot)) (NF.Fz.sel O (List.Perm.refl _) (NF.apS (NF.apS NF.ap0))) rfl ⟨_, _, rfl, _, _, rfl, ⟨rfl, _, rfl, ra14⟩, r_pot, rfl, rfl⟩ k (fun y19 v24 F H W l0 O hP k => Exists.elim hP fun N50 hP => (Exists.elim hP fun N22 hP => (have hW := hP.1; have hP := hP.2; Exists.elim hP.1.2 fun vs20 hE => (have e21 := hE.1; have ra14 := hE.2; have hP := hP.2; have r_pot := hP.1; have hP := hP.2; have O := NF.Fz.reW (hW.trans (NF.reS e21 (NF.reS rfl rfl))) O; (have h23 := hP; have O := NF.Fz.unsel O (NF.apS (NF.apS NF.ap0)) (List.Perm.refl _); (have O : NF.Fz _ F H ([(p13, HO.lst vs20)] ++ (N22 ++ ([])) : List (Addr × HO)) := O; (have h_state := Enc.mono (eR3 "nodes" (eLst (eP2 eInt eChr)) "mode" eInt "seen" eInt) l0.le h_state; (have lF := Ex.trans lF l0; (NF.byS v24 h23 (NF.x_name ?_)))))))))))))))))))))))))))))))))))))
  refine (NF.x_seq (NF.x_ifs (NF.x_test (NF.x_op (NF.x_call (NF.x_cons (NF.x_var rfl (NF.x_cons (NF.x_c (NF.x_nil (NF.use_spWm (i := (4 : Int)) (p_pot, as_pot) (NF.Fz.sel O (NF.mvS NF.mv0) (NF.apS NF.ap0)) rfl ⟨_, rfl, _, rfl, r_pot, rfl⟩ k (fun y25 v28 F H W l0 O hP k => Exists.elim hP fun N26 hP => (have hW := hP.1; have hP := hP.2; have r_pot := hP.1; have hP := hP.2; have O := NF.Fz.reW (hW.trans (NF.reS rfl rfl)) O; (have h27 := hP; have O := NF.Fz.unsel O (NF.apS NF.ap0) (NF.mvS NF.mv0); (have O : NF.Fz _ F H ([(p13, HO.lst vs20)] ++ (N26 ++ ([])) : List (Addr × HO)) := O; (have h_state := Enc.mono (eR3 "nodes" (eLst (eP2 eInt eChr)) "mode" eInt "seen" eInt) l0.le h_state; (have ra14 := ra14.mono fun _ _ => Enc.mono eStr l0.le; (have lF := Ex.trans lF l0; (NF.byI v28 h27 (NF.x_c (NF.x_I0 (NF.x_bl (NF.x_itb (fun g47 => (have k := k.1 g47; ?n48)) (fun g47 => (have k := k.2 g47; ?n49)))))))))))))))))))))))))
  case n48 =>
    exact (NF.x_ret (NF.x_var rfl (NF.ret_m (P := fun _ F _ (h : (Addr × List Addr)) W v (y : Str) => ∃ N0, W = N0 ++ ([]) ∧ rBx.rep F h.1 h.2 N0 () ∧ eStr.rep F v y) (h := (p_pot, as_pot)) q y19.1 k (NF.Fz.sub (NF.Fz.perm O (NF.mvS NF.mv0)) (NF.sbS NF.sb0)) (NF.app_dom ((Rsc.dom rBx r_pot).trans d_p_pot.symm) rfl) lF ⟨_, rfl, r_pot, rfl⟩)))
  case n49 =>
    refine NF.x_next ?_
    refine (NF.x_seq (NF.x_asg (NF.x_op (NF.x_c (NF.x_call (NF.x_cons (NF.x_var rfl (NF.x_cons (NF.x_c (NF.x_nil (NF.use_spWm (i := (24 : Int)) (p_pot, as_pot) (NF.Fz.sel O (NF.mvS NF.mv0) (NF.apS NF.ap0)) rfl ⟨_, rfl, _, rfl, r_pot, rfl⟩ k (fun y29 v32 F H W l0 O hP k => Exists.elim hP fun N30 hP => (have hW := hP.1; have hP := hP.2; have r_pot := hP.1; have hP := hP.2; have O := NF.Fz.reW (hW.trans (NF.reS rfl rfl)) O; (have h31 := hP; have O := NF.Fz.unsel O (NF.apS NF.ap0) (NF.mvS NF.mv0); (have O : NF.Fz _ F H ([(p13, HO.lst vs20)] ++ (N30 ++ ([])) : List (Addr × HO)) := O; (have h_state := Enc.mono (eR3 "nodes" (eLst (eP2 eInt eChr)) "mode" eInt "seen" eInt) l0.le h_state; (have ra14 := ra14.mono fun _ _ => Enc.mono eStr l0.le; (have lF := Ex.trans lF l0; (NF.byI v32 h31 (have c33 := k.1; have k := k.2; (NF.y_ixS c33.1 c33.2 (NF.x_name ?_))))))))))))))))))))))
    exact (NF.x_ret (NF.x_op (NF.x_op (NF.x_var rfl (NF.x_var rfl (have c34 := k.1; have k := k.2; (NF.x_addS c34 (NF.x_call (NF.x_cons (NF.x_var rfl (NF.x_cons (NF.x_var rfl (NF.x_cons (NF.x_var rfl (NF.x_cons (NF.x_call (NF.x_cons (NF.x_var rfl (NF.x_cons (NF.x_c (NF.x_nil (NF.use_spWm (i := (4 : Int)) (p_pot, as_pot) (NF.Fz.sel O (NF.mvS NF.mv0) (NF.apS NF.ap0)) rfl ⟨_, rfl, _, rfl, r_pot, rfl⟩ k (fun y35 v38 F H W l0 O hP k => Exists.elim hP fun N36 hP => (have hW := hP.1; have hP := hP.2; have r_pot := hP.1; have hP := hP.2; have O := NF.Fz.reW (hW.trans (NF.reS rfl rfl)) O; (have h37 := hP; have O := NF.Fz.unsel O (NF.apS NF.ap0) (NF.mvS NF.mv0); (have O : NF.Fz _ F H ([(p13, HO.lst vs20)] ++ (N36 ++ ([])) : List (Addr × HO)) := O; (have h_state := Enc.mono (eR3 "nodes" (eLst (eP2 eInt eChr)) "mode" eInt "seen" eInt) l0.le h_state; (have ra14 := ra14.mono fun _ _ => Enc.mono eStr l0.le; (have lF := Ex.trans lF l0; (NF.byI v38 h37 (NF.x_nil (NF.use_spWm (i := (a_menu, y19.2, y35)) ((p13, [p13]), (p_pot, as_pot)) (NF.Fz.sel O (List.Perm.refl _) (NF.apS (NF.apS NF.ap0))) rfl ⟨_, _, rfl, _, _, rfl, ⟨rfl, _, rfl, ra14⟩, r_pot, rfl, rfl⟩ k (fun y39 v44 F H W l0 O hP k => Exists.elim hP fun N46 hP => (Exists.elim hP fun N42 hP => (have hW := hP.1; have hP := hP.2; Exists.elim hP.1.2 fun vs40 hE => (have e41 := hE.1; have ra14 := hE.2; have hP := hP.2; have r_pot := hP.1; have hP := hP.2; have O := NF.Fz.reW (hW.trans (NF.reS e41 (NF.reS rfl rfl))) O; (have h43 := hP; have O := NF.Fz.unsel O (NF.apS (NF.apS NF.ap0)) (List.Perm.refl _); (have O : NF.Fz _ F H ([(p13, HO.lst vs40)] ++ (N42 ++ ([])) : List (Addr × HO)) := O; (have h_state := Enc.mono (eR3 "nodes" (eLst (eP2 eInt eChr)) "mode" eInt "seen" eInt) l0.le h_state; (have lF := Ex.trans lF l0; (NF.byS v44 h43 (have c45 := k.1; have k := k.2; (NF.x_addS c45 (NF.ret_m (P := fun _ F _ (h : (Addr × List Addr)) W v (y : Str) => ∃ N0, W = N0 ++ ([]) ∧ rBx.rep F h.1 h.2 N0 () ∧ eStr.rep F v y) (h := (p_pot, as_pot)) q ((y19.1 ++ (sg (cS (Str.ofString "iIzZ .1,ABCDEFGHABCDEFGH") y29))) ++ y39.1) k (NF.Fz.sub (NF.Fz.perm O (NF.mvS NF.mv0)) (NF.sbS NF.sb0)) (NF.app_dom ((Rsc.dom rBx r_pot).trans d_p_pot.symm) rfl) lF ⟨_, rfl, r_pot, rfl⟩))))))))))))))))))))))))))))))))))))))))))))

def m_law_long (a_menu : Str) : W (Str) :=
  W.chk (a_menu.length ≤ sizeLine ∧ ∃ c, atI (tl a_menu) (0 : Int) = some c) <|
  W.bind (m_law_draw (600 : Int)) fun y2 =>
  W.bind (m_law_draw (2 : Int)) fun y6 =>
  W.ite (decide (y6 = (0 : Int))) (W.chk (MulOk (sg (cS a_menu (0 : Int))) ((601 : Int) + y2)) <|
  W.ok (Txt.mul (sg (cS a_menu (0 : Int))) ((601 : Int) + y2)))
  (W.chk ((sg (cS a_menu (0 : Int))).length ≤ 5592405) <|
  W.chk ((sg (cS a_menu (0 : Int))).length + (Txt.upper (sg (cS a_menu (0 : Int)))).length ≤ sizeLine) <|
  W.chk (MulOk ((sg (cS a_menu (0 : Int))) ++ (Txt.upper (sg (cS a_menu (0 : Int))))) ((601 : Int) + y2)) <|
  W.ok (Txt.mul ((sg (cS a_menu (0 : Int))) ++ (Txt.upper (sg (cS a_menu (0 : Int))))) ((601 : Int) + y2)))
abbrev NM_law_long : List Str := ["pot", "menu", "name", "many"]
theorem sc_law_long : FnScope NM_law_long ["pot", "menu"] (defScope s_law_long) := ⟨rfl, rfl, rfl, by decide +kernel, rfl, by decide +kernel, by decide +kernel⟩
theorem d_law_long (F : Fn0 K mg "_law_long" s_law_long) (T : Txt P K mg) (D_law_draw : Def P w K mg base 1 "_law_draw" ["pot", "many"] (spWm 2 (fun F (h : (Addr × List Addr)) W vs (i : Int) => ∃ v1, vs = [.ref h.1, v1] ∧ ∃ N0, W = N0 ++ ([]) ∧ rBx.rep F h.1 h.2 N0 () ∧ eInt.rep F v1 i) (fun _ F _ (h : (Addr × List Addr)) W v (y : Int) => ∃ N0, W = N0 ++ ([]) ∧ rBx.rep F h.1 h.2 N0 () ∧ eInt.rep F v y) (fun (i : Int) => m_law_draw i))) :
    Def P w K mg base 2 "_law_long" ["pot", "menu"] (spWm 2 (fun F (h : (Addr × List Addr)) W vs (i : Str) => ∃ v1, vs = [.ref h.1, v1] ∧ ∃ N0, W = N0 ++ ([]) ∧ rBx.rep F h.1 h.2 N0 () ∧ eStr.rep F v1 i) (fun _ F _ (h : (Addr × List Addr)) W v (y : Str) => ∃ N0, W = N0 ++ ([]) ∧ rBx.rep F h.1 h.2 N0 () ∧ eStr.rep F v y) (fun (i : Str) => m_law_long i)) := by
  refine Def.mk0 F sc_law_long (by first | exact NF.hl_spW | exact NF.hl_spWb | exact NF.hl_spWX | exact NF.hl_spWm | exact NF.hl_spWo) (fun _ _ _ _ _ _ us hl => match us, hl with | [_, _], _ => rfl) (fun cdv A outer s H vs Q E hr h => ?_)
  refine ⟨_, (pss_cons (ps_set (i := 2) sc_law_long.nd rfl (Or.inl rfl) (pe_ix ix_str (pv 1) pe_int (fun _ _ => rfl)))
      (pss_cons (ps_set (i := 3) sc_law_long.nd rfl (Or.inl rfl) (pe_op op_add pe_int (pe_d D_law_draw (hr.mono (by decide)) rfl (pa_cons (pv 0) (pa_cons pe_int pa_nil)))))
      (pss_cons (ps_if (pt_cmpR op_eq (pe_d D_law_draw (hr.mono (by decide)) rfl (pa_cons (pv 0) (pa_cons pe_int pa_nil))) pe_int (nomark _))
      (pss_one (ps_ret (pe_op opMulS (pv 2) (pv 3))))
      pss_nil)
      (pss_one (ps_ret (pe_op opMulS (pe_op opAddS (pv 2) (pe_bm0 PySem.F.plainAttrs_str PySem.F.slot_str_upper PySem.F.type_str_upper mtUpper (pv 2))) (pv 3))))))), ?_⟩
  try dsimp only [cxOf, Cx.nox, Cx.wish]
  obtain ⟨hl, F, ⟨p_pot, as_pot⟩, _, a_menu, K0, hF, hAt, ⟨_, rfl, N_pot, rfl, r_pot, rfl⟩, k, q⟩ := h
  have O := NF.Fz.startM hF hAt
  have O : NF.Fz _ F H (N_pot ++ ([]) : List (Addr × HO)) := O
  have lF := NF.Ex.rfl (B := dels H ((N_pot ++ ([]) : List (Addr × HO)).map Prod.fst)) (F := F)
  have d_p_pot := Rsc.dom rBx r_pot
  refine (NF.x_seq (NF.x_asg (NF.x_op (NF.x_var rfl (NF.x_c (have c1 := k.1; have k := k.2; (NF.y_ixS c1.1 c1.2 (NF.x_name ?_))))))))
  refine (NF.x_seq (NF.x_asg (NF.x_op (NF.x_c (NF.x_call (NF.x_cons (NF.x_var rfl (NF.x_cons (NF.x_c (NF.x_nil (NF.use_spWm (i := (600 : Int)) (p_pot, as_pot) (NF.Fz.sel O (List.Perm.refl _) (NF.apS NF.ap0)) rfl ⟨_, rfl, _, rfl, r_pot, rfl⟩ k (fun y2 v5 F H W l0 O hP k => Exists.elim hP fun N3 hP => (have hW := hP.1; have hP := hP.2; have r_pot := hP.1; have hP := hP.2; have O := NF.Fz.reW (hW.trans (NF.reS rfl rfl)) O; (have h4 := hP; have O := NF.Fz.unsel O (NF.apS NF.ap0) (List.Perm.refl _); (have O : NF.Fz _ F H (N3 ++ ([]) : List (Addr × HO)) := O; (have lF := Ex.trans lF l0; (NF.byI v5 h4 (NF.x_I0 (NF.x_name ?_)))))))))))))))))))
  refine (NF.x_seq (NF.x_ifs (NF.x_test (NF.x_op (NF.x_call (NF.x_cons (NF.x_var rfl (NF.x_cons (NF.x_c (NF.x_nil (NF.use_spWm (i := (2 : Int)) (p_pot, as_pot) (NF.Fz.sel O (List.Perm.refl _) (NF.apS NF.ap0)) rfl ⟨_, rfl, _, rfl, r_pot, rfl⟩ k (fun y6 v9 F H W l0 O hP k => Exists.elim hP fun N7 hP => (have hW := hP.1; have hP := hP.2; have r_pot := hP.1; have hP := hP.2; have O := NF.Fz.reW (hW.trans (NF.reS rfl rfl)) O; (have h8 := hP; have O := NF.Fz.unsel O (NF.apS NF.ap0) (List.Perm.refl _); (have O : NF.Fz _ F H (N7 ++ ([]) : List (Addr × HO)) := O; (have lF := Ex.trans lF l0; (NF.byI v9 h8 (NF.x_c (NF.y_eqI (NF.x_bl (NF.x_itb (fun g14 => (have k := k.1 g14; ?n15)) (fun g14 => (have k := k.2 g14; ?n16)))))))))))))))))))))))
  case n15 =>
    exact (NF.x_ret (NF.x_op (NF.x_var rfl (NF.x_var rfl (have c10 := k.1; have k := k.2; (NF.y_mulS c10 (NF.ret_m (P := fun _ F _ (h : (Addr × List Addr)) W v (y : Str) => ∃ N0, W = N0 ++ ([]) ∧ rBx.rep F h.1 h.2 N0 () ∧ eStr.rep F v y) (h := (p_pot, as_pot)) q (Txt.mul (sg (cS a_menu (0 : Int))) ((601 : Int) + y2)) k O (NF.app_dom ((Rsc.dom rBx r_pot).trans d_p_pot.symm) rfl) lF ⟨_, rfl, r_pot, rfl⟩)))))))
  case n16 =>
    refine NF.x_next ?_
    exact (NF.x_ret (NF.x_op (NF.x_op (NF.x_var rfl (NF.x_bm0 (NF.x_var rfl (NF.x_tyS (have c11 := k.1; have k := k.2; (NF.x_upper c11 (have c12 := k.1; have k := k.2; (NF.x_addS c12 (NF.x_var rfl (have c13 := k.1; have k := k.2; (NF.y_mulS c13 (NF.ret_m (P := fun _ F _ (h : (Addr × List Addr)) W v (y : Str) => ∃ N0, W = N0 ++ ([]) ∧ rBx.rep F h.1 h.2 N0 () ∧ eStr.rep F v y) (h := (p_pot, as_pot)) q (Txt.mul ((sg (cS a_menu (0 : Int))) ++ (Txt.upper (sg (cS a_menu (0 : Int))))) ((601 : Int) + y2)) k O (NF.app_dom ((Rsc.dom rBx r_pot).trans d_p_pot.symm) rfl) lF ⟨_, rfl, r_pot, rfl⟩)))))))))))))))


/-! rewritings: an object whose fields stay -/
abbrev RwM := Int × List ((Int × Nat) × (Str × Int)) × List ((Int × Nat × Int) × (Str × Int))
def eRw (mg : Str → Option Value) : Enc RwM := ⟨fun F v x => ∃ a dx v1 v2, v = .ref a ∧ F a = some (.ins (cad mg "Rewriting") dx [("_modes", .int x.1), ("_opening_rules", v1), ("_closing_rules", v2)]) ∧ (eDT kIC (eP2 eStr eInt)).rep F v1 x.2.1 ∧ (eDT kICI (eP2 eStr eInt)).rep F v2 x.2.2,
  fun l ⟨a, dx, v1, v2, h, h0, h1, h2⟩ => ⟨a, dx, v1, v2, h, l _ _ h0, Enc.mono _ l h1, Enc.mono _ l h2⟩⟩
def m_opening_of (r : RwM) (mode : Int) (name : Nat) : W (Str × Int) := W.get r.2.1 (mode, name) W.ok
def m_closing_of (r : RwM) (mode : Int) (name : Nat) (e : Int) : W (Str × Int) := W.get r.2.2 (mode, name, e) W.ok
abbrev NM_opening_of : List Str := ["rewriting", "mode", "name"]
theorem sc_opening_of : FnScope NM_opening_of ["rewriting", "mode", "name"] (defScope s_opening_of) := ⟨rfl, rfl, rfl, by decide +kernel, rfl, by decide +kernel, by decide +kernel⟩
theorem d_opening_of (F : Fn0 K mg "opening_of" s_opening_of) (T : Txt P K mg)  :
    Def P w K mg base 1 "opening_of" ["rewriting", "mode", "name"] (spW 3 (fun F vs (i : RwM × Int × Nat) => ∃ v0 v1 v2, vs = [v0, v1, v2] ∧ (eRw mg).rep F v0 i.1 ∧ eInt.rep F v1 i.2.1 ∧ eChr.rep F v2 i.2.2) (eP2 eStr eInt) (fun (i : RwM × Int × Nat) => m_opening_of i.1 i.2.1 i.2.2)) := by
  refine Def.mk0 F sc_opening_of (by first | exact NF.hl_spB | exact NF.hl_spP | exact NF.hl_spNew | exact NF.hl_spPX | exact NF.hl_spN | exact NF.hl_spNX | exact NF.hl_spW | exact NF.hl_spWb | exact NF.hl_spWX | exact NF.hl_spWm | exact NF.hl_spWo | exact hl_spW) (fun _ _ _ _ _ _ us hl => match us, hl with | [_, _, _], _ => rfl) (fun cdv A outer s H vs Q E hr h => ?_)
  refine ⟨_, (pss_one (ps_ret (pe_dget (NF.u1 hr.units) (pe_fld (pv 0) rfl) (pe_tup (pa_cons (pv 1) (pa_cons (pv 2) pa_nil))) (fun _ _ => rfl)))), ?_⟩
  try dsimp only [cxOf, Cx.nox, Cx.wish]
  obtain ⟨hl, F, ⟨r, m, c⟩, K0, hF, ⟨v0, _, _, rfl, h0, h1, h2⟩, k, q⟩ := h
  cases h1
  cases h2
  obtain ⟨a, dx, u1, u2, rfl, ha, hu1, hu2⟩ := h0
  obtain ⟨x, hx, k⟩ := k
  have O := NF.Fz.start hF
  refine NF.x_ret (NF.x_dget (NF.x_fld (NF.x_var rfl ⟨a, _, dx, _, u1, rfl, hF _ _ ha, T.o_Rewriting.cl, T.o_Rewriting.nf _ (by simp), rfl, NF.x_tup (NF.x_cons (NF.x_var rfl (NF.x_cons (NF.x_var rfl (NF.x_nil (NF.y_tup O (show 2 ≤ sizeLine by decide) (fun p F' H' hp l O => ?_)))))))⟩)))
  refine NF.y_dget (G := F') (F := F') O.leF O.leF (Enc.mono _ l.le hu1) ⟨_, _, _, rfl, hp, rfl, rfl⟩ hx (fun u hu => ?_)
  exact q x k u _ _ O.leB O.leF l hu

abbrev NM_closing_of : List Str := ["rewriting", "mode", "name", "end"]
theorem sc_closing_of : FnScope NM_closing_of ["rewriting", "mode", "name", "end"] (defScope s_closing_of) := ⟨rfl, rfl, rfl, by decide +kernel, rfl, by decide +kernel, by decide +kernel⟩
theorem d_closing_of (F : Fn0 K mg "closing_of" s_closing_of) (T : Txt P K mg)  :
    Def P w K mg base 1 "closing_of" ["rewriting", "mode", "name", "end"] (spW 4 (fun F vs (i : RwM × Int × Nat × Int) => ∃ v0 v1 v2 v3, vs = [v0, v1, v2, v3] ∧ (eRw mg).rep F v0 i.1 ∧ eInt.rep F v1 i.2.1 ∧ eChr.rep F v2 i.2.2.1 ∧ eInt.rep F v3 i.2.2.2) (eP2 eStr eInt) (fun (i : RwM × Int × Nat × Int) => m_closing_of i.1 i.2.1 i.2.2.1 i.2.2.2)) := by
  refine Def.mk0 F sc_closing_of (by first | exact NF.hl_spB | exact NF.hl_spP | exact NF.hl_spNew | exact NF.hl_spPX | exact NF.hl_spN | exact NF.hl_spNX | exact NF.hl_spW | exact NF.hl_spWb | exact NF.hl_spWX | exact NF.hl_spWm | exact NF.hl_spWo | exact hl_spW) (fun _ _ _ _ _ _ us hl => match us, hl with | [_, _, _, _], _ => rfl) (fun cdv A outer s H vs Q E hr h => ?_)
  refine ⟨_, (pss_one (ps_ret (pe_dget (NF.u1 hr.units) (pe_fld (pv 0) rfl) (pe_tup (pa_cons (pv 1) (pa_cons (pv 2) (pa_cons (pv 3) pa_nil)))) (fun _ _ => rfl)))), ?_⟩
  try dsimp only [cxOf, Cx.nox, Cx.wish]
  obtain ⟨hl, F, ⟨r, m, c, e⟩, K0, hF, ⟨v0, _, _, _, rfl, h0, h1, h2, h3⟩, k, q⟩ := h
  cases h1
  cases h2
  cases h3
  obtain ⟨a, dx, u1, u2, rfl, ha, hu1, hu2⟩ := h0
  obtain ⟨x, hx, k⟩ := k
  have O := NF.Fz.start hF
  refine NF.x_ret (NF.x_dget (NF.x_fld (NF.x_var rfl ⟨a, _, dx, _, u2, rfl, hF _ _ ha, T.o_Rewriting.cl, T.o_Rewriting.nf _ (by simp), rfl, NF.x_tup (NF.x_cons (NF.x_var rfl (NF.x_cons (NF.x_var rfl (NF.x_cons (NF.x_var rfl (NF.x_nil (NF.y_tup O (show 3 ≤ sizeLine by decide) (fun p F' H' hp l O => ?_)))))))))⟩)))
  refine NF.y_dget (G := F') (F := F') O.leF O.leF (Enc.mono _ l.le hu2) ⟨_, _, _, _, rfl, hp, rfl, rfl, rfl⟩ hx (fun u hu => ?_)
  exact q x k u _ _ O.leB O.leF l hu

def m_rewrite_letters (a_rewriting : RwM) (a_mode : Int) (a_opened : List (Int × Nat)) (a_letters : Str) : W ((Str × Int) × (List (Int × Nat))) :=
  W.for_ (tl a_letters) (([] : List Str), a_opened, a_mode) (fun (x4 : Nat) (s : (List Str) × (List (Int × Nat)) × Int) =>
  (fun (z_pieces : List Str) (z_opened : List (Int × Nat)) (z_current : Int) =>
  W.ite (decide (x4 ∈ tl (Str.ofString "abcdefgh"))) (W.bind (m_opening_of a_rewriting z_current x4) fun y7 =>
  W.chk (z_pieces.length < sizeLine) <|
  W.chk (z_opened.length < sizeLine) <|
  W.ok (.nx ((z_pieces ++ [y7.1]), (z_opened ++ [(z_current, x4)]), y7.2)))
  (W.pop z_opened fun x18 r19 =>
  W.bind (m_closing_of a_rewriting x18.1 x18.2 z_current) fun y27 =>
  W.chk (z_pieces.length < sizeLine) <|
  W.ok (.nx ((z_pieces ++ [y27.1]), r19, y27.2)))) s.1 s.2.1 s.2.2) (fun (s : (List Str) × (List (Int × Nat)) × Int) =>
  (fun (z_pieces : List Str) (z_opened : List (Int × Nat)) (z_current : Int) =>
  W.chk ((z_pieces.map (·.length)).sum + z_pieces.length * (Str.ofString "").length ≤ 16777216) <|
  W.ok (((Txt.join (Str.ofString "") z_pieces), z_current), z_opened)) s.1 s.2.1 s.2.2)
abbrev NM_rewrite_letters : List Str := ["rewriting", "mode", "opened", "letters", "pieces", "current", "letter", "before", "inner", "began", "name", "after", "following"]
theorem sc_rewrite_letters : FnScope NM_rewrite_letters ["rewriting", "mode", "opened", "letters"] (defScope s_rewrite_letters) := ⟨rfl, rfl, rfl, by decide +kernel, rfl, by decide +kernel, by decide +kernel⟩
theorem d_rewrite_letters (F : Fn0 K mg "rewrite_letters" s_rewrite_letters) (T : Txt P K mg) (D_opening_of : Def P w K mg base 1 "opening_of" ["rewriting", "mode", "name"] (spW 3 (fun F vs (i : RwM × Int × Nat) => ∃ v0 v1 v2, vs = [v0, v1, v2] ∧ (eRw mg).rep F v0 i.1 ∧ eInt.rep F v1 i.2.1 ∧ eChr.rep F v2 i.2.2) (eP2 eStr eInt) (fun (i : RwM × Int × Nat) => m_opening_of i.1 i.2.1 i.2.2))) (D_closing_of : Def P w K mg base 1 "closing_of" ["rewriting", "mode", "name", "end"] (spW 4 (fun F vs (i : RwM × Int × Nat × Int) => ∃ v0 v1 v2 v3, vs = [v0, v1, v2, v3] ∧ (eRw mg).rep F v0 i.1 ∧ eInt.rep F v1 i.2.1 ∧ eChr.rep F v2 i.2.2.1 ∧ eInt.rep F v3 i.2.2.2) (eP2 eStr eInt) (fun (i : RwM × Int × Nat × Int) => m_closing_of i.1 i.2.1 i.2.2.1 i.2.2.2))) :
    Def P w K mg base 2 "rewrite_letters" ["rewriting", "mode", "opened", "letters"] (spWm 4 (fun F (h : (Addr × List Addr)) W vs (i : RwM × Int × (List (Int × Nat)) × Str) => ∃ v0 v1 v3, vs = [v0, v1, .ref h.1, v3] ∧ ∃ N0, W = N0 ++ ([]) ∧ (rLst (eP2 eInt eChr)).rep F h.1 h.2 N0 i.2.2.1 ∧ (eRw mg).rep F v0 i.1 ∧ eInt.rep F v1 i.2.1 ∧ eStr.rep F v3 i.2.2.2) (fun _ F _ (h : (Addr × List Addr)) W v (y : (Str × Int) × (List (Int × Nat))) => ∃ N0, W = N0 ++ ([]) ∧ (rLst (eP2 eInt eChr)).rep F h.1 h.2 N0 y.2 ∧ (eP2 eStr eInt).rep F v y.1) (fun (i : RwM × Int × (List (Int × Nat)) × Str) => m_rewrite_letters i.1 i.2.1 i.2.2.1 i.2.2.2)) := by
  refine Def.mk0 F sc_rewrite_letters (by first | exact NF.hl_spW | exact NF.hl_spWb | exact NF.hl_spWX | exact NF.hl_spWm | exact NF.hl_spWo) (fun _ _ _ _ _ _ us hl => match us, hl with | [_, _, _, _], _ => rfl) (fun cdv A outer s H vs Q E hr h => ?_)
  refine ⟨_, (pss_cons (ps_set (i := 4) sc_rewrite_letters.nd rfl (Or.inl rfl) (pe_lst pa_nil))
      (pss_cons (ps_set (i := 5) sc_rewrite_letters.nd rfl (Or.inl rfl) (pv 1))
      (pss_cons (ps_for PassesOwn.never rfl (pi_str (pv 3)) (pg_name (i := 6) sc_rewrite_letters.nd rfl (Or.inl rfl))
      (pss_one (ps_if (pt_cmpR opInC (pv 6) (pe_g rfl T.g_NAMES) (by rfl))
      (pss_cons (ps_asg (pe_d D_opening_of (hr.mono (by decide)) rfl (pa_cons (pv 0) (pa_cons (pv 5) (pa_cons (pv 6) pa_nil)))) (pg_tup (by rfl) (pgs_cons (pg_name (i := 7) sc_rewrite_letters.nd rfl (Or.inl rfl)) (pgs_cons (pg_name (i := 8) sc_rewrite_letters.nd rfl (Or.inl rfl)) pgs_nil))))
      (pss_cons (ps_expr (pe_bm PySem.F.plainAttrs_list PySem.F.slot_list_append PySem.F.type_list_append mt_append (pv 4) (pa_cons (pv 7) pa_nil)))
      (pss_cons (ps_expr (pe_bm PySem.F.plainAttrs_list PySem.F.slot_list_append PySem.F.type_list_append mt_append (pv 2) (pa_cons (pe_tup (pa_cons (pv 5) (pa_cons (pv 6) pa_nil))) pa_nil)))
      (pss_one (ps_set (i := 5) sc_rewrite_letters.nd rfl (Or.inl rfl) (pv 8))))))
      (pss_cons (ps_asg (pe_bm0 PySem.F.plainAttrs_list PySem.F.slot_list_pop PySem.F.type_list_pop mt_pop (pv 2)) (pg_tup (by rfl) (pgs_cons (pg_name (i := 9) sc_rewrite_letters.nd rfl (Or.inl rfl)) (pgs_cons (pg_name (i := 10) sc_rewrite_letters.nd rfl (Or.inl rfl)) pgs_nil))))
      (pss_cons (ps_asg (pe_d D_closing_of (hr.mono (by decide)) rfl (pa_cons (pv 0) (pa_cons (pv 9) (pa_cons (pv 10) (pa_cons (pv 5) pa_nil))))) (pg_tup (by rfl) (pgs_cons (pg_name (i := 11) sc_rewrite_letters.nd rfl (Or.inl rfl)) (pgs_cons (pg_name (i := 12) sc_rewrite_letters.nd rfl (Or.inl rfl)) pgs_nil))))
      (pss_cons (ps_expr (pe_bm PySem.F.plainAttrs_list PySem.F.slot_list_append PySem.F.type_list_append mt_append (pv 4) (pa_cons (pv 11) pa_nil)))
      (pss_one (ps_set (i := 5) sc_rewrite_letters.nd rfl (Or.inl rfl) (pv 12)))))))))
      (pss_one (ps_ret (pe_tup (pa_cons (pe_bm PySem.F.plainAttrs_str PySem.F.slot_str_join PySem.F.type_str_join mtJoin pe_str (pa_cons (pv 4) pa_nil)) (pa_cons (pv 5) pa_nil)))))))), ?_⟩
  try dsimp only [cxOf, Cx.nox, Cx.wish]
  obtain ⟨hl, F, ⟨p_opened, as_opened⟩, _, ⟨a_rewriting, a_mode, a_opened, a_letters⟩, K0, hF, hAt, ⟨v_rewriting, _, _, rfl, N0_p_opened, rfl, ⟨ha_p_opened, vs_opened, hN_p_opened, r_opened⟩, h_rewriting, rfl, rfl⟩, k, q⟩ := h
  dsimp only at ha_p_opened hN_p_opened
  subst ha_p_opened
  subst hN_p_opened
  have O := NF.Fz.startM hF hAt
  have O : NF.Fz _ F H ([(p_opened, HO.lst vs_opened)] ++ ([]) : List (Addr × HO)) := O
  have lF := NF.Ex.rfl (B := dels H (([(p_opened, HO.lst vs_opened)] ++ ([]) : List (Addr × HO)).map Prod.fst)) (F := F)
  refine (NF.x_seq (NF.x_asg (NF.x_lst (NF.x_nil (NF.y_lstM O (show 0 ≤ sizeLine by decide) (fun p2 H O => (have O : NF.Fz _ F H ([(p2, HO.lst [])] ++ ([(p_opened, HO.lst vs_opened)] ++ ([])) : List (Addr × HO)) := O; (have h1 : NF.RL (eStr.rep F) _ [] := .nil; (NF.x_name ?_)))))))))
  refine (NF.x_seq (NF.x_asg (NF.x_var rfl (NF.x_name ?_))))
  refine (NF.x_seq (NF.x_for (NF.x_jS (NF.x_var rfl (NF.y_jC (F := F) (fun J T => (NF.y_for (σt := (List Str) × (List (Int × Nat)) × Int) (fun (s : (List Str) × (List (Int × Nat)) × Int) (σ : L2.St) (F : Hp) (R : List (Addr × HO)) => (fun (z_pieces : List Str) (z_opened : List (Int × Nat)) (z_current : Int) => ∃ vs_pieces : List V, ∃ vs_opened : List V, ∃ u6 : Option V, ∃ u7 : Option V, ∃ u8 : Option V, ∃ u9 : Option V, ∃ u10 : Option V, ∃ u11 : Option V, ∃ u12 : Option V, σ = [some v_rewriting, some (.int a_mode), some (.ref p_opened), some (.str a_letters), some (.ref p2), some (.int z_current), u6, u7, u8, u9, u10, u11, u12] ∧ R = ([(p2, HO.lst vs_pieces)] ++ ([(p_opened, HO.lst vs_opened)] ++ ([])) : List (Addr × HO)) ∧ RL (eStr.rep F) vs_pieces z_pieces ∧ RL ((eP2 eInt eChr).rep F) vs_opened z_opened) s.1 s.2.1 s.2.2) T (by rintro ⟨z_pieces, z_opened, z_current⟩ _ _ _ ⟨vs_pieces, vs_opened, u6, u7, u8, u9, u10, u11, u12, rfl, rfl, r_pieces, r_opened⟩; first | trivial | simp) O k ⟨_, _, _, _, _, _, _, _, _, rfl, rfl, h1, r_opened⟩ ?_ ?_)))))))
  · rintro x4 r ⟨z_pieces, z_opened, z_current⟩ _ F0 F _ H v5 lp3 ⟨vs_pieces, vs_opened, u6, u7, u8, u9, u10, u11, u12, rfl, rfl, r_pieces, r_opened⟩ l1 O h6 k
    have lp3 := Ex.trans lp3 l1
    have h_rewriting := Enc.mono (eRw mg) lp3.le h_rewriting
    have r_pieces := r_pieces.mono fun _ _ => Enc.mono eStr l1.le
    have r_opened := r_opened.mono fun _ _ => Enc.mono (eP2 eInt eChr) l1.le
    have lF := Ex.trans lF lp3
    cases h6
    refine NF.x_name ?_
    refine (NF.x_ifs (NF.x_test (NF.x_op (NF.x_var rfl (NF.x_c (NF.x_inC (NF.x_bl (NF.x_itb (fun g35 => (have k := k.1 g35; ?n36)) (fun g35 => (have k := k.2 g35; ?n37))))))))))
    case n36 =>
      refine (NF.x_seq (NF.x_asg (NF.x_call (NF.x_cons (NF.x_var rfl (NF.x_cons (NF.x_var rfl (NF.x_cons (NF.x_var rfl (NF.x_nil (NF.use_spW (i := (a_rewriting, z_current, x4)) O rfl ⟨_, _, _, rfl, h_rewriting, rfl, rfl⟩ k (fun y7 v8 F H l0 O h9 k => (have h_rewriting := Enc.mono (eRw mg) l0.le h_rewriting; (have r_pieces := r_pieces.mono fun _ _ => Enc.mono eStr l0.le; (have r_opened := r_opened.mono fun _ _ => Enc.mono (eP2 eInt eChr) l0.le; (have lF := Ex.trans lF l0; (have lp3 := Ex.trans lp3 l0; (NF.y_un2 O.leF h9 (fun v10 v12 h11 h13 => (NF.byS v10 h11 (NF.byI v12 h13 (NF.g_cons (NF.x_name (NF.g_cons (NF.x_name (NF.g_nil ?_))))))))))))))))))))))))))
      refine (NF.x_seq (NF.x_drop (NF.x_bm (NF.x_var rfl (NF.x_tyL (O.get 0 rfl) (NF.x_cons (NF.x_var rfl (NF.x_nil (have c14 := k.1; have k := k.2; (NF.y_app2 O 0 rfl r_pieces c14 (fun H O => (have O : NF.Fz _ F H ([(p2, HO.lst (vs_pieces ++ [(.str y7.1)]))] ++ ([(p_opened, HO.lst vs_opened)] ++ ([])) : List (Addr × HO)) := O; (have r_pieces := NF.RL.snoc (x := y7.1) r_pieces rfl; ?_)))))))))))))
      refine (NF.x_seq (NF.x_drop (NF.x_bm (NF.x_var rfl (NF.x_tyL (O.get 1 rfl) (NF.x_cons (NF.x_tup (NF.x_cons (NF.x_var rfl (NF.x_cons (NF.x_var rfl (NF.x_nil (NF.y_tup O (show 2 ≤ sizeLine by decide) (fun p16 F H hp l0 O => (have h_rewriting := Enc.mono (eRw mg) l0.le h_rewriting; (have r_pieces := r_pieces.mono fun _ _ => Enc.mono eStr l0.le; (have r_opened := r_opened.mono fun _ _ => Enc.mono (eP2 eInt eChr) l0.le; (have lF := Ex.trans lF l0; (have lp3 := Ex.trans lp3 l0; (have h15 : (eP2 eInt eChr).rep F (.ref p16) (z_current, x4) := ⟨_, _, _, rfl, hp, rfl, rfl⟩; (NF.x_nil (have c17 := k.1; have k := k.2; (NF.y_app2 O 1 rfl r_opened c17 (fun H O => (have O : NF.Fz _ F H ([(p2, HO.lst (vs_pieces ++ [(.str y7.1)]))] ++ ([(p_opened, HO.lst (vs_opened ++ [(.ref p16)]))] ++ ([])) : List (Addr × HO)) := O; (have r_opened := NF.RL.snoc (x := (z_current, x4)) r_opened h15; ?_))))))))))))))))))))))))))
      refine (NF.x_asg (NF.x_var rfl (NF.x_name ?_)))
      exact ⟨((z_pieces ++ [y7.1]), (z_opened ++ [(z_current, x4)]), y7.2), _, _, lp3, O, ⟨_, _, _, _, _, _, _, _, _, rfl, rfl, r_pieces, r_opened⟩, k⟩
    case n37 =>
      refine (NF.x_seq (NF.x_asg (NF.x_bm0 (NF.x_var rfl (NF.x_tyL (O.get 1 rfl) (Exists.elim k fun r19 hk => Exists.elim hk fun x18 hk => (have k := hk.2; (NF.y_pop O 1 rfl r_opened hk.1 (fun v21 vs20 H h22 r_opened O => (have O : NF.Fz _ F H ([(p2, HO.lst vs_pieces)] ++ ([(p_opened, HO.lst vs20)] ++ ([])) : List (Addr × HO)) := O; (NF.y_un2 O.leF h22 (fun v23 v25 h24 h26 => (NF.byI v23 h24 (NF.byC v25 h26 (NF.g_cons (NF.x_name (NF.g_cons (NF.x_name (NF.g_nil ?_)))))))))))))))))))
      refine (NF.x_seq (NF.x_asg (NF.x_call (NF.x_cons (NF.x_var rfl (NF.x_cons (NF.x_var rfl (NF.x_cons (NF.x_var rfl (NF.x_cons (NF.x_var rfl (NF.x_nil (NF.use_spW (i := (a_rewriting, x18.1, x18.2, z_current)) O rfl ⟨_, _, _, _, rfl, h_rewriting, rfl, rfl, rfl⟩ k (fun y27 v28 F H l0 O h29 k => (have h_rewriting := Enc.mono (eRw mg) l0.le h_rewriting; (have r_pieces := r_pieces.mono fun _ _ => Enc.mono eStr l0.le; (have r_opened := r_opened.mono fun _ _ => Enc.mono (eP2 eInt eChr) l0.le; (have lF := Ex.trans lF l0; (have lp3 := Ex.trans lp3 l0; (NF.y_un2 O.leF h29 (fun v30 v32 h31 h33 => (NF.byS v30 h31 (NF.byI v32 h33 (NF.g_cons (NF.x_name (NF.g_cons (NF.x_name (NF.g_nil ?_))))))))))))))))))))))))))))
      refine (NF.x_seq (NF.x_drop (NF.x_bm (NF.x_var rfl (NF.x_tyL (O.get 0 rfl) (NF.x_cons (NF.x_var rfl (NF.x_nil (have c34 := k.1; have k := k.2; (NF.y_app2 O 0 rfl r_pieces c34 (fun H O => (have O : NF.Fz _ F H ([(p2, HO.lst (vs_pieces ++ [(.str y27.1)]))] ++ ([(p_opened, HO.lst vs20)] ++ ([])) : List (Addr × HO)) := O; (have r_pieces := NF.RL.snoc (x := y27.1) r_pieces rfl; ?_)))))))))))))
      refine (NF.x_asg (NF.x_var rfl (NF.x_name ?_)))
      exact ⟨((z_pieces ++ [y27.1]), r19, y27.2), _, _, lp3, O, ⟨_, _, _, _, _, _, _, _, _, rfl, rfl, r_pieces, r_opened⟩, k⟩
  · rintro ⟨z_pieces, z_opened, z_current⟩ _ F _ H l0 O ⟨vs_pieces, vs_opened, u6, u7, u8, u9, u10, u11, u12, rfl, rfl, r_pieces, r_opened⟩ k
    have h_rewriting := Enc.mono (eRw mg) l0.le h_rewriting
    have lF := Ex.trans lF l0
    exact (NF.x_ret (NF.x_tup (NF.x_cons (NF.x_bm (NF.x_c (NF.x_tyS (NF.x_cons (NF.x_var rfl (NF.x_nil (NF.y_frz O 0 rfl (fun F l0 hp O => (have O : NF.Fz _ F H ([(p_opened, HO.lst vs_opened)] ++ ([]) : List (Addr × HO)) := O; (have h_rewriting := Enc.mono (eRw mg) l0.le h_rewriting; (have r_pieces := r_pieces.mono fun _ _ => Enc.mono eStr l0.le; (have r_opened := r_opened.mono fun _ _ => Enc.mono (eP2 eInt eChr) l0.le; (have lF := Ex.trans lF l0; (have h38 : (eLst eStr).rep F (.ref p2) z_pieces := ⟨_, _, rfl, hp, r_pieces⟩; (have c39 := k.1; have k := k.2; (NF.y_joinL O.leF h38 c39 (NF.x_cons (NF.x_var rfl (NF.x_nil (NF.y_tup O (show 2 ≤ sizeLine by decide) (fun p41 F H hp l0 O => (have h_rewriting := Enc.mono (eRw mg) l0.le h_rewriting; (have r_opened := r_opened.mono fun _ _ => Enc.mono (eP2 eInt eChr) l0.le; (have h38 := Enc.mono (eLst eStr) l0.le h38; (have lF := Ex.trans lF l0; (have h40 : (eP2 eStr eInt).rep F (.ref p41) ((Txt.join (Str.ofString "") z_pieces), z_current) := ⟨_, _, _, rfl, hp, rfl, rfl⟩; (NF.ret_m (P := fun _ F _ (h : (Addr × List Addr)) W v (y : (Str × Int) × (List (Int × Nat))) => ∃ N0, W = N0 ++ ([]) ∧ (rLst (eP2 eInt eChr)).rep F h.1 h.2 N0 y.2 ∧ (eP2 eStr eInt).rep F v y.1) (h := (p_opened, [p_opened])) q (((Txt.join (Str.ofString "") z_pieces), z_current), z_opened) k O (NF.app_dom rfl rfl) lF ⟨_, rfl, ⟨rfl, _, rfl, r_opened⟩, h40⟩))))))))))))))))))))))))))))))

def m_checked (a_text : Str) (a_limit : Int) : W (Except Exn (Unit)) :=
  W.chk (a_text.length ≤ sizeLine) <|
  W.ite (decide ((2000 : Int) < (a_text.length : Int))) (W.no)
  (W.bind (m_fault a_text) fun y2 =>
  W.onone y2 (W.chk (a_text.length ≤ sizeLine) <|
  W.ite (decide (a_limit < (a_text.length : Int))) (W.no)
  (W.ok (.ok ()))) fun y5 =>
  W.no)
abbrev NM_checked : List Str := ["text", "limit", "index"]
theorem sc_checked : FnScope NM_checked ["text", "limit"] (defScope s_checked) := ⟨rfl, rfl, rfl, by decide +kernel, rfl, by decide +kernel, by decide +kernel⟩
theorem d_checked (F : FnD K mg "checked" s_checked [.int 2000]) (T : Txt P K mg) (D_fault : Def P w K mg base 1 "fault" ["text"] (spW 1 (fun F vs (i : Str) => ∃ v0, vs = [v0] ∧ eStr.rep F v0 i) (eOpt eInt) (fun (i : Str) => m_fault i))) :
    DefX P w K mg base 2 "checked" ["text", "limit"] [.int 2000] (spWX mg 2 (fun F vs (i : Str × Int) => ∃ v0 v1, vs = [v0, v1] ∧ eStr.rep F v0 i.1 ∧ eInt.rep F v1 i.2) eNon (fun (i : Str × Int) => m_checked i.1 i.2)) := by
  refine DefX.mkD F (by decide) 1 rfl sc_checked (by first | exact NF.hl_spW | exact NF.hl_spWb | exact NF.hl_spWX | exact NF.hl_spWm | exact NF.hl_spWo) (fun _ _ _ _ _ _ _ us its hl hi => match us, hl, its, hi with | [_], _, [_], _ => ⟨_, rfl, rfl⟩) (fun cdv A outer s H vs Q E hr h tk po => ?_)
  refine ⟨_, (pss_cons (ps_if (pt_cmpR op_gt (pe_callB (id := "len") callLen (by rfl) T.b_len (by decide +kernel) (pa_cons (pv 0) pa_nil)) (pe_g rfl T.g_TEXT_LIMIT) (nomark _))
      (pss_one NF.ps_dead)
      pss_nil)
      (pss_cons (ps_set (i := 2) sc_checked.nd rfl (Or.inl rfl) (pe_d D_fault (hr.mono (by decide)) rfl (pa_cons (pv 0) pa_nil)))
      (pss_cons (ps_if (pt_cmpR opNotN (pv 2) pe_non (nomark _))
      (pss_one NF.ps_dead)
      pss_nil)
      (pss_one (ps_if (pt_cmpR op_gt (pe_callB (id := "len") callLen (by rfl) T.b_len (by decide +kernel) (pa_cons (pv 0) pa_nil)) (pv 1) (nomark _))
      (pss_one NF.ps_dead)
      pss_nil))))), ?_⟩
  try dsimp only [cxOf, Cx.nox, Cx.wish]
  obtain ⟨hl, F, ⟨a_text, a_limit⟩, K0, hF, ⟨_, _, rfl, rfl, rfl⟩, k, q, qe⟩ := h
  have O := NF.Fz.start hF
  have lF := NF.Ex.rfl (B := H) (F := F)
  refine (NF.x_seq (NF.x_ifs (NF.x_test (NF.x_op (NF.x_cb (NF.x_cons (NF.x_var rfl (NF.x_nil (have c1 := k.1; have k := k.2; (NF.x_lenS c1 (NF.x_c (NF.x_I0 (NF.x_bl (NF.x_itb (fun g14 => (have k := k.1 g14; ?n15)) (fun g14 => (have k := k.2 g14; ?n16))))))))))))))))
  case n15 =>
    exact k.elim
  case n16 =>
    refine NF.x_next ?_
    refine (NF.x_seq (NF.x_asg (NF.x_call (NF.x_cons (NF.x_var rfl (NF.x_nil (NF.use_spW (i := a_text) O rfl ⟨_, rfl, rfl⟩ k (fun y2 v3 F H l0 O h4 k => (have lF := Ex.trans lF l0; (NF.x_name ?_))))))))))
    refine (NF.x_seq (NF.x_ifs (NF.x_test (NF.x_op (NF.x_var rfl (NF.x_c (NF.y_notN h4 (NF.x_bl (NF.x_itb (fun g6 => (Exists.elim (NF.isNone_f (NF.notN_t g6)) fun y5 he => (have k := k.2 y5 he; NF.byI v3 (NF.someR h4 he) ?n12))) (fun g6 => (have h7 := NF.noneR h4 (NF.isNone_t (NF.notN_f g6)); have k := k.1 (NF.isNone_t (NF.notN_f g6)); ?n13)))))))))))
    case n12 =>
      exact k.elim
    case n13 =>
      refine NF.x_next ?_
      refine (NF.x_ifs (NF.x_test (NF.x_op (NF.x_cb (NF.x_cons (NF.x_var rfl (NF.x_nil (have c8 := k.1; have k := k.2; (NF.x_lenS c8 (NF.x_var rfl (NF.x_I0 (NF.x_bl (NF.x_itb (fun g9 => (have k := k.1 g9; ?n10)) (fun g9 => (have k := k.2 g9; ?n11)))))))))))))))
      case n10 =>
        exact k.elim
      case n11 =>
        refine NF.x_next ?_
        exact (q () k _ _ _ O.leB O.leF lF rfl)


def m_rwg (m : Int) (rs : List (Int × Nat × Str × Int × Str × Int)) (es : List (Int × Nat × Int × Str × Int)) : W RwM := W.chk (1 ≤ m ∧ m ≤ 64) <| W.bind (m_checked_rules m rs) fun kr => W.bind (m_checked_exceptions m kr es) fun ke => W.bind (m_whole_tables m kr ke) fun t => W.ok (m, t.1, t.2)
/-- Rewriting(modes, rules, exceptions): the object is not known to anyone yet -/
def spRwg (mg : Str → Option Value) : Sp := fun vs H Q _ => vs.length = 4 ∧ ∃ x dx F m rs es v2 v3 K0, vs = [.ref x, .int m, v2, v3] ∧ H x = some (.ins (cad mg "Rewriting") dx []) ∧ F x = none ∧ Le F H ∧
  (eLst (eP6 eInt eChr eStr eInt eStr eInt)).rep F v2 rs ∧ (eLst (eP5 eInt eChr eInt eStr eInt)).rep F v3 es ∧ m_rwg m rs es K0 ∧ ∀ y, K0 y → ∀ F' H', Le (del H x) H' → Le F' H' → Ex (del H x) F F' → (eRw mg).rep F' (.ref x) y → Q .non H'
theorem hl_spRwg {mg : Str → Option Value} : ∀ vs H Q E, spRwg mg vs H Q E → vs.length = 4 := fun _ _ _ _ h => h.1
abbrev NM_Rewriting_init : List Str := ["self", "modes", "rules", "exceptions", "kept_rules", "kept_exceptions", "opening_rules", "closing_rules"]
theorem sc_Rewriting_init : FnScope NM_Rewriting_init ["self", "modes", "rules", "exceptions"] (defScope s_Rewriting_init) := ⟨rfl, rfl, rfl, by decide +kernel, rfl, by decide +kernel, by decide +kernel⟩
theorem d_Rewriting_init (T : Txt P K mg) (D_checked_rules : Def P w K mg base 4 "_checked_rules" ["modes", "rules"] (spW 2 (fun F vs (i : Int × (List (Int × Nat × Str × Int × Str × Int))) => ∃ v0 v1, vs = [v0, v1] ∧ eInt.rep F v0 i.1 ∧ (eLst (eP6 eInt eChr eStr eInt eStr eInt)).rep F v1 i.2) (eDT kIC (eP4 eStr eInt eStr eInt)) (fun (i : Int × (List (Int × Nat × Str × Int × Str × Int))) => m_checked_rules i.1 i.2))) (D_checked_exceptions : Def P w K mg base 4 "_checked_exceptions" ["modes", "rules", "exceptions"] (spW 3 (fun F vs (i : Int × (List ((Int × Nat) × (Str × Int × Str × Int))) × (List (Int × Nat × Int × Str × Int))) => ∃ v0 v1 v2, vs = [v0, v1, v2] ∧ eInt.rep F v0 i.1 ∧ (eDT kIC (eP4 eStr eInt eStr eInt)).rep F v1 i.2.1 ∧ (eLst (eP5 eInt eChr eInt eStr eInt)).rep F v2 i.2.2) (eDT kICI (eP2 eStr eInt)) (fun (i : Int × (List ((Int × Nat) × (Str × Int × Str × Int))) × (List (Int × Nat × Int × Str × Int))) => m_checked_exceptions i.1 i.2.1 i.2.2))) (D_whole_tables : Def P w K mg base 2 "_whole_tables" ["modes", "rules", "exceptions"] (spW 3 (fun F vs (i : Int × (List ((Int × Nat) × (Str × Int × Str × Int))) × (List ((Int × Nat × Int) × (Str × Int)))) => ∃ v0 v1 v2, vs = [v0, v1, v2] ∧ eInt.rep F v0 i.1 ∧ (eDT kIC (eP4 eStr eInt eStr eInt)).rep F v1 i.2.1 ∧ (eDT kICI (eP2 eStr eInt)).rep F v2 i.2.2) (eP2 (eDT kIC (eP2 eStr eInt)) (eDT kICI (eP2 eStr eInt))) (fun (i : Int × (List ((Int × Nat) × (Str × Int × Str × Int))) × (List ((Int × Nat × Int) × (Str × Int)))) => m_whole_tables i.1 i.2.1 i.2.2))) :
    MkX P w K mg base 7 "Rewriting" ["self", "modes", "rules", "exceptions"] (spRwg mg) := by
  obtain ⟨f, fd, dv, M, F⟩ := T.o_Rewriting.ini
  refine MkX.makeD T.n_Rewriting M F sc_Rewriting_init (by first | exact NF.hl_spB | exact NF.hl_spP | exact NF.hl_spNew | exact NF.hl_spPX | exact NF.hl_spN | exact NF.hl_spNX | exact NF.hl_spW | exact NF.hl_spWb | exact NF.hl_spWX | exact NF.hl_spWm | exact NF.hl_spWo | exact hl_spRwg) (fun _ _ _ _ _ _ _ us its hl hi => match us, hl, its, hi with | [_, _, _, _], _, [_], _ => ⟨_, rfl, rfl⟩) (fun cdv A outer s H vs Q E hr h tk po => ?_)
  refine ⟨_, (pss_cons (ps_if (pt_cmpR op_gt (pv 1) (pe_g rfl T.g_MODE_LIMIT) (nomark _))
      (pss_one (L2N.ps_raise rfl takesN0 (pmk_x T.x_TooMany (hr.mono (by decide)) (by rfl) (pe_g rfl T.g_MODE_LIMIT))))
      pss_nil)
      (pss_cons (ps_if (pt_cmpR op_lt (pv 1) pe_int (nomark _))
      (pss_one (L2N.ps_raise rfl takesN0 (pmk_x T.x_BadRule (hr.mono (by decide)) (by rfl) (pv 1))))
      pss_nil)
      (pss_cons (ps_set (i := 4) sc_Rewriting_init.nd rfl (Or.inl rfl) (pe_d D_checked_rules (hr.mono (by decide)) rfl (pa_cons (pv 1) (pa_cons (pv 2) pa_nil))))
      (pss_cons (ps_set (i := 5) sc_Rewriting_init.nd rfl (Or.inl rfl) (pe_d D_checked_exceptions (hr.mono (by decide)) rfl (pa_cons (pv 1) (pa_cons (pv 4) (pa_cons (pv 3) pa_nil)))))
      (pss_cons (ps_asg (pe_d D_whole_tables (hr.mono (by decide)) rfl (pa_cons (pv 1) (pa_cons (pv 4) (pa_cons (pv 5) pa_nil)))) (pg_tup (by rfl) (pgs_cons (pg_name (i := 6) sc_Rewriting_init.nd rfl (Or.inl rfl)) (pgs_cons (pg_name (i := 7) sc_Rewriting_init.nd rfl (Or.inl rfl)) pgs_nil))))
      (pss_cons (ps_fld (pv 0) (pv 1) rfl)
      (pss_cons (ps_fld (pv 0) (pv 6) rfl)
      (pss_one (ps_fld (pv 0) (pv 7) rfl))))))))), ?_⟩
  try dsimp only [cxOf, Cx.nox, Cx.wish]
  obtain ⟨hl, x, dx, F, m, rs, es, v2, v3, K0, rfl, hx, hF, lF0, h2, h3, ⟨⟨hm1, hm2⟩, k⟩, q⟩ := h
  have O : Fz (del H x) F H [(x, .ins (cad mg "Rewriting") dx [])] := Fz.startB lF0 hx hF
  have lF := Ex.rfl (B := del H x) (F := F)
  refine NF.x_seq (NF.x_ifs (NF.x_test (NF.x_op (NF.x_var rfl (NF.x_c (NF.x_I0 (NF.x_bl (NF.x_itb (fun g => absurd (of_decide_eq_true g) (by omega)) (fun g => NF.x_next ?_)))))))))
  refine NF.x_seq (NF.x_ifs (NF.x_test (NF.x_op (NF.x_var rfl (NF.x_c (NF.x_I0 (NF.x_bl (NF.x_itb (fun g => absurd (of_decide_eq_true g) (by omega)) (fun g => NF.x_next ?_)))))))))
  refine NF.x_seq (NF.x_asg (NF.x_call (NF.x_cons (NF.x_var rfl (NF.x_cons (NF.x_var rfl (NF.x_nil (NF.use_spW (i := (m, rs)) O rfl ⟨_, _, rfl, rfl, h2⟩ k (fun y1 u1 F1 H1 l0 O r1 k => NF.x_name ?_)))))))))
  have h3 := Enc.mono _ l0.le h3
  have lF := Ex.trans lF l0
  refine NF.x_seq (NF.x_asg (NF.x_call (NF.x_cons (NF.x_var rfl (NF.x_cons (NF.x_var rfl (NF.x_cons (NF.x_var rfl (NF.x_nil (NF.use_spW (i := (m, y1, es)) O rfl ⟨_, _, _, rfl, rfl, r1, h3⟩ k (fun y2 u2 F2 H2 l0 O r2 k => NF.x_name ?_)))))))))))
  have r1 := Enc.mono _ l0.le r1
  have lF := Ex.trans lF l0
  refine NF.x_seq (NF.x_asg (NF.x_call (NF.x_cons (NF.x_var rfl (NF.x_cons (NF.x_var rfl (NF.x_cons (NF.x_var rfl (NF.x_nil (NF.use_spW (i := (m, y1, y2)) O rfl ⟨_, _, _, rfl, rfl, r1, r2⟩ k (fun y3 u3 F3 H3 l0 O r3 k => NF.y_un2 O.leF r3 (fun w1 w2 q1 q2 => NF.g_cons (NF.x_name (NF.g_cons (NF.x_name (NF.g_nil ?_))))))))))))))))
  have lF := Ex.trans lF l0
  refine NF.x_seq (NF.x_fldS (NF.x_var rfl (NF.x_var rfl ⟨_, _, _, _, rfl, O.get 0 rfl, T.o_Rewriting.cl, T.o_Rewriting.nf _ (by simp), by simp, ?_⟩)))
  have O := O.put 0 rfl (.ins (cad mg "Rewriting") dx (putF "_modes" (.int m) []))
  refine NF.x_seq (NF.x_fldS (NF.x_var rfl (NF.x_var rfl ⟨_, _, _, _, rfl, O.get 0 rfl, T.o_Rewriting.cl, T.o_Rewriting.nf _ (by simp), (show (1 : Nat) < 1000 by decide), ?_⟩)))
  have O := O.put 0 rfl (.ins (cad mg "Rewriting") dx (putF "_opening_rules" w1 (putF "_modes" (.int m) [])))
  refine NF.x_fldS (NF.x_var rfl (NF.x_var rfl ⟨_, _, _, _, rfl, O.get 0 rfl, T.o_Rewriting.cl, T.o_Rewriting.nf _ (by simp), (show (2 : Nat) < 1000 by decide), ?_⟩))
  have O := O.put 0 rfl (.ins (cad mg "Rewriting") dx (putF "_closing_rules" w2 (putF "_opening_rules" w1 (putF "_modes" (.int m) []))))
  refine NF.y_frz O 0 rfl fun F4 l0 hp O => ?_
  exact q (m, y3.1, y3.2) k F4 _ O.leB O.leF (lF.trans l0) ⟨x, dx, w1, w2, rfl, hp, Enc.mono _ l0.le q1, Enc.mono _ l0.le q2⟩


/-! readers: an object and the list of the open nodes -/
abbrev RrM := RwM × Int × List (Int × Nat) × Int
def eRwr (mg : Str → Option Value) : Enc RrM := ⟨fun F v x => ∃ a dx vr vo, v = .ref a ∧ F a = some (.ins (cad mg "Rewriter") dx [("_rewriting", vr), ("_mode", .int x.2.1), ("_opened", vo), ("_count", .int x.2.2.2)]) ∧ (eRw mg).rep F vr x.1 ∧ (eLst (eP2 eInt eChr)).rep F vo x.2.2.1,
  fun l ⟨a, dx, vr, vo, h, h0, h1, h2⟩ => ⟨a, dx, vr, vo, h, l _ _ h0, Enc.mono _ l h1, Enc.mono _ l h2⟩⟩
def rFld (K : PySem.W.Frag) (f : Str) : V → Hp → VK → Prop := fun x H Q => ∃ a C dx fs v, x = .ref a ∧ H a = some (.ins C dx fs) ∧ Cls K C ∧ NoAttr K C f ∧ fs.lookup f = some v ∧ Q v H
theorem x_fldR {ta : TE} {f : Str} {σ : L2.St} {H : Hp} {Q : VK} (q : ta σ H fun x H1 => rFld K f x H1 Q) : tFld K ta f σ H Q := q
abbrev RrF : List Str := ["_rewriting", "_mode", "_opened", "_count"]
theorem y_fld_Rewriter_rewriting {F H : Hp} {v : V} {x : RrM} {Q : VK} (c : Cls K (cad mg "Rewriter")) (n : ∀ f ∈ RrF, NoAttr K (cad mg "Rewriter") f) (l : Le F H) (h : (eRwr mg).rep F v x) (q : ∀ u, (eRw mg).rep F u x.1 → Q u H) : rFld K "_rewriting" v H Q := by
  obtain ⟨a, dx, vr, vo, rfl, h0, h1, h2⟩ := h
  exact ⟨a, _, dx, _, vr, rfl, l _ _ h0, c, n _ (by simp), rfl, q _ h1⟩
theorem y_fld_Rewriter_mode {F H : Hp} {v : V} {x : RrM} {Q : VK} (c : Cls K (cad mg "Rewriter")) (n : ∀ f ∈ RrF, NoAttr K (cad mg "Rewriter") f) (l : Le F H) (h : (eRwr mg).rep F v x) (q : ∀ u, eInt.rep F u x.2.1 → Q u H) : rFld K "_mode" v H Q := by
  obtain ⟨a, dx, vr, vo, rfl, h0, h1, h2⟩ := h
  exact ⟨a, _, dx, _, _, rfl, l _ _ h0, c, n _ (by simp), rfl, q _ rfl⟩
theorem y_fld_Rewriter_opened {F H : Hp} {v : V} {x : RrM} {Q : VK} (c : Cls K (cad mg "Rewriter")) (n : ∀ f ∈ RrF, NoAttr K (cad mg "Rewriter") f) (l : Le F H) (h : (eRwr mg).rep F v x) (q : ∀ u, (eLst (eP2 eInt eChr)).rep F u x.2.2.1 → Q u H) : rFld K "_opened" v H Q := by
  obtain ⟨a, dx, vr, vo, rfl, h0, h1, h2⟩ := h
  exact ⟨a, _, dx, _, vo, rfl, l _ _ h0, c, n _ (by simp), rfl, q _ h2⟩
theorem y_fld_Rewriter_count {F H : Hp} {v : V} {x : RrM} {Q : VK} (c : Cls K (cad mg "Rewriter")) (n : ∀ f ∈ RrF, NoAttr K (cad mg "Rewriter") f) (l : Le F H) (h : (eRwr mg).rep F v x) (q : ∀ u, eInt.rep F u x.2.2.2 → Q u H) : rFld K "_count" v H Q := by
  obtain ⟨a, dx, vr, vo, rfl, h0, h1, h2⟩ := h
  exact ⟨a, _, dx, _, _, rfl, l _ _ h0, c, n _ (by simp), rfl, q _ rfl⟩
def m_Rewriter_depth (a_self : RrM) : W (Int) :=
  W.ok (a_self.2.2.1.length : Int)
abbrev NM_Rewriter_depth : List Str := ["self"]
theorem sc_Rewriter_depth : FnScope NM_Rewriter_depth ["self"] (defScope s_Rewriter_depth) := ⟨rfl, rfl, rfl, by decide +kernel, rfl, by decide +kernel, by decide +kernel⟩
theorem d_Rewriter_depth (Mm : OPrp K (cad mg "Rewriter") "depth" "Rewriter.depth" s_Rewriter_depth) (T : Txt P K mg)  :
    PrG P w K mg base 1 "Rewriter" "depth" ["self"] (spW 1 (fun F vs (i : RrM) => ∃ v0, vs = [v0] ∧ (eRwr mg).rep F v0 i) eInt (fun (i : RrM) => m_Rewriter_depth i)) := by
  refine PrG.make T.o_Rewriter.cl Mm sc_Rewriter_depth (by first | exact NF.hl_spW | exact NF.hl_spWb | exact NF.hl_spWX | exact NF.hl_spWm | exact NF.hl_spWo) (fun _ _ _ _ _ _ us hl => match us, hl with | [_], _ => rfl) (fun cdv A outer s H vs Q E hr h => ?_)
  refine ⟨_, (pss_one (ps_ret (pe_callB (id := "len") callLen (by rfl) T.b_len (by decide +kernel) (pa_cons (pe_fld (pv 0) rfl) pa_nil)))), ?_⟩
  try dsimp only [cxOf, Cx.nox, Cx.wish]
  obtain ⟨hl, F, a_self, K0, hF, ⟨v_self, rfl, h_self⟩, k, q⟩ := h
  have O := NF.Fz.start hF
  have lF := NF.Ex.rfl (B := H) (F := F)
  have cC_Rewriter := T.o_Rewriter.cl
  have nC_Rewriter := T.o_Rewriter.nf
  exact (NF.x_ret (NF.x_cb (NF.x_cons (NF.x_fldR (NF.x_var rfl (NF.y_fld_Rewriter_opened cC_Rewriter nC_Rewriter O.leF h_self (fun v1 h2 => (NF.x_nil (NF.y_lenL O.leF h2 (q (a_self.2.2.1.length : Int) k _ _ _ O.leB O.leF lF rfl))))))))))

def m_Rewriter_current_mode (a_self : RrM) : W (Int) :=
  W.ok a_self.2.1
abbrev NM_Rewriter_current_mode : List Str := ["self"]
theorem sc_Rewriter_current_mode : FnScope NM_Rewriter_current_mode ["self"] (defScope s_Rewriter_current_mode) := ⟨rfl, rfl, rfl, by decide +kernel, rfl, by decide +kernel, by decide +kernel⟩
theorem d_Rewriter_current_mode (Mm : OPrp K (cad mg "Rewriter") "current_mode" "Rewriter.current_mode" s_Rewriter_current_mode) (T : Txt P K mg)  :
    PrG P w K mg base 1 "Rewriter" "current_mode" ["self"] (spW 1 (fun F vs (i : RrM) => ∃ v0, vs = [v0] ∧ (eRwr mg).rep F v0 i) eInt (fun (i : RrM) => m_Rewriter_current_mode i)) := by
  refine PrG.make T.o_Rewriter.cl Mm sc_Rewriter_current_mode (by first | exact NF.hl_spW | exact NF.hl_spWb | exact NF.hl_spWX | exact NF.hl_spWm | exact NF.hl_spWo) (fun _ _ _ _ _ _ us hl => match us, hl with | [_], _ => rfl) (fun cdv A outer s H vs Q E hr h => ?_)
  refine ⟨_, (pss_one (ps_ret (pe_fld (pv 0) rfl))), ?_⟩
  try dsimp only [cxOf, Cx.nox, Cx.wish]
  obtain ⟨hl, F, a_self, K0, hF, ⟨v_self, rfl, h_self⟩, k, q⟩ := h
  have O := NF.Fz.start hF
  have lF := NF.Ex.rfl (B := H) (F := F)
  have cC_Rewriter := T.o_Rewriter.cl
  have nC_Rewriter := T.o_Rewriter.nf
  exact (NF.x_ret (NF.x_fldR (NF.x_var rfl (NF.y_fld_Rewriter_mode cC_Rewriter nC_Rewriter O.leF h_self (fun u hu => NF.byI u hu (q a_self.2.1 k _ _ _ O.leB O.leF lF rfl))))))

def m_Rewriter_first_wrong (a_self : RrM) (a_letters : Str) : W (Option Int) :=
  W.for_ (enumT (tl a_letters)) (([] : List Nat), (a_self.2.2.1.length : Int)) (fun (x6 : Int × Nat) (s : (List Nat) × Int) =>
  (fun (z_names : List Nat) (z_remaining : Int) =>
  W.ite (decide (x6.2 ∈ tl (Str.ofString "abcdefgh"))) (W.chk (z_names.length < sizeLine) <|
  W.ok (.nx ((z_names ++ [x6.2]), z_remaining)))
  (W.ite (!z_names.isEmpty) (W.pop z_names fun x14 r15 =>
  W.chk ((sg x14).length ≤ 5592405) <|
  W.ite (!decide ((sg x6.2) = (Txt.upper (sg x14)))) (W.ok (.rt (some x6.1)))
  (W.ok (.nx (r15, z_remaining))))
  (W.ite (decide ((0 : Int) < z_remaining)) (W.at_ a_self.2.2.1 (z_remaining - (1 : Int)) fun x25 =>
  W.chk ((sg x25.2).length ≤ 5592405) <|
  W.ite (!decide ((sg x6.2) = (Txt.upper (sg x25.2)))) (W.ok (.rt (some x6.1)))
  (W.ok (.nx (z_names, (z_remaining - (1 : Int))))))
  (W.ok (.rt (some x6.1)))))) s.1 s.2) (fun (s : (List Nat) × Int) =>
  (fun (z_names : List Nat) (z_remaining : Int) =>
  W.ok none) s.1 s.2)
abbrev NM_Rewriter_first_wrong : List Str := ["self", "letters", "names", "remaining", "at", "letter", "name"]
theorem sc_Rewriter_first_wrong : FnScope NM_Rewriter_first_wrong ["self", "letters"] (defScope s_Rewriter_first_wrong) := ⟨rfl, rfl, rfl, by decide +kernel, rfl, by decide +kernel, by decide +kernel⟩
theorem d_Rewriter_first_wrong (Mm : OMth K (cad mg "Rewriter") "_first_wrong" "Rewriter._first_wrong" s_Rewriter_first_wrong) (T : Txt P K mg)  :
    DefM P w K mg base 1 "Rewriter" "_first_wrong" ["self", "letters"] (spW 2 (fun F vs (i : RrM × Str) => ∃ v0 v1, vs = [v0, v1] ∧ (eRwr mg).rep F v0 i.1 ∧ eStr.rep F v1 i.2) (eOpt eInt) (fun (i : RrM × Str) => m_Rewriter_first_wrong i.1 i.2)) := by
  obtain ⟨f, fd, M, F⟩ := Mm
  refine DefM.make T.o_Rewriter.cl M F sc_Rewriter_first_wrong (by first | exact NF.hl_spW | exact NF.hl_spWb | exact NF.hl_spWX | exact NF.hl_spWm | exact NF.hl_spWo) (fun _ _ _ _ _ _ us hl => match us, hl with | [_, _], _ => rfl) (fun cdv A outer s H vs Q E hr h => ?_)
  refine ⟨_, (pss_cons (ps_set (i := 2) sc_Rewriter_first_wrong.nd rfl (Or.inl rfl) (pe_lst pa_nil))
      (pss_cons (ps_set (i := 3) sc_Rewriter_first_wrong.nd rfl (Or.inl rfl) (pe_callB (id := "len") callLen (by rfl) T.b_len (by decide +kernel) (pa_cons (pe_fld (pv 0) rfl) pa_nil)))
      (pss_cons (ps_for PassesOwn.never rfl (pi_enumS (by rfl) T.b_enumerate (pa_cons (pv 1) pa_nil)) (pg_tup (by rfl) (pgs_cons (pg_name (i := 4) sc_Rewriter_first_wrong.nd rfl (Or.inl rfl)) (pgs_cons (pg_name (i := 5) sc_Rewriter_first_wrong.nd rfl (Or.inl rfl)) pgs_nil)))
      (pss_cons (ps_if (pt_cmpR opInC (pv 5) (pe_g rfl T.g_NAMES) (by rfl))
      (pss_cons (ps_expr (pe_bm PySem.F.plainAttrs_list PySem.F.slot_list_append PySem.F.type_list_append mt_append (pv 2) (pa_cons (pv 5) pa_nil)))
      (pss_one ps_continue))
      pss_nil)
      (pss_cons (ps_if (ptTruth (pv 2) (by intro _; rfl))
      (pss_one (ps_set (i := 6) sc_Rewriter_first_wrong.nd rfl (Or.inl rfl) (pe_bm0 PySem.F.plainAttrs_list PySem.F.slot_list_pop PySem.F.type_list_pop mt_pop (pv 2))))
      (pss_one (ps_if (pt_cmpR op_gt (pv 3) pe_int (nomark _))
      (pss_cons (ps_aug (i := 3) sc_Rewriter_first_wrong.nd rfl (Or.inl rfl) pe_int ip_sub)
      (pss_one (ps_set (i := 6) sc_Rewriter_first_wrong.nd rfl (Or.inl rfl) (pe_ix ix_tup (pe_ix ix_list (pe_fld (pv 0) rfl) (pv 3) (fun _ _ => rfl)) pe_int (fun _ _ => rfl)))))
      (pss_one (ps_ret (pv 4))))))
      (pss_one (ps_if (pt_cmpR op_ne (pv 5) (pe_bm0 PySem.F.plainAttrs_str PySem.F.slot_str_upper PySem.F.type_str_upper mtUpper (pv 6)) (nomark _))
      (pss_one (ps_ret (pv 4)))
      pss_nil)))))
      (pss_one (ps_ret pe_non))))), ?_⟩
  try dsimp only [cxOf, Cx.nox, Cx.wish]
  obtain ⟨hl, F, ⟨a_self, a_letters⟩, K0, hF, ⟨v_self, _, rfl, h_self, rfl⟩, k, q⟩ := h
  have O := NF.Fz.start hF
  have lF := NF.Ex.rfl (B := H) (F := F)
  have cC_Rewriter := T.o_Rewriter.cl
  have nC_Rewriter := T.o_Rewriter.nf
  refine (NF.x_seq (NF.x_asg (NF.x_lst (NF.x_nil (NF.y_lstM O (show 0 ≤ sizeLine by decide) (fun p2 H O => (have O : NF.Fz _ F H ([(p2, HO.lst [])] ++ ([]) : List (Addr × HO)) := O; (have h1 : NF.RL (eChr.rep F) _ [] := .nil; (NF.x_name ?_)))))))))
  refine (NF.x_seq (NF.x_asg (NF.x_cb (NF.x_cons (NF.x_fldR (NF.x_var rfl (NF.y_fld_Rewriter_opened cC_Rewriter nC_Rewriter O.leF h_self (fun v3 h4 => (NF.x_nil (NF.y_lenL O.leF h4 (NF.x_name ?_)))))))))))
  refine (NF.x_seq (NF.x_for (NF.x_jE (NF.x_cons (NF.x_var rfl (NF.x_nil (NF.y_jES (F := F) (fun J T => (NF.y_for (σt := (List Nat) × Int) (fun (s : (List Nat) × Int) (σ : L2.St) (F : Hp) (R : List (Addr × HO)) => (fun (z_names : List Nat) (z_remaining : Int) => ∃ vs_names : List V, ∃ u4 : Option V, ∃ u5 : Option V, ∃ u6 : Option V, σ = [some v_self, some (.str a_letters), some (.ref p2), some (.int z_remaining), u4, u5, u6] ∧ R = ([(p2, HO.lst vs_names)] ++ ([]) : List (Addr × HO)) ∧ RL (eChr.rep F) vs_names z_names) s.1 s.2) T (by rintro ⟨z_names, z_remaining⟩ _ _ _ ⟨vs_names, u4, u5, u6, rfl, rfl, r_names⟩; first | trivial | simp) O k ⟨_, _, _, _, rfl, rfl, h1⟩ ?_ ?_)))))))))
  · rintro x6 r ⟨z_names, z_remaining⟩ _ F0 F _ H v7 lp5 ⟨vs_names, u4, u5, u6, rfl, rfl, r_names⟩ l1 O h8 k
    have lp5 := Ex.trans lp5 l1
    have h_self := Enc.mono (eRwr mg) lp5.le h_self
    have r_names := r_names.mono fun _ _ => Enc.mono eChr l1.le
    have lF := Ex.trans lF lp5
    refine NF.y_un2 O.leF h8 (fun v9 v11 h10 h12 => ?_)
    cases h10
    cases h12
    refine NF.g_cons (NF.x_name ?_)
    refine NF.g_cons (NF.x_name ?_)
    refine NF.g_nil ?_
    refine (NF.x_seq (NF.x_ifs (NF.x_test (NF.x_op (NF.x_var rfl (NF.x_c (NF.x_inC (NF.x_bl (NF.x_itb (fun g38 => (have k := k.1 g38; ?n39)) (fun g38 => (have k := k.2 g38; ?n40)))))))))))
    case n39 =>
      refine (NF.x_seq (NF.x_drop (NF.x_bm (NF.x_var rfl (NF.x_tyL (O.get 0 rfl) (NF.x_cons (NF.x_var rfl (NF.x_nil (have c13 := k.1; have k := k.2; (NF.y_app2 O 0 rfl r_names c13 (fun H O => (have O : NF.Fz _ F H ([(p2, HO.lst (vs_names ++ [(.str (sg x6.2))]))] ++ ([]) : List (Addr × HO)) := O; (have r_names := NF.RL.snoc (x := x6.2) r_names rfl; ?_)))))))))))))
      refine (NF.x_cnt ?_)
      exact ⟨((z_names ++ [x6.2]), z_remaining), _, _, lp5, O, ⟨_, _, _, _, rfl, rfl, r_names⟩, k⟩
    case n40 =>
      refine NF.x_next ?_
      refine (NF.x_seq (NF.x_ifs (NF.x_tru (NF.x_var rfl (NF.y_truL (NF.Fz.vl O 0 rfl) (NF.vwL O 0 rfl r_names) (NF.x_itb (fun g35 => (have k := k.1 g35; ?n36)) (fun g35 => (have k := k.2 g35; ?n37))))))))
      case n36 =>
        refine (NF.x_asg (NF.x_bm0 (NF.x_var rfl (NF.x_tyL (O.get 0 rfl) (Exists.elim k fun r15 hk => Exists.elim hk fun x14 hk => (have k := hk.2; (NF.y_pop O 0 rfl r_names hk.1 (fun v17 vs16 H h18 r_names O => (have O : NF.Fz _ F H ([(p2, HO.lst vs16)] ++ ([]) : List (Addr × HO)) := O; (NF.byC v17 h18 (NF.x_name ?_)))))))))))
        refine (NF.x_ifs (NF.x_test (NF.x_op (NF.x_var rfl (NF.x_bm0 (NF.x_var rfl (NF.x_tyS (have c19 := k.1; have k := k.2; (NF.x_upper c19 (NF.y_neS (NF.x_bl (NF.x_itb (fun g20 => (have k := k.1 g20; ?n21)) (fun g20 => (have k := k.2 g20; ?n22))))))))))))))
        case n21 =>
          exact (NF.x_ret (NF.x_var rfl (q (some x6.1) k _ _ _ O.leB O.leF lF rfl)))
        case n22 =>
          refine NF.x_next ?_
          exact ⟨(r15, z_remaining), _, _, lp5, O, ⟨_, _, _, _, rfl, rfl, r_names⟩, k⟩
      case n37 =>
        refine (NF.x_ifs (NF.x_test (NF.x_op (NF.x_var rfl (NF.x_c (NF.x_I0 (NF.x_bl (NF.x_itb (fun g32 => (have k := k.1 g32; ?n33)) (fun g32 => (have k := k.2 g32; ?n34))))))))))
        case n33 =>
          refine (NF.x_seq (NF.x_aug rfl (NF.x_c (NF.x_ipI ?_))))
          refine (NF.x_asg (NF.x_op (NF.x_op (NF.x_fldR (NF.x_var rfl (NF.y_fld_Rewriter_opened cC_Rewriter nC_Rewriter O.leF h_self (fun v23 h24 => (NF.x_var rfl (Exists.elim k fun x25 hk => (have k := hk.2; (NF.y_ixL O.leF h24 hk.1 (fun v26 h27 => (NF.x_c (NF.y_ix21 O.leF h27 (fun u hu => NF.byC u hu (NF.x_name ?_))))))))))))))))
          refine (NF.x_ifs (NF.x_test (NF.x_op (NF.x_var rfl (NF.x_bm0 (NF.x_var rfl (NF.x_tyS (have c28 := k.1; have k := k.2; (NF.x_upper c28 (NF.y_neS (NF.x_bl (NF.x_itb (fun g29 => (have k := k.1 g29; ?n30)) (fun g29 => (have k := k.2 g29; ?n31))))))))))))))
          case n30 =>
            exact (NF.x_ret (NF.x_var rfl (q (some x6.1) k _ _ _ O.leB O.leF lF rfl)))
          case n31 =>
            refine NF.x_next ?_
            exact ⟨(z_names, (z_remaining - (1 : Int))), _, _, lp5, O, ⟨_, _, _, _, rfl, rfl, r_names⟩, k⟩
        case n34 =>
          exact (NF.x_ret (NF.x_var rfl (q (some x6.1) k _ _ _ O.leB O.leF lF rfl)))
  · rintro ⟨z_names, z_remaining⟩ _ F _ H l0 O ⟨vs_names, u4, u5, u6, rfl, rfl, r_names⟩ k
    have h_self := Enc.mono (eRwr mg) l0.le h_self
    have lF := Ex.trans lF l0
    exact (NF.x_ret (NF.x_c (q none k _ _ _ O.leB O.leF lF rfl)))


def rRwr (mg : Str → Option Value) : Rsc RrM := ⟨fun F p as N x => ∃ dx vr po vs, as = [p, po] ∧ N = [(p, .ins (cad mg "Rewriter") dx [("_rewriting", vr), ("_mode", .int x.2.1), ("_opened", .ref po), ("_count", .int x.2.2.2)]), (po, .lst vs)] ∧ (eRw mg).rep F vr x.1 ∧ RL ((eP2 eInt eChr).rep F) vs x.2.2.1,
  fun l ⟨dx, vr, po, vs, h1, h2, h3, h4⟩ => ⟨dx, vr, po, vs, h1, h2, Enc.mono _ l h3, h4.mono fun _ _ => Enc.mono _ l⟩, fun ⟨dx, vr, po, vs, h1, h2, _⟩ => by rw [h1, h2]; rfl⟩
/-- an open reader seen as if it were frozen -/
theorem rwr_view {B F H : Hp} {R : List (Addr × HO)} {p : Addr} {as : List Addr} {N : List (Addr × HO)} {x : RrM} (O : Fz B F H (N ++ R)) (r : (rRwr mg).rep F p as N x) : ∃ G, Le F G ∧ Le G H ∧ (eRwr mg).rep G (.ref p) x := by
  obtain ⟨dx, vr, po, vs, rfl, rfl, h3, h4⟩ := r
  have n : p ≠ po := by
    have := O.nd
    simp only [List.map_append, List.map_cons, List.cons_append, List.nodup_cons, List.mem_cons, not_or] at this
    exact this.1.1
  have hp := O.nF _ (List.mem_append_left _ (List.mem_cons_self ..))
  have hq := O.nF _ (List.mem_append_left _ (List.mem_cons_of_mem _ (List.mem_cons_self ..)))
  have ap := O.at_ _ (List.mem_append_left _ (List.mem_cons_self ..))
  have aq := O.at_ _ (List.mem_append_left _ (List.mem_cons_of_mem _ (List.mem_cons_self ..)))
  dsimp only at hp hq ap aq
  have l1 : Le F (upd F po (.lst vs)) := Le.upd hq
  have l2 := Le.upd (H := upd F po (.lst vs)) (p := p) (o := .ins (cad mg "Rewriter") dx [("_rewriting", vr), ("_mode", .int x.2.1), ("_opened", .ref po), ("_count", .int x.2.2.2)]) (by rw [upd_ne n]; exact hp)
  refine ⟨_, l1.trans l2, fun b o hb => ?_, p, dx, vr, .ref po, rfl, upd_same, Enc.mono _ (l1.trans l2) h3, po, vs, rfl, l2 _ _ upd_same, h4.mono fun _ _ => Enc.mono _ (l1.trans l2)⟩
  by_cases e : b = p
  · subst e; rw [upd_same] at hb; rw [← hb]; exact ap
  · rw [upd_ne e] at hb
    by_cases e2 : b = po
    · subst e2; rw [upd_same] at hb; rw [← hb]; exact aq
    · rw [upd_ne e2] at hb; exact O.leF _ _ hb
/-- a def that looks at open things only -/
theorem use_spWv {B F G H : Hp} {R : List (Addr × HO)} {ι ρ : Type} {n : Nat} {A : Hp → List V → ι → Prop} {er : Enc ρ} {vs : List V} {Q : VK} {E : XK} {m : ι → W ρ} {K : ρ → Prop} {i : ι} (O : Fz B F H R) (lG : Le G H) (hl : vs.length = n) (hA : A G vs i) (k : m i K) (q : ∀ y v F' H', Fz B F H' R → er.rep F' v y → K y → Q v H') : spW n A er m vs H Q E :=
  ⟨hl, G, i, K, lG, hA, k, fun y hy v F' H' l1 l2 e r => q y v F' H' (O.call l1 (O.leF.trans l1) Ex.rfl) r hy⟩
def spRwr (mg : Str → Option Value) : Sp := fun vs H Q _ => vs.length = 2 ∧ ∃ x dx vr, vs = [.ref x, vr] ∧ H x = some (.ins (cad mg "Rewriter") dx []) ∧ ∀ po H', H po = none → (∀ b o, b ≠ x → H b = some o → H' b = some o) →
  H' x = some (.ins (cad mg "Rewriter") dx [("_rewriting", vr), ("_mode", .int 0), ("_opened", .ref po), ("_count", .int 0)]) → H' po = some (.lst []) → Q .non H'
theorem hl_spRwr {mg : Str → Option Value} : ∀ vs H Q E, spRwr mg vs H Q E → vs.length = 2 := fun _ _ _ _ h => h.1
abbrev NM_Rewriter_init : List Str := ["self", "rewriting"]
theorem sc_Rewriter_init : FnScope NM_Rewriter_init ["self", "rewriting"] (defScope s_Rewriter_init) := ⟨rfl, rfl, rfl, by decide +kernel, rfl, by decide +kernel, by decide +kernel⟩
theorem d_Rewriter_init (T : Txt P K mg)  :
    MkP P w K mg base 1 "Rewriter" ["self", "rewriting"] (spRwr mg) := by
  obtain ⟨f, fd, M, F⟩ := T.o_Rewriter.ini
  refine MkP.make T.n_Rewriter M F sc_Rewriter_init (by first | exact NF.hl_spB | exact NF.hl_spP | exact NF.hl_spNew | exact NF.hl_spPX | exact NF.hl_spN | exact NF.hl_spNX | exact NF.hl_spW | exact NF.hl_spWb | exact NF.hl_spWX | exact NF.hl_spWm | exact NF.hl_spWo | exact hl_spRwr) (fun _ _ _ _ _ _ us hl => match us, hl with | [_, _], _ => rfl) (fun cdv A outer s H vs Q E hr h => ?_)
  refine ⟨_, (pss_cons (ps_fld (pv 0) (pv 1) rfl)
      (pss_cons (ps_fld (pv 0) pe_int rfl)
      (pss_cons (ps_fld (pv 0) (pe_lst pa_nil) rfl)
      (pss_one (ps_fld (pv 0) pe_int rfl))))), ?_⟩
  try dsimp only [cxOf, Cx.nox, Cx.wish]
  obtain ⟨hl, x, dx, vr, rfl, hx, q⟩ := h
  have O : Fz (del H x) (fun _ => none) H [(x, .ins (cad mg "Rewriter") dx [])] := Fz.startB (fun _ _ h => by cases h) hx rfl
  refine NF.x_seq (NF.x_fldS (NF.x_var rfl (NF.x_var rfl ⟨_, _, _, _, rfl, O.get 0 rfl, T.o_Rewriter.cl, T.o_Rewriter.nf _ (by simp), (show (0 : Nat) < 1000 by decide), ?_⟩)))
  have O := O.put 0 rfl (.ins (cad mg "Rewriter") dx (putF "_rewriting" vr []))
  refine NF.x_seq (NF.x_fldS (NF.x_c (NF.x_var rfl ⟨_, _, _, _, rfl, O.get 0 rfl, T.o_Rewriter.cl, T.o_Rewriter.nf _ (by simp), (show (1 : Nat) < 1000 by decide), ?_⟩)))
  have O := O.put 0 rfl (.ins (cad mg "Rewriter") dx (putF "_mode" (.int 0) (putF "_rewriting" vr [])))
  refine NF.x_seq (NF.x_fldS (NF.x_lst (NF.x_nil (NF.y_lstM O (show 0 ≤ sizeLine by decide) (fun po H1 O => NF.x_var rfl ⟨_, _, _, _, rfl, O.get 1 rfl, T.o_Rewriter.cl, T.o_Rewriter.nf _ (by simp), (show (2 : Nat) < 1000 by decide), ?_⟩)))))
  have O := O.put 1 rfl (.ins (cad mg "Rewriter") dx (putF "_opened" (.ref po) (putF "_mode" (.int 0) (putF "_rewriting" vr []))))
  refine NF.x_fldS (NF.x_c (NF.x_var rfl ⟨_, _, _, _, rfl, O.get 1 rfl, T.o_Rewriter.cl, T.o_Rewriter.nf _ (by simp), (show (3 : Nat) < 1000 by decide), ?_⟩))
  have O := O.put 1 rfl (.ins (cad mg "Rewriter") dx (putF "_count" (.int 0) (putF "_opened" (.ref po) (putF "_mode" (.int 0) (putF "_rewriting" vr [])))))
  have O : Fz (del H x) (fun _ => none) _ [(po, .lst []), (x, .ins (cad mg "Rewriter") dx [("_rewriting", vr), ("_mode", .int 0), ("_opened", .ref po), ("_count", .int 0)])] := O
  have n : po ≠ x := by
    have := O.nd
    simp only [List.map_cons, List.map_nil, List.nodup_cons, List.mem_cons, not_or] at this
    exact this.1.1
  have hn := O.nB _ (List.mem_cons_self ..)
  dsimp only at hn
  unfold del at hn
  rw [if_neg n] at hn
  exact q po _ hn (fun b o e h => O.leB b o (by unfold del; rw [if_neg e]; exact h)) (O.get 1 rfl) (O.get 0 rfl)


def m_read (x : RrM) (z : Str) : W (Except Int (Str × RrM)) := W.bind (m_Rewriter_first_wrong x z) fun o => W.onone o (W.bind (m_rewrite_letters x.1 x.2.1 x.2.2.1 z) fun t => W.chk (z.length ≤ sizeLine) <| W.ok (.ok (t.1.1, x.1, t.1.2, t.2, x.2.2.2 + (z.length : Int)))) fun i => W.ok (.error (x.2.2.2 + i))
/-- reader.read(letters): the letters and the reader as it is then, or the index of the wrong one and the reader as it was -/
def spRead (mg : Str → Option Value) : Sp := fun vs H Q E => vs.length = 2 ∧ ∃ F p as N x z K0, vs = [.ref p, .str z] ∧ Le F H ∧ At F H (N ++ []) ∧ (rRwr mg).rep F p as N x ∧ m_read x z K0 ∧
  (∀ y x', K0 (.ok (y, x')) → ∀ F' H' N', N'.map Prod.fst = N.map Prod.fst → At F' H' (N' ++ []) → (∀ b o, b ∉ (N ++ []).map Prod.fst → H b = some o → H' b = some o) → Le F' H' → Ex H F F' → (rRwr mg).rep F' p as N' x' → Q (.str y) H') ∧
  ∀ i, K0 (.error i) → ∀ d H', At F H' (N ++ []) → (∀ b o, H b = some o → H' b = some o) → Le F H' → H d = none → H' d = some (.xd [("index", .int i)]) → E (.ref (cad mg "NotNested")) (some d) H'
theorem hl_spRead {mg : Str → Option Value} : ∀ vs H Q E, spRead mg vs H Q E → vs.length = 2 := fun _ _ _ _ h => h.1
theorem x_fldA {ta tv : TE} {rd : V → V → Hp → VK → Prop} {f : Str} {D : Ends} {σ : L2.St} {H : Hp} (q : ta σ H fun x H1 => ∃ a C dx fs v, x = .ref a ∧ H1 a = some (.ins C dx fs) ∧ Cls K C ∧ NoAttr K C f ∧ fs.lookup f = some v ∧ tv σ H1 fun y H2 => rd v y H2 fun z H3 => ∃ dx' fs', H3 a = some (.ins C dx' fs') ∧ fs'.length < 1000 ∧ D.nx σ (upd H3 a (.ins C dx' (putF f z fs')))) : sFldAug K ta tv rd f D σ H := q
/-- what changed nothing that was handed in keeps the whole heap -/
theorem Fz.whole {F F1 H0 H : Hp} {M : List (Addr × HO)} (O : Fz (dels H0 (M.map Prod.fst)) F H M) (A : At F1 H0 M) : Le H0 H := fun b o h => by
  by_cases n : b ∈ M.map Prod.fst
  · obtain ⟨y, hy, rfl⟩ := List.mem_map.mp n
    have := A.at_ y hy
    rw [h] at this
    cases this
    exact O.at_ y hy
  · exact keepM O.leB b o n h
abbrev NM_Rewriter_read : List Str := ["self", "letters", "wrong", "written", "mode"]
theorem sc_Rewriter_read : FnScope NM_Rewriter_read ["self", "letters"] (defScope s_Rewriter_read) := ⟨rfl, rfl, rfl, by decide +kernel, rfl, by decide +kernel, by decide +kernel⟩
theorem d_Rewriter_read (Mm : OMth K (cad mg "Rewriter") "read" "Rewriter.read" s_Rewriter_read) (T : Txt P K mg) (D_Rewriter_first_wrong : DefM P w K mg base 1 "Rewriter" "_first_wrong" ["self", "letters"] (spW 2 (fun F vs (i : RrM × Str) => ∃ v0 v1, vs = [v0, v1] ∧ (eRwr mg).rep F v0 i.1 ∧ eStr.rep F v1 i.2) (eOpt eInt) (fun (i : RrM × Str) => m_Rewriter_first_wrong i.1 i.2))) (D_rewrite_letters : Def P w K mg base 2 "rewrite_letters" ["rewriting", "mode", "opened", "letters"] (spWm 4 (fun F (h : (Addr × List Addr)) W vs (i : RwM × Int × (List (Int × Nat)) × Str) => ∃ v0 v1 v3, vs = [v0, v1, .ref h.1, v3] ∧ ∃ N0, W = N0 ++ ([]) ∧ (rLst (eP2 eInt eChr)).rep F h.1 h.2 N0 i.2.2.1 ∧ (eRw mg).rep F v0 i.1 ∧ eInt.rep F v1 i.2.1 ∧ eStr.rep F v3 i.2.2.2) (fun _ F _ (h : (Addr × List Addr)) W v (y : (Str × Int) × (List (Int × Nat))) => ∃ N0, W = N0 ++ ([]) ∧ (rLst (eP2 eInt eChr)).rep F h.1 h.2 N0 y.2 ∧ (eP2 eStr eInt).rep F v y.1) (fun (i : RwM × Int × (List (Int × Nat)) × Str) => m_rewrite_letters i.1 i.2.1 i.2.2.1 i.2.2.2))) :
    DefMX P w K mg base 3 "Rewriter" "read" ["self", "letters"] (spRead mg) := by
  obtain ⟨f, fd, M, F⟩ := Mm
  refine DefMX.make T.o_Rewriter.cl M F sc_Rewriter_read (by first | exact NF.hl_spB | exact NF.hl_spP | exact NF.hl_spNew | exact NF.hl_spPX | exact NF.hl_spN | exact NF.hl_spNX | exact NF.hl_spW | exact NF.hl_spWb | exact NF.hl_spWX | exact NF.hl_spWm | exact NF.hl_spWo | exact hl_spRead) (fun _ _ _ _ _ _ us hl => match us, hl with | [_, _], _ => rfl) (fun cdv A outer s H vs Q E hr h tk po => ?_)
  refine ⟨_, (pss_cons (ps_set (i := 2) sc_Rewriter_read.nd rfl (Or.inl rfl) (pe_mt D_Rewriter_first_wrong rfl (hr.mono (by decide)) (pv 0) (pa_cons (pv 1) pa_nil)))
      (pss_cons (ps_if (pt_cmpR opNotN (pv 2) pe_non (nomark _))
      (pss_one (L2N.ps_raise rfl tk (pmk_x T.x_NotNested (hr.mono (by decide)) (by rfl) (pe_op op_add (pe_fld (pv 0) rfl) (pv 2)))))
      pss_nil)
      (pss_cons (ps_asg (pe_d D_rewrite_letters (hr.mono (by decide)) rfl (pa_cons (pe_fld (pv 0) rfl) (pa_cons (pe_fld (pv 0) rfl) (pa_cons (pe_fld (pv 0) rfl) (pa_cons (pv 1) pa_nil))))) (pg_tup (by rfl) (pgs_cons (pg_name (i := 3) sc_Rewriter_read.nd rfl (Or.inl rfl)) (pgs_cons (pg_name (i := 4) sc_Rewriter_read.nd rfl (Or.inl rfl)) pgs_nil))))
      (pss_cons (ps_fld (pv 0) (pv 4) rfl)
      (pss_cons (ps_fldaug (pv 0) (pe_callB (id := "len") callLen (by rfl) T.b_len (by decide +kernel) (pa_cons (pv 1) pa_nil)) in_add)
      (pss_one (ps_ret (pv 3)))))))), ?_⟩
  try dsimp only [cxOf, Cx.nox, Cx.wish]
  obtain ⟨hl, F, p, as, N, x, z, K0, rfl, hF, hAt, r, k, q, qe⟩ := h
  have O := Fz.startM hF hAt
  obtain ⟨G, l1, l2, rG⟩ := rwr_view O r
  obtain ⟨dx, vr, po, vs, rfl, rfl, h3, h4⟩ := r
  have O : Fz _ F H [(p, .ins (cad mg "Rewriter") dx [("_rewriting", vr), ("_mode", .int x.2.1), ("_opened", .ref po), ("_count", .int x.2.2.2)]), (po, .lst vs)] := O
  refine NF.x_seq (NF.x_asg (NF.x_meth (NF.x_var rfl ⟨p, dx, _, rfl, O.get 0 rfl, rfl, NF.x_cons (NF.x_var rfl (NF.x_nil (use_spWv (i := (x, z)) O l2 rfl ⟨_, _, rfl, rG, rfl⟩ k (fun y v F1 H1 O ry k => NF.x_name ?_))))⟩)))
  cases y with
  | some i =>
    have ry' : v = .int i := ry
    subst ry'
    have k := k.2 i rfl
    refine NF.x_seq (NF.x_ifs (NF.x_test (NF.x_op (NF.x_var rfl (NF.x_c (NF.x_notNi (NF.x_bl (NF.x_tt ?_))))))))
    refine NF.x_mkX (NF.x_op (NF.x_fld (NF.x_var rfl ⟨_, _, _, _, _, rfl, O.get 0 rfl, T.o_Rewriter.cl, T.o_Rewriter.nf _ (by simp), rfl, NF.x_var rfl (NF.x_I0 (fun d hd => ?_))⟩)))
    have O2 := O.ignore (o := .xd [("index", .int (x.2.2.2 + i))]) hd
    have lW : Le H H1 := Fz.whole (M := [(p, .ins (cad mg "Rewriter") dx [("_rewriting", vr), ("_mode", .int x.2.1), ("_opened", .ref po), ("_count", .int x.2.2.2)]), (po, .lst vs)]) O hAt
    exact qe _ k d _ (O2.atOf (List.Sublist.refl _)) (lW.trans (Le.upd hd)) O2.leF (none_of_le lW hd) upd_same
  | none =>
    have ry' : v = .non := ry
    subst ry'
    have k := k.1 rfl
    refine NF.x_seq (NF.x_ifs (NF.x_test (NF.x_op (NF.x_var rfl (NF.x_c (NF.x_notNn (NF.x_bl (NF.x_ff (NF.x_next ?_)))))))))
    refine NF.x_seq (NF.x_asg (NF.x_call (NF.x_cons (NF.x_fld (NF.x_var rfl ⟨_, _, _, _, _, rfl, O.get 0 rfl, T.o_Rewriter.cl, T.o_Rewriter.nf _ (by simp), rfl, NF.x_cons (NF.x_fld (NF.x_var rfl ⟨_, _, _, _, _, rfl, O.get 0 rfl, T.o_Rewriter.cl, T.o_Rewriter.nf _ (by simp), rfl, NF.x_cons (NF.x_fld (NF.x_var rfl ⟨_, _, _, _, _, rfl, O.get 0 rfl, T.o_Rewriter.cl, T.o_Rewriter.nf _ (by simp), rfl, NF.x_cons (NF.x_var rfl (NF.x_nil ?_))⟩))⟩))⟩)))))
    have O2 : Fz _ F H1 (([(po, .lst vs)] ++ []) ++ [(p, .ins (cad mg "Rewriter") dx [("_rewriting", vr), ("_mode", .int x.2.1), ("_opened", .ref po), ("_count", .int x.2.2.2)])]) := O.perm (List.Perm.swap _ _ _)
    refine NF.use_spWm (i := (x.1, x.2.1, x.2.2.1, z)) (po, [po]) O2 rfl ⟨_, _, _, rfl, [(po, .lst vs)], rfl, ⟨rfl, vs, rfl, h4⟩, h3, rfl, rfl⟩ k (fun y v F2 H2 W l0 O hP k => ?_)
    obtain ⟨N0, rfl, ⟨_, vs2, rfl, r4⟩, r5⟩ := hP
    refine NF.y_un2 O.leF r5 (fun w1 w2 q1 q2 => NF.g_cons (NF.x_name (NF.g_cons (NF.x_name (NF.g_nil ?_)))))
    cases q1
    cases q2
    obtain ⟨hz, k⟩ := k
    have O : Fz _ F2 H2 [(p, .ins (cad mg "Rewriter") dx [("_rewriting", vr), ("_mode", .int x.2.1), ("_opened", .ref po), ("_count", .int x.2.2.2)]), (po, .lst vs2)] := O.perm (List.Perm.swap _ _ _)
    refine NF.x_seq (NF.x_fldS (NF.x_var rfl (NF.x_var rfl ⟨_, _, _, _, rfl, O.get 0 rfl, T.o_Rewriter.cl, T.o_Rewriter.nf _ (by simp), (show (4 : Nat) < 1000 by decide), ?_⟩)))
    have O := O.put 0 rfl (.ins (cad mg "Rewriter") dx (putF "_mode" (.int y.1.2) [("_rewriting", vr), ("_mode", .int x.2.1), ("_opened", .ref po), ("_count", .int x.2.2.2)]))
    refine NF.x_seq (x_fldA (NF.x_var rfl ⟨_, _, _, _, _, rfl, O.get 0 rfl, T.o_Rewriter.cl, T.o_Rewriter.nf _ (by simp), rfl, NF.x_cb (NF.x_cons (NF.x_var rfl (NF.x_nil (NF.x_lenS hz ⟨_, _, rfl, rfl, dx, _, O.get 0 rfl, (show (4 : Nat) < 1000 by decide), ?_⟩))))⟩))
    have O := O.put 0 rfl (.ins (cad mg "Rewriter") dx (putF "_count" (.int (x.2.2.2 + (z.length : Int))) (putF "_mode" (.int y.1.2) [("_rewriting", vr), ("_mode", .int x.2.1), ("_opened", .ref po), ("_count", .int x.2.2.2)])))
    have O : Fz _ F2 _ ([(p, .ins (cad mg "Rewriter") dx [("_rewriting", vr), ("_mode", .int y.1.2), ("_opened", .ref po), ("_count", .int (x.2.2.2 + (z.length : Int)))]), (po, .lst vs2)] ++ []) := O
    refine NF.x_ret (NF.x_var rfl (q y.1.1 (x.1, y.1.2, y.2, x.2.2.2 + (z.length : Int)) k F2 _ [(p, .ins (cad mg "Rewriter") dx [("_rewriting", vr), ("_mode", .int y.1.2), ("_opened", .ref po), ("_count", .int (x.2.2.2 + (z.length : Int)))]), (po, .lst vs2)] rfl (O.atOf (List.Sublist.refl _)) (keepM O.leB) O.leF (exM l0 fun a ha => ?_) ⟨dx, vr, po, vs2, rfl, rfl, Enc.mono _ l0.le h3, r4⟩))
    have ha : a ∈ [p, po] := ha
    rcases List.mem_cons.mp ha with rfl | ha
    · exact O.nF (_, _) (List.mem_cons_self ..)
    · have e := List.mem_singleton.mp ha
      subst e
      exact O.nF (_, .lst vs2) (List.mem_cons_of_mem _ (List.mem_cons_self ..))


def m_result (a_rewriting : RwM) (a_text : Str) (a_mode : Int) : W (Except Exn (Str × Int)) :=
  W.bind (m_rewrite_letters a_rewriting a_mode ([] : List (Int × Nat)) a_text) fun y3 =>
  W.ok (.ok y3.1)
abbrev NM_result : List Str := ["rewriting", "text", "mode"]
theorem sc_result : FnScope NM_result ["rewriting", "text", "mode"] (defScope s_result) := ⟨rfl, rfl, rfl, by decide +kernel, rfl, by decide +kernel, by decide +kernel⟩
theorem d_result (F : FnD K mg "result" s_result [.int 0]) (T : Txt P K mg) (D_rewrite_letters : Def P w K mg base 2 "rewrite_letters" ["rewriting", "mode", "opened", "letters"] (spWm 4 (fun F (h : (Addr × List Addr)) W vs (i : RwM × Int × (List (Int × Nat)) × Str) => ∃ v0 v1 v3, vs = [v0, v1, .ref h.1, v3] ∧ ∃ N0, W = N0 ++ ([]) ∧ (rLst (eP2 eInt eChr)).rep F h.1 h.2 N0 i.2.2.1 ∧ (eRw mg).rep F v0 i.1 ∧ eInt.rep F v1 i.2.1 ∧ eStr.rep F v3 i.2.2.2) (fun _ F _ (h : (Addr × List Addr)) W v (y : (Str × Int) × (List (Int × Nat))) => ∃ N0, W = N0 ++ ([]) ∧ (rLst (eP2 eInt eChr)).rep F h.1 h.2 N0 y.2 ∧ (eP2 eStr eInt).rep F v y.1) (fun (i : RwM × Int × (List (Int × Nat)) × Str) => m_rewrite_letters i.1 i.2.1 i.2.2.1 i.2.2.2))) :
    DefX P w K mg base 3 "result" ["rewriting", "text", "mode"] [.int 0] (spWX mg 3 (fun F vs (i : RwM × Str × Int) => ∃ v0 v1 v2, vs = [v0, v1, v2] ∧ (eRw mg).rep F v0 i.1 ∧ eStr.rep F v1 i.2.1 ∧ eInt.rep F v2 i.2.2) (eP2 eStr eInt) (fun (i : RwM × Str × Int) => m_result i.1 i.2.1 i.2.2)) := by
  refine DefX.mkD F (by decide) 2 rfl sc_result (by first | exact NF.hl_spW | exact NF.hl_spWb | exact NF.hl_spWX | exact NF.hl_spWm | exact NF.hl_spWo) (fun _ _ _ _ _ _ _ us its hl hi => match us, hl, its, hi with | [_, _], _, [_], _ => ⟨_, rfl, rfl⟩) (fun cdv A outer s H vs Q E hr h tk po => ?_)
  refine ⟨_, (pss_one (ps_ret (pe_d D_rewrite_letters (hr.mono (by decide)) rfl (pa_cons (pv 0) (pa_cons (pv 2) (pa_cons (pe_lst pa_nil) (pa_cons (pv 1) pa_nil))))))), ?_⟩
  try dsimp only [cxOf, Cx.nox, Cx.wish]
  obtain ⟨hl, F, ⟨a_rewriting, a_text, a_mode⟩, K0, hF, ⟨v_rewriting, _, _, rfl, h_rewriting, rfl, rfl⟩, k, q, qe⟩ := h
  have O := NF.Fz.start hF
  have lF := NF.Ex.rfl (B := H) (F := F)
  exact (NF.x_ret (NF.x_call (NF.x_cons (NF.x_var rfl (NF.x_cons (NF.x_var rfl (NF.x_cons (NF.x_lst (NF.x_nil (NF.y_lstM O (show 0 ≤ sizeLine by decide) (fun p2 H O => (have O : NF.Fz _ F H ([(p2, HO.lst [])] ++ ([]) : List (Addr × HO)) := O; (have h1 : NF.RL ((eP2 eInt eChr).rep F) _ [] := .nil; (NF.x_cons (NF.x_var rfl (NF.x_nil (NF.use_spWm (i := (a_rewriting, a_mode, ([] : List (Int × Nat)), a_text)) (p2, [p2]) (NF.Fz.sel O (List.Perm.refl _) (NF.apS NF.ap0)) rfl ⟨_, _, _, rfl, _, rfl, ⟨rfl, _, rfl, h1⟩, h_rewriting, rfl, rfl⟩ k (fun y3 v7 F H W l0 O hP k => Exists.elim hP fun N8 hP => (have hW := hP.1; have hP := hP.2; Exists.elim hP.1.2 fun vs4 hE => (have e5 := hE.1; have h1 := hE.2; have hP := hP.2; have O := NF.Fz.reW (hW.trans (NF.reS e5 rfl)) O; (have h6 := hP; have O := NF.Fz.unsel O (NF.apS NF.ap0) (List.Perm.refl _); (have O : NF.Fz _ F H ([(p2, HO.lst vs4)] ++ ([]) : List (Addr × HO)) := O; (have h_rewriting := Enc.mono (eRw mg) l0.le h_rewriting; (have lF := Ex.trans lF l0; (q y3.1 k _ _ _ O.leB O.leF lF h6)))))))))))))))))))))))))

def m_Rewriting_call (a_self : RwM) (a_text : Str) : W (Str) :=
  W.bindN (m_checked a_text (2000 : Int)) fun y1 =>
  W.bindN (m_result a_self a_text (0 : Int)) fun y2 =>
  W.ok y2.1
abbrev NM_Rewriting_call : List Str := ["self", "text"]
theorem sc_Rewriting_call : FnScope NM_Rewriting_call ["self", "text"] (defScope s_Rewriting_call) := ⟨rfl, rfl, rfl, by decide +kernel, rfl, by decide +kernel, by decide +kernel⟩
theorem d_Rewriting_call (Mm : OCal K (cad mg "Rewriting") "Rewriting.__call__" s_Rewriting_call) (T : Txt P K mg) (D_checked : DefX P w K mg base 2 "checked" ["text", "limit"] [.int 2000] (spWX mg 2 (fun F vs (i : Str × Int) => ∃ v0 v1, vs = [v0, v1] ∧ eStr.rep F v0 i.1 ∧ eInt.rep F v1 i.2) eNon (fun (i : Str × Int) => m_checked i.1 i.2))) (D_result : DefX P w K mg base 3 "result" ["rewriting", "text", "mode"] [.int 0] (spWX mg 3 (fun F vs (i : RwM × Str × Int) => ∃ v0 v1 v2, vs = [v0, v1, v2] ∧ (eRw mg).rep F v0 i.1 ∧ eStr.rep F v1 i.2.1 ∧ eInt.rep F v2 i.2.2) (eP2 eStr eInt) (fun (i : RwM × Str × Int) => m_result i.1 i.2.1 i.2.2))) :
    DefC P w K mg base 4 "Rewriting" ["self", "text"] (spW 2 (fun F vs (i : RwM × Str) => ∃ v0 v1, vs = [v0, v1] ∧ (eRw mg).rep F v0 i.1 ∧ eStr.rep F v1 i.2) eStr (fun (i : RwM × Str) => m_Rewriting_call i.1 i.2)) := by
  refine DefC.make Mm sc_Rewriting_call (by first | exact NF.hl_spW | exact NF.hl_spWb | exact NF.hl_spWX | exact NF.hl_spWm | exact NF.hl_spWo) (fun _ _ _ _ _ _ us hl => match us, hl with | [_, _], _ => rfl) (fun cdv A outer s H vs Q E hr h => ?_)
  refine ⟨_, (pss_cons (ps_expr (pe_dx D_checked (hr.mono (by decide)) takesN0 (by rfl) (pa_cons (pv 1) pa_nil)))
      (pss_one (ps_ret (pe_ix ix_tup (pe_dx D_result (hr.mono (by decide)) takesN0 (by rfl) (pa_cons (pv 0) (pa_cons (pv 1) pa_nil))) pe_int (fun _ _ => rfl))))), ?_⟩
  try dsimp only [cxOf, Cx.nox, Cx.wish]
  obtain ⟨hl, F, ⟨a_self, a_text⟩, K0, hF, ⟨v_self, _, rfl, h_self, rfl⟩, k, q⟩ := h
  have O := NF.Fz.start hF
  have lF := NF.Ex.rfl (B := H) (F := F)
  refine (NF.x_seq (NF.x_drop (NF.x_callX (NF.x_cons (NF.x_var rfl (NF.x_nil (NF.use_spWX (i := (a_text, (2000 : Int))) O rfl ⟨_, _, rfl, rfl, rfl⟩ k (fun y1 v F H l0 O hv k => NF.byN v hv (have h_self := Enc.mono (eRw mg) l0.le h_self; (have lF := Ex.trans lF l0; ?_))) (fun e ke => ke.elim))))))))
  exact (NF.x_ret (NF.x_op (NF.x_callX (NF.x_cons (NF.x_var rfl (NF.x_cons (NF.x_var rfl (NF.x_nil (NF.use_spWX (i := (a_self, a_text, (0 : Int))) O rfl ⟨_, _, _, rfl, h_self, rfl, rfl⟩ k (fun y2 v3 F H l0 O h4 k => (have h_self := Enc.mono (eRw mg) l0.le h_self; (have lF := Ex.trans lF l0; (NF.x_c (NF.y_ix20 O.leF h4 (fun u hu => NF.byS u hu (q y2.1 k _ _ _ O.leB O.leF lF rfl))))))) (fun e ke => ke.elim))))))))))


/-- what a call of read tells -/
def eCall : Enc (Except Int Str) := ⟨fun F v r => match r with | .ok y => (eP2 eStr eStr).rep F v ("letters", y) | .error i => (eP2 eStr eInt).rep F v ("fault", i), fun {_ _ _ r} l h => match r, h with | .ok _, h => Enc.mono _ l h | .error _, h => Enc.mono _ l h⟩
def m_law_call (x : RrM) (z : Str) : W (Except Int Str × RrM) := W.bind (m_read x z) fun r => match r with
  | .ok (y, x') => W.ok (.ok y, x')
  | .error i => W.ok (.error i, x)
theorem Ex.step {H H' F F' F2 : Hp} (h5 : Ex H F F') (k : ∀ a o, H a = some o → ∃ o', H' a = some o') (e : Ex H' F' F2) : Ex H F F2 := ⟨h5.le.trans e.le, fun a o h1 h2 => by
  obtain ⟨o', h⟩ := k a o h2
  exact e.new a o' (h5.new a o h1 h2) h⟩
theorem At.some_of {F' H H' : Hp} {N N' : List (Addr × HO)} (h1 : N'.map Prod.fst = N.map Prod.fst) (h2 : At F' H' N') (h3 : ∀ b o, b ∉ N.map Prod.fst → H b = some o → H' b = some o) : ∀ a o, H a = some o → ∃ o', H' a = some o' := fun a o h => by
  by_cases n : a ∈ N.map Prod.fst
  · rw [← h1] at n
    obtain ⟨y, hy, rfl⟩ := List.mem_map.mp n
    exact ⟨_, h2.at_ y hy⟩
  · exact ⟨o, h3 a o n h⟩
theorem Fz.exW {F F' H0 H : Hp} {M : List (Addr × HO)} (O : Fz (dels H0 (M.map Prod.fst)) F' H M) (l : Ex (dels H0 (M.map Prod.fst)) F F') : Ex H0 F F' := exM l fun a ha => by
  obtain ⟨y, hy, rfl⟩ := List.mem_map.mp ha
  exact O.nF y hy
abbrev NM_law_call : List Str := ["reader", "letters", "told", "raised"]
theorem sc_law_call : FnScope NM_law_call ["reader", "letters"] (defScope s_law_call) := ⟨rfl, rfl, rfl, by decide +kernel, rfl, by decide +kernel, by decide +kernel⟩
theorem d_law_call (F : Fn0 K mg "_law_call" s_law_call) (T : Txt P K mg) (D_Rewriter_read : DefMX P w K mg base 3 "Rewriter" "read" ["self", "letters"] (spRead mg)) :
    Def P w K mg base 4 "_law_call" ["reader", "letters"] (spWm 2 (fun F (h : (Addr × List Addr)) W vs (i : (RrM) × Str) => ∃ v1, vs = [.ref h.1, v1] ∧ ∃ N0, W = N0 ++ ([]) ∧ (rRwr mg).rep F h.1 h.2 N0 i.1 ∧ eStr.rep F v1 i.2) (fun _ F _ (h : (Addr × List Addr)) W v (y : Except Int Str × (RrM)) => ∃ N0, W = N0 ++ ([]) ∧ (rRwr mg).rep F h.1 h.2 N0 y.2 ∧ eCall.rep F v y.1) (fun (i : (RrM) × Str) => m_law_call i.1 i.2)) := by
  refine Def.mk0 F sc_law_call (by first | exact NF.hl_spB | exact NF.hl_spP | exact NF.hl_spNew | exact NF.hl_spPX | exact NF.hl_spN | exact NF.hl_spNX | exact NF.hl_spW | exact NF.hl_spWb | exact NF.hl_spWX | exact NF.hl_spWm | exact NF.hl_spWo | exact hl_spWm) (fun _ _ _ _ _ _ us hl => match us, hl with | [_, _], _ => rfl) (fun cdv A outer s H vs Q E hr h => ?_)
  refine ⟨_, (pss_cons (ps_try_all rfl rfl takesN0 (fun _ _ _ tk po => (pss_one (ps_set (i := 2) sc_law_call.nd rfl (Or.inl rfl) (pe_mtX D_Rewriter_read rfl (hr.mono (by decide)) tk (pv 0) (pa_cons (pv 1) pa_nil)))))
      (HdA.named (i := 3) sc_law_call.nd rfl rfl ⟨rfl, by decide, Or.inl T.n_NestError⟩
      (fun a oe cls d pn hz hf => (pss_cons (ps_if (PW.pt (pw_and (pt_val (pe_callB (call_isX hz hf) (by rfl) T.b_isinstance (by decide +kernel) (pa_cons (pv 3) (pa_cons (pe_clsn T.n_NotNested rfl rfl) pa_nil)))) (pw_and1 (pt_val (pe_callB (call_isX hz hf) (by rfl) T.b_isinstance (by decide +kernel) (pa_cons (pv 3) (pa_cons (pe_ty (n := "ValueError") (by rfl) T.b_ValueError (by decide +kernel)) pa_nil)))))))
      (pss_one (ps_ret (pe_tup (pa_cons pe_str (pa_cons (pe_xfN hz hf (pv 3)) pa_nil)))))
      pss_nil)
      (pss_one (ps_ret (pe_tup (pa_cons pe_str (pa_cons (pe_un un_neg pe_int) pa_nil)))))))
      HdA.nil))
      (pss_one (ps_ret (pe_tup (pa_cons pe_str (pa_cons (pv 2) pa_nil)))))), ?_⟩
  try dsimp only [cxOf, Cx.nox, Cx.wish]
  obtain ⟨hl, F, ⟨p, as⟩, _, ⟨x, z⟩, K0, hF, hAt, ⟨_, rfl, N, rfl, r, hv⟩, k, q⟩ := h
  cases hv
  have fin : ∀ (y : Except Int Str × RrM), K0 y → ∀ v F' H' N', N'.map Prod.fst = N.map Prod.fst → At F' H' (N' ++ []) → (∀ b o, b ∉ (N ++ []).map Prod.fst → H b = some o → H' b = some o) → Le F' H' → Ex H F F' → (rRwr mg).rep F' p as N' y.2 → eCall.rep F' v y.1 → Q v H' := fun y hy v F' H' N' h1 h2 h3 h4 h5 h6 h7 => q y hy v F' H' (N' ++ []) (by rw [List.map_append, List.map_append, h1]) h2 h3 h4 h5 ⟨N', rfl, h6, h7⟩
  have r0 : (rRwr mg).rep F p as N x := r
  obtain ⟨dx, vr, po, vs, ha, hN, h3, h4⟩ := r
  dsimp only at ha hN
  subst ha
  have hp : H p = some (.ins (cad mg "Rewriter") dx [("_rewriting", vr), ("_mode", .int x.2.1), ("_opened", .ref po), ("_count", .int x.2.2.2)]) := hAt.at_ _ (List.mem_append_left _ (by rw [hN]; exact List.mem_cons_self ..))
  refine NF.x_seq (NF.x_asg (x_methX (NF.x_var rfl ⟨p, dx, _, rfl, hp, rfl, NF.x_cons (NF.x_var rfl (NF.x_nil ?_))⟩)))
  refine ⟨rfl, F, p, _, N, x, z, _, rfl, hF, hAt, r0, k, ?_, ?_⟩
  · intro y x' ky F' H' N' h1 h2 h3 h4 h5 h6
    have O := Fz.startM h4 h2
    refine NF.x_name (NF.x_ret (NF.x_tup (NF.x_cons (NF.x_c (NF.x_cons (NF.x_var rfl (NF.x_nil (NF.y_tup O (show 2 ≤ sizeLine by decide) (fun t F2 H2 ht l0 O => ?_)))))))))
    have lW := Fz.whole O h2
    exact fin (.ok y, x') ky _ F2 H2 N' h1 (O.atOf (List.Sublist.refl _)) (fun b o n h => lW _ _ (h3 b o n h)) O.leF (Ex.step h5 (At.some_of (by rw [List.map_append, List.map_append, h1]) h2 h3) (Fz.exW O l0)) ((rRwr mg).mono l0.le h6) ⟨t, _, _, rfl, ht, rfl, rfl⟩
  · intro i ki d H' hA hk hl hd hx
    refine ⟨true, T.p_NotNested_NestError.exm, fun _ a ha => ?_, fun h => Bool.noConfusion h⟩
    have O := Fz.startM hl hA
    dsimp only [endsOf, startOf]
    walk_at "gw"
    refine NF.x_isXC T.x_NotNested T.p_NotNested_NotNested hx ?_
    walk_at "gw"
    refine NF.x_isXB T.x_NotNested T.p_NotNested_ValueError hx ?_
    walk_at "gw"
    refine NF.x_xfV T.x_NotNested rfl hx ?_
    walk_at "gw"
    refine NF.y_tup O (show 2 ≤ sizeLine by decide) (fun t F2 H2 ht l0 O => ?_)
    have lW := Fz.whole O hA
    exact fin (.error i, x) ki _ F2 H2 N rfl (O.atOf (List.Sublist.refl _)) (fun b o n h => lW _ _ (hk b o h)) O.leF (Ex.step Ex.rfl (fun a o h => ⟨o, hk a o h⟩) (Fz.exW O l0)) ((rRwr mg).mono l0.le r0) ⟨t, _, _, rfl, ht, rfl, rfl⟩


theorem y_obj_Rewriter {F H : Hp} {v : V} {x : RrM} {Z : Prop} (l : Le F H) (h : (eRwr mg).rep F v x) (q : ∀ a dx fs, v = .ref a → H a = some (.ins (cad mg "Rewriter") dx fs) → (eRwr mg).rep F (.ref a) x → Z) : Z := by
  obtain ⟨a, dx, vr, vo, rfl, h0, h1, h2⟩ := h
  exact q a dx _ rfl (l _ _ h0) ⟨a, dx, vr, vo, rfl, h0, h1, h2⟩
def m_law_is_integer (a_actual : Int) : W (Bool) :=
  W.ok (true && (!false))
abbrev NM_law_is_integer : List Str := ["actual"]
theorem sc_law_is_integer : FnScope NM_law_is_integer ["actual"] (defScope s_law_is_integer) := ⟨rfl, rfl, rfl, by decide +kernel, rfl, by decide +kernel, by decide +kernel⟩
theorem d_law_is_integer (F : Fn0 K mg "_law_is_integer" s_law_is_integer) (T : Txt P K mg)  :
    Def P w K mg base 1 "_law_is_integer" ["actual"] (spW 1 (fun F vs (i : Int) => ∃ v0, vs = [v0] ∧ eInt.rep F v0 i) eBool (fun (i : Int) => m_law_is_integer i)) := by
  refine Def.mk0 F sc_law_is_integer (by first | exact NF.hl_spW | exact NF.hl_spWb | exact NF.hl_spWX | exact NF.hl_spWm | exact NF.hl_spWo) (fun _ _ _ _ _ _ us hl => match us, hl with | [_], _ => rfl) (fun cdv A outer s H vs Q E hr h => ?_)
  refine ⟨_, (pss_one (ps_ret (pe_and (pe_callB callIsT (by rfl) T.b_isinstance (by decide +kernel) (pa_cons (pv 0) (pa_cons (pe_ty (n := "int") (by rfl) T.b_int (by decide +kernel)) pa_nil))) (pe_one (pe_not (pe_callB callIsT (by rfl) T.b_isinstance (by decide +kernel) (pa_cons (pv 0) (pa_cons (pe_ty (n := "bool") (by rfl) T.b_bool (by decide +kernel)) pa_nil)))))))), ?_⟩
  try dsimp only [cxOf, Cx.nox, Cx.wish]
  obtain ⟨hl, F, a_actual, K0, hF, ⟨_, rfl, rfl⟩, k, q⟩ := h
  have O := NF.Fz.start hF
  have lF := NF.Ex.rfl (B := H) (F := F)
  exact (NF.x_ret (NF.y_and (fun Q q => (NF.x_cb (NF.x_cons (NF.x_var rfl (NF.x_cons (NF.x_c (NF.x_nil (NF.x_isI NF.kit_int_int q)))))))) (fun g1 Q q => (NF.x_notV (NF.x_cb (NF.x_cons (NF.x_var rfl (NF.x_cons (NF.x_c (NF.x_nil (NF.x_isI NF.kit_int_bool ⟨_, rfl, q⟩))))))))) (q (true && (!false)) k _ _ _ O.leB O.leF lF rfl)))

def m_law_stands (a_reader : RrM) (a_state : (List (Int × Nat)) × Int × Int) : W (Bool) :=
  W.bind (m_Rewriter_current_mode a_reader) fun y3 =>
  W.bind (m_Rewriter_depth a_reader) fun y6 =>
  W.bind (m_law_is_integer y3) fun y7 =>
  W.ite (!y7) (W.ok false)
  (W.bind (m_law_is_integer y6) fun y8 =>
  W.ite (!y8) (W.ok false)
  (W.ite (decide (y3 = a_state.2.1)) (W.ok (decide (y6 = (a_state.1.length : Int))))
  (W.ok false)))
abbrev NM_law_stands : List Str := ["reader", "state", "mode", "many"]
theorem sc_law_stands : FnScope NM_law_stands ["reader", "state"] (defScope s_law_stands) := ⟨rfl, rfl, rfl, by decide +kernel, rfl, by decide +kernel, by decide +kernel⟩
theorem d_law_stands (F : Fn0 K mg "_law_stands" s_law_stands) (T : Txt P K mg) (D_Rewriter_current_mode : PrG P w K mg base 1 "Rewriter" "current_mode" ["self"] (spW 1 (fun F vs (i : RrM) => ∃ v0, vs = [v0] ∧ (eRwr mg).rep F v0 i) eInt (fun (i : RrM) => m_Rewriter_current_mode i))) (D_Rewriter_depth : PrG P w K mg base 1 "Rewriter" "depth" ["self"] (spW 1 (fun F vs (i : RrM) => ∃ v0, vs = [v0] ∧ (eRwr mg).rep F v0 i) eInt (fun (i : RrM) => m_Rewriter_depth i))) (D_law_is_integer : Def P w K mg base 1 "_law_is_integer" ["actual"] (spW 1 (fun F vs (i : Int) => ∃ v0, vs = [v0] ∧ eInt.rep F v0 i) eBool (fun (i : Int) => m_law_is_integer i))) :
    Def P w K mg base 3 "_law_stands" ["reader", "state"] (spW 2 (fun F vs (i : RrM × ((List (Int × Nat)) × Int × Int)) => ∃ v0 v1, vs = [v0, v1] ∧ (eRwr mg).rep F v0 i.1 ∧ (eR3 "nodes" (eLst (eP2 eInt eChr)) "mode" eInt "seen" eInt).rep F v1 i.2) eBool (fun (i : RrM × ((List (Int × Nat)) × Int × Int)) => m_law_stands i.1 i.2)) := by
  refine Def.mk0 F sc_law_stands (by first | exact NF.hl_spW | exact NF.hl_spWb | exact NF.hl_spWX | exact NF.hl_spWm | exact NF.hl_spWo) (fun _ _ _ _ _ _ us hl => match us, hl with | [_, _], _ => rfl) (fun cdv A outer s H vs Q E hr h => ?_)
  refine ⟨_, (pss_cons (ps_set (i := 2) sc_law_stands.nd rfl (Or.inl rfl) (pe_prg D_Rewriter_current_mode rfl (hr.mono (by decide)) (pv 0)))
      (pss_cons (ps_set (i := 3) sc_law_stands.nd rfl (Or.inl rfl) (pe_prg D_Rewriter_depth rfl (hr.mono (by decide)) (pv 0)))
      (pss_cons (ps_if (PW.pt (pw_or (pt_not (pt_val (pe_d D_law_is_integer (hr.mono (by decide)) rfl (pa_cons (pv 2) pa_nil)))) (pw_or1 (pt_not (pt_val (pe_d D_law_is_integer (hr.mono (by decide)) rfl (pa_cons (pv 3) pa_nil)))))))
      (pss_one (ps_ret pe_bl))
      pss_nil)
      (pss_one (ps_ret (pe_and (pe_cmpR op_eq (pv 2) (pe_dget (NF.u1 hr.units) (pv 1) pe_str (fun _ _ => rfl)) (nomark _)) (pe_one (pe_cmpR op_eq (pv 3) (pe_callB (id := "len") callLen (by rfl) T.b_len (by decide +kernel) (pa_cons (pe_dget (NF.u1 hr.units) (pv 1) pe_str (fun _ _ => rfl)) pa_nil)) (nomark _))))))))), ?_⟩
  try dsimp only [cxOf, Cx.nox, Cx.wish]
  obtain ⟨hl, F, ⟨a_reader, a_state⟩, K0, hF, ⟨v_reader, v_state, rfl, h_reader, h_state⟩, k, q⟩ := h
  have O := NF.Fz.start hF
  have lF := NF.Ex.rfl (B := H) (F := F)
  unfold m_law_stands at k
  refine (NF.x_seq (NF.x_asg (NF.x_propE (NF.x_var rfl (NF.y_obj_Rewriter O.leF h_reader (fun a2 dx fs hv hH h1 => ⟨a2, dx, fs, hv, hH, (NF.use_spW (i := a_reader) O rfl ⟨_, rfl, h1⟩ k (fun y3 v F H l0 O hv k => NF.byI v hv (have h_reader := Enc.mono (eRwr mg) l0.le h_reader; (have h_state := Enc.mono (eR3 "nodes" (eLst (eP2 eInt eChr)) "mode" eInt "seen" eInt) l0.le h_state; (have lF := Ex.trans lF l0; (NF.x_name ?_))))))⟩))))))
  refine (NF.x_seq (NF.x_asg (NF.x_propE (NF.x_var rfl (NF.y_obj_Rewriter O.leF h_reader (fun a5 dx fs hv hH h4 => ⟨a5, dx, fs, hv, hH, (NF.use_spW (i := a_reader) O rfl ⟨_, rfl, h4⟩ k (fun y6 v F H l0 O hv k => NF.byI v hv (have h_reader := Enc.mono (eRwr mg) l0.le h_reader; (have h_state := Enc.mono (eR3 "nodes" (eLst (eP2 eInt eChr)) "mode" eInt "seen" eInt) l0.le h_state; (have lF := Ex.trans lF l0; (NF.x_name ?_))))))⟩))))))
  refine (NF.x_seq (NF.x_ifs (NF.x_or (NF.x_not (NF.x_B (NF.x_call (NF.x_cons (NF.x_var rfl (NF.x_nil (NF.use_spW (i := y3) O rfl ⟨_, rfl, rfl⟩ k (fun y7 v F H l0 O hv k => NF.byB v hv (have h_reader := Enc.mono (eRwr mg) l0.le h_reader; (have h_state := Enc.mono (eR3 "nodes" (eLst (eP2 eInt eChr)) "mode" eInt "seen" eInt) l0.le h_state; (have lF := Ex.trans lF l0; (NF.x_bl (NF.x_itb (fun g13 => (have k := k.1 g13; (NF.x_tt ?n14))) (fun g13 => (have k := k.2 g13; (NF.x_not (NF.x_B (NF.x_call (NF.x_cons (NF.x_var rfl (NF.x_nil (NF.use_spW (i := y6) O rfl ⟨_, rfl, rfl⟩ k (fun y8 v F H l0 O hv k => NF.byB v hv (have h_reader := Enc.mono (eRwr mg) l0.le h_reader; (have h_state := Enc.mono (eR3 "nodes" (eLst (eP2 eInt eChr)) "mode" eInt "seen" eInt) l0.le h_state; (have lF := Ex.trans lF l0; (NF.x_bl (NF.x_itb (fun g12 => (have k := k.1 g12; ?n15)) (fun g12 => (have k := k.2 g12; ?n16)))))))))))))))))))))))))))))))))
  case n14 =>
    exact (NF.x_ret (NF.x_c (q false k _ _ _ O.leB O.leF lF rfl)))
  case n15 =>
    exact (NF.x_ret (NF.x_c (q false k _ _ _ O.leB O.leF lF rfl)))
  case n16 =>
    refine NF.x_next ?_
    exact (NF.x_ret (NF.x_andV (NF.x_op (NF.x_var rfl (NF.x_dget (NF.x_var rfl (NF.x_c (NF.y_rix31 O.leF h_state (fun _ _ _ => rfl) (fun u hu => NF.byI u hu (NF.y_eqI ⟨_, rfl, (NF.x_itb (fun g9 => (have k := k.1 g9; (NF.x_op (NF.x_var rfl (NF.x_cb (NF.x_cons (NF.x_dget (NF.x_var rfl (NF.x_c (NF.y_rix30 O.leF h_state (fun _ _ _ => rfl) (fun v10 h11 => (NF.x_nil (NF.y_lenL O.leF h11 (NF.y_eqI (q (decide (y6 = (a_state.1.length : Int))) k _ _ _ O.leB O.leF lF rfl))))))))))))))) (fun g9 => (have k := k.2 g9; (q false k _ _ _ O.leB O.leF lF rfl))))⟩))))))))))


abbrev StM := List (Int × Nat) × Int × Int
def m_tail (x : RrM) (s : StM) : W (Bool × RrM) := W.bind (m_law_stands x s) fun b => W.ok (b, x)
def m_law_agrees (x : RrM) (z : Str) (due : Int × List Str × StM) : W (Bool × RrM) := W.bind (m_law_call x z) fun r => W.ite (decide (0 ≤ due.1))
  (match r.1 with
    | .ok _ => W.ok (false, r.2)
    | .error i => W.bind (m_law_is_integer i) fun b => W.ite b (W.ite (decide (i = due.1)) (m_tail r.2 due.2.2) (W.ok (false, r.2))) (W.ok (false, r.2)))
  (match r.1 with
    | .error _ => W.ok (false, r.2)
    | .ok y => W.chk ((due.2.1.map (·.length)).sum + due.2.1.length * (Str.ofString "").length ≤ 16777216) <| W.ite (decide (y = Txt.join (Str.ofString "") due.2.1)) (m_tail r.2 due.2.2) (W.ok (false, r.2)))
abbrev NM_law_agrees : List Str := ["reader", "letters", "due", "actual"]
theorem sc_law_agrees : FnScope NM_law_agrees ["reader", "letters", "due"] (defScope s_law_agrees) := ⟨rfl, rfl, rfl, by decide +kernel, rfl, by decide +kernel, by decide +kernel⟩
theorem d_law_agrees (F : Fn0 K mg "_law_agrees" s_law_agrees) (T : Txt P K mg) (D_law_call : Def P w K mg base 4 "_law_call" ["reader", "letters"] (spWm 2 (fun F (h : (Addr × List Addr)) W vs (i : (RrM) × Str) => ∃ v1, vs = [.ref h.1, v1] ∧ ∃ N0, W = N0 ++ ([]) ∧ (rRwr mg).rep F h.1 h.2 N0 i.1 ∧ eStr.rep F v1 i.2) (fun _ F _ (h : (Addr × List Addr)) W v (y : Except Int Str × (RrM)) => ∃ N0, W = N0 ++ ([]) ∧ (rRwr mg).rep F h.1 h.2 N0 y.2 ∧ eCall.rep F v y.1) (fun (i : (RrM) × Str) => m_law_call i.1 i.2))) (D_law_stands : Def P w K mg base 3 "_law_stands" ["reader", "state"] (spW 2 (fun F vs (i : RrM × ((List (Int × Nat)) × Int × Int)) => ∃ v0 v1, vs = [v0, v1] ∧ (eRwr mg).rep F v0 i.1 ∧ (eR3 "nodes" (eLst (eP2 eInt eChr)) "mode" eInt "seen" eInt).rep F v1 i.2) eBool (fun (i : RrM × ((List (Int × Nat)) × Int × Int)) => m_law_stands i.1 i.2))) (D_law_is_integer : Def P w K mg base 1 "_law_is_integer" ["actual"] (spW 1 (fun F vs (i : Int) => ∃ v0, vs = [v0] ∧ eInt.rep F v0 i) eBool (fun (i : Int) => m_law_is_integer i))) :
    Def P w K mg base 5 "_law_agrees" ["reader", "letters", "due"] (spWm 3 (fun F (h : (Addr × List Addr)) W vs (i : (RrM) × Str × (Int × (List Str) × ((List (Int × Nat)) × Int × Int))) => ∃ v1 v2, vs = [.ref h.1, v1, v2] ∧ ∃ N0, W = N0 ++ ([]) ∧ (rRwr mg).rep F h.1 h.2 N0 i.1 ∧ eStr.rep F v1 i.2.1 ∧ (eP3 eInt (eLst eStr) (eR3 "nodes" (eLst (eP2 eInt eChr)) "mode" eInt "seen" eInt)).rep F v2 i.2.2) (fun _ F _ (h : (Addr × List Addr)) W v (y : Bool × (RrM)) => ∃ N0, W = N0 ++ ([]) ∧ (rRwr mg).rep F h.1 h.2 N0 y.2 ∧ eBool.rep F v y.1) (fun (i : (RrM) × Str × (Int × (List Str) × ((List (Int × Nat)) × Int × Int))) => m_law_agrees i.1 i.2.1 i.2.2)) := by
  refine Def.mk0 F sc_law_agrees (by first | exact NF.hl_spB | exact NF.hl_spP | exact NF.hl_spNew | exact NF.hl_spPX | exact NF.hl_spN | exact NF.hl_spNX | exact NF.hl_spW | exact NF.hl_spWb | exact NF.hl_spWX | exact NF.hl_spWm | exact NF.hl_spWo | exact hl_spWm) (fun _ _ _ _ _ _ us hl => match us, hl with | [_, _, _], _ => rfl) (fun cdv A outer s H vs Q E hr h => ?_)
  refine ⟨_, (pss_cons (ps_set (i := 3) sc_law_agrees.nd rfl (Or.inl rfl) (pe_d D_law_call (hr.mono (by decide)) rfl (pa_cons (pv 0) (pa_cons (pv 1) pa_nil))))
      (Evl.pss_cut (ps_if (pt_cmpR op_ge (pe_ix ix_tup (pv 2) pe_int (fun _ _ => rfl)) pe_int (nomark _))
      (pss_one (ps_if (PW.pt (pw_or (pt_cmpR op_ne (pe_ix ix_tup (pv 3) pe_int (fun _ _ => rfl)) pe_str (nomark _)) (pw_or (pt_not (pt_val (pe_d D_law_is_integer (hr.mono (by decide)) rfl (pa_cons (pe_ix ix_tup (pv 3) pe_int (fun _ _ => rfl)) pa_nil)))) (pw_or1 (pt_cmpR op_ne (pe_ix ix_tup (pv 3) pe_int (fun _ _ => rfl)) (pe_ix ix_tup (pv 2) pe_int (fun _ _ => rfl)) (nomark _))))))
      (pss_one (ps_ret pe_bl))
      pss_nil))
      (pss_one (ps_if (PW.pt (pw_or (pt_cmpR op_ne (pe_ix ix_tup (pv 3) pe_int (fun _ _ => rfl)) pe_str (nomark _)) (pw_or (pt_not (pt_val (pe_callB callIsT (by rfl) T.b_isinstance (by decide +kernel) (pa_cons (pe_ix ix_tup (pv 3) pe_int (fun _ _ => rfl)) (pa_cons (pe_ty (n := "str") (by rfl) T.b_str (by decide +kernel)) pa_nil))))) (pw_or1 (pt_cmpR op_ne (pe_ix ix_tup (pv 3) pe_int (fun _ _ => rfl)) (pe_bm PySem.F.plainAttrs_str PySem.F.slot_str_join PySem.F.type_str_join mtJoin pe_str (pa_cons (pe_ix ix_tup (pv 2) pe_int (fun _ _ => rfl)) pa_nil)) (nomark _))))))
      (pss_one (ps_ret pe_bl))
      pss_nil)))
      (pss_one (ps_ret (pe_d D_law_stands (hr.mono (by decide)) rfl (pa_cons (pv 0) (pa_cons (pe_ix ix_tup (pv 2) pe_int (fun _ _ => rfl)) pa_nil))))))), ?_⟩
  try dsimp only [cxOf, Cx.nox, Cx.wish]
  obtain ⟨hl, F, ⟨p, as⟩, _, ⟨x, z, due⟩, K0, hF, hAt, ⟨_, v2, rfl, N, rfl, r, hz, hd⟩, k, q⟩ := h
  cases hz
  have O : Fz (dels H ((N ++ []).map Prod.fst)) F H ((N ++ []) ++ []) := by
    rw [List.append_nil (N ++ [])]
    exact Fz.startM hF hAt
  unfold m_law_agrees at k
  refine NF.x_seq (NF.x_asg (NF.x_call (NF.x_cons (NF.x_var rfl (NF.x_cons (NF.x_var rfl (NF.x_nil (NF.use_spWm (i := (x, z)) (p, as) O rfl ⟨_, rfl, N, rfl, r, rfl⟩ k (fun y v F1 H1 W l0 O hP k => ?_)))))))))
  obtain ⟨N1, rfl, r1, h1⟩ := hP
  have hN : N1.map Prod.fst = N.map Prod.fst := (rRwr mg).dom r1 |>.trans ((rRwr mg).dom r).symm
  rw [List.append_nil (N1 ++ [])] at O
  have hd := Enc.mono _ l0.le hd
  obtain ⟨rr, x'⟩ := y
  dsimp only at r1 h1 k
  have fin : ∀ (b : Bool), K0 (b, x') → ∀ F' H', Fz (dels H ((N ++ []).map Prod.fst)) F' H' (N1 ++ []) → Ex (dels H ((N ++ []).map Prod.fst)) F F' → (rRwr mg).rep F' p as N1 x' → Q (.bl b) H' := fun b hb F' H' O lF r2 => NF.ret_m (P := fun _ F _ (h : Addr × List Addr) W v (y : Bool × RrM) => ∃ N0, W = N0 ++ [] ∧ (rRwr mg).rep F h.1 h.2 N0 y.2 ∧ eBool.rep F v y.1) (h := (p, as)) (W := N ++ []) (W' := N1 ++ []) q (b, x') hb O (by rw [List.map_append, List.map_append, hN]) lF ⟨N1, rfl, r2, rfl⟩
  have lF := l0
  refine NF.x_name ?_
  refine ⟨fun σ' H' => ∃ F', σ' = [some (.ref p), some (.str z), some v2, some v] ∧ Fz (dels H ((N ++ []).map Prod.fst)) F' H' (N1 ++ []) ∧ Ex (dels H ((N ++ []).map Prod.fst)) F1 F' ∧ m_tail x' due.2.2 K0, ?_, ?_⟩
  · cases rr with
    | ok y =>
      have h1 : (eP2 eStr eStr).rep F1 v (Str.ofString "letters", y) := h1
      refine NF.x_ifs (NF.x_test (NF.x_op (NF.x_op (NF.x_var rfl (NF.x_c (NF.y_ix30 O.leF hd (fun u hu => NF.byI u hu (NF.x_c (NF.x_I0 (NF.x_bl (NF.x_itb (fun g => ?_) (fun g => ?_))))))))))))
      · have k : K0 (false, x') := k.1 g
        refine NF.x_ifs (NF.x_or (NF.x_test (NF.x_op (NF.x_op (NF.x_var rfl (NF.x_c (NF.y_ix20 (e1 := eStr) (e2 := eStr) O.leF h1 (fun u hu => NF.byS u hu (NF.x_c (NF.y_neS (NF.x_bl (NF.x_itb (fun _ => ?_) (fun g => absurd g (show ¬ (!decide (Str.ofString "letters" = Str.ofString "fault")) = false by decide))))))))))))))
        exact NF.x_tt (NF.x_ret (NF.x_c (fin false k _ _ O lF r1)))
      · have k := k.2 g
        obtain ⟨hj, k⟩ := k
        refine NF.x_ifs (NF.x_or (NF.x_test (NF.x_op (NF.x_op (NF.x_var rfl (NF.x_c (NF.y_ix20 (e1 := eStr) (e2 := eStr) O.leF h1 (fun u hu => NF.byS u hu (NF.x_c (NF.y_neS (NF.x_bl (NF.x_itb (fun g => absurd g (show ¬ (!decide (Str.ofString "letters" = Str.ofString "letters")) = true by decide)) (fun _ => ?_)))))))))))))
        refine NF.x_or (NF.x_not (NF.x_B (NF.x_cb (NF.x_cons (NF.x_op (NF.x_var rfl (NF.x_c (NF.y_ix21 (e1 := eStr) (e2 := eStr) O.leF h1 (fun u hu => NF.byS u hu (NF.x_cons (NF.x_c (NF.x_nil (NF.x_isS NF.kit_str_str (NF.x_bl (NF.x_itb (fun g => absurd g (by decide)) (fun _ => ?_))))))))))))))))
        refine NF.x_test (NF.x_op (NF.x_op (NF.x_var rfl (NF.x_c (NF.y_ix21 (e1 := eStr) (e2 := eStr) O.leF h1 (fun u hu => NF.byS u hu (NF.x_bm (NF.x_c (NF.x_tyS (NF.x_cons (NF.x_op (NF.x_var rfl (NF.x_c (NF.y_ix31 O.leF hd (fun w hw => (NF.x_nil (NF.y_joinL O.leF hw hj (NF.y_neS (NF.x_bl (NF.x_itb (fun g => ?_) (fun g => ?_)))))))))))))))))))))
        · have k : K0 (false, x') := k.2 (by simpa using g)
          exact NF.x_ret (NF.x_c (fin false k _ _ O lF r1))
        · exact NF.x_next ⟨F1, rfl, O, Ex.rfl, k.1 (by simpa using g)⟩
    | error i =>
      have h1 : (eP2 eStr eInt).rep F1 v (Str.ofString "fault", i) := h1
      refine NF.x_ifs (NF.x_test (NF.x_op (NF.x_op (NF.x_var rfl (NF.x_c (NF.y_ix30 O.leF hd (fun u hu => NF.byI u hu (NF.x_c (NF.x_I0 (NF.x_bl (NF.x_itb (fun g => ?_) (fun g => ?_))))))))))))
      · have k := k.1 g
        refine NF.x_ifs (NF.x_or (NF.x_test (NF.x_op (NF.x_op (NF.x_var rfl (NF.x_c (NF.y_ix20 (e1 := eStr) (e2 := eInt) O.leF h1 (fun u hu => NF.byS u hu (NF.x_c (NF.y_neS (NF.x_bl (NF.x_itb (fun g => absurd g (show ¬ (!decide (Str.ofString "fault" = Str.ofString "fault")) = true by decide)) (fun _ => ?_)))))))))))))
        refine NF.x_or (NF.x_not (NF.x_B (NF.x_call (NF.x_cons (NF.x_op (NF.x_var rfl (NF.x_c (NF.y_ix21 (e1 := eStr) (e2 := eInt) O.leF h1 (fun u hu => NF.byI u hu (NF.x_nil (NF.use_spW (i := i) O rfl ⟨_, rfl, rfl⟩ k (fun b v3 F3 H3 l3 O hb k => NF.byB v3 hb (NF.x_bl (NF.x_itb (fun g => ?_) (fun g => ?_)))))))))))))))
        · have k : K0 (false, x') := k.2 (by simpa using g)
          exact NF.x_tt (NF.x_ret (NF.x_c (fin false k _ _ O (lF.trans l3) ((rRwr mg).mono l3.le r1))))
        · have k := k.1 (by simpa using g)
          refine NF.x_test (NF.x_op (NF.x_op (NF.x_var rfl (NF.x_c (NF.y_ix21 (e1 := eStr) (e2 := eInt) O.leF (Enc.mono _ l3.le h1) (fun u hu => NF.byI u hu (NF.x_op (NF.x_var rfl (NF.x_c (NF.y_ix30 O.leF (Enc.mono _ l3.le hd) (fun w hw => NF.byI w hw (NF.y_neI (NF.x_bl (NF.x_itb (fun g => ?_) (fun g => ?_)))))))))))))))
          · have k : K0 (false, x') := k.2 (by simpa using g)
            exact NF.x_ret (NF.x_c (fin false k _ _ O (lF.trans l3) ((rRwr mg).mono l3.le r1)))
          · exact NF.x_next ⟨F3, rfl, O, l3, k.1 (by simpa using g)⟩
      · have k : K0 (false, x') := k.2 g
        refine NF.x_ifs (NF.x_or (NF.x_test (NF.x_op (NF.x_op (NF.x_var rfl (NF.x_c (NF.y_ix20 (e1 := eStr) (e2 := eInt) O.leF h1 (fun u hu => NF.byS u hu (NF.x_c (NF.y_neS (NF.x_bl (NF.x_itb (fun _ => ?_) (fun g => absurd g (show ¬ (!decide (Str.ofString "fault" = Str.ofString "letters")) = false by decide))))))))))))))
        exact NF.x_tt (NF.x_ret (NF.x_c (fin false k _ _ O lF r1)))
  · rintro _ H2 ⟨F2, rfl, O, l1, k⟩
    have hd := Enc.mono _ l1.le hd
    have r1 := (rRwr mg).mono l1.le r1
    obtain ⟨G, g1, g2, rG⟩ := rwr_view O r1
    refine NF.x_ret (NF.x_call (NF.x_cons (NF.x_var rfl (NF.x_cons (NF.x_op (NF.x_var rfl (NF.x_c (NF.y_ix32 O.leF hd (fun u hu => (NF.x_nil (use_spWv (i := (x', due.2.2)) O g2 rfl ⟨_, _, rfl, rG, Enc.mono _ g1 hu⟩ k (fun b v3 F3 H3 O hb k => ?_))))))))))))
    cases hb
    exact fin b k _ _ O (lF.trans l1) r1


/-- the slice of the script -/
theorem y_slScr {B F H : Hp} {R : List (Addr × HO)} {v : V} {xs : List Int} {lo hi : Option Int} {Q : VK} (O : Fz B F H R) (h : (eScr K).rep F v xs) (q : ∀ p F' H', (eLst eInt).rep F' (.ref p) (cutT xs lo hi) → Ex B F F' → Fz B F' H' R → Q (.ref p) H') : rSlL K v lo hi H Q := by
  obtain ⟨a, rfl, ha⟩ := h
  refine ⟨a, _, rfl, sqL_le O.leF ha, fun p hp => q p _ _ ⟨p, _, rfl, upd_same, ?_⟩ (O.exN hp) (O.frz hp)⟩
  exact (RL.ofMap (P := fun v x => v = V.int x) (fun _ => rfl) xs).cut lo hi
theorem y_dispO {H : Hp} {Q : VK} {B F : Hp} {R : List (Addr × HO)} {p : Addr} {ps : List (V × V)} (O : Fz B F H R) (j : Nat) (hj : R[j]? = some (p, .dK [])) (kvs : List (Key × V)) (h1 : ps = kvs.map (fun kv => (kV kv.1, kv.2))) (h2 : kvs.length ≤ 15) (h3 : mergeK [] kvs = kvs)
    (q : ∀ H', Fz B F H' (R.set j (p, .dK kvs)) → Q (.ref p) H') : rDisp p ps H Q := by
  refine ⟨O.get j hj, kvs, h1, h2, ?_⟩
  rw [h3]
  exact q _ (O.put j hj _)
def m_law_pot (a_script : List Int) : W ((List Int) × Int × (List Int) × Int × Int) :=
  W.bind (W.comp (cutT a_script none (some (63 : Int))) fun x3 =>
  W.ok (some x3)) fun y11 =>
  W.bind (W.comp y11 fun x16 =>
  W.ite (decide (x16 < (1000000000000000000 : Int))) (W.ok (some x16))
  (W.ok none)) fun y25 =>
  W.for_ y25 (0 : Int) (fun (x31 : Int) (z_mark : Int) =>
  W.ok (.nx (((z_mark * (31 : Int)) + x31) % (2147483647 : Int)))) (fun (z_mark : Int) =>
  W.bind (W.comp y11 fun x34 =>
  W.ite (decide ((1000000000000000000 : Int) ≤ x34)) (W.ok (some x34))
  (W.ok none)) fun y43 =>
  W.ok (y43, (0 : Int), y25, z_mark, (0 : Int)))
/-- a new pot -/
def spPot (K : PySem.W.Frag) : Sp := fun vs H Q _ => vs.length = 1 ∧ ∃ F xs K0, Le F H ∧ (∃ v, vs = [v] ∧ (eScr K).rep F v xs) ∧ m_law_pot xs K0 ∧
  ∀ y, K0 y → ∀ (p pg ps : Addr) (g s : List Int) (l m : Int) (F' H' : Hp), Ex H F F' → Fz H F' H' [(p, .dK (bxK pg ps l m 0)), (pg, .lst (g.map V.int))] → F' ps = some (.lst (s.map V.int)) → Q (.ref p) H'
theorem hl_spPot {K : PySem.W.Frag} : ∀ vs H Q E, spPot K vs H Q E → vs.length = 1 := fun _ _ _ _ h => h.1
abbrev NM_law_pot : List Str := ["script", "cells", "small", "mark", "cell", "great"]
theorem sc_law_pot : FnScope NM_law_pot ["script"] (defScope s_law_pot) := ⟨rfl, rfl, rfl, by decide +kernel, rfl, by decide +kernel, by decide +kernel⟩
theorem d_law_pot (F : Fn0 K mg "_law_pot" s_law_pot) (T : Txt P K mg)  :
    Def P w K mg base 1 "_law_pot" ["script"] (spPot K) := by
  refine Def.mk0 F sc_law_pot (by first | exact NF.hl_spB | exact NF.hl_spP | exact NF.hl_spNew | exact NF.hl_spPX | exact NF.hl_spN | exact NF.hl_spNX | exact NF.hl_spW | exact NF.hl_spWb | exact NF.hl_spWX | exact NF.hl_spWm | exact NF.hl_spWo | exact hl_spPot) (fun _ _ _ _ _ _ us hl => match us, hl with | [_], _ => rfl) (fun cdv A outer s H vs Q E hr h => ?_)
  refine ⟨_, (pss_cons (ps_setLc (i := 1) (own := [("cell", 4)]) (g := gName 4) (by rfl) sc_law_pot.nd rfl rfl (sw_true rfl rfl rfl (by decide +kernel)) (pi_list (pe_slice sl_list (pv 0) po_none (po_some pe_int))) (blkOk_by (own := [("cell", 4)]) (N := NM_law_pot) (sc := defScope s_law_pot) (by decide +kernel)) (fun _ _ _ _ _ => (pg_name (i := 4) sc_law_pot.nd rfl (Or.inl rfl))) (fun _ _ _ _ _ => pts_nil) (fun _ _ _ _ _ => (pe_callTy (T := "int") (r := rInt) callInt (by rfl) T.b_int (by decide +kernel) (pa_cons (pv 4) pa_nil))))
      (pss_cons (ps_setLc (i := 2) (own := [("cell", 4)]) (g := gName 4) (by rfl) sc_law_pot.nd rfl rfl (sw_true rfl rfl rfl (by decide +kernel)) (pi_list (pv 1)) (blkOk_by (own := [("cell", 4)]) (N := NM_law_pot) (sc := defScope s_law_pot) (by decide +kernel)) (fun _ _ _ _ _ => (pg_name (i := 4) sc_law_pot.nd rfl (Or.inl rfl))) (fun _ _ _ _ _ => pts_one (pt_cmpR op_lt (pv 4) (pe_op op_pow pe_int pe_int) (nomark _))) (fun _ _ _ _ _ => (pv 4)))
      (pss_cons (ps_set (i := 3) sc_law_pot.nd rfl (Or.inl rfl) pe_int)
      (pss_cons (ps_for PassesOwn.never rfl (pi_list (pv 2)) (pg_name (i := 4) sc_law_pot.nd rfl (Or.inl rfl))
      (pss_one (ps_set (i := 3) sc_law_pot.nd rfl (Or.inl rfl) (pe_op op_mod (pe_callTy (T := "int") callInt (by rfl) T.b_int (by decide +kernel) (pa_cons (pe_op op_add (pe_op op_mul (pv 3) pe_int) (pv 4)) pa_nil)) pe_int))))
      (pss_cons (ps_setLc (i := 5) (own := [("cell", 4)]) (g := gName 4) (by rfl) sc_law_pot.nd rfl rfl (sw_true rfl rfl rfl (by decide +kernel)) (pi_list (pv 1)) (blkOk_by (own := [("cell", 4)]) (N := NM_law_pot) (sc := defScope s_law_pot) (by decide +kernel)) (fun _ _ _ _ _ => (pg_name (i := 4) sc_law_pot.nd rfl (Or.inl rfl))) (fun _ _ _ _ _ => pts_one (pt_cmpR op_ge (pv 4) (pe_op op_pow pe_int pe_int) (nomark _))) (fun _ _ _ _ _ => (pv 4)))
      (pss_one (ps_ret (pe_disp (pps_cons pe_str (pv 5) (pps_cons pe_str pe_int (pps_cons pe_str (pv 2) (pps_cons pe_str (pv 3) (pps_cons pe_str pe_int pps_nil))))) (by rfl) (by rfl) (fun z => by cases z) (by decide))))))))), ?_⟩
  try dsimp only [cxOf, Cx.nox, Cx.wish]
  obtain ⟨hl, F, a_script, K0, hF, ⟨v_script, rfl, h_script⟩, k, q⟩ := h
  have O := NF.Fz.start hF
  have lF := NF.Ex.rfl (B := H) (F := F)
  refine (NF.x_seq (NF.x_asg (NF.x_lc (NF.x_jL (NF.x_sl (NF.x_var rfl (NF.x_noPart (NF.x_part (NF.x_c (NF.x_pI (NF.y_slScr O h_script (fun p2 F H h1 l0 O => (have h_script := Enc.mono (eScr K) l0.le h_script; (have lF := Ex.trans lF l0; (NF.y_jL O.leF h1 (fun J T => (NF.y_comp (er := eInt) (fun F R => R = ([] : List (Addr × HO))) T (by rintro _ _ rfl; first | trivial | simp) O k.2 k.1 rfl (fun i x3 r pc9 acc7 at8 F0 F R H v hi lc6 hI ra10 hl l1 O hv k => match R, hI, O with | _, rfl, O => (have O : NF.Fz _ F H ([(pc9, HO.lst acc7)] ++ []) := O; (have lc6 := Ex.trans lc6 l1; (have ra10 := ra10.mono fun _ _ => Enc.mono eInt l1.le; (have h_script := Enc.mono (eScr K) lc6.le h_script; (have h1 := Enc.mono (eLst eInt) lc6.le h1; (have lF := Ex.trans lF lc6; (NF.byI v hv (NF.x_name ⟨NF.set_wipe _ _ _, (NF.x_yes (NF.x_tt (NF.x_cb (NF.x_cons (NF.x_var rfl (NF.x_nil (NF.x_int (NF.cE_mk (R' := []) hi lc6 rfl O ra10 hl rfl k))))))))⟩))))))))) (fun p13 F R vs12 y11 H l0 hI O ra14 k => match R, hI, O with | _, rfl, O => (have h_script := Enc.mono (eScr K) l0.le h_script; (have h1 := Enc.mono (eLst eInt) l0.le h1; (have lF := Ex.trans lF l0; (NF.y_frz O 0 rfl (fun F l0 hp O => (have O : NF.Fz _ F H ([] : List (Addr × HO)) := O; (have h_script := Enc.mono (eScr K) l0.le h_script; (have h1 := Enc.mono (eLst eInt) l0.le h1; (have lF := Ex.trans lF l0; (have h15 : (eLst eInt).rep F (.ref p13) y11 := ⟨_, _, rfl, hp, ra14.mono fun _ _ => Enc.mono eInt l0.le⟩; (NF.x_name ?_)))))))))))))))))))))))))))))
  refine (NF.x_seq (NF.x_asg (NF.x_lc (NF.x_jL (NF.x_var rfl (NF.y_jL O.leF h15 (fun J T => (NF.y_comp (er := eInt) (fun F R => R = ([] : List (Addr × HO))) T (by rintro _ _ rfl; first | trivial | simp) O k.2 k.1 rfl (fun i x16 r pc22 acc20 at21 F0 F R H v hi lc19 hI ra23 hl l1 O hv k => match R, hI, O with | _, rfl, O => (have O : NF.Fz _ F H ([(pc22, HO.lst acc20)] ++ []) := O; (have lc19 := Ex.trans lc19 l1; (have ra23 := ra23.mono fun _ _ => Enc.mono eInt l1.le; (have h_script := Enc.mono (eScr K) lc19.le h_script; (have h15 := Enc.mono (eLst eInt) lc19.le h15; (have lF := Ex.trans lF lc19; (NF.byI v hv (NF.x_name ⟨NF.set_wipe _ _ _, (NF.x_test (NF.x_op (NF.x_var rfl (NF.x_op (NF.x_c (NF.x_c (NF.x_I ⟨by decide, by decide, by decide⟩ (NF.x_I0 (NF.x_bl (NF.x_itb (fun g24 => (have k := k.1 g24; (NF.x_var rfl (NF.cE_mk (R' := []) hi lc19 rfl O ra23 hl rfl k)))) (fun g24 => (have k := k.2 g24; (NF.cN_mk (R' := []) lc19 rfl O ra23 hl k)))))))))))))⟩))))))))) (fun p27 F R vs26 y25 H l0 hI O ra28 k => match R, hI, O with | _, rfl, O => (have h_script := Enc.mono (eScr K) l0.le h_script; (have h15 := Enc.mono (eLst eInt) l0.le h15; (have lF := Ex.trans lF l0; (NF.y_frz O 0 rfl (fun F l0 hp O => (have O : NF.Fz _ F H ([] : List (Addr × HO)) := O; (have h_script := Enc.mono (eScr K) l0.le h_script; (have h15 := Enc.mono (eLst eInt) l0.le h15; (have lF := Ex.trans lF l0; (have h29 : (eLst eInt).rep F (.ref p27) y25 := ⟨_, _, rfl, hp, ra28.mono fun _ _ => Enc.mono eInt l0.le⟩; (NF.x_name ?_))))))))))))))))))))
  refine (NF.x_seq (NF.x_asg (NF.x_c (NF.x_name ?_))))
  refine (NF.x_seq (NF.x_for (NF.x_jL (NF.x_var rfl (NF.y_jL O.leF h29 (fun J T => (NF.y_for (σt := Int) (fun (z_mark : Int) (σ : L2.St) (F : Hp) (R : List (Addr × HO)) => ∃ u4 : Option V, σ = [some v_script, some (.ref p13), some (.ref p27), some (.int z_mark), u4, none] ∧ R = ([] : List (Addr × HO))) T (by rintro z_mark _ _ _ ⟨u4, rfl, rfl⟩; first | trivial | simp) O k ⟨_, rfl, rfl⟩ ?_ ?_)))))))
  · rintro x31 r z_mark _ F0 F _ H v32 lp30 ⟨u4, rfl, rfl⟩ l1 O h33 k
    have lp30 := Ex.trans lp30 l1
    have h_script := Enc.mono (eScr K) lp30.le h_script
    have h15 := Enc.mono (eLst eInt) lp30.le h15
    have h29 := Enc.mono (eLst eInt) lp30.le h29
    have lF := Ex.trans lF lp30
    cases h33
    refine NF.x_name ?_
    refine (NF.x_asg (NF.x_op (NF.x_cb (NF.x_cons (NF.x_op (NF.x_op (NF.x_var rfl (NF.x_c (NF.x_I (Or.inr ⟨by decide, by decide⟩) (NF.x_var rfl (NF.x_I0 (NF.x_nil (NF.x_int (NF.x_c (NF.x_I (by decide) (NF.x_name ?_))))))))))))))))
    exact ⟨(((z_mark * (31 : Int)) + x31) % (2147483647 : Int)), _, _, lp30, O, ⟨_, rfl, rfl⟩, k⟩
  · rintro z_mark _ F _ H l0 O ⟨u4, rfl, rfl⟩ k
    have h_script := Enc.mono (eScr K) l0.le h_script
    have h15 := Enc.mono (eLst eInt) l0.le h15
    have h29 := Enc.mono (eLst eInt) l0.le h29
    have lF := Ex.trans lF l0
    refine (NF.x_seq (NF.x_asg (NF.x_lc (NF.x_jL (NF.x_var rfl (NF.y_jL O.leF h15 (fun J T => (NF.y_comp (er := eInt) (fun F R => R = ([] : List (Addr × HO))) T (by rintro _ _ rfl; first | trivial | simp) O k.2 k.1 rfl (fun i x34 r pc40 acc38 at39 F0 F R H v hi lc37 hI ra41 hl l1 O hv k => match R, hI, O with | _, rfl, O => (have O : NF.Fz _ F H ([(pc40, HO.lst acc38)] ++ []) := O; (have lc37 := Ex.trans lc37 l1; (have ra41 := ra41.mono fun _ _ => Enc.mono eInt l1.le; (have h_script := Enc.mono (eScr K) lc37.le h_script; (have h15 := Enc.mono (eLst eInt) lc37.le h15; (have h29 := Enc.mono (eLst eInt) lc37.le h29; (have lF := Ex.trans lF lc37; (NF.byI v hv (NF.x_name ⟨NF.set_wipe _ _ _, (NF.x_test (NF.x_op (NF.x_var rfl (NF.x_op (NF.x_c (NF.x_c (NF.x_I ⟨by decide, by decide, by decide⟩ (NF.x_I0 (NF.x_bl (NF.x_itb (fun g42 => (have k := k.1 g42; (NF.x_var rfl (NF.cE_mk (R' := []) hi lc37 rfl O ra41 hl rfl k)))) (fun g42 => (have k := k.2 g42; (NF.cN_mk (R' := []) lc37 rfl O ra41 hl k)))))))))))))⟩)))))))))) (fun p45 F R vs44 y43 H l0 hI O ra46 k => match R, hI, O with | _, rfl, O => (have O : NF.Fz _ F H ([(p45, HO.lst vs44)] ++ ([]) : List (Addr × HO)) := O; (have h_script := Enc.mono (eScr K) l0.le h_script; (have h15 := Enc.mono (eLst eInt) l0.le h15; (have h29 := Enc.mono (eLst eInt) l0.le h29; (have lF := Ex.trans lF l0; (NF.x_name ?_)))))))))))))))
    refine NF.x_ret (NF.y_disp O (fun p48 H O => ?_))
    have O : NF.Fz _ F H [(p48, .dK []), (p45, .lst vs44)] := O
    refine NF.x_pair (NF.x_c (NF.x_var rfl (NF.x_pair (NF.x_c (NF.x_c (NF.x_pair (NF.x_c (NF.x_var rfl (NF.x_pair (NF.x_c (NF.x_var rfl (NF.x_pair (NF.x_c (NF.x_c (NF.x_pair0 (y_dispO O 0 rfl (bxK p45 p27 0 z_mark 0) rfl (by simp) rfl (fun H O => ?_)))))))))))))))))
    have ev := ra46.mapV (f := V.int) fun _ _ h => h
    subst ev
    obtain ⟨_, ws, e1, e2, e3⟩ := h29
    cases e1
    have ew := e3.mapV (f := V.int) fun _ _ h => h
    subst ew
    exact q _ k _ _ _ _ _ _ _ _ _ lF O e2


theorem y_obj_Rewriting {F H : Hp} {v : V} {x : RwM} {Z : Prop} (l : Le F H) (h : (eRw mg).rep F v x) (q : ∀ a dx fs, v = .ref a → H a = some (.ins (cad mg "Rewriting") dx fs) → (eRw mg).rep F (.ref a) x → Z) : Z := by
  obtain ⟨a, dx, v1, v2, rfl, h0, h1, h2⟩ := h
  exact q a dx _ rfl (l _ _ h0) ⟨a, dx, v1, v2, rfl, h0, h1, h2⟩
section
variable {B F H : Hp} {R : List (Addr × HO)} {Q : VK} {E : XK} {vr : V} {m : RwM}
theorem y_newRwr (O : Fz B F H R) (h : (eRw mg).rep F vr m) (q : ∀ p as N H', Fz B F H' (N ++ R) → (rRwr mg).rep F p as N (m, 0, [], 0) → Q (.ref p) H') :
    rMade (cad mg "Rewriter") (spRwr mg) ([vr] ++ []) E H Q := fun x dx h1 h2 n => by
  have O1 := O.obj (o := .own x) (u := .ins (cad mg "Rewriter") dx []) h1 h2 n
  refine ⟨rfl, x, dx, vr, rfl, O1.get 0 rfl, fun po H' hp hk e1 e2 => ⟨rfl, ?_⟩⟩
  exact q x [x, po] _ H' (O1.obj2 hp hk e1 e2) ⟨dx, vr, po, [], rfl, rfl, h, .nil⟩
theorem y_newRwg {i : Int} {rs : List (Int × Nat × Str × Int × Str × Int)} {es : List (Int × Nat × Int × Str × Int)} {v2 v3 : V} {K0 : RwM → Prop} (O : Fz B F H R) (h2 : (eLst (eP6 eInt eChr eStr eInt eStr eInt)).rep F v2 rs) (h3 : (eLst (eP5 eInt eChr eInt eStr eInt)).rep F v3 es)
    (k : m_rwg i rs es K0) (q : ∀ y v F' H', Ex B F F' → Fz B F' H' R → (eRw mg).rep F' v y → K0 y → Q v H') :
    rMade (cad mg "Rewriting") (spRwg mg) [.int i, v2, v3] E H Q := fun x dx h1 h4 n => by
  have O1 := O.obj (o := .own x) (u := .ins (cad mg "Rewriting") dx []) h1 h4 n
  refine ⟨rfl, x, dx, F, i, rs, es, v2, v3, K0, rfl, O1.get 0 rfl, O1.nF _ (List.mem_cons_self ..), O1.leF, h2, h3, k, fun y hy F' H' l1 l2 e r => ⟨rfl, ?_⟩⟩
  obtain ⟨O2, e2⟩ := O1.made l1 l2 e
  exact q y _ F' H' e2 O2 r hy
theorem use_spPot {K0 : (List Int × Int × List Int × Int × Int) → Prop} {xs : List Int} {v : V} (O : Fz B F H R) (h : (eScr K).rep F v xs) (k : m_law_pot xs K0) (q : ∀ p as N F' H', Ex B F F' → Fz B F' H' (N ++ R) → rBx.rep F' p as N () → (∃ y, K0 y) → Q (.ref p) H') : spPot K [v] H Q E :=
  ⟨rfl, F, xs, K0, O.leF, ⟨v, rfl, h⟩, k, fun y hy p pg ps g s l m F' H' e O2 hs => q p _ _ F' H' (O.exC e) (O.newG O2 e) ⟨pg, ps, g, s, l, m, 0, rfl, rfl, hs⟩ ⟨y, hy⟩⟩
end
def m_law_each (a_reader : RrM) (a_letters : Str) (a_due : Int × (List Str) × ((List (Int × Nat)) × Int × Int)) : W (Bool × (RrM)) :=
  W.chk (a_letters.length ≤ sizeLine) <|
  W.chk (-(2 ^ 62) ≤ (a_letters.length : Int) ∧ (a_letters.length : Int) < 2 ^ 62) <|
  W.for_ (rngT 0 (a_letters.length : Int)) a_reader (fun (x4 : Int) (z_reader : (RrM)) =>
  W.chk (a_letters.length ≤ sizeLine ∧ ∃ c, atI (tl a_letters) x4 = some c) <|
  W.bind (m_law_call z_reader (sg (cS a_letters x4))) fun y8 =>
  W.exc y8.1 (fun y12 =>
  W.at_ a_due.2.1 x4 fun x17 =>
  W.ite (!decide (y12 = x17)) (W.ok (.rt (false, y8.2)))
  (W.ok (.nx y8.2))) (fun y21 =>
  W.ok (.rt (false, y8.2)))) (fun (z_reader : (RrM)) =>
  W.bind (m_law_stands z_reader a_due.2.2) fun y27 =>
  W.ok (y27, z_reader))
abbrev NM_law_each : List Str := ["reader", "letters", "due", "k", "actual"]
theorem sc_law_each : FnScope NM_law_each ["reader", "letters", "due"] (defScope s_law_each) := ⟨rfl, rfl, rfl, by decide +kernel, rfl, by decide +kernel, by decide +kernel⟩
theorem d_law_each (F : Fn0 K mg "_law_each" s_law_each) (T : Txt P K mg) (D_law_stands : Def P w K mg base 3 "_law_stands" ["reader", "state"] (spW 2 (fun F vs (i : RrM × ((List (Int × Nat)) × Int × Int)) => ∃ v0 v1, vs = [v0, v1] ∧ (eRwr mg).rep F v0 i.1 ∧ (eR3 "nodes" (eLst (eP2 eInt eChr)) "mode" eInt "seen" eInt).rep F v1 i.2) eBool (fun (i : RrM × ((List (Int × Nat)) × Int × Int)) => m_law_stands i.1 i.2))) (D_law_call : Def P w K mg base 4 "_law_call" ["reader", "letters"] (spWm 2 (fun F (h : (Addr × List Addr)) W vs (i : (RrM) × Str) => ∃ v1, vs = [.ref h.1, v1] ∧ ∃ N0, W = N0 ++ ([]) ∧ (rRwr mg).rep F h.1 h.2 N0 i.1 ∧ eStr.rep F v1 i.2) (fun _ F _ (h : (Addr × List Addr)) W v (y : Except Int Str × (RrM)) => ∃ N0, W = N0 ++ ([]) ∧ (rRwr mg).rep F h.1 h.2 N0 y.2 ∧ eCall.rep F v y.1) (fun (i : (RrM) × Str) => m_law_call i.1 i.2))) :
    Def P w K mg base 5 "_law_each" ["reader", "letters", "due"] (spWm 3 (fun F (h : (Addr × List Addr)) W vs (i : (RrM) × Str × (Int × (List Str) × ((List (Int × Nat)) × Int × Int))) => ∃ v1 v2, vs = [.ref h.1, v1, v2] ∧ ∃ N0, W = N0 ++ ([]) ∧ (rRwr mg).rep F h.1 h.2 N0 i.1 ∧ eStr.rep F v1 i.2.1 ∧ (eP3 eInt (eLst eStr) (eR3 "nodes" (eLst (eP2 eInt eChr)) "mode" eInt "seen" eInt)).rep F v2 i.2.2) (fun _ F _ (h : (Addr × List Addr)) W v (y : Bool × (RrM)) => ∃ N0, W = N0 ++ ([]) ∧ (rRwr mg).rep F h.1 h.2 N0 y.2 ∧ eBool.rep F v y.1) (fun (i : (RrM) × Str × (Int × (List Str) × ((List (Int × Nat)) × Int × Int))) => m_law_each i.1 i.2.1 i.2.2)) := by
  refine Def.mk0 F sc_law_each (by first | exact NF.hl_spW | exact NF.hl_spWb | exact NF.hl_spWX | exact NF.hl_spWm | exact NF.hl_spWo) (fun _ _ _ _ _ _ us hl => match us, hl with | [_, _, _], _ => rfl) (fun cdv A outer s H vs Q E hr h => ?_)
  refine ⟨_, (pss_cons (ps_for PassesOwn.never rfl (pi_range1 (by rfl) T.b_range (pa_cons (pe_callB (id := "len") callLen (by rfl) T.b_len (by decide +kernel) (pa_cons (pv 1) pa_nil)) pa_nil)) (pg_name (i := 3) sc_law_each.nd rfl (Or.inl rfl))
      (pss_cons (ps_set (i := 4) sc_law_each.nd rfl (Or.inl rfl) (pe_d D_law_call (hr.mono (by decide)) rfl (pa_cons (pv 0) (pa_cons (pe_ix ix_str (pv 1) (pv 3) (fun _ _ => rfl)) pa_nil))))
      (pss_one (ps_if (PW.pt (pw_or (pt_cmpR op_ne (pe_ix ix_tup (pv 4) pe_int (fun _ _ => rfl)) pe_str (nomark _)) (pw_or (pt_not (pt_val (pe_callB callIsT (by rfl) T.b_isinstance (by decide +kernel) (pa_cons (pe_ix ix_tup (pv 4) pe_int (fun _ _ => rfl)) (pa_cons (pe_ty (n := "str") (by rfl) T.b_str (by decide +kernel)) pa_nil))))) (pw_or1 (pt_cmpR op_ne (pe_ix ix_tup (pv 4) pe_int (fun _ _ => rfl)) (pe_ix ix_list (pe_ix ix_tup (pv 2) pe_int (fun _ _ => rfl)) (pv 3) (fun _ _ => rfl)) (nomark _))))))
      (pss_one (ps_ret pe_bl))
      pss_nil))))
      (pss_one (ps_ret (pe_d D_law_stands (hr.mono (by decide)) rfl (pa_cons (pv 0) (pa_cons (pe_ix ix_tup (pv 2) pe_int (fun _ _ => rfl)) pa_nil)))))), ?_⟩
  try dsimp only [cxOf, Cx.nox, Cx.wish]
  obtain ⟨hl, F, ⟨p_reader, as_reader⟩, _, ⟨a_reader, a_letters, a_due⟩, K0, hF, hAt, ⟨_, v_due, rfl, N_reader, rfl, r_reader, rfl, h_due⟩, k, q⟩ := h
  have O := NF.Fz.startM hF hAt
  have O : NF.Fz _ F H (N_reader ++ ([]) : List (Addr × HO)) := O
  have lF := NF.Ex.rfl (B := dels H ((N_reader ++ ([]) : List (Addr × HO)).map Prod.fst)) (F := F)
  have d_p_reader := Rsc.dom (rRwr mg) r_reader
  refine (NF.x_seq (NF.x_for (NF.x_jR1 (NF.x_cons (NF.x_cb (NF.x_cons (NF.x_var rfl (NF.x_nil (have c1 := k.1; have k := k.2; (NF.x_lenS c1 (NF.x_nil (have c2 := k.1; have k := k.2; (NF.y_jR1 (F := F) c2 (fun J T => (NF.y_for (σt := (RrM)) (fun (z_reader : (RrM)) (σ : L2.St) (F : Hp) (R : List (Addr × HO)) => ∃ N_reader : List (Addr × HO), ∃ u3 : Option V, ∃ u4 : Option V, σ = [some (.ref p_reader), some (.str a_letters), some v_due, u3, u4] ∧ R = (N_reader ++ ([]) : List (Addr × HO)) ∧ (rRwr mg).rep F p_reader as_reader N_reader z_reader) T (by rintro z_reader _ _ _ ⟨N_reader, u3, u4, rfl, rfl, r_reader⟩; first | trivial | simp) O k ⟨_, _, _, rfl, rfl, r_reader⟩ ?_ ?_)))))))))))))))
  · rintro x4 r z_reader _ F0 F _ H v5 lp3 ⟨N_reader, u3, u4, rfl, rfl, r_reader⟩ l1 O h6 k
    have lp3 := Ex.trans lp3 l1
    have h_due := Enc.mono (eP3 eInt (eLst eStr) (eR3 "nodes" (eLst (eP2 eInt eChr)) "mode" eInt "seen" eInt)) lp3.le h_due
    have r_reader := Rsc.mono (rRwr mg) l1.le r_reader
    have lF := Ex.trans lF lp3
    cases h6
    refine NF.x_name ?_
    refine (NF.x_seq (NF.x_asg (NF.x_call (NF.x_cons (NF.x_var rfl (NF.x_cons (NF.x_op (NF.x_var rfl (NF.x_var rfl (have c7 := k.1; have k := k.2; (NF.y_ixS c7.1 c7.2 (NF.x_nil (NF.use_spWm (i := (z_reader, (sg (cS a_letters x4)))) (p_reader, as_reader) (NF.Fz.sel O (List.Perm.refl _) (NF.apS NF.ap0)) rfl ⟨_, rfl, _, rfl, r_reader, rfl⟩ k (fun y8 v11 F H W l0 O hP k => Exists.elim hP fun N9 hP => (have hW := hP.1; have hP := hP.2; have r_reader := hP.1; have hP := hP.2; have O := NF.Fz.reW (hW.trans (NF.reS rfl rfl)) O; (have h10 := hP; have O := NF.Fz.unsel O (NF.apS NF.ap0) (List.Perm.refl _); (have O : NF.Fz _ F H (N9 ++ ([]) : List (Addr × HO)) := O; (have h_due := Enc.mono (eP3 eInt (eLst eStr) (eR3 "nodes" (eLst (eP2 eInt eChr)) "mode" eInt "seen" eInt)) l0.le h_due; (have lF := Ex.trans lF l0; (have lp3 := Ex.trans lp3 l0; (NF.x_name ?_)))))))))))))))))))))
    refine NF.excE (r := y8.1) ?_ ?_
    · intro y12 he13
      have h14 : (eP2 eStr eStr).rep F v11 (Str.ofString "letters", y12) := NF.Enc.at_eq (e := eCall) h10 he13
      have k := k.1 y12 he13
      refine (NF.x_ifs (NF.x_or (NF.x_test (NF.x_op (NF.x_op (NF.x_var rfl (NF.x_c (NF.y_ix20 O.leF h14 (fun u hu => NF.byS u hu (NF.x_c (NF.y_neSt (i := (Str.ofString "letters")) (j := (Str.ofString "letters")) (b := false) (by decide) (NF.x_bl (NF.x_ff (NF.x_or (NF.x_not (NF.x_B (NF.x_cb (NF.x_cons (NF.x_op (NF.x_var rfl (NF.x_c (NF.y_ix21 O.leF h14 (fun u hu => NF.byS u hu (NF.x_cons (NF.x_c (NF.x_nil (NF.x_isS NF.kit_str_str (NF.x_bl (NF.x_ff (NF.x_test (NF.x_op (NF.x_op (NF.x_var rfl (NF.x_c (NF.y_ix21 O.leF h14 (fun u hu => NF.byS u hu (NF.x_op (NF.x_op (NF.x_var rfl (NF.x_c (NF.y_ix31 O.leF h_due (fun v15 h16 => (NF.x_var rfl (Exists.elim k fun x17 hk => (have k := hk.2; (NF.y_ixL O.leF h16 hk.1 (fun u hu => NF.byS u hu (NF.y_neS (NF.x_bl (NF.x_itb (fun g18 => (have k := k.1 g18; ?n19)) (fun g18 => (have k := k.2 g18; ?n20))))))))))))))))))))))))))))))))))))))))))))))))))))
      case n19 =>
        exact (NF.x_ret (NF.x_c (NF.ret_m (P := fun _ F _ (h : (Addr × List Addr)) W v (y : Bool × (RrM)) => ∃ N0, W = N0 ++ ([]) ∧ (rRwr mg).rep F h.1 h.2 N0 y.2 ∧ eBool.rep F v y.1) (h := (p_reader, as_reader)) q (false, y8.2) k O (NF.app_dom ((Rsc.dom (rRwr mg) r_reader).trans d_p_reader.symm) rfl) lF ⟨_, rfl, r_reader, rfl⟩)))
      case n20 =>
        refine NF.x_next ?_
        exact ⟨y8.2, _, _, lp3, O, ⟨_, _, _, rfl, rfl, r_reader⟩, k⟩
    · intro y21 he22
      have h23 : (eP2 eStr eInt).rep F v11 (Str.ofString "fault", y21) := NF.Enc.at_eq (e := eCall) h10 he22
      have k := k.2 y21 he22
      refine (NF.x_ifs (NF.x_or (NF.x_test (NF.x_op (NF.x_op (NF.x_var rfl (NF.x_c (NF.y_ix20 O.leF h23 (fun u hu => NF.byS u hu (NF.x_c (NF.y_neSt (i := (Str.ofString "fault")) (j := (Str.ofString "letters")) (b := true) (by decide) (NF.x_bl (NF.x_tt (NF.x_tt ?_))))))))))))))
      exact (NF.x_ret (NF.x_c (NF.ret_m (P := fun _ F _ (h : (Addr × List Addr)) W v (y : Bool × (RrM)) => ∃ N0, W = N0 ++ ([]) ∧ (rRwr mg).rep F h.1 h.2 N0 y.2 ∧ eBool.rep F v y.1) (h := (p_reader, as_reader)) q (false, y8.2) k O (NF.app_dom ((Rsc.dom (rRwr mg) r_reader).trans d_p_reader.symm) rfl) lF ⟨_, rfl, r_reader, rfl⟩)))
  · rintro z_reader _ F _ H l0 O ⟨N_reader, u3, u4, rfl, rfl, r_reader⟩ k
    have h_due := Enc.mono (eP3 eInt (eLst eStr) (eR3 "nodes" (eLst (eP2 eInt eChr)) "mode" eInt "seen" eInt)) l0.le h_due
    have lF := Ex.trans lF l0
    exact (NF.x_ret (NF.x_call (NF.x_cons (NF.x_var rfl (NF.x_cons (NF.x_op (NF.x_var rfl (NF.x_c (NF.y_ix32 O.leF h_due (fun v24 h25 => (NF.x_nil (Exists.elim (NF.rwr_view O r_reader) fun _ hG => (have g1 := hG.1; have hr := hG.2.2; (NF.use_spWvF (i := (z_reader, a_due.2.2)) O hG.2.1 rfl ⟨_, _, rfl, hr, (Enc.mono _ g1 h25)⟩ k (fun y27 v28 _ H h29 O k => (have O : NF.Fz _ F H (N_reader ++ ([]) : List (Addr × HO)) := O; NF.byB v28 h29 (NF.ret_m (P := fun _ F _ (h : (Addr × List Addr)) W v (y : Bool × (RrM)) => ∃ N0, W = N0 ++ ([]) ∧ (rRwr mg).rep F h.1 h.2 N0 y.2 ∧ eBool.rep F v y.1) (h := (p_reader, as_reader)) q (y27, z_reader) k O (NF.app_dom ((Rsc.dom (rRwr mg) r_reader).trans d_p_reader.symm) rfl) lF ⟨_, rfl, r_reader, rfl⟩)))))))))))))))))

def m_law_large (a_menu : Str) (a_model : Int × (List ((Int × Nat) × (Str × Int))) × (List ((Int × Nat) × (Str × Int))) × (List ((Int × Nat × Int) × (Str × Int)))) (a_rewriting : RwM) : W (Bool) :=
  W.bind (m_law_long a_menu) fun y1 =>
  W.bind (m_law_fresh) fun y9 =>
  W.bind (m_law_try a_model y9 y1) fun y12 =>
  W.bind (m_law_agrees (a_rewriting, 0, [], 0) y1 y12) fun y15 =>
  W.ite (!y15.1) (W.ok false)
  (W.chk (a_menu.length ≤ sizeLine ∧ ∃ c, atI (tl a_menu) (0 : Int) = some c) <|
  W.chk ((sg (cS a_menu (0 : Int))).length + (Str.ofString "!").length ≤ sizeLine) <|
  W.bind (m_law_try a_model y12.2.2 ((sg (cS a_menu (0 : Int))) ++ (Str.ofString "!"))) fun y23 =>
  W.bind (m_law_agrees y15.2 ((sg (cS a_menu (0 : Int))) ++ (Str.ofString "!")) y23) fun y26 =>
  W.ite (!y26.1) (W.ok false)
  (W.bind (W.comp y12.2.2.1 fun x34 =>
  W.ok (some (sg x34.2))) fun y42 =>
  W.bind (m_law_close y42) fun y47 =>
  W.bind (m_law_try a_model y12.2.2 y47) fun y50 =>
  W.bind (m_law_agrees y26.2 y47 y50) fun y53 =>
  W.ok y53.1))
abbrev NM_law_large : List Str := ["pot", "menu", "model", "rewriting", "letters", "reader", "due", "bad", "more", "node"]
theorem sc_law_large : FnScope NM_law_large ["pot", "menu", "model", "rewriting"] (defScope s_law_large) := ⟨rfl, rfl, rfl, by decide +kernel, rfl, by decide +kernel, by decide +kernel⟩
theorem d_law_large (F : Fn0 K mg "_law_large" s_law_large) (T : Txt P K mg) (D_law_long : Def P w K mg base 2 "_law_long" ["pot", "menu"] (spWm 2 (fun F (h : (Addr × List Addr)) W vs (i : Str) => ∃ v1, vs = [.ref h.1, v1] ∧ ∃ N0, W = N0 ++ ([]) ∧ rBx.rep F h.1 h.2 N0 () ∧ eStr.rep F v1 i) (fun _ F _ (h : (Addr × List Addr)) W v (y : Str) => ∃ N0, W = N0 ++ ([]) ∧ rBx.rep F h.1 h.2 N0 () ∧ eStr.rep F v y) (fun (i : Str) => m_law_long i))) (D_Rewriter : MkP P w K mg base 1 "Rewriter" ["self", "rewriting"] (spRwr mg)) (D_law_try : Def P w K mg base 2 "_law_try" ["model", "state", "letters"] (spW 3 (fun F vs (i : (Int × (List ((Int × Nat) × (Str × Int))) × (List ((Int × Nat) × (Str × Int))) × (List ((Int × Nat × Int) × (Str × Int)))) × ((List (Int × Nat)) × Int × Int) × Str) => ∃ v0 v1 v2, vs = [v0, v1, v2] ∧ (eR4 "count" eInt "begin" (eDT kIC (eP2 eStr eInt)) "end" (eDT kIC (eP2 eStr eInt)) "special" (eDT kICI (eP2 eStr eInt))).rep F v0 i.1 ∧ (eR3 "nodes" (eLst (eP2 eInt eChr)) "mode" eInt "seen" eInt).rep F v1 i.2.1 ∧ eStr.rep F v2 i.2.2) (eP3 eInt (eLst eStr) (eR3 "nodes" (eLst (eP2 eInt eChr)) "mode" eInt "seen" eInt)) (fun (i : (Int × (List ((Int × Nat) × (Str × Int))) × (List ((Int × Nat) × (Str × Int))) × (List ((Int × Nat × Int) × (Str × Int)))) × ((List (Int × Nat)) × Int × Int) × Str) => m_law_try i.1 i.2.1 i.2.2))) (D_law_close : Def P w K mg base 1 "_law_close" ["opened"] (spW 1 (fun F vs (i : (List Str)) => ∃ v0, vs = [v0] ∧ (eLst eStr).rep F v0 i) eStr (fun (i : (List Str)) => m_law_close i))) (D_law_agrees : Def P w K mg base 5 "_law_agrees" ["reader", "letters", "due"] (spWm 3 (fun F (h : (Addr × List Addr)) W vs (i : (RrM) × Str × (Int × (List Str) × ((List (Int × Nat)) × Int × Int))) => ∃ v1 v2, vs = [.ref h.1, v1, v2] ∧ ∃ N0, W = N0 ++ ([]) ∧ (rRwr mg).rep F h.1 h.2 N0 i.1 ∧ eStr.rep F v1 i.2.1 ∧ (eP3 eInt (eLst eStr) (eR3 "nodes" (eLst (eP2 eInt eChr)) "mode" eInt "seen" eInt)).rep F v2 i.2.2) (fun _ F _ (h : (Addr × List Addr)) W v (y : Bool × (RrM)) => ∃ N0, W = N0 ++ ([]) ∧ (rRwr mg).rep F h.1 h.2 N0 y.2 ∧ eBool.rep F v y.1) (fun (i : (RrM) × Str × (Int × (List Str) × ((List (Int × Nat)) × Int × Int))) => m_law_agrees i.1 i.2.1 i.2.2))) (D_law_fresh : Def P w K mg base 1 "_law_fresh" [] (spW 0 (fun F vs (i : Unit) => vs = []) (eR3 "nodes" (eLst (eP2 eInt eChr)) "mode" eInt "seen" eInt) (fun (i : Unit) => m_law_fresh))) :
    Def P w K mg base 6 "_law_large" ["pot", "menu", "model", "rewriting"] (spWm 4 (fun F (h : (Addr × List Addr)) W vs (i : Str × (Int × (List ((Int × Nat) × (Str × Int))) × (List ((Int × Nat) × (Str × Int))) × (List ((Int × Nat × Int) × (Str × Int)))) × RwM) => ∃ v1 v2 v3, vs = [.ref h.1, v1, v2, v3] ∧ ∃ N0, W = N0 ++ ([]) ∧ rBx.rep F h.1 h.2 N0 () ∧ eStr.rep F v1 i.1 ∧ (eR4 "count" eInt "begin" (eDT kIC (eP2 eStr eInt)) "end" (eDT kIC (eP2 eStr eInt)) "special" (eDT kICI (eP2 eStr eInt))).rep F v2 i.2.1 ∧ (eRw mg).rep F v3 i.2.2) (fun _ F _ (h : (Addr × List Addr)) W v (y : Bool) => ∃ N0, W = N0 ++ ([]) ∧ rBx.rep F h.1 h.2 N0 () ∧ eBool.rep F v y) (fun (i : Str × (Int × (List ((Int × Nat) × (Str × Int))) × (List ((Int × Nat) × (Str × Int))) × (List ((Int × Nat × Int) × (Str × Int)))) × RwM) => m_law_large i.1 i.2.1 i.2.2)) := by
  refine Def.mk0 F sc_law_large (by first | exact NF.hl_spW | exact NF.hl_spWb | exact NF.hl_spWX | exact NF.hl_spWm | exact NF.hl_spWo) (fun _ _ _ _ _ _ us hl => match us, hl with | [_, _, _, _], _ => rfl) (fun cdv A outer s H vs Q E hr h => ?_)
  refine ⟨_, (pss_cons (ps_set (i := 4) sc_law_large.nd rfl (Or.inl rfl) (pe_d D_law_long (hr.mono (by decide)) rfl (pa_cons (pv 0) (pa_cons (pv 1) pa_nil))))
      (pss_cons (ps_set (i := 5) sc_law_large.nd rfl (Or.inl rfl) (pe_mkp D_Rewriter rfl (hr.mono (by decide)) (by rfl) (pa_cons (pv 3) pa_nil)))
      (pss_cons (ps_set (i := 6) sc_law_large.nd rfl (Or.inl rfl) (pe_d D_law_try (hr.mono (by decide)) rfl (pa_cons (pv 2) (pa_cons (pe_d0 D_law_fresh (hr.mono (by decide)) rfl) (pa_cons (pv 4) pa_nil)))))
      (pss_cons (ps_if (pt_not (pt_val (pe_d D_law_agrees (hr.mono (by decide)) rfl (pa_cons (pv 5) (pa_cons (pv 4) (pa_cons (pv 6) pa_nil))))))
      (pss_one (ps_ret pe_bl))
      pss_nil)
      (pss_cons (ps_set (i := 7) sc_law_large.nd rfl (Or.inl rfl) (pe_op opAddS (pe_ix ix_str (pv 1) pe_int (fun _ _ => rfl)) pe_str))
      (pss_cons (ps_if (pt_not (pt_val (pe_d D_law_agrees (hr.mono (by decide)) rfl (pa_cons (pv 5) (pa_cons (pv 7) (pa_cons (pe_d D_law_try (hr.mono (by decide)) rfl (pa_cons (pv 2) (pa_cons (pe_ix ix_tup (pv 6) pe_int (fun _ _ => rfl)) (pa_cons (pv 7) pa_nil)))) pa_nil))))))
      (pss_one (ps_ret pe_bl))
      pss_nil)
      (pss_cons (ps_set (i := 8) sc_law_large.nd rfl (Or.inl rfl) (pe_d D_law_close (hr.mono (by decide)) rfl (pa_cons (pe_lc (own := [("node", 9)]) (g := gName 9) rfl sc_law_large.nd (pi_list (pe_dget (NF.u1 hr.units) (pe_ix ix_tup (pv 6) pe_int (fun _ _ => rfl)) pe_str (fun _ _ => rfl))) (blkOk_by (own := [("node", 9)]) (N := NM_law_large) (sc := defScope s_law_large) (by decide +kernel)) (fun _ _ _ _ _ => (pg_name (i := 9) sc_law_large.nd rfl (Or.inl rfl))) (fun _ _ _ _ _ => pts_nil) (fun _ _ _ _ _ => (pe_ix (show IxR _ (rIxT K) from ix_tup) (pv 9) pe_int (fun _ _ => rfl)))) pa_nil)))
      (pss_one (ps_ret (pe_d D_law_agrees (hr.mono (by decide)) rfl (pa_cons (pv 5) (pa_cons (pv 8) (pa_cons (pe_d D_law_try (hr.mono (by decide)) rfl (pa_cons (pv 2) (pa_cons (pe_ix ix_tup (pv 6) pe_int (fun _ _ => rfl)) (pa_cons (pv 8) pa_nil)))) pa_nil))))))))))))), ?_⟩
  try dsimp only [cxOf, Cx.nox, Cx.wish]
  obtain ⟨hl, F, ⟨p_pot, as_pot⟩, _, ⟨a_menu, a_model, a_rewriting⟩, K0, hF, hAt, ⟨_, v_model, v_rewriting, rfl, N_pot, rfl, r_pot, rfl, h_model, h_rewriting⟩, k, q⟩ := h
  have O := NF.Fz.startM hF hAt
  have O : NF.Fz _ F H (N_pot ++ ([]) : List (Addr × HO)) := O
  have lF := NF.Ex.rfl (B := dels H ((N_pot ++ ([]) : List (Addr × HO)).map Prod.fst)) (F := F)
  have d_p_pot := Rsc.dom rBx r_pot
  refine (NF.x_seq (NF.x_asg (NF.x_call (NF.x_cons (NF.x_var rfl (NF.x_cons (NF.x_var rfl (NF.x_nil (NF.use_spWm (i := a_menu) (p_pot, as_pot) (NF.Fz.sel O (List.Perm.refl _) (NF.apS NF.ap0)) rfl ⟨_, rfl, _, rfl, r_pot, rfl⟩ k (fun y1 v4 F H W l0 O hP k => Exists.elim hP fun N2 hP => (have hW := hP.1; have hP := hP.2; have r_pot := hP.1; have hP := hP.2; have O := NF.Fz.reW (hW.trans (NF.reS rfl rfl)) O; (have h3 := hP; have O := NF.Fz.unsel O (NF.apS NF.ap0) (List.Perm.refl _); (have O : NF.Fz _ F H (N2 ++ ([]) : List (Addr × HO)) := O; (have h_model := Enc.mono (eR4 "count" eInt "begin" (eDT kIC (eP2 eStr eInt)) "end" (eDT kIC (eP2 eStr eInt)) "special" (eDT kICI (eP2 eStr eInt))) l0.le h_model; (have h_rewriting := Enc.mono (eRw mg) l0.le h_rewriting; (have lF := Ex.trans lF l0; (NF.byS v4 h3 (NF.x_name ?_))))))))))))))))))
  refine (NF.x_seq (NF.x_asg (NF.x_makeR (NF.x_cons (NF.x_var rfl (NF.x_nil (NF.y_newRwr O h_rewriting (fun p5 as6 N7 H O r8 => (have O : NF.Fz _ F H (N7 ++ (N2 ++ ([])) : List (Addr × HO)) := O; (NF.x_name ?_))))))))))
  refine (NF.x_seq (NF.x_asg (NF.x_call (NF.x_cons (NF.x_var rfl (NF.x_cons (NF.x_call (NF.x_nil (NF.use_spW (i := ()) O rfl rfl k (fun y9 v10 F H l0 O h11 k => (have r_pot := Rsc.mono rBx l0.le r_pot; (have h_model := Enc.mono (eR4 "count" eInt "begin" (eDT kIC (eP2 eStr eInt)) "end" (eDT kIC (eP2 eStr eInt)) "special" (eDT kICI (eP2 eStr eInt))) l0.le h_model; (have h_rewriting := Enc.mono (eRw mg) l0.le h_rewriting; (have r8 := Rsc.mono (rRwr mg) l0.le r8; (have lF := Ex.trans lF l0; (NF.x_cons (NF.x_var rfl (NF.x_nil (NF.use_spW (i := (a_model, y9, y1)) O rfl ⟨_, _, _, rfl, h_model, h11, rfl⟩ k (fun y12 v13 F H l0 O h14 k => (have r_pot := Rsc.mono rBx l0.le r_pot; (have h_model := Enc.mono (eR4 "count" eInt "begin" (eDT kIC (eP2 eStr eInt)) "end" (eDT kIC (eP2 eStr eInt)) "special" (eDT kICI (eP2 eStr eInt))) l0.le h_model; (have h_rewriting := Enc.mono (eRw mg) l0.le h_rewriting; (have r8 := Rsc.mono (rRwr mg) l0.le r8; (have h11 := Enc.mono (eR3 "nodes" (eLst (eP2 eInt eChr)) "mode" eInt "seen" eInt) l0.le h11; (have lF := Ex.trans lF l0; (NF.x_name ?_)))))))))))))))))))))))))))
  refine (NF.x_seq (NF.x_ifs (NF.x_not (NF.x_B (NF.x_call (NF.x_cons (NF.x_var rfl (NF.x_cons (NF.x_var rfl (NF.x_cons (NF.x_var rfl (NF.x_nil (NF.use_spWm (i := ((a_rewriting, 0, [], 0), y1, y12)) (p5, as6) (NF.Fz.sel O (List.Perm.refl _) (NF.apS NF.ap0)) rfl ⟨_, _, rfl, _, rfl, r8, rfl, h14⟩ k (fun y15 v18 F H W l0 O hP k => Exists.elim hP fun N16 hP => (have hW := hP.1; have hP := hP.2; have r8 := hP.1; have hP := hP.2; have O := NF.Fz.reW (hW.trans (NF.reS rfl rfl)) O; (have h17 := hP; have O := NF.Fz.unsel O (NF.apS NF.ap0) (List.Perm.refl _); (have O : NF.Fz _ F H (N16 ++ (N2 ++ ([])) : List (Addr × HO)) := O; (have r_pot := Rsc.mono rBx l0.le r_pot; (have h_model := Enc.mono (eR4 "count" eInt "begin" (eDT kIC (eP2 eStr eInt)) "end" (eDT kIC (eP2 eStr eInt)) "special" (eDT kICI (eP2 eStr eInt))) l0.le h_model; (have h_rewriting := Enc.mono (eRw mg) l0.le h_rewriting; (have h14 := Enc.mono (eP3 eInt (eLst eStr) (eR3 "nodes" (eLst (eP2 eInt eChr)) "mode" eInt "seen" eInt)) l0.le h14; (have lF := Ex.trans lF l0; (NF.byB v18 h17 (NF.x_bl (NF.x_itb (fun g60 => (have k := k.1 g60; ?n61)) (fun g60 => (have k := k.2 g60; ?n62)))))))))))))))))))))))))))
  case n61 =>
    exact (NF.x_ret (NF.x_c (NF.ret_m (P := fun _ F _ (h : (Addr × List Addr)) W v (y : Bool) => ∃ N0, W = N0 ++ ([]) ∧ rBx.rep F h.1 h.2 N0 () ∧ eBool.rep F v y) (h := (p_pot, as_pot)) q false k (NF.Fz.sub (NF.Fz.perm O (NF.mvS NF.mv0)) (NF.sbS NF.sb0)) (NF.app_dom ((Rsc.dom rBx r_pot).trans d_p_pot.symm) rfl) lF ⟨_, rfl, r_pot, rfl⟩)))
  case n62 =>
    refine NF.x_next ?_
    refine (NF.x_seq (NF.x_asg (NF.x_op (NF.x_op (NF.x_var rfl (NF.x_c (have c19 := k.1; have k := k.2; (NF.y_ixS c19.1 c19.2 (NF.x_c (have c20 := k.1; have k := k.2; (NF.x_addS c20 (NF.x_name ?_))))))))))))
    refine (NF.x_seq (NF.x_ifs (NF.x_not (NF.x_B (NF.x_call (NF.x_cons (NF.x_var rfl (NF.x_cons (NF.x_var rfl (NF.x_cons (NF.x_call (NF.x_cons (NF.x_var rfl (NF.x_cons (NF.x_op (NF.x_var rfl (NF.x_c (NF.y_ix32 O.leF h14 (fun v21 h22 => (NF.x_cons (NF.x_var rfl (NF.x_nil (NF.use_spW (i := (a_model, y12.2.2, ((sg (cS a_menu (0 : Int))) ++ (Str.ofString "!")))) O rfl ⟨_, _, _, rfl, h_model, h22, rfl⟩ k (fun y23 v24 F H l0 O h25 k => (have r_pot := Rsc.mono rBx l0.le r_pot; (have h_model := Enc.mono (eR4 "count" eInt "begin" (eDT kIC (eP2 eStr eInt)) "end" (eDT kIC (eP2 eStr eInt)) "special" (eDT kICI (eP2 eStr eInt))) l0.le h_model; (have h_rewriting := Enc.mono (eRw mg) l0.le h_rewriting; (have r8 := Rsc.mono (rRwr mg) l0.le r8; (have h14 := Enc.mono (eP3 eInt (eLst eStr) (eR3 "nodes" (eLst (eP2 eInt eChr)) "mode" eInt "seen" eInt)) l0.le h14; (have h22 := Enc.mono (eR3 "nodes" (eLst (eP2 eInt eChr)) "mode" eInt "seen" eInt) l0.le h22; (have lF := Ex.trans lF l0; (NF.x_nil (NF.use_spWm (i := (y15.2, ((sg (cS a_menu (0 : Int))) ++ (Str.ofString "!")), y23)) (p5, as6) (NF.Fz.sel O (List.Perm.refl _) (NF.apS NF.ap0)) rfl ⟨_, _, rfl, _, rfl, r8, rfl, h25⟩ k (fun y26 v29 F H W l0 O hP k => Exists.elim hP fun N27 hP => (have hW := hP.1; have hP := hP.2; have r8 := hP.1; have hP := hP.2; have O := NF.Fz.reW (hW.trans (NF.reS rfl rfl)) O; (have h28 := hP; have O := NF.Fz.unsel O (NF.apS NF.ap0) (List.Perm.refl _); (have O : NF.Fz _ F H (N27 ++ (N2 ++ ([])) : List (Addr × HO)) := O; (have r_pot := Rsc.mono rBx l0.le r_pot; (have h_model := Enc.mono (eR4 "count" eInt "begin" (eDT kIC (eP2 eStr eInt)) "end" (eDT kIC (eP2 eStr eInt)) "special" (eDT kICI (eP2 eStr eInt))) l0.le h_model; (have h_rewriting := Enc.mono (eRw mg) l0.le h_rewriting; (have h14 := Enc.mono (eP3 eInt (eLst eStr) (eR3 "nodes" (eLst (eP2 eInt eChr)) "mode" eInt "seen" eInt)) l0.le h14; (have h22 := Enc.mono (eR3 "nodes" (eLst (eP2 eInt eChr)) "mode" eInt "seen" eInt) l0.le h22; (have h25 := Enc.mono (eP3 eInt (eLst eStr) (eR3 "nodes" (eLst (eP2 eInt eChr)) "mode" eInt "seen" eInt)) l0.le h25; (have lF := Ex.trans lF l0; (NF.byB v29 h28 (NF.x_bl (NF.x_itb (fun g57 => (have k := k.1 g57; ?n58)) (fun g57 => (have k := k.2 g57; ?n59)))))))))))))))))))))))))))))))))))))))))))))))))
    case n58 =>
      exact (NF.x_ret (NF.x_c (NF.ret_m (P := fun _ F _ (h : (Addr × List Addr)) W v (y : Bool) => ∃ N0, W = N0 ++ ([]) ∧ rBx.rep F h.1 h.2 N0 () ∧ eBool.rep F v y) (h := (p_pot, as_pot)) q false k (NF.Fz.sub (NF.Fz.perm O (NF.mvS NF.mv0)) (NF.sbS NF.sb0)) (NF.app_dom ((Rsc.dom rBx r_pot).trans d_p_pot.symm) rfl) lF ⟨_, rfl, r_pot, rfl⟩)))
    case n59 =>
      refine NF.x_next ?_
      refine (NF.x_seq (NF.x_asg (NF.x_call (NF.x_cons (NF.x_lc (NF.x_jL (NF.x_dget (NF.x_op (NF.x_var rfl (NF.x_c (NF.y_ix32 O.leF h14 (fun v30 h31 => (NF.x_c (NF.y_rix30 O.leF h31 (fun _ _ _ => rfl) (fun v32 h33 => (NF.y_jL O.leF h33 (fun J T => (NF.y_comp (er := eStr) (fun F R => ∃ N27 : List (Addr × HO), ∃ N2 : List (Addr × HO), R = (N27 ++ (N2 ++ ([])) : List (Addr × HO)) ∧ (rRwr mg).rep F p5 as6 N27 y26.2 ∧ rBx.rep F p_pot as_pot N2 ()) T (by rintro _ _ ⟨N27, N2, rfl, r8, r_pot⟩; first | trivial | simp) O k.2 k.1 ⟨_, _, rfl, r8, r_pot⟩ (fun i x34 r pc40 acc38 at39 F0 F R H v35 hi lc37 hI ra41 hl l1 O h36 k => match R, hI, O with | _, ⟨N27, N2, rfl, r8, r_pot⟩, O => (have O : NF.Fz _ F H ([(pc40, HO.lst acc38)] ++ N27 ++ (N2 ++ ([]))) := O; (have r8 := Rsc.mono (rRwr mg) l1.le r8; (have r_pot := Rsc.mono rBx l1.le r_pot; (have lc37 := Ex.trans lc37 l1; (have ra41 := ra41.mono fun _ _ => Enc.mono eStr l1.le; (have h_model := Enc.mono (eR4 "count" eInt "begin" (eDT kIC (eP2 eStr eInt)) "end" (eDT kIC (eP2 eStr eInt)) "special" (eDT kICI (eP2 eStr eInt))) lc37.le h_model; (have h_rewriting := Enc.mono (eRw mg) lc37.le h_rewriting; (have h14 := Enc.mono (eP3 eInt (eLst eStr) (eR3 "nodes" (eLst (eP2 eInt eChr)) "mode" eInt "seen" eInt)) lc37.le h14; (have h31 := Enc.mono (eR3 "nodes" (eLst (eP2 eInt eChr)) "mode" eInt "seen" eInt) lc37.le h31; (have h33 := Enc.mono (eLst (eP2 eInt eChr)) lc37.le h33; (have lF := Ex.trans lF lc37; (NF.x_name ⟨NF.set_wipe _ _ _, (NF.x_yes (NF.x_tt (NF.x_op (NF.x_var rfl (NF.x_c (NF.y_ix21 O.leF h36 (fun u hu => NF.byC u hu (NF.cE_mk (R' := N27 ++ (N2 ++ ([]))) hi lc37 ⟨_, _, rfl, r8, r_pot⟩ O ra41 hl rfl k))))))))⟩))))))))))))) (fun p44 F R vs43 y42 H l0 hI O ra45 k => match R, hI, O with | _, ⟨N27, N2, rfl, r8, r_pot⟩, O => (have h_model := Enc.mono (eR4 "count" eInt "begin" (eDT kIC (eP2 eStr eInt)) "end" (eDT kIC (eP2 eStr eInt)) "special" (eDT kICI (eP2 eStr eInt))) l0.le h_model; (have h_rewriting := Enc.mono (eRw mg) l0.le h_rewriting; (have h14 := Enc.mono (eP3 eInt (eLst eStr) (eR3 "nodes" (eLst (eP2 eInt eChr)) "mode" eInt "seen" eInt)) l0.le h14; (have h31 := Enc.mono (eR3 "nodes" (eLst (eP2 eInt eChr)) "mode" eInt "seen" eInt) l0.le h31; (have h33 := Enc.mono (eLst (eP2 eInt eChr)) l0.le h33; (have lF := Ex.trans lF l0; (NF.y_frz O 0 rfl (fun F l0 hp O => (have O : NF.Fz _ F H (N27 ++ (N2 ++ ([])) : List (Addr × HO)) := O; (have r_pot := Rsc.mono rBx l0.le r_pot; (have h_model := Enc.mono (eR4 "count" eInt "begin" (eDT kIC (eP2 eStr eInt)) "end" (eDT kIC (eP2 eStr eInt)) "special" (eDT kICI (eP2 eStr eInt))) l0.le h_model; (have h_rewriting := Enc.mono (eRw mg) l0.le h_rewriting; (have r8 := Rsc.mono (rRwr mg) l0.le r8; (have h14 := Enc.mono (eP3 eInt (eLst eStr) (eR3 "nodes" (eLst (eP2 eInt eChr)) "mode" eInt "seen" eInt)) l0.le h14; (have h31 := Enc.mono (eR3 "nodes" (eLst (eP2 eInt eChr)) "mode" eInt "seen" eInt) l0.le h31; (have h33 := Enc.mono (eLst (eP2 eInt eChr)) l0.le h33; (have lF := Ex.trans lF l0; (have h46 : (eLst eStr).rep F (.ref p44) y42 := ⟨_, _, rfl, hp, ra45.mono fun _ _ => Enc.mono eStr l0.le⟩; (NF.x_nil (NF.use_spW (i := y42) O rfl ⟨_, rfl, h46⟩ k (fun y47 v F H l0 O hv k => NF.byS v hv (have r_pot := Rsc.mono rBx l0.le r_pot; (have h_model := Enc.mono (eR4 "count" eInt "begin" (eDT kIC (eP2 eStr eInt)) "end" (eDT kIC (eP2 eStr eInt)) "special" (eDT kICI (eP2 eStr eInt))) l0.le h_model; (have h_rewriting := Enc.mono (eRw mg) l0.le h_rewriting; (have r8 := Rsc.mono (rRwr mg) l0.le r8; (have h14 := Enc.mono (eP3 eInt (eLst eStr) (eR3 "nodes" (eLst (eP2 eInt eChr)) "mode" eInt "seen" eInt)) l0.le h14; (have h31 := Enc.mono (eR3 "nodes" (eLst (eP2 eInt eChr)) "mode" eInt "seen" eInt) l0.le h31; (have h33 := Enc.mono (eLst (eP2 eInt eChr)) l0.le h33; (have h46 := Enc.mono (eLst eStr) l0.le h46; (have lF := Ex.trans lF l0; (NF.x_name ?_))))))))))))))))))))))))))))))))))))))))))))))))))
      exact (NF.x_ret (NF.x_call (NF.x_cons (NF.x_var rfl (NF.x_cons (NF.x_var rfl (NF.x_cons (NF.x_call (NF.x_cons (NF.x_var rfl (NF.x_cons (NF.x_op (NF.x_var rfl (NF.x_c (NF.y_ix32 O.leF h14 (fun v48 h49 => (NF.x_cons (NF.x_var rfl (NF.x_nil (NF.use_spW (i := (a_model, y12.2.2, y47)) O rfl ⟨_, _, _, rfl, h_model, h49, rfl⟩ k (fun y50 v51 F H l0 O h52 k => (have r_pot := Rsc.mono rBx l0.le r_pot; (have h_model := Enc.mono (eR4 "count" eInt "begin" (eDT kIC (eP2 eStr eInt)) "end" (eDT kIC (eP2 eStr eInt)) "special" (eDT kICI (eP2 eStr eInt))) l0.le h_model; (have h_rewriting := Enc.mono (eRw mg) l0.le h_rewriting; (have r8 := Rsc.mono (rRwr mg) l0.le r8; (have h14 := Enc.mono (eP3 eInt (eLst eStr) (eR3 "nodes" (eLst (eP2 eInt eChr)) "mode" eInt "seen" eInt)) l0.le h14; (have h49 := Enc.mono (eR3 "nodes" (eLst (eP2 eInt eChr)) "mode" eInt "seen" eInt) l0.le h49; (have lF := Ex.trans lF l0; (NF.x_nil (NF.use_spWm (i := (y26.2, y47, y50)) (p5, as6) (NF.Fz.sel O (List.Perm.refl _) (NF.apS NF.ap0)) rfl ⟨_, _, rfl, _, rfl, r8, rfl, h52⟩ k (fun y53 v56 F H W l0 O hP k => Exists.elim hP fun N54 hP => (have hW := hP.1; have hP := hP.2; have r8 := hP.1; have hP := hP.2; have O := NF.Fz.reW (hW.trans (NF.reS rfl rfl)) O; (have h55 := hP; have O := NF.Fz.unsel O (NF.apS NF.ap0) (List.Perm.refl _); (have O : NF.Fz _ F H (N54 ++ (N2 ++ ([])) : List (Addr × HO)) := O; (have r_pot := Rsc.mono rBx l0.le r_pot; (have h_model := Enc.mono (eR4 "count" eInt "begin" (eDT kIC (eP2 eStr eInt)) "end" (eDT kIC (eP2 eStr eInt)) "special" (eDT kICI (eP2 eStr eInt))) l0.le h_model; (have h_rewriting := Enc.mono (eRw mg) l0.le h_rewriting; (have h14 := Enc.mono (eP3 eInt (eLst eStr) (eR3 "nodes" (eLst (eP2 eInt eChr)) "mode" eInt "seen" eInt)) l0.le h14; (have h49 := Enc.mono (eR3 "nodes" (eLst (eP2 eInt eChr)) "mode" eInt "seen" eInt) l0.le h49; (have h52 := Enc.mono (eP3 eInt (eLst eStr) (eR3 "nodes" (eLst (eP2 eInt eChr)) "mode" eInt "seen" eInt)) l0.le h52; (have lF := Ex.trans lF l0; (NF.byB v56 h55 (NF.ret_m (P := fun _ F _ (h : (Addr × List Addr)) W v (y : Bool) => ∃ N0, W = N0 ++ ([]) ∧ rBx.rep F h.1 h.2 N0 () ∧ eBool.rep F v y) (h := (p_pot, as_pot)) q y53.1 k (NF.Fz.sub (NF.Fz.perm O (NF.mvS NF.mv0)) (NF.sbS NF.sb0)) (NF.app_dom ((Rsc.dom rBx r_pot).trans d_p_pot.symm) rfl) lF ⟨_, rfl, r_pot, rfl⟩)))))))))))))))))))))))))))))))))))))))))))

def m_law_whole (a_model : Int × (List ((Int × Nat) × (Str × Int))) × (List ((Int × Nat) × (Str × Int))) × (List ((Int × Nat × Int) × (Str × Int)))) (a_rewriting : RwM) (a_text : Str) (a_given : Str) : W (Bool) :=
  W.bind (m_law_fresh) fun y5 =>
  W.bind (m_law_try a_model y5 a_text) fun y8 =>
  W.chk ((y8.2.1.map (·.length)).sum + y8.2.1.length * (Str.ofString "").length ≤ 16777216) <|
  W.ite (!decide ((Txt.join (Str.ofString "") y8.2.1) = a_given)) (W.ok false)
  (W.bind (m_law_agrees (a_rewriting, 0, [], 0) a_text y8) fun y14 =>
  W.ite (!y14.1) (W.ok false)
  (W.bind (m_Rewriting_call a_rewriting a_text) fun y20 =>
  W.ok (true && (decide (y20 = a_given)))))
abbrev NM_law_whole : List Str := ["model", "rewriting", "text", "given", "reader", "due", "told"]
theorem sc_law_whole : FnScope NM_law_whole ["model", "rewriting", "text", "given"] (defScope s_law_whole) := ⟨rfl, rfl, rfl, by decide +kernel, rfl, by decide +kernel, by decide +kernel⟩
theorem d_law_whole (F : Fn0 K mg "_law_whole" s_law_whole) (T : Txt P K mg) (D_Rewriter : MkP P w K mg base 1 "Rewriter" ["self", "rewriting"] (spRwr mg)) (D_law_try : Def P w K mg base 2 "_law_try" ["model", "state", "letters"] (spW 3 (fun F vs (i : (Int × (List ((Int × Nat) × (Str × Int))) × (List ((Int × Nat) × (Str × Int))) × (List ((Int × Nat × Int) × (Str × Int)))) × ((List (Int × Nat)) × Int × Int) × Str) => ∃ v0 v1 v2, vs = [v0, v1, v2] ∧ (eR4 "count" eInt "begin" (eDT kIC (eP2 eStr eInt)) "end" (eDT kIC (eP2 eStr eInt)) "special" (eDT kICI (eP2 eStr eInt))).rep F v0 i.1 ∧ (eR3 "nodes" (eLst (eP2 eInt eChr)) "mode" eInt "seen" eInt).rep F v1 i.2.1 ∧ eStr.rep F v2 i.2.2) (eP3 eInt (eLst eStr) (eR3 "nodes" (eLst (eP2 eInt eChr)) "mode" eInt "seen" eInt)) (fun (i : (Int × (List ((Int × Nat) × (Str × Int))) × (List ((Int × Nat) × (Str × Int))) × (List ((Int × Nat × Int) × (Str × Int)))) × ((List (Int × Nat)) × Int × Int) × Str) => m_law_try i.1 i.2.1 i.2.2))) (D_Rewriting_call : DefC P w K mg base 4 "Rewriting" ["self", "text"] (spW 2 (fun F vs (i : RwM × Str) => ∃ v0 v1, vs = [v0, v1] ∧ (eRw mg).rep F v0 i.1 ∧ eStr.rep F v1 i.2) eStr (fun (i : RwM × Str) => m_Rewriting_call i.1 i.2))) (D_law_fresh : Def P w K mg base 1 "_law_fresh" [] (spW 0 (fun F vs (i : Unit) => vs = []) (eR3 "nodes" (eLst (eP2 eInt eChr)) "mode" eInt "seen" eInt) (fun (i : Unit) => m_law_fresh))) (D_law_agrees : Def P w K mg base 5 "_law_agrees" ["reader", "letters", "due"] (spWm 3 (fun F (h : (Addr × List Addr)) W vs (i : (RrM) × Str × (Int × (List Str) × ((List (Int × Nat)) × Int × Int))) => ∃ v1 v2, vs = [.ref h.1, v1, v2] ∧ ∃ N0, W = N0 ++ ([]) ∧ (rRwr mg).rep F h.1 h.2 N0 i.1 ∧ eStr.rep F v1 i.2.1 ∧ (eP3 eInt (eLst eStr) (eR3 "nodes" (eLst (eP2 eInt eChr)) "mode" eInt "seen" eInt)).rep F v2 i.2.2) (fun _ F _ (h : (Addr × List Addr)) W v (y : Bool × (RrM)) => ∃ N0, W = N0 ++ ([]) ∧ (rRwr mg).rep F h.1 h.2 N0 y.2 ∧ eBool.rep F v y.1) (fun (i : (RrM) × Str × (Int × (List Str) × ((List (Int × Nat)) × Int × Int))) => m_law_agrees i.1 i.2.1 i.2.2))) :
    Def P w K mg base 6 "_law_whole" ["model", "rewriting", "text", "given"] (spW 4 (fun F vs (i : (Int × (List ((Int × Nat) × (Str × Int))) × (List ((Int × Nat) × (Str × Int))) × (List ((Int × Nat × Int) × (Str × Int)))) × RwM × Str × Str) => ∃ v0 v1 v2 v3, vs = [v0, v1, v2, v3] ∧ (eR4 "count" eInt "begin" (eDT kIC (eP2 eStr eInt)) "end" (eDT kIC (eP2 eStr eInt)) "special" (eDT kICI (eP2 eStr eInt))).rep F v0 i.1 ∧ (eRw mg).rep F v1 i.2.1 ∧ eStr.rep F v2 i.2.2.1 ∧ eStr.rep F v3 i.2.2.2) eBool (fun (i : (Int × (List ((Int × Nat) × (Str × Int))) × (List ((Int × Nat) × (Str × Int))) × (List ((Int × Nat × Int) × (Str × Int)))) × RwM × Str × Str) => m_law_whole i.1 i.2.1 i.2.2.1 i.2.2.2)) := by
  refine Def.mk0 F sc_law_whole (by first | exact NF.hl_spW | exact NF.hl_spWb | exact NF.hl_spWX | exact NF.hl_spWm | exact NF.hl_spWo) (fun _ _ _ _ _ _ us hl => match us, hl with | [_, _, _, _], _ => rfl) (fun cdv A outer s H vs Q E hr h => ?_)
  refine ⟨_, (pss_cons (ps_set (i := 4) sc_law_whole.nd rfl (Or.inl rfl) (pe_mkp D_Rewriter rfl (hr.mono (by decide)) (by rfl) (pa_cons (pv 1) pa_nil)))
      (pss_cons (ps_set (i := 5) sc_law_whole.nd rfl (Or.inl rfl) (pe_d D_law_try (hr.mono (by decide)) rfl (pa_cons (pv 0) (pa_cons (pe_d0 D_law_fresh (hr.mono (by decide)) rfl) (pa_cons (pv 2) pa_nil)))))
      (pss_cons (ps_if (PW.pt (pw_or (pt_cmpR op_ne (pe_bm PySem.F.plainAttrs_str PySem.F.slot_str_join PySem.F.type_str_join mtJoin pe_str (pa_cons (pe_ix ix_tup (pv 5) pe_int (fun _ _ => rfl)) pa_nil)) (pv 3) (nomark _)) (pw_or1 (pt_not (pt_val (pe_d D_law_agrees (hr.mono (by decide)) rfl (pa_cons (pv 4) (pa_cons (pv 2) (pa_cons (pv 5) pa_nil)))))))))
      (pss_one (ps_ret pe_bl))
      pss_nil)
      (pss_cons (ps_set (i := 6) sc_law_whole.nd rfl (Or.inl rfl) (pe_cal D_Rewriting_call rfl (hr.mono (by decide)) (pv 1) (pa_cons (pv 2) pa_nil)))
      (pss_one (ps_ret (pe_and (pe_callB callIsT (by rfl) T.b_isinstance (by decide +kernel) (pa_cons (pv 6) (pa_cons (pe_ty (n := "str") (by rfl) T.b_str (by decide +kernel)) pa_nil))) (pe_one (pe_cmpR op_eq (pv 6) (pv 3) (nomark _)))))))))), ?_⟩
  try dsimp only [cxOf, Cx.nox, Cx.wish]
  obtain ⟨hl, F, ⟨a_model, a_rewriting, a_text, a_given⟩, K0, hF, ⟨v_model, v_rewriting, _, _, rfl, h_model, h_rewriting, rfl, rfl⟩, k, q⟩ := h
  have O := NF.Fz.start hF
  have lF := NF.Ex.rfl (B := H) (F := F)
  unfold m_law_whole at k
  refine (NF.x_seq (NF.x_asg (NF.x_makeR (NF.x_cons (NF.x_var rfl (NF.x_nil (NF.y_newRwr O h_rewriting (fun p1 as2 N3 H O r4 => (have O : NF.Fz _ F H (N3 ++ ([]) : List (Addr × HO)) := O; (NF.x_name ?_))))))))))
  refine (NF.x_seq (NF.x_asg (NF.x_call (NF.x_cons (NF.x_var rfl (NF.x_cons (NF.x_call (NF.x_nil (NF.use_spW (i := ()) O rfl rfl k (fun y5 v6 F H l0 O h7 k => (have h_model := Enc.mono (eR4 "count" eInt "begin" (eDT kIC (eP2 eStr eInt)) "end" (eDT kIC (eP2 eStr eInt)) "special" (eDT kICI (eP2 eStr eInt))) l0.le h_model; (have h_rewriting := Enc.mono (eRw mg) l0.le h_rewriting; (have r4 := Rsc.mono (rRwr mg) l0.le r4; (have lF := Ex.trans lF l0; (NF.x_cons (NF.x_var rfl (NF.x_nil (NF.use_spW (i := (a_model, y5, a_text)) O rfl ⟨_, _, _, rfl, h_model, h7, rfl⟩ k (fun y8 v9 F H l0 O h10 k => (have h_model := Enc.mono (eR4 "count" eInt "begin" (eDT kIC (eP2 eStr eInt)) "end" (eDT kIC (eP2 eStr eInt)) "special" (eDT kICI (eP2 eStr eInt))) l0.le h_model; (have h_rewriting := Enc.mono (eRw mg) l0.le h_rewriting; (have r4 := Rsc.mono (rRwr mg) l0.le r4; (have h7 := Enc.mono (eR3 "nodes" (eLst (eP2 eInt eChr)) "mode" eInt "seen" eInt) l0.le h7; (have lF := Ex.trans lF l0; (NF.x_name ?_)))))))))))))))))))))))))
  refine (NF.x_seq (NF.x_ifs (NF.x_or (NF.x_test (NF.x_op (NF.x_bm (NF.x_c (NF.x_tyS (NF.x_cons (NF.x_op (NF.x_var rfl (NF.x_c (NF.y_ix31 O.leF h10 (fun v11 h12 => (NF.x_nil (have c13 := k.1; have k := k.2; (NF.y_joinL O.leF h12 c13 (NF.x_var rfl (NF.y_neS (NF.x_bl (NF.x_itb (fun g23 => (have k := k.1 g23; (NF.x_tt ?n24))) (fun g23 => (have k := k.2 g23; (NF.x_not (NF.x_B (NF.x_call (NF.x_cons (NF.x_var rfl (NF.x_cons (NF.x_var rfl (NF.x_cons (NF.x_var rfl (NF.x_nil (NF.use_spWm (i := ((a_rewriting, 0, [], 0), a_text, y8)) (p1, as2) (NF.Fz.sel O (List.Perm.refl _) (NF.apS NF.ap0)) rfl ⟨_, _, rfl, _, rfl, r4, rfl, h10⟩ k (fun y14 v17 F H W l0 O hP k => Exists.elim hP fun N15 hP => (have hW := hP.1; have hP := hP.2; have r4 := hP.1; have hP := hP.2; have O := NF.Fz.reW (hW.trans (NF.reS rfl rfl)) O; (have h16 := hP; have O := NF.Fz.unsel O (NF.apS NF.ap0) (List.Perm.refl _); (have O : NF.Fz _ F H (N15 ++ ([]) : List (Addr × HO)) := O; (have h_model := Enc.mono (eR4 "count" eInt "begin" (eDT kIC (eP2 eStr eInt)) "end" (eDT kIC (eP2 eStr eInt)) "special" (eDT kICI (eP2 eStr eInt))) l0.le h_model; (have h_rewriting := Enc.mono (eRw mg) l0.le h_rewriting; (have h10 := Enc.mono (eP3 eInt (eLst eStr) (eR3 "nodes" (eLst (eP2 eInt eChr)) "mode" eInt "seen" eInt)) l0.le h10; (have h12 := Enc.mono (eLst eStr) l0.le h12; (have lF := Ex.trans lF l0; (NF.byB v17 h16 (NF.x_bl (NF.x_itb (fun g22 => (have k := k.1 g22; ?n25)) (fun g22 => (have k := k.2 g22; ?n26))))))))))))))))))))))))))))))))))))))))))))))))
  case n24 =>
    exact (NF.x_ret (NF.x_c (q false k _ _ _ O.leB O.leF lF rfl)))
  case n25 =>
    exact (NF.x_ret (NF.x_c (q false k _ _ _ O.leB O.leF lF rfl)))
  case n26 =>
    refine NF.x_next ?_
    refine (NF.x_seq (NF.x_asg (NF.x_cal (NF.x_var rfl (NF.y_obj_Rewriting O.leF h_rewriting (fun a19 dx fs hv hH h18 => ⟨a19, hv, (NF.x_cons (NF.x_var rfl (NF.x_nil ⟨Or.inr ⟨dx, fs, hH⟩, (NF.use_spW (i := (a_rewriting, a_text)) O rfl ⟨_, _, rfl, h18, rfl⟩ k (fun y20 v F H l0 O hv k => NF.byS v hv (have h_model := Enc.mono (eR4 "count" eInt "begin" (eDT kIC (eP2 eStr eInt)) "end" (eDT kIC (eP2 eStr eInt)) "special" (eDT kICI (eP2 eStr eInt))) l0.le h_model; (have h_rewriting := Enc.mono (eRw mg) l0.le h_rewriting; (have r4 := Rsc.mono (rRwr mg) l0.le r4; (have h10 := Enc.mono (eP3 eInt (eLst eStr) (eR3 "nodes" (eLst (eP2 eInt eChr)) "mode" eInt "seen" eInt)) l0.le h10; (have h18 := Enc.mono (eRw mg) l0.le h18; (have lF := Ex.trans lF l0; (NF.x_name ?_)))))))))⟩)))⟩))))))
    exact (NF.x_ret (NF.y_and (fun Q q => (NF.x_cb (NF.x_cons (NF.x_var rfl (NF.x_cons (NF.x_c (NF.x_nil (NF.x_isS NF.kit_str_str q)))))))) (fun g21 Q q => (NF.x_op (NF.x_var rfl (NF.x_var rfl (NF.y_eqS q))))) (q (true && (decide (y20 = a_given))) k _ _ _ O.leB O.leF lF rfl)))


/-! letters.py in plain Lean -/
theorem fault_ok {z : Str} (hz : z.length ≤ 1000000) {K : Option Int → Prop} (k : K (Option.map (fun n : Nat => (n : Int)) (flt (tl z) 0 []))) : m_fault z K := by
  have hz2 : (tl z).length ≤ 1000000 := by rw [← len_tl]; exact hz
  unfold m_fault
  refine forW_enum (fun i r (op : List Nat) => ∃ st, op = st.reverse ∧ (∀ c ∈ st, low c) ∧ flt r i st = flt (tl z) 0 [] ∧ i + r.length = (tl z).length ∧ st.length ≤ i) ⟨[], rfl, by simp, rfl, by simp, by simp⟩ ?_ ?_
  · rintro i c r op Kn ⟨st, rfl, hl, hf, hn, hs⟩ hk
    rw [List.length_cons] at hn
    refine ⟨fun h => ?_, fun h => ?_⟩
    · have hc : low c := low_mem.mp (of_decide_eq_true h)
      refine ⟨small_ok (by rw [List.length_reverse]; omega), hk _ ⟨c :: st, by simp, ?_, ?_, by omega, by rw [List.length_cons]; omega⟩⟩
      · intro x hx
        rcases List.mem_cons.mp hx with rfl | hx
        · exact hc
        · exact hl x hx
      · rw [← hf, flt_cons, if_pos hc]
    · have hc : ¬ low c := fun q => of_decide_eq_false h (low_mem.mpr q)
      rw [flt_cons, if_neg hc] at hf
      refine ⟨fun h2 => ⟨fun h3 => ?_, fun h3 => ?_⟩, fun h2 => ?_⟩
      · cases st with
        | nil => exact absurd h3 (by simp)
        | cons t st =>
          have hu : 65 ≤ c ∧ c ≤ 72 := upp_mem.mp (of_decide_eq_true h2)
          have e : (t :: st).reverse = st.reverse ++ [t] := List.reverse_cons
          rw [e]
          refine ⟨t, atI_last _ _, (show (1 : Nat) ≤ 5592405 by decide), ?_⟩
          dsimp only at hf
          have ht := hl t List.mem_cons_self
          have el : Txt.lower (sg c) = sg (c + 32) := lower_up hu
          rw [el]
          refine ⟨fun h4 => ⟨_, _, rfl, ?_⟩, fun h4 => ?_⟩
          · have h5 : t = c + 32 := sg_inj.mp (of_decide_eq_true h4)
            rw [if_pos h5.symm] at hf
            rw [List.length_cons] at hs
            exact hk _ ⟨st, rfl, fun x hx => hl x (List.mem_cons_of_mem _ hx), hf, by omega, by omega⟩
          · have h5 : ¬ c + 32 = t := fun q => of_decide_eq_false h4 (sg_inj.mpr q.symm)
            rw [if_neg h5] at hf
            rw [← hf] at k
            exact k
      · have e : st = [] := by simpa using isEm.mp h3
        subst e
        rw [← hf] at k
        exact k
      · have hu : ¬ (65 ≤ c ∧ c ≤ 72) := fun q => of_decide_eq_false h2 (upp_mem.mpr q)
        have e : flt (tl z) 0 [] = some i := by
          rw [← hf]
          cases st with
          | nil => rfl
          | cons t st =>
            have ht := hl t List.mem_cons_self
            dsimp only
            rw [if_neg (by omega)]
        rw [e] at k
        exact k
  · rintro i op ⟨st, rfl, hl, hf, hn, hs⟩
    have e : flt [] i st = if st = [] then none else some i := rfl
    rw [e] at hf
    refine ⟨fun h => ⟨small_le hz, ?_⟩, fun h => ?_⟩
    · have : st ≠ [] := by simpa using nisEm.mp h
      rw [if_neg this] at hf
      rw [← hf] at k
      have e : i = z.length := by rw [len_tl]; simpa using hn
      rw [e] at k
      exact k
    · have : st = [] := by simpa using isEm.mp h
      rw [if_pos this] at hf
      rw [← hf] at k
      exact k
theorem nested_ok {z : Str} (hz : z.length ≤ 1000000) {K : Bool → Prop} (k : K (flt (tl z) 0 []).isNone) : m_is_nested z K := by
  unfold m_is_nested
  refine fault_ok hz ?_
  show K (Option.map (fun n : Nat => (n : Int)) (flt (tl z) 0 [])).isNone
  rw [Option.isNone_map]
  exact k
theorem name_ok {c : Nat} {K : Bool → Prop} (k : K (decide (low c))) : m_is_name c K := by
  unfold m_is_name
  refine ⟨fun _ => small_le (show (1 : Nat) ≤ 1000000 by decide), ?_⟩
  have e : (true && ((decide (((sg c).length : Int) = (1 : Int))) && (decide (c ∈ tl (Str.ofString "abcdefgh"))))) = decide (low c) := by
    rw [Bool.true_and, show decide (((sg c).length : Int) = 1) = true from rfl, Bool.true_and]
    exact decide_eq_decide.mpr low_mem
  rw [e]
  exact k
theorem letters_ok {z : Str} (hz : z.length ≤ 1000000) {K : Bool → Prop} (k : K ((tl z).all fun c => decide (low c ∨ (65 ≤ c ∧ c ≤ 72)))) : m_is_letters z K := by
  unfold m_is_letters
  refine ⟨small_le (by rw [← len_tl]; exact hz), compW_map (fun c => decide (low c ∨ (65 ≤ c ∧ c ≤ 72))) (tl z) (fun c _ K h => ?_) ?_⟩
  · have e : ((decide (c ∈ tl (Str.ofString "abcdefgh"))) || (decide (c ∈ tl (Str.ofString "ABCDEFGH")))) = decide (low c ∨ (65 ≤ c ∧ c ≤ 72)) := by
      rw [Bool.decide_or, decide_eq_decide.mpr (low_mem (c := c)), decide_eq_decide.mpr (upp_mem (c := c))]
    show K (some ((decide (c ∈ tl (Str.ofString "abcdefgh"))) || (decide (c ∈ tl (Str.ofString "ABCDEFGH")))))
    rw [e]
    exact h
  · have e : ((tl z).map fun c => decide (low c ∨ (65 ≤ c ∧ c ≤ 72))).all id = (tl z).all fun c => decide (low c ∨ (65 ≤ c ∧ c ≤ 72)) := by rw [List.all_map]; rfl
    show K (((tl z).map fun c => decide (low c ∨ (65 ≤ c ∧ c ≤ 72))).all id)
    rw [e]
    exact k

/-! rewritings in plain Lean: one letter, many letters; what the law tries, what a reader reads -/
section
abbrev BT := Int → Nat → Str × Int
abbrev ET := Int → Nat → Int → Str × Int
def st1 (B : BT) (E : ET) (st : List (Int × Nat)) (m : Int) (c : Nat) : Option (Str × List (Int × Nat) × Int) := if low c then some ((B m c).1, (m, c) :: st, (B m c).2) else match st with
  | (m0, n) :: st' => if c + 32 = n then some ((E m0 n m).1, st', (E m0 n m).2) else none
  | [] => none
def rws (B : BT) (E : ET) : List Nat → List (Int × Nat) → Int → Nat → Except Nat (List Str × List (Int × Nat) × Int)
  | [], st, m, _ => .ok ([], st, m)
  | c :: r, st, m, k => match st1 B E st m c with
    | none => .error k
    | some q => match rws B E r q.2.1 q.2.2 (k + 1) with
      | .error i => .error i
      | .ok p => .ok (q.1 :: p.1, p.2)
variable {B : BT} {E : ET}
theorem st1_lo {st : List (Int × Nat)} {m : Int} {c : Nat} (h : low c) : st1 B E st m c = some ((B m c).1, (m, c) :: st, (B m c).2) := by unfold st1; rw [if_pos h]
theorem st1_up {st : List (Int × Nat)} {m m0 : Int} {c n : Nat} (h : ¬ low c) (e : c + 32 = n) : st1 B E ((m0, n) :: st) m c = some ((E m0 n m).1, st, (E m0 n m).2) := by unfold st1; rw [if_neg h]; exact if_pos e
theorem st1_no {st : List (Int × Nat)} {m m0 : Int} {c n : Nat} (h : ¬ low c) (e : ¬ c + 32 = n) : st1 B E ((m0, n) :: st) m c = none := by unfold st1; rw [if_neg h]; exact if_neg e
theorem st1_nil {m : Int} {c : Nat} (h : ¬ low c) : st1 B E [] m c = none := by unfold st1; rw [if_neg h]
theorem rws_none {c k : Nat} {r : List Nat} {st : List (Int × Nat)} {m : Int} (h : st1 B E st m c = none) : rws B E (c :: r) st m k = .error k := by rw [rws.eq_def]; simp only [h]
theorem rws_some {c k : Nat} {r : List Nat} {st : List (Int × Nat)} {m : Int} {q : Str × List (Int × Nat) × Int} (h : st1 B E st m c = some q) : rws B E (c :: r) st m k = match rws B E r q.2.1 q.2.2 (k + 1) with
      | .error i => .error i
      | .ok p => .ok (q.1 :: p.1, p.2) := by rw [rws.eq_def]; simp only [h]
/-- told ahead -/
def pre (t : List Str) : Except Nat (List Str × List (Int × Nat) × Int) → Except Nat (List Str × List (Int × Nat) × Int)
  | .error i => .error i
  | .ok p => .ok (t ++ p.1, p.2)
theorem pre_cons {c k : Nat} {r : List Nat} {st : List (Int × Nat)} {m : Int} {q : Str × List (Int × Nat) × Int} (t : List Str) (h : st1 B E st m c = some q) : pre t (rws B E (c :: r) st m k) = pre (t ++ [q.1]) (rws B E r q.2.1 q.2.2 (k + 1)) := by
  rw [rws_some h]
  cases rws B E r q.2.1 q.2.2 (k + 1) with
  | error i => rfl
  | ok p => simp [pre]
theorem pre_nil (x : Except Nat (List Str × List (Int × Nat) × Int)) : pre [] x = x := by cases x <;> rfl
/-- what holds of a stack of open nodes -/
structure SOk (n : Int) (L : Nat) (B : BT) (E : ET) : Prop where
  bm : ∀ m c, 0 ≤ m → m < n → low c → 0 ≤ (B m c).2 ∧ (B m c).2 < n ∧ (B m c).1.length ≤ L
  em : ∀ m c e, 0 ≤ m → m < n → low c → 0 ≤ e → e < n → 0 ≤ (E m c e).2 ∧ (E m c e).2 < n ∧ (E m c e).1.length ≤ L
def StkOk (n : Int) (st : List (Int × Nat)) : Prop := ∀ x ∈ st, 0 ≤ x.1 ∧ x.1 < n ∧ low x.2
theorem st1_ok {n : Int} {L : Nat} (S : SOk n L B E) {st : List (Int × Nat)} {m : Int} {c : Nat} {q : Str × List (Int × Nat) × Int} (h : st1 B E st m c = some q) (hs : StkOk n st) (h0 : 0 ≤ m) (h1 : m < n) : StkOk n q.2.1 ∧ 0 ≤ q.2.2 ∧ q.2.2 < n ∧ q.1.length ≤ L ∧ q.2.1.length ≤ st.length + 1 := by
  by_cases hc : low c
  · rw [st1_lo hc] at h
    cases h
    obtain ⟨a, b, l⟩ := S.bm m c h0 h1 hc
    refine ⟨fun x hx => ?_, a, b, l, Nat.le_refl _⟩
    rcases List.mem_cons.mp hx with rfl | hx
    · exact ⟨h0, h1, hc⟩
    · exact hs x hx
  · cases st with
    | nil => rw [st1_nil hc] at h; cases h
    | cons y st =>
      obtain ⟨m0, nn⟩ := y
      obtain ⟨a, b, l⟩ := hs _ List.mem_cons_self
      by_cases e : c + 32 = nn
      · rw [st1_up hc e] at h
        cases h
        obtain ⟨a2, b2, l2⟩ := S.em m0 nn m a b l h0 h1
        exact ⟨fun x hx => hs x (List.mem_cons_of_mem _ hx), a2, b2, l2, by simp only [List.length_cons]; omega⟩
      · rw [st1_no hc e] at h; cases h
theorem rws_ok {n : Int} {L : Nat} (S : SOk n L B E) : ∀ {r : List Nat} {st : List (Int × Nat)} {m : Int} {k : Nat} {p : List Str × List (Int × Nat) × Int}, rws B E r st m k = .ok p → StkOk n st → 0 ≤ m → m < n →
    StkOk n p.2.1 ∧ 0 ≤ p.2.2 ∧ p.2.2 < n ∧ (∀ t ∈ p.1, t.length ≤ L) ∧ p.1.length = r.length ∧ p.2.1.length ≤ st.length + r.length
  | [], st, m, k, p, h, hs, h0, h1 => by cases h; exact ⟨hs, h0, h1, by simp, rfl, by simp⟩
  | c :: r, st, m, k, p, h, hs, h0, h1 => by
    cases e : st1 B E st m c with
    | none => rw [rws_none e] at h; cases h
    | some q =>
      obtain ⟨a1, a2, a3, a4, a5⟩ := st1_ok S e hs h0 h1
      rw [rws_some e] at h
      cases e2 : rws B E r q.2.1 q.2.2 (k + 1) with
      | error i => simp only [e2] at h; cases h
      | ok p2 =>
        simp only [e2] at h
        cases h
        obtain ⟨b1, b2, b3, b4, b5, b6⟩ := rws_ok S e2 a1 a2 a3
        refine ⟨b1, b2, b3, fun t ht => ?_, by simp only [List.length_cons, b5], by simp only [List.length_cons]; omega⟩
        rcases List.mem_cons.mp ht with rfl | ht
        · exact a4
        · exact b4 t ht
theorem rws_err : ∀ {r : List Nat} {st : List (Int × Nat)} {m : Int} {k i : Nat}, rws B E r st m k = .error i → k ≤ i
  | [], st, m, k, i, h => by cases h
  | c :: r, st, m, k, i, h => by
    cases e : st1 B E st m c with
    | none => rw [rws_none e] at h; cases h; exact Nat.le_refl _
    | some q =>
      rw [rws_some e] at h
      cases e2 : rws B E r q.2.1 q.2.2 (k + 1) with
      | error j =>
        simp only [e2] at h
        cases h
        have := rws_err e2
        omega
      | ok p2 => simp only [e2] at h; cases h
/-- with a stack whose names are open, run tells the same -/
theorem rws_run : ∀ {r : List Nat} {st : List (Int × Nat)} {m : Int} {k : Nat} {p : List Str × List (Int × Nat) × Int}, rws B E r st m k = .ok p → run r (st.map Prod.snd) = some (p.2.1.map Prod.snd)
  | [], st, m, k, p, h => by cases h; rfl
  | c :: r, st, m, k, p, h => by
    cases e : st1 B E st m c with
    | none => rw [rws_none e] at h; cases h
    | some q =>
      rw [rws_some e] at h
      cases e2 : rws B E r q.2.1 q.2.2 (k + 1) with
      | error i => simp only [e2] at h; cases h
      | ok p2 =>
        simp only [e2] at h
        cases h
        have ih := rws_run e2
        rw [run_cons]
        by_cases hc : low c
        · rw [st1_lo hc] at e
          cases e
          rw [if_pos hc]
          exact ih
        · rw [if_neg hc]
          cases st with
          | nil => rw [st1_nil hc] at e; cases e
          | cons y st =>
            obtain ⟨m0, nn⟩ := y
            by_cases e3 : c + 32 = nn
            · rw [st1_up hc e3] at e
              cases e
              show (if c + 32 = nn then run r (st.map Prod.snd) else none) = _
              rw [if_pos e3]
              exact ih
            · rw [st1_no hc e3] at e; cases e
theorem run_rws : ∀ {r : List Nat} {st : List (Int × Nat)} {m : Int} {k : Nat} {st' : List Nat}, run r (st.map Prod.snd) = some st' → ∃ p, rws B E r st m k = .ok p
  | [], st, m, k, st', h => ⟨_, rfl⟩
  | c :: r, st, m, k, st', h => by
    rw [run_cons] at h
    have fin : ∀ q, st1 B E st m c = some q → run r (q.2.1.map Prod.snd) = some st' → ∃ p, rws B E (c :: r) st m k = .ok p := fun q e h => by
      obtain ⟨p, hp⟩ := run_rws (m := q.2.2) (k := k + 1) h
      exact ⟨_, by rw [rws_some e, hp]⟩
    by_cases hc : low c
    · rw [if_pos hc] at h
      exact fin _ (st1_lo hc) h
    · rw [if_neg hc] at h
      cases st with
      | nil => cases h
      | cons y st =>
        obtain ⟨m0, nn⟩ := y
        have h : (if c + 32 = nn then run r (st.map Prod.snd) else none) = some st' := h
        by_cases e3 : c + 32 = nn
        · rw [if_pos e3] at h
          exact fin _ (st1_up hc e3) h
        · rw [if_neg e3] at h; cases h
theorem rws_shift : ∀ {r : List Nat} {st : List (Int × Nat)} {m : Int} {k j : Nat} {p : List Str × List (Int × Nat) × Int}, rws B E r st m k = .ok p → rws B E r st m j = .ok p
  | [], st, m, k, j, p, h => by cases h; rfl
  | c :: r, st, m, k, j, p, h => by
    cases e : st1 B E st m c with
    | none => rw [rws_none e] at h; cases h
    | some q =>
      rw [rws_some e] at h
      cases e2 : rws B E r q.2.1 q.2.2 (k + 1) with
      | error i => simp only [e2] at h; cases h
      | ok p2 =>
        simp only [e2] at h
        cases h
        rw [rws_some e, rws_shift (j := j + 1) e2]
theorem rws_app : ∀ {r s : List Nat} {st : List (Int × Nat)} {m : Int} {k : Nat} {p : List Str × List (Int × Nat) × Int}, rws B E r st m k = .ok p → rws B E (r ++ s) st m k = pre p.1 (rws B E s p.2.1 p.2.2 (k + r.length))
  | [], s, st, m, k, p, h => by cases h; exact (pre_nil _).symm
  | c :: r, s, st, m, k, p, h => by
    cases e : st1 B E st m c with
    | none => rw [rws_none e] at h; cases h
    | some q =>
      rw [rws_some e] at h
      cases e2 : rws B E r q.2.1 q.2.2 (k + 1) with
      | error i => simp only [e2] at h; cases h
      | ok p2 =>
        simp only [e2] at h
        cases h
        rw [List.cons_append, rws_some e, rws_app (s := s) e2]
        have en : k + 1 + r.length = k + (c :: r).length := by simp only [List.length_cons]; omega
        rw [en]
        cases rws B E s p2.2.1 p2.2.2 (k + (c :: r).length) with
        | error i => rfl
        | ok p3 => rfl
end
/-! what the law tries -/
abbrev MdM := Int × (List ((Int × Nat) × (Str × Int))) × (List ((Int × Nat) × (Str × Int))) × (List ((Int × Nat × Int) × (Str × Int)))
def mB (md : MdM) : BT := fun m c => (dGet md.2.1 (m, c)).getD (sg c, m)
def mE (md : MdM) : ET := fun m c e => (dGet md.2.2.2 (m, c, e)).getD ((dGet md.2.2.1 (m, c)).getD (Txt.upper (sg c), m))
/-- the law's answer for letters behind a state -/
def tryR (B : BT) (E : ET) (s : StM) (z : Str) : Int × List Str × StM := match rws B E (tl z) s.1.reverse s.2.1 0 with
  | .error i => (s.2.2 + (i : Int), [], s)
  | .ok p => (-1, p.1, (p.2.1.reverse, p.2.2, s.2.2 + (z.length : Int)))
theorem begin_ok {md : MdM} {m : Int} {c : Nat} {K : Str × Int → Prop} (k : K (mB md m c)) : m_law_begin md m c K := k
theorem end_ok {md : MdM} {m e : Int} {c : Nat} {K : Str × Int → Prop} (k : K (mE md m c e)) : m_law_end md m c e K := ⟨show (1 : Nat) ≤ 5592405 by decide, k⟩
theorem try_ok {md : MdM} {s : StM} {z : Str} {n : Int} (hz : z.length + s.1.length ≤ 1000000) (hs : StkOk n s.1) {K : Int × List Str × StM → Prop} (k : K (tryR (mB md) (mE md) s z)) : m_law_try md s z K := by
  obtain ⟨no, m, seen⟩ := s
  have hz1 : z.length ≤ 1000000 := Nat.le_trans (Nat.le_add_right _ _) hz
  unfold m_law_try
  refine ⟨small_le hz1, rng62 (by omega) (by omega), ?_⟩
  refine forW_rng (n := z.length) rfl (fun i s => ∃ st m', s.1 = st.reverse ∧ s.2.2 = m' ∧ (∀ x ∈ st, low x.2) ∧ pre s.2.1 (rws (mB md) (mE md) ((tl z).drop i) st m' i) = rws (mB md) (mE md) (tl z) no.reverse m 0 ∧ s.2.1.length ≤ i ∧ st.length ≤ no.length + i)
    ⟨no.reverse, m, by simp, rfl, fun x hx => (hs x (List.mem_reverse.mp hx)).2.2, by rw [List.drop_zero, pre_nil], by simp, by simp⟩ ?_ ?_
  · rintro i ⟨nodes, told, mode⟩ Kn hi ⟨st, m', hst, hm, hl, hp, ht, hlen⟩ hk
    dsimp only at hst hm ht hp
    subst hst
    subst hm
    have hi2 : i < (tl z).length := by rw [← len_tl]; exact hi
    have hc : (tl z)[i]? = some (tl z)[i] := List.getElem?_eq_getElem hi2
    generalize (tl z)[i] = c at hc
    obtain ⟨e1, e2⟩ := cS_nat hc
    rw [drop_at hc] at hp
    refine ⟨⟨small_le hz1, c, e1⟩, ?_⟩
    rw [e2]
    refine ⟨fun h => ?_, fun h => ?_⟩
    · have hc : low c := low_mem.mp (of_decide_eq_true h)
      refine begin_ok ⟨small_ok (by rw [List.length_reverse]; dsimp only at hz; omega), small_ok (show told.length ≤ 1000000 by omega), hk _ ⟨(mode, c) :: st, _, by simp, rfl, ?_, ?_, by simp; omega, by simp; omega⟩⟩
      · intro x hx
        rcases List.mem_cons.mp hx with rfl | hx
        · exact hc
        · exact hl x hx
      · rw [← hp]
        exact (pre_cons told (st1_lo hc)).symm
    · have hc : ¬ low c := fun q => of_decide_eq_false h (low_mem.mpr q)
      have bad : st1 (mB md) (mE md) st mode c = none → K (seen + (i : Int), [], (no, m, seen)) := fun e => by
        rw [rws_none e] at hp
        unfold tryR at k
        dsimp only at k
        rw [← hp] at k
        exact k
      refine ⟨fun h3 => ?_, fun h3 => ?_⟩
      · cases st with
        | nil => exact absurd h3 (by simp)
        | cons y st =>
          obtain ⟨m0, nn⟩ := y
          have hn := hl _ List.mem_cons_self
          rw [List.reverse_cons]
          refine ⟨_, atI_last _ _, (show (1 : Nat) ≤ 5592405 by decide), ?_⟩
          dsimp only
          rw [upper_sg hn]
          refine ⟨fun h4 => ⟨_, _, rfl, ?_⟩, fun h4 => ?_⟩
          · have h5 : nn - 32 = c := sg_inj.mp (of_decide_eq_true h4)
            dsimp only at hn
            have h5 : c + 32 = nn := by unfold low at hn; omega
            refine end_ok ⟨small_ok (show told.length ≤ 1000000 by omega), hk _ ⟨st, _, rfl, rfl, fun x hx => hl x (List.mem_cons_of_mem _ hx), ?_, by simp; omega, by simp only [List.length_cons] at hlen; omega⟩⟩
            rw [← hp]
            exact (pre_cons told (st1_up hc h5)).symm
          · have h5 : ¬ nn - 32 = c := fun q => of_decide_eq_false h4 (sg_inj.mpr q)
            dsimp only at hn
            have h5 : ¬ c + 32 = nn := by unfold low at hn; omega
            exact bad (st1_no hc h5)
      · have e : st = [] := by simpa using isEm.mp h3
        subst e
        exact bad (st1_nil hc)
  · rintro ⟨nodes, told, mode⟩ ⟨st, m', hst, hm, hl, hp, ht, hlen⟩
    dsimp only at hst hm hp
    subst hst
    subst hm
    refine ⟨small_le hz1, ?_⟩
    have e : (tl z).drop z.length = [] := by rw [len_tl]; exact List.drop_length
    rw [e] at hp
    unfold tryR at k
    dsimp only at k
    rw [← hp] at k
    simpa [pre, rws] using k

/-! readers in plain Lean -/
structure RwOk (n : Int) (B : BT) (E : ET) (r : RwM) : Prop where
  b : ∀ m c, 0 ≤ m → m < n → low c → dGet r.2.1 (m, c) = some (B m c)
  e : ∀ m c e, 0 ≤ m → m < n → low c → 0 ≤ e → e < n → dGet r.2.2 (m, c, e) = some (E m c e)
abbrev mkR (r : RwM) (s : StM) : RrM := (r, s.2.1, s.1, s.2.2)
def errO : Except Nat (List Str × List (Int × Nat) × Int) → Option Int
  | .error i => some (i : Int)
  | .ok _ => none
section
variable {B : BT} {E : ET}
theorem errO_cons {c k : Nat} {r : List Nat} {st : List (Int × Nat)} {m : Int} {q : Str × List (Int × Nat) × Int} (h : st1 B E st m c = some q) : errO (rws B E (c :: r) st m k) = errO (rws B E r q.2.1 q.2.2 (k + 1)) := by
  rw [rws_some h]
  cases rws B E r q.2.1 q.2.2 (k + 1) with
  | error i => rfl
  | ok p => rfl
theorem first_wrong_ok {r : RwM} {s : StM} {z : Str} (B : BT) (E : ET) (hz : z.length ≤ 1000000) (hs : ∀ x ∈ s.1, low x.2) {K : Option Int → Prop} (k : K (errO (rws B E (tl z) s.1.reverse s.2.1 0))) : m_Rewriter_first_wrong (mkR r s) z K := by
  obtain ⟨no, m, seen⟩ := s
  dsimp only at hs k
  unfold m_Rewriter_first_wrong
  have hz2 : (tl z).length ≤ 1000000 := by rw [← len_tl]; exact hz
  refine forW_enum (fun i r (s : List Nat × Int) => ∃ st m' rem, st.map Prod.snd = s.1.reverse ++ ((no.map Prod.snd).take rem).reverse ∧ s.2 = ((rem : Nat) : Int) ∧ rem ≤ no.length ∧ (∀ x ∈ st, low x.2) ∧
    errO (rws B E r st m' i) = errO (rws B E (tl z) no.reverse m 0) ∧ s.1.length ≤ i ∧ i + r.length = (tl z).length) ⟨no.reverse, m, no.length, ?_, rfl, Nat.le_refl _, fun x hx => hs x (List.mem_reverse.mp hx), rfl, Nat.le_refl _, Nat.zero_add _⟩ ?_ ?_
  · have : (no.map Prod.snd).take no.length = no.map Prod.snd := List.take_of_length_le (by simp)
    rw [this]; simp
  · rintro i c r ⟨names, remaining⟩ Kn ⟨st, m', rem, hst, hrem, hle, hl, he, hlen, hn⟩ hk
    dsimp only at hst hrem hlen
    subst hrem
    simp only [List.length_cons] at hn
    refine ⟨fun h => ?_, fun h => ?_⟩
    · have hc : low c := low_mem.mp (of_decide_eq_true h)
      refine ⟨small_ok (show names.length ≤ 1000000 by omega), hk _ ⟨(m', c) :: st, (B m' c).2, rem, by simp [hst], rfl, hle, ?_, ?_, by simp; omega, by omega⟩⟩
      · intro x hx
        rcases List.mem_cons.mp hx with rfl | hx
        · exact hc
        · exact hl x hx
      · rw [← he]
        exact (errO_cons (B := B) (E := E) (st1_lo hc)).symm
    · have hc : ¬ low c := fun q => of_decide_eq_false h (low_mem.mpr q)
      have bad : st1 B E st m' c = none → K (some (i : Int)) := fun e => by
        rw [rws_none e] at he
        rw [← he] at k
        exact k
      refine ⟨fun h3 => ?_, fun h3 => ?_⟩
      · rcases List.eq_nil_or_concat names with e | ⟨r', x, e⟩
        · subst e; exact absurd h3 (by simp)
        rw [List.concat_eq_append] at e
        subst e
        rw [List.reverse_append, List.reverse_singleton, List.singleton_append, List.cons_append] at hst
        cases st with
        | nil => cases hst
        | cons y st =>
          obtain ⟨m0, nn⟩ := y
          injection hst with h1 h2
          dsimp only at h1
          subst h1
          have hx := hl _ List.mem_cons_self
          refine ⟨r', nn, rfl, (show (1 : Nat) ≤ 5592405 by decide), ?_⟩
          rw [upper_sg hx]
          dsimp only at hx
          refine ⟨fun h4 => ?_, fun h4 => ?_⟩
          · have h5 : ¬ c = nn - 32 := fun q => not_t h4 (sg_inj.mpr q)
            exact bad (st1_no hc (by unfold low at hx; omega))
          · have h5 : c = nn - 32 := sg_inj.mp (not_f h4)
            have h6 : c + 32 = nn := by unfold low at hx; omega
            simp only [List.length_append, List.length_singleton] at hlen
            refine hk _ ⟨st, (E m0 nn m').2, rem, h2, rfl, hle, fun x hx => hl x (List.mem_cons_of_mem _ hx), ?_, (show r'.length ≤ i + 1 by omega), by omega⟩
            rw [← he]
            exact (errO_cons (B := B) (E := E) (st1_up hc h6)).symm
      · have e : names = [] := by simpa using isEm.mp h3
        subst e
        refine ⟨fun h4 => ?_, fun h4 => ?_⟩
        · have h4 : (0 : Int) < rem := of_decide_eq_true h4
          obtain ⟨r2, rfl⟩ : ∃ r2, rem = r2 + 1 := ⟨rem - 1, by omega⟩
          have hlt : r2 < no.length := by omega
          have e1 : ((r2 + 1 : Nat) : Int) - 1 = (r2 : Int) := by omega
          rw [e1]
          refine ⟨no[r2], atI_nat (List.getElem?_eq_getElem hlt), (show (1 : Nat) ≤ 5592405 by decide), ?_⟩
          have e2 : (no.map Prod.snd).take (r2 + 1) = (no.map Prod.snd).take r2 ++ [no[r2].2] := by
            rw [List.take_add_one, List.getElem?_map, List.getElem?_eq_getElem hlt]; rfl
          rw [e2, List.reverse_append, List.reverse_singleton, List.reverse_nil, List.nil_append, List.singleton_append] at hst
          cases st with
          | nil => cases hst
          | cons y st =>
            obtain ⟨m0, nn⟩ := y
            injection hst with h1 h2
            dsimp only at h1
            rw [← h1]
            have hx := hl _ List.mem_cons_self
            rw [upper_sg hx]
            dsimp only at hx
            refine ⟨fun h4 => ?_, fun h4 => ?_⟩
            · have h5 : ¬ c = nn - 32 := fun q => not_t h4 (sg_inj.mpr q)
              exact bad (st1_no hc (by unfold low at hx; omega))
            · have h5 : c = nn - 32 := sg_inj.mp (not_f h4)
              have h6 : c + 32 = nn := by unfold low at hx; omega
              refine hk _ ⟨st, (E m0 nn m').2, r2, h2, rfl, by omega, fun x hx => hl x (List.mem_cons_of_mem _ hx), ?_, Nat.zero_le _, by omega⟩
              rw [← he]
              exact (errO_cons (B := B) (E := E) (st1_up hc h6)).symm
        · have h5 : rem = 0 := by
            have := of_decide_eq_false h4
            omega
          subst h5
          have : st = [] := by simpa using hst
          subst this
          exact bad (st1_nil hc)
  · rintro i ⟨names, remaining⟩ ⟨st, m', rem, hst, hrem, hle, hl, he, hlen, hn⟩
    rw [← he] at k
    exact k
theorem rewrite_letters_ok {n : Int} {L : Nat} {r : RwM} {st : List (Int × Nat)} {m : Int} {z : Str} {kk : Nat} {p : List Str × List (Int × Nat) × Int} (S : SOk n L B E) (R : RwOk n B E r) (h : rws B E (tl z) st m kk = .ok p) (hs : StkOk n st) (h0 : 0 ≤ m) (h1 : m < n)
    (hz : z.length + st.length ≤ 1000000) (hL : z.length * L ≤ 16777216) {K : (Str × Int) × List (Int × Nat) → Prop} (k : K ((Txt.join (Str.ofString "") p.1, p.2.2), p.2.1.reverse)) : m_rewrite_letters r m st.reverse z K := by
  unfold m_rewrite_letters
  have e0 : z.length = (tl z).length := len_tl z
  refine forW_go (fun rest (s : List Str × List (Int × Nat) × Int) => ∃ st' k', s.2.1 = st'.reverse ∧ pre s.1 (rws B E rest st' s.2.2 k') = .ok p ∧ StkOk n st' ∧ 0 ≤ s.2.2 ∧ s.2.2 < n ∧ s.1.length + rest.length = z.length ∧ st'.length + rest.length ≤ st.length + z.length ∧ ∀ t ∈ s.1, t.length ≤ L) ?_ ?_ _ _
    ⟨st, kk, rfl, by rw [pre_nil]; exact h, hs, h0, h1, by rw [e0]; exact Nat.zero_add _, by rw [e0]; exact Nat.le_refl _, by simp⟩
  · rintro c rest ⟨pieces, opened, cur⟩ Kn ⟨st', k', ho, hp, hs', a0, a1, hl, hl2, hL2⟩ hk
    dsimp only at ho hp a0 a1 hl hL2
    subst ho
    simp only [List.length_cons] at hl hl2
    have app : ∀ x : Str, x.length ≤ L → ∀ t ∈ pieces ++ [x], t.length ≤ L := fun x hx t ht => by
      rcases List.mem_append.mp ht with ht | ht
      · exact hL2 t ht
      · rw [List.mem_singleton.mp ht]; exact hx
    refine ⟨fun hh => ?_, fun hh => ?_⟩
    · have hc : low c := low_mem.mp (of_decide_eq_true hh)
      obtain ⟨b1, b2, b3, b4, b5⟩ := st1_ok S (st1_lo (B := B) (E := E) (st := st') (m := cur) hc) hs' a0 a1
      refine ⟨_, R.b cur c a0 a1 hc, small_ok (show pieces.length ≤ 1000000 by omega), small_ok (by rw [List.length_reverse]; omega), hk _ ⟨(cur, c) :: st', k' + 1, by simp, ?_, b1, b2, b3, by simp; omega, by simp only [List.length_cons]; omega, app _ b4⟩⟩
      rw [← hp]
      exact (pre_cons pieces (st1_lo hc)).symm
    · have hc : ¬ low c := fun q => of_decide_eq_false hh (low_mem.mpr q)
      cases st' with
      | nil => rw [rws_none (st1_nil hc)] at hp; cases hp
      | cons y st' =>
        obtain ⟨m0, nn⟩ := y
        by_cases e : c + 32 = nn
        · obtain ⟨b1, b2, b3, b4, b5⟩ := st1_ok S (st1_up (B := B) (E := E) (st := st') (m := cur) (m0 := m0) hc e) hs' a0 a1
          obtain ⟨c1, c2, c3⟩ := hs' _ List.mem_cons_self
          simp only [List.length_cons] at hl2
          refine ⟨st'.reverse, (m0, nn), by simp, _, R.e m0 nn cur c1 c2 c3 a0 a1, small_ok (show pieces.length ≤ 1000000 by omega), hk _ ⟨st', k' + 1, rfl, ?_, b1, b2, b3, by simp; omega, by omega, app _ b4⟩⟩
          rw [← hp]
          exact (pre_cons pieces (st1_up hc e)).symm
        · rw [rws_none (st1_no hc e)] at hp; cases hp
  · rintro ⟨pieces, opened, cur⟩ ⟨st', k', ho, hp, hs', a0, a1, hl, hl2, hL2⟩
    dsimp only at ho hp hL2 hl
    have hp : Except.ok (pieces ++ [], st', cur) = Except.ok p := hp
    rw [List.append_nil] at hp
    cases hp
    dsimp only at k
    rw [← ho] at k
    refine ⟨?_, k⟩
    have := sum_le hL2
    rw [len_e0]
    simp only [List.length_nil, Nat.add_zero] at hl
    rw [hl] at this
    dsimp only
    omega
/-- what a reader tells -/
theorem read_ok {n : Int} {L : Nat} {r : RwM} {s : StM} {z : Str} (S : SOk n L B E) (R : RwOk n B E r) (hs : StkOk n s.1) (h0 : 0 ≤ s.2.1) (h1 : s.2.1 < n) (hz : z.length + s.1.length ≤ 1000000) (hL : z.length * L ≤ 16777216)
    {K : Except Int (Str × RrM) → Prop} (ke : ∀ i, rws B E (tl z) s.1.reverse s.2.1 0 = .error i → K (.error (s.2.2 + (i : Int))))
    (ko : ∀ p, rws B E (tl z) s.1.reverse s.2.1 0 = .ok p → K (.ok (Txt.join (Str.ofString "") p.1, mkR r (p.2.1.reverse, p.2.2, s.2.2 + (z.length : Int))))) : m_read (mkR r s) z K := by
  unfold m_read
  refine first_wrong_ok B E (by omega) (fun x hx => (hs x hx).2.2) ?_
  cases e : rws B E (tl z) s.1.reverse s.2.1 0 with
  | error i =>
    refine ⟨fun h => (by cases h), fun y h => ?_⟩
    have : (i : Int) = y := Option.some.inj h
    subst this
    exact ke i e
  | ok p =>
    refine ⟨fun _ => ?_, fun y h => (by cases h)⟩
    have er : s.1 = s.1.reverse.reverse := (List.reverse_reverse _).symm
    show m_rewrite_letters r s.2.1 s.1 z _
    rw [er]
    refine rewrite_letters_ok S R e (fun x hx => hs x (List.mem_reverse.mp hx)) h0 h1 (by rw [List.length_reverse]; exact hz) hL ⟨small_le (by omega), ?_⟩
    exact ko p e
theorem call_ok {n : Int} {L : Nat} {r : RwM} {s : StM} {z : Str} (S : SOk n L B E) (R : RwOk n B E r) (hs : StkOk n s.1) (h0 : 0 ≤ s.2.1) (h1 : s.2.1 < n) (hz : z.length + s.1.length ≤ 1000000) (hL : z.length * L ≤ 16777216)
    {K : Except Int Str × RrM → Prop} (ke : ∀ i, rws B E (tl z) s.1.reverse s.2.1 0 = .error i → K (.error (s.2.2 + (i : Int)), mkR r s))
    (ko : ∀ p, rws B E (tl z) s.1.reverse s.2.1 0 = .ok p → K (.ok (Txt.join (Str.ofString "") p.1), mkR r (p.2.1.reverse, p.2.2, s.2.2 + (z.length : Int)))) : m_law_call (mkR r s) z K := by
  unfold m_law_call
  exact read_ok S R hs h0 h1 hz hL ke ko
theorem stands_ok {r : RwM} {s : StM} {K : Bool → Prop} (k : K true) : m_law_stands (mkR r s) s K := by
  unfold m_law_stands
  refine ⟨fun h => absurd h (by decide), fun _ => ⟨fun h => absurd h (by decide), fun _ => ⟨fun _ => ?_, fun h => absurd h (by simp)⟩⟩⟩
  show K (decide ((s.1.length : Int) = (s.1.length : Int)))
  rw [decide_eq_true rfl]
  exact k
theorem agrees_ok {n : Int} {L : Nat} {r : RwM} {s : StM} {z : Str} (S : SOk n L B E) (R : RwOk n B E r) (hs : StkOk n s.1) (h0 : 0 ≤ s.2.1) (h1 : s.2.1 < n) (h2 : 0 ≤ s.2.2) (hz : z.length + s.1.length ≤ 1000000) (hL : z.length * L ≤ 16777216)
    {K : Bool × RrM → Prop} (k : K (true, mkR r (tryR B E s z).2.2)) : m_law_agrees (mkR r s) z (tryR B E s z) K := by
  unfold m_law_agrees
  refine call_ok S R hs h0 h1 hz hL (fun i e => ?_) (fun p e => ?_)
  · have et : tryR B E s z = (s.2.2 + (i : Int), [], s) := by unfold tryR; rw [e]
    rw [et] at k ⊢
    refine ⟨fun _ => ?_, fun h => absurd (of_decide_eq_false h) (by dsimp only; omega)⟩
    refine ⟨fun _ => ⟨fun _ => stands_ok k, fun h => absurd h (by simp)⟩, fun h => absurd h (by decide)⟩
  · have et : tryR B E s z = (-1, p.1, (p.2.1.reverse, p.2.2, s.2.2 + (z.length : Int))) := by unfold tryR; rw [e]
    rw [et] at k ⊢
    refine ⟨fun h => absurd (of_decide_eq_true h) (show ¬ (0 : Int) ≤ -1 by decide), fun _ => ⟨?_, ⟨fun _ => stands_ok k, fun h => absurd h (by simp)⟩⟩⟩
    obtain ⟨_, _, _, a4, a5, _⟩ := rws_ok S e (fun x hx => hs x (List.mem_reverse.mp hx)) h0 h1
    have := sum_le a4
    rw [len_e0]
    rw [a5, ← len_tl] at this
    dsimp only
    omega
/-- the state behind letters is right again -/
theorem try_state {n : Int} {L : Nat} {s : StM} {z : Str} (S : SOk n L B E) (hs : StkOk n s.1) (h0 : 0 ≤ s.2.1) (h1 : s.2.1 < n) (h2 : 0 ≤ s.2.2) :
    StkOk n (tryR B E s z).2.2.1 ∧ 0 ≤ (tryR B E s z).2.2.2.1 ∧ (tryR B E s z).2.2.2.1 < n ∧ 0 ≤ (tryR B E s z).2.2.2.2 ∧ (tryR B E s z).2.2.1.length ≤ s.1.length + z.length := by
  cases e : rws B E (tl z) s.1.reverse s.2.1 0 with
  | error i =>
    have et : tryR B E s z = (s.2.2 + (i : Int), [], s) := by unfold tryR; rw [e]
    rw [et]
    exact ⟨hs, h0, h1, h2, Nat.le_add_right _ _⟩
  | ok p =>
    have et : tryR B E s z = (-1, p.1, (p.2.1.reverse, p.2.2, s.2.2 + (z.length : Int))) := by unfold tryR; rw [e]
    rw [et]
    obtain ⟨a1, a2, a3, a4, a5, a6⟩ := rws_ok S e (fun x hx => hs x (List.mem_reverse.mp hx)) h0 h1
    refine ⟨fun x hx => a1 x (List.mem_reverse.mp hx), a2, a3, by dsimp only; omega, ?_⟩
    rw [List.length_reverse] at a6 ⊢
    rw [len_tl]
    exact a6
theorem each_ok {n : Int} {L : Nat} {r : RwM} {s : StM} {z : Str} {p : List Str × List (Int × Nat) × Int} (S : SOk n L B E) (R : RwOk n B E r) (hs : StkOk n s.1) (h0 : 0 ≤ s.2.1) (h1 : s.2.1 < n) (hz : z.length + s.1.length ≤ 1000000) (hL : L ≤ 16777216)
    (hp : rws B E (tl z) s.1.reverse s.2.1 0 = .ok p) {K : Bool × RrM → Prop} (k : K (true, mkR r (tryR B E s z).2.2)) : m_law_each (mkR r s) z (tryR B E s z) K := by
  have et : tryR B E s z = (-1, p.1, (p.2.1.reverse, p.2.2, s.2.2 + (z.length : Int))) := by unfold tryR; rw [hp]
  rw [et] at k ⊢
  have hz1 : z.length ≤ 1000000 := by omega
  unfold m_law_each
  refine ⟨small_le hz1, rng62 (by omega) (by omega), ?_⟩
  refine forW_rng (n := z.length) rfl (fun i (x : RrM) => ∃ st m told, x = mkR r (st.reverse, m, s.2.2 + (i : Int)) ∧ StkOk n st ∧ 0 ≤ m ∧ m < n ∧ told.length = i ∧ st.length ≤ s.1.length + i ∧ pre told (rws B E ((tl z).drop i) st m i) = .ok p)
    ⟨s.1.reverse, s.2.1, [], by simp [mkR], fun x hx => hs x (List.mem_reverse.mp hx), h0, h1, rfl, by simp, by rw [List.drop_zero, pre_nil]; exact hp⟩ ?_ ?_
  · rintro i x Kn hi ⟨st, m, told, rfl, hs', a0, a1, ht, hl, hpre⟩ hk
    have hi2 : i < (tl z).length := by rw [← len_tl]; exact hi
    have hc : (tl z)[i]? = some (tl z)[i] := List.getElem?_eq_getElem hi2
    generalize (tl z)[i] = c at hc
    obtain ⟨e1, e2⟩ := cS_nat hc
    rw [drop_at hc] at hpre
    refine ⟨⟨small_le hz1, c, e1⟩, ?_⟩
    rw [e2]
    cases e : st1 B E st m c with
    | none => rw [rws_none e] at hpre; cases hpre
    | some q =>
      obtain ⟨b1, b2, b3, b4, b5⟩ := st1_ok S e hs' a0 a1
      have er : rws B E (tl (sg c)) st m 0 = .ok ([q.1], q.2) := by rw [tl_sg, rws_some e]; rfl
      refine call_ok (s := (st.reverse, m, s.2.2 + (i : Int))) S R (fun x hx => hs' x (List.mem_reverse.mp hx)) a0 a1 (by dsimp only; rw [List.length_reverse, len_sg]; omega) (by rw [len_sg]; omega) (fun j ej => ?_) (fun p' ep => ?_)
      · dsimp only at ej
        rw [List.reverse_reverse, er] at ej
        cases ej
      · dsimp only at ep ⊢
        rw [List.reverse_reverse, er] at ep
        cases ep
        refine ⟨fun y hy => ?_, fun y hy => by cases hy⟩
        cases hy
        have hpp := hpre
        rw [pre_cons told e] at hpp
        have hat : p.1[i]? = some q.1 := by
          cases e3 : rws B E ((tl z).drop (i + 1)) q.2.1 q.2.2 (i + 1) with
          | error j => rw [e3] at hpp; cases hpp
          | ok p3 =>
            rw [e3] at hpp
            have hpp : Except.ok (told ++ [q.1] ++ p3.1, p3.2) = Except.ok p := hpp
            cases hpp
            show (told ++ [q.1] ++ p3.1)[i]? = _
            rw [List.append_assoc, List.getElem?_append_right (by omega), ht, Nat.sub_self]
            rfl
        refine ⟨q.1, atI_nat hat, ?_⟩
        rw [join0_one]
        refine ⟨fun h => absurd h (by simp), fun _ => hk _ ⟨q.2.1, q.2.2, told ++ [q.1], ?_, b1, b2, b3, by simp [ht], by omega, hpp⟩⟩
        show mkR r (q.2.1.reverse, q.2.2, s.2.2 + (i : Int) + ((sg c).length : Int)) = _
        rw [len_sg]
        have e5 : s.2.2 + (i : Int) + ((1 : Nat) : Int) = s.2.2 + ((i + 1 : Nat) : Int) := by omega
        rw [e5]
  · rintro x ⟨st, m, told, rfl, hs', a0, a1, ht, hl, hpre⟩
    have e : (tl z).drop z.length = [] := by rw [len_tl]; exact List.drop_length
    rw [e] at hpre
    have hpre : Except.ok (told ++ [], st, m) = Except.ok p := hpre
    cases hpre
    exact stands_ok k
end

/-! what is drawn, in plain Lean -/
theorem draw_ok {n : Int} (h0 : 0 < n) (h1 : n ≤ 1000000) {K : Int → Prop} (k : ∀ i, 0 ≤ i → i < n → K i) : m_law_draw n K := ⟨⟨h0, by omega⟩, k⟩
theorem at_names {i : Int} (h0 : 0 ≤ i) (h1 : i < 8) : (Str.ofString "abcdefgh").length ≤ sizeLine ∧ ∃ c, atI (tl (Str.ofString "abcdefgh")) i = some c := by
  obtain ⟨c, h, _⟩ := ch_ok (z := Str.ofString "abcdefgh") h0 (by rw [len_names]; exact h1)
  exact ⟨by rw [len_names]; exact small_le (by decide), c, h⟩
theorem low_names {i : Int} (h0 : 0 ≤ i) (h1 : i < 8) : low (cS (Str.ofString "abcdefgh") i) := by
  obtain ⟨c, _, h2, h3⟩ := ch_ok (z := Str.ofString "abcdefgh") h0 (by rw [len_names]; exact h1)
  rw [h2]
  exact low_mem.mp h3
theorem tl_joinsg (ls : List Nat) : tl (Txt.join (Str.ofString "") (ls.map sg)) = ls := by
  rw [tl_join0, List.map_map]
  induction ls with
  | nil => rfl
  | cons c ls ih => rw [List.map_cons, List.flatten_cons, ih]; rfl
theorem sum_sg (ls : List Nat) : ((ls.map sg).map (·.length)).sum = ls.length := by rw [sum_len, ← tl_join0, tl_joinsg]
def MenuOk (z : Str) : Prop := 1 ≤ z.length ∧ z.length ≤ 8 ∧ ∀ c ∈ tl z, low c
theorem menu_ok {K : Str → Prop} (k : ∀ z, MenuOk z → K z) : m_law_menu 8 K := by
  unfold m_law_menu
  refine draw_ok (by decide) (by decide) fun a a0 a1 => draw_ok (by decide) (by decide) fun b b0 b1 => draw_ok (by decide) (by decide) fun n n0 n1 => ?_
  refine ⟨rng62 (by omega) (by omega), ⟨small_le (by rw [len_rngT]; omega), compW_map (fun x => sg (cS (Str.ofString "abcdefgh") ((a + x * (1 + 2 * b)) % 8))) _ (fun x hx K h => ?_) ?_⟩⟩
  · obtain ⟨h0, h1⟩ := mem_rngT hx
    exact ⟨.inl ⟨by omega, by omega⟩, at_names (Int.emod_nonneg _ (by decide)) (Int.emod_lt_of_pos _ (by decide)), h⟩
  · have e : (rngT 0 (1 + n)).map (fun x => sg (cS (Str.ofString "abcdefgh") ((a + x * (1 + 2 * b)) % 8))) = ((rngT 0 (1 + n)).map fun x => cS (Str.ofString "abcdefgh") ((a + x * (1 + 2 * b)) % 8)).map sg := by rw [List.map_map]; rfl
    dsimp only
    rw [e]
    generalize hl : (rngT 0 (1 + n)).map (fun x => cS (Str.ofString "abcdefgh") ((a + x * (1 + 2 * b)) % 8)) = ls
    have hlen : ls.length = (1 + n).toNat := by rw [← hl, List.length_map, len_rngT]
    refine ⟨by rw [sum_sg, len_e0]; omega, k _ ⟨?_, ?_, ?_⟩⟩
    · rw [len_tl, tl_joinsg]; omega
    · rw [len_tl, tl_joinsg]; omega
    · rw [tl_joinsg, ← hl]
      intro c hc
      obtain ⟨x, _, rfl⟩ := List.mem_map.mp hc
      exact low_names (Int.emod_nonneg _ (by decide)) (Int.emod_lt_of_pos _ (by decide))
theorem walk_ok {menu : Str} {op : List Nat} {n : Int} (hm0 : 1 ≤ menu.length) (hm : menu.length ≤ 100) (hml : ∀ c ∈ tl menu, low c) (hop : ∀ c ∈ op, low c) (hn : 0 ≤ n) (hn1 : n ≤ 1000) (hol : op.length ≤ 100000)
    {K : Str × List Str → Prop} (k : ∀ z op', run (tl z) op = some op' → z.length = n.toNat → (∀ c ∈ op', low c) → op'.length ≤ op.length + n.toNat → K (z, op'.reverse.map sg)) : m_law_walk menu (op.reverse.map sg) n K := by
  unfold m_law_walk
  obtain ⟨N, rfl⟩ : ∃ N : Nat, n = (N : Int) := ⟨n.toNat, by omega⟩
  refine ⟨rng62 hn (by omega), ?_⟩
  refine forW_rng (n := N) rfl (fun i s => ∃ ls op', s.1 = List.map sg ls ∧ s.2 = op'.reverse.map sg ∧ run ls op = some op' ∧ ls.length = i ∧ (∀ c ∈ op', low c) ∧ op'.length ≤ op.length + i) ⟨[], op, rfl, rfl, rfl, rfl, hop, by omega⟩ ?_ ?_
  · rintro i ⟨told, opened⟩ Kn hi ⟨ls, op', e1, e2, hr, hl, hlo, hlen⟩ hk
    dsimp only at e1 e2
    subst e1
    subst e2
    refine draw_ok (by decide) (by decide) fun p p0 p1 => ⟨fun h => ?_, fun h => ?_⟩
    · have h2 : op' ≠ [] := by
        simp only [Bool.and_eq_true] at h
        intro q
        subst q
        exact absurd h.2 (by simp)
      cases op' with
      | nil => exact absurd rfl h2
      | cons t ts =>
        have ht := hlo t List.mem_cons_self
        refine ⟨ts.reverse.map sg, sg t, by simp, (show (1 : Nat) ≤ 5592405 by decide), small_ok (by rw [List.length_map]; omega), ?_⟩
        rw [upper_sg ht]
        refine hk _ ⟨ls ++ [t - 32], ts, by simp, rfl, ?_, by simp [hl], fun c hc => hlo c (List.mem_cons_of_mem _ hc), by simp only [List.length_cons] at hlen; omega⟩
        rw [run_append, hr]
        show run [t - 32] (t :: ts) = some ts
        rw [run_cons, if_neg (by omega)]
        show (if t - 32 + 32 = t then run [] ts else none) = _
        rw [if_pos (by omega)]
        rfl
    · have hmod : 0 ≤ p % (menu.length : Int) ∧ p % (menu.length : Int) < (menu.length : Int) := ⟨Int.emod_nonneg _ (by omega), Int.emod_lt_of_pos _ (by omega)⟩
      obtain ⟨c, c1, c2, c3⟩ := ch_ok hmod.1 hmod.2
      have hc := hml c c3
      refine ⟨small_le (by omega), by omega, ⟨small_le (by omega), c, c1⟩, small_ok (by rw [List.length_map, List.length_reverse]; omega), ?_⟩
      rw [c2]
      refine ⟨_, atI_last _ _, small_ok (by rw [List.length_map]; omega), hk _ ⟨ls ++ [c], c :: op', by simp, by simp, ?_, by simp [hl], ?_, by simp; omega⟩⟩
      · rw [run_append, hr]
        show run [c] op' = _
        rw [run_cons, if_pos hc]
        rfl
      · intro x hx
        rcases List.mem_cons.mp hx with rfl | hx
        · exact hc
        · exact hlo x hx
  · rintro ⟨told, opened⟩ ⟨ls, op', e1, e2, hr, hl, hlo, hlen⟩
    dsimp only at e1 e2
    subst e1
    subst e2
    refine ⟨by rw [sum_sg, len_e0]; omega, k _ op' (by rw [tl_joinsg]; exact hr) (by rw [len_tl, tl_joinsg, hl]; omega) hlo (by omega)⟩
theorem close_ok {op : List Nat} (hl : ∀ c ∈ op, low c) (hn : op.length ≤ 1000000) {K : Str → Prop} (k : K (mkS (op.map (· - 32)))) : m_law_close (op.reverse.map sg) K := by
  unfold m_law_close
  have e : (op.reverse.map sg).reverse = op.map sg := by rw [← List.map_reverse, List.reverse_reverse]
  rw [e]
  refine ⟨small_le (by rw [List.length_map]; omega), compW_map Txt.upper _ (fun x hx K h => ?_) ?_⟩
  · obtain ⟨c, hc, rfl⟩ := List.mem_map.mp hx
    exact ⟨show (1 : Nat) ≤ 5592405 by decide, h⟩
  · have e2 : (op.map sg).map Txt.upper = (op.map (· - 32)).map sg := by
      rw [List.map_map, List.map_map]
      exact List.map_congr_left fun c hc => upper_sg (hl c hc)
    dsimp only
    rw [e2]
    refine ⟨by rw [sum_sg, len_e0, List.length_map]; omega, ?_⟩
    have e3 : Txt.join (Str.ofString "") ((op.map (· - 32)).map sg) = mkS (op.map (· - 32)) := ext_tl (by rw [tl_joinsg])
    rw [e3]
    exact k
theorem run_chars : ∀ {l st st' : List Nat}, run l st = some st' → (∀ c ∈ st, low c) → ∀ c ∈ l, low c ∨ (65 ≤ c ∧ c ≤ 72)
  | [], st, st', h, hs, c, hc => absurd hc List.not_mem_nil
  | d :: l, st, st', h, hs, c, hc => by
    rw [run_cons] at h
    by_cases hd : low d
    · rw [if_pos hd] at h
      rcases List.mem_cons.mp hc with rfl | hc
      · exact .inl hd
      · refine run_chars h (fun x hx => ?_) c hc
        rcases List.mem_cons.mp hx with rfl | hx
        · exact hd
        · exact hs x hx
    · rw [if_neg hd] at h
      cases st with
      | nil => cases h
      | cons t ts =>
        have ht := hs t List.mem_cons_self
        have h : (if d + 32 = t then run l ts else none) = some st' := h
        by_cases e : d + 32 = t
        · rw [if_pos e] at h
          rcases List.mem_cons.mp hc with rfl | hc
          · exact .inr (by unfold low at ht; omega)
          · exact run_chars h (fun x hx => hs x (List.mem_cons_of_mem _ hx)) c hc
        · rw [if_neg e] at h; cases h
theorem opened_ok {z : Str} {op : List Nat} (h : run (tl z) [] = some op) (hz : z.length ≤ 1000000) {K : List Str → Prop} (k : K (op.reverse.map sg)) : m_law_opened z K := by
  unfold m_law_opened
  refine forW_go (fun rest (opened : List Str) => ∃ st, opened = st.reverse.map sg ∧ run rest st = some op ∧ (∀ c ∈ st, low c) ∧ st.length + rest.length ≤ z.length) ?_ ?_ _ _ ⟨[], rfl, h, by simp, by rw [← len_tl]; exact Nat.le_of_eq (Nat.zero_add _)⟩
  · rintro c rest opened Kn ⟨st, rfl, hr, hl, hn⟩ hk
    simp only [List.length_cons] at hn
    have hch := run_chars hr hl c List.mem_cons_self
    rw [run_cons] at hr
    refine ⟨fun hh => ?_, fun hh => ?_⟩
    · have hc : low c := by
        rcases hch with h | h
        · exact h
        · rw [isup h] at hh; cases hh
      rw [if_pos hc] at hr
      refine ⟨small_ok (by rw [List.length_map, List.length_reverse]; omega), hk _ ⟨c :: st, by simp, hr, fun x hx => ?_, by simp only [List.length_cons]; omega⟩⟩
      rcases List.mem_cons.mp hx with rfl | hx
      · exact hc
      · exact hl x hx
    · have hc : ¬ low c := fun q => by rw [islo q] at hh; cases hh
      rw [if_neg hc] at hr
      cases st with
      | nil => cases hr
      | cons t ts =>
        have hr : (if c + 32 = t then run rest ts else none) = some op := hr
        by_cases e : c + 32 = t
        · rw [if_pos e] at hr
          simp only [List.length_cons] at hn
          exact ⟨ts.reverse.map sg, sg t, by simp, hk _ ⟨ts, rfl, hr, fun x hx => hl x (List.mem_cons_of_mem _ hx), by omega⟩⟩
        · rw [if_neg e] at hr; cases hr
  · rintro opened ⟨st, rfl, hr, hl, hn⟩
    have : some st = some op := hr
    cases this
    exact k
theorem mode_ok {n : Int} (h0 : 0 < n) (h1 : n ≤ 1000) {K : Int → Prop} (k : ∀ i, 0 ≤ i → i < n → K i) : m_law_mode n K := by
  unfold m_law_mode
  refine draw_ok (by split <;> omega) (by split <;> omega) fun a a0 a1 => draw_ok h0 (by omega) fun b b0 b1 => draw_ok (by decide) (by decide) fun c _ _ => ⟨fun _ => k b b0 b1, fun _ => k a a0 (by split at a1 <;> omega)⟩
/-- a before and what completes it -/
def PairOk (x y : Str) : Prop := ∃ op, run (tl x) [] = some op ∧ run (tl y) op = some [] ∧ x.length ≤ 400 ∧ y.length ≤ 400
theorem len_mkS (l : List Nat) : (mkS l).length = l.length := len_mk l
theorem tl_mkS (l : List Nat) : tl (mkS l) = l := rfl
theorem strings_ok {K : Str × Str → Prop} (k : ∀ x y, PairOk x y → K (x, y)) : m_law_strings false K := by
  unfold m_law_strings
  refine draw_ok (by decide) (by decide) fun a a0 a1 => ⟨at_names a0 a1, draw_ok (by decide) (by decide) fun w _ _ => ⟨fun h => (by cases h), fun _ => ⟨fun _ => ?_, fun _ => ?_⟩⟩⟩
  · have hc := low_names a0 a1
    refine draw_ok (by decide) (by decide) fun n n0 n1 => ?_
    rw [upper_sg hc]
    generalize cS (Str.ofString "abcdefgh") a = c at hc
    have m1 : ∀ d : Nat, MulOk (sg d) (1 + n) := fun d => mul_small (by rw [len_sg]; decide) (by omega) (by omega) (by rw [len_sg]; omega)
    refine ⟨m1 c, (show (1 : Nat) ≤ 5592405 by decide), m1 _, k _ _ ⟨List.replicate (1 + n).toNat c, ?_, ?_, ?_, ?_⟩⟩
    · rw [tl_mul1]
      have : ∀ (m : Nat) (st : List Nat), run (List.replicate m c) st = some (List.replicate m c ++ st) := by
        intro m
        induction m with
        | zero => intro st; rfl
        | succ m ih =>
          intro st
          rw [List.replicate_succ, run_cons, if_pos hc, ih, ← List.replicate_succ, List.replicate_succ']
          simp
      rw [this, List.append_nil]
    · rw [tl_mul1]
      have e : List.replicate (1 + n).toNat (c - 32) = (List.replicate (1 + n).toNat c).map (· - 32) := by rw [List.map_replicate]
      rw [e]
      exact run_close fun x hx => by rw [List.eq_of_mem_replicate hx]; exact hc
    · rw [len_mul1]; omega
    · rw [len_mul1]; omega
  · have hn : ∀ c ∈ tl (Str.ofString "abcdefgh"), low c := fun c hc => low_mem.mp hc
    refine draw_ok (by decide) (by decide) fun n n0 n1 => ?_
    refine walk_ok (op := []) (by rw [len_names]; decide) (by rw [len_names]; decide) hn (by simp) n0 (by omega) (by simp) fun x op1 hx lx l1 n1' => ?_
    refine draw_ok (by decide) (by decide) fun m m0 m1 => ?_
    simp only [List.length_nil] at n1'
    refine walk_ok (by rw [len_names]; decide) (by rw [len_names]; decide) hn l1 m0 (by omega) (by omega) fun y op2 hy ly l2 n2 => ?_
    have e : (mkS (op2.map (· - 32))).length = op2.length := by rw [len_mkS, List.length_map]
    refine close_ok l2 (by omega) ⟨small_le (show y.length + (mkS (op2.map (· - 32))).length ≤ 1000000 by omega), k _ _ ⟨op1, hx, ?_, (show x.length ≤ 400 by omega), ?_⟩⟩
    · rw [tl_append, run_append, hy, tl_mkS]
      exact run_close l2
    · rw [len_app, e]; dsimp only; omega
def RowOk (n : Int) (r : Int × Nat × Str × Int × Str × Int) : Prop := (0 ≤ r.1 ∧ r.1 < n) ∧ low r.2.1 ∧ PairOk r.2.2.1 r.2.2.2.2.1 ∧ (0 ≤ r.2.2.2.1 ∧ r.2.2.2.1 < n) ∧ 0 ≤ r.2.2.2.2.2 ∧ r.2.2.2.2.2 < n
def RowsOk (n : Int) (rs : List (Int × Nat × Str × Int × Str × Int)) : Prop := (∀ r ∈ rs, RowOk n r) ∧ (rs.map fun r => (r.1, r.2.1)).Nodup ∧ rs.length ≤ 8
theorem rows_ok {menu : Str} {n : Int} (hm : MenuOk menu) (h0 : 0 < n) (h1 : n ≤ 100) {K : List (Int × Nat × Str × Int × Str × Int) → Prop} (k : ∀ rs, RowsOk n rs → K rs) : m_law_rows menu n false K := by
  unfold m_law_rows
  obtain ⟨hm0, hm1, hml⟩ := hm
  refine draw_ok (by decide) (by decide) fun w w0 w1 => ⟨rng62 w0 (by omega), ?_⟩
  obtain ⟨N, rfl⟩ : ∃ N : Nat, w = (N : Int) := ⟨w.toNat, by omega⟩
  refine forW_rng (n := N) rfl (fun i rs => (∀ r ∈ rs, RowOk n r) ∧ (rs.map fun r => (r.1, r.2.1)).Nodup ∧ rs.length ≤ i) ⟨by simp, by simp, Nat.le_refl _⟩ ?_ ?_
  · rintro i rs Kn hi ⟨a1, a2, a3⟩ hk
    refine mode_ok h0 (by omega) fun m m0 m1 => ⟨.inl ⟨by omega, by omega⟩, small_le (by omega), draw_ok (by omega) (by omega) fun j j0 j1 => ?_⟩
    obtain ⟨c, c1, c2, c3⟩ := ch_ok j0 j1
    refine ⟨⟨small_le (by omega), c, c1⟩, strings_ok fun x y hp => mode_ok h0 (by omega) fun m2 b0 b1 => mode_ok h0 (by omega) fun m3 d0 d1 => ?_⟩
    rw [c2]
    have hmm : 0 ≤ m * bI (decide ((0 : Int) < (i : Int))) ∧ m * bI (decide ((0 : Int) < (i : Int))) < n := by
      unfold bI
      split <;> omega
    generalize m * bI (decide ((0 : Int) < (i : Int))) = mm at hmm
    refine ⟨small_le (by omega), compW_filter (fun r => if r.1 = mm ∧ r.2.1 = c then some r else none) _ (fun r _ K h => ?_) ?_⟩
    · refine ⟨fun h2 => ?_, fun h2 => ?_⟩
      · simp only [Bool.and_eq_true, decide_eq_true_eq] at h2
        rw [if_pos ⟨h2.1, sg_inj.mp h2.2⟩] at h
        exact h
      · simp only [Bool.and_eq_false_iff, decide_eq_false_iff_not] at h2
        rw [if_neg (fun q => h2.elim (fun x => x q.1) (fun x => x (sg_inj.mpr q.2)))] at h
        exact h
    · refine ⟨fun h => ⟨small_ok (by omega), hk _ ⟨?_, ?_, by simp; omega⟩⟩, fun h => hk _ ⟨a1, a2, by omega⟩⟩
      · intro r hr
        rcases List.mem_append.mp hr with hr | hr
        · exact a1 r hr
        · rw [List.mem_singleton.mp hr]
          exact ⟨hmm, hml c c3, hp, ⟨b0, b1⟩, d0, d1⟩
      · rw [List.map_append, List.nodup_append]
        refine ⟨a2, by simp, fun a ha b hb e => ?_⟩
        obtain ⟨r, hr, rfl⟩ := List.mem_map.mp ha
        have hb : b = (mm, c) := by simpa using hb
        rw [hb] at e
        have h2 : rs.filterMap (fun r => if r.1 = mm ∧ r.2.1 = c then some r else none) = [] := by
          rw [Bool.not_eq_true', Bool.not_eq_false', List.isEmpty_iff] at h
          exact h
        have := List.filterMap_eq_nil_iff.mp h2 r hr
        rw [if_pos ⟨congrArg Prod.fst e, congrArg Prod.snd e⟩] at this
        cases this
  · rintro rs ⟨a1, a2, a3⟩
    exact k rs ⟨a1, a2, by omega⟩

/-! exceptions that are drawn; pieces -/
theorem mid {α : Type} {m : W α} {F : α → Prop} (P : α → Prop) (h1 : ∀ G : α → Prop, (∀ a, P a → G a) → m G) (h : ∀ a, P a → F a) : m F := h1 F h
abbrev RwT := Int × Nat × Str × Int × Str × Int
abbrev ExT := Int × Nat × Int × Str × Int
def fnd (rs : List RwT) (m : Int) (c : Nat) : Option RwT := rs.find? fun r => decide ((r.1, r.2.1) = (m, c))
def bef (rs : List RwT) (m : Int) (c : Nat) : Str := ((fnd rs m c).map (·.2.2.1)).getD (sg c)
theorem head_filter {α β : Type} (p : α → Prop) [DecidablePred p] (g : α → β) : ∀ l : List α, (l.filterMap fun x => if p x then some (g x) else none).head? = (l.find? fun x => decide (p x)).map g
  | [] => rfl
  | x :: l => by
    by_cases h : p x
    · rw [List.filterMap_cons_some (b := g x) (by rw [if_pos h]), List.find?_cons_of_pos (by simpa using h)]; rfl
    · rw [List.filterMap_cons_none (by rw [if_neg h]), List.find?_cons_of_neg (by simpa using h)]; exact head_filter p g l
theorem before_ok {rs : List RwT} {m : Int} {c : Nat} (hn : rs.length ≤ 1000) {K : Str → Prop} (k : K (bef rs m c)) : m_law_before rs m c K := by
  unfold m_law_before
  refine ⟨small_le (by omega), compW_filter (fun r => if (r.1, r.2.1) = (m, c) then some r.2.2.1 else none) _ (fun r _ K h => ?_) ?_⟩
  · refine ⟨fun h2 => ?_, fun h2 => ?_⟩
    · simp only [Bool.and_eq_true, decide_eq_true_eq] at h2
      rw [if_pos (Prod.ext h2.1 (sg_inj.mp h2.2))] at h
      exact h
    · simp only [Bool.and_eq_false_iff, decide_eq_false_iff_not] at h2
      rw [if_neg (fun q => h2.elim (fun x => x (congrArg Prod.fst q)) (fun x => x (sg_inj.mpr (congrArg Prod.snd q))))] at h
      exact h
  · have hh := head_filter (fun r : RwT => (r.1, r.2.1) = (m, c)) (fun r => r.2.2.1) rs
    have hl := List.length_filterMap_le (fun r : RwT => if (r.1, r.2.1) = (m, c) then some r.2.2.1 else none) rs
    generalize hg : (rs.filterMap fun r : RwT => if (r.1, r.2.1) = (m, c) then some r.2.2.1 else none) = ys at hh hl
    refine ⟨small_le (by simp; omega), bef rs m c, ?_, k⟩
    unfold bef fnd
    rw [← hh]
    cases ys with
    | nil => rfl
    | cons y ys => exact atI_nat (j := 0) rfl
theorem dGet_map {α κ β : Type} [DecidableEq κ] (key : α → κ) (f : α → β) (k : κ) : ∀ l : List α, dGet (l.map fun r => (key r, f r)) k = (l.find? fun r => decide (key r = k)).map f
  | [] => rfl
  | x :: l => by
    by_cases h : key x = k
    · unfold dGet; rw [List.map_cons, List.find?_cons_of_pos (by simpa using h), List.find?_cons_of_pos (by simpa using h)]; rfl
    · have ih := dGet_map key f k l
      unfold dGet at ih ⊢
      rw [List.map_cons, List.find?_cons_of_neg (by simpa using h), List.find?_cons_of_neg (by simpa using h)]; exact ih
theorem fnd_mem {rs : List RwT} {m : Int} {c : Nat} {r : RwT} (h : fnd rs m c = some r) : r ∈ rs ∧ r.1 = m ∧ r.2.1 = c := by
  have h : rs.find? (fun r => decide ((r.1, r.2.1) = (m, c))) = some r := h
  have h1 := List.mem_of_find?_eq_some h
  have h2 := of_decide_eq_true (List.find?_some (p := fun r : RwT => decide ((r.1, r.2.1) = (m, c))) h)
  exact ⟨h1, congrArg Prod.fst h2, congrArg Prod.snd h2⟩
/-- a before of the tables: it can be completed -/
theorem bef_ok {n : Int} {rs : List RwT} (hr : RowsOk n rs) {m : Int} {c : Nat} (hc : low c) : ∃ op, run (tl (bef rs m c)) [] = some op ∧ (bef rs m c).length ≤ 400 := by
  unfold bef
  cases h : fnd rs m c with
  | none => exact ⟨[c], by show run [c] [] = _; rw [run_cons, if_pos hc]; rfl, show (1 : Nat) ≤ 400 by decide⟩
  | some r =>
    obtain ⟨h1, _, _⟩ := fnd_mem h
    obtain ⟨op, a, b, c, d⟩ := (hr.1 r h1).2.2.1
    exact ⟨op, a, c⟩
theorem after_ok {z : Str} {op : List Nat} (h : run (tl z) [] = some op) (hz : z.length ≤ 400) {K : Str → Prop} (k : ∀ y, run (tl y) op = some [] → y.length ≤ 400 → K y) : m_law_after z false K := by
  unfold m_law_after
  have hl : ∀ c ∈ op, low c := run_lo h (by simp)
  have hn : op.length ≤ 400 := by
    have := run_len h
    rw [← len_tl] at this
    simp only [List.length_nil] at this
    omega
  refine opened_ok h (by omega) (draw_ok (by decide) (by decide) fun n n0 n1 => ⟨fun _ => ?_, fun h2 => ?_⟩)
  · exact close_ok hl (by omega) (k _ (by rw [tl_mkS]; exact run_close hl) (by rw [len_mkS, List.length_map]; exact hn))
  · have h3 : op.length ≤ 300 := by
      have := of_decide_eq_false (show decide ((300 : Int) < ((op.reverse.map sg).length : Int)) = false from h2)
      rw [List.length_map, List.length_reverse] at this
      omega
    refine walk_ok (by rw [len_names]; decide) (by rw [len_names]; decide) (fun c hc => low_mem.mp hc) hl n0 (by omega) (by omega) fun y op2 hy ly l2 n2 => ?_
    have e : (mkS (op2.map (· - 32))).length = op2.length := by rw [len_mkS, List.length_map]
    refine close_ok l2 (by omega) ⟨small_le (show y.length + (mkS (op2.map (· - 32))).length ≤ 1000000 by omega), k _ ?_ ?_⟩
    · rw [tl_append, run_append, hy, tl_mkS]
      exact run_close l2
    · rw [len_app, e]; dsimp only; omega
def ExtOk (n : Int) (rs : List RwT) (e : ExT) : Prop := (0 ≤ e.1 ∧ e.1 < n) ∧ low e.2.1 ∧ (0 ≤ e.2.2.1 ∧ e.2.2.1 < n) ∧ (0 ≤ e.2.2.2.2 ∧ e.2.2.2.2 < n) ∧ e.2.2.2.1.length ≤ 400 ∧ ∃ op, run (tl (bef rs e.1 e.2.1)) [] = some op ∧ run (tl e.2.2.2.1) op = some []
abbrev k3 (e : ExT) : Int × Nat × Int := (e.1, e.2.1, e.2.2.1)
def ExtsOk (n : Int) (rs : List RwT) (es : List ExT) : Prop := (∀ e ∈ es, ExtOk n rs e) ∧ (es.map k3).Nodup ∧ es.length ≤ 1000
theorem extra_ok {menu : Str} {n : Int} {rs : List RwT} (hm : MenuOk menu) (h0 : 0 < n) (h1 : n ≤ 100) (hr : RowsOk n rs) {K : List ExT → Prop} (k : ∀ es, ExtsOk n rs es → K es) : m_law_extra menu n rs false K := by
  unfold m_law_extra
  obtain ⟨hm0, hm1, hml⟩ := hm
  obtain ⟨hr1, hr2, hr3⟩ := hr
  have hr : RowsOk n rs := ⟨hr1, hr2, hr3⟩
  show W.bind (m_law_draw 4) _ _
  refine draw_ok (by decide) (by decide) fun a _ _ => ?_
  show W.ite _ _ _ _
  refine mid (fun _ => True) (fun G hG => ⟨fun _ => hG _ trivial, fun _ => hG _ trivial⟩) fun whole _ => ?_
  refine draw_ok (by decide) (by decide) fun w w0 w1 => ⟨rng62 w0 (by omega), ?_⟩
  obtain ⟨N, rfl⟩ : ∃ N : Nat, w = (N : Int) := ⟨w.toNat, by omega⟩
  refine forW_rng (n := N) rfl (fun i es => (∀ e ∈ es, ExtOk n rs e) ∧ (es.map k3).Nodup ∧ es.length ≤ i * 100) ⟨by simp, by simp, Nat.zero_le _⟩ ?_ ?_
  · rintro i es Kn hi ⟨a1, a2, a3⟩ hk
    refine mode_ok h0 (by omega) fun m m0 m1 => ⟨small_le (by omega), draw_ok (by omega) (by omega) fun j j0 j1 => ?_⟩
    obtain ⟨c, c1, c2, c3⟩ := ch_ok j0 j1
    refine ⟨⟨small_le (by omega), c, c1⟩, draw_ok (by split <;> omega) (by split <;> omega) fun p p0 p1 => ?_⟩
    rw [c2]
    show W.ite _ _ _ _
    refine mid (fun s : Int × Nat => (0 ≤ s.1 ∧ s.1 < n) ∧ low s.2) (fun G hG => ⟨fun h => ?_, fun _ => hG _ ⟨⟨m0, m1⟩, hml c c3⟩⟩) ?_
    · simp only [Bool.and_eq_true, decide_eq_true_eq] at h
      refine at_ok (by omega) (by omega) fun x hx => at_ok (by omega) (by omega) fun y hy => hG _ ⟨(hr1 x hx).1, (hr1 y hy).2.1⟩
    · rintro ⟨mo, na⟩ ⟨⟨q0, q1⟩, q2⟩
      dsimp only at q0 q1 q2 ⊢
      obtain ⟨op, b1, b2⟩ := bef_ok (m := mo) hr q2
      refine before_ok (by omega) (after_ok b1 b2 fun y hy ly => mode_ok h0 (by omega) fun m2 d0 d1 => mode_ok h0 (by omega) fun m3 e0 e1 => ?_)
      show W.ite _ _ _ _
      refine mid (fun xs : List Int => (∀ x ∈ xs, 0 ≤ x ∧ x < n) ∧ xs.length ≤ 100) (fun G hG => ⟨fun h => ⟨rng62 (by omega) (by omega), small_le (by rw [len_rngT]; omega), compW_map (fun x => x) _ (fun x _ K h => h) ?_⟩, fun _ => hG _ ⟨fun x hx => by rw [List.mem_singleton.mp hx]; exact ⟨d0, d1⟩, by simp⟩⟩) ?_
      · rw [List.map_id']
        exact hG _ ⟨fun x hx => mem_rngT hx, by rw [len_rngT]; omega⟩
      · rintro xs ⟨x1, x2⟩
        refine forW_go (fun rest es => (∀ x ∈ rest, 0 ≤ x ∧ x < n) ∧ (∀ e ∈ es, ExtOk n rs e) ∧ (es.map k3).Nodup ∧ es.length + rest.length ≤ (i + 1) * 100) ?_ ?_ _ _ ⟨x1, a1, a2, by omega⟩
        · rintro x rest es Kn' ⟨y1, y2, y3, y4⟩ hk'
          simp only [List.length_cons] at y4
          have hx := y1 x List.mem_cons_self
          have hrest : ∀ x ∈ rest, 0 ≤ x ∧ x < n := fun y hy => y1 y (List.mem_cons_of_mem _ hy)
          have hN : (i + 1) * 100 ≤ 700 := by omega
          refine ⟨small_le (by omega), compW_filter (fun e => if k3 e = (mo, na, x) then some e else none) _ (fun e _ K h => ?_) ?_⟩
          · refine ⟨fun h2 => ?_, fun h2 => ?_⟩
            · simp only [Bool.and_eq_true, decide_eq_true_eq] at h2
              rw [if_pos (Prod.ext h2.1 (Prod.ext (sg_inj.mp h2.2.1) h2.2.2))] at h
              exact h
            · simp only [Bool.and_eq_false_iff, decide_eq_false_iff_not] at h2
              rw [if_neg (fun q => by
                have q1 := congrArg Prod.fst q
                have q2 := congrArg (fun z => z.2.1) q
                have q3 := congrArg (fun z => z.2.2) q
                dsimp only at q1 q2 q3
                rcases h2 with h2 | h2 | h2
                · exact h2 q1
                · exact h2 (sg_inj.mpr q2)
                · exact h2 q3)] at h
              exact h
          · refine ⟨fun h => ⟨small_ok (by omega), hk' _ ⟨hrest, ?_, ?_, by simp; omega⟩⟩, fun h => hk' _ ⟨hrest, y2, y3, by omega⟩⟩
            · intro e he
              rcases List.mem_append.mp he with he | he
              · exact y2 e he
              · rw [List.mem_singleton.mp he]
                exact ⟨⟨q0, q1⟩, q2, hx, ⟨e0, e1⟩, ly, op, b1, hy⟩
            · rw [List.map_append, List.nodup_append]
              refine ⟨y3, by simp, fun a ha b hb e => ?_⟩
              obtain ⟨r, hr', rfl⟩ := List.mem_map.mp ha
              have hb : b = (mo, na, x) := by simpa using hb
              rw [hb] at e
              have h2 : es.filterMap (fun e => if k3 e = (mo, na, x) then some e else none) = [] := by
                rw [Bool.not_eq_true', Bool.not_eq_false', List.isEmpty_iff] at h
                exact h
              have := List.filterMap_eq_nil_iff.mp h2 r hr'
              rw [if_pos e] at this
              cases this
        · rintro es ⟨_, y2, y3, y4⟩
          exact hk _ ⟨y2, y3, by simpa using y4⟩
  · rintro es ⟨a1, a2, a3⟩
    exact k es ⟨a1, a2, by omega⟩
theorem piece_ok {menu : Str} {s : StM} (hm : MenuOk menu) (hs : ∀ x ∈ s.1, low x.2) (hn : s.1.length ≤ 10000) {K : Str → Prop} (k : ∀ z, z.length ≤ 10 → K z) : m_law_piece menu s K := by
  unfold m_law_piece
  obtain ⟨hm0, hm1, hml⟩ := hm
  refine ⟨small_le (by omega), compW_map (fun x => sg x.2) _ (fun x _ K h => h) ?_⟩
  have e : s.1.map (fun x => sg x.2) = (s.1.reverse.map Prod.snd).reverse.map sg := by
    rw [← List.map_reverse, List.reverse_reverse, List.map_map]; rfl
  dsimp only
  rw [e]
  refine draw_ok (by decide) (by decide) fun n n0 n1 => walk_ok hm0 (by omega) hml (fun c hc => ?_) n0 (by omega) (by rw [List.length_map, List.length_reverse]; omega) fun z op hz lz l1 n2 => draw_ok (by decide) (by decide) fun b _ _ => ⟨fun _ => k _ (by dsimp only; omega), fun _ => ?_⟩
  · obtain ⟨x, hx, rfl⟩ := List.mem_map.mp hc
    exact hs x (List.mem_reverse.mp hx)
  · have hlen : (Str.ofString "iIzZ .1,ABCDEFGHABCDEFGH").length = 24 := by rw [len_tl, tl_ofString]; decide +kernel
    refine draw_ok (by decide) (by decide) fun j j0 j1 => ?_
    obtain ⟨c, c1, c2, c3⟩ := ch_ok (z := Str.ofString "iIzZ .1,ABCDEFGHABCDEFGH") j0 (by rw [hlen]; exact j1)
    rw [List.length_map, List.length_reverse] at n2
    refine ⟨⟨by rw [hlen]; exact small_le (by decide), c, c1⟩, small_le (by rw [len_sg]; dsimp only; omega), draw_ok (by decide) (by decide) fun m m0 m1 => walk_ok hm0 (by omega) hml l1 m0 (by omega) (by omega) fun y op2 hy ly l2 n3 => ?_⟩
    refine ⟨small_le (by rw [len_app, len_sg]; dsimp only; omega), k _ ?_⟩
    rw [len_app, len_app, len_sg]
    dsimp only
    omega
theorem long_ok {menu : Str} (hm : MenuOk menu) {K : Str → Prop} (k : ∀ z, z.length ≤ 2400 → K z) : m_law_long menu K := by
  unfold m_law_long
  obtain ⟨hm0, hm1, hml⟩ := hm
  obtain ⟨c, c1, c2, c3⟩ := ch_ok (z := menu) (i := 0) (by decide) (by omega)
  have hc := hml c c3
  rw [c2]
  refine ⟨⟨small_le (by omega), c, c1⟩, draw_ok (by decide) (by decide) fun n n0 n1 => draw_ok (by decide) (by decide) fun b _ _ => ⟨fun _ => ⟨mul_small (by rw [len_sg]; decide) (by omega) (by omega) (by rw [len_sg]; omega), k _ (by rw [len_mul1]; omega)⟩, fun _ => ?_⟩⟩
  rw [upper_sg hc]
  refine ⟨(show (1 : Nat) ≤ 5592405 by decide), small_le (by rw [len_sg, len_sg]; decide), mul_small (by rw [len_app, len_sg, len_sg]; decide) (by omega) (by omega) (by rw [len_app, len_sg, len_sg]; omega), k _ ?_⟩
  have := len_mul (sg c ++ sg (c - 32)) (601 + n)
  rw [len_app, len_sg, len_sg] at this
  omega

/-! the tables of a rewriting, in plain Lean -/
section
variable {κ β : Type} [DecidableEq κ]
theorem dGet_none_any {d : List (κ × β)} {k : κ} (h : dGet d k = none) : (d.any fun y => decide (y.1 = k)) = false := by
  unfold dGet at h
  rw [Option.map_eq_none_iff, List.find?_eq_none] at h
  rw [List.any_eq_false]
  exact h
theorem dPut_new {d : List (κ × β)} {k : κ} {v : β} (h : dGet d k = none) : dPut d k v = d ++ [(k, v)] := by
  unfold dPut
  rw [dGet_none_any h]
  rfl
theorem dGet_cons (y : κ × β) (d : List (κ × β)) (k : κ) : dGet (y :: d) k = if y.1 = k then some y.2 else dGet d k := by
  unfold dGet
  by_cases h : y.1 = k
  · rw [List.find?_cons_of_pos (by simpa using h), if_pos h]; rfl
  · rw [List.find?_cons_of_neg (by simpa using h), if_neg h]
theorem dGet_snoc (k : κ) (v : β) (k' : κ) : ∀ d : List (κ × β), dGet d k = none → dGet (d ++ [(k, v)]) k' = if k' = k then some v else dGet d k'
  | [], _ => by
    rw [List.nil_append, dGet_cons]
    by_cases h : k' = k
    · rw [if_pos h.symm, if_pos h]
    · rw [if_neg (fun q => h q.symm), if_neg h]
  | y :: d, hn => by
    rw [dGet_cons] at hn
    rw [List.cons_append, dGet_cons, dGet_cons]
    by_cases h : y.1 = k
    · rw [if_pos h] at hn; cases hn
    · rw [if_neg h] at hn
      rw [dGet_snoc k v k' d hn]
      by_cases h2 : y.1 = k'
      · rw [if_pos h2, if_pos h2, if_neg (fun q => h (h2.trans q))]
      · rw [if_neg h2, if_neg h2]
theorem dGet_mapput (k : κ) (v : β) (k' : κ) : ∀ d : List (κ × β), dGet (d.map fun y => if y.1 = k then (y.1, v) else y) k' = if k' = k then (dGet d k').map (fun _ => v) else dGet d k'
  | [] => by
    show none = if k' = k then none else none
    split <;> rfl
  | y :: d => by
    rw [List.map_cons, dGet_cons, dGet_cons, dGet_mapput k v k' d]
    by_cases h : y.1 = k
    · rw [if_pos h]
      by_cases h2 : y.1 = k'
      · rw [if_pos h2, if_pos h2, if_pos (h2.symm.trans h)]; rfl
      · rw [if_neg h2, if_neg h2]
    · rw [if_neg h]
      by_cases h2 : y.1 = k'
      · rw [if_pos h2, if_pos h2, if_neg (fun q => h (h2.trans q))]
      · rw [if_neg h2, if_neg h2]
theorem dGet_put (d : List (κ × β)) (k k' : κ) (v : β) : dGet (dPut d k v) k' = if k' = k then some v else dGet d k' := by
  cases h : dGet d k with
  | none => rw [dPut_new h, dGet_snoc k v k' d h]
  | some x =>
    have ha : (d.any fun y => decide (y.1 = k)) = true := by
      unfold dGet at h
      obtain ⟨y, hy, _⟩ := Option.map_eq_some_iff.mp h
      exact List.any_eq_true.mpr ⟨y, List.mem_of_find?_eq_some hy, List.find?_some (p := fun y : κ × β => decide (y.1 = k)) hy⟩
    unfold dPut
    rw [ha, if_pos rfl, dGet_mapput]
    by_cases h2 : k' = k
    · subst h2; rw [if_pos rfl, if_pos rfl, h]; rfl
    · rw [if_neg h2, if_neg h2]
theorem dPut_len (d : List (κ × β)) (k : κ) (v : β) : (dPut d k v).length ≤ d.length + 1 := by
  unfold dPut
  split
  · rw [List.length_map]; omega
  · rw [List.length_append]; exact Nat.le_refl _
end
def rulesD (rs : List RwT) : List ((Int × Nat) × (Str × Int × Str × Int)) := rs.map fun r => ((r.1, r.2.1), (r.2.2.1, r.2.2.2.1, r.2.2.2.2.1, r.2.2.2.2.2))
def extD (es : List ExT) : List ((Int × Nat × Int) × (Str × Int)) := es.map fun e => (k3 e, (e.2.2.2.1, e.2.2.2.2))
def begD (rs : List RwT) : List ((Int × Nat) × (Str × Int)) := rs.map fun r => ((r.1, r.2.1), (r.2.2.1, r.2.2.2.1))
def endD (rs : List RwT) : List ((Int × Nat) × (Str × Int)) := rs.map fun r => ((r.1, r.2.1), (r.2.2.2.2.1, r.2.2.2.2.2))
theorem key_new {α κ β : Type} [DecidableEq κ] {key : α → κ} {f : α → β} {a b : List α} {x : α} (nd : ((a ++ x :: b).map key).Nodup) : dGet (a.map fun r => (key r, f r)) (key x) = none := by
  rw [dGet_map, Option.map_eq_none_iff, List.find?_eq_none]
  intro r hr q
  have q := of_decide_eq_true q
  rw [List.map_append, List.map_cons, List.nodup_append] at nd
  exact nd.2.2 _ (List.mem_map_of_mem hr) _ List.mem_cons_self q
theorem is_mode_ok {a n : Int} {K : Bool → Prop} (h0 : 0 ≤ a) (h1 : a < n) (k : K true) : m_is_mode a n K := by
  unfold m_is_mode
  refine ⟨fun h => (by cases h), fun _ => ?_⟩
  show K (decide (0 ≤ a) && decide (a < n))
  rw [decide_eq_true h0, decide_eq_true h1]
  exact k
theorem is_piece_ok {z : Str} {st st' : List Nat} (hr : run (tl z) st = some st') (hs : ∀ c ∈ st, low c) (hz : z.length ≤ 400) {K : Bool → Prop} (k : K true) : m_is_piece z K := by
  unfold m_is_piece
  refine letters_ok (by omega) ?_
  have e : ((tl z).all fun c => decide (low c ∨ (65 ≤ c ∧ c ≤ 72))) = true := List.all_eq_true.mpr fun c hc => decide_eq_true (run_chars hr hs c hc)
  rw [e]
  refine ⟨fun _ => ⟨small_le (by omega), ?_⟩, fun h => (by cases h)⟩
  show K (decide ((z.length : Int) ≤ 400))
  rw [decide_eq_true (by omega)]
  exact k
theorem nested_true {z : Str} (hz : z.length ≤ 1000000) (h : run (tl z) [] = some []) {K : Bool → Prop} (k : K true) : m_is_nested z K := by
  refine nested_ok hz ?_
  rw [flt_of_nst h]
  exact k
theorem modes3 {a b c n : Int} (ha : 0 ≤ a ∧ a < n) (hb : 0 ≤ b ∧ b < n) (hc : 0 ≤ c ∧ c < n) {K : List Bool → Prop} (k : K [true, true, true]) : W.comp [a, b, c] (fun x => W.bind (m_is_mode x n) fun y => W.ok (some y)) K :=
  ⟨small_le (show (3 : Nat) ≤ 1000000 by decide), is_mode_ok ha.1 ha.2 (is_mode_ok hb.1 hb.2 (is_mode_ok hc.1 hc.2 k))⟩
theorem is_rule_ok {n : Int} {r : RwT} (h : RowOk n r) {K : Bool → Prop} (k : K true) : m_is_rule r n K := by
  obtain ⟨h1, h2, ⟨op, p1, p2, p3, p4⟩, h4, h5⟩ := h
  unfold m_is_rule
  refine ⟨fun h => (by cases h), fun _ => name_ok ?_⟩
  rw [decide_eq_true h2]
  refine ⟨fun h => (by cases h), fun _ => modes3 h1 h4 h5 ?_⟩
  refine ⟨fun h => (by cases h), fun _ => is_piece_ok p1 (by simp) p3 ⟨fun _ => is_piece_ok p2 (run_lo p1 (by simp)) p4 ⟨fun _ => ⟨small_le (by omega), nested_true (by rw [len_app]; omega) ?_ k⟩, fun h => (by cases h)⟩, fun h => (by cases h)⟩⟩
  rw [tl_append, run_append, p1]
  exact p2
theorem checked_rules_ok {n : Int} {rs : List RwT} (h : RowsOk n rs) {K : List ((Int × Nat) × (Str × Int × Str × Int)) → Prop} (k : K (rulesD rs)) : m_checked_rules n rs K := by
  obtain ⟨h1, h2, h3⟩ := h
  unfold m_checked_rules
  refine forW_go (fun rest found => ∃ dn, dn ++ rest = rs ∧ found = rulesD dn) ?_ ?_ _ _ ⟨[], rfl, rfl⟩
  · rintro x rest _ Kn ⟨dn, rfl, rfl⟩ hk
    rw [List.length_append, List.length_cons] at h3
    have hn : dGet (rulesD dn) (x.1, x.2.1) = none := key_new (key := fun r : RwT => (r.1, r.2.1)) h2
    refine is_rule_ok (h1 x (by simp)) ⟨fun h => (by cases h), fun _ => ⟨fun h => (by rw [hn] at h; cases h), fun _ => ⟨small_ok (by unfold rulesD; rw [List.length_map]; omega), hk _ ⟨dn ++ [x], by simp, ?_⟩⟩⟩⟩
    rw [dPut_new hn]
    unfold rulesD
    rw [List.map_append]
    rfl
  · rintro _ ⟨dn, e, rfl⟩
    rw [List.append_nil] at e
    subst e
    exact k
abbrev ra (kr : List ((Int × Nat) × (Str × Int × Str × Int))) (m : Int) (c : Nat) : Str × Int × Str × Int := (dGet kr (m, c)).getD (sg c, m, Txt.upper (sg c), m)
theorem ra_bef {rs : List RwT} {m : Int} {c : Nat} : (ra (rulesD rs) m c).1 = bef rs m c := by
  unfold ra rulesD bef fnd
  rw [dGet_map (fun r : RwT => (r.1, r.2.1))]
  cases rs.find? (fun r => decide ((r.1, r.2.1) = (m, c))) <;> rfl
theorem rule_at_ok {kr : List ((Int × Nat) × (Str × Int × Str × Int))} {m : Int} {c : Nat} {K : Str × Int × Str × Int → Prop} (k : K (ra kr m c)) : m_rule_at kr m c K := ⟨show (1 : Nat) ≤ 5592405 by decide, k⟩
theorem is_exception_ok {n : Int} {rs : List RwT} {e : ExT} (hr : RowsOk n rs) (h : ExtOk n rs e) {K : Bool → Prop} (k : K true) : m_is_exception e n (rulesD rs) K := by
  obtain ⟨h1, h2, h3, h4, h5, op, p1, p2⟩ := h
  unfold m_is_exception
  refine ⟨fun h => (by cases h), fun _ => name_ok ?_⟩
  rw [decide_eq_true h2]
  refine ⟨fun h => (by cases h), fun _ => modes3 h1 h3 h4 ?_⟩
  refine ⟨fun h => (by cases h), fun _ => is_piece_ok p2 (run_lo p1 (by simp)) h5 ⟨fun _ => rule_at_ok ?_, fun h => (by cases h)⟩⟩
  show W.chk ((ra (rulesD rs) e.1 e.2.1).1.length + e.2.2.2.1.length ≤ sizeLine) (W.bind (m_is_nested ((ra (rulesD rs) e.1 e.2.1).1 ++ e.2.2.2.1)) fun y => W.ok y) K
  rw [ra_bef]
  obtain ⟨_, _, hb⟩ := bef_ok (m := e.1) hr h2
  refine ⟨small_le (by omega), nested_true (by rw [len_app]; omega) ?_ k⟩
  rw [tl_append, run_append, p1]
  exact p2
theorem checked_exceptions_ok {n : Int} {rs : List RwT} {es : List ExT} (hr : RowsOk n rs) (h : ExtsOk n rs es) {K : List ((Int × Nat × Int) × (Str × Int)) → Prop} (k : K (extD es)) : m_checked_exceptions n (rulesD rs) es K := by
  obtain ⟨h1, h2, h3⟩ := h
  unfold m_checked_exceptions
  refine forW_go (fun rest found => ∃ dn, dn ++ rest = es ∧ found = extD dn) ?_ ?_ _ _ ⟨[], rfl, rfl⟩
  · rintro x rest _ Kn ⟨dn, rfl, rfl⟩ hk
    rw [List.length_append, List.length_cons] at h3
    have hn : dGet (extD dn) (x.1, x.2.1, x.2.2.1) = none := key_new (key := k3) h2
    refine is_exception_ok hr (h1 x (by simp)) ⟨fun h => (by cases h), fun _ => ⟨fun h => (by rw [hn] at h; cases h), fun _ => ⟨small_ok (by unfold extD; rw [List.length_map]; omega), hk _ ⟨dn ++ [x], by simp, ?_⟩⟩⟩⟩
    rw [dPut_new hn]
    unfold extD
    rw [List.map_append]
    rfl
  · rintro _ ⟨dn, e, rfl⟩
    rw [List.append_nil] at e
    subst e
    exact k
abbrev vB (kr : List ((Int × Nat) × (Str × Int × Str × Int))) (m : Int) (c : Nat) : Str × Int := ((ra kr m c).1, (ra kr m c).2.1)
abbrev vE (kr : List ((Int × Nat) × (Str × Int × Str × Int))) (ke : List ((Int × Nat × Int) × (Str × Int))) (m : Int) (c : Nat) (e : Int) : Str × Int := (dGet ke (m, c, e)).getD ((ra kr m c).2.2.1, (ra kr m c).2.2.2)
theorem whole_tables_ok {n : Int} {kr : List ((Int × Nat) × (Str × Int × Str × Int))} {ke : List ((Int × Nat × Int) × (Str × Int))} (h0 : 0 ≤ n) (h1 : n ≤ 64) {K : (List ((Int × Nat) × (Str × Int))) × (List ((Int × Nat × Int) × (Str × Int))) → Prop}
    (k : ∀ t : (List ((Int × Nat) × (Str × Int))) × (List ((Int × Nat × Int) × (Str × Int))), (∀ m c, 0 ≤ m → m < n → low c → dGet t.1 (m, c) = some (vB kr m c)) → (∀ m c e, 0 ≤ m → m < n → low c → 0 ≤ e → e < n → dGet t.2 (m, c, e) = some (vE kr ke m c e)) → K t) : m_whole_tables n kr ke K := by
  unfold m_whole_tables
  refine ⟨rng62 h0 (by omega), ?_⟩
  have hln : (rngT 0 n).length ≤ 64 := by rw [len_rngT]; omega
  have mem : ∀ m, 0 ≤ m → m < n → m ∈ rngT 0 n := fun m a b => by
    unfold rngT
    exact List.mem_map.mpr ⟨m.toNat, List.mem_range.mpr (by omega), by omega⟩
  -- what stands in the dicts is right
  have put1 : ∀ (d : List ((Int × Nat) × (Str × Int))) m c, (∀ m' c' v, dGet d (m', c') = some v → v = vB kr m' c') → ∀ m' c' v, dGet (dPut d (m, c) (vB kr m c)) (m', c') = some v → v = vB kr m' c' := fun d m c h m' c' v hv => by
    rw [dGet_put] at hv
    split at hv
    · rename_i e; cases e; cases hv; rfl
    · exact h m' c' v hv
  have put2 : ∀ (d : List ((Int × Nat × Int) × (Str × Int))) m c e, (∀ m' c' e' v, dGet d (m', c', e') = some v → v = vE kr ke m' c' e') → ∀ m' c' e' v, dGet (dPut d (m, c, e) (vE kr ke m c e)) (m', c', e') = some v → v = vE kr ke m' c' e' := fun d m c e h m' c' e' v hv => by
    rw [dGet_put] at hv
    split at hv
    · rename_i e; cases e; cases hv; rfl
    · exact h m' c' e' v hv
  have keep1 : ∀ {κ β : Type} [DecidableEq κ] (d : List (κ × β)) (k k' : κ) (v : β), (dGet d k').isSome = true → (dGet (dPut d k v) k').isSome = true := fun d k k' v h => by
    rw [dGet_put]; split
    · rfl
    · exact h
  have new1 : ∀ {κ β : Type} [DecidableEq κ] (d : List (κ × β)) (k : κ) (v : β), (dGet (dPut d k v) k).isSome = true := fun d k v => by rw [dGet_put, if_pos rfl]; rfl
  refine forW_go (fun rem s => (∀ m' c' v, dGet s.1 (m', c') = some v → v = vB kr m' c') ∧ (∀ m' c' e' v, dGet s.2 (m', c', e') = some v → v = vE kr ke m' c' e') ∧
    (∀ m, 0 ≤ m → m < n → m ∉ rem → ∀ c, low c → (dGet s.1 (m, c)).isSome = true ∧ ∀ e, 0 ≤ e → e < n → (dGet s.2 (m, c, e)).isSome = true) ∧ s.1.length + 8 * rem.length ≤ 512 ∧ s.2.length + 512 * rem.length ≤ 32768) ?_ ?_ _ _
    ⟨fun _ _ _ h => (by cases h), fun _ _ _ _ h => (by cases h), fun m a b hm => absurd (mem m a b) hm, by dsimp only [List.length_nil]; omega, by dsimp only [List.length_nil]; omega⟩
  · rintro x rem ⟨o, cl⟩ Kn ⟨g1, g2, g3, g4, g5⟩ hk
    dsimp only at g1 g2 g3 g4 g5
    simp only [List.length_cons] at g4 g5
    refine forW_go (fun rem2 s => (∀ m' c' v, dGet s.1 (m', c') = some v → v = vB kr m' c') ∧ (∀ m' c' e' v, dGet s.2 (m', c', e') = some v → v = vE kr ke m' c' e') ∧
      (∀ m, 0 ≤ m → m < n → ∀ c, low c → (m ∉ x :: rem ∨ (m = x ∧ c ∉ rem2)) → (dGet s.1 (m, c)).isSome = true ∧ ∀ e, 0 ≤ e → e < n → (dGet s.2 (m, c, e)).isSome = true) ∧ s.1.length + rem2.length + 8 * rem.length ≤ 512 ∧ s.2.length + 64 * rem2.length + 512 * rem.length ≤ 32768) ?_ ?_ _ _
      ⟨g1, g2, fun m a b c hc h => h.elim (fun q => g3 m a b q c hc) (fun q => absurd (low_mem.mpr hc) q.2), by rw [tl_names]; dsimp only [List.length_cons, List.length_nil]; omega, by rw [tl_names]; dsimp only [List.length_cons, List.length_nil]; omega⟩
    · rintro c rem2 ⟨o, cl⟩ Kn2 ⟨f1, f2, f3, f4, f5⟩ hk2
      dsimp only at f1 f2 f3 f4 f5
      simp only [List.length_cons] at f4 f5
      refine rule_at_ok ⟨small_ok (by dsimp only; omega), rng62 h0 (by omega), ?_⟩
      refine forW_go (fun rem3 cl' => (∀ m' c' e' v, dGet cl' (m', c', e') = some v → v = vE kr ke m' c' e') ∧ (∀ k, (dGet cl k).isSome = true → (dGet cl' k).isSome = true) ∧
        (∀ e, 0 ≤ e → e < n → e ∉ rem3 → (dGet cl' (x, c, e)).isSome = true) ∧ cl'.length + rem3.length + 64 * rem2.length + 512 * rem.length ≤ 32768) ?_ ?_ _ _ ⟨f2, fun _ h => h, fun e a b h => absurd (mem e a b) h, by dsimp only; omega⟩
      · rintro e rem3 cl' Kn3 ⟨e1, e2, e3, e4⟩ hk3
        simp only [List.length_cons] at e4
        refine ⟨small_ok (by omega), hk3 _ ⟨put2 cl' x c e e1, fun k h => keep1 _ _ _ _ (e2 k h), fun e' a b h => ?_, ?_⟩⟩
        · by_cases q : e' = e
          · subst q; exact new1 _ _ _
          · exact keep1 _ _ _ _ (e3 e' a b (fun h2 => (List.mem_cons.mp h2).elim q h))
        · have := dPut_len cl' (x, c, e) (vE kr ke x c e)
          dsimp only [vE] at this ⊢
          omega
      · rintro cl' ⟨e1, e2, e3, e4⟩
        refine hk2 _ ⟨put1 o x c f1, e1, fun m a b c' hc' h => ?_, ?_, ?_⟩
        · by_cases q : m = x ∧ c' = c
          · obtain ⟨rfl, rfl⟩ := q
            exact ⟨new1 _ _ _, fun e a b => e3 e a b List.not_mem_nil⟩
          · have h' : m ∉ x :: rem ∨ (m = x ∧ c' ∉ c :: rem2) := h.elim .inl (fun w => .inr ⟨w.1, fun h2 => (List.mem_cons.mp h2).elim (fun z => q ⟨w.1, z⟩) w.2⟩)
            obtain ⟨y1, y2⟩ := f3 m a b c' hc' h'
            exact ⟨keep1 _ _ _ _ y1, fun e a b => e2 _ (y2 e a b)⟩
        · have := dPut_len o (x, c) (vB kr x c)
          dsimp only [vB] at this ⊢
          omega
        · simp only [List.length_nil] at e4
          dsimp only
          omega
    · rintro ⟨o', cl'⟩ ⟨f1, f2, f3, f4, f5⟩
      dsimp only at f1 f2 f3 f4 f5
      simp only [List.length_nil] at f4 f5
      refine hk _ ⟨f1, f2, fun m a b hm c hc => ?_, by dsimp only; omega, by dsimp only; omega⟩
      refine f3 m a b c hc ?_
      by_cases q : m = x
      · exact .inr ⟨q, List.not_mem_nil⟩
      · exact .inl fun h => (List.mem_cons.mp h).elim q hm
  · rintro ⟨o, cl⟩ ⟨g1, g2, g3, g4, g5⟩
    refine k (o, cl) (fun m c a b hc => ?_) fun m c e a b hc a2 b2 => ?_
    · obtain ⟨v, hv⟩ := Option.isSome_iff_exists.mp (g3 m a b List.not_mem_nil c hc).1
      dsimp only at hv ⊢
      rw [hv, g1 m c v hv]
    · obtain ⟨v, hv⟩ := Option.isSome_iff_exists.mp ((g3 m a b List.not_mem_nil c hc).2 e a2 b2)
      dsimp only at hv ⊢
      rw [hv, g2 m c e v hv]
abbrev mdl (n : Int) (rs : List RwT) (es : List ExT) : MdM := (n, begD rs, endD rs, extD es)
theorem model_ok {n : Int} {rs : List RwT} {es : List ExT} (hr : RowsOk n rs) (he : ExtsOk n rs es) {K : MdM → Prop} (k : K (mdl n rs es)) : m_law_model n rs es K := by
  obtain ⟨_, h2, h3⟩ := hr
  obtain ⟨_, h5, h6⟩ := he
  unfold m_law_model
  refine forW_go (fun rest s => ∃ dn, dn ++ rest = rs ∧ s.1 = begD dn ∧ s.2 = endD dn) ?_ ?_ _ _ ⟨[], rfl, rfl, rfl⟩
  · rintro x rest ⟨a, b⟩ Kn ⟨dn, rfl, e1, e2⟩ hk
    dsimp only at e1 e2
    subst e1
    subst e2
    rw [List.length_append, List.length_cons] at h3
    have n1 : dGet (begD dn) (x.1, x.2.1) = none := key_new (key := fun r : RwT => (r.1, r.2.1)) h2
    have n2 : dGet (endD dn) (x.1, x.2.1) = none := key_new (key := fun r : RwT => (r.1, r.2.1)) h2
    refine ⟨small_ok (by unfold begD; rw [List.length_map]; omega), small_ok (by unfold endD; rw [List.length_map]; omega), hk _ ⟨dn ++ [x], by simp, ?_, ?_⟩⟩
    · dsimp only
      rw [dPut_new n1]; unfold begD; rw [List.map_append]; rfl
    · dsimp only
      rw [dPut_new n2]; unfold endD; rw [List.map_append]; rfl
  · rintro ⟨a, b⟩ ⟨dn, e, e1, e2⟩
    dsimp only at e1 e2
    rw [List.append_nil] at e
    subst e
    subst e1
    subst e2
    refine forW_go (fun rest s => ∃ dn, dn ++ rest = es ∧ s = extD dn) ?_ ?_ _ _ ⟨[], rfl, rfl⟩
    · rintro x rest _ Kn ⟨dn2, rfl, rfl⟩ hk
      rw [List.length_append, List.length_cons] at h6
      have n1 : dGet (extD dn2) (x.1, x.2.1, x.2.2.1) = none := key_new (key := k3) h5
      refine ⟨small_ok (by unfold extD; rw [List.length_map]; omega), hk _ ⟨dn2 ++ [x], by simp, ?_⟩⟩
      rw [dPut_new n1]; unfold extD; rw [List.map_append]; rfl
    · rintro _ ⟨dn2, e, rfl⟩
      rw [List.append_nil] at e
      subst e
      exact k
theorem fnd_some {rs : List RwT} {m : Int} {c : Nat} : dGet (begD rs) (m, c) = (fnd rs m c).map (fun r => (r.2.2.1, r.2.2.2.1)) ∧ dGet (endD rs) (m, c) = (fnd rs m c).map (fun r => (r.2.2.2.2.1, r.2.2.2.2.2)) ∧ dGet (rulesD rs) (m, c) = (fnd rs m c).map (fun r => (r.2.2.1, r.2.2.2.1, r.2.2.2.2.1, r.2.2.2.2.2)) :=
  ⟨dGet_map (fun r : RwT => (r.1, r.2.1)) _ _ _, dGet_map (fun r : RwT => (r.1, r.2.1)) _ _ _, dGet_map (fun r : RwT => (r.1, r.2.1)) _ _ _⟩
theorem rwg_ok {n : Int} {rs : List RwT} {es : List ExT} (h0 : 1 ≤ n) (h1 : n ≤ 64) (hr : RowsOk n rs) (he : ExtsOk n rs es) {K : RwM → Prop} (k : ∀ r : RwM, r.1 = n → RwOk n (mB (mdl n rs es)) (mE (mdl n rs es)) r → K r) : m_rwg n rs es K := by
  unfold m_rwg
  refine ⟨⟨h0, h1⟩, checked_rules_ok hr (checked_exceptions_ok hr he (whole_tables_ok (by omega) h1 fun t t1 t2 => k _ rfl ⟨fun m c a b hc => ?_, fun m c e a b hc a2 b2 => ?_⟩))⟩
  · dsimp only
    rw [t1 m c a b hc]
    obtain ⟨f1, f2, f3⟩ := fnd_some (rs := rs) (m := m) (c := c)
    unfold mB vB ra
    dsimp only [mdl]
    rw [f1, f3]
    cases fnd rs m c <;> rfl
  · dsimp only
    rw [t2 m c e a b hc a2 b2]
    obtain ⟨f1, f2, f3⟩ := fnd_some (rs := rs) (m := m) (c := c)
    unfold mE vE ra
    dsimp only [mdl]
    rw [f2, f3]
    cases fnd rs m c <;> rfl
theorem mdl_SOk {n : Int} {rs : List RwT} {es : List ExT} (hr : RowsOk n rs) (he : ExtsOk n rs es) : SOk n 400 (mB (mdl n rs es)) (mE (mdl n rs es)) := by
  refine ⟨fun m c a b hc => ?_, fun m c e a b hc a2 b2 => ?_⟩
  · unfold mB
    dsimp only [mdl]
    rw [fnd_some.1]
    cases h : fnd rs m c with
    | none => exact ⟨a, b, show (1 : Nat) ≤ 400 by decide⟩
    | some r =>
      obtain ⟨h1, _, _⟩ := fnd_mem h
      obtain ⟨_, _, ⟨op, p1, p2, p3, p4⟩, q, _⟩ := hr.1 r h1
      exact ⟨q.1, q.2, p3⟩
  · unfold mE
    dsimp only [mdl]
    have ee : dGet (extD es) (m, c, e) = (es.find? fun r => decide (k3 r = (m, c, e))).map (fun e => (e.2.2.2.1, e.2.2.2.2)) := dGet_map k3 _ _ _
    rw [ee]
    cases h2 : es.find? (fun r => decide (k3 r = (m, c, e))) with
    | some x =>
      obtain ⟨_, _, _, q, l, _⟩ := he.1 x (List.mem_of_find?_eq_some h2)
      exact ⟨q.1, q.2, l⟩
    | none =>
      show 0 ≤ ((dGet (endD rs) (m, c)).getD (Txt.upper (sg c), m)).2 ∧ ((dGet (endD rs) (m, c)).getD (Txt.upper (sg c), m)).2 < n ∧ ((dGet (endD rs) (m, c)).getD (Txt.upper (sg c), m)).1.length ≤ 400
      rw [fnd_some.2.1]
      cases h : fnd rs m c with
      | none =>
        rw [upper_sg hc]
        exact ⟨a, b, show (1 : Nat) ≤ 400 by decide⟩
      | some r =>
        obtain ⟨h1, _, _⟩ := fnd_mem h
        obtain ⟨_, _, ⟨op, p1, p2, p3, p4⟩, _, q⟩ := hr.1 r h1
        exact ⟨q.1, q.2, p4⟩

def m_law (a_script : List Int) : W (Bool) :=
  W.bind (m_law_pot a_script) fun y_ =>
  W.bind (m_law_menu (8 : Int)) fun y5 =>
  W.bind (m_law_draw (4 : Int)) fun y9 =>
  W.bind (m_law_rows y5 ((1 : Int) + y9) false) fun y13 =>
  W.bind (m_law_extra y5 ((1 : Int) + y9) y13 false) fun y17 =>
  W.bind (m_law_model ((1 : Int) + y9) y13 y17) fun y21 =>
  W.bind (m_rwg ((1 : Int) + y9) y13 y17) fun y28 =>
  W.bind (m_law_fresh) fun y39 =>
  W.bind (m_law_stands (y28, 0, [], 0) y39) fun y43 =>
  W.ite (!y43) (W.ok false)
  (W.bind (m_law_draw (9 : Int)) fun y46 =>
  W.chk (-(2 ^ 62) ≤ ((2 : Int) + y46) ∧ ((2 : Int) + y46) < 2 ^ 62) <|
  W.for_ (rngT 0 ((2 : Int) + y46)) ((y28, 0, [], 0), (Str.ofString ""), (Str.ofString ""), (y28, 0, [], 0), y39) (fun (x52 : Int) (s : (RrM) × Str × Str × (RrM) × ((List (Int × Nat)) × Int × Int)) =>
  (fun (z_one : RrM) (z_text : Str) (z_given : Str) (z_other : RrM) (z_state : (List (Int × Nat)) × Int × Int) =>
  W.bind (m_law_piece y5 z_state) fun y55 =>
  W.bind (m_law_try y21 z_state y55) fun y59 =>
  W.bind (m_law_agrees z_one y55 y59) fun y62 =>
  W.ite (!y62.1) (W.ok (.rt false))
  (W.ite (decide (y59.1 < (0 : Int))) (W.bind (m_law_each z_other y55 y59) fun y66 =>
  W.ite (!y66.1) (W.ok (.rt false))
  (W.chk (z_text.length + y55.length ≤ sizeLine) <|
  W.chk ((y59.2.1.map (·.length)).sum + y59.2.1.length * (Str.ofString "").length ≤ 16777216) <|
  W.chk (z_given.length + (Txt.join (Str.ofString "") y59.2.1).length ≤ sizeLine) <|
  W.bind (m_law_stands y66.2 y59.2.2) fun y78 =>
  W.ite (!y78) (W.ok (.rt false))
  (W.ok (.nx (y62.2, (z_text ++ y55), (z_given ++ (Txt.join (Str.ofString "") y59.2.1)), y66.2, y59.2.2)))))
  (W.bind (m_law_stands z_other y59.2.2) fun y90 =>
  W.ite (!y90) (W.ok (.rt false))
  (W.ok (.nx (y62.2, z_text, z_given, z_other, y59.2.2)))))) s.1 s.2.1 s.2.2.1 s.2.2.2.1 s.2.2.2.2) (fun (s : (RrM) × Str × Str × (RrM) × ((List (Int × Nat)) × Int × Int)) =>
  (fun (z_one : RrM) (z_text : Str) (z_given : Str) (z_other : RrM) (z_state : (List (Int × Nat)) × Int × Int) =>
  W.bind (W.comp z_state.1 fun x104 =>
  W.ok (some (sg x104.2))) fun y112 =>
  W.bind (m_law_close y112) fun y117 =>
  W.bind (m_law_try y21 z_state y117) fun y118 =>
  W.bind (m_law_agrees z_one y117 y118) fun y121 =>
  W.ite (!y121.1) (W.ok false)
  (W.bind (m_law_each z_other y117 y118) fun y125 =>
  W.ite (!y125.1) (W.ok false)
  (W.bind (m_law_draw (8 : Int)) fun y129 =>
  W.ite (decide (y129 = (0 : Int))) (W.bind (m_law_large y5 y21 y28) fun y133 =>
  W.ite (!y133) (W.ok false)
  (W.chk (y5.length ≤ sizeLine ∧ ∃ c, atI (tl y5) (0 : Int) = some c) <|
  W.chk ((sg (cS y5 (0 : Int))).length ≤ 5592405) <|
  W.chk (y117.length + (Txt.upper (sg (cS y5 (0 : Int)))).length ≤ sizeLine) <|
  W.chk (y5.length ≤ sizeLine ∧ ∃ c, atI (tl y5) (0 : Int) = some c) <|
  W.chk ((sg (cS y5 (0 : Int))).length ≤ 5592405) <|
  W.chk (y5.length ≤ sizeLine ∧ ∃ c, atI (tl y5) (0 : Int) = some c) <|
  W.chk ((sg (cS y5 (0 : Int))).length ≤ 5592405) <|
  W.bind (m_law_try y21 y118.2.2 (Txt.upper (sg (cS y5 (0 : Int))))) fun y146 =>
  W.bind (m_law_agrees y121.2 (Txt.upper (sg (cS y5 (0 : Int)))) y146) fun y149 =>
  W.ite (!y149.1) (W.ok false)
  (W.bind (m_law_try y21 y118.2.2 (y117 ++ (Txt.upper (sg (cS y5 (0 : Int)))))) fun y155 =>
  W.bind (m_law_agrees y125.2 (y117 ++ (Txt.upper (sg (cS y5 (0 : Int))))) y155) fun y158 =>
  W.ite (!y158.1) (W.ok false)
  (W.chk (z_text.length + y117.length ≤ sizeLine) <|
  W.chk ((y118.2.1.map (·.length)).sum + y118.2.1.length * (Str.ofString "").length ≤ 16777216) <|
  W.chk (z_given.length + (Txt.join (Str.ofString "") y118.2.1).length ≤ sizeLine) <|
  W.bind (m_law_whole y21 y28 (z_text ++ y117) (z_given ++ (Txt.join (Str.ofString "") y118.2.1))) fun y167 =>
  W.ok y167))))
  (W.chk (y5.length ≤ sizeLine ∧ ∃ c, atI (tl y5) (0 : Int) = some c) <|
  W.chk ((sg (cS y5 (0 : Int))).length ≤ 5592405) <|
  W.chk (y117.length + (Txt.upper (sg (cS y5 (0 : Int)))).length ≤ sizeLine) <|
  W.chk (y5.length ≤ sizeLine ∧ ∃ c, atI (tl y5) (0 : Int) = some c) <|
  W.chk ((sg (cS y5 (0 : Int))).length ≤ 5592405) <|
  W.chk (y5.length ≤ sizeLine ∧ ∃ c, atI (tl y5) (0 : Int) = some c) <|
  W.chk ((sg (cS y5 (0 : Int))).length ≤ 5592405) <|
  W.bind (m_law_try y21 y118.2.2 (Txt.upper (sg (cS y5 (0 : Int))))) fun y184 =>
  W.bind (m_law_agrees y121.2 (Txt.upper (sg (cS y5 (0 : Int)))) y184) fun y187 =>
  W.ite (!y187.1) (W.ok false)
  (W.bind (m_law_try y21 y118.2.2 (y117 ++ (Txt.upper (sg (cS y5 (0 : Int)))))) fun y193 =>
  W.bind (m_law_agrees y125.2 (y117 ++ (Txt.upper (sg (cS y5 (0 : Int))))) y193) fun y196 =>
  W.ite (!y196.1) (W.ok false)
  (W.chk (z_text.length + y117.length ≤ sizeLine) <|
  W.chk ((y118.2.1.map (·.length)).sum + y118.2.1.length * (Str.ofString "").length ≤ 16777216) <|
  W.chk (z_given.length + (Txt.join (Str.ofString "") y118.2.1).length ≤ sizeLine) <|
  W.bind (m_law_whole y21 y28 (z_text ++ y117) (z_given ++ (Txt.join (Str.ofString "") y118.2.1))) fun y205 =>
  W.ok y205)))))) s.1 s.2.1 s.2.2.1 s.2.2.2.1 s.2.2.2.2))

/-! the law holds -/
theorem pot_ok {xs : List Int} (hx : xs.length ≤ 63) {K : (List Int × Int × List Int × Int × Int) → Prop} (k : ∀ y, K y) : m_law_pot xs K := by
  unfold m_law_pot
  have hl : (cutT xs none (some 63)).length ≤ 63 := by
    unfold cutT
    rw [List.length_take, List.length_drop]
    omega
  refine ⟨small_le (by omega), compW_map (fun x => x) _ (fun x _ K h => h) ?_⟩
  rw [List.map_id']
  refine ⟨small_le (by omega), compW_filter (fun x => if x < 1000000000000000000 then some x else none) _ (fun x _ K h => ⟨fun h2 => ?_, fun h2 => ?_⟩) ?_⟩
  · rw [if_pos (of_decide_eq_true h2)] at h; exact h
  · rw [if_neg (of_decide_eq_false h2)] at h; exact h
  · refine forW_go (fun _ _ => True) (fun x r s Kn _ hk => hk _ trivial) (fun s _ => ?_) _ _ trivial
    refine ⟨small_le (by omega), compW_filter (fun x => if 1000000000000000000 ≤ x then some x else none) _ (fun x _ K h => ⟨fun h2 => ?_, fun h2 => ?_⟩) (k _)⟩
    · rw [if_pos (of_decide_eq_true h2)] at h; exact h
    · rw [if_neg (of_decide_eq_false h2)] at h; exact h
section
variable {B : BT} {E : ET}
structure StOk (n : Int) (s : StM) : Prop where
  st : StkOk n s.1
  m0 : 0 ≤ s.2.1
  m1 : s.2.1 < n
  s0 : 0 ≤ s.2.2
theorem StOk.try {n : Int} {L : Nat} {s : StM} (S : SOk n L B E) (h : StOk n s) (z : Str) : StOk n (tryR B E s z).2.2 := by
  obtain ⟨a, b, c, d, _⟩ := try_state (z := z) S h.st h.m0 h.m1 h.s0
  exact ⟨a, b, c, d⟩
theorem StOk.trylen {n : Int} {L : Nat} {s : StM} (S : SOk n L B E) (h : StOk n s) (z : Str) : (tryR B E s z).2.2.1.length ≤ s.1.length + z.length := (try_state (z := z) S h.st h.m0 h.m1 h.s0).2.2.2.2
theorem StOk.fresh {n : Int} (h : 1 ≤ n) : StOk n ([], 0, 0) := ⟨fun x hx => absurd hx List.not_mem_nil, Int.le_refl _, by dsimp only; omega, Int.le_refl _⟩
theorem StOk.rev {n : Int} {s : StM} (h : StOk n s) : StkOk n s.1.reverse := fun x hx => h.st x (List.mem_reverse.mp hx)
theorem agrees_S {n : Int} {r : RwM} {s : StM} {z : Str} (S : SOk n 400 B E) (R : RwOk n B E r) (h : StOk n s) (hz : z.length + s.1.length ≤ 30000) {K : Bool × RrM → Prop} (k : K (true, mkR r (tryR B E s z).2.2)) : m_law_agrees (mkR r s) z (tryR B E s z) K :=
  agrees_ok S R h.st h.m0 h.m1 h.s0 (by omega) (by omega) k
/-- the names of the open nodes, closed -/
theorem names_close {n : Int} {s : StM} (h : StOk n s) (hn : s.1.length ≤ 100000) {K : Str → Prop} (k : ∀ z, run (tl z) (s.1.reverse.map Prod.snd) = some [] → z.length = s.1.length → K z) : W.bind (W.comp s.1 fun x => W.ok (some (sg x.2))) (fun y => m_law_close y) K := by
  refine ⟨small_le (by omega), compW_map (fun x => sg x.2) _ (fun x _ K h => h) ?_⟩
  have e : s.1.map (fun x => sg x.2) = (s.1.reverse.map Prod.snd).reverse.map sg := by
    rw [← List.map_reverse, List.reverse_reverse, List.map_map]; rfl
  dsimp only
  rw [e]
  have hl : ∀ c ∈ s.1.reverse.map Prod.snd, low c := fun c hc => by
    obtain ⟨x, hx, rfl⟩ := List.mem_map.mp hc
    exact (h.rev x hx).2.2
  exact close_ok hl (by rw [List.length_map, List.length_reverse]; omega) (k _ (by rw [tl_mkS]; exact run_close hl) (by rw [len_mkS, List.length_map, List.length_map, List.length_reverse]))
end
theorem large_ok {n : Int} {menu : Str} {md : MdM} {r : RwM} (hm : MenuOk menu) (hn : 1 ≤ n) (S : SOk n 400 (mB md) (mE md)) (R : RwOk n (mB md) (mE md) r) {K : Bool → Prop} (k : K true) : m_law_large menu md r K := by
  unfold m_law_large
  refine long_ok hm fun z hz => ?_
  have h0 := StOk.fresh hn
  obtain ⟨hm0, hm1, hml⟩ := hm
  obtain ⟨c, c1, c2, c3⟩ := ch_ok (z := menu) (i := 0) (by decide) (by omega)
  show m_law_try md ([], 0, 0) z _
  refine try_ok (n := n) (by dsimp only [List.length_nil]; omega) h0.st (agrees_S S R h0 (by dsimp only [List.length_nil]; omega) ⟨fun h => (by cases h), fun _ => ⟨⟨small_le (by omega), c, c1⟩, small_le (by rw [len_sg, show (Str.ofString "!").length = 1 from rfl]; decide), ?_⟩⟩)
  have h1 := h0.try S z
  have l1 := h0.trylen S z
  dsimp only [List.length_nil] at l1
  generalize (tryR (mB md) (mE md) ([], 0, 0) z).2.2 = s1 at h1 l1
  have hbl : ((sg (cS menu 0)) ++ (Str.ofString "!")).length = 2 := by rw [len_app]; rfl
  refine try_ok (n := n) (by rw [hbl]; omega) h1.st (agrees_S S R h1 (by rw [hbl]; omega) ⟨fun h => (by cases h), fun _ => ?_⟩)
  have h2 := h1.try S (sg (cS menu 0) ++ Str.ofString "!")
  -- a wrong sign reads nothing
  have es : (tryR (mB md) (mE md) s1 (sg (cS menu 0) ++ Str.ofString "!")).2.2 = s1 := by
    unfold tryR
    rw [show tl (sg (cS menu 0) ++ Str.ofString "!") = [cS menu 0, 33] by rw [tl_append, tl_ofString]; rfl]
    have hlo : low (cS menu 0) := by rw [c2]; exact hml c c3
    rw [rws_some (st1_lo hlo), rws_none (st1_no (by decide) (by omega))]
  rw [es]
  refine names_close h1 (by omega) fun y hy ly => ?_
  exact try_ok (n := n) (by omega) h1.st (agrees_S S R h1 (by omega) k)
/-- whole texts -/
theorem call_whole {n : Int} {B : BT} {E : ET} {r : RwM} {z : Str} {p : List Str × List (Int × Nat) × Int} (hn : 1 ≤ n) (S : SOk n 400 B E) (R : RwOk n B E r) (hz : z.length ≤ 2000) (h : rws B E (tl z) [] 0 0 = .ok p) (he : p.2.1 = []) {K : Str → Prop} (k : K (Txt.join (Str.ofString "") p.1)) : m_Rewriting_call r z K := by
  unfold m_Rewriting_call m_checked m_result
  have hr := rws_run h
  rw [he] at hr
  refine ⟨small_le (by omega), fun h => absurd (of_decide_eq_true h) (by omega), fun _ => fault_ok (by omega) ?_⟩
  rw [flt_of_nst hr]
  refine ⟨fun _ => ⟨small_le (by omega), fun h => absurd (of_decide_eq_true h) (by omega), fun _ => ?_⟩, fun y h => (by cases h)⟩
  show m_rewrite_letters r 0 ([] : List (Int × Nat)).reverse z _
  exact rewrite_letters_ok S R h (fun x hx => absurd hx List.not_mem_nil) (Int.le_refl _) (by omega) (by dsimp only [List.length_nil]; omega) (by omega) k
theorem whole_ok {n : Int} {md : MdM} {r : RwM} {z g : Str} {p : List Str × List (Int × Nat) × Int} (hn : 1 ≤ n) (S : SOk n 400 (mB md) (mE md)) (R : RwOk n (mB md) (mE md) r) (hz : z.length ≤ 2000) (h : rws (mB md) (mE md) (tl z) [] 0 0 = .ok p) (he : p.2.1 = []) (hg : g = Txt.join (Str.ofString "") p.1) {K : Bool → Prop} (k : K true) : m_law_whole md r z g K := by
  unfold m_law_whole
  have h0 := StOk.fresh hn
  show m_law_try md ([], 0, 0) z _
  refine try_ok (n := n) (by dsimp only [List.length_nil]; omega) h0.st ?_
  have et : tryR (mB md) (mE md) ([], 0, 0) z = (-1, p.1, (p.2.1.reverse, p.2.2, 0 + (z.length : Int))) := by unfold tryR; rw [show ([] : List (Int × Nat)).reverse = [] from rfl, h]
  obtain ⟨_, _, _, a4, a5, _⟩ := rws_ok S h (fun x hx => absurd hx List.not_mem_nil) (Int.le_refl _) (by omega)
  have hs := sum_le a4
  rw [a5, ← len_tl] at hs
  refine ⟨?_, fun h2 => ?_, fun _ => ?_⟩
  · rw [et, len_e0]; dsimp only; omega
  · rw [et] at h2
    exact absurd hg.symm (not_t h2)
  · refine agrees_S S R h0 (by dsimp only [List.length_nil]; omega) ⟨fun h => (by cases h), fun _ => ?_⟩
    refine call_whole hn S R hz h he ?_
    show K (true && decide (Txt.join (Str.ofString "") p.1 = g))
    rw [decide_eq_true hg.symm]
    exact k
theorem ite_tail {β : Type} {b : Bool} {m : W Bool} {z : β} {t : W β} {K : β → Prop} (h1 : ∀ G : Bool → Prop, G true → m G) (ht : t K) : W.ite b (W.bind m fun y => W.ite (!y) (W.ok z) t) t K :=
  ⟨fun _ => h1 _ ⟨fun h => (by cases h), fun _ => ht⟩, fun _ => ht⟩
theorem law_true {xs : List Int} (hx : xs.length ≤ 63) : m_law xs (fun b => b = true) := by
  unfold m_law
  refine pot_ok hx fun _ => menu_ok fun menu hm => draw_ok (by decide) (by decide) fun c c0 c1 => ?_
  dsimp only
  generalize hn : (1 : Int) + c = n
  have hn1 : 1 ≤ n := by omega
  have hn4 : n ≤ 4 := by omega
  refine rows_ok hm (by omega) (by omega) fun rs hr => extra_ok hm (by omega) (by omega) hr fun es he => model_ok hr he (rwg_ok hn1 (by omega) hr he fun r hr1 R => ?_)
  have S := mdl_SOk hr he
  generalize hmd : mdl n rs es = md at S R
  have h0 := StOk.fresh hn1
  obtain ⟨hm0, hm1, hml⟩ := hm
  have hm : MenuOk menu := ⟨hm0, hm1, hml⟩
  show m_law_stands (mkR r ([], 0, 0)) ([], 0, 0) _
  refine stands_ok ⟨fun h => (by cases h), fun _ => draw_ok (by decide) (by decide) fun d d0 d1 => ⟨rng62 (by omega) (by omega), ?_⟩⟩
  obtain ⟨N, hN⟩ : ∃ N : Nat, 2 + d = (N : Int) := ⟨(2 + d).toNat, by omega⟩
  have hN10 : N ≤ 10 := by omega
  refine forW_rng hN (fun i (s : RrM × Str × Str × RrM × StM) => ∃ st, s.1 = mkR r st ∧ s.2.2.2.1 = mkR r st ∧ s.2.2.2.2 = st ∧ StOk n st ∧ st.1.length ≤ i * 10 ∧ s.2.1.length ≤ i * 10 ∧
    ∃ p, rws (mB md) (mE md) (tl s.2.1) [] 0 0 = .ok p ∧ p.2 = (st.1.reverse, st.2.1) ∧ s.2.2.1 = Txt.join (Str.ofString "") p.1) ⟨([], 0, 0), rfl, rfl, rfl, h0, Nat.zero_le _, Nat.le_refl _, ([], [], 0), rfl, rfl, rfl⟩ ?_ ?_
  · rintro i ⟨one, text, given, other, st⟩ Kn hi ⟨_, e1, e2, e3, h, hl, ht, p, hp, hp2, hg⟩ hk
    dsimp only at e1 e2 e3 ht hp hg
    subst e3
    subst e1
    subst e2
    refine piece_ok hm (fun x hx => (h.st x hx).2.2) (by omega) fun z hz => try_ok (n := n) (by omega) h.st (agrees_S S R h (by omega) ⟨fun h => (by cases h), fun _ => ?_⟩)
    have h' := h.try S z
    have hl' := h.trylen S z
    cases e : rws (mB md) (mE md) (tl z) st.1.reverse st.2.1 0 with
    | error j =>
      have et : tryR (mB md) (mE md) st z = (st.2.2 + (j : Int), [], st) := by unfold tryR; rw [e]
      have := h.s0
      refine ⟨fun h2 => absurd (of_decide_eq_true h2) (by rw [et]; dsimp only; omega), fun _ => ?_⟩
      rw [et]
      exact stands_ok ⟨fun h => (by cases h), fun _ => hk _ ⟨st, rfl, rfl, rfl, h, by omega, by dsimp only; omega, p, hp, hp2, hg⟩⟩
    | ok q =>
      have et : tryR (mB md) (mE md) st z = (-1, q.1, (q.2.1.reverse, q.2.2, st.2.2 + (z.length : Int))) := by unfold tryR; rw [e]
      obtain ⟨_, _, _, a4, a5, _⟩ := rws_ok S e h.rev h.m0 h.m1
      have hs := sum_le a4
      rw [a5, ← len_tl] at hs
      obtain ⟨_, _, _, b4, b5, _⟩ := rws_ok S hp (fun x hx => absurd hx List.not_mem_nil) (Int.le_refl _) (by omega)
      have hs2 := sum_le b4
      rw [b5, ← len_tl] at hs2
      refine ⟨fun _ => ?_, fun h2 => absurd (of_decide_eq_false h2) (by rw [et]; dsimp only; omega)⟩
      refine each_ok S R h.st h.m0 h.m1 (by omega) (by omega) e ⟨fun h => (by cases h), fun _ => ⟨small_le (by dsimp only; omega), ?_, ?_, ?_⟩⟩
      · rw [et, len_e0]; dsimp only; omega
      · rw [et, hg, len_join0, len_join0]
        dsimp only
        refine small_le ?_
        omega
      · refine stands_ok ⟨fun h => (by cases h), fun _ => hk _ ⟨_, rfl, rfl, rfl, h', by omega, ?_, (p.1 ++ q.1, q.2), ?_, ?_, ?_⟩⟩
        · rw [len_app]; dsimp only; omega
        · dsimp only
          rw [tl_append, rws_app hp, hp2, rws_shift (j := 0 + (tl text).length) e]
          rfl
        · rw [et, List.reverse_reverse]
        · dsimp only
          rw [et, hg, join0_app]
  · rintro ⟨one, text, given, other, st⟩ ⟨_, e1, e2, e3, h, hl, ht, p, hp, hp2, hg⟩
    dsimp only at e1 e2 e3 ht hp hg
    subst e3
    subst e1
    subst e2
    refine names_close h (by omega) fun z hz lz => ?_
    obtain ⟨q, hq⟩ := run_rws (B := mB md) (E := mE md) (m := st.2.1) (k := 0) hz
    have hq2 : q.2.1 = [] := by
      have := rws_run hq
      rw [hz] at this
      have := Option.some.inj this
      exact List.map_eq_nil_iff.mp this.symm
    have et : tryR (mB md) (mE md) st z = (-1, q.1, (q.2.1.reverse, q.2.2, st.2.2 + (z.length : Int))) := by unfold tryR; rw [hq]
    have h' := h.try S z
    have hl' := h.trylen S z
    refine try_ok (n := n) (by omega) h.st (agrees_S S R h (by omega) ⟨fun h => (by cases h), fun _ => each_ok S R h.st h.m0 h.m1 (by omega) (by omega) hq ⟨fun h => (by cases h), fun _ => draw_ok (by decide) (by decide) fun _ _ _ => ?_⟩⟩)
    refine ite_tail (fun G hG => large_ok hm hn1 S R hG) ?_
    obtain ⟨c, c1, c2, c3⟩ := ch_ok (z := menu) (i := 0) (by decide) (by omega)
    have hc := hml c c3
    have e5 : (1 : Nat) ≤ 5592405 := by decide
    have e6 : menu.length ≤ sizeLine ∧ ∃ c, atI (tl menu) 0 = some c := ⟨small_le (by omega), c, c1⟩
    rw [c2, upper_sg hc]
    obtain ⟨_, _, _, a4, a5, _⟩ := rws_ok S hq h.rev h.m0 h.m1
    have hs := sum_le a4
    rw [a5, ← len_tl] at hs
    obtain ⟨_, _, _, b4, b5, _⟩ := rws_ok S hp (fun x hx => absurd hx List.not_mem_nil) (Int.le_refl _) (by omega)
    have hs2 := sum_le b4
    rw [b5, ← len_tl] at hs2
    refine ⟨e6, e5, small_le (by rw [len_sg]; omega), e6, e5, e6, e5, ?_⟩
    refine try_ok (n := n) (by rw [len_sg]; omega) h'.st (agrees_S S R h' (by rw [len_sg]; omega) ⟨fun h => (by cases h), fun _ => ?_⟩)
    refine try_ok (n := n) (by rw [len_app, len_sg]; omega) h'.st (agrees_S S R h' (by rw [len_app, len_sg]; omega) ⟨fun h => (by cases h), fun _ => ⟨small_le (by dsimp only; omega), ?_, ?_, ?_⟩⟩)
    · rw [et, len_e0]; dsimp only; omega
    · rw [et, hg, len_join0, len_join0]
      dsimp only
      refine small_le ?_
      omega
    · refine whole_ok (p := (p.1 ++ q.1, q.2)) hn1 S R (by rw [len_app]; dsimp only; omega) ?_ hq2 (by rw [et, hg, join0_app]) rfl
      rw [tl_append, rws_app hp, hp2, rws_shift (j := 0 + (tl text).length) hq]
      rfl
def spLaw (K : PySem.W.Frag) : Sp := fun vs H Q _ => ∃ (a : Addr) (ns : List Int), vs = [.ref a] ∧ SqL K H a (ns.map V.int) ∧ ns.length ≤ 63 ∧ ∀ H', Q (.bl true) H'
theorem hl_spLaw {K : PySem.W.Frag} : ∀ vs H Q E, spLaw K vs H Q E → vs.length = 1 := fun vs H Q E h => by
  obtain ⟨a, ns, rfl, _⟩ := h
  rfl
theorem spLaw_spW {K : PySem.W.Frag} {vs : List V} {H : Hp} {Q : VK} {E : XK} (h : spLaw K vs H Q E) : spW 1 (fun F vs (i : List Int) => ∃ v0, vs = [v0] ∧ (eScr K).rep F v0 i) eBool (fun i => m_law i) vs H Q E := by
  obtain ⟨a, ns, rfl, hs, hl, q⟩ := h
  exact ⟨rfl, H, ns, _, Le.rfl, ⟨_, rfl, a, rfl, hs⟩, law_true hl, fun y hy v F' H' _ _ _ hv => by subst hy; cases hv; exact q H'⟩
abbrev NM_law : List Str := ["script", "pot", "menu", "count", "rows", "extra", "model", "rewriting", "one", "other", "state", "text", "given", "k", "letters", "due", "bad", "node"]
theorem sc_law : FnScope NM_law ["script"] (defScope s_law) := ⟨rfl, rfl, rfl, by decide +kernel, rfl, by decide +kernel, by decide +kernel⟩
theorem d_law {f : Addr} {fd : FuncData} (F : Fun K "law" "law" s_law f fd) (T : Txt P K mg) (D_law_pot : Def P w K mg base 1 "_law_pot" ["script"] (spPot K)) (D_law_menu : Def P w K mg base 2 "_law_menu" ["pot", "most"] (spWm 2 (fun F (h : (Addr × List Addr)) W vs (i : Int) => ∃ v1, vs = [.ref h.1, v1] ∧ ∃ N0, W = N0 ++ ([]) ∧ rBx.rep F h.1 h.2 N0 () ∧ eInt.rep F v1 i) (fun _ F _ (h : (Addr × List Addr)) W v (y : Str) => ∃ N0, W = N0 ++ ([]) ∧ rBx.rep F h.1 h.2 N0 () ∧ eStr.rep F v y) (fun (i : Int) => m_law_menu i))) (D_law_rows : Def P w K mg base 4 "_law_rows" ["pot", "menu", "count", "plain"] (spWm 4 (fun F (h : (Addr × List Addr)) W vs (i : Str × Int × Bool) => ∃ v1 v2 v3, vs = [.ref h.1, v1, v2, v3] ∧ ∃ N0, W = N0 ++ ([]) ∧ rBx.rep F h.1 h.2 N0 () ∧ eStr.rep F v1 i.1 ∧ eInt.rep F v2 i.2.1 ∧ eBool.rep F v3 i.2.2) (fun _ F _ (h : (Addr × List Addr)) W v (y : List (Int × Nat × Str × Int × Str × Int)) => ∃ N0, W = N0 ++ ([]) ∧ rBx.rep F h.1 h.2 N0 () ∧ (eLst (eP6 eInt eChr eStr eInt eStr eInt)).rep F v y) (fun (i : Str × Int × Bool) => m_law_rows i.1 i.2.1 i.2.2))) (D_law_extra : Def P w K mg base 4 "_law_extra" ["pot", "menu", "count", "rows", "plain"] (spWm 5 (fun F (h : (Addr × List Addr)) W vs (i : Str × Int × (List (Int × Nat × Str × Int × Str × Int)) × Bool) => ∃ v1 v2 v3 v4, vs = [.ref h.1, v1, v2, v3, v4] ∧ ∃ N0, W = N0 ++ ([]) ∧ rBx.rep F h.1 h.2 N0 () ∧ eStr.rep F v1 i.1 ∧ eInt.rep F v2 i.2.1 ∧ (eLst (eP6 eInt eChr eStr eInt eStr eInt)).rep F v3 i.2.2.1 ∧ eBool.rep F v4 i.2.2.2) (fun _ F _ (h : (Addr × List Addr)) W v (y : List (Int × Nat × Int × Str × Int)) => ∃ N0, W = N0 ++ ([]) ∧ rBx.rep F h.1 h.2 N0 () ∧ (eLst (eP5 eInt eChr eInt eStr eInt)).rep F v y) (fun (i : Str × Int × (List (Int × Nat × Str × Int × Str × Int)) × Bool) => m_law_extra i.1 i.2.1 i.2.2.1 i.2.2.2))) (D_law_model : Def P w K mg base 1 "_law_model" ["count", "rows", "extra"] (spW 3 (fun F vs (i : Int × (List (Int × Nat × Str × Int × Str × Int)) × (List (Int × Nat × Int × Str × Int))) => ∃ v0 v1 v2, vs = [v0, v1, v2] ∧ eInt.rep F v0 i.1 ∧ (eLst (eP6 eInt eChr eStr eInt eStr eInt)).rep F v1 i.2.1 ∧ (eLst (eP5 eInt eChr eInt eStr eInt)).rep F v2 i.2.2) (eR4 "count" eInt "begin" (eDT kIC (eP2 eStr eInt)) "end" (eDT kIC (eP2 eStr eInt)) "special" (eDT kICI (eP2 eStr eInt))) (fun (i : Int × (List (Int × Nat × Str × Int × Str × Int)) × (List (Int × Nat × Int × Str × Int))) => m_law_model i.1 i.2.1 i.2.2))) (D_Rewriting : MkX P w K mg base 7 "Rewriting" ["self", "modes", "rules", "exceptions"] (spRwg mg)) (D_Rewriter : MkP P w K mg base 1 "Rewriter" ["self", "rewriting"] (spRwr mg)) (D_law_fresh : Def P w K mg base 1 "_law_fresh" [] (spW 0 (fun F vs (i : Unit) => vs = []) (eR3 "nodes" (eLst (eP2 eInt eChr)) "mode" eInt "seen" eInt) (fun (i : Unit) => m_law_fresh))) (D_law_close : Def P w K mg base 1 "_law_close" ["opened"] (spW 1 (fun F vs (i : (List Str)) => ∃ v0, vs = [v0] ∧ (eLst eStr).rep F v0 i) eStr (fun (i : (List Str)) => m_law_close i))) (D_law_try : Def P w K mg base 2 "_law_try" ["model", "state", "letters"] (spW 3 (fun F vs (i : (Int × (List ((Int × Nat) × (Str × Int))) × (List ((Int × Nat) × (Str × Int))) × (List ((Int × Nat × Int) × (Str × Int)))) × ((List (Int × Nat)) × Int × Int) × Str) => ∃ v0 v1 v2, vs = [v0, v1, v2] ∧ (eR4 "count" eInt "begin" (eDT kIC (eP2 eStr eInt)) "end" (eDT kIC (eP2 eStr eInt)) "special" (eDT kICI (eP2 eStr eInt))).rep F v0 i.1 ∧ (eR3 "nodes" (eLst (eP2 eInt eChr)) "mode" eInt "seen" eInt).rep F v1 i.2.1 ∧ eStr.rep F v2 i.2.2) (eP3 eInt (eLst eStr) (eR3 "nodes" (eLst (eP2 eInt eChr)) "mode" eInt "seen" eInt)) (fun (i : (Int × (List ((Int × Nat) × (Str × Int))) × (List ((Int × Nat) × (Str × Int))) × (List ((Int × Nat × Int) × (Str × Int)))) × ((List (Int × Nat)) × Int × Int) × Str) => m_law_try i.1 i.2.1 i.2.2))) (D_law_whole : Def P w K mg base 6 "_law_whole" ["model", "rewriting", "text", "given"] (spW 4 (fun F vs (i : (Int × (List ((Int × Nat) × (Str × Int))) × (List ((Int × Nat) × (Str × Int))) × (List ((Int × Nat × Int) × (Str × Int)))) × RwM × Str × Str) => ∃ v0 v1 v2 v3, vs = [v0, v1, v2, v3] ∧ (eR4 "count" eInt "begin" (eDT kIC (eP2 eStr eInt)) "end" (eDT kIC (eP2 eStr eInt)) "special" (eDT kICI (eP2 eStr eInt))).rep F v0 i.1 ∧ (eRw mg).rep F v1 i.2.1 ∧ eStr.rep F v2 i.2.2.1 ∧ eStr.rep F v3 i.2.2.2) eBool (fun (i : (Int × (List ((Int × Nat) × (Str × Int))) × (List ((Int × Nat) × (Str × Int))) × (List ((Int × Nat × Int) × (Str × Int)))) × RwM × Str × Str) => m_law_whole i.1 i.2.1 i.2.2.1 i.2.2.2))) (D_law_draw : Def P w K mg base 1 "_law_draw" ["pot", "many"] (spWm 2 (fun F (h : (Addr × List Addr)) W vs (i : Int) => ∃ v1, vs = [.ref h.1, v1] ∧ ∃ N0, W = N0 ++ ([]) ∧ rBx.rep F h.1 h.2 N0 () ∧ eInt.rep F v1 i) (fun _ F _ (h : (Addr × List Addr)) W v (y : Int) => ∃ N0, W = N0 ++ ([]) ∧ rBx.rep F h.1 h.2 N0 () ∧ eInt.rep F v y) (fun (i : Int) => m_law_draw i))) (D_law_stands : Def P w K mg base 3 "_law_stands" ["reader", "state"] (spW 2 (fun F vs (i : RrM × ((List (Int × Nat)) × Int × Int)) => ∃ v0 v1, vs = [v0, v1] ∧ (eRwr mg).rep F v0 i.1 ∧ (eR3 "nodes" (eLst (eP2 eInt eChr)) "mode" eInt "seen" eInt).rep F v1 i.2) eBool (fun (i : RrM × ((List (Int × Nat)) × Int × Int)) => m_law_stands i.1 i.2))) (D_law_piece : Def P w K mg base 3 "_law_piece" ["pot", "menu", "state"] (spWm 3 (fun F (h : (Addr × List Addr)) W vs (i : Str × ((List (Int × Nat)) × Int × Int)) => ∃ v1 v2, vs = [.ref h.1, v1, v2] ∧ ∃ N0, W = N0 ++ ([]) ∧ rBx.rep F h.1 h.2 N0 () ∧ eStr.rep F v1 i.1 ∧ (eR3 "nodes" (eLst (eP2 eInt eChr)) "mode" eInt "seen" eInt).rep F v2 i.2) (fun _ F _ (h : (Addr × List Addr)) W v (y : Str) => ∃ N0, W = N0 ++ ([]) ∧ rBx.rep F h.1 h.2 N0 () ∧ eStr.rep F v y) (fun (i : Str × ((List (Int × Nat)) × Int × Int)) => m_law_piece i.1 i.2))) (D_law_agrees : Def P w K mg base 5 "_law_agrees" ["reader", "letters", "due"] (spWm 3 (fun F (h : (Addr × List Addr)) W vs (i : (RrM) × Str × (Int × (List Str) × ((List (Int × Nat)) × Int × Int))) => ∃ v1 v2, vs = [.ref h.1, v1, v2] ∧ ∃ N0, W = N0 ++ ([]) ∧ (rRwr mg).rep F h.1 h.2 N0 i.1 ∧ eStr.rep F v1 i.2.1 ∧ (eP3 eInt (eLst eStr) (eR3 "nodes" (eLst (eP2 eInt eChr)) "mode" eInt "seen" eInt)).rep F v2 i.2.2) (fun _ F _ (h : (Addr × List Addr)) W v (y : Bool × (RrM)) => ∃ N0, W = N0 ++ ([]) ∧ (rRwr mg).rep F h.1 h.2 N0 y.2 ∧ eBool.rep F v y.1) (fun (i : (RrM) × Str × (Int × (List Str) × ((List (Int × Nat)) × Int × Int))) => m_law_agrees i.1 i.2.1 i.2.2))) (D_law_each : Def P w K mg base 5 "_law_each" ["reader", "letters", "due"] (spWm 3 (fun F (h : (Addr × List Addr)) W vs (i : (RrM) × Str × (Int × (List Str) × ((List (Int × Nat)) × Int × Int))) => ∃ v1 v2, vs = [.ref h.1, v1, v2] ∧ ∃ N0, W = N0 ++ ([]) ∧ (rRwr mg).rep F h.1 h.2 N0 i.1 ∧ eStr.rep F v1 i.2.1 ∧ (eP3 eInt (eLst eStr) (eR3 "nodes" (eLst (eP2 eInt eChr)) "mode" eInt "seen" eInt)).rep F v2 i.2.2) (fun _ F _ (h : (Addr × List Addr)) W v (y : Bool × (RrM)) => ∃ N0, W = N0 ++ ([]) ∧ (rRwr mg).rep F h.1 h.2 N0 y.2 ∧ eBool.rep F v y.1) (fun (i : (RrM) × Str × (Int × (List Str) × ((List (Int × Nat)) × Int × Int))) => m_law_each i.1 i.2.1 i.2.2))) (D_law_large : Def P w K mg base 6 "_law_large" ["pot", "menu", "model", "rewriting"] (spWm 4 (fun F (h : (Addr × List Addr)) W vs (i : Str × (Int × (List ((Int × Nat) × (Str × Int))) × (List ((Int × Nat) × (Str × Int))) × (List ((Int × Nat × Int) × (Str × Int)))) × RwM) => ∃ v1 v2 v3, vs = [.ref h.1, v1, v2, v3] ∧ ∃ N0, W = N0 ++ ([]) ∧ rBx.rep F h.1 h.2 N0 () ∧ eStr.rep F v1 i.1 ∧ (eR4 "count" eInt "begin" (eDT kIC (eP2 eStr eInt)) "end" (eDT kIC (eP2 eStr eInt)) "special" (eDT kICI (eP2 eStr eInt))).rep F v2 i.2.1 ∧ (eRw mg).rep F v3 i.2.2) (fun _ F _ (h : (Addr × List Addr)) W v (y : Bool) => ∃ N0, W = N0 ++ ([]) ∧ rBx.rep F h.1 h.2 N0 () ∧ eBool.rep F v y) (fun (i : Str × (Int × (List ((Int × Nat) × (Str × Int))) × (List ((Int × Nat) × (Str × Int))) × (List ((Int × Nat × Int) × (Str × Int)))) × RwM) => m_law_large i.1 i.2.1 i.2.2))) :
    FnOk P w K mg base CX0 9 f fd ["script"] (spLaw K) := by
  refine F.ok sc_law (by first | exact hl_spLaw) (fun cdv A outer s H vs Q E hr h => ?_)
  refine ⟨_, (pss_cons (ps_set (i := 1) sc_law.nd rfl (Or.inl rfl) (pe_d D_law_pot (hr.mono (by decide)) rfl (pa_cons (pv 0) pa_nil)))
      (pss_cons (ps_set (i := 2) sc_law.nd rfl (Or.inl rfl) (pe_d D_law_menu (hr.mono (by decide)) rfl (pa_cons (pv 1) (pa_cons pe_int pa_nil))))
      (pss_cons (ps_set (i := 3) sc_law.nd rfl (Or.inl rfl) (pe_op op_add pe_int (pe_d D_law_draw (hr.mono (by decide)) rfl (pa_cons (pv 1) (pa_cons pe_int pa_nil)))))
      (pss_cons (ps_set (i := 4) sc_law.nd rfl (Or.inl rfl) (pe_d D_law_rows (hr.mono (by decide)) rfl (pa_cons (pv 1) (pa_cons (pv 2) (pa_cons (pv 3) (pa_cons pe_bl pa_nil))))))
      (pss_cons (ps_set (i := 5) sc_law.nd rfl (Or.inl rfl) (pe_d D_law_extra (hr.mono (by decide)) rfl (pa_cons (pv 1) (pa_cons (pv 2) (pa_cons (pv 3) (pa_cons (pv 4) (pa_cons pe_bl pa_nil)))))))
      (pss_cons (ps_set (i := 6) sc_law.nd rfl (Or.inl rfl) (pe_d D_law_model (hr.mono (by decide)) rfl (pa_cons (pv 3) (pa_cons (pv 4) (pa_cons (pv 5) pa_nil)))))
      (pss_cons (ps_set (i := 7) sc_law.nd rfl (Or.inl rfl) (pe_mkx D_Rewriting rfl (hr.mono (by decide)) takesN0 (by rfl) (pa_cons (pv 3) (pa_cons (pe_callTy (T := "list") callListOf (by rfl) T.b_list (by decide +kernel) (pa_cons (pv 4) pa_nil)) (pa_cons (pe_callTy (T := "list") callListOf (by rfl) T.b_list (by decide +kernel) (pa_cons (pv 5) pa_nil)) pa_nil)))))
      (pss_cons (ps_set (i := 8) sc_law.nd rfl (Or.inl rfl) (pe_mkp D_Rewriter rfl (hr.mono (by decide)) (by rfl) (pa_cons (pv 7) pa_nil)))
      (pss_cons (ps_set (i := 9) sc_law.nd rfl (Or.inl rfl) (pe_mkp D_Rewriter rfl (hr.mono (by decide)) (by rfl) (pa_cons (pv 7) pa_nil)))
      (pss_cons (ps_set (i := 10) sc_law.nd rfl (Or.inl rfl) (pe_d0 D_law_fresh (hr.mono (by decide)) rfl))
      (pss_cons (ps_if (pt_not (pt_val (pe_d D_law_stands (hr.mono (by decide)) rfl (pa_cons (pv 8) (pa_cons (pv 10) pa_nil)))))
      (pss_one (ps_ret pe_bl))
      pss_nil)
      (pss_cons (ps_set (i := 11) sc_law.nd rfl (Or.inl rfl) pe_str)
      (pss_cons (ps_set (i := 12) sc_law.nd rfl (Or.inl rfl) pe_str)
      (pss_cons (ps_for PassesOwn.never rfl (pi_range1 (by rfl) T.b_range (pa_cons (pe_op op_add pe_int (pe_d D_law_draw (hr.mono (by decide)) rfl (pa_cons (pv 1) (pa_cons pe_int pa_nil)))) pa_nil)) (pg_name (i := 13) sc_law.nd rfl (Or.inl rfl))
      (pss_cons (ps_set (i := 14) sc_law.nd rfl (Or.inl rfl) (pe_d D_law_piece (hr.mono (by decide)) rfl (pa_cons (pv 1) (pa_cons (pv 2) (pa_cons (pv 10) pa_nil)))))
      (pss_cons (ps_set (i := 15) sc_law.nd rfl (Or.inl rfl) (pe_d D_law_try (hr.mono (by decide)) rfl (pa_cons (pv 6) (pa_cons (pv 10) (pa_cons (pv 14) pa_nil)))))
      (pss_cons (ps_if (pt_not (pt_val (pe_d D_law_agrees (hr.mono (by decide)) rfl (pa_cons (pv 8) (pa_cons (pv 14) (pa_cons (pv 15) pa_nil))))))
      (pss_one (ps_ret pe_bl))
      pss_nil)
      (pss_cons (ps_if (pt_cmpR op_lt (pe_ix ix_tup (pv 15) pe_int (fun _ _ => rfl)) pe_int (nomark _))
      (pss_cons (ps_if (pt_not (pt_val (pe_d D_law_each (hr.mono (by decide)) rfl (pa_cons (pv 9) (pa_cons (pv 14) (pa_cons (pv 15) pa_nil))))))
      (pss_one (ps_ret pe_bl))
      pss_nil)
      (pss_cons (ps_set (i := 11) sc_law.nd rfl (Or.inl rfl) (pe_op opAddS (pv 11) (pv 14)))
      (pss_one (ps_set (i := 12) sc_law.nd rfl (Or.inl rfl) (pe_op opAddS (pv 12) (pe_bm PySem.F.plainAttrs_str PySem.F.slot_str_join PySem.F.type_str_join mtJoin pe_str (pa_cons (pe_ix ix_tup (pv 15) pe_int (fun _ _ => rfl)) pa_nil)))))))
      pss_nil)
      (pss_cons (ps_set (i := 10) sc_law.nd rfl (Or.inl rfl) (pe_ix ix_tup (pv 15) pe_int (fun _ _ => rfl)))
      (pss_one (ps_if (pt_not (pt_val (pe_d D_law_stands (hr.mono (by decide)) rfl (pa_cons (pv 9) (pa_cons (pv 10) pa_nil)))))
      (pss_one (ps_ret pe_bl))
      pss_nil))))))))
      (pss_cons (ps_set (i := 14) sc_law.nd rfl (Or.inl rfl) (pe_d D_law_close (hr.mono (by decide)) rfl (pa_cons (pe_lc (own := [("node", 17)]) (g := gName 17) rfl sc_law.nd (pi_list (pe_dget (NF.u1 hr.units) (pv 10) pe_str (fun _ _ => rfl))) (blkOk_by (own := [("node", 17)]) (N := NM_law) (sc := defScope s_law) (by decide +kernel)) (fun _ _ _ _ _ => (pg_name (i := 17) sc_law.nd rfl (Or.inl rfl))) (fun _ _ _ _ _ => pts_nil) (fun _ _ _ _ _ => (pe_ix (show IxR _ (rIxT K) from ix_tup) (pv 17) pe_int (fun _ _ => rfl)))) pa_nil)))
      (pss_cons (ps_set (i := 15) sc_law.nd rfl (Or.inl rfl) (pe_d D_law_try (hr.mono (by decide)) rfl (pa_cons (pv 6) (pa_cons (pv 10) (pa_cons (pv 14) pa_nil)))))
      (pss_cons (ps_if (PW.pt (pw_or (pt_not (pt_val (pe_d D_law_agrees (hr.mono (by decide)) rfl (pa_cons (pv 8) (pa_cons (pv 14) (pa_cons (pv 15) pa_nil)))))) (pw_or1 (pt_not (pt_val (pe_d D_law_each (hr.mono (by decide)) rfl (pa_cons (pv 9) (pa_cons (pv 14) (pa_cons (pv 15) pa_nil)))))))))
      (pss_one (ps_ret pe_bl))
      pss_nil)
      (pss_cons (ps_if (PW.pt (pw_and (pt_cmpR op_eq (pe_d D_law_draw (hr.mono (by decide)) rfl (pa_cons (pv 1) (pa_cons pe_int pa_nil))) pe_int (nomark _)) (pw_and1 (pt_not (pt_val (pe_d D_law_large (hr.mono (by decide)) rfl (pa_cons (pv 1) (pa_cons (pv 2) (pa_cons (pv 6) (pa_cons (pv 7) pa_nil))))))))))
      (pss_one (ps_ret pe_bl))
      pss_nil)
      (pss_cons (ps_set (i := 16) sc_law.nd rfl (Or.inl rfl) (pe_op opAddS (pv 14) (pe_bm0 PySem.F.plainAttrs_str PySem.F.slot_str_upper PySem.F.type_str_upper mtUpper (pe_ix ix_str (pv 2) pe_int (fun _ _ => rfl)))))
      (pss_cons (ps_if (pt_not (pt_val (pe_d D_law_agrees (hr.mono (by decide)) rfl (pa_cons (pv 8) (pa_cons (pe_bm0 PySem.F.plainAttrs_str PySem.F.slot_str_upper PySem.F.type_str_upper mtUpper (pe_ix ix_str (pv 2) pe_int (fun _ _ => rfl))) (pa_cons (pe_d D_law_try (hr.mono (by decide)) rfl (pa_cons (pv 6) (pa_cons (pe_ix ix_tup (pv 15) pe_int (fun _ _ => rfl)) (pa_cons (pe_bm0 PySem.F.plainAttrs_str PySem.F.slot_str_upper PySem.F.type_str_upper mtUpper (pe_ix ix_str (pv 2) pe_int (fun _ _ => rfl))) pa_nil)))) pa_nil))))))
      (pss_one (ps_ret pe_bl))
      pss_nil)
      (pss_cons (ps_if (pt_not (pt_val (pe_d D_law_agrees (hr.mono (by decide)) rfl (pa_cons (pv 9) (pa_cons (pv 16) (pa_cons (pe_d D_law_try (hr.mono (by decide)) rfl (pa_cons (pv 6) (pa_cons (pe_ix ix_tup (pv 15) pe_int (fun _ _ => rfl)) (pa_cons (pv 16) pa_nil)))) pa_nil))))))
      (pss_one (ps_ret pe_bl))
      pss_nil)
      (pss_one (ps_ret (pe_d D_law_whole (hr.mono (by decide)) rfl (pa_cons (pv 6) (pa_cons (pv 7) (pa_cons (pe_op opAddS (pv 11) (pv 14)) (pa_cons (pe_op opAddS (pv 12) (pe_bm PySem.F.plainAttrs_str PySem.F.slot_str_join PySem.F.type_str_join mtJoin pe_str (pa_cons (pe_ix ix_tup (pv 15) pe_int (fun _ _ => rfl)) pa_nil))) pa_nil)))))))))))))))))))))))))))), ?_⟩
  try dsimp only [cxOf, Cx.nox, Cx.wish]
  have h := spLaw_spW h
  obtain ⟨hl, F, a_script, K0, hF, ⟨v_script, rfl, h_script⟩, k, q⟩ := h
  have O := NF.Fz.start hF
  have lF := NF.Ex.rfl (B := H) (F := F)
  refine (NF.x_seq (NF.x_asg (NF.x_call (NF.x_cons (NF.x_var rfl (NF.x_nil (NF.use_spPot O h_script k (fun p1 as2 N3 F H l0 O r4 hk => Exists.elim hk fun y_ k => (have O : NF.Fz _ F H (N3 ++ ([]) : List (Addr × HO)) := O; (have h_script := Enc.mono (eScr K) l0.le h_script; (have lF := Ex.trans lF l0; (NF.x_name ?_))))))))))))
  refine (NF.x_seq (NF.x_asg (NF.x_call (NF.x_cons (NF.x_var rfl (NF.x_cons (NF.x_c (NF.x_nil (NF.use_spWm (i := (8 : Int)) (p1, as2) (NF.Fz.sel O (List.Perm.refl _) (NF.apS NF.ap0)) rfl ⟨_, rfl, _, rfl, r4, rfl⟩ k (fun y5 v8 F H W l0 O hP k => Exists.elim hP fun N6 hP => (have hW := hP.1; have hP := hP.2; have r4 := hP.1; have hP := hP.2; have O := NF.Fz.reW (hW.trans (NF.reS rfl rfl)) O; (have h7 := hP; have O := NF.Fz.unsel O (NF.apS NF.ap0) (List.Perm.refl _); (have O : NF.Fz _ F H (N6 ++ ([]) : List (Addr × HO)) := O; (have h_script := Enc.mono (eScr K) l0.le h_script; (have lF := Ex.trans lF l0; (NF.byS v8 h7 (NF.x_name ?_)))))))))))))))))
  refine (NF.x_seq (NF.x_asg (NF.x_op (NF.x_c (NF.x_call (NF.x_cons (NF.x_var rfl (NF.x_cons (NF.x_c (NF.x_nil (NF.use_spWm (i := (4 : Int)) (p1, as2) (NF.Fz.sel O (List.Perm.refl _) (NF.apS NF.ap0)) rfl ⟨_, rfl, _, rfl, r4, rfl⟩ k (fun y9 v12 F H W l0 O hP k => Exists.elim hP fun N10 hP => (have hW := hP.1; have hP := hP.2; have r4 := hP.1; have hP := hP.2; have O := NF.Fz.reW (hW.trans (NF.reS rfl rfl)) O; (have h11 := hP; have O := NF.Fz.unsel O (NF.apS NF.ap0) (List.Perm.refl _); (have O : NF.Fz _ F H (N10 ++ ([]) : List (Addr × HO)) := O; (have h_script := Enc.mono (eScr K) l0.le h_script; (have lF := Ex.trans lF l0; (NF.byI v12 h11 (NF.x_I0 (NF.x_name ?_))))))))))))))))))))
  refine (NF.x_seq (NF.x_asg (NF.x_call (NF.x_cons (NF.x_var rfl (NF.x_cons (NF.x_var rfl (NF.x_cons (NF.x_var rfl (NF.x_cons (NF.x_c (NF.x_nil (NF.use_spWm (i := (y5, ((1 : Int) + y9), false)) (p1, as2) (NF.Fz.sel O (List.Perm.refl _) (NF.apS NF.ap0)) rfl ⟨_, _, _, rfl, _, rfl, r4, rfl, rfl, rfl⟩ k (fun y13 v16 F H W l0 O hP k => Exists.elim hP fun N14 hP => (have hW := hP.1; have hP := hP.2; have r4 := hP.1; have hP := hP.2; have O := NF.Fz.reW (hW.trans (NF.reS rfl rfl)) O; (have h15 := hP; have O := NF.Fz.unsel O (NF.apS NF.ap0) (List.Perm.refl _); (have O : NF.Fz _ F H (N14 ++ ([]) : List (Addr × HO)) := O; (have h_script := Enc.mono (eScr K) l0.le h_script; (have lF := Ex.trans lF l0; (NF.x_name ?_))))))))))))))))))))
  refine (NF.x_seq (NF.x_asg (NF.x_call (NF.x_cons (NF.x_var rfl (NF.x_cons (NF.x_var rfl (NF.x_cons (NF.x_var rfl (NF.x_cons (NF.x_var rfl (NF.x_cons (NF.x_c (NF.x_nil (NF.use_spWm (i := (y5, ((1 : Int) + y9), y13, false)) (p1, as2) (NF.Fz.sel O (List.Perm.refl _) (NF.apS NF.ap0)) rfl ⟨_, _, _, _, rfl, _, rfl, r4, rfl, rfl, h15, rfl⟩ k (fun y17 v20 F H W l0 O hP k => Exists.elim hP fun N18 hP => (have hW := hP.1; have hP := hP.2; have r4 := hP.1; have hP := hP.2; have O := NF.Fz.reW (hW.trans (NF.reS rfl rfl)) O; (have h19 := hP; have O := NF.Fz.unsel O (NF.apS NF.ap0) (List.Perm.refl _); (have O : NF.Fz _ F H (N18 ++ ([]) : List (Addr × HO)) := O; (have h_script := Enc.mono (eScr K) l0.le h_script; (have h15 := Enc.mono (eLst (eP6 eInt eChr eStr eInt eStr eInt)) l0.le h15; (have lF := Ex.trans lF l0; (NF.x_name ?_)))))))))))))))))))))))
  refine (NF.x_seq (NF.x_asg (NF.x_call (NF.x_cons (NF.x_var rfl (NF.x_cons (NF.x_var rfl (NF.x_cons (NF.x_var rfl (NF.x_nil (NF.use_spW (i := (((1 : Int) + y9), y13, y17)) O rfl ⟨_, _, _, rfl, rfl, h15, h19⟩ k (fun y21 v22 F H l0 O h23 k => (have h_script := Enc.mono (eScr K) l0.le h_script; (have r4 := Rsc.mono rBx l0.le r4; (have h15 := Enc.mono (eLst (eP6 eInt eChr eStr eInt eStr eInt)) l0.le h15; (have h19 := Enc.mono (eLst (eP5 eInt eChr eInt eStr eInt)) l0.le h19; (have lF := Ex.trans lF l0; (NF.x_name ?_))))))))))))))))))
  refine (NF.x_seq (NF.x_asg (NF.x_makeXR (NF.x_cons (NF.x_var rfl (NF.x_cons (NF.x_cb (NF.x_cons (NF.x_var rfl (NF.x_nil (NF.y_listOfF O (Or.inl h15) (fun p25 F H h24 l0 O => (have h_script := Enc.mono (eScr K) l0.le h_script; (have r4 := Rsc.mono rBx l0.le r4; (have h15 := Enc.mono (eLst (eP6 eInt eChr eStr eInt eStr eInt)) l0.le h15; (have h19 := Enc.mono (eLst (eP5 eInt eChr eInt eStr eInt)) l0.le h19; (have h23 := Enc.mono (eR4 "count" eInt "begin" (eDT kIC (eP2 eStr eInt)) "end" (eDT kIC (eP2 eStr eInt)) "special" (eDT kICI (eP2 eStr eInt))) l0.le h23; (have lF := Ex.trans lF l0; (NF.x_cons (NF.x_cb (NF.x_cons (NF.x_var rfl (NF.x_nil (NF.y_listOfF O (Or.inl h19) (fun p27 F H h26 l0 O => (have h_script := Enc.mono (eScr K) l0.le h_script; (have r4 := Rsc.mono rBx l0.le r4; (have h15 := Enc.mono (eLst (eP6 eInt eChr eStr eInt eStr eInt)) l0.le h15; (have h19 := Enc.mono (eLst (eP5 eInt eChr eInt eStr eInt)) l0.le h19; (have h23 := Enc.mono (eR4 "count" eInt "begin" (eDT kIC (eP2 eStr eInt)) "end" (eDT kIC (eP2 eStr eInt)) "special" (eDT kICI (eP2 eStr eInt))) l0.le h23; (have h24 := Enc.mono (eLst (eP6 eInt eChr eStr eInt eStr eInt)) l0.le h24; (have lF := Ex.trans lF l0; (NF.x_nil (NF.y_newRwg O h24 h26 k (fun y28 v29 F H l0 O h30 k => (have h_script := Enc.mono (eScr K) l0.le h_script; (have r4 := Rsc.mono rBx l0.le r4; (have h15 := Enc.mono (eLst (eP6 eInt eChr eStr eInt eStr eInt)) l0.le h15; (have h19 := Enc.mono (eLst (eP5 eInt eChr eInt eStr eInt)) l0.le h19; (have h23 := Enc.mono (eR4 "count" eInt "begin" (eDT kIC (eP2 eStr eInt)) "end" (eDT kIC (eP2 eStr eInt)) "special" (eDT kICI (eP2 eStr eInt))) l0.le h23; (have h24 := Enc.mono (eLst (eP6 eInt eChr eStr eInt eStr eInt)) l0.le h24; (have h26 := Enc.mono (eLst (eP5 eInt eChr eInt eStr eInt)) l0.le h26; (have lF := Ex.trans lF l0; (NF.x_name ?_))))))))))))))))))))))))))))))))))))))))))))
  refine (NF.x_seq (NF.x_asg (NF.x_makeR (NF.x_cons (NF.x_var rfl (NF.x_nil (NF.y_newRwr O h30 (fun p31 as32 N33 H O r34 => (have O : NF.Fz _ F H (N33 ++ (N18 ++ ([])) : List (Addr × HO)) := O; (NF.x_name ?_))))))))))
  refine (NF.x_seq (NF.x_asg (NF.x_makeR (NF.x_cons (NF.x_var rfl (NF.x_nil (NF.y_newRwr O h30 (fun p35 as36 N37 H O r38 => (have O : NF.Fz _ F H (N37 ++ (N33 ++ (N18 ++ ([]))) : List (Addr × HO)) := O; (NF.x_name ?_))))))))))
  refine (NF.x_seq (NF.x_asg (NF.x_call (NF.x_nil (NF.use_spW (i := ()) O rfl rfl k (fun y39 v40 F H l0 O h41 k => (have h_script := Enc.mono (eScr K) l0.le h_script; (have r4 := Rsc.mono rBx l0.le r4; (have h15 := Enc.mono (eLst (eP6 eInt eChr eStr eInt eStr eInt)) l0.le h15; (have h19 := Enc.mono (eLst (eP5 eInt eChr eInt eStr eInt)) l0.le h19; (have h23 := Enc.mono (eR4 "count" eInt "begin" (eDT kIC (eP2 eStr eInt)) "end" (eDT kIC (eP2 eStr eInt)) "special" (eDT kICI (eP2 eStr eInt))) l0.le h23; (have h30 := Enc.mono (eRw mg) l0.le h30; (have r34 := Rsc.mono (rRwr mg) l0.le r34; (have r38 := Rsc.mono (rRwr mg) l0.le r38; (have lF := Ex.trans lF l0; (NF.x_name ?_))))))))))))))))
  refine (NF.x_seq (NF.x_ifs (NF.x_not (NF.x_B (NF.x_call (NF.x_cons (NF.x_var rfl (NF.x_cons (NF.x_var rfl (NF.x_nil (Exists.elim (NF.rwr_view (NF.Fz.perm O (NF.mvS NF.mv0)) r34) fun _ hG => (have g1 := hG.1; have hr := hG.2.2; (NF.use_spWvF (i := ((y28, 0, [], 0), y39)) O hG.2.1 rfl ⟨_, _, rfl, hr, (Enc.mono _ g1 h41)⟩ k (fun y43 v44 _ H h45 O k => (have O : NF.Fz _ F H (N37 ++ (N33 ++ (N18 ++ ([]))) : List (Addr × HO)) := O; NF.byB v44 h45 (NF.x_bl (NF.x_itb (fun g221 => (have k := k.1 g221; ?n222)) (fun g221 => (have k := k.2 g221; ?n223)))))))))))))))))))
  case n222 =>
    exact (NF.x_ret (NF.x_c (q false k _ _ _ O.leB O.leF lF rfl)))
  case n223 =>
    refine NF.x_next ?_
    refine (NF.x_seq (NF.x_asg (NF.x_c (NF.x_name ?_))))
    refine (NF.x_seq (NF.x_asg (NF.x_c (NF.x_name ?_))))
    refine (NF.x_seq (NF.x_for (NF.x_jR1 (NF.x_cons (NF.x_op (NF.x_c (NF.x_call (NF.x_cons (NF.x_var rfl (NF.x_cons (NF.x_c (NF.x_nil (NF.use_spWm (i := (9 : Int)) (p1, as2) (NF.Fz.sel O (NF.mvS (NF.mvS NF.mv0)) (NF.apS NF.ap0)) rfl ⟨_, rfl, _, rfl, r4, rfl⟩ k (fun y46 v49 F H W l0 O hP k => Exists.elim hP fun N47 hP => (have hW := hP.1; have hP := hP.2; have r4 := hP.1; have hP := hP.2; have O := NF.Fz.reW (hW.trans (NF.reS rfl rfl)) O; (have h48 := hP; have O := NF.Fz.unsel O (NF.apS NF.ap0) (List.Perm.trans (NF.mvS NF.mv0) (List.Perm.append_left _ (NF.mvS NF.mv0))); (have O : NF.Fz _ F H (N37 ++ (N33 ++ (N47 ++ ([]))) : List (Addr × HO)) := O; (have h_script := Enc.mono (eScr K) l0.le h_script; (have h15 := Enc.mono (eLst (eP6 eInt eChr eStr eInt eStr eInt)) l0.le h15; (have h19 := Enc.mono (eLst (eP5 eInt eChr eInt eStr eInt)) l0.le h19; (have h23 := Enc.mono (eR4 "count" eInt "begin" (eDT kIC (eP2 eStr eInt)) "end" (eDT kIC (eP2 eStr eInt)) "special" (eDT kICI (eP2 eStr eInt))) l0.le h23; (have h30 := Enc.mono (eRw mg) l0.le h30; (have r34 := Rsc.mono (rRwr mg) l0.le r34; (have r38 := Rsc.mono (rRwr mg) l0.le r38; (have h41 := Enc.mono (eR3 "nodes" (eLst (eP2 eInt eChr)) "mode" eInt "seen" eInt) l0.le h41; (have lF := Ex.trans lF l0; (NF.byI v49 h48 (NF.x_I0 (NF.x_nil (have c50 := k.1; have k := k.2; (NF.y_jR1 (F := F) c50 (fun J T => (NF.y_for (σt := (RrM) × Str × Str × (RrM) × ((List (Int × Nat)) × Int × Int)) (fun (s : (RrM) × Str × Str × (RrM) × ((List (Int × Nat)) × Int × Int)) (σ : L2.St) (F : Hp) (R : List (Addr × HO)) => (fun (z_one : RrM) (z_text : Str) (z_given : Str) (z_other : RrM) (z_state : (List (Int × Nat)) × Int × Int) => ∃ N_one : List (Addr × HO), ∃ N_other : List (Addr × HO), ∃ v_state : V, ∃ u13 : Option V, ∃ u14 : Option V, ∃ u15 : Option V, ∃ M_p1 : List (Addr × HO), σ = [some v_script, some (.ref p1), some (.str y5), some (.int ((1 : Int) + y9)), some v16, some v20, some v22, some v29, some (.ref p31), some (.ref p35), some v_state, some (.str z_text), some (.str z_given), u13, u14, u15, none, none] ∧ R = (N_other ++ (N_one ++ (M_p1 ++ ([]))) : List (Addr × HO)) ∧ (rRwr mg).rep F p31 as32 N_one z_one ∧ (rRwr mg).rep F p35 as36 N_other z_other ∧ (eR3 "nodes" (eLst (eP2 eInt eChr)) "mode" eInt "seen" eInt).rep F v_state z_state ∧ rBx.rep F p1 as2 M_p1 ()) s.1 s.2.1 s.2.2.1 s.2.2.2.1 s.2.2.2.2) T (by rintro ⟨z_one, z_text, z_given, z_other, z_state⟩ _ _ _ ⟨N_one, N_other, v_state, u13, u14, u15, M_p1, rfl, rfl, r_one, r_other, h_state, hb_p1⟩; first | trivial | simp) O k ⟨_, _, _, _, _, _, _, rfl, rfl, r34, r38, h41, r4⟩ ?_ ?_)))))))))))))))))))))))))))))))))
    · rintro x52 r ⟨z_one, z_text, z_given, z_other, z_state⟩ _ F0 F _ H v53 lp51 ⟨N_one, N_other, v_state, u13, u14, u15, M_p1, rfl, rfl, r_one, r_other, h_state, hb_p1⟩ l1 O h54 k
      have lp51 := Ex.trans lp51 l1
      have h_script := Enc.mono (eScr K) lp51.le h_script
      have h15 := Enc.mono (eLst (eP6 eInt eChr eStr eInt eStr eInt)) lp51.le h15
      have h19 := Enc.mono (eLst (eP5 eInt eChr eInt eStr eInt)) lp51.le h19
      have h23 := Enc.mono (eR4 "count" eInt "begin" (eDT kIC (eP2 eStr eInt)) "end" (eDT kIC (eP2 eStr eInt)) "special" (eDT kICI (eP2 eStr eInt))) lp51.le h23
      have h30 := Enc.mono (eRw mg) lp51.le h30
      have h41 := Enc.mono (eR3 "nodes" (eLst (eP2 eInt eChr)) "mode" eInt "seen" eInt) lp51.le h41
      have r_one := Rsc.mono (rRwr mg) l1.le r_one
      have r_other := Rsc.mono (rRwr mg) l1.le r_other
      have h_state := Enc.mono (eR3 "nodes" (eLst (eP2 eInt eChr)) "mode" eInt "seen" eInt) l1.le h_state
      have hb_p1 := Rsc.mono rBx l1.le hb_p1
      have lF := Ex.trans lF lp51
      cases h54
      refine NF.x_name ?_
      refine (NF.x_seq (NF.x_asg (NF.x_call (NF.x_cons (NF.x_var rfl (NF.x_cons (NF.x_var rfl (NF.x_cons (NF.x_var rfl (NF.x_nil (NF.use_spWm (i := (y5, z_state)) (p1, as2) (NF.Fz.sel O (NF.mvS (NF.mvS NF.mv0)) (NF.apS NF.ap0)) rfl ⟨_, _, rfl, _, rfl, hb_p1, rfl, h_state⟩ k (fun y55 v58 F H W l0 O hP k => Exists.elim hP fun N56 hP => (have hW := hP.1; have hP := hP.2; have hb_p1 := hP.1; have hP := hP.2; have O := NF.Fz.reW (hW.trans (NF.reS rfl rfl)) O; (have h57 := hP; have O := NF.Fz.unsel O (NF.apS NF.ap0) (List.Perm.trans (NF.mvS NF.mv0) (List.Perm.append_left _ (NF.mvS NF.mv0))); (have O : NF.Fz _ F H (N_other ++ (N_one ++ (N56 ++ ([]))) : List (Addr × HO)) := O; (have h_script := Enc.mono (eScr K) l0.le h_script; (have h15 := Enc.mono (eLst (eP6 eInt eChr eStr eInt eStr eInt)) l0.le h15; (have h19 := Enc.mono (eLst (eP5 eInt eChr eInt eStr eInt)) l0.le h19; (have h23 := Enc.mono (eR4 "count" eInt "begin" (eDT kIC (eP2 eStr eInt)) "end" (eDT kIC (eP2 eStr eInt)) "special" (eDT kICI (eP2 eStr eInt))) l0.le h23; (have h30 := Enc.mono (eRw mg) l0.le h30; (have r_one := Rsc.mono (rRwr mg) l0.le r_one; (have r_other := Rsc.mono (rRwr mg) l0.le r_other; (have h_state := Enc.mono (eR3 "nodes" (eLst (eP2 eInt eChr)) "mode" eInt "seen" eInt) l0.le h_state; (have lF := Ex.trans lF l0; (have lp51 := Ex.trans lp51 l0; (NF.byS v58 h57 (NF.x_name ?_)))))))))))))))))))))))))))
      refine (NF.x_seq (NF.x_asg (NF.x_call (NF.x_cons (NF.x_var rfl (NF.x_cons (NF.x_var rfl (NF.x_cons (NF.x_var rfl (NF.x_nil (NF.use_spW (i := (y21, z_state, y55)) O rfl ⟨_, _, _, rfl, h23, h_state, rfl⟩ k (fun y59 v60 F H l0 O h61 k => (have h_script := Enc.mono (eScr K) l0.le h_script; (have h15 := Enc.mono (eLst (eP6 eInt eChr eStr eInt eStr eInt)) l0.le h15; (have h19 := Enc.mono (eLst (eP5 eInt eChr eInt eStr eInt)) l0.le h19; (have h23 := Enc.mono (eR4 "count" eInt "begin" (eDT kIC (eP2 eStr eInt)) "end" (eDT kIC (eP2 eStr eInt)) "special" (eDT kICI (eP2 eStr eInt))) l0.le h23; (have h30 := Enc.mono (eRw mg) l0.le h30; (have r_one := Rsc.mono (rRwr mg) l0.le r_one; (have r_other := Rsc.mono (rRwr mg) l0.le r_other; (have h_state := Enc.mono (eR3 "nodes" (eLst (eP2 eInt eChr)) "mode" eInt "seen" eInt) l0.le h_state; (have hb_p1 := Rsc.mono rBx l0.le hb_p1; (have lF := Ex.trans lF l0; (have lp51 := Ex.trans lp51 l0; (NF.x_name ?_))))))))))))))))))))))))
      refine (NF.x_seq (NF.x_ifs (NF.x_not (NF.x_B (NF.x_call (NF.x_cons (NF.x_var rfl (NF.x_cons (NF.x_var rfl (NF.x_cons (NF.x_var rfl (NF.x_nil (NF.use_spWm (i := (z_one, y55, y59)) (p31, as32) (NF.Fz.sel O (NF.mvS NF.mv0) (NF.apS NF.ap0)) rfl ⟨_, _, rfl, _, rfl, r_one, rfl, h61⟩ k (fun y62 v65 F H W l0 O hP k => Exists.elim hP fun N63 hP => (have hW := hP.1; have hP := hP.2; have r_one := hP.1; have hP := hP.2; have O := NF.Fz.reW (hW.trans (NF.reS rfl rfl)) O; (have h64 := hP; have O := NF.Fz.unsel O (NF.apS NF.ap0) (NF.mvS NF.mv0); (have O : NF.Fz _ F H (N_other ++ (N63 ++ (N56 ++ ([]))) : List (Addr × HO)) := O; (have h_script := Enc.mono (eScr K) l0.le h_script; (have h15 := Enc.mono (eLst (eP6 eInt eChr eStr eInt eStr eInt)) l0.le h15; (have h19 := Enc.mono (eLst (eP5 eInt eChr eInt eStr eInt)) l0.le h19; (have h23 := Enc.mono (eR4 "count" eInt "begin" (eDT kIC (eP2 eStr eInt)) "end" (eDT kIC (eP2 eStr eInt)) "special" (eDT kICI (eP2 eStr eInt))) l0.le h23; (have h30 := Enc.mono (eRw mg) l0.le h30; (have r_other := Rsc.mono (rRwr mg) l0.le r_other; (have h_state := Enc.mono (eR3 "nodes" (eLst (eP2 eInt eChr)) "mode" eInt "seen" eInt) l0.le h_state; (have hb_p1 := Rsc.mono rBx l0.le hb_p1; (have h61 := Enc.mono (eP3 eInt (eLst eStr) (eR3 "nodes" (eLst (eP2 eInt eChr)) "mode" eInt "seen" eInt)) l0.le h61; (have lF := Ex.trans lF l0; (have lp51 := Ex.trans lp51 l0; (NF.byB v65 h64 (NF.x_bl (NF.x_itb (fun g99 => (have k := k.1 g99; ?n100)) (fun g99 => (have k := k.2 g99; ?n101)))))))))))))))))))))))))))))))))
      case n100 =>
        exact (NF.x_ret (NF.x_c (q false k _ _ _ O.leB O.leF lF rfl)))
      case n101 =>
        refine NF.x_next ?_
        refine (NF.x_seq (NF.x_ifs (NF.x_test (NF.x_op (NF.x_op (NF.x_var rfl (NF.x_c (NF.y_ix30 O.leF h61 (fun u hu => NF.byI u hu (NF.x_c (NF.x_I0 (NF.x_bl (NF.x_itb (fun g96 => (have k := k.1 g96; ?n97)) (fun g96 => (have k := k.2 g96; ?n98)))))))))))))))
        case n97 =>
          refine (NF.x_seq (NF.x_ifs (NF.x_not (NF.x_B (NF.x_call (NF.x_cons (NF.x_var rfl (NF.x_cons (NF.x_var rfl (NF.x_cons (NF.x_var rfl (NF.x_nil (NF.use_spWm (i := (z_other, y55, y59)) (p35, as36) (NF.Fz.sel O (List.Perm.refl _) (NF.apS NF.ap0)) rfl ⟨_, _, rfl, _, rfl, r_other, rfl, h61⟩ k (fun y66 v69 F H W l0 O hP k => Exists.elim hP fun N67 hP => (have hW := hP.1; have hP := hP.2; have r_other := hP.1; have hP := hP.2; have O := NF.Fz.reW (hW.trans (NF.reS rfl rfl)) O; (have h68 := hP; have O := NF.Fz.unsel O (NF.apS NF.ap0) (List.Perm.refl _); (have O : NF.Fz _ F H (N67 ++ (N63 ++ (N56 ++ ([]))) : List (Addr × HO)) := O; (have h_script := Enc.mono (eScr K) l0.le h_script; (have h15 := Enc.mono (eLst (eP6 eInt eChr eStr eInt eStr eInt)) l0.le h15; (have h19 := Enc.mono (eLst (eP5 eInt eChr eInt eStr eInt)) l0.le h19; (have h23 := Enc.mono (eR4 "count" eInt "begin" (eDT kIC (eP2 eStr eInt)) "end" (eDT kIC (eP2 eStr eInt)) "special" (eDT kICI (eP2 eStr eInt))) l0.le h23; (have h30 := Enc.mono (eRw mg) l0.le h30; (have r_one := Rsc.mono (rRwr mg) l0.le r_one; (have h_state := Enc.mono (eR3 "nodes" (eLst (eP2 eInt eChr)) "mode" eInt "seen" eInt) l0.le h_state; (have hb_p1 := Rsc.mono rBx l0.le hb_p1; (have h61 := Enc.mono (eP3 eInt (eLst eStr) (eR3 "nodes" (eLst (eP2 eInt eChr)) "mode" eInt "seen" eInt)) l0.le h61; (have lF := Ex.trans lF l0; (have lp51 := Ex.trans lp51 l0; (NF.byB v69 h68 (NF.x_bl (NF.x_itb (fun g84 => (have k := k.1 g84; ?n85)) (fun g84 => (have k := k.2 g84; ?n86)))))))))))))))))))))))))))))))))
          case n85 =>
            exact (NF.x_ret (NF.x_c (q false k _ _ _ O.leB O.leF lF rfl)))
          case n86 =>
            refine NF.x_next ?_
            refine (NF.x_seq (NF.x_asg (NF.x_op (NF.x_var rfl (NF.x_var rfl (have c70 := k.1; have k := k.2; (NF.x_addS c70 (NF.x_name ?_))))))))
            refine (NF.x_asg (NF.x_op (NF.x_var rfl (NF.x_bm (NF.x_c (NF.x_tyS (NF.x_cons (NF.x_op (NF.x_var rfl (NF.x_c (NF.y_ix31 O.leF h61 (fun v71 h72 => (NF.x_nil (have c73 := k.1; have k := k.2; (NF.y_joinL O.leF h72 c73 (have c74 := k.1; have k := k.2; (NF.x_addS c74 (NF.x_name ?_))))))))))))))))))
            refine (NF.x_seq (NF.x_asg (NF.x_op (NF.x_var rfl (NF.x_c (NF.y_ix32 O.leF h61 (fun v75 h76 => (NF.x_name ?_))))))))
            refine (NF.x_ifs (NF.x_not (NF.x_B (NF.x_call (NF.x_cons (NF.x_var rfl (NF.x_cons (NF.x_var rfl (NF.x_nil (Exists.elim (NF.rwr_view O r_other) fun _ hG => (have g1 := hG.1; have hr := hG.2.2; (NF.use_spWvF (i := (y66.2, y59.2.2)) O hG.2.1 rfl ⟨_, _, rfl, hr, (Enc.mono _ g1 h76)⟩ k (fun y78 v79 _ H h80 O k => (have O : NF.Fz _ F H (N67 ++ (N63 ++ (N56 ++ ([]))) : List (Addr × HO)) := O; NF.byB v79 h80 (NF.x_bl (NF.x_itb (fun g81 => (have k := k.1 g81; ?n82)) (fun g81 => (have k := k.2 g81; ?n83))))))))))))))))))
            case n82 =>
              exact (NF.x_ret (NF.x_c (q false k _ _ _ O.leB O.leF lF rfl)))
            case n83 =>
              refine NF.x_next ?_
              exact ⟨(y62.2, (z_text ++ y55), (z_given ++ (Txt.join (Str.ofString "") y59.2.1)), y66.2, y59.2.2), _, _, lp51, O, ⟨_, _, _, _, _, _, _, rfl, rfl, r_one, r_other, h76, hb_p1⟩, k⟩
        case n98 =>
          refine NF.x_next ?_
          refine (NF.x_seq (NF.x_asg (NF.x_op (NF.x_var rfl (NF.x_c (NF.y_ix32 O.leF h61 (fun v87 h88 => (NF.x_name ?_))))))))
          refine (NF.x_ifs (NF.x_not (NF.x_B (NF.x_call (NF.x_cons (NF.x_var rfl (NF.x_cons (NF.x_var rfl (NF.x_nil (Exists.elim (NF.rwr_view O r_other) fun _ hG => (have g1 := hG.1; have hr := hG.2.2; (NF.use_spWvF (i := (z_other, y59.2.2)) O hG.2.1 rfl ⟨_, _, rfl, hr, (Enc.mono _ g1 h88)⟩ k (fun y90 v91 _ H h92 O k => (have O : NF.Fz _ F H (N_other ++ (N63 ++ (N56 ++ ([]))) : List (Addr × HO)) := O; NF.byB v91 h92 (NF.x_bl (NF.x_itb (fun g93 => (have k := k.1 g93; ?n94)) (fun g93 => (have k := k.2 g93; ?n95))))))))))))))))))
          case n94 =>
            exact (NF.x_ret (NF.x_c (q false k _ _ _ O.leB O.leF lF rfl)))
          case n95 =>
            refine NF.x_next ?_
            exact ⟨(y62.2, z_text, z_given, z_other, y59.2.2), _, _, lp51, O, ⟨_, _, _, _, _, _, _, rfl, rfl, r_one, r_other, h88, hb_p1⟩, k⟩
    · rintro ⟨z_one, z_text, z_given, z_other, z_state⟩ _ F _ H l0 O ⟨N_one, N_other, v_state, u13, u14, u15, M_p1, rfl, rfl, r_one, r_other, h_state, hb_p1⟩ k
      have h_script := Enc.mono (eScr K) l0.le h_script
      have h15 := Enc.mono (eLst (eP6 eInt eChr eStr eInt eStr eInt)) l0.le h15
      have h19 := Enc.mono (eLst (eP5 eInt eChr eInt eStr eInt)) l0.le h19
      have h23 := Enc.mono (eR4 "count" eInt "begin" (eDT kIC (eP2 eStr eInt)) "end" (eDT kIC (eP2 eStr eInt)) "special" (eDT kICI (eP2 eStr eInt))) l0.le h23
      have h30 := Enc.mono (eRw mg) l0.le h30
      have h41 := Enc.mono (eR3 "nodes" (eLst (eP2 eInt eChr)) "mode" eInt "seen" eInt) l0.le h41
      have lF := Ex.trans lF l0
      refine (NF.x_seq (NF.x_asg (NF.x_call (NF.x_cons (NF.x_lc (NF.x_jL (NF.x_dget (NF.x_var rfl (NF.x_c (NF.y_rix30 O.leF h_state (fun _ _ _ => rfl) (fun v102 h103 => (NF.y_jL O.leF h103 (fun J T => (NF.y_comp (er := eStr) (fun F R => ∃ N_other : List (Addr × HO), ∃ N_one : List (Addr × HO), ∃ M_p1 : List (Addr × HO), R = (N_other ++ (N_one ++ (M_p1 ++ ([]))) : List (Addr × HO)) ∧ (rRwr mg).rep F p35 as36 N_other z_other ∧ (rRwr mg).rep F p31 as32 N_one z_one ∧ rBx.rep F p1 as2 M_p1 ()) T (by rintro _ _ ⟨N_other, N_one, M_p1, rfl, r_other, r_one, hb_p1⟩; first | trivial | simp) O k.2 k.1 ⟨_, _, _, rfl, r_other, r_one, hb_p1⟩ (fun i x104 r pc110 acc108 at109 F0 F R H v105 hi lc107 hI ra111 hl l1 O h106 k => match R, hI, O with | _, ⟨N_other, N_one, M_p1, rfl, r_other, r_one, hb_p1⟩, O => (have O : NF.Fz _ F H ([(pc110, HO.lst acc108)] ++ N_other ++ (N_one ++ (M_p1 ++ ([])))) := O; (have r_other := Rsc.mono (rRwr mg) l1.le r_other; (have r_one := Rsc.mono (rRwr mg) l1.le r_one; (have hb_p1 := Rsc.mono rBx l1.le hb_p1; (have lc107 := Ex.trans lc107 l1; (have ra111 := ra111.mono fun _ _ => Enc.mono eStr l1.le; (have h_script := Enc.mono (eScr K) lc107.le h_script; (have h15 := Enc.mono (eLst (eP6 eInt eChr eStr eInt eStr eInt)) lc107.le h15; (have h19 := Enc.mono (eLst (eP5 eInt eChr eInt eStr eInt)) lc107.le h19; (have h23 := Enc.mono (eR4 "count" eInt "begin" (eDT kIC (eP2 eStr eInt)) "end" (eDT kIC (eP2 eStr eInt)) "special" (eDT kICI (eP2 eStr eInt))) lc107.le h23; (have h30 := Enc.mono (eRw mg) lc107.le h30; (have h_state := Enc.mono (eR3 "nodes" (eLst (eP2 eInt eChr)) "mode" eInt "seen" eInt) lc107.le h_state; (have h103 := Enc.mono (eLst (eP2 eInt eChr)) lc107.le h103; (have lF := Ex.trans lF lc107; (NF.x_name ⟨NF.set_wipe _ _ _, (NF.x_yes (NF.x_tt (NF.x_op (NF.x_var rfl (NF.x_c (NF.y_ix21 O.leF h106 (fun u hu => NF.byC u hu (NF.cE_mk (R' := N_other ++ (N_one ++ (M_p1 ++ ([])))) hi lc107 ⟨_, _, _, rfl, r_other, r_one, hb_p1⟩ O ra111 hl rfl k))))))))⟩)))))))))))))))) (fun p114 F R vs113 y112 H l0 hI O ra115 k => match R, hI, O with | _, ⟨N_other, N_one, M_p1, rfl, r_other, r_one, hb_p1⟩, O => (have h_script := Enc.mono (eScr K) l0.le h_script; (have h15 := Enc.mono (eLst (eP6 eInt eChr eStr eInt eStr eInt)) l0.le h15; (have h19 := Enc.mono (eLst (eP5 eInt eChr eInt eStr eInt)) l0.le h19; (have h23 := Enc.mono (eR4 "count" eInt "begin" (eDT kIC (eP2 eStr eInt)) "end" (eDT kIC (eP2 eStr eInt)) "special" (eDT kICI (eP2 eStr eInt))) l0.le h23; (have h30 := Enc.mono (eRw mg) l0.le h30; (have h_state := Enc.mono (eR3 "nodes" (eLst (eP2 eInt eChr)) "mode" eInt "seen" eInt) l0.le h_state; (have h103 := Enc.mono (eLst (eP2 eInt eChr)) l0.le h103; (have lF := Ex.trans lF l0; (NF.y_frz O 0 rfl (fun F l0 hp O => (have O : NF.Fz _ F H (N_other ++ (N_one ++ (M_p1 ++ ([]))) : List (Addr × HO)) := O; (have h_script := Enc.mono (eScr K) l0.le h_script; (have h15 := Enc.mono (eLst (eP6 eInt eChr eStr eInt eStr eInt)) l0.le h15; (have h19 := Enc.mono (eLst (eP5 eInt eChr eInt eStr eInt)) l0.le h19; (have h23 := Enc.mono (eR4 "count" eInt "begin" (eDT kIC (eP2 eStr eInt)) "end" (eDT kIC (eP2 eStr eInt)) "special" (eDT kICI (eP2 eStr eInt))) l0.le h23; (have h30 := Enc.mono (eRw mg) l0.le h30; (have r_one := Rsc.mono (rRwr mg) l0.le r_one; (have r_other := Rsc.mono (rRwr mg) l0.le r_other; (have h_state := Enc.mono (eR3 "nodes" (eLst (eP2 eInt eChr)) "mode" eInt "seen" eInt) l0.le h_state; (have hb_p1 := Rsc.mono rBx l0.le hb_p1; (have h103 := Enc.mono (eLst (eP2 eInt eChr)) l0.le h103; (have lF := Ex.trans lF l0; (have h116 : (eLst eStr).rep F (.ref p114) y112 := ⟨_, _, rfl, hp, ra115.mono fun _ _ => Enc.mono eStr l0.le⟩; (NF.x_nil (NF.use_spW (i := y112) O rfl ⟨_, rfl, h116⟩ k (fun y117 v F H l0 O hv k => NF.byS v hv (have h_script := Enc.mono (eScr K) l0.le h_script; (have h15 := Enc.mono (eLst (eP6 eInt eChr eStr eInt eStr eInt)) l0.le h15; (have h19 := Enc.mono (eLst (eP5 eInt eChr eInt eStr eInt)) l0.le h19; (have h23 := Enc.mono (eR4 "count" eInt "begin" (eDT kIC (eP2 eStr eInt)) "end" (eDT kIC (eP2 eStr eInt)) "special" (eDT kICI (eP2 eStr eInt))) l0.le h23; (have h30 := Enc.mono (eRw mg) l0.le h30; (have r_one := Rsc.mono (rRwr mg) l0.le r_one; (have r_other := Rsc.mono (rRwr mg) l0.le r_other; (have h_state := Enc.mono (eR3 "nodes" (eLst (eP2 eInt eChr)) "mode" eInt "seen" eInt) l0.le h_state; (have hb_p1 := Rsc.mono rBx l0.le hb_p1; (have h103 := Enc.mono (eLst (eP2 eInt eChr)) l0.le h103; (have h116 := Enc.mono (eLst eStr) l0.le h116; (have lF := Ex.trans lF l0; (NF.x_name ?_))))))))))))))))))))))))))))))))))))))))))))))))))))))
      refine (NF.x_seq (NF.x_asg (NF.x_call (NF.x_cons (NF.x_var rfl (NF.x_cons (NF.x_var rfl (NF.x_cons (NF.x_var rfl (NF.x_nil (NF.use_spW (i := (y21, z_state, y117)) O rfl ⟨_, _, _, rfl, h23, h_state, rfl⟩ k (fun y118 v119 F H l0 O h120 k => (have h_script := Enc.mono (eScr K) l0.le h_script; (have h15 := Enc.mono (eLst (eP6 eInt eChr eStr eInt eStr eInt)) l0.le h15; (have h19 := Enc.mono (eLst (eP5 eInt eChr eInt eStr eInt)) l0.le h19; (have h23 := Enc.mono (eR4 "count" eInt "begin" (eDT kIC (eP2 eStr eInt)) "end" (eDT kIC (eP2 eStr eInt)) "special" (eDT kICI (eP2 eStr eInt))) l0.le h23; (have h30 := Enc.mono (eRw mg) l0.le h30; (have r_one := Rsc.mono (rRwr mg) l0.le r_one; (have r_other := Rsc.mono (rRwr mg) l0.le r_other; (have h_state := Enc.mono (eR3 "nodes" (eLst (eP2 eInt eChr)) "mode" eInt "seen" eInt) l0.le h_state; (have hb_p1 := Rsc.mono rBx l0.le hb_p1; (have lF := Ex.trans lF l0; (NF.x_name ?_)))))))))))))))))))))))
      refine (NF.x_seq (NF.x_ifs (NF.x_or (NF.x_not (NF.x_B (NF.x_call (NF.x_cons (NF.x_var rfl (NF.x_cons (NF.x_var rfl (NF.x_cons (NF.x_var rfl (NF.x_nil (NF.use_spWm (i := (z_one, y117, y118)) (p31, as32) (NF.Fz.sel O (NF.mvS NF.mv0) (NF.apS NF.ap0)) rfl ⟨_, _, rfl, _, rfl, r_one, rfl, h120⟩ k (fun y121 v124 F H W l0 O hP k => Exists.elim hP fun N122 hP => (have hW := hP.1; have hP := hP.2; have r_one := hP.1; have hP := hP.2; have O := NF.Fz.reW (hW.trans (NF.reS rfl rfl)) O; (have h123 := hP; have O := NF.Fz.unsel O (NF.apS NF.ap0) (NF.mvS NF.mv0); (have O : NF.Fz _ F H (N_other ++ (N122 ++ (M_p1 ++ ([]))) : List (Addr × HO)) := O; (have h_script := Enc.mono (eScr K) l0.le h_script; (have h15 := Enc.mono (eLst (eP6 eInt eChr eStr eInt eStr eInt)) l0.le h15; (have h19 := Enc.mono (eLst (eP5 eInt eChr eInt eStr eInt)) l0.le h19; (have h23 := Enc.mono (eR4 "count" eInt "begin" (eDT kIC (eP2 eStr eInt)) "end" (eDT kIC (eP2 eStr eInt)) "special" (eDT kICI (eP2 eStr eInt))) l0.le h23; (have h30 := Enc.mono (eRw mg) l0.le h30; (have r_other := Rsc.mono (rRwr mg) l0.le r_other; (have h_state := Enc.mono (eR3 "nodes" (eLst (eP2 eInt eChr)) "mode" eInt "seen" eInt) l0.le h_state; (have hb_p1 := Rsc.mono rBx l0.le hb_p1; (have h120 := Enc.mono (eP3 eInt (eLst eStr) (eR3 "nodes" (eLst (eP2 eInt eChr)) "mode" eInt "seen" eInt)) l0.le h120; (have lF := Ex.trans lF l0; (NF.byB v124 h123 (NF.x_bl (NF.x_itb (fun g217 => (have k := k.1 g217; (NF.x_tt ?n218))) (fun g217 => (have k := k.2 g217; (NF.x_not (NF.x_B (NF.x_call (NF.x_cons (NF.x_var rfl (NF.x_cons (NF.x_var rfl (NF.x_cons (NF.x_var rfl (NF.x_nil (NF.use_spWm (i := (z_other, y117, y118)) (p35, as36) (NF.Fz.sel O (List.Perm.refl _) (NF.apS NF.ap0)) rfl ⟨_, _, rfl, _, rfl, r_other, rfl, h120⟩ k (fun y125 v128 F H W l0 O hP k => Exists.elim hP fun N126 hP => (have hW := hP.1; have hP := hP.2; have r_other := hP.1; have hP := hP.2; have O := NF.Fz.reW (hW.trans (NF.reS rfl rfl)) O; (have h127 := hP; have O := NF.Fz.unsel O (NF.apS NF.ap0) (List.Perm.refl _); (have O : NF.Fz _ F H (N126 ++ (N122 ++ (M_p1 ++ ([]))) : List (Addr × HO)) := O; (have h_script := Enc.mono (eScr K) l0.le h_script; (have h15 := Enc.mono (eLst (eP6 eInt eChr eStr eInt eStr eInt)) l0.le h15; (have h19 := Enc.mono (eLst (eP5 eInt eChr eInt eStr eInt)) l0.le h19; (have h23 := Enc.mono (eR4 "count" eInt "begin" (eDT kIC (eP2 eStr eInt)) "end" (eDT kIC (eP2 eStr eInt)) "special" (eDT kICI (eP2 eStr eInt))) l0.le h23; (have h30 := Enc.mono (eRw mg) l0.le h30; (have r_one := Rsc.mono (rRwr mg) l0.le r_one; (have h_state := Enc.mono (eR3 "nodes" (eLst (eP2 eInt eChr)) "mode" eInt "seen" eInt) l0.le h_state; (have hb_p1 := Rsc.mono rBx l0.le hb_p1; (have h120 := Enc.mono (eP3 eInt (eLst eStr) (eR3 "nodes" (eLst (eP2 eInt eChr)) "mode" eInt "seen" eInt)) l0.le h120; (have lF := Ex.trans lF l0; (NF.byB v128 h127 (NF.x_bl (NF.x_itb (fun g216 => (have k := k.1 g216; ?n219)) (fun g216 => (have k := k.2 g216; ?n220)))))))))))))))))))))))))))))))))))))))))))))))))))))))))))))))
      case n218 =>
        exact (NF.x_ret (NF.x_c (q false k _ _ _ O.leB O.leF lF rfl)))
      case n219 =>
        exact (NF.x_ret (NF.x_c (q false k _ _ _ O.leB O.leF lF rfl)))
      case n220 =>
        refine NF.x_next ?_
        refine (NF.x_seq (NF.x_ifs (NF.x_and (NF.x_test (NF.x_op (NF.x_call (NF.x_cons (NF.x_var rfl (NF.x_cons (NF.x_c (NF.x_nil (NF.use_spWm (i := (8 : Int)) (p1, as2) (NF.Fz.sel O (NF.mvS (NF.mvS NF.mv0)) (NF.apS NF.ap0)) rfl ⟨_, rfl, _, rfl, hb_p1, rfl⟩ k (fun y129 v132 F H W l0 O hP k => Exists.elim hP fun N130 hP => (have hW := hP.1; have hP := hP.2; have hb_p1 := hP.1; have hP := hP.2; have O := NF.Fz.reW (hW.trans (NF.reS rfl rfl)) O; (have h131 := hP; have O := NF.Fz.unsel O (NF.apS NF.ap0) (List.Perm.trans (NF.mvS NF.mv0) (List.Perm.append_left _ (NF.mvS NF.mv0))); (have O : NF.Fz _ F H (N126 ++ (N122 ++ (N130 ++ ([]))) : List (Addr × HO)) := O; (have h_script := Enc.mono (eScr K) l0.le h_script; (have h15 := Enc.mono (eLst (eP6 eInt eChr eStr eInt eStr eInt)) l0.le h15; (have h19 := Enc.mono (eLst (eP5 eInt eChr eInt eStr eInt)) l0.le h19; (have h23 := Enc.mono (eR4 "count" eInt "begin" (eDT kIC (eP2 eStr eInt)) "end" (eDT kIC (eP2 eStr eInt)) "special" (eDT kICI (eP2 eStr eInt))) l0.le h23; (have h30 := Enc.mono (eRw mg) l0.le h30; (have r_one := Rsc.mono (rRwr mg) l0.le r_one; (have r_other := Rsc.mono (rRwr mg) l0.le r_other; (have h_state := Enc.mono (eR3 "nodes" (eLst (eP2 eInt eChr)) "mode" eInt "seen" eInt) l0.le h_state; (have h120 := Enc.mono (eP3 eInt (eLst eStr) (eR3 "nodes" (eLst (eP2 eInt eChr)) "mode" eInt "seen" eInt)) l0.le h120; (have lF := Ex.trans lF l0; (NF.byI v132 h131 (NF.x_c (NF.y_eqI (NF.x_bl (NF.x_itb (fun g212 => (have k := k.1 g212; (NF.x_not (NF.x_B (NF.x_call (NF.x_cons (NF.x_var rfl (NF.x_cons (NF.x_var rfl (NF.x_cons (NF.x_var rfl (NF.x_cons (NF.x_var rfl (NF.x_nil (NF.use_spWm (i := (y5, y21, y28)) (p1, as2) (NF.Fz.sel O (NF.mvS (NF.mvS NF.mv0)) (NF.apS NF.ap0)) rfl ⟨_, _, _, rfl, _, rfl, hb_p1, rfl, h23, h30⟩ k (fun y133 v136 F H W l0 O hP k => Exists.elim hP fun N134 hP => (have hW := hP.1; have hP := hP.2; have hb_p1 := hP.1; have hP := hP.2; have O := NF.Fz.reW (hW.trans (NF.reS rfl rfl)) O; (have h135 := hP; have O := NF.Fz.unsel O (NF.apS NF.ap0) (List.Perm.trans (NF.mvS NF.mv0) (List.Perm.append_left _ (NF.mvS NF.mv0))); (have O : NF.Fz _ F H (N126 ++ (N122 ++ (N134 ++ ([]))) : List (Addr × HO)) := O; (have h_script := Enc.mono (eScr K) l0.le h_script; (have h15 := Enc.mono (eLst (eP6 eInt eChr eStr eInt eStr eInt)) l0.le h15; (have h19 := Enc.mono (eLst (eP5 eInt eChr eInt eStr eInt)) l0.le h19; (have h23 := Enc.mono (eR4 "count" eInt "begin" (eDT kIC (eP2 eStr eInt)) "end" (eDT kIC (eP2 eStr eInt)) "special" (eDT kICI (eP2 eStr eInt))) l0.le h23; (have h30 := Enc.mono (eRw mg) l0.le h30; (have r_one := Rsc.mono (rRwr mg) l0.le r_one; (have r_other := Rsc.mono (rRwr mg) l0.le r_other; (have h_state := Enc.mono (eR3 "nodes" (eLst (eP2 eInt eChr)) "mode" eInt "seen" eInt) l0.le h_state; (have h120 := Enc.mono (eP3 eInt (eLst eStr) (eR3 "nodes" (eLst (eP2 eInt eChr)) "mode" eInt "seen" eInt)) l0.le h120; (have lF := Ex.trans lF l0; (NF.byB v136 h135 (NF.x_bl (NF.x_itb (fun g174 => (have k := k.1 g174; ?n213)) (fun g174 => (have k := k.2 g174; ?n214)))))))))))))))))))))))))))))))))) (fun g212 => (have k := k.2 g212; (NF.x_ff ?n215))))))))))))))))))))))))))))))))))
        case n213 =>
          exact (NF.x_ret (NF.x_c (q false k _ _ _ O.leB O.leF lF rfl)))
        case n214 =>
          refine NF.x_next ?_
          refine (NF.x_seq (NF.x_asg (NF.x_op (NF.x_var rfl (NF.x_bm0 (NF.x_op (NF.x_var rfl (NF.x_c (have c137 := k.1; have k := k.2; (NF.y_ixS c137.1 c137.2 (NF.x_tyS (have c138 := k.1; have k := k.2; (NF.x_upper c138 (have c139 := k.1; have k := k.2; (NF.x_addS c139 (NF.x_name ?_))))))))))))))))
          refine (NF.x_seq (NF.x_ifs (NF.x_not (NF.x_B (NF.x_call (NF.x_cons (NF.x_var rfl (NF.x_cons (NF.x_bm0 (NF.x_op (NF.x_var rfl (NF.x_c (have c140 := k.1; have k := k.2; (NF.y_ixS c140.1 c140.2 (NF.x_tyS (have c141 := k.1; have k := k.2; (NF.x_upper c141 (NF.x_cons (NF.x_call (NF.x_cons (NF.x_var rfl (NF.x_cons (NF.x_op (NF.x_var rfl (NF.x_c (NF.y_ix32 O.leF h120 (fun v142 h143 => (NF.x_cons (NF.x_bm0 (NF.x_op (NF.x_var rfl (NF.x_c (have c144 := k.1; have k := k.2; (NF.y_ixS c144.1 c144.2 (NF.x_tyS (have c145 := k.1; have k := k.2; (NF.x_upper c145 (NF.x_nil (NF.use_spW (i := (y21, y118.2.2, (Txt.upper (sg (cS y5 (0 : Int)))))) O rfl ⟨_, _, _, rfl, h23, h143, rfl⟩ k (fun y146 v147 F H l0 O h148 k => (have h_script := Enc.mono (eScr K) l0.le h_script; (have h15 := Enc.mono (eLst (eP6 eInt eChr eStr eInt eStr eInt)) l0.le h15; (have h19 := Enc.mono (eLst (eP5 eInt eChr eInt eStr eInt)) l0.le h19; (have h23 := Enc.mono (eR4 "count" eInt "begin" (eDT kIC (eP2 eStr eInt)) "end" (eDT kIC (eP2 eStr eInt)) "special" (eDT kICI (eP2 eStr eInt))) l0.le h23; (have h30 := Enc.mono (eRw mg) l0.le h30; (have r_one := Rsc.mono (rRwr mg) l0.le r_one; (have r_other := Rsc.mono (rRwr mg) l0.le r_other; (have h_state := Enc.mono (eR3 "nodes" (eLst (eP2 eInt eChr)) "mode" eInt "seen" eInt) l0.le h_state; (have hb_p1 := Rsc.mono rBx l0.le hb_p1; (have h120 := Enc.mono (eP3 eInt (eLst eStr) (eR3 "nodes" (eLst (eP2 eInt eChr)) "mode" eInt "seen" eInt)) l0.le h120; (have h143 := Enc.mono (eR3 "nodes" (eLst (eP2 eInt eChr)) "mode" eInt "seen" eInt) l0.le h143; (have lF := Ex.trans lF l0; (NF.x_nil (NF.use_spWm (i := (y121.2, (Txt.upper (sg (cS y5 (0 : Int)))), y146)) (p31, as32) (NF.Fz.sel O (NF.mvS NF.mv0) (NF.apS NF.ap0)) rfl ⟨_, _, rfl, _, rfl, r_one, rfl, h148⟩ k (fun y149 v152 F H W l0 O hP k => Exists.elim hP fun N150 hP => (have hW := hP.1; have hP := hP.2; have r_one := hP.1; have hP := hP.2; have O := NF.Fz.reW (hW.trans (NF.reS rfl rfl)) O; (have h151 := hP; have O := NF.Fz.unsel O (NF.apS NF.ap0) (NF.mvS NF.mv0); (have O : NF.Fz _ F H (N126 ++ (N150 ++ (N134 ++ ([]))) : List (Addr × HO)) := O; (have h_script := Enc.mono (eScr K) l0.le h_script; (have h15 := Enc.mono (eLst (eP6 eInt eChr eStr eInt eStr eInt)) l0.le h15; (have h19 := Enc.mono (eLst (eP5 eInt eChr eInt eStr eInt)) l0.le h19; (have h23 := Enc.mono (eR4 "count" eInt "begin" (eDT kIC (eP2 eStr eInt)) "end" (eDT kIC (eP2 eStr eInt)) "special" (eDT kICI (eP2 eStr eInt))) l0.le h23; (have h30 := Enc.mono (eRw mg) l0.le h30; (have r_other := Rsc.mono (rRwr mg) l0.le r_other; (have h_state := Enc.mono (eR3 "nodes" (eLst (eP2 eInt eChr)) "mode" eInt "seen" eInt) l0.le h_state; (have hb_p1 := Rsc.mono rBx l0.le hb_p1; (have h120 := Enc.mono (eP3 eInt (eLst eStr) (eR3 "nodes" (eLst (eP2 eInt eChr)) "mode" eInt "seen" eInt)) l0.le h120; (have h143 := Enc.mono (eR3 "nodes" (eLst (eP2 eInt eChr)) "mode" eInt "seen" eInt) l0.le h143; (have h148 := Enc.mono (eP3 eInt (eLst eStr) (eR3 "nodes" (eLst (eP2 eInt eChr)) "mode" eInt "seen" eInt)) l0.le h148; (have lF := Ex.trans lF l0; (NF.byB v152 h151 (NF.x_bl (NF.x_itb (fun g171 => (have k := k.1 g171; ?n172)) (fun g171 => (have k := k.2 g171; ?n173)))))))))))))))))))))))))))))))))))))))))))))))))))))))))))))))))))))))))))
          case n172 =>
            exact (NF.x_ret (NF.x_c (q false k _ _ _ O.leB O.leF lF rfl)))
          case n173 =>
            refine NF.x_next ?_
            refine (NF.x_seq (NF.x_ifs (NF.x_not (NF.x_B (NF.x_call (NF.x_cons (NF.x_var rfl (NF.x_cons (NF.x_var rfl (NF.x_cons (NF.x_call (NF.x_cons (NF.x_var rfl (NF.x_cons (NF.x_op (NF.x_var rfl (NF.x_c (NF.y_ix32 O.leF h120 (fun v153 h154 => (NF.x_cons (NF.x_var rfl (NF.x_nil (NF.use_spW (i := (y21, y118.2.2, (y117 ++ (Txt.upper (sg (cS y5 (0 : Int))))))) O rfl ⟨_, _, _, rfl, h23, h154, rfl⟩ k (fun y155 v156 F H l0 O h157 k => (have h_script := Enc.mono (eScr K) l0.le h_script; (have h15 := Enc.mono (eLst (eP6 eInt eChr eStr eInt eStr eInt)) l0.le h15; (have h19 := Enc.mono (eLst (eP5 eInt eChr eInt eStr eInt)) l0.le h19; (have h23 := Enc.mono (eR4 "count" eInt "begin" (eDT kIC (eP2 eStr eInt)) "end" (eDT kIC (eP2 eStr eInt)) "special" (eDT kICI (eP2 eStr eInt))) l0.le h23; (have h30 := Enc.mono (eRw mg) l0.le h30; (have r_one := Rsc.mono (rRwr mg) l0.le r_one; (have r_other := Rsc.mono (rRwr mg) l0.le r_other; (have h_state := Enc.mono (eR3 "nodes" (eLst (eP2 eInt eChr)) "mode" eInt "seen" eInt) l0.le h_state; (have hb_p1 := Rsc.mono rBx l0.le hb_p1; (have h120 := Enc.mono (eP3 eInt (eLst eStr) (eR3 "nodes" (eLst (eP2 eInt eChr)) "mode" eInt "seen" eInt)) l0.le h120; (have h154 := Enc.mono (eR3 "nodes" (eLst (eP2 eInt eChr)) "mode" eInt "seen" eInt) l0.le h154; (have lF := Ex.trans lF l0; (NF.x_nil (NF.use_spWm (i := (y125.2, (y117 ++ (Txt.upper (sg (cS y5 (0 : Int))))), y155)) (p35, as36) (NF.Fz.sel O (List.Perm.refl _) (NF.apS NF.ap0)) rfl ⟨_, _, rfl, _, rfl, r_other, rfl, h157⟩ k (fun y158 v161 F H W l0 O hP k => Exists.elim hP fun N159 hP => (have hW := hP.1; have hP := hP.2; have r_other := hP.1; have hP := hP.2; have O := NF.Fz.reW (hW.trans (NF.reS rfl rfl)) O; (have h160 := hP; have O := NF.Fz.unsel O (NF.apS NF.ap0) (List.Perm.refl _); (have O : NF.Fz _ F H (N159 ++ (N150 ++ (N134 ++ ([]))) : List (Addr × HO)) := O; (have h_script := Enc.mono (eScr K) l0.le h_script; (have h15 := Enc.mono (eLst (eP6 eInt eChr eStr eInt eStr eInt)) l0.le h15; (have h19 := Enc.mono (eLst (eP5 eInt eChr eInt eStr eInt)) l0.le h19; (have h23 := Enc.mono (eR4 "count" eInt "begin" (eDT kIC (eP2 eStr eInt)) "end" (eDT kIC (eP2 eStr eInt)) "special" (eDT kICI (eP2 eStr eInt))) l0.le h23; (have h30 := Enc.mono (eRw mg) l0.le h30; (have r_one := Rsc.mono (rRwr mg) l0.le r_one; (have h_state := Enc.mono (eR3 "nodes" (eLst (eP2 eInt eChr)) "mode" eInt "seen" eInt) l0.le h_state; (have hb_p1 := Rsc.mono rBx l0.le hb_p1; (have h120 := Enc.mono (eP3 eInt (eLst eStr) (eR3 "nodes" (eLst (eP2 eInt eChr)) "mode" eInt "seen" eInt)) l0.le h120; (have h154 := Enc.mono (eR3 "nodes" (eLst (eP2 eInt eChr)) "mode" eInt "seen" eInt) l0.le h154; (have h157 := Enc.mono (eP3 eInt (eLst eStr) (eR3 "nodes" (eLst (eP2 eInt eChr)) "mode" eInt "seen" eInt)) l0.le h157; (have lF := Ex.trans lF l0; (NF.byB v161 h160 (NF.x_bl (NF.x_itb (fun g168 => (have k := k.1 g168; ?n169)) (fun g168 => (have k := k.2 g168; ?n170)))))))))))))))))))))))))))))))))))))))))))))))))))))))))))
            case n169 =>
              exact (NF.x_ret (NF.x_c (q false k _ _ _ O.leB O.leF lF rfl)))
            case n170 =>
              refine NF.x_next ?_
              exact (NF.x_ret (NF.x_call (NF.x_cons (NF.x_var rfl (NF.x_cons (NF.x_var rfl (NF.x_cons (NF.x_op (NF.x_var rfl (NF.x_var rfl (have c162 := k.1; have k := k.2; (NF.x_addS c162 (NF.x_cons (NF.x_op (NF.x_var rfl (NF.x_bm (NF.x_c (NF.x_tyS (NF.x_cons (NF.x_op (NF.x_var rfl (NF.x_c (NF.y_ix31 O.leF h120 (fun v163 h164 => (NF.x_nil (have c165 := k.1; have k := k.2; (NF.y_joinL O.leF h164 c165 (have c166 := k.1; have k := k.2; (NF.x_addS c166 (NF.x_nil (NF.use_spW (i := (y21, y28, (z_text ++ y117), (z_given ++ (Txt.join (Str.ofString "") y118.2.1)))) O rfl ⟨_, _, _, _, rfl, h23, h30, rfl, rfl⟩ k (fun y167 v F H l0 O hv k => NF.byB v hv (have h_script := Enc.mono (eScr K) l0.le h_script; (have h15 := Enc.mono (eLst (eP6 eInt eChr eStr eInt eStr eInt)) l0.le h15; (have h19 := Enc.mono (eLst (eP5 eInt eChr eInt eStr eInt)) l0.le h19; (have h23 := Enc.mono (eR4 "count" eInt "begin" (eDT kIC (eP2 eStr eInt)) "end" (eDT kIC (eP2 eStr eInt)) "special" (eDT kICI (eP2 eStr eInt))) l0.le h23; (have h30 := Enc.mono (eRw mg) l0.le h30; (have r_one := Rsc.mono (rRwr mg) l0.le r_one; (have r_other := Rsc.mono (rRwr mg) l0.le r_other; (have h_state := Enc.mono (eR3 "nodes" (eLst (eP2 eInt eChr)) "mode" eInt "seen" eInt) l0.le h_state; (have hb_p1 := Rsc.mono rBx l0.le hb_p1; (have h120 := Enc.mono (eP3 eInt (eLst eStr) (eR3 "nodes" (eLst (eP2 eInt eChr)) "mode" eInt "seen" eInt)) l0.le h120; (have h164 := Enc.mono (eLst eStr) l0.le h164; (have lF := Ex.trans lF l0; (q y167 k _ _ _ O.leB O.leF lF rfl)))))))))))))))))))))))))))))))))))))))))))))
        case n215 =>
          refine NF.x_next ?_
          refine (NF.x_seq (NF.x_asg (NF.x_op (NF.x_var rfl (NF.x_bm0 (NF.x_op (NF.x_var rfl (NF.x_c (have c175 := k.1; have k := k.2; (NF.y_ixS c175.1 c175.2 (NF.x_tyS (have c176 := k.1; have k := k.2; (NF.x_upper c176 (have c177 := k.1; have k := k.2; (NF.x_addS c177 (NF.x_name ?_))))))))))))))))
          refine (NF.x_seq (NF.x_ifs (NF.x_not (NF.x_B (NF.x_call (NF.x_cons (NF.x_var rfl (NF.x_cons (NF.x_bm0 (NF.x_op (NF.x_var rfl (NF.x_c (have c178 := k.1; have k := k.2; (NF.y_ixS c178.1 c178.2 (NF.x_tyS (have c179 := k.1; have k := k.2; (NF.x_upper c179 (NF.x_cons (NF.x_call (NF.x_cons (NF.x_var rfl (NF.x_cons (NF.x_op (NF.x_var rfl (NF.x_c (NF.y_ix32 O.leF h120 (fun v180 h181 => (NF.x_cons (NF.x_bm0 (NF.x_op (NF.x_var rfl (NF.x_c (have c182 := k.1; have k := k.2; (NF.y_ixS c182.1 c182.2 (NF.x_tyS (have c183 := k.1; have k := k.2; (NF.x_upper c183 (NF.x_nil (NF.use_spW (i := (y21, y118.2.2, (Txt.upper (sg (cS y5 (0 : Int)))))) O rfl ⟨_, _, _, rfl, h23, h181, rfl⟩ k (fun y184 v185 F H l0 O h186 k => (have h_script := Enc.mono (eScr K) l0.le h_script; (have h15 := Enc.mono (eLst (eP6 eInt eChr eStr eInt eStr eInt)) l0.le h15; (have h19 := Enc.mono (eLst (eP5 eInt eChr eInt eStr eInt)) l0.le h19; (have h23 := Enc.mono (eR4 "count" eInt "begin" (eDT kIC (eP2 eStr eInt)) "end" (eDT kIC (eP2 eStr eInt)) "special" (eDT kICI (eP2 eStr eInt))) l0.le h23; (have h30 := Enc.mono (eRw mg) l0.le h30; (have r_one := Rsc.mono (rRwr mg) l0.le r_one; (have r_other := Rsc.mono (rRwr mg) l0.le r_other; (have h_state := Enc.mono (eR3 "nodes" (eLst (eP2 eInt eChr)) "mode" eInt "seen" eInt) l0.le h_state; (have hb_p1 := Rsc.mono rBx l0.le hb_p1; (have h120 := Enc.mono (eP3 eInt (eLst eStr) (eR3 "nodes" (eLst (eP2 eInt eChr)) "mode" eInt "seen" eInt)) l0.le h120; (have h181 := Enc.mono (eR3 "nodes" (eLst (eP2 eInt eChr)) "mode" eInt "seen" eInt) l0.le h181; (have lF := Ex.trans lF l0; (NF.x_nil (NF.use_spWm (i := (y121.2, (Txt.upper (sg (cS y5 (0 : Int)))), y184)) (p31, as32) (NF.Fz.sel O (NF.mvS NF.mv0) (NF.apS NF.ap0)) rfl ⟨_, _, rfl, _, rfl, r_one, rfl, h186⟩ k (fun y187 v190 F H W l0 O hP k => Exists.elim hP fun N188 hP => (have hW := hP.1; have hP := hP.2; have r_one := hP.1; have hP := hP.2; have O := NF.Fz.reW (hW.trans (NF.reS rfl rfl)) O; (have h189 := hP; have O := NF.Fz.unsel O (NF.apS NF.ap0) (NF.mvS NF.mv0); (have O : NF.Fz _ F H (N126 ++ (N188 ++ (N130 ++ ([]))) : List (Addr × HO)) := O; (have h_script := Enc.mono (eScr K) l0.le h_script; (have h15 := Enc.mono (eLst (eP6 eInt eChr eStr eInt eStr eInt)) l0.le h15; (have h19 := Enc.mono (eLst (eP5 eInt eChr eInt eStr eInt)) l0.le h19; (have h23 := Enc.mono (eR4 "count" eInt "begin" (eDT kIC (eP2 eStr eInt)) "end" (eDT kIC (eP2 eStr eInt)) "special" (eDT kICI (eP2 eStr eInt))) l0.le h23; (have h30 := Enc.mono (eRw mg) l0.le h30; (have r_other := Rsc.mono (rRwr mg) l0.le r_other; (have h_state := Enc.mono (eR3 "nodes" (eLst (eP2 eInt eChr)) "mode" eInt "seen" eInt) l0.le h_state; (have hb_p1 := Rsc.mono rBx l0.le hb_p1; (have h120 := Enc.mono (eP3 eInt (eLst eStr) (eR3 "nodes" (eLst (eP2 eInt eChr)) "mode" eInt "seen" eInt)) l0.le h120; (have h181 := Enc.mono (eR3 "nodes" (eLst (eP2 eInt eChr)) "mode" eInt "seen" eInt) l0.le h181; (have h186 := Enc.mono (eP3 eInt (eLst eStr) (eR3 "nodes" (eLst (eP2 eInt eChr)) "mode" eInt "seen" eInt)) l0.le h186; (have lF := Ex.trans lF l0; (NF.byB v190 h189 (NF.x_bl (NF.x_itb (fun g209 => (have k := k.1 g209; ?n210)) (fun g209 => (have k := k.2 g209; ?n211)))))))))))))))))))))))))))))))))))))))))))))))))))))))))))))))))))))))))))
          case n210 =>
            exact (NF.x_ret (NF.x_c (q false k _ _ _ O.leB O.leF lF rfl)))
          case n211 =>
            refine NF.x_next ?_
            refine (NF.x_seq (NF.x_ifs (NF.x_not (NF.x_B (NF.x_call (NF.x_cons (NF.x_var rfl (NF.x_cons (NF.x_var rfl (NF.x_cons (NF.x_call (NF.x_cons (NF.x_var rfl (NF.x_cons (NF.x_op (NF.x_var rfl (NF.x_c (NF.y_ix32 O.leF h120 (fun v191 h192 => (NF.x_cons (NF.x_var rfl (NF.x_nil (NF.use_spW (i := (y21, y118.2.2, (y117 ++ (Txt.upper (sg (cS y5 (0 : Int))))))) O rfl ⟨_, _, _, rfl, h23, h192, rfl⟩ k (fun y193 v194 F H l0 O h195 k => (have h_script := Enc.mono (eScr K) l0.le h_script; (have h15 := Enc.mono (eLst (eP6 eInt eChr eStr eInt eStr eInt)) l0.le h15; (have h19 := Enc.mono (eLst (eP5 eInt eChr eInt eStr eInt)) l0.le h19; (have h23 := Enc.mono (eR4 "count" eInt "begin" (eDT kIC (eP2 eStr eInt)) "end" (eDT kIC (eP2 eStr eInt)) "special" (eDT kICI (eP2 eStr eInt))) l0.le h23; (have h30 := Enc.mono (eRw mg) l0.le h30; (have r_one := Rsc.mono (rRwr mg) l0.le r_one; (have r_other := Rsc.mono (rRwr mg) l0.le r_other; (have h_state := Enc.mono (eR3 "nodes" (eLst (eP2 eInt eChr)) "mode" eInt "seen" eInt) l0.le h_state; (have hb_p1 := Rsc.mono rBx l0.le hb_p1; (have h120 := Enc.mono (eP3 eInt (eLst eStr) (eR3 "nodes" (eLst (eP2 eInt eChr)) "mode" eInt "seen" eInt)) l0.le h120; (have h192 := Enc.mono (eR3 "nodes" (eLst (eP2 eInt eChr)) "mode" eInt "seen" eInt) l0.le h192; (have lF := Ex.trans lF l0; (NF.x_nil (NF.use_spWm (i := (y125.2, (y117 ++ (Txt.upper (sg (cS y5 (0 : Int))))), y193)) (p35, as36) (NF.Fz.sel O (List.Perm.refl _) (NF.apS NF.ap0)) rfl ⟨_, _, rfl, _, rfl, r_other, rfl, h195⟩ k (fun y196 v199 F H W l0 O hP k => Exists.elim hP fun N197 hP => (have hW := hP.1; have hP := hP.2; have r_other := hP.1; have hP := hP.2; have O := NF.Fz.reW (hW.trans (NF.reS rfl rfl)) O; (have h198 := hP; have O := NF.Fz.unsel O (NF.apS NF.ap0) (List.Perm.refl _); (have O : NF.Fz _ F H (N197 ++ (N188 ++ (N130 ++ ([]))) : List (Addr × HO)) := O; (have h_script := Enc.mono (eScr K) l0.le h_script; (have h15 := Enc.mono (eLst (eP6 eInt eChr eStr eInt eStr eInt)) l0.le h15; (have h19 := Enc.mono (eLst (eP5 eInt eChr eInt eStr eInt)) l0.le h19; (have h23 := Enc.mono (eR4 "count" eInt "begin" (eDT kIC (eP2 eStr eInt)) "end" (eDT kIC (eP2 eStr eInt)) "special" (eDT kICI (eP2 eStr eInt))) l0.le h23; (have h30 := Enc.mono (eRw mg) l0.le h30; (have r_one := Rsc.mono (rRwr mg) l0.le r_one; (have h_state := Enc.mono (eR3 "nodes" (eLst (eP2 eInt eChr)) "mode" eInt "seen" eInt) l0.le h_state; (have hb_p1 := Rsc.mono rBx l0.le hb_p1; (have h120 := Enc.mono (eP3 eInt (eLst eStr) (eR3 "nodes" (eLst (eP2 eInt eChr)) "mode" eInt "seen" eInt)) l0.le h120; (have h192 := Enc.mono (eR3 "nodes" (eLst (eP2 eInt eChr)) "mode" eInt "seen" eInt) l0.le h192; (have h195 := Enc.mono (eP3 eInt (eLst eStr) (eR3 "nodes" (eLst (eP2 eInt eChr)) "mode" eInt "seen" eInt)) l0.le h195; (have lF := Ex.trans lF l0; (NF.byB v199 h198 (NF.x_bl (NF.x_itb (fun g206 => (have k := k.1 g206; ?n207)) (fun g206 => (have k := k.2 g206; ?n208)))))))))))))))))))))))))))))))))))))))))))))))))))))))))))
            case n207 =>
              exact (NF.x_ret (NF.x_c (q false k _ _ _ O.leB O.leF lF rfl)))
            case n208 =>
              refine NF.x_next ?_
              exact (NF.x_ret (NF.x_call (NF.x_cons (NF.x_var rfl (NF.x_cons (NF.x_var rfl (NF.x_cons (NF.x_op (NF.x_var rfl (NF.x_var rfl (have c200 := k.1; have k := k.2; (NF.x_addS c200 (NF.x_cons (NF.x_op (NF.x_var rfl (NF.x_bm (NF.x_c (NF.x_tyS (NF.x_cons (NF.x_op (NF.x_var rfl (NF.x_c (NF.y_ix31 O.leF h120 (fun v201 h202 => (NF.x_nil (have c203 := k.1; have k := k.2; (NF.y_joinL O.leF h202 c203 (have c204 := k.1; have k := k.2; (NF.x_addS c204 (NF.x_nil (NF.use_spW (i := (y21, y28, (z_text ++ y117), (z_given ++ (Txt.join (Str.ofString "") y118.2.1)))) O rfl ⟨_, _, _, _, rfl, h23, h30, rfl, rfl⟩ k (fun y205 v F H l0 O hv k => NF.byB v hv (have h_script := Enc.mono (eScr K) l0.le h_script; (have h15 := Enc.mono (eLst (eP6 eInt eChr eStr eInt eStr eInt)) l0.le h15; (have h19 := Enc.mono (eLst (eP5 eInt eChr eInt eStr eInt)) l0.le h19; (have h23 := Enc.mono (eR4 "count" eInt "begin" (eDT kIC (eP2 eStr eInt)) "end" (eDT kIC (eP2 eStr eInt)) "special" (eDT kICI (eP2 eStr eInt))) l0.le h23; (have h30 := Enc.mono (eRw mg) l0.le h30; (have r_one := Rsc.mono (rRwr mg) l0.le r_one; (have r_other := Rsc.mono (rRwr mg) l0.le r_other; (have h_state := Enc.mono (eR3 "nodes" (eLst (eP2 eInt eChr)) "mode" eInt "seen" eInt) l0.le h_state; (have hb_p1 := Rsc.mono rBx l0.le hb_p1; (have h120 := Enc.mono (eP3 eInt (eLst eStr) (eR3 "nodes" (eLst (eP2 eInt eChr)) "mode" eInt "seen" eInt)) l0.le h120; (have h202 := Enc.mono (eLst eStr) l0.le h202; (have lF := Ex.trans lF l0; (q y205 k _ _ _ O.leB O.leF lF rfl)))))))))))))))))))))))))))))))))))))))))))))


end
theorem all_mk {l : PySem.W.OpenLaw} {w : World} {K : PySem.W.Frag} {h : Heap} {mg : Str → Option Value} {fa : Addr} {c_BadRule c_NestError c_NotNested c_Rewriter c_Rewriting c_TooMany : Addr} (X : K.In h) (G : h.Ns mainGlobals mg) (hfa : mg "law" = some (.ref fa))
    (h_law_pot : Has K "_law_pot" s_law_pot)
    (h_law_draw : Has K "_law_draw" s_law_draw)
    (h_law_menu : Has K "_law_menu" s_law_menu)
    (h_law_walk : Has K "_law_walk" s_law_walk)
    (h_law_close : Has K "_law_close" s_law_close)
    (h_law_strings : Has K "_law_strings" s_law_strings)
    (h_law_mode : Has K "_law_mode" s_law_mode)
    (h_law_rows : Has K "_law_rows" s_law_rows)
    (h_law_opened : Has K "_law_opened" s_law_opened)
    (h_law_after : Has K "_law_after" s_law_after)
    (h_law_before : Has K "_law_before" s_law_before)
    (h_law_extra : Has K "_law_extra" s_law_extra)
    (h_law_model : Has K "_law_model" s_law_model)
    (h_is_name : Has K "is_name" s_is_name)
    (h_is_letters : Has K "is_letters" s_is_letters)
    (h_is_piece : Has K "_is_piece" s_is_piece)
    (h_fault : Has K "fault" s_fault)
    (h_is_nested : Has K "is_nested" s_is_nested)
    (h_is_mode : Has K "_is_mode" s_is_mode)
    (h_is_rule : Has K "_is_rule" s_is_rule)
    (h_checked_rules : Has K "_checked_rules" s_checked_rules)
    (h_rule_at : Has K "_rule_at" s_rule_at)
    (h_is_exception : Has K "_is_exception" s_is_exception)
    (h_checked_exceptions : Has K "_checked_exceptions" s_checked_exceptions)
    (h_whole_tables : Has K "_whole_tables" s_whole_tables)
    (h_law_fresh : Has K "_law_fresh" s_law_fresh)
    (h_law_begin : Has K "_law_begin" s_law_begin)
    (h_law_end : Has K "_law_end" s_law_end)
    (h_law_try : Has K "_law_try" s_law_try)
    (h_checked : HasD K "checked" s_checked [.int 2000])
    (h_opening_of : Has K "opening_of" s_opening_of)
    (h_closing_of : Has K "closing_of" s_closing_of)
    (h_rewrite_letters : Has K "rewrite_letters" s_rewrite_letters)
    (h_result : HasD K "result" s_result [.int 0])
    (h_law_call : Has K "_law_call" s_law_call)
    (h_law_is_integer : Has K "_law_is_integer" s_law_is_integer)
    (h_law_stands : Has K "_law_stands" s_law_stands)
    (h_law_agrees : Has K "_law_agrees" s_law_agrees)
    (h_law_whole : Has K "_law_whole" s_law_whole)
    (h_law_piece : Has K "_law_piece" s_law_piece)
    (h_law_each : Has K "_law_each" s_law_each)
    (h_law_long : Has K "_law_long" s_law_long)
    (h_law_large : Has K "_law_large" s_law_large)
    (h_law : Has K "law" s_law)
    (z_ValueError : PySem.W.nsIn K mainGlobals "ValueError" = some none)
    (z_all : PySem.W.nsIn K mainGlobals "all" = some none)
    (z_bool : PySem.W.nsIn K mainGlobals "bool" = some none)
    (z_enumerate : PySem.W.nsIn K mainGlobals "enumerate" = some none)
    (z_int : PySem.W.nsIn K mainGlobals "int" = some none)
    (z_isinstance : PySem.W.nsIn K mainGlobals "isinstance" = some none)
    (z_len : PySem.W.nsIn K mainGlobals "len" = some none)
    (z_list : PySem.W.nsIn K mainGlobals "list" = some none)
    (z_max : PySem.W.nsIn K mainGlobals "max" = some none)
    (z_min : PySem.W.nsIn K mainGlobals "min" = some none)
    (z_range : PySem.W.nsIn K mainGlobals "range" = some none)
    (z_str : PySem.W.nsIn K mainGlobals "str" = some none)
    (z_super : PySem.W.nsIn K mainGlobals "super" = some none)
    (z_tuple : PySem.W.nsIn K mainGlobals "tuple" = some none)
    (y_MODE_LIMIT : HasC K "MODE_LIMIT" (.int 64))
    (y_NAMES : HasC K "NAMES" (.str "abcdefgh"))
    (y_PIECE_LIMIT : HasC K "PIECE_LIMIT" (.int 400))
    (y_TEXT_LIMIT : HasC K "TEXT_LIMIT" (.int 2000))
    (y_CLOSINGS : HasC K "_CLOSINGS" (.str "ABCDEFGH"))
    (n_BadRule : PySem.W.nsIn K mainGlobals "BadRule" = some (some (.ref c_BadRule)))
    (n_NestError : PySem.W.nsIn K mainGlobals "NestError" = some (some (.ref c_NestError)))
    (n_NotNested : PySem.W.nsIn K mainGlobals "NotNested" = some (some (.ref c_NotNested)))
    (n_Rewriter : PySem.W.nsIn K mainGlobals "Rewriter" = some (some (.ref c_Rewriter)))
    (n_Rewriting : PySem.W.nsIn K mainGlobals "Rewriting" = some (some (.ref c_Rewriting)))
    (n_TooMany : PySem.W.nsIn K mainGlobals "TooMany" = some (some (.ref c_TooMany)))
    (x_BadRule : XRaw l.prog K c_BadRule "wrong")
    (x_NotNested : XRaw l.prog K c_NotNested "index")
    (x_TooMany : XRaw l.prog K c_TooMany "limit")
    (p_BadRule_NestError : XPair K (.ref c_BadRule) (.ref c_NestError) true)
    (p_BadRule_NotNested : XPair K (.ref c_BadRule) (.ref c_NotNested) false)
    (p_BadRule_ValueError : XPair K (.ref c_BadRule) (.type "ValueError") true)
    (p_NotNested_NestError : XPair K (.ref c_NotNested) (.ref c_NestError) true)
    (p_NotNested_NotNested : XPair K (.ref c_NotNested) (.ref c_NotNested) true)
    (p_NotNested_ValueError : XPair K (.ref c_NotNested) (.type "ValueError") true)
    (p_TooMany_NestError : XPair K (.ref c_TooMany) (.ref c_NestError) true)
    (p_TooMany_NotNested : XPair K (.ref c_TooMany) (.ref c_NotNested) false)
    (p_TooMany_ValueError : XPair K (.ref c_TooMany) (.type "ValueError") true)
    (o_Rewriting : OClsD K c_Rewriting ["_modes", "_opening_rules", "_closing_rules"] "Rewriting.__init__" s_Rewriting_init)
    (o_Rewriter : OCls K c_Rewriter ["_rewriting", "_mode", "_opened", "_count"] "Rewriter.__init__" s_Rewriter_init)
    (m_Rewriter_read : OMth K c_Rewriter "read" "Rewriter.read" s_Rewriter_read)
    (m_Rewriter_first_wrong : OMth K c_Rewriter "_first_wrong" "Rewriter._first_wrong" s_Rewriter_first_wrong)
    (call_Rewriting : OCal K c_Rewriting "Rewriting.__call__" s_Rewriting_call)
    (w_Rewriter_current_mode : OPrp K c_Rewriter "current_mode" "Rewriter.current_mode" s_Rewriter_current_mode)
    (w_Rewriter_depth : OPrp K c_Rewriter "depth" "Rewriter.depth" s_Rewriter_depth)
    : ∃ fd : FuncData, (∀ (s : Shared) (v : Value), BindsTo s fd ⟨[v], []⟩ [("script", v)]) ∧ ∀ base : Heap, K.In base → base.Ns mainGlobals mg → FnOk l.prog w K mg base CX0 9 fa fd ["script"] (spLaw K) := by
  have T : Txt l.prog K mg := ⟨PySem.W.mg_none_of X G z_ValueError, PySem.W.mg_none_of X G z_all, PySem.W.mg_none_of X G z_bool, PySem.W.mg_none_of X G z_enumerate, PySem.W.mg_none_of X G z_int, PySem.W.mg_none_of X G z_isinstance, PySem.W.mg_none_of X G z_len, PySem.W.mg_none_of X G z_list, PySem.W.mg_none_of X G z_max, PySem.W.mg_none_of X G z_min, PySem.W.mg_none_of X G z_range, PySem.W.mg_none_of X G z_str, PySem.W.mg_none_of X G z_tuple, y_MODE_LIMIT.mg X G, y_NAMES.mg X G, y_PIECE_LIMIT.mg X G, y_TEXT_LIMIT.mg X G, y_CLOSINGS.mg X G, cls_mk X G n_BadRule, cls_mk X G n_NestError, cls_mk X G n_NotNested, cls_mk X G n_Rewriter, cls_mk X G n_Rewriting, cls_mk X G n_TooMany, oclsD_at X G n_Rewriting o_Rewriting, ocls_at X G n_Rewriter o_Rewriter, x_BadRule.fact X G n_BadRule (PySem.W.mg_none_of X G z_super), x_NotNested.fact X G n_NotNested (PySem.W.mg_none_of X G z_super), x_TooMany.fact X G n_TooMany (PySem.W.mg_none_of X G z_super), pair_mk X G n_BadRule n_NestError p_BadRule_NestError, pair_mk X G n_BadRule n_NotNested p_BadRule_NotNested, pairT_mk X G n_BadRule p_BadRule_ValueError, pair_mk X G n_NotNested n_NestError p_NotNested_NestError, pair_mk X G n_NotNested n_NotNested p_NotNested_NotNested, pairT_mk X G n_NotNested p_NotNested_ValueError, pair_mk X G n_TooMany n_NestError p_TooMany_NestError, pair_mk X G n_TooMany n_NotNested p_TooMany_NotNested, pairT_mk X G n_TooMany p_TooMany_ValueError⟩
  refine law_end X G hfa h_law (fun _ _ _ _ _ _ s v => .of_eq rfl) fun base fd F => ?_
  have D_law_pot := d_law_pot (P := l.prog) (w := w) (base := base) (h_law_pot.fn X G) T 
  have D_law_draw := d_law_draw (P := l.prog) (w := w) (base := base) (h_law_draw.fn X G) T 
  have D_law_menu := d_law_menu (P := l.prog) (w := w) (base := base) (h_law_menu.fn X G) T D_law_draw
  have D_law_walk := d_law_walk (P := l.prog) (w := w) (base := base) (h_law_walk.fn X G) T D_law_draw
  have D_law_close := d_law_close (P := l.prog) (w := w) (base := base) (h_law_close.fn X G) T 
  have D_law_strings := d_law_strings (P := l.prog) (w := w) (base := base) (h_law_strings.fn X G) T D_law_draw D_law_walk D_law_close
  have D_law_mode := d_law_mode (P := l.prog) (w := w) (base := base) (h_law_mode.fn X G) T D_law_draw
  have D_law_rows := d_law_rows (P := l.prog) (w := w) (base := base) (h_law_rows.fn X G) T D_law_draw D_law_strings D_law_mode
  have D_law_opened := d_law_opened (P := l.prog) (w := w) (base := base) (h_law_opened.fn X G) T 
  have D_law_after := d_law_after (P := l.prog) (w := w) (base := base) (h_law_after.fn X G) T D_law_opened D_law_draw D_law_walk D_law_close
  have D_law_before := d_law_before (P := l.prog) (w := w) (base := base) (h_law_before.fn X G) T 
  have D_law_extra := d_law_extra (P := l.prog) (w := w) (base := base) (h_law_extra.fn X G) T D_law_draw D_law_mode D_law_after D_law_before
  have D_law_model := d_law_model (P := l.prog) (w := w) (base := base) (h_law_model.fn X G) T 
  have D_is_name := d_is_name (P := l.prog) (w := w) (base := base) (h_is_name.fn X G) T 
  have D_is_letters := d_is_letters (P := l.prog) (w := w) (base := base) (h_is_letters.fn X G) T 
  have D_is_piece := d_is_piece (P := l.prog) (w := w) (base := base) (h_is_piece.fn X G) T D_is_letters
  have D_fault := d_fault (P := l.prog) (w := w) (base := base) (h_fault.fn X G) T 
  have D_is_nested := d_is_nested (P := l.prog) (w := w) (base := base) (h_is_nested.fn X G) T D_fault
  have D_is_mode := d_is_mode (P := l.prog) (w := w) (base := base) (h_is_mode.fn X G) T 
  have D_is_rule := d_is_rule (P := l.prog) (w := w) (base := base) (h_is_rule.fn X G) T D_is_name D_is_piece D_is_nested D_is_mode
  have D_checked_rules := d_checked_rules (P := l.prog) (w := w) (base := base) (h_checked_rules.fn X G) T D_is_rule
  have D_rule_at := d_rule_at (P := l.prog) (w := w) (base := base) (h_rule_at.fn X G) T 
  have D_is_exception := d_is_exception (P := l.prog) (w := w) (base := base) (h_is_exception.fn X G) T D_is_name D_is_piece D_is_nested D_is_mode D_rule_at
  have D_checked_exceptions := d_checked_exceptions (P := l.prog) (w := w) (base := base) (h_checked_exceptions.fn X G) T D_is_exception
  have D_whole_tables := d_whole_tables (P := l.prog) (w := w) (base := base) (h_whole_tables.fn X G) T D_rule_at
  have D_Rewriting := d_Rewriting_init (P := l.prog) (w := w) (base := base)  T D_checked_rules D_checked_exceptions D_whole_tables
  have D_Rewriter := d_Rewriter_init (P := l.prog) (w := w) (base := base)  T 
  have D_law_fresh := d_law_fresh (P := l.prog) (w := w) (base := base) (h_law_fresh.fn X G) T 
  have D_law_begin := d_law_begin (P := l.prog) (w := w) (base := base) (h_law_begin.fn X G) T 
  have D_law_end := d_law_end (P := l.prog) (w := w) (base := base) (h_law_end.fn X G) T 
  have D_law_try := d_law_try (P := l.prog) (w := w) (base := base) (h_law_try.fn X G) T D_law_begin D_law_end
  have D_checked := d_checked (P := l.prog) (w := w) (base := base) (h_checked.fn X G (by decide)) T D_fault
  have D_opening_of := d_opening_of (P := l.prog) (w := w) (base := base) (h_opening_of.fn X G) T 
  have D_closing_of := d_closing_of (P := l.prog) (w := w) (base := base) (h_closing_of.fn X G) T 
  have D_rewrite_letters := d_rewrite_letters (P := l.prog) (w := w) (base := base) (h_rewrite_letters.fn X G) T D_opening_of D_closing_of
  have D_result := d_result (P := l.prog) (w := w) (base := base) (h_result.fn X G (by decide)) T D_rewrite_letters
  have D_Rewriting_call := d_Rewriting_call (P := l.prog) (w := w) (base := base) (ocal_at X G n_Rewriting call_Rewriting) T D_checked D_result
  have D_Rewriter_first_wrong := d_Rewriter_first_wrong (P := l.prog) (w := w) (base := base) (omth_at X G n_Rewriter m_Rewriter_first_wrong) T 
  have D_Rewriter_read := d_Rewriter_read (P := l.prog) (w := w) (base := base) (omth_at X G n_Rewriter m_Rewriter_read) T D_Rewriter_first_wrong D_rewrite_letters
  have D_law_call := d_law_call (P := l.prog) (w := w) (base := base) (h_law_call.fn X G) T D_Rewriter_read
  have D_Rewriter_current_mode := d_Rewriter_current_mode (P := l.prog) (w := w) (base := base) (oprp_at X G n_Rewriter w_Rewriter_current_mode) T 
  have D_Rewriter_depth := d_Rewriter_depth (P := l.prog) (w := w) (base := base) (oprp_at X G n_Rewriter w_Rewriter_depth) T 
  have D_law_is_integer := d_law_is_integer (P := l.prog) (w := w) (base := base) (h_law_is_integer.fn X G) T 
  have D_law_stands := d_law_stands (P := l.prog) (w := w) (base := base) (h_law_stands.fn X G) T D_Rewriter_current_mode D_Rewriter_depth D_law_is_integer
  have D_law_agrees := d_law_agrees (P := l.prog) (w := w) (base := base) (h_law_agrees.fn X G) T D_law_call D_law_stands D_law_is_integer
  have D_law_whole := d_law_whole (P := l.prog) (w := w) (base := base) (h_law_whole.fn X G) T D_Rewriter D_law_try D_Rewriting_call D_law_fresh D_law_agrees
  have D_law_piece := d_law_piece (P := l.prog) (w := w) (base := base) (h_law_piece.fn X G) T D_law_walk D_law_draw
  have D_law_each := d_law_each (P := l.prog) (w := w) (base := base) (h_law_each.fn X G) T D_law_stands D_law_call
  have D_law_long := d_law_long (P := l.prog) (w := w) (base := base) (h_law_long.fn X G) T D_law_draw
  have D_law_large := d_law_large (P := l.prog) (w := w) (base := base) (h_law_large.fn X G) T D_law_long D_Rewriter D_law_try D_law_close D_law_agrees D_law_fresh
  exact d_law F T D_law_pot D_law_menu D_law_rows D_law_extra D_law_model D_Rewriting D_Rewriter D_law_fresh D_law_close D_law_try D_law_whole D_law_draw D_law_stands D_law_piece D_law_agrees D_law_each D_law_large
theorem walk {l : PySem.W.OpenLaw} {q : Program} {loose : List Str} {XP : (Str → Option Value) → Heap → Prop} {YP : World → Heap → Prop} {d : DefRec} {K : Params → PySem.W.Frag} (hn : l.most = some 63) (hdf : d.params.defaults = [])
    (hY : ∀ (w : World) (h : Heap), YP w h → (K w.params).In h)
    (F : ∀ (w : World) (mg : Str → Option Value) (fa : Addr) (h : Heap), (K w.params).In h → h.Ns mainGlobals mg → mg d.name = some (.ref fa) →
      ∃ fd : FuncData, (∀ (s : Shared) (u : Value), BindsTo s fd ⟨[u], []⟩ [("script", u)]) ∧ ∀ base : Heap, (K w.params).In base → base.Ns mainGlobals mg → FnOk l.prog w (K w.params) mg base CX0 9 fa fd ["script"] (spLaw (K w.params))) :
    PySem.W.WalkO q loose XP YP l.row.toRowW d [] (fun f vs => PySem.call f vs) :=
  L2.walk_of (n := 63) (k := 9) (x := "script") (CX := fun _ => CX0) (sp := fun w => spLaw (K w.params)) hn (by decide) hdf ⟨rfl, by decide, by decide⟩ hY F (fun _ _ a ns hl _ hS => ⟨a, ns, rfl, hS, hl, fun _ => rfl⟩) fun _ _ _ _ _ z => z
end NF
open PySem PySem.W PyProof.Rows in
set_option maxRecDepth 100000 in
set_option maxHeartbeats 0 in
theorem PySem.Challenge.cw_nestform_k18_reading_in_pieces_holds : PySem.Challenge.rw_nestform_k18_reading_in_pieces.Holds := by
  w_on; o_law; k_head; (case hw => w_witness2)
  k_fill
  refine NF.walk (l := PySem.Challenge.rw_nestform_k18_reading_in_pieces) rfl rfl (fun w h Y => PySem.W.kIn_of Y) ?F
  case F =>
    intro w mg fa h KX G hmg
    refine' NF.all_mk KX G hmg (NF.has_mk ?n0 ?l0 ?c0 ?k0) (NF.has_mk ?n1 ?l1 ?c1 ?k1) (NF.has_mk ?n2 ?l2 ?c2 ?k2) (NF.has_mk ?n3 ?l3 ?c3 ?k3) (NF.has_mk ?n4 ?l4 ?c4 ?k4) (NF.has_mk ?n5 ?l5 ?c5 ?k5) (NF.has_mk ?n6 ?l6 ?c6 ?k6) (NF.has_mk ?n7 ?l7 ?c7 ?k7) (NF.has_mk ?n8 ?l8 ?c8 ?k8) (NF.has_mk ?n9 ?l9 ?c9 ?k9) (NF.has_mk ?n10 ?l10 ?c10 ?k10) (NF.has_mk ?n11 ?l11 ?c11 ?k11) (NF.has_mk ?n12 ?l12 ?c12 ?k12) (NF.has_mk ?n13 ?l13 ?c13 ?k13) (NF.has_mk ?n14 ?l14 ?c14 ?k14) (NF.has_mk ?n15 ?l15 ?c15 ?k15) (NF.has_mk ?n16 ?l16 ?c16 ?k16) (NF.has_mk ?n17 ?l17 ?c17 ?k17) (NF.has_mk ?n18 ?l18 ?c18 ?k18) (NF.has_mk ?n19 ?l19 ?c19 ?k19) (NF.has_mk ?n20 ?l20 ?c20 ?k20) (NF.has_mk ?n21 ?l21 ?c21 ?k21) (NF.has_mk ?n22 ?l22 ?c22 ?k22) (NF.has_mk ?n23 ?l23 ?c23 ?k23) (NF.has_mk ?n24 ?l24 ?c24 ?k24) (NF.has_mk ?n27 ?l27 ?c27 ?k27) (NF.has_mk ?n28 ?l28 ?c28 ?k28) (NF.has_mk ?n29 ?l29 ?c29 ?k29) (NF.has_mk ?n30 ?l30 ?c30 ?k30) (NF.hasD_mk ?n31 ?l31 ?c31 ?k31 ?t31 ?v31) (NF.has_mk ?n32 ?l32 ?c32 ?k32) (NF.has_mk ?n33 ?l33 ?c33 ?k33) (NF.has_mk ?n34 ?l34 ?c34 ?k34) (NF.hasD_mk ?n35 ?l35 ?c35 ?k35 ?t35 ?v35) (NF.has_mk ?n39 ?l39 ?c39 ?k39) (NF.has_mk ?n42 ?l42 ?c42 ?k42) (NF.has_mk ?n43 ?l43 ?c43 ?k43) (NF.has_mk ?n44 ?l44 ?c44 ?k44) (NF.has_mk ?n45 ?l45 ?c45 ?k45) (NF.has_mk ?n46 ?l46 ?c46 ?k46) (NF.has_mk ?n47 ?l47 ?c47 ?k47) (NF.has_mk ?n48 ?l48 ?c48 ?k48) (NF.has_mk ?n49 ?l49 ?c49 ?k49) (NF.has_mk ?n50 ?l50 ?c50 ?k50) ?z_ValueError ?z_all ?z_bool ?z_enumerate ?z_int ?z_isinstance ?z_len ?z_list ?z_max ?z_min ?z_range ?z_str ?z_super ?z_tuple (NF.hasC_mk ?y_MODE_LIMIT ?r_MODE_LIMIT) (NF.hasC_mk ?y_NAMES ?r_NAMES) (NF.hasC_mk ?y_PIECE_LIMIT ?r_PIECE_LIMIT) (NF.hasC_mk ?y_TEXT_LIMIT ?r_TEXT_LIMIT) (NF.hasC_mk ?y_CLOSINGS ?r_CLOSINGS) ?q_BadRule ?q_NestError ?q_NotNested ?q_Rewriter ?q_Rewriting ?q_TooMany (NF.xraw_mk ?x_BadRule_iC ?x_BadRule_lk ?x_BadRule_hcode ?x_BadRule_hcell ?x_BadRule_hx ?x_BadRule_hcd ?x_BadRule_hvs ?x_BadRule_hfile ?x_BadRule_htop ?x_BadRule_hp ?x_BadRule_har ?x_BadRule_hns ?x_BadRule_hdb ?x_BadRule_s1 ?x_BadRule_s2 ?x_BadRule_s3 ?x_BadRule_s4 ?x_BadRule_hnc ?x_BadRule_hco ?x_BadRule_hgen ?x_BadRule_hk ?x_BadRule_hb ?x_BadRule_hme) (NF.xraw_mk ?x_NotNested_iC ?x_NotNested_lk ?x_NotNested_hcode ?x_NotNested_hcell ?x_NotNested_hx ?x_NotNested_hcd ?x_NotNested_hvs ?x_NotNested_hfile ?x_NotNested_htop ?x_NotNested_hp ?x_NotNested_har ?x_NotNested_hns ?x_NotNested_hdb ?x_NotNested_s1 ?x_NotNested_s2 ?x_NotNested_s3 ?x_NotNested_s4 ?x_NotNested_hnc ?x_NotNested_hco ?x_NotNested_hgen ?x_NotNested_hk ?x_NotNested_hb ?x_NotNested_hme) (NF.xraw_mk ?x_TooMany_iC ?x_TooMany_lk ?x_TooMany_hcode ?x_TooMany_hcell ?x_TooMany_hx ?x_TooMany_hcd ?x_TooMany_hvs ?x_TooMany_hfile ?x_TooMany_htop ?x_TooMany_hp ?x_TooMany_har ?x_TooMany_hns ?x_TooMany_hdb ?x_TooMany_s1 ?x_TooMany_s2 ?x_TooMany_s3 ?x_TooMany_s4 ?x_TooMany_hnc ?x_TooMany_hco ?x_TooMany_hgen ?x_TooMany_hk ?x_TooMany_hb ?x_TooMany_hme) (NF.xpair_mk ?p_BadRule_NestError) (NF.xpair_mk ?p_BadRule_NotNested) (NF.xpair_mk ?p_BadRule_ValueError) (NF.xpair_mk ?p_NotNested_NestError) (NF.xpair_mk ?p_NotNested_NotNested) (NF.xpair_mk ?p_NotNested_ValueError) (NF.xpair_mk ?p_TooMany_NestError) (NF.xpair_mk ?p_TooMany_NotNested) (NF.xpair_mk ?p_TooMany_ValueError) (NF.oclsD_mk ?oi_Rewriting ?ol_Rewriting ?oc_Rewriting ?ot_Rewriting ?ov_Rewriting ?ok_Rewriting ?ob_Rewriting) (NF.ocls_mk ?oi_Rewriter ?ol_Rewriter ?oc_Rewriter ?ob_Rewriter) (NF.omth_mk ?ma_Rewriter_read ?ml_Rewriter_read ?mc_Rewriter_read ?mb_Rewriter_read) (NF.omth_mk ?ma_Rewriter_first_wrong ?ml_Rewriter_first_wrong ?mc_Rewriter_first_wrong ?mb_Rewriter_first_wrong) (NF.ocal_mk ?ca_Rewriting ?cl_Rewriting ?cc_Rewriting ?cb_Rewriting) (NF.oprp_mk ?wa_Rewriter_current_mode ?wr_Rewriter_current_mode ?wl_Rewriter_current_mode ?wc_Rewriter_current_mode ?wb_Rewriter_current_mode) (NF.oprp_mk ?wa_Rewriter_depth ?wr_Rewriter_depth ?wl_Rewriter_depth ?wc_Rewriter_depth ?wb_Rewriter_depth)
    (case n0 => k_is)
    (case l0 => k_is)
    (case c0 => k_is)
    (case k0 => k_is)
    (case n1 => k_is)
    (case l1 => k_is)
    (case c1 => k_is)
    (case k1 => k_is)
    (case n2 => k_is)
    (case l2 => k_is)
    (case c2 => k_is)
    (case k2 => k_is)
    (case n3 => k_is)
    (case l3 => k_is)
    (case c3 => k_is)
    (case k3 => k_is)
    (case n4 => k_is)
    (case l4 => k_is)
    (case c4 => k_is)
    (case k4 => k_is)
    (case n5 => k_is)
    (case l5 => k_is)
    (case c5 => k_is)
    (case k5 => k_is)
    (case n6 => k_is)
    (case l6 => k_is)
    (case c6 => k_is)
    (case k6 => k_is)
    (case n7 => k_is)
    (case l7 => k_is)
    (case c7 => k_is)
    (case k7 => k_is)
    (case n8 => k_is)
    (case l8 => k_is)
    (case c8 => k_is)
    (case k8 => k_is)
    (case n9 => k_is)
    (case l9 => k_is)
    (case c9 => k_is)
    (case k9 => k_is)
    (case n10 => k_is)
    (case l10 => k_is)
    (case c10 => k_is)
    (case k10 => k_is)
    (case n11 => k_is)
    (case l11 => k_is)
    (case c11 => k_is)
    (case k11 => k_is)
    (case n12 => k_is)
    (case l12 => k_is)
    (case c12 => k_is)
    (case k12 => k_is)
    (case n13 => k_is)
    (case l13 => k_is)
    (case c13 => k_is)
    (case k13 => k_is)
    (case n14 => k_is)
    (case l14 => k_is)
    (case c14 => k_is)
    (case k14 => k_is)
    (case n15 => k_is)
    (case l15 => k_is)
    (case c15 => k_is)
    (case k15 => k_is)
    (case n16 => k_is)
    (case l16 => k_is)
    (case c16 => k_is)
    (case k16 => k_is)
    (case n17 => k_is)
    (case l17 => k_is)
    (case c17 => k_is)
    (case k17 => k_is)
    (case n18 => k_is)
    (case l18 => k_is)
    (case c18 => k_is)
    (case k18 => k_is)
    (case n19 => k_is)
    (case l19 => k_is)
    (case c19 => k_is)
    (case k19 => k_is)
    (case n20 => k_is)
    (case l20 => k_is)
    (case c20 => k_is)
    (case k20 => k_is)
    (case n21 => k_is)
    (case l21 => k_is)
    (case c21 => k_is)
    (case k21 => k_is)
    (case n22 => k_is)
    (case l22 => k_is)
    (case c22 => k_is)
    (case k22 => k_is)
    (case n23 => k_is)
    (case l23 => k_is)
    (case c23 => k_is)
    (case k23 => k_is)
    (case n24 => k_is)
    (case l24 => k_is)
    (case c24 => k_is)
    (case k24 => k_is)
    (case n27 => k_is)
    (case l27 => k_is)
    (case c27 => k_is)
    (case k27 => k_is)
    (case n28 => k_is)
    (case l28 => k_is)
    (case c28 => k_is)
    (case k28 => k_is)
    (case n29 => k_is)
    (case l29 => k_is)
    (case c29 => k_is)
    (case k29 => k_is)
    (case n30 => k_is)
    (case l30 => k_is)
    (case c30 => k_is)
    (case k30 => k_is)
    (case n31 => k_is)
    (case l31 => k_is)
    (case c31 => k_is)
    (case k31 => k_is)
    (case t31 => k_is)
    (case v31 => exact .cons ⟨_, rfl⟩ .nil)
    (case n32 => k_is)
    (case l32 => k_is)
    (case c32 => k_is)
    (case k32 => k_is)
    (case n33 => k_is)
    (case l33 => k_is)
    (case c33 => k_is)
    (case k33 => k_is)
    (case n34 => k_is)
    (case l34 => k_is)
    (case c34 => k_is)
    (case k34 => k_is)
    (case n35 => k_is)
    (case l35 => k_is)
    (case c35 => k_is)
    (case k35 => k_is)
    (case t35 => k_is)
    (case v35 => exact .cons ⟨_, rfl⟩ .nil)
    (case n39 => k_is)
    (case l39 => k_is)
    (case c39 => k_is)
    (case k39 => k_is)
    (case n42 => k_is)
    (case l42 => k_is)
    (case c42 => k_is)
    (case k42 => k_is)
    (case n43 => k_is)
    (case l43 => k_is)
    (case c43 => k_is)
    (case k43 => k_is)
    (case n44 => k_is)
    (case l44 => k_is)
    (case c44 => k_is)
    (case k44 => k_is)
    (case n45 => k_is)
    (case l45 => k_is)
    (case c45 => k_is)
    (case k45 => k_is)
    (case n46 => k_is)
    (case l46 => k_is)
    (case c46 => k_is)
    (case k46 => k_is)
    (case n47 => k_is)
    (case l47 => k_is)
    (case c47 => k_is)
    (case k47 => k_is)
    (case n48 => k_is)
    (case l48 => k_is)
    (case c48 => k_is)
    (case k48 => k_is)
    (case n49 => k_is)
    (case l49 => k_is)
    (case c49 => k_is)
    (case k49 => k_is)
    (case n50 => k_is)
    (case l50 => k_is)
    (case c50 => k_is)
    (case k50 => k_is)
    (case z_ValueError => k_is)
    (case z_all => k_is)
    (case z_bool => k_is)
    (case z_enumerate => k_is)
    (case z_int => k_is)
    (case z_isinstance => k_is)
    (case z_len => k_is)
    (case z_list => k_is)
    (case z_max => k_is)
    (case z_min => k_is)
    (case z_range => k_is)
    (case z_str => k_is)
    (case z_super => k_is)
    (case z_tuple => k_is)
    (case y_MODE_LIMIT => k_is)
    (case r_MODE_LIMIT => exact ⟨_, rfl⟩)
    (case y_NAMES => k_is)
    (case r_NAMES => exact ⟨_, rfl⟩)
    (case y_PIECE_LIMIT => k_is)
    (case r_PIECE_LIMIT => exact ⟨_, rfl⟩)
    (case y_TEXT_LIMIT => k_is)
    (case r_TEXT_LIMIT => exact ⟨_, rfl⟩)
    (case y_CLOSINGS => k_is)
    (case r_CLOSINGS => exact ⟨_, rfl⟩)
    (case q_BadRule => k_is)
    (case q_NestError => k_is)
    (case q_NotNested => k_is)
    (case q_Rewriter => k_is)
    (case q_Rewriting => k_is)
    (case q_TooMany => k_is)
    (case x_BadRule_iC => k_is)
    (case x_BadRule_lk => k_is)
    (case x_BadRule_hcode => k_is)
    (case x_BadRule_hcell => k_is)
    (case x_BadRule_hx => kernel_rfl)
    (case x_BadRule_hcd => k_is)
    (case x_BadRule_hvs => exact rfl)
    (case x_BadRule_hfile => kernel_rfl)
    (case x_BadRule_htop => kernel_rfl)
    (case x_BadRule_hp => exact rfl)
    (case x_BadRule_har => exact rfl)
    (case x_BadRule_hns => decide)
    (case x_BadRule_hdb => decide)
    (case x_BadRule_s1 => exact rfl)
    (case x_BadRule_s2 => exact rfl)
    (case x_BadRule_s3 => exact rfl)
    (case x_BadRule_s4 => exact rfl)
    (case x_BadRule_hnc => decide)
    (case x_BadRule_hco => exact rfl)
    (case x_BadRule_hgen => exact rfl)
    (case x_BadRule_hk => exact rfl)
    (case x_BadRule_hb => exact fun us hl => match us, hl with | [_, _], _ => rfl)
    (case x_BadRule_hme => exact fun env => rfl)
    (case x_NotNested_iC => k_is)
    (case x_NotNested_lk => k_is)
    (case x_NotNested_hcode => k_is)
    (case x_NotNested_hcell => k_is)
    (case x_NotNested_hx => kernel_rfl)
    (case x_NotNested_hcd => k_is)
    (case x_NotNested_hvs => exact rfl)
    (case x_NotNested_hfile => kernel_rfl)
    (case x_NotNested_htop => kernel_rfl)
    (case x_NotNested_hp => exact rfl)
    (case x_NotNested_har => exact rfl)
    (case x_NotNested_hns => decide)
    (case x_NotNested_hdb => decide)
    (case x_NotNested_s1 => exact rfl)
    (case x_NotNested_s2 => exact rfl)
    (case x_NotNested_s3 => exact rfl)
    (case x_NotNested_s4 => exact rfl)
    (case x_NotNested_hnc => decide)
    (case x_NotNested_hco => exact rfl)
    (case x_NotNested_hgen => exact rfl)
    (case x_NotNested_hk => exact rfl)
    (case x_NotNested_hb => exact fun us hl => match us, hl with | [_, _], _ => rfl)
    (case x_NotNested_hme => exact fun env => rfl)
    (case x_TooMany_iC => k_is)
    (case x_TooMany_lk => k_is)
    (case x_TooMany_hcode => k_is)
    (case x_TooMany_hcell => k_is)
    (case x_TooMany_hx => kernel_rfl)
    (case x_TooMany_hcd => k_is)
    (case x_TooMany_hvs => exact rfl)
    (case x_TooMany_hfile => kernel_rfl)
    (case x_TooMany_htop => kernel_rfl)
    (case x_TooMany_hp => exact rfl)
    (case x_TooMany_har => exact rfl)
    (case x_TooMany_hns => decide)
    (case x_TooMany_hdb => decide)
    (case x_TooMany_s1 => exact rfl)
    (case x_TooMany_s2 => exact rfl)
    (case x_TooMany_s3 => exact rfl)
    (case x_TooMany_s4 => exact rfl)
    (case x_TooMany_hnc => decide)
    (case x_TooMany_hco => exact rfl)
    (case x_TooMany_hgen => exact rfl)
    (case x_TooMany_hk => exact rfl)
    (case x_TooMany_hb => exact fun us hl => match us, hl with | [_, _], _ => rfl)
    (case x_TooMany_hme => exact fun env => rfl)
    (case p_BadRule_NestError => kernel_rfl)
    (case p_BadRule_NotNested => kernel_rfl)
    (case p_BadRule_ValueError => kernel_rfl)
    (case p_NotNested_NestError => kernel_rfl)
    (case p_NotNested_NotNested => kernel_rfl)
    (case p_NotNested_ValueError => kernel_rfl)
    (case p_TooMany_NestError => kernel_rfl)
    (case p_TooMany_NotNested => kernel_rfl)
    (case p_TooMany_ValueError => kernel_rfl)
    (case oi_Rewriting => k_is)
    (case ol_Rewriting => k_is)
    (case oc_Rewriting => k_is)
    (case ot_Rewriting => k_is)
    (case ov_Rewriting => exact (show L2.RelV (.ref _) _ from rfl))
    (case ok_Rewriting => exact rfl)
    (case ob_Rewriting => kernel_rfl)
    (case oi_Rewriter => k_is)
    (case ol_Rewriter => k_is)
    (case oc_Rewriter => k_is)
    (case ob_Rewriter => kernel_rfl)
    (case ma_Rewriter_read => k_is)
    (case ml_Rewriter_read => k_is)
    (case mc_Rewriter_read => k_is)
    (case mb_Rewriter_read => kernel_rfl)
    (case ma_Rewriter_first_wrong => k_is)
    (case ml_Rewriter_first_wrong => k_is)
    (case mc_Rewriter_first_wrong => k_is)
    (case mb_Rewriter_first_wrong => kernel_rfl)
    (case ca_Rewriting => k_is)
    (case cl_Rewriting => k_is)
    (case cc_Rewriting => k_is)
    (case cb_Rewriting => kernel_rfl)
    (case wa_Rewriter_current_mode => k_is)
    (case wr_Rewriter_current_mode => k_is)
    (case wl_Rewriter_current_mode => k_is)
    (case wc_Rewriter_current_mode => k_is)
    (case wb_Rewriter_current_mode => kernel_rfl)
    (case wa_Rewriter_depth => k_is)
    (case wr_Rewriter_depth => k_is)
    (case wl_Rewriter_depth => k_is)
    (case wc_Rewriter_depth => k_is)
    (case wb_Rewriter_depth => kernel_rfl)

