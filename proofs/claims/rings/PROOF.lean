import PyProof.Rows.All
import Wide.All
import OpenK.AllK
import Wide.FinOn
import KE.GoesMore
import KE.DatumOrd
import HandS.ForMost
import HandS.Walk
import HandS.Zip
import HandS.Deep
import HandS.Star
import HandS.ClsMeth
import KE.KExcSuper
import HandS.Exc
import HandS.WordsExc
import HandS.ExcField
import PySem.Challenge.RW_withincall_k14_whole_rings
import HandS.TupAny
import HandS.TupLen
import HandS.IsInst
import HandS.Style
import HandS.Evl
import HandS.ForExc
import HandS.Codes
import HandS.Property
import HandS.ExcCtx
import HandS.HotCalls
import KE.KStateDown
import HandS.Defaults
import HandS.Head0
import HandS.Head1
import HandS.Head2
import HandS.HeadEnd
import HandS.HeadHook1
import HandS.HeadHook2
/-! The plain law of rings: a target is reached exactly if nothing objects. No program in sight. -/
namespace WM
set_option linter.all false
section
variable {I : Type} [DecidableEq I] (nx pv : I → I)
/-- one circle, gone round either way -/
structure Cyc : Prop where
  np : ∀ i, nx (pv i) = i
  pn : ∀ i, pv (nx i) = i
  ne : ∀ i, nx i ≠ i
  indp : ∀ (P : I → Prop) (j : I), P j → (∀ i, P i → P (pv i)) → ∀ m, P m
  indn : ∀ (P : I → Prop) (j : I), P j → (∀ i, P i → P (nx i)) → ∀ m, P m
/-- nothing objects to t, seen from s; channel i leads from i to nx i and has room c i -/
structure NoObj (c s t : I → Int) : Prop where
  jam : ∀ i, c i < s i - s (nx i) → s i ≤ t i ∧ t (nx i) ≤ s (nx i)
  orp : ∀ i, t i - t (nx i) < 0 → s i ≤ t i ∧ t (nx i) ≤ s (nx i)
  hi : ∀ i, ∃ m, t i ≤ s m
  lo : ∀ i, ∃ m, s m ≤ t i
/-- an advance of j finds its channel ready; a rollback of j does -/
def Adv (c s : I → Int) (j : I) : Prop := 1 ≤ s (pv j) - s j ∧ s (pv j) - s j ≤ c (pv j)
def Rol (c s : I → Int) (j : I) : Prop := 1 ≤ s j - s (nx j) ∧ s j - s (nx j) ≤ c j
def GoodA (c s t : I → Int) (j : I) : Prop := s j < t j ∧ Adv pv c s j ∧ ¬ (s j - s (nx j) = c j ∧ s (nx j) < t (nx j))
def GoodR (c s t : I → Int) (j : I) : Prop := t j < s j ∧ Rol nx c s j ∧ ¬ (s (pv j) - s j = c (pv j) ∧ t (pv j) < s (pv j))
def put (s : I → Int) (j : I) (v : Int) : I → Int := fun i => if i = j then v else s i
theorem put_same (s : I → Int) (j : I) (v : Int) : put s j v j = v := if_pos rfl
theorem put_ne (s : I → Int) {i j : I} (v : Int) (h : i ≠ j) : put s j v i = s i := if_neg h
variable {nx pv} {c s t : I → Int}
theorem Cyc.nep (C : Cyc nx pv) (i : I) : pv i ≠ i := fun e => C.ne (pv i) (by rw [C.np]; exact e.symm)

/-- some stage that wants to advance may do so, and jams nothing that is still wanted -/
theorem good_adv (C : Cyc nx pv) (hc : ∀ i, 1 ≤ c i) (N : NoObj nx c s t) {j0 : I} (w0 : s j0 < t j0) : ∃ j, GoodA nx pv c s t j := by
  -- what wants to advance finds a producer that is far enough
  have base : ∀ j, s j < t j → t j ≤ t (pv j) ∧ s (pv j) - s j ≤ c (pv j) := by
    intro j hj
    constructor
    · by_cases h : t (pv j) - t j < 0
      · have z := N.orp (pv j) (by rw [C.np]; exact h)
        rw [C.np] at z
        omega
      · omega
    · by_cases h : c (pv j) < s (pv j) - s j
      · have z := N.jam (pv j) (by rw [C.np]; exact h)
        rw [C.np] at z
        omega
      · omega
  have ex1 : ∃ j, s j < t j ∧ s j < s (pv j) := by
    by_cases h : ∃ j, s j < t j ∧ s j < s (pv j)
    · exact h
    · exfalso
      have stp : ∀ j, s j < t j → s (pv j) ≤ s j := fun j hj => by
        by_cases q : s j < s (pv j)
        · exact absurd ⟨j, hj, q⟩ h
        · omega
      have all := C.indp (fun m => s m < t m ∧ s m ≤ s j0) j0 ⟨w0, by omega⟩ (fun i ⟨h1, h2⟩ => by
        have a := stp i h1
        have b := (base i h1).1
        exact ⟨by omega, by omega⟩)
      obtain ⟨m, hm⟩ := N.hi j0
      have := (all m).2
      omega
  obtain ⟨j1, h1, h2⟩ := ex1
  by_cases h : ∃ j, GoodA nx pv c s t j
  · exact h
  · exfalso
    have stp : ∀ j, (s j < t j ∧ s j < s (pv j)) → s j - s (nx j) = c j ∧ s (nx j) < t (nx j) := fun j hj => by
      by_cases q : s j - s (nx j) = c j ∧ s (nx j) < t (nx j)
      · exact q
      · exact absurd ⟨j, hj.1, ⟨by omega, (base j hj.1).2⟩, q⟩ h
    have all := C.indn (fun m => (s m < t m ∧ s m < s (pv m)) ∧ s m ≤ s j1) j1 ⟨⟨h1, h2⟩, by omega⟩ (fun i ⟨a, b⟩ => by
      obtain ⟨e, f⟩ := stp i a
      have := hc i
      refine ⟨⟨f, ?_⟩, by omega⟩
      rw [C.pn]
      omega)
    have := (all (pv j1)).2
    omega

/-- behind such an advance nothing objects -/
theorem after_adv (C : Cyc nx pv) (N : NoObj nx c s t) {j : I} (G : GoodA nx pv c s t j) : NoObj nx c (put s j (s j + 1)) t := by
  obtain ⟨w, ⟨a1, a2⟩, nj⟩ := G
  have ne1 := C.ne j
  have ne2 := C.nep j
  refine ⟨fun i h => ?_, fun i h => ?_, fun i => ?_, ?_⟩
  · by_cases e : i = j
    · subst e
      rw [put_same, put_ne _ _ ne1] at h ⊢
      by_cases q : s i - s (nx i) = c i
      · refine ⟨by omega, ?_⟩
        by_cases f : s (nx i) < t (nx i)
        · exact absurd ⟨q, f⟩ nj
        · omega
      · have z := N.jam i (by omega)
        omega
    · by_cases f : nx i = j
      · have e2 : i = pv j := by rw [← f, C.pn]
        rw [f, put_same, put_ne _ _ e] at h
        rw [← e2] at a1 a2
        omega
      · rw [put_ne _ _ e, put_ne _ _ f] at h ⊢
        exact N.jam i h
  · have z := N.orp i h
    by_cases e : i = j
    · subst e
      rw [put_same, put_ne _ _ ne1]
      exact ⟨by omega, z.2⟩
    · by_cases f : nx i = j
      · rw [f] at z ⊢
        rw [put_same, put_ne _ _ e]
        exact ⟨z.1, by omega⟩
      · rw [put_ne _ _ e, put_ne _ _ f]
        exact z
  · obtain ⟨m, hm⟩ := N.hi i
    refine ⟨m, ?_⟩
    by_cases e : m = j
    · subst e
      rw [put_same]
      omega
    · rw [put_ne _ _ e]
      exact hm
  · -- the least one may have risen
    have key : ∀ i, ∃ m, put s j (s j + 1) m ≤ t i := by
      intro i
      by_cases h : ∃ m, put s j (s j + 1) m ≤ t i
      · exact h
      · exfalso
        have up : ∀ m, t i < put s j (s j + 1) m := fun m => by
          by_cases q : put s j (s j + 1) m ≤ t i
          · exact absurd ⟨m, q⟩ h
          · omega
        -- every stage's target is the old least counter
        have low : ∀ k, s j ≤ t k := fun k => by
          obtain ⟨m, hm⟩ := N.lo k
          by_cases e : m = j
          · rw [← e]; exact hm
          · have := up m
            rw [put_ne _ _ e] at this
            have u := up j
            rw [put_same] at u
            obtain ⟨m2, hm2⟩ := N.lo i
            by_cases e2 : m2 = j
            · subst e2
              omega
            · have := up m2
              rw [put_ne _ _ e2] at this
              omega
        have u := up j
        rw [put_same] at u
        have ti : t i = s j := by
          have := low i
          omega
        have all := C.indn (fun m => t m = s j ∧ m ≠ j) i ⟨ti, fun e => by subst e; omega⟩ (fun m ⟨h1, h2⟩ => by
          have lm : t m < s m := by
            have := up m
            rw [put_ne _ _ h2] at this
            omega
          by_cases q : t m - t (nx m) < 0
          · have := N.orp m q
            omega
          · have := low (nx m)
            refine ⟨by omega, fun e => ?_⟩
            rw [e] at q
            omega)
        exact (all j).2 rfl
    exact key

/-- whatever is not objected to behind an allowed advance is not objected to ahead of it -/
theorem before_adv (C : Cyc nx pv) {j : I} (a : Adv pv c s j) (N : NoObj nx c (put s j (s j + 1)) t) : NoObj nx c s t := by
  obtain ⟨a1, a2⟩ := a
  have ne1 := C.ne j
  have ne2 := C.nep j
  refine ⟨fun i h => ?_, fun i h => ?_, fun i => ?_, fun i => ?_⟩
  · by_cases f : nx i = j
    · have e2 : i = pv j := by rw [← f, C.pn]
      rw [f] at h
      rw [← e2] at a2
      omega
    · have z := N.jam i
      by_cases e : i = j
      · subst e
        rw [put_same, put_ne _ _ f] at z
        have := z (by omega)
        omega
      · rw [put_ne _ _ e, put_ne _ _ f] at z
        exact z h
  · have z := N.orp i h
    by_cases f : nx i = j
    · have e2 : i = pv j := by rw [← f, C.pn]
      have e : i ≠ j := by rw [e2]; exact ne2
      rw [f] at z h ⊢
      rw [put_same, put_ne _ _ e] at z
      rw [← e2] at a1 a2
      omega
    · by_cases e : i = j
      · subst e
        rw [put_same, put_ne _ _ f] at z
        omega
      · rw [put_ne _ _ e, put_ne _ _ f] at z
        exact z
  · obtain ⟨m, hm⟩ := N.hi i
    by_cases e : m = j
    · subst e
      rw [put_same] at hm
      exact ⟨pv m, by omega⟩
    · rw [put_ne _ _ e] at hm
      exact ⟨m, hm⟩
  · obtain ⟨m, hm⟩ := N.lo i
    by_cases e : m = j
    · subst e
      rw [put_same] at hm
      exact ⟨m, by omega⟩
    · rw [put_ne _ _ e] at hm
      exact ⟨m, hm⟩
/-- an allowed advance towards the target, nothing objecting behind it, jams nothing that is wanted -/
theorem good_of_adv (C : Cyc nx pv) {j : I} (w : s j < t j) (a : Adv pv c s j) (N : NoObj nx c (put s j (s j + 1)) t) : GoodA nx pv c s t j := by
  refine ⟨w, a, fun ⟨h1, h2⟩ => ?_⟩
  have z := N.jam j
  rw [put_same, put_ne _ _ (C.ne j)] at z
  have := z (by omega)
  omega

/-! ### the same for rollbacks, by the mirror -/
theorem Cyc.mir (C : Cyc nx pv) : Cyc pv nx := ⟨C.pn, C.np, C.nep, C.indn, C.indp⟩
theorem NoObj.mir (C : Cyc nx pv) (N : NoObj nx c s t) : NoObj pv (fun i => c (pv i)) (fun i => - s i) (fun i => - t i) := by
  refine ⟨fun i h => ?_, fun i h => ?_, fun i => ?_, fun i => ?_⟩
  · have z := N.jam (pv i)
    rw [C.np] at z
    have := z (by omega)
    constructor <;> omega
  · have z := N.orp (pv i)
    rw [C.np] at z
    have := z (by omega)
    constructor <;> omega
  · obtain ⟨m, hm⟩ := N.lo i
    exact ⟨m, by omega⟩
  · obtain ⟨m, hm⟩ := N.hi i
    exact ⟨m, by omega⟩
theorem NoObj.unmir (C : Cyc nx pv) (N : NoObj pv (fun i => c (pv i)) (fun i => - s i) (fun i => - t i)) : NoObj nx c s t := by
  have z := NoObj.mir C.mir N
  have e1 : (fun i => c (pv (nx i))) = c := by funext i; rw [C.pn]
  have e2 : (fun i => - - s i) = s := by funext i; omega
  have e3 : (fun i => - - t i) = t := by funext i; omega
  rw [e1, e2, e3] at z
  exact z
theorem put_mir (s : I → Int) (j : I) (v : Int) : (fun i => - put s j v i) = put (fun i => - s i) j (- v) := by
  funext i
  by_cases e : i = j
  · subst e
    rw [put_same, put_same]
  · rw [put_ne _ _ e, put_ne _ _ e]
theorem goodR_mir (C : Cyc nx pv) {j : I} : GoodR nx pv c s t j ↔ GoodA pv nx (fun i => c (pv i)) (fun i => - s i) (fun i => - t i) j := by
  unfold GoodR GoodA Rol Adv
  simp only [C.pn]
  constructor
  · rintro ⟨h1, ⟨h2, h3⟩, h4⟩
    exact ⟨by omega, ⟨by omega, by omega⟩, fun ⟨a, b⟩ => h4 ⟨by omega, by omega⟩⟩
  · rintro ⟨h1, ⟨h2, h3⟩, h4⟩
    exact ⟨by omega, ⟨by omega, by omega⟩, fun ⟨a, b⟩ => h4 ⟨by omega, by omega⟩⟩
theorem rol_mir (C : Cyc nx pv) {j : I} : Rol nx c s j ↔ Adv nx (fun i => c (pv i)) (fun i => - s i) j := by
  unfold Rol Adv
  simp only [C.pn]
  constructor
  · rintro ⟨h2, h3⟩
    exact ⟨by omega, by omega⟩
  · rintro ⟨h2, h3⟩
    exact ⟨by omega, by omega⟩
theorem good_rol (C : Cyc nx pv) (hc : ∀ i, 1 ≤ c i) (N : NoObj nx c s t) {j0 : I} (w0 : t j0 < s j0) : ∃ j, GoodR nx pv c s t j := by
  obtain ⟨j, h⟩ := good_adv (j0 := j0) C.mir (fun i => hc (pv i)) (N.mir C) (by omega)
  exact ⟨j, (goodR_mir C).mpr h⟩
theorem put_mir1 (s : I → Int) (j : I) : (fun i => - put s j (s j - 1) i) = put (fun i => - s i) j ((fun i => - s i) j + 1) := by
  rw [put_mir]
  congr 1
  show - (s j - 1) = - s j + 1
  omega
theorem after_rol (C : Cyc nx pv) (N : NoObj nx c s t) {j : I} (G : GoodR nx pv c s t j) : NoObj nx c (put s j (s j - 1)) t := by
  refine NoObj.unmir C ?_
  rw [put_mir1]
  exact after_adv C.mir (N.mir C) ((goodR_mir C).mp G)
theorem before_rol (C : Cyc nx pv) {j : I} (a : Rol nx c s j) (N : NoObj nx c (put s j (s j - 1)) t) : NoObj nx c s t := by
  refine NoObj.unmir C (before_adv C.mir ((rol_mir C).mp a) ?_)
  have z := N.mir C
  rw [put_mir1] at z
  exact z
theorem good_of_rol (C : Cyc nx pv) {j : I} (w : t j < s j) (a : Rol nx c s j) (N : NoObj nx c (put s j (s j - 1)) t) : GoodR nx pv c s t j := by
  have z := N.mir C
  rw [put_mir1] at z
  exact (goodR_mir C).mpr (good_of_adv C.mir (show - s j < - t j by omega) ((rol_mir C).mp a) z)
theorem NoObj.refl (c s : I → Int) : NoObj nx c s s :=
  ⟨fun _ _ => ⟨Int.le_refl _, Int.le_refl _⟩, fun _ _ => ⟨Int.le_refl _, Int.le_refl _⟩, fun i => ⟨i, Int.le_refl _⟩, fun i => ⟨i, Int.le_refl _⟩⟩
end

/-! ### the circle of the numbers below n -/
def nxN (n i : Nat) : Nat := (i + 1) % n
def pvN (n i : Nat) : Nat := (i + n - 1) % n
theorem nxN_lt {n : Nat} (h : 3 ≤ n) (i : Nat) : nxN n i < n := Nat.mod_lt _ (by omega)
theorem pvN_lt {n : Nat} (h : 3 ≤ n) (i : Nat) : pvN n i < n := Nat.mod_lt _ (by omega)
theorem nxN_eq {n i : Nat} (h : i < n) : nxN n i = if i + 1 = n then 0 else i + 1 := by
  unfold nxN
  split
  · rename_i e; rw [e, Nat.mod_self]
  · exact Nat.mod_eq_of_lt (by omega)
theorem pvN_eq {n i : Nat} (h : i < n) : pvN n i = if i = 0 then n - 1 else i - 1 := by
  unfold pvN
  split
  · rename_i e
    subst e
    rw [Nat.zero_add]
    exact Nat.mod_eq_of_lt (by omega)
  · have e : i + n - 1 = (i - 1) + n := by omega
    rw [e, Nat.add_mod_right]
    exact Nat.mod_eq_of_lt (by omega)
theorem cyc_fin {n : Nat} (h : 3 ≤ n) : Cyc (I := Fin n) (fun i => ⟨nxN n i.1, nxN_lt h _⟩) (fun i => ⟨pvN n i.1, pvN_lt h _⟩) := by
  have down : ∀ (P : Fin n → Prop) (j : Fin n), P j → (∀ i, P i → P ⟨pvN n i.1, pvN_lt h _⟩) → ∀ m, P m := by
    intro P j hj st
    have z : ∀ (k : Nat) (hk : k < n), P ⟨k, hk⟩ → P ⟨0, by omega⟩ := by
      intro k
      induction k with
      | zero => intro hk p; exact p
      | succ k ih =>
        intro hk p
        refine ih (by omega) ?_
        have q := st _ p
        have e : pvN n (k + 1) = k := by rw [pvN_eq hk, if_neg (by omega)]; omega
        simp only [e] at q
        exact q
    have p0 := z j.1 j.2 hj
    have pl : P ⟨n - 1, by omega⟩ := by
      have q := st _ p0
      have e : pvN n 0 = n - 1 := by rw [pvN_eq (by omega), if_pos rfl]
      simp only [e] at q
      exact q
    have up : ∀ (k : Nat) (hk : k ≤ n - 1), P ⟨n - 1 - k, by omega⟩ := by
      intro k
      induction k with
      | zero => intro hk; exact pl
      | succ k ih =>
        intro hk
        have q := st _ (ih (by omega))
        have e : pvN n (n - 1 - k) = n - 1 - (k + 1) := by rw [pvN_eq (by omega), if_neg (by omega)]; omega
        simp only [e] at q
        exact q
    intro m
    have q := up (n - 1 - m.1) (by omega)
    have e : n - 1 - (n - 1 - m.1) = m.1 := by omega
    simp only [e] at q
    exact q
  have rise : ∀ (P : Fin n → Prop) (j : Fin n), P j → (∀ i, P i → P ⟨nxN n i.1, nxN_lt h _⟩) → ∀ m, P m := by
    intro P j hj st
    have z : ∀ (k : Nat) (hk : k ≤ n - 1), P ⟨n - 1 - k, by omega⟩ → P ⟨n - 1, by omega⟩ := by
      intro k
      induction k with
      | zero => intro hk p; exact p
      | succ k ih =>
        intro hk p
        refine ih (by omega) ?_
        have q := st _ p
        have e : nxN n (n - 1 - (k + 1)) = n - 1 - k := by rw [nxN_eq (by omega), if_neg (by omega)]; omega
        simp only [e] at q
        exact q
    have pl : P ⟨n - 1, by omega⟩ := by
      refine z (n - 1 - j.1) (by omega) ?_
      have e : n - 1 - (n - 1 - j.1) = j.1 := by omega
      simp only [e]
      exact hj
    have p0 : P ⟨0, by omega⟩ := by
      have q := st _ pl
      have e : nxN n (n - 1) = 0 := by rw [nxN_eq (by omega), if_pos (by omega)]
      simp only [e] at q
      exact q
    have up : ∀ (k : Nat) (hk : k < n), P ⟨k, hk⟩ := by
      intro k
      induction k with
      | zero => intro hk; exact p0
      | succ k ih =>
        intro hk
        have q := st _ (ih (by omega))
        have e : nxN n k = k + 1 := by rw [nxN_eq (by omega), if_neg (by omega)]
        simp only [e] at q
        exact q
    exact fun m => up m.1 m.2
  refine ⟨fun i => Fin.ext ?_, fun i => Fin.ext ?_, fun i e => ?_, down, rise⟩
  · show nxN n (pvN n i.1) = i.1
    have hi := i.2
    rw [pvN_eq hi]
    split
    · rw [nxN_eq (by omega), if_pos (by omega)]; omega
    · rw [nxN_eq (by omega), if_neg (by omega)]; omega
  · show pvN n (nxN n i.1) = i.1
    have hi := i.2
    rw [nxN_eq hi]
    split
    · rw [pvN_eq (by omega), if_pos rfl]; omega
    · rw [pvN_eq (by omega), if_neg (by omega)]; omega
  · have q : nxN n i.1 = i.1 := congrArg Fin.val e
    have hi := i.2
    rw [nxN_eq hi] at q
    split at q <;> omega
end WM

/-! The same over lists: states, moves, objections, gaps, first moves, plans, the states of a window. -/
namespace WM
set_option linter.all false
set_option linter.unusedVariables false
abbrev Mv := Nat × Bool
def gi (xs : List Int) (i : Nat) : Int := xs.getD i 0
theorem gi_get {xs : List Int} {i : Nat} (h : i < xs.length) : xs[i]? = some (gi xs i) := by
  unfold gi
  rw [List.getD_eq_getElem?_getD, List.getElem?_eq_getElem h]
  rfl
theorem gi_mem {xs : List Int} {i : Nat} (h : i < xs.length) : gi xs i ∈ xs := List.mem_of_getElem? (gi_get h)
theorem gi_of_mem {xs : List Int} {v : Int} (h : v ∈ xs) : ∃ i, i < xs.length ∧ gi xs i = v := by
  obtain ⟨i, hi, e⟩ := List.getElem_of_mem h
  refine ⟨i, hi, ?_⟩
  have z := gi_get hi
  rw [List.getElem?_eq_getElem hi, e] at z
  exact (Option.some.inj z).symm
theorem gi_set {xs : List Int} {i j : Nat} {v : Int} (h : j < xs.length) : gi (xs.set j v) i = if i = j then v else gi xs i := by
  unfold gi
  rw [List.getD_eq_getElem?_getD, List.getD_eq_getElem?_getD, List.getElem?_set]
  by_cases e : i = j
  · subst e
    rw [if_pos rfl, if_pos rfl, if_pos h]
    rfl
  · rw [if_neg (Ne.symm e), if_neg e]
theorem ext_gi {xs ys : List Int} (hl : xs.length = ys.length) (h : ∀ i, i < xs.length → gi xs i = gi ys i) : xs = ys := by
  apply List.ext_getElem? 
  intro i
  by_cases hi : i < xs.length
  · rw [gi_get hi, gi_get (hl ▸ hi), h i hi]
  · rw [List.getElem?_eq_none (by omega), List.getElem?_eq_none (by omega)]
def ld (n : Nat) (s : List Int) (i : Nat) : Int := gi s i - gi s (nxN n i)
/-- the channel that a move draws from -/
def sideM (n : Nat) (m : Mv) : Nat := if m.2 = true then pvN n m.1 else m.1
def readyL (caps s : List Int) (i : Nat) : Bool := decide (1 ≤ ld caps.length s i) && decide (ld caps.length s i ≤ gi caps i)
def okM (caps s : List Int) (m : Mv) : Bool := readyL caps s (sideM caps.length m)
def newC (s : List Int) (m : Mv) : Int := if m.2 = true then gi s m.1 + 1 else gi s m.1 - 1
def aftM (s : List Int) (m : Mv) : List Int := s.set m.1 (newC s m)
theorem aftM_len (s : List Int) (m : Mv) : (aftM s m).length = s.length := List.length_set
theorem aftM_cut {s : List Int} {m : Mv} (h : m.1 < s.length) : s.take m.1 ++ [newC s m] ++ s.drop (m.1 + 1) = aftM s m := by
  unfold aftM
  rw [List.set_eq_take_append_cons_drop, if_pos h]
  simp
def absI (d : Int) : Int := if d < 0 then -d else d
def gapL (s t : List Int) : Int := ((s.zip t).map fun p => absI (p.2 - p.1)).sum
theorem absI_nn (d : Int) : 0 ≤ absI d := by unfold absI; split <;> omega
theorem gapL_nil (t : List Int) : gapL [] t = 0 := rfl
theorem gapL_cons (x y : Int) (s t : List Int) : gapL (x :: s) (y :: t) = absI (y - x) + gapL s t := by
  unfold gapL
  simp
theorem gapL_nn : ∀ s t : List Int, 0 ≤ gapL s t
  | [], t => by rw [gapL_nil]; exact Int.le_refl _
  | x :: s, [] => by unfold gapL; simp
  | x :: s, y :: t => by
    rw [gapL_cons]
    have := gapL_nn s t
    have := absI_nn (y - x)
    omega
theorem gapL_zero : ∀ {s t : List Int}, s.length = t.length → gapL s t = 0 → s = t
  | [], [], _, _ => rfl
  | [], y :: t, h, _ => by simp at h
  | x :: s, [], h, _ => by simp at h
  | x :: s, y :: t, h, e => by
    rw [gapL_cons] at e
    have a := gapL_nn s t
    have b := absI_nn (y - x)
    have e1 : absI (y - x) = 0 := by omega
    have e2 : x = y := by unfold absI at e1; split at e1 <;> omega
    rw [gapL_zero (by simpa using h) (show gapL s t = 0 by omega), e2]
theorem gapL_self : ∀ s : List Int, gapL s s = 0
  | [] => rfl
  | x :: s => by rw [gapL_cons, gapL_self s, Int.sub_self]; rfl
theorem gapL_set : ∀ {s t : List Int} {j : Nat} (v : Int), j < s.length → s.length = t.length → gapL (s.set j v) t = gapL s t - absI (gi t j - gi s j) + absI (gi t j - v)
  | [], _, j, v, h, _ => by simp at h
  | x :: s, [], j, v, _, hl => by simp at hl
  | x :: s, y :: t, 0, v, _, _ => by
    rw [List.set_cons_zero, gapL_cons, gapL_cons]
    show _ = absI (y - x) + gapL s t - absI (y - x) + absI (y - v)
    omega
  | x :: s, y :: t, j + 1, v, h, hl => by
    rw [List.set_cons_succ, gapL_cons, gapL_cons, gapL_set v (by simpa using h) (by simpa using hl)]
    show _ = _ - absI (gi t j - gi s j) + absI (gi t j - v)
    omega
theorem gapL_set' : ∀ {s t : List Int} {j : Nat} (v : Int), j < t.length → s.length = t.length → gapL s (t.set j v) = gapL s t - absI (gi t j - gi s j) + absI (v - gi s j)
  | [], t, j, v, h, hl => by
    have : t.length = 0 := by rw [← hl]; rfl
    omega
  | x :: s, [], j, v, _, hl => by simp at hl
  | x :: s, y :: t, 0, v, _, _ => by
    rw [List.set_cons_zero, gapL_cons, gapL_cons]
    show _ = absI (y - x) + gapL s t - absI (y - x) + absI (v - x)
    omega
  | x :: s, y :: t, j + 1, v, h, hl => by
    rw [List.set_cons_succ, gapL_cons, gapL_cons, gapL_set' v (by simpa using h) (by simpa using hl)]
    show _ = _ - absI (gi t j - gi s j) + absI (v - gi s j)
    omega
theorem newC_near (s : List Int) (m : Mv) : newC s m = gi s m.1 + 1 ∨ newC s m = gi s m.1 - 1 := by
  unfold newC; split
  · exact .inl rfl
  · exact .inr rfl
theorem gap_lip1 {s t : List Int} {m : Mv} (h : m.1 < s.length) (hl : s.length = t.length) : gapL (aftM s m) t ≤ gapL s t + 1 ∧ gapL s t ≤ gapL (aftM s m) t + 1 := by
  unfold aftM
  rw [gapL_set _ h hl]
  rcases newC_near s m with e | e <;> rw [e] <;> unfold absI <;> split <;> split <;> omega
theorem gap_lip2 {s t : List Int} {m : Mv} (h : m.1 < t.length) (hl : s.length = t.length) : gapL s (aftM t m) ≤ gapL s t + 1 ∧ gapL s t ≤ gapL s (aftM t m) + 1 := by
  unfold aftM
  rw [gapL_set' _ h hl]
  rcases newC_near t m with e | e <;> rw [e] <;> unfold absI <;> split <;> split <;> omega

/-! ### objections -/
inductive Tag where | above | below | jammed | orphan
  deriving DecidableEq
def maxL : List Int → Int
  | [] => 0
  | x :: xs => xs.foldl (fun a b => if b > a then b else a) x
def minL : List Int → Int
  | [] => 0
  | x :: xs => xs.foldl (fun a b => if b < a then b else a) x
theorem fold_max : ∀ (xs : List Int) (x : Int), (xs.foldl (fun a b => if b > a then b else a) x = x ∨ xs.foldl (fun a b => if b > a then b else a) x ∈ xs) ∧ x ≤ xs.foldl (fun a b => if b > a then b else a) x ∧ ∀ y ∈ xs, y ≤ xs.foldl (fun a b => if b > a then b else a) x
  | [], x => ⟨.inl rfl, Int.le_refl _, fun _ h => by cases h⟩
  | z :: xs, x => by
    rw [List.foldl_cons]
    obtain ⟨h1, h2, h3⟩ := fold_max xs (if z > x then z else x)
    have za : x ≤ (if z > x then z else x) := by split <;> omega
    have zb : z ≤ (if z > x then z else x) := by split <;> omega
    refine ⟨?_, ?_, fun y hy => ?_⟩
    · rcases h1 with h1 | h1
      · rw [h1]
        split
        · exact .inr List.mem_cons_self
        · exact .inl rfl
      · exact .inr (List.mem_cons_of_mem _ h1)
    · exact Int.le_trans za h2
    · rcases List.mem_cons.1 hy with rfl | hy
      · exact Int.le_trans zb h2
      · exact h3 y hy
theorem fold_min : ∀ (xs : List Int) (x : Int), (xs.foldl (fun a b => if b < a then b else a) x = x ∨ xs.foldl (fun a b => if b < a then b else a) x ∈ xs) ∧ xs.foldl (fun a b => if b < a then b else a) x ≤ x ∧ ∀ y ∈ xs, xs.foldl (fun a b => if b < a then b else a) x ≤ y
  | [], x => ⟨.inl rfl, Int.le_refl _, fun _ h => by cases h⟩
  | z :: xs, x => by
    rw [List.foldl_cons]
    obtain ⟨h1, h2, h3⟩ := fold_min xs (if z < x then z else x)
    have za : (if z < x then z else x) ≤ x := by split <;> omega
    have zb : (if z < x then z else x) ≤ z := by split <;> omega
    refine ⟨?_, ?_, fun y hy => ?_⟩
    · rcases h1 with h1 | h1
      · rw [h1]
        split
        · exact .inr List.mem_cons_self
        · exact .inl rfl
      · exact .inr (List.mem_cons_of_mem _ h1)
    · exact Int.le_trans h2 za
    · rcases List.mem_cons.1 hy with rfl | hy
      · exact Int.le_trans h2 zb
      · exact h3 y hy
theorem maxL_is {xs : List Int} (h : 0 < xs.length) : maxL xs ∈ xs ∧ ∀ y ∈ xs, y ≤ maxL xs := by
  cases xs with
  | nil => simp at h
  | cons x xs =>
    obtain ⟨h1, h2, h3⟩ := fold_max xs x
    refine ⟨?_, fun y hy => ?_⟩
    · rcases h1 with h1 | h1
      · exact List.mem_cons.mpr (.inl h1)
      · exact List.mem_cons_of_mem _ h1
    · rcases List.mem_cons.1 hy with rfl | hy
      · exact h2
      · exact h3 y hy
theorem minL_is {xs : List Int} (h : 0 < xs.length) : minL xs ∈ xs ∧ ∀ y ∈ xs, minL xs ≤ y := by
  cases xs with
  | nil => simp at h
  | cons x xs =>
    obtain ⟨h1, h2, h3⟩ := fold_min xs x
    refine ⟨?_, fun y hy => ?_⟩
    · rcases h1 with h1 | h1
      · exact List.mem_cons.mpr (.inl h1)
      · exact List.mem_cons_of_mem _ h1
    · rcases List.mem_cons.1 hy with rfl | hy
      · exact h2
      · exact h3 y hy
theorem maxL_eq {xs : List Int} {m : Int} (h : m ∈ xs) (hm : ∀ y ∈ xs, y ≤ m) : m = maxL xs := by
  obtain ⟨a, b⟩ := maxL_is (List.length_pos_of_mem h)
  have := hm _ a
  have := b _ h
  omega
theorem minL_eq {xs : List Int} {m : Int} (h : m ∈ xs) (hm : ∀ y ∈ xs, m ≤ y) : m = minL xs := by
  obtain ⟨a, b⟩ := minL_is (List.length_pos_of_mem h)
  have := hm _ a
  have := b _ h
  omega

def aboveB (s t : List Int) (i : Nat) : Bool := decide (maxL s < gi t i)
def belowB (s t : List Int) (i : Nat) : Bool := decide (gi t i < minL s)
def drawnB (n : Nat) (s t : List Int) (i : Nat) : Bool := decide (gi t i < gi s i) || decide (gi s (nxN n i) < gi t (nxN n i))
def jamB (caps s : List Int) (i : Nat) : Bool := decide (gi caps i < ld caps.length s i)
def oweB (n : Nat) (t : List Int) (i : Nat) : Bool := decide (ld n t i < 0)
def pick (n : Nat) (f : Nat → Bool) : List Nat := (List.range n).filter f
def drawnL (n : Nat) (s t : List Int) : List Nat := pick n (drawnB n s t)
def objs (caps s t : List Int) : List (Tag × Nat) :=
  ((pick caps.length (aboveB s t)).map (fun i => (Tag.above, i)) ++ (pick caps.length (belowB s t)).map (fun i => (Tag.below, i))) ++
  (((drawnL caps.length s t).filter (jamB caps s)).map (fun i => (Tag.jammed, i)) ++ ((drawnL caps.length s t).filter (oweB caps.length t)).map (fun i => (Tag.orphan, i)))
def Free (caps s t : List Int) : Prop := objs caps s t = []
instance (caps s t : List Int) : Decidable (Free caps s t) := by unfold Free; infer_instance

theorem pick_nil {n : Nat} {f : Nat → Bool} : pick n f = [] ↔ ∀ i, i < n → f i = false := by
  unfold pick
  rw [List.filter_eq_nil_iff]
  constructor
  · intro h i hi
    have := h i (List.mem_range.2 hi)
    simpa using this
  · intro h i hi
    rw [h i (List.mem_range.1 hi)]
    decide
theorem mem_pick {n : Nat} {f : Nat → Bool} {i : Nat} : i ∈ pick n f ↔ i < n ∧ f i = true := by
  unfold pick
  rw [List.mem_filter, List.mem_range]

structure Shape (caps s t : List Int) : Prop where
  big : 3 ≤ caps.length
  ls : s.length = caps.length
  lt : t.length = caps.length
abbrev nxF (n : Nat) (h : 3 ≤ n) : Fin n → Fin n := fun i => ⟨nxN n i.1, nxN_lt h _⟩
abbrev pvF (n : Nat) (h : 3 ≤ n) : Fin n → Fin n := fun i => ⟨pvN n i.1, pvN_lt h _⟩
abbrev fs (n : Nat) (s : List Int) : Fin n → Int := fun i => gi s i.1
section
variable {caps s t : List Int}
theorem free_iff (S : Shape caps s t) : Free caps s t ↔ NoObj (nxF caps.length S.big) (fs caps.length caps) (fs caps.length s) (fs caps.length t) := by
  have hn := S.big
  have mx := maxL_is (xs := s) (by rw [S.ls]; omega)
  have mn := minL_is (xs := s) (by rw [S.ls]; omega)
  unfold Free objs
  rw [List.append_eq_nil_iff, List.append_eq_nil_iff, List.append_eq_nil_iff, List.map_eq_nil_iff, List.map_eq_nil_iff, List.map_eq_nil_iff, List.map_eq_nil_iff, pick_nil, pick_nil,
    List.filter_eq_nil_iff, List.filter_eq_nil_iff]
  unfold drawnL
  constructor
  · rintro ⟨⟨h1, h2⟩, h3, h4⟩
    refine ⟨fun i h => ?_, fun i h => ?_, fun i => ?_, fun i => ?_⟩
    · have z := h3 i.1
      by_cases d : drawnB caps.length s t i.1 = true
      · have := z (mem_pick.mpr ⟨i.2, d⟩)
        unfold jamB ld at this
        exact absurd (decide_eq_true h) this
      · unfold drawnB at d
        simp only [Bool.or_eq_true, decide_eq_true_eq, not_or] at d
        show gi s i.1 ≤ gi t i.1 ∧ gi t (nxN _ i.1) ≤ gi s (nxN _ i.1)
        omega
    · have z := h4 i.1
      by_cases d : drawnB caps.length s t i.1 = true
      · have := z (mem_pick.mpr ⟨i.2, d⟩)
        unfold oweB ld at this
        exact absurd (decide_eq_true h) this
      · unfold drawnB at d
        simp only [Bool.or_eq_true, decide_eq_true_eq, not_or] at d
        show gi s i.1 ≤ gi t i.1 ∧ gi t (nxN _ i.1) ≤ gi s (nxN _ i.1)
        omega
    · have z := h1 i.1 i.2
      unfold aboveB at z
      have z' := of_decide_eq_false z
      obtain ⟨j, hj, e⟩ := gi_of_mem mx.1
      refine ⟨⟨j, by rw [← S.ls]; exact hj⟩, ?_⟩
      show gi t i.1 ≤ gi s j
      omega
    · have z := h2 i.1 i.2
      unfold belowB at z
      have z' := of_decide_eq_false z
      obtain ⟨j, hj, e⟩ := gi_of_mem mn.1
      refine ⟨⟨j, by rw [← S.ls]; exact hj⟩, ?_⟩
      show gi s j ≤ gi t i.1
      omega
  · intro N
    refine ⟨⟨fun i hi => decide_eq_false ?_, fun i hi => decide_eq_false ?_⟩, fun i hi h => ?_, fun i hi h => ?_⟩
    · obtain ⟨m, hm⟩ := N.hi ⟨i, hi⟩
      have := mx.2 (gi s m.1) (gi_mem (by rw [S.ls]; exact m.2))
      have hm' : gi t i ≤ gi s m.1 := hm
      omega
    · obtain ⟨m, hm⟩ := N.lo ⟨i, hi⟩
      have := mn.2 (gi s m.1) (gi_mem (by rw [S.ls]; exact m.2))
      have hm' : gi s m.1 ≤ gi t i := hm
      omega
    · obtain ⟨hi, d⟩ := mem_pick.mp hi
      unfold jamB ld at h
      have z : gi s i ≤ gi t i ∧ gi t (nxN caps.length i) ≤ gi s (nxN caps.length i) := N.jam ⟨i, hi⟩ (of_decide_eq_true h)
      unfold drawnB at d
      simp only [Bool.or_eq_true, decide_eq_true_eq] at d
      omega
    · obtain ⟨hi, d⟩ := mem_pick.mp hi
      unfold oweB ld at h
      have z : gi s i ≤ gi t i ∧ gi t (nxN caps.length i) ≤ gi s (nxN caps.length i) := N.orp ⟨i, hi⟩ (of_decide_eq_true h)
      unfold drawnB at d
      simp only [Bool.or_eq_true, decide_eq_true_eq] at d
      omega
theorem Shape.aft (S : Shape caps s t) (m : Mv) : Shape caps (aftM s m) t := ⟨S.big, by rw [aftM_len]; exact S.ls, S.lt⟩
theorem Shape.aft2 (S : Shape caps s t) (m : Mv) : Shape caps s (aftM t m) := ⟨S.big, S.ls, by rw [aftM_len]; exact S.lt⟩
theorem Shape.same (S : Shape caps s t) : Shape caps s s := ⟨S.big, S.ls, S.ls⟩
theorem Shape.same2 (S : Shape caps s t) : Shape caps t t := ⟨S.big, S.lt, S.lt⟩
theorem fs_aft (S : Shape caps s t) {m : Mv} (h : m.1 < caps.length) : fs caps.length (aftM s m) = put (fs caps.length s) ⟨m.1, h⟩ (newC s m) := by
  funext i
  show gi (s.set m.1 (newC s m)) i.1 = _
  rw [gi_set (by rw [S.ls]; exact h)]
  unfold put
  by_cases e : i.1 = m.1
  · rw [if_pos e, if_pos (Fin.ext e)]
  · rw [if_neg e, if_neg (fun q => e (congrArg Fin.val q))]
theorem free_self (S : Shape caps s t) : Free caps s s := (free_iff S.same).mpr (NoObj.refl _ _)
theorem okM_adv {j : Nat} (hn : 3 ≤ caps.length) (h : j < caps.length) : okM caps s (j, true) = true ↔ Adv (pvF caps.length hn) (fs caps.length caps) (fs caps.length s) ⟨j, h⟩ := by
  have e : nxN caps.length (pvN caps.length j) = j := congrArg Fin.val ((cyc_fin hn).np ⟨j, h⟩)
  unfold okM readyL ld sideM Adv
  simp only [if_true, e, Bool.and_eq_true, decide_eq_true_eq]
theorem okM_rol {j : Nat} (hn : 3 ≤ caps.length) (h : j < caps.length) : okM caps s (j, false) = true ↔ Rol (nxF caps.length hn) (fs caps.length caps) (fs caps.length s) ⟨j, h⟩ := by
  unfold okM readyL ld sideM Rol
  simp only [Bool.false_eq_true, if_false, Bool.and_eq_true, decide_eq_true_eq]
/-- behind an allowed move nothing new objects -/
theorem free_before (S : Shape caps s t) {m : Mv} (h : m.1 < caps.length) (a : okM caps s m = true) (N : Free caps (aftM s m) t) : Free caps s t := by
  have C := cyc_fin S.big
  rw [free_iff S]
  rw [free_iff (S.aft m), fs_aft S h] at N
  obtain ⟨j, k⟩ := m
  cases k with
  | true => exact before_adv C ((okM_adv S.big h).mp a) N
  | false => exact before_rol C ((okM_rol S.big h).mp a) N
end

/-! ### first moves -/
/-- the move jams a channel that another stage must still draw from -/
def jamsB (caps s t : List Int) (m : Mv) : Bool :=
  if m.2 = true then decide (ld caps.length s m.1 = gi caps m.1) && decide (gi s (nxN caps.length m.1) < gi t (nxN caps.length m.1))
  else decide (ld caps.length s (pvN caps.length m.1) = gi caps (pvN caps.length m.1)) && decide (gi t (pvN caps.length m.1) < gi s (pvN caps.length m.1))
def towards (n : Nat) (s t : List Int) : List Mv := (pick n fun i => decide (gi t i ≠ gi s i)).map fun i => (i, decide (gi s i < gi t i))
def firstOf (caps s t : List Int) : List Mv := (towards caps.length s t).filter fun m => okM caps s m && !jamsB caps s t m
theorem mem_towards {n : Nat} {s t : List Int} {m : Mv} : m ∈ towards n s t ↔ m.1 < n ∧ (if m.2 = true then gi s m.1 < gi t m.1 else gi t m.1 < gi s m.1) := by
  unfold towards
  rw [List.mem_map]
  constructor
  · rintro ⟨i, hi, rfl⟩
    obtain ⟨h1, h2⟩ := mem_pick.mp hi
    have h2' := of_decide_eq_true h2
    refine ⟨h1, ?_⟩
    by_cases q : gi s i < gi t i
    · rw [decide_eq_true q, if_pos rfl]; exact q
    · rw [decide_eq_false q, if_neg (Bool.false_ne_true)]
      show gi t i < gi s i
      omega
  · obtain ⟨j, k⟩ := m
    rintro ⟨h1, h2⟩
    refine ⟨j, mem_pick.mpr ⟨h1, decide_eq_true ?_⟩, ?_⟩
    · cases k
      · rw [if_neg (Bool.false_ne_true)] at h2
        have h2' : gi t j < gi s j := h2
        omega
      · rw [if_pos rfl] at h2
        have h2' : gi s j < gi t j := h2
        omega
    · cases k
      · rw [if_neg (Bool.false_ne_true)] at h2
        have h2' : gi t j < gi s j := h2
        rw [decide_eq_false_iff_not.2 (by omega)]
      · rw [if_pos rfl] at h2
        have h2' : gi s j < gi t j := h2
        rw [decide_eq_true h2']
section
variable {caps s t : List Int}
theorem mem_first {m : Mv} (S : Shape caps s t) : m ∈ firstOf caps s t ↔ ∃ h : m.1 < caps.length, if m.2 = true then GoodA (nxF caps.length S.big) (pvF caps.length S.big) (fs caps.length caps) (fs caps.length s) (fs caps.length t) ⟨m.1, h⟩
    else GoodR (nxF caps.length S.big) (pvF caps.length S.big) (fs caps.length caps) (fs caps.length s) (fs caps.length t) ⟨m.1, h⟩ := by
  unfold firstOf
  rw [List.mem_filter, mem_towards]
  obtain ⟨j, k⟩ := m
  cases k with
  | true =>
    simp only [if_true, Bool.and_eq_true, Bool.not_eq_true']
    constructor
    · rintro ⟨⟨h1, h2⟩, h3, h4⟩
      refine ⟨h1, h2, (okM_adv S.big h1).mp h3, fun q => ?_⟩
      unfold jamsB ld at h4
      rw [if_pos rfl] at h4
      have q1 : gi s j - gi s (nxN caps.length j) = gi caps j := q.1
      have q2 : gi s (nxN caps.length j) < gi t (nxN caps.length j) := q.2
      simp only [decide_eq_true q1, decide_eq_true q2] at h4
      exact Bool.noConfusion h4
    · rintro ⟨h1, g1, g2, g3⟩
      refine ⟨⟨h1, g1⟩, (okM_adv S.big h1).mpr g2, ?_⟩
      unfold jamsB ld
      rw [if_pos rfl]
      cases e : decide (gi s j - gi s (nxN caps.length j) = gi caps j) && decide (gi s (nxN caps.length j) < gi t (nxN caps.length j)) with
      | false => rfl
      | true =>
        rw [Bool.and_eq_true] at e
        exact absurd ⟨of_decide_eq_true e.1, of_decide_eq_true e.2⟩ g3
  | false =>
    simp only [Bool.false_eq_true, if_false, Bool.and_eq_true, Bool.not_eq_true']
    constructor
    · rintro ⟨⟨h1, h2⟩, h3, h4⟩
      have e : nxN caps.length (pvN caps.length j) = j := congrArg Fin.val ((cyc_fin S.big).np ⟨j, h1⟩)
      refine ⟨h1, h2, (okM_rol S.big h1).mp h3, fun q => ?_⟩
      unfold jamsB ld at h4
      rw [if_neg (Bool.false_ne_true), e] at h4
      have q1 : gi s (pvN caps.length j) - gi s j = gi caps (pvN caps.length j) := q.1
      have q2 : gi t (pvN caps.length j) < gi s (pvN caps.length j) := q.2
      simp only [decide_eq_true q1, decide_eq_true q2] at h4
      exact Bool.noConfusion h4
    · rintro ⟨h1, g1, g2, g3⟩
      have e : nxN caps.length (pvN caps.length j) = j := congrArg Fin.val ((cyc_fin S.big).np ⟨j, h1⟩)
      refine ⟨⟨h1, g1⟩, (okM_rol S.big h1).mpr g2, ?_⟩
      unfold jamsB ld
      rw [if_neg (Bool.false_ne_true), e]
      cases e : decide (gi s (pvN caps.length j) - gi s j = gi caps (pvN caps.length j)) && decide (gi t (pvN caps.length j) < gi s (pvN caps.length j)) with
      | false => rfl
      | true =>
        rw [Bool.and_eq_true] at e
        exact absurd ⟨of_decide_eq_true e.1, of_decide_eq_true e.2⟩ g3
theorem first_ok {m : Mv} (S : Shape caps s t) (N : Free caps s t) (h : m ∈ firstOf caps s t) : m.1 < caps.length ∧ okM caps s m = true ∧ Free caps (aftM s m) t ∧ gapL (aftM s m) t + 1 = gapL s t := by
  have C := cyc_fin S.big
  have F := (free_iff S).mp N
  obtain ⟨h1, g⟩ := (mem_first S).mp h
  refine ⟨h1, ?_, ?_, ?_⟩
  · obtain ⟨j, k⟩ := m
    cases k with
    | true => rw [if_pos rfl] at g; exact (okM_adv S.big h1).mpr g.2.1
    | false => rw [if_neg (Bool.false_ne_true)] at g; exact (okM_rol S.big h1).mpr g.2.1
  · rw [free_iff (S.aft m), fs_aft S h1]
    obtain ⟨j, k⟩ := m
    cases k with
    | true => rw [if_pos rfl] at g; exact after_adv C F g
    | false => rw [if_neg (Bool.false_ne_true)] at g; exact after_rol C F g
  · unfold aftM
    rw [gapL_set _ (by rw [S.ls]; exact h1) (by rw [S.ls, S.lt])]
    obtain ⟨j, k⟩ := m
    cases k with
    | true =>
      rw [if_pos rfl] at g
      have w : gi s j < gi t j := g.1
      show gapL s t - absI (gi t j - gi s j) + absI (gi t j - newC s (j, true)) + 1 = gapL s t
      have e : newC s (j, true) = gi s j + 1 := rfl
      rw [e]
      unfold absI
      split <;> split <;> omega
    | false =>
      rw [if_neg (Bool.false_ne_true)] at g
      have w : gi t j < gi s j := g.1
      show gapL s t - absI (gi t j - gi s j) + absI (gi t j - newC s (j, false)) + 1 = gapL s t
      have e : newC s (j, false) = gi s j - 1 := rfl
      rw [e]
      unfold absI
      split <;> split <;> omega
theorem first_of_ok {m : Mv} (S : Shape caps s t) (h1 : m.1 < caps.length) (a : okM caps s m = true) (N : Free caps (aftM s m) t) (g : gapL (aftM s m) t + 1 = gapL s t) : m ∈ firstOf caps s t := by
  have C := cyc_fin S.big
  rw [free_iff (S.aft m), fs_aft S h1] at N
  refine (mem_first S).mpr ⟨h1, ?_⟩
  unfold aftM at g
  rw [gapL_set _ (by rw [S.ls]; exact h1) (by rw [S.ls, S.lt])] at g
  obtain ⟨j, k⟩ := m
  cases k with
  | true =>
    rw [if_pos rfl]
    refine good_of_adv C ?_ ((okM_adv S.big h1).mp a) N
    show gi s j < gi t j
    have e : newC s (j, true) = gi s j + 1 := rfl
    rw [e] at g
    have g' : gapL s t - absI (gi t j - gi s j) + absI (gi t j - (gi s j + 1)) + 1 = gapL s t := g
    unfold absI at g'
    split at g' <;> split at g' <;> omega
  | false =>
    rw [if_neg (Bool.false_ne_true)]
    refine good_of_rol C ?_ ((okM_rol S.big h1).mp a) N
    show gi t j < gi s j
    have e : newC s (j, false) = gi s j - 1 := rfl
    rw [e] at g
    have g' : gapL s t - absI (gi t j - gi s j) + absI (gi t j - (gi s j - 1)) + 1 = gapL s t := g
    unfold absI at g'
    split at g' <;> split at g' <;> omega
def CapsOk (caps : List Int) : Prop := ∀ v ∈ caps, 1 ≤ v
theorem first_some (S : Shape caps s t) (hc : CapsOk caps) (N : Free caps s t) (ne : s ≠ t) : ∃ m, m ∈ firstOf caps s t := by
  have C := cyc_fin S.big
  have F := (free_iff S).mp N
  have hc' : ∀ i : Fin caps.length, 1 ≤ fs caps.length caps i := fun i => hc _ (gi_mem i.2)
  by_cases h : ∃ j, j < caps.length ∧ gi s j ≠ gi t j
  · obtain ⟨j, hj, d⟩ := h
    by_cases q : gi s j < gi t j
    · obtain ⟨i, g⟩ := good_adv (j0 := ⟨j, hj⟩) C hc' F q
      exact ⟨(i.1, true), (mem_first S).mpr ⟨i.2, by rw [if_pos rfl]; exact g⟩⟩
    · obtain ⟨i, g⟩ := good_rol (j0 := ⟨j, hj⟩) C hc' F (show gi t j < gi s j by omega)
      exact ⟨(i.1, false), (mem_first S).mpr ⟨i.2, by rw [if_neg (Bool.false_ne_true)]; exact g⟩⟩
  · exfalso
    refine ne (ext_gi (by rw [S.ls, S.lt]) fun i hi => ?_)
    by_cases q : gi s i = gi t i
    · exact q
    · exact absurd ⟨i, by rw [← S.ls]; exact hi, q⟩ h

/-! ### steps, from either end -/
def StepM (caps p q : List Int) : Prop := ∃ m : Mv, m.1 < caps.length ∧ okM caps p m = true ∧ q = aftM p m
theorem first_step (S : Shape caps s t) (hc : CapsOk caps) (N : Free caps s t) (ne : s ≠ t) : ∃ p, StepM caps s p ∧ Free caps p t ∧ gapL p t + 1 = gapL s t ∧ p.length = caps.length := by
  obtain ⟨m, hm⟩ := first_some S hc N ne
  obtain ⟨h1, h2, h3, h4⟩ := first_ok S N hm
  exact ⟨aftM s m, ⟨m, h1, h2, rfl⟩, h3, h4, by rw [aftM_len]; exact S.ls⟩
theorem free_snoc (hc : CapsOk caps) : ∀ (k : Nat) {s p : List Int} {m : Mv}, Shape caps s p → (gapL s p).toNat = k → Free caps s p → m.1 < caps.length → okM caps p m = true → Free caps s (aftM p m)
  | k, s, p, m, S, hk, N, h1, h2 => by
    by_cases e : s = p
    · subst e
      exact free_before (S.aft2 m) h1 h2 (free_self (S.aft m))
    · obtain ⟨q, ⟨m', a1, a2, rfl⟩, h3, h4, h5⟩ := first_step S hc N e
      have nn := gapL_nn (aftM s m') p
      have kk : k = (gapL (aftM s m') p).toNat + 1 := by omega
      exact free_before (S.aft2 m) a1 a2 (free_snoc hc (gapL (aftM s m') p).toNat (S.aft m') rfl h3 h1 h2)
  termination_by k => k
theorem last_step (hc : CapsOk caps) : ∀ (k : Nat) {s q : List Int}, Shape caps s q → gapL s q = (k : Int) + 1 → Free caps s q → ∃ p, Free caps s p ∧ gapL s p = k ∧ StepM caps p q ∧ p.length = caps.length := by
  intro k
  induction k with
  | zero =>
    intro s q S g N
    obtain ⟨p, ⟨m, a1, a2, rfl⟩, h3, h4, h5⟩ := first_step S hc N (fun e => by rw [e, gapL_self] at g; omega)
    have e : aftM s m = q := gapL_zero (by rw [h5, S.lt]) (by omega)
    exact ⟨s, free_self S, by rw [gapL_self]; rfl, ⟨m, a1, a2, e.symm⟩, S.ls⟩
  | succ k ih =>
    intro s q S g N
    obtain ⟨p, ⟨m, a1, a2, rfl⟩, h3, h4, h5⟩ := first_step S hc N (fun e => by rw [e, gapL_self] at g; omega)
    obtain ⟨p2, b1, b2, ⟨m2, b3, b4, b5⟩, b6⟩ := ih (S.aft m) (by omega) h3
    have S2 : Shape caps s p2 := ⟨S.big, S.ls, b6⟩
    refine ⟨p2, free_before S2 a1 a2 b1, ?_, ⟨m2, b3, b4, b5⟩, b6⟩
    have l1 := gap_lip1 (s := s) (t := p2) (m := m) (by rw [S.ls]; exact a1) (by rw [S.ls, b6])
    have l2 := gap_lip2 (s := s) (t := p2) (m := m2) (by rw [b6]; exact b3) (by rw [S.ls, b6])
    rw [← b5] at l2
    omega
end
end WM

/-! The window of states, the search, first moves: plain. -/
namespace WM
set_option linter.all false
set_option linter.unusedVariables false
/-! ### association lists -/
def lkp {α : Type} (es : List (List Int × α)) (k : List Int) : Option α := (es.find? fun e => decide (e.1 = k)).map (·.2)
section
variable {α β : Type}
theorem lkp_nil {k : List Int} : lkp ([] : List (List Int × α)) k = none := rfl
theorem lkp_cons {p : List Int × α} {es : List (List Int × α)} {k : List Int} : lkp (p :: es) k = if p.1 = k then some p.2 else lkp es k := by
  unfold lkp
  rw [List.find?_cons]
  by_cases h : p.1 = k <;> simp [h]
theorem lkp_snoc {k j : List Int} {x : α} : ∀ {es : List (List Int × α)}, lkp es k = none → lkp (es ++ [(k, x)]) j = if j = k then some x else lkp es j
  | [], _ => by
    rw [List.nil_append, lkp_cons, lkp_nil]
    by_cases h : k = j
    · rw [if_pos h, if_pos h.symm]
    · rw [if_neg h, if_neg (Ne.symm h)]
  | p :: es, h => by
    rw [lkp_cons] at h
    by_cases e : p.1 = k
    · rw [if_pos e] at h
      cases h
    · rw [if_neg e] at h
      rw [List.cons_append, lkp_cons, lkp_cons, lkp_snoc h]
      by_cases e2 : p.1 = j
      · rw [if_pos e2, if_pos e2, if_neg (fun z => e (e2.trans z))]
      · rw [if_neg e2, if_neg e2]
theorem lkp_map {f : α → β} {k : List Int} : ∀ {es : List (List Int × α)}, lkp (es.map fun e => (e.1, f e.2)) k = (lkp es k).map f
  | [] => rfl
  | p :: es => by
    rw [List.map_cons, lkp_cons, lkp_cons, lkp_map]
    by_cases h : p.1 = k
    · rw [if_pos h, if_pos h]
      rfl
    · rw [if_neg h, if_neg h]
theorem lkp_none {k : List Int} : ∀ {es : List (List Int × α)}, lkp es k = none ↔ ∀ e ∈ es, e.1 ≠ k
  | [] => by simp [lkp_nil]
  | p :: es => by
    rw [lkp_cons]
    by_cases e : p.1 = k
    · rw [if_pos e]
      constructor
      · intro h
        cases h
      · intro h
        exact absurd e (h p List.mem_cons_self)
    · rw [if_neg e, lkp_none]
      simp [e]
theorem lkp_of {f : List Int → α} {k : List Int} : ∀ {ks : List (List Int)}, k ∈ ks → lkp (ks.map fun s => (s, f s)) k = some (f k)
  | [], h => by cases h
  | s :: ks, h => by
    rw [List.map_cons, lkp_cons]
    by_cases e : s = k
    · rw [if_pos e, e]
    · rw [if_neg e]
      rcases List.mem_cons.1 h with h | h
      · exact absurd h.symm e
      · exact lkp_of h
end
/-! ### the window -/
def stN (l : Nat) (b : Int) : Nat → List (List Int)
  | 0 => [[]]
  | n + 1 => (stN l b n).flatMap fun p => (List.range l).map fun v => p ++ [b + (v : Nat)]
structure Win (l : Nat) (b : Int) (n : Nat) (x : List Int) : Prop where
  len : x.length = n
  rng : ∀ i, i < n → b ≤ gi x i ∧ gi x i < b + l
theorem gi_app {p : List Int} {v : Int} {i : Nat} : gi (p ++ [v]) i = if i < p.length then gi p i else if i = p.length then v else 0 := by
  unfold gi
  rw [List.getD_eq_getElem?_getD, List.getD_eq_getElem?_getD]
  by_cases h : i < p.length
  · rw [if_pos h, List.getElem?_append_left h]
  · rw [if_neg h, List.getElem?_append_right (by omega)]
    by_cases e : i = p.length
    · rw [if_pos e, e, Nat.sub_self]
      rfl
    · rw [if_neg e, List.getElem?_eq_none (by simp; omega)]
      rfl
theorem mem_stN {l : Nat} {b : Int} : ∀ {n : Nat} {x : List Int}, x ∈ stN l b n ↔ Win l b n x
  | 0, x => by
    constructor
    · intro h
      have e : x = [] := List.mem_singleton.1 h
      subst e
      exact ⟨rfl, fun i hi => absurd hi (by omega)⟩
    · rintro ⟨h, _⟩
      rw [List.length_eq_zero_iff.mp h]
      exact List.mem_singleton.mpr rfl
  | n + 1, x => by
    unfold stN
    rw [List.mem_flatMap]
    constructor
    · rintro ⟨p, hp, hx⟩
      obtain ⟨hl, hr⟩ := mem_stN.mp hp
      obtain ⟨v, hv, rfl⟩ := List.mem_map.mp hx
      have hv' := List.mem_range.1 hv
      refine ⟨by simp [hl], fun i hi => ?_⟩
      rw [gi_app, hl]
      by_cases h : i < n
      · rw [if_pos h]
        exact hr i h
      · rw [if_neg h, if_pos (by omega)]
        omega
    · rintro ⟨hl, hr⟩
      have ne : x ≠ [] := fun e => by rw [e] at hl; simp at hl
      have e : x.dropLast ++ [x.getLast ne] = x := List.dropLast_concat_getLast ne
      have hl2 : x.dropLast.length = n := by rw [List.length_dropLast, hl]; omega
      have hg : ∀ i, i < n → gi x.dropLast i = gi x i := fun i hi => by
        have z : gi (x.dropLast ++ [x.getLast ne]) i = gi x i := by rw [e]
        rw [gi_app, if_pos (by omega)] at z
        exact z
      have hlast : gi x n = x.getLast ne := by
        conv => lhs; rw [← e]
        rw [gi_app, if_neg (by omega), if_pos hl2.symm]
      refine ⟨x.dropLast, mem_stN.mpr ⟨hl2, fun i hi => by rw [hg i hi]; exact hr i (by omega)⟩, ?_⟩
      have := hr n (by omega)
      rw [hlast] at this
      refine List.mem_map.mpr ⟨(x.getLast ne - b).toNat, List.mem_range.mpr (by omega), ?_⟩
      conv => rhs; rw [← e]
      congr 2
      omega
theorem stN_len (l : Nat) (b : Int) : ∀ n, (stN l b n).length = l ^ n
  | 0 => rfl
  | n + 1 => by
    unfold stN
    rw [List.length_flatMap]
    have e : (stN l b n).map (fun p => ((List.range l).map fun v => p ++ [b + ((v : Nat) : Int)]).length) = List.replicate (stN l b n).length l := by
      rw [List.eq_replicate_iff]
      refine ⟨by simp, fun y hy => ?_⟩
      obtain ⟨p, _, rfl⟩ := List.mem_map.mp hy
      simp
    rw [e, List.sum_replicate_nat, stN_len l b n, Nat.pow_succ]
theorem stN_nodup (l : Nat) (b : Int) : ∀ n, (stN l b n).Nodup
  | 0 => by simp [stN]
  | n + 1 => by
    unfold stN
    refine List.pairwise_flatMap.mpr ⟨fun p _ => ?_, ?_⟩
    · rw [List.pairwise_map]
      refine List.nodup_range.imp fun {a c} ne h => ne ?_
      have h2 := List.append_cancel_left h
      have h3 : b + ((a : Nat) : Int) = b + (c : Nat) := by simpa using h2
      omega
    · refine (stN_nodup l b n).imp_of_mem fun {p q} hp hq ne => ?_
      intro z h1 z' h2 ez
      subst ez
      obtain ⟨v, _, e1⟩ := List.mem_map.mp h1
      obtain ⟨v', _, e2⟩ := List.mem_map.mp h2
      have hl1 := (mem_stN.mp hp).len
      have hl2 := (mem_stN.mp hq).len
      exact ne (List.append_inj_left (e1.trans e2.symm) (by rw [hl1, hl2]))
section
variable {caps s t : List Int} {l : Nat} {b : Int}
theorem win_step {m : Mv} (hn : 3 ≤ caps.length) (W : Win l b caps.length s) (h : m.1 < caps.length) (a : okM caps s m = true) : Win l b caps.length (aftM s m) := by
  refine ⟨by rw [aftM_len]; exact W.len, fun i hi => ?_⟩
  unfold aftM
  rw [gi_set (by rw [W.len]; exact h)]
  by_cases e : i = m.1
  · rw [if_pos e]
    have w1 := W.rng m.1 h
    obtain ⟨j, k⟩ := m
    cases k with
    | true =>
      have a' := (okM_adv hn h).mp a
      have w2 := W.rng (pvN caps.length j) (pvN_lt hn _)
      have a1 : 1 ≤ gi s (pvN caps.length j) - gi s j := a'.1
      have e : newC s (j, true) = gi s j + 1 := rfl
      have w1' : b ≤ gi s j ∧ gi s j < b + l := w1
      rw [e]
      omega
    | false =>
      have a' := (okM_rol hn h).mp a
      have w2 := W.rng (nxN caps.length j) (nxN_lt hn _)
      have a1 : 1 ≤ gi s j - gi s (nxN caps.length j) := a'.1
      have e : newC s (j, false) = gi s j - 1 := rfl
      have w1' : b ≤ gi s j ∧ gi s j < b + l := w1
      rw [e]
      omega
  · rw [if_neg e]
    exact W.rng i hi
theorem win_free (S : Shape caps s t) (W : Win l b caps.length s) (N : Free caps s t) : Win l b caps.length t := by
  have F := (free_iff S).mp N
  refine ⟨S.lt, fun i hi => ?_⟩
  obtain ⟨m, hm⟩ := F.hi ⟨i, hi⟩
  obtain ⟨k, hk⟩ := F.lo ⟨i, hi⟩
  have w1 := W.rng m.1 m.2
  have w2 := W.rng k.1 k.2
  have hm' : gi t i ≤ gi s m.1 := hm
  have hk' : gi s k.1 ≤ gi t i := hk
  omega
/-! ### ways -/
def movesL (n : Nat) : List Mv := (List.range n).flatMap fun i => [(i, true), (i, false)]
theorem mem_movesL {n : Nat} {m : Mv} : m ∈ movesL n ↔ m.1 < n := by
  unfold movesL
  rw [List.mem_flatMap]
  constructor
  · rintro ⟨i, hi, h⟩
    have hi' := List.mem_range.1 hi
    rcases List.mem_cons.1 h with e | h
    · rw [e]; exact hi'
    · rw [List.mem_singleton.1 h]; exact hi'
  · intro h
    refine ⟨m.1, List.mem_range.mpr h, ?_⟩
    obtain ⟨j, k⟩ := m
    cases k <;> simp
def succL (caps s : List Int) : List (List Int) := ((movesL caps.length).filter (okM caps s)).map (aftM s)
theorem mem_succL {caps s x : List Int} : x ∈ succL caps s ↔ StepM caps s x := by
  unfold succL StepM
  rw [List.mem_map]
  constructor
  · rintro ⟨m, hm, rfl⟩
    obtain ⟨h1, h2⟩ := List.mem_filter.mp hm
    exact ⟨m, mem_movesL.mp h1, h2, rfl⟩
  · rintro ⟨m, h1, h2, rfl⟩
    exact ⟨m, List.mem_filter.mpr ⟨mem_movesL.mpr h1, h2⟩, rfl⟩
end
/-! ### the search -/
abbrev Far := List (List Int × Int)
def stepO (t : Nat) (fa : Far × List (List Int)) (o : List Int) : Far × List (List Int) := if (lkp fa.1 o).isSome = true then fa else (fa.1 ++ [(o, (t : Int) + 1)], fa.2 ++ [o])
def stepP (adj : List Int → List (List Int)) (t : Nat) (fa : Far × List (List Int)) (p : List Int) : Far × List (List Int) := (adj p).foldl (stepO t) fa
def srch (adj : List Int → List (List Int)) (s : List Int) : Nat → Far × List (List Int)
  | 0 => ([(s, 0)], [s])
  | k + 1 => (srch adj s k).2.foldl (stepP adj k) ((srch adj s k).1, [])
structure Dist (adj : List Int → List (List Int)) (s : List Int) (D : List Int → Nat → Prop) : Prop where
  zero : ∀ x, D x 0 ↔ x = s
  uniq : ∀ x d e, D x d → D x e → d = e
  edge : ∀ x d y, D x d → y ∈ adj x → ∃ e, D y e ∧ e ≤ d + 1
  pred : ∀ y d, D y (d + 1) → ∃ x, D x d ∧ y ∈ adj x
section
variable {adj : List Int → List (List Int)} {s : List Int} {D : List Int → Nat → Prop}
structure SInv (D : List Int → Nat → Prop) (k : Nat) (fa : Far × List (List Int)) : Prop where
  far : ∀ x e, lkp fa.1 x = some e ↔ ∃ d : Nat, D x d ∧ d ≤ k ∧ e = d
  line : ∀ x, x ∈ fa.2 ↔ D x k
structure MInv (D : List Int → Nat → Prop) (k : Nat) (fa : Far × List (List Int)) : Prop where
  far : ∀ x e, lkp fa.1 x = some e ↔ (∃ d : Nat, D x d ∧ d ≤ k ∧ e = d) ∨ (x ∈ fa.2 ∧ e = (k : Int) + 1)
  ahead : ∀ x ∈ fa.2, D x (k + 1)
theorem stepO_ok (A : Dist adj s D) {k : Nat} {fa : Far × List (List Int)} {o : List Int} (M : MInv D k fa) (ho : ∃ e, D o e ∧ e ≤ k + 1) : MInv D k (stepO k fa o) ∧ (lkp (stepO k fa o).1 o).isSome = true ∧ ∀ x, (lkp fa.1 x).isSome = true → (lkp (stepO k fa o).1 x).isSome = true := by
  unfold stepO
  by_cases h : (lkp fa.1 o).isSome = true
  · rw [if_pos h]
    exact ⟨M, h, fun _ z => z⟩
  · rw [if_neg h]
    have hn : lkp fa.1 o = none := by
      cases e : lkp fa.1 o with
      | none => rfl
      | some v => rw [e] at h; exact absurd rfl h
    obtain ⟨e, he, hle⟩ := ho
    have ek : e = k + 1 := by
      by_cases q : e ≤ k
      · have := (M.far o (e : Int)).mpr (.inl ⟨e, he, q, rfl⟩)
        rw [hn] at this
        cases this
      · omega
    subst ek
    refine ⟨⟨fun x v => ?_, fun x hx => ?_⟩, ?_, fun x hx => ?_⟩
    · show lkp (fa.1 ++ [(o, (k : Int) + 1)]) x = some v ↔ _
      rw [lkp_snoc hn]
      by_cases q : x = o
      · rw [if_pos q]
        constructor
        · intro z
          exact .inr ⟨List.mem_append_right _ (List.mem_singleton.mpr q), (Option.some.inj z).symm⟩
        · rintro (⟨d, h1, h2, h3⟩ | ⟨_, h3⟩)
          · rw [q] at h1
            have := A.uniq o _ _ he h1
            omega
          · rw [h3]
      · rw [if_neg q, M.far]
        constructor
        · rintro (z | ⟨z1, z2⟩)
          · exact .inl z
          · exact .inr ⟨List.mem_append_left _ z1, z2⟩
        · rintro (z | ⟨z1, z2⟩)
          · exact .inl z
          · rcases List.mem_append.1 z1 with z1 | z1
            · exact .inr ⟨z1, z2⟩
            · exact absurd (List.mem_singleton.1 z1) q
    · rcases List.mem_append.1 hx with hx | hx
      · exact M.ahead x hx
      · rw [List.mem_singleton.1 hx]
        exact he
    · show (lkp (fa.1 ++ [(o, (k : Int) + 1)]) o).isSome = true
      rw [lkp_snoc hn, if_pos rfl]
      rfl
    · show (lkp (fa.1 ++ [(o, (k : Int) + 1)]) x).isSome = true
      rw [lkp_snoc hn]
      split
      · rfl
      · exact hx
theorem foldO_ok (A : Dist adj s D) {k : Nat} : ∀ {os : List (List Int)} {fa : Far × List (List Int)}, MInv D k fa → (∀ o ∈ os, ∃ e, D o e ∧ e ≤ k + 1) →
    MInv D k (os.foldl (stepO k) fa) ∧ (∀ o ∈ os, (lkp (os.foldl (stepO k) fa).1 o).isSome = true) ∧ ∀ x, (lkp fa.1 x).isSome = true → (lkp (os.foldl (stepO k) fa).1 x).isSome = true
  | [], fa, M, _ => ⟨M, fun _ h => (by cases h), fun _ z => z⟩
  | o :: os, fa, M, h => by
    obtain ⟨a1, a2, a3⟩ := stepO_ok A M (h o List.mem_cons_self)
    obtain ⟨b1, b2, b3⟩ := foldO_ok A (os := os) a1 (fun x hx => h x (List.mem_cons_of_mem _ hx))
    refine ⟨b1, fun x hx => ?_, fun x hx => b3 x (a3 x hx)⟩
    rcases List.mem_cons.1 hx with e | hx
    · rw [e]
      exact b3 o a2
    · exact b2 x hx
theorem foldP_ok (A : Dist adj s D) {k : Nat} : ∀ {ps : List (List Int)} {fa : Far × List (List Int)}, MInv D k fa → (∀ p ∈ ps, D p k) →
    MInv D k (ps.foldl (stepP adj k) fa) ∧ (∀ p ∈ ps, ∀ o ∈ adj p, (lkp (ps.foldl (stepP adj k) fa).1 o).isSome = true) ∧ ∀ x, (lkp fa.1 x).isSome = true → (lkp (ps.foldl (stepP adj k) fa).1 x).isSome = true
  | [], fa, M, _ => ⟨M, fun _ h => (by cases h), fun _ z => z⟩
  | p :: ps, fa, M, h => by
    obtain ⟨a1, a2, a3⟩ := foldO_ok A (os := adj p) M fun o ho => A.edge p k o (h p List.mem_cons_self) ho
    obtain ⟨b1, b2, b3⟩ := foldP_ok A (ps := ps) (fa := stepP adj k fa p) a1 (fun x hx => h x (List.mem_cons_of_mem _ hx))
    refine ⟨b1, fun x hx o ho => ?_, fun x hx => b3 x (a3 x hx)⟩
    rcases List.mem_cons.1 hx with e | hx
    · rw [e] at ho
      exact b3 o (a2 o ho)
    · exact b2 x hx o ho
theorem srch_inv (A : Dist adj s D) : ∀ k, SInv D k (srch adj s k)
  | 0 => by
    refine ⟨fun x e => ?_, fun x => ?_⟩
    · show lkp [(s, 0)] x = some e ↔ _
      rw [lkp_cons, lkp_nil]
      constructor
      · intro h
        by_cases q : s = x
        · rw [if_pos q] at h
          exact ⟨0, (A.zero x).mpr q.symm, Nat.le_refl _, (Option.some.inj h).symm⟩
        · rw [if_neg q] at h
          cases h
      · rintro ⟨d, h1, h2, h3⟩
        have hd : d = 0 := by omega
        subst hd
        rw [if_pos ((A.zero x).mp h1).symm, h3]
        rfl
    · show x ∈ [s] ↔ _
      rw [List.mem_singleton, A.zero]
  | k + 1 => by
    have I := srch_inv A k
    have M0 : MInv D k ((srch adj s k).1, []) := ⟨fun x e => by
      rw [I.far]
      constructor
      · exact .inl
      · rintro (z | ⟨z, _⟩)
        · exact z
        · (cases z), fun x h => (by cases h)⟩
    obtain ⟨M, h2, _⟩ := foldP_ok A (ps := (srch adj s k).2) M0 fun p hp => (I.line p).mp hp
    have hl : ∀ x, x ∈ (srch adj s (k + 1)).2 ↔ D x (k + 1) := fun x => by
      constructor
      · exact M.ahead x
      · intro hx
        obtain ⟨p, hp, hy⟩ := A.pred x k hx
        have z := h2 p ((I.line p).mpr hp) x hy
        obtain ⟨v, hv⟩ := Option.isSome_iff_exists.mp z
        rcases (M.far x v).mp hv with ⟨d, a, b, _⟩ | ⟨a, _⟩
        · have := A.uniq x _ _ hx a
          omega
        · exact a
    refine ⟨fun x e => ?_, hl⟩
    rw [show lkp (srch adj s (k + 1)).1 x = some e ↔ _ from M.far x e]
    constructor
    · rintro (⟨d, a, b, c⟩ | ⟨a, c⟩)
      · exact ⟨d, a, by omega, c⟩
      · exact ⟨k + 1, M.ahead x a, Nat.le_refl _, by rw [c]; rfl⟩
    · rintro ⟨d, a, b, c⟩
      by_cases q : d ≤ k
      · exact .inl ⟨d, a, q, c⟩
      · have e : d = k + 1 := by omega
        subst e
        exact .inr ⟨(hl x).mpr a, by rw [c]; rfl⟩
theorem srch_far (A : Dist adj s D) {N : Nat} (hN : ∀ x d, D x d → d ≤ N) (x : List Int) (e : Int) : lkp (srch adj s N).1 x = some e ↔ ∃ d : Nat, D x d ∧ e = d := by
  rw [(srch_inv A N).far]
  constructor
  · rintro ⟨d, a, _, c⟩
    exact ⟨d, a, c⟩
  · rintro ⟨d, a, c⟩
    exact ⟨d, a, hN x d a, c⟩
end
/-! ### distances in the ring -/
section
variable {caps s t : List Int} {l : Nat} {b : Int}
def fwdD (l : Nat) (b : Int) (caps s : List Int) (x : List Int) (d : Nat) : Prop := Win l b caps.length x ∧ Free caps s x ∧ gapL s x = d
def bwdD (l : Nat) (b : Int) (caps g : List Int) (x : List Int) (d : Nat) : Prop := Win l b caps.length x ∧ Free caps x g ∧ gapL x g = d
theorem win_shape (hn : 3 ≤ caps.length) (W : Win l b caps.length s) (V : Win l b caps.length t) : Shape caps s t := ⟨hn, W.len, V.len⟩
theorem fwd_dist (hn : 3 ≤ caps.length) (hc : CapsOk caps) (W : Win l b caps.length s) : Dist (succL caps) s (fwdD l b caps s) := by
  refine ⟨fun x => ?_, fun x d e h1 h2 => ?_, fun x d y h1 h2 => ?_, fun y d h => ?_⟩
  · constructor
    · rintro ⟨h1, _, h3⟩
      exact (gapL_zero (by rw [W.len, h1.len]) h3).symm
    · intro e
      rw [e]
      exact ⟨W, free_self (win_shape hn W W), by rw [gapL_self]; rfl⟩
  · have := h1.2.2
    have := h2.2.2
    omega
  · obtain ⟨V, N, g⟩ := h1
    have S := win_shape hn W V
    obtain ⟨m, m1, m2, rfl⟩ := mem_succL.mp h2
    have nn := gapL_nn s (aftM x m)
    have l2 := gap_lip2 (s := s) (t := x) (m := m) (by rw [V.len]; exact m1) (by rw [W.len, V.len])
    exact ⟨(gapL s (aftM x m)).toNat, ⟨win_step hn V m1 m2, free_snoc hc _ S rfl N m1 m2, by omega⟩, by omega⟩
  · obtain ⟨V, N, g⟩ := h
    have S := win_shape hn W V
    obtain ⟨p, p1, p2, p3, p4⟩ := last_step hc d S (by rw [g]; rfl) N
    exact ⟨p, ⟨win_free ⟨hn, W.len, p4⟩ W p1, p1, p2⟩, mem_succL.mpr p3⟩
theorem bwd_dist {back : List Int → List (List Int)} (hn : 3 ≤ caps.length) (hc : CapsOk caps) (W : Win l b caps.length t) (hb : ∀ x y, Win l b caps.length x → (y ∈ back x ↔ Win l b caps.length y ∧ StepM caps y x)) : Dist back t (bwdD l b caps t) := by
  refine ⟨fun x => ?_, fun x d e h1 h2 => ?_, fun x d y h1 h2 => ?_, fun y d h => ?_⟩
  · constructor
    · rintro ⟨h1, _, h3⟩
      exact gapL_zero (by rw [W.len, h1.len]) h3
    · intro e
      rw [e]
      exact ⟨W, free_self (win_shape hn W W), by rw [gapL_self]; rfl⟩
  · have := h1.2.2
    have := h2.2.2
    omega
  · obtain ⟨V, N, g⟩ := h1
    obtain ⟨U, m, m1, m2, rfl⟩ := (hb x y V).mp h2
    have nn := gapL_nn y t
    have l1 := gap_lip1 (s := y) (t := t) (m := m) (by rw [U.len]; exact m1) (by rw [U.len, W.len])
    exact ⟨(gapL y t).toNat, ⟨U, free_before (win_shape hn U W) m1 m2 N, by omega⟩, by omega⟩
  · obtain ⟨V, N, g⟩ := h
    have ne : y ≠ t := fun e => by
      rw [e, gapL_self] at g
      omega
    obtain ⟨p, ⟨m, m1, m2, rfl⟩, p2, p3, p4⟩ := first_step (win_shape hn V W) hc N ne
    have U := win_step hn V m1 m2
    exact ⟨aftM y m, ⟨U, p2, by omega⟩, (hb _ y U).mpr ⟨V, m, m1, m2, rfl⟩⟩
theorem gap_le : ∀ {s t : List Int} {l : Nat} {b : Int}, s.length = t.length → 1 ≤ l → (∀ i, i < s.length → b ≤ gi s i ∧ gi s i < b + l) → (∀ i, i < t.length → b ≤ gi t i ∧ gi t i < b + l) → gapL s t ≤ (s.length : Int) * ((l : Int) - 1)
  | [], t, l, b, _, _, _, _ => by
    rw [gapL_nil]
    simp
  | x :: s, [], _, _, h, _, _, _ => by simp at h
  | x :: s, y :: t, l, b, h, hl, h1, h2 => by
    rw [gapL_cons]
    have ih := gap_le (s := s) (t := t) (l := l) (b := b) (by simpa using h) hl (fun i hi => h1 (i + 1) (by simpa using hi)) (fun i hi => h2 (i + 1) (by simpa using hi))
    have a := h1 0 (by simp)
    have c := h2 0 (by simp)
    have a' : b ≤ x ∧ x < b + l := a
    have c' : b ≤ y ∧ y < b + l := c
    have e : absI (y - x) ≤ (l : Int) - 1 := by unfold absI; split <;> omega
    rw [List.length_cons, Int.natCast_add, Int.add_mul]
    have e1 : ((1 : Nat) : Int) * ((l : Int) - 1) = (l : Int) - 1 := by simp
    omega
theorem gap_win (hl : 1 ≤ l) (W : Win l b caps.length s) (V : Win l b caps.length t) : gapL s t ≤ (caps.length : Int) * ((l : Int) - 1) := by
  have z := gap_le (s := s) (t := t) (l := l) (b := b) (by rw [W.len, V.len]) hl (by rw [W.len]; exact W.rng) (by rw [V.len]; exact V.rng)
  rw [W.len] at z
  exact z
/-! ### the first of the first moves -/
theorem first_sorted : (firstOf caps s t).Pairwise fun a c => a.1 < c.1 := by
  unfold firstOf towards
  refine List.Pairwise.filter _ ?_
  rw [List.pairwise_map]
  unfold pick
  refine List.Pairwise.filter _ ?_
  exact List.pairwise_lt_range
theorem hd_least {m : Mv} {m' : Mv} (h : (firstOf caps s t).head? = some m) (h' : m' ∈ firstOf caps s t) : m' = m ∨ m.1 < m'.1 := by
  have z := first_sorted (caps := caps) (s := s) (t := t)
  cases e : firstOf caps s t with
  | nil =>
    rw [e] at h
    cases h
  | cons x xs =>
    rw [e] at h h' z
    cases h
    rcases List.mem_cons.1 h' with q | q
    · exact .inl q
    · exact .inr ((List.pairwise_cons.mp z).1 m' q)
/-- objections of two kinds, counted -/
theorem count_pick {n : Nat} {f : Nat → Bool} {i : Nat} (hi : i < n) : (pick n f).countP (fun j => decide (j = i)) = if f i = true then 1 else 0 := by
  unfold pick
  rw [List.countP_filter]
  have e : ∀ n, i < n → (List.range n).countP (fun a => decide (a = i) && f a) = if f i = true then 1 else 0 := by
    intro n
    induction n with
    | zero => intro h; omega
    | succ n ih =>
      intro h
      rw [List.range_succ, List.countP_append]
      by_cases q : i < n
      · rw [ih q]
        have e2 : n ≠ i := by omega
        simp [e2]
      · have e2 : i = n := by omega
        subst e2
        have z : (List.range i).countP (fun a => decide (a = i) && f a) = 0 := by
          rw [List.countP_eq_zero]
          intro a ha
          have := List.mem_range.1 ha
          have : a ≠ i := by omega
          simp [this]
        rw [z]
        cases q : f i <;> simp [q]
  exact e n hi
theorem count_tag {α : Type} {n : Nat} {xs : List Nat} {g : Nat → Tag × Nat} {o : Tag × Nat} (h : ∀ i, g i ≠ o) : (xs.map g).countP (fun z => decide (z = o)) = 0 := by
  rw [List.countP_eq_zero]
  intro a ha
  obtain ⟨i, _, rfl⟩ := List.mem_map.mp ha
  simp [h i]
theorem count_above {i : Nat} (hi : i < caps.length) : (objs caps s t).countP (fun z => decide (z = (Tag.above, i))) = if maxL s < gi t i then 1 else 0 := by
  unfold objs
  rw [List.countP_append, List.countP_append, List.countP_append, count_tag (α := Unit) (n := 0) (g := fun i => (Tag.below, i)) (by simp), count_tag (α := Unit) (n := 0) (g := fun i => (Tag.jammed, i)) (by simp), count_tag (α := Unit) (n := 0) (g := fun i => (Tag.orphan, i)) (by simp)]
  rw [List.countP_map]
  have e : ((fun z => decide (z = (Tag.above, i))) ∘ fun i => (Tag.above, i)) = fun j => decide (j = i) := by
    funext j
    simp
  rw [e, count_pick hi]
  unfold aboveB
  simp
theorem count_below {i : Nat} (hi : i < caps.length) : (objs caps s t).countP (fun z => decide (z = (Tag.below, i))) = if gi t i < minL s then 1 else 0 := by
  unfold objs
  rw [List.countP_append, List.countP_append, List.countP_append, count_tag (α := Unit) (n := 0) (g := fun i => (Tag.above, i)) (by simp), count_tag (α := Unit) (n := 0) (g := fun i => (Tag.jammed, i)) (by simp), count_tag (α := Unit) (n := 0) (g := fun i => (Tag.orphan, i)) (by simp)]
  rw [List.countP_map]
  have e : ((fun z => decide (z = (Tag.below, i))) ∘ fun i => (Tag.below, i)) = fun j => decide (j = i) := by
    funext j
    simp
  rw [e, count_pick hi]
  unfold belowB
  simp
end
end WM

set_option Elab.async false
set_option linter.all false
set_option maxRecDepth 100000
set_option maxHeartbeats 3900000
/-! Rules that the layer lacks: enumerate of a tuple, max and min of a tuple, count of a tuple, a static method called by its class's name. -/
namespace WR
open PySem PyProof.Rows PySem.Spec L2
/-! ### enumerate(tuple) -/
theorem meetsEnumTup (l : Addr) (items : Array Value) : Meets (Builtin.«enumerate.__new__» ⟨[.type "enumerate", .ref l], []⟩) (fun _ R s =>
    s.heap.IsTuple l items ∧ R (.ok (.ret (.ref (s.heap.push { cls := .type "tuple_iterator", data := .fields #[.ref l, .int 0 0] }).objs.size)))
      { s with heap := (s.heap.push { cls := .type "tuple_iterator", data := .fields #[.ref l, .int 0 0] }).push { cls := .type "enumerate", data := .fields #[.none, .bool false, .ref s.heap.objs.size, rawInt 0, .none, .none] } }) :=
  Meets.of_wp <| by
    rintro P w A R ⟨hp, g, dr, tk, os⟩ ⟨tup, r⟩
    have sub := sub_enumerate
    wp_walk
    refine wpAny_stack_any fun _ => wpAny_pure ?_
    split
    case h_2 =>
      wp_walk using wpAny_pyIter_tuple tup
      exact ⟨_, rfl, r⟩
    case h_1 c _ _ _ _ _ =>
      rcases c == Value.type "enumerate" with _ | _
      all_goals
        wp_walk using wpAny_pyIter_tuple tup
        exact ⟨_, rfl, r⟩
theorem callEnumTup {P : Program} {w : World} {A : Around} {E : Value → Shared → Prop} {s : Shared} {l : Addr} {items : Array Value} {Q : Value → Shared → Prop} (tup : s.heap.IsTuple l items)
    (q : ∀ h', IsEnum h' (s.heap.objs.size + 1) s.heap.objs.size 0 .none → h'.IsTupleIter s.heap.objs.size l 0 → (∀ b o, s.heap.get? b = some o → h'.get? b = some o) → Q (.ref (s.heap.objs.size + 1)) { s with heap := h' }) :
    wpAny (model P w) A (call (.type "enumerate") [Value.ref l]) Q E s := by
  let one : Heap := s.heap.push { cls := .type "tuple_iterator", data := .fields #[.ref l, .int 0 0] }
  let en : Obj := { cls := .type "enumerate", data := .fields #[.none, .bool false, .ref s.heap.objs.size, rawInt 0, .none, .none] }
  have sz : one.objs.size = s.heap.objs.size + 1 := Heap.size_push ..
  have he : (one.push en).get? (s.heap.objs.size + 1) = some en := sz ▸ Heap.get?_push_size one rfl
  have keep : ∀ b o, s.heap.get? b = some o → (one.push en).get? b = some o := fun _ _ k => Heap.get?_push_of_some _ (Heap.get?_push_of_some _ k)
  refine callType_new F.called_enumerate (by decide) (F.typeCall_enumerate_1 _) (F.newCall_enumerate_1 _) (fun v => F.args_object_init_2 v _) F.entry_enumerate_new (meetsEnumTup l items) ⟨tup, ?_⟩
  show _ ∧ Q (.ref one.objs.size) { s with heap := one.push en }
  rw [sz]
  exact ⟨⟨en, he, rfl⟩, q _ he ⟨_, Heap.get?_push_of_some _ (Heap.get?_push_size _ rfl), rfl, rfl⟩ keep⟩
/-- the tuple at a, each item in a new pair with its number -/
def IteT (K : PySem.W.Frag) (a : Addr) : It where
  go i H := ∃ xs x, SqT K H a xs ∧ xs[i]? = some x
  yld i H v H' := ∃ T x, v = .ref T ∧ H T = none ∧ H' = upd H T (.tup [.int (i : Nat), x]) ∧ ∀ xs, SqT K H a xs → xs[i]? = some x
  stop i H := ∃ xs, SqT K H a xs ∧ xs.length = i
/-- an enumerate over the tuple at a stands at i: e the enumerate, it the tuple's iterator -/
structure EnAt (a e it : Addr) (i : Nat) (h : Heap) : Prop where
  en : ∃ old, IsEnum h e it ((i : Nat) : Int) old
  ti : h.IsTupleIter it a i
  ei : e ≠ it
  ai : a ≠ it
  ea : e ≠ a
theorem both_of {P : Addr → Prop} {e it : Addr} (p : P e) (q : P it) : ∀ b ∈ [e, it], P b := List.forall_mem_cons.mpr ⟨p, List.forall_mem_cons.mpr ⟨q, nofun⟩⟩
section
variable {X : Cx} {pins : List (Addr × Obj)} {σ : L2.St} {H : Hp} {s : Shared} {E : Value → Shared → Prop} {a e it : Addr} {i : Nat} {elts : List Expr} {kk : Nat} {tpos : Pos}
theorem EnAt.has {h : Heap} (z : EnAt a e it i h) : ∀ b ∈ [e, it], ∃ o, h.get? b = some o ∧ ∀ v, o.data ≠ .cell v := by
  obtain ⟨⟨_, p⟩, ⟨o, g, _, d⟩, _⟩ := z
  exact both_of ⟨_, p, nofun⟩ ⟨o, g, fun v y => nomatch d.symm.trans y⟩
theorem EnAt.kept {h h' : Heap} (z : EnAt a e it i h) (k : ∀ b ∈ [e, it], ∀ o, h.get? b = some o → h'.get? b = some o) : EnAt a e it i h' :=
  let ⟨old, p⟩ := z.en
  ⟨⟨old, k e List.mem_cons_self _ p⟩, z.ti.at (k it (List.mem_cons_of_mem _ List.mem_cons_self)), z.ei, z.ai, z.ea⟩
/-- what may draw from the tuple's iterator, the items told -/
def Drawn (X : Cx) (s : Shared) (a e it : Addr) (i : Nat) : Prop := ∀ its : List Value, IsTup s.heap a its.toArray → ∃ fp St,
  Draws X.prog X.w X.A.in1 it fp its.toArray.size (fun j v => its.toArray[j]? = some v) St ∧ St i s.heap ∧ e ∉ fp ∧ ∀ h, St (i + 1) h → h.IsTupleIter it a (i + 1)
theorem enum_go (z : EnAt a e it i s.heap) (D : Drawn X s a e it i) (I : Inv X pins σ H s) (f : ∀ b ∈ [e, it], FpOk X pins H b) (g : (IteT X.K a).go i H) :
    wpAny (model X.prog X.w) X.A (pyNext (.ref e)) (fun r s1 => ∃ u, r = some u ∧ wpAny (model X.prog X.w) X.A (letOwnedTupleGo (.Tuple elts kk tpos) (.ref e) u) (fun _ s2 =>
      ∃ x H', Inv X pins σ H' s2 ∧ RelV x u ∧ (IteT X.K a).yld i H x H' ∧ EnAt a e it (i + 1) s2.heap ∧ ∀ b ∈ [e, it], H' b = none) E s1) E s := by
  obtain ⟨xs, x, hq, hx⟩ := g
  obtain ⟨its, rv, p, -⟩ := I.tuple hq
  rcases rv.get hx with ⟨u, hu, ru⟩
  obtain ⟨fp, St, D, hs, hef, out⟩ := D its p
  obtain ⟨old, he⟩ := z.en
  obtain ⟨hi, -⟩ := List.getElem?_eq_some_iff.mp hu
  refine wpAny_pyNext_enum_itemD D he hs hi z.ei hef fun y h1 tk hy ho hst hT _ hk => ⟨_, rfl, wpAny_letOwnedTupleGo_enum (s := { s with heap := h1, toks := tk + 1 }) ho fun h2 he2 sb => ?_⟩
  cases (List.getElem?_toArray.symm.trans hy).symm.trans hu
  have off : ∀ b o, b ∉ [e, it] → s.heap.get? b = some o → h2.get? b = some o := fun b o nb k =>
    (sb.2 b fun w => nb (w ▸ List.mem_cons_self)).trans (hk b o (fun w => nb (w ▸ List.mem_cons_self)) (fun w => nb (w ▸ List.mem_cons_of_mem _ List.mem_cons_self)) k)
  have J := I.turnedNew (ch := [e, it]) (t' := tk + 1) (ob := .tup [.int (i : Nat), x]) off f (Nat.le_refl _)
    ⟨(by rw [sizeLine_eq]; decide : 2 ≤ sizeLine), [.int i tk, u], .cons ⟨_, rfl⟩ (.cons ru .nil), _, (sb.2 _ (Nat.ne_of_gt (Heap.lt_size he))).trans hT, rfl, _, rfl⟩
  refine ⟨.ref s.heap.objs.size, _, J, rfl, ⟨_, x, rfl, I.hok.fresh (Nat.le_refl _), rfl, fun ys hy2 => (I.tuple_inj hy2 hq).symm ▸ hx⟩, ⟨⟨_, he2⟩, (out h1 hst).at fun o k => (sb.2 it z.ei.symm).trans k, z.ei, z.ai, z.ea⟩, fun b hb => ?_⟩
  obtain ⟨_, k, _⟩ := z.has b hb
  rw [upd_ne (Nat.ne_of_lt (Heap.lt_size k)), (f b hb).1]
theorem enum_end (z : EnAt a e it i s.heap) (D : Drawn X s a e it i) (I : Inv X pins σ H s) (f : ∀ b ∈ [e, it], FpOk X pins H b) (g : (IteT X.K a).stop i H) :
    wpAny (model X.prog X.w) X.A (pyNext (.ref e)) (fun r s1 => r = none ∧ Inv X pins σ H s1) E s := by
  obtain ⟨xs, hq, rfl⟩ := g
  obtain ⟨its, rv, p, -⟩ := I.tuple hq
  obtain ⟨fp, St, D, hs, -, -⟩ := D its p
  obtain ⟨old, he⟩ := z.en
  obtain ⟨f0, f1, -, f3, f4, f5⟩ := f it (List.mem_cons_of_mem _ List.mem_cons_self)
  exact wpAny_pyNext_enum_endD D he (by rw [List.size_toArray, ← rv.length]; exact hs) fun h' k => ⟨rfl, I.turned (t' := s.toks) k f0 f1 f3 f4 f5⟩
end
theorem turnEnumT {P : Program} {w : World} {K : PySem.W.Frag} {elts : List Expr} {kk : Nat} {tpos : Pos} (a e it : Addr) : Turn P w K (.Tuple elts kk tpos) (IteT K a) [e, it] e (EnAt a e it) := by
  have D : ∀ {X : Cx} {pins σ H s i}, X.calm = true → Inv X pins σ H s → EnAt a e it i s.heap → Drawn X s a e it i := fun {X _ _ _ _ _} hc I z its p =>
    ⟨_, _, Draws.tuple (A := X.A.in1) (I.ok.hd hc) it a z.ai its.toArray, ⟨z.ti, p⟩, by simp [z.ei, z.ea], fun _ k => k.1⟩
  refine ⟨List.mem_cons_self, fun _ _ z => z.has, fun _ _ _ z k => z.kept k, ?_, ?_, fun _ _ _ _ _ z q => let ⟨_, p⟩ := z.en; wpAny_pyIter_enum p q⟩
  · rintro X rfl rfl rfl hc i pins s σ H E I f z g
    exact enum_go z (D hc I z) I f g
  · rintro X rfl rfl rfl hc i pins s σ H E I f z g
    exact enum_end z (D hc I z) I f g
def iEnumT (K : PySem.W.Frag) (ta : TA) : TI := fun σ H R => ta σ H fun vs H1 => ∃ a xs, vs = [.ref a] ∧ SqT K H1 a xs ∧ R (IteT K a) H1
/-- enumerate(e) has been made: e, it the two new things -/
def EnMade (X : Cx) (pins : List (Addr × Obj)) (σ : L2.St) (R : It → Hp → Prop) (v : Value) (s : Shared) : Prop :=
  ∃ a e it H, v = .ref e ∧ Inv X pins σ H s ∧ EnAt a e it 0 s.heap ∧ (∀ b ∈ [e, it], FpOk X pins H b) ∧ R (IteT X.K a) H
theorem enum_made {X : Cx} {x : Expr} {ta : TA} {p pos : Pos} (hg : Gl X "enumerate") (hm : X.mg "enumerate" = none) (ha : PA X [x] ta) (hs : starEach [x] X.env = [(false, eval x X.env)])
    {pins : List (Addr × Obj)} {s : Shared} {σ : L2.St} {H : Hp} {R : It → Hp → Prop} (I : Inv X pins σ H s) (h : iEnumT X.K ta σ H R) :
    wpAny (model X.prog X.w) X.A (eval (.Call (.Name "enumerate" p) [x] [] pos) X.env) (EnMade X pins σ R) X.xe s := by
  have args := ha.run pos pins s σ H _ I h
  refine Call_ (ld_blt I hg hm boot_enumerate (PyProof.Rows.callWith_type1 (thn args ?_) hs rfl))
  rintro us s1 ⟨vs, H1, J, rs, a, xs, rfl, hq, q⟩
  obtain ⟨its, -, tp, -⟩ := J.tuple hq
  rw [Vals.ref1 rs]
  refine callEnumTup tp fun h' he hit hk => ⟨a, _, _, H1, rfl, J.kept (t' := s1.toks) hk, ⟨⟨_, he⟩, hit, Nat.succ_ne_self _, Nat.ne_of_lt tp.lt, Nat.ne_of_gt (Nat.lt_succ_of_lt tp.lt)⟩, ?_, q⟩
  have new : ∀ b, s1.heap.objs.size ≤ b → FpOk X pins H1 b := fun b k => J.fpOk k (J.hok.fresh k)
  exact both_of (new _ (Nat.le_succ _)) (new _ (Nat.le_refl _))
theorem piEnumT {X : Cx} {e : Expr} {ta : TA} {p pos tpos : Pos} {elts : List Expr} {kk : Nat} (hg : Gl X "enumerate") (hm : X.mg "enumerate" = none) (ha : PA X [e] ta) (hs : starEach [e] X.env = [(false, eval e X.env)] := by rfl) :
    PI X (.Tuple elts kk tpos) (.Call (.Name "enumerate" p) [e] [] pos) (iEnumT X.K ta) := by
  refine ⟨fun _ _ _ _ _ I h => thn (enum_made hg hm ha hs I h) ?_⟩
  rintro _ s1 ⟨a, e, it, H1, rfl, J, z, f, q⟩
  obtain ⟨_, en⟩ := z.en
  exact wpAny_pyIter_enum en ⟨e, [e, it], _, _, H1, rfl, J, turnEnumT a e it, z, f, q⟩
theorem walk_enumT {K : PySem.W.Frag} {a : Addr} {xs : List V} : Walk (IteT K a) xs.length (fun H => SqT K H a xs) (YPair (fun i => some (.int (i : Nat))) (fun i => xs[i]?)) := by
  refine ⟨fun i _ hi q => ⟨xs, xs[i], q, List.getElem?_eq_getElem hi⟩, fun _ q => ⟨xs, q, rfl⟩, ?_⟩
  rintro i H v _ _ q ⟨T, x, rfl, n, rfl, y⟩
  exact ⟨T, _, x, rfl, n, rfl, rfl, y xs q⟩
theorem walk_zipTT {K : PySem.W.Frag} {a b : Addr} {xs ys : List V} {n : Nat} (h1 : xs.length = n) (h2 : ys.length = n) : Walk (RZ.ItzT K a b) n (fun H => SqT K H a xs ∧ SqT K H b ys) (YPair (fun i => xs[i]?) (fun i => ys[i]?)) := by
  subst h1
  refine ⟨fun i _ hi q => ⟨xs, ys, xs[i], ys[i], q.1, q.2, List.getElem?_eq_getElem hi, List.getElem?_eq_getElem _⟩, fun _ q => ⟨xs, ys, q.1, q.2, by omega⟩, ?_⟩
  rintro i H v _ _ q ⟨T, x, z, rfl, n, rfl, y1, y2⟩
  exact ⟨T, x, z, rfl, n, rfl, y1 xs q.1, y2 ys q.2⟩
/-! ### max, min of a tuple of ints -/
section
variable {X : Cx}
def maxI (ns : List Int) : Int := match ns with
  | [] => 0
  | x :: xs => xs.foldl (fun a y => if PySem.W.DatumOrd.lt a y = true then y else a) x
def minI (ns : List Int) : Int := match ns with
  | [] => 0
  | x :: xs => xs.foldl (fun a y => if PySem.W.DatumOrd.lt y a = true then y else a) x
def rFoldT (K : PySem.W.Frag) (f : List Int → Int) : List V → Hp → VK → Prop := fun vs H Q => ∃ (a : Addr) (ns : List Int), vs = [V.ref a] ∧ SqT K H a (ns.map V.int) ∧ 0 < ns.length ∧ Q (.int (f ns)) H
/-- a builtin that folds a tuple of ints: its call on the library's level gives the reading -/
theorem crFold {nm : String} {f : List Int → Int}
    (call_ : ∀ {pins σ H s} {l : Addr} {vs : Array Value} {x : Int} {xs : List Int} {Q : Value → Shared → Prop} {E : Value → Shared → Prop}, Inv X pins σ H s → s.heap.IsTuple l vs → PySem.W.HoldAll s.heap vs.toList (x :: xs) →
      (∀ (i : Nat) v h' tk, vs[i]? = some v → PySem.W.Holds h' v (f (x :: xs)) → (∀ b o, s.heap.get? b = some o → h'.get? b = some o) → Q v { s with heap := h', toks := tk }) → wpAny (model X.prog X.w) X.A (call (.builtin nm) [.ref l]) Q E s) :
    CallR X (.builtin nm) (rFoldT X.K f) := by
  rintro pins s σ H vs us Q I r ⟨a, _ | ⟨n, ns⟩, rfl, hs, hne, q⟩
  · exact absurd hne (Nat.lt_irrefl 0)
  obtain ⟨its, rv, p, -⟩ := I.tuple hs
  rw [Vals.ref1 r]
  refine call_ (x := n) (xs := ns) I p (by rw [List.toList_toArray]; exact .of_ints rv.ints) fun _ v h' tk _ hv hk => ?_
  obtain ⟨t, rfl⟩ := PySem.W.int_of_holds hv
  exact ⟨.int _, H, I.kept hk, ⟨t, rfl⟩, q⟩
theorem crMaxT (hc : X.calm = true) (hu : X.A.units + 64 < cLine) : CallR X (.builtin "max") (rFoldT X.K maxI) :=
  crFold fun I hl H h => PySem.W.max_tuple_datum (I.ok.hd hc) hl H (by rw [show PySem.W.Datum.depth Int = 0 from rfl]; omega) h
theorem crMinT (hc : X.calm = true) (hu : X.A.units + 64 < cLine) : CallR X (.builtin "min") (rFoldT X.K minI) :=
  crFold fun I hl H h => PySem.W.min_tuple_datum (I.ok.hd hc) hl H (by rw [show PySem.W.Datum.depth Int = 0 from rfl]; omega) h
end
/-! ### ==, in, not in, count where the items are told by a relation -/
section
variable {X : Cx} {α : Type} [DecidableEq α] [PySem.W.Datum α]
/-- what D says of a value in the abstract heap, the heap bears out -/
def Snd (X : Cx) (D : Hp → V → α → Prop) : Prop := ∀ (pins : List (Addr × Obj)) (σ : L2.St) (H : Hp) (s : Shared) (v : V) (u : Value) (x : α), Inv X pins σ H s → D H v x → RelV v u → PySem.W.Holds s.heap u x
theorem Snd.all {D : Hp → V → α → Prop} (S : Snd X D) {pins : List (Addr × Obj)} {σ : L2.St} {H : Hp} {s : Shared} (I : Inv X pins σ H s) : ∀ {xs : List V} {us : List Value} {as : List α}, Paired (D H) xs as → Vals xs us → PySem.W.HoldAll s.heap us as
  | _, _, _, .nil, .nil => PySem.W.HoldAll.nil
  | _, _, _, .cons d p, .cons r q => PySem.W.HoldAll.cons (S _ _ _ _ _ _ _ I d r) (S.all I p q)
def rEqDt (D : Hp → V → α → Prop) : R2 := fun x y H Q => ∃ a b, D H x a ∧ D H y b ∧ Q (.bl (decide (a = b))) H
def rInDt (K : PySem.W.Frag) (D : Hp → V → α → Prop) (neg : Bool) : R2 := fun x y H Q => ∃ a p xs as, D H x a ∧ y = .ref p ∧ SqL K H p xs ∧ Paired (D H) xs as ∧ Q (.bl (if neg = true then decide (a ∉ as) else decide (a ∈ as))) H
theorem op_eqDt {D : Hp → V → α → Prop} (S : Snd X D) (hd : PySem.W.Datum.depth α ≤ 8) (hu : X.A.units + 64 < cLine) : OpR X (compareOp .Eq) (rEqDt D) := by
  rintro pins s σ H x y v u Q I rx ry ⟨a, b, da, db, q⟩
  exact PySem.W.eq_datum (S _ _ _ _ _ _ _ I da rx) (S _ _ _ _ _ _ _ I db ry) (by omega) ⟨.bl _, H, I, rfl, q⟩
/-- in and not in alike: the list's items are told -/
theorem op_amidDt {D : Hp → V → α → Prop} {op : CmpOp} {neg : Bool} (S : Snd X D)
    (law : ∀ {s : Shared} {l : Addr} {vs : Array Value} {as : List α} {v : Value} {a : α} {Q : Value → Shared → Prop} {E : Value → Shared → Prop}, s.heap.IsList l vs → PySem.W.HoldAll s.heap vs.toList as → PySem.W.Holds s.heap v a →
      Q (.bool (if neg = true then decide (a ∉ as) else decide (a ∈ as))) s → wpAny (model X.prog X.w) X.A (compareOp op v (.ref l)) Q E s) : OpR X (compareOp op) (rInDt X.K D neg) := by
  rintro pins s σ H x y v u Q I rx ry ⟨a, p, xs, as, da, rfl, hs, dp, q⟩
  cases ry
  obtain ⟨its, rv, pl, -⟩ := I.list hs
  exact law pl.isList (by rw [List.toList_toArray]; exact S.all I dp rv) (S _ _ _ _ _ _ _ I da rx) ⟨.bl _, H, I, rfl, q⟩
theorem op_inDt {D : Hp → V → α → Prop} (S : Snd X D) (hd : PySem.W.Datum.depth α ≤ 8) (hu : X.A.units + 64 < cLine) : OpR X (compareOp .In) (rInDt X.K D false) :=
  op_amidDt S fun hl H hv q => PySem.W.in_list_datum hl H hv (by omega) q
theorem op_notInDt {D : Hp → V → α → Prop} (S : Snd X D) (hd : PySem.W.Datum.depth α ≤ 8) (hu : X.A.units + 64 < cLine) : OpR X (compareOp .NotIn) (rInDt X.K D true) :=
  op_amidDt S fun hl H hv q => PySem.W.notIn_list_datum hl H hv (by omega) q
/-- a tuple that has no dict of its own, known so -/
def FrzT (H : Hp) (q : Addr) (xs : List V) : Prop := ∃ o : Obj, o.dict = none ∧ H q = some (.frz o (.tup xs))
theorem FrzT.sq {K : PySem.W.Frag} {H : Hp} {q : Addr} {xs : List V} (f : FrzT H q xs) : SqT K H q xs := by
  obtain ⟨o, _, e⟩ := f
  exact .inl (.inr ⟨o, e⟩)
def onOne (P : V → Hp → Prop) : List V → Hp → Prop
  | [y], H => P y H
  | _, _ => False
theorem onOne_of {P : V → Hp → Prop} : ∀ {vs : List V} {H : Hp}, onOne P vs H → ∃ y, vs = [y] ∧ P y H
  | [y], _, h => ⟨y, rfl, h⟩
  | [], _, h => h.elim
  | _ :: _ :: _, _, h => h.elim
def tCountT (D : Hp → V → α → Prop) (to te : TE) : TE := fun σ H Q => to σ H fun x H1 => (∃ q xs, x = .ref q ∧ FrzT H1 q xs) ∧ te σ H1 fun y H2 => ∃ q xs as a, x = .ref q ∧ FrzT H2 q xs ∧ Paired (D H2) xs as ∧ D H2 y a ∧ Q (.int ((as.countP fun z => decide (z = a) : Nat) : Int)) H2
/-- e, es stand as they are among a call's arguments, no star -/
abbrev NoStar (X : Cx) (e : Expr) (es : List Expr) : Prop := starEach (e :: es) X.env = (false, eval e X.env) :: starEach es X.env
/-- none of es has a star -/
abbrev PlainTail (X : Cx) (es : List Expr) (pos : Pos) : Prop := ((backTo pos (starEach es X.env)).any fun y => y.1) = false
/-- one argument, fewer than thirty, none by a star -/
abbrev FewOne (X : Cx) (e : Expr) (cpos : Pos) : Prop :=
  (((backTo cpos (starEach [e] X.env)).all fun y => !y.1) && (backToKw cpos (keywordEach [] X.env)).all (fun y => y.1.isSome) && decide (([e] : List Expr).length + ([] : List Keyword).length + (if ([] : List Keyword).isEmpty then 0 else 1) < 30)) = true
theorem pe_countT {D : Hp → V → α → Prop} {o e : Expr} {to te : TE} {apos cpos : Pos} (S : Snd X D) (hd : PySem.W.Datum.depth α ≤ 8) (hu : X.A.units + 64 < cLine) (ho : PE X o to) (he : PE X e te)
    (hbase : attributeBase o "count" X.env (eval o X.env) = eval o X.env := by rfl) (hline : (apos.endLine == cpos.line) = true := by rfl) (hs : NoStar X e [] := by rfl) (hfew : FewOne X e cpos := by rfl) :
    PE X (.Call (.Attribute o "count" apos) [e] [] cpos) (tCountT D to te) := by
  constructor
  intro pins s σ H Q I h
  refine wpAny_Call_method_late hbase hfew hline rfl (thn (ho.run pins s σ H _ I h) ?_)
  rintro v s1 ⟨x, H1, I1, r1, ⟨q, xs, rfl, o', hdn, hq⟩, q1⟩
  cases r1
  have z : s1.heap.get? q = some o' ∧ ObjOk X.prog X.w H1 s1.heap q (.tup xs) := I1.hok q _ hq
  obtain ⟨g1, _, its, _, o2, g2, g3, _⟩ := z
  cases g1.symm.trans g2
  refine ⟨"tuple", "tuple.count", PySem.F.plainAttrs_tuple, PySem.F.slot_tuple_count, PySem.F.type_tuple_count, ⟨o', g1, g3⟩, fun a ea => by cases ea; exact ⟨o', g1, hdn⟩, ?_⟩
  have hA := (pa_cons he pa_nil hs).run cpos pins s1 σ H1 (onOne _) I1 q1
  rw [show starEach [e] X.env = _ from hs] at hA ⊢
  refine Calls.callWith_builtin rfl (Calls.evalArgs_plain (thn hA ?_))
  rintro us s2 ⟨vs, H2, I2, r2, z⟩
  obtain ⟨y, rfl, q', ys, as, a, eq', f2, dp, dy, q2⟩ := onOne_of z
  cases eq'
  obtain ⟨u, rfl, ru⟩ := vals1 r2
  obtain ⟨its2, rv, p2, -⟩ := I2.tuple (FrzT.sq f2)
  exact PySem.W.count_tuple_datum p2 (by rw [List.toList_toArray]; exact S.all I2 dp rv) (S _ _ _ _ _ _ _ I2 dy ru) (by omega) ⟨.int _, H2, I2.tok _, ⟨_, rfl⟩, q2⟩
end
/-! ### tuple(list): what comes has no dict -/
section
variable {X : Cx}
def tTupFrz (K : PySem.W.Frag) (te : TE) : TE := fun σ H Q => te σ H fun x H1 => ∃ p xs, x = .ref p ∧ SqL K H1 p xs ∧ ∀ q, H1 q = none → ∀ H2, (∀ b, b ≠ q → H2 b = H1 b) → FrzT H2 q xs → Q (.ref q) H2
theorem pe_tupFrz {a : Expr} {ta : TE} {p pos : Pos} (hg : Gl X "tuple") (hm : X.mg "tuple" = none) (ha : PE X a ta) (na : NoStar X a [] := by rfl) :
    PE X (.Call (.Name "tuple" p) [a] [] pos) (tTupFrz X.K ta) := by
  constructor
  intro pins s σ H Q I h
  have arg := (pa_cons ha pa_nil na).run pos pins s σ H (onOne _) I h
  refine Call_ (ld_blt I hg hm boot_tuple (PyProof.Rows.callWith_type1 (thn arg ?_) na rfl))
  rintro us s1 ⟨vs, H1, J, rs, z⟩
  obtain ⟨y, rfl, c, xs, rfl, hq, q⟩ := onOne_of z
  rw [Vals.ref1 rs]
  obtain ⟨its, rv, pl, hz⟩ := J.list hq
  refine call_tuple_list pl.isList (fun h' kp => ?_) (by rw [List.size_toArray, ← rv.length]; exact hz)
  have J2 : Inv X pins σ H1 { s1 with heap := h' } := J.kept (t' := s1.toks) kp
  have J3 := J2.laid (t' := s1.toks) (h' := h'.push { cls := .type "tuple", data := .seq its.toArray }) (o := .frz { cls := .type "tuple", data := .seq its.toArray } (.tup xs)) (fun _ _ e => Heap.get?_push_of_some _ e) (Nat.le_refl _) ⟨Heap.get?_push_size _ rfl, hz, its, rv, IsTup.new _ _⟩
  exact ⟨.ref h'.objs.size, _, J3, rfl, q _ (J2.hok.fresh (Nat.le_refl _)) _ (fun _ => upd_ne) ⟨_, rfl, upd_same⟩⟩
end
/-! ### C.m(e, ..), m a static method of the class at C -/
structure SMet (K : PySem.W.Frag) (C : Addr) (mc : Value) (m : Str) (p g : Addr) : Prop where
  at_ : PySem.W.findCls K (.ref C) mc m = some (.get (.builtin "staticmethod.__get__") (.ref p) .none (.ref C))
  rc : ∃ rest, PySem.W.recIn K p "staticmethod" = some (.ref g :: rest)
  kp : PySem.W.keepIn K (.ref g) = true
def tSMeth (C : Addr) (sp : Sp) (E : XK) (ta : TE) (t : TA) : TE := fun σ H Q => ta σ H fun x H1 => x = .ref C ∧ t σ H1 fun vs H2 => sp vs H2 Q E
section
variable {X : Cx} {CX : CXT} {k : Nat} {C p g : Addr} {mc : Value} {sp : Sp} {fd : FuncData} {ps : List Str} {E : XK} {o e : Expr} {es : List Expr} {m : Str} {pos apos : Pos} {ta : TE} {t : TA} {pl : Sem Bool}
/-- the call o.m(..) looks o up, then the method, then calls -/
abbrev ByMeth (X : Cx) (o : Expr) (m : Str) (apos pos : Pos) (args : List Expr) (pl : Sem Bool) : Prop := eval (.Call (.Attribute o m apos) args [] pos) X.env =
  (eval o X.env >>= fun v => standAt apos.atName >>= fun _ => holding [v] (getMethod v m pl) >>= fun r => callWith pos r.1 r.2 (backTo pos (starEach args X.env)) (backToKw pos (keywordEach [] X.env)))
theorem pe_smeth (he : PE X o ta) (r : ClX.CRead X.K C mc) (c : SMet X.K C mc m p g) (F : FnOk X.prog X.w X.K X.mg X.base CX k g fd ps sp) (hr : Room k X.A) (hb : Binds X.K fd ps []) (hx : Passes CX X E) (ha : PA X (e :: es) t)
    (hst : NoStar X e es := by rfl) (hpl : PlainTail X es pos := by rfl) (ht : ByMeth X o m apos pos (e :: es) pl := by rfl) :
    PE X (.Call (.Attribute o m apos) (e :: es) [] pos) (tSMeth C sp E ta t) := by
  constructor
  intro pins s σ H Q I h
  refine PySem.W.methodCall_KW (pl := pl) (thn (he.run pins s σ H _ I h) ?_) ht
  rintro u s1 ⟨x, H1, J, rx, rfl, q⟩
  cases rx
  obtain ⟨rest, hp⟩ := c.rc
  have J2 : Inv X pins σ H1 { s1 with toks := s1.toks + 1 } := J.tok _
  refine PySem.W.method_cls J.kIn r.ga (PySem.W.cls_bind J.kIn r.rd c.at_ (wpAny_call (PySem.W.sm_get (s := { s1 with toks := s1.toks + 1 }) J.kIn hp (PySem.W.handed_on rfl ?_))))
  refine PySem.W.callWith_K (h₀ := X.base) (first := []) J2.ok.mod.kin c.kp (thn (ha.run pos pins _ σ H1 _ J2 q) ?_) hst hpl
  rintro us s2 ⟨vs, H2, J3, r3, q2⟩
  exact ⟨J3.kIn, run_fn (dvs := []) F hr hb .nil hx J3 r3 (by rw [List.append_nil]; exact q2)⟩
end
end WR

set_option Elab.async false
set_option linter.all false
set_option maxRecDepth 100000
set_option maxHeartbeats 3900000
/-! The error Unreachable: its __init__ calls super().__init__ with a text and stores the objection. -/
namespace WE
open PySem PySem.W PySem.Calls PyProof.Rows PySem.HandSPX
abbrev PG : Program := PySem.Challenge.pw_withincall_k14_whole_rings
abbrev uS : Stmt := L2.inClass (PG.main.body.getD 8 (.Pass ⟨0, 0, 0, 0⟩)) 0
/-- what the written part says of the class at C and of its __init__ at fI: cc the cell of __class__, cda the code object, D what the cell holds (the class itself) -/
structure UnT (K : Frag) (mg : Str → Option Value) (C fI : Addr) : Prop where
  gC : mg "Unreachable" = some (.ref C)
  gS : mg "super" = none
  cls : ∃ nm q N bs bm sn sub ab col dd k0 k1 k2 k3 k5, K.lookup C = some (excClassObj nm q C N bs bm true sn sub ab col dd k0 k1 k2 k3 k5 "ValueError.__new__") ∧ refsVE bm = true
  sa : findIn K (.ref C) "__setattr__" = some (some (.builtin "object.__setattr__"))
  noN : findIn K (.ref C) "objection" = some none
  iC : findIn K (.ref C) "__init__" = some (some (.ref fI))
  tC : typeIn K (.ref fI) = some (.type "function")
  kC : keepIn K (.ref C) = true
  exC : subIn K (.ref C) (.type "BaseException") = some true
  exV : subIn K (.ref C) (.type "ValueError") = some true
  mrC : mroIn K C (.ref C) = some true
  tyC : typeIn K (.ref C) = some (.type "type")
  hdC : hasDictIn K C = true
  any : nsIn K cStatics "thirdparty.any" = some none
  sup : ks_superIn K C C "__init__" = some (some (.builtin "ValueError.__init__"))
  fn : ∃ (oc : Value) (od : Option Addr) (kV doc pm : Value) (an : Option Addr) (cda cc : Addr) (ct : Value) (osl : Array (Option Value)),
    K.lookup fI = some ⟨oc, od, .func (ksFn "__init__" "Unreachable.__init__" (L2.defArgs uS) (L2.defBody uS) (L2.defScope uS) .none kV doc pm an (.ref cda) ct cc), osl⟩ ∧ codeIn K (.ref cda) "Unreachable.__init__" = true ∧
    (∃ ccl cld csl, K.lookup cc = some ⟨ccl, cld, .cell (some (.ref C)), csl⟩) ∧
    ∃ dcl dld dsl vs file tf, K.lookup cda = some ⟨dcl, dld, .fields vs, dsl⟩ ∧ vs[2]? = some (.str file tf) ∧ ((PG.main.file : Str) == file) = true
theorem str_nz (z : Str) : (1 : Nat) ≤ sizeLine := by
  rw [sizeLine_eq]
  decide
structure InitE (h h' : Heap) (x C dx t1 : Addr) (v : Value) : Prop where
  keep : ∀ b o, b ≠ x → h.get? b = some o → h'.get? b = some o
  obj : h'.get? x = some { cls := .ref C, dict := some dx, data := .fields #[.ref t1, .none, .none, .none, .bool false, .none] }
  dbig : h.objs.size ≤ dx
  dne : dx ≠ x
  ns : h'.Ns1 dx (fun y => if y = "objection" then some v else none)
theorem uNoCell : ∀ y ∈ (L2.defScope uS).names, y.2 ≠ .cell := by decide +kernel
theorem uSelf : (L2.defScope uS).names.lookup ("self" : Str) = some .local := by decide +kernel
theorem uObj : (L2.defScope uS).names.lookup ("objection" : Str) = some .local := by decide +kernel
theorem uLoc (a b : Value) : ∀ y ∈ ([(("self" : Str), a), (("objection" : Str), b)] : List (Str × Value)), (L2.defScope uS).names.lookup y.1 = some .local := List.forall_mem_cons.mpr ⟨uSelf, List.forall_mem_cons.mpr ⟨uObj, nofun⟩⟩
theorem bootSuper : bootBuiltins ("super" : Str) = some (.type "super") := by decide +kernel
theorem ld_loc {M : Model} {A : Around} {E : Value → Shared → Prop} {s : Shared} {env : Env} {m : Str → Option Value} {y : Str} {pos : Pos} {v : Value} {Q : Value → Shared → Prop} (hn : s.heap.Ns env.locals m) (hv : m y = some v) (q : Q v s)
    (k1 : env.scope.kind = .function := by rfl) (k2 : env.kindOf y = some .local := by rfl) (k3 : (y == ("__debug__" : Str)) = false := by decide) : wpAny M A (eval (.Name y pos) env) Q E s :=
  wpAny_Name (wpAny_loadName_local k1 k2 hn hv q) k3
section
variable {w : World} {A : Around} {E : Value → Shared → Prop} {R : Result → Shared → Prop} {s : Shared} {K : Frag} {mg mb : Str → Option Value} {C fI : Addr}
theorem un_init (T : UnT K mg C fI) {x t0 : Addr} {v : Value} (X : K.In s.heap) (hg : s.heap.Ns mainGlobals mg) (hb : s.heap.Ns builtinsNs mb) (hbs : ∀ y : Str, y ≠ "__name__" → mb y = bootBuiltins y)
    (hlim : s.heap.NoLimit) (hx : s.heap.get? x = some (excO C t0)) (hnx : K.lookup x = none) (hroom : A.depth < recursionLimit)
    (hq : ∀ h' tk dx t1, InitE s.heap h' x C dx t1 v → R (.ok (.ret .none)) { s with heap := h', toks := tk }) :
    codeAny (model PG w) A (.call (.ref fI) ⟨[.ref x, v], []⟩) R s := by
  obtain ⟨oc, od, kV, doc, pm, an, cda, cc, ct, osl, ho, hcd, ⟨ccl, cld, csl, hcc⟩, dcl, dld, dsl, vs, file, tf, hcode, hvs, hfile⟩ := T.fn
  rcases T.cls with ⟨nm, q, N, bs, bm, sn, sub, ab, col, dd, k0, k1, k2, k3, k5, hC, hbm⟩
  have hcl : clsIn K C = some { name := nm, bases := bs, mro := .ref C :: bm, ns := N, qualname := q, hasDict := true, slotNames := sn, subclasses := sub, abstract := ab, collection := col, hasDel := false } := by unfold clsIn; rw [hC] <;> rfl
  refine ks_codeAny_call_defAt (fd := ksFn "__init__" "Unreachable.__init__" (L2.defArgs uS) (L2.defBody uS) (L2.defScope uS) .none kV doc pm an (.ref cda) ct cc) (body := L2.defBody uS) (binds := [("self", .ref x), ("objection", v)])
    hroom (X _ _ ho) rfl hlim (codeRec_of X hcd) rfl (BindsTo.of_eq (by first | rfl | with_unfolding_all rfl)) uNoCell (uLoc _ _) (fun h₁ hn k => ?_) (by rfl) (by rfl) (by rfl)
  have X₁ : K.In h₁ := X.keeps k
  have hx₁ := k _ _ hx
  have hL : s.heap.objs.size < h₁.objs.size := hn.lt
  have hxL : s.heap.objs.size ≠ x := Nat.ne_of_gt (Heap.lt_size hx)
  obtain ⟨hp, g, dr, tk0, os⟩ := s
  -- super().__init__('..')
  refine ks_wpAt_execs_cons ?_
  refine ks_wpAt_Expr_any ?_ (by rfl) (by rfl)
  refine ks_wpAt_MethodCall (pl := pure false) ?_ (by rfl)
  refine ks_wpAt_super_base (f := fI) (of := ⟨oc, od, .func (ksFn "__init__" "Unreachable.__init__" (L2.defArgs uS) (L2.defBody uS) (L2.defScope uS) .none kV doc pm an (.ref cda) ct cc), osl⟩) (fd := ksFn "__init__" "Unreachable.__init__" (L2.defArgs uS) (L2.defBody uS) (L2.defScope uS) .none kV doc pm an (.ref cda) ct cc)
    (cc := cda) (oc := ⟨dcl, dld, .fields vs, dsl⟩) (vs := vs) (file := file) (tf := tf) (by rfl) (by rfl) (by decide +kernel) (by rfl) (X₁ _ _ ho) (by rfl) (by rfl) (by rfl) (X₁ _ _ hcode) (by rfl) hvs hfile (by decide +kernel) ?_
  refine ks_loadName_global (by rfl) (by rfl) (loadGlobal_builtin (hg.keeps k) T.gS (hb.keeps k) ((hbs _ (by decide +kernel)).trans bootSuper) ⟨rfl, ?_⟩)
  refine wpAny_loadName_free (by rfl) (by rfl) (c := cc) (by rfl) ⟨_, X₁ _ _ hcc, rfl⟩ ?_
  refine wpAny_loadName_local (by rfl) (by rfl) hn (v := .ref x) (by rfl) ?_
  have hC1 := X₁ _ _ hC
  refine ks_wpAny_isType_cls hC1 rfl ⟨rfl, ?_⟩
  refine ks_wpAny_call_super hC1 rfl hx₁ rfl (fun _ z => nomatch z) (looks_mroIn X₁ T.mrC) (fun h₂ hso k₂ => ?_)
  have X₂ : K.In h₂ := X₁.keeps k₂
  have hx₂ := k₂ _ _ hx₁
  have I₂ : InstAt h₂ x (excO C t0) C none := ⟨hx₂, rfl, rfl, trivial⟩
  have hsup := T.sup
  unfold ks_superIn at hsup
  rw [hcl] at hsup
  refine kxs_getMethod kxs_ValueError hso (looks_opaque X₂ T.any) (l₀ := .ref C :: bm) (fun A Q E s k q => wpAny_bind ((looks_clsIn X₂ hcl) A _ E s k (wpAny_pure q))) rfl X₂ hsup (I₂.type.andThen (looks_subIn X₂ T.exV)) (ks_ne X₂ I₂ hcl) (by decide +kernel) ?_
  have k₃ : ∀ b o, h₂.get? b = some o → (h₂.push (kxs_mw "ValueError.__init__" x)).get? b = some o := fun b o e => Heap.get?_push_of_some _ e
  have hu : (h₂.push (kxs_mw "ValueError.__init__" x)).get? h₂.objs.size = some (kxs_mw "ValueError.__init__" x) := Heap.get?_push_size _ rfl
  generalize hh₃ : h₂.push (kxs_mw "ValueError.__init__" x) = h₃ at k₃ hu
  have X₃ : K.In h₃ := X₂.keeps k₃
  have hx₃ := k₃ _ _ hx₂
  have hn₃ := (hn.keeps k₂).keeps k₃
  refine kxs_callWith (i := "ValueError.__init__") (u := h₂.objs.size) (x := x) (by rfl) (evalArgs_plain (spliced_cons (Calls.Constant_str (pos := ⟨0, 0, 0, 0⟩) (k := 0) (spliced_nil ⟨hu, ?_⟩))))
  -- the built-in __init__
  apply wpAny_call; apply codeAny_of_tree
  show wpAny _ _ (callAny (.ref h₂.objs.size) _) _ _ _
  have wrapper : (Value.type "method-wrapper" == Value.type "method" || Value.type "method-wrapper" == Value.type "builtin_function_or_method" || Value.type "method-wrapper" == Value.type "method-wrapper") = true := by decide
  rw [callAny]
  apply wpAny_bind; apply wpAny_load hu
  simp only [kxs_mw, wrapper, if_true]
  apply KFB.if_so (by decide)
  refine wpAny_bind (check_bound_init F.excBase_ValueError.toExcCallFacts (X₃ _ _ hC) hx₃ rfl ?_)
  refine wpAny_bind (wpAny_pure (wpAny_pure ⟨plainId_quiet F.excBase_ValueError.init.plain _, codeAny_builtin F.excBase_ValueError.initEntry ?_⟩))
  refine exc_init_tree (cls := .ref C) (t0 := t0) (dv := none) (c2 := .none) (c3 := .none) (b4 := .bool false) hx₃ (str_nz "") fun h₄ k₄ hx₄ _ => ?_
  show PySem.wpAt _ _ _ (execs _ _) _ _ _
  refine wpAt_of_wpAny ?_
  have hn₄ : h₄.Ns hp.objs.size (fun y => ([(("self" : Str), Value.ref x), (("objection" : Str), v)] : List (Str × Value)).reverse.lookup y) := by
    obtain ⟨o, es, ep, ho', r⟩ := hn₃
    exact ⟨o, es, ep, k₄ _ _ hxL ho', r⟩
  have X₄ : K.In h₄ := fun a o e => k₄ a o (fun z => by rw [z, hnx] at e; cases e) (X₃ a o e)
  refine wpAny_execs_cons (plainObj_wpAny_Assign_Attribute ?_ (by rfl))
  refine ld_loc hn₄ (v := v) (by rfl) (ld_loc hn₄ (v := .ref x) (by rfl) ?_)
  refine set_plain X₄ (ox := excO C h₃.objs.size) (od := none) ⟨hx₄, rfl, rfl, trivial⟩ T.sa ?_
  refine exc_osa X₄ hx₄ hcl (show refsVE (.ref C :: bm) = true from hbm) rfl T.noN (fun h₅ tk₅ dx k₅ dn dne hx₅ hn₅ => ?_)
  show wpAny _ _ (execs _ _) _ _ _
  refine wpAny_execs_nil (hq h₅ tk₅ dx h₃.objs.size ⟨fun b o hb e => k₅ b o hb (k₄ b o hb (k₃ b o (k₂ b o (k b o e)))), hx₅, ?_, dne, hn₅⟩)
  -- the new dict stands behind what was there
  refine Nat.le_of_not_lt fun lt => ?_
  have : h₄.objs.size ≤ hp.objs.size := Nat.le_trans dn (Nat.le_of_lt lt)
  obtain ⟨o, _, _, ho', _⟩ := hn₄
  exact absurd (Nat.lt_of_lt_of_le (Heap.lt_size ho') this) (Nat.lt_irrefl _)
/-- a made Unreachable -/
structure Made (h h' : Heap) (e C d : Addr) (v : Value) : Prop where
  keep : ∀ b o, h.get? b = some o → h'.get? b = some o
  new : h.objs.size ≤ e
  obj : ∃ oe vs, h'.get? e = some oe ∧ oe.cls = .ref C ∧ oe.dict = some d ∧ oe.data = .fields vs ∧ vs[1]? = some .none ∧ vs[2]? = some .none
  dbig : h.objs.size ≤ d
  dne : d ≠ e
  ns : h'.Ns1 d (fun y => if y = "objection" then some v else none)
theorem un_made (T : UnT K mg C fI) {v : Value} (X : K.In s.heap) (hg : s.heap.Ns mainGlobals mg) (hb : s.heap.Ns builtinsNs mb) (hbs : ∀ y : Str, y ≠ "__name__" → mb y = bootBuiltins y) (hlim : s.heap.NoLimit) (hroom : A.depth + 1 < recursionLimit)
    (hq : ∀ h' tk e d, Made s.heap h' e C d v → R (.ok (.ret (.ref e))) { s with heap := h', toks := tk }) :
    codeAny (model PG w) A (.call (.ref C) ⟨[v], []⟩) R s := by
  rcases T.cls with ⟨nm, q, N, bs, bm, sn, sub, ab, col, dd, k0, k1, k2, k3, k5, hC, hbm⟩
  rcases s with ⟨hp, g, dr, tk, os⟩
  have k : ∀ b o, hp.get? b = some o → ((hp.push (kdv_tup [v])).push (excO C hp.objs.size)).get? b = some o := fun b o e => Heap.get?_push_of_some _ (Heap.get?_push_of_some _ e)
  have hget : ((hp.push (kdv_tup [v])).push (excO C hp.objs.size)).get? (hp.objs.size + 1) = some (excO C hp.objs.size) := by heap_get
  have hnx : K.lookup (hp.objs.size + 1) = none := by
    cases e : K.lookup (hp.objs.size + 1) with
    | none => rfl
    | some o =>
      have z : hp.get? (hp.objs.size + 1) = some o := X _ _ e
      exact absurd (Nat.lt_of_succ_lt (Heap.lt_size z)) (Nat.lt_irrefl _)
  refine call_own F.excBase_ValueError (fun Y => refsVE_contains Y bm hbm) (X _ _ hC) (looks_findIn X T.iC) (fun self => bind_fn X self T.tC) (str_nz "") ?_
  refine un_init (s := ⟨(hp.push (kdv_tup [v])).push (excO C hp.objs.size), g, dr, tk, os⟩) T (X.keeps k) (hg.keeps k) (hb.keeps k) hbs (hlim.keeps k) hget hnx ?_ fun h' tk' dx t1 ⟨k', hx, dn, dne, hns⟩ => ?_
  · show A.depth + 1 < recursionLimit
    exact hroom
  · have old : ∀ b o, hp.get? b = some o → h'.get? b = some o := fun b o e => k' b o (Nat.ne_of_lt (Nat.lt_succ_of_lt (Heap.lt_size e))) (k b o e)
    have z : hp.objs.size + 1 + 1 ≤ dx := by
      have q := dn
      rw [Heap.size_push, Heap.size_push] at q
      exact q
    exact ⟨rfl, hq h' tk' (hp.objs.size + 1) dx ⟨old, Nat.le_succ _, ⟨_, _, hx, rfl, rfl, rfl, rfl, rfl⟩, Nat.le_trans (Nat.le_trans (Nat.le_succ _) (Nat.le_succ _)) z, dne, hns⟩⟩
end
end WE
namespace L2
open PySem PyProof.Rows PySem.Spec
theorem relO_obj {v : V} {v' : Value} (r : RelV v v') (f : Str) : RelO (List.lookup f [(("objection" : Str), v)]) (if f = "objection" then some v' else none) := by
  by_cases hw : f = "objection"
  · subst hw
    rw [if_pos rfl]
    have q : List.lookup ("objection" : Str) [(("objection" : Str), v)] = some v := by simp [List.lookup]
    rw [q]
    exact r
  · rw [if_neg hw]
    have qw : (f == ("objection" : Str)) = false := by simpa using hw
    have q2 : List.lookup f [(("objection" : Str), v)] = none := by simp [List.lookup, qw]
    rw [q2]
    trivial
section
variable {X : Cx} {C fI : Addr}
/-- Unreachable(e) -/
def tMkUn (C : Addr) (ta : TA) : St → Hp → XK → Prop := fun σ H Q => ta σ H fun vs H1 => ∃ v, vs = [v] ∧ ∀ d, H1 d = none → Q (.ref C) (some d) (upd H1 d (.xd [(("objection" : Str), v)]))
/-- raise Unreachable(e) -/
def tRaiseUn (C : Addr) (W : WX) (ta : TA) : TS := fun _ σ H => tMkUn C ta σ H fun cls d H' => W cls d σ H'
end
end L2

set_option Elab.async false
set_option linter.all false
set_option maxRecDepth 100000
set_option maxHeartbeats 3900000
/-! What a reading evaluates to, told by types: a type says what a value is in a heap; what stands at the addresses S may change. -/
namespace WT
open PySem PySem.Spec PyProof.Rows L2 Evl
structure Ty where
  p : V → Hp → Prop
  mono : ∀ {v : V} {H H' : Hp}, Ex H H' → p v H → p v H'
abbrev Cn := List (Option Ty)
abbrev Ps (H : Hp) : List V → List Ty → Prop := Paired fun v t => t.p v H
theorem Ps.mono {H H' : Hp} (e : Ex H H') : ∀ {vs : List V} {ts : List Ty}, Ps H vs ts → Ps H' vs ts
  | _, _, .nil => .nil
  | _, _, .cons a b => .cons (Ty.mono _ e a) (Ps.mono e b)
theorem Ps.get {H : Hp} : ∀ {vs : List V} {ts : List Ty} {i : Nat} {t : Ty}, Ps H vs ts → ts[i]? = some t → ∃ v, vs[i]? = some v ∧ t.p v H
  | _, _, _, _, .nil, h => by simp at h
  | _, _, 0, _, .cons a _, e => by
    simp at e
    subst e
    exact ⟨_, rfl, a⟩
  | _, _, i + 1, t, .cons _ b, e => by
    obtain ⟨v, h1, h2⟩ := Ps.get (i := i) b (by simpa using e)
    exact ⟨v, by simpa using h1, h2⟩
theorem Ps.of {H : Hp} : ∀ {vs : List V} {ts : List Ty} {i : Nat} {v : V}, Ps H vs ts → vs[i]? = some v → ∃ t, ts[i]? = some t ∧ t.p v H
  | _, _, _, _, .nil, h => by simp at h
  | _, _, 0, _, .cons a _, e => by
    simp at e
    subst e
    exact ⟨_, rfl, a⟩
  | _, _, i + 1, t, .cons _ b, e => by
    obtain ⟨v, h1, h2⟩ := Ps.of (i := i) b (by simpa using e)
    exact ⟨v, by simpa using h1, h2⟩
theorem Ps.len {H : Hp} {vs : List V} {ts : List Ty} (h : Ps H vs ts) : vs.length = ts.length := Paired.length h
theorem Ps.app {H : Hp} : ∀ {vs ws : List V} {ts us : List Ty}, Ps H vs ts → Ps H ws us → Ps H (vs ++ ws) (ts ++ us)
  | _, _, _, _, .nil, s => s
  | _, _, _, _, .cons a b, s => .cons a (Ps.app b s)
theorem Ps.take {H : Hp} : ∀ (n : Nat) {vs : List V} {ts : List Ty}, Ps H vs ts → Ps H (vs.take n) (ts.take n)
  | 0, _, _, _ => .nil
  | _ + 1, _, _, .nil => .nil
  | n + 1, _, _, .cons a b => .cons a (Ps.take n b)
theorem Ps.drop {H : Hp} : ∀ (n : Nat) {vs : List V} {ts : List Ty}, Ps H vs ts → Ps H (vs.drop n) (ts.drop n)
  | 0, _, _, h => h
  | _ + 1, _, _, .nil => .nil
  | n + 1, _, _, .cons _ b => Ps.drop n b
/-! ### hidden addresses -/
def hid (S : List Addr) (H : Hp) : Hp := fun a => if a ∈ S then none else H a
def notT : HO → Bool
  | .tup _ => false
  | _ => true
/-- what is hidden is there, and is no tuple -/
def Live (S : List Addr) (H : Hp) : Prop := ∀ a ∈ S, ∃ o, H a = some o ∧ notT o = true
section
variable {S : List Addr} {H H' H1 H2 : Hp} {a p : Addr} {o : HO}
theorem hid_ex : Ex (hid S H) H := fun a o e => by
  unfold hid at e
  split at e
  · cases e
  · exact e
theorem ex_hid (e : Ex H H') : Ex (hid S H) (hid S H') := fun a o h => by
  unfold hid at h ⊢
  split at h
  · cases h
  · rename_i n
    rw [if_neg n]
    exact e a o h
theorem hid_of (h : a ∉ S) : hid S H a = H a := if_neg h
theorem hid_in (h : a ∈ S) : hid S H a = none := if_pos h
theorem hid_some (h : hid S H a = some o) : a ∉ S ∧ H a = some o := by
  unfold hid at h
  split at h
  · cases h
  · rename_i n
    exact ⟨n, h⟩
theorem hid_nil : hid [] H = H := by
  funext a
  exact if_neg (by simp)
theorem hid_cons : Ex (hid (a :: S) H) (hid S H) := fun b o h => by
  obtain ⟨n, e⟩ := hid_some h
  rw [hid_of fun z => n (List.mem_cons_of_mem _ z)]
  exact e
theorem hid_upd (h : a ∈ S) : hid S (upd H a o) = hid S H := by
  funext b
  unfold hid
  split
  · rfl
  · rename_i n
    exact upd_ne fun e => n (e ▸ h)
theorem Live.mono (l : Live S H) (e : Ex H H') : Live S H' := fun a ha => let ⟨o, h, n⟩ := l a ha; ⟨o, e a o h, n⟩
theorem Live.tup {xs : List V} (l : Live S H) (h : H p = some (.tup xs)) : p ∉ S := fun hp => by
  obtain ⟨o, e, n⟩ := l p hp
  rw [h] at e
  cases e
  cases n
theorem Live.free (l : Live S H) (h : H p = none) : p ∉ S := fun hp => by
  obtain ⟨o, e, _⟩ := l p hp
  rw [h] at e
  cases e
theorem Live.new (l : Live S H) (h : H p = none) : hid S (upd H p o) p = some o := by
  rw [hid_of (l.free h)]
  exact upd_same
theorem Live.cons (l : Live S H) (h : H a = some o) (n : notT o = true) : Live (a :: S) H := fun b hb => by
  rcases List.mem_cons.1 hb with e | hb
  · exact ⟨o, e ▸ h, n⟩
  · exact l b hb
theorem Live.upd (l : Live S H) (n : notT o = true) : Live S (upd H a o) := fun b hb => by
  by_cases e : b = a
  · subst e
    exact ⟨o, upd_same, n⟩
  · obtain ⟨u, h, m⟩ := l b hb
    exact ⟨u, by rw [upd_ne e]; exact h, m⟩
def Go (S : List Addr) (H H' : Hp) : Prop := Ex (hid S H) (hid S H') ∧ Live S H'
theorem Go.of (l : Live S H) (e : Ex H H') : Go S H H' := ⟨ex_hid e, l.mono e⟩
theorem Go.trans (a : Go S H H1) (b : Go S H1 H2) : Go S H H2 := ⟨a.1.trans b.1, b.2⟩
theorem Go.refl (l : Live S H) : Go S H H := ⟨Ex.refl _, l⟩
end
/-! ### types -/
def tv (x : V) : Ty := ⟨fun v _ => v = x, fun _ h => h⟩
abbrev tI (i : Int) : Ty := tv (.int i)
abbrev tS (s : Str) : Ty := tv (.str s)
abbrev tL (b : Bool) : Ty := tv (.bl b)
def tup (ts : List Ty) : Ty := ⟨fun v H => ∃ a vs, v = .ref a ∧ H a = some (.tup vs) ∧ Ps H vs ts, fun e ⟨a, vs, h1, h2, h3⟩ => ⟨a, vs, h1, e _ _ h2, h3.mono e⟩⟩
def lst (ts : List Ty) : Ty := ⟨fun v H => ∃ a vs, v = .ref a ∧ H a = some (.lst vs) ∧ Ps H vs ts, fun e ⟨a, vs, h1, h2, h3⟩ => ⟨a, vs, h1, e _ _ h2, h3.mono e⟩⟩
/-- a tuple of ints -/
abbrev TN (xs : List Int) : Ty := tup (xs.map tI)
theorem ti_vals {H : Hp} : ∀ {vs : List V} {xs : List Int}, Ps H vs (xs.map tI) → vs = xs.map V.int
  | _, [], .nil => rfl
  | _, x :: xs, .cons a b => by
    rw [show _ = V.int x from a, ti_vals b]
    rfl
theorem ti_ps {H : Hp} : ∀ (xs : List Int), Ps H (xs.map V.int) (xs.map tI)
  | [] => .nil
  | x :: xs => .cons rfl (ti_ps xs)
theorem ti_at {v : V} {H : Hp} {xs : List Int} (h : (TN xs).p v H) : ∃ a, v = .ref a ∧ H a = some (.tup (xs.map V.int)) := by
  obtain ⟨a, vs, h1, h2, h3⟩ := h
  rw [ti_vals h3] at h2
  exact ⟨a, h1, h2⟩
/-! ### slots -/
def Env (Γ : Cn) (σ : L2.St) (H : Hp) : Prop := ∀ (i : Nat) (T : Ty), Γ[i]? = some (some T) → ∃ v, σ[i]? = some (some v) ∧ T.p v H
structure At (S : List Addr) (Γ : Cn) (σ : L2.St) (H : Hp) : Prop where
  env : Env Γ σ (hid S H)
  live : Live S H
  len : Γ.length = σ.length
section
variable {S : List Addr} {Γ Γ' : Cn} {σ : L2.St} {H H' : Hp} {T : Ty} {v : V} {i : Nat}
theorem At.go (h : At S Γ σ H) (g : Go S H H') : At S Γ σ H' := ⟨fun i T e => let ⟨v, h1, h2⟩ := h.env i T e; ⟨v, h1, T.mono g.1 h2⟩, g.2, h.len⟩
theorem At.ex (h : At S Γ σ H) (e : Ex H H') : At S Γ σ H' := h.go (.of h.live e)
theorem At.set (h : At S Γ σ H) (t : T.p v (hid S H)) : At S (Γ.set i (some T)) (σ.set i (some v)) H := by
  refine ⟨fun j U e => ?_, h.live, by rw [List.length_set, List.length_set]; exact h.len⟩
  by_cases q : i = j
  · subst q
    have hl : i < Γ.length := by
      have z := (List.getElem?_eq_some_iff.mp e).1
      rw [List.length_set] at z
      exact z
    rw [List.getElem?_set_self hl] at e
    cases e
    exact ⟨v, List.getElem?_set_self (by rw [← h.len]; exact hl), t⟩
  · rw [List.getElem?_set_ne q] at e
    obtain ⟨w, h1, h2⟩ := h.env j U e
    exact ⟨w, by rw [List.getElem?_set_ne q]; exact h1, h2⟩
/-- fewer slots known -/
def Le (Γ' Γ : Cn) : Prop := Γ'.length = Γ.length ∧ ∀ (i : Nat) (T : Ty), Γ'[i]? = some (some T) → Γ[i]? = some (some T)
theorem Le.refl (Γ : Cn) : Le Γ Γ := ⟨rfl, fun _ _ h => h⟩
theorem At.le (h : At S Γ σ H) (l : Le Γ' Γ) : At S Γ' σ H := ⟨fun i T e => h.env i T (l.2 i T e), h.live, l.1.trans h.len⟩
theorem le_nil : Le [] [] := Le.refl _
theorem le_cons {x : Option Ty} (h : Le Γ' Γ) : Le (x :: Γ') (x :: Γ) := ⟨by simp [h.1], fun i T e => by
  cases i with
  | zero => exact e
  | succ i => exact h.2 i T (by simpa using e)⟩
theorem le_none {x : Option Ty} (h : Le Γ' Γ) : Le (none :: Γ') (x :: Γ) := ⟨by simp [h.1], fun i T e => by
  cases i with
  | zero => simp at e
  | succ i => exact h.2 i T (by simpa using e)⟩
def wipeC (Γ : Cn) : List Nat → Cn
  | [] => Γ
  | v :: vs => (wipeC Γ vs).set v none
theorem At.unset (h : At S Γ σ H) (i : Nat) : At S (Γ.set i none) (σ.set i none) H := by
  refine ⟨fun j U e => ?_, h.live, by rw [List.length_set, List.length_set]; exact h.len⟩
  by_cases q : i = j
  · subst q
    have hl : i < Γ.length := by
      have z := (List.getElem?_eq_some_iff.mp e).1
      rw [List.length_set] at z
      exact z
    rw [List.getElem?_set_self hl] at e
    cases e
  · rw [List.getElem?_set_ne q] at e
    obtain ⟨w, h1, h2⟩ := h.env j U e
    exact ⟨w, by rw [List.getElem?_set_ne q]; exact h1, h2⟩
theorem At.wipe (h : At S Γ σ H) : ∀ vs : List Nat, At S (wipeC Γ vs) (wipe σ vs) H
  | [] => h
  | v :: vs => (At.wipe h vs).unset v
/-- one more address hidden -/
theorem At.hide {a : Addr} {o : HO} (h : At S Γ σ H) (e : Ex H H') (hn : H a = none) (ha : H' a = some o) (hu : notT o = true) : At (a :: S) Γ σ H' := by
  refine ⟨fun i T q => ?_, (h.live.mono e).cons ha hu, h.len⟩
  obtain ⟨v, h1, h2⟩ := h.env i T q
  refine ⟨v, h1, T.mono (fun b u hb => ?_) h2⟩
  obtain ⟨n, hb'⟩ := hid_some hb
  rw [hid_of]
  · exact e b u hb'
  · intro z
    rcases List.mem_cons.1 z with z | z
    · subst z
      rw [hn] at hb'
      cases hb'
    · exact n z
theorem At.show {a : Addr} (h : At (a :: S) Γ σ H) : At S Γ σ H := ⟨fun i T q => let ⟨v, h1, h2⟩ := h.env i T q; ⟨v, h1, T.mono hid_cons h2⟩, fun b hb => h.live b (List.mem_cons_of_mem _ hb), h.len⟩
/-- a slot's type told anew -/
theorem At.put {U : Ty} (h : At S Γ σ H) (hi : σ[i]? = some (some v)) (t : U.p v (hid S H)) : At S (Γ.set i (some U)) σ H := by
  have e : σ.set i (some v) = σ := by
    apply List.ext_getElem?
    intro j
    by_cases q : i = j
    · subst q
      rw [List.getElem?_set_self (List.getElem?_eq_some_iff.mp hi).1, hi]
    · rw [List.getElem?_set_ne q]
  have z := h.set (i := i) t
  rw [e] at z
  exact z
end
/-! ### judgements -/
def EvP (te : TE) (Γ : Cn) (T : Ty) : Prop := ∀ (S : List Addr) (σ : L2.St) (H : Hp), At S Γ σ H → ∀ Q : VK, (∀ v H2, Ex H H2 → T.p v (hid S H2) → Q v H2) → te σ H Q
def EtP (tt : TT) (Γ : Cn) (b : Bool) : Prop := ∀ (S : List Addr) (σ : L2.St) (H : Hp), At S Γ σ H → ∀ Q : Bool → Hp → Prop, (∀ H2, Ex H H2 → Q b H2) → tt σ H Q
def EaP (ta : TA) (Γ : Cn) (Ts : List Ty) : Prop := ∀ (S : List Addr) (σ : L2.St) (H : Hp), At S Γ σ H → ∀ Q : List V → Hp → Prop, (∀ vs H2, Ex H H2 → Ps (hid S H2) vs Ts → Q vs H2) → ta σ H Q
def EoP (to : TO) (Γ : Cn) (o : Option Int) : Prop := ∀ (S : List Addr) (σ : L2.St) (H : Hp), At S Γ σ H → ∀ Q : Option Int → Hp → Prop, (∀ H2, Ex H H2 → Q o H2) → to σ H Q
def Op2 (r : R2) (Ta Tb T : Ty) : Prop := ∀ (S : List Addr) (H : Hp) (x y : V), Live S H → Ta.p x (hid S H) → Tb.p y (hid S H) → ∀ Q : VK, (∀ v H2, Ex H H2 → T.p v (hid S H2) → Q v H2) → r x y H Q
def CallT (r : List V → Hp → VK → Prop) (Ts : List Ty) (T : Ty) : Prop := ∀ (S : List Addr) (H : Hp) (vs : List V), Live S H → Ps (hid S H) vs Ts → ∀ Q : VK, (∀ v H2, Ex H H2 → T.p v (hid S H2) → Q v H2) → r vs H Q
section
variable {K : PySem.W.Frag} {Γ : Cn} {ta tb tc te : TE} {tt tu : TT} {T U W : Ty} {r : R2} {b c : Bool}
theorem e_var {i : Nat} (h : Γ[i]? = some (some T)) : EvP (tVar i) Γ T := fun S σ H a Q q => let ⟨v, h1, h2⟩ := a.env i T h; ⟨v, h1, q v H (Ex.refl H) h2⟩
theorem e_c {x : V} : EvP (tC x) Γ (tv x) := fun S σ H a Q q => q x H (Ex.refl H) rfl
theorem e_is (h : EvP te Γ T) (e : T = U) : EvP te Γ U := e ▸ h
theorem e_sub (h : EvP te Γ T) (e : ∀ v H, T.p v H → U.p v H) : EvP te Γ U := fun S σ H a Q q => h S σ H a Q fun v H2 x y => q v H2 x (e _ _ y)
theorem t_is (h : EtP tt Γ b) (e : b = c) : EtP tt Γ c := e ▸ h
theorem e_op (ha : EvP ta Γ T) (hb : EvP tb Γ U) (hr : Op2 r T U W) : EvP (tOp r ta tb) Γ W := fun S σ H a Q q =>
  ha S σ H a _ fun x H1 e1 p1 => hb S σ H1 (a.ex e1) _ fun y H2 e2 p2 => hr S H2 x y ((a.ex e1).ex e2).live (T.mono (ex_hid e2) p1) p2 Q fun v H3 e3 p3 => q v H3 ((e1.trans e2).trans e3) p3
theorem e_un {r : V → Hp → VK → Prop} (ha : EvP ta Γ T) (hr : ∀ (S : List Addr) (H : Hp) (x : V), Live S H → T.p x (hid S H) → ∀ Q : VK, (∀ v H2, Ex H H2 → U.p v (hid S H2) → Q v H2) → r x H Q) : EvP (tUn r ta) Γ U := fun S σ H a Q q =>
  ha S σ H a _ fun x H1 e1 p1 => hr S H1 x (a.ex e1).live p1 Q fun v H3 e3 p3 => q v H3 (e1.trans e3) p3
theorem t_test (h : EvP te Γ (tL b)) : EtP (tTest te) Γ b := fun S σ H a Q q => h S σ H a _ fun v H2 e p => ⟨b, p, q H2 e⟩
theorem t_B (h : EvP te Γ (tL b)) : EtP (tB te) Γ b := fun S σ H a Q q => h S σ H a _ fun v H2 e p => ⟨b, p, q H2 e⟩
theorem t_yes : EtP tYes Γ true := fun S σ H a Q q => q H (Ex.refl H)
theorem t_and (h : EtP tt Γ b) (k : b = true → EtP tu Γ c) : EtP (tAnd tt tu) Γ (b && c) := fun S σ H a Q q => h S σ H a _ fun H2 e => by
  cases b with
  | true =>
    show tu σ H2 Q
    exact k rfl S σ H2 (a.ex e) Q fun H3 e3 => q H3 (e.trans e3)
  | false =>
    show Q false H2
    exact q H2 e
theorem t_or (h : EtP tt Γ b) (k : b = false → EtP tu Γ c) : EtP (tOr tt tu) Γ (b || c) := fun S σ H a Q q => h S σ H a _ fun H2 e => by
  cases b with
  | true =>
    show Q true H2
    exact q H2 e
  | false =>
    show tu σ H2 Q
    exact k rfl S σ H2 (a.ex e) Q fun H3 e3 => q H3 (e.trans e3)
theorem t_not (h : EtP tt Γ b) : EtP (tNot tt) Γ (!b) := fun S σ H a Q q => h S σ H a _ fun H2 e => q H2 e
theorem e_andV (h : EvP ta Γ (tL b)) (k : b = true → EvP tb Γ (tL c)) : EvP (tAndV ta tb) Γ (tL (b && c)) := fun S σ H a Q q => h S σ H a _ fun v H2 e p => ⟨b, p, by
  cases b with
  | true =>
    show tb σ H2 Q
    exact k rfl S σ H2 (a.ex e) Q fun w H3 e3 p3 => q w H3 (e.trans e3) p3
  | false =>
    show Q (.bl false) H2
    exact q _ H2 e rfl⟩
theorem e_orV (h : EvP ta Γ (tL b)) (k : b = false → EvP tb Γ (tL c)) : EvP (tOrV ta tb) Γ (tL (b || c)) := fun S σ H a Q q => h S σ H a _ fun v H2 e p => ⟨b, p, by
  cases b with
  | true =>
    show Q (.bl true) H2
    exact q _ H2 e rfl
  | false =>
    show tb σ H2 Q
    exact k rfl S σ H2 (a.ex e) Q fun w H3 e3 p3 => q w H3 (e.trans e3) p3⟩
theorem e_notV (h : EvP ta Γ (tL b)) : EvP (tNotV ta) Γ (tL (!b)) := fun S σ H a Q q => h S σ H a _ fun v H2 e p => ⟨b, p, q _ H2 e rfl⟩
theorem e_if (h : EtP tt Γ b) (h1 : b = true → EvP ta Γ T) (h2 : b = false → EvP tb Γ T) : EvP (tIf tt ta tb) Γ T := fun S σ H a Q q => h S σ H a _ fun H2 e => by
  cases b with
  | true =>
    show ta σ H2 Q
    exact h1 rfl S σ H2 (a.ex e) Q fun w H3 e3 p3 => q w H3 (e.trans e3) p3
  | false =>
    show tb σ H2 Q
    exact h2 rfl S σ H2 (a.ex e) Q fun w H3 e3 p3 => q w H3 (e.trans e3) p3
/-- a op b op c -/
theorem e_chain {r r' : R2} (ha : EvP ta Γ T) (hb : EvP tb Γ U) (hc : EvP tc Γ W) (hr : Op2 r T U (tL b)) (hr' : Op2 r' U W (tL c)) : EvP (tChain r r' ta tb tc) Γ (tL (b && c)) := fun S σ H a Q q =>
  ha S σ H a _ fun x H1 e1 p1 => hb S σ H1 (a.ex e1) _ fun y H2 e2 p2 => hr S H2 x y ((a.ex e1).ex e2).live (T.mono (ex_hid e2) p1) p2 _ fun z H3 e3 p3 => ⟨b, p3, by
    cases b with
    | true =>
      rw [if_pos rfl]
      have e13 := (e1.trans e2).trans e3
      exact hc S σ H3 (a.ex e13) _ fun w H4 e4 p4 => hr' S H4 y w (a.ex (e13.trans e4)).live (U.mono (ex_hid (e3.trans e4)) p2) p4 Q fun v H5 e5 p5 => q v H5 ((e13.trans e4).trans e5) p5
    | false =>
      rw [if_neg (Bool.false_ne_true)]
      exact q _ H3 ((e1.trans e2).trans e3) rfl⟩
theorem a_nil : EaP tNil Γ [] := fun S σ H a Q q => q [] H (Ex.refl H) .nil
theorem a_cons {tr : TA} {Ts : List Ty} (h : EvP te Γ T) (k : EaP tr Γ Ts) : EaP (tCons te tr) Γ (T :: Ts) := fun S σ H a Q q =>
  h S σ H a _ fun v H1 e1 p1 => k S σ H1 (a.ex e1) _ fun vs H2 e2 p2 => q _ H2 (e1.trans e2) (.cons (T.mono (ex_hid e2) p1) p2)
theorem new_tup {S : List Addr} {H : Hp} {p : Addr} {vs : List V} {ts : List Ty} (l : Live S H) (hp : H p = none) (h : Ps (hid S H) vs ts) : (tup ts).p (.ref p) (hid S (upd H p (.tup vs))) :=
  ⟨p, vs, rfl, l.new hp, h.mono (ex_hid (Ex.new hp))⟩
theorem new_lst {S : List Addr} {H : Hp} {p : Addr} {vs : List V} {ts : List Ty} (l : Live S H) (hp : H p = none) (h : Ps (hid S H) vs ts) : (lst ts).p (.ref p) (hid S (upd H p (.lst vs))) :=
  ⟨p, vs, rfl, l.new hp, h.mono (ex_hid (Ex.new hp))⟩
theorem e_tup {ta : TA} {Ts : List Ty} (h : EaP ta Γ Ts) (hl : Ts.length ≤ 100000) : EvP (tTup ta) Γ (tup Ts) := fun S σ H a Q q => h S σ H a _ fun vs H1 e p =>
  ⟨sz_of (by rw [p.len]; exact hl), fun l hn => q _ _ (e.trans (Ex.new hn)) (new_tup (a.ex e).live hn p)⟩
theorem e_lst {ta : TA} {Ts : List Ty} (h : EaP ta Γ Ts) (hl : Ts.length ≤ 100000) : EvP (tLst ta) Γ (lst Ts) := fun S σ H a Q q => h S σ H a _ fun vs H1 e p =>
  ⟨sz_of (by rw [p.len]; exact hl), fun l hn => q _ _ (e.trans (Ex.new hn)) (new_lst (a.ex e).live hn p)⟩
theorem e_cb {r : List V → Hp → VK → Prop} {ta : TA} {Ts : List Ty} (h : EaP ta Γ Ts) (k : CallT r Ts T) : EvP (tCB r ta) Γ T := fun S σ H a Q q =>
  h S σ H a _ fun vs H1 e1 p1 => k S H1 vs (a.ex e1).live p1 Q fun v H2 e2 p2 => q v H2 (e1.trans e2) p2
theorem o_none : EoP tNoPart Γ none := fun S σ H a Q q => q H (Ex.refl H)
theorem o_some {i : Int} (h : EvP te Γ (tI i)) : EoP (tPart te) Γ (some i) := fun S σ H a Q q => h S σ H a _ fun v H2 e p => ⟨i, p, q H2 e⟩
/-! operations -/
theorem o_I0 {g : Int → Int → V} {i j : Int} : Op2 (rI0 g) (tI i) (tI j) (tv (g i j)) := fun S H x y l p1 p2 Q q => ⟨i, j, p1, p2, q _ H (Ex.refl H) rfl⟩
theorem o_I {C : Int → Int → Prop} {g : Int → Int → V} {i j : Int} (h : C i j) : Op2 (rI C g) (tI i) (tI j) (tv (g i j)) := fun S H x y l p1 p2 Q q => ⟨i, j, p1, p2, h, q _ H (Ex.refl H) rfl⟩
theorem o_eq {x y : V} (h : scal x y = true) : Op2 rEq (tv x) (tv y) (tL (decide (x = y))) := fun S H a b l p1 p2 Q q => by
  rw [show a = x from p1, show b = y from p2]
  exact ⟨h, q _ H (Ex.refl H) rfl⟩
theorem o_ne {x y : V} (h : scal x y = true) : Op2 rNe (tv x) (tv y) (tL (!decide (x = y))) := fun S H a b l p1 p2 Q q => by
  rw [show a = x from p1, show b = y from p2]
  exact ⟨h, q _ H (Ex.refl H) rfl⟩
theorem o_isB {x y : Bool} : Op2 rIsB (tL x) (tL y) (tL (decide (x = y))) := fun S H a b l p1 p2 Q q => ⟨x, y, p1, p2, q _ H (Ex.refl H) rfl⟩
theorem o_ixT {ts : List Ty} {i : Int} {t : Ty} (h0 : 0 ≤ i) (h : ts[i.toNat]? = some t) : Op2 (rIxT K) (tup ts) (tI i) t := fun S H x y l p1 p2 Q q => by
  obtain ⟨a, vs, e1, e2, e3⟩ := p1
  obtain ⟨v, h1, h2⟩ := e3.get h
  have z : atI vs i = some v := by
    have := atI_nat h1
    rw [Int.toNat_of_nonneg h0] at this
    exact this
  exact ⟨a, vs, i, v, e1, p2, st_of (hid_some e2).2, z, q v H (Ex.refl H) h2⟩
theorem o_ixL {ts : List Ty} {i : Int} {t : Ty} (h0 : 0 ≤ i) (h : ts[i.toNat]? = some t) : Op2 (rIxL K) (lst ts) (tI i) t := fun S H x y l p1 p2 Q q => by
  obtain ⟨a, vs, e1, e2, e3⟩ := p1
  obtain ⟨v, h1, h2⟩ := e3.get h
  have z : atI vs i = some v := by
    have := atI_nat h1
    rw [Int.toNat_of_nonneg h0] at this
    exact this
  exact ⟨a, vs, i, v, e1, p2, sq_of (hid_some e2).2, z, q v H (Ex.refl H) h2⟩
theorem o_catT {ts us : List Ty} (hl : ts.length + us.length ≤ 100000) : Op2 (rCatA K) (tup ts) (tup us) (tup (ts ++ us)) := fun S H x y l p1 p2 Q q => by
  obtain ⟨a, vs, e1, e2, e3⟩ := p1
  obtain ⟨b, ws, f1, f2, f3⟩ := p2
  refine ⟨a, b, vs, ws, e1, f1, st_of (hid_some e2).2, st_of (hid_some f2).2, sz_of (by rw [e3.len, f3.len]; exact hl), fun z => ?_, fun z1 z2 => ?_, fun z1 z2 p hp => ?_⟩
  · subst z
    cases e3
    exact q _ H (Ex.refl H) ⟨b, ws, rfl, f2, f3⟩
  · subst z2
    cases f3
    exact q _ H (Ex.refl H) ⟨a, vs, rfl, e2, by rw [List.append_nil]; exact e3⟩
  · exact q _ _ (Ex.new hp) (new_tup l hp (e3.app f3))
theorem o_catL {ts us : List Ty} (hl : ts.length + us.length ≤ 100000) : Op2 rCat (lst ts) (lst us) (lst (ts ++ us)) := fun S H x y l p1 p2 Q q => by
  obtain ⟨a, vs, e1, e2, e3⟩ := p1
  obtain ⟨b, ws, f1, f2, f3⟩ := p2
  exact ⟨a, b, vs, ws, e1, f1, (hid_some e2).2, (hid_some f2).2, sz_of (by rw [e3.len, f3.len]; exact hl), fun p hp => q _ _ (Ex.new hp) (new_lst l hp (e3.app f3))⟩
/-- slices of a tuple -/
theorem sIx_nat' {n d : Nat} {i : Int} (h : 0 ≤ i) : HT.sIx n d (some i) = min i.toNat n := by
  have := HT.sIx_nat n d i.toNat
  rw [Int.toNat_of_nonneg h] at this
  exact this
theorem e_slT {lo hi : TO} {ts : List Ty} {l u : Option Int} {us : List Ty} (h : EvP te Γ (tup ts)) (h1 : EoP lo Γ l) (h2 : EoP hi Γ u) (e : us = (ts.drop (HT.sIx ts.length 0 l)).take (HT.sIx ts.length ts.length u - HT.sIx ts.length 0 l)) : EvP (tSl (rSlA K) te lo hi) Γ (tup us) := fun S σ H a Q q =>
  h S σ H a _ fun v H1 e1 p1 => h1 S σ H1 (a.ex e1) _ fun H2 e2 => h2 S σ H2 (a.ex (e1.trans e2)) _ fun H3 e3 => by
    have e13 := (e1.trans e2).trans e3
    obtain ⟨b, vs, f1, f2, f3⟩ := (tup ts).mono (ex_hid (S := S) (e2.trans e3)) p1
    have hl := f3.len
    refine ⟨b, vs, f1, st_of (hid_some f2).2, fun z => ?_, fun _ p hp => ?_⟩
    · refine q _ H3 e13 ⟨b, vs, rfl, f2, ?_⟩
      rw [hl] at z
      rw [e, z.1, z.2, Nat.sub_zero, List.drop_zero, List.take_length]
      exact f3
    · refine q _ _ (e13.trans (Ex.new hp)) (new_tup (a.ex e13).live hp ?_)
      unfold cutV
      rw [hl, e]
      exact Ps.take _ (Ps.drop _ f3)
/-! calls of built-ins -/
theorem c_lenT {ts : List Ty} : CallT (fun xs H Q => ∃ p ys, xs = [.ref p] ∧ (SqL K H p ys ∨ SqT K H p ys) ∧ Q (.int ys.length) H) [tup ts] (tI (ts.length : Nat)) := fun S H vs l h Q q => by
  cases h with
  | cons a b =>
    cases b
    obtain ⟨p, ws, f1, f2, f3⟩ := a
    exact ⟨p, ws, by rw [f1], .inr (st_of (hid_some f2).2), q _ H (Ex.refl H) (by rw [f3.len]; rfl)⟩
theorem c_lenL {ts : List Ty} : CallT (fun xs H Q => ∃ p ys, xs = [.ref p] ∧ (SqL K H p ys ∨ SqT K H p ys) ∧ Q (.int ys.length) H) [lst ts] (tI (ts.length : Nat)) := fun S H vs l h Q q => by
  cases h with
  | cons a b =>
    cases b
    obtain ⟨p, ws, f1, f2, f3⟩ := a
    exact ⟨p, ws, by rw [f1], .inl (sq_of (hid_some f2).2), q _ H (Ex.refl H) (by rw [f3.len]; rfl)⟩
theorem c_int {i : Int} : CallT (fun xs H Q => (∃ i, xs = [.int i] ∧ Q (.int i) H) ∨ ∃ k, xs = [.bl k] ∧ Q (.int (if k then 1 else 0)) H) [tI i] (tI i) := fun S H vs l h Q q => by
  cases h with
  | cons a b =>
    cases b
    exact .inl ⟨i, by rw [show _ = V.int i from a], q _ H (Ex.refl H) rfl⟩
theorem c_intB {b : Bool} : CallT (fun xs H Q => (∃ i, xs = [.int i] ∧ Q (.int i) H) ∨ ∃ k, xs = [.bl k] ∧ Q (.int (if k then 1 else 0)) H) [tL b] (tI (if b then 1 else 0)) := fun S H vs l h Q q => by
  cases h with
  | cons a b' =>
    cases b'
    exact .inr ⟨b, by rw [show _ = V.bl b from a], q _ H (Ex.refl H) rfl⟩
theorem c_abs {i : Int} : CallT (fun xs H Q => ∃ i, xs = [.int i] ∧ Q (.int (if i < 0 then -i else i)) H) [tI i] (tI (if i < 0 then -i else i)) := fun S H vs l h Q q => by
  cases h with
  | cons a b =>
    cases b
    exact ⟨i, by rw [show _ = V.int i from a], q _ H (Ex.refl H) rfl⟩
theorem c_fold {f : List Int → Int} {xs : List Int} (hn : 0 < xs.length) : CallT (WR.rFoldT K f) [TN xs] (tI (f xs)) := fun S H vs l h Q q => by
  cases h with
  | cons a b =>
    cases b
    obtain ⟨p, f1, f2⟩ := ti_at a
    exact ⟨p, xs, by rw [f1], st_of (hid_some f2).2, hn, q _ H (Ex.refl H) rfl⟩
theorem c_sum {xs : List Int} : CallT (rSum K) [lst (xs.map tI)] (tI xs.sum) := fun S H vs l h Q q => by
  cases h with
  | cons a b =>
    cases b
    obtain ⟨p, ws, f1, f2, f3⟩ := a
    rw [ti_vals f3] at f2
    exact ⟨p, xs, by rw [f1], sq_of (hid_some f2).2, q _ H (Ex.refl H) rfl⟩
/-- isinstance(x, c): b by the kind -/
def tyc (c : String) : Ty := tv (.ty c)
theorem c_isi {T : Ty} {c k : String} {b : Bool} (hT : ∀ v H, T.p v H → TyX K H v (.type k)) (hk : kitB k c = some b) : CallT (rIsi K) [T, tv (.ty c)] (tL b) := fun S H vs l h Q q => by
  cases h with
  | cons a r =>
    cases r with
    | cons a2 r2 =>
      cases r2
      refine ⟨_, .ty c, .type k, .type c, b, by rw [show _ = V.ty c from a2], .ty c, hT _ _ (T.mono hid_ex a), kit_ty hk, q _ H (Ex.refl H) rfl⟩
theorem ty_int {i : Int} : ∀ v H, (tI i).p v H → TyX K H v (.type "int") := fun v H h => by
  rw [show v = V.int i from h]
  exact .base (.int i)
theorem ty_bl {b : Bool} : ∀ v H, (tL b).p v H → TyX K H v (.type "bool") := fun v H h => by
  rw [show v = V.bl b from h]
  exact .base (.bl b)
theorem ty_str {s : Str} : ∀ v H, (tS s).p v H → TyX K H v (.type "str") := fun v H h => by
  rw [show v = V.str s from h]
  exact .base (.str s)
theorem ty_tup {ts : List Ty} : ∀ v H, (tup ts).p v H → TyX K H v (.type "tuple") := fun v H h => by
  obtain ⟨a, vs, e, h2, _⟩ := h
  rw [e]
  exact .base (.tup h2)
/-! calls of own defs -/
def SpT (Sg : List Ty → Ty → Prop) : Sp := fun vs H Q _ => ∃ S Ts T, Sg Ts T ∧ Live S H ∧ Ps (hid S H) vs Ts ∧ ∀ v H2, Ex H H2 → T.p v (hid S H2) → Q v H2
theorem e_call {Sg : List Ty → Ty → Prop} {E : XK} {ta : TA} {Ts : List Ty} (h : EaP ta Γ Ts) (s : Sg Ts T) : EvP (tCall (SpT Sg) [] E ta) Γ T := fun S σ H a Q q =>
  h S σ H a _ fun vs H1 e1 p1 => ⟨S, Ts, T, s, (a.ex e1).live, by rw [List.append_nil]; exact p1, fun v H2 e2 p2 => q v H2 (e1.trans e2) p2⟩
end
/-! ### what is walked -/
def WalkT (S : List Addr) (J : It) (H1 : Hp) (n : Nat) (tf : Nat → Ty) : Prop := ∀ S' H', Ex (hid S H1) (hid S' H') → Live S' H' → (∀ i, i < n → J.go i H') ∧ J.stop n H' ∧ ∀ i v H2, i < n → J.yld i H' v H2 → Ex H' H2 ∧ (tf i).p v (hid S' H2)
def IterT (wi : TI) (Γ : Cn) (n : Nat) (tf : Nat → Ty) : Prop := ∀ (S : List Addr) (σ : L2.St) (H : Hp), At S Γ σ H → ∀ R : It → Hp → Prop, (∀ J H1, Ex H H1 → WalkT S J H1 n tf → R J H1) → wi σ H R
def TgT (g : TG) (js : List Nat) (T : Ty) (Γ Γ' : Cn) : Prop := ∀ (S : List Addr) (v : V) (σ : L2.St) (H : Hp) (Q : L2.St → Hp → Prop), At S Γ σ H → T.p v (hid S H) → (∀ σ', σ'.length = σ.length → (∀ i, i ∉ js → σ'[i]? = σ[i]?) → At S Γ' σ' H → Q σ' H) → g v σ H Q
section
variable {K : PySem.W.Frag} {Γ : Cn} {te : TE} {n : Nat} {tf : Nat → Ty}
theorem i_list {ts : List Ty} (h : EvP te Γ (lst ts)) (hn : ts.length = n) (hf : ∀ i, i < n → ts[i]? = some (tf i)) : IterT (iList K te) Γ n tf := fun S σ H a R q => h S σ H a _ fun v H1 e1 ⟨p, vs, f1, f2, f3⟩ =>
  ⟨p, f1, ⟨vs, sq_of (hid_some f2).2⟩, q _ H1 e1 fun S' H' g gl => by
    have z2 := g _ _ f2
    have z3 := f3.mono g
    have z4 : SqL K H' p vs := sq_of (hid_some z2).2
    have hl := f3.len
    refine ⟨fun i hi => ⟨vs, vs[i]'(by omega), z4, by simp [show i < vs.length by omega]⟩, ⟨vs, z4, by omega⟩, fun i v H2 hi y => ?_⟩
    obtain ⟨e, y⟩ := y
    subst e
    have yv := y vs z4
    obtain ⟨t, ht, tp⟩ := z3.of yv
    rw [hf i hi] at ht
    cases ht
    exact ⟨Ex.refl _, tp⟩⟩
theorem i_tup {ts : List Ty} (h : EvP te Γ (tup ts)) (hn : ts.length = n) (hf : ∀ i, i < n → ts[i]? = some (tf i)) : IterT (iTup K te) Γ n tf := fun S σ H a R q => h S σ H a _ fun v H1 e1 ⟨p, vs, f1, f2, f3⟩ =>
  ⟨p, f1, ⟨vs, st_of (hid_some f2).2⟩, q _ H1 e1 fun S' H' g gl => by
    have z2 := g _ _ f2
    have z3 := f3.mono g
    have z4 : SqT K H' p vs := st_of (hid_some z2).2
    have hl := f3.len
    refine ⟨fun i hi => ⟨vs, vs[i]'(by omega), z4, by simp [show i < vs.length by omega]⟩, ⟨vs, z4, by omega⟩, fun i v H2 hi y => ?_⟩
    obtain ⟨e, y⟩ := y
    subst e
    have yv := y vs z4
    obtain ⟨t, ht, tp⟩ := z3.of yv
    rw [hf i hi] at ht
    cases ht
    exact ⟨Ex.refl _, tp⟩⟩
theorem i_rng {ta : TA} {m : Int} (h : EaP ta Γ [tI m]) (hm : 0 ≤ m ∧ m ≤ 100000) (hn : m.toNat = n) : IterT (iRng1 ta) Γ n (fun i => tI (i : Nat)) := fun S σ H a R q => h S σ H a _ fun vs H1 e1 p1 => by
  cases p1 with
  | cons a b =>
    cases b
    refine ⟨m, by rw [show _ = V.int m from a], by omega, by omega, q _ H1 e1 fun S' H' g gl => ⟨fun i hi => ?_, ?_, fun i v H2 hi y => ?_⟩⟩
    · show i < m.toNat
      omega
    · show m.toNat ≤ n
      omega
    · obtain ⟨e, y⟩ := y
      subst e
      refine ⟨Ex.refl _, ?_⟩
      show v = .int (i : Int)
      rw [y, Int.zero_add]
theorem i_enum {ta : TA} {ts : List Ty} {tg : Nat → Ty} (h : EaP ta Γ [tup ts]) (hn : ts.length = n) (hf : ∀ i, i < n → ts[i]? = some (tg i)) : IterT (WR.iEnumT K ta) Γ n (fun i => tup [tI (i : Nat), tg i]) := fun S σ H a R q => h S σ H a _ fun ws H1 e1 p1 => by
  cases p1 with
  | cons a0 b =>
    cases b
    obtain ⟨p, vs, f1, f2, f3⟩ := a0
    refine ⟨p, vs, by rw [f1], st_of (hid_some f2).2, q _ H1 e1 fun S' H' g gl => ?_⟩
    have z2 := g _ _ f2
    have z3 := f3.mono g
    have z4 : SqT K H' p vs := st_of (hid_some z2).2
    have hl := f3.len
    refine ⟨fun i hi => ⟨vs, vs[i]'(by omega), z4, by simp [show i < vs.length by omega]⟩, ⟨vs, z4, by omega⟩, fun i v H2 hi y => ?_⟩
    obtain ⟨T, x, y1, y2, y3, y4⟩ := y
    have yv := y4 vs z4
    obtain ⟨t, ht, tp⟩ := z3.of yv
    rw [hf i hi] at ht
    cases ht
    subst y1 y3
    exact ⟨Ex.new y2, new_tup gl y2 (.cons rfl (.cons tp .nil))⟩
theorem i_zip {ta : TA} {ts us : List Ty} {tg th : Nat → Ty} (h : EaP ta Γ [tup ts, tup us]) (hn : ts.length = n) (hm : us.length = n) (hf : ∀ i, i < n → ts[i]? = some (tg i)) (hh : ∀ i, i < n → us[i]? = some (th i)) : IterT (RZ.iZipA K ta) Γ n (fun i => tup [tg i, th i]) := fun S σ H a R q => h S σ H a _ fun ws H1 e1 p1 => by
  cases p1 with
  | cons a0 b =>
    cases b with
    | cons a1 b =>
    cases b
    obtain ⟨p, vs, f1, f2, f3⟩ := a0
    obtain ⟨p', vs', g1, g2, g3⟩ := a1
    have w1 : SqT K H1 p vs := st_of (hid_some f2).2
    have w2 : SqT K H1 p' vs' := st_of (hid_some g2).2
    subst f1 g1
    refine ⟨p, p', vs, vs', rfl, .inr ⟨st_of (hid_some f2).2, st_of (hid_some g2).2, q _ H1 e1 fun S' H' g gl => ?_⟩⟩
    have z2 := g _ _ f2
    have z3 := f3.mono g
    have z4 : SqT K H' p vs := st_of (hid_some z2).2
    have y2 := g _ _ g2
    have y3 := g3.mono g
    have y4 : SqT K H' p' vs' := st_of (hid_some y2).2
    have hl := f3.len
    have hl' := g3.len
    refine ⟨fun i hi => ⟨vs, vs', vs[i]'(by omega), vs'[i]'(by omega), z4, y4, by simp [show i < vs.length by omega], by simp [show i < vs'.length by omega]⟩, ⟨vs, vs', z4, y4, by omega⟩, fun i v H2 hi y => ?_⟩
    obtain ⟨T, x, x', k1, k2, k3, k4, k5⟩ := y
    obtain ⟨t, ht, tp⟩ := z3.of (k4 vs z4)
    obtain ⟨t', ht', tp'⟩ := y3.of (k5 vs' y4)
    rw [hf i hi] at ht
    cases ht
    rw [hh i hi] at ht'
    cases ht'
    subst k1 k3
    exact ⟨Ex.new k2, new_tup gl k2 (.cons tp (.cons tp' .nil))⟩
/-! targets -/
theorem g_name {j : Nat} {T : Ty} : TgT (gName j) [j] T Γ (Γ.set j (some T)) := fun S v σ H Q a p k => k _ (List.length_set ..) (fun i hi => List.getElem?_set_ne (fun e => hi (by rw [e]; exact List.mem_singleton.mpr rfl))) (a.set p)
theorem g_pair {i j : Nat} {T U : Ty} : TgT (gTup K 2 (gCons (gName i) (gCons (gName j) gNil))) [i, j] (tup [T, U]) Γ ((Γ.set i (some T)).set j (some U)) := fun S v σ H Q a p k => by
  obtain ⟨b, vs, f1, f2, f3⟩ := p
  cases f3 with
  | cons p1 r =>
    cases r with
    | cons p2 r =>
      cases r
      refine ⟨b, _, f1, st_of (hid_some f2).2, rfl, _, _, rfl, _, _, rfl, rfl, k _ (by rw [List.length_set, List.length_set]) (fun l hl => ?_) ((a.set p1).set p2)⟩
      rw [List.getElem?_set_ne (fun e => hl (by rw [e]; simp)), List.getElem?_set_ne (fun e => hl (by rw [e]; simp))]
theorem wipe_get (σ : L2.St) (i : Nat) : ∀ vs : List Nat, (wipe σ vs)[i]? = if i ∈ vs then (if i < σ.length then some none else none) else σ[i]?
  | [] => by simp [wipe]
  | v :: vs => by
    show ((wipe σ vs).set v none)[i]? = _
    by_cases e : v = i
    · subst e
      rw [List.getElem?_set, if_pos rfl, if_pos List.mem_cons_self, wipe_length]
    · rw [List.getElem?_set_ne e, wipe_get σ i vs]
      by_cases m : i ∈ vs
      · rw [if_pos m, if_pos (List.mem_cons_of_mem _ m)]
      · rw [if_neg m, if_neg (fun z => (List.mem_cons.1 z).elim (fun q => e q.symm) m)]
theorem wipe_back {σ σ' : L2.St} {vs js : List Nat} (hl : σ'.length = (wipe σ vs).length) (h : ∀ i, i ∉ js → σ'[i]? = (wipe σ vs)[i]?) (hj : ∀ j ∈ js, j ∈ vs) : wipe σ' vs = wipe σ vs := by
  apply List.ext_getElem?
  intro i
  rw [wipe_get, wipe_get]
  rw [wipe_length] at hl
  by_cases m : i ∈ vs
  · rw [if_pos m, if_pos m, hl]
  · rw [if_neg m, if_neg m, h i (fun z => m (hj i z)), wipe_get, if_neg m]
/-! comprehensions -/
def given (n : Nat) (f : Nat → Bool) (u : Nat → Ty) : List Ty := ((List.range n).filter f).map u
theorem given_step (n : Nat) (f : Nat → Bool) (v : Nat → Ty) : given (n + 1) f v = given n f v ++ (if f n = true then [v n] else []) := by
  cases h : f n <;> simp [given, List.range_succ, h]
theorem given_yes {n : Nat} {f : Nat → Bool} {v : Nat → Ty} (h : f n = true) : given (n + 1) f v = given n f v ++ [v n] := by rw [given_step, if_pos h]
theorem given_no {n : Nat} {f : Nat → Bool} {v : Nat → Ty} (h : f n = false) : given (n + 1) f v = given n f v := by simp [given_step, h]
theorem given_len (n : Nat) (f : Nat → Bool) (v : Nat → Ty) : (given n f v).length ≤ n := by
  simpa [given] using List.length_filter_le f (List.range n)
theorem e_lc {wi : TI} {g : TG} {tt : TT} {vs js : List Nat} {Γs : Nat → Cn} {f : Nat → Bool} {u : Nat → Ty} (hi : IterT wi Γ n tf) (hg : ∀ i, i < n → TgT g js (tf i) (wipeC Γ vs) (Γs i)) (hj : ∀ j ∈ js, j ∈ vs)
    (ht : ∀ i, i < n → EtP tt (Γs i) (f i)) (he : ∀ i, i < n → f i = true → EvP te (Γs i) (u i)) (hz : n ≤ 40000) : EvP (tLc wi g tt te vs) Γ (lst (given n f u)) := fun S σ H a Q q => by
  refine hi S σ H a _ fun J H1 e1 wk D hD => ?_
  have a1 := a.ex e1
  have b1 : At (D :: S) Γ σ (upd H1 D (.lst [])) := a1.hide (Ex.new hD) hD upd_same rfl
  have dS : D ∉ S := a1.live.free hD
  have h1 : Ex (hid S H1) (hid (D :: S) (upd H1 D (.lst []))) := fun b o hb => by
    obtain ⟨n1, h2⟩ := hid_some hb
    have ne : b ≠ D := ne_of_none h2 hD
    rw [hid_of (fun z => (List.mem_cons.1 z).elim ne n1), upd_ne ne]
    exact h2
  refine ⟨fun i m H' => m = n - i ∧ i ≤ n ∧ Ex H1 H' ∧ At (D :: S) Γ σ H' ∧ Ex (hid S H1) (hid (D :: S) H') ∧ ∃ ws, H' D = some (.lst ws) ∧ Ps (hid (D :: S) H') ws (given i f u), ⟨n, by simp, Nat.zero_le _, Ex.new hD, b1, h1, [], upd_same, .nil⟩, ?_⟩
  rintro i m H' ⟨rfl, hin, ex, a2, exh, ws, hw, hp⟩
  obtain ⟨w1, w2, w3⟩ := wk (D :: S) H' exh a2.live
  by_cases hlt : i < n
  · refine .inr ⟨w1 i hlt, fun H' => i + 1 ≤ n ∧ Ex H1 H' ∧ At (D :: S) Γ σ H' ∧ Ex (hid S H1) (hid (D :: S) H') ∧ ∃ ws, H' D = some (.lst ws) ∧ Ps (hid (D :: S) H') ws (given (i + 1) f u), fun H' h => ⟨n - (i + 1), by omega, rfl, h.1, h.2⟩, fun v H2 y => ?_⟩
    obtain ⟨ey, py⟩ := w3 i v H2 hlt y
    refine hg i hlt (D :: S) v _ H2 _ ((a2.ex ey).wipe vs) py fun σ2 l2 k2 a3 => ⟨wipe_back l2 k2 hj, ht i hlt (D :: S) σ2 H2 a3 _ fun H3 e3 => ?_⟩
    cases hf : f i with
    | false =>
      rw [if_neg (Bool.false_ne_true)]
      have e13 := ey.trans e3
      refine ⟨hlt, ex.trans e13, a2.ex e13, exh.trans (ex_hid e13), ws, e13 _ _ hw, ?_⟩
      rw [given_no hf]
      exact hp.mono (ex_hid e13)
    | true =>
      rw [if_pos rfl]
      refine he i hlt hf (D :: S) σ2 H3 (a3.ex e3) _ fun x H4 e4 p4 => ?_
      have e14 := (ey.trans e3).trans e4
      have hD4 := e14 _ _ hw
      have lw := hp.len
      have lg := given_len i f u
      have hh : hid (D :: S) (upd H4 D (.lst (ws ++ [x]))) = hid (D :: S) H4 := hid_upd List.mem_cons_self
      have a4 := a2.ex e14
      refine ⟨ws, hD4, sz_lt (by omega), hlt, (ex.trans e14).mut hD, ⟨?_, a4.live.upd rfl, a4.len⟩, ?_, ws ++ [x], upd_same, ?_⟩
      · rw [hh]
        exact a4.env
      · rw [hh]
        exact exh.trans (ex_hid e14)
      · rw [given_yes hf, hh]
        exact (hp.mono (ex_hid e14)).app (.cons p4 .nil)
  · have e : i = n := by omega
    subst e
    exact .inl ⟨w2, q _ H' (e1.trans ex) ⟨D, ws, rfl, by rw [hid_of dS]; exact hw, hp.mono hid_cons⟩⟩
end
/-! ### statements -/
section
variable {K : PySem.W.Frag} {S : List Addr} {Γ Γ' : Cn} {σ : L2.St} {H : Hp} {D : Ends} {te ta : TE} {tt : TT} {tu tw tz : TS} {T U : Ty} {b : Bool}
theorem s_asg {i : Nat} (he : EvP te Γ T) (h : At S Γ σ H) (k : ∀ v H1, Ex H H1 → At S (Γ.set i (some T)) (σ.set i (some v)) H1 → D.nx (σ.set i (some v)) H1) : tAsg te (gName i) D σ H :=
  he S σ H h _ fun v H1 e p => k v H1 e ((h.ex e).set p)
theorem q_asg {i : Nat} (he : EvP te Γ T) (h : At S Γ σ H) (k : ∀ v H1, Ex H H1 → At S (Γ.set i (some T)) (σ.set i (some v)) H1 → tz D (σ.set i (some v)) H1) : tSeq (tAsg te (gName i)) tz D σ H := s_asg (D := { D with nx := tz D }) he h k
theorem s_ret (he : EvP te Γ T) (h : At S Γ σ H) (k : ∀ v H1, Ex H H1 → T.p v (hid S H1) → D.rt v H1) : tRet te D σ H := he S σ H h _ k
theorem s_drop (he : EvP te Γ T) (h : At S Γ σ H) (k : ∀ H1, Ex H H1 → At S Γ σ H1 → D.nx σ H1) : tDrop te D σ H := he S σ H h _ fun v H1 e _ => k H1 e (h.ex e)
theorem q_drop (he : EvP te Γ T) (h : At S Γ σ H) (k : ∀ H1, Ex H H1 → At S Γ σ H1 → tz D σ H1) : tSeq (tDrop te) tz D σ H := s_drop (D := { D with nx := tz D }) he h k
theorem s_if (ht : EtP tt Γ b) (h : At S Γ σ H) (h1 : b = true → ∀ H1, Ex H H1 → At S Γ σ H1 → tu D σ H1) (h2 : b = false → ∀ H1, Ex H H1 → At S Γ σ H1 → tw D σ H1) : tIfS tt tu tw D σ H := ht S σ H h _ fun H1 e => by
  cases b with
  | true =>
    show tu D σ H1
    exact h1 rfl H1 e (h.ex e)
  | false =>
    show tw D σ H1
    exact h2 rfl H1 e (h.ex e)
theorem q_if (ht : EtP tt Γ b) (h : At S Γ σ H) (h1 : b = true → ∀ H1, Ex H H1 → At S Γ σ H1 → tu { D with nx := tz D } σ H1) (h2 : b = false → ∀ H1, Ex H H1 → At S Γ σ H1 → tw { D with nx := tz D } σ H1) : tSeq (tIfS tt tu tw) tz D σ H := s_if (D := { D with nx := tz D }) ht h h1 h2
/-- a test that fails -/
theorem q_no (ht : EtP tt Γ false) (h : At S Γ σ H) (k : ∀ H1, Ex H H1 → At S Γ σ H1 → tz D σ H1) : tSeq (tIfS tt tu tNext) tz D σ H := s_if (D := { D with nx := tz D }) ht h (fun z => nomatch z) fun _ => k
theorem s_no (ht : EtP tt Γ false) (h : At S Γ σ H) (k : ∀ H1, Ex H H1 → At S Γ σ H1 → D.nx σ H1) : tIfS tt tu tNext D σ H := s_if ht h (fun z => nomatch z) fun _ => k
/-! lists that grow -/
def Grow (S : List Addr) (H : Hp) (a : Addr) (ts : List Ty) : Prop := a ∈ S ∧ ∃ vs, H a = some (.lst vs) ∧ Ps (hid S H) vs ts
theorem Grow.ex {H' : Hp} {a : Addr} {ts : List Ty} (g : Grow S H a ts) (e : Ex H H') : Grow S H' a ts := ⟨g.1, let ⟨vs, h1, h2⟩ := g.2; ⟨vs, e _ _ h1, h2.mono (ex_hid e)⟩⟩
/-- x = [e, ..], the list to be changed -/
theorem s_new {i : Nat} {tl : TA} {ts : List Ty} (he : EaP tl Γ ts) (hz : ts.length ≤ 100000) (h : At S Γ σ H) (k : ∀ a H1, H a = none → Ex H H1 → Grow (a :: S) H1 a ts → At (a :: S) (Γ.set i (some (tv (.ref a)))) (σ.set i (some (.ref a))) H1 → D.nx (σ.set i (some (.ref a))) H1) :
    tAsg (tLst tl) (gName i) D σ H := he S σ H h _ fun vs H1 e p => ⟨sz_of (by rw [p.len]; exact hz), fun a hn => by
  have hn0 := fresh_back e hn
  have a1 : At (a :: S) Γ σ (upd H1 a (.lst vs)) := h.hide (e.trans (Ex.new hn)) hn0 upd_same rfl
  refine k a _ hn0 (e.trans (Ex.new hn)) ⟨List.mem_cons_self, vs, upd_same, p.mono fun c o hc => ?_⟩ (a1.set rfl)
  obtain ⟨n1, h2⟩ := hid_some hc
  have ne : c ≠ a := ne_of_none h2 hn
  rw [hid_of (fun z => (List.mem_cons.1 z).elim ne n1), upd_ne ne]
  exact h2⟩
theorem q_new {i : Nat} {tl : TA} {ts : List Ty} (he : EaP tl Γ ts) (hz : ts.length ≤ 100000) (h : At S Γ σ H) (k : ∀ a H1, H a = none → Ex H H1 → Grow (a :: S) H1 a ts → At (a :: S) (Γ.set i (some (tv (.ref a)))) (σ.set i (some (.ref a))) H1 → tz D (σ.set i (some (.ref a))) H1) :
    tSeq (tAsg (tLst tl) (gName i)) tz D σ H := s_new (D := { D with nx := tz D }) he hz h k
/-- l.append(e) -/
theorem s_app {a : Addr} {ts : List Ty} (hl : EvP ta Γ (tv (.ref a))) (he : EvP te Γ T) (hz : ts.length < 100000) (h : At S Γ σ H) (g : Grow S H a ts)
    (k : ∀ H1, Go S H H1 → (∀ b o, b ≠ a → H b = some o → H1 b = some o) → At S Γ σ H1 → Grow S H1 a (ts ++ [T]) → D.nx σ H1) : tDrop (tBM K "list" rAppend ta (tCons te tNil)) D σ H :=
  hl S σ H h _ fun v H1 e1 p1 => by
    obtain ⟨ha, vs, hv, hp⟩ := g
    rw [show v = V.ref a from p1]
    refine ⟨.inl ⟨rfl, vs, sq_of (e1 _ _ hv)⟩, he S σ H1 (h.ex e1) _ fun w H2 e2 p2 => ?_⟩
    have e := e1.trans e2
    have hh : hid S (upd H2 a (.lst (vs ++ [w]))) = hid S H2 := hid_upd ha
    have a2 := h.ex e
    have gg : Go S H (upd H2 a (.lst (vs ++ [w]))) := ⟨by rw [hh]; exact ex_hid e, a2.live.upd rfl⟩
    have lw := hp.len
    refine ⟨a, vs, w, rfl, rfl, e _ _ hv, sz_lt (by omega), k _ gg (fun b o hb hx => by rw [upd_ne hb]; exact e _ _ hx) (h.go gg) ⟨ha, _, upd_same, ?_⟩⟩
    rw [hh]
    exact (hp.mono (ex_hid e)).app (.cons p2 .nil)
theorem q_app {a : Addr} {ts : List Ty} (hl : EvP ta Γ (tv (.ref a))) (he : EvP te Γ T) (hz : ts.length < 100000) (h : At S Γ σ H) (g : Grow S H a ts)
    (k : ∀ H1, Go S H H1 → (∀ b o, b ≠ a → H b = some o → H1 b = some o) → At S Γ σ H1 → Grow S H1 a (ts ++ [T]) → tz D σ H1) : tSeq (tDrop (tBM K "list" rAppend ta (tCons te tNil))) tz D σ H := s_app (D := { D with nx := tz D }) hl he hz h g k
/-- it changes no more -/
theorem Grow.done {a : Addr} {ts : List Ty} (g : Grow (a :: S) H a ts) (n : a ∉ S) : (lst ts).p (.ref a) (hid S H) := by
  obtain ⟨_, vs, h1, h2⟩ := g
  exact ⟨a, vs, rfl, by rw [hid_of n]; exact h1, h2.mono hid_cons⟩
/-! loops -/
theorem s_for {wi : TI} {g : TG} {n : Nat} {tf : Nat → Ty} (hi : IterT wi Γ n tf) (h : At S Γ σ H) (Pv : Nat → L2.St → Hp → Prop) (hm : ∀ i σ' H' H2, Ex H' H2 → Pv i σ' H' → Pv i σ' H2) (h0 : ∀ H1, Ex H H1 → Pv 0 σ H1)
    (hs : ∀ i v σ' H0 H', i < n → Go S H0 H' → Go S H H' → (tf i).p v (hid S H') → Pv i σ' H' → g v σ' H' fun σ2 H2 => tu { D with nx := fun σ3 H3 => Go S H0 H3 ∧ Pv (i + 1) σ3 H3, ct := fun σ3 H3 => Go S H0 H3 ∧ Pv (i + 1) σ3 H3, bk := D.nx } σ2 H2)
    (hd : ∀ σ' H', Go S H H' → Pv n σ' H' → D.nx σ' H') : tFor wi g tu D σ H := hi S σ H h _ fun J H1 e1 wk => by
  refine ⟨fun i m σ' H' => m = n - i ∧ i ≤ n ∧ Go S H1 H' ∧ Pv i σ' H', ⟨n, by simp, Nat.zero_le _, .refl (h.ex e1).live, h0 H1 e1⟩, ?_⟩
  rintro i m σ' H' ⟨rfl, hin, go, p⟩
  have g01 : Go S H H1 := .of h.live e1
  obtain ⟨w1, w2, w3⟩ := wk S H' go.1 go.2
  by_cases hlt : i < n
  · refine .inr ⟨w1 i hlt, fun σ2 H2 => Go S H' H2 ∧ Pv (i + 1) σ2 H2, fun σ2 H2 p' => ⟨n - (i + 1), by omega, rfl, hlt, go.trans p'.1, p'.2⟩, fun v H2 y => ?_⟩
    obtain ⟨ey, py⟩ := w3 i v H2 hlt y
    exact hs i v σ' H' H2 hlt (.of go.2 ey) (g01.trans (go.trans (.of go.2 ey))) py (hm i σ' H' H2 ey p)
  · have e : i = n := by omega
    subst e
    exact .inl ⟨w2, hd σ' H' (g01.trans go) p⟩
/-- the same, the word told at each turn's own heap -/
theorem q_for {wi : TI} {g : TG} {n : Nat} {tf : Nat → Ty} (hi : IterT wi Γ n tf) (h : At S Γ σ H) (Pv : Nat → L2.St → Hp → Prop) (hm : ∀ i σ' H' H2, Ex H' H2 → Pv i σ' H' → Pv i σ' H2) (h0 : ∀ H1, Ex H H1 → Pv 0 σ H1)
    (hs : ∀ i v σ' H0 H', i < n → Go S H0 H' → Go S H H' → (tf i).p v (hid S H') → Pv i σ' H' → g v σ' H' fun σ2 H2 => tu { D with nx := fun σ3 H3 => Go S H0 H3 ∧ Pv (i + 1) σ3 H3, ct := fun σ3 H3 => Go S H0 H3 ∧ Pv (i + 1) σ3 H3, bk := tz D } σ2 H2)
    (hd : ∀ σ' H', Go S H H' → Pv n σ' H' → tz D σ' H') : tSeq (tFor wi g tu) tz D σ H := s_for (D := { D with nx := tz D }) hi h Pv hm h0 hs hd
/-! blocks that return, blocks that fall through -/
def BlkR (t : TS) (Γ : Cn) (T : Ty) : Prop := ∀ (S : List Addr) (D : Ends) (σ : L2.St) (H : Hp), At S Γ σ H → (∀ v H1, Ex H H1 → T.p v (hid S H1) → D.rt v H1) → t D σ H
def BlkN (t : TS) (Γ Γ' : Cn) : Prop := ∀ (S : List Addr) (D : Ends) (σ : L2.St) (H : Hp), At S Γ σ H → (∀ σ' H1, Ex H H1 → At S Γ' σ' H1 → D.nx σ' H1) → t D σ H
theorem b_ret (he : EvP te Γ T) : BlkR (tRet te) Γ T := fun S D σ H a k => s_ret he a k
theorem b_asg {i : Nat} (he : EvP te Γ T) (k : BlkR tz (Γ.set i (some T)) U) : BlkR (tSeq (tAsg te (gName i)) tz) Γ U := fun S D σ H a q => q_asg he a fun v H1 e a1 => k S D _ H1 a1 fun w H2 e2 p => q w H2 (e.trans e2) p
theorem b_drop (he : EvP te Γ T) (k : BlkR tz Γ U) : BlkR (tSeq (tDrop te) tz) Γ U := fun S D σ H a q => q_drop he a fun H1 e a1 => k S D _ H1 a1 fun w H2 e2 p => q w H2 (e.trans e2) p
theorem b_seq (h : BlkN tu Γ Γ') (k : BlkR tz Γ' U) : BlkR (tSeq tu tz) Γ U := fun S D σ H a q => h S { D with nx := tz D } σ H a fun σ1 H1 e a1 => k S D _ H1 a1 fun w H2 e2 p => q w H2 (e.trans e2) p
theorem b_if (ht : EtP tt Γ b) (h1 : b = true → BlkR tu Γ U) (h2 : b = false → BlkR tz Γ U) : BlkR (tSeq (tIfS tt tu tNext) tz) Γ U := fun S D σ H a q =>
  s_if (D := { D with nx := tz D }) ht a (fun hb H1 e a1 => h1 hb S { D with nx := tz D } σ H1 a1 fun w H2 e2 p => q w H2 (e.trans e2) p) fun hb H1 e a1 => h2 hb S D σ H1 a1 fun w H2 e2 p => q w H2 (e.trans e2) p
theorem b_no (ht : EtP tt Γ false) (k : BlkR tz Γ U) : BlkR (tSeq (tIfS tt tu tNext) tz) Γ U := b_if ht (fun z => nomatch z) fun _ => k
theorem b_ifE (ht : EtP tt Γ b) (h1 : b = true → BlkR tu Γ U) (h2 : b = false → BlkR tw Γ U) : BlkR (tIfS tt tu tw) Γ U := fun S D σ H a q =>
  s_if ht a (fun hb H1 e a1 => h1 hb S D σ H1 a1 fun w H2 e2 p => q w H2 (e.trans e2) p) fun hb H1 e a1 => h2 hb S D σ H1 a1 fun w H2 e2 p => q w H2 (e.trans e2) p
theorem b_le (h : BlkR tu Γ' U) (l : Le Γ' Γ) : BlkR tu Γ U := fun S D σ H a q => h S D σ H (a.le l) q
theorem n_asg {i : Nat} (he : EvP te Γ T) : BlkN (tAsg te (gName i)) Γ (Γ.set i (some T)) := fun S D σ H a q => s_asg he a fun v H1 e a1 => q _ H1 e a1
theorem n_drop (he : EvP te Γ T) : BlkN (tDrop te) Γ Γ := fun S D σ H a q => s_drop he a fun H1 e a1 => q _ H1 e a1
theorem n_seq {Γ2 : Cn} (h : BlkN tu Γ Γ') (k : BlkN tz Γ' Γ2) : BlkN (tSeq tu tz) Γ Γ2 := fun S D σ H a q => h S { D with nx := tz D } σ H a fun σ1 H1 e a1 => k S D _ H1 a1 fun σ2 H2 e2 p => q σ2 H2 (e.trans e2) p
theorem n_no (ht : EtP tt Γ false) : BlkN (tIfS tt tu tNext) Γ Γ := fun S D σ H a q => s_no ht a fun H1 e a1 => q σ H1 e a1
theorem n_if (ht : EtP tt Γ b) (h1 : b = true → BlkN tu Γ Γ') (h2 : b = false → BlkN tw Γ Γ') : BlkN (tIfS tt tu tw) Γ Γ' := fun S D σ H a q =>
  s_if ht a (fun hb H1 e a1 => h1 hb S D σ H1 a1 fun w H2 e2 p => q w H2 (e.trans e2) p) fun hb H1 e a1 => h2 hb S D σ H1 a1 fun w H2 e2 p => q w H2 (e.trans e2) p
theorem n_next : BlkN tNext Γ Γ := fun S D σ H a q => q σ H (Ex.refl H) a
theorem n_le {Γ2 : Cn} (h : BlkN tu Γ Γ') (l : Le Γ2 Γ') : BlkN tu Γ Γ2 := fun S D σ H a q => h S D σ H a fun σ1 H1 e a1 => q σ1 H1 e (a1.le l)
/-- a loop whose turns fall through -/
theorem n_for {wi : TI} {g : TG} {js : List Nat} {n : Nat} {tf : Nat → Ty} {Γs Γt : Nat → Cn} (hi : IterT wi Γ n tf) (h0 : Le (Γs 0) Γ) (hg : ∀ i, i < n → TgT g js (tf i) (Γs i) (Γt i)) (hb : ∀ i, i < n → BlkN tu (Γt i) (Γs (i + 1))) : BlkN (tFor wi g tu) Γ (Γs n) := fun S D σ H a q =>
  s_for hi a (fun i σ' H' => Ex H H' ∧ At S (Γs i) σ' H') (fun i σ' H' H2 e p => ⟨p.1.trans e, p.2.ex e⟩) (fun H1 e => ⟨e, (a.ex e).le h0⟩)
    (fun i v σ' H0 H' hlt g0 g1 p1 p2 => hg i hlt S v σ' H' _ p2.2 p1 fun σ2 l2 k2 a2 => hb i hlt S _ σ2 H' a2 fun σ3 H3 e3 a3 => ⟨g0.trans (.of g0.2 e3), p2.1.trans e3, a3⟩)
    (fun σ' H' g p => q σ' H' p.1 p.2)
end
/-! ### defs -/
def st0 (N : List Str) (Ts : List Ty) : Cn := Ts.map some ++ List.replicate (N.length - Ts.length) none
theorem at_start {S : List Addr} {H : Hp} {N : List Str} : ∀ {vs : List V} {Ts : List Ty}, Live S H → Ps (hid S H) vs Ts → At S (st0 N Ts) (L2.start N vs) H := fun {vs Ts} l h => by
  have hl := h.len
  refine ⟨fun i T e => ?_, l, by unfold st0 L2.start; rw [List.length_append, List.length_append, List.length_map, List.length_map, List.length_replicate, List.length_replicate, hl]⟩
  unfold st0 at e
  unfold L2.start
  by_cases hi : i < Ts.length
  · rw [List.getElem?_append_left (by rw [List.length_map]; exact hi), List.getElem?_map] at e
    cases q : Ts[i]? with
    | none =>
      rw [q] at e
      cases e
    | some t =>
      rw [q] at e
      cases e
      obtain ⟨v, h1, h2⟩ := h.get q
      exact ⟨v, by rw [List.getElem?_append_left (by rw [List.length_map]; omega), List.getElem?_map, h1]; rfl, h2⟩
  · rw [List.getElem?_append_right (by rw [List.length_map]; omega), List.getElem?_replicate] at e
    split at e <;> cases e
section
variable {w : World} {P : Program} {K : PySem.W.Frag} {mg : Str → Option Value} {base : Heap}
/-- a def that raises nothing, by its body's types -/
theorem fn_ty {x qual : Str} {st : Stmt} {f : Addr} {fd : FuncData} {N ps : List Str} {k : Nat} {Sg : List Ty → Ty → Prop} (F : Fun K x qual st f fd) (Sc : FnScope N ps (defScope st)) (len : ∀ Ts T, Sg Ts T → Ts.length = ps.length)
    (hbody : ∀ X : Cx, X.prog = P → X.w = w → X.K = K → X.mg = mg → X.base = base → X.calm = true → X.N = N → X.env.scope = defScope st → X.fn = (fun _ => true) → Room k X.A → (∀ Ts T, Sg Ts T → ∃ t, PSs X (defBody st) t ∧ BlkR t (st0 N Ts) T)) : True := trivial
end
end WT

set_option Elab.async false
set_option linter.all false
set_option maxRecDepth 100000
set_option maxHeartbeats 3900000
/-! The text by places; what the top has left; the domain's types. -/
namespace WB
open PySem PySem.Spec PyProof.Rows L2 Evl WT WM
def top (i : Nat) : Stmt := PySem.Challenge.pw_withincall_k14_whole_rings.main.body.getD i (.Pass ⟨0, 0, 0, 0⟩)
abbrev s_is_integer : Stmt := top 11
theorem sc_is_integer : FnScope ["value"] ["value"] (defScope s_is_integer) := ⟨rfl, rfl, rfl, by decide +kernel, rfl, by decide +kernel, by decide +kernel⟩
abbrev s_check_number : Stmt := top 12
theorem sc_check_number : FnScope ["value", "count"] ["value", "count"] (defScope s_check_number) := ⟨rfl, rfl, rfl, by decide +kernel, rfl, by decide +kernel, by decide +kernel⟩
abbrev s_check_capacities : Stmt := top 13
theorem sc_check_capacities : FnScope ["capacities", "position", "capacity"] ["capacities"] (defScope s_check_capacities) := ⟨rfl, rfl, rfl, by decide +kernel, rfl, by decide +kernel, by decide +kernel⟩
abbrev s_numbers_by_end : Stmt := top 14
theorem sc_numbers_by_end : FnScope ["channels", "stages", "end", "found", "number", "channel", "_", "numbers"] ["channels", "stages", "end"] (defScope s_numbers_by_end) := ⟨rfl, rfl, rfl, by decide +kernel, rfl, by decide +kernel, by decide +kernel⟩
abbrev s_Net___init__ : Stmt := inClass (top 15) 4
theorem sc_Net___init__ : FnScope ["self", "stages", "channels"] ["self", "stages", "channels"] (defScope s_Net___init__) := ⟨rfl, rfl, rfl, by decide +kernel, rfl, by decide +kernel, by decide +kernel⟩
abbrev s_Net_is_capacity : Stmt := inClass (top 15) 5
theorem sc_Net_is_capacity : FnScope ["value"] ["value"] (defScope s_Net_is_capacity) := ⟨rfl, rfl, rfl, by decide +kernel, rfl, by decide +kernel, by decide +kernel⟩
abbrev s_Net_incoming : Stmt := inClass (top 15) 8
theorem sc_Net_incoming : FnScope ["self", "stage"] ["self", "stage"] (defScope s_Net_incoming) := ⟨rfl, rfl, rfl, by decide +kernel, rfl, by decide +kernel, by decide +kernel⟩
abbrev s_Net_outgoing : Stmt := inClass (top 15) 9
theorem sc_Net_outgoing : FnScope ["self", "stage"] ["self", "stage"] (defScope s_Net_outgoing) := ⟨rfl, rfl, rfl, by decide +kernel, rfl, by decide +kernel, by decide +kernel⟩
abbrev s_Ring_is_ring : Stmt := inClass (top 16) 2
theorem sc_Ring_is_ring : FnScope ["self"] ["self"] (defScope s_Ring_is_ring) := ⟨rfl, rfl, rfl, by decide +kernel, rfl, by decide +kernel, by decide +kernel⟩
abbrev s_check_state : Stmt := top 18
theorem sc_check_state : FnScope ["net", "state", "position", "counter"] ["net", "state"] (defScope s_check_state) := ⟨rfl, rfl, rfl, by decide +kernel, rfl, by decide +kernel, by decide +kernel⟩
abbrev s_load_of : Stmt := top 19
theorem sc_load_of : FnScope ["channel", "state"] ["channel", "state"] (defScope s_load_of) := ⟨rfl, rfl, rfl, by decide +kernel, rfl, by decide +kernel, by decide +kernel⟩
abbrev s_is_owing : Stmt := top 20
theorem sc_is_owing : FnScope ["channel", "state"] ["channel", "state"] (defScope s_is_owing) := ⟨rfl, rfl, rfl, by decide +kernel, rfl, by decide +kernel, by decide +kernel⟩
abbrev s_is_jammed : Stmt := top 21
theorem sc_is_jammed : FnScope ["channel", "state"] ["channel", "state"] (defScope s_is_jammed) := ⟨rfl, rfl, rfl, by decide +kernel, rfl, by decide +kernel, by decide +kernel⟩
abbrev s_is_move : Stmt := top 24
theorem sc_is_move : FnScope ["net", "value"] ["net", "value"] (defScope s_is_move) := ⟨rfl, rfl, rfl, by decide +kernel, rfl, by decide +kernel, by decide +kernel⟩
abbrev s_check_move : Stmt := top 25
theorem sc_check_move : FnScope ["net", "move"] ["net", "move"] (defScope s_check_move) := ⟨rfl, rfl, rfl, by decide +kernel, rfl, by decide +kernel, by decide +kernel⟩
abbrev s_side : Stmt := top 26
theorem sc_side : FnScope ["net", "move"] ["net", "move"] (defScope s_side) := ⟨rfl, rfl, rfl, by decide +kernel, rfl, by decide +kernel, by decide +kernel⟩
abbrev s_is_ready : Stmt := top 27
theorem sc_is_ready : FnScope ["channel", "state"] ["channel", "state"] (defScope s_is_ready) := ⟨rfl, rfl, rfl, by decide +kernel, rfl, by decide +kernel, by decide +kernel⟩
abbrev s_unready : Stmt := top 28
theorem sc_unready : FnScope ["net", "state", "move", "number"] ["net", "state", "move"] (defScope s_unready) := ⟨rfl, rfl, rfl, by decide +kernel, rfl, by decide +kernel, by decide +kernel⟩
abbrev s_is_allowed : Stmt := top 29
theorem sc_is_allowed : FnScope ["net", "state", "move"] ["net", "state", "move"] (defScope s_is_allowed) := ⟨rfl, rfl, rfl, by decide +kernel, rfl, by decide +kernel, by decide +kernel⟩
abbrev s_after : Stmt := top 30
theorem sc_after : FnScope ["state", "move", "stage", "kind", "counter"] ["state", "move"] (defScope s_after) := ⟨rfl, rfl, rfl, by decide +kernel, rfl, by decide +kernel, by decide +kernel⟩
abbrev s_step_of_row : Stmt := top 31
theorem sc_step_of_row : FnScope ["net", "state", "move", "at"] ["net", "state", "move", "at"] (defScope s_step_of_row) := ⟨rfl, rfl, rfl, by decide +kernel, rfl, by decide +kernel, by decide +kernel⟩
abbrev s_run_moves : Stmt := top 32
theorem sc_run_moves : FnScope ["net", "state", "moves", "present", "at", "move"] ["net", "state", "moves"] (defScope s_run_moves) := ⟨rfl, rfl, rfl, by decide +kernel, rfl, by decide +kernel, by decide +kernel⟩
abbrev s_is_drawn_on : Stmt := top 35
theorem sc_is_drawn_on : FnScope ["channel", "start", "target", "producer", "consumer"] ["channel", "start", "target"] (defScope s_is_drawn_on) := ⟨rfl, rfl, rfl, by decide +kernel, rfl, by decide +kernel, by decide +kernel⟩
abbrev s_range_objections : Stmt := top 36
theorem sc_range_objections : FnScope ["net", "start", "target", "lowest", "highest", "above", "below", "stage", "counter"] ["net", "start", "target"] (defScope s_range_objections) := ⟨rfl, rfl, rfl, by decide +kernel, rfl, by decide +kernel, by decide +kernel⟩
abbrev s_channel_objections : Stmt := top 37
theorem sc_channel_objections : FnScope ["net", "start", "target", "drawn", "jammed", "orphaned", "number", "channel"] ["net", "start", "target"] (defScope s_channel_objections) := ⟨rfl, rfl, rfl, by decide +kernel, rfl, by decide +kernel, by decide +kernel⟩
abbrev s_end_objections : Stmt := top 38
theorem sc_end_objections : FnScope ["net", "start", "target", "sinks", "sources", "stage"] ["net", "start", "target"] (defScope s_end_objections) := ⟨rfl, rfl, rfl, by decide +kernel, rfl, by decide +kernel, by decide +kernel⟩
abbrev s_found_objections : Stmt := top 39
theorem sc_found_objections : FnScope ["net", "start", "target", "of_range", "of_channels", "of_ends"] ["net", "start", "target"] (defScope s_found_objections) := ⟨rfl, rfl, rfl, by decide +kernel, rfl, by decide +kernel, by decide +kernel⟩
abbrev s_is_reached : Stmt := top 40
theorem sc_is_reached : FnScope ["net", "start", "target"] ["net", "start", "target"] (defScope s_is_reached) := ⟨rfl, rfl, rfl, by decide +kernel, rfl, by decide +kernel, by decide +kernel⟩
abbrev s_gap : Stmt := top 41
theorem sc_gap : FnScope ["start", "target", "counter", "goal"] ["start", "target"] (defScope s_gap) := ⟨rfl, rfl, rfl, by decide +kernel, rfl, by decide +kernel, by decide +kernel⟩
abbrev s_check_reached : Stmt := top 42
theorem sc_check_reached : FnScope ["net", "start", "target", "found"] ["net", "start", "target"] (defScope s_check_reached) := ⟨rfl, rfl, rfl, by decide +kernel, rfl, by decide +kernel, by decide +kernel⟩
abbrev s_demand : Stmt := top 43
theorem sc_demand : FnScope ["net", "start", "target", "size"] ["net", "start", "target"] (defScope s_demand) := ⟨rfl, rfl, rfl, by decide +kernel, rfl, by decide +kernel, by decide +kernel⟩
abbrev s_moves_towards : Stmt := top 44
theorem sc_moves_towards : FnScope ["state", "target", "stage", "counter"] ["state", "target"] (defScope s_moves_towards) := ⟨rfl, rfl, rfl, by decide +kernel, rfl, by decide +kernel, by decide +kernel⟩
abbrev s_jams_needed_channel : Stmt := top 45
theorem sc_jams_needed_channel : FnScope ["net", "state", "target", "move", "stage", "kind", "numbers", "full", "number", "channel"] ["net", "state", "target", "move"] (defScope s_jams_needed_channel) := ⟨rfl, rfl, rfl, by decide +kernel, rfl, by decide +kernel, by decide +kernel⟩
abbrev s_first_of : Stmt := top 46
theorem sc_first_of : FnScope ["net", "state", "target", "move"] ["net", "state", "target"] (defScope s_first_of) := ⟨rfl, rfl, rfl, by decide +kernel, rfl, by decide +kernel, by decide +kernel⟩
abbrev s_plan_of : Stmt := top 47
theorem sc_plan_of : FnScope ["net", "start", "target", "present", "moves", "_", "move"] ["net", "start", "target"] (defScope s_plan_of) := ⟨rfl, rfl, rfl, by decide +kernel, rfl, by decide +kernel, by decide +kernel⟩
abbrev s_objections : Stmt := top 48
theorem sc_objections : FnScope ["net", "start", "target"] ["net", "start", "target"] (defScope s_objections) := ⟨rfl, rfl, rfl, by decide +kernel, rfl, by decide +kernel, by decide +kernel⟩
abbrev s_is_objection : Stmt := top 49
theorem sc_is_objection : FnScope ["net", "start", "target", "objection"] ["net", "start", "target", "objection"] (defScope s_is_objection) := ⟨rfl, rfl, rfl, by decide +kernel, rfl, by decide +kernel, by decide +kernel⟩
abbrev s_reaches : Stmt := top 50
theorem sc_reaches : FnScope ["net", "start", "target"] ["net", "start", "target"] (defScope s_reaches) := ⟨rfl, rfl, rfl, by decide +kernel, rfl, by decide +kernel, by decide +kernel⟩
abbrev s_distance : Stmt := top 51
theorem sc_distance : FnScope ["net", "start", "target"] ["net", "start", "target"] (defScope s_distance) := ⟨rfl, rfl, rfl, by decide +kernel, rfl, by decide +kernel, by decide +kernel⟩
abbrev s_plan : Stmt := top 52
theorem sc_plan : FnScope ["net", "start", "target"] ["net", "start", "target"] (defScope s_plan) := ⟨rfl, rfl, rfl, by decide +kernel, rfl, by decide +kernel, by decide +kernel⟩
abbrev s_is_plan : Stmt := top 53
theorem sc_is_plan : FnScope ["net", "start", "target", "moves"] ["net", "start", "target", "moves"] (defScope s_is_plan) := ⟨rfl, rfl, rfl, by decide +kernel, rfl, by decide +kernel, by decide +kernel⟩
abbrev s__law_is_integer : Stmt := top 55
theorem sc__law_is_integer : FnScope ["_law_value"] ["_law_value"] (defScope s__law_is_integer) := ⟨rfl, rfl, rfl, by decide +kernel, rfl, by decide +kernel, by decide +kernel⟩
abbrev s__law_box : Stmt := top 56
theorem sc__law_box : FnScope ["_law_script", "_law_cells", "_law_seed", "_law_cell"] ["_law_script"] (defScope s__law_box) := ⟨rfl, rfl, rfl, by decide +kernel, rfl, by decide +kernel, by decide +kernel⟩
abbrev s__law_take : Stmt := top 57
theorem sc__law_take : FnScope ["_law_box_here", "_law_size", "_law_cells", "_law_at", "_law_digit", "_law_number", "_law_once", "_law_twice", "_law_third"] ["_law_box_here", "_law_size"] (defScope s__law_take) := ⟨rfl, rfl, rfl, by decide +kernel, rfl, by decide +kernel, by decide +kernel⟩
abbrev s__law_ring : Stmt := top 58
theorem sc__law_ring : FnScope ["_law_row"] ["_law_row"] (defScope s__law_ring) := ⟨rfl, rfl, rfl, by decide +kernel, rfl, by decide +kernel, by decide +kernel⟩
abbrev s__law_moves : Stmt := top 59
theorem sc__law_moves : FnScope ["_law_stages", "_law_found", "_law_stage"] ["_law_stages"] (defScope s__law_moves) := ⟨rfl, rfl, rfl, by decide +kernel, rfl, by decide +kernel, by decide +kernel⟩
abbrev s__law_is_allowed : Stmt := top 60
theorem sc__law_is_allowed : FnScope ["_law_channels", "_law_here", "_law_move", "_law_end", "_law_side", "_law_channel"] ["_law_channels", "_law_here", "_law_move"] (defScope s__law_is_allowed) := ⟨rfl, rfl, rfl, by decide +kernel, rfl, by decide +kernel, by decide +kernel⟩
abbrev s__law_after : Stmt := top 61
theorem sc__law_after : FnScope ["_law_here", "_law_move", "_law_change"] ["_law_here", "_law_move"] (defScope s__law_after) := ⟨rfl, rfl, rfl, by decide +kernel, rfl, by decide +kernel, by decide +kernel⟩
abbrev s__law_states : Stmt := top 62
theorem sc__law_states : FnScope ["_law_stages", "_law_levels", "_law_base", "_law_found", "_law_stage", "_law_longer", "_law_point", "_law_level"] ["_law_stages", "_law_levels", "_law_base"] (defScope s__law_states) := ⟨rfl, rfl, rfl, by decide +kernel, rfl, by decide +kernel, by decide +kernel⟩
abbrev s__law_roads : Stmt := top 63
theorem sc__law_roads : FnScope ["_law_channels", "_law_states_here", "_law_roads_here", "_law_point", "_law_ready", "_law_move"] ["_law_channels", "_law_states_here"] (defScope s__law_roads) := ⟨rfl, rfl, rfl, by decide +kernel, rfl, by decide +kernel, by decide +kernel⟩
abbrev s__law_search : Stmt := top 64
theorem sc__law_search : FnScope ["_law_roads_here", "_law_start", "_law_far", "_law_line", "_law_turn", "_law_ahead", "_law_point", "_law_other"] ["_law_roads_here", "_law_start"] (defScope s__law_search) := ⟨rfl, rfl, rfl, by decide +kernel, rfl, by decide +kernel, by decide +kernel⟩
abbrev s__law_objections_hold : Stmt := top 65
theorem sc__law_objections_hold : FnScope ["_law_network", "_law_start", "_law_goal", "_law_is_reached", "_law_told", "_law_stage"] ["_law_network", "_law_start", "_law_goal", "_law_is_reached"] (defScope s__law_objections_hold) := ⟨rfl, rfl, rfl, by decide +kernel, rfl, by decide +kernel, by decide +kernel⟩
abbrev s__law_pair_holds : Stmt := top 66
theorem sc__law_pair_holds : FnScope ["_law_network", "_law_start", "_law_goal", "_law_due", "_law_told", "_law_many", "_law_raised"] ["_law_network", "_law_start", "_law_goal", "_law_due"] (defScope s__law_pair_holds) := ⟨rfl, rfl, rfl, by decide +kernel, rfl, by decide +kernel, by decide +kernel⟩
abbrev s__law_turned_round : Stmt := top 67
theorem sc__law_turned_round : FnScope ["_law_roads_here", "_law_back", "_law_point", "_law_other", "_law_befores"] ["_law_roads_here"] (defScope s__law_turned_round) := ⟨rfl, rfl, rfl, by decide +kernel, rfl, by decide +kernel, by decide +kernel⟩
abbrev s__law_is_smaller_first : Stmt := top 68
theorem sc__law_is_smaller_first : FnScope ["_law_channels", "_law_left", "_law_here", "_law_move", "_law_smaller"] ["_law_channels", "_law_left", "_law_here", "_law_move"] (defScope s__law_is_smaller_first) := ⟨rfl, rfl, rfl, by decide +kernel, rfl, by decide +kernel, by decide +kernel⟩
abbrev s__law_plan_holds : Stmt := top 69
theorem sc__law_plan_holds : FnScope ["_law_network", "_law_channels", "_law_left", "_law_start", "_law_goal", "_law_due", "_law_row", "_law_raised", "_law_here", "_law_k", "_law_move", "_law_other"] ["_law_network", "_law_channels", "_law_left", "_law_start", "_law_goal", "_law_due"] (defScope s__law_plan_holds) := ⟨rfl, rfl, rfl, by decide +kernel, rfl, by decide +kernel, by decide +kernel⟩
abbrev s__law_starts : Stmt := top 70
theorem sc__law_starts : FnScope ["_law_box_here", "_law_roads_here", "_law_states_here", "_law_lively", "_law_starts_here", "_law_turn", "_law_point"] ["_law_box_here", "_law_roads_here", "_law_states_here"] (defScope s__law_starts) := ⟨rfl, rfl, rfl, by decide +kernel, rfl, by decide +kernel, by decide +kernel⟩
abbrev s_law : Stmt := top 71
theorem sc_law : FnScope ["_law_script", "_law_box_here", "_law_shape", "_law_stages", "_law_levels", "_law_base", "_law_rooms", "_law_network", "_law_channels", "_law_states_here", "_law_roads_here", "_law_back", "_law_starts_here", "_law_start", "_law_far", "_law_goal", "_law_due", "_law_turn", "_law_met", "_law_left", "_law_k"] ["_law_script"] (defScope s_law) := ⟨rfl, rfl, rfl, by decide +kernel, rfl, by decide +kernel, by decide +kernel⟩
theorem b_len : bootBuiltins "len" = some (.builtin "len") := by decide +kernel
theorem b_isinstance : bootBuiltins "isinstance" = some (.builtin "isinstance") := by decide +kernel
theorem b_abs : bootBuiltins "abs" = some (.builtin "abs") := by decide +kernel
theorem b_sum : bootBuiltins "sum" = some (.builtin "sum") := by decide +kernel
theorem b_any : bootBuiltins "any" = some (.builtin "any") := by decide +kernel
theorem b_max : bootBuiltins "max" = some (.builtin "max") := by decide +kernel
theorem b_min : bootBuiltins "min" = some (.builtin "min") := by decide +kernel
theorem b_int : bootBuiltins "int" = some (.type "int") := by decide +kernel
theorem b_bool : bootBuiltins "bool" = some (.type "bool") := by decide +kernel
theorem b_str : bootBuiltins "str" = some (.type "str") := by decide +kernel
theorem b_tuple : bootBuiltins "tuple" = some (.type "tuple") := by decide +kernel
/-! rules with the fragment named -/
section
variable {X : Cx} {tg e a b : Expr} {te ta : TE} {tx : TA}
theorem kixT (K : PySem.W.Frag) (h : X.K = K := by rfl) : IxR X (rIxT K) := by subst h; exact ix_tup
theorem kixL (K : PySem.W.Frag) (h : X.K = K := by rfl) : IxR X (rIxL K) := by subst h; exact ix_list
theorem kslL (K : PySem.W.Frag) (h : X.K = K := by rfl) : SlR X (rSlL K) := by subst h; exact sl_list
theorem kslT (K : PySem.W.Frag) (h : X.K = K := by rfl) : SlR X (rSlA K) := by subst h; exact sl_tupA
theorem kcatT (K : PySem.W.Frag) (h : X.K = K := by rfl) : OpR X (binaryOp .Add) (rCatA K) := by subst h; exact op_catA
theorem kin (K : PySem.W.Frag) (h : X.K = K := by rfl) : OpR X (compareOp .In) (rIn K false) := by subst h; exact op_in_seq
theorem kpiL (K : PySem.W.Frag) (he : PE X e te) (h : X.K = K := by rfl) : PI X tg e (iList K te) := by subst h; exact pi_list he
theorem kpiT (K : PySem.W.Frag) (he : PE X e te) (h : X.K = K := by rfl) : PI X tg e (iTup K te) := by subst h; exact pi_tup he
theorem kenum (K : PySem.W.Frag) {p pos tpos : Pos} {elts : List Expr} {kk : Nat} (hg : Gl X "enumerate") (hm : X.mg "enumerate" = none) (ha : PA X [e] tx) (hs : starEach [e] X.env = [(false, eval e X.env)] := by rfl) (h : X.K = K := by rfl) :
    PI X (.Tuple elts kk tpos) (.Call (.Name "enumerate" p) [e] [] pos) (WR.iEnumT K tx) := by subst h; exact WR.piEnumT hg hm ha hs
theorem kzip (K : PySem.W.Frag) {e2 : Expr} {p pos tpos : Pos} {elts : List Expr} {kk : Nat} (hg : Gl X "zip") (hm : X.mg "zip" = none) (ha : PA X [e, e2] tx) (hs : starEach [e, e2] X.env = (false, eval e X.env) :: starEach [e2] X.env := by rfl) (hpl : (backTo pos (starEach [e2] X.env)).any (·.1) = false := by rfl) (h : X.K = K := by rfl) :
    PI X (.Tuple elts kk tpos) (.Call (.Name "zip" p) [e, e2] [] pos) (RZ.iZipA K tx) := by subst h; exact RZ.pi_zipA hg hm ha hs hpl
theorem klen (K : PySem.W.Frag) (h : X.K = K := by rfl) : CallR X (.builtin "len") (fun xs H Q => ∃ p ys, xs = [.ref p] ∧ (SqL K H p ys ∨ SqT K H p ys) ∧ Q (.int ys.length) H) := by subst h; exact call_len_seq
theorem kisi (K : PySem.W.Frag) (h : X.K = K := by rfl) : CallR X (.builtin "isinstance") (rIsi K) := by subst h; exact call_isi
theorem ksum (K : PySem.W.Frag) (hc : X.calm = true) (h : X.K = K := by rfl) : CallR X (.builtin "sum") (rSum K) := by subst h; exact cr_sum hc
theorem kany (K : PySem.W.Frag) (hc : X.calm = true) (h : X.K = K := by rfl) : CallR X (.builtin "any") (rAny K) := by subst h; exact cr_any hc
theorem kmax (K : PySem.W.Frag) (hc : X.calm = true) (hu : X.A.units + 64 < cLine) (h : X.K = K := by rfl) : CallR X (.builtin "max") (WR.rFoldT K WR.maxI) := by subst h; exact WR.crMaxT hc hu
theorem kmin (K : PySem.W.Frag) (hc : X.calm = true) (hu : X.A.units + 64 < cLine) (h : X.K = K := by rfl) : CallR X (.builtin "min") (WR.rFoldT K WR.minI) := by subst h; exact WR.crMinT hc hu
theorem ktuple (K : PySem.W.Frag) (h : X.K = K := by rfl) : CallR X (.type "tuple") (fun xs H Q => ∃ p ys, xs = [.ref p] ∧ ((SqL K H p ys ∧ ∀ l, H l = none → Q (.ref l) (upd H l (.tup ys))) ∨ (SqT K H p ys ∧ Q (.ref p) H))) := by subst h; exact call_tuple_of
theorem kcv (K : PySem.W.Frag) {f : Str} {pos : Pos} (he : PE X e te) (hb : attributeBase e f X.env (eval e X.env) = eval e X.env := by rfl) (h : X.K = K := by rfl) : PE X (.Attribute e f pos) (ClX.tCVal K te f) := by subst h; exact ClX.pe_cval he hb
theorem kapp (K : PySem.W.Frag) {o : Expr} {apos cpos : Pos} (ho : PE X o ta) (ha : PA X [e] tx) (hbase : attributeBase o "append" X.env (eval o X.env) = eval o X.env := by rfl)
    (hfew : ((backTo cpos (starEach [e] X.env)).all (fun x => !x.1) && (backToKw cpos (keywordEach [] X.env)).all (fun x => x.1.isSome) && decide (([e] : List Expr).length + ([] : List Keyword).length + (if ([] : List Keyword).isEmpty then 0 else 1) < 30)) = true := by rfl)
    (hline : (apos.endLine == cpos.line) = true := by rfl) (hs : starEach [e] X.env = (false, eval e X.env) :: starEach [] X.env := by rfl) (hplain : (backTo cpos (starEach [] X.env)).any (·.1) = false := by rfl) (h : X.K = K := by rfl) :
    PE X (.Call (.Attribute o "append" apos) [e] [] cpos) (tBM K "list" rAppend ta tx) := by subst h; exact pe_bm PySem.F.plainAttrs_list PySem.F.slot_list_append PySem.F.type_list_append mt_append ho ha hbase hfew hline hs hplain
end
/-- what of the top is asked: CR, CN, CU the classes Ring, Net, Unreachable; fU the __init__ of the last; KA the tuple KINDS; mc the class of Net -/
structure TopF (K : PySem.W.Frag) (mg : Str → Option Value) (CR CN CU fU KA : Addr) (mc : Value) : Prop where
  d_is_integer : ∃ f fd, Fun K "is_integer" "is_integer" s_is_integer f fd ∧ mg "is_integer" = some (.ref f)
  d_check_number : ∃ f fd, Fun K "check_number" "check_number" s_check_number f fd ∧ mg "check_number" = some (.ref f)
  d_check_capacities : ∃ f fd, Fun K "check_capacities" "check_capacities" s_check_capacities f fd ∧ mg "check_capacities" = some (.ref f)
  d_numbers_by_end : ∃ f fd, Fun K "numbers_by_end" "numbers_by_end" s_numbers_by_end f fd ∧ mg "numbers_by_end" = some (.ref f)
  d_check_state : ∃ f fd, Fun K "check_state" "check_state" s_check_state f fd ∧ mg "check_state" = some (.ref f)
  d_load_of : ∃ f fd, Fun K "load_of" "load_of" s_load_of f fd ∧ mg "load_of" = some (.ref f)
  d_is_owing : ∃ f fd, Fun K "is_owing" "is_owing" s_is_owing f fd ∧ mg "is_owing" = some (.ref f)
  d_is_jammed : ∃ f fd, Fun K "is_jammed" "is_jammed" s_is_jammed f fd ∧ mg "is_jammed" = some (.ref f)
  d_is_move : ∃ f fd, Fun K "is_move" "is_move" s_is_move f fd ∧ mg "is_move" = some (.ref f)
  d_check_move : ∃ f fd, Fun K "check_move" "check_move" s_check_move f fd ∧ mg "check_move" = some (.ref f)
  d_side : ∃ f fd, Fun K "side" "side" s_side f fd ∧ mg "side" = some (.ref f)
  d_is_ready : ∃ f fd, Fun K "is_ready" "is_ready" s_is_ready f fd ∧ mg "is_ready" = some (.ref f)
  d_unready : ∃ f fd, Fun K "unready" "unready" s_unready f fd ∧ mg "unready" = some (.ref f)
  d_is_allowed : ∃ f fd, Fun K "is_allowed" "is_allowed" s_is_allowed f fd ∧ mg "is_allowed" = some (.ref f)
  d_after : ∃ f fd, Fun K "after" "after" s_after f fd ∧ mg "after" = some (.ref f)
  d_step_of_row : ∃ f fd, Fun K "step_of_row" "step_of_row" s_step_of_row f fd ∧ mg "step_of_row" = some (.ref f)
  d_run_moves : ∃ f fd, Fun K "run_moves" "run_moves" s_run_moves f fd ∧ mg "run_moves" = some (.ref f)
  d_is_drawn_on : ∃ f fd, Fun K "is_drawn_on" "is_drawn_on" s_is_drawn_on f fd ∧ mg "is_drawn_on" = some (.ref f)
  d_range_objections : ∃ f fd, Fun K "range_objections" "range_objections" s_range_objections f fd ∧ mg "range_objections" = some (.ref f)
  d_channel_objections : ∃ f fd, Fun K "channel_objections" "channel_objections" s_channel_objections f fd ∧ mg "channel_objections" = some (.ref f)
  d_end_objections : ∃ f fd, Fun K "end_objections" "end_objections" s_end_objections f fd ∧ mg "end_objections" = some (.ref f)
  d_found_objections : ∃ f fd, Fun K "found_objections" "found_objections" s_found_objections f fd ∧ mg "found_objections" = some (.ref f)
  d_is_reached : ∃ f fd, Fun K "is_reached" "is_reached" s_is_reached f fd ∧ mg "is_reached" = some (.ref f)
  d_gap : ∃ f fd, Fun K "gap" "gap" s_gap f fd ∧ mg "gap" = some (.ref f)
  d_check_reached : ∃ f fd, Fun K "check_reached" "check_reached" s_check_reached f fd ∧ mg "check_reached" = some (.ref f)
  d_demand : ∃ f fd, Fun K "demand" "demand" s_demand f fd ∧ mg "demand" = some (.ref f)
  d_moves_towards : ∃ f fd, Fun K "moves_towards" "moves_towards" s_moves_towards f fd ∧ mg "moves_towards" = some (.ref f)
  d_jams_needed_channel : ∃ f fd, Fun K "jams_needed_channel" "jams_needed_channel" s_jams_needed_channel f fd ∧ mg "jams_needed_channel" = some (.ref f)
  d_first_of : ∃ f fd, Fun K "first_of" "first_of" s_first_of f fd ∧ mg "first_of" = some (.ref f)
  d_plan_of : ∃ f fd, Fun K "plan_of" "plan_of" s_plan_of f fd ∧ mg "plan_of" = some (.ref f)
  d_objections : ∃ f fd, Fun K "objections" "objections" s_objections f fd ∧ mg "objections" = some (.ref f)
  d_is_objection : ∃ f fd, Fun K "is_objection" "is_objection" s_is_objection f fd ∧ mg "is_objection" = some (.ref f)
  d_reaches : ∃ f fd, Fun K "reaches" "reaches" s_reaches f fd ∧ mg "reaches" = some (.ref f)
  d_distance : ∃ f fd, Fun K "distance" "distance" s_distance f fd ∧ mg "distance" = some (.ref f)
  d_plan : ∃ f fd, Fun K "plan" "plan" s_plan f fd ∧ mg "plan" = some (.ref f)
  d_is_plan : ∃ f fd, Fun K "is_plan" "is_plan" s_is_plan f fd ∧ mg "is_plan" = some (.ref f)
  d__law_is_integer : ∃ f fd, Fun K "_law_is_integer" "_law_is_integer" s__law_is_integer f fd ∧ mg "_law_is_integer" = some (.ref f)
  d__law_box : ∃ f fd, Fun K "_law_box" "_law_box" s__law_box f fd ∧ mg "_law_box" = some (.ref f)
  d__law_take : ∃ f fd, Fun K "_law_take" "_law_take" s__law_take f fd ∧ mg "_law_take" = some (.ref f)
  d__law_ring : ∃ f fd, Fun K "_law_ring" "_law_ring" s__law_ring f fd ∧ mg "_law_ring" = some (.ref f)
  d__law_moves : ∃ f fd, Fun K "_law_moves" "_law_moves" s__law_moves f fd ∧ mg "_law_moves" = some (.ref f)
  d__law_is_allowed : ∃ f fd, Fun K "_law_is_allowed" "_law_is_allowed" s__law_is_allowed f fd ∧ mg "_law_is_allowed" = some (.ref f)
  d__law_after : ∃ f fd, Fun K "_law_after" "_law_after" s__law_after f fd ∧ mg "_law_after" = some (.ref f)
  d__law_states : ∃ f fd, Fun K "_law_states" "_law_states" s__law_states f fd ∧ mg "_law_states" = some (.ref f)
  d__law_roads : ∃ f fd, Fun K "_law_roads" "_law_roads" s__law_roads f fd ∧ mg "_law_roads" = some (.ref f)
  d__law_search : ∃ f fd, Fun K "_law_search" "_law_search" s__law_search f fd ∧ mg "_law_search" = some (.ref f)
  d__law_objections_hold : ∃ f fd, Fun K "_law_objections_hold" "_law_objections_hold" s__law_objections_hold f fd ∧ mg "_law_objections_hold" = some (.ref f)
  d__law_pair_holds : ∃ f fd, Fun K "_law_pair_holds" "_law_pair_holds" s__law_pair_holds f fd ∧ mg "_law_pair_holds" = some (.ref f)
  d__law_turned_round : ∃ f fd, Fun K "_law_turned_round" "_law_turned_round" s__law_turned_round f fd ∧ mg "_law_turned_round" = some (.ref f)
  d__law_is_smaller_first : ∃ f fd, Fun K "_law_is_smaller_first" "_law_is_smaller_first" s__law_is_smaller_first f fd ∧ mg "_law_is_smaller_first" = some (.ref f)
  d__law_plan_holds : ∃ f fd, Fun K "_law_plan_holds" "_law_plan_holds" s__law_plan_holds f fd ∧ mg "_law_plan_holds" = some (.ref f)
  d__law_starts : ∃ f fd, Fun K "_law_starts" "_law_starts" s__law_starts f fd ∧ mg "_law_starts" = some (.ref f)
  d_law : ∃ f fd, Fun K "law" "law" s_law f fd ∧ mg "law" = some (.ref f)
  n_len : mg "len" = none
  n_isinstance : mg "isinstance" = none
  n_abs : mg "abs" = none
  n_sum : mg "sum" = none
  n_any : mg "any" = none
  n_max : mg "max" = none
  n_min : mg "min" = none
  n_int : mg "int" = none
  n_bool : mg "bool" = none
  n_str : mg "str" = none
  n_tuple : mg "tuple" = none
  n_range : mg "range" = none
  n_enumerate : mg "enumerate" = none
  n_zip : mg "zip" = none
  mostMoves : ∃ u, mg "MOST_MOVES" = some u ∧ RelV (.int 2000) u
  kinds : ∃ u, mg "KINDS" = some u ∧ RelV (.ref KA) u
  kindsT : ∀ H, SqT K H KA [.str "advance", .str "rollback"]
  g_Net : ∃ u, mg "Net" = some u ∧ RelV (.ref CN) u
  g_Ring : ∃ u, mg "Ring" = some u ∧ RelV (.ref CR) u
  rdN : ClX.CRead K CN mc
  vCounter : ∃ u, ClX.CVal K CN mc "MOST_COUNTER" (.int 999) u
  vCapacity : ∃ u, ClX.CVal K CN mc "MOST_CAPACITY" (.int 999) u
  vStages : ∃ u, ClX.CVal K CN mc "MOST_STAGES" (.int 40) u
  clR : Cls K CR
  naS : NoAttr K CR "stages"
  naC : NoAttr K CR "channels"
  naI : NoAttr K CR "_incoming"
  naO : NoAttr K CR "_outgoing"
  m_incoming : ∃ f fd, Fun K "incoming" "Net.incoming" s_Net_incoming f fd ∧ Meth K CR "incoming" f
  m_outgoing : ∃ f fd, Fun K "outgoing" "Net.outgoing" s_Net_outgoing f fd ∧ Meth K CR "outgoing" f
  m_is_ring : ∃ f fd, Fun K "is_ring" "Ring.is_ring" s_Ring_is_ring f fd ∧ Meth K CR "is_ring" f
  un : WE.UnT K mg CU fU
  xf : XfC K CU
  exm : PySem.W.exmOne K (.ref CU) (.ref CU) = some true
/-! ### types of the domain -/
def chT (caps : List Int) (i : Nat) : Ty := tup [tI (i : Nat), tI (nxN caps.length i : Nat), tI (gi caps i)]
def mvT (m : Mv) : Ty := tup [tI (m.1 : Nat), tS (if m.2 = true then "advance" else "rollback")]
def chansT (caps : List Int) : List Ty := (List.range caps.length).map (chT caps)
def inT (caps : List Int) : List Ty := (List.range caps.length).map fun i => tup [tI (pvN caps.length i : Nat)]
def outT (caps : List Int) : List Ty := (List.range caps.length).map fun i => tup [tI (i : Nat)]
def netF (caps : List Int) : List (Str × Ty) := [("stages", tI (caps.length : Nat)), ("channels", tup (chansT caps)), ("_incoming", tup (inT caps)), ("_outgoing", tup (outT caps))]
def netT (CR : Addr) (caps : List Int) : Ty := ⟨fun v H => ∃ a dx fs, v = .ref a ∧ H a = some (.ins CR dx fs) ∧ (∀ f T, (f, T) ∈ netF caps → ∃ x, fs.lookup f = some x ∧ T.p x H) ∧ ∀ m ∈ (["incoming", "outgoing", "is_ring"] : List Str), fs.lookup m = none,
  fun e ⟨a, dx, fs, h1, h2, h3, h4⟩ => ⟨a, dx, fs, h1, e _ _ h2, fun f T h => let ⟨x, g1, g2⟩ := h3 f T h; ⟨x, g1, T.mono e g2⟩, h4⟩⟩
def tagS : Tag → Str
  | .above => "above"
  | .below => "below"
  | .jammed => "jammed"
  | .orphan => "orphan"
def objT (o : Tag × Nat) : Ty := tup [tS (tagS o.1), tI (o.2 : Nat)]
section
variable {K : PySem.W.Frag} {mg : Str → Option Value} {CR CN CU fU KA : Addr} {mc : Value} {Γ : Cn} {te tb : TE} {T U : Ty}
theorem pfv {X : Cx} (K : PySem.W.Frag) (i : Nat) {x f : Str} {pos pos' : Pos} (hN : X.N[i]? = some x := by rfl) (hv : Vis X.env.scope x := by first | exact Or.inl rfl | exact Or.inr (Or.inl rfl) | exact Or.inr (Or.inr rfl)) (hd : (x == ("__debug__" : Str)) = false := by decide)
    (hcd : (x == ("__classdict__" : Str)) = false := by decide) (hb : attributeBase (.Name x pos) f X.env (eval (.Name x pos) X.env) = eval (.Name x pos) X.env := by rfl) (hK : X.K = K := by rfl) : PE X (.Attribute (.Name x pos) f pos') (tFld K (tVar i) f) := hK ▸ pe_fld (pv i hN hv hd hcd) hb
theorem range_at {α : Type} {n i : Nat} {f : Nat → α} (h : i < n) : ((List.range n).map f)[i]? = some (f i) := by
  rw [List.getElem?_map, List.getElem?_range h]
  rfl
theorem o_ixN {xs : List Int} {j : Nat} (h : j < xs.length) : Op2 (rIxT K) (TN xs) (tI (j : Nat)) (tI (gi xs j)) := o_ixT (Int.natCast_nonneg _) (by
  show (xs.map tI)[j]? = _
  rw [List.getElem?_map, gi_get h]
  rfl)
theorem o_ixR {n j : Nat} {f : Nat → Ty} (h : j < n) : Op2 (rIxT K) (tup ((List.range n).map f)) (tI (j : Nat)) (f j) := o_ixT (Int.natCast_nonneg _) (range_at h)
theorem o_ixRL {n j : Nat} {f : Nat → Ty} (h : j < n) : Op2 (rIxL K) (lst ((List.range n).map f)) (tI (j : Nat)) (f j) := o_ixL (Int.natCast_nonneg _) (range_at h)
theorem o_ixNL {xs : List Int} {j : Nat} (h : j < xs.length) : Op2 (rIxL K) (lst (xs.map tI)) (tI (j : Nat)) (tI (gi xs j)) := o_ixL (Int.natCast_nonneg _) (by
  show (xs.map tI)[j]? = _
  rw [List.getElem?_map, gi_get h]
  rfl)
theorem e_fld {caps : List Int} {f : Str} (h : EvP te Γ (netT CR caps)) (c : Cls K CR) (n : NoAttr K CR f) (hf : (f, T) ∈ netF caps) : EvP (tFld K te f) Γ T := fun S σ H a Q q => h S σ H a _ fun v H1 e ⟨x, dx, fs, h1, h2, h3, h4⟩ =>
  let ⟨y, g1, g2⟩ := h3 f T hf
  ⟨x, CR, dx, fs, y, h1, (hid_some h2).2, c, n, g1, q y H1 e g2⟩
theorem e_stages {caps : List Int} (F : TopF K mg CR CN CU fU KA mc) (h : EvP te Γ (netT CR caps)) : EvP (tFld K te "stages") Γ (tI (caps.length : Nat)) := e_fld h F.clR F.naS (by simp [netF])
theorem e_channels {caps : List Int} (F : TopF K mg CR CN CU fU KA mc) (h : EvP te Γ (netT CR caps)) : EvP (tFld K te "channels") Γ (tup (chansT caps)) := e_fld h F.clR F.naC (by simp [netF])
theorem e_incoming {caps : List Int} (F : TopF K mg CR CN CU fU KA mc) (h : EvP te Γ (netT CR caps)) : EvP (tFld K te "_incoming") Γ (tup (inT caps)) := e_fld h F.clR F.naI (by simp [netF])
theorem e_outgoing {caps : List Int} (F : TopF K mg CR CN CU fU KA mc) (h : EvP te Γ (netT CR caps)) : EvP (tFld K te "_outgoing") Γ (tup (outT caps)) := e_fld h F.clR F.naO (by simp [netF])
theorem e_meth {caps : List Int} {m : Str} {Sg : List Ty → Ty → Prop} {E : XK} {ta : TA} {Ts : List Ty} (h : EvP te Γ (netT CR caps)) (hm : m ∈ (["incoming", "outgoing", "is_ring"] : List Str)) (ha : EaP ta Γ Ts) (s : Sg (netT CR caps :: Ts) T) : EvP (tMeth CR m (SpT Sg) [] E te ta) Γ T := fun S σ H a Q q =>
  h S σ H a _ fun v H1 e1 p1 => by
    obtain ⟨x, dx, fs, h1, h2, h3, h4⟩ := id p1
    refine ⟨x, dx, fs, h1, (hid_some h2).2, h4 m hm, ha S σ H1 (a.ex e1) _ fun vs H2 e2 p2 => ⟨S, _, T, s, (a.ex (e1.trans e2)).live, ?_, fun w H3 e3 p3 => q w H3 ((e1.trans e2).trans e3) p3⟩⟩
    rw [List.append_nil]
    exact .cons ((netT CR caps).mono (ex_hid e2) p1) p2
theorem e_cval {C : Addr} {f : Str} {x : V} {mc : Value} (r : ClX.CRead K C mc) (k : ∃ u, ClX.CVal K C mc f x u) (h : EvP te Γ (tv (.ref C))) : EvP (ClX.tCVal K te f) Γ (tv x) := fun S σ H a Q q => h S σ H a _ fun v H1 e p => by
  obtain ⟨u, k⟩ := k
  exact ⟨C, mc, x, u, p, r, k, q x H1 e rfl⟩
theorem e_ifV {tt : TT} {b : Bool} {x y : V} (h : EtP tt Γ b) (h1 : EvP te Γ (tv x)) (h2 : EvP tb Γ (tv y)) : EvP (tIf tt te tb) Γ (tv (if b = true then x else y)) := e_if h (fun z => by rw [if_pos z]; exact h1) (fun z => by rw [z, if_neg (Bool.false_ne_true)]; exact h2)
theorem c_tuple {ts : List Ty} : CallT (fun xs H Q => ∃ p ys, xs = [.ref p] ∧ ((SqL K H p ys ∧ ∀ l, H l = none → Q (.ref l) (upd H l (.tup ys))) ∨ (SqT K H p ys ∧ Q (.ref p) H))) [lst ts] (tup ts) := fun S H vs l h Q q => by
  cases h with
  | cons a b =>
    cases b
    obtain ⟨p, ws, f1, f2, f3⟩ := a
    exact ⟨p, ws, by rw [f1], .inl ⟨sq_of (hid_some f2).2, fun x hx => q _ _ (Ex.new hx) (new_tup l hx f3)⟩⟩
theorem c_any {bs : List Bool} : CallT (rAny K) [lst (bs.map fun b => tL b)] (tL (bs.any id)) := fun S H vs l h Q q => by
  cases h with
  | cons a b =>
    cases b
    obtain ⟨p, ws, f1, f2, f3⟩ := a
    have e : ∀ {ws : List V} {bs : List Bool}, Ps (hid S H) ws (bs.map fun b => tL b) → ws = bs.map V.bl := by
      intro ws bs
      induction bs generalizing ws with
      | nil =>
        intro h
        cases h
        rfl
      | cons b bs ih =>
        intro h
        cases h with
        | cons x y =>
          rw [show _ = V.bl b from x, ih y]
          rfl
    rw [e f3] at f2
    exact ⟨p, bs, by rw [f1], sq_of (hid_some f2).2, q _ H (Ex.refl H) rfl⟩
theorem chans_at {caps : List Int} {i : Nat} (h : i < caps.length) : (chansT caps)[i]? = some (chT caps i) := range_at h
theorem chans_len (caps : List Int) : (chansT caps).length = caps.length := by simp [chansT]
/-- a def of the module, by its body's types -/
theorem cal_ty {P : Program} {w : World} {base : Heap} {x : Str} {st : Stmt} {N ps : List Str} {k : Nat} {Sg : List Ty → Ty → Prop} (F : ∃ f fd, Fun K x x st f fd ∧ mg x = some (.ref f)) (Sc : FnScope N ps (defScope st)) (len : ∀ Ts T, Sg Ts T → Ts.length = ps.length)
    (hb : ∀ (kV doc pm : Value) (an : Option Addr) (cdv ct : Value) (us : List Value), us.length = ps.length → bindArgs (PySem.W.fnOf x x (defArgs st) (defBody st) (defScope st) .none kV doc pm an cdv ct) ⟨us, []⟩ = pure (ps.zip us))
    (hbody : ∀ (f : Addr) (cdv : Value) (A : Around) (outer : List PySem.Env) (s : Shared) (H : Hp) (E : XK), Room k (A.deeper (envOfC x (defScope st) s.heap.objs.size f cdv)) → ∀ Ts T, Sg Ts T →
      ∃ t, PSs (cxOf CX0 P w K mg base N x (defScope st) f cdv A outer s H E).nox (defBody st) t ∧ BlkR t (st0 N Ts) T) : C8.Cal P w K mg base (k + 1) x (SpT Sg) [] := by
  obtain ⟨f, fd, F, hm⟩ := F
  refine ⟨f, fd, ps, [], F.ok Sc (fun vs H Q E h => ?_) (fun cdv A outer s H vs Q E hr h => ?_), hm, F.kp, F.binds hb, .nil⟩
  · obtain ⟨S, Ts, T, hs, _, hp, _⟩ := h
    rw [hp.len]
    exact len Ts T hs
  · obtain ⟨S, Ts, T, hs, l, hp, q⟩ := h
    obtain ⟨t, ht, hk⟩ := hbody f cdv A outer s H E hr Ts T hs
    exact ⟨t, ht, hk S _ _ H (at_start l hp) q⟩
theorem met_ty {P : Program} {w : World} {base : Heap} {m qual : Str} {C : Addr} {st : Stmt} {N ps : List Str} {k : Nat} {Sg : List Ty → Ty → Prop} (c : Cls K C) (F : ∃ f fd, Fun K m qual st f fd ∧ Meth K C m f) (Sc : FnScope N ps (defScope st)) (len : ∀ Ts T, Sg Ts T → Ts.length = ps.length)
    (hb : ∀ (kV doc pm : Value) (an : Option Addr) (cdv ct : Value) (us : List Value), us.length = ps.length → bindArgs (PySem.W.fnOf m qual (defArgs st) (defBody st) (defScope st) .none kV doc pm an cdv ct) ⟨us, []⟩ = pure (ps.zip us))
    (hbody : ∀ (f : Addr) (cdv : Value) (A : Around) (outer : List PySem.Env) (s : Shared) (H : Hp) (E : XK), Room k (A.deeper (envOfC qual (defScope st) s.heap.objs.size f cdv)) → ∀ Ts T, Sg Ts T →
      ∃ t, PSs (cxOf CX0 P w K mg base N qual (defScope st) f cdv A outer s H E).nox (defBody st) t ∧ BlkR t (st0 N Ts) T) : C8.Met P w K mg base (k + 1) C m (SpT Sg) [] := by
  obtain ⟨f, fd, F, hm⟩ := F
  refine ⟨f, fd, ps, [], c, hm, F.ok Sc (fun vs H Q E h => ?_) (fun cdv A outer s H vs Q E hr h => ?_), F.binds hb, .nil⟩
  · obtain ⟨S, Ts, T, hs, _, hp, _⟩ := h
    rw [hp.len]
    exact len Ts T hs
  · obtain ⟨S, Ts, T, hs, l, hp, q⟩ := h
    obtain ⟨t, ht, hk⟩ := hbody f cdv A outer s H E hr Ts T hs
    exact ⟨t, ht, hk S _ _ H (at_start l hp) q⟩
end
end WB

set_option Elab.async false
set_option linter.all false
set_option maxRecDepth 100000
set_option maxHeartbeats 3900000
namespace WD
open PySem PySem.Spec PyProof.Rows L2 Evl WT WM WB
section
variable {K : PySem.W.Frag} {S : List Addr} {Γ Γ' : Cn} {σ : L2.St} {H : Hp} {D : Ends} {te ta : TE} {tt : TT} {tu tw tz : TS} {T U W : Ty} {b : Bool}
theorem b_asgT {i j : Nat} (he : EvP te Γ (tup [T, U])) (k : BlkR tz ((Γ.set i (some T)).set j (some U)) W) : BlkR (tSeq (tAsg te (gTup K 2 (gCons (gName i) (gCons (gName j) gNil)))) tz) Γ W := fun S D σ H a q =>
  he S σ H a _ fun v H1 e p => g_pair S v σ H1 _ (a.ex e) p fun σ' _ _ a' => k S D σ' H1 a' fun w H2 e2 p2 => q w H2 (e.trans e2) p2
end
section
variable {w : World} {P : Program} {K : PySem.W.Frag} {mg : Str → Option Value} {base : Heap} {CR CN CU fU KA : Addr} {mc : Value}
abbrev Sig := List Ty → Ty → Prop
def Sg_is_integer : Sig := fun Ts T => ∃ n : Int, Ts = [tI n] ∧ T = tL true
theorem cal_is_integer (F : TopF K mg CR CN CU fU KA mc) : C8.Cal P w K mg base 1 "is_integer" (SpT Sg_is_integer) [] := by
  refine cal_ty (k := 0) F.d_is_integer sc_is_integer (fun Ts T h => by obtain ⟨n, rfl, rfl⟩ := h; rfl) (fun _ _ _ _ _ _ us hl => match us, hl with | [_], _ => rfl) fun f cdv A outer s_ H_ E_ hr Ts T hs => ?_
  obtain ⟨n, rfl, rfl⟩ := hs
  refine ⟨_, (pss_one (ps_ret (pe_and (pe_callB (kisi K) (by rfl) F.n_isinstance b_isinstance (pa_cons (pv 0) (pa_cons (pe_bltn (v := .ty "int") (by rfl) F.n_int b_int rfl) pa_nil))) (pe_one (pe_not (pe_callB (kisi K) (by rfl) F.n_isinstance b_isinstance (pa_cons (pv 0) (pa_cons (pe_bltn (v := .ty "bool") (by rfl) F.n_bool b_bool rfl) pa_nil)))))))), ?_⟩
  exact b_ret (e_andV (b := true) (c := true) (e_cb (a_cons (e_var rfl) (a_cons e_c a_nil)) (c_isi ty_int (by decide +kernel))) fun _ => e_notV (b := false) (e_cb (a_cons (e_var rfl) (a_cons e_c a_nil)) (c_isi ty_int (by decide +kernel))))
def Sg_check_number : Sig := fun Ts T => ∃ i n : Nat, Ts = [tI i, tI n] ∧ T = tI i ∧ i < n
theorem cal_check_number (F : TopF K mg CR CN CU fU KA mc) : C8.Cal P w K mg base 2 "check_number" (SpT Sg_check_number) [] := by
  refine cal_ty (k := 1) F.d_check_number sc_check_number (fun Ts T h => by obtain ⟨i, n, rfl, rfl, h⟩ := h; rfl) (fun _ _ _ _ _ _ us hl => match us, hl with | [_, _], _ => rfl) fun f cdv A outer s_ H_ E_ hr Ts T hs => ?_
  obtain ⟨i, n, rfl, rfl, h⟩ := hs
  refine ⟨_, (pss_cons (ps_if (pw_or (pt_not (pt_val (C8.pe_c (cal_is_integer F) hr (by decide) (by rfl) (pa_cons (pv 0) pa_nil)))) (pw_or1 (pt_not (pt_chain op_le op_lt pe_int (pv 0) (pv 1))))).pt (pss_one ps_never) pss_nil)
      (pss_one (ps_ret (pv 0)))), ?_⟩
  exact b_no (t_is (t_or (t_not (t_B (e_call (a_cons (e_var rfl) a_nil) ⟨_, rfl, rfl⟩))) fun _ => t_not (t_test (e_chain e_c (e_var rfl) (e_var rfl) o_I0 o_I0))) (by simp; omega)) (b_ret (e_var rfl))
def Sg_incoming (CR : Addr) : Sig := fun Ts T => ∃ (caps : List Int) (i : Nat), Ts = [netT CR caps, tI i] ∧ T = tup [tI (pvN caps.length i : Nat)] ∧ i < caps.length
theorem met_incoming (F : TopF K mg CR CN CU fU KA mc) : C8.Met P w K mg base 3 CR "incoming" (SpT (Sg_incoming CR)) [] := by
  refine met_ty (k := 2) F.clR F.m_incoming sc_Net_incoming (fun Ts T h => by obtain ⟨caps, i, rfl, rfl, h⟩ := h; rfl) (fun _ _ _ _ _ _ us hl => match us, hl with | [_, _], _ => rfl) fun f cdv A outer s_ H_ E_ hr Ts T hs => ?_
  obtain ⟨caps, i, rfl, rfl, h⟩ := hs
  refine ⟨_, (pss_one (ps_ret (pe_ix (kixT K) (pfv K 0) (C8.pe_c (cal_check_number F) hr (by decide) (by rfl) (pa_cons (pv 1) (pa_cons (pfv K 0) pa_nil))) (fun _ _ => rfl)))), ?_⟩
  exact b_ret (e_op (e_incoming F (e_var rfl)) (e_call (a_cons (e_var rfl) (a_cons (e_stages F (e_var rfl)) a_nil)) ⟨i, _, rfl, rfl, h⟩) (o_ixR h))
def Sg_outgoing (CR : Addr) : Sig := fun Ts T => ∃ (caps : List Int) (i : Nat), Ts = [netT CR caps, tI i] ∧ T = tup [tI (i : Nat)] ∧ i < caps.length
theorem met_outgoing (F : TopF K mg CR CN CU fU KA mc) : C8.Met P w K mg base 3 CR "outgoing" (SpT (Sg_outgoing CR)) [] := by
  refine met_ty (k := 2) F.clR F.m_outgoing sc_Net_outgoing (fun Ts T h => by obtain ⟨caps, i, rfl, rfl, h⟩ := h; rfl) (fun _ _ _ _ _ _ us hl => match us, hl with | [_, _], _ => rfl) fun f cdv A outer s_ H_ E_ hr Ts T hs => ?_
  obtain ⟨caps, i, rfl, rfl, h⟩ := hs
  refine ⟨_, (pss_one (ps_ret (pe_ix (kixT K) (pfv K 0) (C8.pe_c (cal_check_number F) hr (by decide) (by rfl) (pa_cons (pv 1) (pa_cons (pfv K 0) pa_nil))) (fun _ _ => rfl)))), ?_⟩
  exact b_ret (e_op (e_outgoing F (e_var rfl)) (e_call (a_cons (e_var rfl) (a_cons (e_stages F (e_var rfl)) a_nil)) ⟨i, _, rfl, rfl, h⟩) (o_ixR h))
def Sg_is_ring (CR : Addr) : Sig := fun Ts T => ∃ (caps : List Int), Ts = [netT CR caps] ∧ T = tL true
theorem met_is_ring (F : TopF K mg CR CN CU fU KA mc) : C8.Met P w K mg base 1 CR "is_ring" (SpT (Sg_is_ring CR)) [] := by
  refine met_ty (k := 0) F.clR F.m_is_ring sc_Ring_is_ring (fun Ts T h => by obtain ⟨caps, rfl, rfl⟩ := h; rfl) (fun _ _ _ _ _ _ us hl => match us, hl with | [_], _ => rfl) fun f cdv A outer s_ H_ E_ hr Ts T hs => ?_
  obtain ⟨caps, rfl, rfl⟩ := hs
  refine ⟨_, (pss_one (ps_ret pe_bl)), ?_⟩
  exact b_ret e_c
def Sg_load_of : Sig := fun Ts T => ∃ (caps s : List Int) (i : Nat), Ts = [chT caps i, TN s] ∧ T = tI (ld caps.length s i) ∧ i < caps.length ∧ Shape caps s s
theorem cal_load_of (F : TopF K mg CR CN CU fU KA mc) : C8.Cal P w K mg base 1 "load_of" (SpT Sg_load_of) [] := by
  refine cal_ty (k := 0) F.d_load_of sc_load_of (fun Ts T h => by obtain ⟨caps, s, i, rfl, rfl, h, S⟩ := h; rfl) (fun _ _ _ _ _ _ us hl => match us, hl with | [_, _], _ => rfl) fun f cdv A outer s_ H_ E_ hr Ts T hs => ?_
  obtain ⟨caps, s, i, rfl, rfl, h, S⟩ := hs
  refine ⟨_, (pss_one (ps_ret (pe_op op_sub (pe_ix (kixT K) (pv 1) (pe_ix (kixT K) (pv 0) pe_int (fun _ _ => rfl)) (fun _ _ => rfl)) (pe_ix (kixT K) (pv 1) (pe_ix (kixT K) (pv 0) pe_int (fun _ _ => rfl)) (fun _ _ => rfl))))), ?_⟩
  have h1 : i < s.length := by rw [S.ls]; exact h
  have h2 : nxN caps.length i < s.length := by rw [S.ls]; exact nxN_lt S.big i
  exact b_ret (e_op (e_op (e_var rfl) (e_op (e_var rfl) e_c (o_ixT (by decide) rfl)) (o_ixN h1)) (e_op (e_var rfl) (e_op (e_var rfl) e_c (o_ixT (by decide) rfl)) (o_ixN h2)) o_I0)
def Sg_is_owing : Sig := fun Ts T => ∃ (caps s : List Int) (i : Nat), Ts = [chT caps i, TN s] ∧ T = tL (oweB caps.length s i) ∧ i < caps.length ∧ Shape caps s s
theorem cal_is_owing (F : TopF K mg CR CN CU fU KA mc) : C8.Cal P w K mg base 2 "is_owing" (SpT Sg_is_owing) [] := by
  refine cal_ty (k := 1) F.d_is_owing sc_is_owing (fun Ts T h => by obtain ⟨caps, s, i, rfl, rfl, h, S⟩ := h; rfl) (fun _ _ _ _ _ _ us hl => match us, hl with | [_, _], _ => rfl) fun f cdv A outer s_ H_ E_ hr Ts T hs => ?_
  obtain ⟨caps, s, i, rfl, rfl, h, S⟩ := hs
  refine ⟨_, (pss_one (ps_ret (pe_cmpR op_lt (C8.pe_c (cal_load_of F) hr (by decide) (by rfl) (pa_cons (pv 0) (pa_cons (pv 1) pa_nil))) pe_int (nomark _)))), ?_⟩
  exact b_ret (e_op (e_call (a_cons (e_var rfl) (a_cons (e_var rfl) a_nil)) ⟨caps, s, i, rfl, rfl, h, S⟩) e_c o_I0)
def Sg_is_jammed : Sig := fun Ts T => ∃ (caps s : List Int) (i : Nat), Ts = [chT caps i, TN s] ∧ T = tL (jamB caps s i) ∧ i < caps.length ∧ Shape caps s s
theorem cal_is_jammed (F : TopF K mg CR CN CU fU KA mc) : C8.Cal P w K mg base 2 "is_jammed" (SpT Sg_is_jammed) [] := by
  refine cal_ty (k := 1) F.d_is_jammed sc_is_jammed (fun Ts T h => by obtain ⟨caps, s, i, rfl, rfl, h, S⟩ := h; rfl) (fun _ _ _ _ _ _ us hl => match us, hl with | [_, _], _ => rfl) fun f cdv A outer s_ H_ E_ hr Ts T hs => ?_
  obtain ⟨caps, s, i, rfl, rfl, h, S⟩ := hs
  refine ⟨_, (pss_one (ps_ret (pe_cmpR op_gt (C8.pe_c (cal_load_of F) hr (by decide) (by rfl) (pa_cons (pv 0) (pa_cons (pv 1) pa_nil))) (pe_ix (kixT K) (pv 0) pe_int (fun _ _ => rfl)) (nomark _)))), ?_⟩
  exact b_ret (e_op (e_call (a_cons (e_var rfl) (a_cons (e_var rfl) a_nil)) ⟨caps, s, i, rfl, rfl, h, S⟩) (e_op (e_var rfl) e_c (o_ixT (by decide) rfl)) o_I0)
def Sg_is_ready : Sig := fun Ts T => ∃ (caps s : List Int) (i : Nat), Ts = [chT caps i, TN s] ∧ T = tL (readyL caps s i) ∧ i < caps.length ∧ Shape caps s s
theorem cal_is_ready (F : TopF K mg CR CN CU fU KA mc) : C8.Cal P w K mg base 2 "is_ready" (SpT Sg_is_ready) [] := by
  refine cal_ty (k := 1) F.d_is_ready sc_is_ready (fun Ts T h => by obtain ⟨caps, s, i, rfl, rfl, h, S⟩ := h; rfl) (fun _ _ _ _ _ _ us hl => match us, hl with | [_, _], _ => rfl) fun f cdv A outer s_ H_ E_ hr Ts T hs => ?_
  obtain ⟨caps, s, i, rfl, rfl, h, S⟩ := hs
  refine ⟨_, (pss_one (ps_ret (pe_chain op_le op_le pe_int (C8.pe_c (cal_load_of F) hr (by decide) (by rfl) (pa_cons (pv 0) (pa_cons (pv 1) pa_nil))) (pe_ix (kixT K) (pv 0) pe_int (fun _ _ => rfl))))), ?_⟩
  exact b_ret (e_chain e_c (e_call (a_cons (e_var rfl) (a_cons (e_var rfl) a_nil)) ⟨caps, s, i, rfl, rfl, h, S⟩) (e_op (e_var rfl) e_c (o_ixT (by decide) rfl)) o_I0 o_I0)
theorem adv_true : decide (V.str "advance" = V.str "advance") = true := by decide
theorem adv_false : decide (V.str "rollback" = V.str "advance") = false := by decide
def kindS (b : Bool) : Str := if b = true then "advance" else "rollback"
theorem kind_dec (b : Bool) : decide (V.str (if b = true then ("advance" : Str) else "rollback") = V.str "advance") = b := by
  cases b
  · exact adv_false
  · exact adv_true
def Sg_side (CR : Addr) : Sig := fun Ts T => ∃ (caps : List Int) (m : Mv), Ts = [netT CR caps, mvT m] ∧ T = tup [tI (sideM caps.length m : Nat)] ∧ m.1 < caps.length
theorem cal_side (F : TopF K mg CR CN CU fU KA mc) : C8.Cal P w K mg base 4 "side" (SpT (Sg_side CR)) [] := by
  refine cal_ty (k := 3) F.d_side sc_side (fun Ts T h => by obtain ⟨caps, m, rfl, rfl, h⟩ := h; rfl) (fun _ _ _ _ _ _ us hl => match us, hl with | [_, _], _ => rfl) fun f cdv A outer s_ H_ E_ hr Ts T hs => ?_
  obtain ⟨caps, m, rfl, rfl, h⟩ := hs
  refine ⟨_, (pss_cons (ps_if (pt_cmpR op_eq (pe_ix (kixT K) (pv 1) pe_int (fun _ _ => rfl)) pe_str (nomark _)) (pss_one (ps_ret (C8.pe_mt (met_incoming F) hr (by decide) (pv 0) (pa_cons (pe_ix (kixT K) (pv 1) pe_int (fun _ _ => rfl)) pa_nil)))) pss_nil)
      (pss_one (ps_ret (C8.pe_mt (met_outgoing F) hr (by decide) (pv 0) (pa_cons (pe_ix (kixT K) (pv 1) pe_int (fun _ _ => rfl)) pa_nil))))), ?_⟩
  refine b_if (b := m.2) (t_is (t_test (e_op (e_op (e_var rfl) e_c (o_ixT (by decide) rfl)) e_c (o_eq rfl))) (kind_dec m.2)) (fun hb => ?_) (fun hb => ?_)
  · refine b_ret (e_meth (e_var rfl) (by simp) (a_cons (e_op (e_var rfl) e_c (o_ixT (by decide) rfl)) a_nil) ⟨caps, m.1, rfl, ?_, h⟩)
    unfold sideM
    rw [if_pos hb]
  · refine b_ret (e_meth (e_var rfl) (by simp) (a_cons (e_op (e_var rfl) e_c (o_ixT (by decide) rfl)) a_nil) ⟨caps, m.1, rfl, ?_, h⟩)
    unfold sideM
    rw [hb, if_neg (Bool.false_ne_true)]
theorem side_lt {caps s : List Int} {m : Mv} (S : Shape caps s s) (h : m.1 < caps.length) : sideM caps.length m < caps.length := by
  unfold sideM
  split
  · exact pvN_lt S.big _
  · exact h
def Sg_unready (CR : Addr) : Sig := fun Ts T => ∃ (caps s : List Int) (m : Mv), Ts = [netT CR caps, TN s, mvT m] ∧ T = tup (given 1 (fun _ => !okM caps s m) fun _ => tI (sideM caps.length m : Nat)) ∧ m.1 < caps.length ∧ Shape caps s s
theorem cal_unready (F : TopF K mg CR CN CU fU KA mc) : C8.Cal P w K mg base 5 "unready" (SpT (Sg_unready CR)) [] := by
  refine cal_ty (k := 4) F.d_unready sc_unready (fun Ts T h => by obtain ⟨caps, s, m, rfl, rfl, h, S⟩ := h; rfl) (fun _ _ _ _ _ _ us hl => match us, hl with | [_, _, _], _ => rfl) fun f cdv A outer s_ H_ E_ hr Ts T hs => ?_
  obtain ⟨caps, s, m, rfl, rfl, h, S⟩ := hs
  refine ⟨_, (pss_one (ps_ret (pe_callTy (ktuple K) (by rfl) F.n_tuple b_tuple (pa_cons (pe_lc (own := [("number", 3)]) (g := gName 3) rfl sc_unready.nd (kpiT K (C8.pe_c (cal_side F) hr (by decide) (by rfl) (pa_cons (pv 0) (pa_cons (pv 2) pa_nil)))) (blkOk_by (N := ["net", "state", "move", "number"]) (sc := defScope s_unready) (by decide +kernel)) (fun _ _ _ _ _ => (pg_name (i := 3) sc_unready.nd rfl (Or.inl rfl))) (fun _ _ _ _ _ => (pts_one (pt_not (pt_val (C8.pe_c (cal_is_ready F) hr (by decide) (by rfl) (pa_cons (pe_ix (kixT K) (pfv K 0) (pv 3) (fun _ _ => rfl)) (pa_cons (pv 1) pa_nil))))))) (fun _ _ _ _ _ => (pv 3))) pa_nil)))), ?_⟩
  refine b_ret (e_cb (a_cons (e_lc (Γs := fun _ => [some (netT CR caps), some (TN s), some (mvT m), some (tI (sideM caps.length m : Nat))]) (i_tup (e_call (a_cons (e_var rfl) (a_cons (e_var rfl) a_nil)) ⟨caps, m, rfl, rfl, h⟩) rfl (fun i hi => ?_)) (fun i hi => g_name) (by decide)
    (fun i hi => t_not (t_B (e_call (a_cons (e_op (e_channels F (e_var rfl)) (e_var rfl) (o_ixR (side_lt S h))) (a_cons (e_var rfl) a_nil)) ⟨caps, s, _, rfl, rfl, side_lt S h, S⟩))) (fun i hi _ => e_var rfl) (show 1 ≤ 40000 by decide)) a_nil) c_tuple)
  have e : i = 0 := by
    have z : i < 1 := hi
    omega
  subst e
  rfl
def Sg_is_allowed (CR : Addr) : Sig := fun Ts T => ∃ (caps s : List Int) (m : Mv), Ts = [netT CR caps, TN s, mvT m] ∧ T = tL (okM caps s m) ∧ m.1 < caps.length ∧ Shape caps s s
theorem cal_is_allowed (F : TopF K mg CR CN CU fU KA mc) : C8.Cal P w K mg base 6 "is_allowed" (SpT (Sg_is_allowed CR)) [] := by
  refine cal_ty (k := 5) F.d_is_allowed sc_is_allowed (fun Ts T h => by obtain ⟨caps, s, m, rfl, rfl, h, S⟩ := h; rfl) (fun _ _ _ _ _ _ us hl => match us, hl with | [_, _, _], _ => rfl) fun f cdv A outer s_ H_ E_ hr Ts T hs => ?_
  obtain ⟨caps, s, m, rfl, rfl, h, S⟩ := hs
  refine ⟨_, (pss_one (ps_ret (pe_and (pe_cmpR op_gt (pe_callB (klen K) (by rfl) F.n_len b_len (pa_cons (C8.pe_c (cal_side F) hr (by decide) (by rfl) (pa_cons (pv 0) (pa_cons (pv 2) pa_nil))) pa_nil)) pe_int (nomark _)) (pe_one (pe_cmpR op_eq (pe_callB (klen K) (by rfl) F.n_len b_len (pa_cons (C8.pe_c (cal_unready F) hr (by decide) (by rfl) (pa_cons (pv 0) (pa_cons (pv 1) (pa_cons (pv 2) pa_nil)))) pa_nil)) pe_int (nomark _)))))), ?_⟩
  refine b_ret (e_is (e_andV (e_op (e_cb (a_cons (e_call (a_cons (e_var rfl) (a_cons (e_var rfl) a_nil)) ⟨caps, m, rfl, rfl, h⟩) a_nil) c_lenT) e_c o_I0)
    (fun _ => e_op (e_cb (a_cons (e_call (a_cons (e_var rfl) (a_cons (e_var rfl) (a_cons (e_var rfl) a_nil))) ⟨caps, s, m, rfl, rfl, h, S⟩) a_nil) c_lenT) e_c (o_eq rfl))) ?_)
  cases okM caps s m <;> rfl
end
end WD

set_option Elab.async false
set_option linter.all false
set_option maxRecDepth 100000
set_option maxHeartbeats 3900000
namespace WM
/-! more of the plain law: runs of moves, plans -/
def freeB (caps s t : List Int) : Bool := (objs caps s t).isEmpty
theorem freeB_iff {caps s t : List Int} : freeB caps s t = true ↔ Free caps s t := by
  unfold freeB Free
  exact List.isEmpty_iff
def runL (s : List Int) (ms : List Mv) : List Int := ms.foldl aftM s
theorem runL_snoc (s : List Int) (ms : List Mv) (m : Mv) : runL s (ms ++ [m]) = aftM (runL s ms) m := by
  unfold runL
  rw [List.foldl_append]
  rfl
theorem runL_len (s : List Int) : ∀ ms : List Mv, (runL s ms).length = s.length
  | [] => rfl
  | m :: ms => by
    show (runL (aftM s m) ms).length = _
    rw [runL_len _ ms, aftM_len]
def hdM (caps s t : List Int) : Mv := (firstOf caps s t).headD (0, true)
def prs (caps t : List Int) (s : List Int) : Nat → List Int
  | 0 => s
  | i + 1 => aftM (prs caps t s i) (hdM caps (prs caps t s i) t)
def mvAt (caps t s : List Int) (i : Nat) : Mv := hdM caps (prs caps t s i) t
def planL (caps s t : List Int) : List Mv := (List.range (gapL s t).toNat).map (mvAt caps t s)
theorem prs_len (caps t s : List Int) : ∀ i, (prs caps t s i).length = s.length
  | 0 => rfl
  | i + 1 => by
    show (aftM _ _).length = _
    rw [aftM_len, prs_len caps t s i]
theorem hdM_mem {caps s t : List Int} (S : Shape caps s t) (hc : CapsOk caps) (N : Free caps s t) (ne : s ≠ t) : hdM caps s t ∈ firstOf caps s t := by
  obtain ⟨m, hm⟩ := first_some S hc N ne
  unfold hdM
  cases e : firstOf caps s t with
  | nil =>
    rw [e] at hm
    cases hm
  | cons x xs => exact List.mem_cons_self
theorem prs_ok {caps s t : List Int} (S : Shape caps s t) (hc : CapsOk caps) (N : Free caps s t) : ∀ i, i ≤ (gapL s t).toNat → Free caps (prs caps t s i) t ∧ gapL (prs caps t s i) t + i = gapL s t
  | 0, _ => ⟨N, by show gapL s t + 0 = _; omega⟩
  | i + 1, h => by
    obtain ⟨h1, h2⟩ := prs_ok S hc N i (by omega)
    have Si : Shape caps (prs caps t s i) t := ⟨S.big, by rw [prs_len]; exact S.ls, S.lt⟩
    have ne : prs caps t s i ≠ t := fun e => by
      rw [e, gapL_self] at h2
      omega
    obtain ⟨a1, a2, a3, a4⟩ := first_ok Si h1 (hdM_mem Si hc h1 ne)
    refine ⟨a3, ?_⟩
    show gapL (aftM _ _) t + ((i + 1 : Nat) : Int) = _
    rw [Int.natCast_add]
    have e : ((1 : Nat) : Int) = 1 := rfl
    omega
theorem prs_first {caps s t : List Int} (S : Shape caps s t) (hc : CapsOk caps) (N : Free caps s t) {i : Nat} (h : i < (gapL s t).toNat) : mvAt caps t s i ∈ firstOf caps (prs caps t s i) t := by
  obtain ⟨h1, h2⟩ := prs_ok S hc N i (by omega)
  have Si : Shape caps (prs caps t s i) t := ⟨S.big, by rw [prs_len]; exact S.ls, S.lt⟩
  refine hdM_mem Si hc h1 fun e => ?_
  rw [e, gapL_self] at h2
  omega
theorem prs_end {caps s t : List Int} (S : Shape caps s t) (hc : CapsOk caps) (N : Free caps s t) : prs caps t s (gapL s t).toNat = t := by
  obtain ⟨h1, h2⟩ := prs_ok S hc N _ (Nat.le_refl _)
  have nn := gapL_nn s t
  exact gapL_zero (by rw [prs_len, S.ls, S.lt]) (by omega)
theorem planL_len (caps s t : List Int) : (planL caps s t).length = (gapL s t).toNat := by simp [planL]
theorem planL_at {caps s t : List Int} {i : Nat} (h : i < (gapL s t).toNat) : (planL caps s t)[i]? = some (mvAt caps t s i) := by
  unfold planL
  rw [List.getElem?_map, List.getElem?_range h]
  rfl
theorem planL_take {caps s t : List Int} : ∀ i, i ≤ (gapL s t).toNat → runL s ((planL caps s t).take i) = prs caps t s i
  | 0, _ => rfl
  | i + 1, h => by
    rw [List.take_add_one, planL_at (by omega)]
    show runL s (_ ++ [_]) = _
    rw [runL_snoc, planL_take i (by omega)]
    rfl
theorem range_getD {α : Type} (l : List α) (d : α) : (List.range l.length).map (fun i => l.getD i d) = l := by
  apply List.ext_getElem?
  intro i
  rw [List.getElem?_map]
  by_cases h : i < l.length
  · rw [List.getElem?_range h, List.getElem?_eq_getElem h]
    simp [List.getD_eq_getElem?_getD, List.getElem?_eq_getElem h]
  · rw [List.getElem?_eq_none (by simp; omega), List.getElem?_eq_none (by omega)]
    rfl
theorem gap_range {s t : List Int} (h : s.length = t.length) : (List.range s.length).map (fun i => absI (gi t i - gi s i)) = (s.zip t).map fun p => absI (p.2 - p.1) := by
  apply List.ext_getElem?
  intro i
  simp only [List.getElem?_map]
  by_cases hi : i < s.length
  · rw [List.getElem?_range hi, List.getElem?_zip_eq_some (z := (gi s i, gi t i)) |>.mpr ⟨gi_get hi, gi_get (h ▸ hi)⟩]
    rfl
  · rw [List.getElem?_eq_none (by simp; omega), List.getElem?_eq_none (by simp; omega)]
    rfl
end WM
namespace WD
open PySem PySem.Spec PyProof.Rows L2 Evl WT WM WB
theorem given_list {α : Type} (l : List α) (d : α) (f : α → Bool) (u : α → Ty) : WT.given l.length (fun i => f (l.getD i d)) (fun i => u (l.getD i d)) = (l.filter f).map u := by
  have e := WM.range_getD l d
  unfold WT.given
  conv => rhs; rw [← e]
  rw [List.filter_map, List.map_map]
  rfl
theorem list_at {α : Type} {l : List α} {d : α} {u : α → Ty} {i : Nat} (h : i < l.length) : (l.map u)[i]? = some (u (l.getD i d)) := by
  rw [List.getElem?_map, List.getElem?_eq_getElem h]
  simp [List.getD_eq_getElem?_getD, List.getElem?_eq_getElem h]
theorem tn_at {xs : List Int} {i : Nat} (h : i < xs.length) : (xs.map tI)[i]? = some (tI (gi xs i)) := by
  rw [List.getElem?_map, gi_get h]
  rfl
theorem maxI_eq (xs : List Int) : WR.maxI xs = maxL xs := by
  cases xs with
  | nil => rfl
  | cons x xs =>
    show xs.foldl _ x = xs.foldl _ x
    congr 1
    funext a y
    have e : PySem.W.DatumOrd.lt a y = decide (a < y) := rfl
    rw [e]
    by_cases h : a < y <;> simp [h]
theorem minI_eq (xs : List Int) : WR.minI xs = minL xs := by
  cases xs with
  | nil => rfl
  | cons x xs =>
    show xs.foldl _ x = xs.foldl _ x
    congr 1
    funext a y
    have e : PySem.W.DatumOrd.lt y a = decide (y < a) := rfl
    rw [e]
    by_cases h : y < a <;> simp [h]
section
variable {w : World} {P : Program} {K : PySem.W.Frag} {mg : Str → Option Value} {base : Heap} {CR CN CU fU KA : Addr} {mc : Value}
theorem is_tup {ts : List Ty} : CallT (rIsi K) [tup ts, tv (.ty "tuple")] (tL true) := c_isi ty_tup (by decide +kernel)
theorem is_int {i : Int} : CallT (rIsi K) [tI i, tv (.ty "int")] (tL true) := c_isi ty_int (by decide +kernel)
theorem is_str {x : Str} : CallT (rIsi K) [tS x, tv (.ty "str")] (tL true) := c_isi ty_str (by decide +kernel)
theorem is_bl {b : Bool} : CallT (rIsi K) [tL b, tv (.ty "bool")] (tL true) := c_isi ty_bl (by decide +kernel)
theorem is_nbl {i : Int} : CallT (rIsi K) [tI i, tv (.ty "bool")] (tL false) := c_isi ty_int (by decide +kernel)
theorem o_kinds (F : TopF K mg CR CN CU fU KA mc) (b : Bool) : Op2 (rIn K false) (tS (if b = true then "advance" else "rollback")) (tv (.ref KA)) (tL true) := fun S H x y l p1 p2 Q q => by
  rw [show x = V.str _ from p1, show y = V.ref KA from p2]
  refine ⟨KA, _, rfl, .inr (F.kindsT H), rfl, rfl, q _ H (Ex.refl H) ?_⟩
  show V.bl (if false = true then _ else inV _ _) = V.bl true
  cases b <;> rfl
def Sg_after : Sig := fun Ts T => ∃ (s : List Int) (m : Mv), Ts = [TN s, mvT m] ∧ T = TN (aftM s m) ∧ m.1 < s.length ∧ s.length ≤ 100
theorem cal_after (F : TopF K mg CR CN CU fU KA mc) : C8.Cal P w K mg base 1 "after" (SpT Sg_after) [] := by
  refine cal_ty (k := 0) F.d_after sc_after (fun Ts T h => by obtain ⟨s, m, rfl, rfl, h, hz⟩ := h; rfl) (fun _ _ _ _ _ _ us hl => match us, hl with | [_, _], _ => rfl) fun f cdv A outer s_ H_ E_ hr Ts T hs => ?_
  obtain ⟨s, m, rfl, rfl, h, hz⟩ := hs
  refine ⟨_, (pss_cons (ps_asg (pv 1) (pg_tup rfl (pgs_cons (pg_name (i := 2) sc_after.nd rfl (Or.inl rfl)) (pgs_cons (pg_name (i := 3) sc_after.nd rfl (Or.inl rfl)) pgs_nil))))
      (pss_cons (ps_set (i := 4) sc_after.nd rfl (Or.inl rfl) (pe_ifExp (pt_cmpR op_eq (pv 3) pe_str (nomark _)) (pe_op op_add (pe_ix (kixT K) (pv 0) (pv 2) (fun _ _ => rfl)) pe_int) (pe_op op_sub (pe_ix (kixT K) (pv 0) (pv 2) (fun _ _ => rfl)) pe_int)))
      (pss_one (ps_ret (pe_op (kcatT K) (pe_op (kcatT K) (pe_slice (kslT K) (pv 0) po_none (po_some (pv 2))) (pe_tup (pa_cons (pv 4) pa_nil))) (pe_slice (kslT K) (pv 0) (po_some (pe_op op_add (pv 2) pe_int)) po_none)))))), ?_⟩
  refine b_asgT (e_var rfl) (b_asg (T := tI (newC s m)) (e_is (e_ifV (t_is (t_test (e_op (e_var rfl) e_c (o_eq rfl))) (kind_dec m.2)) (e_op (e_op (e_var rfl) (e_var rfl) (o_ixN h)) e_c o_I0) (e_op (e_op (e_var rfl) (e_var rfl) (o_ixN h)) e_c o_I0)) ?_)
    (b_ret (e_is (e_op (e_op (e_slT (us := (s.map tI).take m.1) (e_var rfl) o_none (o_some (e_var rfl)) ?_) (e_tup (a_cons (e_var rfl) a_nil) (by simp)) (o_catT ?_)) (e_slT (us := (s.map tI).drop (m.1 + 1)) (e_var rfl) (o_some (e_op (e_var rfl) e_c o_I0)) o_none ?_) (o_catT ?_)) ?_)))
  · unfold newC
    cases m.2 <;> rfl
  · rw [HT.sIx_none, HT.sIx_nat, List.length_map, Nat.sub_zero, List.drop_zero, Nat.min_eq_left (Nat.le_of_lt h)]
  · simp
    omega
  · have e : (some (((m.1 : Nat) : Int) + 1)) = some (((m.1 + 1 : Nat)) : Int) := by rw [Int.natCast_add]; rfl
    rw [e, HT.sIx_none, HT.sIx_nat, List.length_map, Nat.min_eq_left (by omega)]
    rw [List.take_of_length_le]
    simp
  · simp
    omega
  · rw [← aftM_cut h]
    show tup _ = tup (List.map tI _)
    rw [List.map_append, List.map_append, List.map_take, List.map_drop]
    rfl
def Sg_is_move (CR : Addr) : Sig := fun Ts T => ∃ (caps : List Int) (m : Mv), Ts = [netT CR caps, mvT m] ∧ T = tL true ∧ m.1 < caps.length
theorem cal_is_move (F : TopF K mg CR CN CU fU KA mc) : C8.Cal P w K mg base 2 "is_move" (SpT (Sg_is_move CR)) [] := by
  refine cal_ty (k := 1) F.d_is_move sc_is_move (fun Ts T h => by obtain ⟨caps, m, rfl, rfl, h⟩ := h; rfl) (fun _ _ _ _ _ _ us hl => match us, hl with | [_, _], _ => rfl) fun f cdv A outer s_ H_ E_ hr Ts T hs => ?_
  obtain ⟨caps, m, rfl, rfl, h⟩ := hs
  refine ⟨_, (pss_cons (ps_if (pw_or (pt_not (pt_val (pe_callB (kisi K) (by rfl) F.n_isinstance b_isinstance (pa_cons (pv 1) (pa_cons (pe_bltn (v := .ty "tuple") (by rfl) F.n_tuple b_tuple rfl) pa_nil))))) (pw_or1 (pt_cmpR op_ne (pe_callB (klen K) (by rfl) F.n_len b_len (pa_cons (pv 1) pa_nil)) pe_int (nomark _)))).pt (pss_one (ps_ret pe_bl)) pss_nil)
      (pss_cons (ps_if (pw_or (pt_not (pt_val (C8.pe_c (cal_is_integer F) hr (by decide) (by rfl) (pa_cons (pe_ix (kixT K) (pv 1) pe_int (fun _ _ => rfl)) pa_nil)))) (pw_or1 (pt_not (pt_chain op_le op_lt pe_int (pe_ix (kixT K) (pv 1) pe_int (fun _ _ => rfl)) (pfv K 0))))).pt (pss_one (ps_ret pe_bl)) pss_nil)
      (pss_one (ps_ret (pe_and (pe_callB (kisi K) (by rfl) F.n_isinstance b_isinstance (pa_cons (pe_ix (kixT K) (pv 1) pe_int (fun _ _ => rfl)) (pa_cons (pe_bltn (v := .ty "str") (by rfl) F.n_str b_str rfl) pa_nil))) (pe_one (pe_cmpR (kin K) (pe_ix (kixT K) (pv 1) pe_int (fun _ _ => rfl)) (C8.pe_gc (by rfl) F.kinds) (by rfl)))))))), ?_⟩
  refine b_no (t_is (t_or (t_not (t_B (e_cb (a_cons (e_var rfl) (a_cons e_c a_nil)) is_tup))) fun _ => t_test (e_op (e_cb (a_cons (e_var rfl) a_nil) c_lenT) e_c (o_ne rfl))) (by rfl))
    (b_no (t_is (t_or (t_not (t_B (e_call (a_cons (e_op (e_var rfl) e_c (o_ixT (by decide) rfl)) a_nil) ⟨_, rfl, rfl⟩))) fun _ => t_not (t_test (e_chain e_c (e_op (e_var rfl) e_c (o_ixT (by decide) rfl)) (e_stages F (e_var rfl)) o_I0 o_I0))) (by simp; omega))
    (b_ret (e_is (e_andV (e_cb (a_cons (e_op (e_var rfl) e_c (o_ixT (by decide) rfl)) (a_cons e_c a_nil)) is_str) fun _ => e_op (e_op (e_var rfl) e_c (o_ixT (by decide) rfl)) e_c (o_kinds F m.2)) rfl)))
def Sg_check_move (CR : Addr) : Sig := fun Ts T => ∃ (caps : List Int) (m : Mv), Ts = [netT CR caps, mvT m] ∧ T = mvT m ∧ m.1 < caps.length
theorem cal_check_move (F : TopF K mg CR CN CU fU KA mc) : C8.Cal P w K mg base 3 "check_move" (SpT (Sg_check_move CR)) [] := by
  refine cal_ty (k := 2) F.d_check_move sc_check_move (fun Ts T h => by obtain ⟨caps, m, rfl, rfl, h⟩ := h; rfl) (fun _ _ _ _ _ _ us hl => match us, hl with | [_, _], _ => rfl) fun f cdv A outer s_ H_ E_ hr Ts T hs => ?_
  obtain ⟨caps, m, rfl, rfl, h⟩ := hs
  refine ⟨_, (pss_cons (ps_if (pt_not (pt_val (C8.pe_c (cal_is_move F) hr (by decide) (by rfl) (pa_cons (pv 0) (pa_cons (pv 1) pa_nil))))) (pss_one ps_never) pss_nil)
      (pss_one (ps_ret (pv 1)))), ?_⟩
  exact b_no (t_is (t_not (t_B (e_call (a_cons (e_var rfl) (a_cons (e_var rfl) a_nil)) ⟨caps, m, rfl, rfl, h⟩))) rfl) (b_ret (e_var rfl))
def Sg_step_of_row (CR : Addr) : Sig := fun Ts T => ∃ (caps s : List Int) (m : Mv) (i : Int), Ts = [netT CR caps, TN s, mvT m, tI i] ∧ T = TN (aftM s m) ∧ m.1 < caps.length ∧ Shape caps s s ∧ okM caps s m = true ∧ caps.length ≤ 100
theorem cal_step_of_row (F : TopF K mg CR CN CU fU KA mc) : C8.Cal P w K mg base 7 "step_of_row" (SpT (Sg_step_of_row CR)) [] := by
  refine cal_ty (k := 6) F.d_step_of_row sc_step_of_row (fun Ts T h => by obtain ⟨caps, s, m, i, rfl, rfl, h, S, ok, hz⟩ := h; rfl) (fun _ _ _ _ _ _ us hl => match us, hl with | [_, _, _, _], _ => rfl) fun f cdv A outer s_ H_ E_ hr Ts T hs => ?_
  obtain ⟨caps, s, m, i, rfl, rfl, h, S, ok, hz⟩ := hs
  refine ⟨_, (pss_cons (ps_expr (C8.pe_c (cal_check_move F) hr (by decide) (by rfl) (pa_cons (pv 0) (pa_cons (pv 2) pa_nil))))
      (pss_cons (ps_if (pt_not (pt_val (C8.pe_c (cal_is_allowed F) hr (by decide) (by rfl) (pa_cons (pv 0) (pa_cons (pv 1) (pa_cons (pv 2) pa_nil)))))) (pss_one ps_never) pss_nil)
      (pss_one (ps_ret (C8.pe_c (cal_after F) hr (by decide) (by rfl) (pa_cons (pv 1) (pa_cons (pv 2) pa_nil))))))), ?_⟩
  exact b_drop (e_call (a_cons (e_var rfl) (a_cons (e_var rfl) a_nil)) ⟨caps, m, rfl, rfl, h⟩)
    (b_no (t_is (t_not (t_B (e_call (a_cons (e_var rfl) (a_cons (e_var rfl) (a_cons (e_var rfl) a_nil))) ⟨caps, s, m, rfl, rfl, h, S⟩))) (by rw [ok]; rfl))
    (b_ret (e_call (a_cons (e_var rfl) (a_cons (e_var rfl) a_nil)) ⟨s, m, rfl, rfl, by rw [S.ls]; exact h, by rw [S.ls]; exact hz⟩)))
def InR (s : List Int) : Prop := ∀ i, i < s.length → 0 ≤ gi s i ∧ gi s i ≤ 999
def Sg_check_state (CR : Addr) : Sig := fun Ts T => ∃ (caps s : List Int), Ts = [netT CR caps, TN s] ∧ T = TN s ∧ s.length = caps.length ∧ InR s
theorem cal_check_state (F : TopF K mg CR CN CU fU KA mc) : C8.Cal P w K mg base 2 "check_state" (SpT (Sg_check_state CR)) [] := by
  refine cal_ty (k := 1) F.d_check_state sc_check_state (fun Ts T h => by obtain ⟨caps, s, rfl, rfl, hl, hr0⟩ := h; rfl) (fun _ _ _ _ _ _ us hl => match us, hl with | [_, _], _ => rfl) fun f cdv A outer s_ H_ E_ hr Ts T hs => ?_
  obtain ⟨caps, s, rfl, rfl, hl, hr0⟩ := hs
  refine ⟨_, (pss_cons (ps_if (pw_or (pt_not (pt_val (pe_callB (kisi K) (by rfl) F.n_isinstance b_isinstance (pa_cons (pv 1) (pa_cons (pe_bltn (v := .ty "tuple") (by rfl) F.n_tuple b_tuple rfl) pa_nil))))) (pw_or1 (pt_cmpR op_ne (pe_callB (klen K) (by rfl) F.n_len b_len (pa_cons (pv 1) pa_nil)) (pfv K 0) (nomark _)))).pt (pss_one ps_never) pss_nil)
      (pss_cons (ps_for PassesOwn.never rfl (kenum K rfl F.n_enumerate (pa_cons (pv 1) pa_nil)) (pg_tup rfl (pgs_cons (pg_name (i := 2) sc_check_state.nd rfl (Or.inl rfl)) (pgs_cons (pg_name (i := 3) sc_check_state.nd rfl (Or.inl rfl)) pgs_nil))) (pss_one (ps_if (pw_or (pt_not (pt_val (C8.pe_c (cal_is_integer F) hr (by decide) (by rfl) (pa_cons (pv 3) pa_nil)))) (pw_or1 (pt_not (pt_chain op_le op_le pe_int (pv 3) (kcv K (C8.pe_gc (by rfl) F.g_Net)))))).pt (pss_one ps_never) pss_nil)))
      (pss_one (ps_ret (pv 1))))), ?_⟩
  refine b_no (t_is (t_or (t_not (t_B (e_cb (a_cons (e_var rfl) (a_cons e_c a_nil)) is_tup))) fun _ => t_test (e_op (e_cb (a_cons (e_var rfl) a_nil) c_lenT) (e_stages F (e_var rfl)) (o_ne rfl))) (by simp [hl]))
    (b_seq (n_for (n := s.length) (Γs := fun _ => [some (netT CR caps), some (TN s), none, none]) (Γt := fun i => [some (netT CR caps), some (TN s), some (tI (i : Nat)), some (tI (gi s i))]) (i_enum (a_cons (e_var rfl) a_nil) (by simp) fun i hi => tn_at hi) (Le.refl _) (fun i hi => g_pair)
      (fun i hi => n_le (n_no (t_is (t_or (t_not (t_B (e_call (a_cons (e_var rfl) a_nil) ⟨_, rfl, rfl⟩))) fun _ => t_not (t_test (e_chain e_c (e_var rfl) (e_cval F.rdN F.vCounter e_c) o_I0 o_I0))) ?_)) (le_cons (le_cons (le_none (le_none le_nil)))))) (b_ret (e_var rfl)))
  have := hr0 i hi
  simp
  omega
def Sg_run_moves (CR : Addr) : Sig := fun Ts T => ∃ (caps s : List Int) (ms : List Mv), Ts = [netT CR caps, TN s, tup (ms.map mvT)] ∧ T = TN (runL s ms) ∧ Shape caps s s ∧ InR s ∧ caps.length ≤ 100 ∧ ∀ i m, ms[i]? = some m → m.1 < caps.length ∧ okM caps (runL s (ms.take i)) m = true
theorem cal_run_moves (F : TopF K mg CR CN CU fU KA mc) : C8.Cal P w K mg base 8 "run_moves" (SpT (Sg_run_moves CR)) [] := by
  refine cal_ty (k := 7) F.d_run_moves sc_run_moves (fun Ts T h => by obtain ⟨caps, s, ms, rfl, rfl, S, hr0, hz, hm⟩ := h; rfl) (fun _ _ _ _ _ _ us hl => match us, hl with | [_, _, _], _ => rfl) fun f cdv A outer s_ H_ E_ hr Ts T hs => ?_
  obtain ⟨caps, s, ms, rfl, rfl, S, hr0, hz, hm⟩ := hs
  refine ⟨_, (pss_cons (ps_set (i := 3) sc_run_moves.nd rfl (Or.inl rfl) (C8.pe_c (cal_check_state F) hr (by decide) (by rfl) (pa_cons (pv 0) (pa_cons (pv 1) pa_nil))))
      (pss_cons (ps_for PassesOwn.never rfl (kenum K rfl F.n_enumerate (pa_cons (pv 2) pa_nil)) (pg_tup rfl (pgs_cons (pg_name (i := 4) sc_run_moves.nd rfl (Or.inl rfl)) (pgs_cons (pg_name (i := 5) sc_run_moves.nd rfl (Or.inl rfl)) pgs_nil))) (pss_one (ps_set (i := 3) sc_run_moves.nd rfl (Or.inl rfl) (C8.pe_c (cal_step_of_row F) hr (by decide) (by rfl) (pa_cons (pv 0) (pa_cons (pv 3) (pa_cons (pv 5) (pa_cons (pv 4) pa_nil))))))))
      (pss_one (ps_ret (pv 3))))), ?_⟩
  refine b_asg (e_call (a_cons (e_var rfl) (a_cons (e_var rfl) a_nil)) ⟨caps, s, rfl, rfl, S.ls, hr0⟩)
    (b_seq (n_for (n := ms.length) (tf := fun i => tup [tI (i : Nat), mvT (ms.getD i (0, true))]) (Γs := fun i => [some (netT CR caps), some (TN s), some (tup (ms.map mvT)), some (TN (runL s (ms.take i))), none, none]) (Γt := fun i => [some (netT CR caps), some (TN s), some (tup (ms.map mvT)), some (TN (runL s (ms.take i))), some (tI (i : Nat)), some (mvT (ms.getD i (0, true)))])
      (i_enum (a_cons (e_var rfl) a_nil) (by simp) fun i hi => list_at hi) (Le.refl _) (fun i hi => g_pair) (fun i hi => n_le (n_asg (e_call (a_cons (e_var rfl) (a_cons (e_var rfl) (a_cons (e_var rfl) (a_cons (e_var rfl) a_nil)))) ⟨caps, _, _, _, rfl, rfl, ?_, ?_, ?_, hz⟩)) ?_)) (b_ret (e_is (e_var rfl) (by rw [List.take_length]))))
  · have e : ms[i]? = some (ms.getD i (0, true)) := by simp [List.getD_eq_getElem?_getD, List.getElem?_eq_getElem hi]
    exact (hm i _ e).1
  · exact ⟨S.big, by rw [runL_len]; exact S.ls, by rw [runL_len]; exact S.ls⟩
  · have e : ms[i]? = some (ms.getD i (0, true)) := by simp [List.getD_eq_getElem?_getD, List.getElem?_eq_getElem hi]
    exact (hm i _ e).2
  · have e : ms[i]? = some (ms.getD i (0, true)) := by simp [List.getD_eq_getElem?_getD, List.getElem?_eq_getElem hi]
    have e2 : runL s (ms.take (i + 1)) = aftM (runL s (ms.take i)) (ms.getD i (0, true)) := by
      rw [List.take_add_one, e]
      exact runL_snoc _ _ _
    show Le [_, _, _, some (TN (runL s (ms.take (i + 1)))), none, none] _
    rw [e2]
    exact le_cons (le_cons (le_cons (le_cons (le_none (le_none le_nil)))))
def Sg_is_drawn_on : Sig := fun Ts T => ∃ (caps s t : List Int) (i : Nat), Ts = [chT caps i, TN s, TN t] ∧ T = tL (drawnB caps.length s t i) ∧ i < caps.length ∧ Shape caps s t
theorem cal_is_drawn_on (F : TopF K mg CR CN CU fU KA mc) : C8.Cal P w K mg base 1 "is_drawn_on" (SpT Sg_is_drawn_on) [] := by
  refine cal_ty (k := 0) F.d_is_drawn_on sc_is_drawn_on (fun Ts T h => by obtain ⟨caps, s, t, i, rfl, rfl, h, S⟩ := h; rfl) (fun _ _ _ _ _ _ us hl => match us, hl with | [_, _, _], _ => rfl) fun f cdv A outer s_ H_ E_ hr Ts T hs => ?_
  obtain ⟨caps, s, t, i, rfl, rfl, h, S⟩ := hs
  refine ⟨_, (pss_cons (ps_set (i := 3) sc_is_drawn_on.nd rfl (Or.inl rfl) (pe_ix (kixT K) (pv 0) pe_int (fun _ _ => rfl)))
      (pss_cons (ps_set (i := 4) sc_is_drawn_on.nd rfl (Or.inl rfl) (pe_ix (kixT K) (pv 0) pe_int (fun _ _ => rfl)))
      (pss_one (ps_ret (pe_or (pe_cmpR op_lt (pe_ix (kixT K) (pv 2) (pv 3) (fun _ _ => rfl)) (pe_ix (kixT K) (pv 1) (pv 3) (fun _ _ => rfl)) (nomark _)) (pe_one (pe_cmpR op_gt (pe_ix (kixT K) (pv 2) (pv 4) (fun _ _ => rfl)) (pe_ix (kixT K) (pv 1) (pv 4) (fun _ _ => rfl)) (nomark _)))))))), ?_⟩
  have h1 : i < s.length := by rw [S.ls]; exact h
  have h2 : nxN caps.length i < s.length := by rw [S.ls]; exact nxN_lt S.big i
  have h3 : i < t.length := by rw [S.lt]; exact h
  have h4 : nxN caps.length i < t.length := by rw [S.lt]; exact nxN_lt S.big i
  exact b_asg (e_op (e_var rfl) e_c (o_ixT (by decide) rfl)) (b_asg (e_op (e_var rfl) e_c (o_ixT (by decide) rfl))
    (b_ret (e_orV (e_op (e_op (e_var rfl) (e_var rfl) (o_ixN h3)) (e_op (e_var rfl) (e_var rfl) (o_ixN h1)) o_I0) fun _ => e_op (e_op (e_var rfl) (e_var rfl) (o_ixN h4)) (e_op (e_var rfl) (e_var rfl) (o_ixN h2)) o_I0)))
end
end WD

set_option Elab.async false
set_option linter.all false
set_option maxRecDepth 100000
set_option maxHeartbeats 3900000
namespace WD
open PySem PySem.Spec PyProof.Rows L2 Evl WT WM WB
section
variable {w : World} {P : Program} {K : PySem.W.Frag} {mg : Str → Option Value} {base : Heap} {CR CN CU fU KA : Addr} {mc : Value}
theorem given_pick (n : Nat) (f : Nat → Bool) (u : Nat → Ty) : WT.given n f u = (pick n f).map u := rfl
def Sg_range_objections (CR : Addr) : Sig := fun Ts T => ∃ (caps s t : List Int), Ts = [netT CR caps, TN s, TN t] ∧ T = lst (((pick caps.length (aboveB s t)).map (fun i => objT (Tag.above, i))) ++ (pick caps.length (belowB s t)).map (fun i => objT (Tag.below, i))) ∧ Shape caps s t ∧ caps.length ≤ 100
theorem cal_range_objections (F : TopF K mg CR CN CU fU KA mc) : C8.Cal P w K mg base 2 "range_objections" (SpT (Sg_range_objections CR)) [] := by
  refine cal_ty (k := 1) F.d_range_objections sc_range_objections (fun Ts T h => by obtain ⟨caps, s, t, rfl, rfl, S, hz⟩ := h; rfl) (fun _ _ _ _ _ _ us hl => match us, hl with | [_, _, _], _ => rfl) fun f cdv A outer s_ H_ E_ hr Ts T hs => ?_
  obtain ⟨caps, s, t, rfl, rfl, S, hz⟩ := hs
  refine ⟨_, (pss_cons (ps_if (pt_not (pt_val (C8.pe_mt0 (met_is_ring F) hr (by decide) (pv 0)))) (pss_one (ps_ret (pe_lst pa_nil))) pss_nil)
      (pss_cons (ps_set (i := 3) sc_range_objections.nd rfl (Or.inr rfl) (pe_callB (kmin K rfl hr.units) (by rfl) F.n_min b_min (pa_cons (pv 1) pa_nil)))
      (pss_cons (ps_set (i := 4) sc_range_objections.nd rfl (Or.inr rfl) (pe_callB (kmax K rfl hr.units) (by rfl) F.n_max b_max (pa_cons (pv 1) pa_nil)))
      (pss_cons (ps_setLc (i := 5) (own := [("stage", 7), ("counter", 8)]) (g := gTup K 2 (gCons (gName 7) (gCons (gName 8) gNil))) rfl sc_range_objections.nd rfl rfl (sw_true rfl rfl rfl (by decide +kernel)) (kenum K rfl F.n_enumerate (pa_cons (pv 2) pa_nil)) (blkOk_by (N := ["net", "start", "target", "lowest", "highest", "above", "below", "stage", "counter"]) (sc := defScope s_range_objections) (by decide +kernel)) (fun _ _ _ _ _ => (pg_tup rfl (pgs_cons (pg_name (i := 7) sc_range_objections.nd rfl (Or.inl rfl)) (pgs_cons (pg_name (i := 8) sc_range_objections.nd rfl (Or.inl rfl)) pgs_nil)))) (fun _ _ _ _ _ => (pts_one (pt_cmpR op_gt (pv 8) (pv 4) (nomark _)))) (fun _ _ _ _ _ => (pe_tup (pa_cons pe_str (pa_cons (pv 7) pa_nil)))))
      (pss_cons (ps_setLc (i := 6) (own := [("stage", 7), ("counter", 8)]) (g := gTup K 2 (gCons (gName 7) (gCons (gName 8) gNil))) rfl sc_range_objections.nd rfl rfl (sw_true rfl rfl rfl (by decide +kernel)) (kenum K rfl F.n_enumerate (pa_cons (pv 2) pa_nil)) (blkOk_by (N := ["net", "start", "target", "lowest", "highest", "above", "below", "stage", "counter"]) (sc := defScope s_range_objections) (by decide +kernel)) (fun _ _ _ _ _ => (pg_tup rfl (pgs_cons (pg_name (i := 7) sc_range_objections.nd rfl (Or.inl rfl)) (pgs_cons (pg_name (i := 8) sc_range_objections.nd rfl (Or.inl rfl)) pgs_nil)))) (fun _ _ _ _ _ => (pts_one (pt_cmpR op_lt (pv 8) (pv 3) (nomark _)))) (fun _ _ _ _ _ => (pe_tup (pa_cons pe_str (pa_cons (pv 7) pa_nil)))))
      (pss_one (ps_ret (pe_op op_cat (pv 5) (pv 6))))))))), ?_⟩
  have hs0 : 0 < s.length := by rw [S.ls]; have := S.big; omega
  refine b_no (t_is (t_not (t_B (e_meth (e_var rfl) (by simp) a_nil ⟨caps, rfl, rfl⟩))) rfl) (b_asg (e_is (e_cb (a_cons (e_var rfl) a_nil) (c_fold hs0)) (by rw [minI_eq])) (b_asg (e_is (e_cb (a_cons (e_var rfl) a_nil) (c_fold hs0)) (by rw [maxI_eq]))
    (b_asg (e_lc (n := caps.length) (f := aboveB s t) (u := fun i => objT (Tag.above, i)) (Γs := fun i => [some (netT CR caps), some (TN s), some (TN t), some (tI (minL s)), some (tI (maxL s)), none, none, some (tI (i : Nat)), some (tI (gi t i))]) (i_enum (a_cons (e_var rfl) a_nil) (by simp [S.lt]) fun i hi => tn_at (by rw [S.lt]; exact hi)) (fun i hi => g_pair) (by decide) (fun i hi => t_test (e_op (e_var rfl) (e_var rfl) o_I0)) (fun i hi _ => e_tup (a_cons e_c (a_cons (e_var rfl) a_nil)) (by simp)) (by omega))
    (b_asg (e_lc (n := caps.length) (f := belowB s t) (u := fun i => objT (Tag.below, i)) (Γs := fun i => [some (netT CR caps), some (TN s), some (TN t), some (tI (minL s)), some (tI (maxL s)), _, none, some (tI (i : Nat)), some (tI (gi t i))]) (i_enum (a_cons (e_var rfl) a_nil) (by simp [S.lt]) fun i hi => tn_at (by rw [S.lt]; exact hi)) (fun i hi => g_pair) (by decide) (fun i hi => t_test (e_op (e_var rfl) (e_var rfl) o_I0)) (fun i hi _ => e_tup (a_cons e_c (a_cons (e_var rfl) a_nil)) (by simp)) (by omega))
    (b_ret (e_op (e_var rfl) (e_var rfl) (o_catL ?_)))))))
  have h1 := given_len caps.length (aboveB s t) (fun i => objT (Tag.above, i))
  have h2 := given_len caps.length (belowB s t) (fun i => objT (Tag.below, i))
  omega
def Sg_channel_objections (CR : Addr) : Sig := fun Ts T => ∃ (caps s t : List Int), Ts = [netT CR caps, TN s, TN t] ∧ T = lst ((((drawnL caps.length s t).filter (jamB caps s)).map (fun i => objT (Tag.jammed, i))) ++ ((drawnL caps.length s t).filter (oweB caps.length t)).map (fun i => objT (Tag.orphan, i))) ∧ Shape caps s t ∧ caps.length ≤ 100
theorem drawn_lt {caps s t : List Int} {i : Nat} (h : i < (drawnL caps.length s t).length) : (drawnL caps.length s t).getD i 0 < caps.length := by
  have e : (drawnL caps.length s t).getD i 0 ∈ drawnL caps.length s t := by
    rw [List.getD_eq_getElem?_getD, List.getElem?_eq_getElem h]
    exact List.getElem_mem h
  exact (mem_pick.mp e).1
theorem drawn_len (n : Nat) (s t : List Int) : (drawnL n s t).length ≤ n := by
  unfold drawnL pick
  have h := List.length_filter_le (drawnB n s t) (List.range n)
  rw [List.length_range] at h
  exact h
theorem cal_channel_objections (F : TopF K mg CR CN CU fU KA mc) : C8.Cal P w K mg base 3 "channel_objections" (SpT (Sg_channel_objections CR)) [] := by
  refine cal_ty (k := 2) F.d_channel_objections sc_channel_objections (fun Ts T h => by obtain ⟨caps, s, t, rfl, rfl, S, hz⟩ := h; rfl) (fun _ _ _ _ _ _ us hl => match us, hl with | [_, _, _], _ => rfl) fun f cdv A outer s_ H_ E_ hr Ts T hs => ?_
  obtain ⟨caps, s, t, rfl, rfl, S, hz⟩ := hs
  refine ⟨_, (pss_cons (ps_setLc (i := 3) (own := [("number", 6), ("channel", 7)]) (g := gTup K 2 (gCons (gName 6) (gCons (gName 7) gNil))) rfl sc_channel_objections.nd rfl rfl (sw_true rfl rfl rfl (by decide +kernel)) (kenum K rfl F.n_enumerate (pa_cons (pfv K 0) pa_nil)) (blkOk_by (N := ["net", "start", "target", "drawn", "jammed", "orphaned", "number", "channel"]) (sc := defScope s_channel_objections) (by decide +kernel)) (fun _ _ _ _ _ => (pg_tup rfl (pgs_cons (pg_name (i := 6) sc_channel_objections.nd rfl (Or.inl rfl)) (pgs_cons (pg_name (i := 7) sc_channel_objections.nd rfl (Or.inl rfl)) pgs_nil)))) (fun _ _ _ _ _ => (pts_one (pt_val (C8.pe_c (cal_is_drawn_on F) hr (by decide) (by rfl) (pa_cons (pv 7) (pa_cons (pv 1) (pa_cons (pv 2) pa_nil))))))) (fun _ _ _ _ _ => (pe_tup (pa_cons (pv 6) (pa_cons (pv 7) pa_nil)))))
      (pss_cons (ps_setLc (i := 4) (own := [("number", 6), ("channel", 7)]) (g := gTup K 2 (gCons (gName 6) (gCons (gName 7) gNil))) rfl sc_channel_objections.nd rfl rfl (sw_true rfl rfl rfl (by decide +kernel)) (kpiL K (pv 3)) (blkOk_by (N := ["net", "start", "target", "drawn", "jammed", "orphaned", "number", "channel"]) (sc := defScope s_channel_objections) (by decide +kernel)) (fun _ _ _ _ _ => (pg_tup rfl (pgs_cons (pg_name (i := 6) sc_channel_objections.nd rfl (Or.inl rfl)) (pgs_cons (pg_name (i := 7) sc_channel_objections.nd rfl (Or.inl rfl)) pgs_nil)))) (fun _ _ _ _ _ => (pts_one (pt_val (C8.pe_c (cal_is_jammed F) hr (by decide) (by rfl) (pa_cons (pv 7) (pa_cons (pv 1) pa_nil)))))) (fun _ _ _ _ _ => (pe_tup (pa_cons pe_str (pa_cons (pv 6) pa_nil)))))
      (pss_cons (ps_setLc (i := 5) (own := [("number", 6), ("channel", 7)]) (g := gTup K 2 (gCons (gName 6) (gCons (gName 7) gNil))) rfl sc_channel_objections.nd rfl rfl (sw_true rfl rfl rfl (by decide +kernel)) (kpiL K (pv 3)) (blkOk_by (N := ["net", "start", "target", "drawn", "jammed", "orphaned", "number", "channel"]) (sc := defScope s_channel_objections) (by decide +kernel)) (fun _ _ _ _ _ => (pg_tup rfl (pgs_cons (pg_name (i := 6) sc_channel_objections.nd rfl (Or.inl rfl)) (pgs_cons (pg_name (i := 7) sc_channel_objections.nd rfl (Or.inl rfl)) pgs_nil)))) (fun _ _ _ _ _ => (pts_one (pt_val (C8.pe_c (cal_is_owing F) hr (by decide) (by rfl) (pa_cons (pv 7) (pa_cons (pv 2) pa_nil)))))) (fun _ _ _ _ _ => (pe_tup (pa_cons pe_str (pa_cons (pv 6) pa_nil)))))
      (pss_one (ps_ret (pe_op op_cat (pv 4) (pv 5))))))), ?_⟩
  have hd := drawn_len caps.length s t
  refine b_asg (T := lst ((drawnL caps.length s t).map fun i => tup [tI (i : Nat), chT caps i])) (e_lc (n := caps.length) (f := drawnB caps.length s t) (u := fun i => tup [tI (i : Nat), chT caps i]) (Γs := fun i => [some (netT CR caps), some (TN s), some (TN t), none, none, none, some (tI (i : Nat)), some (chT caps i)])
      (i_enum (a_cons (e_channels F (e_var rfl)) a_nil) (chans_len caps) fun i hi => chans_at hi) (fun i hi => g_pair) (by decide) (fun i hi => t_B (e_call (a_cons (e_var rfl) (a_cons (e_var rfl) (a_cons (e_var rfl) a_nil))) ⟨caps, s, t, i, rfl, rfl, hi, S⟩)) (fun i hi _ => e_tup (a_cons (e_var rfl) (a_cons (e_var rfl) a_nil)) (by simp)) (by omega))
    (b_asg (e_is (e_lc (n := (drawnL caps.length s t).length) (f := fun i => jamB caps s ((drawnL caps.length s t).getD i 0)) (u := fun i => objT (Tag.jammed, (drawnL caps.length s t).getD i 0)) (Γs := fun i => [some (netT CR caps), some (TN s), some (TN t), _, none, none, some (tI ((drawnL caps.length s t).getD i 0 : Nat)), some (chT caps ((drawnL caps.length s t).getD i 0))])
      (i_list (e_var rfl) (by simp) fun i hi => list_at hi) (fun i hi => g_pair) (by decide) (fun i hi => t_B (e_call (a_cons (e_var rfl) (a_cons (e_var rfl) a_nil)) ⟨caps, s, _, rfl, rfl, drawn_lt hi, ⟨S.big, S.ls, S.ls⟩⟩)) (fun i hi _ => e_tup (a_cons e_c (a_cons (e_var rfl) a_nil)) (by simp)) (by omega)) (congrArg lst (given_list (drawnL caps.length s t) 0 (jamB caps s) fun i => objT (Tag.jammed, i))))
    (b_asg (e_is (e_lc (n := (drawnL caps.length s t).length) (f := fun i => oweB caps.length t ((drawnL caps.length s t).getD i 0)) (u := fun i => objT (Tag.orphan, (drawnL caps.length s t).getD i 0)) (Γs := fun i => [some (netT CR caps), some (TN s), some (TN t), _, _, none, some (tI ((drawnL caps.length s t).getD i 0 : Nat)), some (chT caps ((drawnL caps.length s t).getD i 0))])
      (i_list (e_var rfl) (by simp) fun i hi => list_at hi) (fun i hi => g_pair) (by decide) (fun i hi => t_B (e_call (a_cons (e_var rfl) (a_cons (e_var rfl) a_nil)) ⟨caps, t, _, rfl, rfl, drawn_lt hi, ⟨S.big, S.lt, S.lt⟩⟩)) (fun i hi _ => e_tup (a_cons e_c (a_cons (e_var rfl) a_nil)) (by simp)) (by omega)) (congrArg lst (given_list (drawnL caps.length s t) 0 (oweB caps.length t) fun i => objT (Tag.orphan, i))))
    (b_ret (e_op (e_var rfl) (e_var rfl) (o_catL ?_)))))
  have h1 := List.length_filter_le (jamB caps s) (drawnL caps.length s t)
  have h2 := List.length_filter_le (oweB caps.length t) (drawnL caps.length s t)
  rw [List.length_map, List.length_map]
  omega
def Sg_end_objections (CR : Addr) : Sig := fun Ts T => ∃ (caps s t : List Int), Ts = [netT CR caps, TN s, TN t] ∧ T = lst [] ∧ Shape caps s t ∧ caps.length ≤ 100
theorem given_no_all (n : Nat) (u : Nat → Ty) : WT.given n (fun _ => false) u = [] := by
  unfold WT.given
  rw [List.filter_eq_nil_iff.mpr (fun _ _ => by simp)]
  rfl
theorem cal_end_objections (F : TopF K mg CR CN CU fU KA mc) : C8.Cal P w K mg base 4 "end_objections" (SpT (Sg_end_objections CR)) [] := by
  refine cal_ty (k := 3) F.d_end_objections sc_end_objections (fun Ts T h => by obtain ⟨caps, s, t, rfl, rfl, S, hz⟩ := h; rfl) (fun _ _ _ _ _ _ us hl => match us, hl with | [_, _, _], _ => rfl) fun f cdv A outer s_ H_ E_ hr Ts T hs => ?_
  obtain ⟨caps, s, t, rfl, rfl, S, hz⟩ := hs
  refine ⟨_, (pss_cons (ps_setLc (i := 3) (own := [("stage", 5)]) (g := gName 5) rfl sc_end_objections.nd rfl rfl (sw_true rfl rfl rfl (by decide +kernel)) (pi_range1 rfl F.n_range (pa_cons (pfv K 0) pa_nil)) (blkOk_by (N := ["net", "start", "target", "sinks", "sources", "stage"]) (sc := defScope s_end_objections) (by decide +kernel)) (fun _ _ _ _ _ => (pg_name (i := 5) sc_end_objections.nd rfl (Or.inl rfl))) (fun _ _ _ _ _ => (pts_one (pw_and (pt_cmpR op_lt (pe_ix (kixT K) (pv 2) (pv 5) (fun _ _ => rfl)) (pe_ix (kixT K) (pv 1) (pv 5) (fun _ _ => rfl)) (nomark _)) (pw_and1 (pt_cmpR op_eq (pe_callB (klen K) (by rfl) F.n_len b_len (pa_cons (C8.pe_mt (met_outgoing F) hr (by decide) (pv 0) (pa_cons (pv 5) pa_nil)) pa_nil)) pe_int (nomark _)))).pt)) (fun _ _ _ _ _ => (pe_tup (pa_cons pe_str (pa_cons (pv 5) pa_nil)))))
      (pss_cons (ps_setLc (i := 4) (own := [("stage", 5)]) (g := gName 5) rfl sc_end_objections.nd rfl rfl (sw_true rfl rfl rfl (by decide +kernel)) (pi_range1 rfl F.n_range (pa_cons (pfv K 0) pa_nil)) (blkOk_by (N := ["net", "start", "target", "sinks", "sources", "stage"]) (sc := defScope s_end_objections) (by decide +kernel)) (fun _ _ _ _ _ => (pg_name (i := 5) sc_end_objections.nd rfl (Or.inl rfl))) (fun _ _ _ _ _ => (pts_one (pw_and (pt_cmpR op_gt (pe_ix (kixT K) (pv 2) (pv 5) (fun _ _ => rfl)) (pe_ix (kixT K) (pv 1) (pv 5) (fun _ _ => rfl)) (nomark _)) (pw_and1 (pt_cmpR op_eq (pe_callB (klen K) (by rfl) F.n_len b_len (pa_cons (C8.pe_mt (met_incoming F) hr (by decide) (pv 0) (pa_cons (pv 5) pa_nil)) pa_nil)) pe_int (nomark _)))).pt)) (fun _ _ _ _ _ => (pe_tup (pa_cons pe_str (pa_cons (pv 5) pa_nil)))))
      (pss_one (ps_ret (pe_op op_cat (pv 3) (pv 4)))))), ?_⟩
  refine b_asg (T := lst []) (e_is (e_lc (n := caps.length) (f := fun _ => false) (u := fun i => tup [tS "sink", tI (i : Nat)]) (Γs := fun i => [some (netT CR caps), some (TN s), some (TN t), none, none, some (tI (i : Nat))])
      (i_rng (a_cons (e_stages F (e_var rfl)) a_nil) ⟨by omega, by omega⟩ (by simp)) (fun i hi => g_name) (by decide) (fun i hi => t_is (t_and (t_test (e_op (e_op (e_var rfl) (e_var rfl) (o_ixN (by rw [S.lt]; exact hi))) (e_op (e_var rfl) (e_var rfl) (o_ixN (by rw [S.ls]; exact hi))) o_I0)) fun _ => t_test (e_op (e_cb (a_cons (e_meth (e_var rfl) (by simp) (a_cons (e_var rfl) a_nil) ⟨caps, i, rfl, rfl, hi⟩) a_nil) c_lenT) e_c (o_eq rfl))) ?_) (fun i hi _ => e_tup (a_cons e_c (a_cons (e_var rfl) a_nil)) (by simp)) (by omega)) (congrArg lst (given_no_all _ _)))
    (b_asg (T := lst []) (e_is (e_lc (n := caps.length) (f := fun _ => false) (u := fun i => tup [tS "source", tI (i : Nat)]) (Γs := fun i => [some (netT CR caps), some (TN s), some (TN t), some (lst []), none, some (tI (i : Nat))])
      (i_rng (a_cons (e_stages F (e_var rfl)) a_nil) ⟨by omega, by omega⟩ (by simp)) (fun i hi => g_name) (by decide) (fun i hi => t_is (t_and (t_test (e_op (e_op (e_var rfl) (e_var rfl) (o_ixN (by rw [S.lt]; exact hi))) (e_op (e_var rfl) (e_var rfl) (o_ixN (by rw [S.ls]; exact hi))) o_I0)) fun _ => t_test (e_op (e_cb (a_cons (e_meth (e_var rfl) (by simp) (a_cons (e_var rfl) a_nil) ⟨caps, i, rfl, rfl, hi⟩) a_nil) c_lenT) e_c (o_eq rfl))) ?_) (fun i hi _ => e_tup (a_cons e_c (a_cons (e_var rfl) a_nil)) (by simp)) (by omega)) (congrArg lst (given_no_all _ _)))
    (b_ret (e_op (e_var rfl) (e_var rfl) (o_catL (by simp)))))
  · simp
  · simp
def Sg_found_objections (CR : Addr) : Sig := fun Ts T => ∃ (caps s t : List Int), Ts = [netT CR caps, TN s, TN t] ∧ T = lst ((objs caps s t).map objT) ∧ Shape caps s t ∧ caps.length ≤ 100
theorem objs_ty (caps s t : List Int) : (objs caps s t).map objT = (((pick caps.length (aboveB s t)).map (fun i => objT (Tag.above, i))) ++ (pick caps.length (belowB s t)).map (fun i => objT (Tag.below, i))) ++ ((((drawnL caps.length s t).filter (jamB caps s)).map (fun i => objT (Tag.jammed, i))) ++ ((drawnL caps.length s t).filter (oweB caps.length t)).map (fun i => objT (Tag.orphan, i))) := by
  unfold objs
  simp only [List.map_append, List.map_map]
  rfl
theorem objs_len (caps s t : List Int) : (objs caps s t).length ≤ 4 * caps.length := by
  have h0 := drawn_len caps.length s t
  have h1 := List.length_filter_le (jamB caps s) (drawnL caps.length s t)
  have h2 := List.length_filter_le (oweB caps.length t) (drawnL caps.length s t)
  have h3 := List.length_filter_le (aboveB s t) (List.range caps.length)
  have h4 := List.length_filter_le (belowB s t) (List.range caps.length)
  rw [List.length_range] at h3 h4
  unfold objs pick
  simp only [List.length_append, List.length_map]
  omega
theorem cal_found_objections (F : TopF K mg CR CN CU fU KA mc) : C8.Cal P w K mg base 5 "found_objections" (SpT (Sg_found_objections CR)) [] := by
  refine cal_ty (k := 4) F.d_found_objections sc_found_objections (fun Ts T h => by obtain ⟨caps, s, t, rfl, rfl, S, hz⟩ := h; rfl) (fun _ _ _ _ _ _ us hl => match us, hl with | [_, _, _], _ => rfl) fun f cdv A outer s_ H_ E_ hr Ts T hs => ?_
  obtain ⟨caps, s, t, rfl, rfl, S, hz⟩ := hs
  refine ⟨_, (pss_cons (ps_set (i := 3) sc_found_objections.nd rfl (Or.inl rfl) (C8.pe_c (cal_range_objections F) hr (by decide) (by rfl) (pa_cons (pv 0) (pa_cons (pv 1) (pa_cons (pv 2) pa_nil)))))
      (pss_cons (ps_set (i := 4) sc_found_objections.nd rfl (Or.inl rfl) (C8.pe_c (cal_channel_objections F) hr (by decide) (by rfl) (pa_cons (pv 0) (pa_cons (pv 1) (pa_cons (pv 2) pa_nil)))))
      (pss_cons (ps_set (i := 5) sc_found_objections.nd rfl (Or.inl rfl) (C8.pe_c (cal_end_objections F) hr (by decide) (by rfl) (pa_cons (pv 0) (pa_cons (pv 1) (pa_cons (pv 2) pa_nil)))))
      (pss_one (ps_ret (pe_op op_cat (pe_op op_cat (pv 3) (pv 4)) (pv 5))))))), ?_⟩
  have hl := objs_len caps s t
  have e := congrArg List.length (objs_ty caps s t)
  simp only [List.length_map, List.length_append] at e
  refine b_asg (e_call (a_cons (e_var rfl) (a_cons (e_var rfl) (a_cons (e_var rfl) a_nil))) ⟨caps, s, t, rfl, rfl, S, hz⟩) (b_asg (e_call (a_cons (e_var rfl) (a_cons (e_var rfl) (a_cons (e_var rfl) a_nil))) ⟨caps, s, t, rfl, rfl, S, hz⟩) (b_asg (e_call (a_cons (e_var rfl) (a_cons (e_var rfl) (a_cons (e_var rfl) a_nil))) ⟨caps, s, t, rfl, rfl, S, hz⟩)
    (b_ret (e_is (e_op (e_op (e_var rfl) (e_var rfl) (o_catL ?_)) (e_var rfl) (o_catL ?_)) ?_))))
  · simp only [List.length_map, List.length_append]
    omega
  · simp only [List.length_map, List.length_append, List.length_nil]
    omega
  · rw [List.append_nil, objs_ty]
def Sg_is_reached (CR : Addr) : Sig := fun Ts T => ∃ (caps s t : List Int), Ts = [netT CR caps, TN s, TN t] ∧ T = tL (freeB caps s t) ∧ Shape caps s t ∧ caps.length ≤ 100
theorem len0 {α : Type} (l : List α) : decide (V.int ((l.length : Nat) : Int) = V.int 0) = l.isEmpty := by
  cases l with
  | nil => rfl
  | cons a l =>
    refine decide_eq_false fun h => ?_
    have z := V.int.inj h
    rw [List.length_cons] at z
    omega
theorem cal_is_reached (F : TopF K mg CR CN CU fU KA mc) : C8.Cal P w K mg base 6 "is_reached" (SpT (Sg_is_reached CR)) [] := by
  refine cal_ty (k := 5) F.d_is_reached sc_is_reached (fun Ts T h => by obtain ⟨caps, s, t, rfl, rfl, S, hz⟩ := h; rfl) (fun _ _ _ _ _ _ us hl => match us, hl with | [_, _, _], _ => rfl) fun f cdv A outer s_ H_ E_ hr Ts T hs => ?_
  obtain ⟨caps, s, t, rfl, rfl, S, hz⟩ := hs
  refine ⟨_, (pss_one (ps_ret (pe_cmpR op_eq (pe_callB (klen K) (by rfl) F.n_len b_len (pa_cons (C8.pe_c (cal_found_objections F) hr (by decide) (by rfl) (pa_cons (pv 0) (pa_cons (pv 1) (pa_cons (pv 2) pa_nil)))) pa_nil)) pe_int (nomark _)))), ?_⟩
  refine b_ret (e_is (e_op (e_cb (a_cons (e_call (a_cons (e_var rfl) (a_cons (e_var rfl) (a_cons (e_var rfl) a_nil))) ⟨caps, s, t, rfl, rfl, S, hz⟩) a_nil) c_lenL) e_c (o_eq rfl)) ?_)
  rw [len0, List.isEmpty_map]
  rfl
def Sg_gap : Sig := fun Ts T => ∃ (s t : List Int), Ts = [TN s, TN t] ∧ T = tI (gapL s t) ∧ s.length = t.length ∧ s.length ≤ 100
theorem given_all (n : Nat) (u : Nat → Ty) : WT.given n (fun _ => true) u = (List.range n).map u := by
  unfold WT.given
  rw [List.filter_eq_self.2 fun _ _ => rfl]
theorem cal_gap (F : TopF K mg CR CN CU fU KA mc) : C8.Cal P w K mg base 1 "gap" (SpT Sg_gap) [] := by
  refine cal_ty (k := 0) F.d_gap sc_gap (fun Ts T h => by obtain ⟨s, t, rfl, rfl, hl, hz⟩ := h; rfl) (fun _ _ _ _ _ _ us hl => match us, hl with | [_, _], _ => rfl) fun f cdv A outer s_ H_ E_ hr Ts T hs => ?_
  obtain ⟨s, t, rfl, rfl, hl, hz⟩ := hs
  refine ⟨_, (pss_one (ps_ret (pe_callB (ksum K rfl) (by rfl) F.n_sum b_sum (pa_cons (pe_lc (own := [("counter", 2), ("goal", 3)]) (g := gTup K 2 (gCons (gName 2) (gCons (gName 3) gNil))) rfl sc_gap.nd (kzip K (by rfl) F.n_zip (pa_cons (pv 0) (pa_cons (pv 1) pa_nil))) (blkOk_by (N := ["start", "target", "counter", "goal"]) (sc := defScope s_gap) (by decide +kernel)) (fun _ _ _ _ _ => (pg_tup rfl (pgs_cons (pg_name (i := 2) sc_gap.nd rfl (Or.inl rfl)) (pgs_cons (pg_name (i := 3) sc_gap.nd rfl (Or.inl rfl)) pgs_nil)))) (fun _ _ _ _ _ => pts_nil) (fun _ _ _ _ _ => (pe_callB call_abs (by rfl) F.n_abs b_abs (pa_cons (pe_op op_sub (pv 3) (pv 2)) pa_nil)))) pa_nil)))), ?_⟩
  refine b_ret (e_cb (Ts := [lst ((((s.zip t).map fun p => absI (p.2 - p.1))).map tI)]) (a_cons (e_is (e_lc (n := s.length) (f := fun _ => true) (u := fun i => tI (absI (gi t i - gi s i))) (Γs := fun i => [some (TN s), some (TN t), some (tI (gi s i)), some (tI (gi t i))])
    (i_zip (a_cons (e_var rfl) (a_cons (e_var rfl) a_nil)) (by simp) (by simp [hl]) (fun i hi => tn_at hi) (fun i hi => tn_at (hl ▸ hi))) (fun i hi => g_pair) (by decide) (fun i hi => t_yes) (fun i hi _ => e_cb (Ts := [tI (gi t i - gi s i)]) (a_cons (e_op (e_var rfl) (e_var rfl) o_I0) a_nil) c_abs) (by omega)) (U := lst ((((s.zip t).map fun p => absI (p.2 - p.1))).map tI)) ?_) a_nil) c_sum)
  rw [given_all, ← gap_range hl, List.map_map]
  rfl
def Sg_moves_towards : Sig := fun Ts T => ∃ (s t : List Int), Ts = [TN s, TN t] ∧ T = lst ((towards s.length s t).map mvT) ∧ s.length = t.length ∧ s.length ≤ 100
theorem cal_moves_towards (F : TopF K mg CR CN CU fU KA mc) : C8.Cal P w K mg base 1 "moves_towards" (SpT Sg_moves_towards) [] := by
  refine cal_ty (k := 0) F.d_moves_towards sc_moves_towards (fun Ts T h => by obtain ⟨s, t, rfl, rfl, hl, hz⟩ := h; rfl) (fun _ _ _ _ _ _ us hl => match us, hl with | [_, _], _ => rfl) fun f cdv A outer s_ H_ E_ hr Ts T hs => ?_
  obtain ⟨s, t, rfl, rfl, hl, hz⟩ := hs
  refine ⟨_, (pss_one (ps_ret (pe_lc (own := [("stage", 2), ("counter", 3)]) (g := gTup K 2 (gCons (gName 2) (gCons (gName 3) gNil))) rfl sc_moves_towards.nd (kenum K rfl F.n_enumerate (pa_cons (pv 0) pa_nil)) (blkOk_by (N := ["state", "target", "stage", "counter"]) (sc := defScope s_moves_towards) (by decide +kernel)) (fun _ _ _ _ _ => (pg_tup rfl (pgs_cons (pg_name (i := 2) sc_moves_towards.nd rfl (Or.inl rfl)) (pgs_cons (pg_name (i := 3) sc_moves_towards.nd rfl (Or.inl rfl)) pgs_nil)))) (fun _ _ _ _ _ => (pts_one (pt_cmpR op_ne (pe_ix (kixT K) (pv 1) (pv 2) (fun _ _ => rfl)) (pv 3) (nomark _)))) (fun _ _ _ _ _ => (pe_tup (pa_cons (pv 2) (pa_cons (pe_ifExp (pt_cmpR op_gt (pe_ix (kixT K) (pv 1) (pv 2) (fun _ _ => rfl)) (pv 3) (nomark _)) pe_str pe_str) pa_nil))))))), ?_⟩
  refine b_ret (e_is (e_lc (n := s.length) (f := fun i => decide (gi t i ≠ gi s i)) (u := fun i => mvT (i, decide (gi s i < gi t i))) (Γs := fun i => [some (TN s), some (TN t), some (tI (i : Nat)), some (tI (gi s i))])
    (i_enum (a_cons (e_var rfl) a_nil) (by simp) fun i hi => tn_at hi) (fun i hi => g_pair) (by decide) (fun i hi => t_is (t_test (e_op (e_op (e_var rfl) (e_var rfl) (o_ixN (hl ▸ hi))) (e_var rfl) (o_ne rfl))) ?_)
    (fun i hi _ => e_tup (a_cons (e_var rfl) (a_cons (e_is (e_ifV (t_test (e_op (e_op (e_var rfl) (e_var rfl) (o_ixN (hl ▸ hi))) (e_var rfl) o_I0)) e_c e_c) ?_) a_nil)) (by simp)) (by omega)) ?_)
  · by_cases e : gi t i = gi s i <;> simp [e]
  · by_cases e : gi s i < gi t i <;> simp [e]
  · rw [given_pick]
    unfold towards
    rw [List.map_map]
    rfl
def Sg_jams_needed_channel (CR : Addr) : Sig := fun Ts T => ∃ (caps s t : List Int) (m : Mv), Ts = [netT CR caps, TN s, TN t, mvT m] ∧ T = tL (jamsB caps s t m) ∧ m.1 < caps.length ∧ Shape caps s t ∧ caps.length ≤ 100
def oppM (n : Nat) (m : Mv) : Nat := if m.2 = true then m.1 else pvN n m.1
theorem opp_lt {caps s t : List Int} {m : Mv} (S : Shape caps s t) (h : m.1 < caps.length) : oppM caps.length m < caps.length := by
  unfold oppM
  split
  · exact h
  · exact pvN_lt S.big _
theorem any_one (b c : Bool) : ((List.replicate (if b = true then 1 else 0) c).any id) = (b && c) := by
  cases b <;> cases c <;> rfl
theorem given1 (b : Bool) (u : Ty) : WT.given 1 (fun _ => b) (fun _ => u) = List.replicate (if b = true then 1 else 0) u := by
  cases b <;> rfl
theorem given_rep (k : Nat) (c : Bool) : WT.given k (fun _ => true) (fun _ => tL c) = (List.replicate k c).map fun b => tL b := by
  rw [given_all]
  induction k with
  | zero => rfl
  | succ k ih => rw [List.range_succ, List.map_append, ih, List.replicate_succ', List.map_append]; rfl
theorem rep_at {k i : Nat} {u : Ty} (h : i < k) : (List.replicate k u)[i]? = some u := by
  rw [List.getElem?_replicate, if_pos h]
theorem cal_jams_needed_channel (F : TopF K mg CR CN CU fU KA mc) : C8.Cal P w K mg base 4 "jams_needed_channel" (SpT (Sg_jams_needed_channel CR)) [] := by
  refine cal_ty (k := 3) F.d_jams_needed_channel sc_jams_needed_channel (fun Ts T h => by obtain ⟨caps, s, t, m, rfl, rfl, h, S, hz⟩ := h; rfl) (fun _ _ _ _ _ _ us hl => match us, hl with | [_, _, _, _], _ => rfl) fun f cdv A outer s_ H_ E_ hr Ts T hs => ?_
  obtain ⟨caps, s, t, m, rfl, rfl, h, S, hz⟩ := hs
  refine ⟨_, (pss_cons (ps_asg (pv 3) (pg_tup rfl (pgs_cons (pg_name (i := 4) sc_jams_needed_channel.nd rfl (Or.inl rfl)) (pgs_cons (pg_name (i := 5) sc_jams_needed_channel.nd rfl (Or.inl rfl)) pgs_nil))))
      (pss_cons (ps_set (i := 6) sc_jams_needed_channel.nd rfl (Or.inl rfl) (pe_ifExp (pt_cmpR op_eq (pv 5) pe_str (nomark _)) (C8.pe_mt (met_outgoing F) hr (by decide) (pv 0) (pa_cons (pv 4) pa_nil)) (C8.pe_mt (met_incoming F) hr (by decide) (pv 0) (pa_cons (pv 4) pa_nil))))
      (pss_cons (ps_setLc (i := 7) (own := [("number", 8)]) (g := gName 8) rfl sc_jams_needed_channel.nd rfl rfl (sw_true rfl rfl rfl (by decide +kernel)) (kpiT K (pv 6)) (blkOk_by (N := ["net", "state", "target", "move", "stage", "kind", "numbers", "full", "number", "channel"]) (sc := defScope s_jams_needed_channel) (by decide +kernel)) (fun _ _ _ _ _ => (pg_name (i := 8) sc_jams_needed_channel.nd rfl (Or.inl rfl))) (fun _ _ _ _ _ => (pts_one (pt_cmpR op_eq (C8.pe_c (cal_load_of F) hr (by decide) (by rfl) (pa_cons (pe_ix (kixT K) (pfv K 0) (pv 8) (fun _ _ => rfl)) (pa_cons (pv 1) pa_nil))) (pe_ix (kixT K) (pe_ix (kixT K) (pfv K 0) (pv 8) (fun _ _ => rfl)) pe_int (fun _ _ => rfl)) (nomark _)))) (fun _ _ _ _ _ => (pe_ix (kixT K) (pfv K 0) (pv 8) (fun _ _ => rfl))))
      (pss_cons (ps_if (pt_cmpR op_eq (pv 5) pe_str (nomark _)) (pss_one (ps_ret (pe_callB (kany K rfl) (by rfl) F.n_any b_any (pa_cons (pe_lc (own := [("channel", 9)]) (g := gName 9) rfl sc_jams_needed_channel.nd (kpiL K (pv 7)) (blkOk_by (N := ["net", "state", "target", "move", "stage", "kind", "numbers", "full", "number", "channel"]) (sc := defScope s_jams_needed_channel) (by decide +kernel)) (fun _ _ _ _ _ => (pg_name (i := 9) sc_jams_needed_channel.nd rfl (Or.inl rfl))) (fun _ _ _ _ _ => pts_nil) (fun _ _ _ _ _ => (pe_cmpR op_gt (pe_ix (kixT K) (pv 2) (pe_ix (kixT K) (pv 9) pe_int (fun _ _ => rfl)) (fun _ _ => rfl)) (pe_ix (kixT K) (pv 1) (pe_ix (kixT K) (pv 9) pe_int (fun _ _ => rfl)) (fun _ _ => rfl)) (nomark _)))) pa_nil)))) pss_nil)
      (pss_one (ps_ret (pe_callB (kany K rfl) (by rfl) F.n_any b_any (pa_cons (pe_lc (own := [("channel", 9)]) (g := gName 9) rfl sc_jams_needed_channel.nd (kpiL K (pv 7)) (blkOk_by (N := ["net", "state", "target", "move", "stage", "kind", "numbers", "full", "number", "channel"]) (sc := defScope s_jams_needed_channel) (by decide +kernel)) (fun _ _ _ _ _ => (pg_name (i := 9) sc_jams_needed_channel.nd rfl (Or.inl rfl))) (fun _ _ _ _ _ => pts_nil) (fun _ _ _ _ _ => (pe_cmpR op_lt (pe_ix (kixT K) (pv 2) (pe_ix (kixT K) (pv 9) pe_int (fun _ _ => rfl)) (fun _ _ => rfl)) (pe_ix (kixT K) (pv 1) (pe_ix (kixT K) (pv 9) pe_int (fun _ _ => rfl)) (fun _ _ => rfl)) (nomark _)))) pa_nil)))))))), ?_⟩
  have ho := opp_lt S h
  have o1 : oppM caps.length m < s.length := by rw [S.ls]; exact ho
  have o2 : nxN caps.length (oppM caps.length m) < s.length := by rw [S.ls]; exact nxN_lt S.big _
  have o3 : oppM caps.length m < t.length := by rw [S.lt]; exact ho
  have o4 : nxN caps.length (oppM caps.length m) < t.length := by rw [S.lt]; exact nxN_lt S.big _
  have hk : (if decide (ld caps.length s (oppM caps.length m) = gi caps (oppM caps.length m)) = true then 1 else 0) ≤ 40000 := by split <;> omega
  refine b_asgT (e_var rfl) (b_asg (T := tup [tI (oppM caps.length m : Nat)]) (e_if (b := m.2) (t_is (t_test (e_op (e_var rfl) e_c (o_eq rfl))) (kind_dec m.2)) (fun hb => e_meth (e_var rfl) (by simp) (a_cons (e_var rfl) a_nil) ⟨caps, m.1, rfl, ?_, h⟩) (fun hb => e_meth (e_var rfl) (by simp) (a_cons (e_var rfl) a_nil) ⟨caps, m.1, rfl, ?_, h⟩))
    (b_asg (T := lst (List.replicate (if decide (ld caps.length s (oppM caps.length m) = gi caps (oppM caps.length m)) = true then 1 else 0) (chT caps (oppM caps.length m)))) (e_is (e_lc (n := 1) (f := fun _ => decide (ld caps.length s (oppM caps.length m) = gi caps (oppM caps.length m))) (u := fun _ => chT caps (oppM caps.length m)) (Γs := fun _ => [some (netT CR caps), some (TN s), some (TN t), some (mvT m), some (tI (m.1 : Nat)), _, some (tup [tI (oppM caps.length m : Nat)]), none, some (tI (oppM caps.length m : Nat)), none])
      (i_tup (e_var rfl) rfl fun i hi => ?_) (fun i hi => g_name) (by decide) (fun i hi => t_is (t_test (e_op (e_call (a_cons (e_op (e_channels F (e_var rfl)) (e_var rfl) (o_ixR ho)) (a_cons (e_var rfl) a_nil)) ⟨caps, s, _, rfl, rfl, ho, ⟨S.big, S.ls, S.ls⟩⟩) (e_op (e_op (e_channels F (e_var rfl)) (e_var rfl) (o_ixR ho)) e_c (o_ixT (by decide) rfl)) (o_eq rfl))) (decide_eq_decide.mpr ⟨fun h => V.int.inj h, fun h => congrArg V.int h⟩)) (fun i hi _ => e_op (e_channels F (e_var rfl)) (e_var rfl) (o_ixR ho)) (by omega)) (congrArg lst (given1 _ _)))
    (b_if (b := m.2) (t_is (t_test (e_op (e_var rfl) e_c (o_eq rfl))) (kind_dec m.2)) (fun hb => b_ret (e_is (e_cb (a_cons (e_is (e_lc (n := _) (tf := fun _ => chT caps (oppM caps.length m)) (f := fun _ => true) (u := fun _ => tL (decide (gi s (nxN caps.length (oppM caps.length m)) < gi t (nxN caps.length (oppM caps.length m))))) (Γs := fun _ => [some (netT CR caps), some (TN s), some (TN t), some (mvT m), some (tI (m.1 : Nat)), _, some (tup [tI (oppM caps.length m : Nat)]), _, none, some (chT caps (oppM caps.length m))])
        (i_list (e_var rfl) List.length_replicate fun i hi => rep_at hi) (fun i hi => g_name) (by decide) (fun i hi => t_yes) (fun i hi _ => e_op (e_op (e_var rfl) (e_op (e_var rfl) e_c (o_ixT (by decide) rfl)) (o_ixN o4)) (e_op (e_var rfl) (e_op (e_var rfl) e_c (o_ixT (by decide) rfl)) (o_ixN o2)) o_I0) hk) (congrArg lst (given_rep _ _))) a_nil) c_any) ?_))
      (fun hb => b_ret (e_is (e_cb (a_cons (e_is (e_lc (n := _) (tf := fun _ => chT caps (oppM caps.length m)) (f := fun _ => true) (u := fun _ => tL (decide (gi t (oppM caps.length m) < gi s (oppM caps.length m)))) (Γs := fun _ => [some (netT CR caps), some (TN s), some (TN t), some (mvT m), some (tI (m.1 : Nat)), _, some (tup [tI (oppM caps.length m : Nat)]), _, none, some (chT caps (oppM caps.length m))])
        (i_list (e_var rfl) List.length_replicate fun i hi => rep_at hi) (fun i hi => g_name) (by decide) (fun i hi => t_yes) (fun i hi _ => e_op (e_op (e_var rfl) (e_op (e_var rfl) e_c (o_ixT (by decide) rfl)) (o_ixN o3)) (e_op (e_var rfl) (e_op (e_var rfl) e_c (o_ixT (by decide) rfl)) (o_ixN o1)) o_I0) hk) (congrArg lst (given_rep _ _))) a_nil) c_any) ?_)))))
  · unfold oppM
    rw [if_pos hb]
  · unfold oppM
    rw [hb, if_neg (Bool.false_ne_true)]
  · have e : i = 0 := by omega
    subst e
    rfl
  · rw [any_one]
    unfold jamsB oppM
    rw [if_pos hb, if_pos hb]
  · rw [any_one]
    unfold jamsB oppM
    rw [hb, if_neg (Bool.false_ne_true), if_neg (nomatch ·)]
def Sg_first_of (CR : Addr) : Sig := fun Ts T => ∃ (caps s t : List Int), Ts = [netT CR caps, TN s, TN t] ∧ T = lst ((firstOf caps s t).map mvT) ∧ Shape caps s t ∧ caps.length ≤ 100
theorem tow_lt {n : Nat} {s t : List Int} {i : Nat} (h : i < (towards n s t).length) : ((towards n s t).getD i (0, true)).1 < n := by
  have e : (towards n s t).getD i (0, true) ∈ towards n s t := by
    rw [List.getD_eq_getElem?_getD, List.getElem?_eq_getElem h]
    exact List.getElem_mem h
  exact (mem_towards.mp e).1
theorem tow_len (n : Nat) (s t : List Int) : (towards n s t).length ≤ n := by
  unfold towards pick
  rw [List.length_map]
  have h := List.length_filter_le (fun i => decide (gi t i ≠ gi s i)) (List.range n)
  rw [List.length_range] at h
  exact h
theorem cal_first_of (F : TopF K mg CR CN CU fU KA mc) : C8.Cal P w K mg base 7 "first_of" (SpT (Sg_first_of CR)) [] := by
  refine cal_ty (k := 6) F.d_first_of sc_first_of (fun Ts T h => by obtain ⟨caps, s, t, rfl, rfl, S, hz⟩ := h; rfl) (fun _ _ _ _ _ _ us hl => match us, hl with | [_, _, _], _ => rfl) fun f cdv A outer s_ H_ E_ hr Ts T hs => ?_
  obtain ⟨caps, s, t, rfl, rfl, S, hz⟩ := hs
  refine ⟨_, (pss_one (ps_ret (pe_lc (own := [("move", 3)]) (g := gName 3) rfl sc_first_of.nd (kpiL K (C8.pe_c (cal_moves_towards F) hr (by decide) (by rfl) (pa_cons (pv 1) (pa_cons (pv 2) pa_nil)))) (blkOk_by (N := ["net", "state", "target", "move"]) (sc := defScope s_first_of) (by decide +kernel)) (fun _ _ _ _ _ => (pg_name (i := 3) sc_first_of.nd rfl (Or.inl rfl))) (fun _ _ _ _ _ => (pts_one (pw_and (pt_val (C8.pe_c (cal_is_allowed F) hr (by decide) (by rfl) (pa_cons (pv 0) (pa_cons (pv 1) (pa_cons (pv 3) pa_nil))))) (pw_and1 (pt_not (pt_val (C8.pe_c (cal_jams_needed_channel F) hr (by decide) (by rfl) (pa_cons (pv 0) (pa_cons (pv 1) (pa_cons (pv 2) (pa_cons (pv 3) pa_nil))))))))).pt)) (fun _ _ _ _ _ => (pv 3))))), ?_⟩
  have hl := tow_len caps.length s t
  refine b_ret (e_is (e_lc (n := (towards caps.length s t).length) (f := fun i => okM caps s ((towards caps.length s t).getD i (0, true)) && !jamsB caps s t ((towards caps.length s t).getD i (0, true))) (u := fun i => mvT ((towards caps.length s t).getD i (0, true))) (tf := fun i => mvT ((towards caps.length s t).getD i (0, true)))
    (Γs := fun i => [some (netT CR caps), some (TN s), some (TN t), some (mvT ((towards caps.length s t).getD i (0, true)))])
    (i_list (e_call (a_cons (e_var rfl) (a_cons (e_var rfl) a_nil)) ⟨s, t, rfl, rfl, by rw [S.ls, S.lt], by rw [S.ls]; exact hz⟩) (by rw [List.length_map, S.ls]) fun i hi => by rw [S.ls]; exact list_at hi) (fun i hi => g_name) (by decide)
    (fun i hi => t_and (t_B (e_call (a_cons (e_var rfl) (a_cons (e_var rfl) (a_cons (e_var rfl) a_nil))) ⟨caps, s, _, rfl, rfl, tow_lt hi, ⟨S.big, S.ls, S.ls⟩⟩)) fun _ => t_not (t_B (e_call (a_cons (e_var rfl) (a_cons (e_var rfl) (a_cons (e_var rfl) (a_cons (e_var rfl) a_nil)))) ⟨caps, s, t, _, rfl, rfl, tow_lt hi, S, hz⟩)))
    (fun i hi _ => e_var rfl) (by omega)) ?_)
  exact congrArg lst (given_list (towards caps.length s t) (0, true) (fun m => okM caps s m && !jamsB caps s t m) mvT)
end
end WD

set_option Elab.async false
set_option linter.all false
set_option maxRecDepth 100000
set_option maxHeartbeats 3900000
namespace WD
open PySem PySem.Spec PyProof.Rows L2 Evl WT WM WB
/-! ### comparisons by data -/
section
variable {X : Cx} {K : PySem.W.Frag}
abbrev Tt := PySem.W.Tup Int
def dTup (K : PySem.W.Frag) : Hp → V → Tt → Prop := fun H v x => ∃ a, v = .ref a ∧ SqT K H a (x.items.map V.int)
def dIS (K : PySem.W.Frag) : Hp → V → Int × Str → Prop := fun H v x => ∃ a, v = .ref a ∧ SqT K H a [.int x.1, .str x.2]
def dSI (K : PySem.W.Frag) : Hp → V → Str × Int → Prop := fun H v x => ∃ a, v = .ref a ∧ SqT K H a [.str x.1, .int x.2]
theorem snd_tup (h : X.K = K := by rfl) : WR.Snd X (dTup K) := by
  subst h
  intro pins σ H s v u x I d r
  obtain ⟨a, rfl, q⟩ := d
  cases r
  obtain ⟨its, rv, p, _⟩ := I.tuple q
  refine PySem.W.holds_tup (show s.heap.IsTuple a its.toArray from p) ?_
  have e := List.toList_toArray (as := its)
  rw [e]
  exact PySem.W.HoldAll.of_ints rv.ints
theorem snd_is (h : X.K = K := by rfl) : WR.Snd X (dIS K) := by
  subst h
  intro pins σ H s v u x I d r
  obtain ⟨a, rfl, q⟩ := d
  cases r
  obtain ⟨its, rv, p, _⟩ := I.tuple q
  obtain ⟨u1, u2, e, ⟨t1, r1⟩, ⟨t2, r2⟩⟩ := vals2 rv
  subst e r1 r2
  exact PySem.W.holds_pair (show s.heap.IsTuple a #[_, _] from p) (PySem.W.holds_int _ _) (PySem.W.holds_str _ _)
theorem snd_si (h : X.K = K := by rfl) : WR.Snd X (dSI K) := by
  subst h
  intro pins σ H s v u x I d r
  obtain ⟨a, rfl, q⟩ := d
  cases r
  obtain ⟨its, rv, p, _⟩ := I.tuple q
  obtain ⟨u1, u2, e, ⟨t1, r1⟩, ⟨t2, r2⟩⟩ := vals2 rv
  subst e r1 r2
  exact PySem.W.holds_pair (show s.heap.IsTuple a #[_, _] from p) (PySem.W.holds_str _ _) (PySem.W.holds_int _ _)
theorem kinDt (K : PySem.W.Frag) {α : Type} [DecidableEq α] [PySem.W.Datum α] {D : Hp → V → α → Prop} (S : WR.Snd X D) (hd : PySem.W.Datum.depth α ≤ 8) (hu : X.A.units + 64 < cLine) (h : X.K = K := by rfl) : OpR X (compareOp .In) (WR.rInDt K D false) := by subst h; exact WR.op_inDt S hd hu
theorem knotinDt (K : PySem.W.Frag) {α : Type} [DecidableEq α] [PySem.W.Datum α] {D : Hp → V → α → Prop} (S : WR.Snd X D) (hd : PySem.W.Datum.depth α ≤ 8) (hu : X.A.units + 64 < cLine) (h : X.K = K := by rfl) : OpR X (compareOp .NotIn) (WR.rInDt K D true) := by subst h; exact WR.op_notInDt S hd hu
end
section
variable {K : PySem.W.Frag}
theorem d_tup {v : V} {S : List Addr} {H : Hp} {xs : List Int} (h : (TN xs).p v (hid S H)) : dTup K H v ⟨xs⟩ := by
  obtain ⟨a, e, h2⟩ := ti_at h
  exact ⟨a, e, st_of (hid_some h2).2⟩
def mvD (m : Mv) : Int × Str := ((m.1 : Int), if m.2 = true then "advance" else "rollback")
def obD (o : Tag × Nat) : Str × Int := (tagS o.1, (o.2 : Int))
theorem mvD_inj {m k : Mv} (h : mvD m = mvD k) : m = k := by
  obtain ⟨i, a⟩ := m
  obtain ⟨j, b⟩ := k
  have h1 : ((i : Nat) : Int) = (j : Nat) := congrArg Prod.fst h
  have h2 : (if a = true then ("advance" : Str) else ("rollback" : Str)) = (if b = true then ("advance" : Str) else ("rollback" : Str)) := congrArg Prod.snd h
  have e1 : i = j := by omega
  subst e1
  cases a <;> cases b
  · rfl
  · exact absurd h2 (by decide)
  · exact absurd h2 (by decide)
  · rfl
theorem pair_at {v : V} {H : Hp} {x y : V} (h : (tup [tv x, tv y]).p v H) : ∃ a, v = .ref a ∧ H a = some (.tup [x, y]) := by
  obtain ⟨a, vs, e, h2, h3⟩ := h
  cases h3 with
  | cons p1 r =>
    cases r with
    | cons p2 r =>
      cases r
      rw [show _ = x from p1, show _ = y from p2] at h2
      exact ⟨a, e, h2⟩
theorem d_mv {v : V} {S : List Addr} {H : Hp} {m : Mv} (h : (mvT m).p v (hid S H)) : dIS K H v (mvD m) := by
  obtain ⟨a, e, h2⟩ := pair_at h
  exact ⟨a, e, st_of (hid_some h2).2⟩
theorem d_ob {v : V} {S : List Addr} {H : Hp} {o : Tag × Nat} (h : (objT o).p v (hid S H)) : dSI K H v (obD o) := by
  obtain ⟨a, e, h2⟩ := pair_at h
  exact ⟨a, e, st_of (hid_some h2).2⟩
theorem d_all {α β : Type} {D : Hp → V → α → Prop} {S : List Addr} {H : Hp} {f : β → Ty} {g : β → α} (hd : ∀ v x, (f x).p v (hid S H) → D H v (g x)) : ∀ {vs : List V} {xs : List β}, Ps (hid S H) vs (xs.map f) → PySem.Paired (D H) vs (xs.map g)
  | _, [], .nil => .nil
  | _, x :: xs, .cons a b => .cons (hd _ _ a) (d_all hd b)
/-- a == b -/
theorem o_eqD {α : Type} [DecidableEq α] [PySem.W.Datum α] {D : Hp → V → α → Prop} {T U : Ty} {x y : α} (h1 : ∀ (S : List Addr) (H : Hp) v, T.p v (hid S H) → D H v x) (h2 : ∀ (S : List Addr) (H : Hp) v, U.p v (hid S H) → D H v y) : Op2 (WR.rEqDt D) T U (tL (decide (x = y))) :=
  fun S H a b l p1 p2 Q q => ⟨x, y, h1 S H a p1, h2 S H b p2, q _ H (Ex.refl H) rfl⟩
theorem o_inD {α β : Type} [DecidableEq α] [PySem.W.Datum α] {D : Hp → V → α → Prop} {T : Ty} {f : β → Ty} {g : β → α} {x : α} {ys : List β} (h1 : ∀ (S : List Addr) (H : Hp) v, T.p v (hid S H) → D H v x) (h2 : ∀ (S : List Addr) (H : Hp) v y, (f y).p v (hid S H) → D H v (g y)) :
    Op2 (WR.rInDt K D false) T (lst (ys.map f)) (tL (decide (x ∈ ys.map g))) := fun S H a b l p1 p2 Q q => by
  obtain ⟨c, vs, e, e2, e3⟩ := p2
  refine ⟨x, c, vs, ys.map g, h1 S H a p1, e, sq_of (hid_some e2).2, d_all (h2 S H) e3, ?_⟩
  rw [if_neg (Bool.false_ne_true)]
  exact q _ H (Ex.refl H) rfl
theorem o_ninD {α β : Type} [DecidableEq α] [PySem.W.Datum α] {D : Hp → V → α → Prop} {T : Ty} {f : β → Ty} {g : β → α} {x : α} {ys : List β} (h1 : ∀ (S : List Addr) (H : Hp) v, T.p v (hid S H) → D H v x) (h2 : ∀ (S : List Addr) (H : Hp) v y, (f y).p v (hid S H) → D H v (g y)) :
    Op2 (WR.rInDt K D true) T (lst (ys.map f)) (tL (decide (x ∉ ys.map g))) := fun S H a b l p1 p2 Q q => by
  obtain ⟨c, vs, e, e2, e3⟩ := p2
  refine ⟨x, c, vs, ys.map g, h1 S H a p1, e, sq_of (hid_some e2).2, d_all (h2 S H) e3, ?_⟩
  rw [if_pos rfl]
  exact q _ H (Ex.refl H) rfl
/-- a tuple that is known to have no dict -/
def frz (ts : List Ty) : Ty := ⟨fun v H => ∃ a vs, v = .ref a ∧ WR.FrzT H a vs ∧ Ps H vs ts, fun e ⟨a, vs, h1, ⟨o, h2, h3⟩, h4⟩ => ⟨a, vs, h1, ⟨o, h2, e _ _ h3⟩, h4.mono e⟩⟩
theorem ktupFrz {X : Cx} (K : PySem.W.Frag) {a : Expr} {ta : TE} {p pos : Pos} (hg : Gl X "tuple") (hm : X.mg "tuple" = none) (ha : PE X a ta) (na : starEach [a] X.env = (false, eval a X.env) :: starEach [] X.env := by rfl) (h : X.K = K := by rfl) :
    PE X (.Call (.Name "tuple" p) [a] [] pos) (WR.tTupFrz K ta) := by subst h; exact WR.pe_tupFrz hg hm ha na
theorem e_tupFrz {Γ : Cn} {te : TE} {ts : List Ty} (h : EvP te Γ (lst ts)) : EvP (WR.tTupFrz K te) Γ (frz ts) := fun S σ H a Q q => h S σ H a _ fun v H1 e1 ⟨c, vs, f1, f2, f3⟩ =>
  ⟨c, vs, f1, sq_of (hid_some f2).2, fun p hp H2 hs hf => by
    have e2 : Ex H1 H2 := fun b o hb => by
      rw [hs b (ne_of_none hb hp)]
      exact hb
    obtain ⟨o, ho, hH⟩ := hf
    refine q _ H2 (e1.trans e2) ⟨p, vs, rfl, ⟨o, ho, ?_⟩, f3.mono (ex_hid e2)⟩
    rw [hid_of ((a.ex e1).live.free hp)]
    exact hH⟩
end
section
variable {w : World} {P : Program} {K : PySem.W.Frag} {mg : Str → Option Value} {base : Heap} {CR CN CU fU KA : Addr} {mc : Value}
def Sg_plan_of (CR : Addr) : Sig := fun Ts T => ∃ (caps s t : List Int), Ts = [netT CR caps, TN s, TN t] ∧ T = tup ((planL caps s t).map mvT) ∧ Shape caps s t ∧ caps.length ≤ 100 ∧ CapsOk caps ∧ Free caps s t ∧ gapL s t ≤ 2000
theorem cal_plan_of (F : TopF K mg CR CN CU fU KA mc) : C8.Cal P w K mg base 8 "plan_of" (SpT (Sg_plan_of CR)) [] := by
  refine cal_ty (k := 7) F.d_plan_of sc_plan_of (fun Ts T h => by obtain ⟨caps, s, t, rfl, rfl, S, hz, hc, N, hg⟩ := h; rfl) (fun _ _ _ _ _ _ us hl => match us, hl with | [_, _, _], _ => rfl) fun f cdv A outer s_ H_ E_ hr Ts T hs => ?_
  obtain ⟨caps, s, t, rfl, rfl, S, hz, hc, N, hg⟩ := hs
  refine ⟨_, (pss_cons (ps_set (i := 3) sc_plan_of.nd rfl (Or.inl rfl) (pv 1))
      (pss_cons (ps_set (i := 4) sc_plan_of.nd rfl (Or.inl rfl) (pe_lst pa_nil))
      (pss_cons (ps_for PassesOwn.never rfl (pi_range1 rfl F.n_range (pa_cons (C8.pe_c (cal_gap F) hr (by decide) (by rfl) (pa_cons (pv 1) (pa_cons (pv 2) pa_nil))) pa_nil)) (pg_name (i := 5) sc_plan_of.nd rfl (Or.inl rfl)) (pss_cons (ps_set (i := 6) sc_plan_of.nd rfl (Or.inl rfl) (pe_ix (kixL K) (C8.pe_c (cal_first_of F) hr (by decide) (by rfl) (pa_cons (pv 0) (pa_cons (pv 3) (pa_cons (pv 2) pa_nil)))) pe_int (fun _ _ => rfl)))
      (pss_cons (ps_expr (kapp K (pv 4) (pa_cons (pv 6) pa_nil)))
      (pss_one (ps_set (i := 3) sc_plan_of.nd rfl (Or.inl rfl) (C8.pe_c (cal_after F) hr (by decide) (by rfl) (pa_cons (pv 3) (pa_cons (pv 6) pa_nil))))))))
      (pss_one (ps_ret (pe_callTy (ktuple K) (by rfl) F.n_tuple b_tuple (pa_cons (pv 4) pa_nil))))))), ?_⟩
  have hnn := gapL_nn s t
  intro S0 D σ H a q
  refine q_asg (e_var rfl) a fun v1 H1 e1 a1 => q_new (ts := []) a_nil (by simp) a1 fun l H2 hn e2 g2 a2 => ?_
  have hnH := fresh_back e1 hn
  refine q_for (n := (gapL s t).toNat) (i_rng (a_cons (e_call (a_cons (e_var rfl) (a_cons (e_var rfl) a_nil)) ⟨s, t, rfl, rfl, by rw [S.ls, S.lt], by rw [S.ls]; exact hz⟩) a_nil) ⟨hnn, by omega⟩ rfl) a2
    (fun i σ' H' => At (l :: S0) [some (netT CR caps), some (TN s), some (TN t), some (TN (prs caps t s i)), some (tv (.ref l)), none, none] σ' H' ∧ Grow (l :: S0) H' l ((List.range i).map fun j => mvT (mvAt caps t s j)) ∧ Ex H H')
    (fun i σ' H' H3 e p => ⟨p.1.ex e, p.2.1.ex e, p.2.2.trans e⟩) (fun H3 e3 => ⟨a2.ex e3, g2.ex e3, (e1.trans e2).trans e3⟩) ?_ ?_
  · intro i v σ' H0 H' hlt g0 g1 p1 p2
    obtain ⟨b1, b2, b3⟩ := p2
    have c1 := b1.set (i := 5) p1
    have hf := prs_first S hc N hlt
    have Si : Shape caps (prs caps t s i) t := ⟨S.big, by rw [prs_len]; exact S.ls, S.lt⟩
    have hm1 := ((mem_first Si).mp hf).1
    have hx : ((firstOf caps (prs caps t s i) t).map mvT)[(0 : Int).toNat]? = some (mvT (mvAt caps t s i)) := by
      show ((firstOf caps (prs caps t s i) t).map mvT)[0]? = _
      unfold mvAt hdM
      cases e : firstOf caps (prs caps t s i) t with
      | nil =>
        rw [e] at hf
        cases hf
      | cons x xs => rfl
    refine q_asg (e_op (e_call (a_cons (e_var rfl) (a_cons (e_var rfl) (a_cons (e_var rfl) a_nil))) ⟨caps, _, t, rfl, rfl, Si, hz⟩) e_c (o_ixL (by decide) hx)) c1 fun v3 H3 e3 c3 => ?_
    refine q_app (e_var rfl) (e_var (T := mvT (mvAt caps t s i)) rfl) (by simp; omega) c3 (b2.ex e3) fun H4 g4 k4 c4 w4 => ?_
    refine s_asg (e_call (a_cons (e_var rfl) (a_cons (e_var rfl) a_nil)) ⟨prs caps t s i, mvAt caps t s i, rfl, rfl, by rw [Si.ls]; exact hm1, by rw [Si.ls]; exact hz⟩) c4 fun v5 H5 e5 c5 => ?_
    refine ⟨((g0.trans (.of g0.2 e3)).trans g4).trans (.of g4.2 e5), c5.le (le_cons (le_cons (le_cons (le_cons (le_cons (le_none (le_none le_nil))))))), ?_, fun b o hb => ?_⟩
    · have w5 := w4.ex e5
      rw [List.range_succ, List.map_append]
      exact w5
    · refine e5 _ _ (k4 b o (ne_of_none hb hnH) (e3 _ _ (b3 _ _ hb)))
  · intro σ' H' g' p
    obtain ⟨b1, b2, b3⟩ := p
    obtain ⟨v4, h4, h5⟩ := b1.env 4 _ rfl
    have h5' : v4 = .ref l := h5
    subst h5'
    have nS : l ∉ S0 := a.live.free hnH
    have b4 := b1.show.put (i := 4) h4 (b2.done nS)
    exact s_ret (e_cb (a_cons (e_var rfl) a_nil) c_tuple) b4 fun v H3 e3 p3 => q v H3 (b3.trans e3) (by unfold planL; rw [List.map_map]; exact p3)
def Sg_objections (CR : Addr) : Sig := fun Ts T => ∃ (caps s t : List Int), Ts = [netT CR caps, TN s, TN t] ∧ T = frz ((objs caps s t).map objT) ∧ Shape caps s t ∧ caps.length ≤ 100 ∧ InR s ∧ InR t
theorem cal_objections (F : TopF K mg CR CN CU fU KA mc) : C8.Cal P w K mg base 6 "objections" (SpT (Sg_objections CR)) [] := by
  refine cal_ty (k := 5) F.d_objections sc_objections (fun Ts T h => by obtain ⟨caps, s, t, rfl, rfl, S, hz, r1, r2⟩ := h; rfl) (fun _ _ _ _ _ _ us hl => match us, hl with | [_, _, _], _ => rfl) fun f cdv A outer s_ H_ E_ hr Ts T hs => ?_
  obtain ⟨caps, s, t, rfl, rfl, S, hz, r1, r2⟩ := hs
  refine ⟨_, (pss_cons (ps_expr (C8.pe_c (cal_check_state F) hr (by decide) (by rfl) (pa_cons (pv 0) (pa_cons (pv 1) pa_nil))))
      (pss_cons (ps_expr (C8.pe_c (cal_check_state F) hr (by decide) (by rfl) (pa_cons (pv 0) (pa_cons (pv 2) pa_nil))))
      (pss_one (ps_ret (ktupFrz K (by rfl) F.n_tuple (C8.pe_c (cal_found_objections F) hr (by decide) (by rfl) (pa_cons (pv 0) (pa_cons (pv 1) (pa_cons (pv 2) pa_nil))))))))), ?_⟩
  exact b_drop (e_call (a_cons (e_var rfl) (a_cons (e_var rfl) a_nil)) ⟨caps, s, rfl, rfl, S.ls, r1⟩) (b_drop (e_call (a_cons (e_var rfl) (a_cons (e_var rfl) a_nil)) ⟨caps, t, rfl, rfl, S.lt, r2⟩)
    (b_ret (e_tupFrz (e_call (a_cons (e_var rfl) (a_cons (e_var rfl) (a_cons (e_var rfl) a_nil))) ⟨caps, s, t, rfl, rfl, S, hz⟩))))
def Sg_reaches (CR : Addr) : Sig := fun Ts T => ∃ (caps s t : List Int), Ts = [netT CR caps, TN s, TN t] ∧ T = tL (freeB caps s t) ∧ Shape caps s t ∧ caps.length ≤ 100 ∧ InR s ∧ InR t
theorem cal_reaches (F : TopF K mg CR CN CU fU KA mc) : C8.Cal P w K mg base 7 "reaches" (SpT (Sg_reaches CR)) [] := by
  refine cal_ty (k := 6) F.d_reaches sc_reaches (fun Ts T h => by obtain ⟨caps, s, t, rfl, rfl, S, hz, r1, r2⟩ := h; rfl) (fun _ _ _ _ _ _ us hl => match us, hl with | [_, _, _], _ => rfl) fun f cdv A outer s_ H_ E_ hr Ts T hs => ?_
  obtain ⟨caps, s, t, rfl, rfl, S, hz, r1, r2⟩ := hs
  refine ⟨_, (pss_cons (ps_expr (C8.pe_c (cal_check_state F) hr (by decide) (by rfl) (pa_cons (pv 0) (pa_cons (pv 1) pa_nil))))
      (pss_cons (ps_expr (C8.pe_c (cal_check_state F) hr (by decide) (by rfl) (pa_cons (pv 0) (pa_cons (pv 2) pa_nil))))
      (pss_one (ps_ret (C8.pe_c (cal_is_reached F) hr (by decide) (by rfl) (pa_cons (pv 0) (pa_cons (pv 1) (pa_cons (pv 2) pa_nil)))))))), ?_⟩
  exact b_drop (e_call (a_cons (e_var rfl) (a_cons (e_var rfl) a_nil)) ⟨caps, s, rfl, rfl, S.ls, r1⟩) (b_drop (e_call (a_cons (e_var rfl) (a_cons (e_var rfl) a_nil)) ⟨caps, t, rfl, rfl, S.lt, r2⟩)
    (b_ret (e_call (a_cons (e_var rfl) (a_cons (e_var rfl) (a_cons (e_var rfl) a_nil))) ⟨caps, s, t, rfl, rfl, S, hz⟩)))
def Sg_is_objection (CR : Addr) : Sig := fun Ts T => ∃ (caps s t : List Int) (o : Tag × Nat), Ts = [netT CR caps, TN s, TN t, objT o] ∧ T = tL true ∧ Shape caps s t ∧ caps.length ≤ 100 ∧ InR s ∧ InR t ∧ o ∈ objs caps s t
def Sg_is_plan (CR : Addr) : Sig := fun Ts T => ∃ (caps s t : List Int), Ts = [netT CR caps, TN s, TN t, tup ((planL caps s t).map mvT)] ∧ T = tL true ∧ Shape caps s t ∧ caps.length ≤ 100 ∧ InR s ∧ InR t ∧ CapsOk caps ∧ Free caps s t
theorem b_id {t : TS} {Γ : Cn} {T : Ty} (h : BlkR t Γ T) : BlkR t Γ T := h
theorem cal_is_plan (F : TopF K mg CR CN CU fU KA mc) : C8.Cal P w K mg base 9 "is_plan" (SpT (Sg_is_plan CR)) [] := by
  refine cal_ty (k := 8) F.d_is_plan sc_is_plan (fun Ts T h => by obtain ⟨caps, s, t, rfl, rfl, S, hz, r1, r2, hc, N⟩ := h; rfl) (fun _ _ _ _ _ _ us hl => match us, hl with | [_, _, _, _], _ => rfl) fun f cdv A outer s_ H_ E_ hr Ts T hs => ?_
  obtain ⟨caps, s, t, rfl, rfl, S, hz, r1, r2, hc, N⟩ := hs
  refine ⟨_, (pss_cons (ps_expr (C8.pe_c (cal_check_state F) hr (by decide) (by rfl) (pa_cons (pv 0) (pa_cons (pv 1) pa_nil))))
      (pss_cons (ps_expr (C8.pe_c (cal_check_state F) hr (by decide) (by rfl) (pa_cons (pv 0) (pa_cons (pv 2) pa_nil))))
      (pss_cons (ps_if (pw_or (pt_not (pt_val (pe_callB (kisi K) (by rfl) F.n_isinstance b_isinstance (pa_cons (pv 3) (pa_cons (pe_bltn (v := .ty "tuple") (by rfl) F.n_tuple b_tuple rfl) pa_nil))))) (pw_or1 (pt_cmpR op_ne (pe_callB (klen K) (by rfl) F.n_len b_len (pa_cons (pv 3) pa_nil)) (C8.pe_c (cal_gap F) hr (by decide) (by rfl) (pa_cons (pv 1) (pa_cons (pv 2) pa_nil))) (nomark _)))).pt (pss_one (ps_ret pe_bl)) pss_nil)
      (pss_one (ps_try_thru0 (pss_one (ps_ret (pe_cmpR (WR.op_eqDt snd_tup (by decide) hr.units) (C8.pe_c (cal_run_moves F) hr (by decide) (by rfl) (pa_cons (pv 0) (pa_cons (pv 1) (pa_cons (pv 3) pa_nil)))) (pv 2) (nomark _))))))))), ?_⟩
  refine b_drop (e_call (a_cons (e_var rfl) (a_cons (e_var rfl) a_nil)) ⟨caps, s, rfl, rfl, S.ls, r1⟩) (b_drop (e_call (a_cons (e_var rfl) (a_cons (e_var rfl) a_nil)) ⟨caps, t, rfl, rfl, S.lt, r2⟩)
    (b_no (t_is (t_or (t_not (t_B (e_cb (a_cons (e_var rfl) (a_cons e_c a_nil)) is_tup))) fun _ => t_test (e_op (e_cb (a_cons (e_var rfl) a_nil) c_lenT) (e_call (a_cons (e_var rfl) (a_cons (e_var rfl) a_nil)) ⟨s, t, rfl, rfl, by rw [S.ls, S.lt], by rw [S.ls]; exact hz⟩) (o_ne rfl))) ?_)
    (b_ret (e_is (e_op (e_call (a_cons (e_var rfl) (a_cons (e_var rfl) (a_cons (e_var rfl) a_nil))) ⟨caps, s, planL caps s t, rfl, rfl, ⟨S.big, S.ls, S.ls⟩, r1, hz, fun i m hm => ?_⟩) (e_var rfl) (o_eqD (fun S H v => d_tup) (fun S H v => d_tup))) ?_))))
  · have nn := gapL_nn s t
    rw [List.length_map, planL_len, Int.toNat_of_nonneg nn]
    simp
  · have hi : i < (gapL s t).toNat := by
      have z := (List.getElem?_eq_some_iff.mp hm).1
      rw [planL_len] at z
      exact z
    rw [planL_at hi] at hm
    cases hm
    rw [planL_take i (by omega)]
    have hf := prs_first S hc N hi
    have Si : Shape caps (prs caps t s i) t := ⟨S.big, by rw [prs_len]; exact S.ls, S.lt⟩
    obtain ⟨h1, h2⟩ := prs_ok S hc N i (by omega)
    obtain ⟨k1, k2, _⟩ := first_ok Si h1 hf
    exact ⟨k1, k2⟩
  · have e : runL s (planL caps s t) = t := by
      have z := planL_take (caps := caps) (s := s) (t := t) (gapL s t).toNat (Nat.le_refl _)
      rw [prs_end S hc N, ← planL_len caps s t, List.take_length] at z
      exact z
    rw [e]
    simp
end
end WD

set_option Elab.async false
set_option linter.all false
set_option maxRecDepth 100000
set_option maxHeartbeats 3900000
/-! dicts by tuples of ints -/
namespace WD
open PySem PySem.Spec PyProof.Rows L2 Evl WT WM WB
abbrev Ent := List (List Int × Ty)
def kI (xs : List Int) : List Key := xs.map Sum.inl
theorem kI_inj {xs ys : List Int} (h : kI xs = kI ys) : xs = ys := by
  unfold kI at h
  exact (List.map_inj_right (fun a b e => Sum.inl.inj e)).mp h
theorem kI_kV (xs : List Int) : (kI xs).map kV = xs.map V.int := by
  unfold kI
  rw [List.map_map]
  rfl
abbrev Pd (H : Hp) : List (List Key × V) → Ent → Prop := PySem.Paired fun p q => p.1 = kI q.1 ∧ q.2.p p.2 H
theorem Pd.mono {H H' : Hp} (e : Ex H H') : ∀ {kv : List (List Key × V)} {es : Ent}, Pd H kv es → Pd H' kv es
  | _, _, .nil => .nil
  | _, _, .cons a b => .cons ⟨a.1, Ty.mono _ e a.2⟩ (Pd.mono e b)
theorem Pd.len {H : Hp} {kv : List (List Key × V)} {es : Ent} (h : Pd H kv es) : kv.length = es.length := PySem.Paired.length h
theorem Pd.snoc {H : Hp} {k : List Int} {v : V} {t : Ty} : ∀ {kv : List (List Key × V)} {es : Ent}, Pd H kv es → t.p v H → Pd H (kv ++ [(kI k, v)]) (es ++ [(k, t)])
  | _, _, .nil, h => .cons ⟨rfl, h⟩ .nil
  | _, _, .cons a b, h => .cons a (Pd.snoc b h)
theorem Pd.look {H : Hp} {k : List Int} : ∀ {kv : List (List Key × V)} {es : Ent}, Pd H kv es → match lkp es k with
    | some t => ∃ v, valV kv (kI k) = some v ∧ t.p v H
    | none => valV kv (kI k) = none
  | _, _, .nil => by
    rw [lkp_nil]
    rfl
  | _, _, .cons (a := p) (b := q) a b => by
    have ih := Pd.look (k := k) b
    rw [lkp_cons]
    by_cases e : q.1 = k
    · rw [if_pos e, valV_pos (by rw [a.1, e])]
      exact ⟨_, rfl, a.2⟩
    · rw [if_neg e, valV_neg (fun z => e (kI_inj (a.1.symm.trans z)))]
      exact ih
theorem Pd.at {H : Hp} : ∀ {kv : List (List Key × V)} {es : Ent} {i : Nat} {k : List Key} {v : V}, Pd H kv es → kv[i]? = some (k, v) → ∃ q, es[i]? = some q ∧ k = kI q.1 ∧ q.2.p v H
  | _, _, _, _, _, .nil, e => by simp at e
  | _, _, 0, _, _, .cons a b, e => by
    simp at e
    subst e
    exact ⟨_, rfl, a⟩
  | _, _, i + 1, _, _, .cons a b, e => by
    obtain ⟨q, h1, h2⟩ := Pd.at (i := i) b (by simpa using e)
    refine ⟨q, ?_, h2⟩; simpa using h1
/-- a dict that changes no more -/
def dct (es : Ent) : Ty := ⟨fun v H => ∃ d kv, v = .ref d ∧ H d = some (.dT kv) ∧ Pd H kv es, fun e ⟨d, kv, h1, h2, h3⟩ => ⟨d, kv, h1, e _ _ h2, h3.mono e⟩⟩
/-- one that grows -/
def GrowD (S : List Addr) (H : Hp) (d : Addr) (es : Ent) : Prop := d ∈ S ∧ ∃ kv, H d = some (.dT kv) ∧ Pd (hid S H) kv es
section
variable {S : List Addr} {Γ : Cn} {σ : L2.St} {H H' : Hp} {D : Ends} {td ty tx te : TE} {tz : TS} {T U : Ty} {es : Ent} {k : List Int} {d : Addr}
theorem GrowD.ex (g : GrowD S H d es) (e : Ex H H') : GrowD S H' d es := ⟨g.1, let ⟨kv, h1, h2⟩ := g.2; ⟨kv, e _ _ h1, h2.mono (ex_hid e)⟩⟩
/-- something else that is hidden has changed -/
theorem GrowD.go (g : GrowD S H d es) (e : Go S H H') (n : ∀ o, H d = some o → H' d = some o) : GrowD S H' d es := ⟨g.1, let ⟨kv, h1, h2⟩ := g.2; ⟨kv, n _ h1, h2.mono e.1⟩⟩
theorem grow_go {a : Addr} {ts : List Ty} (g : Grow S H a ts) (e : Go S H H') (n : ∀ o, H a = some o → H' a = some o) : Grow S H' a ts := ⟨g.1, let ⟨kv, h1, h2⟩ := g.2; ⟨kv, n _ h1, h2.mono e.1⟩⟩
theorem GrowD.done (g : GrowD (d :: S) H d es) (n : d ∉ S) : (dct es).p (.ref d) (hid S H) := by
  obtain ⟨_, kv, h1, h2⟩ := g
  exact ⟨d, kv, rfl, by rw [hid_of n]; exact h1, h2.mono hid_cons⟩
/-- one more thing is hidden, newer than what this one speaks of -/
theorem hide_ex {a : Addr} (e : Ex H H') (hn : H a = none) : Ex (hid S H) (hid (a :: S) H') := fun b o hb => by
  obtain ⟨n, hb'⟩ := hid_some hb
  rw [hid_of]
  · exact e b o hb'
  · intro z
    rcases List.mem_cons.1 z with z | z
    · subst z
      rw [hn] at hb'
      cases hb'
    · exact n z
theorem GrowD.hide {a : Addr} (g : GrowD S H d es) (e : Ex H H') (hn : H a = none) : GrowD (a :: S) H' d es := ⟨List.mem_cons_of_mem _ g.1, let ⟨kv, h1, h2⟩ := g.2; ⟨kv, e _ _ h1, h2.mono (hide_ex e hn)⟩⟩
theorem grow_hide {a b : Addr} {ts : List Ty} (g : Grow S H b ts) (e : Ex H H') (hn : H a = none) : Grow (a :: S) H' b ts := ⟨List.mem_cons_of_mem _ g.1, let ⟨kv, h1, h2⟩ := g.2; ⟨kv, e _ _ h1, h2.mono (hide_ex e hn)⟩⟩
theorem GrowD.show {a : Addr} (g : GrowD (a :: S) H d es) (n : d ∈ S) : GrowD S H d es := ⟨n, let ⟨kv, h1, h2⟩ := g.2; ⟨kv, h1, h2.mono hid_cons⟩⟩
theorem grow_show {a b : Addr} {ts : List Ty} (g : Grow (a :: S) H b ts) (n : b ∈ S) : Grow S H b ts := ⟨n, let ⟨kv, h1, h2⟩ := g.2; ⟨kv, h1, h2.mono hid_cons⟩⟩
theorem key_at {v : V} (h : (TN k).p v (hid S H)) : ∃ b, v = .ref b ∧ H b = some (.tup ((kI k).map kV)) := by
  obtain ⟨a, e, h2⟩ := ti_at h
  exact ⟨a, e, by rw [kI_kV]; exact (hid_some h2).2⟩
theorem dget_t {b : Addr} {kv : List (List Key × V)} (h : H d = some (.dT kv)) (hb : H b = some (.tup ((kI k).map kV))) : DGet H d (.ref b) (valV kv (kI k)) := DGet.t h hb
theorem e_dget (h1 : EvP td Γ (dct es)) (h2 : EvP ty Γ (TN k)) (hk : lkp es k = some T) : EvP (tDGet td ty) Γ T := fun S σ H a Q q => h1 S σ H a _ fun v H1 e1 p1 => h2 S σ H1 (a.ex e1) _ fun u H2 e2 p2 => by
  obtain ⟨d, kv, f1, f2, f3⟩ := (dct es).mono (ex_hid (S := S) e2) p1
  obtain ⟨b, g1, g2⟩ := key_at p2
  have z := f3.look (k := k)
  rw [hk] at z
  obtain ⟨x, z1, z2⟩ := z
  refine ⟨d, x, f1, ?_, q x H2 (e1.trans e2) z2⟩
  rw [g1, ← z1]
  exact dget_t (hid_some f2).2 g2
/-- d.get(k, x) for a dict of ints -/
theorem e_dget2 {ns : List (List Int × Int)} {i : Int} (h1 : EvP td Γ (dct (ns.map fun e => (e.1, tI e.2)))) (h2 : EvP ty Γ (TN k)) (h3 : EvP tx Γ (tI i)) : EvP (tDGet2 td ty tx) Γ (tI ((lkp ns k).getD i)) := fun S σ H a Q q => h1 S σ H a _ fun v H1 e1 p1 => by
  obtain ⟨d, kv, f1, f2, f3⟩ := id p1
  refine ⟨d, f1, .inr ⟨kv, .inl (hid_some f2).2⟩, h2 S σ H1 (a.ex e1) _ fun u H2 e2 p2 => h3 S σ H2 (a.ex (e1.trans e2)) _ fun x H3 e3 p3 => ?_⟩
  obtain ⟨b, g1, g2⟩ := key_at p2
  have z := (f3.mono (ex_hid (S := S) (e2.trans e3))).look (k := k)
  rw [lkp_map] at z
  have hd := (e2.trans e3) _ _ (hid_some f2).2
  refine ⟨valV kv (kI k), by rw [g1]; exact dget_t hd (e3 _ _ g2), ?_⟩
  cases e : lkp ns k with
  | none =>
    rw [e] at z
    have z' : valV kv (kI k) = none := z
    rw [z']
    exact q _ H3 ((e1.trans e2).trans e3) (by rw [e]; exact p3)
  | some n =>
    rw [e] at z
    obtain ⟨y, z1, z2⟩ := z
    rw [z1]
    exact q _ H3 ((e1.trans e2).trans e3) (by rw [e]; exact z2)
theorem t_din (h2 : EvP ty Γ (TN k)) (h1 : EvP td Γ (dct es)) : EtP (tB (tDIn ty td)) Γ (lkp es k).isSome := fun S σ H a Q q => h2 S σ H a _ fun u H1 e1 p2 => h1 S σ H1 (a.ex e1) _ fun v H2 e2 p1 => by
  obtain ⟨d, kv, f1, f2, f3⟩ := p1
  obtain ⟨b, g1, g2⟩ := key_at p2
  have z := f3.look (k := k)
  refine ⟨d, valV kv (kI k), f1, by rw [g1]; exact dget_t (hid_some f2).2 (e2 _ _ g2), (valV kv (kI k)).isSome, rfl, ?_⟩
  have e : (valV kv (kI k)).isSome = (lkp es k).isSome := by
    cases e : lkp es k with
    | none =>
      rw [e] at z
      have z' : valV kv (kI k) = none := z
      rw [z']
      rfl
    | some t =>
      rw [e] at z
      obtain ⟨y, z1, z2⟩ := z
      rw [z1]
      rfl
  rw [e]
  exact q H2 (e1.trans e2)
theorem c_lenD : CallT rLenT [dct es] (tI (es.length : Nat)) := fun S H vs l h Q q => by
  cases h with
  | cons a b =>
    cases b
    obtain ⟨p, kv, f1, f2, f3⟩ := a
    exact ⟨p, kv, by rw [f1], (hid_some f2).2, q _ H (Ex.refl H) (by rw [f3.len]; rfl)⟩
/-- x = {} -/
theorem q_newD {i : Nat} (h : At S Γ σ H) (k : ∀ d H1, H d = none → Ex H H1 → GrowD (d :: S) H1 d [] → At (d :: S) (Γ.set i (some (tv (.ref d)))) (σ.set i (some (.ref d))) H1 → tz D (σ.set i (some (.ref d))) H1) : tSeq (tAsg tDNewT (gName i)) tz D σ H := fun d hn =>
  k d _ hn (Ex.new hn) ⟨List.mem_cons_self, [], upd_same, .nil⟩ ((h.hide (Ex.new hn) hn upd_same rfl).set rfl)
/-- d[k] = e, k not there yet -/
theorem s_dput (hv : EvP te Γ T) (hd : EvP td Γ (tv (.ref d))) (hk : EvP ty Γ (TN k)) (h : At S Γ σ H) (g : GrowD S H d es) (hz : es.length < 100000) (hn : lkp es k = none)
    (q : ∀ H1, Go S H H1 → (∀ b o, b ≠ d → H b = some o → H1 b = some o) → At S Γ σ H1 → GrowD S H1 d (es ++ [(k, T)]) → D.nx σ H1) : sDPut td ty te D σ H :=
  hv S σ H h _ fun v H1 e1 p1 => hd S σ H1 (h.ex e1) _ fun x H2 e2 p2 => hk S σ H2 (h.ex (e1.trans e2)) _ fun y H3 e3 p3 => by
    obtain ⟨hS, kv, f1, f2⟩ := g
    obtain ⟨b, g1, g2⟩ := key_at p3
    have e := (e1.trans e2).trans e3
    have z := f2.look (k := k)
    rw [hn] at z
    have z' : valV kv (kI k) = none := z
    have lw := f2.len
    rw [show x = V.ref d from p2]
    refine ⟨d, _, rfl, by rw [g1]; exact DPut.t (e _ _ f1) g2 (sz_lt (by omega)), ?_⟩
    have hp : putK kv (kI k) v = kv ++ [(kI k, v)] := by
      unfold putK
      rw [valV_any, z']
      rfl
    rw [hp]
    have hh : hid S (upd H3 d (.dT (kv ++ [(kI k, v)]))) = hid S H3 := hid_upd hS
    have a3 := h.ex e
    have gg : Go S H (upd H3 d (.dT (kv ++ [(kI k, v)]))) := ⟨by rw [hh]; exact ex_hid e, a3.live.upd rfl⟩
    refine q _ gg (fun b o hb hx => by rw [upd_ne hb]; exact e _ _ hx) (h.go gg) ⟨hS, _, upd_same, ?_⟩
    rw [hh]
    exact (f2.mono (ex_hid e)).snoc (T.mono (ex_hid (e2.trans e3)) p1)
theorem q_dput (hv : EvP te Γ T) (hd : EvP td Γ (tv (.ref d))) (hk : EvP ty Γ (TN k)) (h : At S Γ σ H) (g : GrowD S H d es) (hz : es.length < 100000) (hn : lkp es k = none)
    (q : ∀ H1, Go S H H1 → (∀ b o, b ≠ d → H b = some o → H1 b = some o) → At S Γ σ H1 → GrowD S H1 d (es ++ [(k, T)]) → tz D σ H1) : tSeq (sDPut td ty te) tz D σ H := s_dput (D := { D with nx := tz D }) hv hd hk h g hz hn q
/-- k not in d, d one that grows -/
theorem t_dninG {Q : Bool → Hp → Prop} (hk : EvP ty Γ (TN k)) (hd : EvP td Γ (tv (.ref d))) (h : At S Γ σ H) (g : GrowD S H d es) (q : ∀ H1, Ex H H1 → Q (!(lkp es k).isSome) H1) : tB (tDNotIn ty td) σ H Q :=
  hk S σ H h _ fun u H1 e1 p2 => hd S σ H1 (h.ex e1) _ fun v H2 e2 p1 => by
    obtain ⟨hS, kv, f1, f2⟩ := g
    obtain ⟨b, g1, g2⟩ := key_at p2
    have z := f2.look (k := k)
    rw [show v = V.ref d from p1]
    refine ⟨d, valV kv (kI k), rfl, by rw [g1]; exact dget_t ((e1.trans e2) _ _ f1) (e2 _ _ g2), !(valV kv (kI k)).isSome, rfl, ?_⟩
    have e : (valV kv (kI k)).isSome = (lkp es k).isSome := by
      cases e : lkp es k with
      | none =>
        rw [e] at z
        have z' : valV kv (kI k) = none := z
        rw [z']
        rfl
      | some t =>
        rw [e] at z
        obtain ⟨y, z1, z2⟩ := z
        rw [z1]
        rfl
    rw [e]
    exact q H2 (e1.trans e2)
end
end WD

set_option Elab.async false
set_option linter.all false
set_option maxRecDepth 100000
set_option maxHeartbeats 3900000
namespace WM
theorem filter_one {n q : Nat} {p : Nat → Bool} (hq : q < n) (h : ∀ i, i < n → (p i = true ↔ i = q)) : (List.range n).filter p = [q] := by
  have e : ∀ n, (∀ i, i < n → (p i = true ↔ i = q)) → (List.range n).filter p = if q < n then [q] else [] := by
    intro n
    induction n with
    | zero => intro _; rfl
    | succ n ih =>
      intro h
      rw [List.range_succ, List.filter_append, ih fun i hi => h i (by omega)]
      by_cases e : q < n
      · have hn : p n = false := by
          cases z : p n with
          | false => rfl
          | true =>
            have := (h n (by omega)).mp z
            omega
        rw [if_pos e, if_pos (by omega)]
        simp [hn]
      · by_cases e2 : q = n
        · subst e2
          have hn : p q = true := (h q (by omega)).mpr rfl
          rw [if_neg e, if_pos (by omega)]
          simp [hn]
        · have hn : p n = false := by
            cases z : p n with
            | false => rfl
            | true =>
              have := (h n (by omega)).mp z
              omega
          rw [if_neg e, if_neg (by omega)]
          simp [hn]
  rw [e n h, if_pos hq]
theorem movesL_succ (n : Nat) : movesL (n + 1) = movesL n ++ [(n, true), (n, false)] := by
  unfold movesL
  rw [List.range_succ, List.flatMap_append]
  rfl
theorem movesL_len (n : Nat) : (movesL n).length = 2 * n := by
  induction n with
  | zero => rfl
  | succ n ih => rw [movesL_succ, List.length_append, ih]; simp; omega
theorem foldl_take {α β : Type} {f : β → α → β} {b : β} {l : List α} {i : Nat} {x : α} (h : l[i]? = some x) : (l.take (i + 1)).foldl f b = f ((l.take i).foldl f b) x := by
  rw [List.take_add_one, List.foldl_append, h]
  rfl
theorem nodup_le {α : Type} [DecidableEq α] : ∀ {l m : List α}, l.Nodup → (∀ x ∈ l, x ∈ m) → l.length ≤ m.length
  | [], m, _, _ => Nat.zero_le _
  | x :: l, m, h, hs => by
    have hx := hs x List.mem_cons_self
    obtain ⟨h1, h2⟩ := List.nodup_cons.1 h
    have ih := nodup_le (l := l) (m := m.erase x) h2 fun y hy => by
      have hne : y ≠ x := fun z => h1 (z ▸ hy)
      exact (List.mem_erase_of_ne hne).mpr (hs y (List.mem_cons_of_mem _ hy))
    rw [List.length_erase_of_mem hx] at ih
    have := List.length_pos_of_mem hx
    rw [List.length_cons]
    omega
structure FGood (sts : List (List Int)) (fa : Far × List (List Int)) : Prop where
  keys : ∀ e ∈ fa.1, e.1 ∈ sts
  nd : (fa.1.map (·.1)).Nodup
  line : ∀ x ∈ fa.2, x ∈ sts
  le : fa.2.length ≤ fa.1.length
theorem FGood.len {sts : List (List Int)} {fa : Far × List (List Int)} (g : FGood sts fa) : fa.1.length ≤ sts.length := by
  have h := nodup_le g.nd (m := sts) fun x hx => by
    obtain ⟨e, he, rfl⟩ := List.mem_map.mp hx
    exact g.keys e he
  rw [List.length_map] at h
  exact h
theorem FGood.step {sts : List (List Int)} {fa : Far × List (List Int)} {t : Nat} {o : List Int} (g : FGood sts fa) (ho : o ∈ sts) : FGood sts (stepO t fa o) := by
  unfold stepO
  by_cases h : (lkp fa.1 o).isSome = true
  · rw [if_pos h]
    exact g
  · rw [if_neg h]
    have hn : lkp fa.1 o = none := by
      cases e : lkp fa.1 o with
      | none => rfl
      | some v => rw [e] at h; exact absurd rfl h
    refine ⟨fun e he => ?_, ?_, fun x hx => ?_, ?_⟩
    · rcases List.mem_append.1 he with he | he
      · exact g.keys e he
      · rw [List.mem_singleton.1 he]
        exact ho
    · rw [List.map_append]
      refine List.nodup_append.mpr ⟨g.nd, by simp, fun a ha b hb e => ?_⟩
      obtain ⟨z, hz, rfl⟩ := List.mem_map.mp ha
      have hb' : b = o := by simpa using hb
      exact lkp_none.mp hn z hz (e.trans hb')
    · rcases List.mem_append.1 hx with hx | hx
      · exact g.line x hx
      · rw [List.mem_singleton.1 hx]
        exact ho
    · show (fa.2 ++ [o]).length ≤ (fa.1 ++ [_]).length
      have := g.le
      simp
      omega
theorem FGood.fold {sts : List (List Int)} {t : Nat} : ∀ {os : List (List Int)} {fa : Far × List (List Int)}, FGood sts fa → (∀ o ∈ os, o ∈ sts) → FGood sts (os.foldl (stepO t) fa)
  | [], _, g, _ => g
  | o :: os, fa, g, h => FGood.fold (os := os) (g.step (h o List.mem_cons_self)) fun x hx => h x (List.mem_cons_of_mem _ hx)
theorem FGood.foldP {sts : List (List Int)} {adj : List Int → List (List Int)} {t : Nat} (hc : ∀ x ∈ sts, ∀ y ∈ adj x, y ∈ sts) : ∀ {ps : List (List Int)} {fa : Far × List (List Int)}, FGood sts fa → (∀ p ∈ ps, p ∈ sts) → FGood sts (ps.foldl (stepP adj t) fa)
  | [], _, g, _ => g
  | p :: ps, fa, g, h => FGood.foldP hc (ps := ps) (FGood.fold (os := adj p) g (hc p (h p List.mem_cons_self))) fun x hx => h x (List.mem_cons_of_mem _ hx)
theorem FGood.srch {sts : List (List Int)} {adj : List Int → List (List Int)} {s : List Int} (hc : ∀ x ∈ sts, ∀ y ∈ adj x, y ∈ sts) (hs : s ∈ sts) : ∀ k, FGood sts (srch adj s k)
  | 0 => ⟨fun e he => by rw [List.mem_singleton.1 he]; exact hs, by simp [WM.srch], fun x hx => by rw [List.mem_singleton.1 hx]; exact hs, Nat.le_refl _⟩
  | k + 1 => by
    have g := FGood.srch hc hs k
    exact FGood.foldP hc (ps := (WM.srch adj s k).2) (fa := ((WM.srch adj s k).1, [])) ⟨g.keys, g.nd, fun x hx => (by cases hx), Nat.zero_le _⟩ g.line
end WM
namespace WD
open PySem PySem.Spec PyProof.Rows L2 Evl WT WM WB
def adjE (f : List Int → List (List Int)) (sts : List (List Int)) : Ent := sts.map fun s => (s, lst ((f s).map TN))
def farE (ns : Far) : Ent := ns.map fun e => (e.1, tI e.2)
theorem farE_look {ns : Far} {k : List Int} : lkp (farE ns) k = (lkp ns k).map tI := lkp_map
theorem adjE_look {f : List Int → List (List Int)} {sts : List (List Int)} {k : List Int} (h : k ∈ sts) : lkp (adjE f sts) k = some (lst ((f k).map TN)) := lkp_of (f := fun s => lst ((f s).map TN)) h
section
variable {S : List Addr} {H H' H2 : Hp} {a : Addr}
theorem Go.inner (e : Ex H H') (hn : H a = none) (g : Go (a :: S) H' H2) : Go S H H2 := ⟨((hide_ex e hn).trans g.1).trans hid_cons, fun b hb => g.2 b (List.mem_cons_of_mem _ hb)⟩
theorem e_neg {Γ : Cn} {te : TE} {i : Int} (h : EvP te Γ (tI i)) : EvP (tUn (rU fun i => .int (-i)) te) Γ (tI (-i)) := e_un h fun S H x l p Q q => ⟨i, p, q _ H (Ex.refl H) rfl⟩
end
section
variable {w : World} {P : Program} {K : PySem.W.Frag} {mg : Str → Option Value} {base : Heap} {CR CN CU fU KA : Addr} {mc : Value}
def Sg__law_is_integer : Sig := fun Ts T => ∃ n : Int, Ts = [tI n] ∧ T = tL true
theorem cal__law_is_integer (F : TopF K mg CR CN CU fU KA mc) : C8.Cal P w K mg base 1 "_law_is_integer" (SpT Sg__law_is_integer) [] := by
  refine cal_ty (k := 0) F.d__law_is_integer sc__law_is_integer (fun Ts T h => by obtain ⟨n, rfl, rfl⟩ := h; rfl) (fun _ _ _ _ _ _ us hl => match us, hl with | [_], _ => rfl) fun f cdv A outer s_ H_ E_ hr Ts T hs => ?_
  obtain ⟨n, rfl, rfl⟩ := hs
  refine ⟨_, (pss_one (ps_ret (pe_and (pe_callB (kisi K) (by rfl) F.n_isinstance b_isinstance (pa_cons (pv 0) (pa_cons (pe_bltn (v := .ty "int") (by rfl) F.n_int b_int rfl) pa_nil))) (pe_one (pe_not (pe_callB (kisi K) (by rfl) F.n_isinstance b_isinstance (pa_cons (pv 0) (pa_cons (pe_bltn (v := .ty "bool") (by rfl) F.n_bool b_bool rfl) pa_nil)))))))), ?_⟩
  exact b_ret (e_andV (b := true) (c := true) (e_cb (a_cons (e_var rfl) (a_cons e_c a_nil)) is_int) fun _ => e_notV (b := false) (e_cb (a_cons (e_var rfl) (a_cons e_c a_nil)) is_nbl))
def Sg__law_moves : Sig := fun Ts T => ∃ n : Nat, Ts = [tI (n : Nat)] ∧ T = lst ((movesL n).map mvT) ∧ n ≤ 100
theorem cal__law_moves (F : TopF K mg CR CN CU fU KA mc) : C8.Cal P w K mg base 1 "_law_moves" (SpT Sg__law_moves) [] := by
  refine cal_ty (k := 0) F.d__law_moves sc__law_moves (fun Ts T h => by obtain ⟨n, rfl, rfl, hn⟩ := h; rfl) (fun _ _ _ _ _ _ us hl => match us, hl with | [_], _ => rfl) fun f cdv A outer s_ H_ E_ hr Ts T hs => ?_
  obtain ⟨n, rfl, rfl, hn⟩ := hs
  refine ⟨_, (pss_cons (ps_set (i := 1) sc__law_moves.nd rfl (Or.inl rfl) (pe_lst pa_nil))
      (pss_cons (ps_for PassesOwn.never rfl (pi_range1 rfl F.n_range (pa_cons (pv 0) pa_nil)) (pg_name (i := 2) sc__law_moves.nd rfl (Or.inl rfl)) (pss_cons (ps_expr (kapp K (pv 1) (pa_cons (pe_tup (pa_cons (pv 2) (pa_cons pe_str pa_nil))) pa_nil)))
      (pss_one (ps_expr (kapp K (pv 1) (pa_cons (pe_tup (pa_cons (pv 2) (pa_cons pe_str pa_nil))) pa_nil))))))
      (pss_one (ps_ret (pv 1))))), ?_⟩
  intro S0 D σ H a q
  refine q_new (ts := []) a_nil (by simp) a fun l H1 hl e1 g1 a1 => ?_
  refine q_for (n := n) (i_rng (a_cons (e_var rfl) a_nil) ⟨by omega, by omega⟩ (by simp)) a1
    (fun i σ' H' => Ex H H' ∧ At (l :: S0) [some (tI (n : Nat)), some (tv (.ref l)), none] σ' H' ∧ Grow (l :: S0) H' l ((movesL i).map mvT))
    (fun i σ' H' H3 e p => ⟨p.1.trans e, p.2.1.ex e, p.2.2.ex e⟩) (fun H3 e3 => ⟨e1.trans e3, a1.ex e3, g1.ex e3⟩) ?_ ?_
  · intro i v σ' H0 H' hlt g0 g1 p1 p2
    obtain ⟨x1, b1, b2⟩ := p2
    have c1 := b1.set (i := 2) p1
    have hz := movesL_len i
    refine q_app (e_var rfl) (e_is (e_tup (a_cons (e_var (T := tI (i : Nat)) rfl) (a_cons e_c a_nil)) (by simp)) (U := mvT (i, true)) rfl) (by rw [List.length_map]; omega) c1 b2 fun H4 g4 k4 c4 w4 => ?_
    refine s_app (e_var rfl) (e_is (e_tup (a_cons (e_var (T := tI (i : Nat)) rfl) (a_cons e_c a_nil)) (by simp)) (U := mvT (i, false)) rfl) (by simp [hz]; omega) c4 w4 fun H5 g5 k5 c5 w5 => ?_
    refine ⟨(g0.trans g4).trans g5, fun b o hb => k5 b o (ne_of_none hb hl) (k4 b o (ne_of_none hb hl) (x1 _ _ hb)), c5.le (le_cons (le_cons (le_none le_nil))), ?_⟩
    rw [movesL_succ, List.map_append]
    rw [List.append_assoc] at w5
    exact w5
  · intro σ' H' g' p
    obtain ⟨x1, b1, b2⟩ := p
    obtain ⟨v4, h4, h5⟩ := b1.env 1 _ rfl
    have h5' : v4 = .ref l := h5
    subst h5'
    have b4 := b1.show.put (i := 1) h4 (b2.done (a.live.free hl))
    exact s_ret (e_var rfl) b4 fun v H3 e3 p3 => q v H3 (x1.trans e3) p3
def Sg__law_after : Sig := fun Ts T => ∃ (s : List Int) (m : Mv), Ts = [TN s, mvT m] ∧ T = TN (aftM s m) ∧ m.1 < s.length ∧ s.length ≤ 100
theorem cal__law_after (F : TopF K mg CR CN CU fU KA mc) : C8.Cal P w K mg base 1 "_law_after" (SpT Sg__law_after) [] := by
  refine cal_ty (k := 0) F.d__law_after sc__law_after (fun Ts T h => by obtain ⟨s, m, rfl, rfl, h, hz⟩ := h; rfl) (fun _ _ _ _ _ _ us hl => match us, hl with | [_, _], _ => rfl) fun f cdv A outer s_ H_ E_ hr Ts T hs => ?_
  obtain ⟨s, m, rfl, rfl, h, hz⟩ := hs
  refine ⟨_, (pss_cons (ps_set (i := 2) sc__law_after.nd rfl (Or.inl rfl) (pe_ifExp (pt_cmpR op_eq (pe_ix (kixT K) (pv 1) pe_int (fun _ _ => rfl)) pe_str (nomark _)) pe_int (pe_un un_neg pe_int)))
      (pss_one (ps_ret (pe_op (kcatT K) (pe_op (kcatT K) (pe_slice (kslT K) (pv 0) po_none (po_some (pe_ix (kixT K) (pv 1) pe_int (fun _ _ => rfl)))) (pe_tup (pa_cons (pe_op op_add (pe_ix (kixT K) (pv 0) (pe_ix (kixT K) (pv 1) pe_int (fun _ _ => rfl)) (fun _ _ => rfl)) (pv 2)) pa_nil))) (pe_slice (kslT K) (pv 0) (po_some (pe_op op_add (pe_ix (kixT K) (pv 1) pe_int (fun _ _ => rfl)) pe_int)) po_none))))), ?_⟩
  refine b_asg (T := tI (if m.2 = true then 1 else -1)) (e_is (e_ifV (t_is (t_test (e_op (e_op (e_var rfl) e_c (o_ixT (by decide) rfl)) e_c (o_eq rfl))) (kind_dec m.2)) e_c (e_neg e_c)) ?_)
    (b_ret (e_is (e_op (e_op (e_slT (us := (s.map tI).take m.1) (e_var rfl) o_none (o_some (e_op (e_var rfl) e_c (o_ixT (by decide) rfl))) ?_) (e_tup (a_cons (e_op (e_op (e_var rfl) (e_op (e_var rfl) e_c (o_ixT (by decide) rfl)) (o_ixN h)) (e_var rfl) o_I0) a_nil) (by simp)) (o_catT ?_)) (e_slT (us := (s.map tI).drop (m.1 + 1)) (e_var rfl) (o_some (e_op (e_op (e_var rfl) e_c (o_ixT (by decide) rfl)) e_c o_I0)) o_none ?_) (o_catT ?_)) ?_))
  · cases m.2 <;> rfl
  · rw [HT.sIx_none, HT.sIx_nat, List.length_map, Nat.sub_zero, List.drop_zero, Nat.min_eq_left (Nat.le_of_lt h)]
  · simp
    omega
  · have e : (some (((m.1 : Nat) : Int) + 1)) = some (((m.1 + 1 : Nat)) : Int) := by rw [Int.natCast_add]; rfl
    rw [e, HT.sIx_none, HT.sIx_nat, List.length_map, Nat.min_eq_left (by omega)]
    rw [List.take_of_length_le]
    simp
  · simp
    omega
  · have hc : newC s m = gi s m.1 + (if m.2 = true then 1 else -1) := by
      unfold newC
      split <;> omega
    rw [← aftM_cut h, hc]
    show tup _ = tup (List.map tI _)
    rw [List.map_append, List.map_append, List.map_take, List.map_drop]
    rfl
def Sg__law_is_allowed : Sig := fun Ts T => ∃ (caps s : List Int) (m : Mv), Ts = [lst (chansT caps), TN s, mvT m] ∧ T = tL (okM caps s m) ∧ m.1 < caps.length ∧ Shape caps s s ∧ caps.length ≤ 100
def endN (n : Nat) (m : Mv) (i : Nat) : Nat := if m.2 = true then nxN n i else i
theorem end_iff {n : Nat} {m : Mv} (hn : 3 ≤ n) (h : m.1 < n) {i : Nat} (hi : i < n) : endN n m i = m.1 ↔ i = sideM n m := by
  unfold endN sideM
  cases m.2 with
  | true =>
    rw [if_pos rfl, if_pos rfl]
    have C := cyc_fin hn
    constructor
    · intro e
      rw [← e]
      exact (congrArg Fin.val (C.pn ⟨i, hi⟩)).symm
    · intro e
      rw [e]
      exact congrArg Fin.val (C.np ⟨m.1, h⟩)
  | false =>
    rw [if_neg (Bool.false_ne_true), if_neg (nomatch ·)]
theorem cal__law_is_allowed (F : TopF K mg CR CN CU fU KA mc) : C8.Cal P w K mg base 1 "_law_is_allowed" (SpT Sg__law_is_allowed) [] := by
  refine cal_ty (k := 0) F.d__law_is_allowed sc__law_is_allowed (fun Ts T h => by obtain ⟨caps, s, m, rfl, rfl, h, S, hz⟩ := h; rfl) (fun _ _ _ _ _ _ us hl => match us, hl with | [_, _, _], _ => rfl) fun f cdv A outer s_ H_ E_ hr Ts T hs => ?_
  obtain ⟨caps, s, m, rfl, rfl, h, S, hz⟩ := hs
  refine ⟨_, (pss_cons (ps_set (i := 3) sc__law_is_allowed.nd rfl (Or.inr rfl) (pe_ifExp (pt_cmpR op_eq (pe_ix (kixT K) (pv 2) pe_int (fun _ _ => rfl)) pe_str (nomark _)) pe_int pe_int))
      (pss_cons (ps_setLc (i := 4) (own := [("_law_channel", 5)]) (g := gName 5) rfl sc__law_is_allowed.nd rfl rfl (sw_true rfl rfl rfl (by decide +kernel)) (kpiL K (pv 0)) (blkOk_by (N := ["_law_channels", "_law_here", "_law_move", "_law_end", "_law_side", "_law_channel"]) (sc := defScope s__law_is_allowed) (by decide +kernel)) (fun _ _ _ _ _ => (pg_name (i := 5) sc__law_is_allowed.nd rfl (Or.inl rfl))) (fun _ _ _ _ _ => (pts_one (pt_cmpR op_eq (pe_ix (kixT K) (pv 5) (pv 3) (fun _ _ => rfl)) (pe_ix (kixT K) (pv 2) pe_int (fun _ _ => rfl)) (nomark _)))) (fun _ _ _ _ _ => (pv 5)))
      (pss_cons (ps_for PassesOwn.never rfl (kpiL K (pv 4)) (pg_name (i := 5) sc__law_is_allowed.nd rfl (Or.inl rfl)) (pss_one (ps_if (pt_not (pt_chain op_le op_le pe_int (pe_op op_sub (pe_ix (kixT K) (pv 1) (pe_ix (kixT K) (pv 5) pe_int (fun _ _ => rfl)) (fun _ _ => rfl)) (pe_ix (kixT K) (pv 1) (pe_ix (kixT K) (pv 5) pe_int (fun _ _ => rfl)) (fun _ _ => rfl))) (pe_ix (kixT K) (pv 5) pe_int (fun _ _ => rfl)))) (pss_one (ps_ret pe_bl)) pss_nil)))
      (pss_one (ps_ret (pe_cmpR op_gt (pe_callB (klen K) (by rfl) F.n_len b_len (pa_cons (pv 4) pa_nil)) pe_int (nomark _))))))), ?_⟩
  have hs := side_lt S h
  have h1 : sideM caps.length m < s.length := by rw [S.ls]; exact hs
  have h2 : nxN caps.length (sideM caps.length m) < s.length := by rw [S.ls]; exact nxN_lt S.big _
  have hone : WT.given caps.length (fun i => decide (endN caps.length m i = m.1)) (chT caps) = [chT caps (sideM caps.length m)] := by
    unfold WT.given
    rw [filter_one hs (p := fun i => decide (endN caps.length m i = m.1)) fun i hi => by rw [decide_eq_true_eq]; exact end_iff S.big h hi]
    rfl
  have hend : ∀ i, ((chT caps i : Ty) = tup [tI (i : Nat), tI (nxN caps.length i : Nat), tI (gi caps i)]) := fun _ => rfl
  intro S0 D σ H a q
  refine q_asg (T := tI (if m.2 = true then 1 else 0)) (e_is (e_ifV (t_is (t_test (e_op (e_op (e_var rfl) e_c (o_ixT (by decide) rfl)) e_c (o_eq rfl))) (kind_dec m.2)) e_c e_c) (by cases m.2 <;> rfl)) a fun v1 H1 e1 a1 => ?_
  refine q_asg (T := lst [chT caps (sideM caps.length m)]) (e_is (e_lc (n := caps.length) (tf := chT caps) (f := fun i => decide (endN caps.length m i = m.1)) (u := chT caps) (Γs := fun i => [some (lst (chansT caps)), some (TN s), some (mvT m), some (tI (if m.2 = true then 1 else 0)), none, some (chT caps i)])
    (i_list (e_var rfl) (chans_len caps) fun i hi => chans_at hi) (fun i hi => g_name) (by decide)
    (fun i hi => t_is (t_test (e_op (T := chT caps i) (U := tI (if m.2 = true then 1 else 0)) (W := tI (endN caps.length m i : Nat)) (e_var rfl) (e_var rfl) (o_ixT (by split <;> decide) ?_) |> fun z => e_op z (e_op (e_var rfl) e_c (o_ixT (by decide) rfl)) (o_eq rfl))) ?_) (fun i hi _ => e_var rfl) (by omega)) (congrArg lst hone)) a1 fun v2 H2 e2 a2 => ?_
  · unfold endN
    cases m.2 <;> rfl
  · refine decide_eq_decide.mpr ⟨fun z => ?_, fun z => by rw [z]⟩
    have z' := V.int.inj z
    omega
  refine q_for (n := 1) (tf := fun _ => chT caps (sideM caps.length m)) (i_list (e_var rfl) rfl fun i hi => (by
      have e : i = 0 := by omega
      subst e
      rfl)) a2 (fun i σ' H' => Ex H H' ∧ At S0 [some (lst (chansT caps)), some (TN s), some (mvT m), some (tI (if m.2 = true then 1 else 0)), some (lst [chT caps (sideM caps.length m)]), none] σ' H' ∧ (i = 1 → okM caps s m = true))
    (fun i σ' H' H3 e p => ⟨p.1.trans e, p.2.1.ex e, p.2.2⟩) (fun H3 e3 => ⟨(e1.trans e2).trans e3, a2.ex e3, fun z => nomatch z⟩) ?_ ?_
  · intro i v σ' H0 H' hlt g0 g1 p1 p2
    obtain ⟨x1, b1, _⟩ := p2
    have c1 := b1.set (i := 5) p1
    refine s_if (t_not (t_test (e_chain e_c (e_op (e_op (e_var rfl) (e_op (e_var rfl) e_c (o_ixT (by decide) rfl)) (o_ixN h1)) (e_op (e_var rfl) (e_op (e_var rfl) e_c (o_ixT (by decide) rfl)) (o_ixN h2)) o_I0) (e_op (e_var rfl) e_c (o_ixT (by decide) rfl)) o_I0 o_I0))) c1 (fun hb H3 e3 c3 => ?_) (fun hb H3 e3 c3 => ?_)
    · refine s_ret e_c c3 fun v H4 e4 p4 => q v H4 ((x1.trans e3).trans e4) ?_
      have z : okM caps s m = false := by
        have : (!(okM caps s m)) = true := hb
        simpa using this
      rw [z]
      exact p4
    · refine ⟨g0.trans (.of g0.2 e3), x1.trans e3, c3.le (le_cons (le_cons (le_cons (le_cons (le_cons (le_none le_nil)))))), fun _ => ?_⟩
      have : (!(okM caps s m)) = false := hb
      simpa using this
  · intro σ' H' g' p
    obtain ⟨x1, b1, b2⟩ := p
    refine s_ret (e_op (e_cb (a_cons (e_var rfl) a_nil) c_lenL) e_c o_I0) b1 fun v H3 e3 p3 => q v H3 (x1.trans e3) ?_
    rw [b2 rfl]
    exact p3
def Sg__law_states : Sig := fun Ts T => ∃ (n l : Nat) (b : Int), Ts = [tI (n : Nat), tI (l : Nat), tI b] ∧ T = lst ((stN l b n).map TN) ∧ n ≤ 5 ∧ l ≤ 4
theorem stN_le {n l : Nat} {b : Int} (hn : n ≤ 5) (hl : l ≤ 4) : (stN l b n).length ≤ 1024 := by
  rw [stN_len]
  have h1 : l ^ n ≤ 4 ^ n := Nat.pow_le_pow_left hl n
  have h2 : 4 ^ n ≤ 4 ^ 5 := Nat.pow_le_pow_right (by decide) hn
  have h3 : (4 : Nat) ^ 5 = 1024 := by decide
  omega
def ext1 (l : Nat) (b : Int) (p : List Int) : List (List Int) := (List.range l).map fun v => p ++ [b + ((v : Nat) : Int)]
theorem stN_succ (l : Nat) (b : Int) (n : Nat) : stN l b (n + 1) = (stN l b n).flatMap (ext1 l b) := rfl
theorem flat_take {α β : Type} {f : α → List β} {xs : List α} {i : Nat} {x : α} (h : xs[i]? = some x) : (xs.take (i + 1)).flatMap f = (xs.take i).flatMap f ++ f x := by
  rw [List.take_add_one, h, List.flatMap_append]
  show _ ++ List.flatMap f [x] = _
  rw [List.flatMap_cons, List.flatMap_nil, List.append_nil]
theorem flat_len {α β : Type} {f : α → List β} {k : Nat} (h : ∀ x, (f x).length = k) : ∀ xs : List α, (xs.flatMap f).length = xs.length * k
  | [] => by simp
  | x :: xs => by rw [List.flatMap_cons, List.length_append, h, flat_len h xs, List.length_cons, Nat.add_mul]; omega
theorem cal__law_states (F : TopF K mg CR CN CU fU KA mc) : C8.Cal P w K mg base 1 "_law_states" (SpT Sg__law_states) [] := by
  refine cal_ty (k := 0) F.d__law_states sc__law_states (fun Ts T h => by obtain ⟨n, l, b, rfl, rfl, hn, hl⟩ := h; rfl) (fun _ _ _ _ _ _ us hl => match us, hl with | [_, _, _], _ => rfl) fun f cdv A outer s_ H_ E_ hr Ts T hs => ?_
  obtain ⟨n, l, b, rfl, rfl, hn, hl⟩ := hs
  refine ⟨_, (pss_cons (ps_set (i := 3) sc__law_states.nd rfl (Or.inl rfl) (pe_lst (pa_cons (pe_tup pa_nil) pa_nil)))
      (pss_cons (ps_for PassesOwn.never rfl (pi_range1 rfl F.n_range (pa_cons (pv 0) pa_nil)) (pg_name (i := 4) sc__law_states.nd rfl (Or.inl rfl)) (pss_cons (ps_set (i := 5) sc__law_states.nd rfl (Or.inl rfl) (pe_lst pa_nil))
      (pss_cons (ps_for PassesOwn.never rfl (kpiL K (pv 3)) (pg_name (i := 6) sc__law_states.nd rfl (Or.inl rfl)) (pss_one (ps_for PassesOwn.never rfl (pi_range1 rfl F.n_range (pa_cons (pv 1) pa_nil)) (pg_name (i := 7) sc__law_states.nd rfl (Or.inl rfl)) (pss_one (ps_expr (kapp K (pv 5) (pa_cons (pe_op (kcatT K) (pv 6) (pe_tup (pa_cons (pe_op op_add (pv 2) (pv 7)) pa_nil))) pa_nil)))))))
      (pss_one (ps_set (i := 3) sc__law_states.nd rfl (Or.inl rfl) (pv 5))))))
      (pss_one (ps_ret (pv 3))))), ?_⟩
  intro S0 D σ H a q
  refine q_asg (T := lst ((stN l b 0).map TN)) (e_lst (a_cons (e_tup a_nil (by simp)) a_nil) (show 1 ≤ 100000 by decide)) a fun v1 H1 e1 a1 => ?_
  refine q_for (n := n) (i_rng (a_cons (e_var rfl) a_nil) ⟨by omega, by omega⟩ (by simp)) a1
    (fun i σ' H' => Ex H H' ∧ At S0 [some (tI (n : Nat)), some (tI (l : Nat)), some (tI b), some (lst ((stN l b i).map TN)), none, none, none, none] σ' H')
    (fun i σ' H' H3 e p => ⟨p.1.trans e, p.2.ex e⟩) (fun H3 e3 => ⟨e1.trans e3, a1.ex e3⟩) ?_ ?_
  · intro i v σ' H0 H' hlt g0 g1 p1 p2
    obtain ⟨x1, b1⟩ := p2
    have c1 := b1.set (i := 4) p1
    have hsz : (stN l b i).length ≤ 1024 := stN_le (by omega) hl
    refine q_new (ts := []) a_nil (by simp) c1 fun ll H2 hll e2 g2 c2 => ?_
    have hlH : H ll = none := fresh_back x1 hll
    refine q_for (n := (stN l b i).length) (tf := fun j => TN ((stN l b i).getD j [])) (i_list (e_var rfl) (by simp) fun j hj => list_at hj) c2
      (fun j σ' H' => Ex H H' ∧ At (ll :: S0) [some (tI (n : Nat)), some (tI (l : Nat)), some (tI b), some (lst ((stN l b i).map TN)), none, some (tv (.ref ll)), none, none] σ' H' ∧ Grow (ll :: S0) H' ll ((((stN l b i).take j).flatMap (ext1 l b)).map TN))
      (fun j σ' H' H3 e p => ⟨p.1.trans e, p.2.1.ex e, p.2.2.ex e⟩) (fun H3 e3 => ⟨(x1.trans e2).trans e3, (c2.ex e3).le (le_cons (le_cons (le_cons (le_cons (le_none (le_cons (le_cons (le_cons le_nil)))))))), g2.ex e3⟩) ?_ ?_
    · intro j v σ' H0' H' hj g0' g1' p1' p2'
      obtain ⟨y1, d1, d2⟩ := p2'
      have d3 := d1.set (i := 6) p1'
      have hx : (stN l b i)[j]? = some ((stN l b i).getD j []) := by simp [List.getD_eq_getElem?_getD, List.getElem?_eq_getElem hj]
      have hp : ((stN l b i).getD j []).length = i := (mem_stN.mp (List.mem_of_getElem? hx)).len
      have fl : (((stN l b i).take j).flatMap (ext1 l b)).length ≤ 4096 := by
        rw [flat_len (k := l) (fun x => by simp [ext1]), List.length_take]
        have h1 : min j (stN l b i).length ≤ 1024 := by omega
        have h2 := Nat.mul_le_mul h1 hl
        omega
      refine s_for (n := l) (i_rng (a_cons (e_var rfl) a_nil) ⟨by omega, by omega⟩ (by simp)) d3
        (fun k σ' H' => Ex H H' ∧ At (ll :: S0) [some (tI (n : Nat)), some (tI (l : Nat)), some (tI b), some (lst ((stN l b i).map TN)), none, some (tv (.ref ll)), some (TN ((stN l b i).getD j [])), none] σ' H' ∧ Go (ll :: S0) H0' H' ∧
          Grow (ll :: S0) H' ll (((((stN l b i).take j).flatMap (ext1 l b)).map TN) ++ (List.range k).map fun v => TN ((stN l b i).getD j [] ++ [b + ((v : Nat) : Int)])))
        (fun k σ' H' H3 e p => ⟨p.1.trans e, p.2.1.ex e, p.2.2.1.trans (.of p.2.2.1.2 e), p.2.2.2.ex e⟩) (fun H3 e3 => ⟨y1.trans e3, d3.ex e3, g0'.trans (.of g0'.2 e3), ?_⟩) ?_ ?_
      · have z := d2.ex e3
        rw [show (List.range 0).map (fun v => TN ((stN l b i).getD j [] ++ [b + ((v : Nat) : Int)])) = [] from rfl, List.append_nil]
        exact z
      · intro k v σ' H0'' H' hk g0'' g1'' p1'' p2''
        obtain ⟨z1, f1, f2, f3⟩ := p2''
        have f4 := f1.set (i := 7) p1''
        refine s_app (e_var rfl) (e_is (e_op (e_var (T := TN ((stN l b i).getD j [])) rfl) (e_tup (a_cons (e_op (e_var (T := tI b) rfl) (e_var rfl) o_I0) a_nil) (by simp)) (o_catT (by rw [List.length_map, hp]; show i + 1 ≤ 100000; omega))) (U := TN ((stN l b i).getD j [] ++ [b + ((k : Nat) : Int)])) ?_) ?_ f4 f3 fun H5 g5 k5 c5 w5 => ?_
        · show tup _ = tup (List.map tI _)
          rw [List.map_append]
          rfl
        · rw [List.length_append, List.length_map, List.length_map, List.length_range]
          omega
        · refine ⟨g0''.trans g5, fun b' o hb => k5 b' o (ne_of_none hb hlH) (z1 _ _ hb), c5.le (le_cons (le_cons (le_cons (le_cons (le_cons (le_cons (le_cons (le_none le_nil)))))))), f2.trans g5, ?_⟩
          rw [List.range_succ, List.map_append, ← List.append_assoc]
          exact w5
      · intro σ' H' g' p
        obtain ⟨z1, f1, f2, f3⟩ := p
        refine ⟨f2, z1, f1.le (le_cons (le_cons (le_cons (le_cons (le_cons (le_cons (le_none (le_cons le_nil)))))))), ?_⟩
        rw [flat_take hx, List.map_append]
        have e : (ext1 l b ((stN l b i).getD j [])).map TN = (List.range l).map fun v => TN ((stN l b i).getD j [] ++ [b + ((v : Nat) : Int)]) := by
          unfold ext1
          rw [List.map_map]
          rfl
        rw [e]
        exact f3
    · intro σ' H' g' p
      obtain ⟨y1, d1, d2⟩ := p
      obtain ⟨v4, h4, h5⟩ := d1.env 5 _ rfl
      have h5' : v4 = .ref ll := h5
      subst h5'
      have b4 := d1.show.put (i := 5) h4 (d2.done (a.live.free hlH))
      refine s_asg (e_var rfl) b4 fun v H3 e3 b5 => ⟨g0.trans (Go.inner e2 hll (g'.trans (.of g'.2 e3))), y1.trans e3, ?_⟩
      have e : (stN l b i).take (stN l b i).length = stN l b i := List.take_length
      rw [e] at b5
      exact b5.le (le_cons (le_cons (le_cons (le_cons (le_none (le_none (le_cons (le_cons le_nil))))))))
  · intro σ' H' g' p
    obtain ⟨x1, b1⟩ := p
    exact s_ret (e_var rfl) b1 fun v H3 e3 p3 => q v H3 (x1.trans e3) p3
end
end WD

set_option Elab.async false
set_option linter.all false
set_option maxRecDepth 100000
set_option maxHeartbeats 3900000
namespace WD
open PySem PySem.Spec PyProof.Rows L2 Evl WT WM WB
section
variable {w : World} {P : Program} {K : PySem.W.Frag} {mg : Str → Option Value} {base : Heap} {CR CN CU fU KA : Addr} {mc : Value}
theorem look_take {f : List Int → List (List Int)} {sts : List (List Int)} (nd : sts.Nodup) {i : Nat} {x : List Int} (h : sts[i]? = some x) : lkp (adjE f (sts.take i)) x = none := by
  rw [lkp_none]
  intro e he
  obtain ⟨y, hy, rfl⟩ := List.mem_map.mp he
  intro ex
  have ex' : y = x := ex
  subst ex'
  obtain ⟨j, hj, ej⟩ := List.getElem_of_mem hy
  have hji : j < i := by rw [List.length_take] at hj; omega
  rw [List.getElem_take] at ej
  have hi := (List.getElem?_eq_some_iff.mp h)
  obtain ⟨hi1, hi2⟩ := hi
  exact (List.pairwise_iff_getElem.mp nd) j i (by omega) hi1 hji (ej.trans hi2.symm)
def Sg__law_roads : Sig := fun Ts T => ∃ (caps : List Int) (sts : List (List Int)), Ts = [lst (chansT caps), lst (sts.map TN)] ∧ T = dct (adjE (succL caps) sts) ∧ 3 ≤ caps.length ∧ caps.length ≤ 100 ∧ sts.Nodup ∧ sts.length ≤ 10000 ∧ ∀ x ∈ sts, x.length = caps.length
theorem cal__law_roads (F : TopF K mg CR CN CU fU KA mc) : C8.Cal P w K mg base 2 "_law_roads" (SpT Sg__law_roads) [] := by
  refine cal_ty (k := 1) F.d__law_roads sc__law_roads (fun Ts T h => by obtain ⟨caps, sts, rfl, rfl, h3, hz, nd, hs, hx⟩ := h; rfl) (fun _ _ _ _ _ _ us hl => match us, hl with | [_, _], _ => rfl) fun f cdv A outer s_ H_ E_ hr Ts T hs => ?_
  obtain ⟨caps, sts, rfl, rfl, h3, hz, nd, hs, hx⟩ := hs
  refine ⟨_, (pss_cons (ps_set (i := 2) sc__law_roads.nd rfl (Or.inl rfl) pe_dnewT)
      (pss_cons (ps_for PassesOwn.never rfl (kpiL K (pv 1)) (pg_name (i := 3) sc__law_roads.nd rfl (Or.inr rfl)) (pss_cons (ps_setLc (i := 4) (own := [("_law_move", 5)]) (g := gName 5) rfl sc__law_roads.nd rfl rfl (sw_true rfl rfl rfl (by decide +kernel)) (kpiL K (C8.pe_c (cal__law_moves F) hr (by decide) (by rfl) (pa_cons (pe_callB (klen K) (by rfl) F.n_len b_len (pa_cons (pv 3) pa_nil)) pa_nil))) (blkOk_by (N := ["_law_channels", "_law_states_here", "_law_roads_here", "_law_point", "_law_ready", "_law_move"]) (sc := defScope s__law_roads) (by decide +kernel)) (fun _ _ _ _ _ => (pg_name (i := 5) sc__law_roads.nd rfl (Or.inl rfl))) (fun _ _ _ _ _ => (pts_one (pt_val (C8.pe_c (cal__law_is_allowed F) hr (by decide) (by rfl) (pa_cons (pv 0) (pa_cons (pv 3) (pa_cons (pv 5) pa_nil))))))) (fun _ _ _ _ _ => (pv 5)))
      (pss_one (ps_dput (hu_of hr) (pv 2) (pv 3) (pe_lc (own := [("_law_move", 5)]) (g := gName 5) rfl sc__law_roads.nd (kpiL K (pv 4)) (blkOk_by (N := ["_law_channels", "_law_states_here", "_law_roads_here", "_law_point", "_law_ready", "_law_move"]) (sc := defScope s__law_roads) (by decide +kernel)) (fun _ _ _ _ _ => (pg_name (i := 5) sc__law_roads.nd rfl (Or.inl rfl))) (fun _ _ _ _ _ => pts_nil) (fun _ _ _ _ _ => (C8.pe_c (cal__law_after F) hr (by decide) (by rfl) (pa_cons (pv 3) (pa_cons (pv 5) pa_nil))))) rfl))))
      (pss_one (ps_ret (pv 2))))), ?_⟩
  intro S0 D σ H a q
  refine q_newD a fun d H1 hn e1 g1 a1 => ?_
  refine q_for (n := sts.length) (tf := fun i => TN (sts.getD i [])) (i_list (e_var rfl) (by simp) fun i hi => list_at hi) a1
    (fun i σ' H' => Ex H H' ∧ At (d :: S0) [some (lst (chansT caps)), some (lst (sts.map TN)), some (tv (.ref d)), none, none, none] σ' H' ∧ GrowD (d :: S0) H' d (adjE (succL caps) (sts.take i)))
    (fun i σ' H' H3 e p => ⟨p.1.trans e, p.2.1.ex e, p.2.2.ex e⟩) (fun H3 e3 => ⟨e1.trans e3, a1.ex e3, g1.ex e3⟩) ?_ ?_
  · intro i v σ' H0 H' hi g0 g1 p1 p2
    obtain ⟨x1, b1, b2⟩ := p2
    have c1 := b1.set (i := 3) p1
    have hxi : sts[i]? = some (sts.getD i []) := by simp [List.getD_eq_getElem?_getD, List.getElem?_eq_getElem hi]
    have hl := hx _ (List.mem_of_getElem? hxi)
    generalize hp : sts.getD i [] = p at p1 c1 hxi hl
    have S : Shape caps p p := ⟨h3, hl, hl⟩
    have hm := movesL_len caps.length
    refine q_asg (T := lst (((movesL caps.length).filter (okM caps p)).map mvT)) (e_is (e_lc (n := (movesL caps.length).length) (f := fun j => okM caps p ((movesL caps.length).getD j (0, true))) (u := fun j => mvT ((movesL caps.length).getD j (0, true))) (tf := fun j => mvT ((movesL caps.length).getD j (0, true)))
      (Γs := fun j => [some (lst (chansT caps)), some (lst (sts.map TN)), some (tv (.ref d)), some (TN p), none, some (mvT ((movesL caps.length).getD j (0, true)))])
      (i_list (e_call (a_cons (e_cb (a_cons (e_var rfl) a_nil) c_lenT) a_nil) ⟨caps.length, by rw [List.length_map, hl], rfl, hz⟩) (by simp) fun j hj => list_at hj) (fun j hj => g_name) (by decide)
      (fun j hj => t_B (e_call (a_cons (e_var rfl) (a_cons (e_var rfl) (a_cons (e_var rfl) a_nil))) ⟨caps, p, _, rfl, rfl, mem_movesL.mp (by rw [List.getD_eq_getElem?_getD, List.getElem?_eq_getElem hj]; exact List.getElem_mem hj), S, hz⟩)) (fun j hj _ => e_var rfl) (by omega))
      (congrArg lst (given_list (movesL caps.length) (0, true) (okM caps p) mvT))) c1 fun v2 H2 e2 c2 => ?_
    have hf := List.length_filter_le (okM caps p) (movesL caps.length)
    have hmem : ∀ j, j < ((movesL caps.length).filter (okM caps p)).length → (((movesL caps.length).filter (okM caps p)).getD j (0, true)).1 < caps.length := fun j hj => by
      have z : ((movesL caps.length).filter (okM caps p)).getD j (0, true) ∈ (movesL caps.length).filter (okM caps p) := by
        rw [List.getD_eq_getElem?_getD, List.getElem?_eq_getElem hj]
        exact List.getElem_mem hj
      exact mem_movesL.mp (List.mem_filter.mp z).1
    refine s_dput (T := lst ((succL caps p).map TN)) (k := p) (e_is (e_lc (n := ((movesL caps.length).filter (okM caps p)).length) (f := fun _ => true) (u := fun j => TN (aftM p (((movesL caps.length).filter (okM caps p)).getD j (0, true)))) (tf := fun j => mvT (((movesL caps.length).filter (okM caps p)).getD j (0, true)))
      (Γs := fun j => [some (lst (chansT caps)), some (lst (sts.map TN)), some (tv (.ref d)), some (TN p), _, some (mvT (((movesL caps.length).filter (okM caps p)).getD j (0, true)))])
      (i_list (e_var rfl) (by simp) fun j hj => list_at hj) (fun j hj => g_name) (by decide) (fun j hj => t_yes) (fun j hj _ => e_call (a_cons (e_var rfl) (a_cons (e_var rfl) a_nil)) ⟨p, _, rfl, rfl, by rw [hl]; exact hmem j hj, by rw [hl]; exact hz⟩) (by omega)) ?_) (e_var rfl) (e_var rfl) c2 (b2.ex e2) (by simp [adjE]; omega) (look_take nd hxi) fun H3 go3 k3 c3 w3 => ?_
    · have z := given_list ((movesL caps.length).filter (okM caps p)) (0, true) (fun _ => true) (fun m => TN (aftM p m))
      rw [List.filter_eq_self.mpr (fun _ _ => rfl)] at z
      unfold succL
      rw [List.map_map]
      exact congrArg lst z
    · refine ⟨(g0.trans (.of g0.2 e2)).trans go3, fun b o hb => k3 b o (ne_of_none hb hn) (e2 _ _ (x1 _ _ hb)), c3.le (le_cons (le_cons (le_cons (le_none (le_none (le_cons le_nil)))))), ?_⟩
      have e : adjE (succL caps) (sts.take (i + 1)) = adjE (succL caps) (sts.take i) ++ [(p, lst ((succL caps p).map TN))] := by
        unfold adjE
        rw [List.take_add_one, hxi, List.map_append]
        rfl
      rw [e]
      exact w3
  · intro σ' H' g' p
    obtain ⟨x1, b1, b2⟩ := p
    obtain ⟨v4, h4, h5⟩ := b1.env 2 _ rfl
    have h5' : v4 = .ref d := h5
    subst h5'
    have b4 := b1.show.put (i := 2) h4 (b2.done (a.live.free hn))
    rw [List.take_length] at b4
    exact s_ret (e_var rfl) b4 fun v H3 e3 p3 => q v H3 (x1.trans e3) p3
def Sg__law_search : Sig := fun Ts T => ∃ (f : List Int → List (List Int)) (sts : List (List Int)) (s : List Int), Ts = [dct (adjE f sts), TN s] ∧ T = dct (farE (srch f s sts.length).1) ∧ s ∈ sts ∧ (∀ x ∈ sts, ∀ y ∈ f x, y ∈ sts) ∧ sts.length ≤ 10000
theorem cal__law_search (F : TopF K mg CR CN CU fU KA mc) : C8.Cal P w K mg base 1 "_law_search" (SpT Sg__law_search) [] := by
  refine cal_ty (k := 0) F.d__law_search sc__law_search (fun Ts T h => by obtain ⟨f, sts, s, rfl, rfl, hs, hc, hz⟩ := h; rfl) (fun _ _ _ _ _ _ us hl => match us, hl with | [_, _], _ => rfl) fun f cdv A outer s_ H_ E_ hr Ts T hs => ?_
  obtain ⟨f, sts, s, rfl, rfl, hs, hc, hz⟩ := hs
  refine ⟨_, (pss_cons (ps_set (i := 2) sc__law_search.nd rfl (Or.inl rfl) pe_dnewT)
      (pss_cons (ps_dput (hu_of hr) (pv 2) (pv 1) pe_int rfl)
      (pss_cons (ps_set (i := 3) sc__law_search.nd rfl (Or.inl rfl) (pe_lst (pa_cons (pv 1) pa_nil)))
      (pss_cons (ps_for PassesOwn.never rfl (pi_range1 rfl F.n_range (pa_cons (pe_callB call_len_dT (by rfl) F.n_len b_len (pa_cons (pv 0) pa_nil)) pa_nil)) (pg_name (i := 4) sc__law_search.nd rfl (Or.inl rfl)) (pss_cons (ps_set (i := 5) sc__law_search.nd rfl (Or.inl rfl) (pe_lst pa_nil))
      (pss_cons (ps_for PassesOwn.never rfl (kpiL K (pv 3)) (pg_name (i := 6) sc__law_search.nd rfl (Or.inl rfl)) (pss_one (ps_for PassesOwn.never rfl (kpiL K (pe_dget (hu_of hr) (pv 0) (pv 6) (fun _ _ => rfl))) (pg_name (i := 7) sc__law_search.nd rfl (Or.inl rfl)) (pss_one (ps_if (pt_cmp (pc_dnotin (hu_of hr) (pv 7) (pv 2))) (pss_cons (ps_dput (hu_of hr) (pv 2) (pv 7) (pe_op op_add (pv 4) pe_int) rfl)
      (pss_one (ps_expr (kapp K (pv 5) (pa_cons (pv 7) pa_nil))))) pss_nil)))))
      (pss_one (ps_set (i := 3) sc__law_search.nd rfl (Or.inl rfl) (pv 5))))))
      (pss_one (ps_ret (pv 2))))))), ?_⟩
  intro S0 D σ H a q
  have eL : (adjE f sts).length = sts.length := by simp [adjE]
  refine q_newD a fun d H1 hn e1 g1 a1 => ?_
  refine q_dput (T := tI 0) (k := s) e_c (e_var rfl) (e_var rfl) a1 g1 (by simp) rfl fun H2 go2 k2 a2 g2 => ?_
  have x2 : Ex H H2 := fun b o hb => k2 b o (ne_of_none hb hn) (e1 _ _ hb)
  refine q_asg (T := lst (([s] : List (List Int)).map TN)) (e_lst (a_cons (e_var rfl) a_nil) (by simp)) a2 fun v3 H3 e3 a3 => ?_
  refine q_for (n := sts.length) (i_rng (a_cons (e_is (e_cb (a_cons (e_var rfl) a_nil) c_lenD) (congrArg (fun n : Nat => tI (n : Int)) eL)) a_nil) ⟨by omega, by omega⟩ (by simp)) a3
    (fun t σ' H' => Ex H H' ∧ At (d :: S0) [some (dct (adjE f sts)), some (TN s), some (tv (.ref d)), some (lst ((srch f s t).2.map TN)), none, none, none, none] σ' H' ∧ GrowD (d :: S0) H' d (farE (srch f s t).1))
    (fun i σ' H' H3 e p => ⟨p.1.trans e, p.2.1.ex e, p.2.2.ex e⟩) (fun H4 e4 => ⟨(x2.trans e3).trans e4, a3.ex e4, (g2.ex e3).ex e4⟩) ?_ ?_
  · intro t v σ' H0 H' ht g0 g1 p1 p2
    obtain ⟨x1, b1, b2⟩ := p2
    have c1 := b1.set (i := 4) p1
    have G0 := FGood.srch (adj := f) hc hs t
    have ll0 := G0.len
    have ll1 := G0.le
    refine q_new (ts := []) a_nil (by simp) c1 fun l H4 hl e4 w4 c4 => ?_
    have hlH : H l = none := fresh_back x1 hl
    have nld : d ≠ l := fun e => by
      obtain ⟨_, kv, hk, _⟩ := b2
      rw [e] at hk
      rw [hl] at hk
      cases hk
    refine q_for (n := (srch f s t).2.length) (tf := fun i => TN ((srch f s t).2.getD i [])) (i_list (e_var rfl) (by simp) fun i hi => list_at hi) c4
      (fun i σ' H' => Ex H H' ∧ At (l :: d :: S0) [some (dct (adjE f sts)), some (TN s), some (tv (.ref d)), some (lst ((srch f s t).2.map TN)), some (tI (t : Nat)), some (tv (.ref l)), none, none] σ' H' ∧
        GrowD (l :: d :: S0) H' d (farE (((srch f s t).2.take i).foldl (stepP f t) ((srch f s t).1, [])).1) ∧ Grow (l :: d :: S0) H' l ((((srch f s t).2.take i).foldl (stepP f t) ((srch f s t).1, [])).2.map TN))
      (fun i σ' H' H3 e p => ⟨p.1.trans e, p.2.1.ex e, p.2.2.1.ex e, p.2.2.2.ex e⟩) (fun H5 e5 => ⟨(x1.trans e4).trans e5, c4.ex e5, (b2.hide e4 hl).ex e5, w4.ex e5⟩) ?_ ?_
    · intro i v σ' H0' H' hi g0' g1' p1' p2'
      obtain ⟨y1, d1, d2, d3⟩ := p2'
      have d4 := d1.set (i := 6) p1'
      have hxi : (srch f s t).2[i]? = some ((srch f s t).2.getD i []) := by simp [List.getD_eq_getElem?_getD, List.getElem?_eq_getElem hi]
      have hmem := G0.line _ (List.mem_of_getElem? hxi)
      have GP := FGood.foldP (adj := f) (t := t) hc (ps := (srch f s t).2.take i) (fa := ((srch f s t).1, [])) ⟨G0.keys, G0.nd, fun x hx => (by cases hx), Nat.zero_le _⟩ (fun p hp => G0.line p (List.mem_of_mem_take hp))
      have hft := foldl_take (f := stepP f t) (b := ((srch f s t).1, [])) hxi
      generalize hp : (srch f s t).2.getD i [] = p at p1' d4 hxi hmem hft
      generalize hfa : ((srch f s t).2.take i).foldl (stepP f t) ((srch f s t).1, []) = fa at d2 d3 GP hft
      refine s_for (n := (f p).length) (tf := fun j => TN ((f p).getD j [])) (i_list (e_dget (e_var rfl) (e_var rfl) (adjE_look hmem)) (by simp) fun j hj => list_at hj) d4
        (fun j σ' H' => Ex H H' ∧ Go (l :: d :: S0) H0' H' ∧ At (l :: d :: S0) [some (dct (adjE f sts)), some (TN s), some (tv (.ref d)), some (lst ((srch f s t).2.map TN)), some (tI (t : Nat)), some (tv (.ref l)), some (TN p), none] σ' H' ∧
          GrowD (l :: d :: S0) H' d (farE (((f p).take j).foldl (stepO t) fa).1) ∧ Grow (l :: d :: S0) H' l ((((f p).take j).foldl (stepO t) fa).2.map TN))
        (fun i σ' H' H3 e p => ⟨p.1.trans e, p.2.1.trans (.of p.2.1.2 e), p.2.2.1.ex e, p.2.2.2.1.ex e, p.2.2.2.2.ex e⟩) (fun H5 e5 => ⟨y1.trans e5, g0'.trans (.of g0'.2 e5), d4.ex e5, d2.ex e5, d3.ex e5⟩) ?_ ?_
      · intro j v σ' H0'' H' hj g0'' g1'' p1'' p2''
        obtain ⟨z1, z2, f1, f2, f3⟩ := p2''
        have f4 := f1.set (i := 7) p1''
        have hoj : (f p)[j]? = some ((f p).getD j []) := by simp [List.getD_eq_getElem?_getD, List.getElem?_eq_getElem hj]
        have ho := hc p hmem _ (List.mem_of_getElem? hoj)
        have GO := FGood.fold (t := t) (os := (f p).take j) GP (fun x hx => hc p hmem x (List.mem_of_mem_take hx))
        have hfo := foldl_take (f := stepO t) (b := fa) hoj
        generalize hq : (f p).getD j [] = o at p1'' f4 hoj ho hfo
        generalize hga : ((f p).take j).foldl (stepO t) fa = ga at f2 f3 GO hfo
        have lg := GO.len
        have lg2 := GO.le
        show tIfS (tB (tDNotIn _ _)) _ _ _ _ _
        refine t_dninG (k := o) (e_var rfl) (e_var rfl) f4 f2 fun H5 e5 => ?_
        have hlk : (lkp (farE ga.1) o).isSome = (lkp ga.1 o).isSome := by rw [farE_look, Option.isSome_map]
        rw [hlk]
        have hft2 : ((f p).take (j + 1)).foldl (stepO t) fa = stepO t ga o := hfo
        cases hb : (lkp ga.1 o).isSome with
        | true =>
          have e : stepO t ga o = ga := by unfold stepO; rw [if_pos hb]
          refine iteF ?_
          refine ⟨g0''.trans (.of g0''.2 e5), z1.trans e5, z2.trans (.of z2.2 e5), (f4.ex e5).le (le_cons (le_cons (le_cons (le_cons (le_cons (le_cons (le_cons (le_none le_nil)))))))), ?_⟩
          rw [hft2, e]
          exact ⟨f2.ex e5, f3.ex e5⟩
        | false =>
          have e : stepO t ga o = (ga.1 ++ [(o, (t : Int) + 1)], ga.2 ++ [o]) := by unfold stepO; rw [hb, if_neg (Bool.false_ne_true)]
          have hn2 : lkp (farE ga.1) o = none := by
            cases q : lkp (farE ga.1) o with
            | none => rfl
            | some x =>
              rw [q, hb] at hlk
              cases hlk
          have f5 := f4.ex e5
          refine iteT ?_
          refine q_dput (T := tI ((t : Int) + 1)) (k := o) (e_op (e_var rfl) e_c o_I0) (e_var rfl) (e_var rfl) f5 (f2.ex e5) (by simp [farE]; omega) hn2 fun H6 g6 k6 f6 w6 => ?_
          refine s_app (T := TN o) (e_var rfl) (e_var rfl) (by rw [List.length_map]; omega) f6 (grow_go (f3.ex e5) g6 fun o hb => k6 l o nld.symm hb) fun H7 g7 k7 f7 w7 => ?_
          refine ⟨((g0''.trans (.of g0''.2 e5)).trans g6).trans g7, fun b u hb => k7 b u (ne_of_none hb hlH) (k6 b u (ne_of_none hb hn) (e5 _ _ (z1 _ _ hb))), ((z2.trans (.of z2.2 e5)).trans g6).trans g7, f7.le (le_cons (le_cons (le_cons (le_cons (le_cons (le_cons (le_cons (le_none le_nil)))))))), ?_⟩
          rw [hft2, e]
          refine ⟨?_, ?_⟩
          · have w8 := w6.go g7 fun o hb => k7 d o nld hb
            show GrowD _ _ _ (farE (ga.1 ++ [(o, (t : Int) + 1)]))
            unfold farE
            rw [List.map_append]
            exact w8
          · show Grow _ _ _ ((ga.2 ++ [o]).map TN)
            rw [List.map_append]
            exact w7
      · intro σ' H' g' p'
        obtain ⟨z1, z2, f1, f2, f3⟩ := p'
        rw [List.take_length] at f2 f3
        refine ⟨z2, z1, f1.le (le_cons (le_cons (le_cons (le_cons (le_cons (le_cons (le_none (le_cons le_nil)))))))), ?_⟩
        rw [hft]
        exact ⟨f2, f3⟩
    · intro σ' H' g' p'
      obtain ⟨y1, d1, d2, d3⟩ := p'
      rw [List.take_length] at d2 d3
      obtain ⟨v5, h5, h6⟩ := d1.env 5 _ rfl
      have h6' : v5 = .ref l := h6
      subst h6'
      have nl : l ∉ d :: S0 := fun hm => by
        rcases List.mem_cons.1 hm with e | hm
        · exact nld e.symm
        · exact (a.live.free hlH) hm
      have d5 := d1.show.put (i := 5) h5 (d3.done nl)
      refine s_asg (e_var rfl) d5 fun v H5 e5 d6 => ⟨g0.trans (Go.inner e4 hl (g'.trans (.of g'.2 e5))), y1.trans e5, d6.le (le_cons (le_cons (le_cons (le_cons (le_none (le_none (le_cons (le_cons le_nil)))))))), (d2.show List.mem_cons_self).ex e5⟩
  · intro σ' H' g' p
    obtain ⟨x1, b1, b2⟩ := p
    obtain ⟨v4, h4, h5⟩ := b1.env 2 _ rfl
    have h5' : v4 = .ref d := h5
    subst h5'
    have b4 := b1.show.put (i := 2) h4 (b2.done (a.live.free hn))
    exact s_ret (e_var rfl) b4 fun v H3 e3 p3 => q v H3 (x1.trans e3) p3
end
end WD

set_option Elab.async false
set_option linter.all false
set_option maxRecDepth 100000
set_option maxHeartbeats 3900000
namespace WM
def hitL (s : List Int) (p : List Int) (os : List (List Int)) : List (List Int) := (os.filter fun o => decide (o = s)).map fun _ => p
def predL (f : List Int → List (List Int)) (sts : List (List Int)) (s : List Int) : List (List Int) := sts.flatMap fun p => hitL s p (f p)
theorem mem_predL {f : List Int → List (List Int)} {sts : List (List Int)} {x y : List Int} : y ∈ predL f sts x ↔ y ∈ sts ∧ x ∈ f y := by
  unfold predL hitL
  rw [List.mem_flatMap]
  constructor
  · rintro ⟨p, hp, h⟩
    obtain ⟨o, ho, rfl⟩ := List.mem_map.mp h
    obtain ⟨h1, h2⟩ := List.mem_filter.mp ho
    have e : o = x := of_decide_eq_true h2
    rw [← e]
    exact ⟨hp, h1⟩
  · rintro ⟨h1, h2⟩
    exact ⟨y, h1, List.mem_map.mpr ⟨x, List.mem_filter.mpr ⟨h2, decide_eq_true rfl⟩, rfl⟩⟩
theorem hit_take {s p : List Int} {os : List (List Int)} {j : Nat} {o : List Int} (h : os[j]? = some o) : hitL s p (os.take (j + 1)) = hitL s p (os.take j) ++ (if o = s then [p] else []) := by
  unfold hitL
  rw [List.take_add_one, h, List.filter_append, List.map_append]
  by_cases e : o = s
  · rw [if_pos e]
    simp [e]
  · rw [if_neg e]
    simp [e]
theorem hit_len (s p : List Int) (os : List (List Int)) : (hitL s p os).length ≤ os.length := by
  unfold hitL
  rw [List.length_map]
  exact List.length_filter_le _ _
theorem pred_len {f : List Int → List (List Int)} {s : List Int} {c : Nat} : ∀ {ps : List (List Int)}, (∀ x ∈ ps, (f x).length ≤ c) → (ps.flatMap fun p => hitL s p (f p)).length ≤ ps.length * c
  | [], _ => by simp
  | p :: ps, h => by
    rw [List.flatMap_cons, List.length_append, List.length_cons, Nat.add_mul]
    have h1 := hit_len s p (f p)
    have h2 := h p List.mem_cons_self
    have h3 := pred_len (f := f) (s := s) (ps := ps) fun x hx => h x (List.mem_cons_of_mem _ hx)
    omega
end WM
namespace WD
open PySem PySem.Spec PyProof.Rows L2 Evl WT WM WB
section
variable {K : PySem.W.Frag} {S S' : List Addr} {Γ : Cn} {σ : L2.St} {H H' : Hp} {D : Ends} {td ty te : TE} {tu tz : TS} {T : Ty} {es : Ent} {k : List Int} {d r : Addr}
/-- types that ask nothing of the heap -/
theorem at_free (h : At S Γ σ H) (hf : ∀ (i : Nat) (T : Ty), Γ[i]? = some (some T) → ∃ x, T = tv x) (l : Live S' H') : At S' Γ σ H' := ⟨fun i T e => by
  obtain ⟨v, h1, h2⟩ := h.env i T e
  obtain ⟨x, rfl⟩ := hf i T e
  exact ⟨v, h1, h2⟩, l, h.len⟩
/-- a list that comes, walked -/
theorem i_listL {n : Nat} {tf : Nat → Ty} {ts : List Ty} (h : ∀ Q : VK, (∀ v H1, Ex H H1 → (lst ts).p v (hid S H1) → Q v H1) → te σ H Q) (hn : ts.length = n) (hf : ∀ i, i < n → ts[i]? = some (tf i)) (R : It → Hp → Prop) (q : ∀ J H1, Ex H H1 → WalkT S J H1 n tf → R J H1) : iList K te σ H R := h _ fun v H1 e1 ⟨p, vs, f1, f2, f3⟩ =>
  ⟨p, f1, ⟨vs, sq_of (hid_some f2).2⟩, q _ H1 e1 fun S' H' g gl => by
    have z2 := g _ _ f2
    have z3 := f3.mono g
    have z4 : SqL K H' p vs := sq_of (hid_some z2).2
    have hl := f3.len
    refine ⟨fun i hi => ⟨vs, vs[i]'(by omega), z4, by simp [show i < vs.length by omega]⟩, ⟨vs, z4, by omega⟩, fun i v H2 hi y => ?_⟩
    obtain ⟨e, y⟩ := y
    subst e
    have yv := y vs z4
    obtain ⟨t, ht, tp⟩ := z3.of yv
    rw [hf i hi] at ht
    cases ht
    exact ⟨Ex.refl _, tp⟩⟩
theorem s_forI {wi : TI} {g : TG} {n : Nat} {tf : Nat → Ty} (hi : ∀ R : It → Hp → Prop, (∀ J H1, Ex H H1 → WalkT S J H1 n tf → R J H1) → wi σ H R) (h : At S Γ σ H) (Pv : Nat → L2.St → Hp → Prop) (hm : ∀ i σ' H' H2, Ex H' H2 → Pv i σ' H' → Pv i σ' H2) (h0 : ∀ H1, Ex H H1 → Pv 0 σ H1)
    (hs : ∀ i v σ' H0 H', i < n → Go S H0 H' → Go S H H' → (tf i).p v (hid S H') → Pv i σ' H' → g v σ' H' fun σ2 H2 => tu { D with nx := fun σ3 H3 => Go S H0 H3 ∧ Pv (i + 1) σ3 H3, ct := fun σ3 H3 => Go S H0 H3 ∧ Pv (i + 1) σ3 H3, bk := D.nx } σ2 H2)
    (hd : ∀ σ' H', Go S H H' → Pv n σ' H' → D.nx σ' H') : tFor wi g tu D σ H := hi _ fun J H1 e1 wk => by
  refine ⟨fun i m σ' H' => m = n - i ∧ i ≤ n ∧ Go S H1 H' ∧ Pv i σ' H', ⟨n, by simp, Nat.zero_le _, .refl (h.ex e1).live, h0 H1 e1⟩, ?_⟩
  rintro i m σ' H' ⟨rfl, hin, go, p⟩
  have g01 : Go S H H1 := .of h.live e1
  obtain ⟨w1, w2, w3⟩ := wk S H' go.1 go.2
  by_cases hlt : i < n
  · refine .inr ⟨w1 i hlt, fun σ2 H2 => Go S H' H2 ∧ Pv (i + 1) σ2 H2, fun σ2 H2 p' => ⟨n - (i + 1), by omega, rfl, hlt, go.trans p'.1, p'.2⟩, fun v H2 y => ?_⟩
    obtain ⟨ey, py⟩ := w3 i v H2 hlt y
    exact hs i v σ' H' H2 hlt (.of go.2 ey) (g01.trans (go.trans (.of go.2 ey))) py (hm i σ' H' H2 ey p)
  · have e : i = n := by omega
    subst e
    exact .inl ⟨w2, hd σ' H' (g01.trans go) p⟩
/-- the keys of a locked dict -/
theorem s_forK {g : TG} {od : Obj} {kv : List (List Key × V)} (ht : EvP td Γ (tv (.ref r))) (h : At S Γ σ H) (hr : H r = some (.frz od (.dT kv))) (Pv : Nat → L2.St → Hp → Prop) (h0 : ∀ H1, Ex H H1 → Pv 0 σ H1) (hl : ∀ i σ' H', Pv i σ' H' → H' r = some (.frz od (.dT kv)))
    (hs : ∀ i k v q σ' H', kv[i]? = some (k, v) → H' q = some (.tup (k.map kV)) → Pv i σ' H' → g (.ref q) σ' H' fun σ2 H2 => tu { D with nx := Pv (i + 1), ct := Pv (i + 1), bk := D.nx } σ2 H2)
    (hd : ∀ σ' H', Pv kv.length σ' H' → D.nx σ' H') : tFor (iKeys td) g tu D σ H := ht S σ H h _ fun v H1 e1 p1 => by
  refine ⟨r, od, p1, .inr ⟨kv, e1 _ _ hr, ?_⟩⟩
  refine ⟨fun i m σ' H' => m = kv.length - i ∧ i ≤ kv.length ∧ Pv i σ' H', ⟨kv.length, by simp, Nat.zero_le _, h0 H1 e1⟩, ?_⟩
  rintro i m σ' H' ⟨rfl, hin, p⟩
  by_cases hlt : i < kv.length
  · refine .inr ⟨⟨hl _ _ _ p, hlt⟩, Pv (i + 1), fun σ2 H2 p' => ⟨kv.length - (i + 1), by omega, rfl, hlt, p'⟩, fun v H2 y => ?_⟩
    obtain ⟨e, k, x, q, hk, ev, hq⟩ := y
    subst e ev
    exact hs i k x q σ' H2 hk hq p
  · have e : i = kv.length := by omega
    subst e
    exact .inl ⟨⟨hl _ _ _ p, Nat.le_refl _⟩, hd σ' H' p⟩
/-- d[k] = [], k not there yet -/
theorem s_dputN (hd : EvP td Γ (tv (.ref d))) (hk : EvP ty Γ (TN k)) (h : At S Γ σ H) (g : GrowD S H d es) (hz : es.length < 100000) (hn : lkp es k = none)
    (q : ∀ a H1, H a = none → Go S H H1 → (∀ b o, b ≠ d → H b = some o → H1 b = some o) → a ≠ d → H1 a = some (.lst []) → At S Γ σ H1 → GrowD S H1 d (es ++ [(k, tv (.ref a))]) → D.nx σ H1) : sDPut td ty (tLst tNil) D σ H :=
  ⟨Nat.zero_le _, fun a ha => by
    have e0 : Ex H (upd H a (.lst [])) := Ex.new ha
    refine hd S σ _ (h.ex e0) _ fun x H2 e2 p2 => hk S σ H2 (h.ex (e0.trans e2)) _ fun y H3 e3 p3 => ?_
    obtain ⟨hS, kv, f1, f2⟩ := g
    obtain ⟨b, g1, g2⟩ := key_at p3
    have e := (e0.trans e2).trans e3
    have z := f2.look (k := k)
    rw [hn] at z
    have z' : valV kv (kI k) = none := z
    have lw := f2.len
    rw [show x = V.ref d from p2]
    refine ⟨d, _, rfl, by rw [g1]; exact DPut.t (e _ _ f1) g2 (sz_lt (by omega)), ?_⟩
    have hp : putK kv (kI k) (.ref a) = kv ++ [(kI k, .ref a)] := by
      unfold putK
      rw [valV_any, z']
      rfl
    rw [hp]
    have hh : hid S (upd H3 d (.dT (kv ++ [(kI k, .ref a)]))) = hid S H3 := hid_upd hS
    have a3 := h.ex e
    have gg : Go S H (upd H3 d (.dT (kv ++ [(kI k, .ref a)]))) := ⟨by rw [hh]; exact ex_hid e, a3.live.upd rfl⟩
    have nad : a ≠ d := fun z => by
      rw [← z, ha] at f1
      cases f1
    refine q a _ ha gg (fun b o hb hx => by rw [upd_ne hb]; exact e _ _ hx) nad (by rw [upd_ne nad]; exact (e2.trans e3) _ _ upd_same) (h.go gg) ⟨hS, _, upd_same, ?_⟩
    rw [hh]
    exact (f2.mono (ex_hid e)).snoc rfl⟩
/-- x = d[k], d one that grows -/
theorem q_getG {i : Nat} (hd : EvP td Γ (tv (.ref d))) (hk : EvP ty Γ (TN k)) (h : At S Γ σ H) (g : GrowD S H d es) (hl : lkp es k = some T) (q : ∀ v H1, Ex H H1 → At S (Γ.set i (some T)) (σ.set i (some v)) H1 → tz D (σ.set i (some v)) H1) : tSeq (tAsg (tDGet td ty) (gName i)) tz D σ H :=
  hd S σ H h _ fun x H1 e1 p1 => hk S σ H1 (h.ex e1) _ fun y H2 e2 p2 => by
    have g2 := g.ex (e1.trans e2)
    obtain ⟨hS, kv, f1, f2⟩ := g2
    obtain ⟨b, g1, g3⟩ := key_at p2
    have z := f2.look (k := k)
    rw [hl] at z
    obtain ⟨v, z1, z2⟩ := z
    rw [show x = V.ref d from p1]
    refine ⟨d, v, rfl, by rw [g1, ← z1]; exact dget_t f1 g3, ?_⟩
    exact q v H2 (e1.trans e2) ((h.ex (e1.trans e2)).set z2)
/-- r[k], r locked and hidden, its values known -/
theorem e_getF {od : Obj} {kv : List (List Key × V)} {v : V} (hd : EvP td Γ (tv (.ref r))) (hk : EvP ty Γ (TN k)) (h : At S Γ σ H) (hr : H r = some (.frz od (.dT kv))) (hv : valV kv (kI k) = some v) (ht : T.p v (hid S H)) (Q : VK) (q : ∀ v H1, Ex H H1 → T.p v (hid S H1) → Q v H1) : tDGet td ty σ H Q :=
  hd S σ H h _ fun x H1 e1 p1 => hk S σ H1 (h.ex e1) _ fun y H2 e2 p2 => by
    obtain ⟨b, g1, g3⟩ := key_at p2
    rw [show x = V.ref r from p1]
    refine ⟨r, v, rfl, ?_, q v H2 (e1.trans e2) (T.mono (ex_hid (e1.trans e2)) ht)⟩
    rw [g1]
    exact .inr ⟨kv, kI k, b, .inr ⟨od, (e1.trans e2) _ _ hr⟩, rfl, g3, hv.symm⟩
/-- lists of tuples of ints lie apart from what is new, and from dicts -/
theorem tn_apart {v : V} {xs : List Int} (h : (TN xs).p v (hid S H)) (l : Live S' H') (e : ∀ b ys, H b = some (.tup ys) → H' b = some (.tup ys)) : (TN xs).p v (hid S' H') := by
  obtain ⟨a, e1, h2⟩ := ti_at h
  have h3 := e _ _ (hid_some h2).2
  exact ⟨a, _, e1, by rw [hid_of (l.tup h3)]; exact h3, ti_ps xs⟩
theorem ps_apart (l : Live S' H') (e : ∀ b ys, H b = some (.tup ys) → H' b = some (.tup ys)) : ∀ {vs : List V} {xs : List (List Int)}, Ps (hid S H) vs (xs.map TN) → Ps (hid S' H') vs (xs.map TN)
  | _, [], .nil => .nil
  | _, x :: xs, .cons a b => .cons (tn_apart a l e) (ps_apart l e b)
end
def bkE (sts : List (List Int)) (as_ : List Addr) : Ent := (sts.zip as_).map fun p => (p.1, tv (.ref p.2))
theorem bk_look {sts : List (List Int)} {as_ : List Addr} (nd : sts.Nodup) : ∀ {i : Nat} {s : List Int} {a : Addr}, sts[i]? = some s → as_[i]? = some a → lkp (bkE sts as_) s = some (tv (.ref a)) := by
  induction sts generalizing as_ with
  | nil =>
    intro i s a h
    simp at h
  | cons x sts ih =>
    intro i s a h1 h2
    cases as_ with
    | nil => simp at h2
    | cons b as_ =>
      show lkp ((x, tv (.ref b)) :: bkE sts as_) s = _
      rw [lkp_cons]
      cases i with
      | zero =>
        simp at h1 h2
        subst h1 h2
        rw [if_pos rfl]
      | succ i =>
        have hm : s ∈ sts := List.mem_of_getElem? (by simpa using h1)
        obtain ⟨n1, n2⟩ := List.nodup_cons.1 nd
        rw [if_neg (fun e => n1 (show x ∈ sts from (show x = s from e) ▸ hm))]
        exact ih n2 (by simpa using h1) (by simpa using h2)
section
variable {w : World} {P : Program} {K : PySem.W.Frag} {mg : Str → Option Value} {base : Heap} {CR CN CU fU KA : Addr} {mc : Value}
def Sg__law_turned_round : Sig := fun Ts T => ∃ (f : List Int → List (List Int)) (sts : List (List Int)), Ts = [dct (adjE f sts)] ∧ T = dct (adjE (predL f sts) sts) ∧ sts.Nodup ∧ sts.length ≤ 500 ∧ (∀ x ∈ sts, ∀ y ∈ f x, y ∈ sts) ∧ ∀ x ∈ sts, (f x).length ≤ 100
theorem cal__law_turned_round (F : TopF K mg CR CN CU fU KA mc) : C8.Cal P w K mg base 1 "_law_turned_round" (SpT Sg__law_turned_round) [] := by
  refine cal_ty (k := 0) F.d__law_turned_round sc__law_turned_round (fun Ts T h => by obtain ⟨f, sts, rfl, rfl, nd, hz, hc, hfl⟩ := h; rfl) (fun _ _ _ _ _ _ us hl => match us, hl with | [_], _ => rfl) fun f cdv A outer s_ H_ E_ hr Ts T hs => ?_
  obtain ⟨f, sts, rfl, rfl, nd, hz, hc, hfl⟩ := hs
  refine ⟨_, (pss_cons (ps_set (i := 1) sc__law_turned_round.nd rfl (Or.inl rfl) pe_dnewT)
      (pss_cons (ps_lock (ps_for PassesOwn.never rfl (pi_keys (pv 0)) (pg_name (i := 2) sc__law_turned_round.nd rfl (Or.inl rfl)) (pss_one (ps_dput (hu_of hr) (pv 1) (pv 2) (pe_lst pa_nil) rfl))))
      (pss_cons (ps_lock (ps_for PassesOwn.never rfl (pi_keys (pv 0)) (pg_name (i := 2) sc__law_turned_round.nd rfl (Or.inl rfl)) (pss_one (ps_for PassesOwn.never rfl (kpiL K (pe_dget (hu_of hr) (pv 0) (pv 2) (fun _ _ => rfl))) (pg_name (i := 3) sc__law_turned_round.nd rfl (Or.inl rfl)) (pss_cons (ps_set (i := 4) sc__law_turned_round.nd rfl (Or.inl rfl) (pe_dget (hu_of hr) (pv 1) (pv 3) (fun _ _ => rfl)))
      (pss_one (ps_expr (kapp K (pv 4) (pa_cons (pv 2) pa_nil)))))))))
      (pss_one (ps_ret (pv 1)))))), ?_⟩
  intro S0 D σ H a q
  obtain ⟨vr, hv0, r, kv, er, hrk0, hpd⟩ := a.env 0 _ rfl
  subst er
  obtain ⟨nrS, hrk⟩ := hid_some hrk0
  have hkl : kv.length = sts.length := by rw [hpd.len]; simp [adjE]
  refine q_newD a fun d H1 hn e1 g1 a1 => ?_
  have ndr : d ≠ r := fun e => by
    rw [e, hrk] at hn
    cases hn
  have hr1 : H1 r = some (.dT kv) := e1 _ _ hrk
  obtain ⟨v0, k0, k1⟩ := a1.env 0 _ rfl
  have hσ0 : (σ.set 1 (some (V.ref d)))[0]? = some (some (V.ref r)) := by
    rw [List.getElem?_set_ne (by decide)]
    exact hv0
  have b1 := a1.put (i := 0) (v := .ref r) (U := tv (.ref r)) hσ0 rfl
  refine ⟨r, .dT kv, hr1, trivial, fun od => ?_⟩
  have lv1 : Live (r :: d :: S0) (upd H1 r (.frz od (.dT kv))) := fun b hb => by
    by_cases e : b = r
    · subst e
      exact ⟨_, upd_same, rfl⟩
    · obtain ⟨o, h1, h2⟩ := b1.live b ((List.mem_cons.1 hb).resolve_left e)
      exact ⟨o, by rw [upd_ne e]; exact h1, h2⟩
  have c1 : At (r :: d :: S0) [some (tv (.ref r)), some (tv (.ref d)), none, none, none] (σ.set 1 (some (V.ref d))) (upd H1 r (.frz od (.dT kv))) := at_free b1 (fun i T e => by
    match i, e with
    | 0, e => exact ⟨_, (Option.some.inj (Option.some.inj e)).symm⟩
    | 1, e => exact ⟨_, (Option.some.inj (Option.some.inj e)).symm⟩
    | 2, e => cases (Option.some.inj e)
    | 3, e => cases (Option.some.inj e)
    | 4, e => cases (Option.some.inj e)
    | n + 5, e => cases e) lv1
  obtain ⟨_, kv0, gk1, gk2⟩ := g1
  have gd1 : GrowD (r :: d :: S0) (upd H1 r (.frz od (.dT kv))) d [] := ⟨List.mem_cons_of_mem _ List.mem_cons_self, kv0, by rw [upd_ne ndr]; exact gk1, by
    cases gk2
    exact .nil⟩
  have keyAt : ∀ {i : Nat} {k : List Key} {v : V}, kv[i]? = some (k, v) → ∃ s, sts[i]? = some s ∧ k = kI s ∧ (lst ((f s).map TN)).p v (hid S0 H) := fun {i k v} h => by
    obtain ⟨e, h1, h2, h3⟩ := hpd.at h
    unfold adjE at h1
    rw [List.getElem?_map] at h1
    cases hs : sts[i]? with
    | none =>
      rw [hs] at h1
      cases h1
    | some s =>
      rw [hs] at h1
      cases h1
      exact ⟨s, rfl, h2, h3⟩
  have exR : ∀ {H' : Hp}, Ex H1 H' → Ex (hid [r] H) H' := fun {H'} e b o hb => e b o (e1 b o (hid_some hb).2)
  have tnK : ∀ {S : List Addr} {H' : Hp} {s : List Int} {qa : Addr}, Live S H' → H' qa = some (.tup ((kI s).map kV)) → (TN s).p (.ref qa) (hid S H') := fun {S H' s qa} l h => by
    rw [kI_kV] at h
    exact ⟨qa, _, rfl, by rw [hid_of (l.tup h)]; exact h, ti_ps s⟩
  refine s_forK (r := r) (od := od) (kv := kv) (e_var rfl) c1 upd_same
    (fun i σ' H' => At (r :: d :: S0) [some (tv (.ref r)), some (tv (.ref d)), none, none, none] σ' H' ∧ H' r = some (.frz od (.dT kv)) ∧ Ex (hid [r] H) H' ∧
      ∃ as_ : List Addr, as_.length = i ∧ as_.Nodup ∧ (∀ x ∈ as_, H x = none ∧ x ∉ r :: d :: S0 ∧ H' x = some (.lst [])) ∧ GrowD (r :: d :: S0) H' d (bkE (sts.take i) as_))
    (fun H3 e3 => ⟨c1.ex e3, e3 _ _ upd_same, fun b o hb => e3 b o (by
      obtain ⟨n, h⟩ := hid_some hb
      rw [upd_ne (fun e => n (by rw [e]; exact List.mem_singleton.mpr rfl))]
      exact e1 b o h), [], rfl, List.nodup_nil, fun x hx => (by cases hx), gd1.ex e3⟩) (fun i σ' H' p => p.2.1) ?_ ?_
  · intro i k v qa σ' H' hk hq p2
    obtain ⟨s, hsi, rfl, _⟩ := keyAt hk
    obtain ⟨f1, f2, f3, as_, la, nda, ha, gd⟩ := p2
    have f4 := f1.set (i := 2) (T := TN s) (tnK f1.live hq)
    have hi : i < sts.length := (List.getElem?_eq_some_iff.mp hsi).1
    have bl : (bkE (sts.take i) as_).length < 100000 := by
      unfold bkE
      rw [List.length_map, List.length_zip, List.length_take]
      omega
    have nk : lkp (bkE (sts.take i) as_) s = none := by
      rw [lkp_none]
      intro e he ex
      obtain ⟨p, hp, rfl⟩ := List.mem_map.mp he
      have hp1 := (List.of_mem_zip hp).1
      have z := look_take (f := fun _ => []) nd hsi
      rw [lkp_none] at z
      exact z (p.1, _) (List.mem_map.mpr ⟨p.1, hp1, rfl⟩) ex
    refine s_dputN (k := s) (e_var rfl) (e_var rfl) f4 gd bl nk fun x H5 hx g5 k5 nxd hx5 f5 w5 => ?_
    have hxH : H x = none := by
      cases z : H x with
      | none => rfl
      | some o =>
        by_cases e : x = r
        · rw [e, f2] at hx
          cases hx
        · have := f3 x o (by rw [hid_of (fun m => e (List.mem_singleton.1 m))]; exact z)
          rw [hx] at this
          cases this
    refine ⟨f5.le (le_cons (le_cons (le_none (le_cons (le_cons le_nil))))), k5 r _ ndr.symm f2, fun b o hb => ?_, as_ ++ [x], by rw [List.length_append, la]; rfl, ?_, fun y hy => ?_, ?_⟩
    · have h1 := f3 b o hb
      refine k5 b o (fun e => ?_) h1
      have := (hid_some hb).2
      rw [e, hn] at this
      cases this
    · refine List.nodup_append.mpr ⟨nda, by simp, fun y hy z hz e => ?_⟩
      have hz' : z = x := by simpa using hz
      have h1 := (ha y hy).2.2
      rw [e, hz', hx] at h1
      cases h1
    · rcases List.mem_append.1 hy with hy | hy
      · obtain ⟨h1, h2, h3⟩ := ha y hy
        exact ⟨h1, h2, k5 y _ (fun e => h2 (by rw [e]; exact List.mem_cons_of_mem _ List.mem_cons_self)) h3⟩
      · rw [List.mem_singleton.1 hy]
        exact ⟨hxH, f4.live.free hx, hx5⟩
    · have e : bkE (sts.take (i + 1)) (as_ ++ [x]) = bkE (sts.take i) as_ ++ [(s, tv (.ref x))] := by
        unfold bkE
        rw [List.take_add_one, hsi]
        show ((sts.take i ++ [s]).zip (as_ ++ [x])).map _ = _
        rw [List.zip_append (by rw [List.length_take, la]; omega), List.map_append]
        rfl
      rw [e]
      exact w5
  · intro σ' H' p
    obtain ⟨f1, f2, f3, as_, la, nda, ha, gd⟩ := p
    rw [hkl] at la gd
    rw [List.take_length] at gd
    refine ⟨f2, ?_⟩
    refine ⟨r, .dT kv, upd_same, trivial, fun od2 => ?_⟩
    rw [upd_upd]
    have lv2 : Live (as_ ++ (r :: d :: S0)) (upd H' r (.frz od2 (.dT kv))) := fun b hb => by
      by_cases e : b = r
      · subst e
        exact ⟨_, upd_same, rfl⟩
      · rw [upd_ne e]
        rcases List.mem_append.1 hb with hb | hb
        · exact ⟨_, (ha b hb).2.2, rfl⟩
        · exact f1.live b hb
    have c2 : At (as_ ++ (r :: d :: S0)) [some (tv (.ref r)), some (tv (.ref d)), none, none, none] σ' (upd H' r (.frz od2 (.dT kv))) := at_free f1 (fun i T e => by
      match i, e with
      | 0, e => exact ⟨_, (Option.some.inj (Option.some.inj e)).symm⟩
      | 1, e => exact ⟨_, (Option.some.inj (Option.some.inj e)).symm⟩
      | 2, e => cases (Option.some.inj e)
      | 3, e => cases (Option.some.inj e)
      | 4, e => cases (Option.some.inj e)
      | n + 5, e => cases e) lv2
    have f3' : Ex (hid [r] H) (upd H' r (.frz od2 (.dT kv))) := fun b o hb => by
      rw [upd_ne (fun e => (hid_some hb).1 (by rw [e]; exact List.mem_singleton.mpr rfl))]
      exact f3 b o hb
    have gd2 : GrowD (as_ ++ (r :: d :: S0)) (upd H' r (.frz od2 (.dT kv))) d (bkE sts as_) := by
      obtain ⟨_, kb, q1, q2⟩ := gd
      refine ⟨List.mem_append_right _ (List.mem_cons_of_mem _ List.mem_cons_self), kb, by rw [upd_ne ndr]; exact q1, ?_⟩
      have conv : ∀ {kb : List (List Key × V)} {ps : List (List Int × Addr)}, Pd (hid (r :: d :: S0) H') kb (ps.map fun p => (p.1, tv (.ref p.2))) → Pd (hid (as_ ++ (r :: d :: S0)) (upd H' r (.frz od2 (.dT kv)))) kb (ps.map fun p => (p.1, tv (.ref p.2))) := by
        intro kb ps
        induction ps generalizing kb with
        | nil =>
          intro h
          cases h
          exact .nil
        | cons p ps ih =>
          intro h
          cases h with
          | cons x y => exact .cons ⟨x.1, x.2⟩ (ih y)
      exact conv q2
    have vals : ∀ s ∈ sts, ∃ v, valV kv (kI s) = some v ∧ (lst ((f s).map TN)).p v (hid (as_ ++ (r :: d :: S0)) (upd H' r (.frz od2 (.dT kv)))) := fun s hs => by
      have z := hpd.look (k := s)
      rw [adjE_look hs] at z
      obtain ⟨v, z1, lc, vs, z2, z3, z4⟩ := z
      obtain ⟨nlS, z3'⟩ := hid_some z3
      have nlr : lc ≠ r := fun e => by
        rw [e, hrk] at z3'
        cases z3'
      have h3 := f3' lc _ (by rw [hid_of (fun m => nlr (List.mem_singleton.1 m))]; exact z3')
      refine ⟨v, z1, lc, vs, z2, ?_, ps_apart lv2 (fun b ys hb => f3' b _ ?_) z4⟩
      · rw [hid_of]
        · exact h3
        · intro m
          rcases List.mem_append.1 m with m | m
          · have := (ha lc m).1
            rw [z3'] at this
            cases this
          · rcases List.mem_cons.1 m with m | m
            · exact nlr m
            · rcases List.mem_cons.1 m with m | m
              · rw [m, hn] at z3'
                cases z3'
              · exact nlS m
      · rw [hid_of (fun m => ?_)]
        · exact hb
        · rw [List.mem_singleton.1 m, hrk] at hb
          cases hb
    have idx : ∀ {i : Nat} {s : List Int}, sts[i]? = some s → ∃ x, as_[i]? = some x := fun {i s} h => by
      have hi := (List.getElem?_eq_some_iff.mp h).1
      exact ⟨as_[i]'(by omega), List.getElem?_eq_getElem (by omega)⟩
    refine s_forK (r := r) (od := od2) (kv := kv) (e_var rfl) c2 upd_same
      (fun i σ' H2 => At (as_ ++ (r :: d :: S0)) [some (tv (.ref r)), some (tv (.ref d)), none, none, none] σ' H2 ∧ H2 r = some (.frz od2 (.dT kv)) ∧ Ex (hid [r] H) H2 ∧ Go (as_ ++ (r :: d :: S0)) (upd H' r (.frz od2 (.dT kv))) H2 ∧
        GrowD (as_ ++ (r :: d :: S0)) H2 d (bkE sts as_) ∧ ∀ (j : Nat) s x, sts[j]? = some s → as_[j]? = some x → Grow (as_ ++ (r :: d :: S0)) H2 x (((sts.take i).flatMap fun p => hitL s p (f p)).map TN))
      (fun H3 e3 => ⟨c2.ex e3, e3 _ _ upd_same, f3'.trans e3, .of c2.live e3, gd2.ex e3, fun j s x h1 h2 => ⟨List.mem_append_left _ (List.mem_of_getElem? h2), [], e3 _ _ (by
        obtain ⟨_, h4, h5⟩ := ha x (List.mem_of_getElem? h2)
        rw [upd_ne (fun e => h4 (by rw [e]; exact List.mem_cons_self))]
        exact h5), .nil⟩⟩) (fun i σ' H' p => p.2.1) ?_ ?_
    · intro i k v qa σ2 H2 hk hq p2
      obtain ⟨s, hsi, rfl, _⟩ := keyAt hk
      obtain ⟨m1, m2, m3, m4, m5, m6⟩ := p2
      have hs := List.mem_of_getElem? hsi
      have m7 := m1.set (i := 2) (T := TN s) (tnK m1.live hq)
      obtain ⟨vv, vz1, vz2⟩ := vals s hs
      have hflat : ∀ (x : List Int), (sts.take (i + 1)).flatMap (fun p => hitL x p (f p)) = (sts.take i).flatMap (fun p => hitL x p (f p)) ++ hitL x s (f s) := fun x => flat_take hsi
      refine s_forI (n := (f s).length) (tf := fun j => TN ((f s).getD j [])) (i_listL (K := K) (fun Q q => e_getF (e_var rfl) (e_var rfl) m7 m2 vz1 ((lst _).mono m4.1 vz2) Q q) (by simp) fun j hj => list_at hj) m7
        (fun j σ' H3 => At (as_ ++ (r :: d :: S0)) [some (tv (.ref r)), some (tv (.ref d)), some (TN s), none, none] σ' H3 ∧ H3 r = some (.frz od2 (.dT kv)) ∧ Ex (hid [r] H) H3 ∧ Go (as_ ++ (r :: d :: S0)) (upd H' r (.frz od2 (.dT kv))) H3 ∧
          GrowD (as_ ++ (r :: d :: S0)) H3 d (bkE sts as_) ∧ ∀ (j' : Nat) s' x, sts[j']? = some s' → as_[j']? = some x → Grow (as_ ++ (r :: d :: S0)) H3 x (((sts.take i).flatMap (fun p => hitL s' p (f p)) ++ hitL s' s ((f s).take j)).map TN))
        (fun j σ' H3 H4 e p => ⟨p.1.ex e, e _ _ p.2.1, p.2.2.1.trans e, p.2.2.2.1.trans (.of p.2.2.2.1.2 e), p.2.2.2.2.1.ex e, fun a b c h1 h2 => (p.2.2.2.2.2 a b c h1 h2).ex e⟩)
        (fun H3 e3 => ⟨m7.ex e3, e3 _ _ m2, m3.trans e3, m4.trans (.of m4.2 e3), m5.ex e3, fun j' s' x h1 h2 => ?_⟩) ?_ ?_
      · have z := (m6 j' s' x h1 h2).ex e3
        rw [show hitL s' s ((f s).take 0) = [] from rfl, List.append_nil]
        exact z
      · intro j v σ3 H0 H3 hj g0 g1 p1 p2
        obtain ⟨n1, n2, n3, n4, n5, n6⟩ := p2
        have hoj : (f s)[j]? = some ((f s).getD j []) := by simp [List.getD_eq_getElem?_getD, List.getElem?_eq_getElem hj]
        generalize ho : (f s).getD j [] = o at p1 hoj
        have n7 := n1.set (i := 3) p1
        have hom := hc s hs o (List.mem_of_getElem? hoj)
        obtain ⟨jo, hjo, ejo⟩ := List.getElem_of_mem hom
        have hjo' : sts[jo]? = some o := by rw [List.getElem?_eq_getElem hjo, ejo]
        obtain ⟨x, hx⟩ := idx hjo'
        refine q_getG (i := 4) (k := o) (T := tv (.ref x)) (e_var rfl) (e_var rfl) n7 n5 (bk_look nd hjo' hx) fun v4 H4 e4 n8 => ?_
        have gx := (n6 jo o x hjo' hx).ex e4
        have pl := pred_len (f := f) (s := o) (ps := sts.take i) (c := 100) fun y hy => hfl y (List.mem_of_mem_take hy)
        have hl2 := hit_len o s ((f s).take j)
        have hl3 := hfl s hs
        rw [List.length_take] at pl hl2
        have hmul : min i sts.length * 100 ≤ 500 * 100 := Nat.mul_le_mul (by omega) (Nat.le_refl _)
        refine s_app (T := TN s) (e_var rfl) (e_var rfl) (by rw [List.length_map, List.length_append]; omega) n8 gx fun H5 g5 k5 n9 w5 => ?_
        have nxr : x ≠ r := fun e => (ha x (List.mem_of_getElem? hx)).2.1 (by rw [e]; exact List.mem_cons_self)
        have nxd : x ≠ d := fun e => (ha x (List.mem_of_getElem? hx)).2.1 (by rw [e]; exact List.mem_cons_of_mem _ List.mem_cons_self)
        refine ⟨(g0.trans (.of g0.2 e4)).trans g5, n9.le (le_cons (le_cons (le_cons (le_none (le_none le_nil))))), k5 r _ nxr.symm (e4 _ _ n2), fun b u hb => k5 b u (fun e => ?_) (e4 _ _ (n3 b u hb)), (n4.trans (.of n4.2 e4)).trans g5, (n5.ex e4).go g5 fun o hb => k5 d o nxd.symm hb, fun j' s' x' h1 h2 => ?_⟩
        · have z := (hid_some hb).2
          rw [e, (ha x (List.mem_of_getElem? hx)).1] at z
          cases z
        · rw [hit_take hoj]
          by_cases e : x' = x
          · have ejj : j' = jo := by
              have q1 := List.getElem?_eq_some_iff.mp h2
              have q2 := List.getElem?_eq_some_iff.mp hx
              obtain ⟨b1, c1⟩ := q1
              obtain ⟨b2, c2⟩ := q2
              by_cases lt : j' < jo
              · exact absurd (c1.trans (e.trans c2.symm)) ((List.pairwise_iff_getElem.mp nda) j' jo b1 b2 lt)
              · by_cases gt : jo < j'
                · exact absurd (c2.trans (e.symm.trans c1.symm)) ((List.pairwise_iff_getElem.mp nda) jo j' b2 b1 gt)
                · omega
            subst ejj
            have es : s' = o := Option.some.inj (h1.symm.trans hjo')
            subst es
            rw [if_pos rfl, ← List.append_assoc, List.map_append, e]
            exact w5
          · have es : ¬ o = s' := fun q => by
              subst q
              have ejj : j' = jo := by
                have q1 := List.getElem?_eq_some_iff.mp h1
                obtain ⟨b1, c1⟩ := q1
                by_cases lt : j' < jo
                · exact absurd (c1.trans ejo.symm) ((List.pairwise_iff_getElem.mp nd) j' jo b1 hjo lt)
                · by_cases gt : jo < j'
                  · exact absurd (ejo.trans c1.symm) ((List.pairwise_iff_getElem.mp nd) jo j' hjo b1 gt)
                  · omega
              subst ejj
              exact e (Option.some.inj (h2.symm.trans hx))
            rw [if_neg es, List.append_nil]
            exact grow_go ((n6 j' s' x' h1 h2).ex e4) g5 fun u hb => k5 x' u e hb
      · intro σ3 H3 g' p
        obtain ⟨n1, n2, n3, n4, n5, n6⟩ := p
        refine ⟨n1.le (le_cons (le_cons (le_none (le_cons (le_cons le_nil))))), n2, n3, n4, n5, fun j' s' x h1 h2 => ?_⟩
        have z := n6 j' s' x h1 h2
        rw [List.take_length] at z
        rw [hflat]
        exact z
    · intro σ2 H2 p
      obtain ⟨m1, m2, m3, m4, m5, m6⟩ := p
      rw [hkl, List.take_length] at m6
      refine ⟨m2, ?_⟩
      -- what was hidden is shown
      have hdn : d ∉ S0 := a.live.free hn
      have lv3 : Live S0 (upd H2 r (.dT kv)) := fun b hb => by
        have nb : b ≠ r := fun e => nrS (e ▸ hb)
        rw [upd_ne nb]
        exact m1.live b (List.mem_append_right _ (List.mem_cons_of_mem _ (List.mem_cons_of_mem _ hb)))
      obtain ⟨v1, h1, h1'⟩ := m1.env 1 _ rfl
      have h1'' : v1 = .ref d := h1'
      subst h1''
      have fin : (dct (adjE (predL f sts) sts)).p (.ref d) (hid S0 (upd H2 r (.dT kv))) := by
        obtain ⟨_, kb, q1, q2⟩ := m5
        refine ⟨d, kb, rfl, by rw [hid_of hdn, upd_ne ndr]; exact q1, ?_⟩
        have conv : ∀ {kb : List (List Key × V)} {ps : List (List Int × Addr)}, (∀ p ∈ ps, ∃ j : Nat, sts[j]? = some p.1 ∧ as_[j]? = some p.2) → Pd (hid (as_ ++ (r :: d :: S0)) H2) kb (ps.map fun p => (p.1, tv (.ref p.2))) → Pd (hid S0 (upd H2 r (.dT kv))) kb (ps.map fun p => (p.1, lst ((predL f sts p.1).map TN))) := by
          intro kb ps
          induction ps generalizing kb with
          | nil =>
            intro _ h
            cases h
            exact .nil
          | cons p ps ih =>
            intro hall h
            cases h with
            | cons x y =>
              refine .cons ⟨x.1, ?_⟩ (ih (fun p hp => hall p (List.mem_cons_of_mem _ hp)) y)
              obtain ⟨j, j1, j2⟩ := hall p List.mem_cons_self
              obtain ⟨_, vs, w1, w2⟩ := m6 j p.1 p.2 j1 j2
              obtain ⟨_, hx2, _⟩ := ha p.2 (List.mem_of_getElem? j2)
              have nxr : p.2 ≠ r := fun e => hx2 (by rw [e]; exact List.mem_cons_self)
              have nxS : p.2 ∉ S0 := fun e => hx2 (List.mem_cons_of_mem _ (List.mem_cons_of_mem _ e))
              refine ⟨p.2, vs, x.2, by rw [hid_of nxS, upd_ne nxr]; exact w1, ps_apart lv3 (fun b ys hb => ?_) w2⟩
              rw [upd_ne (fun e => ?_)]
              · exact hb
              · rw [e, m2] at hb
                cases hb
        have e : (sts.zip as_).map (fun p => (p.1, lst ((predL f sts p.1).map TN))) = adjE (predL f sts) sts := by
          have z : (sts.zip as_).map Prod.fst = sts := List.map_fst_zip (by omega)
          have z2 : sts.map (fun s => (s, lst ((predL f sts s).map TN))) = ((sts.zip as_).map Prod.fst).map (fun s => (s, lst ((predL f sts s).map TN))) := by rw [z]
          unfold adjE
          rw [z2, List.map_map]
          rfl
        rw [← e]
        refine conv (fun p hp => ?_) q2
        obtain ⟨j, hj, ej⟩ := List.getElem_of_mem hp
        rw [List.getElem_zip] at ej
        rw [List.length_zip] at hj
        exact ⟨j, by rw [List.getElem?_eq_getElem (by omega), ← ej], by rw [List.getElem?_eq_getElem (by omega), ← ej]⟩
      have exF : Ex H (upd H2 r (.dT kv)) := fun b o hb => by
        by_cases e : b = r
        · subst e
          rw [hrk] at hb
          cases hb
          exact upd_same
        · rw [upd_ne e]
          exact m3 b o (by rw [hid_of (fun m => e (List.mem_singleton.1 m))]; exact hb)
      exact ⟨.ref d, h1, q _ _ exF fin⟩
end
end WD

set_option Elab.async false
set_option linter.all false
set_option maxRecDepth 100000
set_option maxHeartbeats 3900000
namespace WM
theorem movesL_at : ∀ {n k : Nat}, k < n → (movesL n)[2 * k]? = some (k, true) ∧ (movesL n)[2 * k + 1]? = some (k, false)
  | 0, k, h => by omega
  | n + 1, k, h => by
    rw [movesL_succ]
    have hl := movesL_len n
    by_cases e : k < n
    · obtain ⟨h1, h2⟩ := movesL_at e
      rw [List.getElem?_append_left (by omega), List.getElem?_append_left (by omega)]
      exact ⟨h1, h2⟩
    · have e2 : k = n := by omega
      subst e2
      rw [List.getElem?_append_right (by omega), List.getElem?_append_right (by omega), hl, Nat.sub_self, show 2 * k + 1 - 2 * k = 1 by omega]
      exact ⟨rfl, rfl⟩
theorem movesL_ix {n i : Nat} {m : Mv} (h : (movesL n)[i]? = some m) : m.1 = i / 2 := by
  have hi := (List.getElem?_eq_some_iff.mp h).1
  rw [movesL_len] at hi
  obtain ⟨h1, h2⟩ := movesL_at (n := n) (k := i / 2) (by omega)
  by_cases e : i = 2 * (i / 2)
  · rw [← e, h] at h1
    rw [Option.some.inj h1]
  · have e2 : i = 2 * (i / 2) + 1 := by omega
    rw [← e2, h] at h2
    rw [Option.some.inj h2]
theorem movesL_before {n i : Nat} {m m' : Mv} (h : (movesL n)[i]? = some m') (lt : m.1 < m'.1) : ∃ j, j ≤ i ∧ (movesL n)[j]? = some m := by
  have e := movesL_ix h
  have hi := (List.getElem?_eq_some_iff.mp h).1
  rw [movesL_len] at hi
  obtain ⟨h1, h2⟩ := movesL_at (n := n) (k := m.1) (by omega)
  obtain ⟨a, b⟩ := m
  cases b with
  | true => exact ⟨2 * a, by have : a < m'.1 := lt; omega, h1⟩
  | false => exact ⟨2 * a + 1, by have : a < m'.1 := lt; omega, h2⟩
end WM
namespace WD
open PySem PySem.Spec PyProof.Rows L2 Evl WT WM WB
section
variable {w : World} {P : Program} {K : PySem.W.Frag} {mg : Str → Option Value} {base : Heap} {CR CN CU fU KA : Addr} {mc : Value}
def Sg__law_is_smaller_first : Sig := fun Ts T => ∃ (caps : List Int) (ns : Far) (s : List Int) (m : Mv) (g : Int), Ts = [lst (chansT caps), dct (farE ns), TN s, mvT m] ∧ T = tL false ∧ Shape caps s s ∧ caps.length ≤ 100 ∧ lkp ns s = some g ∧
  ∀ (i : Nat) m', (movesL caps.length)[i]? = some m' → (∀ j, j ≤ i → (movesL caps.length)[j]? ≠ some m) → okM caps s m' = true → (lkp ns (aftM s m')).getD (-1) ≠ g - 1
theorem cal__law_is_smaller_first (F : TopF K mg CR CN CU fU KA mc) : C8.Cal P w K mg base 2 "_law_is_smaller_first" (SpT Sg__law_is_smaller_first) [] := by
  refine cal_ty (k := 1) F.d__law_is_smaller_first sc__law_is_smaller_first (fun Ts T h => by obtain ⟨caps, ns, s, m, g, rfl, rfl, S, hz, hg, hne⟩ := h; rfl) (fun _ _ _ _ _ _ us hl => match us, hl with | [_, _, _, _], _ => rfl) fun f cdv A outer s_ H_ E_ hr Ts T hs => ?_
  obtain ⟨caps, ns, s, m, g, rfl, rfl, S, hz, hg, hne⟩ := hs
  refine ⟨_, (pss_cons (ps_for PassesOwn.never rfl (kpiL K (C8.pe_c (cal__law_moves F) hr (by decide) (by rfl) (pa_cons (pe_callB (klen K) (by rfl) F.n_len b_len (pa_cons (pv 2) pa_nil)) pa_nil))) (pg_name (i := 4) sc__law_is_smaller_first.nd rfl (Or.inl rfl)) (pss_cons (ps_if (pt_cmpR (WR.op_eqDt snd_is (by decide) hr.units) (pv 4) (pv 3) (nomark _)) (pss_one (ps_ret pe_bl)) pss_nil)
      (pss_one (ps_if (pt_val (C8.pe_c (cal__law_is_allowed F) hr (by decide) (by rfl) (pa_cons (pv 0) (pa_cons (pv 2) (pa_cons (pv 4) pa_nil))))) (pss_one (ps_if (pt_cmpR op_eq (pe_dget2 (hu_of hr) (pv 1) (C8.pe_c (cal__law_after F) hr (by decide) (by rfl) (pa_cons (pv 2) (pa_cons (pv 4) pa_nil))) (pe_un un_neg pe_int) ⟨rfl, rfl, rfl, rfl⟩) (pe_op op_sub (pe_dget (hu_of hr) (pv 1) (pv 2) (fun _ _ => rfl)) pe_int) (nomark _)) (pss_one (ps_ret pe_bl)) pss_nil)) pss_nil))))
      (pss_one (ps_ret pe_bl))), ?_⟩
  intro S0 D σ H a q
  have hm := movesL_len caps.length
  refine q_for (n := (movesL caps.length).length) (tf := fun i => mvT ((movesL caps.length).getD i (0, true))) (i_list (e_call (a_cons (e_cb (a_cons (e_var rfl) a_nil) c_lenT) a_nil) ⟨caps.length, by rw [List.length_map, S.ls], rfl, hz⟩) (by simp) fun j hj => list_at hj) a
    (fun i σ' H' => Ex H H' ∧ At S0 [some (lst (chansT caps)), some (dct (farE ns)), some (TN s), some (mvT m), none] σ' H' ∧ ∀ j, j < i → (movesL caps.length)[j]? ≠ some m)
    (fun i σ' H' H3 e p => ⟨p.1.trans e, p.2.1.ex e, p.2.2⟩) (fun H3 e3 => ⟨e3, a.ex e3, fun j hj => absurd hj (by omega)⟩) ?_ ?_
  · intro i v σ' H0 H' hi g0 g1 p1 p2
    obtain ⟨x1, b1, hb⟩ := p2
    have c1 := b1.set (i := 4) p1
    have hmi : (movesL caps.length)[i]? = some ((movesL caps.length).getD i (0, true)) := by simp [List.getD_eq_getElem?_getD, List.getElem?_eq_getElem hi]
    generalize hq : (movesL caps.length).getD i (0, true) = m' at p1 c1 hmi
    have hm1 := mem_movesL.mp (List.mem_of_getElem? hmi)
    refine q_if (t_test (e_op (e_var rfl) (e_var rfl) (o_eqD (fun S H v => d_mv) (fun S H v => d_mv)))) c1 (fun hb2 H3 e3 c3 => s_ret e_c c3 fun v H4 e4 p4 => q v H4 ((x1.trans e3).trans e4) p4) (fun hb2 H3 e3 c3 => ?_)
    have nem : m' ≠ m := fun e => by
      rw [e] at hb2
      exact absurd rfl (of_decide_eq_false hb2)
    have hb3 : ∀ j, j ≤ i → (movesL caps.length)[j]? ≠ some m := fun j hj => by
      by_cases e : j = i
      · rw [e, hmi]
        exact fun z => nem (Option.some.inj z)
      · exact hb j (by omega)
    have fin : ∀ {H5 : Hp}, Ex H3 H5 → At S0 [some (lst (chansT caps)), some (dct (farE ns)), some (TN s), some (mvT m), some (mvT m')] (σ'.set 4 (some v)) H5 → Go S0 H0 H5 ∧ Ex H H5 ∧ At S0 [some (lst (chansT caps)), some (dct (farE ns)), some (TN s), some (mvT m), none] (σ'.set 4 (some v)) H5 ∧ ∀ j, j < i + 1 → (movesL caps.length)[j]? ≠ some m :=
      fun {H5} e5 c5 => ⟨g0.trans (.of g0.2 (e3.trans e5)), (x1.trans e3).trans e5, c5.le (le_cons (le_cons (le_cons (le_cons (le_none le_nil))))), fun j hj => hb3 j (by omega)⟩
    refine s_if (t_B (e_call (a_cons (e_var rfl) (a_cons (e_var rfl) (a_cons (e_var rfl) a_nil))) ⟨caps, s, m', rfl, rfl, hm1, S, hz⟩)) c3 (fun hok H4 e4 c4 => ?_) (fun _ H4 e4 c4 => fin e4 c4)
    have hnn := hne i m' hmi hb3 hok
    refine s_no (t_is (t_test (e_op (e_dget2 (e_var rfl) (e_call (a_cons (e_var rfl) (a_cons (e_var rfl) a_nil)) ⟨s, m', rfl, rfl, by rw [S.ls]; exact hm1, by rw [S.ls]; exact hz⟩) (e_neg e_c)) (e_op (e_dget (T := tI g) (e_var rfl) (e_var rfl) (by rw [farE_look, hg]; rfl)) e_c o_I0) (o_eq rfl))) (decide_eq_false fun z => hnn (V.int.inj z))) c4 fun H5 e5 c5 => fin (e4.trans e5) c5
  · intro σ' H' g' p
    obtain ⟨x1, b1, _⟩ := p
    exact s_ret e_c b1 fun v H3 e3 p3 => q v H3 (x1.trans e3) p3
end
/-! ### the box of numbers -/
section
variable {K : PySem.W.Frag} {S0 : List Addr} {Γ : Cn} {σ : L2.St} {H H' : Hp} {D : Ends} {td ty te : TE} {tt : TT} {tu tw tz : TS} {T : Ty} {b : Addr} {ts : List Ty} {x : V} {i : Nat} {c : Bool}
theorem at_box (h : At (b :: S0) Γ σ H) (hσ : σ[0]? = some (some (.ref b))) (g : Grow (b :: S0) H b ts) (nb : b ∉ S0) : At S0 (Γ.set 0 (some (lst ts))) σ H := h.show.put hσ (g.done nb)
theorem s_asgB (he : EvP te (Γ.set 0 (some (lst ts))) (tv x)) (h : At (b :: S0) Γ σ H) (hσ : σ[0]? = some (some (.ref b))) (g : Grow (b :: S0) H b ts) (nb : b ∉ S0)
    (k : ∀ H1, Ex H H1 → At (b :: S0) (Γ.set i (some (tv x))) (σ.set i (some x)) H1 → Grow (b :: S0) H1 b ts → D.nx (σ.set i (some x)) H1) : tAsg te (gName i) D σ H :=
  he S0 σ H (at_box h hσ g nb) _ fun v H1 e p => by
    rw [show v = x from p]
    exact k H1 e ((h.ex e).set rfl) (g.ex e)
theorem q_asgB (he : EvP te (Γ.set 0 (some (lst ts))) (tv x)) (h : At (b :: S0) Γ σ H) (hσ : σ[0]? = some (some (.ref b))) (g : Grow (b :: S0) H b ts) (nb : b ∉ S0)
    (k : ∀ H1, Ex H H1 → At (b :: S0) (Γ.set i (some (tv x))) (σ.set i (some x)) H1 → Grow (b :: S0) H1 b ts → tz D (σ.set i (some x)) H1) : tSeq (tAsg te (gName i)) tz D σ H := s_asgB (D := { D with nx := tz D }) he h hσ g nb k
/-- x = box[j] -/
theorem q_getB {j : Nat} (h : At (b :: S0) Γ σ H) (hσ : σ[0]? = some (some (.ref b))) (g : Grow (b :: S0) H b ts) (hj : ts[j]? = some T) (k : ∀ v, At (b :: S0) (Γ.set i (some T)) (σ.set i (some v)) H → tz D (σ.set i (some v)) H) :
    tSeq (tAsg (tOp (rIxL K) (tVar 0) (tC (.int (j : Nat)))) (gName i)) tz D σ H := by
  obtain ⟨_, vs, h1, h2⟩ := g
  obtain ⟨v, hv, pv⟩ := h2.get hj
  exact ⟨.ref b, hσ, b, vs, (j : Nat), v, rfl, rfl, sq_of h1, atI_nat hv, k v (h.set pv)⟩
/-- box[j] = e -/
theorem s_setB {j : Nat} (he : EvP te (Γ.set 0 (some (lst ts))) (tv x)) (h : At (b :: S0) Γ σ H) (hσ : σ[0]? = some (some (.ref b))) (g : Grow (b :: S0) H b ts) (nb : b ∉ S0) (hj : j < ts.length)
    (k : ∀ H1, Go (b :: S0) H H1 → (∀ c o, c ≠ b → H c = some o → H1 c = some o) → At (b :: S0) Γ σ H1 → Grow (b :: S0) H1 b (ts.set j (tv x)) → D.nx σ H1) : tAsg te (gSub (tVar 0) (tC (.int (j : Nat))) rSetL) D σ H :=
  he S0 σ H (at_box h hσ g nb) _ fun v H1 e p => by
    rw [show v = x from p]
    obtain ⟨hb, vs, h1, h2⟩ := g.ex e
    have lw := h2.len
    have hh : hid (b :: S0) (upd H1 b (.lst (vs.set j x))) = hid (b :: S0) H1 := hid_upd hb
    have a1 := h.ex e
    have gg : Go (b :: S0) H (upd H1 b (.lst (vs.set j x))) := ⟨by rw [hh]; exact ex_hid e, a1.live.upd rfl⟩
    refine ⟨.ref b, hσ, b, vs, (j : Nat), j, rfl, rfl, h1, Evl.ixN_nat (by omega), k _ gg (fun c o hc hx => by rw [upd_ne hc]; exact e _ _ hx) (h.go gg) ⟨hb, _, upd_same, ?_⟩⟩
    rw [hh]
    have st : ∀ {H : Hp} {vs : List V} {ts : List Ty} (j : Nat), Ps H vs ts → Ps H (vs.set j x) (ts.set j (tv x)) := by
      intro H vs ts j h
      induction h generalizing j with
      | nil => exact .nil
      | @cons a t as ts ha r ih =>
        cases j with
        | zero => exact .cons rfl r
        | succ j => exact .cons ha (ih j)
    exact st j h2
theorem q_setB {j : Nat} (he : EvP te (Γ.set 0 (some (lst ts))) (tv x)) (h : At (b :: S0) Γ σ H) (hσ : σ[0]? = some (some (.ref b))) (g : Grow (b :: S0) H b ts) (nb : b ∉ S0) (hj : j < ts.length)
    (k : ∀ H1, Go (b :: S0) H H1 → (∀ c o, c ≠ b → H c = some o → H1 c = some o) → At (b :: S0) Γ σ H1 → Grow (b :: S0) H1 b (ts.set j (tv x)) → tz D σ H1) : tSeq (tAsg te (gSub (tVar 0) (tC (.int (j : Nat))) rSetL)) tz D σ H := s_setB (D := { D with nx := tz D }) he h hσ g nb hj k
theorem s_ifB (ht : EtP tt (Γ.set 0 (some (lst ts))) c) (h : At (b :: S0) Γ σ H) (hσ : σ[0]? = some (some (.ref b))) (g : Grow (b :: S0) H b ts) (nb : b ∉ S0) (h1 : c = true → ∀ H1, Ex H H1 → At (b :: S0) Γ σ H1 → Grow (b :: S0) H1 b ts → tu D σ H1)
    (h2 : c = false → ∀ H1, Ex H H1 → At (b :: S0) Γ σ H1 → Grow (b :: S0) H1 b ts → tw D σ H1) : tIfS tt tu tw D σ H := ht S0 σ H (at_box h hσ g nb) _ fun H1 e => by
  cases c with
  | true =>
    show tu D σ H1
    exact h1 rfl H1 e (h.ex e) (g.ex e)
  | false =>
    show tw D σ H1
    exact h2 rfl H1 e (h.ex e) (g.ex e)
theorem s_retB (he : EvP te (Γ.set 0 (some (lst ts))) (tv x)) (h : At (b :: S0) Γ σ H) (hσ : σ[0]? = some (some (.ref b))) (g : Grow (b :: S0) H b ts) (nb : b ∉ S0) (k : ∀ H1, Ex H H1 → Grow (b :: S0) H1 b ts → D.rt x H1) : tRet te D σ H :=
  he S0 σ H (at_box h hσ g nb) _ fun v H1 e p => by
    rw [show v = x from p]
    exact k H1 e (g.ex e)
end
/-- the box at b: its cells, where it stands, what is left of the cell, how often it was asked, a seed -/
def BoxV (S0 : List Addr) (H : Hp) (b : Addr) : Prop := b ∉ S0 ∧ Live (b :: S0) H ∧ ∃ (cs : List Int) (at_ : Nat) (x2 n sd : Int), Grow (b :: S0) H b [lst (cs.map tI), tI (at_ : Nat), tI x2, tI n, tI sd] ∧ at_ < cs.length ∧ ∃ pre, cs = pre ++ [0]
def SpTake : Sp := fun vs H Q _ => ∃ (S0 : List Addr) (b : Addr) (n : Nat), vs = [.ref b, .int (n : Nat)] ∧ 1 ≤ n ∧ n ≤ 10000 ∧ BoxV S0 H b ∧ ∀ (v : Nat) H', v < n → Go (b :: S0) H H' → (∀ c o, c ≠ b → H c = some o → H' c = some o) → BoxV S0 H' b → Q (.int (v : Nat)) H'
section
variable {w : World} {P : Program} {K : PySem.W.Frag} {mg : Str → Option Value} {base : Heap} {CR CN CU fU KA : Addr} {mc : Value}
theorem pow18 : ((10 : Int) ^ (18 : Int).toNat) = 1000000000000000000 := by decide
theorem mod_rng {a m : Int} (h : 0 < m) : 0 ≤ a % m ∧ a % m < m := ⟨Int.emod_nonneg _ (by omega), Int.emod_lt_of_pos _ h⟩
theorem cal__law_take (F : TopF K mg CR CN CU fU KA mc) : C8.Cal P w K mg base 1 "_law_take" SpTake [] := by
  obtain ⟨f, fd, F1, hm⟩ := F.d__law_take
  refine ⟨f, fd, ["_law_box_here", "_law_size"], [], F1.ok (k := 0) sc__law_take (fun vs H Q E h => ?_) (fun cdv A outer s H vs Q E hr h => ?_), hm, F1.kp, F1.binds (fun _ _ _ _ _ _ us hl => match us, hl with | [_, _], _ => rfl), .nil⟩
  · obtain ⟨S0, b, n, rfl, _⟩ := h
    rfl
  · obtain ⟨S0, b, n, rfl, h1, h2, ⟨nb, lv, cs, at_, x2, cn, sd, gr, hat, pre, hpre⟩, q⟩ := h
    refine ⟨_, (pss_cons (ps_set (i := 2) sc__law_take.nd rfl (Or.inl rfl) (pe_ix (kixL K) (pv 0) pe_int (fun _ _ => rfl)))
      (pss_cons (ps_set (i := 3) sc__law_take.nd rfl (Or.inl rfl) (pe_ix (kixL K) (pv 0) pe_int (fun _ _ => rfl)))
      (pss_cons (ps_asg (pe_op op_add (pe_ix (kixL K) (pv 0) pe_int (fun _ _ => rfl)) pe_int) (pg_sub (pv 0) pe_int set_list))
      (pss_cons (ps_if (pt_cmpR op_ge (pe_ix (kixL K) (pv 2) (pv 3) (fun _ _ => rfl)) (pe_op op_pow pe_int pe_int) (nomark _)) (pss_cons (ps_set (i := 4) sc__law_take.nd rfl (Or.inl rfl) (pe_op op_mod (pe_callTy call_int1 (by rfl) F.n_int b_int (pa_cons (pe_ix (kixL K) (pv 0) pe_int (fun _ _ => rfl)) pa_nil)) (pv 1)))
      (pss_cons (ps_asg (pe_op op_fdiv (pe_callTy call_int1 (by rfl) F.n_int b_int (pa_cons (pe_ix (kixL K) (pv 0) pe_int (fun _ _ => rfl)) pa_nil)) (pv 1)) (pg_sub (pv 0) pe_int set_list))
      (pss_cons (ps_if (pt_cmpR op_eq (pe_ix (kixL K) (pv 0) pe_int (fun _ _ => rfl)) pe_int (nomark _)) (pss_cons (ps_asg (pe_op op_add (pv 3) pe_int) (pg_sub (pv 0) pe_int set_list))
      (pss_one (ps_asg (pe_ix (kixL K) (pv 2) (pe_op op_add (pv 3) pe_int) (fun _ _ => rfl)) (pg_sub (pv 0) pe_int set_list)))) pss_nil)
      (pss_one (ps_ret (pv 4)))))) pss_nil)
      (pss_cons (ps_set (i := 5) sc__law_take.nd rfl (Or.inl rfl) (pe_op op_add (pe_callTy call_int1 (by rfl) F.n_int b_int (pa_cons (pe_ix (kixL K) (pv 0) pe_int (fun _ _ => rfl)) pa_nil)) (pe_ix (kixL K) (pv 2) (pv 3) (fun _ _ => rfl))))
      (pss_cons (ps_set (i := 6) sc__law_take.nd rfl (Or.inl rfl) (pe_op op_mod (pe_callTy call_int1 (by rfl) F.n_int b_int (pa_cons (pe_op op_add (pe_op op_mul (pe_op op_mod (pe_callTy call_int1 (by rfl) F.n_int b_int (pa_cons (pv 5) pa_nil)) pe_int) pe_int) (pe_op op_mul (pe_ix (kixL K) (pv 0) pe_int (fun _ _ => rfl)) pe_int)) pa_nil)) pe_int))
      (pss_cons (ps_set (i := 7) sc__law_take.nd rfl (Or.inl rfl) (pe_op op_mod (pe_callTy call_int1 (by rfl) F.n_int b_int (pa_cons (pe_op op_add (pe_op op_add (pe_op op_mul (pv 6) (pv 6)) (pe_op op_mul (pe_ix (kixL K) (pv 0) pe_int (fun _ _ => rfl)) pe_int)) (pv 5)) pa_nil)) pe_int))
      (pss_cons (ps_set (i := 8) sc__law_take.nd rfl (Or.inl rfl) (pe_op op_mod (pe_callTy call_int1 (by rfl) F.n_int b_int (pa_cons (pe_op op_add (pe_op op_mul (pe_op op_fdiv (pv 7) pe_int) (pe_op op_add (pe_op op_fdiv (pv 6) pe_int) pe_int)) (pv 7)) pa_nil)) pe_int))
      (pss_cons (ps_if (pw_and (pt_cmpR op_lt (pe_op op_add (pv 3) pe_int) (pe_callB (klen K) (by rfl) F.n_len b_len (pa_cons (pv 2) pa_nil)) (nomark _)) (pw_and1 (pt_cmpR op_eq (pe_op op_mod (pe_callTy call_int1 (by rfl) F.n_int b_int (pa_cons (pe_ix (kixL K) (pv 0) pe_int (fun _ _ => rfl)) pa_nil)) pe_int) pe_int (nomark _)))).pt (pss_cons (ps_asg (pe_op op_add (pv 3) pe_int) (pg_sub (pv 0) pe_int set_list))
      (pss_one (ps_asg (pe_ix (kixL K) (pv 2) (pe_op op_add (pv 3) pe_int) (fun _ _ => rfl)) (pg_sub (pv 0) pe_int set_list)))) pss_nil)
      (pss_one (ps_ret (pe_op op_mod (pe_op op_fdiv (pv 8) pe_int) (pv 1))))))))))))), ?_⟩
    have a0 : At (b :: S0) (st0 ["_law_box_here", "_law_size", "_law_cells", "_law_at", "_law_digit", "_law_number", "_law_once", "_law_twice", "_law_third"] [tv (.ref b), tI (n : Nat)]) (L2.start ["_law_box_here", "_law_size", "_law_cells", "_law_at", "_law_digit", "_law_number", "_law_once", "_law_twice", "_law_third"] [.ref b, .int (n : Nat)]) H := at_start lv (.cons rfl (.cons rfl .nil))
    refine q_getB (j := 0) a0 rfl gr rfl fun v2 a1 => ?_
    refine q_getB (j := 1) a1 rfl gr rfl fun v3 a2 => ?_
    refine q_setB (j := 3) (e_op (e_op (e_var rfl) e_c (o_ixL (by decide) rfl)) e_c o_I0) a2 rfl gr nb (by simp) fun H3 g3 k3 a3 gr3 => ?_
    have hx1 : (cs.map tI)[at_]? = some (tI (gi cs at_)) := tn_at hat
    refine s_ifB (b := b) (t_test (e_op (e_op (e_var rfl) (e_var rfl) (o_ixNL hat)) (e_op e_c e_c (o_I ⟨by decide, by decide, by decide⟩)) o_I0)) a3 rfl gr3 nb (fun hb H4 e4 a4 gr4 => ?_) (fun hb H4 e4 a4 gr4 => ?_)
    · -- a digit of the cell
      have hbig : (1000000000000000000 : Int) ≤ gi cs at_ := by
        have z := of_decide_eq_true hb
        rw [pow18] at z
        exact z
      have hat2 : at_ + 1 < cs.length := by
        by_cases e : at_ + 1 < cs.length
        · exact e
        · have hl : cs.length = pre.length + 1 := by rw [hpre]; simp
          have e2 : at_ = pre.length := by omega
          rw [hpre, gi_app, if_neg (by omega), if_pos e2] at hbig
          omega
      have nn : (0 : Int) < ((n : Nat) : Int) := by omega
      refine q_asgB (b := b) (e_op (e_cb (a_cons (e_op (e_var rfl) e_c (o_ixL (by decide) rfl)) a_nil) c_int) (e_var rfl) (o_I nn)) a4 rfl gr4 nb fun H5 e5 a5 gr5 => ?_
      refine q_setB (j := 2) (b := b) (e_op (e_cb (a_cons (e_op (e_var rfl) e_c (o_ixL (by decide) rfl)) a_nil) c_int) (e_var rfl) (o_I ⟨nn, by omega⟩)) a5 rfl gr5 nb (by simp) fun H6 g6 k6 a6 gr6 => ?_
      have mr := mod_rng (a := x2) nn
      have ret : ∀ {H7 : Hp} {σ7 : L2.St}, Go (b :: S0) H H7 → (∀ c o, c ≠ b → H c = some o → H7 c = some o) → BoxV S0 H7 b → σ7[4]? = some (some (.int (x2 % (n : Nat)))) → tRet (tVar 4) { nx := fun _ H' => Q V.non H', rt := Q } σ7 H7 := fun {H7 σ7} g k bx hs => by
        refine ⟨_, hs, ?_⟩
        have z := q (x2 % (n : Nat)).toNat H7 (by omega) g k bx
        rw [Int.toNat_of_nonneg mr.1] at z
        exact z
      have g36 : Go (b :: S0) H H6 := ((g3.trans (.of g3.2 e4)).trans (.of (g3.trans (.of g3.2 e4)).2 e5)).trans g6
      have k36 : ∀ c o, c ≠ b → H c = some o → H6 c = some o := fun c o hc hx => k6 c o hc (e5 _ _ (e4 _ _ (k3 c o hc hx)))
      refine s_ifB (b := b) (t_test (e_op (e_op (e_var rfl) e_c (o_ixL (by decide) rfl)) e_c (o_eq rfl))) a6 rfl gr6 nb (fun hb2 H7 e7 a7 gr7 => ?_) (fun hb2 H7 e7 a7 gr7 => ?_)
      · refine q_setB (j := 1) (b := b) (e_op (e_var rfl) e_c o_I0) a7 rfl gr7 nb (by simp) fun H8 g8 k8 a8 gr8 => ?_
        refine s_setB (j := 2) (b := b) (x := .int (gi cs (at_ + 1))) (e_op (e_var rfl) (e_op (e_var rfl) e_c o_I0) (o_ixL (by omega) (by
          show (cs.map tI)[(((at_ : Nat) : Int) + 1).toNat]? = _
          rw [show (((at_ : Nat) : Int) + 1).toNat = at_ + 1 by omega]
          exact tn_at hat2))) a8 rfl gr8 nb (by simp) fun H9 g9 k9 a9 gr9 => ?_
        exact ret (((g36.trans (.of g36.2 e7)).trans g8).trans g9) (fun c o hc hx => k9 c o hc (k8 c o hc (e7 _ _ (k36 c o hc hx)))) ⟨nb, a9.live, cs, at_ + 1, _, _, _, gr9, hat2, pre, hpre⟩ rfl
      · exact ret (g36.trans (.of g36.2 e7)) (fun c o hc hx => e7 _ _ (k36 c o hc hx)) ⟨nb, a7.live, cs, at_, _, _, _, gr7, hat, pre, hpre⟩ rfl
    · -- mixed from what the cell holds
      have g04 : Go (b :: S0) H H4 := g3.trans (.of g3.2 e4)
      have k04 : ∀ c o, c ≠ b → H c = some o → H4 c = some o := fun c o hc hx => e4 _ _ (k3 c o hc hx)
      refine q_asgB (b := b) (e_op (e_cb (a_cons (e_op (e_var rfl) e_c (o_ixL (by decide) rfl)) a_nil) c_int) (e_op (e_var rfl) (e_var rfl) (o_ixNL hat)) o_I0) a4 rfl gr4 nb fun H5 e5 a5 gr5 => ?_
      refine q_asgB (b := b) (e_op (e_cb (a_cons (e_op (e_op (e_op (e_cb (a_cons (e_var rfl) a_nil) c_int) e_c (o_I (by decide))) e_c (o_I (.inr (by decide)))) (e_op (e_op (e_var rfl) e_c (o_ixL (by decide) rfl)) e_c (o_I (.inr (by decide)))) o_I0) a_nil) c_int) e_c (o_I (by decide))) a5 rfl gr5 nb fun H6 e6 a6 gr6 => ?_
      have r1 := mod_rng (a := (sd + gi cs at_) % 2147483629 * 48271 + (cn + 1) * 69621) (m := 2147483647) (by decide)
      generalize ho : ((sd + gi cs at_) % 2147483629 * 48271 + (cn + 1) * 69621) % 2147483647 = on at a6 r1
      refine q_asgB (b := b) (e_op (e_cb (a_cons (e_op (e_op (e_op (e_var rfl) (e_var rfl) (o_I (.inl ⟨by omega, by omega⟩))) (e_op (e_op (e_var rfl) e_c (o_ixL (by decide) rfl)) e_c (o_I (.inr (by decide)))) o_I0) (e_var rfl) o_I0) a_nil) c_int) e_c (o_I (by decide))) a6 rfl gr6 nb fun H7 e7 a7 gr7 => ?_
      have r2 := mod_rng (a := on * on + (cn + 1) * 40692 + (sd + gi cs at_)) (m := 2147483629) (by decide)
      generalize hw : (on * on + (cn + 1) * 40692 + (sd + gi cs at_)) % 2147483629 = tw at a7 r2
      have d3 : 0 ≤ tw / 3 ∧ tw / 3 ≤ tw := ⟨by omega, by omega⟩
      refine q_asgB (b := b) (e_op (e_cb (a_cons (e_op (e_op (e_op (e_var rfl) e_c (o_I ⟨by decide, by decide⟩)) (e_op (e_op (e_var rfl) e_c (o_I ⟨by decide, by decide⟩)) e_c o_I0) (o_I (.inl ⟨by omega, by omega⟩))) (e_var rfl) o_I0) a_nil) c_int) e_c (o_I (by decide))) a7 rfl gr7 nb fun H8 e8 a8 gr8 => ?_
      generalize hth : (tw / 3 * (on / 5 + 1) + tw) % 2147483587 = th at a8
      have e48 := ((e5.trans e6).trans e7).trans e8
      have nn : (0 : Int) < ((n : Nat) : Int) := by omega
      have mr := mod_rng (a := th / 7) nn
      have ret : ∀ {H9 : Hp} {σ9 : L2.St} {at2 : Nat} {x2' : Int}, At (b :: S0) [some (tv (.ref b)), some (tI (n : Nat)), some (lst (cs.map tI)), some (tI (at_ : Nat)), none, some (tI (sd + gi cs at_)), some (tI on), some (tI tw), some (tI th)] σ9 H9 → σ9[0]? = some (some (.ref b)) → Grow (b :: S0) H9 b [lst (cs.map tI), tI (at2 : Nat), tI x2', tI (cn + 1), tI sd] → at2 < cs.length →
          Go (b :: S0) H H9 → (∀ c o, c ≠ b → H c = some o → H9 c = some o) → tRet (tOp (rI (fun _ j => 0 < j) fun i j => .int (i % j)) (tOp (rI CDiv fun i j => .int (i / j)) (tVar 8) (tC (.int 7))) (tVar 1)) { nx := fun _ H' => Q V.non H', rt := Q } σ9 H9 := fun {H9 σ9 at2 x2'} a9 hσ gr9 h9 g k => by
        refine s_retB (b := b) (e_op (e_op (e_var rfl) e_c (o_I ⟨by decide, by decide⟩)) (e_var rfl) (o_I nn)) a9 hσ gr9 nb fun H10 e10 gr10 => ?_
        have z := q (th / 7 % (n : Nat)).toNat H10 (by omega) (g.trans (.of g.2 e10)) (fun c o hc hx => e10 _ _ (k c o hc hx)) ⟨nb, g.2.mono e10, cs, at2, _, _, _, gr10, h9, pre, hpre⟩
        rw [Int.toNat_of_nonneg mr.1] at z
        exact z
      have g08 : Go (b :: S0) H H8 := g04.trans (.of g04.2 e48)
      have k08 : ∀ c o, c ≠ b → H c = some o → H8 c = some o := fun c o hc hx => e48 _ _ (k04 c o hc hx)
      refine s_ifB (b := b) (t_and (t_test (e_op (e_op (e_var rfl) e_c o_I0) (e_cb (a_cons (e_var rfl) a_nil) c_lenL) o_I0)) fun _ => t_test (e_op (e_op (e_cb (a_cons (e_op (e_var rfl) e_c (o_ixL (by decide) rfl)) a_nil) c_int) e_c (o_I (by decide))) e_c (o_eq rfl))) a8 rfl gr8 nb (fun hb2 H9 e9 a9 gr9 => ?_) (fun hb2 H9 e9 a9 gr9 => ?_)
      · have hat2 : at_ + 1 < cs.length := by
          have z := of_decide_eq_true (Bool.and_eq_true_iff.mp hb2).1
          rw [List.length_map] at z
          omega
        refine q_setB (j := 1) (b := b) (e_op (e_var rfl) e_c o_I0) a9 rfl gr9 nb (by simp) fun H10 g10 k10 a10 gr10 => ?_
        refine s_setB (j := 2) (b := b) (x := .int (gi cs (at_ + 1))) (e_op (e_var rfl) (e_op (e_var rfl) e_c o_I0) (o_ixL (by omega) (by
          show (cs.map tI)[(((at_ : Nat) : Int) + 1).toNat]? = _
          rw [show (((at_ : Nat) : Int) + 1).toNat = at_ + 1 by omega]
          exact tn_at hat2))) a10 rfl gr10 nb (by simp) fun H11 g11 k11 a11 gr11 => ?_
        exact ret (at2 := at_ + 1) a11 rfl gr11 hat2 (((g08.trans (.of g08.2 e9)).trans g10).trans g11) fun c o hc hx => k11 c o hc (k10 c o hc (e9 _ _ (k08 c o hc hx)))
      · exact ret (at2 := at_) a9 rfl gr9 hat (g08.trans (.of g08.2 e9)) fun c o hc hx => e9 _ _ (k08 c o hc hx)
end
end WD

set_option Elab.async false
set_option linter.all false
set_option maxRecDepth 100000
set_option maxHeartbeats 3900000
namespace WD
open PySem PySem.Spec PyProof.Rows L2 Evl WT WM WB
section
variable {X : Cx} {C fI : Addr}
/-- Unreachable(e), its context None -/
theorem pmk_unN {a : Expr} {ta : TA} {p pos : Pos} {k : Nat} (T : WE.UnT X.K X.mg C fI) (hP : X.prog = WE.PG) (hr : Room k X.A) (ha : PA X [a] ta) (hg : Gl X "Unreachable" := by rfl)
    (he : WR.NoStar X a [] := by rfl) (hpl : WR.PlainTail X [] pos := by rfl) :
    L2N.PMk X (.Call (.Name "Unreachable" p) [a] [] pos) (L2.tMkUn C ta) := by
  intro pins s σ H Q I h
  refine wpAny_Call_Name_kw (ld_glob I hg T.gC ?_)
  refine PySem.W.callWith_K (h₀ := X.base) I.ok.mod.kin T.kC (thn (ha.run pos pins s σ H _ I h) fun us s1 hh => ?_) he hpl
  obtain ⟨vs, H1, I1, r1, v, ev, q1⟩ := hh
  subst ev
  refine ⟨I1.kIn, ?_⟩
  obtain ⟨v', rfl, rv⟩ := vals1 r1
  show wpAny _ _ (call (.ref C) [v']) _ _ _
  have hlim := I1.nolimit
  obtain ⟨mb, b1, b2⟩ := I1.mod.blt
  have g1 := I1.mod.glob.keeps I1.bk
  have g2 := b1.keeps I1.bk
  rcases s1 with ⟨hp, g, dr, tk, os⟩
  rw [hP]
  refine wpAny_call (WE.un_made T I1.kIn g1 g2 b2 hlim (by have := hr.dp; omega) fun h' tk' e d M => ?_)
  show L2N.MkP X pins σ Q (.ref e) ⟨h', g, dr, tk', os⟩
  obtain ⟨oe, fv, hoe, hc, hd, hdat, h1, h2⟩ := M.obj
  have hns := M.ns
  obtain ⟨G', g1, g2⟩ := restrict h' fun b => decide (b ≠ e)
  have gk : ∀ b, b ≠ e → G'.get? b = h'.get? b := fun b hb => g1 b (decide_eq_true hb)
  have ge : G'.get? e = none := g2 e (by simp)
  have old : ∀ b o, hp.get? b = some o → G'.get? b = some o := fun b o q => (gk b (Nat.ne_of_lt (Nat.lt_of_lt_of_le (Heap.lt_size q) M.new))).trans (M.keep b o q)
  have ob : ObjOk X.prog X.w (upd H1 d (.xd [(("objection" : Str), v)])) G' d (.xd [(("objection" : Str), v)]) :=
    ⟨_, hns.at (fun o q => (gk d M.dne).trans q), fun f => L2.relO_obj rv f⟩
  have J : Inv X pins σ (upd H1 d (.xd [(("objection" : Str), v)])) ⟨G', g, dr, tk', os⟩ := I1.laid (t' := tk') old M.dbig ob
  refine ⟨e, oe, fv, ⟨G', g, dr, tk', os⟩, _, .ref C, some d, rfl, J, fun b o q => ?_, ge, hoe, ⟨hc, hd, fun vs ev => ?_⟩, hdat, h1, ?_, rfl, I1.bare, raises_own T.exC T.tyC, q1 d (I1.hok.fresh M.dbig)⟩
  · by_cases hb : b = e
    · have q' : G'.get? b = some o := q
      rw [hb, ge] at q'
      cases q'
    · exact (gk b hb).symm.trans q
  · rw [hdat] at ev
    cases ev
    exact h2
  · rw [upd_ne (Ne.symm M.dne)]
    exact I1.hok.fresh M.new
theorem ps_raiseUnN {a : Expr} {ta : TA} {W : WX} {p pos pos2 : Pos} {k : Nat} (hc : X.calm = true) (T : WE.UnT X.K X.mg C fI) (hP : X.prog = WE.PG) (hr : Room k X.A) (tk : L2N.Takes X W) (ha : PA X [a] ta) (hg : Gl X "Unreachable" := by rfl)
    (he : WR.NoStar X a [] := by rfl) (hpl : WR.PlainTail X [] pos := by rfl) :
    PS X (.Raise (some (.Call (.Name "Unreachable" p) [a] [] pos)) none pos2) (L2.tRaiseUn C W ta) := L2N.ps_raise hc tk (pmk_unN T hP hr ha hg he hpl)
end
/-! ### defs that may raise Unreachable -/
section
variable {w : World} {P : Program} {K : PySem.W.Frag} {mg : Str → Option Value} {base : Heap}
/-- either it returns, or it raises Unreachable of an objection -/
def SpX (CU : Addr) (Sg Er : Sig) : Sp := fun vs H Q E => ∃ S Ts, Live S H ∧ Ps (hid S H) vs Ts ∧ ((∃ T, Sg Ts T ∧ ∀ v H2, Ex H H2 → T.p v (hid S H2) → Q v H2) ∨
  ∃ T, Er Ts T ∧ ∀ d v H2, Ex H H2 → H2 d = some (.xd [(("objection" : Str), v)]) → T.p v (hid S H2) → E (.ref CU) (some d) H2)
structure CalX (P : Program) (w : World) (K : PySem.W.Frag) (mg : Str → Option Value) (base : Heap) (k : Nat) (x : Str) (sp : Sp) : Prop where
  ex : ∃ (f : Addr) (fd : FuncData) (ps : List Str), FnOk P w K mg base (L2N.CX P w) k f fd ps sp ∧ mg x = some (.ref f) ∧ PySem.W.keepIn K (.ref f) = true ∧ Binds K fd ps []
theorem pe_cx {X : Cx} {k j : Nat} {x : Str} {sp : Sp} {p pos : Pos} {e : Expr} {es : List Expr} {t : TA} {E : XK} (c : CalX X.prog X.w X.K X.mg X.base k x sp) (hr : Room j X.A) (hk : k ≤ j) (hg : Gl X x) (hx : Passes (L2N.CX X.prog X.w) X E) (ha : PA X (e :: es) t)
    (hdb : (x == ("__debug__" : Str)) = false := by decide) (he : WR.NoStar X e es := by rfl) (hpl : WR.PlainTail X es pos := by rfl) :
    PE X (.Call (.Name x p) (e :: es) [] pos) (tCall sp [] E t) := by
  obtain ⟨f, fd, ps, F, hm, kp, b⟩ := c.ex
  exact pe_call F (hr.mono hk) hg hm kp b .nil hx ha hdb he hpl
/-- .. in a try's body -/
theorem pe_cxS {X : Cx} {k j : Nat} {x : Str} {sp : Sp} {p pos : Pos} {e : Expr} {es : List Expr} {t : TA} {W : WX} (c : CalX X.prog X.w X.K X.mg X.base k x sp) (hr : Room j X.A) (hk : k ≤ j) (hg : Gl X x) (tk : L2N.Takes X W) (ha : PA X (e :: es) t)
    (hdb : (x == ("__debug__" : Str)) = false := by decide) (he : WR.NoStar X e es := by rfl) (hpl : WR.PlainTail X es pos := by rfl) :
    PE X (.Call (.Name x p) (e :: es) [] pos) (tCallS sp (L2.WE W) t) := by
  obtain ⟨f, fd, ps, F, hm, kp, b⟩ := c.ex
  exact pe_callS F (hr.mono hk) hg hm kp b (fun σ => L2N.passAt tk σ) ha hdb he hpl
theorem calX_ty {CU : Addr} {x : Str} {st : Stmt} {N ps : List Str} {k : Nat} {Sg Er : Sig} (F : ∃ f fd, Fun K x x st f fd ∧ mg x = some (.ref f)) (Sc : FnScope N ps (defScope st)) (len : ∀ Ts T, (Sg Ts T ∨ Er Ts T) → Ts.length = ps.length)
    (hb : ∀ (kV doc pm : Value) (an : Option Addr) (cdv ct : Value) (us : List Value), us.length = ps.length → bindArgs (PySem.W.fnOf x x (defArgs st) (defBody st) (defScope st) .none kV doc pm an cdv ct) ⟨us, []⟩ = pure (ps.zip us))
    (hbody : ∀ (f : Addr) (cdv : Value) (A : Around) (outer : List PySem.Env) (s : Shared) (H : Hp) (E : XK), Room k (A.deeper (envOfC x (defScope st) s.heap.objs.size f cdv)) → ∀ S Ts vs (Q : VK), At S (st0 N Ts) (L2.start N vs) H →
      ((∃ T, Sg Ts T ∧ ∀ v H2, Ex H H2 → T.p v (hid S H2) → Q v H2) ∨ ∃ T, Er Ts T ∧ ∀ d v H2, Ex H H2 → H2 d = some (.xd [(("objection" : Str), v)]) → T.p v (hid S H2) → E (.ref CU) (some d) H2) →
      ∃ t, PSs (cxOf (L2N.CX P w) P w K mg base N x (defScope st) f cdv A outer s H E) (defBody st) t ∧ t { nx := fun _ H' => Q .non H', rt := Q } (L2.start N vs) H) : CalX P w K mg base (k + 1) x (SpX CU Sg Er) := by
  obtain ⟨f, fd, F, hm⟩ := F
  refine ⟨f, fd, ps, ?_, hm, F.kp, F.binds hb⟩
  rcases F.ex with ⟨oc, od, kV, doc, pm, an, cdv, ct, osl, rfl, lk, hcd⟩
  refine fn_of lk hcd Sc (fun vs H Q E h => ?_) fun A outer s H vs Q E hr h => ?_
  · obtain ⟨S, Ts, _, hp, h⟩ := h
    rw [hp.len]
    rcases h with ⟨T, h, _⟩ | ⟨T, h, _⟩
    · exact len Ts T (.inl h)
    · exact len Ts T (.inr h)
  · obtain ⟨S, Ts, l, hp, h⟩ := h
    exact hbody f cdv A outer s H E hr S Ts vs Q (at_start l hp) h
end
section
variable {w : World} {P : Program} {K : PySem.W.Frag} {mg : Str → Option Value} {base : Heap} {CR CN CU fU KA : Addr} {mc : Value}
/-- such a call as a statement, as a value -/
theorem q_callX {CU : Addr} {Sg Er : Sig} {S : List Addr} {Γ : Cn} {σ : L2.St} {H : Hp} {D : Ends} {tz : TS} {E : XK} {ta : TA} {Ts : List Ty} (h : EaP ta Γ Ts) (a : At S Γ σ H)
    (k : (∃ T, Sg Ts T ∧ ∀ H1, Ex H H1 → At S Γ σ H1 → tz D σ H1) ∨ ∃ T, Er Ts T ∧ ∀ d v H1, Ex H H1 → H1 d = some (.xd [(("objection" : Str), v)]) → T.p v (hid S H1) → E (.ref CU) (some d) H1) : tSeq (tDrop (tCall (SpX CU Sg Er) [] E ta)) tz D σ H :=
  h S σ H a _ fun vs H1 e1 p1 => ⟨S, Ts, (a.ex e1).live, by rw [List.append_nil]; exact p1, by
    rcases k with ⟨T, s, k⟩ | ⟨T, s, k⟩
    · exact .inl ⟨T, s, fun v H2 e2 p2 => k H2 (e1.trans e2) ((a.ex e1).ex e2)⟩
    · exact .inr ⟨T, s, fun d v H2 e2 hd p2 => k d v H2 (e1.trans e2) hd p2⟩⟩
def hdO (caps s t : List Int) : Tag × Nat := (objs caps s t).headD (Tag.above, 0)
theorem hdO_mem {caps s t : List Int} (h : freeB caps s t = false) : hdO caps s t ∈ objs caps s t ∧ ((objs caps s t).map objT)[0]? = some (objT (hdO caps s t)) := by
  unfold freeB at h
  unfold hdO
  cases e : objs caps s t with
  | nil =>
    rw [e] at h
    cases h
  | cons x xs => exact ⟨List.mem_cons_self, rfl⟩
def Sg_check_reached (CR : Addr) : Sig := fun Ts T => ∃ (caps s t : List Int), Ts = [netT CR caps, TN s, TN t] ∧ Shape caps s t ∧ caps.length ≤ 100 ∧ freeB caps s t = true ∧ T = tv .non
def Er_check_reached (CR : Addr) : Sig := fun Ts T => ∃ (caps s t : List Int), Ts = [netT CR caps, TN s, TN t] ∧ Shape caps s t ∧ caps.length ≤ 100 ∧ freeB caps s t = false ∧ T = objT (hdO caps s t)
theorem len_pos {caps s t : List Int} : decide ((0 : Int) < ((((objs caps s t).map objT).length : Nat) : Int)) = !freeB caps s t := by
  unfold freeB
  cases objs caps s t with
  | nil => rfl
  | cons x xs => simp
theorem calX_check_reached (F : TopF K mg CR CN CU fU KA mc) : CalX WE.PG w K mg base 6 "check_reached" (SpX CU (Sg_check_reached CR) (Er_check_reached CR)) := by
  refine calX_ty (k := 5) F.d_check_reached sc_check_reached (fun Ts T h => by rcases h with ⟨_, _, _, rfl, _⟩ | ⟨_, _, _, rfl, _⟩ <;> rfl) (fun _ _ _ _ _ _ us hl => match us, hl with | [_, _, _], _ => rfl) fun f cdv A outer s_ H E hr S Ts vs Q a h => ?_
  refine ⟨_, (pss_cons (ps_set (i := 3) sc_check_reached.nd rfl (Or.inl rfl) (C8.pe_c (cal_found_objections F) hr (by decide) (by rfl) (pa_cons (pv 0) (pa_cons (pv 1) (pa_cons (pv 2) pa_nil)))))
      (pss_one (ps_if (pt_cmpR op_gt (pe_callB (klen K) (by rfl) F.n_len b_len (pa_cons (pv 3) pa_nil)) pe_int (nomark _)) (pss_one (ps_raiseUnN rfl F.un rfl hr (L2N.takes_of rfl rfl rfl rfl) (pa_cons (pe_ix (kixL K) (pv 3) pe_int (fun _ _ => rfl)) pa_nil))) pss_nil))), ?_⟩
  rcases h with ⟨T, ⟨caps, s, t, rfl, Sh, hz, hf, rfl⟩, q⟩ | ⟨T, ⟨caps, s, t, rfl, Sh, hz, hf, rfl⟩, q⟩
  · refine q_asg (e_call (a_cons (e_var rfl) (a_cons (e_var rfl) (a_cons (e_var rfl) a_nil))) ⟨caps, s, t, rfl, rfl, Sh, hz⟩) a fun v H1 e1 a1 => ?_
    refine s_no (t_is (t_test (e_op (e_cb (a_cons (e_var rfl) a_nil) c_lenL) e_c o_I0)) (by rw [len_pos, hf]; rfl)) a1 fun H2 e2 a2 => ?_
    exact q _ H2 (e1.trans e2) rfl
  · refine q_asg (e_call (a_cons (e_var rfl) (a_cons (e_var rfl) (a_cons (e_var rfl) a_nil))) ⟨caps, s, t, rfl, rfl, Sh, hz⟩) a fun v H1 e1 a1 => ?_
    refine s_if (b := true) (t_is (t_test (e_op (e_cb (a_cons (e_var rfl) a_nil) c_lenL) e_c o_I0)) (by rw [len_pos, hf]; rfl)) a1 (fun _ H2 e2 a2 => ?_) (fun z => nomatch z)
    unfold L2.tRaiseUn L2.tMkUn
    refine (a_cons (e_op (e_var (i := 3) rfl) (e_c (x := .int 0)) (o_ixL (i := 0) (by decide) (hdO_mem hf).2)) a_nil) S _ H2 a2 _ fun us H3 e3 p3 => ?_
    cases p3 with
    | cons p r =>
      cases r
      refine ⟨_, rfl, fun d hd => q d _ _ (((e1.trans e2).trans e3).trans (Ex.new hd)) upd_same ((objT _).mono (ex_hid (Ex.new hd)) p)⟩
/-- what such a call tells its caller -/
def Reach (CU : Addr) (S : List Addr) (caps s t : List Int) (H : Hp) (ok : Prop) (E : XK) : Prop := (freeB caps s t = true ∧ ok) ∨ (freeB caps s t = false ∧ ∀ d v H1, Ex H H1 → H1 d = some (.xd [(("objection" : Str), v)]) → (objT (hdO caps s t)).p v (hid S H1) → E (.ref CU) (some d) H1)
def Sg_demand (CR : Addr) : Sig := fun Ts T => ∃ (caps s t : List Int), Ts = [netT CR caps, TN s, TN t] ∧ Shape caps s t ∧ caps.length ≤ 100 ∧ freeB caps s t = true ∧ gapL s t ≤ 2000 ∧ T = tI (gapL s t)
theorem calX_demand (F : TopF K mg CR CN CU fU KA mc) : CalX WE.PG w K mg base 7 "demand" (SpX CU (Sg_demand CR) (Er_check_reached CR)) := by
  refine calX_ty (k := 6) F.d_demand sc_demand (fun Ts T h => by rcases h with ⟨_, _, _, rfl, _⟩ | ⟨_, _, _, rfl, _⟩ <;> rfl) (fun _ _ _ _ _ _ us hl => match us, hl with | [_, _, _], _ => rfl) fun f cdv A outer s_ H E hr S Ts vs Q a h => ?_
  refine ⟨_, (pss_cons (ps_expr (pe_cx (calX_check_reached F) hr (by decide) (by rfl) (L2N.passes_call (L2N.takes_of rfl rfl rfl rfl) (fun _ _ _ _ h => h)) (pa_cons (pv 0) (pa_cons (pv 1) (pa_cons (pv 2) pa_nil)))))
      (pss_cons (ps_set (i := 3) sc_demand.nd rfl (Or.inl rfl) (C8.pe_c (cal_gap F) hr (by decide) (by rfl) (pa_cons (pv 1) (pa_cons (pv 2) pa_nil))))
      (pss_cons (ps_if (pt_cmpR op_gt (pv 3) (C8.pe_gc (by rfl) F.mostMoves) (nomark _)) (pss_one ps_never) pss_nil)
      (pss_one (ps_ret (pv 3)))))), ?_⟩
  rcases h with ⟨T, ⟨caps, s, t, rfl, Sh, hz, hf, hg, rfl⟩, q⟩ | ⟨T, ⟨caps, s, t, rfl, Sh, hz, hf, rfl⟩, q⟩
  · refine q_callX (a_cons (e_var rfl) (a_cons (e_var rfl) (a_cons (e_var rfl) a_nil))) a (.inl ⟨_, ⟨caps, s, t, rfl, Sh, hz, hf, rfl⟩, fun H1 e1 a1 => ?_⟩)
    refine q_asg (e_call (a_cons (e_var rfl) (a_cons (e_var rfl) a_nil)) ⟨s, t, rfl, rfl, by rw [Sh.ls, Sh.lt], by rw [Sh.ls]; exact hz⟩) a1 fun v2 H2 e2 a2 => ?_
    refine q_no (t_is (t_test (e_op (e_var rfl) e_c o_I0)) (decide_eq_false (by omega))) a2 fun H3 e3 a3 => ?_
    exact s_ret (e_var rfl) a3 fun v H4 e4 p4 => q v H4 (((e1.trans e2).trans e3).trans e4) p4
  · exact q_callX (a_cons (e_var rfl) (a_cons (e_var rfl) (a_cons (e_var rfl) a_nil))) a (.inr ⟨_, ⟨caps, s, t, rfl, Sh, hz, hf, rfl⟩, fun d v H1 e1 hd p1 => q d v H1 e1 hd p1⟩)
def Sg_distance (CR : Addr) : Sig := fun Ts T => ∃ (caps s t : List Int), Ts = [netT CR caps, TN s, TN t] ∧ Shape caps s t ∧ caps.length ≤ 100 ∧ InR s ∧ InR t ∧ freeB caps s t = true ∧ T = tI (gapL s t)
def Er_distance (CR : Addr) : Sig := fun Ts T => ∃ (caps s t : List Int), Ts = [netT CR caps, TN s, TN t] ∧ Shape caps s t ∧ caps.length ≤ 100 ∧ InR s ∧ InR t ∧ freeB caps s t = false ∧ T = objT (hdO caps s t)
theorem calX_distance (F : TopF K mg CR CN CU fU KA mc) : CalX WE.PG w K mg base 7 "distance" (SpX CU (Sg_distance CR) (Er_distance CR)) := by
  refine calX_ty (k := 6) F.d_distance sc_distance (fun Ts T h => by rcases h with ⟨_, _, _, rfl, _⟩ | ⟨_, _, _, rfl, _⟩ <;> rfl) (fun _ _ _ _ _ _ us hl => match us, hl with | [_, _, _], _ => rfl) fun f cdv A outer s_ H E hr S Ts vs Q a h => ?_
  refine ⟨_, (pss_cons (ps_expr (C8.pe_c (cal_check_state F) hr (by decide) (by rfl) (pa_cons (pv 0) (pa_cons (pv 1) pa_nil))))
      (pss_cons (ps_expr (C8.pe_c (cal_check_state F) hr (by decide) (by rfl) (pa_cons (pv 0) (pa_cons (pv 2) pa_nil))))
      (pss_cons (ps_expr (pe_cx (calX_check_reached F) hr (by decide) (by rfl) (L2N.passes_call (L2N.takes_of rfl rfl rfl rfl) (fun _ _ _ _ h => h)) (pa_cons (pv 0) (pa_cons (pv 1) (pa_cons (pv 2) pa_nil)))))
      (pss_one (ps_ret (C8.pe_c (cal_gap F) hr (by decide) (by rfl) (pa_cons (pv 1) (pa_cons (pv 2) pa_nil)))))))), ?_⟩
  rcases h with ⟨T, ⟨caps, s, t, rfl, Sh, hz, r1, r2, hf, rfl⟩, q⟩ | ⟨T, ⟨caps, s, t, rfl, Sh, hz, r1, r2, hf, rfl⟩, q⟩
  · refine q_drop (e_call (a_cons (e_var rfl) (a_cons (e_var rfl) a_nil)) ⟨caps, s, rfl, rfl, Sh.ls, r1⟩) a fun H1 e1 a1 => q_drop (e_call (a_cons (e_var rfl) (a_cons (e_var rfl) a_nil)) ⟨caps, t, rfl, rfl, Sh.lt, r2⟩) a1 fun H2 e2 a2 => ?_
    refine q_callX (a_cons (e_var rfl) (a_cons (e_var rfl) (a_cons (e_var rfl) a_nil))) a2 (.inl ⟨_, ⟨caps, s, t, rfl, Sh, hz, hf, rfl⟩, fun H3 e3 a3 => ?_⟩)
    exact s_ret (e_call (a_cons (e_var rfl) (a_cons (e_var rfl) a_nil)) ⟨s, t, rfl, rfl, by rw [Sh.ls, Sh.lt], by rw [Sh.ls]; exact hz⟩) a3 fun v H4 e4 p4 => q v H4 (((e1.trans e2).trans e3).trans e4) p4
  · refine q_drop (e_call (a_cons (e_var rfl) (a_cons (e_var rfl) a_nil)) ⟨caps, s, rfl, rfl, Sh.ls, r1⟩) a fun H1 e1 a1 => q_drop (e_call (a_cons (e_var rfl) (a_cons (e_var rfl) a_nil)) ⟨caps, t, rfl, rfl, Sh.lt, r2⟩) a1 fun H2 e2 a2 => ?_
    exact q_callX (a_cons (e_var rfl) (a_cons (e_var rfl) (a_cons (e_var rfl) a_nil))) a2 (.inr ⟨_, ⟨caps, s, t, rfl, Sh, hz, hf, rfl⟩, fun d v H3 e3 hd p3 => q d v H3 ((e1.trans e2).trans e3) hd p3⟩)
def Sg_plan (CR : Addr) : Sig := fun Ts T => ∃ (caps s t : List Int), Ts = [netT CR caps, TN s, TN t] ∧ Shape caps s t ∧ caps.length ≤ 100 ∧ InR s ∧ InR t ∧ freeB caps s t = true ∧ CapsOk caps ∧ gapL s t ≤ 2000 ∧ T = tup ((planL caps s t).map mvT)
theorem calX_plan (F : TopF K mg CR CN CU fU KA mc) : CalX WE.PG w K mg base 9 "plan" (SpX CU (Sg_plan CR) (Er_distance CR)) := by
  refine calX_ty (k := 8) F.d_plan sc_plan (fun Ts T h => by rcases h with ⟨_, _, _, rfl, _⟩ | ⟨_, _, _, rfl, _⟩ <;> rfl) (fun _ _ _ _ _ _ us hl => match us, hl with | [_, _, _], _ => rfl) fun f cdv A outer s_ H E hr S Ts vs Q a h => ?_
  refine ⟨_, (pss_cons (ps_expr (C8.pe_c (cal_check_state F) hr (by decide) (by rfl) (pa_cons (pv 0) (pa_cons (pv 1) pa_nil))))
      (pss_cons (ps_expr (C8.pe_c (cal_check_state F) hr (by decide) (by rfl) (pa_cons (pv 0) (pa_cons (pv 2) pa_nil))))
      (pss_cons (ps_expr (pe_cx (calX_demand F) hr (by decide) (by rfl) (L2N.passes_call (L2N.takes_of rfl rfl rfl rfl) (fun _ _ _ _ h => h)) (pa_cons (pv 0) (pa_cons (pv 1) (pa_cons (pv 2) pa_nil)))))
      (pss_one (ps_ret (C8.pe_c (cal_plan_of F) hr (by decide) (by rfl) (pa_cons (pv 0) (pa_cons (pv 1) (pa_cons (pv 2) pa_nil))))))))), ?_⟩
  rcases h with ⟨T, ⟨caps, s, t, rfl, Sh, hz, r1, r2, hf, hc, hg, rfl⟩, q⟩ | ⟨T, ⟨caps, s, t, rfl, Sh, hz, r1, r2, hf, rfl⟩, q⟩
  · refine q_drop (e_call (a_cons (e_var rfl) (a_cons (e_var rfl) a_nil)) ⟨caps, s, rfl, rfl, Sh.ls, r1⟩) a fun H1 e1 a1 => q_drop (e_call (a_cons (e_var rfl) (a_cons (e_var rfl) a_nil)) ⟨caps, t, rfl, rfl, Sh.lt, r2⟩) a1 fun H2 e2 a2 => ?_
    refine q_callX (a_cons (e_var rfl) (a_cons (e_var rfl) (a_cons (e_var rfl) a_nil))) a2 (.inl ⟨_, ⟨caps, s, t, rfl, Sh, hz, hf, hg, rfl⟩, fun H3 e3 a3 => ?_⟩)
    exact s_ret (e_call (a_cons (e_var rfl) (a_cons (e_var rfl) (a_cons (e_var rfl) a_nil))) ⟨caps, s, t, rfl, rfl, Sh, hz, hc, freeB_iff.mp hf, hg⟩) a3 fun v H4 e4 p4 => q v H4 (((e1.trans e2).trans e3).trans e4) p4
  · refine q_drop (e_call (a_cons (e_var rfl) (a_cons (e_var rfl) a_nil)) ⟨caps, s, rfl, rfl, Sh.ls, r1⟩) a fun H1 e1 a1 => q_drop (e_call (a_cons (e_var rfl) (a_cons (e_var rfl) a_nil)) ⟨caps, t, rfl, rfl, Sh.lt, r2⟩) a1 fun H2 e2 a2 => ?_
    exact q_callX (a_cons (e_var rfl) (a_cons (e_var rfl) (a_cons (e_var rfl) a_nil))) a2 (.inr ⟨_, ⟨caps, s, t, rfl, Sh, hz, hf, rfl⟩, fun d v H3 e3 hd p3 => q d v H3 ((e1.trans e2).trans e3) hd p3⟩)
end
end WD

set_option Elab.async false
set_option linter.all false
set_option maxRecDepth 100000
set_option maxHeartbeats 3900000
namespace WD
open PySem PySem.Spec PyProof.Rows L2 Evl WT WM WB
section
variable {K : PySem.W.Frag} {Γ : Cn} {te ta : TE}
theorem ty_frz {ts : List Ty} : ∀ v H, (frz ts).p v H → TyX K H v (.type "tuple") := fun v H h => by
  obtain ⟨a, vs, e, ⟨o, h1, h2⟩, _⟩ := h
  rw [e]
  exact .fTuple h2
theorem is_frz {ts : List Ty} : CallT (rIsi K) [frz ts, tv (.ty "tuple")] (tL true) := c_isi ty_frz (by decide +kernel)
theorem frz_up {S : List Addr} {H : Hp} {a : Addr} {vs : List V} (h : WR.FrzT (hid S H) a vs) : WR.FrzT H a vs := by
  obtain ⟨o, h1, h2⟩ := h
  exact ⟨o, h1, (hid_some h2).2⟩
theorem c_lenF {ts : List Ty} : CallT (fun xs H Q => ∃ p ys, xs = [.ref p] ∧ (SqL K H p ys ∨ SqT K H p ys) ∧ Q (.int ys.length) H) [frz ts] (tI (ts.length : Nat)) := fun S H vs l h Q q => by
  cases h with
  | cons a b =>
    cases b
    obtain ⟨p, ws, f1, f2, f3⟩ := a
    exact ⟨p, ws, by rw [f1], .inr (frz_up f2).sq, q _ H (Ex.refl H) (by rw [f3.len]; rfl)⟩
theorem obD_inj {o o' : Tag × Nat} (h : obD o = obD o') : o = o' := by
  obtain ⟨a, i⟩ := o
  obtain ⟨b, j⟩ := o'
  have h1 : tagS a = tagS b := congrArg Prod.fst h
  have h2 : ((i : Nat) : Int) = (j : Nat) := congrArg Prod.snd h
  have e : i = j := by omega
  subst e
  cases a <;> cases b <;> first | rfl | exact absurd h1 (by decide)
theorem count_obD (os : List (Tag × Nat)) (o : Tag × Nat) : (os.map obD).countP (fun z => decide (z = obD o)) = os.countP fun z => decide (z = o) := by
  rw [List.countP_map]
  congr 1
  funext z
  exact decide_eq_decide.mpr ⟨obD_inj, fun e => by rw [e]⟩
theorem e_count {os : List (Tag × Nat)} {o : Tag × Nat} (h1 : EvP ta Γ (frz (os.map objT))) (h2 : EvP te Γ (objT o)) : EvP (WR.tCountT (dSI K) ta te) Γ (tI ((os.countP fun z => decide (z = o) : Nat))) := fun S σ H a Q q => h1 S σ H a _ fun v H1 e1 p1 => by
  obtain ⟨c, vs, f1, f2, f3⟩ := id p1
  refine ⟨⟨c, vs, f1, frz_up f2⟩, h2 S σ H1 (a.ex e1) _ fun y H2 e2 p2 => ?_⟩
  have p1' := (frz (os.map objT)).mono (ex_hid (S := S) e2) p1
  obtain ⟨c', vs', g1, g2, g3⟩ := p1'
  rw [f1] at g1
  cases g1
  refine ⟨c, vs', os.map obD, obD o, f1, frz_up g2, d_all (fun v x => d_ob) g3, d_ob p2, ?_⟩
  rw [count_obD]
  exact q _ H2 (e1.trans e2) rfl
theorem b_go {t : TS} {S : List Addr} {T : Ty} {σ : L2.St} {H : Hp} {D : Ends} (h : BlkR t Γ T) (a : At S Γ σ H) (k : ∀ v H1, Ex H H1 → T.p v (hid S H1) → D.rt v H1) : t D σ H := h S D σ H a k
theorem takes0N {X : Cx} : L2N.Takes X (fun _ _ _ _ => False) := fun _ _ x => by
  rcases x with ⟨_, _, _, _, _, _, _, _, _, _, _, _, _, _, _, _, z⟩
  exact z.elim
theorem kxf {X : Cx} (K : PySem.W.Frag) {a C : Addr} {oe : Obj} {cls : Value} {d : Option Addr} {pn : List (Addr × Obj)} {e : Expr} {te : TE} {pos : Pos} {n : Str} (T : XfC K C) (hno : PySem.W.findIn K (.ref C) n = some none)
    (hz : Zc cls d oe) (hf : ∃ vs, oe.data = .fields vs) (he : PE (X.suite a ((a, oe) :: pn)) e te) (hb : attributeBase e n X.env (eval e X.env) = eval e X.env := by rfl) (h : X.K = K := by rfl) :
    PE (X.suite a ((a, oe) :: pn)) (.Attribute e n pos) (tXf a cls d C n te) := by subst h; exact pe_xf T hno hz hf he hb
end
section
variable {w : World} {P : Program} {K : PySem.W.Frag} {mg : Str → Option Value} {base : Heap} {CR CN CU fU KA : Addr} {mc : Value}
def Sg__law_objections_hold (CR : Addr) : Sig := fun Ts T => ∃ (caps s t : List Int), Ts = [netT CR caps, TN s, TN t, tL (freeB caps s t)] ∧ T = tL true ∧ Shape caps s t ∧ caps.length ≤ 100 ∧ InR s ∧ InR t
theorem cal__law_objections_hold (F : TopF K mg CR CN CU fU KA mc) : C8.Cal P w K mg base 7 "_law_objections_hold" (SpT (Sg__law_objections_hold CR)) [] := by
  refine cal_ty (k := 6) F.d__law_objections_hold sc__law_objections_hold (fun Ts T h => by obtain ⟨caps, s, t, rfl, rfl, S, hz, r1, r2⟩ := h; rfl) (fun _ _ _ _ _ _ us hl => match us, hl with | [_, _, _, _], _ => rfl) fun f cdv A outer s_ H_ E_ hr Ts T hs => ?_
  obtain ⟨caps, s, t, rfl, rfl, S, hz, r1, r2⟩ := hs
  refine ⟨_, (pss_cons (ps_set (i := 4) sc__law_objections_hold.nd rfl (Or.inl rfl) (C8.pe_c (cal_objections F) hr (by decide) (by rfl) (pa_cons (pv 0) (pa_cons (pv 1) (pa_cons (pv 2) pa_nil)))))
      (pss_cons (ps_if (pw_or (pt_not (pt_val (pe_callB (kisi K) (by rfl) F.n_isinstance b_isinstance (pa_cons (pv 4) (pa_cons (pe_bltn (v := .ty "tuple") (by rfl) F.n_tuple b_tuple rfl) pa_nil))))) (pw_or1 (pt_cmpR op_ne (pe_cmpR op_eq (pe_callB (klen K) (by rfl) F.n_len b_len (pa_cons (pv 4) pa_nil)) pe_int (nomark _)) (pv 3) (nomark _)))).pt (pss_one (ps_ret pe_bl)) pss_nil)
      (pss_cons (ps_for PassesOwn.never rfl (pi_range1 rfl F.n_range (pa_cons (pe_callB (klen K) (by rfl) F.n_len b_len (pa_cons (pv 1) pa_nil)) pa_nil)) (pg_name (i := 5) sc__law_objections_hold.nd rfl (Or.inl rfl)) (pss_cons (ps_if (pt_cmpR op_ne (WR.pe_countT snd_si (by decide) hr.units (pv 4) (pe_tup (pa_cons pe_str (pa_cons (pv 5) pa_nil)))) (pe_callTy call_int1 (by rfl) F.n_int b_int (pa_cons (pe_cmpR op_gt (pe_ix (kixT K) (pv 2) (pv 5) (fun _ _ => rfl)) (pe_callB (kmax K rfl hr.units) (by rfl) F.n_max b_max (pa_cons (pv 1) pa_nil)) (nomark _)) pa_nil)) (nomark _)) (pss_one (ps_ret pe_bl)) pss_nil)
      (pss_one (ps_if (pt_cmpR op_ne (WR.pe_countT snd_si (by decide) hr.units (pv 4) (pe_tup (pa_cons pe_str (pa_cons (pv 5) pa_nil)))) (pe_callTy call_int1 (by rfl) F.n_int b_int (pa_cons (pe_cmpR op_lt (pe_ix (kixT K) (pv 2) (pv 5) (fun _ _ => rfl)) (pe_callB (kmin K rfl hr.units) (by rfl) F.n_min b_min (pa_cons (pv 1) pa_nil)) (nomark _)) pa_nil)) (nomark _)) (pss_one (ps_ret pe_bl)) pss_nil))))
      (pss_one (ps_ret pe_bl))))), ?_⟩
  have hs0 : 0 < s.length := by rw [S.ls]; have := S.big; omega
  refine b_asg (e_call (a_cons (e_var rfl) (a_cons (e_var rfl) (a_cons (e_var rfl) a_nil))) ⟨caps, s, t, rfl, rfl, S, hz, r1, r2⟩)
    (b_no (t_is (t_or (t_not (t_B (e_cb (a_cons (e_var rfl) (a_cons e_c a_nil)) is_frz))) fun _ => t_test (e_op (e_op (e_cb (a_cons (e_var rfl) a_nil) c_lenF) e_c (o_eq rfl)) (e_var rfl) (o_ne rfl))) ?_)
    (b_seq (n_for (n := s.length) (Γs := fun _ => [some (netT CR caps), some (TN s), some (TN t), some (tL (freeB caps s t)), some (frz ((objs caps s t).map objT)), none]) (Γt := fun i => [some (netT CR caps), some (TN s), some (TN t), some (tL (freeB caps s t)), some (frz ((objs caps s t).map objT)), some (tI (i : Nat))])
      (i_rng (a_cons (e_cb (a_cons (e_var rfl) a_nil) c_lenT) a_nil) ⟨by omega, by rw [List.length_map, S.ls]; omega⟩ (by simp)) (Le.refl _) (fun i hi => g_name)
      (fun i hi => n_le (n_seq (n_no (t_is (t_test (e_op (e_count (o := (Tag.above, i)) (e_var rfl) (e_tup (a_cons e_c (a_cons (e_var rfl) a_nil)) (by simp))) (e_cb (a_cons (e_op (e_op (e_var rfl) (e_var rfl) (o_ixN (by rw [S.lt, ← S.ls]; exact hi))) (e_cb (a_cons (e_var rfl) a_nil) (c_fold hs0)) o_I0) a_nil) c_intB) (o_ne rfl))) ?_))
        (n_no (t_is (t_test (e_op (e_count (o := (Tag.below, i)) (e_var rfl) (e_tup (a_cons e_c (a_cons (e_var rfl) a_nil)) (by simp))) (e_cb (a_cons (e_op (e_op (e_var rfl) (e_var rfl) (o_ixN (by rw [S.lt, ← S.ls]; exact hi))) (e_cb (a_cons (e_var rfl) a_nil) (c_fold hs0)) o_I0) a_nil) c_intB) (o_ne rfl))) ?_))) (le_cons (le_cons (le_cons (le_cons (le_cons (le_none le_nil)))))))) (b_ret e_c)))
  · rw [len0, List.isEmpty_map]
    show (!true || !decide (V.bl (freeB caps s t) = V.bl (freeB caps s t))) = false
    rw [decide_eq_true rfl]
    rfl
  · rw [count_above (by rw [← S.ls]; exact hi), maxI_eq]
    by_cases h : maxL s < gi t i <;> simp [h]
  · rw [count_below (by rw [← S.ls]; exact hi), minI_eq]
    by_cases h : gi t i < minL s <;> simp [h]
def dueOf (caps s t : List Int) : Int := if freeB caps s t = true then gapL s t else -1
def Sg__law_plan_holds (CR : Addr) : Sig := fun Ts T => ∃ (caps s t : List Int) (ns : Far) (l : Nat) (b : Int), Ts = [netT CR caps, lst (chansT caps), dct (farE ns), TN s, TN t, tI (dueOf caps s t)] ∧ T = tL true ∧ Shape caps s t ∧ caps.length ≤ 100 ∧ InR s ∧ InR t ∧ CapsOk caps ∧ gapL s t ≤ 2000 ∧
  Win l b caps.length s ∧ Win l b caps.length t ∧ ∀ x e, lkp ns x = some e ↔ ∃ d : Nat, bwdD l b caps t x d ∧ e = d
theorem prs_win {caps s t : List Int} {l : Nat} {b : Int} (S : Shape caps s t) (hc : CapsOk caps) (N : Free caps s t) (W : Win l b caps.length s) : ∀ i, i ≤ (gapL s t).toNat → Win l b caps.length (prs caps t s i)
  | 0, _ => W
  | i + 1, h => by
    have hf := prs_first S hc N (show i < _ by omega)
    have Si : Shape caps (prs caps t s i) t := ⟨S.big, by rw [prs_len]; exact S.ls, S.lt⟩
    obtain ⟨h1, _⟩ := prs_ok S hc N i (by omega)
    obtain ⟨k1, k2, _⟩ := first_ok Si h1 hf
    exact win_step S.big (prs_win S hc N W i (by omega)) k1 k2
theorem hd_head {caps s t : List Int} {m : Mv} (h : m ∈ firstOf caps s t) : (firstOf caps s t).head? = some (hdM caps s t) := by
  unfold hdM
  cases e : firstOf caps s t with
  | nil =>
    rw [e] at h
    cases h
  | cons x xs => rfl
theorem cal__law_plan_holds (F : TopF K mg CR CN CU fU KA mc) : C8.Cal WE.PG w K mg base 10 "_law_plan_holds" (SpT (Sg__law_plan_holds CR)) [] := by
  refine cal_ty (k := 9) F.d__law_plan_holds sc__law_plan_holds (fun Ts T h => by obtain ⟨caps, s, t, ns, l, b, rfl, _⟩ := h; rfl) (fun _ _ _ _ _ _ us hl => match us, hl with | [_, _, _, _, _, _], _ => rfl) fun f cdv A outer s_ H_ E_ hr Ts T hs => ?_
  obtain ⟨caps, s, t, ns, l, b, rfl, rfl, S, hz, r1, r2, hc, hg, W, V, HL⟩ := hs
  refine ⟨_, (pss_cons (L2N.ps_try_as (i := 7) rfl rfl sc__law_plan_holds.nd rfl rfl ⟨by rfl, by decide, .inl F.un.gC⟩ takes0N (fun W pn xe tk _ => (pss_one (ps_set (i := 6) sc__law_plan_holds.nd rfl (Or.inl rfl) (pe_cxS (calX_plan F) hr (by decide) (by rfl) tk (pa_cons (pv 0) (pa_cons (pv 3) (pa_cons (pv 4) pa_nil))))))) (fun a_ oe_ cls_ d_ pn_ hz hf => (pss_one (ps_ret (pe_and (pe_cmpR op_lt (pv 5) pe_int (nomark _)) (pe_one (pe_callB (kisi K) (by rfl) F.n_isinstance b_isinstance (pa_cons (kxf K F.xf F.un.noN hz.zc hf (pv 7)) (pa_cons (pe_bltn (v := .ty "tuple") (by rfl) F.n_tuple b_tuple rfl) pa_nil)))))))))
      (pss_cons (ps_if (pw_or (pt_cmpR op_lt (pv 5) pe_int (nomark _)) (pw_or (pt_not (pt_val (pe_callB (kisi K) (by rfl) F.n_isinstance b_isinstance (pa_cons (pv 6) (pa_cons (pe_bltn (v := .ty "tuple") (by rfl) F.n_tuple b_tuple rfl) pa_nil))))) (pw_or1 (pt_cmpR op_ne (pe_callB (klen K) (by rfl) F.n_len b_len (pa_cons (pv 6) pa_nil)) (pv 5) (nomark _))))).pt (pss_one (ps_ret pe_bl)) pss_nil)
      (pss_cons (ps_set (i := 8) sc__law_plan_holds.nd rfl (Or.inl rfl) (pv 3))
      (pss_cons (ps_for PassesOwn.never rfl (pi_range1 rfl F.n_range (pa_cons (pv 5) pa_nil)) (pg_name (i := 9) sc__law_plan_holds.nd rfl (Or.inl rfl)) (pss_cons (ps_set (i := 10) sc__law_plan_holds.nd rfl (Or.inl rfl) (pe_ix (kixT K) (pv 6) (pv 9) (fun _ _ => rfl)))
      (pss_cons (ps_if (pw_or (pt_not (pt_val (pe_callB (kisi K) (by rfl) F.n_isinstance b_isinstance (pa_cons (pv 10) (pa_cons (pe_bltn (v := .ty "tuple") (by rfl) F.n_tuple b_tuple rfl) pa_nil))))) (pw_or (pt_cmpR op_ne (pe_callB (klen K) (by rfl) F.n_len b_len (pa_cons (pv 10) pa_nil)) pe_int (nomark _)) (pw_or1 (pt_not (pt_val (C8.pe_c (cal__law_is_integer F) hr (by decide) (by rfl) (pa_cons (pe_ix (kixT K) (pv 10) pe_int (fun _ _ => rfl)) pa_nil))))))).pt (pss_one (ps_ret pe_bl)) pss_nil)
      (pss_cons (ps_if (pw_or (pt_cmpR (knotinDt K snd_is (by decide) hr.units) (pv 10) (C8.pe_c (cal__law_moves F) hr (by decide) (by rfl) (pa_cons (pe_callB (klen K) (by rfl) F.n_len b_len (pa_cons (pv 8) pa_nil)) pa_nil)) (by rfl)) (pw_or1 (pt_not (pt_val (C8.pe_c (cal__law_is_allowed F) hr (by decide) (by rfl) (pa_cons (pv 1) (pa_cons (pv 8) (pa_cons (pv 10) pa_nil)))))))).pt (pss_one (ps_ret pe_bl)) pss_nil)
      (pss_cons (ps_set (i := 11) sc__law_plan_holds.nd rfl (Or.inl rfl) (C8.pe_c (cal__law_after F) hr (by decide) (by rfl) (pa_cons (pv 8) (pa_cons (pv 10) pa_nil))))
      (pss_cons (ps_if (pw_or (pt_cmpR op_ne (pe_dget2 (hu_of hr) (pv 2) (pv 11) (pe_un un_neg pe_int) ⟨rfl, rfl, rfl, rfl⟩) (pe_op op_sub (pe_op op_sub (pv 5) (pv 9)) pe_int) (nomark _)) (pw_or1 (pt_val (C8.pe_c (cal__law_is_smaller_first F) hr (by decide) (by rfl) (pa_cons (pv 1) (pa_cons (pv 2) (pa_cons (pv 8) (pa_cons (pv 10) pa_nil)))))))).pt (pss_one (ps_ret pe_bl)) pss_nil)
      (pss_one (ps_set (i := 8) sc__law_plan_holds.nd rfl (Or.inl rfl) (pv 11)))))))))
      (pss_one (ps_ret (pe_and (pe_cmpR (WR.op_eqDt snd_tup (by decide) hr.units) (pv 8) (pv 4) (nomark _)) (pe_one (pe_cmpR op_isBl (C8.pe_c (cal_is_plan F) hr (by decide) (by rfl) (pa_cons (pv 0) (pa_cons (pv 3) (pa_cons (pv 4) (pa_cons (pv 6) pa_nil))))) pe_bl (nomark _)))))))))), ?_⟩
  intro S0 D σ H a q
  have nn := gapL_nn s t
  cases hfree : freeB caps s t with
  | false =>
    have hdue : dueOf caps s t = -1 := by unfold dueOf; rw [hfree, if_neg (Bool.false_ne_true)]
    show tCallS _ _ _ σ H _
    refine (a_cons (Γ := st0 _ _) (e_var (i := 0) rfl) (a_cons (e_var (i := 3) rfl) (a_cons (e_var (i := 4) rfl) a_nil))) S0 σ H a _ fun vs H1 e1 p1 => ⟨S0, _, (a.ex e1).live, p1, .inr ⟨objT (hdO caps s t), ⟨caps, s, t, rfl, S, hz, r1, r2, hfree, rfl⟩, fun d v H2 e2 hd p2 => ?_⟩⟩
    refine ⟨true, F.exm, fun _ a_ ha => ?_, fun z => nomatch z⟩
    have a2 := (a.ex (e1.trans e2)).set (i := 7) (v := .ref a_) (T := tv (.ref a_)) rfl
    refine (e_is (e_op (e_var (i := 5) rfl) (e_c (x := .int 0)) o_I0) (U := tL true) (by rw [hdue]; rfl) : EvP _ _ (tL true)) S0 _ H2 a2 _ fun v3 H3 e3 p3 => ⟨true, p3, ?_⟩
    rw [if_pos rfl]
    obtain ⟨v7, h7, h7'⟩ := a2.env 7 _ rfl
    have h7'' : v7 = .ref a_ := h7'
    subst h7''
    refine ⟨.ref a_, h7, rfl, rfl, d, _, v, rfl, e3 _ _ hd, rfl, ?_⟩
    refine ⟨v, .ty "tuple", .type "tuple", .type "tuple", true, rfl, .ty _, ?_, kit_ty (by decide +kernel), ?_⟩
    · exact ty_tup (K := K) _ _ ((objT (hdO caps s t)).mono (hid_ex.trans e3) p2)
    · exact q _ H3 ((e1.trans e2).trans e3) rfl
  | true =>
    have hdue : dueOf caps s t = gapL s t := by unfold dueOf; rw [hfree, if_pos rfl]
    have N := freeB_iff.mp hfree
    show tCallS _ _ _ σ H _
    refine (a_cons (Γ := st0 _ _) (e_var (i := 0) rfl) (a_cons (e_var (i := 3) rfl) (a_cons (e_var (i := 4) rfl) a_nil))) S0 σ H a _ fun vs H1 e1 p1 => ⟨S0, _, (a.ex e1).live, p1, .inl ⟨tup ((planL caps s t).map mvT), ⟨caps, s, t, rfl, S, hz, r1, r2, hfree, hc, hg, rfl⟩, fun v H2 e2 p2 => ?_⟩⟩
    have a2 := (a.ex (e1.trans e2)).set (i := 6) p2
    have lx : ∀ i, (prs caps t s i).length = caps.length := fun i => by rw [prs_len]; exact S.ls
    dsimp only [gName]
    refine b_go (S := S0) (Γ := [some (netT CR caps), some (lst (chansT caps)), some (dct (farE ns)), some (TN s), some (TN t), some (tI (dueOf caps s t)), some (tup ((planL caps s t).map mvT)), none, none, none, none, none]) (T := tL true) ?_ a2 fun v H3 e3 p3 => q v H3 ((e1.trans e2).trans e3) p3
    rw [hdue]
    refine b_no (t_is (t_or (t_test (e_op (e_var rfl) e_c o_I0)) fun _ => t_or (t_not (t_B (e_cb (a_cons (e_var rfl) (a_cons e_c a_nil)) is_tup))) fun _ => t_test (e_op (e_cb (a_cons (e_var rfl) a_nil) c_lenT) (e_var rfl) (o_ne rfl))) ?_)
      (b_asg (e_var (T := TN s) rfl) (b_seq (n_for (n := (gapL s t).toNat) (Γs := fun i => [some (netT CR caps), some (lst (chansT caps)), some (dct (farE ns)), some (TN s), some (TN t), some (tI (gapL s t)), some (tup ((planL caps s t).map mvT)), none, some (TN (prs caps t s i)), none, none, none])
        (Γt := fun i => [some (netT CR caps), some (lst (chansT caps)), some (dct (farE ns)), some (TN s), some (TN t), some (tI (gapL s t)), some (tup ((planL caps s t).map mvT)), none, some (TN (prs caps t s i)), some (tI (i : Nat)), none, none])
        (i_rng (a_cons (e_var rfl) a_nil) ⟨nn, by omega⟩ rfl) (Le.refl _) (fun i hi => g_name) (fun i hi => ?_)) (b_ret (e_is (e_andV (e_op (e_var rfl) (e_var rfl) (o_eqD (fun S H v => d_tup) (fun S H v => d_tup))) fun _ => e_op (e_call (a_cons (e_var rfl) (a_cons (e_var rfl) (a_cons (e_var rfl) (a_cons (e_var rfl) a_nil)))) ⟨caps, s, t, rfl, rfl, S, hz, r1, r2, hc, N⟩) e_c o_isB) ?_))))
    · rw [List.length_map, planL_len, Int.toNat_of_nonneg nn]
      have z : ¬ gapL s t < 0 := by omega
      simp [z]
    · -- a step of the plan
      have hf := prs_first S hc N hi
      obtain ⟨k1, k2⟩ := prs_ok S hc N i (by omega)
      obtain ⟨k3, k4⟩ := prs_ok S hc N (i + 1) (by omega)
      have Si : Shape caps (prs caps t s i) t := ⟨S.big, lx i, S.lt⟩
      obtain ⟨f1, f2, f3, f4⟩ := first_ok Si k1 hf
      have hhd := hd_head hf
      have Wi := prs_win S hc N W i (by omega)
      have Wi' := prs_win S hc N W (i + 1) (by omega)
      have nnx := gapL_nn (prs caps t s i) t
      have nny := gapL_nn (prs caps t s (i + 1)) t
      have hL1 : lkp ns (prs caps t s i) = some (gapL (prs caps t s i) t) := (HL _ _).mpr ⟨(gapL (prs caps t s i) t).toNat, ⟨Wi, k1, by omega⟩, by omega⟩
      have hL2 : lkp ns (prs caps t s (i + 1)) = some (gapL (prs caps t s (i + 1)) t) := (HL _ _).mpr ⟨(gapL (prs caps t s (i + 1)) t).toNat, ⟨Wi', k3, by omega⟩, by omega⟩
      have hpl : ((planL caps s t).map mvT)[i]? = some (mvT (mvAt caps t s i)) := by rw [List.getElem?_map, planL_at hi]; rfl
      refine n_le (Γ' := [some (netT CR caps), some (lst (chansT caps)), some (dct (farE ns)), some (TN s), some (TN t), some (tI (gapL s t)), some (tup ((planL caps s t).map mvT)), none, some (TN (prs caps t s (i + 1))), some (tI (i : Nat)), some (mvT (mvAt caps t s i)), some (TN (prs caps t s (i + 1)))]) ?_ (le_cons (le_cons (le_cons (le_cons (le_cons (le_cons (le_cons (le_none (le_cons (le_none (le_none (le_none le_nil))))))))))))
      refine n_seq (n_asg (T := mvT (mvAt caps t s i)) (e_op (e_var rfl) (e_var rfl) (o_ixT (Int.natCast_nonneg _) hpl))) ?_
      refine n_seq (n_no (t_is (t_or (t_not (t_B (e_cb (a_cons (e_var rfl) (a_cons e_c a_nil)) is_tup))) fun _ => t_or (t_test (e_op (e_cb (a_cons (e_var rfl) a_nil) c_lenT) e_c (o_ne rfl))) fun _ => t_not (t_B (e_call (a_cons (e_op (e_var rfl) e_c (o_ixT (by decide) rfl)) a_nil) ⟨_, rfl, rfl⟩))) (by rfl))) ?_
      refine n_seq (n_no (t_is (t_or (t_test (e_op (e_var rfl) (e_call (a_cons (e_cb (a_cons (e_var rfl) a_nil) c_lenT) a_nil) ⟨caps.length, by rw [List.length_map, lx], rfl, hz⟩) (o_ninD (x := mvD (mvAt caps t s i)) (f := mvT) (g := mvD) (fun S H v => d_mv) (fun S H v y => d_mv)))) fun _ => t_not (t_B (e_call (a_cons (e_var rfl) (a_cons (e_var rfl) (a_cons (e_var rfl) a_nil))) ⟨caps, prs caps t s i, mvAt caps t s i, rfl, rfl, f1, ⟨S.big, lx i, lx i⟩, hz⟩))) ?_)) ?_
      rotate_left
      · refine n_seq (n_asg (T := TN (prs caps t s (i + 1))) (e_call (a_cons (e_var rfl) (a_cons (e_var rfl) a_nil)) ⟨prs caps t s i, mvAt caps t s i, rfl, rfl, by rw [lx]; exact f1, by rw [lx]; exact hz⟩)) ?_
        refine n_seq (n_no (t_is (t_or (t_test (e_op (e_dget2 (e_var rfl) (e_var (T := TN (prs caps t s (i + 1))) rfl) (e_neg e_c)) (e_op (e_op (e_var rfl) (e_var rfl) o_I0) e_c o_I0) (o_ne rfl))) fun _ => t_B (e_call (a_cons (e_var rfl) (a_cons (e_var rfl) (a_cons (e_var rfl) (a_cons (e_var rfl) a_nil)))) ⟨caps, ns, prs caps t s i, mvAt caps t s i, _, rfl, rfl, ⟨S.big, lx i, lx i⟩, hz, hL1, fun j m' hj hb hok heq => ?_⟩)) ?_)) (n_asg (e_var (T := TN (prs caps t s (i + 1))) rfl))
        · -- no smaller one
          cases e : lkp ns (aftM (prs caps t s i) m') with
          | none =>
            rw [e] at heq
            have heq' : (-1 : Int) = gapL (prs caps t s i) t - 1 := heq
            omega
          | some v =>
            rw [e] at heq
            have heq' : v = gapL (prs caps t s i) t - 1 := heq
            obtain ⟨dd, ⟨w1, w2, w3⟩, w4⟩ := (HL _ _).mp e
            have hm1 := mem_movesL.mp (List.mem_of_getElem? hj)
            have hin := first_of_ok Si hm1 hok w2 (by omega)
            rcases hd_least hhd hin with q1 | q1
            · exact hb j (Nat.le_refl _) (by rw [hj, q1]; rfl)
            · obtain ⟨j', hj', hj''⟩ := movesL_before hj q1
              exact hb j' hj' hj''
        · rw [hL2]
          have z : gapL (prs caps t s (i + 1)) t = gapL s t - (i : Nat) - 1 := by
            have : ((i + 1 : Nat) : Int) = (i : Nat) + 1 := by rw [Int.natCast_add]; rfl
            omega
          show ((!decide (L2.V.int (gapL (prs caps t s (i + 1)) t) = L2.V.int (gapL s t - (i : Nat) - 1))) || false) = false
          rw [z, decide_eq_true rfl]
          rfl
      · have hm : mvD (mvAt caps t s i) ∈ (movesL caps.length).map mvD := List.mem_map.mpr ⟨_, mem_movesL.mpr f1, rfl⟩
        have ho : okM caps (prs caps t s i) (mvAt caps t s i) = true := f2
        simp only [Bool.or_eq_false_iff, decide_eq_false_iff_not, Classical.not_not]
        exact ⟨hm, by rw [ho]; rfl⟩
    · rw [prs_end S hc N]
      simp
end
end WD

set_option Elab.async false
set_option linter.all false
set_option maxRecDepth 100000
set_option maxHeartbeats 3900000
namespace WD
open PySem PySem.Spec PyProof.Rows L2 Evl WT WM WB L2H
/-- a def that may be called where an exception is handled -/
structure CalH (P : Program) (w : World) (K : PySem.W.Frag) (mg : Str → Option Value) (base : Heap) (k : Nat) (x : Str) (sp : Sp) : Prop where
  ex : ∃ (f : Addr) (fd : FuncData) (ps : List Str), FnH P w K mg base CX0 k f fd ps sp ∧ mg x = some (.ref f) ∧ PySem.W.keepIn K (.ref f) = true ∧ Binds K fd ps []
theorem pe_cH {X : Cx} {k j : Nat} {x : Str} {sp : Sp} {p pos : Pos} {e : Expr} {es : List Expr} {t : TA} (c : CalH X.prog X.w X.K X.mg X.base k x sp) (hr : RoomH j X.A) (hot : HotC X) (hk : k ≤ j) (hg : Gl X x) (ha : PA X (e :: es) t)
    (hdb : (x == ("__debug__" : Str)) = false := by decide) (he : WR.NoStar X e es := by rfl) (hpl : WR.PlainTail X es pos := by rfl) :
    PE X (.Call (.Name x p) (e :: es) [] pos) (tCall sp [] C8.E0 t) := by
  obtain ⟨f, fd, ps, F, hm, kp, b⟩ := c.ex
  constructor
  intro pins s σ H Q I h
  refine (pe_callH (E := fun _ => C8.E0) F (hr.mono hk) hot hg hm kp b (fun σ pins H s e s' _ z => z.elim) ha hdb he hpl).run pins s σ H Q I ?_
  unfold tCall at h
  unfold tCallS
  have e : (fun vs H1 => sp (vs ++ []) H1 Q C8.E0) = fun vs H1 => sp vs H1 Q C8.E0 := by
    funext vs H1
    rw [List.append_nil]
  rw [e] at h
  exact h
theorem roomH_suite {X : Cx} {k : Nat} {a : Addr} {pn : List (Addr × Obj)} (hr : Room k X.A) : RoomH k (X.suite a pn).A := ⟨hr.dp, hr.un⟩
theorem hot_suite {X : Cx} {a : Addr} {oe : Obj} {cls : Value} {d : Option Addr} {pn : List (Addr × Obj)} (hz : L2N.Zn cls d oe) (hf : ∃ vs, oe.data = .fields vs) : HotC (X.suite a ((a, oe) :: pn)) := by
  obtain ⟨vs, h⟩ := hf
  exact ⟨(a, oe), ⟨rfl, vs, h, hz.2.2 vs h⟩, List.mem_cons_self⟩
section
variable {w : World} {P : Program} {K : PySem.W.Frag} {mg : Str → Option Value} {base : Heap} {CR CN CU fU KA : Addr} {mc : Value}
def Sg__law_pair_holds (CR : Addr) : Sig := fun Ts T => ∃ (caps s t : List Int), Ts = [netT CR caps, TN s, TN t, tI (dueOf caps s t)] ∧ T = tL true ∧ Shape caps s t ∧ caps.length ≤ 100 ∧ InR s ∧ InR t
theorem cal__law_pair_holds (F : TopF K mg CR CN CU fU KA mc) (HO : CalH WE.PG w K mg base 7 "is_objection" (SpT (Sg_is_objection CR))) : C8.Cal WE.PG w K mg base 8 "_law_pair_holds" (SpT (Sg__law_pair_holds CR)) [] := by
  refine cal_ty (k := 7) F.d__law_pair_holds sc__law_pair_holds (fun Ts T h => by obtain ⟨caps, s, t, rfl, _⟩ := h; rfl) (fun _ _ _ _ _ _ us hl => match us, hl with | [_, _, _, _], _ => rfl) fun f cdv A outer s_ H_ E_ hr Ts T hs => ?_
  obtain ⟨caps, s, t, rfl, rfl, S, hz, r1, r2⟩ := hs
  refine ⟨_, (pss_cons (ps_set (i := 4) sc__law_pair_holds.nd rfl (Or.inl rfl) (C8.pe_c (cal_reaches F) hr (by decide) (by rfl) (pa_cons (pv 0) (pa_cons (pv 1) (pa_cons (pv 2) pa_nil)))))
      (pss_cons (ps_if (pw_or (pt_not (pt_val (pe_callB (kisi K) (by rfl) F.n_isinstance b_isinstance (pa_cons (pv 4) (pa_cons (pe_bltn (v := .ty "bool") (by rfl) F.n_bool b_bool rfl) pa_nil))))) (pw_or1 (pt_cmpR op_ne (pv 4) (pe_cmpR op_ge (pv 3) pe_int (nomark _)) (nomark _)))).pt (pss_one (ps_ret pe_bl)) pss_nil)
      (pss_cons (L2N.ps_try_as (i := 6) rfl rfl sc__law_pair_holds.nd rfl rfl ⟨by rfl, by decide, .inl F.un.gC⟩ takes0N (fun W pn xe tk _ => (pss_one (ps_set (i := 5) sc__law_pair_holds.nd rfl (Or.inl rfl) (pe_cxS (calX_distance F) hr (by decide) (by rfl) tk (pa_cons (pv 0) (pa_cons (pv 1) (pa_cons (pv 2) pa_nil))))))) (fun a_ oe_ cls_ d_ pn_ hz hf => (pss_cons (ps_if (pt_cmpR op_ge (pv 3) pe_int (nomark _)) (pss_one (ps_ret pe_bl)) pss_nil)
      (pss_one (ps_ret (pe_cmpR op_isBl (pe_cH HO (roomH_suite hr) (hot_suite hz hf) (by decide) (by rfl) (pa_cons (pv 0) (pa_cons (pv 1) (pa_cons (pv 2) (pa_cons (kxf K F.xf F.un.noN hz.zc hf (pv 6)) pa_nil))))) pe_bl (nomark _)))))))
      (pss_one (ps_ret (pe_and (pe_cmpR op_ge (pv 3) pe_int (nomark _)) (pe_and (C8.pe_c (cal__law_is_integer F) hr (by decide) (by rfl) (pa_cons (pv 5) pa_nil)) (pe_one (pe_cmpR op_eq (pv 5) (pv 3) (nomark _)))))))))), ?_⟩
  intro S0 D σ H a q
  have nn := gapL_nn s t
  have hdue : decide (0 ≤ dueOf caps s t) = freeB caps s t := by
    unfold dueOf
    cases freeB caps s t with
    | true => rw [if_pos rfl]; exact decide_eq_true nn
    | false => rw [if_neg (Bool.false_ne_true)]; rfl
  refine q_asg (e_call (a_cons (e_var rfl) (a_cons (e_var rfl) (a_cons (e_var rfl) a_nil))) ⟨caps, s, t, rfl, rfl, S, hz, r1, r2⟩) a fun v0 H0 e0 a0 => ?_
  refine q_no (t_is (t_or (t_not (t_B (e_cb (a_cons (e_var rfl) (a_cons e_c a_nil)) is_bl))) fun _ => t_test (e_op (e_var rfl) (e_op (e_var rfl) e_c o_I0) (o_ne rfl))) (by
    rw [hdue]
    show (!true || !decide (V.bl (freeB caps s t) = V.bl (freeB caps s t))) = false
    rw [decide_eq_true rfl]
    rfl)) a0 fun H1 e1 a1 => ?_
  cases hfree : freeB caps s t with
  | false =>
    show tCallS _ _ _ _ H1 _
    refine (a_cons (Γ := (st0 _ _).set _ _) (e_var (i := 0) rfl) (a_cons (e_var (i := 1) rfl) (a_cons (e_var (i := 2) rfl) a_nil))) S0 _ H1 a1 _ fun vs H2 e2 p2 => ⟨S0, _, (a1.ex e2).live, p2, .inr ⟨objT (hdO caps s t), ⟨caps, s, t, rfl, S, hz, r1, r2, hfree, rfl⟩, fun d v H3 e3 hd p3 => ?_⟩⟩
    refine ⟨true, F.exm, fun _ a_ ha => ?_, fun z => nomatch z⟩
    have a3 := (a1.ex (e2.trans e3)).set (i := 6) (v := .ref a_) (T := tv (.ref a_)) rfl
    obtain ⟨v7, h7, h7'⟩ := a3.env 6 _ rfl
    have h7'' : v7 = .ref a_ := h7'
    subst h7''
    refine q_no (t_is (t_test (e_op (e_var (i := 3) rfl) e_c o_I0)) (by rw [hdue, hfree])) a3 fun H4 e4 a4 => ?_
    -- is_objection(.., raised.objection) is True
    dsimp only [tRet, tOp, tCall, tCons]
    refine (e_var (i := 0) (T := netT CR caps) rfl) S0 _ H4 a4 _ fun x0 H5 e5 p5 => ?_
    refine (e_var (i := 1) (T := TN s) rfl) S0 _ H5 (a4.ex e5) _ fun x1 H6 e6 p6 => ?_
    refine (e_var (i := 2) (T := TN t) rfl) S0 _ H6 (a4.ex (e5.trans e6)) _ fun x2 H7 e7 p7 => ?_
    have e47 := (e5.trans e6).trans e7
    refine ⟨.ref a_, h7, rfl, rfl, d, _, v, rfl, e47 _ _ (e4 _ _ hd), rfl, ?_⟩
    refine ⟨S0, [netT CR caps, TN s, TN t, objT (hdO caps s t)], tL true, ⟨caps, s, t, hdO caps s t, rfl, rfl, S, hz, r1, r2, (hdO_mem hfree).1⟩, (a4.ex e47).live, ?_, fun z H8 e8 p8 => ?_⟩
    · exact .cons ((netT CR caps).mono (ex_hid (e6.trans e7)) p5) (.cons ((TN s).mono (ex_hid e7) p6) (.cons p7 (.cons ((objT _).mono (ex_hid (e4.trans e47)) p3) .nil)))
    · refine ⟨true, true, p8, rfl, ?_⟩
      exact q _ H8 (((((e0.trans e1).trans (e2.trans e3)).trans e4).trans e47).trans e8) rfl
  | true =>
    show tCallS _ _ _ _ H1 _
    refine (a_cons (Γ := (st0 _ _).set _ _) (e_var (i := 0) rfl) (a_cons (e_var (i := 1) rfl) (a_cons (e_var (i := 2) rfl) a_nil))) S0 _ H1 a1 _ fun vs H2 e2 p2 => ⟨S0, _, (a1.ex e2).live, p2, .inl ⟨tI (gapL s t), ⟨caps, s, t, rfl, S, hz, r1, r2, hfree, rfl⟩, fun v H3 e3 p3 => ?_⟩⟩
    have a3 := (a1.ex (e2.trans e3)).set (i := 5) p3
    dsimp only [gName]
    have hg : dueOf caps s t = gapL s t := by unfold dueOf; rw [hfree, if_pos rfl]
    refine s_ret (e_is (e_andV (e_op (e_var rfl) e_c o_I0) fun _ => e_andV (e_call (a_cons (e_var rfl) a_nil) ⟨gapL s t, rfl, rfl⟩) fun _ => e_op (e_var (T := tI (gapL s t)) rfl) (e_var rfl) (o_eq rfl)) (U := tL true) ?_) a3 fun z H4 e4 p4 => q z H4 (((e0.trans e1).trans (e2.trans e3)).trans e4) p4
    rw [hdue, hfree, hg]
    simp
/-! ### the box; the starts -/
def scr (K : PySem.W.Frag) (ns : List Int) : Ty := ⟨fun v H => ∃ a, v = .ref a ∧ SqL K H a (ns.map V.int), fun e ⟨a, h1, h2⟩ => ⟨a, h1, ex_l e h2⟩⟩
theorem hid_l {S : List Addr} {H : Hp} {a : Addr} {xs : List V} (h : SqL K (hid S H) a xs) : SqL K H a xs := ex_l hid_ex h
theorem e_slL {Γ : Cn} {te : TE} {lo hi : TO} {ns : List Int} {l u : Option Int} {ms : List Int} (h : EvP te Γ (scr K ns)) (h1 : EoP lo Γ l) (h2 : EoP hi Γ u) (e : ms = (ns.drop (HT.sIx ns.length 0 l)).take (HT.sIx ns.length ns.length u - HT.sIx ns.length 0 l)) : EvP (tSl (rSlL K) te lo hi) Γ (lst (ms.map tI)) := fun S σ H a Q q =>
  h S σ H a _ fun v H1 e1 ⟨b, f1, f2⟩ => h1 S σ H1 (a.ex e1) _ fun H2 e2 => h2 S σ H2 (a.ex (e1.trans e2)) _ fun H3 e3 => by
    refine ⟨b, ns.map V.int, f1, ex_l (e2.trans e3) (hid_l f2), fun p hp => q _ _ (((e1.trans e2).trans e3).trans (Ex.new hp)) (new_lst (a.ex ((e1.trans e2).trans e3)).live hp ?_)⟩
    unfold cutV
    rw [List.length_map, e]
    have z := ti_ps (H := hid S H3) ms
    rw [e] at z
    rw [List.map_take, List.map_drop] at z ⊢
    simp only [List.map_take, List.map_drop] at z ⊢
    exact z
def SpBox (K : PySem.W.Frag) : Sp := fun vs H Q _ => ∃ (a : Addr) (ns : List Int), vs = [.ref a] ∧ SqL K H a (ns.map V.int) ∧ ∀ b H', H b = none → Ex H H' → BoxV [] H' b → Q (.ref b) H'
def boxC (ns : List Int) : List Int := (ns.take 63).map absI ++ [0]
def boxS (cs : List Int) (i : Nat) : Int := (cs.take i).foldl (fun s c => (s * 6007 + c) % 1000003) 15
theorem boxS_rng (cs : List Int) (i : Nat) : 0 ≤ boxS cs i ∧ boxS cs i < 1000003 := by
  unfold boxS
  rcases List.eq_nil_or_concat (cs.take i) with h | ⟨l, x, h⟩
  · rw [h]
    exact ⟨by decide, by decide⟩
  · rw [h, List.concat_eq_append, List.foldl_append]
    exact mod_rng (by decide)
theorem cal__law_box (F : TopF K mg CR CN CU fU KA mc) : C8.Cal P w K mg base 1 "_law_box" (SpBox K) [] := by
  obtain ⟨f, fd, F1, hm⟩ := F.d__law_box
  refine ⟨f, fd, ["_law_script"], [], F1.ok (k := 0) sc__law_box (fun vs H Q E h => ?_) (fun cdv A outer s H vs Q E hr h => ?_), hm, F1.kp, F1.binds (fun _ _ _ _ _ _ us hl => match us, hl with | [_], _ => rfl), .nil⟩
  · obtain ⟨a, ns, rfl, _⟩ := h
    rfl
  · obtain ⟨sa, ns, rfl, hs, q⟩ := h
    refine ⟨_, (pss_cons (ps_set (i := 1) sc__law_box.nd rfl (Or.inl rfl) (pe_op op_cat (pe_lc (own := [("_law_cell", 3)]) (g := gName 3) rfl sc__law_box.nd (kpiL K (pe_slice (kslL K) (pv 0) po_none (po_some pe_int))) (blkOk_by (N := ["_law_script", "_law_cells", "_law_seed", "_law_cell"]) (sc := defScope s__law_box) (by decide +kernel)) (fun _ _ _ _ _ => (pg_name (i := 3) sc__law_box.nd rfl (Or.inl rfl))) (fun _ _ _ _ _ => pts_nil) (fun _ _ _ _ _ => (pe_callB call_abs (by rfl) F.n_abs b_abs (pa_cons (pe_callTy call_int1 (by rfl) F.n_int b_int (pa_cons (pv 3) pa_nil)) pa_nil)))) (pe_lst (pa_cons pe_int pa_nil))))
      (pss_cons (ps_set (i := 2) sc__law_box.nd rfl (Or.inl rfl) pe_int)
      (pss_cons (ps_for PassesOwn.never rfl (kpiL K (pv 1)) (pg_name (i := 3) sc__law_box.nd rfl (Or.inl rfl)) (pss_one (ps_set (i := 2) sc__law_box.nd rfl (Or.inl rfl) (pe_op op_mod (pe_callTy call_int1 (by rfl) F.n_int b_int (pa_cons (pe_op op_add (pe_op op_mul (pv 2) pe_int) (pv 3)) pa_nil)) pe_int))))
      (pss_one (ps_ret (pe_lst (pa_cons (pv 1) (pa_cons pe_int (pa_cons (pe_ix (kixL K) (pv 1) pe_int (fun _ _ => rfl)) (pa_cons pe_int (pa_cons (pv 2) pa_nil))))))))))), ?_⟩
    have a : At [] (st0 ["_law_script", "_law_cells", "_law_seed", "_law_cell"] [scr K ns]) (L2.start ["_law_script", "_law_cells", "_law_seed", "_law_cell"] [.ref sa]) H := at_start (fun b hb => (by cases hb)) (.cons ⟨sa, rfl, by rw [hid_nil]; exact hs⟩ .nil)
    have hl : (ns.take 63).length ≤ 63 := by rw [List.length_take]; omega
    have hcl : (boxC ns).length ≤ 64 := by unfold boxC; rw [List.length_append, List.length_map]; simp; omega
    have hc0 : 0 < (boxC ns).length := by unfold boxC; rw [List.length_append]; simp
    refine q_asg (T := lst ((boxC ns).map tI)) (e_is (e_op (e_is (e_lc (n := (ns.take 63).length) (f := fun _ => true) (u := fun i => tI (absI (gi (ns.take 63) i))) (tf := fun i => tI (gi (ns.take 63) i)) (Γs := fun i => [some (scr K ns), none, none, some (tI (gi (ns.take 63) i))])
      (i_list (e_slL (ms := ns.take 63) (e_var rfl) o_none (o_some e_c) ?_) (by simp) fun i hi => tn_at hi) (fun i hi => g_name) (by decide) (fun i hi => t_yes) (fun i hi _ => e_cb (Ts := [tI (gi (ns.take 63) i)]) (a_cons (e_cb (a_cons (e_var rfl) a_nil) c_int) a_nil) c_abs) (by omega)) (U := lst (((ns.take 63).map absI).map tI)) ?_) (e_lst (a_cons e_c a_nil) (by simp)) (o_catL ?_)) ?_) a fun v1 H1 e1 a1 => ?_
    · rw [HT.sIx_none, Nat.sub_zero, List.drop_zero]
      rw [show (some (63 : Int)) = some ((63 : Nat) : Int) from rfl, HT.sIx_nat]
      rw [List.take_eq_take_iff]
      omega
    · rw [given_all, List.map_map]
      have z := WM.range_getD (ns.take 63) 0
      refine congrArg lst ?_
      conv => rhs; rw [← z]
      rw [List.map_map]
      rfl
    · rw [List.length_map, List.length_map]
      simp
      omega
    · unfold boxC
      rw [List.map_append]
      rfl
    refine q_asg (T := tI (boxS (boxC ns) 0)) (e_c (x := .int 15)) a1 fun v2 H2 e2 a2 => ?_
    refine q_for (n := (boxC ns).length) (tf := fun i => tI (gi (boxC ns) i)) (i_list (e_var rfl) (by simp) fun i hi => tn_at hi) a2
      (fun i σ' H' => Ex H H' ∧ At [] [some (scr K ns), some (lst ((boxC ns).map tI)), some (tI (boxS (boxC ns) i)), none] σ' H') (fun i σ' H' H3 e p => ⟨p.1.trans e, p.2.ex e⟩) (fun H3 e3 => ⟨(e1.trans e2).trans e3, a2.ex e3⟩) ?_ ?_
    · intro i v σ' H0 H' hi g0 g1 p1 p2
      obtain ⟨x1, b1⟩ := p2
      have c1 := b1.set (i := 3) p1
      have hr0 := boxS_rng (boxC ns) i
      refine s_asg (T := tI (boxS (boxC ns) (i + 1))) (e_is (e_op (e_cb (a_cons (e_op (e_op (e_var rfl) e_c (o_I (.inl ⟨by omega, by omega⟩))) (e_var rfl) o_I0) a_nil) c_int) e_c (o_I (by decide))) ?_) c1 fun v3 H3 e3 c3 => ⟨g0.trans (.of g0.2 e3), x1.trans e3, c3.le (le_cons (le_cons (le_cons (le_none le_nil))))⟩
      unfold boxS
      rw [List.take_add_one, gi_get hi, List.foldl_append]
      rfl
    · intro σ' H' g' p
      obtain ⟨x1, b1⟩ := p
      dsimp only [tRet, tLst]
      refine (a_cons (e_var (i := 1) rfl) (a_cons (e_c (x := .int 0)) (a_cons (e_op (e_var (i := 1) rfl) (e_c (x := .int 0)) (o_ixNL (j := 0) hc0)) (a_cons (e_c (x := .int 0)) (a_cons (e_var (i := 2) rfl) a_nil))))) [] σ' H' b1 _ fun vs H3 e3 p3 => ⟨sz_of (by rw [p3.len]; show 5 ≤ 100000; decide), fun b hb => ?_⟩
      have hbH : H b = none := fresh_back (x1.trans e3) hb
      refine q b _ hbH ((x1.trans e3).trans (Ex.new hb)) ⟨by simp, fun c hc => ⟨.lst vs, by rw [List.mem_singleton.1 hc]; exact upd_same, rfl⟩, boxC ns, 0, _, _, _, ⟨List.mem_cons_self, vs, upd_same, p3.mono fun c o hc => ?_⟩, hc0, (ns.take 63).map absI, rfl⟩
      obtain ⟨n1, h2⟩ := hid_some hc
      have ne : c ≠ b := ne_of_none h2 hb
      rw [hid_of (fun z => ne (List.mem_singleton.1 z)), upd_ne ne]
      exact h2
end
end WD

set_option Elab.async false
set_option linter.all false
set_option maxRecDepth 100000
set_option maxHeartbeats 3900000
namespace WD
open PySem PySem.Spec PyProof.Rows L2 Evl WT WM WB L2H
section
variable {S S' S0 : List Addr} {Γ : Cn} {σ : L2.St} {H H' : Hp} {D : Ends} {tl te : TE} {tz : TS} {T : Ty} {b c : Addr} {ts : List Ty} {K : PySem.W.Frag}
theorem hid_perm (hp : ∀ a, a ∈ S ↔ a ∈ S') : hid S H = hid S' H := by
  funext a
  unfold hid
  by_cases h : a ∈ S
  · rw [if_pos h, if_pos ((hp a).mp h)]
  · rw [if_neg h, if_neg (fun z => h ((hp a).mpr z))]
theorem at_perm (hp : ∀ a, a ∈ S ↔ a ∈ S') (h : At S Γ σ H) : At S' Γ σ H := ⟨by rw [← hid_perm hp]; exact h.env, fun a ha => h.live a ((hp a).mpr ha), h.len⟩
theorem grow_perm (hp : ∀ a, a ∈ S ↔ a ∈ S') (h : Grow S H c ts) : Grow S' H c ts := ⟨(hp c).mp h.1, let ⟨vs, h1, h2⟩ := h.2; ⟨vs, h1, by rw [← hid_perm hp]; exact h2⟩⟩
theorem go_perm (hp : ∀ a, a ∈ S ↔ a ∈ S') (h : Go S H H') : Go S' H H' := ⟨by rw [← hid_perm hp, ← hid_perm hp]; exact h.1, fun a ha => h.2 a ((hp a).mpr ha)⟩
theorem swap2 (a b : Addr) (S : List Addr) (x : Addr) : x ∈ a :: b :: S ↔ x ∈ b :: a :: S := by
  simp only [List.mem_cons]
  constructor
  · rintro (h | h | h) <;> simp [h]
  · rintro (h | h | h) <;> simp [h]
theorem BoxV.ex (h : BoxV S0 H b) (e : Ex H H') : BoxV S0 H' b := by
  obtain ⟨nb, lv, cs, at_, x2, n, sd, g, r⟩ := h
  exact ⟨nb, lv.mono e, cs, at_, x2, n, sd, g.ex e, r⟩
theorem BoxV.grow (h : BoxV S0 H b) : ∃ ts, Grow (b :: S0) H b ts := by
  obtain ⟨nb, lv, cs, at_, x2, n, sd, g, r⟩ := h
  exact ⟨_, g⟩
theorem BoxV.isL (h : BoxV S0 H b) : ∃ vs, H b = some (.lst vs) := by
  obtain ⟨ts, _, vs, h1, _⟩ := h.grow
  exact ⟨vs, h1⟩
/-- something new is hidden, too -/
theorem BoxV.hide (h : BoxV S0 H b) (e : Ex H H') (hn : H c = none) {o : HO} (hc : H' c = some o) (ho : notT o = true) : BoxV (c :: S0) H' b := by
  obtain ⟨vs, hb⟩ := h.isL
  obtain ⟨nb, lv, cs, at_, x2, n, sd, g, r⟩ := h
  have ne : b ≠ c := ne_of_none hb hn
  refine ⟨fun z => (List.mem_cons.1 z).elim ne nb, fun a ha => ?_, cs, at_, x2, n, sd, grow_perm (swap2 c b S0) (grow_hide g e hn), r⟩
  rcases (swap2 b c S0 a).mp ha |> List.mem_cons.1 with z | z
  · exact ⟨o, z ▸ hc, ho⟩
  · exact (lv.mono e) a z
theorem BoxV.show (h : BoxV (c :: S0) H b) : BoxV S0 H b := by
  obtain ⟨nb, lv, cs, at_, x2, n, sd, g, r⟩ := h
  exact ⟨fun z => nb (List.mem_cons_of_mem _ z), fun a ha => lv a ((List.mem_cons.1 ha).elim (fun z => z ▸ List.mem_cons_self) fun z => List.mem_cons_of_mem _ (List.mem_cons_of_mem _ z)), cs, at_, x2, n, sd, grow_show (grow_perm (swap2 b c S0) g) List.mem_cons_self, r⟩
/-- another hidden thing has changed -/
theorem BoxV.go (h : BoxV S0 H b) (g : Go (b :: S0) H H') (k : ∀ o, H b = some o → H' b = some o) : BoxV S0 H' b := by
  obtain ⟨nb, lv, cs, at_, x2, n, sd, gr, r⟩ := h
  exact ⟨nb, g.2, cs, at_, x2, n, sd, grow_go gr g k, r⟩
/-- a number is taken -/
theorem take_at {i : Nat} {n : Nat} (h : At (b :: S0) Γ σ H) (hb : Γ[i]? = some (some (tv (.ref b)))) (hl : EvP tl Γ (tI (n : Nat))) (bx : BoxV S0 H b) (h1 : 1 ≤ n) (h2 : n ≤ 10000) (Q : VK)
    (k : ∀ (v : Nat) H', v < n → Go (b :: S0) H H' → (∀ c o, c ≠ b → H c = some o → H' c = some o) → At (b :: S0) Γ σ H' → BoxV S0 H' b → Q (.int (v : Nat)) H') : tCall SpTake [] C8.E0 (tCons (tVar i) (tCons tl tNil)) σ H Q :=
  (a_cons (e_var hb) (a_cons hl a_nil)) (b :: S0) σ H h _ fun vs H1 e1 p1 => by
    cases p1 with
    | cons p r =>
      cases r with
      | cons p2 r =>
        cases r
        refine ⟨S0, b, n, ?_, h1, h2, bx.ex e1, fun v H' hv g k' bx' => k v H' hv ((Go.of h.live e1).trans g) (fun c o hc hx => k' c o hc (e1 _ _ hx)) (h.go ((Go.of h.live e1).trans g)) bx'⟩
        rw [show _ = V.ref b from p, show _ = V.int (n : Nat) from p2]
        rfl
/-- an item is drawn -/
theorem pick_at {α : Type} {xs : List α} {f : α → Ty} {i j : Nat} (h : At (b :: S0) Γ σ H) (hb : Γ[i]? = some (some (tv (.ref b)))) (hx : Γ[j]? = some (some (lst (xs.map f)))) (hl : EvP tl Γ (tI (xs.length : Nat))) (bx : BoxV S0 H b) (h1 : xs ≠ []) (h2 : xs.length ≤ 10000) (Q : VK)
    (k : ∀ x, x ∈ xs → ∀ v H', Go (b :: S0) H H' → (∀ c o, c ≠ b → H c = some o → H' c = some o) → At (b :: S0) Γ σ H' → BoxV S0 H' b → (f x).p v (hid (b :: S0) H') → Q v H') :
    tOp (rIxL K) (tVar j) (tCall SpTake [] C8.E0 (tCons (tVar i) (tCons tl tNil))) σ H Q := by
  obtain ⟨u, hu, a, vs, e1, e2, e3⟩ := h.env j _ hx
  refine ⟨u, hu, take_at h hb hl bx (List.length_pos_iff.mpr h1) h2 _ fun v H' hv g k' a' bx' => ?_⟩
  have e2' := g.1 _ _ e2
  have e3' := e3.mono g.1
  have hxv : xs[v]? = some xs[v] := List.getElem?_eq_getElem hv
  obtain ⟨y, hy, py⟩ := e3'.get (i := v) (t := f xs[v]) (by rw [List.getElem?_map, hxv]; rfl)
  exact ⟨a, vs, (v : Nat), y, e1, rfl, sq_of (hid_some e2').2, atI_nat hy, k xs[v] (List.getElem_mem hv) y H' g k' a' bx' py⟩
end
def SpStarts : Sp := fun vs H Q _ => ∃ (S0 : List Addr) (b : Addr) (v1 v2 : V) (f : List Int → List (List Int)) (sts : List (List Int)), vs = [.ref b, v1, v2] ∧ BoxV S0 H b ∧ (dct (adjE f sts)).p v1 (hid (b :: S0) H) ∧ (lst (sts.map TN)).p v2 (hid (b :: S0) H) ∧
  sts ≠ [] ∧ sts.length ≤ 10000 ∧ (30 ≤ sts.length → ∃ s ∈ sts, f s ≠ []) ∧ ∀ v H' (xs : List (List Int)), xs ≠ [] → (∀ x ∈ xs, x ∈ sts) → xs.length ≤ 10000 → Go (b :: S0) H H' → (∀ c o, c ≠ b → H c = some o → H' c = some o) → BoxV S0 H' b → (lst (xs.map TN)).p v (hid (b :: S0) H') → Q v H'
section
variable {w : World} {P : Program} {K : PySem.W.Frag} {mg : Str → Option Value} {base : Heap} {CR CN CU fU KA : Addr} {mc : Value}
theorem cal__law_starts (F : TopF K mg CR CN CU fU KA mc) : C8.Cal P w K mg base 2 "_law_starts" SpStarts [] := by
  obtain ⟨f0, fd, F1, hm⟩ := F.d__law_starts
  refine ⟨f0, fd, ["_law_box_here", "_law_roads_here", "_law_states_here"], [], F1.ok (k := 1) sc__law_starts (fun vs H Q E h => ?_) (fun cdv A outer s H vs Q E hr h => ?_), hm, F1.kp, F1.binds (fun _ _ _ _ _ _ us hl => match us, hl with | [_, _, _], _ => rfl), .nil⟩
  · obtain ⟨S0, b, v1, v2, f, sts, rfl, _⟩ := h
    rfl
  · obtain ⟨S0, b, v1, v2, f, sts, rfl, bx, hd, hs, hne, hz, hlv, q⟩ := h
    refine ⟨_, (pss_cons (ps_if (pt_cmpR op_lt (pe_callB (klen K) (by rfl) F.n_len b_len (pa_cons (pv 2) pa_nil)) pe_int (nomark _)) (pss_one (ps_ret (pv 2))) pss_nil)
      (pss_cons (ps_setLc (i := 3) (own := [("_law_point", 6)]) (g := gName 6) rfl sc__law_starts.nd rfl rfl (sw_true rfl rfl rfl (by decide +kernel)) (kpiL K (pv 2)) (blkOk_by (N := ["_law_box_here", "_law_roads_here", "_law_states_here", "_law_lively", "_law_starts_here", "_law_turn", "_law_point"]) (sc := defScope s__law_starts) (by decide +kernel)) (fun _ _ _ _ _ => (pg_name (i := 6) sc__law_starts.nd rfl (Or.inl rfl))) (fun _ _ _ _ _ => (pts_one (pt_cmpR op_gt (pe_callB (klen K) (by rfl) F.n_len b_len (pa_cons (pe_dget (hu_of hr) (pv 1) (pv 6) (fun _ _ => rfl)) pa_nil)) pe_int (nomark _)))) (fun _ _ _ _ _ => (pv 6)))
      (pss_cons (ps_set (i := 4) sc__law_starts.nd rfl (Or.inl rfl) (pe_lst (pa_cons (pe_ix (kixL K) (pv 2) (C8.pe_c (cal__law_take F) hr (by decide) (by rfl) (pa_cons (pv 0) (pa_cons (pe_callB (klen K) (by rfl) F.n_len b_len (pa_cons (pv 2) pa_nil)) pa_nil))) (fun _ _ => rfl)) pa_nil)))
      (pss_cons (ps_for PassesOwn.never rfl (pi_range1 rfl F.n_range (pa_cons pe_int pa_nil)) (pg_name (i := 5) sc__law_starts.nd rfl (Or.inl rfl)) (pss_one (ps_expr (kapp K (pv 4) (pa_cons (pe_ix (kixL K) (pv 3) (C8.pe_c (cal__law_take F) hr (by decide) (by rfl) (pa_cons (pv 0) (pa_cons (pe_callB (klen K) (by rfl) F.n_len b_len (pa_cons (pv 3) pa_nil)) pa_nil))) (fun _ _ => rfl)) pa_nil)))))
      (pss_one (ps_ret (pv 4))))))), ?_⟩
    have lv := bx.2.1
    have a : At (b :: S0) (st0 ["_law_box_here", "_law_roads_here", "_law_states_here", "_law_lively", "_law_starts_here", "_law_turn", "_law_point"] [tv (.ref b), dct (adjE f sts), lst (sts.map TN)]) (L2.start ["_law_box_here", "_law_roads_here", "_law_states_here", "_law_lively", "_law_starts_here", "_law_turn", "_law_point"] [.ref b, v1, v2]) H := at_start lv (.cons rfl (.cons hd (.cons hs .nil)))
    refine q_if (b := decide (((sts.map TN).length : Int) < 30)) (t_test (e_op (e_cb (a_cons (e_var rfl) a_nil) c_lenL) e_c o_I0)) a (fun hb H1 e1 a1 => ?_) (fun hb H1 e1 a1 => ?_)
    · exact s_ret (e_var rfl) a1 fun v H2 e2 p2 => q v H2 sts hne (fun x hx => hx) hz (.of lv (e1.trans e2)) (fun c o _ hx => e2 _ _ (e1 _ _ hx)) (bx.ex (e1.trans e2)) p2
    · have h30 : 30 ≤ sts.length := by
        have z := of_decide_eq_false hb
        rw [List.length_map] at z
        omega
      obtain ⟨s0, hs0, hs1⟩ := hlv h30
      refine q_asg (T := lst ((sts.filter fun p => decide (0 < (f p).length)).map TN)) (e_is (e_lc (n := sts.length) (f := fun i => decide (0 < (f (sts.getD i [])).length)) (u := fun i => TN (sts.getD i [])) (tf := fun i => TN (sts.getD i [])) (Γs := fun i => [some (tv (.ref b)), some (dct (adjE f sts)), some (lst (sts.map TN)), none, none, none, some (TN (sts.getD i []))])
        (i_list (e_var rfl) (by simp) fun i hi => list_at hi) (fun i hi => g_name) (by decide) (fun i hi => t_is (t_test (e_op (e_cb (a_cons (e_dget (e_var rfl) (e_var rfl) (adjE_look (by rw [List.getD_eq_getElem?_getD, List.getElem?_eq_getElem hi]; exact List.getElem_mem hi))) a_nil) c_lenL) e_c o_I0)) (by rw [List.length_map]; exact decide_eq_decide.mpr (by omega))) (fun i hi _ => e_var rfl) (by omega))
        (congrArg lst (given_list sts [] (fun p => decide (0 < (f p).length)) TN))) a1 fun v2' H2 e2 a2 => ?_
      have hl := List.length_filter_le (fun p => decide (0 < (f p).length)) sts
      have hlne : (sts.filter fun p => decide (0 < (f p).length)) ≠ [] := fun e => by
        have z : s0 ∈ sts.filter fun p => decide (0 < (f p).length) := List.mem_filter.mpr ⟨hs0, decide_eq_true (List.length_pos_iff.mpr hs1)⟩
        rw [e] at z
        cases z
      have hlm : ∀ x ∈ sts.filter (fun p => decide (0 < (f p).length)), x ∈ sts := fun x hx => (List.mem_filter.mp hx).1
      generalize hlv2 : (sts.filter fun p => decide (0 < (f p).length)) = lively at a2 hl hlne hlm
      have e12 := e1.trans e2
      dsimp only [tSeq, tAsg, tLst, tCons]
      refine pick_at (xs := sts) (f := TN) a2 rfl rfl (e_is (e_cb (a_cons (e_var rfl) a_nil) c_lenL) (by rw [List.length_map])) (bx.ex e12) hne hz _ fun x hx v H3 g3 k3 a3 bx3 p3 => ?_
      refine ⟨by show 1 ≤ sizeLine; decide, fun l hln => ?_⟩
      dsimp only [gName]
      have hbl : b ≠ l := by
        obtain ⟨vs, hv⟩ := bx3.isL
        exact ne_of_none hv hln
      have e4 : Ex H3 (upd H3 l (.lst [v])) := Ex.new hln
      have a4 : At (b :: l :: S0) _ _ (upd H3 l (.lst [v])) := at_perm (swap2 l b S0) ((a3.hide e4 hln upd_same rfl).set (i := 4) (v := .ref l) (T := tv (.ref l)) rfl)
      have bx4 : BoxV (l :: S0) (upd H3 l (.lst [v])) b := bx3.hide e4 hln upd_same rfl
      have gr4 : Grow (b :: l :: S0) (upd H3 l (.lst [v])) l (([x] : List (List Int)).map TN) := grow_perm (swap2 l b S0) ⟨List.mem_cons_self, [v], upd_same, .cons ((TN x).mono (hide_ex e4 hln) p3) .nil⟩
      have gH : Go (b :: S0) H (upd H3 l (.lst [v])) := ((Go.of lv e12).trans g3).trans (.of g3.2 e4)
      have kH : ∀ c o, c ≠ b → H c = some o → (upd H3 l (.lst [v])) c = some o := fun c o hc hx => e4 _ _ (k3 c o hc (e12 _ _ hx))
      have hlH : H l = none := by
        cases z : H l with
        | none => rfl
        | some o =>
          rw [k3 l o hbl.symm (e12 _ _ z)] at hln
          cases hln
      refine q_for (S := b :: l :: S0) (n := 4) (i_rng (a_cons e_c a_nil) ⟨by decide, by decide⟩ (by rfl)) a4
        (fun i σ' H' => At (b :: l :: S0) [some (tv (.ref b)), some (dct (adjE f sts)), some (lst (sts.map TN)), some (lst (lively.map TN)), some (tv (.ref l)), none, none] σ' H' ∧ BoxV (l :: S0) H' b ∧ Go (b :: S0) H H' ∧ (∀ c o, c ≠ b → H c = some o → H' c = some o) ∧
          ∃ xs : List (List Int), xs.length = i + 1 ∧ (∀ x ∈ xs, x ∈ sts) ∧ Grow (b :: l :: S0) H' l (xs.map TN))
        (fun i σ' H' H5 e p => ⟨p.1.ex e, p.2.1.ex e, p.2.2.1.trans (.of p.2.2.1.2 e), fun c o hc hx => e _ _ (p.2.2.2.1 c o hc hx), let ⟨xs, h1, h2, h3⟩ := p.2.2.2.2; ⟨xs, h1, h2, h3.ex e⟩⟩)
        (fun H5 e5 => ⟨a4.ex e5, bx4.ex e5, gH.trans (.of gH.2 e5), fun c o hc hx => e5 _ _ (kH c o hc hx), [x], rfl, fun y hy => (List.mem_singleton.1 hy) ▸ hx, gr4.ex e5⟩) ?_ ?_
      · intro i v5 σ' H0 H' hi g0 g1 p1 p2
        obtain ⟨b1, b2, b3, b4, xs, lx, hxs, gx⟩ := p2
        have c1 := b1.set (i := 5) p1
        dsimp only [gName, tDrop, tBM]
        obtain ⟨v6, h6, h6'⟩ := c1.env 4 _ rfl
        have h6'' : v6 = .ref l := h6'
        subst h6''
        obtain ⟨_, vl, hv1, hv2⟩ := id gx
        refine ⟨.ref l, h6, .inl ⟨rfl, vl, sq_of hv1⟩, ?_⟩
        dsimp only [tCons]
        refine pick_at (xs := lively) (f := TN) c1 rfl rfl (e_is (e_cb (a_cons (e_var rfl) a_nil) c_lenL) (by rw [List.length_map])) b2 hlne (by omega) _ fun y hy v7 H7 g7 k7 c7 bx7 p7 => ?_
        have gx7 := grow_go gx g7 fun o hb => k7 l o hbl.symm hb
        obtain ⟨hlm', vl', hv1', hv2'⟩ := id gx7
        have hh : hid (b :: l :: S0) (upd H7 l (.lst (vl' ++ [v7]))) = hid (b :: l :: S0) H7 := hid_upd hlm'
        have gg : Go (b :: l :: S0) H7 (upd H7 l (.lst (vl' ++ [v7]))) := ⟨by rw [hh]; exact Ex.refl _, c7.live.upd rfl⟩
        have lvl := hv2'.len
        rw [List.length_map] at lvl
        refine ⟨l, vl', v7, rfl, rfl, hv1', sz_lt (by omega), ?_⟩
        refine ⟨(g0.trans g7).trans gg, (c7.go gg).le (le_cons (le_cons (le_cons (le_cons (le_cons (le_none (le_cons le_nil))))))), bx7.go gg fun o hb => by rw [upd_ne hbl]; exact hb, ?_, fun c o hc hx => ?_, xs ++ [y], by rw [List.length_append, lx]; rfl, fun z hz' => ?_, ⟨hlm', _, upd_same, ?_⟩⟩
        · refine ⟨fun c o hc => ?_, fun c hc => (c7.go gg).live c ((List.mem_cons.1 hc).elim (fun z => z ▸ List.mem_cons_self) fun z => List.mem_cons_of_mem _ (List.mem_cons_of_mem _ z))⟩
          obtain ⟨n1, n2⟩ := hid_some hc
          have ncl : c ≠ l := ne_of_none n2 hlH
          have ncb : c ≠ b := fun e => n1 (e ▸ List.mem_cons_self)
          rw [hid_of n1, upd_ne ncl]
          exact k7 c o ncb (b4 c o ncb n2)
        · have ncl : c ≠ l := ne_of_none hx hlH
          rw [upd_ne ncl]
          exact k7 c o hc (b4 c o hc hx)
        · rcases List.mem_append.1 hz' with hz' | hz'
          · exact hxs z hz'
          · rw [List.mem_singleton.1 hz']
            exact hlm y hy
        · rw [hh, List.map_append]
          exact hv2'.app (.cons p7 .nil)
      · intro σ' H' g' p
        obtain ⟨b1, b2, b3, b4, xs, lx, hxs, gx⟩ := p
        obtain ⟨v6, h6, h6'⟩ := b1.env 4 _ rfl
        have h6'' : v6 = .ref l := h6'
        subst h6''
        have lnS : l ∉ b :: S0 := fun z => (List.mem_cons.1 z).elim (fun e => hbl e.symm) (lv.free hlH |> fun n m => n (List.mem_cons_of_mem _ m))
        have fin := (grow_perm (swap2 b l S0) gx).done lnS
        exact ⟨.ref l, h6, q _ H' xs (fun e => by rw [e] at lx; cases lx) hxs (by omega) b3 b4 b2.show fin⟩
end
end WD

set_option Elab.async false
set_option linter.all false
set_option maxRecDepth 100000
set_option maxHeartbeats 3900000
namespace WM
def nsh (v : Nat) : Nat := [3, 3, 4, 4, 5].getD v 0
def lsh (v : Nat) : Nat := [3, 4, 2, 3, 2].getD v 0
theorem sh_cases {v : Nat} (h : v < 5) : 3 ≤ nsh v ∧ nsh v ≤ 5 ∧ 2 ≤ lsh v ∧ lsh v ≤ 4 ∧ nsh v * (lsh v - 1) ≤ lsh v ^ nsh v ∧ lsh v ^ nsh v ≤ 81 := by
  have z : v = 0 ∨ v = 1 ∨ v = 2 ∨ v = 3 ∨ v = 4 := by omega
  rcases z with z | z | z | z | z <;> subst z <;> decide
section
variable {l : Nat} {b : Int} {caps s t : List Int}
theorem win_bound (hn : nsh v0 = caps.length) (hl : lsh v0 = l) (hv : v0 < 5) (W : Win l b caps.length s) (V : Win l b caps.length t) : (gapL s t).toNat ≤ (stN l b caps.length).length ∧ gapL s t ≤ 2000 := by
  obtain ⟨h1, h2, h3, h4, h5, h6⟩ := sh_cases hv
  rw [hn, hl] at h5
  rw [hn] at h1 h2
  rw [hl] at h3 h4
  have g := gap_win (by omega) W V
  rw [stN_len]
  have e : ((caps.length : Nat) : Int) * ((l : Int) - 1) = ((caps.length * (l - 1) : Nat) : Int) := by
    rw [Int.natCast_mul, Int.natCast_sub (by omega)]
    rfl
  rw [e] at g
  have h7 : caps.length * (l - 1) ≤ 5 * 3 := Nat.mul_le_mul h2 (by omega)
  constructor
  · have : (gapL s t).toNat ≤ caps.length * (l - 1) := by omega
    omega
  · omega
/-- some state has a move -/
theorem lively (hn : 3 ≤ caps.length) (hc : CapsOk caps) (hl : 2 ≤ l) : ∃ x ∈ stN l b caps.length, succL caps x ≠ [] := by
  let x : List Int := (b + 1) :: List.replicate (caps.length - 1) b
  have hx : x.length = caps.length := by simp [x]; omega
  have g0 : gi x 0 = b + 1 := rfl
  have gs : ∀ i, 0 < i → i < caps.length → gi x i = b := fun i h0 hi => by
    obtain ⟨j, rfl⟩ : ∃ j, i = j + 1 := ⟨i - 1, by omega⟩
    show (List.replicate (caps.length - 1) b).getD j 0 = b
    rw [List.getD_eq_getElem?_getD, List.getElem?_replicate, if_pos (by omega)]
    rfl
  have W : Win l b caps.length x := ⟨hx, fun i hi => by
    by_cases e : i = 0
    · subst e
      rw [g0]
      omega
    · rw [gs i (by omega) hi]
      omega⟩
  refine ⟨x, mem_stN.mpr W, fun e => ?_⟩
  have hm : aftM x (0, false) ∈ succL caps x := mem_succL.mpr ⟨(0, false), by show 0 < caps.length; omega, by
    unfold okM sideM readyL ld
    rw [if_neg (Bool.false_ne_true)]
    have h1 : nxN caps.length 0 = 1 := by rw [nxN_eq (by omega), if_neg (by omega)]
    have h2 : gi x (nxN caps.length 0) = b := by rw [h1]; exact gs 1 (by omega) (by omega)
    have h3 := hc (gi caps 0) (gi_mem (by omega))
    show (decide (1 ≤ gi x 0 - gi x (nxN caps.length 0)) && decide (gi x 0 - gi x (nxN caps.length 0) ≤ gi caps 0)) = true
    rw [g0, h2]
    simp
    omega, rfl⟩
  rw [e] at hm
  cases hm
end
end WM
namespace WD
open PySem PySem.Spec PyProof.Rows L2 Evl WT WM WB L2H
section
variable {S0 : List Addr} {Γ : Cn} {σ : L2.St} {H H' : Hp} {D : Ends} {tl te : TE} {tz tu : TS} {T : Ty} {b : Addr} {K : PySem.W.Frag} {i j : Nat}
theorem q_take {n : Nat} (h : At (b :: S0) Γ σ H) (hb : Γ[i]? = some (some (tv (.ref b)))) (hl : EvP tl Γ (tI (n : Nat))) (bx : BoxV S0 H b) (h1 : 1 ≤ n) (h2 : n ≤ 10000)
    (k : ∀ (v : Nat) H', v < n → Go (b :: S0) H H' → (∀ c o, c ≠ b → H c = some o → H' c = some o) → At (b :: S0) (Γ.set j (some (tI (v : Nat)))) (σ.set j (some (.int (v : Nat)))) H' → BoxV S0 H' b → tz D (σ.set j (some (.int (v : Nat)))) H') :
    tSeq (tAsg (tCall SpTake [] C8.E0 (tCons (tVar i) (tCons tl tNil))) (gName j)) tz D σ H := take_at h hb hl bx h1 h2 _ fun v H' hv g k' a' bx' => k v H' hv g k' (a'.set rfl) bx'
theorem s_take {n : Nat} (h : At (b :: S0) Γ σ H) (hb : Γ[i]? = some (some (tv (.ref b)))) (hl : EvP tl Γ (tI (n : Nat))) (bx : BoxV S0 H b) (h1 : 1 ≤ n) (h2 : n ≤ 10000)
    (k : ∀ (v : Nat) H', v < n → Go (b :: S0) H H' → (∀ c o, c ≠ b → H c = some o → H' c = some o) → At (b :: S0) (Γ.set j (some (tI (v : Nat)))) (σ.set j (some (.int (v : Nat)))) H' → BoxV S0 H' b → D.nx (σ.set j (some (.int (v : Nat)))) H') :
    tAsg (tCall SpTake [] C8.E0 (tCons (tVar i) (tCons tl tNil))) (gName j) D σ H := take_at h hb hl bx h1 h2 _ fun v H' hv g k' a' bx' => k v H' hv g k' (a'.set rfl) bx'
theorem q_ifTake {n : Nat} (h : At (b :: S0) Γ σ H) (hb : Γ[i]? = some (some (tv (.ref b)))) (hl : EvP tl Γ (tI (n : Nat))) (bx : BoxV S0 H b) (h1 : 1 ≤ n) (h2 : n ≤ 10000)
    (k1 : ∀ H', Go (b :: S0) H H' → (∀ c o, c ≠ b → H c = some o → H' c = some o) → At (b :: S0) Γ σ H' → BoxV S0 H' b → tu { D with nx := tz D } σ H') (k2 : ∀ H', Go (b :: S0) H H' → (∀ c o, c ≠ b → H c = some o → H' c = some o) → At (b :: S0) Γ σ H' → BoxV S0 H' b → tz D σ H') :
    tSeq (tIfS (tTest (tOp rEq (tCall SpTake [] C8.E0 (tCons (tVar i) (tCons tl tNil))) (tC (.int 1)))) tu tNext) tz D σ H := take_at h hb hl bx h1 h2 _ fun v H' hv g k' a' bx' => by
  refine ⟨rfl, _, rfl, ?_⟩
  dsimp only
  by_cases e : decide (V.int ((v : Nat) : Int) = V.int 1) = true
  · rw [if_pos e]
    exact k1 H' g k' a' bx'
  · rw [if_neg e]
    exact k2 H' g k' a' bx'
theorem q_pick {α : Type} {xs : List α} {f : α → Ty} {m : Nat} (h : At (b :: S0) Γ σ H) (hb : Γ[i]? = some (some (tv (.ref b)))) (hx : Γ[m]? = some (some (lst (xs.map f)))) (hl : EvP tl Γ (tI (xs.length : Nat))) (bx : BoxV S0 H b) (h1 : xs ≠ []) (h2 : xs.length ≤ 10000)
    (k : ∀ x, x ∈ xs → ∀ v H', Go (b :: S0) H H' → (∀ c o, c ≠ b → H c = some o → H' c = some o) → At (b :: S0) (Γ.set j (some (f x))) (σ.set j (some v)) H' → BoxV S0 H' b → tz D (σ.set j (some v)) H') :
    tSeq (tAsg (tOp (rIxL K) (tVar m) (tCall SpTake [] C8.E0 (tCons (tVar i) (tCons tl tNil)))) (gName j)) tz D σ H := pick_at h hb hx hl bx h1 h2 _ fun x hx v H' g k' a' bx' p => k x hx v H' g k' (a'.set p) bx'
theorem s_pick {α : Type} {xs : List α} {f : α → Ty} {m : Nat} (h : At (b :: S0) Γ σ H) (hb : Γ[i]? = some (some (tv (.ref b)))) (hx : Γ[m]? = some (some (lst (xs.map f)))) (hl : EvP tl Γ (tI (xs.length : Nat))) (bx : BoxV S0 H b) (h1 : xs ≠ []) (h2 : xs.length ≤ 10000)
    (k : ∀ x, x ∈ xs → ∀ v H', Go (b :: S0) H H' → (∀ c o, c ≠ b → H c = some o → H' c = some o) → At (b :: S0) (Γ.set j (some (f x))) (σ.set j (some v)) H' → BoxV S0 H' b → D.nx (σ.set j (some v)) H') :
    tAsg (tOp (rIxL K) (tVar m) (tCall SpTake [] C8.E0 (tCons (tVar i) (tCons tl tNil)))) (gName j) D σ H := pick_at h hb hx hl bx h1 h2 _ fun x hx v H' g k' a' bx' p => k x hx v H' g k' (a'.set p) bx'
/-- if take(box, 2) == 1: base = take(box, 997) -/
theorem q_foot (h : At (b :: S0) Γ σ H) (hb : Γ[1]? = some (some (tv (.ref b)))) (h5 : Γ[5]? = some (some (tI ((0 : Nat) : Int)))) (bx : BoxV S0 H b)
    (k : ∀ (b0 : Nat) v H', b0 < 997 → At (b :: S0) (Γ.set 5 (some (tI (b0 : Nat)))) (σ.set 5 (some v)) H' → BoxV S0 H' b → tz D (σ.set 5 (some v)) H') :
    tSeq (tIfS (tTest (tOp rEq (tCall SpTake [] C8.E0 (tCons (tVar 1) (tCons (tC (.int 2)) tNil))) (tC (.int 1)))) (tAsg (tCall SpTake [] C8.E0 (tCons (tVar 1) (tCons (tC (.int 997)) tNil))) (gName 5)) tNext) tz D σ H :=
  q_ifTake (n := 2) h hb (e_c (x := .int ((2 : Nat) : Int))) bx (by decide) (by decide) (fun H' g k' a' bx' => s_take (n := 997) a' hb (e_c (x := .int ((997 : Nat) : Int))) bx' (by decide) (by decide) fun v H2 hv g2 k2 a2 bx2 => k v _ H2 hv a2 bx2) fun H' g k' a' bx' => by
    obtain ⟨u, hu, hu'⟩ := a'.env 5 _ h5
    have z := k 0 u H' (by decide)
    have e : σ.set 5 (some u) = σ := by
      apply List.ext_getElem?
      intro m
      by_cases q : 5 = m
      · subst q
        rw [List.getElem?_set_self (List.getElem?_eq_some_iff.mp hu).1, hu]
      · rw [List.getElem?_set_ne q]
    rw [e] at z
    exact z (a'.put hu hu') bx'
/-- if turn == 0: goal = states[take(box, len(states))] -/
theorem q_goal {sts : List (List Int)} {g0 : List Int} {m : Int} (h : At (b :: S0) Γ σ H) (hb : Γ[1]? = some (some (tv (.ref b)))) (h15 : Γ[15]? = some (some (TN g0))) (h17 : Γ[17]? = some (some (tI m))) (h9 : Γ[9]? = some (some (lst (sts.map TN)))) (hl : EvP tl Γ (tI (sts.length : Nat))) (bx : BoxV S0 H b) (hg : g0 ∈ sts) (h2 : sts.length ≤ 10000)
    (k : ∀ x, x ∈ sts → ∀ v H', Go (b :: S0) H H' → At (b :: S0) (Γ.set 15 (some (TN x))) (σ.set 15 (some v)) H' → BoxV S0 H' b → tz D (σ.set 15 (some v)) H') :
    tSeq (tIfS (tTest (tOp rEq (tVar 17) (tC (.int 0)))) (tAsg (tOp (rIxL K) (tVar 9) (tCall SpTake [] C8.E0 (tCons (tVar 1) (tCons tl tNil)))) (gName 15)) tNext) tz D σ H :=
  q_if (t_test (e_op (e_var h17) e_c (o_eq rfl))) h (fun _ H1 e1 a1 => s_pick a1 hb h9 hl (bx.ex e1) (fun e => by rw [e] at hg; cases hg) h2 fun x hx v H' g _ a' bx' => k x hx v H' ((Go.of h.live e1).trans g) a' bx') fun _ H1 e1 a1 => by
    obtain ⟨u, hu, hu'⟩ := a1.env 15 _ h15
    have z := k g0 hg u H1 (.of h.live e1)
    have e : σ.set 15 (some u) = σ := by
      apply List.ext_getElem?
      intro m
      by_cases q : 15 = m
      · subst q
        rw [List.getElem?_set_self (List.getElem?_eq_some_iff.mp hu).1, hu]
      · rw [List.getElem?_set_ne q]
    rw [e] at z
    exact z (a1.put hu hu') (bx.ex e1)
theorem q_starts {f : List Int → List (List Int)} {sts : List (List Int)} (h : At (b :: S0) Γ σ H) (hb : Γ[1]? = some (some (tv (.ref b)))) (hd : Γ[10]? = some (some (dct (adjE f sts)))) (hs : Γ[9]? = some (some (lst (sts.map TN)))) (bx : BoxV S0 H b) (h1 : sts ≠ []) (h2 : sts.length ≤ 10000) (h3 : 30 ≤ sts.length → ∃ s ∈ sts, f s ≠ [])
    (k : ∀ (xs : List (List Int)) v H', xs ≠ [] → (∀ x ∈ xs, x ∈ sts) → xs.length ≤ 10000 → Go (b :: S0) H H' → At (b :: S0) (Γ.set 12 (some (lst (xs.map TN)))) (σ.set 12 (some v)) H' → BoxV S0 H' b → tz D (σ.set 12 (some v)) H') :
    tSeq (tAsg (tCall SpStarts [] C8.E0 (tCons (tVar 1) (tCons (tVar 10) (tCons (tVar 9) tNil)))) (gName 12)) tz D σ H :=
  by
    dsimp only [tSeq, tAsg, tCall]
    refine (a_cons (e_var hb) (a_cons (e_var hd) (a_cons (e_var hs) a_nil))) (b :: S0) σ H h _ fun vs H1 e1 p1 => ?_
    cases p1 with
    | cons p r =>
      cases r with
      | cons p2 r =>
        cases r with
        | cons p3 r =>
          cases r
          refine ⟨S0, b, _, _, f, sts, ?_, bx.ex e1, p2, p3, h1, h2, h3, fun v H' xs x1 x2 x3 g _ bx' p4 => ?_⟩
          · rw [show _ = V.ref b from p]
            rfl
          · have g' := (Go.of h.live e1).trans g
            exact k xs v H' x1 x2 x3 g' ((h.go g').set p4) bx'
theorem q_blk {t : TS} {S : List Addr} {Γ' : Cn} (h : BlkN t Γ Γ') (a : At S Γ σ H) (k : ∀ σ' H', Ex H H' → At S Γ' σ' H' → tz D σ' H') : tSeq t tz D σ H := h S { D with nx := tz D } σ H a k
/-- rooms = [1 + take(box, 3) for _ in range(n)] -/
theorem q_rooms {n : Nat} (h : At (b :: S0) Γ σ H) (hb : Γ[1]? = some (some (tv (.ref b)))) (hn : Γ[3]? = some (some (tI (n : Nat)))) (hz : n ≤ 5) (bx : BoxV S0 H b)
    (k : ∀ (caps : List Int) v H', caps.length = n → (∀ c ∈ caps, 1 ≤ c ∧ c ≤ 3) → Go (b :: S0) H H' → (∀ c o, c ≠ b → H c = some o → H' c = some o) → At (b :: S0) (Γ.set 6 (some (lst (caps.map tI)))) (σ.set 6 (some v)) H' → BoxV S0 H' b → tz D (σ.set 6 (some v)) H') :
    tSeq (tAsg (tLc (iRng1 (tCons (tVar 3) tNil)) (gName 20) tYes (tOp (rI0 fun i j => .int (i + j)) (tC (.int 1)) (tCall SpTake [] C8.E0 (tCons (tVar 1) (tCons (tC (.int 3)) tNil)))) [20]) (gName 6)) tz D σ H := by
  obtain ⟨u3, h3, h3'⟩ := h.env 3 _ hn
  have h3'' : u3 = .int (n : Nat) := h3'
  subst h3''
  refine ⟨.int (n : Nat), h3, (n : Nat), rfl, by omega, by omega, fun l hl => ?_⟩
  have hbl : b ≠ l := by
    obtain ⟨vs, hv⟩ := bx.isL
    exact ne_of_none hv hl
  refine lc_range (lo := 0) (n := ((n : Nat) : Int).toNat) (fun i H' => At (b :: l :: S0) Γ σ H' ∧ BoxV (l :: S0) H' b ∧ Go (b :: S0) H H' ∧ (∀ c o, c ≠ b → H c = some o → H' c = some o) ∧ ∃ caps : List Int, caps.length = i ∧ (∀ c ∈ caps, 1 ≤ c ∧ c ≤ 3) ∧ H' l = some (.lst (caps.map V.int))) ?_ ?_ ?_
  · have e0 : Ex H (upd H l (.lst [])) := Ex.new hl
    exact ⟨at_perm (swap2 l b S0) (h.hide e0 hl upd_same rfl), bx.hide e0 hl upd_same rfl, .of h.live e0, fun c o _ hx => e0 _ _ hx, [], rfl, fun c hc => (by cases hc), upd_same⟩
  · intro i H1 hi p
    obtain ⟨p1, p2, p3, p4, caps, lc, hc, hlc⟩ := p
    have a2 := (p1.wipe [20]).set (i := 20) (v := .int ((0 : Int) + i)) (T := tI ((0 : Int) + i)) rfl
    refine ⟨wipe_back (by rw [List.length_set]) (fun j hj => List.getElem?_set_ne (fun e => hj (by rw [e]; exact List.mem_singleton.mpr rfl))) (fun j hj => hj), ?_⟩
    dsimp only [tYes]
    refine iteT ?_
    refine take_at (n := 3) (i := 1) a2 ?_ (e_c (x := .int ((3 : Nat) : Int))) p2 (by decide) (by decide) _ fun v H2 hv g2 k2 a3 bx2 => ?_
    · show (((Γ.set 20 none).set 20 _))[1]? = _
      rw [List.getElem?_set_ne (by decide), List.getElem?_set_ne (by decide)]
      exact hb
    · refine ⟨1, (v : Nat), rfl, rfl, caps.map V.int, k2 l _ hbl.symm hlc, sz_lt (by rw [List.length_map]; omega), ?_⟩
      have hml : l ∈ b :: l :: S0 := List.mem_cons_of_mem _ List.mem_cons_self
      have hh : hid (b :: l :: S0) (upd H2 l (.lst (caps.map V.int ++ [.int (1 + (v : Nat))]))) = hid (b :: l :: S0) H2 := hid_upd hml
      have gg : Go (b :: l :: S0) H2 (upd H2 l (.lst (caps.map V.int ++ [.int (1 + (v : Nat))]))) := ⟨by rw [hh]; exact Ex.refl _, a3.live.upd rfl⟩
      refine ⟨(p1.go g2).go gg, bx2.go gg fun o hb' => by rw [upd_ne hbl]; exact hb', ?_, fun c o hcb hx => ?_, caps ++ [1 + ((v : Nat) : Int)], by rw [List.length_append, lc]; rfl, fun c hc' => ?_, by rw [upd_same, List.map_append]; rfl⟩
      · refine ⟨fun c o hc' => ?_, fun c hc' => ((p1.go g2).go gg).live c ((List.mem_cons.1 hc').elim (fun z => z ▸ List.mem_cons_self) fun z => List.mem_cons_of_mem _ (List.mem_cons_of_mem _ z))⟩
        obtain ⟨n1, n2⟩ := hid_some hc'
        have ncl : c ≠ l := ne_of_none n2 hl
        have ncb : c ≠ b := fun e => n1 (e ▸ List.mem_cons_self)
        rw [hid_of n1, upd_ne ncl]
        exact k2 c o ncb (p4 c o ncb n2)
      · rw [upd_ne (ne_of_none hx hl)]
        exact k2 c o hcb (p4 c o hcb hx)
      · rcases List.mem_append.1 hc' with hc' | hc'
        · exact hc c hc'
        · rw [List.mem_singleton.1 hc']
          omega
  · intro H1 p
    obtain ⟨p1, p2, p3, p4, caps, lc, hc, hlc⟩ := p
    have lnS : l ∉ b :: S0 := fun z => (List.mem_cons.1 z).elim (fun e => hbl e.symm) (fun m => h.live.free hl (List.mem_cons_of_mem _ m))
    have a2 : At (b :: S0) Γ σ H1 := (at_perm (swap2 b l S0) p1).show
    exact k caps (.ref l) H1 (by omega) hc p3 p4 (a2.set ⟨l, _, rfl, by rw [hid_of lnS]; exact hlc, ti_ps caps⟩) p2.show
end
def spLaw (K : PySem.W.Frag) : Sp := fun vs H Q _ => ∃ (a : Addr) (ns : List Int), vs = [.ref a] ∧ SqL K H a (ns.map V.int) ∧ ∀ H', Q (.bl true) H'
def Sg__law_ring (CR : Addr) : Sig := fun Ts T => ∃ (caps : List Int), Ts = [lst (caps.map tI)] ∧ T = netT CR caps ∧ 3 ≤ caps.length ∧ caps.length ≤ 5 ∧ ∀ c ∈ caps, 1 ≤ c ∧ c ≤ 3
section
variable {w : World} {K : PySem.W.Frag} {mg : Str → Option Value} {base : Heap} {CR CN CU fU KA : Addr} {mc : Value}
theorem chT_range {caps : List Int} : chansT caps = (List.range caps.length).map (chT caps) := rfl
theorem ok_law (F : TopF K mg CR CN CU fU KA mc) (HO : CalH WE.PG w K mg base 7 "is_objection" (SpT (Sg_is_objection CR))) (HR : C8.Cal WE.PG w K mg base 8 "_law_ring" (SpT (Sg__law_ring CR)) []) {fL : Addr} {fdL : FuncData} (F1 : Fun K "law" "law" s_law fL fdL) :
    FnOk WE.PG w K mg base CX0 11 fL fdL ["_law_script"] (spLaw K) := by
  refine F1.ok (k := 10) sc_law (fun vs H Q E h => ?_) (fun cdv A outer s H vs Q E hr h => ?_)
  · obtain ⟨a, ns, rfl, _⟩ := h
    rfl
  · obtain ⟨sa, ns, rfl, hs, q⟩ := h
    refine ⟨_, (pss_cons (ps_set (i := 1) sc_law.nd rfl (Or.inr rfl) (C8.pe_c (cal__law_box F) hr (by decide) (by rfl) (pa_cons (pv 0) pa_nil)))
      (pss_cons (ps_set (i := 2) sc_law.nd rfl (Or.inl rfl) (C8.pe_c (cal__law_take F) hr (by decide) (by rfl) (pa_cons (pv 1) (pa_cons pe_int pa_nil))))
      (pss_cons (ps_set (i := 3) sc_law.nd rfl (Or.inr rfl) (pe_ix (kixL K) (pe_lst (pa_cons pe_int (pa_cons pe_int (pa_cons pe_int (pa_cons pe_int (pa_cons pe_int pa_nil)))))) (pv 2) (fun _ _ => rfl)))
      (pss_cons (ps_set (i := 4) sc_law.nd rfl (Or.inl rfl) (pe_ix (kixL K) (pe_lst (pa_cons pe_int (pa_cons pe_int (pa_cons pe_int (pa_cons pe_int (pa_cons pe_int pa_nil)))))) (pv 2) (fun _ _ => rfl)))
      (pss_cons (ps_set (i := 5) sc_law.nd rfl (Or.inl rfl) pe_int)
      (pss_cons (ps_if (pt_cmpR op_eq (C8.pe_c (cal__law_take F) hr (by decide) (by rfl) (pa_cons (pv 1) (pa_cons pe_int pa_nil))) pe_int (nomark _)) (pss_one (ps_set (i := 5) sc_law.nd rfl (Or.inl rfl) (C8.pe_c (cal__law_take F) hr (by decide) (by rfl) (pa_cons (pv 1) (pa_cons pe_int pa_nil))))) pss_nil)
      (pss_cons (ps_set (i := 6) sc_law.nd rfl (Or.inr rfl) (pe_lc (own := [("_law_k", 20)]) (g := gName 20) rfl sc_law.nd (pi_range1 rfl F.n_range (pa_cons (pv 3) pa_nil)) (blkOk_by (N := ["_law_script", "_law_box_here", "_law_shape", "_law_stages", "_law_levels", "_law_base", "_law_rooms", "_law_network", "_law_channels", "_law_states_here", "_law_roads_here", "_law_back", "_law_starts_here", "_law_start", "_law_far", "_law_goal", "_law_due", "_law_turn", "_law_met", "_law_left", "_law_k"]) (sc := defScope s_law) (by decide +kernel)) (fun _ _ _ _ _ => (pg_name (i := 20) sc_law.nd rfl (Or.inl rfl))) (fun _ _ _ _ _ => pts_nil) (fun _ _ _ _ _ => (pe_op op_add pe_int (C8.pe_c (cal__law_take F) hr (by decide) (by rfl) (pa_cons (pv 1) (pa_cons pe_int pa_nil)))))))
      (pss_cons (ps_set (i := 7) sc_law.nd rfl (Or.inl rfl) (C8.pe_c HR hr (by decide) (by rfl) (pa_cons (pv 6) pa_nil)))
      (pss_cons (ps_setLc (i := 8) (own := [("_law_k", 20)]) (g := gName 20) rfl sc_law.nd rfl rfl (sw_true rfl rfl rfl (by decide +kernel)) (pi_range1 rfl F.n_range (pa_cons (pv 3) pa_nil)) (blkOk_by (N := ["_law_script", "_law_box_here", "_law_shape", "_law_stages", "_law_levels", "_law_base", "_law_rooms", "_law_network", "_law_channels", "_law_states_here", "_law_roads_here", "_law_back", "_law_starts_here", "_law_start", "_law_far", "_law_goal", "_law_due", "_law_turn", "_law_met", "_law_left", "_law_k"]) (sc := defScope s_law) (by decide +kernel)) (fun _ _ _ _ _ => (pg_name (i := 20) sc_law.nd rfl (Or.inl rfl))) (fun _ _ _ _ _ => pts_nil) (fun _ _ _ _ _ => (pe_tup (pa_cons (pv 20) (pa_cons (pe_op op_mod (pe_callTy call_int1 (by rfl) F.n_int b_int (pa_cons (pe_op op_add (pv 20) pe_int) pa_nil)) (pv 3)) (pa_cons (pe_ix (kixL K) (pv 6) (pv 20) (fun _ _ => rfl)) pa_nil))))))
      (pss_cons (ps_set (i := 9) sc_law.nd rfl (Or.inl rfl) (C8.pe_c (cal__law_states F) hr (by decide) (by rfl) (pa_cons (pv 3) (pa_cons (pv 4) (pa_cons (pv 5) pa_nil)))))
      (pss_cons (ps_set (i := 10) sc_law.nd rfl (Or.inl rfl) (C8.pe_c (cal__law_roads F) hr (by decide) (by rfl) (pa_cons (pv 8) (pa_cons (pv 9) pa_nil))))
      (pss_cons (ps_set (i := 11) sc_law.nd rfl (Or.inl rfl) (C8.pe_c (cal__law_turned_round F) hr (by decide) (by rfl) (pa_cons (pv 10) pa_nil)))
      (pss_cons (ps_set (i := 12) sc_law.nd rfl (Or.inl rfl) (C8.pe_c (cal__law_starts F) hr (by decide) (by rfl) (pa_cons (pv 1) (pa_cons (pv 10) (pa_cons (pv 9) pa_nil)))))
      (pss_cons (ps_for PassesOwn.never rfl (kpiL K (pv 12)) (pg_name (i := 13) sc_law.nd rfl (Or.inl rfl)) (pss_cons (ps_set (i := 14) sc_law.nd rfl (Or.inr rfl) (C8.pe_c (cal__law_search F) hr (by decide) (by rfl) (pa_cons (pv 10) (pa_cons (pv 13) pa_nil))))
      (pss_one (ps_for PassesOwn.never rfl (kpiL K (pv 9)) (pg_name (i := 15) sc_law.nd rfl (Or.inl rfl)) (pss_cons (ps_set (i := 16) sc_law.nd rfl (Or.inl rfl) (pe_dget2 (hu_of hr) (pv 14) (pv 15) (pe_un un_neg pe_int) ⟨rfl, rfl, rfl, rfl⟩))
      (pss_cons (ps_if (pt_not (pt_val (C8.pe_c (cal__law_pair_holds F HO) hr (by decide) (by rfl) (pa_cons (pv 7) (pa_cons (pv 13) (pa_cons (pv 15) (pa_cons (pv 16) pa_nil))))))) (pss_one (ps_ret pe_bl)) pss_nil)
      (pss_one (ps_if (pt_not (pt_val (C8.pe_c (cal__law_objections_hold F) hr (by decide) (by rfl) (pa_cons (pv 7) (pa_cons (pv 13) (pa_cons (pv 15) (pa_cons (pe_cmpR op_ge (pv 16) pe_int (nomark _)) pa_nil))))))) (pss_one (ps_ret pe_bl)) pss_nil))))))))
      (pss_cons (ps_for PassesOwn.never rfl (pi_range1 rfl F.n_range (pa_cons pe_int pa_nil)) (pg_name (i := 17) sc_law.nd rfl (Or.inl rfl)) (pss_cons (ps_set (i := 13) sc_law.nd rfl (Or.inl rfl) (pe_ix (kixL K) (pv 12) (C8.pe_c (cal__law_take F) hr (by decide) (by rfl) (pa_cons (pv 1) (pa_cons (pe_callB (klen K) (by rfl) F.n_len b_len (pa_cons (pv 12) pa_nil)) pa_nil))) (fun _ _ => rfl)))
      (pss_cons (ps_set (i := 14) sc_law.nd rfl (Or.inr rfl) (C8.pe_c (cal__law_search F) hr (by decide) (by rfl) (pa_cons (pv 10) (pa_cons (pv 13) pa_nil))))
      (pss_cons (ps_setLc (i := 18) (own := [("_law_goal", 15)]) (g := gName 15) rfl sc_law.nd rfl rfl (sw_true rfl rfl rfl (by decide +kernel)) (kpiL K (pv 9)) (blkOk_by (N := ["_law_script", "_law_box_here", "_law_shape", "_law_stages", "_law_levels", "_law_base", "_law_rooms", "_law_network", "_law_channels", "_law_states_here", "_law_roads_here", "_law_back", "_law_starts_here", "_law_start", "_law_far", "_law_goal", "_law_due", "_law_turn", "_law_met", "_law_left", "_law_k"]) (sc := defScope s_law) (by decide +kernel)) (fun _ _ _ _ _ => (pg_name (i := 15) sc_law.nd rfl (Or.inl rfl))) (fun _ _ _ _ _ => (pts_one (pt_cmp (pc_din (hu_of hr) (pv 15) (pv 14))))) (fun _ _ _ _ _ => (pv 15)))
      (pss_cons (ps_set (i := 15) sc_law.nd rfl (Or.inl rfl) (pe_ix (kixL K) (pv 18) (C8.pe_c (cal__law_take F) hr (by decide) (by rfl) (pa_cons (pv 1) (pa_cons (pe_callB (klen K) (by rfl) F.n_len b_len (pa_cons (pv 18) pa_nil)) pa_nil))) (fun _ _ => rfl)))
      (pss_cons (ps_if (pt_cmpR op_eq (pv 17) pe_int (nomark _)) (pss_one (ps_set (i := 15) sc_law.nd rfl (Or.inl rfl) (pe_ix (kixL K) (pv 9) (C8.pe_c (cal__law_take F) hr (by decide) (by rfl) (pa_cons (pv 1) (pa_cons (pe_callB (klen K) (by rfl) F.n_len b_len (pa_cons (pv 9) pa_nil)) pa_nil))) (fun _ _ => rfl)))) pss_nil)
      (pss_cons (ps_set (i := 19) sc_law.nd rfl (Or.inl rfl) (C8.pe_c (cal__law_search F) hr (by decide) (by rfl) (pa_cons (pv 11) (pa_cons (pv 15) pa_nil))))
      (pss_one (ps_if (pt_not (pt_val (C8.pe_c (cal__law_plan_holds F) hr (by decide) (by rfl) (pa_cons (pv 7) (pa_cons (pv 8) (pa_cons (pv 19) (pa_cons (pv 13) (pa_cons (pv 15) (pa_cons (pe_dget2 (hu_of hr) (pv 14) (pv 15) (pe_un un_neg pe_int) ⟨rfl, rfl, rfl, rfl⟩) pa_nil))))))))) (pss_one (ps_ret pe_bl)) pss_nil)))))))))
      (pss_one (ps_ret pe_bl))))))))))))))))), ?_⟩
    have a : At [] (st0 ["_law_script", "_law_box_here", "_law_shape", "_law_stages", "_law_levels", "_law_base", "_law_rooms", "_law_network", "_law_channels", "_law_states_here", "_law_roads_here", "_law_back", "_law_starts_here", "_law_start", "_law_far", "_law_goal", "_law_due", "_law_turn", "_law_met", "_law_left", "_law_k"] [scr K ns])
        (L2.start ["_law_script", "_law_box_here", "_law_shape", "_law_stages", "_law_levels", "_law_base", "_law_rooms", "_law_network", "_law_channels", "_law_states_here", "_law_roads_here", "_law_back", "_law_starts_here", "_law_start", "_law_far", "_law_goal", "_law_due", "_law_turn", "_law_met", "_law_left", "_law_k"] [.ref sa]) H := at_start (fun b hb => (by cases hb)) (.cons ⟨sa, rfl, by rw [hid_nil]; exact hs⟩ .nil)
    refine ⟨.ref sa, rfl, sa, ns, rfl, hs, fun b H1 hb e1 bx1 => ?_⟩
    obtain ⟨bvs, hbv⟩ := bx1.isL
    have a1 := (a.hide e1 hb hbv rfl).set (i := 1) (v := .ref b) (T := tv (.ref b)) rfl
    refine q_take (n := 5) a1 rfl e_c bx1 (by decide) (by decide) fun v0 H2 hv0 g2 k2 a2 bx2 => ?_
    obtain ⟨hn3, hn5, hl2, hl4, _, h81⟩ := sh_cases hv0
    refine q_asg (T := tI (nsh v0 : Nat)) (e_op (e_lst (a_cons e_c (a_cons e_c (a_cons e_c (a_cons e_c (a_cons e_c a_nil))))) (show 5 ≤ 100000 by decide)) (e_var rfl) (o_ixL (Int.natCast_nonneg _) ?_)) a2 fun v3 H3 e3 a3 => ?_
    · have z : v0 = 0 ∨ v0 = 1 ∨ v0 = 2 ∨ v0 = 3 ∨ v0 = 4 := by omega
      rcases z with z | z | z | z | z <;> subst z <;> rfl
    refine q_asg (T := tI (lsh v0 : Nat)) (e_op (e_lst (a_cons e_c (a_cons e_c (a_cons e_c (a_cons e_c (a_cons e_c a_nil))))) (show 5 ≤ 100000 by decide)) (e_var rfl) (o_ixL (Int.natCast_nonneg _) ?_)) a3 fun v4 H4 e4 a4 => ?_
    · have z : v0 = 0 ∨ v0 = 1 ∨ v0 = 2 ∨ v0 = 3 ∨ v0 = 4 := by omega
      rcases z with z | z | z | z | z <;> subst z <;> rfl
    refine q_asg (T := tI ((0 : Nat) : Int)) (e_c (x := .int 0)) a4 fun v5 H5 e5 a5 => ?_
    have bx5 : BoxV [] H5 b := bx2.ex ((e3.trans e4).trans e5)
    refine q_foot a5 rfl rfl bx5 fun b0 vb H6 hb0 a6 bx6 => ?_
    refine q_rooms (n := nsh v0) a6 rfl rfl hn5 bx6 fun caps vr H7 hcl hcc g7 k7 a7 bx7 => ?_
    generalize hl : lsh v0 = l at a7 hl2 hl4 h81
    generalize hnn : nsh v0 = n at a7 hn3 hn5 h81 hcl
    subst hcl
    have hz : caps.length ≤ 100 := by omega
    have hc : CapsOk caps := fun v hv => (hcc v hv).1
    refine q_asg (T := netT CR caps) (e_call (Sg := Sg__law_ring CR) (a_cons (e_var rfl) a_nil) ⟨caps, rfl, rfl, hn3, hn5, hcc⟩) a7 fun v8 H8 e8 a8 => ?_
    refine q_asg (T := lst (chansT caps)) (e_is (e_lc (n := caps.length) (tf := fun i => tI (i : Nat)) (f := fun _ => true) (u := chT caps) (Γs := fun i => [some (scr K ns), some (tv (.ref b)), some (tI (v0 : Nat)), some (tI (caps.length : Nat)), some (tI (l : Nat)), some (tI (b0 : Nat)), some (lst (caps.map tI)), some (netT CR caps), none, none, none, none, none, none, none, none, none, none, none, none, some (tI (i : Nat))])
      (i_rng (a_cons (e_var rfl) a_nil) ⟨by omega, by omega⟩ (by simp)) (fun i hi => g_name) (by decide) (fun i hi => t_yes) (fun i hi _ => e_is (e_tup (a_cons (e_var rfl) (a_cons (e_op (e_cb (a_cons (e_op (e_var rfl) e_c o_I0) a_nil) c_int) (e_var (T := tI (caps.length : Nat)) rfl) (o_I (show (0 : Int) < ((caps.length : Nat) : Int) by omega))) (a_cons (e_op (e_var rfl) (e_var rfl) (o_ixNL hi)) a_nil))) (by simp)) ?_) (by omega)) (congrArg lst (given_all _ _))) a8 fun v9 H9 e9 a9 => ?_
    · have e : (((i : Nat) : Int) + 1) % ((caps.length : Nat) : Int) = ((nxN caps.length i : Nat) : Int) := by
        unfold nxN
        rw [Int.natCast_emod, Int.natCast_add]
        rfl
      show tup [tI (i : Nat), tI ((((i : Nat) : Int) + 1) % ((caps.length : Nat) : Int)), tI (gi caps i)] = chT caps i
      rw [e]
      rfl
    refine q_asg (e_call (a_cons (e_var rfl) (a_cons (e_var rfl) (a_cons (e_var rfl) a_nil))) ⟨caps.length, l, (b0 : Nat), rfl, rfl, hn5, hl4⟩) a9 fun v10 H10 e10 a10 => ?_
    have hnd := stN_nodup l (b0 : Nat) caps.length
    have hlen := stN_len l (b0 : Nat) caps.length
    have hmem : ∀ x, x ∈ stN l (b0 : Nat) caps.length ↔ Win l (b0 : Nat) caps.length x := fun x => mem_stN
    obtain ⟨xl, hxl, hxs⟩ := lively (b := (b0 : Nat)) hn3 hc hl2
    have hwb : ∀ {s t : List Int}, Win l (b0 : Nat) caps.length s → Win l (b0 : Nat) caps.length t → (gapL s t).toNat ≤ (stN l (b0 : Nat) caps.length).length ∧ gapL s t ≤ 2000 := fun W V => win_bound hnn hl hv0 W V
    generalize hst : stN l (b0 : Nat) caps.length = sts at a10 hnd hlen hmem hxl hwb
    have hs81 : sts.length ≤ 81 := by rw [hlen]; exact h81
    have hclo : ∀ x ∈ sts, ∀ y ∈ succL caps x, y ∈ sts := fun x hx y hy => by
      obtain ⟨m, m1, m2, rfl⟩ := mem_succL.mp hy
      exact (hmem _).mpr (win_step hn3 ((hmem x).mp hx) m1 m2)
    have hdeg : ∀ x ∈ sts, (succL caps x).length ≤ 100 := fun x hx => by
      unfold succL
      rw [List.length_map]
      have z := List.length_filter_le (okM caps x) (movesL caps.length)
      rw [movesL_len] at z
      omega
    have hinr : ∀ x ∈ sts, InR x := fun x hx i hi => by
      have W := (hmem x).mp hx
      have z := W.rng i (by rw [← W.len]; exact hi)
      omega
    refine q_asg (e_call (a_cons (e_var rfl) (a_cons (e_var rfl) a_nil)) ⟨caps, sts, rfl, rfl, hn3, hz, hnd, by omega, fun x hx => ((hmem x).mp hx).len⟩) a10 fun v11 H11 e11 a11 => ?_
    refine q_asg (e_call (a_cons (e_var rfl) a_nil) ⟨succL caps, sts, rfl, rfl, hnd, by omega, hclo, hdeg⟩) a11 fun v12 H12 e12 a12 => ?_
    have bx12 : BoxV [] H12 b := bx7.ex ((((e8.trans e9).trans e10).trans e11).trans e12)
    refine q_starts (f := succL caps) (sts := sts) a12 rfl rfl rfl bx12 (fun e => by rw [e] at hxl; cases hxl) (by omega) (fun _ => ⟨xl, hxl, hxs⟩) fun xs v13 H13 hx1 hx2 hx3 g13 a13 bx13 => ?_
    -- what the search finds
    have hfar : ∀ s ∈ sts, ∀ t ∈ sts, (lkp (srch (succL caps) s sts.length).1 t).getD (-1) = dueOf caps s t := fun s hs t ht => by
      have Ws := (hmem s).mp hs
      have Wt := (hmem t).mp ht
      have A := fwd_dist hn3 hc Ws
      have hN : ∀ x d, fwdD l (b0 : Nat) caps s x d → d ≤ sts.length := fun x d h => by
        have z := (hwb Ws h.1).1
        have := h.2.2
        omega
      unfold dueOf
      cases hf : freeB caps s t with
      | true =>
        have nn := gapL_nn s t
        rw [(srch_far A hN t (gapL s t)).mpr ⟨(gapL s t).toNat, ⟨Wt, freeB_iff.mp hf, by omega⟩, by omega⟩, if_pos rfl]
        rfl
      | false =>
        cases e : lkp (srch (succL caps) s sts.length).1 t with
        | none => rfl
        | some v =>
          obtain ⟨d, hd, _⟩ := (srch_far A hN t v).mp e
          have := freeB_iff.mpr hd.2.1
          rw [hf] at this
          cases this
    have hSh : ∀ s ∈ sts, ∀ t ∈ sts, Shape caps s t := fun s hs t ht => win_shape hn3 ((hmem s).mp hs) ((hmem t).mp ht)
    -- every start, every goal
    refine q_blk (Γ' := [some (scr K ns), some (tv (.ref b)), some (tI (v0 : Nat)), some (tI (caps.length : Nat)), some (tI (l : Nat)), some (tI (b0 : Nat)), some (lst (caps.map tI)), some (netT CR caps), some (lst (chansT caps)), some (lst (sts.map TN)), some (dct (adjE (succL caps) sts)), some (dct (adjE (predL (succL caps) sts) sts)), some (lst (xs.map TN)), none, none, none, none, none, none, none, none])
      (n_for (n := xs.length) (tf := fun i => TN (xs.getD i [])) (Γs := fun _ => [some (scr K ns), some (tv (.ref b)), some (tI (v0 : Nat)), some (tI (caps.length : Nat)), some (tI (l : Nat)), some (tI (b0 : Nat)), some (lst (caps.map tI)), some (netT CR caps), some (lst (chansT caps)), some (lst (sts.map TN)), some (dct (adjE (succL caps) sts)), some (dct (adjE (predL (succL caps) sts) sts)), some (lst (xs.map TN)), none, none, none, none, none, none, none, none])
        (Γt := fun i => [some (scr K ns), some (tv (.ref b)), some (tI (v0 : Nat)), some (tI (caps.length : Nat)), some (tI (l : Nat)), some (tI (b0 : Nat)), some (lst (caps.map tI)), some (netT CR caps), some (lst (chansT caps)), some (lst (sts.map TN)), some (dct (adjE (succL caps) sts)), some (dct (adjE (predL (succL caps) sts) sts)), some (lst (xs.map TN)), some (TN (xs.getD i [])), none, none, none, none, none, none, none])
        (i_list (e_var rfl) (by simp) fun i hi => list_at hi) (Le.refl _) (fun i hi => g_name) (fun i hi => ?_)) a13 fun σ14 H14 e14 a14 => ?_
    · have hsi : xs.getD i [] ∈ sts := hx2 _ (by rw [List.getD_eq_getElem?_getD, List.getElem?_eq_getElem hi]; exact List.getElem_mem hi)
      generalize xs.getD i [] = s at hsi
      refine n_le (Γ' := [some (scr K ns), some (tv (.ref b)), some (tI (v0 : Nat)), some (tI (caps.length : Nat)), some (tI (l : Nat)), some (tI (b0 : Nat)), some (lst (caps.map tI)), some (netT CR caps), some (lst (chansT caps)), some (lst (sts.map TN)), some (dct (adjE (succL caps) sts)), some (dct (adjE (predL (succL caps) sts) sts)), some (lst (xs.map TN)), some (TN s), some (dct (farE (srch (succL caps) s sts.length).1)), none, none, none, none, none, none]) ?_
        (le_cons (le_cons (le_cons (le_cons (le_cons (le_cons (le_cons (le_cons (le_cons (le_cons (le_cons (le_cons (le_cons (le_none (le_none (le_cons (le_cons (le_cons (le_cons (le_cons (le_cons le_nil)))))))))))))))))))))
      refine n_seq (n_asg (e_call (a_cons (e_var rfl) (a_cons (e_var rfl) a_nil)) ⟨succL caps, sts, s, rfl, rfl, hsi, hclo, by omega⟩)) ?_
      refine n_for (n := sts.length) (tf := fun i => TN (sts.getD i [])) (Γs := fun _ => [some (scr K ns), some (tv (.ref b)), some (tI (v0 : Nat)), some (tI (caps.length : Nat)), some (tI (l : Nat)), some (tI (b0 : Nat)), some (lst (caps.map tI)), some (netT CR caps), some (lst (chansT caps)), some (lst (sts.map TN)), some (dct (adjE (succL caps) sts)), some (dct (adjE (predL (succL caps) sts) sts)), some (lst (xs.map TN)), some (TN s), some (dct (farE (srch (succL caps) s sts.length).1)), none, none, none, none, none, none])
        (Γt := fun i => [some (scr K ns), some (tv (.ref b)), some (tI (v0 : Nat)), some (tI (caps.length : Nat)), some (tI (l : Nat)), some (tI (b0 : Nat)), some (lst (caps.map tI)), some (netT CR caps), some (lst (chansT caps)), some (lst (sts.map TN)), some (dct (adjE (succL caps) sts)), some (dct (adjE (predL (succL caps) sts) sts)), some (lst (xs.map TN)), some (TN s), some (dct (farE (srch (succL caps) s sts.length).1)), some (TN (sts.getD i [])), none, none, none, none, none])
        (i_list (e_var rfl) (by simp) fun i hi => list_at hi) (Le.refl _) (fun i hi => g_name) (fun j hj => ?_)
      have htj : sts.getD j [] ∈ sts := by rw [List.getD_eq_getElem?_getD, List.getElem?_eq_getElem hj]; exact List.getElem_mem hj
      generalize sts.getD j [] = t at htj
      have Sh := hSh s hsi t htj
      refine n_le (Γ' := [some (scr K ns), some (tv (.ref b)), some (tI (v0 : Nat)), some (tI (caps.length : Nat)), some (tI (l : Nat)), some (tI (b0 : Nat)), some (lst (caps.map tI)), some (netT CR caps), some (lst (chansT caps)), some (lst (sts.map TN)), some (dct (adjE (succL caps) sts)), some (dct (adjE (predL (succL caps) sts) sts)), some (lst (xs.map TN)), some (TN s), some (dct (farE (srch (succL caps) s sts.length).1)), some (TN t), some (tI (dueOf caps s t)), none, none, none, none]) ?_
        (le_cons (le_cons (le_cons (le_cons (le_cons (le_cons (le_cons (le_cons (le_cons (le_cons (le_cons (le_cons (le_cons (le_cons (le_cons (le_none (le_none (le_cons (le_cons (le_cons (le_cons le_nil)))))))))))))))))))))
      refine n_seq (n_asg (T := tI (dueOf caps s t)) (e_is (e_dget2 (e_var rfl) (e_var rfl) (e_neg e_c)) (congrArg (fun z : Int => tI z) (hfar s hsi t htj)))) ?_
      refine n_seq (n_no (t_is (t_not (t_B (e_call (a_cons (e_var rfl) (a_cons (e_var rfl) (a_cons (e_var rfl) (a_cons (e_var rfl) a_nil)))) ⟨caps, s, t, rfl, rfl, Sh, hz, hinr s hsi, hinr t htj⟩))) rfl)) ?_
      refine n_no (t_is (t_not (t_B (e_call (a_cons (e_var rfl) (a_cons (e_var rfl) (a_cons (e_var rfl) (a_cons (e_is (e_op (e_var (T := tI (dueOf caps s t)) rfl) e_c o_I0) (U := tL (freeB caps s t)) ?_) a_nil)))) ⟨caps, s, t, rfl, rfl, Sh, hz, hinr s hsi, hinr t htj⟩))) rfl)
      have nn := gapL_nn s t
      refine congrArg tL ?_
      unfold dueOf
      cases freeB caps s t with
      | true => rw [if_pos rfl]; exact decide_eq_true nn
      | false => rw [if_neg (Bool.false_ne_true)]; rfl
    -- four pairs for plans
    have bx14 : BoxV [] H14 b := bx13.ex e14
    refine q_for (n := 4) (i_rng (a_cons e_c a_nil) ⟨by decide, by decide⟩ rfl) a14 (fun _ σ' H' => At [b] [some (scr K ns), some (tv (.ref b)), some (tI (v0 : Nat)), some (tI (caps.length : Nat)), some (tI (l : Nat)), some (tI (b0 : Nat)), some (lst (caps.map tI)), some (netT CR caps), some (lst (chansT caps)), some (lst (sts.map TN)), some (dct (adjE (succL caps) sts)), some (dct (adjE (predL (succL caps) sts) sts)), some (lst (xs.map TN)), none, none, none, none, none, none, none, none] σ' H' ∧ BoxV [] H' b)
      (fun i σ' H' H2 e p => ⟨p.1.ex e, p.2.ex e⟩) (fun H1 e1 => ⟨a14.ex e1, bx14.ex e1⟩) ?_ (fun σ' H' _ p => s_ret e_c p.1 fun v H2 e2 p2 => by rw [show v = V.bl true from p2]; exact q H2)
    intro i vt σ' H0 H' hi g0 g1 p1 p2
    obtain ⟨b1, b2⟩ := p2
    have c1 := b1.set (i := 17) p1
    refine q_pick (xs := xs) (f := TN) c1 rfl rfl (e_is (e_cb (a_cons (e_var rfl) a_nil) c_lenL) (by rw [List.length_map])) b2 hx1 hx3 fun s hsx vs H15 g15 _ c2 bx15 => ?_
    have hs := hx2 s hsx
    refine q_asg (e_call (a_cons (e_var rfl) (a_cons (e_var rfl) a_nil)) ⟨succL caps, sts, s, rfl, rfl, hs, hclo, by omega⟩) c2 fun v16 H16 e16 c3 => ?_
    refine q_asg (T := lst ((sts.filter fun t => (lkp (srch (succL caps) s sts.length).1 t).isSome).map TN)) (e_is (e_lc (n := sts.length) (f := fun i => (lkp (srch (succL caps) s sts.length).1 (sts.getD i [])).isSome) (u := fun i => TN (sts.getD i [])) (tf := fun i => TN (sts.getD i []))
      (Γs := fun i => [some (scr K ns), some (tv (.ref b)), some (tI (v0 : Nat)), some (tI (caps.length : Nat)), some (tI (l : Nat)), some (tI (b0 : Nat)), some (lst (caps.map tI)), some (netT CR caps), some (lst (chansT caps)), some (lst (sts.map TN)), some (dct (adjE (succL caps) sts)), some (dct (adjE (predL (succL caps) sts) sts)), some (lst (xs.map TN)), some (TN s), some (dct (farE (srch (succL caps) s sts.length).1)), some (TN (sts.getD i [])), none, _, none, none, none])
      (i_list (e_var rfl) (by simp) fun i hi => list_at hi) (fun i hi => g_name) (by decide) (fun i hi => t_is (t_din (e_var rfl) (e_var rfl)) (by rw [farE_look, Option.isSome_map])) (fun i hi _ => e_var rfl) (by omega))
      (congrArg lst (given_list sts [] (fun t => (lkp (srch (succL caps) s sts.length).1 t).isSome) TN))) c3 fun v17 H17 e17 c4 => ?_
    have hml := List.length_filter_le (fun t => (lkp (srch (succL caps) s sts.length).1 t).isSome) sts
    have hmne : (sts.filter fun t => (lkp (srch (succL caps) s sts.length).1 t).isSome) ≠ [] := fun e => by
      have Ws := (hmem s).mp hs
      have hN : ∀ x d, fwdD l (b0 : Nat) caps s x d → d ≤ sts.length := fun x d h => by
        have z := (hwb Ws h.1).1
        have := h.2.2
        omega
      have z : s ∈ sts.filter fun t => (lkp (srch (succL caps) s sts.length).1 t).isSome := List.mem_filter.mpr ⟨hs, by
        rw [(srch_far (fwd_dist hn3 hc Ws) hN s 0).mpr ⟨0, ⟨Ws, free_self (hSh s hs s hs), by rw [gapL_self]; rfl⟩, rfl⟩]
        rfl⟩
      rw [e] at z
      cases z
    refine q_pick (xs := sts.filter fun t => (lkp (srch (succL caps) s sts.length).1 t).isSome) (f := TN) c4 rfl rfl (e_is (e_cb (a_cons (e_var rfl) a_nil) c_lenL) (by rw [List.length_map])) (bx15.ex (e16.trans e17)) hmne (by omega) fun t0 ht0 v18 H18 g18 _ c5 bx18 => ?_
    refine q_goal (sts := sts) c5 rfl rfl rfl rfl (e_is (e_cb (a_cons (e_var rfl) a_nil) c_lenL) (by rw [List.length_map])) bx18 (List.mem_filter.mp ht0).1 (by omega) fun t ht v19 H19 g19 c6 bx19 => ?_
    have hclo2 : ∀ x ∈ sts, ∀ y ∈ predL (succL caps) sts x, y ∈ sts := fun x hx y hy => (mem_predL.mp hy).1
    refine q_asg (e_call (a_cons (e_var rfl) (a_cons (e_var rfl) a_nil)) ⟨predL (succL caps) sts, sts, t, rfl, rfl, ht, hclo2, by omega⟩) c6 fun v20 H20 e20 c7 => ?_
    have Ws := (hmem s).mp hs
    have Wt := (hmem t).mp ht
    have hbw : ∀ x e, lkp (srch (predL (succL caps) sts) t sts.length).1 x = some e ↔ ∃ d : Nat, bwdD l (b0 : Nat) caps t x d ∧ e = d := fun x e => by
      refine srch_far (bwd_dist (back := predL (succL caps) sts) hn3 hc Wt fun x y hx => ?_) (fun x d h => ?_) x e
      · rw [mem_predL, hmem]
        exact ⟨fun z => ⟨z.1, mem_succL.mp z.2⟩, fun z => ⟨z.1, mem_succL.mpr z.2⟩⟩
      · have z := (hwb h.1 Wt).1
        have := h.2.2
        omega
    refine s_no (t_is (t_not (t_B (e_call (a_cons (e_var rfl) (a_cons (e_var rfl) (a_cons (e_var rfl) (a_cons (e_var rfl) (a_cons (e_var rfl) (a_cons (e_is (e_dget2 (e_var rfl) (e_var rfl) (e_neg e_c)) (congrArg (fun z : Int => tI z) (hfar s hs t ht))) a_nil)))))) ⟨caps, s, t, _, l, (b0 : Nat), rfl, rfl, hSh s hs t ht, hz, hinr s hs, hinr t ht, hc, (hwb Ws Wt).2, Ws, Wt, hbw⟩))) rfl) c7 fun H21 e21 c8 => ?_
    refine ⟨?_, c8.le ?_, bx19.ex (e20.trans e21)⟩
    · have ga := (g0.trans g15).trans (.of g15.2 (e16.trans e17))
      exact ((ga.trans g18).trans g19).trans (.of g19.2 (e20.trans e21))
    · exact le_cons (le_cons (le_cons (le_cons (le_cons (le_cons (le_cons (le_cons (le_cons (le_cons (le_cons (le_cons (le_cons (le_none (le_none (le_none (le_cons (le_none (le_none (le_none (le_cons le_nil))))))))))))))))))))
end
end WD

set_option Elab.async false
set_option linter.all false
set_option maxRecDepth 90000
set_option maxHeartbeats 3000000
/-! Where an exception is handled: the ends of iterators, loops and comprehensions, tuple targets, min and max. -/
namespace WHt
open PySem PySem.Spec PyProof.Rows L2 L2H HotX
/-- an iterator class whose next rises through a list or a tuple -/
structure Riser (T id : String) : Prop where
  slot : Slot T "__next__" id
  code : ∃ b, entryFor table id = some b ∧ (b = Builtin.«list_iterator.__next__» ∨ b = Builtin.«tuple_iterator.__next__»)
  arg : ∀ v, argsOk id ⟨[v], []⟩
theorem riserL : Riser "list_iterator" "list_iterator.__next__" := ⟨slot_listiter_next, ⟨_, entry_listiter_next, .inl rfl⟩, args_listiter_next⟩
theorem riserT : Riser "tuple_iterator" "tuple_iterator.__next__" := ⟨F.slot_tuple_iterator_next, ⟨_, F.entry_tuple_iterator_next, .inr rfl⟩, F.args_tuple_iterator_next_1⟩
/-- the iterator at it stands at i of the items at l -/
def Rises (T : String) (h : Heap) (it l : Addr) (i : Nat) (items : Array Value) : Prop :=
  (∃ o, h.get? it = some o ∧ o.cls = .type T ∧ o.data = .fields #[.ref l, .int i 0]) ∧ ∃ p n, h.get? l = some p ∧ p.data = .seq items n
/-- what stood in h stands in h', and e is a StopIteration there -/
def Stopped (h h' : Heap) (it e : Addr) : Prop := Heap.ExtBut it h h' ∧ ∃ o, h'.get? e = some o ∧ o.cls = .type "StopIteration"
section
variable {prog : Program} {w : World} {A : Around} {E : Value → Shared → Prop} {s : Shared} {x1 it l : Addr} {T id : String} {i : Nat} {items : Array Value}
theorem hot_kept {x1 : Addr} {h h' : Heap} (hot : HotAt A x1 h) (k : ∀ o, h.get? x1 = some o → h'.get? x1 = some o) : HotAt A x1 h' := by
  obtain ⟨hh, o, vs, e, d, c⟩ := hot
  exact ⟨hh, o, vs, k o e, d, c⟩
theorem hot_at_one (hot : HotAt A x1 s.heap) : x1 < s.heap.objs.size := by
  obtain ⟨_, _, _, e, _⟩ := hot
  exact Heap.lt_size e
/-- StopIteration comes while x1 is handled: a new tuple, a new exception, whose context is x1 -/
theorem stop_hot {α : Type} {Q : α → Shared → Prop} (hot : HotAt A x1 s.heap)
    (hE : ∀ h' e, (∀ b o, s.heap.get? b = some o → h'.get? b = some o) → (∃ o, h'.get? e = some o ∧ o.cls = .type "StopIteration") → E (.ref e) { s with heap := h' }) :
    wpAny (model prog w) A (Builtin.SmallTypes.stopIteration : Sem α) Q E s := by
  have two : ∀ (o1 o2 : Obj) (b : Addr) (o : Obj), s.heap.get? b = some o → ((s.heap.push o1).push o2).get? b = some o := fun o1 o2 b o e => Heap.get?_push_of_some _ (Heap.get?_push_of_some _ e)
  simp only [Builtin.SmallTypes.stopIteration, newExc, newTuple]
  refine wpAny_bind (wpAny_bind (wpAny_newObj_type (wpAny_bind (m := firstArgMember _ _) (wpAny_of_eq (a := Value.none) rfl (wpAny_newObj_type (raiseNew_hot (x1 := x1) (hot_kept hot (two _ _ x1)) ?ne (Heap.get?_push_size _ rfl) rfl ?two ?out) ?sz))) ?sy))
  case sy => size_fits
  case ne => exact Nat.ne_of_lt (Nat.lt_of_lt_of_le (hot_at_one hot) (by rw [Heap.size_push]; exact Nat.le_succ _))
  case two => exact (by decide : 2 < 6)
  case sz => size_fits
  case out =>
    refine hE _ _ (fun b o e => ?_) ⟨_, Heap.get?_update_self _ (Heap.get?_push_size _ rfl) rfl, rfl⟩
    exact (Heap.get?_update_other _ _ (Nat.ne_of_gt (Heap.lt_size (Heap.get?_push_of_some _ e)))).trans (two _ _ b o e)
/-- the last call of next, behind the last item -/
theorem last_hot (R : Riser T id) (hot : HotAt A x1 s.heap) (hne : x1 ≠ it) (z : Rises T s.heap it l i items) (hx : items.size ≤ i) {Q : Option Value → Shared → Prop}
    (hE : ∀ h' e, Stopped s.heap h' it e → E (.ref e) { s with heap := h' }) : wpAny (model prog w) A (callSpecial? (.ref it) "__next__") Q E s := by
  obtain ⟨⟨o, ho, hc, hd⟩, p, n, hp, hq⟩ := z
  obtain ⟨b, hb, which⟩ := R.code
  have none_ : items[i]? = none := by simpa using hx
  have off : ∀ h' e, (∀ b o', (s.heap.update it (Obj.mapFields (·.setIfInBounds 0 .none))).get? b = some o' → h'.get? b = some o') → (∃ o, h'.get? e = some o ∧ o.cls = .type "StopIteration") → E (.ref e) { s with heap := h' } :=
    fun h' e k y => hE h' e ⟨fun b o' hb e' => k b o' ((Heap.get?_update_other _ _ (Ne.symm hb)).trans e'), y⟩
  refine wpAny_callSpecial?_slot ⟨o, ho, hc⟩ R.slot (wpAny_call_entry R.slot ⟨o, ho, hc⟩ hb ?_ (R.arg _))
  rcases which with rfl | rfl
  all_goals
    refine wpAny_bind (m := field (.ref it) 0) (wpAny_field ho hd (x := .ref l) rfl (wpAny_bind (m := field (.ref it) 1) (wpAny_field ho hd (x := .int i 0) rfl (wpAny_bind (m := seqItems? (.ref l)) (wpAny_seqItems hp hq ?_)))))
    simp only [Int.toNat_natCast, none_]
    exact wpAny_bind (wpAny_rule (wpAny_bind (wpAny_setField ho hd Nat.two_pos (stop_hot (hot_kept hot fun o' e => (Heap.get?_update_other _ _ (Ne.symm hne)).trans e) off))))
theorem next_end_hot (R : Riser T id) (hot : HotAt A x1 s.heap) (hne : x1 ≠ it) (z : Rises T s.heap it l i items) (hx : items.size ≤ i) {Q : Option Value → Shared → Prop}
    (hQ : ∀ h', Heap.ExtBut it s.heap h' → Q none { s with heap := h' }) : wpAny (model prog w) A (pyNext (.ref it)) Q E s :=
  wpAny_bind (wpAny_attempt (last_hot R hot hne z hx fun h' _ y => wpAny_bind (wpAny_isInstance (T := "StopIteration") (b := true) y.2 isSubtype_stop (wpAny_pure (hQ h' y.1)))))
theorem rises_list (hit : s.heap.IsListIter it l i) (hl : s.heap.IsList l items) : Rises "list_iterator" s.heap it l i items :=
  let ⟨p, g, _, n, d⟩ := hl
  ⟨hit, p, n, g, d⟩
theorem rises_tup (hit : s.heap.IsTupleIter it l i) (hl : s.heap.IsTuple l items) : Rises "tuple_iterator" s.heap it l i items :=
  let ⟨p, g, _, n, d⟩ := hl
  ⟨hit, p, n, g, d⟩
/-- an iterator over the tuple at l, x1 still the exception that is handled -/
structure TupAt (A : Around) (it l x1 : Addr) (items : Array Value) (i : Nat) (h : Heap) : Prop where
  ti : h.IsTupleIter it l i
  tu : h.IsTuple l items
  hot : HotAt A x1 h
theorem TupAt.kept {h h' : Heap} (z : TupAt A it l x1 items i h) (k : ∀ b ∈ [it, l, x1], ∀ o, h.get? b = some o → h'.get? b = some o) : TupAt A it l x1 items i h' :=
  ⟨z.ti.at (k it (by simp)), z.tu.at (k l (by simp)), hot_kept z.hot (k x1 (by simp))⟩
theorem TupAt.over {h h' : Heap} (z : TupAt A it l x1 items i h) (hl : l ≠ it) (hx : x1 ≠ it) (t : h'.IsTupleIter it l (i + 1)) (sb : Heap.SameBut it h h') : TupAt A it l x1 items (i + 1) h' :=
  ⟨t, z.tu.extBut sb.extBut hl, hot_kept z.hot fun o => sb.extBut x1 o hx⟩
theorem drawsTupHot (hl : l ≠ it) (hx : x1 ≠ it) : Draws prog w A it [it, l, x1] items.size (fun j v => items[j]? = some v) (TupAt A it l x1 items) := by
  refine ⟨fun _ _ z => let ⟨o, g, _⟩ := z.ti; ⟨o, g⟩, fun _ _ _ z k => z.kept k, fun j s Q E lt z q => ?_, fun s Q E z q => ?_⟩
  · have at_ := Array.getElem?_eq_getElem lt
    exact wpAny_nextOf_tuple_item z.ti z.tu at_ fun h' t sb => q _ h' s.toks at_ (z.over hl hx t sb) sb
  · exact wpAny_bind (last_hot riserT z.hot hx (rises_tup z.ti z.tu) (Nat.le_refl _) fun h' e y => q h' e y.1 y.2)
theorem walksTupHot (hl : l ≠ it) (hx : x1 ≠ it) : Walks prog w A it [it, l, x1] [it] items.size (fun j v => items[j]? = some v) (TupAt A it l x1 items) := by
  have one : ∀ {h h' : Heap}, Heap.ExtBut it h h' → ∀ b o, b ∉ [it] → h.get? b = some o → h'.get? b = some o := fun k b o nb => k b o (by simpa using nb)
  refine ⟨fun b hb => by simp_all, fun _ _ _ z k => z.kept k, fun j s Q E lt z q => ?_, fun s Q E z q => ?_, fun _ _ _ _ z => wpAny_pyIter_tupleiter z.ti⟩
  · have at_ := Array.getElem?_eq_getElem lt
    exact wpAny_pyNext_tuple_item z.ti z.tu at_ fun h' t sb => q _ h' s.toks at_ (z.over hl hx t sb) (one sb.extBut)
  · exact next_end_hot riserT z.hot hx (rises_tup z.ti z.tu) (Nat.le_refl _) fun h' k => q h' s.toks (one k)
/-- a, b, .. = t: the tuple is drawn to its end and asked once more -/
theorem unpack_hot {t : Addr} {Q : List Value → Shared → Prop} (hot : HotAt A x1 s.heap) (ht : IsTup s.heap t items)
    (q : ∀ h', Heap.ExtBut s.heap.objs.size s.heap h' → Q items.toList { s with heap := h' }) : wpAny (model prog w) A (unpackItems (.ref t) items.size none) Q E s := by
  have old : t ≠ s.heap.objs.size := Nat.ne_of_lt ht.lt
  have hx := Nat.ne_of_lt (hot_at_one hot)
  have all : (items.toList.drop 0).take items.size = items.toList := List.take_of_length_le (Nat.le_of_eq (Array.length_toList ..))
  have drawn : wpAny (model prog w) A (draw (.ref s.heap.objs.size) items.size) (fun r s' => r = items.toList ∧ ∃ h', s' = { s with heap := h' } ∧ TupAt A s.heap.objs.size t x1 items items.size h' ∧ Heap.ExtBut s.heap.objs.size s.heap h') E
      { s with heap := s.heap.push { cls := .type "tuple_iterator", data := .fields #[.ref t, .int 0 0] } } := by
    refine draw_tuple old items.size 0 _ _ ⟨_, Heap.get?_push_size _ rfl, rfl, rfl⟩ (ht.push _) (Nat.le_of_eq (Nat.zero_add _)) fun h' z sb => ?_
    have k : Heap.ExtBut s.heap.objs.size s.heap h' := fun b o nb g => sb.extBut b o nb (Heap.get?_push_of_some _ g)
    exact ⟨all, h', rfl, ⟨Nat.zero_add items.size ▸ z, ht.extBut k old, hot_kept hot fun o => k x1 o hx⟩, k⟩
  refine wpAny_bind (wpAny_bind (wpAny_specialOf ht.typeIs slot_tuple_iter.lookup (wpAny_pure (wpAny_bind (wpAny_holding (iter_tuple ht (wpAny_bind (wpAny_holding (thn drawn ?_)))))))))
  rintro _ _ ⟨rfl, h1, rfl, z, k⟩
  rw [if_neg (by simp)]
  exact wpAny_bind (wpAny_holding (next_end_hot riserT z.hot hx (rises_tup z.ti z.tu) (Nat.le_refl _) fun h2 k2 => wpAny_pure (q h2 fun b o nb g => k2 b o nb (k b o nb g))))
theorem asgTup_hot {env : PySem.Env} {elts : List Expr} {k : Nat} {pos : Pos} {t : Addr} {Q : Unit → Shared → Prop} (hot : HotAt A x1 s.heap) (ht : IsTup s.heap t items)
    (few : (assignEach elts env).length = items.size) (nostar : (assignEach elts env).findIdx? (fun y => y.1) = none)
    (q : ∀ h', Heap.ExtBut s.heap.objs.size s.heap h' → wpAny (model prog w) A (assignInOrder ((assignEach elts env).map fun y => y.2) items.toList) Q E { s with heap := h' }) :
    wpAny (model prog w) A (assign (.Tuple elts k pos) env (.ref t)) Q E s := by
  rw [assign_Tuple]
  have z : wpAny (model prog w) A (unpack (.ref t) (assignEach elts env)) Q E s := by
    rw [unpack, few, nostar]
    exact wpAny_bind (wpAny_holding (unpack_hot hot ht q))
  exact wpAny_bind (wpAny_standAt z)
end
/-! ### rules -/
theorem hot_at {X : Cx} {pins : List (Addr × Obj)} {σ : L2.St} {H : Hp} {s : Shared} (c : HotC X) (I : Inv X pins σ H s) : ∃ x1, HotAt X.A x1 s.heap ∧ ∀ b, FpOk X pins H b → x1 ≠ b := by
  rcases c with ⟨p, ⟨hh, v1, e1, c1⟩, hp⟩
  have P := List.mem_append_left pins hp
  exact ⟨p.1, ⟨hh, p.2, v1, (I.pin p P).1, e1, c1⟩, fun b f => f.2.2.2.2.2 p P⟩
section
variable {X : Cx} {pos : Pos}
theorem pg_tupH {es : List Expr} {k : Nat} {t : TGs} {n : Nat} (K : PySem.W.Frag) (hc : HotC X) (h : PGs X es t)
    (hn : (assignEach es X.env).length = n := by rfl) (hst : (assignEach es X.env).findIdx? (fun y => y.1) = none := by rfl) (hK : X.K = K := by rfl) : PG X (.Tuple es k pos) (gTup K n t) := by
  subst hK
  constructor
  rintro pins s σ H v u Q I r ⟨a, xs, rfl, hq, hl, q⟩
  cases r
  obtain ⟨its, rv, ht, -⟩ := I.tuple hq
  obtain ⟨x1, hot, -⟩ := hot_at hc I
  refine asgTup_hot hot ht (by rw [hn, ← hl, rv.length, List.size_toArray]) hst fun h' k => ?_
  have J : Inv X pins σ H { s with heap := h' } := I.kept (t' := s.toks) fun b o g => k b o (Nat.ne_of_lt (Heap.lt_size g)) g
  exact h.run pins _ σ H xs _ Q J (by rw [List.toList_toArray]; exact rv) q
/-! #### lists and tuples in a for -/
/-- what is asked of an iterator of a list or a tuple at a -/
structure SeqIt (P : Program) (w : World) (K : PySem.W.Frag) (a it : Addr) (J : It) (T id : String) (tn : Nat → Heap → Prop) (Sq : Heap → Array Value → Prop) : Prop where
  riser : Riser T id
  at_ : ∀ {i h}, tn i h ↔ ∃ o, h.get? it = some o ∧ o.cls = .type T ∧ o.data = .fields #[.ref a, .int i 0]
  rise : ∀ {i : Nat} {s : Shared} {items}, tn i s.heap → Sq s.heap items → Rises T s.heap it a i items
  item : ∀ {A : Around} {E : Value → Shared → Prop} {i : Nat} {s : Shared} {items u} {Q : Option Value → Shared → Prop}, tn i s.heap → Sq s.heap items → items[i]? = some u →
    (∀ h', tn (i + 1) h' → Heap.SameBut it s.heap h' → Q (some u) { s with heap := h' }) → wpAny (model P w) A (pyNext (.ref it)) Q E s
  self : ∀ {A : Around} {E : Value → Shared → Prop} {i : Nat} {s : Shared} {Q : Value → Shared → Prop}, tn i s.heap → Q (.ref it) s → wpAny (model P w) A (pyIter (.ref it)) Q E s
  go : ∀ {A : Around} {E : Value → Shared → Prop} {i : Nat} {s : Shared} {tg : Expr} {u : Value} {Q : Unit → Shared → Prop}, tn i s.heap → Q () s → wpAny (model P w) A (letOwnedTupleGo tg (.ref it) u) Q E s
  more : ∀ {X : Cx} {pins σ H s i}, X.prog = P → X.w = w → X.K = K → Inv X pins σ H s → J.go i H → ∃ items x u, Sq s.heap items ∧ items[i]? = some u ∧ RelV x u ∧ J.yld i H x H
  over : ∀ {X : Cx} {pins σ H s i}, X.prog = P → X.w = w → X.K = K → Inv X pins σ H s → J.stop i H → ∃ items, Sq s.heap items ∧ items.size ≤ i
theorem SeqIt.turn {P : Program} {w : World} {K : PySem.W.Frag} {a it : Addr} {J : It} {T id : String} {tn : Nat → Heap → Prop} {Sq : Heap → Array Value → Prop} {tg : Expr} (S : SeqIt P w K a it J T id tn Sq) : TurnH P w K tg J [it] it tn where
  mem := List.mem_singleton.mpr rfl
  obj i h z := List.forall_mem_singleton.mpr (let ⟨o, g, _, d⟩ := S.at_.mp z; ⟨o, g, fun v y => nomatch d.symm.trans y⟩)
  keep i h h' z k := let ⟨o, g, r⟩ := S.at_.mp z; S.at_.mpr ⟨o, k it (List.mem_singleton.mpr rfl) o g, r⟩
  item := by
    rintro X rfl rfl hK hc i pins s σ H E I f z g
    obtain ⟨items, x, u, sq, hu, ru, y⟩ := S.more rfl rfl hK I g
    have fi := f it (List.mem_singleton.mpr rfl)
    refine S.item z sq hu fun h' z' sb => ⟨u, rfl, S.go (s := { s with heap := h' }) z' ⟨x, H, ?_, ru, y, z', fun b hb => (f b hb).1⟩⟩
    exact I.turned (t' := s.toks) sb.extBut fi.1 fi.2.1 fi.2.2.2.1 fi.2.2.2.2.1 fi.2.2.2.2.2
  done := by
    rintro X rfl rfl hK hc i pins s σ H E I f z g
    obtain ⟨items, sq, le⟩ := S.over rfl rfl hK I g
    obtain ⟨x1, hot, ne⟩ := hot_at hc I
    have fi := f it (List.mem_singleton.mpr rfl)
    exact next_end_hot S.riser hot (ne it fi) (S.rise z sq) le fun h' k => ⟨rfl, I.turned (t' := s.toks) k fi.1 fi.2.1 fi.2.2.2.1 fi.2.2.2.2.1 fi.2.2.2.2.2⟩
  self _ _ _ _ _ z := S.self z
theorem seqT {P : Program} {w : World} {K : PySem.W.Frag} (a it : Addr) : SeqIt P w K a it (Itt K a) "tuple_iterator" "tuple_iterator.__next__" (fun i h => h.IsTupleIter it a i) (fun h v => h.IsTuple a v) where
  riser := riserT
  at_ := Iff.rfl
  rise := rises_tup
  item := wpAny_pyNext_tuple_item
  self := wpAny_pyIter_tupleiter
  go z q := let ⟨_, g, c, d⟩ := z; go_of g c d (by decide) q
  more := by
    rintro X pins σ H s i rfl rfl rfl I ⟨xs, x, hq, hx⟩
    obtain ⟨its, rv, p, -⟩ := I.tuple hq
    obtain ⟨u, hu⟩ := rv.get hx
    exact ⟨_, x, u, p, List.getElem?_toArray.trans hu.1, hu.2, rfl, fun ys hy => (I.tuple_inj hy hq).symm ▸ hx⟩
  over := by
    rintro X pins σ H s i rfl rfl rfl I ⟨xs, hq, le⟩
    obtain ⟨its, rv, p, -⟩ := I.tuple hq
    exact ⟨_, p, by rw [List.size_toArray, ← rv.length]; exact le⟩
theorem seqL {P : Program} {w : World} {K : PySem.W.Frag} (a it : Addr) : SeqIt P w K a it (Itl K a) "list_iterator" "list_iterator.__next__" (fun i h => h.IsListIter it a i) (fun h v => h.IsList a v) where
  riser := riserL
  at_ := Iff.rfl
  rise := rises_list
  item := wpAny_pyNext_list_item
  self := wpAny_pyIter_listiter
  go z q := let ⟨_, g, c, d⟩ := z; go_of g c d (by decide) q
  more := by
    rintro X pins σ H s i rfl rfl rfl I ⟨xs, x, hq, hx⟩
    obtain ⟨its, rv, p, -⟩ := I.list hq
    obtain ⟨u, hu⟩ := rv.get hx
    exact ⟨_, x, u, p.isList, List.getElem?_toArray.trans hu.1, hu.2, rfl, fun ys hy => (I.list_inj hy hq).symm ▸ hx⟩
  over := by
    rintro X pins σ H s i rfl rfl rfl I ⟨xs, hq, le⟩
    obtain ⟨its, rv, p, -⟩ := I.list hq
    exact ⟨_, p.isList, by rw [List.size_toArray, ← rv.length]; exact le⟩
variable {tg e l : Expr} {tl : TE} {ta : TA}
theorem piLH (K : PySem.W.Frag) (hl : PE X l tl) (hK : X.K = K := by rfl) : PIH X tg l (iList K tl) := by
  subst hK
  constructor
  intro pins s σ H R I h
  refine thn (hl.run pins s σ H _ I h) ?_
  rintro v s1 ⟨x, H1, J, r, a, rfl, ⟨xs, hq⟩, q⟩
  cases r
  obtain ⟨its, -, p, -⟩ := J.list hq
  refine wpAny_pyIter_list p.isList ⟨_, _, _, _, H1, rfl, J.kept (t' := s1.toks) fun _ _ => Heap.get?_push_of_some _, (seqL a _).turn, ⟨_, Heap.get?_push_size _ rfl, rfl, rfl⟩, List.forall_mem_singleton.mpr (J.fpOk (Nat.le_refl _) (J.hok.fresh (Nat.le_refl _))), q⟩
theorem piTH (K : PySem.W.Frag) (hl : PE X l tl) (hK : X.K = K := by rfl) : PIH X tg l (iTup K tl) := by
  subst hK
  constructor
  intro pins s σ H R I h
  refine thn (hl.run pins s σ H _ I h) ?_
  rintro v s1 ⟨x, H1, J, r, a, rfl, ⟨xs, hq⟩, q⟩
  cases r
  obtain ⟨its, -, p, -⟩ := J.tuple hq
  refine wpAny_pyIter_tuple p ⟨_, _, _, _, H1, rfl, J.kept (t' := s1.toks) fun _ _ => Heap.get?_push_of_some _, (seqT a _).turn, ⟨_, Heap.get?_push_size _ rfl, rfl, rfl⟩, List.forall_mem_singleton.mpr (J.fpOk (Nat.le_refl _) (J.hok.fresh (Nat.le_refl _))), q⟩
theorem turn_enumH {P : Program} {w : World} {K : PySem.W.Frag} {elts : List Expr} {kk : Nat} {tpos : Pos} (a e it : Addr) : TurnH P w K (.Tuple elts kk tpos) (WR.IteT K a) [e, it] e (WR.EnAt a e it) := by
  have D : ∀ {X : Cx} {pins σ H s i}, HotC X → Inv X pins σ H s → (∀ b ∈ [e, it], FpOk X pins H b) → WR.EnAt a e it i s.heap → WR.Drawn X s a e it i := fun {X _ _ _ s _} hc I f z its p => by
    obtain ⟨x1, hot, ne⟩ := hot_at hc I
    have n1 := ne it (f it (by simp))
    have n2 := ne e (f e (by simp))
    exact ⟨_, _, drawsTupHot (A := X.A.in1) (x1 := x1) z.ai n1, ⟨z.ti, p, hot⟩, by simp [z.ei, z.ea, n2.symm], fun _ k => k.ti⟩
  refine ⟨List.mem_cons_self, fun _ _ z => z.has, fun _ _ _ z k => z.kept k, ?_, ?_, fun _ _ _ _ _ z q => let ⟨_, p⟩ := z.en; wpAny_pyIter_enum p q⟩
  · rintro X rfl rfl rfl hc i pins s σ H E I f z g
    exact WR.enum_go z (D hc I f z) I f g
  · rintro X rfl rfl rfl hc i pins s σ H E I f z g
    exact WR.enum_end z (D hc I f z) I f g
theorem piEnH (K : PySem.W.Frag) {p pos tpos : Pos} {elts : List Expr} {kk : Nat} (hg : Gl X "enumerate") (hm : X.mg "enumerate" = none) (ha : PA X [e] ta) (hs : starEach [e] X.env = [(false, eval e X.env)] := by rfl) (hK : X.K = K := by rfl) :
    PIH X (.Tuple elts kk tpos) (.Call (.Name "enumerate" p) [e] [] pos) (WR.iEnumT K ta) := by
  subst hK
  refine ⟨fun _ _ _ _ _ I h => thn (WR.enum_made hg hm ha hs I h) ?_⟩
  rintro _ s1 ⟨a, e, it, H1, rfl, J, z, f, q⟩
  obtain ⟨_, en⟩ := z.en
  exact wpAny_pyIter_enum en ⟨e, [e, it], _, _, H1, rfl, J, turn_enumH a e it, z, f, q⟩
end
end WHt

set_option Elab.async false
set_option linter.all false
set_option maxRecDepth 100000
set_option maxHeartbeats 3900000
namespace WHt
open PySem PyProof.Rows PySem.Spec L2 HotX
open L2H (HotC TurnH PIH PIEH FnH RoomH)
/-- a comprehension's block, the exception that is handled still told -/
abbrev blkH (X : Cx) (s : Shared) (H : Hp) (scope : Scope) (cenv : PySem.Env) (fp : List Addr) : Cx := (X.blk s H scope cenv fp).tr X.pn fun _ _ => False
section
variable {X : Cx} {σ : L2.St} {H : Hp} {s : Shared} {pins : List (Addr × Obj)}
/-- the context in which the block's loop runs: the scope's cells laid, the block's own frame behind them -/
abbrev cenvOf (X : Cx) (s : Shared) (scope : Scope) : PySem.Env := compEnvC scope (cellsFrom (s.heap.objs.size + 1) scope.names (cloFrom X.env.cells scope.names [])) s.heap.objs.size X.env
abbrev laidOf (s : Shared) (scope : Scope) : Shared := { s with heap := pushCells (s.heap.push { cls := .type "dict", data := .dict #[] }) scope.names }
theorem startH {scope : Scope} {own : List (Str × Nat)} {fp : List Addr} (I : Inv X pins σ H s) (ok : BlkOk X.N X.env.scope scope own) (hN : X.N.Nodup) (hf : ∀ b ∈ fp, FpOk X pins H b ∧ b < s.heap.objs.size) :
    Inv (blkH X s H scope (cenvOf X s scope) fp) [] (wipe σ (own.map (·.2))) H (laidOf s scope) :=
  ((block_start I ok hN hf).pins_of (pins' := X.pn) fun p hp => by
    obtain ⟨h1, h2, h3, h4, h5⟩ := I.pin p (List.mem_append_left _ hp)
    exact ⟨pushCells_keeps _ _ _ _ (Heap.get?_push_of_some _ h1), h2, Nat.ne_of_lt (Heap.lt_size h1), fun hm => (List.mem_cons.1 (I.stkSub p.1 hm)).elim h3 h4, h5⟩).toTry fun _ _ => False
/-- i turns are done, n bounds what is left -/
def At_ (Y : Cx) (τ : L2.St) (fp : List Addr) (tn : Nat → Heap → Prop) (W : Nat → Nat → Hp → Prop) (n : Nat) (s : Shared) : Prop := ∃ i H, Inv Y [] τ H s ∧ tn i s.heap ∧ (∀ b ∈ fp, H b = none) ∧ W i n H
/-- one turn of a hot comprehension's loop -/
theorem turnC {Y : Cx} {tg elt : Expr} {ifs : List Expr} {J : It} {fp : List Addr} {it D : Addr} {tn : Nat → Heap → Prop} {W : Nat → Nat → Hp → Prop} {τ : L2.St} {vs : List Nat} {σ0 : L2.St} {g : TG} {tt : TT} {te : TE} {Q : VK} {R : Shared → Prop} {E : Value → Shared → Prop}
    (hc : HotC Y) (T : TurnH Y.prog Y.w Y.K tg J fp it tn) (hx : Y.xe = fun _ _ => False) (hτ : τ = wipe σ0 vs)
    (stat : ∀ H', (∀ b ∈ fp, H' b = none) → ∀ b ∈ fp, FpOk Y [] H' b) (pg : PG Y tg g) (pt : PTs Y ifs tt) (pe : PE Y elt te)
    (step : ∀ i m H, W i m H → (J.stop i H ∧ Q (.ref D) H) ∨ (J.go i H ∧ ∃ Nx : Hp → Prop, (∀ H', Nx H' → ∃ m', m' < m ∧ W (i + 1) m' H') ∧ ∀ x H', J.yld i H x H' → g x (wipe σ0 vs) H' fun σ2 H2 => wipe σ2 vs = wipe σ0 vs ∧ tt σ2 H2 fun b H3 =>
      if b = true then te σ2 H3 fun y H4 => ∃ acc, H4 D = some (.lst acc) ∧ acc.length < sizeLine ∧ Nx (upd H4 D (.lst (acc ++ [y]))) else Nx H3))
    (fin : ∀ H' s', Inv Y [] τ H' s' → Q (.ref D) H' → R s') (n : Nat) (s5 : Shared) (hI : At_ Y τ fp tn W n s5) :
    wpAny (model Y.prog Y.w) Y.A (pyNext (.ref it)) (fun r s₁ => match r with
      | none => R s₁
      | some v => wpAny (model Y.prog Y.w) Y.A (letOwnedTupleGo tg (.ref it) v) (fun _ s₁' => wpAny (model Y.prog Y.w) Y.A (assign tg Y.env v) (fun _ s₂ =>
          wpAny (model Y.prog Y.w) Y.A (forIn ifs true fun c r => if r = true then do let ok ← isTrue c Y.env (eval c Y.env); pure (ForInStep.yield ok) else pure (ForInStep.yield r)) (fun ok s₃ =>
            if ok = true then wpAny (model Y.prog Y.w) Y.A (eval elt Y.env) (fun x s₄ =>
              wpAny (model Y.prog Y.w) Y.A (call (.builtin "list.append") [.ref D, x]) (fun _ s₅ => ∃ m, m < n ∧ At_ Y τ fp tn W m s₅) E s₄) E s₃
            else ∃ m, m < n ∧ At_ Y τ fp tn W m s₃) E s₂) E s₁') E s₁) E s5 := by
  obtain ⟨i, H5, I5, t5, z5, w5⟩ := hI
  have up : ∀ {α : Type} {t : Sem α} {P P' : α → Shared → Prop} {s : Shared}, wpAny (model Y.prog Y.w) Y.A t P Y.xe s → (∀ a s, P a s → P' a s) → wpAny (model Y.prog Y.w) Y.A t P' E s := fun h k => wpAny_mono h k fun _ _ z => by
    rw [hx] at z
    exact z.elim
  rcases step i n H5 w5 with ⟨hs, q⟩ | ⟨hg, Nx, next, yes⟩
  · refine up (T.done Y rfl rfl rfl hc i [] s5 _ H5 Y.xe I5 (stat H5 z5) t5 hs) fun r s6 a => ?_
    obtain ⟨rfl, I6⟩ := a
    exact fin H5 s6 I6 q
  · refine up (T.item Y rfl rfl rfl hc i [] s5 _ H5 Y.xe I5 (stat H5 z5) t5 hg) fun r s6 a => ?_
    obtain ⟨u, rfl, h6⟩ := a
    refine up h6 fun _ s7 a => ?_
    obtain ⟨x, H7, I7, r7, y7, t7, z7⟩ := a
    subst hτ
    refine up (pg.run _ s7 _ H7 x u _ (I7.pinned (stat H7 z7) (T.obj _ _ t7)) r7 (yes x H7 y7)) fun _ s8 a => ?_
    obtain ⟨σ8, H8, I8, e8, q8⟩ := a
    refine up (pt.run _ s8 σ8 H8 _ I8 q8) fun b s9 a => ?_
    obtain ⟨H9, I9, q9⟩ := a
    have over : ∀ {s' : Shared} {H' : Hp}, Inv Y ([] ++ pinsAt fp s7.heap) σ8 H' s' → Nx H' → ∃ m, m < n ∧ At_ Y (wipe σ0 vs) fp tn W m s' := by
      intro s' H' I' nx
      obtain ⟨m, hm, w'⟩ := next H' nx
      have still : ∀ b ∈ fp, ∀ o, s7.heap.get? b = some o → s'.heap.get? b = some o ∧ H' b = none := fun b hb o e => by
        have z := I'.pin (b, o) (by simp only [List.nil_append]; exact List.mem_append_right _ (mem_pinsAt hb e))
        exact ⟨z.1, z.2.1⟩
      refine ⟨m, hm, i + 1, H', (I'.unpinned (pins := [])).weak ?_ ?_, T.keep _ _ _ t7 fun b hb o e => (still b hb o e).1, fun b hb => ?_, w'⟩
      · rw [← e8, wipe_length]
      · intro j v e
        rw [← e8] at e
        exact (wipe_some e).1
      · obtain ⟨o, e, _⟩ := T.obj _ _ t7 b hb
        exact (still b hb o e).2
    cases b
    · exact over I9 q9
    · refine up (pe.run _ s9 σ8 H9 _ I9 q9) fun z s10 a => ?_
      obtain ⟨yv, H10, I10, r10, acc, hD, hz, nx⟩ := a
      exact app_ok I10 hD hz r10 fun s11 I11 => over I11 nx
end
/-- one for in the brackets -/
abbrev lcE (elt tg iter : Expr) (ifs : List Expr) (scope : Scope) (pos : Pos) : Expr := .ListComp elt [⟨tg, iter, ifs, 0⟩] scope pos
section
variable {X : Cx}
/-- [elt for target in iter if ..] where an exception is handled -/
theorem lcH {elt tg iter : Expr} {ifs : List Expr} {scope : Scope} {own : List (Str × Nat)} {pos pos' : Pos} {wi : TI} {g : TG} {tt : TT} {te : TE} {use : Option (Value → Sem Unit)} {Qf : Value → Shared → Prop} {pins : List (Addr × Obj)} {s : Shared} {σ : L2.St} {H : Hp} {Q : VK}
    (hc : HotC X) (hN : X.N.Nodup) (I : Inv X pins σ H s) (hi : PIH X tg iter wi) (ok : BlkOk X.N X.env.scope scope own)
    (hg : ∀ (s : Shared) (H : Hp) (C : Addr) (cl : List (Str × Addr)) (fp : List Addr), PG (blkH X s H scope (compEnvC scope cl C X.env) fp) tg g) (ht : ∀ (s : Shared) (H : Hp) (C : Addr) (cl : List (Str × Addr)) (fp : List Addr), PTs (blkH X s H scope (compEnvC scope cl C X.env) fp) ifs tt)
    (he : ∀ (s : Shared) (H : Hp) (C : Addr) (cl : List (Str × Addr)) (fp : List Addr), PE (blkH X s H scope (compEnvC scope cl C X.env) fp) elt te) (hs : ∀ x, foldedSetIterable iter X.env x = pure x) (h : tLc wi g tt te (own.map (·.2)) σ H Q)
    (out : ∀ D C s' m H', Inv X pins σ H' s' → Q (.ref D) H' → s'.heap.Ns C m → FpOk X pins H' C → compPost (model X.prog X.w) X.A X.xe use Qf (.ref D) C (.ok .next) s') :
    wpAny (model X.prog X.w) X.A (comprehension (lcE elt tg iter ifs scope pos) scope X.env pos' (newList []) false (eval iter X.env) use) Qf X.xe s := by
  have hclo : closureFor scope X.env = pure (cloFrom X.env.cells scope.names []) := closure_ok fun y hy e => (ok.free y hy e).elim (fun k => I.ok.has _ (.inl k)) fun k => I.ok.has _ (.inr k)
  refine wpAny_comprehension_free (use := use) rfl hs hclo ok.kind (fun y hy e => by rw [ok.uniq y hy, e]) (thn (hi.run pins s σ H _ I h) fun xv s1 hx => thn hx fun itv s2 h2 => ?_)
  obtain ⟨it, fp, tn, J, H2, rfl, I2, T, t2, f2, q⟩ := h2
  refine wpAny_newObj_type (newEnv_comp ?_) (Nat.zero_le sizeLine)
  have hsz : ∀ b ∈ fp, b < s2.heap.objs.size := fun b hb => let ⟨_, e, _⟩ := T.obj _ _ t2 b hb; Heap.lt_size e
  generalize hD : s2.heap.objs.size = D at hsz
  obtain ⟨W, ⟨m0, w0⟩, step⟩ := q D (I2.hok.fresh (Nat.le_of_eq hD))
  generalize hs3 : ({ s2 with heap := s2.heap.push { cls := .type "list", data := .seq (List.toArray (α := Value) []) } } : Shared) = s3
  have p3 : ∀ b o, s2.heap.get? b = some o → s3.heap.get? b = some o := fun b o e => by rw [← hs3]; exact Heap.get?_push_of_some _ e
  have I3 : Inv X pins σ (upd H2 D (HO.lst [])) s3 := by
    subst hs3
    exact I2.laid (t' := s2.toks) p3 (Nat.le_of_eq hD) ⟨Nat.zero_le _, [], 0, .nil, by subst hD; exact Heap.get?_push_size _ rfl⟩
  have s3sz : s3.heap.objs.size = D + 1 := by rw [← hs3, ← hD]; exact Heap.size_push ..
  have f3 : ∀ b ∈ fp, FpOk X pins (upd H2 D (.lst [])) b ∧ b < s3.heap.objs.size := fun b hb =>
    ⟨⟨(upd_ne (Nat.ne_of_lt (hsz b hb))).trans (f2 b hb).1, (f2 b hb).2⟩, by rw [s3sz]; exact Nat.lt_succ_of_lt (hsz b hb)⟩
  generalize hH3 : upd H2 D (.lst []) = H3 at I3 w0 f3
  have I4 := startH I3 ok hN f3
  have t4 : tn 0 (laidOf s3 scope).heap := T.keep _ _ _ t2 fun b _ o e => pushCells_keeps _ _ _ _ (Heap.get?_push_of_some _ (p3 b o e))
  have stat : ∀ H', (∀ b ∈ fp, H' b = none) → ∀ b ∈ fp, FpOk (blkH X s3 H3 scope (cenvOf X s3 scope) fp) [] H' b := fun H' hn b hb =>
    ⟨hn b hb, (I4.ok.exf b hb).1, I4.ok.exfs b hb, .inl hb, (I4.ok.exf b hb).2, fun p hp => (f2 b hb).2.2.2.2.2 p (List.mem_append_left _ (by rw [List.append_nil] at hp; exact hp))⟩
  show codeAny _ _ (.compStart (lcE elt tg iter ifs scope pos) 0 (.ref it) (.ref D) (cenvOf X s3 scope)) (compPost (model X.prog X.w) X.A X.xe use Qf (.ref D) s3.heap.objs.size) (laidOf s3 scope)
  have loop : codeAny (model X.prog X.w) X.A (.compLoop (lcE elt tg iter ifs scope pos) 0 (.ref it) (.ref D) (cenvOf X s3 scope)) (compPost (model X.prog X.w) X.A X.xe use Qf (.ref D) s3.heap.objs.size) (laidOf s3 scope) := by
    refine compLoop_any (At_ (blkH X s3 H3 scope (cenvOf X s3 scope) fp) (wipe σ (own.map (·.2))) fp tn W) (fun n s5 h5 => ?_) m0 ⟨0, H3, I4, t4, fun b hb => (f3 b hb).1.1, w0⟩
    refine turnC (Y := blkH X s3 H3 scope (cenvOf X s3 scope) fp) hc T rfl rfl stat (hg s3 H3 _ _ fp) (ht s3 H3 _ _ fp) (he s3 H3 _ _ fp) step (fun H' s' I6 qq => ?_) n s5 h5
    have I7 : Inv X pins σ H' s' := I3.call' (ch := fp) I6.os I6.base I6.hok I6.bare fun b hb => ⟨(f3 b hb).1.2.2.2.1, (f3 b hb).1.2.1, (f3 b hb).1.2.2.2.2.1, (f3 b hb).1.2.2.2.2.2⟩
    have f : FpOk X pins H' s3.heap.objs.size := I3.fpOk (Nat.le_refl _) I6.free
    obtain ⟨m, hn, _⟩ := I6.loc
    exact out D _ s' m H' I7 qq hn f
  exact codeAny_compStart_list loop (T.self X.A 0 _ _ _ t4 loop)
/-- name = [..] on one line, the name a local, where an exception is handled -/
theorem setLcH {i : Nat} {y : Str} {py : Pos} {elt tg iter : Expr} {ifs : List Expr} {scope : Scope} {own : List (Str × Nat)} {pos spos : Pos} {wi : TI} {g : TG} {tt : TT} {te : TE} (hc : HotC X) (hN : X.N.Nodup) (hy : X.N[i]? = some y) (hl : X.env.scope.names.lookup y = some .local)
    (sw : swapsWith (lcE elt tg iter ifs scope pos) (some (.Name y py)) spos.line X.env = pure true) (hi : PIH X tg iter wi) (ok : BlkOk X.N X.env.scope scope own)
    (hg : ∀ (s : Shared) (H : Hp) (C : Addr) (cl : List (Str × Addr)) (fp : List Addr), PG (blkH X s H scope (compEnvC scope cl C X.env) fp) tg g) (ht : ∀ (s : Shared) (H : Hp) (C : Addr) (cl : List (Str × Addr)) (fp : List Addr), PTs (blkH X s H scope (compEnvC scope cl C X.env) fp) ifs tt)
    (he : ∀ (s : Shared) (H : Hp) (C : Addr) (cl : List (Str × Addr)) (fp : List Addr), PE (blkH X s H scope (compEnvC scope cl C X.env) fp) elt te) (hs : ∀ x, foldedSetIterable iter X.env x = pure x := by intro _; rfl) :
    PS X (.Assign [.Name y py] (lcE elt tg iter ifs scope pos) spos) (tAsg (tLc wi g tt te (own.map (·.2))) (gName i)) := by
  constructor
  intro pins s σ H D I h
  rw [exec_Assign_Name_used _ _ _ _ sw]
  apply wpAny_bind; apply wpAny_standAt; apply wpAny_bind
  show wpAny _ X.A (do let _ ← comprehension (lcE elt tg iter ifs scope pos) scope X.env (firstIterPos [⟨tg, iter, ifs, 0⟩] pos) (newList []) false (eval iter X.env) (some (assign (.Name y py) X.env))) _ _ s
  have h' : tLc wi g tt te (own.map (·.2)) σ H (fun x H1 => D.nx (σ.set i (some x)) H1) := h
  refine wpAny_bind (thn (lcH (Qf := fun _ s' => SP X pins D .next s') hc hN I hi ok hg ht he hs h' fun L C s' m H' J q hn f => ?_) fun _ s' hq => wpAny_pure (wpAny_pure hq))
  change wpAny _ _ (assign (Expr.Name y py) X.env (Value.ref L)) _ _ _
  refine wpAny_assign_Name (store_ok2 (v := V.ref L) J hN hy (.inl hl) rfl (fun s2 I2 w => ?_) (.inr hl))
  obtain ⟨a, sb, ha⟩ := w
  rcases f with ⟨f0, f1, f2, f3, f4, f5⟩
  have nCa : C ≠ a := ha.elim (fun z => z ▸ f1) fun z e => f4 y a z e.symm
  exact ⟨m, hn.sameBut sb nCa, fun h3 sb3 => ⟨_, H', I2.turned (t' := s2.toks) (fun b o hb e => (sb3.2 b hb).trans e) f0 f1 f3 f4 f5, q⟩⟩
end
/-! ### min, max of a tuple of ints -/
section
open PySem.W
variable {prog : Program} {w : World} {A : Around} {E : Value → Shared → Prop} {s : Shared} {l x1 : Addr} {vs : Array Value} {x : Int} {xs : List Int} {Q : Value → Shared → Prop}
/-- the greatest or the least, where an exception is handled: the tuple is walked by a new iterator, the best item comes as it stands -/
theorem best_hot (up : Bool) (hot : HotAt A x1 s.heap) (hl : s.heap.IsTuple l vs) (hold : HoldAll s.heap vs.toList (x :: xs)) (hu : A.units + 1 + Datum.depth Int < cLine)
    (q : ∀ (i : Nat) v h' tk, vs[i]? = some v → Holds h' v (if up = true then maxOf x xs else minOf x xs) → (∀ b o, s.heap.get? b = some o → h'.get? b = some o) → Q v { s with heap := h', toks := tk }) :
    wpAny (model prog w) A (call (.builtin (if up = true then "max" else "min")) [.ref l]) Q E s := by
  obtain ⟨as, rd⟩ := hold
  have like := alikeAll_datum (x :: xs)
  have room : A.in1.units + PyData.depthAll ((x :: xs).map Datum.toD) < cLine := room_all (depthAll_map (x :: xs)) hu
  have size : vs.size = (xs.map (Datum.toD (α := Int))).length + 1 := readsAll_len rd
  generalize ho : ({ cls := .type "tuple_iterator", data := .fields #[.ref l, .int 0 0] } : Obj) = ob
  have old : ∀ b o, s.heap.get? b = some o → b ≠ s.heap.objs.size ∧ (s.heap.push ob).get? b = some o := fun b o g => ⟨Nat.ne_of_lt (Heap.lt_size g), Heap.get?_push_of_some _ g⟩
  have hl0 : l ≠ s.heap.objs.size := let ⟨o, g, _⟩ := hl; (old l o g).1
  have hx0 := Nat.ne_of_lt (hot_at_one hot)
  have W := (walksTupHot (prog := prog) (w := w) (A := A.in1) (items := vs) hl0 hx0).toS
  have start : TupAt A.in1 s.heap.objs.size l x1 vs 0 (s.heap.push ob) := ⟨⟨ob, Heap.get?_push_size _ (by rw [← ho]; rfl), by rw [← ho], by rw [← ho]; rfl⟩, hl.push _, hot_kept hot fun o g => (old x1 o g).2⟩
  have below : ∀ b ∈ [s.heap.objs.size, l, x1], b < (s.heap.push ob).objs.size := by
    refine List.forall_mem_cons.mpr ⟨?_, List.forall_mem_cons.mpr ⟨?_, List.forall_mem_singleton.mpr ?_⟩⟩
    · exact Heap.size_push s.heap ob ▸ Nat.lt_succ_self _
    · exact let ⟨_, g, _⟩ := start.tu; Heap.lt_size g
    · exact let ⟨_, _, _, g, _⟩ := start.hot; Heap.lt_size g
  -- what the best one is, by a fold over the data
  have fin : ∀ (f : PyData → PyData → Bool) (v : Value) (s' : Shared), vs[argBest (fun i j => f (((x :: xs).map Datum.toD).getD i .none) (((x :: xs).map Datum.toD).getD j .none)) (vs.size - 1)]? = some v →
      Moved [s.heap.objs.size] (fun a b => b = a) { s with heap := s.heap.push ob } s' → ∃ h' tk bs, s' = { s with heap := h', toks := tk } ∧ (∀ b o, s.heap.get? b = some o → h'.get? b = some o) ∧
        Reads h' v ((xs.map Datum.toD).foldl (fun a y => if f y a then y else a) (Datum.toD x)) bs := by
    intro f v s' at_ mv
    obtain ⟨h', tk, rfl, keep⟩ := moved_old rfl rfl mv
    obtain ⟨bs, r, -⟩ := readsAll_atA rd _ v at_
    have fold := (argBest_fold f PyData.none (Datum.toD x) (xs.map Datum.toD) _ (Nat.le_refl _)).2
    rw [size, Nat.add_sub_cancel, List.map_cons, fold, List.take_length] at r
    exact ⟨h', tk, bs, rfl, keep, reads_keeps keep r⟩
  cases up
  · refine call_min_walkH (wpAny_pyIter_tuple hl ?_)
    rw [ho]
    refine ⟨_, _, _, _, _, _, _, s.heap, _, rfl, W, start, below, by omega, fun b o g => by simpa using (old b o g).1, fun b o g => (old b o g).2, cmpIn_lt (A := A.in1) rd like room, fun v s' at_ mv => ?_⟩
    obtain ⟨h', tk, bs, rfl, keep, r⟩ := fin dataLt v s' at_ mv
    exact q _ v h' tk at_ ⟨bs, minD_map x xs ▸ r⟩ keep
  · refine call_max_walkH (wpAny_pyIter_tuple hl ?_)
    rw [ho]
    refine ⟨_, _, _, _, _, _, _, s.heap, _, rfl, W, start, below, by omega, fun b o g => by simpa using (old b o g).1, fun b o g => (old b o g).2, cmpIn_gt (A := A.in1) rd like room, fun v s' at_ mv => ?_⟩
    obtain ⟨h', tk, bs, rfl, keep, r⟩ := fin (fun a b => dataLt b a) v s' at_ mv
    exact q _ v h' tk at_ ⟨bs, maxD_map x xs ▸ r⟩ keep
end
section
variable {X : Cx}
theorem kmaxH (K : PySem.W.Frag) (hc : HotC X) (hu : X.A.units + 64 < cLine) (hK : X.K = K := by rfl) : CallR X (.builtin "max") (WR.rFoldT K WR.maxI) := by
  subst hK
  refine WR.crFold fun I hl hold q => ?_
  obtain ⟨x1, hot, -⟩ := hot_at hc I
  exact best_hot true hot hl hold (by rw [show PySem.W.Datum.depth Int = 0 from rfl]; omega) q
theorem kminH (K : PySem.W.Frag) (hc : HotC X) (hu : X.A.units + 64 < cLine) (hK : X.K = K := by rfl) : CallR X (.builtin "min") (WR.rFoldT K WR.minI) := by
  subst hK
  refine WR.crFold fun I hl hold q => ?_
  obtain ⟨x1, hot, -⟩ := hot_at hc I
  exact best_hot false hot hl hold (by rw [show PySem.W.Datum.depth Int = 0 from rfl]; omega) q
end
end WHt

set_option Elab.async false
set_option linter.all false
set_option maxRecDepth 100000
set_option maxHeartbeats 3900000
namespace WD
open PySem PySem.Spec PyProof.Rows L2 Evl WT WM WB WHt
open L2H (HotC TurnH PIH PIEH FnH RoomH Hot1 cxH fn_ofH run_fnH pe_methH tMethH ps_forH pi_range1H)
/-! ### what is called where an exception is handled -/
theorem room64 {k : Nat} {A : Around} (r : RoomH k A) : A.units + 64 < cLine := by
  have := r.un
  omega
/-- HotC by its parts -/
def HotL (A : Around) (pn : List (Addr × Obj)) : Prop := ∃ p, Hot1 A p ∧ p ∈ pn
structure MetH (P : Program) (w : World) (K : PySem.W.Frag) (mg : Str → Option Value) (base : Heap) (k : Nat) (C : Addr) (m : Str) (sp : Sp) : Prop where
  ex : ∃ (f : Addr) (fd : FuncData) (ps : List Str), Cls K C ∧ Meth K C m f ∧ FnH P w K mg base CX0 k f fd ps sp ∧ Binds K fd ps []
section
variable {X : Cx} {k j : Nat} {C : Addr} {m : Str} {sp : Sp} {pos apos : Pos} {e o : Expr} {es : List Expr} {ta : TE} {t : TA}
theorem pe_mtH {pl : Sem Bool} (c : MetH X.prog X.w X.K X.mg X.base k C m sp) (hr : RoomH j X.A) (hot : HotL X.A X.pn) (hk : k ≤ j) (he : PE X o ta) (ha : PA X (e :: es) t)
    (hst : WR.NoStar X e es := by rfl) (hpl : WR.PlainTail X es pos := by rfl)
    (ht : WR.ByMeth X o m apos pos (e :: es) pl := by rfl) :
    PE X (.Call (.Attribute o m apos) (e :: es) [] pos) (tMeth C m sp [] C8.E0 ta t) := by
  obtain ⟨f, fd, ps, hC, hm, F, b⟩ := c.ex
  have z := pe_methH (pl := pl) (E := fun _ => C8.E0) he hC hm F (hr.mono hk) (show HotC X from hot) b (fun σ pins H s e s' _ z => z.elim) ha hst hpl ht
  unfold tMeth
  simp only [List.append_nil]
  exact z
theorem pe_mt0H {pl : Sem Bool} (c : MetH X.prog X.w X.K X.mg X.base k C m sp) (hr : RoomH j X.A) (hot : HotL X.A X.pn) (hk : k ≤ j) (he : PE X o ta)
    (ht : WR.ByMeth X o m apos pos [] pl := by rfl) :
    PE X (.Call (.Attribute o m apos) [] [] pos) (tMeth C m sp [] C8.E0 ta tNil) := by
  obtain ⟨f, fd, ps, hC, hm, F, b⟩ := c.ex
  refine ⟨fun pins s σ H Q I h => PySem.W.methodCall_KW (pl := pl) (thn (he.run pins s σ H _ I h) fun u s1 hu => ?_) ht⟩
  obtain ⟨x, H1, I1, rx, a, dx, fs, rfl, ea, l, q⟩ := hu
  cases rx
  exact getmeth_ok I1 ea hC hm l (PySem.W.callWith_K0 (first := [.ref a]) I1.kIn hm.kp (run_fnH (us := [.ref a]) (vs := [.ref a]) (E := fun _ => C8.E0) F (hr.mono hk) (show HotC X from hot) b (fun pins H s e s' _ z => z.elim) I1 (.cons rfl .nil) q))
end
section
variable {w : World} {P : Program} {K : PySem.W.Frag} {mg : Str → Option Value} {base : Heap}
/-- a hot def's promise, by its body's types -/
theorem fnH_ty {x qual : Str} {st : Stmt} {N ps : List Str} {k : Nat} {Sg : List Ty → Ty → Prop} {f : Addr} {fd : FuncData} (F : Fun K x qual st f fd) (Sc : FnScope N ps (defScope st)) (len : ∀ Ts T, Sg Ts T → Ts.length = ps.length)
    (hbody : ∀ (f : Addr) (cdv : Value) (A : Around) (outer : List PySem.Env) (s : Shared) (H : Hp) (E : XK) (p : Addr × Obj), RoomH k (A.deeper (envOfC qual (defScope st) s.heap.objs.size f cdv)) → HotC (cxH CX0 P w K mg base N qual (defScope st) f cdv A outer s H E p).nox → HotL (A.deeper (envOfC qual (defScope st) s.heap.objs.size f cdv)) [p] → ∀ Ts T, Sg Ts T →
      ∃ t, PSs (cxH CX0 P w K mg base N qual (defScope st) f cdv A outer s H E p).nox (defBody st) t ∧ BlkR t (st0 N Ts) T) : FnH P w K mg base CX0 (k + 1) f fd ps (SpT Sg) := by
  rcases F.ex with ⟨oc, od, kV, doc, pm, an, cdv, ct, osl, rfl, lk, hcd⟩
  refine fn_ofH lk hcd Sc (fun vs H Q E h => ?_) fun A outer s H vs Q E p hot hr h => ?_
  · obtain ⟨S, Ts, T, hs, _, hp, _⟩ := h
    rw [hp.len]
    exact len Ts T hs
  · obtain ⟨S, Ts, T, hs, l, hp, q⟩ := h
    obtain ⟨t, ht, hk⟩ := hbody f cdv A outer s H E p hr ⟨p, hot, List.mem_cons_self⟩ ⟨p, hot, List.mem_cons_self⟩ Ts T hs
    exact ⟨t, ht.nox, hk S _ _ H (at_start l hp) q⟩
theorem calH_ty {x : Str} {st : Stmt} {N ps : List Str} {k : Nat} {Sg : List Ty → Ty → Prop} (F : ∃ f fd, Fun K x x st f fd ∧ mg x = some (.ref f)) (Sc : FnScope N ps (defScope st)) (len : ∀ Ts T, Sg Ts T → Ts.length = ps.length)
    (hb : ∀ (kV doc pm : Value) (an : Option Addr) (cdv ct : Value) (us : List Value), us.length = ps.length → bindArgs (PySem.W.fnOf x x (defArgs st) (defBody st) (defScope st) .none kV doc pm an cdv ct) ⟨us, []⟩ = pure (ps.zip us))
    (hbody : ∀ (f : Addr) (cdv : Value) (A : Around) (outer : List PySem.Env) (s : Shared) (H : Hp) (E : XK) (p : Addr × Obj), RoomH k (A.deeper (envOfC x (defScope st) s.heap.objs.size f cdv)) → HotC (cxH CX0 P w K mg base N x (defScope st) f cdv A outer s H E p).nox → HotL (A.deeper (envOfC x (defScope st) s.heap.objs.size f cdv)) [p] → ∀ Ts T, Sg Ts T →
      ∃ t, PSs (cxH CX0 P w K mg base N x (defScope st) f cdv A outer s H E p).nox (defBody st) t ∧ BlkR t (st0 N Ts) T) : CalH P w K mg base (k + 1) x (SpT Sg) := by
  obtain ⟨f, fd, F, hm⟩ := F
  exact ⟨f, fd, ps, fnH_ty F Sc len hbody, hm, F.kp, F.binds hb⟩
theorem metH_ty {m qual : Str} {C : Addr} {st : Stmt} {N ps : List Str} {k : Nat} {Sg : List Ty → Ty → Prop} (c : Cls K C) (F : ∃ f fd, Fun K m qual st f fd ∧ Meth K C m f) (Sc : FnScope N ps (defScope st)) (len : ∀ Ts T, Sg Ts T → Ts.length = ps.length)
    (hb : ∀ (kV doc pm : Value) (an : Option Addr) (cdv ct : Value) (us : List Value), us.length = ps.length → bindArgs (PySem.W.fnOf m qual (defArgs st) (defBody st) (defScope st) .none kV doc pm an cdv ct) ⟨us, []⟩ = pure (ps.zip us))
    (hbody : ∀ (f : Addr) (cdv : Value) (A : Around) (outer : List PySem.Env) (s : Shared) (H : Hp) (E : XK) (p : Addr × Obj), RoomH k (A.deeper (envOfC qual (defScope st) s.heap.objs.size f cdv)) → HotC (cxH CX0 P w K mg base N qual (defScope st) f cdv A outer s H E p).nox → HotL (A.deeper (envOfC qual (defScope st) s.heap.objs.size f cdv)) [p] → ∀ Ts T, Sg Ts T →
      ∃ t, PSs (cxH CX0 P w K mg base N qual (defScope st) f cdv A outer s H E p).nox (defBody st) t ∧ BlkR t (st0 N Ts) T) : MetH P w K mg base (k + 1) C m (SpT Sg) := by
  obtain ⟨f, fd, F, hm⟩ := F
  exact ⟨f, fd, ps, c, hm, fnH_ty F Sc len hbody, F.binds hb⟩
end
section
variable {w : World} {P : Program} {K : PySem.W.Frag} {mg : Str → Option Value} {base : Heap} {CR CN CU fU KA : Addr} {mc : Value}
theorem calH_is_integer (F : TopF K mg CR CN CU fU KA mc) : CalH P w K mg base 1 "is_integer" (SpT Sg_is_integer) := by
  refine calH_ty (k := 0) F.d_is_integer sc_is_integer (fun Ts T h => by obtain ⟨n, rfl, rfl⟩ := h; rfl) (fun _ _ _ _ _ _ us hl => match us, hl with | [_], _ => rfl) fun f cdv A outer s_ H_ E_ p_ hr hc hl Ts T hs => ?_
  obtain ⟨n, rfl, rfl⟩ := hs
  refine ⟨_, (pss_one (ps_ret (pe_and (pe_callB (kisi K) (by rfl) F.n_isinstance b_isinstance (pa_cons (pv 0) (pa_cons (pe_bltn (v := .ty "int") (by rfl) F.n_int b_int rfl) pa_nil))) (pe_one (pe_not (pe_callB (kisi K) (by rfl) F.n_isinstance b_isinstance (pa_cons (pv 0) (pa_cons (pe_bltn (v := .ty "bool") (by rfl) F.n_bool b_bool rfl) pa_nil)))))))), ?_⟩
  exact b_ret (e_andV (b := true) (c := true) (e_cb (a_cons (e_var rfl) (a_cons e_c a_nil)) (c_isi ty_int (by decide +kernel))) fun _ => e_notV (b := false) (e_cb (a_cons (e_var rfl) (a_cons e_c a_nil)) (c_isi ty_int (by decide +kernel))))
theorem calH_check_number (F : TopF K mg CR CN CU fU KA mc) : CalH P w K mg base 2 "check_number" (SpT Sg_check_number) := by
  refine calH_ty (k := 1) F.d_check_number sc_check_number (fun Ts T h => by obtain ⟨i, n, rfl, rfl, h⟩ := h; rfl) (fun _ _ _ _ _ _ us hl => match us, hl with | [_, _], _ => rfl) fun f cdv A outer s_ H_ E_ p_ hr hc hl Ts T hs => ?_
  obtain ⟨i, n, rfl, rfl, h⟩ := hs
  refine ⟨_, (pss_cons (ps_if (pw_or (pt_not (pt_val (pe_cH (calH_is_integer F) hr hc (by decide) (by rfl) (pa_cons (pv 0) pa_nil)))) (pw_or1 (pt_not (pt_chain op_le op_lt pe_int (pv 0) (pv 1))))).pt (pss_one ps_never) pss_nil)
      (pss_one (ps_ret (pv 0)))), ?_⟩
  exact b_no (t_is (t_or (t_not (t_B (e_call (a_cons (e_var rfl) a_nil) ⟨_, rfl, rfl⟩))) fun _ => t_not (t_test (e_chain e_c (e_var rfl) (e_var rfl) o_I0 o_I0))) (by simp; omega)) (b_ret (e_var rfl))
theorem metH_incoming (F : TopF K mg CR CN CU fU KA mc) : MetH P w K mg base 3 CR "incoming" (SpT (Sg_incoming CR)) := by
  refine metH_ty (k := 2) F.clR F.m_incoming sc_Net_incoming (fun Ts T h => by obtain ⟨caps, i, rfl, rfl, h⟩ := h; rfl) (fun _ _ _ _ _ _ us hl => match us, hl with | [_, _], _ => rfl) fun f cdv A outer s_ H_ E_ p_ hr hc hl Ts T hs => ?_
  obtain ⟨caps, i, rfl, rfl, h⟩ := hs
  refine ⟨_, (pss_one (ps_ret (pe_ix (kixT K) (pfv K 0) (pe_cH (calH_check_number F) hr hc (by decide) (by rfl) (pa_cons (pv 1) (pa_cons (pfv K 0) pa_nil))) (fun _ _ => rfl)))), ?_⟩
  exact b_ret (e_op (e_incoming F (e_var rfl)) (e_call (a_cons (e_var rfl) (a_cons (e_stages F (e_var rfl)) a_nil)) ⟨i, _, rfl, rfl, h⟩) (o_ixR h))
theorem metH_outgoing (F : TopF K mg CR CN CU fU KA mc) : MetH P w K mg base 3 CR "outgoing" (SpT (Sg_outgoing CR)) := by
  refine metH_ty (k := 2) F.clR F.m_outgoing sc_Net_outgoing (fun Ts T h => by obtain ⟨caps, i, rfl, rfl, h⟩ := h; rfl) (fun _ _ _ _ _ _ us hl => match us, hl with | [_, _], _ => rfl) fun f cdv A outer s_ H_ E_ p_ hr hc hl Ts T hs => ?_
  obtain ⟨caps, i, rfl, rfl, h⟩ := hs
  refine ⟨_, (pss_one (ps_ret (pe_ix (kixT K) (pfv K 0) (pe_cH (calH_check_number F) hr hc (by decide) (by rfl) (pa_cons (pv 1) (pa_cons (pfv K 0) pa_nil))) (fun _ _ => rfl)))), ?_⟩
  exact b_ret (e_op (e_outgoing F (e_var rfl)) (e_call (a_cons (e_var rfl) (a_cons (e_stages F (e_var rfl)) a_nil)) ⟨i, _, rfl, rfl, h⟩) (o_ixR h))
theorem metH_is_ring (F : TopF K mg CR CN CU fU KA mc) : MetH P w K mg base 1 CR "is_ring" (SpT (Sg_is_ring CR)) := by
  refine metH_ty (k := 0) F.clR F.m_is_ring sc_Ring_is_ring (fun Ts T h => by obtain ⟨caps, rfl, rfl⟩ := h; rfl) (fun _ _ _ _ _ _ us hl => match us, hl with | [_], _ => rfl) fun f cdv A outer s_ H_ E_ p_ hr hc hl Ts T hs => ?_
  obtain ⟨caps, rfl, rfl⟩ := hs
  refine ⟨_, (pss_one (ps_ret pe_bl)), ?_⟩
  exact b_ret e_c
theorem calH_load_of (F : TopF K mg CR CN CU fU KA mc) : CalH P w K mg base 1 "load_of" (SpT Sg_load_of) := by
  refine calH_ty (k := 0) F.d_load_of sc_load_of (fun Ts T h => by obtain ⟨caps, s, i, rfl, rfl, h, S⟩ := h; rfl) (fun _ _ _ _ _ _ us hl => match us, hl with | [_, _], _ => rfl) fun f cdv A outer s_ H_ E_ p_ hr hc hl Ts T hs => ?_
  obtain ⟨caps, s, i, rfl, rfl, h, S⟩ := hs
  refine ⟨_, (pss_one (ps_ret (pe_op op_sub (pe_ix (kixT K) (pv 1) (pe_ix (kixT K) (pv 0) pe_int (fun _ _ => rfl)) (fun _ _ => rfl)) (pe_ix (kixT K) (pv 1) (pe_ix (kixT K) (pv 0) pe_int (fun _ _ => rfl)) (fun _ _ => rfl))))), ?_⟩
  have h1 : i < s.length := by rw [S.ls]; exact h
  have h2 : nxN caps.length i < s.length := by rw [S.ls]; exact nxN_lt S.big i
  exact b_ret (e_op (e_op (e_var rfl) (e_op (e_var rfl) e_c (o_ixT (by decide) rfl)) (o_ixN h1)) (e_op (e_var rfl) (e_op (e_var rfl) e_c (o_ixT (by decide) rfl)) (o_ixN h2)) o_I0)
theorem calH_is_owing (F : TopF K mg CR CN CU fU KA mc) : CalH P w K mg base 2 "is_owing" (SpT Sg_is_owing) := by
  refine calH_ty (k := 1) F.d_is_owing sc_is_owing (fun Ts T h => by obtain ⟨caps, s, i, rfl, rfl, h, S⟩ := h; rfl) (fun _ _ _ _ _ _ us hl => match us, hl with | [_, _], _ => rfl) fun f cdv A outer s_ H_ E_ p_ hr hc hl Ts T hs => ?_
  obtain ⟨caps, s, i, rfl, rfl, h, S⟩ := hs
  refine ⟨_, (pss_one (ps_ret (pe_cmpR op_lt (pe_cH (calH_load_of F) hr hc (by decide) (by rfl) (pa_cons (pv 0) (pa_cons (pv 1) pa_nil))) pe_int (nomark _)))), ?_⟩
  exact b_ret (e_op (e_call (a_cons (e_var rfl) (a_cons (e_var rfl) a_nil)) ⟨caps, s, i, rfl, rfl, h, S⟩) e_c o_I0)
theorem calH_is_jammed (F : TopF K mg CR CN CU fU KA mc) : CalH P w K mg base 2 "is_jammed" (SpT Sg_is_jammed) := by
  refine calH_ty (k := 1) F.d_is_jammed sc_is_jammed (fun Ts T h => by obtain ⟨caps, s, i, rfl, rfl, h, S⟩ := h; rfl) (fun _ _ _ _ _ _ us hl => match us, hl with | [_, _], _ => rfl) fun f cdv A outer s_ H_ E_ p_ hr hc hl Ts T hs => ?_
  obtain ⟨caps, s, i, rfl, rfl, h, S⟩ := hs
  refine ⟨_, (pss_one (ps_ret (pe_cmpR op_gt (pe_cH (calH_load_of F) hr hc (by decide) (by rfl) (pa_cons (pv 0) (pa_cons (pv 1) pa_nil))) (pe_ix (kixT K) (pv 0) pe_int (fun _ _ => rfl)) (nomark _)))), ?_⟩
  exact b_ret (e_op (e_call (a_cons (e_var rfl) (a_cons (e_var rfl) a_nil)) ⟨caps, s, i, rfl, rfl, h, S⟩) (e_op (e_var rfl) e_c (o_ixT (by decide) rfl)) o_I0)
theorem calH_is_drawn_on (F : TopF K mg CR CN CU fU KA mc) : CalH P w K mg base 1 "is_drawn_on" (SpT Sg_is_drawn_on) := by
  refine calH_ty (k := 0) F.d_is_drawn_on sc_is_drawn_on (fun Ts T h => by obtain ⟨caps, s, t, i, rfl, rfl, h, S⟩ := h; rfl) (fun _ _ _ _ _ _ us hl => match us, hl with | [_, _, _], _ => rfl) fun f cdv A outer s_ H_ E_ p_ hr hc hl Ts T hs => ?_
  obtain ⟨caps, s, t, i, rfl, rfl, h, S⟩ := hs
  refine ⟨_, (pss_cons (ps_set (i := 3) sc_is_drawn_on.nd rfl (Or.inl rfl) (pe_ix (kixT K) (pv 0) pe_int (fun _ _ => rfl)))
      (pss_cons (ps_set (i := 4) sc_is_drawn_on.nd rfl (Or.inl rfl) (pe_ix (kixT K) (pv 0) pe_int (fun _ _ => rfl)))
      (pss_one (ps_ret (pe_or (pe_cmpR op_lt (pe_ix (kixT K) (pv 2) (pv 3) (fun _ _ => rfl)) (pe_ix (kixT K) (pv 1) (pv 3) (fun _ _ => rfl)) (nomark _)) (pe_one (pe_cmpR op_gt (pe_ix (kixT K) (pv 2) (pv 4) (fun _ _ => rfl)) (pe_ix (kixT K) (pv 1) (pv 4) (fun _ _ => rfl)) (nomark _)))))))), ?_⟩
  have h1 : i < s.length := by rw [S.ls]; exact h
  have h2 : nxN caps.length i < s.length := by rw [S.ls]; exact nxN_lt S.big i
  have h3 : i < t.length := by rw [S.lt]; exact h
  have h4 : nxN caps.length i < t.length := by rw [S.lt]; exact nxN_lt S.big i
  exact b_asg (e_op (e_var rfl) e_c (o_ixT (by decide) rfl)) (b_asg (e_op (e_var rfl) e_c (o_ixT (by decide) rfl))
    (b_ret (e_orV (e_op (e_op (e_var rfl) (e_var rfl) (o_ixN h3)) (e_op (e_var rfl) (e_var rfl) (o_ixN h1)) o_I0) fun _ => e_op (e_op (e_var rfl) (e_var rfl) (o_ixN h4)) (e_op (e_var rfl) (e_var rfl) (o_ixN h2)) o_I0)))
theorem calH_check_state (F : TopF K mg CR CN CU fU KA mc) : CalH P w K mg base 2 "check_state" (SpT (Sg_check_state CR)) := by
  refine calH_ty (k := 1) F.d_check_state sc_check_state (fun Ts T h => by obtain ⟨caps, s, rfl, rfl, hl, hr0⟩ := h; rfl) (fun _ _ _ _ _ _ us hl => match us, hl with | [_, _], _ => rfl) fun f cdv A outer s_ H_ E_ p_ hr hc hl Ts T hs => ?_
  obtain ⟨caps, s, rfl, rfl, hl, hr0⟩ := hs
  refine ⟨_, (pss_cons (ps_if (pw_or (pt_not (pt_val (pe_callB (kisi K) (by rfl) F.n_isinstance b_isinstance (pa_cons (pv 1) (pa_cons (pe_bltn (v := .ty "tuple") (by rfl) F.n_tuple b_tuple rfl) pa_nil))))) (pw_or1 (pt_cmpR op_ne (pe_callB (klen K) (by rfl) F.n_len b_len (pa_cons (pv 1) pa_nil)) (pfv K 0) (nomark _)))).pt (pss_one ps_never) pss_nil)
      (pss_cons (ps_forH PassesOwn.never hc (piEnH K rfl F.n_enumerate (pa_cons (pv 1) pa_nil)) (pg_tupH K hc (pgs_cons (pg_name (i := 2) sc_check_state.nd rfl (Or.inl rfl)) (pgs_cons (pg_name (i := 3) sc_check_state.nd rfl (Or.inl rfl)) pgs_nil))) (pss_one (ps_if (pw_or (pt_not (pt_val (pe_cH (calH_is_integer F) hr hc (by decide) (by rfl) (pa_cons (pv 3) pa_nil)))) (pw_or1 (pt_not (pt_chain op_le op_le pe_int (pv 3) (kcv K (C8.pe_gc (by rfl) F.g_Net)))))).pt (pss_one ps_never) pss_nil)))
      (pss_one (ps_ret (pv 1))))), ?_⟩
  refine b_no (t_is (t_or (t_not (t_B (e_cb (a_cons (e_var rfl) (a_cons e_c a_nil)) is_tup))) fun _ => t_test (e_op (e_cb (a_cons (e_var rfl) a_nil) c_lenT) (e_stages F (e_var rfl)) (o_ne rfl))) (by simp [hl]))
    (b_seq (n_for (n := s.length) (Γs := fun _ => [some (netT CR caps), some (TN s), none, none]) (Γt := fun i => [some (netT CR caps), some (TN s), some (tI (i : Nat)), some (tI (gi s i))]) (i_enum (a_cons (e_var rfl) a_nil) (by simp) fun i hi => tn_at hi) (Le.refl _) (fun i hi => g_pair)
      (fun i hi => n_le (n_no (t_is (t_or (t_not (t_B (e_call (a_cons (e_var rfl) a_nil) ⟨_, rfl, rfl⟩))) fun _ => t_not (t_test (e_chain e_c (e_var rfl) (e_cval F.rdN F.vCounter e_c) o_I0 o_I0))) ?_)) (le_cons (le_cons (le_none (le_none le_nil)))))) (b_ret (e_var rfl)))
  have := hr0 i hi
  simp
  omega
theorem calH_range_objections (F : TopF K mg CR CN CU fU KA mc) : CalH P w K mg base 2 "range_objections" (SpT (Sg_range_objections CR)) := by
  refine calH_ty (k := 1) F.d_range_objections sc_range_objections (fun Ts T h => by obtain ⟨caps, s, t, rfl, rfl, S, hz⟩ := h; rfl) (fun _ _ _ _ _ _ us hl => match us, hl with | [_, _, _], _ => rfl) fun f cdv A outer s_ H_ E_ p_ hr hc hl Ts T hs => ?_
  obtain ⟨caps, s, t, rfl, rfl, S, hz⟩ := hs
  refine ⟨_, (pss_cons (ps_if (pt_not (pt_val (pe_mt0H (metH_is_ring F) hr hl (by decide) (pv 0)))) (pss_one (ps_ret (pe_lst pa_nil))) pss_nil)
      (pss_cons (ps_set (i := 3) sc_range_objections.nd rfl (Or.inr rfl) (pe_callB (kminH K hc (room64 hr)) (by rfl) F.n_min b_min (pa_cons (pv 1) pa_nil)))
      (pss_cons (ps_set (i := 4) sc_range_objections.nd rfl (Or.inr rfl) (pe_callB (kmaxH K hc (room64 hr)) (by rfl) F.n_max b_max (pa_cons (pv 1) pa_nil)))
      (pss_cons (setLcH (i := 5) (own := [("stage", 7), ("counter", 8)]) (g := gTup K 2 (gCons (gName 7) (gCons (gName 8) gNil))) hc sc_range_objections.nd rfl rfl (sw_true rfl rfl rfl (by decide +kernel)) (piEnH K rfl F.n_enumerate (pa_cons (pv 2) pa_nil)) (blkOk_by (N := ["net", "start", "target", "lowest", "highest", "above", "below", "stage", "counter"]) (sc := defScope s_range_objections) (by decide +kernel)) (fun _ _ _ _ _ => (pg_tupH K hc (pgs_cons (pg_name (i := 7) sc_range_objections.nd rfl (Or.inl rfl)) (pgs_cons (pg_name (i := 8) sc_range_objections.nd rfl (Or.inl rfl)) pgs_nil)))) (fun _ _ _ _ _ => (pts_one (pt_cmpR op_gt (pv 8) (pv 4) (nomark _)))) (fun _ _ _ _ _ => (pe_tup (pa_cons pe_str (pa_cons (pv 7) pa_nil)))))
      (pss_cons (setLcH (i := 6) (own := [("stage", 7), ("counter", 8)]) (g := gTup K 2 (gCons (gName 7) (gCons (gName 8) gNil))) hc sc_range_objections.nd rfl rfl (sw_true rfl rfl rfl (by decide +kernel)) (piEnH K rfl F.n_enumerate (pa_cons (pv 2) pa_nil)) (blkOk_by (N := ["net", "start", "target", "lowest", "highest", "above", "below", "stage", "counter"]) (sc := defScope s_range_objections) (by decide +kernel)) (fun _ _ _ _ _ => (pg_tupH K hc (pgs_cons (pg_name (i := 7) sc_range_objections.nd rfl (Or.inl rfl)) (pgs_cons (pg_name (i := 8) sc_range_objections.nd rfl (Or.inl rfl)) pgs_nil)))) (fun _ _ _ _ _ => (pts_one (pt_cmpR op_lt (pv 8) (pv 3) (nomark _)))) (fun _ _ _ _ _ => (pe_tup (pa_cons pe_str (pa_cons (pv 7) pa_nil)))))
      (pss_one (ps_ret (pe_op op_cat (pv 5) (pv 6))))))))), ?_⟩
  have hs0 : 0 < s.length := by rw [S.ls]; have := S.big; omega
  refine b_no (t_is (t_not (t_B (e_meth (e_var rfl) (by simp) a_nil ⟨caps, rfl, rfl⟩))) rfl) (b_asg (e_is (e_cb (a_cons (e_var rfl) a_nil) (c_fold hs0)) (by rw [minI_eq])) (b_asg (e_is (e_cb (a_cons (e_var rfl) a_nil) (c_fold hs0)) (by rw [maxI_eq]))
    (b_asg (e_lc (n := caps.length) (f := aboveB s t) (u := fun i => objT (Tag.above, i)) (Γs := fun i => [some (netT CR caps), some (TN s), some (TN t), some (tI (minL s)), some (tI (maxL s)), none, none, some (tI (i : Nat)), some (tI (gi t i))]) (i_enum (a_cons (e_var rfl) a_nil) (by simp [S.lt]) fun i hi => tn_at (by rw [S.lt]; exact hi)) (fun i hi => g_pair) (by decide) (fun i hi => t_test (e_op (e_var rfl) (e_var rfl) o_I0)) (fun i hi _ => e_tup (a_cons e_c (a_cons (e_var rfl) a_nil)) (by simp)) (by omega))
    (b_asg (e_lc (n := caps.length) (f := belowB s t) (u := fun i => objT (Tag.below, i)) (Γs := fun i => [some (netT CR caps), some (TN s), some (TN t), some (tI (minL s)), some (tI (maxL s)), _, none, some (tI (i : Nat)), some (tI (gi t i))]) (i_enum (a_cons (e_var rfl) a_nil) (by simp [S.lt]) fun i hi => tn_at (by rw [S.lt]; exact hi)) (fun i hi => g_pair) (by decide) (fun i hi => t_test (e_op (e_var rfl) (e_var rfl) o_I0)) (fun i hi _ => e_tup (a_cons e_c (a_cons (e_var rfl) a_nil)) (by simp)) (by omega))
    (b_ret (e_op (e_var rfl) (e_var rfl) (o_catL ?_)))))))
  have h1 := given_len caps.length (aboveB s t) (fun i => objT (Tag.above, i))
  have h2 := given_len caps.length (belowB s t) (fun i => objT (Tag.below, i))
  omega
theorem calH_channel_objections (F : TopF K mg CR CN CU fU KA mc) : CalH P w K mg base 3 "channel_objections" (SpT (Sg_channel_objections CR)) := by
  refine calH_ty (k := 2) F.d_channel_objections sc_channel_objections (fun Ts T h => by obtain ⟨caps, s, t, rfl, rfl, S, hz⟩ := h; rfl) (fun _ _ _ _ _ _ us hl => match us, hl with | [_, _, _], _ => rfl) fun f cdv A outer s_ H_ E_ p_ hr hc hl Ts T hs => ?_
  obtain ⟨caps, s, t, rfl, rfl, S, hz⟩ := hs
  refine ⟨_, (pss_cons (setLcH (i := 3) (own := [("number", 6), ("channel", 7)]) (g := gTup K 2 (gCons (gName 6) (gCons (gName 7) gNil))) hc sc_channel_objections.nd rfl rfl (sw_true rfl rfl rfl (by decide +kernel)) (piEnH K rfl F.n_enumerate (pa_cons (pfv K 0) pa_nil)) (blkOk_by (N := ["net", "start", "target", "drawn", "jammed", "orphaned", "number", "channel"]) (sc := defScope s_channel_objections) (by decide +kernel)) (fun _ _ _ _ _ => (pg_tupH K hc (pgs_cons (pg_name (i := 6) sc_channel_objections.nd rfl (Or.inl rfl)) (pgs_cons (pg_name (i := 7) sc_channel_objections.nd rfl (Or.inl rfl)) pgs_nil)))) (fun _ _ _ _ _ => (pts_one (pt_val (pe_cH (calH_is_drawn_on F) hr hc (by decide) (by rfl) (pa_cons (pv 7) (pa_cons (pv 1) (pa_cons (pv 2) pa_nil))))))) (fun _ _ _ _ _ => (pe_tup (pa_cons (pv 6) (pa_cons (pv 7) pa_nil)))))
      (pss_cons (setLcH (i := 4) (own := [("number", 6), ("channel", 7)]) (g := gTup K 2 (gCons (gName 6) (gCons (gName 7) gNil))) hc sc_channel_objections.nd rfl rfl (sw_true rfl rfl rfl (by decide +kernel)) (piLH K (pv 3)) (blkOk_by (N := ["net", "start", "target", "drawn", "jammed", "orphaned", "number", "channel"]) (sc := defScope s_channel_objections) (by decide +kernel)) (fun _ _ _ _ _ => (pg_tupH K hc (pgs_cons (pg_name (i := 6) sc_channel_objections.nd rfl (Or.inl rfl)) (pgs_cons (pg_name (i := 7) sc_channel_objections.nd rfl (Or.inl rfl)) pgs_nil)))) (fun _ _ _ _ _ => (pts_one (pt_val (pe_cH (calH_is_jammed F) hr hc (by decide) (by rfl) (pa_cons (pv 7) (pa_cons (pv 1) pa_nil)))))) (fun _ _ _ _ _ => (pe_tup (pa_cons pe_str (pa_cons (pv 6) pa_nil)))))
      (pss_cons (setLcH (i := 5) (own := [("number", 6), ("channel", 7)]) (g := gTup K 2 (gCons (gName 6) (gCons (gName 7) gNil))) hc sc_channel_objections.nd rfl rfl (sw_true rfl rfl rfl (by decide +kernel)) (piLH K (pv 3)) (blkOk_by (N := ["net", "start", "target", "drawn", "jammed", "orphaned", "number", "channel"]) (sc := defScope s_channel_objections) (by decide +kernel)) (fun _ _ _ _ _ => (pg_tupH K hc (pgs_cons (pg_name (i := 6) sc_channel_objections.nd rfl (Or.inl rfl)) (pgs_cons (pg_name (i := 7) sc_channel_objections.nd rfl (Or.inl rfl)) pgs_nil)))) (fun _ _ _ _ _ => (pts_one (pt_val (pe_cH (calH_is_owing F) hr hc (by decide) (by rfl) (pa_cons (pv 7) (pa_cons (pv 2) pa_nil)))))) (fun _ _ _ _ _ => (pe_tup (pa_cons pe_str (pa_cons (pv 6) pa_nil)))))
      (pss_one (ps_ret (pe_op op_cat (pv 4) (pv 5))))))), ?_⟩
  have hd := drawn_len caps.length s t
  refine b_asg (T := lst ((drawnL caps.length s t).map fun i => tup [tI (i : Nat), chT caps i])) (e_lc (n := caps.length) (f := drawnB caps.length s t) (u := fun i => tup [tI (i : Nat), chT caps i]) (Γs := fun i => [some (netT CR caps), some (TN s), some (TN t), none, none, none, some (tI (i : Nat)), some (chT caps i)])
      (i_enum (a_cons (e_channels F (e_var rfl)) a_nil) (chans_len caps) fun i hi => chans_at hi) (fun i hi => g_pair) (by decide) (fun i hi => t_B (e_call (a_cons (e_var rfl) (a_cons (e_var rfl) (a_cons (e_var rfl) a_nil))) ⟨caps, s, t, i, rfl, rfl, hi, S⟩)) (fun i hi _ => e_tup (a_cons (e_var rfl) (a_cons (e_var rfl) a_nil)) (by simp)) (by omega))
    (b_asg (e_is (e_lc (n := (drawnL caps.length s t).length) (f := fun i => jamB caps s ((drawnL caps.length s t).getD i 0)) (u := fun i => objT (Tag.jammed, (drawnL caps.length s t).getD i 0)) (Γs := fun i => [some (netT CR caps), some (TN s), some (TN t), _, none, none, some (tI ((drawnL caps.length s t).getD i 0 : Nat)), some (chT caps ((drawnL caps.length s t).getD i 0))])
      (i_list (e_var rfl) (by simp) fun i hi => list_at hi) (fun i hi => g_pair) (by decide) (fun i hi => t_B (e_call (a_cons (e_var rfl) (a_cons (e_var rfl) a_nil)) ⟨caps, s, _, rfl, rfl, drawn_lt hi, ⟨S.big, S.ls, S.ls⟩⟩)) (fun i hi _ => e_tup (a_cons e_c (a_cons (e_var rfl) a_nil)) (by simp)) (by omega)) (congrArg lst (given_list (drawnL caps.length s t) 0 (jamB caps s) fun i => objT (Tag.jammed, i))))
    (b_asg (e_is (e_lc (n := (drawnL caps.length s t).length) (f := fun i => oweB caps.length t ((drawnL caps.length s t).getD i 0)) (u := fun i => objT (Tag.orphan, (drawnL caps.length s t).getD i 0)) (Γs := fun i => [some (netT CR caps), some (TN s), some (TN t), _, _, none, some (tI ((drawnL caps.length s t).getD i 0 : Nat)), some (chT caps ((drawnL caps.length s t).getD i 0))])
      (i_list (e_var rfl) (by simp) fun i hi => list_at hi) (fun i hi => g_pair) (by decide) (fun i hi => t_B (e_call (a_cons (e_var rfl) (a_cons (e_var rfl) a_nil)) ⟨caps, t, _, rfl, rfl, drawn_lt hi, ⟨S.big, S.lt, S.lt⟩⟩)) (fun i hi _ => e_tup (a_cons e_c (a_cons (e_var rfl) a_nil)) (by simp)) (by omega)) (congrArg lst (given_list (drawnL caps.length s t) 0 (oweB caps.length t) fun i => objT (Tag.orphan, i))))
    (b_ret (e_op (e_var rfl) (e_var rfl) (o_catL ?_)))))
  have h1 := List.length_filter_le (jamB caps s) (drawnL caps.length s t)
  have h2 := List.length_filter_le (oweB caps.length t) (drawnL caps.length s t)
  rw [List.length_map, List.length_map]
  omega
theorem calH_end_objections (F : TopF K mg CR CN CU fU KA mc) : CalH P w K mg base 4 "end_objections" (SpT (Sg_end_objections CR)) := by
  refine calH_ty (k := 3) F.d_end_objections sc_end_objections (fun Ts T h => by obtain ⟨caps, s, t, rfl, rfl, S, hz⟩ := h; rfl) (fun _ _ _ _ _ _ us hl => match us, hl with | [_, _, _], _ => rfl) fun f cdv A outer s_ H_ E_ p_ hr hc hl Ts T hs => ?_
  obtain ⟨caps, s, t, rfl, rfl, S, hz⟩ := hs
  refine ⟨_, (pss_cons (setLcH (i := 3) (own := [("stage", 5)]) (g := gName 5) hc sc_end_objections.nd rfl rfl (sw_true rfl rfl rfl (by decide +kernel)) (pi_range1H rfl F.n_range (pa_cons (pfv K 0) pa_nil)) (blkOk_by (N := ["net", "start", "target", "sinks", "sources", "stage"]) (sc := defScope s_end_objections) (by decide +kernel)) (fun _ _ _ _ _ => (pg_name (i := 5) sc_end_objections.nd rfl (Or.inl rfl))) (fun _ _ _ _ _ => (pts_one (pw_and (pt_cmpR op_lt (pe_ix (kixT K) (pv 2) (pv 5) (fun _ _ => rfl)) (pe_ix (kixT K) (pv 1) (pv 5) (fun _ _ => rfl)) (nomark _)) (pw_and1 (pt_cmpR op_eq (pe_callB (klen K) (by rfl) F.n_len b_len (pa_cons (pe_mtH (metH_outgoing F) hr hl (by decide) (pv 0) (pa_cons (pv 5) pa_nil)) pa_nil)) pe_int (nomark _)))).pt)) (fun _ _ _ _ _ => (pe_tup (pa_cons pe_str (pa_cons (pv 5) pa_nil)))))
      (pss_cons (setLcH (i := 4) (own := [("stage", 5)]) (g := gName 5) hc sc_end_objections.nd rfl rfl (sw_true rfl rfl rfl (by decide +kernel)) (pi_range1H rfl F.n_range (pa_cons (pfv K 0) pa_nil)) (blkOk_by (N := ["net", "start", "target", "sinks", "sources", "stage"]) (sc := defScope s_end_objections) (by decide +kernel)) (fun _ _ _ _ _ => (pg_name (i := 5) sc_end_objections.nd rfl (Or.inl rfl))) (fun _ _ _ _ _ => (pts_one (pw_and (pt_cmpR op_gt (pe_ix (kixT K) (pv 2) (pv 5) (fun _ _ => rfl)) (pe_ix (kixT K) (pv 1) (pv 5) (fun _ _ => rfl)) (nomark _)) (pw_and1 (pt_cmpR op_eq (pe_callB (klen K) (by rfl) F.n_len b_len (pa_cons (pe_mtH (metH_incoming F) hr hl (by decide) (pv 0) (pa_cons (pv 5) pa_nil)) pa_nil)) pe_int (nomark _)))).pt)) (fun _ _ _ _ _ => (pe_tup (pa_cons pe_str (pa_cons (pv 5) pa_nil)))))
      (pss_one (ps_ret (pe_op op_cat (pv 3) (pv 4)))))), ?_⟩
  refine b_asg (T := lst []) (e_is (e_lc (n := caps.length) (f := fun _ => false) (u := fun i => tup [tS "sink", tI (i : Nat)]) (Γs := fun i => [some (netT CR caps), some (TN s), some (TN t), none, none, some (tI (i : Nat))])
      (i_rng (a_cons (e_stages F (e_var rfl)) a_nil) ⟨by omega, by omega⟩ (by simp)) (fun i hi => g_name) (by decide) (fun i hi => t_is (t_and (t_test (e_op (e_op (e_var rfl) (e_var rfl) (o_ixN (by rw [S.lt]; exact hi))) (e_op (e_var rfl) (e_var rfl) (o_ixN (by rw [S.ls]; exact hi))) o_I0)) fun _ => t_test (e_op (e_cb (a_cons (e_meth (e_var rfl) (by simp) (a_cons (e_var rfl) a_nil) ⟨caps, i, rfl, rfl, hi⟩) a_nil) c_lenT) e_c (o_eq rfl))) ?_) (fun i hi _ => e_tup (a_cons e_c (a_cons (e_var rfl) a_nil)) (by simp)) (by omega)) (congrArg lst (given_no_all _ _)))
    (b_asg (T := lst []) (e_is (e_lc (n := caps.length) (f := fun _ => false) (u := fun i => tup [tS "source", tI (i : Nat)]) (Γs := fun i => [some (netT CR caps), some (TN s), some (TN t), some (lst []), none, some (tI (i : Nat))])
      (i_rng (a_cons (e_stages F (e_var rfl)) a_nil) ⟨by omega, by omega⟩ (by simp)) (fun i hi => g_name) (by decide) (fun i hi => t_is (t_and (t_test (e_op (e_op (e_var rfl) (e_var rfl) (o_ixN (by rw [S.lt]; exact hi))) (e_op (e_var rfl) (e_var rfl) (o_ixN (by rw [S.ls]; exact hi))) o_I0)) fun _ => t_test (e_op (e_cb (a_cons (e_meth (e_var rfl) (by simp) (a_cons (e_var rfl) a_nil) ⟨caps, i, rfl, rfl, hi⟩) a_nil) c_lenT) e_c (o_eq rfl))) ?_) (fun i hi _ => e_tup (a_cons e_c (a_cons (e_var rfl) a_nil)) (by simp)) (by omega)) (congrArg lst (given_no_all _ _)))
    (b_ret (e_op (e_var rfl) (e_var rfl) (o_catL (by simp)))))
  · simp
  · simp
theorem calH_found_objections (F : TopF K mg CR CN CU fU KA mc) : CalH P w K mg base 5 "found_objections" (SpT (Sg_found_objections CR)) := by
  refine calH_ty (k := 4) F.d_found_objections sc_found_objections (fun Ts T h => by obtain ⟨caps, s, t, rfl, rfl, S, hz⟩ := h; rfl) (fun _ _ _ _ _ _ us hl => match us, hl with | [_, _, _], _ => rfl) fun f cdv A outer s_ H_ E_ p_ hr hc hl Ts T hs => ?_
  obtain ⟨caps, s, t, rfl, rfl, S, hz⟩ := hs
  refine ⟨_, (pss_cons (ps_set (i := 3) sc_found_objections.nd rfl (Or.inl rfl) (pe_cH (calH_range_objections F) hr hc (by decide) (by rfl) (pa_cons (pv 0) (pa_cons (pv 1) (pa_cons (pv 2) pa_nil)))))
      (pss_cons (ps_set (i := 4) sc_found_objections.nd rfl (Or.inl rfl) (pe_cH (calH_channel_objections F) hr hc (by decide) (by rfl) (pa_cons (pv 0) (pa_cons (pv 1) (pa_cons (pv 2) pa_nil)))))
      (pss_cons (ps_set (i := 5) sc_found_objections.nd rfl (Or.inl rfl) (pe_cH (calH_end_objections F) hr hc (by decide) (by rfl) (pa_cons (pv 0) (pa_cons (pv 1) (pa_cons (pv 2) pa_nil)))))
      (pss_one (ps_ret (pe_op op_cat (pe_op op_cat (pv 3) (pv 4)) (pv 5))))))), ?_⟩
  have hl := objs_len caps s t
  have e := congrArg List.length (objs_ty caps s t)
  simp only [List.length_map, List.length_append] at e
  refine b_asg (e_call (a_cons (e_var rfl) (a_cons (e_var rfl) (a_cons (e_var rfl) a_nil))) ⟨caps, s, t, rfl, rfl, S, hz⟩) (b_asg (e_call (a_cons (e_var rfl) (a_cons (e_var rfl) (a_cons (e_var rfl) a_nil))) ⟨caps, s, t, rfl, rfl, S, hz⟩) (b_asg (e_call (a_cons (e_var rfl) (a_cons (e_var rfl) (a_cons (e_var rfl) a_nil))) ⟨caps, s, t, rfl, rfl, S, hz⟩)
    (b_ret (e_is (e_op (e_op (e_var rfl) (e_var rfl) (o_catL ?_)) (e_var rfl) (o_catL ?_)) ?_))))
  · simp only [List.length_map, List.length_append]
    omega
  · simp only [List.length_map, List.length_append, List.length_nil]
    omega
  · rw [List.append_nil, objs_ty]
theorem dec_yes {p : Prop} {i : Decidable p} (h : p) : @decide p i = true := by
  cases i with
  | isTrue _ => rfl
  | isFalse n => exact absurd h n
theorem calH_is_objection (F : TopF K mg CR CN CU fU KA mc) : CalH P w K mg base 7 "is_objection" (SpT (Sg_is_objection CR)) := by
  refine calH_ty (k := 6) F.d_is_objection sc_is_objection (fun Ts T h => by obtain ⟨caps, s, t, o, rfl, rfl, S, hz, r1, r2, ho⟩ := h; rfl) (fun _ _ _ _ _ _ us hl => match us, hl with | [_, _, _, _], _ => rfl) fun f cdv A outer s_ H_ E_ p_ hr hc hl Ts T hs => ?_
  obtain ⟨caps, s, t, o, rfl, rfl, S, hz, r1, r2, ho⟩ := hs
  refine ⟨_, (pss_cons (ps_expr (pe_cH (calH_check_state F) hr hc (by decide) (by rfl) (pa_cons (pv 0) (pa_cons (pv 1) pa_nil))))
      (pss_cons (ps_expr (pe_cH (calH_check_state F) hr hc (by decide) (by rfl) (pa_cons (pv 0) (pa_cons (pv 2) pa_nil))))
      (pss_cons (ps_if (pw_or (pt_not (pt_val (pe_callB (kisi K) (by rfl) F.n_isinstance b_isinstance (pa_cons (pv 3) (pa_cons (pe_bltn (v := .ty "tuple") (by rfl) F.n_tuple b_tuple rfl) pa_nil))))) (pw_or1 (pt_cmpR op_ne (pe_callB (klen K) (by rfl) F.n_len b_len (pa_cons (pv 3) pa_nil)) pe_int (nomark _)))).pt (pss_one (ps_ret pe_bl)) pss_nil)
      (pss_cons (ps_if (pw_or (pt_not (pt_val (pe_callB (kisi K) (by rfl) F.n_isinstance b_isinstance (pa_cons (pe_ix (kixT K) (pv 3) pe_int (fun _ _ => rfl)) (pa_cons (pe_bltn (v := .ty "str") (by rfl) F.n_str b_str rfl) pa_nil))))) (pw_or1 (pt_not (pt_val (pe_cH (calH_is_integer F) hr hc (by decide) (by rfl) (pa_cons (pe_ix (kixT K) (pv 3) pe_int (fun _ _ => rfl)) pa_nil)))))).pt (pss_one (ps_ret pe_bl)) pss_nil)
      (pss_one (ps_ret (pe_cmpR (kinDt K snd_si (by decide) (room64 hr)) (pv 3) (pe_cH (calH_found_objections F) hr hc (by decide) (by rfl) (pa_cons (pv 0) (pa_cons (pv 1) (pa_cons (pv 2) pa_nil)))) (by rfl)))))))), ?_⟩
  refine b_drop (e_call (a_cons (e_var rfl) (a_cons (e_var rfl) a_nil)) ⟨caps, s, rfl, rfl, S.ls, r1⟩) (b_drop (e_call (a_cons (e_var rfl) (a_cons (e_var rfl) a_nil)) ⟨caps, t, rfl, rfl, S.lt, r2⟩)
    (b_no (t_is (t_or (t_not (t_B (e_cb (a_cons (e_var (T := objT o) rfl) (a_cons e_c a_nil)) is_tup))) fun _ => t_test (e_op (e_cb (a_cons (e_var (T := objT o) rfl) a_nil) c_lenT) e_c (o_ne rfl))) rfl)
    (b_no (t_is (t_or (t_not (t_B (e_cb (a_cons (e_op (e_var (T := objT o) rfl) e_c (o_ixT (by decide) rfl)) (a_cons e_c a_nil)) is_str))) fun _ => t_not (t_B (e_call (a_cons (e_op (e_var (T := objT o) rfl) e_c (o_ixT (by decide) rfl)) a_nil) ⟨_, rfl, rfl⟩))) rfl)
    (b_ret (e_is (e_op (e_var (T := objT o) rfl) (e_call (a_cons (e_var rfl) (a_cons (e_var rfl) (a_cons (e_var rfl) a_nil))) ⟨caps, s, t, rfl, rfl, S, hz⟩) (o_inD (g := obD) (fun S H v h => d_ob h) (fun S H v y h => d_ob h))) ?_)))))
  refine congrArg tL ?_
  exact dec_yes (List.mem_map.mpr ⟨o, ho, rfl⟩)
end
end WD

set_option Elab.async false
set_option linter.all false
set_option maxRecDepth 100000
set_option maxHeartbeats 3900000
namespace WM
/-- the stage at the e-th end of channel i -/
def chEnd (e n i : Nat) : Nat := if e = 1 then nxN n i else i
def numsK (e n k j : Nat) : List Nat := (List.range k).filter fun i => decide (chEnd e n i = j)
theorem numsK_succ (e n k j : Nat) : numsK e n (k + 1) j = if chEnd e n k = j then numsK e n k j ++ [k] else numsK e n k j := by
  unfold numsK
  rw [List.range_succ, List.filter_append]
  by_cases h : chEnd e n k = j
  · rw [if_pos h, List.filter_cons, if_pos (by simpa using h)]
    rfl
  · rw [if_neg h, List.filter_cons, if_neg (by simpa using h)]
    exact List.append_nil _
theorem nums_in {n j : Nat} (h3 : 3 ≤ n) (h5 : n ≤ 5) (hj : j < n) : numsK 1 n n j = [pvN n j] := by
  have z : n = 3 ∨ n = 4 ∨ n = 5 := by omega
  rcases z with z | z | z <;> subst z
  · have w : j = 0 ∨ j = 1 ∨ j = 2 := by omega
    rcases w with w | w | w <;> subst w <;> decide
  · have w : j = 0 ∨ j = 1 ∨ j = 2 ∨ j = 3 := by omega
    rcases w with w | w | w | w <;> subst w <;> decide
  · have w : j = 0 ∨ j = 1 ∨ j = 2 ∨ j = 3 ∨ j = 4 := by omega
    rcases w with w | w | w | w | w <;> subst w <;> decide
theorem nums_out {n j : Nat} (h3 : 3 ≤ n) (h5 : n ≤ 5) (hj : j < n) : numsK 0 n n j = [j] := by
  have z : n = 3 ∨ n = 4 ∨ n = 5 := by omega
  rcases z with z | z | z <;> subst z
  · have w : j = 0 ∨ j = 1 ∨ j = 2 := by omega
    rcases w with w | w | w <;> subst w <;> decide
  · have w : j = 0 ∨ j = 1 ∨ j = 2 ∨ j = 3 := by omega
    rcases w with w | w | w | w <;> subst w <;> decide
  · have w : j = 0 ∨ j = 1 ∨ j = 2 ∨ j = 3 ∨ j = 4 := by omega
    rcases w with w | w | w | w | w <;> subst w <;> decide
end WM
namespace WD
open PySem PySem.Spec PyProof.Rows L2 Evl WT WM WB L2H
section
variable {S as : List Addr} {Γ : Cn} {σ : L2.St} {H H' : Hp} {D : Ends} {tz : TS}
theorem hid_app {as S : List Addr} {H : Hp} : Ex (hid (as ++ S) H) (hid S H) := fun b o hb => by
  obtain ⟨n1, h2⟩ := hid_some hb
  rw [hid_of fun z => n1 (List.mem_append_right _ z)]
  exact h2
theorem at_drop : ∀ {as : List Addr}, At (as ++ S) Γ σ H → At S Γ σ H
  | [], h => h
  | _ :: as, h => at_drop (as := as) h.show
theorem refs_ps {H : Hp} : ∀ as : List Addr, Ps H (as.map V.ref) (as.map fun a => tv (.ref a))
  | [] => .nil
  | _ :: as => .cons rfl (refs_ps as)
/-- found = [[] for _ in range(stages)] -/
theorem q_lists {n : Nat} (h : At S Γ σ H) (hn : Γ[1]? = some (some (tI (n : Nat)))) (hz : n ≤ 5)
    (k : ∀ (as : List Addr) v H', as.length = n → as.Nodup → (∀ a ∈ as, H a = none ∧ H' a = some (.lst [])) → Ex H H' → At (as ++ S) (Γ.set 3 (some (lst (as.map fun a => tv (.ref a))))) (σ.set 3 (some v)) H' → tz D (σ.set 3 (some v)) H') :
    tSeq (tAsg (tLc (iRng1 (tCons (tVar 1) tNil)) (gName 6) tYes (tLst tNil) [6]) (gName 3)) tz D σ H := by
  obtain ⟨u1, h1, h1'⟩ := h.env 1 _ hn
  obtain rfl : u1 = V.int (n : Nat) := h1'
  refine ⟨.int (n : Nat), h1, (n : Nat), rfl, by omega, by omega, fun l hl => ?_⟩
  refine lc_range (lo := 0) (n := ((n : Nat) : Int).toNat) (fun i H' => Ex H H' ∧ ∃ as : List Addr, as.length = i ∧ as.Nodup ∧ (∀ a ∈ as, H a = none ∧ a ≠ l ∧ H' a = some (.lst [])) ∧ H' l = some (.lst (as.map V.ref))) ?_ ?_ ?_
  · exact ⟨Ex.new hl, [], rfl, List.nodup_nil, fun a ha => (nomatch ha), upd_same⟩
  · intro i H1 hi p
    obtain ⟨e1, as, la, nd, ha, hlc⟩ := p
    refine ⟨wipe_back (σ := σ) (by rw [List.length_set]) (fun j hj => List.getElem?_set_ne (fun e => hj (by rw [e]; exact List.mem_singleton.mpr rfl))) (fun j hj => hj), ?_⟩
    dsimp only [tYes]
    refine iteT ?_
    refine ⟨sz_of (show 0 ≤ 100000 by decide), fun p hp => ?_⟩
    have npl : p ≠ l := (ne_of_none hlc hp).symm
    have npa : ∀ a ∈ as, a ≠ p := fun a hm => ne_of_none (ha a hm).2.2 hp
    have hHp : H p = none := fresh_back e1 hp
    refine ⟨as.map V.ref, by rw [upd_ne npl.symm]; exact hlc, sz_lt (by rw [List.length_map]; omega), ?_, as ++ [p], by rw [List.length_append, la]; rfl, ?_, fun a hm => ?_, by rw [upd_same, List.map_append]; rfl⟩
    · intro c o hc
      have c1 := e1 c o hc
      rw [upd_ne (ne_of_none hc hl), upd_ne (ne_of_none c1 hp)]
      exact c1
    · rw [List.nodup_append]
      exact ⟨nd, by simp, fun a hm b hb => by rw [List.mem_singleton.1 hb]; exact npa a hm⟩
    · rcases List.mem_append.1 hm with hm | hm
      · obtain ⟨x1, x2, x3⟩ := ha a hm
        exact ⟨x1, x2, by rw [upd_ne x2, upd_ne (npa a hm)]; exact x3⟩
      · rw [List.mem_singleton.1 hm]
        exact ⟨hHp, npl, by rw [upd_ne npl, upd_same]⟩
  · intro H1 p
    obtain ⟨e1, as, la, nd, ha, hlc⟩ := p
    have nS : ∀ a ∈ as, a ∉ S := fun a hm => h.live.free (ha a hm).1
    have lS : l ∉ as ++ S := fun z => (List.mem_append.1 z).elim (fun m => (ha l m).2.1 rfl) fun m => h.live.free hl m
    have a1 : At (as ++ S) Γ σ H1 := by
      refine ⟨fun i T e => ?_, fun a hm => ?_, h.len⟩
      · obtain ⟨v, x1, x2⟩ := h.env i T e
        refine ⟨v, x1, T.mono (fun b o hb => ?_) x2⟩
        obtain ⟨y1, y2⟩ := hid_some hb
        rw [hid_of fun z => (List.mem_append.1 z).elim (fun m => by rw [(ha b m).1] at y2; cases y2) y1]
        exact e1 b o y2
      · rcases List.mem_append.1 hm with hm | hm
        · exact ⟨_, (ha a hm).2.2, rfl⟩
        · exact h.live.mono e1 a hm
    refine k as (.ref l) H1 (by omega) nd (fun a hm => ⟨(ha a hm).1, (ha a hm).2.2⟩) e1 (a1.set ⟨l, _, rfl, by rw [hid_of lS]; exact hlc, refs_ps as⟩)
end
def numsT (e n : Nat) : List Ty := (List.range n).map fun j => tup ((numsK e n n j).map fun i => tI (i : Nat))
def Sg_numbers_by_end : Sig := fun Ts T => ∃ (caps : List Int) (e : Nat), Ts = [tup (chansT caps), tI (caps.length : Nat), tI (e : Nat)] ∧ T = tup (numsT e caps.length) ∧ e ≤ 1 ∧ caps.length ≤ 5 ∧ 3 ≤ caps.length
section
variable {w : World} {P : Program} {K : PySem.W.Frag} {mg : Str → Option Value} {base : Heap} {CR CN CU fU KA : Addr} {mc : Value}
theorem chEnd_lt {e n i : Nat} (h3 : 3 ≤ n) (h : i < n) : chEnd e n i < n := by
  unfold chEnd
  split
  · exact nxN_lt h3 i
  · exact h
theorem cal_numbers_by_end (F : TopF K mg CR CN CU fU KA mc) : C8.Cal P w K mg base 1 "numbers_by_end" (SpT Sg_numbers_by_end) [] := by
  refine cal_ty (k := 0) F.d_numbers_by_end sc_numbers_by_end (fun Ts T h => by obtain ⟨caps, e, rfl, rfl, he, hz, h3⟩ := h; rfl) (fun _ _ _ _ _ _ us hl => match us, hl with | [_, _, _], _ => rfl) fun f cdv A outer s_ H_ E_ hr Ts T hs => ?_
  obtain ⟨caps, e, rfl, rfl, he, hz, h3⟩ := hs
  refine ⟨_, (pss_cons (ps_setLc (i := 3) (own := [("_", 6)]) (g := gName 6) rfl sc_numbers_by_end.nd rfl rfl (sw_true rfl rfl rfl (by decide +kernel)) (pi_range1 rfl F.n_range (pa_cons (pv 1) pa_nil)) (blkOk_by (N := ["channels", "stages", "end", "found", "number", "channel", "_", "numbers"]) (sc := defScope s_numbers_by_end) (by decide +kernel)) (fun _ _ _ _ _ => (pg_name (i := 6) sc_numbers_by_end.nd rfl (Or.inl rfl))) (fun _ _ _ _ _ => pts_nil) (fun _ _ _ _ _ => (pe_lst pa_nil)))
      (pss_cons (ps_for PassesOwn.never rfl (kenum K rfl F.n_enumerate (pa_cons (pv 0) pa_nil)) (pg_tup rfl (pgs_cons (pg_name (i := 4) sc_numbers_by_end.nd rfl (Or.inl rfl)) (pgs_cons (pg_name (i := 5) sc_numbers_by_end.nd rfl (Or.inl rfl)) pgs_nil))) (pss_one (ps_expr (kapp K (pe_ix (kixL K) (pv 3) (pe_ix (kixT K) (pv 5) (pv 2) (fun _ _ => rfl)) (fun _ _ => rfl)) (pa_cons (pv 4) pa_nil)))))
      (pss_one (ps_ret (pe_callTy (ktuple K) (by rfl) F.n_tuple b_tuple (pa_cons (pe_lc (own := [("numbers", 7)]) (g := gName 7) rfl sc_numbers_by_end.nd (kpiL K (pv 3)) (blkOk_by (N := ["channels", "stages", "end", "found", "number", "channel", "_", "numbers"]) (sc := defScope s_numbers_by_end) (by decide +kernel)) (fun _ _ _ _ _ => (pg_name (i := 7) sc_numbers_by_end.nd rfl (Or.inl rfl))) (fun _ _ _ _ _ => pts_nil) (fun _ _ _ _ _ => (pe_callTy (ktuple K) (by rfl) F.n_tuple b_tuple (pa_cons (pv 7) pa_nil)))) pa_nil)))))), ?_⟩
  intro S D σ H a q
  refine q_lists (n := caps.length) a rfl hz fun as v H1 la nd ha e1 a1 => ?_
  have hmem : ∀ j, j < caps.length → as.getD j 0 ∈ as := fun j hj => by
    rw [List.getD_eq_getElem?_getD, List.getElem?_eq_getElem (by omega)]
    exact List.getElem_mem _
  have hinj : ∀ i j, i < caps.length → j < caps.length → as.getD i 0 = as.getD j 0 → i = j := fun i j hi hj e => by
    rw [List.getD_eq_getElem?_getD, List.getD_eq_getElem?_getD, List.getElem?_eq_getElem (by omega), List.getElem?_eq_getElem (by omega)] at e
    exact (List.getElem_inj nd).mp e
  refine q_for (n := caps.length) (tf := fun i => tup [tI (i : Nat), chT caps i]) (i_enum (a_cons (e_var rfl) a_nil) (chans_len caps) fun i hi => chans_at hi) a1
    (fun i σ' H' => At (as ++ S) [some (tup (chansT caps)), some (tI (caps.length : Nat)), some (tI (e : Nat)), some (lst (as.map fun a => tv (.ref a))), none, none, none, none] σ' H' ∧ Ex H H' ∧ ∀ j, j < caps.length → Grow (as ++ S) H' (as.getD j 0) ((numsK e caps.length i j).map fun i => tI (i : Nat)))
    (fun i σ' H' H2 x p => ⟨p.1.ex x, p.2.1.trans x, fun j hj => (p.2.2 j hj).ex x⟩) (fun H2 x => ⟨a1.ex x, e1.trans x, fun j hj => ⟨List.mem_append_left _ (hmem j hj), [], x _ _ (ha _ (hmem j hj)).2, .nil⟩⟩) ?_ ?_
  · intro i vt σ' H0 H' hi g0 g1 p1 p2
    obtain ⟨b1, b2, b3⟩ := p2
    have hci := chEnd_lt (e := e) h3 hi
    refine g_pair (as ++ S) vt σ' H' _ b1 p1 fun σ2 _ _ c1 => ?_
    have hix : ([tI (i : Nat), tI (nxN caps.length i : Nat), tI (gi caps i)] : List Ty)[((e : Nat) : Int).toNat]? = some (tI (chEnd e caps.length i : Nat)) := by
      have z : e = 0 ∨ e = 1 := by omega
      rcases z with z | z <;> subst z <;> rfl
    refine s_app (ts := (numsK e caps.length i (chEnd e caps.length i)).map fun i => tI (i : Nat)) (e_op (e_var rfl) (e_op (e_var (T := chT caps i) rfl) (e_var rfl) (o_ixT (Int.natCast_nonneg _) hix)) (o_ixL (Int.natCast_nonneg _) ?_)) (e_var rfl) ?_ c1 (b3 _ hci) fun H2 gg keep c2 gr => ?_
    · rw [Int.toNat_natCast, List.getElem?_map, List.getElem?_eq_getElem (by omega)]
      show some (tv (V.ref _)) = some (tv (V.ref _))
      rw [List.getD_eq_getElem?_getD, List.getElem?_eq_getElem (by omega)]
      rfl
    · rw [List.length_map]
      unfold numsK
      have z := List.length_filter_le (fun k => decide (chEnd e caps.length k = chEnd e caps.length i)) (List.range i)
      rw [List.length_range] at z
      omega
    · refine ⟨g0.trans gg, c2.le (le_cons (le_cons (le_cons (le_cons (le_none (le_none (le_cons (le_cons le_nil)))))))), fun c o hc => keep c o (fun z => ?_) (b2 c o hc), fun j hj => ?_⟩
      · rw [z, (ha _ (hmem _ hci)).1] at hc
        cases hc
      · rw [numsK_succ]
        by_cases w : chEnd e caps.length i = j
        · subst w
          rw [if_pos rfl, List.map_append]
          exact gr
        · rw [if_neg w]
          obtain ⟨m1, vs, m2, m3⟩ := b3 j hj
          exact ⟨m1, vs, keep _ _ (fun z => w (hinj _ _ hci hj z.symm)) m2, m3.mono gg.1⟩
  · intro σ' H' g' p
    obtain ⟨b1, b2, b3⟩ := p
    have c1 : At S _ σ' H' := at_drop b1
    obtain ⟨v3, x1, x2⟩ := b1.env 3 _ rfl
    have hty : (lst ((List.range caps.length).map fun j => lst ((numsK e caps.length caps.length j).map fun i => tI (i : Nat)))).p v3 (hid S H') := by
      obtain ⟨l, vs, y1, y2, y3⟩ := x2
      have nS : ∀ b, b ∈ as → b ∉ S := fun b hb => a.live.free (ha b hb).1
      have y4 : (hid S H') l = some (.lst vs) := hid_app _ _ y2
      refine ⟨l, vs, y1, y4, ?_⟩
      have all : ∀ (bs : List Addr) (ws : List V) (f : Nat → List Ty) (o : Nat), Ps (hid (as ++ S) H') ws (bs.map fun a => tv (.ref a)) → (∀ j, j < bs.length → bs.getD j 0 ∈ as ∧ Grow (as ++ S) H' (bs.getD j 0) (f (o + j))) → Ps (hid S H') ws ((List.range bs.length).map fun j => lst (f (o + j))) := by
        intro bs
        induction bs with
        | nil =>
          intro ws f o hp _
          cases hp
          exact .nil
        | cons b bs ih =>
          intro ws f o hp hg
          cases hp with
          | cons r rr =>
            simp only [List.length_cons, List.range_succ_eq_map, List.map_cons, List.map_map]
            obtain ⟨m0, m1, us, m2, m3⟩ := hg 0 (by simp)
            refine .cons ⟨b, us, r, ?_, m3.mono hid_app⟩ ?_
            · rw [hid_of (nS b m0)]
              exact m2
            · have z := ih _ f (o + 1) rr fun j hj => by
                have w := hg (j + 1) (by simpa using hj)
                rw [show o + 1 + j = o + (j + 1) by omega]
                exact w
              have q2 : ((fun j => lst (f (o + j))) ∘ Nat.succ) = fun j => lst (f (o + 1 + j)) := by
                funext j
                show lst (f (o + (j + 1))) = _
                rw [show o + (j + 1) = o + 1 + j by omega]
              rw [q2]
              exact z
      have z := all as vs (fun j => (numsK e caps.length caps.length j).map fun i => tI (i : Nat)) 0 y3 fun j hj => ⟨hmem j (by omega), by rw [Nat.zero_add]; exact b3 j (by omega)⟩
      rw [la] at z
      simpa using z
    have d1 := c1.put x1 hty
    refine b_ret (e_is (e_cb (a_cons (e_is (e_lc (n := caps.length) (f := fun _ => true) (u := fun j => tup ((numsK e caps.length caps.length j).map fun i => tI (i : Nat))) (tf := fun j => lst ((numsK e caps.length caps.length j).map fun i => tI (i : Nat)))
      (Γs := fun j => [some (tup (chansT caps)), some (tI (caps.length : Nat)), some (tI (e : Nat)), some (lst ((List.range caps.length).map fun j => lst ((numsK e caps.length caps.length j).map fun i => tI (i : Nat)))), none, none, none, some (lst ((numsK e caps.length caps.length j).map fun i => tI (i : Nat)))])
      (i_list (e_var rfl) (by simp) fun i hi => range_at hi) (fun i hi => g_name) (by decide) (fun i hi => t_yes) (fun i hi _ => e_cb (a_cons (e_var rfl) a_nil) c_tuple) (by omega)) (congrArg lst (given_all _ _))) a_nil) c_tuple) rfl) S D σ' H' d1 fun w H2 x p => q w H2 (b2.trans x) p
end
end WD

set_option Elab.async false
set_option linter.all false
set_option maxRecDepth 100000
set_option maxHeartbeats 3900000
namespace WB
open PySem PySem.Spec PyProof.Rows L2 Evl WT WM
abbrev s_Ring___init__ : Stmt := inClass (top 16) 1
/-- what more of the top is asked for the making of a ring: fI the __init__ of Ring, fN that of Net, cc the cell of __class__, cda the code object of fI -/
structure RingF (K : PySem.W.Frag) (mg : Str → Option Value) (CR CN : Addr) (mc mcR : Value) (fI fN fC pC cda cc : Addr) : Prop where
  gRing : mg "Ring" = some (.ref CR)
  gSup : mg "super" = none
  rdR : ClX.CRead K CR mcR
  vLeast : ∃ u, ClX.CVal K CR mcR "LEAST_STAGES" (.int 3) u
  sCap : WR.SMet K CN mc "is_capacity" pC fC
  dCap : ∃ fd, Fun K "is_capacity" "Net.is_capacity" s_Net_is_capacity fC fd
  dNet : ∃ fd, Fun K "__init__" "Net.__init__" s_Net___init__ fN fd
  mak : Mk K CR fI
  fiN : PySem.W.fnIn K fN = true
  tyN : PySem.W.typeIn K (.ref fN) = some (.type "function")
  sup : PySem.W.ks_superIn K CR CR "__init__" = some (some (.ref fN))
  mrR : PySem.W.mroIn K CR (.ref CR) = some true
  any : PySem.W.nsIn K cStatics "thirdparty.any" = some none
  clR : ∃ cd, PySem.W.clsIn K CR = some cd
  cell : ∃ ccl cld csl, K.lookup cc = some ⟨ccl, cld, .cell (some (.ref CR)), csl⟩
  code : ∃ dcl dld dsl vs file tf, K.lookup cda = some ⟨dcl, dld, .fields vs, dsl⟩ ∧ vs[2]? = some (.str file tf) ∧ ((WE.PG.main.file : Str) == file) = true
  cd : PySem.W.codeIn K (.ref cda) "Ring.__init__" = true
  fn : ∃ (oc : Value) (od : Option Addr) (kV doc pm : Value) (an : Option Addr) (ct : Value) (osl : Array (Option Value)),
    K.lookup fI = some ⟨oc, od, .func (PySem.W.ksFn "__init__" "Ring.__init__" (defArgs s_Ring___init__) (defBody s_Ring___init__) (defScope s_Ring___init__) .none kV doc pm an (.ref cda) ct cc), osl⟩
end WB
namespace WD
open PySem PySem.Spec PyProof.Rows L2 Evl WT WM WB L2H
/-! ### a static method; a def that falls through; fields stored -/
structure StM (P : Program) (w : World) (K : PySem.W.Frag) (mg : Str → Option Value) (base : Heap) (k : Nat) (C : Addr) (mc : Value) (m : Str) (sp : Sp) : Prop where
  ex : ∃ p g fd ps, WR.SMet K C mc m p g ∧ FnOk P w K mg base CX0 k g fd ps sp ∧ Binds K fd ps []
theorem pe_sm {X : Cx} {k j : Nat} {C : Addr} {mc : Value} {sp : Sp} {o e : Expr} {es : List Expr} {m : Str} {pos apos : Pos} {ta : TE} {t : TA} {pl : Sem Bool} (he : PE X o ta) (r : ClX.CRead X.K C mc) (c : StM X.prog X.w X.K X.mg X.base k C mc m sp) (hr : Room j X.A) (hk : k ≤ j) (ha : PA X (e :: es) t)
    (hst : WR.NoStar X e es := by rfl) (hpl : WR.PlainTail X es pos := by rfl)
    (ht : WR.ByMeth X o m apos pos (e :: es) pl := by rfl) :
    PE X (.Call (.Attribute o m apos) (e :: es) [] pos) (WR.tSMeth C sp C8.E0 ta t) := by
  obtain ⟨p, g, fd, ps, s, F, b⟩ := c.ex
  exact WR.pe_smeth he r s F (hr.mono hk) b pass0 ha hst hpl ht
theorem e_sm {Γ : Cn} {te : TE} {ta : TA} {C : Addr} {Sg : Sig} {E : XK} {Ts : List Ty} {T : Ty} (h : EvP te Γ (tv (.ref C))) (ha : EaP ta Γ Ts) (s : Sg Ts T) : EvP (WR.tSMeth C (SpT Sg) E te ta) Γ T := fun S σ H a Q q =>
  h S σ H a _ fun x H1 e1 p1 => ⟨p1, ha S σ H1 (a.ex e1) _ fun vs H2 e2 p2 => ⟨S, Ts, T, s, (a.ex (e1.trans e2)).live, p2, fun v H3 e3 p3 => q v H3 ((e1.trans e2).trans e3) p3⟩⟩
section
variable {w : World} {P : Program} {K : PySem.W.Frag} {mg : Str → Option Value} {base : Heap}
theorem cal_tyN {x : Str} {st : Stmt} {N ps : List Str} {k : Nat} {Sg : List Ty → Ty → Prop} (F : ∃ f fd, Fun K x x st f fd ∧ mg x = some (.ref f)) (Sc : FnScope N ps (defScope st)) (len : ∀ Ts T, Sg Ts T → Ts.length = ps.length)
    (hb : ∀ (kV doc pm : Value) (an : Option Addr) (cdv ct : Value) (us : List Value), us.length = ps.length → bindArgs (PySem.W.fnOf x x (defArgs st) (defBody st) (defScope st) .none kV doc pm an cdv ct) ⟨us, []⟩ = pure (ps.zip us))
    (hbody : ∀ (f : Addr) (cdv : Value) (A : Around) (outer : List PySem.Env) (s : Shared) (H : Hp) (E : XK), Room k (A.deeper (envOfC x (defScope st) s.heap.objs.size f cdv)) → ∀ Ts T, Sg Ts T →
      ∃ t Γ', T = tv .non ∧ PSs (cxOf CX0 P w K mg base N x (defScope st) f cdv A outer s H E).nox (defBody st) t ∧ BlkN t (st0 N Ts) Γ') : C8.Cal P w K mg base (k + 1) x (SpT Sg) [] := by
  obtain ⟨f, fd, F, hm⟩ := F
  refine ⟨f, fd, ps, [], F.ok Sc (fun vs H Q E h => ?_) (fun cdv A outer s H vs Q E hr h => ?_), hm, F.kp, F.binds hb, .nil⟩
  · obtain ⟨S, Ts, T, hs, _, hp, _⟩ := h
    rw [hp.len]
    exact len Ts T hs
  · obtain ⟨S, Ts, T, hs, l, hp, q⟩ := h
    obtain ⟨t, Γ', rfl, ht, hk⟩ := hbody f cdv A outer s H E hr Ts T hs
    exact ⟨t, ht, hk S _ _ H (at_start l hp) fun σ' H1 e _ => q _ H1 e rfl⟩
theorem s_fld {S : List Addr} {Γ : Cn} {σ : L2.St} {H : Hp} {D : Ends} {te ta : TE} {T : Ty} {x C dx : Addr} {f : Str} {fs : List (Str × V)} (hx : x ∈ S) (ho : EvP ta Γ (tv (.ref x))) (he : EvP te Γ T) (h : At S Γ σ H) (hf : H x = some (.ins C dx fs)) (c : Cls K C) (n : NoAttr K C f) (hl : fs.length < 1000)
    (k : ∀ v H2, Go S H H2 → (∀ b o, b ≠ x → H b = some o → H2 b = some o) → At S Γ σ H2 → T.p v (hid S H2) → H2 x = some (.ins C dx (putF f v fs)) → D.nx σ H2) : sFld K ta te f D σ H :=
  he S σ H h _ fun v H1 e1 p1 => ho S σ H1 (h.ex e1) _ fun y H2 e2 p2 => by
    have e := e1.trans e2
    have hh : hid S (upd H2 x (.ins C dx (putF f v fs))) = hid S H2 := hid_upd hx
    have gg : Go S H (upd H2 x (.ins C dx (putF f v fs))) := ⟨by rw [hh]; exact ex_hid e, (h.ex e).live.upd rfl⟩
    refine ⟨x, C, dx, fs, p2, e _ _ hf, c, n, hl, k v _ gg (fun b o hb hc => by rw [upd_ne hb]; exact e _ _ hc) (h.go gg) ?_ upd_same⟩
    rw [hh]
    exact T.mono (ex_hid e2) p1
theorem q_fld {S : List Addr} {Γ : Cn} {σ : L2.St} {H : Hp} {D : Ends} {te ta : TE} {tz : TS} {T : Ty} {x C dx : Addr} {f : Str} {fs : List (Str × V)} (hx : x ∈ S) (ho : EvP ta Γ (tv (.ref x))) (he : EvP te Γ T) (h : At S Γ σ H) (hf : H x = some (.ins C dx fs)) (c : Cls K C) (n : NoAttr K C f) (hl : fs.length < 1000)
    (k : ∀ v H2, Go S H H2 → (∀ b o, b ≠ x → H b = some o → H2 b = some o) → At S Γ σ H2 → T.p v (hid S H2) → H2 x = some (.ins C dx (putF f v fs)) → tz D σ H2) : tSeq (sFld K ta te f) tz D σ H := s_fld (D := { D with nx := tz D }) hx ho he h hf c n hl k
end
section
variable {w : World} {P : Program} {K : PySem.W.Frag} {mg : Str → Option Value} {base : Heap} {CR CN CU fU KA : Addr} {mc mcR : Value} {fI fN fC pC cda cc : Addr}
def Sg_is_capacity : Sig := fun Ts T => ∃ n : Int, Ts = [tI n] ∧ T = tL true ∧ 1 ≤ n ∧ n ≤ 999
theorem stm_capacity (F : TopF K mg CR CN CU fU KA mc) (G : RingF K mg CR CN mc mcR fI fN fC pC cda cc) : StM P w K mg base 2 CN mc "is_capacity" (SpT Sg_is_capacity) := by
  obtain ⟨fd, F1⟩ := G.dCap
  refine ⟨pC, fC, fd, ["value"], G.sCap, F1.ok (k := 1) sc_Net_is_capacity (fun vs H Q E h => ?_) (fun cdv A outer s H vs Q E hr h => ?_), F1.binds (fun _ _ _ _ _ _ us hl => match us, hl with | [_], _ => rfl)⟩
  · obtain ⟨S, Ts, T, ⟨n, rfl, _⟩, _, hp, _⟩ := h
    exact hp.len
  · obtain ⟨S, Ts, T, ⟨n, rfl, rfl, h1, h2⟩, l, hp, q⟩ := h
    refine ⟨_, (pss_one (ps_ret (pe_and (C8.pe_c (cal_is_integer F) hr (by decide) (by rfl) (pa_cons (pv 0) pa_nil)) (pe_one (pe_chain op_le op_le pe_int (pv 0) (kcv K (C8.pe_gc (by rfl) F.g_Net))))))), ?_⟩
    refine (b_ret (e_is (e_andV (b := true) (e_call (a_cons (e_var rfl) a_nil) ⟨n, rfl, rfl⟩) fun _ => e_chain e_c (e_var rfl) (e_cval F.rdN F.vCapacity e_c) o_I0 o_I0) ?_) : BlkR _ (st0 ["value"] [tI n]) (tL true)) S _ _ H (at_start l hp) q
    simp [h1, h2]
def Sg_check_capacities : Sig := fun Ts T => ∃ caps : List Int, Ts = [TN caps] ∧ T = tv .non ∧ caps.length ≤ 5 ∧ ∀ c ∈ caps, 1 ≤ c ∧ c ≤ 3
theorem cal_check_capacities (F : TopF K mg CR CN CU fU KA mc) (G : RingF K mg CR CN mc mcR fI fN fC pC cda cc) : C8.Cal P w K mg base 3 "check_capacities" (SpT Sg_check_capacities) [] := by
  refine cal_tyN (k := 2) F.d_check_capacities sc_check_capacities (fun Ts T h => by obtain ⟨caps, rfl, _⟩ := h; rfl) (fun _ _ _ _ _ _ us hl => match us, hl with | [_], _ => rfl) fun f cdv A outer s_ H_ E_ hr Ts T hs => ?_
  obtain ⟨caps, rfl, rfl, hz, hc⟩ := hs
  refine ⟨_, [some (TN caps), none, none], rfl, (pss_one (ps_for PassesOwn.never rfl (kenum K rfl F.n_enumerate (pa_cons (pv 0) pa_nil)) (pg_tup rfl (pgs_cons (pg_name (i := 1) sc_check_capacities.nd rfl (Or.inl rfl)) (pgs_cons (pg_name (i := 2) sc_check_capacities.nd rfl (Or.inl rfl)) pgs_nil))) (pss_one (ps_if (pt_not (pt_val (pe_sm (C8.pe_gc (by rfl) F.g_Net) F.rdN (stm_capacity F G) hr (by decide) (pa_cons (pv 2) pa_nil)))) (pss_one ps_never) pss_nil)))), ?_⟩
  refine n_for (n := caps.length) (Γs := fun _ => [some (TN caps), none, none]) (Γt := fun i => [some (TN caps), some (tI (i : Nat)), some (tI (gi caps i))]) (i_enum (a_cons (e_var rfl) a_nil) (by simp) fun i hi => tn_at hi) (Le.refl _) (fun i hi => g_pair)
    (fun i hi => n_le (n_no (t_is (t_not (t_B (e_sm (Sg := Sg_is_capacity) e_c (a_cons (e_var rfl) a_nil) ⟨gi caps i, rfl, rfl, ?_, ?_⟩))) rfl)) (le_cons (le_none (le_none le_nil))))
  · exact (hc _ (gi_mem hi)).1
  · have := (hc _ (gi_mem hi)).2
    omega
def spNet (CR : Addr) : Sp := fun vs H Q _ => ∃ (x dx : Addr) (caps : List Int) (v : V), vs = [.ref x, .int (caps.length : Nat), v] ∧ H x = some (.ins CR dx []) ∧ (tup (chansT caps)).p v (hid [x] H) ∧ 3 ≤ caps.length ∧ caps.length ≤ 5 ∧
  ∀ H', (∀ b o, b ≠ x → H b = some o → H' b = some o) → (netT CR caps).p (.ref x) H' → Q .non H'
theorem numsT_in {caps : List Int} (h3 : 3 ≤ caps.length) (h5 : caps.length ≤ 5) : numsT 1 caps.length = inT caps := by
  unfold numsT inT
  refine List.map_congr_left fun j hj => ?_
  rw [nums_in h3 h5 (List.mem_range.1 hj)]
  rfl
theorem numsT_out {caps : List Int} (h3 : 3 ≤ caps.length) (h5 : caps.length ≤ 5) : numsT 0 caps.length = outT caps := by
  unfold numsT outT
  refine List.map_congr_left fun j hj => ?_
  rw [nums_out h3 h5 (List.mem_range.1 hj)]
  rfl
theorem putF_le {f : Str} {v : V} {n : Nat} : ∀ {fs : List (Str × V)}, fs.length ≤ n → (putF f v fs).length ≤ n + 1
  | [], _ => Nat.succ_le_succ (Nat.zero_le _)
  | (g, x) :: r, h => by
    unfold putF
    split
    · exact Nat.le_succ_of_le h
    · cases n with
      | zero => cases h
      | succ n => exact Nat.succ_le_succ (putF_le (Nat.le_of_succ_le_succ h))
theorem putF_small {f : Str} {v : V} {n : Nat} {fs : List (Str × V)} (h : fs.length ≤ n) (hn : n < 900 := by decide) : (putF f v fs).length < 1000 := by
  have := putF_le (f := f) (v := v) h
  omega
theorem fr_net (F : TopF K mg CR CN CU fU KA mc) (G : RingF K mg CR CN mc mcR fI fN fC pC cda cc) : FnR P w K mg base CX0 2 fN (spNet CR) := by
  obtain ⟨fd, F1⟩ := G.dNet
  refine FnR.imp ((F1.ok (P := P) (w := w) (mg := mg) (base := base) (k := 1) (sp := spNet CR) sc_Net___init__ (fun vs H Q E h => ?_) (fun cdv A outer s H vs Q E hr h => ?_)).raw (F1.binds (fun _ _ _ _ _ _ us hl => match us, hl with | [_, _, _], _ => rfl)) .nil) fun vs H Q E h => by rw [List.append_nil]; exact h
  · obtain ⟨x, dx, caps, v, rfl, _⟩ := h
    rfl
  · obtain ⟨x, dx, caps, v, rfl, hx, hv, h3, h5, q⟩ := h
    refine ⟨_, (pss_cons (ps_fld (pv 0) (pv 1) (by rfl))
      (pss_cons (ps_fld (pv 0) (pv 2) (by rfl))
      (pss_cons (ps_fld (pv 0) (C8.pe_c (cal_numbers_by_end F) hr (by decide) (by rfl) (pa_cons (pv 2) (pa_cons (pv 1) (pa_cons pe_int pa_nil)))) (by rfl))
      (pss_one (ps_fld (pv 0) (C8.pe_c (cal_numbers_by_end F) hr (by decide) (by rfl) (pa_cons (pv 2) (pa_cons (pv 1) (pa_cons pe_int pa_nil)))) (by rfl)))))), ?_⟩
    have a : At [x] (st0 ["self", "stages", "channels"] [tv (.ref x), tI (caps.length : Nat), tup (chansT caps)]) (L2.start ["self", "stages", "channels"] [.ref x, .int (caps.length : Nat), v]) H :=
      at_start (fun b hb => by rw [List.mem_singleton.1 hb]; exact ⟨_, hx, rfl⟩) (.cons rfl (.cons rfl (.cons hv .nil)))
    have hm : x ∈ [x] := List.mem_cons_self
    refine q_fld hm (e_var rfl) (e_var (i := 1) (T := tI (caps.length : Nat)) rfl) a hx F.clR F.naS (by decide) fun v1 H1 g1 k1 a1 p1 x1 => ?_
    refine q_fld hm (e_var rfl) (e_var (i := 2) (T := tup (chansT caps)) rfl) a1 x1 F.clR F.naC (putF_small (n := 0) (by decide)) fun v2 H2 g2 k2 a2 p2 x2 => ?_
    refine q_fld (T := tup (inT caps)) hm (e_var rfl) (e_is (e_call (Sg := Sg_numbers_by_end) (a_cons (e_var rfl) (a_cons (e_var rfl) (a_cons (e_c (x := .int ((1 : Nat) : Int))) a_nil))) ⟨caps, 1, rfl, rfl, by decide, h5, h3⟩) (congrArg tup (numsT_in h3 h5))) a2 x2 F.clR F.naI (putF_small (n := 1) (putF_le (by decide))) fun v3 H3 g3 k3 a3 p3 x3 => ?_
    refine s_fld (T := tup (outT caps)) hm (e_var rfl) (e_is (e_call (Sg := Sg_numbers_by_end) (a_cons (e_var rfl) (a_cons (e_var rfl) (a_cons (e_c (x := .int ((0 : Nat) : Int))) a_nil))) ⟨caps, 0, rfl, rfl, by decide, h5, h3⟩) (congrArg tup (numsT_out h3 h5))) a3 x3 F.clR F.naO (putF_small (n := 2) (putF_le (putF_le (by decide)))) fun v4 H4 g4 k4 a4 p4 x4 => ?_
    refine q H4 (fun b o hb hc => k4 b o hb (k3 b o hb (k2 b o hb (k1 b o hb hc)))) ⟨x, dx, _, rfl, x4, fun f T hf => ?_, fun m hm => ?_⟩
    · have e14 := (g2.1.trans g3.1).trans g4.1
      simp only [netF, List.mem_cons, List.not_mem_nil, or_false, Prod.mk.injEq] at hf
      rcases hf with ⟨rfl, rfl⟩ | ⟨rfl, rfl⟩ | ⟨rfl, rfl⟩ | ⟨rfl, rfl⟩
      · exact ⟨v1, by first | rfl | decide, Ty.mono _ hid_ex (Ty.mono _ e14 p1)⟩
      · exact ⟨v2, by first | rfl | decide, Ty.mono _ hid_ex (Ty.mono _ (g3.1.trans g4.1) p2)⟩
      · exact ⟨v3, by first | rfl | decide, Ty.mono _ hid_ex (Ty.mono _ g4.1 p3)⟩
      · exact ⟨v4, by first | rfl | decide, Ty.mono _ hid_ex p4⟩
    · simp only [List.mem_cons, List.not_mem_nil, or_false] at hm
      rcases hm with rfl | rfl | rfl <;> rfl
end
end WD

set_option Elab.async false
set_option linter.all false
set_option maxRecDepth 100000
set_option maxHeartbeats 3900000
namespace WD
open PySem PySem.Spec PyProof.Rows L2 Evl WT WM WB L2H
/-! ### Ring.__init__: a star parameter, a cell of its own, super() -/
structure NdS (N : List Str) : Prop where
  nd : N.Nodup
theorem sc_Ring___init__ : NdS ["self", "capacities", "stages", "channels", "stage", "capacity"] := ⟨by decide +kernel⟩
abbrev envR (L f cda cc : Addr) : PySem.Env := PySem.W.envX "Ring.__init__" (defScope s_Ring___init__) L f (.ref cda) [("stages", L + 1), ("__class__", cc)]
abbrev NR : List Str := ["self", "capacities", "stages", "channels", "stage", "capacity"]
def mR (x p : Addr) : Str → Option Value := fun y => if y = "capacities" then some (.ref p) else if y = "self" then some (.ref x) else none
theorem lkSelf : (defScope s_Ring___init__).names.lookup ("self" : Str) = some .local := by decide +kernel
theorem lkCaps : (defScope s_Ring___init__).names.lookup ("capacities" : Str) = some .local := by decide +kernel
theorem newEnvR {M : Model} {A : Around} {E : Value → Shared → Prop} {s : Shared} {f cda cc x p : Addr} {Q : PySem.Env → Shared → Prop}
    (h : ∀ h1 tk, h1.Ns s.heap.objs.size (mR x p) → h1.IsCell (s.heap.objs.size + 1) none → (∀ b o, s.heap.get? b = some o → h1.get? b = some o) → Q (envR s.heap.objs.size f cda cc) { s with heap := h1, toks := tk }) :
    wpAny M A (newFunctionEnv (defScope s_Ring___init__) mainGlobals [("__class__", cc)] [("self", .ref x), ("capacities", .ref p)] ("Ring.__init__" ++ ".<locals>.") (some f) (.ref cda) none builtinsNs) Q E s := by
  simp only [newFunctionEnv, Bool.false_eq_true, Option.isSome_none, if_false]
  apply wpAny_bind; apply wpAny_alloc
  refine wpAny_bind (wpAny_layCells _ (fun _ kd _ => by rcases kc : kd == NameKind.cell with _ | _ <;> simp [kc]) _ _ _ _ ?_)
  have hp : pushCells (s.heap.push { cls := .type "frame", data := .dict #[] }) (defScope s_Ring___init__).names = (s.heap.push { cls := .type "frame", data := .dict #[] }).push { cls := .type "cell", data := .cell none } := rfl
  have sz : (s.heap.push { cls := .type "frame", data := .dict #[] }).objs.size = s.heap.objs.size + 1 := Heap.size_push ..
  show wpAny _ _ (forIn [(("self" : Str), Value.ref x), ("capacities", Value.ref p)] _ _ >>= _) _ _ { s with heap := pushCells (s.heap.push { cls := .type "frame", data := .dict #[] }) (defScope s_Ring___init__).names }
  rw [hp]
  have hcs : cellsFrom (s.heap.push { cls := .type "frame", data := .dict #[] }).objs.size (defScope s_Ring___init__).names [("__class__", cc)] = ([("stages", s.heap.objs.size + 1), ("__class__", cc)] : List (Str × Addr)) := by
    rw [sz]
    rfl
  have n0 : ((s.heap.push { cls := .type "frame", data := .dict #[] }).push { cls := .type "cell", data := .cell none }).Ns s.heap.objs.size (fun _ => none) := (Heap.Ns.new s.heap (.type "frame")).keeps fun b o e => Heap.get?_push_of_some _ e
  have c0 : ((s.heap.push { cls := .type "frame", data := .dict #[] }).push { cls := .type "cell", data := .cell none }).IsCell (s.heap.objs.size + 1) none := ⟨_, by rw [← sz]; exact Heap.get?_push_size _ rfl, rfl⟩
  have k0 : ∀ b o, s.heap.get? b = some o → ((s.heap.push { cls := .type "frame", data := .dict #[] }).push { cls := .type "cell", data := .cell none }).get? b = some o := fun b o e => Heap.get?_push_of_some _ (Heap.get?_push_of_some _ e)
  generalize (s.heap.push { cls := .type "frame", data := .dict #[] }).push { cls := .type "cell", data := .cell none } = h0 at n0 c0 k0
  dsimp only
  rw [hcs]
  have lS : (defScope s_Ring___init__).names.lookup ("self" : Str) = some .local := by decide +kernel
  have lC : (defScope s_Ring___init__).names.lookup ("capacities" : Str) = some .local := by decide +kernel
  rw [List.forIn_cons]
  refine wpAny_bind (wpAny_bind (wpAny_bind (wpAny_storeName_local (env := envR s.heap.objs.size f cda cc) lS n0 (fun h1 n1 b1 => wpAny_pure ?_) rfl)))
  dsimp only
  rw [List.forIn_cons]
  refine wpAny_bind (wpAny_bind (wpAny_storeName_local (env := envR s.heap.objs.size f cda cc) lC n1 (fun h2 n2 b2 => wpAny_pure ?_) rfl))
  dsimp only
  rw [List.forIn_nil]
  refine wpAny_pure (wpAny_pure (h h2 _ n2 ((c0.sameBut b1 (Nat.succ_ne_self _)).sameBut b2 (Nat.succ_ne_self _)) fun b o e => ?_))
  have hb : b ≠ s.heap.objs.size := Nat.ne_of_lt (Heap.lt_size e)
  exact (b2.2 b hb).trans ((b1.2 b hb).trans (k0 b o e))
/-- where its body runs -/
def cxR (P : Program) (w : World) (K : PySem.W.Frag) (mg : Str → Option Value) (base : Heap) (f cda cc : Addr) (A : Around) (outer : List PySem.Env) (s : Shared) (H : Hp) : Cx where
  prog := P
  w := w
  K := K
  mg := mg
  base := base
  A := A.deeper (envR s.heap.objs.size f cda cc)
  N := NR
  s_0 := s
  H_0 := H
  env := envR s.heap.objs.size f cda cc
  outer := outer
  stack := envR s.heap.objs.size f cda cc :: outer
  ex := []
  calm := true
  fn := fun x => x == "stages"
  pn := []
  xe := fun _ _ => False
theorem cellsR {L cc c : Addr} {y : Str} (h : ([("stages", L + 1), ("__class__", cc)] : List (Str × Addr)).lookup y = some c) : (y = "stages" ∧ c = L + 1) ∨ (y = "__class__" ∧ c = cc) := by
  rw [List.lookup_cons] at h
  cases e : y == ("stages" : Str) with
  | true =>
    rw [e] at h
    exact .inl ⟨beq_iff_eq.mp e, (Option.some.inj h).symm⟩
  | false =>
    rw [e, List.lookup_cons] at h
    cases e2 : y == ("__class__" : Str) with
    | true =>
      rw [e2] at h
      exact .inr ⟨beq_iff_eq.mp e2, (Option.some.inj h).symm⟩
    | false =>
      rw [e2] at h
      cases h
theorem inv_R {P : Program} {w : World} {K : PySem.W.Frag} {mg : Str → Option Value} {base : Heap} {f cda cc x p CR : Addr} {A : Around} {outer : List PySem.Env} {s : Shared} {H : Hp} {h1 : Heap} {tk : Nat} {ccl : Value} {cld : Option Addr} {csl : Array (Option Value)}
    (hd : A.handled = none) (e0 : Env0 P w K mg base A outer s H) (hcc : K.lookup cc = some ⟨ccl, cld, .cell (some (.ref CR)), csl⟩) (hn : h1.Ns s.heap.objs.size (mR x p)) (hc : h1.IsCell (s.heap.objs.size + 1) none) (hk : ∀ b o, s.heap.get? b = some o → h1.get? b = some o) :
    Inv (cxR P w K mg base f cda cc A outer s H) [] (L2.start NR [.ref x, .ref p]) H { s with heap := h1, toks := tk } := by
  have noA : ∀ b : Addr, b ∉ (cxR P w K mg base f cda cc A outer s H).ex := fun b z => absurd (show b ∈ ([] : List Addr) from z) (by simp)
  obtain ⟨g1, g2⟩ := e0.bs cc _ (e0.mod.kin _ _ hcc)
  have lt : cc < s.heap.objs.size := Heap.lt_size g1
  have lk : ∀ {y : Str} {c : Addr}, (cxR P w K mg base f cda cc A outer s H).env.cells.lookup y = some c → (y = "stages" ∧ c = s.heap.objs.size + 1) ∨ (y = "__class__" ∧ c = cc) := fun h => cellsR h
  refine ⟨⟨e0.mod, rfl, rfl, rfl, Nat.le_refl _, fun y z c a b => ?_, fun y hy => ?_, fun y c a b => ?_, fun _ => hd, Around.frames_deeper e0.frames, .inr ⟨rfl, rfl⟩, fun b z => absurd z (noA b), e0.bs, e0.bsz, fun b _ _ => noA b, fun b z => absurd z (noA b), e0.funs, e0.frf⟩,
    rfl, e0.bare, Un.kept hk, ⟨_, hn, fun i y v a b c => ?_⟩, fun y c a => ?_, e0.hok.fresh (Nat.le_refl _), fun y c a => ?_, fun q hq => absurd (show q ∈ ([] : List (Addr × Obj)) ++ [] from hq) (by simp), e0.hok.kept hk, rfl⟩
  · rcases lk a with ⟨rfl, rfl⟩ | ⟨rfl, rfl⟩ <;> rcases lk b with ⟨rfl, e⟩ | ⟨rfl, e⟩
    · rfl
    · exact absurd (show s.heap.objs.size + 1 < s.heap.objs.size from by rw [show s.heap.objs.size + 1 = cc from e]; exact lt) (by omega)
    · exact absurd (show s.heap.objs.size + 1 < s.heap.objs.size from by rw [← show _ = s.heap.objs.size + 1 from e]; exact lt) (by omega)
    · rfl
  · have hall : ∀ q ∈ (defScope s_Ring___init__).names, q.2 = .cell ∨ q.2 = .free → q.1 = "stages" ∨ q.1 = "__class__" := by decide +kernel
    have key : y = "stages" ∨ y = "__class__" := by
      have hy : (defScope s_Ring___init__).names.lookup y = some .cell ∨ (defScope s_Ring___init__).names.lookup y = some .free := hy
      rcases hy with hy | hy
      · exact hall _ (PySem.mem_of_lookup hy) (.inl rfl)
      · exact hall _ (PySem.mem_of_lookup hy) (.inr rfl)
    rcases key with rfl | rfl
    · exact ⟨s.heap.objs.size + 1, rfl⟩
    · exact ⟨cc, rfl⟩
  · rcases lk b with ⟨rfl, rfl⟩ | ⟨rfl, rfl⟩
    · exact Nat.le_succ _
    · exact absurd (show (("__class__" : Str) == "stages") = true from a) (by decide)
  · match i, a, b with
    | 0, a, b =>
      cases a
      cases b
      exact ⟨.ref x, rfl, .inl ⟨lkSelf, rfl⟩⟩
    | 1, a, b =>
      cases a
      cases b
      exact ⟨.ref p, rfl, .inl ⟨lkCaps, rfl⟩⟩
    | i + 2, a, b =>
      have b : (List.replicate 4 (none : Option V))[i]? = some (some v) := b
      rw [List.getElem?_replicate] at b
      split at b <;> cases b
  · rcases lk a with ⟨rfl, rfl⟩ | ⟨rfl, rfl⟩
    · exact ⟨_, hc⟩
    · exact ⟨_, _, hk _ _ g1, rfl⟩
  · rcases lk a with ⟨rfl, rfl⟩ | ⟨rfl, rfl⟩
    · exact e0.hok.fresh (Nat.le_succ _)
    · exact g2
end WD

set_option Elab.async false
set_option linter.all false
set_option maxRecDepth 100000
set_option maxHeartbeats 3900000
namespace WD
open PySem PySem.Spec PyProof.Rows L2 Evl WT WM WB L2H
def spRing (CR : Addr) : Sp := fun vs H Q _ => ∃ (x dx : Addr) (caps : List Int), vs = .ref x :: caps.map V.int ∧ H x = some (.ins CR dx []) ∧ 3 ≤ caps.length ∧ caps.length ≤ 5 ∧ (∀ c ∈ caps, 1 ≤ c ∧ c ≤ 3) ∧
  ∀ H', (∀ b o, b ≠ x → H b = some o → H' b = some o) → (netT CR caps).p (.ref x) H' → Q .non H'
def sup_ (i : Nat) : Stmt := (defBody s_Ring___init__).getD i (.Pass ⟨0, 0, 0, 0⟩)
theorem bodyR : defBody s_Ring___init__ = [sup_ 0, sup_ 1, sup_ 2, sup_ 3, sup_ 4] := rfl
theorem toE {α : Type} {M : Model} {A : Around} {t : Sem α} {Q : α → Shared → Prop} {E : Value → Shared → Prop} {s : Shared} (h : wpAny M A t Q (fun _ _ => False) s) : wpAny M A t Q E s := wpAny_mono h (fun _ _ x => x) fun _ _ z => z.elim
def endsN (Q : L2.St → Hp → Prop) : Ends := { nx := Q, rt := fun _ _ => False, bk := fun _ _ => False, ct := fun _ _ => False }
/-- a statement of the body runs -/
theorem stepR {X : Cx} {st : Stmt} {t : TS} {pins : List (Addr × Obj)} {σ : L2.St} {H : Hp} {s : Shared} {rest : List Stmt} {c : Code} {Q : L2.St → Hp → Prop} {R : Flow → Shared → Prop} {E : Value → Shared → Prop} (hx : X.xe = fun _ _ => False) (ht : PS X st t) (I : Inv X pins σ H s) (h : t (endsN Q) σ H)
    (k : ∀ σ' H' s', Inv X pins σ' H' s' → Q σ' H' → _root_.PySem.wpAt (model X.prog X.w) X.A c (execs rest X.env) R E s') : _root_.PySem.wpAt (model X.prog X.w) X.A c (execs (st :: rest) X.env) R E s := by
  refine ks_wpAt_execs_cons (PySem.wpAt_of_wpAny (wpAny_mono (ht.run pins s σ H _ I h) (fun fl s' hs => ?_) fun _ _ z => by rw [hx] at z; exact z.elim))
  cases fl with
  | next =>
    obtain ⟨σ', H', J, q⟩ := hs
    exact k σ' H' s' J q
  | ret u =>
    obtain ⟨_, _, _, _, _, q⟩ := hs
    exact q.elim
  | brk =>
    obtain ⟨_, _, _, q⟩ := hs
    exact q.elim
  | cont =>
    obtain ⟨_, _, _, q⟩ := hs
    exact q.elim
section
variable {w : World} {K : PySem.W.Frag} {mg : Str → Option Value} {base : Heap} {CR CN CU fU KA : Addr} {mc mcR : Value} {fI fN fC pC cda cc : Addr}
/-- the four statements ahead of super() -/
theorem bodyR_run (F : TopF K mg CR CN CU fU KA mc) (G : RingF K mg CR CN mc mcR fI fN fC pC cda cc) {A : Around} {outer : List PySem.Env} {s0 s : Shared} {H0 H : Hp} {x dx p : Addr} {caps : List Int} {c : Code} {R : Flow → Shared → Prop} {E : Value → Shared → Prop}
    (hr : Room 4 (cxR WE.PG w K mg base fI cda cc A outer s0 H0).A) (I : Inv (cxR WE.PG w K mg base fI cda cc A outer s0 H0) [] (L2.start NR [.ref x, .ref p]) H s) (hx : H x = some (.ins CR dx [])) (hp : (TN caps).p (.ref p) (hid [x] H)) (h3 : 3 ≤ caps.length) (h5 : caps.length ≤ 5) (hc : ∀ c ∈ caps, 1 ≤ c ∧ c ≤ 3)
    (k : ∀ σ' H' s', Inv (cxR WE.PG w K mg base fI cda cc A outer s0 H0) [] σ' H' s' → Ex H H' → At [x] [some (tv (.ref x)), some (TN caps), some (tI (caps.length : Nat)), some (lst (chansT caps)), none, none] σ' H' →
      _root_.PySem.wpAt (model WE.PG w) (cxR WE.PG w K mg base fI cda cc A outer s0 H0).A c (execs [sup_ 4] (cxR WE.PG w K mg base fI cda cc A outer s0 H0).env) R E s') :
    _root_.PySem.wpAt (model WE.PG w) (cxR WE.PG w K mg base fI cda cc A outer s0 H0).A c (execs (defBody s_Ring___init__) (cxR WE.PG w K mg base fI cda cc A outer s0 H0).env) R E s := by
  rw [bodyR]
  have a : At [x] (st0 NR [tv (.ref x), TN caps]) (L2.start NR [.ref x, .ref p]) H := at_start (fun b hb => by rw [List.mem_singleton.1 hb]; exact ⟨_, hx, rfl⟩) (.cons rfl (.cons hp .nil))
  refine stepR (Q := fun σ' H' => Ex H H' ∧ At [x] [some (tv (.ref x)), some (TN caps), some (tI (caps.length : Nat)), none, none, none] σ' H') rfl (st := sup_ 0) (ps_set (i := 2) sc_Ring___init__.nd rfl (Or.inr rfl) (pe_callB (klen K) (by rfl) F.n_len b_len (pa_cons (pv 1) pa_nil))) I (s_asg (e_is (e_cb (a_cons (e_var rfl) a_nil) c_lenT) (by rw [List.length_map])) a fun v H1 e a1 => ⟨e, a1⟩) fun σ1 H1 s1 I1 q1 => ?_
  obtain ⟨e1, a1⟩ := q1
  refine stepR (Q := fun σ' H' => Ex H1 H' ∧ At [x] [some (tv (.ref x)), some (TN caps), some (tI (caps.length : Nat)), none, none, none] σ' H') rfl (st := sup_ 1) (ps_if (pt_not (pt_chain op_le op_le (kcv K (C8.pe_gc (by rfl) F.g_Ring)) (pv 2) (kcv K (C8.pe_gc (by rfl) F.g_Net)))) (pss_one ps_never) pss_nil) I1 (s_no (t_is (t_not (t_test (e_chain (e_cval G.rdR G.vLeast e_c) (e_var rfl) (e_cval F.rdN F.vStages e_c) o_I0 o_I0))) ?_) a1 fun H2 e a2 => ⟨e, a2⟩) fun σ2 H2 s2 I2 q2 => ?_
  · simp
    omega
  obtain ⟨e2, a2⟩ := q2
  refine stepR (Q := fun σ' H' => Ex H2 H' ∧ At [x] [some (tv (.ref x)), some (TN caps), some (tI (caps.length : Nat)), none, none, none] σ' H') rfl (st := sup_ 2) (ps_expr (C8.pe_c (cal_check_capacities F G) hr (by decide) (by rfl) (pa_cons (pv 1) pa_nil))) I2 (s_drop (e_call (a_cons (e_var rfl) a_nil) ⟨caps, rfl, rfl, h5, hc⟩) a2 fun H3 e a3 => ⟨e, a3⟩) fun σ3 H3 s3 I3 q3 => ?_
  obtain ⟨e3, a3⟩ := q3
  refine stepR (Q := fun σ' H' => Ex H3 H' ∧ At [x] [some (tv (.ref x)), some (TN caps), some (tI (caps.length : Nat)), some (lst (chansT caps)), none, none] σ' H') rfl (st := sup_ 3) (ps_setLc (i := 3) (own := [("stage", 4), ("capacity", 5)]) (g := gTup K 2 (gCons (gName 4) (gCons (gName 5) gNil))) rfl sc_Ring___init__.nd rfl rfl (sw_true rfl rfl rfl (by decide +kernel)) (kenum K rfl F.n_enumerate (pa_cons (pv 1) pa_nil)) (blkOk_by (N := ["self", "capacities", "stages", "channels", "stage", "capacity"]) (sc := defScope s_Ring___init__) (by decide +kernel)) (fun _ _ _ _ _ => (pg_tup rfl (pgs_cons (pg_name (i := 4) sc_Ring___init__.nd rfl (Or.inl rfl)) (pgs_cons (pg_name (i := 5) sc_Ring___init__.nd rfl (Or.inl rfl)) pgs_nil)))) (fun _ _ _ _ _ => pts_nil) (fun _ _ _ _ _ => (pe_tup (pa_cons (pv 4) (pa_cons (pe_op op_mod (pe_op op_add (pv 4) pe_int) (pv 2)) (pa_cons (pv 5) pa_nil)))))) I3 (s_asg (T := lst (chansT caps)) (e_is (e_lc (n := caps.length) (f := fun _ => true) (u := chT caps) (Γs := fun i => [some (tv (.ref x)), some (TN caps), some (tI (caps.length : Nat)), none, some (tI (i : Nat)), some (tI (gi caps i))])
    (i_enum (a_cons (e_var rfl) a_nil) (by simp) fun i hi => tn_at hi) (fun i hi => g_pair) (by decide) (fun i hi => t_yes) (fun i hi _ => e_is (e_tup (a_cons (e_var rfl) (a_cons (e_op (e_op (e_var rfl) e_c o_I0) (e_var (T := tI (caps.length : Nat)) rfl) (o_I (show (0 : Int) < ((caps.length : Nat) : Int) by omega))) (a_cons (e_var rfl) a_nil))) (by simp)) ?_) (by omega)) (congrArg lst (given_all _ _))) a3 fun v H4 e a4 => ⟨e, a4⟩) fun σ4 H4 s4 I4 q4 => ?_
  · have e : (((i : Nat) : Int) + 1) % ((caps.length : Nat) : Int) = ((nxN caps.length i : Nat) : Int) := by
      unfold nxN
      rw [Int.natCast_emod, Int.natCast_add]
      rfl
    show tup [tI (i : Nat), tI ((((i : Nat) : Int) + 1) % ((caps.length : Nat) : Int)), tI (gi caps i)] = chT caps i
    rw [e]
    rfl
  obtain ⟨e4, a4⟩ := q4
  exact k σ4 H4 s4 I4 (((e1.trans e2).trans e3).trans e4) a4
end
end WD

set_option Elab.async false
set_option linter.all false
set_option maxRecDepth 100000
set_option maxHeartbeats 3900000
namespace WD
open PySem PySem.Spec PyProof.Rows L2 Evl WT WM WB L2H
section
variable {w : World} {K : PySem.W.Frag} {mg : Str → Option Value} {base : Heap} {CR CN CU fU KA : Addr} {mc mcR : Value} {fI fN fC pC cda cc : Addr}
/-- super().__init__(stages, tuple(channels)) -/
theorem superR (F : TopF K mg CR CN CU fU KA mc) (G : RingF K mg CR CN mc mcR fI fN fC pC cda cc) {A : Around} {outer : List PySem.Env} {s0 s : Shared} {H0 H : Hp} {x dx : Addr} {caps : List Int} {σ : L2.St} {body : List Stmt} {R : Flow → Shared → Prop} {E : Value → Shared → Prop}
    (hr : Room 4 (cxR WE.PG w K mg base fI cda cc A outer s0 H0).A) (I : Inv (cxR WE.PG w K mg base fI cda cc A outer s0 H0) [] σ H s) (hx : H x = some (.ins CR dx [])) (h3 : 3 ≤ caps.length) (h5 : caps.length ≤ 5)
    (a : At [x] [some (tv (.ref x)), some (TN caps), some (tI (caps.length : Nat)), some (lst (chansT caps)), none, none] σ H)
    (k : ∀ H' s', Inv (cxR WE.PG w K mg base fI cda cc A outer s0 H0) [] σ H' s' → (∀ b o, b ≠ x → H b = some o → H' b = some o) → (netT CR caps).p (.ref x) H' → R .next s') :
    _root_.PySem.wpAt (model WE.PG w) (cxR WE.PG w K mg base fI cda cc A outer s0 H0).A (.func body (cxR WE.PG w K mg base fI cda cc A outer s0 H0).env) (execs [sup_ 4] (cxR WE.PG w K mg base fI cda cc A outer s0 H0).env) R E s := by
  obtain ⟨oc, od, kV, doc, pm, an, ct, osl, lk⟩ := G.fn
  obtain ⟨ccl, cld, csl, hcc⟩ := G.cell
  obtain ⟨dcl, dld, dsl, vs, file, tf, hcode, hvs, hfile⟩ := G.code
  obtain ⟨cdR, hcl⟩ := G.clR
  have KX : K.In s.heap := I.kIn
  obtain ⟨mb, b1, b2⟩ := I.mod.blt
  have g1 := I.mod.glob.keeps I.bk
  have g2 := b1.keeps I.bk
  obtain ⟨m, hn, hl⟩ := I.loc
  have s0' : σ[0]? = some (some (V.ref x)) := by
    obtain ⟨v, e1, e2⟩ := a.env 0 _ rfl
    rw [show v = V.ref x from e2] at e1
    exact e1
  obtain ⟨u, ru, hu⟩ := hl 0 "self" (.ref x) rfl s0' (.inl lkSelf)
  obtain rfl : u = Value.ref x := ru
  have hself : m "self" = some (.ref x) := by
    rcases hu with ⟨_, e⟩ | ⟨e, _⟩
    · exact e
    · have q : (defScope s_Ring___init__).names.lookup ("self" : Str) = some .cell ∨ (defScope s_Ring___init__).names.lookup ("self" : Str) = some .free := e
      rw [lkSelf] at q
      rcases q with q | q <;> cases q
  obtain ⟨mA, O, _⟩ := ins_get I.hok hx
  obtain ⟨ox, J, _⟩ := O.look
  obtain ⟨oD, hD1, hD2⟩ : ∃ oD, s.heap.get? CR = some oD ∧ oD.data = .cls cdR := by
    unfold PySem.W.clsIn at hcl
    split at hcl
    · cases hcl
      exact ⟨_, KX _ _ (by assumption), rfl⟩
    · cases hcl
  refine ks_wpAt_execs_cons ?_
  refine ks_wpAt_Expr_any ?_ (by rfl) (by rfl)
  refine ks_wpAt_MethodCall (pl := pure false) ?_ (by rfl)
  refine ks_wpAt_super_base (f := fI) (of := ⟨oc, od, .func (PySem.W.ksFn "__init__" "Ring.__init__" (defArgs s_Ring___init__) (defBody s_Ring___init__) (defScope s_Ring___init__) .none kV doc pm an (.ref cda) ct cc), osl⟩)
    (fd := PySem.W.ksFn "__init__" "Ring.__init__" (defArgs s_Ring___init__) (defBody s_Ring___init__) (defScope s_Ring___init__) .none kV doc pm an (.ref cda) ct cc)
    (cc := cda) (oc := ⟨dcl, dld, .fields vs, dsl⟩) (vs := vs) (file := file) (tf := tf) (by rfl) (by rfl) (by decide +kernel) (by rfl) (KX _ _ lk) (by rfl) (by rfl) (by rfl) (KX _ _ hcode) (by rfl) hvs hfile (by decide +kernel) ?_
  refine PySem.W.ks_loadName_global (by rfl) (by rfl) (Calls.loadGlobal_builtin g1 G.gSup g2 ((b2 _ (by decide +kernel)).trans WE.bootSuper) ⟨rfl, ?_⟩)
  refine wpAny_loadName_free (by rfl) (by rfl) (c := cc) (by rfl) ⟨_, KX _ _ hcc, rfl⟩ ?_
  refine wpAny_loadName_local (by rfl) (by rfl) hn (v := .ref x) hself ?_
  obtain ⟨hh, g, d, t, os⟩ := s
  apply ks_wpAny_isType_cls hD1 hD2; refine ⟨rfl, ?_⟩
  refine ks_wpAny_call_super hD1 hD2 J.at_ J.cls (fun c e => ?_) (PySem.W.looks_mroIn KX G.mrR) (fun h' e k1 => ?_)
  · have z := J.no
    unfold PySem.W.notCls at z
    rw [e] at z
    exact Bool.noConfusion z
  have I5 := ClX.pin_new (h' := h') (t' := t) I k1 (Nat.le_refl _) e (fun v z => nomatch z)
  have X5 : K.In h' := I5.kIn
  obtain ⟨of, lof, hof, hofc⟩ : ∃ of, K.lookup fN = some of ∧ h'.get? fN = some of ∧ of.cls = .type "function" := by
    have ht' : (K.lookup fN).map (·.cls) = some (.type "function") := G.tyN
    cases z : K.lookup fN with
    | none => simp [z] at ht'
    | some of => rw [z] at ht'; exact ⟨of, rfl, X5 _ _ z, Option.some.inj ht'⟩
  obtain ⟨mA5, O5, _⟩ := ins_get I5.hok hx
  obtain ⟨ox5, J5, _⟩ := O5.look
  have hsup := G.sup
  unfold PySem.W.ks_superIn at hsup
  rw [hcl] at hsup
  refine ks_wpAny_getMethod_super e (PySem.W.looks_opaque X5 G.any) (l₀ := cdR.mro) (fun A Q E s k q => wpAny_bind ((PySem.W.looks_clsIn X5 hcl) A _ E s k (wpAny_pure q))) rfl X5 hsup hof hofc (PySem.W.ks_ne X5 J5 hcl) (by decide +kernel) ?_
  have I6 := ClX.pin_new (o := PySem.W.methodObj (.ref fN) (.ref x)) (h' := h'.push (PySem.W.methodObj (.ref fN) (.ref x))) (t' := t + 1) I5 (fun b o e => Heap.get?_push_of_some _ e) (Nat.le_refl _) (Heap.get?_push_size _ rfl) (fun v z => nomatch z)
  refine toE (ClX.callwith_cm (X := cxR WE.PG w K mg base fI cda cc A outer s0 H0) (C := x) (g := fN) (E := (cxR WE.PG w K mg base fI cda cc A outer s0 H0).xe) I6 (ClX.base_none I5 (Nat.le_refl _)) G.fiN (thn ((pa_cons (pv 2) (pa_cons (pe_callTy (ktuple K) (by rfl) F.n_tuple b_tuple (pa_cons (pv 3) pa_nil)) pa_nil)).run _ _ _ σ H (fun vs H7 => ∃ v, vs = [.int (caps.length : Nat), v] ∧ Ex H H7 ∧ (tup (chansT caps)).p v (hid [x] H7)) I6 ?_) fun us s7 hu => ?_) (by rfl) (by rfl))
  · refine (a_cons (e_var (i := 2) (T := tI (caps.length : Nat)) rfl) (a_cons (e_cb (a_cons (e_var (i := 3) (T := lst (chansT caps)) rfl) a_nil) c_tuple) a_nil)) [x] σ H a _ fun vs H7 e7 p7 => ?_
    cases p7 with
    | cons r1 rr =>
      cases rr with
      | cons r2 rr =>
        cases rr
        exact ⟨_, by rw [show _ = V.int (caps.length : Nat) from r1], e7, r2⟩
  obtain ⟨vs7, H7, I7, rv, v, rfl, e7, p7⟩ := hu
  refine ⟨⟨ClX.pin_at I7, I7.kIn⟩, ?_⟩
  refine thn (ClX.run_cm (C := x) (Q := fun v H8 => v = .non ∧ (∀ b o, b ≠ x → H7 b = some o → H8 b = some o) ∧ (netT CR caps).p (.ref x) H8) (E := C8.E0) (fr_net (P := WE.PG) F G) (hr.mono (by decide)) pass0 I7 rv ⟨x, dx, caps, v, rfl, e7 _ _ hx, p7, h3, h5, fun H' k' n' => ⟨rfl, k', n'⟩⟩) fun u s8 hz => ?_
  obtain ⟨v8, H8, I8, _, _, k8, n8⟩ := hz
  exact PySem.wpAt_of_wpAny (wpAny_execs_nil (k H8 s8 (ClX.unpin I8) (fun b o hb hc => k8 b o hb (e7 b o hc)) n8))
end
end WD

set_option Elab.async false
set_option linter.all false
set_option maxRecDepth 100000
set_option maxHeartbeats 3900000
namespace WD
open PySem PySem.Spec PyProof.Rows L2 Evl WT WM WB L2H
section
variable {w : World} {K : PySem.W.Frag} {mg : Str → Option Value} {base : Heap} {CR CN CU fU KA : Addr} {mc mcR : Value} {fI fN fC pC cda cc : Addr}
theorem fr_ring (F : TopF K mg CR CN CU fU KA mc) (G : RingF K mg CR CN mc mcR fI fN fC pC cda cc) : FnR WE.PG w K mg base CX0 5 fI (spRing CR) := by
  rintro A outer s H us vs Q E hr e0 r ⟨x, dx, caps, rfl, hx, h3, h5, hc, q⟩
  obtain ⟨oc, od, kV, doc, pm, an, ct, osl, lk⟩ := G.fn
  obtain ⟨ccl, cld, csl, hcc⟩ := G.cell
  have KX : K.In s.heap := e0.mod.kin.keeps fun b o g => (e0.bs b o g).1
  obtain ⟨u0, us2, rfl, rx, r2⟩ : ∃ u0 us2, us = u0 :: us2 ∧ RelV (.ref x) u0 ∧ Vals (caps.map V.int) us2 := by
    cases r with
    | cons r1 r2 => exact ⟨_, _, rfl, r1, r2⟩
  obtain rfl : u0 = Value.ref x := rx
  have hl2 : us2.length ≤ sizeLine := by
    rw [← r2.length, List.length_map]
    exact Nat.le_of_lt (sz_lt (by omega))
  refine codeAny_call_function hr.depth (KX _ _ lk) rfl (by rfl) (by rfl) rfl (PySem.W.codeRec_of KX G.cd) ?_
  have hb : bindArgs (PySem.W.ksFn "__init__" "Ring.__init__" (defArgs s_Ring___init__) (defBody s_Ring___init__) (defScope s_Ring___init__) .none kV doc pm an (.ref cda) ct cc) ⟨Value.ref x :: us2, []⟩ = (newTuple us2 >>= fun t => pure [(("self" : Str), Value.ref x), ("capacities", t)]) :=
    StX.bind_star1 (B := fun us => bindArgs (PySem.W.ksFn "__init__" "Ring.__init__" (defArgs s_Ring___init__) (defBody s_Ring___init__) (defScope s_Ring___init__) .none kV doc pm an (.ref cda) ct cc) ⟨us, []⟩) (p1 := "self") (pv := "capacities") (fun a => by with_unfolding_all rfl) (fun a r rs => by with_unfolding_all rfl) [.ref x] us2 rfl
  rw [hb]
  apply wpAny_bind; refine wpAny_newTuple (wpAny_pure ?_) hl2
  have hn := e0.hok.fresh (Nat.le_refl s.heap.objs.size)
  have new : ObjOk WE.PG w (upd H s.heap.objs.size (.tup (caps.map V.int))) (s.heap.push ({ cls := .type "tuple", data := .seq us2.toArray } : Obj)) s.heap.objs.size (.tup (caps.map V.int)) := ⟨by rw [r2.length]; exact hl2, us2, r2, ⟨_, Heap.get?_push_size _ rfl, rfl, _, rfl⟩⟩
  have e2 := StX.env0_laid e0 new
  have un := StX.un_laid (fs := frs outer) (s := s) (o := ({ cls := .type "tuple", data := .seq us2.toArray } : Obj)) (u := .tup (caps.map V.int)) hn
  generalize hs2 : ({ s with heap := s.heap.push ({ cls := .type "tuple", data := .seq us2.toArray } : Obj) } : Shared) = s2 at e2
  have os2 : s2.os = s.os := by rw [← hs2]
  generalize hp : s.heap.objs.size = p at *
  have lim : s2.heap.NoLimit := e2.mod.nolimit.keeps fun b o e => (e2.bs b o e).1
  show wpAny _ _ (newFunctionEnv (defScope s_Ring___init__) mainGlobals [("__class__", cc)] [("self", .ref x), ("capacities", .ref p)] ("Ring.__init__" ++ ".<locals>.") (some fI) (.ref cda) none builtinsNs) _ _ _
  refine newEnvR fun h1 tk hns hcell hk => ⟨lim.keeps hk, ks_codeAny_funcAt ?_⟩
  have I := inv_R (P := WE.PG) (w := w) (f := fI) (cda := cda) (tk := tk) hr.hd e2 hcc hns hcell hk
  have hx2 : (upd H p (.tup (caps.map V.int))) x = some (.ins CR dx []) := by rw [upd_ne (ne_of_none hx hn)]; exact hx
  have hpx : p ∉ [x] := fun z => by rw [List.mem_singleton.1 z] at hn; rw [hn] at hx; cases hx
  refine bodyR_run F G (hr.deeper _) I hx2 ⟨p, caps.map V.int, rfl, by rw [hid_of hpx]; exact upd_same, ti_ps caps⟩ h3 h5 hc fun σ' H' s' I' e' a' => ?_
  refine superR F G (hr.deeper _) I' (e' _ _ hx2) h3 h5 a' fun H3 s3 I3 k3 n3 => ?_
  refine ⟨.non, H3, I3.os.trans os2, I3.bare, ?_, I3.hok, rfl, q H3 (fun b o hb' hc' => k3 b o hb' (e' b o ?_)) n3⟩
  · exact un.trans (by rw [← hs2] at I3; exact I3.base)
  · rw [upd_ne (ne_of_none hc' hn)]
    exact hc'
/-- tuples stay seen -/
def DeepT (T : Ty) : Prop := ∀ (S : List Addr) (H : Hp) (v : V), Live S H → T.p v H → T.p v (hid S H)
theorem deep_tv {x : V} : DeepT (tv x) := fun _ _ _ _ h => h
theorem deep_ps {S : List Addr} {H : Hp} (l : Live S H) : ∀ {vs : List V} {ts : List Ty}, (∀ t ∈ ts, DeepT t) → Ps H vs ts → Ps (hid S H) vs ts
  | _, _, _, .nil => .nil
  | _, _, h, .cons a b => .cons (h _ List.mem_cons_self _ _ _ l a) (deep_ps l (fun t ht => h t (List.mem_cons_of_mem _ ht)) b)
theorem deep_tup {ts : List Ty} (h : ∀ t ∈ ts, DeepT t) : DeepT (tup ts) := fun S H v l p => by
  obtain ⟨a, vs, e, h2, h3⟩ := p
  exact ⟨a, vs, e, by rw [hid_of (l.tup h2)]; exact h2, deep_ps l h h3⟩
theorem deep_net {caps : List Int} {f : Str} {T : Ty} (h : (f, T) ∈ netF caps) : DeepT T := by
  simp only [netF, List.mem_cons, List.not_mem_nil, or_false, Prod.mk.injEq] at h
  rcases h with ⟨_, rfl⟩ | ⟨_, rfl⟩ | ⟨_, rfl⟩ | ⟨_, rfl⟩
  · exact deep_tv
  · refine deep_tup fun t ht => ?_
    obtain ⟨i, _, rfl⟩ := List.mem_map.mp ht
    refine deep_tup fun t ht => ?_
    simp only [List.mem_cons, List.not_mem_nil, or_false] at ht
    rcases ht with rfl | rfl | rfl <;> exact deep_tv
  · refine deep_tup fun t ht => ?_
    obtain ⟨i, _, rfl⟩ := List.mem_map.mp ht
    refine deep_tup fun t ht => ?_
    rw [List.mem_singleton.1 ht]
    exact deep_tv
  · refine deep_tup fun t ht => ?_
    obtain ⟨i, _, rfl⟩ := List.mem_map.mp ht
    refine deep_tup fun t ht => ?_
    rw [List.mem_singleton.1 ht]
    exact deep_tv
theorem e_ring {Γ : Cn} {ta : TA} {caps : List Int} {E : XK} (h : EaP ta Γ (caps.map tI)) (h3 : 3 ≤ caps.length) (h5 : caps.length ≤ 5) (hc : ∀ c ∈ caps, 1 ≤ c ∧ c ≤ 3) : EvP (StX.tMakeR CR (spRing CR) E ta) Γ (netT CR caps) := fun S σ H a Q q =>
  h S σ H a _ fun vs H1 e1 p1 x dx hx hd hne => by
    have hv : vs = caps.map V.int := ti_vals p1
    subst hv
    refine ⟨x, dx, caps, rfl, upd_same, h3, h5, hc, fun H' k n => ⟨rfl, ?_⟩⟩
    have e2 : Ex H1 H' := fun b o hb => k b o (ne_of_none hb hx) (by rw [upd_ne (ne_of_none hb hx), upd_ne (ne_of_none hb hd)]; exact hb)
    refine q _ H' (e1.trans e2) ?_
    have l' : Live S H' := (a.ex e1).live.mono e2
    have xS : x ∉ S := (a.ex e1).live.free hx
    obtain ⟨y, dy, fs, ey, n1, n2, n3⟩ := n
    cases ey
    exact ⟨x, dy, fs, rfl, by rw [hid_of xS]; exact n1, fun f T hf => let ⟨z, z1, z2⟩ := n2 f T hf; ⟨z, z1, deep_net hf _ _ _ l' z2⟩, n3⟩
theorem a_is {Γ : Cn} {ta : TA} {Ts Us : List Ty} (h : EaP ta Γ Ts) (e : Ts = Us) : EaP ta Γ Us := e ▸ h
theorem caps3 {caps : List Int} (h : caps.length = 3) : caps = [gi caps 0, gi caps 1, gi caps 2] := by
  match caps, h with
  | [_, _, _], _ => rfl
theorem caps4 {caps : List Int} (h : caps.length = 4) : caps = [gi caps 0, gi caps 1, gi caps 2, gi caps 3] := by
  match caps, h with
  | [_, _, _, _], _ => rfl
theorem caps5 {caps : List Int} (h : caps.length = 5) : caps = [gi caps 0, gi caps 1, gi caps 2, gi caps 3, gi caps 4] := by
  match caps, h with
  | [_, _, _, _, _], _ => rfl
theorem cal__law_ring (F : TopF K mg CR CN CU fU KA mc) (G : RingF K mg CR CN mc mcR fI fN fC pC cda cc) : C8.Cal WE.PG w K mg base 8 "_law_ring" (SpT (Sg__law_ring CR)) [] := by
  refine cal_ty (k := 7) F.d__law_ring sc__law_ring (fun Ts T h => by obtain ⟨caps, rfl, _⟩ := h; rfl) (fun _ _ _ _ _ _ us hl => match us, hl with | [_], _ => rfl) fun f cdv A outer s_ H_ E_ hr Ts T hs => ?_
  obtain ⟨caps, rfl, rfl, h3, h5, hc⟩ := hs
  refine ⟨_, (pss_cons (ps_if (pt_cmpR op_eq (pe_callB (klen K) (by rfl) F.n_len b_len (pa_cons (pv 0) pa_nil)) pe_int (nomark _)) (pss_one (ps_ret (StX.pe_makeR G.mak (fr_ring F G) (hr.mono (by decide)) (by rfl) G.gRing pass0 (pa_cons (pe_ix (kixL K) (pv 0) pe_int (fun _ _ => rfl)) (pa_cons (pe_ix (kixL K) (pv 0) pe_int (fun _ _ => rfl)) (pa_cons (pe_ix (kixL K) (pv 0) pe_int (fun _ _ => rfl)) pa_nil)))))) pss_nil)
      (pss_cons (ps_if (pt_cmpR op_eq (pe_callB (klen K) (by rfl) F.n_len b_len (pa_cons (pv 0) pa_nil)) pe_int (nomark _)) (pss_one (ps_ret (StX.pe_makeR G.mak (fr_ring F G) (hr.mono (by decide)) (by rfl) G.gRing pass0 (pa_cons (pe_ix (kixL K) (pv 0) pe_int (fun _ _ => rfl)) (pa_cons (pe_ix (kixL K) (pv 0) pe_int (fun _ _ => rfl)) (pa_cons (pe_ix (kixL K) (pv 0) pe_int (fun _ _ => rfl)) (pa_cons (pe_ix (kixL K) (pv 0) pe_int (fun _ _ => rfl)) pa_nil))))))) pss_nil)
      (pss_one (ps_ret (StX.pe_makeR G.mak (fr_ring F G) (hr.mono (by decide)) (by rfl) G.gRing pass0 (pa_cons (pe_ix (kixL K) (pv 0) pe_int (fun _ _ => rfl)) (pa_cons (pe_ix (kixL K) (pv 0) pe_int (fun _ _ => rfl)) (pa_cons (pe_ix (kixL K) (pv 0) pe_int (fun _ _ => rfl)) (pa_cons (pe_ix (kixL K) (pv 0) pe_int (fun _ _ => rfl)) (pa_cons (pe_ix (kixL K) (pv 0) pe_int (fun _ _ => rfl)) pa_nil)))))))))), ?_⟩
  have at_ : ∀ (j : Nat), j < caps.length → EvP (tOp (rIxL K) (tVar 0) (tC (.int (j : Nat)))) (st0 ["_law_row"] [lst (caps.map tI)]) (tI (gi caps j)) := fun j hj => e_op (e_var rfl) e_c (o_ixNL hj)
  refine b_if (b := decide (caps.length = 3)) (t_is (t_test (e_op (e_cb (a_cons (e_var rfl) a_nil) c_lenL) e_c (o_eq rfl))) ?_) (fun e => ?_) fun e => ?_
  · rw [List.length_map]
    exact decide_eq_decide.mpr ⟨fun h => by have z := V.int.inj h; omega, fun h => congrArg V.int (by omega)⟩
  · have e := of_decide_eq_true e
    refine b_ret (e_ring (a_is (a_cons (at_ 0 (by omega)) (a_cons (at_ 1 (by omega)) (a_cons (at_ 2 (by omega)) a_nil))) (congrArg (List.map fun i => tI i) (caps3 e)).symm) h3 h5 hc)
  · have e := of_decide_eq_false e
    refine b_if (b := decide (caps.length = 4)) (t_is (t_test (e_op (e_cb (a_cons (e_var rfl) a_nil) c_lenL) e_c (o_eq rfl))) ?_) (fun e4 => ?_) fun e4 => ?_
    · rw [List.length_map]
      exact decide_eq_decide.mpr ⟨fun h => by have z := V.int.inj h; omega, fun h => congrArg V.int (by omega)⟩
    · have e4 := of_decide_eq_true e4
      refine b_ret (e_ring (a_is (a_cons (at_ 0 (by omega)) (a_cons (at_ 1 (by omega)) (a_cons (at_ 2 (by omega)) (a_cons (at_ 3 (by omega)) a_nil)))) (congrArg (List.map fun i => tI i) (caps4 e4)).symm) h3 h5 hc)
    · have e4 := of_decide_eq_false e4
      refine b_ret (e_ring (a_is (a_cons (at_ 0 (by omega)) (a_cons (at_ 1 (by omega)) (a_cons (at_ 2 (by omega)) (a_cons (at_ 3 (by omega)) (a_cons (at_ 4 (by omega)) a_nil))))) (congrArg (List.map fun i => tI i) (caps5 (show caps.length = 5 by omega))).symm) h3 h5 hc)
end
end WD

set_option Elab.async false
set_option linter.all false
set_option maxRecDepth 100000
set_option maxHeartbeats 0
/-! The head's own Hook: functions told by paths, facts by checks. -/
namespace WH
open PySem PyProof.Rows PySem.Spec L2
abbrev Pth : Type := PySem.W.Frag → Addr
abbrev Ck : Type := PySem.W.Frag → Bool
abbrev FnC : Type := Option (Str × Str × Arguments × FuncBody × Scope × Addr × List Str × Value × Addr)
structure FnA where
  at_ : Pth
  name : Str
  qual : Str
  st : Stmt
  cl : List Str
def seen (K : PySem.W.Frag) (p : Pth) : FnC := match K.lookup (p K) with
  | some ⟨_, _, .func fd, _⟩ => some (fd.name, fd.qualname, fd.params, fd.body, fd.scope, fd.globals, fd.closure.map (·.1), fd.defaults, fd.builtins)
  | _ => none
def FnA.val (d : FnA) : FnC := some (d.name, d.qual, defArgs d.st, .stmts (defBody d.st), defScope d.st, mainGlobals, d.cl, .none, builtinsNs)
def FnA.ok (d : FnA) : Ck := fun K => PySem.W.keepIn K (.ref (d.at_ K)) && (match K.lookup (d.at_ K) with
  | some ⟨_, _, .func y, _⟩ => PySem.W.codeIn K y.code d.qual
  | _ => false)
theorem FnA.raw {K : PySem.W.Frag} {d : FnA} (e : seen K d.at_ = d.val) (c : d.ok K = true) :
    PySem.W.keepIn K (.ref (d.at_ K)) = true ∧ ∃ (oc : Value) (od : Option Addr) (kV doc pm : Value) (an : Option Addr) (cdv ct : Value) (osl : Array (Option Value)) (cl : List (Str × Addr)), cl.map (·.1) = d.cl ∧
      K.lookup (d.at_ K) = some ⟨oc, od, .func (PySem.W.fnX d.name d.qual (defArgs d.st) (defBody d.st) (defScope d.st) cl .none kV doc pm an cdv ct), osl⟩ ∧ PySem.W.codeIn K cdv d.qual = true := by
  obtain ⟨kp, c2⟩ := Bool.and_eq_true_iff.mp c
  refine ⟨kp, ?_⟩
  unfold seen at e
  rcases q : K.lookup (d.at_ K) with _ | ⟨oc, od, dt, osl⟩
  · rw [q] at c2
    cases c2
  rw [q] at c2 e
  cases dt
  case func y =>
    rcases y with ⟨n1, n2, n3, n4, n5, n6, n7, n8, n9, n10, n11, n12, n13, n14, n15⟩
    have g : (some (n1, n2, n3, n4, n5, n6, n7.map (·.1), n8, n15) : FnC) = some (d.name, d.qual, defArgs d.st, .stmts (defBody d.st), defScope d.st, mainGlobals, d.cl, .none, builtinsNs) := e
    simp only [Prod.mk.injEq, Option.some.injEq] at g
    rcases g with ⟨g1, g2, g3, g4, g5, g6, g7, g8, g9⟩
    subst g1 g2 g3 g4 g5 g6 g8 g9
    exact ⟨oc, od, n9, n10, n11, n12, n13, n14, osl, n7, g7, rfl, c2⟩
  all_goals cases c2
theorem FnA.fn {K : PySem.W.Frag} {d : FnA} (e : seen K d.at_ = d.val) (c : d.ok K = true) (h : d.cl = []) : ∃ fd, Fun K d.name d.qual d.st (d.at_ K) fd := by
  obtain ⟨kp, oc, od, kV, doc, pm, an, cdv, ct, osl, cl, hc, lk, cd⟩ := FnA.raw e c
  rw [h] at hc
  obtain rfl : cl = [] := List.map_eq_nil_iff.mp hc
  exact ⟨_, fun_mk lk cd kp⟩
/-- a method that names __class__: its cell holds C, its code object bears the program's file -/
def clB (p C : Pth) : Ck := fun K => match K.lookup (p K) with
  | some ⟨_, _, .func fd, _⟩ => (match fd.closure, fd.code with
    | [(_, cc)], .ref cda => (match K.lookup cc with
      | some ⟨_, _, .cell (some (.ref a)), _⟩ => decide (a = C K)
      | _ => false) && (match K.lookup cda with
      | some ⟨_, _, .fields vs, _⟩ => (match (vs[2]? : Option Value) with
        | some (.str file _) => (WE.PG.main.file : Str) == file
        | _ => false)
      | _ => false)
    | _, _ => false)
  | _ => false
theorem FnA.cls {K : PySem.W.Frag} {d : FnA} {C : Pth} (e : seen K d.at_ = d.val) (c : d.ok K = true) (b : clB d.at_ C K = true) (h : d.cl = (["__class__"] : List Str)) :
    ∃ (oc : Value) (od : Option Addr) (kV doc pm : Value) (an : Option Addr) (cda cc : Addr) (ct : Value) (osl : Array (Option Value)),
      K.lookup (d.at_ K) = some ⟨oc, od, .func (PySem.W.ksFn d.name d.qual (defArgs d.st) (defBody d.st) (defScope d.st) .none kV doc pm an (.ref cda) ct cc), osl⟩ ∧ PySem.W.codeIn K (.ref cda) d.qual = true ∧
      (∃ ccl cld csl, K.lookup cc = some ⟨ccl, cld, .cell (some (.ref (C K))), csl⟩) ∧ ∃ dcl dld dsl vs file tf, K.lookup cda = some ⟨dcl, dld, .fields vs, dsl⟩ ∧ vs[2]? = some (.str file tf) ∧ ((WE.PG.main.file : Str) == file) = true := by
  obtain ⟨kp, oc, od, kV, doc, pm, an, cdv, ct, osl, cl, hc, lk, cd⟩ := FnA.raw e c
  rw [h] at hc
  obtain ⟨cc, rfl⟩ : ∃ cc, cl = ([("__class__", cc)] : List (Str × Addr)) := by
    match cl, hc with
    | [(x, cc)], hc =>
      have z : x = "__class__" := (List.cons.inj hc).1
      exact ⟨cc, by rw [z]⟩
  unfold clB at b
  rw [lk] at b
  cases cdv with
  | ref cda =>
    obtain ⟨b1, b2⟩ := Bool.and_eq_true_iff.mp b
    refine ⟨oc, od, kV, doc, pm, an, cda, cc, ct, osl, lk, cd, ?_, ?_⟩
    · split at b1
      · rename_i x1 x2 a x3 q
        rw [of_decide_eq_true b1] at q
        exact ⟨_, _, _, q⟩
      · cases b1
    · split at b2
      · rename_i x1 x2 vs x3 q
        split at b2
        · rename_i file tf q2
          exact ⟨_, _, _, vs, file, tf, q, q2, b2⟩
        · cases b2
      · cases b2
  | _ => cases b
/-! ### checks -/
def gN (x : Str) : Pth := fun K => He.ga K x
def mN (x m : Str) : Pth := fun K => He.ma K (He.ga K x) m
def ty : Value := .type "type"
def readB (x : Str) : Ck := fun K => PySem.W.readsIn K (He.ga K x) ty && decide (PySem.W.specialIn K (.ref (He.ga K x)) "__getattribute__" = some (some (.builtin "type.__getattribute__")))
theorem readB_ok {K : PySem.W.Frag} {x : Str} (h : readB x K = true) : ClX.CRead K (He.ga K x) ty := by
  obtain ⟨h1, h2⟩ := Bool.and_eq_true_iff.mp h
  exact ⟨h1, of_decide_eq_true h2⟩
def cvalB (x f : Str) (i : Int) : Ck := fun K => match PySem.W.findCls K (.ref (He.ga K x)) ty f with
  | some (.val u) => He.relB (.int i) u
  | _ => false
theorem cvalB_ok {K : PySem.W.Frag} {x f : Str} {i : Int} (h : cvalB x f i K = true) : ∃ u, ClX.CVal K (He.ga K x) ty f (.int i) u := by
  unfold cvalB at h
  split at h
  · rename_i u q
    exact ⟨u, q, He.relB_ok h⟩
  · cases h
def smP (x m : Str) : Pth := fun K => match PySem.W.findCls K (.ref (He.ga K x)) ty m with
  | some (.get _ (.ref p) _ _) => p
  | _ => 0
def smG (x m : Str) : Pth := fun K => match PySem.W.recIn K (smP x m K) "staticmethod" with
  | some (.ref g :: _) => g
  | _ => 0
def smB (x m : Str) : Ck := fun K => (match PySem.W.findCls K (.ref (He.ga K x)) ty m with
  | some (.get (.builtin n) (.ref _) .none (.ref c)) => decide (n = "staticmethod.__get__") && decide (c = He.ga K x)
  | _ => false) && ((match PySem.W.recIn K (smP x m K) "staticmethod" with
  | some (.ref _ :: _) => true
  | _ => false) && PySem.W.keepIn K (.ref (smG x m K)))
theorem smB_ok {K : PySem.W.Frag} {x m : Str} (h : smB x m K = true) : WR.SMet K (He.ga K x) ty m (smP x m K) (smG x m K) := by
  obtain ⟨h1, h⟩ := Bool.and_eq_true_iff.1 h
  obtain ⟨h2, h3⟩ := Bool.and_eq_true_iff.mp h
  refine ⟨?_, ?_, h3⟩
  · unfold smP
    split at h1
    · rename_i n p c q
      obtain ⟨a, b⟩ := Bool.and_eq_true_iff.mp h1
      rw [q, of_decide_eq_true a, of_decide_eq_true b]
    · cases h1
  · unfold smG
    split at h2
    · rename_i g rest q
      rw [q]
      exact ⟨rest, rfl⟩
    · cases h2
def exB (x : Str) : Ck := fun K => match K.lookup (He.ga K x) with
  | some ⟨.type "type", _, .cls y, sl⟩ => (match y.mro, sl.toList with
    | .ref C' :: bm, [_, _, _, _, some (.builtin n), _] => decide (C' = He.ga K x) && (decide (n = "ValueError.__new__") && (!y.hasDel && (y.hasDict && PySem.HandSPX.refsVE bm)))
    | _, _ => false)
  | _ => false
theorem exB_ok {K : PySem.W.Frag} {x : Str} (h : exB x K = true) : ∃ nm q N bs bm sn sub ab col dd k0 k1 k2 k3 k5, K.lookup (He.ga K x) = some (excClassObj nm q (He.ga K x) N bs bm true sn sub ab col dd k0 k1 k2 k3 k5 "ValueError.__new__") ∧ PySem.HandSPX.refsVE bm = true := by
  unfold exB at h
  split at h
  · rename_i dd cd sl q
    split at h
    · rename_i C' bm k0 k1 k2 k3 n k5 q1 q2
      obtain ⟨a1, h⟩ := Bool.and_eq_true_iff.mp h
      obtain ⟨a2, h⟩ := Bool.and_eq_true_iff.mp h
      obtain ⟨a3, h⟩ := Bool.and_eq_true_iff.mp h
      obtain ⟨a4, a5⟩ := Bool.and_eq_true_iff.mp h
      obtain ⟨c1, c2, c3, c4, c5, c6, c7, c8, c9, c10, c11⟩ := cd
      have e1 : C' = He.ga K x := of_decide_eq_true a1
      have e2 : n = "ValueError.__new__" := of_decide_eq_true a2
      have e3 : c3 = .ref C' :: bm := q1
      have e4 : c6 = true := a4
      have e5 : c11 = false := by
        have z : (!c11) = true := a3
        cases c11
        · rfl
        · cases z
      have e6 : sl = #[k0, k1, k2, k3, some (.builtin n), k5] := by
        obtain ⟨l⟩ := sl
        have z : l = [k0, k1, k2, k3, some (.builtin n), k5] := q2
        rw [z]
      subst e1 e2 e3 e4 e5 e6
      exact ⟨_, _, _, _, bm, _, _, _, _, _, _, _, _, _, _, q, a5⟩
    · cases h
  · cases h
/-- equations between what is found -/
def unB : Ck := fun K =>
  decide (PySem.W.findIn K (.ref (gN "Unreachable" K)) "__setattr__" = some (some (.builtin "object.__setattr__"))) && (decide (PySem.W.findIn K (.ref (gN "Unreachable" K)) "objection" = some none) && (decide (PySem.W.findIn K (.ref (gN "Unreachable" K)) "__init__" = some (some (.ref (mN "Unreachable" "__init__" K)))) &&
  (decide (PySem.W.typeIn K (.ref (mN "Unreachable" "__init__" K)) = some (.type "function")) && (PySem.W.keepIn K (.ref (gN "Unreachable" K)) && (decide (PySem.W.subIn K (.ref (gN "Unreachable" K)) (.type "BaseException") = some true) && (decide (PySem.W.subIn K (.ref (gN "Unreachable" K)) (.type "ValueError") = some true) &&
  (decide (PySem.W.mroIn K (gN "Unreachable" K) (.ref (gN "Unreachable" K)) = some true) && (decide (PySem.W.typeIn K (.ref (gN "Unreachable" K)) = some (.type "type")) && (PySem.W.hasDictIn K (gN "Unreachable" K) && (decide (PySem.W.nsIn K cStatics "thirdparty.any" = some none) &&
  decide (PySem.W.ks_superIn K (gN "Unreachable" K) (gN "Unreachable" K) "__init__" = some (some (.builtin "ValueError.__init__")))))))))))))
def ringB : Ck := fun K =>
  decide (PySem.W.findIn K (.ref (gN "Net" K)) "__init__" = some (some (.ref (mN "Net" "__init__" K)))) && (PySem.W.fnIn K (mN "Net" "__init__" K) && (decide (PySem.W.typeIn K (.ref (mN "Net" "__init__" K)) = some (.type "function")) &&
  (decide (PySem.W.ks_superIn K (gN "Ring" K) (gN "Ring" K) "__init__" = some (some (.ref (mN "Net" "__init__" K)))) && (decide (PySem.W.mroIn K (gN "Ring" K) (.ref (gN "Ring" K)) = some true) && (PySem.W.clsIn K (gN "Ring" K)).isSome))))
/-! ### the Hook -/
def asW (g : Addr → Option Obj) : Nat → List Addr
  | 0 => [mainGlobals, cStatics]
  | n + 1 => He.growD g (asW g n)
abbrev AlW : Type := Bool × List FnC
def obsW (cs : List Ck) (fn : List FnA) (K : PySem.W.Frag) : AlW := ((cs.all fun c => c K) && fn.all fun d => d.ok K, fn.map fun d => seen K d.at_)
def valW (fn : List FnA) : AlW := (true, fn.map FnA.val)
def obsWG (n : Nat) (cs : List Ck) (fn : List FnA) (g : Addr → Option Obj) : AlW := obsW cs fn (He.frG g (asW g n))
def hookW (n : Nat) (cs : List Ck) (fn : List FnA) : PySem.W.Hook where
  α := AlW
  obs := fun s => obsWG n cs fn s.heap.get?
  val := fun _ => valW fn
  says := fun _ h => ∃ K : PySem.W.Frag, K.In h ∧ obsW cs fn K = valW fn
  of := fun _ _ e => ⟨_, He.frG_in, e⟩
  keeps := fun _ _ _ z k => let ⟨K, hK, c⟩ := z; ⟨K, PySem.W.Frag.In.keeps hK k, c⟩
section
variable {cs : List Ck} {fn : List FnA} {K : PySem.W.Frag}
theorem says_ck (c : obsW cs fn K = valW fn) (i : Nat) {f : Ck} (h : cs[i]? = some f := by rfl) : f K = true := by
  have z : ((cs.all fun c => c K) && fn.all fun d => d.ok K) = true := congrArg (fun z : AlW => z.1) c
  exact List.all_eq_true.mp (Bool.and_eq_true_iff.mp z).1 f (List.mem_of_getElem? h)
theorem says_fn (c : obsW cs fn K = valW fn) (i : Nat) {d : FnA} (h : fn[i]? = some d := by rfl) : seen K d.at_ = d.val ∧ d.ok K = true := by
  have z : ((cs.all fun c => c K) && fn.all fun d => d.ok K) = true := congrArg (fun z : AlW => z.1) c
  have e : (fn.map fun d => seen K d.at_) = fn.map FnA.val := congrArg (fun z : AlW => z.2) c
  have e2 : (fn.map fun d => seen K d.at_)[i]? = (fn.map FnA.val)[i]? := by rw [e]
  simp only [List.getElem?_map, h] at e2
  exact ⟨Option.some.inj e2, List.all_eq_true.mp (Bool.and_eq_true_iff.mp z).2 d (List.mem_of_getElem? h)⟩
end
end WH

set_option Elab.async false
set_option linter.all false
set_option maxRecDepth 100000
set_option maxHeartbeats 0
namespace WH
open PySem PySem.Spec PyProof.Rows L2 WB WD WM
abbrev fns0 : List FnA := [⟨gN "is_integer", "is_integer", "is_integer", s_is_integer, []⟩, ⟨gN "check_number", "check_number", "check_number", s_check_number, []⟩, ⟨gN "check_capacities", "check_capacities", "check_capacities", s_check_capacities, []⟩, ⟨gN "numbers_by_end", "numbers_by_end", "numbers_by_end", s_numbers_by_end, []⟩, ⟨gN "check_state", "check_state", "check_state", s_check_state, []⟩, ⟨gN "load_of", "load_of", "load_of", s_load_of, []⟩, ⟨gN "is_owing", "is_owing", "is_owing", s_is_owing, []⟩, ⟨gN "is_jammed", "is_jammed", "is_jammed", s_is_jammed, []⟩, ⟨gN "is_move", "is_move", "is_move", s_is_move, []⟩, ⟨gN "check_move", "check_move", "check_move", s_check_move, []⟩, ⟨gN "side", "side", "side", s_side, []⟩, ⟨gN "is_ready", "is_ready", "is_ready", s_is_ready, []⟩, ⟨gN "unready", "unready", "unready", s_unready, []⟩, ⟨gN "is_allowed", "is_allowed", "is_allowed", s_is_allowed, []⟩, ⟨gN "after", "after", "after", s_after, []⟩, ⟨gN "step_of_row", "step_of_row", "step_of_row", s_step_of_row, []⟩, ⟨gN "run_moves", "run_moves", "run_moves", s_run_moves, []⟩, ⟨gN "is_drawn_on", "is_drawn_on", "is_drawn_on", s_is_drawn_on, []⟩, ⟨gN "range_objections", "range_objections", "range_objections", s_range_objections, []⟩, ⟨gN "channel_objections", "channel_objections", "channel_objections", s_channel_objections, []⟩, ⟨gN "end_objections", "end_objections", "end_objections", s_end_objections, []⟩, ⟨gN "found_objections", "found_objections", "found_objections", s_found_objections, []⟩, ⟨gN "is_reached", "is_reached", "is_reached", s_is_reached, []⟩, ⟨gN "gap", "gap", "gap", s_gap, []⟩, ⟨gN "check_reached", "check_reached", "check_reached", s_check_reached, []⟩, ⟨gN "demand", "demand", "demand", s_demand, []⟩, ⟨gN "moves_towards", "moves_towards", "moves_towards", s_moves_towards, []⟩, ⟨gN "jams_needed_channel", "jams_needed_channel", "jams_needed_channel", s_jams_needed_channel, []⟩, ⟨gN "first_of", "first_of", "first_of", s_first_of, []⟩, ⟨gN "plan_of", "plan_of", "plan_of", s_plan_of, []⟩]
abbrev fns1 : List FnA := [⟨gN "objections", "objections", "objections", s_objections, []⟩, ⟨gN "is_objection", "is_objection", "is_objection", s_is_objection, []⟩, ⟨gN "reaches", "reaches", "reaches", s_reaches, []⟩, ⟨gN "distance", "distance", "distance", s_distance, []⟩, ⟨gN "plan", "plan", "plan", s_plan, []⟩, ⟨gN "is_plan", "is_plan", "is_plan", s_is_plan, []⟩, ⟨gN "_law_is_integer", "_law_is_integer", "_law_is_integer", s__law_is_integer, []⟩, ⟨gN "_law_box", "_law_box", "_law_box", s__law_box, []⟩, ⟨gN "_law_take", "_law_take", "_law_take", s__law_take, []⟩, ⟨gN "_law_ring", "_law_ring", "_law_ring", s__law_ring, []⟩, ⟨gN "_law_moves", "_law_moves", "_law_moves", s__law_moves, []⟩, ⟨gN "_law_is_allowed", "_law_is_allowed", "_law_is_allowed", s__law_is_allowed, []⟩, ⟨gN "_law_after", "_law_after", "_law_after", s__law_after, []⟩, ⟨gN "_law_states", "_law_states", "_law_states", s__law_states, []⟩, ⟨gN "_law_roads", "_law_roads", "_law_roads", s__law_roads, []⟩, ⟨gN "_law_search", "_law_search", "_law_search", s__law_search, []⟩, ⟨gN "_law_objections_hold", "_law_objections_hold", "_law_objections_hold", s__law_objections_hold, []⟩, ⟨gN "_law_pair_holds", "_law_pair_holds", "_law_pair_holds", s__law_pair_holds, []⟩, ⟨gN "_law_turned_round", "_law_turned_round", "_law_turned_round", s__law_turned_round, []⟩, ⟨gN "_law_is_smaller_first", "_law_is_smaller_first", "_law_is_smaller_first", s__law_is_smaller_first, []⟩, ⟨gN "_law_plan_holds", "_law_plan_holds", "_law_plan_holds", s__law_plan_holds, []⟩, ⟨gN "_law_starts", "_law_starts", "_law_starts", s__law_starts, []⟩, ⟨gN "law", "law", "law", s_law, []⟩, ⟨mN "Ring" "incoming", "incoming", "Net.incoming", s_Net_incoming, []⟩, ⟨mN "Ring" "outgoing", "outgoing", "Net.outgoing", s_Net_outgoing, []⟩, ⟨mN "Ring" "is_ring", "is_ring", "Ring.is_ring", s_Ring_is_ring, []⟩, ⟨smG "Net" "is_capacity", "is_capacity", "Net.is_capacity", s_Net_is_capacity, []⟩, ⟨mN "Net" "__init__", "__init__", "Net.__init__", s_Net___init__, []⟩, ⟨mN "Unreachable" "__init__", "__init__", "Unreachable.__init__", WE.uS, ["__class__"]⟩, ⟨mN "Ring" "__init__", "__init__", "Ring.__init__", s_Ring___init__, ["__class__"]⟩]
abbrev fns : List FnA := fns0 ++ fns1
abbrev cks0 : List Ck := [(fun K => He.Fa.ok K (.glo "is_integer")), (fun K => He.Fa.ok K (.glo "check_number")), (fun K => He.Fa.ok K (.glo "check_capacities")), (fun K => He.Fa.ok K (.glo "numbers_by_end")), (fun K => He.Fa.ok K (.glo "check_state")), (fun K => He.Fa.ok K (.glo "load_of")), (fun K => He.Fa.ok K (.glo "is_owing")), (fun K => He.Fa.ok K (.glo "is_jammed")), (fun K => He.Fa.ok K (.glo "is_move")), (fun K => He.Fa.ok K (.glo "check_move")), (fun K => He.Fa.ok K (.glo "side")), (fun K => He.Fa.ok K (.glo "is_ready")), (fun K => He.Fa.ok K (.glo "unready")), (fun K => He.Fa.ok K (.glo "is_allowed")), (fun K => He.Fa.ok K (.glo "after")), (fun K => He.Fa.ok K (.glo "step_of_row")), (fun K => He.Fa.ok K (.glo "run_moves")), (fun K => He.Fa.ok K (.glo "is_drawn_on")), (fun K => He.Fa.ok K (.glo "range_objections")), (fun K => He.Fa.ok K (.glo "channel_objections")), (fun K => He.Fa.ok K (.glo "end_objections")), (fun K => He.Fa.ok K (.glo "found_objections")), (fun K => He.Fa.ok K (.glo "is_reached")), (fun K => He.Fa.ok K (.glo "gap")), (fun K => He.Fa.ok K (.glo "check_reached")), (fun K => He.Fa.ok K (.glo "demand")), (fun K => He.Fa.ok K (.glo "moves_towards")), (fun K => He.Fa.ok K (.glo "jams_needed_channel")), (fun K => He.Fa.ok K (.glo "first_of")), (fun K => He.Fa.ok K (.glo "plan_of"))]
abbrev cks1 : List Ck := [(fun K => He.Fa.ok K (.glo "objections")), (fun K => He.Fa.ok K (.glo "is_objection")), (fun K => He.Fa.ok K (.glo "reaches")), (fun K => He.Fa.ok K (.glo "distance")), (fun K => He.Fa.ok K (.glo "plan")), (fun K => He.Fa.ok K (.glo "is_plan")), (fun K => He.Fa.ok K (.glo "_law_is_integer")), (fun K => He.Fa.ok K (.glo "_law_box")), (fun K => He.Fa.ok K (.glo "_law_take")), (fun K => He.Fa.ok K (.glo "_law_ring")), (fun K => He.Fa.ok K (.glo "_law_moves")), (fun K => He.Fa.ok K (.glo "_law_is_allowed")), (fun K => He.Fa.ok K (.glo "_law_after")), (fun K => He.Fa.ok K (.glo "_law_states")), (fun K => He.Fa.ok K (.glo "_law_roads")), (fun K => He.Fa.ok K (.glo "_law_search")), (fun K => He.Fa.ok K (.glo "_law_objections_hold")), (fun K => He.Fa.ok K (.glo "_law_pair_holds")), (fun K => He.Fa.ok K (.glo "_law_turned_round")), (fun K => He.Fa.ok K (.glo "_law_is_smaller_first")), (fun K => He.Fa.ok K (.glo "_law_plan_holds")), (fun K => He.Fa.ok K (.glo "_law_starts")), (fun K => He.Fa.ok K (.glo "law")), (fun K => He.Fa.ok K (.glo "KINDS")), (fun K => He.Fa.ok K (.glo "Net")), (fun K => He.Fa.ok K (.glo "Ring")), (fun K => He.Fa.ok K (.glo "Unreachable")), (fun K => He.Fa.ok K (.free "len")), (fun K => He.Fa.ok K (.free "isinstance")), (fun K => He.Fa.ok K (.free "abs"))]
abbrev cks2 : List Ck := [(fun K => He.Fa.ok K (.free "sum")), (fun K => He.Fa.ok K (.free "any")), (fun K => He.Fa.ok K (.free "max")), (fun K => He.Fa.ok K (.free "min")), (fun K => He.Fa.ok K (.free "int")), (fun K => He.Fa.ok K (.free "bool")), (fun K => He.Fa.ok K (.free "str")), (fun K => He.Fa.ok K (.free "tuple")), (fun K => He.Fa.ok K (.free "range")), (fun K => He.Fa.ok K (.free "enumerate")), (fun K => He.Fa.ok K (.free "zip")), (fun K => He.Fa.ok K (.free "super")), (fun K => He.Fa.ok K (.int "MOST_MOVES" 2000)), (fun K => He.tupB K "KINDS" [.str "advance", .str "rollback"]), (readB "Net"), (readB "Ring"), (cvalB "Net" "MOST_COUNTER" 999), (cvalB "Net" "MOST_CAPACITY" 999), (cvalB "Net" "MOST_STAGES" 40), (cvalB "Ring" "LEAST_STAGES" 3), (fun K => He.Fa.ok K (.cls "Ring")), (fun K => He.Fa.ok K (.noat "Ring" "stages")), (fun K => He.Fa.ok K (.noat "Ring" "channels")), (fun K => He.Fa.ok K (.noat "Ring" "_incoming")), (fun K => He.Fa.ok K (.noat "Ring" "_outgoing")), (fun K => He.Fa.ok K (.meth "Ring" "incoming")), (fun K => He.Fa.ok K (.meth "Ring" "outgoing")), (fun K => He.Fa.ok K (.meth "Ring" "is_ring")), (fun K => He.Fa.ok K (.mkr "Ring")), (exB "Unreachable")]
abbrev cks3 : List Ck := [unB, ringB, (fun K => He.Fa.ok K (.exm "Unreachable" "Unreachable" true)), (fun K => xfB K (gN "Unreachable" K)), (smB "Net" "is_capacity"), (clB (mN "Unreachable" "__init__") (gN "Unreachable")), (clB (mN "Ring" "__init__") (gN "Ring"))]
abbrev cks : List Ck := cks0 ++ cks1 ++ cks2 ++ cks3
abbrev loose0 : List Str := ["_wall", "WithinCallError", "InvalidNet", "InvalidState", "InvalidMove", "NotFound", "Blocked", "Unreachable", "TooLarge", "is_integer", "check_number", "check_capacities", "numbers_by_end", "Net", "Ring", "check_state", "load_of", "is_owing", "is_jammed", "KINDS", "is_move", "check_move", "side", "is_ready", "unready", "is_allowed", "after", "step_of_row", "run_moves", "MOST_MOVES"]
abbrev loose1 : List Str := ["is_drawn_on", "range_objections", "channel_objections", "end_objections", "found_objections", "is_reached", "gap", "check_reached", "demand", "moves_towards", "jams_needed_channel", "first_of", "plan_of", "objections", "is_objection", "reaches", "distance", "plan", "is_plan", "_law_is_integer", "_law_box", "_law_take", "_law_ring", "_law_moves", "_law_is_allowed", "_law_after", "_law_states", "_law_roads", "_law_search", "_law_objections_hold"]
abbrev loose2 : List Str := ["_law_pair_holds", "_law_turned_round", "_law_is_smaller_first", "_law_plan_holds", "_law_starts"]
abbrev loose : List Str := loose0 ++ loose1 ++ loose2
abbrev R : PySem.W.OpenRow := PySem.W.OpenLaw.row PySem.Challenge.rw_withincall_k14_whole_rings
abbrev hk : PySem.W.Hook := hookW 5 cks fns
def ob (s : PySem.W.SharedT) : AlW := obsWG 5 cks fns (HandSHeadRun.getT s)
theorem ob_eq (s : PySem.W.SharedT) : ob s = hk.obs s.abs := by
  have e : HandSHeadRun.getT s = s.abs.heap.get? := funext (HandSHeadRun.getT_eq s)
  unfold ob
  rw [e]
  rfl
theorem run (w : World) : HandSHeadRun.RunEq R (PySem.W.view R.prog [71]) hk ob 6000 loose w := by
  intro os
  kernel_rfl
end WH

set_option Elab.async false
set_option linter.all false
set_option maxRecDepth 100000
set_option maxHeartbeats 0
namespace WH
open PySem PySem.Spec PyProof.Rows L2 WB WD WM
section
variable {mg : Str → Option Value} {K : PySem.W.Frag} {h : Heap}
theorem topF (X : K.In h) (G : h.Ns mainGlobals mg) (c : obsW cks fns K = valW fns) : TopF K mg (gN "Ring" K) (gN "Net" K) (gN "Unreachable" K) (mN "Unreachable" "__init__" K) (gN "KINDS" K) ty := by
  have dd : ∀ (i j : Nat) (x : Str) (st : Stmt), fns[i]? = some ⟨gN x, x, x, st, []⟩ → cks[j]? = some (fun K => He.Fa.ok K (.glo x)) → ∃ f fd, Fun K x x st f fd ∧ mg x = some (.ref f) := fun i j x st h1 h2 => by
    obtain ⟨a, b⟩ := says_fn c i h1
    obtain ⟨fd, F⟩ := FnA.fn a b rfl
    exact ⟨_, fd, F, He.glo_ok X G (says_ck c j h2)⟩
  have fr : ∀ (j : Nat) (x : Str), cks[j]? = some (fun K => He.Fa.ok K (.free x)) → mg x = none := fun j x h2 => He.free_ok X G (says_ck c j h2)
  have gl : ∀ (j : Nat) (x : Str), cks[j]? = some (fun K => He.Fa.ok K (.glo x)) → mg x = some (.ref (gN x K)) := fun j x h2 => He.glo_ok X G (says_ck c j h2)
  have cv : ∀ (j : Nat) (x f : Str) (v : Int), cks[j]? = some (cvalB x f v) → ∃ u, ClX.CVal K (gN x K) ty f (.int v) u := fun j x f v h2 => cvalB_ok (says_ck c j h2)
  have na : ∀ (j : Nat) (f : Str), cks[j]? = some (fun K => He.Fa.ok K (.noat "Ring" f)) → NoAttr K (gN "Ring" K) f := fun j f h2 => He.noat_ok (says_ck c j h2)
  have me : ∀ (i j : Nat) (m q : Str) (st : Stmt), fns[i]? = some ⟨mN "Ring" m, m, q, st, []⟩ → cks[j]? = some (fun K => He.Fa.ok K (.meth "Ring" m)) → ∃ f fd, Fun K m q st f fd ∧ Meth K (gN "Ring" K) m f := fun i j m q st h1 h2 => by
    obtain ⟨a, b⟩ := says_fn c i h1
    obtain ⟨fd, F⟩ := FnA.fn a b rfl
    exact ⟨_, fd, F, He.meth_ok (says_ck c j h2)⟩
  have un : WE.UnT K mg (gN "Unreachable" K) (mN "Unreachable" "__init__" K) := by
    obtain ⟨u1, z⟩ := Bool.and_eq_true_iff.mp (says_ck c 90 (f := unB) rfl)
    obtain ⟨u2, z⟩ := Bool.and_eq_true_iff.mp z
    obtain ⟨u3, z⟩ := Bool.and_eq_true_iff.mp z
    obtain ⟨u4, z⟩ := Bool.and_eq_true_iff.mp z
    obtain ⟨u5, z⟩ := Bool.and_eq_true_iff.mp z
    obtain ⟨u6, z⟩ := Bool.and_eq_true_iff.mp z
    obtain ⟨u7, z⟩ := Bool.and_eq_true_iff.mp z
    obtain ⟨u8, z⟩ := Bool.and_eq_true_iff.mp z
    obtain ⟨u9, z⟩ := Bool.and_eq_true_iff.mp z
    obtain ⟨u10, z⟩ := Bool.and_eq_true_iff.mp z
    obtain ⟨u11, u12⟩ := Bool.and_eq_true_iff.mp z
    obtain ⟨a, b⟩ := says_fn c 58 (d := ⟨mN "Unreachable" "__init__", "__init__", "Unreachable.__init__", WE.uS, ["__class__"]⟩) rfl
    exact ⟨gl 56 _ rfl, fr 71 _ rfl, exB_ok (says_ck c 89 (f := exB "Unreachable") rfl), of_decide_eq_true u1, of_decide_eq_true u2, of_decide_eq_true u3, of_decide_eq_true u4, u5, of_decide_eq_true u6, of_decide_eq_true u7, of_decide_eq_true u8, of_decide_eq_true u9, u10, of_decide_eq_true u11, of_decide_eq_true u12,
      FnA.cls (C := gN "Unreachable") a b (says_ck c 95 (f := clB (mN "Unreachable" "__init__") (gN "Unreachable")) rfl) rfl⟩
  refine ⟨dd 0 0 _ _ rfl rfl, dd 1 1 _ _ rfl rfl, dd 2 2 _ _ rfl rfl, dd 3 3 _ _ rfl rfl, dd 4 4 _ _ rfl rfl, dd 5 5 _ _ rfl rfl, dd 6 6 _ _ rfl rfl, dd 7 7 _ _ rfl rfl, dd 8 8 _ _ rfl rfl, dd 9 9 _ _ rfl rfl, dd 10 10 _ _ rfl rfl, dd 11 11 _ _ rfl rfl, dd 12 12 _ _ rfl rfl, dd 13 13 _ _ rfl rfl, dd 14 14 _ _ rfl rfl, dd 15 15 _ _ rfl rfl, dd 16 16 _ _ rfl rfl, dd 17 17 _ _ rfl rfl, dd 18 18 _ _ rfl rfl, dd 19 19 _ _ rfl rfl, dd 20 20 _ _ rfl rfl, dd 21 21 _ _ rfl rfl, dd 22 22 _ _ rfl rfl, dd 23 23 _ _ rfl rfl, dd 24 24 _ _ rfl rfl, dd 25 25 _ _ rfl rfl, dd 26 26 _ _ rfl rfl, dd 27 27 _ _ rfl rfl, dd 28 28 _ _ rfl rfl, dd 29 29 _ _ rfl rfl, dd 30 30 _ _ rfl rfl, dd 31 31 _ _ rfl rfl, dd 32 32 _ _ rfl rfl, dd 33 33 _ _ rfl rfl, dd 34 34 _ _ rfl rfl, dd 35 35 _ _ rfl rfl, dd 36 36 _ _ rfl rfl, dd 37 37 _ _ rfl rfl, dd 38 38 _ _ rfl rfl, dd 39 39 _ _ rfl rfl, dd 40 40 _ _ rfl rfl, dd 41 41 _ _ rfl rfl, dd 42 42 _ _ rfl rfl, dd 43 43 _ _ rfl rfl, dd 44 44 _ _ rfl rfl, dd 45 45 _ _ rfl rfl, dd 46 46 _ _ rfl rfl, dd 47 47 _ _ rfl rfl, dd 48 48 _ _ rfl rfl, dd 49 49 _ _ rfl rfl, dd 50 50 _ _ rfl rfl, dd 51 51 _ _ rfl rfl, dd 52 52 _ _ rfl rfl, fr 57 _ rfl, fr 58 _ rfl, fr 59 _ rfl, fr 60 _ rfl, fr 61 _ rfl, fr 62 _ rfl, fr 63 _ rfl, fr 64 _ rfl, fr 65 _ rfl, fr 66 _ rfl, fr 67 _ rfl, fr 68 _ rfl, fr 69 _ rfl, fr 70 _ rfl, ?_, ⟨_, gl 53 "KINDS" rfl, rfl⟩, fun H => ?_, ⟨_, gl 54 "Net" rfl, rfl⟩, ⟨_, gl 55 "Ring" rfl, rfl⟩, readB_ok (says_ck c 74 (f := readB "Net") rfl), cv 76 "Net" _ _ rfl, cv 77 "Net" _ _ rfl, cv 78 "Net" _ _ rfl, He.cls_ok (says_ck c 80 (f := fun K => He.Fa.ok K (.cls "Ring")) rfl),
    na 81 _ rfl, na 82 _ rfl, na 83 _ rfl, na 84 _ rfl, me 53 85 _ _ _ rfl rfl, me 54 86 _ _ _ rfl rfl, me 55 87 _ _ _ rfl rfl, un, xfB_ok (says_ck c 93 (f := fun K => xfB K (gN "Unreachable" K)) rfl), He.exm_ok (says_ck c 92 (f := fun K => He.Fa.ok K (.exm "Unreachable" "Unreachable" true)) rfl)⟩
  · obtain ⟨t, e⟩ := He.int_ok X G (x := "MOST_MOVES") (i := 2000) (says_ck c 72 (f := fun K => He.Fa.ok K (.int "MOST_MOVES" 2000)) rfl)
    exact ⟨_, e, ⟨t, rfl⟩⟩
  · exact He.tupB_ok (x := "KINDS") (says_ck c 73 (f := fun K => He.tupB K "KINDS" [.str "advance", .str "rollback"]) rfl) H
theorem ringF (X : K.In h) (G : h.Ns mainGlobals mg) (c : obsW cks fns K = valW fns) : ∃ cda cc, RingF K mg (gN "Ring" K) (gN "Net" K) ty ty (mN "Ring" "__init__" K) (mN "Net" "__init__" K) (smG "Net" "is_capacity" K) (smP "Net" "is_capacity" K) cda cc := by
  obtain ⟨u1, z⟩ := Bool.and_eq_true_iff.mp (says_ck c 91 (f := ringB) rfl)
  obtain ⟨u2, z⟩ := Bool.and_eq_true_iff.mp z
  obtain ⟨u3, z⟩ := Bool.and_eq_true_iff.mp z
  obtain ⟨u4, z⟩ := Bool.and_eq_true_iff.mp z
  obtain ⟨u5, u6⟩ := Bool.and_eq_true_iff.mp z
  have any : PySem.W.nsIn K cStatics "thirdparty.any" = some none := (topF X G c).un.any
  obtain ⟨a, b⟩ := says_fn c 59 (d := ⟨mN "Ring" "__init__", "__init__", "Ring.__init__", s_Ring___init__, ["__class__"]⟩) rfl
  obtain ⟨oc, od, kV, doc, pm, an, cda, cc, ct, osl, lk, cd, cell, code⟩ := FnA.cls (C := gN "Ring") a b (says_ck c 96 (f := clB (mN "Ring" "__init__") (gN "Ring")) rfl) rfl
  obtain ⟨a1, b1⟩ := says_fn c 56 (d := ⟨smG "Net" "is_capacity", "is_capacity", "Net.is_capacity", s_Net_is_capacity, []⟩) rfl
  obtain ⟨a2, b2⟩ := says_fn c 57 (d := ⟨mN "Net" "__init__", "__init__", "Net.__init__", s_Net___init__, []⟩) rfl
  exact ⟨cda, cc, He.glo_ok X G (says_ck c 55 (f := fun K => He.Fa.ok K (.glo "Ring")) rfl), He.free_ok X G (says_ck c 71 (f := fun K => He.Fa.ok K (.free "super")) rfl), readB_ok (says_ck c 75 (f := readB "Ring") rfl), cvalB_ok (says_ck c 79 (f := cvalB "Ring" "LEAST_STAGES" 3) rfl), smB_ok (says_ck c 94 (f := smB "Net" "is_capacity") rfl), FnA.fn a1 b1 rfl, FnA.fn a2 b2 rfl,
    He.mkr_ok (says_ck c 88 (f := fun K => He.Fa.ok K (.mkr "Ring")) rfl), u2, of_decide_eq_true u3, of_decide_eq_true u4, of_decide_eq_true u5, any, Option.isSome_iff_exists.mp u6, cell, code, cd, oc, od, kV, doc, pm, an, ct, osl, lk⟩
end
theorem bindL {K : PySem.W.Frag} {f : Addr} {fd : FuncData} (F1 : Fun K "law" "law" s_law f fd) (s : Shared) (u : Value) : BindsTo s fd ⟨[u], []⟩ [("_law_script", u)] := by
  obtain ⟨oc, od, kV, doc, pm, an, cdv, ct, osl, rfl, lk, hcd⟩ := F1.ex
  exact .of_eq rfl
theorem law_ok {w : World} {K : PySem.W.Frag} {h base : Heap} {mg : Str → Option Value} (X : K.In h) (G : h.Ns mainGlobals mg) (c : obsW cks fns K = valW fns) {f : Addr} {fd : FuncData} (F1 : Fun K "law" "law" s_law f fd) : FnOk WE.PG w K mg base CX0 11 f fd ["_law_script"] (spLaw K) := by
  have F := topF X G c
  obtain ⟨cda, cc, Gr⟩ := ringF X G c
  exact ok_law F (calH_is_objection F) (cal__law_ring F Gr) F1
end WH
open PySem PySem.Calls PySem.W PyProof.Rows
theorem PySem.Challenge.cw_withincall_k14_whole_rings_holds : PySem.Challenge.rw_withincall_k14_whole_rings.Holds := by
  w_on; o_law
  refine HandSHeadRun.head_any (r := OpenLaw.row PySem.Challenge.rw_withincall_k14_whole_rings) (q := view (OpenLaw.row PySem.Challenge.rw_withincall_k14_whole_rings).prog [71]) (H := WH.hk) (ob := WH.ob) (M := 6000) (loose := WH.loose) (d := HandSHeadRun.topDef (OpenLaw.row PySem.Challenge.rw_withincall_k14_whole_rings).prog 71) (kwd := []) WH.ob_eq
    (by kernel_rfl) (fun s => by kernel_rfl) WH.run (by kernel_rfl) (by kernel_rfl) (by kernel_rfl) (by rfl) (by first | assumption | decide +kernel) (by decide +kernel) ⟨rfl, rfl, rfl, rfl, rfl, by decide +kernel⟩ ?hw ?hc
  case hw => w_witness2
  case hc =>
    refine L2.walk_ofE (l := PySem.Challenge.rw_withincall_k14_whole_rings) (n := 63) (k := 11) (x := "_law_script") (CX := L2.CX0) rfl (by decide) (by kernel_rfl) ⟨rfl, by decide, by decide⟩ ?F (fun _ _ _ _ z => z)
    intro w mg fa h Y G hmg0
    obtain ⟨K, KX, c⟩ := Y
    have hmg : mg ("law" : PySem.Str) = some (.ref fa) := by
      have e : (HandSHeadRun.topDef (OpenLaw.row PySem.Challenge.rw_withincall_k14_whole_rings).prog 71).name = ("law" : PySem.Str) := by kernel_rfl
      rw [← e]
      exact hmg0
    obtain ⟨f, fd, F1, hm⟩ := (WH.topF KX G c).d_law
    obtain rfl : f = fa := Value.ref.inj (Option.some.inj (hm.symm.trans hmg))
    exact ⟨K, fd, WD.spLaw K, KX, WH.bindL F1, fun H a ns hl _ hS => ⟨a, ns, rfl, hS, fun _ => rfl⟩, fun base B Gb => WH.law_ok B Gb c F1⟩
