import PyProof.Rows.All
import Wide.All
import OpenK.AllK
import Wide.FinOn
import HandS.ForMost
import HandS.TupAny
import HandS.TupLen
import HandS.IsInst
import HandS.Style
import HandS.SetFor
import KE.KDictKeyed
import KE.DatumOrd
import KE.GoesEnum
import KE.KTupSum
import PySem.Challenge.RW_fadewords_k33_whole_letters_met
set_option Elab.async false
set_option linter.all false
set_option maxRecDepth 100000
set_option maxHeartbeats 8000000
section
set_option autoImplicit false
namespace FW
/-! ### words, slates -/
/-- letters as whole numbers -/
def nz (w : List Nat) : List Int := w.map fun n : Nat => (n : Int)
theorem nz_len (w : List Nat) : (nz w).length = w.length := by simp [nz]
theorem nz_inj {a b : List Nat} (h : nz a = nz b) : a = b := by
  unfold nz at h
  exact (List.map_inj_right (f := fun n : Nat => (n : Int)) (fun x y e => Int.ofNat.inj e)).mp h
theorem nz_get (w : List Nat) (i : Nat) : (nz w)[i]? = (w[i]?).map fun n : Nat => (n : Int) := by unfold nz; rw [List.getElem?_map]
theorem nz_append (a b : List Nat) : nz (a ++ b) = nz a ++ nz b := by simp [nz]
theorem nz_mem {w : List Nat} {n : Nat} : (n : Int) ∈ nz w ↔ n ∈ w := by
  unfold nz
  rw [List.mem_map]
  exact ⟨fun ⟨a, h, e⟩ => by
    have : a = n := Int.ofNat.inj e
    exact this ▸ h, fun h => ⟨n, h, rfl⟩⟩
/-- a letter written on a slate -/
def stepN (vs sl : List Nat) (l : Nat) : List Nat := l :: sl.eraseIdx (vs.getD l 1 - 1)
def writeN (vs : List Nat) : List Nat → List Nat → List Nat
  | sl, [] => sl
  | sl, l :: w => writeN vs (stepN vs sl l) w
theorem writeN_append (vs : List Nat) : ∀ (w u sl : List Nat), writeN vs sl (w ++ u) = writeN vs (writeN vs sl w) u
  | [], _, _ => rfl
  | l :: w, u, sl => writeN_append vs w u (stepN vs sl l)
theorem writeN_snoc (vs : List Nat) (sl w : List Nat) (l : Nat) : writeN vs sl (w ++ [l]) = stepN vs (writeN vs sl w) l := writeN_append vs w [l] sl
theorem stepN_len (vs sl : List Nat) (l : Nat) : (stepN vs sl l).length ≤ sl.length + 1 := by
  unfold stepN
  have h := List.length_eraseIdx_le sl (vs.getD l 1 - 1)
  rw [List.length_cons]
  omega
theorem writeN_len (vs : List Nat) : ∀ (w sl : List Nat), (writeN vs sl w).length ≤ sl.length + w.length
  | [], _ => Nat.le_refl _
  | l :: w, sl => by
    have h1 := writeN_len vs w (stepN vs sl l)
    have h2 := stepN_len vs sl l
    show (writeN vs (stepN vs sl l) w).length ≤ _
    rw [List.length_cons]
    omega
theorem stepN_mem {vs sl : List Nat} {l x : Nat} (h : x ∈ stepN vs sl l) : x = l ∨ x ∈ sl := by
  unfold stepN at h
  rcases List.mem_cons.mp h with h | h
  · exact .inl h
  · exact .inr (List.mem_of_mem_eraseIdx h)
theorem writeN_take_succ {vs sl w : List Nat} {i l : Nat} (h : w[i]? = some l) : writeN vs sl (w.take (i + 1)) = stepN vs (writeN vs sl (w.take i)) l := by
  rw [List.take_add_one, h]
  exact writeN_snoc vs sl _ l
/-! ### letters met -/
def metP (vs sl w : List Nat) (i : Nat) : Bool := decide (w.getD i 0 ∈ writeN vs sl (w.take i))
def metN (vs sl w : List Nat) : List Nat := (List.range w.length).filter (metP vs sl w)
def cost (vs : List Nat) : List Nat → List Nat → Nat
  | _, [] => 0
  | sl, l :: w => (if l ∈ sl then 1 else 0) + cost vs (stepN vs sl l) w
theorem metP_zero (vs sl w : List Nat) (l : Nat) : metP vs sl (l :: w) 0 = decide (l ∈ sl) := rfl
theorem metP_succ (vs sl w : List Nat) (l i : Nat) : metP vs sl (l :: w) (i + 1) = metP vs (stepN vs sl l) w i := rfl
theorem metN_cons (vs sl w : List Nat) (l : Nat) : metN vs sl (l :: w) = (if l ∈ sl then [0] else []) ++ (metN vs (stepN vs sl l) w).map Nat.succ := by
  unfold metN
  rw [List.length_cons, List.range_succ_eq_map, List.filter_cons, metP_zero, List.filter_map]
  have e : (metP vs sl (l :: w)) ∘ Nat.succ = metP vs (stepN vs sl l) w := by
    funext i
    exact metP_succ vs sl w l i
  rw [e]
  by_cases h : l ∈ sl
  · rw [if_pos (decide_eq_true h), if_pos h]
    rfl
  · rw [if_neg (by simpa using h), if_neg h]
    rfl
theorem metN_cost (vs : List Nat) : ∀ (w sl : List Nat), (metN vs sl w).length = cost vs sl w
  | [], _ => rfl
  | l :: w, sl => by
    rw [metN_cons, List.length_append, List.length_map, metN_cost vs w]
    show _ = (if l ∈ sl then 1 else 0) + _
    by_cases h : l ∈ sl
    · rw [if_pos h, if_pos h]; rfl
    · rw [if_neg h, if_neg h]; rfl
theorem metN_le (vs sl w : List Nat) : (metN vs sl w).length ≤ w.length := by
  unfold metN
  have h := List.length_filter_le (metP vs sl w) (List.range w.length)
  rwa [List.length_range] at h
/-- the indexes met of the first i letters -/
def metI (vs sl w : List Nat) (i : Nat) : List Nat := (List.range i).filter (metP vs sl w)
theorem metI_succ (vs sl w : List Nat) (i : Nat) : metI vs sl w (i + 1) = metI vs sl w i ++ (if metP vs sl w i = true then [i] else []) := by
  unfold metI
  rw [List.range_succ, List.filter_append, List.filter_cons]
  rfl
theorem metI_len (vs sl w : List Nat) (i : Nat) : (metI vs sl w i).length ≤ i := by
  unfold metI
  have h := List.length_filter_le (metP vs sl w) (List.range i)
  rwa [List.length_range] at h
theorem metP_at {vs sl w : List Nat} {i l : Nat} (h : w[i]? = some l) : metP vs sl w i = decide (l ∈ writeN vs sl (w.take i)) := by
  unfold metP
  rw [List.getD_eq_getElem?_getD, h]
  rfl
/-! ### all words of a supply -/
def dec (su : List Nat) (l : Nat) : List Nat := su.set l (su.getD l 0 - 1)
theorem dec_len (su : List Nat) (l : Nat) : (dec su l).length = su.length := by simp [dec]
theorem dec_sum : ∀ (su : List Nat) (l : Nat), 0 < su.getD l 0 → (dec su l).sum + 1 = su.sum
  | [], l, h => by simp at h
  | x :: r, 0, h => by
    have h' : 0 < x := h
    show ((x - 1) :: r).sum + 1 = (x :: r).sum
    rw [List.sum_cons, List.sum_cons]
    omega
  | x :: r, l + 1, h => by
    have ih := dec_sum r l h
    show (x :: dec r l).sum + 1 = (x :: r).sum
    rw [List.sum_cons, List.sum_cons]
    omega
theorem lt_of_pos {su : List Nat} {l : Nat} (h : 0 < su.getD l 0) : l < su.length := by
  rcases Nat.lt_or_ge l su.length with z | z
  · exact z
  · rw [List.getD_eq_getElem?_getD, List.getElem?_eq_none z] at h
    cases h
theorem pos_of_sum : ∀ (su : List Nat), 0 < su.sum → ∃ l, 0 < su.getD l 0
  | [], h => by cases h
  | x :: r, h => by
    rw [List.sum_cons] at h
    rcases Nat.eq_zero_or_pos x with z | z
    · obtain ⟨l, hl⟩ := pos_of_sum r (by omega)
      exact ⟨l + 1, hl⟩
    · exact ⟨0, z⟩
theorem get_le_sum : ∀ (su : List Nat) (l : Nat), su.getD l 0 ≤ su.sum
  | [], _ => Nat.zero_le _
  | x :: r, 0 => by
    show x ≤ (x :: r).sum
    rw [List.sum_cons]; omega
  | x :: r, l + 1 => by
    have h := get_le_sum r l
    show r.getD l 0 ≤ (x :: r).sum
    rw [List.sum_cons]; omega
theorem mem_le_sum : ∀ {su : List Nat} {x : Nat}, x ∈ su → x ≤ su.sum
  | y :: r, x, h => by
    rw [List.sum_cons]
    rcases List.mem_cons.mp h with e | h
    · omega
    · have := mem_le_sum h; omega
def arrN : Nat → List Nat → List (List Nat)
  | 0, _ => [[]]
  | k + 1, su => (List.range su.length).flatMap fun l => if 0 < su.getD l 0 then (arrN k (dec su l)).map (l :: ·) else []
/-- what the letters below i bring -/
def arrI (k : Nat) (su : List Nat) (i : Nat) : List (List Nat) := (List.range i).flatMap fun l => if 0 < su.getD l 0 then (arrN k (dec su l)).map (l :: ·) else []
theorem arrI_succ (k : Nat) (su : List Nat) (i : Nat) : arrI k su (i + 1) = arrI k su i ++ (if 0 < su.getD i 0 then (arrN k (dec su i)).map (i :: ·) else []) := by
  unfold arrI
  rw [List.range_succ, List.flatMap_append]
  simp
theorem arrI_full (k : Nat) (su : List Nat) : arrI k su su.length = arrN (k + 1) su := rfl
theorem arrN_mem {k : Nat} {su w : List Nat} : w ∈ arrN (k + 1) su ↔ ∃ l u, 0 < su.getD l 0 ∧ u ∈ arrN k (dec su l) ∧ w = l :: u := by
  show w ∈ (List.range su.length).flatMap _ ↔ _
  rw [List.mem_flatMap]
  constructor
  · rintro ⟨l, hl, hw⟩
    by_cases h : 0 < su.getD l 0
    · rw [if_pos h] at hw
      obtain ⟨u, hu, e⟩ := List.mem_map.mp hw
      exact ⟨l, u, h, hu, e.symm⟩
    · rw [if_neg h] at hw
      cases hw
  · rintro ⟨l, u, h, hu, e⟩
    refine ⟨l, List.mem_range.mpr (lt_of_pos h), ?_⟩
    rw [if_pos h]
    exact List.mem_map.mpr ⟨u, hu, e.symm⟩
theorem arrN_word : ∀ (k : Nat) (su w : List Nat), w ∈ arrN k su → w.length = k ∧ ∀ x ∈ w, x < su.length
  | 0, _, w, h => by
    have e : w = [] := by simpa [arrN] using h
    subst e
    exact ⟨rfl, fun _ h => nomatch h⟩
  | k + 1, su, w, h => by
    obtain ⟨l, u, hp, hu, rfl⟩ := arrN_mem.mp h
    obtain ⟨h1, h2⟩ := arrN_word k (dec su l) u hu
    refine ⟨by rw [List.length_cons, h1], fun x hx => ?_⟩
    rcases List.mem_cons.mp hx with e | hx
    · rw [e]; exact lt_of_pos hp
    · have := h2 x hx
      rwa [dec_len] at this
theorem arrN_some : ∀ (k : Nat) (su : List Nat), su.sum = k → ∃ w, w ∈ arrN k su
  | 0, _, _ => ⟨[], List.mem_singleton.mpr rfl⟩
  | k + 1, su, h => by
    obtain ⟨l, hl⟩ := pos_of_sum su (by omega)
    obtain ⟨u, hu⟩ := arrN_some k (dec su l) (by have := dec_sum su l hl; omega)
    exact ⟨l :: u, arrN_mem.mpr ⟨l, u, hl, hu, rfl⟩⟩
theorem arr_bound (k : Nat) (su : List Nat) (B : Nat) (hB : ∀ l, (arrN k (dec su l)).length ≤ B) : ∀ i, (arrI k su i).length ≤ i * B
  | 0 => Nat.zero_le _
  | i + 1 => by
    have ih := arr_bound k su B hB i
    have hb := hB i
    rw [arrI_succ, List.length_append, Nat.succ_mul]
    by_cases h : 0 < su.getD i 0
    · rw [if_pos h, List.length_map]; omega
    · rw [if_neg h]; simp only [List.length_nil]; omega
theorem arrN_len : ∀ (k : Nat) (su : List Nat), su.length ≤ 4 → (arrN k su).length ≤ 4 ^ k
  | 0, _, _ => Nat.le_refl _
  | k + 1, su, h => by
    have ih := fun l => arrN_len k (dec su l) (by rw [dec_len]; exact h)
    have := arr_bound k su (4 ^ k) ih su.length
    rw [arrI_full] at this
    refine Nat.le_trans this ?_
    rw [Nat.pow_succ, Nat.mul_comm (4 ^ k) 4]
    exact Nat.mul_le_mul_right _ h
/-! ### the order -/
def ltL : List Int → List Int → Bool
  | [], [] => false
  | [], _ :: _ => true
  | _ :: _, [] => false
  | x :: xs, y :: ys => if x = y then ltL xs ys else decide (x < y)
theorem ltL_same (x : Int) (a b : List Int) : ltL (x :: a) (x :: b) = ltL a b := by
  show (if x = x then _ else _) = _
  rw [if_pos rfl]
theorem ltL_ne {x y : Int} (h : x ≠ y) (a b : List Int) : ltL (x :: a) (y :: b) = decide (x < y) := by
  show (if x = y then _ else _) = _
  rw [if_neg h]
theorem ltL_irrefl : ∀ a : List Int, ltL a a = false
  | [] => rfl
  | x :: a => by rw [ltL_same]; exact ltL_irrefl a
theorem ltL_asymm : ∀ a b : List Int, ltL a b = true → ltL b a = false
  | [], [], _ => rfl
  | [], _ :: _, _ => rfl
  | _ :: _, [], h => by cases h
  | x :: a, y :: b, h => by
    by_cases e : x = y
    · subst e
      rw [ltL_same] at h ⊢
      exact ltL_asymm a b h
    · rw [ltL_ne e] at h
      rw [ltL_ne (Ne.symm e)]
      have := of_decide_eq_true h
      exact decide_eq_false (by omega)
theorem ltL_tri : ∀ a b : List Int, ltL a b = false → ltL b a = false → a = b
  | [], [], _, _ => rfl
  | [], _ :: _, h, _ => by cases h
  | _ :: _, [], _, h => by cases h
  | x :: a, y :: b, h, h' => by
    by_cases e : x = y
    · subst e
      rw [ltL_same] at h h'
      rw [ltL_tri a b h h']
    · rw [ltL_ne e] at h
      rw [ltL_ne (Ne.symm e)] at h'
      have h1 := of_decide_eq_false h
      have h2 := of_decide_eq_false h'
      omega
theorem ltL_trans : ∀ a b c : List Int, ltL b a = false → ltL c b = false → ltL c a = false
  | [], _, [], _, _ => rfl
  | _ :: _, [], _, h, _ => by cases h
  | _ :: _, _ :: _, [], _, h => by cases h
  | [], _, _ :: _, _, _ => rfl
  | x :: a, y :: b, z :: c, h1, h2 => by
    by_cases e : y = x
    · subst e
      rw [ltL_same] at h1
      by_cases e' : z = y
      · subst e'
        rw [ltL_same] at h2 ⊢
        exact ltL_trans a b c h1 h2
      · rw [ltL_ne e'] at h2 ⊢
        exact h2
    · rw [ltL_ne e] at h1
      have q1 := of_decide_eq_false h1
      by_cases e' : z = y
      · subst e'
        rw [ltL_ne e]
        exact h1
      · rw [ltL_ne e'] at h2
        have q2 := of_decide_eq_false h2
        rw [ltL_ne (by omega)]
        exact decide_eq_false (by omega)
def ltP (p q : Int × List Int) : Bool := if p.1 = q.1 then ltL p.2 q.2 else decide (p.1 < q.1)
theorem ltP_cons (a b d : Int) (l : Int) (u w : List Int) (h : ltP (a, u) (b, w) = false) : ltP (a - d, l :: u) (b - d, l :: w) = false := by
  unfold ltP at h ⊢
  simp only at h ⊢
  by_cases e : a = b
  · subst e
    rw [if_pos rfl] at h ⊢
    rw [ltL_same]
    exact h
  · rw [if_neg e] at h
    rw [if_neg (by omega)]
    have := of_decide_eq_false h
    exact decide_eq_false (by omega)
theorem ltP_irrefl (p : Int × List Int) : ltP p p = false := by
  unfold ltP
  rw [if_pos rfl]
  exact ltL_irrefl _
theorem ltP_asymm (p q : Int × List Int) (h : ltP p q = true) : ltP q p = false := by
  unfold ltP at h ⊢
  by_cases e : p.1 = q.1
  · rw [if_pos e] at h
    rw [if_pos e.symm]
    exact ltL_asymm _ _ h
  · rw [if_neg e] at h
    rw [if_neg (Ne.symm e)]
    have := of_decide_eq_true h
    exact decide_eq_false (by omega)
theorem ltP_trans (p q r : Int × List Int) (h1 : ltP q p = false) (h2 : ltP r q = false) : ltP r p = false := by
  unfold ltP at h1 h2 ⊢
  by_cases e : q.1 = p.1
  · rw [if_pos e] at h1
    by_cases e' : r.1 = q.1
    · rw [if_pos e'] at h2
      rw [if_pos (e'.trans e)]
      exact ltL_trans _ _ _ h1 h2
    · rw [if_neg e'] at h2
      have q2 := of_decide_eq_false h2
      rw [if_neg (by omega)]
      exact decide_eq_false (by omega)
  · rw [if_neg e] at h1
    have q1 := of_decide_eq_false h1
    by_cases e' : r.1 = q.1
    · rw [if_neg (by omega)]
      exact decide_eq_false (by omega)
    · rw [if_neg e'] at h2
      have q2 := of_decide_eq_false h2
      rw [if_neg (by omega)]
      exact decide_eq_false (by omega)
/-- the first of the least -/
theorem fold_least {α : Type} (lt : α → α → Bool) (irr : ∀ a, lt a a = false) (asy : ∀ a b, lt a b = true → lt b a = false) (tr : ∀ a b c, lt b a = false → lt c b = false → lt c a = false) :
    ∀ (xs : List α) (x : α), (xs.foldl (fun a y => if lt y a = true then y else a) x) ∈ x :: xs ∧ ∀ y ∈ x :: xs, lt y (xs.foldl (fun a y => if lt y a = true then y else a) x) = false
  | [], x => ⟨List.mem_cons_self, fun y hy => by
    have e : y = x := by simpa using hy
    rw [e]
    exact irr x⟩
  | z :: xs, x => by
    rw [List.foldl_cons]
    by_cases h : lt z x = true
    · rw [if_pos h]
      obtain ⟨h1, h2⟩ := fold_least lt irr asy tr xs z
      refine ⟨List.mem_cons_of_mem _ h1, fun y hy => ?_⟩
      rcases List.mem_cons.mp hy with e | hy
      · rw [e]
        exact tr _ z _ (h2 z List.mem_cons_self) (asy _ _ h)
      · exact h2 y hy
    · rw [if_neg h]
      obtain ⟨h1, h2⟩ := fold_least lt irr asy tr xs x
      refine ⟨?_, fun y hy => ?_⟩
      · rcases List.mem_cons.mp h1 with e | h1
        · rw [e]; exact List.mem_cons_self
        · exact List.mem_cons_of_mem _ (List.mem_cons_of_mem _ h1)
      · rcases List.mem_cons.mp hy with e | hy
        · rw [e]
          exact h2 x List.mem_cons_self
        · rcases List.mem_cons.mp hy with e | hy
          · rw [e]
            exact tr _ x _ (h2 x List.mem_cons_self) (by simpa using h)
          · exact h2 y (List.mem_cons_of_mem _ hy)
/-! ### the best -/
def ind (sl : List Nat) (l : Nat) : Int := if l ∈ sl then 1 else 0
structure IsBest (vs : List Nat) (sg : Int) (k : Nat) (sl su : List Nat) (m : Int) (w : List Nat) : Prop where
  mem : w ∈ arrN k su
  val : m = - (sg * (cost vs sl w : Int))
  least : ∀ u ∈ arrN k su, ltP (- (sg * (cost vs sl u : Int)), nz u) (m, nz w) = false
theorem best_zero (vs : List Nat) (sg : Int) (sl su : List Nat) : IsBest vs sg 0 sl su 0 [] where
  mem := List.mem_singleton.mpr rfl
  val := by
    show (0 : Int) = - (sg * ((0 : Nat) : Int))
    simp
  least := fun u hu => by
    have e : u = [] := by simpa [arrN] using hu
    subst e
    show ltP (- (sg * ((0 : Nat) : Int)), []) (0, []) = false
    have z : - (sg * ((0 : Nat) : Int)) = 0 := by simp
    rw [z]
    exact ltP_irrefl _
theorem cost_cons (vs sl w : List Nat) (l : Nat) (sg : Int) : - (sg * (cost vs sl (l :: w) : Int)) = - (sg * (cost vs (stepN vs sl l) w : Int)) - sg * ind sl l := by
  have e : (cost vs sl (l :: w) : Int) = ind sl l + (cost vs (stepN vs sl l) w : Int) := by
    show (((if l ∈ sl then 1 else 0) + cost vs (stepN vs sl l) w : Nat) : Int) = _
    unfold ind
    by_cases h : l ∈ sl
    · rw [if_pos h, if_pos h]; omega
    · rw [if_neg h, if_neg h]; omega
  rw [e, Int.mul_add]
  omega
/-- a candidate: the letter l first, then the best behind it -/
def Cand (vs : List Nat) (sg : Int) (k : Nat) (sl su : List Nat) (l : Nat) (c : Int × List Nat) : Prop :=
  0 < su.getD l 0 ∧ ∃ m w, IsBest vs sg k (stepN vs sl l) (dec su l) m w ∧ c = (m - sg * ind sl l, l :: w)
/-- the candidates of the letters below i -/
structure CandOk (vs : List Nat) (sg : Int) (k : Nat) (sl su : List Nat) (i : Nat) (cs : List (Int × List Nat)) : Prop where
  sound : ∀ c ∈ cs, ∃ l, l < i ∧ Cand vs sg k sl su l c
  all : ∀ l, l < i → 0 < su.getD l 0 → ∃ c ∈ cs, Cand vs sg k sl su l c
theorem CandOk.zero (vs : List Nat) (sg : Int) (k : Nat) (sl su : List Nat) : CandOk vs sg k sl su 0 [] := ⟨fun _ h => (nomatch h), fun _ h => absurd h (Nat.not_lt_zero _)⟩
theorem CandOk.skip {vs : List Nat} {sg : Int} {k : Nat} {sl su : List Nat} {i : Nat} {cs : List (Int × List Nat)} (C : CandOk vs sg k sl su i cs) (h : ¬ 0 < su.getD i 0) : CandOk vs sg k sl su (i + 1) cs where
  sound := fun c hc => let ⟨l, h1, h2⟩ := C.sound c hc; ⟨l, Nat.lt_succ_of_lt h1, h2⟩
  all := fun l hl hp => by
    rcases Nat.lt_or_ge l i with z | z
    · exact C.all l z hp
    · have e : l = i := by omega
      rw [e] at hp
      exact absurd hp h
theorem CandOk.put {vs : List Nat} {sg : Int} {k : Nat} {sl su : List Nat} {i : Nat} {cs : List (Int × List Nat)} (C : CandOk vs sg k sl su i cs) (h : 0 < su.getD i 0) {m : Int} {w : List Nat} (B : IsBest vs sg k (stepN vs sl i) (dec su i) m w) :
    CandOk vs sg k sl su (i + 1) (cs ++ [(m - sg * ind sl i, i :: w)]) where
  sound := fun c hc => by
    rcases List.mem_append.mp hc with hc | hc
    · obtain ⟨l, h1, h2⟩ := C.sound c hc
      exact ⟨l, Nat.lt_succ_of_lt h1, h2⟩
    · have e : c = _ := List.mem_singleton.mp hc
      exact ⟨i, Nat.lt_succ_self i, h, m, w, B, e⟩
  all := fun l hl hp => by
    rcases Nat.lt_or_ge l i with z | z
    · obtain ⟨c, h1, h2⟩ := C.all l z hp
      exact ⟨c, List.mem_append_left _ h1, h2⟩
    · have e : l = i := by omega
      subst e
      exact ⟨_, List.mem_append_right _ (List.mem_singleton.mpr rfl), h, m, w, B, rfl⟩
theorem CandOk.best {vs : List Nat} {sg : Int} {k : Nat} {sl su : List Nat} {cs : List (Int × List Nat)} (C : CandOk vs sg k sl su su.length cs) {m : Int} {w : List Nat} (hm : (m, w) ∈ cs)
    (hl : ∀ c ∈ cs, ltP (c.1, nz c.2) (m, nz w) = false) : IsBest vs sg (k + 1) sl su m w := by
  obtain ⟨l, hl0, hp, m', w', B, e⟩ := C.sound _ hm
  have e1 : m = m' - sg * ind sl l := congrArg Prod.fst e
  have e2 : w = l :: w' := congrArg Prod.snd e
  refine ⟨?_, ?_, fun u hu => ?_⟩
  · rw [e2]
    exact arrN_mem.mpr ⟨l, w', hp, B.mem, rfl⟩
  · rw [e1, e2, cost_cons, B.val]
  · obtain ⟨l2, u2, hp2, hu2, rfl⟩ := arrN_mem.mp hu
    obtain ⟨c, hc, _, m2, w2, B2, rfl⟩ := C.all l2 (lt_of_pos hp2) hp2
    have h1 := hl _ hc
    have h2 := B2.least u2 hu2
    rw [cost_cons]
    refine ltP_trans _ (m2 - sg * ind sl l2, nz (l2 :: w2)) _ h1 ?_
    exact ltP_cons _ _ _ _ _ _ h2
theorem CandOk.some {vs : List Nat} {sg : Int} {k : Nat} {sl su : List Nat} {cs : List (Int × List Nat)} (C : CandOk vs sg k sl su su.length cs) (h : 0 < su.sum) : cs ≠ [] := fun e => by
  obtain ⟨l, hl⟩ := pos_of_sum su h
  obtain ⟨c, hc, _⟩ := C.all l (lt_of_pos hl) hl
  rw [e] at hc
  cases hc
/-- how many calls there are at most -/
def calls : Nat → Nat
  | 0 => 1
  | k + 1 => 1 + 4 * calls k
theorem calls_pos (k : Nat) : 1 ≤ calls k := by
  cases k with
  | zero => exact Nat.le_refl _
  | succ k => exact Nat.le_add_right _ _
theorem calls_mono : ∀ {j k : Nat}, j ≤ k → calls j ≤ calls k
  | 0, k, _ => calls_pos k
  | j + 1, 0, h => by omega
  | j + 1, k + 1, h => by
    have := calls_mono (j := j) (k := k) (by omega)
    show 1 + 4 * calls j ≤ 1 + 4 * calls k
    omega
theorem calls_six : calls 6 = 5461 := rfl
/-! ### the greatest, the least -/
theorem most_is {vs sl su : List Nat} {k : Nat} {m : Int} {w wd : List Nat} {M : Int} (B : IsBest vs 1 k sl su m w) (hM : ∃ u ∈ arrN k su, M = (cost vs sl u : Int)) (hle : ∀ u ∈ arrN k su, (cost vs sl u : Int) ≤ M)
    (hd : wd ∈ arrN k su ∧ (cost vs sl wd : Int) = M) (hmin : ∀ u ∈ arrN k su, (cost vs sl u : Int) = M → ltL (nz u) (nz wd) = false) : - m = M ∧ w = wd := by
  have hv := B.val
  obtain ⟨u, hu, eu⟩ := hM
  have h1 := B.least u hu
  have hw := hle w B.mem
  rw [Int.one_mul] at hv
  have e : (cost vs sl w : Int) = M := by
    rw [Int.one_mul] at h1
    unfold ltP at h1
    simp only at h1
    by_cases z : - (cost vs sl u : Int) = m
    · omega
    · rw [if_neg z] at h1
      have := of_decide_eq_false h1
      omega
  refine ⟨by omega, ?_⟩
  refine nz_inj (ltL_tri _ _ ?_ ?_)
  · exact hmin w B.mem e
  · have h2 := B.least wd hd.1
    rw [Int.one_mul] at h2
    unfold ltP at h2
    simp only at h2
    rwa [if_pos (by omega)] at h2
theorem fewest_is {vs sl su : List Nat} {k : Nat} {m : Int} {w wd : List Nat} {M : Int} (B : IsBest vs (-1) k sl su m w) (hM : ∃ u ∈ arrN k su, M = (cost vs sl u : Int)) (hle : ∀ u ∈ arrN k su, M ≤ (cost vs sl u : Int))
    (hd : wd ∈ arrN k su ∧ (cost vs sl wd : Int) = M) (hmin : ∀ u ∈ arrN k su, (cost vs sl u : Int) = M → ltL (nz u) (nz wd) = false) : m = M ∧ w = wd := by
  have hv := B.val
  obtain ⟨u, hu, eu⟩ := hM
  have h1 := B.least u hu
  have hw := hle w B.mem
  have neg : ∀ c : Int, - (-1 * c) = c := fun c => by omega
  rw [neg] at hv h1
  have e : (cost vs sl w : Int) = M := by
    unfold ltP at h1
    simp only at h1
    by_cases z : (cost vs sl u : Int) = m
    · omega
    · rw [if_neg z] at h1
      have := of_decide_eq_false h1
      omega
  refine ⟨by omega, ?_⟩
  refine nz_inj (ltL_tri _ _ ?_ ?_)
  · exact hmin w B.mem e
  · have h2 := B.least wd hd.1
    rw [neg] at h2
    unfold ltP at h2
    simp only at h2
    rwa [if_pos (by omega)] at h2
/-! ### the slate turned about -/
theorem rev_erase (sl : List Nat) (v : Nat) (h1 : 1 ≤ v) (h2 : v ≤ sl.length) : sl.reverse.eraseIdx (sl.length - v) = (sl.eraseIdx (v - 1)).reverse := by
  rw [List.eraseIdx_eq_take_drop_succ, List.eraseIdx_eq_take_drop_succ, List.reverse_append, List.take_reverse, List.drop_reverse]
  have e1 : sl.length - (sl.length - v) = v - 1 + 1 := by omega
  have e2 : sl.length - (sl.length - v + 1) = v - 1 := by omega
  rw [e1, e2]
theorem rev_step {vs sl : List Nat} {l v : Nat} (hv : vs.getD l 1 = v) (h1 : 1 ≤ v) (h2 : v ≤ sl.length) : sl.reverse.eraseIdx (sl.length - v) ++ [l] = (stepN vs sl l).reverse := by
  unfold stepN
  rw [hv, rev_erase sl v h1 h2, List.reverse_cons]
theorem rev_step' {vs sl : List Nat} {l v : Nat} (hv : vs.getD l 1 = v) (h2 : sl.length < v) : sl.reverse ++ [l] = (stepN vs sl l).reverse := by
  unfold stepN
  rw [hv, List.eraseIdx_of_length_le (by omega), List.reverse_cons]
theorem step_short {vs sl : List Nat} {l v : Nat} (hv : vs.getD l 1 = v) (h2 : sl.length < v) : stepN vs sl l = l :: sl := by
  unfold stepN
  rw [hv, List.eraseIdx_of_length_le (by omega)]
theorem step_long {vs sl : List Nat} {l v : Nat} (hv : vs.getD l 1 = v) (h1 : 1 ≤ v) : stepN vs sl l = l :: (sl.take (v - 1) ++ sl.drop v) := by
  unfold stepN
  rw [hv, List.eraseIdx_eq_take_drop_succ]
  have e : v - 1 + 1 = v := by omega
  rw [e]
theorem dec_cut {su : List Nat} {l : Nat} (h : l < su.length) : su.take l ++ [su.getD l 0 - 1] ++ su.drop (l + 1) = dec su l := by
  unfold dec
  rw [List.set_eq_take_append_cons_drop, if_pos h, List.append_assoc]
  rfl
/-! ### counts -/
def counts (w : List Nat) (n : Nat) : List Nat := (List.range n).map fun l => w.count l
theorem counts_len (w : List Nat) (n : Nat) : (counts w n).length = n := by simp [counts]
theorem counts_sum : ∀ (w : List Nat) (n : Nat), (∀ x ∈ w, x < n) → (counts w n).sum = w.length
  | [], n, _ => by
    unfold counts
    induction n with
    | zero => rfl
    | succ n ih => rw [List.range_succ, List.map_append, List.sum_append, ih (fun _ h => nomatch h)]; rfl
  | x :: w, n, h => by
    have ih := counts_sum w n fun y hy => h y (List.mem_cons_of_mem _ hy)
    have hx := h x List.mem_cons_self
    have key : ∀ m : Nat, (counts (x :: w) m).sum = (counts w m).sum + (if x < m then 1 else 0) := by
      intro m
      unfold counts
      induction m with
      | zero => rfl
      | succ m ihm =>
        rw [List.range_succ, List.map_append, List.map_append, List.sum_append, List.sum_append, ihm]
        simp only [List.map_cons, List.map_nil, List.sum_cons, List.sum_nil, List.count_cons, Nat.add_zero]
        by_cases e : x = m
        · have hb : (x == m) = true := by simpa using e
          rw [if_neg (show ¬ x < m by omega), if_pos (show x < m + 1 by omega), if_pos hb]
          omega
        · have hb : ¬ (x == m) = true := by simpa using e
          rw [if_neg hb]
          by_cases hl : x < m
          · rw [if_pos hl, if_pos (show x < m + 1 by omega)]
            omega
          · rw [if_neg hl, if_neg (show ¬ x < m + 1 by omega)]
            omega
    rw [key n, if_pos hx, ih, List.length_cons]
end FW
end
namespace Fw
open PySem PySem.Spec PyProof.Rows L2 FW
/-! ### heaps, tuples of letters -/
theorem same_new {H : Hp} {p : Addr} {o : HO} (h : H p = none) : Same H (upd H p o) := fun b x e => by
  have ne : b ≠ p := ne_of_none e h
  rw [upd_ne ne]
  exact e
theorem Same.rd' {H H' : Hp} {a : Addr} {u : HO} (s : Same H H') (r : Rd H a u) : Rd H' a u := by
  rcases r with r | ⟨o, r⟩
  · exact .inl (s _ _ r)
  · exact .inr ⟨o, s _ _ r⟩
theorem Same.sqT {K : PySem.W.Frag} {H H' : Hp} {a : Addr} {xs : List V} (s : Same H H') (r : SqT K H a xs) : SqT K H' a xs := by
  rcases r with r | r
  · exact .inl (Same.rd' s r)
  · exact .inr r
/-- letters as values -/
def lv (w : List Nat) : List V := (nz w).map V.int
theorem lv_len (w : List Nat) : (lv w).length = w.length := by unfold lv; rw [List.length_map, nz_len]
theorem lv_get (w : List Nat) (i : Nat) : (lv w)[i]? = (w[i]?).map fun n : Nat => V.int (n : Int) := by
  unfold lv
  rw [List.getElem?_map, nz_get, Option.map_map]
  rfl
theorem lv_at {w : List Nat} {i n : Nat} (h : w[i]? = some n) : (lv w)[i]? = some (V.int (n : Int)) := by rw [lv_get, h]; rfl
theorem lv_append (a b : List Nat) : lv (a ++ b) = lv a ++ lv b := by unfold lv; rw [nz_append, List.map_append]
theorem lv_nil : lv [] = [] := rfl
theorem lv_cons (n : Nat) (w : List Nat) : lv (n :: w) = V.int (n : Int) :: lv w := rfl
theorem lv_take (w : List Nat) (i : Nat) : (lv w).take i = lv (w.take i) := by unfold lv nz; rw [List.map_take, List.map_take]
theorem lv_drop (w : List Nat) (i : Nat) : (lv w).drop i = lv (w.drop i) := by unfold lv nz; rw [List.map_drop, List.map_drop]
theorem lv_reverse (w : List Nat) : (lv w).reverse = lv w.reverse := by unfold lv nz; rw [List.map_reverse, List.map_reverse]
theorem lv_erase (w : List Nat) (i : Nat) : (lv w).eraseIdx i = lv (w.eraseIdx i) := by
  rw [List.eraseIdx_eq_take_drop_succ, List.eraseIdx_eq_take_drop_succ, lv_append, ← lv_take, ← lv_drop]
theorem lv_flat (w : List Nat) : (lv w).all flatV = true := by
  unfold lv
  rw [List.all_map]
  exact List.all_eq_true.mpr fun _ _ => rfl
theorem lv_in (l : Nat) (w : List Nat) : inV (V.int (l : Int)) (lv w) = decide (l ∈ w) := by
  unfold inV lv nz
  rw [List.map_map, List.any_map, Bool.eq_iff_iff, List.any_eq_true, decide_eq_true_iff]
  constructor
  · rintro ⟨x, hx, e⟩
    have e' : decide ((x : Int) = (l : Int)) = true := by
      have q : eqV (V.int (x : Int)) (V.int (l : Int)) = true := e
      unfold eqV at q
      simpa using q
    have := of_decide_eq_true e'
    have q : x = l := by omega
    exact q ▸ hx
  · intro h
    refine ⟨l, h, ?_⟩
    show eqV (V.int (l : Int)) (V.int (l : Int)) = true
    unfold eqV
    simp
/-- the tuple at a holds these letters -/
def Tw (H : Hp) (a : Addr) (w : List Nat) : Prop := Rd H a (.tup (lv w))
theorem Tw.sq {K : PySem.W.Frag} {H : Hp} {a : Addr} {w : List Nat} (t : Tw H a w) : SqT K H a (lv w) := .inl t
theorem Tw.same {H H' : Hp} {a : Addr} {w : List Nat} (t : Tw H a w) (s : Same H H') : Tw H' a w := Same.rd' s t
theorem Tw.of {H : Hp} {a : Addr} {w : List Nat} (h : H a = some (.tup (lv w))) : Tw H a w := .inl h
theorem Tw.ty {K : PySem.W.Frag} {H : Hp} {a : Addr} {xs : List V} (t : Rd H a (.tup xs)) : TyX K H (.ref a) (.type "tuple") := by
  rcases t with t | ⟨o, t⟩
  · exact .base (.tup t)
  · exact .fTuple t
/-! ### dicts whose keys are pairs of tuples of letters -/
def nums (w : List Nat) : List NestedKey := (nz w).map NestedKey.num
def keyN (sl su : List Nat) : NestedKey := .tup [.tup (nums sl), .tup (nums su)]
theorem nums_inj {a b : List Nat} (h : nums a = nums b) : a = b := by
  unfold nums at h
  exact nz_inj ((List.map_inj_right (f := NestedKey.num) fun x y e => NestedKey.num.inj e).mp h)
theorem keyN_inj {a b c d : List Nat} (h : keyN a b = keyN c d) : a = c ∧ b = d := by
  unfold keyN at h
  have h1 := NestedKey.tup.inj h
  have h2 := List.cons.inj h1
  have h3 := List.cons.inj h2.2
  exact ⟨nums_inj (NestedKey.tup.inj h2.1), nums_inj (NestedKey.tup.inj h3.1)⟩
theorem depth_nums (ns : List Int) : NestedKey.depthAll (ns.map NestedKey.num) = 0 := by
  induction ns with
  | nil => simp [NestedKey.depthAll]
  | cons n r ih => rw [List.map_cons, NestedKey.depthAll, ih]; simp [NestedKey.depth]
/-- at a stands the key (slate, supply) -/
def KeyAt (H : Hp) (a : Addr) (sl su : List Nat) : Prop := ∃ p q, H a = some (.tup [.ref p, .ref q]) ∧ Tw H p sl ∧ Tw H q su
theorem KeyAt.same {H H' : Hp} {a : Addr} {sl su : List Nat} (k : KeyAt H a sl su) (s : Same H H') : KeyAt H' a sl su := by
  obtain ⟨p, q, h1, h2, h3⟩ := k
  exact ⟨p, q, s _ _ h1, h2.same s, h3.same s⟩
section
variable {P : Program} {w : World} {H : Hp} {h : Heap} {a : Addr} {sl su : List Nat}
theorem nums_are : ∀ {ns : List Int} {us : List Value}, Vals (ns.map V.int) us → NestedAll h (ns.map NestedKey.num) us
  | [], _, r => by
    cases r
    exact .nil
  | n :: ns, _, r => by
    cases r with
    | cons r rs =>
      obtain ⟨t, rfl⟩ := r
      exact .cons (.int n t) (nums_are rs)
theorem tw_is (ok : HOk P w H h) (t : Tw H a sl) : NestedIs h (.tup (nums sl)) (.ref a) := by
  obtain ⟨_, its, r, o, h1, h2, n, h3⟩ := (show ObjOk P w H h a (.tup (lv sl)) from t.ok ok)
  exact .tup h1 h2 h3 (nums_are r)
theorem key_is (ok : HOk P w H h) (k : KeyAt H a sl su) : (nestedKind P w).is h (keyN sl su) a := by
  obtain ⟨p, q, hp, hs, hu⟩ := k
  obtain ⟨_, its, r, o, h1, h2, n, h3⟩ := (show ObjOk P w H h a (.tup [.ref p, .ref q]) from ok a _ hp)
  cases r with
  | cons r1 rr =>
    cases rr with
    | cons r2 rr =>
      cases rr
      cases r1
      cases r2
      refine ⟨.tup h1 h2 h3 (.cons (tw_is ok hs) (.cons (tw_is ok hu) .nil)), ?_⟩
      unfold keyN nums
      rw [NestedKey.depth, NestedKey.depthAll, NestedKey.depthAll, NestedKey.depthAll, NestedKey.depth, NestedKey.depth, depth_nums, depth_nums]
      decide
/-- the dict's own object -/
def DPhi (P : Program) (w : World) (d : Addr) (xs : List (NestedKey × Addr × Value)) : Heap → Prop := fun h =>
  (d == sysModules) = false ∧ xs.length ≤ sizeLine ∧ (xs.map (·.1)).Nodup ∧ ∃ o es ep, h.get? d = some o ∧ o.ExactDict ∧ o.data = .dict es ep ∧ es.toList = xs.map (entryOfKey (nestedKind P w))
theorem dphi_obj {d : Addr} {xs : List (NestedKey × Addr × Value)} (hq : DPhi P w d xs h) : ObjOk P w H h d (.ext (DPhi P w d xs)) := by
  refine ⟨hq, ?_, fun h1 h2 q k => ?_⟩
  · obtain ⟨_, _, _, o, _, _, e, _⟩ := hq
    exact ⟨o, e⟩
  · obtain ⟨a1, a2, a3, o, es, ep, e, r⟩ := q
    exact ⟨a1, a2, a3, o, es, ep, k o e, r⟩
/-- a key of ours -/
def KeyOf (H : Hp) (k : NestedKey) (a : Addr) : Prop := ∃ sl su, k = keyN sl su ∧ KeyAt H a sl su
/-- at d stands the dict kvs -/
def KD (P : Program) (w : World) (H : Hp) (d : Addr) (kvs : List (NestedKey × V)) : Prop :=
  ∃ xs, H d = some (.ext (DPhi P w d xs)) ∧ KV kvs (pairsH xs) ∧ ∀ x ∈ xs, KeyOf H x.1 x.2.1
theorem KD.same {H' : Hp} {d : Addr} {kvs : List (NestedKey × V)} (k : KD P w H d kvs) (s : Same H H') : KD P w H' d kvs := by
  obtain ⟨xs, h1, h2, h3⟩ := k
  refine ⟨xs, s _ _ h1, h2, fun x hx => ?_⟩
  obtain ⟨sl, su, e, ka⟩ := h3 x hx
  exact ⟨sl, su, e, ka.same s⟩
theorem KD.dict {d : Addr} {kvs : List (NestedKey × V)} (ok : HOk P w H h) (k : KD P w H d kvs) : ∃ xs, H d = some (.ext (DPhi P w d xs)) ∧ KV kvs (pairsH xs) ∧ (∀ x ∈ xs, KeyOf H x.1 x.2.1) ∧
    (d == sysModules) = false ∧ xs.length ≤ sizeLine ∧ h.DictOfH (nestedKind P w) d xs := by
  obtain ⟨xs, h1, h2, h3⟩ := k
  obtain ⟨⟨a1, a2, a3, o, es, ep, e1, e2, e3, e4⟩, _⟩ := (show ObjOk P w H h d (.ext (DPhi P w d xs)) from ok d _ h1)
  refine ⟨xs, h1, h2, h3, a1, a2, o, es, ep, e1, e2, e3, e4, fun x hx => ?_, a3⟩
  obtain ⟨sl, su, e, ka⟩ := h3 x hx
  rw [e]
  exact key_is ok ka
end
theorem pairs_len {xs : List (NestedKey × Addr × Value)} {kvs : List (NestedKey × V)} (r : KV kvs (pairsH xs)) : kvs.length = xs.length := by
  have e := r.length
  rwa [pairsH_length] at e
theorem stored_mem {xs : List (NestedKey × Addr × Value)} {k : NestedKey} {a : Addr} {v : Value} {x : NestedKey × Addr × Value} (h : x ∈ storedH xs k a v) : (∃ y ∈ xs, y.1 = x.1 ∧ y.2.1 = x.2.1) ∨ (x.1 = k ∧ x.2.1 = a) := by
  unfold storedH at h
  split at h
  · obtain ⟨y, hy, e⟩ := List.mem_map.mp h
    refine .inl ⟨y, hy, ?_⟩
    unfold putAt at e
    split at e
    · rw [← e]
      exact ⟨rfl, rfl⟩
    · rw [← e]
      exact ⟨rfl, rfl⟩
  · rcases List.mem_append.mp h with h | h
    · exact .inl ⟨x, h, rfl, rfl⟩
    · have e : x = (k, a, v) := List.mem_singleton.mp h
      rw [e]
      exact .inr ⟨rfl, rfl⟩
section
variable {X : Cx} {o i value : Expr} {pos pos' : Pos} {td ty tv : TE}
theorem key_room {A : Around} {k : Nat} (hr : Room k A) : A.in1.units + 8 < cLine := by
  have h1 := hr.units
  have h2 : A.in1.units = A.units + 1 := rfl
  omega
/-- {} -/
def tKNew (P : Program) (w : World) : TE := fun _ H Q => ∀ p, H p = none → (∀ H', H' = upd H p (.ext (DPhi P w p [])) → KD P w H' p [] → Same H H' → Q (.ref p) H')
theorem pe_knew : PE X (.Dict [] [] pos) (tKNew X.prog X.w) := ⟨fun pins s σ H Q I h => by
  have hb : (s.heap.objs.size == sysModules) = false := beq_eq_false_iff_ne.mpr (Ne.symm (Nat.ne_of_lt I.big))
  have hn : H s.heap.objs.size = none := I.hok.fresh (Nat.le_refl _)
  have hq : DPhi X.prog X.w s.heap.objs.size [] (s.heap.push { cls := .type "dict", data := .dict #[] }) := ⟨hb, Nat.zero_le _, List.nodup_nil, _, #[], 0, Heap.get?_push_size _ rfl, ⟨rfl, rfl, rfl⟩, rfl, rfl⟩
  refine wpAny_Dict_empty ⟨.ref s.heap.objs.size, _, I.laid (a := s.heap.objs.size) (t' := s.toks) (fun _ _ q => Heap.get?_push_of_some _ q) (Nat.le_refl _) (dphi_obj hq), rfl, ?_⟩
  exact h _ hn _ rfl ⟨[], upd_same, .nil, fun _ hx => (nomatch hx)⟩ (same_new hn)⟩
/-- y not in d -/
def tKNotIn (P : Program) (w : World) (ty td : TE) : TE := fun σ H Q => ty σ H fun y H1 => td σ H1 fun x H2 => ∃ d a kvs sl su, x = .ref d ∧ y = .ref a ∧ KeyAt H2 a sl su ∧ KD P w H2 d kvs ∧ Q (.bl (!(valV kvs (keyN sl su)).isSome)) H2
theorem pc_knotin {k : Nat} (hr : Room k X.A) (hi : PE X i ty) (ho : PE X o td) : PC X .NotIn i o (tKNotIn X.prog X.w ty td) := by
  refine ⟨fun pins s σ H Q I h => ?_⟩
  refine thn (hi.run pins s σ H _ I h) fun iv s1 ⟨y, H1, I1, ry, q1⟩ => thn (ho.run pins s1 σ H1 _ I1 q1) fun u s2 ⟨x, H2, I2, rx, d, a, kvs, sl, su, ex, ey, ka, kd, q2⟩ => ?_
  subst ex ey
  obtain rfl : u = Value.ref d := rx
  obtain rfl : iv = Value.ref a := ry
  obtain ⟨xs, _, rel, _, hs, _, dd⟩ := kd.dict I2.hok
  refine notIn_keyed (knd := nestedKind X.prog X.w) (key_room hr) (key_is I2.hok ka) hs ⟨xs, dd, rfl⟩ ⟨.bl _, H2, I2.tok _, ?_, q2⟩
  show Value.bool _ = Value.bool _
  rw [← (rel.val (keyN sl su)).isSome_eq]
/-- d[y] -/
def tKGet (P : Program) (w : World) (td ty : TE) : TE := fun σ H Q => td σ H fun x H1 => ty σ H1 fun y H2 => ∃ d a kvs sl su v, x = .ref d ∧ y = .ref a ∧ KeyAt H2 a sl su ∧ KD P w H2 d kvs ∧ valV kvs (keyN sl su) = some v ∧ Q v H2
theorem pe_kget {k : Nat} (hr : Room k X.A) (ho : PE X o td) (hi : PE X i ty) (hs : NoSl i) : PE X (.Subscript o i pos) (tKGet X.prog X.w td ty) := by
  refine ⟨fun pins s σ H Q I h => ?_⟩
  refine subD_of PySem.F.slot_dict_getitem.lookup hs (thn (ho.run pins s σ H _ I h) fun u s1 ⟨x, H1, I1, rx, q1⟩ => thn (hi.run pins s1 σ H1 _ I1 q1) fun iv s2 ⟨y, H2, I2, ry, d, a, kvs, sl, su, v, ex, ey, ka, kd, l, q2⟩ => ?_)
  subst ex ey
  obtain rfl : u = Value.ref d := rx
  obtain rfl : iv = Value.ref a := ry
  obtain ⟨xs, _, rel, _, _, _, dd⟩ := kd.dict I2.hok
  obtain ⟨w', hw, rw'⟩ := RelO.some_of (v := v) (o := valueAt (pairsH xs) (keyN sl su)) (by rw [← l]; exact rel.val _)
  exact ⟨dd.typeIs, getItem_keyed (knd := nestedKind X.prog X.w) (key_room hr) (key_is I2.hok ka) ⟨xs, dd, rfl⟩ hw ⟨v, H2, I2.tok _, rw', q2⟩⟩
/-- d[y] = v -/
def sKPut (P : Program) (w : World) (td ty tv : TE) : TS := fun D σ H => tv σ H fun v H1 => td σ H1 fun x H2 => ty σ H2 fun y H3 => ∃ d a kvs sl su, x = .ref d ∧ y = .ref a ∧ KeyAt H3 a sl su ∧ KD P w H3 d kvs ∧ kvs.length < sizeLine ∧
  ∀ H4, KD P w H4 d (putK kvs (keyN sl su) v) → (∀ b ob, b ≠ d → H3 b = some ob → H4 b = some ob) → D.nx σ H4
theorem ps_kput {k : Nat} (hr : Room k X.A) (ho : PE X o td) (hi : PE X i ty) (hv : PE X value tv) (hs : swapsWith value (some (.Subscript o i pos')) pos.line X.env = pure false) :
    PS X (.Assign [.Subscript o i pos'] value pos) (sKPut X.prog X.w td ty tv) := by
  refine ⟨fun pins s σ H D I h => ?_⟩
  refine wpAny_Assign_Subscript (thn (hv.run pins s σ H _ I h) fun r s1 ⟨v, H1, I1, rv, q1⟩ => thn (ho.run pins s1 σ H1 _ I1 q1) fun u s2 ⟨x, H2, I2, rx, q2⟩ => thn (hi.run pins s2 σ H2 _ I2 q2) fun iv s3 ⟨y, H3, I3, ry, d, a, kvs, sl, su, ex, ey, ka, kd, hlt, q3⟩ => ?_) hs
  subst ex ey
  obtain rfl : u = Value.ref d := rx
  obtain rfl : iv = Value.ref a := ry
  obtain ⟨xs, hd, rel, keys, hsm, hl, dd⟩ := kd.dict I3.hok
  have hxl := pairs_len rel
  refine wpAny_setItem_heap (knd := nestedKind X.prog X.w) (hsz := hl) (key_room hr) (key_is I3.hok ka) dd fun h' dd' sb => ?_
  obtain ⟨q, es, ep, hq, e2, e3, e4, _, e5⟩ := dd'
  have rel' : KV (putK kvs (keyN sl su) v) (pairsH (storedH xs (keyN sl su) a r)) := by
    rw [pairsH_storedH]
    exact rel.put (keyN sl su) rv
  have len' : (storedH xs (keyN sl su) a r).length ≤ sizeLine := by
    have z1 := pairs_len rel'
    have z2 := length_putK kvs (keyN sl su) v
    omega
  have hphi : DPhi X.prog X.w d (storedH xs (keyN sl su) a r) h' := ⟨hsm, len', e5, q, es, ep, hq, e2, e3, e4⟩
  have I4 : Inv X pins σ (upd H3 d (.ext (DPhi X.prog X.w d (storedH xs (keyN sl su) a r)))) { s3 with heap := h', toks := s3.toks + (nestedKind X.prog X.w).draws (keyN sl su) } :=
    d_write I3 (by rw [hd]; exact True.intro) sb ⟨q, hq⟩ (dphi_obj hphi)
  have tup : ∀ b xs', H3 b = some (.tup xs') → b ≠ d := fun b xs' e => ne_of e hd (fun z => nomatch z)
  have rdT : ∀ {b : Addr} {w' : List Nat}, Tw H3 b w' → Tw (upd H3 d (.ext (DPhi X.prog X.w d (storedH xs (keyN sl su) a r)))) b w' := fun {b w'} t => by
    rcases t with t | ⟨ob, t⟩
    · refine .inl ?_
      rw [upd_ne (tup _ _ t)]
      exact t
    · refine .inr ⟨ob, ?_⟩
      have nb : b ≠ d := ne_of t hd (fun z => nomatch z)
      rw [upd_ne nb]
      exact t
  have kat : ∀ {b : Addr} {x1 x2 : List Nat}, KeyAt H3 b x1 x2 → KeyAt (upd H3 d (.ext (DPhi X.prog X.w d (storedH xs (keyN sl su) a r)))) b x1 x2 := fun {b x1 x2} t => by
    obtain ⟨p1, p2, t1, t2, t3⟩ := t
    refine ⟨p1, p2, ?_, rdT t2, rdT t3⟩
    rw [upd_ne (tup _ _ t1)]
    exact t1
  refine ⟨σ, _, I4, q3 _ ⟨_, upd_same, rel', fun x hx => ?_⟩ fun b ob hb e => by rw [upd_ne hb]; exact e⟩
  rcases stored_mem hx with ⟨y, hy, z1, z2⟩ | ⟨z1, z2⟩
  · obtain ⟨x1, x2, e, kk⟩ := keys y hy
    exact ⟨x1, x2, by rw [← z1]; exact e, by rw [← z2]; exact kat kk⟩
  · exact ⟨sl, su, z1, by rw [z2]; exact kat ka⟩
/-- len(d) -/
def rKLen (P : Program) (w : World) : List V → Hp → VK → Prop := fun vs H Q => ∃ (d : Addr) (kvs : List (NestedKey × V)), vs = [.ref d] ∧ KD P w H d kvs ∧ Q (.int ((kvs.length : Nat) : Int)) H
theorem call_klen : CallR X (.builtin "len") (rKLen X.prog X.w) := by
  intro pins s σ H vs us Q I r h
  obtain ⟨d, kvs, rfl, kd, q⟩ := h
  obtain ⟨u, rfl, rx⟩ := vals1 r
  obtain rfl : u = .ref d := rx
  obtain ⟨xs, _, rel, _, hs, hl, dd⟩ := kd.dict I.hok
  have e := pairs_len rel
  refine call_len_dictH hs dd (by rw [sizeLine_eq] at hl; omega) ?_
  rw [← e]
  exact ⟨.int ((kvs.length : Nat) : Int), H, I.tok _, ⟨_, rfl⟩, q⟩
end
end Fw
namespace Fw
open PySem PySem.Spec PyProof.Rows L2 FW
open PySem.W (Datum DatumOrd Holds HoldAll Tup minOf listLt)
/-! ### min of pairs and of words -/
theorem ltL_is : ∀ a b : List Int, listLt a b = ltL a b
  | [], [] => rfl
  | [], _ :: _ => rfl
  | _ :: _, [] => rfl
  | x :: a, y :: b => by
    show (if x = y then listLt a b else decide (x < y)) = if x = y then ltL a b else decide (x < y)
    rw [ltL_is a b]
theorem ltT_is (a b : Tup Int) : DatumOrd.lt a b = ltL a.items b.items := ltL_is _ _
theorem ltQ_is (p q : Int × Tup Int) : DatumOrd.lt p q = ltP (p.1, p.2.items) (q.1, q.2.items) := by
  show (if p.1 = q.1 then listLt p.2.items q.2.items else decide (p.1 < q.1)) = _
  rw [ltL_is]
  rfl
theorem holds_one {α : Type} [DecidableEq α] [DatumOrd α] {h : Heap} {v : Value} {x y : α} (H1 : Holds h v x) (H2 : Holds h v y) : x = y := by
  obtain ⟨as, r1⟩ := H1
  obtain ⟨bs, r2⟩ := H2
  have e := PySem.W.alike_unique _ _ v as bs (DatumOrd.alike x y) r1 r2
  have e1 := Datum.eqv x y
  have e2 := Datum.eqv x x
  rw [← e, e2] at e1
  exact of_decide_eq_true (e1.symm.trans (decide_eq_true rfl))
theorem vals_back {xs : List V} {us : List Value} {i : Nat} {u : Value} (r : Vals xs us) (h : us[i]? = some u) : ∃ x, xs[i]? = some x ∧ RelV x u := by
  have hi : i < us.length := (List.getElem?_eq_some_iff.mp h).1
  have hx : i < xs.length := by rw [r.length]; exact hi
  obtain ⟨u', e, q⟩ := r.get (List.getElem?_eq_getElem hx)
  rw [h] at e
  cases e
  exact ⟨_, List.getElem?_eq_getElem hx, q⟩
/-- lt is an order -/
structure Ordr {α : Type} (lt : α → α → Bool) : Prop where
  irr : ∀ a, lt a a = false
  asy : ∀ a b, lt a b = true → lt b a = false
  tr : ∀ a b c, lt b a = false → lt c b = false → lt c a = false
theorem ordT : Ordr (DatumOrd.lt : Tup Int → Tup Int → Bool) where
  irr a := by rw [ltT_is]; exact ltL_irrefl _
  asy a b h := by rw [ltT_is] at h ⊢; exact ltL_asymm _ _ h
  tr a b c h1 h2 := by rw [ltT_is] at h1 h2 ⊢; exact ltL_trans _ _ _ h1 h2
theorem ordQ : Ordr (DatumOrd.lt : Int × Tup Int → Int × Tup Int → Bool) where
  irr a := by rw [ltQ_is]; exact ltP_irrefl _
  asy a b h := by rw [ltQ_is] at h ⊢; exact ltP_asymm _ _ h
  tr a b c h1 h2 := by rw [ltQ_is] at h1 h2 ⊢; exact ltP_trans _ _ _ h1 h2
/-- min(xs), xs a list of data: one of the items, none of which is less -/
def rMinD (α : Type) [DecidableEq α] [DatumOrd α] (K : PySem.W.Frag) : List V → Hp → VK → Prop := fun vs H Q => ∃ (a : Addr) (ys : List V) (xs : List α), vs = [.ref a] ∧ SqL K H a ys ∧ DpAll K H ys (xs.map Datum.toD) ∧ xs ≠ [] ∧
  ∀ (i : Nat) (y : V) (x : α), ys[i]? = some y → xs[i]? = some x → (∀ z ∈ xs, DatumOrd.lt z x = false) → Q y H
theorem cr_minD {X : Cx} {k : Nat} (α : Type) [DecidableEq α] [DatumOrd α] (hc : X.calm = true) (hr : Room k X.A) (hd : Datum.depth α ≤ 8) (od : Ordr (DatumOrd.lt : α → α → Bool)) : CallR X (.builtin "min") (rMinD α X.K) := by
  intro pins s σ H vs us Q I r h
  obtain ⟨a, ys, xs, rfl, hs, hp, hne, q⟩ := h
  obtain ⟨its, rv, hl, _⟩ := I.list hs
  obtain ⟨as, ra⟩ := Dp.readsAll I _ _ its hp rv
  rw [Vals.ref1 r]
  cases xs with
  | nil => exact absurd rfl hne
  | cons x xr =>
    have HA : HoldAll s.heap its (x :: xr) := ⟨as, ra⟩
    have hu : X.A.units + 1 + Datum.depth α < cLine := by have := hr.units; omega
    refine PySem.W.min_list_datum (x := x) (xs := xr) (I.ok.hd hc) hl.isList HA hu fun i v h' tk hv hm hk => ?_
    have hv' : its[i]? = some v := by simpa using hv
    obtain ⟨y, hy, ry⟩ := vals_back rv hv'
    obtain ⟨x', hx', hh⟩ := HA.at hv'
    have e : x' = minOf x xr := holds_one (hh.keeps hk) hm
    refine ⟨y, H, I.kept hk, ry, q i y x' hy hx' ?_⟩
    rw [e]
    exact (fold_least (DatumOrd.lt : α → α → Bool) od.irr od.asy od.tr xr x).2
theorem dp_ints {K : PySem.W.Frag} {H : Hp} : ∀ ns : List Int, DpAll K H (ns.map V.int) (ns.map PyData.int)
  | [] => .nil
  | n :: ns => .cons (.int n) (dp_ints ns)
theorem dp_word {K : PySem.W.Frag} {H : Hp} {a : Addr} {w : List Nat} (t : Tw H a w) : Dp K H (.ref a) (Datum.toD (Tup.mk (nz w))) := .tup t.sq (dp_ints _)
theorem dp_pair {K : PySem.W.Frag} {H : Hp} {p q : Addr} {m : Int} {w : List Nat} (t : SqT K H p [.int m, .ref q]) (tw : Tw H q w) : Dp K H (.ref p) (Datum.toD ((m, Tup.mk (nz w)) : Int × Tup Int)) :=
  .tup t (.cons (.int m) (.cons (dp_word tw) .nil))
/-! ### sum of a tuple -/
def rSumT (K : PySem.W.Frag) : List V → Hp → VK → Prop := fun vs H Q => ∃ (a : Addr) (ns : List Int), vs = [V.ref a] ∧ SqT K H a (ns.map V.int) ∧ Q (.int ns.sum) H
theorem cr_sumT {X : Cx} (hc : X.calm = true) : CallR X (.builtin "sum") (rSumT X.K) := by
  intro pins s σ H vs us Q I r h
  obtain ⟨a, ns, rfl, hs, q⟩ := h
  obtain ⟨its, rv, ht, _⟩ := I.tuple hs
  rw [Vals.ref1 r]
  have hi : IntsAre its ns := rv.ints
  obtain ⟨xs, e⟩ := hi.allInts.items
  have hn : numsOf (intItems xs).toList = ns := by
    rw [← e]
    exact hi.numsOf
  rw [nums_intItems] at hn
  have ht' : s.heap.IsTuple a its.toArray := ht
  rw [e] at ht'
  refine PySem.W.ktm_sumG (I.ok.hd hc) ht' fun h' tk t' hk => ⟨.int ns.sum, H, I.kept hk, ⟨t', ?_⟩, q⟩
  have es : preSum (numAt xs) xs.size = ns.sum := by
    rw [preSum_eq, List.take_of_length_le (by simp), hn]
  rw [es]
/-! ### a tuple whose object is known; its count -/
def rTupF (K : PySem.W.Frag) : List V → Hp → VK → Prop := fun vs H Q => ∃ p ys, vs = [.ref p] ∧ SqL K H p ys ∧ ∀ l o, o.dict = none → H l = none → Q (.ref l) (upd H l (.frz o (.tup ys)))
theorem call_tupF {X : Cx} : CallR X (.type "tuple") (rTupF X.K) := by
  intro pins s σ H vs us Q I r h
  obtain ⟨p, ys, rfl, hq, q⟩ := h
  rw [Vals.ref1 r]
  obtain ⟨its, rv, pl, hz⟩ := I.list hq
  have hlen := rv.length
  refine call_tuple_list pl.isList (fun h' kp => ?_) (by rw [List.size_toArray]; omega)
  have I1 : Inv X pins σ H { s with heap := h' } := I.kept (t' := s.toks) kp
  have hg : (h'.push { cls := .type "tuple", data := .seq its.toArray }).get? h'.objs.size = some { cls := .type "tuple", data := .seq its.toArray } := Heap.get?_push_size _ rfl
  have new : ∀ H', ObjOk X.prog X.w H' (h'.push { cls := .type "tuple", data := .seq its.toArray }) h'.objs.size (.frz { cls := .type "tuple", data := .seq its.toArray } (.tup ys)) := fun H' => ⟨hg, hz, its, rv, IsTup.new _ _⟩
  exact ⟨.ref h'.objs.size, _, I1.laid (t' := s.toks) (fun b o e => Heap.get?_push_of_some _ e) (Nat.le_refl _) (new _), rfl, q _ _ rfl (I1.hok.fresh (Nat.le_refl _))⟩
/-- t.count(k) -/
def tTCount (K : PySem.W.Frag) (to : TE) (te : TE) : TE := fun σ H Q => to σ H fun x H1 => ∃ a o w, x = .ref a ∧ o.dict = none ∧ H1 a = some (.frz o (.tup (lv w))) ∧
  te σ H1 fun y H2 => ∃ l : Nat, y = .int (l : Int) ∧ H2 a = some (.frz o (.tup (lv w))) ∧ Q (.int (w.count l : Nat)) H2
theorem pe_tcount {X : Cx} {k : Nat} {o e : Expr} {to te : TE} {apos cpos : Pos} (hr : Room k X.A) (ho : PE X o to) (he : PE X e te)
    (hbase : attributeBase o "count" X.env (eval o X.env) = eval o X.env := by rfl)
    (hfew : ((backTo cpos (starEach [e] X.env)).all (fun x => !x.1) && (backToKw cpos (keywordEach [] X.env)).all (fun x => x.1.isSome) && decide ([e].length + ([] : List Keyword).length + (if ([] : List Keyword).isEmpty then 0 else 1) < 30)) = true := by rfl)
    (hline : (apos.endLine == cpos.line) = true := by rfl) (hs : starEach [e] X.env = (false, eval e X.env) :: starEach [] X.env := by rfl) (hplain : (backTo cpos (starEach [] X.env)).any (·.1) = false := by rfl) :
    PE X (.Call (.Attribute o "count" apos) [e] [] cpos) (tTCount X.K to te) := by
  refine ⟨fun pins s σ H Q I h => ?_⟩
  refine wpAny_Call_method_late hbase hfew hline rfl (thn (ho.run pins s σ H _ I h) fun v s1 ⟨x, H1, I1, r1, a, ob, w, ex, hd, ha, q1⟩ => ?_)
  subst ex
  obtain rfl : v = Value.ref a := r1
  obtain ⟨hob, hz, its, rv, o', h1, h2, n, h3⟩ := (show ObjOk X.prog X.w H1 s1.heap a (.frz ob (.tup (lv w))) from I1.hok a _ ha)
  rw [hob] at h1
  cases h1
  refine ⟨"tuple", "tuple.count", PySem.F.plainAttrs_tuple, PySem.F.slot_tuple_count, PySem.F.type_tuple_count, ⟨ob, hob, h2⟩, fun b eb => ?_, ?_⟩
  · cases eb
    exact ⟨ob, hob, hd⟩
  · have hA := (pa_cons he pa_nil hs).run cpos pins s1 σ H1 (fun xs H2 => ∃ y, xs = [y] ∧ ∃ l : Nat, y = .int (l : Int) ∧ H2 a = some (.frz ob (.tup (lv w))) ∧ Q (.int (w.count l : Nat)) H2) I1 (by
      show te σ H1 _
      refine (show te σ H1 (fun y H2 => ∃ y', [y] = [y'] ∧ ∃ l : Nat, y' = .int (l : Int) ∧ H2 a = some (.frz ob (.tup (lv w))) ∧ Q (.int (w.count l : Nat)) H2) from ?_)
      have q2 := q1
      have ef : (fun (y : V) (H2 : Hp) => ∃ y', [y] = [y'] ∧ ∃ l : Nat, y' = .int (l : Int) ∧ H2 a = some (.frz ob (.tup (lv w))) ∧ Q (.int (w.count l : Nat)) H2) =
          (fun (y : V) (H2 : Hp) => ∃ l : Nat, y = .int (l : Int) ∧ H2 a = some (.frz ob (.tup (lv w))) ∧ Q (.int (w.count l : Nat)) H2) := by
        funext y H2
        exact propext ⟨fun ⟨y', e1, z⟩ => by
          cases e1
          exact z, fun z => ⟨y, rfl, z⟩⟩
      rw [ef]
      exact q2)
    rw [hs] at hA ⊢
    refine Calls.callWith_builtin (by show (false || (backTo cpos (starEach [] X.env)).any (·.1)) = false; rw [hplain] <;> rfl) (Calls.evalArgs_plain ?_)
    refine thn hA fun us s2 ⟨vs, H2, I2, r2, y, ey, l, el, hb, q2⟩ => ?_
    subst ey el
    obtain ⟨u, rfl, ru⟩ := vals1 r2
    obtain ⟨t, rfl⟩ := ru
    have tw : Tw H2 a w := .inr ⟨ob, hb⟩
    obtain ⟨its2, rv2, ht2, _⟩ := I2.tuple (tw.sq (K := X.K))
    have hi : IntsAre its2 (nz w) := Vals.ints rv2
    have HA : HoldAll s2.heap its2.toArray.toList (nz w) := by
      rw [List.toList_toArray]
      exact HoldAll.of_ints hi
    refine PySem.W.count_tuple_datum (α := Int) (x := (l : Int)) (xs := nz w) (show s2.heap.IsTuple a its2.toArray from ht2) HA (PySem.W.holds_int _ t) (by have := hr.units; show X.A.units + 1 + 0 < cLine; omega) ?_
    have ec : ((nz w).countP fun y => decide (y = (l : Int))) = w.count l := by
      unfold nz
      rw [List.countP_map]
      show w.countP _ = w.countP _
      refine List.countP_congr fun z _ => ?_
      show decide ((z : Int) = (l : Int)) = true ↔ (z == l) = true
      rw [decide_eq_true_iff, beq_iff_eq]
      omega
    rw [ec]
    exact ⟨.int (w.count l : Nat), H2, I2.tok _, ⟨_, rfl⟩, q2⟩
/-! ### enumerate over a tuple -/
theorem new_enumT (t : Addr) (items : Array Value) (n : Nat) (dct : Option Addr) (slo : Array (Option Value)) :
    Meets (Builtin.«enumerate.__new__» ⟨[.type "enumerate", .ref t], []⟩) (fun _ R s => s.heap.get? t = some { cls := .type "tuple", dict := dct, data := .seq items n, slots := slo } ∧
      R (.ok (.ret (.ref (s.heap.push { cls := .type "tuple_iterator", data := .fields #[.ref t, .int 0 0] }).objs.size)))
        { s with heap := (s.heap.push { cls := .type "tuple_iterator", data := .fields #[.ref t, .int 0 0] }).push { cls := .type "enumerate", data := .fields #[.none, .bool false, .ref s.heap.objs.size, rawInt 0, .none, .none] } }) :=
  .of_wp fun prog w A R s hh => by
    obtain ⟨hp, gn, dr, tks, oo⟩ := s
    obtain ⟨ht, hq⟩ := hh
    have sub := sub_enumerate
    have hT : Heap.IsTuple (Shared.heap ⟨hp, gn, dr, tks, oo⟩) t items := ⟨_, ht, rfl, n, rfl⟩
    wp_walk using AutoSeq1.wpAny_loadPart' ht
    refine wpAny_stack_any fun st => wpAny_pure ?_
    split
    · rename_i c _ _ _ _ _
      cases (c == Value.type "enumerate")
      · wp_walk using AutoSeq1.wpAny_loadPart' ht, wpAny_pyIter_tuple hT
        exact ⟨_, rfl, hq⟩
      · wp_walk using AutoSeq1.wpAny_loadPart' ht, wpAny_pyIter_tuple hT
        exact ⟨_, rfl, hq⟩
    · wp_walk using AutoSeq1.wpAny_loadPart' ht, wpAny_pyIter_tuple hT
      exact ⟨_, rfl, hq⟩
theorem call_enumT {prog : Program} {w : World} {A : Around} {E : Value → Shared → Prop} {s : Shared} {t : Addr} {items : Array Value} {Q : Value → Shared → Prop} (hT : s.heap.IsTuple t items)
    (hq : ∀ h', IsEnum h' (s.heap.objs.size + 1) s.heap.objs.size 0 .none → h'.IsTupleIter s.heap.objs.size t 0 → (∀ b o, s.heap.get? b = some o → h'.get? b = some o) → Q (.ref (s.heap.objs.size + 1)) { s with heap := h' }) :
    wpAny (model prog w) A (call (.type "enumerate") [.ref t]) Q E s := by
  obtain ⟨⟨c, dct, dt, slo⟩, ht, hc, n, hd⟩ := hT
  simp only at hc hd
  subst hc hd
  refine callType_new F.called_enumerate (by decide) (F.typeCall_enumerate_1 _) (F.newCall_enumerate_1 _) (fun obj => F.args_object_init_2 obj _) F.entry_enumerate_new (new_enumT t items n dct slo) ⟨ht, ?_⟩
  have hz : (s.heap.push { cls := .type "tuple_iterator", data := .fields #[.ref t, .int 0 0] }).objs.size = s.heap.objs.size + 1 := Heap.size_push ..
  show _ ∧ _
  rw [hz]
  have he : IsEnum ((s.heap.push { cls := .type "tuple_iterator", data := .fields #[.ref t, .int 0 0] }).push { cls := .type "enumerate", data := .fields #[.none, .bool false, .ref s.heap.objs.size, rawInt 0, .none, .none] }) (s.heap.objs.size + 1) s.heap.objs.size 0 .none := by
    have z := Heap.get?_push_size (s.heap.push { cls := .type "tuple_iterator", data := .fields #[.ref t, .int 0 0] }) (o := { cls := .type "enumerate", data := .fields #[.none, .bool false, .ref s.heap.objs.size, rawInt 0, .none, .none] }) rfl
    rw [hz] at z
    exact z
  exact ⟨⟨_, he, rfl⟩, hq _ he ⟨_, Heap.get?_push_of_some _ (Heap.get?_push_size _ rfl), rfl, rfl⟩ fun b o x => Heap.get?_push_of_some _ (Heap.get?_push_of_some _ x)⟩
theorem enumT_end {prog : Program} {w : World} {A : Around} {E : Value → Shared → Prop} {s : Shared} {e it a : Addr} {i : Nat} {old : Value} {items : Array Value} {Q : Option Value → Shared → Prop} (hh : A.handled = none) (he : IsEnum s.heap e it ((i : Nat) : Int) old)
    (hit : s.heap.IsTupleIter it a i) (hT : s.heap.IsTuple a items) (hle : items.size ≤ i) (hQ : ∀ h', Heap.ExtBut it s.heap h' → Q none { s with heap := h' }) : wpAny (model prog w) A (pyNext (.ref e)) Q E s := by
  have D : Draws prog w A.in1 it [it, a] i (fun _ _ => True) (fun j h => j = i ∧ h.IsTupleIter it a i ∧ h.IsTuple a items) :=
    { live := fun j h st => by
        obtain ⟨_, ⟨o, ho, _⟩, _⟩ := st
        exact ⟨o, ho⟩
      frame := fun j h h' st hk => ⟨st.1, st.2.1.at fun o q => hk it List.mem_cons_self o q, st.2.2.at fun o q => hk a (List.mem_cons_of_mem _ (List.mem_singleton.mpr rfl)) o q⟩
      item := fun j s Q E hj st _ => absurd hj (by rw [st.1]; exact Nat.lt_irrefl _)
      done := fun s Q E st hE => wpAny_nextOf_tuple_end hh st.2.1 st.2.2 (Array.getElem?_eq_none hle) hE }
  exact wpAny_pyNext_enum_endD D he ⟨rfl, hit, hT⟩ hQ
/-- the tuple at a, each item in a new pair behind its number -/
def Iet (K : PySem.W.Frag) (a : Addr) : It :=
  ⟨fun i H => ∃ (xs : List V) (x : V), SqT K H a xs ∧ xs[i]? = some x, fun i H v H' => ∃ T x, v = .ref T ∧ H T = none ∧ H' = upd H T (.tup [.int (i : Nat), x]) ∧ ∀ xs, SqT K H a xs → xs[i]? = some x, fun i H => ∃ xs : List V, SqT K H a xs ∧ xs.length ≤ i⟩
theorem turn_enumT {P : Program} {w : World} {K : PySem.W.Frag} {elts : List Expr} {kk : Nat} {tpos : Pos} (a e it : Addr) :
    Turn P w K (.Tuple elts kk tpos) (Iet K a) [e, it] e (fun i h => (∃ old, IsEnum h e it ((i : Nat) : Int) old) ∧ h.IsTupleIter it a i ∧ e ≠ it ∧ a ≠ it ∧ e ≠ a) where
  mem := List.mem_cons_self
  obj := fun i h st b hb => by
    obtain ⟨⟨old, he⟩, ⟨o, ho, hc, hd⟩, _⟩ := st
    rcases List.mem_cons.mp hb with z | hb
    · subst z
      exact ⟨_, he, fun v q => by cases q⟩
    · have z : b = it := List.mem_singleton.mp hb
      subst z
      exact ⟨o, ho, fun v q => by rw [hd] at q; cases q⟩
  keep := fun i h h' st k => by
    obtain ⟨⟨old, he⟩, hi, r⟩ := st
    exact ⟨⟨old, k e List.mem_cons_self _ he⟩, hi.at fun o q => k it (List.mem_cons_of_mem _ (List.mem_singleton.mpr rfl)) o q, r⟩
  item := by
    intro X hP hw hK hc i pins s σ H E I hf st hg
    subst hP hw hK
    obtain ⟨⟨old, he⟩, hit, hne, hai, hea⟩ := st
    obtain ⟨xs, x, hq, hx⟩ := hg
    obtain ⟨its, rv, pt, hz⟩ := I.tuple hq
    obtain ⟨u, hu, ru⟩ := rv.get hx
    have hel : e < s.heap.objs.size := Heap.lt_size he
    have hil : it < s.heap.objs.size := by
      obtain ⟨_, q, _⟩ := hit
      exact Heap.lt_size q
    have hlen : i < its.toArray.size := by
      rw [List.size_toArray]
      exact (List.getElem?_eq_some_iff.mp hu).1
    have hT : s.heap.IsTuple a its.toArray := pt
    have D : Draws X.prog X.w X.A.in1 it [it, a] its.toArray.size (fun i v => its.toArray[i]? = some v) (fun i h => h.IsTupleIter it a i ∧ h.IsTuple a its.toArray) := Draws.tuple (A := X.A.in1) (I.ok.hd hc) it a hai its.toArray
    have hef : e ∉ [it, a] := fun hm => by
      rcases List.mem_cons.mp hm with z | hm
      · exact hne z
      · exact hea (List.mem_singleton.mp hm)
    refine wpAny_pyNext_enum_itemC D he ⟨hit, hT⟩ hlen hne hef fun y h' tk hy ho hst hTu hsz hk => ?_
    have ey : y = u := by
      have z : its[i]? = some y := by simpa using hy
      rw [hu] at z
      exact (Option.some.inj z).symm
    subst ey
    refine ⟨_, rfl, wpAny_letOwnedTupleGo_enum (s := { s with heap := h', toks := tk + 1 }) ho fun h'' he' sb => ?_⟩
    have hT2 : h''.get? s.heap.objs.size = some { cls := .type "tuple", data := .seq #[.int i tk, y] } := (sb.2 _ (Nat.ne_of_gt hel)).trans hTu
    have new : ObjOk X.prog X.w (upd H s.heap.objs.size (.tup [.int (i : Nat), x])) h'' s.heap.objs.size (.tup [.int (i : Nat), x]) :=
      ⟨(show 2 ≤ sizeLine by decide), [.int i tk, y], .cons ⟨_, rfl⟩ (.cons ru .nil), ⟨_, hT2, rfl, _, rfl⟩⟩
    have I1 : Inv X pins σ (upd H s.heap.objs.size (.tup [.int (i : Nat), x])) { s with heap := h'', toks := tk + 1 } :=
      I.turnedNew (ch := [e, it]) (fun b ob hb q => (sb.2 b (fun z => hb (z ▸ List.mem_cons_self))).trans (hk b ob (fun z => hb (z ▸ List.mem_cons_self)) (fun z => hb (z ▸ List.mem_cons_of_mem _ (List.mem_singleton.mpr rfl))) q)) hf (Nat.le_refl _) new
    refine ⟨.ref s.heap.objs.size, _, I1, rfl, ⟨_, x, rfl, I.hok.fresh (Nat.le_refl _), rfl, fun ys hy' => by rw [I.tuple_inj hy' hq]; exact hx⟩, ⟨⟨y, ?_⟩, hst.1.at fun o q => (sb.2 it (Ne.symm hne)).trans q, hne, hai, hea⟩, fun b hb => ?_⟩
    · have e1 : ((i + 1 : Nat) : Int) = (i : Int) + 1 := by omega
      rw [e1]
      exact he'
    · have hlt : b < s.heap.objs.size := by
        rcases List.mem_cons.mp hb with z | hb'
        · exact z ▸ hel
        · exact (List.mem_singleton.mp hb') ▸ hil
      rw [upd_ne (Nat.ne_of_lt hlt)]
      exact (hf b hb).1
  done := by
    intro X hP hw hK hc i pins s σ H E I hf st hg
    subst hP hw hK
    obtain ⟨⟨old, he⟩, hit, hne, hai, hea⟩ := st
    obtain ⟨xs, hq, hx⟩ := hg
    obtain ⟨its, rv, pt, hz⟩ := I.tuple hq
    obtain ⟨f0, f1, f2, f3, f4, f5⟩ := hf it (List.mem_cons_of_mem _ (List.mem_singleton.mpr rfl))
    have hT : s.heap.IsTuple a its.toArray := pt
    have hl := rv.length
    have hle : its.toArray.size ≤ i := by
      rw [List.size_toArray]
      omega
    exact enumT_end (I.ok.hd hc) he hit hT hle fun h' eb => ⟨rfl, I.turned (t' := s.toks) (fun b o hb q => eb b o hb q) f0 f1 f3 f4 f5⟩
  self := fun A i s Q E st h => by
    obtain ⟨⟨_, he⟩, _⟩ := st
    exact wpAny_pyIter_enum he h
def iEnumT (K : PySem.W.Frag) (ta : TA) : TI := fun σ H R => ta σ H fun vs H1 => ∃ a xs, vs = [.ref a] ∧ SqT K H1 a xs ∧ R (Iet K a) H1
theorem pi_enumT {X : Cx} {e : Expr} {ta : TA} {p pos tpos : Pos} {elts : List Expr} {kk : Nat} (hg : Gl X "enumerate") (hm : X.mg "enumerate" = none) (ha : PA X [e] ta) (hs : starEach [e] X.env = [(false, eval e X.env)] := by rfl) :
    PI X (.Tuple elts kk tpos) (.Call (.Name "enumerate" p) [e] [] pos) (iEnumT X.K ta) := by
  refine ⟨fun pins s σ H R I h => ?_⟩
  refine Call_ (ld_blt I hg hm boot_enumerate (PyProof.Rows.callWith_type1 (thn (ha.run pos pins s σ H _ I h) fun us s1 ⟨vs, H1, I1, r1, q1⟩ => ?_) hs rfl))
  obtain ⟨a, xs, ex, hq, q⟩ := q1
  subst ex
  rw [Vals.ref1 r1]
  obtain ⟨its, rv, pt, hz⟩ := I1.tuple hq
  have hT : s1.heap.IsTuple a its.toArray := pt
  have hal : a < s1.heap.objs.size := by
    obtain ⟨o, ho, _⟩ := pt
    exact Heap.lt_size ho
  refine call_enumT hT fun h' he hit hk => wpAny_pyIter_enum he ?_
  have I2 : Inv X pins σ H1 { s1 with heap := h' } := I1.kept (t' := s1.toks) hk
  refine ⟨s1.heap.objs.size + 1, [s1.heap.objs.size + 1, s1.heap.objs.size], _, _, H1, rfl, I2, turn_enumT a (s1.heap.objs.size + 1) s1.heap.objs.size, ⟨⟨.none, he⟩, hit, Nat.succ_ne_self _, Nat.ne_of_lt hal, Nat.ne_of_gt (Nat.lt_succ_of_lt hal)⟩, fun b hb => ?_, q⟩
  have hle : s1.heap.objs.size ≤ b := by
    rcases List.mem_cons.mp hb with z | hb
    · exact z ▸ Nat.le_succ _
    · exact (List.mem_singleton.mp hb) ▸ Nat.le_refl _
  exact I1.fpOk hle (I1.hok.fresh hle)
/-- a for over it: Pv by the turn, the slots, the heap; each turn lays a new pair -/
theorem for_enumT {K : PySem.W.Frag} {a : Addr} {xs : List V} {g : TG} {tb : TS} {D : Ends} {σ : L2.St} {H : Hp} (Pv : Nat →L2.St → Hp → Prop) (h0 : Pv 0 σ H) (hl : ∀ i σ H, i ≤ xs.length → Pv i σ H → SqT K H a xs)
    (hs : ∀ i x σ H T, xs[i]? = some x → Pv i σ H → H T = none → g (.ref T) σ (upd H T (.tup [.int (i : Nat), x])) fun σ2 H2 => tb { D with nx := Pv (i + 1), ct := Pv (i + 1), bk := D.nx } σ2 H2) (hd : ∀ σ H, Pv xs.length σ H → D.nx σ H) :
    ∃ W : Nat → Nat →L2.St → Hp → Prop, (∃ m, W 0 m σ H) ∧ ∀ i m σ H, W i m σ H →
      ((Iet K a).stop i H ∧ D.nx σ H) ∨ ((Iet K a).go i H ∧ ∃ N :L2.St → Hp → Prop, (∀ σ' H', N σ' H' → ∃ m', m' < m ∧ W (i + 1) m' σ' H') ∧ ∀ x H', (Iet K a).yld i H x H' → g x σ H' fun σ2 H2 => tb { D with nx := N, ct := N, bk := D.nx } σ2 H2) := by
  refine ⟨fun i m σ H => m = xs.length - i ∧ i ≤ xs.length ∧ Pv i σ H, ⟨xs.length, rfl, Nat.zero_le _, h0⟩, ?_⟩
  rintro i m σ H ⟨rfl, hi, pv⟩
  have q := hl i σ H hi pv
  by_cases hlt : i < xs.length
  · have gx : xs[i]? = some xs[i] := List.getElem?_eq_getElem hlt
    refine .inr ⟨⟨xs, xs[i], q, gx⟩, Pv (i + 1), fun σ' H' p' => ⟨xs.length - (i + 1), by omega, rfl, hlt, p'⟩, fun x H' y => ?_⟩
    obtain ⟨T, z, e1, hT, e2, hz⟩ := y
    subst e1 e2
    have ez : xs[i]? = some z := hz xs q
    exact hs i z σ H T ez pv hT
  · have e : i = xs.length := by omega
    subst e
    exact .inl ⟨⟨xs, q, Nat.le_refl _⟩, hd σ H pv⟩
end Fw
namespace Fw
open PySem PySem.Spec PyProof.Rows L2 FW
/-! ### the text -/
def topS (i : Nat) : Stmt := PySem.Challenge.pw_fadewords_k33_whole_letters_met.main.body.getD i (.Pass ⟨0, 0, 0, 0⟩)
abbrev sWhole : Stmt := topS 12
abbrev sWithin : Stmt := topS 13
abbrev sTupleOf : Stmt := topS 14
abbrev sNeedValues : Stmt := topS 15
abbrev sWrongLetter : Stmt := topS 16
abbrev sNeedWord : Stmt := topS 17
abbrev sNeedSlate : Stmt := topS 18
abbrev sStepped : Stmt := topS 20
abbrev sMet : Stmt := topS 24
abbrev sNeedSupply : Stmt := topS 25
abbrev sBestOf : Stmt := topS 26
abbrev sMost : Stmt := topS 27
abbrev sFewest : Stmt := topS 28
abbrev sTaken : Stmt := topS 30
abbrev sValues : Stmt := topS 31
abbrev sWord : Stmt := topS 32
abbrev sPick : Stmt := topS 33
abbrev sAlike : Stmt := topS 34
abbrev sWrite : Stmt := topS 35
abbrev sLMet : Stmt := topS 36
abbrev sArranged : Stmt := topS 37
abbrev sLaw : Stmt := topS 38
theorem scWhole : FnScope ["value"] ["value"] (defScope sWhole) := ⟨rfl, rfl, rfl, by decide +kernel, rfl, by decide +kernel, by decide +kernel⟩
theorem scWithin : FnScope ["value", "low", "high"] ["value", "low", "high"] (defScope sWithin) := ⟨rfl, rfl, rfl, by decide +kernel, rfl, by decide +kernel, by decide +kernel⟩
theorem scTupleOf : FnScope ["value", "low", "high"] ["value", "low", "high"] (defScope sTupleOf) := ⟨rfl, rfl, rfl, by decide +kernel, rfl, by decide +kernel, by decide +kernel⟩
theorem scNeedValues : FnScope ["value", "told"] ["value"] (defScope sNeedValues) := ⟨rfl, rfl, rfl, by decide +kernel, rfl, by decide +kernel, by decide +kernel⟩
theorem scWrongLetter : FnScope ["many", "value", "index", "letter"] ["many", "value"] (defScope sWrongLetter) := ⟨rfl, rfl, rfl, by decide +kernel, rfl, by decide +kernel, by decide +kernel⟩
theorem scNeedWord : FnScope ["values", "word", "index"] ["values", "word"] (defScope sNeedWord) := ⟨rfl, rfl, rfl, by decide +kernel, rfl, by decide +kernel, by decide +kernel⟩
theorem scNeedSlate : FnScope ["values", "slate", "index"] ["values", "slate"] (defScope sNeedSlate) := ⟨rfl, rfl, rfl, by decide +kernel, rfl, by decide +kernel, by decide +kernel⟩
theorem scStepped : FnScope ["values", "slate", "letter", "place"] ["values", "slate", "letter"] (defScope sStepped) := ⟨rfl, rfl, rfl, by decide +kernel, rfl, by decide +kernel, by decide +kernel⟩
theorem scMet : FnScope ["values", "slate", "word", "found", "index", "letter"] ["values", "slate", "word"] (defScope sMet) := ⟨rfl, rfl, rfl, by decide +kernel, rfl, by decide +kernel, by decide +kernel⟩
theorem scNeedSupply : FnScope ["values", "supply", "many", "told"] ["values", "supply"] (defScope sNeedSupply) := ⟨rfl, rfl, rfl, by decide +kernel, rfl, by decide +kernel, by decide +kernel⟩
theorem scBestOf : FnScope ["values", "slate", "supply", "sign", "known", "key", "found", "some", "letter", "rest", "told", "word"] ["values", "slate", "supply", "sign", "known"] (defScope sBestOf) := ⟨rfl, rfl, rfl, by decide +kernel, rfl, by decide +kernel, by decide +kernel⟩
theorem scMost : FnScope ["values", "slate", "supply", "told", "word"] ["values", "slate", "supply"] (defScope sMost) := ⟨rfl, rfl, rfl, by decide +kernel, rfl, by decide +kernel, by decide +kernel⟩
theorem scFewest : FnScope ["values", "slate", "supply", "told", "word"] ["values", "slate", "supply"] (defScope sFewest) := ⟨rfl, rfl, rfl, by decide +kernel, rfl, by decide +kernel, by decide +kernel⟩
theorem scTaken : FnScope ["_law_row", "_law_many", "_law_found", "_law_cell"] ["_law_row", "_law_many"] (defScope sTaken) := ⟨rfl, rfl, rfl, by decide +kernel, rfl, by decide +kernel, by decide +kernel⟩
theorem scValues : FnScope ["_law_row", "_law_most", "_law_top", "_law_high", "_law_letter"] ["_law_row", "_law_most", "_law_top"] (defScope sValues) := ⟨rfl, rfl, rfl, by decide +kernel, rfl, by decide +kernel, by decide +kernel⟩
theorem scWord : FnScope ["_law_row", "_law_many", "_law_most", "_law_index"] ["_law_row", "_law_many", "_law_most"] (defScope sWord) := ⟨rfl, rfl, rfl, by decide +kernel, rfl, by decide +kernel, by decide +kernel⟩
theorem scPick : FnScope ["_law_row", "_law_things"] ["_law_row", "_law_things"] (defScope sPick) := ⟨rfl, rfl, rfl, by decide +kernel, rfl, by decide +kernel, by decide +kernel⟩
theorem scAlike : FnScope ["_law_found", "_law_due", "_law_k"] ["_law_found", "_law_due"] (defScope sAlike) := ⟨rfl, rfl, rfl, by decide +kernel, rfl, by decide +kernel, by decide +kernel⟩
theorem scWrite : FnScope ["_law_values_here", "_law_slate", "_law_word_here", "_law_here", "_law_letter", "_law_spot"] ["_law_values_here", "_law_slate", "_law_word_here"] (defScope sWrite) := ⟨rfl, rfl, rfl, by decide +kernel, rfl, by decide +kernel, by decide +kernel⟩
theorem scLMet : FnScope ["_law_values_here", "_law_slate", "_law_word_here", "_law_at"] ["_law_values_here", "_law_slate", "_law_word_here"] (defScope sLMet) := ⟨rfl, rfl, rfl, by decide +kernel, rfl, by decide +kernel, by decide +kernel⟩
theorem scArranged : FnScope ["_law_supply", "_law_found", "_law_letter", "_law_rest", "_law_word_here"] ["_law_supply"] (defScope sArranged) := ⟨rfl, rfl, rfl, by decide +kernel, rfl, by decide +kernel, by decide +kernel⟩
theorem scLaw : FnScope ["_law_script", "_law_row", "_law_values_here", "_law_many", "_law_slate", "_law_word_here", "_law_some", "_law_supply", "_law_rows", "_law_most", "_law_fewest", "_law_due", "_law_letter", "_law_told", "_law_many_met"] ["_law_script"] (defScope sLaw) := ⟨rfl, rfl, rfl, by decide +kernel, rfl, by decide +kernel, by decide +kernel⟩
/-! ### what the top has written -/
structure Dn (K : PySem.W.Frag) (mg : Str → Option Value) (x : Str) (st : Stmt) (ps : List Str) (f : Addr) (fd : FuncData) : Prop where
  F : Fun K x x st f fd
  b : Binds K fd ps []
  g : mg x = some (.ref f)
/-- the built-ins that the program calls -/
structure Bt (mg : Str → Option Value) : Prop where
  isi : mg "isinstance" = none
  int : mg "int" = none
  bool : mg "bool" = none
  tuple : mg "tuple" = none
  list : mg "list" = none
  str : mg "str" = none
  len : mg "len" = none
  all : mg "all" = none
  enum : mg "enumerate" = none
  sum : mg "sum" = none
  range : mg "range" = none
  min : mg "min" = none
  max : mg "max" = none
/-- the module's constants -/
structure Ct (mg : Str → Option Value) : Prop where
  letters : ∃ t, mg "MOST_LETTERS" = some (.int 5 t)
  value : ∃ t, mg "MOST_VALUE" = some (.int 6 t)
  word : ∃ t, mg "MOST_WORD" = some (.int 60 t)
  slate : ∃ t, mg "MOST_SLATE" = some (.int 12 t)
  supply : ∃ t, mg "MOST_SUPPLY" = some (.int 12 t)
  states : ∃ t, mg "MOST_STATES" = some (.int 6000 t)
theorem pe_ct {X : Cx} {x : Str} {n : Int} {pos : Pos} (h : ∃ t, X.mg x = some (.int n t)) (hg : Gl X x := by rfl) (hd : (x == ("__debug__" : Str)) = false := by decide) : PE X (.Name x pos) (tC (.int n)) := by
  obtain ⟨t, e⟩ := h
  exact pe_glob hg e ⟨t, rfl⟩ hd
theorem rvTy (n : String) : RelV (.ty n) (.type n) := rfl
end Fw
namespace Fw
open PySem PySem.Spec PyProof.Rows L2 FW
section
variable {P : Program} {w : World} {K : PySem.W.Frag} {mg : Str → Option Value} {base : Heap}
/-! ### whole, within, tuple_of -/
def spWhole : Sp := fun vs H Q _ => ∃ i : Int, vs = [.int i] ∧ Q (.bl true) H
theorem ok_whole {f : Addr} {fd : FuncData} (D : Dn K mg "whole" sWhole ["value"] f fd) (B : Bt mg) : FnOk P w K mg base CX0 1 f fd ["value"] spWhole := by
  refine D.F.ok scWhole (fun vs H Q E h => ?_) (fun cdv A outer s H vs Q E hr h => ?_)
  · obtain ⟨i, rfl, _⟩ := h
    rfl
  · obtain ⟨i, rfl, q⟩ := h
    refine ⟨_, pss_one (ps_ret (pe_and (pe_callB call_isi (by rfl) B.isi (by decide +kernel) (pa_cons (pv 0) (pa_cons (pe_bltn (by rfl) B.int (by decide +kernel) (rvTy "int")) pa_nil)))
      (pe_one (pe_not (pe_callB call_isi (by rfl) B.isi (by decide +kernel) (pa_cons (pv 0) (pa_cons (pe_bltn (by rfl) B.bool (by decide +kernel) (rvTy "bool")) pa_nil))))))), ?_⟩
    refine ⟨.int i, rfl, .int i, .ty "int", .type "int", .type "int", true, rfl, .ty "int", .base (.int i), kit_ty (by decide +kernel), true, rfl, iteT ?_⟩
    exact ⟨.int i, rfl, .int i, .ty "bool", .type "int", .type "bool", false, rfl, .ty "bool", .base (.int i), kit_ty (by decide +kernel), false, rfl, q⟩
def spWithin : Sp := fun vs H Q _ => ∃ i lo hi : Int, vs = [.int i, .int lo, .int hi] ∧ Q (.bl (decide (lo ≤ i ∧ i ≤ hi))) H
theorem ok_within {f f1 : Addr} {fd fd1 : FuncData} (D : Dn K mg "within" sWithin ["value", "low", "high"] f fd) (D1 : Dn K mg "whole" sWhole ["value"] f1 fd1) (B : Bt mg) : FnOk P w K mg base CX0 2 f fd ["value", "low", "high"] spWithin := by
  have G1 : FnOk P w K mg base CX0 1 f1 fd1 ["value"] spWhole := ok_whole D1 B
  refine D.F.ok scWithin (fun vs H Q E h => ?_) (fun cdv A outer s H vs Q E hr h => ?_)
  · obtain ⟨i, lo, hi, rfl, _⟩ := h
    rfl
  · obtain ⟨i, lo, hi, rfl, q⟩ := h
    refine ⟨_, pss_one (ps_ret (pe_and (pe_call G1 hr (by rfl) D1.g D1.F.kp D1.b .nil pass0 (pa_cons (pv 0) pa_nil)) (pe_one (pe_chain op_le op_le (pv 1) (pv 0) (pv 2))))), ?_⟩
    refine ⟨.int i, rfl, i, rfl, true, rfl, iteT ?_⟩
    refine ⟨.int lo, rfl, .int i, rfl, lo, i, rfl, rfl, _, rfl, ite2 (fun c => ?_) (fun c => ?_)⟩
    · refine ⟨.int hi, rfl, i, hi, rfl, rfl, ?_⟩
      have c' := of_decide_eq_true c
      have e : decide (i ≤ hi) = decide (lo ≤ i ∧ i ≤ hi) := decide_eq_decide.mpr ⟨fun z => ⟨c', z⟩, fun z => z.2⟩
      rw [← e] at q
      exact q
    · have c' : ¬ lo ≤ i := fun z => c (decide_eq_true z)
      have e : decide (lo ≤ i ∧ i ≤ hi) = false := decide_eq_false fun z => c' z.1
      rw [e] at q
      exact q
def spTupleOf (K : PySem.W.Frag) : Sp := fun vs H Q _ => ∃ (a : Addr) (xs : List V) (lo hi : Int), vs = [.ref a, .int lo, .int hi] ∧ Rd H a (.tup xs) ∧ Q (.bl (decide (lo ≤ (xs.length : Int) ∧ (xs.length : Int) ≤ hi))) H
theorem ok_tupleOf {f : Addr} {fd : FuncData} (D : Dn K mg "tuple_of" sTupleOf ["value", "low", "high"] f fd) (B : Bt mg) : FnOk P w K mg base CX0 1 f fd ["value", "low", "high"] (spTupleOf K) := by
  refine D.F.ok scTupleOf (fun vs H Q E h => ?_) (fun cdv A outer s H vs Q E hr h => ?_)
  · obtain ⟨a, xs, lo, hi, rfl, _⟩ := h
    rfl
  · obtain ⟨a, xs, lo, hi, rfl, hx, q⟩ := h
    refine ⟨_, pss_one (ps_ret (pe_and (pe_callB call_isi (by rfl) B.isi (by decide +kernel) (pa_cons (pv 0) (pa_cons (pe_bltn (by rfl) B.tuple (by decide +kernel) (rvTy "tuple")) pa_nil)))
      (pe_one (pe_chain op_le op_le (pv 1) (pe_callB call_len (by rfl) B.len PySem.boot_len (pa_cons (pv 0) pa_nil)) (pv 2))))), ?_⟩
    refine ⟨.ref a, rfl, .ref a, .ty "tuple", .type "tuple", .type "tuple", true, rfl, .ty "tuple", Tw.ty hx, kit_ty (by decide +kernel), true, rfl, iteT ?_⟩
    refine ⟨.int lo, rfl, .ref a, rfl, .ref a, xs.length, rfl, .inr ⟨xs, .inl hx, rfl⟩, lo, (xs.length : Int), rfl, rfl, _, rfl, ite2 (fun c => ?_) (fun c => ?_)⟩
    · refine ⟨.int hi, rfl, (xs.length : Int), hi, rfl, rfl, ?_⟩
      have c' := of_decide_eq_true c
      have e : decide ((xs.length : Int) ≤ hi) = decide (lo ≤ (xs.length : Int) ∧ (xs.length : Int) ≤ hi) := decide_eq_decide.mpr ⟨fun z => ⟨c', z⟩, fun z => z.2⟩
      rw [← e] at q
      exact q
    · have c' : ¬ lo ≤ (xs.length : Int) := fun z => c (decide_eq_true z)
      have e : decide (lo ≤ (xs.length : Int) ∧ (xs.length : Int) ≤ hi) = false := decide_eq_false fun z => c' z.1
      rw [e] at q
      exact q
/-! ### need_values -/
/-- letters' values within 1 and 6, one to five of them -/
structure ValOk (vs : List Nat) : Prop where
  few : 1 ≤ vs.length ∧ vs.length ≤ 5
  each : ∀ v ∈ vs, 1 ≤ v ∧ v ≤ 6
theorem trues_all (n : Nat) : (List.replicate n true).all id = true := by
  rw [List.all_eq_true]
  intro x hx
  exact (List.mem_replicate.mp hx).2
def trues (n : Nat) : List V := (List.replicate n true).map V.bl
theorem trues_succ (n : Nat) : trues (n + 1) = trues n ++ [.bl true] := by
  unfold trues
  rw [List.replicate_succ', List.map_append]
  rfl
theorem trues_len (n : Nat) : (trues n).length = n := by unfold trues; rw [List.length_map, List.length_replicate]
/-- a list comprehension over a tuple, each element True -/
def spNeedValues (K : PySem.W.Frag) : Sp := fun vs H Q _ => ∃ (a : Addr) (vals : List Nat), vs = [.ref a] ∧ Tw H a vals ∧ ValOk vals ∧ ∀ H', Same H H' → Q .non H'
theorem ok_needValues {f f1 f2 f3 : Addr} {fd fd1 fd2 fd3 : FuncData} (D : Dn K mg "need_values" sNeedValues ["value"] f fd) (D1 : Dn K mg "tuple_of" sTupleOf ["value", "low", "high"] f1 fd1) (D2 : Dn K mg "within" sWithin ["value", "low", "high"] f2 fd2) (D3 : Dn K mg "whole" sWhole ["value"] f3 fd3) (B : Bt mg) (C : Ct mg) :
    FnOk P w K mg base CX0 3 f fd ["value"] (spNeedValues K) := by
  have G1 : FnOk P w K mg base CX0 1 f1 fd1 ["value", "low", "high"] (spTupleOf K) := ok_tupleOf D1 B
  have G2 : FnOk P w K mg base CX0 2 f2 fd2 ["value", "low", "high"] spWithin := ok_within D2 D3 B
  refine D.F.ok scNeedValues (fun vs H Q E h => ?_) (fun cdv A outer s H vs Q E hr h => ?_)
  · obtain ⟨a, vals, rfl, _⟩ := h
    rfl
  · obtain ⟨a, vals, rfl, ht, hv, q⟩ := h
    have hr1 : Room 1 _ := hr.mono (by decide)
    refine ⟨_, pss_one (ps_if (PW.pt (pw_or (pt_not (pt_val (pe_call G1 hr1 (by rfl) D1.g D1.F.kp D1.b .nil pass0 (pa_cons (pv 0) (pa_cons pe_int (pa_cons (pe_ct C.letters) pa_nil))))))
        (pw_or1 (pt_not (pt_val (pe_callB (cr_all rfl) (by rfl) B.all (by decide +kernel) (pa_cons
          (pe_lc (own := [("told", 1)]) (g := gName 1) (tt := tYes) rfl scNeedValues.nd (pi_tup (pv 0)) (blkOk_by (N := ["value", "told"]) (sc := defScope sNeedValues) (by decide +kernel)) (fun _ _ _ _ _ => pg_name (i := 1) scNeedValues.nd rfl (Or.inl rfl)) (fun _ _ _ _ _ => pts_nil)
            (fun _ _ _ _ _ => pe_call G2 hr (by rfl) D2.g D2.F.kp D2.b .nil pass0 (pa_cons (pv 1) (pa_cons pe_int (pa_cons (pe_ct C.value) pa_nil))))) pa_nil))))))) pss_never pss_nil), ?_⟩
    have e1 : decide ((1 : Int) ≤ ((lv vals).length : Int) ∧ ((lv vals).length : Int) ≤ 5) = true := by
      rw [lv_len]
      have := hv.few
      exact decide_eq_true (by omega)
    refine ⟨.ref a, rfl, a, lv vals, 1, 5, rfl, ht, ?_⟩
    rw [e1]
    refine ⟨true, rfl, iteF ?_⟩
    refine ⟨.ref a, rfl, a, rfl, ⟨_, ht.sq⟩, fun Dl hD => ?_⟩
    have sD : Same H (upd H Dl (.lst [])) := same_new hD
    refine lc_tup (K := K) (a := a) (xs := lv vals) (fun i H' => ∃ acc : List V, acc = trues i ∧ H' Dl = some (.lst acc) ∧ Same H H') ⟨[], rfl, upd_same, sD⟩ (fun i H' _ hp => ?_) (fun i x H' hx hp => ?_) (fun H' hp => ?_)
    · obtain ⟨acc, _, _, sm⟩ := hp
      exact (ht.same sm).sq
    · obtain ⟨acc, ea, hd, sm⟩ := hp
      obtain ⟨n, hn, ex⟩ : ∃ n, vals[i]? = some n ∧ x = .int (n : Int) := by
        rw [lv_get] at hx
        obtain ⟨n, hn, e⟩ := Option.map_eq_some_iff.mp hx
        exact ⟨n, hn, e.symm⟩
      subst ex
      have hm := hv.each n (List.mem_of_getElem? hn)
      refine ⟨rfl, .int (n : Int), rfl, (n : Int), 1, 6, rfl, ?_⟩
      have e2 : decide ((1 : Int) ≤ (n : Int) ∧ (n : Int) ≤ 6) = true := decide_eq_true (by omega)
      rw [e2]
      have hi : i < vals.length := (List.getElem?_eq_some_iff.mp hn).1
      have := hv.few
      refine ⟨acc, hd, ?_, trues (i + 1), rfl, ?_, fun b o e => ?_⟩
      · rw [ea, trues_len]
        exact small1000 (by omega)
      · rw [upd_same, trues_succ, ea]
      · rw [upd_ne (ne_of_none e hD)]
        exact sm b o e
    · obtain ⟨acc, ea, hd, sm⟩ := hp
      refine ⟨Dl, List.replicate (lv vals).length true, rfl, .of (by rw [hd, ea]; rfl), ?_⟩
      rw [trues_all]
      exact ⟨true, rfl, iteF (q H' sm)⟩
end
end Fw
namespace Fw
open PySem PySem.Spec PyProof.Rows L2 FW
/-! ### slices and sums of tuples of letters -/
theorem fit {n : Nat} (h : n ≤ 1000) : n ≤ sizeLine := Nat.le_of_lt (small1000 h)
theorem cat_tw {K : PySem.W.Frag} {H : Hp} {a b : Addr} {w1 w2 : List Nat} {Q : VK} (t1 : Tw H a w1) (t2 : Tw H b w2) (hz : w1.length + w2.length ≤ 1000) (q : ∀ r H', Same H H' → Tw H' r (w1 ++ w2) → Q (.ref r) H') : rCatA K (.ref a) (.ref b) H Q := by
  refine ⟨a, b, lv w1, lv w2, rfl, rfl, t1.sq, t2.sq, by rw [lv_len, lv_len]; exact fit hz, fun e => ?_, fun _ e => ?_, fun _ _ p hp => ?_⟩
  · have e1 : w1 = [] := List.eq_nil_of_length_eq_zero (by rw [← lv_len w1, e]; rfl)
    refine q b H (Same.refl H) ?_
    rw [e1]
    exact t2
  · have e1 : w2 = [] := List.eq_nil_of_length_eq_zero (by rw [← lv_len w2, e]; rfl)
    refine q a H (Same.refl H) ?_
    rw [e1, List.append_nil]
    exact t1
  · refine q p _ (same_new hp) (Tw.of ?_)
    rw [upd_same, lv_append]
theorem slTake {K : PySem.W.Frag} {H : Hp} {a : Addr} {w : List Nat} {Q : VK} (t : Tw H a w) (k : Nat) (q : ∀ r H', Same H H' → Tw H' r (w.take k) → Q (.ref r) H') : rSlA K (.ref a) none (some (k : Int)) H Q := by
  have e1 : HT.sIx (lv w).length (lv w).length (some (k : Int)) = min k w.length := by rw [HT.sIx_nat, lv_len]
  have e0 : HT.sIx (lv w).length 0 none = 0 := rfl
  refine ⟨a, lv w, rfl, t.sq, fun hw => ?_, fun _ p hp => ?_⟩
  · refine q a H (Same.refl H) ?_
    have hk : w.length ≤ k := by
      have := hw.2
      rw [e1, lv_len] at this
      omega
    rw [List.take_of_length_le hk]
    exact t
  · refine q p _ (same_new hp) (Tw.of ?_)
    have ec : cutV (lv w) none (some (k : Int)) = lv (w.take k) := by
      unfold cutV
      rw [e1, e0, List.drop_zero, Nat.sub_zero, lv_take]
      congr 1
      by_cases h : k ≤ w.length
      · rw [Nat.min_eq_left h]
      · rw [Nat.min_eq_right (by omega), List.take_of_length_le (Nat.le_refl _), List.take_of_length_le (by omega)]
    rw [upd_same, ec]
theorem slDrop {K : PySem.W.Frag} {H : Hp} {a : Addr} {w : List Nat} {Q : VK} (t : Tw H a w) (k : Nat) (q : ∀ r H', Same H H' → Tw H' r (w.drop k) → Q (.ref r) H') : rSlA K (.ref a) (some (k : Int)) none H Q := by
  have e1 : HT.sIx (lv w).length 0 (some (k : Int)) = min k w.length := by rw [HT.sIx_nat, lv_len]
  have e0 : HT.sIx (lv w).length (lv w).length none = w.length := by rw [HT.sIx_none, lv_len]
  refine ⟨a, lv w, rfl, t.sq, fun hw => ?_, fun _ p hp => ?_⟩
  · refine q a H (Same.refl H) ?_
    have hk := hw.1
    rw [e1] at hk
    have hd : w.drop k = w := by
      by_cases h : k = 0
      · rw [h, List.drop_zero]
      · have hn : w = [] := List.eq_nil_of_length_eq_zero (by omega)
        rw [hn, List.drop_nil]
    rw [hd]
    exact t
  · refine q p _ (same_new hp) (Tw.of ?_)
    have ec : cutV (lv w) (some (k : Int)) none = lv (w.drop k) := by
      unfold cutV
      rw [e1, e0, lv_drop, lv_take]
      congr 1
      by_cases h : k ≤ w.length
      · rw [Nat.min_eq_left h, List.take_of_length_le (by rw [List.length_drop]; exact Nat.le_refl _)]
      · rw [Nat.min_eq_right (by omega), Nat.sub_self, List.take_zero, List.drop_of_length_le (by omega)]
    rw [upd_same, ec]
theorem slDropN {K : PySem.W.Frag} {H : Hp} {a : Addr} {w : List Nat} {Q : VK} {σ : L2.St} (t : Tw H a w) (k : Nat) (q : ∀ r H', Same H H' → Tw H' r (w.drop k) → Q (.ref r) H') : tNoPart σ H (fun u H' => rSlA K (.ref a) (some (k : Int)) u H' Q) := slDrop t k q
theorem lv_one {w : List Nat} {i : Nat} {x : V} (h : (lv w)[i]? = some x) : ∃ n, w[i]? = some n ∧ x = .int (n : Int) := by
  rw [lv_get] at h
  obtain ⟨n, hn, e⟩ := Option.map_eq_some_iff.mp h
  exact ⟨n, hn, e.symm⟩
section
variable {P : Program} {w : World} {K : PySem.W.Frag} {mg : Str → Option Value} {base : Heap}
/-! ### wrong_letter, need_word, need_slate -/
def spWrong (K : PySem.W.Frag) : Sp := fun vs H Q _ => ∃ (n : Nat) (a : Addr) (u : List Nat), vs = [.int (n : Int), .ref a] ∧ Tw H a u ∧ (∀ x ∈ u, x < n) ∧ ∀ H', Same H H' → Q .non H'
theorem ok_wrong {f f1 f2 : Addr} {fd fd1 fd2 : FuncData} (D : Dn K mg "wrong_letter" sWrongLetter ["many", "value"] f fd) (D1 : Dn K mg "within" sWithin ["value", "low", "high"] f1 fd1) (D2 : Dn K mg "whole" sWhole ["value"] f2 fd2) (B : Bt mg) :
    FnOk P w K mg base CX0 3 f fd ["many", "value"] (spWrong K) := by
  have G1 : FnOk P w K mg base CX0 2 f1 fd1 ["value", "low", "high"] spWithin := ok_within D1 D2 B
  refine D.F.ok scWrongLetter (fun vs H Q E h => ?_) (fun cdv A outer s H vs Q E hr h => ?_)
  · obtain ⟨n, a, u, rfl, _⟩ := h
    rfl
  · obtain ⟨n, a, u, rfl, ht, hu, q⟩ := h
    refine ⟨_, pss_cons (ps_for PassesOwn.never rfl (pi_enumT (by rfl) B.enum (pa_cons (pv 1) pa_nil)) (pg_tup rfl (pgs_cons (pg_name (i := 2) scWrongLetter.nd rfl (.inl rfl)) (pgs_cons (pg_name (i := 3) scWrongLetter.nd rfl (.inl rfl)) pgs_nil)))
        (pss_one (ps_if (pt_not (pt_val (pe_call G1 hr (by rfl) D1.g D1.F.kp D1.b .nil pass0 (pa_cons (pv 3) (pa_cons pe_int (pa_cons (pe_op op_sub (pv 0) pe_int) pa_nil)))))) pss_never pss_nil)))
      (pss_one (ps_ret pe_non)), ?_⟩
    refine ⟨.ref a, rfl, a, lv u, rfl, ht.sq, for_enumT (xs := lv u) (fun i σ H' => ∃ y2 y3, σ = [some (.int (n : Int)), some (.ref a), y2, y3] ∧ Same H H') ⟨none, none, rfl, Same.refl H⟩ (fun i σ H' _ hp => ?_) (fun i x σ H' T hx hp hT => ?_) (fun σ H' hp => ?_)⟩
    · obtain ⟨_, _, _, sm⟩ := hp
      exact (ht.same sm).sq
    · obtain ⟨y2, y3, rfl, sm⟩ := hp
      obtain ⟨l, hl, rfl⟩ := lv_one hx
      have hlt := hu l (List.mem_of_getElem? hl)
      refine ⟨T, [.int (i : Nat), .int (l : Int)], rfl, .inl (.inl upd_same), rfl, .int (i : Nat), [.int (l : Int)], rfl, .int (l : Int), [], rfl, rfl, ?_⟩
      refine ⟨.int (l : Int), rfl, .int (n : Int), rfl, (n : Int), 1, rfl, rfl, (l : Int), 0, (n : Int) - 1, rfl, ?_⟩
      have e : decide ((0 : Int) ≤ (l : Int) ∧ (l : Int) ≤ (n : Int) - 1) = true := decide_eq_true (by omega)
      rw [e]
      exact ⟨true, rfl, iteF ⟨_, _, rfl, sm.trans (same_new hT)⟩⟩
    · obtain ⟨y2, y3, rfl, sm⟩ := hp
      exact q H' sm
def spNeedW (K : PySem.W.Frag) (most : Nat) : Sp := fun vs H Q _ => ∃ (a b : Addr) (vals u : List Nat), vs = [.ref a, .ref b] ∧ Tw H a vals ∧ Tw H b u ∧ u.length ≤ most ∧ (∀ x ∈ u, x < vals.length) ∧ ∀ H', Same H H' → Q .non H'
theorem ok_needWord {f f1 f2 f3 f4 : Addr} {fd fd1 fd2 fd3 fd4 : FuncData} (D : Dn K mg "need_word" sNeedWord ["values", "word"] f fd) (D1 : Dn K mg "tuple_of" sTupleOf ["value", "low", "high"] f1 fd1) (D2 : Dn K mg "wrong_letter" sWrongLetter ["many", "value"] f2 fd2)
    (D3 : Dn K mg "within" sWithin ["value", "low", "high"] f3 fd3) (D4 : Dn K mg "whole" sWhole ["value"] f4 fd4) (B : Bt mg) (C : Ct mg) : FnOk P w K mg base CX0 4 f fd ["values", "word"] (spNeedW K 60) := by
  have G1 : FnOk P w K mg base CX0 1 f1 fd1 ["value", "low", "high"] (spTupleOf K) := ok_tupleOf D1 B
  have G2 : FnOk P w K mg base CX0 3 f2 fd2 ["many", "value"] (spWrong K) := ok_wrong D2 D3 D4 B
  refine D.F.ok scNeedWord (fun vs H Q E h => ?_) (fun cdv A outer s H vs Q E hr h => ?_)
  · obtain ⟨a, b, vals, u, rfl, _⟩ := h
    rfl
  · obtain ⟨a, b, vals, u, rfl, ht, hu, hlen, hl, q⟩ := h
    have hr1 : Room 1 _ := hr.mono (by decide)
    refine ⟨_, pss_cons (ps_if (pt_not (pt_val (pe_call G1 hr1 (by rfl) D1.g D1.F.kp D1.b .nil pass0 (pa_cons (pv 1) (pa_cons pe_int (pa_cons (pe_ct C.word) pa_nil)))))) pss_never pss_nil)
      (pss_cons (ps_set (i := 2) scNeedWord.nd rfl (.inl rfl) (pe_call G2 hr (by rfl) D2.g D2.F.kp D2.b .nil pass0 (pa_cons (pe_callB call_len (by rfl) B.len PySem.boot_len (pa_cons (pv 0) pa_nil)) (pa_cons (pv 1) pa_nil))))
      (pss_one (ps_if (pt_cmp (pc_notN (pv 2))) pss_never pss_nil))), ?_⟩
    refine ⟨.ref b, rfl, b, lv u, 0, 60, rfl, hu, ?_⟩
    have e1 : decide ((0 : Int) ≤ ((lv u).length : Int) ∧ ((lv u).length : Int) ≤ 60) = true := by
      rw [lv_len]
      exact decide_eq_true (by omega)
    rw [e1]
    refine ⟨true, rfl, iteF ?_⟩
    refine ⟨.ref a, rfl, .ref a, (lv vals).length, rfl, .inr ⟨_, ht.sq, rfl⟩, .ref b, rfl, vals.length, b, u, by rw [lv_len]; rfl, hu, hl, fun H' sm => ?_⟩
    exact ⟨.non, rfl, _, rfl, iteNS rfl (q H' sm)⟩
theorem ok_needSlate {f f1 f2 f3 f4 : Addr} {fd fd1 fd2 fd3 fd4 : FuncData} (D : Dn K mg "need_slate" sNeedSlate ["values", "slate"] f fd) (D1 : Dn K mg "tuple_of" sTupleOf ["value", "low", "high"] f1 fd1) (D2 : Dn K mg "wrong_letter" sWrongLetter ["many", "value"] f2 fd2)
    (D3 : Dn K mg "within" sWithin ["value", "low", "high"] f3 fd3) (D4 : Dn K mg "whole" sWhole ["value"] f4 fd4) (B : Bt mg) (C : Ct mg) : FnOk P w K mg base CX0 4 f fd ["values", "slate"] (spNeedW K 12) := by
  have G1 : FnOk P w K mg base CX0 1 f1 fd1 ["value", "low", "high"] (spTupleOf K) := ok_tupleOf D1 B
  have G2 : FnOk P w K mg base CX0 3 f2 fd2 ["many", "value"] (spWrong K) := ok_wrong D2 D3 D4 B
  refine D.F.ok scNeedSlate (fun vs H Q E h => ?_) (fun cdv A outer s H vs Q E hr h => ?_)
  · obtain ⟨a, b, vals, u, rfl, _⟩ := h
    rfl
  · obtain ⟨a, b, vals, u, rfl, ht, hu, hlen, hl, q⟩ := h
    have hr1 : Room 1 _ := hr.mono (by decide)
    refine ⟨_, pss_cons (ps_if (pt_not (pt_val (pe_call G1 hr1 (by rfl) D1.g D1.F.kp D1.b .nil pass0 (pa_cons (pv 1) (pa_cons pe_int (pa_cons (pe_ct C.slate) pa_nil)))))) pss_never pss_nil)
      (pss_cons (ps_set (i := 2) scNeedSlate.nd rfl (.inl rfl) (pe_call G2 hr (by rfl) D2.g D2.F.kp D2.b .nil pass0 (pa_cons (pe_callB call_len (by rfl) B.len PySem.boot_len (pa_cons (pv 0) pa_nil)) (pa_cons (pv 1) pa_nil))))
      (pss_one (ps_if (pt_cmp (pc_notN (pv 2))) pss_never pss_nil))), ?_⟩
    refine ⟨.ref b, rfl, b, lv u, 0, 12, rfl, hu, ?_⟩
    have e1 : decide ((0 : Int) ≤ ((lv u).length : Int) ∧ ((lv u).length : Int) ≤ 12) = true := by
      rw [lv_len]
      exact decide_eq_true (by omega)
    rw [e1]
    refine ⟨true, rfl, iteF ?_⟩
    refine ⟨.ref a, rfl, .ref a, (lv vals).length, rfl, .inr ⟨_, ht.sq, rfl⟩, .ref b, rfl, vals.length, b, u, by rw [lv_len]; rfl, hu, hl, fun H' sm => ?_⟩
    exact ⟨.non, rfl, _, rfl, iteNS rfl (q H' sm)⟩
/-! ### stepped -/
def spStepped (K : PySem.W.Frag) : Sp := fun vs H Q _ => ∃ (a b : Addr) (vals sl : List Nat) (l : Nat), vs = [.ref a, .ref b, .int (l : Int)] ∧ Tw H a vals ∧ Tw H b sl ∧ l < vals.length ∧ (∀ v ∈ vals, 1 ≤ v) ∧ sl.length ≤ 500 ∧
  ∀ H' p q x, Same H H' → H' p = some (.tup [.ref q, x]) → Tw H' q (stepN vals sl l) → Q (.ref p) H'
theorem ok_stepped {f : Addr} {fd : FuncData} (D : Dn K mg "stepped" sStepped ["values", "slate", "letter"] f fd) (B : Bt mg) : FnOk P w K mg base CX0 1 f fd ["values", "slate", "letter"] (spStepped K) := by
  refine D.F.ok scStepped (fun vs H Q E h => ?_) (fun cdv A outer s H vs Q E hr h => ?_)
  · obtain ⟨a, b, vals, sl, l, rfl, _⟩ := h
    rfl
  · obtain ⟨a, b, vals, sl, l, rfl, ht, hs, hl, hv, hz, q⟩ := h
    refine ⟨_, pss_cons (ps_set (i := 3) scStepped.nd rfl (.inl rfl) (pe_ix ix_tup (pv 0) (pv 2) (fun _ _ => rfl)))
      (pss_cons (ps_if (pt_cmpR op_gt (pv 3) (pe_callB call_len (by rfl) B.len PySem.boot_len (pa_cons (pv 1) pa_nil)) (nomark _))
        (pss_one (ps_ret (pe_tup (pa_cons (pe_op op_catA (pe_tup (pa_cons (pv 2) pa_nil)) (pv 1)) (pa_cons pe_non pa_nil))))) pss_nil)
      (pss_one (ps_ret (pe_tup (pa_cons (pe_op op_catA (pe_op op_catA (pe_tup (pa_cons (pv 2) pa_nil)) (pe_slice sl_tupA (pv 1) po_none (po_some (pe_op op_sub (pv 3) pe_int)))) (pe_slice sl_tupA (pv 1) (po_some (pv 3)) po_none))
        (pa_cons (pe_ix ix_tup (pv 1) (pe_op op_sub (pv 3) pe_int) (fun _ _ => rfl)) pa_nil)))))), ?_⟩
    obtain ⟨v, hget⟩ : ∃ v, vals[l]? = some v := ⟨vals[l], List.getElem?_eq_getElem hl⟩
    have hv1 : 1 ≤ v := hv v (List.mem_of_getElem? hget)
    have hgd : vals.getD l 1 = v := by rw [List.getD_eq_getElem?_getD, hget]; rfl
    refine ⟨.ref a, rfl, .int (l : Int), rfl, a, lv vals, (l : Int), .int (v : Int), rfl, rfl, ht.sq, atI_nat (lv_at hget), ?_⟩
    refine ⟨.int (v : Int), rfl, .ref b, rfl, .ref b, (lv sl).length, rfl, .inr ⟨_, hs.sq, rfl⟩, (v : Int), ((lv sl).length : Int), rfl, rfl, _, rfl, ite2 (fun c => ?_) (fun c => ?_)⟩
    · have hc : sl.length < v := by
        have z := of_decide_eq_true c
        rw [lv_len] at z
        omega
      refine ⟨.int (l : Int), rfl, Nat.succ_le_of_lt (small1000 (Nat.zero_le _)), fun p hp => ?_⟩
      have s1 : Same H (upd H p (.tup [.int (l : Int)])) := same_new hp
      have t1 : Tw (upd H p (.tup [.int (l : Int)])) p [l] := Tw.of upd_same
      refine ⟨.ref b, rfl, cat_tw t1 (hs.same s1) (by rw [List.length_singleton]; omega) fun r H2 s2 t2 => ?_⟩
      refine ⟨(show 2 ≤ sizeLine by decide), fun p2 hp2 => ?_⟩
      refine q _ p2 r .non ((s1.trans s2).trans (same_new hp2)) upd_same ?_
      rw [step_short hgd hc]
      exact t2.same (same_new hp2)
    · have hc : v ≤ sl.length := by
        have z := of_decide_eq_false (Bool.eq_false_iff.mpr c)
        rw [lv_len] at z
        omega
      have ev : (v : Int) - 1 = ((v - 1 : Nat) : Int) := by omega
      refine ⟨.int (l : Int), rfl, Nat.succ_le_of_lt (small1000 (Nat.zero_le _)), fun p hp => ?_⟩
      have s1 : Same H (upd H p (.tup [.int (l : Int)])) := same_new hp
      have t1 : Tw (upd H p (.tup [.int (l : Int)])) p [l] := Tw.of upd_same
      refine ⟨.ref b, rfl, .int (v : Int), rfl, (v : Int), 1, rfl, rfl, ((v - 1 : Nat) : Int), congrArg V.int ev, ?_⟩
      refine slTake (hs.same s1) (v - 1) fun r2 H2 s2 t2 => ?_
      refine cat_tw (t1.same s2) t2 (by rw [List.length_singleton]; have := List.length_take_le (v - 1) sl; omega) fun r3 H3 s3 t3 => ?_
      have s13 := (s1.trans s2).trans s3
      refine ⟨.ref b, rfl, .int (v : Int), rfl, (v : Int), rfl, ?_⟩
      refine slDropN (hs.same s13) v fun r4 H4 s4 t4 => ?_
      refine cat_tw (t3.same s4) t4 (by rw [List.length_append, List.length_singleton, List.length_drop]; have := List.length_take_le (v - 1) sl; omega) fun r5 H5 s5 t5 => ?_
      have s15 := (s13.trans s4).trans s5
      obtain ⟨z, hz'⟩ : ∃ z, sl[v - 1]? = some z := ⟨sl[v - 1], List.getElem?_eq_getElem (by omega)⟩
      refine ⟨.ref b, rfl, .int (v : Int), rfl, (v : Int), 1, rfl, rfl, b, lv sl, ((v - 1 : Nat) : Int), .int (z : Int), rfl, congrArg V.int ev, (hs.same s15).sq, atI_nat (lv_at hz'), ?_⟩
      refine ⟨(show 2 ≤ sizeLine by decide), fun p2 hp2 => ?_⟩
      refine q _ p2 r5 (.int (z : Int)) (s15.trans (same_new hp2)) upd_same ?_
      rw [step_long hgd hv1]
      exact t5.same (same_new hp2)
/-! ### met -/
def spMet (K : PySem.W.Frag) : Sp := fun vs H Q _ => ∃ (a b c : Addr) (vals sl u : List Nat), vs = [.ref a, .ref b, .ref c] ∧ Tw H a vals ∧ Tw H b sl ∧ Tw H c u ∧ ValOk vals ∧ sl.length ≤ 12 ∧ u.length ≤ 60 ∧ (∀ x ∈ sl, x < vals.length) ∧ (∀ x ∈ u, x < vals.length) ∧
  ∀ H' p, Same H H' → Tw H' p (metN vals sl u) → Q (.ref p) H'
theorem ok_met {f f1 f2 f3 f4 f5 f6 f7 f8 : Addr} {fd fd1 fd2 fd3 fd4 fd5 fd6 fd7 fd8 : FuncData} (D : Dn K mg "met" sMet ["values", "slate", "word"] f fd) (D1 : Dn K mg "need_values" sNeedValues ["value"] f1 fd1) (D2 : Dn K mg "need_slate" sNeedSlate ["values", "slate"] f2 fd2)
    (D3 : Dn K mg "need_word" sNeedWord ["values", "word"] f3 fd3) (D4 : Dn K mg "stepped" sStepped ["values", "slate", "letter"] f4 fd4) (D5 : Dn K mg "tuple_of" sTupleOf ["value", "low", "high"] f5 fd5) (D6 : Dn K mg "wrong_letter" sWrongLetter ["many", "value"] f6 fd6)
    (D7 : Dn K mg "within" sWithin ["value", "low", "high"] f7 fd7) (D8 : Dn K mg "whole" sWhole ["value"] f8 fd8) (B : Bt mg) (C : Ct mg) : FnOk P w K mg base CX0 5 f fd ["values", "slate", "word"] (spMet K) := by
  have G1 : FnOk P w K mg base CX0 3 f1 fd1 ["value"] (spNeedValues K) := ok_needValues D1 D5 D7 D8 B C
  have G2 : FnOk P w K mg base CX0 4 f2 fd2 ["values", "slate"] (spNeedW K 12) := ok_needSlate D2 D5 D6 D7 D8 B C
  have G3 : FnOk P w K mg base CX0 4 f3 fd3 ["values", "word"] (spNeedW K 60) := ok_needWord D3 D5 D6 D7 D8 B C
  have G4 : FnOk P w K mg base CX0 1 f4 fd4 ["values", "slate", "letter"] (spStepped K) := ok_stepped D4 B
  refine D.F.ok scMet (fun vs H Q E h => ?_) (fun cdv A outer s H vs Q E hr h => ?_)
  · obtain ⟨a, b, c, vals, sl, u, rfl, _⟩ := h
    rfl
  · obtain ⟨a, b, c, vals, sl, u, rfl, ta, tb, tc, hv, hsl, hu, ls, lu, q⟩ := h
    have hr3 : Room 3 _ := hr.mono (by decide)
    have hr1 : Room 1 _ := hr.mono (by decide)
    refine ⟨_, pss_cons (ps_expr (pe_call G1 hr3 (by rfl) D1.g D1.F.kp D1.b .nil pass0 (pa_cons (pv 0) pa_nil)))
      (pss_cons (ps_expr (pe_call G2 hr (by rfl) D2.g D2.F.kp D2.b .nil pass0 (pa_cons (pv 0) (pa_cons (pv 1) pa_nil))))
      (pss_cons (ps_expr (pe_call G3 hr (by rfl) D3.g D3.F.kp D3.b .nil pass0 (pa_cons (pv 0) (pa_cons (pv 2) pa_nil))))
      (pss_cons (ps_set (i := 3) scMet.nd rfl (.inl rfl) (pe_lst pa_nil))
      (pss_cons (ps_for PassesOwn.never rfl (pi_enumT (by rfl) B.enum (pa_cons (pv 2) pa_nil)) (pg_tup rfl (pgs_cons (pg_name (i := 4) scMet.nd rfl (.inl rfl)) (pgs_cons (pg_name (i := 5) scMet.nd rfl (.inl rfl)) pgs_nil)))
        (pss_cons (ps_if (pt_cmpR op_in_seq (pv 5) (pv 1) (by rfl)) (pss_one (ps_expr (pe_bm PySem.F.plainAttrs_list PySem.F.slot_list_append PySem.F.type_list_append mt_append (pv 3) (pa_cons (pv 4) pa_nil)))) pss_nil)
        (pss_one (ps_set (i := 1) scMet.nd rfl (.inl rfl) (pe_ix ix_tup (pe_call G4 hr1 (by rfl) D4.g D4.F.kp D4.b .nil pass0 (pa_cons (pv 0) (pa_cons (pv 1) (pa_cons (pv 5) pa_nil)))) pe_int (fun _ _ => rfl))))))
      (pss_one (ps_ret (pe_callTy call_tuple_of (by rfl) B.tuple (by decide +kernel) (pa_cons (pv 3) pa_nil)))))))), ?_⟩
    refine ⟨.ref a, rfl, a, vals, rfl, ta, hv, fun H1 s1 => ?_⟩
    refine ⟨.ref a, rfl, .ref b, rfl, a, b, vals, sl, rfl, ta.same s1, tb.same s1, hsl, ls, fun H2 s2 => ?_⟩
    have s12 := s1.trans s2
    refine ⟨.ref a, rfl, .ref c, rfl, a, c, vals, u, rfl, ta.same s12, tc.same s12, hu, lu, fun H3 s3 => ?_⟩
    have s13 := s12.trans s3
    refine ⟨Nat.zero_le _, fun fo hfo => ?_⟩
    have s14 := s13.trans (same_new (o := .lst []) hfo)
    refine ⟨.ref c, rfl, c, lv u, rfl, (tc.same s14).sq, for_enumT (xs := lv u) (fun i σ H' => ∃ sla y4 y5, σ = [some (.ref a), some (.ref sla), some (.ref c), some (.ref fo), y4, y5] ∧ Same H3 H' ∧ H' fo = some (.lst (lv (metI vals sl u i))) ∧ Tw H' sla (writeN vals sl (u.take i)))
      ⟨b, none, none, rfl, same_new hfo, upd_same, tb.same s14⟩ (fun i σ H' _ hp => ?_) (fun i x σ H' T hx hp hT => ?_) (fun σ H' hp => ?_)⟩
    · obtain ⟨_, _, _, _, sm, _⟩ := hp
      exact (tc.same (s13.trans sm)).sq
    · obtain ⟨sla, y4, y5, rfl, sm, hf, tsl⟩ := hp
      obtain ⟨l, hl, rfl⟩ := lv_one hx
      have hlt := lu l (List.mem_of_getElem? hl)
      have hi : i < u.length := (List.getElem?_eq_some_iff.mp hl).1
      have sT : Same H' (upd H' T (.tup [.int (i : Nat), .int (l : Int)])) := same_new hT
      have neT : fo ≠ T := ne_of_none hf hT
      refine ⟨T, [.int (i : Nat), .int (l : Int)], rfl, .inl (.inl upd_same), rfl, .int (i : Nat), [.int (l : Int)], rfl, .int (l : Int), [], rfl, rfl, ?_⟩
      refine ⟨.int (l : Int), rfl, .ref sla, rfl, sla, _, rfl, .inr (tsl.same sT).sq, rfl, lv_flat _, _, rfl, ?_⟩
      have wl : (writeN vals sl (u.take i)).length ≤ 500 := by
        have z1 := writeN_len vals (u.take i) sl
        have z2 := List.length_take_le i u
        omega
      -- behind the test: the slate's step
      have fin : ∀ (Hx : Hp) (fl : List Nat), fl = metI vals sl u (i + 1) → Same H3 Hx → Hx fo = some (.lst (lv fl)) → Tw Hx a vals → Tw Hx sla (writeN vals sl (u.take i)) → ∀ D' : Ends, (∀ σ' H'', (∃ sla y4 y5, σ' = [some (.ref a), some (.ref sla), some (.ref c), some (.ref fo), y4, y5] ∧ Same H3 H'' ∧ H'' fo = some (.lst (lv (metI vals sl u (i + 1)))) ∧ Tw H'' sla (writeN vals sl (u.take (i + 1)))) → D'.nx σ' H'') →
          tAsg (tOp (rIxT K) (tCall (spStepped K) [] E0 (tCons (tVar 0) (tCons (tVar 1) (tCons (tVar 5) tNil)))) (tC (.int 0))) (gName 1) D' [some (.ref a), some (.ref sla), some (.ref c), some (.ref fo), some (.int (i : Nat)), some (.int (l : Int))] Hx := by
        intro Hx fl efl sx hfx tax tsx D' done
        refine ⟨.ref a, rfl, .ref sla, rfl, .int (l : Int), rfl, a, sla, vals, _, l, rfl, tax, tsx, hlt, fun v hv' => (hv.each v hv').1, wl, fun H4 p q' x s4 hp tq => ?_⟩
        refine ⟨p, [.ref q', x], 0, .ref q', rfl, rfl, SqT.of hp, atI_nat (j := 0) rfl, ?_⟩
        refine done _ _ ⟨q', _, _, rfl, sx.trans s4, ?_, ?_⟩
        · rw [s4 _ _ hfx, efl]
        · rw [writeN_take_succ hl]
          exact tq
      have em : inV (.int (l : Int)) (lv (writeN vals sl (u.take i))) = metP vals sl u i := by rw [lv_in, metP_at hl]
      show (if (if false = true then !inV (V.int (l : Int)) (lv (writeN vals sl (u.take i))) else inV (V.int (l : Int)) (lv (writeN vals sl (u.take i)))) = true then _ else _)
      rw [if_neg Bool.false_ne_true, em]
      refine ite2 (fun cm => ?_) (fun cm => ?_)
      · have hfT : (upd H' T (.tup [.int (i : Nat), .int (l : Int)])) fo = some (.lst (lv (metI vals sl u i))) := sT _ _ hf
        refine ⟨.ref fo, rfl, .inl ⟨rfl, _, SqL.of hfT⟩, .int (i : Nat), rfl, fo, _, _, rfl, rfl, hfT, ?_, ?_⟩
        · rw [lv_len]
          have := metI_len vals sl u i
          exact small1000 (by omega)
        · have tup : ∀ {r : Addr} {w' : List Nat}, Tw (upd H' T (.tup [.int (i : Nat), .int (l : Int)])) r w' → Tw (upd (upd H' T (.tup [.int (i : Nat), .int (l : Int)])) fo (.lst (lv (metI vals sl u i) ++ [.int (i : Nat)]))) r w' := fun {r w'} t => by
            rcases t with t | ⟨o, t⟩
            · refine .inl ?_
              rw [upd_ne (ne_of t hfT (fun z => nomatch z))]
              exact t
            · refine .inr ⟨o, ?_⟩
              rw [upd_ne (ne_of t hfT (fun z => nomatch z))]
              exact t
          refine fin _ (metI vals sl u i ++ [i]) ?_ (fun b' o e => ?_) ?_ (tup ((ta.same s13).same (sm.trans sT))) (tup (tsl.same sT)) _ (fun σ' H'' z => z)
          · rw [metI_succ, if_pos cm]
          · rw [upd_ne (ne_of_none e hfo)]
            exact (sm.trans sT) b' o e
          · rw [upd_same, lv_append]
            rfl
      · refine fin _ (metI vals sl u i) ?_ (sm.trans sT) (sT _ _ hf) ((ta.same s13).same (sm.trans sT)) (tsl.same sT) _ (fun σ' H'' z => z)
        rw [metI_succ, if_neg cm, List.append_nil]
    · obtain ⟨sla, y4, y5, rfl, sm, hf, tsl⟩ := hp
      refine ⟨.ref fo, rfl, fo, _, rfl, .inl ⟨SqL.of hf, fun p hp => ?_⟩⟩
      refine q _ p (s13.trans (sm.trans (same_new hp))) (Tw.of ?_)
      rw [upd_same, lv_len]
      rfl
end
end Fw
namespace Fw
open PySem PySem.Spec PyProof.Rows L2 FW
open PySem.W (Datum DatumOrd Tup)
/-! ### all but one object as before -/
/-- a kind of object that may change -/
def chg : HO → Bool
  | .tup _ => false
  | .frz _ _ => false
  | _ => true
def SB (x : Addr) (H H' : Hp) : Prop := ∀ b o, b ≠ x → H b = some o → H' b = some o
theorem SB.refl (x : Addr) (H : Hp) : SB x H H := fun _ _ _ e => e
theorem SB.trans {x : Addr} {H H1 H2 : Hp} (a : SB x H H1) (b : SB x H1 H2) : SB x H H2 := fun c o h e => b c o h (a c o h e)
theorem SB.of {x : Addr} {H H' : Hp} (s : Same H H') : SB x H H' := fun b o _ e => s b o e
theorem SB.upd {x : Addr} {H : Hp} {o : HO} : SB x H (upd H x o) := fun b u h e => by
  rw [upd_ne h]
  exact e
theorem rd_ne {x a : Addr} {H : Hp} {o : HO} {xs : List V} (hx : H x = some o) (c : chg o = true) (t : Rd H a (.tup xs)) : a ≠ x := fun e => by
  subst e
  rcases t with t | ⟨u, t⟩
  · rw [hx] at t
    cases t
    cases c
  · rw [hx] at t
    cases t
    cases c
theorem rd_sb {x a : Addr} {H H' : Hp} {o : HO} {xs : List V} (s : SB x H H') (hx : H x = some o) (c : chg o = true) (t : Rd H a (.tup xs)) : Rd H' a (.tup xs) := by
  have ne := rd_ne hx c t
  rcases t with t | ⟨u, t⟩
  · exact .inl (s _ _ ne t)
  · exact .inr ⟨u, s _ _ ne t⟩
theorem Tw.sb {x a : Addr} {H H' : Hp} {o : HO} {w : List Nat} (t : Tw H a w) (s : SB x H H') (hx : H x = some o) (c : chg o = true) : Tw H' a w := rd_sb s hx c t
theorem tup_sb {x a : Addr} {H H' : Hp} {o : HO} {xs : List V} (t : H a = some (.tup xs)) (s : SB x H H') (hx : H x = some o) (c : chg o = true) : H' a = some (.tup xs) := s _ _ (rd_ne hx c (.inl t)) t
theorem KeyAt.sb {x a : Addr} {H H' : Hp} {o : HO} {sl su : List Nat} (k : KeyAt H a sl su) (s : SB x H H') (hx : H x = some o) (c : chg o = true) : KeyAt H' a sl su := by
  obtain ⟨p, q, h1, h2, h3⟩ := k
  exact ⟨p, q, tup_sb h1 s hx c, h2.sb s hx c, h3.sb s hx c⟩
theorem KD.sb {P : Program} {w : World} {x d : Addr} {H H' : Hp} {o : HO} {kvs : List (NestedKey × V)} (k : KD P w H d kvs) (s : SB x H H') (hx : H x = some o) (c : chg o = true) (ne : d ≠ x) : KD P w H' d kvs := by
  obtain ⟨xs, h1, h2, h3⟩ := k
  refine ⟨xs, s _ _ ne h1, h2, fun y hy => ?_⟩
  obtain ⟨sl, su, e, ka⟩ := h3 y hy
  exact ⟨sl, su, e, ka.sb s hx c⟩
theorem KD.ext {P : Program} {w : World} {d : Addr} {H : Hp} {kvs : List (NestedKey × V)} (k : KD P w H d kvs) : ∃ φ, H d = some (.ext φ) := by
  obtain ⟨xs, h1, _⟩ := k
  exact ⟨_, h1⟩
/-- a pair (m, word) at p -/
def PairAt (H : Hp) (v : V) (c : Int × List Nat) : Prop := ∃ p q, v = .ref p ∧ H p = some (.tup [.int c.1, .ref q]) ∧ Tw H q c.2
theorem PairAt.sb {x : Addr} {H H' : Hp} {o : HO} {v : V} {c : Int × List Nat} (t : PairAt H v c) (s : SB x H H') (hx : H x = some o) (k : chg o = true) : PairAt H' v c := by
  obtain ⟨p, q, e, h1, h2⟩ := t
  exact ⟨p, q, e, tup_sb h1 s hx k, h2.sb s hx k⟩
theorem PairAt.same {H H' : Hp} {v : V} {c : Int × List Nat} (t : PairAt H v c) (s : Same H H') : PairAt H' v c := by
  obtain ⟨p, q, e, h1, h2⟩ := t
  exact ⟨p, q, e, s _ _ h1, h2.same s⟩
abbrev PairsAt (H : Hp) : List V → List (Int × List Nat) → Prop := Paired (PairAt H)
theorem PairsAt.snoc {H : Hp} {v : V} {c : Int × List Nat} (hv : PairAt H v c) : ∀ {vs : List V} {cs : List (Int × List Nat)}, PairsAt H vs cs → PairsAt H (vs ++ [v]) (cs ++ [c])
  | _, _, .nil => .cons hv .nil
  | _, _, .cons r t => .cons r (PairsAt.snoc hv t)
theorem PairsAt.len {H : Hp} {vs : List V} {cs : List (Int × List Nat)} (r : PairsAt H vs cs) : vs.length = cs.length := Paired.length r
theorem PairsAt.at {H : Hp} : ∀ {vs : List V} {cs : List (Int × List Nat)} {i : Nat} {v : V} {c : Int × List Nat}, PairsAt H vs cs → vs[i]? = some v → cs[i]? = some c → PairAt H v c
  | _, _, _, _, _, .nil, h, _ => by simp at h
  | _, _, 0, _, _, .cons r _, h, h' => by
    have e := Option.some.inj (show some _ = some _ from h)
    have e' := Option.some.inj (show some _ = some _ from h')
    subst e e'
    exact r
  | _, _, i + 1, _, _, .cons _ t, h, h' => PairsAt.at (i := i) t h h'
/-- a pair as data -/
def pq (c : Int × List Nat) : Int × Tup Int := (c.1, Tup.mk (nz c.2))
theorem pairs_dp {K : PySem.W.Frag} {H : Hp} : ∀ {vs : List V} {cs : List (Int × List Nat)}, PairsAt H vs cs → DpAll K H vs ((cs.map pq).map Datum.toD)
  | _, _, .nil => .nil
  | _, _, .cons r t => by
    obtain ⟨p, q, rfl, h1, h2⟩ := r
    exact .cons (dp_pair (SqT.of h1) h2) (pairs_dp t)
theorem nz_sum : ∀ w : List Nat, (nz w).sum = ((w.sum : Nat) : Int)
  | [] => rfl
  | x :: w => by
    show ((x : Int) :: nz w).sum = (((x :: w).sum : Nat) : Int)
    rw [List.sum_cons, List.sum_cons, nz_sum w]
    omega
section
variable {P : Program} {w : World} {K : PySem.W.Frag} {mg : Str → Option Value} {base : Heap}
/-! ### need_supply -/
def spNeedSu (K : PySem.W.Frag) : Sp := fun vs H Q _ => ∃ (a b : Addr) (vals su : List Nat), vs = [.ref a, .ref b] ∧ Tw H a vals ∧ Tw H b su ∧ su.length = vals.length ∧ su.length ≤ 500 ∧ su.sum ≤ 12 ∧ ∀ H', Same H H' → Q .non H'
theorem ok_needSu {f f1 f2 f3 : Addr} {fd fd1 fd2 fd3 : FuncData} (D : Dn K mg "need_supply" sNeedSupply ["values", "supply"] f fd) (D1 : Dn K mg "tuple_of" sTupleOf ["value", "low", "high"] f1 fd1) (D2 : Dn K mg "within" sWithin ["value", "low", "high"] f2 fd2) (D3 : Dn K mg "whole" sWhole ["value"] f3 fd3) (B : Bt mg) (C : Ct mg) :
    FnOk P w K mg base CX0 3 f fd ["values", "supply"] (spNeedSu K) := by
  have G1 : FnOk P w K mg base CX0 1 f1 fd1 ["value", "low", "high"] (spTupleOf K) := ok_tupleOf D1 B
  have G2 : FnOk P w K mg base CX0 2 f2 fd2 ["value", "low", "high"] spWithin := ok_within D2 D3 B
  refine D.F.ok scNeedSupply (fun vs H Q E h => ?_) (fun cdv A outer s H vs Q E hr h => ?_)
  · obtain ⟨a, b, vals, su, rfl, _⟩ := h
    rfl
  · obtain ⟨a, b, vals, su, rfl, ta, tb, hl, hz, hsum, q⟩ := h
    have hr1 : Room 1 _ := hr.mono (by decide)
    refine ⟨_, pss_cons (ps_set (i := 2) scNeedSupply.nd rfl (.inl rfl) (pe_callB call_len (by rfl) B.len PySem.boot_len (pa_cons (pv 0) pa_nil)))
      (pss_cons (ps_if (PW.pt (pw_or (pt_not (pt_val (pe_call G1 hr1 (by rfl) D1.g D1.F.kp D1.b .nil pass0 (pa_cons (pv 1) (pa_cons (pv 2) (pa_cons (pv 2) pa_nil))))))
        (pw_or1 (pt_not (pt_val (pe_callB (cr_all rfl) (by rfl) B.all (by decide +kernel) (pa_cons
          (pe_lc (own := [("told", 3)]) (g := gName 3) (tt := tYes) rfl scNeedSupply.nd (pi_tup (pv 1)) (blkOk_by (N := ["values", "supply", "many", "told"]) (sc := defScope sNeedSupply) (by decide +kernel)) (fun _ _ _ _ _ => pg_name (i := 3) scNeedSupply.nd rfl (Or.inl rfl)) (fun _ _ _ _ _ => pts_nil)
            (fun _ _ _ _ _ => pe_call G2 hr (by rfl) D2.g D2.F.kp D2.b .nil pass0 (pa_cons (pv 3) (pa_cons pe_int (pa_cons (pe_ct C.supply) pa_nil))))) pa_nil))))))) pss_never pss_nil)
      (pss_one (ps_if (pt_cmpR op_gt (pe_callB (cr_sumT rfl) (by rfl) B.sum (by decide +kernel) (pa_cons (pv 1) pa_nil)) (pe_ct C.supply) (nomark _)) pss_never pss_nil))), ?_⟩
    refine ⟨.ref a, rfl, .ref a, (lv vals).length, rfl, .inr ⟨_, ta.sq, rfl⟩, ?_⟩
    refine ⟨.ref b, rfl, .int ((lv vals).length : Int), rfl, .int ((lv vals).length : Int), rfl, b, lv su, _, _, rfl, tb, ?_⟩
    have e1 : decide (((lv vals).length : Int) ≤ ((lv su).length : Int) ∧ ((lv su).length : Int) ≤ ((lv vals).length : Int)) = true := by
      rw [lv_len, lv_len, hl]
      exact decide_eq_true ⟨Int.le_refl _, Int.le_refl _⟩
    rw [e1]
    refine ⟨true, rfl, iteF ?_⟩
    refine ⟨.ref b, rfl, b, rfl, ⟨_, tb.sq⟩, fun Dl hD => ?_⟩
    have sD : Same H (upd H Dl (.lst [])) := same_new hD
    refine lc_tup (K := K) (a := b) (xs := lv su) (fun i H' => ∃ acc : List V, acc = trues i ∧ H' Dl = some (.lst acc) ∧ Same H H') ⟨[], rfl, upd_same, sD⟩ (fun i H' _ hp => ?_) (fun i x H' hx hp => ?_) (fun H' hp => ?_)
    · obtain ⟨acc, _, _, sm⟩ := hp
      exact (tb.same sm).sq
    · obtain ⟨acc, ea, hd, sm⟩ := hp
      obtain ⟨n, hn, rfl⟩ := lv_one hx
      have hm := mem_le_sum (List.mem_of_getElem? hn)
      refine ⟨rfl, .int (n : Int), rfl, (n : Int), 0, 12, rfl, ?_⟩
      have e2 : decide ((0 : Int) ≤ (n : Int) ∧ (n : Int) ≤ 12) = true := decide_eq_true (by omega)
      rw [e2]
      have hi : i < su.length := (List.getElem?_eq_some_iff.mp hn).1
      refine ⟨acc, hd, ?_, trues (i + 1), rfl, ?_, fun b' o e => ?_⟩
      · rw [ea, trues_len]
        exact small1000 (by omega)
      · rw [upd_same, trues_succ, ea]
      · rw [upd_ne (ne_of_none e hD)]
        exact sm b' o e
    · obtain ⟨acc, ea, hd, sm⟩ := hp
      refine ⟨Dl, List.replicate (lv su).length true, rfl, .of (by rw [hd, ea]; rfl), ?_⟩
      rw [trues_all]
      refine ⟨true, rfl, iteF ?_⟩
      refine ⟨.ref b, rfl, b, nz su, rfl, (tb.same sm).sq, (nz su).sum, 12, rfl, rfl, _, rfl, ite2 (fun c => ?_) (fun _ => q H' sm)⟩
      have c' := of_decide_eq_true c
      rw [nz_sum] at c'
      omega
/-! ### best_of -/
/-- what the dict tells is right -/
def BestD (H : Hp) (vals : List Nat) (sg : Int) (kvs : List (NestedKey × V)) : Prop := ∀ sl su v, valV kvs (keyN sl su) = some v → ∃ m u, PairAt H v (m, u) ∧ IsBest vals sg su.sum sl su m u
theorem BestD.sb {x : Addr} {H H' : Hp} {o : HO} {vals : List Nat} {sg : Int} {kvs : List (NestedKey × V)} (b : BestD H vals sg kvs) (s : SB x H H') (hx : H x = some o) (c : chg o = true) : BestD H' vals sg kvs := fun sl su v h => by
  obtain ⟨m, u, h1, h2⟩ := b sl su v h
  exact ⟨m, u, h1.sb s hx c, h2⟩
theorem BestD.same {H H' : Hp} {vals : List Nat} {sg : Int} {kvs : List (NestedKey × V)} (b : BestD H vals sg kvs) (s : Same H H') : BestD H' vals sg kvs := fun sl su v h => by
  obtain ⟨m, u, h1, h2⟩ := b sl su v h
  exact ⟨m, u, h1.same s, h2⟩
theorem BestD.put {H : Hp} {vals sl su u : List Nat} {sg m : Int} {v : V} {kvs : List (NestedKey × V)} (b : BestD H vals sg kvs) (hv : PairAt H v (m, u)) (hb : IsBest vals sg su.sum sl su m u) : BestD H vals sg (putK kvs (keyN sl su) v) := fun sl' su' v' h => by
  rw [valV_put] at h
  by_cases e : keyN sl' su' = keyN sl su
  · rw [if_pos e] at h
    cases h
    obtain ⟨e1, e2⟩ := keyN_inj e
    subst e1 e2
    exact ⟨m, u, hv, hb⟩
  · rw [if_neg e] at h
    exact b sl' su' v' h
def spBest (P : Program) (w : World) (K : PySem.W.Frag) (sg : Int) (k : Nat) : Sp := fun vs H Q _ => ∃ (a b c d : Addr) (vals sl su : List Nat) (kvs : List (NestedKey × V)), vs = [.ref a, .ref b, .ref c, .int sg, .ref d] ∧
  Tw H a vals ∧ Tw H b sl ∧ Tw H c su ∧ KD P w H d kvs ∧ BestD H vals sg kvs ∧ ValOk vals ∧ vals.length ≤ 4 ∧ su.length = vals.length ∧ su.sum = k ∧ sl.length + k ≤ 400 ∧ kvs.length + calls k ≤ 6000 ∧
  ∀ H' v m u kvs', SB d H H' → KD P w H' d kvs' → BestD H' vals sg kvs' → kvs'.length ≤ kvs.length + calls k → PairAt H' v (m, u) → IsBest vals sg k sl su m u → Q v H'
/-- known[key] = found; the length -/
def tTail (P : Program) (w : World) : TS := tSeq (sKPut P w (tVar 4) (tVar 5) (tVar 6)) (tIfS (tTest (tOp (rI0 fun i j => .bl (decide (j < i))) (tCB (rKLen P w) (tCons (tVar 4) tNil)) (tC (.int 6000)))) tNever tNext)
theorem tail_read {D : Ends} {σ : L2.St} {H : Hp} {d ky : Addr} {v : V} {m : Int} {u vals sl su : List Nat} {sg : Int} {kvs : List (NestedKey × V)} (h4 : σ[4]? = some (some (.ref d))) (h5 : σ[5]? = some (some (.ref ky))) (h6 : σ[6]? = some (some v))
    (ka : KeyAt H ky sl su) (kd : KD P w H d kvs) (bd : BestD H vals sg kvs) (pa : PairAt H v (m, u)) (ib : IsBest vals sg su.sum sl su m u) (hl : kvs.length + 1 ≤ 6000)
    (fin : ∀ H' kvs', SB d H H' → KD P w H' d kvs' → BestD H' vals sg kvs' → kvs'.length ≤ kvs.length + 1 → valV kvs' (keyN sl su) = some v → D.nx σ H') : tTail P w D σ H := by
  obtain ⟨φ, hφ⟩ := kd.ext
  refine ⟨v, h6, .ref d, h4, .ref ky, h5, d, ky, kvs, sl, su, rfl, rfl, ka, kd, Nat.lt_of_lt_of_le (by omega : kvs.length < 6000) (by decide), fun H4 kd4 sb => ?_⟩
  have s4 : SB d H H4 := fun b ob hb e => sb b ob hb e
  have z := length_putK kvs (keyN sl su) v
  have bd4 : BestD H4 vals sg (putK kvs (keyN sl su) v) := (bd.sb s4 hφ rfl).put (pa.sb s4 hφ rfl) ib
  refine ⟨.ref d, h4, d, _, rfl, kd4, _, 6000, rfl, rfl, _, rfl, ite2 (fun c => ?_) (fun _ => ?_)⟩
  · have c' := of_decide_eq_true c
    omega
  · refine fin H4 _ s4 kd4 bd4 z ?_
    rw [valV_put, if_pos rfl]
theorem best_of_items {vals sl su : List Nat} {sg : Int} {k i : Nat} {cs : List (Int × List Nat)} {m : Int} {u : List Nat} (C : CandOk vals sg k sl su su.length cs) (hc : cs[i]? = some (m, u)) (hmin : ∀ z ∈ cs.map pq, DatumOrd.lt z (pq (m, u)) = false) : IsBest vals sg (k + 1) sl su m u :=
  C.best (List.mem_of_getElem? hc) fun c hcm => by
    have z := hmin (pq c) (List.mem_map.mpr ⟨c, hcm, rfl⟩)
    rw [ltQ_is] at z
    exact z
theorem ok_best {f f4 : Addr} {fd fd4 : FuncData} (D : Dn K mg "best_of" sBestOf ["values", "slate", "supply", "sign", "known"] f fd) (D4 : Dn K mg "stepped" sStepped ["values", "slate", "letter"] f4 fd4) (B : Bt mg) (C : Ct mg) (sg : Int) :
    ∀ k : Nat, FnOk P w K mg base CX0 (k + 2) f fd ["values", "slate", "supply", "sign", "known"] (spBest P w K sg k) := by
  have G4 : FnOk P w K mg base CX0 1 f4 fd4 ["values", "slate", "letter"] (spStepped K) := ok_stepped D4 B
  intro k
  induction k with
  | zero =>
    refine D.F.ok scBestOf (fun vs H Q E h => ?_) (fun cdv A outer s H vs Q E hr h => ?_)
    · obtain ⟨a, b, c, d, vals, sl, su, kvs, rfl, _⟩ := h
      rfl
    · obtain ⟨a, b, c, d, vals, sl, su, kvs, rfl, ta, tb, tc, kd, bd, hv, h4, hsl, hsum, hz, hk, q⟩ := h
      refine ⟨_, pss_cons (ps_set (i := 5) scBestOf.nd rfl (.inl rfl) (pe_tup (pa_cons (pv 1) (pa_cons (pv 2) pa_nil))))
        (pss_cons (ps_if (pt_cmp (pc_knotin hr (pv 5) (pv 4)) (by rfl))
          (pss_cons (ps_set (i := 6) scBestOf.nd rfl (.inl rfl) (pe_tup (pa_cons pe_int (pa_cons (pe_tup pa_nil) pa_nil))))
          (pss_cons (ps_if (pt_cmpR op_gt (pe_callB (cr_sumT rfl) (by rfl) B.sum (by decide +kernel) (pa_cons (pv 2) pa_nil)) pe_int (nomark _)) pss_never pss_nil)
          (pss_cons (ps_kput hr (pv 4) (pv 5) (pv 6) rfl)
          (pss_one (ps_if (pt_cmpR op_gt (pe_callB call_klen (by rfl) B.len PySem.boot_len (pa_cons (pv 4) pa_nil)) (pe_ct C.states) (nomark _)) pss_never pss_nil))))) pss_nil)
        (pss_one (ps_ret (pe_kget hr (pv 4) (pv 5) (fun _ _ => rfl))))), ?_⟩
      refine ⟨.ref b, rfl, .ref c, rfl, (show 2 ≤ sizeLine by decide), fun ky hky => ?_⟩
      have s1 : Same H (upd H ky (.tup [.ref b, .ref c])) := same_new hky
      have ka : KeyAt (upd H ky (.tup [.ref b, .ref c])) ky sl su := ⟨b, c, upd_same, tb.same s1, tc.same s1⟩
      have kd1 := kd.same s1
      have bd1 := bd.same s1
      refine ⟨.ref ky, rfl, .ref d, rfl, d, ky, kvs, sl, su, rfl, rfl, ka, kd1, _, rfl, ite2 (fun cn => ?_) (fun cn => ?_)⟩
      · -- not there
        refine ⟨Nat.zero_le _, fun e0 he0 => ⟨(show 2 ≤ sizeLine by decide), fun p0 hp0 => ?_⟩⟩
        have s2 : Same (upd H ky (.tup [.ref b, .ref c])) (upd (upd H ky (.tup [.ref b, .ref c])) e0 (.tup [])) := same_new he0
        have s3 : Same (upd (upd H ky (.tup [.ref b, .ref c])) e0 (.tup [])) (upd (upd (upd H ky (.tup [.ref b, .ref c])) e0 (.tup [])) p0 (.tup [.int 0, .ref e0])) := same_new hp0
        have s13 := (s1.trans s2).trans s3
        refine ⟨.ref c, rfl, c, nz su, rfl, (tc.same s13).sq, (nz su).sum, 0, rfl, rfl, _, rfl, ite2 (fun cp => ?_) (fun _ => ?_)⟩
        · have c' := of_decide_eq_true cp
          rw [nz_sum, hsum] at c'
          exact absurd c' (by decide)
        · have pr : PairAt (upd (upd (upd H ky (.tup [.ref b, .ref c])) e0 (.tup [])) p0 (.tup [.int 0, .ref e0])) (.ref p0) ((0 : Int), []) := ⟨p0, e0, rfl, upd_same, Tw.of (s3 _ _ upd_same)⟩
          have ib : IsBest vals sg su.sum sl su 0 [] := by rw [hsum]; exact best_zero vals sg sl su
          refine tail_read (P := P) (w := w) (vals := vals) (sg := sg) (sl := sl) (su := su) rfl rfl rfl (ka.same (s2.trans s3)) (kd1.same (s2.trans s3)) (bd1.same (s2.trans s3)) pr ib (by have : calls 0 = 1 := rfl; omega) fun H' kvs' sb kd' bd' hl' hg => ?_
          obtain ⟨φ, hφ⟩ := (kd1.same (s2.trans s3)).ext
          have ka' := (ka.same (s2.trans s3)).sb sb hφ rfl
          refine ⟨.ref d, rfl, .ref ky, rfl, d, ky, kvs', sl, su, .ref p0, rfl, rfl, ka', kd', hg, ?_⟩
          refine q H' (.ref p0) 0 [] kvs' ((SB.of s13).trans sb) kd' bd' (by have : calls 0 = 1 := rfl; omega) (pr.sb sb hφ rfl) (best_zero vals sg sl su)
      · -- there
        have hs : ∃ v, valV kvs (keyN sl su) = some v := by
          cases e : valV kvs (keyN sl su) with
          | some v => exact ⟨v, rfl⟩
          | none =>
            rw [e] at cn
            exact absurd rfl cn
        obtain ⟨v, hg⟩ := hs
        obtain ⟨m, u, pr, ib⟩ := bd1 sl su v hg
        rw [hsum] at ib
        exact ⟨.ref d, rfl, .ref ky, rfl, d, ky, kvs, sl, su, v, rfl, rfl, ka, kd1, hg, q _ v m u kvs (SB.of s1) kd1 bd1 (Nat.le_add_right _ _) pr ib⟩
  | succ k ih =>
    refine D.F.ok scBestOf (fun vs H Q E h => ?_) (fun cdv A outer s H vs Q E hr h => ?_)
    · obtain ⟨a, b, c, d, vals, sl, su, kvs, rfl, _⟩ := h
      rfl
    · obtain ⟨a, b, c, d, vals, sl, su, kvs, rfl, ta, tb, tc, kd, bd, hv, h4, hsl, hsum, hz, hk, q⟩ := h
      have hr1 : Room 1 _ := hr.mono (by omega)
      refine ⟨_, pss_cons (ps_set (i := 5) scBestOf.nd rfl (.inl rfl) (pe_tup (pa_cons (pv 1) (pa_cons (pv 2) pa_nil))))
        (pss_cons (ps_if (pt_cmp (pc_knotin hr (pv 5) (pv 4)) (by rfl))
          (pss_cons (ps_set (i := 6) scBestOf.nd rfl (.inl rfl) (pe_tup (pa_cons pe_int (pa_cons (pe_tup pa_nil) pa_nil))))
          (pss_cons (ps_if (pt_cmpR op_gt (pe_callB (cr_sumT rfl) (by rfl) B.sum (by decide +kernel) (pa_cons (pv 2) pa_nil)) pe_int (nomark _))
            (pss_cons (ps_set (i := 7) scBestOf.nd rfl (.inl rfl) (pe_lst pa_nil))
            (pss_cons (ps_for PassesOwn.never rfl (pi_range1 rfl B.range (pa_cons (pe_callB call_len (by rfl) B.len PySem.boot_len (pa_cons (pv 0) pa_nil)) pa_nil)) (pg_name (i := 8) scBestOf.nd rfl (.inl rfl))
              (pss_one (ps_if (pt_cmpR op_gt (pe_ix ix_tup (pv 2) (pv 8) (fun _ _ => rfl)) pe_int (nomark _))
                (pss_cons (ps_set (i := 9) scBestOf.nd rfl (.inl rfl) (pe_op op_catA (pe_op op_catA (pe_slice sl_tupA (pv 2) po_none (po_some (pv 8))) (pe_tup (pa_cons (pe_op op_sub (pe_ix ix_tup (pv 2) (pv 8) (fun _ _ => rfl)) pe_int) pa_nil))) (pe_slice sl_tupA (pv 2) (po_some (pe_op op_add (pv 8) pe_int)) po_none)))
                (pss_cons (ps_asg (pe_call ih hr (by rfl) D.g D.F.kp D.b .nil pass0 (pa_cons (pv 0) (pa_cons (pe_ix ix_tup (pe_call G4 hr1 (by rfl) D4.g D4.F.kp D4.b .nil pass0 (pa_cons (pv 0) (pa_cons (pv 1) (pa_cons (pv 8) pa_nil)))) pe_int (fun _ _ => rfl)) (pa_cons (pv 9) (pa_cons (pv 3) (pa_cons (pv 4) pa_nil))))))
                  (pg_tup rfl (pgs_cons (pg_name (i := 10) scBestOf.nd rfl (.inl rfl)) (pgs_cons (pg_name (i := 11) scBestOf.nd rfl (.inl rfl)) pgs_nil))))
                (pss_one (ps_expr (pe_bm PySem.F.plainAttrs_list PySem.F.slot_list_append PySem.F.type_list_append mt_append (pv 7) (pa_cons (pe_tup (pa_cons (pe_op op_sub (pv 10) (pe_op op_mul (pv 3) (pe_callTy call_int1 (by rfl) B.int (by decide +kernel) (pa_cons (pe_cmpR op_in_seq (pv 8) (pv 1) (by rfl)) pa_nil))))
                  (pa_cons (pe_op op_catA (pe_tup (pa_cons (pv 8) pa_nil)) (pv 11)) pa_nil))) pa_nil)))))) pss_nil)))
            (pss_one (ps_set (i := 6) scBestOf.nd rfl (.inl rfl) (pe_callB (cr_minD (Int × Tup Int) rfl hr (by decide) ordQ) (by rfl) B.min (by decide +kernel) (pa_cons (pv 7) pa_nil)))))) pss_nil)
          (pss_cons (ps_kput hr (pv 4) (pv 5) (pv 6) rfl)
          (pss_one (ps_if (pt_cmpR op_gt (pe_callB call_klen (by rfl) B.len PySem.boot_len (pa_cons (pv 4) pa_nil)) (pe_ct C.states) (nomark _)) pss_never pss_nil))))) pss_nil)
        (pss_one (ps_ret (pe_kget hr (pv 4) (pv 5) (fun _ _ => rfl))))), ?_⟩
      refine ⟨.ref b, rfl, .ref c, rfl, (show 2 ≤ sizeLine by decide), fun ky hky => ?_⟩
      have s1 : Same H (upd H ky (.tup [.ref b, .ref c])) := same_new hky
      have ka : KeyAt (upd H ky (.tup [.ref b, .ref c])) ky sl su := ⟨b, c, upd_same, tb.same s1, tc.same s1⟩
      have kd1 := kd.same s1
      have bd1 := bd.same s1
      refine ⟨.ref ky, rfl, .ref d, rfl, d, ky, kvs, sl, su, rfl, rfl, ka, kd1, _, rfl, ite2 (fun cn => ?_) (fun cn => ?_)⟩
      · refine ⟨Nat.zero_le _, fun e0 he0 => ⟨(show 2 ≤ sizeLine by decide), fun p0 hp0 => ?_⟩⟩
        have s2 : Same (upd H ky (.tup [.ref b, .ref c])) (upd (upd H ky (.tup [.ref b, .ref c])) e0 (.tup [])) := same_new he0
        have s3 : Same (upd (upd H ky (.tup [.ref b, .ref c])) e0 (.tup [])) (upd (upd (upd H ky (.tup [.ref b, .ref c])) e0 (.tup [])) p0 (.tup [.int 0, .ref e0])) := same_new hp0
        have s13 := (s1.trans s2).trans s3
        generalize upd (upd (upd H ky (.tup [.ref b, .ref c])) e0 (.tup [])) p0 (.tup [.int 0, .ref e0]) = H3 at s3 s13 ⊢
        have ka3 := ka.same (s2.trans s3)
        have kd3 := kd1.same (s2.trans s3)
        have bd3 := bd1.same (s2.trans s3)
        refine ⟨.ref c, rfl, c, nz su, rfl, (tc.same s13).sq, (nz su).sum, 0, rfl, rfl, _, rfl, ite2 (fun _ => ?_) (fun cp => ?_)⟩
        · -- some = []
          refine ⟨Nat.zero_le _, fun so hso => ?_⟩
          have ta3 := ta.same s13
          have tb3 := tb.same s13
          have tc3 := tc.same s13
          refine ⟨.ref a, rfl, .ref a, (lv vals).length, rfl, .inr ⟨_, (ta3.same (same_new hso)).sq, rfl⟩, ((lv vals).length : Int), rfl, by omega, by rw [lv_len]; omega, ?_⟩
          refine for_range (lo := 0) (n := ((lv vals).length : Int).toNat) (fun i σ H' => ∃ y8 y9 y10 y11 vs' cs kvs', σ = [some (.ref a), some (.ref b), some (.ref c), some (.int sg), some (.ref d), some (.ref ky), some (.ref p0), some (.ref so), y8, y9, y10, y11] ∧
            SB d H3 H' ∧ KD P w H' d kvs' ∧ BestD H' vals sg kvs' ∧ kvs'.length ≤ kvs.length + i * calls k ∧ H' so = some (.lst vs') ∧ PairsAt H' vs' cs ∧ cs.length ≤ i ∧ CandOk vals sg k sl su i cs)
            ⟨none, none, none, none, [], [], kvs, rfl, SB.of (same_new hso), kd3.same (same_new hso), bd3.same (same_new hso), by omega, upd_same, .nil, Nat.le_refl _, CandOk.zero vals sg k sl su⟩ (fun i σ H' hi hp => ?_) (fun σ H' hp => ?_)
          · -- a turn
            obtain ⟨y8, y9, y10, y11, vs', cs, kvs', rfl, sm, kd', bd', hl', hs', pr, hcs, cd⟩ := hp
            rw [Int.toNat_natCast, lv_len] at hi
            rw [Int.zero_add]
            obtain ⟨φ, hφ⟩ := kd3.ext
            obtain ⟨φ', hφ'⟩ := kd'.ext
            have ta' := ta3.sb sm hφ rfl
            have tb' := tb3.sb sm hφ rfl
            have tc' := tc3.sb sm hφ rfl
            have dne : so ≠ d := ne_of hs' hφ' (fun z => nomatch z)
            have his : i < su.length := by omega
            obtain ⟨n, hn⟩ : ∃ n, su[i]? = some n := ⟨su[i], List.getElem?_eq_getElem his⟩
            have hgd : su.getD i 0 = n := by rw [List.getD_eq_getElem?_getD, hn]; rfl
            have hC : i * calls k + calls k ≤ 4 * calls k := by
              have z : (i + 1) * calls k ≤ 4 * calls k := Nat.mul_le_mul_right _ (by omega)
              rwa [Nat.succ_mul] at z
            have hcs' : calls (k + 1) = 1 + 4 * calls k := rfl
            refine ⟨.ref c, rfl, .int (i : Int), rfl, c, lv su, (i : Int), .int (n : Int), rfl, rfl, tc'.sq, atI_nat (lv_at hn), (n : Int), 0, rfl, rfl, _, rfl, ite2 (fun cp => ?_) (fun cp => ?_)⟩
            · have hpos : 0 < su.getD i 0 := by
                have z := of_decide_eq_true cp
                rw [hgd]
                omega
              have en : (n : Int) - 1 = ((n - 1 : Nat) : Int) := by rw [hgd] at hpos; omega
              -- rest
              refine ⟨.ref c, rfl, .int (i : Int), rfl, (i : Int), rfl, ?_⟩
              refine slTake tc' i fun r1 H4 s4 t4 => ?_
              refine ⟨.ref c, rfl, .int (i : Int), rfl, c, lv su, (i : Int), .int (n : Int), rfl, rfl, (tc'.same s4).sq, atI_nat (lv_at hn), (n : Int), 1, rfl, rfl, Nat.succ_le_of_lt (small1000 (Nat.zero_le _)), fun r2 hr2 => ?_⟩
              have t5 : Tw (upd H4 r2 (.tup [.int ((n : Int) - 1)])) r2 [n - 1] := by
                rw [en]
                exact Tw.of upd_same
              have s5 : Same H4 (upd H4 r2 (.tup [.int ((n : Int) - 1)])) := same_new hr2
              refine cat_tw (t4.same s5) t5 (by rw [List.length_singleton]; have := List.length_take_le i su; omega) fun r3 H6 s6 t6 => ?_
              refine ⟨.ref c, rfl, .int (i : Int), rfl, (i : Int), 1, rfl, rfl, ((i + 1 : Nat) : Int), rfl, ?_⟩
              have s46 := (s4.trans s5).trans s6
              refine slDropN (tc'.same s46) (i + 1) fun r4 H7 s7 t7 => ?_
              refine cat_tw (t6.same s7) t7 (by rw [List.length_append, List.length_singleton, List.length_drop]; have := List.length_take_le i su; omega) fun r5 H8 s8 t8 => ?_
              have s48 := (s46.trans s7).trans s8
              have td : Tw H8 r5 (dec su i) := by
                rw [← dec_cut his, hgd]
                exact t8
              -- the call
              refine ⟨.ref a, rfl, .ref a, rfl, .ref b, rfl, .int (i : Int), rfl, a, b, vals, sl, i, rfl, ta'.same s48, tb'.same s48, hi, fun v hv' => (hv.each v hv').1, by omega, fun H9 p9 q9 x9 s9 hp9 tq9 => ?_⟩
              refine ⟨p9, [.ref q9, x9], 0, .ref q9, rfl, rfl, SqT.of hp9, atI_nat (j := 0) rfl, .ref r5, rfl, .int sg, rfl, .ref d, rfl, ?_⟩
              have s49 := s48.trans s9
              have dsum := dec_sum su i hpos
              have slen := stepN_len vals sl i
              refine ⟨a, q9, r5, d, vals, stepN vals sl i, dec su i, kvs', rfl, ta'.same s49, tq9, td.same s9, kd'.same s49, bd'.same s49, hv, h4, by rw [dec_len]; exact hsl, by omega, by omega, by omega, fun H10 v m u kvs'' sb10 kd10 bd10 hl10 pa10 ib10 => ?_⟩
              obtain ⟨p10, q10, ev, hp10, tq10⟩ := pa10
              subst ev
              obtain ⟨φ9, hφ9⟩ := (kd'.same s49).ext
              obtain ⟨φ10, hφ10⟩ := kd10.ext
              have sb' : SB d H' H10 := (SB.of s49).trans sb10
              refine ⟨p10, [.int m, .ref q10], rfl, SqT.of hp10, rfl, .int m, [.ref q10], rfl, .ref q10, [], rfl, rfl, ?_⟩
              -- append
              have hs10 : H10 so = some (.lst vs') := sb' _ _ dne hs'
              have tb10 : Tw H10 b sl := tb'.sb sb' hφ' rfl
              refine ⟨.ref so, rfl, .inl ⟨rfl, _, SqL.of hs10⟩, .int m, rfl, .int sg, rfl, .int (i : Int), rfl, .ref b, rfl, b, lv sl, rfl, .inr tb10.sq, rfl, lv_flat _, .inr ⟨_, rfl, ?_⟩⟩
              have ei : (if (if false = true then !inV (V.int (i : Int)) (lv sl) else inV (V.int (i : Int)) (lv sl)) = true then (1 : Int) else 0) = ind sl i := by
                rw [if_neg Bool.false_ne_true, lv_in]
                unfold ind
                by_cases z : i ∈ sl
                · rw [if_pos z, if_pos (decide_eq_true z)]
                · rw [if_neg z, if_neg (by simpa using z)]
              have e1 : -(2 ^ 64) < ind sl i ∧ ind sl i < 2 ^ 64 := by
                unfold ind
                by_cases z : i ∈ sl
                · rw [if_pos z]; decide
                · rw [if_neg z]; decide
              rw [ei]
              refine ⟨sg, ind sl i, rfl, rfl, .inr e1, m, sg * ind sl i, rfl, rfl, .int (i : Int), rfl, Nat.succ_le_of_lt (small1000 (Nat.zero_le _)), fun r11 hr11 => ⟨.ref q10, rfl, ?_⟩⟩
              have s11 : Same H10 (upd H10 r11 (.tup [.int (i : Int)])) := same_new hr11
              have t11 : Tw (upd H10 r11 (.tup [.int (i : Int)])) r11 [i] := Tw.of upd_same
              have wl := (arrN_word k (dec su i) u ib10.mem).1
              refine cat_tw t11 (tq10.same s11) (by rw [List.length_singleton]; show 1 + u.length ≤ 1000; omega) fun r12 H12 s12 t12 => ?_
              refine ⟨(show 2 ≤ sizeLine by decide), fun p13 hp13 => ?_⟩
              have s13' : Same H10 (upd H12 p13 (.tup [.int (m - sg * ind sl i), .ref r12])) := (s11.trans s12).trans (same_new hp13)
              have hs13 := s13' _ _ hs10
              have vl := pr.len
              refine ⟨so, vs', _, rfl, rfl, hs13, small1000 (by omega), ?_⟩
              -- the turn's end
              have pn : PairAt (upd H12 p13 (.tup [.int (m - sg * ind sl i), .ref r12])) (.ref p13) (m - sg * ind sl i, i :: u) := ⟨p13, r12, rfl, upd_same, t12.same (same_new hp13)⟩
              have sU : SB so (upd H12 p13 (.tup [.int (m - sg * ind sl i), .ref r12])) (upd (upd H12 p13 (.tup [.int (m - sg * ind sl i), .ref r12])) so (.lst (vs' ++ [.ref p13]))) := SB.upd
              have prU : PairsAt (upd (upd H12 p13 (.tup [.int (m - sg * ind sl i), .ref r12])) so (.lst (vs' ++ [.ref p13]))) vs' cs := Paired.mapP pr fun v c z => (((z.sb sb' hφ' rfl).same s13').sb sU hs13 rfl)
              refine ⟨_, _, _, _, vs' ++ [.ref p13], cs ++ [(m - sg * ind sl i, i :: u)], kvs'', rfl, fun b' o hb' e => ?_, (kd10.same s13').sb sU hs13 rfl (Ne.symm dne), (bd10.same s13').sb sU hs13 rfl, by rw [Nat.succ_mul]; omega, upd_same, prU.snoc (pn.sb sU hs13 rfl), by rw [List.length_append, List.length_singleton]; omega, cd.put hpos ib10⟩
              have hbs : b' ≠ so := ne_of_none e hso
              rw [upd_ne hbs]
              exact s13' _ _ (sb' _ _ hb' (sm _ _ hb' e))
            · have hneg : ¬ 0 < su.getD i 0 := fun z => cp (decide_eq_true (by rw [hgd] at z; omega))
              refine ⟨_, _, _, _, vs', cs, kvs', rfl, sm, kd', bd', by rw [Nat.succ_mul]; omega, hs', pr, by omega, cd.skip hneg⟩
          · -- found = min(some)
            obtain ⟨y8, y9, y10, y11, vs', cs, kvs', rfl, sm, kd', bd', hl', hs', pr, hcs, cd⟩ := hp
            rw [Int.toNat_natCast, lv_len] at hl' hcs cd
            have cd' : CandOk vals sg k sl su su.length cs := by rw [hsl]; exact cd
            obtain ⟨φ, hφ⟩ := kd3.ext
            obtain ⟨φ', hφ'⟩ := kd'.ext
            have hne : cs.map pq ≠ [] := fun z => cd'.some (by omega) (List.map_eq_nil_iff.mp z)
            refine ⟨.ref so, rfl, so, vs', cs.map pq, rfl, SqL.of hs', pairs_dp pr, hne, fun i y x hy hx hmin => ?_⟩
            obtain ⟨c0, hc0, ex⟩ : ∃ c0, cs[i]? = some c0 ∧ x = pq c0 := by
              rw [List.getElem?_map] at hx
              obtain ⟨c0, h1, h2⟩ := Option.map_eq_some_iff.mp hx
              exact ⟨c0, h1, h2.symm⟩
            subst ex
            obtain ⟨m, u⟩ := c0
            have ib := best_of_items cd' hc0 hmin
            have pn := pr.at hy hc0
            have hC : vals.length * calls k ≤ 4 * calls k := Nat.mul_le_mul_right _ h4
            have hcs' : calls (k + 1) = 1 + 4 * calls k := rfl
            refine tail_read (P := P) (w := w) (vals := vals) (sg := sg) (sl := sl) (su := su) rfl rfl rfl (ka3.sb sm hφ rfl) kd' bd' pn (by rw [hsum]; exact ib) (by omega) fun H5 kvs5 sb5 kd5 bd5 hl5 hg => ?_
            refine ⟨.ref d, rfl, .ref ky, rfl, d, ky, kvs5, sl, su, y, rfl, rfl, (ka3.sb sm hφ rfl).sb sb5 hφ' rfl, kd5, hg, ?_⟩
            exact q H5 y m u kvs5 (((SB.of s13).trans sm).trans sb5) kd5 bd5 (by omega) (pn.sb sb5 hφ' rfl) ib
        · refine absurd (decide_eq_true ?_) cp
          rw [nz_sum, hsum]
          omega
      · have hs : ∃ v, valV kvs (keyN sl su) = some v := by
          cases e : valV kvs (keyN sl su) with
          | some v => exact ⟨v, rfl⟩
          | none =>
            rw [e] at cn
            exact absurd rfl cn
        obtain ⟨v, hg⟩ := hs
        obtain ⟨m, u, pr, ib⟩ := bd1 sl su v hg
        rw [hsum] at ib
        exact ⟨.ref d, rfl, .ref ky, rfl, d, ky, kvs, sl, su, v, rfl, rfl, ka, kd1, hg, q _ v m u kvs (SB.of s1) kd1 bd1 (Nat.le_add_right _ _) pr ib⟩
end
end Fw
namespace Fw
open PySem PySem.Spec PyProof.Rows L2 FW
section
variable {P : Program} {w : World} {K : PySem.W.Frag} {mg : Str → Option Value} {base : Heap}
/-! ### most_met, fewest_met -/
def spMostF (K : PySem.W.Frag) (sg : Int) (g : Int → Int) : Sp := fun vs H Q _ => ∃ (a b c : Addr) (vals sl su : List Nat), vs = [.ref a, .ref b, .ref c] ∧ Tw H a vals ∧ Tw H b sl ∧ Tw H c su ∧ ValOk vals ∧ vals.length ≤ 4 ∧ su.length = vals.length ∧ su.sum ≤ 6 ∧ sl.length ≤ 12 ∧ (∀ x ∈ sl, x < vals.length) ∧
  ∀ H' v m u, Same H H' → PairAt H' v (g m, u) → IsBest vals sg su.sum sl su m u → Q v H'
/-- the addresses and texts of the checks -/
structure Chk (K : PySem.W.Frag) (mg : Str → Option Value) (f1 f2 f3 f4 f5 f6 f7 f8 f9 f10 : Addr) (d1 d2 d3 d4 d5 d6 d7 d8 d9 d10 : FuncData) : Prop where
  nv : Dn K mg "need_values" sNeedValues ["value"] f1 d1
  ns : Dn K mg "need_slate" sNeedSlate ["values", "slate"] f2 d2
  nw : Dn K mg "need_word" sNeedWord ["values", "word"] f3 d3
  st : Dn K mg "stepped" sStepped ["values", "slate", "letter"] f4 d4
  tu : Dn K mg "tuple_of" sTupleOf ["value", "low", "high"] f5 d5
  wr : Dn K mg "wrong_letter" sWrongLetter ["many", "value"] f6 d6
  wi : Dn K mg "within" sWithin ["value", "low", "high"] f7 d7
  wh : Dn K mg "whole" sWhole ["value"] f8 d8
  su : Dn K mg "need_supply" sNeedSupply ["values", "supply"] f9 d9
  be : Dn K mg "best_of" sBestOf ["values", "slate", "supply", "sign", "known"] f10 d10
variable {f1 f2 f3 f4 f5 f6 f7 f8 f9 f10 : Addr} {d1 d2 d3 d4 d5 d6 d7 d8 d9 d10 : FuncData}
theorem ok_most {f : Addr} {fd : FuncData} (D : Dn K mg "most_met" sMost ["values", "slate", "supply"] f fd) (Z : Chk K mg f1 f2 f3 f4 f5 f6 f7 f8 f9 f10 d1 d2 d3 d4 d5 d6 d7 d8 d9 d10) (B : Bt mg) (C : Ct mg) :
    FnOk P w K mg base CX0 9 f fd ["values", "slate", "supply"] (spMostF K 1 fun m => -m) := by
  have G1 : FnOk P w K mg base CX0 3 f1 d1 ["value"] (spNeedValues K) := ok_needValues Z.nv Z.tu Z.wi Z.wh B C
  have G2 : FnOk P w K mg base CX0 4 f2 d2 ["values", "slate"] (spNeedW K 12) := ok_needSlate Z.ns Z.tu Z.wr Z.wi Z.wh B C
  have G3 : FnOk P w K mg base CX0 3 f9 d9 ["values", "supply"] (spNeedSu K) := ok_needSu Z.su Z.tu Z.wi Z.wh B C
  refine D.F.ok scMost (fun vs H Q E h => ?_) (fun cdv A outer s H vs Q E hr h => ?_)
  · obtain ⟨a, b, c, vals, sl, su, rfl, _⟩ := h
    rfl
  · obtain ⟨a, b, c, vals, sl, su, rfl, ta, tb, tc, hv, h4, hsl, hsum, hz, hls, q⟩ := h
    have hr3 : Room 3 _ := hr.mono (by decide)
    have hr4 : Room 4 _ := hr.mono (by decide)
    have G4 : FnOk P w K mg base CX0 8 f10 d10 ["values", "slate", "supply", "sign", "known"] (spBest P w K 1 su.sum) := (ok_best Z.be Z.st B C 1 su.sum).mono (by omega)
    refine ⟨_, pss_cons (ps_expr (pe_call G1 hr3 (by rfl) Z.nv.g Z.nv.F.kp Z.nv.b .nil pass0 (pa_cons (pv 0) pa_nil)))
      (pss_cons (ps_expr (pe_call G2 hr4 (by rfl) Z.ns.g Z.ns.F.kp Z.ns.b .nil pass0 (pa_cons (pv 0) (pa_cons (pv 1) pa_nil))))
      (pss_cons (ps_expr (pe_call G3 hr3 (by rfl) Z.su.g Z.su.F.kp Z.su.b .nil pass0 (pa_cons (pv 0) (pa_cons (pv 2) pa_nil))))
      (pss_cons (ps_asg (pe_call G4 hr (by rfl) Z.be.g Z.be.F.kp Z.be.b .nil pass0 (pa_cons (pv 0) (pa_cons (pv 1) (pa_cons (pv 2) (pa_cons pe_int (pa_cons pe_knew pa_nil))))))
        (pg_tup rfl (pgs_cons (pg_name (i := 3) scMost.nd rfl (.inl rfl)) (pgs_cons (pg_name (i := 4) scMost.nd rfl (.inl rfl)) pgs_nil))))
      (pss_one (ps_ret (pe_tup (pa_cons (pe_un un_neg (pv 3)) (pa_cons (pv 4) pa_nil)))))))), ?_⟩
    refine ⟨.ref a, rfl, a, vals, rfl, ta, hv, fun H1 s1 => ?_⟩
    refine ⟨.ref a, rfl, .ref b, rfl, a, b, vals, sl, rfl, ta.same s1, tb.same s1, hz, hls, fun H2 s2 => ?_⟩
    have s12 := s1.trans s2
    refine ⟨.ref a, rfl, .ref c, rfl, a, c, vals, su, rfl, ta.same s12, tc.same s12, hsl, by omega, by omega, fun H3 s3 => ?_⟩
    have s13 := s12.trans s3
    refine ⟨.ref a, rfl, .ref b, rfl, .ref c, rfl, fun d hd H4 e4 kd s4 => ?_⟩
    have s14 := s13.trans s4
    have hcl : calls su.sum ≤ 5461 := calls_six ▸ calls_mono hsum
    refine ⟨a, b, c, d, vals, sl, su, [], rfl, ta.same s14, tb.same s14, tc.same s14, kd, (fun _ _ _ z => by cases z), hv, h4, hsl, rfl, by omega, (by show 0 + calls su.sum ≤ 6000; omega), fun H5 v m u kvs5 sb5 kd5 bd5 hl5 pa5 ib => ?_⟩
    obtain ⟨p, q', ev, hp, tq⟩ := pa5
    subst ev
    refine ⟨p, [.int m, .ref q'], rfl, SqT.of hp, rfl, .int m, [.ref q'], rfl, .ref q', [], rfl, rfl, ?_⟩
    refine ⟨.int m, rfl, m, rfl, .ref q', rfl, (show 2 ≤ sizeLine by decide), fun p6 hp6 => ?_⟩
    refine q _ (.ref p6) m u (fun b' o e => ?_) ⟨p6, q', rfl, upd_same, tq.same (same_new hp6)⟩ ib
    have e3 := s13 b' o e
    have ne : b' ≠ d := ne_of_none e3 hd
    exact same_new hp6 _ _ (sb5 _ _ ne (s4 _ _ e3))
theorem ok_fewest {f : Addr} {fd : FuncData} (D : Dn K mg "fewest_met" sFewest ["values", "slate", "supply"] f fd) (Z : Chk K mg f1 f2 f3 f4 f5 f6 f7 f8 f9 f10 d1 d2 d3 d4 d5 d6 d7 d8 d9 d10) (B : Bt mg) (C : Ct mg) :
    FnOk P w K mg base CX0 9 f fd ["values", "slate", "supply"] (spMostF K (-1) fun m => m) := by
  have G1 : FnOk P w K mg base CX0 3 f1 d1 ["value"] (spNeedValues K) := ok_needValues Z.nv Z.tu Z.wi Z.wh B C
  have G2 : FnOk P w K mg base CX0 4 f2 d2 ["values", "slate"] (spNeedW K 12) := ok_needSlate Z.ns Z.tu Z.wr Z.wi Z.wh B C
  have G3 : FnOk P w K mg base CX0 3 f9 d9 ["values", "supply"] (spNeedSu K) := ok_needSu Z.su Z.tu Z.wi Z.wh B C
  refine D.F.ok scFewest (fun vs H Q E h => ?_) (fun cdv A outer s H vs Q E hr h => ?_)
  · obtain ⟨a, b, c, vals, sl, su, rfl, _⟩ := h
    rfl
  · obtain ⟨a, b, c, vals, sl, su, rfl, ta, tb, tc, hv, h4, hsl, hsum, hz, hls, q⟩ := h
    have hr3 : Room 3 _ := hr.mono (by decide)
    have hr4 : Room 4 _ := hr.mono (by decide)
    have G4 : FnOk P w K mg base CX0 8 f10 d10 ["values", "slate", "supply", "sign", "known"] (spBest P w K (-1) su.sum) := (ok_best Z.be Z.st B C (-1) su.sum).mono (by omega)
    refine ⟨_, pss_cons (ps_expr (pe_call G1 hr3 (by rfl) Z.nv.g Z.nv.F.kp Z.nv.b .nil pass0 (pa_cons (pv 0) pa_nil)))
      (pss_cons (ps_expr (pe_call G2 hr4 (by rfl) Z.ns.g Z.ns.F.kp Z.ns.b .nil pass0 (pa_cons (pv 0) (pa_cons (pv 1) pa_nil))))
      (pss_cons (ps_expr (pe_call G3 hr3 (by rfl) Z.su.g Z.su.F.kp Z.su.b .nil pass0 (pa_cons (pv 0) (pa_cons (pv 2) pa_nil))))
      (pss_cons (ps_asg (pe_call G4 hr (by rfl) Z.be.g Z.be.F.kp Z.be.b .nil pass0 (pa_cons (pv 0) (pa_cons (pv 1) (pa_cons (pv 2) (pa_cons (pe_un un_neg pe_int) (pa_cons pe_knew pa_nil))))))
        (pg_tup rfl (pgs_cons (pg_name (i := 3) scFewest.nd rfl (.inl rfl)) (pgs_cons (pg_name (i := 4) scFewest.nd rfl (.inl rfl)) pgs_nil))))
      (pss_one (ps_ret (pe_tup (pa_cons (pv 3) (pa_cons (pv 4) pa_nil)))))))), ?_⟩
    refine ⟨.ref a, rfl, a, vals, rfl, ta, hv, fun H1 s1 => ?_⟩
    refine ⟨.ref a, rfl, .ref b, rfl, a, b, vals, sl, rfl, ta.same s1, tb.same s1, hz, hls, fun H2 s2 => ?_⟩
    have s12 := s1.trans s2
    refine ⟨.ref a, rfl, .ref c, rfl, a, c, vals, su, rfl, ta.same s12, tc.same s12, hsl, by omega, by omega, fun H3 s3 => ?_⟩
    have s13 := s12.trans s3
    refine ⟨.ref a, rfl, .ref b, rfl, .ref c, rfl, 1, rfl, fun d hd H4 e4 kd s4 => ?_⟩
    have s14 := s13.trans s4
    have hcl : calls su.sum ≤ 5461 := calls_six ▸ calls_mono hsum
    refine ⟨a, b, c, d, vals, sl, su, [], rfl, ta.same s14, tb.same s14, tc.same s14, kd, (fun _ _ _ z => by cases z), hv, h4, hsl, rfl, by omega, (by show 0 + calls su.sum ≤ 6000; omega), fun H5 v m u kvs5 sb5 kd5 bd5 hl5 pa5 ib => ?_⟩
    obtain ⟨p, q', ev, hp, tq⟩ := pa5
    subst ev
    refine ⟨p, [.int m, .ref q'], rfl, SqT.of hp, rfl, .int m, [.ref q'], rfl, .ref q', [], rfl, rfl, ?_⟩
    refine ⟨.int m, rfl, .ref q', rfl, (show 2 ≤ sizeLine by decide), fun p6 hp6 => ?_⟩
    refine q _ (.ref p6) m u (fun b' o e => ?_) ⟨p6, q', rfl, upd_same, tq.same (same_new hp6)⟩ ib
    have e3 := s13 b' o e
    have ne : b' ≠ d := ne_of_none e3 hd
    exact same_new hp6 _ _ (sb5 _ _ ne (s4 _ _ e3))
end
end Fw
namespace Fw
open PySem PySem.Spec PyProof.Rows L2 FW
/-! ### the law's row of draws -/
/-- the row at r: the script, a place, a seed, a rest -/
def RowL (H : Hp) (r sa : Addr) : Prop := ∃ p sd c : Int, H r = some (.lst [.ref sa, .int p, .int sd, .int c]) ∧ 0 ≤ p ∧ 0 ≤ sd ∧ sd < 2147483647
/-- the script, whatever becomes of the row -/
def Scr (K : PySem.W.Frag) (H : Hp) (r sa : Addr) : Prop := ∃ ns : List Int, ∀ H', SB r H H' → SqL K H' sa (ns.map V.int)
theorem Scr.sb {K : PySem.W.Frag} {H H' : Hp} {r sa : Addr} (h : Scr K H r sa) (s : SB r H H') : Scr K H' r sa := by
  obtain ⟨ns, h1⟩ := h
  exact ⟨ns, fun H2 s2 => h1 H2 (s.trans s2)⟩
theorem Scr.start {K : PySem.W.Frag} {H : Hp} {r sa : Addr} {ns : List Int} {o : HO} (h : SqL K H sa (ns.map V.int)) (hr : H r = none) : Scr K (upd H r o) r sa := by
  refine ⟨ns, fun H' s => ?_⟩
  rcases h with (h | ⟨ob, h⟩) | h
  · have ne : sa ≠ r := ne_of_none h hr
    exact .inl (.inl (s _ _ ne (by rw [upd_ne ne]; exact h)))
  · have ne : sa ≠ r := ne_of_none h hr
    exact .inl (.inr ⟨ob, s _ _ ne (by rw [upd_ne ne]; exact h)⟩)
  · exact .inr h
theorem RowL.ne {H : Hp} {r sa D : Addr} (h : RowL H r sa) (hD : H D = none) : r ≠ D := by
  obtain ⟨p, sd, c, e, _⟩ := h
  exact ne_of_none e hD
theorem RowL.upd {H : Hp} {r sa D : Addr} {o : HO} (h : RowL H r sa) (ne : r ≠ D) : RowL (upd H D o) r sa := by
  obtain ⟨p, sd, c, e, q⟩ := h
  exact ⟨p, sd, c, by rw [upd_ne ne]; exact e, q⟩
theorem RowL.same {H H' : Hp} {r sa : Addr} (h : RowL H r sa) (s : Same H H') : RowL H' r sa := by
  obtain ⟨p, sd, c, e, q⟩ := h
  exact ⟨p, sd, c, s _ _ e, q⟩
theorem modN {c : Int} {M : Nat} (h : 1 ≤ M) : ∃ x : Nat, x < M ∧ c % (M : Int) = (x : Int) := by
  have h1 := Int.emod_nonneg c (show (M : Int) ≠ 0 by omega)
  have h2 := Int.emod_lt_of_pos c (show (0 : Int) < (M : Int) by omega)
  exact ⟨(c % (M : Int)).toNat, by omega, by omega⟩
theorem mod_seed (x : Int) : 0 ≤ x % 2147483647 ∧ x % 2147483647 < 2147483647 := ⟨Int.emod_nonneg x (by decide), Int.emod_lt_of_pos x (by decide)⟩
section
variable {P : Program} {w : World} {K : PySem.W.Frag} {mg : Str → Option Value} {base : Heap}
def spTaken (K : PySem.W.Frag) : Sp := fun vs H Q _ => ∃ (r sa : Addr) (M : Nat), vs = [.ref r, .int (M : Int)] ∧ RowL H r sa ∧ Scr K H r sa ∧ 1 ≤ M ∧ M ≤ 1000 ∧ ∀ (H' : Hp) (x : Nat), SB r H H' → RowL H' r sa → x < M → Q (.int (x : Int)) H'
theorem ok_taken {f : Addr} {fd : FuncData} (D : Dn K mg "_law_taken" sTaken ["_law_row", "_law_many"] f fd) (B : Bt mg) : FnOk P w K mg base CX0 1 f fd ["_law_row", "_law_many"] (spTaken K) := by
  refine D.F.ok scTaken (fun vs H Q E h => ?_) (fun cdv A outer s H vs Q E hr h => ?_)
  · obtain ⟨r, sa, M, rfl, _⟩ := h
    rfl
  · obtain ⟨r, sa, M, rfl, ⟨p, sd, c, hR, hp0, hs0, hs1⟩, ⟨ns, hS⟩, hM, hM2, q⟩ := h
    refine ⟨_, pss_cons (ps_if (pt_cmpR op_gt (pe_ix ix_list (pv 0) pe_int (fun _ _ => rfl)) pe_int (nomark _))
        (pss_cons (ps_set (i := 2) scTaken.nd rfl (.inl rfl) (pe_op op_mod (pe_callTy call_int1 (by rfl) B.int (by decide +kernel) (pa_cons (pe_ix ix_list (pv 0) pe_int (fun _ _ => rfl)) pa_nil)) (pv 1)))
        (pss_cons (ps_asg (pe_op op_fdiv (pe_ix ix_list (pv 0) pe_int (fun _ _ => rfl)) (pv 1)) (pg_sub (pv 0) pe_int set_list))
        (pss_one (ps_ret (pv 2))))) pss_nil)
      (pss_cons (ps_asg (pe_op op_add (pe_ix ix_list (pv 0) pe_int (fun _ _ => rfl)) pe_int) (pg_sub (pv 0) pe_int set_list))
      (pss_cons (ps_if (pt_cmpR op_gt (pe_ix ix_list (pv 0) pe_int (fun _ _ => rfl)) (pe_callB call_len (by rfl) B.len PySem.boot_len (pa_cons (pe_ix ix_list (pv 0) pe_int (fun _ _ => rfl)) pa_nil)) (nomark _))
        (pss_cons (ps_asg (pe_op op_mod (pe_callTy call_int1 (by rfl) B.int (by decide +kernel) (pa_cons (pe_op op_add (pe_op op_mul (pe_ix ix_list (pv 0) pe_int (fun _ _ => rfl)) pe_int) pe_int) pa_nil)) pe_int) (pg_sub (pv 0) pe_int set_list))
        (pss_one (ps_ret (pe_op op_mod (pe_callTy call_int1 (by rfl) B.int (by decide +kernel) (pa_cons (pe_op op_fdiv (pe_ix ix_list (pv 0) pe_int (fun _ _ => rfl)) pe_int) pa_nil)) (pv 1))))) pss_nil)
      (pss_cons (ps_set (i := 3) scTaken.nd rfl (.inl rfl) (pe_ix ix_list (pe_ix ix_list (pv 0) pe_int (fun _ _ => rfl)) (pe_op op_sub (pe_ix ix_list (pv 0) pe_int (fun _ _ => rfl)) pe_int) (fun _ _ => rfl)))
      (pss_cons (ps_asg (pe_op op_mod (pe_callTy call_int1 (by rfl) B.int (by decide +kernel) (pa_cons (pe_op op_add (pe_op op_add (pe_op op_mul (pe_ix ix_list (pv 0) pe_int (fun _ _ => rfl)) pe_int) (pv 3)) pe_int) pa_nil)) pe_int) (pg_sub (pv 0) pe_int set_list))
      (pss_cons (ps_if (pt_cmpR op_ge (pv 3) (pe_op op_pow pe_int pe_int) (nomark _))
        (pss_one (ps_asg (pe_op op_fdiv (pv 3) (pv 1)) (pg_sub (pv 0) pe_int set_list))) pss_nil)
      (pss_one (ps_ret (pe_op op_mod (pe_callTy call_int1 (by rfl) B.int (by decide +kernel) (pa_cons (pv 3) pa_nil)) (pv 1))))))))), ?_⟩
    have hM3 : (0 : Int) < (M : Int) ∧ (M : Int) < 1073741824 := by omega
    -- row[3] > 0
    refine ⟨.ref r, rfl, r, _, 3, .int c, rfl, rfl, SqL.of hR, atI_nat (j := 3) rfl, c, 0, rfl, rfl, _, rfl, ite2 (fun _ => ?_) (fun _ => ?_)⟩
    · obtain ⟨x, hx, ex⟩ := modN (c := c) hM
      refine ⟨.ref r, rfl, r, _, 3, .int c, rfl, rfl, SqL.of hR, atI_nat (j := 3) rfl, .inl ⟨c, rfl, ?_⟩⟩
      refine ⟨.int (M : Int), rfl, c, (M : Int), rfl, rfl, hM3.1, ?_⟩
      refine ⟨.ref r, rfl, r, _, 3, .int c, rfl, rfl, SqL.of hR, atI_nat (j := 3) rfl, .int (M : Int), rfl, c, (M : Int), rfl, rfl, hM3, ?_⟩
      refine ⟨.ref r, rfl, r, _, 3, 3, rfl, rfl, hR, rfl, ?_⟩
      refine ⟨.int (c % (M : Int)), rfl, ?_⟩
      rw [ex]
      exact q _ x SB.upd ⟨p, sd, c / (M : Int), upd_same, hp0, hs0, hs1⟩ hx
    · -- row[1] = row[1] + 1
      refine ⟨.ref r, rfl, r, _, 1, .int p, rfl, rfl, SqL.of hR, atI_nat (j := 1) rfl, p, 1, rfl, rfl, ?_⟩
      refine ⟨.ref r, rfl, r, _, 1, 1, rfl, rfl, hR, rfl, ?_⟩
      generalize hH1 : upd H r (.lst ([V.ref sa, V.int p, V.int sd, V.int c].set 1 (.int (p + 1)))) = H1
      have hR1 : H1 r = some (.lst [.ref sa, .int (p + 1), .int sd, .int c]) := by rw [← hH1]; exact upd_same
      have s1 : SB r H H1 := by rw [← hH1]; exact SB.upd
      have hS1 : SqL K H1 sa (ns.map V.int) := hS H1 s1
      refine ⟨.ref r, rfl, r, _, 1, .int (p + 1), rfl, rfl, SqL.of hR1, atI_nat (j := 1) rfl, .ref r, rfl, r, _, 0, .ref sa, rfl, rfl, SqL.of hR1, atI_nat (j := 0) rfl, .ref sa, (ns.map V.int).length, rfl, .inl ⟨_, hS1, rfl⟩, p + 1, ((ns.map V.int).length : Int), rfl, rfl, _, rfl, ite2 (fun _ => ?_) (fun cl => ?_)⟩
      · -- behind the script
        refine ⟨.ref r, rfl, r, _, 2, .int sd, rfl, rfl, SqL.of hR1, atI_nat (j := 2) rfl, sd, 48271, rfl, rfl, .inr ⟨by decide, by decide⟩, sd * 48271, 11, rfl, rfl, .inl ⟨_, rfl, ?_⟩⟩
        refine ⟨sd * 48271 + 11, 2147483647, rfl, rfl, (by show (0 : Int) < 2147483647; decide), ?_⟩
        refine ⟨.ref r, rfl, r, _, 2, 2, rfl, rfl, hR1, rfl, ?_⟩
        have hb := mod_seed (sd * 48271 + 11)
        have hR2 : upd H1 r (.lst ([V.ref sa, V.int (p + 1), V.int sd, V.int c].set 2 (.int ((sd * 48271 + 11) % 2147483647)))) r = some (.lst [.ref sa, .int (p + 1), .int ((sd * 48271 + 11) % 2147483647), .int c]) := upd_same
        obtain ⟨x, hx, ex⟩ := modN (c := (sd * 48271 + 11) % 2147483647 / 7) hM
        refine ⟨.ref r, rfl, r, _, 2, .int ((sd * 48271 + 11) % 2147483647), rfl, rfl, SqL.of hR2, atI_nat (j := 2) rfl, (sd * 48271 + 11) % 2147483647, 7, rfl, rfl, ⟨by decide, by decide⟩, .inl ⟨_, rfl, ?_⟩⟩
        refine ⟨.int (M : Int), rfl, (sd * 48271 + 11) % 2147483647 / 7, (M : Int), rfl, rfl, hM3.1, ?_⟩
        show Q (.int ((sd * 48271 + 11) % 2147483647 / 7 % (M : Int))) _
        rw [ex]
        exact q _ x (s1.trans SB.upd) ⟨p + 1, (sd * 48271 + 11) % 2147483647, c, hR2, by omega, hb.1, hb.2⟩ hx
      · -- a cell of the script
        have hle : p + 1 ≤ ((ns.map V.int).length : Int) := by
          have z := of_decide_eq_false (Bool.eq_false_iff.mpr cl)
          omega
        obtain ⟨pn, hpn⟩ : ∃ pn : Nat, p = (pn : Int) := ⟨p.toNat, by omega⟩
        have hlt : pn < ns.length := by
          rw [List.length_map] at hle
          omega
        have hget : (ns.map V.int)[pn]? = some (.int ns[pn]) := by
          rw [List.getElem?_map, List.getElem?_eq_getElem hlt]
          rfl
        generalize hcell : ns[pn] = cell at hget
        have hat : atI (ns.map V.int) (p + 1 - 1) = some (.int cell) := by
          have e : p + 1 - 1 = (pn : Int) := by omega
          rw [e]
          exact atI_nat hget
        refine ⟨.ref r, rfl, r, _, 0, .ref sa, rfl, rfl, SqL.of hR1, atI_nat (j := 0) rfl, .ref r, rfl, r, _, 1, .int (p + 1), rfl, rfl, SqL.of hR1, atI_nat (j := 1) rfl, p + 1, 1, rfl, rfl, sa, _, p + 1 - 1, .int cell, rfl, rfl, hS1, hat, ?_⟩
        -- row[2]
        refine ⟨.ref r, rfl, r, _, 2, .int sd, rfl, rfl, SqL.of hR1, atI_nat (j := 2) rfl, sd, 48271, rfl, rfl, .inr ⟨by decide, by decide⟩, .int cell, rfl, sd * 48271, cell, rfl, rfl, sd * 48271 + cell, 11, rfl, rfl, .inl ⟨_, rfl, ?_⟩⟩
        refine ⟨sd * 48271 + cell + 11, 2147483647, rfl, rfl, (by show (0 : Int) < 2147483647; decide), ?_⟩
        refine ⟨.ref r, rfl, r, _, 2, 2, rfl, rfl, hR1, rfl, ?_⟩
        obtain ⟨x, hx, ex⟩ := modN (c := cell) hM
        have hb := mod_seed (sd * 48271 + cell + 11)
        have hR2 : upd H1 r (.lst ([V.ref sa, V.int (p + 1), V.int sd, V.int c].set 2 (.int ((sd * 48271 + cell + 11) % 2147483647)))) r = some (.lst [.ref sa, .int (p + 1), .int ((sd * 48271 + cell + 11) % 2147483647), .int c]) := upd_same
        refine ⟨.int cell, rfl, 10, 18, rfl, rfl, ⟨by decide, by decide, by decide⟩, cell, (10 : Int) ^ (18 : Int).toNat, rfl, rfl, _, rfl, ite2 (fun _ => ?_) (fun _ => ?_)⟩
        · refine ⟨.int cell, rfl, .int (M : Int), rfl, cell, (M : Int), rfl, rfl, hM3, ?_⟩
          refine ⟨.ref r, rfl, r, _, 3, 3, rfl, rfl, hR2, rfl, ?_⟩
          refine ⟨.int cell, rfl, .inl ⟨cell, rfl, .int (M : Int), rfl, cell, (M : Int), rfl, rfl, hM3.1, ?_⟩⟩
          show Q (.int (cell % (M : Int))) _
          rw [ex]
          exact q _ x ((s1.trans SB.upd).trans SB.upd) ⟨p + 1, (sd * 48271 + cell + 11) % 2147483647, cell / (M : Int), upd_same, by omega, hb.1, hb.2⟩ hx
        · refine ⟨.int cell, rfl, .inl ⟨cell, rfl, .int (M : Int), rfl, cell, (M : Int), rfl, rfl, hM3.1, ?_⟩⟩
          show Q (.int (cell % (M : Int))) _
          rw [ex]
          exact q _ x (s1.trans SB.upd) ⟨p + 1, (sd * 48271 + cell + 11) % 2147483647, c, hR2, by omega, hb.1, hb.2⟩ hx
/-! ### values, a word, a pick -/
def spValues (K : PySem.W.Frag) : Sp := fun vs H Q _ => ∃ (r sa : Addr) (most top : Nat), vs = [.ref r, .int (most : Int), .int (top : Int)] ∧ RowL H r sa ∧ Scr K H r sa ∧ 1 ≤ most ∧ most ≤ 100 ∧ 1 ≤ top ∧ top ≤ 100 ∧
  ∀ (H' : Hp) (p : Addr) (vals : List Nat), SB r H H' → RowL H' r sa → Tw H' p vals → 1 ≤ vals.length → vals.length ≤ most → (∀ v ∈ vals, 1 ≤ v ∧ v ≤ top) → Q (.ref p) H'
theorem ok_values {f f1 : Addr} {fd fd1 : FuncData} (D : Dn K mg "_law_values" sValues ["_law_row", "_law_most", "_law_top"] f fd) (D1 : Dn K mg "_law_taken" sTaken ["_law_row", "_law_many"] f1 fd1) (B : Bt mg) : FnOk P w K mg base CX0 2 f fd ["_law_row", "_law_most", "_law_top"] (spValues K) := by
  have G1 : FnOk P w K mg base CX0 1 f1 fd1 ["_law_row", "_law_many"] (spTaken K) := ok_taken D1 B
  refine D.F.ok scValues (fun vs H Q E h => ?_) (fun cdv A outer s H vs Q E hr h => ?_)
  · obtain ⟨r, sa, most, top, rfl, _⟩ := h
    rfl
  · obtain ⟨r, sa, most, top, rfl, hR, hS, hm1, hm2, ht1, ht2, q⟩ := h
    refine ⟨_, pss_cons (ps_set (i := 3) scValues.nd rfl (.inr rfl) (pe_op op_add pe_int (pe_call G1 hr (by rfl) D1.g D1.F.kp D1.b .nil pass0 (pa_cons (pv 0) (pa_cons (pv 2) pa_nil)))))
      (pss_one (ps_ret (pe_callTy call_tuple_of (by rfl) B.tuple (by decide +kernel) (pa_cons
        (pe_lc (own := [("_law_letter", 4)]) (g := gName 4) (tt := tYes) rfl scValues.nd (pi_range1 rfl B.range (pa_cons (pe_op op_add pe_int (pe_call G1 hr (by rfl) D1.g D1.F.kp D1.b .nil pass0 (pa_cons (pv 0) (pa_cons (pv 1) pa_nil)))) pa_nil))
          (blkOk_by (N := ["_law_row", "_law_most", "_law_top", "_law_high", "_law_letter"]) (sc := defScope sValues) (by decide +kernel)) (fun _ _ _ _ _ => pg_name (i := 4) scValues.nd rfl (Or.inl rfl)) (fun _ _ _ _ _ => pts_nil)
          (fun _ _ _ _ _ => pe_op op_add pe_int (pe_call G1 hr (by rfl) D1.g D1.F.kp D1.b .nil pass0 (pa_cons (pv 0) (pa_cons (pv 3) pa_nil))))) pa_nil)))), ?_⟩
    refine ⟨.ref r, rfl, .int (top : Int), rfl, r, sa, top, rfl, hR, hS, ht1, by omega, fun H1 x s1 hR1 hx => ?_⟩
    refine ⟨1, (x : Int), rfl, rfl, ?_⟩
    have eh : (1 : Int) + (x : Int) = ((1 + x : Nat) : Int) := by omega
    refine ⟨.ref r, rfl, .int (most : Int), rfl, r, sa, most, rfl, hR1, hS.sb s1, hm1, by omega, fun H2 y s2 hR2 hy => ?_⟩
    refine ⟨1, (y : Int), rfl, rfl, 1 + (y : Int), rfl, by omega, by omega, fun Dl hD => ?_⟩
    have ny : (1 + (y : Int)).toNat = 1 + y := by omega
    rw [ny]
    have rD : r ≠ Dl := hR2.ne hD
    refine lc_range (lo := 0) (n := 1 + y) (fun i H' => ∃ acc : List Nat, H' Dl = some (.lst (lv acc)) ∧ acc.length = i ∧ (∀ v ∈ acc, 1 ≤ v ∧ v ≤ top) ∧ SB r H2 H' ∧ RowL H' r sa) ⟨[], upd_same, rfl, fun _ z => (nomatch z), SB.of (same_new hD), hR2.upd rD⟩ (fun i H' hi hp => ?_) (fun H' hp => ?_)
    · obtain ⟨acc, hd, hl, hall, sm, hR'⟩ := hp
      refine ⟨rfl, .ref r, rfl, .int (1 + (x : Int)), rfl, r, sa, 1 + x, congrArg (fun z => [V.ref r, V.int z]) eh, hR', (hS.sb (s1.trans s2)).sb sm, by omega, by omega, fun H3 z s3 hR3 hz => ?_⟩
      refine ⟨1, (z : Int), rfl, rfl, lv acc, s3 _ _ (Ne.symm rD) hd, by rw [lv_len, hl]; exact small1000 (by omega), acc ++ [1 + z], ?_, by rw [List.length_append, hl]; rfl, fun v hv => ?_, fun b o hb e => ?_, hR3.upd rD⟩
      · rw [upd_same, lv_append]
        have ez : (1 : Int) + (z : Int) = ((1 + z : Nat) : Int) := by omega
        exact congrArg (fun t => some (HO.lst (lv acc ++ [V.int t]))) ez
      · rcases List.mem_append.mp hv with hv | hv
        · exact hall v hv
        · have e : v = 1 + z := List.mem_singleton.mp hv
          omega
      · rw [upd_ne (ne_of_none e hD)]
        exact s3 _ _ hb (sm _ _ hb e)
    · obtain ⟨acc, hd, hl, hall, sm, hR'⟩ := hp
      refine ⟨Dl, lv acc, rfl, .inl ⟨SqL.of hd, fun l hl' => ?_⟩⟩
      exact q _ l acc (((s1.trans s2).trans sm).trans (SB.of (same_new hl'))) (hR'.same (same_new hl')) (Tw.of upd_same) (by omega) (by omega) hall
def spWordL (K : PySem.W.Frag) : Sp := fun vs H Q _ => ∃ (r sa : Addr) (M most : Nat), vs = [.ref r, .int (M : Int), .int (most : Int)] ∧ RowL H r sa ∧ Scr K H r sa ∧ 1 ≤ M ∧ M ≤ 100 ∧ most ≤ 100 ∧
  ∀ (H' : Hp) (p : Addr) (o : Obj) (u : List Nat), SB r H H' → RowL H' r sa → o.dict = none → H' p = some (.frz o (.tup (lv u))) → u.length ≤ most → (∀ x ∈ u, x < M) → Q (.ref p) H'
theorem ok_word {f f1 : Addr} {fd fd1 : FuncData} (D : Dn K mg "_law_word" sWord ["_law_row", "_law_many", "_law_most"] f fd) (D1 : Dn K mg "_law_taken" sTaken ["_law_row", "_law_many"] f1 fd1) (B : Bt mg) : FnOk P w K mg base CX0 2 f fd ["_law_row", "_law_many", "_law_most"] (spWordL K) := by
  have G1 : FnOk P w K mg base CX0 1 f1 fd1 ["_law_row", "_law_many"] (spTaken K) := ok_taken D1 B
  refine D.F.ok scWord (fun vs H Q E h => ?_) (fun cdv A outer s H vs Q E hr h => ?_)
  · obtain ⟨r, sa, M, most, rfl, _⟩ := h
    rfl
  · obtain ⟨r, sa, M, most, rfl, hR, hS, hm1, hm2, ht, q⟩ := h
    refine ⟨_, pss_one (ps_ret (pe_callTy call_tupF (by rfl) B.tuple (by decide +kernel) (pa_cons
        (pe_lc (own := [("_law_index", 3)]) (g := gName 3) (tt := tYes) rfl scWord.nd (pi_range1 rfl B.range (pa_cons (pe_call G1 hr (by rfl) D1.g D1.F.kp D1.b .nil pass0 (pa_cons (pv 0) (pa_cons (pe_op op_add (pv 2) pe_int) pa_nil))) pa_nil))
          (blkOk_by (N := ["_law_row", "_law_many", "_law_most", "_law_index"]) (sc := defScope sWord) (by decide +kernel)) (fun _ _ _ _ _ => pg_name (i := 3) scWord.nd rfl (Or.inl rfl)) (fun _ _ _ _ _ => pts_nil)
          (fun _ _ _ _ _ => pe_call G1 hr (by rfl) D1.g D1.F.kp D1.b .nil pass0 (pa_cons (pv 0) (pa_cons (pv 1) pa_nil)))) pa_nil))), ?_⟩
    refine ⟨.ref r, rfl, .int (most : Int), rfl, (most : Int), 1, rfl, rfl, r, sa, most + 1, rfl, hR, hS, by omega, by omega, fun H2 y s2 hR2 hy => ?_⟩
    refine ⟨(y : Int), rfl, by omega, by omega, fun Dl hD => ?_⟩
    rw [Int.toNat_natCast]
    have rD : r ≠ Dl := hR2.ne hD
    refine lc_range (lo := 0) (n := y) (fun i H' => ∃ acc : List Nat, H' Dl = some (.lst (lv acc)) ∧ acc.length = i ∧ (∀ v ∈ acc, v < M) ∧ SB r H2 H' ∧ RowL H' r sa) ⟨[], upd_same, rfl, fun _ z => (nomatch z), SB.of (same_new hD), hR2.upd rD⟩ (fun i H' hi hp => ?_) (fun H' hp => ?_)
    · obtain ⟨acc, hd, hl, hall, sm, hR'⟩ := hp
      refine ⟨rfl, .ref r, rfl, .int (M : Int), rfl, r, sa, M, rfl, hR', (hS.sb s2).sb sm, hm1, by omega, fun H3 z s3 hR3 hz => ?_⟩
      refine ⟨lv acc, s3 _ _ (Ne.symm rD) hd, by rw [lv_len, hl]; exact small1000 (by omega), acc ++ [z], ?_, by rw [List.length_append, hl]; rfl, fun v hv => ?_, fun b o hb e => ?_, hR3.upd rD⟩
      · rw [upd_same, lv_append]
        rfl
      · rcases List.mem_append.mp hv with hv | hv
        · exact hall v hv
        · have e : v = z := List.mem_singleton.mp hv
          omega
      · rw [upd_ne (ne_of_none e hD)]
        exact s3 _ _ hb (sm _ _ hb e)
    · obtain ⟨acc, hd, hl, hall, sm, hR'⟩ := hp
      refine ⟨Dl, lv acc, rfl, SqL.of hd, fun l o ho hl' => ?_⟩
      exact q _ l o acc ((s2.trans sm).trans (SB.of (same_new hl'))) (hR'.same (same_new hl')) ho upd_same (by omega) hall
def spPick (K : PySem.W.Frag) : Sp := fun vs H Q _ => ∃ (r sa t : Addr) (ts : List Nat), vs = [.ref r, .ref t] ∧ RowL H r sa ∧ Scr K H r sa ∧ H t = some (.lst (lv ts)) ∧ t ≠ r ∧ 1 ≤ ts.length ∧ ts.length ≤ 1000 ∧
  ∀ (H' : Hp) (n : Nat), SB r H H' → RowL H' r sa → n ∈ ts → Q (.int (n : Int)) H'
theorem ok_pick {f f1 : Addr} {fd fd1 : FuncData} (D : Dn K mg "_law_pick" sPick ["_law_row", "_law_things"] f fd) (D1 : Dn K mg "_law_taken" sTaken ["_law_row", "_law_many"] f1 fd1) (B : Bt mg) : FnOk P w K mg base CX0 2 f fd ["_law_row", "_law_things"] (spPick K) := by
  have G1 : FnOk P w K mg base CX0 1 f1 fd1 ["_law_row", "_law_many"] (spTaken K) := ok_taken D1 B
  refine D.F.ok scPick (fun vs H Q E h => ?_) (fun cdv A outer s H vs Q E hr h => ?_)
  · obtain ⟨r, sa, t, ts, rfl, _⟩ := h
    rfl
  · obtain ⟨r, sa, t, ts, rfl, hR, hS, ht, hne, h1, h2, q⟩ := h
    refine ⟨_, pss_one (ps_ret (pe_ix ix_list (pv 1) (pe_call G1 hr (by rfl) D1.g D1.F.kp D1.b .nil pass0 (pa_cons (pv 0) (pa_cons (pe_callB call_len (by rfl) B.len PySem.boot_len (pa_cons (pv 1) pa_nil)) pa_nil))) (fun _ _ => rfl))), ?_⟩
    refine ⟨.ref t, rfl, .ref r, rfl, .ref t, rfl, .ref t, (lv ts).length, rfl, .inl ⟨_, SqL.of ht, rfl⟩, r, sa, (lv ts).length, rfl, hR, hS, by rw [lv_len]; exact h1, by rw [lv_len]; exact h2, fun H1 x s1 hR1 hx => ?_⟩
    rw [lv_len] at hx
    have hget : ts[x]? = some ts[x] := List.getElem?_eq_getElem hx
    exact ⟨t, lv ts, (x : Int), .int ((ts[x] : Nat) : Int), rfl, rfl, SqL.of (s1 _ _ hne ht), atI_nat (lv_at hget), q H1 ts[x] s1 hR1 (List.mem_of_getElem? hget)⟩
end
end Fw
namespace Fw
open PySem PySem.Spec PyProof.Rows L2 FW
section
variable {P : Program} {w : World} {K : PySem.W.Frag} {mg : Str → Option Value} {base : Heap}
/-! ### the law's own writing -/
def spWrite (K : PySem.W.Frag) : Sp := fun vs H Q _ => ∃ (a b c : Addr) (vals sl u : List Nat), vs = [.ref a, .ref b, .ref c] ∧ Tw H a vals ∧ Tw H b sl ∧ Tw H c u ∧ (∀ v ∈ vals, 1 ≤ v ∧ v ≤ 1000) ∧ sl.length ≤ 100 ∧ u.length ≤ 100 ∧ (∀ x ∈ u, x < vals.length) ∧
  ∀ H' p, Same H H' → Tw H' p (writeN vals sl u) → Q (.ref p) H'
theorem ok_write {f : Addr} {fd : FuncData} (D : Dn K mg "_law_write" sWrite ["_law_values_here", "_law_slate", "_law_word_here"] f fd) (B : Bt mg) : FnOk P w K mg base CX0 1 f fd ["_law_values_here", "_law_slate", "_law_word_here"] (spWrite K) := by
  refine D.F.ok scWrite (fun vs H Q E h => ?_) (fun cdv A outer s H vs Q E hr h => ?_)
  · obtain ⟨a, b, c, vals, sl, u, rfl, _⟩ := h
    rfl
  · obtain ⟨a, b, c, vals, sl, u, rfl, ta, tb, tc, hv, hsl, hu, lu, q⟩ := h
    refine ⟨_, pss_cons (ps_set (i := 3) scWrite.nd rfl (.inl rfl) (pe_revL (pe_callTy call_list_of (by rfl) B.list (by decide +kernel) (pa_cons (pv 1) pa_nil))))
      (pss_cons (ps_for PassesOwn.never rfl (pi_tup (pv 2)) (pg_name (i := 4) scWrite.nd rfl (.inl rfl))
        (pss_cons (ps_set (i := 5) scWrite.nd rfl (.inl rfl) (pe_op op_sub (pe_callB call_len (by rfl) B.len PySem.boot_len (pa_cons (pv 3) pa_nil)) (pe_ix ix_tup (pv 0) (pv 4) (fun _ _ => rfl))))
        (pss_cons (ps_if (pt_cmpR op_ge (pv 5) pe_int (nomark _)) (pss_one (ps_expr (pe_bm PySem.F.plainAttrs_list PySem.F.slot_list_pop PySem.F.type_list_pop mt_popAt (pv 3) (pa_cons (pv 5) pa_nil)))) pss_nil)
        (pss_one (ps_expr (pe_bm PySem.F.plainAttrs_list PySem.F.slot_list_append PySem.F.type_list_append mt_append (pv 3) (pa_cons (pv 4) pa_nil)))))))
      (pss_one (ps_ret (pe_callTy call_tuple_of (by rfl) B.tuple (by decide +kernel) (pa_cons (pe_revL (pv 3)) pa_nil))))), ?_⟩
    refine ⟨.ref b, rfl, b, lv sl, rfl, .inr tb.sq, fun l0 hl0 => ⟨l0, lv sl, rfl, SqL.of upd_same, fun h hh => ?_⟩⟩
    have s1 : Same H (upd H l0 (.lst (lv sl))) := same_new hl0
    have s2 : Same (upd H l0 (.lst (lv sl))) (upd (upd H l0 (.lst (lv sl))) h (.lst (lv sl).reverse)) := same_new hh
    have s12 := s1.trans s2
    have hhH : H h = none := s1.free hh
    refine ⟨.ref c, rfl, c, rfl, ⟨_, (tc.same s12).sq⟩, for_tup (K := K) (a := c) (xs := lv u) (fun i σ H' => ∃ y4 y5, σ = [some (.ref a), some (.ref b), some (.ref c), some (.ref h), y4, y5] ∧ Same H H' ∧ H' h = some (.lst (lv (writeN vals sl (u.take i)).reverse)))
      ⟨none, none, rfl, s12, ?_⟩ (fun i σ H' _ hp => ?_) (fun i x σ H' hx hp => ?_) (fun σ H' hp => ?_)⟩
    · rw [upd_same, lv_reverse]
      rfl
    · obtain ⟨_, _, _, sm, _⟩ := hp
      exact (tc.same sm).sq
    · obtain ⟨y4, y5, rfl, sm, hf⟩ := hp
      obtain ⟨l, hl, rfl⟩ := lv_one hx
      have hlt := lu l (List.mem_of_getElem? hl)
      obtain ⟨v, hget⟩ : ∃ v, vals[l]? = some v := ⟨vals[l], List.getElem?_eq_getElem hlt⟩
      have hv1 := hv v (List.mem_of_getElem? hget)
      have hgd : vals.getD l 1 = v := by rw [List.getD_eq_getElem?_getD, hget]; rfl
      generalize hX : writeN vals sl (u.take i) = X at hf
      have wl : X.length ≤ 300 := by
        have z1 := writeN_len vals (u.take i) sl
        have z2 : (u.take i).length ≤ u.length := List.length_take_le' i u
        rw [hX] at z1
        omega
      have e2 : writeN vals sl (u.take (i + 1)) = stepN vals X l := by rw [writeN_take_succ hl, hX]
      have lenR : (lv X.reverse).length = X.length := by rw [lv_len, List.length_reverse]
      -- the end of the turn
      have fin : ∀ (fl : List Nat) (H2 : Hp), fl ++ [l] = (stepN vals X l).reverse → fl.length ≤ 400 → Same H H2 → H2 h = some (.lst (lv fl)) → ∀ (z : V) (D' : Ends), (∀ σ' H'', (∃ y4 y5, σ' = [some (.ref a), some (.ref b), some (.ref c), some (.ref h), y4, y5] ∧ Same H H'' ∧ H'' h = some (.lst (lv (writeN vals sl (u.take (i + 1))).reverse))) → D'.nx σ' H'') →
          tDrop (tBM K "list" rAppend (tVar 3) (tCons (tVar 4) tNil)) D' [some (.ref a), some (.ref b), some (.ref c), some (.ref h), some (.int (l : Int)), some z] H2 := by
        intro fl H2 efl lfl sH2 hH2 z D' done
        refine ⟨.ref h, rfl, .inl ⟨rfl, _, SqL.of hH2⟩, .int (l : Int), rfl, h, _, _, rfl, rfl, hH2, ?_, ?_⟩
        · rw [lv_len]
          exact small1000 (by omega)
        · refine done _ _ ⟨_, _, rfl, fun b' o e => ?_, ?_⟩
          · rw [upd_ne (ne_of_none e hhH)]
            exact sH2 b' o e
          · rw [upd_same, e2, ← efl, lv_append]
            rfl
      refine ⟨.ref h, rfl, .ref h, (lv X.reverse).length, rfl, .inl ⟨_, SqL.of hf, rfl⟩, .ref a, rfl, .int (l : Int), rfl, a, lv vals, (l : Int), .int (v : Int), rfl, rfl, (ta.same sm).sq, atI_nat (lv_at hget), ((lv X.reverse).length : Int), (v : Int), rfl, rfl, ?_⟩
      refine ⟨.int (((lv X.reverse).length : Int) - (v : Int)), rfl, ((lv X.reverse).length : Int) - (v : Int), 0, rfl, rfl, _, rfl, ite2 (fun cg => ?_) (fun cg => ?_)⟩
      · have hle : v ≤ X.length := by
          have z := of_decide_eq_true cg
          rw [lenR] at z
          omega
        have ek : ((lv X.reverse).length : Int) - (v : Int) = ((X.length - v : Nat) : Int) := by rw [lenR]; omega
        have hk : X.length - v < (lv X.reverse).length := by rw [lenR]; omega
        have hseq : seqIndex? ((lv X.reverse).length - (v : Int)) (lv X.reverse).length = some (X.length - v) := by
          rw [ek]
          have z := seqIndex_of (k := ((X.length - v : Nat) : Int)) (n := (lv X.reverse).length) (by omega) (by omega)
          rwa [Int.toNat_natCast] at z
        refine ⟨.ref h, rfl, .inl ⟨rfl, _, SqL.of hf⟩, .int (((lv X.reverse).length : Int) - (v : Int)), rfl, h, _, _, X.length - v, (lv X.reverse)[X.length - v], rfl, rfl, hf, by omega, by omega, hseq, List.getElem?_eq_getElem hk, ?_⟩
        refine fin (X.reverse.eraseIdx (X.length - v)) _ (rev_step hgd hv1.1 hle) (by have := List.length_eraseIdx_le X.reverse (X.length - v); rw [List.length_reverse] at this; omega) (fun b' o e => ?_) ?_ _ _ (fun σ' H'' z => z)
        · rw [upd_ne (ne_of_none e hhH)]
          exact sm b' o e
        · rw [upd_same, lv_erase]
      · have hlt' : X.length < v := by
          have z := of_decide_eq_false (Bool.eq_false_iff.mpr cg)
          rw [lenR] at z
          omega
        exact fin X.reverse _ (rev_step' hgd hlt') (by rw [List.length_reverse]; omega) sm hf _ _ (fun σ' H'' z => z)
    · obtain ⟨y4, y5, rfl, sm, hf⟩ := hp
      refine ⟨.ref h, rfl, h, _, rfl, SqL.of hf, fun p1 hp1 => ⟨p1, _, rfl, .inl ⟨SqL.of upd_same, fun p2 hp2 => ?_⟩⟩⟩
      refine q _ p2 (sm.trans ((same_new hp1).trans (same_new hp2))) (Tw.of ?_)
      rw [upd_same, lv_reverse, List.reverse_reverse, lv_len, List.take_of_length_le (Nat.le_refl _)]
/-! ### the law's own count of what is met -/
def spLMet (K : PySem.W.Frag) : Sp := fun vs H Q _ => ∃ (a b c : Addr) (vals sl u : List Nat), vs = [.ref a, .ref b, .ref c] ∧ Tw H a vals ∧ Tw H b sl ∧ Tw H c u ∧ (∀ v ∈ vals, 1 ≤ v ∧ v ≤ 1000) ∧ sl.length ≤ 100 ∧ u.length ≤ 100 ∧ (∀ x ∈ u, x < vals.length) ∧
  ∀ H' p, Same H H' → H' p = some (.lst (lv (metN vals sl u))) → Q (.ref p) H'
theorem ok_lmet {f f1 : Addr} {fd fd1 : FuncData} (D : Dn K mg "_law_met" sLMet ["_law_values_here", "_law_slate", "_law_word_here"] f fd) (D1 : Dn K mg "_law_write" sWrite ["_law_values_here", "_law_slate", "_law_word_here"] f1 fd1) (B : Bt mg) :
    FnOk P w K mg base CX0 2 f fd ["_law_values_here", "_law_slate", "_law_word_here"] (spLMet K) := by
  have G1 : FnOk P w K mg base CX0 1 f1 fd1 ["_law_values_here", "_law_slate", "_law_word_here"] (spWrite K) := ok_write D1 B
  refine D.F.ok scLMet (fun vs H Q E h => ?_) (fun cdv A outer s H vs Q E hr h => ?_)
  · obtain ⟨a, b, c, vals, sl, u, rfl, _⟩ := h
    rfl
  · obtain ⟨a, b, c, vals, sl, u, rfl, ta, tb, tc, hv, hsl, hu, lu, q⟩ := h
    refine ⟨_, pss_one (ps_ret (pe_lc (own := [("_law_at", 3)]) (g := gName 3)
        (tt := tTest (tOp (rIn K false) (tOp (rIxT K) (tVar 2) (tVar 3)) (tCall (spWrite K) [] E0 (tCons (tVar 0) (tCons (tVar 1) (tCons (tSl (rSlA K) (tVar 2) tNoPart (tPart (tVar 3))) tNil))))))
        rfl scLMet.nd (pi_range1 rfl B.range (pa_cons (pe_callB call_len (by rfl) B.len PySem.boot_len (pa_cons (pv 2) pa_nil)) pa_nil))
        (blkOk_by (N := ["_law_values_here", "_law_slate", "_law_word_here", "_law_at"]) (sc := defScope sLMet) (by decide +kernel)) (fun _ _ _ _ _ => pg_name (i := 3) scLMet.nd rfl (Or.inl rfl))
        (fun _ _ _ _ _ => pts_one (pt_cmpR op_in_seq (pe_ix ix_tup (pv 2) (pv 3) (fun _ _ => rfl)) (pe_call G1 hr (by rfl) D1.g D1.F.kp D1.b .nil pass0 (pa_cons (pv 0) (pa_cons (pv 1) (pa_cons (pe_slice sl_tupA (pv 2) po_none (po_some (pv 3))) pa_nil)))) (by rfl)))
        (fun _ _ _ _ _ => pv 3))), ?_⟩
    refine ⟨.ref c, rfl, .ref c, (lv u).length, rfl, .inr ⟨_, tc.sq, rfl⟩, ((lv u).length : Int), rfl, by omega, by rw [lv_len]; omega, fun Dl hD => ?_⟩
    rw [Int.toNat_natCast, lv_len]
    refine lc_range (lo := 0) (n := u.length) (fun i H' => H' Dl = some (.lst (lv (metI vals sl u i))) ∧ Same H H') ⟨upd_same, same_new hD⟩ (fun i H' hi hp => ?_) (fun H' hp => ?_)
    · obtain ⟨hd, sm⟩ := hp
      rw [Int.zero_add]
      obtain ⟨l, hl⟩ : ∃ l, u[i]? = some l := ⟨u[i], List.getElem?_eq_getElem hi⟩
      refine ⟨rfl, .ref c, rfl, .int (i : Int), rfl, c, lv u, (i : Int), .int (l : Int), rfl, rfl, (tc.same sm).sq, atI_nat (lv_at hl), ?_⟩
      refine ⟨.ref a, rfl, .ref b, rfl, .ref c, rfl, .int (i : Int), rfl, (i : Int), rfl, ?_⟩
      refine slTake (tc.same sm) i fun r1 H1 s1 t1 => ?_
      have sm1 := sm.trans s1
      refine ⟨a, b, r1, vals, sl, u.take i, rfl, ta.same sm1, tb.same sm1, t1, hv, hsl, by have := List.length_take_le i u; omega, fun x hx => lu x (List.mem_of_mem_take hx), fun H2 p2 s2 t2 => ?_⟩
      have sm2 := sm1.trans s2
      refine ⟨p2, _, rfl, .inr t2.sq, rfl, lv_flat _, _, rfl, ?_⟩
      have em : inV (.int (l : Int)) (lv (writeN vals sl (u.take i))) = metP vals sl u i := by rw [lv_in, metP_at hl]
      have hd2 : H2 Dl = some (.lst (lv (metI vals sl u i))) := s2 _ _ (s1 _ _ hd)
      show (if (if false = true then !inV (V.int (l : Int)) (lv (writeN vals sl (u.take i))) else inV (V.int (l : Int)) (lv (writeN vals sl (u.take i)))) = true then _ else _)
      rw [if_neg Bool.false_ne_true, em]
      refine ite2 (fun cm => ?_) (fun cm => ?_)
      · refine ⟨.int (i : Int), rfl, _, hd2, ?_, ?_, fun b' o e => ?_⟩
        · rw [lv_len]
          have := metI_len vals sl u i
          exact small1000 (by omega)
        · rw [upd_same, metI_succ, if_pos cm, lv_append]
          rfl
        · rw [upd_ne (ne_of_none e hD)]
          exact sm2 b' o e
      · refine ⟨?_, sm2⟩
        rw [metI_succ, if_neg cm, List.append_nil]
        exact hd2
    · obtain ⟨hd, sm⟩ := hp
      exact q H' Dl sm hd
/-! ### all words of a supply -/
def WordAt (H : Hp) (v : V) (u : List Nat) : Prop := ∃ q, v = .ref q ∧ Tw H q u
abbrev WordsAt (H : Hp) : List V → List (List Nat) → Prop := Paired (WordAt H)
theorem WordAt.same {H H' : Hp} {v : V} {u : List Nat} (h : WordAt H v u) (s : Same H H') : WordAt H' v u := by
  obtain ⟨q, e, t⟩ := h
  exact ⟨q, e, t.same s⟩
theorem WordsAt.same {H H' : Hp} {vs : List V} {us : List (List Nat)} (h : WordsAt H vs us) (s : Same H H') : WordsAt H' vs us := Paired.mapP h fun _ _ z => z.same s
theorem WordsAt.append {H : Hp} : ∀ {vs ws : List V} {us xs : List (List Nat)}, WordsAt H vs us → WordsAt H ws xs → WordsAt H (vs ++ ws) (us ++ xs)
  | _, _, _, _, .nil, h => h
  | _, _, _, _, .cons r t, h => .cons r (WordsAt.append t h)
theorem WordsAt.at {H : Hp} : ∀ {vs : List V} {us : List (List Nat)} {i : Nat} {v : V}, WordsAt H vs us → vs[i]? = some v → ∃ u, us[i]? = some u ∧ WordAt H v u
  | _, _, _, _, .nil, h => by simp at h
  | _, _, 0, _, .cons r _, h => by
    have e := Option.some.inj (show some _ = some _ from h)
    subst e
    exact ⟨_, rfl, r⟩
  | _, _, i + 1, _, .cons _ t, h => WordsAt.at (i := i) t h
theorem arr_fit {k : Nat} {su : List Nat} (h4 : su.length ≤ 4) (hk : k ≤ 6) : (arrN k su).length ≤ 4096 := Nat.le_trans (arrN_len k su h4) (Nat.pow_le_pow_right (by decide) hk)
theorem arrI_fit {k i : Nat} {su : List Nat} (h4 : su.length ≤ 4) (hk : k ≤ 5) (hi : i ≤ 4) : (arrI k su i).length ≤ 4096 := by
  have z := arr_bound k su (4 ^ k) (fun l => arrN_len k (dec su l) (by rw [dec_len]; exact h4)) i
  have z2 : 4 ^ k ≤ 4 ^ 5 := Nat.pow_le_pow_right (by decide) hk
  have z3 : i * 4 ^ k ≤ 4 * 4 ^ 5 := Nat.mul_le_mul hi z2
  omega
theorem fit2 {n : Nat} (h : n ≤ 10000) : n < sizeLine := Nat.lt_of_le_of_lt h (by decide)
def spArr (K : PySem.W.Frag) (k : Nat) : Sp := fun vs H Q _ => ∃ (a : Addr) (su : List Nat), vs = [.ref a] ∧ Tw H a su ∧ su.length ≤ 4 ∧ su.sum = k ∧ ∀ H' p vs', Same H H' → H' p = some (.lst vs') → WordsAt H' vs' (arrN k su) → Q (.ref p) H'
theorem ok_arr {f : Addr} {fd : FuncData} (D : Dn K mg "_law_arranged" sArranged ["_law_supply"] f fd) (B : Bt mg) : ∀ k : Nat, k ≤ 6 → FnOk P w K mg base CX0 (k + 1) f fd ["_law_supply"] (spArr K k) := by
  intro k
  induction k with
  | zero =>
    intro _
    refine D.F.ok scArranged (fun vs H Q E h => ?_) (fun cdv A outer s H vs Q E hr h => ?_)
    · obtain ⟨a, su, rfl, _⟩ := h
      rfl
    · obtain ⟨a, su, rfl, ta, h4, hsum, q⟩ := h
      refine ⟨_, pss_cons (ps_if (pt_cmpR op_eq (pe_callB (cr_sumT rfl) (by rfl) B.sum (by decide +kernel) (pa_cons (pv 0) pa_nil)) pe_int (nomark _)) (pss_one (ps_ret (pe_lst (pa_cons (pe_tup pa_nil) pa_nil)))) pss_nil) pss_never, ?_⟩
      refine ⟨.ref a, rfl, a, nz su, rfl, ta.sq, rfl, _, rfl, ite2 (fun _ => ?_) (fun c => ?_)⟩
      · refine ⟨Nat.zero_le _, fun t ht => ⟨(show 1 ≤ sizeLine by decide), fun p hp => ?_⟩⟩
        have s1 : Same H (upd H t (.tup [])) := same_new ht
        exact q _ p [.ref t] (s1.trans (same_new hp)) upd_same (.cons ⟨t, rfl, Tw.of (same_new hp _ _ upd_same)⟩ .nil)
      · refine absurd (decide_eq_true ?_) c
        rw [nz_sum, hsum]
        rfl
  | succ k ih =>
    intro hk
    have G1 : FnOk P w K mg base CX0 (k + 1) f fd ["_law_supply"] (spArr K k) := ih (by omega)
    refine D.F.ok scArranged (fun vs H Q E h => ?_) (fun cdv A outer s H vs Q E hr h => ?_)
    · obtain ⟨a, su, rfl, _⟩ := h
      rfl
    · obtain ⟨a, su, rfl, ta, h4, hsum, q⟩ := h
      refine ⟨_, pss_cons (ps_if (pt_cmpR op_eq (pe_callB (cr_sumT rfl) (by rfl) B.sum (by decide +kernel) (pa_cons (pv 0) pa_nil)) pe_int (nomark _)) pss_never pss_nil)
        (pss_cons (ps_set (i := 1) scArranged.nd rfl (.inl rfl) (pe_lst pa_nil))
        (pss_cons (ps_for PassesOwn.never rfl (pi_range1 rfl B.range (pa_cons (pe_callB call_len (by rfl) B.len PySem.boot_len (pa_cons (pv 0) pa_nil)) pa_nil)) (pg_name (i := 2) scArranged.nd rfl (.inr rfl))
          (pss_one (ps_if (pt_cmpR op_gt (pe_ix ix_tup (pv 0) (pv 2) (fun _ _ => rfl)) pe_int (nomark _))
            (pss_cons (ps_set (i := 3) scArranged.nd rfl (.inl rfl) (pe_op op_catA (pe_op op_catA (pe_slice sl_tupA (pv 0) po_none (po_some (pv 2))) (pe_tup (pa_cons (pe_op op_sub (pe_ix ix_tup (pv 0) (pv 2) (fun _ _ => rfl)) pe_int) pa_nil))) (pe_slice sl_tupA (pv 0) (po_some (pe_op op_add (pv 2) pe_int)) po_none)))
            (pss_one (ps_set (i := 1) scArranged.nd rfl (.inl rfl) (pe_op op_cat (pv 1)
              (pe_lc (own := [("_law_word_here", 4)]) (g := gName 4) (tt := tYes) (te := tOp (rCatA K) (tTup (tCons (tVar 2) tNil)) (tVar 4)) rfl scArranged.nd (pi_list (pe_call G1 hr (by rfl) D.g D.F.kp D.b .nil pass0 (pa_cons (pv 3) pa_nil)))
                (blkOk_by (N := ["_law_supply", "_law_found", "_law_letter", "_law_rest", "_law_word_here"]) (sc := defScope sArranged) (by decide +kernel)) (fun _ _ _ _ _ => pg_name (i := 4) scArranged.nd rfl (Or.inl rfl)) (fun _ _ _ _ _ => pts_nil)
                (fun _ _ _ _ _ => pe_op op_catA (pe_tup (pa_cons (pv 2) pa_nil)) (pv 4))))))) pss_nil)))
        (pss_one (ps_ret (pv 1))))), ?_⟩
      refine ⟨.ref a, rfl, a, nz su, rfl, ta.sq, rfl, _, rfl, ite2 (fun c => ?_) (fun _ => ?_)⟩
      · have c' : (nz su).sum = 0 := V.int.inj (of_decide_eq_true c)
        rw [nz_sum, hsum] at c'
        omega
      · refine ⟨Nat.zero_le _, fun f0 hf0 => ?_⟩
        have s1 : Same H (upd H f0 (.lst [])) := same_new hf0
        refine ⟨.ref a, rfl, .ref a, (lv su).length, rfl, .inr ⟨_, (ta.same s1).sq, rfl⟩, ((lv su).length : Int), rfl, by omega, by rw [lv_len]; omega, ?_⟩
        refine for_range (lo := 0) (n := ((lv su).length : Int).toNat) (fun i σ H' => ∃ fo y2 y3 y4 vs', σ = [some (.ref a), some (.ref fo), y2, y3, y4] ∧ Same H H' ∧ H' fo = some (.lst vs') ∧ WordsAt H' vs' (arrI k su i))
          ⟨f0, none, none, none, [], rfl, s1, upd_same, .nil⟩ (fun i σ H' hi hp => ?_) (fun σ H' hp => ?_)
        · obtain ⟨fo, y2, y3, y4, vs', rfl, sm, hf, ws⟩ := hp
          rw [Int.toNat_natCast, lv_len] at hi
          rw [Int.zero_add]
          have tc' := ta.same sm
          obtain ⟨n, hn⟩ : ∃ n, su[i]? = some n := ⟨su[i], List.getElem?_eq_getElem hi⟩
          have hgd : su.getD i 0 = n := by rw [List.getD_eq_getElem?_getD, hn]; rfl
          refine ⟨.ref a, rfl, .int (i : Int), rfl, a, lv su, (i : Int), .int (n : Int), rfl, rfl, tc'.sq, atI_nat (lv_at hn), (n : Int), 0, rfl, rfl, _, rfl, ite2 (fun cp => ?_) (fun cp => ?_)⟩
          · have hpos : 0 < su.getD i 0 := by
              have z := of_decide_eq_true cp
              rw [hgd]
              omega
            have en : (n : Int) - 1 = ((n - 1 : Nat) : Int) := by rw [hgd] at hpos; omega
            refine ⟨.ref a, rfl, .int (i : Int), rfl, (i : Int), rfl, ?_⟩
            refine slTake tc' i fun r1 H4 s4 t4 => ?_
            refine ⟨.ref a, rfl, .int (i : Int), rfl, a, lv su, (i : Int), .int (n : Int), rfl, rfl, (tc'.same s4).sq, atI_nat (lv_at hn), (n : Int), 1, rfl, rfl, Nat.succ_le_of_lt (small1000 (Nat.zero_le _)), fun r2 hr2 => ?_⟩
            have t5 : Tw (upd H4 r2 (.tup [.int ((n : Int) - 1)])) r2 [n - 1] := by
              rw [en]
              exact Tw.of upd_same
            have s5 : Same H4 (upd H4 r2 (.tup [.int ((n : Int) - 1)])) := same_new hr2
            refine cat_tw (t4.same s5) t5 (by rw [List.length_singleton]; have := List.length_take_le i su; omega) fun r3 H6 s6 t6 => ?_
            refine ⟨.ref a, rfl, .int (i : Int), rfl, (i : Int), 1, rfl, rfl, ((i + 1 : Nat) : Int), rfl, ?_⟩
            have s46 := (s4.trans s5).trans s6
            refine slDropN (tc'.same s46) (i + 1) fun r4 H7 s7 t7 => ?_
            refine cat_tw (t6.same s7) t7 (by rw [List.length_append, List.length_singleton, List.length_drop]; have := List.length_take_le i su; omega) fun r5 H8 s8 t8 => ?_
            have s48 := (s46.trans s7).trans s8
            have td : Tw H8 r5 (dec su i) := by
              rw [← dec_cut hi, hgd]
              exact t8
            have dsum := dec_sum su i hpos
            refine ⟨.ref fo, rfl, .ref r5, rfl, r5, dec su i, rfl, td, by rw [dec_len]; exact h4, by omega, fun H9 p9 vs9 s9 hp9 ws9 => ?_⟩
            refine ⟨p9, rfl, ⟨_, SqL.of hp9⟩, fun Dl hD => ?_⟩
            have s49 := s48.trans s9
            have vl9 := Paired.length ws9
            have bnd := arrN_len k (dec su i) (by rw [dec_len]; exact h4)
            have bnd2 := arr_fit (k := k) (su := dec su i) (by rw [dec_len]; exact h4) (by omega)
            refine lc_list (K := K) (a := p9) (xs := vs9) (fun j H' => ∃ acc, H' Dl = some (.lst acc) ∧ acc.length = j ∧ WordsAt H' acc (((arrN k (dec su i)).take j).map (i :: ·)) ∧ Same H9 H') ⟨[], upd_same, rfl, .nil, same_new hD⟩ (fun j H' _ hp => ?_) (fun j x H' hx hp => ?_) (fun H' hp => ?_)
            · obtain ⟨_, _, _, _, sj⟩ := hp
              exact SqL.of (sj _ _ hp9)
            · obtain ⟨acc, hd, hl, wa, sj⟩ := hp
              obtain ⟨u, hu, q1, ex, tq⟩ := ws9.at hx
              subst ex
              have hj : j < (arrN k (dec su i)).length := (List.getElem?_eq_some_iff.mp hu).1
              have wlen := (arrN_word k (dec su i) u (List.mem_of_getElem? hu)).1
              refine ⟨rfl, .int (i : Int), rfl, Nat.succ_le_of_lt (small1000 (Nat.zero_le _)), fun r10 hr10 => ⟨.ref q1, rfl, ?_⟩⟩
              have s10 : Same H' (upd H' r10 (.tup [.int (i : Int)])) := same_new hr10
              have t10 : Tw (upd H' r10 (.tup [.int (i : Int)])) r10 [i] := Tw.of upd_same
              refine cat_tw t10 (tq.same (sj.trans s10)) (by rw [List.length_singleton]; omega) fun r11 H11 s11 t11 => ?_
              have s1011 := s10.trans s11
              have hd11 := s1011 _ _ hd
              have keep : ∀ {v : V} {u' : List Nat}, WordAt H11 v u' → WordAt (upd H11 Dl (.lst (acc ++ [.ref r11]))) v u' := fun {v u'} z => by
                obtain ⟨q2, e2, t2⟩ := z
                exact ⟨q2, e2, t2.sb SB.upd hd11 rfl⟩
              refine ⟨acc, hd11, fit2 (by omega), acc ++ [.ref r11], upd_same, by rw [List.length_append, hl]; rfl, ?_, fun b' o e => ?_⟩
              · have et : ((arrN k (dec su i)).take (j + 1)).map (i :: ·) = ((arrN k (dec su i)).take j).map (i :: ·) ++ [i :: u] := by
                  rw [List.take_add_one, hu, List.map_append]
                  rfl
                rw [et]
                exact WordsAt.append (Paired.mapP (wa.same s1011) fun _ _ z => keep z) (.cons (keep ⟨r11, rfl, t11⟩) .nil)
              · rw [upd_ne (ne_of_none e hD)]
                exact s1011 _ _ (sj _ _ e)
            · obtain ⟨acc, hd, hl, wa, sj⟩ := hp
              rw [vl9, List.take_of_length_le (Nat.le_refl _)] at wa
              have s4j := s49.trans sj
              have hfj := s4j _ _ hf
              have vlw := Paired.length ws
              have bI := arrI_fit (k := k) (i := i) h4 (by omega) (by omega)
              refine ⟨fo, Dl, vs', acc, rfl, rfl, hfj, hd, Nat.le_of_lt (fit2 (by rw [vlw, hl, vl9]; omega)), fun p12 hp12 => ?_⟩
              refine ⟨p12, _, _, _, vs' ++ acc, rfl, sm.trans (s4j.trans (same_new hp12)), upd_same, ?_⟩
              rw [arrI_succ, if_pos hpos]
              exact WordsAt.append (ws.same (s4j.trans (same_new hp12))) (wa.same (same_new hp12))
          · have hneg : ¬ 0 < su.getD i 0 := fun z => cp (decide_eq_true (by rw [hgd] at z; omega))
            refine ⟨fo, _, _, _, vs', rfl, sm, hf, ?_⟩
            rw [arrI_succ, if_neg hneg, List.append_nil]
            exact ws
        · obtain ⟨fo, y2, y3, y4, vs', rfl, sm, hf, ws⟩ := hp
          rw [Int.toNat_natCast, lv_len, arrI_full] at ws
          exact ⟨.ref fo, rfl, q H' fo vs' sm hf ws⟩
end
end Fw
namespace Fw
open PySem PySem.Spec PyProof.Rows L2 FW
/-! ### alike -/
/-- a list (ls) or a tuple at a -/
def SeqAtL (H : Hp) (ls : Bool) (a : Addr) (xs : List V) : Prop := if ls = true then H a = some (.lst xs) else Rd H a (.tup xs)
theorem SeqAtL.same {H H' : Hp} {ls : Bool} {a : Addr} {xs : List V} (h : SeqAtL H ls a xs) (s : Same H H') : SeqAtL H' ls a xs := by
  cases ls with
  | true => exact s _ _ h
  | false => exact Same.rd' s h
def lsN (ls : Bool) : String := if ls = true then "list" else "tuple"
theorem SeqAtL.ty {K : PySem.W.Frag} {H : Hp} {ls : Bool} {a : Addr} {xs : List V} (h : SeqAtL H ls a xs) : TyX K H (.ref a) (.type (lsN ls)) := by
  cases ls with
  | true => exact .base (.lst h)
  | false => exact Tw.ty h
theorem SeqAtL.len {K : PySem.W.Frag} {H : Hp} {ls : Bool} {a : Addr} {xs : List V} (h : SeqAtL H ls a xs) : LenV K (.ref a) H xs.length := by
  cases ls with
  | true => exact .inl ⟨xs, SqL.of h, rfl⟩
  | false => exact .inr ⟨xs, .inl h, rfl⟩
theorem SeqAtL.ix {K : PySem.W.Frag} {H : Hp} {ls : Bool} {a : Addr} {xs : List V} {i : Nat} {v : V} {Q : VK} (h : SeqAtL H ls a xs) (hv : xs[i]? = some v) (q : Q v H) : rIx K (.ref a) (.int (i : Int)) H Q := by
  cases ls with
  | true => exact .inl ⟨a, xs, (i : Int), v, rfl, rfl, SqL.of h, atI_nat hv, q⟩
  | false => exact .inr (.inl ⟨a, xs, (i : Int), v, rfl, rfl, .inl h, atI_nat hv, q⟩)
/-- x and y are the same data, at most n deep -/
def Al : Nat → Hp → V → V → Prop
  | 0, _, x, y => ∃ i : Int, x = .int i ∧ y = .int i
  | n + 1, H, x, y => (∃ i : Int, x = .int i ∧ y = .int i) ∨ ∃ (ls : Bool) (a b : Addr) (xs ys : List V), x = .ref a ∧ y = .ref b ∧ SeqAtL H ls a xs ∧ SeqAtL H ls b ys ∧ xs.length = ys.length ∧ ys.length ≤ 1000 ∧ ∀ (i : Nat) (u v : V), xs[i]? = some u → ys[i]? = some v → Al n H u v
theorem Al.same {H H' : Hp} (s : Same H H') : ∀ (n : Nat) {x y : V}, Al n H x y → Al n H' x y
  | 0, _, _, h => h
  | n + 1, _, _, h => by
    rcases h with h | ⟨ls, a, b, xs, ys, e1, e2, h1, h2, h3, h4, h5⟩
    · exact .inl h
    · exact .inr ⟨ls, a, b, xs, ys, e1, e2, h1.same s, h2.same s, h3, h4, fun i u v hu hv => Al.same s n (h5 i u v hu hv)⟩
theorem Al.int (n : Nat) (H : Hp) (i : Int) : Al n H (.int i) (.int i) := by
  cases n with
  | zero => exact ⟨i, rfl, rfl⟩
  | succ n => exact .inl ⟨i, rfl, rfl⟩
theorem kit_two {K : PySem.W.Frag} (ls : Bool) : PySem.W.kitAny K (.type (lsN ls)) [.type "tuple", .type "list"] = some true := by
  cases ls with
  | false => exact kitAny_cons (b := true) (kit_ty (by decide +kernel)) (fun h => nomatch h) (fun _ => rfl)
  | true => exact kitAny_cons (b := false) (kit_ty (by decide +kernel)) (fun _ => kitAny_cons (b := true) (kit_ty (by decide +kernel)) (fun h => nomatch h) (fun _ => rfl)) (fun h => nomatch h)
theorem kit_int {K : PySem.W.Frag} : PySem.W.kitAny K (.type "int") [.type "tuple", .type "list"] = some false :=
  kitAny_cons (b := false) (kit_ty (by decide +kernel)) (fun _ => kitAny_cons (b := false) (kit_ty (by decide +kernel)) (fun _ => kitAny_nil) (fun h => nomatch h)) (fun h => nomatch h)
theorem kit_ls {K : PySem.W.Frag} (ls : Bool) : PySem.W.kitOne K (.type (lsN ls)) (.type "list") = some ls := by
  cases ls with
  | false => exact kit_ty (by decide +kernel)
  | true => exact kit_ty (by decide +kernel)
section
variable {P : Program} {w : World} {K : PySem.W.Frag} {mg : Str → Option Value} {base : Heap}
def spAlike (n : Nat) : Sp := fun vs H Q _ => ∃ x y : V, vs = [x, y] ∧ Al n H x y ∧ ∀ H', Same H H' → Q (.bl true) H'
theorem ok_alike {f : Addr} {fd : FuncData} (D : Dn K mg "_law_alike" sAlike ["_law_found", "_law_due"] f fd) (B : Bt mg) : ∀ n : Nat, FnOk P w K mg base CX0 (n + 1) f fd ["_law_found", "_law_due"] (spAlike n) := by
  intro n
  induction n with
  | zero =>
    refine D.F.ok scAlike (fun vs H Q E h => ?_) (fun cdv A outer s H vs Q E hr h => ?_)
    · obtain ⟨x, y, rfl, _⟩ := h
      rfl
    · obtain ⟨x, y, rfl, ⟨i, rfl, rfl⟩, q⟩ := h
      refine ⟨_, pss_cons (ps_if (pt_val (pe_callB call_isiT (by rfl) B.isi (by decide +kernel) (pa_cons (pv 1) (pa_cons (pe_tup (pa_cons (pe_bltn (by rfl) B.tuple (by decide +kernel) (rvTy "tuple")) (pa_cons (pe_bltn (by rfl) B.list (by decide +kernel) (rvTy "list")) pa_nil))) pa_nil)))) pss_never pss_nil)
        (pss_cons (ps_if (PW.pt (pw_or (pt_cmp (pc_isN (pv 1))) (pw_or1 (pt_val (pe_callB call_isi (by rfl) B.isi (by decide +kernel) (pa_cons (pv 1) (pa_cons (pe_bltn (by rfl) B.str (by decide +kernel) (rvTy "str")) pa_nil))))))) pss_never pss_nil)
        (pss_one (ps_ret (pe_and (pe_callB call_isi (by rfl) B.isi (by decide +kernel) (pa_cons (pv 0) (pa_cons (pe_bltn (by rfl) B.int (by decide +kernel) (rvTy "int")) pa_nil)))
          (pe_and (pe_cmpR op_eq (pe_callB call_isi (by rfl) B.isi (by decide +kernel) (pa_cons (pv 0) (pa_cons (pe_bltn (by rfl) B.bool (by decide +kernel) (rvTy "bool")) pa_nil))) (pe_callB call_isi (by rfl) B.isi (by decide +kernel) (pa_cons (pv 1) (pa_cons (pe_bltn (by rfl) B.bool (by decide +kernel) (rvTy "bool")) pa_nil))) (nomark _))
            (pe_one (pe_cmpR op_eq (pv 0) (pv 1) (nomark _)))))))), ?_⟩
      refine ⟨.int i, rfl, (show 2 ≤ sizeLine by decide), fun tp htp => ?_⟩
      refine ⟨.int i, tp, [.ty "tuple", .ty "list"], .type "int", [.type "tuple", .type "list"], false, rfl, upd_same, .cons (.ty _) (.cons (.ty _) .nil), .base (.int i), kit_int, false, rfl, iteF ?_⟩
      refine ⟨.int i, rfl, false, rfl, iteF ⟨.int i, rfl, .int i, .ty "str", .type "int", .type "str", false, rfl, .ty _, .base (.int i), kit_ty (by decide +kernel), false, rfl, iteF ?_⟩⟩
      refine ⟨.int i, rfl, .int i, .ty "int", .type "int", .type "int", true, rfl, .ty _, .base (.int i), kit_ty (by decide +kernel), true, rfl, iteT ?_⟩
      refine ⟨.int i, rfl, .int i, .ty "bool", .type "int", .type "bool", false, rfl, .ty _, .base (.int i), kit_ty (by decide +kernel), .int i, rfl, .int i, .ty "bool", .type "int", .type "bool", false, rfl, .ty _, .base (.int i), kit_ty (by decide +kernel), rfl, true, rfl, iteT ?_⟩
      refine ⟨.int i, rfl, .int i, rfl, rfl, ?_⟩
      rw [decide_eq_true (rfl : V.int i = V.int i)]
      exact q _ (same_new htp)
  | succ n ih =>
    refine D.F.ok scAlike (fun vs H Q E h => ?_) (fun cdv A outer s H vs Q E hr h => ?_)
    · obtain ⟨x, y, rfl, _⟩ := h
      rfl
    · obtain ⟨x, y, rfl, al, q⟩ := h
      refine ⟨_, pss_cons (ps_if (pt_val (pe_callB call_isiT (by rfl) B.isi (by decide +kernel) (pa_cons (pv 1) (pa_cons (pe_tup (pa_cons (pe_bltn (by rfl) B.tuple (by decide +kernel) (rvTy "tuple")) (pa_cons (pe_bltn (by rfl) B.list (by decide +kernel) (rvTy "list")) pa_nil))) pa_nil))))
          (pss_cons (ps_if (PW.pt (pw_or (pt_not (pt_val (pe_callB call_isiT (by rfl) B.isi (by decide +kernel) (pa_cons (pv 0) (pa_cons (pe_tup (pa_cons (pe_bltn (by rfl) B.tuple (by decide +kernel) (rvTy "tuple")) (pa_cons (pe_bltn (by rfl) B.list (by decide +kernel) (rvTy "list")) pa_nil))) pa_nil)))))
            (pw_or1 (pt_cmpR op_ne (pe_callB call_isi (by rfl) B.isi (by decide +kernel) (pa_cons (pv 0) (pa_cons (pe_bltn (by rfl) B.list (by decide +kernel) (rvTy "list")) pa_nil))) (pe_callB call_isi (by rfl) B.isi (by decide +kernel) (pa_cons (pv 1) (pa_cons (pe_bltn (by rfl) B.list (by decide +kernel) (rvTy "list")) pa_nil))) (nomark _))))) pss_never pss_nil)
          (pss_cons (ps_if (pt_cmpR op_ne (pe_callB call_len (by rfl) B.len PySem.boot_len (pa_cons (pv 0) pa_nil)) (pe_callB call_len (by rfl) B.len PySem.boot_len (pa_cons (pv 1) pa_nil)) (nomark _)) pss_never pss_nil)
          (pss_one (ps_ret (pe_cmpR (op_eqD hr.units) (pe_lc (own := [("_law_k", 2)]) (g := gName 2) (tt := tNot (tB (tCall (spAlike n) [] E0 (tCons (tOp (rIx K) (tVar 0) (tVar 2)) (tCons (tOp (rIx K) (tVar 1) (tVar 2)) tNil))))) rfl scAlike.nd
            (pi_range1 rfl B.range (pa_cons (pe_callB call_len (by rfl) B.len PySem.boot_len (pa_cons (pv 1) pa_nil)) pa_nil)) (blkOk_by (N := ["_law_found", "_law_due", "_law_k"]) (sc := defScope sAlike) (by decide +kernel)) (fun _ _ _ _ _ => pg_name (i := 2) scAlike.nd rfl (Or.inl rfl))
            (fun _ _ _ _ _ => pts_one (pt_not (pt_val (pe_call ih hr (by rfl) D.g D.F.kp D.b .nil pass0 (pa_cons (pe_ix ix_seq (pv 0) (pv 2) (fun _ _ => rfl)) (pa_cons (pe_ix ix_seq (pv 1) (pv 2) (fun _ _ => rfl)) pa_nil)))))) (fun _ _ _ _ _ => pv 2)) (pe_lst pa_nil) (nomark _)))))) pss_nil)
        (pss_cons (ps_if (PW.pt (pw_or (pt_cmp (pc_isN (pv 1))) (pw_or1 (pt_val (pe_callB call_isi (by rfl) B.isi (by decide +kernel) (pa_cons (pv 1) (pa_cons (pe_bltn (by rfl) B.str (by decide +kernel) (rvTy "str")) pa_nil))))))) pss_never pss_nil)
        (pss_one (ps_ret (pe_and (pe_callB call_isi (by rfl) B.isi (by decide +kernel) (pa_cons (pv 0) (pa_cons (pe_bltn (by rfl) B.int (by decide +kernel) (rvTy "int")) pa_nil)))
          (pe_and (pe_cmpR op_eq (pe_callB call_isi (by rfl) B.isi (by decide +kernel) (pa_cons (pv 0) (pa_cons (pe_bltn (by rfl) B.bool (by decide +kernel) (rvTy "bool")) pa_nil))) (pe_callB call_isi (by rfl) B.isi (by decide +kernel) (pa_cons (pv 1) (pa_cons (pe_bltn (by rfl) B.bool (by decide +kernel) (rvTy "bool")) pa_nil))) (nomark _))
            (pe_one (pe_cmpR op_eq (pv 0) (pv 1) (nomark _)))))))), ?_⟩
      rcases al with ⟨i, rfl, rfl⟩ | ⟨ls, a, b, xs, ys, rfl, rfl, ha, hb, hl, hz, each⟩
      · refine ⟨.int i, rfl, (show 2 ≤ sizeLine by decide), fun tp htp => ?_⟩
        refine ⟨.int i, tp, [.ty "tuple", .ty "list"], .type "int", [.type "tuple", .type "list"], false, rfl, upd_same, .cons (.ty _) (.cons (.ty _) .nil), .base (.int i), kit_int, false, rfl, iteF ?_⟩
        refine ⟨.int i, rfl, false, rfl, iteF ⟨.int i, rfl, .int i, .ty "str", .type "int", .type "str", false, rfl, .ty _, .base (.int i), kit_ty (by decide +kernel), false, rfl, iteF ?_⟩⟩
        refine ⟨.int i, rfl, .int i, .ty "int", .type "int", .type "int", true, rfl, .ty _, .base (.int i), kit_ty (by decide +kernel), true, rfl, iteT ?_⟩
        refine ⟨.int i, rfl, .int i, .ty "bool", .type "int", .type "bool", false, rfl, .ty _, .base (.int i), kit_ty (by decide +kernel), .int i, rfl, .int i, .ty "bool", .type "int", .type "bool", false, rfl, .ty _, .base (.int i), kit_ty (by decide +kernel), rfl, true, rfl, iteT ?_⟩
        refine ⟨.int i, rfl, .int i, rfl, rfl, ?_⟩
        rw [decide_eq_true (rfl : V.int i = V.int i)]
        exact q _ (same_new htp)
      · refine ⟨.ref b, rfl, (show 2 ≤ sizeLine by decide), fun tp htp => ?_⟩
        have s1 : Same H (upd H tp (.tup [.ty "tuple", .ty "list"])) := same_new htp
        refine ⟨.ref b, tp, [.ty "tuple", .ty "list"], .type (lsN ls), [.type "tuple", .type "list"], true, rfl, upd_same, .cons (.ty _) (.cons (.ty _) .nil), (hb.same s1).ty, kit_two ls, true, rfl, iteT ?_⟩
        refine ⟨.ref a, rfl, (show 2 ≤ sizeLine by decide), fun tp2 htp2 => ?_⟩
        have s2 := s1.trans (same_new (o := .tup [.ty "tuple", .ty "list"]) htp2)
        refine ⟨.ref a, tp2, [.ty "tuple", .ty "list"], .type (lsN ls), [.type "tuple", .type "list"], true, rfl, upd_same, .cons (.ty _) (.cons (.ty _) .nil), (ha.same s2).ty, kit_two ls, true, rfl, iteF ?_⟩
        refine ⟨.ref a, rfl, .ref a, .ty "list", .type (lsN ls), .type "list", ls, rfl, .ty _, (ha.same s2).ty, kit_ls ls, .ref b, rfl, .ref b, .ty "list", .type (lsN ls), .type "list", ls, rfl, .ty _, (hb.same s2).ty, kit_ls ls, rfl, _, rfl, iteNS rfl ?_⟩
        refine ⟨.ref a, rfl, .ref a, xs.length, rfl, (ha.same s2).len, .ref b, rfl, .ref b, ys.length, rfl, (hb.same s2).len, rfl, _, rfl, iteNS (by rw [hl]) ?_⟩
        refine ⟨.ref b, rfl, .ref b, ys.length, rfl, (hb.same s2).len, (ys.length : Int), rfl, by omega, by omega, fun Dl hD => ?_⟩
        rw [Int.toNat_natCast]
        refine lc_range (lo := 0) (n := ys.length) (fun i H' => H' Dl = some (.lst []) ∧ Same H H') ⟨upd_same, s2.trans (same_new hD)⟩ (fun i H' hi hp => ?_) (fun H' hp => ?_)
        · obtain ⟨hd, sm⟩ := hp
          rw [Int.zero_add]
          have hx : xs[i]? = some (xs[i]'(by omega)) := List.getElem?_eq_getElem (by omega)
          have hy : ys[i]? = some ys[i] := List.getElem?_eq_getElem hi
          refine ⟨rfl, .ref a, rfl, .int (i : Int), rfl, (ha.same sm).ix hx ⟨.ref b, rfl, .int (i : Int), rfl, (hb.same sm).ix hy ?_⟩⟩
          refine ⟨_, _, rfl, Al.same sm n (each i _ _ hx hy), fun H2 s3 => ⟨true, rfl, ?_⟩⟩
          exact ⟨s3 _ _ hd, sm.trans s3⟩
        · obtain ⟨hd, sm⟩ := hp
          refine ⟨Nat.zero_le _, fun e0 he0 => ?_⟩
          refine ⟨.list [], .list [], .lst (SqL.of (same_new he0 _ _ hd)) .nil, .lst (SqL.of upd_same) .nil, rfl, rfl, ?_⟩
          exact q _ (sm.trans (same_new he0))
end
end Fw
namespace Fw
open PySem PySem.Spec PyProof.Rows L2 FW
open PySem.W (Datum DatumOrd Tup)
/-! ### the law's rows and what is due -/
/-- a word with so many met, the least of these -/
structure Due (vals sl : List Nat) (k : Nat) (su : List Nat) (M : Int) (wd : List Nat) : Prop where
  mem : wd ∈ arrN k su
  val : (cost vals sl wd : Int) = M
  least : ∀ u ∈ arrN k su, (cost vals sl u : Int) = M → ltL (nz u) (nz wd) = false
def rowsOf (vals sl : List Nat) (us : List (List Nat)) : List (Int × List Nat) := us.map fun u => ((cost vals sl u : Int), u)
theorem rowsOf_mem {vals sl : List Nat} {us : List (List Nat)} {c : Int × List Nat} : c ∈ rowsOf vals sl us ↔ c.2 ∈ us ∧ c.1 = (cost vals sl c.2 : Int) := by
  unfold rowsOf
  rw [List.mem_map]
  constructor
  · rintro ⟨u, hu, e⟩
    subst e
    exact ⟨hu, rfl⟩
  · rintro ⟨h1, h2⟩
    refine ⟨c.2, h1, ?_⟩
    rw [← h2]
def those (cs : List (Int × List Nat)) (M : Int) : List (List Nat) := (cs.filter fun c => decide (c.1 = M)).map (·.2)
theorem those_mem {vals sl : List Nat} {us : List (List Nat)} {M : Int} {u : List Nat} : u ∈ those (rowsOf vals sl us) M ↔ u ∈ us ∧ (cost vals sl u : Int) = M := by
  unfold those
  rw [List.mem_map]
  constructor
  · rintro ⟨c, hc, e⟩
    obtain ⟨h1, h2⟩ := List.mem_filter.mp hc
    obtain ⟨h3, h4⟩ := rowsOf_mem.mp h1
    have h5 := of_decide_eq_true h2
    subst e
    exact ⟨h3, by rw [← h4]; exact h5⟩
  · rintro ⟨h1, h2⟩
    exact ⟨((cost vals sl u : Int), u), List.mem_filter.mpr ⟨rowsOf_mem.mpr ⟨h1, rfl⟩, decide_eq_true h2⟩, rfl⟩
theorem those_take_succ (cs : List (Int × List Nat)) (M : Int) (j : Nat) (c : Int × List Nat) (h : cs[j]? = some c) : those (cs.take (j + 1)) M = those (cs.take j) M ++ (if decide (c.1 = M) = true then [c.2] else []) := by
  unfold those
  rw [List.take_add_one, h]
  show ((cs.take j ++ [c]).filter _).map _ = _
  rw [List.filter_append, List.map_append, List.filter_cons]
  by_cases e : decide (c.1 = M) = true
  · rw [if_pos e, if_pos e]
    rfl
  · rw [if_neg e, if_neg e]
    rfl
theorem those_len (cs : List (Int × List Nat)) (M : Int) : (those cs M).length ≤ cs.length := by
  unfold those
  rw [List.length_map]
  exact List.length_filter_le _ _
theorem words_dp {K : PySem.W.Frag} {H : Hp} : ∀ {vs : List V} {us : List (List Nat)}, WordsAt H vs us → DpAll K H vs ((us.map fun u => Tup.mk (nz u)).map Datum.toD)
  | _, _, .nil => .nil
  | _, _, .cons r t => by
    obtain ⟨q, rfl, h⟩ := r
    exact .cons (dp_word h) (words_dp t)
theorem PairsAt.same {H H' : Hp} {vs : List V} {cs : List (Int × List Nat)} (h : PairsAt H vs cs) (s : Same H H') : PairsAt H' vs cs := Paired.mapP h fun _ _ z => z.same s
theorem PairsAt.sb {x : Addr} {H H' : Hp} {o : HO} {vs : List V} {cs : List (Int × List Nat)} (h : PairsAt H vs cs) (s : SB x H H') (hx : H x = some o) (c : chg o = true) : PairsAt H' vs cs := Paired.mapP h fun _ _ z => z.sb s hx c
theorem PairsAt.row {H : Hp} : ∀ {vs : List V} {cs : List (Int × List Nat)} {i : Nat} {v : V}, PairsAt H vs cs → vs[i]? = some v → ∃ c, cs[i]? = some c ∧ PairAt H v c
  | _, _, _, _, .nil, h => by simp at h
  | _, _, 0, _, .cons r _, h => by
    have e := Option.some.inj (show some _ = some _ from h)
    subst e
    exact ⟨_, rfl, r⟩
  | _, _, i + 1, _, .cons _ t, h => PairsAt.row (i := i) t h
theorem WordsAt.sb {x : Addr} {H H' : Hp} {o : HO} {vs : List V} {us : List (List Nat)} (h : WordsAt H vs us) (s : SB x H H') (hx : H x = some o) (c : chg o = true) : WordsAt H' vs us := Paired.mapP h fun _ _ z => by
  obtain ⟨q, e, t⟩ := z
  exact ⟨q, e, t.sb s hx c⟩
theorem al_words {H : Hp} {a b : Addr} {u : List Nat} (n : Nat) (h1 : Tw H a u) (h2 : Tw H b u) (hl : u.length ≤ 1000) : Al (n + 1) H (.ref a) (.ref b) := by
  refine .inr ⟨false, a, b, lv u, lv u, rfl, rfl, h1, h2, rfl, by rw [lv_len]; exact hl, fun i x y hx hy => ?_⟩
  rw [hx] at hy
  cases hy
  obtain ⟨m, _, rfl⟩ := lv_one hx
  exact Al.int n H _
theorem al_pairs {H : Hp} {x y : V} {c : Int × List Nat} (n : Nat) (h1 : PairAt H x c) (h2 : PairAt H y c) (hl : c.2.length ≤ 1000) : Al (n + 2) H x y := by
  obtain ⟨p, q, rfl, hp, tq⟩ := h1
  obtain ⟨p', q', rfl, hp', tq'⟩ := h2
  refine .inr ⟨false, p, p', _, _, rfl, rfl, .inl hp, .inl hp', rfl, (show 2 ≤ 1000 by decide), fun i u v hu hv => ?_⟩
  match i, hu, hv with
  | 0, hu, hv =>
    have e1 := Option.some.inj (show some _ = some _ from hu)
    have e2 := Option.some.inj (show some _ = some _ from hv)
    subst e1 e2
    exact Al.int (n + 1) H _
  | 1, hu, hv =>
    have e1 := Option.some.inj (show some _ = some _ from hu)
    have e2 := Option.some.inj (show some _ = some _ from hv)
    subst e1 e2
    exact al_words n tq tq' hl
  | i + 2, hu, _ => simp at hu
theorem counts_succ (u : List Nat) (i : Nat) : counts u (i + 1) = counts u i ++ [u.count i] := by
  unfold counts
  rw [List.range_succ, List.map_append]
  rfl
/-! ### the columns of the rows -/
section
variable {K : PySem.W.Frag} {H : Hp} {y0 y1 y2 y3 y4 y5 y6 y7 y9 y10 y11 y12 y13 y14 : Option V} {pr : Addr} {acc : List V} {cs : List (Int × List Nat)} {Q : VK}
/-- what a comprehension over the list at a is to show, the new list at D -/
def LcGoal (K : PySem.W.Frag) (a D : Addr) (g : TG) (tt : TT) (te : TE) (vs : List Nat) (σ : L2.St) (H : Hp) (Qd : Hp → Prop) : Prop :=
  ∃ W : Nat → Nat → Hp → Prop, (∃ m, W 0 m (upd H D (.lst []))) ∧ ∀ i m H, W i m H → ((Itl K a).stop i H ∧ Qd H) ∨ ((Itl K a).go i H ∧ ∃ Nx : Hp → Prop, (∀ H', Nx H' → ∃ m', m' < m ∧ W (i + 1) m' H') ∧
    ∀ x H', (Itl K a).yld i H x H' → g x (wipe σ vs) H' fun σ2 H2 => wipe σ2 vs = wipe σ vs ∧ tt σ2 H2 fun b H3 => if b = true then te σ2 H3 fun y H4 => ∃ acc, H4 D = some (.lst acc) ∧ acc.length < sizeLine ∧ Nx (upd H4 D (.lst (acc ++ [y]))) else Nx H3)
def tCol0 (K : PySem.W.Frag) : TE := tLc (iList K (tVar 8)) (gName 13) tYes (tOp (rIxT K) (tVar 13) (tC (.int 0))) [13]
theorem col0 {D : Addr} {Qd : Hp → Prop} (hr : H pr = some (.lst acc)) (pa : PairsAt H acc cs) (hl : acc.length ≤ 10000) (hD : H D = none) (q : ∀ H', Same H H' → H' D = some (.lst (cs.map fun c => V.int c.1)) → Qd H') :
    LcGoal K pr D (gName 13) tYes (tOp (rIxT K) (tVar 13) (tC (.int 0))) [13] [y0, y1, y2, y3, y4, y5, y6, y7, some (.ref pr), y9, y10, y11, y12, y13, y14] H Qd := by
  have hlen := pa.len
  refine lc_list (K := K) (a := pr) (xs := acc) (fun j H' => H' D = some (.lst ((cs.take j).map fun c => V.int c.1)) ∧ Same H H') ⟨upd_same, same_new hD⟩ (fun j H' _ hp => SqL.of (hp.2 _ _ hr)) (fun j x H' hx hp => ?_) (fun H' hp => ?_)
  · obtain ⟨hd, sm⟩ := hp
    obtain ⟨c, hc, p, q', ex, hp', tq⟩ := pa.row hx
    subst ex
    have hj : j < cs.length := (List.getElem?_eq_some_iff.mp hc).1
    refine ⟨rfl, .ref p, rfl, p, _, 0, .int c.1, rfl, rfl, SqT.of (sm _ _ hp'), atI_nat (j := 0) rfl, _, hd, ?_, ?_, fun b o e => ?_⟩
    · rw [List.length_map, List.length_take]
      exact fit2 (by omega)
    · rw [upd_same, List.take_add_one, hc, List.map_append]
      rfl
    · rw [upd_ne (ne_of_none e hD)]
      exact sm b o e
  · obtain ⟨hd, sm⟩ := hp
    rw [hlen, List.take_of_length_le (Nat.le_refl _)] at hd
    exact q H' sm hd
def tColF (K : PySem.W.Frag) : TE := tLc (iList K (tVar 8)) (gName 13) (tTest (tOp rEq (tOp (rIxT K) (tVar 13) (tC (.int 0))) (tVar 14))) (tOp (rIxT K) (tVar 13) (tC (.int 1))) [13]
theorem colF {M : Int} {D : Addr} {Qd : Hp → Prop} (hr : H pr = some (.lst acc)) (pa : PairsAt H acc cs) (hl : acc.length ≤ 10000) (hD : H D = none) (q : ∀ H' vs, Same H H' → H' D = some (.lst vs) → WordsAt H' vs (those cs M) → Qd H') :
    LcGoal K pr D (gName 13) (tTest (tOp rEq (tOp (rIxT K) (tVar 13) (tC (.int 0))) (tVar 14))) (tOp (rIxT K) (tVar 13) (tC (.int 1))) [13] [y0, y1, y2, y3, y4, y5, y6, y7, some (.ref pr), y9, y10, y11, y12, y13, some (.int M)] H Qd := by
  have hlen := pa.len
  refine lc_list (K := K) (a := pr) (xs := acc) (fun j H' => ∃ vs, H' D = some (.lst vs) ∧ WordsAt H' vs (those (cs.take j) M) ∧ Same H H') ⟨[], upd_same, .nil, same_new hD⟩ (fun j H' _ hp => ?_) (fun j x H' hx hp => ?_) (fun H' hp => ?_)
  · obtain ⟨_, _, _, sm⟩ := hp
    exact SqL.of (sm _ _ hr)
  · obtain ⟨vs, hd, wa, sm⟩ := hp
    obtain ⟨c, hc, p, q', ex, hp', tq⟩ := pa.row hx
    subst ex
    have hj : j < cs.length := (List.getElem?_eq_some_iff.mp hc).1
    have hpt := sm _ _ hp'
    refine ⟨rfl, .ref p, rfl, p, _, 0, .int c.1, rfl, rfl, SqT.of hpt, atI_nat (j := 0) rfl, .int M, rfl, rfl, _, rfl, ?_⟩
    have ed : decide (V.int c.1 = V.int M) = decide (c.1 = M) := decide_eq_decide.mpr ⟨fun z => V.int.inj z, fun z => by rw [z]⟩
    rw [ed]
    have vl : vs.length ≤ 10000 := by
      have z1 := Paired.length wa
      have z2 := those_len (cs.take j) M
      rw [List.length_take] at z2
      omega
    refine ite2 (fun e => ?_) (fun e => ?_)
    · refine ⟨.ref p, rfl, p, _, 1, .ref q', rfl, rfl, SqT.of hpt, atI_nat (j := 1) rfl, vs, hd, fit2 vl, vs ++ [.ref q'], upd_same, ?_, fun b o e => ?_⟩
      · rw [those_take_succ cs M j c hc, if_pos e]
        exact WordsAt.append (wa.sb SB.upd hd rfl) (.cons ⟨q', rfl, (tq.same sm).sb SB.upd hd rfl⟩ .nil)
      · rw [upd_ne (ne_of_none e hD)]
        exact sm b o e
    · refine ⟨vs, hd, ?_, sm⟩
      rw [those_take_succ cs M j c hc, if_neg e, List.append_nil]
      exact wa
  · obtain ⟨vs, hd, wa, sm⟩ := hp
    rw [hlen, List.take_of_length_le (Nat.le_refl _)] at wa
    exact q H' vs sm hd wa
end
/-- a due word, out of those with that number -/
theorem due_of {vals sl su : List Nat} {k i : Nat} {M : Int} {x : Tup Int} (hx : ((those (rowsOf vals sl (arrN k su)) M).map fun u => Tup.mk (nz u))[i]? = some x)
    (hmin : ∀ z ∈ (those (rowsOf vals sl (arrN k su)) M).map (fun u => Tup.mk (nz u)), DatumOrd.lt z x = false) : ∃ wd, (those (rowsOf vals sl (arrN k su)) M)[i]? = some wd ∧ Due vals sl k su M wd := by
  rw [List.getElem?_map] at hx
  obtain ⟨wd, h1, h2⟩ := Option.map_eq_some_iff.mp hx
  obtain ⟨h3, h4⟩ := those_mem.mp (List.mem_of_getElem? h1)
  refine ⟨wd, h1, h3, h4, fun u hu hc => ?_⟩
  have z := hmin (Tup.mk (nz u)) (List.mem_map.mpr ⟨u, those_mem.mpr ⟨hu, hc⟩, rfl⟩)
  rw [ltT_is, ← h2] at z
  exact z
def rLen (K : PySem.W.Frag) : List V → Hp → VK → Prop := fun xs H Q => ∃ x n, xs = [x] ∧ LenV K x H n ∧ Q (.int n) H
theorem call_lenK {X : Cx} : CallR X (.builtin "len") (rLen X.K) := call_len
theorem RowL.tw {H H' : Hp} {r sa b : Addr} {u : List Nat} (h : RowL H r sa) (t : Tw H b u) (s : SB r H H') : Tw H' b u := by
  obtain ⟨p, sd, c, e, _⟩ := h
  exact t.sb s e rfl
theorem RowL.frz {H H' : Hp} {r sa b : Addr} {o : Obj} {u : HO} (h : RowL H r sa) (t : H b = some (.frz o u)) (s : SB r H H') : H' b = some (.frz o u) := by
  obtain ⟨p, sd, c, e, _⟩ := h
  exact s _ _ (ne_of t e (fun z => nomatch z)) t
end Fw
namespace Fw
open PySem PySem.Spec PyProof.Rows L2 FW
open PySem.W (Datum DatumOrd Tup)
abbrev NL : List Str := ["_law_script", "_law_row", "_law_values_here", "_law_many", "_law_slate", "_law_word_here", "_law_some", "_law_supply", "_law_rows", "_law_most", "_law_fewest", "_law_due", "_law_letter", "_law_told", "_law_many_met"]
/-- the scope of the comprehension that a statement stores -/
def lcScope : Stmt → Scope
  | .Assign _ (.ListComp _ _ sc _) _ => sc
  | _ => { kind := .function, names := [], isGenerator := false, isCoroutine := false }
abbrev dueScope : Scope := lcScope ((defBody sLaw).getD 9 (.Pass ⟨0, 0, 0, 0⟩))
section
variable {P : Program} {w : World} {K : PySem.W.Frag} {mg : Str → Option Value} {base : Heap}
variable {f1 f2 f3 f4 f5 f6 f7 f8 f9 f10 : Addr} {d1 d2 d3 d4 d5 d6 d7 d8 d9 d10 : FuncData}
/-- the law's own defs, and the program's that it calls -/
structure Lw (K : PySem.W.Frag) (mg : Str → Option Value) (g1 g2 g3 g4 g5 g6 g7 g8 g9 g10 g11 : Addr) (e1 e2 e3 e4 e5 e6 e7 e8 e9 e10 e11 : FuncData) : Prop where
  ta : Dn K mg "_law_taken" sTaken ["_law_row", "_law_many"] g1 e1
  va : Dn K mg "_law_values" sValues ["_law_row", "_law_most", "_law_top"] g2 e2
  wo : Dn K mg "_law_word" sWord ["_law_row", "_law_many", "_law_most"] g3 e3
  pi : Dn K mg "_law_pick" sPick ["_law_row", "_law_things"] g4 e4
  al : Dn K mg "_law_alike" sAlike ["_law_found", "_law_due"] g5 e5
  wr : Dn K mg "_law_write" sWrite ["_law_values_here", "_law_slate", "_law_word_here"] g6 e6
  me : Dn K mg "_law_met" sLMet ["_law_values_here", "_law_slate", "_law_word_here"] g7 e7
  ar : Dn K mg "_law_arranged" sArranged ["_law_supply"] g8 e8
  met : Dn K mg "met" sMet ["values", "slate", "word"] g9 e9
  most : Dn K mg "most_met" sMost ["values", "slate", "supply"] g10 e10
  few : Dn K mg "fewest_met" sFewest ["values", "slate", "supply"] g11 e11
variable {g1 g2 g3 g4 g5 g6 g7 g8 g9 g10 g11 : Addr} {e1 e2 e3 e4 e5 e6 e7 e8 e9 e10 e11 : FuncData}
def spArrAny (K : PySem.W.Frag) : Sp := fun vs H Q E => ∃ k, k ≤ 6 ∧ spArr K k vs H Q E
theorem ok_arrAny (D : Dn K mg "_law_arranged" sArranged ["_law_supply"] g8 e8) (B : Bt mg) : FnOk P w K mg base CX0 7 g8 e8 ["_law_supply"] (spArrAny K) :=
  ⟨fun vs H Q E h => by
    obtain ⟨k, hk, h'⟩ := h
    exact ((ok_arr (P := P) (w := w) (base := base) D B k hk).len vs H Q E h'),
  fun A outer s H args us vs Q E hr he hb hv h => by
    obtain ⟨k, hk, h'⟩ := h
    exact ((ok_arr D B k hk).mono (by omega)).run A outer s H args us vs Q E hr he hb hv h'⟩
def spLaw (K : PySem.W.Frag) : Sp := fun vs H Q _ => ∃ (a : Addr) (ns : List Int), vs = [.ref a] ∧ SqL K H a (ns.map V.int) ∧ ns.length ≤ 63 ∧ ∀ H', Q (.bl true) H'
theorem ok_law {f : Addr} {fd : FuncData} (D : Fun K "law" "law" sLaw f fd) (L : Lw K mg g1 g2 g3 g4 g5 g6 g7 g8 g9 g10 g11 e1 e2 e3 e4 e5 e6 e7 e8 e9 e10 e11) (Z : Chk K mg f1 f2 f3 f4 f5 f6 f7 f8 f9 f10 d1 d2 d3 d4 d5 d6 d7 d8 d9 d10) (B : Bt mg) (C : Ct mg) :
    FnOk P w K mg base CX0 10 f fd ["_law_script"] (spLaw K) := by
  have GV : FnOk P w K mg base CX0 2 g2 e2 ["_law_row", "_law_most", "_law_top"] (spValues K) := ok_values L.va L.ta B
  have GW : FnOk P w K mg base CX0 2 g3 e3 ["_law_row", "_law_many", "_law_most"] (spWordL K) := ok_word L.wo L.ta B
  have GP : FnOk P w K mg base CX0 2 g4 e4 ["_law_row", "_law_things"] (spPick K) := ok_pick L.pi L.ta B
  have GA1 : FnOk P w K mg base CX0 2 g5 e5 ["_law_found", "_law_due"] (spAlike 1) := ok_alike L.al B 1
  have GA3 : FnOk P w K mg base CX0 4 g5 e5 ["_law_found", "_law_due"] (spAlike 3) := ok_alike L.al B 3
  have GL : FnOk P w K mg base CX0 2 g7 e7 ["_law_values_here", "_law_slate", "_law_word_here"] (spLMet K) := ok_lmet L.me L.wr B
  have GR : FnOk P w K mg base CX0 7 g8 e8 ["_law_supply"] (spArrAny K) := ok_arrAny L.ar B
  have GM : FnOk P w K mg base CX0 5 g9 e9 ["values", "slate", "word"] (spMet K) := ok_met L.met Z.nv Z.ns Z.nw Z.st Z.tu Z.wr Z.wi Z.wh B C
  have GX : FnOk P w K mg base CX0 9 g10 e10 ["values", "slate", "supply"] (spMostF K 1 fun m => -m) := ok_most L.most Z B C
  have GN : FnOk P w K mg base CX0 9 g11 e11 ["values", "slate", "supply"] (spMostF K (-1) fun m => m) := ok_fewest L.few Z B C
  refine D.ok scLaw (fun vs H Q E h => ?_) (fun cdv A outer s H vs Q E hr h => ?_)
  · obtain ⟨a, ns, rfl, _⟩ := h
    rfl
  · obtain ⟨a, ns, rfl, hS, hlen, q⟩ := h
    have hr2 : Room 2 _ := hr.mono (by decide)
    have hr4 : Room 4 _ := hr.mono (by decide)
    have hr5 : Room 5 _ := hr.mono (by decide)
    have hr7 : Room 7 _ := hr.mono (by decide)
    refine ⟨_, pss_cons (ps_set (i := 1) scLaw.nd rfl (.inl rfl) (pe_lst (pa_cons (pv 0) (pa_cons pe_int (pa_cons pe_int (pa_cons pe_int pa_nil))))))
      (pss_cons (ps_set (i := 2) scLaw.nd rfl (.inr rfl) (pe_call GV hr2 (by rfl) L.va.g L.va.F.kp L.va.b .nil pass0 (pa_cons (pv 1) (pa_cons pe_int (pa_cons pe_int pa_nil)))))
      (pss_cons (ps_set (i := 3) scLaw.nd rfl (.inl rfl) (pe_callB call_len (by rfl) B.len PySem.boot_len (pa_cons (pv 2) pa_nil)))
      (pss_cons (ps_asg (pe_tup (pa_cons (pe_call GW hr2 (by rfl) L.wo.g L.wo.F.kp L.wo.b .nil pass0 (pa_cons (pv 1) (pa_cons (pv 3) (pa_cons (pe_call GP hr2 (by rfl) L.pi.g L.pi.F.kp L.pi.b .nil pass0 (pa_cons (pv 1) (pa_cons (pe_lst (pa_cons pe_int (pa_cons pe_int (pa_cons pe_int pa_nil)))) pa_nil))) pa_nil))))
          (pa_cons (pe_call GW hr2 (by rfl) L.wo.g L.wo.F.kp L.wo.b .nil pass0 (pa_cons (pv 1) (pa_cons (pv 3) (pa_cons pe_int pa_nil)))) pa_nil))) (pg_tup rfl (pgs_cons (pg_name (i := 4) scLaw.nd rfl (.inr rfl)) (pgs_cons (pg_name (i := 5) scLaw.nd rfl (.inl rfl)) pgs_nil))))
      (pss_cons (ps_if (pt_not (pt_val (pe_call GA1 hr2 (by rfl) L.al.g L.al.F.kp L.al.b .nil pass0 (pa_cons (pe_call GM hr5 (by rfl) L.met.g L.met.F.kp L.met.b .nil pass0 (pa_cons (pv 2) (pa_cons (pv 4) (pa_cons (pv 5) pa_nil))))
          (pa_cons (pe_callTy call_tuple_of (by rfl) B.tuple (by decide +kernel) (pa_cons (pe_call GL hr2 (by rfl) L.me.g L.me.F.kp L.me.b .nil pass0 (pa_cons (pv 2) (pa_cons (pv 4) (pa_cons (pv 5) pa_nil)))) pa_nil)) pa_nil))))) pss_never pss_nil)
      (pss_cons (ps_set (i := 6) scLaw.nd rfl (.inr rfl) (pe_call GW hr2 (by rfl) L.wo.g L.wo.F.kp L.wo.b .nil pass0 (pa_cons (pv 1) (pa_cons (pv 3) (pa_cons pe_int pa_nil)))))
      (pss_cons (ps_set (i := 7) scLaw.nd rfl (.inl rfl) (pe_callTy call_tuple_of (by rfl) B.tuple (by decide +kernel) (pa_cons
          (pe_lc (own := [("_law_letter", 12)]) (g := gName 12) (tt := tYes) (te := tTCount K (tVar 6) (tVar 12)) rfl scLaw.nd (pi_range1 rfl B.range (pa_cons (pv 3) pa_nil)) (blkOk_by (N := NL) (sc := defScope sLaw) (by decide +kernel)) (fun _ _ _ _ _ => pg_name (i := 12) scLaw.nd rfl (Or.inl rfl)) (fun _ _ _ _ _ => pts_nil)
            (fun _ _ _ _ _ => pe_tcount hr (pv 6) (pv 12))) pa_nil)))
      (pss_cons (ps_set (i := 8) scLaw.nd rfl (.inr rfl)
          (pe_lc (own := [("_law_told", 13)]) (g := gName 13) (tt := tYes) (te := tTup (tCons (tCB (rLen K) (tCons (tCall (spLMet K) [] E0 (tCons (tVar 2) (tCons (tVar 4) (tCons (tVar 13) tNil)))) tNil)) (tCons (tVar 13) tNil))) rfl scLaw.nd
            (pi_list (pe_call GR hr7 (by rfl) L.ar.g L.ar.F.kp L.ar.b .nil pass0 (pa_cons (pv 7) pa_nil))) (blkOk_by (N := NL) (sc := defScope sLaw) (by decide +kernel)) (fun _ _ _ _ _ => pg_name (i := 13) scLaw.nd rfl (Or.inl rfl)) (fun _ _ _ _ _ => pts_nil)
            (fun _ _ _ _ _ => pe_tup (pa_cons (pe_callB call_lenK (by rfl) B.len PySem.boot_len (pa_cons (pe_call GL hr2 (by rfl) L.me.g L.me.F.kp L.me.b .nil pass0 (pa_cons (pv 2) (pa_cons (pv 4) (pa_cons (pv 13) pa_nil)))) pa_nil)) (pa_cons (pv 13) pa_nil)))))
      (pss_cons (ps_par rfl scLaw.nd (i := 9) (j := 10) rfl rfl (by decide) rfl rfl
          (pa_cons (pe_callB (cr_max rfl) (by rfl) B.max (by decide +kernel) (pa_cons
            (pe_lc (own := [("_law_told", 13)]) (g := gName 13) (tt := tYes) (te := tOp (rIxT K) (tVar 13) (tC (.int 0))) rfl scLaw.nd (pi_list (pv 8)) (blkOk_by (N := NL) (sc := defScope sLaw) (by decide +kernel)) (fun _ _ _ _ _ => pg_name (i := 13) scLaw.nd rfl (Or.inl rfl)) (fun _ _ _ _ _ => pts_nil)
              (fun _ _ _ _ _ => pe_ix ix_tup (pv 13) pe_int (fun _ _ => rfl))) pa_nil))
          (pa_cons (pe_callB (cr_min rfl) (by rfl) B.min (by decide +kernel) (pa_cons
            (pe_lc (own := [("_law_told", 13)]) (g := gName 13) (tt := tYes) (te := tOp (rIxT K) (tVar 13) (tC (.int 0))) rfl scLaw.nd (pi_list (pv 8)) (blkOk_by (N := NL) (sc := defScope sLaw) (by decide +kernel)) (fun _ _ _ _ _ => pg_name (i := 13) scLaw.nd rfl (Or.inl rfl)) (fun _ _ _ _ _ => pts_nil)
              (fun _ _ _ _ _ => pe_ix ix_tup (pv 13) pe_int (fun _ _ => rfl))) pa_nil)) pa_nil)) (by rfl))
      (pss_cons (ps_setLc (i := 11) (own := [("_law_many_met", 14)]) (g := gName 14) (tt := tYes) (te := tTup (tCons (tVar 14) (tCons (tCB (rMinD (Tup Int) K) (tCons (tColF K) tNil)) tNil))) rfl scLaw.nd rfl rfl (sw_true rfl rfl rfl (by decide +kernel))
          (pi_list (pe_lst (pa_cons (pv 9) (pa_cons (pv 10) pa_nil)))) (blkOk_by (N := NL) (sc := defScope sLaw) (by decide +kernel)) (fun _ _ _ _ _ => pg_name (i := 14) scLaw.nd rfl (Or.inr rfl)) (fun _ _ _ _ _ => pts_nil)
          (fun _ _ _ _ _ => pe_tup (pa_cons (pv 14) (pa_cons (pe_callB (cr_minD (Tup Int) rfl hr (by decide) ordT) (by rfl) B.min (by decide +kernel) (pa_cons
            (pe_lc (own := [("_law_told", 13)]) (g := gName 13) (tt := tTest (tOp rEq (tOp (rIxT K) (tVar 13) (tC (.int 0))) (tVar 14))) (te := tOp (rIxT K) (tVar 13) (tC (.int 1))) rfl scLaw.nd (pi_list (pv 8)) (blkOk_by (N := NL) (sc := relS dueScope (defScope sLaw)) (by decide +kernel)) (fun _ _ _ _ _ => pg_name (i := 13) scLaw.nd rfl (Or.inl rfl))
              (fun _ _ _ _ _ => pts_one (pt_cmpR op_eq (pe_ix ix_tup (pv 13) pe_int (fun _ _ => rfl)) (pv 14) (nomark _))) (fun _ _ _ _ _ => pe_ix ix_tup (pv 13) pe_int (fun _ _ => rfl))) pa_nil)) pa_nil))))
      (pss_one (ps_ret (pe_call GA3 hr4 (by rfl) L.al.g L.al.F.kp L.al.b .nil pass0 (pa_cons (pe_lst (pa_cons (pe_call GX hr (by rfl) L.most.g L.most.F.kp L.most.b .nil pass0 (pa_cons (pv 2) (pa_cons (pv 4) (pa_cons (pv 7) pa_nil)))) (pa_cons (pe_call GN hr (by rfl) L.few.g L.few.F.kp L.few.b .nil pass0 (pa_cons (pv 2) (pa_cons (pv 4) (pa_cons (pv 7) pa_nil)))) pa_nil))) (pa_cons (pv 11) pa_nil)))))))))))))), ?_⟩
    -- row
    refine ⟨.ref a, rfl, (show 4 ≤ sizeLine by decide), fun r hr0 => ?_⟩
    have R1 : RowL (upd H r (.lst [.ref a, .int 0, .int 6633, .int 0])) r a := ⟨0, 6633, 0, upd_same, by decide, by decide, by decide⟩
    have S1 : Scr K (upd H r (.lst [.ref a, .int 0, .int 6633, .int 0])) r a := Scr.start hS hr0
    generalize upd H r (.lst [.ref a, .int 0, .int 6633, .int 0]) = H1 at R1 S1 ⊢
    -- values
    refine ⟨.ref r, rfl, r, a, 4, 5, rfl, R1, S1, by decide, by decide, by decide, by decide, fun H2 pvl vals sb2 R2 tv hl1 hl4 hv => ?_⟩
    have S2 := S1.sb sb2
    refine ⟨.ref pvl, rfl, .ref pvl, (lv vals).length, rfl, .inr ⟨_, tv.sq, rfl⟩, ?_⟩
    have eM : (lv vals).length = vals.length := lv_len vals
    generalize hM : (lv vals).length = M at eM ⊢
    -- the slate's most
    refine ⟨.ref r, rfl, .int (M : Int), rfl, .ref r, rfl, (show 3 ≤ sizeLine by decide), fun t ht => ?_⟩
    have s3 : Same H2 (upd H2 t (.lst (lv [0, 2, 8]))) := same_new ht
    have R3 := R2.same s3
    have S3 := S2.sb (SB.of s3)
    refine ⟨r, a, t, [0, 2, 8], rfl, R3, S3, upd_same, Ne.symm (R2.ne ht), by decide, by decide, fun H4 n sb4 R4 hn => ?_⟩
    have S4 := S3.sb sb4
    have tv4 := R3.tw (tv.same s3) sb4
    have hn8 : n ≤ 8 := by
      rcases List.mem_cons.mp hn with e | hn
      · omega
      · rcases List.mem_cons.mp hn with e | hn
        · omega
        · have := List.mem_singleton.mp hn
          omega
    refine ⟨r, a, M, n, rfl, R4, S4, by omega, by omega, by omega, fun H5 psl o5 sl sb5 R5 ho5 hp5 hl5 hs5 => ?_⟩
    have S5 := S4.sb sb5
    have tv5 := R4.tw tv4 sb5
    have tsl5 : Tw H5 psl sl := .inr ⟨o5, hp5⟩
    refine ⟨.ref r, rfl, .int (M : Int), rfl, r, a, M, 30, rfl, R5, S5, by omega, by omega, by decide, fun H6 pwd o6 wd sb6 R6 ho6 hp6 hl6 hs6 => ?_⟩
    have S6 := S5.sb sb6
    have tv6 := R5.tw tv5 sb6
    have tsl6 := R5.tw tsl5 sb6
    have twd6 : Tw H6 pwd wd := .inr ⟨o6, hp6⟩
    refine ⟨(show 2 ≤ sizeLine by decide), fun tp htp => ⟨tp, [.ref psl, .ref pwd], rfl, SqT.of upd_same, rfl, .ref psl, [.ref pwd], rfl, .ref pwd, [], rfl, rfl, ?_⟩⟩
    have s7 : Same H6 (upd H6 tp (.tup [.ref psl, .ref pwd])) := same_new htp
    have R7 := R6.same s7
    have S7 := S6.sb (SB.of s7)
    have tv7 := tv6.same s7
    have tsl7 := tsl6.same s7
    have twd7 := twd6.same s7
    generalize upd H6 tp (.tup [.ref psl, .ref pwd]) = H7 at R7 S7 tv7 tsl7 twd7 s7 ⊢
    have vok : ValOk vals := ⟨⟨hl1, by omega⟩, fun v h => by have := hv v h; omega⟩
    have hv1000 : ∀ v ∈ vals, 1 ≤ v ∧ v ≤ 1000 := fun v h => by have := hv v h; omega
    have lsl : ∀ x ∈ sl, x < vals.length := fun x hx => by have := hs5 x hx; omega
    have lwd : ∀ x ∈ wd, x < vals.length := fun x hx => by have := hs6 x hx; omega
    -- met against the law's own
    refine ⟨.ref pvl, rfl, .ref psl, rfl, .ref pwd, rfl, pvl, psl, pwd, vals, sl, wd, rfl, tv7, tsl7, twd7, vok, by omega, by omega, lsl, lwd, fun H8 pm s8 tm => ?_⟩
    refine ⟨.ref pvl, rfl, .ref psl, rfl, .ref pwd, rfl, pvl, psl, pwd, vals, sl, wd, rfl, tv7.same s8, tsl7.same s8, twd7.same s8, hv1000, by omega, by omega, lwd, fun H9 pl s9 hpl => ?_⟩
    refine ⟨pl, _, rfl, .inl ⟨SqL.of hpl, fun l hl => ?_⟩⟩
    have s10 : Same H9 (upd H9 l (.tup (lv (metN vals sl wd)))) := same_new hl
    refine ⟨.ref pm, .ref l, rfl, al_words 0 ((tm.same s9).same s10) (Tw.of upd_same) (by have := metN_le vals sl wd; omega), fun H11 s11 => ?_⟩
    have s711 := ((s8.trans s9).trans s10).trans s11
    have R11 := R7.same s711
    have S11 := S7.sb (SB.of s711)
    have tv11 := tv7.same s711
    have tsl11 := tsl7.same s711
    refine ⟨true, rfl, iteF ?_⟩
    -- the supply
    refine ⟨.ref r, rfl, .int (M : Int), rfl, r, a, M, 6, rfl, R11, S11, by omega, by omega, by decide, fun H12 pso o12 so sb12 R12 ho12 hp12 hl12 hs12 => ?_⟩
    have tv12 := R11.tw tv11 sb12
    have tsl12 := R11.tw tsl11 sb12
    refine ⟨.int (M : Int), rfl, (M : Int), rfl, by omega, by omega, fun Dc hDc => ?_⟩
    rw [Int.toNat_natCast]
    refine lc_range (lo := 0) (n := M) (fun i H' => H' Dc = some (.lst (lv (counts so i))) ∧ Same H12 H') ⟨upd_same, same_new hDc⟩ (fun i H' hi hp => ?_) (fun H13 hp => ?_)
    · obtain ⟨hd, sm⟩ := hp
      rw [Int.zero_add]
      have hpo := sm _ _ hp12
      refine ⟨rfl, .ref pso, rfl, pso, o12, so, rfl, ho12, hpo, .int (i : Int), rfl, i, rfl, hpo, lv (counts so i), hd, ?_, ?_, fun b o e => ?_⟩
      · rw [lv_len, counts_len]
        exact small1000 (by omega)
      · rw [upd_same, counts_succ, lv_append]
        rfl
      · rw [upd_ne (ne_of_none e hDc)]
        exact sm b o e
    obtain ⟨hdc, sm13⟩ := hp
    refine ⟨Dc, lv (counts so M), rfl, .inl ⟨SqL.of hdc, fun psu hpsu => ?_⟩⟩
    have s14 : Same H13 (upd H13 psu (.tup (lv (counts so M)))) := same_new hpsu
    have tsu : Tw (upd H13 psu (.tup (lv (counts so M)))) psu (counts so M) := Tw.of upd_same
    have tv14 := tv12.same (sm13.trans s14)
    have tsl14 := tsl12.same (sm13.trans s14)
    generalize upd H13 psu (.tup (lv (counts so M))) = H14 at s14 tsu tv14 tsl14 ⊢
    have hsum : (counts so M).sum = so.length := counts_sum so M hs12
    have hsl4 : (counts so M).length = vals.length := by rw [counts_len]; exact eM
    generalize counts so M = su at tsu hsum hsl4 ⊢
    -- the rows
    refine ⟨.ref psu, rfl, su.sum, by omega, psu, su, rfl, tsu, by omega, rfl, fun H15 par vs15 s15 hpar ws15 => ?_⟩
    refine ⟨par, rfl, ⟨_, SqL.of hpar⟩, fun Dr hDr => ?_⟩
    have tv15 := tv14.same s15
    have tsl15 := tsl14.same s15
    have vl15 := Paired.length ws15
    have bnd := arr_fit (k := su.sum) (su := su) (by omega) (by omega)
    refine lc_list (K := K) (a := par) (xs := vs15) (fun j H' => ∃ acc, H' Dr = some (.lst acc) ∧ PairsAt H' acc (rowsOf vals sl ((arrN su.sum su).take j)) ∧ Same H15 H') ⟨[], upd_same, .nil, same_new hDr⟩ (fun j H' _ hp => ?_) (fun j x H' hx hp => ?_) (fun H16 hp => ?_)
    · obtain ⟨_, _, _, sj⟩ := hp
      exact SqL.of (sj _ _ hpar)
    · obtain ⟨acc, hd, pa, sj⟩ := hp
      obtain ⟨u, hu, q1, ex, tq⟩ := ws15.at hx
      subst ex
      have hj : j < (arrN su.sum su).length := (List.getElem?_eq_some_iff.mp hu).1
      obtain ⟨wl, wm⟩ := arrN_word su.sum su u (List.mem_of_getElem? hu)
      refine ⟨rfl, .ref pvl, rfl, .ref psl, rfl, .ref q1, rfl, pvl, psl, q1, vals, sl, u, rfl, tv15.same sj, tsl15.same sj, tq.same sj, hv1000, by omega, by omega, fun x hx => by have := wm x hx; omega, fun H17 pl17 s17 hpl17 => ?_⟩
      refine ⟨.ref pl17, _, rfl, .inl ⟨_, SqL.of hpl17, rfl⟩, .ref q1, rfl, (show 2 ≤ sizeLine by decide), fun p18 hp18 => ?_⟩
      have s18 : Same H17 (upd H17 p18 (.tup [.int ((lv (metN vals sl u)).length : Int), .ref q1])) := same_new hp18
      have sj18 := s17.trans s18
      have hd18 := sj18 _ _ hd
      have pn : PairAt (upd H17 p18 (.tup [.int ((lv (metN vals sl u)).length : Int), .ref q1])) (.ref p18) ((cost vals sl u : Int), u) := by
        refine ⟨p18, q1, rfl, ?_, (tq.same sj).same sj18⟩
        rw [upd_same, lv_len, metN_cost]
      have al : acc.length ≤ 4096 := by
        have z := pa.len
        unfold rowsOf at z
        rw [List.length_map, List.length_take] at z
        omega
      refine ⟨acc, hd18, fit2 (by omega), acc ++ [.ref p18], upd_same, ?_, fun b o e => ?_⟩
      · have et : rowsOf vals sl ((arrN su.sum su).take (j + 1)) = rowsOf vals sl ((arrN su.sum su).take j) ++ [((cost vals sl u : Int), u)] := by
          unfold rowsOf
          rw [List.take_add_one, hu, List.map_append]
          rfl
        rw [et]
        exact ((pa.same sj18).sb SB.upd hd18 rfl).snoc (pn.sb SB.upd hd18 rfl)
      · rw [upd_ne (ne_of_none e hDr)]
        exact sj18 _ _ (sj _ _ e)
    obtain ⟨acc, hdr, pa, s16⟩ := hp
    rw [vl15, List.take_of_length_le (Nat.le_refl _)] at pa
    have accl : acc.length ≤ 4096 := by
      have z := pa.len
      unfold rowsOf at z
      rw [List.length_map] at z
      omega
    have tv16 := tv15.same s16
    have tsl16 := tsl15.same s16
    have tsu16 := (tsu.same s15).same s16
    obtain ⟨w0, hw0⟩ := arrN_some su.sum su rfl
    have rne : 0 < ((rowsOf vals sl (arrN su.sum su)).map (·.1)).length := by
      rw [List.length_map]
      exact List.length_pos_of_mem (rowsOf_mem.mpr (show (((cost vals sl w0 : Int), w0) : Int × List Nat).2 ∈ arrN su.sum su ∧ _ from ⟨hw0, rfl⟩))
    have colmem : ∀ m, m ∈ (rowsOf vals sl (arrN su.sum su)).map (·.1) ↔ ∃ u ∈ arrN su.sum su, m = (cost vals sl u : Int) := fun m => by
      rw [List.mem_map]
      constructor
      · rintro ⟨c, hc, e⟩
        obtain ⟨z1, z2⟩ := rowsOf_mem.mp hc
        exact ⟨c.2, z1, by rw [← e]; exact z2⟩
      · rintro ⟨u, hu, e⟩
        exact ⟨((cost vals sl u : Int), u), rowsOf_mem.mpr ⟨hu, rfl⟩, e.symm⟩
    -- most, fewest
    refine ⟨.ref Dr, rfl, Dr, rfl, ⟨_, SqL.of hdr⟩, fun D1 nD1 => col0 hdr pa (by omega) nD1 fun H17 s17 hD1 => ?_⟩
    refine ⟨D1, (rowsOf vals sl (arrN su.sum su)).map (·.1), rfl, SqL.of (by rw [hD1, List.map_map]; rfl), rne, fun mx hmx hmxle => ?_⟩
    refine ⟨.ref Dr, rfl, Dr, rfl, ⟨_, SqL.of (s17 _ _ hdr)⟩, fun D2 nD2 => col0 (s17 _ _ hdr) (pa.same s17) (by omega) nD2 fun H18 s18 hD2 => ?_⟩
    refine ⟨D2, (rowsOf vals sl (arrN su.sum su)).map (·.1), rfl, SqL.of (by rw [hD2, List.map_map]; rfl), rne, fun mn hmn hmnle => ?_⟩
    refine ⟨.int mx, .int mn, rfl, ?_⟩
    have s168 := s17.trans s18
    obtain ⟨umx, humx, emx⟩ := (colmem mx).mp hmx
    obtain ⟨umn, humn, emn⟩ := (colmem mn).mp hmn
    have lemx : ∀ u ∈ arrN su.sum su, (cost vals sl u : Int) ≤ mx := fun u hu => hmxle _ ((colmem _).mpr ⟨u, hu, rfl⟩)
    have lemn : ∀ u ∈ arrN su.sum su, mn ≤ (cost vals sl u : Int) := fun u hu => hmnle _ ((colmem _).mpr ⟨u, hu, rfl⟩)
    -- what is due
    refine ⟨.int mx, rfl, .int mn, rfl, (show 2 ≤ sizeLine by decide), fun l2 hl2 => ⟨l2, rfl, ⟨_, SqL.of upd_same⟩, fun D5 hD5 => ?_⟩⟩
    have s19 : Same H18 (upd H18 l2 (.lst [.int mx, .int mn])) := same_new hl2
    have hl2' : (upd H18 l2 (.lst [.int mx, .int mn])) l2 = some (.lst [.int mx, .int mn]) := upd_same
    generalize upd H18 l2 (.lst [.int mx, .int mn]) = H19 at s19 hl2' hD5 ⊢
    have s1619 := s168.trans s19
    have hdr19 := s1619 _ _ hdr
    have pa19 := pa.same s1619
    refine lc_list (K := K) (a := l2) (xs := [.int mx, .int mn]) (fun j H' => ∃ acc2 ds, H' D5 = some (.lst acc2) ∧ PairsAt H' acc2 ds ∧ ds.length = j ∧ j ≤ 2 ∧ (∀ (i : Nat) (d : Int × List Nat), ds[i]? = some d → [mx, mn][i]? = some d.1 ∧ Due vals sl su.sum su d.1 d.2) ∧ Same H19 H')
      ⟨[], [], upd_same, .nil, rfl, by decide, fun i d h => by simp at h, same_new hD5⟩ (fun j H' _ hp => ?_) (fun j x H' hx hp => ?_) (fun H20 hp => ?_)
    · obtain ⟨_, _, _, _, _, _, _, sj⟩ := hp
      exact SqL.of (sj _ _ hl2')
    · obtain ⟨acc2, ds, hd, pd, hdl, hj2, hds, sj⟩ := hp
      have hj : j < 2 := (List.getElem?_eq_some_iff.mp hx).1
      obtain ⟨Mx, hMx, ex, hmem⟩ : ∃ Mx, [mx, mn][j]? = some Mx ∧ x = .int Mx ∧ ∃ u ∈ arrN su.sum su, Mx = (cost vals sl u : Int) := by
        match j, hj, hx with
        | 0, _, hx => exact ⟨mx, rfl, (Option.some.inj hx).symm, umx, humx, emx⟩
        | 1, _, hx => exact ⟨mn, rfl, (Option.some.inj hx).symm, umn, humn, emn⟩
      subst ex
      refine ⟨rfl, .int Mx, rfl, ?_⟩
      refine ⟨.ref Dr, rfl, Dr, rfl, ⟨_, SqL.of (sj _ _ hdr19)⟩, fun D6 nD6 => colF (M := Mx) (sj _ _ hdr19) (pa19.same sj) (by omega) nD6 fun H21 vs21 s21 hD6 ws21 => ?_⟩
      obtain ⟨uM, huM, eM2⟩ := hmem
      have tne : (those (rowsOf vals sl (arrN su.sum su)) Mx).map (fun u => Tup.mk (nz u)) ≠ [] := fun z => by
        have z2 := those_mem.mpr ⟨huM, eM2.symm⟩
        rw [List.map_eq_nil_iff.mp z] at z2
        cases z2
      refine ⟨D6, vs21, (those (rowsOf vals sl (arrN su.sum su)) Mx).map (fun u => Tup.mk (nz u)), rfl, SqL.of hD6, words_dp ws21, tne, fun i y x hy hx' hmin => ?_⟩
      obtain ⟨wdd, hwd, due⟩ := due_of hx' hmin
      obtain ⟨u', hu', q6, ey, tq6⟩ := ws21.at hy
      rw [hwd] at hu'
      cases hu'
      subst ey
      refine ⟨(show 2 ≤ sizeLine by decide), fun p22 hp22 => ?_⟩
      have s22 : Same H21 (upd H21 p22 (.tup [.int Mx, .ref q6])) := same_new hp22
      have hd22 := s22 _ _ (s21 _ _ hd)
      have pn : PairAt (upd H21 p22 (.tup [.int Mx, .ref q6])) (.ref p22) (Mx, wdd) := ⟨p22, q6, rfl, upd_same, tq6.same s22⟩
      have al2 := pd.len
      refine ⟨acc2, hd22, small1000 (by omega), acc2 ++ [.ref p22], ds ++ [(Mx, wdd)], upd_same, ((pd.same (s21.trans s22)).sb SB.upd hd22 rfl).snoc (pn.sb SB.upd hd22 rfl), by rw [List.length_append, hdl]; rfl, by omega, fun i d h => ?_, fun b o e => ?_⟩
      · by_cases hi : i < ds.length
        · rw [List.getElem?_append_left hi] at h
          exact hds i d h
        · have hi2 : i < (ds ++ [(Mx, wdd)]).length := (List.getElem?_eq_some_iff.mp h).1
          rw [List.length_append, List.length_singleton] at hi2
          have ei : i = ds.length := by omega
          subst ei
          rw [List.getElem?_append_right (Nat.le_refl _), Nat.sub_self] at h
          cases h
          exact ⟨by rw [hdl]; exact hMx, due⟩
      · rw [upd_ne (ne_of_none e hD5)]
        exact s22 _ _ (s21 _ _ (sj _ _ e))
    obtain ⟨acc2, ds, hd5, pd, hdl, _, hds, s20⟩ := hp
    have s1620 := s1619.trans s20
    have tv20 := tv16.same s1620
    have tsl20 := tsl16.same s1620
    have tsu20 := tsu16.same s1620
    -- the program's answers
    refine ⟨.ref pvl, rfl, .ref psl, rfl, .ref psu, rfl, pvl, psl, psu, vals, sl, su, rfl, tv20, tsl20, tsu20, vok, by omega, hsl4, by omega, by omega, lsl, fun H21 v1 m1 u1 s21 pa1 ib1 => ?_⟩
    refine ⟨.ref pvl, rfl, .ref psl, rfl, .ref psu, rfl, pvl, psl, psu, vals, sl, su, rfl, tv20.same s21, tsl20.same s21, tsu20.same s21, vok, by omega, hsl4, by omega, by omega, lsl, fun H22 v2 m2 u2 s22 pa2 ib2 => ?_⟩
    refine ⟨(show 2 ≤ sizeLine by decide), fun pf hpf => ⟨.ref D5, rfl, .ref pf, .ref D5, rfl, ?_, fun H' _ => q H'⟩⟩
    have s23 : Same H22 (upd H22 pf (.lst [v1, v2])) := same_new hpf
    have s2023 := (s21.trans s22).trans s23
    have al2 := pd.len
    have hlen2 : ds.length = 2 := hdl
    refine .inr ⟨true, pf, D5, [v1, v2], acc2, rfl, rfl, upd_same, s2023 _ _ hd5, by rw [al2, hlen2]; rfl, by omega, fun i x y hx hy => ?_⟩
    obtain ⟨d, hdi, pad⟩ := pd.row hy
    obtain ⟨hMi, due⟩ := hds i d hdi
    have pad' := pad.same s2023
    have hi : i < 2 := (List.getElem?_eq_some_iff.mp hx).1
    have dl := (arrN_word su.sum su d.2 due.mem).1
    match i, hi, hx, hMi with
    | 0, _, hx, hMi =>
      have ex : v1 = x := Option.some.inj hx
      have eM3 : mx = d.1 := Option.some.inj hMi
      subst ex
      obtain ⟨z1, z2⟩ := most_is ib1 ⟨umx, humx, emx⟩ lemx ⟨due.mem, by rw [eM3]; exact due.val⟩ (fun u hu hc => due.least u hu (by rw [← eM3]; exact hc))
      refine al_pairs 0 (c := d) ?_ pad' (by omega)
      have ed : d = (-m1, u1) := Prod.ext (by rw [← eM3]; exact z1.symm) z2.symm
      rw [ed]
      exact (pa1.same s22).same s23
    | 1, _, hx, hMi =>
      have ex : v2 = x := Option.some.inj hx
      have eM3 : mn = d.1 := Option.some.inj hMi
      subst ex
      obtain ⟨z1, z2⟩ := fewest_is ib2 ⟨umn, humn, emn⟩ lemn ⟨due.mem, by rw [eM3]; exact due.val⟩ (fun u hu hc => due.least u hu (by rw [← eM3]; exact hc))
      refine al_pairs 0 (c := d) ?_ pad' (by omega)
      have ed : d = (m2, u2) := Prod.ext (by rw [← eM3]; exact z1.symm) z2.symm
      rw [ed]
      exact pa2.same s23
end
end Fw
namespace Fw
open PySem PySem.Spec PyProof.Rows L2 FW
/-! ### what the top has written -/
/-- a def's facts make it known -/
theorem dn_mk {K : PySem.W.Frag} {h : Heap} {mg : Str → Option Value} {x : Str} {st : Stmt} {ps : List Str} {f : Addr} {oc : Value} {od an : Option Addr} {osl : Array (Option Value)} {kV doc pm cdv ct : Value} (X : K.In h) (G : h.Ns mainGlobals mg)
    (a : PySem.W.nsIn K mainGlobals x = some (some (.ref f))) (l : K.lookup f = some ⟨oc, od, .func (PySem.W.fnOf x x (defArgs st) (defBody st) (defScope st) .none kV doc pm an cdv ct), osl⟩) (c : PySem.W.codeIn K cdv x = true) (k : PySem.W.keepIn K (.ref f) = true)
    (b : ∀ (kV doc pm : Value) (an : Option Addr) (cdv ct : Value) (us : List Value), us.length = ps.length → bindArgs (PySem.W.fnOf x x (defArgs st) (defBody st) (defScope st) .none kV doc pm an cdv ct) ⟨us, []⟩ = pure (ps.zip us)) :
    Dn K mg x st ps f (PySem.W.fnOf x x (defArgs st) (defBody st) (defScope st) .none kV doc pm an cdv ct) :=
  have F := fun_mk (st := st) l c k
  ⟨F, F.binds (ps := ps) b, PySem.W.mg_of X G a⟩
theorem all_mk {l : PySem.W.OpenLaw} {w : World} {K : PySem.W.Frag} {h : Heap} {mg : Str → Option Value} {fa f1 f2 f3 f4 f5 f6 f7 f8 f9 f10 f11 f12 f13 f14 f15 f16 f17 f18 f19 f20 f21 f22 : Addr} (X : K.In h) (G : h.Ns mainGlobals mg) (hfa : mg "law" = some (.ref fa))
    {od1 an1 od2 an2 od3 an3 od4 an4 od5 an5 od6 an6 od7 an7 od8 an8 od9 an9 od10 an10 od11 an11 od12 an12 od13 an13 od14 an14 od15 an15 od16 an16 od17 an17 od18 an18 od19 an19 od20 an20 od21 an21 od22 an22 : Option Addr} {sl1 sl2 sl3 sl4 sl5 sl6 sl7 sl8 sl9 sl10 sl11 sl12 sl13 sl14 sl15 sl16 sl17 sl18 sl19 sl20 sl21 sl22 : Array (Option Value)} {oc1 kV1 dc1 pm1 cd1 ct1 oc2 kV2 dc2 pm2 cd2 ct2 oc3 kV3 dc3 pm3 cd3 ct3 oc4 kV4 dc4 pm4 cd4 ct4 oc5 kV5 dc5 pm5 cd5 ct5 oc6 kV6 dc6 pm6 cd6 ct6 oc7 kV7 dc7 pm7 cd7 ct7 oc8 kV8 dc8 pm8 cd8 ct8 oc9 kV9 dc9 pm9 cd9 ct9 oc10 kV10 dc10 pm10 cd10 ct10 oc11 kV11 dc11 pm11 cd11 ct11 oc12 kV12 dc12 pm12 cd12 ct12 oc13 kV13 dc13 pm13 cd13 ct13 oc14 kV14 dc14 pm14 cd14 ct14 oc15 kV15 dc15 pm15 cd15 ct15 oc16 kV16 dc16 pm16 cd16 ct16 oc17 kV17 dc17 pm17 cd17 ct17 oc18 kV18 dc18 pm18 cd18 ct18 oc19 kV19 dc19 pm19 cd19 ct19 oc20 kV20 dc20 pm20 cd20 ct20 oc21 kV21 dc21 pm21 cd21 ct21 oc22 kV22 dc22 pm22 cd22 ct22 : Value} {t1 t2 t3 t4 t5 t6 : Tok}
    (a1 : PySem.W.nsIn K mainGlobals "whole" = some (some (.ref f1))) (l1 : K.lookup f1 = some ⟨oc1, od1, .func (PySem.W.fnOf "whole" "whole" (defArgs sWhole) (defBody sWhole) (defScope sWhole) .none kV1 dc1 pm1 an1 cd1 ct1), sl1⟩) (c1 : PySem.W.codeIn K cd1 "whole" = true) (k1 : PySem.W.keepIn K (.ref f1) = true)
    (a2 : PySem.W.nsIn K mainGlobals "within" = some (some (.ref f2))) (l2 : K.lookup f2 = some ⟨oc2, od2, .func (PySem.W.fnOf "within" "within" (defArgs sWithin) (defBody sWithin) (defScope sWithin) .none kV2 dc2 pm2 an2 cd2 ct2), sl2⟩) (c2 : PySem.W.codeIn K cd2 "within" = true) (k2 : PySem.W.keepIn K (.ref f2) = true)
    (a3 : PySem.W.nsIn K mainGlobals "tuple_of" = some (some (.ref f3))) (l3 : K.lookup f3 = some ⟨oc3, od3, .func (PySem.W.fnOf "tuple_of" "tuple_of" (defArgs sTupleOf) (defBody sTupleOf) (defScope sTupleOf) .none kV3 dc3 pm3 an3 cd3 ct3), sl3⟩) (c3 : PySem.W.codeIn K cd3 "tuple_of" = true) (k3 : PySem.W.keepIn K (.ref f3) = true)
    (a4 : PySem.W.nsIn K mainGlobals "need_values" = some (some (.ref f4))) (l4 : K.lookup f4 = some ⟨oc4, od4, .func (PySem.W.fnOf "need_values" "need_values" (defArgs sNeedValues) (defBody sNeedValues) (defScope sNeedValues) .none kV4 dc4 pm4 an4 cd4 ct4), sl4⟩) (c4 : PySem.W.codeIn K cd4 "need_values" = true) (k4 : PySem.W.keepIn K (.ref f4) = true)
    (a5 : PySem.W.nsIn K mainGlobals "wrong_letter" = some (some (.ref f5))) (l5 : K.lookup f5 = some ⟨oc5, od5, .func (PySem.W.fnOf "wrong_letter" "wrong_letter" (defArgs sWrongLetter) (defBody sWrongLetter) (defScope sWrongLetter) .none kV5 dc5 pm5 an5 cd5 ct5), sl5⟩) (c5 : PySem.W.codeIn K cd5 "wrong_letter" = true) (k5 : PySem.W.keepIn K (.ref f5) = true)
    (a6 : PySem.W.nsIn K mainGlobals "need_word" = some (some (.ref f6))) (l6 : K.lookup f6 = some ⟨oc6, od6, .func (PySem.W.fnOf "need_word" "need_word" (defArgs sNeedWord) (defBody sNeedWord) (defScope sNeedWord) .none kV6 dc6 pm6 an6 cd6 ct6), sl6⟩) (c6 : PySem.W.codeIn K cd6 "need_word" = true) (k6 : PySem.W.keepIn K (.ref f6) = true)
    (a7 : PySem.W.nsIn K mainGlobals "need_slate" = some (some (.ref f7))) (l7 : K.lookup f7 = some ⟨oc7, od7, .func (PySem.W.fnOf "need_slate" "need_slate" (defArgs sNeedSlate) (defBody sNeedSlate) (defScope sNeedSlate) .none kV7 dc7 pm7 an7 cd7 ct7), sl7⟩) (c7 : PySem.W.codeIn K cd7 "need_slate" = true) (k7 : PySem.W.keepIn K (.ref f7) = true)
    (a8 : PySem.W.nsIn K mainGlobals "stepped" = some (some (.ref f8))) (l8 : K.lookup f8 = some ⟨oc8, od8, .func (PySem.W.fnOf "stepped" "stepped" (defArgs sStepped) (defBody sStepped) (defScope sStepped) .none kV8 dc8 pm8 an8 cd8 ct8), sl8⟩) (c8 : PySem.W.codeIn K cd8 "stepped" = true) (k8 : PySem.W.keepIn K (.ref f8) = true)
    (a9 : PySem.W.nsIn K mainGlobals "met" = some (some (.ref f9))) (l9 : K.lookup f9 = some ⟨oc9, od9, .func (PySem.W.fnOf "met" "met" (defArgs sMet) (defBody sMet) (defScope sMet) .none kV9 dc9 pm9 an9 cd9 ct9), sl9⟩) (c9 : PySem.W.codeIn K cd9 "met" = true) (k9 : PySem.W.keepIn K (.ref f9) = true)
    (a10 : PySem.W.nsIn K mainGlobals "need_supply" = some (some (.ref f10))) (l10 : K.lookup f10 = some ⟨oc10, od10, .func (PySem.W.fnOf "need_supply" "need_supply" (defArgs sNeedSupply) (defBody sNeedSupply) (defScope sNeedSupply) .none kV10 dc10 pm10 an10 cd10 ct10), sl10⟩) (c10 : PySem.W.codeIn K cd10 "need_supply" = true) (k10 : PySem.W.keepIn K (.ref f10) = true)
    (a11 : PySem.W.nsIn K mainGlobals "best_of" = some (some (.ref f11))) (l11 : K.lookup f11 = some ⟨oc11, od11, .func (PySem.W.fnOf "best_of" "best_of" (defArgs sBestOf) (defBody sBestOf) (defScope sBestOf) .none kV11 dc11 pm11 an11 cd11 ct11), sl11⟩) (c11 : PySem.W.codeIn K cd11 "best_of" = true) (k11 : PySem.W.keepIn K (.ref f11) = true)
    (a12 : PySem.W.nsIn K mainGlobals "most_met" = some (some (.ref f12))) (l12 : K.lookup f12 = some ⟨oc12, od12, .func (PySem.W.fnOf "most_met" "most_met" (defArgs sMost) (defBody sMost) (defScope sMost) .none kV12 dc12 pm12 an12 cd12 ct12), sl12⟩) (c12 : PySem.W.codeIn K cd12 "most_met" = true) (k12 : PySem.W.keepIn K (.ref f12) = true)
    (a13 : PySem.W.nsIn K mainGlobals "fewest_met" = some (some (.ref f13))) (l13 : K.lookup f13 = some ⟨oc13, od13, .func (PySem.W.fnOf "fewest_met" "fewest_met" (defArgs sFewest) (defBody sFewest) (defScope sFewest) .none kV13 dc13 pm13 an13 cd13 ct13), sl13⟩) (c13 : PySem.W.codeIn K cd13 "fewest_met" = true) (k13 : PySem.W.keepIn K (.ref f13) = true)
    (a14 : PySem.W.nsIn K mainGlobals "_law_taken" = some (some (.ref f14))) (l14 : K.lookup f14 = some ⟨oc14, od14, .func (PySem.W.fnOf "_law_taken" "_law_taken" (defArgs sTaken) (defBody sTaken) (defScope sTaken) .none kV14 dc14 pm14 an14 cd14 ct14), sl14⟩) (c14 : PySem.W.codeIn K cd14 "_law_taken" = true) (k14 : PySem.W.keepIn K (.ref f14) = true)
    (a15 : PySem.W.nsIn K mainGlobals "_law_values" = some (some (.ref f15))) (l15 : K.lookup f15 = some ⟨oc15, od15, .func (PySem.W.fnOf "_law_values" "_law_values" (defArgs sValues) (defBody sValues) (defScope sValues) .none kV15 dc15 pm15 an15 cd15 ct15), sl15⟩) (c15 : PySem.W.codeIn K cd15 "_law_values" = true) (k15 : PySem.W.keepIn K (.ref f15) = true)
    (a16 : PySem.W.nsIn K mainGlobals "_law_word" = some (some (.ref f16))) (l16 : K.lookup f16 = some ⟨oc16, od16, .func (PySem.W.fnOf "_law_word" "_law_word" (defArgs sWord) (defBody sWord) (defScope sWord) .none kV16 dc16 pm16 an16 cd16 ct16), sl16⟩) (c16 : PySem.W.codeIn K cd16 "_law_word" = true) (k16 : PySem.W.keepIn K (.ref f16) = true)
    (a17 : PySem.W.nsIn K mainGlobals "_law_pick" = some (some (.ref f17))) (l17 : K.lookup f17 = some ⟨oc17, od17, .func (PySem.W.fnOf "_law_pick" "_law_pick" (defArgs sPick) (defBody sPick) (defScope sPick) .none kV17 dc17 pm17 an17 cd17 ct17), sl17⟩) (c17 : PySem.W.codeIn K cd17 "_law_pick" = true) (k17 : PySem.W.keepIn K (.ref f17) = true)
    (a18 : PySem.W.nsIn K mainGlobals "_law_alike" = some (some (.ref f18))) (l18 : K.lookup f18 = some ⟨oc18, od18, .func (PySem.W.fnOf "_law_alike" "_law_alike" (defArgs sAlike) (defBody sAlike) (defScope sAlike) .none kV18 dc18 pm18 an18 cd18 ct18), sl18⟩) (c18 : PySem.W.codeIn K cd18 "_law_alike" = true) (k18 : PySem.W.keepIn K (.ref f18) = true)
    (a19 : PySem.W.nsIn K mainGlobals "_law_write" = some (some (.ref f19))) (l19 : K.lookup f19 = some ⟨oc19, od19, .func (PySem.W.fnOf "_law_write" "_law_write" (defArgs sWrite) (defBody sWrite) (defScope sWrite) .none kV19 dc19 pm19 an19 cd19 ct19), sl19⟩) (c19 : PySem.W.codeIn K cd19 "_law_write" = true) (k19 : PySem.W.keepIn K (.ref f19) = true)
    (a20 : PySem.W.nsIn K mainGlobals "_law_met" = some (some (.ref f20))) (l20 : K.lookup f20 = some ⟨oc20, od20, .func (PySem.W.fnOf "_law_met" "_law_met" (defArgs sLMet) (defBody sLMet) (defScope sLMet) .none kV20 dc20 pm20 an20 cd20 ct20), sl20⟩) (c20 : PySem.W.codeIn K cd20 "_law_met" = true) (k20 : PySem.W.keepIn K (.ref f20) = true)
    (a21 : PySem.W.nsIn K mainGlobals "_law_arranged" = some (some (.ref f21))) (l21 : K.lookup f21 = some ⟨oc21, od21, .func (PySem.W.fnOf "_law_arranged" "_law_arranged" (defArgs sArranged) (defBody sArranged) (defScope sArranged) .none kV21 dc21 pm21 an21 cd21 ct21), sl21⟩) (c21 : PySem.W.codeIn K cd21 "_law_arranged" = true) (k21 : PySem.W.keepIn K (.ref f21) = true)
    (a22 : PySem.W.nsIn K mainGlobals "law" = some (some (.ref f22))) (l22 : K.lookup f22 = some ⟨oc22, od22, .func (PySem.W.fnOf "law" "law" (defArgs sLaw) (defBody sLaw) (defScope sLaw) .none kV22 dc22 pm22 an22 cd22 ct22), sl22⟩) (c22 : PySem.W.codeIn K cd22 "law" = true) (k22 : PySem.W.keepIn K (.ref f22) = true)
    (m1 : PySem.W.nsIn K mainGlobals "MOST_LETTERS" = some (some (.int 5 t1)))
    (m2 : PySem.W.nsIn K mainGlobals "MOST_VALUE" = some (some (.int 6 t2)))
    (m3 : PySem.W.nsIn K mainGlobals "MOST_WORD" = some (some (.int 60 t3)))
    (m4 : PySem.W.nsIn K mainGlobals "MOST_SLATE" = some (some (.int 12 t4)))
    (m5 : PySem.W.nsIn K mainGlobals "MOST_SUPPLY" = some (some (.int 12 t5)))
    (m6 : PySem.W.nsIn K mainGlobals "MOST_STATES" = some (some (.int 6000 t6)))
    (z1 : PySem.W.nsIn K mainGlobals "isinstance" = some none)
    (z2 : PySem.W.nsIn K mainGlobals "int" = some none)
    (z3 : PySem.W.nsIn K mainGlobals "bool" = some none)
    (z4 : PySem.W.nsIn K mainGlobals "tuple" = some none)
    (z5 : PySem.W.nsIn K mainGlobals "list" = some none)
    (z6 : PySem.W.nsIn K mainGlobals "str" = some none)
    (z7 : PySem.W.nsIn K mainGlobals "len" = some none)
    (z8 : PySem.W.nsIn K mainGlobals "all" = some none)
    (z9 : PySem.W.nsIn K mainGlobals "enumerate" = some none)
    (z10 : PySem.W.nsIn K mainGlobals "sum" = some none)
    (z11 : PySem.W.nsIn K mainGlobals "range" = some none)
    (z12 : PySem.W.nsIn K mainGlobals "min" = some none)
    (z13 : PySem.W.nsIn K mainGlobals "max" = some none)
    : ∃ fd : FuncData, (∀ (s : Shared) (v : Value), BindsTo s fd ⟨[v], []⟩ [("_law_script", v)]) ∧ ∀ base : Heap, K.In base → base.Ns mainGlobals mg → FnOk l.prog w K mg base CX0 10 fa fd ["_law_script"] (spLaw K) := by
  have e := hfa.symm.trans (PySem.W.mg_of X G a22)
  cases e
  have B : Bt mg := ⟨PySem.W.mg_none_of X G z1, PySem.W.mg_none_of X G z2, PySem.W.mg_none_of X G z3, PySem.W.mg_none_of X G z4, PySem.W.mg_none_of X G z5, PySem.W.mg_none_of X G z6, PySem.W.mg_none_of X G z7, PySem.W.mg_none_of X G z8, PySem.W.mg_none_of X G z9, PySem.W.mg_none_of X G z10, PySem.W.mg_none_of X G z11, PySem.W.mg_none_of X G z12, PySem.W.mg_none_of X G z13⟩
  have C : Ct mg := ⟨⟨_, PySem.W.mg_of X G m1⟩, ⟨_, PySem.W.mg_of X G m2⟩, ⟨_, PySem.W.mg_of X G m3⟩, ⟨_, PySem.W.mg_of X G m4⟩, ⟨_, PySem.W.mg_of X G m5⟩, ⟨_, PySem.W.mg_of X G m6⟩⟩
  have D1 := dn_mk (st := sWhole) (ps := ["value"]) X G a1 l1 c1 k1 fun _ _ _ _ _ _ us hl => match us, hl with | [_], _ => rfl
  have D2 := dn_mk (st := sWithin) (ps := ["value", "low", "high"]) X G a2 l2 c2 k2 fun _ _ _ _ _ _ us hl => match us, hl with | [_, _, _], _ => rfl
  have D3 := dn_mk (st := sTupleOf) (ps := ["value", "low", "high"]) X G a3 l3 c3 k3 fun _ _ _ _ _ _ us hl => match us, hl with | [_, _, _], _ => rfl
  have D4 := dn_mk (st := sNeedValues) (ps := ["value"]) X G a4 l4 c4 k4 fun _ _ _ _ _ _ us hl => match us, hl with | [_], _ => rfl
  have D5 := dn_mk (st := sWrongLetter) (ps := ["many", "value"]) X G a5 l5 c5 k5 fun _ _ _ _ _ _ us hl => match us, hl with | [_, _], _ => rfl
  have D6 := dn_mk (st := sNeedWord) (ps := ["values", "word"]) X G a6 l6 c6 k6 fun _ _ _ _ _ _ us hl => match us, hl with | [_, _], _ => rfl
  have D7 := dn_mk (st := sNeedSlate) (ps := ["values", "slate"]) X G a7 l7 c7 k7 fun _ _ _ _ _ _ us hl => match us, hl with | [_, _], _ => rfl
  have D8 := dn_mk (st := sStepped) (ps := ["values", "slate", "letter"]) X G a8 l8 c8 k8 fun _ _ _ _ _ _ us hl => match us, hl with | [_, _, _], _ => rfl
  have D9 := dn_mk (st := sMet) (ps := ["values", "slate", "word"]) X G a9 l9 c9 k9 fun _ _ _ _ _ _ us hl => match us, hl with | [_, _, _], _ => rfl
  have D10 := dn_mk (st := sNeedSupply) (ps := ["values", "supply"]) X G a10 l10 c10 k10 fun _ _ _ _ _ _ us hl => match us, hl with | [_, _], _ => rfl
  have D11 := dn_mk (st := sBestOf) (ps := ["values", "slate", "supply", "sign", "known"]) X G a11 l11 c11 k11 fun _ _ _ _ _ _ us hl => match us, hl with | [_, _, _, _, _], _ => rfl
  have D12 := dn_mk (st := sMost) (ps := ["values", "slate", "supply"]) X G a12 l12 c12 k12 fun _ _ _ _ _ _ us hl => match us, hl with | [_, _, _], _ => rfl
  have D13 := dn_mk (st := sFewest) (ps := ["values", "slate", "supply"]) X G a13 l13 c13 k13 fun _ _ _ _ _ _ us hl => match us, hl with | [_, _, _], _ => rfl
  have D14 := dn_mk (st := sTaken) (ps := ["_law_row", "_law_many"]) X G a14 l14 c14 k14 fun _ _ _ _ _ _ us hl => match us, hl with | [_, _], _ => rfl
  have D15 := dn_mk (st := sValues) (ps := ["_law_row", "_law_most", "_law_top"]) X G a15 l15 c15 k15 fun _ _ _ _ _ _ us hl => match us, hl with | [_, _, _], _ => rfl
  have D16 := dn_mk (st := sWord) (ps := ["_law_row", "_law_many", "_law_most"]) X G a16 l16 c16 k16 fun _ _ _ _ _ _ us hl => match us, hl with | [_, _, _], _ => rfl
  have D17 := dn_mk (st := sPick) (ps := ["_law_row", "_law_things"]) X G a17 l17 c17 k17 fun _ _ _ _ _ _ us hl => match us, hl with | [_, _], _ => rfl
  have D18 := dn_mk (st := sAlike) (ps := ["_law_found", "_law_due"]) X G a18 l18 c18 k18 fun _ _ _ _ _ _ us hl => match us, hl with | [_, _], _ => rfl
  have D19 := dn_mk (st := sWrite) (ps := ["_law_values_here", "_law_slate", "_law_word_here"]) X G a19 l19 c19 k19 fun _ _ _ _ _ _ us hl => match us, hl with | [_, _, _], _ => rfl
  have D20 := dn_mk (st := sLMet) (ps := ["_law_values_here", "_law_slate", "_law_word_here"]) X G a20 l20 c20 k20 fun _ _ _ _ _ _ us hl => match us, hl with | [_, _, _], _ => rfl
  have D21 := dn_mk (st := sArranged) (ps := ["_law_supply"]) X G a21 l21 c21 k21 fun _ _ _ _ _ _ us hl => match us, hl with | [_], _ => rfl
  have D22 := fun_mk (st := sLaw) l22 c22 k22
  exact ⟨_, fun s v => .of_eq rfl, fun base _ _ => ok_law D22 ⟨D14, D15, D16, D17, D18, D19, D20, D21, D9, D12, D13⟩ ⟨D4, D7, D6, D8, D3, D5, D2, D1, D10, D11⟩ B C⟩
end Fw
open PySem PySem.W PyProof.Rows
set_option maxRecDepth 100000 in
set_option maxHeartbeats 0 in
theorem PySem.Challenge.cw_fadewords_k33_whole_letters_met_holds : PySem.Challenge.rw_fadewords_k33_whole_letters_met.Holds := by
  w_on; o_law; k_head; (case hw => w_witness2)
  k_fill
  refine L2.walk_of (l := PySem.Challenge.rw_fadewords_k33_whole_letters_met) (n := 63) (k := 10) (x := "_law_script") (CX := fun _ => L2.CX0) (sp := fun w => Fw.spLaw _) rfl (by decide) rfl ⟨rfl, by decide, by decide⟩ (fun w h Y => PySem.W.kIn_of Y) ?F (fun _ _ a ns hl _ hS => ⟨a, ns, rfl, hS, hl, fun _ => rfl⟩) (fun _ _ _ _ _ z => z)
  case F =>
    intro w mg fa h KX G hmg
    refine' Fw.all_mk KX G hmg ?a1 ?l1 ?c1 ?k1 ?a2 ?l2 ?c2 ?k2 ?a3 ?l3 ?c3 ?k3 ?a4 ?l4 ?c4 ?k4 ?a5 ?l5 ?c5 ?k5 ?a6 ?l6 ?c6 ?k6 ?a7 ?l7 ?c7 ?k7 ?a8 ?l8 ?c8 ?k8 ?a9 ?l9 ?c9 ?k9 ?a10 ?l10 ?c10 ?k10 ?a11 ?l11 ?c11 ?k11 ?a12 ?l12 ?c12 ?k12 ?a13 ?l13 ?c13 ?k13 ?a14 ?l14 ?c14 ?k14 ?a15 ?l15 ?c15 ?k15 ?a16 ?l16 ?c16 ?k16 ?a17 ?l17 ?c17 ?k17 ?a18 ?l18 ?c18 ?k18 ?a19 ?l19 ?c19 ?k19 ?a20 ?l20 ?c20 ?k20 ?a21 ?l21 ?c21 ?k21 ?a22 ?l22 ?c22 ?k22 ?m1 ?m2 ?m3 ?m4 ?m5 ?m6 ?z1 ?z2 ?z3 ?z4 ?z5 ?z6 ?z7 ?z8 ?z9 ?z10 ?z11 ?z12 ?z13
    (case a1 => k_is); (case l1 => k_is); (case c1 => k_is); (case k1 => k_is); (case a2 => k_is); (case l2 => k_is); (case c2 => k_is); (case k2 => k_is); (case a3 => k_is); (case l3 => k_is); (case c3 => k_is); (case k3 => k_is)
    (case a4 => k_is); (case l4 => k_is); (case c4 => k_is); (case k4 => k_is); (case a5 => k_is); (case l5 => k_is); (case c5 => k_is); (case k5 => k_is); (case a6 => k_is); (case l6 => k_is); (case c6 => k_is); (case k6 => k_is)
    (case a7 => k_is); (case l7 => k_is); (case c7 => k_is); (case k7 => k_is); (case a8 => k_is); (case l8 => k_is); (case c8 => k_is); (case k8 => k_is); (case a9 => k_is); (case l9 => k_is); (case c9 => k_is); (case k9 => k_is)
    (case a10 => k_is); (case l10 => k_is); (case c10 => k_is); (case k10 => k_is); (case a11 => k_is); (case l11 => k_is); (case c11 => k_is); (case k11 => k_is); (case a12 => k_is); (case l12 => k_is); (case c12 => k_is); (case k12 => k_is)
    (case a13 => k_is); (case l13 => k_is); (case c13 => k_is); (case k13 => k_is); (case a14 => k_is); (case l14 => k_is); (case c14 => k_is); (case k14 => k_is); (case a15 => k_is); (case l15 => k_is); (case c15 => k_is); (case k15 => k_is)
    (case a16 => k_is); (case l16 => k_is); (case c16 => k_is); (case k16 => k_is); (case a17 => k_is); (case l17 => k_is); (case c17 => k_is); (case k17 => k_is); (case a18 => k_is); (case l18 => k_is); (case c18 => k_is); (case k18 => k_is)
    (case a19 => k_is); (case l19 => k_is); (case c19 => k_is); (case k19 => k_is); (case a20 => k_is); (case l20 => k_is); (case c20 => k_is); (case k20 => k_is); (case a21 => k_is); (case l21 => k_is); (case c21 => k_is); (case k21 => k_is)
    (case a22 => k_is); (case l22 => k_is); (case c22 => k_is); (case k22 => k_is); (case m1 => k_is); (case m2 => k_is); (case m3 => k_is); (case m4 => k_is); (case m5 => k_is); (case m6 => k_is); (case z1 => k_is); (case z2 => k_is)
    (case z3 => k_is); (case z4 => k_is); (case z5 => k_is); (case z6 => k_is); (case z7 => k_is); (case z8 => k_is); (case z9 => k_is); (case z10 => k_is); (case z11 => k_is); (case z12 => k_is); (case z13 => k_is)
