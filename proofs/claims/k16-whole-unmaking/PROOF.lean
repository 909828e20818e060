import PyProof.Rows.All
import Wide.All
import OpenK.AllK
import Wide.FinOn
import KE.KStateDown
import HandS.ForMost
import HandS.Conv
import HandS.Defaults
import HandS.IsInst
import HandS.OwnEq
import HandS.WideBits
import HandS.Gcd
import HandS.TupAny
import HandS.Style
import HandS.Zip
import HandS.Walk
import HandS.Flow
import HandS.Star
import HandS.Property
import KE.KOpsOwn
import KE.GoesEnum
import HandS.HeadHook2
import HandS.Base
import HandS.Call
import HandS.Ends
import HandS.More
import HandS.Words
import HandS.WordsExc
import HandS.Head0
import HandS.Head1
import HandS.Head2
import HandS.Head3
import HandS.HeadEnd
import HandS.HeadHook1
import HandS.Evl
import HandS.Zip0
import HandS.MapObj
import KE.KDictZip
import HandS.ExcValue
import HandS.ListItems
import KE.IntBitsLaws
import PySem.Challenge.RW_minusless_k16_whole_unmaking
set_option Elab.async false
set_option linter.all false
set_option maxRecDepth 100000
set_option maxHeartbeats 4000000
namespace MM
def nf : List Rat → List Rat → Option (Rat × Rat)
  | x :: xs, a :: as => if a = 0 then nf xs as else some (x, a)
  | _, _ => none
def val (x a : Rat) (o : Option (Rat × Rat)) : Rat := match o with
  | some (y, b) => x - a / b * y
  | none => x
def unm : List Rat → List Rat → List Rat
  | x :: xs, a :: as => val x a (nf xs as) :: unm xs as
  | _, _ => []
def app (r : List Rat) (cs : List (List Rat)) : List Rat := cs.foldr (fun c x => unm x c) r
def core : List (List Rat) → List (List Rat)
  | [] => []
  | r :: rest => app r (core rest) :: core rest
def lev (R : List (List Rat)) (k : Nat) : List (List Rat) := (R.take k).map fun r => app r ((core R).drop k)
theorem unm_length : ∀ (x a : List Rat), x.length = a.length → (unm x a).length = x.length
  | [], [], _ => rfl
  | [], _ :: _, h => by simp at h
  | _ :: _, [], h => by simp at h
  | x :: xs, a :: as, h => by
    have ih := unm_length xs as (by simpa using h)
    simp [unm, ih]
theorem core_length : ∀ R : List (List Rat), (core R).length = R.length
  | [] => rfl
  | r :: rest => by simp [core, core_length rest]
theorem core_drop : ∀ (R : List (List Rat)) (k : Nat), (core R).drop k = core (R.drop k)
  | _, 0 => by simp
  | [], k + 1 => by simp [core]
  | r :: rest, k + 1 => by
    have ih := core_drop rest k
    simpa [core] using ih
def Wide (n : Nat) (R : List (List Rat)) : Prop := ∀ r ∈ R, r.length = n
theorem app_length {n : Nat} {r : List Rat} : ∀ {cs : List (List Rat)}, r.length = n → Wide n cs → (app r cs).length = n
  | [], hr, _ => hr
  | c :: cs, hr, hc => by
    have ih := app_length (cs := cs) hr fun z hz => hc z (List.mem_cons_of_mem _ hz)
    have h1 := hc c List.mem_cons_self
    show (unm (app r cs) c).length = n
    rw [unm_length _ _ (by rw [ih, h1]), ih]
theorem core_wide {n : Nat} : ∀ {R : List (List Rat)}, Wide n R → Wide n (core R)
  | [], _ => fun r hr => by simp [core] at hr
  | r :: rest, h => fun z hz => by
    have ih := core_wide (R := rest) fun z hz => h z (List.mem_cons_of_mem _ hz)
    rcases List.mem_cons.mp (show z ∈ app r (core rest) :: core rest from hz) with e | hz
    · rw [e]
      exact app_length (h r List.mem_cons_self) ih
    · exact ih z hz
theorem lev_all (R : List (List Rat)) : lev R R.length = R := by
  unfold lev
  rw [List.take_length, show (core R).drop R.length = [] from List.drop_of_length_le (by rw [core_length]; exact Nat.le_refl _)]
  exact (List.map_congr_left fun r _ => rfl).trans (List.map_id _)
theorem lev_length {R : List (List Rat)} {k : Nat} (h : k ≤ R.length) : (lev R k).length = k := by simp [lev, Nat.min_eq_left h]
theorem lev_wide {n : Nat} {R : List (List Rat)} (h : Wide n R) (k : Nat) : Wide n (lev R k) := fun z hz => by
  obtain ⟨r, hr, rfl⟩ := List.mem_map.mp hz
  exact app_length (h r (List.mem_of_mem_take hr)) fun c hc => core_wide h c (List.mem_of_mem_drop hc)
theorem core_at {R : List (List Rat)} {k : Nat} (h : k < R.length) : (core R)[k]'(by rw [core_length]; exact h) = app R[k] ((core R).drop (k + 1)) := by
  have e := core_drop R k
  rw [List.drop_eq_getElem_cons (by rw [core_length]; exact h), List.drop_eq_getElem_cons h] at e
  injection e with e1 e2
  rw [e1, core_drop]
theorem lev_last {R : List (List Rat)} {k : Nat} (h : k < R.length) : (lev R (k + 1))[k]'(by rw [lev_length h]; omega) = (core R)[k]'(by rw [core_length]; exact h) := by
  rw [core_at h]
  simp [lev]
theorem lev_round {R : List (List Rat)} {k : Nat} (h : k < R.length) : ((lev R (k + 1)).take k).map (fun x => unm x ((core R)[k]'(by rw [core_length]; exact h))) = lev R k := by
  unfold lev
  rw [← List.map_take, List.take_take, Nat.min_eq_left (Nat.le_succ k), List.map_map]
  refine List.map_congr_left fun r _ => ?_
  show unm (app r ((core R).drop (k + 1))) _ = app r ((core R).drop k)
  rw [List.drop_eq_getElem_cons (l := core R) (i := k) (by rw [core_length]; exact h)]
  rfl
theorem lev_succ {R : List (List Rat)} {k : Nat} (h : k < R.length) : lev R (k + 1) = (lev R (k + 1)).take k ++ [(core R)[k]'(by rw [core_length]; exact h)] := by
  have hl := lev_length (R := R) (k := k + 1) h
  rw [← lev_last h]
  apply List.ext_getElem
  · simp [hl]
  · intro i h1 h2
    by_cases hi : i < k
    · rw [List.getElem_append_left (by simp [hl]; omega)]
      simp
    · have : i = k := by omega
      subst this
      rw [List.getElem_append_right (by simp [hl])]
      simp [hl]
end MM
namespace MM
theorem nf_cons (x : Rat) (xs : List Rat) (a : Rat) (as : List Rat) : nf (x :: xs) (a :: as) = if a = 0 then nf xs as else some (x, a) := rfl
theorem nf_nil (l : List Rat) : nf l [] = none := by cases l <;> rfl
theorem unm_cons (x : Rat) (xs : List Rat) (a : Rat) (as : List Rat) : unm (x :: xs) (a :: as) = val x a (nf xs as) :: unm xs as := rfl
theorem unm_at : ∀ {x a : List Rat} {j : Nat}, x.length = a.length → j < x.length → (unm x a).getD j 0 = val (x.getD j 0) (a.getD j 0) (nf (x.drop (j + 1)) (a.drop (j + 1)))
  | [], _, _, _, h => by simp at h
  | _ :: _, [], _, h, _ => by simp at h
  | x :: xs, a :: as, 0, h, _ => by rw [unm_cons]; simp
  | x :: xs, a :: as, j + 1, h, hj => by
    rw [unm_cons]
    have ih := unm_at (x := xs) (a := as) (j := j) (by simpa using h) (by simpa using hj)
    simpa using ih
def FA (a : List Rat) (j : Nat) (o : Option Nat) : Prop := match o with
  | some s => j < s ∧ s < a.length ∧ a.getD s 0 ≠ 0 ∧ ∀ t, j < t → t < s → a.getD t 0 = 0
  | none => ∀ t, j < t → t < a.length → a.getD t 0 = 0
theorem nf_skip : ∀ {x a : List Rat} (k : Nat), x.length = a.length → (∀ t, t < k → a.getD t 0 = 0) → nf x a = nf (x.drop k) (a.drop k)
  | x, a, 0, _, _ => by simp
  | [], [], k + 1, _, _ => by simp [nf]
  | [], _ :: _, _ + 1, h, _ => by simp at h
  | _ :: _, [], _ + 1, h, _ => by simp at h
  | x :: xs, a :: as, k + 1, h, hz => by
    have h0 : a = 0 := by simpa using hz 0 (Nat.succ_pos k)
    have ih := nf_skip (x := xs) (a := as) k (by simpa using h) fun t ht => by simpa using hz (t + 1) (by omega)
    rw [nf_cons, if_pos h0, ih]
    simp
theorem nf_from {x a : List Rat} {j : Nat} {o : Option Nat} (h : x.length = a.length) (f : FA a j o) : nf (x.drop (j + 1)) (a.drop (j + 1)) = o.map fun s => (x.getD s 0, a.getD s 0) := by
  cases o with
  | none =>
    have f' : ∀ t, j < t → t < a.length → a.getD t 0 = 0 := f
    rw [nf_skip (a.length - (j + 1)) (by simp [h]) (fun t ht => by
      have e := f' (j + 1 + t) (by omega) (by omega)
      simpa [List.getD_eq_getElem?_getD, List.getElem?_drop] using e)]
    have e : (a.drop (j + 1)).drop (a.length - (j + 1)) = [] := by
      rw [List.drop_drop]
      exact List.drop_of_length_le (by omega)
    rw [e, nf_nil]
    rfl
  | some s =>
    obtain ⟨h1, h2, h3, h4⟩ := (show j < s ∧ s < a.length ∧ a.getD s 0 ≠ 0 ∧ ∀ t, j < t → t < s → a.getD t 0 = 0 from f)
    rw [nf_skip (s - (j + 1)) (by simp [h]) (fun t ht => by
      have e := h4 (j + 1 + t) (by omega) (by omega)
      simpa [List.getD_eq_getElem?_getD, List.getElem?_drop] using e)]
    rw [List.drop_drop, List.drop_drop, show j + 1 + (s - (j + 1)) = s from by omega]
    rw [List.drop_eq_getElem_cons (l := x) (by omega), List.drop_eq_getElem_cons (l := a) h2, nf_cons]
    have e1 : a.getD s 0 = a[s] := by simp [List.getD_eq_getElem?_getD, List.getElem?_eq_getElem h2]
    have e2 : x.getD s 0 = x[s] := by simp [List.getD_eq_getElem?_getD, List.getElem?_eq_getElem (show s < x.length by omega)]
    rw [if_neg (by rw [← e1]; exact h3), ← e1, ← e2]
    rfl
theorem unm_val {x a : List Rat} {j : Nat} {o : Option Nat} (h : x.length = a.length) (hj : j < x.length) (f : FA a j o) :
    (unm x a).getD j 0 = match o with
      | some s => x.getD j 0 - a.getD j 0 / a.getD s 0 * x.getD s 0
      | none => x.getD j 0 := by
  rw [unm_at h hj, nf_from h f]
  cases o <;> rfl
theorem ext_getD {x y : List Rat} (h : x.length = y.length) (e : ∀ j, j < x.length → x.getD j 0 = y.getD j 0) : x = y := by
  apply List.ext_getElem h
  intro i h1 h2
  have := e i h1
  simpa [List.getD_eq_getElem?_getD, List.getElem?_eq_getElem h1, List.getElem?_eq_getElem h2] using this
def tot (x a : List Rat) : Rat := match nf x a with
  | some (y, b) => y / b
  | none => 0
theorem tot_end {x a : List Rat} (n : Nat) (h : x.length = a.length) (hn : a.length ≤ n) : tot (x.drop n) (a.drop n) = 0 := by
  unfold tot
  rw [List.drop_of_length_le (l := a) hn, nf_nil]
theorem drop_getD {x : List Rat} {j : Nat} (h : j < x.length) : x.drop j = x.getD j 0 :: x.drop (j + 1) := by
  rw [List.drop_eq_getElem_cons h]
  simp [List.getD_eq_getElem?_getD, List.getElem?_eq_getElem h]
theorem tot_zero {x a : List Rat} {j : Nat} (h : x.length = a.length) (hj : j < x.length) (ha : a.getD j 0 = 0) :
    (unm x a).getD j 0 = x.getD j 0 ∧ tot (x.drop j) (a.drop j) = tot (x.drop (j + 1)) (a.drop (j + 1)) := by
  constructor
  · rw [unm_at h hj, ha]
    unfold val
    split
    · grind
    · rfl
  · unfold tot
    rw [drop_getD hj, drop_getD (x := a) (by omega), nf_cons, if_pos ha]
theorem tot_full {x a : List Rat} {j : Nat} (h : x.length = a.length) (hj : j < x.length) (ha : a.getD j 0 ≠ 0) :
    tot (x.drop (j + 1)) (a.drop (j + 1)) + (unm x a).getD j 0 / a.getD j 0 = tot (x.drop j) (a.drop j) ∧ tot (x.drop j) (a.drop j) = x.getD j 0 / a.getD j 0 ∧ a.getD j 0 * tot (x.drop j) (a.drop j) = x.getD j 0 := by
  have e : tot (x.drop j) (a.drop j) = x.getD j 0 / a.getD j 0 := by
    unfold tot
    rw [drop_getD hj, drop_getD (x := a) (by omega), nf_cons, if_neg ha]
  refine ⟨?_, e, ?_⟩
  · rw [e, unm_at h hj]
    unfold tot val
    split
    · rename_i y b q
      grind
    · rename_i q
      grind
  · rw [e]
    grind
def ctv (t : Nat) (x a : List Rat) (j : Nat) : Rat := val (x.getD j 0) (a.getD j 0) (nf (x.drop (max t (j + 1))) (a.drop (max t (j + 1))))
theorem ctv_start {x a : List Rat} {j : Nat} (h : x.length = a.length) (n : Nat) (hn : x.length ≤ n) : ctv n x a j = x.getD j 0 := by
  unfold ctv
  rw [List.drop_of_length_le (l := a) (by omega), nf_nil]
  rfl
theorem ctv_end {x a : List Rat} {j : Nat} (h : x.length = a.length) (hj : j < x.length) (t : Nat) (ht : t ≤ j + 1) : ctv t x a j = (unm x a).getD j 0 := by
  unfold ctv
  rw [unm_at h hj, show max t (j + 1) = j + 1 from by omega]
theorem ctv_behind {x a : List Rat} {j u : Nat} (hu : u ≤ j) : ctv u x a j = ctv (u + 1) x a j := by
  unfold ctv
  rw [show max u (j + 1) = j + 1 from by omega, show max (u + 1) (j + 1) = j + 1 from by omega]
theorem ctv_empty {x a : List Rat} {j u : Nat} (h : x.length = a.length) (hu : u < x.length) (ha : a.getD u 0 = 0) : ctv u x a j = ctv (u + 1) x a j := by
  by_cases hj : u ≤ j
  · exact ctv_behind hj
  · unfold ctv
    rw [show max u (j + 1) = u from by omega, show max (u + 1) (j + 1) = u + 1 from by omega, drop_getD hu, drop_getD (x := a) (by omega), nf_cons, if_pos ha]
theorem ctv_full {x a : List Rat} {j u : Nat} (h : x.length = a.length) (hj : j < u) (hu : u < x.length) (ha : a.getD u 0 ≠ 0) :
    ctv u x a j = ctv (u + 1) x a j - a.getD j 0 / a.getD u 0 * ctv (u + 1) x a u := by
  have e1 : ctv u x a j = x.getD j 0 - a.getD j 0 / a.getD u 0 * x.getD u 0 := by
    unfold ctv
    rw [show max u (j + 1) = u from by omega, drop_getD hu, drop_getD (x := a) (by omega), nf_cons, if_neg ha]
    rfl
  rw [e1]
  unfold ctv
  rw [show max (u + 1) (j + 1) = u + 1 from by omega, show max (u + 1) (u + 1) = u + 1 from by omega]
  unfold val
  split
  · rename_i y b q
    grind
  · grind
end MM
namespace MM
def nx (a : Nat → Rat) (j : Nat) : Nat → Option Nat
  | 0 => none
  | k + 1 => match nx a j k with
    | some s => some s
    | none => if j < k ∧ a k ≠ 0 then some k else none
def rnd (n : Nat) (a x : Nat → Rat) (j : Nat) : Rat := match nx a j n with
  | some s => x j - a j / a s * x s
  | none => x j
def U : Nat → Nat → (Nat → Nat → Rat) → Nat → Nat → Rat
  | 0, _, A, i, j => A i j
  | m + 1, n, A, i, j => if i = m then A m j else U m n (fun i j => rnd n (A m) (A i) j) i j
theorem nx_lt {a : Nat → Rat} {j : Nat} : ∀ {n s : Nat}, nx a j n = some s → j < s ∧ s < n ∧ a s ≠ 0
  | 0, s, h => by simp [nx] at h
  | k + 1, s, h => by
    unfold nx at h
    split at h
    · rename_i z e
      obtain ⟨h1, h2, h3⟩ := nx_lt e
      cases h
      exact ⟨h1, by omega, h3⟩
    · split at h
      · rename_i q
        cases h
        exact ⟨q.1, by omega, q.2⟩
      · cases h
theorem nx_ext {a b : Nat → Rat} {j : Nat} : ∀ {n : Nat}, (∀ s, s < n → a s = b s) → nx a j n = nx b j n
  | 0, _ => rfl
  | k + 1, h => by
    have ih := nx_ext (a := a) (b := b) (j := j) (n := k) fun s hs => h s (by omega)
    unfold nx
    rw [ih, h k (by omega)]
theorem rnd_ext {n : Nat} {a b x y : Nat → Rat} {j : Nat} (hj : j < n) (ha : ∀ s, s < n → a s = b s) (hx : ∀ s, s < n → x s = y s) : rnd n a x j = rnd n b y j := by
  unfold rnd
  rw [nx_ext ha]
  cases e : nx b j n with
  | none => exact hx j hj
  | some s =>
    obtain ⟨_, h2, _⟩ := nx_lt e
    show x j - a j / a s * x s = y j - b j / b s * y s
    rw [ha j hj, ha s h2, hx j hj, hx s h2]
theorem U_ext : ∀ {m n : Nat} {A B : Nat → Nat → Rat}, (∀ i, i < m → ∀ j, j < n → A i j = B i j) → ∀ i, i < m → ∀ j, j < n → U m n A i j = U m n B i j
  | 0, _, _, _, _, i, hi, _, _ => absurd hi (Nat.not_lt_zero i)
  | m + 1, n, A, B, h, i, hi, j, hj => by
    unfold U
    by_cases e : i = m
    · rw [if_pos e, if_pos e]
      exact h m (by omega) j hj
    · rw [if_neg e, if_neg e]
      exact U_ext (fun i hi j hj => rnd_ext hj (fun s hs => h m (by omega) s hs) fun s hs => h i (by omega) s hs) i (by omega) j hj
theorem rnd_last {n : Nat} {a x : Nat → Rat} : rnd (n + 1) a x n = x n := by
  unfold rnd
  cases e : nx a n (n + 1) with
  | none => rfl
  | some s =>
    obtain ⟨h1, h2, _⟩ := nx_lt e
    omega
theorem nx_step {a : Nat → Rat} {j k : Nat} (h : j < k) : nx a j (k + 1) = match nx a j k with
    | some s => some s
    | none => if a k ≠ 0 then some k else none := by
  show (match nx a j k with
    | some s => some s
    | none => if j < k ∧ a k ≠ 0 then some k else none) = _
  cases nx a j k with
  | some s => rfl
  | none =>
    by_cases e : a k = 0
    · simp [e]
    · simp [e, h]
theorem swap_box {A : Nat → Nat → Rat} {m n i j : Nat} (hi : i < m) (hj : j < n) :
    rnd m (fun i => A i n) (fun i => rnd (n + 1) (A m) (A i) j) i = rnd n (A m) (fun j => rnd (m + 1) (fun i => A i n) (fun i => A i j) i) j := by
  unfold rnd
  rw [nx_step (a := A m) hj, nx_step (a := fun i => A i n) hi]
  cases e1 : nx (A m) j n with
  | some s =>
    cases e2 : nx (fun i => A i n) i m with
    | some k =>
      obtain ⟨_, _, h3⟩ := nx_lt e1
      obtain ⟨_, _, h6⟩ := nx_lt e2
      try dsimp only at h6
      grind
    | none =>
      obtain ⟨_, _, h3⟩ := nx_lt e1
      by_cases t : A m n = 0
      · simp only [t, ne_eq, not_true_eq_false, if_false]
      · simp only [t, ne_eq, not_false_eq_true, if_true]
        grind
  | none =>
    cases e2 : nx (fun i => A i n) i m with
    | some k =>
      obtain ⟨_, _, h6⟩ := nx_lt e2
      try dsimp only at h6
      by_cases t : A m n = 0
      · simp only [t, ne_eq, not_true_eq_false, if_false]
      · simp only [t, ne_eq, not_false_eq_true, if_true]
        grind
    | none =>
      by_cases t : A m n = 0
      · simp only [t, ne_eq, not_true_eq_false, if_false]
      · simp only [t, ne_eq, not_false_eq_true, if_true]
        grind
theorem U_turn : ∀ (k m n : Nat), m + n = k → ∀ (A : Nat → Nat → Rat) (i : Nat), i < m → ∀ j, j < n → U m n A i j = U n m (fun j i => A i j) j i := by
  intro k
  induction k using Nat.strongRecOn with
  | _ k ih =>
    intro m n hk A i hi j hj
    cases m with
    | zero => omega
    | succ m =>
      cases n with
      | zero => omega
      | succ n =>
        have rowlast : ∀ (p q : Nat) (B : Nat → Nat → Rat) (c : Nat), U (p + 1) q B p c = B p c := fun p q B c => by
          unfold U
          rw [if_pos rfl]
        by_cases ei : i = m
        · subst ei
          rw [rowlast]
          by_cases ej : j = n
          · subst ej
            rw [rowlast]
          · have e : U (n + 1) (i + 1) (fun j i => A i j) j i = U n (i + 1) (fun j' i' => rnd (i + 1) (fun r => A r n) (fun r => A r j') i') j i := by
              conv => lhs; unfold U
              rw [if_neg ej]
            rw [e, ih (n + (i + 1)) (by omega) n (i + 1) rfl _ j (by omega) i (by omega), rowlast, rnd_last]
        · have e1 : U (m + 1) (n + 1) A i j = U m (n + 1) (fun i j => rnd (n + 1) (A m) (A i) j) i j := by
            conv => lhs; unfold U
            rw [if_neg ei]
          rw [e1, ih (m + (n + 1)) (by omega) m (n + 1) rfl _ i (by omega) j hj]
          by_cases ej : j = n
          · subst ej
            rw [rowlast, rowlast, rnd_last]
          · have e2 : ∀ (q : Nat) (B : Nat → Nat → Rat), U (n + 1) q B j i = U n q (fun a b => rnd q (B n) (B a) b) j i := fun q B => by
              conv => lhs; unfold U
              rw [if_neg ej]
            rw [e2, e2, ih (n + (m + 1)) (by omega) n (m + 1) rfl _ j (by omega) i hi]
            have e3 : ∀ (q : Nat) (B : Nat → Nat → Rat), U (m + 1) q B i j = U m q (fun a b => rnd q (B m) (B a) b) i j := fun q B => by
              conv => lhs; unfold U
              rw [if_neg ei]
            rw [e3, ih (m + n) (by omega) m n rfl _ i (by omega) j (by omega)]
            refine U_ext (fun j' hj' i' hi' => ?_) j (by omega) i (by omega)
            have h1 : rnd m (fun i => rnd (n + 1) (A m) (A i) n) (fun i => rnd (n + 1) (A m) (A i) j') i' = rnd m (fun i => A i n) (fun i => rnd (n + 1) (A m) (A i) j') i' :=
              rnd_ext hi' (fun s _ => rnd_last) fun _ _ => rfl
            have h2 : rnd n (fun j => rnd (m + 1) (fun i => A i n) (fun i => A i j) m) (fun j => rnd (m + 1) (fun i => A i n) (fun i => A i j) i') j' = rnd n (A m) (fun j => rnd (m + 1) (fun i => A i n) (fun i => A i j) i') j' :=
              rnd_ext hj' (fun s _ => rnd_last) fun _ _ => rfl
            show rnd m (fun i => rnd (n + 1) (A m) (A i) n) (fun i => rnd (n + 1) (A m) (A i) j') i' = rnd n (fun j => rnd (m + 1) (fun i => A i n) (fun i => A i j) m) (fun j => rnd (m + 1) (fun i => A i n) (fun i => A i j) i') j'
            rw [h1, h2]
            exact swap_box hi' hj'
end MM
namespace MM
def fn (R : List (List Rat)) (i j : Nat) : Rat := (R.getD i []).getD j 0
def tr (n : Nat) (R : List (List Rat)) : List (List Rat) := (List.range n).map fun j => R.map fun r => r.getD j 0
theorem nf_nx : ∀ {x a : List Rat} {n j : Nat}, x.length = n → a.length = n → nf (x.drop (j + 1)) (a.drop (j + 1)) = (nx (fun i => a.getD i 0) j n).map fun s => (x.getD s 0, a.getD s 0) := by
  intro x a n j hx ha
  have f : FA a j (nx (fun i => a.getD i 0) j n) := by
    rw [← ha]
    generalize hk : a.length = k
    have gen : ∀ k : Nat, match nx (fun i => a.getD i 0) j k with
      | some s => j < s ∧ s < k ∧ a.getD s 0 ≠ 0 ∧ ∀ t, j < t → t < s → a.getD t 0 = 0
      | none => ∀ t, j < t → t < k → a.getD t 0 = 0 := by
      intro k
      induction k with
      | zero => intro t h1 h2; omega
      | succ k ih =>
        unfold nx
        cases e : nx (fun i => a.getD i 0) j k with
        | some s =>
          rw [e] at ih
          obtain ⟨h1, h2, h3, h4⟩ := ih
          exact ⟨h1, by omega, h3, h4⟩
        | none =>
          rw [e] at ih
          dsimp only
          by_cases q : j < k ∧ a.getD k 0 ≠ 0
          · rw [if_pos q]
            exact ⟨q.1, by omega, q.2, ih⟩
          · rw [if_neg q]
            intro t h1 h2
            by_cases ht : t = k
            · subst ht
              exact Classical.byContradiction fun z => q ⟨h1, z⟩
            · exact ih t h1 (by omega)
    have g := gen k
    unfold FA
    rw [hk]
    exact g
  exact nf_from (by omega) f
theorem unm_rnd {x a : List Rat} {n j : Nat} (hx : x.length = n) (ha : a.length = n) (hj : j < n) : (unm x a).getD j 0 = rnd n (fun i => a.getD i 0) (fun i => x.getD i 0) j := by
  rw [unm_at (by omega) (by omega), nf_nx hx ha]
  unfold rnd
  cases nx (fun i => a.getD i 0) j n <;> rfl
theorem app_snoc (r : List Rat) (cs : List (List Rat)) (a : List Rat) : app r (cs ++ [a]) = app (unm r a) cs := by
  unfold app
  rw [List.foldr_append]
  rfl
theorem core_snoc : ∀ (R : List (List Rat)) (a : List Rat), core (R ++ [a]) = core (R.map fun x => unm x a) ++ [a]
  | [], a => rfl
  | r :: rest, a => by
    show app r (core (rest ++ [a])) :: core (rest ++ [a]) = app (unm r a) (core (rest.map fun x => unm x a)) :: core (rest.map fun x => unm x a) ++ [a]
    rw [core_snoc rest a, app_snoc]
    rfl
theorem fn_snoc_last (R : List (List Rat)) (a : List Rat) (j : Nat) : fn (R ++ [a]) R.length j = a.getD j 0 := by
  unfold fn
  simp [List.getD_eq_getElem?_getD]
theorem fn_snoc (R : List (List Rat)) (a : List Rat) {i : Nat} (j : Nat) (h : i < R.length) : fn (R ++ [a]) i j = fn R i j := by
  unfold fn
  simp [List.getD_eq_getElem?_getD, List.getElem?_append_left h]
theorem fn_core {n : Nat} : ∀ (m : Nat) (R : List (List Rat)), R.length = m → Wide n R → ∀ i, i < m → ∀ j, j < n → fn (core R) i j = U m n (fn R) i j := by
  intro m
  induction m with
  | zero => intro R _ _ i hi; omega
  | succ m ih =>
    intro R hm hw i hi j hj
    have hne : R ≠ [] := by intro z; subst z; simp at hm
    obtain ⟨S, a, rfl⟩ : ∃ S a, R = S ++ [a] := ⟨R.dropLast, R.getLast hne, (List.dropLast_concat_getLast hne).symm⟩
    have hS : S.length = m := by simpa using hm
    have ha : a.length = n := hw a (by simp)
    have hwS : Wide n S := fun r hr => hw r (by simp [hr])
    have hwM : Wide n (S.map fun x => unm x a) := fun z hz => by
      obtain ⟨r, hr, rfl⟩ := List.mem_map.mp hz
      rw [unm_length _ _ (by rw [hwS r hr, ha]), hwS r hr]
    rw [core_snoc]
    have hl : (core (S.map fun x => unm x a)).length = m := by rw [core_length, List.length_map, hS]
    unfold U
    by_cases e : i = m
    · rw [if_pos e]
      subst e
      rw [← hl, fn_snoc_last, hl, ← hS, fn_snoc_last]
    · rw [if_neg e, fn_snoc _ _ _ (by omega), ih _ (by rw [List.length_map, hS]) hwM i (by omega) j hj]
      refine U_ext (fun i hi j hj => ?_) i (by omega) j hj
      have e1 : fn (S.map fun x => unm x a) i j = (unm (S.getD i []) a).getD j 0 := by
        unfold fn
        simp [List.getD_eq_getElem?_getD, List.getElem?_map, List.getElem?_eq_getElem (show i < S.length by omega)]
      have hr : (S.getD i []).length = n := by
        rw [List.getD_eq_getElem?_getD, List.getElem?_eq_getElem (show i < S.length by omega)]
        exact hwS _ (List.getElem_mem _)
      rw [e1, unm_rnd hr ha hj]
      refine rnd_ext hj (fun s _ => ?_) fun s _ => ?_
      · rw [← hS, fn_snoc_last]
      · rw [fn_snoc _ _ _ (by omega)]
        rfl
theorem tr_length (n : Nat) (R : List (List Rat)) : (tr n R).length = n := by simp [tr]
theorem tr_wide (n : Nat) (R : List (List Rat)) : Wide R.length (tr n R) := fun z hz => by
  obtain ⟨j, _, rfl⟩ := List.mem_map.mp hz
  simp
theorem fn_tr {n : Nat} {R : List (List Rat)} {i j : Nat} (hi : i < R.length) (hj : j < n) : fn (tr n R) j i = fn R i j := by
  unfold fn tr
  simp [List.getD_eq_getElem?_getD, List.getElem?_map, hj, List.getElem?_eq_getElem hi]
theorem ext_fn {m n : Nat} {R S : List (List Rat)} (h1 : R.length = m) (h2 : S.length = m) (w1 : Wide n R) (w2 : Wide n S) (e : ∀ i, i < m → ∀ j, j < n → fn R i j = fn S i j) : R = S := by
  apply List.ext_getElem (by omega)
  intro i a b
  have l1 := w1 _ (List.getElem_mem a)
  have l2 := w2 _ (List.getElem_mem b)
  apply ext_getD (by omega)
  intro j hj
  have q := e i (by omega) j (by omega)
  unfold fn at q
  rw [List.getD_eq_getElem?_getD (l := R), List.getD_eq_getElem?_getD (l := S), List.getElem?_eq_getElem a, List.getElem?_eq_getElem b] at q
  exact q
theorem core_tr {n : Nat} {R : List (List Rat)} (w : Wide n R) : core (tr n R) = tr n (core R) := by
  have w1 := core_wide (tr_wide n R)
  have l1 : (core (tr n R)).length = n := by rw [core_length, tr_length]
  refine ext_fn (m := n) (n := R.length) l1 (tr_length _ _) w1 ?_ fun j hj i hi => ?_
  · have := tr_wide n (core R)
    rwa [core_length] at this
  · rw [fn_core n (tr n R) (tr_length _ _) (tr_wide n R) j hj i hi, fn_tr (by rw [core_length]; exact hi) hj, fn_core R.length R rfl w i hi j hj,
      U_turn _ n R.length rfl _ j hj i hi]
    exact U_ext (fun i hi j hj => fn_tr hi hj) i hi j hj
theorem tr_tr {m n : Nat} {R : List (List Rat)} (h : R.length = m) (w : Wide n R) : tr m (tr n R) = R := by
  refine ext_fn (m := m) (n := n) (tr_length _ _) h ?_ w fun i hi j hj => ?_
  · have := tr_wide m (tr n R)
    rwa [tr_length] at this
  · rw [fn_tr (R := tr n R) (by rw [tr_length]; exact hj) hi, fn_tr (by omega) hj]
theorem unm_drop : ∀ (x a : List Rat) (k : Nat), x.length = a.length → (unm x a).drop k = unm (x.drop k) (a.drop k)
  | _, _, 0, _ => by simp
  | [], [], k + 1, _ => by simp [unm]
  | [], _ :: _, _ + 1, h => by simp at h
  | _ :: _, [], _ + 1, h => by simp at h
  | x :: xs, a :: as, k + 1, h => by
    rw [unm_cons]
    simpa using unm_drop xs as k (by simpa using h)
theorem app_drop {n : Nat} (k : Nat) : ∀ {cs : List (List Rat)} {r : List Rat}, r.length = n → Wide n cs → (app r cs).drop k = app (r.drop k) (cs.map (List.drop k))
  | [], _, _, _ => rfl
  | c :: cs, r, hr, hc => by
    have hc' : Wide n cs := fun z hz => hc z (List.mem_cons_of_mem _ hz)
    show (unm (app r cs) c).drop k = unm (app (r.drop k) (cs.map (List.drop k))) (c.drop k)
    rw [unm_drop _ _ _ (by rw [app_length hr hc', hc c List.mem_cons_self]), app_drop k hr hc']
theorem core_cols {n : Nat} (k : Nat) : ∀ {R : List (List Rat)}, Wide n R → core (R.map (List.drop k)) = (core R).map (List.drop k)
  | [], _ => rfl
  | r :: rest, h => by
    have h' : Wide n rest := fun z hz => h z (List.mem_cons_of_mem _ hz)
    show app (r.drop k) (core (rest.map (List.drop k))) :: core (rest.map (List.drop k)) = (app r (core rest)).drop k :: (core rest).map (List.drop k)
    rw [core_cols k h', app_drop k (h r List.mem_cons_self) (core_wide h')]
theorem core_corner {n : Nat} {R : List (List Rat)} (w : Wide n R) (i j : Nat) : core ((R.drop i).map (List.drop j)) = ((core R).drop i).map (List.drop j) := by
  rw [core_cols (n := n) j fun z hz => w z (List.mem_of_mem_drop hz), core_drop]
def scl (c : Rat) (r : List Rat) : List Rat := r.map fun x => c * x
theorem nf_sclx (c : Rat) : ∀ x a : List Rat, nf (scl c x) a = (nf x a).map fun p => (c * p.1, p.2)
  | [], a => by cases a <;> rfl
  | _ :: _, [] => rfl
  | x :: xs, a :: as => by
    show nf (c * x :: scl c xs) (a :: as) = _
    rw [nf_cons, nf_cons, nf_sclx c xs as]
    by_cases h : a = 0
    · rw [if_pos h, if_pos h]
    · rw [if_neg h, if_neg h] <;> rfl
theorem nf_scla {c : Rat} (hc : c ≠ 0) : ∀ x a : List Rat, nf x (scl c a) = (nf x a).map fun p => (p.1, c * p.2)
  | [], a => by cases a <;> rfl
  | _ :: _, [] => rfl
  | x :: xs, a :: as => by
    show nf (x :: xs) (c * a :: scl c as) = _
    rw [nf_cons, nf_cons, nf_scla hc xs as]
    by_cases h : a = 0
    · rw [if_pos h, if_pos (by rw [h, Rat.mul_zero])]
    · rw [if_neg h, if_neg (by grind)] <;> rfl
theorem unm_sclx (c : Rat) : ∀ x a : List Rat, unm (scl c x) a = scl c (unm x a)
  | [], a => by cases a <;> rfl
  | _ :: _, [] => rfl
  | x :: xs, a :: as => by
    show unm (c * x :: scl c xs) (a :: as) = scl c (unm (x :: xs) (a :: as))
    rw [unm_cons, unm_cons, nf_sclx, unm_sclx c xs as]
    show _ = c * val x a (nf xs as) :: scl c (unm xs as)
    congr 1
    cases nf xs as with
    | none => rfl
    | some p =>
      obtain ⟨y, b⟩ := p
      show c * x - a / b * (c * y) = c * (x - a / b * y)
      grind
theorem unm_scla {c : Rat} (hc : c ≠ 0) : ∀ x a : List Rat, unm x (scl c a) = unm x a
  | [], a => by cases a <;> rfl
  | _ :: _, [] => rfl
  | x :: xs, a :: as => by
    show unm (x :: xs) (c * a :: scl c as) = unm (x :: xs) (a :: as)
    rw [unm_cons, unm_cons, nf_scla hc, unm_scla hc xs as]
    congr 1
    cases nf xs as with
    | none => rfl
    | some p =>
      obtain ⟨y, b⟩ := p
      show x - c * a / (c * b) * y = x - a / b * y
      by_cases hb : b = 0
      · subst hb; grind
      · grind
theorem app_scl (c : Rat) : ∀ (cs : List (List Rat)) (r : List Rat), app (scl c r) cs = scl c (app r cs)
  | [], _ => rfl
  | d :: cs, r => by
    show unm (app (scl c r) cs) d = scl c (unm (app r cs) d)
    rw [app_scl c cs r, unm_sclx]
def scR (k : Nat) (c : Rat) (R : List (List Rat)) : List (List Rat) := R.set k (scl c (R.getD k []))
theorem app_scR {c : Rat} (hc : c ≠ 0) : ∀ (cs : List (List Rat)) (r : List Rat) (k : Nat), app r (scR k c cs) = app r cs
  | [], _, _ => by simp [scR]
  | d :: cs, r, 0 => by
    show unm (app r cs) (scl c d) = unm (app r cs) d
    exact unm_scla hc _ _
  | d :: cs, r, k + 1 => by
    show unm (app r (scR k c cs)) d = unm (app r cs) d
    rw [app_scR hc cs r k]
theorem core_scR {c : Rat} (hc : c ≠ 0) : ∀ (R : List (List Rat)) (k : Nat), core (scR k c R) = scR k c (core R)
  | [], _ => by simp [scR, core]
  | r :: rest, 0 => by
    show app (scl c r) (core rest) :: core rest = scl c (app r (core rest)) :: core rest
    rw [app_scl]
  | r :: rest, k + 1 => by
    show app r (core (scR k c rest)) :: core (scR k c rest) = app r (core rest) :: scR k c (core rest)
    rw [core_scR hc rest k, app_scR hc]
def ins {α : Type} (k : Nat) (z : α) (l : List α) : List α := l.take k ++ [z] ++ l.drop k
theorem ins_zero {α : Type} (z : α) (l : List α) : ins 0 z l = z :: l := by simp [ins]
theorem ins_succ {α : Type} (k : Nat) (z x : α) (l : List α) : ins (k + 1) z (x :: l) = x :: ins k z l := by simp [ins]
theorem ins_length {α : Type} (k : Nat) (z : α) (l : List α) : (ins k z l).length = l.length + 1 := by
  have h : (l.take k).length + (l.drop k).length = l.length := by
    rw [← List.length_append, List.take_append_drop]
  simp only [ins, List.length_append, List.length_singleton]
  omega
def zer (n : Nat) : List Rat := List.replicate n 0
theorem nf_zera : ∀ (n : Nat) (x : List Rat), nf x (zer n) = none
  | 0, x => nf_nil x
  | n + 1, [] => rfl
  | n + 1, x :: xs => by
    show nf (x :: xs) (0 :: zer n) = none
    rw [nf_cons, if_pos rfl, nf_zera n xs]
theorem unm_zera : ∀ (x : List Rat), unm x (zer x.length) = x
  | [] => rfl
  | x :: xs => by
    show unm (x :: xs) (0 :: zer xs.length) = x :: xs
    rw [unm_cons, nf_zera, unm_zera xs]
    rfl
theorem nf_zerx : ∀ (a : List Rat) (p : Rat × Rat), nf (zer a.length) a = some p → p.1 = 0
  | [], p, h => by cases h
  | a :: as, p, h => by
    have h' : nf (0 :: zer as.length) (a :: as) = some p := h
    rw [nf_cons] at h'
    by_cases e : a = 0
    · rw [if_pos e] at h'
      exact nf_zerx as p h'
    · rw [if_neg e] at h'
      cases h'
      rfl
theorem unm_zerx : ∀ (a : List Rat), unm (zer a.length) a = zer a.length
  | [] => rfl
  | a :: as => by
    show unm (0 :: zer as.length) (a :: as) = 0 :: zer as.length
    rw [unm_cons, unm_zerx as]
    congr 1
    cases e : nf (zer as.length) as with
    | none => rfl
    | some p =>
      obtain ⟨y, b⟩ := p
      have q := nf_zerx as _ e
      dsimp only at q
      subst q
      show (0 : Rat) - a / b * 0 = 0
      grind
theorem app_zer {n : Nat} : ∀ {cs : List (List Rat)}, Wide n cs → app (zer n) cs = zer n
  | [], _ => rfl
  | c :: cs, h => by
    show unm (app (zer n) cs) c = zer n
    rw [app_zer fun z hz => h z (List.mem_cons_of_mem _ hz)]
    have := h c List.mem_cons_self
    subst this
    exact unm_zerx c
theorem app_insz {n : Nat} : ∀ {cs : List (List Rat)} {r : List Rat} (k : Nat), r.length = n → Wide n cs → app r (ins k (zer n) cs) = app r cs
  | cs, r, 0, hr, hw => by
    rw [ins_zero]
    show unm (app r cs) (zer n) = app r cs
    have := app_length hr hw
    rw [← this]
    exact unm_zera _
  | [], r, k + 1, hr, hw => by
    show unm r (zer n) = r
    rw [← hr]
    exact unm_zera _
  | c :: cs, r, k + 1, hr, hw => by
    rw [ins_succ]
    show unm (app r (ins k (zer n) cs)) c = unm (app r cs) c
    rw [app_insz k hr fun z hz => hw z (List.mem_cons_of_mem _ hz)]
theorem core_insz {n : Nat} : ∀ {R : List (List Rat)} (k : Nat), k ≤ R.length → Wide n R → core (ins k (zer n) R) = ins k (zer n) (core R)
  | R, 0, _, hw => by
    rw [ins_zero, ins_zero]
    show app (zer n) (core R) :: core R = zer n :: core R
    rw [app_zer (core_wide hw)]
  | [], k + 1, h, _ => by simp at h
  | r :: rest, k + 1, h, hw => by
    have hw' : Wide n rest := fun z hz => hw z (List.mem_cons_of_mem _ hz)
    rw [ins_succ]
    show app r (core (ins k (zer n) rest)) :: core (ins k (zer n) rest) = ins (k + 1) (zer n) (app r (core rest) :: core rest)
    rw [core_insz k (by simpa using h) hw', ins_succ, app_insz k (hw r List.mem_cons_self) (core_wide hw')]
theorem nf_insc : ∀ (x a : List Rat) (k : Nat), x.length = a.length → nf (ins k 0 x) (ins k 0 a) = nf x a
  | x, a, 0, _ => by
    rw [ins_zero, ins_zero, nf_cons, if_pos rfl]
  | [], [], k + 1, _ => by
    show nf [0] [0] = nf [] []
    rw [nf_cons, if_pos rfl]
  | [], _ :: _, _ + 1, h => by simp at h
  | _ :: _, [], _ + 1, h => by simp at h
  | x :: xs, a :: as, k + 1, h => by
    rw [ins_succ, ins_succ, nf_cons, nf_cons, nf_insc xs as k (by simpa using h)]
theorem unm_insc : ∀ (x a : List Rat) (k : Nat), x.length = a.length → k ≤ x.length → unm (ins k 0 x) (ins k 0 a) = ins k 0 (unm x a)
  | x, a, 0, _, _ => by
    rw [ins_zero, ins_zero, ins_zero, unm_cons]
    congr 1
    unfold val
    split
    · grind
    · rfl
  | [], _, k + 1, _, h => by simp at h
  | _ :: _, [], _ + 1, h, _ => by simp at h
  | x :: xs, a :: as, k + 1, h, hk => by
    rw [ins_succ, ins_succ, unm_cons, unm_cons, ins_succ, nf_insc xs as k (by simpa using h), unm_insc xs as k (by simpa using h) (by simpa using hk)]
theorem app_insc {n k : Nat} (hk : k ≤ n) : ∀ {cs : List (List Rat)} {r : List Rat}, r.length = n → Wide n cs → app (ins k 0 r) (cs.map (ins k 0)) = ins k 0 (app r cs)
  | [], _, _, _ => rfl
  | c :: cs, r, hr, hw => by
    have hw' : Wide n cs := fun z hz => hw z (List.mem_cons_of_mem _ hz)
    show unm (app (ins k 0 r) (cs.map (ins k 0))) (ins k 0 c) = ins k 0 (unm (app r cs) c)
    rw [app_insc hk hr hw', unm_insc _ _ _ (by rw [app_length hr hw', hw c List.mem_cons_self]) (by rw [app_length hr hw']; exact hk)]
theorem core_insc {n k : Nat} (hk : k ≤ n) : ∀ {R : List (List Rat)}, Wide n R → core (R.map (ins k 0)) = (core R).map (ins k 0)
  | [], _ => rfl
  | r :: rest, hw => by
    have hw' : Wide n rest := fun z hz => hw z (List.mem_cons_of_mem _ hz)
    show app (ins k 0 r) (core (rest.map (ins k 0))) :: core (rest.map (ins k 0)) = ins k 0 (app r (core rest)) :: (core rest).map (ins k 0)
    rw [core_insc hk hw', app_insc hk (hw r List.mem_cons_self) (core_wide hw')]
end MM
namespace MM
structure hb (b : Nat) (q : Rat) : Prop where
  num : q.num.natAbs < 2 ^ b
  den : q.den < 2 ^ b
theorem hb.mono {a b : Nat} {q : Rat} (h : hb a q) (hab : a ≤ b) : hb b q :=
  ⟨Nat.lt_of_lt_of_le h.1 (Nat.pow_le_pow_right (by decide) hab), Nat.lt_of_lt_of_le h.2 (Nat.pow_le_pow_right (by decide) hab)⟩
theorem hb_pos {b : Nat} {q : Rat} (h : hb b q) : 0 < b := by
  cases b with
  | zero =>
    have := q.den_nz
    have h2 : q.den < 1 := h.2
    omega
  | succ b => omega
theorem hb_zero : hb 1 0 := ⟨by decide, by decide⟩
theorem mul_pow {x y a b : Nat} (hx : x < 2 ^ a) (hy : y < 2 ^ b) : x * y < 2 ^ (a + b) := by
  rw [Nat.pow_add]
  exact Nat.mul_lt_mul'' hx hy
theorem hb_normalize {n : Int} {d : Nat} {b : Nat} (hd : d ≠ 0) (h1 : n.natAbs < 2 ^ b) (h2 : d < 2 ^ b) : hb b (Rat.normalize n d hd) := by
  rw [Rat.normalize_eq]
  constructor
  · show (n / (n.natAbs.gcd d : Int)).natAbs < 2 ^ b
    refine Nat.lt_of_le_of_lt ?_ h1
    have e : (n / ((n.natAbs.gcd d : Nat) : Int)).natAbs = n.natAbs / n.natAbs.gcd d := by
      rw [Int.natAbs_ediv_of_dvd]
      · rfl
      · exact Int.ofNat_dvd_left.mpr (Nat.gcd_dvd_left _ _)
    rw [e]
    exact Nat.div_le_self _ _
  · exact Nat.lt_of_le_of_lt (Nat.div_le_self _ _) h2
theorem hb_mul {a b : Nat} {p q : Rat} (hp : hb a p) (hq : hb b q) : hb (a + b) (p * q) := by
  rw [Rat.mul_def]
  refine hb_normalize _ ?_ (mul_pow hp.2 hq.2)
  rw [Int.natAbs_mul]
  exact mul_pow hp.1 hq.1
theorem cross {a b : Nat} {p q : Rat} (hp : hb a p) (hq : hb b q) : (p.num * q.den).natAbs < 2 ^ (a + b) ∧ (q.num * p.den).natAbs < 2 ^ (a + b) := by
  constructor
  · rw [Int.natAbs_mul]
    exact mul_pow hp.1 hq.2
  · rw [Int.natAbs_mul, Nat.add_comm a b]
    exact mul_pow hq.1 hp.2
theorem hb_add {a b : Nat} {p q : Rat} (hp : hb a p) (hq : hb b q) : hb (a + b + 1) (p + q) := by
  obtain ⟨h1, h2⟩ := cross hp hq
  have e : 2 ^ (a + b + 1) = 2 ^ (a + b) + 2 ^ (a + b) := by rw [Nat.pow_succ]; omega
  rw [Rat.add_def]
  refine hb_normalize _ ?_ ?_
  · rw [e]
    omega
  · exact Nat.lt_of_lt_of_le (mul_pow hp.2 hq.2) (by omega)
theorem hb_sub {a b : Nat} {p q : Rat} (hp : hb a p) (hq : hb b q) : hb (a + b + 1) (p - q) := by
  obtain ⟨h1, h2⟩ := cross hp hq
  have e : 2 ^ (a + b + 1) = 2 ^ (a + b) + 2 ^ (a + b) := by rw [Nat.pow_succ]; omega
  rw [Rat.sub_def]
  refine hb_normalize _ ?_ ?_
  · rw [e]
    omega
  · exact Nat.lt_of_lt_of_le (mul_pow hp.2 hq.2) (by omega)
theorem hb_inv {a : Nat} {p : Rat} (hp : hb a p) : hb a p⁻¹ := by
  have hpos := hb_pos hp
  by_cases h0 : p = 0
  · subst h0
    rw [Rat.inv_zero]
    exact hp
  · have hn : p.num ≠ 0 := by
      intro z
      exact h0 (Rat.num_eq_zero.mp z)
    rw [Rat.inv_def]
    constructor
    · rw [Rat.num_divInt]
      have e : (p.num.sign * (p.den : Int)).natAbs = p.den := by
        rw [Int.natAbs_mul, Int.natAbs_sign_of_ne_zero hn]
        simp
      refine Nat.lt_of_le_of_lt ?_ hp.2
      rw [Int.natAbs_ediv_of_dvd]
      · rw [e]
        exact Nat.div_le_self _ _
      · exact Int.dvd_trans (Int.gcd_dvd_right ..) (Int.dvd_mul_left ..)
    · rw [Rat.den_divInt, if_neg hn]
      exact Nat.lt_of_le_of_lt (Nat.div_le_self _ _) hp.1
theorem hb_div {a b : Nat} {p q : Rat} (hp : hb a p) (hq : hb b q) : hb (a + b) (p / q) := by
  rw [Rat.div_def]
  exact hb_mul hp (hb_inv hq)
def hbR (b : Nat) (r : List Rat) : Prop := ∀ q ∈ r, hb b q
def hbT (b : Nat) (R : List (List Rat)) : Prop := ∀ r ∈ R, hbR b r
theorem hbR.mono {a b : Nat} {r : List Rat} (h : hbR a r) (hab : a ≤ b) : hbR b r := fun q hq => (h q hq).mono hab
theorem hbT.mono {a b : Nat} {R : List (List Rat)} (h : hbT a R) (hab : a ≤ b) : hbT b R := fun q hq => (h q hq).mono hab
theorem hbR.at {b : Nat} {r : List Rat} (h : hbR b r) {j : Nat} (hj : j < r.length) : hb b (r.getD j 0) := by
  rw [List.getD_eq_getElem?_getD, List.getElem?_eq_getElem hj]
  exact h _ (List.getElem_mem hj)
theorem hbR_of {b : Nat} {r : List Rat} (h : ∀ j, j < r.length → hb b (r.getD j 0)) : hbR b r := fun q hq => by
  obtain ⟨j, hj, e⟩ := List.getElem_of_mem hq
  have := h j hj
  rw [List.getD_eq_getElem?_getD, List.getElem?_eq_getElem hj] at this
  rw [← e]
  exact this
theorem hb_val {b : Nat} {x a y c : Rat} (hx : hb b x) (ha : hb b a) (hy : hb b y) (hc : hb b c) : hb (4 * b + 1) (x - a / c * y) :=
  (hb_sub hx (hb_mul (hb_div ha hc) hy)).mono (by omega)
theorem nf_mem : ∀ {x a : List Rat} {p : Rat × Rat}, nf x a = some p → p.1 ∈ x ∧ p.2 ∈ a
  | [], a, p, h => by cases a <;> cases h
  | _ :: _, [], p, h => by cases h
  | x :: xs, a :: as, p, h => by
    rw [nf_cons] at h
    by_cases e : a = 0
    · rw [if_pos e] at h
      obtain ⟨h1, h2⟩ := nf_mem h
      exact ⟨List.mem_cons_of_mem _ h1, List.mem_cons_of_mem _ h2⟩
    · rw [if_neg e] at h
      cases h
      exact ⟨List.mem_cons_self, List.mem_cons_self⟩
theorem hb_valO {b : Nat} {x a : Rat} {o : Option (Rat × Rat)} (hx : hb b x) (ha : hb b a) (h : ∀ p, o = some p → hb b p.1 ∧ hb b p.2) : hb (4 * b + 1) (val x a o) := by
  cases o with
  | none => exact hx.mono (by omega)
  | some p =>
    obtain ⟨h1, h2⟩ := h p rfl
    exact hb_val hx ha h1 h2
theorem hb_unm {b : Nat} : ∀ {x a : List Rat}, hbR b x → hbR b a → hbR (4 * b + 1) (unm x a)
  | [], a, _, _ => by cases a <;> exact fun q hq => by cases hq
  | _ :: _, [], _, _ => fun q hq => by cases hq
  | x :: xs, a :: as, hx, ha => by
    rw [unm_cons]
    intro q hq
    rcases List.mem_cons.mp hq with e | hq
    · rw [e]
      refine hb_valO (hx x List.mem_cons_self) (ha a List.mem_cons_self) fun p hp => ?_
      obtain ⟨h1, h2⟩ := nf_mem hp
      exact ⟨hx _ (List.mem_cons_of_mem _ h1), ha _ (List.mem_cons_of_mem _ h2)⟩
    · exact hb_unm (fun z hz => hx z (List.mem_cons_of_mem _ hz)) (fun z hz => ha z (List.mem_cons_of_mem _ hz)) q hq
def okU (b : Nat) (R : List (List Rat)) : Prop := ∀ k, 2 ≤ k → k ≤ R.length → hbT b (lev R k)
theorem lev_hb {b : Nat} {R : List (List Rat)} (h : hbT b R) : ∀ d k, k + d = R.length → 0 < k → hbT (4 ^ d * (b + 1) - 1) (lev R k)
  | 0, k, hk, _ => by
    have : k = R.length := by omega
    subst this
    rw [lev_all]
    simpa using h
  | d + 1, k, hk, h0 => by
    have ih := lev_hb h d (k + 1) (by omega) (by omega)
    have hkl : k < R.length := by omega
    rw [← lev_round hkl]
    intro r hr
    obtain ⟨x, hx, rfl⟩ := List.mem_map.mp hr
    have h1 := ih x (List.mem_of_mem_take hx)
    have h2 : hbR (4 ^ d * (b + 1) - 1) ((core R)[k]'(by rw [core_length]; exact hkl)) := by
      rw [← lev_last hkl]
      exact ih _ (List.getElem_mem _)
    refine (hb_unm h1 h2).mono ?_
    have hp : 1 ≤ 4 ^ d * (b + 1) := Nat.mul_pos (Nat.pow_pos (by decide)) (by omega)
    rw [Nat.pow_succ]
    have e : 4 ^ d * 4 * (b + 1) = 4 * (4 ^ d * (b + 1)) := by rw [Nat.mul_comm (4 ^ d) 4, Nat.mul_assoc]
    rw [e]
    omega
theorem okU_of {b B : Nat} {R : List (List Rat)} (h : hbT b R) (hB : 4 ^ (R.length - 2) * (b + 1) ≤ B + 1) : okU B R := fun k h2 hk => by
  refine (lev_hb h (R.length - k) k (by omega) (by omega)).mono ?_
  have h1 : 4 ^ (R.length - k) ≤ 4 ^ (R.length - 2) := Nat.pow_le_pow_right (by decide) (by omega)
  have h3 : 4 ^ (R.length - k) * (b + 1) ≤ 4 ^ (R.length - 2) * (b + 1) := Nat.mul_le_mul_right _ h1
  omega
theorem den_ne (q : Rat) : (q.den : Int) ≠ 0 := by
  have := q.den_nz
  omega
theorem num_den (q : Rat) : (q.num : Rat) / ((q.den : Int) : Rat) = q := by
  rw [← Rat.divInt_eq_div]
  exact Rat.num_divInt_den q
theorem add_div (p q : Rat) : Rat.divInt (p.num * q.den + q.num * p.den) ((p.den : Int) * q.den) = p + q := by
  have h1 := num_den p
  have h2 := num_den q
  have d1 : ((p.den : Int) : Rat) ≠ 0 := fun z => den_ne p (Rat.intCast_eq_zero_iff.mp z)
  have d2 : ((q.den : Int) : Rat) ≠ 0 := fun z => den_ne q (Rat.intCast_eq_zero_iff.mp z)
  rw [Rat.divInt_eq_div, Rat.intCast_add, Rat.intCast_mul, Rat.intCast_mul, Rat.intCast_mul]
  generalize (p.num : Rat) = a at *
  generalize (q.num : Rat) = b at *
  generalize ((p.den : Int) : Rat) = c at *
  generalize ((q.den : Int) : Rat) = d at *
  subst h1 h2
  grind
theorem sub_div (p q : Rat) : Rat.divInt (p.num * q.den - q.num * p.den) ((p.den : Int) * q.den) = p - q := by
  have h1 := num_den p
  have h2 := num_den q
  have d1 : ((p.den : Int) : Rat) ≠ 0 := fun z => den_ne p (Rat.intCast_eq_zero_iff.mp z)
  have d2 : ((q.den : Int) : Rat) ≠ 0 := fun z => den_ne q (Rat.intCast_eq_zero_iff.mp z)
  rw [Rat.divInt_eq_div, Rat.intCast_sub, Rat.intCast_mul, Rat.intCast_mul, Rat.intCast_mul]
  generalize (p.num : Rat) = a at *
  generalize (q.num : Rat) = b at *
  generalize ((p.den : Int) : Rat) = c at *
  generalize ((q.den : Int) : Rat) = d at *
  subst h1 h2
  grind
theorem mul_div (p q : Rat) : Rat.divInt (p.num * q.num) ((p.den : Int) * q.den) = p * q := by
  have h1 := num_den p
  have h2 := num_den q
  have d1 : ((p.den : Int) : Rat) ≠ 0 := fun z => den_ne p (Rat.intCast_eq_zero_iff.mp z)
  have d2 : ((q.den : Int) : Rat) ≠ 0 := fun z => den_ne q (Rat.intCast_eq_zero_iff.mp z)
  rw [Rat.divInt_eq_div, Rat.intCast_mul, Rat.intCast_mul]
  generalize (p.num : Rat) = a at *
  generalize (q.num : Rat) = b at *
  generalize ((p.den : Int) : Rat) = c at *
  generalize ((q.den : Int) : Rat) = d at *
  subst h1 h2
  grind
theorem div_div (p q : Rat) (hq : q.num ≠ 0) : Rat.divInt (p.num * q.den) ((p.den : Int) * q.num) = p / q := by
  have h1 := num_den p
  have h2 := num_den q
  have d1 : ((p.den : Int) : Rat) ≠ 0 := fun z => den_ne p (Rat.intCast_eq_zero_iff.mp z)
  have d2 : ((q.den : Int) : Rat) ≠ 0 := fun z => den_ne q (Rat.intCast_eq_zero_iff.mp z)
  have d3 : (q.num : Rat) ≠ 0 := fun z => hq (Rat.intCast_eq_zero_iff.mp z)
  rw [Rat.divInt_eq_div, Rat.intCast_mul, Rat.intCast_mul]
  generalize (p.num : Rat) = a at *
  generalize (q.num : Rat) = b at *
  generalize ((p.den : Int) : Rat) = c at *
  generalize ((q.den : Int) : Rat) = d at *
  subst h1 h2
  grind
end MM
namespace MM
theorem hb_tot {b : Nat} {x a : List Rat} (hx : hbR b x) (ha : hbR b a) (hb0 : 0 < b) : hb (b + b) (tot x a) := by
  unfold tot
  split
  · rename_i y c q
    obtain ⟨h1, h2⟩ := nf_mem q
    exact hb_div (hx _ h1) (ha _ h2)
  · exact hb_zero.mono (by omega)
theorem hbR.drop {b : Nat} {x : List Rat} (h : hbR b x) (k : Nat) : hbR b (x.drop k) := fun q hq => h q (List.mem_of_mem_drop hq)
theorem rev_drop {x : List Rat} {j : Nat} (h : j < x.length) : (x.drop j).reverse = (x.drop (j + 1)).reverse ++ [x.getD j 0] := by
  rw [drop_getD h, List.reverse_cons]
end MM
namespace MM
def lin (R : List (List Rat)) (r k : Nat) : List Rat := app (R.getD r []) ((core R).drop k)
theorem lin_first {R : List (List Rat)} {r : Nat} (h : r < R.length) : lin R r (r + 1) = (core R).getD r [] := by
  unfold lin
  rw [List.getD_eq_getElem?_getD, List.getElem?_eq_getElem h, List.getD_eq_getElem?_getD, List.getElem?_eq_getElem (by rw [core_length]; exact h)]
  exact (core_at h).symm
theorem lin_last {R : List (List Rat)} {r : Nat} : lin R r R.length = R.getD r [] := by
  unfold lin
  rw [List.drop_of_length_le (by rw [core_length]; exact Nat.le_refl _)]
  rfl
theorem lin_step {R : List (List Rat)} {r k : Nat} (h : k < R.length) : unm (lin R r (k + 1)) ((core R).getD k []) = lin R r k := by
  unfold lin
  rw [List.drop_eq_getElem_cons (l := core R) (i := k) (by rw [core_length]; exact h)]
  have e : (core R).getD k [] = (core R)[k]'(by rw [core_length]; exact h) := by
    rw [List.getD_eq_getElem?_getD, List.getElem?_eq_getElem]
    rfl
  rw [e]
  rfl
theorem lin_mem {R : List (List Rat)} {r k : Nat} (h : r < k) (hk : k ≤ R.length) : lin R r k ∈ lev R k := by
  unfold lin lev
  refine List.mem_map.mpr ⟨R.getD r [], ?_, rfl⟩
  rw [List.getD_eq_getElem?_getD, List.getElem?_eq_getElem (by omega)]
  exact List.mem_take_iff_getElem.mpr ⟨r, by omega, rfl⟩
theorem core_mem {R : List (List Rat)} {k : Nat} (h : k < R.length) : (core R).getD k [] ∈ lev R (k + 1) := by
  rw [List.getD_eq_getElem?_getD, List.getElem?_eq_getElem (by rw [core_length]; exact h)]
  show (core R)[k]'_ ∈ _
  rw [← lev_last h]
  exact List.getElem_mem _
theorem lin_length {n : Nat} {R : List (List Rat)} {r : Nat} (k : Nat) (w : Wide n R) (h : r < R.length) : (lin R r k).length = n := by
  unfold lin
  refine app_length ?_ fun z hz => core_wide w z (List.mem_of_mem_drop hz)
  rw [List.getD_eq_getElem?_getD, List.getElem?_eq_getElem h]
  exact w _ (List.getElem_mem h)
end MM
namespace MM
theorem hb_ctv {b t j : Nat} {x a : List Rat} (hx : hbR b x) (ha : hbR b a) (h : x.length = a.length) (hj : j < x.length) : hb (4 * b + 1) (ctv t x a j) := by
  unfold ctv
  refine hb_valO (hx.at hj) (ha.at (by omega)) fun p hp => ?_
  obtain ⟨h1, h2⟩ := nf_mem hp
  exact ⟨hx _ (List.mem_of_mem_drop h1), ha _ (List.mem_of_mem_drop h2)⟩
def setM (R : List (List Rat)) (i c : Nat) (q : Rat) : List (List Rat) := R.set i ((R.getD i []).set c q)
theorem setM_length {R : List (List Rat)} {i c : Nat} {q : Rat} : (setM R i c q).length = R.length := by simp [setM]
theorem row_ne {R : List (List Rat)} {i i' : Nat} (r : List Rat) (h : i ≠ i') : (R.set i r).getD i' [] = R.getD i' [] := by
  simp [List.getD_eq_getElem?_getD, List.getElem?_set, h]
theorem row_eq {R : List (List Rat)} {i : Nat} (r : List Rat) (h : i < R.length) : (R.set i r).getD i [] = r := by
  simp [List.getD_eq_getElem?_getD, List.getElem?_set, h]
theorem setM_wide {n : Nat} {R : List (List Rat)} {i c : Nat} {q : Rat} (w : Wide n R) : Wide n (setM R i c q) := fun z hz => by
  unfold setM at hz
  by_cases hi : i < R.length
  · rcases List.mem_or_eq_of_mem_set hz with h | h
    · exact w z h
    · rw [h, List.length_set, List.getD_eq_getElem?_getD, List.getElem?_eq_getElem hi]
      exact w _ (List.getElem_mem hi)
  · rw [List.set_eq_of_length_le (by omega)] at hz
    exact w z hz
theorem fn_setM {n : Nat} {R : List (List Rat)} {i c : Nat} {q : Rat} (w : Wide n R) (hi : i < R.length) (hc : c < n) (i' j' : Nat) : fn (setM R i c q) i' j' = if i' = i ∧ j' = c then q else fn R i' j' := by
  unfold fn setM
  by_cases h : i' = i
  · subst h
    rw [row_eq _ hi]
    have hl : (R.getD i' []).length = n := by
      rw [List.getD_eq_getElem?_getD, List.getElem?_eq_getElem hi]
      exact w _ (List.getElem_mem hi)
    by_cases hj : j' = c
    · subst hj
      rw [if_pos ⟨rfl, rfl⟩, List.getD_eq_getElem?_getD, List.getElem?_set, if_pos rfl, if_pos (by omega)]
      rfl
    · rw [if_neg (fun z => hj z.2), List.getD_eq_getElem?_getD, List.getElem?_set, if_neg (Ne.symm hj), ← List.getD_eq_getElem?_getD]
  · rw [if_neg (fun z => h z.1), row_ne _ (Ne.symm h)]
def clr (R : List (List Rat)) (k : Nat) : List (List Rat) := (R.take k).map (fun x => unm x (R.getD k [])) ++ R.drop k
theorem clr_lev {R : List (List Rat)} {k : Nat} (h : k < R.length) : clr (lev R (k + 1) ++ (core R).drop (k + 1)) k = lev R k ++ (core R).drop k := by
  have hl : (lev R (k + 1)).length = k + 1 := lev_length h
  have e0 : (lev R (k + 1) ++ (core R).drop (k + 1)).take k = (lev R (k + 1)).take k := by
    rw [List.take_append_of_le_length (by omega)]
  have e1 : (lev R (k + 1) ++ (core R).drop (k + 1)).getD k [] = (core R)[k]'(by rw [core_length]; exact h) := by
    rw [List.getD_eq_getElem?_getD, List.getElem?_append_left (by omega), List.getElem?_eq_getElem (by omega), lev_last h]
    rfl
  have e2 : (lev R (k + 1) ++ (core R).drop (k + 1)).drop k = (core R).drop k := by
    rw [lev_succ h, List.append_assoc, List.drop_append_of_le_length (by rw [List.length_take]; omega)]
    rw [List.drop_of_length_le (by rw [List.length_take]; omega), List.nil_append, List.drop_eq_getElem_cons (l := core R) (i := k) (by rw [core_length]; exact h)]
    rfl
  unfold clr
  rw [e0, e1, e2, lev_round h]
theorem lev_one {R : List (List Rat)} (h : 0 < R.length) : lev R 1 ++ (core R).drop 1 = core R := by
  have h1 := lev_succ h
  rw [List.take_zero, List.nil_append] at h1
  rw [h1, List.cons_append, List.nil_append]
  conv => rhs; rw [← List.drop_zero (l := core R), List.drop_eq_getElem_cons (by rw [core_length]; exact h)]
theorem clr_length {R : List (List Rat)} {k : Nat} (h : k ≤ R.length) : (clr R k).length = R.length := by
  unfold clr
  rw [List.length_append, List.length_map, List.length_take, List.length_drop]
  omega
theorem fn_clr {n : Nat} {R : List (List Rat)} {k i j : Nat} (w : Wide n R) (h : k < R.length) (hj : j < n) : fn (clr R k) i j = if i < k then (unm (R.getD i []) (R.getD k [])).getD j 0 else fn R i j := by
  unfold fn clr
  by_cases hi : i < k
  · rw [if_pos hi]
    congr 1
    have e1 : ((R.take k).map (fun x => unm x (R.getD k [])) ++ R.drop k)[i]? = some (unm (R.getD i []) (R.getD k [])) := by
      rw [List.getElem?_append_left (by rw [List.length_map, List.length_take]; omega), List.getElem?_map, List.getElem?_take, if_pos hi, List.getElem?_eq_getElem (by omega), List.getD_eq_getElem?_getD (i := i), List.getElem?_eq_getElem (by omega)]
      rfl
    rw [List.getD_eq_getElem?_getD, e1]
    rfl
  · rw [if_neg hi]
    congr 1
    rw [List.getD_eq_getElem?_getD, List.getD_eq_getElem?_getD, List.getElem?_append_right (by rw [List.length_map, List.length_take]; omega), List.getElem?_drop, List.length_map, List.length_take]
    congr 2
    omega
theorem clr_wide {n : Nat} {R : List (List Rat)} {k : Nat} (w : Wide n R) (h : k < R.length) : Wide n (clr R k) := fun z hz => by
  have wk : (R.getD k []).length = n := by
    rw [List.getD_eq_getElem?_getD, List.getElem?_eq_getElem h]
    exact w _ (List.getElem_mem h)
  unfold clr at hz
  rcases List.mem_append.mp hz with h1 | h1
  · obtain ⟨x, hx, rfl⟩ := List.mem_map.mp h1
    have wx := w x (List.mem_of_mem_take hx)
    rw [unm_length _ _ (by omega), wx]
  · exact w z (List.mem_of_mem_drop h1)
end MM
namespace MM
def euS (p : Nat × Nat) : Nat × Nat := if 0 < p.2 then (p.2, p.1 % p.2) else p
def eu : Nat → Nat × Nat → Nat × Nat
  | 0, p => p
  | k + 1, p => euS (eu k p)
theorem eu_add : ∀ (j k : Nat) (p : Nat × Nat), eu (j + k) p = eu j (eu k p)
  | 0, k, p => by rw [Nat.zero_add]; rfl
  | j + 1, k, p => by
    rw [show j + 1 + k = (j + k) + 1 by omega]
    show euS (eu (j + k) p) = euS (eu j (eu k p))
    rw [eu_add j k p]
theorem eu_zero : ∀ (k a : Nat), eu k (a, 0) = (a, 0)
  | 0, _ => rfl
  | k + 1, a => by
    show euS (eu k (a, 0)) = _
    rw [eu_zero k a]
    rfl
theorem eu_one (p : Nat × Nat) : eu 1 p = euS p := rfl
theorem euS_gcd (p : Nat × Nat) : Nat.gcd (euS p).1 (euS p).2 = Nat.gcd p.1 p.2 := by
  unfold euS
  by_cases h : 0 < p.2
  · rw [if_pos h]
    show Nat.gcd p.2 (p.1 % p.2) = _
    rw [Nat.gcd_comm, ← Nat.gcd_rec, Nat.gcd_comm]
  · rw [if_neg h]
theorem eu_gcd : ∀ (k : Nat) (p : Nat × Nat), Nat.gcd (eu k p).1 (eu k p).2 = Nat.gcd p.1 p.2
  | 0, _ => rfl
  | k + 1, p => by
    show Nat.gcd (euS (eu k p)).1 (euS (eu k p)).2 = _
    rw [euS_gcd, eu_gcd k p]
theorem eu_end : ∀ (n a b : Nat), b < 2 ^ n → (eu (2 * n + 1) (a, b)).2 = 0
  | 0, a, b, h => by
    have hb : b = 0 := by simpa using h
    subst hb
    rw [eu_zero]
  | n + 1, a, b, h => by
    by_cases hb : b = 0
    · subst hb
      rw [eu_zero]
    · rw [show 2 * (n + 1) + 1 = (2 * n + 1) + 2 by omega, eu_add]
      have e1 : eu 1 (a, b) = (b, a % b) := by
        show euS (a, b) = _
        unfold euS
        rw [if_pos (show 0 < (a, b).2 by show 0 < b; omega)]
      have e2 : eu 2 (a, b) = euS (b, a % b) := by
        rw [show 2 = 1 + 1 by rfl, eu_add, e1]
        rfl
      rw [e2]
      by_cases hr : a % b = 0
      · rw [hr]
        show (eu (2 * n + 1) (euS (b, 0))).2 = 0
        have : euS (b, 0) = (b, 0) := rfl
        rw [this, eu_zero]
      · have e3 : euS (b, a % b) = (a % b, b % (a % b)) := by
          unfold euS
          rw [if_pos (show 0 < (b, a % b).2 by show 0 < a % b; omega)]
        rw [e3]
        refine eu_end n _ _ ?_
        have h1 : a % b < b := Nat.mod_lt _ (by omega)
        have h2 : b % (a % b) < a % b := Nat.mod_lt _ (by omega)
        have h3 := Nat.mod_add_div b (a % b)
        have h4 : 0 < b / (a % b) := Nat.div_pos (Nat.le_of_lt h1) (by omega)
        have h5 : a % b * 1 ≤ a % b * (b / (a % b)) := Nat.mul_le_mul_left _ h4
        rw [Nat.pow_succ] at h
        omega
theorem eu_done {n k a b : Nat} (h : b < 2 ^ n) (hk : 2 * n + 1 ≤ k) : eu k (a, b) = (Nat.gcd a b, 0) := by
  have h1 : (eu k (a, b)).2 = 0 := by
    rw [show k = (k - (2 * n + 1)) + (2 * n + 1) by omega, eu_add]
    have e := eu_end n a b h
    have e2 : eu (2 * n + 1) (a, b) = ((eu (2 * n + 1) (a, b)).1, 0) := by rw [← e]
    rw [e2, eu_zero]
  have h2 := eu_gcd k (a, b)
  rw [h1, Nat.gcd_zero_right] at h2
  rw [← show (eu k (a, b)).1 = Nat.gcd a b from h2, ← h1]
theorem divInt_negs (t u : Int) : Rat.divInt (-t) (-u) = Rat.divInt t u := by
  exact Rat.neg_divInt_neg t u
end MM
namespace MM
theorem core_hb {B : Nat} {R : List (List Rat)} (h : hbT B R) (ho : okU B R) : hbT (4 * B + 1) (core R) := fun z hz => by
  obtain ⟨k, hk, e⟩ := List.getElem_of_mem hz
  have hk' : k < R.length := by rwa [core_length] at hk
  have hl := lev_last hk'
  rw [e] at hl
  by_cases h0 : k = 0
  · subst h0
    by_cases h1 : R.length = 1
    · have e2 : lev R 1 = R := by
        have := lev_all R
        rwa [h1] at this
      have : z ∈ R := by
        have hm : z ∈ lev R 1 := by
          rw [← hl]
          exact List.getElem_mem _
        rwa [e2] at hm
      exact (h z this).mono (by omega)
    · have h2 : 1 < R.length := by omega
      have hr := lev_round h2
      have hb2 := ho 2 (Nat.le_refl _) h2
      have hm : z ∈ lev R 1 := by
        rw [← hl]
        exact List.getElem_mem _
      rw [← hr] at hm
      obtain ⟨x, hx, rfl⟩ := List.mem_map.mp hm
      refine hb_unm (hb2 x (List.mem_of_mem_take hx)) (hb2 _ ?_)
      have := lev_last h2
      rw [← this]
      exact List.getElem_mem _
  · have hm : z ∈ lev R (k + 1) := by
      rw [← hl]
      exact List.getElem_mem _
    exact (ho (k + 1) (by omega) hk' z hm).mono (by omega)
def prt (X : List (List Rat)) (k r : Nat) : List (List Rat) := (X.take r).map (fun x => unm x (X.getD k [])) ++ X.drop r
theorem prt_zero (X : List (List Rat)) (k : Nat) : prt X k 0 = X := by simp [prt]
theorem prt_end (X : List (List Rat)) (k : Nat) : prt X k k = clr X k := rfl
theorem prt_length {X : List (List Rat)} {k r : Nat} (h : r ≤ X.length) : (prt X k r).length = X.length := by
  unfold prt
  rw [List.length_append, List.length_map, List.length_take, List.length_drop]
  omega
theorem prt_at {X : List (List Rat)} {k r j : Nat} (h : r ≤ j) (hr : r ≤ X.length) : (prt X k r).getD j [] = X.getD j [] := by
  unfold prt
  rw [List.getD_eq_getElem?_getD, List.getD_eq_getElem?_getD, List.getElem?_append_right (by rw [List.length_map, List.length_take]; omega), List.getElem?_drop, List.length_map, List.length_take]
  congr 2
  omega
theorem prt_step {X : List (List Rat)} {k r : Nat} (h : r < X.length) : (prt X k r).set r (unm (X.getD r []) (X.getD k [])) = prt X k (r + 1) := by
  have e1 : X.drop r = X.getD r [] :: X.drop (r + 1) := by
    rw [List.drop_eq_getElem_cons h, List.getD_eq_getElem?_getD, List.getElem?_eq_getElem h]
    rfl
  have e2 : X.take (r + 1) = X.take r ++ [X.getD r []] := by
    rw [List.take_add_one, List.getD_eq_getElem?_getD, List.getElem?_eq_getElem h]
    rfl
  unfold prt
  rw [e1, e2, List.map_append, List.set_append_right _ _ (by rw [List.length_map, List.length_take]; omega), List.length_map, List.length_take, Nat.min_eq_left (by omega), Nat.sub_self]
  simp
end MM
namespace MM
theorem lev_any {B : Nat} {R : List (List Rat)} (h : hbT B R) (ho : okU B R) {k : Nat} (h0 : 0 < k) (hk : k ≤ R.length) : hbT (4 * B + 1) (lev R k) := by
  by_cases h2 : 2 ≤ k
  · exact (ho k h2 hk).mono (by omega)
  · have e : k = 1 := by omega
    subst e
    intro z hz
    have hR : 0 < R.length := hk
    have h1 := lev_succ hR
    rw [List.take_zero, List.nil_append] at h1
    rw [h1] at hz
    have hz' : z = (core R)[0]'(by rw [core_length]; exact hR) := by simpa using hz
    exact core_hb h ho z (hz' ▸ List.getElem_mem _)
theorem hbT_tr {b n : Nat} {R : List (List Rat)} (h : hbT b R) (w : Wide n R) : hbT b (tr n R) := fun z hz => by
  obtain ⟨j, hj, rfl⟩ := List.mem_map.mp hz
  have hjn : j < n := List.mem_range.mp hj
  intro q hq
  obtain ⟨r, hr, rfl⟩ := List.mem_map.mp hq
  exact (h r hr).at (by rw [w r hr]; exact hjn)
theorem hbR_scl {a b : Nat} {c : Rat} {r : List Rat} (hc : hb a c) (h : hbR b r) : hbR (a + b) (scl c r) := fun q hq => by
  obtain ⟨x, hx, rfl⟩ := List.mem_map.mp hq
  exact hb_mul hc (h x hx)
theorem hbT_scR {a b i : Nat} {c : Rat} {R : List (List Rat)} (hc : hb a c) (h : hbT b R) : hbT (a + b) (scR i c R) := fun z hz => by
  unfold scR at hz
  rcases List.mem_or_eq_of_mem_set hz with h1 | h1
  · exact (h z h1).mono (by omega)
  · rw [h1]
    refine hbR_scl hc ?_
    rw [List.getD_eq_getElem?_getD]
    cases e : R[i]? with
    | none => exact fun q hq => by cases hq
    | some x => exact h x (List.mem_of_getElem? e)
theorem scR_length {i : Nat} {c : Rat} {R : List (List Rat)} : (scR i c R).length = R.length := by simp [scR]
theorem scR_wide {n i : Nat} {c : Rat} {R : List (List Rat)} (w : Wide n R) : Wide n (scR i c R) := fun z hz => by
  unfold scR at hz
  by_cases hi : i < R.length
  · rcases List.mem_or_eq_of_mem_set hz with h1 | h1
    · exact w z h1
    · rw [h1, scl, List.length_map, List.getD_eq_getElem?_getD, List.getElem?_eq_getElem hi]
      exact w _ (List.getElem_mem hi)
  · rw [List.set_eq_of_length_le (by omega)] at hz
    exact w z hz
theorem mem_ins {α : Type} {k : Nat} {z x : α} {l : List α} (h : x ∈ ins k z l) : x = z ∨ x ∈ l := by
  unfold ins at h
  rcases List.mem_append.mp h with h | h
  · rcases List.mem_append.mp h with h | h
    · exact .inr (List.mem_of_mem_take h)
    · exact .inl (by simpa using h)
  · exact .inr (List.mem_of_mem_drop h)
theorem hbR_zer {b : Nat} (n : Nat) (hb0 : 0 < b) : hbR b (zer n) := fun q hq => by
  rw [List.eq_of_mem_replicate hq]
  exact hb_zero.mono hb0
theorem hbT_ins {b k n : Nat} {R : List (List Rat)} (h : hbT b R) (hb0 : 0 < b) : hbT b (ins k (zer n) R) := fun z hz => by
  rcases mem_ins hz with h1 | h1
  · rw [h1]
    exact hbR_zer n hb0
  · exact h z h1
theorem wide_ins {k n : Nat} {R : List (List Rat)} (w : Wide n R) : Wide n (ins k (zer n) R) := fun z hz => by
  rcases mem_ins hz with h1 | h1
  · rw [h1]
    simp [zer]
  · exact w z h1
theorem hbT_insc {b k : Nat} {R : List (List Rat)} (h : hbT b R) (hb0 : 0 < b) : hbT b (R.map (ins k 0)) := fun z hz => by
  obtain ⟨r, hr, rfl⟩ := List.mem_map.mp hz
  intro q hq
  rcases mem_ins hq with h1 | h1
  · rw [h1]
    exact hb_zero.mono hb0
  · exact h r hr q h1
theorem wide_insc {k n : Nat} {R : List (List Rat)} (w : Wide n R) : Wide (n + 1) (R.map (ins k 0)) := fun z hz => by
  obtain ⟨r, hr, rfl⟩ := List.mem_map.mp hz
  rw [ins_length, w r hr]
theorem okS {R : List (List Rat)} (h : hbT 30062 R) (h6 : R.length ≤ 6) (hx : R.length = 6 → hbT 30000 R) : okU 10000000 R := by
  by_cases h5 : R.length = 6
  · refine okU_of (hx h5) ?_
    rw [h5]
    decide
  · refine okU_of h ?_
    have : 4 ^ (R.length - 2) ≤ 4 ^ 3 := Nat.pow_le_pow_right (by decide) (by omega)
    calc 4 ^ (R.length - 2) * (30062 + 1) ≤ 4 ^ 3 * (30062 + 1) := Nat.mul_le_mul_right _ this
      _ ≤ 10000000 + 1 := by decide
end MM
namespace MM
theorem hb_divInt {t u : Int} {b : Nat} (hu : u ≠ 0) (h1 : t.natAbs < 2 ^ b) (h2 : u.natAbs < 2 ^ b) : hb b (Rat.divInt t u) := by
  constructor
  · rw [Rat.num_divInt, Int.natAbs_ediv_of_dvd, Int.natAbs_mul]
    · refine Nat.lt_of_le_of_lt (Nat.div_le_self _ _) ?_
      have : u.sign.natAbs ≤ 1 := by
        rw [Int.natAbs_sign]
        split <;> omega
      calc u.sign.natAbs * t.natAbs ≤ 1 * t.natAbs := Nat.mul_le_mul_right _ this
        _ = t.natAbs := Nat.one_mul _
        _ < 2 ^ b := h1
    · exact Int.dvd_mul_of_dvd_right (Int.gcd_dvd_right ..)
  · rw [Rat.den_divInt, if_neg hu]
    exact Nat.lt_of_le_of_lt (Nat.div_le_self _ _) h2
end MM
namespace MM
theorem ok12 {b : Nat} {R : List (List Rat)} (h : hbT b R) (hb : b ≤ 7) (h12 : R.length ≤ 12) : okU 10000000 R := by
  refine okU_of (h.mono hb) ?_
  have : 4 ^ (R.length - 2) ≤ 4 ^ 10 := Nat.pow_le_pow_right (by decide) (by omega)
  calc 4 ^ (R.length - 2) * (7 + 1) ≤ 4 ^ 10 * (7 + 1) := Nat.mul_le_mul_right _ this
    _ ≤ 10000000 + 1 := by decide
theorem hb_int {b : Nat} {z : Int} (h : z.natAbs < 2 ^ b) (hb0 : 0 < b) : hb b (z : Rat) := by
  constructor
  · rw [Rat.num_intCast]
    exact h
  · rw [Rat.den_intCast]
    exact Nat.one_lt_two_pow (by omega)
theorem hbT_setM {b i c : Nat} {q : Rat} {R : List (List Rat)} (h : hbT b R) (hq : hb b q) : hbT b (setM R i c q) := fun z hz => by
  unfold setM at hz
  rcases List.mem_or_eq_of_mem_set hz with h1 | h1
  · exact h z h1
  · rw [h1]
    intro x hx
    rcases List.mem_or_eq_of_mem_set hx with h2 | h2
    · rw [List.getD_eq_getElem?_getD] at h2
      cases e : R[i]? with
      | none =>
        rw [e] at h2
        cases h2
      | some r =>
        rw [e] at h2
        exact h r (List.mem_of_getElem? e) x h2
    · rw [h2]
      exact hq
end MM
namespace MU
open PySem PySem.Spec PyProof.Rows L2
def CMulL (i j : Int) : Prop := ∃ a b : Nat, i.natAbs < 2 ^ a ∧ j.natAbs < 2 ^ b ∧ a + b ≤ 134217728
theorem bits_le {i : Int} {a : Nat} (h : i.natAbs < 2 ^ a) : Builtin.Int.intBits i ≤ a := PyProof.Rows.intBits_le h
theorem CMulL.ok {i j : Int} (h : CMulL i j) : IntMulOk i j := by
  obtain ⟨a, b, h1, h2, h3⟩ := h
  have q1 := bits_le h1
  have q2 := bits_le h2
  have e : bitsLine = 134217728 := by decide
  unfold IntMulOk
  intro z
  rw [Bool.and_eq_true] at z
  have z2 := z.2
  unfold Builtin.Int.intTooBig at z2
  have z3 := of_decide_eq_true z2
  rw [e] at z3
  omega
section
variable {X : Cx}
theorem op_mulL : OpR X (binaryOp .Mult) (rI CMulL fun i j => .int (i * j)) := opI fun _ _ _ _ _ _ _ hc q => mul_int q hc.ok
structure Seer (X : Cx) : Prop where
  base : X.base.NoSeer
  tree : X.prog.given.tree = none
  stack : ∃ l, X.stack = X.env :: l
  gen : X.env.scope.isGenerator = false
  co : X.env.scope.isCoroutine = false
  dp : X.A.depth + Builtin.pylongFrames < recursionLimit
theorem op_fdivP (S : Seer X) : OpR X (binaryOp .FloorDiv) (rI (fun _ j => j ≠ 0) fun i j => .int (i.fdiv j)) := by
  intro pins s σ H x y v u Q I rx ry h
  obtain ⟨i, j, rfl, rfl, hc, q⟩ := h
  obtain ⟨t, rfl⟩ := rx
  obtain ⟨t', rfl⟩ := ry
  obtain ⟨l, hl⟩ := S.stack
  have hN : s.heap.NoSeer := S.base.keeps I.bk
  refine floordiv_int hc ⟨.int (i.fdiv j), H, I.tok _, ⟨_, rfl⟩, q⟩ (.inr (PylongRoom.of I.nolimit S.dp (SeerAt.of hN S.tree (by rw [I.ok.frames, hl]) S.gen S.co I.ok.blt I.ok.glob)))
end
end MU
namespace MU
open PySem PySem.Spec PyProof.Rows L2 He MM
def top (i : Nat) : Stmt := PySem.Challenge.pw_minusless_k16_whole_unmaking.main.body.getD i (.Pass ⟨0, 0, 0, 0⟩)
def defsL : List (Str × Nat) := [("is_plain_integer", 14), ("is_number", 15), ("check_number", 16), ("check_row", 17), ("lowest", 18), ("plus", 19), ("less", 20), ("times", 21), ("over", 22),
  ("is_place", 31), ("checked_rows", 32), ("row_at", 33), ("column_at", 34), ("fitting_row", 35), ("full_after", 38), ("pair_of_rows", 39), ("unmade_row", 40), ("rows_above", 41), ("unmade", 42), ("level", 43), ("core_row", 44), ("last_round", 45),
  ("made_row", 47), ("made", 48), ("put_under", 49), ("entry_of", 51), ("clear_above", 53), ("cleared", 54)]
def defsK : List (Str × Nat) := [("_law_draws", 56), ("_law_take", 57), ("_law_pair", 58), ("_law_plus", 59), ("_law_less", 60), ("_law_times", 61), ("_law_over", 62), ("_law_is_number", 63), ("_law_is_rows", 64), ("_law_fixed", 65), ("_law_copy", 66), ("_law_turned", 67), ("_law_next", 68),
  ("_law_unmade_row", 69), ("_law_made_row", 70), ("_law_unmade", 71), ("_law_level", 72), ("_law_made", 73), ("_law_any", 74), ("_law_size", 75), ("_law_signed", 76), ("_law_same", 77), ("_law_upward", 78), ("_law_downward", 79), ("_law_entries", 80),
  ("_law_times_row", 81), ("_law_scaled", 82), ("_law_noughts_in", 83), ("_law_broad", 84), ("law", 85)]
def methL : List (Str × Nat) := [("__init__", 0), ("entry", 5), ("turned", 7), ("corner", 10), ("with_row", 13), ("with_column", 14), ("times_row", 17), ("__invert__", 21), ("__eq__", 22)]
abbrev cls (j : Nat) : Stmt := inClass (top 36) j
abbrev Fnd (K : PySem.W.Frag) (x q : Str) (st : Stmt) (f : Addr) (fd : FuncData) : Prop := FunD K x q (defArgs st) (defBody st) (defScope st) [] [] f fd
structure Txt (P : Program) (K : PySem.W.Frag) (mg : Str → Option Value) (base : Heap) : Prop where
  seer : base.NoSeer
  tree : P.given.tree = none
  def_ : ∀ d ∈ defsL ++ defsK, (∃ fd, Fnd K d.1 d.1 (top d.2) (ga K d.1) fd) ∧ mg d.1 = some (.ref (ga K d.1))
  meth : ∀ d ∈ methL, (∃ fd, Fnd K d.1 ("Table." ++ d.1) (cls d.2) (ma K (ga K "Table") d.1) fd) ∧ Meth K (ga K "Table") d.1 (ma K (ga K "Table") d.1)
  tab : mg "Table" = some (.ref (ga K "Table"))
  cl : Cls K (ga K "Table")
  maker : Mk K (ga K "Table") (ma K (ga K "Table") "__init__")
  nR : NoAttr K (ga K "Table") "rows"
  nH : NoAttr K (ga K "Table") "high"
  nW : NoAttr K (ga K "Table") "wide"
  ic : PySem.W.findIn K (.ref (ga K "Table")) "__class__" = some (some (.builtin "object.__class__"))
  ig : PySem.W.specialIn K (.builtin "object.__class__") "__get__" = some (some (.builtin "getset_descriptor.__get__"))
  it : PySem.W.takesIn K (.builtin "object.__class__") = some true
  im : PySem.W.mroIn K (ga K "Table") (.type "object") = some true
  gcd : mg "gcd" = some (.builtin "math.gcd")
  most : ∃ t, mg "MOST" = some (.int 12 t)
  len : mg "len" = none
  isi : mg "isinstance" = none
  int : mg "int" = none
  bool : mg "bool" = none
  list : mg "list" = none
  tuple : mg "tuple" = none
  range : mg "range" = none
  enum : mg "enumerate" = none
  zip : mg "zip" = none
  abs : mg "abs" = none
  min : mg "min" = none
abbrev cTab (K : PySem.W.Frag) : Addr := ga K "Table"
structure Fd (P : Program) (w : World) (K : PySem.W.Frag) (mg : Str → Option Value) (base : Heap) (k : Nat) (x : Str) (ps : List Str) (sp : Sp) : Prop where
  ex : ∃ fd, FnOk P w K mg base CX0 k (ga K x) fd ps sp ∧ Binds K fd ps [] ∧ PySem.W.keepIn K (.ref (ga K x)) = true ∧ mg x = some (.ref (ga K x))
structure Fm (P : Program) (w : World) (K : PySem.W.Frag) (mg : Str → Option Value) (base : Heap) (k : Nat) (m : Str) (ps : List Str) (sp : Sp) : Prop where
  ex : ∃ fd, FnOk P w K mg base CX0 k (ma K (cTab K) m) fd ps sp ∧ Binds K fd ps [] ∧ Meth K (cTab K) m (ma K (cTab K) m)
section
variable {P : Program} {w : World} {K : PySem.W.Frag} {mg : Str → Option Value} {base : Heap}
theorem mkFd {N ps : List Str} {k : Nat} {sp : Sp} (T : Txt P K mg base) (x : Str) (i : Nat) (hm : (x, i) ∈ defsL ++ defsK) (S : FnScope N ps (defScope (top i))) (len : ∀ vs H Q E, sp vs H Q E → vs.length = ps.length)
    (hbd : ∀ (kV doc pm : Value) (an : Option Addr) (cdv ct : Value) (us : List Value), us.length = ps.length → bindArgs (PySem.W.fnOf x x (defArgs (top i)) (defBody (top i)) (defScope (top i)) .none kV doc pm an cdv ct) ⟨us, []⟩ = pure (ps.zip us))
    (hbody : ∀ (cdv : Value) (A : Around) (outer : List Env) (s : Shared) (H : Hp) (vs : List V) (Q : VK) (E : XK), Room k (A.deeper (envOfC x (defScope (top i)) s.heap.objs.size (ga K x) cdv)) → sp vs H Q E →
      ∃ t, PSs (cxOf CX0 P w K mg base N x (defScope (top i)) (ga K x) cdv A outer s H E).nox (defBody (top i)) t ∧ t { nx := fun _ H' => Q .non H', rt := Q } (start N vs) H) : Fd P w K mg base (k + 1) x ps sp := by
  obtain ⟨⟨fd, F⟩, hg⟩ := T.def_ (x, i) hm
  refine ⟨fd, F.ok S len fun cdv A outer s H vs Q E hr h => ?_, F.bindsN hbd, F.kp, hg⟩
  obtain ⟨t, a, b⟩ := hbody cdv A outer s H vs Q E hr h
  exact ⟨t, a.nox, b⟩
theorem mkFm {N ps : List Str} {k : Nat} {sp : Sp} (T : Txt P K mg base) (x : Str) (i : Nat) (hm : (x, i) ∈ methL) (S : FnScope N ps (defScope (cls i))) (len : ∀ vs H Q E, sp vs H Q E → vs.length = ps.length)
    (hbd : ∀ (kV doc pm : Value) (an : Option Addr) (cdv ct : Value) (us : List Value), us.length = ps.length → bindArgs (PySem.W.fnOf x ("Table." ++ x) (defArgs (cls i)) (defBody (cls i)) (defScope (cls i)) .none kV doc pm an cdv ct) ⟨us, []⟩ = pure (ps.zip us))
    (hbody : ∀ (cdv : Value) (A : Around) (outer : List Env) (s : Shared) (H : Hp) (vs : List V) (Q : VK) (E : XK), Room k (A.deeper (envOfC ("Table." ++ x) (defScope (cls i)) s.heap.objs.size (ma K (cTab K) x) cdv)) → sp vs H Q E →
      ∃ t, PSs (cxOf CX0 P w K mg base N ("Table." ++ x) (defScope (cls i)) (ma K (cTab K) x) cdv A outer s H E).nox (defBody (cls i)) t ∧ t { nx := fun _ H' => Q .non H', rt := Q } (start N vs) H) : Fm P w K mg base (k + 1) x ps sp := by
  obtain ⟨⟨fd, F⟩, hM⟩ := T.meth (x, i) hm
  refine ⟨fd, F.ok S len fun cdv A outer s H vs Q E hr h => ?_, F.bindsN hbd, hM⟩
  obtain ⟨t, a, b⟩ := hbody cdv A outer s H vs Q E hr h
  exact ⟨t, a.nox, b⟩
end
section
variable {X : Cx}
theorem pe_cf {k : Nat} {x : Str} {ps : List Str} {sp : Sp} {e : Expr} {es : List Expr} {t : TA} {p pos : Pos} (F : Fd X.prog X.w X.K X.mg X.base k x ps sp) (hr : Room k X.A) (hg : Gl X x) (ha : PA X (e :: es) t)
    (hdb : (x == ("__debug__" : Str)) = false := by decide) (he : starEach (e :: es) X.env = (false, eval e X.env) :: starEach es X.env := by rfl) (hpl : (backTo pos (starEach es X.env)).any (·.1) = false := by rfl) :
    PE X (.Call (.Name x p) (e :: es) [] pos) (tCall sp [] E0 t) := by
  obtain ⟨fd, G, b, kp, hm⟩ := F.ex
  exact pe_call G hr hg hm kp b .nil pass0 ha hdb he hpl
theorem pe_cm {k : Nat} {m : Str} {ps : List Str} {sp : Sp} {o e : Expr} {es : List Expr} {ta : TE} {t : TA} {apos pos : Pos} {pl : Sem Bool} (F : Fm X.prog X.w X.K X.mg X.base k m ps sp) (T : Txt X.prog X.K X.mg X.base) (hr : Room k X.A) (ho : PE X o ta) (ha : PA X (e :: es) t)
    (hst : starEach (e :: es) X.env = (false, eval e X.env) :: starEach es X.env := by rfl) (hpl : (backTo pos (starEach es X.env)).any (·.1) = false := by rfl)
    (ht : eval (.Call (.Attribute o m apos) (e :: es) [] pos) X.env = (do
      let ov ← eval o X.env
      standAt apos.atName
      let (f, first) ← holding [ov] (getMethod ov m pl)
      callWith pos f first (backTo pos (starEach (e :: es) X.env)) (backToKw pos (keywordEach [] X.env))) := by rfl) :
    PE X (.Call (.Attribute o m apos) (e :: es) [] pos) (tMeth (cTab X.K) m sp [] E0 ta t) := by
  obtain ⟨fd, G, b, hM⟩ := F.ex
  exact pe_meth ho T.cl hM G hr b .nil pass0 ha hst hpl ht
theorem pe_cm0 {k : Nat} {m : Str} {ps : List Str} {sp : Sp} {o : Expr} {ta : TE} {apos pos : Pos} {pl : Sem Bool} (F : Fm X.prog X.w X.K X.mg X.base k m ps sp) (T : Txt X.prog X.K X.mg X.base) (hr : Room k X.A) (ho : PE X o ta)
    (ht : eval (.Call (.Attribute o m apos) [] [] pos) X.env = (do
      let ov ← eval o X.env
      standAt apos.atName
      let (f, first) ← holding [ov] (getMethod ov m pl)
      callWith pos f first (backTo pos (starEach [] X.env)) (backToKw pos (keywordEach [] X.env))) := by rfl) :
    PE X (.Call (.Attribute o m apos) [] [] pos) (tMeth (cTab X.K) m sp [] E0 ta tNil) := by
  obtain ⟨fd, G, b, hM⟩ := F.ex
  exact pe_meth0 ho T.cl hM G hr b .nil pass0 ht
theorem pe_ct {k : Nat} {ps : List Str} {sp : Sp} {e : Expr} {es : List Expr} {t : TA} {p pos : Pos} (F : Fm X.prog X.w X.K X.mg X.base k "__init__" ps sp) (T : Txt X.prog X.K X.mg X.base) (hr : Room (k + 1) X.A) (hg : Gl X "Table") (ha : PA X (e :: es) t)
    (he : starEach (e :: es) X.env = (false, eval e X.env) :: starEach es X.env := by rfl) (hpl : (backTo pos (starEach es X.env)).any (·.1) = false := by rfl) :
    PE X (.Call (.Name "Table" p) (e :: es) [] pos) (tMake (cTab X.K) sp [] E0 t) := by
  obtain ⟨fd, G, b, hM⟩ := F.ex
  exact pe_make T.maker G hr hg T.tab b .nil pass0 ha (by decide) he hpl
def SqS (K : PySem.W.Frag) (H : Hp) (a : Addr) (xs : List V) : Prop := SqL K H a xs ∨ SqT K H a xs
def iSeq (K : PySem.W.Frag) (tl : TE) : TI := fun σ H R => tl σ H fun x H1 => ∃ a, x = .ref a ∧ (((∃ xs, SqL K H1 a xs) ∧ R (Itl K a) H1) ∨ ((∃ xs, SqT K H1 a xs) ∧ R (Itt K a) H1))
theorem pi_seq {tg l : Expr} {tl : TE} (hl : PE X l tl) : PI X tg l (iSeq X.K tl) := by
  refine ⟨fun pins s σ H R I h => ?_⟩
  refine thn (hl.run pins s σ H _ I h) fun v s1 ⟨x, H1, I1, r1, q1⟩ => ?_
  obtain ⟨a, e, q⟩ := q1
  subst e
  cases r1
  rcases q with ⟨⟨xs, hq⟩, q⟩ | ⟨⟨xs, hq⟩, q⟩
  · obtain ⟨its, rv, p, hz⟩ := I1.list hq
    refine wpAny_pyIter_list p.isList ?_
    refine ⟨s1.heap.objs.size, [s1.heap.objs.size], _, _, H1, rfl, I1.kept (t' := s1.toks) fun b o e => Heap.get?_push_of_some _ e, turn_list a _, ⟨_, Heap.get?_push_size _ rfl, rfl, rfl⟩, fun b hb => ?_, q⟩
    have e : b = s1.heap.objs.size := by simpa using hb
    subst e
    exact I1.fpOk (Nat.le_refl _) (I1.hok.fresh (Nat.le_refl _))
  · obtain ⟨its, rv, p, hz⟩ := I1.tuple hq
    refine wpAny_pyIter_tuple (show s1.heap.IsTuple a its.toArray from p) ?_
    refine ⟨s1.heap.objs.size, [s1.heap.objs.size], _, _, H1, rfl, I1.kept (t' := s1.toks) fun b o e => Heap.get?_push_of_some _ e, turn_tuple a _, ⟨_, Heap.get?_push_size _ rfl, rfl, rfl⟩, fun b hb => ?_, q⟩
    have e : b = s1.heap.objs.size := by simpa using hb
    subst e
    exact I1.fpOk (Nat.le_refl _) (I1.hok.fresh (Nat.le_refl _))
theorem pi_seqK (K : PySem.W.Frag) (hK : X.K = K) {tg l : Expr} {tl : TE} (hl : PE X l tl) : PI X tg l (iSeq K tl) := by
  subst hK
  exact pi_seq hl
def rListOf (K : PySem.W.Frag) : List V → Hp → VK → Prop := fun xs H Q => ∃ p ys, xs = [.ref p] ∧ (SqL K H p ys ∨ SqT K H p ys) ∧ ∀ l, H l = none → Q (.ref l) (upd H l (.lst ys))
def rTupOf (K : PySem.W.Frag) : List V → Hp → VK → Prop := fun xs H Q => ∃ p ys, xs = [.ref p] ∧ ((SqL K H p ys ∧ ∀ l, H l = none → Q (.ref l) (upd H l (.tup ys))) ∨ (SqT K H p ys ∧ Q (.ref p) H))
def rSlS (K : PySem.W.Frag) : V → Option Int → Option Int → Hp → VK → Prop := fun x lo hi H Q => rSlL K x lo hi H Q ∨ rSlA K x lo hi H Q
theorem sl_seq : SlR X (rSlS X.K) := by
  intro pins s σ H x v vl vu lo hi sl Q I rx hs pl pu h
  rcases h with h | h
  · exact sl_list pins s σ H x v vl vu lo hi sl Q I rx hs pl pu h
  · exact sl_tupA pins s σ H x v vl vu lo hi sl Q I rx hs pl pu h
theorem seer_of {P : Program} {w : World} {K : PySem.W.Frag} {mg : Str → Option Value} {base : Heap} {N : List Str} {q : Str} {sc : Scope} {f : Addr} {cd : Value} {A : Around} {outer : List Env} {s : Shared} {H : Hp} {E : XK} (T : Txt P K mg base)
    (hr : Room 40 (A.deeper (envOfC q sc s.heap.objs.size f cd))) (hg : sc.isGenerator = false) (hc : sc.isCoroutine = false) : Seer (cxOf CX0 P w K mg base N q sc f cd A outer s H E).nox where
  base := T.seer
  tree := T.tree
  stack := ⟨outer, rfl⟩
  gen := hg
  co := hc
  dp := by
    have h := hr.dp
    have e : Builtin.pylongFrames = 100 := rfl
    show (A.deeper (envOfC q sc s.heap.objs.size f cd)).depth + Builtin.pylongFrames < recursionLimit
    omega
end
end MU

namespace MU
open PySem PySem.Spec PyProof.Rows L2 He MM
def refsM (o : Obj) : List Addr := match o.data with
  | .dict es _ => es.toList.flatMap fun e => refV e.val
  | .func fd => refV fd.code
  | .cls cd => cd.ns :: cd.mro.flatMap refV
  | _ => []
def nextM (g : Addr → Option Obj) (as : List Addr) : List Addr := as.flatMap fun a => match g a with
  | some o => refsM o
  | none => []
def asM (g : Addr → Option Obj) : List Addr :=
  let a1 := nextM g [mainGlobals]
  let a2 := nextM g a1
  let a3 := nextM g a2
  let a4 := nextM g a3
  mainGlobals :: (a1 ++ a2 ++ a3 ++ a4)
abbrev AlM : Type := AlD × Bool
def obsM (fa : List Fa) (fn : List DefD) (ex : PySem.W.Frag → Bool) (g : Addr → Option Obj) : AlM :=
  let K := frG g (asM g)
  (obsD fa fn K, ex K)
def hookM (fa : List Fa) (fn : List DefD) (ex : PySem.W.Frag → Bool) : PySem.W.Hook where
  α := AlM
  obs := fun s => obsM fa fn ex s.heap.get?
  val := fun _ => (valD fn, true)
  says := fun _ h => ∃ K : PySem.W.Frag, K.In h ∧ SaysD fa fn K ∧ ex K = true
  of := fun _ s e => ⟨frG s.heap.get? (asM s.heap.get?), frG_in, congrArg (fun z : AlM => z.1) e, congrArg (fun z : AlM => z.2) e⟩
  keeps := fun _ _ _ ⟨K, hK, c⟩ k => ⟨K, PySem.W.Frag.In.keeps hK k, c⟩
theorem obsM_eq {fa : List Fa} {fn : List DefD} {ex : PySem.W.Frag → Bool} {g : Addr → Option Obj} {s : Shared} (h : ∀ a, g a = s.heap.get? a) : obsM fa fn ex g = (hookM fa fn ex).obs s := by
  have e : g = s.heap.get? := funext h
  rw [e] <;> rfl
abbrev RowU : PySem.W.OpenRow := PySem.W.OpenLaw.row PySem.Challenge.rw_minusless_k16_whole_unmaking
def dgU (d : Str × Nat) : He.DefD := ⟨(d.1, none), d.1, d.1, defArgs (top d.2), defBody (top d.2), defScope (top d.2), [], []⟩
def dmU (d : Str × Nat) : He.DefD := ⟨("Table", some d.1), d.1, "Table." ++ d.1, defArgs (cls d.2), defBody (cls d.2), defScope (cls d.2), [], []⟩
def fnU : List He.DefD := (defsL ++ defsK).map dgU ++ methL.map dmU
def faA : List He.Fa := (defsL ++ defsK).map fun d => .glo d.1
def faB : List He.Fa := methL.map fun d => .meth "Table" d.1
def faC : List He.Fa := [.glo "Table", .int "MOST" 12, .free "len", .free "isinstance", .free "int", .free "bool", .free "list", .free "tuple", .free "range", .free "enumerate", .free "zip", .free "abs", .free "min", .cls "Table", .mkr "Table", .noat "Table" "rows", .noat "Table" "high", .noat "Table" "wide"]
def faU : List He.Fa := faC ++ (faB ++ faA)
def exU (K : PySem.W.Frag) : Bool := eqO (PySem.W.findIn K (.ref (ga K "Table")) "__class__") (some (some (.builtin "object.__class__"))) && (eqO (PySem.W.specialIn K (.builtin "object.__class__") "__get__") (some (some (.builtin "getset_descriptor.__get__"))) && (decide (PySem.W.takesIn K (.builtin "object.__class__") = some true) && (decide (PySem.W.mroIn K (ga K "Table") (.type "object") = some true) && decide (PySem.W.nsIn K mainGlobals "gcd" = some (some (.builtin "math.gcd"))))))
abbrev hkU : PySem.W.Hook := hookM faU fnU exU
def obU (s : PySem.W.SharedT) : AlM := obsM faU fnU exU (HandSHeadRun.getT s)
theorem obU_eq (s : PySem.W.SharedT) : obU s = hkU.obs s.abs := obsM_eq (HandSHeadRun.getT_eq s)
def namesU : List PySem.Str := (["_wall", "MinusError", "BadNumber", "BadTable", "BadBox", "BadLot", "OtherSize", "TooMany", "BadText", "FIGURES", "MOST_FIGURES", "is_plain_integer", "is_number", "check_number", "check_row", "lowest", "plus", "less", "times", "over", "dot", "written", "read_figures", "read_number", "check_lot", "MOST", "is_place", "checked_rows", "row_at"] : List PySem.Str) ++ (["column_at", "fitting_row", "Table", "full_after", "pair_of_rows", "unmade_row", "rows_above", "unmade", "level", "core_row", "last_round", "made_row", "made", "put_under", "entry_of", "clear_above", "cleared", "_law_draws", "_law_take", "_law_pair", "_law_plus", "_law_less", "_law_times", "_law_over", "_law_is_number", "_law_is_rows", "_law_fixed", "_law_copy", "_law_turned", "_law_next"] : List PySem.Str) ++ (["_law_unmade_row", "_law_made_row", "_law_unmade", "_law_level", "_law_made", "_law_any", "_law_size", "_law_signed", "_law_same", "_law_upward", "_law_downward", "_law_entries", "_law_times_row", "_law_scaled", "_law_noughts_in", "_law_broad"] : List PySem.Str)
abbrev qvU : Program := PySem.W.view RowU.prog [0, 85]
theorem imp0 : importsNone qvU = true := by decide +kernel
theorem runU (w : World) : HandSHeadRun.RunEqI RowU qvU hkU obU 30000 namesU w := by
  unfold HandSHeadRun.RunEqI
  kernel_rfl
end MU
namespace MU
open PySem PySem.Spec PyProof.Rows L2 He MM
def rem (D : Addr) (H : Hp) : Hp := fun b => if b = D then none else H b
theorem rem_ne {D b : Addr} {H : Hp} (h : b ≠ D) : rem D H b = H b := if_neg h
theorem rem_self {D : Addr} {H : Hp} : rem D H D = none := if_pos rfl
theorem rem_same {D : Addr} {H : Hp} : Same (rem D H) H := fun b o e => by
  by_cases h : b = D
  · subst h
    rw [rem_self] at e
    cases e
  · rwa [rem_ne h] at e
theorem rem_mono {D : Addr} {H H' : Hp} (s : Same H H') : Same (rem D H) (rem D H') := fun b o e => by
  by_cases h : b = D
  · subst h
    rw [rem_self] at e
    cases e
  · rw [rem_ne h] at e ⊢
    exact s b o e
theorem rem_upd {D : Addr} {H : Hp} {o : HO} : rem D (upd H D o) = rem D H := by
  funext b
  by_cases h : b = D
  · subst h
    rw [rem_self, rem_self]
  · rw [rem_ne h, rem_ne h, upd_ne h]
theorem to_rem {D : Addr} {H H' : Hp} (s : Same H H') (h : H D = none) : Same H (rem D H') := fun b o e => by
  rw [rem_ne (ne_of_none e h)]
  exact s b o e
theorem same_new {H : Hp} {p : Addr} {o : HO} (h : H p = none) : Same H (upd H p o) := fun b u e => by
  rw [upd_ne (ne_of_none e h)]
  exact e
theorem same_mut {H H' : Hp} {p : Addr} {o : HO} (s : Same H H') (h : H p = none) : Same H (upd H' p o) := fun b u e => by
  rw [upd_ne (ne_of_none e h)]
  exact s b u e
theorem sqT_mono {K : PySem.W.Frag} {H H' : Hp} {a : Addr} {xs : List V} (s : Same H H') (h : SqT K H a xs) : SqT K H' a xs := Evl.ex_t s h
theorem sqL_mono {K : PySem.W.Frag} {H H' : Hp} {a : Addr} {xs : List V} (s : Same H H') (h : SqL K H a xs) : SqL K H' a xs := Evl.ex_l s h
theorem sqS_mono {K : PySem.W.Frag} {H H' : Hp} {a : Addr} {xs : List V} (s : Same H H') (h : SqS K H a xs) : SqS K H' a xs := h.elim (fun h => .inl (sqL_mono s h)) fun h => .inr (sqT_mono s h)
def Nt : HO → Prop
  | .tup _ => False
  | .frz _ _ => False
  | _ => True
theorem nt_ne {H : Hp} {a D : Addr} {o u : HO} (h : H a = some u) (hD : H D = some o) (hn : Nt o) (hu : ¬ Nt u) : a ≠ D := by
  intro e
  subst e
  rw [h] at hD
  cases hD
  exact hu hn
theorem sqT_rem {K : PySem.W.Frag} {H : Hp} {D a : Addr} {xs : List V} {o : HO} (hD : H D = some o) (h : SqT K H a xs) (hn : Nt o := by trivial) : SqT K (rem D H) a xs := by
  rcases h with (h | ⟨ob, h⟩) | h
  · exact .inl (.inl (by rw [rem_ne (nt_ne h hD hn (fun z => z))]; exact h))
  · exact .inl (.inr ⟨ob, by rw [rem_ne (nt_ne h hD hn (fun z => z))]; exact h⟩)
  · exact .inr h
section
variable {α β : Type} {F G : α → β → Prop}
theorem pr_mono {l : List α} {m : List β} (h : Paired F l m) (f : ∀ a b, F a b → G a b) : Paired G l m := L2.Paired.mapP h f
theorem pr_len {l : List α} {m : List β} (h : Paired F l m) : l.length = m.length := Paired.length h
theorem pr_get : ∀ {l : List α} {m : List β} {i : Nat} {b : β}, Paired F l m → m[i]? = some b → ∃ a, l[i]? = some a ∧ F a b
  | _, _, _, _, .nil, e => by simp at e
  | _, _, 0, _, .cons r _, e => by simp at e; subst e; exact ⟨_, rfl, r⟩
  | _, _, i + 1, _, .cons _ t, e => by
    obtain ⟨a, h1, h2⟩ := pr_get (i := i) t (by simpa using e)
    exact ⟨a, by simpa using h1, h2⟩
theorem pr_getl : ∀ {l : List α} {m : List β} {i : Nat} {a : α}, Paired F l m → l[i]? = some a → ∃ b, m[i]? = some b ∧ F a b
  | _, _, _, _, .nil, e => by simp at e
  | _, _, 0, _, .cons r _, e => by simp at e; subst e; exact ⟨_, rfl, r⟩
  | _, _, i + 1, _, .cons _ t, e => by
    obtain ⟨a, h1, h2⟩ := pr_getl (i := i) t (by simpa using e)
    exact ⟨a, by simpa using h1, h2⟩
theorem pr_at : ∀ {l : List α} {m : List β} {i : Nat} {a : α} {b : β}, Paired F l m → l[i]? = some a → m[i]? = some b → F a b := fun {l m i a b} h e1 e2 => by
  obtain ⟨a', h1, h2⟩ := pr_get h e2
  rw [e1] at h1
  cases h1
  exact h2
theorem pr_of : ∀ {l : List α} {m : List β}, l.length = m.length → (∀ (i : Nat) (a : α) (b : β), l[i]? = some a → m[i]? = some b → F a b) → Paired F l m
  | [], [], _, _ => .nil
  | [], _ :: _, h, _ => by simp at h
  | _ :: _, [], h, _ => by simp at h
  | a :: l, b :: m, h, f => .cons (f 0 a b rfl rfl) (pr_of (by simpa using h) fun i x y h1 h2 => f (i + 1) x y (by simpa using h1) (by simpa using h2))
theorem pr_app : ∀ {l : List α} {m : List β} {l' : List α} {m' : List β}, Paired F l m → Paired F l' m' → Paired F (l ++ l') (m ++ m')
  | _, _, _, _, .nil, s => s
  | _, _, _, _, .cons r t, s => .cons r (pr_app t s)
theorem pr_take (n : Nat) : ∀ {l : List α} {m : List β}, Paired F l m → Paired F (l.take n) (m.take n) := fun {l m} h => pr_of (by simp [pr_len h]) fun i a b e1 e2 => by
  rw [List.getElem?_take] at e1 e2
  by_cases hi : i < n
  · rw [if_pos hi] at e1 e2
    exact pr_at h e1 e2
  · rw [if_neg hi] at e1
    cases e1
theorem pr_drop (n : Nat) : ∀ {l : List α} {m : List β}, Paired F l m → Paired F (l.drop n) (m.drop n) := fun {l m} h => pr_of (by simp [pr_len h]) fun i a b e1 e2 => by
  rw [List.getElem?_drop] at e1 e2
  exact pr_at h e1 e2
theorem pr_rev {l : List α} {m : List β} (h : Paired F l m) : Paired F l.reverse m.reverse := pr_of (by simp [pr_len h]) fun i a b e1 e2 => by
  have hl := pr_len h
  have hi : i < l.length := by
    have := (List.getElem?_eq_some_iff.mp e1).1
    simpa using this
  rw [List.getElem?_reverse hi] at e1
  rw [List.getElem?_reverse (by omega), ← hl] at e2
  exact pr_at h e1 e2
theorem pr_set {l : List α} {m : List β} {a : α} {b : β} (h : Paired F l m) (i : Nat) (f : F a b) : Paired F (l.set i a) (m.set i b) := pr_of (by simp [pr_len h]) fun j x y e1 e2 => by
  rw [List.getElem?_set] at e1 e2
  by_cases hij : i = j
  · subst hij
    rw [if_pos rfl] at e1 e2
    by_cases hl : i < l.length
    · rw [if_pos hl] at e1
      rw [if_pos (by rw [← pr_len h]; exact hl)] at e2
      cases e1
      cases e2
      exact f
    · rw [if_neg hl] at e1
      cases e1
  · rw [if_neg hij] at e1 e2
    exact pr_at h e1 e2
end
def Num (K : PySem.W.Frag) (H : Hp) (v : V) (q : Rat) : Prop := ∃ p, v = .ref p ∧ SqT K H p [.int q.num, .int (q.den : Int)]
def RowT (K : PySem.W.Frag) (H : Hp) (v : V) (r : List Rat) : Prop := ∃ p vs, v = .ref p ∧ SqT K H p vs ∧ Paired (Num K H) vs r
def RowS (K : PySem.W.Frag) (H : Hp) (v : V) (r : List Rat) : Prop := ∃ p vs, v = .ref p ∧ SqS K H p vs ∧ Paired (Num K H) vs r
def TabT (K : PySem.W.Frag) (H : Hp) (v : V) (R : List (List Rat)) : Prop := ∃ p vs, v = .ref p ∧ SqT K H p vs ∧ Paired (RowT K H) vs R
def SeqT (K : PySem.W.Frag) (H : Hp) (v : V) (R : List (List Rat)) : Prop := ∃ p vs, v = .ref p ∧ SqS K H p vs ∧ Paired (RowT K H) vs R
def TabS (K : PySem.W.Frag) (H : Hp) (v : V) (R : List (List Rat)) : Prop := ∃ p vs, v = .ref p ∧ SqS K H p vs ∧ Paired (RowS K H) vs R
section
variable {K : PySem.W.Frag} {H H' : Hp} {v : V} {q : Rat} {r : List Rat} {R : List (List Rat)}
theorem Num.mono (s : Same H H') (h : Num K H v q) : Num K H' v q := let ⟨p, e, a⟩ := h; ⟨p, e, sqT_mono s a⟩
theorem nums_mono {vs : List V} (s : Same H H') (h : Paired (Num K H) vs r) : Paired (Num K H') vs r := pr_mono h fun _ _ z => z.mono s
theorem RowT.mono (s : Same H H') (h : RowT K H v r) : RowT K H' v r := let ⟨p, vs, e, a, b⟩ := h; ⟨p, vs, e, sqT_mono s a, nums_mono s b⟩
theorem RowS.mono (s : Same H H') (h : RowS K H v r) : RowS K H' v r := let ⟨p, vs, e, a, b⟩ := h; ⟨p, vs, e, sqS_mono s a, nums_mono s b⟩
theorem RowT.s (h : RowT K H v r) : RowS K H v r := let ⟨p, vs, e, a, b⟩ := h; ⟨p, vs, e, .inr a, b⟩
theorem rowTs_mono {vs : List V} (s : Same H H') (h : Paired (RowT K H) vs R) : Paired (RowT K H') vs R := pr_mono h fun _ _ z => z.mono s
theorem rowSs_mono {vs : List V} (s : Same H H') (h : Paired (RowS K H) vs R) : Paired (RowS K H') vs R := pr_mono h fun _ _ z => z.mono s
theorem TabT.mono (s : Same H H') (h : TabT K H v R) : TabT K H' v R := let ⟨p, vs, e, a, b⟩ := h; ⟨p, vs, e, sqT_mono s a, rowTs_mono s b⟩
theorem SeqT.mono (s : Same H H') (h : SeqT K H v R) : SeqT K H' v R := let ⟨p, vs, e, a, b⟩ := h; ⟨p, vs, e, sqS_mono s a, rowTs_mono s b⟩
theorem TabS.mono (s : Same H H') (h : TabS K H v R) : TabS K H' v R := let ⟨p, vs, e, a, b⟩ := h; ⟨p, vs, e, sqS_mono s a, rowSs_mono s b⟩
theorem TabT.seq (h : TabT K H v R) : SeqT K H v R := let ⟨p, vs, e, a, b⟩ := h; ⟨p, vs, e, .inr a, b⟩
theorem SeqT.s (h : SeqT K H v R) : TabS K H v R := let ⟨p, vs, e, a, b⟩ := h; ⟨p, vs, e, a, pr_mono b fun _ _ z => z.s⟩
theorem Num.rem {D : Addr} {o : HO} (hD : H D = some o) (h : Num K H v q) (hn : Nt o := by trivial) : Num K (rem D H) v q := let ⟨p, e, a⟩ := h; ⟨p, e, sqT_rem hD a hn⟩
theorem nums_rem {D : Addr} {vs : List V} {o : HO} (hD : H D = some o) (h : Paired (Num K H) vs r) (hn : Nt o := by trivial) : Paired (Num K (MU.rem D H)) vs r := pr_mono h fun _ _ z => z.rem hD hn
theorem RowT.rem {D : Addr} {o : HO} (hD : H D = some o) (h : RowT K H v r) (hn : Nt o := by trivial) : RowT K (rem D H) v r := let ⟨p, vs, e, a, b⟩ := h; ⟨p, vs, e, sqT_rem hD a hn, nums_rem hD b hn⟩
theorem TabT.rem {D : Addr} {o : HO} (hD : H D = some o) (h : TabT K H v R) (hn : Nt o := by trivial) : TabT K (rem D H) v R := let ⟨p, vs, e, a, b⟩ := h; ⟨p, vs, e, sqT_rem hD a hn, pr_mono b fun _ _ z => z.rem hD hn⟩
theorem upd_rem {D : Addr} {u : HO} : Same (MU.rem D H) (L2.upd H D u) := by
  have h : Same (MU.rem D (L2.upd H D u)) (L2.upd H D u) := rem_same
  rwa [rem_upd] at h
theorem Num.upd {D : Addr} {o u : HO} (hD : H D = some o) (h : Num K H v q) (hn : Nt o := by trivial) : Num K (L2.upd H D u) v q := (h.rem hD hn).mono upd_rem
theorem nums_upd {D : Addr} {vs : List V} {o u : HO} (hD : H D = some o) (h : Paired (Num K H) vs r) (hn : Nt o := by trivial) : Paired (Num K (L2.upd H D u)) vs r := pr_mono h fun _ _ z => z.upd hD hn
theorem RowT.upd {D : Addr} {o u : HO} (hD : H D = some o) (h : RowT K H v r) (hn : Nt o := by trivial) : RowT K (L2.upd H D u) v r := (h.rem hD hn).mono upd_rem
theorem rowTs_upd {D : Addr} {vs : List V} {o u : HO} (hD : H D = some o) (h : Paired (RowT K H) vs R) (hn : Nt o := by trivial) : Paired (RowT K (L2.upd H D u)) vs R := pr_mono h fun _ _ z => z.upd hD hn
theorem TabT.upd {D : Addr} {o u : HO} (hD : H D = some o) (h : TabT K H v R) (hn : Nt o := by trivial) : TabT K (L2.upd H D u) v R := (h.rem hD hn).mono upd_rem
end
def tf (rv : V) (m n : Nat) : List (Str × V) := [("rows", rv), ("high", .int m), ("wide", .int n)]
def Tbl (K : PySem.W.Frag) (H : Hp) (v : V) (n : Nat) (R : List (List Rat)) : Prop :=
  (∃ p dx rv, v = .ref p ∧ H p = some (.ins (cTab K) dx (tf rv R.length n)) ∧ TabT K H rv R) ∧ Wide n R ∧ 0 < R.length ∧ R.length ≤ 12 ∧ 0 < n ∧ n ≤ 12
theorem Tbl.mono {K : PySem.W.Frag} {H H' : Hp} {v : V} {n : Nat} {R : List (List Rat)} (s : Same H H') (h : Tbl K H v n R) : Tbl K H' v n R := by
  obtain ⟨⟨p, dx, rv, e, a, b⟩, c⟩ := h
  exact ⟨⟨p, dx, rv, e, s _ _ a, b.mono s⟩, c⟩
theorem rt_h : (("rows" : Str) == "high") = false := by decide +kernel
theorem tf_rows (rv : V) (m n : Nat) : (tf rv m n).lookup ("rows" : Str) = some rv := by
  unfold tf
  simp [List.lookup]
theorem tf_high (rv : V) (m n : Nat) : (tf rv m n).lookup ("high" : Str) = some (.int m) := by
  unfold tf
  have h1 : (("high" : Str) == "rows") = false := by decide +kernel
  simp [List.lookup, h1]
theorem tf_wide (rv : V) (m n : Nat) : (tf rv m n).lookup ("wide" : Str) = some (.int n) := by
  unfold tf
  have h1 : (("wide" : Str) == "rows") = false := by decide +kernel
  have h2 : (("wide" : Str) == "high") = false := by decide +kernel
  simp [List.lookup, h1, h2]
theorem tf_no (rv : V) (m n : Nat) {x : Str} (h : (x == "rows") = false ∧ (x == "high") = false ∧ (x == "wide") = false) : (tf rv m n).lookup x = none := by
  unfold tf
  simp [List.lookup, h.1, h.2.1, h.2.2]
theorem tf_put (rv : V) (m n : Nat) : putF "wide" (.int n) (putF "high" (.int m) (putF "rows" rv [])) = tf rv m n := by
  have h1 : ¬ (("rows" : Str) = "high") := by decide +kernel
  have h2 : ¬ (("rows" : Str) = "wide") := by decide +kernel
  have h3 : ¬ (("high" : Str) = "wide") := by decide +kernel
  unfold tf
  simp [putF, h1, h2, h3]
section
variable {K : PySem.W.Frag} {H : Hp} {p : Addr} {xs : List V}
theorem lenS (h : SqS K H p xs) : LenV K (.ref p) H xs.length := h.elim (fun h => .inl ⟨_, h, rfl⟩) fun h => .inr ⟨_, h, rfl⟩
theorem ixS {k : Int} {i : Nat} {v : V} {Q : VK} (h : SqS K H p xs) (hk : k = (i : Int)) (e : xs[i]? = some v) (q : Q v H) : rIx K (.ref p) (.int k) H Q := by
  subst hk
  rcases h with h | h
  · exact .inl ⟨p, xs, _, v, rfl, rfl, h, atI_nat e, q⟩
  · exact .inr (.inl ⟨p, xs, _, v, rfl, rfl, h, atI_nat e, q⟩)
theorem ixLast {v : V} {Q : VK} (h : SqS K H p xs) (e : xs[xs.length - 1]? = some v) (q : Q v H) : rIx K (.ref p) (.int (-1)) H Q := by
  have hne : xs ≠ [] := by
    intro z
    subst z
    simp at e
  have e2 : xs = xs.dropLast ++ [v] := by
    have h1 := List.dropLast_concat_getLast hne
    have h2 : xs.getLast hne = v := by
      rw [List.getLast_eq_getElem]
      have := List.getElem?_eq_some_iff.mp e
      exact this.2
    rw [h2] at h1
    exact h1.symm
  have e3 : atI xs (-1) = some v := by
    rw [e2]
    exact atI_last _ _
  rcases h with h | h
  · exact .inl ⟨p, xs, _, v, rfl, rfl, h, e3, q⟩
  · exact .inr (.inl ⟨p, xs, _, v, rfl, rfl, h, e3, q⟩)
end
section
variable {K : PySem.W.Frag} {a : Addr} {xs : List V} {g : TG} {te : TE} {vs : List Nat} {σ : L2.St} {H1 : Hp} {D : Addr} {Q : VK}
def LcP (H1 : Hp) (D : Addr) (R : Nat → V → Hp → Prop) (i : Nat) (H : Hp) : Prop := Same H1 (rem D H) ∧ ∃ ys : List V, H D = some (.lst ys) ∧ ys.length = i ∧ ∀ (j : Nat) (y : V), ys[j]? = some y → R j y (rem D H)
theorem lcP_zero {R : Nat → V → Hp → Prop} (hD : H1 D = none) : LcP H1 D R 0 (upd H1 D (.lst [])) :=
  ⟨by rw [rem_upd]; exact to_rem (Same.refl _) hD, [], upd_same, rfl, fun j y e => by simp at e⟩
def LcS (g : TG) (te : TE) (σ : L2.St) (vs : List Nat) (D : Addr) (R : Nat → V → Hp → Prop) (i : Nat) (x : V) (H : Hp) : Prop :=
  ∀ Qe : VK, (∀ y H4, Same H H4 → R i y (rem D H4) → Qe y H4) → g x (wipe σ vs) H fun σ2 H2 => wipe σ2 vs = wipe σ vs ∧ te σ2 H2 Qe
theorem lcS_step {R : Nat → V → Hp → Prop} (hR : ∀ i v H H', Same H H' → R i v H → R i v H') {i : Nat} {x : V} {H : Hp} (hz : i < 100000) (p : LcP H1 D R i H) (h : LcS g te σ vs D R i x H) :
    g x (wipe σ vs) H fun σ2 H2 => wipe σ2 vs = wipe σ vs ∧ tYes σ2 H2 fun b H3 =>
      if b = true then te σ2 H3 fun y H4 => ∃ acc, H4 D = some (.lst acc) ∧ acc.length < sizeLine ∧ LcP H1 D R (i + 1) (upd H4 D (.lst (acc ++ [y]))) else LcP H1 D R (i + 1) H3 := by
  obtain ⟨h1, ys, h2, h3, h4⟩ := p
  refine h _ fun y H4 s4 r4 => ?_
  refine ⟨ys, s4 _ _ h2, Evl.sz_lt (by omega), ?_, ys ++ [y], upd_same, by simp [h3], fun j z e => ?_⟩
  · rw [rem_upd]
    exact h1.trans (rem_mono s4)
  · rw [rem_upd]
    by_cases hj : j < ys.length
    · rw [List.getElem?_append_left hj] at e
      exact hR _ _ _ _ (rem_mono s4) (h4 j z e)
    · rw [List.getElem?_append_right (by omega)] at e
      have hj0 : j = ys.length := by
        have := (List.getElem?_eq_some_iff.mp e).1
        simp at this
        omega
      subst hj0
      simp at e
      subst e
      rw [h3]
      exact r4
abbrev LcG (J : It) (g : TG) (te : TE) (vs : List Nat) (σ : L2.St) (H1 : Hp) (D : Addr) (Qd : Hp → Prop) : Prop := ∃ W : Nat → Nat → Hp → Prop, (∃ m, W 0 m (upd H1 D (.lst []))) ∧ ∀ i m H, W i m H →
      (J.stop i H ∧ Qd H) ∨ (J.go i H ∧ ∃ Nx : Hp → Prop, (∀ H', Nx H' → ∃ m', m' < m ∧ W (i + 1) m' H') ∧ ∀ x H', J.yld i H x H' → g x (wipe σ vs) H' fun σ2 H2 => wipe σ2 vs = wipe σ vs ∧ tYes σ2 H2 fun b H3 =>
        if b = true then te σ2 H3 fun y H4 => ∃ acc, H4 D = some (.lst acc) ∧ acc.length < sizeLine ∧ Nx (upd H4 D (.lst (acc ++ [y]))) else Nx H3)
section
variable {Qd : Hp → Prop} (hD : H1 D = none) (hz : xs.length < 100000) (R : Nat → V → Hp → Prop) (hR : ∀ i v H H', Same H H' → R i v H → R i v H')
    (hs : ∀ (i : Nat) (x : V) (H : Hp), xs[i]? = some x → Same H1 (rem D H) → (∃ acc, H D = some (.lst acc)) → LcS g te σ vs D R i x H)
    (hd : ∀ (H : Hp) (ys : List V), Same H1 (rem D H) → H D = some (.lst ys) → ys.length = xs.length → (∀ (i : Nat) (y : V), ys[i]? = some y → R i y (rem D H)) → Qd H)
include hD hz hR hs hd
theorem lc_mapL (hx : SqL K H1 a xs) : LcG (Itl K a) g te vs σ H1 D Qd :=
  lc_list (K := K) (a := a) (xs := xs) (Qd := Qd) (LcP H1 D R) (lcP_zero hD) (fun i H _ p => sqL_mono (p.1.trans rem_same) hx)
    (fun i x H hi p => lcS_step hR (by have := (List.getElem?_eq_some_iff.mp hi).1; omega) p (hs i x H hi p.1 (let ⟨_, ys, h, _⟩ := p; ⟨ys, h⟩))) (fun H ⟨h1, ys, h2, h3, h4⟩ => hd H ys h1 h2 h3 h4)
theorem lc_mapT (hx : SqT K H1 a xs) : LcG (Itt K a) g te vs σ H1 D Qd :=
  lc_tup (K := K) (a := a) (xs := xs) (Qd := Qd) (LcP H1 D R) (lcP_zero hD) (fun i H _ p => sqT_mono (p.1.trans rem_same) hx)
    (fun i x H hi p => lcS_step hR (by have := (List.getElem?_eq_some_iff.mp hi).1; omega) p (hs i x H hi p.1 (let ⟨_, ys, h, _⟩ := p; ⟨ys, h⟩))) (fun H ⟨h1, ys, h2, h3, h4⟩ => hd H ys h1 h2 h3 h4)
end
theorem lc_mapS {Qd : Addr → Hp → Prop} (hx : SqS K H1 a xs) (hz : xs.length < 100000) (R : Nat → V → Hp → Prop) (hR : ∀ i v H H', Same H H' → R i v H → R i v H')
    (hs : ∀ D, H1 D = none → ∀ (i : Nat) (x : V) (H : Hp), xs[i]? = some x → Same H1 (rem D H) → (∃ acc, H D = some (.lst acc)) → LcS g te σ vs D R i x H)
    (hd : ∀ D, H1 D = none → ∀ (H : Hp) (ys : List V), Same H1 (rem D H) → H D = some (.lst ys) → ys.length = xs.length → (∀ (i : Nat) (y : V), ys[i]? = some y → R i y (rem D H)) → Qd D H) :
    ((∃ xs, SqL K H1 a xs) ∧ ∀ D, H1 D = none → LcG (Itl K a) g te vs σ H1 D (Qd D)) ∨ ((∃ xs, SqT K H1 a xs) ∧ ∀ D, H1 D = none → LcG (Itt K a) g te vs σ H1 D (Qd D)) := by
  rcases hx with hx | hx
  · exact .inl ⟨⟨_, hx⟩, fun D hD => lc_mapL (Qd := Qd D) hD hz R hR (hs D hD) (hd D hD) hx⟩
  · exact .inr ⟨⟨_, hx⟩, fun D hD => lc_mapT (Qd := Qd D) hD hz R hR (hs D hD) (hd D hD) hx⟩
theorem lc_mapR {Qd : Addr → Hp → Prop} {lo : Int} {n : Nat} (hz : n < 100000) (R : Nat → V → Hp → Prop) (hR : ∀ i v H H', Same H H' → R i v H → R i v H')
    (hs : ∀ D, H1 D = none → ∀ (i : Nat) (H : Hp), i < n → Same H1 (rem D H) → (∃ acc, H D = some (.lst acc)) → LcS g te σ vs D R i (.int (lo + i)) H)
    (hd : ∀ D, H1 D = none → ∀ (H : Hp) (ys : List V), Same H1 (rem D H) → H D = some (.lst ys) → ys.length = n → (∀ (i : Nat) (y : V), ys[i]? = some y → R i y (rem D H)) → Qd D H) :
    ∀ D, H1 D = none → LcG (Itr lo n) g te vs σ H1 D (Qd D) := fun D hD =>
  lc_range (Qd := Qd D) (LcP H1 D R) (lcP_zero hD)
    (fun i H hi p => lcS_step hR (by omega) p (hs D hD i H hi p.1 (let ⟨_, ys, h, _⟩ := p; ⟨ys, h⟩))) (fun H ⟨h1, ys, h2, h3, h4⟩ => hd D hD H ys h1 h2 h3 h4)
end
end MU
namespace PySem
open Sem (wp)
open AutoSeq1 (wpAny_loadPart')
theorem mu_meets_enum {v : Value} {o : Obj} {H : Heap → Prop} (B : Begins v o H) :
    Meets (Builtin.«enumerate.__new__» ⟨[.type "enumerate", v], []⟩) (fun _ R s => H s.heap ∧
      R (.ok (.ret (.ref (s.heap.push o).objs.size))) { s with heap := (s.heap.push o).push { cls := .type "enumerate", data := .fields #[.none, .bool false, .ref s.heap.objs.size, rawInt 0, .none, .none] } }) :=
  .of_wp fun prog w A R s h => by
    obtain ⟨hp, g, d, tk, os⟩ := s; obtain ⟨h1, h⟩ := h
    have hsub := sub_enumerate
    have q1 : ∀ {A' : Around} {E : Value → Shared → Prop} {Q : Value → Shared → Prop}, Q (.ref hp.objs.size) ⟨hp.push o, g, d, tk, os⟩ → wpAny (model prog w) A' (pyIter v) Q E ⟨hp, g, d, tk, os⟩ :=
      fun q => B.iter prog w _ _ ⟨hp, g, d, tk, os⟩ _ h1 q
    wp_walk using q1
    refine wpAny_stack_any fun st => wpAny_pure ?_
    split
    · rename_i c _ _ _ _ _
      cases (c == Value.type "enumerate")
      · wp_walk using q1
        exact ⟨_, rfl, h⟩
      · wp_walk using q1
        exact ⟨_, rfl, h⟩
    · wp_walk using q1
      exact ⟨_, rfl, h⟩
section
variable {prog : Program} {w : World} {A : Around} {E : Value → Shared → Prop} {s : Shared}
theorem mu_enum_tuple {l : Addr} {items : Array Value} {Q : Value → Shared → Prop} (hL : s.heap.IsTuple l items)
    (h : ∀ h', IsEnum h' (s.heap.objs.size + 1) s.heap.objs.size 0 .none → h'.IsTupleIter s.heap.objs.size l 0 → h'.objs.size = s.heap.objs.size + 2 →
      (∀ b o, s.heap.get? b = some o → h'.get? b = some o) → Q (.ref (s.heap.objs.size + 1)) { s with heap := h' }) :
    wpAny (model prog w) A (call (.type "enumerate") [.ref l]) Q E s := by
  refine callType_new F.called_enumerate (by decide) (F.typeCall_enumerate_1 _) (F.newCall_enumerate_1 _) (fun obj => F.args_object_init_2 obj _) F.entry_enumerate_new
    (mu_meets_enum (begins_tuple l items)) ⟨hL, ?_⟩
  have hz : (s.heap.push { cls := .type "tuple_iterator", data := .fields #[.ref l, .int 0 0] }).objs.size = s.heap.objs.size + 1 := Heap.size_push ..
  show _ ∧ _
  rw [hz]
  have he : IsEnum ((s.heap.push { cls := .type "tuple_iterator", data := .fields #[.ref l, .int 0 0] }).push
      { cls := .type "enumerate", data := .fields #[.none, .bool false, .ref s.heap.objs.size, rawInt 0, .none, .none] }) (s.heap.objs.size + 1) s.heap.objs.size 0 .none := by
    have := Heap.get?_push_size (s.heap.push { cls := .type "tuple_iterator", data := .fields #[.ref l, .int 0 0] })
      (o := { cls := .type "enumerate", data := .fields #[.none, .bool false, .ref s.heap.objs.size, rawInt 0, .none, .none] }) rfl
    rw [hz] at this; exact this
  refine ⟨⟨_, he, rfl⟩, h _ he ⟨_, Heap.get?_push_of_some _ (Heap.get?_push_size _ rfl), rfl, rfl⟩ (by rw [Heap.size_push, hz]) fun b o x => Heap.get?_push_of_some _ (Heap.get?_push_of_some _ x)⟩
end
end PySem
namespace MU
open PySem PySem.Spec PyProof.Rows L2 He MM
def IteT (K : PySem.W.Frag) (a : Addr) : It :=
  ⟨fun i H => ∃ (xs : List V) (x : V), SqT K H a xs ∧ xs[i]? = some x, fun i H v H' => ∃ T x, v = .ref T ∧ H T = none ∧ H' = upd H T (.tup [.int (i : Nat), x]) ∧ ∀ xs, SqT K H a xs → xs[i]? = some x, fun i H => ∃ xs : List V, SqT K H a xs ∧ xs.length ≤ i⟩
theorem turn_enumT {P : Program} {w : World} {K : PySem.W.Frag} {elts : List Expr} {kk : Nat} {tpos : Pos} (a e it : Addr) :
    Turn P w K (.Tuple elts kk tpos) (IteT K a) [e, it] e (fun i h => (∃ old, IsEnum h e it ((i : Nat) : Int) old) ∧ h.IsTupleIter it a i ∧ e ≠ it) where
  mem := by simp
  obj := fun i h st b hb => by
    obtain ⟨⟨old, he⟩, ⟨o, ho, hc, hd⟩, _⟩ := st
    have e' : b = e ∨ b = it := by simpa using hb
    rcases e' with z | z
    · rw [z]; exact ⟨_, he, fun v q => nomatch q⟩
    · rw [z]; exact ⟨o, ho, fun v q => by rw [hd] at q; cases q⟩
  keep := fun i h h' st k => let ⟨⟨old, he⟩, hi, hne⟩ := st; ⟨⟨old, k e (by simp) _ he⟩, hi.at fun o q => k it (by simp) o q, hne⟩
  item := by
    intro X hP hw hK hc i pins s σ H E I hf st hg
    subst hP hw hK
    obtain ⟨⟨old, he⟩, hit, hne⟩ := st
    obtain ⟨xs, x, hq, hx⟩ := hg
    obtain ⟨its, rv, p, hz⟩ := I.tuple hq
    obtain ⟨u, hu, ru⟩ := rv.get hx
    have hel : e < s.heap.objs.size := Heap.lt_size he
    have hil : it < s.heap.objs.size := by obtain ⟨_, q, _⟩ := hit; exact Heap.lt_size q
    have pT : s.heap.IsTuple a its.toArray := p
    have hai : a ≠ it := by
      rintro rfl
      obtain ⟨o, ho, hcl, _⟩ := pT
      obtain ⟨o2, ho2, hcl2, _⟩ := hit
      rw [ho] at ho2; cases ho2; rw [hcl] at hcl2; exact absurd (Value.type.inj hcl2) (by decide)
    have hae : e ≠ a := by
      rintro rfl
      obtain ⟨o, ho, hcl, _⟩ := pT
      have he' : s.heap.get? e = some _ := he
      rw [ho] at he'; cases he'; exact absurd (Value.type.inj hcl) (by decide)
    have D := Draws.tuple (prog := X.prog) (w := X.w) (A := X.A.in1) (I.ok.hd hc) it a hai its.toArray
    have hlt : i < its.toArray.size := by
      have := (List.getElem?_eq_some_iff.mp hu).1
      simpa using this
    refine wpAny_pyNext_enum_itemC D he ⟨hit, pT⟩ hlt hne (by simp [hne, hae]) fun x' h' tk hP ho hit' hT hsz hk => ?_
    have ex : x' = u := by
      have h2 : its.toArray[i]? = some u := by simpa using hu
      rw [h2] at hP
      exact (Option.some.inj hP).symm
    subst ex
    refine ⟨_, rfl, wpAny_letOwnedTupleGo_enum (s := { s with heap := h', toks := tk + 1 }) ho fun h'' he' sb => ?_⟩
    have hT2 : h''.get? s.heap.objs.size = some { cls := .type "tuple", data := .seq #[.int i tk, x'] } := (sb.2 _ (Nat.ne_of_gt hel)).trans hT
    have new : ObjOk X.prog X.w (upd H s.heap.objs.size (.tup [.int (i : Nat), x])) h'' s.heap.objs.size (.tup [.int (i : Nat), x]) :=
      ⟨by show 2 ≤ sizeLine; decide, [.int i tk, x'], .cons ⟨_, rfl⟩ (.cons ru .nil), ⟨_, hT2, rfl, _, rfl⟩⟩
    have I1 : Inv X pins σ (upd H s.heap.objs.size (.tup [.int (i : Nat), x])) { s with heap := h'', toks := tk + 1 } :=
      I.turnedNew (ch := [e, it]) (fun b ob hb q => (sb.2 b (fun z => hb (by simp [z]))).trans (hk b ob (fun z => hb (by simp [z])) (fun z => hb (by simp [z])) q)) hf (Nat.le_refl _) new
    refine ⟨.ref s.heap.objs.size, _, I1, rfl, ⟨_, x, rfl, I.hok.fresh (Nat.le_refl _), rfl, fun ys hy => by rw [I.tuple_inj hy hq]; exact hx⟩, ⟨⟨x', ?_⟩, hit'.1.at fun o q => (sb.2 it (Ne.symm hne)).trans q, hne⟩, fun b hb => ?_⟩
    · have e1 : ((i + 1 : Nat) : Int) = (i : Int) + 1 := by omega
      rw [e1]; exact he'
    · have hb' : b < s.heap.objs.size := by
        have e' : b = e ∨ b = it := by simpa using hb
        rcases e' with z | z
        · rw [z]; exact hel
        · rw [z]; exact hil
      rw [upd_ne (Nat.ne_of_lt hb')]
      exact (hf b hb).1
  done := by
    intro X hP hw hK hc i pins s σ H E I hf st hg
    subst hP hw hK
    obtain ⟨⟨old, he⟩, hit, hne⟩ := st
    obtain ⟨xs, hq, hx⟩ := hg
    obtain ⟨its, rv, p, hz⟩ := I.tuple hq
    obtain ⟨f0, f1, f2, f3, f4, f5⟩ := hf it (by simp)
    have hl := rv.length
    have pT : s.heap.IsTuple a its.toArray := p
    unfold pyNext
    have hT : s.TypeIs (.ref e) "enumerate" := ⟨_, he, rfl⟩
    refine wpAny_bind (wpAny_attempt (wpAny_callSpecial?_slot (name := Str.ofString "__next__") hT F.slot_enumerate_next
      (wpAny_call_entry F.slot_enumerate_next hT F.entry_enumerate_next ?_ (F.args_enumerate_next_1 _))))
    show wpAny _ _ (field (.ref e) 2 >>= _) _ _ _
    refine wpAny_bind (wpAny_field he rfl (x := .ref it) rfl ?_)
    refine wpAny_bind (wpAny_nextOf_tuple_end (A := X.A.in1) (I.ok.hd hc) hit pT (by simp; omega) fun h' e' hk he' => ?_)
    obtain ⟨o, ho, hcl⟩ := he'
    refine wpAny_bind (wpAny_isInstance (T := "StopIteration") (b := true) ⟨o, ho, hcl⟩ isSubtype_stop ?_)
    exact wpAny_pure ⟨rfl, I.turned (t' := s.toks) (fun b o hb q => hk b o hb q) f0 f1 f3 f4 f5⟩
  self := fun A i s Q E st h => let ⟨⟨_, he⟩, _⟩ := st; wpAny_pyIter_enum he h
def iEnumT (K : PySem.W.Frag) (ta : TA) : TI := fun σ H R => ta σ H fun vs H1 => ∃ a xs, vs = [.ref a] ∧ SqT K H1 a xs ∧ R (IteT K a) H1
theorem pi_enumT {X : Cx} {e : Expr} {ta : TA} {p pos tpos : Pos} {elts : List Expr} {kk : Nat} (hg : Gl X "enumerate") (hm : X.mg "enumerate" = none) (ha : PA X [e] ta) (hs : starEach [e] X.env = [(false, eval e X.env)] := by rfl) :
    PI X (.Tuple elts kk tpos) (.Call (.Name "enumerate" p) [e] [] pos) (iEnumT X.K ta) := by
  refine ⟨fun pins s σ H R I h => ?_⟩
  refine Call_ (ld_blt I hg hm boot_enumerate (PyProof.Rows.callWith_type1 (thn (ha.run pos pins s σ H _ I h) fun us s1 ⟨vs, H1, I1, r1, q1⟩ => ?_) hs rfl))
  obtain ⟨a, xs, ex, hq, q⟩ := q1
  subst ex
  cases r1 with
  | cons r rr =>
    cases rr
    cases r
    obtain ⟨its, rv, p', hz⟩ := I1.tuple hq
    refine mu_enum_tuple (show s1.heap.IsTuple a its.toArray from p') fun h' he hit hsz hk => wpAny_pyIter_enum he ?_
    have I2 : Inv X pins σ H1 { s1 with heap := h' } := I1.kept (t' := s1.toks) hk
    refine ⟨s1.heap.objs.size + 1, [s1.heap.objs.size + 1, s1.heap.objs.size], _, _, H1, rfl, I2, turn_enumT a (s1.heap.objs.size + 1) s1.heap.objs.size, ⟨⟨.none, he⟩, hit, Nat.succ_ne_self _⟩, fun b hb => ?_, q⟩
    have e' : b = s1.heap.objs.size + 1 ∨ b = s1.heap.objs.size := by simpa using hb
    have hle : s1.heap.objs.size ≤ b := by
      rcases e' with z | z
      · rw [z]; exact Nat.le_add_right _ _
      · rw [z]; exact Nat.le_refl _
    exact I1.fpOk hle (I1.hok.fresh hle)
theorem for_enumT {K : PySem.W.Frag} {a : Addr} {xs : List V} {g : TG} {tb : TS} {D : Ends} {σ : L2.St} {H : Hp} (Pv : Nat → L2.St → Hp → Prop) (h0 : Pv 0 σ H) (hl : ∀ i σ H, i ≤ xs.length → Pv i σ H → SqT K H a xs)
    (hs : ∀ i x T σ H, xs[i]? = some x → Pv i σ H → H T = none → g (.ref T) σ (upd H T (.tup [.int (i : Nat), x])) fun σ2 H2 => tb { D with nx := Pv (i + 1), ct := Pv (i + 1), bk := D.nx } σ2 H2) (hd : ∀ σ H, Pv xs.length σ H → D.nx σ H) :
    ∃ W : Nat → Nat → L2.St → Hp → Prop, (∃ m, W 0 m σ H) ∧ ∀ i m σ H, W i m σ H →
      ((IteT K a).stop i H ∧ D.nx σ H) ∨ ((IteT K a).go i H ∧ ∃ N : L2.St → Hp → Prop, (∀ σ' H', N σ' H' → ∃ m', m' < m ∧ W (i + 1) m' σ' H') ∧ ∀ x H', (IteT K a).yld i H x H' → g x σ H' fun σ2 H2 => tb { D with nx := N, ct := N, bk := D.nx } σ2 H2) := by
  refine ⟨fun i m σ H => m = xs.length - i ∧ i ≤ xs.length ∧ Pv i σ H, ⟨xs.length, by simp, Nat.zero_le _, h0⟩, ?_⟩
  rintro i m σ H ⟨rfl, hi, p⟩
  have q := hl i σ H hi p
  by_cases hlt : i < xs.length
  · refine .inr ⟨⟨xs, xs[i], q, by simp [hlt]⟩, Pv (i + 1), fun σ' H' p' => ⟨xs.length - (i + 1), by omega, rfl, hlt, p'⟩, fun x H' y => ?_⟩
    obtain ⟨T, z, e, hT, e2, y⟩ := y
    subst e e2
    exact hs i z T σ H (y xs q) p hT
  · have e : i = xs.length := by omega
    subst e
    exact .inl ⟨⟨xs, q, Nat.le_refl _⟩, hd σ H p⟩
end MU
namespace MU
open PySem PySem.Spec PyProof.Rows L2 He MM
theorem pr_mono' {α β : Type} {F G : α → β → Prop} {l : List α} {m : List β} (h : Paired F l m) (f : ∀ a b, a ∈ l → F a b → G a b) : Paired G l m :=
  pr_of (pr_len h) fun _ _ _ e1 e2 => f _ _ (List.mem_of_getElem? e1) (pr_at h e1 e2)
def RowL (K : PySem.W.Frag) (H : Hp) (a : Addr) (r : List Rat) : Prop := ∃ us, H a = some (.lst us) ∧ Paired (Num K H) us r
structure Mat (K : PySem.W.Frag) (H : Hp) (L : Addr) (ads : List Addr) (R : List (List Rat)) : Prop where
  out : H L = some (.lst (ads.map V.ref))
  nd : ads.Nodup
  ne : L ∉ ads
  rows : Paired (RowL K H) ads R
section
variable {K : PySem.W.Frag} {H H' : Hp} {L a : Addr} {ads : List Addr} {r : List Rat} {R : List (List Rat)}
theorem RowL.mono (s : Same H H') (h : RowL K H a r) : RowL K H' a r := let ⟨us, e, n⟩ := h; ⟨us, s _ _ e, nums_mono s n⟩
theorem RowL.s (h : RowL K H a r) : RowS K H (.ref a) r := let ⟨us, e, n⟩ := h; ⟨a, us, rfl, .inl (SqL.of e), n⟩
theorem RowL.upd {D : Addr} {o u : HO} (hD : H D = some o) (hne : a ≠ D) (h : RowL K H a r) (hn : Nt o := by trivial) : RowL K (L2.upd H D u) a r := let ⟨us, e, n⟩ := h; ⟨us, by rw [upd_ne hne]; exact e, nums_upd hD n hn⟩
theorem RowL.rem {D : Addr} {o : HO} (hD : H D = some o) (hne : a ≠ D) (h : RowL K H a r) (hn : Nt o := by trivial) : RowL K (MU.rem D H) a r := let ⟨us, e, n⟩ := h; ⟨us, by rw [rem_ne hne]; exact e, nums_rem hD n hn⟩
theorem Mat.mono (s : Same H H') (h : Mat K H L ads R) : Mat K H' L ads R := ⟨s _ _ h.out, h.nd, h.ne, pr_mono h.rows fun _ _ z => z.mono s⟩
theorem Mat.rem {D : Addr} {o : HO} (hD : H D = some o) (h1 : L ≠ D) (h2 : D ∉ ads) (h : Mat K H L ads R) (hn : Nt o := by trivial) : Mat K (MU.rem D H) L ads R :=
  ⟨by rw [rem_ne h1]; exact h.out, h.nd, h.ne, pr_of (pr_len h.rows) fun i a r e1 e2 => (pr_at h.rows e1 e2).rem hD (fun z => h2 (z ▸ List.mem_of_getElem? e1)) hn⟩
theorem Mat.len (h : Mat K H L ads R) : ads.length = R.length := pr_len h.rows
theorem Mat.refs (h : Mat K H L ads R) : Paired (RowS K H) (ads.map V.ref) R := pr_of (by rw [List.length_map]; exact h.len) fun i v r e1 e2 => by
  rw [List.getElem?_map] at e1
  cases e3 : ads[i]? with
  | none => rw [e3] at e1; cases e1
  | some a =>
    rw [e3] at e1
    cases e1
    exact (pr_at h.rows e3 e2).s
theorem Mat.tab (h : Mat K H L ads R) : TabS K H (.ref L) R := ⟨L, _, rfl, .inl (SqL.of h.out), h.refs⟩
theorem Mat.at (h : Mat K H L ads R) {i : Nat} (hi : i < R.length) : ∃ a us, ads[i]? = some a ∧ H a = some (.lst us) ∧ Paired (Num K H) us (R.getD i []) := by
  obtain ⟨a, ha, us, e, n⟩ := pr_get h.rows (List.getElem?_eq_getElem hi)
  refine ⟨a, us, ha, e, ?_⟩
  rw [List.getD_eq_getElem?_getD, List.getElem?_eq_getElem hi]
  exact n
theorem Mat.setIn (h : Mat K H L ads R) {i c : Nat} {us : List V} {y : V} {q : Rat} (ha : ads[i]? = some a) (e : H a = some (.lst us)) (m : Num K H y q) : Mat K (L2.upd H a (.lst (us.set c y))) L ads (setM R i c q) := by
  have hm : a ∈ ads := List.mem_of_getElem? ha
  have hLa : L ≠ a := fun z => h.ne (z ▸ hm)
  refine ⟨by rw [upd_ne hLa]; exact h.out, h.nd, h.ne, pr_of (by rw [setM_length]; exact h.len) fun i' b r e1 e2 => ?_⟩
  have hi : i < R.length := by
    rw [← h.len]
    exact (List.getElem?_eq_some_iff.mp ha).1
  by_cases hii : i' = i
  · subst hii
    rw [ha] at e1
    cases e1
    unfold setM at e2
    rw [List.getElem?_set, if_pos rfl, if_pos hi] at e2
    cases e2
    have hr : R[i']? = some (R.getD i' []) := by
      rw [List.getD_eq_getElem?_getD, List.getElem?_eq_getElem hi]
      rfl
    obtain ⟨us', e3, n⟩ := pr_at h.rows ha hr
    rw [e] at e3
    cases e3
    exact ⟨_, upd_same, pr_set (nums_upd e n) c (m.upd e)⟩
  · unfold setM at e2
    rw [List.getElem?_set, if_neg (Ne.symm hii)] at e2
    have hba : b ≠ a := fun z => by
      subst z
      have h1 := List.getElem?_eq_some_iff.mp e1
      have h2 := List.getElem?_eq_some_iff.mp ha
      obtain ⟨l1, h1⟩ := h1
      obtain ⟨l2, h2⟩ := h2
      exact hii ((List.getElem_inj h.nd).mp (h1.trans h2.symm))
    exact (pr_at h.rows e1 e2).upd e hba
theorem Mat.setOut (h : Mat K H L ads R) {i : Nat} {b : Addr} (hi : i < R.length) (hb0 : b ∉ ads) (hbL : b ≠ L) (m : RowL K H b r) : Mat K (L2.upd H L (.lst ((ads.map V.ref).set i (.ref b)))) L (ads.set i b) (R.set i r) := by
  refine ⟨by rw [upd_same, List.map_set], ?_, ?_, ?_⟩
  · refine List.pairwise_iff_getElem.mpr fun j k hj hk hjk => ?_
    rw [List.getElem_set, List.getElem_set]
    have hnd := List.pairwise_iff_getElem.mp h.nd
    by_cases h1 : i = j
    · rw [if_pos h1, if_neg (by omega)]
      exact fun z => hb0 (z ▸ List.getElem_mem _)
    · rw [if_neg h1]
      by_cases h2 : i = k
      · rw [if_pos h2]
        exact fun z => hb0 (z ▸ List.getElem_mem _)
      · rw [if_neg h2]
        exact hnd _ _ _ _ hjk
  · intro z
    rcases List.mem_or_eq_of_mem_set z with h1 | h1
    · exact h.ne h1
    · exact hbL h1.symm
  · refine pr_set (pr_mono' h.rows fun a r hm z => z.upd h.out fun y => h.ne (y ▸ hm)) i (m.upd h.out hbL)
end
section
variable {K : PySem.W.Frag} {a : Addr} {xs : List V} {g : TG} {te : TE} {vs : List Nat} {σ : L2.St} {H1 : Hp} {D : Addr} {G : Nat → List Rat}
def LmP (K : PySem.W.Frag) (H1 : Hp) (D : Addr) (G : Nat → List Rat) (i : Nat) (H : Hp) : Prop := Same H1 (rem D H) ∧ ∃ ads : List Addr, Mat K H D ads ((List.range i).map G) ∧ ∀ a ∈ ads, H1 a = none
theorem lmP_zero (hD : H1 D = none) : LmP K H1 D G 0 (upd H1 D (.lst [])) :=
  ⟨by rw [rem_upd]; exact to_rem (Same.refl _) hD, [], ⟨upd_same, .nil, by simp, .nil⟩, by simp⟩
def LmS (K : PySem.W.Frag) (g : TG) (te : TE) (σ : L2.St) (vs : List Nat) (G : Nat → List Rat) (i : Nat) (x : V) (H : Hp) : Prop :=
  ∀ Qe : VK, (∀ b H4, Same H H4 → H b = none → RowL K H4 b (G i) → Qe (.ref b) H4) → g x (wipe σ vs) H fun σ2 H2 => wipe σ2 vs = wipe σ vs ∧ te σ2 H2 Qe
theorem lmS_step {i : Nat} {x : V} {H : Hp} (hD : H1 D = none) (hz : i < 100000) (p : LmP K H1 D G i H) (h : LmS K g te σ vs G i x H) :
    g x (wipe σ vs) H fun σ2 H2 => wipe σ2 vs = wipe σ vs ∧ tYes σ2 H2 fun b H3 =>
      if b = true then te σ2 H3 fun y H4 => ∃ acc, H4 D = some (.lst acc) ∧ acc.length < sizeLine ∧ LmP K H1 D G (i + 1) (upd H4 D (.lst (acc ++ [y]))) else LmP K H1 D G (i + 1) H3 := by
  obtain ⟨h1, ads, h2, h3⟩ := p
  have hl := h2.len
  rw [List.length_map, List.length_range] at hl
  refine h _ fun b H4 s4 hb0 r4 => ?_
  have h24 := h2.mono s4
  have hbD : b ≠ D := fun z => by
    have e := h2.out
    rw [← z, hb0] at e
    cases e
  have hbm : b ∉ ads := fun z => by
    obtain ⟨i, hi⟩ := List.mem_iff_getElem?.mp z
    obtain ⟨r, us, e, _⟩ : ∃ r, RowL K H b r := by
      have := pr_getl h2.rows hi
      obtain ⟨r, _, q⟩ := this
      exact ⟨r, q⟩
    rw [hb0] at e
    cases e
  have hb1 : H1 b = none := by
    cases e : H1 b with
    | none => rfl
    | some o =>
      have e2 := rem_same _ _ (h1 _ _ e)
      rw [hb0] at e2
      cases e2
  refine ⟨_, h24.out, Evl.sz_lt (by rw [List.length_map]; omega), ?_, ads ++ [b], ⟨?_, ?_, ?_, ?_⟩, ?_⟩
  · rw [rem_upd]
    exact h1.trans (rem_mono s4)
  · rw [upd_same, List.map_append]
    rfl
  · exact List.nodup_append.mpr ⟨h2.nd, by simp, fun x hx y hy => by
      have : y = b := by simpa using hy
      subst this
      exact fun z => hbm (z ▸ hx)⟩
  · intro z
    rcases List.mem_append.mp z with z | z
    · exact h2.ne z
    · exact hbD (by simpa using z : D = b).symm
  · rw [List.range_succ, List.map_append]
    exact pr_app (pr_mono' h24.rows fun a r hm z => z.upd h24.out fun y => h2.ne (y ▸ hm)) (.cons (r4.upd h24.out hbD) .nil)
  · intro x hx
    rcases List.mem_append.mp hx with z | z
    · exact h3 x z
    · have : x = b := by simpa using z
      rw [this]
      exact hb1
section
variable {Qd : Hp → Prop} (hD : H1 D = none) (hz : xs.length < 100000)
    (hs : ∀ (i : Nat) (x : V) (H : Hp), xs[i]? = some x → Same H1 (rem D H) → LmS K g te σ vs G i x H)
    (hd : ∀ (H : Hp) (ads : List Addr), Same H1 (rem D H) → Mat K H D ads ((List.range xs.length).map G) → (∀ a ∈ ads, H1 a = none) → Qd H)
include hD hz hs hd
theorem lm_L (hx : SqL K H1 a xs) : LcG (Itl K a) g te vs σ H1 D Qd :=
  lc_list (K := K) (a := a) (xs := xs) (Qd := Qd) (LmP K H1 D G) (lmP_zero hD) (fun i H _ p => sqL_mono (p.1.trans rem_same) hx)
    (fun i x H hi p => lmS_step hD (by have := (List.getElem?_eq_some_iff.mp hi).1; omega) p (hs i x H hi p.1)) (fun H ⟨h1, ads, h2, h3⟩ => hd H ads h1 h2 h3)
theorem lm_T (hx : SqT K H1 a xs) : LcG (Itt K a) g te vs σ H1 D Qd :=
  lc_tup (K := K) (a := a) (xs := xs) (Qd := Qd) (LmP K H1 D G) (lmP_zero hD) (fun i H _ p => sqT_mono (p.1.trans rem_same) hx)
    (fun i x H hi p => lmS_step hD (by have := (List.getElem?_eq_some_iff.mp hi).1; omega) p (hs i x H hi p.1)) (fun H ⟨h1, ads, h2, h3⟩ => hd H ads h1 h2 h3)
end
theorem lm_S {Qd : Addr → Hp → Prop} (hx : SqS K H1 a xs) (hz : xs.length < 100000)
    (hs : ∀ D, H1 D = none → ∀ (i : Nat) (x : V) (H : Hp), xs[i]? = some x → Same H1 (rem D H) → LmS K g te σ vs G i x H)
    (hd : ∀ D, H1 D = none → ∀ (H : Hp) (ads : List Addr), Same H1 (rem D H) → Mat K H D ads ((List.range xs.length).map G) → (∀ a ∈ ads, H1 a = none) → Qd D H) :
    ((∃ xs, SqL K H1 a xs) ∧ ∀ D, H1 D = none → LcG (Itl K a) g te vs σ H1 D (Qd D)) ∨ ((∃ xs, SqT K H1 a xs) ∧ ∀ D, H1 D = none → LcG (Itt K a) g te vs σ H1 D (Qd D)) := by
  rcases hx with hx | hx
  · exact .inl ⟨⟨_, hx⟩, fun D hD => lm_L (Qd := Qd D) hD hz (hs D hD) (hd D hD) hx⟩
  · exact .inr ⟨⟨_, hx⟩, fun D hD => lm_T (Qd := Qd D) hD hz (hs D hD) (hd D hD) hx⟩
theorem lm_R {Qd : Addr → Hp → Prop} {lo : Int} {n : Nat} (hz : n < 100000)
    (hs : ∀ D, H1 D = none → ∀ (i : Nat) (H : Hp), i < n → Same H1 (rem D H) → LmS K g te σ vs G i (.int (lo + i)) H)
    (hd : ∀ D, H1 D = none → ∀ (H : Hp) (ads : List Addr), Same H1 (rem D H) → Mat K H D ads ((List.range n).map G) → (∀ a ∈ ads, H1 a = none) → Qd D H) :
    ∀ D, H1 D = none → LcG (Itr lo n) g te vs σ H1 D (Qd D) := fun D hD =>
  lc_range (Qd := Qd D) (LmP K H1 D G) (lmP_zero hD) (fun i H hi p => lmS_step hD (by omega) p (hs D hD i H hi p.1)) (fun H ⟨h1, ads, h2, h3⟩ => hd D hD H ads h1 h2 h3)
end
theorem map_range {R : List (List Rat)} : (List.range R.length).map (fun i => R.getD i []) = R := by
  refine List.ext_getElem? fun i => ?_
  rw [List.getElem?_map]
  by_cases h : i < R.length
  · rw [List.getElem?_range h, List.getElem?_eq_getElem h]
    simp [List.getD_eq_getElem?_getD, List.getElem?_eq_getElem h]
  · rw [List.getElem?_eq_none (by simp; omega), List.getElem?_eq_none (by omega)]
    rfl
end MU
namespace MU
open PySem PySem.Spec PyProof.Rows L2 He MM
def nD (q : Rat) : PyData := .tuple [.int q.num, .int (q.den : Int)]
def rD (r : List Rat) : PyData := .tuple (r.map nD)
def tD (R : List (List Rat)) : PyData := .tuple (R.map rD)
theorem can_all {α : Type} {f : α → PyData} : ∀ l : List α, (∀ x ∈ l, (f x).canLay0 = true) → PyData.canLayAll0 (l.map f) = true
  | [], _ => by rfl
  | x :: l, h => by
    show PyData.canLayAll0 (f x :: l.map f) = true
    rw [PyData.canLayAll0, h x List.mem_cons_self, can_all l fun y hy => h y (List.mem_cons_of_mem _ hy)]
    rfl
theorem dep_all {α : Type} {f : α → PyData} {d : Nat} : ∀ l : List α, (∀ x ∈ l, (f x).depth ≤ d) → PyData.depthAll (l.map f) ≤ d
  | [], _ => Nat.zero_le _
  | x :: l, h => by
    show PyData.depthAll (f x :: l.map f) ≤ d
    rw [PyData.depthAll]
    exact Nat.max_le.mpr ⟨h x List.mem_cons_self, dep_all l fun y hy => h y (List.mem_cons_of_mem _ hy)⟩
theorem can_nD (q : Rat) : (nD q).canLay0 = true := rfl
theorem dep_nD (q : Rat) : (nD q).depth ≤ 1 := Nat.le_refl _
theorem can_rD (r : List Rat) : (rD r).canLay0 = true := can_all r fun _ _ => can_nD _
theorem dep_rD (r : List Rat) : (rD r).depth ≤ 2 := Nat.succ_le_succ (dep_all r fun _ _ => dep_nD _)
theorem can_tD (R : List (List Rat)) : (tD R).canLay0 = true := can_all R fun _ _ => can_rD _
theorem dep_tD (R : List (List Rat)) : (tD R).depth ≤ 3 := Nat.succ_le_succ (dep_all R fun _ _ => dep_rD _)
theorem shaped_of {d : PyData} (h1 : d.canLay0 = true) (h2 : d.depth ≤ 3) : SeqAt.shaped d = true := by
  unfold SeqAt.shaped
  rw [h1, decide_eq_true (by omega)]
  rfl
section
variable {K : PySem.W.Frag} {H : Hp} {x y : V} {q : Rat} {r : List Rat} {R : List (List Rat)} {Q : VK}
theorem dp_num (h : Num K H x q) : Dp K H x (nD q) := let ⟨_, e, hp⟩ := h; e ▸ .tup hp (.cons (.int _) (.cons (.int _) .nil))
theorem dp_all {α : Type} {F : V → α → Prop} {f : α → PyData} (hF : ∀ v a, F v a → Dp K H v (f a)) : ∀ {vs : List V} {l : List α}, Paired F vs l → DpAll K H vs (l.map f)
  | _, _, .nil => .nil
  | _, _, .cons h t => .cons (hF _ _ h) (dp_all hF t)
theorem dp_row (h : RowT K H x r) : Dp K H x (rD r) := let ⟨_, _, e, hp, n⟩ := h; e ▸ .tup hp (dp_all (fun _ _ z => dp_num z) n)
theorem dp_tab (h : TabT K H x R) : Dp K H x (tD R) := let ⟨_, _, e, hp, n⟩ := h; e ▸ .tup hp (dp_all (fun _ _ z => dp_row z) n)
theorem eq_num (h1 : Num K H x q) (h2 : Num K H y q) (k : Q (.bl true) H) : rEqD K x y H Q :=
  ⟨nD q, nD q, dp_num h1, dp_num h2, shaped_of (can_nD q) (Nat.le_trans (dep_nD q) (by decide)), shaped_of (can_nD q) (Nat.le_trans (dep_nD q) (by decide)), by rw [PySem.SeqAt.eqv_refl _ (can_nD q)]; exact k⟩
theorem eq_tab (h1 : TabT K H x R) (h2 : TabT K H y R) (k : Q (.bl true) H) : rEqD K x y H Q :=
  ⟨tD R, tD R, dp_tab h1, dp_tab h2, shaped_of (can_tD R) (dep_tD R), shaped_of (can_tD R) (dep_tD R), by rw [PySem.SeqAt.eqv_refl _ (can_tD R)]; exact k⟩
theorem ne_num (h1 : Num K H x q) (h2 : Num K H y q) (k : Q (.bl false) H) : rNeD K x y H Q :=
  ⟨nD q, nD q, dp_num h1, dp_num h2, shaped_of (can_nD q) (Nat.le_trans (dep_nD q) (by decide)), shaped_of (can_nD q) (Nat.le_trans (dep_nD q) (by decide)), by rw [PySem.SeqAt.eqv_refl _ (can_nD q)]; exact k⟩
theorem ne_row (h1 : RowT K H x r) (h2 : RowT K H y r) (k : Q (.bl false) H) : rNeD K x y H Q :=
  ⟨rD r, rD r, dp_row h1, dp_row h2, shaped_of (can_rD r) (Nat.le_trans (dep_rD r) (by decide)), shaped_of (can_rD r) (Nat.le_trans (dep_rD r) (by decide)), by rw [PySem.SeqAt.eqv_refl _ (can_rD r)]; exact k⟩
end
theorem units_of {k : Nat} {A : Around} (hr : Room k A) : A.units + 64 < cLine := by
  have := hr.un
  omega
def RTab (K : PySem.W.Frag) : Addr → Addr → Hp → Prop := fun a b H => ∃ n R, Tbl K H (.ref a) n R ∧ Tbl K H (.ref b) n R
theorem op_eqTab {X : Cx} {k : Nat} {ps : List Str} (F : Fm X.prog X.w X.K X.mg X.base k "__eq__" ps (spEq (RTab X.K))) (hr : Room k X.A) : OpR X (compareOp .Eq) (rEqG (DIns (cTab X.K) (RTab X.K))) := by
  obtain ⟨fd, G, b, hM⟩ := F.ex
  exact op_eqG (rcG_ins G hM.at_ hM.fn b pass0) hr
theorem eq_tbl {K : PySem.W.Frag} {H : Hp} {x y : V} {n : Nat} {R : List (List Rat)} {Q : VK} (h1 : Tbl K H x n R) (h2 : Tbl K H y n R) (k : ∀ H', Same H H' → Q (.bl true) H') : rEqG (DIns (cTab K) (RTab K)) x y H Q := by
  obtain ⟨⟨p, dx, rv, rfl, hp, ht⟩, c⟩ := id h1
  obtain ⟨⟨p2, dx2, rv2, rfl, hp2, ht2⟩, c2⟩ := id h2
  exact ⟨⟨p, p2, dx, dx2, _, _, rfl, rfl, hp, hp2, n, R, h1, h2⟩, k⟩
def rInvT (K : PySem.W.Frag) (sp : Sp) : V → Hp → VK → Prop := fun x H Q => ∃ a dx fs, x = .ref a ∧ H a = some (.ins (cTab K) dx fs) ∧ sp [x] H Q E0
theorem un_inv_tab {X : Cx} {k : Nat} {ps : List Str} {sp : Sp} (F : Fm X.prog X.w X.K X.mg X.base k "__invert__" ps sp) (T : Txt X.prog X.K X.mg X.base) (hr : Room k X.A) : UnR X (unaryOp .Invert) (rInvT X.K sp) := by
  intro pins s σ H x v Q I rx h
  obtain ⟨a, dx, fs, rfl, ha, q⟩ := h
  obtain rfl : v = .ref a := rx
  obtain ⟨fd, G, b, hM⟩ := F.ex
  obtain ⟨mA, J, _⟩ := ins_get I.hok ha
  obtain ⟨od, J, _⟩ := J.look
  obtain ⟨m, hF⟩ := I.fr
  refine PySem.W.ksp_inv hF I.ok.mod.kin J hM.at_ hM.fn ?_
  exact run_fn (us := [.ref a]) (vs := [.ref a]) G hr b .nil pass0 I (.cons rfl .nil) q
theorem catT {K : PySem.W.Frag} {H : Hp} {a b : Addr} {xs ys : List V} {Q : VK} (h1 : SqT K H a xs) (h2 : SqT K H b ys) (hz : xs.length + ys.length ≤ 1000) (k : ∀ p' H', Same H H' → SqT K H' p' (xs ++ ys) → Q (.ref p') H') : rCatA K (.ref a) (.ref b) H Q := by
  refine ⟨a, b, xs, ys, rfl, rfl, h1, h2, Nat.le_of_lt (Evl.sz_lt (by omega)), fun e => ?_, fun _ e => ?_, fun _ _ p hp => k p _ (same_new hp) (SqT.of upd_same)⟩
  · subst e
    exact k b H (Same.refl _) h2
  · subst e
    exact k a H (Same.refl _) (by rw [List.append_nil]; exact h1)
section
variable {K : PySem.W.Frag} {a b : Addr} {xs ys : List V} {g : TG} {te : TE} {vs : List Nat} {σ : L2.St} {H1 : Hp} {D : Addr} {Qd : Hp → Prop}
theorem lcP_mono {R : Nat → V → Hp → Prop} (hR : ∀ i v H H', Same H H' → R i v H → R i v H') {i : Nat} {H H' : Hp} (s : Same H H') (p : LcP H1 D R i H) : LcP H1 D R i H' := by
  obtain ⟨h1, zs, h2, h3, h4⟩ := p
  exact ⟨h1.trans (rem_mono s), zs, s _ _ h2, h3, fun j y e => hR _ _ _ _ (rem_mono s) (h4 j y e)⟩
theorem lc_zipT (hl : xs.length = ys.length) (hx : SqT K H1 a xs) (hy : SqT K H1 b ys) (hD : H1 D = none) (hz : xs.length < 100000) (R : Nat → V → Hp → Prop) (hR : ∀ i v H H', Same H H' → R i v H → R i v H')
    (hs : ∀ (i : Nat) (x y : V) (T : Addr) (H : Hp), xs[i]? = some x → ys[i]? = some y → Same H1 (rem D H) → (∃ acc, H D = some (.lst acc)) → H T = some (.tup [x, y]) → LcS g te σ vs D R i (.ref T) H)
    (hd : ∀ (H : Hp) (zs : List V), Same H1 (rem D H) → H D = some (.lst zs) → zs.length = xs.length → (∀ (i : Nat) (y : V), zs[i]? = some y → R i y (rem D H)) → Qd H) : LcG (RZ.ItzT K a b) g te vs σ H1 D Qd := by
  refine ⟨fun i m H => m = xs.length - i ∧ i ≤ xs.length ∧ LcP H1 D R i H, ⟨xs.length, by simp, Nat.zero_le _, lcP_zero hD⟩, ?_⟩
  rintro i m H ⟨rfl, hi, p⟩
  have qx : SqT K H a xs := sqT_mono (p.1.trans rem_same) hx
  have qy : SqT K H b ys := sqT_mono (p.1.trans rem_same) hy
  by_cases hlt : i < xs.length
  · have ex : xs[i]? = some xs[i] := List.getElem?_eq_getElem hlt
    have ey : ys[i]? = some (ys[i]'(by omega)) := List.getElem?_eq_getElem (by omega)
    refine .inr ⟨⟨xs, ys, _, _, qx, qy, ex, ey⟩, LcP H1 D R (i + 1), fun H' p' => ⟨xs.length - (i + 1), by omega, rfl, hlt, p'⟩, fun v H' y => ?_⟩
    obtain ⟨T, x1, y1, rfl, hT, rfl, f1, f2⟩ := y
    have e1 := f1 xs qx
    have e2 := f2 ys qy
    have s1 : Same H (upd H T (.tup [x1, y1])) := same_new hT
    have p' := lcP_mono hR s1 p
    exact lcS_step hR (by omega) p' (hs i x1 y1 T _ e1 e2 p'.1 (let ⟨_, zs, h, _⟩ := p'; ⟨zs, h⟩) upd_same)
  · have e : i = xs.length := by omega
    subst e
    refine .inl ⟨⟨xs, ys, qx, qy, .inl (Nat.le_refl _)⟩, ?_⟩
    obtain ⟨h1, zs, h2, h3, h4⟩ := p
    exact hd H zs h1 h2 h3 h4
end
end MU
namespace PySem
open Sem (wp)
theorem zz_tc (us : List Value) : checkTypeCall "zip" ⟨us, []⟩ = pure () := by kernel_rfl
theorem zz_nc : ∀ (us : List Value), us.length ≤ 12 → checkBuiltinCall "zip.__new__" ⟨.type "zip" :: us, []⟩ = pure ()
  | [], _ => by kernel_rfl
  | [a0], _ => by kernel_rfl
  | [a0, a1], _ => by kernel_rfl
  | [a0, a1, a2], _ => by kernel_rfl
  | [a0, a1, a2, a3], _ => by kernel_rfl
  | [a0, a1, a2, a3, a4], _ => by kernel_rfl
  | [a0, a1, a2, a3, a4, a5], _ => by kernel_rfl
  | [a0, a1, a2, a3, a4, a5, a6], _ => by kernel_rfl
  | [a0, a1, a2, a3, a4, a5, a6, a7], _ => by kernel_rfl
  | [a0, a1, a2, a3, a4, a5, a6, a7, a8], _ => by kernel_rfl
  | [a0, a1, a2, a3, a4, a5, a6, a7, a8, a9], _ => by kernel_rfl
  | [a0, a1, a2, a3, a4, a5, a6, a7, a8, a9, a10], _ => by kernel_rfl
  | [a0, a1, a2, a3, a4, a5, a6, a7, a8, a9, a10, a11], _ => by kernel_rfl
  | _ :: _ :: _ :: _ :: _ :: _ :: _ :: _ :: _ :: _ :: _ :: _ :: _ :: _, h => absurd h (by simp)
theorem zz_oi (a : Value) (us : List Value) : argsOk "object.__init__" ⟨a :: us, []⟩ := by
  unfold argsOk; rw [signature?_of (id := "object.__init__") (n := ['_', '_', 't', 'i', 'n', 'i', '_', '_']) (o := ['t', 'c', 'e', 'j', 'b', 'o']) (by kernel_rfl) F.owner_object]; kernel_rfl
theorem zz_len : typeLookup (.type "zip") "__len__" = pure none := by rw [typeLookup_type, builtinLookup_eq_fast]; kernel_rfl
theorem zz_hint : typeLookup (.type "zip") "__length_hint__" = pure none := by rw [typeLookup_type, builtinLookup_eq_fast]; kernel_rfl
theorem zz_cls (us : List Value) : Builtin.SmallTypes.newClass "zip" ⟨.type "zip" :: us, []⟩ = pure (.type "zip", us) := by
  unfold Builtin.SmallTypes.newClass
  simp only [isType, sub_zip, pure_bind, Bool.not_true, Bool.false_eq_true, if_false]
abbrev zzIts (b m : Nat) : List Value := (List.range m).map fun j => Value.ref (b + j)
abbrev zzO (b m : Nat) (f0 : Value) (f1 : Bool) : Obj := { cls := .type "zip", dict := none, data := .fields #[f0, .bool f1, .bool false, .ref (b + m), .ref (b + m + 1)], slots := #[] }
structure ZZ (h : Heap) (b : Nat) (ls : List Addr) (i : Nat) (f0 : Value) (f1 : Bool) : Prop where
  z : h.get? (b + ls.length + 2) = some (zzO b ls.length f0 f1)
  ti : h.get? (b + ls.length) = some { cls := .type "tuple", data := .seq (zzIts b ls.length).toArray }
  to : ∃ kept : Array Value, kept.size = ls.length ∧ h.get? (b + ls.length + 1) = some { cls := .type "tuple", data := .seq kept }
  its : ∀ (j : Nat) l, ls[j]? = some l → h.IsTupleIter (b + j) l i
structure ZX (h : Heap) (b : Nat) (ls : List Addr) (X : Nat → Array Value) (n : Nat) : Prop where
  tup : ∀ (j : Nat) l, ls[j]? = some l → h.IsTuple l (X j) ∧ l < b
  sz : ∀ j, j < ls.length → (X j).size = n
def zzCol (X : Nat → Array Value) (m i : Nat) : List Value := (List.range m).map fun j => (X j).getD i .none
section
variable {prog : Program} {w : World} {A : Around} {E : Value → Shared → Prop} {s : Shared} {b n i : Nat} {ls : List Addr} {X : Nat → Array Value}
theorem zz_sz {k : Nat} (h : k ≤ 1000) : k ≤ sizeLine := Nat.le_of_lt (Evl.sz_lt (by omega))
theorem zzIts_len (b m : Nat) : (zzIts b m).length = m := by simp
theorem zzIts_at {b m j : Nat} (h : j < m) : (zzIts b m)[j]? = some (.ref (b + j)) := by simp [List.getElem?_map, List.getElem?_range h]
theorem zz_new (hm : ls.length ≤ 12) : MeetsIn prog w (Builtin.«zip.__new__» ⟨.type "zip" :: ls.map Value.ref, []⟩) (fun A R s => ZX s.heap s.heap.objs.size ls X n ∧
      ∀ h', ZZ h' s.heap.objs.size ls 0 .none false → h'.objs.size = s.heap.objs.size + ls.length + 3 → (∀ c o, s.heap.get? c = some o → h'.get? c = some o) → R (.ok (.ret (.ref (s.heap.objs.size + ls.length + 2)))) { s with heap := h' }) :=
  .of_wp fun A R s ⟨hx, h⟩ => by
    unfold Builtin.«zip.__new__»
    refine wpAny_bind (wpAny_of_eq (zz_cls _) ?_)
    try dsimp only
    rw [if_neg (show ¬ (([] : List (Str × Value)).length > 1) from Nat.not_lt_zero _)]
    show wpAny _ _ (Builtin.SmallTypes.iterAll (ls.map Value.ref) >>= _) _ _ _
    refine wpAny_bind ?_
    unfold Builtin.SmallTypes.iterAll
    refine wpAny_bind ?_
    refine wpAny_forIn_list _ (fun rest bb s' => ∃ k h', rest = (ls.map Value.ref).drop k ∧ k ≤ ls.length ∧ bb.toList = zzIts s.heap.objs.size k ∧ s' = { s with heap := h' } ∧ h'.objs.size = s.heap.objs.size + k ∧
      (∀ c o, s.heap.get? c = some o → h'.get? c = some o) ∧ ∀ (j : Nat) l, j < k → ls[j]? = some l → h'.IsTupleIter (s.heap.objs.size + j) l 0) _ ?_ ?_ _ _ ⟨0, s.heap, rfl, Nat.zero_le _, rfl, rfl, rfl, fun c o e => e, fun j l hj => absurd hj (Nat.not_lt_zero _)⟩
    · rintro x rest bb s' ⟨k, h', e1, e2, e3, rfl, e5, e6, e7⟩
      have hk : k < ls.length := by
        refine Nat.lt_of_not_le fun z => ?_
        rw [List.drop_of_length_le (by rw [List.length_map]; exact z)] at e1
        cases e1
      rw [List.drop_eq_getElem_cons (by rw [List.length_map]; exact hk)] at e1
      injection e1 with ex er
      rw [List.getElem_map] at ex
      subst ex
      have hl : ls[k]? = some ls[k] := List.getElem?_eq_getElem hk
      obtain ⟨o, ho, t1⟩ := (hx.tup k _ hl).1
      refine wpAny_bind (wpAny_holding (wpAny_pyIter_tuple (items := X k) ⟨o, e6 _ _ ho, t1⟩ ?_))
      refine wpAny_pure ⟨k + 1, _, er, hk, ?_, rfl, ?_, fun c o e => Heap.get?_push_of_some _ (e6 c o e), fun j l hj hjl => ?_⟩
      · show (bb.push _).toList = _
        rw [Array.toList_push, e3, e5]
        simp [zzIts, List.range_succ]
      · show (h'.push _).objs.size = _
        rw [Heap.size_push, e5]
        rfl
      · by_cases hjk : j = k
        · subst hjk
          rw [hl] at hjl
          cases hjl
          have g := Heap.get?_push_size h' (o := { cls := .type "tuple_iterator", data := .fields #[.ref ls[j], .int 0 0] }) rfl
          rw [e5] at g
          exact ⟨_, g, rfl, rfl⟩
        · exact (e7 j l (by omega) hjl).at fun o e => Heap.get?_push_of_some _ e
    · rintro bb s' ⟨k, h', e1, e2, e3, rfl, e5, e6, e7⟩
      have hk : k = ls.length := by
        have := congrArg List.length e1
        simp at this
        omega
      subst hk
      refine wpAny_pure ?_
      rw [e3]
      refine wpAny_bind (wpAny_newTuple ?_ (zz_sz (by rw [zzIts_len]; omega)))
      refine wpAny_bind (wpAny_newTuple ?_ (zz_sz (by rw [List.length_map, zzIts_len]; omega)))
      have z1 : (h'.push { cls := .type "tuple", data := .seq (zzIts s.heap.objs.size ls.length).toArray }).objs.size = s.heap.objs.size + ls.length + 1 := by rw [Heap.size_push, e5]
      simp only [e5, z1]
      show wpAny _ _ (newObj (.type "zip") (.fields #[.none, .bool false, .bool false, .ref (s.heap.objs.size + ls.length), .ref (s.heap.objs.size + ls.length + 1)]) >>= _) _ _ _
      refine wpAny_bind (wpAny_newObj_type ?_)
      refine wpAny_pure ⟨_, rfl, ?_⟩
      generalize hH2 : h'.push { cls := .type "tuple", data := .seq (zzIts s.heap.objs.size ls.length).toArray } = H2 at z1
      have g1 : H2.get? (s.heap.objs.size + ls.length) = some { cls := .type "tuple", data := .seq (zzIts s.heap.objs.size ls.length).toArray } := by
        rw [← hH2, ← e5]
        exact Heap.get?_push_size _ rfl
      have k2 : ∀ c o, h'.get? c = some o → H2.get? c = some o := fun c o e => by rw [← hH2]; exact Heap.get?_push_of_some _ e
      generalize hH3 : H2.push { cls := .type "tuple", data := .seq (List.map (fun x => Value.none) (zzIts s.heap.objs.size ls.length)).toArray } = H3
      have z2 : H3.objs.size = s.heap.objs.size + ls.length + 2 := by rw [← hH3, Heap.size_push, z1]
      have g2 : H3.get? (s.heap.objs.size + ls.length + 1) = some { cls := .type "tuple", data := .seq (List.map (fun x => Value.none) (zzIts s.heap.objs.size ls.length)).toArray } := by
        rw [← hH3, ← z1]
        exact Heap.get?_push_size _ rfl
      have k3 : ∀ c o, H2.get? c = some o → H3.get? c = some o := fun c o e => by rw [← hH3]; exact Heap.get?_push_of_some _ e
      show R (.ok (.ret (.ref H3.objs.size))) _
      have g3 := Heap.get?_push_size H3 (o := zzO s.heap.objs.size ls.length .none false) rfl
      rw [z2] at g3 ⊢
      refine h _ ⟨g3, Heap.get?_push_of_some _ (k3 _ _ g1), ⟨_, by simp, Heap.get?_push_of_some _ g2⟩, fun j l hj => ?_⟩ (by rw [Heap.size_push, z2]) fun c o e => Heap.get?_push_of_some _ (k3 _ _ (k2 _ _ (e6 _ _ e)))
      exact (e7 j l (List.getElem?_eq_some_iff.mp hj).1 hj).at fun o e => Heap.get?_push_of_some _ (k3 _ _ (k2 _ _ e))
theorem call_zz {Q : Value → Shared → Prop} (hm : ls.length ≤ 12) (hx : ZX s.heap s.heap.objs.size ls X n)
    (h : ∀ h', ZZ h' s.heap.objs.size ls 0 .none false → h'.objs.size = s.heap.objs.size + ls.length + 3 → (∀ c o, s.heap.get? c = some o → h'.get? c = some o) → Q (.ref (s.heap.objs.size + ls.length + 2)) { s with heap := h' }) :
    wpAny (model prog w) A (call (.type "zip") (ls.map Value.ref)) Q E s :=
  callType_newIn F.called_zip (by decide) (zz_tc _) (zz_nc _ (by rw [List.length_map]; exact hm)) (fun obj => zz_oi obj _) F.entry_zip_new (zz_new hm) ⟨hx, fun h' a b c => ⟨⟨_, a.z, rfl⟩, h h' a b c⟩⟩
theorem zz_iter {m : Nat} {f0 : Value} {f1 : Bool} {Q : Value → Shared → Prop} (hz : s.heap.get? (b + m + 2) = some (zzO b m f0 f1)) (h : Q (.ref (b + m + 2)) s) : wpAny (model prog w) A (pyIter (.ref (b + m + 2))) Q E s := by
  have hT : s.TypeIs (.ref (b + m + 2)) "zip" := ⟨_, hz, rfl⟩
  refine wpAny_pyIter_slot hT F.slot_zip_iter (wpAny_call_entry F.slot_zip_iter hT F.entry_zip_iter ?_ (F.args_zip_iter_1 _))
  show wpAny _ _ (ret (.ref (b + m + 2))) _ _ s
  exact wpAny_pure ⟨_, rfl, "zip", _, hT, F.slot_zip_next.lookup, h⟩
theorem zz_ne (h0 : 0 < ls.length) : (zzIts b ls.length).toArray.isEmpty = false := by
  have h : (zzIts b ls.length).toArray.size = ls.length := by simp
  show decide ((zzIts b ls.length).toArray.size = 0) = false
  rw [h]
  exact decide_eq_false (by omega)
theorem ad_ne {x y : Nat} (h : x ≠ y) : @Ne Addr x y := h
structure ZK (h0 : Heap) (b : Nat) (ls : List Addr) (i k : Nat) (h : Heap) : Prop where
  sz : h.objs.size = h0.objs.size
  kp : ∀ (c : Nat) o, (c < b ∨ b + ls.length ≤ c) → h0.get? c = some o → h.get? c = some o
  its : ∀ (j : Nat) l, ls[j]? = some l → h.IsTupleIter (b + j) l (if j < k then i + 1 else i)
theorem ZK.next {h0 h h' : Heap} {k : Nat} {l : Addr} (Z : ZK h0 b ls i k h) (hk : ls[k]? = some l) (h1 : h'.IsTupleIter (b + k) l (i + 1)) (sb : Heap.SameBut (b + k) h h') : ZK h0 b ls i (k + 1) h' := by
  have hlt := (List.getElem?_eq_some_iff.mp hk).1
  refine ⟨sb.1.trans Z.sz, fun c o hc e => sb.extBut _ _ (ad_ne (by omega)) (Z.kp c o hc e), fun j l' hj => ?_⟩
  by_cases hjk : j = k
  · subst hjk
    rw [hk] at hj
    cases hj
    rw [if_pos (Nat.lt_succ_self _)]
    exact h1
  · have e := (Z.its j l' hj).extBut sb.extBut (ad_ne (by omega))
    by_cases hlt2 : j < k
    · rw [if_pos hlt2] at e
      rw [if_pos (show j < k + 1 by omega)]
      exact e
    · rw [if_neg hlt2] at e
      rw [if_neg (show ¬ j < k + 1 by omega)]
      exact e
theorem zz_drop {k : Nat} {x : Value} {rest : List Value} {m : Nat} (h : x :: rest = (zzIts b m).drop k) : k < m ∧ x = .ref (b + k) ∧ rest = (zzIts b m).drop (k + 1) := by
  have hk : k < m := by
    refine Nat.lt_of_not_le fun z => ?_
    rw [List.drop_of_length_le (by rw [zzIts_len]; exact z)] at h
    cases h
  rw [List.drop_eq_getElem_cons (by rw [zzIts_len]; exact hk)] at h
  injection h with h1 h2
  refine ⟨hk, ?_, h2⟩
  rw [h1]
  simp
theorem zz_col_succ {k : Nat} : zzCol X (k + 1) i = zzCol X k i ++ [(X k).getD i .none] := by simp [zzCol, List.range_succ]
theorem zz_get {k : Nat} (hi : i < (X k).size) : (X k)[i]? = some ((X k).getD i .none) := by
  simp [Array.getD, hi]
theorem zz_next_held (h0 : 0 < ls.length) (hm : ls.length ≤ 12) (hx : ZX s.heap b ls X n) {T : Nat} {f1 : Bool} {oT : Obj} (hz : ZZ s.heap b ls i (rawInt T) f1) (hT : s.heap.get? T = some oT) (hi : i < n) (hb : b + ls.length + 3 ≤ s.heap.objs.size) {Q : Value → Shared → Prop}
    (hQ : ∀ h', ZZ h' b ls (i + 1) (rawInt T) true → h'.objs.size = s.heap.objs.size + 1 → h'.get? s.heap.objs.size = some { cls := .type "tuple", data := .seq (zzCol X ls.length i).toArray } →
      (∀ (c : Nat) o, (c < b ∨ b + ls.length + 3 ≤ c) → s.heap.get? c = some o → h'.get? c = some o) → Q (.ref s.heap.objs.size) { s with heap := h' }) :
    wpAny (model prog w) A (Builtin.«zip.__next__» ⟨[.ref (b + ls.length + 2)], []⟩) (fun fin s' => ∃ v, fin = .done (.ret v) ∧ Q v s') E s := by
  show wpAny _ _ (field (.ref (b + ls.length + 2)) 2 >>= _) _ _ _
  refine wpAny_bind (wpAny_field hz.z rfl (x := .bool false) rfl ?_)
  show wpAny _ _ (field (.ref (b + ls.length + 2)) 3 >>= _) _ _ _
  refine wpAny_bind (wpAny_field hz.z rfl (x := .ref (b + ls.length)) rfl ?_)
  refine wpAny_bind (wpAny_seqItems hz.ti rfl ?_)
  simp only [zz_ne h0]
  show wpAny _ _ (Builtin.SmallTypes.ownedTupleIsFree (.ref (b + ls.length + 2)) >>= _) _ _ _
  refine wpAny_bind (wpAny_tupleHeld_zip hz.z hT fun h₁ hz₁ hs₁ => ?_)
  simp only [Bool.false_eq_true, if_false]
  refine wpAny_bind ?_
  rw [← Array.forIn_toList]
  refine wpAny_forIn_list _ (fun rest bb s' => ∃ k h', rest = (zzIts b ls.length).drop k ∧ k ≤ ls.length ∧ bb.1 = none ∧ bb.2.toList = zzCol X k i ∧ s' = { s with heap := h' } ∧ ZK h₁ b ls i k h') _ ?_ ?_ _ _
    ⟨0, h₁, rfl, Nat.zero_le _, rfl, rfl, rfl, rfl, fun c o _ e => e, fun j l hj => by
      have := (List.getElem?_eq_some_iff.mp hj).1
      rw [if_neg (Nat.not_lt_zero _)]
      exact (hz.its j l hj).extBut hs₁.extBut (ad_ne (by omega))⟩
  · rintro x rest bb s' ⟨k, h', e1, e2, e3, e4, rfl, Z⟩
    obtain ⟨hk, rfl, er⟩ := zz_drop e1
    have hl : ls[k]? = some ls[k] := List.getElem?_eq_getElem hk
    obtain ⟨⟨o, ho, t1⟩, hlb⟩ := hx.tup k _ hl
    have hne : @Ne Addr ls[k] (b + ls.length + 2) := Nat.ne_of_lt (Nat.lt_of_lt_of_le hlb (by omega))
    have ht : h'.IsTuple ls[k] (X k) := ⟨o, Z.kp _ _ (.inl hlb) (hs₁.extBut _ _ hne ho), t1⟩
    have hit := Z.its k _ hl
    rw [if_neg (Nat.lt_irrefl _)] at hit
    refine wpAny_bind (wpAny_holding ?_)
    show wpAny _ _ (Builtin.SmallTypes.nextOf (.ref (b + k)) >>= _) _ _ _
    refine wpAny_bind (RZ.nextOf_tuple_item (s := { s with heap := h' }) hit ht (zz_get (by rw [hx.sz k hk]; exact hi)) fun h₂ h1₂ hs₂ => wpAny_pure ?_)
    exact wpAny_pure ⟨k + 1, h₂, er, hk, rfl, by rw [Array.toList_push, e4, zz_col_succ], rfl, Z.next hl h1₂ hs₂⟩
  · rintro ⟨b1, b2⟩ s' ⟨k, h', e1, e2, e3, e4, rfl, Z⟩
    have hk : k = ls.length := by
      have := congrArg List.length e1
      simp at this
      omega
    subst hk
    cases e3
    try dsimp only at e4 ⊢
    rw [e4]
    refine wpAny_bind (wpAny_newTuple ?_ (zz_sz (by simp [zzCol]; omega)))
    have esz : h'.objs.size = s.heap.objs.size := Z.sz.trans hs₁.1
    refine wpAny_pure ⟨_, rfl, ?_⟩
    show Q (.ref h'.objs.size) _
    have g := Heap.get?_push_size h' (o := { cls := .type "tuple", data := .seq (zzCol X ls.length i).toArray }) rfl
    have g2 : (h'.push { cls := .type "tuple", data := .seq (zzCol X ls.length i).toArray }).objs.size = h'.objs.size + 1 := Heap.size_push ..
    rw [esz] at g g2 ⊢
    refine hQ _ ⟨Heap.get?_push_of_some _ (Z.kp _ _ (.inr (by omega)) hz₁), Heap.get?_push_of_some _ (Z.kp _ _ (.inr (by omega)) (hs₁.extBut _ _ (ad_ne (by omega)) hz.ti)), ?_, fun j l hj => ?_⟩ g2 g fun c o hc e => Heap.get?_push_of_some _ (Z.kp c o (by omega) (hs₁.extBut _ _ (ad_ne (by omega)) e))
    · obtain ⟨kept, k1, k2⟩ := hz.to
      exact ⟨kept, k1, Heap.get?_push_of_some _ (Z.kp _ _ (.inr (by omega)) (hs₁.extBut _ _ (ad_ne (by omega)) k2))⟩
    · have e := Z.its j l hj
      rw [if_pos (List.getElem?_eq_some_iff.mp hj).1] at e
      exact e.at fun o q => Heap.get?_push_of_some _ q
structure ZK1 (h0 : Heap) (b : Nat) (ls : List Addr) (X : Nat → Array Value) (i k : Nat) (h : Heap) : Prop where
  sz : h.objs.size = h0.objs.size
  kp : ∀ (c : Nat) o, (c < b ∨ (b + ls.length ≤ c ∧ c ≠ b + ls.length + 1)) → h0.get? c = some o → h.get? c = some o
  its : ∀ (j : Nat) l, ls[j]? = some l → h.IsTupleIter (b + j) l (if j < k then i + 1 else i)
  to : ∃ kept : Array Value, kept.size = ls.length ∧ kept.toList.take k = zzCol X k i ∧ h.get? (b + ls.length + 1) = some { cls := .type "tuple", data := .seq kept }
theorem zz_dropI {k k0 : Nat} {x : Value} {rest : List (Value × Nat)} {m : Nat} (h : (x, k0) :: rest = (zzIts b m).zipIdx.drop k) : k < m ∧ x = .ref (b + k) ∧ k0 = k ∧ rest = (zzIts b m).zipIdx.drop (k + 1) := by
  have hl : (zzIts b m).zipIdx.length = m := by simp
  have hk : k < m := by
    refine Nat.lt_of_not_le fun z => ?_
    rw [List.drop_of_length_le (by rw [hl]; exact z)] at h
    cases h
  rw [List.drop_eq_getElem_cons (by rw [hl]; exact hk)] at h
  injection h with h1 h2
  rw [List.getElem_zipIdx] at h1
  injection h1 with h3 h4
  refine ⟨hk, ?_, ?_, h2⟩
  · rw [h3]
    simp
  · rw [h4]
    simp
theorem set_take {kept : Array Value} {k : Nat} {v : Value} {c : List Value} (hk : k < kept.size) (h : kept.toList.take k = c) : (kept.setIfInBounds k v).toList.take (k + 1) = c ++ [v] := by
  rw [Array.toList_setIfInBounds, List.take_add_one, List.take_set, List.set_eq_of_length_le (by simp; omega), h]
  congr 1
  rw [List.getElem?_set, if_pos rfl, if_pos (by simpa using hk)]
  rfl
theorem zz_next_free (h0 : 0 < ls.length) (hm : ls.length ≤ 12) (hx : ZX s.heap b ls X n) (hz : ZZ s.heap b ls i .none false) (hi : i < n) (hb : b + ls.length + 3 ≤ s.heap.objs.size) {Q : Value → Shared → Prop}
    (hQ : ∀ h', ZZ h' b ls (i + 1) (rawInt s.heap.objs.size) false → h'.objs.size = s.heap.objs.size + 1 → h'.get? s.heap.objs.size = some { cls := .type "tuple", data := .seq (zzCol X ls.length i).toArray } →
      (∀ (c : Nat) o, (c < b ∨ b + ls.length + 3 ≤ c) → s.heap.get? c = some o → h'.get? c = some o) → Q (.ref s.heap.objs.size) { s with heap := h' }) :
    wpAny (model prog w) A (Builtin.«zip.__next__» ⟨[.ref (b + ls.length + 2)], []⟩) (fun fin s' => ∃ v, fin = .done (.ret v) ∧ Q v s') E s := by
  show wpAny _ _ (field (.ref (b + ls.length + 2)) 2 >>= _) _ _ _
  refine wpAny_bind (wpAny_field hz.z rfl (x := .bool false) rfl ?_)
  show wpAny _ _ (field (.ref (b + ls.length + 2)) 3 >>= _) _ _ _
  refine wpAny_bind (wpAny_field hz.z rfl (x := .ref (b + ls.length)) rfl ?_)
  refine wpAny_bind (wpAny_seqItems hz.ti rfl ?_)
  simp only [zz_ne h0]
  show wpAny _ _ (Builtin.SmallTypes.ownedTupleIsFree (.ref (b + ls.length + 2)) >>= _) _ _ _
  refine wpAny_bind ?_
  unfold Builtin.SmallTypes.ownedTupleIsFree
  refine wpAny_bind (wpAny_field hz.z rfl (x := .none) rfl (wpAny_pure ?_))
  simp only [if_true]
  refine wpAny_bind (wpAny_rule ?_)
  refine wpAny_bind (wpAny_field hz.z rfl (x := .ref (b + ls.length + 1)) rfl ?_)
  refine wpAny_bind (wpAny_setField_rec hz.z (by simp) fun h₁ hz₁ hs₁ => ?_)
  replace hz₁ : h₁.get? (b + ls.length + 2) = some (zzO b ls.length .ellipsis false) := hz₁
  refine wpAny_bind ?_
  obtain ⟨kept, kz, hto⟩ := hz.to
  refine wpAny_forIn_list _ (fun rest bb s' => ∃ k h', rest = (zzIts b ls.length).zipIdx.drop k ∧ k ≤ ls.length ∧ bb.1 = none ∧ s' = { s with heap := h' } ∧ ZK1 h₁ b ls X i k h') _ ?_ ?_ _ _
    ⟨0, h₁, rfl, Nat.zero_le _, rfl, rfl, rfl, fun c o _ e => e, fun j l hj => by
      have := (List.getElem?_eq_some_iff.mp hj).1
      rw [if_neg (Nat.not_lt_zero _)]
      exact (hz.its j l hj).extBut hs₁.extBut (ad_ne (by omega)), kept, kz, rfl, hs₁.extBut _ _ (ad_ne (by omega)) hto⟩
  · rintro ⟨x, k0⟩ rest bb s' ⟨k, h', e1, e2, e3, rfl, Z⟩
    obtain ⟨hk, rfl, rfl, er⟩ := zz_dropI e1
    have hl : ls[k0]? = some ls[k0] := List.getElem?_eq_getElem hk
    obtain ⟨⟨o, ho, t1⟩, hlb⟩ := hx.tup k0 _ hl
    have hne : @Ne Addr ls[k0] (b + ls.length + 2) := Nat.ne_of_lt (Nat.lt_of_lt_of_le hlb (by omega))
    have ht : h'.IsTuple ls[k0] (X k0) := ⟨o, Z.kp _ _ (.inl hlb) (hs₁.extBut _ _ hne ho), t1⟩
    have hit := Z.its k0 _ hl
    rw [if_neg (Nat.lt_irrefl _)] at hit
    obtain ⟨kp, z1, z2, z3⟩ := Z.to
    try dsimp only
    refine wpAny_bind (wpAny_onRaise ?_)
    show wpAny _ _ (Builtin.SmallTypes.nextOf (.ref (b + k0)) >>= _) _ _ _
    refine wpAny_bind (RZ.nextOf_tuple_item (s := { s with heap := h' }) hit ht (zz_get (by rw [hx.sz k0 hk]; exact hi)) fun h₂ h1₂ hs₂ => wpAny_pure ?_)
    have z4 : h₂.get? (b + ls.length + 1) = some { cls := .type "tuple", data := .seq kp } := hs₂.extBut _ _ (ad_ne (by omega)) z3
    refine wpAny_bind (wpAny_seqItems z4 rfl ?_)
    refine wpAny_bind (wpAny_updateSeq z4 rfl ?_ (zz_sz (by omega)) (by
      have h1 := zz_sz (k := (kp.setIfInBounds k0 ((X k0).getD i .none)).size) (by simp; omega)
      exact Nat.le_succ_of_le h1))
    refine wpAny_bind (wpAny_letGo (wpAny_pure ⟨k0 + 1, _, er, hk, rfl, rfl, ?_, fun c o hc e => ?_, fun j l' hj => ?_, kp.setIfInBounds k0 ((X k0).getD i .none), by simpa using z1, ?_, ?_⟩))
    · rw [(Heap.SameBut.update ..).1, hs₂.1]
      exact Z.sz
    · exact (Heap.get?_update_other _ _ (ad_ne (by omega))).trans (hs₂.extBut _ _ (ad_ne (by omega)) (Z.kp c o hc e))
    · have hjl := (List.getElem?_eq_some_iff.mp hj).1
      refine Heap.IsTupleIter.at (h := h₂) ?_ fun o q => (Heap.get?_update_other _ _ (ad_ne (by omega))).trans q
      by_cases hjk : j = k0
      · subst hjk
        rw [hl] at hj
        cases hj
        rw [if_pos (Nat.lt_succ_self _)]
        exact h1₂
      · have e := (Z.its j l' hj).extBut hs₂.extBut (ad_ne (by omega))
        by_cases hlt2 : j < k0
        · rw [if_pos hlt2] at e
          rw [if_pos (show j < k0 + 1 by omega)]
          exact e
        · rw [if_neg hlt2] at e
          rw [if_neg (show ¬ j < k0 + 1 by omega)]
          exact e
    · rw [zz_col_succ]
      exact set_take (by omega) z2
    · rw [Heap.get?_update_self _ z4 rfl]
      simp [Obj.mapSeq]
  · rintro ⟨b1, b2⟩ s' ⟨k, h', e1, e2, e3, rfl, Z⟩
    have hk : k = ls.length := by
      have := congrArg List.length e1
      simp at this
      omega
    subst hk
    cases e3
    try dsimp only
    obtain ⟨kp, z1, z2, z3⟩ := Z.to
    rw [List.take_of_length_le (by simpa using Nat.le_of_eq z1)] at z2
    refine wpAny_bind (wpAny_seqItems z3 rfl ?_)
    try dsimp only
    rw [z2]
    refine wpAny_bind (wpAny_newTuple ?_ (zz_sz (by simp [zzCol]; omega)))
    have esz : h'.objs.size = s.heap.objs.size := Z.sz.trans hs₁.1
    have g := Heap.get?_push_size h' (o := { cls := .type "tuple", data := .seq (zzCol X ls.length i).toArray }) rfl
    have g2 : (h'.push { cls := .type "tuple", data := .seq (zzCol X ls.length i).toArray }).objs.size = h'.objs.size + 1 := Heap.size_push ..
    have kq : ∀ c o, h'.get? c = some o → (h'.push { cls := .type "tuple", data := .seq (zzCol X ls.length i).toArray }).get? c = some o := fun c o e => Heap.get?_push_of_some _ e
    generalize h'.push { cls := .type "tuple", data := .seq (zzCol X ls.length i).toArray } = h₅ at g g2 kq ⊢
    show wpAny _ _ (Builtin.SmallTypes.ownedTupleHandOut (.ref (b + ls.length + 2)) (.ref h'.objs.size) >>= _) _ _ _
    refine wpAny_bind ?_
    unfold Builtin.SmallTypes.ownedTupleHandOut
    have hz₆ : h₅.get? (b + ls.length + 2) = some (zzO b ls.length .ellipsis false) := kq _ _ (Z.kp _ _ (.inr (by omega)) hz₁)
    refine wpAny_bind (wpAny_setField_rec hz₆ (by simp) fun h₇ hz₇ hs₇ => ?_)
    replace hz₇ : h₇.get? (b + ls.length + 2) = some (zzO b ls.length (rawInt h'.objs.size) false) := hz₇
    refine wpAny_setField_rec hz₇ (by simp) fun h₈ hz₈ hs₈ => ?_
    replace hz₈ : h₈.get? (b + ls.length + 2) = some (zzO b ls.length (rawInt h'.objs.size) false) := hz₈
    have up : ∀ (c : Nat) o, c ≠ b + ls.length + 2 → h'.get? c = some o → h₈.get? c = some o := fun c o c1 e => hs₈.extBut _ _ (ad_ne c1) (hs₇.extBut _ _ (ad_ne c1) (kq _ _ e))
    refine wpAny_pure ⟨_, rfl, ?_⟩
    show Q (.ref h'.objs.size) _
    have hT8 : h₈.get? h'.objs.size = some { cls := .type "tuple", data := .seq (zzCol X ls.length i).toArray } := hs₈.extBut _ _ (ad_ne (by omega)) (hs₇.extBut _ _ (ad_ne (by omega)) g)
    have s8 : h₈.objs.size = h'.objs.size + 1 := by rw [hs₈.1, hs₇.1, g2]
    rw [esz] at hz₈ hT8 s8 ⊢
    refine hQ _ ⟨hz₈, up _ _ (by omega) (Z.kp _ _ (.inr (by omega)) (hs₁.extBut _ _ (ad_ne (by omega)) hz.ti)), ⟨kp, z1, up _ _ (by omega) z3⟩, fun j l hj => ?_⟩ s8 hT8 fun c o hc e => up _ _ (by omega) (Z.kp c o (by omega) (hs₁.extBut _ _ (ad_ne (by omega)) e))
    have hjl := (List.getElem?_eq_some_iff.mp hj).1
    have e := Z.its j l hj
    rw [if_pos hjl] at e
    exact e.at fun o q => up _ o (by omega) q
end
end PySem
namespace PySem
open Sem (wp)
section
variable {prog : Program} {w : World} {A : Around} {E : Value → Shared → Prop} {s : Shared} {b n i : Nat} {ls : List Addr} {X : Nat → Array Value}
theorem zz_end_held (hh : A.handled = none) (h0 : 0 < ls.length) (hx : ZX s.heap b ls X n) {T : Nat} {f1 : Bool} {oT : Obj} (hz : ZZ s.heap b ls n (rawInt T) f1) (hT : s.heap.get? T = some oT) {Q : Fin → Shared → Prop}
    (hE : ∀ h' e, (∀ (c : Nat) o, (c < b ∨ b + ls.length + 3 ≤ c) → s.heap.get? c = some o → h'.get? c = some o) → (∃ o, h'.get? e = some o ∧ o.cls = .type "StopIteration") → E (.ref e) { s with heap := h' }) :
    wpAny (model prog w) A (Builtin.«zip.__next__» ⟨[.ref (b + ls.length + 2)], []⟩) Q E s := by
  show wpAny _ _ (field (.ref (b + ls.length + 2)) 2 >>= _) _ _ _
  refine wpAny_bind (wpAny_field hz.z rfl (x := .bool false) rfl ?_)
  show wpAny _ _ (field (.ref (b + ls.length + 2)) 3 >>= _) _ _ _
  refine wpAny_bind (wpAny_field hz.z rfl (x := .ref (b + ls.length)) rfl ?_)
  refine wpAny_bind (wpAny_seqItems hz.ti rfl ?_)
  simp only [zz_ne h0]
  show wpAny _ _ (Builtin.SmallTypes.ownedTupleIsFree (.ref (b + ls.length + 2)) >>= _) _ _ _
  refine wpAny_bind (wpAny_tupleHeld_zip hz.z hT fun h₁ hz₁ hs₁ => ?_)
  simp only [Bool.false_eq_true, if_false]
  refine wpAny_bind ?_
  rw [← Array.forIn_toList]
  obtain ⟨a, t, rfl⟩ : ∃ a t, ls = a :: t := by
    cases ls with
    | nil => exact absurd h0 (Nat.lt_irrefl _)
    | cons a t => exact ⟨a, t, rfl⟩
  have e1 : (zzIts b (a :: t).length).toArray.toList = .ref (b + 0) :: (zzIts b (a :: t).length).drop 1 := by
    rw [List.toList_toArray]
    have h := List.drop_eq_getElem_cons (l := zzIts b (a :: t).length) (i := 0) (by rw [zzIts_len]; exact h0)
    rw [List.drop_zero] at h
    rw [h]
    simp
  rw [e1, List.forIn_cons]
  refine wpAny_bind (wpAny_bind (wpAny_holding ?_))
  show wpAny _ _ (Builtin.SmallTypes.nextOf (.ref (b + 0)) >>= _) _ _ _
  obtain ⟨⟨o, ho, t1⟩, hlb⟩ := hx.tup 0 a rfl
  have hne : @Ne Addr a (b + (a :: t).length + 2) := Nat.ne_of_lt (Nat.lt_of_lt_of_le hlb (by omega))
  refine wpAny_bind (RZ.nextOf_tuple_end (s := { s with heap := h₁ }) hh ((hz.its 0 a rfl).extBut hs₁.extBut (ad_ne (by omega))) (⟨o, hs₁.extBut _ _ hne ho, t1⟩ : h₁.IsTuple a (X 0)) (by simp [hx.sz 0 h0]) fun h₂ e hs₂ he => ?_)
  exact hE h₂ e (fun c o hc x => hs₂ _ _ (ad_ne (by omega)) (hs₁.extBut _ _ (ad_ne (by omega)) x)) he
def ZT (h : Heap) (b : Nat) (ls : List Addr) (i : Nat) : Prop := (i = 0 ∧ ZZ h b ls i .none false) ∨ ∃ (T : Nat) (f1 : Bool) (oT : Obj), b + ls.length + 3 ≤ T ∧ ZZ h b ls i (rawInt T) f1 ∧ h.get? T = some oT
theorem ZT.z {h : Heap} (x : ZT h b ls i) : ∃ f0 f1, h.get? (b + ls.length + 2) = some (zzO b ls.length f0 f1) := by
  rcases x with ⟨_, x⟩ | ⟨T, f1, oT, _, x, _⟩
  · exact ⟨_, _, x.z⟩
  · exact ⟨_, _, x.z⟩
theorem ZZ.keep {h h' : Heap} {f0 : Value} {f1 : Bool} (x : ZZ h b ls i f0 f1) (k : ∀ (c : Nat) o, c < b + ls.length + 3 → h.get? c = some o → h'.get? c = some o) : ZZ h' b ls i f0 f1 :=
  ⟨k _ _ (by omega) x.z, k _ _ (by omega) x.ti, let ⟨p, a, c⟩ := x.to; ⟨p, a, k _ _ (by omega) c⟩, fun j l hj => (x.its j l hj).at fun o q => k _ _ (by
    have := (List.getElem?_eq_some_iff.mp hj).1
    omega) q⟩
theorem zz_pyNext (h0 : 0 < ls.length) (hm : ls.length ≤ 12) (hx : ZX s.heap b ls X n) (hz : ZT s.heap b ls i) (hi : i < n) (hb : b + ls.length + 3 ≤ s.heap.objs.size) {Q : Option Value → Shared → Prop}
    (hQ : ∀ h', ZT h' b ls (i + 1) → h'.objs.size = s.heap.objs.size + 1 → h'.get? s.heap.objs.size = some { cls := .type "tuple", data := .seq (zzCol X ls.length i).toArray } →
      (∀ (c : Nat) o, (c < b ∨ b + ls.length + 3 ≤ c) → s.heap.get? c = some o → h'.get? c = some o) → Q (some (.ref s.heap.objs.size)) { s with heap := h' }) :
    wpAny (model prog w) A (pyNext (.ref (b + ls.length + 2))) Q E s := by
  obtain ⟨f0, f1, ez⟩ := hz.z
  have hT : s.TypeIs (.ref (b + ls.length + 2)) "zip" := ⟨_, ez, rfl⟩
  unfold pyNext
  refine wpAny_bind (wpAny_attempt (wpAny_callSpecial?_slot (name := Str.ofString "__next__") hT F.slot_zip_next (wpAny_call_entry F.slot_zip_next hT F.entry_zip_next ?_ (F.args_zip_next_1 _))))
  rcases hz with ⟨_, x⟩ | ⟨T, f1, oT, hTb, x, hT'⟩
  · exact zz_next_free h0 hm hx x hi hb fun h' a1 a2 a3 a4 => wpAny_pure (hQ h' (.inr ⟨_, _, _, hb, a1, a3⟩) a2 a3 a4)
  · exact zz_next_held h0 hm hx x hT' hi hb fun h' a1 a2 a3 a4 => wpAny_pure (hQ h' (.inr ⟨T, _, _, hTb, a1, a4 _ _ (.inr hTb) hT'⟩) a2 a3 a4)
theorem zz_pyNext_end (hh : A.handled = none) (h0 : 0 < ls.length) (hn : 0 < n) (hx : ZX s.heap b ls X n) (hz : ZT s.heap b ls n) {Q : Option Value → Shared → Prop}
    (hQ : ∀ h', (∀ (c : Nat) o, (c < b ∨ b + ls.length + 3 ≤ c) → s.heap.get? c = some o → h'.get? c = some o) → Q none { s with heap := h' }) :
    wpAny (model prog w) A (pyNext (.ref (b + ls.length + 2))) Q E s := by
  obtain ⟨f0, f1, ez⟩ := hz.z
  have hT : s.TypeIs (.ref (b + ls.length + 2)) "zip" := ⟨_, ez, rfl⟩
  rcases hz with ⟨z0, x⟩ | ⟨T, f1, oT, hTb, x, hT'⟩
  · omega
  unfold pyNext
  refine wpAny_bind (wpAny_attempt (wpAny_callSpecial?_slot (name := Str.ofString "__next__") hT F.slot_zip_next (wpAny_call_entry F.slot_zip_next hT F.entry_zip_next (zz_end_held (show A.in1.handled = none from hh) h0 hx x hT' fun h' e hk he => ?_) (F.args_zip_next_1 _))))
  obtain ⟨o, ho, hc⟩ := he
  refine wpAny_bind (wpAny_isInstance (T := "StopIteration") (b := true) ⟨o, ho, hc⟩ isSubtype_stop ?_)
  exact wpAny_pure (hQ _ hk)
def ZL (h : Heap) (S : Nat) (X : Nat → Array Value) (m i : Nat) : Prop := ∀ j, j < i → h.get? (S + 1 + j) = some { cls := .type "tuple", data := .seq (zzCol X m j).toArray }
theorem zz_loop (hh : A.handled = none) (h0 : 0 < ls.length) (hm : ls.length ≤ 12) (hn : 0 < n) (hn2 : n ≤ 1000) (S : Nat) (hS : b + ls.length + 3 ≤ S) (res : Value) {R : Result → Shared → Prop} :
    ∀ (k i : Nat) (s : Shared) (acc : Array Value) (c : Nat), n - i = k → i ≤ n → ZX s.heap b ls X n → ZT s.heap b ls i → s.heap.objs.size = S + 1 + i → s.heap.get? S = some { cls := .type "list", dict := none, data := .seq acc c, slots := #[] } →
    acc.toList = (List.range i).map (fun j => Value.ref (S + 1 + j)) → ZL s.heap S X ls.length i →
    (∀ h' acc' c', (∀ (c : Nat) o, c < b → s.heap.get? c = some o → h'.get? c = some o) → h'.get? S = some { cls := .type "list", dict := none, data := .seq acc' c', slots := #[] } → acc'.toList = (List.range n).map (fun j => Value.ref (S + 1 + j)) → ZL h' S X ls.length n →
      R (.ok (.ret res)) { s with heap := h' }) →
    codeAny (model prog w) A (.builtin "list.extend.loop" ⟨[.ref S, .ref (b + ls.length + 2), res], []⟩) R s := by
  intro k
  induction k with
  | zero =>
    intro i s acc c hk hi hx hz hsz hS1 hacc hl hR
    have hin : i = n := by omega
    subst hin
    refine codeAny_builtin F.entry_extend_loop ?_
    rw [Around.under_plainId F.plain_extend_loop _]
    show wpAny _ A.in1 (pyNext (.ref (b + ls.length + 2)) >>= _) _ _ s
    refine wpAny_bind (zz_pyNext_end (show A.in1.handled = none from hh) h0 hn hx hz fun h' hk' => ?_)
    exact wpAny_pure (hR h' acc c (fun c o hc e => hk' c o (.inl hc) e) (hk' _ _ (.inr hS) hS1) hacc fun j hj => hk' _ _ (.inr (by omega)) (hl j hj))
  | succ k ih =>
    intro i s acc c hk hi hx hz hsz hS1 hacc hl hR
    have hlt : i < n := by omega
    refine codeAny_builtin F.entry_extend_loop ?_
    rw [Around.under_plainId F.plain_extend_loop _]
    show wpAny _ A.in1 (pyNext (.ref (b + ls.length + 2)) >>= _) _ _ s
    refine wpAny_bind (zz_pyNext h0 hm hx hz hlt (by omega) fun h' hz' hsz' hT hk' => ?_)
    have hS' := hk' _ _ (.inr hS) hS1
    have eacc : acc.size = i := by
      have := congrArg List.length hacc
      simpa using this
    show wpAny _ A.in1 (updateSeq S (·.push (.ref s.heap.objs.size)) >>= _) _ _ _
    refine wpAny_bind ?_
    have off : ∀ (c : Nat) o, c ≠ S → h'.get? c = some o → (h'.update S (Obj.mapSeq (·.push (.ref s.heap.objs.size)))).get? c = some o := fun c o hc e => (Heap.get?_update_other _ _ (ad_ne (Ne.symm hc))).trans e
    refine wpAny_updateSeq hS' rfl (wpAny_pure ⟨plainId_quiet F.plain_extend_loop _, ih (i + 1) _ (acc.push (.ref s.heap.objs.size)) _ (by omega) hlt ?_ ?_ ?_ (Heap.get?_update_self _ hS' rfl) ?_ ?_ ?_⟩) (zz_sz (by omega)) (Nat.le_succ_of_le (zz_sz (by simp; omega)))
    · refine ⟨fun j l hj => ?_, hx.sz⟩
      obtain ⟨⟨o, ho, t1⟩, hlb⟩ := hx.tup j l hj
      have hne : @Ne Nat l S := Nat.ne_of_lt (Nat.lt_of_lt_of_le hlb (by omega))
      exact ⟨⟨o, off _ _ hne (hk' _ _ (.inl hlb) ho), t1⟩, hlb⟩
    · rcases hz' with ⟨z0, _⟩ | ⟨T, f1, oT, hTb, x, hT'⟩
      · omega
      · by_cases hTS : T = S
        · subst hTS
          exact .inr ⟨T, f1, _, hTb, x.keep fun c o hc e => off c o (by omega) e, Heap.get?_update_self _ hS' rfl⟩
        · exact .inr ⟨T, f1, oT, hTb, x.keep fun c o hc e => off c o (by omega) e, off _ _ hTS hT'⟩
    · rw [(Heap.SameBut.update ..).1, hsz']
      omega
    · rw [Array.toList_push, hacc, hsz, List.range_succ, List.map_append]
      rfl
    · intro j hj
      refine off _ _ (by omega) ?_
      by_cases hji : j = i
      · subst hji
        rw [← hsz]
        exact hT
      · exact hk' _ _ (.inr (by omega)) (hl j (by omega))
    · intro h'' acc' c' hk2 hS2 hacc2 hl2
      exact hR h'' acc' c' (fun c o hc e => hk2 c o hc (off _ _ (by omega) (hk' c o (.inl hc) e))) hS2 hacc2 hl2
theorem zz_listcall (hh : A.handled = none) (h0 : 0 < ls.length) (hm : ls.length ≤ 12) (hn : 0 < n) (hn2 : n ≤ 1000) (hx : ZX s.heap b ls X n) (hz : ZZ s.heap b ls 0 .none false) (hb : s.heap.objs.size = b + ls.length + 3) {Q : Value → Shared → Prop}
    (hQ : ∀ h' acc' c', (∀ (c : Nat) o, c < b → s.heap.get? c = some o → h'.get? c = some o) → h'.get? s.heap.objs.size = some { cls := .type "list", dict := none, data := .seq acc' c', slots := #[] } →
      acc'.toList = (List.range n).map (fun j => Value.ref (s.heap.objs.size + 1 + j)) → ZL h' s.heap.objs.size X ls.length n → Q (.ref s.heap.objs.size) { s with heap := h' }) :
    wpAny (model prog w) A (call (.type "list") [.ref (b + ls.length + 2)]) Q E s := by
  refine callType_codes (Q₁ := fun obj s₁ => obj = .ref s.heap.objs.size ∧ s₁ = { s with heap := s.heap.push { cls := .type "list", data := .seq #[] } }) F.called_list (F.typeCall_list_1 _) F.entry_list_init
    (code_list_new _ ⟨rfl, rfl⟩) fun obj s₁ h₁ => ?_
  obtain ⟨rfl, rfl⟩ := h₁
  have hS : (s.heap.push { cls := .type "list", data := .seq #[] }).get? s.heap.objs.size = some { cls := .type "list", data := .seq #[] } := Heap.get?_push_size _ rfl
  have kp : ∀ c o, s.heap.get? c = some o → (s.heap.push { cls := .type "list", data := .seq #[] }).get? c = some o := fun c o e => Heap.get?_push_of_some _ e
  have hsz : (s.heap.push { cls := .type "list", data := .seq #[] }).objs.size = s.heap.objs.size + 1 := Heap.size_push ..
  generalize s.heap.push { cls := .type "list", data := .seq #[] } = g at hS kp hsz ⊢
  refine ⟨⟨_, hS, rfl⟩, F.args_list_init_2 _ _, ?_⟩
  show wpAny _ A.in1.in1 (do let old ← Builtin.List.listItems (.ref s.heap.objs.size); Builtin.List.listUpdate (.ref s.heap.objs.size) (fun _ => #[]); letGo old.toList.reverse; Builtin.List.listExtendWith (.ref s.heap.objs.size) (.ref (b + ls.length + 2)) .none) _ _ _
  refine wpAny_bind ?_
  unfold Builtin.List.listItems
  refine wpAny_bind (wpAny_seqItems (s := { s with heap := g }) hS rfl (wpAny_pure ?_))
  show wpAny _ A.in1.in1 (updateSeq s.heap.objs.size (fun _ => #[]) >>= fun _ => letGo (#[] : Array Value).toList.reverse >>= fun _ => Builtin.List.listExtendWith (.ref s.heap.objs.size) (.ref (b + ls.length + 2)) .none) _ _ _
  refine wpAny_bind (wpAny_updateSeq hS rfl ?_)
  have hS₂ := Heap.get?_update_self (Obj.mapSeq (fun _ => (#[] : Array Value))) hS rfl
  have oth : ∀ (c : Nat) o, c ≠ s.heap.objs.size → g.get? c = some o → (g.update s.heap.objs.size (Obj.mapSeq (fun _ => (#[] : Array Value)))).get? c = some o :=
    fun c o hc e => (Heap.get?_update_other _ _ (ad_ne (Ne.symm hc))).trans e
  have sz2 : (g.update s.heap.objs.size (Obj.mapSeq (fun _ => (#[] : Array Value)))).objs.size = s.heap.objs.size + 1 := by rw [(Heap.SameBut.update ..).1, hsz]
  generalize g.update s.heap.objs.size (Obj.mapSeq (fun _ => (#[] : Array Value))) = g2 at hS₂ oth sz2 ⊢
  refine wpAny_bind (wpAny_letGo ?_)
  unfold Builtin.List.listExtendWith
  have ez : g2.get? (b + ls.length + 2) = some (zzO b ls.length .none false) := oth _ _ (by omega) (kp _ _ hz.z)
  have hT : (Shared.TypeIs { s with heap := g2 } (.ref (b + ls.length + 2)) "zip") := ⟨_, ez, rfl⟩
  refine wpAny_bind (wpAny_typeOf hT ?_)
  have h1 : Builtin.List.listSameRef (.ref s.heap.objs.size) (.ref (b + ls.length + 2)) = false := by
    have hne : ¬ (s.heap.objs.size = b + ls.length + 2) := by omega
    simp [Builtin.List.listSameRef, hne]
  have h2 : (Value.type "zip" == Value.type "list") = false := by decide
  have h3 : (Value.type "zip" == Value.type "tuple") = false := by decide
  simp only [h1, h2, h3, Bool.or_false, Bool.false_eq_true, if_false]
  refine wpAny_bind (zz_iter (s := { s with heap := g2 }) ez ?_)
  refine wpAny_bind (wpAny_holding ?_)
  unfold Builtin.List.listLengthHint
  refine wpAny_bind (wpAny_specialOf hT zz_len ?_)
  show wpAny _ A.in1.in1 (specialOf (Value.ref (b + ls.length + 2)) (Str.ofString "__length_hint__") >>= _) _ _ _
  refine wpAny_bind (wpAny_specialOf hT zz_hint ?_)
  refine wpAny_pure ?_
  show wpAny _ A.in1.in1 (rule "list.extend.makes-room" >>= fun _ => Builtin.List.listTouch (.ref s.heap.objs.size) >>= fun _ =>
    again (.builtin "list.extend.loop" ⟨[.ref s.heap.objs.size, .ref (b + ls.length + 2), .none], []⟩)) _ _ _
  refine wpAny_bind (wpAny_rule ?_)
  refine wpAny_bind ?_
  show wpAny _ A.in1.in1 (updateSeq s.heap.objs.size (·.push .none) >>= fun _ => updateSeq s.heap.objs.size (·.pop)) _ _ _
  refine wpAny_bind (wpAny_updateSeq hS₂ rfl ?_)
  have hS₃ := Heap.get?_update_self (Obj.mapSeq (·.push Value.none)) hS₂ rfl
  have oth3 : ∀ (c : Nat) o, c ≠ s.heap.objs.size → g2.get? c = some o → (g2.update s.heap.objs.size (Obj.mapSeq (·.push Value.none))).get? c = some o :=
    fun c o hc e => (Heap.get?_update_other _ _ (ad_ne (Ne.symm hc))).trans e
  have sz3 : (g2.update s.heap.objs.size (Obj.mapSeq (·.push Value.none))).objs.size = s.heap.objs.size + 1 := by rw [(Heap.SameBut.update ..).1, sz2]
  generalize g2.update s.heap.objs.size (Obj.mapSeq (·.push Value.none)) = g3 at hS₃ oth3 sz3 ⊢
  refine wpAny_updateSeq (hz := by seq_fits) hS₃ rfl ?_
  have hS₄ := Heap.get?_update_self (Obj.mapSeq (·.pop)) hS₃ rfl
  have oth4 : ∀ (c : Nat) o, c ≠ s.heap.objs.size → g3.get? c = some o → (g3.update s.heap.objs.size (Obj.mapSeq (·.pop))).get? c = some o :=
    fun c o hc e => (Heap.get?_update_other _ _ (ad_ne (Ne.symm hc))).trans e
  have sz4 : (g3.update s.heap.objs.size (Obj.mapSeq (·.pop))).objs.size = s.heap.objs.size + 1 := by rw [(Heap.SameBut.update ..).1, sz3]
  generalize g3.update s.heap.objs.size (Obj.mapSeq (·.pop)) = g4 at hS₄ oth4 sz4 ⊢
  have all : ∀ (c : Nat) o, c ≠ s.heap.objs.size → s.heap.get? c = some o → g4.get? c = some o := fun c o hc e => oth4 _ _ hc (oth3 _ _ hc (oth _ _ hc (kp _ _ e)))
  refine wpAny_pure ⟨plainId_quiet F.plain_extend_loop _, zz_loop (A := A.in1) (b := b) (ls := ls) (X := X) hh h0 hm hn hn2 s.heap.objs.size (by omega) .none n 0 { s with heap := g4 } _ _ rfl (Nat.zero_le _) ⟨fun j l hj => ?_, hx.sz⟩ (.inl ⟨rfl, hz.keep fun c o hc e => all c o (by omega) e⟩) (by rw [Nat.add_zero]; exact sz4) hS₄ rfl (fun j hj => absurd hj (Nat.not_lt_zero _)) fun h' acc' c' k1 k2 k3 k4 => ?_⟩
  · obtain ⟨⟨o, ho, t1⟩, hlb⟩ := hx.tup j l hj
    have hne : @Ne Nat l s.heap.objs.size := Nat.ne_of_lt (Nat.lt_of_lt_of_le hlb (by omega))
    exact ⟨⟨o, all _ _ hne ho, t1⟩, hlb⟩
  · exact ⟨rfl, hQ h' acc' c' (fun c o hc e => k1 c o hc (all c o (by omega) e)) k2 k3 k4⟩
end
end PySem
namespace MU
open PySem PySem.Spec PyProof.Rows L2 He MM
def putC : Hp → List Addr → List (List V) → Hp
  | H, a :: as, c :: cs => putC (upd H a (.tup c)) as cs
  | H, _, _ => H
theorem putC_off {b : Addr} : ∀ (as : List Addr) (cs : List (List V)) (H : Hp), b ∉ as → putC H as cs b = H b
  | [], _, _, _ => rfl
  | _ :: _, [], _, _ => rfl
  | a :: as, c :: cs, H, h => by
    show putC (upd H a (.tup c)) as cs b = H b
    rw [putC_off as cs _ (fun z => h (List.mem_cons_of_mem _ z)), upd_ne (fun z => h (by rw [z]; exact List.mem_cons_self))]
theorem putC_at : ∀ (as : List Addr) (cs : List (List V)) (H : Hp), as.length = cs.length → as.Nodup → Paired (fun (t : Addr) (c : List V) => putC H as cs t = some (.tup c)) as cs
  | [], [], _, _, _ => .nil
  | [], _ :: _, _, h, _ => by cases h
  | _ :: _, [], _, h, _ => by cases h
  | a :: as, c :: cs, H, h, hn => by
    have hn' := List.nodup_cons.mp hn
    have ih := putC_at as cs (upd H a (.tup c)) (Nat.succ.inj h) hn'.2
    refine .cons ?_ ih
    show putC (upd H a (.tup c)) as cs a = some (.tup c)
    rw [putC_off as cs _ hn'.1, upd_same]
def tns (S n : Nat) : List Addr := (List.range n).map fun j => S + 1 + j
theorem tns_len (S n : Nat) : (tns S n).length = n := by simp [tns]
theorem tns_at {S n j : Nat} (h : j < n) : (tns S n)[j]? = some (S + 1 + j) := by simp [tns, List.getElem?_range h]
theorem tns_mem {S n : Nat} {t : Addr} (h : t ∈ tns S n) : ∃ j : Nat, j < n ∧ t = S + 1 + j := by
  obtain ⟨j, hj, e⟩ := List.mem_map.mp h
  exact ⟨j, List.mem_range.mp hj, e.symm⟩
theorem tns_nodup (S n : Nat) : (tns S n).Nodup := by
  refine List.pairwise_iff_getElem.mpr fun i j hi hj hij => ?_
  rw [tns_len] at hi hj
  simp only [tns, List.getElem_map, List.getElem_range]
  exact ad_ne (by omega)
theorem turn_laid {X : Cx} {pins : List (Addr × Obj)} {σ : L2.St} {H : Hp} {s : Shared} {h' : Heap} {S n c' : Nat} {acc : Array Value} {cs : List (List V)} {vs : List (List Value)} (I : Inv X pins σ H s) (hn : n ≤ 1000) (lc : cs.length = n) (rv : Paired Vals cs vs)
    (hcl : ∀ c ∈ cs, c.length ≤ 1000) (hk : ∀ b o, s.heap.get? b = some o → h'.get? b = some o) (hSz : s.heap.objs.size ≤ S) (hS : h'.get? S = some { cls := .type "list", dict := none, data := .seq acc c', slots := #[] }) (hacc : acc.toList = (tns S n).map Value.ref)
    (hl : ∀ (j : Nat) v, vs[j]? = some v → h'.get? (S + 1 + j) = some { cls := .type "tuple", data := .seq v.toArray }) :
    ∃ H' : Hp, Same H H' ∧ H S = none ∧ H' S = some (.lst ((tns S n).map V.ref)) ∧ Paired (fun (t : Addr) (c : List V) => H' t = some (.tup c)) (tns S n) cs ∧ Inv X pins σ H' { s with heap := h' } := by
  have hSn : S ∉ tns S n := fun z => by
    obtain ⟨j, _, e⟩ := tns_mem z
    have e' : (S : Nat) = S + 1 + j := e
    omega
  have hge : ∀ t ∈ tns S n, (s.heap.objs.size : Nat) ≤ t := fun t ht => by
    obtain ⟨j, _, e⟩ := tns_mem ht
    subst e
    exact Nat.le_trans hSz (by rw [Nat.add_assoc]; exact Nat.le_add_right _ _)
  have new : ∀ t ∈ tns S n, H t = none := fun t ht => I.hok.fresh (hge t ht)
  have newS : H S = none := I.hok.fresh hSz
  have atP := putC_at (tns S n) cs (upd H S (.lst ((tns S n).map V.ref))) (by rw [tns_len, lc]) (tns_nodup S n)
  have off : ∀ b, b ∉ tns S n → b ≠ S → putC (upd H S (.lst ((tns S n).map V.ref))) (tns S n) cs b = H b := fun b h1 h2 => by rw [putC_off _ cs _ h1, upd_ne h2]
  have low : ∀ b o, s.heap.get? b = some o → b ∉ tns S n ∧ b ≠ S := fun b o e => ⟨fun z => absurd (Heap.lt_size e) (Nat.not_lt.mpr (hge b z)), Nat.ne_of_lt (Nat.lt_of_lt_of_le (Heap.lt_size e) hSz)⟩
  have kp : ∀ b u, H b = some u → (putC (upd H S (.lst ((tns S n).map V.ref))) (tns S n) cs) b = some u := fun b u e => by
    rw [off b (fun z => by rw [new b z] at e; cases e) (fun z => by rw [z, newS] at e; cases e)]
    exact e
  have eS : putC (upd H S (.lst ((tns S n).map V.ref))) (tns S n) cs S = some (.lst ((tns S n).map V.ref)) := by rw [putC_off _ cs _ hSn, upd_same]
  refine ⟨putC (upd H S (.lst ((tns S n).map V.ref))) (tns S n) cs, kp, newS, eS, atP, ?_⟩
  refine I.call' (ch := []) rfl ⟨fun b o q _ _ _ => hk b o q, fun b o q _ _ _ => ⟨o.slots, hk b o q⟩, fun b o q n _ => ?_, fun b o q _ => ⟨o, hk b o q⟩, fun b xs q => kp b _ q, fun b o u q => kp b _ q, fun b ps q => ⟨#[], by rw [kp b _ q]; simp⟩⟩ (fun b u q => ?_) I.bare fun b z => by simp at z
  · obtain ⟨z1, z2⟩ := low b o q
    rw [off b z1 z2]
    exact n
  · by_cases hb : b ∈ tns S n
    · obtain ⟨j, pk, e1, e2, e3⟩ := LiI.paired_ix atP hb
      rw [e3] at q
      cases q
      obtain ⟨j', hj', ej⟩ := tns_mem hb
      have hj : j < n := by rw [← tns_len S n]; exact (List.getElem?_eq_some_iff.mp e1).1
      rw [tns_at hj] at e1
      cases e1
      obtain ⟨v, hv, r⟩ := pr_getl rv e2
      exact ⟨zz_sz (hcl _ (List.mem_of_getElem? e2)), v, r, ⟨_, hl j v hv, rfl, _, rfl⟩⟩
    · by_cases hb2 : b = S
      · rw [hb2] at q ⊢
        rw [eS] at q
        cases q
        refine ⟨by rw [List.length_map, tns_len]; exact zz_sz hn, acc.toList, c', by rw [hacc]; exact LiI.vals_refs _, ?_⟩
        rw [Array.toArray_toList]
        exact hS
      · rw [off b hb hb2] at q
        exact (I.hok b u q).stay (fun d v _ y => hk d v y) (fun d y => kp d _ y) fun d xs y => kp d _ y
abbrev RowsOf (K : PySem.W.Frag) (H : Hp) (us : List V) (xss : List (List V)) : Prop := Paired (fun (u : V) (xs : List V) => ∃ a, u = V.ref a ∧ SqT K H a xs) us xss
theorem rows_vals {X : Cx} {pins : List (Addr × Obj)} {σ : L2.St} {H : Hp} {s : Shared} (I : Inv X pins σ H s) : ∀ {us : List V} {xss : List (List V)}, RowsOf X.K H us xss →
    ∃ (ls : List Addr) (itss : List (List Value)), us = ls.map V.ref ∧ Paired Vals xss itss ∧ Paired (fun (a : Addr) (its : List Value) => IsTup s.heap a its.toArray) ls itss
  | _, _, .nil => ⟨[], [], rfl, .nil, .nil⟩
  | _, _, .cons h t => by
    obtain ⟨ls, itss, e, r, p⟩ := rows_vals I t
    obtain ⟨a, rfl, hq⟩ := h
    obtain ⟨its, rv, pt, _⟩ := I.tuple hq
    exact ⟨a :: ls, its :: itss, by rw [e]; rfl, .cons rv r, .cons pt p⟩
theorem refs_eq : ∀ {ls : List Addr} {vs : List Value}, Vals (ls.map V.ref) vs → vs = ls.map Value.ref
  | [], _, .nil => rfl
  | a :: ls, _, .cons h t => by
    rw [refs_eq t]
    have h' : _ = Value.ref a := h
    rw [h']
    rfl
def colsV (xss : List (List V)) (n : Nat) : List (List V) := (List.range n).map fun i => xss.map fun xs => xs.getD i .non
def rTurn (K : PySem.W.Frag) : V → Hp → VK → Prop := fun x H Q => ∃ p us xss n, x = .ref p ∧ SqT K H p us ∧ RowsOf K H us xss ∧ (∀ xs ∈ xss, xs.length = n) ∧ 0 < us.length ∧ us.length ≤ 12 ∧ 0 < n ∧ n ≤ 1000 ∧
  ∀ (H' : Hp) (S : Addr) (ts : List Addr), Same H H' → H S = none → H' S = some (.lst (ts.map V.ref)) → Paired (fun (t : Addr) (c : List V) => H' t = some (.tup c)) ts (colsV xss n) → Q (.ref S) H'
def tTurn (K : PySem.W.Frag) (te : TE) : TE := fun σ H Q => te σ H fun x H1 => rTurn K x H1 Q
theorem callWith_typeS {M : Model} {A : Around} {E : Value → Shared → Prop} {s : Shared} {pos : Pos} {T : String} {first : List Value} {args : List (Bool × Sem Value)} {Q : Value → Shared → Prop} (hst : args.any (·.1) = true)
    (h : wpAny M A (evalArgs (.type T) true args []) (fun a s₁ => wpAny M A (call (.type T) (first ++ a.pos) a.kw) Q E s₁) E s) :
    wpAny M A (callWith pos (.type T) first args []) Q E s := by
  unfold callWith
  refine wpAny_bind (wpAny_holding (wpAny_mono h (fun a s₁ h₁ => wpAny_bind (wpAny_standAt ?_)) fun _ _ x => x))
  simp only [hst, Bool.true_or]
  refine wpAny_bind (wpAny_pure ?_)
  have tail : ∀ {t : Sem Value}, wpAny M A t Q E s₁ → wpAny M A (t >>= fun r => holding [r] point >>= fun _ => pure r) Q E s₁ :=
    fun ht => wpAny_bind (wpAny_mono ht (fun r s₂ hr => wpAny_bind (wpAny_holding (wpAny_point (wpAny_pure hr)))) fun _ _ x => x)
  have marked (mk : Value) : wpAny M A (callMarked mk (.type T) (first ++ a.pos) a.kw) Q E s₁ := by unfold callMarked; exact Calls.wpAny_keep h₁
  dsimp only
  first | exact tail (marked _) | exact tail (wpAny_operating h₁) | exact tail h₁
theorem boot_zipT : bootBuiltins "zip" = some (.type "zip") := by decide +kernel
theorem boot_listT : bootBuiltins "list" = some (.type "list") := by decide +kernel
theorem pe_turn {X : Cx} {e : Expr} {te : TE} {p zp spos cpos pos : Pos} (hc : X.calm = true) (hg : Gl X "list") (hm : X.mg "list" = none) (hgz : Gl X "zip") (hmz : X.mg "zip" = none) (he : PE X e te)
    (hs : starEach [.Call (.Name "zip" zp) [.Starred e spos] [] cpos] X.env = (false, eval (.Call (.Name "zip" zp) [.Starred e spos] [] cpos) X.env) :: starEach [] X.env := by rfl)
    (hst : starEach [.Starred e spos] X.env = [(true, eval e X.env)] := by rfl) :
    PE X (.Call (.Name "list" p) [.Call (.Name "zip" zp) [.Starred e spos] [] cpos] [] pos) (tTurn X.K te) := by
  refine ⟨fun pins s σ H Q I hq => ?_⟩
  refine wpAny_Call_Name_kw (ld_blt I hg hm boot_listT ?_)
  refine PyProof.Rows.callWith_type1 ?_ hs rfl
  rw [hs]
  show wpAny _ _ (spliced ((false, eval (.Call (.Name "zip" zp) [.Starred e spos] [] cpos) X.env) :: backTo pos (starEach [] X.env))) _ _ s
  refine Calls.spliced_cons ?_
  refine wpAny_Call_Name_kw (ld_blt I hgz hmz boot_zipT ?_)
  rw [hst]
  refine callWith_typeS rfl ?_
  refine PySem.W.ks_lone (thn (he.run pins s σ H _ I hq) fun v s1 ⟨x, H1, I1, rx, q⟩ => ?_)
  obtain ⟨pa, us, xss, n, ex, hp, hr, hw, h0, h12, hn0, hn, k⟩ := q
  subst ex
  obtain rfl : v = Value.ref pa := rx
  refine star_tup I1 hp fun vals s2 I2 rv => ?_
  obtain ⟨ls, itss, eu, r, pt⟩ := rows_vals I2 hr
  subst eu
  rw [refs_eq rv, List.nil_append]
  rw [List.length_map] at h0 h12
  have ll : ls.length = itss.length := pr_len pt
  have lx : xss.length = itss.length := pr_len r
  have hx : ZX s2.heap s2.heap.objs.size ls (fun j => (itss.getD j []).toArray) n := by
    refine ⟨fun j l hj => ?_, fun j hj => ?_⟩
    · obtain ⟨its, hi, t⟩ := pr_getl pt hj
      have e : itss.getD j [] = its := by rw [List.getD_eq_getElem?_getD, hi]; rfl
      show Heap.IsTuple _ l (itss.getD j []).toArray ∧ _
      rw [e]
      exact ⟨t, let ⟨o, ho, _⟩ := t; Heap.lt_size ho⟩
    · obtain ⟨xs, hxs, rx⟩ := pr_get r (List.getElem?_eq_getElem (show j < itss.length by omega))
      have e : itss.getD j [] = itss[j]'(by omega) := by rw [List.getD_eq_getElem?_getD, List.getElem?_eq_getElem (by omega)]; rfl
      show (itss.getD j []).toArray.size = n
      rw [e, List.size_toArray, ← rx.length]
      exact hw _ (List.mem_of_getElem? hxs)
  refine call_zz h12 hx fun h1 hz hsz hk1 => ?_
  refine Calls.spliced_nil ?_
  have hx1 : ZX h1 s2.heap.objs.size ls (fun j => (itss.getD j []).toArray) n := ⟨fun j l hj => by
    obtain ⟨⟨o, ho, t⟩, hl⟩ := hx.tup j l hj
    exact ⟨⟨o, hk1 _ _ ho, t⟩, hl⟩, hx.sz⟩
  refine zz_listcall (s := { s2 with heap := h1 }) (I1.ok.hd hc) h0 h12 hn0 hn hx1 hz hsz fun h' acc' c' k1 k2 k3 k4 => ?_
  have lcol : ∀ i, (zzCol (fun j => (itss.getD j []).toArray) ls.length i).length = ls.length := fun i => by simp [zzCol]
  refine (fun tl => (let ⟨H', s', e1, e2, e3, J⟩ := tl; ⟨.ref _, H', J, rfl, k H' _ _ s' e1 e2 e3⟩)) (turn_laid (X := X) (cs := colsV xss n) (vs := (List.range n).map fun i => zzCol (fun j => (itss.getD j []).toArray) ls.length i) (h' := h') (S := h1.objs.size) (n := n) (acc := acc') (c' := c') I2 hn (by simp [colsV])
    (pr_of (by simp [colsV]) fun i c v h1 h2 => ?_) (fun c hc => ?_) (fun b o hb => k1 _ _ (Heap.lt_size hb) (hk1 _ _ hb)) (by rw [hsz]; omega) k2 (by rw [k3]; simp [tns]) (fun j v hv => ?_))
  · unfold colsV at h1
    rw [List.getElem?_map] at h1 h2
    by_cases hi : i < n
    · rw [List.getElem?_range hi] at h1 h2
      cases h1
      cases h2
      refine pr_of (by simp [zzCol]; omega) fun j x v h3 h4 => ?_
      rw [List.getElem?_map] at h3
      cases h5 : xss[j]? with
      | none => rw [h5] at h3; cases h3
      | some xs =>
        rw [h5] at h3
        cases h3
        obtain ⟨its, hits, rx⟩ := pr_getl r h5
        have hj : j < ls.length := by have := (List.getElem?_eq_some_iff.mp hits).1; omega
        unfold zzCol at h4
        rw [List.getElem?_map, List.getElem?_range hj] at h4
        cases h4
        have e : itss.getD j [] = its := by rw [List.getD_eq_getElem?_getD, hits]; rfl
        show RelV (xs.getD i .non) ((itss.getD j []).toArray.getD i .none)
        rw [e]
        have lxs : xs.length = n := hw _ (List.mem_of_getElem? h5)
        have lit : its.length = n := by rw [← rx.length]; exact lxs
        obtain ⟨u, hu, ru⟩ := rx.get (show xs[i]? = some (xs.getD i .non) by rw [List.getD_eq_getElem?_getD, List.getElem?_eq_getElem (by omega)]; rfl)
        have eu : its.toArray.getD i .none = u := by
          obtain ⟨hl, hq⟩ := List.getElem?_eq_some_iff.mp hu
          simp [Array.getD, hl, hq]
        rw [eu]
        exact ru
    · rw [List.getElem?_eq_none (by simp; omega)] at h1
      cases h1
  · unfold colsV at hc
    obtain ⟨i, _, rfl⟩ := List.mem_map.mp hc
    rw [List.length_map]
    omega
  · rw [List.getElem?_map] at hv
    by_cases hj : j < n
    · rw [List.getElem?_range hj] at hv
      cases hv
      exact k4 j hj
    · rw [List.getElem?_eq_none (by simp; omega)] at hv
      cases hv
end MU
namespace MU
open PySem PySem.Spec PyProof.Rows L2 He MM
theorem boot_abs : bootBuiltins "abs" = some (.builtin "abs") := by decide +kernel
theorem boot_min : bootBuiltins "min" = some (.builtin "min") := by decide +kernel
theorem boot_tuple : bootBuiltins "tuple" = some (.type "tuple") := by decide +kernel
theorem boot_list : bootBuiltins "list" = some (.type "list") := by decide +kernel
theorem boot_int : bootBuiltins "int" = some (.type "int") := by decide +kernel
theorem boot_bool : bootBuiltins "bool" = some (.type "bool") := by decide +kernel
theorem boot_len : bootBuiltins "len" = some (.builtin "len") := by decide +kernel
theorem boot_isinstance : bootBuiltins "isinstance" = some (.builtin "isinstance") := by decide +kernel
section
variable {K : PySem.W.Frag} {H : Hp}
theorem tyx_tup {a : Addr} {xs : List V} (h : SqT K H a xs) : TyX K H (.ref a) (.type "tuple") := by
  rcases h with (h | ⟨o, h⟩) | ⟨o, its, n, h, c, _⟩
  · exact .base (.tup h)
  · exact .fTuple h
  · exact .kTuple h c
theorem tyx_lst {a : Addr} {xs : List V} (h : SqL K H a xs) : TyX K H (.ref a) (.type "list") := by
  rcases h with (h | ⟨o, h⟩) | ⟨o, its, n, h, c, _⟩
  · exact .base (.lst h)
  · exact .base (.frz h)
  · exact .kList h c
theorem kit_b (a b : String) (r : Bool) (h : kitB a b = some r) : PySem.W.kitOne K (.type a) (.type b) = some r := h
end
def spInt : Sp := fun vs H Q _ => ∃ i : Int, vs = [.int i] ∧ Q (.bl true) H
theorem sc_is_plain_integer : FnScope ["value"] ["value"] (defScope (top 14)) := ⟨rfl, rfl, rfl, by decide +kernel, rfl, by decide +kernel, by decide +kernel⟩
theorem ok_is_plain_integer {P : Program} {w : World} {K : PySem.W.Frag} {mg : Str → Option Value} {base : Heap} (T : Txt P K mg base) : Fd P w K mg base 5 "is_plain_integer" ["value"] (spInt) := by
  have sc := sc_is_plain_integer
  refine mkFd T "is_plain_integer" 14 (by decide) sc (fun vs H Q E h => ?_) (fun _ _ _ _ _ _ us hl => match us, hl with | [_], _ => rfl) (fun cdv A outer s H vs Q E hr h => ?_)
  · obtain ⟨i, rfl, k⟩ := h
    rfl
  · obtain ⟨i, rfl, k⟩ := h
    refine ⟨_, (pss_one (ps_ret (pe_and (pe_callB call_isi rfl T.isi boot_isinstance (pa_cons (pv 0) (pa_cons (pe_bltn (v := .ty "int") rfl T.int boot_int rfl) pa_nil))) (pe_one (pe_not (pe_callB call_isi rfl T.isi boot_isinstance (pa_cons (pv 0) (pa_cons (pe_bltn (v := .ty "bool") rfl T.bool boot_bool rfl) pa_nil)))))))), ?_⟩
    refine ⟨_, rfl, _, _, _, _, true, rfl, .ty "int", .base (.int i), kit_b _ _ _ (by decide +kernel), true, rfl, iteT ?_⟩
    refine ⟨_, rfl, _, _, _, _, false, rfl, .ty "bool", .base (.int i), kit_b _ _ _ (by decide +kernel), false, rfl, k⟩
theorem ite_of {c A B : Prop} [Decidable c] (hc : c) (h : A) : if c then A else B := by
  rw [if_pos hc]
  exact h
theorem iteD {c A B : Prop} [Decidable c] (hc : c) (h : A) : if decide c = true then A else B := by
  rw [if_pos (decide_eq_true hc)]
  exact h
theorem iteDN {c A B : Prop} [Decidable c] (hc : ¬ c) (h : B) : if decide c = true then A else B := by
  rw [if_neg (by rw [decide_eq_false hc]; exact Bool.false_ne_true)]
  exact h
theorem iteNT {c A B : Prop} [Decidable c] (hc : ¬ c) (h : A) : if (!decide c) = true then A else B := by
  rw [if_pos (by rw [decide_eq_false hc] <;> rfl)]
  exact h
theorem q_tt {Q : VK} {H : Hp} {b : Bool} (e : b = true) (k : Q (.bl true) H) : Q (.bl b) H := by
  rw [e]
  exact k
def spNumB (K : PySem.W.Frag) : Sp := fun vs H Q _ => ∃ (v : V) (q : Rat), vs = [v] ∧ Num K H v q ∧ Q (.bl true) H
theorem num_gcd (q : Rat) : decide (V.int ((Nat.gcd q.num.natAbs ((q.den : Int)).natAbs : Nat) : Int) = V.int 1) = true := by
  have e : Nat.gcd q.num.natAbs ((q.den : Int)).natAbs = 1 := by
    rw [Int.natAbs_natCast]
    exact q.reduced
  rw [e]
  exact decide_eq_true rfl
theorem num_den1 (q : Rat) : (1 : Int) ≤ (q.den : Int) := by
  have := q.den_nz
  omega
theorem sc_is_number : FnScope ["value", "top", "under"] ["value"] (defScope (top 15)) := ⟨rfl, rfl, rfl, by decide +kernel, rfl, by decide +kernel, by decide +kernel⟩
theorem ok_is_number {P : Program} {w : World} {K : PySem.W.Frag} {mg : Str → Option Value} {base : Heap} (T : Txt P K mg base) : Fd P w K mg base 6 "is_number" ["value"] (spNumB K) := by
  have sc := sc_is_number
  refine mkFd T "is_number" 15 (by decide) sc (fun vs H Q E h => ?_) (fun _ _ _ _ _ _ us hl => match us, hl with | [_], _ => rfl) (fun cdv A outer s H vs Q E hr h => ?_)
  · obtain ⟨_, q, rfl, ⟨p, rfl, hq⟩, k⟩ := h
    rfl
  · obtain ⟨_, q, rfl, ⟨p, rfl, hq⟩, k⟩ := h
    refine ⟨_, (pss_cons (ps_if (PW.pt (pw_or (pt_not (pt_val (pe_callB call_isi rfl T.isi boot_isinstance (pa_cons (pv 0) (pa_cons (pe_bltn (v := .ty "tuple") rfl T.tuple boot_tuple rfl) pa_nil))))) (pw_or1 (pt_cmpR (op_ne) (pe_callB call_len rfl T.len boot_len (pa_cons (pv 0) pa_nil)) pe_int (nomark _))))) (pss_one (ps_ret pe_bl)) pss_nil)
      (pss_cons (ps_asg (pv 0) (pg_tup rfl (pgs_cons (pg_name (i := 1) sc.nd rfl (Or.inl rfl)) (pgs_cons (pg_name (i := 2) sc.nd rfl (Or.inl rfl)) pgs_nil))))
      (pss_cons (ps_if (PW.pt (pw_or (pt_not (pt_val (pe_cf (ok_is_plain_integer T) (hr.mono (by decide)) rfl (pa_cons (pv 1) pa_nil)))) (pw_or1 (pt_not (pt_val (pe_cf (ok_is_plain_integer T) (hr.mono (by decide)) rfl (pa_cons (pv 2) pa_nil))))))) (pss_one (ps_ret pe_bl)) pss_nil)
      (pss_one (ps_ret (pe_and (pe_cmpR (op_ge) (pv 2) pe_int (nomark _)) (pe_one (pe_cmpR (op_eq) (pe_callBfun cr_gcd rfl T.gcd (pa_cons (pv 1) (pa_cons (pv 2) pa_nil))) pe_int (nomark _))))))))), ?_⟩
    refine ⟨_, rfl, _, _, _, _, true, rfl, .ty "tuple", tyx_tup hq, kit_b _ _ _ (by decide +kernel), true, rfl, iteF ?_⟩
    refine ⟨_, rfl, _, 2, rfl, .inr ⟨_, hq, rfl⟩, rfl, _, rfl, iteNS rfl ?_⟩
    refine ⟨_, rfl, p, _, rfl, hq, rfl, _, _, rfl, _, _, rfl, rfl, ?_⟩
    refine ⟨_, rfl, _, rfl, true, rfl, iteF ⟨_, rfl, _, rfl, true, rfl, iteF ?_⟩⟩
    refine ⟨_, rfl, _, _, rfl, rfl, _, rfl, iteD (num_den1 q) ?_⟩
    refine ⟨_, rfl, _, rfl, _, _, rfl, rfl, ?_⟩
    exact q_tt (num_gcd q) k
def spNum1 (K : PySem.W.Frag) : Sp := fun vs H Q _ => ∃ (v : V) (q : Rat), vs = [v] ∧ Num K H v q ∧ Q v H
theorem sc_check_number : FnScope ["number"] ["number"] (defScope (top 16)) := ⟨rfl, rfl, rfl, by decide +kernel, rfl, by decide +kernel, by decide +kernel⟩
theorem ok_check_number {P : Program} {w : World} {K : PySem.W.Frag} {mg : Str → Option Value} {base : Heap} (T : Txt P K mg base) : Fd P w K mg base 7 "check_number" ["number"] (spNum1 K) := by
  have sc := sc_check_number
  refine mkFd T "check_number" 16 (by decide) sc (fun vs H Q E h => ?_) (fun _ _ _ _ _ _ us hl => match us, hl with | [_], _ => rfl) (fun cdv A outer s H vs Q E hr h => ?_)
  · obtain ⟨v, q, rfl, hq, k⟩ := h
    rfl
  · obtain ⟨v, q, rfl, hq, k⟩ := h
    refine ⟨_, (pss_cons (ps_if (pt_not (pt_val (pe_cf (ok_is_number T) (hr.mono (by decide)) rfl (pa_cons (pv 0) pa_nil)))) (pss_one ps_never) pss_nil)
      (pss_one (ps_ret (pv 0)))), ?_⟩
    exact ⟨_, rfl, v, q, rfl, hq, true, rfl, iteF ⟨_, rfl, k⟩⟩
def spRow1 (K : PySem.W.Frag) : Sp := fun vs H Q _ => ∃ (v : V) (r : List Rat), vs = [v] ∧ RowS K H v r ∧ r.length ≤ 1000 ∧ ∀ v' H', Same H H' → RowT K H' v' r → Q v' H'
theorem sc_check_row : FnScope ["row", "place"] ["row"] (defScope (top 17)) := ⟨rfl, rfl, rfl, by decide +kernel, rfl, by decide +kernel, by decide +kernel⟩
theorem ok_check_row {P : Program} {w : World} {K : PySem.W.Frag} {mg : Str → Option Value} {base : Heap} (T : Txt P K mg base) : Fd P w K mg base 7 "check_row" ["row"] (spRow1 K) := by
  have sc := sc_check_row
  refine mkFd T "check_row" 17 (by decide) sc (fun vs H Q E h => ?_) (fun _ _ _ _ _ _ us hl => match us, hl with | [_], _ => rfl) (fun cdv A outer s H vs Q E hr h => ?_)
  · obtain ⟨_, r, rfl, ⟨p, us, rfl, hs, hn⟩, hl, k⟩ := h
    rfl
  · obtain ⟨_, r, rfl, ⟨p, us, rfl, hs, hn⟩, hl, k⟩ := h
    refine ⟨_, (pss_cons (ps_if (pt_not (pt_val (pe_callB call_isiT rfl T.isi boot_isinstance (pa_cons (pv 0) (pa_cons (pe_tup (pa_cons (pe_bltn (v := .ty "list") rfl T.list boot_list rfl) (pa_cons (pe_bltn (v := .ty "tuple") rfl T.tuple boot_tuple rfl) pa_nil))) pa_nil))))) (pss_one ps_never) pss_nil)
      (pss_cons (ps_for PassesOwn.never rfl (pi_range1 rfl T.range (pa_cons (pe_callB call_len rfl T.len boot_len (pa_cons (pv 0) pa_nil)) pa_nil)) (pg_name (i := 1) sc.nd rfl (Or.inl rfl)) (pss_one (ps_if (pt_not (pt_val (pe_cf (ok_is_number T) (hr.mono (by decide)) rfl (pa_cons (pe_ix (r := rIx K) ix_seq (pv 0) (pv 1) (fun _ _ => rfl)) pa_nil)))) (pss_one ps_never) pss_nil)))
      (pss_one (ps_ret (pe_callTy (r := (rTupOf K)) call_tuple_of rfl T.tuple boot_tuple (pa_cons (pv 0) pa_nil)))))), ?_⟩
    have hlen := pr_len hn
    have isi : ∀ H1 : Hp, SqS K H1 p us → ∃ t b, TyX K H1 (.ref p) t ∧ PySem.W.kitAny K t [.type "list", .type "tuple"] = some b ∧ b = true := fun H1 h => by
      rcases h with h | h
      · exact ⟨_, true, tyx_lst h, kitAny_cons (b := true) (kit_b _ _ _ (by decide +kernel)) (fun z => by cases z) (fun _ => rfl), rfl⟩
      · exact ⟨_, true, tyx_tup h, kitAny_cons (b := false) (kit_b _ _ _ (by decide +kernel)) (fun _ => kitAny_cons (b := true) (kit_b _ _ _ (by decide +kernel)) (fun z => by cases z) (fun _ => rfl)) (fun z => by cases z), rfl⟩
    refine ⟨_, rfl, by show 2 ≤ sizeLine; decide, fun t ht => ?_⟩
    have s1 : Same H (upd H t (.tup [.ty "list", .ty "tuple"])) := same_new ht
    obtain ⟨ty, b, h1, h2, rfl⟩ := isi _ (sqS_mono s1 hs)
    refine ⟨_, _, _, _, _, true, rfl, upd_same, .cons (.ty "list") (.cons (.ty "tuple") .nil), h1, h2, true, rfl, iteF ?_⟩
    refine ⟨_, rfl, _, us.length, rfl, lenS (sqS_mono s1 hs), _, rfl, by omega, by omega, ?_⟩
    refine for_range (lo := 0) (n := ((us.length : Nat) : Int).toNat) (fun i σ H' => Same H H' ∧ ∃ w, σ = [some (.ref p), w]) ⟨s1, _, rfl⟩ ?_ ?_
    · rintro i σ H' hi ⟨s2, w, rfl⟩
      obtain ⟨q, hq⟩ : ∃ q, r[i]? = some q := ⟨r[i]'(by omega), List.getElem?_eq_getElem (by omega)⟩
      obtain ⟨v, hv, nv⟩ := pr_get hn hq
      refine ⟨_, rfl, _, rfl, ixS (sqS_mono s2 hs) (by omega) hv ?_⟩
      exact ⟨v, q, rfl, nv.mono s2, true, rfl, iteF ⟨s2, _, rfl⟩⟩
    · rintro σ H' ⟨s2, w, rfl⟩
      refine ⟨_, rfl, p, us, rfl, ?_⟩
      rcases hs with hs | hs
      · refine .inl ⟨sqL_mono s2 hs, fun l hl => ?_⟩
        exact k _ _ (s2.trans (same_new hl)) ⟨l, us, rfl, SqT.of upd_same, nums_mono (s2.trans (same_new hl)) hn⟩
      · exact .inr ⟨sqT_mono s2 hs, k _ _ s2 ⟨p, us, rfl, sqT_mono s2 hs, nums_mono s2 hn⟩⟩
def spLow (K : PySem.W.Frag) : Sp := fun vs H Q _ => ∃ t u : Int, vs = [.int t, .int u] ∧ u ≠ 0 ∧ ∀ v' H', Same H H' → Num K H' v' (Rat.divInt t u) → Q v' H'
theorem low_num {t u : Int} (hu : u ≠ 0) {g : Int} (hg : g = if u < 0 then -((Nat.gcd t.natAbs u.natAbs : Nat) : Int) else ((Nat.gcd t.natAbs u.natAbs : Nat) : Int)) :
    g ≠ 0 ∧ t.fdiv g = (Rat.divInt t u).num ∧ u.fdiv g = ((Rat.divInt t u).den : Int) := by
  have hpos : 0 < Nat.gcd t.natAbs u.natAbs := Nat.gcd_pos_of_pos_right _ (Int.natAbs_pos.mpr hu)
  have d1 : ((Nat.gcd t.natAbs u.natAbs : Nat) : Int) ∣ t := Int.ofNat_dvd_left.mpr (Nat.gcd_dvd_left _ _)
  have d2 : ((Nat.gcd t.natAbs u.natAbs : Nat) : Int) ∣ u := Int.ofNat_dvd_left.mpr (Nat.gcd_dvd_right _ _)
  have en : (Rat.divInt t u).num = u.sign * t / ((Nat.gcd t.natAbs u.natAbs : Nat) : Int) := by
    rw [Rat.num_divInt, Int.gcd_comm]
    rfl
  have ed : (Rat.divInt t u).den = u.natAbs / Nat.gcd t.natAbs u.natAbs := by
    rw [Rat.den_divInt, if_neg hu, Int.gcd_comm]
    rfl
  rw [en, ed]
  generalize hG : Nat.gcd t.natAbs u.natAbs = G at *
  obtain ⟨a, rfl⟩ := d1
  obtain ⟨b, rfl⟩ := d2
  have hG0 : (G : Int) ≠ 0 := by omega
  have hb : b ≠ 0 := by
    intro z
    rw [z, Int.mul_zero] at hu
    exact hu rfl
  by_cases h : (G : Int) * b < 0
  · rw [if_pos h] at hg
    subst hg
    have hb' : b < 0 := by
      rcases Int.lt_or_lt_of_ne hb with q | q
      · exact q
      · exact absurd (Int.mul_pos (show (0 : Int) < G by omega) q) (by omega)
    refine ⟨by omega, ?_, ?_⟩
    · rw [Int.sign_eq_neg_one_of_neg h, Int.fdiv_neg hG0, if_pos (Int.dvd_mul_right _ _), Int.mul_fdiv_cancel_left _ hG0]
      rw [show -1 * ((G : Int) * a) = (G : Int) * (-a) by rw [Int.mul_neg, Int.neg_mul, Int.one_mul], Int.mul_ediv_cancel_left _ hG0]
    · rw [Int.fdiv_neg hG0, if_pos (Int.dvd_mul_right _ _), Int.mul_fdiv_cancel_left _ hG0, Int.natAbs_mul, Int.natAbs_natCast, Nat.mul_div_cancel_left _ hpos]
      omega
  · rw [if_neg h] at hg
    subst hg
    have hb' : 0 < b := by
      rcases Int.lt_or_lt_of_ne hb with q | q
      · exact absurd (Int.mul_neg_of_pos_of_neg (show (0 : Int) < G by omega) q) h
      · exact q
    refine ⟨hG0, ?_, ?_⟩
    · rw [Int.sign_eq_one_of_pos (Int.mul_pos (show (0 : Int) < G by omega) hb'), Int.one_mul, Int.mul_fdiv_cancel_left _ hG0, Int.mul_ediv_cancel_left _ hG0]
    · rw [Int.mul_fdiv_cancel_left _ hG0, Int.natAbs_mul, Int.natAbs_natCast, Nat.mul_div_cancel_left _ hpos]
      omega
theorem sc_lowest : FnScope ["top", "under", "shared"] ["top", "under"] (defScope (top 18)) := ⟨rfl, rfl, rfl, by decide +kernel, rfl, by decide +kernel, by decide +kernel⟩
theorem ok_lowest {P : Program} {w : World} {K : PySem.W.Frag} {mg : Str → Option Value} {base : Heap} (T : Txt P K mg base) : Fd P w K mg base 41 "lowest" ["top", "under"] (spLow K) := by
  have sc := sc_lowest
  refine mkFd T "lowest" 18 (by decide) sc (fun vs H Q E h => ?_) (fun _ _ _ _ _ _ us hl => match us, hl with | [_, _], _ => rfl) (fun cdv A outer s H vs Q E hr h => ?_)
  · obtain ⟨t, u, rfl, hu, k⟩ := h
    rfl
  · obtain ⟨t, u, rfl, hu, k⟩ := h
    have S := seer_of (w := w) (outer := outer) (H := H) (N := ["top", "under", "shared"]) (E := E) T (hr.mono (by decide)) rfl rfl
    refine ⟨_, (pss_cons (ps_set (i := 2) sc.nd rfl (Or.inl rfl) (pe_callBfun cr_gcd rfl T.gcd (pa_cons (pv 0) (pa_cons (pv 1) pa_nil))))
      (pss_cons (ps_if (pt_cmpR (op_lt) (pv 1) pe_int (nomark _)) (pss_one (ps_set (i := 2) sc.nd rfl (Or.inl rfl) (pe_un un_neg (pv 2)))) pss_nil)
      (pss_one (ps_ret (pe_tup (pa_cons (pe_op (op_fdivP S) (pv 0) (pv 2)) (pa_cons (pe_op (op_fdivP S) (pv 1) (pv 2)) pa_nil))))))), ?_⟩
    refine ⟨_, rfl, _, rfl, _, _, rfl, ?_⟩
    refine ⟨_, rfl, _, _, rfl, rfl, _, rfl, ?_⟩
    refine ite2 (fun hlt => ?_) (fun hlt => ?_)
    · have hlt' : u < 0 := of_decide_eq_true hlt
      obtain ⟨g0, e1, e2⟩ := low_num (t := t) hu (g := -((Nat.gcd t.natAbs u.natAbs : Nat) : Int)) (by rw [if_pos hlt'])
      refine ⟨_, rfl, _, rfl, ?_⟩
      refine ⟨_, rfl, _, rfl, _, _, rfl, rfl, g0, _, rfl, _, rfl, _, _, rfl, rfl, g0, by show 2 ≤ sizeLine; decide, fun p hp => ?_⟩
      exact k _ _ (same_new hp) ⟨p, rfl, by rw [← e1, ← e2]; exact SqT.of upd_same⟩
    · have hlt' : ¬ u < 0 := fun z => hlt (decide_eq_true z)
      obtain ⟨g0, e1, e2⟩ := low_num (t := t) hu (g := ((Nat.gcd t.natAbs u.natAbs : Nat) : Int)) (by rw [if_neg hlt'])
      refine ⟨_, rfl, _, rfl, _, _, rfl, rfl, g0, _, rfl, _, rfl, _, _, rfl, rfl, g0, by show 2 ≤ sizeLine; decide, fun p hp => ?_⟩
      exact k _ _ (same_new hp) ⟨p, rfl, by rw [← e1, ← e2]; exact SqT.of upd_same⟩
def spOp (K : PySem.W.Frag) (f : Rat → Rat → Rat) (C : Rat → Rat → Prop) : Sp := fun vs H Q _ => ∃ (v w : V) (p q : Rat) (a b : Nat), vs = [v, w] ∧ Num K H v p ∧ Num K H w q ∧ hb a p ∧ hb b q ∧ a + b ≤ 134217728 ∧ C p q ∧
  ∀ v' H', Same H H' → Num K H' v' (f p q) → Q v' H'
theorem den_lt {a : Nat} {q : Rat} (h : hb a q) : ((q.den : Int)).natAbs < 2 ^ a := by
  rw [Int.natAbs_natCast]
  exact h.2
theorem ix0 {K : PySem.W.Frag} {H : Hp} {p : Addr} {q : Rat} {Q : VK} (h : SqT K H p [.int q.num, .int (q.den : Int)]) (k : Q (.int q.num) H) : rIx K (.ref p) (.int 0) H Q := ixS (i := 0) (.inr h) rfl rfl k
theorem ix1 {K : PySem.W.Frag} {H : Hp} {p : Addr} {q : Rat} {Q : VK} (h : SqT K H p [.int q.num, .int (q.den : Int)]) (k : Q (.int (q.den : Int)) H) : rIx K (.ref p) (.int 1) H Q := ixS (i := 1) (.inr h) rfl rfl k
theorem cm {i j : Int} {a b : Nat} (h1 : i.natAbs < 2 ^ a) (h2 : j.natAbs < 2 ^ b) (h : a + b ≤ 134217728) : CMulL i j := ⟨a, b, h1, h2, h⟩
theorem num1 {K : PySem.W.Frag} {H : Hp} {x : Addr} {p : Rat} (hx : SqT K H x [.int p.num, .int (p.den : Int)]) : Num K H (.ref x) p := ⟨x, rfl, hx⟩
theorem sc_plus : FnScope ["one", "other"] ["one", "other"] (defScope (top 19)) := ⟨rfl, rfl, rfl, by decide +kernel, rfl, by decide +kernel, by decide +kernel⟩
theorem ok_plus {P : Program} {w : World} {K : PySem.W.Frag} {mg : Str → Option Value} {base : Heap} (T : Txt P K mg base) : Fd P w K mg base 42 "plus" ["one", "other"] (spOp K (fun p q => p + q) (fun _ _ => True)) := by
  have sc := sc_plus
  refine mkFd T "plus" 19 (by decide) sc (fun vs H Q E h => ?_) (fun _ _ _ _ _ _ us hl => match us, hl with | [_, _], _ => rfl) (fun cdv A outer s H vs Q E hr h => ?_)
  · obtain ⟨_, _, p, q, a, b, rfl, ⟨x, rfl, hx⟩, ⟨y, rfl, hy⟩, ha, hb', hab, _, k⟩ := h
    rfl
  · obtain ⟨_, _, p, q, a, b, rfl, ⟨x, rfl, hx⟩, ⟨y, rfl, hy⟩, ha, hb', hab, _, k⟩ := h
    refine ⟨_, (pss_cons (ps_expr (pe_cf (ok_check_number T) (hr.mono (by decide)) rfl (pa_cons (pv 0) pa_nil)))
      (pss_cons (ps_expr (pe_cf (ok_check_number T) (hr.mono (by decide)) rfl (pa_cons (pv 1) pa_nil)))
      (pss_one (ps_ret (pe_cf (ok_lowest T) (hr.mono (by decide)) rfl (pa_cons (pe_op (op_add) (pe_op (op_mulL) (pe_ix (r := rIx K) ix_seq (pv 0) pe_int (fun _ _ => rfl)) (pe_ix (r := rIx K) ix_seq (pv 1) pe_int (fun _ _ => rfl))) (pe_op (op_mulL) (pe_ix (r := rIx K) ix_seq (pv 1) pe_int (fun _ _ => rfl)) (pe_ix (r := rIx K) ix_seq (pv 0) pe_int (fun _ _ => rfl)))) (pa_cons (pe_op (op_mulL) (pe_ix (r := rIx K) ix_seq (pv 0) pe_int (fun _ _ => rfl)) (pe_ix (r := rIx K) ix_seq (pv 1) pe_int (fun _ _ => rfl))) pa_nil))))))), ?_⟩
    refine ⟨_, rfl, _, p, rfl, num1 hx, _, rfl, _, q, rfl, num1 hy, ?_⟩
    refine ⟨_, rfl, ix0 hx ⟨_, rfl, ix1 hy ⟨_, _, rfl, rfl, cm ha.1 (den_lt hb') hab, _, rfl, ix0 hy ⟨_, rfl, ix1 hx ⟨_, _, rfl, rfl, cm hb'.1 (den_lt ha) (by omega), _, _, rfl, rfl, _, rfl, ix1 hx ⟨_, rfl, ix1 hy ⟨_, _, rfl, rfl, cm (den_lt ha) (den_lt hb') hab, ?_⟩⟩⟩⟩⟩⟩⟩
    refine ⟨_, _, rfl, Int.mul_ne_zero (den_ne p) (den_ne q), fun v' H' s n => k v' H' s ?_⟩
    rw [add_div] at n
    exact n
theorem sc_less : FnScope ["one", "other"] ["one", "other"] (defScope (top 20)) := ⟨rfl, rfl, rfl, by decide +kernel, rfl, by decide +kernel, by decide +kernel⟩
theorem ok_less {P : Program} {w : World} {K : PySem.W.Frag} {mg : Str → Option Value} {base : Heap} (T : Txt P K mg base) : Fd P w K mg base 42 "less" ["one", "other"] (spOp K (fun p q => p - q) (fun _ _ => True)) := by
  have sc := sc_less
  refine mkFd T "less" 20 (by decide) sc (fun vs H Q E h => ?_) (fun _ _ _ _ _ _ us hl => match us, hl with | [_, _], _ => rfl) (fun cdv A outer s H vs Q E hr h => ?_)
  · obtain ⟨_, _, p, q, a, b, rfl, ⟨x, rfl, hx⟩, ⟨y, rfl, hy⟩, ha, hb', hab, _, k⟩ := h
    rfl
  · obtain ⟨_, _, p, q, a, b, rfl, ⟨x, rfl, hx⟩, ⟨y, rfl, hy⟩, ha, hb', hab, _, k⟩ := h
    refine ⟨_, (pss_cons (ps_expr (pe_cf (ok_check_number T) (hr.mono (by decide)) rfl (pa_cons (pv 0) pa_nil)))
      (pss_cons (ps_expr (pe_cf (ok_check_number T) (hr.mono (by decide)) rfl (pa_cons (pv 1) pa_nil)))
      (pss_one (ps_ret (pe_cf (ok_lowest T) (hr.mono (by decide)) rfl (pa_cons (pe_op (op_sub) (pe_op (op_mulL) (pe_ix (r := rIx K) ix_seq (pv 0) pe_int (fun _ _ => rfl)) (pe_ix (r := rIx K) ix_seq (pv 1) pe_int (fun _ _ => rfl))) (pe_op (op_mulL) (pe_ix (r := rIx K) ix_seq (pv 1) pe_int (fun _ _ => rfl)) (pe_ix (r := rIx K) ix_seq (pv 0) pe_int (fun _ _ => rfl)))) (pa_cons (pe_op (op_mulL) (pe_ix (r := rIx K) ix_seq (pv 0) pe_int (fun _ _ => rfl)) (pe_ix (r := rIx K) ix_seq (pv 1) pe_int (fun _ _ => rfl))) pa_nil))))))), ?_⟩
    refine ⟨_, rfl, _, p, rfl, num1 hx, _, rfl, _, q, rfl, num1 hy, ?_⟩
    refine ⟨_, rfl, ix0 hx ⟨_, rfl, ix1 hy ⟨_, _, rfl, rfl, cm ha.1 (den_lt hb') hab, _, rfl, ix0 hy ⟨_, rfl, ix1 hx ⟨_, _, rfl, rfl, cm hb'.1 (den_lt ha) (by omega), _, _, rfl, rfl, _, rfl, ix1 hx ⟨_, rfl, ix1 hy ⟨_, _, rfl, rfl, cm (den_lt ha) (den_lt hb') hab, ?_⟩⟩⟩⟩⟩⟩⟩
    refine ⟨_, _, rfl, Int.mul_ne_zero (den_ne p) (den_ne q), fun v' H' s n => k v' H' s ?_⟩
    rw [sub_div] at n
    exact n
theorem sc_times : FnScope ["one", "other"] ["one", "other"] (defScope (top 21)) := ⟨rfl, rfl, rfl, by decide +kernel, rfl, by decide +kernel, by decide +kernel⟩
theorem ok_times {P : Program} {w : World} {K : PySem.W.Frag} {mg : Str → Option Value} {base : Heap} (T : Txt P K mg base) : Fd P w K mg base 42 "times" ["one", "other"] (spOp K (fun p q => p * q) (fun _ _ => True)) := by
  have sc := sc_times
  refine mkFd T "times" 21 (by decide) sc (fun vs H Q E h => ?_) (fun _ _ _ _ _ _ us hl => match us, hl with | [_, _], _ => rfl) (fun cdv A outer s H vs Q E hr h => ?_)
  · obtain ⟨_, _, p, q, a, b, rfl, ⟨x, rfl, hx⟩, ⟨y, rfl, hy⟩, ha, hb', hab, _, k⟩ := h
    rfl
  · obtain ⟨_, _, p, q, a, b, rfl, ⟨x, rfl, hx⟩, ⟨y, rfl, hy⟩, ha, hb', hab, _, k⟩ := h
    refine ⟨_, (pss_cons (ps_expr (pe_cf (ok_check_number T) (hr.mono (by decide)) rfl (pa_cons (pv 0) pa_nil)))
      (pss_cons (ps_expr (pe_cf (ok_check_number T) (hr.mono (by decide)) rfl (pa_cons (pv 1) pa_nil)))
      (pss_one (ps_ret (pe_cf (ok_lowest T) (hr.mono (by decide)) rfl (pa_cons (pe_op (op_mulL) (pe_ix (r := rIx K) ix_seq (pv 0) pe_int (fun _ _ => rfl)) (pe_ix (r := rIx K) ix_seq (pv 1) pe_int (fun _ _ => rfl))) (pa_cons (pe_op (op_mulL) (pe_ix (r := rIx K) ix_seq (pv 0) pe_int (fun _ _ => rfl)) (pe_ix (r := rIx K) ix_seq (pv 1) pe_int (fun _ _ => rfl))) pa_nil))))))), ?_⟩
    refine ⟨_, rfl, _, p, rfl, num1 hx, _, rfl, _, q, rfl, num1 hy, ?_⟩
    refine ⟨_, rfl, ix0 hx ⟨_, rfl, ix0 hy ⟨_, _, rfl, rfl, cm ha.1 hb'.1 hab, _, rfl, ix1 hx ⟨_, rfl, ix1 hy ⟨_, _, rfl, rfl, cm (den_lt ha) (den_lt hb') hab, ?_⟩⟩⟩⟩⟩
    refine ⟨_, _, rfl, Int.mul_ne_zero (den_ne p) (den_ne q), fun v' H' s n => k v' H' s ?_⟩
    rw [mul_div] at n
    exact n
theorem num_ne {q : Rat} (h : q ≠ 0) : q.num ≠ 0 := fun z => h (Rat.num_eq_zero.mp z)
theorem zero_b {q : Rat} (h : q ≠ 0) : ¬ (V.int q.num = V.int 0) := fun z => num_ne h (by injection z)
theorem sc_over : FnScope ["one", "other"] ["one", "other"] (defScope (top 22)) := ⟨rfl, rfl, rfl, by decide +kernel, rfl, by decide +kernel, by decide +kernel⟩
theorem ok_over {P : Program} {w : World} {K : PySem.W.Frag} {mg : Str → Option Value} {base : Heap} (T : Txt P K mg base) : Fd P w K mg base 42 "over" ["one", "other"] (spOp K (fun p q => p / q) (fun _ q => q ≠ 0)) := by
  have sc := sc_over
  refine mkFd T "over" 22 (by decide) sc (fun vs H Q E h => ?_) (fun _ _ _ _ _ _ us hl => match us, hl with | [_, _], _ => rfl) (fun cdv A outer s H vs Q E hr h => ?_)
  · obtain ⟨_, _, p, q, a, b, rfl, ⟨x, rfl, hx⟩, ⟨y, rfl, hy⟩, ha, hb', hab, h0, k⟩ := h
    rfl
  · obtain ⟨_, _, p, q, a, b, rfl, ⟨x, rfl, hx⟩, ⟨y, rfl, hy⟩, ha, hb', hab, h0, k⟩ := h
    refine ⟨_, (pss_cons (ps_expr (pe_cf (ok_check_number T) (hr.mono (by decide)) rfl (pa_cons (pv 0) pa_nil)))
      (pss_cons (ps_expr (pe_cf (ok_check_number T) (hr.mono (by decide)) rfl (pa_cons (pv 1) pa_nil)))
      (pss_cons (ps_if (pt_cmpR (op_eq) (pe_ix (r := rIx K) ix_seq (pv 1) pe_int (fun _ _ => rfl)) pe_int (nomark _)) (pss_one ps_never) pss_nil)
      (pss_one (ps_ret (pe_cf (ok_lowest T) (hr.mono (by decide)) rfl (pa_cons (pe_op (op_mulL) (pe_ix (r := rIx K) ix_seq (pv 0) pe_int (fun _ _ => rfl)) (pe_ix (r := rIx K) ix_seq (pv 1) pe_int (fun _ _ => rfl))) (pa_cons (pe_op (op_mulL) (pe_ix (r := rIx K) ix_seq (pv 0) pe_int (fun _ _ => rfl)) (pe_ix (r := rIx K) ix_seq (pv 1) pe_int (fun _ _ => rfl))) pa_nil)))))))), ?_⟩
    refine ⟨_, rfl, _, p, rfl, num1 hx, _, rfl, _, q, rfl, num1 hy, ?_⟩
    refine ⟨_, rfl, ix0 hy ⟨rfl, _, rfl, iteDN (zero_b h0) ?_⟩⟩
    refine ⟨_, rfl, ix0 hx ⟨_, rfl, ix1 hy ⟨_, _, rfl, rfl, cm ha.1 (den_lt hb') hab, _, rfl, ix1 hx ⟨_, rfl, ix0 hy ⟨_, _, rfl, rfl, cm (den_lt ha) hb'.1 hab, ?_⟩⟩⟩⟩⟩
    refine ⟨_, _, rfl, Int.mul_ne_zero (den_ne p) (num_ne h0), fun v' H' s n => k v' H' s ?_⟩
    rw [div_div p q (num_ne h0)] at n
    exact n
end MU
namespace MU
open PySem PySem.Spec PyProof.Rows L2 He MM
def spPlace : Sp := fun vs H Q _ => ∃ i n : Int, vs = [.int i, .int n] ∧ 0 ≤ i ∧ i < n ∧ Q (.bl true) H
theorem sc_is_place : FnScope ["value", "many"] ["value", "many"] (defScope (top 31)) := ⟨rfl, rfl, rfl, by decide +kernel, rfl, by decide +kernel, by decide +kernel⟩
theorem ok_is_place {P : Program} {w : World} {K : PySem.W.Frag} {mg : Str → Option Value} {base : Heap} (T : Txt P K mg base) : Fd P w K mg base 6 "is_place" ["value", "many"] (spPlace) := by
  have sc := sc_is_place
  refine mkFd T "is_place" 31 (by decide) sc (fun vs H Q E h => ?_) (fun _ _ _ _ _ _ us hl => match us, hl with | [_, _], _ => rfl) (fun cdv A outer s H vs Q E hr h => ?_)
  · obtain ⟨i, n, rfl, h0, h1, k⟩ := h
    rfl
  · obtain ⟨i, n, rfl, h0, h1, k⟩ := h
    refine ⟨_, (pss_one (ps_ret (pe_and (pe_cf (ok_is_plain_integer T) (hr.mono (by decide)) rfl (pa_cons (pv 0) pa_nil)) (pe_one (pe_chain op_le op_lt pe_int (pv 0) (pv 1)))))), ?_⟩
    refine ⟨_, rfl, _, rfl, true, rfl, iteT ?_⟩
    refine ⟨_, rfl, _, _, rfl, rfl, _, rfl, iteD h0 ⟨_, rfl, _, _, rfl, rfl, q_tt (decide_eq_true h1) k⟩⟩
def spAt : Sp := fun vs H Q _ => ∃ i n : Int, vs = [.int i, .int n] ∧ 0 ≤ i ∧ i < n ∧ Q (.int i) H
theorem sc_row_at : FnScope ["at", "many"] ["at", "many"] (defScope (top 33)) := ⟨rfl, rfl, rfl, by decide +kernel, rfl, by decide +kernel, by decide +kernel⟩
theorem ok_row_at {P : Program} {w : World} {K : PySem.W.Frag} {mg : Str → Option Value} {base : Heap} (T : Txt P K mg base) : Fd P w K mg base 7 "row_at" ["at", "many"] (spAt) := by
  have sc := sc_row_at
  refine mkFd T "row_at" 33 (by decide) sc (fun vs H Q E h => ?_) (fun _ _ _ _ _ _ us hl => match us, hl with | [_, _], _ => rfl) (fun cdv A outer s H vs Q E hr h => ?_)
  · obtain ⟨i, n, rfl, h0, h1, k⟩ := h
    rfl
  · obtain ⟨i, n, rfl, h0, h1, k⟩ := h
    refine ⟨_, (pss_cons (ps_if (pt_not (pt_val (pe_cf (ok_is_place T) (hr.mono (by decide)) rfl (pa_cons (pv 0) (pa_cons (pv 1) pa_nil))))) (pss_one ps_never) pss_nil)
      (pss_one (ps_ret (pv 0)))), ?_⟩
    exact ⟨_, rfl, _, rfl, _, _, rfl, h0, h1, true, rfl, iteF ⟨_, rfl, k⟩⟩
theorem sc_column_at : FnScope ["at", "many"] ["at", "many"] (defScope (top 34)) := ⟨rfl, rfl, rfl, by decide +kernel, rfl, by decide +kernel, by decide +kernel⟩
theorem ok_column_at {P : Program} {w : World} {K : PySem.W.Frag} {mg : Str → Option Value} {base : Heap} (T : Txt P K mg base) : Fd P w K mg base 7 "column_at" ["at", "many"] (spAt) := by
  have sc := sc_column_at
  refine mkFd T "column_at" 34 (by decide) sc (fun vs H Q E h => ?_) (fun _ _ _ _ _ _ us hl => match us, hl with | [_, _], _ => rfl) (fun cdv A outer s H vs Q E hr h => ?_)
  · obtain ⟨i, n, rfl, h0, h1, k⟩ := h
    rfl
  · obtain ⟨i, n, rfl, h0, h1, k⟩ := h
    refine ⟨_, (pss_cons (ps_if (pt_not (pt_val (pe_cf (ok_is_place T) (hr.mono (by decide)) rfl (pa_cons (pv 0) (pa_cons (pv 1) pa_nil))))) (pss_one ps_never) pss_nil)
      (pss_one (ps_ret (pv 0)))), ?_⟩
    exact ⟨_, rfl, _, rfl, _, _, rfl, h0, h1, true, rfl, iteF ⟨_, rfl, k⟩⟩
def spFit (K : PySem.W.Frag) : Sp := fun vs H Q _ => ∃ (v : V) (r : List Rat), vs = [v, .int (r.length : Nat)] ∧ RowS K H v r ∧ r.length ≤ 1000 ∧ ∀ v' H', Same H H' → RowT K H' v' r → Q v' H'
theorem sc_fitting_row : FnScope ["row", "size", "told"] ["row", "size"] (defScope (top 35)) := ⟨rfl, rfl, rfl, by decide +kernel, rfl, by decide +kernel, by decide +kernel⟩
theorem ok_fitting_row {P : Program} {w : World} {K : PySem.W.Frag} {mg : Str → Option Value} {base : Heap} (T : Txt P K mg base) : Fd P w K mg base 8 "fitting_row" ["row", "size"] (spFit K) := by
  have sc := sc_fitting_row
  refine mkFd T "fitting_row" 35 (by decide) sc (fun vs H Q E h => ?_) (fun _ _ _ _ _ _ us hl => match us, hl with | [_, _], _ => rfl) (fun cdv A outer s H vs Q E hr h => ?_)
  · obtain ⟨v, r, rfl, hv, hl, k⟩ := h
    rfl
  · obtain ⟨v, r, rfl, hv, hl, k⟩ := h
    refine ⟨_, (pss_cons (ps_set (i := 2) sc.nd rfl (Or.inl rfl) (pe_cf (ok_check_row T) (hr.mono (by decide)) rfl (pa_cons (pv 0) pa_nil)))
      (pss_cons (ps_if (pt_cmpR (op_ne) (pe_callB call_len rfl T.len boot_len (pa_cons (pv 2) pa_nil)) (pv 1) (nomark _)) (pss_one ps_never) pss_nil)
      (pss_one (ps_ret (pv 2))))), ?_⟩
    refine ⟨_, rfl, v, r, rfl, hv, hl, fun v' H' s n => ?_⟩
    obtain ⟨p, us, rfl, hs, hn⟩ := id n
    have e := pr_len hn
    refine ⟨_, rfl, _, us.length, rfl, .inr ⟨_, hs, rfl⟩, _, rfl, rfl, _, rfl, iteNS (by rw [e]) ⟨_, rfl, k _ _ s n⟩⟩
def spPair (K : PySem.W.Frag) : Sp := fun vs H Q _ => ∃ (v w : V) (r s : List Rat), vs = [v, w] ∧ RowS K H v r ∧ RowS K H w s ∧ r.length = s.length ∧ r.length ≤ 1000 ∧
  ∀ p v' w' H', Same H H' → H' p = some (.tup [v', w']) → RowT K H' v' r → RowT K H' w' s → Q (.ref p) H'
theorem sc_pair_of_rows : FnScope ["row", "by"] ["row", "by"] (defScope (top 39)) := ⟨rfl, rfl, rfl, by decide +kernel, rfl, by decide +kernel, by decide +kernel⟩
theorem ok_pair_of_rows {P : Program} {w : World} {K : PySem.W.Frag} {mg : Str → Option Value} {base : Heap} (T : Txt P K mg base) : Fd P w K mg base 8 "pair_of_rows" ["row", "by"] (spPair K) := by
  have sc := sc_pair_of_rows
  refine mkFd T "pair_of_rows" 39 (by decide) sc (fun vs H Q E h => ?_) (fun _ _ _ _ _ _ us hl => match us, hl with | [_, _], _ => rfl) (fun cdv A outer s H vs Q E hr h => ?_)
  · obtain ⟨v, v2, r, r2, rfl, hv, hw, he, hl, k⟩ := h
    rfl
  · obtain ⟨v, v2, r, r2, rfl, hv, hw, he, hl, k⟩ := h
    refine ⟨_, (pss_cons (ps_set (i := 0) sc.nd rfl (Or.inl rfl) (pe_cf (ok_check_row T) (hr.mono (by decide)) rfl (pa_cons (pv 0) pa_nil)))
      (pss_cons (ps_set (i := 1) sc.nd rfl (Or.inl rfl) (pe_cf (ok_check_row T) (hr.mono (by decide)) rfl (pa_cons (pv 1) pa_nil)))
      (pss_cons (ps_if (pt_cmpR (op_ne) (pe_callB call_len rfl T.len boot_len (pa_cons (pv 0) pa_nil)) (pe_callB call_len rfl T.len boot_len (pa_cons (pv 1) pa_nil)) (nomark _)) (pss_one ps_never) pss_nil)
      (pss_one (ps_ret (pe_tup (pa_cons (pv 0) (pa_cons (pv 1) pa_nil)))))))), ?_⟩
    refine ⟨_, rfl, v, r, rfl, hv, hl, fun v' H' s1 n1 => ?_⟩
    refine ⟨_, rfl, v2, r2, rfl, hw.mono s1, by omega, fun w' H2 s2 n2 => ?_⟩
    obtain ⟨p, us, rfl, hs, hn⟩ := id (n1.mono s2)
    obtain ⟨p2, us2, rfl, hs2, hn2⟩ := id n2
    have e := pr_len hn
    have e2 := pr_len hn2
    refine ⟨_, rfl, _, us.length, rfl, .inr ⟨_, hs, rfl⟩, _, rfl, _, us2.length, rfl, .inr ⟨_, hs2, rfl⟩, rfl, _, rfl, iteNS (by rw [e, e2, he]) ?_⟩
    refine ⟨_, rfl, _, rfl, by show 2 ≤ sizeLine; decide, fun l hl => ?_⟩
    have s3 := same_new (o := .tup [V.ref p, V.ref p2]) hl
    exact k l _ _ _ (s1.trans (s2.trans s3)) upd_same ((n1.mono s2).mono s3) (n2.mono s3)
def spAfter (K : PySem.W.Frag) : Sp := fun vs H Q _ => ∃ (v : V) (r : List Rat) (j : Nat), vs = [v, .int (j : Nat)] ∧ RowS K H v r ∧ r.length ≤ 1000 ∧ j < 1000 ∧
  ∀ o, FA r j o → Q (match o with | some s => .int (s : Nat) | none => .non) H
theorem num_zero {q : Rat} : (V.int q.num = V.int 0) ↔ q = 0 := ⟨fun z => Rat.num_eq_zero.mp (by injection z), fun z => by rw [z] <;> rfl⟩
theorem sc_full_after : FnScope ["row", "column", "at"] ["row", "column"] (defScope (top 38)) := ⟨rfl, rfl, rfl, by decide +kernel, rfl, by decide +kernel, by decide +kernel⟩
theorem ok_full_after {P : Program} {w : World} {K : PySem.W.Frag} {mg : Str → Option Value} {base : Heap} (T : Txt P K mg base) : Fd P w K mg base 5 "full_after" ["row", "column"] (spAfter K) := by
  have sc := sc_full_after
  refine mkFd T "full_after" 38 (by decide) sc (fun vs H Q E h => ?_) (fun _ _ _ _ _ _ us hl => match us, hl with | [_, _], _ => rfl) (fun cdv A outer s H vs Q E hr h => ?_)
  · obtain ⟨_, r, j, rfl, ⟨p, us, rfl, hs, hn⟩, hl, hj, k⟩ := h
    rfl
  · obtain ⟨_, r, j, rfl, ⟨p, us, rfl, hs, hn⟩, hl, hj, k⟩ := h
    refine ⟨_, (pss_cons (ps_for PassesOwn.never rfl (pi_range2 rfl T.range (pa_cons (pe_op (op_add) (pv 1) pe_int) (pa_cons (pe_callB call_len rfl T.len boot_len (pa_cons (pv 0) pa_nil)) pa_nil))) (pg_name (i := 2) sc.nd rfl (Or.inl rfl)) (pss_one (ps_if (pt_cmpR (op_ne) (pe_ix (r := rIx K) ix_seq (pe_ix (r := rIx K) ix_seq (pv 0) (pv 2) (fun _ _ => rfl)) pe_int (fun _ _ => rfl)) pe_int (nomark _)) (pss_one (ps_ret (pv 2))) pss_nil)))
      (pss_one (ps_ret pe_non))), ?_⟩
    have e := pr_len hn
    refine ⟨_, rfl, _, _, rfl, rfl, _, rfl, _, us.length, rfl, lenS hs, _, _, rfl, ⟨by omega, by omega, by omega, by omega⟩, ?_⟩
    refine for_range (lo := (j : Int) + 1) (n := ((us.length : Nat) - ((j : Int) + 1) : Int).toNat) (fun i σ H' => H' = H ∧ (∀ t, j < t → t < j + 1 + i → r.getD t 0 = 0) ∧ ∃ w, σ = [some (.ref p), some (.int j), w]) ⟨rfl, fun t h1 h2 => by omega, _, rfl⟩ ?_ ?_
    · rintro i σ H' hi ⟨rfl, hz, w, rfl⟩
      have hlt : j + 1 + i < r.length := by omega
      obtain ⟨v, hv, x, rfl, hx⟩ := pr_get hn (List.getElem?_eq_getElem hlt)
      refine ⟨_, rfl, _, rfl, ixS hs (by omega) hv (ix0 hx ⟨rfl, _, rfl, ?_⟩)⟩
      have eg : r.getD (j + 1 + i) 0 = r[j + 1 + i] := by simp [List.getD_eq_getElem?_getD, List.getElem?_eq_getElem hlt]
      by_cases hq : r[j + 1 + i] = 0
      · refine iteNS (num_zero.mpr hq) ⟨rfl, fun t h1 h2 => ?_, _, rfl⟩
        by_cases ht : t = j + 1 + i
        · subst ht
          rw [eg, hq]
        · exact hz t h1 (by omega)
      · refine iteNT (fun z => hq (num_zero.mp z)) ⟨_, rfl, ?_⟩
        have z := k (some (j + 1 + i)) ⟨by omega, hlt, by rw [eg]; exact hq, fun t h1 h2 => hz t h1 (by omega)⟩
        have en : ((j : Int) + 1 + (i : Int)) = ((j + 1 + i : Nat) : Int) := by omega
        show Q (.int ((j : Int) + 1 + (i : Int))) H'
        rw [en]
        exact z
    · rintro σ H' ⟨rfl, hz, w, rfl⟩
      exact k none fun t h1 h2 => hz t h1 (by omega)
theorem isi_seq {K : PySem.W.Frag} {σ : L2.St} {H : Hp} {i : Nat} {p : Addr} {us : List V} {Q : VK} (hi : σ[i]? = some (some (.ref p))) (hs : SqS K H p us) (k : ∀ H', Same H H' → Q (.bl true) H') :
    tCB (rIsiT K) (tCons (tVar i) (tCons (tTup (tCons (tC (.ty "list")) (tCons (tC (.ty "tuple")) tNil))) tNil)) σ H Q := by
  refine ⟨_, hi, by show 2 ≤ sizeLine; decide, fun t ht => ?_⟩
  have s1 : Same H (upd H t (.tup [.ty "list", .ty "tuple"])) := same_new ht
  have isi : ∃ ty b, TyX K (upd H t (.tup [.ty "list", .ty "tuple"])) (.ref p) ty ∧ PySem.W.kitAny K ty [.type "list", .type "tuple"] = some b ∧ b = true := by
    rcases sqS_mono s1 hs with h | h
    · exact ⟨_, true, tyx_lst h, kitAny_cons (b := true) (kit_b _ _ _ (by decide +kernel)) (fun z => by cases z) (fun _ => rfl), rfl⟩
    · exact ⟨_, true, tyx_tup h, kitAny_cons (b := false) (kit_b _ _ _ (by decide +kernel)) (fun _ => kitAny_cons (b := true) (kit_b _ _ _ (by decide +kernel)) (fun z => by cases z) (fun _ => rfl)) (fun z => by cases z), rfl⟩
  obtain ⟨ty, b, h1, h2, rfl⟩ := isi
  exact ⟨_, _, _, _, _, true, rfl, upd_same, .cons (.ty "list") (.cons (.ty "tuple") .nil), h1, h2, k _ s1⟩
def spRows (K : PySem.W.Frag) : Sp := fun vs H Q _ => ∃ (v : V) (n : Nat) (R : List (List Rat)), vs = [v] ∧ TabS K H v R ∧ Wide n R ∧ 0 < R.length ∧ R.length ≤ 12 ∧ 0 < n ∧ n ≤ 12 ∧ ∀ v' H', Same H H' → TabT K H' v' R → Q v' H'
theorem int_ne {i j : Int} (h : i ≠ j) : ¬ (V.int i = V.int j) := fun z => h (by injection z)
theorem sc_checked_rows : FnScope ["rows", "at", "row"] ["rows"] (defScope (top 32)) := ⟨rfl, rfl, rfl, by decide +kernel, rfl, by decide +kernel, by decide +kernel⟩
theorem ok_checked_rows {P : Program} {w : World} {K : PySem.W.Frag} {mg : Str → Option Value} {base : Heap} (T : Txt P K mg base) : Fd P w K mg base 8 "checked_rows" ["rows"] (spRows K) := by
  have sc := sc_checked_rows
  refine mkFd T "checked_rows" 32 (by decide) sc (fun vs H Q E h => ?_) (fun _ _ _ _ _ _ us hl => match us, hl with | [_], _ => rfl) (fun cdv A outer s H vs Q E hr h => ?_)
  · obtain ⟨_, n, R, rfl, ⟨p, us, rfl, hs, hn⟩, hw, h0, h12, hn0, hn12, k⟩ := h
    rfl
  · obtain ⟨_, n, R, rfl, ⟨p, us, rfl, hs, hn⟩, hw, h0, h12, hn0, hn12, k⟩ := h
    obtain ⟨tMost, hMost⟩ := T.most
    refine ⟨_, (pss_cons (ps_if (PW.pt (pw_or (pt_not (pt_val (pe_callB call_isiT rfl T.isi boot_isinstance (pa_cons (pv 0) (pa_cons (pe_tup (pa_cons (pe_bltn (v := .ty "list") rfl T.list boot_list rfl) (pa_cons (pe_bltn (v := .ty "tuple") rfl T.tuple boot_tuple rfl) pa_nil))) pa_nil))))) (pw_or1 (pt_cmpR (op_eq) (pe_callB call_len rfl T.len boot_len (pa_cons (pv 0) pa_nil)) pe_int (nomark _))))) (pss_one ps_never) pss_nil)
      (pss_cons (ps_for PassesOwn.never rfl (pi_range1 rfl T.range (pa_cons (pe_callB call_len rfl T.len boot_len (pa_cons (pv 0) pa_nil)) pa_nil)) (pg_name (i := 1) sc.nd rfl (Or.inl rfl)) (pss_cons (ps_set (i := 2) sc.nd rfl (Or.inl rfl) (pe_ix (r := rIx K) ix_seq (pv 0) (pv 1) (fun _ _ => rfl)))
      (pss_one (ps_if (PW.pt (pw_or (pt_not (pt_val (pe_callB call_isiT rfl T.isi boot_isinstance (pa_cons (pv 2) (pa_cons (pe_tup (pa_cons (pe_bltn (v := .ty "list") rfl T.list boot_list rfl) (pa_cons (pe_bltn (v := .ty "tuple") rfl T.tuple boot_tuple rfl) pa_nil))) pa_nil))))) (pw_or (pt_cmpR (op_eq) (pe_callB call_len rfl T.len boot_len (pa_cons (pv 2) pa_nil)) pe_int (nomark _)) (pw_or1 (pt_cmpR (op_ne) (pe_callB call_len rfl T.len boot_len (pa_cons (pv 2) pa_nil)) (pe_callB call_len rfl T.len boot_len (pa_cons (pe_ix (r := rIx K) ix_seq (pv 0) pe_int (fun _ _ => rfl)) pa_nil)) (nomark _)))))) (pss_one ps_never) pss_nil))))
      (pss_cons (ps_if (PW.pt (pw_or (pt_cmpR (op_gt) (pe_callB call_len rfl T.len boot_len (pa_cons (pv 0) pa_nil)) (pe_glob (v := .int 12) rfl hMost ⟨_, rfl⟩) (nomark _)) (pw_or1 (pt_cmpR (op_gt) (pe_callB call_len rfl T.len boot_len (pa_cons (pe_ix (r := rIx K) ix_seq (pv 0) pe_int (fun _ _ => rfl)) pa_nil)) (pe_glob (v := .int 12) rfl hMost ⟨_, rfl⟩) (nomark _))))) (pss_one ps_never) pss_nil)
      (pss_one (ps_ret (pe_callTy (r := (rTupOf K)) call_tuple_of rfl T.tuple boot_tuple (pa_cons (pe_lc (own := [("row", 2)]) (g := gName 2) rfl sc.nd (pi_seqK K rfl (pv 0)) (blkOk_by (own := [("row", 2)]) (N := ["rows", "at", "row"]) (sc := defScope (top 32)) (by decide +kernel)) (fun _ _ _ _ _ => pg_name (i := 2) sc.nd rfl (Or.inl rfl)) (fun _ _ _ _ _ => pts_nil) (fun _ _ _ _ _ => (pe_cf (ok_check_row T) (hr.mono (by decide)) rfl (pa_cons (pv 2) pa_nil)))) pa_nil))))))), ?_⟩
    have e := pr_len hn
    have rowat : ∀ (H' : Hp) (i : Nat), Same H H' → i < R.length → ∃ a ws, us[i]? = some (.ref a) ∧ SqS K H' a ws ∧ ws.length = n := fun H' i s hi => by
      obtain ⟨v, hv, a, ws, rfl, ha, hws⟩ := pr_get hn (List.getElem?_eq_getElem hi)
      exact ⟨a, ws, hv, sqS_mono s ha, by rw [pr_len hws]; exact hw _ (List.getElem_mem hi)⟩
    refine isi_seq (i := 0) rfl hs fun H1 s1 => ⟨true, rfl, iteF ?_⟩
    refine ⟨_, rfl, _, us.length, rfl, lenS (sqS_mono s1 hs), rfl, _, rfl, iteDN (int_ne (by omega)) ?_⟩
    refine ⟨_, rfl, _, us.length, rfl, lenS (sqS_mono s1 hs), _, rfl, by omega, by omega, ?_⟩
    refine for_range (lo := 0) (n := ((us.length : Nat) : Int).toNat) (fun i σ H' => Same H H' ∧ ∃ w w2, σ = [some (.ref p), w, w2]) ⟨s1, _, _, rfl⟩ ?_ ?_
    · rintro i σ H' hi ⟨s2, w, w2, rfl⟩
      obtain ⟨a, ws, ha, hws, hl⟩ := rowat H' i s2 (by omega)
      refine ⟨_, rfl, _, rfl, ixS (sqS_mono s2 hs) (by omega) ha ?_⟩
      refine isi_seq (i := 2) rfl hws fun H3 s3 => ⟨true, rfl, iteF ?_⟩
      refine ⟨_, rfl, _, ws.length, rfl, lenS (sqS_mono s3 hws), rfl, _, rfl, iteDN (int_ne (by omega)) ?_⟩
      obtain ⟨b, zs, hb0, hzs, hlz⟩ := rowat H3 0 (s2.trans s3) (by omega)
      refine ⟨_, rfl, _, ws.length, rfl, lenS (sqS_mono s3 hws), _, rfl, ixS (i := 0) (sqS_mono (s2.trans s3) hs) rfl hb0 ⟨_, zs.length, rfl, lenS hzs, rfl, _, rfl, iteNS (by rw [hl, hlz]) ⟨s2.trans s3, _, _, rfl⟩⟩⟩
    · rintro σ H' ⟨s2, w, w2, rfl⟩
      obtain ⟨b, zs, hb0, hzs, hlz⟩ := rowat H' 0 s2 (by omega)
      refine ⟨_, rfl, _, us.length, rfl, lenS (sqS_mono s2 hs), _, _, rfl, rfl, _, rfl, iteDN (by omega) ?_⟩
      refine ⟨_, rfl, ixS (i := 0) (sqS_mono s2 hs) rfl hb0 ⟨_, zs.length, rfl, lenS hzs, _, _, rfl, rfl, _, rfl, iteDN (by omega) ?_⟩⟩
      refine ⟨_, rfl, p, rfl, lc_mapS (sqS_mono s2 hs) (by omega) (fun i v H => ∃ r, R[i]? = some r ∧ RowT K H v r) (fun i v H H' s ⟨r, a, b⟩ => ⟨r, a, b.mono s⟩) ?_ ?_⟩
      · intro D hD i x H4 hi s4 ⟨acc, hacc⟩ Qe kq
        obtain ⟨r, hr', rs⟩ := pr_getl hn hi
        refine ⟨rfl, _, rfl, x, r, rfl, rs.mono (s2.trans (s4.trans rem_same)), by rw [hw r (List.mem_of_getElem? hr')]; omega, fun v' H6 s6 n6 => ?_⟩
        exact kq v' H6 s6 ⟨r, hr', n6.rem (s6 _ _ hacc)⟩
      · intro D hD H5 ys s5 h5 hl5 hr5
        refine ⟨D, ys, rfl, .inl ⟨SqL.of h5, fun l hl => ?_⟩⟩
        have s6 : Same (rem D H5) (upd H5 l (.tup ys)) := rem_same.trans (same_new hl)
        refine k _ _ (s2.trans (s5.trans s6)) ⟨l, ys, rfl, SqT.of upd_same, pr_of (by omega) fun i a b h1 h2 => ?_⟩
        obtain ⟨r, e1, e2⟩ := hr5 i a h1
        rw [h2] at e1
        cases e1
        exact e2.mono s6
theorem lk1 (rv : V) : (putF "rows" rv []).lookup ("rows" : Str) = some rv := by rw [lookup_putF, if_pos rfl]
theorem lk2 (rv h : V) : (putF "high" h (putF "rows" rv [])).lookup ("rows" : Str) = some rv := by
  rw [lookup_putF, if_neg (by decide +kernel), lookup_putF, if_pos rfl]
def spInit (K : PySem.W.Frag) : Sp := fun vs H Q _ => ∃ (x dx : Addr) (v : V) (n : Nat) (R : List (List Rat)), vs = [.ref x, v] ∧ H x = some (.ins (cTab K) dx []) ∧ TabS K H v R ∧ Wide n R ∧ 0 < R.length ∧ R.length ≤ 12 ∧ 0 < n ∧ n ≤ 12 ∧
  ∀ H' rv, (∀ b o, b ≠ x → H b = some o → H' b = some o) → H' x = some (.ins (cTab K) dx (tf rv R.length n)) → TabT K H' rv R → Q .non H'
theorem sc_m_init : FnScope ["self", "rows"] ["self", "rows"] (defScope (cls 0)) := ⟨rfl, rfl, rfl, by decide +kernel, rfl, by decide +kernel, by decide +kernel⟩
theorem ok_m_init {P : Program} {w : World} {K : PySem.W.Frag} {mg : Str → Option Value} {base : Heap} (T : Txt P K mg base) : Fm P w K mg base 9 "__init__" ["self", "rows"] (spInit K) := by
  have sc := sc_m_init
  refine mkFm T "__init__" 0 (by decide) sc (fun vs H Q E h => ?_) (fun _ _ _ _ _ _ us hl => match us, hl with | [_, _], _ => rfl) (fun cdv A outer s H vs Q E hr h => ?_)
  · obtain ⟨x, dx, v, n, R, rfl, hx, hv, hw, h0, h12, hn0, hn12, k⟩ := h
    rfl
  · obtain ⟨x, dx, v, n, R, rfl, hx, hv, hw, h0, h12, hn0, hn12, k⟩ := h
    refine ⟨_, (pss_cons (ps_fld (pv 0) (pe_cf (ok_checked_rows T) (hr.mono (by decide)) rfl (pa_cons (pv 1) pa_nil)) rfl)
      (pss_cons (ps_fld (pv 0) (pe_callB call_len rfl T.len boot_len (pa_cons (pe_fld (pv 0) rfl) pa_nil)) rfl)
      (pss_one (ps_fld (pv 0) (pe_callB call_len rfl T.len boot_len (pa_cons (pe_ix (r := rIx K) ix_seq (pe_fld (pv 0) rfl) pe_int (fun _ _ => rfl)) pa_nil)) rfl)))), ?_⟩
    refine ⟨_, rfl, v, n, R, rfl, hv, hw, h0, h12, hn0, hn12, fun rv H1 s1 t1 => ?_⟩
    have hx1 := s1 _ _ hx
    refine ⟨_, rfl, x, _, dx, _, rfl, hx1, T.cl, T.nR, by show 0 < 1000; decide, ?_⟩
    generalize hH2 : upd H1 x (.ins (cTab K) dx (putF "rows" rv [])) = H2
    have hx2 : H2 x = some (.ins (cTab K) dx (putF "rows" rv [])) := by rw [← hH2]; exact upd_same
    have t2 : TabT K H2 rv R := by rw [← hH2]; exact t1.upd hx1
    obtain ⟨p, us, rfl, hp, hus⟩ := id t2
    have eu := pr_len hus
    refine ⟨_, rfl, x, _, dx, _, _, rfl, hx2, T.cl, T.nR, lk1 _, _, us.length, rfl, .inr ⟨_, hp, rfl⟩, _, rfl, x, _, dx, _, rfl, hx2, T.cl, T.nH, by show 1 < 1000; decide, ?_⟩
    generalize hH3 : upd H2 x (.ins (cTab K) dx (putF "high" (.int (us.length : Nat)) (putF "rows" (.ref p) []))) = H3
    have hx3 : H3 x = some (.ins (cTab K) dx (putF "high" (.int (us.length : Nat)) (putF "rows" (.ref p) []))) := by rw [← hH3]; exact upd_same
    have t3 : TabT K H3 (.ref p) R := by rw [← hH3]; exact t2.upd hx2
    obtain ⟨p', us', e3, hp3, hus3⟩ := id t3
    cases e3
    obtain ⟨v0, hv0, p0, ws, rfl, hp0, hws⟩ := pr_get hus3 (List.getElem?_eq_getElem h0)
    have ew : ws.length = n := by rw [pr_len hws]; exact hw _ (List.getElem_mem h0)
    refine ⟨_, rfl, x, _, dx, _, _, rfl, hx3, T.cl, T.nR, lk2 _ _, ?_⟩
    refine ixS (i := 0) (.inr hp3) rfl hv0 ⟨_, ws.length, rfl, .inr ⟨_, hp0, rfl⟩, _, rfl, x, _, dx, _, rfl, hx3, T.cl, T.nW, by show 2 < 1000; decide, ?_⟩
    rw [ew, eu, tf_put]
    refine k _ (.ref p) (fun b o hb e => ?_) upd_same (t3.upd hx3)
    rw [upd_ne hb, ← hH3, upd_ne hb, ← hH2, upd_ne hb]
    exact s1 _ _ e
theorem tab_make {K : PySem.W.Frag} {H : Hp} {v : V} {n : Nat} {R : List (List Rat)} {Q : VK} {E : XK} (hv : TabS K H v R) (hw : Wide n R) (h0 : 0 < R.length) (h12 : R.length ≤ 12) (hn0 : 0 < n) (hn12 : n ≤ 12)
    (k : ∀ v' H', Same H H' → Tbl K H' v' n R → Q v' H') : ∀ x dx, H x = none → H dx = none → dx ≠ x →
      spInit K (.ref x :: ([v] ++ [])) (upd (upd H dx (.own x)) x (.ins (cTab K) dx [])) (fun v H2 => v = .non ∧ Q (.ref x) H2) E := by
  intro x dx hx hdx hne
  have s1 : Same H (upd (upd H dx (.own x)) x (.ins (cTab K) dx [])) := same_mut (same_new hdx) hx
  refine ⟨x, dx, v, n, R, rfl, upd_same, hv.mono s1, hw, h0, h12, hn0, hn12, fun H' rv h1 h2 h3 => ⟨rfl, k _ _ (fun b o e => ?_) ⟨⟨x, dx, rv, rfl, h2, h3⟩, hw, h0, h12, hn0, hn12⟩⟩⟩
  exact h1 b o (ne_of_none e hx) (s1 b o e)
theorem tab_mk {K : PySem.W.Frag} {H : Hp} {v : V} {n : Nat} {R : List (List Rat)} {G : Addr → VK} {E : XK} (hv : TabS K H v R) (hw : Wide n R) (h0 : 0 < R.length) (h12 : R.length ≤ 12) (hn0 : 0 < n) (hn12 : n ≤ 12)
    (k : ∀ x H', Same H H' → Tbl K H' (.ref x) n R → G x .non H') : ∀ x dx, H x = none → H dx = none → dx ≠ x →
      spInit K (.ref x :: ([v] ++ [])) (upd (upd H dx (.own x)) x (.ins (cTab K) dx [])) (G x) E := by
  intro x dx hx hdx hne
  have s1 : Same H (upd (upd H dx (.own x)) x (.ins (cTab K) dx [])) := same_mut (same_new hdx) hx
  refine ⟨x, dx, v, n, R, rfl, upd_same, hv.mono s1, hw, h0, h12, hn0, hn12, fun H' rv h1 h2 h3 => k _ _ (fun b o e => ?_) ⟨⟨x, dx, rv, rfl, h2, h3⟩, hw, h0, h12, hn0, hn12⟩⟩
  exact h1 b o (ne_of_none e hx) (s1 b o e)
end MU
namespace MU
open PySem PySem.Spec PyProof.Rows L2 He MM
theorem getD_at {x : List Rat} {i : Nat} (h : i < x.length) : x[i]? = some (x.getD i 0) := by
  rw [List.getD_eq_getElem?_getD, List.getElem?_eq_getElem h] <;> rfl
theorem take_next {x : List Rat} {i : Nat} (h : i < x.length) : x.take (i + 1) = x.take i ++ [x.getD i 0] := by
  rw [List.take_add_one, getD_at h] <;> rfl
theorem grown {K : PySem.W.Frag} {l : Addr} {H : Hp} {zs : List V} {r : List Rat} {y : V} {q : Rat} (h : H l = some (.lst zs)) (n : Paired (Num K (rem l H)) zs r) (m : Num K H y q) :
    Paired (Num K (rem l (upd H l (.lst (zs ++ [y]))))) (zs ++ [y]) (r ++ [q]) := by
  rw [rem_upd]
  exact pr_app n (.cons (m.rem h) .nil)
theorem row_at {K : PySem.W.Frag} {H : Hp} {us : List V} {r : List Rat} {i : Nat} (h : Paired (Num K H) us r) (hi : i < r.length) : ∃ p, us[i]? = some (.ref p) ∧ SqT K H p [.int (r.getD i 0).num, .int ((r.getD i 0).den : Int)] := by
  obtain ⟨v, hv, p, rfl, hp⟩ := pr_get h (getD_at hi)
  exact ⟨p, hv, hp⟩
def spUnm (K : PySem.W.Frag) : Sp := fun vs H Q _ => ∃ (v w : V) (x a : List Rat), vs = [v, w] ∧ RowS K H v x ∧ RowS K H w a ∧ x.length = a.length ∧ x.length ≤ 1000 ∧ hbR 10000000 x ∧ hbR 10000000 a ∧
  ∀ v' H', Same H H' → RowT K H' v' (unm x a) → Q v' H'
theorem sc_unmade_row : FnScope ["row", "by", "out", "at", "number", "after"] ["row", "by"] (defScope (top 40)) := ⟨rfl, rfl, rfl, by decide +kernel, rfl, by decide +kernel, by decide +kernel⟩
theorem ok_unmade_row {P : Program} {w : World} {K : PySem.W.Frag} {mg : Str → Option Value} {base : Heap} (T : Txt P K mg base) : Fd P w K mg base 43 "unmade_row" ["row", "by"] (spUnm K) := by
  have sc := sc_unmade_row
  refine mkFd T "unmade_row" 40 (by decide) sc (fun vs H Q E h => ?_) (fun _ _ _ _ _ _ us hl => match us, hl with | [_, _], _ => rfl) (fun cdv A outer s H vs Q E hr h => ?_)
  · obtain ⟨v, v2, x, a, rfl, hv, hv2, he, hl, bx, ba, k⟩ := h
    rfl
  · obtain ⟨v, v2, x, a, rfl, hv, hv2, he, hl, bx, ba, k⟩ := h
    refine ⟨_, (pss_cons (ps_asg (pe_cf (ok_pair_of_rows T) (hr.mono (by decide)) rfl (pa_cons (pv 0) (pa_cons (pv 1) pa_nil))) (pg_tup rfl (pgs_cons (pg_name (i := 0) sc.nd rfl (Or.inl rfl)) (pgs_cons (pg_name (i := 1) sc.nd rfl (Or.inl rfl)) pgs_nil))))
      (pss_cons (ps_set (i := 2) sc.nd rfl (Or.inl rfl) (pe_lst pa_nil))
      (pss_cons (ps_for PassesOwn.never rfl (pi_enumT rfl T.enum (pa_cons (pv 0) pa_nil)) (pg_tup rfl (pgs_cons (pg_name (i := 3) sc.nd rfl (Or.inl rfl)) (pgs_cons (pg_name (i := 4) sc.nd rfl (Or.inl rfl)) pgs_nil))) (pss_cons (ps_set (i := 5) sc.nd rfl (Or.inl rfl) (pe_cf (ok_full_after T) (hr.mono (by decide)) rfl (pa_cons (pv 1) (pa_cons (pv 3) pa_nil))))
      (pss_one (ps_if (PW.pt (pw_or (pt_cmpR (op_eq) (pe_ix (r := rIx K) ix_seq (pe_ix (r := rIx K) ix_seq (pv 1) (pv 3) (fun _ _ => rfl)) pe_int (fun _ _ => rfl)) pe_int (nomark _)) (pw_or1 (pt_cmpR (op_isN) (pv 5) pe_non (nomark _))))) (pss_one (ps_expr (pe_bm PySem.F.plainAttrs_list PySem.F.slot_list_append PySem.F.type_list_append mt_append (pv 2) (pa_cons (pv 4) pa_nil)))) (pss_one (ps_expr (pe_bm PySem.F.plainAttrs_list PySem.F.slot_list_append PySem.F.type_list_append mt_append (pv 2) (pa_cons (pe_cf (ok_less T) (hr.mono (by decide)) rfl (pa_cons (pv 4) (pa_cons (pe_cf (ok_times T) (hr.mono (by decide)) rfl (pa_cons (pe_cf (ok_over T) (hr.mono (by decide)) rfl (pa_cons (pe_ix (r := rIx K) ix_seq (pv 1) (pv 3) (fun _ _ => rfl)) (pa_cons (pe_ix (r := rIx K) ix_seq (pv 1) (pv 5) (fun _ _ => rfl)) pa_nil))) (pa_cons (pe_ix (r := rIx K) ix_seq (pv 0) (pv 5) (fun _ _ => rfl)) pa_nil))) pa_nil))) pa_nil))))))))
      (pss_one (ps_ret (pe_callTy (r := (rTupOf K)) call_tuple_of rfl T.tuple boot_tuple (pa_cons (pv 2) pa_nil))))))), ?_⟩
    refine ⟨_, rfl, _, rfl, v, v2, x, a, rfl, hv, hv2, he, hl, fun p v' w' H1 s1 hp n1 n2 => ?_⟩
    refine ⟨p, _, rfl, SqT.of hp, rfl, _, _, rfl, _, _, rfl, rfl, ?_⟩
    refine ⟨Nat.zero_le _, fun l hl1 => ?_⟩
    obtain ⟨px, ux, rfl, hpx, hux⟩ := id n1
    obtain ⟨pa, ua, rfl, hpa, hua⟩ := id n2
    have ex := pr_len hux
    have ea := pr_len hua
    have ul := unm_length x a he
    refine ⟨_, rfl, px, ux, rfl, sqT_mono (same_new hl1) hpx, ?_⟩
    refine for_enumT (K := K) (a := px) (xs := ux) (fun i σ H' => Same H1 H' ∧ (∃ zs, H' l = some (.lst zs) ∧ Paired (Num K (rem l H')) zs ((unm x a).take i)) ∧ ∃ w3 w4 w5, σ = [some (.ref px), some (.ref pa), some (.ref l), w3, w4, w5])
      ⟨same_new hl1, ⟨[], upd_same, by simpa using .nil⟩, _, _, _, rfl⟩ (fun i σ H' _ p => sqT_mono p.1 hpx) ?_ ?_
    · rintro i y T0 σ H' hi ⟨s2, ⟨zs, hz, nz⟩, w3, w4, w5, rfl⟩ hT0
      have hi' : i < x.length := by have := (List.getElem?_eq_some_iff.mp hi).1; omega
      refine ⟨T0, _, rfl, SqT.of upd_same, rfl, _, _, rfl, _, _, rfl, rfl, ?_⟩
      have s3 : Same H' (upd H' T0 (.tup [.int (i : Nat), y])) := same_new hT0
      generalize hH3 : upd H' T0 (.tup [.int (i : Nat), y]) = H3 at s3
      have s13 : Same H1 H3 := s2.trans s3
      have hz3 := s3 _ _ hz
      have nz3 : Paired (Num K (rem l H3)) zs ((unm x a).take i) := nums_mono (rem_mono s3) nz
      obtain ⟨qx, hqx, hqx2⟩ := row_at (i := i) (nums_mono s13 hux) hi'
      have ey : y = .ref qx := by
        rw [hi] at hqx
        exact Option.some.inj hqx
      subst ey
      obtain ⟨qa, hqa, hqa2⟩ := row_at (i := i) (nums_mono s13 hua) (by omega)
      refine ⟨_, rfl, _, rfl, .ref pa, a, i, rfl, (n2.mono s13).s, by omega, by omega, fun o fo => ?_⟩
      have hval := unm_val he hi' fo
      have fin : ∀ (y' : V) (H4 : Hp) (q : Rat) (w : Option V), Same H3 H4 → Num K H4 y' q → q = (unm x a).getD i 0 →
          Same H1 (upd H4 l (.lst (zs ++ [y']))) ∧ (∃ zs', (upd H4 l (.lst (zs ++ [y']))) l = some (.lst zs') ∧ Paired (Num K (rem l (upd H4 l (.lst (zs ++ [y']))))) zs' ((unm x a).take (i + 1))) := fun y' H4 q w s4 m4 e4 => by
        refine ⟨same_mut (s13.trans s4) hl1, _, upd_same, ?_⟩
        rw [take_next (by omega), ← e4]
        exact grown (s4 _ _ hz3) (nums_mono (rem_mono s4) nz3) m4
      have lz : zs.length < sizeLine := Evl.sz_lt (by rw [pr_len nz3, List.length_take]; omega)
      refine ⟨_, rfl, _, rfl, ixS (.inr (sqT_mono s13 hpa)) rfl hqa (ix0 hqa2 ⟨rfl, _, rfl, ?_⟩)⟩
      by_cases h0 : a.getD i 0 = 0
      · refine iteD (num_zero.mpr h0) ?_
        refine ⟨_, rfl, .inl ⟨rfl, _, SqL.of hz3⟩, _, rfl, l, zs, _, rfl, rfl, hz3, lz, ?_⟩
        obtain ⟨f1, f2⟩ := fin (.ref qx) H3 (x.getD i 0) none (Same.refl _) (num1 hqx2) (by
          rw [hval, h0]
          cases o with
          | none => rfl
          | some s => grind)
        exact ⟨f1, f2, _, _, _, rfl⟩
      · refine iteDN (fun z => h0 (num_zero.mp z)) ?_
        cases o with
        | none =>
          refine ⟨_, rfl, rfl, _, rfl, iteT ?_⟩
          refine ⟨_, rfl, .inl ⟨rfl, _, SqL.of hz3⟩, _, rfl, l, zs, _, rfl, rfl, hz3, lz, ?_⟩
          obtain ⟨f1, f2⟩ := fin (.ref qx) H3 (x.getD i 0) none (Same.refl _) (num1 hqx2) hval.symm
          exact ⟨f1, f2, _, _, _, rfl⟩
        | some s =>
          obtain ⟨g1, g2, g3, _⟩ := (show i < s ∧ s < a.length ∧ a.getD s 0 ≠ 0 ∧ _ from fo)
          obtain ⟨qs, hqs, hqs2⟩ := row_at (i := s) (nums_mono s13 hua) g2
          refine ⟨_, rfl, rfl, _, rfl, iteDN (fun z => by cases z) ?_⟩
          refine ⟨_, rfl, .inl ⟨rfl, _, SqL.of hz3⟩, _, rfl, ?_⟩
          refine ⟨_, rfl, _, rfl, ixS (.inr (sqT_mono s13 hpa)) rfl hqa ⟨_, rfl, _, rfl, ixS (.inr (sqT_mono s13 hpa)) rfl hqs ?_⟩⟩
          refine ⟨_, _, _, _, 10000000, 10000000, rfl, num1 hqa2, num1 hqs2, ba.at (by omega), ba.at g2, by decide, g3, fun v5 H5 s5 m5 => ?_⟩
          obtain ⟨qr, hqr, hqr2⟩ := row_at (i := s) (nums_mono (s13.trans s5) hux) (by omega)
          refine ⟨_, rfl, _, rfl, ixS (.inr (sqT_mono (s13.trans s5) hpx)) rfl hqr ?_⟩
          refine ⟨_, _, _, _, 20000000, 10000000, rfl, m5, num1 hqr2, (hb_div (ba.at (by omega)) (ba.at g2)).mono (by decide), bx.at (by omega), by decide, trivial, fun v6 H6 s6 m6 => ?_⟩
          have s36 : Same H3 H6 := s5.trans s6
          refine ⟨_, _, _, _, 10000000, 30000000, rfl, (num1 hqx2).mono s36, m6, bx.at hi', (hb_mul (hb_div (ba.at (by omega)) (ba.at g2)) (bx.at (by omega))).mono (by decide), by decide, trivial, fun v7 H7 s7 m7 => ?_⟩
          have s37 : Same H3 H7 := s36.trans s7
          refine ⟨l, zs, _, rfl, rfl, s37 _ _ hz3, lz, ?_⟩
          obtain ⟨f1, f2⟩ := fin v7 H7 _ none s37 m7 hval.symm
          exact ⟨f1, f2, _, _, _, rfl⟩
    · rintro σ H' ⟨s2, ⟨zs, hz, nz⟩, w3, w4, w5, rfl⟩
      refine ⟨_, rfl, l, zs, rfl, .inl ⟨SqL.of hz, fun t ht => ?_⟩⟩
      rw [show ux.length = (unm x a).length by omega, List.take_length] at nz
      exact k _ _ (s1.trans (s2.trans (same_new ht))) ⟨t, zs, rfl, SqT.of upd_same, nums_mono (rem_same.trans (same_new ht)) nz⟩
end MU
namespace MU
open PySem PySem.Spec PyProof.Rows L2 He MM
section
variable {K : PySem.W.Frag} {H : Hp} {p : Addr} {xs ys : List V} {Q : VK}
theorem cut_all {lo hi : Option Int} (h : HT.sIx xs.length 0 lo = 0 ∧ HT.sIx xs.length xs.length hi = xs.length) : cutV xs lo hi = xs := by
  unfold cutV
  rw [h.1, h.2]
  simp
theorem slS {lo hi : Option Int} (h : SqS K H p xs) (e : cutV xs lo hi = ys) (k : ∀ p' H', Same H H' → SqS K H' p' ys → Q (.ref p') H') : rSlS K (.ref p) lo hi H Q := by
  rcases h with h | h
  · exact .inl ⟨p, xs, rfl, h, fun q hq => k q _ (same_new hq) (.inl (SqL.of (by rw [e]; exact upd_same)))⟩
  · exact .inr ⟨p, xs, rfl, h, fun w => k p H (Same.refl H) (.inr (by rw [← e, cut_all w]; exact h)), fun _ q hq => k q _ (same_new hq) (.inr (SqT.of (by rw [e]; exact upd_same)))⟩
theorem slT {lo hi : Option Int} (h : SqT K H p xs) (e : cutV xs lo hi = ys) (k : ∀ p' H', Same H H' → SqT K H' p' ys → Q (.ref p') H') : rSlS K (.ref p) lo hi H Q :=
  .inr ⟨p, xs, rfl, h, fun w => k p H (Same.refl H) (by rw [← e, cut_all w]; exact h), fun _ q hq => k q _ (same_new hq) (SqT.of (by rw [e]; exact upd_same))⟩
theorem slL {lo hi : Option Int} (h : SqL K H p xs) (e : cutV xs lo hi = ys) (k : ∀ p' H', Same H H' → H p' = none → H' p' = some (.lst ys) → Q (.ref p') H') : rSlS K (.ref p) lo hi H Q :=
  .inl ⟨p, xs, rfl, h, fun q hq => k q _ (same_new hq) hq (by rw [e]; exact upd_same)⟩
theorem cut_front (xs : List V) : cutV xs none (some (-1)) = xs.dropLast := by
  unfold cutV
  show (xs.drop 0).take ((if (-1 : Int) < 0 then ((-1 : Int) + (xs.length : Int)).toNat else min (-1 : Int).toNat xs.length) - 0) = _
  rw [if_pos (by decide), List.drop_zero, List.dropLast_eq_take]
  congr 1
  omega
theorem cut_to (xs : List V) {k : Nat} (h : k ≤ xs.length) : cutV xs none (some (k : Int)) = xs.take k := by
  unfold cutV
  rw [HT.sIx_none, HT.sIx_nat, Nat.min_eq_left h]
  simp
theorem cut_from (xs : List V) {k : Nat} (h : k ≤ xs.length) : cutV xs (some (k : Int)) none = xs.drop k := by
  unfold cutV
  rw [HT.sIx_none, HT.sIx_nat, Nat.min_eq_left h]
  exact List.take_of_length_le (by simp)
end
theorem fld_rows {P : Program} {K : PySem.W.Frag} {mg : Str → Option Value} {base : Heap} {H : Hp} {p dx : Addr} {rv : V} {m n : Nat} {Q : VK} (T : Txt P K mg base) (h : H p = some (.ins (cTab K) dx (tf rv m n))) (k : Q rv H) :
    ∃ a C dx fs v, V.ref p = .ref a ∧ H a = some (.ins C dx fs) ∧ Cls K C ∧ NoAttr K C "rows" ∧ fs.lookup ("rows" : Str) = some v ∧ Q v H := ⟨p, _, dx, _, rv, rfl, h, T.cl, T.nR, tf_rows _ _ _, k⟩
theorem fld_high {P : Program} {K : PySem.W.Frag} {mg : Str → Option Value} {base : Heap} {H : Hp} {p dx : Addr} {rv : V} {m n : Nat} {Q : VK} (T : Txt P K mg base) (h : H p = some (.ins (cTab K) dx (tf rv m n))) (k : Q (.int m) H) :
    ∃ a C dx fs v, V.ref p = .ref a ∧ H a = some (.ins C dx fs) ∧ Cls K C ∧ NoAttr K C "high" ∧ fs.lookup ("high" : Str) = some v ∧ Q v H := ⟨p, _, dx, _, _, rfl, h, T.cl, T.nH, tf_high _ _ _, k⟩
theorem fld_wide {P : Program} {K : PySem.W.Frag} {mg : Str → Option Value} {base : Heap} {H : Hp} {p dx : Addr} {rv : V} {m n : Nat} {Q : VK} (T : Txt P K mg base) (h : H p = some (.ins (cTab K) dx (tf rv m n))) (k : Q (.int n) H) :
    ∃ a C dx fs v, V.ref p = .ref a ∧ H a = some (.ins C dx fs) ∧ Cls K C ∧ NoAttr K C "wide" ∧ fs.lookup ("wide" : Str) = some v ∧ Q v H := ⟨p, _, dx, _, _, rfl, h, T.cl, T.nW, tf_wide _ _ _, k⟩
def spAbove (K : PySem.W.Frag) : Sp := fun vs H Q _ => ∃ (v : V) (n : Nat) (S : List (List Rat)) (a : List Rat), vs = [v] ∧ SeqT K H v (S ++ [a]) ∧ Wide n (S ++ [a]) ∧ n ≤ 1000 ∧ S.length ≤ 1000 ∧ (S ≠ [] → hbT 10000000 (S ++ [a])) ∧
  ∀ p ys H', Same H H' → H p = none → H' p = some (.lst ys) → Paired (RowT K H') ys (S.map fun x => unm x a) → Q (.ref p) H'
theorem sc_rows_above : FnScope ["rows", "row"] ["rows"] (defScope (top 41)) := ⟨rfl, rfl, rfl, by decide +kernel, rfl, by decide +kernel, by decide +kernel⟩
theorem ok_rows_above {P : Program} {w : World} {K : PySem.W.Frag} {mg : Str → Option Value} {base : Heap} (T : Txt P K mg base) : Fd P w K mg base 44 "rows_above" ["rows"] (spAbove K) := by
  have sc := sc_rows_above
  refine mkFd T "rows_above" 41 (by decide) sc (fun vs H Q E h => ?_) (fun _ _ _ _ _ _ us hl => match us, hl with | [_], _ => rfl) (fun cdv A outer s H vs Q E hr h => ?_)
  · obtain ⟨_, n, S, a, rfl, ⟨p, us, rfl, hs, hn⟩, hw, hn1, hS, hbS, k⟩ := h
    rfl
  · obtain ⟨_, n, S, a, rfl, ⟨p, us, rfl, hs, hn⟩, hw, hn1, hS, hbS, k⟩ := h
    refine ⟨_, (pss_one (ps_ret (pe_lc (own := [("row", 1)]) (g := gName 1) rfl sc.nd (pi_seqK K rfl (pe_slice (r := rSlS K) sl_seq (pv 0) po_none (po_some (pe_un un_neg pe_int)))) (blkOk_by (own := [("row", 1)]) (N := ["rows", "row"]) (sc := defScope (top 41)) (by decide +kernel)) (fun _ _ _ _ _ => pg_name (i := 1) sc.nd rfl (Or.inl rfl)) (fun _ _ _ _ _ => pts_nil) (fun _ _ _ _ _ => (pe_cf (ok_unmade_row T) (hr.mono (by decide)) rfl (pa_cons (pv 1) (pa_cons (pe_ix (r := rIx K) ix_seq (pv 0) (pe_un un_neg pe_int) (fun _ _ => rfl)) pa_nil))))))), ?_⟩
    have eu := pr_len hn
    have eu' : us.length = S.length + 1 := by simpa using eu
    obtain ⟨v0, hv0, ra⟩ := pr_get hn (show (S ++ [a])[S.length]? = some a by simp)
    refine ⟨_, rfl, 1, rfl, -1, rfl, ?_⟩
    refine slS hs (cut_front us) fun p' H1 s1 hs1 => ?_
    have hS1 : Paired (RowT K H) us.dropLast S := by
      have h := pr_take S.length hn
      rw [List.take_left] at h
      rwa [List.dropLast_eq_take, show us.length - 1 = S.length by omega]
    refine ⟨p', rfl, lc_mapS hs1 (by simp; omega) (fun i v H => ∃ x, S[i]? = some x ∧ RowT K H v (unm x a)) (fun i v H H' s ⟨r, b, c⟩ => ⟨r, b, c.mono s⟩) ?_ ?_⟩
    · intro D hD i x H4 hi s4 ⟨acc, hacc⟩ Qe kq
      obtain ⟨r, hr', rx⟩ := pr_getl hS1 hi
      have hne : S ≠ [] := by
        intro z
        subst z
        simp at hr'
      have s14 : Same H H4 := s1.trans (s4.trans rem_same)
      have hB := hbS hne
      refine ⟨rfl, _, rfl, _, rfl, 1, rfl, ixLast (sqS_mono s14 hs) (by rw [show us.length - 1 = S.length by omega]; exact hv0) ?_⟩
      have w1 := hw r (List.mem_append_left _ (List.mem_of_getElem? hr'))
      have w2 := hw a (by simp)
      refine ⟨_, _, r, a, rfl, (rx.mono s14).s, (ra.mono s14).s, by omega, by omega, hB r (List.mem_append_left _ (List.mem_of_getElem? hr')), hB a (by simp), fun v' H6 s6 n6 => ?_⟩
      exact kq v' H6 s6 ⟨r, hr', n6.rem (s6 _ _ hacc)⟩
    · intro D hD H5 ys s5 h5 hl5 hr5
      refine k D ys H5 (s1.trans (s5.trans rem_same)) (s1.free hD) h5 (pr_of (by simp [hl5]; omega) fun i y z h1 h2 => ?_)
      obtain ⟨r, e1, e2⟩ := hr5 i y h1
      rw [List.getElem?_map, e1] at h2
      cases h2
      exact e2.mono rem_same
def spUnmade (K : PySem.W.Frag) : Sp := fun vs H Q _ => ∃ (v : V) (n : Nat) (R : List (List Rat)), vs = [v] ∧ Tbl K H v n R ∧ okU 10000000 R ∧ ∀ v' H', Same H H' → Tbl K H' v' n (core R) → Q v' H'
def foundR (R : List (List Rat)) (k : Nat) : List (List Rat) := ((core R).drop k).reverse
theorem foundR_step {R : List (List Rat)} {k : Nat} (h : k < R.length) : foundR R k = foundR R (k + 1) ++ [(core R)[k]'(by rw [core_length]; exact h)] := by
  unfold foundR
  rw [List.drop_eq_getElem_cons (by rw [core_length]; exact h)]
  simp
theorem lev_split {R : List (List Rat)} {k : Nat} (h : k < R.length) : ∃ S a, lev R (k + 1) = S ++ [a] ∧ S.length = k ∧ a = (core R)[k]'(by rw [core_length]; exact h) ∧ S.map (fun x => unm x a) = lev R k :=
  ⟨_, _, lev_succ h, by rw [List.length_take, lev_length h]; omega, rfl, lev_round h⟩
theorem sc_unmade : FnScope ["table", "rows", "found"] ["table"] (defScope (top 42)) := ⟨rfl, rfl, rfl, by decide +kernel, rfl, by decide +kernel, by decide +kernel⟩
theorem ok_unmade {P : Program} {w : World} {K : PySem.W.Frag} {mg : Str → Option Value} {base : Heap} (T : Txt P K mg base) : Fd P w K mg base 45 "unmade" ["table"] (spUnmade K) := by
  have sc := sc_unmade
  refine mkFd T "unmade" 42 (by decide) sc (fun vs H Q E h => ?_) (fun _ _ _ _ _ _ us hl => match us, hl with | [_], _ => rfl) (fun cdv A outer s H vs Q E hr h => ?_)
  · obtain ⟨_, n, R, rfl, ⟨⟨p, dx, rv, rfl, hp, ht⟩, hw, h0, h12, hn0, hn12⟩, hok, k⟩ := h
    rfl
  · obtain ⟨_, n, R, rfl, ⟨⟨p, dx, rv, rfl, hp, ht⟩, hw, h0, h12, hn0, hn12⟩, hok, k⟩ := h
    refine ⟨_, (pss_cons (ps_set (i := 1) sc.nd rfl (Or.inl rfl) (pe_callTy (r := (rListOf K)) call_list_of rfl T.list boot_list (pa_cons (pe_fld (pv 0) rfl) pa_nil)))
      (pss_cons (ps_set (i := 2) sc.nd rfl (Or.inl rfl) (pe_lst pa_nil))
      (pss_cons (ps_while PassesOwn.never (pt_cmpR (op_gt) (pe_callB call_len rfl T.len boot_len (pa_cons (pv 1) pa_nil)) pe_int (nomark _)) (pss_cons (ps_expr (pe_bm PySem.F.plainAttrs_list PySem.F.slot_list_append PySem.F.type_list_append mt_append (pv 2) (pa_cons (pe_ix (r := rIx K) ix_seq (pv 1) (pe_un un_neg pe_int) (fun _ _ => rfl)) pa_nil)))
      (pss_one (ps_set (i := 1) sc.nd rfl (Or.inl rfl) (pe_cf (ok_rows_above T) (hr.mono (by decide)) rfl (pa_cons (pv 1) pa_nil))))))
      (pss_one (ps_ret (pe_ct (ok_m_init T) T (hr.mono (by decide)) rfl (pa_cons (pe_revL (pv 2)) pa_nil))))))), ?_⟩
    obtain ⟨p1, u1, rfl, hp1, hu1⟩ := id ht
    refine ⟨_, rfl, fld_rows T hp ⟨p1, u1, rfl, .inr hp1, fun pr hpr => ?_⟩⟩
    refine ⟨Nat.zero_le _, fun l hl => ?_⟩
    have s1 := same_new (o := .lst u1) hpr
    have s2 : Same H (upd (upd H pr (.lst u1)) l (.lst [])) := s1.trans (same_new hl)
    have hl0 : H l = none := s1.free hl
    have hprl : pr ≠ l := fun z => by
      rw [← z, upd_same] at hl
      cases hl
    refine ⟨fun m σ H' => m ≤ R.length ∧ Same H H' ∧ (∃ pr ur zs, pr ≠ l ∧ H' pr = some (.lst ur) ∧ Paired (RowT K H') ur (lev R m) ∧ H' l = some (.lst zs) ∧ Paired (RowT K H') zs (foundR R m) ∧ σ = [some (.ref p), some (.ref pr), some (.ref l)]),
      ⟨R.length, Nat.le_refl _, s2, pr, u1, [], hprl, by rw [upd_ne hprl]; exact upd_same, ?_, upd_same, ?_, rfl⟩, ?_⟩
    · rw [lev_all]
      exact rowTs_mono s2 hu1
    · have e : foundR R R.length = [] := by
        unfold foundR
        rw [List.drop_of_length_le (by rw [core_length]; exact Nat.le_refl _)]
        rfl
      rw [e]
      exact .nil
    · rintro m σ H' ⟨hm, s3, pr, ur, zs, hne, hur, nur, hzs, nzs, rfl⟩
      have eur := pr_len nur
      rw [lev_length hm] at eur
      refine ⟨_, rfl, _, ur.length, rfl, .inl ⟨_, SqL.of hur, rfl⟩, _, _, rfl, rfl, _, rfl, ?_⟩
      cases m with
      | zero =>
        refine iteDN (by omega) ?_
        refine ⟨_, rfl, l, zs, rfl, SqL.of hzs, fun q hq => ?_⟩
        have s4 : Same H' (upd H' q (.lst zs.reverse)) := same_new hq
        have e : (foundR R 0).reverse = core R := by simp [foundR]
        refine tab_make (n := n) (R := core R) (SeqT.s ⟨q, zs.reverse, rfl, .inl (SqL.of upd_same), ?_⟩) (core_wide hw) (by rw [core_length]; exact h0) (by rw [core_length]; exact h12) hn0 hn12 (fun v' H5 s5 t5 => k v' H5 (s3.trans (s4.trans s5)) t5)
        have h := pr_rev (rowTs_mono s4 nzs)
        rwa [e] at h
      | succ m =>
        refine iteD (by omega) ?_
        have hm' : m < R.length := hm
        obtain ⟨S, a, eS, lS, ea, eR⟩ := lev_split hm'
        rw [eS] at nur
        obtain ⟨va, hva, ra⟩ := pr_get nur (show (S ++ [a])[m]? = some a by simp [← lS])
        refine ⟨fun σ' H'' => m ≤ R.length ∧ Same H H'' ∧ (∃ pr ur zs, pr ≠ l ∧ H'' pr = some (.lst ur) ∧ Paired (RowT K H'') ur (lev R m) ∧ H'' l = some (.lst zs) ∧ Paired (RowT K H'') zs (foundR R m) ∧ σ' = [some (.ref p), some (.ref pr), some (.ref l)]),
          fun σ' H'' h => ⟨m, Nat.lt_succ_self m, h⟩, ?_⟩
        have lz : zs.length < sizeLine := Evl.sz_lt (by
          have := pr_len nzs
          unfold foundR at this
          rw [List.length_reverse, List.length_drop, core_length] at this
          omega)
        refine ⟨_, rfl, .inl ⟨rfl, _, SqL.of hzs⟩, _, rfl, 1, rfl, ixLast (.inl (SqL.of hur)) (by rw [show ur.length - 1 = m by omega]; exact hva) ⟨l, zs, _, rfl, rfl, hzs, lz, ?_⟩⟩
        have s4 : Same H (upd H' l (.lst (zs ++ [va]))) := same_mut s3 hl0
        have hur2 : upd H' l (.lst (zs ++ [va])) pr = some (.lst ur) := by rw [upd_ne hne]; exact hur
        refine ⟨_, rfl, _, n, S, a, rfl, ⟨pr, ur, rfl, .inl (SqL.of hur2), rowTs_upd hzs nur⟩, by rw [← eS]; exact lev_wide hw _, by omega, by omega, fun hSne => by
          rw [← eS]
          refine hok (m + 1) ?_ hm
          have : 0 < S.length := List.length_pos_iff.mpr hSne
          omega, fun q ys H5 s5 hq0 hq1 nq => ?_⟩
        have hl5 := s5 _ _ (show upd H' l (.lst (zs ++ [va])) l = some (.lst (zs ++ [va])) from upd_same)
        refine ⟨by omega, s4.trans s5, q, ys, zs ++ [va], fun z => ?_, hq1, by rw [← eR]; exact nq, hl5, ?_, rfl⟩
        · rw [z, upd_same] at hq0
          cases hq0
        · rw [foundR_step hm', ← ea]
          exact rowTs_mono s5 (pr_app (rowTs_upd hzs nzs) (.cons (ra.upd hzs) .nil))
def spLevel (K : PySem.W.Frag) : Sp := fun vs H Q _ => ∃ (v : V) (n i : Nat) (R : List (List Rat)), vs = [v, .int (i : Nat)] ∧ Tbl K H v n R ∧ i < R.length ∧ okU 10000000 R ∧ ∀ v' H', Same H H' → Tbl K H' v' n (lev R (i + 1)) → Q v' H'
theorem sc_level : FnScope ["table", "at", "rows"] ["table", "at"] (defScope (top 43)) := ⟨rfl, rfl, rfl, by decide +kernel, rfl, by decide +kernel, by decide +kernel⟩
theorem ok_level {P : Program} {w : World} {K : PySem.W.Frag} {mg : Str → Option Value} {base : Heap} (T : Txt P K mg base) : Fd P w K mg base 45 "level" ["table", "at"] (spLevel K) := by
  have sc := sc_level
  refine mkFd T "level" 43 (by decide) sc (fun vs H Q E h => ?_) (fun _ _ _ _ _ _ us hl => match us, hl with | [_, _], _ => rfl) (fun cdv A outer s H vs Q E hr h => ?_)
  · obtain ⟨_, n, i, R, rfl, ⟨⟨p, dx, rv, rfl, hp, ht⟩, hw, h0, h12, hn0, hn12⟩, hi, hok, k⟩ := h
    rfl
  · obtain ⟨_, n, i, R, rfl, ⟨⟨p, dx, rv, rfl, hp, ht⟩, hw, h0, h12, hn0, hn12⟩, hi, hok, k⟩ := h
    refine ⟨_, (pss_cons (ps_expr (pe_cf (ok_row_at T) (hr.mono (by decide)) rfl (pa_cons (pv 1) (pa_cons (pe_fld (pv 0) rfl) pa_nil))))
      (pss_cons (ps_set (i := 2) sc.nd rfl (Or.inl rfl) (pe_callTy (r := (rListOf K)) call_list_of rfl T.list boot_list (pa_cons (pe_fld (pv 0) rfl) pa_nil)))
      (pss_cons (ps_while PassesOwn.never (pt_cmpR (op_gt) (pe_callB call_len rfl T.len boot_len (pa_cons (pv 2) pa_nil)) (pe_op (op_add) (pv 1) pe_int) (nomark _)) (pss_one (ps_set (i := 2) sc.nd rfl (Or.inl rfl) (pe_cf (ok_rows_above T) (hr.mono (by decide)) rfl (pa_cons (pv 2) pa_nil)))))
      (pss_one (ps_ret (pe_ct (ok_m_init T) T (hr.mono (by decide)) rfl (pa_cons (pv 2) pa_nil))))))), ?_⟩
    obtain ⟨p1, u1, rfl, hp1, hu1⟩ := id ht
    refine ⟨_, rfl, _, rfl, fld_high T hp ⟨_, _, rfl, by omega, by omega, ?_⟩⟩
    refine ⟨_, rfl, fld_rows T hp ⟨p1, u1, rfl, .inr hp1, fun pr hpr => ?_⟩⟩
    have s1 := same_new (o := .lst u1) hpr
    refine ⟨fun m σ H' => i + 1 ≤ m ∧ m ≤ R.length ∧ Same H H' ∧ (∃ pr ur, H' pr = some (.lst ur) ∧ Paired (RowT K H') ur (lev R m) ∧ σ = [some (.ref p), some (.int (i : Nat)), some (.ref pr)]),
      ⟨R.length, by omega, Nat.le_refl _, s1, pr, u1, upd_same, by rw [lev_all]; exact rowTs_mono s1 hu1, rfl⟩, ?_⟩
    rintro m σ H' ⟨hm1, hm, s3, pr, ur, hur, nur, rfl⟩
    have eur := pr_len nur
    rw [lev_length hm] at eur
    refine ⟨_, rfl, _, ur.length, rfl, .inl ⟨_, SqL.of hur, rfl⟩, _, rfl, _, _, rfl, rfl, _, _, rfl, rfl, _, rfl, ?_⟩
    by_cases hmi : m = i + 1
    · refine iteDN (by omega) ?_
      subst hmi
      refine ⟨_, rfl, ?_⟩
      exact tab_make (n := n) (R := lev R (i + 1)) (SeqT.s ⟨pr, ur, rfl, .inl (SqL.of hur), nur⟩) (lev_wide hw _) (by rw [lev_length hm]; omega) (by rw [lev_length hm]; omega) hn0 hn12 (fun v' H5 s5 t5 => k v' H5 (s3.trans s5) t5)
    · refine iteD (by omega) ?_
      obtain ⟨m, rfl⟩ : ∃ z, m = z + 1 := ⟨m - 1, by omega⟩
      obtain ⟨S, a, eS, lS, ea, eR⟩ := lev_split (show m < R.length by omega)
      rw [eS] at nur
      refine ⟨fun σ' H'' => i + 1 ≤ m ∧ m ≤ R.length ∧ Same H H'' ∧ (∃ pr ur, H'' pr = some (.lst ur) ∧ Paired (RowT K H'') ur (lev R m) ∧ σ' = [some (.ref p), some (.int (i : Nat)), some (.ref pr)]),
        fun σ' H'' h => ⟨m, Nat.lt_succ_self m, h⟩, ?_⟩
      refine ⟨_, rfl, _, n, S, a, rfl, ⟨pr, ur, rfl, .inl (SqL.of hur), nur⟩, by rw [← eS]; exact lev_wide hw _, by omega, by omega, fun hSne => by
          rw [← eS]
          exact hok (m + 1) (by omega) hm, fun q ys H5 s5 hq0 hq1 nq => ?_⟩
      exact ⟨by omega, by omega, s3.trans s5, q, ys, hq1, by rw [← eR]; exact nq, rfl⟩
def spCoreRow (K : PySem.W.Frag) : Sp := fun vs H Q _ => ∃ (v : V) (n i : Nat) (R : List (List Rat)), vs = [v, .int (i : Nat)] ∧ Tbl K H v n R ∧ i < R.length ∧ okU 10000000 R ∧ ∀ v' H', Same H H' → RowT K H' v' ((core R).getD i []) → Q v' H'
theorem sc_core_row : FnScope ["table", "at"] ["table", "at"] (defScope (top 44)) := ⟨rfl, rfl, rfl, by decide +kernel, rfl, by decide +kernel, by decide +kernel⟩
theorem ok_core_row {P : Program} {w : World} {K : PySem.W.Frag} {mg : Str → Option Value} {base : Heap} (T : Txt P K mg base) : Fd P w K mg base 46 "core_row" ["table", "at"] (spCoreRow K) := by
  have sc := sc_core_row
  refine mkFd T "core_row" 44 (by decide) sc (fun vs H Q E h => ?_) (fun _ _ _ _ _ _ us hl => match us, hl with | [_, _], _ => rfl) (fun cdv A outer s H vs Q E hr h => ?_)
  · obtain ⟨v, n, i, R, rfl, ht, hi, hok, k⟩ := h
    rfl
  · obtain ⟨v, n, i, R, rfl, ht, hi, hok, k⟩ := h
    refine ⟨_, (pss_one (ps_ret (pe_ix (r := rIx K) ix_seq (pe_fld (pe_cf (ok_level T) (hr.mono (by decide)) rfl (pa_cons (pv 0) (pa_cons (pv 1) pa_nil))) rfl) (pv 1) (fun _ _ => rfl)))), ?_⟩
    refine ⟨_, rfl, _, rfl, v, n, i, R, rfl, ht, hi, hok, fun v' H' s t => ?_⟩
    obtain ⟨⟨p, dx, rv, rfl, hp, p1, u1, rfl, hp1, hu1⟩, _⟩ := t
    refine ⟨p, _, dx, _, _, rfl, hp, T.cl, T.nR, tf_rows _ _ _, _, rfl, ?_⟩
    have hl := lev_last hi
    obtain ⟨va, hva, ra⟩ := pr_get hu1 (List.getElem?_eq_getElem (show i < (lev R (i + 1)).length by rw [lev_length hi]; omega))
    refine ixS (.inr hp1) rfl hva (k va H' s ?_)
    rw [List.getD_eq_getElem?_getD, List.getElem?_eq_getElem (by rw [core_length]; exact hi)]
    rw [hl] at ra
    exact ra
def spLast (K : PySem.W.Frag) : Sp := fun vs H Q _ => ∃ (v : V) (n : Nat) (S : List (List Rat)) (a : List Rat), vs = [v] ∧ Tbl K H v n (S ++ [a]) ∧ S ≠ [] ∧ hbT 10000000 (S ++ [a]) ∧
  ∀ p v' w' H', Same H H' → H' p = some (.tup [v', w']) → Tbl K H' v' n (S.map fun x => unm x a) → RowT K H' w' a → Q (.ref p) H'
theorem sc_last_round : FnScope ["table"] ["table"] (defScope (top 45)) := ⟨rfl, rfl, rfl, by decide +kernel, rfl, by decide +kernel, by decide +kernel⟩
theorem ok_last_round {P : Program} {w : World} {K : PySem.W.Frag} {mg : Str → Option Value} {base : Heap} (T : Txt P K mg base) : Fd P w K mg base 45 "last_round" ["table"] (spLast K) := by
  have sc := sc_last_round
  refine mkFd T "last_round" 45 (by decide) sc (fun vs H Q E h => ?_) (fun _ _ _ _ _ _ us hl => match us, hl with | [_], _ => rfl) (fun cdv A outer s H vs Q E hr h => ?_)
  · obtain ⟨_, n, S, a, rfl, ⟨⟨p, dx, rv, rfl, hp, ht⟩, hw, h0, h12, hn0, hn12⟩, hS, hbS, k⟩ := h
    rfl
  · obtain ⟨_, n, S, a, rfl, ⟨⟨p, dx, rv, rfl, hp, ht⟩, hw, h0, h12, hn0, hn12⟩, hS, hbS, k⟩ := h
    refine ⟨_, (pss_cons (ps_if (pt_cmpR (op_eq) (pe_fld (pv 0) rfl) pe_int (nomark _)) (pss_one ps_never) pss_nil)
      (pss_one (ps_ret (pe_tup (pa_cons (pe_ct (ok_m_init T) T (hr.mono (by decide)) rfl (pa_cons (pe_cf (ok_rows_above T) (hr.mono (by decide)) rfl (pa_cons (pe_fld (pv 0) rfl) pa_nil)) pa_nil)) (pa_cons (pe_ix (r := rIx K) ix_seq (pe_fld (pv 0) rfl) (pe_un un_neg pe_int) (fun _ _ => rfl)) pa_nil)))))), ?_⟩
    have hSl : 0 < S.length := List.length_pos_iff.mpr hS
    have hlen : (S ++ [a]).length = S.length + 1 := by simp
    refine ⟨_, rfl, p, _, dx, _, _, rfl, hp, T.cl, T.nH, tf_high _ _ _, rfl, _, rfl, iteDN (int_ne (by rw [hlen]; omega)) ?_⟩
    refine ⟨_, rfl, p, _, dx, _, _, rfl, hp, T.cl, T.nR, tf_rows _ _ _, ⟨rv, n, S, a, rfl, ht.seq, hw, by omega, by omega, fun _ => hbS, fun q ys H1 s1 hq0 hq1 nq => ?_⟩⟩
    refine tab_mk (n := n) (R := S.map fun x => unm x a) (SeqT.s ⟨q, ys, rfl, .inl (SqL.of hq1), nq⟩) (fun z hz => ?_) (by rw [List.length_map]; exact hSl) (by rw [List.length_map]; omega) hn0 hn12 (fun v' H2 s2 t2 => ⟨rfl, ?_⟩)
    · obtain ⟨r, hr', rfl⟩ := List.mem_map.mp hz
      have w1 := hw r (List.mem_append_left _ hr')
      have w2 := hw a (by simp)
      rw [unm_length _ _ (by omega), w1]
    · have s12 := s1.trans s2
      obtain ⟨p1, u1, rfl, hp1, hu1⟩ := ht.mono s12
      have eu := pr_len hu1
      obtain ⟨va, hva, ra⟩ := pr_get hu1 (show (S ++ [a])[S.length]? = some a by simp)
      refine ⟨_, rfl, p, _, dx, _, _, rfl, s12 _ _ hp, T.cl, T.nR, tf_rows _ _ _, 1, rfl, ixLast (.inr hp1) (by rw [show u1.length - 1 = S.length by omega]; exact hva) ⟨by show 2 ≤ sizeLine; decide, fun t htn => ?_⟩⟩
      have s3 := same_new (o := .tup [.ref v', va]) htn
      exact k t _ va _ (s12.trans s3) upd_same (t2.mono s3) (ra.mono s3)
end MU
namespace MU
open PySem PySem.Spec PyProof.Rows L2 He MM
theorem num01 {K : PySem.W.Frag} {H : Hp} {p : Addr} (h : H p = some (.tup [.int 0, .int 1])) : Num K H (.ref p) 0 := ⟨p, rfl, SqT.of h⟩
def spMade (K : PySem.W.Frag) : Sp := fun vs H Q _ => ∃ (v w : V) (x a : List Rat), vs = [v, w] ∧ RowS K H v (unm x a) ∧ RowS K H w a ∧ x.length = a.length ∧ 0 < x.length ∧ x.length ≤ 1000 ∧ hbR 10000000 x ∧ hbR 10000000 a ∧
  ∀ v' H', Same H H' → RowT K H' v' x → Q v' H'
theorem sc_made_row : FnScope ["row", "by", "total", "out", "at"] ["row", "by"] (defScope (top 47)) := ⟨rfl, rfl, rfl, by decide +kernel, rfl, by decide +kernel, by decide +kernel⟩
theorem ok_made_row {P : Program} {w : World} {K : PySem.W.Frag} {mg : Str → Option Value} {base : Heap} (T : Txt P K mg base) : Fd P w K mg base 43 "made_row" ["row", "by"] (spMade K) := by
  have sc := sc_made_row
  refine mkFd T "made_row" 47 (by decide) sc (fun vs H Q E h => ?_) (fun _ _ _ _ _ _ us hl => match us, hl with | [_, _], _ => rfl) (fun cdv A outer s H vs Q E hr h => ?_)
  · obtain ⟨v, v2, x, a, rfl, hv, hv2, he, h0, hl, bx, ba, k⟩ := h
    rfl
  · obtain ⟨v, v2, x, a, rfl, hv, hv2, he, h0, hl, bx, ba, k⟩ := h
    refine ⟨_, (pss_cons (ps_asg (pe_cf (ok_pair_of_rows T) (hr.mono (by decide)) rfl (pa_cons (pv 0) (pa_cons (pv 1) pa_nil))) (pg_tup rfl (pgs_cons (pg_name (i := 0) sc.nd rfl (Or.inl rfl)) (pgs_cons (pg_name (i := 1) sc.nd rfl (Or.inl rfl)) pgs_nil))))
      (pss_cons (ps_set (i := 2) sc.nd rfl (Or.inl rfl) (pe_tup (pa_cons pe_int (pa_cons pe_int pa_nil))))
      (pss_cons (ps_set (i := 3) sc.nd rfl (Or.inl rfl) (pe_lst pa_nil))
      (pss_cons (ps_for PassesOwn.never rfl (pi_range3 rfl T.range (pa_cons (pe_op (op_sub) (pe_callB call_len rfl T.len boot_len (pa_cons (pv 0) pa_nil)) pe_int) (pa_cons (pe_un un_neg pe_int) (pa_cons (pe_un un_neg pe_int) pa_nil)))) (pg_name (i := 4) sc.nd rfl (Or.inl rfl)) (pss_one (ps_if (pt_cmpR (op_eq) (pe_ix (r := rIx K) ix_seq (pe_ix (r := rIx K) ix_seq (pv 1) (pv 4) (fun _ _ => rfl)) pe_int (fun _ _ => rfl)) pe_int (nomark _)) (pss_one (ps_expr (pe_bm PySem.F.plainAttrs_list PySem.F.slot_list_append PySem.F.type_list_append mt_append (pv 3) (pa_cons (pe_ix (r := rIx K) ix_seq (pv 0) (pv 4) (fun _ _ => rfl)) pa_nil)))) (pss_cons (ps_set (i := 2) sc.nd rfl (Or.inl rfl) (pe_cf (ok_plus T) (hr.mono (by decide)) rfl (pa_cons (pv 2) (pa_cons (pe_cf (ok_over T) (hr.mono (by decide)) rfl (pa_cons (pe_ix (r := rIx K) ix_seq (pv 0) (pv 4) (fun _ _ => rfl)) (pa_cons (pe_ix (r := rIx K) ix_seq (pv 1) (pv 4) (fun _ _ => rfl)) pa_nil))) pa_nil))))
      (pss_one (ps_expr (pe_bm PySem.F.plainAttrs_list PySem.F.slot_list_append PySem.F.type_list_append mt_append (pv 3) (pa_cons (pe_cf (ok_times T) (hr.mono (by decide)) rfl (pa_cons (pe_ix (r := rIx K) ix_seq (pv 1) (pv 4) (fun _ _ => rfl)) (pa_cons (pv 2) pa_nil))) pa_nil))))))))
      (pss_one (ps_ret (pe_callTy (r := (rTupOf K)) call_tuple_of rfl T.tuple boot_tuple (pa_cons (pe_revL (pv 3)) pa_nil)))))))), ?_⟩
    have ul := unm_length x a he
    have bu : hbR (4 * 10000000 + 1) (unm x a) := hb_unm bx ba
    refine ⟨_, rfl, _, rfl, v, v2, unm x a, a, rfl, hv, hv2, by omega, by omega, fun p v' w' H1 s1 hp n1 n2 => ?_⟩
    refine ⟨p, _, rfl, SqT.of hp, rfl, _, _, rfl, _, _, rfl, rfl, ?_⟩
    obtain ⟨px, ux, rfl, hpx, hux⟩ := id n1
    obtain ⟨pa, ua, rfl, hpa, hua⟩ := id n2
    have ex := pr_len hux
    have ea := pr_len hua
    refine ⟨by show 2 ≤ sizeLine; decide, fun t0 ht0 => ?_⟩
    generalize hH2 : upd H1 t0 (.tup [.int 0, .int 1]) = H2
    have s2 : Same H1 H2 := by rw [← hH2]; exact same_new ht0
    have h20 : Num K H2 (.ref t0) 0 := num01 (by rw [← hH2]; exact upd_same)
    refine ⟨Nat.zero_le _, fun l hl1 => ?_⟩
    have hl1' : H1 l = none := s2.free hl1
    refine ⟨_, rfl, _, ux.length, rfl, .inr ⟨_, sqT_mono (s2.trans (same_new hl1)) hpx, rfl⟩, _, _, rfl, rfl, _, rfl, _, rfl, _, _, _, _, rfl, .neg (by omega) (by omega) (by omega) (by omega), ?_⟩
    refine for_rangeC (lo := ((ux.length : Nat) : Int) - 1) (n := (((ux.length : Nat) : Int) - 1 - -1).toNat) (fun i σ H' => Same H1 H' ∧ (∃ zs, H' l = some (.lst zs) ∧ Paired (Num K (rem l H')) zs (x.drop (x.length - i)).reverse) ∧
        ∃ w2 w4, Num K (rem l H') w2 (tot (x.drop (x.length - i)) (a.drop (x.length - i))) ∧ σ = [some (.ref px), some (.ref pa), some w2, some (.ref l), w4])
      ⟨s2.trans (same_new hl1), ⟨[], upd_same, by simpa using .nil⟩, _, _, (by
        rw [Nat.sub_zero, tot_end _ he (by omega), rem_upd]
        exact h20.mono (to_rem (Same.refl _) hl1)), rfl⟩ ?_ ?_
    · rintro i σ H' hi ⟨s3, ⟨zs, hz, nz⟩, w2, w4, n3, rfl⟩
      have hi' : i < x.length := by omega
      obtain ⟨j, hj⟩ : ∃ j, j + i + 1 = x.length := ⟨x.length - i - 1, by omega⟩
      have ej : ((ux.length : Nat) : Int) - 1 + (i : Nat) * (-1) = (j : Int) := by omega
      rw [ej]
      rw [show x.length - i = j + 1 by omega] at nz n3
      rw [show x.length - (i + 1) = j by omega]
      obtain ⟨qx, hqx, hqx2⟩ := row_at (i := j) (nums_mono s3 hux) (by omega)
      obtain ⟨qa, hqa, hqa2⟩ := row_at (i := j) (nums_mono s3 hua) (by omega)
      have lz : zs.length < sizeLine := Evl.sz_lt (by rw [pr_len nz, List.length_reverse, List.length_drop]; omega)
      refine ⟨_, rfl, _, rfl, ixS (.inr (sqT_mono s3 hpa)) rfl hqa (ix0 hqa2 ⟨rfl, _, rfl, ?_⟩)⟩
      by_cases h0 : a.getD j 0 = 0
      · obtain ⟨t1, t2⟩ := tot_zero he (show j < x.length by omega) h0
        refine iteD (num_zero.mpr h0) ?_
        refine ⟨_, rfl, .inl ⟨rfl, _, SqL.of hz⟩, _, rfl, _, rfl, ixS (.inr (sqT_mono s3 hpx)) rfl hqx ?_⟩
        refine ⟨l, zs, _, rfl, rfl, hz, lz, ?_⟩
        refine ⟨same_mut s3 hl1', ⟨_, upd_same, ?_⟩, w2, _, ?_, rfl⟩
        · rw [rev_drop (by omega), ← t1]
          exact grown hz nz (num1 hqx2)
        · rw [rem_upd, t2]
          exact n3
      · obtain ⟨t1, t2, t3⟩ := tot_full he (show j < x.length by omega) h0
        refine iteDN (fun z => h0 (num_zero.mp z)) ?_
        refine ⟨_, rfl, _, rfl, _, rfl, ixS (.inr (sqT_mono s3 hpx)) rfl hqx ⟨_, rfl, _, rfl, ixS (.inr (sqT_mono s3 hpa)) rfl hqa ?_⟩⟩
        refine ⟨_, _, _, _, 40000001, 10000000, rfl, num1 hqx2, num1 hqa2, bu.at (by omega), ba.at (by omega), by decide, h0, fun v5 H5 s5 m5 => ?_⟩
        refine ⟨_, _, _, _, 20000000, 50000001, rfl, (n3.mono rem_same).mono s5, m5, hb_tot (bx.drop _) (ba.drop _) (by decide), hb_div (bu.at (by omega)) (ba.at (by omega)), by decide, trivial, fun v6 H6 s6 m6 => ?_⟩
        replace m6 : Num K H6 v6 (tot (x.drop j) (a.drop j)) := by
          rw [← t1]
          exact m6
        have s36 := s5.trans s6
        have hz6 := s36 _ _ hz
        refine ⟨_, rfl, .inl ⟨rfl, _, SqL.of hz6⟩, _, rfl, _, rfl, ixS (.inr (sqT_mono (s3.trans s36) hpa)) rfl hqa ?_⟩
        refine ⟨_, rfl, _, _, _, _, 10000000, 20000000, rfl, (num1 hqa2).mono s36, m6, ba.at (by omega), hb_tot (bx.drop _) (ba.drop _) (by decide), by decide, trivial, fun v7 H7 s7 m7 => ?_⟩
        replace m7 : Num K H7 v7 (x.getD j 0) := by
          rw [← t3]
          exact m7
        have s37 := s36.trans s7
        have hz7 := s37 _ _ hz
        refine ⟨l, zs, _, rfl, rfl, hz7, lz, ?_⟩
        refine ⟨same_mut (s3.trans s37) hl1', ⟨_, upd_same, ?_⟩, v6, _, ?_, rfl⟩
        · rw [rev_drop (by omega)]
          exact grown hz7 (nums_mono (rem_mono s37) nz) m7
        · rw [rem_upd]
          exact (m6.mono s7).rem hz7
    · rintro σ H' ⟨s3, ⟨zs, hz, nz⟩, w2, w4, n3, rfl⟩
      rw [show x.length - (((ux.length : Nat) : Int) - 1 - -1).toNat = 0 by omega, List.drop_zero] at nz
      refine ⟨_, rfl, l, zs, rfl, SqL.of hz, fun t ht => ?_⟩
      have s4 : Same H' (upd H' t (.lst zs.reverse)) := same_new ht
      refine ⟨t, _, rfl, .inl ⟨SqL.of upd_same, fun u hu => ?_⟩⟩
      have s5 := s4.trans (same_new (o := .tup zs.reverse) hu)
      have h := pr_rev nz
      rw [List.reverse_reverse] at h
      exact k _ _ (s1.trans (s3.trans s5)) ⟨u, _, rfl, SqT.of upd_same, nums_mono (rem_same.trans s5) h⟩
end MU
namespace MU
open PySem PySem.Spec PyProof.Rows L2 He MM
def spEntry (K : PySem.W.Frag) : Sp := fun vs H Q _ => ∃ (v : V) (n : Nat) (R : List (List Rat)) (r c : Nat), vs = [v, .int (r : Nat), .int (c : Nat)] ∧ Tbl K H v n R ∧ r < R.length ∧ c < n ∧ ∀ v', Num K H v' (fn R r c) → Q v' H
theorem row_of {K : PySem.W.Frag} {H : Hp} {us : List V} {R : List (List Rat)} {i : Nat} (h : Paired (RowT K H) us R) (hi : i < R.length) : ∃ v, us[i]? = some v ∧ RowT K H v (R.getD i []) := by
  obtain ⟨v, hv, rv⟩ := pr_get h (List.getElem?_eq_getElem hi)
  refine ⟨v, hv, ?_⟩
  rw [List.getD_eq_getElem?_getD, List.getElem?_eq_getElem hi]
  exact rv
theorem wide_at {n : Nat} {R : List (List Rat)} {i : Nat} (w : Wide n R) (hi : i < R.length) : (R.getD i []).length = n := by
  rw [List.getD_eq_getElem?_getD, List.getElem?_eq_getElem hi]
  exact w _ (List.getElem_mem hi)
theorem sc_m_entry : FnScope ["self", "row", "column"] ["self", "row", "column"] (defScope (cls 5)) := ⟨rfl, rfl, rfl, by decide +kernel, rfl, by decide +kernel, by decide +kernel⟩
theorem ok_m_entry {P : Program} {w : World} {K : PySem.W.Frag} {mg : Str → Option Value} {base : Heap} (T : Txt P K mg base) : Fm P w K mg base 7 "entry" ["self", "row", "column"] (spEntry K) := by
  have sc := sc_m_entry
  refine mkFm T "entry" 5 (by decide) sc (fun vs H Q E h => ?_) (fun _ _ _ _ _ _ us hl => match us, hl with | [_, _, _], _ => rfl) (fun cdv A outer s H vs Q E hr h => ?_)
  · obtain ⟨_, n, R, r, c, rfl, ⟨⟨p, dx, rv, rfl, hp, ht⟩, hw, h0, h12, hn0, hn12⟩, hr1, hc1, k⟩ := h
    rfl
  · obtain ⟨_, n, R, r, c, rfl, ⟨⟨p, dx, rv, rfl, hp, ht⟩, hw, h0, h12, hn0, hn12⟩, hr1, hc1, k⟩ := h
    refine ⟨_, (pss_cons (ps_if (PW.pt (pw_or (pt_not (pt_val (pe_cf (ok_is_place T) (hr.mono (by decide)) rfl (pa_cons (pv 1) (pa_cons (pe_fld (pv 0) rfl) pa_nil))))) (pw_or1 (pt_not (pt_val (pe_cf (ok_is_place T) (hr.mono (by decide)) rfl (pa_cons (pv 2) (pa_cons (pe_fld (pv 0) rfl) pa_nil)))))))) (pss_one ps_never) pss_nil)
      (pss_one (ps_ret (pe_ix (r := rIx K) ix_seq (pe_ix (r := rIx K) ix_seq (pe_fld (pv 0) rfl) (pv 1) (fun _ _ => rfl)) (pv 2) (fun _ _ => rfl))))), ?_⟩
    obtain ⟨p1, u1, rfl, hp1, hu1⟩ := id ht
    refine ⟨_, rfl, _, rfl, p, _, dx, _, _, rfl, hp, T.cl, T.nH, tf_high _ _ _, _, _, rfl, by omega, by omega, true, rfl, iteF ?_⟩
    refine ⟨_, rfl, _, rfl, p, _, dx, _, _, rfl, hp, T.cl, T.nW, tf_wide _ _ _, _, _, rfl, by omega, by omega, true, rfl, iteF ?_⟩
    obtain ⟨v1, hv1, p2, u2, rfl, hp2, hu2⟩ := row_of hu1 hr1
    obtain ⟨q, hq, hq2⟩ := row_at (i := c) hu2 (by rw [wide_at hw hr1]; exact hc1)
    refine ⟨_, rfl, p, _, dx, _, _, rfl, hp, T.cl, T.nR, tf_rows _ _ _, _, rfl, ixS (.inr hp1) rfl hv1 ⟨_, rfl, ixS (.inr hp2) rfl hq ?_⟩⟩
    exact k _ (num1 hq2)
def spMadeT (K : PySem.W.Frag) : Sp := fun vs H Q _ => ∃ (v : V) (n : Nat) (R : List (List Rat)), vs = [v] ∧ Tbl K H v n (core R) ∧ Wide n R ∧ okU 10000000 R ∧ ∀ v' H', Same H H' → Tbl K H' v' n R → Q v' H'
theorem sc_made : FnScope ["core", "rows", "line", "row"] ["core"] (defScope (top 48)) := ⟨rfl, rfl, rfl, by decide +kernel, rfl, by decide +kernel, by decide +kernel⟩
theorem ok_made {P : Program} {w : World} {K : PySem.W.Frag} {mg : Str → Option Value} {base : Heap} (T : Txt P K mg base) : Fd P w K mg base 44 "made" ["core"] (spMadeT K) := by
  have sc := sc_made
  refine mkFd T "made" 48 (by decide) sc (fun vs H Q E h => ?_) (fun _ _ _ _ _ _ us hl => match us, hl with | [_], _ => rfl) (fun cdv A outer s H vs Q E hr h => ?_)
  · obtain ⟨_, n, R, rfl, ⟨⟨p, dx, rv, rfl, hp, ht⟩, hw, h0, h12, hn0, hn12⟩, hwR, hok, k⟩ := h
    rfl
  · obtain ⟨_, n, R, rfl, ⟨⟨p, dx, rv, rfl, hp, ht⟩, hw, h0, h12, hn0, hn12⟩, hwR, hok, k⟩ := h
    refine ⟨_, (pss_cons (ps_set (i := 1) sc.nd rfl (Or.inl rfl) (pe_lst pa_nil))
      (pss_cons (ps_for PassesOwn.never rfl (pi_seqK K rfl (pe_fld (pv 0) rfl)) (pg_name (i := 2) sc.nd rfl (Or.inr rfl)) (pss_cons (ps_setLc (i := 1) (own := [("row", 3)]) (g := gName 3) rfl sc.nd rfl rfl (sw_true rfl rfl rfl (by decide +kernel)) (pi_seqK K rfl (pv 1)) (blkOk_by (own := [("row", 3)]) (N := ["core", "rows", "line", "row"]) (sc := defScope (top 48)) (by decide +kernel)) (fun _ _ _ _ _ => pg_name (i := 3) sc.nd rfl (Or.inl rfl)) (fun _ _ _ _ _ => pts_nil) (fun _ _ _ _ _ => (pe_cf (ok_made_row T) (hr.mono (by decide)) rfl (pa_cons (pv 3) (pa_cons (pv 2) pa_nil)))))
      (pss_one (ps_expr (pe_bm PySem.F.plainAttrs_list PySem.F.slot_list_append PySem.F.type_list_append mt_append (pv 1) (pa_cons (pv 2) pa_nil))))))
      (pss_one (ps_ret (pe_ct (ok_m_init T) T (hr.mono (by decide)) rfl (pa_cons (pv 1) pa_nil)))))), ?_⟩
    obtain ⟨p1, u1, rfl, hp1, hu1⟩ := id ht
    have e1 := pr_len hu1
    have eR := core_length R
    refine ⟨Nat.zero_le _, fun l hl => ?_⟩
    have s1 : Same H (upd H l (.lst [])) := same_new hl
    refine ⟨_, rfl, p, _, dx, _, _, rfl, s1 _ _ hp, T.cl, T.nR, tf_rows _ _ _, p1, rfl, .inr ⟨⟨u1, sqT_mono s1 hp1⟩, ?_⟩⟩
    refine for_tup (K := K) (a := p1) (xs := u1) (fun i σ H' => Same H H' ∧ ∃ pr ur w2 w3, H pr = none ∧ H' pr = some (.lst ur) ∧ Paired (RowT K H') ur (lev R i) ∧ σ = [some (.ref p), some (.ref pr), w2, w3])
      ⟨s1, l, [], _, _, hl, upd_same, by
        rw [show lev R 0 = [] by unfold lev; simp]
        exact .nil, rfl⟩ (fun i σ H' _ q => sqT_mono q.1 hp1) ?_ ?_
    · rintro i x σ H' hi ⟨s2, pr, ur, w2, w3, hpr, hur, nur, rfl⟩
      have hi' : i < R.length := by have := (List.getElem?_eq_some_iff.mp hi).1; omega
      obtain ⟨S, a, eS, lS, ea, eR2⟩ := lev_split hi'
      obtain ⟨v1, hv1, ra⟩ := row_of hu1 (show i < (core R).length by omega)
      have ex : x = v1 := by
        rw [hi] at hv1
        exact Option.some.inj hv1
      subst ex
      have ea2 : (core R).getD i [] = a := by
        rw [List.getD_eq_getElem?_getD, List.getElem?_eq_getElem (by omega), ea]
        rfl
      rw [ea2] at ra
      rw [← eR2] at nur
      have hwS : Wide n (S ++ [a]) := by
        rw [← eS]
        exact lev_wide hwR _
      have lur := pr_len nur
      rw [List.length_map] at lur
      refine ⟨_, rfl, pr, rfl, lc_mapS (.inl (SqL.of hur)) (by omega) (fun i v H => ∃ r, S[i]? = some r ∧ RowT K H v r) (fun i v H H' s ⟨r, a, b⟩ => ⟨r, a, b.mono s⟩) ?_ ?_⟩
      · intro D hD j y H4 hj s4 ⟨acc, hacc⟩ Qe kq
        have s14 : Same H' H4 := s4.trans rem_same
        have hjl : j < S.length := by have := (List.getElem?_eq_some_iff.mp hj).1; omega
        obtain ⟨z, hz, rz⟩ := pr_getl nur hj
        rw [List.getElem?_map, List.getElem?_eq_getElem hjl] at hz
        cases hz
        have hok2 : hbT 10000000 (S ++ [a]) := by
          rw [← eS]
          exact hok (i + 1) (by omega) hi'
        have wS := hwS S[j] (List.mem_append_left _ (List.getElem_mem hjl))
        have wa := hwS a (by simp)
        refine ⟨rfl, _, rfl, _, rfl, y, x, S[j], a, rfl, (rz.mono s14).s, ((ra.mono s2).mono s14).s, by omega, by omega, by omega, hok2 _ (List.mem_append_left _ (List.getElem_mem hjl)), hok2 a (by simp), fun v' H6 s6 n6 => ?_⟩
        exact kq v' H6 s6 ⟨_, List.getElem?_eq_getElem hjl, n6.rem (s6 _ _ hacc)⟩
      · intro D hD H5 ys s5 h5 hl5 hr5
        refine ⟨_, rfl, .inl ⟨rfl, _, SqL.of h5⟩, _, rfl, D, ys, _, rfl, rfl, h5, Evl.sz_lt (by omega), ?_⟩
        have hDH : H D = none := s2.free hD
        have s6 : Same H (upd H5 D (.lst (ys ++ [x]))) := same_mut (s2.trans (s5.trans rem_same)) hDH
        refine ⟨s6, D, _, _, _, hDH, upd_same, ?_, rfl⟩
        rw [eS]
        refine pr_app (pr_of (by omega) fun i y z h1 h2 => ?_) (.cons (ra.mono s6) .nil)
        obtain ⟨r, e1, e2⟩ := hr5 i y h1
        rw [h2] at e1
        cases e1
        exact e2.mono upd_rem
    · rintro σ H' ⟨s2, pr, ur, w2, w3, hpr, hur, nur, rfl⟩
      rw [e1, eR, lev_all] at nur
      refine ⟨_, rfl, ?_⟩
      exact tab_make (n := n) (R := R) (SeqT.s ⟨pr, ur, rfl, .inl (SqL.of hur), nur⟩) hwR (by omega) (by omega) hn0 hn12 (fun v' H5 s5 t5 => k v' H5 (s2.trans s5) t5)
def spPut (K : PySem.W.Frag) : Sp := fun vs H Q _ => ∃ (v w : V) (n : Nat) (S : List (List Rat)) (a : List Rat), vs = [v, w] ∧ Tbl K H v n (S.map fun x => unm x a) ∧ RowS K H w a ∧ Wide n (S ++ [a]) ∧ S.length < 12 ∧ hbT 10000000 (S ++ [a]) ∧
  ∀ v' H', Same H H' → Tbl K H' v' n (S ++ [a]) → Q v' H'
theorem sc_put_under : FnScope ["table", "row", "above"] ["table", "row"] (defScope (top 49)) := ⟨rfl, rfl, rfl, by decide +kernel, rfl, by decide +kernel, by decide +kernel⟩
theorem ok_put_under {P : Program} {w : World} {K : PySem.W.Frag} {mg : Str → Option Value} {base : Heap} (T : Txt P K mg base) : Fd P w K mg base 44 "put_under" ["table", "row"] (spPut K) := by
  have sc := sc_put_under
  refine mkFd T "put_under" 49 (by decide) sc (fun vs H Q E h => ?_) (fun _ _ _ _ _ _ us hl => match us, hl with | [_, _], _ => rfl) (fun cdv A outer s H vs Q E hr h => ?_)
  · obtain ⟨_, w0, n, S, a, rfl, ⟨⟨p, dx, rv, rfl, hp, ht⟩, hw, h0, h12, hn0, hn12⟩, hra, hwS, hS12, hbS, k⟩ := h
    rfl
  · obtain ⟨_, w0, n, S, a, rfl, ⟨⟨p, dx, rv, rfl, hp, ht⟩, hw, h0, h12, hn0, hn12⟩, hra, hwS, hS12, hbS, k⟩ := h
    obtain ⟨tMost, hMost⟩ := T.most
    refine ⟨_, (pss_cons (ps_set (i := 1) sc.nd rfl (Or.inr rfl) (pe_cf (ok_fitting_row T) (hr.mono (by decide)) rfl (pa_cons (pv 1) (pa_cons (pe_fld (pv 0) rfl) pa_nil))))
      (pss_cons (ps_if (pt_cmpR (op_eq) (pe_fld (pv 0) rfl) (pe_glob (v := .int 12) rfl hMost ⟨_, rfl⟩) (nomark _)) (pss_one ps_never) pss_nil)
      (pss_one (ps_ret (pe_ct (ok_m_init T) T (hr.mono (by decide)) rfl (pa_cons (pe_op (op_cat) (pe_lc (own := [("above", 2)]) (g := gName 2) rfl sc.nd (pi_seqK K rfl (pe_fld (pv 0) rfl)) (blkOk_by (own := [("above", 2)]) (N := ["table", "row", "above"]) (sc := defScope (top 49)) (by decide +kernel)) (fun _ _ _ _ _ => pg_name (i := 2) sc.nd rfl (Or.inl rfl)) (fun _ _ _ _ _ => pts_nil) (fun _ _ _ _ _ => (pe_cf (ok_made_row T) (hr.mono (by decide)) rfl (pa_cons (pv 2) (pa_cons (pv 1) pa_nil))))) (pe_lst (pa_cons (pv 1) pa_nil))) pa_nil)))))), ?_⟩
    have wa := hwS a (by simp)
    have lm : (S.map fun x => unm x a).length = S.length := List.length_map ..
    rw [lm] at h0
    refine ⟨_, rfl, _, rfl, p, _, dx, _, _, rfl, hp, T.cl, T.nW, tf_wide _ _ _, _, a, by rw [wa] <;> rfl, hra, by omega, fun w' H1 s1 n1 => ?_⟩
    refine ⟨_, rfl, p, _, dx, _, _, rfl, s1 _ _ hp, T.cl, T.nH, tf_high _ _ _, rfl, _, rfl, iteDN (int_ne (by omega)) ?_⟩
    obtain ⟨p1, u1, rfl, hp1, hu1⟩ := ht.mono s1
    have e1 := pr_len hu1
    rw [lm] at e1
    refine ⟨_, rfl, p, _, dx, _, _, rfl, s1 _ _ hp, T.cl, T.nR, tf_rows _ _ _, p1, rfl, lc_mapS (.inr hp1) (by omega) (fun i v H => ∃ r, S[i]? = some r ∧ RowT K H v r) (fun i v H H' s ⟨r, a, b⟩ => ⟨r, a, b.mono s⟩) ?_ ?_⟩
    · intro D hD j y H4 hj s4 ⟨acc, hacc⟩ Qe kq
      have s14 : Same H1 H4 := s4.trans rem_same
      have hjl : j < S.length := by have := (List.getElem?_eq_some_iff.mp hj).1; omega
      obtain ⟨z, hz, rz⟩ := pr_getl hu1 hj
      rw [List.getElem?_map, List.getElem?_eq_getElem hjl] at hz
      cases hz
      have wj := hwS S[j] (List.mem_append_left _ (List.getElem_mem hjl))
      refine ⟨rfl, _, rfl, _, rfl, y, w', S[j], a, rfl, (rz.mono s14).s, (n1.mono s14).s, by omega, by omega, by omega, hbS _ (List.mem_append_left _ (List.getElem_mem hjl)), hbS a (by simp), fun v' H6 s6 n6 => ?_⟩
      exact kq v' H6 s6 ⟨_, List.getElem?_eq_getElem hjl, n6.rem (s6 _ _ hacc)⟩
    · intro D hD H5 ys s5 h5 hl5 hr5
      refine ⟨_, rfl, by show 1 ≤ sizeLine; decide, fun l2 hl2 => ?_⟩
      have s6 := same_new (o := .lst [w']) hl2
      refine ⟨D, l2, ys, [w'], rfl, rfl, s6 _ _ h5, upd_same, Nat.le_of_lt (Evl.sz_lt (by simp; omega)), fun l3 hl3 => ?_⟩
      have s7 := s6.trans (same_new (o := .lst (ys ++ [w'])) hl3)
      have s17 := s5.trans (rem_same.trans s7)
      refine tab_make (n := n) (R := S ++ [a]) (SeqT.s ⟨l3, _, rfl, .inl (SqL.of upd_same), ?_⟩) hwS (by simp) (by simp; omega) hn0 hn12 (fun v' H5 s5 t5 => k v' H5 (s1.trans (s17.trans s5)) t5)
      refine pr_app (pr_of (by omega) fun i y z h1 h2 => ?_) (.cons (n1.mono s17) .nil)
      obtain ⟨r, e1, e2⟩ := hr5 i y h1
      rw [h2] at e1
      cases e1
      exact e2.mono (rem_same.trans s7)
def spEnt (K : PySem.W.Frag) : Sp := fun vs H Q _ => ∃ (v : V) (n : Nat) (R : List (List Rat)) (r c : Nat), vs = [v, .int (r : Nat), .int (c : Nat)] ∧ Tbl K H v n (core R) ∧ Wide n R ∧ okU 10000000 R ∧ r < R.length ∧ c < n ∧ ∀ v' H', Same H H' → Num K H' v' (fn R r c) → Q v' H'
theorem sc_entry_of : FnScope ["core", "row", "column", "line", "below"] ["core", "row", "column"] (defScope (top 51)) := ⟨rfl, rfl, rfl, by decide +kernel, rfl, by decide +kernel, by decide +kernel⟩
theorem ok_entry_of {P : Program} {w : World} {K : PySem.W.Frag} {mg : Str → Option Value} {base : Heap} (T : Txt P K mg base) : Fd P w K mg base 44 "entry_of" ["core", "row", "column"] (spEnt K) := by
  have sc := sc_entry_of
  refine mkFd T "entry_of" 51 (by decide) sc (fun vs H Q E h => ?_) (fun _ _ _ _ _ _ us hl => match us, hl with | [_, _, _], _ => rfl) (fun cdv A outer s H vs Q E hr h => ?_)
  · obtain ⟨_, n, R, r, c, rfl, ⟨⟨p, dx, rv, rfl, hp, ht⟩, hw, h0, h12, hn0, hn12⟩, hwR, hok, hr1, hc1, k⟩ := h
    rfl
  · obtain ⟨_, n, R, r, c, rfl, ⟨⟨p, dx, rv, rfl, hp, ht⟩, hw, h0, h12, hn0, hn12⟩, hwR, hok, hr1, hc1, k⟩ := h
    refine ⟨_, (pss_cons (ps_expr (pe_cm (ok_m_entry T) T (hr.mono (by decide)) (pv 0) (pa_cons (pv 1) (pa_cons (pv 2) pa_nil))))
      (pss_cons (ps_set (i := 3) sc.nd rfl (Or.inl rfl) (pe_ix (r := rIx K) ix_seq (pe_fld (pv 0) rfl) (pv 1) (fun _ _ => rfl)))
      (pss_cons (ps_for PassesOwn.never rfl (pi_seqK K rfl (pe_slice (r := rSlS K) sl_seq (pe_fld (pv 0) rfl) (po_some (pe_op (op_add) (pv 1) pe_int)) po_none)) (pg_name (i := 4) sc.nd rfl (Or.inl rfl)) (pss_one (ps_set (i := 3) sc.nd rfl (Or.inl rfl) (pe_cf (ok_made_row T) (hr.mono (by decide)) rfl (pa_cons (pv 3) (pa_cons (pv 4) pa_nil))))))
      (pss_one (ps_ret (pe_ix (r := rIx K) ix_seq (pv 3) (pv 2) (fun _ _ => rfl))))))), ?_⟩
    obtain ⟨p1, u1, rfl, hp1, hu1⟩ := id ht
    have e1 := pr_len hu1
    have eR := core_length R
    refine ⟨_, rfl, p, dx, _, rfl, hp, tf_no _ _ _ (by decide +kernel), _, rfl, _, rfl, ?_⟩
    refine ⟨_, n, core R, r, c, rfl, ⟨⟨p, dx, _, rfl, hp, ht⟩, hw, h0, h12, hn0, hn12⟩, by omega, hc1, fun _ _ => ?_⟩
    obtain ⟨v1, hv1, rv1⟩ := row_of hu1 (show r < (core R).length by omega)
    refine ⟨_, rfl, p, _, dx, _, _, rfl, hp, T.cl, T.nR, tf_rows _ _ _, _, rfl, ixS (.inr hp1) rfl hv1 ?_⟩
    refine ⟨_, rfl, p, _, dx, _, _, rfl, hp, T.cl, T.nR, tf_rows _ _ _, _, rfl, _, _, rfl, rfl, _, rfl, ?_⟩
    have ecut : cutV u1 (some ((r : Int) + 1)) none = u1.drop (r + 1) := by
      have e : ((r : Int) + 1) = ((r + 1 : Nat) : Int) := by omega
      rw [e]
      exact cut_from u1 (by omega)
    refine slT (ys := u1.drop (r + 1)) hp1 ecut fun p' H1 s1 hp' => ⟨p', rfl, .inr ⟨⟨_, hp'⟩, ?_⟩⟩
    refine for_tup (K := K) (a := p') (xs := u1.drop (r + 1)) (fun i σ H' => Same H1 H' ∧ ∃ w w2, RowT K H' w (lin R r (r + 1 + i)) ∧ σ = [some (.ref p), some (.int (r : Nat)), some (.int (c : Nat)), some w, w2])
      ⟨Same.refl _, v1, _, by
        rw [Nat.add_zero, lin_first hr1]
        exact rv1.mono s1, rfl⟩ (fun i σ H' _ q => sqT_mono q.1 hp') ?_ ?_
    · rintro i x σ H' hi ⟨s2, w1, w2, rw1, rfl⟩
      have s12 := s1.trans s2
      rw [List.getElem?_drop] at hi
      have hk : r + 1 + i < R.length := by have := (List.getElem?_eq_some_iff.mp hi).1; omega
      obtain ⟨v2, hv2, rv2⟩ := row_of hu1 (show r + 1 + i < (core R).length by omega)
      have ex : x = v2 := by
        rw [hi] at hv2
        exact Option.some.inj hv2
      subst ex
      have hb2 := hok (r + 1 + i + 1) (by omega) (by omega)
      have l1 := lin_length (r + 1 + i + 1) hwR hr1
      have l2 : ((core R).getD (r + 1 + i) []).length = n := wide_at hw (by omega)
      rw [← lin_step hk] at rw1
      refine ⟨_, rfl, _, rfl, w1, x, _, _, rfl, rw1.s, (rv2.mono s12).s, by omega, by omega, by omega, hb2 _ (lin_mem (by omega) (by omega)), hb2 _ (core_mem hk), fun v' H3 s3 n3 => ?_⟩
      exact ⟨s2.trans s3, v', _, n3, rfl⟩
    · rintro σ H' ⟨s2, w1, w2, rw1, rfl⟩
      rw [List.length_drop, show r + 1 + (u1.length - (r + 1)) = R.length by omega, lin_last] at rw1
      obtain ⟨p3, u3, rfl, hp3, hu3⟩ := rw1
      obtain ⟨q, hq, hq2⟩ := row_at (i := c) hu3 (by rw [wide_at hwR hr1]; exact hc1)
      exact ⟨_, rfl, _, rfl, ixS (.inr hp3) rfl hq (k _ _ (s1.trans s2) (num1 hq2))⟩
end MU
namespace MU
open PySem PySem.Spec PyProof.Rows L2 He MM
structure ClS (K : PySem.W.Frag) (H : Hp) (L : Addr) (ads : List Addr) (n : Nat) (R : List (List Rat)) (k : Nat) (Vl : Nat → Nat → Rat) (H' : Hp) : Prop where
  keep : ∀ b o, b ∉ ads → H b = some o → H' b = some o
  ex : ∃ R', Mat K H' L ads R' ∧ R'.length = R.length ∧ Wide n R' ∧ ∀ i, i < R.length → ∀ j, j < n → fn R' i j = if i < k then Vl i j else fn R i j
section
variable {K : PySem.W.Frag} {H H' H'' : Hp} {L : Addr} {ads : List Addr} {n k : Nat} {R : List (List Rat)} {Vl W : Nat → Nat → Rat}
theorem ClS.congr (h : ClS K H L ads n R k Vl H') (e : ∀ i, i < k → ∀ j, j < n → Vl i j = W i j) : ClS K H L ads n R k W H' := by
  obtain ⟨R', h1, h2, h3, h4⟩ := h.ex
  refine ⟨h.keep, R', h1, h2, h3, fun i hi j hj => ?_⟩
  rw [h4 i hi j hj]
  by_cases hik : i < k
  · rw [if_pos hik, if_pos hik, e i hik j hj]
  · rw [if_neg hik, if_neg hik]
theorem ClS.mono (s : Same H' H'') (h : ClS K H L ads n R k Vl H') : ClS K H L ads n R k Vl H'' := by
  obtain ⟨R', h1, h2⟩ := h.ex
  exact ⟨fun b o h3 h4 => s _ _ (h.keep b o h3 h4), R', h1.mono s, h2⟩
theorem ClS.at (h : ClS K H L ads n R k Vl H') {i : Nat} (hi : i < R.length) : ∃ a us, ads[i]? = some a ∧ (ads.map V.ref)[i]? = some (.ref a) ∧ H' L = some (.lst (ads.map V.ref)) ∧ H' a = some (.lst us) ∧ us.length = n ∧
    ∀ j, j < n → ∃ p, us[j]? = some (.ref p) ∧ Num K H' (.ref p) (if i < k then Vl i j else fn R i j) := by
  obtain ⟨R', h1, h2, h3, h4⟩ := h.ex
  obtain ⟨a, us, ha, e, nu⟩ := h1.at (show i < R'.length by omega)
  have w := wide_at h3 (show i < R'.length by omega)
  refine ⟨a, us, ha, by rw [List.getElem?_map, ha]; rfl, h1.out, e, by rw [pr_len nu, w], fun j hj => ?_⟩
  obtain ⟨p, hp, hp2⟩ := row_at nu (show j < (R'.getD i []).length by omega)
  refine ⟨p, hp, ?_⟩
  rw [← h4 i hi j hj]
  exact num1 hp2
theorem ClS.write (h : ClS K H L ads n R k Vl H') {i c : Nat} {a : Addr} {us : List V} {y : V} {q : Rat} (ha : ads[i]? = some a) (e : H' a = some (.lst us)) (hi : i < k) (hk : k < R.length) (hc : c < n) (m : Num K H' y q) :
    ClS K H L ads n R k (fun i' j => if i' = i ∧ j = c then q else Vl i' j) (upd H' a (.lst (us.set c y))) := by
  obtain ⟨R', h1, h2, h3, h4⟩ := h.ex
  refine ⟨fun b o hb ho => ?_, _, h1.setIn (c := c) ha e m, by rw [setM_length, h2], setM_wide h3, fun i' hi' j hj => ?_⟩
  · have hba : b ≠ a := by
      rintro rfl
      exact hb (List.mem_of_getElem? ha)
    rw [upd_ne hba]
    exact h.keep b o hb ho
  · rw [fn_setM h3 (by omega) hc, h4 i' hi' j hj]
    by_cases hz : i' = i ∧ j = c
    · rw [if_pos hz, if_pos (by omega), if_pos hz]
    · rw [if_neg hz, if_neg hz]
end
def clW (R : List (List Rat)) (k u c i0 : Nat) (i j : Nat) : Rat := if j < c ∨ (j = c ∧ i < i0) then ctv u (R.getD i []) (R.getD k []) j else ctv (u + 1) (R.getD i []) (R.getD k []) j
theorem ixN_nat {n c : Nat} (h : c < n) : ixN n (c : Int) = some c := by
  unfold ixN
  simp [h]
def spClr (K : PySem.W.Frag) : Sp := fun vs H Q _ => ∃ (L : Addr) (ads : List Addr) (n : Nat) (R : List (List Rat)) (k : Nat), vs = [.ref L, .int (k : Nat)] ∧ Mat K H L ads R ∧ Wide n R ∧ k < R.length ∧ 0 < n ∧ n ≤ 1000 ∧ R.length ≤ 1000 ∧
  (∀ i, i ≤ k → hbR 10000000 (R.getD i [])) ∧ ∀ H', (∀ b o, b ∉ ads → H b = some o → H' b = some o) → Mat K H' L ads (clr R k) → Q .non H'
theorem sc_clear_above : FnScope ["rows", "at", "by", "taken", "column", "share", "above"] ["rows", "at"] (defScope (top 53)) := ⟨rfl, rfl, rfl, by decide +kernel, rfl, by decide +kernel, by decide +kernel⟩
theorem ok_clear_above {P : Program} {w : World} {K : PySem.W.Frag} {mg : Str → Option Value} {base : Heap} (T : Txt P K mg base) : Fd P w K mg base 43 "clear_above" ["rows", "at"] (spClr K) := by
  have sc := sc_clear_above
  refine mkFd T "clear_above" 53 (by decide) sc (fun vs H Q E h => ?_) (fun _ _ _ _ _ _ us hl => match us, hl with | [_, _], _ => rfl) (fun cdv A outer s H vs Q E hr h => ?_)
  · obtain ⟨L, ads, n, R, k0, rfl, hM, hw, hk, hn0, hn, hR, hB, k⟩ := h
    rfl
  · obtain ⟨L, ads, n, R, k0, rfl, hM, hw, hk, hn0, hn, hR, hB, k⟩ := h
    refine ⟨_, (pss_cons (ps_set (i := 2) sc.nd rfl (Or.inl rfl) (pe_ix (r := rIx K) ix_seq (pv 0) (pv 1) (fun _ _ => rfl)))
      (pss_one (ps_for PassesOwn.never rfl (pi_range3 rfl T.range (pa_cons (pe_op (op_sub) (pe_callB call_len rfl T.len boot_len (pa_cons (pv 2) pa_nil)) pe_int) (pa_cons pe_int (pa_cons (pe_un un_neg pe_int) pa_nil)))) (pg_name (i := 3) sc.nd rfl (Or.inl rfl)) (pss_cons (ps_if (pt_cmpR (op_eq) (pe_ix (r := rIx K) ix_seq (pe_ix (r := rIx K) ix_seq (pv 2) (pv 3) (fun _ _ => rfl)) pe_int (fun _ _ => rfl)) pe_int (nomark _)) (pss_one ps_continue) pss_nil)
      (pss_one (ps_for PassesOwn.never rfl (pi_range1 rfl T.range (pa_cons (pv 3) pa_nil)) (pg_name (i := 4) sc.nd rfl (Or.inl rfl)) (pss_cons (ps_set (i := 5) sc.nd rfl (Or.inl rfl) (pe_cf (ok_over T) (hr.mono (by decide)) rfl (pa_cons (pe_ix (r := rIx K) ix_seq (pv 2) (pv 4) (fun _ _ => rfl)) (pa_cons (pe_ix (r := rIx K) ix_seq (pv 2) (pv 3) (fun _ _ => rfl)) pa_nil))))
      (pss_one (ps_for PassesOwn.never rfl (pi_range1 rfl T.range (pa_cons (pv 1) pa_nil)) (pg_name (i := 6) sc.nd rfl (Or.inl rfl)) (pss_one (ps_asg (pe_cf (ok_less T) (hr.mono (by decide)) rfl (pa_cons (pe_ix (r := rIx K) ix_seq (pe_ix (r := rIx K) ix_seq (pv 0) (pv 6) (fun _ _ => rfl)) (pv 4) (fun _ _ => rfl)) (pa_cons (pe_cf (ok_times T) (hr.mono (by decide)) rfl (pa_cons (pv 5) (pa_cons (pe_ix (r := rIx K) ix_seq (pe_ix (r := rIx K) ix_seq (pv 0) (pv 6) (fun _ _ => rfl)) (pv 3) (fun _ _ => rfl)) pa_nil))) pa_nil))) (pg_sub (pe_ix (r := rIx K) ix_seq (pv 0) (pv 6) (fun _ _ => rfl)) (pv 4) set_list)))))))))))), ?_⟩
    have S0 : ClS K H L ads n R k0 (fun i j => ctv n (R.getD i []) (R.getD k0 []) j) H := by
      refine ⟨fun b o _ h => h, R, hM, rfl, hw, fun i hi j hj => ?_⟩
      by_cases hik : i < k0
      · rw [if_pos hik, ctv_start (by rw [wide_at hw hi, wide_at hw hk]) n (by rw [wide_at hw hi]; exact Nat.le_refl _)]
        rfl
      · rw [if_neg hik]
    obtain ⟨ab, ub, hab, hab2, hL, eb, lb, nb⟩ := S0.at hk
    have wk : (R.getD k0 []).length = n := wide_at hw hk
    refine ⟨_, rfl, _, rfl, ixS (.inl (SqL.of hL)) rfl hab2 ?_⟩
    refine ⟨_, rfl, _, ub.length, rfl, .inl ⟨_, SqL.of eb, rfl⟩, _, _, rfl, rfl, _, rfl, _, _, _, _, rfl, .neg (by omega) (by omega) (by omega) (by omega), ?_⟩
    refine for_rangeC (lo := ((ub.length : Nat) : Int) - 1) (n := (((ub.length : Nat) : Int) - 1 - 0).toNat) (fun t σ H' => ClS K H L ads n R k0 (fun i j => ctv (n - t) (R.getD i []) (R.getD k0 []) j) H' ∧ ∃ w3 w4 w5 w6, σ = [some (.ref L), some (.int (k0 : Nat)), some (.ref ab), w3, w4, w5, w6])
      ⟨S0, _, _, _, _, rfl⟩ ?_ ?_
    · rintro t σ H' ht ⟨S1, w3, w4, w5, w6, rfl⟩
      obtain ⟨u, hu⟩ : ∃ u, u + t + 1 = n := ⟨n - t - 1, by omega⟩
      have ej : ((ub.length : Nat) : Int) - 1 + (t : Nat) * (-1) = (u : Int) := by omega
      rw [ej]
      rw [show n - t = u + 1 by omega] at S1
      rw [show n - (t + 1) = u by omega]
      obtain ⟨ab', ub1, hab', _, hL1, eb1, lb1, nb1⟩ := S1.at hk
      have eab : ab = ab' := by
        rw [hab] at hab'
        exact Option.some.inj hab'
      subst eab
      obtain ⟨q, hq, q', eq', hq2⟩ := nb1 u (by omega)
      cases eq'
      rw [if_neg (Nat.lt_irrefl _)] at hq2
      refine ⟨_, rfl, _, rfl, ixS (.inl (SqL.of eb1)) rfl hq (ix0 hq2 ⟨rfl, _, rfl, ?_⟩)⟩
      by_cases h0 : fn R k0 u = 0
      · refine iteD (num_zero.mpr h0) ⟨S1.congr fun i hi j hj => ?_, _, _, _, _, rfl⟩
        exact (ctv_empty (by rw [wide_at hw (by omega), wk]) (by rw [wide_at hw (by omega)]; omega) h0).symm
      · refine iteDN (fun z => h0 (num_zero.mp z)) ?_
        refine ⟨_, rfl, _, rfl, by omega, by omega, ?_⟩
        refine for_range (lo := 0) (n := ((u : Nat) : Int).toNat) (fun c σ H' => ClS K H L ads n R k0 (clW R k0 u c 0) H' ∧ ∃ w4 w5 w6, σ = [some (.ref L), some (.int (k0 : Nat)), some (.ref ab), some (.int (u : Nat)), w4, w5, w6])
          ⟨S1.congr fun i hi j hj => ?_, _, _, _, rfl⟩ ?_ ?_
        · unfold clW
          rw [if_neg (by omega)]
        · rintro c σ H2 hc ⟨S2, w4, w5, w6, rfl⟩
          have hcu : c < u := by omega
          have e0 : (0 : Int) + (c : Nat) = (c : Int) := by omega
          rw [e0]
          obtain ⟨ab', ub2, hab', _, hL2, eb2, lb2, nb2⟩ := S2.at hk
          have eab : ab = ab' := by
            rw [hab] at hab'
            exact Option.some.inj hab'
          subst eab
          obtain ⟨qc, hqc, mc⟩ := nb2 c (by omega)
          obtain ⟨qu, hqu, mu⟩ := nb2 u (by omega)
          rw [if_neg (Nat.lt_irrefl _)] at mc mu
          refine ⟨_, rfl, _, rfl, ixS (.inl (SqL.of eb2)) rfl hqc ⟨_, rfl, _, rfl, ixS (.inl (SqL.of eb2)) rfl hqu ?_⟩⟩
          refine ⟨_, _, _, _, 10000000, 10000000, rfl, mc, mu, (hB k0 (Nat.le_refl _)).at (by omega), (hB k0 (Nat.le_refl _)).at (by omega), by decide, h0, fun sh H3 s3 ms => ?_⟩
          refine ⟨_, rfl, _, rfl, by omega, by omega, ?_⟩
          refine for_range (lo := 0) (n := ((k0 : Nat) : Int).toNat) (fun i0 σ H' => ClS K H L ads n R k0 (clW R k0 u c i0) H' ∧ Num K H' sh (fn R k0 c / fn R k0 u) ∧ ∃ w6, σ = [some (.ref L), some (.int (k0 : Nat)), some (.ref ab), some (.int (u : Nat)), some (.int (c : Nat)), some sh, w6])
            ⟨S2.mono s3, ms, _, rfl⟩ ?_ ?_
          · rintro i0 σ H4 hi0 ⟨S4, ms4, w6, rfl⟩
            have hi0k : i0 < k0 := by omega
            have e0 : (0 : Int) + (i0 : Nat) = (i0 : Int) := by omega
            rw [e0]
            have wi : (R.getD i0 []).length = n := wide_at hw (by omega)
            obtain ⟨a, us, ha, ha2, hL4, ea, la, na⟩ := S4.at (show i0 < R.length by omega)
            obtain ⟨pc, hpc, nc⟩ := na c (by omega)
            obtain ⟨pu, hpu, nu⟩ := na u (by omega)
            rw [if_pos hi0k] at nc nu
            have vc : clW R k0 u c i0 i0 c = ctv (u + 1) (R.getD i0 []) (R.getD k0 []) c := by
              unfold clW
              rw [if_neg (by omega)]
            have vu : clW R k0 u c i0 i0 u = ctv (u + 1) (R.getD i0 []) (R.getD k0 []) u := by
              unfold clW
              rw [if_neg (by omega)]
            rw [vc] at nc
            rw [vu] at nu
            have bc := hb_ctv (t := u + 1) (j := c) (hB i0 (by omega)) (hB k0 (Nat.le_refl _)) (by rw [wi, wk]) (by omega)
            have bu := hb_ctv (t := u + 1) (j := u) (hB i0 (by omega)) (hB k0 (Nat.le_refl _)) (by rw [wi, wk]) (by omega)
            have bs : hb 20000000 (fn R k0 c / fn R k0 u) := (hb_div ((hB k0 (Nat.le_refl _)).at (by omega)) ((hB k0 (Nat.le_refl _)).at (by omega))).mono (by decide)
            refine ⟨_, rfl, _, rfl, ixS (.inl (SqL.of hL4)) rfl ha2 ⟨_, rfl, ixS (.inl (SqL.of ea)) rfl hpc ?_⟩⟩
            refine ⟨_, rfl, _, rfl, _, rfl, ixS (.inl (SqL.of hL4)) rfl ha2 ⟨_, rfl, ixS (.inl (SqL.of ea)) rfl hpu ?_⟩⟩
            refine ⟨_, _, _, _, 20000000, 4 * 10000000 + 1, rfl, ms4, nu, bs, bu, by decide, trivial, fun v5 H5 s5 n5 => ?_⟩
            refine ⟨_, _, _, _, 4 * 10000000 + 1, 20000000 + (4 * 10000000 + 1), rfl, nc.mono s5, n5, bc, hb_mul bs bu, by decide, trivial, fun v6 H6 s6 n6 => ?_⟩
            have s46 := s5.trans s6
            refine ⟨_, rfl, _, rfl, ixS (.inl (SqL.of (s46 _ _ hL4))) rfl ha2 ⟨_, rfl, a, us, _, c, rfl, rfl, s46 _ _ ea, ixN_nat (by omega), ?_⟩⟩
            refine ⟨((S4.mono s46).write ha (s46 _ _ ea) hi0k hk (show c < n by omega) n6).congr fun i hi j hj => ?_, (ms4.mono s46).upd (s46 _ _ ea), _, rfl⟩
            by_cases hz : i = i0 ∧ j = c
            · rw [if_pos hz, hz.1, hz.2]
              unfold clW
              rw [if_pos (by omega), ctv_full (by rw [wi, wk]) hcu (by omega) h0]
              rfl
            · rw [if_neg hz]
              unfold clW
              by_cases hz2 : j < c ∨ j = c ∧ i < i0
              · rw [if_pos hz2, if_pos (by omega)]
              · rw [if_neg hz2, if_neg (by omega)]
          · rintro σ H4 ⟨S4, ms4, w6, rfl⟩
            refine ⟨S4.congr fun i hi j hj => ?_, _, _, _, rfl⟩
            unfold clW
            by_cases hz2 : j < c ∨ j = c ∧ i < ((k0 : Nat) : Int).toNat
            · rw [if_pos hz2, if_pos (by omega)]
            · rw [if_neg hz2, if_neg (by omega)]
        · rintro σ H2 ⟨S2, w4, w5, w6, rfl⟩
          refine ⟨S2.congr fun i hi j hj => ?_, _, _, _, _, rfl⟩
          unfold clW
          by_cases hz2 : j < ((u : Nat) : Int).toNat ∨ j = ((u : Nat) : Int).toNat ∧ i < 0
          · rw [if_pos hz2]
          · rw [if_neg hz2]
            exact (ctv_behind (by omega)).symm
    · rintro σ H' ⟨S1, w3, w4, w5, w6, rfl⟩
      obtain ⟨R', h1, h2, h3, h4⟩ := S1.ex
      have e : R' = clr R k0 := by
        refine ext_fn (m := R.length) (n := n) h2 (clr_length (by omega)) h3 (clr_wide hw hk) fun i hi j hj => ?_
        rw [h4 i hi j hj, fn_clr hw hk hj]
        by_cases hik : i < k0
        · rw [if_pos hik, if_pos hik]
          exact ctv_end (by rw [wide_at hw hi, wk]) (by rw [wide_at hw hi]; exact hj) _ (by omega)
        · rw [if_neg hik, if_neg hik]
      rw [e] at h1
      exact k _ S1.keep h1
def spCleared (K : PySem.W.Frag) : Sp := fun vs H Q _ => ∃ (v : V) (n : Nat) (R : List (List Rat)), vs = [v] ∧ Tbl K H v n R ∧ okU 10000000 R ∧ ∀ v' H', Same H H' → Tbl K H' v' n (core R) → Q v' H'
theorem sc_cleared : FnScope ["table", "rows", "at", "row"] ["table"] (defScope (top 54)) := ⟨rfl, rfl, rfl, by decide +kernel, rfl, by decide +kernel, by decide +kernel⟩
theorem ok_cleared {P : Program} {w : World} {K : PySem.W.Frag} {mg : Str → Option Value} {base : Heap} (T : Txt P K mg base) : Fd P w K mg base 44 "cleared" ["table"] (spCleared K) := by
  have sc := sc_cleared
  refine mkFd T "cleared" 54 (by decide) sc (fun vs H Q E h => ?_) (fun _ _ _ _ _ _ us hl => match us, hl with | [_], _ => rfl) (fun cdv A outer s H vs Q E hr h => ?_)
  · obtain ⟨_, n, R, rfl, ⟨⟨p, dx, rv, rfl, hp, ht⟩, hw, h0, h12, hn0, hn12⟩, hok, k⟩ := h
    rfl
  · obtain ⟨_, n, R, rfl, ⟨⟨p, dx, rv, rfl, hp, ht⟩, hw, h0, h12, hn0, hn12⟩, hok, k⟩ := h
    refine ⟨_, (pss_cons (ps_setLc (i := 1) (own := [("row", 3)]) (g := gName 3) rfl sc.nd rfl rfl (sw_true rfl rfl rfl (by decide +kernel)) (pi_seqK K rfl (pe_fld (pv 0) rfl)) (blkOk_by (own := [("row", 3)]) (N := ["table", "rows", "at", "row"]) (sc := defScope (top 54)) (by decide +kernel)) (fun _ _ _ _ _ => pg_name (i := 3) sc.nd rfl (Or.inl rfl)) (fun _ _ _ _ _ => pts_nil) (fun _ _ _ _ _ => (pe_callTy (r := (rListOf K)) call_list_of rfl T.list boot_list (pa_cons (pv 3) pa_nil))))
      (pss_cons (ps_for PassesOwn.never rfl (pi_range3 rfl T.range (pa_cons (pe_op (op_sub) (pe_fld (pv 0) rfl) pe_int) (pa_cons pe_int (pa_cons (pe_un un_neg pe_int) pa_nil)))) (pg_name (i := 2) sc.nd rfl (Or.inl rfl)) (pss_one (ps_expr (pe_cf (ok_clear_above T) (hr.mono (by decide)) rfl (pa_cons (pv 1) (pa_cons (pv 2) pa_nil))))))
      (pss_one (ps_ret (pe_ct (ok_m_init T) T (hr.mono (by decide)) rfl (pa_cons (pv 1) pa_nil)))))), ?_⟩
    obtain ⟨p1, u1, rfl, hp1, hu1⟩ := id ht
    have e1 := pr_len hu1
    have eR := core_length R
    refine ⟨_, rfl, p, _, dx, _, _, rfl, hp, T.cl, T.nR, tf_rows _ _ _, p1, rfl, lm_S (K := K) (G := fun i => R.getD i []) (.inr hp1) (by omega) ?_ ?_⟩
    · intro D hD i x H4 hi s4 Qe kq
      obtain ⟨v1, hv1, p2, u2, rfl, hp2, hu2⟩ := row_of hu1 (show i < R.length by have := (List.getElem?_eq_some_iff.mp hi).1; omega)
      have ex : x = .ref p2 := by
        rw [hi] at hv1
        exact Option.some.inj hv1
      subst ex
      have s14 : Same H H4 := s4.trans rem_same
      refine ⟨rfl, _, rfl, p2, u2, rfl, .inr (sqT_mono s14 hp2), fun l hl => ?_⟩
      have s5 := same_new (o := .lst u2) hl
      exact kq l _ s5 hl ⟨u2, upd_same, nums_mono (s14.trans s5) hu2⟩
    · intro D hD H1 ads s1 hM hfr
      rw [e1, map_range] at hM
      have s01 : Same H H1 := s1.trans rem_same
      refine ⟨_, rfl, p, _, dx, _, _, rfl, s01 _ _ hp, T.cl, T.nH, tf_high _ _ _, _, _, rfl, rfl, _, rfl, _, _, _, _, rfl, .neg (by omega) (by omega) (by omega) (by omega), ?_⟩
      refine for_rangeC (lo := ((R.length : Nat) : Int) - 1) (n := (((R.length : Nat) : Int) - 1 - 0).toNat) (fun t σ H' => Same H H' ∧ Mat K H' D ads (lev R (R.length - t) ++ (core R).drop (R.length - t)) ∧ ∃ w2 w3, σ = [some (.ref p), some (.ref D), w2, w3])
        ⟨s01, by
          rw [Nat.sub_zero, lev_all, List.drop_of_length_le (by omega), List.append_nil]
          exact hM, _, _, rfl⟩ ?_ ?_
      · rintro t σ H' ht' ⟨s2, hM2, w2, w3, rfl⟩
        obtain ⟨u, hu⟩ : ∃ u, u + t + 1 = R.length := ⟨R.length - t - 1, by omega⟩
        have ej : ((R.length : Nat) : Int) - 1 + (t : Nat) * (-1) = (u : Int) := by omega
        rw [ej]
        rw [show R.length - t = u + 1 by omega] at hM2
        rw [show R.length - (t + 1) = u by omega]
        have ll : (lev R (u + 1)).length = u + 1 := lev_length (by omega)
        refine ⟨_, rfl, _, rfl, D, ads, n, _, u, rfl, hM2, fun z hz => ?_, by rw [List.length_append]; omega, hn0, by omega, by rw [List.length_append, List.length_drop]; omega, fun i hi => ?_, fun H3 kp hM3 => ?_⟩
        · rcases List.mem_append.mp hz with h | h
          · exact lev_wide hw _ z h
          · exact core_wide hw z (List.mem_of_mem_drop h)
        · rw [List.getD_eq_getElem?_getD, List.getElem?_append_left (by omega), List.getElem?_eq_getElem (by omega)]
          exact hok (u + 1) (by omega) (by omega) _ (List.getElem_mem _)
        · rw [clr_lev (by omega)] at hM3
          refine ⟨fun b o hb => kp b o (fun z => ?_) (s2 _ _ hb), hM3, _, _, rfl⟩
          rw [hfr b z] at hb
          cases hb
      · rintro σ H' ⟨s2, hM2, w2, w3, rfl⟩
        rw [show R.length - (((R.length : Nat) : Int) - 1 - 0).toNat = 1 by omega, lev_one h0] at hM2
        refine ⟨_, rfl, ?_⟩
        exact tab_make (n := n) (R := core R) hM2.tab (core_wide hw) (by omega) (by omega) hn0 hn12 (fun v' H5 s5 t5 => k v' H5 (s2.trans s5) t5)
end MU
namespace MU
open PySem PySem.Spec PyProof.Rows L2 He MM
theorem rows_of {K : PySem.W.Frag} {H : Hp} : ∀ {us : List V} {R : List (List Rat)}, Paired (RowT K H) us R → ∃ xss, RowsOf K H us xss ∧ Paired (Paired (Num K H)) xss R
  | _, _, .nil => ⟨[], .nil, .nil⟩
  | _, _, .cons h t => by
    obtain ⟨xss, a, b⟩ := rows_of t
    obtain ⟨p, vs, e, hp, n⟩ := h
    exact ⟨vs :: xss, .cons ⟨p, e, hp⟩ a, .cons n b⟩
theorem turn_seq {K : PySem.W.Frag} {H H' : Hp} {S : Addr} {ts : List Addr} {n : Nat} {xss : List (List V)} {R : List (List Rat)} (hw : Wide n R) (hx : Paired (Paired (Num K H)) xss R) (s : Same H H') (e1 : H' S = some (.lst (ts.map V.ref)))
    (e2 : Paired (fun (t : Addr) (c : List V) => H' t = some (.tup c)) ts (colsV xss n)) : SeqT K H' (.ref S) (tr n R) := by
  refine ⟨S, _, rfl, .inl (SqL.of e1), pr_of ?_ fun i v c h1 h2 => ?_⟩
  · rw [List.length_map, pr_len e2, tr_length]
    simp [colsV]
  · have hi : i < n := by
      have := (List.getElem?_eq_some_iff.mp h2).1
      rwa [tr_length] at this
    rw [List.getElem?_map] at h1
    cases h3 : ts[i]? with
    | none => rw [h3] at h1; cases h1
    | some t =>
      rw [h3] at h1
      cases h1
      have h4 : (colsV xss n)[i]? = some (xss.map fun xs => xs.getD i .non) := by simp [colsV, List.getElem?_map, List.getElem?_range hi]
      have h5 : (tr n R)[i]? = some (R.map fun r => r.getD i 0) := by simp [tr, List.getElem?_map, List.getElem?_range hi]
      rw [h5] at h2
      cases h2
      have e5 : H' t = some (.tup (xss.map fun xs => xs.getD i .non)) := pr_at (F := fun (t : Addr) (c : List V) => H' t = some (HO.tup c)) e2 h3 h4
      refine ⟨t, _, rfl, SqT.of e5, pr_of (by simp [pr_len hx]) fun j v q h6 h7 => ?_⟩
      rw [List.getElem?_map] at h6 h7
      cases h8 : xss[j]? with
      | none => rw [h8] at h6; cases h6
      | some xs =>
        rw [h8] at h6
        cases h6
        obtain ⟨r, hr, nr⟩ := pr_getl hx h8
        rw [hr] at h7
        cases h7
        have lr : r.length = n := hw _ (List.mem_of_getElem? hr)
        obtain ⟨v, hv, nv⟩ := pr_get nr (getD_at (show i < r.length by omega))
        have e : xs.getD i .non = v := by rw [List.getD_eq_getElem?_getD, hv]; rfl
        show Num K H' (xs.getD i .non) (r.getD i 0)
        rw [e]
        exact nv.mono s
def spTurn (K : PySem.W.Frag) : Sp := fun vs H Q _ => ∃ (v : V) (n : Nat) (R : List (List Rat)), vs = [v] ∧ Tbl K H v n R ∧ ∀ v' H', Same H H' → Tbl K H' v' R.length (tr n R) → Q v' H'
theorem sc_m_turned : FnScope ["self"] ["self"] (defScope (cls 7)) := ⟨rfl, rfl, rfl, by decide +kernel, rfl, by decide +kernel, by decide +kernel⟩
theorem ok_m_turned {P : Program} {w : World} {K : PySem.W.Frag} {mg : Str → Option Value} {base : Heap} (T : Txt P K mg base) : Fm P w K mg base 11 "turned" ["self"] (spTurn K) := by
  have sc := sc_m_turned
  refine mkFm T "turned" 7 (by decide) sc (fun vs H Q E h => ?_) (fun _ _ _ _ _ _ us hl => match us, hl with | [_], _ => rfl) (fun cdv A outer s H vs Q E hr h => ?_)
  · obtain ⟨_, n, R, rfl, ⟨⟨p, dx, rv, rfl, hp, ht⟩, hw, h0, h12, hn0, hn12⟩, k⟩ := h
    rfl
  · obtain ⟨_, n, R, rfl, ⟨⟨p, dx, rv, rfl, hp, ht⟩, hw, h0, h12, hn0, hn12⟩, k⟩ := h
    refine ⟨_, (pss_one (ps_ret (pe_ct (ok_m_init T) T (hr.mono (by decide)) rfl (pa_cons (pe_turn rfl rfl T.list rfl T.zip (pe_fld (pv 0) rfl)) pa_nil)))), ?_⟩
    obtain ⟨p1, u1, rfl, hp1, hu1⟩ := id ht
    obtain ⟨xss, ho, hx⟩ := rows_of hu1
    have e1 := pr_len hu1
    refine ⟨_, rfl, p, _, dx, _, _, rfl, hp, T.cl, T.nR, tf_rows _ _ _, p1, u1, xss, n, rfl, hp1, ho, fun xs hxs => ?_, by omega, by omega, hn0, by omega, fun H1 S ts s1 _ e2 e3 => ?_⟩
    · obtain ⟨i, hi⟩ := List.mem_iff_getElem?.mp hxs
      obtain ⟨r, hr, nr⟩ := pr_getl hx hi
      rw [pr_len nr]
      exact hw _ (List.mem_of_getElem? hr)
    · exact tab_make (n := R.length) (R := tr n R) (turn_seq hw hx s1 e2 e3).s (tr_wide n R) (by rw [tr_length]; exact hn0) (by rw [tr_length]; exact hn12) h0 h12 (fun v' H5 s5 t5 => k v' H5 (s1.trans s5) t5)
theorem sc_m_invert : FnScope ["self"] ["self"] (defScope (cls 21)) := ⟨rfl, rfl, rfl, by decide +kernel, rfl, by decide +kernel, by decide +kernel⟩
theorem ok_m_invert {P : Program} {w : World} {K : PySem.W.Frag} {mg : Str → Option Value} {base : Heap} (T : Txt P K mg base) : Fm P w K mg base 11 "__invert__" ["self"] (spTurn K) := by
  have sc := sc_m_invert
  refine mkFm T "__invert__" 21 (by decide) sc (fun vs H Q E h => ?_) (fun _ _ _ _ _ _ us hl => match us, hl with | [_], _ => rfl) (fun cdv A outer s H vs Q E hr h => ?_)
  · obtain ⟨_, n, R, rfl, ⟨⟨p, dx, rv, rfl, hp, ht⟩, hw, h0, h12, hn0, hn12⟩, k⟩ := h
    rfl
  · obtain ⟨_, n, R, rfl, ⟨⟨p, dx, rv, rfl, hp, ht⟩, hw, h0, h12, hn0, hn12⟩, k⟩ := h
    refine ⟨_, (pss_one (ps_ret (pe_ct (ok_m_init T) T (hr.mono (by decide)) rfl (pa_cons (pe_turn rfl rfl T.list rfl T.zip (pe_fld (pv 0) rfl)) pa_nil)))), ?_⟩
    obtain ⟨p1, u1, rfl, hp1, hu1⟩ := id ht
    obtain ⟨xss, ho, hx⟩ := rows_of hu1
    have e1 := pr_len hu1
    refine ⟨_, rfl, p, _, dx, _, _, rfl, hp, T.cl, T.nR, tf_rows _ _ _, p1, u1, xss, n, rfl, hp1, ho, fun xs hxs => ?_, by omega, by omega, hn0, by omega, fun H1 S ts s1 _ e2 e3 => ?_⟩
    · obtain ⟨i, hi⟩ := List.mem_iff_getElem?.mp hxs
      obtain ⟨r, hr, nr⟩ := pr_getl hx hi
      rw [pr_len nr]
      exact hw _ (List.mem_of_getElem? hr)
    · exact tab_make (n := R.length) (R := tr n R) (turn_seq hw hx s1 e2 e3).s (tr_wide n R) (by rw [tr_length]; exact hn0) (by rw [tr_length]; exact hn12) h0 h12 (fun v' H5 s5 t5 => k v' H5 (s1.trans s5) t5)
theorem sc_m_eq : FnScope ["self", "other"] ["self", "other"] (defScope (cls 22)) := ⟨rfl, rfl, rfl, by decide +kernel, rfl, by decide +kernel, by decide +kernel⟩
theorem ok_m_eq {P : Program} {w : World} {K : PySem.W.Frag} {mg : Str → Option Value} {base : Heap} (T : Txt P K mg base) : Fm P w K mg base 11 "__eq__" ["self", "other"] (spEq (RTab K)) := by
  have sc := sc_m_eq
  refine mkFm T "__eq__" 22 (by decide) sc (fun vs H Q E h => ?_) (fun _ _ _ _ _ _ us hl => match us, hl with | [_, _], _ => rfl) (fun cdv A outer s H vs Q E hr h => ?_)
  · obtain ⟨x, y, rfl, ⟨n, R, ht1, ht2⟩, k⟩ := h
    rfl
  · obtain ⟨x, y, rfl, ⟨n, R, ht1, ht2⟩, k⟩ := h
    refine ⟨_, (pss_one (ps_ret (pe_and (pe_callB call_isi rfl T.isi boot_isinstance (pa_cons (pv 1) (pa_cons (pe_glob (v := .ref (cTab K)) rfl T.tab rfl) pa_nil))) (pe_one (pe_cmpR (op_eqD (units_of hr)) (pe_fld (pv 0) rfl) (pe_fld (pv 1) rfl) (nomark _)))))), ?_⟩
    obtain ⟨⟨p, dx, rv, e1, hp, t1⟩, _⟩ := id ht1
    obtain ⟨⟨p2, dx2, rv2, e2, hp2, t2⟩, _⟩ := id ht2
    cases e1
    cases e2
    refine ⟨_, rfl, _, _, _, _, true, rfl, .own _, .base (.ins hp2 T.cl T.ic T.ig T.it T.im), ?_, true, rfl, iteT ?_⟩
    · unfold PySem.W.kitOne
      rw [if_pos (by simp)]
    · refine ⟨_, rfl, x, _, dx, _, _, rfl, hp, T.cl, T.nR, tf_rows _ _ _, _, rfl, y, _, dx2, _, _, rfl, hp2, T.cl, T.nR, tf_rows _ _ _, ?_⟩
      exact eq_tab t1 t2 (k _ (Same.refl _))
def spCorner (K : PySem.W.Frag) : Sp := fun vs H Q _ => ∃ (v : V) (n : Nat) (R : List (List Rat)) (i j : Nat), vs = [v, .int (i : Nat), .int (j : Nat)] ∧ Tbl K H v n R ∧ i < R.length ∧ j < n ∧ ∀ v' H', Same H H' → Tbl K H' v' (n - j) ((R.drop i).map (List.drop j)) → Q v' H'
theorem sc_m_corner : FnScope ["self", "row", "column", "told"] ["self", "row", "column"] (defScope (cls 10)) := ⟨rfl, rfl, rfl, by decide +kernel, rfl, by decide +kernel, by decide +kernel⟩
theorem ok_m_corner {P : Program} {w : World} {K : PySem.W.Frag} {mg : Str → Option Value} {base : Heap} (T : Txt P K mg base) : Fm P w K mg base 11 "corner" ["self", "row", "column"] (spCorner K) := by
  have sc := sc_m_corner
  refine mkFm T "corner" 10 (by decide) sc (fun vs H Q E h => ?_) (fun _ _ _ _ _ _ us hl => match us, hl with | [_, _, _], _ => rfl) (fun cdv A outer s H vs Q E hr h => ?_)
  · obtain ⟨_, n, R, i, j, rfl, ⟨⟨p, dx, rv, rfl, hp, ht⟩, hw, h0, h12, hn0, hn12⟩, hi, hj, k⟩ := h
    rfl
  · obtain ⟨_, n, R, i, j, rfl, ⟨⟨p, dx, rv, rfl, hp, ht⟩, hw, h0, h12, hn0, hn12⟩, hi, hj, k⟩ := h
    refine ⟨_, (pss_cons (ps_if (PW.pt (pw_or (pt_not (pt_val (pe_cf (ok_is_place T) (hr.mono (by decide)) rfl (pa_cons (pv 1) (pa_cons (pe_fld (pv 0) rfl) pa_nil))))) (pw_or1 (pt_not (pt_val (pe_cf (ok_is_place T) (hr.mono (by decide)) rfl (pa_cons (pv 2) (pa_cons (pe_fld (pv 0) rfl) pa_nil)))))))) (pss_one ps_never) pss_nil)
      (pss_one (ps_ret (pe_ct (ok_m_init T) T (hr.mono (by decide)) rfl (pa_cons (pe_lc (own := [("told", 3)]) (g := gName 3) rfl sc.nd (pi_seqK K rfl (pe_slice (r := rSlS K) sl_seq (pe_fld (pv 0) rfl) (po_some (pv 1)) po_none)) (blkOk_by (own := [("told", 3)]) (N := ["self", "row", "column", "told"]) (sc := defScope (cls 10)) (by decide +kernel)) (fun _ _ _ _ _ => pg_name (i := 3) sc.nd rfl (Or.inl rfl)) (fun _ _ _ _ _ => pts_nil) (fun _ _ _ _ _ => (pe_slice (r := rSlS K) sl_seq (pv 3) (po_some (pv 2)) po_none))) pa_nil))))), ?_⟩
    obtain ⟨p1, u1, rfl, hp1, hu1⟩ := id ht
    have e1 := pr_len hu1
    refine ⟨_, rfl, _, rfl, p, _, dx, _, _, rfl, hp, T.cl, T.nH, tf_high _ _ _, _, _, rfl, by omega, by omega, true, rfl, iteF ?_⟩
    refine ⟨_, rfl, _, rfl, p, _, dx, _, _, rfl, hp, T.cl, T.nW, tf_wide _ _ _, _, _, rfl, by omega, by omega, true, rfl, iteF ?_⟩
    refine ⟨_, rfl, p, _, dx, _, _, rfl, hp, T.cl, T.nR, tf_rows _ _ _, _, rfl, _, rfl, ?_⟩
    refine slT (ys := u1.drop i) hp1 (cut_from u1 (by omega)) fun p' H1 s1 hp' => ?_
    refine ⟨p', rfl, lc_mapS (.inr hp') (by rw [List.length_drop]; omega) (fun l v H => ∃ r, (R.drop i)[l]? = some r ∧ RowT K H v (r.drop j)) (fun i v H H' s ⟨r, a, b⟩ => ⟨r, a, b.mono s⟩) ?_ ?_⟩
    · intro D hD l y H4 hl s4 ⟨acc, hacc⟩ Qe kq
      have s14 : Same H H4 := s1.trans (s4.trans rem_same)
      obtain ⟨r, hr', rx⟩ := pr_getl (pr_drop i hu1) hl
      obtain ⟨p3, u3, rfl, hp3, hu3⟩ := rx.mono s14
      have lr : r.length = n := hw r (List.mem_of_mem_drop (List.mem_of_getElem? hr'))
      have l3 := pr_len hu3
      refine ⟨rfl, _, rfl, _, rfl, _, rfl, ?_⟩
      refine slT (ys := u3.drop j) hp3 (cut_from u3 (by omega)) fun p4 H5 s5 hp4 => ?_
      exact kq _ H5 s5 ⟨r, hr', RowT.rem (s5 _ _ hacc) ⟨p4, _, rfl, hp4, nums_mono s5 (pr_drop j hu3)⟩⟩
    · intro D hD H5 ys s5 h5 hl5 hr5
      have s15 := s1.trans (s5.trans rem_same)
      rw [List.length_drop] at hl5
      refine tab_make (n := n - j) (R := (R.drop i).map (List.drop j)) (SeqT.s ⟨D, ys, rfl, .inl (SqL.of h5), pr_of (by simp; omega) fun l y z h1 h2 => ?_⟩) (fun z hz => ?_) (by simp; omega) (by simp; omega) (by omega) (by omega) (fun v' H6 s6 t6 => k v' H6 (s15.trans s6) t6)
      · obtain ⟨r, e1, e2⟩ := hr5 l y h1
        rw [List.getElem?_map, e1] at h2
        cases h2
        exact e2.mono rem_same
      · obtain ⟨r, hr', rfl⟩ := List.mem_map.mp hz
        rw [List.length_drop, hw r (List.mem_of_mem_drop hr')]
def spWithRow (K : PySem.W.Frag) : Sp := fun vs H Q _ => ∃ (v w : V) (n : Nat) (R : List (List Rat)) (i : Nat) (r : List Rat), vs = [v, .int (i : Nat), w] ∧ Tbl K H v n R ∧ RowS K H w r ∧ r.length = n ∧ i ≤ R.length ∧ R.length < 12 ∧
  ∀ v' H', Same H H' → Tbl K H' v' n (ins i r R) → Q v' H'
theorem sc_m_with_row : FnScope ["self", "at", "row", "new"] ["self", "at", "row"] (defScope (cls 13)) := ⟨rfl, rfl, rfl, by decide +kernel, rfl, by decide +kernel, by decide +kernel⟩
theorem ok_m_with_row {P : Program} {w : World} {K : PySem.W.Frag} {mg : Str → Option Value} {base : Heap} (T : Txt P K mg base) : Fm P w K mg base 11 "with_row" ["self", "at", "row"] (spWithRow K) := by
  have sc := sc_m_with_row
  refine mkFm T "with_row" 13 (by decide) sc (fun vs H Q E h => ?_) (fun _ _ _ _ _ _ us hl => match us, hl with | [_, _, _], _ => rfl) (fun cdv A outer s H vs Q E hr h => ?_)
  · obtain ⟨_, w0, n, R, i, r, rfl, ⟨⟨p, dx, rv, rfl, hp, ht⟩, hw, h0, h12, hn0, hn12⟩, hr1, hrn, hi, hR, k⟩ := h
    rfl
  · obtain ⟨_, w0, n, R, i, r, rfl, ⟨⟨p, dx, rv, rfl, hp, ht⟩, hw, h0, h12, hn0, hn12⟩, hr1, hrn, hi, hR, k⟩ := h
    obtain ⟨tMost, hMost⟩ := T.most
    refine ⟨_, (pss_cons (ps_expr (pe_cf (ok_row_at T) (hr.mono (by decide)) rfl (pa_cons (pv 1) (pa_cons (pe_op (op_add) (pe_fld (pv 0) rfl) pe_int) pa_nil))))
      (pss_cons (ps_set (i := 3) sc.nd rfl (Or.inl rfl) (pe_cf (ok_fitting_row T) (hr.mono (by decide)) rfl (pa_cons (pv 2) (pa_cons (pe_fld (pv 0) rfl) pa_nil))))
      (pss_cons (ps_if (pt_cmpR (op_eq) (pe_fld (pv 0) rfl) (pe_glob (v := .int 12) rfl hMost ⟨_, rfl⟩) (nomark _)) (pss_one ps_never) pss_nil)
      (pss_one (ps_ret (pe_ct (ok_m_init T) T (hr.mono (by decide)) rfl (pa_cons (pe_op (r := rCatA K) op_catA (pe_op (r := rCatA K) op_catA (pe_slice (r := rSlS K) sl_seq (pe_fld (pv 0) rfl) po_none (po_some (pv 1))) (pe_tup (pa_cons (pv 3) pa_nil))) (pe_slice (r := rSlS K) sl_seq (pe_fld (pv 0) rfl) (po_some (pv 1)) po_none)) pa_nil))))))), ?_⟩
    refine ⟨_, rfl, _, rfl, p, _, dx, _, _, rfl, hp, T.cl, T.nH, tf_high _ _ _, _, _, rfl, rfl, _, _, rfl, by omega, by omega, ?_⟩
    refine ⟨_, rfl, _, rfl, p, _, dx, _, _, rfl, hp, T.cl, T.nW, tf_wide _ _ _, _, r, by rw [hrn] <;> rfl, hr1, by omega, fun w' H1 s1 n1 => ?_⟩
    refine ⟨_, rfl, p, _, dx, _, _, rfl, s1 _ _ hp, T.cl, T.nH, tf_high _ _ _, rfl, _, rfl, iteDN (int_ne (by omega)) ?_⟩
    obtain ⟨p1, u1, rfl, hp1, hu1⟩ := ht.mono s1
    have e1 := pr_len hu1
    refine ⟨_, rfl, p, _, dx, _, _, rfl, s1 _ _ hp, T.cl, T.nR, tf_rows _ _ _, _, rfl, _, rfl, ?_⟩
    refine slT (ys := u1.take i) hp1 (cut_to u1 (by omega)) fun p2 H2 s2 hp2 => ?_
    refine ⟨_, rfl, by show 1 ≤ sizeLine; decide, fun t ht2 => ?_⟩
    have s3 : Same H2 (upd H2 t (.tup [w'])) := same_new ht2
    have hz1 : (u1.take i).length + [w'].length ≤ 1000 := by rw [List.length_take]; simp; omega
    refine catT (sqT_mono s3 hp2) (SqT.of upd_same) hz1 fun p4 H4 s4 hp4 => ?_
    have s14 := s2.trans (s3.trans s4)
    refine ⟨_, rfl, p, _, dx, _, _, rfl, s14 _ _ (s1 _ _ hp), T.cl, T.nR, tf_rows _ _ _, _, rfl, _, rfl, ?_⟩
    refine slT (ys := u1.drop i) (sqT_mono s14 hp1) (cut_from u1 (by omega)) fun p5 H5 s5 hp5 => ?_
    have hz2 : (u1.take i ++ [w']).length + (u1.drop i).length ≤ 1000 := by simp; omega
    refine catT (sqT_mono s5 hp4) hp5 hz2 fun p6 H6 s6 hp6 => ?_
    have s16 := s14.trans (s5.trans s6)
    refine tab_make (n := n) (R := ins i r R) (SeqT.s ⟨p6, _, rfl, .inr hp6, ?_⟩) (fun z hz => ?_) (by rw [ins_length]; omega) (by rw [ins_length]; omega) hn0 hn12 (fun v' H7 s7 t7 => k v' H7 (s1.trans (s16.trans s7)) t7)
    · have hu6 := rowTs_mono s16 hu1
      exact pr_app (pr_app (pr_take i hu6) (.cons (n1.mono s16) .nil)) (pr_drop i hu6)
    · unfold ins at hz
      rcases List.mem_append.mp hz with h | h
      · rcases List.mem_append.mp h with h | h
        · exact hw z (List.mem_of_mem_take h)
        · have : z = r := by simpa using h
          rw [this, hrn]
      · exact hw z (List.mem_of_mem_drop h)
def spWithCol (K : PySem.W.Frag) : Sp := fun vs H Q _ => ∃ (v w : V) (n : Nat) (R : List (List Rat)) (j : Nat), vs = [v, .int (j : Nat), w] ∧ Tbl K H v n R ∧ RowS K H w (zer R.length) ∧ j ≤ n ∧ n < 12 ∧
  ∀ v' H', Same H H' → Tbl K H' v' (n + 1) (R.map (ins j 0)) → Q v' H'
theorem zer_len (n : Nat) : (zer n).length = n := by simp [zer]
theorem sc_m_with_column : FnScope ["self", "at", "column", "new", "row", "number"] ["self", "at", "column"] (defScope (cls 14)) := ⟨rfl, rfl, rfl, by decide +kernel, rfl, by decide +kernel, by decide +kernel⟩
theorem ok_m_with_column {P : Program} {w : World} {K : PySem.W.Frag} {mg : Str → Option Value} {base : Heap} (T : Txt P K mg base) : Fm P w K mg base 11 "with_column" ["self", "at", "column"] (spWithCol K) := by
  have sc := sc_m_with_column
  refine mkFm T "with_column" 14 (by decide) sc (fun vs H Q E h => ?_) (fun _ _ _ _ _ _ us hl => match us, hl with | [_, _, _], _ => rfl) (fun cdv A outer s H vs Q E hr h => ?_)
  · obtain ⟨_, w0, n, R, j, rfl, ⟨⟨p, dx, rv, rfl, hp, ht⟩, hw, h0, h12, hn0, hn12⟩, hr1, hj, hn, k⟩ := h
    rfl
  · obtain ⟨_, w0, n, R, j, rfl, ⟨⟨p, dx, rv, rfl, hp, ht⟩, hw, h0, h12, hn0, hn12⟩, hr1, hj, hn, k⟩ := h
    obtain ⟨tMost, hMost⟩ := T.most
    refine ⟨_, (pss_cons (ps_expr (pe_cf (ok_column_at T) (hr.mono (by decide)) rfl (pa_cons (pv 1) (pa_cons (pe_op (op_add) (pe_fld (pv 0) rfl) pe_int) pa_nil))))
      (pss_cons (ps_set (i := 3) sc.nd rfl (Or.inl rfl) (pe_cf (ok_fitting_row T) (hr.mono (by decide)) rfl (pa_cons (pv 2) (pa_cons (pe_fld (pv 0) rfl) pa_nil))))
      (pss_cons (ps_if (pt_cmpR (op_eq) (pe_fld (pv 0) rfl) (pe_glob (v := .int 12) rfl hMost ⟨_, rfl⟩) (nomark _)) (pss_one ps_never) pss_nil)
      (pss_one (ps_ret (pe_ct (ok_m_init T) T (hr.mono (by decide)) rfl (pa_cons (pe_lc (own := [("row", 4), ("number", 5)]) (g := gTup K 2 (gCons (gName 4) (gCons (gName 5) gNil))) rfl sc.nd (RZ.pi_zipA rfl T.zip (pa_cons (pe_fld (pv 0) rfl) (pa_cons (pv 3) pa_nil))) (blkOk_by (own := [("row", 4), ("number", 5)]) (N := ["self", "at", "column", "new", "row", "number"]) (sc := defScope (cls 14)) (by decide +kernel)) (fun _ _ _ _ _ => pg_tup rfl (pgs_cons (pg_name (i := 4) sc.nd rfl (Or.inl rfl)) (pgs_cons (pg_name (i := 5) sc.nd rfl (Or.inl rfl)) pgs_nil))) (fun _ _ _ _ _ => pts_nil) (fun _ _ _ _ _ => (pe_op (r := rCatA K) op_catA (pe_op (r := rCatA K) op_catA (pe_slice (r := rSlS K) sl_seq (pv 4) po_none (po_some (pv 1))) (pe_tup (pa_cons (pv 5) pa_nil))) (pe_slice (r := rSlS K) sl_seq (pv 4) (po_some (pv 1)) po_none)))) pa_nil))))))), ?_⟩
    refine ⟨_, rfl, _, rfl, p, _, dx, _, _, rfl, hp, T.cl, T.nW, tf_wide _ _ _, _, _, rfl, rfl, _, _, rfl, by omega, by omega, ?_⟩
    refine ⟨_, rfl, _, rfl, p, _, dx, _, _, rfl, hp, T.cl, T.nH, tf_high _ _ _, _, zer R.length, by rw [zer_len] <;> rfl, hr1, by rw [zer_len]; omega, fun w' H1 s1 n1 => ?_⟩
    refine ⟨_, rfl, p, _, dx, _, _, rfl, s1 _ _ hp, T.cl, T.nW, tf_wide _ _ _, rfl, _, rfl, iteDN (int_ne (by omega)) ?_⟩
    obtain ⟨p1, u1, rfl, hp1, hu1⟩ := ht.mono s1
    obtain ⟨p2, u2, rfl, hp2, hu2⟩ := id n1
    have e1 := pr_len hu1
    have e2 := pr_len hu2
    rw [zer_len] at e2
    refine ⟨_, rfl, p, _, dx, _, _, rfl, s1 _ _ hp, T.cl, T.nR, tf_rows _ _ _, _, rfl, p1, p2, u1, u2, rfl, .inr ⟨hp1, hp2, fun D hD => ?_⟩⟩
    refine lc_zipT (Qd := fun H => _) (by omega) hp1 hp2 hD (by omega) (fun l v H => ∃ r, R[l]? = some r ∧ RowT K H v (ins j 0 r)) (fun i v H H' s ⟨r, a, b⟩ => ⟨r, a, b.mono s⟩) ?_ ?_
    · intro l x y t H4 hx hy s4 ⟨acc, hacc⟩ ht4 Qe kq
      have s14 : Same H1 H4 := s4.trans rem_same
      obtain ⟨r, hr', rx⟩ := pr_getl hu1 hx
      obtain ⟨q, hq, ny⟩ := pr_getl hu2 hy
      have hq0 : q = 0 := List.eq_of_mem_replicate (List.mem_of_getElem? hq)
      subst hq0
      obtain ⟨p3, u3, rfl, hp3, hu3⟩ := rx.mono s14
      have lr : r.length = n := hw r (List.mem_of_getElem? hr')
      have l3 := pr_len hu3
      refine ⟨t, _, rfl, SqT.of ht4, rfl, _, _, rfl, _, _, rfl, rfl, rfl, ?_⟩
      refine ⟨_, rfl, _, rfl, _, rfl, ?_⟩
      refine slT (ys := u3.take j) hp3 (cut_to u3 (by omega)) fun p4 H5 s5 hp4 => ?_
      refine ⟨_, rfl, by show 1 ≤ sizeLine; decide, fun t2 ht2 => ?_⟩
      have s6 : Same H5 (upd H5 t2 (.tup [y])) := same_new ht2
      have hz1 : (u3.take j).length + [y].length ≤ 1000 := by rw [List.length_take]; simp; omega
      refine catT (sqT_mono s6 hp4) (SqT.of upd_same) hz1 fun p7 H7 s7 hp7 => ?_
      have s47 := s5.trans (s6.trans s7)
      refine ⟨_, rfl, _, rfl, _, rfl, ?_⟩
      refine slT (ys := u3.drop j) (sqT_mono s47 hp3) (cut_from u3 (by omega)) fun p8 H8 s8 hp8 => ?_
      have hz2 : (u3.take j ++ [y]).length + (u3.drop j).length ≤ 1000 := by simp; omega
      refine catT (sqT_mono s8 hp7) hp8 hz2 fun p9 H9 s9 hp9 => ?_
      have s49 := s47.trans (s8.trans s9)
      refine kq _ H9 s49 ⟨r, hr', RowT.rem (s49 _ _ hacc) ⟨p9, _, rfl, hp9, ?_⟩⟩
      have hu9 := nums_mono s49 hu3
      exact pr_app (pr_app (pr_take j hu9) (.cons ((ny.mono s14).mono s49) .nil)) (pr_drop j hu9)
    · intro H5 ys s5 h5 hl5 hr5
      have s15 := s5.trans rem_same
      refine tab_make (n := n + 1) (R := R.map (ins j 0)) (SeqT.s ⟨D, ys, rfl, .inl (SqL.of h5), pr_of (by simp; omega) fun l y z h1 h2 => ?_⟩) (fun z hz => ?_) (by simp; omega) (by simp; omega) (by omega) (by omega) (fun v' H6 s6 t6 => k v' H6 (s1.trans (s15.trans s6)) t6)
      · obtain ⟨r, e1, e2⟩ := hr5 l y h1
        rw [List.getElem?_map, e1] at h2
        cases h2
        exact e2.mono rem_same
      · obtain ⟨r, hr', rfl⟩ := List.mem_map.mp hz
        rw [ins_length, hw r hr']
def spTimesRow (K : PySem.W.Frag) : Sp := fun vs H Q _ => ∃ (v w : V) (n : Nat) (R : List (List Rat)) (i : Nat) (c : Rat), vs = [v, .int (i : Nat), w] ∧ Tbl K H v n R ∧ Num K H w c ∧ i < R.length ∧ hb 1000000 c ∧ hbR 1000000 (R.getD i []) ∧
  ∀ v' H', Same H H' → Tbl K H' v' n (scR i c R) → Q v' H'
theorem sc_m_times_row : FnScope ["self", "at", "number", "told", "other"] ["self", "at", "number"] (defScope (cls 17)) := ⟨rfl, rfl, rfl, by decide +kernel, rfl, by decide +kernel, by decide +kernel⟩
theorem ok_m_times_row {P : Program} {w : World} {K : PySem.W.Frag} {mg : Str → Option Value} {base : Heap} (T : Txt P K mg base) : Fm P w K mg base 43 "times_row" ["self", "at", "number"] (spTimesRow K) := by
  have sc := sc_m_times_row
  refine mkFm T "times_row" 17 (by decide) sc (fun vs H Q E h => ?_) (fun _ _ _ _ _ _ us hl => match us, hl with | [_, _, _], _ => rfl) (fun cdv A outer s H vs Q E hr h => ?_)
  · obtain ⟨_, w0, n, R, i, c, rfl, ⟨⟨p, dx, rv, rfl, hp, ht⟩, hw, h0, h12, hn0, hn12⟩, hc1, hi, bc, bR, k⟩ := h
    rfl
  · obtain ⟨_, w0, n, R, i, c, rfl, ⟨⟨p, dx, rv, rfl, hp, ht⟩, hw, h0, h12, hn0, hn12⟩, hc1, hi, bc, bR, k⟩ := h
    refine ⟨_, (pss_cons (ps_expr (pe_cf (ok_row_at T) (hr.mono (by decide)) rfl (pa_cons (pv 1) (pa_cons (pe_fld (pv 0) rfl) pa_nil))))
      (pss_cons (ps_expr (pe_cf (ok_check_number T) (hr.mono (by decide)) rfl (pa_cons (pv 2) pa_nil)))
      (pss_cons (ps_set (i := 3) sc.nd rfl (Or.inl rfl) (pe_callTy (r := (rTupOf K)) call_tuple_of rfl T.tuple boot_tuple (pa_cons (pe_lc (own := [("other", 4)]) (g := gName 4) rfl sc.nd (pi_seqK K rfl (pe_ix (r := rIx K) ix_seq (pe_fld (pv 0) rfl) (pv 1) (fun _ _ => rfl))) (blkOk_by (own := [("other", 4)]) (N := ["self", "at", "number", "told", "other"]) (sc := defScope (cls 17)) (by decide +kernel)) (fun _ _ _ _ _ => pg_name (i := 4) sc.nd rfl (Or.inl rfl)) (fun _ _ _ _ _ => pts_nil) (fun _ _ _ _ _ => (pe_cf (ok_times T) (hr.mono (by decide)) rfl (pa_cons (pv 2) (pa_cons (pv 4) pa_nil))))) pa_nil)))
      (pss_one (ps_ret (pe_ct (ok_m_init T) T (hr.mono (by decide)) rfl (pa_cons (pe_op (r := rCatA K) op_catA (pe_op (r := rCatA K) op_catA (pe_slice (r := rSlS K) sl_seq (pe_fld (pv 0) rfl) po_none (po_some (pv 1))) (pe_tup (pa_cons (pv 3) pa_nil))) (pe_slice (r := rSlS K) sl_seq (pe_fld (pv 0) rfl) (po_some (pe_op (op_add) (pv 1) pe_int)) po_none)) pa_nil))))))), ?_⟩
    refine ⟨_, rfl, _, rfl, p, _, dx, _, _, rfl, hp, T.cl, T.nH, tf_high _ _ _, _, _, rfl, by omega, by omega, ?_⟩
    refine ⟨_, rfl, _, c, rfl, hc1, ?_⟩
    obtain ⟨p1, u1, rfl, hp1, hu1⟩ := id ht
    have e1 := pr_len hu1
    obtain ⟨v1, hv1, p2, u2, rfl, hp2, hu2⟩ := row_of hu1 hi
    have lr : (R.getD i []).length = n := wide_at hw hi
    have e2 := pr_len hu2
    refine ⟨_, rfl, p, _, dx, _, _, rfl, hp, T.cl, T.nR, tf_rows _ _ _, _, rfl, ixS (.inr hp1) rfl hv1 ?_⟩
    refine ⟨p2, rfl, lc_mapS (.inr hp2) (by omega) (fun l v H => ∃ q, (R.getD i [])[l]? = some q ∧ Num K H v (c * q)) (fun i v H H' s ⟨r, a, b⟩ => ⟨r, a, b.mono s⟩) ?_ ?_⟩
    · intro D hD l y H4 hl s4 ⟨acc, hacc⟩ Qe kq
      have s14 : Same H H4 := s4.trans rem_same
      obtain ⟨q, hq, nq⟩ := pr_getl hu2 hl
      refine ⟨rfl, _, rfl, _, rfl, _, _, _, _, 1000000, 1000000, rfl, hc1.mono s14, nq.mono s14, bc, bR q (List.mem_of_getElem? hq), by decide, trivial, fun v' H6 s6 n6 => ?_⟩
      exact kq v' H6 s6 ⟨q, hq, n6.rem (s6 _ _ hacc)⟩
    · intro D hD H5 ys s5 h5 hl5 hr5
      have s15 := s5.trans rem_same
      refine ⟨D, ys, rfl, .inl ⟨SqL.of h5, fun t0 ht0 => ?_⟩⟩
      have s6 := same_new (o := .tup ys) ht0
      have n6 : RowT K (upd H5 t0 (.tup ys)) (.ref t0) (scl c (R.getD i [])) := ⟨t0, ys, rfl, SqT.of upd_same, pr_of (by unfold scl; rw [List.length_map, hl5, e2]) fun l y z h1 h2 => by
        obtain ⟨q, e1, e2⟩ := hr5 l y h1
        unfold scl at h2
        rw [List.getElem?_map, e1] at h2
        cases h2
        exact (e2.mono rem_same).mono s6⟩
      generalize upd H5 t0 (.tup ys) = H6 at s6 n6 ⊢
      have s16 := s15.trans s6
      refine ⟨_, rfl, p, _, dx, _, _, rfl, s16 _ _ hp, T.cl, T.nR, tf_rows _ _ _, _, rfl, _, rfl, ?_⟩
      refine slT (ys := u1.take i) (sqT_mono s16 hp1) (cut_to u1 (by omega)) fun p7 H7 s7 hp7 => ?_
      refine ⟨_, rfl, by show 1 ≤ sizeLine; decide, fun t ht2 => ?_⟩
      have s8 : Same H7 (upd H7 t (.tup [.ref t0])) := same_new ht2
      have hz1 : (u1.take i).length + [V.ref t0].length ≤ 1000 := by rw [List.length_take]; simp; omega
      refine catT (sqT_mono s8 hp7) (SqT.of upd_same) hz1 fun p9 H9 s9 hp9 => ?_
      have s69 := s7.trans (s8.trans s9)
      refine ⟨_, rfl, p, _, dx, _, _, rfl, s69 _ _ (s16 _ _ hp), T.cl, T.nR, tf_rows _ _ _, _, rfl, _, _, rfl, rfl, _, rfl, ?_⟩
      have ecut : cutV u1 (some ((i : Int) + 1)) none = u1.drop (i + 1) := by
        have e : ((i : Int) + 1) = ((i + 1 : Nat) : Int) := by omega
        rw [e]
        exact cut_from u1 (by omega)
      refine slT (ys := u1.drop (i + 1)) (sqT_mono (s16.trans s69) hp1) ecut fun pa Ha sa hpa => ?_
      have hz2 : (u1.take i ++ [V.ref t0]).length + (u1.drop (i + 1)).length ≤ 1000 := by simp; omega
      refine catT (sqT_mono sa hp9) hpa hz2 fun pb Hb sb hpb => ?_
      have s6b := s69.trans (sa.trans sb)
      refine tab_make (n := n) (R := scR i c R) (SeqT.s ⟨pb, _, rfl, .inr hpb, ?_⟩) (fun z hz => ?_) (by simp [scR]; omega) (by simp [scR]; omega) hn0 hn12 (fun v' H7 s7 t7 => k v' H7 (s16.trans (s6b.trans s7)) t7)
      · have hub := rowTs_mono (s16.trans s6b) hu1
        unfold scR
        rw [List.set_eq_take_append_cons_drop, if_pos hi, show ∀ (a : List (List Rat)) b c, a ++ b :: c = a ++ [b] ++ c from fun a b c => by simp]
        exact pr_app (pr_app (pr_take i hub) (.cons (n6.mono s6b) .nil)) (pr_drop (i + 1) hub)
      · unfold scR at hz
        rcases List.mem_or_eq_of_mem_set hz with h | h
        · exact hw z h
        · rw [h]
          unfold scl
          rw [List.length_map, lr]
end MU
namespace MU
open PySem PySem.Spec PyProof.Rows L2 He MM
def spPairL (K : PySem.W.Frag) : Sp := fun vs H Q _ => ∃ (t u : Int) (b : Nat), vs = [.int t, .int u] ∧ u ≠ 0 ∧ u.natAbs < 2 ^ b ∧ b ≤ 1000000000 ∧ ∀ v' H', Same H H' → Num K H' v' (Rat.divInt t u) → Q v' H'
theorem emod_cast (a b : Nat) : (a : Int) % (b : Int) = ((a % b : Nat) : Int) := by simp
theorem sc_law_pair : FnScope ["_law_top", "_law_under", "_law_one", "_law_other", "_law_turn", "_law_rest"] ["_law_top", "_law_under"] (defScope (top 58)) := ⟨rfl, rfl, rfl, by decide +kernel, rfl, by decide +kernel, by decide +kernel⟩
theorem ok_law_pair {P : Program} {w : World} {K : PySem.W.Frag} {mg : Str → Option Value} {base : Heap} (T : Txt P K mg base) : Fd P w K mg base 41 "_law_pair" ["_law_top", "_law_under"] (spPairL K) := by
  have sc := sc_law_pair
  refine mkFd T "_law_pair" 58 (by decide) sc (fun vs H Q E h => ?_) (fun _ _ _ _ _ _ us hl => match us, hl with | [_, _], _ => rfl) (fun cdv A outer s H vs Q E hr h => ?_)
  · obtain ⟨t, u, b, rfl, hu, hb1, hb2, k⟩ := h
    rfl
  · obtain ⟨t, u, b, rfl, hu, hb1, hb2, k⟩ := h
    have S := seer_of (w := w) (outer := outer) (H := H) (N := ["_law_top", "_law_under", "_law_one", "_law_other", "_law_turn", "_law_rest"]) (E := E) T (hr.mono (by decide)) rfl rfl
    refine ⟨_, (pss_cons (ps_if (pt_cmpR (op_lt) (pv 1) pe_int (nomark _)) (pss_cons (ps_set (i := 0) sc.nd rfl (Or.inl rfl) (pe_un un_neg (pv 0)))
      (pss_one (ps_set (i := 1) sc.nd rfl (Or.inl rfl) (pe_un un_neg (pv 1))))) pss_nil)
      (pss_cons (ps_set (i := 2) sc.nd rfl (Or.inl rfl) (pe_callB call_abs rfl T.abs boot_abs (pa_cons (pv 0) pa_nil)))
      (pss_cons (ps_set (i := 3) sc.nd rfl (Or.inl rfl) (pv 1))
      (pss_cons (ps_for PassesOwn.never rfl (pi_range1 rfl T.range (pa_cons (pe_op (op_add) (pe_op (op_mulL) pe_int (pe_bits (pv 1))) pe_int) pa_nil)) (pg_name (i := 4) sc.nd rfl (Or.inl rfl)) (pss_one (ps_if (pt_cmpR (op_gt) (pv 3) pe_int (nomark _)) (pss_cons (ps_set (i := 5) sc.nd rfl (Or.inl rfl) (pe_op (op_mod) (pe_callTy call_int1 rfl T.int boot_int (pa_cons (pv 2) pa_nil)) (pv 3)))
      (pss_cons (ps_set (i := 2) sc.nd rfl (Or.inl rfl) (pv 3))
      (pss_one (ps_set (i := 3) sc.nd rfl (Or.inl rfl) (pv 5))))) pss_nil)))
      (pss_one (ps_ret (pe_tup (pa_cons (pe_op (op_fdivP S) (pv 0) (pv 2)) (pa_cons (pe_op (op_fdivP S) (pv 1) (pv 2)) pa_nil))))))))), ?_⟩
    generalize hR : Rat.divInt t u = R at k
    refine ⟨_, rfl, _, _, rfl, rfl, _, rfl, ?_⟩
    refine ite2 (fun hlt => ?_) (fun hlt => ?_)
    · have f1 : 0 < -u := by
        have := of_decide_eq_true hlt
        omega
      have f2 : (-u).natAbs < 2 ^ b := by rwa [Int.natAbs_neg]
      have f3 : Rat.divInt (-t) (-u) = R := by rw [divInt_negs, hR]
      refine ⟨_, rfl, _, rfl, _, rfl, _, rfl, ?_⟩
      refine ⟨_, rfl, _, rfl, _, rfl, ?_⟩
      obtain ⟨n0, hn0⟩ : ∃ n : Nat, -u = (n : Int) := ⟨(-u).toNat, by omega⟩
      have hbits : Builtin.Int.intBits (-u) ≤ b := intBits_le_iff.mpr f2
      have hn2 : n0 < 2 ^ Builtin.Int.intBits (-u) := by
        have := intBits_le_iff.mp (Nat.le_refl (Builtin.Int.intBits (-u)))
        rw [hn0] at this ⊢
        simpa using this
      refine ⟨_, rfl, _, rfl, _, _, rfl, rfl, ⟨2, 30, by decide, by
        rw [Int.natAbs_natCast]
        exact Nat.lt_of_le_of_lt (Nat.le_trans hbits hb2) (by decide), by decide⟩, _, _, rfl, rfl, _, rfl, by omega, by omega, ?_⟩
      refine for_range (lo := 0) (n := (2 * (Builtin.Int.intBits (-u) : Int) + 12).toNat) (fun i σ H' => H' = H ∧ ∃ w4 w5, σ = [some (.int (-t)), some (.int (-u)), some (.int ((eu i ((-t).natAbs, n0)).1 : Nat)), some (.int ((eu i ((-t).natAbs, n0)).2 : Nat)), w4, w5])
        ⟨rfl, _, _, by
          have e1 : (if -t < 0 then -(-t) else -t) = (((-t).natAbs : Nat) : Int) := by
            split <;> omega
          show _ = [_, _, some (V.int ((((-t).natAbs : Nat) : Int))), some (V.int ((n0 : Nat) : Int)), _, _]
          rw [← hn0, ← e1]
          rfl⟩ ?_ ?_
      · rintro i σ H' hi ⟨rfl, w4, w5, rfl⟩
        have es : eu (i + 1) ((-t).natAbs, n0) = euS (eu i ((-t).natAbs, n0)) := rfl
        rw [es]
        generalize eu i ((-t).natAbs, n0) = p
        obtain ⟨a, c⟩ := p
        refine ⟨_, rfl, _, _, rfl, rfl, _, rfl, ?_⟩
        by_cases hc : 0 < c
        · refine iteD (show (0 : Int) < (c : Int) by omega) ?_
          have e2 : euS (a, c) = (c, a % c) := by
            unfold euS
            rw [if_pos (show 0 < (a, c).2 from hc)]
          rw [e2]
          refine ⟨_, rfl, .inl ⟨_, rfl, _, rfl, _, _, rfl, rfl, show (0 : Int) < (c : Int) by omega, _, rfl, _, rfl, rfl, some (.int (0 + (i : Int))), some (.int ((a : Int) % (c : Int))), ?_⟩⟩
          rw [← emod_cast]
          rfl
        · refine iteDN (show ¬ (0 : Int) < (c : Int) by omega) ?_
          have e2 : euS (a, c) = (a, c) := by
            unfold euS
            rw [if_neg (show ¬ 0 < (a, c).2 from hc)]
          rw [e2]
          exact ⟨rfl, _, _, rfl⟩
      · rintro σ H' ⟨rfl, w4, w5, rfl⟩
        have ed : eu (2 * (Builtin.Int.intBits (-u) : Int) + 12).toNat ((-t).natAbs, n0) = (Nat.gcd (-t).natAbs n0, 0) := eu_done hn2 (by omega)
        rw [ed]
        have hg : ((Nat.gcd (-t).natAbs n0 : Nat) : Int) = if -u < 0 then -((Nat.gcd (-t).natAbs (-u).natAbs : Nat) : Int) else ((Nat.gcd (-t).natAbs (-u).natAbs : Nat) : Int) := by
          rw [if_neg (by omega), hn0, Int.natAbs_natCast]
        obtain ⟨g0, e1, e2⟩ := low_num (t := -t) (u := -u) (by omega) hg
        refine ⟨_, rfl, _, rfl, _, _, rfl, rfl, g0, _, rfl, _, rfl, _, _, rfl, rfl, g0, by show 2 ≤ sizeLine; decide, fun p hp => ?_⟩
        exact k _ _ (same_new hp) ⟨p, rfl, by rw [← f3, ← e1, ← e2]; exact SqT.of upd_same⟩
    · have f1 : 0 < u := by
        have : ¬ u < 0 := fun z => hlt (decide_eq_true z)
        omega
      have f2 : u.natAbs < 2 ^ b := hb1
      have f3 : Rat.divInt t u = R := hR
      refine ⟨_, rfl, _, rfl, _, rfl, ?_⟩
      obtain ⟨n0, hn0⟩ : ∃ n : Nat, u = (n : Int) := ⟨(u).toNat, by omega⟩
      have hbits : Builtin.Int.intBits (u) ≤ b := intBits_le_iff.mpr f2
      have hn2 : n0 < 2 ^ Builtin.Int.intBits (u) := by
        have := intBits_le_iff.mp (Nat.le_refl (Builtin.Int.intBits (u)))
        rw [hn0] at this ⊢
        simpa using this
      refine ⟨_, rfl, _, rfl, _, _, rfl, rfl, ⟨2, 30, by decide, by
        rw [Int.natAbs_natCast]
        exact Nat.lt_of_le_of_lt (Nat.le_trans hbits hb2) (by decide), by decide⟩, _, _, rfl, rfl, _, rfl, by omega, by omega, ?_⟩
      refine for_range (lo := 0) (n := (2 * (Builtin.Int.intBits (u) : Int) + 12).toNat) (fun i σ H' => H' = H ∧ ∃ w4 w5, σ = [some (.int (t)), some (.int (u)), some (.int ((eu i ((t).natAbs, n0)).1 : Nat)), some (.int ((eu i ((t).natAbs, n0)).2 : Nat)), w4, w5])
        ⟨rfl, _, _, by
          have e1 : (if t < 0 then -(t) else t) = (((t).natAbs : Nat) : Int) := by
            split <;> omega
          show _ = [_, _, some (V.int ((((t).natAbs : Nat) : Int))), some (V.int ((n0 : Nat) : Int)), _, _]
          rw [← hn0, ← e1]
          rfl⟩ ?_ ?_
      · rintro i σ H' hi ⟨rfl, w4, w5, rfl⟩
        have es : eu (i + 1) ((t).natAbs, n0) = euS (eu i ((t).natAbs, n0)) := rfl
        rw [es]
        generalize eu i ((t).natAbs, n0) = p
        obtain ⟨a, c⟩ := p
        refine ⟨_, rfl, _, _, rfl, rfl, _, rfl, ?_⟩
        by_cases hc : 0 < c
        · refine iteD (show (0 : Int) < (c : Int) by omega) ?_
          have e2 : euS (a, c) = (c, a % c) := by
            unfold euS
            rw [if_pos (show 0 < (a, c).2 from hc)]
          rw [e2]
          refine ⟨_, rfl, .inl ⟨_, rfl, _, rfl, _, _, rfl, rfl, show (0 : Int) < (c : Int) by omega, _, rfl, _, rfl, rfl, some (.int (0 + (i : Int))), some (.int ((a : Int) % (c : Int))), ?_⟩⟩
          rw [← emod_cast]
          rfl
        · refine iteDN (show ¬ (0 : Int) < (c : Int) by omega) ?_
          have e2 : euS (a, c) = (a, c) := by
            unfold euS
            rw [if_neg (show ¬ 0 < (a, c).2 from hc)]
          rw [e2]
          exact ⟨rfl, _, _, rfl⟩
      · rintro σ H' ⟨rfl, w4, w5, rfl⟩
        have ed : eu (2 * (Builtin.Int.intBits (u) : Int) + 12).toNat ((t).natAbs, n0) = (Nat.gcd (t).natAbs n0, 0) := eu_done hn2 (by omega)
        rw [ed]
        have hg : ((Nat.gcd (t).natAbs n0 : Nat) : Int) = if u < 0 then -((Nat.gcd (t).natAbs (u).natAbs : Nat) : Int) else ((Nat.gcd (t).natAbs (u).natAbs : Nat) : Int) := by
          rw [if_neg (by omega), hn0, Int.natAbs_natCast]
        obtain ⟨g0, e1, e2⟩ := low_num (t := t) (u := u) (by omega) hg
        refine ⟨_, rfl, _, rfl, _, _, rfl, rfl, g0, _, rfl, _, rfl, _, _, rfl, rfl, g0, by show 2 ≤ sizeLine; decide, fun p hp => ?_⟩
        exact k _ _ (same_new hp) ⟨p, rfl, by rw [← f3, ← e1, ← e2]; exact SqT.of upd_same⟩
theorem low2 {a b : Nat} {p q : Rat} (ha : hb a p) (hb' : hb b q) : ((p.den : Int) * (q.den : Int)).natAbs < 2 ^ (a + b) := by
  rw [Int.natAbs_mul, Int.natAbs_natCast, Int.natAbs_natCast]
  exact mul_pow ha.2 hb'.2
theorem sc_law_plus : FnScope ["_law_one", "_law_other"] ["_law_one", "_law_other"] (defScope (top 59)) := ⟨rfl, rfl, rfl, by decide +kernel, rfl, by decide +kernel, by decide +kernel⟩
theorem ok_law_plus {P : Program} {w : World} {K : PySem.W.Frag} {mg : Str → Option Value} {base : Heap} (T : Txt P K mg base) : Fd P w K mg base 42 "_law_plus" ["_law_one", "_law_other"] (spOp K (fun p q => p + q) (fun _ _ => True)) := by
  have sc := sc_law_plus
  refine mkFd T "_law_plus" 59 (by decide) sc (fun vs H Q E h => ?_) (fun _ _ _ _ _ _ us hl => match us, hl with | [_, _], _ => rfl) (fun cdv A outer s H vs Q E hr h => ?_)
  · obtain ⟨_, _, p, q, a, b, rfl, ⟨x, rfl, hx⟩, ⟨y, rfl, hy⟩, ha, hb', hab, _, k⟩ := h
    rfl
  · obtain ⟨_, _, p, q, a, b, rfl, ⟨x, rfl, hx⟩, ⟨y, rfl, hy⟩, ha, hb', hab, _, k⟩ := h
    refine ⟨_, (pss_one (ps_ret (pe_cf (ok_law_pair T) (hr.mono (by decide)) rfl (pa_cons (pe_op (op_add) (pe_op (op_mulL) (pe_ix (r := rIx K) ix_seq (pv 0) pe_int (fun _ _ => rfl)) (pe_ix (r := rIx K) ix_seq (pv 1) pe_int (fun _ _ => rfl))) (pe_op (op_mulL) (pe_ix (r := rIx K) ix_seq (pv 1) pe_int (fun _ _ => rfl)) (pe_ix (r := rIx K) ix_seq (pv 0) pe_int (fun _ _ => rfl)))) (pa_cons (pe_op (op_mulL) (pe_ix (r := rIx K) ix_seq (pv 0) pe_int (fun _ _ => rfl)) (pe_ix (r := rIx K) ix_seq (pv 1) pe_int (fun _ _ => rfl))) pa_nil))))), ?_⟩
    refine ⟨_, rfl, ix0 hx ⟨_, rfl, ix1 hy ⟨_, _, rfl, rfl, cm ha.1 (den_lt hb') hab, _, rfl, ix0 hy ⟨_, rfl, ix1 hx ⟨_, _, rfl, rfl, cm hb'.1 (den_lt ha) (by omega), _, _, rfl, rfl, _, rfl, ix1 hx ⟨_, rfl, ix1 hy ⟨_, _, rfl, rfl, cm (den_lt ha) (den_lt hb') hab, ?_⟩⟩⟩⟩⟩⟩⟩
    refine ⟨_, _, a + b, rfl, Int.mul_ne_zero (den_ne p) (den_ne q), low2 ha hb', by omega, fun v' H' s n => k v' H' s ?_⟩
    rw [add_div] at n
    exact n
theorem sc_law_less : FnScope ["_law_one", "_law_other"] ["_law_one", "_law_other"] (defScope (top 60)) := ⟨rfl, rfl, rfl, by decide +kernel, rfl, by decide +kernel, by decide +kernel⟩
theorem ok_law_less {P : Program} {w : World} {K : PySem.W.Frag} {mg : Str → Option Value} {base : Heap} (T : Txt P K mg base) : Fd P w K mg base 42 "_law_less" ["_law_one", "_law_other"] (spOp K (fun p q => p - q) (fun _ _ => True)) := by
  have sc := sc_law_less
  refine mkFd T "_law_less" 60 (by decide) sc (fun vs H Q E h => ?_) (fun _ _ _ _ _ _ us hl => match us, hl with | [_, _], _ => rfl) (fun cdv A outer s H vs Q E hr h => ?_)
  · obtain ⟨_, _, p, q, a, b, rfl, ⟨x, rfl, hx⟩, ⟨y, rfl, hy⟩, ha, hb', hab, _, k⟩ := h
    rfl
  · obtain ⟨_, _, p, q, a, b, rfl, ⟨x, rfl, hx⟩, ⟨y, rfl, hy⟩, ha, hb', hab, _, k⟩ := h
    refine ⟨_, (pss_one (ps_ret (pe_cf (ok_law_pair T) (hr.mono (by decide)) rfl (pa_cons (pe_op (op_sub) (pe_op (op_mulL) (pe_ix (r := rIx K) ix_seq (pv 0) pe_int (fun _ _ => rfl)) (pe_ix (r := rIx K) ix_seq (pv 1) pe_int (fun _ _ => rfl))) (pe_op (op_mulL) (pe_ix (r := rIx K) ix_seq (pv 1) pe_int (fun _ _ => rfl)) (pe_ix (r := rIx K) ix_seq (pv 0) pe_int (fun _ _ => rfl)))) (pa_cons (pe_op (op_mulL) (pe_ix (r := rIx K) ix_seq (pv 0) pe_int (fun _ _ => rfl)) (pe_ix (r := rIx K) ix_seq (pv 1) pe_int (fun _ _ => rfl))) pa_nil))))), ?_⟩
    refine ⟨_, rfl, ix0 hx ⟨_, rfl, ix1 hy ⟨_, _, rfl, rfl, cm ha.1 (den_lt hb') hab, _, rfl, ix0 hy ⟨_, rfl, ix1 hx ⟨_, _, rfl, rfl, cm hb'.1 (den_lt ha) (by omega), _, _, rfl, rfl, _, rfl, ix1 hx ⟨_, rfl, ix1 hy ⟨_, _, rfl, rfl, cm (den_lt ha) (den_lt hb') hab, ?_⟩⟩⟩⟩⟩⟩⟩
    refine ⟨_, _, a + b, rfl, Int.mul_ne_zero (den_ne p) (den_ne q), low2 ha hb', by omega, fun v' H' s n => k v' H' s ?_⟩
    rw [sub_div] at n
    exact n
theorem sc_law_times : FnScope ["_law_one", "_law_other"] ["_law_one", "_law_other"] (defScope (top 61)) := ⟨rfl, rfl, rfl, by decide +kernel, rfl, by decide +kernel, by decide +kernel⟩
theorem ok_law_times {P : Program} {w : World} {K : PySem.W.Frag} {mg : Str → Option Value} {base : Heap} (T : Txt P K mg base) : Fd P w K mg base 42 "_law_times" ["_law_one", "_law_other"] (spOp K (fun p q => p * q) (fun _ _ => True)) := by
  have sc := sc_law_times
  refine mkFd T "_law_times" 61 (by decide) sc (fun vs H Q E h => ?_) (fun _ _ _ _ _ _ us hl => match us, hl with | [_, _], _ => rfl) (fun cdv A outer s H vs Q E hr h => ?_)
  · obtain ⟨_, _, p, q, a, b, rfl, ⟨x, rfl, hx⟩, ⟨y, rfl, hy⟩, ha, hb', hab, _, k⟩ := h
    rfl
  · obtain ⟨_, _, p, q, a, b, rfl, ⟨x, rfl, hx⟩, ⟨y, rfl, hy⟩, ha, hb', hab, _, k⟩ := h
    refine ⟨_, (pss_one (ps_ret (pe_cf (ok_law_pair T) (hr.mono (by decide)) rfl (pa_cons (pe_op (op_mulL) (pe_ix (r := rIx K) ix_seq (pv 0) pe_int (fun _ _ => rfl)) (pe_ix (r := rIx K) ix_seq (pv 1) pe_int (fun _ _ => rfl))) (pa_cons (pe_op (op_mulL) (pe_ix (r := rIx K) ix_seq (pv 0) pe_int (fun _ _ => rfl)) (pe_ix (r := rIx K) ix_seq (pv 1) pe_int (fun _ _ => rfl))) pa_nil))))), ?_⟩
    refine ⟨_, rfl, ix0 hx ⟨_, rfl, ix0 hy ⟨_, _, rfl, rfl, cm ha.1 hb'.1 hab, _, rfl, ix1 hx ⟨_, rfl, ix1 hy ⟨_, _, rfl, rfl, cm (den_lt ha) (den_lt hb') hab, ?_⟩⟩⟩⟩⟩
    refine ⟨_, _, a + b, rfl, Int.mul_ne_zero (den_ne p) (den_ne q), low2 ha hb', by omega, fun v' H' s n => k v' H' s ?_⟩
    rw [mul_div] at n
    exact n
theorem low3 {a b : Nat} {p q : Rat} (ha : hb a p) (hb' : hb b q) : ((p.den : Int) * q.num).natAbs < 2 ^ (a + b) := by
  rw [Int.natAbs_mul, Int.natAbs_natCast]
  exact mul_pow ha.2 hb'.1
theorem sc_law_over : FnScope ["_law_one", "_law_other"] ["_law_one", "_law_other"] (defScope (top 62)) := ⟨rfl, rfl, rfl, by decide +kernel, rfl, by decide +kernel, by decide +kernel⟩
theorem ok_law_over {P : Program} {w : World} {K : PySem.W.Frag} {mg : Str → Option Value} {base : Heap} (T : Txt P K mg base) : Fd P w K mg base 42 "_law_over" ["_law_one", "_law_other"] (spOp K (fun p q => p / q) (fun _ _ => True)) := by
  have sc := sc_law_over
  refine mkFd T "_law_over" 62 (by decide) sc (fun vs H Q E h => ?_) (fun _ _ _ _ _ _ us hl => match us, hl with | [_, _], _ => rfl) (fun cdv A outer s H vs Q E hr h => ?_)
  · obtain ⟨_, _, p, q, a, b, rfl, ⟨x, rfl, hx⟩, ⟨y, rfl, hy⟩, ha, hb', hab, _, k⟩ := h
    rfl
  · obtain ⟨_, _, p, q, a, b, rfl, ⟨x, rfl, hx⟩, ⟨y, rfl, hy⟩, ha, hb', hab, _, k⟩ := h
    refine ⟨_, (pss_cons (ps_if (pt_cmpR (op_eq) (pe_ix (r := rIx K) ix_seq (pv 1) pe_int (fun _ _ => rfl)) pe_int (nomark _)) (pss_one (ps_ret (pe_tup (pa_cons pe_int (pa_cons pe_int pa_nil))))) pss_nil)
      (pss_one (ps_ret (pe_cf (ok_law_pair T) (hr.mono (by decide)) rfl (pa_cons (pe_op (op_mulL) (pe_ix (r := rIx K) ix_seq (pv 0) pe_int (fun _ _ => rfl)) (pe_ix (r := rIx K) ix_seq (pv 1) pe_int (fun _ _ => rfl))) (pa_cons (pe_op (op_mulL) (pe_ix (r := rIx K) ix_seq (pv 0) pe_int (fun _ _ => rfl)) (pe_ix (r := rIx K) ix_seq (pv 1) pe_int (fun _ _ => rfl))) pa_nil)))))), ?_⟩
    refine ⟨_, rfl, ix0 hy ⟨rfl, _, rfl, ?_⟩⟩
    by_cases h0 : q = 0
    · refine iteD (num_zero.mpr h0) ⟨by show 2 ≤ sizeLine; decide, fun t ht => ?_⟩
      refine k _ _ (same_new ht) ?_
      have e : (fun p q : Rat => p / q) p q = 0 := by
        show p / q = 0
        rw [h0]
        grind
      rw [e]
      exact num01 upd_same
    · refine iteDN (zero_b h0) ?_
      refine ⟨_, rfl, ix0 hx ⟨_, rfl, ix1 hy ⟨_, _, rfl, rfl, cm ha.1 (den_lt hb') hab, _, rfl, ix1 hx ⟨_, rfl, ix0 hy ⟨_, _, rfl, rfl, cm (den_lt ha) hb'.1 hab, ?_⟩⟩⟩⟩⟩
      refine ⟨_, _, a + b, rfl, Int.mul_ne_zero (den_ne p) (num_ne h0), low3 ha hb', by omega, fun v' H' s n => k v' H' s ?_⟩
      rw [div_div p q (num_ne h0)] at n
      exact n
def spIsNum (K : PySem.W.Frag) : Sp := fun vs H Q _ => ∃ (v : V) (q : Rat) (b : Nat), vs = [v] ∧ Num K H v q ∧ hb b q ∧ b ≤ 1000000000 ∧ ∀ H', Same H H' → Q (.bl true) H'
theorem isi_t {K : PySem.W.Frag} {σ : L2.St} {H : Hp} {i : Nat} {p : Addr} {us : List V} {G : Bool → Prop} (hs : SqT K H p us) (k : ∀ b, b = true → G b) : ∃ t u b, ClsV (.ty "tuple") u ∧ TyX K H (.ref p) t ∧ PySem.W.kitOne K t u = some b ∧ G b :=
  ⟨_, _, true, .ty "tuple", tyx_tup hs, kit_b _ _ _ (by decide +kernel), k true rfl⟩
theorem sc_law_is_number : FnScope ["_law_value", "_law_side"] ["_law_value"] (defScope (top 63)) := ⟨rfl, rfl, rfl, by decide +kernel, rfl, by decide +kernel, by decide +kernel⟩
theorem ok_law_is_number {P : Program} {w : World} {K : PySem.W.Frag} {mg : Str → Option Value} {base : Heap} (T : Txt P K mg base) : Fd P w K mg base 42 "_law_is_number" ["_law_value"] (spIsNum K) := by
  have sc := sc_law_is_number
  refine mkFd T "_law_is_number" 63 (by decide) sc (fun vs H Q E h => ?_) (fun _ _ _ _ _ _ us hl => match us, hl with | [_], _ => rfl) (fun cdv A outer s H vs Q E hr h => ?_)
  · obtain ⟨_, q, b, rfl, ⟨p, rfl, hq⟩, hbq, hb1, k⟩ := h
    rfl
  · obtain ⟨_, q, b, rfl, ⟨p, rfl, hq⟩, hbq, hb1, k⟩ := h
    refine ⟨_, (pss_cons (ps_if (PW.pt (pw_or (pt_not (pt_val (pe_callB call_isi rfl T.isi boot_isinstance (pa_cons (pv 0) (pa_cons (pe_bltn (v := .ty "tuple") rfl T.tuple boot_tuple rfl) pa_nil))))) (pw_or1 (pt_cmpR (op_ne) (pe_callB call_len rfl T.len boot_len (pa_cons (pv 0) pa_nil)) pe_int (nomark _))))) (pss_one (ps_ret pe_bl)) pss_nil)
      (pss_cons (ps_for PassesOwn.never rfl (pi_seqK K rfl (pv 0)) (pg_name (i := 1) sc.nd rfl (Or.inl rfl)) (pss_one (ps_if (PW.pt (pw_or (pt_not (pt_val (pe_callB call_isi rfl T.isi boot_isinstance (pa_cons (pv 1) (pa_cons (pe_bltn (v := .ty "int") rfl T.int boot_int rfl) pa_nil))))) (pw_or1 (pt_val (pe_callB call_isi rfl T.isi boot_isinstance (pa_cons (pv 1) (pa_cons (pe_bltn (v := .ty "bool") rfl T.bool boot_bool rfl) pa_nil))))))) (pss_one (ps_ret pe_bl)) pss_nil)))
      (pss_one (ps_ret (pe_and (pe_cmpR (op_ge) (pe_ix (r := rIx K) ix_seq (pv 0) pe_int (fun _ _ => rfl)) pe_int (nomark _)) (pe_one (pe_cmpR (op_eqD (units_of hr)) (pe_cf (ok_law_pair T) (hr.mono (by decide)) rfl (pa_cons (pe_ix (r := rIx K) ix_seq (pv 0) pe_int (fun _ _ => rfl)) (pa_cons (pe_ix (r := rIx K) ix_seq (pv 0) pe_int (fun _ _ => rfl)) pa_nil))) (pv 0) (nomark _)))))))), ?_⟩
    refine ⟨_, rfl, _, _, _, _, true, rfl, .ty "tuple", tyx_tup hq, kit_b _ _ _ (by decide +kernel), true, rfl, iteF ?_⟩
    refine ⟨_, rfl, _, 2, rfl, .inr ⟨_, hq, rfl⟩, rfl, _, rfl, iteNS rfl ?_⟩
    refine ⟨_, rfl, p, rfl, .inr ⟨⟨_, hq⟩, ?_⟩⟩
    refine for_tup (K := K) (a := p) (xs := [.int q.num, .int (q.den : Int)]) (fun i σ H' => H' = H ∧ ∃ w1, σ = [some (.ref p), w1]) ⟨rfl, _, rfl⟩ (fun i σ H' _ z => by rw [z.1]; exact hq) ?_ ?_
    · rintro i x σ H' hi ⟨rfl, w1, rfl⟩
      have hx : ∃ n : Int, x = .int n := by
        have := List.mem_of_getElem? hi
        rcases List.mem_cons.mp this with h | h
        · exact ⟨_, h⟩
        · exact ⟨_, by simpa using h⟩
      obtain ⟨n, rfl⟩ := hx
      refine ⟨_, rfl, _, _, _, _, true, rfl, .ty "int", .base (.int n), kit_b _ _ _ (by decide +kernel), true, rfl, iteF ?_⟩
      refine ⟨_, rfl, _, _, _, _, false, rfl, .ty "bool", .base (.int n), kit_b _ _ _ (by decide +kernel), false, rfl, iteF ⟨rfl, _, rfl⟩⟩
    · rintro σ H' ⟨rfl, w1, rfl⟩
      refine ⟨_, rfl, ix1 hq ⟨_, _, rfl, rfl, _, rfl, iteD (num_den1 q) ?_⟩⟩
      refine ⟨_, rfl, ix0 hq ⟨_, rfl, ix1 hq ?_⟩⟩
      refine ⟨_, _, b, rfl, den_ne q, den_lt hbq, hb1, fun v' H2 s n => ?_⟩
      refine ⟨_, rfl, ?_⟩
      rw [show Rat.divInt q.num (q.den : Int) = q from Rat.num_divInt_den q] at n
      exact eq_num n ⟨p, rfl, sqT_mono s hq⟩ (k H2 s)
end MU
namespace MU
open PySem PySem.Spec PyProof.Rows L2 He MM
def dfS : Stmt := .Pass ⟨0, 0, 0, 0⟩
def stE : Stmt → Expr
  | .Return (some e) _ => e
  | .Assign _ e _ => e
  | _ => .Constant .none 0 ⟨0, 0, 0, 0⟩
def lcSc : Expr → Scope
  | .ListComp _ _ sc _ => sc
  | _ => default
def NewM (K : PySem.W.Frag) (H H' : Hp) (v : V) (R : List (List Rat)) : Prop := ∃ L ads, v = .ref L ∧ Mat K H' L ads R ∧ H L = none ∧ ∀ a ∈ ads, H a = none
section
variable {K : PySem.W.Frag} {H H0 H' H'' : Hp} {v : V} {R : List (List Rat)}
theorem NewM.tab (h : NewM K H H' v R) : TabS K H' v R := let ⟨_, _, e, m, _⟩ := h; e ▸ m.tab
theorem NewM.back (s : Same H0 H) (h : NewM K H H' v R) : NewM K H0 H' v R := let ⟨L, ads, e, m, a, b⟩ := h; ⟨L, ads, e, m, s.free a, fun x hx => s.free (b x hx)⟩
theorem NewM.fwd (s : Same H' H'') (h : NewM K H H' v R) : NewM K H H'' v R := let ⟨L, ads, e, m, a, b⟩ := h; ⟨L, ads, e, m.mono s, a, b⟩
theorem NewM.tabRem {D : Addr} {o o' : HO} (hD : H D = some o) (hD' : H' D = some o') (h : NewM K H H' v R) (hn : Nt o' := by trivial) : TabS K (rem D H') v R := by
  obtain ⟨L, ads, rfl, m, a, b⟩ := h
  refine (m.rem hD' (fun z => ?_) (fun z => ?_) hn).tab
  · rw [z, hD] at a
    cases a
  · have := b D z
    rw [hD] at this
    cases this
end
theorem rowS_of {K : PySem.W.Frag} {H : Hp} {us : List V} {R : List (List Rat)} {i : Nat} (h : Paired (RowS K H) us R) (hi : i < R.length) : ∃ v, us[i]? = some v ∧ RowS K H v (R.getD i []) := by
  obtain ⟨v, hv, rv⟩ := pr_get h (List.getElem?_eq_getElem hi)
  refine ⟨v, hv, ?_⟩
  rw [List.getD_eq_getElem?_getD, List.getElem?_eq_getElem hi]
  exact rv
def spFixed (K : PySem.W.Frag) : Sp := fun vs H Q _ => ∃ (v : V) (R : List (List Rat)), vs = [v] ∧ TabS K H v R ∧ R.length ≤ 1000 ∧ ∀ v' H', Same H H' → TabT K H' v' R → Q v' H'
theorem sc_law_fixed : FnScope ["_law_rows", "_law_row"] ["_law_rows"] (defScope (top 65)) := ⟨rfl, rfl, rfl, by decide +kernel, rfl, by decide +kernel, by decide +kernel⟩
theorem ok_law_fixed {P : Program} {w : World} {K : PySem.W.Frag} {mg : Str → Option Value} {base : Heap} (T : Txt P K mg base) : Fd P w K mg base 5 "_law_fixed" ["_law_rows"] (spFixed K) := by
  have sc := sc_law_fixed
  refine mkFd T "_law_fixed" 65 (by decide) sc (fun vs H Q E h => ?_) (fun _ _ _ _ _ _ us hl => match us, hl with | [_], _ => rfl) (fun cdv A outer s H vs Q E hr h => ?_)
  · obtain ⟨_, R, rfl, ⟨p, us, rfl, hs, hn⟩, hR, k⟩ := h
    rfl
  · obtain ⟨_, R, rfl, ⟨p, us, rfl, hs, hn⟩, hR, k⟩ := h
    refine ⟨_, (pss_one (ps_ret (pe_callTy (r := (rTupOf K)) call_tuple_of rfl T.tuple boot_tuple (pa_cons (pe_lc (own := [("_law_row", 1)]) (g := gName 1) rfl sc.nd (pi_seqK K rfl (pv 0)) (blkOk_by (own := [("_law_row", 1)]) (N := ["_law_rows", "_law_row"]) (sc := defScope (top 65)) (by decide +kernel)) (fun _ _ _ _ _ => pg_name (i := 1) sc.nd rfl (Or.inl rfl)) (fun _ _ _ _ _ => pts_nil) (fun _ _ _ _ _ => (pe_callTy (r := (rTupOf K)) call_tuple_of rfl T.tuple boot_tuple (pa_cons (pv 1) pa_nil)))) pa_nil)))), ?_⟩
    have e := pr_len hn
    refine ⟨_, rfl, p, rfl, lc_mapS hs (by omega) (fun i v H => ∃ r, R[i]? = some r ∧ RowT K H v r) (fun i v H H' s ⟨r, a, b⟩ => ⟨r, a, b.mono s⟩) ?_ ?_⟩
    · intro D hD i x H4 hi s4 ⟨acc, hacc⟩ Qe kq
      obtain ⟨r, hr', rs⟩ := pr_getl hn hi
      obtain ⟨p2, u2, rfl, h2, n2⟩ := rs.mono (s4.trans rem_same)
      refine ⟨rfl, _, rfl, p2, u2, rfl, ?_⟩
      rcases h2 with h2 | h2
      · refine .inl ⟨h2, fun l hl => ?_⟩
        have s5 := same_new (o := .tup u2) hl
        exact kq _ _ s5 ⟨r, hr', RowT.rem (s5 _ _ hacc) ⟨l, u2, rfl, SqT.of upd_same, nums_mono s5 n2⟩⟩
      · exact .inr ⟨h2, kq _ _ (Same.refl _) ⟨r, hr', RowT.rem hacc ⟨p2, u2, rfl, h2, n2⟩⟩⟩
    · intro D hD H5 ys s5 h5 hl5 hr5
      refine ⟨D, ys, rfl, .inl ⟨SqL.of h5, fun l hl => ?_⟩⟩
      have s6 : Same (rem D H5) (upd H5 l (.tup ys)) := rem_same.trans (same_new hl)
      refine k _ _ (s5.trans s6) ⟨l, ys, rfl, SqT.of upd_same, pr_of (by omega) fun i a b h1 h2 => ?_⟩
      obtain ⟨r, e1, e2⟩ := hr5 i a h1
      rw [h2] at e1
      cases e1
      exact e2.mono s6
def spCopy (K : PySem.W.Frag) : Sp := fun vs H Q _ => ∃ (v : V) (R : List (List Rat)), vs = [v] ∧ TabS K H v R ∧ R.length ≤ 1000 ∧ ∀ v' H', Same H H' → NewM K H H' v' R → Q v' H'
theorem sc_law_copy : FnScope ["_law_rows", "_law_row"] ["_law_rows"] (defScope (top 66)) := ⟨rfl, rfl, rfl, by decide +kernel, rfl, by decide +kernel, by decide +kernel⟩
theorem ok_law_copy {P : Program} {w : World} {K : PySem.W.Frag} {mg : Str → Option Value} {base : Heap} (T : Txt P K mg base) : Fd P w K mg base 5 "_law_copy" ["_law_rows"] (spCopy K) := by
  have sc := sc_law_copy
  refine mkFd T "_law_copy" 66 (by decide) sc (fun vs H Q E h => ?_) (fun _ _ _ _ _ _ us hl => match us, hl with | [_], _ => rfl) (fun cdv A outer s H vs Q E hr h => ?_)
  · obtain ⟨_, R, rfl, ⟨p, us, rfl, hs, hn⟩, hR, k⟩ := h
    rfl
  · obtain ⟨_, R, rfl, ⟨p, us, rfl, hs, hn⟩, hR, k⟩ := h
    refine ⟨_, (pss_one (ps_ret (pe_lc (own := [("_law_row", 1)]) (g := gName 1) rfl sc.nd (pi_seqK K rfl (pv 0)) (blkOk_by (own := [("_law_row", 1)]) (N := ["_law_rows", "_law_row"]) (sc := defScope (top 66)) (by decide +kernel)) (fun _ _ _ _ _ => pg_name (i := 1) sc.nd rfl (Or.inl rfl)) (fun _ _ _ _ _ => pts_nil) (fun _ _ _ _ _ => (pe_callTy (r := (rListOf K)) call_list_of rfl T.list boot_list (pa_cons (pv 1) pa_nil)))))), ?_⟩
    have e := pr_len hn
    refine ⟨_, rfl, p, rfl, lm_S (K := K) (G := fun i => R.getD i []) hs (by omega) ?_ ?_⟩
    · intro D hD i x H4 hi s4 Qe kq
      obtain ⟨v1, hv1, r1⟩ := rowS_of hn (show i < R.length by have := (List.getElem?_eq_some_iff.mp hi).1; omega)
      have ex : x = v1 := by
        rw [hi] at hv1
        exact Option.some.inj hv1
      subst ex
      obtain ⟨p2, u2, rfl, h2, n2⟩ := r1.mono (s4.trans rem_same)
      refine ⟨rfl, _, rfl, p2, u2, rfl, ?_⟩
      have fin : ∀ l, H4 l = none → Qe (.ref l) (upd H4 l (.lst u2)) := fun l hl => kq l _ (same_new hl) hl ⟨u2, upd_same, nums_mono (same_new hl) n2⟩
      exact ⟨h2, fin⟩
    · intro D hD H1 ads s1 hM hfr
      rw [e, map_range] at hM
      exact k _ _ (s1.trans rem_same) ⟨D, ads, rfl, hM, hD, hfr⟩
def spTurnedL (K : PySem.W.Frag) : Sp := fun vs H Q _ => ∃ (v : V) (n : Nat) (R : List (List Rat)), vs = [v] ∧ TabS K H v R ∧ Wide n R ∧ 0 < R.length ∧ R.length ≤ 1000 ∧ n ≤ 1000 ∧ ∀ v' H', Same H H' → NewM K H H' v' (tr n R) → Q v' H'
theorem sc_law_turned : FnScope ["_law_rows", "_law_row", "_law_column"] ["_law_rows"] (defScope (top 67)) := ⟨rfl, rfl, rfl, by decide +kernel, rfl, by decide +kernel, by decide +kernel⟩
theorem ok_law_turned {P : Program} {w : World} {K : PySem.W.Frag} {mg : Str → Option Value} {base : Heap} (T : Txt P K mg base) : Fd P w K mg base 5 "_law_turned" ["_law_rows"] (spTurnedL K) := by
  have sc := sc_law_turned
  refine mkFd T "_law_turned" 67 (by decide) sc (fun vs H Q E h => ?_) (fun _ _ _ _ _ _ us hl => match us, hl with | [_], _ => rfl) (fun cdv A outer s H vs Q E hr h => ?_)
  · obtain ⟨_, n, R, rfl, ⟨p, us, rfl, hs, hn⟩, hw, h0, hR, hn1, k⟩ := h
    rfl
  · obtain ⟨_, n, R, rfl, ⟨p, us, rfl, hs, hn⟩, hw, h0, hR, hn1, k⟩ := h
    refine ⟨_, (pss_one (ps_ret (pe_lc (own := [("_law_column", 2)]) (g := gName 2) rfl sc.nd (pi_range1 rfl T.range (pa_cons (pe_callB call_len rfl T.len boot_len (pa_cons (pe_ix (r := rIx K) ix_seq (pv 0) pe_int (fun _ _ => rfl)) pa_nil)) pa_nil)) (blkOk_by (own := [("_law_column", 2)]) (N := ["_law_rows", "_law_row", "_law_column"]) (sc := defScope (top 67)) (by decide +kernel)) (fun _ _ _ _ _ => pg_name (i := 2) sc.nd rfl (Or.inr rfl)) (fun _ _ _ _ _ => pts_nil) (fun _ _ _ _ _ => (pe_lc (own := [("_law_row", 1)]) (g := gName 1) rfl sc.nd (pi_seqK K rfl (pv 0)) (blkOk_by (own := [("_law_row", 1)]) (N := ["_law_rows", "_law_row", "_law_column"]) (sc := (relabel (lcSc (stE ((defBody (top 67)).getD 0 dfS))) { scope := defScope (top 67), locals := 0, globals := 0, cells := [] })) (by decide +kernel)) (fun _ _ _ _ _ => pg_name (i := 1) sc.nd rfl (Or.inl rfl)) (fun _ _ _ _ _ => pts_nil) (fun _ _ _ _ _ => (pe_ix (r := rIx K) ix_seq (pv 1) (pv 2) (fun _ _ => rfl)))))))), ?_⟩
    have e := pr_len hn
    obtain ⟨v0, hv0, p0, u0, rfl, hp0, hu0⟩ := rowS_of hn h0
    have l0 := pr_len hu0
    rw [wide_at hw h0] at l0
    refine ⟨_, rfl, ixS (i := 0) hs rfl hv0 ⟨_, u0.length, rfl, lenS hp0, _, rfl, by omega, by omega, ?_⟩⟩
    refine lm_R (K := K) (G := fun i => R.map fun r => r.getD i 0) (by omega) ?_ ?_
    · intro D hD i H4 hi s4 Qe kq
      have s14 : Same H H4 := s4.trans rem_same
      refine ⟨rfl, _, rfl, p, rfl, lc_mapS (sqS_mono s14 hs) (by omega) (fun l v H => ∃ r, R[l]? = some r ∧ Num K H v (r.getD i 0)) (fun i v H H' s ⟨r, a, b⟩ => ⟨r, a, b.mono s⟩) ?_ ?_⟩
      · intro D2 hD2 l x H5 hl s5 ⟨acc, hacc⟩ Qe2 kq2
        obtain ⟨r, hr', rs⟩ := pr_getl hn hl
        obtain ⟨p2, u2, rfl, h2, n2⟩ := rs.mono (s14.trans (s5.trans rem_same))
        have lr : r.length = n := hw r (List.mem_of_getElem? hr')
        obtain ⟨v, hv, nv⟩ := pr_get n2 (getD_at (show i < r.length by omega))
        exact ⟨rfl, _, rfl, _, rfl, ixS h2 (by omega) hv (kq2 _ _ (Same.refl _) ⟨r, hr', nv.rem hacc⟩)⟩
      · intro D2 hD2 H5 ys s5 h5 hl5 hr5
        refine kq D2 _ (s5.trans rem_same) hD2 ⟨ys, h5, pr_of (by rw [List.length_map]; omega) fun l a b h1 h2 => ?_⟩
        obtain ⟨r, e1, e2⟩ := hr5 l a h1
        rw [List.getElem?_map, e1] at h2
        cases h2
        exact e2.mono rem_same
    · intro D hD H1 ads s1 hM hfr
      refine k _ _ (s1.trans rem_same) ⟨D, ads, rfl, ?_, hD, hfr⟩
      have en : ((u0.length : Nat) : Int).toNat = n := by omega
      rw [en] at hM
      exact hM
def spNextL (K : PySem.W.Frag) : Sp := fun vs H Q _ => ∃ (v : V) (r : List Rat) (j : Nat), vs = [v, .int (j : Nat)] ∧ RowS K H v r ∧ r.length ≤ 1000 ∧ j < 1000 ∧
  ∀ o, FA r j o → Q (match o with | some s => .int (s : Nat) | none => .int (-1)) H
theorem sc_law_next : FnScope ["_law_row", "_law_column", "_law_place"] ["_law_row", "_law_column"] (defScope (top 68)) := ⟨rfl, rfl, rfl, by decide +kernel, rfl, by decide +kernel, by decide +kernel⟩
theorem ok_law_next {P : Program} {w : World} {K : PySem.W.Frag} {mg : Str → Option Value} {base : Heap} (T : Txt P K mg base) : Fd P w K mg base 5 "_law_next" ["_law_row", "_law_column"] (spNextL K) := by
  have sc := sc_law_next
  refine mkFd T "_law_next" 68 (by decide) sc (fun vs H Q E h => ?_) (fun _ _ _ _ _ _ us hl => match us, hl with | [_, _], _ => rfl) (fun cdv A outer s H vs Q E hr h => ?_)
  · obtain ⟨_, r, j, rfl, ⟨p, us, rfl, hs, hn⟩, hl, hj, k⟩ := h
    rfl
  · obtain ⟨_, r, j, rfl, ⟨p, us, rfl, hs, hn⟩, hl, hj, k⟩ := h
    refine ⟨_, (pss_cons (ps_for PassesOwn.never rfl (pi_range2 rfl T.range (pa_cons (pe_op (op_add) (pv 1) pe_int) (pa_cons (pe_callB call_len rfl T.len boot_len (pa_cons (pv 0) pa_nil)) pa_nil))) (pg_name (i := 2) sc.nd rfl (Or.inl rfl)) (pss_one (ps_if (pt_cmpR (op_ne) (pe_ix (r := rIx K) ix_seq (pe_ix (r := rIx K) ix_seq (pv 0) (pv 2) (fun _ _ => rfl)) pe_int (fun _ _ => rfl)) pe_int (nomark _)) (pss_one (ps_ret (pv 2))) pss_nil)))
      (pss_one (ps_ret (pe_un un_neg pe_int)))), ?_⟩
    have e := pr_len hn
    refine ⟨_, rfl, _, _, rfl, rfl, _, rfl, _, us.length, rfl, lenS hs, _, _, rfl, ⟨by omega, by omega, by omega, by omega⟩, ?_⟩
    refine for_range (lo := (j : Int) + 1) (n := ((us.length : Nat) - ((j : Int) + 1) : Int).toNat) (fun i σ H' => H' = H ∧ (∀ t, j < t → t < j + 1 + i → r.getD t 0 = 0) ∧ ∃ w, σ = [some (.ref p), some (.int j), w]) ⟨rfl, fun t h1 h2 => by omega, _, rfl⟩ ?_ ?_
    · rintro i σ H' hi ⟨rfl, hz, w, rfl⟩
      have hlt : j + 1 + i < r.length := by omega
      obtain ⟨v, hv, x, rfl, hx⟩ := pr_get hn (List.getElem?_eq_getElem hlt)
      refine ⟨_, rfl, _, rfl, ixS hs (by omega) hv (ix0 hx ⟨rfl, _, rfl, ?_⟩)⟩
      have eg : r.getD (j + 1 + i) 0 = r[j + 1 + i] := by simp [List.getD_eq_getElem?_getD, List.getElem?_eq_getElem hlt]
      by_cases hq : r[j + 1 + i] = 0
      · refine iteNS (num_zero.mpr hq) ⟨rfl, fun t h1 h2 => ?_, _, rfl⟩
        by_cases ht : t = j + 1 + i
        · subst ht
          rw [eg, hq]
        · exact hz t h1 (by omega)
      · refine iteNT (fun z => hq (num_zero.mp z)) ⟨_, rfl, ?_⟩
        have z := k (some (j + 1 + i)) ⟨by omega, hlt, by rw [eg]; exact hq, fun t h1 h2 => hz t h1 (by omega)⟩
        have en : ((j : Int) + 1 + (i : Int)) = ((j + 1 + i : Nat) : Int) := by omega
        show Q (.int ((j : Int) + 1 + (i : Int))) H'
        rw [en]
        exact z
    · rintro σ H' ⟨rfl, hz, w, rfl⟩
      exact ⟨_, rfl, k none fun t h1 h2 => hz t h1 (by omega)⟩
def spUnmL (K : PySem.W.Frag) : Sp := fun vs H Q _ => ∃ (v w : V) (x a : List Rat), vs = [v, w] ∧ RowS K H v x ∧ RowS K H w a ∧ x.length = a.length ∧ x.length ≤ 1000 ∧ hbR 10000000 x ∧ hbR 10000000 a ∧
  ∀ l H', Same H H' → H l = none → RowL K H' l (unm x a) → Q (.ref l) H'
theorem sc_law_unmade_row : FnScope ["_law_row", "_law_by", "_law_told", "_law_column", "_law_place", "_law_number", "_law_share"] ["_law_row", "_law_by"] (defScope (top 69)) := ⟨rfl, rfl, rfl, by decide +kernel, rfl, by decide +kernel, by decide +kernel⟩
theorem ok_law_unmade_row {P : Program} {w : World} {K : PySem.W.Frag} {mg : Str → Option Value} {base : Heap} (T : Txt P K mg base) : Fd P w K mg base 43 "_law_unmade_row" ["_law_row", "_law_by"] (spUnmL K) := by
  have sc := sc_law_unmade_row
  refine mkFd T "_law_unmade_row" 69 (by decide) sc (fun vs H Q E h => ?_) (fun _ _ _ _ _ _ us hl => match us, hl with | [_, _], _ => rfl) (fun cdv A outer s H vs Q E hr h => ?_)
  · obtain ⟨_, _, x, a, rfl, ⟨px, ux, rfl, hpx, hux⟩, ⟨pa, ua, rfl, hpa, hua⟩, he, hl, bx, ba, k⟩ := h
    rfl
  · obtain ⟨_, _, x, a, rfl, ⟨px, ux, rfl, hpx, hux⟩, ⟨pa, ua, rfl, hpa, hua⟩, he, hl, bx, ba, k⟩ := h
    refine ⟨_, (pss_cons (ps_set (i := 2) sc.nd rfl (Or.inl rfl) (pe_lst pa_nil))
      (pss_cons (ps_for PassesOwn.never rfl (pi_range1 rfl T.range (pa_cons (pe_callB call_len rfl T.len boot_len (pa_cons (pv 0) pa_nil)) pa_nil)) (pg_name (i := 3) sc.nd rfl (Or.inl rfl)) (pss_cons (ps_set (i := 4) sc.nd rfl (Or.inl rfl) (pe_cf (ok_law_next T) (hr.mono (by decide)) rfl (pa_cons (pv 1) (pa_cons (pv 3) pa_nil))))
      (pss_cons (ps_set (i := 5) sc.nd rfl (Or.inl rfl) (pe_ix (r := rIx K) ix_seq (pv 0) (pv 3) (fun _ _ => rfl)))
      (pss_cons (ps_if (PW.pt (pw_and (pt_cmpR (op_ne) (pe_ix (r := rIx K) ix_seq (pe_ix (r := rIx K) ix_seq (pv 1) (pv 3) (fun _ _ => rfl)) pe_int (fun _ _ => rfl)) pe_int (nomark _)) (pw_and1 (pt_cmpR (op_ge) (pv 4) pe_int (nomark _))))) (pss_cons (ps_set (i := 6) sc.nd rfl (Or.inl rfl) (pe_cf (ok_law_over T) (hr.mono (by decide)) rfl (pa_cons (pe_ix (r := rIx K) ix_seq (pv 1) (pv 3) (fun _ _ => rfl)) (pa_cons (pe_ix (r := rIx K) ix_seq (pv 1) (pv 4) (fun _ _ => rfl)) pa_nil))))
      (pss_one (ps_set (i := 5) sc.nd rfl (Or.inl rfl) (pe_cf (ok_law_less T) (hr.mono (by decide)) rfl (pa_cons (pv 5) (pa_cons (pe_cf (ok_law_times T) (hr.mono (by decide)) rfl (pa_cons (pv 6) (pa_cons (pe_ix (r := rIx K) ix_seq (pv 0) (pv 4) (fun _ _ => rfl)) pa_nil))) pa_nil)))))) pss_nil)
      (pss_one (ps_expr (pe_bm PySem.F.plainAttrs_list PySem.F.slot_list_append PySem.F.type_list_append mt_append (pv 2) (pa_cons (pv 5) pa_nil))))))))
      (pss_one (ps_ret (pv 2))))), ?_⟩
    have ex := pr_len hux
    have ea := pr_len hua
    have ul := unm_length x a he
    refine ⟨Nat.zero_le _, fun l hl1 => ?_⟩
    have s0 : Same H (upd H l (.lst [])) := same_new hl1
    refine ⟨_, rfl, _, ux.length, rfl, lenS (sqS_mono s0 hpx), _, rfl, by omega, by omega, ?_⟩
    refine for_range (lo := 0) (n := ((ux.length : Nat) : Int).toNat) (fun i σ H' => Same H H' ∧ (∃ zs, H' l = some (.lst zs) ∧ Paired (Num K (rem l H')) zs ((unm x a).take i)) ∧ ∃ w3 w4 w5 w6, σ = [some (.ref px), some (.ref pa), some (.ref l), w3, w4, w5, w6])
      ⟨s0, ⟨[], upd_same, by simpa using .nil⟩, _, _, _, _, rfl⟩ ?_ ?_
    · rintro i σ H3 hi ⟨s13, ⟨zs, hz3, nz3⟩, w3, w4, w5, w6, rfl⟩
      have hi' : i < x.length := by omega
      have e0 : (0 : Int) + (i : Nat) = (i : Int) := by omega
      rw [e0]
      obtain ⟨qx, hqx, hqx2⟩ := row_at (i := i) (nums_mono s13 hux) hi'
      obtain ⟨qa, hqa, hqa2⟩ := row_at (i := i) (nums_mono s13 hua) (by omega)
      refine ⟨_, rfl, _, rfl, .ref pa, a, i, rfl, ⟨pa, ua, rfl, sqS_mono s13 hpa, nums_mono s13 hua⟩, by omega, by omega, fun o fo => ?_⟩
      have hval := unm_val he hi' fo
      have fin : ∀ (y' : V) (H4 : Hp) (q : Rat), Same H3 H4 → Num K H4 y' q → q = (unm x a).getD i 0 →
          Same H (upd H4 l (.lst (zs ++ [y']))) ∧ (∃ zs', (upd H4 l (.lst (zs ++ [y']))) l = some (.lst zs') ∧ Paired (Num K (rem l (upd H4 l (.lst (zs ++ [y']))))) zs' ((unm x a).take (i + 1))) := fun y' H4 q s4 m4 e4 => by
        refine ⟨same_mut (s13.trans s4) hl1, _, upd_same, ?_⟩
        rw [take_next (by omega), ← e4]
        exact grown (s4 _ _ hz3) (nums_mono (rem_mono s4) nz3) m4
      have lz : zs.length < sizeLine := Evl.sz_lt (by rw [pr_len nz3, List.length_take]; omega)
      refine ⟨_, rfl, _, rfl, ixS (sqS_mono s13 hpx) rfl hqx ?_⟩
      refine ⟨_, rfl, _, rfl, ixS (sqS_mono s13 hpa) rfl hqa (ix0 hqa2 ⟨rfl, _, rfl, ?_⟩)⟩
      by_cases h0 : a.getD i 0 = 0
      · refine iteNS (num_zero.mpr h0) ?_
        refine ⟨_, rfl, .inl ⟨rfl, _, SqL.of hz3⟩, _, rfl, l, zs, _, rfl, rfl, hz3, lz, ?_⟩
        obtain ⟨f1, f2⟩ := fin (.ref qx) H3 (x.getD i 0) (Same.refl _) (num1 hqx2) (by
          rw [hval, h0]
          cases o with
          | none => rfl
          | some s => grind)
        exact ⟨f1, f2, _, _, _, _, rfl⟩
      · refine iteNT (fun z => h0 (num_zero.mp z)) ?_
        cases o with
        | none =>
          refine ⟨_, rfl, _, _, rfl, rfl, _, rfl, iteDN (by decide) ?_⟩
          refine ⟨_, rfl, .inl ⟨rfl, _, SqL.of hz3⟩, _, rfl, l, zs, _, rfl, rfl, hz3, lz, ?_⟩
          obtain ⟨f1, f2⟩ := fin (.ref qx) H3 (x.getD i 0) (Same.refl _) (num1 hqx2) hval.symm
          exact ⟨f1, f2, _, _, _, _, rfl⟩
        | some s =>
          obtain ⟨g1, g2, g3, _⟩ := (show i < s ∧ s < a.length ∧ a.getD s 0 ≠ 0 ∧ _ from fo)
          obtain ⟨qs, hqs, hqs2⟩ := row_at (i := s) (nums_mono s13 hua) g2
          refine ⟨_, rfl, _, _, rfl, rfl, _, rfl, iteD (by omega) ?_⟩
          refine ⟨_, rfl, _, rfl, ixS (sqS_mono s13 hpa) rfl hqa ⟨_, rfl, _, rfl, ixS (sqS_mono s13 hpa) rfl hqs ?_⟩⟩
          refine ⟨_, _, _, _, 10000000, 10000000, rfl, num1 hqa2, num1 hqs2, ba.at (by omega), ba.at g2, by decide, trivial, fun v5 H5 s5 m5 => ?_⟩
          obtain ⟨qr, hqr, hqr2⟩ := row_at (i := s) (nums_mono (s13.trans s5) hux) (by omega)
          refine ⟨_, rfl, _, rfl, _, rfl, _, rfl, ixS (sqS_mono (s13.trans s5) hpx) rfl hqr ?_⟩
          refine ⟨_, _, _, _, 20000000, 10000000, rfl, m5, num1 hqr2, (hb_div (ba.at (by omega)) (ba.at g2)).mono (by decide), bx.at (by omega), by decide, trivial, fun v6 H6 s6 m6 => ?_⟩
          have s36 : Same H3 H6 := s5.trans s6
          refine ⟨_, _, _, _, 10000000, 30000000, rfl, (num1 hqx2).mono s36, m6, bx.at hi', (hb_mul (hb_div (ba.at (by omega)) (ba.at g2)) (bx.at (by omega))).mono (by decide), by decide, trivial, fun v7 H7 s7 m7 => ?_⟩
          have s37 : Same H3 H7 := s36.trans s7
          refine ⟨_, rfl, .inl ⟨rfl, _, SqL.of (s37 _ _ hz3)⟩, _, rfl, l, zs, _, rfl, rfl, s37 _ _ hz3, lz, ?_⟩
          obtain ⟨f1, f2⟩ := fin v7 H7 _ s37 m7 hval.symm
          exact ⟨f1, f2, _, _, _, _, rfl⟩
    · rintro σ H' ⟨s2, ⟨zs, hz, nz⟩, w3, w4, w5, w6, rfl⟩
      refine ⟨_, rfl, ?_⟩
      rw [show ((ux.length : Nat) : Int).toNat = (unm x a).length by omega, List.take_length] at nz
      exact k l H' s2 hl1 ⟨zs, hz, nums_mono rem_same nz⟩
end MU
namespace MU
open PySem PySem.Spec PyProof.Rows L2 He MM
theorem ixN_of {n j : Nat} {k : Int} (h : k = (j : Int)) (hj : j < n) : ixN n k = some j := by
  subst h
  exact ixN_nat hj
theorem Mat.fresh {K : PySem.W.Frag} {H : Hp} {L l : Addr} {ads : List Addr} {R : List (List Rat)} (h : Mat K H L ads R) (hl : H l = none) : l ∉ ads ∧ l ≠ L := by
  refine ⟨fun z => ?_, fun z => ?_⟩
  · obtain ⟨i, hi⟩ := List.mem_iff_getElem?.mp z
    obtain ⟨r, _, us, e, _⟩ := pr_getl h.rows hi
    rw [hl] at e
    cases e
  · have e := h.out
    rw [← z, hl] at e
    cases e
def spUnmadeL (K : PySem.W.Frag) : Sp := fun vs H Q _ => ∃ (v : V) (n : Nat) (R : List (List Rat)), vs = [v] ∧ TabS K H v R ∧ Wide n R ∧ 0 < R.length ∧ R.length ≤ 1000 ∧ n ≤ 1000 ∧ okU 10000000 R ∧ ∀ v' H', Same H H' → NewM K H H' v' (core R) → Q v' H'
theorem sc_law_unmade : FnScope ["_law_rows", "_law_work", "_law_turn", "_law_at", "_law_r"] ["_law_rows"] (defScope (top 71)) := ⟨rfl, rfl, rfl, by decide +kernel, rfl, by decide +kernel, by decide +kernel⟩
theorem ok_law_unmade {P : Program} {w : World} {K : PySem.W.Frag} {mg : Str → Option Value} {base : Heap} (T : Txt P K mg base) : Fd P w K mg base 44 "_law_unmade" ["_law_rows"] (spUnmadeL K) := by
  have sc := sc_law_unmade
  refine mkFd T "_law_unmade" 71 (by decide) sc (fun vs H Q E h => ?_) (fun _ _ _ _ _ _ us hl => match us, hl with | [_], _ => rfl) (fun cdv A outer s H vs Q E hr h => ?_)
  · obtain ⟨v, n, R, rfl, hv, hw, h0, hR, hn, hok, k⟩ := h
    rfl
  · obtain ⟨v, n, R, rfl, hv, hw, h0, hR, hn, hok, k⟩ := h
    refine ⟨_, (pss_cons (ps_set (i := 1) sc.nd rfl (Or.inl rfl) (pe_cf (ok_law_copy T) (hr.mono (by decide)) rfl (pa_cons (pv 0) pa_nil)))
      (pss_cons (ps_for PassesOwn.never rfl (pi_range1 rfl T.range (pa_cons (pe_op (op_sub) (pe_callB call_len rfl T.len boot_len (pa_cons (pv 1) pa_nil)) pe_int) pa_nil)) (pg_name (i := 2) sc.nd rfl (Or.inl rfl)) (pss_cons (ps_set (i := 3) sc.nd rfl (Or.inl rfl) (pe_op (op_sub) (pe_op (op_sub) (pe_callB call_len rfl T.len boot_len (pa_cons (pv 1) pa_nil)) pe_int) (pv 2)))
      (pss_one (ps_for PassesOwn.never rfl (pi_range1 rfl T.range (pa_cons (pv 3) pa_nil)) (pg_name (i := 4) sc.nd rfl (Or.inl rfl)) (pss_one (ps_asg (pe_cf (ok_law_unmade_row T) (hr.mono (by decide)) rfl (pa_cons (pe_ix (r := rIx K) ix_seq (pv 1) (pv 4) (fun _ _ => rfl)) (pa_cons (pe_ix (r := rIx K) ix_seq (pv 1) (pv 3) (fun _ _ => rfl)) pa_nil))) (pg_sub (pv 1) (pv 4) set_list)))))))
      (pss_one (ps_ret (pv 1))))), ?_⟩
    refine ⟨_, rfl, v, R, rfl, hv, hR, fun v' H1 s1 hN => ?_⟩
    obtain ⟨L, ads0, rfl, hM0, hL0, hfr0⟩ := hN
    have hlen0 : (ads0.map V.ref).length = R.length := by rw [List.length_map, hM0.len]
    refine ⟨_, rfl, _, (ads0.map V.ref).length, rfl, .inl ⟨_, SqL.of hM0.out, rfl⟩, _, _, rfl, rfl, _, rfl, by omega, by omega, ?_⟩
    · skip
      refine for_range (lo := 0) (n := ((((ads0.map V.ref).length : Nat) : Int) - 1).toNat) (fun t σ H' => ∃ ads, Same H H' ∧ Mat K H' L ads (lev R (R.length - t) ++ (core R).drop (R.length - t)) ∧ (∀ a ∈ ads, H a = none) ∧ ∃ w0 w1 w2, σ = [some v, some (.ref L), w0, w1, w2])
        ⟨ads0, s1, by
          rw [Nat.sub_zero, lev_all, List.drop_of_length_le (by rw [core_length]; exact Nat.le_refl _), List.append_nil]
          exact hM0, hfr0, _, _, _, rfl⟩ ?_ ?_
      · rintro t σ H2 ht ⟨ads, s2, hM, hfr, w0, w1, w2, rfl⟩
        obtain ⟨u, hu⟩ : ∃ u, u + t + 1 = R.length := ⟨R.length - t - 1, by omega⟩
        have hu1 : 1 ≤ u := by omega
        rw [show R.length - t = u + 1 by omega] at hM
        rw [show R.length - (t + 1) = u by omega]
        have hX := clr_lev (R := R) (k := u) (by omega)
        have hXl : (lev R (u + 1) ++ (core R).drop (u + 1)).length = R.length := by
          rw [List.length_append, lev_length (by omega), List.length_drop, core_length]
          omega
        have hXw : Wide n (lev R (u + 1) ++ (core R).drop (u + 1)) := fun z hz => by
          rcases List.mem_append.mp hz with h | h
          · exact lev_wide hw _ z h
          · exact core_wide hw z (List.mem_of_mem_drop h)
        have hXb : ∀ i, i ≤ u → hbR 10000000 ((lev R (u + 1) ++ (core R).drop (u + 1)).getD i []) := fun i hi => by
          have hl := lev_length (R := R) (k := u + 1) (by omega)
          rw [List.getD_eq_getElem?_getD, List.getElem?_append_left (by omega), List.getElem?_eq_getElem (by omega)]
          exact hok (u + 1) (by omega) (by omega) _ (List.getElem_mem _)
        generalize lev R (u + 1) ++ (core R).drop (u + 1) = X at hM hX hXl hXw hXb
        have hlen : (ads.map V.ref).length = R.length := by rw [List.length_map, hM.len, hXl]
        refine ⟨_, rfl, _, (ads.map V.ref).length, rfl, .inl ⟨_, SqL.of hM.out, rfl⟩, _, _, rfl, rfl, _, rfl, _, _, rfl, rfl, ?_⟩
        refine ⟨_, rfl, _, rfl, by omega, by omega, ?_⟩
        refine for_range (lo := 0) (n := ((((ads.map V.ref).length : Nat) : Int) - 1 - (0 + (t : Int))).toNat) (fun r σ H3 => ∃ ads', Same H H3 ∧ Mat K H3 L ads' (prt X u r) ∧ (∀ a ∈ ads', H a = none) ∧ ∃ w2, σ = [some v, some (.ref L), some (.int (0 + (t : Int))), some (.int ((((ads.map V.ref).length : Nat) : Int) - 1 - (0 + (t : Int)))), w2])
          ⟨ads, s2, by rw [prt_zero]; exact hM, hfr, _, rfl⟩ ?_ ?_
        · rintro r σ H3 hr3 ⟨ads', s3, hM3, hfr3, w2, rfl⟩
          have hru : r < u := by omega
          have lp : (prt X u r).length = R.length := by rw [prt_length (by omega), hXl]
          obtain ⟨a1, us1, ha1, e1, n1⟩ := hM3.at (show r < (prt X u r).length by omega)
          obtain ⟨a2, us2, ha2, e2, n2⟩ := hM3.at (show u < (prt X u r).length by omega)
          rw [prt_at (Nat.le_refl r) (by omega)] at n1
          rw [prt_at (show r ≤ u by omega) (by omega)] at n2
          have g1 : (ads'.map V.ref)[r]? = some (.ref a1) := by rw [List.getElem?_map, ha1]; rfl
          have g2 : (ads'.map V.ref)[u]? = some (.ref a2) := by rw [List.getElem?_map, ha2]; rfl
          have x1 : (X.getD r []).length = n := wide_at hXw (by omega)
          have x2 : (X.getD u []).length = n := wide_at hXw (by omega)
          refine ⟨_, rfl, _, rfl, ixS (i := r) (.inl (SqL.of hM3.out)) (by omega) g1 ⟨_, rfl, _, rfl, ixS (i := u) (.inl (SqL.of hM3.out)) (by omega) g2 ?_⟩⟩
          refine ⟨_, _, _, _, rfl, ⟨a1, us1, rfl, .inl (SqL.of e1), n1⟩, ⟨a2, us2, rfl, .inl (SqL.of e2), n2⟩, by omega, by omega, hXb r (by omega), hXb u (Nat.le_refl _), fun l H4 s4 hl n4 => ?_⟩
          have hM4 := hM3.mono s4
          refine ⟨_, rfl, _, rfl, L, _, _, r, rfl, rfl, hM4.out, ixN_of (by omega) (by rw [List.length_map, hM3.len, lp]; omega), ?_⟩
          obtain ⟨f1, f2⟩ := hM3.fresh hl
          refine ⟨ads'.set r l, same_mut (s3.trans s4) hL0, ?_, fun a ha => ?_, _, rfl⟩
          · rw [← prt_step (by omega)]
            exact hM4.setOut (by omega) f1 f2 n4
          · rcases List.mem_or_eq_of_mem_set ha with h | h
            · exact hfr3 a h
            · rw [h]
              exact s3.free hl
        · rintro σ H3 ⟨ads', s3, hM3, hfr3, w2, rfl⟩
          rw [show ((((ads.map V.ref).length : Nat) : Int) - 1 - (0 + (t : Int))).toNat = u by omega, prt_end, hX] at hM3
          exact ⟨ads', s3, hM3, hfr3, _, _, _, rfl⟩
      · rintro σ H2 ⟨ads, s2, hM, hfr, w0, w1, w2, rfl⟩
        rw [show R.length - ((((ads0.map V.ref).length : Nat) : Int) - 1).toNat = 1 by omega, lev_one h0] at hM
        exact ⟨_, rfl, k _ _ s2 ⟨L, ads, rfl, hM, hL0, hfr⟩⟩
def spLevelL (K : PySem.W.Frag) : Sp := fun vs H Q _ => ∃ (v : V) (n : Nat) (R : List (List Rat)) (i : Nat), vs = [v, .int (i : Nat)] ∧ TabS K H v R ∧ Wide n R ∧ i < R.length ∧ R.length ≤ 1000 ∧ n ≤ 1000 ∧ okU 10000000 R ∧ ∀ v' H', Same H H' → NewM K H H' v' (lev R (i + 1)) → Q v' H'
theorem sc_law_level : FnScope ["_law_rows", "_law_last", "_law_work", "_law_turn", "_law_at", "_law_r"] ["_law_rows", "_law_last"] (defScope (top 72)) := ⟨rfl, rfl, rfl, by decide +kernel, rfl, by decide +kernel, by decide +kernel⟩
theorem ok_law_level {P : Program} {w : World} {K : PySem.W.Frag} {mg : Str → Option Value} {base : Heap} (T : Txt P K mg base) : Fd P w K mg base 44 "_law_level" ["_law_rows", "_law_last"] (spLevelL K) := by
  have sc := sc_law_level
  refine mkFd T "_law_level" 72 (by decide) sc (fun vs H Q E h => ?_) (fun _ _ _ _ _ _ us hl => match us, hl with | [_, _], _ => rfl) (fun cdv A outer s H vs Q E hr h => ?_)
  · obtain ⟨v, n, R, i, rfl, hv, hw, h0, hR, hn, hok, k⟩ := h
    rfl
  · obtain ⟨v, n, R, i, rfl, hv, hw, h0, hR, hn, hok, k⟩ := h
    refine ⟨_, (pss_cons (ps_set (i := 2) sc.nd rfl (Or.inl rfl) (pe_cf (ok_law_copy T) (hr.mono (by decide)) rfl (pa_cons (pv 0) pa_nil)))
      (pss_cons (ps_for PassesOwn.never rfl (pi_range1 rfl T.range (pa_cons (pe_op (op_sub) (pe_op (op_sub) (pe_callB call_len rfl T.len boot_len (pa_cons (pv 2) pa_nil)) pe_int) (pv 1)) pa_nil)) (pg_name (i := 3) sc.nd rfl (Or.inl rfl)) (pss_cons (ps_set (i := 4) sc.nd rfl (Or.inl rfl) (pe_op (op_sub) (pe_op (op_sub) (pe_callB call_len rfl T.len boot_len (pa_cons (pv 2) pa_nil)) pe_int) (pv 3)))
      (pss_one (ps_for PassesOwn.never rfl (pi_range1 rfl T.range (pa_cons (pv 4) pa_nil)) (pg_name (i := 5) sc.nd rfl (Or.inl rfl)) (pss_one (ps_asg (pe_cf (ok_law_unmade_row T) (hr.mono (by decide)) rfl (pa_cons (pe_ix (r := rIx K) ix_seq (pv 2) (pv 5) (fun _ _ => rfl)) (pa_cons (pe_ix (r := rIx K) ix_seq (pv 2) (pv 4) (fun _ _ => rfl)) pa_nil))) (pg_sub (pv 2) (pv 5) set_list)))))))
      (pss_one (ps_ret (pe_slice (r := rSlS K) sl_seq (pv 2) po_none (po_some (pe_op (op_add) (pv 1) pe_int))))))), ?_⟩
    refine ⟨_, rfl, v, R, rfl, hv, hR, fun v' H1 s1 hN => ?_⟩
    obtain ⟨L, ads0, rfl, hM0, hL0, hfr0⟩ := hN
    have hlen0 : (ads0.map V.ref).length = R.length := by rw [List.length_map, hM0.len]
    refine ⟨_, rfl, _, (ads0.map V.ref).length, rfl, .inl ⟨_, SqL.of hM0.out, rfl⟩, _, _, rfl, rfl, _, rfl, _, _, rfl, rfl, _, rfl, by omega, by omega, ?_⟩
    · skip
      refine for_range (lo := 0) (n := ((((ads0.map V.ref).length : Nat) : Int) - 1 - (i : Int)).toNat) (fun t σ H' => ∃ ads, Same H H' ∧ Mat K H' L ads (lev R (R.length - t) ++ (core R).drop (R.length - t)) ∧ (∀ a ∈ ads, H a = none) ∧ ∃ w0 w1 w2, σ = [some v, some (.int (i : Nat)), some (.ref L), w0, w1, w2])
        ⟨ads0, s1, by
          rw [Nat.sub_zero, lev_all, List.drop_of_length_le (by rw [core_length]; exact Nat.le_refl _), List.append_nil]
          exact hM0, hfr0, _, _, _, rfl⟩ ?_ ?_
      · rintro t σ H2 ht ⟨ads, s2, hM, hfr, w0, w1, w2, rfl⟩
        obtain ⟨u, hu⟩ : ∃ u, u + t + 1 = R.length := ⟨R.length - t - 1, by omega⟩
        have hu1 : 1 ≤ u := by omega
        rw [show R.length - t = u + 1 by omega] at hM
        rw [show R.length - (t + 1) = u by omega]
        have hX := clr_lev (R := R) (k := u) (by omega)
        have hXl : (lev R (u + 1) ++ (core R).drop (u + 1)).length = R.length := by
          rw [List.length_append, lev_length (by omega), List.length_drop, core_length]
          omega
        have hXw : Wide n (lev R (u + 1) ++ (core R).drop (u + 1)) := fun z hz => by
          rcases List.mem_append.mp hz with h | h
          · exact lev_wide hw _ z h
          · exact core_wide hw z (List.mem_of_mem_drop h)
        have hXb : ∀ i, i ≤ u → hbR 10000000 ((lev R (u + 1) ++ (core R).drop (u + 1)).getD i []) := fun i hi => by
          have hl := lev_length (R := R) (k := u + 1) (by omega)
          rw [List.getD_eq_getElem?_getD, List.getElem?_append_left (by omega), List.getElem?_eq_getElem (by omega)]
          exact hok (u + 1) (by omega) (by omega) _ (List.getElem_mem _)
        generalize lev R (u + 1) ++ (core R).drop (u + 1) = X at hM hX hXl hXw hXb
        have hlen : (ads.map V.ref).length = R.length := by rw [List.length_map, hM.len, hXl]
        refine ⟨_, rfl, _, (ads.map V.ref).length, rfl, .inl ⟨_, SqL.of hM.out, rfl⟩, _, _, rfl, rfl, _, rfl, _, _, rfl, rfl, ?_⟩
        refine ⟨_, rfl, _, rfl, by omega, by omega, ?_⟩
        refine for_range (lo := 0) (n := ((((ads.map V.ref).length : Nat) : Int) - 1 - (0 + (t : Int))).toNat) (fun r σ H3 => ∃ ads', Same H H3 ∧ Mat K H3 L ads' (prt X u r) ∧ (∀ a ∈ ads', H a = none) ∧ ∃ w2, σ = [some v, some (.int (i : Nat)), some (.ref L), some (.int (0 + (t : Int))), some (.int ((((ads.map V.ref).length : Nat) : Int) - 1 - (0 + (t : Int)))), w2])
          ⟨ads, s2, by rw [prt_zero]; exact hM, hfr, _, rfl⟩ ?_ ?_
        · rintro r σ H3 hr3 ⟨ads', s3, hM3, hfr3, w2, rfl⟩
          have hru : r < u := by omega
          have lp : (prt X u r).length = R.length := by rw [prt_length (by omega), hXl]
          obtain ⟨a1, us1, ha1, e1, n1⟩ := hM3.at (show r < (prt X u r).length by omega)
          obtain ⟨a2, us2, ha2, e2, n2⟩ := hM3.at (show u < (prt X u r).length by omega)
          rw [prt_at (Nat.le_refl r) (by omega)] at n1
          rw [prt_at (show r ≤ u by omega) (by omega)] at n2
          have g1 : (ads'.map V.ref)[r]? = some (.ref a1) := by rw [List.getElem?_map, ha1]; rfl
          have g2 : (ads'.map V.ref)[u]? = some (.ref a2) := by rw [List.getElem?_map, ha2]; rfl
          have x1 : (X.getD r []).length = n := wide_at hXw (by omega)
          have x2 : (X.getD u []).length = n := wide_at hXw (by omega)
          refine ⟨_, rfl, _, rfl, ixS (i := r) (.inl (SqL.of hM3.out)) (by omega) g1 ⟨_, rfl, _, rfl, ixS (i := u) (.inl (SqL.of hM3.out)) (by omega) g2 ?_⟩⟩
          refine ⟨_, _, _, _, rfl, ⟨a1, us1, rfl, .inl (SqL.of e1), n1⟩, ⟨a2, us2, rfl, .inl (SqL.of e2), n2⟩, by omega, by omega, hXb r (by omega), hXb u (Nat.le_refl _), fun l H4 s4 hl n4 => ?_⟩
          have hM4 := hM3.mono s4
          refine ⟨_, rfl, _, rfl, L, _, _, r, rfl, rfl, hM4.out, ixN_of (by omega) (by rw [List.length_map, hM3.len, lp]; omega), ?_⟩
          obtain ⟨f1, f2⟩ := hM3.fresh hl
          refine ⟨ads'.set r l, same_mut (s3.trans s4) hL0, ?_, fun a ha => ?_, _, rfl⟩
          · rw [← prt_step (by omega)]
            exact hM4.setOut (by omega) f1 f2 n4
          · rcases List.mem_or_eq_of_mem_set ha with h | h
            · exact hfr3 a h
            · rw [h]
              exact s3.free hl
        · rintro σ H3 ⟨ads', s3, hM3, hfr3, w2, rfl⟩
          rw [show ((((ads.map V.ref).length : Nat) : Int) - 1 - (0 + (t : Int))).toNat = u by omega, prt_end, hX] at hM3
          exact ⟨ads', s3, hM3, hfr3, _, _, _, rfl⟩
      · rintro σ H2 ⟨ads, s2, hM, hfr, w0, w1, w2, rfl⟩
        rw [show R.length - ((((ads0.map V.ref).length : Nat) : Int) - 1 - (i : Int)).toNat = i + 1 by omega] at hM
        have hl := lev_length (R := R) (k := i + 1) h0
        have hlen : (ads.map V.ref).length = R.length := by
          rw [List.length_map, hM.len, List.length_append, hl, List.length_drop, core_length]
          omega
        refine ⟨_, rfl, _, rfl, _, _, rfl, rfl, _, rfl, ?_⟩
        have ecut : cutV (ads.map V.ref) none (some ((i : Int) + 1)) = (ads.take (i + 1)).map V.ref := by
          have e : ((i : Int) + 1) = ((i + 1 : Nat) : Int) := by omega
          rw [e, cut_to _ (by omega), List.map_take]
        refine slL (ys := (ads.take (i + 1)).map V.ref) (SqL.of hM.out) ecut fun p' H5 s5 hp0 hp' => ?_
        have hM5 := hM.mono s5
        refine k _ _ (s2.trans s5) ⟨p', ads.take (i + 1), rfl, ⟨hp', List.Pairwise.sublist (List.take_sublist _ _) hM.nd, fun z => (hM.fresh hp0).1 (List.mem_of_mem_take z), ?_⟩, s2.free hp0, fun a ha => hfr a (List.mem_of_mem_take ha)⟩
        have h := pr_take (i + 1) hM5.rows
        rwa [List.take_append_of_le_length (by omega), List.take_of_length_le (l := lev R (i + 1)) (by omega)] at h
def spMadeRowL (K : PySem.W.Frag) : Sp := fun vs H Q _ => ∃ (v w : V) (x a : List Rat) (B : Nat), vs = [v, w] ∧ RowS K H v x ∧ RowS K H w a ∧ x.length = a.length ∧ x.length ≤ 4 ∧ hbR B x ∧ hbR 31 a ∧ B ≤ 100000 ∧
  ∀ l H' r, Same H H' → H l = none → RowL K H' l r → r.length = x.length → hbR (4 * B + 256) r → Q (.ref l) H'
theorem sc_law_made_row : FnScope ["_law_row", "_law_by", "_law_told", "_law_column", "_law_number", "_law_place", "_law_share"] ["_law_row", "_law_by"] (defScope (top 70)) := ⟨rfl, rfl, rfl, by decide +kernel, rfl, by decide +kernel, by decide +kernel⟩
theorem ok_law_made_row {P : Program} {w : World} {K : PySem.W.Frag} {mg : Str → Option Value} {base : Heap} (T : Txt P K mg base) : Fd P w K mg base 43 "_law_made_row" ["_law_row", "_law_by"] (spMadeRowL K) := by
  have sc := sc_law_made_row
  refine mkFd T "_law_made_row" 70 (by decide) sc (fun vs H Q E h => ?_) (fun _ _ _ _ _ _ us hl => match us, hl with | [_, _], _ => rfl) (fun cdv A outer s H vs Q E hr h => ?_)
  · obtain ⟨_, _, x, a, B, rfl, ⟨px, ux, rfl, hpx, hux⟩, ⟨pa, ua, rfl, hpa, hua⟩, he, hl, bx, ba, hB, k⟩ := h
    rfl
  · obtain ⟨_, _, x, a, B, rfl, ⟨px, ux, rfl, hpx, hux⟩, ⟨pa, ua, rfl, hpa, hua⟩, he, hl, bx, ba, hB, k⟩ := h
    refine ⟨_, (pss_cons (ps_set (i := 2) sc.nd rfl (Or.inl rfl) (pe_lst pa_nil))
      (pss_cons (ps_for PassesOwn.never rfl (pi_range1 rfl T.range (pa_cons (pe_callB call_len rfl T.len boot_len (pa_cons (pv 0) pa_nil)) pa_nil)) (pg_name (i := 3) sc.nd rfl (Or.inl rfl)) (pss_cons (ps_set (i := 4) sc.nd rfl (Or.inl rfl) (pe_ix (r := rIx K) ix_seq (pv 0) (pv 3) (fun _ _ => rfl)))
      (pss_cons (ps_if (pt_cmpR (op_ne) (pe_ix (r := rIx K) ix_seq (pe_ix (r := rIx K) ix_seq (pv 1) (pv 3) (fun _ _ => rfl)) pe_int (fun _ _ => rfl)) pe_int (nomark _)) (pss_cons (ps_set (i := 4) sc.nd rfl (Or.inl rfl) (pe_tup (pa_cons pe_int (pa_cons pe_int pa_nil))))
      (pss_one (ps_for PassesOwn.never rfl (pi_range2 rfl T.range (pa_cons (pv 3) (pa_cons (pe_callB call_len rfl T.len boot_len (pa_cons (pv 0) pa_nil)) pa_nil))) (pg_name (i := 5) sc.nd rfl (Or.inl rfl)) (pss_one (ps_if (pt_cmpR (op_ne) (pe_ix (r := rIx K) ix_seq (pe_ix (r := rIx K) ix_seq (pv 1) (pv 5) (fun _ _ => rfl)) pe_int (fun _ _ => rfl)) pe_int (nomark _)) (pss_cons (ps_set (i := 6) sc.nd rfl (Or.inl rfl) (pe_cf (ok_law_over T) (hr.mono (by decide)) rfl (pa_cons (pe_ix (r := rIx K) ix_seq (pv 1) (pv 3) (fun _ _ => rfl)) (pa_cons (pe_ix (r := rIx K) ix_seq (pv 1) (pv 5) (fun _ _ => rfl)) pa_nil))))
      (pss_one (ps_set (i := 4) sc.nd rfl (Or.inl rfl) (pe_cf (ok_law_plus T) (hr.mono (by decide)) rfl (pa_cons (pv 4) (pa_cons (pe_cf (ok_law_times T) (hr.mono (by decide)) rfl (pa_cons (pv 6) (pa_cons (pe_ix (r := rIx K) ix_seq (pv 0) (pv 5) (fun _ _ => rfl)) pa_nil))) pa_nil)))))) pss_nil))))) pss_nil)
      (pss_one (ps_expr (pe_bm PySem.F.plainAttrs_list PySem.F.slot_list_append PySem.F.type_list_append mt_append (pv 2) (pa_cons (pv 4) pa_nil)))))))
      (pss_one (ps_ret (pv 2))))), ?_⟩
    have ex := pr_len hux
    have ea := pr_len hua
    refine ⟨Nat.zero_le _, fun l hl1 => ?_⟩
    have s0 : Same H (upd H l (.lst [])) := same_new hl1
    refine ⟨_, rfl, _, ux.length, rfl, lenS (sqS_mono s0 hpx), _, rfl, by omega, by omega, ?_⟩
    refine for_range (lo := 0) (n := ((ux.length : Nat) : Int).toNat) (fun i σ H' => Same H H' ∧ (∃ zs r, H' l = some (.lst zs) ∧ Paired (Num K (rem l H')) zs r ∧ r.length = i ∧ hbR (4 * B + 256) r) ∧ ∃ w3 w4 w5 w6, σ = [some (.ref px), some (.ref pa), some (.ref l), w3, w4, w5, w6])
      ⟨s0, ⟨[], [], upd_same, .nil, rfl, fun q hq => by cases hq⟩, _, _, _, _, rfl⟩ ?_ ?_
    · rintro i σ H3 hi ⟨s13, ⟨zs, r, hz3, nz3, lr, br⟩, w3, w4, w5, w6, rfl⟩
      have hi' : i < x.length := by omega
      obtain ⟨qx, hqx, hqx2⟩ := row_at (i := i) (nums_mono s13 hux) hi'
      obtain ⟨qa, hqa, hqa2⟩ := row_at (i := i) (nums_mono s13 hua) (by omega)
      have lz : zs.length < sizeLine := Evl.sz_lt (by rw [pr_len nz3]; omega)
      have fin : ∀ (y' : V) (H4 : Hp) (q : Rat), Same H3 H4 → Num K H4 y' q → hb (4 * B + 256) q →
          Same H (upd H4 l (.lst (zs ++ [y']))) ∧ (∃ zs' r', (upd H4 l (.lst (zs ++ [y']))) l = some (.lst zs') ∧ Paired (Num K (rem l (upd H4 l (.lst (zs ++ [y']))))) zs' r' ∧ r'.length = i + 1 ∧ hbR (4 * B + 256) r') := fun y' H4 q s4 m4 b4 => by
        refine ⟨same_mut (s13.trans s4) hl1, _, r ++ [q], upd_same, grown (s4 _ _ hz3) (nums_mono (rem_mono s4) nz3) m4, by simp [lr], fun z hz => ?_⟩
        rcases List.mem_append.mp hz with h | h
        · exact br z h
        · have : z = q := by simpa using h
          rw [this]
          exact b4
      refine ⟨_, rfl, _, rfl, ixS (i := i) (sqS_mono s13 hpx) (by omega) hqx ?_⟩
      refine ⟨_, rfl, _, rfl, ixS (i := i) (sqS_mono s13 hpa) (by omega) hqa (ix0 hqa2 ⟨rfl, _, rfl, ?_⟩)⟩
      by_cases h0 : a.getD i 0 = 0
      · refine iteNS (num_zero.mpr h0) ?_
        refine ⟨_, rfl, .inl ⟨rfl, _, SqL.of hz3⟩, _, rfl, l, zs, _, rfl, rfl, hz3, lz, ?_⟩
        obtain ⟨f1, f2⟩ := fin (.ref qx) H3 (x.getD i 0) (Same.refl _) (num1 hqx2) ((bx.at hi').mono (by omega))
        exact ⟨f1, f2, _, _, _, _, rfl⟩
      · refine iteNT (fun z => h0 (num_zero.mp z)) ?_
        refine ⟨by show 2 ≤ sizeLine; decide, fun t0 ht0 => ?_⟩
        have sA : Same H3 (upd H3 t0 (.tup [.int 0, .int 1])) := same_new ht0
        have nA : Num K (upd H3 t0 (.tup [.int 0, .int 1])) (.ref t0) 0 := num01 upd_same
        generalize upd H3 t0 (.tup [.int 0, .int 1]) = H4 at sA nA ⊢
        have s14 := s13.trans sA
        refine ⟨_, rfl, _, rfl, _, ux.length, rfl, lenS (sqS_mono s14 hpx), _, _, rfl, ⟨by omega, by omega, by omega, by omega⟩, ?_⟩
        refine for_range (lo := 0 + (i : Int)) (n := (((ux.length : Nat) : Int) - (0 + (i : Int))).toNat) (fun j σ H' => Same H4 H' ∧ ∃ wn q w5 w6, Num K H' wn q ∧ hb (1 + j * (B + 63)) q ∧ σ = [some (.ref px), some (.ref pa), some (.ref l), some (.int (0 + (i : Int))), some wn, w5, w6])
          ⟨Same.refl _, _, 0, _, _, nA, by rw [Nat.zero_mul]; exact hb_zero, rfl⟩ ?_ ?_
        · rintro j σ H5 hj ⟨s45, wn, q, w5, w6, nq, bq, rfl⟩
          have s15 := s14.trans s45
          have hij : i + j < x.length := by omega
          obtain ⟨qs, hqs, hqs2⟩ := row_at (i := i + j) (nums_mono s15 hua) (by omega)
          obtain ⟨qr, hqr, hqr2⟩ := row_at (i := i + j) (nums_mono s15 hux) hij
          have hm : j * (B + 63) ≤ 4 * (B + 63) := Nat.mul_le_mul_right _ (by omega)
          have hm2 : (j + 1) * (B + 63) = j * (B + 63) + (B + 63) := by rw [Nat.add_mul, Nat.one_mul]
          refine ⟨_, rfl, _, rfl, ixS (i := i + j) (sqS_mono s15 hpa) (by omega) hqs (ix0 hqs2 ⟨rfl, _, rfl, ?_⟩)⟩
          by_cases hq0 : a.getD (i + j) 0 = 0
          · refine iteNS (num_zero.mpr hq0) ⟨s45, wn, q, _, _, nq, bq.mono (by omega), rfl⟩
          · refine iteNT (fun z => hq0 (num_zero.mp z)) ?_
            refine ⟨_, rfl, _, rfl, ixS (i := i) (sqS_mono s15 hpa) (by omega) hqa ⟨_, rfl, _, rfl, ixS (i := i + j) (sqS_mono s15 hpa) (by omega) hqs ?_⟩⟩
            refine ⟨_, _, _, _, 31, 31, rfl, (num1 hqa2).mono (sA.trans s45), num1 hqs2, ba.at (by omega), ba.at (by omega), by decide, trivial, fun v6 H6 s6 m6 => ?_⟩
            obtain ⟨qr, hqr, hqr2⟩ := row_at (i := i + j) (nums_mono (s15.trans s6) hux) hij
            refine ⟨_, rfl, _, rfl, _, rfl, _, rfl, ixS (i := i + j) (sqS_mono (s15.trans s6) hpx) (by omega) hqr ?_⟩
            refine ⟨_, _, _, _, 62, B, rfl, m6, num1 hqr2, hb_div (ba.at (by omega)) (ba.at (by omega)), bx.at hij, by omega, trivial, fun v7 H7 s7 m7 => ?_⟩
            refine ⟨_, _, _, _, 1 + j * (B + 63), 62 + B, rfl, nq.mono (s6.trans s7), m7, bq, hb_mul (hb_div (ba.at (by omega)) (ba.at (by omega))) (bx.at hij), by omega, trivial, fun v8 H8 s8 m8 => ?_⟩
            exact ⟨s45.trans (s6.trans (s7.trans s8)), v8, _, _, _, m8, (hb_add bq (hb_mul (hb_div (ba.at (by omega)) (ba.at (by omega))) (bx.at hij))).mono (by omega), rfl⟩
        · rintro σ H5 ⟨s45, wn, q, w5, w6, nq, bq, rfl⟩
          have s35 := sA.trans s45
          have hm : (((ux.length : Nat) : Int) - (0 + (i : Int))).toNat * (B + 63) ≤ 4 * (B + 63) := Nat.mul_le_mul_right _ (by omega)
          refine ⟨_, rfl, .inl ⟨rfl, _, SqL.of (s35 _ _ hz3)⟩, _, rfl, l, zs, _, rfl, rfl, s35 _ _ hz3, lz, ?_⟩
          obtain ⟨f1, f2⟩ := fin wn H5 q s35 nq (bq.mono (by omega))
          exact ⟨f1, f2, _, _, _, _, rfl⟩
    · rintro σ H' ⟨s2, ⟨zs, r, hz, nz, lr, br⟩, w3, w4, w5, w6, rfl⟩
      exact ⟨_, rfl, k l H' r s2 hl1 ⟨zs, hz, nums_mono rem_same nz⟩ (by omega) br⟩
def bd : Nat → Nat
  | 0 => 31
  | k + 1 => 4 * bd k + 256
theorem bd_le : ∀ {i : Nat}, i ≤ 4 → bd i ≤ 30000
  | 0, _ => by decide
  | 1, _ => by decide
  | 2, _ => by decide
  | 3, _ => by decide
  | 4, _ => by decide
  | n + 5, h => by omega
theorem hbR_getD {b : Nat} {R : List (List Rat)} (h : hbT b R) (r : Nat) : hbR b (R.getD r []) := by
  rw [List.getD_eq_getElem?_getD]
  cases e : R[r]? with
  | none => exact fun q hq => by cases hq
  | some x => exact h x (List.mem_of_getElem? e)
theorem hbT_getD {b : Nat} {R : List (List Rat)} (h : ∀ r, hbR b (R.getD r [])) : hbT b R := fun x hx => by
  obtain ⟨i, hi⟩ := List.mem_iff_getElem?.mp hx
  have := h i
  rw [List.getD_eq_getElem?_getD, hi] at this
  exact this
def spMadeL (K : PySem.W.Frag) : Sp := fun vs H Q _ => ∃ (v : V) (n : Nat) (R : List (List Rat)), vs = [v] ∧ TabS K H v R ∧ Wide n R ∧ 0 < R.length ∧ R.length ≤ 5 ∧ n ≤ 4 ∧ hbT 31 R ∧
  ∀ v' H' R', Same H H' → NewM K H H' v' R' → R'.length = R.length → Wide n R' → hbT 30000 R' → Q v' H'
theorem set_wide {n : Nat} {R : List (List Rat)} {i : Nat} {r : List Rat} (w : Wide n R) (h : r.length = n) : Wide n (R.set i r) := fun z hz => by
  rcases List.mem_or_eq_of_mem_set hz with h1 | h1
  · exact w z h1
  · rw [h1, h]
theorem sc_law_made : FnScope ["_law_core", "_law_work", "_law_at", "_law_r"] ["_law_core"] (defScope (top 73)) := ⟨rfl, rfl, rfl, by decide +kernel, rfl, by decide +kernel, by decide +kernel⟩
theorem ok_law_made {P : Program} {w : World} {K : PySem.W.Frag} {mg : Str → Option Value} {base : Heap} (T : Txt P K mg base) : Fd P w K mg base 44 "_law_made" ["_law_core"] (spMadeL K) := by
  have sc := sc_law_made
  refine mkFd T "_law_made" 73 (by decide) sc (fun vs H Q E h => ?_) (fun _ _ _ _ _ _ us hl => match us, hl with | [_], _ => rfl) (fun cdv A outer s H vs Q E hr h => ?_)
  · obtain ⟨v, n, R, rfl, hv, hw, h0, hR, hn, hbt, k⟩ := h
    rfl
  · obtain ⟨v, n, R, rfl, hv, hw, h0, hR, hn, hbt, k⟩ := h
    refine ⟨_, (pss_cons (ps_set (i := 1) sc.nd rfl (Or.inl rfl) (pe_cf (ok_law_copy T) (hr.mono (by decide)) rfl (pa_cons (pv 0) pa_nil)))
      (pss_cons (ps_for PassesOwn.never rfl (pi_range2 rfl T.range (pa_cons pe_int (pa_cons (pe_callB call_len rfl T.len boot_len (pa_cons (pv 1) pa_nil)) pa_nil))) (pg_name (i := 2) sc.nd rfl (Or.inl rfl)) (pss_one (ps_for PassesOwn.never rfl (pi_range1 rfl T.range (pa_cons (pv 2) pa_nil)) (pg_name (i := 3) sc.nd rfl (Or.inl rfl)) (pss_one (ps_asg (pe_cf (ok_law_made_row T) (hr.mono (by decide)) rfl (pa_cons (pe_ix (r := rIx K) ix_seq (pv 1) (pv 3) (fun _ _ => rfl)) (pa_cons (pe_ix (r := rIx K) ix_seq (pv 1) (pv 2) (fun _ _ => rfl)) pa_nil))) (pg_sub (pv 1) (pv 3) set_list))))))
      (pss_one (ps_ret (pv 1))))), ?_⟩
    refine ⟨_, rfl, v, R, rfl, hv, by omega, fun v' H1 s1 hN => ?_⟩
    obtain ⟨L, ads0, rfl, hM0, hL0, hfr0⟩ := hN
    have hlen0 : (ads0.map V.ref).length = R.length := by rw [List.length_map, hM0.len]
    refine ⟨_, rfl, _, (ads0.map V.ref).length, rfl, .inl ⟨_, SqL.of hM0.out, rfl⟩, _, _, rfl, ⟨by omega, by omega, by omega, by omega⟩, ?_⟩
    refine for_range (lo := 1) (n := ((((ads0.map V.ref).length : Nat) : Int) - 1).toNat) (fun t σ H' => ∃ ads R', Same H H' ∧ Mat K H' L ads R' ∧ (∀ a ∈ ads, H a = none) ∧ R'.length = R.length ∧ Wide n R' ∧ (∀ r, hbR (bd t) (R'.getD r [])) ∧ (∀ r, t + 1 ≤ r → hbR 31 (R'.getD r [])) ∧ ∃ w0 w1, σ = [some v, some (.ref L), w0, w1])
      ⟨ads0, R, s1, hM0, hfr0, rfl, hw, hbR_getD hbt, fun r _ => hbR_getD hbt r, _, _, rfl⟩ ?_ ?_
    · rintro t σ H2 ht ⟨ads, X, s2, hM, hfr, hXl, hXw, hA, hC, w0, w1, rfl⟩
      have hbd : bd t ≤ 30000 := bd_le (by omega)
      have hbd2 : bd t ≤ bd (t + 1) := by
        show bd t ≤ 4 * bd t + 256
        omega
      refine ⟨_, rfl, _, rfl, by omega, by omega, ?_⟩
      refine for_range (lo := 0) (n := (1 + (t : Int)).toNat) (fun r σ H3 => ∃ ads' Y, Same H H3 ∧ Mat K H3 L ads' Y ∧ (∀ a ∈ ads', H a = none) ∧ Y.length = R.length ∧ Wide n Y ∧ (∀ j, hbR (bd (t + 1)) (Y.getD j [])) ∧ (∀ j, r ≤ j → hbR (bd t) (Y.getD j [])) ∧ (∀ j, t + 1 ≤ j → hbR 31 (Y.getD j [])) ∧ ∃ w1, σ = [some v, some (.ref L), some (.int (1 + (t : Int))), w1])
        ⟨ads, X, s2, hM, hfr, hXl, hXw, fun j => (hA j).mono hbd2, fun j _ => hA j, hC, _, rfl⟩ ?_ ?_
      · rintro r σ H3 hr3 ⟨ads', Y, s3, hM3, hfr3, hYl, hYw, hYA, hYB, hYC, w1, rfl⟩
        have hrt : r < t + 1 := by omega
        have ht2 : t + 1 < R.length := by omega
        obtain ⟨a1, us1, ha1, e1, n1⟩ := hM3.at (show r < Y.length by omega)
        obtain ⟨a2, us2, ha2, e2, n2⟩ := hM3.at (show t + 1 < Y.length by omega)
        have g1 : (ads'.map V.ref)[r]? = some (.ref a1) := by rw [List.getElem?_map, ha1]; rfl
        have g2 : (ads'.map V.ref)[t + 1]? = some (.ref a2) := by rw [List.getElem?_map, ha2]; rfl
        have x1 : (Y.getD r []).length = n := wide_at hYw (by omega)
        have x2 : (Y.getD (t + 1) []).length = n := wide_at hYw (by omega)
        refine ⟨_, rfl, _, rfl, ixS (i := r) (.inl (SqL.of hM3.out)) (by omega) g1 ⟨_, rfl, _, rfl, ixS (i := t + 1) (.inl (SqL.of hM3.out)) (by omega) g2 ?_⟩⟩
        refine ⟨_, _, _, _, bd t, rfl, ⟨a1, us1, rfl, .inl (SqL.of e1), n1⟩, ⟨a2, us2, rfl, .inl (SqL.of e2), n2⟩, by omega, by omega, hYB r (Nat.le_refl _), hYC (t + 1) (Nat.le_refl _), by omega, fun l H4 z s4 hl n4 lz bz => ?_⟩
        have hM4 := hM3.mono s4
        refine ⟨_, rfl, _, rfl, L, _, _, r, rfl, rfl, hM4.out, ixN_of (by omega) (by rw [List.length_map, hM3.len]; omega), ?_⟩
        obtain ⟨f1, f2⟩ := hM3.fresh hl
        refine ⟨ads'.set r l, Y.set r z, same_mut (s3.trans s4) hL0, hM4.setOut (by omega) f1 f2 n4, fun a ha => ?_, by rw [List.length_set, hYl], set_wide hYw (by omega), fun j => ?_, fun j hj => ?_, fun j hj => ?_, _, rfl⟩
        · rcases List.mem_or_eq_of_mem_set ha with h | h
          · exact hfr3 a h
          · rw [h]
            exact s3.free hl
        · by_cases hjr : r = j
          · subst hjr
            rw [row_eq _ (by omega)]
            exact bz
          · rw [row_ne _ hjr]
            exact hYA j
        · rw [row_ne _ (by omega)]
          exact hYB j (by omega)
        · rw [row_ne _ (by omega)]
          exact hYC j hj
      · rintro σ H3 ⟨ads', Y, s3, hM3, hfr3, hYl, hYw, hYA, hYB, hYC, w1, rfl⟩
        exact ⟨ads', Y, s3, hM3, hfr3, hYl, hYw, hYA, fun j hj => hYC j (by omega), _, _, rfl⟩
    · rintro σ H2 ⟨ads, X, s2, hM, hfr, hXl, hXw, hA, hC, w0, w1, rfl⟩
      exact ⟨_, rfl, k _ _ X s2 ⟨L, ads, rfl, hM, hL0, hfr⟩ hXl hXw ((hbT_getD hA).mono (bd_le (by omega)))⟩
def spTimesRowL (K : PySem.W.Frag) : Sp := fun vs H Q _ => ∃ (v w : V) (R : List (List Rat)) (i : Nat) (c : Rat), vs = [v, .int (i : Nat), w] ∧ TabS K H v R ∧ R.length ≤ 1000 ∧ i < R.length ∧ (R.getD i []).length ≤ 1000 ∧ Num K H w c ∧ hb 1000000 c ∧ hbR 60000000 (R.getD i []) ∧
  ∀ v' H', Same H H' → NewM K H H' v' (scR i c R) → Q v' H'
theorem sc_law_times_row : FnScope ["_law_rows", "_law_at", "_law_number", "_law_told", "_law_entry"] ["_law_rows", "_law_at", "_law_number"] (defScope (top 81)) := ⟨rfl, rfl, rfl, by decide +kernel, rfl, by decide +kernel, by decide +kernel⟩
theorem ok_law_times_row {P : Program} {w : World} {K : PySem.W.Frag} {mg : Str → Option Value} {base : Heap} (T : Txt P K mg base) : Fd P w K mg base 43 "_law_times_row" ["_law_rows", "_law_at", "_law_number"] (spTimesRowL K) := by
  have sc := sc_law_times_row
  refine mkFd T "_law_times_row" 81 (by decide) sc (fun vs H Q E h => ?_) (fun _ _ _ _ _ _ us hl => match us, hl with | [_, _, _], _ => rfl) (fun cdv A outer s H vs Q E hr h => ?_)
  · obtain ⟨_, w0, R, i, c, rfl, ⟨p, us, rfl, hs, hn⟩, hR, hi, hri, hc1, bc, bR, k⟩ := h
    rfl
  · obtain ⟨_, w0, R, i, c, rfl, ⟨p, us, rfl, hs, hn⟩, hR, hi, hri, hc1, bc, bR, k⟩ := h
    refine ⟨_, (pss_cons (ps_set (i := 3) sc.nd rfl (Or.inl rfl) (pe_cf (ok_law_copy T) (hr.mono (by decide)) rfl (pa_cons (pv 0) pa_nil)))
      (pss_cons (ps_asg (pe_lc (own := [("_law_entry", 4)]) (g := gName 4) rfl sc.nd (pi_seqK K rfl (pe_ix (r := rIx K) ix_seq (pv 0) (pv 1) (fun _ _ => rfl))) (blkOk_by (own := [("_law_entry", 4)]) (N := ["_law_rows", "_law_at", "_law_number", "_law_told", "_law_entry"]) (sc := defScope (top 81)) (by decide +kernel)) (fun _ _ _ _ _ => pg_name (i := 4) sc.nd rfl (Or.inl rfl)) (fun _ _ _ _ _ => pts_nil) (fun _ _ _ _ _ => (pe_cf (ok_law_times T) (hr.mono (by decide)) rfl (pa_cons (pv 2) (pa_cons (pv 4) pa_nil))))) (pg_sub (pv 3) (pv 1) set_list))
      (pss_one (ps_ret (pv 3))))), ?_⟩
    refine ⟨_, rfl, .ref p, R, rfl, ⟨p, us, rfl, hs, hn⟩, hR, fun v' H1 s1 hN => ?_⟩
    obtain ⟨L, ads, rfl, hM, hL0, hfr⟩ := hN
    obtain ⟨v1, hv1, p2, u2, rfl, hp2, hu2⟩ := rowS_of hn hi
    have e2 := pr_len hu2
    refine ⟨_, rfl, _, rfl, ixS (sqS_mono s1 hs) rfl hv1 ?_⟩
    refine ⟨p2, rfl, lc_mapS (sqS_mono s1 hp2) (by omega) (fun l v H => ∃ q, (R.getD i [])[l]? = some q ∧ Num K H v (c * q)) (fun i v H H' s ⟨r, a, b⟩ => ⟨r, a, b.mono s⟩) ?_ ?_⟩
    · intro D hD l y H4 hl s4 ⟨acc, hacc⟩ Qe kq
      have s14 : Same H H4 := s1.trans (s4.trans rem_same)
      obtain ⟨q, hq, nq⟩ := pr_getl hu2 hl
      refine ⟨rfl, _, rfl, _, rfl, _, _, _, _, 1000000, 60000000, rfl, hc1.mono s14, nq.mono s14, bc, bR q (List.mem_of_getElem? hq), by decide, trivial, fun v' H6 s6 n6 => ?_⟩
      exact kq v' H6 s6 ⟨q, hq, n6.rem (s6 _ _ hacc)⟩
    · intro D hD H5 ys s5 h5 hl5 hr5
      have s15 := s5.trans rem_same
      have hM5 := hM.mono s15
      obtain ⟨f1, f2⟩ := hM.fresh hD
      refine ⟨_, rfl, _, rfl, L, _, _, i, rfl, rfl, hM5.out, ixN_of rfl (by rw [List.length_map, hM.len]; exact hi), ?_⟩
      refine ⟨_, rfl, k _ _ (same_mut (s1.trans s15) hL0) ⟨L, ads.set i D, rfl, hM5.setOut hi f1 f2 ⟨ys, h5, pr_of (by unfold scl; rw [List.length_map, hl5, e2]) fun l y z h1 h2 => ?_⟩, hL0, fun a ha => ?_⟩⟩
      · obtain ⟨q, e1, e2⟩ := hr5 l y h1
        unfold scl at h2
        rw [List.getElem?_map, e1] at h2
        cases h2
        exact e2.mono rem_same
      · rcases List.mem_or_eq_of_mem_set ha with h | h
        · exact hfr a h
        · rw [h]
          exact s1.free hD
def spIsRows (K : PySem.W.Frag) : Sp := fun vs H Q _ => ∃ (v : V) (n m : Nat) (R : List (List Rat)) (b : Nat), vs = [v, .int (m : Nat), .int (n : Nat)] ∧ TabT K H v R ∧ R.length = m ∧ Wide n R ∧ hbT b R ∧ b ≤ 1000000000 ∧ ∀ H', Same H H' → Q (.bl true) H'
theorem sc_law_is_rows : FnScope ["_law_value", "_law_high", "_law_wide", "_law_row", "_law_number"] ["_law_value", "_law_high", "_law_wide"] (defScope (top 64)) := ⟨rfl, rfl, rfl, by decide +kernel, rfl, by decide +kernel, by decide +kernel⟩
theorem ok_law_is_rows {P : Program} {w : World} {K : PySem.W.Frag} {mg : Str → Option Value} {base : Heap} (T : Txt P K mg base) : Fd P w K mg base 43 "_law_is_rows" ["_law_value", "_law_high", "_law_wide"] (spIsRows K) := by
  have sc := sc_law_is_rows
  refine mkFd T "_law_is_rows" 64 (by decide) sc (fun vs H Q E h => ?_) (fun _ _ _ _ _ _ us hl => match us, hl with | [_, _, _], _ => rfl) (fun cdv A outer s H vs Q E hr h => ?_)
  · obtain ⟨_, n, m, R, b, rfl, ⟨p, us, rfl, hp, hn⟩, hm, hw, hb1, hb2, k⟩ := h
    rfl
  · obtain ⟨_, n, m, R, b, rfl, ⟨p, us, rfl, hp, hn⟩, hm, hw, hb1, hb2, k⟩ := h
    refine ⟨_, (pss_cons (ps_if (PW.pt (pw_or (pt_not (pt_val (pe_callB call_isi rfl T.isi boot_isinstance (pa_cons (pv 0) (pa_cons (pe_bltn (v := .ty "tuple") rfl T.tuple boot_tuple rfl) pa_nil))))) (pw_or1 (pt_cmpR (op_ne) (pe_callB call_len rfl T.len boot_len (pa_cons (pv 0) pa_nil)) (pv 1) (nomark _))))) (pss_one (ps_ret pe_bl)) pss_nil)
      (pss_cons (ps_for PassesOwn.never rfl (pi_seqK K rfl (pv 0)) (pg_name (i := 3) sc.nd rfl (Or.inl rfl)) (pss_cons (ps_if (PW.pt (pw_or (pt_not (pt_val (pe_callB call_isi rfl T.isi boot_isinstance (pa_cons (pv 3) (pa_cons (pe_bltn (v := .ty "tuple") rfl T.tuple boot_tuple rfl) pa_nil))))) (pw_or1 (pt_cmpR (op_ne) (pe_callB call_len rfl T.len boot_len (pa_cons (pv 3) pa_nil)) (pv 2) (nomark _))))) (pss_one (ps_ret pe_bl)) pss_nil)
      (pss_one (ps_for PassesOwn.never rfl (pi_seqK K rfl (pv 3)) (pg_name (i := 4) sc.nd rfl (Or.inl rfl)) (pss_one (ps_if (pt_not (pt_val (pe_cf (ok_law_is_number T) (hr.mono (by decide)) rfl (pa_cons (pv 4) pa_nil)))) (pss_one (ps_ret pe_bl)) pss_nil))))))
      (pss_one (ps_ret pe_bl)))), ?_⟩
    have e := pr_len hn
    refine ⟨_, rfl, _, _, _, _, true, rfl, .ty "tuple", tyx_tup hp, kit_b _ _ _ (by decide +kernel), true, rfl, iteF ?_⟩
    refine ⟨_, rfl, _, us.length, rfl, .inr ⟨_, hp, rfl⟩, _, rfl, rfl, _, rfl, iteNS (by rw [e, hm]) ?_⟩
    refine ⟨_, rfl, p, rfl, .inr ⟨⟨_, hp⟩, ?_⟩⟩
    refine for_tup (K := K) (a := p) (xs := us) (fun i σ H' => Same H H' ∧ ∃ w1 w2, σ = [some (.ref p), some (.int (m : Nat)), some (.int (n : Nat)), w1, w2]) ⟨Same.refl _, _, _, rfl⟩ (fun i σ H' _ z => sqT_mono z.1 hp) ?_ ?_
    · rintro i x σ H' hi ⟨s1, w1, w2, rfl⟩
      obtain ⟨r, hr', rx⟩ := pr_getl hn hi
      obtain ⟨p2, u2, rfl, hp2, hu2⟩ := rx.mono s1
      have e2 := pr_len hu2
      have wr := hw r (List.mem_of_getElem? hr')
      refine ⟨_, rfl, _, _, _, _, true, rfl, .ty "tuple", tyx_tup hp2, kit_b _ _ _ (by decide +kernel), true, rfl, iteF ?_⟩
      refine ⟨_, rfl, _, u2.length, rfl, .inr ⟨_, hp2, rfl⟩, _, rfl, rfl, _, rfl, iteNS (by rw [e2, wr]) ?_⟩
      refine ⟨_, rfl, p2, rfl, .inr ⟨⟨_, hp2⟩, ?_⟩⟩
      refine for_tup (K := K) (a := p2) (xs := u2) (fun j σ H3 => Same H' H3 ∧ ∃ w2, σ = [some (.ref p), some (.int (m : Nat)), some (.int (n : Nat)), some (.ref p2), w2]) ⟨Same.refl _, _, rfl⟩ (fun i σ H' _ z => sqT_mono z.1 hp2) ?_ ?_
      · rintro j y σ H3 hj ⟨s2, w2, rfl⟩
        obtain ⟨q, hq, nq⟩ := pr_getl hu2 hj
        exact ⟨_, rfl, y, q, b, rfl, nq.mono s2, hb1 r (List.mem_of_getElem? hr') q (List.mem_of_getElem? hq), hb2, fun H4 s4 => ⟨true, rfl, iteF ⟨s2.trans s4, _, rfl⟩⟩⟩
      · rintro σ H3 ⟨s2, w2, rfl⟩
        exact ⟨s1.trans s2, _, _, rfl⟩
    · rintro σ H' ⟨s1, w1, w2, rfl⟩
      exact k H' s1
def spSame (K : PySem.W.Frag) : Sp := fun vs H Q _ => ∃ (v w : V) (n : Nat) (R : List (List Rat)) (b : Nat), vs = [v, w] ∧ Tbl K H v n R ∧ TabS K H w R ∧ hbT b R ∧ b ≤ 1000000000 ∧ ∀ H', Same H H' → Q (.bl true) H'
theorem q_both {Q : VK} {H : Hp} {b : Bool} (e : b = true) (k : Q (.bl true) H) : Q (.bl b) H := e ▸ k
theorem sc_law_same : FnScope ["_law_told", "_law_due"] ["_law_told", "_law_due"] (defScope (top 77)) := ⟨rfl, rfl, rfl, by decide +kernel, rfl, by decide +kernel, by decide +kernel⟩
theorem ok_law_same {P : Program} {w : World} {K : PySem.W.Frag} {mg : Str → Option Value} {base : Heap} (T : Txt P K mg base) : Fd P w K mg base 44 "_law_same" ["_law_told", "_law_due"] (spSame K) := by
  have sc := sc_law_same
  refine mkFd T "_law_same" 77 (by decide) sc (fun vs H Q E h => ?_) (fun _ _ _ _ _ _ us hl => match us, hl with | [_, _], _ => rfl) (fun cdv A outer s H vs Q E hr h => ?_)
  · obtain ⟨_, _, n, R, b, rfl, ⟨⟨p, dx, rv, rfl, hp, ht⟩, hw, h0, h12, hn0, hn12⟩, ⟨p2, us, rfl, hs, hn⟩, hb1, hb2, k⟩ := h
    rfl
  · obtain ⟨_, _, n, R, b, rfl, ⟨⟨p, dx, rv, rfl, hp, ht⟩, hw, h0, h12, hn0, hn12⟩, ⟨p2, us, rfl, hs, hn⟩, hb1, hb2, k⟩ := h
    refine ⟨_, (pss_cons (ps_if (PW.pt (pw_or (pt_not (pt_val (pe_callB call_isi rfl T.isi boot_isinstance (pa_cons (pv 0) (pa_cons (pe_glob (v := .ref (cTab K)) rfl T.tab rfl) pa_nil))))) (pw_or1 (pt_not (pt_val (pe_cf (ok_law_is_rows T) (hr.mono (by decide)) rfl (pa_cons (pe_fld (pv 0) rfl) (pa_cons (pe_callB call_len rfl T.len boot_len (pa_cons (pv 1) pa_nil)) (pa_cons (pe_callB call_len rfl T.len boot_len (pa_cons (pe_ix (r := rIx K) ix_seq (pv 1) pe_int (fun _ _ => rfl)) pa_nil)) pa_nil))))))))) (pss_one (ps_ret pe_bl)) pss_nil)
      (pss_one (ps_ret (pe_and (pe_cmpR (op_eqD (units_of hr)) (pe_fld (pv 0) rfl) (pe_cf (ok_law_fixed T) (hr.mono (by decide)) rfl (pa_cons (pv 1) pa_nil)) (nomark _)) (pe_and (pe_cmpR (op_eq) (pe_fld (pv 0) rfl) (pe_callB call_len rfl T.len boot_len (pa_cons (pv 1) pa_nil)) (nomark _)) (pe_one (pe_cmpR (op_eq) (pe_fld (pv 0) rfl) (pe_callB call_len rfl T.len boot_len (pa_cons (pe_ix (r := rIx K) ix_seq (pv 1) pe_int (fun _ _ => rfl)) pa_nil)) (nomark _)))))))), ?_⟩
    have e := pr_len hn
    obtain ⟨v0, hv0, p0, u0, rfl, hp0, hu0⟩ := rowS_of hn h0
    have l0 := pr_len hu0
    rw [wide_at hw h0] at l0
    refine ⟨_, rfl, _, _, _, _, true, rfl, .own _, .base (.ins hp T.cl T.ic T.ig T.it T.im), by unfold PySem.W.kitOne; rw [if_pos (by simp)], true, rfl, iteF ?_⟩
    refine ⟨_, rfl, p, _, dx, _, _, rfl, hp, T.cl, T.nR, tf_rows _ _ _, _, rfl, _, us.length, rfl, lenS hs, _, rfl, ixS (i := 0) hs rfl hv0 ⟨_, u0.length, rfl, lenS hp0, ?_⟩⟩
    refine ⟨_, u0.length, us.length, R, b, rfl, ht, e.symm, by rw [l0]; exact hw, hb1, hb2, fun H1 s1 => ⟨true, rfl, iteF ?_⟩⟩
    refine ⟨_, rfl, p, _, dx, _, _, rfl, s1 _ _ hp, T.cl, T.nR, tf_rows _ _ _, ?_⟩
    refine ⟨_, rfl, _, R, rfl, ⟨p2, us, rfl, sqS_mono s1 hs, rowSs_mono s1 hn⟩, by omega, fun v' H2 s2 t2 => ?_⟩
    refine eq_tab (ht.mono (s1.trans s2)) t2 ⟨true, rfl, iteT ?_⟩
    have s12 := s1.trans s2
    refine ⟨_, rfl, p, _, dx, _, _, rfl, s12 _ _ hp, T.cl, T.nH, tf_high _ _ _, _, rfl, _, us.length, rfl, lenS (sqS_mono s12 hs), rfl, _, rfl, ?_⟩
    refine iteD (by rw [e]) ?_
    refine ⟨_, rfl, p, _, dx, _, _, rfl, s12 _ _ hp, T.cl, T.nW, tf_wide _ _ _, _, rfl, ixS (i := 0) (sqS_mono s12 hs) rfl hv0 ⟨_, u0.length, rfl, lenS (sqS_mono s12 hp0), rfl, ?_⟩⟩
    exact q_both (decide_eq_true (by rw [l0])) (k H2 s12)
end MU
namespace MU
open PySem PySem.Spec PyProof.Rows L2 He MM
theorem tbl_wide {K : PySem.W.Frag} {H : Hp} {v : V} {n : Nat} {R : List (List Rat)} (h : Tbl K H v n R) : Wide n R := h.2.1
theorem getD_mem {R : List (List Rat)} {i : Nat} (h : i < R.length) : R.getD i [] ∈ R := by
  rw [List.getD_eq_getElem?_getD, List.getElem?_eq_getElem h]
  exact List.getElem_mem _
theorem lev_one' {R : List (List Rat)} (h : 0 < R.length) : lev R 1 = [(core R).getD 0 []] := by
  have h1 := lev_succ h
  rw [List.take_zero, List.nil_append] at h1
  rw [h1, List.getD_eq_getElem?_getD, List.getElem?_eq_getElem (by rw [core_length]; exact h)]
  rfl
def spUp (K : PySem.W.Frag) : Sp := fun vs H Q _ => ∃ (t r c : V) (n : Nat) (R : List (List Rat)), vs = [t, r, c] ∧ Tbl K H t n R ∧ TabS K H r R ∧ TabS K H c (core R) ∧ hbT 10000000 R ∧ okU 10000000 R ∧ ∀ H', Same H H' → Q (.bl true) H'
theorem sc_law_upward : FnScope ["_law_table", "_law_rows", "_law_core", "_law_work", "_law_at"] ["_law_table", "_law_rows", "_law_core"] (defScope (top 78)) := ⟨rfl, rfl, rfl, by decide +kernel, rfl, by decide +kernel, by decide +kernel⟩
theorem ok_law_upward {P : Program} {w : World} {K : PySem.W.Frag} {mg : Str → Option Value} {base : Heap} (T : Txt P K mg base) : Fd P w K mg base 47 "_law_upward" ["_law_table", "_law_rows", "_law_core"] (spUp K) := by
  have sc := sc_law_upward
  refine mkFd T "_law_upward" 78 (by decide) sc (fun vs H Q E h => ?_) (fun _ _ _ _ _ _ us hl => match us, hl with | [_, _, _], _ => rfl) (fun cdv A outer s H vs Q E hr h => ?_)
  · obtain ⟨t, r, c, n, R, rfl, ht, hr1, ⟨pc, uc, rfl, hpc, huc⟩, hb1, hok, k⟩ := h
    rfl
  · obtain ⟨t, r, c, n, R, rfl, ht, hr1, ⟨pc, uc, rfl, hpc, huc⟩, hb1, hok, k⟩ := h
    refine ⟨_, (pss_cons (ps_set (i := 3) sc.nd rfl (Or.inl rfl) (pe_ct (ok_m_init T) T (hr.mono (by decide)) rfl (pa_cons (pe_lst (pa_cons (pe_ix (r := rIx K) ix_seq (pv 2) pe_int (fun _ _ => rfl)) pa_nil)) pa_nil)))
      (pss_cons (ps_for PassesOwn.never rfl (pi_range1 rfl T.range (pa_cons (pe_callB call_len rfl T.len boot_len (pa_cons (pv 1) pa_nil)) pa_nil)) (pg_name (i := 4) sc.nd rfl (Or.inl rfl)) (pss_cons (ps_if (pt_cmpR (op_gt) (pv 4) pe_int (nomark _)) (pss_one (ps_set (i := 3) sc.nd rfl (Or.inl rfl) (pe_cf (ok_put_under T) (hr.mono (by decide)) rfl (pa_cons (pv 3) (pa_cons (pe_cf (ok_core_row T) (hr.mono (by decide)) rfl (pa_cons (pv 0) (pa_cons (pv 4) pa_nil))) pa_nil))))) pss_nil)
      (pss_one (ps_if (PW.pt (pw_or (pt_not (pt_val (pe_cf (ok_law_same T) (hr.mono (by decide)) rfl (pa_cons (pv 3) (pa_cons (pe_cf (ok_law_level T) (hr.mono (by decide)) rfl (pa_cons (pv 1) (pa_cons (pv 4) pa_nil))) pa_nil))))) (pw_or1 (pt_not (pt_cmpR (op_eqTab (ok_m_eq T) (hr.mono (by decide))) (pv 3) (pe_cf (ok_level T) (hr.mono (by decide)) rfl (pa_cons (pv 0) (pa_cons (pv 4) pa_nil))) (nomark _)))))) (pss_one (ps_ret pe_bl)) pss_nil))))
      (pss_one (ps_ret (pe_cmpR (op_eqTab (ok_m_eq T) (hr.mono (by decide))) (pv 3) (pv 0) (nomark _)))))), ?_⟩
    have hw := tbl_wide ht
    obtain ⟨hw', h0, h12, hn0, hn12⟩ := ht.2
    obtain ⟨pr, ur, er, hpr, hur⟩ := id hr1
    have e1 := pr_len hur
    obtain ⟨v0, hv0, r0⟩ := rowS_of huc (show 0 < (core R).length by rw [core_length]; exact h0)
    refine ⟨_, rfl, ixS (i := 0) hpc rfl hv0 ⟨by show 1 ≤ sizeLine; decide, fun l hl => ?_⟩⟩
    have s1 := same_new (o := .lst [v0]) hl
    refine tab_mk (n := n) (R := lev R 1) ⟨l, _, rfl, .inl (SqL.of upd_same), by rw [lev_one' h0]; exact .cons (r0.mono s1) .nil⟩ (lev_wide hw _) (by rw [lev_length (by omega)]; decide) (by rw [lev_length (by omega)]; decide) hn0 hn12 (fun x H1 s2 t1 => ⟨rfl, ?_⟩)
    have s12 := s1.trans s2
    refine ⟨_, rfl, _, ur.length, by rw [er] <;> rfl, lenS (sqS_mono s12 hpr), _, rfl, by omega, by omega, ?_⟩
    refine for_range (lo := 0) (n := ((ur.length : Nat) : Int).toNat) (fun i σ H' => Same H H' ∧ ∃ w w4, Tbl K H' w n (lev R (max i 1)) ∧ σ = [some t, some r, some (.ref pc), some w, w4])
      ⟨s12, _, _, t1, rfl⟩ ?_ ?_
    · rintro i σ H2 hi ⟨s3, w, w4, tw, rfl⟩
      have e0 : (0 : Int) + (i : Nat) = (i : Int) := by omega
      rw [e0]
      have hiR : i < R.length := by omega
      have tail : ∀ (w : V) (H3 : Hp), Same H H3 → Tbl K H3 w n (lev R (max (i + 1) 1)) → (fun σ H' => Same H H' ∧ ∃ w w4, Tbl K H' w n (lev R (max (i + 1) 1)) ∧ σ = [some t, some r, some (.ref pc), some w, w4]) [some t, some r, some (.ref pc), some w, some (.int (i : Int))] H3 := fun w H3 s t => ⟨s, w, _, t, rfl⟩
      have emax : max (i + 1) 1 = i + 1 := by omega
      rw [emax] at tail
      rw [emax]
      refine ⟨_, rfl, _, _, rfl, rfl, _, rfl, ?_⟩
      by_cases hi0 : i = 0
      · subst hi0
        refine iteDN (by decide) ?_
        refine ⟨_, rfl, _, rfl, _, rfl, r, n, R, 0, rfl, hr1.mono s3, hw, hiR, by omega, by omega, hok, fun vl H3 s4 nl => ?_⟩
        refine ⟨w, vl, n, lev R 1, 4 * 10000000 + 1, rfl, tw.mono s4, nl.tab, lev_any hb1 hok (by decide) (by omega), by decide, fun H4 s5 => ⟨true, rfl, iteF ?_⟩⟩
        refine ⟨_, rfl, _, rfl, _, rfl, t, n, 0, R, rfl, ht.mono (s3.trans (s4.trans s5)), hiR, hok, fun v5 H5 s6 t5 => ?_⟩
        refine eq_tbl (tw.mono (s4.trans (s5.trans s6))) t5 fun H6 s7 => ⟨_, rfl, iteF ?_⟩
        have s36 := s4.trans (s5.trans (s6.trans s7))
        exact tail w H6 (s3.trans s36) (tw.mono s36)
      · refine iteD (by omega) ?_
        obtain ⟨S, a, eS, lS, ea, eR⟩ := lev_split hiR
        have hai : (core R).getD i [] = a := by
          rw [List.getD_eq_getElem?_getD, List.getElem?_eq_getElem (by rw [core_length]; exact hiR), ea]
          rfl
        have em : max i 1 = i := by omega
        rw [em, ← eR] at tw
        have hwS : Wide n (S ++ [a]) := by
          rw [← eS]
          exact lev_wide hw _
        refine ⟨_, rfl, _, rfl, _, rfl, t, n, i, R, rfl, ht.mono s3, hiR, hok, fun vr H3 s4 nr => ?_⟩
        rw [hai] at nr
        refine ⟨w, vr, n, S, a, rfl, tw.mono s4, nr.s, hwS, by omega, by rw [← eS]; exact hok (i + 1) (by omega) hiR, fun w' H4 s5 tw' => ?_⟩
        rw [← eS] at tw'
        have s35 := s3.trans (s4.trans s5)
        refine ⟨_, rfl, _, rfl, _, rfl, r, n, R, i, rfl, hr1.mono s35, hw, hiR, by omega, by omega, hok, fun vl H5 s6 nl => ?_⟩
        refine ⟨w', vl, n, lev R (i + 1), 4 * 10000000 + 1, rfl, tw'.mono s6, nl.tab, lev_any hb1 hok (by omega) (by omega), by decide, fun H6 s7 => ⟨true, rfl, iteF ?_⟩⟩
        refine ⟨_, rfl, _, rfl, _, rfl, t, n, i, R, rfl, ht.mono (s35.trans (s6.trans s7)), hiR, hok, fun v5 H7 s8 t5 => ?_⟩
        refine eq_tbl (tw'.mono (s6.trans (s7.trans s8))) t5 fun H8 s9 => ⟨_, rfl, iteF ?_⟩
        have s48 := s6.trans (s7.trans (s8.trans s9))
        exact tail w' H8 (s35.trans s48) (tw'.mono s48)
    · rintro σ H2 ⟨s3, w, w4, tw, rfl⟩
      rw [show max ((ur.length : Nat) : Int).toNat 1 = R.length by omega, lev_all] at tw
      exact ⟨_, rfl, _, rfl, eq_tbl tw (ht.mono s3) fun H3 s4 => k H3 (s3.trans s4)⟩
def spDown (K : PySem.W.Frag) : Sp := fun vs H Q _ => ∃ (t c : V) (n : Nat) (R : List (List Rat)), vs = [t, c] ∧ Tbl K H t n R ∧ TabS K H c (core R) ∧ hbT 10000000 R ∧ okU 10000000 R ∧ ∀ H', Same H H' → Q (.bl true) H'
theorem tup_row {K : PySem.W.Frag} {H : Hp} {v : V} {r : List Rat} {Q : VK} (h : RowS K H v r) (k : ∀ v' H', Same H H' → RowT K H' v' r → Q v' H') : rTupOf K [v] H Q := by
  obtain ⟨p, us, rfl, hs, hn⟩ := h
  refine ⟨p, us, rfl, ?_⟩
  rcases hs with hs | hs
  · exact .inl ⟨hs, fun l hl => k _ _ (same_new hl) ⟨l, us, rfl, SqT.of upd_same, nums_mono (same_new hl) hn⟩⟩
  · exact .inr ⟨hs, k _ _ (Same.refl _) ⟨p, us, rfl, hs, hn⟩⟩
theorem sc_law_downward : FnScope ["_law_table", "_law_core", "_law_work", "_law_turn", "_law_told"] ["_law_table", "_law_core"] (defScope (top 79)) := ⟨rfl, rfl, rfl, by decide +kernel, rfl, by decide +kernel, by decide +kernel⟩
theorem ok_law_downward {P : Program} {w : World} {K : PySem.W.Frag} {mg : Str → Option Value} {base : Heap} (T : Txt P K mg base) : Fd P w K mg base 46 "_law_downward" ["_law_table", "_law_core"] (spDown K) := by
  have sc := sc_law_downward
  refine mkFd T "_law_downward" 79 (by decide) sc (fun vs H Q E h => ?_) (fun _ _ _ _ _ _ us hl => match us, hl with | [_, _], _ => rfl) (fun cdv A outer s H vs Q E hr h => ?_)
  · obtain ⟨t, _, n, R, rfl, ht, ⟨pc, uc, rfl, hpc, huc⟩, hb1, hok, k⟩ := h
    rfl
  · obtain ⟨t, _, n, R, rfl, ht, ⟨pc, uc, rfl, hpc, huc⟩, hb1, hok, k⟩ := h
    refine ⟨_, (pss_cons (ps_set (i := 2) sc.nd rfl (Or.inl rfl) (pv 0))
      (pss_cons (ps_for PassesOwn.never rfl (pi_range1 rfl T.range (pa_cons (pe_op (op_sub) (pe_callB call_len rfl T.len boot_len (pa_cons (pv 1) pa_nil)) pe_int) pa_nil)) (pg_name (i := 3) sc.nd rfl (Or.inl rfl)) (pss_cons (ps_set (i := 4) sc.nd rfl (Or.inl rfl) (pe_cf (ok_last_round T) (hr.mono (by decide)) rfl (pa_cons (pv 2) pa_nil)))
      (pss_cons (ps_if (PW.pt (pw_or (pt_not (pt_val (pe_callB call_isi rfl T.isi boot_isinstance (pa_cons (pv 4) (pa_cons (pe_bltn (v := .ty "tuple") rfl T.tuple boot_tuple rfl) pa_nil))))) (pw_or (pt_cmpR (op_ne) (pe_callB call_len rfl T.len boot_len (pa_cons (pv 4) pa_nil)) pe_int (nomark _)) (pw_or1 (pt_cmpR (op_neD (units_of hr)) (pe_ix (r := rIx K) ix_seq (pv 4) pe_int (fun _ _ => rfl)) (pe_callTy (r := (rTupOf K)) call_tuple_of rfl T.tuple boot_tuple (pa_cons (pe_ix (r := rIx K) ix_seq (pv 1) (pe_op (op_sub) (pe_op (op_sub) (pe_callB call_len rfl T.len boot_len (pa_cons (pv 1) pa_nil)) pe_int) (pv 3)) (fun _ _ => rfl)) pa_nil)) (nomark _)))))) (pss_one (ps_ret pe_bl)) pss_nil)
      (pss_one (ps_set (i := 2) sc.nd rfl (Or.inl rfl) (pe_ix (r := rIx K) ix_seq (pv 4) pe_int (fun _ _ => rfl)))))))
      (pss_one (ps_ret (pe_cf (ok_law_same T) (hr.mono (by decide)) rfl (pa_cons (pv 2) (pa_cons (pe_lst (pa_cons (pe_ix (r := rIx K) ix_seq (pv 1) pe_int (fun _ _ => rfl)) pa_nil)) pa_nil))))))), ?_⟩
    have hw := tbl_wide ht
    obtain ⟨hw', h0, h12, hn0, hn12⟩ := ht.2
    have e1 := pr_len huc
    rw [core_length] at e1
    refine ⟨_, rfl, _, rfl, _, uc.length, rfl, lenS hpc, _, _, rfl, rfl, _, rfl, by omega, by omega, ?_⟩
    refine for_range (lo := 0) (n := (((uc.length : Nat) : Int) - 1).toNat) (fun i σ H' => Same H H' ∧ ∃ w w3 w4, Tbl K H' w n (lev R (R.length - i)) ∧ σ = [some t, some (.ref pc), some w, w3, w4])
      ⟨Same.refl _, _, _, _, by rw [Nat.sub_zero, lev_all]; exact ht, rfl⟩ ?_ ?_
    · rintro i σ H2 hi ⟨s1, w, w3, w4, tw, rfl⟩
      obtain ⟨u, hu⟩ : ∃ u, u + i + 1 = R.length := ⟨R.length - i - 1, by omega⟩
      obtain ⟨S, a, eS, lS, ea, eR⟩ := lev_split (show u < R.length by omega)
      rw [show R.length - i = u + 1 by omega, eS] at tw
      rw [show R.length - (i + 1) = u by omega, ← eR]
      have hai : (core R).getD u [] = a := by
        rw [List.getD_eq_getElem?_getD, List.getElem?_eq_getElem (by rw [core_length]; omega), ea]
        rfl
      refine ⟨_, rfl, w, n, S, a, rfl, tw, fun z => by rw [z] at lS; simp at lS; omega, by rw [← eS]; exact hok (u + 1) (by omega) (by omega), fun p v' w' H3 s2 hp tS ra => ?_⟩
      refine ⟨_, rfl, _, _, _, _, true, rfl, .ty "tuple", tyx_tup (SqT.of hp), kit_b _ _ _ (by decide +kernel), true, rfl, iteF ?_⟩
      refine ⟨_, rfl, _, 2, rfl, .inr ⟨_, SqT.of hp, rfl⟩, rfl, _, rfl, iteNS rfl ?_⟩
      have s13 := s1.trans s2
      obtain ⟨vu, hvu, ru⟩ := rowS_of huc (show u < (core R).length by rw [core_length]; omega)
      rw [hai] at ru
      refine ⟨_, rfl, ixS (i := 1) (.inr (SqT.of hp)) rfl rfl ?_⟩
      refine ⟨_, rfl, _, rfl, _, uc.length, rfl, lenS (sqS_mono s13 hpc), _, _, rfl, rfl, _, rfl, _, _, rfl, rfl, ixS (i := u) (sqS_mono s13 hpc) (by omega) hvu ?_⟩
      show rTupOf K [vu] H3 (fun y H2 => rNeD K w' y H2 _)
      refine tup_row (ru.mono s13) fun v5 H5 s5 n5 => ?_
      refine ne_row (ra.mono s5) n5 ⟨_, rfl, iteF ?_⟩
      refine ⟨_, rfl, ixS (i := 0) (.inr (SqT.of (s5 _ _ hp))) rfl rfl ?_⟩
      exact ⟨s13.trans s5, v', _, _, tS.mono s5, rfl⟩
    · rintro σ H2 ⟨s1, w, w3, w4, tw, rfl⟩
      rw [show R.length - (((uc.length : Nat) : Int) - 1).toNat = 1 by omega] at tw
      obtain ⟨v0, hv0, r0⟩ := rowS_of huc (show 0 < (core R).length by rw [core_length]; exact h0)
      refine ⟨_, rfl, _, rfl, ixS (i := 0) (sqS_mono s1 hpc) rfl hv0 ⟨by show 1 ≤ sizeLine; decide, fun l hl => ?_⟩⟩
      have s3 := same_new (o := .lst [v0]) hl
      refine ⟨w, .ref l, n, lev R 1, 4 * 10000000 + 1, rfl, tw.mono s3, ⟨l, _, rfl, .inl (SqL.of upd_same), by rw [lev_one' h0]; exact .cons ((r0.mono s1).mono s3) .nil⟩, lev_any hb1 hok (by decide) (by omega), by decide, fun H4 s4 => k H4 (s1.trans (s3.trans s4))⟩
def spEntries (K : PySem.W.Frag) : Sp := fun vs H Q _ => ∃ (t r : V) (n : Nat) (R : List (List Rat)), vs = [t, r] ∧ Tbl K H t n (core R) ∧ TabS K H r R ∧ Wide n R ∧ okU 10000000 R ∧ ∀ H', Same H H' → Q (.bl true) H'
theorem sc_law_entries : FnScope ["_law_told", "_law_rows", "_law_r", "_law_c"] ["_law_told", "_law_rows"] (defScope (top 80)) := ⟨rfl, rfl, rfl, by decide +kernel, rfl, by decide +kernel, by decide +kernel⟩
theorem ok_law_entries {P : Program} {w : World} {K : PySem.W.Frag} {mg : Str → Option Value} {base : Heap} (T : Txt P K mg base) : Fd P w K mg base 45 "_law_entries" ["_law_told", "_law_rows"] (spEntries K) := by
  have sc := sc_law_entries
  refine mkFd T "_law_entries" 80 (by decide) sc (fun vs H Q E h => ?_) (fun _ _ _ _ _ _ us hl => match us, hl with | [_, _], _ => rfl) (fun cdv A outer s H vs Q E hr h => ?_)
  · obtain ⟨t, _, n, R, rfl, ht, ⟨p, us, rfl, hp, hus⟩, hw, hok, k⟩ := h
    rfl
  · obtain ⟨t, _, n, R, rfl, ht, ⟨p, us, rfl, hp, hus⟩, hw, hok, k⟩ := h
    refine ⟨_, (pss_cons (ps_for PassesOwn.never rfl (pi_range1 rfl T.range (pa_cons (pe_callB call_len rfl T.len boot_len (pa_cons (pv 1) pa_nil)) pa_nil)) (pg_name (i := 2) sc.nd rfl (Or.inl rfl)) (pss_one (ps_for PassesOwn.never rfl (pi_range1 rfl T.range (pa_cons (pe_callB call_len rfl T.len boot_len (pa_cons (pe_ix (r := rIx K) ix_seq (pv 1) pe_int (fun _ _ => rfl)) pa_nil)) pa_nil)) (pg_name (i := 3) sc.nd rfl (Or.inl rfl)) (pss_one (ps_if (pt_cmpR (op_neD (units_of hr)) (pe_cf (ok_entry_of T) (hr.mono (by decide)) rfl (pa_cons (pv 0) (pa_cons (pv 2) (pa_cons (pv 3) pa_nil)))) (pe_ix (r := rIx K) ix_seq (pe_ix (r := rIx K) ix_seq (pv 1) (pv 2) (fun _ _ => rfl)) (pv 3) (fun _ _ => rfl)) (nomark _)) (pss_one (ps_ret pe_bl)) pss_nil)))))
      (pss_one (ps_ret pe_bl))), ?_⟩
    obtain ⟨hw', h0, h12, hn0, hn12⟩ := ht.2
    rw [core_length] at h0 h12
    have e1 := pr_len hus
    obtain ⟨v0, hv0, p0, u0, rfl, hp0, hu0⟩ := rowS_of hus h0
    have l0 := pr_len hu0
    rw [wide_at hw h0] at l0
    refine ⟨_, rfl, _, us.length, rfl, lenS hp, _, rfl, by omega, by omega, ?_⟩
    refine for_range (lo := 0) (n := ((us.length : Nat) : Int).toNat) (fun i σ H' => Same H H' ∧ ∃ w2 w3, σ = [some t, some (.ref p), w2, w3]) ⟨Same.refl _, _, _, rfl⟩ ?_ ?_
    · rintro i σ H1 hi ⟨s1, w2, w3, rfl⟩
      have e0 : (0 : Int) + (i : Nat) = (i : Int) := by omega
      rw [e0]
      refine ⟨_, rfl, ixS (i := 0) (sqS_mono s1 hp) rfl hv0 ⟨_, u0.length, rfl, lenS (sqS_mono s1 hp0), _, rfl, by omega, by omega, ?_⟩⟩
      refine for_range (lo := 0) (n := ((u0.length : Nat) : Int).toNat) (fun j σ H' => Same H H' ∧ ∃ w3, σ = [some t, some (.ref p), some (.int (i : Int)), w3]) ⟨s1, _, rfl⟩ ?_ ?_
      · rintro j σ H2 hj ⟨s2, w3, rfl⟩
        have e0 : (0 : Int) + (j : Nat) = (j : Int) := by omega
        rw [e0]
        refine ⟨_, rfl, _, rfl, _, rfl, t, n, R, i, j, rfl, ht.mono s2, hw, hok, by omega, by omega, fun v3 H3 s3 n3 => ?_⟩
        have s13 := s2.trans s3
        obtain ⟨vi, hvi, p4, u4, rfl, hp4, hu4⟩ := rowS_of hus (show i < R.length by omega)
        obtain ⟨q, hq, hq2⟩ := row_at (i := j) (nums_mono s13 hu4) (by rw [wide_at hw (by omega)]; omega)
        refine ⟨_, rfl, _, rfl, ixS (i := i) (sqS_mono s13 hp) rfl hvi ⟨_, rfl, ixS (i := j) (sqS_mono s13 hp4) rfl hq ?_⟩⟩
        exact ne_num n3 (num1 hq2) ⟨_, rfl, iteF ⟨s13, _, rfl⟩⟩
      · rintro σ H2 ⟨s2, w3, rfl⟩
        exact ⟨s2, _, _, rfl⟩
    · rintro σ H1 ⟨s1, w2, w3, rfl⟩
      exact k H1 s1
def spScaled (K : PySem.W.Frag) : Sp := fun vs H Q _ => ∃ (t c w : V) (n : Nat) (R : List (List Rat)) (i j : Nat) (q : Rat), vs = [t, c, .int (i : Nat), .int (j : Nat), w] ∧ Tbl K H t n R ∧ TabS K H c (core R) ∧ Num K H w q ∧ hb 31 q ∧ q ≠ 0 ∧ hbT 30000 R ∧ R.length ≤ 5 ∧ n ≤ 5 ∧ i < R.length ∧ j < n ∧ ∀ H', Same H H' → Q (.bl true) H'
theorem sc_law_scaled : FnScope ["_law_table", "_law_core", "_law_at", "_law_place", "_law_number", "_law_due", "_law_more", "_law_across"] ["_law_table", "_law_core", "_law_at", "_law_place", "_law_number"] (defScope (top 82)) := ⟨rfl, rfl, rfl, by decide +kernel, rfl, by decide +kernel, by decide +kernel⟩
theorem ok_law_scaled {P : Program} {w : World} {K : PySem.W.Frag} {mg : Str → Option Value} {base : Heap} (T : Txt P K mg base) : Fd P w K mg base 46 "_law_scaled" ["_law_table", "_law_core", "_law_at", "_law_place", "_law_number"] (spScaled K) := by
  have sc := sc_law_scaled
  refine mkFd T "_law_scaled" 82 (by decide) sc (fun vs H Q E h => ?_) (fun _ _ _ _ _ _ us hl => match us, hl with | [_, _, _, _, _], _ => rfl) (fun cdv A outer s H vs Q E hr h => ?_)
  · obtain ⟨t, c, w0, n, R, i, j, q, rfl, ht, hc, hq, bq, hq0, bR, hR5, hn5, hi, hj, k⟩ := h
    rfl
  · obtain ⟨t, c, w0, n, R, i, j, q, rfl, ht, hc, hq, bq, hq0, bR, hR5, hn5, hi, hj, k⟩ := h
    refine ⟨_, (pss_cons (ps_set (i := 5) sc.nd rfl (Or.inl rfl) (pe_cf (ok_law_times_row T) (hr.mono (by decide)) rfl (pa_cons (pv 1) (pa_cons (pv 2) (pa_cons (pv 4) pa_nil)))))
      (pss_cons (ps_set (i := 6) sc.nd rfl (Or.inl rfl) (pe_cm (ok_m_times_row T) T (hr.mono (by decide)) (pv 0) (pa_cons (pv 2) (pa_cons (pv 4) pa_nil))))
      (pss_cons (ps_if (pt_not (pt_val (pe_cf (ok_law_same T) (hr.mono (by decide)) rfl (pa_cons (pe_cf (ok_unmade T) (hr.mono (by decide)) rfl (pa_cons (pv 6) pa_nil)) (pa_cons (pv 5) pa_nil))))) (pss_one (ps_ret pe_bl)) pss_nil)
      (pss_cons (ps_set (i := 7) sc.nd rfl (Or.inl rfl) (pe_cm0 (ok_m_turned T) T (hr.mono (by decide)) (pe_cm (ok_m_times_row T) T (hr.mono (by decide)) (pe_un (un_inv_tab (ok_m_invert T) T (hr.mono (by decide))) (pv 6)) (pa_cons (pv 3) (pa_cons (pv 4) pa_nil)))))
      (pss_one (ps_ret (pe_cf (ok_law_same T) (hr.mono (by decide)) rfl (pa_cons (pe_cf (ok_unmade T) (hr.mono (by decide)) rfl (pa_cons (pv 7) pa_nil)) (pa_cons (pe_cf (ok_law_turned T) (hr.mono (by decide)) rfl (pa_cons (pe_cf (ok_law_times_row T) (hr.mono (by decide)) rfl (pa_cons (pe_cf (ok_law_turned T) (hr.mono (by decide)) rfl (pa_cons (pv 5) pa_nil)) (pa_cons (pv 3) (pa_cons (pv 4) pa_nil)))) pa_nil)) pa_nil))))))))), ?_⟩
    have hw := tbl_wide ht
    obtain ⟨_, h0, h12, hn0, hn12⟩ := ht.2
    have ok0 : okU 10000000 R := okS (bR.mono (by decide)) (by omega) (fun z => by omega)
    have bC : hbT (4 * 10000000 + 1) (core R) := core_hb (bR.mono (by decide)) ok0
    have hcl : (core R).length = R.length := core_length R
    have hcw : Wide n (core R) := core_wide hw
    have bX : hbT 30031 (scR i q R) := (hbT_scR bq bR).mono (by decide)
    have wX : Wide n (scR i q R) := scR_wide hw
    have lX : (scR i q R).length = R.length := scR_length
    have okX : okU 10000000 (scR i q R) := okS (bX.mono (by decide)) (by omega) (fun z => by omega)
    have eX : core (scR i q R) = scR i q (core R) := core_scR hq0 R i
    have bCX : hbT (4 * 10000000 + 1) (scR i q (core R)) := by
      rw [← eX]
      exact core_hb (bX.mono (by decide)) okX
    refine ⟨_, rfl, _, rfl, _, rfl, c, w0, core R, i, q, rfl, hc, by omega, by omega, by rw [wide_at hcw (by omega)]; omega, hq, bq.mono (by decide), (hbR_getD bC i).mono (by decide), fun vd H1 s1 nd => ?_⟩
    obtain ⟨⟨p, dx, rv, rfl, hp, htt⟩, c2⟩ := id (ht.mono s1)
    refine ⟨_, rfl, p, dx, _, rfl, hp, tf_no _ _ _ (by decide +kernel), _, rfl, _, rfl, ?_⟩
    refine ⟨_, _, n, R, i, q, rfl, ht.mono s1, hq.mono s1, hi, bq.mono (by decide), (hbR_getD bR i).mono (by decide), fun vm H2 s2 tm => ?_⟩
    refine ⟨_, rfl, vm, n, scR i q R, rfl, tm, okX, fun vu H3 s3 tu => ?_⟩
    rw [eX] at tu
    refine ⟨_, rfl, vu, vd, n, scR i q (core R), 4 * 10000000 + 1, rfl, tu, (nd.fwd (s2.trans s3)).tab, bCX, by decide, fun H4 s4 => ⟨true, rfl, iteF ?_⟩⟩
    have s24 := s3.trans s4
    have tm4 := tm.mono s24
    have nd4 := nd.fwd (s2.trans s24)
    have hq4 := hq.mono (s1.trans (s2.trans s24))
    obtain ⟨⟨pm, dm, rm, rfl, hpm, htm⟩, cm2⟩ := id tm4
    refine ⟨_, rfl, pm, dm, _, rfl, hpm, _, n, scR i q R, rfl, tm4, fun vi H5 s5 ti => ?_⟩
    rw [lX] at ti
    have lZ : (tr n (scR i q R)).length = n := tr_length _ _
    have wZ : Wide R.length (tr n (scR i q R)) := by
      have := tr_wide n (scR i q R)
      rwa [lX] at this
    have bZ : hbT 30031 (tr n (scR i q R)) := hbT_tr bX wX
    obtain ⟨⟨pi, di, ri, rfl, hpi, hti⟩, ci⟩ := id ti
    refine ⟨pi, di, _, rfl, hpi, tf_no _ _ _ (by decide +kernel), _, rfl, _, rfl, ?_⟩
    refine ⟨_, _, R.length, tr n (scR i q R), j, q, rfl, ti, hq4.mono s5, by rw [lZ]; exact hj, bq.mono (by decide), (hbR_getD bZ j).mono (by decide), fun vs H6 s6 ts => ?_⟩
    obtain ⟨⟨ps, ds, rs, rfl, hps, hts⟩, cs⟩ := id ts
    refine ⟨ps, ds, _, rfl, hps, tf_no _ _ _ (by decide +kernel), ?_⟩
    refine ⟨_, R.length, scR j q (tr n (scR i q R)), rfl, ts, fun va H7 s7 ta => ?_⟩
    rw [scR_length, lZ] at ta
    have wZ2 : Wide R.length (scR j q (tr n (scR i q R))) := scR_wide wZ
    have bZ2 : hbT 30062 (scR j q (tr n (scR i q R))) := (hbT_scR bq bZ).mono (by decide)
    have bA : hbT 30062 (tr R.length (scR j q (tr n (scR i q R)))) := hbT_tr bZ2 wZ2
    have lA : (tr R.length (scR j q (tr n (scR i q R)))).length = R.length := tr_length _ _
    have okA : okU 10000000 (tr R.length (scR j q (tr n (scR i q R)))) := okS bA (by omega) (fun z => by omega)
    have eA : core (tr R.length (scR j q (tr n (scR i q R)))) = tr R.length (scR j q (tr n (scR i q (core R)))) := by
      rw [core_tr wZ2, core_scR hq0, core_tr wX, eX]
    refine ⟨_, rfl, va, n, _, rfl, ta, okA, fun vb H8 s8 tb => ?_⟩
    rw [eA] at tb
    have bB : hbT (4 * 10000000 + 1) (tr R.length (scR j q (tr n (scR i q (core R))))) := by
      rw [← eA]
      exact core_hb (bA.mono (by decide)) okA
    have wCX : Wide n (scR i q (core R)) := scR_wide hcw
    have lCX : (scR i q (core R)).length = R.length := by rw [scR_length, hcl]
    have s58 := s5.trans (s6.trans (s7.trans s8))
    refine ⟨_, rfl, vd, n, scR i q (core R), rfl, (nd4.fwd s58).tab, wCX, by omega, by omega, by omega, fun v9 H9 s9 n9 => ?_⟩
    have lT : (tr n (scR i q (core R))).length = n := tr_length _ _
    have wT : Wide R.length (tr n (scR i q (core R))) := by
      have := tr_wide n (scR i q (core R))
      rwa [lCX] at this
    have bT : hbT (4 * 10000000 + 1) (tr n (scR i q (core R))) := hbT_tr bCX wCX
    refine ⟨_, rfl, _, rfl, ?_⟩
    refine ⟨v9, w0, tr n (scR i q (core R)), j, q, rfl, n9.tab, by omega, by rw [lT]; exact hj, by rw [wide_at wT (by omega)]; omega, hq4.mono (s58.trans s9), bq.mono (by decide), (hbR_getD bT j).mono (by decide), fun va2 Ha sa na => ?_⟩
    have wT2 : Wide R.length (scR j q (tr n (scR i q (core R)))) := scR_wide wT
    refine ⟨va2, R.length, scR j q (tr n (scR i q (core R))), rfl, na.tab, wT2, by rw [scR_length]; omega, by rw [scR_length]; omega, by omega, fun vb2 Hb sb nb => ?_⟩
    have s9b := s9.trans (sa.trans sb)
    exact ⟨vb, vb2, n, tr R.length (scR j q (tr n (scR i q (core R)))), 4 * 10000000 + 1, rfl, tb.mono s9b, nb.tab, bB, by decide, fun Hc sc2 => k Hc (s1.trans (s2.trans (s24.trans (s58.trans (s9b.trans sc2)))))⟩
end MU
namespace MU
open PySem PySem.Spec PyProof.Rows L2 He MM
def Ints (us : List V) : Prop := ∀ u ∈ us, ∃ i : Int, u = .int i
def Dr (H : Hp) (d : Addr) : Prop := ∃ us, H d = some (.lst us) ∧ Ints us
structure DSt (d : Addr) (H H' : Hp) : Prop where
  same : Same (rem d H) (rem d H')
  dr : Dr H' d
section
variable {d : Addr} {H H' H'' : Hp}
theorem DSt.refl (h : Dr H d) : DSt d H H := ⟨Same.refl _, h⟩
theorem DSt.trans (a : DSt d H H') (b : DSt d H' H'') : DSt d H H'' := ⟨a.same.trans b.same, b.dr⟩
theorem DSt.step (a : DSt d H H') (s : Same H' H'') : DSt d H H'' := ⟨a.same.trans (rem_mono s), let ⟨us, e, i⟩ := a.dr; ⟨us, s _ _ e, i⟩⟩
theorem Dr.step (a : Dr H d) (s : Same H H') : DSt d H H' := (DSt.refl a).step s
theorem DSt.at (a : DSt d H H') {p : Addr} {o : HO} (e : H p = some o) (hp : p ≠ d) : H' p = some o := by
  have h : rem d H p = some o := by rw [rem_ne hp]; exact e
  exact rem_same _ _ (a.same _ _ h)
theorem DSt.fresh (a : DSt d H H') {p : Addr} (hp : p ≠ d) (e : H' p = none) : H p = none := by
  cases h : H p with
  | none => rfl
  | some o =>
    rw [a.at h hp] at e
    cases e
theorem Dr.alive (a : Dr H d) {p : Addr} (e : H p = none) : p ≠ d := fun z => by
  obtain ⟨us, h, _⟩ := a
  rw [z, h] at e
  cases e
end
def spTake : Sp := fun vs H Q _ => ∃ (d : Addr) (m : Int), vs = [.ref d, .int m] ∧ 1 ≤ m ∧ Dr H d ∧ ∀ (r : Nat) H', (r : Int) < m → DSt d H H' → Q (.int (r : Nat)) H'
theorem sc_law_take : FnScope ["_law_draws_here", "_law_many"] ["_law_draws_here", "_law_many"] (defScope (top 57)) := ⟨rfl, rfl, rfl, by decide +kernel, rfl, by decide +kernel, by decide +kernel⟩
theorem ok_law_take {P : Program} {w : World} {K : PySem.W.Frag} {mg : Str → Option Value} {base : Heap} (T : Txt P K mg base) : Fd P w K mg base 5 "_law_take" ["_law_draws_here", "_law_many"] (spTake) := by
  have sc := sc_law_take
  refine mkFd T "_law_take" 57 (by decide) sc (fun vs H Q E h => ?_) (fun _ _ _ _ _ _ us hl => match us, hl with | [_, _], _ => rfl) (fun cdv A outer s H vs Q E hr h => ?_)
  · obtain ⟨d, m, rfl, hm, hd, k⟩ := h
    rfl
  · obtain ⟨d, m, rfl, hm, hd, k⟩ := h
    refine ⟨_, (pss_cons (ps_if (PW.pt (pw_or (pt_cmpR (op_eq) (pe_callB call_len rfl T.len boot_len (pa_cons (pv 0) pa_nil)) pe_int (nomark _)) (pw_or1 (pt_cmpR (op_lt) (pv 1) pe_int (nomark _))))) (pss_one (ps_ret pe_int)) pss_nil)
      (pss_one (ps_ret (pe_op (op_mod) (pe_callTy call_int1 rfl T.int boot_int (pa_cons (pe_bm0 PySem.F.plainAttrs_list PySem.F.slot_list_pop PySem.F.type_list_pop mt_pop (pv 0)) pa_nil)) (pv 1))))), ?_⟩
    obtain ⟨us, hus, hi⟩ := id hd
    refine ⟨_, rfl, _, us.length, rfl, .inl ⟨_, SqL.of hus, rfl⟩, rfl, _, rfl, ?_⟩
    by_cases h0 : us.length = 0
    · refine iteD (by rw [h0]; rfl) ?_
      exact k 0 H (by omega) (DSt.refl hd)
    · refine iteDN (int_ne (by omega)) ?_
      refine ⟨_, rfl, _, _, rfl, rfl, _, rfl, iteDN (by omega) ?_⟩
      obtain ⟨y, hy⟩ : ∃ y, us[us.length - 1]? = some y := ⟨_, List.getElem?_eq_getElem (by omega)⟩
      obtain ⟨n, rfl⟩ := hi y (List.mem_of_getElem? hy)
      refine ⟨_, rfl, .inl ⟨rfl, _, SqL.of hus⟩, d, us, _, rfl, rfl, hus, hy, .inl ⟨n, rfl, _, rfl, _, _, rfl, rfl, by omega, ?_⟩⟩
      have e : n % m = ((n % m).toNat : Int) := by
        have := Int.emod_nonneg n (show m ≠ 0 by omega)
        omega
      show Q (.int (n % m)) _
      rw [e]
      have hlt := Int.emod_lt_of_pos n (show 0 < m by omega)
      exact k _ _ (by omega) ⟨by rw [rem_upd]; exact Same.refl _, us.dropLast, upd_same, fun u hu => hi u (List.dropLast_subset us hu)⟩
def spAny (K : PySem.W.Frag) : Sp := fun vs H Q _ => ∃ (d : Addr), vs = [.ref d] ∧ Dr H d ∧ ∀ v q H', DSt d H H' → Num K H' v q → hb 31 q → Q v H'
theorem sc_law_any : FnScope ["_law_draws_here"] ["_law_draws_here"] (defScope (top 74)) := ⟨rfl, rfl, rfl, by decide +kernel, rfl, by decide +kernel, by decide +kernel⟩
theorem ok_law_any {P : Program} {w : World} {K : PySem.W.Frag} {mg : Str → Option Value} {base : Heap} (T : Txt P K mg base) : Fd P w K mg base 42 "_law_any" ["_law_draws_here"] (spAny K) := by
  have sc := sc_law_any
  refine mkFd T "_law_any" 74 (by decide) sc (fun vs H Q E h => ?_) (fun _ _ _ _ _ _ us hl => match us, hl with | [_], _ => rfl) (fun cdv A outer s H vs Q E hr h => ?_)
  · obtain ⟨d, rfl, hd, k⟩ := h
    rfl
  · obtain ⟨d, rfl, hd, k⟩ := h
    refine ⟨_, (pss_one (ps_ret (pe_cf (ok_law_pair T) (hr.mono (by decide)) rfl (pa_cons (pe_op (op_sub) (pe_cf (ok_law_take T) (hr.mono (by decide)) rfl (pa_cons (pv 0) (pa_cons pe_int pa_nil))) pe_int) (pa_cons (pe_op (op_add) pe_int (pe_cf (ok_law_take T) (hr.mono (by decide)) rfl (pa_cons (pv 0) (pa_cons pe_int pa_nil)))) pa_nil))))), ?_⟩
    refine ⟨_, rfl, d, _, rfl, by decide, hd, fun a H1 ha s1 => ?_⟩
    refine ⟨_, _, rfl, rfl, _, rfl, d, _, rfl, by decide, s1.dr, fun c H2 hc s2 => ?_⟩
    refine ⟨_, _, rfl, rfl, _, _, 31, rfl, by omega, by omega, by decide, fun v' H3 s3 n3 => ?_⟩
    have s13 := (s1.trans s2).step s3
    exact k v' _ H3 s13 n3 (hb_divInt (by omega) (by omega) (by omega))
def spSize : Sp := fun vs H Q _ => ∃ (d : Addr) (m : Nat), vs = [.ref d, .int (m : Nat)] ∧ 1 ≤ m ∧ Dr H d ∧ ∀ (r : Nat) H', 1 ≤ r → r ≤ m → DSt d H H' → Q (.int (r : Nat)) H'
theorem sc_law_size : FnScope ["_law_draws_here", "_law_most"] ["_law_draws_here", "_law_most"] (defScope (top 75)) := ⟨rfl, rfl, rfl, by decide +kernel, rfl, by decide +kernel, by decide +kernel⟩
theorem ok_law_size {P : Program} {w : World} {K : PySem.W.Frag} {mg : Str → Option Value} {base : Heap} (T : Txt P K mg base) : Fd P w K mg base 6 "_law_size" ["_law_draws_here", "_law_most"] (spSize) := by
  have sc := sc_law_size
  refine mkFd T "_law_size" 75 (by decide) sc (fun vs H Q E h => ?_) (fun _ _ _ _ _ _ us hl => match us, hl with | [_, _], _ => rfl) (fun cdv A outer s H vs Q E hr h => ?_)
  · obtain ⟨d, m, rfl, hm, hd, k⟩ := h
    rfl
  · obtain ⟨d, m, rfl, hm, hd, k⟩ := h
    refine ⟨_, (pss_one (ps_ret (pe_op (op_add) pe_int (pe_op (op_mod) (pe_callTy call_int1 rfl T.int boot_int (pa_cons (pe_ix (r := rIx K) ix_seq (pe_lst (pa_cons pe_int (pa_cons pe_int (pa_cons pe_int (pa_cons pe_int (pa_cons pe_int (pa_cons pe_int pa_nil))))))) (pe_cf (ok_law_take T) (hr.mono (by decide)) rfl (pa_cons (pv 0) (pa_cons pe_int pa_nil))) (fun _ _ => rfl)) pa_nil)) (pv 1))))), ?_⟩
    refine ⟨by show 6 ≤ sizeLine; decide, fun l hl => ?_⟩
    have s0 : Same H (upd H l (.lst [.int 2, .int 1, .int 2, .int 0, .int 3, .int 1])) := same_new hl
    refine ⟨_, rfl, d, _, rfl, by decide, (hd.step s0).dr, fun r H1 hr1 s1 => ?_⟩
    have hld : l ≠ d := hd.alive hl
    have hl1 : H1 l = some (.lst [.int 2, .int 1, .int 2, .int 0, .int 3, .int 1]) := s1.at upd_same hld
    obtain ⟨n, hn⟩ : ∃ n : Int, ([.int 2, .int 1, .int 2, .int 0, .int 3, .int 1] : List V)[r]? = some (.int n) := by
      have h6 : r < 6 := by omega
      match r, h6 with
      | 0, _ => exact ⟨_, rfl⟩
      | 1, _ => exact ⟨_, rfl⟩
      | 2, _ => exact ⟨_, rfl⟩
      | 3, _ => exact ⟨_, rfl⟩
      | 4, _ => exact ⟨_, rfl⟩
      | 5, _ => exact ⟨_, rfl⟩
    refine ixS (i := r) (.inl (SqL.of hl1)) rfl hn (.inl ⟨n, rfl, _, rfl, _, _, rfl, rfl, show (0 : Int) < (m : Int) by omega, _, _, rfl, rfl, ?_⟩)
    have h1 := Int.emod_nonneg n (show (m : Int) ≠ 0 by omega)
    have h2 := Int.emod_lt_of_pos n (show (0 : Int) < (m : Int) by omega)
    have e : 1 + n % (m : Int) = ((1 + n % (m : Int)).toNat : Int) := by omega
    show Q (.int (1 + n % (m : Int))) _
    rw [e]
    exact k _ _ (by omega) (by omega) (((hd.step s0)).trans s1)
theorem sc_law_signed : FnScope ["_law_draws_here", "_law_word"] ["_law_draws_here"] (defScope (top 76)) := ⟨rfl, rfl, rfl, by decide +kernel, rfl, by decide +kernel, by decide +kernel⟩
theorem ok_law_signed {P : Program} {w : World} {K : PySem.W.Frag} {mg : Str → Option Value} {base : Heap} (T : Txt P K mg base) : Fd P w K mg base 43 "_law_signed" ["_law_draws_here"] (spAny K) := by
  have sc := sc_law_signed
  refine mkFd T "_law_signed" 76 (by decide) sc (fun vs H Q E h => ?_) (fun _ _ _ _ _ _ us hl => match us, hl with | [_], _ => rfl) (fun cdv A outer s H vs Q E hr h => ?_)
  · obtain ⟨d, rfl, hd, k⟩ := h
    rfl
  · obtain ⟨d, rfl, hd, k⟩ := h
    refine ⟨_, (pss_cons (ps_set (i := 1) sc.nd rfl (Or.inl rfl) (pe_cf (ok_law_take T) (hr.mono (by decide)) rfl (pa_cons (pv 0) (pa_cons pe_int pa_nil))))
      (pss_cons (ps_if (pt_cmpR (op_lt) (pv 1) pe_int (nomark _)) (pss_one (ps_ret (pe_tup (pa_cons pe_int (pa_cons pe_int pa_nil))))) pss_nil)
      (pss_cons (ps_if (pt_cmpR (op_eq) (pv 1) pe_int (nomark _)) (pss_one (ps_ret (pe_cf (ok_law_pair T) (hr.mono (by decide)) rfl (pa_cons (pe_op (op_add) (pe_op (op_pow) pe_int pe_int) (pe_cf (ok_law_take T) (hr.mono (by decide)) rfl (pa_cons (pv 0) (pa_cons pe_int pa_nil)))) (pa_cons pe_int pa_nil))))) pss_nil)
      (pss_one (ps_ret (pe_cf (ok_law_any T) (hr.mono (by decide)) rfl (pa_cons (pv 0) pa_nil))))))), ?_⟩
    refine ⟨_, rfl, d, _, rfl, by decide, hd, fun a H1 ha s1 => ?_⟩
    refine ⟨_, rfl, _, _, rfl, rfl, _, rfl, ?_⟩
    by_cases h4 : a < 4
    · refine iteD (by omega) ⟨by show 2 ≤ sizeLine; decide, fun t ht => ?_⟩
      exact k _ 0 _ (s1.step (same_new ht)) (num01 upd_same) (hb_zero.mono (by decide))
    · refine iteDN (by omega) ?_
      refine ⟨_, rfl, rfl, _, rfl, ?_⟩
      by_cases h11 : a = 11
      · refine iteD (by rw [h11]; rfl) ?_
        refine ⟨_, _, rfl, rfl, ⟨by decide, by decide, by decide⟩, _, rfl, d, _, rfl, by decide, s1.dr, fun c H2 hc s2 => ?_⟩
        refine ⟨_, _, rfl, rfl, _, _, 31, rfl, by decide, by decide, by decide, fun v' H3 s3 n3 => ?_⟩
        have e9 : (10 : Int) ^ (9 : Int).toNat = 1000000000 := by decide
        refine k v' _ H3 ((s1.trans s2).step s3) n3 (hb_divInt (by decide) ?_ (by decide))
        rw [e9]
        omega
      · refine iteDN (int_ne (by omega)) ?_
        exact ⟨_, rfl, d, rfl, s1.dr, fun v q H2 s2 n2 b2 => k v q H2 (s1.trans s2) n2 b2⟩
def spDraws (K : PySem.W.Frag) : Sp := fun vs H Q _ => ∃ (p : Addr) (us : List V), vs = [.ref p] ∧ SqS K H p us ∧ Ints us ∧ ∀ d H', Same H H' → Dr H' d → Q (.ref d) H'
theorem ints_app {us : List V} {n : Int} (h : Ints us) : Ints (us ++ [.int n]) := fun u hu => by
  rcases List.mem_append.mp hu with z | z
  · exact h u z
  · exact ⟨n, by simpa using z⟩
theorem sc_law_draws : FnScope ["_law_script", "_law_row", "_law_place", "_law_cell", "_law_turn", "_law_mixed"] ["_law_script"] (defScope (top 56)) := ⟨rfl, rfl, rfl, by decide +kernel, rfl, by decide +kernel, by decide +kernel⟩
theorem ok_law_draws {P : Program} {w : World} {K : PySem.W.Frag} {mg : Str → Option Value} {base : Heap} (T : Txt P K mg base) : Fd P w K mg base 5 "_law_draws" ["_law_script"] (spDraws K) := by
  have sc := sc_law_draws
  refine mkFd T "_law_draws" 56 (by decide) sc (fun vs H Q E h => ?_) (fun _ _ _ _ _ _ us hl => match us, hl with | [_], _ => rfl) (fun cdv A outer s H vs Q E hr h => ?_)
  · obtain ⟨p, us, rfl, hs, hi, k⟩ := h
    rfl
  · obtain ⟨p, us, rfl, hs, hi, k⟩ := h
    refine ⟨_, (pss_cons (ps_set (i := 1) sc.nd rfl (Or.inl rfl) (pe_lst pa_nil))
      (pss_cons (ps_for PassesOwn.never rfl (pi_range1 rfl T.range (pa_cons (pe_callB (call_min2 rfl) rfl T.min boot_min (pa_cons (pe_callB call_len rfl T.len boot_len (pa_cons (pv 0) pa_nil)) (pa_cons pe_int pa_nil))) pa_nil)) (pg_name (i := 2) sc.nd rfl (Or.inl rfl)) (pss_cons (ps_set (i := 3) sc.nd rfl (Or.inl rfl) (pe_callTy call_int1 rfl T.int boot_int (pa_cons (pe_ix (r := rIx K) ix_seq (pv 0) (pv 2) (fun _ _ => rfl)) pa_nil)))
      (pss_cons (ps_if (pt_cmpR (op_lt) (pv 3) pe_int (nomark _)) (pss_one (ps_set (i := 3) sc.nd rfl (Or.inl rfl) (pe_op (op_sub) pe_int (pv 3)))) pss_nil)
      (pss_one (ps_if (pt_cmpR (op_ge) (pv 3) (pe_op (op_pow) pe_int pe_int) (nomark _)) (pss_one (ps_for PassesOwn.never rfl (pi_range1 rfl T.range (pa_cons pe_int pa_nil)) (pg_name (i := 4) sc.nd rfl (Or.inl rfl)) (pss_one (ps_if (pt_cmpR (op_gt) (pv 3) pe_int (nomark _)) (pss_cons (ps_expr (pe_bm PySem.F.plainAttrs_list PySem.F.slot_list_append PySem.F.type_list_append mt_append (pv 1) (pa_cons (pe_op (op_mod) (pe_callTy call_int1 rfl T.int boot_int (pa_cons (pv 3) pa_nil)) pe_int) pa_nil)))
      (pss_one (ps_set (i := 3) sc.nd rfl (Or.inl rfl) (pe_op (op_fdiv) (pv 3) pe_int)))) pss_nil)))) (pss_cons (ps_set (i := 5) sc.nd rfl (Or.inl rfl) (pe_op (op_mod) (pe_callTy call_int1 rfl T.int boot_int (pa_cons (pe_op (op_add) (pe_op (op_add) (pe_op (op_mulL) (pv 3) pe_int) (pe_op (op_mulL) (pv 2) pe_int)) pe_int) pa_nil)) pe_int))
      (pss_one (ps_for PassesOwn.never rfl (pi_range1 rfl T.range (pa_cons pe_int pa_nil)) (pg_name (i := 4) sc.nd rfl (Or.inl rfl)) (pss_cons (ps_set (i := 5) sc.nd rfl (Or.inl rfl) (pe_op (op_mod) (pe_callTy call_int1 rfl T.int boot_int (pa_cons (pe_op (op_add) (pe_op (op_add) (pe_op (op_add) (pe_op (op_mulL) (pv 5) (pv 5)) (pe_op (op_mulL) (pv 4) pe_int)) (pv 2)) pe_int) pa_nil)) pe_int))
      (pss_one (ps_expr (pe_bm PySem.F.plainAttrs_list PySem.F.slot_list_append PySem.F.type_list_append mt_append (pv 1) (pa_cons (pe_op (op_fdiv) (pv 5) pe_int) pa_nil)))))))))))))
      (pss_one (ps_ret (pe_revL (pv 1)))))), ?_⟩
    refine ⟨Nat.zero_le _, fun l hl => ?_⟩
    have s0 : Same H (upd H l (.lst [])) := same_new hl
    refine ⟨_, rfl, _, us.length, rfl, lenS (sqS_mono s0 hs), _, _, rfl, _, rfl, ?_⟩
    have hmin : (if (63 : Int) < ((us.length : Nat) : Int) then (63 : Int) else ((us.length : Nat) : Int)) ≤ 63 ∧ (if (63 : Int) < ((us.length : Nat) : Int) then (63 : Int) else ((us.length : Nat) : Int)) ≤ us.length ∧ 0 ≤ (if (63 : Int) < ((us.length : Nat) : Int) then (63 : Int) else ((us.length : Nat) : Int)) := by
      split <;> omega
    generalize (if (63 : Int) < ((us.length : Nat) : Int) then (63 : Int) else ((us.length : Nat) : Int)) = M at hmin ⊢
    obtain ⟨m1, m2, m3⟩ := hmin
    refine ⟨by omega, by omega, ?_⟩
    refine for_range (lo := 0) (n := M.toNat) (fun i σ H' => Same H H' ∧ (∃ zs, H' l = some (.lst zs) ∧ Ints zs ∧ zs.length ≤ 50 * i) ∧ ∃ w2 w3 w4 w5, σ = [some (.ref p), some (.ref l), w2, w3, w4, w5])
      ⟨s0, ⟨[], upd_same, fun u hu => by simp at hu, Nat.le_refl _⟩, _, _, _, _, rfl⟩ ?_ ?_
    · rintro i σ H1 hi1 ⟨s1, ⟨zs, hz, iz, lz⟩, w2, w3, w4, w5, rfl⟩
      obtain ⟨y, hy⟩ : ∃ y, us[i]? = some y := ⟨_, List.getElem?_eq_getElem (by omega)⟩
      obtain ⟨n, rfl⟩ := hi y (List.mem_of_getElem? hy)
      refine ⟨_, rfl, _, rfl, ixS (i := i) (sqS_mono s1 hs) (by omega) hy (.inl ⟨n, rfl, ?_⟩)⟩
      have e18 : (10 : Int) ^ (18 : Int).toNat = 1000000000000000000 := by decide
      refine ⟨_, rfl, _, _, rfl, rfl, _, rfl, ?_⟩
      by_cases hneg : n < 0
      · refine iteD hneg ⟨_, rfl, _, _, rfl, rfl, ?_⟩
        refine ⟨_, rfl, _, _, rfl, rfl, ⟨by decide, by decide, by decide⟩, _, _, rfl, rfl, _, rfl, ?_⟩
        have iM : i < 63 := by omega
        by_cases hbig : (10 : Int) ^ (18 : Int).toNat ≤ (7 - n)
        · refine iteD hbig ?_
          refine ⟨_, rfl, by decide, by decide, ?_⟩
          refine for_range (lo := 0) (n := (50 : Int).toNat) (fun t σ H' => Same H H' ∧ (∃ zs, H' l = some (.lst zs) ∧ Ints zs ∧ zs.length ≤ 50 * i + t) ∧ ∃ (c : Int) (w4 w5 : Option V), σ = [some (.ref p), some (.ref l), some (.int (0 + (i : Int))), some (.int c), w4, w5])
            ⟨s1, ⟨zs, hz, iz, lz⟩, _, _, _, rfl⟩ ?_ ?_
          · rintro t σ H2 ht ⟨s2, ⟨zs, hz, iz, lz⟩, c, w4, w5, rfl⟩
            have ht' : t < 50 := ht
            have hsz : zs.length < sizeLine := Evl.sz_lt (by omega)
            refine ⟨_, rfl, _, _, rfl, rfl, _, rfl, ?_⟩
            by_cases hc : 0 < c
            · refine iteD hc ?_
              refine ⟨_, rfl, .inl ⟨rfl, _, SqL.of hz⟩, _, rfl, .inl ⟨c, rfl, _, _, rfl, rfl, show (0 : Int) < 60 by decide, l, zs, _, rfl, rfl, hz, hsz, ?_⟩⟩
              refine ⟨_, rfl, _, _, rfl, rfl, ⟨by decide, by decide⟩, same_mut s2 hl, ⟨_, upd_same, ints_app iz, by simp; omega⟩, _, _, _, rfl⟩
            · refine iteDN hc ⟨s2, ⟨zs, hz, iz, by omega⟩, _, _, _, rfl⟩
          · rintro σ H2 ⟨s2, ⟨zs, hz, iz, lz⟩, c, w4, w5, rfl⟩
            have lz' : zs.length ≤ 50 * i + 50 := lz
            exact ⟨s2, ⟨zs, hz, iz, by omega⟩, _, _, _, _, rfl⟩
        · refine iteDN hbig ?_
          rw [e18] at hbig
          refine ⟨_, rfl, _, _, rfl, rfl, ⟨60, 17, by omega, by decide, by decide⟩, _, rfl, _, _, rfl, rfl, ⟨6, 15, by omega, by decide, by decide⟩, _, _, rfl, rfl, _, _, rfl, rfl, .inl ⟨_, rfl, _, _, rfl, rfl, show (0 : Int) < 1073741789 by decide, ?_⟩⟩
          refine ⟨_, rfl, by decide, by decide, ?_⟩
          refine for_range (lo := 0) (n := (8 : Int).toNat) (fun t σ H' => Same H H' ∧ (∃ zs, H' l = some (.lst zs) ∧ Ints zs ∧ zs.length ≤ 50 * i + t) ∧ ∃ (w3 w4 : Option V) (x : Int), 0 ≤ x ∧ x < 1073741789 ∧ σ = [some (.ref p), some (.ref l), some (.int (0 + (i : Int))), w3, w4, some (.int x)])
            ⟨s1, ⟨zs, hz, iz, lz⟩, _, _, _, Int.emod_nonneg _ (by decide), Int.emod_lt_of_pos _ (by decide), rfl⟩ ?_ ?_
          · rintro t σ H2 ht ⟨s2, ⟨zs, hz, iz, lz⟩, w3, w4, x, x0, x1, rfl⟩
            have ht' : t < 8 := ht
            have hsz : zs.length < sizeLine := Evl.sz_lt (by omega)
            refine ⟨_, rfl, _, rfl, _, _, rfl, rfl, ⟨30, 30, by omega, by omega, by decide⟩, _, rfl, _, _, rfl, rfl, ⟨6, 16, by omega, by decide, by decide⟩, _, _, rfl, rfl, _, rfl, _, _, rfl, rfl, _, _, rfl, rfl, .inl ⟨_, rfl, _, _, rfl, rfl, show (0 : Int) < 1073741783 by decide, ?_⟩⟩
            refine ⟨_, rfl, .inl ⟨rfl, _, SqL.of hz⟩, _, rfl, _, _, rfl, rfl, ⟨by decide, by decide⟩, l, zs, _, rfl, rfl, hz, hsz, ?_⟩
            exact ⟨same_mut s2 hl, ⟨_, upd_same, ints_app iz, by simp; omega⟩, _, _, _, Int.emod_nonneg _ (by decide), Int.lt_trans (Int.emod_lt_of_pos _ (show (0 : Int) < 1073741783 by decide)) (by decide), rfl⟩
          · rintro σ H2 ⟨s2, ⟨zs, hz, iz, lz⟩, w3, w4, x, x0, x1, rfl⟩
            have lz' : zs.length ≤ 50 * i + 8 := lz
            exact ⟨s2, ⟨zs, hz, iz, by omega⟩, _, _, _, _, rfl⟩
      · refine iteDN hneg ?_
        refine ⟨_, rfl, _, _, rfl, rfl, ⟨by decide, by decide, by decide⟩, _, _, rfl, rfl, _, rfl, ?_⟩
        have iM : i < 63 := by omega
        by_cases hbig : (10 : Int) ^ (18 : Int).toNat ≤ n
        · refine iteD hbig ?_
          refine ⟨_, rfl, by decide, by decide, ?_⟩
          refine for_range (lo := 0) (n := (50 : Int).toNat) (fun t σ H' => Same H H' ∧ (∃ zs, H' l = some (.lst zs) ∧ Ints zs ∧ zs.length ≤ 50 * i + t) ∧ ∃ (c : Int) (w4 w5 : Option V), σ = [some (.ref p), some (.ref l), some (.int (0 + (i : Int))), some (.int c), w4, w5])
            ⟨s1, ⟨zs, hz, iz, lz⟩, _, _, _, rfl⟩ ?_ ?_
          · rintro t σ H2 ht ⟨s2, ⟨zs, hz, iz, lz⟩, c, w4, w5, rfl⟩
            have ht' : t < 50 := ht
            have hsz : zs.length < sizeLine := Evl.sz_lt (by omega)
            refine ⟨_, rfl, _, _, rfl, rfl, _, rfl, ?_⟩
            by_cases hc : 0 < c
            · refine iteD hc ?_
              refine ⟨_, rfl, .inl ⟨rfl, _, SqL.of hz⟩, _, rfl, .inl ⟨c, rfl, _, _, rfl, rfl, show (0 : Int) < 60 by decide, l, zs, _, rfl, rfl, hz, hsz, ?_⟩⟩
              refine ⟨_, rfl, _, _, rfl, rfl, ⟨by decide, by decide⟩, same_mut s2 hl, ⟨_, upd_same, ints_app iz, by simp; omega⟩, _, _, _, rfl⟩
            · refine iteDN hc ⟨s2, ⟨zs, hz, iz, by omega⟩, _, _, _, rfl⟩
          · rintro σ H2 ⟨s2, ⟨zs, hz, iz, lz⟩, c, w4, w5, rfl⟩
            have lz' : zs.length ≤ 50 * i + 50 := lz
            exact ⟨s2, ⟨zs, hz, iz, by omega⟩, _, _, _, _, rfl⟩
        · refine iteDN hbig ?_
          rw [e18] at hbig
          refine ⟨_, rfl, _, _, rfl, rfl, ⟨60, 17, by omega, by decide, by decide⟩, _, rfl, _, _, rfl, rfl, ⟨6, 15, by omega, by decide, by decide⟩, _, _, rfl, rfl, _, _, rfl, rfl, .inl ⟨_, rfl, _, _, rfl, rfl, show (0 : Int) < 1073741789 by decide, ?_⟩⟩
          refine ⟨_, rfl, by decide, by decide, ?_⟩
          refine for_range (lo := 0) (n := (8 : Int).toNat) (fun t σ H' => Same H H' ∧ (∃ zs, H' l = some (.lst zs) ∧ Ints zs ∧ zs.length ≤ 50 * i + t) ∧ ∃ (w3 w4 : Option V) (x : Int), 0 ≤ x ∧ x < 1073741789 ∧ σ = [some (.ref p), some (.ref l), some (.int (0 + (i : Int))), w3, w4, some (.int x)])
            ⟨s1, ⟨zs, hz, iz, lz⟩, _, _, _, Int.emod_nonneg _ (by decide), Int.emod_lt_of_pos _ (by decide), rfl⟩ ?_ ?_
          · rintro t σ H2 ht ⟨s2, ⟨zs, hz, iz, lz⟩, w3, w4, x, x0, x1, rfl⟩
            have ht' : t < 8 := ht
            have hsz : zs.length < sizeLine := Evl.sz_lt (by omega)
            refine ⟨_, rfl, _, rfl, _, _, rfl, rfl, ⟨30, 30, by omega, by omega, by decide⟩, _, rfl, _, _, rfl, rfl, ⟨6, 16, by omega, by decide, by decide⟩, _, _, rfl, rfl, _, rfl, _, _, rfl, rfl, _, _, rfl, rfl, .inl ⟨_, rfl, _, _, rfl, rfl, show (0 : Int) < 1073741783 by decide, ?_⟩⟩
            refine ⟨_, rfl, .inl ⟨rfl, _, SqL.of hz⟩, _, rfl, _, _, rfl, rfl, ⟨by decide, by decide⟩, l, zs, _, rfl, rfl, hz, hsz, ?_⟩
            exact ⟨same_mut s2 hl, ⟨_, upd_same, ints_app iz, by simp; omega⟩, _, _, _, Int.emod_nonneg _ (by decide), Int.lt_trans (Int.emod_lt_of_pos _ (show (0 : Int) < 1073741783 by decide)) (by decide), rfl⟩
          · rintro σ H2 ⟨s2, ⟨zs, hz, iz, lz⟩, w3, w4, x, x0, x1, rfl⟩
            have lz' : zs.length ≤ 50 * i + 8 := lz
            exact ⟨s2, ⟨zs, hz, iz, by omega⟩, _, _, _, _, rfl⟩
    · rintro σ H1 ⟨s1, ⟨zs, hz, iz, lz⟩, w2, w3, w4, w5, rfl⟩
      refine ⟨_, rfl, l, zs, rfl, SqL.of hz, fun q hq => ?_⟩
      exact k q _ (s1.trans (same_new hq)) ⟨zs.reverse, upd_same, fun u hu => iz u (List.mem_reverse.mp hu)⟩
end MU
namespace MU
open PySem PySem.Spec PyProof.Rows L2 He MM
def RowLv (K : PySem.W.Frag) (H : Hp) (v : V) (r : List Rat) : Prop := ∃ a us, v = .ref a ∧ H a = some (.lst us) ∧ Paired (Num K H) us r
def TabL (K : PySem.W.Frag) (H : Hp) (v : V) (R : List (List Rat)) : Prop := ∃ L us, v = .ref L ∧ H L = some (.lst us) ∧ Paired (RowLv K H) us R
section
variable {K : PySem.W.Frag} {H H' : Hp} {v : V} {r : List Rat} {R : List (List Rat)}
theorem RowLv.mono (s : Same H H') (h : RowLv K H v r) : RowLv K H' v r := let ⟨a, us, e, x, n⟩ := h; ⟨a, us, e, s _ _ x, nums_mono s n⟩
theorem RowLv.s (h : RowLv K H v r) : RowS K H v r := let ⟨a, us, e, x, n⟩ := h; ⟨a, us, e, .inl (SqL.of x), n⟩
theorem rowLs_mono {us : List V} (s : Same H H') (h : Paired (RowLv K H) us R) : Paired (RowLv K H') us R := pr_mono h fun _ _ z => z.mono s
theorem TabL.mono (s : Same H H') (h : TabL K H v R) : TabL K H' v R := let ⟨L, us, e, x, n⟩ := h; ⟨L, us, e, s _ _ x, rowLs_mono s n⟩
theorem TabL.tab (h : TabL K H v R) : TabS K H v R := let ⟨L, us, e, x, n⟩ := h; ⟨L, us, e, .inl (SqL.of x), pr_mono n fun _ _ z => z.s⟩
theorem Mat.tabL {L : Addr} {ads : List Addr} (h : Mat K H L ads R) : TabL K H (.ref L) R := ⟨L, _, rfl, h.out, pr_of (by rw [List.length_map]; exact h.len) fun i v r e1 e2 => by
  rw [List.getElem?_map] at e1
  cases e3 : ads[i]? with
  | none => rw [e3] at e1; cases e1
  | some a =>
    rw [e3] at e1
    cases e1
    obtain ⟨us, e, n⟩ := pr_at h.rows e3 e2
    exact ⟨a, us, rfl, e, n⟩⟩
theorem NewM.tabL (h : NewM K H H' v R) : TabL K H' v R := let ⟨_, _, e, m, _⟩ := h; e ▸ m.tabL
theorem NewM.tabLRem {D : Addr} {o o' : HO} (hD : H D = some o) (hD' : H' D = some o') (h : NewM K H H' v R) (hn : Nt o' := by trivial) : TabL K (rem D H') v R := by
  obtain ⟨L, ads, rfl, m, a, b⟩ := h
  refine (m.rem hD' (fun z => ?_) (fun z => ?_) hn).tabL
  · rw [z, hD] at a
    cases a
  · have := b D z
    rw [hD] at this
    cases this
theorem rowLv_of {us : List V} {i : Nat} (h : Paired (RowLv K H) us R) (hi : i < R.length) : ∃ v, us[i]? = some v ∧ RowLv K H v (R.getD i []) := by
  obtain ⟨v, hv, rv⟩ := pr_get h (List.getElem?_eq_getElem hi)
  refine ⟨v, hv, ?_⟩
  rw [List.getD_eq_getElem?_getD, List.getElem?_eq_getElem hi]
  exact rv
end
theorem catL {H : Hp} {a b : Addr} {xs ys : List V} {Q : VK} (h1 : H a = some (.lst xs)) (h2 : H b = some (.lst ys)) (hz : xs.length + ys.length ≤ 1000) (k : ∀ p' H', Same H H' → H p' = none → H' p' = some (.lst (xs ++ ys)) → Q (.ref p') H') : rCat (.ref a) (.ref b) H Q :=
  ⟨a, b, xs, ys, rfl, rfl, h1, h2, Nat.le_of_lt (Evl.sz_lt (by omega)), fun p hp => k p _ (same_new hp) hp upd_same⟩
theorem lc_zero {K : PySem.W.Frag} {a : Addr} {xs : List V} {s : Nat} {σ : L2.St} {H1 : Hp} {Qd : Addr → Hp → Prop} (hx : SqS K H1 a xs) (hz : xs.length ≤ 1000) (hd : ∀ D H, Same H1 H → H1 D = none → RowLv K H (.ref D) (zer xs.length) → Qd D H) :
    ((∃ xs, SqL K H1 a xs) ∧ ∀ D, H1 D = none → LcG (Itl K a) (gName s) (tTup (tCons (tC (.int 0)) (tCons (tC (.int 1)) tNil))) [s] σ H1 D (Qd D)) ∨
    ((∃ xs, SqT K H1 a xs) ∧ ∀ D, H1 D = none → LcG (Itt K a) (gName s) (tTup (tCons (tC (.int 0)) (tCons (tC (.int 1)) tNil))) [s] σ H1 D (Qd D)) := by
  refine lc_mapS hx (by omega) (fun i v H => Num K H v 0) (fun i v H H' s h => h.mono s) ?_ ?_
  · intro D hD i x H4 hi s4 ⟨acc, hacc⟩ Qe kq
    refine ⟨by simp [wipe], by show 2 ≤ sizeLine; decide, fun t ht => ?_⟩
    exact kq _ _ (same_new ht) (Num.rem (same_new ht _ _ hacc) (num01 upd_same))
  · intro D hD H ys s1 h1 hl hr
    refine hd D H (s1.trans rem_same) hD ⟨D, ys, rfl, h1, pr_of (by simp [zer, hl]) fun i v q e1 e2 => ?_⟩
    have := List.eq_of_mem_replicate (List.mem_of_getElem? e2)
    rw [this]
    exact (hr i v e1).mono rem_same
def spNoughts (K : PySem.W.Frag) : Sp := fun vs H Q _ => ∃ (t c : V) (n : Nat) (R : List (List Rat)) (i j : Nat), vs = [t, c, .int (i : Nat), .int (j : Nat)] ∧ Tbl K H t n R ∧ TabL K H c (core R) ∧ hbT 30000 R ∧ R.length ≤ 5 ∧ n ≤ 5 ∧ i < R.length ∧ j < n ∧ ∀ H', Same H H' → Q (.bl true) H'
theorem sc_law_noughts_in : FnScope ["_law_table", "_law_core", "_law_at", "_law_place", "_law_due", "_law_more", "_law_number", "_law_line"] ["_law_table", "_law_core", "_law_at", "_law_place"] (defScope (top 83)) := ⟨rfl, rfl, rfl, by decide +kernel, rfl, by decide +kernel, by decide +kernel⟩
theorem ok_law_noughts_in {P : Program} {w : World} {K : PySem.W.Frag} {mg : Str → Option Value} {base : Heap} (T : Txt P K mg base) : Fd P w K mg base 46 "_law_noughts_in" ["_law_table", "_law_core", "_law_at", "_law_place"] (spNoughts K) := by
  have sc := sc_law_noughts_in
  refine mkFd T "_law_noughts_in" 83 (by decide) sc (fun vs H Q E h => ?_) (fun _ _ _ _ _ _ us hl => match us, hl with | [_, _, _, _], _ => rfl) (fun cdv A outer s H vs Q E hr h => ?_)
  · obtain ⟨t, _, n, R, i, j, rfl, ht, ⟨L, uc, rfl, hL, huc⟩, bR, hR5, hn5, hi, hj, k⟩ := h
    rfl
  · obtain ⟨t, _, n, R, i, j, rfl, ht, ⟨L, uc, rfl, hL, huc⟩, bR, hR5, hn5, hi, hj, k⟩ := h
    refine ⟨_, (pss_cons (ps_set (i := 4) sc.nd rfl (Or.inl rfl) (pe_op (op_cat) (pe_op (op_cat) (pe_slice (r := rSlS K) sl_seq (pv 1) po_none (po_some (pv 2))) (pe_lst (pa_cons (pe_lc (own := [("_law_number", 6)]) (g := gName 6) rfl sc.nd (pi_seqK K rfl (pe_ix (r := rIx K) ix_seq (pv 1) pe_int (fun _ _ => rfl))) (blkOk_by (own := [("_law_number", 6)]) (N := ["_law_table", "_law_core", "_law_at", "_law_place", "_law_due", "_law_more", "_law_number", "_law_line"]) (sc := defScope (top 83)) (by decide +kernel)) (fun _ _ _ _ _ => pg_name (i := 6) sc.nd rfl (Or.inl rfl)) (fun _ _ _ _ _ => pts_nil) (fun _ _ _ _ _ => (pe_tup (pa_cons pe_int (pa_cons pe_int pa_nil))))) pa_nil))) (pe_slice (r := rSlS K) sl_seq (pv 1) (po_some (pv 2)) po_none)))
      (pss_cons (ps_set (i := 5) sc.nd rfl (Or.inl rfl) (pe_cm (ok_m_with_row T) T (hr.mono (by decide)) (pv 0) (pa_cons (pv 2) (pa_cons (pe_lc (own := [("_law_number", 6)]) (g := gName 6) rfl sc.nd (pi_seqK K rfl (pe_ix (r := rIx K) ix_seq (pv 1) pe_int (fun _ _ => rfl))) (blkOk_by (own := [("_law_number", 6)]) (N := ["_law_table", "_law_core", "_law_at", "_law_place", "_law_due", "_law_more", "_law_number", "_law_line"]) (sc := defScope (top 83)) (by decide +kernel)) (fun _ _ _ _ _ => pg_name (i := 6) sc.nd rfl (Or.inl rfl)) (fun _ _ _ _ _ => pts_nil) (fun _ _ _ _ _ => (pe_tup (pa_cons pe_int (pa_cons pe_int pa_nil))))) pa_nil))))
      (pss_cons (ps_if (pt_not (pt_val (pe_cf (ok_law_same T) (hr.mono (by decide)) rfl (pa_cons (pe_cf (ok_unmade T) (hr.mono (by decide)) rfl (pa_cons (pv 5) pa_nil)) (pa_cons (pv 4) pa_nil))))) (pss_one (ps_ret pe_bl)) pss_nil)
      (pss_cons (ps_set (i := 5) sc.nd rfl (Or.inl rfl) (pe_cm (ok_m_with_column T) T (hr.mono (by decide)) (pv 5) (pa_cons (pv 3) (pa_cons (pe_lc (own := [("_law_line", 7)]) (g := gName 7) rfl sc.nd (pi_seqK K rfl (pv 4)) (blkOk_by (own := [("_law_line", 7)]) (N := ["_law_table", "_law_core", "_law_at", "_law_place", "_law_due", "_law_more", "_law_number", "_law_line"]) (sc := defScope (top 83)) (by decide +kernel)) (fun _ _ _ _ _ => pg_name (i := 7) sc.nd rfl (Or.inl rfl)) (fun _ _ _ _ _ => pts_nil) (fun _ _ _ _ _ => (pe_tup (pa_cons pe_int (pa_cons pe_int pa_nil))))) pa_nil))))
      (pss_one (ps_ret (pe_cf (ok_law_same T) (hr.mono (by decide)) rfl (pa_cons (pe_cf (ok_cleared T) (hr.mono (by decide)) rfl (pa_cons (pv 5) pa_nil)) (pa_cons (pe_lc (own := [("_law_line", 7)]) (g := gName 7) rfl sc.nd (pi_seqK K rfl (pv 4)) (blkOk_by (own := [("_law_line", 7)]) (N := ["_law_table", "_law_core", "_law_at", "_law_place", "_law_due", "_law_more", "_law_number", "_law_line"]) (sc := defScope (top 83)) (by decide +kernel)) (fun _ _ _ _ _ => pg_name (i := 7) sc.nd rfl (Or.inl rfl)) (fun _ _ _ _ _ => pts_nil) (fun _ _ _ _ _ => (pe_op (op_cat) (pe_op (op_cat) (pe_slice (r := rSlS K) sl_seq (pv 7) po_none (po_some (pv 3))) (pe_lst (pa_cons (pe_tup (pa_cons pe_int (pa_cons pe_int pa_nil))) pa_nil))) (pe_slice (r := rSlS K) sl_seq (pv 7) (po_some (pv 3)) po_none)))) pa_nil))))))))), ?_⟩
    have hw := tbl_wide ht
    obtain ⟨_, h0, h12, hn0, hn12⟩ := ht.2
    have hcl : (core R).length = R.length := core_length R
    have hcw : Wide n (core R) := core_wide hw
    have ec := pr_len huc
    rw [hcl] at ec
    have lX : (ins i (zer n) R).length = R.length + 1 := ins_length _ _ _
    have wX : Wide n (ins i (zer n) R) := wide_ins hw
    have bX : hbT 30000 (ins i (zer n) R) := hbT_ins bR (by decide)
    have okX : okU 10000000 (ins i (zer n) R) := okS (bX.mono (by decide)) (by omega) (fun _ => bX)
    have eX : core (ins i (zer n) R) = ins i (zer n) (core R) := core_insz i (by omega) hw
    have bCX : hbT (4 * 10000000 + 1) (ins i (zer n) (core R)) := by
      rw [← eX]
      exact core_hb (bX.mono (by decide)) okX
    have wCX : Wide n (ins i (zer n) (core R)) := wide_ins hcw
    have lCX : (ins i (zer n) (core R)).length = R.length + 1 := by rw [ins_length, hcl]
    obtain ⟨v0, hv0, a0, u0, rfl, ha0, hu0⟩ := rowLv_of huc (show 0 < (core R).length by omega)
    have l0 : u0.length = n := by rw [pr_len hu0]; exact wide_at hcw (by omega)
    refine ⟨_, rfl, _, rfl, _, rfl, ?_⟩
    refine slL (ys := uc.take i) (SqL.of hL) (cut_to uc (by omega)) fun p1 H1 s1 _ hp1 => ?_
    refine ⟨_, rfl, ixS (i := 0) (.inl (SqL.of (s1 _ _ hL))) rfl hv0 ?_⟩
    refine ⟨a0, rfl, lc_zero (.inl (SqL.of (s1 _ _ ha0))) (by omega) fun D H2 s2 _ rD => ?_⟩
    rw [l0] at rD
    refine ⟨by show 1 ≤ sizeLine; decide, fun l2 hl2 => ?_⟩
    have s3 : Same H2 (upd H2 l2 (.lst [.ref D])) := same_new hl2
    have hz1 : (uc.take i).length + [V.ref D].length ≤ 1000 := by rw [List.length_take]; simp; omega
    refine catL (s3 _ _ (s2 _ _ hp1)) upd_same hz1 fun p4 H4 s4 _ hp4 => ?_
    have s14 := s2.trans (s3.trans s4)
    refine ⟨_, rfl, _, rfl, _, rfl, ?_⟩
    refine slL (ys := uc.drop i) (SqL.of (s14 _ _ (s1 _ _ hL))) (cut_from uc (by omega)) fun p5 H5 s5 _ hp5 => ?_
    have hz2 : (uc.take i ++ [V.ref D]).length + (uc.drop i).length ≤ 1000 := by simp; omega
    refine catL (s5 _ _ hp4) hp5 hz2 fun p6 H6 s6 _ hp6 => ?_
    have s06 := s1.trans (s14.trans (s5.trans s6))
    have hdue : TabL K H6 (.ref p6) (ins i (zer n) (core R)) := by
      have hu6 := rowLs_mono s06 huc
      exact ⟨p6, _, rfl, hp6, pr_app (pr_app (pr_take i hu6) (.cons (rD.mono (s3.trans (s4.trans (s5.trans s6)))) .nil)) (pr_drop i hu6)⟩
    obtain ⟨⟨pt, dx, rv, rfl, hpt, htt⟩, ct⟩ := id (ht.mono s06)
    refine ⟨_, rfl, pt, dx, _, rfl, hpt, tf_no _ _ _ (by decide +kernel), _, rfl, _, rfl, ixS (i := 0) (.inl (SqL.of (s06 _ _ hL))) rfl hv0 ?_⟩
    refine ⟨a0, rfl, lc_zero (.inl (SqL.of (s06 _ _ ha0))) (by omega) fun D7 H7 s7 _ rD7 => ?_⟩
    rw [l0] at rD7
    refine ⟨_, .ref D7, n, R, i, zer n, rfl, ht.mono (s06.trans s7), rD7.s, zer_len n, by omega, by omega, fun vm H8 s8 tm => ?_⟩
    have s68 := s7.trans s8
    refine ⟨_, rfl, vm, n, _, rfl, tm, okX, fun vu H9 s9 tu => ?_⟩
    rw [eX] at tu
    refine ⟨_, rfl, vu, .ref p6, n, _, 4 * 10000000 + 1, rfl, tu, (hdue.mono (s68.trans s9)).tab, bCX, by decide, fun Ha sa => ⟨true, rfl, iteF ?_⟩⟩
    have s8a := s9.trans sa
    obtain ⟨⟨pm, dm, rm, rfl, hpm, htm⟩, cm2⟩ := id (tm.mono s8a)
    obtain ⟨Ld, ud, e6, hLd, hud⟩ := hdue.mono (s68.trans s8a)
    cases e6
    have ed := pr_len hud
    rw [lCX] at ed
    refine ⟨_, rfl, pm, dm, _, rfl, hpm, tf_no _ _ _ (by decide +kernel), _, rfl, _, rfl, p6, rfl, lc_zero (.inl (SqL.of hLd)) (by omega) fun Db Hb sb _ rDb => ?_⟩
    rw [ed, ← lX] at rDb
    refine ⟨_, .ref Db, n, _, j, rfl, tm.mono (s8a.trans sb), rDb.s, by omega, by omega, fun vc Hc sc2 tc => ?_⟩
    have wY := wide_insc (k := j) wX
    have bY := hbT_insc (k := j) bX (by decide)
    have lY : ((ins i (zer n) R).map (ins j 0)).length = R.length + 1 := by rw [List.length_map, lX]
    have okY : okU 10000000 ((ins i (zer n) R).map (ins j 0)) := okS (bY.mono (by decide)) (by omega) (fun _ => bY)
    have eY : core ((ins i (zer n) R).map (ins j 0)) = (ins i (zer n) (core R)).map (ins j 0) := by
      rw [core_insc (by omega) wX, eX]
    have bCY : hbT (4 * 10000000 + 1) ((ins i (zer n) (core R)).map (ins j 0)) := by
      rw [← eY]
      exact core_hb (bY.mono (by decide)) okY
    refine ⟨_, rfl, vc, n + 1, _, rfl, tc, okY, fun vd Hd sd td => ?_⟩
    rw [eY] at td
    have sad := sb.trans (sc2.trans sd)
    refine ⟨_, rfl, p6, rfl, lc_mapS (.inl (SqL.of (sad _ _ hLd))) (by omega) (fun l v H => ∃ r, (ins i (zer n) (core R))[l]? = some r ∧ RowS K H v (ins j 0 r)) (fun i v H H' s ⟨r, a, b⟩ => ⟨r, a, b.mono s⟩) ?_ ?_⟩
    · intro De hDe l y He hl se ⟨acc, hacc⟩ Qe kq
      have sae := sad.trans (se.trans rem_same)
      obtain ⟨r, hr', rx⟩ := pr_getl hud hl
      obtain ⟨p3, u3, rfl, hp3, hu3⟩ := rx.mono sae
      have lr : r.length = n := wCX r (List.mem_of_getElem? hr')
      have l3 := pr_len hu3
      refine ⟨rfl, _, rfl, _, rfl, _, rfl, ?_⟩
      refine slL (ys := u3.take j) (SqL.of hp3) (cut_to u3 (by omega)) fun q4 H4 s4 _ hq4 => ?_
      refine ⟨by show 2 ≤ sizeLine; decide, fun t2 ht2 => ?_⟩
      have s5' : Same H4 (upd H4 t2 (.tup [.int 0, .int 1])) := same_new ht2
      have n5 : Num K (upd H4 t2 (.tup [.int 0, .int 1])) (.ref t2) 0 := num01 upd_same
      generalize upd H4 t2 (.tup [.int 0, .int 1]) = H5' at s5' n5 ⊢
      refine ⟨by show 1 ≤ sizeLine; decide, fun l6 hl6 => ?_⟩
      have s6' : Same H5' (upd H5' l6 (.lst [.ref t2])) := same_new hl6
      have hz1' : (u3.take j).length + [V.ref t2].length ≤ 1000 := by rw [List.length_take]; simp; omega
      refine catL (s6' _ _ (s5' _ _ hq4)) upd_same hz1' fun q7 H7' s7' _ hq7 => ?_
      have s47 := s4.trans (s5'.trans (s6'.trans s7'))
      refine ⟨_, rfl, _, rfl, _, rfl, ?_⟩
      refine slL (ys := u3.drop j) (SqL.of (s47 _ _ hp3)) (cut_from u3 (by omega)) fun q8 H8' s8' _ hq8 => ?_
      have hz2' : (u3.take j ++ [V.ref t2]).length + (u3.drop j).length ≤ 1000 := by simp; omega
      refine catL (s8' _ _ hq7) hq8 hz2' fun q9 H9' s9' hq90 hq9 => ?_
      have s49 := s47.trans (s8'.trans s9')
      have hne : q9 ≠ De := fun z => by
        have e := (s47.trans s8') _ _ hacc
        rw [← z, hq90] at e
        cases e
      have hu9 := nums_mono s49 hu3
      have hnum := pr_app (pr_app (pr_take j hu9) (.cons (n5.mono (s6'.trans (s7'.trans (s8'.trans s9')))) .nil)) (pr_drop j hu9)
      exact kq _ H9' s49 ⟨r, hr', q9, _, rfl, .inl (SqL.of (by rw [rem_ne hne]; exact hq9)), nums_rem (s49 _ _ hacc) hnum⟩
    · intro De hDe Hf ys sf hf hlf hrf
      have saf := sf.trans rem_same
      refine ⟨vd, .ref De, n + 1, _, 4 * 10000000 + 1, rfl, td.mono saf, ⟨De, ys, rfl, .inl (SqL.of hf), pr_of (by rw [List.length_map, hlf, lCX]; omega) fun l v r h1 h2 => ?_⟩, bCY, by decide, fun Hg sg => k Hg (s06.trans (s68.trans (s8a.trans (sad.trans (saf.trans sg)))))⟩
      obtain ⟨r', e1, e2⟩ := hrf l v h1
      rw [List.getElem?_map, e1] at h2
      cases h2
      exact e2.mono rem_same
def gB (ww r : Nat) : List Rat := (List.range ww).map fun (c : Nat) => ((1 + (r : Int) * (c : Int) : Int) : Rat)
theorem DSt.mut {d a : Addr} {H H' : Hp} {us : List V} (D : DSt d H H') (h0 : H a = none) (hne : a ≠ d) : DSt d H (upd H' a (.lst us)) := by
  refine ⟨fun b o e => ?_, let ⟨vs, e, i⟩ := D.dr; ⟨vs, by rw [upd_ne (Ne.symm hne)]; exact e, i⟩⟩
  have e' := D.same b o e
  have hba : b ≠ a := fun z => by
    subst z
    rw [rem_ne hne, h0] at e
    cases e
  by_cases hbd : b = d
  · subst hbd
    rw [rem_self] at e
    cases e
  · rw [rem_ne hbd] at e' ⊢
    rw [upd_ne hba]
    exact e'
def spBroad : Sp := fun vs H Q _ => ∃ (d : Addr), vs = [.ref d] ∧ Dr H d ∧ ∀ H', DSt d H H' → Q (.bl true) H'
theorem sc_law_broad : FnScope ["_law_draws_here", "_law_high", "_law_wide", "_law_rows", "_law_turn", "_law_core", "_law_table", "_law_line", "_law_c", "_law_r"] ["_law_draws_here"] (defScope (top 84)) := ⟨rfl, rfl, rfl, by decide +kernel, rfl, by decide +kernel, by decide +kernel⟩
theorem ok_law_broad {P : Program} {w : World} {K : PySem.W.Frag} {mg : Str → Option Value} {base : Heap} (T : Txt P K mg base) : Fd P w K mg base 46 "_law_broad" ["_law_draws_here"] (spBroad) := by
  have sc := sc_law_broad
  refine mkFd T "_law_broad" 84 (by decide) sc (fun vs H Q E h => ?_) (fun _ _ _ _ _ _ us hl => match us, hl with | [_], _ => rfl) (fun cdv A outer s H vs Q E hr h => ?_)
  · obtain ⟨d, rfl, hd, k⟩ := h
    rfl
  · obtain ⟨d, rfl, hd, k⟩ := h
    refine ⟨_, (pss_cons (ps_set (i := 1) sc.nd rfl (Or.inl rfl) (pe_op (op_add) pe_int (pe_cf (ok_law_take T) (hr.mono (by decide)) rfl (pa_cons (pv 0) (pa_cons pe_int pa_nil)))))
      (pss_cons (ps_set (i := 2) sc.nd rfl (Or.inr rfl) (pe_op (op_add) pe_int (pe_cf (ok_law_take T) (hr.mono (by decide)) rfl (pa_cons (pv 0) (pa_cons pe_int pa_nil)))))
      (pss_cons (ps_setLc (i := 3) (own := [("_law_r", 9)]) (g := gName 9) rfl sc.nd rfl rfl (sw_true rfl rfl rfl (by decide +kernel)) (pi_range1 rfl T.range (pa_cons (pv 1) pa_nil)) (blkOk_by (own := [("_law_r", 9)]) (N := ["_law_draws_here", "_law_high", "_law_wide", "_law_rows", "_law_turn", "_law_core", "_law_table", "_law_line", "_law_c", "_law_r"]) (sc := defScope (top 84)) (by decide +kernel)) (fun _ _ _ _ _ => pg_name (i := 9) sc.nd rfl (Or.inr rfl)) (fun _ _ _ _ _ => pts_nil) (fun _ _ _ _ _ => (pe_lc (own := [("_law_c", 8)]) (g := gName 8) rfl sc.nd (pi_range1 rfl T.range (pa_cons (pv 2) pa_nil)) (blkOk_by (own := [("_law_c", 8)]) (N := ["_law_draws_here", "_law_high", "_law_wide", "_law_rows", "_law_turn", "_law_core", "_law_table", "_law_line", "_law_c", "_law_r"]) (sc := (relabel (lcSc (stE ((defBody (top 84)).getD 2 dfS))) { scope := defScope (top 84), locals := 0, globals := 0, cells := [] })) (by decide +kernel)) (fun _ _ _ _ _ => pg_name (i := 8) sc.nd rfl (Or.inl rfl)) (fun _ _ _ _ _ => pts_nil) (fun _ _ _ _ _ => (pe_tup (pa_cons (pe_op (op_add) pe_int (pe_op (op_mulL) (pv 9) (pv 8))) (pa_cons pe_int pa_nil)))))))
      (pss_cons (ps_for PassesOwn.never rfl (pi_range1 rfl T.range (pa_cons pe_int pa_nil)) (pg_name (i := 4) sc.nd rfl (Or.inl rfl)) (pss_cons (ps_set (i := 5) sc.nd rfl (Or.inl rfl) (pe_cf (ok_law_unmade T) (hr.mono (by decide)) rfl (pa_cons (pv 3) pa_nil)))
      (pss_cons (ps_set (i := 6) sc.nd rfl (Or.inl rfl) (pe_ct (ok_m_init T) T (hr.mono (by decide)) rfl (pa_cons (pe_cf (ok_law_copy T) (hr.mono (by decide)) rfl (pa_cons (pv 3) pa_nil)) pa_nil)))
      (pss_cons (ps_if (PW.pt (pw_or (pt_not (pt_val (pe_cf (ok_law_same T) (hr.mono (by decide)) rfl (pa_cons (pe_cf (ok_unmade T) (hr.mono (by decide)) rfl (pa_cons (pv 6) pa_nil)) (pa_cons (pv 5) pa_nil))))) (pw_or1 (PW.pt (pw_and (pt_cmpR (op_eq) (pv 4) pe_int (nomark _)) (pw_and1 (pt_not (pt_val (pe_cf (ok_law_same T) (hr.mono (by decide)) rfl (pa_cons (pe_cf (ok_cleared T) (hr.mono (by decide)) rfl (pa_cons (pv 6) pa_nil)) (pa_cons (pv 5) pa_nil))))))))))) (pss_one (ps_ret pe_bl)) pss_nil)
      (pss_cons (ps_if (PW.pt (pw_or (pt_not (pt_val (pe_cf (ok_law_same T) (hr.mono (by decide)) rfl (pa_cons (pe_cf (ok_made T) (hr.mono (by decide)) rfl (pa_cons (pe_ct (ok_m_init T) T (hr.mono (by decide)) rfl (pa_cons (pe_cf (ok_law_copy T) (hr.mono (by decide)) rfl (pa_cons (pv 5) pa_nil)) pa_nil)) pa_nil)) (pa_cons (pv 3) pa_nil))))) (pw_or1 (pt_not (pt_val (pe_cf (ok_law_same T) (hr.mono (by decide)) rfl (pa_cons (pe_cf (ok_unmade T) (hr.mono (by decide)) rfl (pa_cons (pe_un (un_inv_tab (ok_m_invert T) T (hr.mono (by decide))) (pv 6)) pa_nil)) (pa_cons (pe_cf (ok_law_turned T) (hr.mono (by decide)) rfl (pa_cons (pv 5) pa_nil)) pa_nil)))))))) (pss_one (ps_ret pe_bl)) pss_nil)
      (pss_cons (ps_set (i := 7) sc.nd rfl (Or.inl rfl) (pe_ix (r := rIx K) ix_seq (pv 3) (pe_cf (ok_law_take T) (hr.mono (by decide)) rfl (pa_cons (pv 0) (pa_cons (pv 1) pa_nil))) (fun _ _ => rfl)))
      (pss_one (ps_asg (pe_tup (pa_cons (pe_cf (ok_law_take T) (hr.mono (by decide)) rfl (pa_cons (pv 0) (pa_cons pe_int pa_nil))) (pa_cons pe_int pa_nil))) (pg_sub (pv 7) (pe_cf (ok_law_take T) (hr.mono (by decide)) rfl (pa_cons (pv 0) (pa_cons (pv 2) pa_nil))) set_list)))))))))
      (pss_one (ps_ret pe_bl)))))), ?_⟩
    refine ⟨_, rfl, d, _, rfl, by decide, hd, fun a H1 ha s1 => ⟨_, _, rfl, rfl, ?_⟩⟩
    refine ⟨_, rfl, d, _, rfl, by decide, s1.dr, fun b H2 hb2 s2 => ⟨_, _, rfl, rfl, ?_⟩⟩
    obtain ⟨hh, ehh⟩ : ∃ hh : Nat, hh = 7 + a := ⟨_, rfl⟩
    obtain ⟨ww, eww⟩ : ∃ ww : Nat, ww = 7 + b := ⟨_, rfl⟩
    have hd2 := s2.dr
    have s12 := s1.trans s2
    refine ⟨_, rfl, _, rfl, by omega, by omega, lm_R (K := K) (G := gB ww) (by omega) ?_ ?_⟩
    · intro D hD i H4 hi s4 Qe kq
      have hi' : i < hh := by omega
      refine ⟨rfl, _, rfl, _, rfl, by omega, by omega, lc_mapR (by omega) (fun l v H => Num K H v ((1 + (i : Int) * (l : Int) : Int) : Rat)) (fun i v H H' s h => h.mono s) ?_ ?_⟩
      · intro D2 hD2 l H5 hl s5 ⟨acc, hacc⟩ Qe2 kq2
        refine ⟨rfl, _, rfl, _, rfl, _, _, rfl, rfl, ⟨5, 5, by omega, by omega, by decide⟩, _, _, rfl, rfl, by show 2 ≤ sizeLine; decide, fun t ht => ?_⟩
        refine kq2 _ _ (same_new ht) (Num.rem (same_new ht _ _ hacc) ⟨t, rfl, SqT.of ?_⟩)
        rw [Rat.num_intCast, Rat.den_intCast]
        have e1 : (0 : Int) + (i : Int) = i := by omega
        have e2 : (0 : Int) + (l : Int) = l := by omega
        show upd H5 t (.tup [.int (1 + (0 + (i : Int)) * (0 + (l : Int))), .int 1]) t = _
        rw [e1, e2]
        exact upd_same
      · intro D2 hD2 H5 ys s5 h5 hl5 hr5
        refine kq D2 _ (s5.trans rem_same) hD2 ⟨ys, h5, pr_of (by unfold gB; rw [List.length_map, List.length_range]; omega) fun l v q h1 h2 => ?_⟩
        unfold gB at h2
        have hlw : l < ww := by
          have := (List.getElem?_eq_some_iff.mp h2).1
          simpa using this
        rw [List.getElem?_map, List.getElem?_range hlw] at h2
        cases h2
        exact (hr5 l v h1).mono rem_same
    · intro L hL0 H3 ads s3 hM0 hfr
      have s23 : Same H2 H3 := s3.trans rem_same
      rw [show ((7 : Int) + (a : Int)).toNat = hh by omega] at hM0
      have lG : ((List.range hh).map (gB ww)).length = hh := by simp
      have wG : Wide ww ((List.range hh).map (gB ww)) := fun z hz => by
        obtain ⟨r, _, rfl⟩ := List.mem_map.mp hz
        simp [gB]
      have bG : hbT 7 ((List.range hh).map (gB ww)) := fun z hz => by
        obtain ⟨r, hr', rfl⟩ := List.mem_map.mp hz
        intro q hq
        obtain ⟨c, hc', rfl⟩ := List.mem_map.mp hq
        have h1 := List.mem_range.mp hr'
        have h2 := List.mem_range.mp hc'
        refine hb_int ?_ (by decide)
        have h3 : r * c ≤ 11 * 11 := Nat.mul_le_mul (by omega) (by omega)
        have h4 : (1 + (r : Int) * (c : Int)) = ((1 + r * c : Nat) : Int) := by
          rw [Int.natCast_add, Int.natCast_mul]
          rfl
        rw [h4, Int.natAbs_natCast]
        omega
      generalize (List.range hh).map (gB ww) = X0 at hM0 lG wG bG
      refine ⟨_, rfl, by decide, by decide, ?_⟩
      refine for_range (lo := 0) (n := (2 : Int).toNat) (fun t σ H' => ∃ X, DSt d H2 H' ∧ Mat K H' L ads X ∧ X.length = hh ∧ Wide ww X ∧ hbT 7 X ∧ ∃ w4 w5 w6 w7 w8 w9, σ = [some (.ref d), some (.int (7 + (a : Int))), some (.int (7 + (b : Int))), some (.ref L), w4, w5, w6, w7, w8, w9])
        ⟨X0, hd2.step s23, hM0, lG, wG, bG, _, _, _, _, _, _, rfl⟩ ?_ ?_
      · rintro t σ H' ht ⟨X, dS, hM, lX, wX, bX, w4, w5, w6, w7, w8, w9, rfl⟩
        have ht2 : t < 2 := ht
        rcases (show t = 0 ∨ t = 1 by omega) with rfl | rfl
        · skip
          have hMt : Mat K H' L ads X := hM
          have bXB : hbT 10000000 X := bX.mono (by decide)
          have okX : okU 10000000 X := ok12 bX (Nat.le_refl _) (by omega)
          have bC : hbT (4 * 10000000 + 1) (core X) := core_hb bXB okX
          refine ⟨_, rfl, .ref L, ww, X, rfl, hM.tab, wX, by omega, by omega, by omega, okX, fun vc H4 s4 nc => ?_⟩
          refine ⟨_, rfl, .ref L, X, rfl, (hM.mono s4).tab, by omega, fun vk H5 s5 nk => ?_⟩
          refine tab_mk (n := ww) (R := X) nk.tab wX (by omega) (by omega) (by omega) (by omega) (fun x H6 s6 tt => ⟨rfl, ?_⟩)
          refine ⟨_, rfl, .ref x, ww, X, rfl, tt, okX, fun vu H7 s7 tu => ?_⟩
          refine ⟨_, rfl, vu, vc, ww, core X, 4 * 10000000 + 1, rfl, tu, (nc.fwd (s5.trans (s6.trans s7))).tab, bC, by decide, fun H8 s8 => ⟨true, rfl, iteF ?_⟩⟩
          refine ⟨_, rfl, rfl, _, rfl, iteDN (int_ne (by decide)) ?_⟩
          have s8x : Same H8 H8 := Same.refl _
          generalize hHx : H8 = Hx at s8x
          have s48 := s4.trans (s5.trans (s6.trans (s7.trans s8)))
          rw [hHx] at s48
          have s68 := s7.trans s8
          rw [hHx] at s68
          have nc8 : NewM K H' Hx vc (core X) := nc.fwd ((s5.trans s6).trans s68)
          have tt8 : Tbl K Hx (.ref x) ww X := tt.mono s68
          have hM8 : Mat K Hx L ads X := hM.mono s48
          refine ⟨_, rfl, vc, core X, rfl, nc8.tab, by rw [core_length]; omega, fun vk2 H9 s9 nk2 => ?_⟩
          refine tab_mk (n := ww) (R := core X) nk2.tab (core_wide wX) (by rw [core_length]; omega) (by rw [core_length]; omega) (by omega) (by omega) (fun x2 Ha sa t2 => ⟨rfl, ?_⟩)
          refine ⟨.ref x2, ww, X, rfl, t2, wX, okX, fun vm Hb sb tm => ?_⟩
          have s8b' := s9.trans (sa.trans sb)
          refine ⟨_, rfl, vm, .ref L, ww, X, 7, rfl, tm, (hM8.mono s8b').tab, bX, by decide, fun Hc sc2 => ⟨true, rfl, iteF ?_⟩⟩
          have s8c := s8b'.trans sc2
          have ttc := tt8.mono s8c
          obtain ⟨⟨px, dx, rx, ex, hpx, htx⟩, cx⟩ := id ttc
          cases ex
          refine ⟨_, rfl, x, dx, _, rfl, hpx, _, ww, X, rfl, ttc, fun vi Hd sd ti => ?_⟩
          rw [lX] at ti
          have lT : (tr ww X).length = ww := tr_length _ _
          have bT : hbT 7 (tr ww X) := hbT_tr bX wX
          have okT : okU 10000000 (tr ww X) := ok12 bT (Nat.le_refl _) (by omega)
          have eT : core (tr ww X) = tr ww (core X) := core_tr wX
          refine ⟨vi, hh, tr ww X, rfl, ti, okT, fun vb He se tb => ?_⟩
          rw [eT] at tb
          have bCT : hbT (4 * 10000000 + 1) (tr ww (core X)) := hbT_tr bC (core_wide wX)
          have s8e := s8c.trans (sd.trans se)
          refine ⟨_, rfl, vc, ww, core X, rfl, (nc8.fwd s8e).tab, core_wide wX, by rw [core_length]; omega, by rw [core_length]; omega, by omega, fun vt Hf sf nt => ?_⟩
          refine ⟨vb, vt, hh, tr ww (core X), 4 * 10000000 + 1, rfl, tb.mono sf, nt.tab, bCT, by decide, fun Hg sg => ⟨true, rfl, iteF ?_⟩⟩
          have s4g := s48.trans (s8e.trans (sf.trans sg))
          have dg := dS.step s4g
          have hMg : Mat K Hg L ads X := hM.mono s4g
          refine ⟨_, rfl, _, rfl, _, rfl, d, _, rfl, by omega, dg.dr, fun r Hh hr2 dh => ?_⟩
          have hrX : r < X.length := by omega
          have alive : ∀ (a : Addr), a ∈ ads → a ≠ d := fun a ha z => by
            obtain ⟨us, e, _⟩ := hd2
            rw [← z, hfr a ha] at e
            cases e
          have hLd : L ≠ d := hd2.alive hL0
          have hMh : Mat K (rem d Hh) L ads X := ((let ⟨us, e, _⟩ := dg.dr; hMg.rem e hLd (fun z => alive d z rfl))).mono dh.same
          obtain ⟨a1, us1, ha1, e1, n1⟩ := hMh.at hrX
          have hL1 := rem_same _ _ hMh.out
          refine ixS (i := r) (.inl (SqL.of hL1)) rfl (by rw [List.getElem?_map, ha1]; rfl) ?_
          refine ⟨_, rfl, d, _, rfl, by decide, dh.dr, fun e Hi he di => ⟨by show 2 ≤ sizeLine; decide, fun t0 ht0 => ?_⟩⟩
          have sj : Same Hi (upd Hi t0 (.tup [.int (e : Nat), .int 1])) := same_new ht0
          have nj : Num K (upd Hi t0 (.tup [.int (e : Nat), .int 1])) (.ref t0) (((e : Nat) : Int) : Rat) := ⟨t0, rfl, SqT.of (by rw [Rat.num_intCast, Rat.den_intCast]; exact upd_same)⟩
          generalize upd Hi t0 (.tup [.int (e : Nat), .int 1]) = Hj at sj nj ⊢
          have dj := di.step sj
          refine ⟨_, rfl, _, rfl, _, rfl, d, _, rfl, by omega, dj.dr, fun c Hk hc2 dk => ?_⟩
          have hMk : Mat K (rem d Hk) L ads X := hMh.mono (dj.trans dk).same
          obtain ⟨a2, us2, ha2, e2, n2⟩ := hMk.at hrX
          rw [ha1] at ha2
          cases ha2
          have lus : us2.length = ww := by rw [pr_len n2]; exact wide_at wX hrX
          have ea := rem_same _ _ e2
          refine ⟨a1, us2, _, c, rfl, rfl, ea, ixN_of rfl (by omega), ?_⟩
          have nk3 : Num K Hk (.ref t0) (((e : Nat) : Int) : Rat) := by
            obtain ⟨ud, eud, _⟩ := dj.dr
            exact (((nj.rem eud).mono dk.same)).mono rem_same
          have hMs := (hMk.mono rem_same).setIn (c := c) ha1 ea nk3
          have had : a1 ≠ d := alive a1 (List.mem_of_getElem? ha1)
          have dl : DSt d H2 (upd Hk a1 (.lst (us2.set c (.ref t0)))) := ((dg.trans dh).trans (dj.trans dk)).mut (hfr a1 (List.mem_of_getElem? ha1)) had
          exact ⟨_, dl, hMs, by rw [setM_length]; exact lX, setM_wide wX, hbT_setM bX (hb_int (by omega) (by decide)), _, _, _, _, _, _, rfl⟩
        · skip
          have hMt : Mat K H' L ads X := hM
          have bXB : hbT 10000000 X := bX.mono (by decide)
          have okX : okU 10000000 X := ok12 bX (Nat.le_refl _) (by omega)
          have bC : hbT (4 * 10000000 + 1) (core X) := core_hb bXB okX
          refine ⟨_, rfl, .ref L, ww, X, rfl, hM.tab, wX, by omega, by omega, by omega, okX, fun vc H4 s4 nc => ?_⟩
          refine ⟨_, rfl, .ref L, X, rfl, (hM.mono s4).tab, by omega, fun vk H5 s5 nk => ?_⟩
          refine tab_mk (n := ww) (R := X) nk.tab wX (by omega) (by omega) (by omega) (by omega) (fun x H6 s6 tt => ⟨rfl, ?_⟩)
          refine ⟨_, rfl, .ref x, ww, X, rfl, tt, okX, fun vu H7 s7 tu => ?_⟩
          refine ⟨_, rfl, vu, vc, ww, core X, 4 * 10000000 + 1, rfl, tu, (nc.fwd (s5.trans (s6.trans s7))).tab, bC, by decide, fun H8 s8 => ⟨true, rfl, iteF ?_⟩⟩
          refine ⟨_, rfl, rfl, _, rfl, iteD (by rfl) ?_⟩
          refine ⟨_, rfl, .ref x, ww, X, rfl, tt.mono (s7.trans s8), okX, fun vw H8a s8a tw => ?_⟩
          refine ⟨_, rfl, vw, vc, ww, core X, 4 * 10000000 + 1, rfl, tw, (nc.fwd (s5.trans (s6.trans (s7.trans (s8.trans s8a))))).tab, bC, by decide, fun Hx s8b => ⟨true, rfl, iteF ?_⟩⟩
          have s48 := s4.trans (s5.trans (s6.trans (s7.trans (s8.trans (s8a.trans s8b)))))
          have s68 := s7.trans (s8.trans (s8a.trans s8b))
          have nc8 : NewM K H' Hx vc (core X) := nc.fwd ((s5.trans s6).trans s68)
          have tt8 : Tbl K Hx (.ref x) ww X := tt.mono s68
          have hM8 : Mat K Hx L ads X := hM.mono s48
          refine ⟨_, rfl, vc, core X, rfl, nc8.tab, by rw [core_length]; omega, fun vk2 H9 s9 nk2 => ?_⟩
          refine tab_mk (n := ww) (R := core X) nk2.tab (core_wide wX) (by rw [core_length]; omega) (by rw [core_length]; omega) (by omega) (by omega) (fun x2 Ha sa t2 => ⟨rfl, ?_⟩)
          refine ⟨.ref x2, ww, X, rfl, t2, wX, okX, fun vm Hb sb tm => ?_⟩
          have s8b' := s9.trans (sa.trans sb)
          refine ⟨_, rfl, vm, .ref L, ww, X, 7, rfl, tm, (hM8.mono s8b').tab, bX, by decide, fun Hc sc2 => ⟨true, rfl, iteF ?_⟩⟩
          have s8c := s8b'.trans sc2
          have ttc := tt8.mono s8c
          obtain ⟨⟨px, dx, rx, ex, hpx, htx⟩, cx⟩ := id ttc
          cases ex
          refine ⟨_, rfl, x, dx, _, rfl, hpx, _, ww, X, rfl, ttc, fun vi Hd sd ti => ?_⟩
          rw [lX] at ti
          have lT : (tr ww X).length = ww := tr_length _ _
          have bT : hbT 7 (tr ww X) := hbT_tr bX wX
          have okT : okU 10000000 (tr ww X) := ok12 bT (Nat.le_refl _) (by omega)
          have eT : core (tr ww X) = tr ww (core X) := core_tr wX
          refine ⟨vi, hh, tr ww X, rfl, ti, okT, fun vb He se tb => ?_⟩
          rw [eT] at tb
          have bCT : hbT (4 * 10000000 + 1) (tr ww (core X)) := hbT_tr bC (core_wide wX)
          have s8e := s8c.trans (sd.trans se)
          refine ⟨_, rfl, vc, ww, core X, rfl, (nc8.fwd s8e).tab, core_wide wX, by rw [core_length]; omega, by rw [core_length]; omega, by omega, fun vt Hf sf nt => ?_⟩
          refine ⟨vb, vt, hh, tr ww (core X), 4 * 10000000 + 1, rfl, tb.mono sf, nt.tab, bCT, by decide, fun Hg sg => ⟨true, rfl, iteF ?_⟩⟩
          have s4g := s48.trans (s8e.trans (sf.trans sg))
          have dg := dS.step s4g
          have hMg : Mat K Hg L ads X := hM.mono s4g
          refine ⟨_, rfl, _, rfl, _, rfl, d, _, rfl, by omega, dg.dr, fun r Hh hr2 dh => ?_⟩
          have hrX : r < X.length := by omega
          have alive : ∀ (a : Addr), a ∈ ads → a ≠ d := fun a ha z => by
            obtain ⟨us, e, _⟩ := hd2
            rw [← z, hfr a ha] at e
            cases e
          have hLd : L ≠ d := hd2.alive hL0
          have hMh : Mat K (rem d Hh) L ads X := ((let ⟨us, e, _⟩ := dg.dr; hMg.rem e hLd (fun z => alive d z rfl))).mono dh.same
          obtain ⟨a1, us1, ha1, e1, n1⟩ := hMh.at hrX
          have hL1 := rem_same _ _ hMh.out
          refine ixS (i := r) (.inl (SqL.of hL1)) rfl (by rw [List.getElem?_map, ha1]; rfl) ?_
          refine ⟨_, rfl, d, _, rfl, by decide, dh.dr, fun e Hi he di => ⟨by show 2 ≤ sizeLine; decide, fun t0 ht0 => ?_⟩⟩
          have sj : Same Hi (upd Hi t0 (.tup [.int (e : Nat), .int 1])) := same_new ht0
          have nj : Num K (upd Hi t0 (.tup [.int (e : Nat), .int 1])) (.ref t0) (((e : Nat) : Int) : Rat) := ⟨t0, rfl, SqT.of (by rw [Rat.num_intCast, Rat.den_intCast]; exact upd_same)⟩
          generalize upd Hi t0 (.tup [.int (e : Nat), .int 1]) = Hj at sj nj ⊢
          have dj := di.step sj
          refine ⟨_, rfl, _, rfl, _, rfl, d, _, rfl, by omega, dj.dr, fun c Hk hc2 dk => ?_⟩
          have hMk : Mat K (rem d Hk) L ads X := hMh.mono (dj.trans dk).same
          obtain ⟨a2, us2, ha2, e2, n2⟩ := hMk.at hrX
          rw [ha1] at ha2
          cases ha2
          have lus : us2.length = ww := by rw [pr_len n2]; exact wide_at wX hrX
          have ea := rem_same _ _ e2
          refine ⟨a1, us2, _, c, rfl, rfl, ea, ixN_of rfl (by omega), ?_⟩
          have nk3 : Num K Hk (.ref t0) (((e : Nat) : Int) : Rat) := by
            obtain ⟨ud, eud, _⟩ := dj.dr
            exact (((nj.rem eud).mono dk.same)).mono rem_same
          have hMs := (hMk.mono rem_same).setIn (c := c) ha1 ea nk3
          have had : a1 ≠ d := alive a1 (List.mem_of_getElem? ha1)
          have dl : DSt d H2 (upd Hk a1 (.lst (us2.set c (.ref t0)))) := ((dg.trans dh).trans (dj.trans dk)).mut (hfr a1 (List.mem_of_getElem? ha1)) had
          exact ⟨_, dl, hMs, by rw [setM_length]; exact lX, setM_wide wX, hbT_setM bX (hb_int (by omega) (by decide)), _, _, _, _, _, _, rfl⟩
      · rintro σ H' ⟨X, dS, hM, lX, wX, bX, w4, w5, w6, w7, w8, w9, rfl⟩
        exact k H' (s12.trans dS)
end MU
namespace MU
open PySem PySem.Spec PyProof.Rows L2 He MM
theorem seq_mid {tc : TT} {ta tb rest : TS} {D : Ends} {σ : L2.St} {H : Hp} (Mid : L2.St → Hp → Prop) (h1 : ∀ nx' : L2.St → Hp → Prop, (∀ σ' H', Mid σ' H' → nx' σ' H') → tIfS tc ta tb { D with nx := nx' } σ H) (h2 : ∀ σ' H', Mid σ' H' → rest D σ' H') : tSeq (tIfS tc ta tb) rest D σ H := h1 _ h2
theorem rem_comm {a b : Addr} {H : Hp} : rem a (rem b H) = rem b (rem a H) := by
  funext c
  by_cases h1 : c = a
  · subst h1
    rw [rem_self]
    by_cases h2 : c = b
    · subst h2
      rw [rem_self]
    · rw [rem_ne h2, rem_self]
  · rw [rem_ne h1]
    by_cases h2 : c = b
    · subst h2
      rw [rem_self, rem_self]
    · rw [rem_ne h2, rem_ne h2, rem_ne h1]
theorem lc_elem {g : TG} {te : TE} {σ : L2.St} {vs : List Nat} {x : V} {H : Hp} {Qe : VK} {Z : Hp → Prop} (h : g x (wipe σ vs) H fun σ2 H2 => wipe σ2 vs = wipe σ vs ∧ te σ2 H2 Qe) :
    g x (wipe σ vs) H fun σ2 H2 => wipe σ2 vs = wipe σ vs ∧ tYes σ2 H2 fun b H3 => if b = true then te σ2 H3 Qe else Z H3 := h
theorem Mat.push {K : PySem.W.Frag} {H : Hp} {D b : Addr} {ads : List Addr} {R : List (List Rat)} {r : List Rat} (h : Mat K H D ads R) (hb0 : b ∉ ads) (hbD : b ≠ D) (m : RowL K H b r) :
    Mat K (L2.upd H D (.lst (ads.map V.ref ++ [.ref b]))) D (ads ++ [b]) (R ++ [r]) := by
  refine ⟨by rw [upd_same, List.map_append]; rfl, ?_, ?_, ?_⟩
  · exact List.nodup_append.mpr ⟨h.nd, by simp, fun x hx y hy => by
      have : y = b := by simpa using hy
      subst this
      exact fun z => hb0 (z ▸ hx)⟩
  · intro z
    rcases List.mem_append.mp z with z | z
    · exact h.ne z
    · exact hbD (by simpa using z : D = b).symm
  · exact pr_app (pr_mono' h.rows fun a r hm z => z.upd h.out fun y => h.ne (y ▸ hm)) (.cons (m.upd h.out hbD) .nil)
theorem Tbl.rem {K : PySem.W.Frag} {H : Hp} {v : V} {n : Nat} {R : List (List Rat)} {D : Addr} {us : List V} (hD : H D = some (.lst us)) (h : Tbl K H v n R) : Tbl K (MU.rem D H) v n R := by
  obtain ⟨⟨p, dx, rv, e, a, b⟩, c⟩ := h
  refine ⟨⟨p, dx, rv, e, ?_, b.rem hD⟩, c⟩
  rw [rem_ne (fun z => by rw [z, hD] at a; cases a)]
  exact a
theorem hbT_corner {b i j : Nat} {R : List (List Rat)} (h : hbT b R) : hbT b ((R.drop i).map (List.drop j)) := fun z hz => by
  obtain ⟨r, hr, rfl⟩ := List.mem_map.mp hz
  exact (h r (List.mem_of_mem_drop hr)).drop j
def c32 : Rat := ⟨-3, 2, by decide, by decide⟩
theorem hb_32 : hb 31 c32 := ⟨by show (-3 : Int).natAbs < 2 ^ 31; decide, by show 2 < 2 ^ 31; decide⟩
theorem ne_32 : c32 ≠ 0 := fun h => absurd (congrArg Rat.num h) (by show ¬ ((-3 : Int) = 0); decide)
def RwP (K : PySem.W.Frag) (d : Addr) (H1 : Hp) (D : Addr) (ww i : Nat) (H : Hp) : Prop := Same (rem d H1) (rem d (rem D H)) ∧ Dr H d ∧ ∃ ads R, Mat K H D ads R ∧ R.length = i ∧ Wide ww R ∧ hbT 31 R ∧ ∀ a ∈ ads, H1 a = none
def CwP (K : PySem.W.Frag) (d : Addr) (H : Hp) (D2 : Addr) (j : Nat) (H' : Hp) : Prop := Same (rem d H) (rem d (rem D2 H')) ∧ Dr H' d ∧ ∃ zs r, H' D2 = some (.lst zs) ∧ Paired (Num K (rem D2 H')) zs r ∧ r.length = j ∧ hbR 31 r
theorem rwP_zero {K : PySem.W.Frag} {d D : Addr} {H1 : Hp} {ww : Nat} (hd : Dr H1 d) (hD : H1 D = none) : RwP K d H1 D ww 0 (upd H1 D (.lst [])) := by
  have hne := hd.alive hD
  refine ⟨by rw [rem_upd]; exact rem_mono (to_rem (Same.refl _) hD), (hd.step (same_new hD)).dr, [], [], ⟨upd_same, .nil, by simp, .nil⟩, rfl, fun z hz => by simp at hz, fun z hz => by simp at hz, fun z hz => by simp at hz⟩
theorem cwP_zero {K : PySem.W.Frag} {d D : Addr} {H1 : Hp} (hd : Dr H1 d) (hD : H1 D = none) : CwP K d H1 D 0 (upd H1 D (.lst [])) :=
  ⟨by rw [rem_upd]; exact rem_mono (to_rem (Same.refl _) hD), (hd.step (same_new hD)).dr, [], [], upd_same, .nil, rfl, fun z hz => by simp at hz⟩
theorem cwP_step {K : PySem.W.Frag} {d D2 : Addr} {H H' H4 : Hp} {j : Nat} {v : V} {q : Rat} (hne : D2 ≠ d) (p : CwP K d H D2 j H') (s4 : DSt d H' H4) (n4 : Num K H4 v q) (b4 : hb 31 q) (hj : j ≤ 1000) :
    ∃ acc, H4 D2 = some (.lst acc) ∧ acc.length < sizeLine ∧ CwP K d H D2 (j + 1) (upd H4 D2 (.lst (acc ++ [v]))) := by
  obtain ⟨h1, h2, zs, r, h3, h4, h5, h6⟩ := p
  have e4 := s4.at h3 hne
  obtain ⟨ud, eud, iud⟩ := id h2
  have s24 : Same (rem d (rem D2 H')) (rem d (rem D2 H4)) := by
    rw [rem_comm, rem_comm (a := d)]
    exact rem_mono s4.same
  have eud2 : rem D2 H' d = some (.lst ud) := by rw [rem_ne (Ne.symm hne)]; exact eud
  refine ⟨zs, e4, Evl.sz_lt (by rw [pr_len h4, h5]; omega), by rw [rem_upd]; exact h1.trans s24, ?_, zs ++ [v], r ++ [q], upd_same, ?_, ?_, fun x hx => ?_⟩
  · obtain ⟨u4, eu4, iu4⟩ := s4.dr
    exact ⟨u4, by rw [upd_ne (Ne.symm hne)]; exact eu4, iu4⟩
  · exact grown (r := r) (q := q) e4 (nums_mono rem_same (nums_mono s24 (nums_rem eud2 h4))) n4
  · rw [List.length_append, h5]
    rfl
  · rcases List.mem_append.mp hx with z | z
    · exact h6 x z
    · have : x = q := by simpa using z
      rw [this]
      exact b4
theorem rwP_step {K : PySem.W.Frag} {d D D2 : Addr} {H1 H H2 : Hp} {ww i : Nat} (hd1 : Dr H1 d) (hD : H1 D = none) (p : RwP K d H1 D ww i H) (hD2 : H D2 = none) (c : CwP K d H D2 ww H2) (hi : i ≤ 1000) :
    ∃ acc, H2 D = some (.lst acc) ∧ acc.length < sizeLine ∧ RwP K d H1 D ww (i + 1) (upd H2 D (.lst (acc ++ [.ref D2]))) := by
  obtain ⟨h1, h2, ads, R, hM, h4, h5, h6, h7⟩ := p
  obtain ⟨c1, c2, zs, r, c3, c4, c5, c6⟩ := c
  have hDd : D ≠ d := hd1.alive hD
  have hD2d : D2 ≠ d := h2.alive hD2
  obtain ⟨f1, f2⟩ := hM.fresh hD2
  obtain ⟨ud, eud, iud⟩ := id h2
  have hdads : d ∉ ads := fun z => by
    obtain ⟨k, hk⟩ := List.mem_iff_getElem?.mp z
    have := h7 d z
    obtain ⟨us, e, _⟩ := hd1
    rw [e] at this
    cases this
  have hM2 : Mat K H2 D ads R := (((hM.rem eud hDd hdads).mono c1).mono rem_same).mono rem_same
  have rl : RowL K H2 D2 r := ⟨zs, c3, nums_mono rem_same c4⟩
  refine ⟨_, hM2.out, Evl.sz_lt (by rw [List.length_map, hM2.len, h4]; omega), ?_, ?_, _, _, hM2.push f1 f2 rl, by rw [List.length_append, h4]; rfl, fun z hz => ?_, fun z hz => ?_, fun a ha => ?_⟩
  · rw [rem_upd]
    refine h1.trans ?_
    have s1 : Same (rem D (rem d H)) (rem D (rem d (rem D2 H2))) := rem_mono c1
    have s2 : Same (rem D (rem d (rem D2 H2))) (rem D (rem d H2)) := rem_mono (rem_mono rem_same)
    rw [rem_comm (a := d), rem_comm (a := d) (b := D)]
    exact s1.trans s2
  · obtain ⟨u2, eu2, iu2⟩ := c2
    exact ⟨u2, by rw [upd_ne (Ne.symm hDd)]; exact eu2, iu2⟩
  · rcases List.mem_append.mp hz with z' | z'
    · exact h5 z z'
    · have : z = r := by simpa using z'
      rw [this, c5]
  · rcases List.mem_append.mp hz with z' | z'
    · exact h6 z z'
    · have : z = r := by simpa using z'
      rw [this]
      exact c6
  · rcases List.mem_append.mp ha with z' | z'
    · exact h7 a z'
    · have : a = D2 := by simpa using z'
      rw [this]
      cases e : H1 D2 with
      | none => rfl
      | some o =>
        have e1 : rem d H1 D2 = some o := by rw [rem_ne hD2d]; exact e
        have e2 := rem_same _ _ (rem_same _ _ (h1 _ _ e1))
        rw [hD2] at e2
        cases e2
theorem mkFx {P : Program} {w : World} {K : PySem.W.Frag} {mg : Str → Option Value} {base : Heap} {N ps : List Str} {k : Nat} {sp : Sp} {x : Str} {i : Nat} {fd : FuncData} (F : Fnd K x x (top i) (ga K x) fd) (S : FnScope N ps (defScope (top i))) (len : ∀ vs H Q E, sp vs H Q E → vs.length = ps.length)
    (hbody : ∀ (cdv : Value) (A : Around) (outer : List Env) (s : Shared) (H : Hp) (vs : List V) (Q : VK) (E : XK), Room k (A.deeper (envOfC x (defScope (top i)) s.heap.objs.size (ga K x) cdv)) → sp vs H Q E →
      ∃ t, PSs (cxOf CX0 P w K mg base N x (defScope (top i)) (ga K x) cdv A outer s H E).nox (defBody (top i)) t ∧ t { nx := fun _ H' => Q .non H', rt := Q } (start N vs) H) : FnOk P w K mg base CX0 (k + 1) (ga K x) fd ps sp :=
  F.ok S len fun cdv A outer s H vs Q E hr h => by
    obtain ⟨t, a, b⟩ := hbody cdv A outer s H vs Q E hr h
    exact ⟨t, a.nox, b⟩
def spLaw (K : PySem.W.Frag) : Sp := fun vs H Q _ => ∃ (p : Addr) (us : List V), vs = [.ref p] ∧ SqS K H p us ∧ Ints us ∧ ∀ H', Q (.bl true) H'
theorem sc_law : FnScope ["_law_script", "_law_draws_here", "_law_high", "_law_wide", "_law_word", "_law_at", "_law_place", "_law_number", "_law_rows", "_law_core", "_law_table", "_law_told", "_law_c", "_law_r"] ["_law_script"] (defScope (top 85)) := ⟨rfl, rfl, rfl, by decide +kernel, rfl, by decide +kernel, by decide +kernel⟩
theorem ok_law {P : Program} {w : World} {K : PySem.W.Frag} {mg : Str → Option Value} {base : Heap} {fd : FuncData} (T : Txt P K mg base) (F : Fnd K "law" "law" (top 85) (ga K "law") fd) : FnOk P w K mg base CX0 48 (ga K "law") fd ["_law_script"] (spLaw K) := by
  have sc := sc_law
  refine mkFx F sc (fun vs H Q E h => ?_) (fun cdv A outer s H vs Q E hr h => ?_)
  · obtain ⟨p, us, rfl, hs, hi, k⟩ := h
    rfl
  · obtain ⟨p, us, rfl, hs, hi, k⟩ := h
    refine ⟨_, (pss_cons (ps_set (i := 1) sc.nd rfl (Or.inr rfl) (pe_cf (ok_law_draws T) (hr.mono (by decide)) rfl (pa_cons (pv 0) pa_nil)))
      (pss_cons (ps_set (i := 2) sc.nd rfl (Or.inl rfl) (pe_cf (ok_law_size T) (hr.mono (by decide)) rfl (pa_cons (pv 1) (pa_cons pe_int pa_nil))))
      (pss_cons (ps_set (i := 3) sc.nd rfl (Or.inr rfl) (pe_cf (ok_law_size T) (hr.mono (by decide)) rfl (pa_cons (pv 1) (pa_cons pe_int pa_nil))))
      (pss_cons (ps_set (i := 4) sc.nd rfl (Or.inl rfl) (pe_cf (ok_law_take T) (hr.mono (by decide)) rfl (pa_cons (pv 1) (pa_cons pe_int pa_nil))))
      (pss_cons (ps_if (pt_cmpR (op_eq) (pv 4) pe_int (nomark _)) (pss_one (ps_set (i := 2) sc.nd rfl (Or.inl rfl) (pe_op (op_add) (pv 2) pe_int))) pss_nil)
      (pss_cons (ps_set (i := 5) sc.nd rfl (Or.inl rfl) (pe_cf (ok_law_take T) (hr.mono (by decide)) rfl (pa_cons (pv 1) (pa_cons (pv 2) pa_nil))))
      (pss_cons (ps_set (i := 6) sc.nd rfl (Or.inl rfl) (pe_cf (ok_law_take T) (hr.mono (by decide)) rfl (pa_cons (pv 1) (pa_cons (pv 3) pa_nil))))
      (pss_cons (ps_set (i := 7) sc.nd rfl (Or.inl rfl) (pe_cf (ok_law_signed T) (hr.mono (by decide)) rfl (pa_cons (pv 1) pa_nil)))
      (pss_cons (ps_if (pt_cmpR (op_eq) (pe_ix (r := rIx K) ix_seq (pv 7) pe_int (fun _ _ => rfl)) pe_int (nomark _)) (pss_one (ps_set (i := 7) sc.nd rfl (Or.inl rfl) (pe_tup (pa_cons (pe_un un_neg pe_int) (pa_cons pe_int pa_nil))))) pss_nil)
      (pss_cons (ps_setLc (i := 8) (own := [("_law_r", 13)]) (g := gName 13) rfl sc.nd rfl rfl (sw_true rfl rfl rfl (by decide +kernel)) (pi_range1 rfl T.range (pa_cons (pv 2) pa_nil)) (blkOk_by (own := [("_law_r", 13)]) (N := ["_law_script", "_law_draws_here", "_law_high", "_law_wide", "_law_word", "_law_at", "_law_place", "_law_number", "_law_rows", "_law_core", "_law_table", "_law_told", "_law_c", "_law_r"]) (sc := defScope (top 85)) (by decide +kernel)) (fun _ _ _ _ _ => pg_name (i := 13) sc.nd rfl (Or.inl rfl)) (fun _ _ _ _ _ => pts_nil) (fun _ _ _ _ _ => (pe_lc (own := [("_law_c", 12)]) (g := gName 12) rfl sc.nd (pi_range1 rfl T.range (pa_cons (pv 3) pa_nil)) (blkOk_by (own := [("_law_c", 12)]) (N := ["_law_script", "_law_draws_here", "_law_high", "_law_wide", "_law_word", "_law_at", "_law_place", "_law_number", "_law_rows", "_law_core", "_law_table", "_law_told", "_law_c", "_law_r"]) (sc := (relabel (lcSc (stE ((defBody (top 85)).getD 9 dfS))) { scope := defScope (top 85), locals := 0, globals := 0, cells := [] })) (by decide +kernel)) (fun _ _ _ _ _ => pg_name (i := 12) sc.nd rfl (Or.inl rfl)) (fun _ _ _ _ _ => pts_nil) (fun _ _ _ _ _ => (pe_cf (ok_law_signed T) (hr.mono (by decide)) rfl (pa_cons (pv 1) pa_nil))))))
      (pss_cons (ps_if (pt_cmpR (op_ge) (pv 4) pe_int (nomark _)) (pss_one (ps_set (i := 8) sc.nd rfl (Or.inl rfl) (pe_cf (ok_law_made T) (hr.mono (by decide)) rfl (pa_cons (pv 8) pa_nil)))) pss_nil)
      (pss_cons (ps_set (i := 9) sc.nd rfl (Or.inl rfl) (pe_cf (ok_law_unmade T) (hr.mono (by decide)) rfl (pa_cons (pv 8) pa_nil)))
      (pss_cons (ps_set (i := 10) sc.nd rfl (Or.inl rfl) (pe_ct (ok_m_init T) T (hr.mono (by decide)) rfl (pa_cons (pe_cf (ok_law_copy T) (hr.mono (by decide)) rfl (pa_cons (pv 8) pa_nil)) pa_nil)))
      (pss_cons (ps_set (i := 11) sc.nd rfl (Or.inl rfl) (pe_cf (ok_unmade T) (hr.mono (by decide)) rfl (pa_cons (pv 10) pa_nil)))
      (pss_cons (ps_if (PW.pt (pw_or (pt_not (pt_val (pe_cf (ok_law_same T) (hr.mono (by decide)) rfl (pa_cons (pv 11) (pa_cons (pv 9) pa_nil))))) (pw_or (pt_not (pt_val (pe_cf (ok_law_same T) (hr.mono (by decide)) rfl (pa_cons (pe_cf (ok_cleared T) (hr.mono (by decide)) rfl (pa_cons (pv 10) pa_nil)) (pa_cons (pv 9) pa_nil))))) (pw_or1 (pt_not (pt_val (pe_cf (ok_law_same T) (hr.mono (by decide)) rfl (pa_cons (pe_cf (ok_made T) (hr.mono (by decide)) rfl (pa_cons (pv 11) pa_nil)) (pa_cons (pv 8) pa_nil))))))))) (pss_one (ps_ret pe_bl)) pss_nil)
      (pss_cons (ps_if (PW.pt (pw_or (pt_not (pt_val (pe_cf (ok_law_upward T) (hr.mono (by decide)) rfl (pa_cons (pv 10) (pa_cons (pv 8) (pa_cons (pv 9) pa_nil)))))) (pw_or1 (pt_not (pt_val (pe_cf (ok_law_downward T) (hr.mono (by decide)) rfl (pa_cons (pv 10) (pa_cons (pv 9) pa_nil)))))))) (pss_one (ps_ret pe_bl)) pss_nil)
      (pss_cons (ps_if (pt_not (pt_val (pe_cf (ok_law_entries T) (hr.mono (by decide)) rfl (pa_cons (pv 11) (pa_cons (pv 8) pa_nil))))) (pss_one (ps_ret pe_bl)) pss_nil)
      (pss_cons (ps_if (PW.pt (pw_or (pt_not (pt_val (pe_cf (ok_law_same T) (hr.mono (by decide)) rfl (pa_cons (pe_cf (ok_unmade T) (hr.mono (by decide)) rfl (pa_cons (pe_un (un_inv_tab (ok_m_invert T) T (hr.mono (by decide))) (pv 10)) pa_nil)) (pa_cons (pe_cf (ok_law_turned T) (hr.mono (by decide)) rfl (pa_cons (pv 9) pa_nil)) pa_nil))))) (pw_or1 (pt_not (pt_cmpR (op_eqTab (ok_m_eq T) (hr.mono (by decide))) (pe_cf (ok_unmade T) (hr.mono (by decide)) rfl (pa_cons (pe_un (un_inv_tab (ok_m_invert T) T (hr.mono (by decide))) (pv 10)) pa_nil)) (pe_un (un_inv_tab (ok_m_invert T) T (hr.mono (by decide))) (pv 11)) (nomark _)))))) (pss_one (ps_ret pe_bl)) pss_nil)
      (pss_cons (ps_if (pt_not (pt_cmpR (op_eqTab (ok_m_eq T) (hr.mono (by decide))) (pe_cf (ok_unmade T) (hr.mono (by decide)) rfl (pa_cons (pe_cm (ok_m_corner T) T (hr.mono (by decide)) (pv 10) (pa_cons (pv 5) (pa_cons (pv 6) pa_nil))) pa_nil)) (pe_cm (ok_m_corner T) T (hr.mono (by decide)) (pv 11) (pa_cons (pv 5) (pa_cons (pv 6) pa_nil))) (nomark _))) (pss_one (ps_ret pe_bl)) pss_nil)
      (pss_cons (ps_if (PW.pt (pw_or (pt_not (pt_val (pe_cf (ok_law_scaled T) (hr.mono (by decide)) rfl (pa_cons (pv 10) (pa_cons (pv 9) (pa_cons (pv 5) (pa_cons (pv 6) (pa_cons (pv 7) pa_nil)))))))) (pw_or1 (pt_not (pt_val (pe_cf (ok_law_noughts_in T) (hr.mono (by decide)) rfl (pa_cons (pv 10) (pa_cons (pv 9) (pa_cons (pv 5) (pa_cons (pv 6) pa_nil)))))))))) (pss_one (ps_ret pe_bl)) pss_nil)
      (pss_cons (ps_if (PW.pt (pw_and (pt_cmpR (op_eq) (pv 4) pe_int (nomark _)) (pw_and1 (pt_not (pt_val (pe_cf (ok_law_broad T) (hr.mono (by decide)) rfl (pa_cons (pv 1) pa_nil))))))) (pss_one (ps_ret pe_bl)) pss_nil)
      (pss_one (ps_ret (pe_and (pe_cf (ok_law_same T) (hr.mono (by decide)) rfl (pa_cons (pv 10) (pa_cons (pv 8) pa_nil))) (pe_and (pe_cf (ok_law_same T) (hr.mono (by decide)) rfl (pa_cons (pv 11) (pa_cons (pv 9) pa_nil))) (pe_one (pe_cmpR (op_eqTab (ok_m_eq T) (hr.mono (by decide))) (pe_cf (ok_unmade T) (hr.mono (by decide)) rfl (pa_cons (pv 10) pa_nil)) (pv 11) (nomark _)))))))))))))))))))))))))))), ?_⟩
    refine ⟨_, rfl, p, us, rfl, hs, hi, fun d H1 s1 hd1 => ?_⟩
    refine ⟨_, rfl, d, 4, rfl, by decide, hd1, fun h0 H2 ha hb2 s2 => ?_⟩
    refine ⟨_, rfl, d, 4, rfl, by decide, s2.dr, fun ww H3 hc hd4 s3 => ?_⟩
    refine ⟨_, rfl, d, _, rfl, by decide, s3.dr, fun word H4 hw8 s4 => ?_⟩
    try unfold gName
    dsimp only
    refine seq_mid (fun σ' H' => H' = H4 ∧ ∃ hh : Nat, 1 ≤ hh ∧ hh ≤ 5 ∧ σ' = [some (.ref p), some (.ref d), some (.int (hh : Nat)), some (.int (ww : Nat)), some (.int (word : Nat)), none, none, none, none, none, none, none, none, none]) (fun nx' hn => ?_) ?_
    · refine ⟨_, rfl, rfl, _, rfl, ?_⟩
      by_cases h7 : word = 7
      · refine iteD (by rw [h7]; rfl) ?_
        refine ⟨_, rfl, _, _, rfl, rfl, hn _ _ ⟨rfl, h0 + 1, by omega, by omega, rfl⟩⟩
      · refine iteDN (int_ne (by omega)) (hn _ _ ⟨rfl, h0, by omega, by omega, rfl⟩)
    rintro σ' H' ⟨rfl, hh, hh1, hh5, rfl⟩
    refine ⟨_, rfl, _, rfl, d, _, rfl, by omega, s4.dr, fun at0 H5 hat s5 => ?_⟩
    refine ⟨_, rfl, _, rfl, d, _, rfl, by omega, s5.dr, fun pl H6 hpl s6 => ?_⟩
    refine ⟨_, rfl, d, rfl, s6.dr, fun vn q0 H7 s7 n7 b7 => ?_⟩
    try unfold gName
    dsimp only
    refine seq_mid (fun σ' H' => DSt d H7 H' ∧ ∃ w q, Num K H' w q ∧ hb 31 q ∧ q ≠ 0 ∧ σ' = [some (.ref p), some (.ref d), some (.int (hh : Nat)), some (.int (ww : Nat)), some (.int (word : Nat)), some (.int (at0 : Nat)), some (.int (pl : Nat)), some w, none, none, none, none, none, none]) (fun nx' hn => ?_) ?_
    · obtain ⟨pn, rfl, hpn⟩ := id n7
      refine ⟨_, rfl, ix0 hpn ⟨rfl, _, rfl, ?_⟩⟩
      by_cases hq0 : q0 = 0
      · refine iteD (num_zero.mpr hq0) ⟨_, rfl, by show 2 ≤ sizeLine; decide, fun t ht => ?_⟩
        exact hn _ _ ⟨s7.dr.step (same_new ht), .ref t, c32, ⟨t, rfl, SqT.of upd_same⟩, hb_32, ne_32, rfl⟩
      · refine iteDN (fun z => hq0 (num_zero.mp z)) (hn _ _ ⟨DSt.refl s7.dr, _, q0, n7, b7, hq0, rfl⟩)
    rintro σ' H8 ⟨s8, wn, q, nq, bq, hq0, rfl⟩
    have hd8 := s8.dr
    refine ⟨_, rfl, _, rfl, by omega, by omega, fun D hD => lc_range (g := gName 13) (vs := [13]) (Qd := fun H => _) (RwP K d H8 D ww) (rwP_zero hd8 hD) ?_ ?_⟩
    · intro i H9 hi9 p9
      have hi' : i < 5 := by omega
      refine lc_elem (g := gName 13) (vs := [13]) (Z := RwP K d H8 D ww (i + 1)) ⟨rfl, _, rfl, _, rfl, by omega, by omega, fun D2 hD2 => lc_range (g := gName 12) (vs := [12]) (Qd := fun H => _) (CwP K d H9 D2) (cwP_zero p9.2.1 hD2) ?_ ?_⟩
      · intro j Ha hj pa
        refine lc_elem (g := gName 12) (vs := [12]) (Z := CwP K d H9 D2 (j + 1)) ⟨rfl, _, rfl, d, rfl, pa.2.1, fun v q H4 s4 n4 b4 => ?_⟩
        exact cwP_step (p9.2.1.alive hD2) pa s4 n4 b4 (by omega)
      · intro Ha pa
        rw [Int.toNat_natCast] at pa
        exact rwP_step hd8 hD p9 hD2 pa (by omega)
    intro H9 p9
    rw [Int.toNat_natCast] at p9
    obtain ⟨t1, t2, ads, R0, hM9, lR0, wR0, bR0, hfr9⟩ := p9
    have s9 : DSt d H8 H9 := ⟨t1.trans (rem_mono rem_same), t2⟩
    have hDd : D ≠ d := hd8.alive hD
    have hdads : d ∉ ads := fun z => by
      obtain ⟨us, e, _⟩ := hd8
      have := hfr9 d z
      rw [e] at this
      cases this
    have nq9 : Num K H9 wn q := by
      obtain ⟨ud, eud, _⟩ := hd8
      exact ((nq.rem eud).mono s9.same).mono rem_same
    try unfold gName
    dsimp only
    refine seq_mid (fun σ' H' => Same H9 H' ∧ ∃ v R, TabS K (rem d H') v R ∧ R.length = hh ∧ Wide ww R ∧ hbT 30000 R ∧ σ' = [some (.ref p), some (.ref d), some (.int (hh : Nat)), some (.int (ww : Nat)), some (.int (word : Nat)), some (.int (at0 : Nat)), some (.int (pl : Nat)), some wn, some v, none, none, none, none, none]) (fun nx' hn => ?_) ?_
    · obtain ⟨ud, eud, _⟩ := id t2
      refine ⟨_, rfl, _, _, rfl, rfl, _, rfl, ?_⟩
      by_cases h4 : 4 ≤ word
      · refine iteD (by omega) ?_
        refine ⟨_, rfl, .ref D, ww, R0, rfl, hM9.tab, wR0, by omega, by omega, by omega, bR0, fun v' Ha R' sa nm lR' wR' bR' => ?_⟩
        exact hn _ _ ⟨sa, v', R', nm.tabRem eud (sa _ _ eud), by omega, wR', bR', rfl⟩
      · refine iteDN (by omega) (hn _ _ ⟨Same.refl _, .ref D, R0, (hM9.rem eud hDd hdads).tab, lR0, wR0, bR0.mono (by decide), rfl⟩)
    rintro σ' Ha ⟨sa, vr, R, hrows, lR, hw, bR, rfl⟩
    have hda : Dr Ha d := (t2.step sa).dr
    obtain ⟨ud, eud, iud⟩ := id hda
    have hrA : TabS K Ha vr R := hrows.mono rem_same
    have nqa := nq9.mono sa
    have bRB : hbT 10000000 R := bR.mono (by decide)
    have ok0 : okU 10000000 R := okS (bR.mono (by decide)) (by omega) (fun z => by omega)
    have bC : hbT (4 * 10000000 + 1) (core R) := core_hb bRB ok0
    have hcw : Wide ww (core R) := core_wide hw
    have hcl : (core R).length = R.length := core_length R
    refine ⟨_, rfl, vr, ww, R, rfl, hrA, hw, by omega, by omega, by omega, ok0, fun vc Hb sb nc => ?_⟩
    refine ⟨_, rfl, vr, R, rfl, hrA.mono sb, by omega, fun vk Hc sc2 nk => ?_⟩
    refine tab_mk (n := ww) (R := R) nk.tab hw (by omega) (by omega) (by omega) (by omega) (fun x Hd sd tt => ⟨rfl, ?_⟩)
    refine ⟨_, rfl, .ref x, ww, R, rfl, tt, ok0, fun vt He se told => ?_⟩
    have sbe := sc2.trans (sd.trans se)
    have nce : NewM K Ha He vc (core R) := nc.fwd sbe
    have tte : Tbl K He (.ref x) ww R := tt.mono se
    have sae := sb.trans sbe
    refine ⟨_, rfl, _, rfl, vt, vc, ww, core R, 4 * 10000000 + 1, rfl, told, nce.tab, bC, by decide, fun Hf sf => ⟨true, rfl, iteF ?_⟩⟩
    refine ⟨_, rfl, .ref x, ww, R, rfl, tte.mono sf, ok0, fun v2 Hg sg t2' => ?_⟩
    refine ⟨_, rfl, v2, vc, ww, core R, 4 * 10000000 + 1, rfl, t2', (nce.fwd (sf.trans sg)).tab, bC, by decide, fun Hh sh => ⟨true, rfl, iteF ?_⟩⟩
    have seh := sf.trans (sg.trans sh)
    refine ⟨_, rfl, vt, ww, R, rfl, told.mono seh, hw, ok0, fun v3 Hi si t3 => ?_⟩
    refine ⟨_, rfl, v3, vr, ww, R, 30000, rfl, t3, hrA.mono (sae.trans (seh.trans si)), bR, by decide, fun Hj sj => ⟨true, rfl, iteF ?_⟩⟩
    have sej := seh.trans (si.trans sj)
    refine ⟨_, rfl, _, rfl, _, rfl, .ref x, vr, vc, ww, R, rfl, tte.mono sej, hrA.mono (sae.trans sej), (nce.fwd sej).tab, bRB, ok0, fun Hk sk => ⟨true, rfl, iteF ?_⟩⟩
    have sek := sej.trans sk
    refine ⟨_, rfl, _, rfl, .ref x, vc, ww, R, rfl, tte.mono sek, (nce.fwd sek).tab, bRB, ok0, fun Hl sl => ⟨true, rfl, iteF ?_⟩⟩
    have sel := sek.trans sl
    refine ⟨_, rfl, _, rfl, vt, vr, ww, R, rfl, told.mono sel, hrA.mono (sae.trans sel), hw, ok0, fun Hm sm => ⟨true, rfl, iteF ?_⟩⟩
    have sem := sel.trans sm
    have lT : (tr ww R).length = ww := tr_length _ _
    have bT : hbT 30000 (tr ww R) := hbT_tr bR hw
    have okT : okU 10000000 (tr ww R) := okS (bT.mono (by decide)) (by omega) (fun z => by omega)
    have eT : core (tr ww R) = tr ww (core R) := core_tr hw
    have bCT : hbT (4 * 10000000 + 1) (tr ww (core R)) := hbT_tr bC hcw
    obtain ⟨⟨px, dx, rx, ex, hpx, htx⟩, cx⟩ := id (tte.mono sem)
    cases ex
    refine ⟨_, rfl, x, dx, _, rfl, hpx, _, ww, R, rfl, tte.mono sem, fun vi Hn sn ti => ?_⟩
    refine ⟨vi, R.length, tr ww R, rfl, ti, okT, fun vb Ho so tb => ?_⟩
    rw [eT] at tb
    have seo := sem.trans (sn.trans so)
    refine ⟨_, rfl, vc, ww, core R, rfl, (nce.fwd seo).tab, hcw, by omega, by omega, by omega, fun vq Hp2 sp2 nt => ?_⟩
    refine ⟨vb, vq, R.length, tr ww (core R), 4 * 10000000 + 1, rfl, tb.mono sp2, nt.tab, bCT, by decide, fun Hq sq => ⟨true, rfl, iteF ?_⟩⟩
    have seq2 := seo.trans (sp2.trans sq)
    obtain ⟨⟨px2, dx2, rx2, ex2, hpx2, htx2⟩, cx2⟩ := id (tte.mono seq2)
    cases ex2
    refine ⟨_, rfl, x, dx2, _, rfl, hpx2, _, ww, R, rfl, tte.mono seq2, fun vi2 Hr sr ti2 => ?_⟩
    refine ⟨vi2, R.length, tr ww R, rfl, ti2, okT, fun vb2 Hs ss tb2 => ?_⟩
    rw [eT] at tb2
    have ses := seq2.trans (sr.trans ss)
    obtain ⟨⟨pt, dt, rt, et, hpt, htt⟩, ct⟩ := id (told.mono ses)
    subst et
    refine ⟨_, rfl, pt, dt, _, rfl, hpt, _, ww, core R, rfl, told.mono ses, fun vi3 Ht st ti3 => ?_⟩
    rw [hcl] at ti3
    refine eq_tbl (tb2.mono st) ti3 fun Hu su => ⟨_, rfl, iteF ?_⟩
    have seu := ses.trans (st.trans su)
    have wK : Wide (ww - pl) ((R.drop at0).map (List.drop pl)) := fun z hz => by
      obtain ⟨r, hr', rfl⟩ := List.mem_map.mp hz
      rw [List.length_drop, hw r (List.mem_of_mem_drop hr')]
    have bK : hbT 30000 ((R.drop at0).map (List.drop pl)) := hbT_corner bR
    have lK : ((R.drop at0).map (List.drop pl)).length = R.length - at0 := by rw [List.length_map, List.length_drop]
    have okK : okU 10000000 ((R.drop at0).map (List.drop pl)) := okS (bK.mono (by decide)) (by omega) (fun z => by omega)
    have eK : core ((R.drop at0).map (List.drop pl)) = ((core R).drop at0).map (List.drop pl) := core_corner hw at0 pl
    obtain ⟨⟨px3, dx3, rx3, ex3, hpx3, htx3⟩, cx3⟩ := id (tte.mono seu)
    cases ex3
    refine ⟨_, rfl, x, dx3, _, rfl, hpx3, tf_no _ _ _ (by decide +kernel), _, rfl, _, rfl, _, ww, R, at0, pl, rfl, tte.mono seu, by omega, by omega, fun vk1 Hv sv tk1 => ?_⟩
    refine ⟨vk1, _, _, rfl, tk1, okK, fun vk2 Hw sw tk2 => ?_⟩
    rw [eK] at tk2
    have sew := seu.trans (sv.trans sw)
    obtain ⟨⟨pt2, dt2, rt2, et2, hpt2, htt2⟩, ct2⟩ := id (told.mono sew)
    cases et2
    refine ⟨_, rfl, pt, dt2, _, rfl, hpt2, tf_no _ _ _ (by decide +kernel), _, rfl, _, rfl, _, ww, core R, at0, pl, rfl, told.mono sew, by omega, by omega, fun vk3 Hx sx tk3 => ?_⟩
    refine eq_tbl (tk2.mono sx) tk3 fun Hy sy => ⟨_, rfl, iteF ?_⟩
    have sey := sew.trans (sx.trans sy)
    refine ⟨_, rfl, _, rfl, _, rfl, _, rfl, _, rfl, .ref x, vc, wn, ww, R, at0, pl, q, rfl, tte.mono sey, (nce.fwd sey).tab, nqa.mono (sae.trans sey), bq, hq0, bR, by omega, by omega, by omega, by omega, fun Hz sz => ⟨true, rfl, iteF ?_⟩⟩
    have sez := sey.trans sz
    refine ⟨_, rfl, _, rfl, _, rfl, _, rfl, .ref x, vc, ww, R, at0, pl, rfl, tte.mono sez, (nce.fwd sez).tabL, bR, by omega, by omega, by omega, by omega, fun HA sA => ⟨true, rfl, iteF ?_⟩⟩
    have seA := sez.trans sA
    have saA := sae.trans seA
    have eudA := saA _ _ eud
    have hrR : TabS K (rem d HA) vr R := hrows.mono (rem_mono saA)
    have hcR : TabS K (rem d HA) vc (core R) := (nce.fwd seA).tabRem eud eudA
    have ttR : Tbl K (rem d HA) (.ref x) ww R := (tte.mono seA).rem eudA
    have toR : Tbl K (rem d HA) (.ref pt) ww (core R) := (told.mono seA).rem eudA
    unfold tNext
    dsimp only
    refine seq_mid (fun σ' H' => DSt d HA H' ∧ σ' = [some (.ref p), some (.ref d), some (.int (hh : Nat)), some (.int (ww : Nat)), some (.int (word : Nat)), some (.int (at0 : Nat)), some (.int (pl : Nat)), some wn, some vr, some vc, some (.ref x), some (.ref pt), none, none]) (fun nx' hn => ?_) ?_
    · refine ⟨_, rfl, rfl, _, rfl, ?_⟩
      by_cases h3 : word = 3
      · refine iteD (by rw [h3]; rfl) ?_
        exact ⟨_, rfl, d, rfl, ⟨ud, eudA, iud⟩, fun HB sB => ⟨true, rfl, iteF (hn _ _ ⟨sB, rfl⟩)⟩⟩
      · exact iteDN (int_ne (by omega)) (hn _ _ ⟨DSt.refl ⟨ud, eudA, iud⟩, rfl⟩)
    rintro σ' HB ⟨sB, rfl⟩
    have hrB : TabS K HB vr R := (hrR.mono sB.same).mono rem_same
    have hcB : TabS K HB vc (core R) := (hcR.mono sB.same).mono rem_same
    have ttB : Tbl K HB (.ref x) ww R := (ttR.mono sB.same).mono rem_same
    have toB : Tbl K HB (.ref pt) ww (core R) := (toR.mono sB.same).mono rem_same
    refine ⟨_, rfl, _, rfl, .ref x, vr, ww, R, 30000, rfl, ttB, hrB, bR, by decide, fun HC sC => ⟨true, rfl, iteT ?_⟩⟩
    refine ⟨_, rfl, _, rfl, .ref pt, vc, ww, core R, 4 * 10000000 + 1, rfl, toB.mono sC, hcB.mono sC, bC, by decide, fun HD sD => ⟨true, rfl, iteT ?_⟩⟩
    refine ⟨_, rfl, .ref x, ww, R, rfl, ttB.mono (sC.trans sD), ok0, fun v9 HE sE t9 => ⟨_, rfl, ?_⟩⟩
    exact eq_tbl t9 (toB.mono (sC.trans (sD.trans sE))) fun HF sF => k HF
end MU
namespace MU
open PySem PySem.Spec PyProof.Rows L2 He MM
theorem factU {K : PySem.W.Frag} (c : SaysD faU fnU K) {f : Fa} (h : f ∈ faU) : f.ok K = true := by
  obtain ⟨i, hi⟩ := List.mem_iff_getElem?.mp h
  exact c.fact i hi
theorem defU {K : PySem.W.Frag} (c : SaysD faU fnU K) {d : DefD} (h : d ∈ fnU) : ∃ fd, FunD K d.name d.qual d.params d.body d.scope (d.dvs K) (d.kws K) (fAd K d.at_) fd := by
  obtain ⟨i, hi⟩ := List.mem_iff_getElem?.mp h
  exact c.def_ i hi
theorem defL {K : PySem.W.Frag} (c : SaysD faU fnU K) {d : Str × Nat} (h : d ∈ defsL ++ defsK) : ∃ fd, Fnd K d.1 d.1 (top d.2) (ga K d.1) fd :=
  defU c (d := dgU d) (List.mem_append_left _ (List.mem_map_of_mem h))
theorem defM {K : PySem.W.Frag} (c : SaysD faU fnU K) {d : Str × Nat} (h : d ∈ methL) : ∃ fd, Fnd K d.1 ("Table." ++ d.1) (cls d.2) (ma K (ga K "Table") d.1) fd :=
  defU c (d := dmU d) (List.mem_append_right _ (List.mem_map_of_mem h))
theorem inC {f : Fa} (h : f ∈ faC) : f ∈ faU := List.mem_append_left _ h
theorem txt_of {P : Program} {w : World} {K : PySem.W.Frag} {h base : Heap} {mg : Str → Option Value} (X : K.In h) (G : h.Ns mainGlobals mg) (c : SaysD faU fnU K) (e : exU K = true) (ht : P.given.tree = none) (hs : base.NoSeer) : Txt P K mg base := by
  unfold exU at e
  obtain ⟨e1, e⟩ := ba e
  obtain ⟨e2, e⟩ := ba e
  obtain ⟨e3, e⟩ := ba e
  obtain ⟨e4, e5⟩ := ba e
  have fr : ∀ x, Fa.free x ∈ faC → mg x = none := fun x hx => free_ok X G (factU c (inC hx))
  exact {
    seer := hs
    tree := ht
    def_ := fun d hd => ⟨defL c hd, glo_ok X G (factU c (List.mem_append_right _ (List.mem_append_right _ (List.mem_map_of_mem (f := fun d => Fa.glo d.1) hd))))⟩
    meth := fun d hd => ⟨defM c hd, meth_ok (factU c (List.mem_append_right _ (List.mem_append_left _ (List.mem_map_of_mem (f := fun d => Fa.meth "Table" d.1) hd))))⟩
    tab := glo_ok X G (factU c (inC (by simp [faC])))
    cl := cls_ok (factU c (inC (by simp [faC])))
    maker := mkr_ok (factU c (inC (by simp [faC])))
    nR := noat_ok (factU c (inC (by simp [faC])))
    nH := noat_ok (factU c (inC (by simp [faC])))
    nW := noat_ok (factU c (inC (by simp [faC])))
    ic := eqO_ok e1
    ig := eqO_ok e2
    it := of_decide_eq_true e3
    im := of_decide_eq_true e4
    gcd := PySem.W.mg_of X G (of_decide_eq_true e5)
    most := int_ok X G (factU c (inC (by simp [faC])))
    len := fr _ (by simp [faC])
    isi := fr _ (by simp [faC])
    int := fr _ (by simp [faC])
    bool := fr _ (by simp [faC])
    list := fr _ (by simp [faC])
    tuple := fr _ (by simp [faC])
    range := fr _ (by simp [faC])
    enum := fr _ (by simp [faC])
    zip := fr _ (by simp [faC])
    abs := fr _ (by simp [faC])
    min := fr _ (by simp [faC]) }
def noL (o : Obj) : Prop := ¬ (o.cls = .type "list" ∧ ∃ its n, o.data = .seq its n)
theorem seer_base {h : Heap} (x : h.NoSeer) : ∃ E : PySem.W.Frag, (∀ p ∈ E, h.get? p.1 = some p.2 ∧ noL p.2) ∧ ∀ base : Heap, (∀ p ∈ E, base.get? p.1 = some p.2) → base.NoSeer := by
  obtain ⟨mc, ⟨o1, es1, ep1, a1, d1, r1⟩, c1, c2⟩ := x.statics
  obtain ⟨mm, ⟨o2, es2, ep2, a2, d2, r2⟩, c3⟩ := x.mods
  obtain ⟨mb, ⟨o3, es3, ep3, a3, d3, r3⟩, c4⟩ := x.imp
  obtain ⟨mg, bm, ob, ⟨o4, es4, ep4, a4, d4, r4⟩, c5, a5, c6, c7⟩ := x.main
  have nd : ∀ {o : Obj} {es : Array DictEntry} {ep : Nat}, o.data = .dict es ep → noL o := fun {o es ep} d z => by
    obtain ⟨_, its, n, e⟩ := z
    rw [d] at e
    cases e
  refine ⟨[(cStatics, o1), (sysModules, o2), (builtinsNs, o3), (mainGlobals, o4), (bm, ob)], fun p hp => ?_, fun base hb => ?_⟩
  · simp only [List.mem_cons, List.not_mem_nil, or_false] at hp
    rcases hp with rfl | rfl | rfl | rfl | rfl
    · exact ⟨a1, nd d1⟩
    · exact ⟨a2, nd d2⟩
    · exact ⟨a3, nd d3⟩
    · exact ⟨a4, nd d4⟩
    · refine ⟨a5, fun z => ?_⟩
      have z1 := z.1
      rw [show ob.cls = Value.type "module" from c6] at z1
      exact absurd z1 (by decide)
  · have b1 := hb (cStatics, o1) (by simp)
    have b2 := hb (sysModules, o2) (by simp)
    have b3 := hb (builtinsNs, o3) (by simp)
    have b4 := hb (mainGlobals, o4) (by simp)
    have b5 := hb (bm, ob) (by simp)
    exact ⟨⟨mc, ⟨o1, es1, ep1, b1, d1, r1⟩, c1, c2⟩, ⟨mm, ⟨o2, es2, ep2, b2, d2, r2⟩, c3⟩, ⟨mb, ⟨o3, es3, ep3, b3, d3, r3⟩, c4⟩, ⟨mg, bm, ob, ⟨o4, es4, ep4, b4, d4, r4⟩, c5, b5, c6, c7⟩⟩
theorem look_app {b : Addr} {o : Obj} {K : PySem.W.Frag} : ∀ {E : PySem.W.Frag}, (E ++ K).lookup b = some o → (∃ p ∈ E, p = (b, o)) ∨ K.lookup b = some o
  | [], h => .inr h
  | (a, u) :: E, h => by
    by_cases hb : b == a
    · rw [List.cons_append, List.lookup_cons] at h
      rw [hb] at h
      have e := Option.some.inj h
      have hb' := eq_of_beq hb
      subst e hb'
      exact .inl ⟨_, List.mem_cons_self, rfl⟩
    · rw [List.cons_append, List.lookup_cons] at h
      rw [Bool.eq_false_iff.mpr hb] at h
      rcases look_app (E := E) h with ⟨p, hp, e⟩ | z
      · exact .inl ⟨p, List.mem_cons_of_mem _ hp, e⟩
      · exact .inr z
theorem look_head {b : Addr} {K : PySem.W.Frag} : ∀ {E : PySem.W.Frag}, (∃ p ∈ E, p.1 = b) → ∃ o, (E ++ K).lookup b = some o ∧ (b, o) ∈ E
  | [], h => by
    obtain ⟨p, hp, _⟩ := h
    cases hp
  | (a, u) :: E, h => by
    by_cases hb : b == a
    · refine ⟨u, ?_, ?_⟩
      · rw [List.cons_append, List.lookup_cons, hb]
      · rw [eq_of_beq hb]
        exact List.mem_cons_self
    · obtain ⟨p, hp, e⟩ := h
      rcases List.mem_cons.mp hp with z | z
      · subst z
        exact absurd (by rw [← e]; exact beq_self_eq_true _) hb
      · obtain ⟨o, h1, h2⟩ := look_head (K := K) (E := E) ⟨p, z, e⟩
        refine ⟨o, ?_, List.mem_cons_of_mem _ h2⟩
        rw [List.cons_append, List.lookup_cons, Bool.eq_false_iff.mpr hb]
        exact h1
section
variable {K E : PySem.W.Frag} {h base : Heap} (hE : ∀ p ∈ E, h.get? p.1 = some p.2 ∧ noL p.2) (X : K.In h)
include hE X
theorem app_in : PySem.W.Frag.In (E ++ K) h := fun b o e => by
  rcases look_app e with ⟨p, hp, rfl⟩ | z
  · exact (hE _ hp).1
  · exact X b o z
theorem app_E (B : PySem.W.Frag.In (E ++ K) base) : ∀ p ∈ E, base.get? p.1 = some p.2 := fun p hp => by
  obtain ⟨o, h1, h2⟩ := look_head (K := K) ⟨p, hp, rfl⟩
  have e := (hE _ h2).1
  have e2 : h.get? p.1 = some o := e
  rw [(hE p hp).1] at e2
  cases e2
  exact B _ _ h1
theorem app_K (B : PySem.W.Frag.In (E ++ K) base) : K.In base := fun b o e => by
  by_cases hb : ∃ p ∈ E, p.1 = b
  · obtain ⟨u, h1, h2⟩ := look_head (K := K) hb
    have e2 : h.get? b = some u := (hE _ h2).1
    rw [X b o e] at e2
    cases e2
    exact B _ _ h1
  · refine B b o ?_
    have hl : (E ++ K).lookup b = K.lookup b := by
      clear hE X B
      induction E with
      | nil => rfl
      | cons p E ih =>
        rw [List.cons_append, List.lookup_cons]
        have hne : ¬ (b == p.1) = true := fun z => hb ⟨p, List.mem_cons_self, (eq_of_beq z).symm⟩
        obtain ⟨a, u⟩ := p
        rw [Bool.eq_false_iff.mpr hne]
        exact ih fun ⟨q, hq, e⟩ => hb ⟨q, List.mem_cons_of_mem _ hq, e⟩
    rw [hl]
    exact e
theorem app_L {H : Hp} {a : Addr} {xs : List V} (s : SqL (E ++ K) H a xs) : SqL K H a xs := by
  rcases s with s | ⟨o, its, n, hk, hc, hs, r⟩
  · exact .inl s
  · rcases look_app hk with ⟨p, hp, rfl⟩ | z
    · exact absurd ⟨hc, its, n, r.1⟩ (hE _ hp).2
    · exact .inr ⟨o, its, n, z, hc, hs, r⟩
end
theorem fnok_up {P : Program} {w : World} {K E : PySem.W.Frag} {mg : Str → Option Value} {h base : Heap} {k : Nat} {f : Addr} {fd : FuncData} {ps : List Str} {sp : Sp} (hE : ∀ p ∈ E, h.get? p.1 = some p.2 ∧ noL p.2) (X : K.In h)
    (F : FnOk P w K mg base CX0 k f fd ps sp) : FnOk P w (E ++ K) mg base CX0 k f fd ps sp :=
  ⟨F.len, fun A outer s H args us vs Q E2 hr e0 hb hv hsp => F.run A outer s H args us vs Q E2 hr ⟨e0.frames, ⟨app_K hE X e0.mod.kin, e0.mod.glob, e0.mod.blt, e0.mod.nolimit⟩, e0.bs, e0.bsz, e0.funs, e0.frf, e0.hok, e0.bare⟩ hb hv hsp⟩
theorem walkU : PySem.W.WalkO qvU namesU (PySem.W.XL qvU []) hkU.says RowU.toRowW (HandSHeadRun.topDef RowU.prog 85) [] (fun f vs => PySem.call f vs) := by
  refine Att.attach_call (l := PySem.Challenge.rw_minusless_k16_whole_unmaking) (n := 63) rfl (by kernel_rfl) fun w s₀ s₁ mg mb fa o pm cd doc a vs ns G Y ho hd hcd hmg0 hobj hints hlen hg => ?_
  obtain ⟨K, KX, c, e⟩ := Y
  have hmg : mg ("law" : Str) = some (.ref fa) := by
    have e : (HandSHeadRun.topDef RowU.prog 85).name = ("law" : Str) := by kernel_rfl
    rw [← e]
    exact hmg0
  obtain ⟨E, hE, hB⟩ := seer_base (G.T.seer imp0)
  have mem : (("law", 85) : Str × Nat) ∈ defsL ++ defsK := by decide
  have T : ∀ base : Heap, base.NoSeer → Txt (PySem.Challenge.rw_minusless_k16_whole_unmaking).prog K mg base := fun base hs => txt_of (w := w) KX G.T.g c e rfl hs
  obtain ⟨fd, F⟩ := defL c mem
  have efa : ga K "law" = fa := by
    have e1 := glo_ok KX G.T.g (factU c (List.mem_append_right _ (List.mem_append_right _ (List.mem_map_of_mem (f := fun d => Fa.glo d.1) mem))))
    have e2 := hmg.symm.trans e1
    cases e2
    rfl
  have b := FunD.bindsA (ps := ["_law_script"]) F fun _ _ _ _ _ _ us hl => match us, hl with | [_], _ => rfl
  refine L2.law_call (K := E ++ K) (sp := spLaw K) (k := 48) (CX := CX0) (fd := fd) (x := "_law_script") (app_in hE KX) G.T.g G.T.b G.T.builtins G.T.nolimit hg hobj hints (Nat.le_trans hlen (by decide)) ⟨rfl, by decide, by decide⟩
    (fun base hb hG => ?_) (fun s v => b s [v] rfl) (fun H hO hS => ⟨a, _, rfl, .inl (app_L hE KX hS), fun u hu => ?_, fun _ => rfl⟩) (fun _ _ _ z => z)
  · rw [← efa]
    exact fnok_up hE KX (ok_law (T base (hB base (app_E hE KX hb))) F)
  · obtain ⟨i, _, e⟩ := List.mem_map.mp hu
    exact ⟨i, e.symm⟩
end MU
open PySem PySem.W PySem.Calls PyProof.Rows
theorem PySem.Challenge.cw_minusless_k16_whole_unmaking_holds : PySem.Challenge.rw_minusless_k16_whole_unmaking.Holds := by
  w_on; o_law
  refine HandSHeadRun.head_imp (r := MU.RowU) (q := MU.qvU) (H := MU.hkU) (ob := MU.obU) (M := 30000) (loose := MU.namesU) (d := HandSHeadRun.topDef MU.RowU.prog 85) (kwd := []) MU.obU_eq MU.runU (by kernel_rfl) (by kernel_rfl) (by kernel_rfl) (by rfl) (by first | assumption | decide +kernel) (by decide +kernel) ⟨rfl, rfl, rfl, rfl, rfl, by decide +kernel⟩ ?hw MU.walkU
  case hw => w_witness2
