import PyProof.Rows.All
import Wide.All
import OpenK.AllK
import Wide.FinOn
import HandS.ForMost
import HandS.ForExc
import HandS.Wide
import HandS.IsInst
import HandS.Flow
import HandS.Style
import HandS.Strs
import HandS.More
import HandS.TupAny
import HandS.SortInts
import HandS.Evl
import HandS.Zip
import PySem.Challenge.RW_nearloops_k03_turned_places
set_option Elab.async false
set_option linter.all false
set_option maxRecDepth 100000
set_option maxHeartbeats 4000000
/-! own words and lemmas over the layer: heaps, tests, items -/
namespace NL
open PySem L2
section
variable {H H' : Hp} {a b p q : Addr} {o u : HO}
theorem upd_keep (h : H b = some u) (n : H a = none) : upd H a o b = some u := by
  rw [upd_ne (ne_of_none h n)]; exact h
theorem upd_skip (h : b ≠ a) (hb : H b = some u) : upd H a o b = some u := by
  rw [upd_ne h]; exact hb
theorem ne_new (h : H p = some o) (n : H q = none) : q ≠ p := (ne_of_none h n).symm
theorem same_new (n : H a = none) : Same H (upd H a o) := fun c x e => upd_keep e n
theorem upd_no (h : upd H p o q = none) : H q = none := by
  unfold upd at h; split at h
  · cases h
  · exact h
theorem upd_none_ne (h : upd H p o q = none) : q ≠ p := by
  intro e; subst e; rw [upd_same] at h; cases h
/-- all but p stands -/
def But (p : Addr) (H H' : Hp) : Prop := ∀ c x, c ≠ p → H c = some x → H' c = some x
theorem But.refl : But p H H := fun _ _ _ h => h
theorem But.trans {H1 H2 H3 : Hp} (x : But p H1 H2) (y : But p H2 H3) : But p H1 H3 := fun c z n h => y c z n (x c z n h)
theorem But.upd (x : But p H H') : But p H (upd H' p o) := fun c z n h => upd_skip n (x c z n h)
theorem But.new (x : But p H H') (n : H' a = none) : But p H (L2.upd H' a o) := fun c z m h => upd_keep (x c z m h) n
theorem But.of_same (x : Same H H') : But p H H' := fun c z _ h => x c z h
theorem But.at (x : But p H H') (n : a ≠ p) (h : H a = some o) : H' a = some o := x a o n h
theorem But.same (x : But p H H') (n : H p = none) : Same H H' := fun c z h => x c z (ne_of_none h n) h
end
theorem ifD {c A B : Prop} [Decidable c] (h1 : c → A) (h2 : ¬ c → B) : if decide c = true then A else B := by
  by_cases h : c
  · rw [if_pos (decide_eq_true h)]; exact h1 h
  · rw [if_neg (by rw [decide_eq_false h]; decide)]; exact h2 h
theorem ifN {c A B : Prop} [Decidable c] (h1 : ¬ c → A) (h2 : c → B) : if (!decide c) = true then A else B := by
  by_cases h : c
  · rw [if_neg (by rw [decide_eq_true h]; decide)]; exact h2 h
  · rw [if_pos (by rw [decide_eq_false h]; decide)]; exact h1 h
theorem ifB {A B : Prop} (b : Bool) (h1 : b = true → A) (h2 : b = false → B) : if b = true then A else B := by
  cases b with
  | true => rw [if_pos rfl]; exact h1 rfl
  | false => rw [if_neg (by decide)]; exact h2 rfl
theorem ifT {A B : Prop} {b : Bool} (hb : b = true) (h : A) : if b = true then A else B := by rw [if_pos hb]; exact h
theorem ifF {A B : Prop} {b : Bool} (hb : b = false) (h : B) : if b = true then A else B := by rw [if_neg (by rw [hb]; decide)]; exact h
theorem atI_mem {α : Type} {xs : List α} {i : Int} (h0 : 0 ≤ i) (h1 : i < (xs.length : Int)) : ∃ v, atI xs i = some v ∧ v ∈ xs := by
  have hl : i.toNat < xs.length := by omega
  refine ⟨xs[i.toNat], ?_, List.getElem_mem hl⟩
  have e : ((i.toNat : Nat) : Int) = i := Int.toNat_of_nonneg h0
  have := atI_nat (xs := xs) (j := i.toNat) (v := xs[i.toNat]) (List.getElem?_eq_getElem hl)
  rw [e] at this; exact this
theorem sz1000 {n : Nat} (h : n ≤ 1000) : n ≤ sizeLine := Nat.le_of_lt (small1000 h)
theorem sz100k {n : Nat} (h : n ≤ 100000) : n ≤ sizeLine := Nat.le_trans h (by decide)
theorem sz100k_lt {n : Nat} (h : n < 100000) : n < sizeLine := Nat.lt_of_lt_of_le h (by decide)
/-! comprehensions whose elements are values that do not hang on the heap -/
theorem wipe_set (σ : L2.St) (j : Nat) (x : Option V) : wipe ((wipe σ [j]).set j x) [j] = wipe σ [j] := by
  show (((σ.set j none).set j x).set j none) = σ.set j none
  rw [List.set_set, List.set_set]
theorem take_snoc {α : Type} : ∀ {l : List α} {i : Nat} {x : α}, l[i]? = some x → l.take (i + 1) = l.take i ++ [x]
  | [], i, x, h => by simp at h
  | a :: l, 0, x, h => by
    have e : a = x := Option.some.inj h
    subst e; rfl
  | a :: l, i + 1, x, h => by
    show a :: l.take (i + 1) = a :: l.take i ++ [x]
    rw [take_snoc (l := l) (i := i) h]; rfl
theorem filt_snoc {p : V → Bool} {f : V → V} {xs : List V} {i : Nat} {x : V} (h : xs[i]? = some x) :
    ((xs.take (i + 1)).filter p).map f = if p x = true then ((xs.take i).filter p).map f ++ [f x] else ((xs.take i).filter p).map f := by
  rw [take_snoc h, List.filter_append, List.map_append]
  by_cases hp : p x = true
  · rw [if_pos hp]; simp [List.filter, hp]
  · rw [if_neg hp]
    have hp : p x = false := by simpa using hp
    simp [List.filter, hp]
section
variable {K : PySem.W.Frag} {a : Addr} {xs : List V} {tt : TT} {te : TE} {j : Nat} {σ : L2.St} {H : Hp} {D : Addr} {Qd : Hp → Prop} {p : V → Bool} {f : V → V}
/-- one turn, whatever is walked -/
theorem lc_turn {x : V} {acc : List V} {H' : Hp} {N : Hp → Prop} (nD : H D = none) (sm : Same H H') (hD : H' D = some (.lst acc)) (hb : acc.length ≤ 10000)
    (ht : ∀ (k : Bool → Hp → Prop), (∀ H'', Same H' H'' → k (p x) H'') → tt ((wipe σ [j]).set j (some x)) H' k)
    (he : ∀ (H1 : Hp) (k : VK), Same H' H1 → p x = true → (∀ H'', Same H1 H'' → k (f x) H'') → te ((wipe σ [j]).set j (some x)) H1 k)
    (hN : ∀ H'', Same H H'' → H'' D = some (.lst (if p x = true then acc ++ [f x] else acc)) → N H'') :
    gName j x (wipe σ [j]) H' fun σ2 H2 => wipe σ2 [j] = wipe σ [j] ∧ tt σ2 H2 fun b H3 => if b = true then te σ2 H3 fun y H4 => ∃ acc, H4 D = some (.lst acc) ∧ acc.length < sizeLine ∧ N (upd H4 D (.lst (acc ++ [y]))) else N H3 := by
  refine ⟨wipe_set σ j (some x), ht _ fun H1 s1 => ?_⟩
  refine ifB _ (fun hp => ?_) (fun hp => ?_)
  · refine he H1 _ s1 hp fun H2 s2 => ?_
    refine ⟨acc, s2 _ _ (s1 _ _ hD), Nat.lt_of_le_of_lt hb (by decide), hN _ (fun c o e => ?_) ?_⟩
    · exact upd_skip (ne_of_none e nD) (s2 _ _ (s1 _ _ (sm _ _ e)))
    · rw [if_pos hp]; exact upd_same
  · refine hN _ (sm.trans s1) ?_
    rw [if_neg (by rw [hp]; decide)]; exact s1 _ _ hD
theorem filt_len (n : Nat) : (((xs.take n).filter p).map f).length ≤ xs.length := by
  rw [List.length_map]
  exact Nat.le_trans (List.length_filter_le _ _) (by rw [List.length_take]; omega)
theorem lcL_filt (nD : H D = none) (hl : SqL K H a xs) (hb : xs.length ≤ 10000)
    (ht : ∀ (i : Nat) (x : V) (H' : Hp) (k : Bool → Hp → Prop), xs[i]? = some x → Same H H' → (∀ H'', Same H' H'' → k (p x) H'') → tt ((wipe σ [j]).set j (some x)) H' k)
    (he : ∀ (i : Nat) (x : V) (H' : Hp) (k : VK), xs[i]? = some x → p x = true → Same H H' → (∀ H'', Same H' H'' → k (f x) H'') → te ((wipe σ [j]).set j (some x)) H' k)
    (hd : ∀ H', Same H H' → H' D = some (.lst ((xs.filter p).map f)) → Qd H') :
    ∃ W : Nat → Nat → Hp → Prop, (∃ m, W 0 m (upd H D (.lst []))) ∧ ∀ i m H, W i m H →
      ((Itl K a).stop i H ∧ Qd H) ∨ ((Itl K a).go i H ∧ ∃ Nx : Hp → Prop, (∀ H', Nx H' → ∃ m', m' < m ∧ W (i + 1) m' H') ∧ ∀ x H', (Itl K a).yld i H x H' → gName j x (wipe σ [j]) H' fun σ2 H2 => wipe σ2 [j] = wipe σ [j] ∧ tt σ2 H2 fun b H3 =>
        if b = true then te σ2 H3 fun y H4 => ∃ acc, H4 D = some (.lst acc) ∧ acc.length < sizeLine ∧ Nx (upd H4 D (.lst (acc ++ [y]))) else Nx H3) := by
  refine lc_list (K := K) (a := a) (xs := xs) (fun i H' => Same H H' ∧ H' D = some (.lst (((xs.take i).filter p).map f))) ⟨same_new nD, upd_same⟩ (fun i H' _ h => h.1.seq hl) ?_ ?_
  · rintro i x H' hx ⟨sm, hD⟩
    refine lc_turn nD sm hD (Nat.le_trans (filt_len i) hb) (fun k hk => ht i x H' k hx sm hk) (fun H1 k s1 hp hk => he i x H1 k hx hp (sm.trans s1) hk) fun H'' s2 e => ⟨s2, ?_⟩
    rw [filt_snoc hx]; exact e
  · rintro H' ⟨sm, hD⟩
    rw [List.take_length] at hD
    exact hd H' sm hD
theorem lcT_filt (nD : H D = none) (hl : SqT K H a xs) (hb : xs.length ≤ 10000)
    (ht : ∀ (i : Nat) (x : V) (H' : Hp) (k : Bool → Hp → Prop), xs[i]? = some x → Same H H' → (∀ H'', Same H' H'' → k (p x) H'') → tt ((wipe σ [j]).set j (some x)) H' k)
    (he : ∀ (i : Nat) (x : V) (H' : Hp) (k : VK), xs[i]? = some x → p x = true → Same H H' → (∀ H'', Same H' H'' → k (f x) H'') → te ((wipe σ [j]).set j (some x)) H' k)
    (hd : ∀ H', Same H H' → H' D = some (.lst ((xs.filter p).map f)) → Qd H') :
    ∃ W : Nat → Nat → Hp → Prop, (∃ m, W 0 m (upd H D (.lst []))) ∧ ∀ i m H, W i m H →
      ((Itt K a).stop i H ∧ Qd H) ∨ ((Itt K a).go i H ∧ ∃ Nx : Hp → Prop, (∀ H', Nx H' → ∃ m', m' < m ∧ W (i + 1) m' H') ∧ ∀ x H', (Itt K a).yld i H x H' → gName j x (wipe σ [j]) H' fun σ2 H2 => wipe σ2 [j] = wipe σ [j] ∧ tt σ2 H2 fun b H3 =>
        if b = true then te σ2 H3 fun y H4 => ∃ acc, H4 D = some (.lst acc) ∧ acc.length < sizeLine ∧ Nx (upd H4 D (.lst (acc ++ [y]))) else Nx H3) := by
  have sq : ∀ {H' : Hp}, Same H H' → SqT K H' a xs := fun {H'} sm => by
    rcases hl with (h | ⟨o, h⟩) | h
    · exact .inl (.inl (sm _ _ h))
    · exact .inl (.inr ⟨o, sm _ _ h⟩)
    · exact .inr h
  refine lc_tup (K := K) (a := a) (xs := xs) (fun i H' => Same H H' ∧ H' D = some (.lst (((xs.take i).filter p).map f))) ⟨same_new nD, upd_same⟩ (fun i H' _ h => sq h.1) ?_ ?_
  · rintro i x H' hx ⟨sm, hD⟩
    refine lc_turn nD sm hD (Nat.le_trans (filt_len i) hb) (fun k hk => ht i x H' k hx sm hk) (fun H1 k s1 hp hk => he i x H1 k hx hp (sm.trans s1) hk) fun H'' s2 e => ⟨s2, ?_⟩
    rw [filt_snoc hx]; exact e
  · rintro H' ⟨sm, hD⟩
    rw [List.take_length] at hD
    exact hd H' sm hD
theorem filt_all {xs : List V} {f : V → V} : (xs.filter fun _ => true).map f = xs.map f := by rw [List.filter_eq_self.mpr (fun _ _ => rfl)]
end
theorem SqT_same {K : PySem.W.Frag} {H H' : Hp} {a : Addr} {xs : List V} (sm : Same H H') (hl : SqT K H a xs) : SqT K H' a xs := by
  rcases hl with (h | ⟨o, h⟩) | h
  · exact .inl (.inl (sm _ _ h))
  · exact .inl (.inr ⟨o, sm _ _ h⟩)
  · exact .inr h
/-! data -/
theorem dpAll_str {K : PySem.W.Frag} {H : Hp} : ∀ zs : List Str, DpAll K H (zs.map V.str) (zs.map PyData.str)
  | [] => .nil
  | z :: zs => .cons (.str z) (dpAll_str zs)
theorem dpAll_int {K : PySem.W.Frag} {H : Hp} : ∀ zs : List Int, DpAll K H (zs.map V.int) (zs.map PyData.int)
  | [] => .nil
  | z :: zs => .cons (.int z) (dpAll_int zs)
theorem canLay_strs : ∀ {zs : List Str}, (∀ z ∈ zs, PyData.strOk z = true) → PyData.canLayAll0 (zs.map PyData.str) = true
  | [], _ => rfl
  | z :: zs, h => by
    show (PyData.strOk z && PyData.canLayAll0 (zs.map PyData.str)) = true
    rw [h z List.mem_cons_self, canLay_strs fun y hy => h y (List.mem_cons_of_mem _ hy)]; rfl
theorem depth_strs : ∀ zs : List Str, PyData.depthAll (zs.map PyData.str) = 0
  | [] => rfl
  | z :: zs => by
    show max 0 (PyData.depthAll (zs.map PyData.str)) = 0
    rw [depth_strs zs]; rfl
theorem shaped_of {d : PyData} (h : d.canLay0 = true) (h2 : d.depth ≤ 64) : SeqAt.shaped d = true := by
  unfold SeqAt.shaped; rw [h, decide_eq_true h2]; rfl
theorem shapedL_strs {zs : List Str} (h : ∀ z ∈ zs, PyData.strOk z = true) : SeqAt.shaped (.list (zs.map .str)) = true :=
  shaped_of (canLay_strs h) (by show PyData.depthAll (zs.map PyData.str) + 1 ≤ 64; rw [depth_strs]; decide)
theorem shapedT_strs {zs : List Str} (h : ∀ z ∈ zs, PyData.strOk z = true) : SeqAt.shaped (.tuple (zs.map .str)) = true :=
  shaped_of (canLay_strs h) (by show PyData.depthAll (zs.map PyData.str) + 1 ≤ 64; rw [depth_strs]; decide)
theorem eqv_same {d : PyData} (h : SeqAt.shaped d = true) : PyData.eqv d d = true := SeqAt.eqv_refl d (SeqAt.canLay_of_shaped h)
theorem flats_str (zs : List Str) : (zs.map V.str).all flatV = true := by
  rw [List.all_eq_true]; intro x hx
  obtain ⟨z, _, rfl⟩ := List.mem_map.mp hx; rfl
theorem inV_strs (z : Str) : ∀ zs : List Str, inV (.str z) (zs.map V.str) = decide (z ∈ zs)
  | [] => by simp [inV]
  | y :: zs => by
    show (eqV (.str y) (.str z) || inV (.str z) (zs.map V.str)) = _
    rw [inV_strs z zs]
    have e : eqV (.str y) (.str z) = decide (y = z) := by
      show (y == z) = _
      by_cases h : y = z
      · subst h; simp
      · simp [h]
    rw [e]
    by_cases h : y = z
    · subst h; simp
    · have h2 : ¬ z = y := fun q => h q.symm
      simp [h, h2]
/-! the source -/
/-- at p stands a source that has been drawn from c times -/
def Src (H : Hp) (p : Addr) (c : Int) : Prop := ∃ g s : Int, H p = some (.lst [.int g, .int s, .int c]) ∧ 0 ≤ s ∧ s < 2147483647 ∧ 0 ≤ c
section
variable {H H' : Hp} {p q : Addr} {c : Int} {o : HO}
theorem Src.nn (h : Src H p c) : 0 ≤ c := by obtain ⟨_, _, _, _, _, h⟩ := h; exact h
theorem Src.ne (h : Src H p c) (n : H q = none) : q ≠ p := by obtain ⟨_, _, e, _⟩ := h; exact ne_new e n
theorem Src.keep (h : Src H p c) (n : H q = none) : Src (L2.upd H q o) p c := by
  obtain ⟨g, s, e, r⟩ := h; exact ⟨g, s, upd_keep e n, r⟩
theorem Src.skip (h : Src H p c) (n : p ≠ q) : Src (L2.upd H q o) p c := by
  obtain ⟨g, s, e, r⟩ := h; exact ⟨g, s, upd_skip n e, r⟩
theorem Src.same (h : Src H p c) (s : Same H H') : Src H' p c := by
  obtain ⟨g, z, e, r⟩ := h; exact ⟨g, z, s _ _ e, r⟩
end
/-! places -/
def signS (i j : Int) : Str := if i = j then "=" else if i < j then "<" else ">"
def placeOfS (d : Int) (z : Str) : Str := if d < -1 then "below" else if 1 < d then "above" else (if d = -1 then "-" else if d = 1 then "+" else "") ++ z
def placeS (x k e : Int) : Str := placeOfS (x / e - k / e) (signS (x % e) (k % e))
theorem signS_len (i j : Int) : (signS i j).length ≤ 1000 := by
  unfold signS; split
  · decide
  · split <;> decide
end NL
namespace NL
open PySem L2
/-! the place hangs on the difference of cells and the order of rests -/
theorem place_shift {x k e m : Int} (he : 0 < e) : placeS (x + m * e) (k + m * e) e = placeS x k e := by
  unfold placeS
  rw [Int.add_mul_ediv_right _ _ (by omega), Int.add_mul_ediv_right _ _ (by omega), Int.add_mul_emod_self_right, Int.add_mul_emod_self_right]
  congr 1; omega
theorem sign_scale {a b t : Int} (ht : 0 < t) : signS (t * a) (t * b) = signS a b := by
  unfold signS
  by_cases h : a = b
  · rw [if_pos h, if_pos (by rw [h])]
  · rw [if_neg h, if_neg (fun z => h (Int.eq_of_mul_eq_mul_left (by omega) z))]
    by_cases h2 : a < b
    · rw [if_pos h2, if_pos (Int.mul_lt_mul_of_pos_left h2 ht)]
    · rw [if_neg h2, if_neg]
      intro z
      exact h2 (Int.lt_of_mul_lt_mul_left z (by omega))
theorem place_scale {x k e t : Int} (ht : 0 < t) : placeS (x * t) (k * t) (e * t) = placeS x k e := by
  unfold placeS
  rw [Int.mul_comm x t, Int.mul_comm k t, Int.mul_comm e t, Int.mul_ediv_mul_of_pos _ _ ht, Int.mul_ediv_mul_of_pos _ _ ht, Int.mul_emod_mul_of_pos _ _ ht, Int.mul_emod_mul_of_pos _ _ ht, sign_scale ht]
theorem div_wide {q r w : Int} (h0 : 0 ≤ r) (h1 : r < w) : (q * w + r) / w = q ∧ (q * w + r) % w = r := by
  have hw : w ≠ 0 := by omega
  constructor
  · rw [Int.add_comm, Int.add_mul_ediv_right _ _ hw, Int.ediv_eq_zero_of_lt h0 h1]; omega
  · rw [Int.add_comm, Int.add_mul_emod_self_right, Int.emod_eq_of_lt h0 h1]
theorem place_wide {x k e w : Int} (he : 0 < e) (hw : e ≤ w) : placeS (x / e * w + x % e) (k / e * w + k % e) w = placeS x k e := by
  have h1 := div_wide (q := x / e) (r := x % e) (w := w) (Int.emod_nonneg _ (by omega)) (by have := Int.emod_lt_of_pos x he; omega)
  have h2 := div_wide (q := k / e) (r := k % e) (w := w) (Int.emod_nonneg _ (by omega)) (by have := Int.emod_lt_of_pos k he; omega)
  unfold placeS
  rw [h1.1, h1.2, h2.1, h2.2]
theorem mul_bd {a b A B : Int} (ha : -A ≤ a) (ha2 : a ≤ A) (hb : 0 ≤ b) (hB : b ≤ B) (hA : 0 ≤ A) : -(A * B) ≤ a * b ∧ a * b ≤ A * B := by
  constructor
  · have h1 : -A * b ≤ a * b := Int.mul_le_mul_of_nonneg_right ha hb
    have h2 : A * b ≤ A * B := Int.mul_le_mul_of_nonneg_left hB hA
    rw [Int.neg_mul] at h1; omega
  · have h1 : a * b ≤ A * b := Int.mul_le_mul_of_nonneg_right ha2 hb
    have h2 : A * b ≤ A * B := Int.mul_le_mul_of_nonneg_left hB hA
    omega
/-! the eleven places in order, by ten bounds -/
def PL : List Str := ["below", "-<", "-=", "->", "<", "=", ">", "+<", "+=", "+>", "above"]
def endsL (k e : Int) : List Int := [k - k % e - e, k - e, k - e + 1, k - k % e, k, k + 1, k - k % e + e, k + e, k + e + 1, k - k % e + 2 * e]
def cnt (x k e : Int) : Nat := ((endsL k e).filter fun z => decide (z ≤ x)).length
theorem filt_cons (a : Int) (l : List Int) (x : Int) : ((a :: l).filter fun z => decide (z ≤ x)).length = (if a ≤ x then 1 else 0) + (l.filter fun z => decide (z ≤ x)).length := by
  by_cases h : a ≤ x
  · rw [List.filter_cons_of_pos (by simpa using h), if_pos h, List.length_cons]; omega
  · rw [List.filter_cons_of_neg (by simpa using h), if_neg h]; omega
theorem cnt_eq (x k e : Int) : cnt x k e = (if k - k % e - e ≤ x then 1 else 0) + ((if k - e ≤ x then 1 else 0) + ((if k - e + 1 ≤ x then 1 else 0) + ((if k - k % e ≤ x then 1 else 0) + ((if k ≤ x then 1 else 0) + ((if k + 1 ≤ x then 1 else 0) + ((if k - k % e + e ≤ x then 1 else 0) + ((if k + e ≤ x then 1 else 0) + ((if k + e + 1 ≤ x then 1 else 0) + ((if k - k % e + 2 * e ≤ x then 1 else 0) + 0))))))))) := by
  unfold cnt endsL
  simp only [filt_cons]; rfl
theorem filt_mono {x y : Int} (h : x ≤ y) : ∀ l : List Int, (l.filter fun z => decide (z ≤ x)).length ≤ (l.filter fun z => decide (z ≤ y)).length
  | [] => Nat.le_refl _
  | a :: l => by
    have ih := filt_mono h l
    rw [filt_cons, filt_cons]
    split <;> split <;> omega
theorem cnt_mono {x y k e : Int} (h : x ≤ y) : cnt x k e ≤ cnt y k e := filt_mono h _
theorem cnt_place {x k e : Int} (he : 0 < e) : PL[cnt x k e]? = some (placeS x k e) := by
  have hx := Int.emod_add_mul_ediv x e
  have hk := Int.emod_add_mul_ediv k e
  have x1 := Int.emod_nonneg x (show e ≠ 0 by omega)
  have x2 := Int.emod_lt_of_pos x he
  have k1 := Int.emod_nonneg k (show e ≠ 0 by omega)
  have k2 := Int.emod_lt_of_pos k he
  rw [cnt_eq]
  unfold placeS placeOfS signS
  generalize x / e = qx at *
  generalize k / e = qk at *
  generalize x % e = rx at *
  generalize k % e = rk at *
  by_cases d1 : qx - qk < -1
  · have m : e * qx ≤ e * (qk - 2) := Int.mul_le_mul_of_nonneg_left (by omega) (by omega)
    rw [Int.mul_sub] at m
    rw [if_pos d1]
    rw [if_neg (by omega), if_neg (by omega), if_neg (by omega), if_neg (by omega), if_neg (by omega), if_neg (by omega), if_neg (by omega), if_neg (by omega), if_neg (by omega), if_neg (by omega)]
    rfl
  rw [if_neg d1]
  by_cases d2 : 1 < qx - qk
  · have m : e * (qk + 2) ≤ e * qx := Int.mul_le_mul_of_nonneg_left (by omega) (by omega)
    rw [Int.mul_add] at m
    rw [if_pos d2]
    rw [if_pos (by omega), if_pos (by omega), if_pos (by omega), if_pos (by omega), if_pos (by omega), if_pos (by omega), if_pos (by omega), if_pos (by omega), if_pos (by omega), if_pos (by omega)]
    rfl
  rw [if_neg d2]
  rcases (show qx = qk - 1 ∨ qx = qk ∨ qx = qk + 1 by omega) with h | h | h
  · subst h
    rw [Int.mul_sub] at hx
    rw [if_pos (show qk - 1 - qk = -1 by omega), if_pos (show k - rk - e ≤ x by omega), if_neg (show ¬ k - rk ≤ x by omega), if_neg (show ¬ k ≤ x by omega), if_neg (show ¬ k + 1 ≤ x by omega), if_neg (show ¬ k - rk + e ≤ x by omega), if_neg (show ¬ k + e ≤ x by omega), if_neg (show ¬ k + e + 1 ≤ x by omega), if_neg (show ¬ k - rk + 2 * e ≤ x by omega)]
    by_cases c1 : rx = rk
    · rw [if_pos c1, if_pos (show k - e ≤ x by omega), if_neg (show ¬ k - e + 1 ≤ x by omega)]; rfl
    · rw [if_neg c1]
      by_cases c2 : rx < rk
      · rw [if_pos c2, if_neg (show ¬ k - e ≤ x by omega), if_neg (show ¬ k - e + 1 ≤ x by omega)]; rfl
      · rw [if_neg c2, if_pos (show k - e ≤ x by omega), if_pos (show k - e + 1 ≤ x by omega)]; rfl
  · subst h
    rw [if_neg (show ¬ qx - qx = -1 by omega), if_neg (show ¬ qx - qx = 1 by omega), if_pos (show k - rk - e ≤ x by omega), if_pos (show k - e ≤ x by omega), if_pos (show k - e + 1 ≤ x by omega), if_pos (show k - rk ≤ x by omega), if_neg (show ¬ k - rk + e ≤ x by omega), if_neg (show ¬ k + e ≤ x by omega), if_neg (show ¬ k + e + 1 ≤ x by omega), if_neg (show ¬ k - rk + 2 * e ≤ x by omega)]
    by_cases c1 : rx = rk
    · rw [if_pos c1, if_pos (show k ≤ x by omega), if_neg (show ¬ k + 1 ≤ x by omega)]; rfl
    · rw [if_neg c1]
      by_cases c2 : rx < rk
      · rw [if_pos c2, if_neg (show ¬ k ≤ x by omega), if_neg (show ¬ k + 1 ≤ x by omega)]; rfl
      · rw [if_neg c2, if_pos (show k ≤ x by omega), if_pos (show k + 1 ≤ x by omega)]; rfl
  · subst h
    rw [Int.mul_add] at hx
    rw [if_neg (show ¬ qk + 1 - qk = -1 by omega), if_pos (show qk + 1 - qk = 1 by omega), if_pos (show k - rk - e ≤ x by omega), if_pos (show k - e ≤ x by omega), if_pos (show k - e + 1 ≤ x by omega), if_pos (show k - rk ≤ x by omega), if_pos (show k ≤ x by omega), if_pos (show k + 1 ≤ x by omega), if_pos (show k - rk + e ≤ x by omega), if_neg (show ¬ k - rk + 2 * e ≤ x by omega)]
    by_cases c1 : rx = rk
    · rw [if_pos c1, if_pos (show k + e ≤ x by omega), if_neg (show ¬ k + e + 1 ≤ x by omega)]; rfl
    · rw [if_neg c1]
      by_cases c2 : rx < rk
      · rw [if_pos c2, if_neg (show ¬ k + e ≤ x by omega), if_neg (show ¬ k + e + 1 ≤ x by omega)]; rfl
      · rw [if_neg c2, if_pos (show k + e ≤ x by omega), if_pos (show k + e + 1 ≤ x by omega)]; rfl
theorem placeS_mem {x k e : Int} (he : 0 < e) : placeS x k e ∈ PL := List.mem_of_getElem? (cnt_place he)
theorem PL_nodup : PL.Nodup := by decide +kernel
theorem first_nd {l : List Str} (hl : l.Nodup) {z : Str} {j : Nat} (h : l[j]? = some z) : ∀ m, m < j → l[m]? ≠ some z := fun m hm e => by
  have := nd_ix hl e h
  omega
theorem PL_first {z : Str} {j : Nat} (h : PL[j]? = some z) : ∀ m, m < j → PL[m]? ≠ some z := first_nd PL_nodup h
theorem PL_ok : ∀ z ∈ PL, PyData.strOk z = true := by decide +kernel
/-! turned places -/
def turnS (z : Str) : Str := PL.reverse.getD (PL.findIdx fun y => decide (y = z)) ""
theorem turn_at {j : Nat} {z : Str} (h : PL[j]? = some z) : PL[10 - j]? = some (turnS z) := by
  have hj := (List.getElem?_eq_some_iff.mp h).1
  have hj : j < 11 := hj
  have e : PL.getD j "" = z := by rw [List.getD_eq_getElem?_getD, h]; rfl
  subst e
  revert j
  decide +kernel
theorem turn_place {x k e : Int} : turnS (placeS x k e) = placeS k x e := by
  unfold placeS
  generalize hd : x / e - k / e = d
  have hd2 : k / e - x / e = -d := by omega
  rw [hd2]
  unfold placeOfS signS
  generalize x % e = a
  generalize k % e = b
  by_cases d1 : d < -1
  · rw [if_pos d1, if_neg (show ¬ -d < -1 by omega), if_pos (show 1 < -d by omega)]; decide +kernel
  rw [if_neg d1]
  by_cases d2 : 1 < d
  · rw [if_pos d2, if_pos (show -d < -1 by omega)]; decide +kernel
  rw [if_neg d2, if_neg (show ¬ -d < -1 by omega), if_neg (show ¬ 1 < -d by omega)]
  by_cases c1 : a = b
  · rw [if_pos c1, if_pos c1.symm]
    rcases (show d = -1 ∨ d = 0 ∨ d = 1 by omega) with h | h | h <;> subst h <;> decide +kernel
  · rw [if_neg c1, if_neg (show ¬ b = a from fun z => c1 z.symm)]
    by_cases c2 : a < b
    · rw [if_pos c2, if_neg (show ¬ b < a by omega)]
      rcases (show d = -1 ∨ d = 0 ∨ d = 1 by omega) with h | h | h <;> subst h <;> decide +kernel
    · rw [if_neg c2, if_pos (show b < a by omega)]
      rcases (show d = -1 ∨ d = 0 ∨ d = 1 by omega) with h | h | h <;> subst h <;> decide +kernel
theorem turn_mem {z : Str} (h : z ∈ PL) : turnS z ∈ PL := by
  obtain ⟨j, hj⟩ := List.getElem?_of_mem h
  exact List.mem_of_getElem? (turn_at hj)
theorem turn_turn : ∀ {z : Str}, z ∈ PL → turnS (turnS z) = z := by decide +kernel
end NL
local macro_rules | `(tactic| walk_at "hp") => `(tactic| first | assumption | exact L2.upd_same | (refine NL.upd_keep ?_ (by assumption); walk_at "hp") | (refine NL.upd_skip (by assumption) ?_; walk_at "hp") | (refine NL.But.at (by assumption) (by assumption) ?_; walk_at "hp"))
local macro_rules | `(tactic| walk_at "sq") => `(tactic| first | assumption | exact L2.SqL.of (by walk_at "hp") | exact L2.SqT.of (by walk_at "hp"))
local macro_rules | `(tactic| walk_at "at") => `(tactic| first | rfl | assumption)
local macro_rules | `(tactic| walk_at "ixN") => `(tactic| first | rfl | assumption)
local macro_rules | `(tactic| walk_at "pos") => `(tactic| first | assumption | (show (_ : Int) < _; omega) | decide)
local macro_rules | `(tactic| walk_at "len") => `(tactic| first | exact NL.sz1000 (by decide) | exact NL.sz100k (by decide) | exact NL.sz100k (by omega) | exact NL.sz100k (by simp))
local macro_rules | `(tactic| walk_at "mul") => `(tactic| first | (refine Or.inl ⟨?_, ?_⟩ <;> omega) | (refine Or.inr ⟨?_, ?_⟩ <;> omega))
local macro_rules | `(tactic| walk_at "pow") => `(tactic| first | exact ⟨by decide, by decide, by decide⟩ | exact ⟨by decide, by decide, by omega⟩)
local macro_rules | `(tactic| walk_at "div") => `(tactic| first | assumption | exact L2.wide_div (b := 100) (by omega) (by omega) (by decide) (by decide))
local macro_rules | `(tactic| walk_at "arith") => `(tactic| first | decide | omega)
local macro_rules | `(tactic| walk_at "tyx") => `(tactic| first | exact L2.TyX.base (L2.TyOf.int _) | exact L2.TyX.base (L2.TyOf.str _) | exact L2.TyX.base (L2.TyOf.bl _) | exact L2.TyX.base L2.TyOf.non | exact L2.TyX.base (L2.TyOf.lst (by walk_at "hp")) | exact L2.TyX.base (L2.TyOf.tup (by walk_at "hp")))
namespace Law
open PySem L2 NL
def topS (i : Nat) : Stmt := PySem.Challenge.pw_nearloops_k03_turned_places.main.body.getD i (.Pass ⟨0, 0, 0, 0⟩)
abbrev s_is_number : Stmt := topS 8
abbrev N_is_number : List Str := ["value"]
theorem sc_is_number : FnScope N_is_number ["value"] (defScope s_is_number) := ⟨rfl, rfl, rfl, by decide +kernel, rfl, by decide +kernel, by decide +kernel⟩
abbrev s_check_number : Stmt := topS 9
abbrev N_check_number : List Str := ["value"]
theorem sc_check_number : FnScope N_check_number ["value"] (defScope s_check_number) := ⟨rfl, rfl, rfl, by decide +kernel, rfl, by decide +kernel, by decide +kernel⟩
abbrev s_check_tolerance : Stmt := topS 10
abbrev N_check_tolerance : List Str := ["value"]
theorem sc_check_tolerance : FnScope N_check_tolerance ["value"] (defScope s_check_tolerance) := ⟨rfl, rfl, rfl, by decide +kernel, rfl, by decide +kernel, by decide +kernel⟩
abbrev s_sign_of : Stmt := topS 11
abbrev N_sign_of : List Str := ["first", "second"]
theorem sc_sign_of : FnScope N_sign_of ["first", "second"] (defScope s_sign_of) := ⟨rfl, rfl, rfl, by decide +kernel, rfl, by decide +kernel, by decide +kernel⟩
abbrev s_place_of : Stmt := topS 12
abbrev N_place_of : List Str := ["step", "sign"]
theorem sc_place_of : FnScope N_place_of ["step", "sign"] (defScope s_place_of) := ⟨rfl, rfl, rfl, by decide +kernel, rfl, by decide +kernel, by decide +kernel⟩
abbrev s_place : Stmt := topS 13
abbrev N_place : List Str := ["x", "kept", "tolerance"]
theorem sc_place : FnScope N_place ["x", "kept", "tolerance"] (defScope s_place) := ⟨rfl, rfl, rfl, by decide +kernel, rfl, by decide +kernel, by decide +kernel⟩
abbrev s_turned : Stmt := topS 14
abbrev N_turned : List Str := ["place"]
theorem sc_turned : FnScope N_turned ["place"] (defScope s_turned) := ⟨rfl, rfl, rfl, by decide +kernel, rfl, by decide +kernel, by decide +kernel⟩
abbrev s__law_source : Stmt := topS 16
abbrev N__law_source : List Str := ["_law_script", "_law_great", "_law_seed", "_law_cell"]
theorem sc__law_source : FnScope N__law_source ["_law_script"] (defScope s__law_source) := ⟨rfl, rfl, rfl, by decide +kernel, rfl, by decide +kernel, by decide +kernel⟩
abbrev s__law_draw : Stmt := topS 17
abbrev N__law_draw : List Str := ["_law_source_here", "_law_many", "_law_digit", "_law_mixed"]
theorem sc__law_draw : FnScope N__law_draw ["_law_source_here", "_law_many"] (defScope s__law_draw) := ⟨rfl, rfl, rfl, by decide +kernel, rfl, by decide +kernel, by decide +kernel⟩
abbrev s__law_tolerance : Stmt := topS 18
abbrev N__law_tolerance : List Str := ["_law_source_here"]
theorem sc__law_tolerance : FnScope N__law_tolerance ["_law_source_here"] (defScope s__law_tolerance) := ⟨rfl, rfl, rfl, by decide +kernel, rfl, by decide +kernel, by decide +kernel⟩
abbrev s_law : Stmt := topS 19
abbrev N_law : List Str := ["_law_script", "_law_source_here", "_law_where", "_law_tolerance_here", "_law_turn", "_law_kept", "_law_x"]
theorem sc_law : FnScope N_law ["_law_script"] (defScope s_law) := ⟨rfl, rfl, rfl, by decide +kernel, rfl, by decide +kernel, by decide +kernel⟩
/-- what the top has written: where each def stands, the names that are still built-in, the constants -/
structure Tx (K : PySem.W.Frag) (mg : Str → Option Value) where
  a_is_number : Addr
  fd_is_number : FuncData
  F_is_number : Fun K "is_number" "is_number" s_is_number a_is_number fd_is_number
  b_is_number : Binds K fd_is_number ["value"] []
  g_is_number : mg "is_number" = some (.ref a_is_number)
  a_check_number : Addr
  fd_check_number : FuncData
  F_check_number : Fun K "check_number" "check_number" s_check_number a_check_number fd_check_number
  b_check_number : Binds K fd_check_number ["value"] []
  g_check_number : mg "check_number" = some (.ref a_check_number)
  a_check_tolerance : Addr
  fd_check_tolerance : FuncData
  F_check_tolerance : Fun K "check_tolerance" "check_tolerance" s_check_tolerance a_check_tolerance fd_check_tolerance
  b_check_tolerance : Binds K fd_check_tolerance ["value"] []
  g_check_tolerance : mg "check_tolerance" = some (.ref a_check_tolerance)
  a_sign_of : Addr
  fd_sign_of : FuncData
  F_sign_of : Fun K "sign_of" "sign_of" s_sign_of a_sign_of fd_sign_of
  b_sign_of : Binds K fd_sign_of ["first", "second"] []
  g_sign_of : mg "sign_of" = some (.ref a_sign_of)
  a_place_of : Addr
  fd_place_of : FuncData
  F_place_of : Fun K "place_of" "place_of" s_place_of a_place_of fd_place_of
  b_place_of : Binds K fd_place_of ["step", "sign"] []
  g_place_of : mg "place_of" = some (.ref a_place_of)
  a_place : Addr
  fd_place : FuncData
  F_place : Fun K "place" "place" s_place a_place fd_place
  b_place : Binds K fd_place ["x", "kept", "tolerance"] []
  g_place : mg "place" = some (.ref a_place)
  a_turned : Addr
  fd_turned : FuncData
  F_turned : Fun K "turned" "turned" s_turned a_turned fd_turned
  b_turned : Binds K fd_turned ["place"] []
  g_turned : mg "turned" = some (.ref a_turned)
  a__law_source : Addr
  fd__law_source : FuncData
  F__law_source : Fun K "_law_source" "_law_source" s__law_source a__law_source fd__law_source
  b__law_source : Binds K fd__law_source ["_law_script"] []
  g__law_source : mg "_law_source" = some (.ref a__law_source)
  a__law_draw : Addr
  fd__law_draw : FuncData
  F__law_draw : Fun K "_law_draw" "_law_draw" s__law_draw a__law_draw fd__law_draw
  b__law_draw : Binds K fd__law_draw ["_law_source_here", "_law_many"] []
  g__law_draw : mg "_law_draw" = some (.ref a__law_draw)
  a__law_tolerance : Addr
  fd__law_tolerance : FuncData
  F__law_tolerance : Fun K "_law_tolerance" "_law_tolerance" s__law_tolerance a__law_tolerance fd__law_tolerance
  b__law_tolerance : Binds K fd__law_tolerance ["_law_source_here"] []
  g__law_tolerance : mg "_law_tolerance" = some (.ref a__law_tolerance)
  a_law : Addr
  fd_law : FuncData
  F_law : Fun K "law" "law" s_law a_law fd_law
  b_law : Binds K fd_law ["_law_script"] []
  g_law : mg "law" = some (.ref a_law)
  m_len : mg "len" = none
  m_int : mg "int" = none
  m_bool : mg "bool" = none
  m_str : mg "str" = none
  m_list : mg "list" = none
  m_range : mg "range" = none
  m_isinstance : mg "isinstance" = none
  m_super : mg "super" = none
  m_ValueError : mg "ValueError" = none
  t_BOUND : Tok
  g_BOUND : mg "BOUND" = some (.int 1000000000000000000000000000000 t_BOUND)
  a_PLACES : Addr
  g_PLACES : mg "PLACES" = some (.ref a_PLACES)
  k_PLACES : ∃ o, K.lookup a_PLACES = some o ∧ o.cls = .type "tuple" ∧ o.dict = none
  p_PLACES : ∀ H : Hp, SqT K H a_PLACES [.str "below", .str "-<", .str "-=", .str "->", .str "<", .str "=", .str ">", .str "+<", .str "+=", .str "+>", .str "above"]
section
variable {P : Program} {w : World} {K : PySem.W.Frag} {mg : Str → Option Value} {base : Heap}
/-- is_number of an int -/
def sp_is_number : Sp := fun vs H Q _ => ∃ i : Int, vs = [.int i] ∧ Q (.bl (decide (-1000000000000000000000000000000 < i) && decide (i < 1000000000000000000000000000000))) H
theorem ok_is_number (T : Tx K mg) : FnOk P w K mg base CX0 1 T.a_is_number T.fd_is_number ["value"] sp_is_number := by
  refine T.F_is_number.ok sc_is_number (fun vs H Q E h => ?_) (fun cdv A outer s H vs Q E hr h => ?_)
  · obtain ⟨i, rfl, _⟩ := h; rfl
  · obtain ⟨i, rfl, q⟩ := h
    refine ⟨_, ((pss_one (ps_ret (pe_and (pe_callB (call_isi) (by rfl) T.m_isinstance (by decide +kernel) (pa_cons (pv 0) (pa_cons (pe_bltn (v := .ty "int") (by rfl) T.m_int (by decide +kernel) rfl) pa_nil))) (pe_and (pe_not (pe_callB (call_isi) (by rfl) T.m_isinstance (by decide +kernel) (pa_cons (pv 0) (pa_cons (pe_bltn (v := .ty "bool") (by rfl) T.m_bool (by decide +kernel) rfl) pa_nil)))) (pe_one (pe_chain (op_lt) (op_lt) (pe_op op_sub pe_int (pe_glob (v := .int 1000000000000000000000000000000) rfl T.g_BOUND ⟨_, rfl⟩)) (pv 0) (pe_glob (v := .int 1000000000000000000000000000000) rfl T.g_BOUND ⟨_, rfl⟩)))))))), ?_⟩
    refine ⟨_, rfl, _, _, _, _, true, rfl, .ty _, (by walk_at "tyx"), kit_ty (by decide +kernel), _, rfl, ?_⟩
    refine ifT rfl ?_
    refine ⟨_, rfl, _, _, _, _, false, rfl, .ty _, (by walk_at "tyx"), kit_ty (by decide +kernel), _, rfl, _, rfl, ?_⟩
    refine ifT rfl ?_
    refine ⟨_, _, rfl, rfl, _, rfl, _, _, rfl, rfl, _, rfl, ?_⟩
    refine ifD (fun c => ?_) (fun c => ?_)
    · refine ⟨_, _, rfl, rfl, ?_⟩
      have e : decide (-1000000000000000000000000000000 < i) = true := decide_eq_true (by omega)
      rw [e] at q; exact q
    · have e : decide (-1000000000000000000000000000000 < i) = false := decide_eq_false (by omega)
      rw [e] at q; exact q
/-- check_number of a number -/
def sp_check_number : Sp := fun vs H Q _ => ∃ i : Int, vs = [.int i] ∧ -1000000000000000000000000000000 < i ∧ i < 1000000000000000000000000000000 ∧ Q .non H
theorem ok_check_number (T : Tx K mg) : FnOk P w K mg base CX0 2 T.a_check_number T.fd_check_number ["value"] sp_check_number := by
  refine T.F_check_number.ok sc_check_number (fun vs H Q E h => ?_) (fun cdv A outer s H vs Q E hr h => ?_)
  · obtain ⟨i, rfl, _⟩ := h; rfl
  · obtain ⟨i, rfl, h1, h2, q⟩ := h
    refine ⟨_, ((pss_one (ps_if (pt_not (pt_val (pe_call (ok_is_number T) (hr.mono (by decide)) rfl T.g_is_number T.F_is_number.kp T.b_is_number .nil pass0 (pa_cons (pv 0) pa_nil)))) (pss_one ps_never) pss_nil))), ?_⟩
    refine ⟨_, rfl, i, rfl, _, rfl, ?_⟩
    rw [decide_eq_true h1, decide_eq_true h2]
    exact ifF rfl q
/-- check_tolerance of a tolerance -/
def sp_check_tolerance : Sp := fun vs H Q _ => ∃ i : Int, vs = [.int i] ∧ 1 ≤ i ∧ i < 1000000000000000000000000000000 ∧ Q .non H
theorem ok_check_tolerance (T : Tx K mg) : FnOk P w K mg base CX0 2 T.a_check_tolerance T.fd_check_tolerance ["value"] sp_check_tolerance := by
  refine T.F_check_tolerance.ok sc_check_tolerance (fun vs H Q E h => ?_) (fun cdv A outer s H vs Q E hr h => ?_)
  · obtain ⟨i, rfl, _⟩ := h; rfl
  · obtain ⟨i, rfl, h1, h2, q⟩ := h
    refine ⟨_, ((pss_one (ps_if (PW.pt (pw_or (pt_not (pt_val (pe_call (ok_is_number T) (hr.mono (by decide)) rfl T.g_is_number T.F_is_number.kp T.b_is_number .nil pass0 (pa_cons (pv 0) pa_nil)))) (pw_or1 (pt_cmpR (op_lt) (pv 0) pe_int (nomark _))))) (pss_one ps_never) pss_nil))), ?_⟩
    refine ⟨_, rfl, i, rfl, _, rfl, ?_⟩
    rw [decide_eq_true (show -1000000000000000000000000000000 < i by omega), decide_eq_true h2]
    refine ifF rfl ?_
    refine ⟨_, rfl, _, _, rfl, rfl, _, rfl, ?_⟩
    exact ifF (decide_eq_false (by omega)) q
def sp_sign_of : Sp := fun vs H Q _ => ∃ i j : Int, vs = [.int i, .int j] ∧ Q (.str (NL.signS i j)) H
theorem ok_sign_of (T : Tx K mg) : FnOk P w K mg base CX0 1 T.a_sign_of T.fd_sign_of ["first", "second"] sp_sign_of := by
  refine T.F_sign_of.ok sc_sign_of (fun vs H Q E h => ?_) (fun cdv A outer s H vs Q E hr h => ?_)
  · obtain ⟨i, j, rfl, _⟩ := h; rfl
  · obtain ⟨i, j, rfl, q⟩ := h
    refine ⟨_, ((pss_cons (ps_if (pt_cmpR (op_eq) (pv 0) (pv 1) (nomark _)) (pss_one (ps_ret pe_str)) pss_nil)
      (pss_one (ps_ret (pe_ifExp (pt_cmpR (op_lt) (pv 0) (pv 1) (nomark _)) pe_str pe_str))))), ?_⟩
    unfold NL.signS at q
    refine ⟨_, rfl, _, rfl, rfl, _, rfl, ?_⟩
    refine ifD (fun c => ?_) (fun c => ?_)
    · have c : i = j := by injection c
      rw [if_pos c] at q; exact q
    · have c : ¬ i = j := fun e => c (by rw [e])
      rw [if_neg c] at q
      refine ⟨_, rfl, _, rfl, _, _, rfl, rfl, _, rfl, ?_⟩
      refine ifD (fun c => ?_) (fun c => ?_)
      · rw [if_pos c] at q; exact q
      · rw [if_neg c] at q; exact q
def sp_place_of : Sp := fun vs H Q _ => ∃ (d : Int) (z : Str), vs = [.int d, .str z] ∧ z.length ≤ 1000 ∧ Q (.str (NL.placeOfS d z)) H
theorem ok_place_of (T : Tx K mg) : FnOk P w K mg base CX0 1 T.a_place_of T.fd_place_of ["step", "sign"] sp_place_of := by
  refine T.F_place_of.ok sc_place_of (fun vs H Q E h => ?_) (fun cdv A outer s H vs Q E hr h => ?_)
  · obtain ⟨i, j, rfl, _⟩ := h; rfl
  · obtain ⟨d, z, rfl, hz, q⟩ := h
    refine ⟨_, ((pss_cons (ps_if (pt_cmpR (op_lt) (pv 0) (pe_un un_neg pe_int) (nomark _)) (pss_one (ps_ret pe_str)) pss_nil)
      (pss_cons (ps_if (pt_cmpR (op_gt) (pv 0) pe_int (nomark _)) (pss_one (ps_ret pe_str)) pss_nil)
      (pss_one (ps_ret (pe_op op_add_str (pe_ifExp (pt_cmpR (op_eq) (pv 0) (pe_un un_neg pe_int) (nomark _)) pe_str (pe_ifExp (pt_cmpR (op_eq) (pv 0) pe_int (nomark _)) pe_str pe_str)) (pv 1))))))), ?_⟩
    unfold NL.placeOfS at q
    refine ⟨_, rfl, _, rfl, _, _, rfl, rfl, _, rfl, ?_⟩
    refine ifD (fun c => ?_) (fun c => ?_)
    · rw [if_pos c] at q; exact q
    rw [if_neg c] at q
    refine ⟨_, rfl, _, _, rfl, rfl, _, rfl, ?_⟩
    refine ifD (fun c => ?_) (fun c => ?_)
    · rw [if_pos c] at q; exact q
    rw [if_neg c] at q
    refine ⟨_, rfl, _, rfl, rfl, _, rfl, ?_⟩
    refine ifD (fun c => ?_) (fun c => ?_)
    · have c : d = -1 := by injection c
      rw [if_pos c] at q
      exact ⟨_, rfl, _, _, rfl, rfl, sz100k (by show 1 + _ ≤ _; omega), q⟩
    · have c : ¬ d = -1 := fun e => c (by rw [e])
      rw [if_neg c] at q
      refine ⟨_, rfl, rfl, _, rfl, ?_⟩
      refine ifD (fun c => ?_) (fun c => ?_)
      · have c : d = 1 := by injection c
        rw [if_pos c] at q
        exact ⟨_, rfl, _, _, rfl, rfl, sz100k (by show 1 + _ ≤ _; omega), q⟩
      · have c : ¬ d = 1 := fun e => c (by rw [e])
        rw [if_neg c] at q
        exact ⟨_, rfl, _, _, rfl, rfl, sz100k (by show 0 + _ ≤ _; omega), q⟩
/-- place of numbers, with a tolerance -/
def sp_place : Sp := fun vs H Q _ => ∃ x k e : Int, vs = [.int x, .int k, .int e] ∧ (-1000000000000000000000000000000 < x ∧ x < 1000000000000000000000000000000) ∧ (-1000000000000000000000000000000 < k ∧ k < 1000000000000000000000000000000) ∧ (1 ≤ e ∧ e < 1000000000000000000000000000000) ∧ Q (.str (NL.placeS x k e)) H
theorem ok_place (T : Tx K mg) : FnOk P w K mg base CX0 3 T.a_place T.fd_place ["x", "kept", "tolerance"] sp_place := by
  refine T.F_place.ok sc_place (fun vs H Q E h => ?_) (fun cdv A outer s H vs Q E hr h => ?_)
  · obtain ⟨x, k, e, rfl, _⟩ := h; rfl
  · obtain ⟨x, k, e, rfl, ⟨x1, x2⟩, ⟨k1, k2⟩, ⟨e1, e2⟩, q⟩ := h
    refine ⟨_, ((pss_cons (ps_expr (pe_call (ok_check_number T) (hr.mono (by decide)) rfl T.g_check_number T.F_check_number.kp T.b_check_number .nil pass0 (pa_cons (pv 0) pa_nil)))
      (pss_cons (ps_expr (pe_call (ok_check_number T) (hr.mono (by decide)) rfl T.g_check_number T.F_check_number.kp T.b_check_number .nil pass0 (pa_cons (pv 1) pa_nil)))
      (pss_cons (ps_expr (pe_call (ok_check_tolerance T) (hr.mono (by decide)) rfl T.g_check_tolerance T.F_check_tolerance.kp T.b_check_tolerance .nil pass0 (pa_cons (pv 2) pa_nil)))
      (pss_one (ps_ret (pe_call (ok_place_of T) (hr.mono (by decide)) rfl T.g_place_of T.F_place_of.kp T.b_place_of .nil pass0 (pa_cons (pe_op op_sub (pe_op op_fdivW (pv 0) (pv 2)) (pe_op op_fdivW (pv 1) (pv 2))) (pa_cons (pe_call (ok_sign_of T) (hr.mono (by decide)) rfl T.g_sign_of T.F_sign_of.kp T.b_sign_of .nil pass0 (pa_cons (pe_op op_mod (pv 0) (pv 2)) (pa_cons (pe_op op_mod (pv 1) (pv 2)) pa_nil))) pa_nil))))))))), ?_⟩
    refine ⟨_, rfl, _, rfl, x1, x2, ?_⟩
    refine ⟨_, rfl, _, rfl, k1, k2, ?_⟩
    refine ⟨_, rfl, _, rfl, e1, e2, ?_⟩
    have hd : ∀ z : Int, CDivW z e := fun z => wide_div (b := 100) (by omega) (by omega) (by decide) (by decide)
    have hp : (0 : Int) < e := by omega
    refine ⟨_, rfl, _, rfl, _, _, rfl, rfl, hd _, _, rfl, _, rfl, _, _, rfl, rfl, hd _, _, _, rfl, rfl, _, rfl, _, rfl, _, _, rfl, rfl, hp, _, rfl, _, rfl, _, _, rfl, rfl, hp, ?_⟩
    exact ⟨_, _, rfl, _, _, rfl, NL.signS_len _ _, q⟩
/-- turned of a place -/
def sp_turned : Sp := fun vs H Q _ => ∃ z : Str, vs = [.str z] ∧ z ∈ PL ∧ Q (.str (turnS z)) H
theorem ok_turned (T : Tx K mg) : FnOk P w K mg base CX0 4 T.a_turned T.fd_turned ["place"] sp_turned := by
  refine T.F_turned.ok sc_turned (fun vs H Q E h => ?_) (fun cdv A outer s H vs Q E hr h => ?_)
  · obtain ⟨z, rfl, _⟩ := h; rfl
  · obtain ⟨z, rfl, hz, q⟩ := h
    refine ⟨_, ((pss_cons (ps_if (PW.pt (pw_or (pt_not (pt_val (pe_callB (call_isi) (by rfl) T.m_isinstance (by decide +kernel) (pa_cons (pv 0) (pa_cons (pe_bltn (v := .ty "str") (by rfl) T.m_str (by decide +kernel) rfl) pa_nil))))) (pw_or1 (pt_cmpR (op_notIn_seq) (pv 0) (pe_glob (v := .ref T.a_PLACES) rfl T.g_PLACES rfl) (by rfl))))) (pss_one ps_never) pss_nil)
      (pss_one (ps_ret (pe_ix ix_tup (pe_glob (v := .ref T.a_PLACES) rfl T.g_PLACES rfl) (pe_op op_sub (pe_op op_sub (pe_callB (call_len_seq) (by rfl) T.m_len (by decide +kernel) (pa_cons (pe_glob (v := .ref T.a_PLACES) rfl T.g_PLACES rfl) pa_nil)) pe_int) (pe_bm PySem.F.plainAttrs_tuple PySem.F.slot_tuple_index PySem.F.type_tuple_index mt_tup_index (pe_glob (v := .ref T.a_PLACES) rfl T.g_PLACES rfl) (pa_cons (pv 0) pa_nil))) (fun _ _ => rfl)))))), ?_⟩
    obtain ⟨j, hj⟩ := List.getElem?_of_mem hz
    have hj1 : j < 11 := (List.getElem?_eq_some_iff.mp hj).1
    refine ⟨_, rfl, _, _, _, _, true, rfl, .ty _, (by walk_at "tyx"), kit_ty (by decide +kernel), _, rfl, ?_⟩
    refine ifF rfl ?_
    refine ⟨_, rfl, _, _, rfl, .inr (T.p_PLACES _), rfl, flats_str PL, _, rfl, ?_⟩
    refine ifF (by show (!inV (.str z) (PL.map V.str)) = false; rw [inV_strs, decide_eq_true hz]; rfl) ?_
    refine ⟨_, _, rfl, .inr (T.p_PLACES _), _, _, rfl, rfl, .inr (.inl ⟨rfl, T.k_PLACES⟩), _, rfl, _, PL, _, j, rfl, rfl, T.p_PLACES _, hj, PL_first hj, _, _, rfl, rfl, _, _, _, _, rfl, rfl, T.p_PLACES _, ?_, q⟩
    show atI (PL.map V.str) (11 - 1 - (j : Int)) = _
    rw [show (11 - 1 - (j : Int)) = ((10 - j : Nat) : Int) by omega]
    refine atI_nat ?_
    rw [List.getElem?_map, turn_at hj]; rfl
/-- the source that a script makes -/
def sp__law_source (K : PySem.W.Frag) : Sp := fun vs H Q _ => ∃ (a : Addr) (ns : List Int), vs = [.ref a] ∧ SqL K H a (ns.map V.int) ∧
  ∀ (H' : Hp) (p : Addr), Same H H' → H p = none → Src H' p 0 → Q (.ref p) H'
theorem ok__law_source (T : Tx K mg) : FnOk P w K mg base CX0 1 T.a__law_source T.fd__law_source ["_law_script"] (sp__law_source K) := by
  refine T.F__law_source.ok sc__law_source (fun vs H Q E h => ?_) (fun cdv A outer s H vs Q E hr h => ?_)
  · obtain ⟨a, ns, rfl, _⟩ := h; rfl
  · obtain ⟨a, ns, rfl, hS, q⟩ := h
    refine ⟨_, ((pss_cons (ps_asg (pe_tup (pa_cons pe_int (pa_cons pe_int pa_nil))) (pg_tup (by rfl) (pgs_cons (pg_name (i := 1) sc__law_source.nd rfl (by first | exact Or.inl rfl | exact Or.inr rfl)) (pgs_cons (pg_name (i := 2) sc__law_source.nd rfl (by first | exact Or.inl rfl | exact Or.inr rfl)) pgs_nil))))
      (pss_cons (ps_for PassesOwn.never rfl (pi_list (pv 0)) (pg_name (i := 3) sc__law_source.nd rfl (by first | exact Or.inl rfl | exact Or.inr rfl))
        (pss_cons (ps_if (PW.pt (pw_and (pt_cmpR (op_eq) (pv 1) pe_int (nomark _)) (pw_and1 (pt_cmpR (op_ge) (pv 3) (pe_op op_pow pe_int pe_int) (nomark _))))) (pss_one (ps_set (i := 1) sc__law_source.nd rfl (by first | exact Or.inl rfl | exact Or.inr rfl) (pv 3))) pss_nil)
      (pss_one (ps_set (i := 2) sc__law_source.nd rfl (by first | exact Or.inl rfl | exact Or.inr rfl) (pe_op op_mod (pe_callTy (call_int1) (by rfl) T.m_int (by decide +kernel) (pa_cons (pe_op op_add (pe_op op_add (pe_op op_mul (pv 2) pe_int) (pv 3)) pe_int) pa_nil)) pe_int)))))
      (pss_one (ps_ret (pe_lst (pa_cons (pv 1) (pa_cons (pv 2) (pa_cons pe_int pa_nil))))))))), ?_⟩
    refine ⟨(by walk_at "len"), fun t nt => ?_⟩
    refine ⟨_, _, rfl, SqT.of upd_same, rfl, _, _, rfl, _, _, rfl, rfl, ?_⟩
    have sm : Same H _ := same_new (o := .tup [.int 0, .int 17]) nt
    have hS := sm.seq hS
    generalize upd H t (.tup [.int 0, .int 17]) = H1 at *
    refine ⟨_, rfl, _, rfl, ⟨_, hS⟩, for_list (K := K) (a := a) (xs := ns.map V.int) (fun i σ H' => ∃ (g z : Int) (c : Option V), σ = [some (.ref a), some (.int g), some (.int z), c] ∧ H' = H1 ∧ 0 ≤ z ∧ z < 2147483647)
      ⟨0, 17, none, rfl, rfl, by decide, by decide⟩ ?_ ?_ ?_⟩
    · rintro i σ H' _ ⟨g, z, c, rfl, rfl, _⟩; exact hS
    · rintro i x σ H' hx ⟨g, z, c, rfl, rfl, z1, z2⟩
      obtain ⟨n, rfl⟩ : ∃ n, x = V.int n := by
        rw [List.getElem?_map] at hx
        cases e : ns[i]? with
        | none => rw [e] at hx; cases hx
        | some n => rw [e] at hx; exact ⟨n, (Option.some.inj hx).symm⟩
      refine ⟨_, rfl, rfl, _, rfl, ?_⟩
      refine ifD (fun c => ?_) (fun c => ?_)
      · refine ⟨_, rfl, _, _, rfl, rfl, (by walk_at "pow"), _, _, rfl, rfl, _, rfl, ?_⟩
        refine ifD (fun c => ?_) (fun c => ?_)
        · refine ⟨_, rfl, ?_⟩
          refine ⟨_, rfl, _, _, rfl, rfl, (by walk_at "mul"), _, rfl, _, _, rfl, rfl, _, _, rfl, rfl, .inl ⟨_, rfl, ?_⟩⟩
          refine ⟨_, _, rfl, rfl, (by walk_at "pos"), ?_⟩
          exact ⟨_, _, _, rfl, rfl, Int.emod_nonneg _ (by decide), Int.emod_lt_of_pos _ (by decide)⟩
        · refine ⟨_, rfl, _, _, rfl, rfl, (by walk_at "mul"), _, rfl, _, _, rfl, rfl, _, _, rfl, rfl, .inl ⟨_, rfl, ?_⟩⟩
          refine ⟨_, _, rfl, rfl, (by walk_at "pos"), ?_⟩
          exact ⟨_, _, _, rfl, rfl, Int.emod_nonneg _ (by decide), Int.emod_lt_of_pos _ (by decide)⟩
      · refine ifF rfl ?_
        refine ⟨_, rfl, _, _, rfl, rfl, (by walk_at "mul"), _, rfl, _, _, rfl, rfl, _, _, rfl, rfl, .inl ⟨_, rfl, ?_⟩⟩
        refine ⟨_, _, rfl, rfl, (by walk_at "pos"), ?_⟩
        exact ⟨_, _, _, rfl, rfl, Int.emod_nonneg _ (by decide), Int.emod_lt_of_pos _ (by decide)⟩
    · rintro σ H' ⟨g, z, c, rfl, rfl, z1, z2⟩
      refine ⟨_, rfl, _, rfl, (by walk_at "len"), fun p np => ?_⟩
      exact q _ p (sm.trans (same_new np)) (sm.free np) ⟨g, z, upd_same, z1, z2, by decide⟩
/-- one draw: any number below many; the source goes on -/
def sp__law_draw : Sp := fun vs H Q _ => ∃ (p : Addr) (c m : Int), vs = [.ref p, .int m] ∧ Src H p c ∧ c ≤ 1000000 ∧ 0 < m ∧ m < 1073741824 ∧
  ∀ (r : Int) (H' : Hp), 0 ≤ r → r < m → But p H H' → Src H' p (c + 1) → Q (.int r) H'
theorem ok__law_draw (T : Tx K mg) : FnOk P w K mg base CX0 1 T.a__law_draw T.fd__law_draw ["_law_source_here", "_law_many"] sp__law_draw := by
  refine T.F__law_draw.ok sc__law_draw (fun vs H Q E h => ?_) (fun cdv A outer s H vs Q E hr h => ?_)
  · obtain ⟨p, c, m, rfl, _⟩ := h; rfl
  · obtain ⟨p, c, m, rfl, ⟨g, z, hp, z1, z2, c1⟩, c2, m1, m2, q⟩ := h
    refine ⟨_, ((pss_cons (ps_asg (pe_op op_add (pe_ix ix_list (pv 0) pe_int (fun _ _ => rfl)) pe_int) (pg_sub (pv 0) pe_int set_list))
      (pss_cons (ps_if (pt_cmpR (op_gt) (pe_ix ix_list (pv 0) pe_int (fun _ _ => rfl)) pe_int (nomark _)) (pss_cons (ps_set (i := 2) sc__law_draw.nd rfl (by first | exact Or.inl rfl | exact Or.inr rfl) (pe_op op_mod (pe_callTy (call_int1) (by rfl) T.m_int (by decide +kernel) (pa_cons (pe_ix ix_list (pv 0) pe_int (fun _ _ => rfl)) pa_nil)) (pv 1)))
      (pss_cons (ps_asg (pe_op op_fdivW (pe_ix ix_list (pv 0) pe_int (fun _ _ => rfl)) (pv 1)) (pg_sub (pv 0) pe_int set_list))
      (pss_one (ps_ret (pv 2))))) pss_nil)
      (pss_cons (ps_set (i := 3) sc__law_draw.nd rfl (by first | exact Or.inl rfl | exact Or.inr rfl) (pe_op op_mod (pe_op op_pow (pe_op op_add (pe_ix ix_list (pv 0) pe_int (fun _ _ => rfl)) (pe_op op_mul pe_int (pe_ix ix_list (pv 0) pe_int (fun _ _ => rfl)))) pe_int) pe_int))
      (pss_one (ps_ret (pe_op op_mod (pe_op op_mod (pe_op op_pow (pe_op op_add (pe_op op_add (pe_op op_mul (pv 3) pe_int) (pe_op op_mul (pe_op op_mul pe_int (pe_ix ix_list (pv 0) pe_int (fun _ _ => rfl))) (pe_ix ix_list (pv 0) pe_int (fun _ _ => rfl)))) pe_int) pe_int) pe_int) (pv 1)))))))), ?_⟩
    refine ⟨_, rfl, _, _, _, _, rfl, rfl, (by walk_at "sq"), (by walk_at "at"), _, _, rfl, rfl, _, rfl, _, _, _, _, rfl, rfl, (by walk_at "hp"), (by walk_at "ixN"), ?_⟩
    refine ⟨_, rfl, _, _, _, _, rfl, rfl, (by walk_at "sq"), (by walk_at "at"), _, _, rfl, rfl, _, rfl, ?_⟩
    refine ifD (fun d => ?_) (fun d => ?_)
    · refine ⟨_, rfl, _, _, _, _, rfl, rfl, (by walk_at "sq"), (by walk_at "at"), .inl ⟨_, rfl, ?_⟩⟩
      refine ⟨_, rfl, _, _, rfl, rfl, (by walk_at "pos"), ?_⟩
      refine ⟨_, rfl, _, _, _, _, rfl, rfl, (by walk_at "sq"), (by walk_at "at"), _, rfl, _, _, rfl, rfl, (by walk_at "div"), _, rfl, _, _, _, _, rfl, rfl, (by walk_at "hp"), (by walk_at "ixN"), ?_⟩
      refine ⟨_, rfl, ?_⟩
      rw [L2.upd_upd]
      exact q _ _ (Int.emod_nonneg _ (by omega)) (Int.emod_lt_of_pos _ (by omega)) But.refl.upd ⟨_, z, upd_same, z1, z2, by omega⟩
    · refine ⟨_, rfl, _, _, _, _, rfl, rfl, (by walk_at "sq"), (by walk_at "at"), _, rfl, _, _, _, _, rfl, rfl, (by walk_at "sq"), (by walk_at "at"), _, _, rfl, rfl, (by walk_at "mul"), _, _, rfl, rfl, _, _, rfl, rfl, ⟨by decide, by decide, by omega⟩, _, _, rfl, rfl, (by walk_at "pos"), ?_⟩
      have hy : ∀ x : Int, 0 ≤ x % 2147483629 ∧ x % 2147483629 < 2147483629 := fun x => ⟨Int.emod_nonneg _ (by decide), Int.emod_lt_of_pos _ (by decide)⟩
      obtain ⟨y1, y2⟩ := hy ((z + 7919 * (c + 1)) ^ (5 : Int).toNat)
      generalize (z + 7919 * (c + 1)) ^ (5 : Int).toNat % 2147483629 = y at *
      have h1 : 16807 * (c + 1) * (c + 1) ≤ 16807 * 1000001 * 1000001 := Int.mul_le_mul (by omega) (by omega) (by omega) (by decide)
      have h0 : 0 ≤ 16807 * (c + 1) * (c + 1) := Int.mul_nonneg (by omega) (by omega)
      refine ⟨_, rfl, _, _, rfl, rfl, (by walk_at "mul"), _, rfl, _, _, _, _, rfl, rfl, (by walk_at "sq"), (by walk_at "at"), _, _, rfl, rfl, (by walk_at "mul"), _, rfl, _, _, _, _, rfl, rfl, (by walk_at "sq"), (by walk_at "at"), _, _, rfl, rfl, (by walk_at "mul"), _, _, rfl, rfl, _, _, rfl, rfl, _, _, rfl, rfl, ⟨by decide, by decide, by omega⟩, _, _, rfl, rfl, (by walk_at "pos"), _, rfl, _, _, rfl, rfl, (by walk_at "pos"), ?_⟩
      exact q _ _ (Int.emod_nonneg _ (by omega)) (Int.emod_lt_of_pos _ (by omega)) But.refl.upd ⟨_, z, upd_same, z1, z2, by omega⟩
def sp__law_tolerance : Sp := fun vs H Q _ => ∃ (p : Addr) (c : Int), vs = [.ref p] ∧ Src H p c ∧ c ≤ 1000000 ∧
  ∀ (e : Int) (H' : Hp), e ∈ ([1, 2, 3, 4, 5, 7, 10, 1000000] : List Int) → But p H H' → Src H' p (c + 1) → Q (.int e) H'
theorem ok__law_tolerance (T : Tx K mg) : FnOk P w K mg base CX0 2 T.a__law_tolerance T.fd__law_tolerance ["_law_source_here"] sp__law_tolerance := by
  refine T.F__law_tolerance.ok sc__law_tolerance (fun vs H Q E h => ?_) (fun cdv A outer s H vs Q E hr h => ?_)
  · obtain ⟨p, c, rfl, _⟩ := h; rfl
  · obtain ⟨p, c, rfl, hS, hc, q⟩ := h
    refine ⟨_, ((pss_one (ps_ret (pe_ix ix_list (pe_lst (pa_cons pe_int (pa_cons pe_int (pa_cons pe_int (pa_cons pe_int (pa_cons pe_int (pa_cons pe_int (pa_cons pe_int (pa_cons (pe_op op_pow pe_int pe_int) pa_nil))))))))) (pe_call (ok__law_draw T) (hr.mono (by decide)) rfl T.g__law_draw T.F__law_draw.kp T.b__law_draw .nil pass0 (pa_cons (pv 0) (pa_cons pe_int pa_nil))) (fun _ _ => rfl))))), ?_⟩
    refine ⟨_, _, rfl, rfl, (by walk_at "pow"), (by walk_at "len"), fun l nl => ?_⟩
    have ne := hS.ne nl
    refine ⟨_, rfl, ?_⟩
    refine ⟨_, _, _, rfl, hS.keep nl, hc, by decide, by decide, fun r H1 r0 r8 bt hS1 => ?_⟩
    have hl := bt l _ ne upd_same
    obtain ⟨v, hv, hm⟩ := atI_mem (xs := ([1, 2, 3, 4, 5, 7, 10, 1000000] : List Int).map V.int) r0 r8
    obtain ⟨e, he, rfl⟩ := List.mem_map.mp hm
    refine ⟨_, _, _, _, rfl, rfl, SqL.of hl, hv, ?_⟩
    exact q e H1 he ((But.refl.new nl).trans bt) hS1
def sp_law (K : PySem.W.Frag) : Sp := fun vs H Q _ => ∃ (a : Addr) (ns : List Int), vs = [.ref a] ∧ SqL K H a (ns.map V.int) ∧ ns.length ≤ 63 ∧ ∀ H', Q (.bl true) H'
theorem ok_law (T : Tx K mg) : FnOk P w K mg base CX0 5 T.a_law T.fd_law ["_law_script"] (sp_law K) := by
  refine T.F_law.ok sc_law (fun vs H Q E h => ?_) (fun cdv A outer s H vs Q E hr h => ?_)
  · obtain ⟨p, c, rfl, _⟩ := h; rfl
  · obtain ⟨a, ns, rfl, hS, hlen, q⟩ := h
    refine ⟨_, ((pss_cons (ps_set (i := 1) sc_law.nd rfl (by first | exact Or.inl rfl | exact Or.inr rfl) (pe_call (ok__law_source T) (hr.mono (by decide)) rfl T.g__law_source T.F__law_source.kp T.b__law_source .nil pass0 (pa_cons (pv 0) pa_nil)))
      (pss_cons (ps_if (pt_cmpR (op_neD hr.units) (pe_lc (own := [("_law_where", 2)]) (by rfl) sc_law.nd (pi_tup (pe_glob (v := .ref T.a_PLACES) rfl T.g_PLACES rfl)) (blkOk_by (own := [("_law_where", 2)]) (N := N_law) (sc := defScope s_law) (by decide +kernel)) (fun _ _ _ _ _ => (pg_name (i := 2) sc_law.nd rfl (by first | exact Or.inl rfl | exact Or.inr rfl))) (fun _ _ _ _ _ => pts_nil) (fun _ _ _ _ _ => (pe_call (ok_turned T) (hr.mono (by decide)) rfl T.g_turned T.F_turned.kp T.b_turned .nil pass0 (pa_cons (pe_call (ok_turned T) (hr.mono (by decide)) rfl T.g_turned T.F_turned.kp T.b_turned .nil pass0 (pa_cons (pv 2) pa_nil)) pa_nil)))) (pe_callTy (call_list_of) (by rfl) T.m_list (by decide +kernel) (pa_cons (pe_glob (v := .ref T.a_PLACES) rfl T.g_PLACES rfl) pa_nil)) (nomark _)) (pss_one (ps_ret pe_bl)) pss_nil)
      (pss_cons (ps_if (pt_cmpR (op_neD hr.units) (pe_lc (own := [("_law_where", 2)]) (by rfl) sc_law.nd (pi_tup (pe_glob (v := .ref T.a_PLACES) rfl T.g_PLACES rfl)) (blkOk_by (own := [("_law_where", 2)]) (N := N_law) (sc := defScope s_law) (by decide +kernel)) (fun _ _ _ _ _ => (pg_name (i := 2) sc_law.nd rfl (by first | exact Or.inl rfl | exact Or.inr rfl))) (fun _ _ _ _ _ => pts_nil) (fun _ _ _ _ _ => (pe_call (ok_turned T) (hr.mono (by decide)) rfl T.g_turned T.F_turned.kp T.b_turned .nil pass0 (pa_cons (pv 2) pa_nil)))) (pe_revL (pe_callTy (call_list_of) (by rfl) T.m_list (by decide +kernel) (pa_cons (pe_glob (v := .ref T.a_PLACES) rfl T.g_PLACES rfl) pa_nil))) (nomark _)) (pss_one (ps_ret pe_bl)) pss_nil)
      (pss_cons (ps_set (i := 3) sc_law.nd rfl (by first | exact Or.inl rfl | exact Or.inr rfl) (pe_call (ok__law_tolerance T) (hr.mono (by decide)) rfl T.g__law_tolerance T.F__law_tolerance.kp T.b__law_tolerance .nil pass0 (pa_cons (pv 1) pa_nil)))
      (pss_cons (ps_for PassesOwn.never rfl (pi_range1 rfl T.m_range (pa_cons pe_int pa_nil)) (pg_name (i := 4) sc_law.nd rfl (by first | exact Or.inl rfl | exact Or.inr rfl))
        (pss_cons (ps_set (i := 5) sc_law.nd rfl (by first | exact Or.inl rfl | exact Or.inr rfl) (pe_op op_sub (pe_call (ok__law_draw T) (hr.mono (by decide)) rfl T.g__law_draw T.F__law_draw.kp T.b__law_draw .nil pass0 (pa_cons (pv 1) (pa_cons (pe_op op_mul pe_int (pv 3)) pa_nil))) (pe_op op_mul pe_int (pv 3))))
      (pss_cons (ps_set (i := 6) sc_law.nd rfl (by first | exact Or.inl rfl | exact Or.inr rfl) (pe_op op_sub (pe_op op_add (pv 5) (pe_call (ok__law_draw T) (hr.mono (by decide)) rfl T.g__law_draw T.F__law_draw.kp T.b__law_draw .nil pass0 (pa_cons (pv 1) (pa_cons (pe_op op_mul pe_int (pv 3)) pa_nil)))) (pe_op op_mul pe_int (pv 3))))
      (pss_one (ps_if (pt_cmpR (op_ne) (pe_call (ok_turned T) (hr.mono (by decide)) rfl T.g_turned T.F_turned.kp T.b_turned .nil pass0 (pa_cons (pe_call (ok_place T) (hr.mono (by decide)) rfl T.g_place T.F_place.kp T.b_place .nil pass0 (pa_cons (pv 6) (pa_cons (pv 5) (pa_cons (pv 3) pa_nil)))) pa_nil)) (pe_call (ok_place T) (hr.mono (by decide)) rfl T.g_place T.F_place.kp T.b_place .nil pass0 (pa_cons (pv 5) (pa_cons (pv 6) (pa_cons (pv 3) pa_nil)))) (nomark _)) (pss_one (ps_ret pe_bl)) pss_nil)))))
      (pss_one (ps_ret pe_bl)))))))), ?_⟩
    refine ⟨_, rfl, a, ns, rfl, hS, fun H1 p sm np hs => ?_⟩
    have hgx : ∀ {i : Nat} {y : V}, (PL.map V.str)[i]? = some y → ∃ x, y = .str x ∧ x ∈ PL := fun {i y} hy => by
      rw [List.getElem?_map] at hy
      obtain ⟨x, hx, rfl⟩ := Option.map_eq_some_iff.mp hy
      exact ⟨x, rfl, List.mem_of_getElem? hx⟩
    -- twice turned
    refine ⟨_, rfl, ⟨_, T.p_PLACES _⟩, fun D nD => ?_⟩
    refine lcT_filt (xs := PL.map V.str) (p := fun _ => true) (f := id) nD (T.p_PLACES _) (by show 11 ≤ 10000; decide) ?_ ?_ ?_
    · intro i y H' kk hy sm hk
      exact hk _ (Same.refl _)
    · intro i y H' kk hy _ sm hk
      obtain ⟨x, rfl, hx⟩ := hgx hy
      refine ⟨_, rfl, x, rfl, hx, _, rfl, turn_mem hx, ?_⟩
      rw [turn_turn hx]
      exact hk _ (Same.refl _)
    intro H2 sm2 hD
    rw [filt_all, List.map_id] at hD
    refine ⟨_, _, rfl, .inr (T.p_PLACES _), fun l nl => ?_⟩
    refine ⟨_, _, .lst (SqL.of (upd_keep hD nl)) (dpAll_str PL), .lst (SqL.of upd_same) (dpAll_str PL), shapedL_strs PL_ok, shapedL_strs PL_ok, _, rfl, ?_⟩
    refine ifF (by rw [eqv_same (shapedL_strs PL_ok)]; rfl) ?_
    have hs := (hs.same sm2).keep (o := .lst (PL.map V.str)) nl
    -- turned
    refine ⟨_, rfl, ⟨_, T.p_PLACES _⟩, fun D nD => ?_⟩
    refine lcT_filt (xs := PL.map V.str) (p := fun _ => true) (f := fun v => match v with | .str z => .str (turnS z) | _ => .non) nD (T.p_PLACES _) (by show 11 ≤ 10000; decide) ?_ ?_ ?_
    · intro i y H' kk hy sm hk
      exact hk _ (Same.refl _)
    · intro i y H' kk hy _ sm hk
      obtain ⟨x, rfl, hx⟩ := hgx hy
      exact ⟨_, rfl, x, rfl, hx, hk _ (Same.refl _)⟩
    intro H3 sm3 hD
    have eF : ((PL.map V.str).filter fun _ => true).map (fun v => match v with | .str z => V.str (turnS z) | _ => .non) = PL.reverse.map V.str := by
      rw [filt_all]; decide +kernel
    rw [eF] at hD
    refine ⟨_, _, rfl, .inr (T.p_PLACES _), fun l2 nl2 => ?_⟩
    refine ⟨_, _, rfl, SqL.of upd_same, fun l3 nl3 => ?_⟩
    have rok : ∀ z ∈ PL.reverse, PyData.strOk z = true := fun z hz => PL_ok z (List.mem_reverse.mp hz)
    refine ⟨.list (PL.reverse.map .str), .list (PL.reverse.map .str), .lst (SqL.of (upd_keep (upd_keep hD nl2) nl3)) (dpAll_str PL.reverse), .lst (xs := PL.reverse.map V.str) (SqL.of upd_same) (dpAll_str PL.reverse), shapedL_strs rok, shapedL_strs rok, _, rfl, ?_⟩
    refine ifF (by rw [eqv_same (shapedL_strs rok)]; rfl) ?_
    have hs := ((hs.same sm3).keep (o := .lst (PL.map V.str)) nl2).keep (o := .lst (PL.map V.str).reverse) nl3
    -- tolerance
    refine ⟨_, rfl, p, _, rfl, hs, by decide, fun e H4 he bt hs => ?_⟩
    obtain ⟨e1, e2⟩ : 1 ≤ e ∧ e ≤ 1000000 := by
      simp only [List.mem_cons, List.not_mem_nil, or_false] at he
      omega
    refine ⟨_, rfl, (by walk_at "arith"), (by walk_at "arith"), for_range (lo := 0) (n := 12) (fun i σ H' => ∃ v2 v4 v5 v6 : Option V, σ = [some (.ref a), some (.ref p), v2, some (.int e), v4, v5, v6] ∧ Src H' p (1 + 2 * i)) ?_ ?_ ?_⟩
    · exact ⟨_, _, _, _, rfl, hs⟩
    · rintro i σ H3 hi ⟨v2, v4, v5, v6, rfl, hs⟩
      refine ⟨_, rfl, _, rfl, _, _, rfl, rfl, (by walk_at "mul"), ?_⟩
      refine ⟨p, _, _, rfl, hs, by omega, by omega, by omega, fun r1 H4 r1a r1b bt hs => ?_⟩
      refine ⟨_, rfl, _, _, rfl, rfl, (by walk_at "mul"), _, _, rfl, rfl, ?_⟩
      refine ⟨_, rfl, _, rfl, _, rfl, _, _, rfl, rfl, (by walk_at "mul"), ?_⟩
      refine ⟨p, _, _, rfl, hs, by omega, by omega, by omega, fun r2 H5 r2a r2b bt hs => ?_⟩
      refine ⟨_, _, rfl, rfl, _, rfl, _, _, rfl, rfl, (by walk_at "mul"), _, _, rfl, rfl, ?_⟩
      refine ⟨_, rfl, _, rfl, _, rfl, ?_⟩
      refine ⟨_, _, _, rfl, ⟨by omega, by omega⟩, ⟨by omega, by omega⟩, ⟨by omega, by omega⟩, ?_⟩
      refine ⟨_, rfl, placeS_mem (by omega), ?_⟩
      refine ⟨_, rfl, _, rfl, _, rfl, ?_⟩
      refine ⟨_, _, _, rfl, ⟨by omega, by omega⟩, ⟨by omega, by omega⟩, ⟨by omega, by omega⟩, ?_⟩
      refine ⟨rfl, _, rfl, ?_⟩
      refine iteNS (by rw [turn_place]) ?_
      refine ⟨_, _, _, _, rfl, ?_⟩
      rw [show 1 + 2 * (i : Int) + 1 + 1 = 1 + 2 * ((i + 1 : Nat) : Int) by omega] at hs
      exact hs
    · rintro σ H' ⟨_, _, _, _, rfl, hs⟩
      exact q H'
end
theorem all_mk {l : PySem.W.OpenLaw} {w : World} {K : PySem.W.Frag} {h : Heap} {mg : Str → Option Value} {fa : Addr} (X : K.In h) (G : h.Ns mainGlobals mg) (hfa : mg "law" = some (.ref fa))
    {od_is_number an_is_number : Option Addr} {sl_is_number : Array (Option Value)} {oc_is_number kV_is_number dc_is_number pm_is_number cd_is_number ct_is_number : Value} {f_is_number : Addr}
    {od_check_number an_check_number : Option Addr} {sl_check_number : Array (Option Value)} {oc_check_number kV_check_number dc_check_number pm_check_number cd_check_number ct_check_number : Value} {f_check_number : Addr}
    {od_check_tolerance an_check_tolerance : Option Addr} {sl_check_tolerance : Array (Option Value)} {oc_check_tolerance kV_check_tolerance dc_check_tolerance pm_check_tolerance cd_check_tolerance ct_check_tolerance : Value} {f_check_tolerance : Addr}
    {od_sign_of an_sign_of : Option Addr} {sl_sign_of : Array (Option Value)} {oc_sign_of kV_sign_of dc_sign_of pm_sign_of cd_sign_of ct_sign_of : Value} {f_sign_of : Addr}
    {od_place_of an_place_of : Option Addr} {sl_place_of : Array (Option Value)} {oc_place_of kV_place_of dc_place_of pm_place_of cd_place_of ct_place_of : Value} {f_place_of : Addr}
    {od_place an_place : Option Addr} {sl_place : Array (Option Value)} {oc_place kV_place dc_place pm_place cd_place ct_place : Value} {f_place : Addr}
    {od_turned an_turned : Option Addr} {sl_turned : Array (Option Value)} {oc_turned kV_turned dc_turned pm_turned cd_turned ct_turned : Value} {f_turned : Addr}
    {od__law_source an__law_source : Option Addr} {sl__law_source : Array (Option Value)} {oc__law_source kV__law_source dc__law_source pm__law_source cd__law_source ct__law_source : Value} {f__law_source : Addr}
    {od__law_draw an__law_draw : Option Addr} {sl__law_draw : Array (Option Value)} {oc__law_draw kV__law_draw dc__law_draw pm__law_draw cd__law_draw ct__law_draw : Value} {f__law_draw : Addr}
    {od__law_tolerance an__law_tolerance : Option Addr} {sl__law_tolerance : Array (Option Value)} {oc__law_tolerance kV__law_tolerance dc__law_tolerance pm__law_tolerance cd__law_tolerance ct__law_tolerance : Value} {f__law_tolerance : Addr}
    {od_law an_law : Option Addr} {sl_law : Array (Option Value)} {oc_law kV_law dc_law pm_law cd_law ct_law : Value} {f_law : Addr}
    {t_BOUND : Tok}
    {a_PLACES : Addr} {o_PLACES : Obj} {i_PLACES : Array Value} {n_PLACES : Nat}
    (a_is_number : PySem.W.nsIn K mainGlobals "is_number" = some (some (.ref f_is_number))) (l_is_number : K.lookup f_is_number = some ⟨oc_is_number, od_is_number, .func (PySem.W.fnOf "is_number" "is_number" (defArgs s_is_number) (defBody s_is_number) (defScope s_is_number) .none kV_is_number dc_is_number pm_is_number an_is_number cd_is_number ct_is_number), sl_is_number⟩) (c_is_number : PySem.W.codeIn K cd_is_number "is_number" = true) (k_is_number : PySem.W.keepIn K (.ref f_is_number) = true)
    (a_check_number : PySem.W.nsIn K mainGlobals "check_number" = some (some (.ref f_check_number))) (l_check_number : K.lookup f_check_number = some ⟨oc_check_number, od_check_number, .func (PySem.W.fnOf "check_number" "check_number" (defArgs s_check_number) (defBody s_check_number) (defScope s_check_number) .none kV_check_number dc_check_number pm_check_number an_check_number cd_check_number ct_check_number), sl_check_number⟩) (c_check_number : PySem.W.codeIn K cd_check_number "check_number" = true) (k_check_number : PySem.W.keepIn K (.ref f_check_number) = true)
    (a_check_tolerance : PySem.W.nsIn K mainGlobals "check_tolerance" = some (some (.ref f_check_tolerance))) (l_check_tolerance : K.lookup f_check_tolerance = some ⟨oc_check_tolerance, od_check_tolerance, .func (PySem.W.fnOf "check_tolerance" "check_tolerance" (defArgs s_check_tolerance) (defBody s_check_tolerance) (defScope s_check_tolerance) .none kV_check_tolerance dc_check_tolerance pm_check_tolerance an_check_tolerance cd_check_tolerance ct_check_tolerance), sl_check_tolerance⟩) (c_check_tolerance : PySem.W.codeIn K cd_check_tolerance "check_tolerance" = true) (k_check_tolerance : PySem.W.keepIn K (.ref f_check_tolerance) = true)
    (a_sign_of : PySem.W.nsIn K mainGlobals "sign_of" = some (some (.ref f_sign_of))) (l_sign_of : K.lookup f_sign_of = some ⟨oc_sign_of, od_sign_of, .func (PySem.W.fnOf "sign_of" "sign_of" (defArgs s_sign_of) (defBody s_sign_of) (defScope s_sign_of) .none kV_sign_of dc_sign_of pm_sign_of an_sign_of cd_sign_of ct_sign_of), sl_sign_of⟩) (c_sign_of : PySem.W.codeIn K cd_sign_of "sign_of" = true) (k_sign_of : PySem.W.keepIn K (.ref f_sign_of) = true)
    (a_place_of : PySem.W.nsIn K mainGlobals "place_of" = some (some (.ref f_place_of))) (l_place_of : K.lookup f_place_of = some ⟨oc_place_of, od_place_of, .func (PySem.W.fnOf "place_of" "place_of" (defArgs s_place_of) (defBody s_place_of) (defScope s_place_of) .none kV_place_of dc_place_of pm_place_of an_place_of cd_place_of ct_place_of), sl_place_of⟩) (c_place_of : PySem.W.codeIn K cd_place_of "place_of" = true) (k_place_of : PySem.W.keepIn K (.ref f_place_of) = true)
    (a_place : PySem.W.nsIn K mainGlobals "place" = some (some (.ref f_place))) (l_place : K.lookup f_place = some ⟨oc_place, od_place, .func (PySem.W.fnOf "place" "place" (defArgs s_place) (defBody s_place) (defScope s_place) .none kV_place dc_place pm_place an_place cd_place ct_place), sl_place⟩) (c_place : PySem.W.codeIn K cd_place "place" = true) (k_place : PySem.W.keepIn K (.ref f_place) = true)
    (a_turned : PySem.W.nsIn K mainGlobals "turned" = some (some (.ref f_turned))) (l_turned : K.lookup f_turned = some ⟨oc_turned, od_turned, .func (PySem.W.fnOf "turned" "turned" (defArgs s_turned) (defBody s_turned) (defScope s_turned) .none kV_turned dc_turned pm_turned an_turned cd_turned ct_turned), sl_turned⟩) (c_turned : PySem.W.codeIn K cd_turned "turned" = true) (k_turned : PySem.W.keepIn K (.ref f_turned) = true)
    (a__law_source : PySem.W.nsIn K mainGlobals "_law_source" = some (some (.ref f__law_source))) (l__law_source : K.lookup f__law_source = some ⟨oc__law_source, od__law_source, .func (PySem.W.fnOf "_law_source" "_law_source" (defArgs s__law_source) (defBody s__law_source) (defScope s__law_source) .none kV__law_source dc__law_source pm__law_source an__law_source cd__law_source ct__law_source), sl__law_source⟩) (c__law_source : PySem.W.codeIn K cd__law_source "_law_source" = true) (k__law_source : PySem.W.keepIn K (.ref f__law_source) = true)
    (a__law_draw : PySem.W.nsIn K mainGlobals "_law_draw" = some (some (.ref f__law_draw))) (l__law_draw : K.lookup f__law_draw = some ⟨oc__law_draw, od__law_draw, .func (PySem.W.fnOf "_law_draw" "_law_draw" (defArgs s__law_draw) (defBody s__law_draw) (defScope s__law_draw) .none kV__law_draw dc__law_draw pm__law_draw an__law_draw cd__law_draw ct__law_draw), sl__law_draw⟩) (c__law_draw : PySem.W.codeIn K cd__law_draw "_law_draw" = true) (k__law_draw : PySem.W.keepIn K (.ref f__law_draw) = true)
    (a__law_tolerance : PySem.W.nsIn K mainGlobals "_law_tolerance" = some (some (.ref f__law_tolerance))) (l__law_tolerance : K.lookup f__law_tolerance = some ⟨oc__law_tolerance, od__law_tolerance, .func (PySem.W.fnOf "_law_tolerance" "_law_tolerance" (defArgs s__law_tolerance) (defBody s__law_tolerance) (defScope s__law_tolerance) .none kV__law_tolerance dc__law_tolerance pm__law_tolerance an__law_tolerance cd__law_tolerance ct__law_tolerance), sl__law_tolerance⟩) (c__law_tolerance : PySem.W.codeIn K cd__law_tolerance "_law_tolerance" = true) (k__law_tolerance : PySem.W.keepIn K (.ref f__law_tolerance) = true)
    (a_law : PySem.W.nsIn K mainGlobals "law" = some (some (.ref f_law))) (l_law : K.lookup f_law = some ⟨oc_law, od_law, .func (PySem.W.fnOf "law" "law" (defArgs s_law) (defBody s_law) (defScope s_law) .none kV_law dc_law pm_law an_law cd_law ct_law), sl_law⟩) (c_law : PySem.W.codeIn K cd_law "law" = true) (k_law : PySem.W.keepIn K (.ref f_law) = true)
    (m_len : PySem.W.nsIn K mainGlobals "len" = some none)
    (m_int : PySem.W.nsIn K mainGlobals "int" = some none)
    (m_bool : PySem.W.nsIn K mainGlobals "bool" = some none)
    (m_str : PySem.W.nsIn K mainGlobals "str" = some none)
    (m_list : PySem.W.nsIn K mainGlobals "list" = some none)
    (m_range : PySem.W.nsIn K mainGlobals "range" = some none)
    (m_isinstance : PySem.W.nsIn K mainGlobals "isinstance" = some none)
    (m_super : PySem.W.nsIn K mainGlobals "super" = some none)
    (m_ValueError : PySem.W.nsIn K mainGlobals "ValueError" = some none)
    (g_BOUND : PySem.W.nsIn K mainGlobals "BOUND" = some (some (.int 1000000000000000000000000000000 t_BOUND)))
    (g_PLACES : PySem.W.nsIn K mainGlobals "PLACES" = some (some (.ref a_PLACES))) (l_PLACES : K.lookup a_PLACES = some o_PLACES) (c_PLACES : o_PLACES.cls = .type "tuple") (e_PLACES : o_PLACES.dict = none) (d_PLACES : o_PLACES.data = .seq i_PLACES n_PLACES) (z_PLACES : i_PLACES.size ≤ sizeLine) (v_PLACES : Vals [.str "below", .str "-<", .str "-=", .str "->", .str "<", .str "=", .str ">", .str "+<", .str "+=", .str "+>", .str "above"] i_PLACES.toList) :
    ∃ fd : FuncData, (∀ (s : Shared) (v : Value), BindsTo s fd ⟨[v], []⟩ [("_law_script", v)]) ∧ ∀ base : Heap, K.In base → base.Ns mainGlobals mg → FnOk l.prog w K mg base CX0 5 fa fd ["_law_script"] (sp_law K) := by
  have e := hfa.symm.trans (PySem.W.mg_of X G a_law)
  cases e
  have F_is_number := fun_mk (st := s_is_number) l_is_number c_is_number k_is_number
  have b_is_number := F_is_number.binds (ps := ["value"]) fun _ _ _ _ _ _ us hl => match us, hl with | [_], _ => rfl
  have F_check_number := fun_mk (st := s_check_number) l_check_number c_check_number k_check_number
  have b_check_number := F_check_number.binds (ps := ["value"]) fun _ _ _ _ _ _ us hl => match us, hl with | [_], _ => rfl
  have F_check_tolerance := fun_mk (st := s_check_tolerance) l_check_tolerance c_check_tolerance k_check_tolerance
  have b_check_tolerance := F_check_tolerance.binds (ps := ["value"]) fun _ _ _ _ _ _ us hl => match us, hl with | [_], _ => rfl
  have F_sign_of := fun_mk (st := s_sign_of) l_sign_of c_sign_of k_sign_of
  have b_sign_of := F_sign_of.binds (ps := ["first", "second"]) fun _ _ _ _ _ _ us hl => match us, hl with | [_, _], _ => rfl
  have F_place_of := fun_mk (st := s_place_of) l_place_of c_place_of k_place_of
  have b_place_of := F_place_of.binds (ps := ["step", "sign"]) fun _ _ _ _ _ _ us hl => match us, hl with | [_, _], _ => rfl
  have F_place := fun_mk (st := s_place) l_place c_place k_place
  have b_place := F_place.binds (ps := ["x", "kept", "tolerance"]) fun _ _ _ _ _ _ us hl => match us, hl with | [_, _, _], _ => rfl
  have F_turned := fun_mk (st := s_turned) l_turned c_turned k_turned
  have b_turned := F_turned.binds (ps := ["place"]) fun _ _ _ _ _ _ us hl => match us, hl with | [_], _ => rfl
  have F__law_source := fun_mk (st := s__law_source) l__law_source c__law_source k__law_source
  have b__law_source := F__law_source.binds (ps := ["_law_script"]) fun _ _ _ _ _ _ us hl => match us, hl with | [_], _ => rfl
  have F__law_draw := fun_mk (st := s__law_draw) l__law_draw c__law_draw k__law_draw
  have b__law_draw := F__law_draw.binds (ps := ["_law_source_here", "_law_many"]) fun _ _ _ _ _ _ us hl => match us, hl with | [_, _], _ => rfl
  have F__law_tolerance := fun_mk (st := s__law_tolerance) l__law_tolerance c__law_tolerance k__law_tolerance
  have b__law_tolerance := F__law_tolerance.binds (ps := ["_law_source_here"]) fun _ _ _ _ _ _ us hl => match us, hl with | [_], _ => rfl
  have F_law := fun_mk (st := s_law) l_law c_law k_law
  have b_law := F_law.binds (ps := ["_law_script"]) fun _ _ _ _ _ _ us hl => match us, hl with | [_], _ => rfl
  exact ⟨PySem.W.fnOf "law" "law" (defArgs s_law) (defBody s_law) (defScope s_law) .none kV_law dc_law pm_law an_law cd_law ct_law, fun s v => .of_eq rfl, fun base _ _ => ok_law { a_is_number := f_is_number, fd_is_number := _, F_is_number := F_is_number, b_is_number := b_is_number, g_is_number := PySem.W.mg_of X G a_is_number, a_check_number := f_check_number, fd_check_number := _, F_check_number := F_check_number, b_check_number := b_check_number, g_check_number := PySem.W.mg_of X G a_check_number, a_check_tolerance := f_check_tolerance, fd_check_tolerance := _, F_check_tolerance := F_check_tolerance, b_check_tolerance := b_check_tolerance, g_check_tolerance := PySem.W.mg_of X G a_check_tolerance, a_sign_of := f_sign_of, fd_sign_of := _, F_sign_of := F_sign_of, b_sign_of := b_sign_of, g_sign_of := PySem.W.mg_of X G a_sign_of, a_place_of := f_place_of, fd_place_of := _, F_place_of := F_place_of, b_place_of := b_place_of, g_place_of := PySem.W.mg_of X G a_place_of, a_place := f_place, fd_place := _, F_place := F_place, b_place := b_place, g_place := PySem.W.mg_of X G a_place, a_turned := f_turned, fd_turned := _, F_turned := F_turned, b_turned := b_turned, g_turned := PySem.W.mg_of X G a_turned, a__law_source := f__law_source, fd__law_source := _, F__law_source := F__law_source, b__law_source := b__law_source, g__law_source := PySem.W.mg_of X G a__law_source, a__law_draw := f__law_draw, fd__law_draw := _, F__law_draw := F__law_draw, b__law_draw := b__law_draw, g__law_draw := PySem.W.mg_of X G a__law_draw, a__law_tolerance := f__law_tolerance, fd__law_tolerance := _, F__law_tolerance := F__law_tolerance, b__law_tolerance := b__law_tolerance, g__law_tolerance := PySem.W.mg_of X G a__law_tolerance, a_law := fa, fd_law := _, F_law := F_law, b_law := b_law, g_law := PySem.W.mg_of X G a_law, m_len := PySem.W.mg_none_of X G m_len, m_int := PySem.W.mg_none_of X G m_int, m_bool := PySem.W.mg_none_of X G m_bool, m_str := PySem.W.mg_none_of X G m_str, m_list := PySem.W.mg_none_of X G m_list, m_range := PySem.W.mg_none_of X G m_range, m_isinstance := PySem.W.mg_none_of X G m_isinstance, m_super := PySem.W.mg_none_of X G m_super, m_ValueError := PySem.W.mg_none_of X G m_ValueError, t_BOUND := t_BOUND, g_BOUND := PySem.W.mg_of X G g_BOUND, a_PLACES := a_PLACES, g_PLACES := PySem.W.mg_of X G g_PLACES, k_PLACES := ⟨o_PLACES, l_PLACES, c_PLACES, e_PLACES⟩, p_PLACES := fun H => .inr ⟨o_PLACES, i_PLACES, n_PLACES, l_PLACES, c_PLACES, d_PLACES, z_PLACES, v_PLACES⟩ }⟩
theorem walk {l : PySem.W.OpenLaw} {q : Program} {loose : List Str} {XP : (Str → Option Value) → Heap → Prop} {YP : World → Heap → Prop} {d : DefRec} {K : Params → PySem.W.Frag} (hn : l.most = some 63) (hdf : d.params.defaults = [])
    (hY : ∀ (w : World) (h : Heap), YP w h → (K w.params).In h)
    (F : ∀ (w : World) (mg : Str → Option Value) (fa : Addr) (h : Heap), (K w.params).In h → h.Ns mainGlobals mg → mg d.name = some (.ref fa) →
      ∃ fd : FuncData, (∀ (s : Shared) (u : Value), BindsTo s fd ⟨[u], []⟩ [("_law_script", u)]) ∧ ∀ base : Heap, (K w.params).In base → base.Ns mainGlobals mg → FnOk l.prog w (K w.params) mg base CX0 5 fa fd ["_law_script"] (sp_law (K w.params))) :
    PySem.W.WalkO q loose XP YP l.row.toRowW d [] (fun f vs => PySem.call f vs) :=
  L2.walk_of (n := 63) (k := 5) (x := "_law_script") (CX := fun _ => CX0) (sp := fun w => sp_law (K w.params)) hn (by decide) hdf ⟨rfl, by decide, by decide⟩ hY F (fun _ _ a ns hl _ hS => ⟨a, ns, rfl, hS, hl, fun _ => rfl⟩) fun _ _ _ _ _ z => z
end Law
open PySem PySem.W PyProof.Rows
set_option maxRecDepth 100000 in
set_option maxHeartbeats 0 in
theorem PySem.Challenge.cw_nearloops_k03_turned_places_holds : PySem.Challenge.rw_nearloops_k03_turned_places.Holds := by
  w_on; o_law; k_head; (case hw => w_witness2)
  k_fill
  refine Law.walk (l := PySem.Challenge.rw_nearloops_k03_turned_places) rfl rfl (fun w h Y => PySem.W.kIn_of Y) ?F
  case F =>
    intro w mg fa h KX G hmg
    refine' Law.all_mk KX G hmg ?a_is_number ?l_is_number ?c_is_number ?k_is_number ?a_check_number ?l_check_number ?c_check_number ?k_check_number ?a_check_tolerance ?l_check_tolerance ?c_check_tolerance ?k_check_tolerance ?a_sign_of ?l_sign_of ?c_sign_of ?k_sign_of ?a_place_of ?l_place_of ?c_place_of ?k_place_of ?a_place ?l_place ?c_place ?k_place ?a_turned ?l_turned ?c_turned ?k_turned ?a__law_source ?l__law_source ?c__law_source ?k__law_source ?a__law_draw ?l__law_draw ?c__law_draw ?k__law_draw ?a__law_tolerance ?l__law_tolerance ?c__law_tolerance ?k__law_tolerance ?a_law ?l_law ?c_law ?k_law ?m_len ?m_int ?m_bool ?m_str ?m_list ?m_range ?m_isinstance ?m_super ?m_ValueError ?g_BOUND ?g_PLACES ?l_PLACES ?c_PLACES ?e_PLACES ?d_PLACES ?z_PLACES ?v_PLACES
    (case a_is_number => k_is)
    (case l_is_number => k_is)
    (case c_is_number => k_is)
    (case k_is_number => k_is)
    (case a_check_number => k_is)
    (case l_check_number => k_is)
    (case c_check_number => k_is)
    (case k_check_number => k_is)
    (case a_check_tolerance => k_is)
    (case l_check_tolerance => k_is)
    (case c_check_tolerance => k_is)
    (case k_check_tolerance => k_is)
    (case a_sign_of => k_is)
    (case l_sign_of => k_is)
    (case c_sign_of => k_is)
    (case k_sign_of => k_is)
    (case a_place_of => k_is)
    (case l_place_of => k_is)
    (case c_place_of => k_is)
    (case k_place_of => k_is)
    (case a_place => k_is)
    (case l_place => k_is)
    (case c_place => k_is)
    (case k_place => k_is)
    (case a_turned => k_is)
    (case l_turned => k_is)
    (case c_turned => k_is)
    (case k_turned => k_is)
    (case a__law_source => k_is)
    (case l__law_source => k_is)
    (case c__law_source => k_is)
    (case k__law_source => k_is)
    (case a__law_draw => k_is)
    (case l__law_draw => k_is)
    (case c__law_draw => k_is)
    (case k__law_draw => k_is)
    (case a__law_tolerance => k_is)
    (case l__law_tolerance => k_is)
    (case c__law_tolerance => k_is)
    (case k__law_tolerance => k_is)
    (case a_law => k_is)
    (case l_law => k_is)
    (case c_law => k_is)
    (case k_law => k_is)
    (case m_len => k_is)
    (case m_int => k_is)
    (case m_bool => k_is)
    (case m_str => k_is)
    (case m_list => k_is)
    (case m_range => k_is)
    (case m_isinstance => k_is)
    (case m_super => k_is)
    (case m_ValueError => k_is)
    (case g_BOUND => k_is)
    (case g_PLACES => k_is)
    (case l_PLACES => k_is)
    (case c_PLACES => rfl)
    (case e_PLACES => rfl)
    (case d_PLACES => rfl)
    (case z_PLACES => decide)
    (case v_PLACES => exact .cons ⟨_, rfl⟩ (.cons ⟨_, rfl⟩ (.cons ⟨_, rfl⟩ (.cons ⟨_, rfl⟩ (.cons ⟨_, rfl⟩ (.cons ⟨_, rfl⟩ (.cons ⟨_, rfl⟩ (.cons ⟨_, rfl⟩ (.cons ⟨_, rfl⟩ (.cons ⟨_, rfl⟩ (.cons ⟨_, rfl⟩ (.nil))))))))))))
#print axioms PySem.Challenge.cw_nearloops_k03_turned_places_holds

