import PyProof.Rows.All
import Wide.All
import OpenK.AllK
import Wide.FinOn
import HandS.ForMost
import HandS.ForExc
import HandS.Wide
import HandS.IsInst
import HandS.Flow
import HandS.Style
import HandS.Strs
import HandS.More
import HandS.TupAny
import HandS.SortInts
import HandS.Evl
import HandS.Zip
import PySem.Challenge.RW_nearloops_k02_whole_groups_by_distance
set_option Elab.async false
set_option linter.all false
set_option maxRecDepth 100000
set_option maxHeartbeats 4000000
/-! own words and lemmas over the layer: heaps, tests, items -/
namespace NL
open PySem L2
section
variable {H H' : Hp} {a b p q : Addr} {o u : HO}
theorem upd_keep (h : H b = some u) (n : H a = none) : upd H a o b = some u := by
  rw [upd_ne (ne_of_none h n)]; exact h
theorem upd_skip (h : b ≠ a) (hb : H b = some u) : upd H a o b = some u := by
  rw [upd_ne h]; exact hb
theorem ne_new (h : H p = some o) (n : H q = none) : q ≠ p := (ne_of_none h n).symm
theorem same_new (n : H a = none) : Same H (upd H a o) := fun c x e => upd_keep e n
theorem upd_no (h : upd H p o q = none) : H q = none := by
  unfold upd at h; split at h
  · cases h
  · exact h
theorem upd_none_ne (h : upd H p o q = none) : q ≠ p := by
  intro e; subst e; rw [upd_same] at h; cases h
/-- all but p stands -/
def But (p : Addr) (H H' : Hp) : Prop := ∀ c x, c ≠ p → H c = some x → H' c = some x
theorem But.refl : But p H H := fun _ _ _ h => h
theorem But.trans {H1 H2 H3 : Hp} (x : But p H1 H2) (y : But p H2 H3) : But p H1 H3 := fun c z n h => y c z n (x c z n h)
theorem But.upd (x : But p H H') : But p H (upd H' p o) := fun c z n h => upd_skip n (x c z n h)
theorem But.new (x : But p H H') (n : H' a = none) : But p H (L2.upd H' a o) := fun c z m h => upd_keep (x c z m h) n
theorem But.of_same (x : Same H H') : But p H H' := fun c z _ h => x c z h
theorem But.at (x : But p H H') (n : a ≠ p) (h : H a = some o) : H' a = some o := x a o n h
theorem But.same (x : But p H H') (n : H p = none) : Same H H' := fun c z h => x c z (ne_of_none h n) h
end
theorem ifD {c A B : Prop} [Decidable c] (h1 : c → A) (h2 : ¬ c → B) : if decide c = true then A else B := by
  by_cases h : c
  · rw [if_pos (decide_eq_true h)]; exact h1 h
  · rw [if_neg (by rw [decide_eq_false h]; decide)]; exact h2 h
theorem ifN {c A B : Prop} [Decidable c] (h1 : ¬ c → A) (h2 : c → B) : if (!decide c) = true then A else B := by
  by_cases h : c
  · rw [if_neg (by rw [decide_eq_true h]; decide)]; exact h2 h
  · rw [if_pos (by rw [decide_eq_false h]; decide)]; exact h1 h
theorem ifB {A B : Prop} (b : Bool) (h1 : b = true → A) (h2 : b = false → B) : if b = true then A else B := by
  cases b with
  | true => rw [if_pos rfl]; exact h1 rfl
  | false => rw [if_neg (by decide)]; exact h2 rfl
theorem ifT {A B : Prop} {b : Bool} (hb : b = true) (h : A) : if b = true then A else B := by rw [if_pos hb]; exact h
theorem ifF {A B : Prop} {b : Bool} (hb : b = false) (h : B) : if b = true then A else B := by rw [if_neg (by rw [hb]; decide)]; exact h
theorem atI_mem {α : Type} {xs : List α} {i : Int} (h0 : 0 ≤ i) (h1 : i < (xs.length : Int)) : ∃ v, atI xs i = some v ∧ v ∈ xs := by
  have hl : i.toNat < xs.length := by omega
  refine ⟨xs[i.toNat], ?_, List.getElem_mem hl⟩
  have e : ((i.toNat : Nat) : Int) = i := Int.toNat_of_nonneg h0
  have := atI_nat (xs := xs) (j := i.toNat) (v := xs[i.toNat]) (List.getElem?_eq_getElem hl)
  rw [e] at this; exact this
theorem sz1000 {n : Nat} (h : n ≤ 1000) : n ≤ sizeLine := Nat.le_of_lt (small1000 h)
theorem sz100k {n : Nat} (h : n ≤ 100000) : n ≤ sizeLine := Nat.le_trans h (by decide)
theorem sz100k_lt {n : Nat} (h : n < 100000) : n < sizeLine := Nat.lt_of_lt_of_le h (by decide)
/-! comprehensions whose elements are values that do not hang on the heap -/
theorem wipe_set (σ : L2.St) (j : Nat) (x : Option V) : wipe ((wipe σ [j]).set j x) [j] = wipe σ [j] := by
  show (((σ.set j none).set j x).set j none) = σ.set j none
  rw [List.set_set, List.set_set]
theorem take_snoc {α : Type} : ∀ {l : List α} {i : Nat} {x : α}, l[i]? = some x → l.take (i + 1) = l.take i ++ [x]
  | [], i, x, h => by simp at h
  | a :: l, 0, x, h => by
    have e : a = x := Option.some.inj h
    subst e; rfl
  | a :: l, i + 1, x, h => by
    show a :: l.take (i + 1) = a :: l.take i ++ [x]
    rw [take_snoc (l := l) (i := i) h]; rfl
theorem filt_snoc {p : V → Bool} {f : V → V} {xs : List V} {i : Nat} {x : V} (h : xs[i]? = some x) :
    ((xs.take (i + 1)).filter p).map f = if p x = true then ((xs.take i).filter p).map f ++ [f x] else ((xs.take i).filter p).map f := by
  rw [take_snoc h, List.filter_append, List.map_append]
  by_cases hp : p x = true
  · rw [if_pos hp]; simp [List.filter, hp]
  · rw [if_neg hp]
    have hp : p x = false := by simpa using hp
    simp [List.filter, hp]
section
variable {K : PySem.W.Frag} {a : Addr} {xs : List V} {tt : TT} {te : TE} {j : Nat} {σ : L2.St} {H : Hp} {D : Addr} {Qd : Hp → Prop} {p : V → Bool} {f : V → V}
/-- one turn, whatever is walked -/
theorem lc_turn {x : V} {acc : List V} {H' : Hp} {N : Hp → Prop} (nD : H D = none) (sm : Same H H') (hD : H' D = some (.lst acc)) (hb : acc.length ≤ 10000)
    (ht : ∀ (k : Bool → Hp → Prop), (∀ H'', Same H' H'' → k (p x) H'') → tt ((wipe σ [j]).set j (some x)) H' k)
    (he : ∀ (H1 : Hp) (k : VK), Same H' H1 → p x = true → (∀ H'', Same H1 H'' → k (f x) H'') → te ((wipe σ [j]).set j (some x)) H1 k)
    (hN : ∀ H'', Same H H'' → H'' D = some (.lst (if p x = true then acc ++ [f x] else acc)) → N H'') :
    gName j x (wipe σ [j]) H' fun σ2 H2 => wipe σ2 [j] = wipe σ [j] ∧ tt σ2 H2 fun b H3 => if b = true then te σ2 H3 fun y H4 => ∃ acc, H4 D = some (.lst acc) ∧ acc.length < sizeLine ∧ N (upd H4 D (.lst (acc ++ [y]))) else N H3 := by
  refine ⟨wipe_set σ j (some x), ht _ fun H1 s1 => ?_⟩
  refine ifB _ (fun hp => ?_) (fun hp => ?_)
  · refine he H1 _ s1 hp fun H2 s2 => ?_
    refine ⟨acc, s2 _ _ (s1 _ _ hD), Nat.lt_of_le_of_lt hb (by decide), hN _ (fun c o e => ?_) ?_⟩
    · exact upd_skip (ne_of_none e nD) (s2 _ _ (s1 _ _ (sm _ _ e)))
    · rw [if_pos hp]; exact upd_same
  · refine hN _ (sm.trans s1) ?_
    rw [if_neg (by rw [hp]; decide)]; exact s1 _ _ hD
theorem filt_len (n : Nat) : (((xs.take n).filter p).map f).length ≤ xs.length := by
  rw [List.length_map]
  exact Nat.le_trans (List.length_filter_le _ _) (by rw [List.length_take]; omega)
theorem lcL_filt (nD : H D = none) (hl : SqL K H a xs) (hb : xs.length ≤ 10000)
    (ht : ∀ (i : Nat) (x : V) (H' : Hp) (k : Bool → Hp → Prop), xs[i]? = some x → Same H H' → (∀ H'', Same H' H'' → k (p x) H'') → tt ((wipe σ [j]).set j (some x)) H' k)
    (he : ∀ (i : Nat) (x : V) (H' : Hp) (k : VK), xs[i]? = some x → p x = true → Same H H' → (∀ H'', Same H' H'' → k (f x) H'') → te ((wipe σ [j]).set j (some x)) H' k)
    (hd : ∀ H', Same H H' → H' D = some (.lst ((xs.filter p).map f)) → Qd H') :
    ∃ W : Nat → Nat → Hp → Prop, (∃ m, W 0 m (upd H D (.lst []))) ∧ ∀ i m H, W i m H →
      ((Itl K a).stop i H ∧ Qd H) ∨ ((Itl K a).go i H ∧ ∃ Nx : Hp → Prop, (∀ H', Nx H' → ∃ m', m' < m ∧ W (i + 1) m' H') ∧ ∀ x H', (Itl K a).yld i H x H' → gName j x (wipe σ [j]) H' fun σ2 H2 => wipe σ2 [j] = wipe σ [j] ∧ tt σ2 H2 fun b H3 =>
        if b = true then te σ2 H3 fun y H4 => ∃ acc, H4 D = some (.lst acc) ∧ acc.length < sizeLine ∧ Nx (upd H4 D (.lst (acc ++ [y]))) else Nx H3) := by
  refine lc_list (K := K) (a := a) (xs := xs) (fun i H' => Same H H' ∧ H' D = some (.lst (((xs.take i).filter p).map f))) ⟨same_new nD, upd_same⟩ (fun i H' _ h => h.1.seq hl) ?_ ?_
  · rintro i x H' hx ⟨sm, hD⟩
    refine lc_turn nD sm hD (Nat.le_trans (filt_len i) hb) (fun k hk => ht i x H' k hx sm hk) (fun H1 k s1 hp hk => he i x H1 k hx hp (sm.trans s1) hk) fun H'' s2 e => ⟨s2, ?_⟩
    rw [filt_snoc hx]; exact e
  · rintro H' ⟨sm, hD⟩
    rw [List.take_length] at hD
    exact hd H' sm hD
theorem lcT_filt (nD : H D = none) (hl : SqT K H a xs) (hb : xs.length ≤ 10000)
    (ht : ∀ (i : Nat) (x : V) (H' : Hp) (k : Bool → Hp → Prop), xs[i]? = some x → Same H H' → (∀ H'', Same H' H'' → k (p x) H'') → tt ((wipe σ [j]).set j (some x)) H' k)
    (he : ∀ (i : Nat) (x : V) (H' : Hp) (k : VK), xs[i]? = some x → p x = true → Same H H' → (∀ H'', Same H' H'' → k (f x) H'') → te ((wipe σ [j]).set j (some x)) H' k)
    (hd : ∀ H', Same H H' → H' D = some (.lst ((xs.filter p).map f)) → Qd H') :
    ∃ W : Nat → Nat → Hp → Prop, (∃ m, W 0 m (upd H D (.lst []))) ∧ ∀ i m H, W i m H →
      ((Itt K a).stop i H ∧ Qd H) ∨ ((Itt K a).go i H ∧ ∃ Nx : Hp → Prop, (∀ H', Nx H' → ∃ m', m' < m ∧ W (i + 1) m' H') ∧ ∀ x H', (Itt K a).yld i H x H' → gName j x (wipe σ [j]) H' fun σ2 H2 => wipe σ2 [j] = wipe σ [j] ∧ tt σ2 H2 fun b H3 =>
        if b = true then te σ2 H3 fun y H4 => ∃ acc, H4 D = some (.lst acc) ∧ acc.length < sizeLine ∧ Nx (upd H4 D (.lst (acc ++ [y]))) else Nx H3) := by
  have sq : ∀ {H' : Hp}, Same H H' → SqT K H' a xs := fun {H'} sm => by
    rcases hl with (h | ⟨o, h⟩) | h
    · exact .inl (.inl (sm _ _ h))
    · exact .inl (.inr ⟨o, sm _ _ h⟩)
    · exact .inr h
  refine lc_tup (K := K) (a := a) (xs := xs) (fun i H' => Same H H' ∧ H' D = some (.lst (((xs.take i).filter p).map f))) ⟨same_new nD, upd_same⟩ (fun i H' _ h => sq h.1) ?_ ?_
  · rintro i x H' hx ⟨sm, hD⟩
    refine lc_turn nD sm hD (Nat.le_trans (filt_len i) hb) (fun k hk => ht i x H' k hx sm hk) (fun H1 k s1 hp hk => he i x H1 k hx hp (sm.trans s1) hk) fun H'' s2 e => ⟨s2, ?_⟩
    rw [filt_snoc hx]; exact e
  · rintro H' ⟨sm, hD⟩
    rw [List.take_length] at hD
    exact hd H' sm hD
theorem filt_all {xs : List V} {f : V → V} : (xs.filter fun _ => true).map f = xs.map f := by rw [List.filter_eq_self.mpr (fun _ _ => rfl)]
end
theorem SqT_same {K : PySem.W.Frag} {H H' : Hp} {a : Addr} {xs : List V} (sm : Same H H') (hl : SqT K H a xs) : SqT K H' a xs := by
  rcases hl with (h | ⟨o, h⟩) | h
  · exact .inl (.inl (sm _ _ h))
  · exact .inl (.inr ⟨o, sm _ _ h⟩)
  · exact .inr h
/-! data -/
theorem dpAll_str {K : PySem.W.Frag} {H : Hp} : ∀ zs : List Str, DpAll K H (zs.map V.str) (zs.map PyData.str)
  | [] => .nil
  | z :: zs => .cons (.str z) (dpAll_str zs)
theorem dpAll_int {K : PySem.W.Frag} {H : Hp} : ∀ zs : List Int, DpAll K H (zs.map V.int) (zs.map PyData.int)
  | [] => .nil
  | z :: zs => .cons (.int z) (dpAll_int zs)
theorem canLay_strs : ∀ {zs : List Str}, (∀ z ∈ zs, PyData.strOk z = true) → PyData.canLayAll0 (zs.map PyData.str) = true
  | [], _ => rfl
  | z :: zs, h => by
    show (PyData.strOk z && PyData.canLayAll0 (zs.map PyData.str)) = true
    rw [h z List.mem_cons_self, canLay_strs fun y hy => h y (List.mem_cons_of_mem _ hy)]; rfl
theorem depth_strs : ∀ zs : List Str, PyData.depthAll (zs.map PyData.str) = 0
  | [] => rfl
  | z :: zs => by
    show max 0 (PyData.depthAll (zs.map PyData.str)) = 0
    rw [depth_strs zs]; rfl
theorem shaped_of {d : PyData} (h : d.canLay0 = true) (h2 : d.depth ≤ 64) : SeqAt.shaped d = true := by
  unfold SeqAt.shaped; rw [h, decide_eq_true h2]; rfl
theorem shapedL_strs {zs : List Str} (h : ∀ z ∈ zs, PyData.strOk z = true) : SeqAt.shaped (.list (zs.map .str)) = true :=
  shaped_of (canLay_strs h) (by show PyData.depthAll (zs.map PyData.str) + 1 ≤ 64; rw [depth_strs]; decide)
theorem shapedT_strs {zs : List Str} (h : ∀ z ∈ zs, PyData.strOk z = true) : SeqAt.shaped (.tuple (zs.map .str)) = true :=
  shaped_of (canLay_strs h) (by show PyData.depthAll (zs.map PyData.str) + 1 ≤ 64; rw [depth_strs]; decide)
theorem eqv_same {d : PyData} (h : SeqAt.shaped d = true) : PyData.eqv d d = true := SeqAt.eqv_refl d (SeqAt.canLay_of_shaped h)
theorem flats_str (zs : List Str) : (zs.map V.str).all flatV = true := by
  rw [List.all_eq_true]; intro x hx
  obtain ⟨z, _, rfl⟩ := List.mem_map.mp hx; rfl
theorem inV_strs (z : Str) : ∀ zs : List Str, inV (.str z) (zs.map V.str) = decide (z ∈ zs)
  | [] => by simp [inV]
  | y :: zs => by
    show (eqV (.str y) (.str z) || inV (.str z) (zs.map V.str)) = _
    rw [inV_strs z zs]
    have e : eqV (.str y) (.str z) = decide (y = z) := by
      show (y == z) = _
      by_cases h : y = z
      · subst h; simp
      · simp [h]
    rw [e]
    by_cases h : y = z
    · subst h; simp
    · have h2 : ¬ z = y := fun q => h q.symm
      simp [h, h2]
/-! a dict of the module with texts as keys -/
/-- the entries of a written dict, one by one -/
def KPairs (P : Params) : List (Str × V) → List DictEntry → Prop
  | [], [] => True
  | (x, v) :: r, e :: es => (∃ t, e.key = .str x t) ∧ e.hash = PyData.keyHash P x ∧ RelV v e.val ∧ KPairs P r es
  | _, _ => False
theorem KPairs.keys {P : Params} : ∀ {tab : List (Str × V)} {es : List DictEntry}, KPairs P tab es → PySem.W.KeysLit P es
  | [], [], _ => True.intro
  | (x, v) :: r, e :: es, ⟨⟨t, h1⟩, h2, _, h4⟩ => ⟨⟨x, t, h1, h2⟩, KPairs.keys h4⟩
theorem KPairs.find {P : Params} {z : Str} : ∀ {tab : List (Str × V)} {es : List DictEntry}, KPairs P tab es → RelO (tab.lookup z) ((es.find? fun d => Value.isStrOf z d.key).map (·.val))
  | [], [], _ => True.intro
  | (x, v) :: r, e :: es, ⟨⟨t, h1⟩, h2, h3, h4⟩ => by
    rw [List.lookup_cons, List.find?_cons, h1]
    by_cases hz : z = x
    · subst hz
      have e1 : (z == z) = true := by simp
      have e2 : Value.isStrOf z (.str z t) = true := by simp [Value.isStrOf]
      rw [e1, e2]; exact h3
    · have e1 : (z == x) = false := by simpa using hz
      have e2 : Value.isStrOf z (.str x t) = false := by simp [Value.isStrOf, hz]; intro q; exact hz q.symm
      rw [e1, e2]; exact KPairs.find h4
def KDt (w : World) (K : PySem.W.Frag) (a : Addr) (tab : List (Str × V)) : Prop :=
  ∃ es n, K.lookup a = some ⟨.type "dict", none, .dict es n, #[]⟩ ∧ (a == sysModules) = false ∧ KPairs w.params tab es.toList
theorem find_arr {es : Array DictEntry} {z : Str} : PySem.findBy Value.isStrOf es z = (es.toList.find? fun d => Value.isStrOf z d.key).map (·.val) := by
  obtain ⟨l⟩ := es
  unfold PySem.findBy
  rw [List.find?_toArray] <;> rfl
def rInKD (w : World) (K : PySem.W.Frag) : R2 := fun x y H Q => ∃ p z tab, x = .str z ∧ y = .ref p ∧ KDt w K p tab ∧ Q (.bl (tab.lookup z).isSome) H
def rIxKD (w : World) (K : PySem.W.Frag) : R2 := fun x y H Q => ∃ p z tab v, x = .ref p ∧ y = .str z ∧ KDt w K p tab ∧ tab.lookup z = some v ∧ Q v H
theorem op_inKD {X : Cx} : OpR X (compareOp .In) (rInKD X.w X.K) := by
  intro pins s σ H x y v u Q I rx ry h
  obtain ⟨p, z, tab, rfl, rfl, ⟨es, n, hl, lo, kp⟩, q⟩ := h
  obtain ⟨t, rfl⟩ := rx
  obtain rfl : u = Value.ref p := ry
  have hm := PySem.W.mapOf_K (prog := X.prog) (w := X.w) I.kIn hl kp.keys
  refine wpAny_in_of (PySem.strKind_is X.prog X.w z t) lo hm ?_
  have e := kp.find (z := z)
  rw [← find_arr] at e
  refine ⟨.bl (tab.lookup z).isSome, H, I.tok _, ?_, q⟩
  show Value.bool _ = Value.bool _
  generalize PySem.findBy Value.isStrOf es z = o1 at e
  generalize tab.lookup z = o2 at e
  cases o1 <;> cases o2 <;> first | rfl | exact e.elim
theorem ix_KD {X : Cx} : IxR X (rIxKD X.w X.K) := by
  intro value slice pins s σ H x y v u Q I rx ry h hs
  obtain ⟨p, z, tab, r, rfl, rfl, ⟨es, n, hl, lo, kp⟩, hr, q⟩ := h
  obtain rfl : v = Value.ref p := rx
  obtain ⟨t, rfl⟩ := ry
  have hm := PySem.W.mapOf_K (prog := X.prog) (w := X.w) I.kIn hl kp.keys
  have e := kp.find (z := z)
  rw [← find_arr, hr] at e
  cases o1 : PySem.findBy Value.isStrOf es z with
  | none => rw [o1] at e; exact e.elim
  | some u0 =>
    rw [o1] at e
    exact PyProof.Rows.tail_any hm.typeIs slot_dict_getitem.lookup (wpAny_getItem_of (PySem.strKind_is X.prog X.w z t) hm o1 ⟨r, H, I.tok _, e, q⟩) hs
theorem dl0 (more : List (Key × V)) (h : more.length ≤ 50) : (mergeK [] more).length ≤ 50 := by
  have := length_mergeK more []
  simp only [List.length_nil] at this; omega
theorem dl1 {kvs : List (Key × V)} {k : Key} {v : V} {n : Nat} (h : kvs.length ≤ n) : (putK kvs k v).length ≤ n + 1 := Nat.le_trans (length_putK _ _ _) (Nat.succ_le_succ h)
/-! the source -/
/-- at p stands a source that has been drawn from c times -/
def Src (H : Hp) (p : Addr) (c : Int) : Prop := ∃ g s : Int, H p = some (.lst [.int g, .int s, .int c]) ∧ 0 ≤ s ∧ s < 2147483647 ∧ 0 ≤ c
section
variable {H H' : Hp} {p q : Addr} {c : Int} {o : HO}
theorem Src.nn (h : Src H p c) : 0 ≤ c := by obtain ⟨_, _, _, _, _, h⟩ := h; exact h
theorem Src.ne (h : Src H p c) (n : H q = none) : q ≠ p := by obtain ⟨_, _, e, _⟩ := h; exact ne_new e n
theorem Src.keep (h : Src H p c) (n : H q = none) : Src (L2.upd H q o) p c := by
  obtain ⟨g, s, e, r⟩ := h; exact ⟨g, s, upd_keep e n, r⟩
theorem Src.skip (h : Src H p c) (n : p ≠ q) : Src (L2.upd H q o) p c := by
  obtain ⟨g, s, e, r⟩ := h; exact ⟨g, s, upd_skip n e, r⟩
theorem Src.same (h : Src H p c) (s : Same H H') : Src H' p c := by
  obtain ⟨g, z, e, r⟩ := h; exact ⟨g, z, s _ _ e, r⟩
end
/-! places -/
def signS (i j : Int) : Str := if i = j then "=" else if i < j then "<" else ">"
def placeOfS (d : Int) (z : Str) : Str := if d < -1 then "below" else if 1 < d then "above" else (if d = -1 then "-" else if d = 1 then "+" else "") ++ z
def placeS (x k e : Int) : Str := placeOfS (x / e - k / e) (signS (x % e) (k % e))
theorem signS_len (i j : Int) : (signS i j).length ≤ 1000 := by
  unfold signS; split
  · decide
  · split <;> decide
end NL
namespace NL
open PySem L2
/-! the place hangs on the difference of cells and the order of rests -/
theorem place_shift {x k e m : Int} (he : 0 < e) : placeS (x + m * e) (k + m * e) e = placeS x k e := by
  unfold placeS
  rw [Int.add_mul_ediv_right _ _ (by omega), Int.add_mul_ediv_right _ _ (by omega), Int.add_mul_emod_self_right, Int.add_mul_emod_self_right]
  congr 1; omega
theorem sign_scale {a b t : Int} (ht : 0 < t) : signS (t * a) (t * b) = signS a b := by
  unfold signS
  by_cases h : a = b
  · rw [if_pos h, if_pos (by rw [h])]
  · rw [if_neg h, if_neg (fun z => h (Int.eq_of_mul_eq_mul_left (by omega) z))]
    by_cases h2 : a < b
    · rw [if_pos h2, if_pos (Int.mul_lt_mul_of_pos_left h2 ht)]
    · rw [if_neg h2, if_neg]
      intro z
      exact h2 (Int.lt_of_mul_lt_mul_left z (by omega))
theorem place_scale {x k e t : Int} (ht : 0 < t) : placeS (x * t) (k * t) (e * t) = placeS x k e := by
  unfold placeS
  rw [Int.mul_comm x t, Int.mul_comm k t, Int.mul_comm e t, Int.mul_ediv_mul_of_pos _ _ ht, Int.mul_ediv_mul_of_pos _ _ ht, Int.mul_emod_mul_of_pos _ _ ht, Int.mul_emod_mul_of_pos _ _ ht, sign_scale ht]
theorem div_wide {q r w : Int} (h0 : 0 ≤ r) (h1 : r < w) : (q * w + r) / w = q ∧ (q * w + r) % w = r := by
  have hw : w ≠ 0 := by omega
  constructor
  · rw [Int.add_comm, Int.add_mul_ediv_right _ _ hw, Int.ediv_eq_zero_of_lt h0 h1]; omega
  · rw [Int.add_comm, Int.add_mul_emod_self_right, Int.emod_eq_of_lt h0 h1]
theorem place_wide {x k e w : Int} (he : 0 < e) (hw : e ≤ w) : placeS (x / e * w + x % e) (k / e * w + k % e) w = placeS x k e := by
  have h1 := div_wide (q := x / e) (r := x % e) (w := w) (Int.emod_nonneg _ (by omega)) (by have := Int.emod_lt_of_pos x he; omega)
  have h2 := div_wide (q := k / e) (r := k % e) (w := w) (Int.emod_nonneg _ (by omega)) (by have := Int.emod_lt_of_pos k he; omega)
  unfold placeS
  rw [h1.1, h1.2, h2.1, h2.2]
theorem mul_bd {a b A B : Int} (ha : -A ≤ a) (ha2 : a ≤ A) (hb : 0 ≤ b) (hB : b ≤ B) (hA : 0 ≤ A) : -(A * B) ≤ a * b ∧ a * b ≤ A * B := by
  constructor
  · have h1 : -A * b ≤ a * b := Int.mul_le_mul_of_nonneg_right ha hb
    have h2 : A * b ≤ A * B := Int.mul_le_mul_of_nonneg_left hB hA
    rw [Int.neg_mul] at h1; omega
  · have h1 : a * b ≤ A * b := Int.mul_le_mul_of_nonneg_right ha2 hb
    have h2 : A * b ≤ A * B := Int.mul_le_mul_of_nonneg_left hB hA
    omega
/-! the eleven places in order, by ten bounds -/
def PL : List Str := ["below", "-<", "-=", "->", "<", "=", ">", "+<", "+=", "+>", "above"]
def endsL (k e : Int) : List Int := [k - k % e - e, k - e, k - e + 1, k - k % e, k, k + 1, k - k % e + e, k + e, k + e + 1, k - k % e + 2 * e]
def cnt (x k e : Int) : Nat := ((endsL k e).filter fun z => decide (z ≤ x)).length
theorem filt_cons (a : Int) (l : List Int) (x : Int) : ((a :: l).filter fun z => decide (z ≤ x)).length = (if a ≤ x then 1 else 0) + (l.filter fun z => decide (z ≤ x)).length := by
  by_cases h : a ≤ x
  · rw [List.filter_cons_of_pos (by simpa using h), if_pos h, List.length_cons]; omega
  · rw [List.filter_cons_of_neg (by simpa using h), if_neg h]; omega
theorem cnt_eq (x k e : Int) : cnt x k e = (if k - k % e - e ≤ x then 1 else 0) + ((if k - e ≤ x then 1 else 0) + ((if k - e + 1 ≤ x then 1 else 0) + ((if k - k % e ≤ x then 1 else 0) + ((if k ≤ x then 1 else 0) + ((if k + 1 ≤ x then 1 else 0) + ((if k - k % e + e ≤ x then 1 else 0) + ((if k + e ≤ x then 1 else 0) + ((if k + e + 1 ≤ x then 1 else 0) + ((if k - k % e + 2 * e ≤ x then 1 else 0) + 0))))))))) := by
  unfold cnt endsL
  simp only [filt_cons]; rfl
theorem filt_mono {x y : Int} (h : x ≤ y) : ∀ l : List Int, (l.filter fun z => decide (z ≤ x)).length ≤ (l.filter fun z => decide (z ≤ y)).length
  | [] => Nat.le_refl _
  | a :: l => by
    have ih := filt_mono h l
    rw [filt_cons, filt_cons]
    split <;> split <;> omega
theorem cnt_mono {x y k e : Int} (h : x ≤ y) : cnt x k e ≤ cnt y k e := filt_mono h _
theorem cnt_place {x k e : Int} (he : 0 < e) : PL[cnt x k e]? = some (placeS x k e) := by
  have hx := Int.emod_add_mul_ediv x e
  have hk := Int.emod_add_mul_ediv k e
  have x1 := Int.emod_nonneg x (show e ≠ 0 by omega)
  have x2 := Int.emod_lt_of_pos x he
  have k1 := Int.emod_nonneg k (show e ≠ 0 by omega)
  have k2 := Int.emod_lt_of_pos k he
  rw [cnt_eq]
  unfold placeS placeOfS signS
  generalize x / e = qx at *
  generalize k / e = qk at *
  generalize x % e = rx at *
  generalize k % e = rk at *
  by_cases d1 : qx - qk < -1
  · have m : e * qx ≤ e * (qk - 2) := Int.mul_le_mul_of_nonneg_left (by omega) (by omega)
    rw [Int.mul_sub] at m
    rw [if_pos d1]
    rw [if_neg (by omega), if_neg (by omega), if_neg (by omega), if_neg (by omega), if_neg (by omega), if_neg (by omega), if_neg (by omega), if_neg (by omega), if_neg (by omega), if_neg (by omega)]
    rfl
  rw [if_neg d1]
  by_cases d2 : 1 < qx - qk
  · have m : e * (qk + 2) ≤ e * qx := Int.mul_le_mul_of_nonneg_left (by omega) (by omega)
    rw [Int.mul_add] at m
    rw [if_pos d2]
    rw [if_pos (by omega), if_pos (by omega), if_pos (by omega), if_pos (by omega), if_pos (by omega), if_pos (by omega), if_pos (by omega), if_pos (by omega), if_pos (by omega), if_pos (by omega)]
    rfl
  rw [if_neg d2]
  rcases (show qx = qk - 1 ∨ qx = qk ∨ qx = qk + 1 by omega) with h | h | h
  · subst h
    rw [Int.mul_sub] at hx
    rw [if_pos (show qk - 1 - qk = -1 by omega), if_pos (show k - rk - e ≤ x by omega), if_neg (show ¬ k - rk ≤ x by omega), if_neg (show ¬ k ≤ x by omega), if_neg (show ¬ k + 1 ≤ x by omega), if_neg (show ¬ k - rk + e ≤ x by omega), if_neg (show ¬ k + e ≤ x by omega), if_neg (show ¬ k + e + 1 ≤ x by omega), if_neg (show ¬ k - rk + 2 * e ≤ x by omega)]
    by_cases c1 : rx = rk
    · rw [if_pos c1, if_pos (show k - e ≤ x by omega), if_neg (show ¬ k - e + 1 ≤ x by omega)]; rfl
    · rw [if_neg c1]
      by_cases c2 : rx < rk
      · rw [if_pos c2, if_neg (show ¬ k - e ≤ x by omega), if_neg (show ¬ k - e + 1 ≤ x by omega)]; rfl
      · rw [if_neg c2, if_pos (show k - e ≤ x by omega), if_pos (show k - e + 1 ≤ x by omega)]; rfl
  · subst h
    rw [if_neg (show ¬ qx - qx = -1 by omega), if_neg (show ¬ qx - qx = 1 by omega), if_pos (show k - rk - e ≤ x by omega), if_pos (show k - e ≤ x by omega), if_pos (show k - e + 1 ≤ x by omega), if_pos (show k - rk ≤ x by omega), if_neg (show ¬ k - rk + e ≤ x by omega), if_neg (show ¬ k + e ≤ x by omega), if_neg (show ¬ k + e + 1 ≤ x by omega), if_neg (show ¬ k - rk + 2 * e ≤ x by omega)]
    by_cases c1 : rx = rk
    · rw [if_pos c1, if_pos (show k ≤ x by omega), if_neg (show ¬ k + 1 ≤ x by omega)]; rfl
    · rw [if_neg c1]
      by_cases c2 : rx < rk
      · rw [if_pos c2, if_neg (show ¬ k ≤ x by omega), if_neg (show ¬ k + 1 ≤ x by omega)]; rfl
      · rw [if_neg c2, if_pos (show k ≤ x by omega), if_pos (show k + 1 ≤ x by omega)]; rfl
  · subst h
    rw [Int.mul_add] at hx
    rw [if_neg (show ¬ qk + 1 - qk = -1 by omega), if_pos (show qk + 1 - qk = 1 by omega), if_pos (show k - rk - e ≤ x by omega), if_pos (show k - e ≤ x by omega), if_pos (show k - e + 1 ≤ x by omega), if_pos (show k - rk ≤ x by omega), if_pos (show k ≤ x by omega), if_pos (show k + 1 ≤ x by omega), if_pos (show k - rk + e ≤ x by omega), if_neg (show ¬ k - rk + 2 * e ≤ x by omega)]
    by_cases c1 : rx = rk
    · rw [if_pos c1, if_pos (show k + e ≤ x by omega), if_neg (show ¬ k + e + 1 ≤ x by omega)]; rfl
    · rw [if_neg c1]
      by_cases c2 : rx < rk
      · rw [if_pos c2, if_neg (show ¬ k + e ≤ x by omega), if_neg (show ¬ k + e + 1 ≤ x by omega)]; rfl
      · rw [if_neg c2, if_pos (show k + e ≤ x by omega), if_pos (show k + e + 1 ≤ x by omega)]; rfl
theorem placeS_mem {x k e : Int} (he : 0 < e) : placeS x k e ∈ PL := List.mem_of_getElem? (cnt_place he)
theorem PL_nodup : PL.Nodup := by decide +kernel
theorem first_nd {l : List Str} (hl : l.Nodup) {z : Str} {j : Nat} (h : l[j]? = some z) : ∀ m, m < j → l[m]? ≠ some z := fun m hm e => by
  have := nd_ix hl e h
  omega
theorem PL_first {z : Str} {j : Nat} (h : PL[j]? = some z) : ∀ m, m < j → PL[m]? ≠ some z := first_nd PL_nodup h
theorem PL_ok : ∀ z ∈ PL, PyData.strOk z = true := by decide +kernel
/-! turned places -/
def turnS (z : Str) : Str := PL.reverse.getD (PL.findIdx fun y => decide (y = z)) ""
theorem turn_at {j : Nat} {z : Str} (h : PL[j]? = some z) : PL[10 - j]? = some (turnS z) := by
  have hj := (List.getElem?_eq_some_iff.mp h).1
  have hj : j < 11 := hj
  have e : PL.getD j "" = z := by rw [List.getD_eq_getElem?_getD, h]; rfl
  subst e
  revert j
  decide +kernel
theorem turn_place {x k e : Int} : turnS (placeS x k e) = placeS k x e := by
  unfold placeS
  generalize hd : x / e - k / e = d
  have hd2 : k / e - x / e = -d := by omega
  rw [hd2]
  unfold placeOfS signS
  generalize x % e = a
  generalize k % e = b
  by_cases d1 : d < -1
  · rw [if_pos d1, if_neg (show ¬ -d < -1 by omega), if_pos (show 1 < -d by omega)]; decide +kernel
  rw [if_neg d1]
  by_cases d2 : 1 < d
  · rw [if_pos d2, if_pos (show -d < -1 by omega)]; decide +kernel
  rw [if_neg d2, if_neg (show ¬ -d < -1 by omega), if_neg (show ¬ 1 < -d by omega)]
  by_cases c1 : a = b
  · rw [if_pos c1, if_pos c1.symm]
    rcases (show d = -1 ∨ d = 0 ∨ d = 1 by omega) with h | h | h <;> subst h <;> decide +kernel
  · rw [if_neg c1, if_neg (show ¬ b = a from fun z => c1 z.symm)]
    by_cases c2 : a < b
    · rw [if_pos c2, if_neg (show ¬ b < a by omega)]
      rcases (show d = -1 ∨ d = 0 ∨ d = 1 by omega) with h | h | h <;> subst h <;> decide +kernel
    · rw [if_neg c2, if_pos (show b < a by omega)]
      rcases (show d = -1 ∨ d = 0 ∨ d = 1 by omega) with h | h | h <;> subst h <;> decide +kernel
theorem turn_mem {z : Str} (h : z ∈ PL) : turnS z ∈ PL := by
  obtain ⟨j, hj⟩ := List.getElem?_of_mem h
  exact List.mem_of_getElem? (turn_at hj)
theorem turn_turn : ∀ {z : Str}, z ∈ PL → turnS (turnS z) = z := by decide +kernel
end NL
namespace NL
open PySem L2
/-! groups -/
def LG : List (Str × List Str) := [("any", ["below", "-<", "-=", "->", "<", "=", ">", "+<", "+=", "+>", "above"]), ("near", ["-=", "->", "<", "=", ">", "+<", "+="]), ("far", ["below", "-<", "+>", "above"]), ("less", ["below", "-<", "-=", "->", "<"]), ("more", [">", "+<", "+=", "+>", "above"]), ("under", ["below", "-<"]), ("over", ["+>", "above"]), ("cell", ["<", "=", ">"]), ("none", [])]
def GN : List Str := ["any", "near", "far", "less", "more", "under", "over", "cell", "none"]
def isGroupB (z : Str) : Bool := decide (z ∈ PL) || (LG.lookup z).isSome
def groupS (z : Str) : List Str := if z ∈ PL then [z] else (LG.lookup z).getD []
/-- two tables whose values correspond -/
theorem lookup_paired {K : PySem.W.Frag} {z : Str} : ∀ {tab : List (Str × V)} {lg : List (Str × List Str)}, Paired (fun (p : Str × V) (q : Str × List Str) => p.1 = q.1 ∧ ∃ a, p.2 = .ref a ∧ ∀ H, SqT K H a (q.2.map V.str)) tab lg →
    (tab.lookup z).isSome = (lg.lookup z).isSome ∧ ∀ ys, lg.lookup z = some ys → ∃ a, tab.lookup z = some (.ref a) ∧ ∀ H, SqT K H a (ys.map V.str)
  | _, _, .nil => ⟨rfl, fun _ h => nomatch h⟩
  | (x, v) :: r, (x', ys0) :: r', .cons ⟨e, a, ev, hs⟩ t => by
    have e : x = x' := e
    subst e
    have ev : v = .ref a := ev
    subst ev
    rw [List.lookup_cons, List.lookup_cons]
    by_cases hz : z = x
    · have e1 : (z == x) = true := by simpa using hz
      rw [e1]
      exact ⟨rfl, fun ys h => ⟨a, rfl, by cases h; exact hs⟩⟩
    · have e1 : (z == x) = false := by simpa using hz
      rw [e1]
      exact lookup_paired t
/-- what each place says of the numbers -/
theorem place_rel {x k e : Int} (he : 0 < e) :
    (placeS x k e = "below" ∧ x < k - e ∧ x / e < k / e) ∨ (placeS x k e = "-<" ∧ x < k - e ∧ x / e = k / e - 1) ∨ (placeS x k e = "-=" ∧ x = k - e ∧ x / e = k / e - 1) ∨ (placeS x k e = "->" ∧ k - e < x ∧ x < k ∧ x / e = k / e - 1) ∨
    (placeS x k e = "<" ∧ k - e < x ∧ x < k ∧ x / e = k / e) ∨ (placeS x k e = "=" ∧ x = k ∧ x / e = k / e) ∨ (placeS x k e = ">" ∧ k < x ∧ x < k + e ∧ x / e = k / e) ∨
    (placeS x k e = "+<" ∧ k < x ∧ x < k + e ∧ x / e = k / e + 1) ∨ (placeS x k e = "+=" ∧ x = k + e ∧ x / e = k / e + 1) ∨ (placeS x k e = "+>" ∧ k + e < x ∧ x / e = k / e + 1) ∨ (placeS x k e = "above" ∧ k + e < x ∧ k / e < x / e) := by
  have hx := Int.emod_add_mul_ediv x e
  have hk := Int.emod_add_mul_ediv k e
  have x1 := Int.emod_nonneg x (show e ≠ 0 by omega)
  have x2 := Int.emod_lt_of_pos x he
  have k1 := Int.emod_nonneg k (show e ≠ 0 by omega)
  have k2 := Int.emod_lt_of_pos k he
  unfold placeS placeOfS signS
  generalize x / e = qx at *
  generalize k / e = qk at *
  generalize x % e = rx at *
  generalize k % e = rk at *
  by_cases d1 : qx - qk < -1
  · have m : e * qx ≤ e * (qk - 2) := Int.mul_le_mul_of_nonneg_left (by omega) (by omega)
    rw [Int.mul_sub] at m
    exact .inl ⟨if_pos d1, by omega, by omega⟩
  by_cases d2 : 1 < qx - qk
  · have m : e * (qk + 2) ≤ e * qx := Int.mul_le_mul_of_nonneg_left (by omega) (by omega)
    rw [Int.mul_add] at m
    exact .inr (.inr (.inr (.inr (.inr (.inr (.inr (.inr (.inr (.inr ⟨by rw [if_neg d1, if_pos d2], by omega, by omega⟩)))))))))
  rw [if_neg d1, if_neg d2]
  rcases (show qx = qk - 1 ∨ qx = qk ∨ qx = qk + 1 by omega) with h | h | h
  · subst h
    rw [Int.mul_sub] at hx
    rw [if_pos (show qk - 1 - qk = -1 by omega)]
    by_cases c1 : rx = rk
    · rw [if_pos c1]; exact .inr (.inr (.inl ⟨rfl, by omega, rfl⟩))
    · rw [if_neg c1]
      by_cases c2 : rx < rk
      · rw [if_pos c2]; exact .inr (.inl ⟨rfl, by omega, rfl⟩)
      · rw [if_neg c2]; exact .inr (.inr (.inr (.inl ⟨rfl, by omega, by omega, rfl⟩)))
  · subst h
    rw [if_neg (show ¬ qx - qx = -1 by omega), if_neg (show ¬ qx - qx = 1 by omega)]
    by_cases c1 : rx = rk
    · rw [if_pos c1]; exact .inr (.inr (.inr (.inr (.inr (.inl ⟨rfl, by omega, rfl⟩)))))
    · rw [if_neg c1]
      by_cases c2 : rx < rk
      · rw [if_pos c2]; exact .inr (.inr (.inr (.inr (.inl ⟨rfl, by omega, by omega, rfl⟩))))
      · rw [if_neg c2]; exact .inr (.inr (.inr (.inr (.inr (.inr (.inl ⟨rfl, by omega, by omega, rfl⟩))))))
  · subst h
    rw [Int.mul_add] at hx
    rw [if_neg (show ¬ qk + 1 - qk = -1 by omega), if_pos (show qk + 1 - qk = 1 by omega)]
    by_cases c1 : rx = rk
    · rw [if_pos c1]; exact .inr (.inr (.inr (.inr (.inr (.inr (.inr (.inr (.inl ⟨rfl, by omega, rfl⟩))))))))
    · rw [if_neg c1]
      by_cases c2 : rx < rk
      · rw [if_pos c2]; exact .inr (.inr (.inr (.inr (.inr (.inr (.inr (.inl ⟨rfl, by omega, by omega, rfl⟩)))))))
      · rw [if_neg c2]; exact .inr (.inr (.inr (.inr (.inr (.inr (.inr (.inr (.inr (.inl ⟨rfl, by omega, rfl⟩)))))))))
/-- membership in each group by comparing numbers -/
theorem group_due {x k e : Int} (he : 0 < e) : (placeS x k e ∈ groupS "any") ∧ (placeS x k e ∈ groupS "near" ↔ (-e ≤ x - k ∧ x - k ≤ e)) ∧ (placeS x k e ∈ groupS "far" ↔ ¬ (-e ≤ x - k ∧ x - k ≤ e)) ∧ (placeS x k e ∈ groupS "less" ↔ x < k) ∧ (placeS x k e ∈ groupS "more" ↔ k < x) ∧
    (placeS x k e ∈ groupS "under" ↔ x < k - e) ∧ (placeS x k e ∈ groupS "over" ↔ k + e < x) ∧ (placeS x k e ∈ groupS "cell" ↔ x / e = k / e) ∧ ¬ (placeS x k e ∈ groupS "none") ∧ (placeS x k e = "=" ↔ x = k) := by
  rcases place_rel (x := x) (k := k) he with ⟨p, h⟩ | ⟨p, h⟩ | ⟨p, h⟩ | ⟨p, h⟩ | ⟨p, h⟩ | ⟨p, h⟩ | ⟨p, h⟩ | ⟨p, h⟩ | ⟨p, h⟩ | ⟨p, h⟩ | ⟨p, h⟩ <;> rw [p] <;>
    refine ⟨by decide +kernel, ?_, ?_, ?_, ?_, ?_, ?_, ?_, by decide +kernel, ?_⟩ <;>
    first
      | exact iff_of_true (by decide +kernel) (by omega)
      | exact iff_of_false (by decide +kernel) (by omega)
theorem GN_group : ∀ {n : Str}, n ∈ GN → isGroupB n = true := by decide +kernel
end NL
local macro_rules | `(tactic| walk_at "hp") => `(tactic| first | assumption | exact L2.upd_same | (refine NL.upd_keep ?_ (by assumption); walk_at "hp") | (refine NL.upd_skip (by assumption) ?_; walk_at "hp") | (refine NL.But.at (by assumption) (by assumption) ?_; walk_at "hp"))
local macro_rules | `(tactic| walk_at "sq") => `(tactic| first | assumption | exact L2.SqL.of (by walk_at "hp") | exact L2.SqT.of (by walk_at "hp"))
local macro_rules | `(tactic| walk_at "at") => `(tactic| first | rfl | assumption)
local macro_rules | `(tactic| walk_at "ixN") => `(tactic| first | rfl | assumption)
local macro_rules | `(tactic| walk_at "pos") => `(tactic| first | assumption | (show (_ : Int) < _; omega) | decide)
local macro_rules | `(tactic| walk_at "len") => `(tactic| first | exact NL.sz1000 (by decide) | exact NL.sz100k (by decide) | exact NL.sz100k (by omega) | exact NL.sz100k (by simp))
local macro_rules | `(tactic| walk_at "mul") => `(tactic| first | (refine Or.inl ⟨?_, ?_⟩ <;> omega) | (refine Or.inr ⟨?_, ?_⟩ <;> omega))
local macro_rules | `(tactic| walk_at "pow") => `(tactic| first | exact ⟨by decide, by decide, by decide⟩ | exact ⟨by decide, by decide, by omega⟩)
local macro_rules | `(tactic| walk_at "div") => `(tactic| first | assumption | exact L2.wide_div (b := 100) (by omega) (by omega) (by decide) (by decide))
local macro_rules | `(tactic| walk_at "arith") => `(tactic| first | decide | omega)
local macro_rules | `(tactic| walk_at "tyx") => `(tactic| first | exact L2.TyX.base (L2.TyOf.int _) | exact L2.TyX.base (L2.TyOf.str _) | exact L2.TyX.base (L2.TyOf.bl _) | exact L2.TyX.base L2.TyOf.non | exact L2.TyX.base (L2.TyOf.lst (by walk_at "hp")) | exact L2.TyX.base (L2.TyOf.tup (by walk_at "hp")))
local macro_rules | `(tactic| walk_at "dlen") => `(tactic| (apply Nat.lt_of_le_of_lt; (repeat (first | exact NL.dl0 _ (by simp) | apply NL.dl1)); decide))
local macro_rules | `(tactic| walk_at "dval") => `(tactic| (simp only [L2.mergeK, List.foldl_cons, List.foldl_nil, L2.valV_put]; repeat (first | rw [if_pos True.intro] | rw [if_pos rfl] | rw [if_neg (by decide +kernel)])))
namespace Law
open PySem L2 NL
def topS (i : Nat) : Stmt := PySem.Challenge.pw_nearloops_k02_whole_groups_by_distance.main.body.getD i (.Pass ⟨0, 0, 0, 0⟩)
abbrev s_is_number : Stmt := topS 9
abbrev N_is_number : List Str := ["value"]
theorem sc_is_number : FnScope N_is_number ["value"] (defScope s_is_number) := ⟨rfl, rfl, rfl, by decide +kernel, rfl, by decide +kernel, by decide +kernel⟩
abbrev s_check_number : Stmt := topS 10
abbrev N_check_number : List Str := ["value"]
theorem sc_check_number : FnScope N_check_number ["value"] (defScope s_check_number) := ⟨rfl, rfl, rfl, by decide +kernel, rfl, by decide +kernel, by decide +kernel⟩
abbrev s_check_tolerance : Stmt := topS 11
abbrev N_check_tolerance : List Str := ["value"]
theorem sc_check_tolerance : FnScope N_check_tolerance ["value"] (defScope s_check_tolerance) := ⟨rfl, rfl, rfl, by decide +kernel, rfl, by decide +kernel, by decide +kernel⟩
abbrev s_sign_of : Stmt := topS 12
abbrev N_sign_of : List Str := ["first", "second"]
theorem sc_sign_of : FnScope N_sign_of ["first", "second"] (defScope s_sign_of) := ⟨rfl, rfl, rfl, by decide +kernel, rfl, by decide +kernel, by decide +kernel⟩
abbrev s_place_of : Stmt := topS 13
abbrev N_place_of : List Str := ["step", "sign"]
theorem sc_place_of : FnScope N_place_of ["step", "sign"] (defScope s_place_of) := ⟨rfl, rfl, rfl, by decide +kernel, rfl, by decide +kernel, by decide +kernel⟩
abbrev s_place : Stmt := topS 14
abbrev N_place : List Str := ["x", "kept", "tolerance"]
theorem sc_place : FnScope N_place ["x", "kept", "tolerance"] (defScope s_place) := ⟨rfl, rfl, rfl, by decide +kernel, rfl, by decide +kernel, by decide +kernel⟩
abbrev s_is_group : Stmt := topS 15
abbrev N_is_group : List Str := ["name"]
theorem sc_is_group : FnScope N_is_group ["name"] (defScope s_is_group) := ⟨rfl, rfl, rfl, by decide +kernel, rfl, by decide +kernel, by decide +kernel⟩
abbrev s_group : Stmt := topS 16
abbrev N_group : List Str := ["name"]
theorem sc_group : FnScope N_group ["name"] (defScope s_group) := ⟨rfl, rfl, rfl, by decide +kernel, rfl, by decide +kernel, by decide +kernel⟩
abbrev s__law_source : Stmt := topS 18
abbrev N__law_source : List Str := ["_law_script", "_law_great", "_law_seed", "_law_cell"]
theorem sc__law_source : FnScope N__law_source ["_law_script"] (defScope s__law_source) := ⟨rfl, rfl, rfl, by decide +kernel, rfl, by decide +kernel, by decide +kernel⟩
abbrev s__law_draw : Stmt := topS 19
abbrev N__law_draw : List Str := ["_law_source_here", "_law_many", "_law_digit", "_law_mixed"]
theorem sc__law_draw : FnScope N__law_draw ["_law_source_here", "_law_many"] (defScope s__law_draw) := ⟨rfl, rfl, rfl, by decide +kernel, rfl, by decide +kernel, by decide +kernel⟩
abbrev s__law_group_names : Stmt := topS 20
abbrev N__law_group_names : List Str := []
theorem sc__law_group_names : FnScope N__law_group_names [] (defScope s__law_group_names) := ⟨rfl, rfl, rfl, by decide +kernel, rfl, by decide +kernel, by decide +kernel⟩
abbrev s__law_tolerance : Stmt := topS 21
abbrev N__law_tolerance : List Str := ["_law_source_here"]
theorem sc__law_tolerance : FnScope N__law_tolerance ["_law_source_here"] (defScope s__law_tolerance) := ⟨rfl, rfl, rfl, by decide +kernel, rfl, by decide +kernel, by decide +kernel⟩
abbrev s_law : Stmt := topS 22
abbrev N_law : List Str := ["_law_script", "_law_source_here", "_law_tolerance_here", "_law_kept", "_law_turn", "_law_step", "_law_x", "_law_where", "_law_due", "_law_name"]
theorem sc_law : FnScope N_law ["_law_script"] (defScope s_law) := ⟨rfl, rfl, rfl, by decide +kernel, rfl, by decide +kernel, by decide +kernel⟩
/-- what the top has written: where each def stands, the names that are still built-in, the constants -/
structure Tx (w : World) (K : PySem.W.Frag) (mg : Str → Option Value) where
  a_is_number : Addr
  fd_is_number : FuncData
  F_is_number : Fun K "is_number" "is_number" s_is_number a_is_number fd_is_number
  b_is_number : Binds K fd_is_number ["value"] []
  g_is_number : mg "is_number" = some (.ref a_is_number)
  a_check_number : Addr
  fd_check_number : FuncData
  F_check_number : Fun K "check_number" "check_number" s_check_number a_check_number fd_check_number
  b_check_number : Binds K fd_check_number ["value"] []
  g_check_number : mg "check_number" = some (.ref a_check_number)
  a_check_tolerance : Addr
  fd_check_tolerance : FuncData
  F_check_tolerance : Fun K "check_tolerance" "check_tolerance" s_check_tolerance a_check_tolerance fd_check_tolerance
  b_check_tolerance : Binds K fd_check_tolerance ["value"] []
  g_check_tolerance : mg "check_tolerance" = some (.ref a_check_tolerance)
  a_sign_of : Addr
  fd_sign_of : FuncData
  F_sign_of : Fun K "sign_of" "sign_of" s_sign_of a_sign_of fd_sign_of
  b_sign_of : Binds K fd_sign_of ["first", "second"] []
  g_sign_of : mg "sign_of" = some (.ref a_sign_of)
  a_place_of : Addr
  fd_place_of : FuncData
  F_place_of : Fun K "place_of" "place_of" s_place_of a_place_of fd_place_of
  b_place_of : Binds K fd_place_of ["step", "sign"] []
  g_place_of : mg "place_of" = some (.ref a_place_of)
  a_place : Addr
  fd_place : FuncData
  F_place : Fun K "place" "place" s_place a_place fd_place
  b_place : Binds K fd_place ["x", "kept", "tolerance"] []
  g_place : mg "place" = some (.ref a_place)
  a_is_group : Addr
  fd_is_group : FuncData
  F_is_group : Fun K "is_group" "is_group" s_is_group a_is_group fd_is_group
  b_is_group : Binds K fd_is_group ["name"] []
  g_is_group : mg "is_group" = some (.ref a_is_group)
  a_group : Addr
  fd_group : FuncData
  F_group : Fun K "group" "group" s_group a_group fd_group
  b_group : Binds K fd_group ["name"] []
  g_group : mg "group" = some (.ref a_group)
  a__law_source : Addr
  fd__law_source : FuncData
  F__law_source : Fun K "_law_source" "_law_source" s__law_source a__law_source fd__law_source
  b__law_source : Binds K fd__law_source ["_law_script"] []
  g__law_source : mg "_law_source" = some (.ref a__law_source)
  a__law_draw : Addr
  fd__law_draw : FuncData
  F__law_draw : Fun K "_law_draw" "_law_draw" s__law_draw a__law_draw fd__law_draw
  b__law_draw : Binds K fd__law_draw ["_law_source_here", "_law_many"] []
  g__law_draw : mg "_law_draw" = some (.ref a__law_draw)
  a__law_group_names : Addr
  fd__law_group_names : FuncData
  F__law_group_names : Fun K "_law_group_names" "_law_group_names" s__law_group_names a__law_group_names fd__law_group_names
  b__law_group_names : Binds K fd__law_group_names [] []
  g__law_group_names : mg "_law_group_names" = some (.ref a__law_group_names)
  a__law_tolerance : Addr
  fd__law_tolerance : FuncData
  F__law_tolerance : Fun K "_law_tolerance" "_law_tolerance" s__law_tolerance a__law_tolerance fd__law_tolerance
  b__law_tolerance : Binds K fd__law_tolerance ["_law_source_here"] []
  g__law_tolerance : mg "_law_tolerance" = some (.ref a__law_tolerance)
  a_law : Addr
  fd_law : FuncData
  F_law : Fun K "law" "law" s_law a_law fd_law
  b_law : Binds K fd_law ["_law_script"] []
  g_law : mg "law" = some (.ref a_law)
  m_int : mg "int" = none
  m_bool : mg "bool" = none
  m_str : mg "str" = none
  m_range : mg "range" = none
  m_isinstance : mg "isinstance" = none
  m_abs : mg "abs" = none
  m_super : mg "super" = none
  m_ValueError : mg "ValueError" = none
  t_BOUND : Tok
  g_BOUND : mg "BOUND" = some (.int 1000000000000000000000000000000 t_BOUND)
  a_PLACES : Addr
  g_PLACES : mg "PLACES" = some (.ref a_PLACES)
  k_PLACES : ∃ o, K.lookup a_PLACES = some o ∧ o.cls = .type "tuple" ∧ o.dict = none
  p_PLACES : ∀ H : Hp, SqT K H a_PLACES [.str "below", .str "-<", .str "-=", .str "->", .str "<", .str "=", .str ">", .str "+<", .str "+=", .str "+>", .str "above"]
  a_LONG_GROUPS : Addr
  g_LONG_GROUPS : mg "LONG_GROUPS" = some (.ref a_LONG_GROUPS)
  a_LONG_GROUPS_any : Addr
  p_LONG_GROUPS_any : ∀ H : Hp, SqT K H a_LONG_GROUPS_any [.str "below", .str "-<", .str "-=", .str "->", .str "<", .str "=", .str ">", .str "+<", .str "+=", .str "+>", .str "above"]
  k_LONG_GROUPS_any : ∃ o, K.lookup a_LONG_GROUPS_any = some o ∧ o.cls = .type "tuple" ∧ o.dict = none
  a_LONG_GROUPS_near : Addr
  p_LONG_GROUPS_near : ∀ H : Hp, SqT K H a_LONG_GROUPS_near [.str "-=", .str "->", .str "<", .str "=", .str ">", .str "+<", .str "+="]
  k_LONG_GROUPS_near : ∃ o, K.lookup a_LONG_GROUPS_near = some o ∧ o.cls = .type "tuple" ∧ o.dict = none
  a_LONG_GROUPS_far : Addr
  p_LONG_GROUPS_far : ∀ H : Hp, SqT K H a_LONG_GROUPS_far [.str "below", .str "-<", .str "+>", .str "above"]
  k_LONG_GROUPS_far : ∃ o, K.lookup a_LONG_GROUPS_far = some o ∧ o.cls = .type "tuple" ∧ o.dict = none
  a_LONG_GROUPS_less : Addr
  p_LONG_GROUPS_less : ∀ H : Hp, SqT K H a_LONG_GROUPS_less [.str "below", .str "-<", .str "-=", .str "->", .str "<"]
  k_LONG_GROUPS_less : ∃ o, K.lookup a_LONG_GROUPS_less = some o ∧ o.cls = .type "tuple" ∧ o.dict = none
  a_LONG_GROUPS_more : Addr
  p_LONG_GROUPS_more : ∀ H : Hp, SqT K H a_LONG_GROUPS_more [.str ">", .str "+<", .str "+=", .str "+>", .str "above"]
  k_LONG_GROUPS_more : ∃ o, K.lookup a_LONG_GROUPS_more = some o ∧ o.cls = .type "tuple" ∧ o.dict = none
  a_LONG_GROUPS_under : Addr
  p_LONG_GROUPS_under : ∀ H : Hp, SqT K H a_LONG_GROUPS_under [.str "below", .str "-<"]
  k_LONG_GROUPS_under : ∃ o, K.lookup a_LONG_GROUPS_under = some o ∧ o.cls = .type "tuple" ∧ o.dict = none
  a_LONG_GROUPS_over : Addr
  p_LONG_GROUPS_over : ∀ H : Hp, SqT K H a_LONG_GROUPS_over [.str "+>", .str "above"]
  k_LONG_GROUPS_over : ∃ o, K.lookup a_LONG_GROUPS_over = some o ∧ o.cls = .type "tuple" ∧ o.dict = none
  a_LONG_GROUPS_cell : Addr
  p_LONG_GROUPS_cell : ∀ H : Hp, SqT K H a_LONG_GROUPS_cell [.str "<", .str "=", .str ">"]
  k_LONG_GROUPS_cell : ∃ o, K.lookup a_LONG_GROUPS_cell = some o ∧ o.cls = .type "tuple" ∧ o.dict = none
  a_LONG_GROUPS_none : Addr
  p_LONG_GROUPS_none : ∀ H : Hp, SqT K H a_LONG_GROUPS_none []
  k_LONG_GROUPS_none : ∃ o, K.lookup a_LONG_GROUPS_none = some o ∧ o.cls = .type "tuple" ∧ o.dict = none
  d_LONG_GROUPS : NL.KDt w K a_LONG_GROUPS [("any", .ref a_LONG_GROUPS_any), ("near", .ref a_LONG_GROUPS_near), ("far", .ref a_LONG_GROUPS_far), ("less", .ref a_LONG_GROUPS_less), ("more", .ref a_LONG_GROUPS_more), ("under", .ref a_LONG_GROUPS_under), ("over", .ref a_LONG_GROUPS_over), ("cell", .ref a_LONG_GROUPS_cell), ("none", .ref a_LONG_GROUPS_none)]
section
variable {P : Program} {w : World} {K : PySem.W.Frag} {mg : Str → Option Value} {base : Heap}
/-- is_number of an int -/
def sp_is_number : Sp := fun vs H Q _ => ∃ i : Int, vs = [.int i] ∧ Q (.bl (decide (-1000000000000000000000000000000 < i) && decide (i < 1000000000000000000000000000000))) H
theorem ok_is_number (T : Tx w K mg) : FnOk P w K mg base CX0 1 T.a_is_number T.fd_is_number ["value"] sp_is_number := by
  refine T.F_is_number.ok sc_is_number (fun vs H Q E h => ?_) (fun cdv A outer s H vs Q E hr h => ?_)
  · obtain ⟨i, rfl, _⟩ := h; rfl
  · obtain ⟨i, rfl, q⟩ := h
    refine ⟨_, ((pss_one (ps_ret (pe_and (pe_callB (call_isi) (by rfl) T.m_isinstance (by decide +kernel) (pa_cons (pv 0) (pa_cons (pe_bltn (v := .ty "int") (by rfl) T.m_int (by decide +kernel) rfl) pa_nil))) (pe_and (pe_not (pe_callB (call_isi) (by rfl) T.m_isinstance (by decide +kernel) (pa_cons (pv 0) (pa_cons (pe_bltn (v := .ty "bool") (by rfl) T.m_bool (by decide +kernel) rfl) pa_nil)))) (pe_one (pe_chain (op_lt) (op_lt) (pe_op op_sub pe_int (pe_glob (v := .int 1000000000000000000000000000000) rfl T.g_BOUND ⟨_, rfl⟩)) (pv 0) (pe_glob (v := .int 1000000000000000000000000000000) rfl T.g_BOUND ⟨_, rfl⟩)))))))), ?_⟩
    refine ⟨_, rfl, _, _, _, _, true, rfl, .ty _, (by walk_at "tyx"), kit_ty (by decide +kernel), _, rfl, ?_⟩
    refine ifT rfl ?_
    refine ⟨_, rfl, _, _, _, _, false, rfl, .ty _, (by walk_at "tyx"), kit_ty (by decide +kernel), _, rfl, _, rfl, ?_⟩
    refine ifT rfl ?_
    refine ⟨_, _, rfl, rfl, _, rfl, _, _, rfl, rfl, _, rfl, ?_⟩
    refine ifD (fun c => ?_) (fun c => ?_)
    · refine ⟨_, _, rfl, rfl, ?_⟩
      have e : decide (-1000000000000000000000000000000 < i) = true := decide_eq_true (by omega)
      rw [e] at q; exact q
    · have e : decide (-1000000000000000000000000000000 < i) = false := decide_eq_false (by omega)
      rw [e] at q; exact q
/-- check_number of a number -/
def sp_check_number : Sp := fun vs H Q _ => ∃ i : Int, vs = [.int i] ∧ -1000000000000000000000000000000 < i ∧ i < 1000000000000000000000000000000 ∧ Q .non H
theorem ok_check_number (T : Tx w K mg) : FnOk P w K mg base CX0 2 T.a_check_number T.fd_check_number ["value"] sp_check_number := by
  refine T.F_check_number.ok sc_check_number (fun vs H Q E h => ?_) (fun cdv A outer s H vs Q E hr h => ?_)
  · obtain ⟨i, rfl, _⟩ := h; rfl
  · obtain ⟨i, rfl, h1, h2, q⟩ := h
    refine ⟨_, ((pss_one (ps_if (pt_not (pt_val (pe_call (ok_is_number T) (hr.mono (by decide)) rfl T.g_is_number T.F_is_number.kp T.b_is_number .nil pass0 (pa_cons (pv 0) pa_nil)))) (pss_one ps_never) pss_nil))), ?_⟩
    refine ⟨_, rfl, i, rfl, _, rfl, ?_⟩
    rw [decide_eq_true h1, decide_eq_true h2]
    exact ifF rfl q
/-- check_tolerance of a tolerance -/
def sp_check_tolerance : Sp := fun vs H Q _ => ∃ i : Int, vs = [.int i] ∧ 1 ≤ i ∧ i < 1000000000000000000000000000000 ∧ Q .non H
theorem ok_check_tolerance (T : Tx w K mg) : FnOk P w K mg base CX0 2 T.a_check_tolerance T.fd_check_tolerance ["value"] sp_check_tolerance := by
  refine T.F_check_tolerance.ok sc_check_tolerance (fun vs H Q E h => ?_) (fun cdv A outer s H vs Q E hr h => ?_)
  · obtain ⟨i, rfl, _⟩ := h; rfl
  · obtain ⟨i, rfl, h1, h2, q⟩ := h
    refine ⟨_, ((pss_one (ps_if (PW.pt (pw_or (pt_not (pt_val (pe_call (ok_is_number T) (hr.mono (by decide)) rfl T.g_is_number T.F_is_number.kp T.b_is_number .nil pass0 (pa_cons (pv 0) pa_nil)))) (pw_or1 (pt_cmpR (op_lt) (pv 0) pe_int (nomark _))))) (pss_one ps_never) pss_nil))), ?_⟩
    refine ⟨_, rfl, i, rfl, _, rfl, ?_⟩
    rw [decide_eq_true (show -1000000000000000000000000000000 < i by omega), decide_eq_true h2]
    refine ifF rfl ?_
    refine ⟨_, rfl, _, _, rfl, rfl, _, rfl, ?_⟩
    exact ifF (decide_eq_false (by omega)) q
def sp_sign_of : Sp := fun vs H Q _ => ∃ i j : Int, vs = [.int i, .int j] ∧ Q (.str (NL.signS i j)) H
theorem ok_sign_of (T : Tx w K mg) : FnOk P w K mg base CX0 1 T.a_sign_of T.fd_sign_of ["first", "second"] sp_sign_of := by
  refine T.F_sign_of.ok sc_sign_of (fun vs H Q E h => ?_) (fun cdv A outer s H vs Q E hr h => ?_)
  · obtain ⟨i, j, rfl, _⟩ := h; rfl
  · obtain ⟨i, j, rfl, q⟩ := h
    refine ⟨_, ((pss_cons (ps_if (pt_cmpR (op_eq) (pv 0) (pv 1) (nomark _)) (pss_one (ps_ret pe_str)) pss_nil)
      (pss_one (ps_ret (pe_ifExp (pt_cmpR (op_lt) (pv 0) (pv 1) (nomark _)) pe_str pe_str))))), ?_⟩
    unfold NL.signS at q
    refine ⟨_, rfl, _, rfl, rfl, _, rfl, ?_⟩
    refine ifD (fun c => ?_) (fun c => ?_)
    · have c : i = j := by injection c
      rw [if_pos c] at q; exact q
    · have c : ¬ i = j := fun e => c (by rw [e])
      rw [if_neg c] at q
      refine ⟨_, rfl, _, rfl, _, _, rfl, rfl, _, rfl, ?_⟩
      refine ifD (fun c => ?_) (fun c => ?_)
      · rw [if_pos c] at q; exact q
      · rw [if_neg c] at q; exact q
def sp_place_of : Sp := fun vs H Q _ => ∃ (d : Int) (z : Str), vs = [.int d, .str z] ∧ z.length ≤ 1000 ∧ Q (.str (NL.placeOfS d z)) H
theorem ok_place_of (T : Tx w K mg) : FnOk P w K mg base CX0 1 T.a_place_of T.fd_place_of ["step", "sign"] sp_place_of := by
  refine T.F_place_of.ok sc_place_of (fun vs H Q E h => ?_) (fun cdv A outer s H vs Q E hr h => ?_)
  · obtain ⟨i, j, rfl, _⟩ := h; rfl
  · obtain ⟨d, z, rfl, hz, q⟩ := h
    refine ⟨_, ((pss_cons (ps_if (pt_cmpR (op_lt) (pv 0) (pe_un un_neg pe_int) (nomark _)) (pss_one (ps_ret pe_str)) pss_nil)
      (pss_cons (ps_if (pt_cmpR (op_gt) (pv 0) pe_int (nomark _)) (pss_one (ps_ret pe_str)) pss_nil)
      (pss_one (ps_ret (pe_op op_add_str (pe_ifExp (pt_cmpR (op_eq) (pv 0) (pe_un un_neg pe_int) (nomark _)) pe_str (pe_ifExp (pt_cmpR (op_eq) (pv 0) pe_int (nomark _)) pe_str pe_str)) (pv 1))))))), ?_⟩
    unfold NL.placeOfS at q
    refine ⟨_, rfl, _, rfl, _, _, rfl, rfl, _, rfl, ?_⟩
    refine ifD (fun c => ?_) (fun c => ?_)
    · rw [if_pos c] at q; exact q
    rw [if_neg c] at q
    refine ⟨_, rfl, _, _, rfl, rfl, _, rfl, ?_⟩
    refine ifD (fun c => ?_) (fun c => ?_)
    · rw [if_pos c] at q; exact q
    rw [if_neg c] at q
    refine ⟨_, rfl, _, rfl, rfl, _, rfl, ?_⟩
    refine ifD (fun c => ?_) (fun c => ?_)
    · have c : d = -1 := by injection c
      rw [if_pos c] at q
      exact ⟨_, rfl, _, _, rfl, rfl, sz100k (by show 1 + _ ≤ _; omega), q⟩
    · have c : ¬ d = -1 := fun e => c (by rw [e])
      rw [if_neg c] at q
      refine ⟨_, rfl, rfl, _, rfl, ?_⟩
      refine ifD (fun c => ?_) (fun c => ?_)
      · have c : d = 1 := by injection c
        rw [if_pos c] at q
        exact ⟨_, rfl, _, _, rfl, rfl, sz100k (by show 1 + _ ≤ _; omega), q⟩
      · have c : ¬ d = 1 := fun e => c (by rw [e])
        rw [if_neg c] at q
        exact ⟨_, rfl, _, _, rfl, rfl, sz100k (by show 0 + _ ≤ _; omega), q⟩
/-- place of numbers, with a tolerance -/
def sp_place : Sp := fun vs H Q _ => ∃ x k e : Int, vs = [.int x, .int k, .int e] ∧ (-1000000000000000000000000000000 < x ∧ x < 1000000000000000000000000000000) ∧ (-1000000000000000000000000000000 < k ∧ k < 1000000000000000000000000000000) ∧ (1 ≤ e ∧ e < 1000000000000000000000000000000) ∧ Q (.str (NL.placeS x k e)) H
theorem ok_place (T : Tx w K mg) : FnOk P w K mg base CX0 3 T.a_place T.fd_place ["x", "kept", "tolerance"] sp_place := by
  refine T.F_place.ok sc_place (fun vs H Q E h => ?_) (fun cdv A outer s H vs Q E hr h => ?_)
  · obtain ⟨x, k, e, rfl, _⟩ := h; rfl
  · obtain ⟨x, k, e, rfl, ⟨x1, x2⟩, ⟨k1, k2⟩, ⟨e1, e2⟩, q⟩ := h
    refine ⟨_, ((pss_cons (ps_expr (pe_call (ok_check_number T) (hr.mono (by decide)) rfl T.g_check_number T.F_check_number.kp T.b_check_number .nil pass0 (pa_cons (pv 0) pa_nil)))
      (pss_cons (ps_expr (pe_call (ok_check_number T) (hr.mono (by decide)) rfl T.g_check_number T.F_check_number.kp T.b_check_number .nil pass0 (pa_cons (pv 1) pa_nil)))
      (pss_cons (ps_expr (pe_call (ok_check_tolerance T) (hr.mono (by decide)) rfl T.g_check_tolerance T.F_check_tolerance.kp T.b_check_tolerance .nil pass0 (pa_cons (pv 2) pa_nil)))
      (pss_one (ps_ret (pe_call (ok_place_of T) (hr.mono (by decide)) rfl T.g_place_of T.F_place_of.kp T.b_place_of .nil pass0 (pa_cons (pe_op op_sub (pe_op op_fdivW (pv 0) (pv 2)) (pe_op op_fdivW (pv 1) (pv 2))) (pa_cons (pe_call (ok_sign_of T) (hr.mono (by decide)) rfl T.g_sign_of T.F_sign_of.kp T.b_sign_of .nil pass0 (pa_cons (pe_op op_mod (pv 0) (pv 2)) (pa_cons (pe_op op_mod (pv 1) (pv 2)) pa_nil))) pa_nil))))))))), ?_⟩
    refine ⟨_, rfl, _, rfl, x1, x2, ?_⟩
    refine ⟨_, rfl, _, rfl, k1, k2, ?_⟩
    refine ⟨_, rfl, _, rfl, e1, e2, ?_⟩
    have hd : ∀ z : Int, CDivW z e := fun z => wide_div (b := 100) (by omega) (by omega) (by decide) (by decide)
    have hp : (0 : Int) < e := by omega
    refine ⟨_, rfl, _, rfl, _, _, rfl, rfl, hd _, _, rfl, _, rfl, _, _, rfl, rfl, hd _, _, _, rfl, rfl, _, rfl, _, rfl, _, _, rfl, rfl, hp, _, rfl, _, rfl, _, _, rfl, rfl, hp, ?_⟩
    exact ⟨_, _, rfl, _, _, rfl, NL.signS_len _ _, q⟩
/-- the module's table of long groups, as it stands -/
theorem lg_pairs (T : Tx w K mg) : Paired (fun (p : Str × V) (q : Str × List Str) => p.1 = q.1 ∧ ∃ a, p.2 = .ref a ∧ ∀ H, SqT K H a (q.2.map V.str))
    [("any", .ref T.a_LONG_GROUPS_any), ("near", .ref T.a_LONG_GROUPS_near), ("far", .ref T.a_LONG_GROUPS_far), ("less", .ref T.a_LONG_GROUPS_less), ("more", .ref T.a_LONG_GROUPS_more), ("under", .ref T.a_LONG_GROUPS_under), ("over", .ref T.a_LONG_GROUPS_over), ("cell", .ref T.a_LONG_GROUPS_cell), ("none", .ref T.a_LONG_GROUPS_none)] LG :=
  .cons ⟨rfl, _, rfl, T.p_LONG_GROUPS_any⟩ (.cons ⟨rfl, _, rfl, T.p_LONG_GROUPS_near⟩ (.cons ⟨rfl, _, rfl, T.p_LONG_GROUPS_far⟩ (.cons ⟨rfl, _, rfl, T.p_LONG_GROUPS_less⟩ (.cons ⟨rfl, _, rfl, T.p_LONG_GROUPS_more⟩ (.cons ⟨rfl, _, rfl, T.p_LONG_GROUPS_under⟩ (.cons ⟨rfl, _, rfl, T.p_LONG_GROUPS_over⟩ (.cons ⟨rfl, _, rfl, T.p_LONG_GROUPS_cell⟩ (.cons ⟨rfl, _, rfl, T.p_LONG_GROUPS_none⟩ .nil))))))))
/-- is_group of a text -/
def sp_is_group : Sp := fun vs H Q _ => ∃ z : Str, vs = [.str z] ∧ Q (.bl (isGroupB z)) H
theorem ok_is_group (T : Tx w K mg) : FnOk P w K mg base CX0 1 T.a_is_group T.fd_is_group ["name"] sp_is_group := by
  refine T.F_is_group.ok sc_is_group (fun vs H Q E h => ?_) (fun cdv A outer s H vs Q E hr h => ?_)
  · obtain ⟨z, rfl, _⟩ := h; rfl
  · obtain ⟨z, rfl, q⟩ := h
    refine ⟨_, ((pss_one (ps_ret (pe_and (pe_callB (call_isi) (by rfl) T.m_isinstance (by decide +kernel) (pa_cons (pv 0) (pa_cons (pe_bltn (v := .ty "str") (by rfl) T.m_str (by decide +kernel) rfl) pa_nil))) (pe_one (pe_or (pe_cmpR (op_in_seq) (pv 0) (pe_glob (v := .ref T.a_PLACES) rfl T.g_PLACES rfl) (by rfl)) (pe_one (pe_cmpR (op_inKD) (pv 0) (pe_glob (v := .ref T.a_LONG_GROUPS) rfl T.g_LONG_GROUPS rfl) (by rfl))))))))), ?_⟩
    unfold isGroupB at q
    refine ⟨_, rfl, _, _, _, _, true, rfl, .ty _, (by walk_at "tyx"), kit_ty (by decide +kernel), _, rfl, ?_⟩
    refine ifT rfl ?_
    refine ⟨_, rfl, _, _, rfl, .inr (T.p_PLACES _), rfl, flats_str PL, _, rfl, ?_⟩
    refine ifB _ (fun c => ?_) (fun c => ?_)
    · have c : inV (.str z) (PL.map V.str) = true := c
      rw [inV_strs] at c
      rw [c] at q; exact q
    · have c : inV (.str z) (PL.map V.str) = false := c
      rw [inV_strs] at c
      rw [c, Bool.false_or] at q
      refine ⟨_, rfl, _, _, _, rfl, rfl, T.d_LONG_GROUPS, ?_⟩
      rw [(lookup_paired (lg_pairs T)).1]; exact q
/-- group of the name of a group -/
def sp_group (K : PySem.W.Frag) : Sp := fun vs H Q _ => ∃ z : Str, vs = [.str z] ∧ isGroupB z = true ∧ ∀ (a : Addr) (H' : Hp), Same H H' → SqT K H' a ((groupS z).map V.str) → Q (.ref a) H'
theorem ok_group (T : Tx w K mg) : FnOk P w K mg base CX0 2 T.a_group T.fd_group ["name"] (sp_group K) := by
  refine T.F_group.ok sc_group (fun vs H Q E h => ?_) (fun cdv A outer s H vs Q E hr h => ?_)
  · obtain ⟨z, rfl, _⟩ := h; rfl
  · obtain ⟨z, rfl, hz, q⟩ := h
    refine ⟨_, ((pss_cons (ps_if (pt_not (pt_val (pe_call (ok_is_group T) (hr.mono (by decide)) rfl T.g_is_group T.F_is_group.kp T.b_is_group .nil pass0 (pa_cons (pv 0) pa_nil)))) (pss_one ps_never) pss_nil)
      (pss_one (ps_ret (pe_ifExp (pt_cmpR (op_in_seq) (pv 0) (pe_glob (v := .ref T.a_PLACES) rfl T.g_PLACES rfl) (by rfl)) (pe_tup (pa_cons (pv 0) pa_nil)) (pe_ix ix_KD (pe_glob (v := .ref T.a_LONG_GROUPS) rfl T.g_LONG_GROUPS rfl) (pv 0) (fun _ _ => rfl))))))), ?_⟩
    refine ⟨_, rfl, z, rfl, _, rfl, ?_⟩
    refine ifF (by rw [hz]; rfl) ?_
    refine ⟨_, rfl, _, _, rfl, .inr (T.p_PLACES _), rfl, flats_str PL, _, rfl, ?_⟩
    refine ifB _ (fun c => ?_) (fun c => ?_)
    · have c : inV (.str z) (PL.map V.str) = true := c
      rw [inV_strs] at c
      have hm := of_decide_eq_true c
      refine ⟨_, rfl, (by walk_at "len"), fun p np => ?_⟩
      refine q p _ (same_new np) ?_
      unfold groupS
      rw [if_pos hm]; exact SqT.of upd_same
    · have c : inV (.str z) (PL.map V.str) = false := c
      rw [inV_strs] at c
      have hm := of_decide_eq_false c
      have hl : ∃ ys, LG.lookup z = some ys := by
        unfold isGroupB at hz
        rw [c, Bool.false_or] at hz
        exact Option.isSome_iff_exists.mp hz
      obtain ⟨ys, hl⟩ := hl
      obtain ⟨a, ha, hs⟩ := (lookup_paired (lg_pairs T)).2 ys hl
      refine ⟨_, rfl, _, _, _, _, rfl, rfl, T.d_LONG_GROUPS, ha, ?_⟩
      refine q a H (Same.refl _) ?_
      unfold groupS
      rw [if_neg hm, hl]; exact hs H
/-- the source that a script makes -/
def sp__law_source (K : PySem.W.Frag) : Sp := fun vs H Q _ => ∃ (a : Addr) (ns : List Int), vs = [.ref a] ∧ SqL K H a (ns.map V.int) ∧
  ∀ (H' : Hp) (p : Addr), Same H H' → H p = none → Src H' p 0 → Q (.ref p) H'
theorem ok__law_source (T : Tx w K mg) : FnOk P w K mg base CX0 1 T.a__law_source T.fd__law_source ["_law_script"] (sp__law_source K) := by
  refine T.F__law_source.ok sc__law_source (fun vs H Q E h => ?_) (fun cdv A outer s H vs Q E hr h => ?_)
  · obtain ⟨a, ns, rfl, _⟩ := h; rfl
  · obtain ⟨a, ns, rfl, hS, q⟩ := h
    refine ⟨_, ((pss_cons (ps_asg (pe_tup (pa_cons pe_int (pa_cons pe_int pa_nil))) (pg_tup (by rfl) (pgs_cons (pg_name (i := 1) sc__law_source.nd rfl (by first | exact Or.inl rfl | exact Or.inr rfl)) (pgs_cons (pg_name (i := 2) sc__law_source.nd rfl (by first | exact Or.inl rfl | exact Or.inr rfl)) pgs_nil))))
      (pss_cons (ps_for PassesOwn.never rfl (pi_list (pv 0)) (pg_name (i := 3) sc__law_source.nd rfl (by first | exact Or.inl rfl | exact Or.inr rfl))
        (pss_cons (ps_if (PW.pt (pw_and (pt_cmpR (op_eq) (pv 1) pe_int (nomark _)) (pw_and1 (pt_cmpR (op_ge) (pv 3) (pe_op op_pow pe_int pe_int) (nomark _))))) (pss_one (ps_set (i := 1) sc__law_source.nd rfl (by first | exact Or.inl rfl | exact Or.inr rfl) (pv 3))) pss_nil)
      (pss_one (ps_set (i := 2) sc__law_source.nd rfl (by first | exact Or.inl rfl | exact Or.inr rfl) (pe_op op_mod (pe_callTy (call_int1) (by rfl) T.m_int (by decide +kernel) (pa_cons (pe_op op_add (pe_op op_add (pe_op op_mul (pv 2) pe_int) (pv 3)) pe_int) pa_nil)) pe_int)))))
      (pss_one (ps_ret (pe_lst (pa_cons (pv 1) (pa_cons (pv 2) (pa_cons pe_int pa_nil))))))))), ?_⟩
    refine ⟨(by walk_at "len"), fun t nt => ?_⟩
    refine ⟨_, _, rfl, SqT.of upd_same, rfl, _, _, rfl, _, _, rfl, rfl, ?_⟩
    have sm : Same H _ := same_new (o := .tup [.int 0, .int 17]) nt
    have hS := sm.seq hS
    generalize upd H t (.tup [.int 0, .int 17]) = H1 at *
    refine ⟨_, rfl, _, rfl, ⟨_, hS⟩, for_list (K := K) (a := a) (xs := ns.map V.int) (fun i σ H' => ∃ (g z : Int) (c : Option V), σ = [some (.ref a), some (.int g), some (.int z), c] ∧ H' = H1 ∧ 0 ≤ z ∧ z < 2147483647)
      ⟨0, 17, none, rfl, rfl, by decide, by decide⟩ ?_ ?_ ?_⟩
    · rintro i σ H' _ ⟨g, z, c, rfl, rfl, _⟩; exact hS
    · rintro i x σ H' hx ⟨g, z, c, rfl, rfl, z1, z2⟩
      obtain ⟨n, rfl⟩ : ∃ n, x = V.int n := by
        rw [List.getElem?_map] at hx
        cases e : ns[i]? with
        | none => rw [e] at hx; cases hx
        | some n => rw [e] at hx; exact ⟨n, (Option.some.inj hx).symm⟩
      refine ⟨_, rfl, rfl, _, rfl, ?_⟩
      refine ifD (fun c => ?_) (fun c => ?_)
      · refine ⟨_, rfl, _, _, rfl, rfl, (by walk_at "pow"), _, _, rfl, rfl, _, rfl, ?_⟩
        refine ifD (fun c => ?_) (fun c => ?_)
        · refine ⟨_, rfl, ?_⟩
          refine ⟨_, rfl, _, _, rfl, rfl, (by walk_at "mul"), _, rfl, _, _, rfl, rfl, _, _, rfl, rfl, .inl ⟨_, rfl, ?_⟩⟩
          refine ⟨_, _, rfl, rfl, (by walk_at "pos"), ?_⟩
          exact ⟨_, _, _, rfl, rfl, Int.emod_nonneg _ (by decide), Int.emod_lt_of_pos _ (by decide)⟩
        · refine ⟨_, rfl, _, _, rfl, rfl, (by walk_at "mul"), _, rfl, _, _, rfl, rfl, _, _, rfl, rfl, .inl ⟨_, rfl, ?_⟩⟩
          refine ⟨_, _, rfl, rfl, (by walk_at "pos"), ?_⟩
          exact ⟨_, _, _, rfl, rfl, Int.emod_nonneg _ (by decide), Int.emod_lt_of_pos _ (by decide)⟩
      · refine ifF rfl ?_
        refine ⟨_, rfl, _, _, rfl, rfl, (by walk_at "mul"), _, rfl, _, _, rfl, rfl, _, _, rfl, rfl, .inl ⟨_, rfl, ?_⟩⟩
        refine ⟨_, _, rfl, rfl, (by walk_at "pos"), ?_⟩
        exact ⟨_, _, _, rfl, rfl, Int.emod_nonneg _ (by decide), Int.emod_lt_of_pos _ (by decide)⟩
    · rintro σ H' ⟨g, z, c, rfl, rfl, z1, z2⟩
      refine ⟨_, rfl, _, rfl, (by walk_at "len"), fun p np => ?_⟩
      exact q _ p (sm.trans (same_new np)) (sm.free np) ⟨g, z, upd_same, z1, z2, by decide⟩
/-- one draw: any number below many; the source goes on -/
def sp__law_draw : Sp := fun vs H Q _ => ∃ (p : Addr) (c m : Int), vs = [.ref p, .int m] ∧ Src H p c ∧ c ≤ 1000000 ∧ 0 < m ∧ m < 1073741824 ∧
  ∀ (r : Int) (H' : Hp), 0 ≤ r → r < m → But p H H' → Src H' p (c + 1) → Q (.int r) H'
theorem ok__law_draw (T : Tx w K mg) : FnOk P w K mg base CX0 1 T.a__law_draw T.fd__law_draw ["_law_source_here", "_law_many"] sp__law_draw := by
  refine T.F__law_draw.ok sc__law_draw (fun vs H Q E h => ?_) (fun cdv A outer s H vs Q E hr h => ?_)
  · obtain ⟨p, c, m, rfl, _⟩ := h; rfl
  · obtain ⟨p, c, m, rfl, ⟨g, z, hp, z1, z2, c1⟩, c2, m1, m2, q⟩ := h
    refine ⟨_, ((pss_cons (ps_asg (pe_op op_add (pe_ix ix_list (pv 0) pe_int (fun _ _ => rfl)) pe_int) (pg_sub (pv 0) pe_int set_list))
      (pss_cons (ps_if (pt_cmpR (op_gt) (pe_ix ix_list (pv 0) pe_int (fun _ _ => rfl)) pe_int (nomark _)) (pss_cons (ps_set (i := 2) sc__law_draw.nd rfl (by first | exact Or.inl rfl | exact Or.inr rfl) (pe_op op_mod (pe_callTy (call_int1) (by rfl) T.m_int (by decide +kernel) (pa_cons (pe_ix ix_list (pv 0) pe_int (fun _ _ => rfl)) pa_nil)) (pv 1)))
      (pss_cons (ps_asg (pe_op op_fdivW (pe_ix ix_list (pv 0) pe_int (fun _ _ => rfl)) (pv 1)) (pg_sub (pv 0) pe_int set_list))
      (pss_one (ps_ret (pv 2))))) pss_nil)
      (pss_cons (ps_set (i := 3) sc__law_draw.nd rfl (by first | exact Or.inl rfl | exact Or.inr rfl) (pe_op op_mod (pe_op op_pow (pe_op op_add (pe_ix ix_list (pv 0) pe_int (fun _ _ => rfl)) (pe_op op_mul pe_int (pe_ix ix_list (pv 0) pe_int (fun _ _ => rfl)))) pe_int) pe_int))
      (pss_one (ps_ret (pe_op op_mod (pe_op op_mod (pe_op op_pow (pe_op op_add (pe_op op_add (pe_op op_mul (pv 3) pe_int) (pe_op op_mul (pe_op op_mul pe_int (pe_ix ix_list (pv 0) pe_int (fun _ _ => rfl))) (pe_ix ix_list (pv 0) pe_int (fun _ _ => rfl)))) pe_int) pe_int) pe_int) (pv 1)))))))), ?_⟩
    refine ⟨_, rfl, _, _, _, _, rfl, rfl, (by walk_at "sq"), (by walk_at "at"), _, _, rfl, rfl, _, rfl, _, _, _, _, rfl, rfl, (by walk_at "hp"), (by walk_at "ixN"), ?_⟩
    refine ⟨_, rfl, _, _, _, _, rfl, rfl, (by walk_at "sq"), (by walk_at "at"), _, _, rfl, rfl, _, rfl, ?_⟩
    refine ifD (fun d => ?_) (fun d => ?_)
    · refine ⟨_, rfl, _, _, _, _, rfl, rfl, (by walk_at "sq"), (by walk_at "at"), .inl ⟨_, rfl, ?_⟩⟩
      refine ⟨_, rfl, _, _, rfl, rfl, (by walk_at "pos"), ?_⟩
      refine ⟨_, rfl, _, _, _, _, rfl, rfl, (by walk_at "sq"), (by walk_at "at"), _, rfl, _, _, rfl, rfl, (by walk_at "div"), _, rfl, _, _, _, _, rfl, rfl, (by walk_at "hp"), (by walk_at "ixN"), ?_⟩
      refine ⟨_, rfl, ?_⟩
      rw [L2.upd_upd]
      exact q _ _ (Int.emod_nonneg _ (by omega)) (Int.emod_lt_of_pos _ (by omega)) But.refl.upd ⟨_, z, upd_same, z1, z2, by omega⟩
    · refine ⟨_, rfl, _, _, _, _, rfl, rfl, (by walk_at "sq"), (by walk_at "at"), _, rfl, _, _, _, _, rfl, rfl, (by walk_at "sq"), (by walk_at "at"), _, _, rfl, rfl, (by walk_at "mul"), _, _, rfl, rfl, _, _, rfl, rfl, ⟨by decide, by decide, by omega⟩, _, _, rfl, rfl, (by walk_at "pos"), ?_⟩
      have hy : ∀ x : Int, 0 ≤ x % 2147483629 ∧ x % 2147483629 < 2147483629 := fun x => ⟨Int.emod_nonneg _ (by decide), Int.emod_lt_of_pos _ (by decide)⟩
      obtain ⟨y1, y2⟩ := hy ((z + 7919 * (c + 1)) ^ (5 : Int).toNat)
      generalize (z + 7919 * (c + 1)) ^ (5 : Int).toNat % 2147483629 = y at *
      have h1 : 16807 * (c + 1) * (c + 1) ≤ 16807 * 1000001 * 1000001 := Int.mul_le_mul (by omega) (by omega) (by omega) (by decide)
      have h0 : 0 ≤ 16807 * (c + 1) * (c + 1) := Int.mul_nonneg (by omega) (by omega)
      refine ⟨_, rfl, _, _, rfl, rfl, (by walk_at "mul"), _, rfl, _, _, _, _, rfl, rfl, (by walk_at "sq"), (by walk_at "at"), _, _, rfl, rfl, (by walk_at "mul"), _, rfl, _, _, _, _, rfl, rfl, (by walk_at "sq"), (by walk_at "at"), _, _, rfl, rfl, (by walk_at "mul"), _, _, rfl, rfl, _, _, rfl, rfl, _, _, rfl, rfl, ⟨by decide, by decide, by omega⟩, _, _, rfl, rfl, (by walk_at "pos"), _, rfl, _, _, rfl, rfl, (by walk_at "pos"), ?_⟩
      exact q _ _ (Int.emod_nonneg _ (by omega)) (Int.emod_lt_of_pos _ (by omega)) But.refl.upd ⟨_, z, upd_same, z1, z2, by omega⟩
def sp__law_group_names : Sp := fun vs H Q _ => vs = [] ∧ ∀ p, H p = none → Q (.ref p) (upd H p (.lst (GN.map V.str)))
theorem ok__law_group_names (T : Tx w K mg) : FnOk P w K mg base CX0 1 T.a__law_group_names T.fd__law_group_names [] sp__law_group_names := by
  refine T.F__law_group_names.ok sc__law_group_names (fun vs H Q E h => ?_) (fun cdv A outer s H vs Q E hr h => ?_)
  · obtain ⟨rfl, _⟩ := h; rfl
  · obtain ⟨rfl, q⟩ := h
    refine ⟨_, ((pss_one (ps_ret (pe_lst (pa_cons pe_str (pa_cons pe_str (pa_cons pe_str (pa_cons pe_str (pa_cons pe_str (pa_cons pe_str (pa_cons pe_str (pa_cons pe_str (pa_cons pe_str pa_nil))))))))))))), ?_⟩
    exact ⟨(by walk_at "len"), fun p np => q p np⟩
def sp__law_tolerance : Sp := fun vs H Q _ => ∃ (p : Addr) (c : Int), vs = [.ref p] ∧ Src H p c ∧ c ≤ 1000000 ∧
  ∀ (e : Int) (H' : Hp), e ∈ ([1, 2, 3, 4, 5, 7, 10, 1000000] : List Int) → But p H H' → Src H' p (c + 1) → Q (.int e) H'
theorem ok__law_tolerance (T : Tx w K mg) : FnOk P w K mg base CX0 2 T.a__law_tolerance T.fd__law_tolerance ["_law_source_here"] sp__law_tolerance := by
  refine T.F__law_tolerance.ok sc__law_tolerance (fun vs H Q E h => ?_) (fun cdv A outer s H vs Q E hr h => ?_)
  · obtain ⟨p, c, rfl, _⟩ := h; rfl
  · obtain ⟨p, c, rfl, hS, hc, q⟩ := h
    refine ⟨_, ((pss_one (ps_ret (pe_ix ix_list (pe_lst (pa_cons pe_int (pa_cons pe_int (pa_cons pe_int (pa_cons pe_int (pa_cons pe_int (pa_cons pe_int (pa_cons pe_int (pa_cons (pe_op op_pow pe_int pe_int) pa_nil))))))))) (pe_call (ok__law_draw T) (hr.mono (by decide)) rfl T.g__law_draw T.F__law_draw.kp T.b__law_draw .nil pass0 (pa_cons (pv 0) (pa_cons pe_int pa_nil))) (fun _ _ => rfl))))), ?_⟩
    refine ⟨_, _, rfl, rfl, (by walk_at "pow"), (by walk_at "len"), fun l nl => ?_⟩
    have ne := hS.ne nl
    refine ⟨_, rfl, ?_⟩
    refine ⟨_, _, _, rfl, hS.keep nl, hc, by decide, by decide, fun r H1 r0 r8 bt hS1 => ?_⟩
    have hl := bt l _ ne upd_same
    obtain ⟨v, hv, hm⟩ := atI_mem (xs := ([1, 2, 3, 4, 5, 7, 10, 1000000] : List Int).map V.int) r0 r8
    obtain ⟨e, he, rfl⟩ := List.mem_map.mp hm
    refine ⟨_, _, _, _, rfl, rfl, SqL.of hl, hv, ?_⟩
    exact q e H1 he ((But.refl.new nl).trans bt) hS1
def sp_law (K : PySem.W.Frag) : Sp := fun vs H Q _ => ∃ (a : Addr) (ns : List Int), vs = [.ref a] ∧ SqL K H a (ns.map V.int) ∧ ns.length ≤ 63 ∧ ∀ H', Q (.bl true) H'
theorem ok_law (T : Tx w K mg) : FnOk P w K mg base CX0 4 T.a_law T.fd_law ["_law_script"] (sp_law K) := by
  refine T.F_law.ok sc_law (fun vs H Q E h => ?_) (fun cdv A outer s H vs Q E hr h => ?_)
  · obtain ⟨p, c, rfl, _⟩ := h; rfl
  · obtain ⟨a, ns, rfl, hS, hlen, q⟩ := h
    have hu := hu_of hr
    refine ⟨_, ((pss_cons (ps_set (i := 1) sc_law.nd rfl (by first | exact Or.inl rfl | exact Or.inr rfl) (pe_call (ok__law_source T) (hr.mono (by decide)) rfl T.g__law_source T.F__law_source.kp T.b__law_source .nil pass0 (pa_cons (pv 0) pa_nil)))
      (pss_cons (ps_set (i := 2) sc_law.nd rfl (by first | exact Or.inl rfl | exact Or.inr rfl) (pe_call (ok__law_tolerance T) (hr.mono (by decide)) rfl T.g__law_tolerance T.F__law_tolerance.kp T.b__law_tolerance .nil pass0 (pa_cons (pv 1) pa_nil)))
      (pss_cons (ps_set (i := 3) sc_law.nd rfl (by first | exact Or.inl rfl | exact Or.inr rfl) (pe_op op_add (pe_op op_mul (pe_op op_sub (pe_call (ok__law_draw T) (hr.mono (by decide)) rfl T.g__law_draw T.F__law_draw.kp T.b__law_draw .nil pass0 (pa_cons (pv 1) (pa_cons pe_int pa_nil))) pe_int) (pv 2)) (pe_call (ok__law_draw T) (hr.mono (by decide)) rfl T.g__law_draw T.F__law_draw.kp T.b__law_draw .nil pass0 (pa_cons (pv 1) (pa_cons (pv 2) pa_nil)))))
      (pss_cons (ps_for PassesOwn.never rfl (pi_range1 rfl T.m_range (pa_cons pe_int pa_nil)) (pg_name (i := 4) sc_law.nd rfl (by first | exact Or.inl rfl | exact Or.inr rfl))
        (pss_cons (ps_set (i := 5) sc_law.nd rfl (by first | exact Or.inl rfl | exact Or.inr rfl) (pe_op op_sub (pe_call (ok__law_draw T) (hr.mono (by decide)) rfl T.g__law_draw T.F__law_draw.kp T.b__law_draw .nil pass0 (pa_cons (pv 1) (pa_cons (pe_op op_add (pe_op op_mul pe_int (pv 2)) pe_int) pa_nil))) (pv 2)))
      (Evl.pss_cut (ps_set (i := 6) sc_law.nd rfl (by first | exact Or.inl rfl | exact Or.inr rfl) (pe_op op_add (pe_op op_add (pv 3) (pe_op op_mul (pe_op op_sub (pe_call (ok__law_draw T) (hr.mono (by decide)) rfl T.g__law_draw T.F__law_draw.kp T.b__law_draw .nil pass0 (pa_cons (pv 1) (pa_cons pe_int pa_nil))) pe_int) (pv 2))) (pv 5)))
      (pss_cons (ps_set (i := 7) sc_law.nd rfl (by first | exact Or.inl rfl | exact Or.inr rfl) (pe_call (ok_place T) (hr.mono (by decide)) rfl T.g_place T.F_place.kp T.b_place .nil pass0 (pa_cons (pv 6) (pa_cons (pv 3) (pa_cons (pv 2) pa_nil)))))
      (pss_cons (ps_set (i := 8) sc_law.nd rfl (by first | exact Or.inl rfl | exact Or.inr rfl) (pe_disp (pps_cons pe_str pe_bl (pps_cons pe_str pe_bl (pps_cons pe_str (pe_cmpR (op_lt) (pv 6) (pv 3) (nomark _)) (pps_cons pe_str (pe_cmpR (op_gt) (pv 6) (pv 3) (nomark _)) pps_nil)))) (by rfl) (by rfl) (fun z => by cases z) (by decide)))
      (pss_cons (ps_dput hu (pv 8) pe_str (pe_cmpR (op_le) (pe_callB (call_abs) (by rfl) T.m_abs (by decide +kernel) (pa_cons (pe_op op_sub (pv 6) (pv 3)) pa_nil)) (pv 2) (nomark _)) rfl)
      (pss_cons (ps_dput hu (pv 8) pe_str (pe_cmpR (op_gt) (pe_callB (call_abs) (by rfl) T.m_abs (by decide +kernel) (pa_cons (pe_op op_sub (pv 6) (pv 3)) pa_nil)) (pv 2) (nomark _)) rfl)
      (pss_cons (ps_dput hu (pv 8) pe_str (pe_cmpR (op_lt) (pv 6) (pe_op op_sub (pv 3) (pv 2)) (nomark _)) rfl)
      (pss_cons (ps_dput hu (pv 8) pe_str (pe_cmpR (op_gt) (pv 6) (pe_op op_add (pv 3) (pv 2)) (nomark _)) rfl)
      (Evl.pss_cut (ps_dput hu (pv 8) pe_str (pe_cmpR (op_eq) (pe_op op_fdivW (pv 6) (pv 2)) (pe_op op_fdivW (pv 3) (pv 2)) (nomark _)) rfl)
      (pss_cons (ps_for PassesOwn.never rfl (pi_list (pe_call0 (ok__law_group_names T) (hr.mono (by decide)) rfl T.g__law_group_names T.F__law_group_names.kp T.b__law_group_names .nil pass0)) (pg_name (i := 9) sc_law.nd rfl (by first | exact Or.inl rfl | exact Or.inr rfl))
        (pss_one (ps_if (pt_cmpR (op_ne) (pe_cmpR (op_in_seq) (pv 7) (pe_call (ok_group T) (hr.mono (by decide)) rfl T.g_group T.F_group.kp T.b_group .nil pass0 (pa_cons (pv 9) pa_nil)) (by rfl)) (pe_dget hu (pv 8) (pv 9) (fun _ _ => rfl)) (nomark _)) (pss_one (ps_ret pe_bl)) pss_nil)))
      (pss_one (ps_if (PW.pt (pw_or (pt_cmpR (op_ne) (pe_cmpR (op_eq) (pv 7) pe_str (nomark _)) (pe_cmpR (op_eq) (pv 6) (pv 3) (nomark _)) (nomark _)) (pw_or1 (pt_cmpR (op_neD hr.units) (pe_call (ok_group T) (hr.mono (by decide)) rfl T.g_group T.F_group.kp T.b_group .nil pass0 (pa_cons (pv 7) pa_nil)) (pe_tup (pa_cons (pv 7) pa_nil)) (nomark _))))) (pss_one (ps_ret pe_bl)) pss_nil)))))))))))))
      (pss_one (ps_ret pe_bl))))))), ?_⟩
    refine ⟨_, rfl, a, ns, rfl, hS, fun H1 p sm np hs => ?_⟩
    refine ⟨_, rfl, p, _, rfl, hs, by decide, fun e H2 he bt hs => ?_⟩
    obtain ⟨e1, e2⟩ : 1 ≤ e ∧ e ≤ 1000000 := by
      simp only [List.mem_cons, List.not_mem_nil, or_false] at he
      omega
    have he0 : 0 < e := by omega
    -- kept
    refine ⟨_, rfl, p, _, _, rfl, hs, by decide, by decide, by decide, fun r1 H3 r1a r1b bt hs => ?_⟩
    obtain ⟨m1, m2⟩ := mul_bd (a := r1 - 4) (b := e) (A := 4) (B := 1000000) (by omega) (by omega) (by omega) (by omega) (by decide)
    refine ⟨_, _, rfl, rfl, _, rfl, _, _, rfl, rfl, (by walk_at "mul"), _, rfl, _, rfl, ?_⟩
    refine ⟨p, _, _, rfl, hs, by decide, by omega, by omega, fun r2 H4 r2a r2b bt hs => ?_⟩
    refine ⟨_, _, rfl, rfl, ?_⟩
    refine ⟨_, rfl, (by walk_at "arith"), (by walk_at "arith"), for_range (lo := 0) (n := 12) (fun i σ H' => ∃ (k : Int) (v4 v5 v6 v7 v8 v9 : Option V), (-4000000 ≤ k ∧ k ≤ 5000000) ∧ σ = [some (.ref a), some (.ref p), some (.int e), some (.int k), v4, v5, v6, v7, v8, v9] ∧ Src H' p (3 + 2 * i)) ?_ ?_ ?_⟩
    · exact ⟨_, _, _, _, _, _, _, ⟨by omega, by omega⟩, rfl, hs⟩
    · rintro i σ H5 hi ⟨k, v4, v5, v6, v7, v8, v9, ⟨k1, k2⟩, rfl, hs⟩
      refine ⟨_, rfl, _, rfl, _, _, rfl, rfl, (by walk_at "mul"), _, _, rfl, rfl, ?_⟩
      refine ⟨p, _, _, rfl, hs, by omega, by omega, by omega, fun r3 H6 r3a r3b bt hs => ?_⟩
      refine ⟨_, rfl, _, _, rfl, rfl, ?_⟩
      -- x
      refine ⟨fun σ H' => ∃ (x : Int) (v4 v5 : Option V), (-10000000 ≤ x ∧ x ≤ 10000000) ∧ σ = [some (.ref a), some (.ref p), some (.int e), some (.int k), v4, v5, some (.int x), v7, v8, v9] ∧ Src H' p (3 + 2 * (i + 1 : Nat)), ?_, ?_⟩
      · refine ⟨_, rfl, _, rfl, ?_⟩
        refine ⟨p, _, _, rfl, hs, by omega, by decide, by decide, fun r4 H7 r4a r4b bt hs => ?_⟩
        obtain ⟨n1, n2⟩ := mul_bd (a := r4 - 3) (b := e) (A := 3) (B := 1000000) (by omega) (by omega) (by omega) (by omega) (by decide)
        refine ⟨_, _, rfl, rfl, _, rfl, _, _, rfl, rfl, (by walk_at "mul"), _, _, rfl, rfl, _, rfl, _, _, rfl, rfl, ?_⟩
        refine ⟨_, _, _, ⟨by omega, by omega⟩, rfl, ?_⟩
        rw [show 3 + 2 * (i : Int) + 1 + 1 = 3 + 2 * ((i + 1 : Nat) : Int) by omega] at hs
        exact hs
      rintro σ H8 ⟨x, v4, v5, ⟨x1, x2⟩, rfl, hs⟩
      -- where
      refine ⟨_, rfl, _, rfl, _, rfl, ?_⟩
      refine ⟨_, _, _, rfl, ⟨by omega, by omega⟩, ⟨by omega, by omega⟩, ⟨by omega, by omega⟩, ?_⟩
      obtain ⟨g1, g2, g3, g4, g5, g6, g7, g8, g9, g10⟩ := group_due (x := x) (k := k) he0
      -- due
      refine fun d nd => ?_
      have ne := hs.ne nd
      refine ⟨_, rfl, _, rfl, _, _, rfl, rfl, _, rfl, _, rfl, _, _, rfl, rfl, upd_same, [(Sum.inr "any", .bl true), (Sum.inr "none", .bl false), (Sum.inr "less", .bl (decide (x < k))), (Sum.inr "more", .bl (decide (k < x)))], rfl, (by simp), ?_⟩
      refine ⟨_, rfl, _, rfl, _, _, rfl, rfl, _, rfl, _, rfl, _, _, rfl, rfl, _, rfl, _, _, rfl, DPut.k (k := Sum.inr "near") upd_same (by walk_at "dlen"), ?_⟩
      refine ⟨_, rfl, _, rfl, _, _, rfl, rfl, _, rfl, _, rfl, _, _, rfl, rfl, _, rfl, _, _, rfl, DPut.k (k := Sum.inr "far") upd_same (by walk_at "dlen"), ?_⟩
      refine ⟨_, rfl, _, rfl, _, rfl, _, _, rfl, rfl, _, _, rfl, rfl, _, rfl, _, _, rfl, DPut.k (k := Sum.inr "under") upd_same (by walk_at "dlen"), ?_⟩
      refine ⟨_, rfl, _, rfl, _, rfl, _, _, rfl, rfl, _, _, rfl, rfl, _, rfl, _, _, rfl, DPut.k (k := Sum.inr "over") upd_same (by walk_at "dlen"), ?_⟩
      refine ⟨fun σ H' => ∃ (kvs : List (Key × V)) (v4 v5 : Option V), σ = [some (.ref a), some (.ref p), some (.int e), some (.int k), v4, v5, some (.int x), some (.str (placeS x k e)), some (.ref d), v9] ∧ Src H' p (3 + 2 * (i + 1 : Nat)) ∧ H' d = some (.dK kvs) ∧ ∀ n ∈ GN, valV kvs (Sum.inr n) = some (.bl (decide (placeS x k e ∈ groupS n))), ?_, ?_⟩
      · refine ⟨_, rfl, _, rfl, _, _, rfl, rfl, (by walk_at "div"), _, rfl, _, rfl, _, _, rfl, rfl, (by walk_at "div"), rfl, _, rfl, _, _, rfl, DPut.k (k := Sum.inr "cell") upd_same (by walk_at "dlen"), ?_⟩
        refine ⟨_, _, _, rfl, ?_, upd_same, ?_⟩
        · exact (((((((hs.keep nd).skip ne.symm).skip ne.symm).skip ne.symm).skip ne.symm).skip ne.symm).skip ne.symm)
        · have dd : ∀ {P R : Prop} [Decidable P] [Decidable R], (R ↔ P) → V.bl (decide P) = V.bl (decide R) := fun h => by rw [decide_eq_decide.mpr h]
          intro n hn
          simp only [GN, List.mem_cons, List.not_mem_nil, or_false] at hn
          rcases hn with rfl | rfl | rfl | rfl | rfl | rfl | rfl | rfl | rfl
          · walk_at "dval"; rw [decide_eq_true g1]
          · walk_at "dval"
            exact congrArg some (dd (g2.trans ⟨fun h => by split <;> omega, fun h => by split at h <;> omega⟩))
          · walk_at "dval"
            exact congrArg some (dd (g3.trans ⟨fun h => by split <;> omega, fun h => by split at h <;> omega⟩))
          · walk_at "dval"
            exact congrArg some (dd g4)
          · walk_at "dval"
            exact congrArg some (dd g5)
          · walk_at "dval"
            exact congrArg some (dd g6)
          · walk_at "dval"
            exact congrArg some (dd g7)
          · walk_at "dval"
            exact congrArg some (dd (g8.trans ⟨fun h => by rw [h], fun h => by injection h⟩))
          · walk_at "dval"; rw [decide_eq_false g9]
      rintro σ H9 ⟨kvs, v4, v5, rfl, hs, hd, hdue⟩
      have hz := placeS_mem (x := x) (k := k) he0
      generalize hpl : placeS x k e = z at *
      -- for name in names
      refine ⟨rfl, fun l nl => ?_⟩
      refine ⟨_, rfl, ⟨_, SqL.of upd_same⟩, for_list (K := K) (a := l) (xs := GN.map V.str) (fun j σ H' => ∃ v9 : Option V, σ = [some (.ref a), some (.ref p), some (.int e), some (.int k), v4, v5, some (.int x), some (.str z), some (.ref d), v9] ∧ Same (upd H9 l (.lst (GN.map V.str))) H') ?_ ?_ ?_ ?_⟩
      · exact ⟨_, rfl, Same.refl _⟩
      · rintro j σ H' _ ⟨v9, rfl, sm⟩; exact SqL.of (sm _ _ upd_same)
      · rintro j y σ H10 hy ⟨v9, rfl, sm⟩
        obtain ⟨n, hn, rfl⟩ : ∃ n, n ∈ GN ∧ V.str n = y := by
          rw [List.getElem?_map] at hy
          obtain ⟨n, h1, h2⟩ := Option.map_eq_some_iff.mp hy
          exact ⟨n, List.mem_of_getElem? h1, h2⟩
        have hg := GN_group hn
        refine ⟨_, rfl, _, rfl, n, rfl, hg, fun g H11 sm11 hG => ?_⟩
        have hd11 := sm11 _ _ (sm _ _ (upd_keep (o := .lst (GN.map V.str)) hd nl))
        have dg := DGet.k (k := Sum.inr n) hd11
        rw [hdue n hn] at dg
        refine ⟨_, _, rfl, .inr hG, rfl, flats_str _, _, rfl, _, rfl, _, _, rfl, dg, rfl, _, rfl, ?_⟩
        refine iteNS (by show V.bl (inV (.str z) ((groupS n).map V.str)) = _; rw [inV_strs]) ?_
        exact ⟨_, rfl, sm.trans sm11⟩
      · rintro σ H10 ⟨v9, rfl, sm⟩
        have hs := (hs.keep (o := .lst (GN.map V.str)) nl).same sm
        refine ⟨_, rfl, rfl, _, rfl, _, rfl, rfl, rfl, _, rfl, ?_⟩
        refine ifF ?_ ?_
        · have : decide (V.str z = V.str "=") = decide (V.int x = V.int k) := decide_eq_decide.mpr ⟨fun h => by injection h with h; rw [g10.mp h], fun h => by injection h with h; rw [g10.mpr h]⟩
          rw [this]; simp
        refine ⟨_, rfl, z, rfl, by unfold isGroupB; rw [decide_eq_true hz]; rfl, fun g H11 sm11 hG => ?_⟩
        refine ⟨_, rfl, (by walk_at "len"), fun t nt => ?_⟩
        have hgz : groupS z = [z] := by unfold groupS; rw [if_pos hz]
        rw [hgz] at hG
        have ok : ∀ y ∈ [z], PyData.strOk y = true := fun y hy => by rw [List.mem_singleton.mp hy]; exact PL_ok z hz
        refine ⟨.tuple ([z].map .str), .tuple ([z].map .str), .tup (SqT_same (same_new nt) hG) (dpAll_str [z]), .tup (SqT.of upd_same) (dpAll_str [z]), shapedT_strs ok, shapedT_strs ok, _, rfl, ?_⟩
        refine ifF (by rw [eqv_same (shapedT_strs ok)]; rfl) ?_
        exact ⟨k, _, _, _, _, _, _, ⟨k1, k2⟩, rfl, (hs.same sm11).keep nt⟩
    · rintro σ H' ⟨k, v4, v5, v6, v7, v8, v9, _, rfl, hs⟩
      exact q H'
end
theorem all_mk {l : PySem.W.OpenLaw} {w : World} {K : PySem.W.Frag} {h : Heap} {mg : Str → Option Value} {fa : Addr} (X : K.In h) (G : h.Ns mainGlobals mg) (hfa : mg "law" = some (.ref fa))
    {od_is_number an_is_number : Option Addr} {sl_is_number : Array (Option Value)} {oc_is_number kV_is_number dc_is_number pm_is_number cd_is_number ct_is_number : Value} {f_is_number : Addr}
    {od_check_number an_check_number : Option Addr} {sl_check_number : Array (Option Value)} {oc_check_number kV_check_number dc_check_number pm_check_number cd_check_number ct_check_number : Value} {f_check_number : Addr}
    {od_check_tolerance an_check_tolerance : Option Addr} {sl_check_tolerance : Array (Option Value)} {oc_check_tolerance kV_check_tolerance dc_check_tolerance pm_check_tolerance cd_check_tolerance ct_check_tolerance : Value} {f_check_tolerance : Addr}
    {od_sign_of an_sign_of : Option Addr} {sl_sign_of : Array (Option Value)} {oc_sign_of kV_sign_of dc_sign_of pm_sign_of cd_sign_of ct_sign_of : Value} {f_sign_of : Addr}
    {od_place_of an_place_of : Option Addr} {sl_place_of : Array (Option Value)} {oc_place_of kV_place_of dc_place_of pm_place_of cd_place_of ct_place_of : Value} {f_place_of : Addr}
    {od_place an_place : Option Addr} {sl_place : Array (Option Value)} {oc_place kV_place dc_place pm_place cd_place ct_place : Value} {f_place : Addr}
    {od_is_group an_is_group : Option Addr} {sl_is_group : Array (Option Value)} {oc_is_group kV_is_group dc_is_group pm_is_group cd_is_group ct_is_group : Value} {f_is_group : Addr}
    {od_group an_group : Option Addr} {sl_group : Array (Option Value)} {oc_group kV_group dc_group pm_group cd_group ct_group : Value} {f_group : Addr}
    {od__law_source an__law_source : Option Addr} {sl__law_source : Array (Option Value)} {oc__law_source kV__law_source dc__law_source pm__law_source cd__law_source ct__law_source : Value} {f__law_source : Addr}
    {od__law_draw an__law_draw : Option Addr} {sl__law_draw : Array (Option Value)} {oc__law_draw kV__law_draw dc__law_draw pm__law_draw cd__law_draw ct__law_draw : Value} {f__law_draw : Addr}
    {od__law_group_names an__law_group_names : Option Addr} {sl__law_group_names : Array (Option Value)} {oc__law_group_names kV__law_group_names dc__law_group_names pm__law_group_names cd__law_group_names ct__law_group_names : Value} {f__law_group_names : Addr}
    {od__law_tolerance an__law_tolerance : Option Addr} {sl__law_tolerance : Array (Option Value)} {oc__law_tolerance kV__law_tolerance dc__law_tolerance pm__law_tolerance cd__law_tolerance ct__law_tolerance : Value} {f__law_tolerance : Addr}
    {od_law an_law : Option Addr} {sl_law : Array (Option Value)} {oc_law kV_law dc_law pm_law cd_law ct_law : Value} {f_law : Addr}
    {t_BOUND : Tok}
    {a_PLACES : Addr} {o_PLACES : Obj} {i_PLACES : Array Value} {n_PLACES : Nat}
    {a_LONG_GROUPS : Addr} {es_LONG_GROUPS : Array DictEntry} {n_LONG_GROUPS : Nat}
    {a_LONG_GROUPS_any : Addr} {o_LONG_GROUPS_any : Obj} {i_LONG_GROUPS_any : Array Value} {n_LONG_GROUPS_any : Nat}
    {a_LONG_GROUPS_near : Addr} {o_LONG_GROUPS_near : Obj} {i_LONG_GROUPS_near : Array Value} {n_LONG_GROUPS_near : Nat}
    {a_LONG_GROUPS_far : Addr} {o_LONG_GROUPS_far : Obj} {i_LONG_GROUPS_far : Array Value} {n_LONG_GROUPS_far : Nat}
    {a_LONG_GROUPS_less : Addr} {o_LONG_GROUPS_less : Obj} {i_LONG_GROUPS_less : Array Value} {n_LONG_GROUPS_less : Nat}
    {a_LONG_GROUPS_more : Addr} {o_LONG_GROUPS_more : Obj} {i_LONG_GROUPS_more : Array Value} {n_LONG_GROUPS_more : Nat}
    {a_LONG_GROUPS_under : Addr} {o_LONG_GROUPS_under : Obj} {i_LONG_GROUPS_under : Array Value} {n_LONG_GROUPS_under : Nat}
    {a_LONG_GROUPS_over : Addr} {o_LONG_GROUPS_over : Obj} {i_LONG_GROUPS_over : Array Value} {n_LONG_GROUPS_over : Nat}
    {a_LONG_GROUPS_cell : Addr} {o_LONG_GROUPS_cell : Obj} {i_LONG_GROUPS_cell : Array Value} {n_LONG_GROUPS_cell : Nat}
    {a_LONG_GROUPS_none : Addr} {o_LONG_GROUPS_none : Obj} {i_LONG_GROUPS_none : Array Value} {n_LONG_GROUPS_none : Nat}
    (a_is_number : PySem.W.nsIn K mainGlobals "is_number" = some (some (.ref f_is_number))) (l_is_number : K.lookup f_is_number = some ⟨oc_is_number, od_is_number, .func (PySem.W.fnOf "is_number" "is_number" (defArgs s_is_number) (defBody s_is_number) (defScope s_is_number) .none kV_is_number dc_is_number pm_is_number an_is_number cd_is_number ct_is_number), sl_is_number⟩) (c_is_number : PySem.W.codeIn K cd_is_number "is_number" = true) (k_is_number : PySem.W.keepIn K (.ref f_is_number) = true)
    (a_check_number : PySem.W.nsIn K mainGlobals "check_number" = some (some (.ref f_check_number))) (l_check_number : K.lookup f_check_number = some ⟨oc_check_number, od_check_number, .func (PySem.W.fnOf "check_number" "check_number" (defArgs s_check_number) (defBody s_check_number) (defScope s_check_number) .none kV_check_number dc_check_number pm_check_number an_check_number cd_check_number ct_check_number), sl_check_number⟩) (c_check_number : PySem.W.codeIn K cd_check_number "check_number" = true) (k_check_number : PySem.W.keepIn K (.ref f_check_number) = true)
    (a_check_tolerance : PySem.W.nsIn K mainGlobals "check_tolerance" = some (some (.ref f_check_tolerance))) (l_check_tolerance : K.lookup f_check_tolerance = some ⟨oc_check_tolerance, od_check_tolerance, .func (PySem.W.fnOf "check_tolerance" "check_tolerance" (defArgs s_check_tolerance) (defBody s_check_tolerance) (defScope s_check_tolerance) .none kV_check_tolerance dc_check_tolerance pm_check_tolerance an_check_tolerance cd_check_tolerance ct_check_tolerance), sl_check_tolerance⟩) (c_check_tolerance : PySem.W.codeIn K cd_check_tolerance "check_tolerance" = true) (k_check_tolerance : PySem.W.keepIn K (.ref f_check_tolerance) = true)
    (a_sign_of : PySem.W.nsIn K mainGlobals "sign_of" = some (some (.ref f_sign_of))) (l_sign_of : K.lookup f_sign_of = some ⟨oc_sign_of, od_sign_of, .func (PySem.W.fnOf "sign_of" "sign_of" (defArgs s_sign_of) (defBody s_sign_of) (defScope s_sign_of) .none kV_sign_of dc_sign_of pm_sign_of an_sign_of cd_sign_of ct_sign_of), sl_sign_of⟩) (c_sign_of : PySem.W.codeIn K cd_sign_of "sign_of" = true) (k_sign_of : PySem.W.keepIn K (.ref f_sign_of) = true)
    (a_place_of : PySem.W.nsIn K mainGlobals "place_of" = some (some (.ref f_place_of))) (l_place_of : K.lookup f_place_of = some ⟨oc_place_of, od_place_of, .func (PySem.W.fnOf "place_of" "place_of" (defArgs s_place_of) (defBody s_place_of) (defScope s_place_of) .none kV_place_of dc_place_of pm_place_of an_place_of cd_place_of ct_place_of), sl_place_of⟩) (c_place_of : PySem.W.codeIn K cd_place_of "place_of" = true) (k_place_of : PySem.W.keepIn K (.ref f_place_of) = true)
    (a_place : PySem.W.nsIn K mainGlobals "place" = some (some (.ref f_place))) (l_place : K.lookup f_place = some ⟨oc_place, od_place, .func (PySem.W.fnOf "place" "place" (defArgs s_place) (defBody s_place) (defScope s_place) .none kV_place dc_place pm_place an_place cd_place ct_place), sl_place⟩) (c_place : PySem.W.codeIn K cd_place "place" = true) (k_place : PySem.W.keepIn K (.ref f_place) = true)
    (a_is_group : PySem.W.nsIn K mainGlobals "is_group" = some (some (.ref f_is_group))) (l_is_group : K.lookup f_is_group = some ⟨oc_is_group, od_is_group, .func (PySem.W.fnOf "is_group" "is_group" (defArgs s_is_group) (defBody s_is_group) (defScope s_is_group) .none kV_is_group dc_is_group pm_is_group an_is_group cd_is_group ct_is_group), sl_is_group⟩) (c_is_group : PySem.W.codeIn K cd_is_group "is_group" = true) (k_is_group : PySem.W.keepIn K (.ref f_is_group) = true)
    (a_group : PySem.W.nsIn K mainGlobals "group" = some (some (.ref f_group))) (l_group : K.lookup f_group = some ⟨oc_group, od_group, .func (PySem.W.fnOf "group" "group" (defArgs s_group) (defBody s_group) (defScope s_group) .none kV_group dc_group pm_group an_group cd_group ct_group), sl_group⟩) (c_group : PySem.W.codeIn K cd_group "group" = true) (k_group : PySem.W.keepIn K (.ref f_group) = true)
    (a__law_source : PySem.W.nsIn K mainGlobals "_law_source" = some (some (.ref f__law_source))) (l__law_source : K.lookup f__law_source = some ⟨oc__law_source, od__law_source, .func (PySem.W.fnOf "_law_source" "_law_source" (defArgs s__law_source) (defBody s__law_source) (defScope s__law_source) .none kV__law_source dc__law_source pm__law_source an__law_source cd__law_source ct__law_source), sl__law_source⟩) (c__law_source : PySem.W.codeIn K cd__law_source "_law_source" = true) (k__law_source : PySem.W.keepIn K (.ref f__law_source) = true)
    (a__law_draw : PySem.W.nsIn K mainGlobals "_law_draw" = some (some (.ref f__law_draw))) (l__law_draw : K.lookup f__law_draw = some ⟨oc__law_draw, od__law_draw, .func (PySem.W.fnOf "_law_draw" "_law_draw" (defArgs s__law_draw) (defBody s__law_draw) (defScope s__law_draw) .none kV__law_draw dc__law_draw pm__law_draw an__law_draw cd__law_draw ct__law_draw), sl__law_draw⟩) (c__law_draw : PySem.W.codeIn K cd__law_draw "_law_draw" = true) (k__law_draw : PySem.W.keepIn K (.ref f__law_draw) = true)
    (a__law_group_names : PySem.W.nsIn K mainGlobals "_law_group_names" = some (some (.ref f__law_group_names))) (l__law_group_names : K.lookup f__law_group_names = some ⟨oc__law_group_names, od__law_group_names, .func (PySem.W.fnOf "_law_group_names" "_law_group_names" (defArgs s__law_group_names) (defBody s__law_group_names) (defScope s__law_group_names) .none kV__law_group_names dc__law_group_names pm__law_group_names an__law_group_names cd__law_group_names ct__law_group_names), sl__law_group_names⟩) (c__law_group_names : PySem.W.codeIn K cd__law_group_names "_law_group_names" = true) (k__law_group_names : PySem.W.keepIn K (.ref f__law_group_names) = true)
    (a__law_tolerance : PySem.W.nsIn K mainGlobals "_law_tolerance" = some (some (.ref f__law_tolerance))) (l__law_tolerance : K.lookup f__law_tolerance = some ⟨oc__law_tolerance, od__law_tolerance, .func (PySem.W.fnOf "_law_tolerance" "_law_tolerance" (defArgs s__law_tolerance) (defBody s__law_tolerance) (defScope s__law_tolerance) .none kV__law_tolerance dc__law_tolerance pm__law_tolerance an__law_tolerance cd__law_tolerance ct__law_tolerance), sl__law_tolerance⟩) (c__law_tolerance : PySem.W.codeIn K cd__law_tolerance "_law_tolerance" = true) (k__law_tolerance : PySem.W.keepIn K (.ref f__law_tolerance) = true)
    (a_law : PySem.W.nsIn K mainGlobals "law" = some (some (.ref f_law))) (l_law : K.lookup f_law = some ⟨oc_law, od_law, .func (PySem.W.fnOf "law" "law" (defArgs s_law) (defBody s_law) (defScope s_law) .none kV_law dc_law pm_law an_law cd_law ct_law), sl_law⟩) (c_law : PySem.W.codeIn K cd_law "law" = true) (k_law : PySem.W.keepIn K (.ref f_law) = true)
    (m_int : PySem.W.nsIn K mainGlobals "int" = some none)
    (m_bool : PySem.W.nsIn K mainGlobals "bool" = some none)
    (m_str : PySem.W.nsIn K mainGlobals "str" = some none)
    (m_range : PySem.W.nsIn K mainGlobals "range" = some none)
    (m_isinstance : PySem.W.nsIn K mainGlobals "isinstance" = some none)
    (m_abs : PySem.W.nsIn K mainGlobals "abs" = some none)
    (m_super : PySem.W.nsIn K mainGlobals "super" = some none)
    (m_ValueError : PySem.W.nsIn K mainGlobals "ValueError" = some none)
    (g_BOUND : PySem.W.nsIn K mainGlobals "BOUND" = some (some (.int 1000000000000000000000000000000 t_BOUND)))
    (g_PLACES : PySem.W.nsIn K mainGlobals "PLACES" = some (some (.ref a_PLACES))) (l_PLACES : K.lookup a_PLACES = some o_PLACES) (c_PLACES : o_PLACES.cls = .type "tuple") (e_PLACES : o_PLACES.dict = none) (d_PLACES : o_PLACES.data = .seq i_PLACES n_PLACES) (z_PLACES : i_PLACES.size ≤ sizeLine) (v_PLACES : Vals [.str "below", .str "-<", .str "-=", .str "->", .str "<", .str "=", .str ">", .str "+<", .str "+=", .str "+>", .str "above"] i_PLACES.toList)
    (g_LONG_GROUPS : PySem.W.nsIn K mainGlobals "LONG_GROUPS" = some (some (.ref a_LONG_GROUPS))) (l_LONG_GROUPS : K.lookup a_LONG_GROUPS = some ⟨.type "dict", none, .dict es_LONG_GROUPS n_LONG_GROUPS, #[]⟩) (y_LONG_GROUPS : (a_LONG_GROUPS == sysModules) = false)
    (x_LONG_GROUPS : NL.KPairs w.params [("any", .ref a_LONG_GROUPS_any), ("near", .ref a_LONG_GROUPS_near), ("far", .ref a_LONG_GROUPS_far), ("less", .ref a_LONG_GROUPS_less), ("more", .ref a_LONG_GROUPS_more), ("under", .ref a_LONG_GROUPS_under), ("over", .ref a_LONG_GROUPS_over), ("cell", .ref a_LONG_GROUPS_cell), ("none", .ref a_LONG_GROUPS_none)] es_LONG_GROUPS.toList)
    (l_LONG_GROUPS_any : K.lookup a_LONG_GROUPS_any = some o_LONG_GROUPS_any) (c_LONG_GROUPS_any : o_LONG_GROUPS_any.cls = .type "tuple") (e_LONG_GROUPS_any : o_LONG_GROUPS_any.dict = none) (d_LONG_GROUPS_any : o_LONG_GROUPS_any.data = .seq i_LONG_GROUPS_any n_LONG_GROUPS_any) (z_LONG_GROUPS_any : i_LONG_GROUPS_any.size ≤ sizeLine) (v_LONG_GROUPS_any : Vals [.str "below", .str "-<", .str "-=", .str "->", .str "<", .str "=", .str ">", .str "+<", .str "+=", .str "+>", .str "above"] i_LONG_GROUPS_any.toList)
    (l_LONG_GROUPS_near : K.lookup a_LONG_GROUPS_near = some o_LONG_GROUPS_near) (c_LONG_GROUPS_near : o_LONG_GROUPS_near.cls = .type "tuple") (e_LONG_GROUPS_near : o_LONG_GROUPS_near.dict = none) (d_LONG_GROUPS_near : o_LONG_GROUPS_near.data = .seq i_LONG_GROUPS_near n_LONG_GROUPS_near) (z_LONG_GROUPS_near : i_LONG_GROUPS_near.size ≤ sizeLine) (v_LONG_GROUPS_near : Vals [.str "-=", .str "->", .str "<", .str "=", .str ">", .str "+<", .str "+="] i_LONG_GROUPS_near.toList)
    (l_LONG_GROUPS_far : K.lookup a_LONG_GROUPS_far = some o_LONG_GROUPS_far) (c_LONG_GROUPS_far : o_LONG_GROUPS_far.cls = .type "tuple") (e_LONG_GROUPS_far : o_LONG_GROUPS_far.dict = none) (d_LONG_GROUPS_far : o_LONG_GROUPS_far.data = .seq i_LONG_GROUPS_far n_LONG_GROUPS_far) (z_LONG_GROUPS_far : i_LONG_GROUPS_far.size ≤ sizeLine) (v_LONG_GROUPS_far : Vals [.str "below", .str "-<", .str "+>", .str "above"] i_LONG_GROUPS_far.toList)
    (l_LONG_GROUPS_less : K.lookup a_LONG_GROUPS_less = some o_LONG_GROUPS_less) (c_LONG_GROUPS_less : o_LONG_GROUPS_less.cls = .type "tuple") (e_LONG_GROUPS_less : o_LONG_GROUPS_less.dict = none) (d_LONG_GROUPS_less : o_LONG_GROUPS_less.data = .seq i_LONG_GROUPS_less n_LONG_GROUPS_less) (z_LONG_GROUPS_less : i_LONG_GROUPS_less.size ≤ sizeLine) (v_LONG_GROUPS_less : Vals [.str "below", .str "-<", .str "-=", .str "->", .str "<"] i_LONG_GROUPS_less.toList)
    (l_LONG_GROUPS_more : K.lookup a_LONG_GROUPS_more = some o_LONG_GROUPS_more) (c_LONG_GROUPS_more : o_LONG_GROUPS_more.cls = .type "tuple") (e_LONG_GROUPS_more : o_LONG_GROUPS_more.dict = none) (d_LONG_GROUPS_more : o_LONG_GROUPS_more.data = .seq i_LONG_GROUPS_more n_LONG_GROUPS_more) (z_LONG_GROUPS_more : i_LONG_GROUPS_more.size ≤ sizeLine) (v_LONG_GROUPS_more : Vals [.str ">", .str "+<", .str "+=", .str "+>", .str "above"] i_LONG_GROUPS_more.toList)
    (l_LONG_GROUPS_under : K.lookup a_LONG_GROUPS_under = some o_LONG_GROUPS_under) (c_LONG_GROUPS_under : o_LONG_GROUPS_under.cls = .type "tuple") (e_LONG_GROUPS_under : o_LONG_GROUPS_under.dict = none) (d_LONG_GROUPS_under : o_LONG_GROUPS_under.data = .seq i_LONG_GROUPS_under n_LONG_GROUPS_under) (z_LONG_GROUPS_under : i_LONG_GROUPS_under.size ≤ sizeLine) (v_LONG_GROUPS_under : Vals [.str "below", .str "-<"] i_LONG_GROUPS_under.toList)
    (l_LONG_GROUPS_over : K.lookup a_LONG_GROUPS_over = some o_LONG_GROUPS_over) (c_LONG_GROUPS_over : o_LONG_GROUPS_over.cls = .type "tuple") (e_LONG_GROUPS_over : o_LONG_GROUPS_over.dict = none) (d_LONG_GROUPS_over : o_LONG_GROUPS_over.data = .seq i_LONG_GROUPS_over n_LONG_GROUPS_over) (z_LONG_GROUPS_over : i_LONG_GROUPS_over.size ≤ sizeLine) (v_LONG_GROUPS_over : Vals [.str "+>", .str "above"] i_LONG_GROUPS_over.toList)
    (l_LONG_GROUPS_cell : K.lookup a_LONG_GROUPS_cell = some o_LONG_GROUPS_cell) (c_LONG_GROUPS_cell : o_LONG_GROUPS_cell.cls = .type "tuple") (e_LONG_GROUPS_cell : o_LONG_GROUPS_cell.dict = none) (d_LONG_GROUPS_cell : o_LONG_GROUPS_cell.data = .seq i_LONG_GROUPS_cell n_LONG_GROUPS_cell) (z_LONG_GROUPS_cell : i_LONG_GROUPS_cell.size ≤ sizeLine) (v_LONG_GROUPS_cell : Vals [.str "<", .str "=", .str ">"] i_LONG_GROUPS_cell.toList)
    (l_LONG_GROUPS_none : K.lookup a_LONG_GROUPS_none = some o_LONG_GROUPS_none) (c_LONG_GROUPS_none : o_LONG_GROUPS_none.cls = .type "tuple") (e_LONG_GROUPS_none : o_LONG_GROUPS_none.dict = none) (d_LONG_GROUPS_none : o_LONG_GROUPS_none.data = .seq i_LONG_GROUPS_none n_LONG_GROUPS_none) (z_LONG_GROUPS_none : i_LONG_GROUPS_none.size ≤ sizeLine) (v_LONG_GROUPS_none : Vals [] i_LONG_GROUPS_none.toList) :
    ∃ fd : FuncData, (∀ (s : Shared) (v : Value), BindsTo s fd ⟨[v], []⟩ [("_law_script", v)]) ∧ ∀ base : Heap, K.In base → base.Ns mainGlobals mg → FnOk l.prog w K mg base CX0 4 fa fd ["_law_script"] (sp_law K) := by
  have e := hfa.symm.trans (PySem.W.mg_of X G a_law)
  cases e
  have F_is_number := fun_mk (st := s_is_number) l_is_number c_is_number k_is_number
  have b_is_number := F_is_number.binds (ps := ["value"]) fun _ _ _ _ _ _ us hl => match us, hl with | [_], _ => rfl
  have F_check_number := fun_mk (st := s_check_number) l_check_number c_check_number k_check_number
  have b_check_number := F_check_number.binds (ps := ["value"]) fun _ _ _ _ _ _ us hl => match us, hl with | [_], _ => rfl
  have F_check_tolerance := fun_mk (st := s_check_tolerance) l_check_tolerance c_check_tolerance k_check_tolerance
  have b_check_tolerance := F_check_tolerance.binds (ps := ["value"]) fun _ _ _ _ _ _ us hl => match us, hl with | [_], _ => rfl
  have F_sign_of := fun_mk (st := s_sign_of) l_sign_of c_sign_of k_sign_of
  have b_sign_of := F_sign_of.binds (ps := ["first", "second"]) fun _ _ _ _ _ _ us hl => match us, hl with | [_, _], _ => rfl
  have F_place_of := fun_mk (st := s_place_of) l_place_of c_place_of k_place_of
  have b_place_of := F_place_of.binds (ps := ["step", "sign"]) fun _ _ _ _ _ _ us hl => match us, hl with | [_, _], _ => rfl
  have F_place := fun_mk (st := s_place) l_place c_place k_place
  have b_place := F_place.binds (ps := ["x", "kept", "tolerance"]) fun _ _ _ _ _ _ us hl => match us, hl with | [_, _, _], _ => rfl
  have F_is_group := fun_mk (st := s_is_group) l_is_group c_is_group k_is_group
  have b_is_group := F_is_group.binds (ps := ["name"]) fun _ _ _ _ _ _ us hl => match us, hl with | [_], _ => rfl
  have F_group := fun_mk (st := s_group) l_group c_group k_group
  have b_group := F_group.binds (ps := ["name"]) fun _ _ _ _ _ _ us hl => match us, hl with | [_], _ => rfl
  have F__law_source := fun_mk (st := s__law_source) l__law_source c__law_source k__law_source
  have b__law_source := F__law_source.binds (ps := ["_law_script"]) fun _ _ _ _ _ _ us hl => match us, hl with | [_], _ => rfl
  have F__law_draw := fun_mk (st := s__law_draw) l__law_draw c__law_draw k__law_draw
  have b__law_draw := F__law_draw.binds (ps := ["_law_source_here", "_law_many"]) fun _ _ _ _ _ _ us hl => match us, hl with | [_, _], _ => rfl
  have F__law_group_names := fun_mk (st := s__law_group_names) l__law_group_names c__law_group_names k__law_group_names
  have b__law_group_names := F__law_group_names.binds (ps := []) fun _ _ _ _ _ _ us hl => match us, hl with | [], _ => rfl
  have F__law_tolerance := fun_mk (st := s__law_tolerance) l__law_tolerance c__law_tolerance k__law_tolerance
  have b__law_tolerance := F__law_tolerance.binds (ps := ["_law_source_here"]) fun _ _ _ _ _ _ us hl => match us, hl with | [_], _ => rfl
  have F_law := fun_mk (st := s_law) l_law c_law k_law
  have b_law := F_law.binds (ps := ["_law_script"]) fun _ _ _ _ _ _ us hl => match us, hl with | [_], _ => rfl
  exact ⟨PySem.W.fnOf "law" "law" (defArgs s_law) (defBody s_law) (defScope s_law) .none kV_law dc_law pm_law an_law cd_law ct_law, fun s v => .of_eq rfl, fun base _ _ => ok_law { a_is_number := f_is_number, fd_is_number := _, F_is_number := F_is_number, b_is_number := b_is_number, g_is_number := PySem.W.mg_of X G a_is_number, a_check_number := f_check_number, fd_check_number := _, F_check_number := F_check_number, b_check_number := b_check_number, g_check_number := PySem.W.mg_of X G a_check_number, a_check_tolerance := f_check_tolerance, fd_check_tolerance := _, F_check_tolerance := F_check_tolerance, b_check_tolerance := b_check_tolerance, g_check_tolerance := PySem.W.mg_of X G a_check_tolerance, a_sign_of := f_sign_of, fd_sign_of := _, F_sign_of := F_sign_of, b_sign_of := b_sign_of, g_sign_of := PySem.W.mg_of X G a_sign_of, a_place_of := f_place_of, fd_place_of := _, F_place_of := F_place_of, b_place_of := b_place_of, g_place_of := PySem.W.mg_of X G a_place_of, a_place := f_place, fd_place := _, F_place := F_place, b_place := b_place, g_place := PySem.W.mg_of X G a_place, a_is_group := f_is_group, fd_is_group := _, F_is_group := F_is_group, b_is_group := b_is_group, g_is_group := PySem.W.mg_of X G a_is_group, a_group := f_group, fd_group := _, F_group := F_group, b_group := b_group, g_group := PySem.W.mg_of X G a_group, a__law_source := f__law_source, fd__law_source := _, F__law_source := F__law_source, b__law_source := b__law_source, g__law_source := PySem.W.mg_of X G a__law_source, a__law_draw := f__law_draw, fd__law_draw := _, F__law_draw := F__law_draw, b__law_draw := b__law_draw, g__law_draw := PySem.W.mg_of X G a__law_draw, a__law_group_names := f__law_group_names, fd__law_group_names := _, F__law_group_names := F__law_group_names, b__law_group_names := b__law_group_names, g__law_group_names := PySem.W.mg_of X G a__law_group_names, a__law_tolerance := f__law_tolerance, fd__law_tolerance := _, F__law_tolerance := F__law_tolerance, b__law_tolerance := b__law_tolerance, g__law_tolerance := PySem.W.mg_of X G a__law_tolerance, a_law := fa, fd_law := _, F_law := F_law, b_law := b_law, g_law := PySem.W.mg_of X G a_law, m_int := PySem.W.mg_none_of X G m_int, m_bool := PySem.W.mg_none_of X G m_bool, m_str := PySem.W.mg_none_of X G m_str, m_range := PySem.W.mg_none_of X G m_range, m_isinstance := PySem.W.mg_none_of X G m_isinstance, m_abs := PySem.W.mg_none_of X G m_abs, m_super := PySem.W.mg_none_of X G m_super, m_ValueError := PySem.W.mg_none_of X G m_ValueError, t_BOUND := t_BOUND, g_BOUND := PySem.W.mg_of X G g_BOUND, a_PLACES := a_PLACES, g_PLACES := PySem.W.mg_of X G g_PLACES, k_PLACES := ⟨o_PLACES, l_PLACES, c_PLACES, e_PLACES⟩, p_PLACES := fun H => .inr ⟨o_PLACES, i_PLACES, n_PLACES, l_PLACES, c_PLACES, d_PLACES, z_PLACES, v_PLACES⟩, a_LONG_GROUPS := a_LONG_GROUPS, g_LONG_GROUPS := PySem.W.mg_of X G g_LONG_GROUPS, d_LONG_GROUPS := ⟨_, _, l_LONG_GROUPS, y_LONG_GROUPS, x_LONG_GROUPS⟩, a_LONG_GROUPS_any := a_LONG_GROUPS_any, k_LONG_GROUPS_any := ⟨o_LONG_GROUPS_any, l_LONG_GROUPS_any, c_LONG_GROUPS_any, e_LONG_GROUPS_any⟩, p_LONG_GROUPS_any := fun H => .inr ⟨o_LONG_GROUPS_any, i_LONG_GROUPS_any, n_LONG_GROUPS_any, l_LONG_GROUPS_any, c_LONG_GROUPS_any, d_LONG_GROUPS_any, z_LONG_GROUPS_any, v_LONG_GROUPS_any⟩, a_LONG_GROUPS_near := a_LONG_GROUPS_near, k_LONG_GROUPS_near := ⟨o_LONG_GROUPS_near, l_LONG_GROUPS_near, c_LONG_GROUPS_near, e_LONG_GROUPS_near⟩, p_LONG_GROUPS_near := fun H => .inr ⟨o_LONG_GROUPS_near, i_LONG_GROUPS_near, n_LONG_GROUPS_near, l_LONG_GROUPS_near, c_LONG_GROUPS_near, d_LONG_GROUPS_near, z_LONG_GROUPS_near, v_LONG_GROUPS_near⟩, a_LONG_GROUPS_far := a_LONG_GROUPS_far, k_LONG_GROUPS_far := ⟨o_LONG_GROUPS_far, l_LONG_GROUPS_far, c_LONG_GROUPS_far, e_LONG_GROUPS_far⟩, p_LONG_GROUPS_far := fun H => .inr ⟨o_LONG_GROUPS_far, i_LONG_GROUPS_far, n_LONG_GROUPS_far, l_LONG_GROUPS_far, c_LONG_GROUPS_far, d_LONG_GROUPS_far, z_LONG_GROUPS_far, v_LONG_GROUPS_far⟩, a_LONG_GROUPS_less := a_LONG_GROUPS_less, k_LONG_GROUPS_less := ⟨o_LONG_GROUPS_less, l_LONG_GROUPS_less, c_LONG_GROUPS_less, e_LONG_GROUPS_less⟩, p_LONG_GROUPS_less := fun H => .inr ⟨o_LONG_GROUPS_less, i_LONG_GROUPS_less, n_LONG_GROUPS_less, l_LONG_GROUPS_less, c_LONG_GROUPS_less, d_LONG_GROUPS_less, z_LONG_GROUPS_less, v_LONG_GROUPS_less⟩, a_LONG_GROUPS_more := a_LONG_GROUPS_more, k_LONG_GROUPS_more := ⟨o_LONG_GROUPS_more, l_LONG_GROUPS_more, c_LONG_GROUPS_more, e_LONG_GROUPS_more⟩, p_LONG_GROUPS_more := fun H => .inr ⟨o_LONG_GROUPS_more, i_LONG_GROUPS_more, n_LONG_GROUPS_more, l_LONG_GROUPS_more, c_LONG_GROUPS_more, d_LONG_GROUPS_more, z_LONG_GROUPS_more, v_LONG_GROUPS_more⟩, a_LONG_GROUPS_under := a_LONG_GROUPS_under, k_LONG_GROUPS_under := ⟨o_LONG_GROUPS_under, l_LONG_GROUPS_under, c_LONG_GROUPS_under, e_LONG_GROUPS_under⟩, p_LONG_GROUPS_under := fun H => .inr ⟨o_LONG_GROUPS_under, i_LONG_GROUPS_under, n_LONG_GROUPS_under, l_LONG_GROUPS_under, c_LONG_GROUPS_under, d_LONG_GROUPS_under, z_LONG_GROUPS_under, v_LONG_GROUPS_under⟩, a_LONG_GROUPS_over := a_LONG_GROUPS_over, k_LONG_GROUPS_over := ⟨o_LONG_GROUPS_over, l_LONG_GROUPS_over, c_LONG_GROUPS_over, e_LONG_GROUPS_over⟩, p_LONG_GROUPS_over := fun H => .inr ⟨o_LONG_GROUPS_over, i_LONG_GROUPS_over, n_LONG_GROUPS_over, l_LONG_GROUPS_over, c_LONG_GROUPS_over, d_LONG_GROUPS_over, z_LONG_GROUPS_over, v_LONG_GROUPS_over⟩, a_LONG_GROUPS_cell := a_LONG_GROUPS_cell, k_LONG_GROUPS_cell := ⟨o_LONG_GROUPS_cell, l_LONG_GROUPS_cell, c_LONG_GROUPS_cell, e_LONG_GROUPS_cell⟩, p_LONG_GROUPS_cell := fun H => .inr ⟨o_LONG_GROUPS_cell, i_LONG_GROUPS_cell, n_LONG_GROUPS_cell, l_LONG_GROUPS_cell, c_LONG_GROUPS_cell, d_LONG_GROUPS_cell, z_LONG_GROUPS_cell, v_LONG_GROUPS_cell⟩, a_LONG_GROUPS_none := a_LONG_GROUPS_none, k_LONG_GROUPS_none := ⟨o_LONG_GROUPS_none, l_LONG_GROUPS_none, c_LONG_GROUPS_none, e_LONG_GROUPS_none⟩, p_LONG_GROUPS_none := fun H => .inr ⟨o_LONG_GROUPS_none, i_LONG_GROUPS_none, n_LONG_GROUPS_none, l_LONG_GROUPS_none, c_LONG_GROUPS_none, d_LONG_GROUPS_none, z_LONG_GROUPS_none, v_LONG_GROUPS_none⟩ }⟩
theorem walk {l : PySem.W.OpenLaw} {q : Program} {loose : List Str} {XP : (Str → Option Value) → Heap → Prop} {YP : World → Heap → Prop} {d : DefRec} {K : Params → PySem.W.Frag} (hn : l.most = some 63) (hdf : d.params.defaults = [])
    (hY : ∀ (w : World) (h : Heap), YP w h → (K w.params).In h)
    (F : ∀ (w : World) (mg : Str → Option Value) (fa : Addr) (h : Heap), (K w.params).In h → h.Ns mainGlobals mg → mg d.name = some (.ref fa) →
      ∃ fd : FuncData, (∀ (s : Shared) (u : Value), BindsTo s fd ⟨[u], []⟩ [("_law_script", u)]) ∧ ∀ base : Heap, (K w.params).In base → base.Ns mainGlobals mg → FnOk l.prog w (K w.params) mg base CX0 4 fa fd ["_law_script"] (sp_law (K w.params))) :
    PySem.W.WalkO q loose XP YP l.row.toRowW d [] (fun f vs => PySem.call f vs) :=
  L2.walk_of (n := 63) (k := 4) (x := "_law_script") (CX := fun _ => CX0) (sp := fun w => sp_law (K w.params)) hn (by decide) hdf ⟨rfl, by decide, by decide⟩ hY F (fun _ _ a ns hl _ hS => ⟨a, ns, rfl, hS, hl, fun _ => rfl⟩) fun _ _ _ _ _ z => z
end Law
open PySem PySem.W PyProof.Rows
set_option maxRecDepth 100000 in
set_option maxHeartbeats 0 in
theorem PySem.Challenge.cw_nearloops_k02_whole_groups_by_distance_holds : PySem.Challenge.rw_nearloops_k02_whole_groups_by_distance.Holds := by
  w_on; o_law; k_head; (case hw => w_witness2)
  k_fill
  refine Law.walk (l := PySem.Challenge.rw_nearloops_k02_whole_groups_by_distance) rfl rfl (fun w h Y => PySem.W.kIn_of Y) ?F
  case F =>
    intro w mg fa h KX G hmg
    refine' Law.all_mk KX G hmg ?a_is_number ?l_is_number ?c_is_number ?k_is_number ?a_check_number ?l_check_number ?c_check_number ?k_check_number ?a_check_tolerance ?l_check_tolerance ?c_check_tolerance ?k_check_tolerance ?a_sign_of ?l_sign_of ?c_sign_of ?k_sign_of ?a_place_of ?l_place_of ?c_place_of ?k_place_of ?a_place ?l_place ?c_place ?k_place ?a_is_group ?l_is_group ?c_is_group ?k_is_group ?a_group ?l_group ?c_group ?k_group ?a__law_source ?l__law_source ?c__law_source ?k__law_source ?a__law_draw ?l__law_draw ?c__law_draw ?k__law_draw ?a__law_group_names ?l__law_group_names ?c__law_group_names ?k__law_group_names ?a__law_tolerance ?l__law_tolerance ?c__law_tolerance ?k__law_tolerance ?a_law ?l_law ?c_law ?k_law ?m_int ?m_bool ?m_str ?m_range ?m_isinstance ?m_abs ?m_super ?m_ValueError ?g_BOUND ?g_PLACES ?l_PLACES ?c_PLACES ?e_PLACES ?d_PLACES ?z_PLACES ?v_PLACES ?g_LONG_GROUPS ?l_LONG_GROUPS ?y_LONG_GROUPS ?x_LONG_GROUPS ?l_LONG_GROUPS_any ?c_LONG_GROUPS_any ?e_LONG_GROUPS_any ?d_LONG_GROUPS_any ?z_LONG_GROUPS_any ?v_LONG_GROUPS_any ?l_LONG_GROUPS_near ?c_LONG_GROUPS_near ?e_LONG_GROUPS_near ?d_LONG_GROUPS_near ?z_LONG_GROUPS_near ?v_LONG_GROUPS_near ?l_LONG_GROUPS_far ?c_LONG_GROUPS_far ?e_LONG_GROUPS_far ?d_LONG_GROUPS_far ?z_LONG_GROUPS_far ?v_LONG_GROUPS_far ?l_LONG_GROUPS_less ?c_LONG_GROUPS_less ?e_LONG_GROUPS_less ?d_LONG_GROUPS_less ?z_LONG_GROUPS_less ?v_LONG_GROUPS_less ?l_LONG_GROUPS_more ?c_LONG_GROUPS_more ?e_LONG_GROUPS_more ?d_LONG_GROUPS_more ?z_LONG_GROUPS_more ?v_LONG_GROUPS_more ?l_LONG_GROUPS_under ?c_LONG_GROUPS_under ?e_LONG_GROUPS_under ?d_LONG_GROUPS_under ?z_LONG_GROUPS_under ?v_LONG_GROUPS_under ?l_LONG_GROUPS_over ?c_LONG_GROUPS_over ?e_LONG_GROUPS_over ?d_LONG_GROUPS_over ?z_LONG_GROUPS_over ?v_LONG_GROUPS_over ?l_LONG_GROUPS_cell ?c_LONG_GROUPS_cell ?e_LONG_GROUPS_cell ?d_LONG_GROUPS_cell ?z_LONG_GROUPS_cell ?v_LONG_GROUPS_cell ?l_LONG_GROUPS_none ?c_LONG_GROUPS_none ?e_LONG_GROUPS_none ?d_LONG_GROUPS_none ?z_LONG_GROUPS_none ?v_LONG_GROUPS_none
    (case a_is_number => k_is)
    (case l_is_number => k_is)
    (case c_is_number => k_is)
    (case k_is_number => k_is)
    (case a_check_number => k_is)
    (case l_check_number => k_is)
    (case c_check_number => k_is)
    (case k_check_number => k_is)
    (case a_check_tolerance => k_is)
    (case l_check_tolerance => k_is)
    (case c_check_tolerance => k_is)
    (case k_check_tolerance => k_is)
    (case a_sign_of => k_is)
    (case l_sign_of => k_is)
    (case c_sign_of => k_is)
    (case k_sign_of => k_is)
    (case a_place_of => k_is)
    (case l_place_of => k_is)
    (case c_place_of => k_is)
    (case k_place_of => k_is)
    (case a_place => k_is)
    (case l_place => k_is)
    (case c_place => k_is)
    (case k_place => k_is)
    (case a_is_group => k_is)
    (case l_is_group => k_is)
    (case c_is_group => k_is)
    (case k_is_group => k_is)
    (case a_group => k_is)
    (case l_group => k_is)
    (case c_group => k_is)
    (case k_group => k_is)
    (case a__law_source => k_is)
    (case l__law_source => k_is)
    (case c__law_source => k_is)
    (case k__law_source => k_is)
    (case a__law_draw => k_is)
    (case l__law_draw => k_is)
    (case c__law_draw => k_is)
    (case k__law_draw => k_is)
    (case a__law_group_names => k_is)
    (case l__law_group_names => k_is)
    (case c__law_group_names => k_is)
    (case k__law_group_names => k_is)
    (case a__law_tolerance => k_is)
    (case l__law_tolerance => k_is)
    (case c__law_tolerance => k_is)
    (case k__law_tolerance => k_is)
    (case a_law => k_is)
    (case l_law => k_is)
    (case c_law => k_is)
    (case k_law => k_is)
    (case m_int => k_is)
    (case m_bool => k_is)
    (case m_str => k_is)
    (case m_range => k_is)
    (case m_isinstance => k_is)
    (case m_abs => k_is)
    (case m_super => k_is)
    (case m_ValueError => k_is)
    (case g_BOUND => k_is)
    (case g_PLACES => k_is)
    (case l_PLACES => k_is)
    (case c_PLACES => rfl)
    (case e_PLACES => rfl)
    (case d_PLACES => rfl)
    (case z_PLACES => decide)
    (case v_PLACES => exact .cons ⟨_, rfl⟩ (.cons ⟨_, rfl⟩ (.cons ⟨_, rfl⟩ (.cons ⟨_, rfl⟩ (.cons ⟨_, rfl⟩ (.cons ⟨_, rfl⟩ (.cons ⟨_, rfl⟩ (.cons ⟨_, rfl⟩ (.cons ⟨_, rfl⟩ (.cons ⟨_, rfl⟩ (.cons ⟨_, rfl⟩ (.nil))))))))))))
    (case g_LONG_GROUPS => k_is)
    (case l_LONG_GROUPS => k_is)
    (case y_LONG_GROUPS => first | rfl | decide)
    (case x_LONG_GROUPS => exact ⟨⟨_, rfl⟩, rfl, rfl, ⟨⟨_, rfl⟩, rfl, rfl, ⟨⟨_, rfl⟩, rfl, rfl, ⟨⟨_, rfl⟩, rfl, rfl, ⟨⟨_, rfl⟩, rfl, rfl, ⟨⟨_, rfl⟩, rfl, rfl, ⟨⟨_, rfl⟩, rfl, rfl, ⟨⟨_, rfl⟩, rfl, rfl, ⟨⟨_, rfl⟩, rfl, rfl, True.intro⟩⟩⟩⟩⟩⟩⟩⟩⟩)
    (case l_LONG_GROUPS_any => k_is)
    (case c_LONG_GROUPS_any => rfl)
    (case e_LONG_GROUPS_any => rfl)
    (case d_LONG_GROUPS_any => rfl)
    (case z_LONG_GROUPS_any => decide)
    (case v_LONG_GROUPS_any => exact .cons ⟨_, rfl⟩ (.cons ⟨_, rfl⟩ (.cons ⟨_, rfl⟩ (.cons ⟨_, rfl⟩ (.cons ⟨_, rfl⟩ (.cons ⟨_, rfl⟩ (.cons ⟨_, rfl⟩ (.cons ⟨_, rfl⟩ (.cons ⟨_, rfl⟩ (.cons ⟨_, rfl⟩ (.cons ⟨_, rfl⟩ (.nil))))))))))))
    (case l_LONG_GROUPS_near => k_is)
    (case c_LONG_GROUPS_near => rfl)
    (case e_LONG_GROUPS_near => rfl)
    (case d_LONG_GROUPS_near => rfl)
    (case z_LONG_GROUPS_near => decide)
    (case v_LONG_GROUPS_near => exact .cons ⟨_, rfl⟩ (.cons ⟨_, rfl⟩ (.cons ⟨_, rfl⟩ (.cons ⟨_, rfl⟩ (.cons ⟨_, rfl⟩ (.cons ⟨_, rfl⟩ (.cons ⟨_, rfl⟩ (.nil))))))))
    (case l_LONG_GROUPS_far => k_is)
    (case c_LONG_GROUPS_far => rfl)
    (case e_LONG_GROUPS_far => rfl)
    (case d_LONG_GROUPS_far => rfl)
    (case z_LONG_GROUPS_far => decide)
    (case v_LONG_GROUPS_far => exact .cons ⟨_, rfl⟩ (.cons ⟨_, rfl⟩ (.cons ⟨_, rfl⟩ (.cons ⟨_, rfl⟩ (.nil)))))
    (case l_LONG_GROUPS_less => k_is)
    (case c_LONG_GROUPS_less => rfl)
    (case e_LONG_GROUPS_less => rfl)
    (case d_LONG_GROUPS_less => rfl)
    (case z_LONG_GROUPS_less => decide)
    (case v_LONG_GROUPS_less => exact .cons ⟨_, rfl⟩ (.cons ⟨_, rfl⟩ (.cons ⟨_, rfl⟩ (.cons ⟨_, rfl⟩ (.cons ⟨_, rfl⟩ (.nil))))))
    (case l_LONG_GROUPS_more => k_is)
    (case c_LONG_GROUPS_more => rfl)
    (case e_LONG_GROUPS_more => rfl)
    (case d_LONG_GROUPS_more => rfl)
    (case z_LONG_GROUPS_more => decide)
    (case v_LONG_GROUPS_more => exact .cons ⟨_, rfl⟩ (.cons ⟨_, rfl⟩ (.cons ⟨_, rfl⟩ (.cons ⟨_, rfl⟩ (.cons ⟨_, rfl⟩ (.nil))))))
    (case l_LONG_GROUPS_under => k_is)
    (case c_LONG_GROUPS_under => rfl)
    (case e_LONG_GROUPS_under => rfl)
    (case d_LONG_GROUPS_under => rfl)
    (case z_LONG_GROUPS_under => decide)
    (case v_LONG_GROUPS_under => exact .cons ⟨_, rfl⟩ (.cons ⟨_, rfl⟩ (.nil)))
    (case l_LONG_GROUPS_over => k_is)
    (case c_LONG_GROUPS_over => rfl)
    (case e_LONG_GROUPS_over => rfl)
    (case d_LONG_GROUPS_over => rfl)
    (case z_LONG_GROUPS_over => decide)
    (case v_LONG_GROUPS_over => exact .cons ⟨_, rfl⟩ (.cons ⟨_, rfl⟩ (.nil)))
    (case l_LONG_GROUPS_cell => k_is)
    (case c_LONG_GROUPS_cell => rfl)
    (case e_LONG_GROUPS_cell => rfl)
    (case d_LONG_GROUPS_cell => rfl)
    (case z_LONG_GROUPS_cell => decide)
    (case v_LONG_GROUPS_cell => exact .cons ⟨_, rfl⟩ (.cons ⟨_, rfl⟩ (.cons ⟨_, rfl⟩ (.nil))))
    (case l_LONG_GROUPS_none => k_is)
    (case c_LONG_GROUPS_none => rfl)
    (case e_LONG_GROUPS_none => rfl)
    (case d_LONG_GROUPS_none => rfl)
    (case z_LONG_GROUPS_none => decide)
    (case v_LONG_GROUPS_none => exact .nil)
#print axioms PySem.Challenge.cw_nearloops_k02_whole_groups_by_distance_holds

