import PyProof.Rows.All
import Wide.All
import OpenK.AllK
import Wide.FinOn
import HandS.ForMost
import HandS.ForExc
import HandS.Wide
import HandS.IsInst
import HandS.Flow
import HandS.Style
import HandS.Strs
import HandS.More
import HandS.TupAny
import HandS.SortInts
import HandS.Evl
import HandS.Zip
import HandS.NoneIn
import HandS.SetKeys
import HandS.DictComp
import HandS.Star
import HandS.Property
import HandS.Defaults
import HandS.Walk
import HandS.Deep
import HandS.DeepEq
import HandS.FStr
import HandS.RaiseMore
import PyProof.DictMoreH
import KE.KDictWalk
import KE.KeyNested
import PyProof.DictRoadsH
import KE.GoesEnum
import KE.GoesMore
import HandS.OwnEq
import OpenK.KOps
import PyProof.DictUpdate
import HandS.Lambda
import HandS.SetBool
import HandS.Set
import HandS.Conv
import PyProof.InstEq
import KE.GoesEnumKw
import HandS.SortKw
import HandS.Text
import HandS.ClsMeth
import HandS.ExcInit
import HandS.ExcSuper
import HandS.ExcField
import KE.KExcSuper
import HandS.WordsExc
import HandS.TryMany
import HandS.TryOnly
import HandS.ExcOwn
import HandS.FStrTup
import PyProof.FString2
import HandS.ExcIs
import PySem.Challenge.RW_nearloops_k35_errors_made
set_option Elab.async false
set_option linter.all false
set_option maxRecDepth 100000
set_option maxHeartbeats 4000000
/-! own words and lemmas over the layer: heaps, tests, items -/
namespace NL
open PySem L2
section
variable {H H' : Hp} {a b p q : Addr} {o u : HO}
theorem upd_keep (h : H b = some u) (n : H a = none) : upd H a o b = some u := by
  rw [upd_ne (ne_of_none h n)]; exact h
theorem upd_skip (h : b ≠ a) (hb : H b = some u) : upd H a o b = some u := by
  rw [upd_ne h]; exact hb
theorem ne_new (h : H p = some o) (n : H q = none) : q ≠ p := (ne_of_none h n).symm
theorem same_new (n : H a = none) : Same H (upd H a o) := fun c x e => upd_keep e n
theorem upd_no (h : upd H p o q = none) : H q = none := by
  unfold upd at h; split at h
  · cases h
  · exact h
theorem upd_none_ne (h : upd H p o q = none) : q ≠ p := by
  intro e; subst e; rw [upd_same] at h; cases h
/-- all but p stands -/
def But (p : Addr) (H H' : Hp) : Prop := ∀ c x, c ≠ p → H c = some x → H' c = some x
theorem But.refl : But p H H := fun _ _ _ h => h
theorem But.trans {H1 H2 H3 : Hp} (x : But p H1 H2) (y : But p H2 H3) : But p H1 H3 := fun c z n h => y c z n (x c z n h)
theorem But.upd (x : But p H H') : But p H (upd H' p o) := fun c z n h => upd_skip n (x c z n h)
theorem But.new (x : But p H H') (n : H' a = none) : But p H (L2.upd H' a o) := fun c z m h => upd_keep (x c z m h) n
theorem But.of_same (x : Same H H') : But p H H' := fun c z _ h => x c z h
theorem But.at (x : But p H H') (n : a ≠ p) (h : H a = some o) : H' a = some o := x a o n h
theorem But.same (x : But p H H') (n : H p = none) : Same H H' := fun c z h => x c z (ne_of_none h n) h
end
theorem ifD {c A B : Prop} [Decidable c] (h1 : c → A) (h2 : ¬ c → B) : if decide c = true then A else B := by
  by_cases h : c
  · rw [if_pos (decide_eq_true h)]; exact h1 h
  · rw [if_neg (by rw [decide_eq_false h]; decide)]; exact h2 h
theorem ifN {c A B : Prop} [Decidable c] (h1 : ¬ c → A) (h2 : c → B) : if (!decide c) = true then A else B := by
  by_cases h : c
  · rw [if_neg (by rw [decide_eq_true h]; decide)]; exact h2 h
  · rw [if_pos (by rw [decide_eq_false h]; decide)]; exact h1 h
theorem ifB {A B : Prop} (b : Bool) (h1 : b = true → A) (h2 : b = false → B) : if b = true then A else B := by
  cases b with
  | true => rw [if_pos rfl]; exact h1 rfl
  | false => rw [if_neg (by decide)]; exact h2 rfl
theorem ifT {A B : Prop} {b : Bool} (hb : b = true) (h : A) : if b = true then A else B := by rw [if_pos hb]; exact h
theorem ifF {A B : Prop} {b : Bool} (hb : b = false) (h : B) : if b = true then A else B := by rw [if_neg (by rw [hb]; decide)]; exact h
theorem atI_mem {α : Type} {xs : List α} {i : Int} (h0 : 0 ≤ i) (h1 : i < (xs.length : Int)) : ∃ v, atI xs i = some v ∧ v ∈ xs := by
  have hl : i.toNat < xs.length := by omega
  refine ⟨xs[i.toNat], ?_, List.getElem_mem hl⟩
  have e : ((i.toNat : Nat) : Int) = i := Int.toNat_of_nonneg h0
  have := atI_nat (xs := xs) (j := i.toNat) (v := xs[i.toNat]) (List.getElem?_eq_getElem hl)
  rw [e] at this; exact this
theorem sz1000 {n : Nat} (h : n ≤ 1000) : n ≤ sizeLine := Nat.le_of_lt (small1000 h)
theorem sz100k {n : Nat} (h : n ≤ 100000) : n ≤ sizeLine := Nat.le_trans h (by decide)
theorem sz100k_lt {n : Nat} (h : n < 100000) : n < sizeLine := Nat.lt_of_lt_of_le h (by decide)
/-! comprehensions whose elements are values that do not hang on the heap -/
theorem wipe_set (σ : L2.St) (j : Nat) (x : Option V) : wipe ((wipe σ [j]).set j x) [j] = wipe σ [j] := by
  show (((σ.set j none).set j x).set j none) = σ.set j none
  rw [List.set_set, List.set_set]
theorem take_snoc {α : Type} : ∀ {l : List α} {i : Nat} {x : α}, l[i]? = some x → l.take (i + 1) = l.take i ++ [x]
  | [], i, x, h => by simp at h
  | a :: l, 0, x, h => by
    have e : a = x := Option.some.inj h
    subst e; rfl
  | a :: l, i + 1, x, h => by
    show a :: l.take (i + 1) = a :: l.take i ++ [x]
    rw [take_snoc (l := l) (i := i) h]; rfl
theorem filt_snoc {p : V → Bool} {f : V → V} {xs : List V} {i : Nat} {x : V} (h : xs[i]? = some x) :
    ((xs.take (i + 1)).filter p).map f = if p x = true then ((xs.take i).filter p).map f ++ [f x] else ((xs.take i).filter p).map f := by
  rw [take_snoc h, List.filter_append, List.map_append]
  by_cases hp : p x = true
  · rw [if_pos hp]; simp [List.filter, hp]
  · rw [if_neg hp]
    have hp : p x = false := by simpa using hp
    simp [List.filter, hp]
section
variable {K : PySem.W.Frag} {a : Addr} {xs : List V} {tt : TT} {te : TE} {j : Nat} {σ : L2.St} {H : Hp} {D : Addr} {Qd : Hp → Prop} {p : V → Bool} {f : V → V}
/-- one turn, whatever is walked -/
theorem lc_turn {x : V} {acc : List V} {H' : Hp} {N : Hp → Prop} (nD : H D = none) (sm : Same H H') (hD : H' D = some (.lst acc)) (hb : acc.length ≤ 10000)
    (ht : ∀ (k : Bool → Hp → Prop), (∀ H'', Same H' H'' → k (p x) H'') → tt ((wipe σ [j]).set j (some x)) H' k)
    (he : ∀ (H1 : Hp) (k : VK), Same H' H1 → p x = true → (∀ H'', Same H1 H'' → k (f x) H'') → te ((wipe σ [j]).set j (some x)) H1 k)
    (hN : ∀ H'', Same H H'' → H'' D = some (.lst (if p x = true then acc ++ [f x] else acc)) → N H'') :
    gName j x (wipe σ [j]) H' fun σ2 H2 => wipe σ2 [j] = wipe σ [j] ∧ tt σ2 H2 fun b H3 => if b = true then te σ2 H3 fun y H4 => ∃ acc, H4 D = some (.lst acc) ∧ acc.length < sizeLine ∧ N (upd H4 D (.lst (acc ++ [y]))) else N H3 := by
  refine ⟨wipe_set σ j (some x), ht _ fun H1 s1 => ?_⟩
  refine ifB _ (fun hp => ?_) (fun hp => ?_)
  · refine he H1 _ s1 hp fun H2 s2 => ?_
    refine ⟨acc, s2 _ _ (s1 _ _ hD), Nat.lt_of_le_of_lt hb (by decide), hN _ (fun c o e => ?_) ?_⟩
    · exact upd_skip (ne_of_none e nD) (s2 _ _ (s1 _ _ (sm _ _ e)))
    · rw [if_pos hp]; exact upd_same
  · refine hN _ (sm.trans s1) ?_
    rw [if_neg (by rw [hp]; decide)]; exact s1 _ _ hD
theorem filt_len (n : Nat) : (((xs.take n).filter p).map f).length ≤ xs.length := by
  rw [List.length_map]
  exact Nat.le_trans (List.length_filter_le _ _) (by rw [List.length_take]; omega)
theorem lcL_filt (nD : H D = none) (hl : SqL K H a xs) (hb : xs.length ≤ 10000)
    (ht : ∀ (i : Nat) (x : V) (H' : Hp) (k : Bool → Hp → Prop), xs[i]? = some x → Same H H' → (∀ H'', Same H' H'' → k (p x) H'') → tt ((wipe σ [j]).set j (some x)) H' k)
    (he : ∀ (i : Nat) (x : V) (H' : Hp) (k : VK), xs[i]? = some x → p x = true → Same H H' → (∀ H'', Same H' H'' → k (f x) H'') → te ((wipe σ [j]).set j (some x)) H' k)
    (hd : ∀ H', Same H H' → H' D = some (.lst ((xs.filter p).map f)) → Qd H') :
    ∃ W : Nat → Nat → Hp → Prop, (∃ m, W 0 m (upd H D (.lst []))) ∧ ∀ i m H, W i m H →
      ((Itl K a).stop i H ∧ Qd H) ∨ ((Itl K a).go i H ∧ ∃ Nx : Hp → Prop, (∀ H', Nx H' → ∃ m', m' < m ∧ W (i + 1) m' H') ∧ ∀ x H', (Itl K a).yld i H x H' → gName j x (wipe σ [j]) H' fun σ2 H2 => wipe σ2 [j] = wipe σ [j] ∧ tt σ2 H2 fun b H3 =>
        if b = true then te σ2 H3 fun y H4 => ∃ acc, H4 D = some (.lst acc) ∧ acc.length < sizeLine ∧ Nx (upd H4 D (.lst (acc ++ [y]))) else Nx H3) := by
  refine lc_list (K := K) (a := a) (xs := xs) (fun i H' => Same H H' ∧ H' D = some (.lst (((xs.take i).filter p).map f))) ⟨same_new nD, upd_same⟩ (fun i H' _ h => h.1.seq hl) ?_ ?_
  · rintro i x H' hx ⟨sm, hD⟩
    refine lc_turn nD sm hD (Nat.le_trans (filt_len i) hb) (fun k hk => ht i x H' k hx sm hk) (fun H1 k s1 hp hk => he i x H1 k hx hp (sm.trans s1) hk) fun H'' s2 e => ⟨s2, ?_⟩
    rw [filt_snoc hx]; exact e
  · rintro H' ⟨sm, hD⟩
    rw [List.take_length] at hD
    exact hd H' sm hD
theorem lcT_filt (nD : H D = none) (hl : SqT K H a xs) (hb : xs.length ≤ 10000)
    (ht : ∀ (i : Nat) (x : V) (H' : Hp) (k : Bool → Hp → Prop), xs[i]? = some x → Same H H' → (∀ H'', Same H' H'' → k (p x) H'') → tt ((wipe σ [j]).set j (some x)) H' k)
    (he : ∀ (i : Nat) (x : V) (H' : Hp) (k : VK), xs[i]? = some x → p x = true → Same H H' → (∀ H'', Same H' H'' → k (f x) H'') → te ((wipe σ [j]).set j (some x)) H' k)
    (hd : ∀ H', Same H H' → H' D = some (.lst ((xs.filter p).map f)) → Qd H') :
    ∃ W : Nat → Nat → Hp → Prop, (∃ m, W 0 m (upd H D (.lst []))) ∧ ∀ i m H, W i m H →
      ((Itt K a).stop i H ∧ Qd H) ∨ ((Itt K a).go i H ∧ ∃ Nx : Hp → Prop, (∀ H', Nx H' → ∃ m', m' < m ∧ W (i + 1) m' H') ∧ ∀ x H', (Itt K a).yld i H x H' → gName j x (wipe σ [j]) H' fun σ2 H2 => wipe σ2 [j] = wipe σ [j] ∧ tt σ2 H2 fun b H3 =>
        if b = true then te σ2 H3 fun y H4 => ∃ acc, H4 D = some (.lst acc) ∧ acc.length < sizeLine ∧ Nx (upd H4 D (.lst (acc ++ [y]))) else Nx H3) := by
  have sq : ∀ {H' : Hp}, Same H H' → SqT K H' a xs := fun {H'} sm => by
    rcases hl with (h | ⟨o, h⟩) | h
    · exact .inl (.inl (sm _ _ h))
    · exact .inl (.inr ⟨o, sm _ _ h⟩)
    · exact .inr h
  refine lc_tup (K := K) (a := a) (xs := xs) (fun i H' => Same H H' ∧ H' D = some (.lst (((xs.take i).filter p).map f))) ⟨same_new nD, upd_same⟩ (fun i H' _ h => sq h.1) ?_ ?_
  · rintro i x H' hx ⟨sm, hD⟩
    refine lc_turn nD sm hD (Nat.le_trans (filt_len i) hb) (fun k hk => ht i x H' k hx sm hk) (fun H1 k s1 hp hk => he i x H1 k hx hp (sm.trans s1) hk) fun H'' s2 e => ⟨s2, ?_⟩
    rw [filt_snoc hx]; exact e
  · rintro H' ⟨sm, hD⟩
    rw [List.take_length] at hD
    exact hd H' sm hD
theorem filt_all {xs : List V} {f : V → V} : (xs.filter fun _ => true).map f = xs.map f := by rw [List.filter_eq_self.mpr (fun _ _ => rfl)]
end
theorem SqT_same {K : PySem.W.Frag} {H H' : Hp} {a : Addr} {xs : List V} (sm : Same H H') (hl : SqT K H a xs) : SqT K H' a xs := by
  rcases hl with (h | ⟨o, h⟩) | h
  · exact .inl (.inl (sm _ _ h))
  · exact .inl (.inr ⟨o, sm _ _ h⟩)
  · exact .inr h
/-! data -/
theorem dpAll_str {K : PySem.W.Frag} {H : Hp} : ∀ zs : List Str, DpAll K H (zs.map V.str) (zs.map PyData.str)
  | [] => .nil
  | z :: zs => .cons (.str z) (dpAll_str zs)
theorem dpAll_int {K : PySem.W.Frag} {H : Hp} : ∀ zs : List Int, DpAll K H (zs.map V.int) (zs.map PyData.int)
  | [] => .nil
  | z :: zs => .cons (.int z) (dpAll_int zs)
theorem canLay_strs : ∀ {zs : List Str}, (∀ z ∈ zs, PyData.strOk z = true) → PyData.canLayAll0 (zs.map PyData.str) = true
  | [], _ => rfl
  | z :: zs, h => by
    show (PyData.strOk z && PyData.canLayAll0 (zs.map PyData.str)) = true
    rw [h z List.mem_cons_self, canLay_strs fun y hy => h y (List.mem_cons_of_mem _ hy)]; rfl
theorem depth_strs : ∀ zs : List Str, PyData.depthAll (zs.map PyData.str) = 0
  | [] => rfl
  | z :: zs => by
    show max 0 (PyData.depthAll (zs.map PyData.str)) = 0
    rw [depth_strs zs]; rfl
theorem shaped_of {d : PyData} (h : d.canLay0 = true) (h2 : d.depth ≤ 64) : SeqAt.shaped d = true := by
  unfold SeqAt.shaped; rw [h, decide_eq_true h2]; rfl
theorem shapedL_strs {zs : List Str} (h : ∀ z ∈ zs, PyData.strOk z = true) : SeqAt.shaped (.list (zs.map .str)) = true :=
  shaped_of (canLay_strs h) (by show PyData.depthAll (zs.map PyData.str) + 1 ≤ 64; rw [depth_strs]; decide)
theorem shapedT_strs {zs : List Str} (h : ∀ z ∈ zs, PyData.strOk z = true) : SeqAt.shaped (.tuple (zs.map .str)) = true :=
  shaped_of (canLay_strs h) (by show PyData.depthAll (zs.map PyData.str) + 1 ≤ 64; rw [depth_strs]; decide)
theorem eqv_same {d : PyData} (h : SeqAt.shaped d = true) : PyData.eqv d d = true := SeqAt.eqv_refl d (SeqAt.canLay_of_shaped h)
theorem flats_str (zs : List Str) : (zs.map V.str).all flatV = true := by
  rw [List.all_eq_true]; intro x hx
  obtain ⟨z, _, rfl⟩ := List.mem_map.mp hx; rfl
theorem inV_strs (z : Str) : ∀ zs : List Str, inV (.str z) (zs.map V.str) = decide (z ∈ zs)
  | [] => by simp [inV]
  | y :: zs => by
    show (eqV (.str y) (.str z) || inV (.str z) (zs.map V.str)) = _
    rw [inV_strs z zs]
    have e : eqV (.str y) (.str z) = decide (y = z) := by
      show (y == z) = _
      by_cases h : y = z
      · subst h; simp
      · simp [h]
    rw [e]
    by_cases h : y = z
    · subst h; simp
    · have h2 : ¬ z = y := fun q => h q.symm
      simp [h, h2]
/-! a dict of the module with texts as keys -/
/-- the entries of a written dict, one by one -/
def KPairs (P : Params) : List (Str × V) → List DictEntry → Prop
  | [], [] => True
  | (x, v) :: r, e :: es => (∃ t, e.key = .str x t) ∧ e.hash = PyData.keyHash P x ∧ RelV v e.val ∧ KPairs P r es
  | _, _ => False
theorem KPairs.keys {P : Params} : ∀ {tab : List (Str × V)} {es : List DictEntry}, KPairs P tab es → PySem.W.KeysLit P es
  | [], [], _ => True.intro
  | (x, v) :: r, e :: es, ⟨⟨t, h1⟩, h2, _, h4⟩ => ⟨⟨x, t, h1, h2⟩, KPairs.keys h4⟩
theorem KPairs.find {P : Params} {z : Str} : ∀ {tab : List (Str × V)} {es : List DictEntry}, KPairs P tab es → RelO (tab.lookup z) ((es.find? fun d => Value.isStrOf z d.key).map (·.val))
  | [], [], _ => True.intro
  | (x, v) :: r, e :: es, ⟨⟨t, h1⟩, h2, h3, h4⟩ => by
    rw [List.lookup_cons, List.find?_cons, h1]
    by_cases hz : z = x
    · subst hz
      have e1 : (z == z) = true := by simp
      have e2 : Value.isStrOf z (.str z t) = true := by simp [Value.isStrOf]
      rw [e1, e2]; exact h3
    · have e1 : (z == x) = false := by simpa using hz
      have e2 : Value.isStrOf z (.str x t) = false := by simp [Value.isStrOf, hz]; intro q; exact hz q.symm
      rw [e1, e2]; exact KPairs.find h4
def KDt (w : World) (K : PySem.W.Frag) (a : Addr) (tab : List (Str × V)) : Prop :=
  ∃ es n, K.lookup a = some ⟨.type "dict", none, .dict es n, #[]⟩ ∧ (a == sysModules) = false ∧ KPairs w.params tab es.toList
theorem find_arr {es : Array DictEntry} {z : Str} : PySem.findBy Value.isStrOf es z = (es.toList.find? fun d => Value.isStrOf z d.key).map (·.val) := by
  obtain ⟨l⟩ := es
  unfold PySem.findBy
  rw [List.find?_toArray] <;> rfl
def rInKD (w : World) (K : PySem.W.Frag) : R2 := fun x y H Q => ∃ p z tab, x = .str z ∧ y = .ref p ∧ KDt w K p tab ∧ Q (.bl (tab.lookup z).isSome) H
def rIxKD (w : World) (K : PySem.W.Frag) : R2 := fun x y H Q => ∃ p z tab v, x = .ref p ∧ y = .str z ∧ KDt w K p tab ∧ tab.lookup z = some v ∧ Q v H
theorem op_inKD {X : Cx} : OpR X (compareOp .In) (rInKD X.w X.K) := by
  intro pins s σ H x y v u Q I rx ry h
  obtain ⟨p, z, tab, rfl, rfl, ⟨es, n, hl, lo, kp⟩, q⟩ := h
  obtain ⟨t, rfl⟩ := rx
  obtain rfl : u = Value.ref p := ry
  have hm := PySem.W.mapOf_K (prog := X.prog) (w := X.w) I.kIn hl kp.keys
  refine wpAny_in_of (PySem.strKind_is X.prog X.w z t) lo hm ?_
  have e := kp.find (z := z)
  rw [← find_arr] at e
  refine ⟨.bl (tab.lookup z).isSome, H, I.tok _, ?_, q⟩
  show Value.bool _ = Value.bool _
  generalize PySem.findBy Value.isStrOf es z = o1 at e
  generalize tab.lookup z = o2 at e
  cases o1 <;> cases o2 <;> first | rfl | exact e.elim
theorem ix_KD {X : Cx} : IxR X (rIxKD X.w X.K) := by
  intro value slice pins s σ H x y v u Q I rx ry h hs
  obtain ⟨p, z, tab, r, rfl, rfl, ⟨es, n, hl, lo, kp⟩, hr, q⟩ := h
  obtain rfl : v = Value.ref p := rx
  obtain ⟨t, rfl⟩ := ry
  have hm := PySem.W.mapOf_K (prog := X.prog) (w := X.w) I.kIn hl kp.keys
  have e := kp.find (z := z)
  rw [← find_arr, hr] at e
  cases o1 : PySem.findBy Value.isStrOf es z with
  | none => rw [o1] at e; exact e.elim
  | some u0 =>
    rw [o1] at e
    exact PyProof.Rows.tail_any hm.typeIs slot_dict_getitem.lookup (wpAny_getItem_of (PySem.strKind_is X.prog X.w z t) hm o1 ⟨r, H, I.tok _, e, q⟩) hs
theorem dl0 (more : List (Key × V)) (h : more.length ≤ 50) : (mergeK [] more).length ≤ 50 := by
  have := length_mergeK more []
  simp only [List.length_nil] at this; omega
theorem dl1 {kvs : List (Key × V)} {k : Key} {v : V} {n : Nat} (h : kvs.length ≤ n) : (putK kvs k v).length ≤ n + 1 := Nat.le_trans (length_putK _ _ _) (Nat.succ_le_succ h)
/-! the source -/
/-- at p stands a source that has been drawn from c times -/
def Src (H : Hp) (p : Addr) (c : Int) : Prop := ∃ g s : Int, H p = some (.lst [.int g, .int s, .int c]) ∧ 0 ≤ s ∧ s < 2147483647 ∧ 0 ≤ c
section
variable {H H' : Hp} {p q : Addr} {c : Int} {o : HO}
theorem Src.nn (h : Src H p c) : 0 ≤ c := by obtain ⟨_, _, _, _, _, h⟩ := h; exact h
theorem Src.ne (h : Src H p c) (n : H q = none) : q ≠ p := by obtain ⟨_, _, e, _⟩ := h; exact ne_new e n
theorem Src.keep (h : Src H p c) (n : H q = none) : Src (L2.upd H q o) p c := by
  obtain ⟨g, s, e, r⟩ := h; exact ⟨g, s, upd_keep e n, r⟩
theorem Src.skip (h : Src H p c) (n : p ≠ q) : Src (L2.upd H q o) p c := by
  obtain ⟨g, s, e, r⟩ := h; exact ⟨g, s, upd_skip n e, r⟩
theorem Src.same (h : Src H p c) (s : Same H H') : Src H' p c := by
  obtain ⟨g, z, e, r⟩ := h; exact ⟨g, z, s _ _ e, r⟩
end
/-! places -/
def signS (i j : Int) : Str := if i = j then "=" else if i < j then "<" else ">"
def placeOfS (d : Int) (z : Str) : Str := if d < -1 then "below" else if 1 < d then "above" else (if d = -1 then "-" else if d = 1 then "+" else "") ++ z
def placeS (x k e : Int) : Str := placeOfS (x / e - k / e) (signS (x % e) (k % e))
theorem signS_len (i j : Int) : (signS i j).length ≤ 1000 := by
  unfold signS; split
  · decide
  · split <;> decide
end NL
namespace NL
open PySem L2
/-! ### an expression's value, told by a word of one's own -/
def tCutE (t : TE) : TE := fun σ H Q => ∃ M : V → Hp → Prop, t σ H M ∧ ∀ v H', M v H' → Q v H'
theorem pe_cut {X : Cx} {e : Expr} {t : TE} (h : PE X e t) : PE X e (tCutE t) := by
  refine ⟨fun pins s σ H Q I hw => ?_⟩
  obtain ⟨M, hM, hQ⟩ := hw
  exact thn (h.run pins s σ H M I hM) fun v s1 ⟨x, H1, I1, r, q⟩ => ⟨x, H1, I1, r, hQ x H1 q⟩
/-! ### a list or a tuple -/
def Sq (K : PySem.W.Frag) (H : Hp) (a : Addr) (xs : List V) : Prop := SqL K H a xs ∨ SqT K H a xs
section
variable {K : PySem.W.Frag} {H H' : Hp} {a b : Addr} {xs : List V}
theorem Sq.same (s : Same H H') (h : Sq K H a xs) : Sq K H' a xs := by
  rcases h with h | h
  · exact .inl (s.seq h)
  · exact .inr (SqT_same s h)
theorem Sq.lst (h : H a = some (.lst xs)) : Sq K H a xs := .inl (SqL.of h)
theorem Sq.tup (h : H a = some (.tup xs)) : Sq K H a xs := .inr (SqT.of h)
/-- its type is list or tuple -/
theorem SqL.tyx (h : SqL K H a xs) : TyX K H (.ref a) (.type "list") := by
  rcases h with (h | ⟨o, h⟩) | ⟨o, its, n, h1, h2, _⟩
  · exact .base (.lst h)
  · exact .base (.frz h)
  · exact .kList h1 h2
theorem SqT.tyx (h : SqT K H a xs) : TyX K H (.ref a) (.type "tuple") := by
  rcases h with (h | ⟨o, h⟩) | ⟨o, its, n, h1, h2, _⟩
  · exact .base (.tup h)
  · exact .fTuple h
  · exact .kTuple h1 h2
theorem Sq.len (h : Sq K H a xs) : LenV K (.ref a) H xs.length := by
  rcases h with h | h
  · exact .inl ⟨xs, h, rfl⟩
  · exact .inr ⟨xs, h, rfl⟩
/-- isinstance(x, (list, tuple)): true -/
theorem isLT (h : Sq K H a xs) : ∃ t us, Paired ClsV [.ty "list", .ty "tuple"] us ∧ TyX K H (.ref a) t ∧ PySem.W.kitAny K t us = some true := by
  rcases h with h | h
  · exact ⟨_, [.type "list", .type "tuple"], .cons (.ty _) (.cons (.ty _) .nil), SqL.tyx h, kitAny_cons (b := true) (kit_ty (by decide +kernel)) (fun z => nomatch z) (fun _ => rfl)⟩
  · exact ⟨_, [.type "list", .type "tuple"], .cons (.ty _) (.cons (.ty _) .nil), SqT.tyx h, kitAny_cons (b := false) (kit_ty (by decide +kernel)) (fun _ => kitAny_cons (b := true) (kit_ty (by decide +kernel)) (fun z => nomatch z) (fun _ => rfl)) (fun z => nomatch z)⟩
theorem rIx_seq (h : Sq K H a xs) {i : Int} {v : V} (hv : atI xs i = some v) {Q : VK} (q : Q v H) : rIx K (.ref a) (.int i) H Q := by
  rcases h with h | h
  · exact .inl ⟨_, _, _, _, rfl, rfl, h, hv, q⟩
  · exact .inr (.inl ⟨_, _, _, _, rfl, rfl, h, hv, q⟩)
end
/-- a list or a tuple of xs, locked or not -/
def isSeqO (xs : List V) (o : HO) : Prop := o = .lst xs ∨ o = .tup xs ∨ ∃ ob, o = .frz ob (.lst xs) ∨ o = .frz ob (.tup xs)
theorem seqL_at {K : PySem.W.Frag} {H H' : Hp} {a : Addr} {xs : List V} (e : ∀ o, H a = some o → isSeqO xs o → H' a = some o) (h : SqL K H a xs) : SqL K H' a xs := by
  rcases h with (h | ⟨o, h⟩) | h
  · exact .inl (.inl (e _ h (.inl rfl)))
  · exact .inl (.inr ⟨o, e _ h (.inr (.inr ⟨o, .inl rfl⟩))⟩)
  · exact .inr h
theorem seqT_at {K : PySem.W.Frag} {H H' : Hp} {a : Addr} {xs : List V} (e : ∀ o, H a = some o → isSeqO xs o → H' a = some o) (h : SqT K H a xs) : SqT K H' a xs := by
  rcases h with (h | ⟨o, h⟩) | h
  · exact .inl (.inl (e _ h (.inr (.inl rfl))))
  · exact .inl (.inr ⟨o, e _ h (.inr (.inr ⟨o, .inr rfl⟩))⟩)
  · exact .inr h
theorem isSeqO_dK {xs : List V} {kvs : List (Key × V)} (h : isSeqO xs (.dK kvs)) : False := by
  rcases h with h | h | ⟨o, h | h⟩ <;> cases h
theorem isSeqO_dT {xs : List V} {kvs : List (List Key × V)} (h : isSeqO xs (.dT kvs)) : False := by
  rcases h with h | h | ⟨o, h | h⟩ <;> cases h
/-! ### rules that take either -/
section
variable {X : Cx}
theorem PG.or {tg : Expr} {t u : TG} (h1 : PG X tg t) (h2 : PG X tg u) : PG X tg (fun v σ H Q => t v σ H Q ∨ u v σ H Q) := by
  refine ⟨fun pins s σ H v w Q I r hw => ?_⟩
  rcases hw with hw | hw
  · exact h1.run pins s σ H v w Q I r hw
  · exact h2.run pins s σ H v w Q I r hw
def gSeq (K : PySem.W.Frag) (n : Nat) (t : TGs) : TG := fun v σ H Q => ∃ a xs, v = .ref a ∧ Sq K H a xs ∧ xs.length = n ∧ t xs σ H Q
/-- a, b, .. = a list or a tuple -/
theorem pg_seq {es : List Expr} {k : Nat} {t : TGs} {n : Nat} {pos : Pos} (hc : X.calm = true) (h : PGs X es t)
    (hn : (assignEach es X.env).length = n := by rfl) (hst : (assignEach es X.env).findIdx? (·.1) = none := by rfl) : PG X (.Tuple es k pos) (gSeq X.K n t) := by
  have h1 := pg_tup (k := k) (pos := pos) hc h hn hst
  have h2 := pg_unl (k := k) (pos := pos) hc h hn hst
  refine ⟨fun pins s σ H v u Q I r hw => ?_⟩
  obtain ⟨a, xs, rfl, hq, hl, hw⟩ := hw
  rcases hq with hq | hq
  · exact h2.run pins s σ H _ u Q I r ⟨a, xs, rfl, hq, hl, hw⟩
  · exact h1.run pins s σ H _ u Q I r ⟨a, xs, rfl, hq, hl, hw⟩
/-- what a for or a comprehension over a list or a tuple asks: said for any walk over its items while what stands stands -/
def iSeq (K : PySem.W.Frag) (tl : TE) : TI := fun σ H R => tl σ H fun x H1 => ∃ a xs, x = .ref a ∧ Sq K H1 a xs ∧ ∀ J, Walk J xs.length (fun H => ∀ o, H1 a = some o → isSeqO xs o → H a = some o) (YAt xs) → R J H1
theorem pi_seq {tg l : Expr} {tl : TE} (hl : PE X l tl) : PI X tg l (iSeq X.K tl) := by
  refine ⟨fun pins s σ H R I h => ?_⟩
  refine thn (hl.run pins s σ H _ I h) fun v s1 ⟨x, H1, I1, r1, q1⟩ => ?_
  obtain ⟨a, xs, e, hq, q⟩ := q1
  subst e
  cases r1
  rcases hq with hq | hq
  · obtain ⟨its, rv, p, hz⟩ := I1.list hq
    refine wpAny_pyIter_list p.isList ?_
    refine ⟨s1.heap.objs.size, [s1.heap.objs.size], _, _, H1, rfl, I1.kept (t' := s1.toks) fun b o e => Heap.get?_push_of_some _ e, turn_list a _, ⟨_, Heap.get?_push_size _ rfl, rfl, rfl⟩, fun b hb => ?_, q _ (walk_list.mono (fun H2 sm => seqL_at sm hq) fun _ _ _ _ _ _ y => y)⟩
    have e : b = s1.heap.objs.size := by simpa using hb
    subst e
    exact I1.fpOk (Nat.le_refl _) (I1.hok.fresh (Nat.le_refl _))
  · obtain ⟨its, rv, p, hz⟩ := I1.tuple hq
    refine wpAny_pyIter_tuple (show s1.heap.IsTuple a its.toArray from p) ?_
    refine ⟨s1.heap.objs.size, [s1.heap.objs.size], _, _, H1, rfl, I1.kept (t' := s1.toks) fun b o e => Heap.get?_push_of_some _ e, turn_tuple a _, ⟨_, Heap.get?_push_size _ rfl, rfl, rfl⟩, fun b hb => ?_, q _ (walk_tup.mono (fun H2 sm => seqT_at sm hq) fun _ _ _ _ _ _ y => y)⟩
    have e : b = s1.heap.objs.size := by simpa using hb
    subst e
    exact I1.fpOk (Nat.le_refl _) (I1.hok.fresh (Nat.le_refl _))
end
/-- the signs of a text as texts -/
def signsV (z : Str) : List V := z.cps.toList.map fun c => V.str ⟨#[c]⟩
theorem walk_signs {z : Str} {G : Hp → Prop} : Walk (Its z) (signsV z).length G (YAt (signsV z)) := by
  have el : (signsV z).length = z.cps.size := by unfold signsV; simp
  rw [el]
  refine (walk_str (z := z)).mono (fun _ _ => True.intro) fun i H x H' hi _ h => ?_
  obtain ⟨e, c, hc, hx⟩ := h
  refine ⟨e, ?_⟩
  unfold signsV
  rw [List.getElem?_map]
  have : z.cps.toList[i]? = some c := by simpa using hc
  rw [this, hx]; rfl
/-- a comprehension whose elements are values: over any walk of xs -/
theorem lcW_filt {J : It} {xs : List V} {tt : TT} {te : TE} {j : Nat} {σ : L2.St} {H : Hp} {D : Addr} {Qd : Hp → Prop} {p : V → Bool} {f : V → V}
    {G : Hp → Prop} (w : Walk J xs.length G (YAt xs)) (hG : ∀ H', Same H H' → G H') (nD : H D = none) (hb : xs.length ≤ 10000)
    (ht : ∀ (i : Nat) (x : V) (H' : Hp) (k : Bool → Hp → Prop), xs[i]? = some x → Same H H' → (∀ H'', Same H' H'' → k (p x) H'') → tt ((wipe σ [j]).set j (some x)) H' k)
    (he : ∀ (i : Nat) (x : V) (H' : Hp) (k : VK), xs[i]? = some x → p x = true → Same H H' → (∀ H'', Same H' H'' → k (f x) H'') → te ((wipe σ [j]).set j (some x)) H' k)
    (hd : ∀ H', Same H H' → H' D = some (.lst ((xs.filter p).map f)) → Qd H') :
    ∃ W : Nat → Nat → Hp → Prop, (∃ m, W 0 m (upd H D (.lst []))) ∧ ∀ i m H, W i m H →
      (J.stop i H ∧ Qd H) ∨ (J.go i H ∧ ∃ Nx : Hp → Prop, (∀ H', Nx H' → ∃ m', m' < m ∧ W (i + 1) m' H') ∧ ∀ x H', J.yld i H x H' → gName j x (wipe σ [j]) H' fun σ2 H2 => wipe σ2 [j] = wipe σ [j] ∧ tt σ2 H2 fun b H3 =>
        if b = true then te σ2 H3 fun y H4 => ∃ acc, H4 D = some (.lst acc) ∧ acc.length < sizeLine ∧ Nx (upd H4 D (.lst (acc ++ [y]))) else Nx H3) := by
  refine lc_it w (fun i H' => Same H H' ∧ H' D = some (.lst (((xs.take i).filter p).map f))) ⟨same_new nD, upd_same⟩ (fun i H' _ h => hG H' h.1) ?_ ?_
  · rintro i x H' H'' hi ⟨sm, hD⟩ ⟨rfl, hx⟩
    refine lc_turn nD sm hD (Nat.le_trans (filt_len i) hb) (fun k hk => ht i x _ k hx sm hk) (fun H1 k s1 hp hk => he i x H1 k hx hp (sm.trans s1) hk) fun H3 s2 e => ⟨s2, ?_⟩
    rw [filt_snoc hx]; exact e
  · rintro H' ⟨sm, hD⟩
    rw [List.take_length] at hD
    exact hd H' sm hD
/-! ### d.setdefault((a, b), v): keys that are tuples -/
section
variable {X : Cx} {pins : List (Addr × Obj)} {σ : L2.St} {H : Hp} {s : Shared} {a b : Addr} {r : Value} {d : V} {k : List Key} {A : Around} {E : Value → Shared → Prop}
theorem d_setdT {kvs : List (List Key × V)} {Q : Value → Shared → Prop} (hu : A.units + 1 < cLine) (I : Inv X pins σ H s) (e : H a = some (.dT kvs)) (eb : H b = some (.tup (k.map kV))) (rd : RelV d r) (hl : kvs.length < sizeLine)
    (h1 : ∀ v, valV kvs k = some v → ∀ (w' : Value) (s' : Shared), Inv X pins σ H s' → RelV v w' → Q w' s') (h2 : valV kvs k = none → ∀ (w' : Value) (s' : Shared), Inv X pins σ (upd H a (.dT (putK kvs k d))) s' → RelV d w' → Q w' s') :
    wpAny (model X.prog X.w) A (call (.builtin "dict.setdefault") [.ref a, .ref b, r]) Q E s := by
  obtain ⟨z, hd, xs, rel, dd⟩ := dt_of I.hok e
  have hz : xs.length ≤ sizeLine := by rw [← Paired.length rel]; exact z
  have q := rel.val k
  refine call_setdefault_heap (hsz := hz) (tupleKind_room_in1 hu) (key_of I.hok eb) hd dd (fun p hp => ?_) (fun hn h' dd' hs => ?_)
  · rw [hp] at q
    cases q0 : valV kvs k with
    | none => rw [q0] at q; exact (show False from q).elim
    | some v0 => rw [q0] at q; exact h1 v0 q0 _ _ (I.tok _) q
  · rw [hn] at q
    cases q0 : valV kvs k with
    | some v0 => rw [q0] at q; exact (show False from q).elim
    | none =>
      have hl2 : (putK kvs k d).length ≤ sizeLine := by have := length_putK kvs k d; omega
      obtain ⟨o, es, ep, hq, h2', h3, h4, _, h5⟩ := dd'
      refine h2 q0 _ _ (d_write (t' := _) I (by rw [e]; exact True.intro) hs ⟨o, hq⟩ ⟨hl2, hd, _, (rel.put k eb rd).keeps fun c ys ec => ?_, o, es, ep, hq, h2', h3, h4, h5⟩) rd
      rw [upd_ne (ne_of ec e (fun z => nomatch z))]
      exact ec
end
def tDSetdT (td ty tx : TE) : TE := fun σ H Q => td σ H fun x H1 => ∃ a, x = .ref a ∧ IsD H1 a ∧ ty σ H1 fun y H2 => tx σ H2 fun z H3 => ∃ (kvs : List (List Key × V)) (k : List Key) (b : Addr), H3 a = some (.dT kvs) ∧ y = .ref b ∧ H3 b = some (.tup (k.map kV)) ∧ kvs.length < sizeLine ∧
  (∀ v, valV kvs k = some v → Q v H3) ∧ (valV kvs k = none → Q z (upd H3 a (.dT (putK kvs k z))))
section
variable {X : Cx} {o e f : Expr} {td ty tx : TE} {apos cpos : Pos}
theorem pe_dsetdT (hu : X.A.units + 1 < cLine) (ho : PE X o td) (he : PE X e ty) (hf : PE X f tx) (m : M2 X o "setdefault" apos e f cpos) : PE X (.Call (.Attribute o "setdefault" apos) [e, f] [] cpos) (tDSetdT td ty tx) := by
  refine ⟨fun pins s σ H Q I h => ?_⟩
  refine wpAny_Call_method m.base m.few m.line PySem.F.plainAttrs_dict PySem.F.slot_dict_setdefault PySem.F.type_dict_setdefault (thn (ho.run pins s σ H _ I h) fun u s1 ⟨x, H1, I1, rx, a, ex, d, q1⟩ => ?_)
  subst ex
  obtain rfl : u = Value.ref a := rx
  obtain ⟨t1, t2, _⟩ := isD_at I1 d
  refine ⟨t1, t2, ?_⟩
  rw [m.trees]
  refine Calls.callWith_builtin rfl (Calls.evalArgs_plain (Calls.spliced_cons (thn (he.run pins s1 σ H1 _ I1 q1) fun iv s2 ⟨y, H2, I2, ry, q2⟩ =>
    Calls.spliced_cons (thn (hf.run pins s2 σ H2 _ I2 q2) fun fv s3 ⟨z, H3, I3, rz, kvs, k, b, ea, ey, eb, hl, q3, q4⟩ => Calls.spliced_nil ?_))))
  subst ey
  obtain rfl : iv = Value.ref b := ry
  exact d_setdT hu I3 ea eb rz hl (fun v hv w' s4 I4 rw' => ⟨v, _, I4, rw', q3 v hv⟩) fun hn w' s4 I4 rw' => ⟨z, _, I4, rw', q4 hn⟩
end
/-! ### what stands beside the source -/
def hide (H : Hp) (p : Addr) : Hp := fun c => if c = p then none else H c
section
variable {H H' : Hp} {p q : Addr} {o : HO}
theorem hide_at (h : q ≠ p) : hide H p q = H q := if_neg h
theorem hide_self : hide H p p = none := if_pos rfl
theorem hide_same : Same (hide H p) H := fun c x h => by
  by_cases e : c = p
  · rw [e, hide_self] at h; cases h
  · rw [hide_at e] at h; exact h
theorem But.hide (b : But p H H') : Same (hide H p) (NL.hide H' p) := fun c x h => by
  by_cases e : c = p
  · rw [e, hide_self] at h; cases h
  · rw [hide_at e] at h ⊢; exact b c x e h
theorem hide_none (h : H q = none) : NL.hide H p q = none := by
  by_cases e : q = p
  · rw [e, hide_self]
  · rw [hide_at e]; exact h
theorem hide_put (h : H q = some o) (e : q ≠ p) : NL.hide H p q = some o := by rw [hide_at e]; exact h
end
end NL
/-! ### dicts whose keys are of any kind: texts, ints, bools, None, tuples of such, beside one another -/
namespace NL
open PySem PySem.Spec PyProof.Rows
section
variable {P : Program} {w : World} {A : Around} {E : Value → Shared → Prop} {s : Shared}
/-- an entry with the key k -/
def EnK (w : World) (h : Heap) (k : NestedKey) (e : DictEntry) : Prop := e.hash = k.hash w ∧ NestedIs h k e.key ∧ k.depth ≤ 8
abbrev EnKs (w : World) (h : Heap) (ks : List NestedKey) (es : List DictEntry) : Prop := Paired (EnK w h) ks es
theorem EnKs.at : ∀ {h : Heap} {ks : List NestedKey} {es : List DictEntry} {i : Nat} {e : DictEntry}, EnKs w h ks es → es[i]? = some e → ∃ k, ks[i]? = some k ∧ EnK w h k e
  | _, _, _, _, _, .nil, q => by simp at q
  | _, _, _, 0, _, .cons r _, q => by simp at q; subst q; exact ⟨_, rfl, r⟩
  | _, _, _, i + 1, e, .cons _ t, q => by
    obtain ⟨k, h1, h2⟩ := EnKs.at (i := i) (e := e) t (by simpa using q)
    exact ⟨k, by simpa using h1, h2⟩
theorem EnKs.of : ∀ {h : Heap} {ks : List NestedKey} {es : List DictEntry} {i : Nat} {k : NestedKey}, EnKs w h ks es → ks[i]? = some k → ∃ e, es[i]? = some e ∧ EnK w h k e
  | _, _, _, _, _, .nil, q => by simp at q
  | _, _, _, 0, _, .cons r _, q => by simp at q; subst q; exact ⟨_, rfl, r⟩
  | _, _, _, i + 1, e, .cons _ t, q => by
    obtain ⟨k, h1, h2⟩ := EnKs.of (i := i) t (by simpa using q)
    exact ⟨k, by simpa using h1, h2⟩
/-- what a search must tell -/
def FoundK (ks : List NestedKey) (k : NestedKey) : Option Nat → Prop
  | none => k ∉ ks
  | some j => ks[j]? = some k
theorem nodup_at {α : Type} {l : List α} (hn : l.Nodup) {i j : Nat} {x : α} (hi : l[i]? = some x) (hj : l[j]? = some x) : i = j :=
  (List.getElem?_inj (List.getElem?_eq_some_iff.mp hi).1 hn).mp (hi.trans hj.symm)
theorem tell_quiet {u : Value} {k : NestedKey} {stored : List Value} {Q : Bool → Shared → Prop} (hk : NestedIs s.heap k u) (h8 : k.depth ≤ 8) (hst : ∀ v ∈ stored, ∃ k', NestedIs s.heap k' v ∧ k'.depth ≤ 8) (h : Q false s) :
    wpAny (model P w) A (tableMayTell u stored) Q E s := by
  unfold tableMayTell
  by_cases he : stored.isEmpty = true
  · rw [if_pos he]; exact wpAny_pure h
  rw [if_neg he]
  refine wpAny_bind (quiet_key k u 8 s hk h8 A E _ ?_)
  show wpAny _ _ (if (!true) = true then _ else _) _ _ _
  rw [if_neg (by decide)]
  refine wpAny_bind ?_
  refine wpAny_forIn_list _ (fun l b s' => s' = s ∧ b = (none, ()) ∧ ∀ v ∈ l, ∃ k', NestedIs s.heap k' v ∧ k'.depth ≤ 8) _ ?_ ?_ _ _ ⟨rfl, rfl, hst⟩
  · rintro x l b s' ⟨e1, e2, hl⟩
    subst e1; subst e2
    obtain ⟨k', hx, h8'⟩ := hl x (List.mem_cons_self ..)
    refine wpAny_bind (quiet_key k' x 8 s' hx h8' A E _ ?_)
    show wpAny _ _ (if (!true) = true then _ else _) _ _ _
    rw [if_neg (by decide)]
    exact wpAny_pure ⟨rfl, rfl, fun v hv => hl v (List.mem_cons_of_mem _ hv)⟩
  · rintro b s' ⟨e1, e2, _⟩
    subst e1; subst e2
    exact wpAny_pure h
/-- how far a search has come -/
def SeekK (ks : List NestedKey) (k : NestedKey) (whole rest : List Nat) (hit : Option Nat) : Prop := ∃ done, whole = done ++ rest ∧ match hit with
  | none => ∀ i ∈ done, ks[i]? ≠ some k
  | some j => ks[j]? = some k ∧ j ∈ done
theorem SeekK.fin {ks : List NestedKey} {k : NestedKey} {whole : List Nat} {hit : Option Nat} (h : SeekK ks k whole [] hit) (hw : ∀ i, ks[i]? = some k → i ∈ whole) : FoundK ks k hit := by
  obtain ⟨done, e, hd⟩ := h
  rw [List.append_nil] at e
  subst e
  cases hit with
  | some j => exact hd.1
  | none =>
    intro hm
    obtain ⟨i, hi⟩ := List.mem_iff_getElem?.mp hm
    exact hd i (hw i hi) hi
theorem dict_find {d : Addr} {u : Value} {k : NestedKey} {o : Obj} {es : Array DictEntry} {ep : Nat} {ks : List NestedKey} {Q : Option Nat → Shared → Prop} (hu : A.units + 8 < cLine) (hk : NestedIs s.heap k u) (h8 : k.depth ≤ 8)
    (ho : s.heap.get? d = some o) (hd : o.data = .dict es ep) (hes : EnKs w s.heap ks es.toList) (hn : ks.Nodup) (h : ∀ r, FoundK ks k r → Q r s) : wpAny (model P w) A (dictFind d u (k.hash w)) Q E s := by
  have hplaces : ∀ i, i ∈ placesWithHash es.size (fun i => es[i]?.map (·.hash)) (k.hash w) ↔ ∃ e, es[i]? = some e ∧ e.hash = k.hash w := fun i => by
    unfold placesWithHash
    rw [List.mem_filter, List.mem_range]
    constructor
    · rintro ⟨h1, h2⟩
      refine ⟨es[i], by simp [h1], ?_⟩
      simpa [h1] using h2
    · rintro ⟨e, h1, h2⟩
      have : i < es.size := by
        rcases Nat.lt_or_ge i es.size with c | c
        · exact c
        · rw [Array.getElem?_eq_none c] at h1; cases h1
      refine ⟨this, ?_⟩
      show (Option.map (fun x => x.hash) es[i]? == _) = true
      rw [h1]; simp [h2]
  have hwhole : ∀ i, ks[i]? = some k → i ∈ placesWithHash es.size (fun i => es[i]?.map (·.hash)) (k.hash w) := fun i hi => by
    obtain ⟨e, h1, h2⟩ := EnKs.of hes hi
    rw [Array.getElem?_toList] at h1
    exact (hplaces i).mpr ⟨e, h1, h2.1⟩
  have hat : ∀ {i : Nat} {e : DictEntry}, es[i]? = some e → ∃ k', ks[i]? = some k' ∧ EnK w s.heap k' e := fun {i e} q => EnKs.at hes (by rw [Array.getElem?_toList]; exact q)
  have hst : ∀ v ∈ (placesWithHash es.size (fun i => es[i]?.map (·.hash)) (k.hash w)).filterMap (fun i => es[i]?.map (·.key)), ∃ k', NestedIs s.heap k' v ∧ k'.depth ≤ 8 := fun v hv => by
    obtain ⟨i, _, hi⟩ := List.mem_filterMap.mp hv
    obtain ⟨e, h1, rfl⟩ := Option.map_eq_some_iff.mp hi
    obtain ⟨k', _, _, h3, h4⟩ := hat h1
    exact ⟨k', h3, h4⟩
  generalize hpl : placesWithHash es.size (fun i => es[i]?.map (·.hash)) (k.hash w) = places at hplaces hwhole hst
  /- one step of either walk -/
  have eqk : ∀ {i : Nat} {e : DictEntry} {R : Bool → Shared → Prop}, es[i]? = some e → R (decide (ks[i]? = some k)) s → wpAny (model P w) A (eqBool e.key u) R E s := fun {i e R} q hR => by
    obtain ⟨k', h1, _, h3, h4⟩ := hat q
    refine eqAt_key k' k A s e.key u h3 hk (by omega) P w E R ?_
    rw [← NestedKey.decide_eq]
    have : decide (k' = k) = decide (ks[i]? = some k) := by rw [h1]; simp
    rw [this]; exact hR
  have step : ∀ {x : Nat} {rest : List Nat} {hit : Option Nat}, SeekK ks k places (x :: rest) hit → ks[x]? ≠ some k → SeekK ks k places rest hit := fun {x rest hit} ⟨done, e, hd⟩ hx => by
    refine ⟨done ++ [x], by rw [e]; simp, ?_⟩
    cases hit with
    | none =>
      intro i hi
      rcases List.mem_append.mp hi with q | q
      · exact hd i q
      · rw [List.mem_singleton.mp q]; exact hx
    | some j => exact ⟨hd.1, List.mem_append_left _ hd.2⟩
  have hit1 : ∀ {x : Nat} {rest : List Nat} {hit : Option Nat}, SeekK ks k places (x :: rest) hit → ks[x]? = some k → (∀ i, i ∈ (placesWithHash es.size (fun i => es[i]?.map (·.hash)) (k.hash w)) → True) → hit = none ∧ SeekK ks k places rest (some x) := fun {x rest hit} ⟨done, e, hd⟩ hx _ => by
    have nd : places.Nodup := by
      rw [← hpl]; unfold placesWithHash
      exact List.Nodup.sublist List.filter_sublist List.nodup_range
    cases hit with
    | none => exact ⟨rfl, done ++ [x], by rw [e]; simp, hx, by simp⟩
    | some j =>
      have : j = x := nodup_at hn hd.1 hx
      subst this
      rw [e, List.nodup_append] at nd
      exact absurd rfl (nd.2.2 j hd.2 j List.mem_cons_self)
  unfold dictFind
  try with_reducible refine wpAny_holding ?_
  refine wpAny_bind (wpAny_dictEntries ho hd ?_)
  have plain : (u :: (places.filterMap fun i => es[i]?.map (·.key))).all carriedByValue = true → wpAny (model P w) A (dictWalkPlain d u (k.hash w) es places) Q E s := fun _ => by
    unfold dictWalkPlain
    refine wpAny_bind ?_
    refine wpAny_forIn_list _ (fun l b s' => s' = s ∧ b = (none, ()) ∧ SeekK ks k places l none) _ ?_ ?_ _ _ ⟨rfl, rfl, [], rfl, fun i hi => nomatch hi⟩
    · rintro x l b s' ⟨e1, e2, hl⟩
      subst e1; subst e2
      have hx : x ∈ places := by obtain ⟨done, e, _⟩ := hl; rw [e]; simp
      obtain ⟨e, he, hh⟩ := (hplaces x).mp hx
      rw [he]
      dsimp only
      rw [if_pos (by rw [hh]; simp)]
      refine wpAny_bind (wpAny_dictEpoch ho hd (wpAny_bind (eqk he (wpAny_bind (wpAny_dictEpoch ho hd ?_)))))
      rw [if_neg (by simp)]
      by_cases hm : ks[x]? = some k
      · rw [decide_eq_true hm]
        refine wpAny_bind (wpAny_rule ?_)
        exact wpAny_pure (wpAny_pure (h _ hm))
      · rw [decide_eq_false hm]
        refine wpAny_bind (wpAny_rule ?_)
        exact wpAny_pure ⟨rfl, rfl, step hl hm⟩
    · rintro b s' ⟨e1, e2, hl⟩
      subst e1; subst e2
      exact wpAny_pure (h _ (hl.fin hwhole))
  rw [hpl]
  generalize hstored : (places.filterMap fun i => es[i]?.map (·.key)) = stored at hst plain
  have nref : ∀ a, u = .ref a → ¬ (es.any fun e => e.key == u && e.hash != k.hash w) = true := fun a ea hany => by
    rw [← Array.any_toList, List.any_eq_true] at hany
    obtain ⟨e, he, hc⟩ := hany
    obtain ⟨i, hi⟩ := List.mem_iff_getElem?.mp he
    rw [Array.getElem?_toList] at hi
    obtain ⟨k', _, q1, q2, _⟩ := hat hi
    simp only [Bool.and_eq_true, beq_iff_eq, bne_iff_ne, ne_eq] at hc
    rw [hc.1] at q2
    exact hc.2 (by rw [q1, NestedIs.inj _ _ _ q2 hk])
  have byStr : ∀ z t, u = .str z t → (es.all fun e => isExactStrKey e.key) = true → wpAny (model P w) A (foundByValue d u es z) Q E s := fun z t eu hall => by
    unfold foundByValue
    have ek : k = .text z := by subst eu; cases hk; rfl
    have keys : ∀ {i : Nat} {e : DictEntry}, es[i]? = some e → e.key.isStr z = decide (ks[i]? = some k) := fun {i e} q => by
      obtain ⟨k', h1, _, h3, _⟩ := hat q
      have hs : isExactStrKey e.key = true := by
        have := Array.all_eq_true.mp hall
        obtain ⟨hi, e2⟩ := Array.getElem?_eq_some_iff.mp q
        have := this i hi
        rw [e2] at this; exact this
      rw [h1, ek]
      generalize e.key = y at h3 hs
      cases h3 with
      | text x t' => by_cases hx : x = z <;> simp [Value.isStr, hx]
      | _ => cases hs
    cases hf : es.findIdx? (fun e => e.key.isStr z) with
    | none =>
      refine wpAny_pure (h none fun hm => ?_)
      obtain ⟨i, hi⟩ := List.mem_iff_getElem?.mp hm
      obtain ⟨e, h1, _⟩ := EnKs.of hes hi
      rw [Array.getElem?_toList] at h1
      have := keys h1
      rw [decide_eq_true hi] at this
      have hn := Array.findIdx?_eq_none_iff.mp hf e (Array.mem_of_getElem? h1)
      rw [this] at hn; cases hn
    | some i =>
      obtain ⟨hi, h1, _⟩ := Array.findIdx?_eq_some_iff_getElem.mp hf
      have he : es[i]? = some es[i] := Array.getElem?_eq_getElem hi
      have hki : ks[i]? = some k := of_decide_eq_true (by rw [← keys he]; exact h1)
      dsimp only
      rw [he]
      dsimp only
      refine wpAny_bind (wpAny_dictEpoch ho hd (wpAny_bind (eqk he (wpAny_bind (wpAny_dictEpoch ho hd ?_)))))
      rw [if_neg (by simp)]
      rw [decide_eq_true hki]
      refine wpAny_bind (wpAny_rule ?_)
      exact wpAny_pure (h _ hki)
  have hk0 := hk
  cases hk0 with
  | none =>
    dsimp only
    rw [hstored]
    by_cases hb : (Value.none :: stored).all carriedByValue = true
    · rw [if_pos hb]; exact plain hb
    · rw [if_neg hb]
      by_cases hs : (stored == [Value.none]) = true
      · rw [if_pos hs]
        refine wpAny_bind (wpAny_pure ?_)
        rw [if_neg (by simp)]
        refine wpAny_bind ?_
        refine wpAny_forIn_list _ (fun l b s' => s' = s ∧ b.1 = none ∧ SeekK ks NestedKey.none places l b.2) _ ?_ ?_ _ _ ⟨rfl, rfl, [], rfl, fun i hi => nomatch hi⟩
        · rintro x l ⟨b1, b2⟩ s' ⟨e1, e2, hl⟩
          have e2 : b1 = none := e2
          subst e1; subst e2
          have hx : x ∈ places := by obtain ⟨done, e, _⟩ := hl; rw [e]; simp
          obtain ⟨e, he, hh⟩ := (hplaces x).mp hx
          rw [he]
          dsimp only
          rw [if_pos (by rw [hh]; simp)]
          refine wpAny_bind (wpAny_dictEpoch ho hd (wpAny_bind (eqk he (wpAny_bind (wpAny_dictEpoch ho hd ?_)))))
          rw [if_neg (by simp)]
          by_cases hm : ks[x]? = some NestedKey.none
          · rw [decide_eq_true hm, if_pos rfl]
            obtain ⟨hb, hl'⟩ := hit1 hl hm fun _ _ => trivial
            have hb : b2 = none := hb
            subst hb
            rw [if_neg (by decide)]
            refine wpAny_bind (wpAny_rule ?_)
            split
            · exact wpAny_pure (wpAny_pure (h _ hm))
            · exact wpAny_pure ⟨rfl, rfl, hl'⟩
          · rw [decide_eq_false hm, if_neg (by decide)]
            refine wpAny_bind (wpAny_rule ?_)
            rw [Bool.false_and, if_neg (by decide)]
            exact wpAny_pure ⟨rfl, rfl, step hl hm⟩
        · rintro ⟨b1, b2⟩ s' ⟨e1, e2, hl⟩
          have e2 : b1 = none := e2
          subst e1; subst e2
          exact wpAny_pure (h _ (hl.fin hwhole))
      · rw [if_neg hs]
        refine wpAny_bind (tell_quiet hk h8 hst ?_)
        rw [if_neg (by simp)]
        refine wpAny_bind ?_
        refine wpAny_forIn_list _ (fun l b s' => s' = s ∧ b.1 = none ∧ SeekK ks NestedKey.none places l b.2) _ ?_ ?_ _ _ ⟨rfl, rfl, [], rfl, fun i hi => nomatch hi⟩
        · rintro x l ⟨b1, b2⟩ s' ⟨e1, e2, hl⟩
          have e2 : b1 = none := e2
          subst e1; subst e2
          have hx : x ∈ places := by obtain ⟨done, e, _⟩ := hl; rw [e]; simp
          obtain ⟨e, he, hh⟩ := (hplaces x).mp hx
          rw [he]
          dsimp only
          rw [if_pos (by rw [hh]; simp)]
          refine wpAny_bind (wpAny_dictEpoch ho hd (wpAny_bind (eqk he (wpAny_bind (wpAny_dictEpoch ho hd ?_)))))
          rw [if_neg (by simp)]
          by_cases hm : ks[x]? = some NestedKey.none
          · rw [decide_eq_true hm, if_pos rfl]
            obtain ⟨hb, hl'⟩ := hit1 hl hm fun _ _ => trivial
            have hb : b2 = none := hb
            subst hb
            rw [if_neg (by decide)]
            refine wpAny_bind (wpAny_rule ?_)
            split
            · exact wpAny_pure (wpAny_pure (h _ hm))
            · exact wpAny_pure ⟨rfl, rfl, hl'⟩
          · rw [decide_eq_false hm, if_neg (by decide)]
            refine wpAny_bind (wpAny_rule ?_)
            rw [Bool.false_and, if_neg (by decide)]
            exact wpAny_pure ⟨rfl, rfl, step hl hm⟩
        · rintro ⟨b1, b2⟩ s' ⟨e1, e2, hl⟩
          have e2 : b1 = none := e2
          subst e1; subst e2
          exact wpAny_pure (h _ (hl.fin hwhole))
  | @bool b i e =>
    dsimp only
    rw [hstored]
    by_cases hb : (Value.bool b :: stored).all carriedByValue = true
    · rw [if_pos hb]; exact plain hb
    · rw [if_neg hb]
      by_cases hs : (stored == [Value.bool b]) = true
      · rw [if_pos hs]
        refine wpAny_bind (wpAny_pure ?_)
        rw [if_neg (by simp)]
        refine wpAny_bind ?_
        refine wpAny_forIn_list _ (fun l b s' => s' = s ∧ b.1 = none ∧ SeekK ks (NestedKey.num i) places l b.2) _ ?_ ?_ _ _ ⟨rfl, rfl, [], rfl, fun i hi => nomatch hi⟩
        · rintro x l ⟨b1, b2⟩ s' ⟨e1, e2, hl⟩
          have e2 : b1 = none := e2
          subst e1; subst e2
          have hx : x ∈ places := by obtain ⟨done, e, _⟩ := hl; rw [e]; simp
          obtain ⟨e, he, hh⟩ := (hplaces x).mp hx
          rw [he]
          dsimp only
          rw [if_pos (by rw [hh]; simp)]
          refine wpAny_bind (wpAny_dictEpoch ho hd (wpAny_bind (eqk he (wpAny_bind (wpAny_dictEpoch ho hd ?_)))))
          rw [if_neg (by simp)]
          by_cases hm : ks[x]? = some (NestedKey.num i)
          · rw [decide_eq_true hm, if_pos rfl]
            obtain ⟨hb, hl'⟩ := hit1 hl hm fun _ _ => trivial
            have hb : b2 = none := hb
            subst hb
            rw [if_neg (by decide)]
            refine wpAny_bind (wpAny_rule ?_)
            split
            · exact wpAny_pure (wpAny_pure (h _ hm))
            · exact wpAny_pure ⟨rfl, rfl, hl'⟩
          · rw [decide_eq_false hm, if_neg (by decide)]
            refine wpAny_bind (wpAny_rule ?_)
            rw [Bool.false_and, if_neg (by decide)]
            exact wpAny_pure ⟨rfl, rfl, step hl hm⟩
        · rintro ⟨b1, b2⟩ s' ⟨e1, e2, hl⟩
          have e2 : b1 = none := e2
          subst e1; subst e2
          exact wpAny_pure (h _ (hl.fin hwhole))
      · rw [if_neg hs]
        refine wpAny_bind (tell_quiet hk h8 hst ?_)
        rw [if_neg (by simp)]
        refine wpAny_bind ?_
        refine wpAny_forIn_list _ (fun l b s' => s' = s ∧ b.1 = none ∧ SeekK ks (NestedKey.num i) places l b.2) _ ?_ ?_ _ _ ⟨rfl, rfl, [], rfl, fun i hi => nomatch hi⟩
        · rintro x l ⟨b1, b2⟩ s' ⟨e1, e2, hl⟩
          have e2 : b1 = none := e2
          subst e1; subst e2
          have hx : x ∈ places := by obtain ⟨done, e, _⟩ := hl; rw [e]; simp
          obtain ⟨e, he, hh⟩ := (hplaces x).mp hx
          rw [he]
          dsimp only
          rw [if_pos (by rw [hh]; simp)]
          refine wpAny_bind (wpAny_dictEpoch ho hd (wpAny_bind (eqk he (wpAny_bind (wpAny_dictEpoch ho hd ?_)))))
          rw [if_neg (by simp)]
          by_cases hm : ks[x]? = some (NestedKey.num i)
          · rw [decide_eq_true hm, if_pos rfl]
            obtain ⟨hb, hl'⟩ := hit1 hl hm fun _ _ => trivial
            have hb : b2 = none := hb
            subst hb
            rw [if_neg (by decide)]
            refine wpAny_bind (wpAny_rule ?_)
            split
            · exact wpAny_pure (wpAny_pure (h _ hm))
            · exact wpAny_pure ⟨rfl, rfl, hl'⟩
          · rw [decide_eq_false hm, if_neg (by decide)]
            refine wpAny_bind (wpAny_rule ?_)
            rw [Bool.false_and, if_neg (by decide)]
            exact wpAny_pure ⟨rfl, rfl, step hl hm⟩
        · rintro ⟨b1, b2⟩ s' ⟨e1, e2, hl⟩
          have e2 : b1 = none := e2
          subst e1; subst e2
          exact wpAny_pure (h _ (hl.fin hwhole))
  | int i t =>
    dsimp only
    rw [hstored]
    by_cases hb : (Value.int i t :: stored).all carriedByValue = true
    · rw [if_pos hb]; exact plain hb
    · rw [if_neg hb]
      by_cases hs : (stored == [Value.int i t]) = true
      · rw [if_pos hs]
        refine wpAny_bind (wpAny_pure ?_)
        rw [if_neg (by simp)]
        refine wpAny_bind ?_
        refine wpAny_forIn_list _ (fun l b s' => s' = s ∧ b.1 = none ∧ SeekK ks (NestedKey.num i) places l b.2) _ ?_ ?_ _ _ ⟨rfl, rfl, [], rfl, fun i hi => nomatch hi⟩
        · rintro x l ⟨b1, b2⟩ s' ⟨e1, e2, hl⟩
          have e2 : b1 = none := e2
          subst e1; subst e2
          have hx : x ∈ places := by obtain ⟨done, e, _⟩ := hl; rw [e]; simp
          obtain ⟨e, he, hh⟩ := (hplaces x).mp hx
          rw [he]
          dsimp only
          rw [if_pos (by rw [hh]; simp)]
          refine wpAny_bind (wpAny_dictEpoch ho hd (wpAny_bind (eqk he (wpAny_bind (wpAny_dictEpoch ho hd ?_)))))
          rw [if_neg (by simp)]
          by_cases hm : ks[x]? = some (NestedKey.num i)
          · rw [decide_eq_true hm, if_pos rfl]
            obtain ⟨hb, hl'⟩ := hit1 hl hm fun _ _ => trivial
            have hb : b2 = none := hb
            subst hb
            rw [if_neg (by decide)]
            refine wpAny_bind (wpAny_rule ?_)
            split
            · exact wpAny_pure (wpAny_pure (h _ hm))
            · exact wpAny_pure ⟨rfl, rfl, hl'⟩
          · rw [decide_eq_false hm, if_neg (by decide)]
            refine wpAny_bind (wpAny_rule ?_)
            rw [Bool.false_and, if_neg (by decide)]
            exact wpAny_pure ⟨rfl, rfl, step hl hm⟩
        · rintro ⟨b1, b2⟩ s' ⟨e1, e2, hl⟩
          have e2 : b1 = none := e2
          subst e1; subst e2
          exact wpAny_pure (h _ (hl.fin hwhole))
      · rw [if_neg hs]
        refine wpAny_bind (tell_quiet hk h8 hst ?_)
        rw [if_neg (by simp)]
        refine wpAny_bind ?_
        refine wpAny_forIn_list _ (fun l b s' => s' = s ∧ b.1 = none ∧ SeekK ks (NestedKey.num i) places l b.2) _ ?_ ?_ _ _ ⟨rfl, rfl, [], rfl, fun i hi => nomatch hi⟩
        · rintro x l ⟨b1, b2⟩ s' ⟨e1, e2, hl⟩
          have e2 : b1 = none := e2
          subst e1; subst e2
          have hx : x ∈ places := by obtain ⟨done, e, _⟩ := hl; rw [e]; simp
          obtain ⟨e, he, hh⟩ := (hplaces x).mp hx
          rw [he]
          dsimp only
          rw [if_pos (by rw [hh]; simp)]
          refine wpAny_bind (wpAny_dictEpoch ho hd (wpAny_bind (eqk he (wpAny_bind (wpAny_dictEpoch ho hd ?_)))))
          rw [if_neg (by simp)]
          by_cases hm : ks[x]? = some (NestedKey.num i)
          · rw [decide_eq_true hm, if_pos rfl]
            obtain ⟨hb, hl'⟩ := hit1 hl hm fun _ _ => trivial
            have hb : b2 = none := hb
            subst hb
            rw [if_neg (by decide)]
            refine wpAny_bind (wpAny_rule ?_)
            split
            · exact wpAny_pure (wpAny_pure (h _ hm))
            · exact wpAny_pure ⟨rfl, rfl, hl'⟩
          · rw [decide_eq_false hm, if_neg (by decide)]
            refine wpAny_bind (wpAny_rule ?_)
            rw [Bool.false_and, if_neg (by decide)]
            exact wpAny_pure ⟨rfl, rfl, step hl hm⟩
        · rintro ⟨b1, b2⟩ s' ⟨e1, e2, hl⟩
          have e2 : b1 = none := e2
          subst e1; subst e2
          exact wpAny_pure (h _ (hl.fin hwhole))
  | text z t =>
    dsimp only
    rw [hstored]
    by_cases ha : (es.all fun e => isExactStrKey e.key) = true
    · rw [if_pos ha]
      exact byStr z t rfl ha
    rw [if_neg ha]
    by_cases hb : (Value.str z t :: stored).all carriedByValue = true
    · rw [if_pos hb]; exact plain hb
    · rw [if_neg hb]
      by_cases hs : (stored == [Value.str z t]) = true
      · rw [if_pos hs]
        refine wpAny_bind (wpAny_pure ?_)
        rw [if_neg (by simp)]
        refine wpAny_bind ?_
        refine wpAny_forIn_list _ (fun l b s' => s' = s ∧ b.1 = none ∧ SeekK ks (NestedKey.text z) places l b.2) _ ?_ ?_ _ _ ⟨rfl, rfl, [], rfl, fun i hi => nomatch hi⟩
        · rintro x l ⟨b1, b2⟩ s' ⟨e1, e2, hl⟩
          have e2 : b1 = none := e2
          subst e1; subst e2
          have hx : x ∈ places := by obtain ⟨done, e, _⟩ := hl; rw [e]; simp
          obtain ⟨e, he, hh⟩ := (hplaces x).mp hx
          rw [he]
          dsimp only
          rw [if_pos (by rw [hh]; simp)]
          refine wpAny_bind (wpAny_dictEpoch ho hd (wpAny_bind (eqk he (wpAny_bind (wpAny_dictEpoch ho hd ?_)))))
          rw [if_neg (by simp)]
          by_cases hm : ks[x]? = some (NestedKey.text z)
          · rw [decide_eq_true hm, if_pos rfl]
            obtain ⟨hb, hl'⟩ := hit1 hl hm fun _ _ => trivial
            have hb : b2 = none := hb
            subst hb
            rw [if_neg (by decide)]
            refine wpAny_bind (wpAny_rule ?_)
            split
            · exact wpAny_pure (wpAny_pure (h _ hm))
            · exact wpAny_pure ⟨rfl, rfl, hl'⟩
          · rw [decide_eq_false hm, if_neg (by decide)]
            refine wpAny_bind (wpAny_rule ?_)
            rw [Bool.false_and, if_neg (by decide)]
            exact wpAny_pure ⟨rfl, rfl, step hl hm⟩
        · rintro ⟨b1, b2⟩ s' ⟨e1, e2, hl⟩
          have e2 : b1 = none := e2
          subst e1; subst e2
          exact wpAny_pure (h _ (hl.fin hwhole))
      · rw [if_neg hs]
        refine wpAny_bind (tell_quiet hk h8 hst ?_)
        rw [if_neg (by simp)]
        refine wpAny_bind ?_
        refine wpAny_forIn_list _ (fun l b s' => s' = s ∧ b.1 = none ∧ SeekK ks (NestedKey.text z) places l b.2) _ ?_ ?_ _ _ ⟨rfl, rfl, [], rfl, fun i hi => nomatch hi⟩
        · rintro x l ⟨b1, b2⟩ s' ⟨e1, e2, hl⟩
          have e2 : b1 = none := e2
          subst e1; subst e2
          have hx : x ∈ places := by obtain ⟨done, e, _⟩ := hl; rw [e]; simp
          obtain ⟨e, he, hh⟩ := (hplaces x).mp hx
          rw [he]
          dsimp only
          rw [if_pos (by rw [hh]; simp)]
          refine wpAny_bind (wpAny_dictEpoch ho hd (wpAny_bind (eqk he (wpAny_bind (wpAny_dictEpoch ho hd ?_)))))
          rw [if_neg (by simp)]
          by_cases hm : ks[x]? = some (NestedKey.text z)
          · rw [decide_eq_true hm, if_pos rfl]
            obtain ⟨hb, hl'⟩ := hit1 hl hm fun _ _ => trivial
            have hb : b2 = none := hb
            subst hb
            rw [if_neg (by decide)]
            refine wpAny_bind (wpAny_rule ?_)
            split
            · exact wpAny_pure (wpAny_pure (h _ hm))
            · exact wpAny_pure ⟨rfl, rfl, hl'⟩
          · rw [decide_eq_false hm, if_neg (by decide)]
            refine wpAny_bind (wpAny_rule ?_)
            rw [Bool.false_and, if_neg (by decide)]
            exact wpAny_pure ⟨rfl, rfl, step hl hm⟩
        · rintro ⟨b1, b2⟩ s' ⟨e1, e2, hl⟩
          have e2 : b1 = none := e2
          subst e1; subst e2
          exact wpAny_pure (h _ (hl.fin hwhole))
  | @tup a o2 vs2 n2 ks2 h1 h2 h3 h4 =>
    dsimp only
    rw [hstored]
    by_cases hb : (Value.ref a :: stored).all carriedByValue = true
    · rw [if_pos hb]; exact plain hb
    · rw [if_neg hb]
      rw [if_neg (nref _ rfl)]
      by_cases hs : (stored == [Value.ref a]) = true
      · rw [if_pos hs]
        refine wpAny_bind (wpAny_pure ?_)
        rw [if_neg (by simp)]
        refine wpAny_bind ?_
        refine wpAny_forIn_list _ (fun l b s' => s' = s ∧ b.1 = none ∧ SeekK ks (NestedKey.tup ks2) places l b.2) _ ?_ ?_ _ _ ⟨rfl, rfl, [], rfl, fun i hi => nomatch hi⟩
        · rintro x l ⟨b1, b2⟩ s' ⟨e1, e2, hl⟩
          have e2 : b1 = none := e2
          subst e1; subst e2
          have hx : x ∈ places := by obtain ⟨done, e, _⟩ := hl; rw [e]; simp
          obtain ⟨e, he, hh⟩ := (hplaces x).mp hx
          rw [he]
          dsimp only
          rw [if_pos (by rw [hh]; simp)]
          refine wpAny_bind (wpAny_dictEpoch ho hd (wpAny_bind (eqk he (wpAny_bind (wpAny_dictEpoch ho hd ?_)))))
          rw [if_neg (by simp)]
          by_cases hm : ks[x]? = some (NestedKey.tup ks2)
          · rw [decide_eq_true hm, if_pos rfl]
            obtain ⟨hb, hl'⟩ := hit1 hl hm fun _ _ => trivial
            have hb : b2 = none := hb
            subst hb
            rw [if_neg (by decide)]
            refine wpAny_bind (wpAny_rule ?_)
            split
            · exact wpAny_pure (wpAny_pure (h _ hm))
            · exact wpAny_pure ⟨rfl, rfl, hl'⟩
          · rw [decide_eq_false hm, if_neg (by decide)]
            refine wpAny_bind (wpAny_rule ?_)
            rw [Bool.false_and, if_neg (by decide)]
            exact wpAny_pure ⟨rfl, rfl, step hl hm⟩
        · rintro ⟨b1, b2⟩ s' ⟨e1, e2, hl⟩
          have e2 : b1 = none := e2
          subst e1; subst e2
          exact wpAny_pure (h _ (hl.fin hwhole))
      · rw [if_neg hs]
        refine wpAny_bind (tell_quiet hk h8 hst ?_)
        rw [if_neg (by simp)]
        refine wpAny_bind ?_
        refine wpAny_forIn_list _ (fun l b s' => s' = s ∧ b.1 = none ∧ SeekK ks (NestedKey.tup ks2) places l b.2) _ ?_ ?_ _ _ ⟨rfl, rfl, [], rfl, fun i hi => nomatch hi⟩
        · rintro x l ⟨b1, b2⟩ s' ⟨e1, e2, hl⟩
          have e2 : b1 = none := e2
          subst e1; subst e2
          have hx : x ∈ places := by obtain ⟨done, e, _⟩ := hl; rw [e]; simp
          obtain ⟨e, he, hh⟩ := (hplaces x).mp hx
          rw [he]
          dsimp only
          rw [if_pos (by rw [hh]; simp)]
          refine wpAny_bind (wpAny_dictEpoch ho hd (wpAny_bind (eqk he (wpAny_bind (wpAny_dictEpoch ho hd ?_)))))
          rw [if_neg (by simp)]
          by_cases hm : ks[x]? = some (NestedKey.tup ks2)
          · rw [decide_eq_true hm, if_pos rfl]
            obtain ⟨hb, hl'⟩ := hit1 hl hm fun _ _ => trivial
            have hb : b2 = none := hb
            subst hb
            rw [if_neg (by decide)]
            refine wpAny_bind (wpAny_rule ?_)
            split
            · exact wpAny_pure (wpAny_pure (h _ hm))
            · exact wpAny_pure ⟨rfl, rfl, hl'⟩
          · rw [decide_eq_false hm, if_neg (by decide)]
            refine wpAny_bind (wpAny_rule ?_)
            rw [Bool.false_and, if_neg (by decide)]
            exact wpAny_pure ⟨rfl, rfl, step hl hm⟩
        · rintro ⟨b1, b2⟩ s' ⟨e1, e2, hl⟩
          have e2 : b1 = none := e2
          subst e1; subst e2
          exact wpAny_pure (h _ (hl.fin hwhole))
end
/-! ### the dict at an address -/
section
variable {P : Program} {w : World}
/-- a dict's entries, with their keys -/
structure DX (w : World) (h : Heap) (d : Addr) (ks : List NestedKey) (es : Array DictEntry) : Prop where
  at_ : ∃ o ep, h.get? d = some o ∧ o.ExactDict ∧ o.data = .dict es ep
  en : EnKs w h ks es.toList
  nd : ks.Nodup
  sz : ks.length ≤ sizeLine
theorem EnKs.len {h : Heap} {ks : List NestedKey} {es : List DictEntry} (x : EnKs w h ks es) : ks.length = es.length := Paired.length x
theorem FoundK.idx {ks : List NestedKey} {k : NestedKey} {r : Option Nat} (hn : ks.Nodup) (h : FoundK ks k r) : r = ks.idxOf? k := by
  cases r with
  | none => exact (List.idxOf?_eq_none_iff.mpr h).symm
  | some j =>
    have h : ks[j]? = some k := h
    obtain ⟨hj, e⟩ := List.getElem?_eq_some_iff.mp h
    cases q : ks.idxOf? k with
    | none => exact absurd (List.mem_of_getElem? h) (List.idxOf?_eq_none_iff.mp q)
    | some i =>
      have hi : ks[i]? = some k := by
        rw [List.idxOf?, List.findIdx?_eq_some_iff_getElem] at q
        obtain ⟨hi, e, _⟩ := q
        rw [List.getElem?_eq_getElem hi, eq_of_beq e]
      rw [nodup_at hn h hi]
variable {A : Around} {E : Value → Shared → Prop} {s : Shared} {d : Addr} {u : Value} {k : NestedKey} {ks : List NestedKey} {es : Array DictEntry}
theorem DX.typeIs (x : DX w s.heap d ks es) : s.TypeIs (.ref d) "dict" := let ⟨o, _, ho, hc, _⟩ := x.at_; ⟨o, ho, hc.1⟩
theorem dx_get {Q : Option Value → Shared → Prop} (hu : A.units + 16 < cLine) (hk : NestedIs s.heap k u) (h8 : k.depth ≤ 8) (x : DX w s.heap d ks es)
    (h : ∀ t, Q ((ks.idxOf? k).bind fun j => es[j]?.map (·.val)) { s with toks := t }) : wpAny (model P w) A (dictGet d u) Q E s := by
  obtain ⟨o, ep, ho, _, hd⟩ := x.at_
  unfold dictGet
  try with_reducible refine wpAny_holding ?_
  refine wpAny_bind (pyHash_key k u A s _ hk (by omega) (wpAny_bind (dict_find (s := { s with toks := s.toks + k.draws }) (by omega) hk h8 ho hd x.en x.nd fun r hr => ?_)))
  rw [← hr.idx x.nd] at h
  cases r with
  | none => exact wpAny_pure (h _)
  | some j =>
    refine wpAny_bind (wpAny_dictEntries (s := { s with toks := s.toks + k.draws }) ho hd ?_)
    exact wpAny_pure (h _)
theorem dx_at (x : DX w s.heap d ks es) {j : Nat} (h : ks.idxOf? k = some j) : ∃ e, es[j]? = some e ∧ ks[j]? = some k := by
  have hi : ks[j]? = some k := by
    rw [List.idxOf?, List.findIdx?_eq_some_iff_getElem] at h
    obtain ⟨hi, e, _⟩ := h
    rw [List.getElem?_eq_getElem hi, eq_of_beq e]
  obtain ⟨e, h1, _⟩ := EnKs.of x.en hi
  exact ⟨e, by rw [← Array.getElem?_toList]; exact h1, hi⟩
/-- the keys behind d[k] = v -/
def keysPut (ks : List NestedKey) (k : NestedKey) : List NestedKey := match ks.idxOf? k with
  | none => ks ++ [k]
  | some _ => ks
def entsPut (w : World) (ks : List NestedKey) (es : Array DictEntry) (k : NestedKey) (u v : Value) : Array DictEntry := match ks.idxOf? k with
  | none => es.push ⟨k.hash w, u, v⟩
  | some j => es.modify j fun e => { e with val := v }
theorem EnKs.keep {h h' : Heap} {es : List DictEntry} (hk : ∀ a o vs n, h.get? a = some o → o.data = .seq vs n → h'.get? a = some o) (x : EnKs w h ks es) : EnKs w h' ks es := by
  induction x with
  | nil => exact .nil
  | cons r _ ih => exact .cons ⟨r.1, NestedIs.at hk _ _ r.2.1, r.2.2⟩ ih
theorem EnKs.modify {h : Heap} {v : Value} : ∀ {ks : List NestedKey} {es : List DictEntry} (j : Nat), EnKs w h ks es → EnKs w h ks (es.modify j fun e => { e with val := v })
  | _, _, _, .nil => by simpa using (Paired.nil : EnKs w h [] [])
  | _, _, 0, .cons r t => by rw [List.modify_zero_cons]; exact .cons r t
  | _, _, j + 1, .cons r t => by rw [List.modify_succ_cons]; exact .cons r (EnKs.modify j t)
theorem dx_put {v : Value} {Q : Unit → Shared → Prop} (hu : A.units + 16 < cLine) (hk : NestedIs s.heap k u) (h8 : k.depth ≤ 8) (x : DX w s.heap d ks es) (hl : ks.length < sizeLine)
    (h : ∀ h' t, DX w h' d (keysPut ks k) (entsPut w ks es k u v) → Heap.SameBut d s.heap h' → Q () { s with heap := h', toks := t }) : wpAny (model P w) A (dictSet d u v) Q E s := by
  obtain ⟨o, ep, ho, hc, hd⟩ := x.at_
  have stay : ∀ {h' : Heap}, Heap.SameBut d s.heap h' → ∀ a o' vs n, s.heap.get? a = some o' → o'.data = .seq vs n → h'.get? a = some o' := fun {h'} hs a o' vs n q1 q2 => by
    refine (hs.2 a fun e => ?_).trans q1
    subst e
    rw [ho] at q1; cases q1
    rw [hd] at q2; cases q2
  have hsz : es.size = ks.length := by rw [x.en.len, Array.length_toList]
  unfold dictSet
  try with_reducible refine wpAny_holding ?_
  refine wpAny_bind (pyHash_key k u A s _ hk (by omega) ?_)
  unfold dictSetHashed
  try with_reducible refine wpAny_holding ?_
  refine wpAny_bind (dict_find (s := { s with toks := s.toks + k.draws }) (by omega) hk h8 ho hd x.en x.nd fun r hr => ?_)
  have hr' := hr.idx x.nd
  unfold keysPut entsPut at h
  rw [← hr'] at h
  cases r with
  | none =>
    have hr : k ∉ ks := hr
    have hs : Heap.SameBut d s.heap (s.heap.update d (Obj.mapDictKeys (·.push ⟨k.hash w, u, v⟩))) := Heap.SameBut.update ..
    refine wpAny_bind (wpAny_rule (wpAny_updateDictKeys (hz := by rw [hsz]; omega) (s := { s with toks := s.toks + k.draws }) ho hd (h _ _ ⟨⟨_, ep + 1, Heap.get?_update_self _ ho (Obj.isFreed_of_dict (Obj.data_mapDictKeys hd _)), hc.mapDictKeys _, Obj.data_mapDictKeys hd _⟩, ?_, ?_, ?_⟩ hs)))
    · rw [Array.toList_push]
      exact Paired.snoc (x.en.keep (stay hs)) ⟨rfl, NestedIs.at (stay hs) _ _ hk, h8⟩
    · rw [List.nodup_append]
      exact ⟨x.nd, by simp, fun a ha b hb e => hr (by rw [List.mem_singleton] at hb; rw [← hb, ← e]; exact ha)⟩
    · rw [List.length_append]; exact hl
  | some j =>
    have hs : Heap.SameBut d s.heap (s.heap.update d (Obj.mapDict (·.modify j fun e => { e with val := v }))) := Heap.SameBut.update ..
    refine wpAny_bind (wpAny_rule (wpAny_bind (wpAny_updateDict (s := { s with toks := s.toks + k.draws }) ho hd (wpAny_point (h _ _ ⟨⟨_, ep, Heap.get?_update_self _ ho (Obj.isFreed_of_dict (Obj.data_mapDict hd _)), hc.mapDict _, Obj.data_mapDict hd _⟩, ?_, x.nd, x.sz⟩ hs)))))
    have e : (es.modify j fun e => { e with val := v }).toList = es.toList.modify j fun e => { e with val := v } := by simp
    rw [e]
    exact EnKs.modify j (x.en.keep (stay hs))
theorem dx_new (h : Heap) : DX w (h.push { cls := .type "dict", data := .dict #[] }) h.objs.size [] #[] := ⟨⟨_, 0, Heap.get?_push_size _ rfl, ⟨rfl, rfl, rfl⟩, rfl⟩, .nil, List.nodup_nil, Nat.zero_le _⟩
theorem dx_setdef {v : Value} {Q : Value → Shared → Prop} (hu : A.units + 16 < cLine) (hk : NestedIs s.heap k u) (h8 : k.depth ≤ 8) (x : DX w s.heap d ks es) (hl : ks.length < sizeLine)
    (h1 : ∀ j e t, ks.idxOf? k = some j → es[j]? = some e → Q e.val { s with toks := t })
    (h2 : ks.idxOf? k = none → ∀ h' t, DX w h' d (keysPut ks k) (entsPut w ks es k u v) → Heap.SameBut d s.heap h' → Q v { s with heap := h', toks := t }) : wpAny (model P w) A (dictSetDefault d u v) Q E s := by
  obtain ⟨o, ep, ho, hc, hd⟩ := x.at_
  have stay : ∀ {h' : Heap}, Heap.SameBut d s.heap h' → ∀ a o' vs n, s.heap.get? a = some o' → o'.data = .seq vs n → h'.get? a = some o' := fun {h'} hs a o' vs n q1 q2 => by
    refine (hs.2 a fun e => ?_).trans q1
    subst e
    rw [ho] at q1; cases q1
    rw [hd] at q2; cases q2
  have hsz : es.size = ks.length := by rw [x.en.len, Array.length_toList]
  unfold dictSetDefault
  try with_reducible refine wpAny_holding ?_
  refine wpAny_bind (pyHash_key k u A s _ hk (by omega) ?_)
  refine wpAny_bind (dict_find (s := { s with toks := s.toks + k.draws }) (by omega) hk h8 ho hd x.en x.nd fun r hr => ?_)
  have hr' := hr.idx x.nd
  cases r with
  | none =>
    have h2 := h2 hr'.symm
    unfold keysPut entsPut at h2
    rw [← hr'] at h2
    have hr : k ∉ ks := hr
    have hs : Heap.SameBut d s.heap (s.heap.update d (Obj.mapDictKeys (·.push ⟨k.hash w, u, v⟩))) := Heap.SameBut.update ..
    refine wpAny_bind (wpAny_rule (wpAny_bind (wpAny_updateDictKeys (hz := by rw [hsz]; omega) (s := { s with toks := s.toks + k.draws }) ho hd (wpAny_pure (h2 _ _ ⟨⟨_, ep + 1, Heap.get?_update_self _ ho (Obj.isFreed_of_dict (Obj.data_mapDictKeys hd _)), hc.mapDictKeys _, Obj.data_mapDictKeys hd _⟩, ?_, ?_, ?_⟩ hs)))))
    · rw [Array.toList_push]
      exact Paired.snoc (x.en.keep (stay hs)) ⟨rfl, NestedIs.at (stay hs) _ _ hk, h8⟩
    · rw [List.nodup_append]
      exact ⟨x.nd, by simp, fun a ha b hb e => hr (by rw [List.mem_singleton] at hb; rw [← hb, ← e]; exact ha)⟩
    · rw [List.length_append]; exact hl
  | some j =>
    obtain ⟨e, he, _⟩ := dx_at x hr'.symm
    refine wpAny_bind (wpAny_dictEntries (s := { s with toks := s.toks + k.draws }) ho hd ?_)
    rw [he]
    refine wpAny_bind (wpAny_rule ?_)
    exact wpAny_pure (h1 j e _ hr'.symm he)
end
end NL
/-! ### .. over the hand layer -/
namespace NL
open PySem PySem.Spec PyProof.Rows
section
variable {P : Program} {w : World} {A : Around} {E : Value → Shared → Prop} {s : Shared} {d : Addr} {u : Value} {k : NestedKey} {ks : List NestedKey} {es : Array DictEntry}
abbrev valKE (ks : List NestedKey) (es : Array DictEntry) (k : NestedKey) : Option Value := (ks.idxOf? k).bind fun j => es[j]?.map (·.val)
theorem dx_isSome (x : DX w s.heap d ks es) : (valKE ks es k).isSome = (ks.idxOf? k).isSome := by
  unfold valKE
  cases h : ks.idxOf? k with
  | none => rfl
  | some j =>
    obtain ⟨e, he, _⟩ := dx_at x h
    rw [Option.bind_some, he]; rfl
theorem dx_contains {Q : Bool → Shared → Prop} (hu : A.units + 40 < cLine) (hk : NestedIs s.heap k u) (h8 : k.depth ≤ 8) (hd : (d == sysModules) = false) (x : DX w s.heap d ks es)
    (h : ∀ t, Q (valKE ks es k).isSome { s with toks := t }) : wpAny (model P w) A (contains (.ref d) u) Q E s := by
  refine wpAny_contains_slot x.typeIs PySem.F.slot_dict_contains (wpAny_call_entry PySem.F.slot_dict_contains x.typeIs PySem.F.entry_dict_contains ?_ (PySem.F.args_dict_contains_2 _ _))
  show wpAny _ _ (dictGet d u >>= _) _ _ s
  refine wpAny_bind (dx_get (A := A.in1) (by rw [Around.in1_units]; omega) hk h8 x fun t => ?_)
  have h := h t
  unfold valKE at h
  generalize (ks.idxOf? k).bind (fun j => es[j]?.map (·.val)) = ov at h ⊢
  cases ov with
  | some v =>
    show wpAny _ _ (ret (.bool true)) _ _ _
    exact wpAny_pure ⟨_, rfl, wpAny_truthy_bool h⟩
  | none =>
    show wpAny _ _ (Builtin.Dict.pendingKey? d u >>= _) _ _ _
    exact wpAny_bind (wpAny_pendingKey_other hd (wpAny_pure ⟨_, rfl, wpAny_truthy_bool h⟩))
theorem dx_getItem {v : Value} {Q : Value → Shared → Prop} (hu : A.units + 40 < cLine) (hk : NestedIs s.heap k u) (h8 : k.depth ≤ 8) (x : DX w s.heap d ks es) (hv : valKE ks es k = some v)
    (h : ∀ t, Q v { s with toks := t }) : wpAny (model P w) A (getItem (.ref d) u) Q E s := by
  unfold getItem
  try with_reducible refine wpAny_holding ?_
  refine wpAny_bind (wpAny_sequenceKey x.typeIs (by decide) (wpAny_bind (wpAny_callSpecial?_slot (name := Str.ofString "__getitem__") x.typeIs slot_dict_getitem (wpAny_call_entry slot_dict_getitem x.typeIs entry_dict_getitem ?_ (args_dict_getitem _ _)))))
  show wpAny _ _ (dictGet d u >>= _) _ _ s
  refine wpAny_bind (dx_get (A := A.in1) (by rw [Around.in1_units]; omega) hk h8 x fun t => ?_)
  rw [show ((ks.idxOf? k).bind fun j => es[j]?.map (·.val)) = some v from hv]
  exact wpAny_pure ⟨v, rfl, wpAny_pure (h t)⟩
theorem dx_setItem {v : Value} {Q : Unit → Shared → Prop} (hu : A.units + 40 < cLine) (hk : NestedIs s.heap k u) (h8 : k.depth ≤ 8) (x : DX w s.heap d ks es) (hl : ks.length < sizeLine)
    (h : ∀ h' t, DX w h' d (keysPut ks k) (entsPut w ks es k u v) → Heap.SameBut d s.heap h' → Q () { s with heap := h', toks := t }) : wpAny (model P w) A (setItem (.ref d) u v) Q E s := by
  unfold setItem
  try with_reducible refine wpAny_holding ?_
  refine wpAny_bind (wpAny_sequenceKey x.typeIs (by decide) (wpAny_bind (wpAny_callSpecial?_slot (name := Str.ofString "__setitem__") x.typeIs slot_dict_setitem (wpAny_call_entry slot_dict_setitem x.typeIs entry_dict_setitem ?_ (args_dict_setitem _ _ _)))))
  show wpAny _ _ (Builtin.Dict.notOrdered "__setitem__" ⟨[.ref d, u, v], []⟩ >>= _) _ _ s
  refine wpAny_bind (wpAny_notOrdered_dict x.typeIs ?_)
  show wpAny _ _ (dictSet d u v >>= _) _ _ s
  exact wpAny_bind (dx_put (A := A.in1) (by rw [Around.in1_units]; omega) hk h8 x hl fun h' t y hs => wpAny_pure ⟨.none, rfl, wpAny_pure (h h' t y hs)⟩)
theorem dx_get2 {r : Value} {Q : Value → Shared → Prop} (hu : A.units + 40 < cLine) (hk : NestedIs s.heap k u) (h8 : k.depth ≤ 8) (hd : (d == sysModules) = false) (x : DX w s.heap d ks es)
    (h : ∀ t, Q ((valKE ks es k).getD r) { s with toks := t }) : wpAny (model P w) A (call (.builtin "dict.get") [.ref d, u, r]) Q E s := by
  refine wpAny_call_entry PySem.F.slot_dict_get x.typeIs PySem.F.entry_dict_get ?_ (PySem.F.args_dict_get_3 _ _ _)
  show wpAny _ _ (dictGet d u >>= _) _ _ s
  refine wpAny_bind (dx_get (A := A.in1) (by rw [Around.in1_units]; omega) hk h8 x fun t => ?_)
  have h := h t
  unfold valKE at h
  generalize (ks.idxOf? k).bind (fun j => es[j]?.map (·.val)) = ov at h ⊢
  cases ov with
  | some v => exact wpAny_pure ⟨v, rfl, h⟩
  | none =>
    show wpAny _ _ (Builtin.Dict.missed d u >>= _) _ _ _
    exact wpAny_bind (wpAny_missed_other hd (wpAny_pure ⟨r, rfl, h⟩))
theorem dx_sd {r : Value} {Q : Value → Shared → Prop} (hu : A.units + 40 < cLine) (hk : NestedIs s.heap k u) (h8 : k.depth ≤ 8) (hd : (d == sysModules) = false) (x : DX w s.heap d ks es) (hl : ks.length < sizeLine)
    (h1 : ∀ v t, valKE ks es k = some v → Q v { s with toks := t })
    (h2 : valKE ks es k = none → ∀ h' t, DX w h' d (keysPut ks k) (entsPut w ks es k u r) → Heap.SameBut d s.heap h' → Q r { s with heap := h', toks := t }) : wpAny (model P w) A (call (.builtin "dict.setdefault") [.ref d, u, r]) Q E s := by
  refine wpAny_call_entry PySem.F.slot_dict_setdefault x.typeIs PySem.F.entry_dict_setdefault ?_ (PySem.F.args_dict_setdefault_3 _ _ _)
  unfold Builtin.«dict.setdefault»
  refine wpAny_bind ?_
  unfold Builtin.Dict.keyAndDefault
  refine wpAny_bind (wpAny_notOrdered_dict x.typeIs (wpAny_pure ?_))
  show wpAny _ _ (if (d == sysModules) = true then _ else (dictSetDefault d u r >>= _)) _ _ s
  rw [if_neg (by rw [hd]; exact Bool.false_ne_true)]
  refine wpAny_bind (dx_setdef (A := A.in1) (by rw [Around.in1_units]; omega) hk h8 x hl (fun j e t hj he => wpAny_pure ⟨_, rfl, h1 _ _ ?_⟩) fun hn h' t y hs => wpAny_pure ⟨_, rfl, h2 ?_ h' t y hs⟩)
  · unfold valKE; rw [hj, Option.bind_some, he]; rfl
  · unfold valKE; rw [hn]; rfl
end
open L2
/-! what is a key over the abstract heap -/
mutual
inductive KyAt (K : PySem.W.Frag) (H : Hp) : V → NestedKey → Prop
  | non : KyAt K H .non .none
  | bl (b : Bool) : KyAt K H (.bl b) (.num (if b = true then 1 else 0))
  | int (i : Int) : KyAt K H (.int i) (.num i)
  | str (z : Str) : KyAt K H (.str z) (.text z)
  | tup {a : Addr} {vs : List V} {ks : List NestedKey} : SqT K H a vs → KysAt K H vs ks → KyAt K H (.ref a) (.tup ks)
inductive KysAt (K : PySem.W.Frag) (H : Hp) : List V → List NestedKey → Prop
  | nil : KysAt K H [] []
  | cons {v : V} {vs : List V} {k : NestedKey} {ks : List NestedKey} : KyAt K H v k → KysAt K H vs ks → KysAt K H (v :: vs) (k :: ks)
end
mutual
theorem KyAt.is {X : Cx} {pins : List (Addr × Obj)} {σ : L2.St} {H : Hp} {s : Shared} (I : Inv X pins σ H s) : ∀ {v : V} {k : NestedKey} {u : Value}, KyAt X.K H v k → RelV v u → NestedIs s.heap k u
  | _, _, u, .non, r => by cases (show u = Value.none from r); exact .none
  | _, _, u, .bl b, r => by cases (show u = Value.bool b from r); exact .bool rfl
  | _, _, u, .int i, r => by obtain ⟨t, q⟩ := (show ∃ t, u = Value.int i t from r); subst q; exact .int i t
  | _, _, u, .str z, r => by obtain ⟨t, q⟩ := (show ∃ t, u = Value.str z t from r); subst q; exact .text z t
  | _, _, u, .tup (a := a) (vs := vs) e hs, r => by
    cases (show u = Value.ref a from r)
    obtain ⟨its, q, ⟨o, h1, h2, n, h3⟩, _⟩ := I.tuple e
    exact .tup h1 h2 h3 (by simpa using KysAt.is I hs q)
theorem KysAt.is {X : Cx} {pins : List (Addr × Obj)} {σ : L2.St} {H : Hp} {s : Shared} (I : Inv X pins σ H s) : ∀ {vs : List V} {ks : List NestedKey} {us : List Value}, KysAt X.K H vs ks → Vals vs us → NestedAll s.heap ks us
  | _, _, _, .nil, r => by cases r; exact .nil
  | _, _, _, .cons h1 h2, r => by cases r with | cons r1 r2 => exact .cons (KyAt.is I h1 r1) (KysAt.is I h2 r2)
end
mutual
theorem KyAt.same {K : PySem.W.Frag} {H H' : Hp} (s : Same H H') : ∀ {v : V} {k : NestedKey}, KyAt K H v k → KyAt K H' v k
  | _, _, .non => .non
  | _, _, .bl b => .bl b
  | _, _, .int i => .int i
  | _, _, .str z => .str z
  | _, _, .tup e hs => .tup (SqT_same s e) (KysAt.same s hs)
theorem KysAt.same {K : PySem.W.Frag} {H H' : Hp} (s : Same H H') : ∀ {vs : List V} {ks : List NestedKey}, KysAt K H vs ks → KysAt K H' vs ks
  | _, _, .nil => .nil
  | _, _, .cons h1 h2 => .cons (KyAt.same s h1) (KysAt.same s h2)
end
/-! the abstract dict -/
abbrev XE := NestedKey × V × V
def GXR (w : World) (a : Addr) (ep : Nat) (xs : List XE) (h : Heap) : Prop := (∃ o es, h.get? a = some o ∧ o.ExactDict ∧ o.data = .dict es ep ∧ Paired (fun (x : XE) (e : DictEntry) => (e.hash = x.1.hash w ∧ x.1.depth ≤ 8) ∧ RelV x.2.1 e.key ∧ RelV x.2.2 e.val) xs es.toList) ∧ (xs.map (·.1)).Nodup ∧ xs.length ≤ sizeLine ∧ (a == sysModules) = false
def GX (w : World) (a : Addr) (ep : Nat) (xs : List XE) : HO := .ext (GXR w a ep xs)
def valX : List XE → NestedKey → Option V
  | [], _ => none
  | x :: r, k => if x.1 = k then some x.2.2 else valX r k
def putX : List XE → NestedKey → V → V → List XE
  | [], k, y, v => [(k, y, v)]
  | x :: r, k, y, v => if x.1 = k then (x.1, x.2.1, v) :: r else x :: putX r k y v
def KeysX (K : PySem.W.Frag) (H : Hp) (xs : List XE) : Prop := ∀ x ∈ xs, KyAt K H x.2.1 x.1
theorem KeysX.same {K : PySem.W.Frag} {H H' : Hp} {xs : List XE} (s : Same H H') (h : KeysX K H xs) : KeysX K H' xs := fun x hx => (h x hx).same s
theorem putX_keys (xs : List XE) (k : NestedKey) (y v : V) : (putX xs k y v).map (·.1) = keysPut (xs.map (·.1)) k := by
  induction xs with
  | nil => rfl
  | cons x r ih =>
    unfold putX keysPut
    rw [List.map_cons, List.idxOf?_cons]
    by_cases e : x.1 = k
    · rw [if_pos e, if_pos (by simpa using e)]; rfl
    · rw [if_neg e, if_neg (by simpa using e), List.map_cons, ih]
      unfold keysPut
      cases (r.map (·.1)).idxOf? k <;> rfl
theorem putX_mem {xs : List XE} {k : NestedKey} {y v : V} {z : XE} (h : z ∈ putX xs k y v) : (∃ x ∈ xs, z.1 = x.1 ∧ z.2.1 = x.2.1) ∨ z = (k, y, v) := by
  induction xs with
  | nil => right; simpa [putX] using h
  | cons x r ih =>
    unfold putX at h
    by_cases e : x.1 = k
    · rw [if_pos e] at h
      rcases List.mem_cons.mp h with q | q
      · left; exact ⟨x, List.mem_cons_self, by rw [q], by rw [q]⟩
      · left; exact ⟨z, List.mem_cons_of_mem _ q, rfl, rfl⟩
    · rw [if_neg e] at h
      rcases List.mem_cons.mp h with q | q
      · left; exact ⟨x, List.mem_cons_self, by rw [q], by rw [q]⟩
      · rcases ih q with ⟨x', hx, h1⟩ | q
        · left; exact ⟨x', List.mem_cons_of_mem _ hx, h1⟩
        · right; exact q
theorem putX_len (xs : List XE) (k : NestedKey) (y v : V) : (putX xs k y v).length ≤ xs.length + 1 := by
  induction xs with
  | nil => exact Nat.le_refl _
  | cons x r ih =>
    unfold putX
    split
    · simp
    · simp; exact ih
abbrev XRel (w : World) : List XE → List DictEntry → Prop := Paired fun (x : XE) (e : DictEntry) => (e.hash = x.1.hash w ∧ x.1.depth ≤ 8) ∧ RelV x.2.1 e.key ∧ RelV x.2.2 e.val
theorem XRel.val {w : World} : ∀ {xs : List XE} {es : List DictEntry} (k : NestedKey), XRel w xs es → RelO (valX xs k) (((xs.map (·.1)).idxOf? k).bind fun j => es[j]?.map (·.val))
  | _, _, k, .nil => by simp [valX, RelO]
  | x :: xs, e :: es, k, .cons r t => by
    unfold valX
    rw [List.map_cons, List.idxOf?_cons]
    by_cases q : x.1 = k
    · rw [if_pos q, if_pos (by simpa using q)]; exact r.2.2
    · rw [if_neg q, if_neg (by simpa using q)]
      have ih := XRel.val k t
      cases z : (xs.map (·.1)).idxOf? k with
      | none => rw [z] at ih; exact ih
      | some j => rw [z] at ih; simpa using ih
theorem XRel.put {w : World} {k : NestedKey} {y v : V} {u r' : Value} (h8 : k.depth ≤ 8) (ry : RelV y u) (rv : RelV v r') : ∀ {xs : List XE} {es : List DictEntry}, XRel w xs es →
    XRel w (putX xs k y v) (match (xs.map (·.1)).idxOf? k with
      | none => es ++ [⟨k.hash w, u, r'⟩]
      | some j => es.modify j fun e => { e with val := r' })
  | _, _, .nil => .cons ⟨⟨rfl, h8⟩, ry, rv⟩ .nil
  | x :: xs, e :: es, .cons r t => by
    unfold putX
    rw [List.map_cons, List.idxOf?_cons]
    by_cases q : x.1 = k
    · rw [if_pos q, if_pos (by simpa using q)]
      show XRel w _ ((e :: es).modify 0 _)
      rw [List.modify_zero_cons]
      exact .cons ⟨r.1, r.2.1, rv⟩ t
    · rw [if_neg q, if_neg (by simpa using q)]
      have ih := XRel.put h8 ry rv t
      cases z : (xs.map (·.1)).idxOf? k with
      | none => rw [z] at ih; exact .cons r ih
      | some j =>
        rw [z] at ih
        show XRel w _ ((e :: es).modify (j + 1) _)
        rw [List.modify_succ_cons]
        exact .cons r ih
theorem XRel.en {X : Cx} {pins : List (Addr × Obj)} {σ : L2.St} {H : Hp} {s : Shared} (I : Inv X pins σ H s) {w : World} : ∀ {xs : List XE} {es : List DictEntry}, XRel w xs es → KeysX X.K H xs → EnKs w s.heap (xs.map (·.1)) es
  | _, _, .nil, _ => .nil
  | x :: xs, e :: es, .cons r t, hk => .cons ⟨r.1.1, (hk x List.mem_cons_self).is I r.2.1, r.1.2⟩ (XRel.en I t fun z hz => hk z (List.mem_cons_of_mem _ hz))
theorem gx_ok {P : Program} {w : World} {H : Hp} {h : Heap} {a : Addr} {ep : Nat} {xs : List XE} (x : GXR w a ep xs h) : ObjOk P w H h a (GX w a ep xs) := by
  refine ⟨x, ?_, fun h1 h2 y st => ?_⟩
  · obtain ⟨⟨o, _, ho, _⟩, _⟩ := x; exact ⟨o, ho⟩
  · obtain ⟨⟨o, es, ho, rest⟩, q⟩ := y
    exact ⟨⟨o, es, st o ho, rest⟩, q⟩
/-- a is such a dict, at least to look at -/
abbrev RdX (w : World) (H : Hp) (a : Addr) (xs : List XE) : Prop := ∃ ep, Rd H a (GX w a ep xs)
section
variable {X : Cx} {pins : List (Addr × Obj)} {σ : L2.St} {H : Hp} {s : Shared} {a : Addr} {y v : V} {u r : Value} {k : NestedKey} {xs : List XE} {A : Around} {E : Value → Shared → Prop}
theorem gx_dx (I : Inv X pins σ H s) (e : RdX X.w H a xs) (hk : KeysX X.K H xs) : ∃ es, DX X.w s.heap a (xs.map (·.1)) es ∧ XRel X.w xs es.toList ∧ (a == sysModules) = false := by
  obtain ⟨ep, e⟩ := e
  obtain ⟨⟨⟨o, es, ho, hc, hd, rel⟩, hn, hz, hm⟩, _, _⟩ := (show ObjOk X.prog X.w H s.heap a (GX X.w a ep xs) from e.ok I.hok)
  exact ⟨es, ⟨⟨o, ep, ho, hc, hd⟩, XRel.en I rel hk, hn, by rw [List.length_map]; exact hz⟩, rel, hm⟩
theorem gx_typeIs (I : Inv X pins σ H s) (e : RdX X.w H a xs) : s.TypeIs (.ref a) "dict" ∧ ∀ b, Value.ref a = .ref b → ∃ ob, s.heap.get? b = some ob ∧ ob.dict = none := by
  obtain ⟨ep, e⟩ := e
  obtain ⟨⟨⟨o, es, ho, hc, hd, rel⟩, hn, hz, hm⟩, _, _⟩ := (show ObjOk X.prog X.w H s.heap a (GX X.w a ep xs) from e.ok I.hok)
  exact ⟨⟨o, ho, hc.1⟩, fun b q => by cases q; exact ⟨o, ho, hc.2.1⟩⟩
theorem gx_getItem {Q : Value → Shared → Prop} (hu : A.units + 40 < cLine) (I : Inv X pins σ H s) (e : RdX X.w H a xs) (hk : KeysX X.K H xs) (ky : KyAt X.K H y k) (h8 : k.depth ≤ 8) (ry : RelV y u) (hv : valX xs k = some v) (h : ∀ w' s', Inv X pins σ H s' → RelV v w' → Q w' s') :
    wpAny (model X.prog X.w) A (getItem (.ref a) u) Q E s := by
  obtain ⟨es, x, rel, _⟩ := gx_dx I e hk
  have q := rel.val k
  simp only [Array.getElem?_toList] at q
  rw [hv] at q
  obtain ⟨w', hw, rw'⟩ := RelO.some_of (v := v) (o := valKE (xs.map (·.1)) es k) q
  exact dx_getItem hu (ky.is I ry) h8 x hw fun t => h w' _ (I.tok _) rw'
theorem gx_contains {Q : Bool → Shared → Prop} (hu : A.units + 40 < cLine) (I : Inv X pins σ H s) (e : RdX X.w H a xs) (hk : KeysX X.K H xs) (ky : KyAt X.K H y k) (h8 : k.depth ≤ 8) (ry : RelV y u) (h : ∀ s', Inv X pins σ H s' → Q (valX xs k).isSome s') :
    wpAny (model X.prog X.w) A (contains (.ref a) u) Q E s := by
  obtain ⟨es, x, rel, hd⟩ := gx_dx I e hk
  have q := rel.val k
  simp only [Array.getElem?_toList] at q
  have q2 : (valX xs k).isSome = (valKE (xs.map (·.1)) es k).isSome := RelO.isSome_eq q
  exact dx_contains hu (ky.is I ry) h8 hd x fun t => by rw [← q2]; exact h _ (I.tok _)
theorem gx_write {h' : Heap} {t' ep : Nat} {es : Array DictEntry} (I : Inv X pins σ H s) (e : H a = some (GX X.w a ep xs)) (rel : XRel X.w xs es.toList) (hl : xs.length < sizeLine) (h8 : k.depth ≤ 8) (ry : RelV y u) (rv : RelV v r)
    (x : DX X.w h' a (keysPut (xs.map (·.1)) k) (entsPut X.w (xs.map (·.1)) es k u r)) (hs : Heap.SameBut a s.heap h') : ∃ ep', Inv X pins σ (upd H a (GX X.w a ep' (putX xs k y v))) { s with heap := h', toks := t' } := by
  obtain ⟨_, _, hm⟩ : (∃ o, s.heap.get? a = some o) ∧ True ∧ (a == sysModules) = false := by
    obtain ⟨⟨⟨o, es, ho, _⟩, _, _, hm⟩, _, _⟩ := (show ObjOk X.prog X.w H s.heap a (GX X.w a ep xs) from (Rd.of e).ok I.hok)
    exact ⟨⟨o, ho⟩, trivial, hm⟩
  obtain ⟨o, ep', ho, hc, hd⟩ := x.at_
  refine ⟨ep', d_write I (by rw [e]; exact True.intro) hs ⟨o, ho⟩ (gx_ok ⟨⟨o, _, ho, hc, hd, ?_⟩, ?_, ?_, hm⟩)⟩
  · have := rel.put h8 ry rv
    unfold entsPut
    cases q : (xs.map (·.1)).idxOf? k with
    | none => rw [q] at this; rw [Array.toList_push]; exact this
    | some j => rw [q] at this; simpa using this
  · rw [putX_keys]; exact x.nd
  · have := putX_len xs k y v; omega
theorem gx_setItem {ep : Nat} {Q : Unit → Shared → Prop} (hu : A.units + 40 < cLine) (I : Inv X pins σ H s) (e : H a = some (GX X.w a ep xs)) (hk : KeysX X.K H xs) (ky : KyAt X.K H y k) (h8 : k.depth ≤ 8) (ry : RelV y u) (rv : RelV v r) (hl : xs.length < sizeLine)
    (h : ∀ ep' s', Inv X pins σ (upd H a (GX X.w a ep' (putX xs k y v))) s' → Q () s') : wpAny (model X.prog X.w) A (setItem (.ref a) u r) Q E s := by
  obtain ⟨es, x, rel, _⟩ := gx_dx I ⟨ep, .of e⟩ hk
  exact dx_setItem hu (ky.is I ry) h8 x (by rw [List.length_map]; exact hl) fun h' t x' hs => let ⟨ep', q⟩ := gx_write I e rel hl h8 ry rv x' hs; h ep' _ q
theorem gx_get2 {z : V} {Q : Value → Shared → Prop} (hu : A.units + 40 < cLine) (I : Inv X pins σ H s) (e : RdX X.w H a xs) (hk : KeysX X.K H xs) (ky : KyAt X.K H y k) (h8 : k.depth ≤ 8) (ry : RelV y u) (rz : RelV z r) (h : ∀ w' s', Inv X pins σ H s' → RelV ((valX xs k).getD z) w' → Q w' s') :
    wpAny (model X.prog X.w) A (call (.builtin "dict.get") [.ref a, u, r]) Q E s := by
  obtain ⟨es, x, rel, hd⟩ := gx_dx I e hk
  have q := rel.val k
  simp only [Array.getElem?_toList] at q
  refine dx_get2 hu (ky.is I ry) h8 hd x fun t => h _ _ (I.tok _) ?_
  have q : RelO (valX xs k) (valKE (xs.map (·.1)) es k) := q
  revert q
  cases valX xs k <;> cases valKE (xs.map (·.1)) es k <;> intro q
  · exact rz
  · exact q.elim
  · exact q.elim
  · exact q
theorem gx_sd {ep : Nat} {Q : Value → Shared → Prop} (hu : A.units + 40 < cLine) (I : Inv X pins σ H s) (e : H a = some (GX X.w a ep xs)) (hk : KeysX X.K H xs) (ky : KyAt X.K H y k) (h8 : k.depth ≤ 8) (ry : RelV y u) (rv : RelV v r) (hl : xs.length < sizeLine)
    (h1 : ∀ z, valX xs k = some z → ∀ w' s', Inv X pins σ H s' → RelV z w' → Q w' s')
    (h2 : valX xs k = none → ∀ ep' w' s', Inv X pins σ (upd H a (GX X.w a ep' (putX xs k y v))) s' → RelV v w' → Q w' s') : wpAny (model X.prog X.w) A (call (.builtin "dict.setdefault") [.ref a, u, r]) Q E s := by
  obtain ⟨es, x, rel, hd⟩ := gx_dx I ⟨ep, .of e⟩ hk
  have q := rel.val k
  simp only [Array.getElem?_toList] at q
  have q : RelO (valX xs k) (valKE (xs.map (·.1)) es k) := q
  refine dx_sd hu (ky.is I ry) h8 hd x (by rw [List.length_map]; exact hl) (fun z' t hz => ?_) fun hn h' t x' hs => ?_
  · rw [hz] at q
    cases hv : valX xs k with
    | none => rw [hv] at q; exact (show False from q).elim
    | some z => rw [hv] at q; exact h1 z hv _ _ (I.tok _) q
  · rw [hn] at q
    cases hv : valX xs k with
    | some z => rw [hv] at q; exact (show False from q).elim
    | none =>
      obtain ⟨ep', q⟩ := gx_write I e rel hl h8 ry rv x' hs
      exact h2 hv ep' _ _ q rv
end
/-! rules -/
/-- {}, to be a dict with keys of any kind -/
def tDNewX (w : World) : TE := fun _ H Q => ∀ p, H p = none → Q (.ref p) (upd H p (GX w p 0 []))
def tXGet (K : PySem.W.Frag) (w : World) (td ty : TE) : TE := fun σ H Q => td σ H fun x H1 => ty σ H1 fun y H2 => ∃ a xs k v, x = .ref a ∧ RdX w H2 a xs ∧ KeysX K H2 xs ∧ KyAt K H2 y k ∧ k.depth ≤ 8 ∧ valX xs k = some v ∧ Q v H2
def tXIn (K : PySem.W.Frag) (w : World) (neg : Bool) (ty td : TE) : TE := fun σ H Q => ty σ H fun y H1 => td σ H1 fun x H2 => ∃ a xs k, x = .ref a ∧ RdX w H2 a xs ∧ KeysX K H2 xs ∧ KyAt K H2 y k ∧ k.depth ≤ 8 ∧ Q (.bl (neg ^^ (valX xs k).isSome)) H2
def sXPut (K : PySem.W.Frag) (w : World) (td ty tv : TE) : TS := fun D σ H => tv σ H fun v H1 => td σ H1 fun x H2 => ty σ H2 fun y H3 => ∃ a ep xs k, x = .ref a ∧ H3 a = some (GX w a ep xs) ∧ KeysX K H3 xs ∧ KyAt K H3 y k ∧ k.depth ≤ 8 ∧ xs.length < sizeLine ∧ ∀ ep', D.nx σ (upd H3 a (GX w a ep' (putX xs k y v)))
def tXGet2 (K : PySem.W.Frag) (w : World) (td ty tx : TE) : TE := fun σ H Q => td σ H fun x H1 => ∃ a xs0, x = .ref a ∧ RdX w H1 a xs0 ∧ ty σ H1 fun y H2 => tx σ H2 fun z H3 => ∃ xs k, RdX w H3 a xs ∧ KeysX K H3 xs ∧ KyAt K H3 y k ∧ k.depth ≤ 8 ∧ Q ((valX xs k).getD z) H3
def tXSd (K : PySem.W.Frag) (w : World) (td ty tx : TE) : TE := fun σ H Q => td σ H fun x H1 => ∃ a xs0, x = .ref a ∧ RdX w H1 a xs0 ∧ ty σ H1 fun y H2 => tx σ H2 fun z H3 => ∃ ep xs k, H3 a = some (GX w a ep xs) ∧ KeysX K H3 xs ∧ KyAt K H3 y k ∧ k.depth ≤ 8 ∧ xs.length < sizeLine ∧
  (∀ v, valX xs k = some v → Q v H3) ∧ (valX xs k = none → ∀ ep', Q z (upd H3 a (GX w a ep' (putX xs k y z))))
section
variable {X : Cx} {o i e f value : Expr} {pos pos' tpos apos cpos : Pos} {td ty tv tx : TE}
theorem pe_dnewX : PE X (.Dict [] [] pos) (tDNewX X.w) := ⟨fun pins s σ H Q I h => by
  have hn := I.hok.fresh (a := s.heap.objs.size) (Nat.le_refl _)
  have hb := I.big
  refine wpAny_Dict_empty ⟨.ref s.heap.objs.size, _, I.laid (a := s.heap.objs.size) (o := GX X.w s.heap.objs.size 0 []) (t' := s.toks) (fun _ _ q => Heap.get?_push_of_some _ q) (Nat.le_refl _) (gx_ok ⟨⟨_, #[], Heap.get?_push_size _ rfl, ⟨rfl, rfl, rfl⟩, rfl, .nil⟩, List.nodup_nil, Nat.zero_le _, beq_eq_false_iff_ne.mpr (Ne.symm (Nat.ne_of_lt hb))⟩), rfl, h _ hn⟩⟩
theorem pe_xget (hu : X.A.units + 41 < cLine) (ho : PE X o td) (hi : PE X i ty) (hs : NoSl i) : PE X (.Subscript o i pos) (tXGet X.K X.w td ty) := by
  refine ⟨fun pins s σ H Q I h => ?_⟩
  refine subD_of PySem.F.slot_dict_getitem.lookup hs (thn (ho.run pins s σ H _ I h) fun u s1 ⟨x, H1, I1, rx, q1⟩ => thn (hi.run pins s1 σ H1 _ I1 q1) fun iv s2 ⟨y, H2, I2, ry, a, xs, k, v, ex, e, hk, ky, h8, hv, q2⟩ => ?_)
  subst ex
  obtain rfl : u = Value.ref a := rx
  exact ⟨(gx_typeIs I2 e).1, gx_getItem (by omega) I2 e hk ky h8 ry hv fun w' s3 I3 rw' => ⟨v, H2, I3, rw', q2⟩⟩
theorem pc_xin (hu : X.A.units + 41 < cLine) (hi : PE X i ty) (ho : PE X o td) : PC X .In i o (tXIn X.K X.w false ty td) := by
  refine ⟨fun pins s σ H Q I h => ?_⟩
  refine thn (hi.run pins s σ H _ I h) fun iv s1 ⟨y, H1, I1, ry, q1⟩ => thn (ho.run pins s1 σ H1 _ I1 q1) fun u s2 ⟨x, H2, I2, rx, a, xs, k, ex, e, hk, ky, h8, q2⟩ => ?_
  subst ex
  obtain rfl : u = Value.ref a := rx
  show wpAny _ _ (do return Value.bool (← contains (.ref a) iv)) _ _ s2
  exact wpAny_bind (gx_contains (by omega) I2 e hk ky h8 ry fun s3 I3 => wpAny_pure ⟨.bl _, H2, I3, rfl, by rw [Bool.false_xor] at q2; exact q2⟩)
theorem pc_xnotin (hu : X.A.units + 41 < cLine) (hi : PE X i ty) (ho : PE X o td) : PC X .NotIn i o (tXIn X.K X.w true ty td) := by
  refine ⟨fun pins s σ H Q I h => ?_⟩
  refine thn (hi.run pins s σ H _ I h) fun iv s1 ⟨y, H1, I1, ry, q1⟩ => thn (ho.run pins s1 σ H1 _ I1 q1) fun u s2 ⟨x, H2, I2, rx, a, xs, k, ex, e, hk, ky, h8, q2⟩ => ?_
  subst ex
  obtain rfl : u = Value.ref a := rx
  show wpAny _ _ (do return Value.bool (!(← contains (.ref a) iv))) _ _ s2
  exact wpAny_bind (gx_contains (by omega) I2 e hk ky h8 ry fun s3 I3 => wpAny_pure ⟨.bl _, H2, I3, rfl, by rw [Bool.true_xor] at q2; exact q2⟩)
theorem ps_xput (hu : X.A.units + 41 < cLine) (ho : PE X o td) (hi : PE X i ty) (hv : PE X value tv) (hs : swapsWith value (some (.Subscript o i pos')) pos.line X.env = pure false) :
    PS X (.Assign [.Subscript o i pos'] value pos) (sXPut X.K X.w td ty tv) := by
  refine ⟨fun pins s σ H D I h => ?_⟩
  refine wpAny_Assign_Subscript (thn (hv.run pins s σ H _ I h) fun r s1 ⟨v, H1, I1, rv, q1⟩ => thn (ho.run pins s1 σ H1 _ I1 q1) fun u s2 ⟨x, H2, I2, rx, q2⟩ => thn (hi.run pins s2 σ H2 _ I2 q2) fun iv s3 ⟨y, H3, I3, ry, a, ep, xs, k, ex, e, hk, ky, h8, hl, q3⟩ => ?_) hs
  subst ex
  obtain rfl : u = Value.ref a := rx
  exact gx_setItem (by omega) I3 e hk ky h8 ry rv hl fun ep' s4 I4 => ⟨σ, _, I4, q3 ep'⟩
theorem pe_xget2 (hu : X.A.units + 41 < cLine) (ho : PE X o td) (he : PE X e ty) (hf : PE X f tx) (m : M2 X o "get" apos e f cpos) : PE X (.Call (.Attribute o "get" apos) [e, f] [] cpos) (tXGet2 X.K X.w td ty tx) := by
  refine ⟨fun pins s σ H Q I h => ?_⟩
  refine wpAny_Call_method m.base m.few m.line PySem.F.plainAttrs_dict PySem.F.slot_dict_get PySem.F.type_dict_get (thn (ho.run pins s σ H _ I h) fun u s1 ⟨x, H1, I1, rx, a, xs0, ex, e0, q1⟩ => ?_)
  subst ex
  obtain rfl : u = Value.ref a := rx
  obtain ⟨t1, t2⟩ := gx_typeIs I1 e0
  refine ⟨t1, t2, ?_⟩
  rw [m.trees]
  refine Calls.callWith_builtin rfl (Calls.evalArgs_plain (Calls.spliced_cons (thn (he.run pins s1 σ H1 _ I1 q1) fun iv s2 ⟨y, H2, I2, ry, q2⟩ =>
    Calls.spliced_cons (thn (hf.run pins s2 σ H2 _ I2 q2) fun fv s3 ⟨z, H3, I3, rz, xs, k, e, hk, ky, h8, q3⟩ => Calls.spliced_nil ?_))))
  exact gx_get2 (by omega) I3 e hk ky h8 ry rz fun w' s4 I4 rw' => ⟨_, H3, I4, rw', q3⟩
theorem pe_xsd (hu : X.A.units + 41 < cLine) (ho : PE X o td) (he : PE X e ty) (hf : PE X f tx) (m : M2 X o "setdefault" apos e f cpos) : PE X (.Call (.Attribute o "setdefault" apos) [e, f] [] cpos) (tXSd X.K X.w td ty tx) := by
  refine ⟨fun pins s σ H Q I h => ?_⟩
  refine wpAny_Call_method m.base m.few m.line PySem.F.plainAttrs_dict PySem.F.slot_dict_setdefault PySem.F.type_dict_setdefault (thn (ho.run pins s σ H _ I h) fun u s1 ⟨x, H1, I1, rx, a, xs0, ex, e0, q1⟩ => ?_)
  subst ex
  obtain rfl : u = Value.ref a := rx
  obtain ⟨t1, t2⟩ := gx_typeIs I1 e0
  refine ⟨t1, t2, ?_⟩
  rw [m.trees]
  refine Calls.callWith_builtin rfl (Calls.evalArgs_plain (Calls.spliced_cons (thn (he.run pins s1 σ H1 _ I1 q1) fun iv s2 ⟨y, H2, I2, ry, q2⟩ =>
    Calls.spliced_cons (thn (hf.run pins s2 σ H2 _ I2 q2) fun fv s3 ⟨z, H3, I3, rz, ep, xs, k, e, hk, ky, h8, hl, q3, q4⟩ => Calls.spliced_nil ?_))))
  exact gx_sd (by omega) I3 e hk ky h8 ry rz hl (fun v hv w' s4 I4 rw' => ⟨v, _, I4, rw', q3 v hv⟩) fun hn ep' w' s4 I4 rw' => ⟨z, _, I4, rw', q4 hn ep'⟩
end
/-! walks -/
/-- the i-th entry, as a tuple -/
def Itx (w : World) (d : Addr) (ep : Nat) (xs : List XE) : It :=
  ⟨fun i H => Rd H d (GX w d ep xs) ∧ i < xs.length, fun i H x H' => ∃ e q, xs[i]? = some e ∧ x = .ref q ∧ H q = none ∧ H' = upd H q (.tup [e.2.1, e.2.2]), fun i H => Rd H d (GX w d ep xs) ∧ xs.length ≤ i⟩
theorem XRel.get {w : World} : ∀ {xs : List XE} {es : List DictEntry} {i : Nat} {e : XE}, XRel w xs es → xs[i]? = some e → ∃ z, es[i]? = some z ∧ RelV e.2.1 z.key ∧ RelV e.2.2 z.val
  | _, _, _, _, .nil, q => by simp at q
  | _, _, 0, _, .cons r _, q => by simp at q; subst q; exact ⟨_, rfl, r.2⟩
  | _, _, i + 1, e, .cons _ t, q => by simpa using XRel.get (i := i) t (by simpa using q)
theorem gx_raw {X : Cx} {pins : List (Addr × Obj)} {σ : L2.St} {H : Hp} {s : Shared} {a : Addr} {ep : Nat} {xs : List XE} (I : Inv X pins σ H s) (e : Rd H a (GX X.w a ep xs)) : ∃ es, s.heap.DictRaw a es ep ∧ XRel X.w xs es.toList ∧ es.size = xs.length ∧ (a == sysModules) = false := by
  obtain ⟨⟨⟨o, es, ho, hc, hd, rel⟩, hn, hz, hm⟩, _, _⟩ := (show ObjOk X.prog X.w H s.heap a (GX X.w a ep xs) from e.ok I.hok)
  exact ⟨es, ⟨o, ho, hc, hd⟩, rel, by rw [← Array.length_toList]; exact (Paired.length rel).symm, hm⟩
section
variable {P : Program} {w : World} {K : PySem.W.Frag} {d : Addr} {ep : Nat} {xs : List XE}
theorem turn_itemsX {elts : List Expr} {kk : Nat} {tpos : Pos} (it : Addr) : Turn P w K (.Tuple elts kk tpos) (Itx w d ep xs) [it] it (fun i h => ∃ ok ov, IsItemIter h it d i xs.length ep ok ov) where
  mem := by simp
  obj := fun i h st b hb => by
    rw [List.mem_singleton.mp hb]
    obtain ⟨ok, ov, e⟩ := st
    exact ⟨_, e, fun v z => nomatch z⟩
  keep := fun i h h' st k => let ⟨ok, ov, e⟩ := st; ⟨ok, ov, k it (by simp) _ e⟩
  item := by
    intro X hP hw hK hc i pins s σ H E I hf st hg
    subst hP; subst hw; subst hK
    obtain ⟨hd, hi⟩ := hg
    obtain ⟨es, hm, rel, hsz, _⟩ := gx_raw I hd
    obtain ⟨e, he⟩ : ∃ e, xs[i]? = some e := ⟨xs[i], List.getElem?_eq_getElem hi⟩
    obtain ⟨z, hz, r1, r2⟩ := rel.get he
    have hlt' : i < es.size := by rw [hsz]; exact hi
    have ez : es[i] = z := by
      rw [Array.getElem?_toList, Array.getElem?_eq_getElem hlt'] at hz
      exact Option.some.inj hz
    subst ez
    obtain ⟨ok, ov, hit⟩ := st
    rw [← hsz] at hit
    have hlt : it < s.heap.objs.size := Heap.lt_size hit
    refine wpAny_pyNext_items_item_raw hit hm hlt' fun h' ho hT hz' hk => ⟨_, rfl, wpAny_letOwnedTupleGo_items (s := { s with heap := h' }) ho fun h'' he' sb => ?_⟩
    have hT2 := (sb.2 _ (Nat.ne_of_gt hlt)).trans hT
    have new : ObjOk X.prog X.w (upd H s.heap.objs.size (.tup [e.2.1, e.2.2])) h'' s.heap.objs.size (.tup [e.2.1, e.2.2]) :=
      ⟨by show 2 ≤ sizeLine; decide, [es[i].key, es[i].val], .cons r1 (.cons r2 .nil), ⟨_, hT2, rfl, _, rfl⟩⟩
    have I1 : Inv X pins σ (upd H s.heap.objs.size (.tup [e.2.1, e.2.2])) { s with heap := h'' } :=
      I.turnedNew (t' := s.toks) (ch := [it]) (fun b ob hb q => (sb.2 b (by simpa using hb)).trans (hk b ob (by simpa using hb) q)) hf (Nat.le_refl _) new
    refine ⟨.ref s.heap.objs.size, _, I1, rfl, ⟨e, _, he, rfl, I.hok.fresh (Nat.le_refl _), rfl⟩, ⟨es[i].key, es[i].val, ?_⟩, fun b hb => ?_⟩
    · rw [← hsz]; exact he'
    · rw [List.mem_singleton.mp hb, upd_ne (Nat.ne_of_lt hlt)]
      exact (hf it (by simp)).1
  done := by
    intro X hP hw hK hc i pins s σ H E I hf st hg
    subst hP; subst hw; subst hK
    obtain ⟨hd, hi⟩ := hg
    obtain ⟨es, hm, rel, hsz, _⟩ := gx_raw I hd
    obtain ⟨f0, f1, f2, f3, f4, f5⟩ := hf it (by simp)
    obtain ⟨ok, ov, hit⟩ := st
    rw [← hsz] at hit
    exact wpAny_pyNext_items_end_raw (I.ok.hd hc) hit hm (by omega) fun h' eb => ⟨rfl, I.turned (t' := s.toks) (fun b ob hb q => eb b ob hb q) f0 f1 f3 f4 f5⟩
  self := fun A i s Q E st h => let ⟨_, _, e⟩ := st; PySem.W.kcp_self e h
def iItemsX (w : World) (td : TE) : TI := fun σ H R => td σ H fun x H1 => ∃ d ep xs, x = .ref d ∧ Rd H1 d (GX w d ep xs) ∧ R (Itx w d ep xs) H1
theorem pi_itemsX {X : Cx} {e : Expr} {td : TE} {apos cpos : Pos} {elts : List Expr} {kk : Nat} {tpos : Pos} (he : PE X e td) (hbase : attributeBase e "items" X.env (eval e X.env) = eval e X.env := by rfl) (hline : (apos.endLine == cpos.line) = true := by rfl) :
    PI X (.Tuple elts kk tpos) (.Call (.Attribute e "items" apos) [] [] cpos) (iItemsX X.w td) := by
  refine ⟨fun pins s σ H R I h => ?_⟩
  refine wpAny_Call_method (T := "dict") (id := "dict.items") hbase rfl hline F.plainAttrs_dict F.slot_dict_items F.type_dict_items (thn (he.run pins s σ H _ I h) fun u s1 ⟨x, H1, I1, rx, d, ep, xs, ex, hd, q⟩ => ?_)
  subst ex
  obtain rfl : u = Value.ref d := rx
  obtain ⟨es, hm, rel, hsz, hs⟩ := gx_raw I1 hd
  obtain ⟨t1, t2⟩ := gx_typeIs I1 ⟨ep, hd⟩
  refine ⟨t1, t2, ?_⟩
  have I2 : Inv X pins σ H1 { s1 with heap := s1.heap.push { cls := .type "dict_items", data := .fields #[.ref d] } } := I1.kept (t' := s1.toks) fun b ob q => Heap.get?_push_of_some _ q
  have fin : wpAny (model X.prog X.w) X.A (pyIter (.ref s1.heap.objs.size)) (PIE X pins σ (.Tuple elts kk tpos) R) X.xe { s1 with heap := s1.heap.push { cls := .type "dict_items", data := .fields #[.ref d] } } := by
    refine wpAny_pyIter_items_raw (d := d) ⟨_, Heap.get?_push_size _ rfl, rfl, rfl⟩ (hm.at fun o q => Heap.get?_push_of_some _ q) (pi_one (tk := s1.toks) I2 _ (turn_itemsX _) ⟨.none, .none, ?_⟩ q)
    rw [← hsz]
    exact Heap.get?_push_size _ rfl
  show wpAny _ _ (callWith cpos (.builtin "dict.items") [.ref d] [] []) _ X.xe s1
  exact method_meetsIn F.slot_dict_items F.entry_dict_items rfl (PySem.evalArgs_none ⟨rfl, t1, F.args_dict_items_1 _, _, meets_dict_items_raw d hs, ⟨es, ep, hm⟩, fin⟩)
end
end NL
/-! for i, x in enumerate(t), t a tuple -/
namespace PySem
namespace NLE
theorem meets_enumerate_one {v : Value} {o : Obj} {H : Heap → Prop} (B : Begins v o H) :
    Meets (Builtin.«enumerate.__new__» ⟨[.type "enumerate", v], []⟩) (fun _ R s => H s.heap ∧
      R (.ok (.ret (.ref (s.heap.push o).objs.size))) { s with heap := (s.heap.push o).push { cls := .type "enumerate", data := .fields #[.none, .bool false, .ref s.heap.objs.size, rawInt 0, .none, .none] } }) :=
  .of_wp fun prog w A R s h => by
    obtain ⟨hp, g, d, tk, os⟩ := s; obtain ⟨h1, h⟩ := h
    have hsub := sub_enumerate
    have q1 : ∀ {A' : Around} {E : Value → Shared → Prop} {Q : Value → Shared → Prop}, Q (.ref hp.objs.size) ⟨hp.push o, g, d, tk, os⟩ → wpAny (model prog w) A' (pyIter v) Q E ⟨hp, g, d, tk, os⟩ :=
      fun q => B.iter prog w _ _ ⟨hp, g, d, tk, os⟩ _ h1 q
    wp_walk using q1
    refine wpAny_stack_any fun st => wpAny_pure ?_
    split
    · rename_i c _ _ _ _ _
      cases (c == Value.type "enumerate")
      · wp_walk using q1
        exact ⟨_, rfl, h⟩
      · wp_walk using q1
        exact ⟨_, rfl, h⟩
    · wp_walk using q1
      exact ⟨_, rfl, h⟩
section
variable {prog : Program} {w : World} {A : Around} {E : Value → Shared → Prop} {s : Shared}
theorem enum_one {v : Value} {o : Obj} {H : Heap → Prop} {Q : Value → Shared → Prop} (B : Begins v o H) (h1 : H s.heap)
    (h : ∀ h', IsEnum h' (s.heap.objs.size + 1) s.heap.objs.size 0 .none → h'.get? s.heap.objs.size = some o → h'.objs.size = s.heap.objs.size + 2 →
      (∀ b o, s.heap.get? b = some o → h'.get? b = some o) → Q (.ref (s.heap.objs.size + 1)) { s with heap := h' }) :
    wpAny (model prog w) A (call (.type "enumerate") [v]) Q E s := by
  refine callType_new F.called_enumerate (by decide) (F.typeCall_enumerate_1 _) (F.newCall_enumerate_1 _) (fun obj => F.args_object_init_2 obj _) F.entry_enumerate_new
    (meets_enumerate_one B) ⟨h1, ?_⟩
  have hz : (s.heap.push o).objs.size = s.heap.objs.size + 1 := Heap.size_push ..
  show _ ∧ _
  rw [hz]
  have he : IsEnum ((s.heap.push o).push { cls := .type "enumerate", data := .fields #[.none, .bool false, .ref s.heap.objs.size, rawInt 0, .none, .none] }) (s.heap.objs.size + 1) s.heap.objs.size 0 .none := by
    have := Heap.get?_push_size (s.heap.push o) (o := { cls := .type "enumerate", data := .fields #[.none, .bool false, .ref s.heap.objs.size, rawInt 0, .none, .none] }) rfl
    rw [hz] at this; exact this
  refine ⟨⟨_, he, rfl⟩, h _ he (Heap.get?_push_of_some _ (Heap.get?_push_size _ B.free)) (by rw [Heap.size_push, hz]) fun b o x => Heap.get?_push_of_some _ (Heap.get?_push_of_some _ x)⟩
theorem enum_endT {e it l : Addr} {i : Nat} {items : Array Value} {old : Value} {Q : Option Value → Shared → Prop} (hh : A.handled = none)
    (he : IsEnum s.heap e it i old) (hit : s.heap.IsTupleIter it l i) (hl : s.heap.IsTuple l items) (hx : items[i]? = none)
    (hQ : ∀ h', Heap.ExtBut it s.heap h' → Q none { s with heap := h' }) : wpAny (model prog w) A (pyNext (.ref e)) Q E s := by
  have hT : s.TypeIs (.ref e) "enumerate" := ⟨_, he, rfl⟩
  unfold pyNext
  refine wpAny_bind (wpAny_attempt (wpAny_callSpecial?_slot (name := Str.ofString "__next__") hT F.slot_enumerate_next
    (wpAny_call_entry F.slot_enumerate_next hT F.entry_enumerate_next ?_ (F.args_enumerate_next_1 _))))
  show wpAny _ _ (field (.ref e) 2 >>= _) _ _ _
  refine wpAny_bind (wpAny_field he rfl (x := .ref it) rfl ?_)
  refine wpAny_bind (wpAny_nextOf_tuple_end hh hit hl hx fun h' x he' hx' => ?_)
  obtain ⟨o, ho, hc⟩ := hx'
  refine wpAny_bind (wpAny_isInstance (T := "StopIteration") (b := true) ⟨o, ho, hc⟩ isSubtype_stop ?_)
  exact wpAny_pure (hQ _ he')
end
end NLE
end PySem
namespace NL
open PySem L2 PySem.Spec PyProof.Rows
/-- the tuple at a, each item in a new pair with its number -/
def IteT (K : PySem.W.Frag) (a : Addr) : It :=
  ⟨fun i H => ∃ (xs : List V) (x : V), SqT K H a xs ∧ xs[i]? = some x, fun i H v H' => ∃ T x, v = .ref T ∧ H T = none ∧ H' = upd H T (.tup [.int (i : Nat), x]) ∧ ∀ xs, SqT K H a xs → xs[i]? = some x, fun i H => ∃ xs : List V, SqT K H a xs ∧ xs.length ≤ i⟩
theorem turn_enumT {P : Program} {w : World} {K : PySem.W.Frag} {elts : List Expr} {kk : Nat} {tpos : Pos} (a e it : Addr) (hai : a ≠ it) (hae : a ≠ e) :
    Turn P w K (.Tuple elts kk tpos) (IteT K a) [e, it] e (fun i h => (∃ old, IsEnum h e it ((i : Nat) : Int) old) ∧ h.IsTupleIter it a i ∧ e ≠ it) where
  mem := by simp
  obj := fun i h st b hb => by
    obtain ⟨⟨old, he⟩, ⟨o, ho, hc, hd⟩, _⟩ := st
    have e' : b = e ∨ b = it := by simpa using hb
    rcases e' with z | z
    · rw [z]; exact ⟨_, he, fun v q => nomatch q⟩
    · rw [z]; exact ⟨o, ho, fun v q => by rw [hd] at q; cases q⟩
  keep := fun i h h' st k => let ⟨⟨old, he⟩, hi, hne⟩ := st; ⟨⟨old, k e (by simp) _ he⟩, hi.at fun o q => k it (by simp) o q, hne⟩
  item := by
    intro X hP hw hK hc i pins s σ H E I hf st hg
    subst hP hw hK
    obtain ⟨⟨old, he⟩, hit, hne⟩ := st
    obtain ⟨xs, x, hq, hx⟩ := hg
    obtain ⟨its, rv, p, hz⟩ := I.tuple hq
    obtain ⟨u, hu, ru⟩ := rv.get hx
    have hel : e < s.heap.objs.size := Heap.lt_size he
    have hil : it < s.heap.objs.size := by obtain ⟨_, q, _⟩ := hit; exact Heap.lt_size q
    have hh : X.A.in1.handled = none := I.ok.hd hc
    have hi : i < its.toArray.size := by
      have := (List.getElem?_eq_some_iff.mp hu).1
      simpa using this
    refine wpAny_pyNext_enum_itemD (Draws.tuple hh it a hai its.toArray) he ⟨hit, (show s.heap.IsTuple a its.toArray from p)⟩ hi hne (by simp [hne, Ne.symm hae]) fun x' h' tk hP ho hit' hT hsz hk => ?_
    have hxu : x' = u := by
      have h1 : its.toArray[i]? = some x' := hP
      have h2 : its.toArray[i]? = some u := by simpa using hu
      rw [h1] at h2; exact Option.some.inj h2
    subst hxu
    refine ⟨_, rfl, wpAny_letOwnedTupleGo_enum (s := { s with heap := h', toks := tk + 1 }) ho fun h'' he' sb => ?_⟩
    have hT2 : h''.get? s.heap.objs.size = some { cls := .type "tuple", data := .seq #[.int i tk, x'] } := (sb.2 _ (Nat.ne_of_gt hel)).trans hT
    have new : ObjOk X.prog X.w (upd H s.heap.objs.size (.tup [.int (i : Nat), x])) h'' s.heap.objs.size (.tup [.int (i : Nat), x]) :=
      ⟨by show 2 ≤ sizeLine; decide, [.int i tk, x'], .cons ⟨_, rfl⟩ (.cons ru .nil), ⟨_, hT2, rfl, _, rfl⟩⟩
    have I1 : Inv X pins σ (upd H s.heap.objs.size (.tup [.int (i : Nat), x])) { s with heap := h'', toks := tk + 1 } :=
      I.turnedNew (ch := [e, it]) (fun b ob hb q => (sb.2 b (fun z => hb (by simp [z]))).trans (hk b ob (fun z => hb (by simp [z])) (fun z => hb (by simp [z])) q)) hf (Nat.le_refl _) new
    refine ⟨.ref s.heap.objs.size, _, I1, rfl, ⟨_, x, rfl, I.hok.fresh (Nat.le_refl _), rfl, fun ys hy => by rw [I.tuple_inj hy hq]; exact hx⟩, ⟨⟨x', ?_⟩, hit'.1.at fun o q => (sb.2 it (Ne.symm hne)).trans q, hne⟩, fun b hb => ?_⟩
    · have e1 : ((i + 1 : Nat) : Int) = (i : Int) + 1 := by omega
      rw [e1]; exact he'
    · have hb' : b < s.heap.objs.size := by
        have e' : b = e ∨ b = it := by simpa using hb
        rcases e' with z | z
        · rw [z]; exact hel
        · rw [z]; exact hil
      rw [upd_ne (Nat.ne_of_lt hb')]
      exact (hf b hb).1
  done := by
    intro X hP hw hK hc i pins s σ H E I hf st hg
    subst hP hw hK
    obtain ⟨⟨old, he⟩, hit, hne⟩ := st
    obtain ⟨xs, hq, hx⟩ := hg
    obtain ⟨its, rv, p, hz⟩ := I.tuple hq
    obtain ⟨f0, f1, f2, f3, f4, f5⟩ := hf it (by simp)
    have hl := rv.length
    have hh : X.A.in1.handled = none := I.ok.hd hc
    exact PySem.NLE.enum_endT (I.ok.hd hc) he hit (show s.heap.IsTuple a its.toArray from p) (by simp; omega) fun h' eb => ⟨rfl, I.turned (t' := s.toks) (fun b o hb q => eb b o hb q) f0 f1 f3 f4 f5⟩
  self := fun A i s Q E st h => let ⟨⟨_, he⟩, _⟩ := st; wpAny_pyIter_enum he h
def iEnumT (K : PySem.W.Frag) (ta : TA) : TI := fun σ H R => ta σ H fun vs H1 => ∃ a xs, vs = [.ref a] ∧ SqT K H1 a xs ∧ R (IteT K a) H1
theorem pi_enumT {X : Cx} {e : Expr} {ta : TA} {p pos tpos : Pos} {elts : List Expr} {kk : Nat} (hg : Gl X "enumerate") (hm : X.mg "enumerate" = none) (ha : PA X [e] ta) (hs : starEach [e] X.env = [(false, eval e X.env)] := by rfl) :
    PI X (.Tuple elts kk tpos) (.Call (.Name "enumerate" p) [e] [] pos) (iEnumT X.K ta) := by
  refine ⟨fun pins s σ H R I h => ?_⟩
  refine Call_ (ld_blt I hg hm boot_enumerate (PyProof.Rows.callWith_type1 (thn (ha.run pos pins s σ H _ I h) fun us s1 ⟨vs, H1, I1, r1, q1⟩ => ?_) hs rfl))
  obtain ⟨a, xs, ex, hq, q⟩ := q1
  subst ex
  cases r1 with
  | cons r rr =>
    cases rr
    cases r
    obtain ⟨its, rv, p', hz⟩ := I1.tuple hq
    have pT : s1.heap.IsTuple a its.toArray := p'
    have hal : a < s1.heap.objs.size := by obtain ⟨_, q, _⟩ := p'; exact Heap.lt_size q
    refine PySem.NLE.enum_one (begins_tuple a its.toArray) pT fun h' he hit hsz hk => wpAny_pyIter_enum he ?_
    have I2 : Inv X pins σ H1 { s1 with heap := h' } := I1.kept (t' := s1.toks) hk
    refine ⟨s1.heap.objs.size + 1, [s1.heap.objs.size + 1, s1.heap.objs.size], _, _, H1, rfl, I2, turn_enumT a (s1.heap.objs.size + 1) s1.heap.objs.size (Nat.ne_of_lt hal) (Nat.ne_of_lt (Nat.lt_succ_of_lt hal)), ⟨⟨.none, he⟩, ⟨_, hit, rfl, rfl⟩, Nat.succ_ne_self _⟩, fun b hb => ?_, q⟩
    have e' : b = s1.heap.objs.size + 1 ∨ b = s1.heap.objs.size := by simpa using hb
    have hle : s1.heap.objs.size ≤ b := by
      rcases e' with z | z
      · rw [z]; exact Nat.le_add_right _ _
      · rw [z]; exact Nat.le_refl _
    exact I1.fpOk hle (I1.hok.fresh hle)
theorem walk_enumT {K : PySem.W.Frag} {a : Addr} {xs : List V} : Walk (IteT K a) xs.length (fun H => SqT K H a xs) (YPair (fun i => some (.int (i : Nat))) (fun i => xs[i]?)) where
  goes := fun i H hi h => ⟨xs, xs[i], h, List.getElem?_eq_getElem hi⟩
  stops := fun H h => ⟨xs, h, Nat.le_refl _⟩
  yields := fun i H x H' hi h ⟨T, y, h1, h2, h3, h4⟩ => ⟨T, .int i, y, h1, h2, h3, rfl, h4 xs h⟩
end NL
namespace NL
open PySem L2
/-! the place hangs on the difference of cells and the order of rests -/
theorem place_shift {x k e m : Int} (he : 0 < e) : placeS (x + m * e) (k + m * e) e = placeS x k e := by
  unfold placeS
  rw [Int.add_mul_ediv_right _ _ (by omega), Int.add_mul_ediv_right _ _ (by omega), Int.add_mul_emod_self_right, Int.add_mul_emod_self_right]
  congr 1; omega
theorem sign_scale {a b t : Int} (ht : 0 < t) : signS (t * a) (t * b) = signS a b := by
  unfold signS
  by_cases h : a = b
  · rw [if_pos h, if_pos (by rw [h])]
  · rw [if_neg h, if_neg (fun z => h (Int.eq_of_mul_eq_mul_left (by omega) z))]
    by_cases h2 : a < b
    · rw [if_pos h2, if_pos (Int.mul_lt_mul_of_pos_left h2 ht)]
    · rw [if_neg h2, if_neg]
      intro z
      exact h2 (Int.lt_of_mul_lt_mul_left z (by omega))
theorem place_scale {x k e t : Int} (ht : 0 < t) : placeS (x * t) (k * t) (e * t) = placeS x k e := by
  unfold placeS
  rw [Int.mul_comm x t, Int.mul_comm k t, Int.mul_comm e t, Int.mul_ediv_mul_of_pos _ _ ht, Int.mul_ediv_mul_of_pos _ _ ht, Int.mul_emod_mul_of_pos _ _ ht, Int.mul_emod_mul_of_pos _ _ ht, sign_scale ht]
theorem div_wide {q r w : Int} (h0 : 0 ≤ r) (h1 : r < w) : (q * w + r) / w = q ∧ (q * w + r) % w = r := by
  have hw : w ≠ 0 := by omega
  constructor
  · rw [Int.add_comm, Int.add_mul_ediv_right _ _ hw, Int.ediv_eq_zero_of_lt h0 h1]; omega
  · rw [Int.add_comm, Int.add_mul_emod_self_right, Int.emod_eq_of_lt h0 h1]
theorem place_wide {x k e w : Int} (he : 0 < e) (hw : e ≤ w) : placeS (x / e * w + x % e) (k / e * w + k % e) w = placeS x k e := by
  have h1 := div_wide (q := x / e) (r := x % e) (w := w) (Int.emod_nonneg _ (by omega)) (by have := Int.emod_lt_of_pos x he; omega)
  have h2 := div_wide (q := k / e) (r := k % e) (w := w) (Int.emod_nonneg _ (by omega)) (by have := Int.emod_lt_of_pos k he; omega)
  unfold placeS
  rw [h1.1, h1.2, h2.1, h2.2]
theorem mul_bd {a b A B : Int} (ha : -A ≤ a) (ha2 : a ≤ A) (hb : 0 ≤ b) (hB : b ≤ B) (hA : 0 ≤ A) : -(A * B) ≤ a * b ∧ a * b ≤ A * B := by
  constructor
  · have h1 : -A * b ≤ a * b := Int.mul_le_mul_of_nonneg_right ha hb
    have h2 : A * b ≤ A * B := Int.mul_le_mul_of_nonneg_left hB hA
    rw [Int.neg_mul] at h1; omega
  · have h1 : a * b ≤ A * b := Int.mul_le_mul_of_nonneg_right ha2 hb
    have h2 : A * b ≤ A * B := Int.mul_le_mul_of_nonneg_left hB hA
    omega
/-! the eleven places in order, by ten bounds -/
def PL : List Str := ["below", "-<", "-=", "->", "<", "=", ">", "+<", "+=", "+>", "above"]
def endsL (k e : Int) : List Int := [k - k % e - e, k - e, k - e + 1, k - k % e, k, k + 1, k - k % e + e, k + e, k + e + 1, k - k % e + 2 * e]
def cnt (x k e : Int) : Nat := ((endsL k e).filter fun z => decide (z ≤ x)).length
theorem filt_cons (a : Int) (l : List Int) (x : Int) : ((a :: l).filter fun z => decide (z ≤ x)).length = (if a ≤ x then 1 else 0) + (l.filter fun z => decide (z ≤ x)).length := by
  by_cases h : a ≤ x
  · rw [List.filter_cons_of_pos (by simpa using h), if_pos h, List.length_cons]; omega
  · rw [List.filter_cons_of_neg (by simpa using h), if_neg h]; omega
theorem cnt_eq (x k e : Int) : cnt x k e = (if k - k % e - e ≤ x then 1 else 0) + ((if k - e ≤ x then 1 else 0) + ((if k - e + 1 ≤ x then 1 else 0) + ((if k - k % e ≤ x then 1 else 0) + ((if k ≤ x then 1 else 0) + ((if k + 1 ≤ x then 1 else 0) + ((if k - k % e + e ≤ x then 1 else 0) + ((if k + e ≤ x then 1 else 0) + ((if k + e + 1 ≤ x then 1 else 0) + ((if k - k % e + 2 * e ≤ x then 1 else 0) + 0))))))))) := by
  unfold cnt endsL
  simp only [filt_cons]; rfl
theorem filt_mono {x y : Int} (h : x ≤ y) : ∀ l : List Int, (l.filter fun z => decide (z ≤ x)).length ≤ (l.filter fun z => decide (z ≤ y)).length
  | [] => Nat.le_refl _
  | a :: l => by
    have ih := filt_mono h l
    rw [filt_cons, filt_cons]
    split <;> split <;> omega
theorem cnt_mono {x y k e : Int} (h : x ≤ y) : cnt x k e ≤ cnt y k e := filt_mono h _
theorem cnt_place {x k e : Int} (he : 0 < e) : PL[cnt x k e]? = some (placeS x k e) := by
  have hx := Int.emod_add_mul_ediv x e
  have hk := Int.emod_add_mul_ediv k e
  have x1 := Int.emod_nonneg x (show e ≠ 0 by omega)
  have x2 := Int.emod_lt_of_pos x he
  have k1 := Int.emod_nonneg k (show e ≠ 0 by omega)
  have k2 := Int.emod_lt_of_pos k he
  rw [cnt_eq]
  unfold placeS placeOfS signS
  generalize x / e = qx at *
  generalize k / e = qk at *
  generalize x % e = rx at *
  generalize k % e = rk at *
  by_cases d1 : qx - qk < -1
  · have m : e * qx ≤ e * (qk - 2) := Int.mul_le_mul_of_nonneg_left (by omega) (by omega)
    rw [Int.mul_sub] at m
    rw [if_pos d1]
    rw [if_neg (by omega), if_neg (by omega), if_neg (by omega), if_neg (by omega), if_neg (by omega), if_neg (by omega), if_neg (by omega), if_neg (by omega), if_neg (by omega), if_neg (by omega)]
    rfl
  rw [if_neg d1]
  by_cases d2 : 1 < qx - qk
  · have m : e * (qk + 2) ≤ e * qx := Int.mul_le_mul_of_nonneg_left (by omega) (by omega)
    rw [Int.mul_add] at m
    rw [if_pos d2]
    rw [if_pos (by omega), if_pos (by omega), if_pos (by omega), if_pos (by omega), if_pos (by omega), if_pos (by omega), if_pos (by omega), if_pos (by omega), if_pos (by omega), if_pos (by omega)]
    rfl
  rw [if_neg d2]
  rcases (show qx = qk - 1 ∨ qx = qk ∨ qx = qk + 1 by omega) with h | h | h
  · subst h
    rw [Int.mul_sub] at hx
    rw [if_pos (show qk - 1 - qk = -1 by omega), if_pos (show k - rk - e ≤ x by omega), if_neg (show ¬ k - rk ≤ x by omega), if_neg (show ¬ k ≤ x by omega), if_neg (show ¬ k + 1 ≤ x by omega), if_neg (show ¬ k - rk + e ≤ x by omega), if_neg (show ¬ k + e ≤ x by omega), if_neg (show ¬ k + e + 1 ≤ x by omega), if_neg (show ¬ k - rk + 2 * e ≤ x by omega)]
    by_cases c1 : rx = rk
    · rw [if_pos c1, if_pos (show k - e ≤ x by omega), if_neg (show ¬ k - e + 1 ≤ x by omega)]; rfl
    · rw [if_neg c1]
      by_cases c2 : rx < rk
      · rw [if_pos c2, if_neg (show ¬ k - e ≤ x by omega), if_neg (show ¬ k - e + 1 ≤ x by omega)]; rfl
      · rw [if_neg c2, if_pos (show k - e ≤ x by omega), if_pos (show k - e + 1 ≤ x by omega)]; rfl
  · subst h
    rw [if_neg (show ¬ qx - qx = -1 by omega), if_neg (show ¬ qx - qx = 1 by omega), if_pos (show k - rk - e ≤ x by omega), if_pos (show k - e ≤ x by omega), if_pos (show k - e + 1 ≤ x by omega), if_pos (show k - rk ≤ x by omega), if_neg (show ¬ k - rk + e ≤ x by omega), if_neg (show ¬ k + e ≤ x by omega), if_neg (show ¬ k + e + 1 ≤ x by omega), if_neg (show ¬ k - rk + 2 * e ≤ x by omega)]
    by_cases c1 : rx = rk
    · rw [if_pos c1, if_pos (show k ≤ x by omega), if_neg (show ¬ k + 1 ≤ x by omega)]; rfl
    · rw [if_neg c1]
      by_cases c2 : rx < rk
      · rw [if_pos c2, if_neg (show ¬ k ≤ x by omega), if_neg (show ¬ k + 1 ≤ x by omega)]; rfl
      · rw [if_neg c2, if_pos (show k ≤ x by omega), if_pos (show k + 1 ≤ x by omega)]; rfl
  · subst h
    rw [Int.mul_add] at hx
    rw [if_neg (show ¬ qk + 1 - qk = -1 by omega), if_pos (show qk + 1 - qk = 1 by omega), if_pos (show k - rk - e ≤ x by omega), if_pos (show k - e ≤ x by omega), if_pos (show k - e + 1 ≤ x by omega), if_pos (show k - rk ≤ x by omega), if_pos (show k ≤ x by omega), if_pos (show k + 1 ≤ x by omega), if_pos (show k - rk + e ≤ x by omega), if_neg (show ¬ k - rk + 2 * e ≤ x by omega)]
    by_cases c1 : rx = rk
    · rw [if_pos c1, if_pos (show k + e ≤ x by omega), if_neg (show ¬ k + e + 1 ≤ x by omega)]; rfl
    · rw [if_neg c1]
      by_cases c2 : rx < rk
      · rw [if_pos c2, if_neg (show ¬ k + e ≤ x by omega), if_neg (show ¬ k + e + 1 ≤ x by omega)]; rfl
      · rw [if_neg c2, if_pos (show k + e ≤ x by omega), if_pos (show k + e + 1 ≤ x by omega)]; rfl
theorem placeS_mem {x k e : Int} (he : 0 < e) : placeS x k e ∈ PL := List.mem_of_getElem? (cnt_place he)
theorem PL_nodup : PL.Nodup := by decide +kernel
theorem first_nd {l : List Str} (hl : l.Nodup) {z : Str} {j : Nat} (h : l[j]? = some z) : ∀ m, m < j → l[m]? ≠ some z := fun m hm e => by
  have := nd_ix hl e h
  omega
theorem PL_first {z : Str} {j : Nat} (h : PL[j]? = some z) : ∀ m, m < j → PL[m]? ≠ some z := first_nd PL_nodup h
theorem PL_ok : ∀ z ∈ PL, PyData.strOk z = true := by decide +kernel
/-! turned places -/
def turnS (z : Str) : Str := PL.reverse.getD (PL.findIdx fun y => decide (y = z)) ""
theorem turn_at {j : Nat} {z : Str} (h : PL[j]? = some z) : PL[10 - j]? = some (turnS z) := by
  have hj := (List.getElem?_eq_some_iff.mp h).1
  have hj : j < 11 := hj
  have e : PL.getD j "" = z := by rw [List.getD_eq_getElem?_getD, h]; rfl
  subst e
  revert j
  decide +kernel
theorem turn_place {x k e : Int} : turnS (placeS x k e) = placeS k x e := by
  unfold placeS
  generalize hd : x / e - k / e = d
  have hd2 : k / e - x / e = -d := by omega
  rw [hd2]
  unfold placeOfS signS
  generalize x % e = a
  generalize k % e = b
  by_cases d1 : d < -1
  · rw [if_pos d1, if_neg (show ¬ -d < -1 by omega), if_pos (show 1 < -d by omega)]; decide +kernel
  rw [if_neg d1]
  by_cases d2 : 1 < d
  · rw [if_pos d2, if_pos (show -d < -1 by omega)]; decide +kernel
  rw [if_neg d2, if_neg (show ¬ -d < -1 by omega), if_neg (show ¬ 1 < -d by omega)]
  by_cases c1 : a = b
  · rw [if_pos c1, if_pos c1.symm]
    rcases (show d = -1 ∨ d = 0 ∨ d = 1 by omega) with h | h | h <;> subst h <;> decide +kernel
  · rw [if_neg c1, if_neg (show ¬ b = a from fun z => c1 z.symm)]
    by_cases c2 : a < b
    · rw [if_pos c2, if_neg (show ¬ b < a by omega)]
      rcases (show d = -1 ∨ d = 0 ∨ d = 1 by omega) with h | h | h <;> subst h <;> decide +kernel
    · rw [if_neg c2, if_pos (show b < a by omega)]
      rcases (show d = -1 ∨ d = 0 ∨ d = 1 by omega) with h | h | h <;> subst h <;> decide +kernel
theorem turn_mem {z : Str} (h : z ∈ PL) : turnS z ∈ PL := by
  obtain ⟨j, hj⟩ := List.getElem?_of_mem h
  exact List.mem_of_getElem? (turn_at hj)
theorem turn_turn : ∀ {z : Str}, z ∈ PL → turnS (turnS z) = z := by decide +kernel
end NL
namespace NL
open PySem L2
/-! groups -/
def LG : List (Str × List Str) := [("any", ["below", "-<", "-=", "->", "<", "=", ">", "+<", "+=", "+>", "above"]), ("near", ["-=", "->", "<", "=", ">", "+<", "+="]), ("far", ["below", "-<", "+>", "above"]), ("less", ["below", "-<", "-=", "->", "<"]), ("more", [">", "+<", "+=", "+>", "above"]), ("under", ["below", "-<"]), ("over", ["+>", "above"]), ("cell", ["<", "=", ">"]), ("none", [])]
def GN : List Str := ["any", "near", "far", "less", "more", "under", "over", "cell", "none"]
def isGroupB (z : Str) : Bool := decide (z ∈ PL) || (LG.lookup z).isSome
def groupS (z : Str) : List Str := if z ∈ PL then [z] else (LG.lookup z).getD []
/-- two tables whose values correspond -/
theorem lookup_paired {K : PySem.W.Frag} {z : Str} : ∀ {tab : List (Str × V)} {lg : List (Str × List Str)}, Paired (fun (p : Str × V) (q : Str × List Str) => p.1 = q.1 ∧ ∃ a, p.2 = .ref a ∧ ∀ H, SqT K H a (q.2.map V.str)) tab lg →
    (tab.lookup z).isSome = (lg.lookup z).isSome ∧ ∀ ys, lg.lookup z = some ys → ∃ a, tab.lookup z = some (.ref a) ∧ ∀ H, SqT K H a (ys.map V.str)
  | _, _, .nil => ⟨rfl, fun _ h => nomatch h⟩
  | (x, v) :: r, (x', ys0) :: r', .cons ⟨e, a, ev, hs⟩ t => by
    have e : x = x' := e
    subst e
    have ev : v = .ref a := ev
    subst ev
    rw [List.lookup_cons, List.lookup_cons]
    by_cases hz : z = x
    · have e1 : (z == x) = true := by simpa using hz
      rw [e1]
      exact ⟨rfl, fun ys h => ⟨a, rfl, by cases h; exact hs⟩⟩
    · have e1 : (z == x) = false := by simpa using hz
      rw [e1]
      exact lookup_paired t
/-- what each place says of the numbers -/
theorem place_rel {x k e : Int} (he : 0 < e) :
    (placeS x k e = "below" ∧ x < k - e ∧ x / e < k / e) ∨ (placeS x k e = "-<" ∧ x < k - e ∧ x / e = k / e - 1) ∨ (placeS x k e = "-=" ∧ x = k - e ∧ x / e = k / e - 1) ∨ (placeS x k e = "->" ∧ k - e < x ∧ x < k ∧ x / e = k / e - 1) ∨
    (placeS x k e = "<" ∧ k - e < x ∧ x < k ∧ x / e = k / e) ∨ (placeS x k e = "=" ∧ x = k ∧ x / e = k / e) ∨ (placeS x k e = ">" ∧ k < x ∧ x < k + e ∧ x / e = k / e) ∨
    (placeS x k e = "+<" ∧ k < x ∧ x < k + e ∧ x / e = k / e + 1) ∨ (placeS x k e = "+=" ∧ x = k + e ∧ x / e = k / e + 1) ∨ (placeS x k e = "+>" ∧ k + e < x ∧ x / e = k / e + 1) ∨ (placeS x k e = "above" ∧ k + e < x ∧ k / e < x / e) := by
  have hx := Int.emod_add_mul_ediv x e
  have hk := Int.emod_add_mul_ediv k e
  have x1 := Int.emod_nonneg x (show e ≠ 0 by omega)
  have x2 := Int.emod_lt_of_pos x he
  have k1 := Int.emod_nonneg k (show e ≠ 0 by omega)
  have k2 := Int.emod_lt_of_pos k he
  unfold placeS placeOfS signS
  generalize x / e = qx at *
  generalize k / e = qk at *
  generalize x % e = rx at *
  generalize k % e = rk at *
  by_cases d1 : qx - qk < -1
  · have m : e * qx ≤ e * (qk - 2) := Int.mul_le_mul_of_nonneg_left (by omega) (by omega)
    rw [Int.mul_sub] at m
    exact .inl ⟨if_pos d1, by omega, by omega⟩
  by_cases d2 : 1 < qx - qk
  · have m : e * (qk + 2) ≤ e * qx := Int.mul_le_mul_of_nonneg_left (by omega) (by omega)
    rw [Int.mul_add] at m
    exact .inr (.inr (.inr (.inr (.inr (.inr (.inr (.inr (.inr (.inr ⟨by rw [if_neg d1, if_pos d2], by omega, by omega⟩)))))))))
  rw [if_neg d1, if_neg d2]
  rcases (show qx = qk - 1 ∨ qx = qk ∨ qx = qk + 1 by omega) with h | h | h
  · subst h
    rw [Int.mul_sub] at hx
    rw [if_pos (show qk - 1 - qk = -1 by omega)]
    by_cases c1 : rx = rk
    · rw [if_pos c1]; exact .inr (.inr (.inl ⟨rfl, by omega, rfl⟩))
    · rw [if_neg c1]
      by_cases c2 : rx < rk
      · rw [if_pos c2]; exact .inr (.inl ⟨rfl, by omega, rfl⟩)
      · rw [if_neg c2]; exact .inr (.inr (.inr (.inl ⟨rfl, by omega, by omega, rfl⟩)))
  · subst h
    rw [if_neg (show ¬ qx - qx = -1 by omega), if_neg (show ¬ qx - qx = 1 by omega)]
    by_cases c1 : rx = rk
    · rw [if_pos c1]; exact .inr (.inr (.inr (.inr (.inr (.inl ⟨rfl, by omega, rfl⟩)))))
    · rw [if_neg c1]
      by_cases c2 : rx < rk
      · rw [if_pos c2]; exact .inr (.inr (.inr (.inr (.inl ⟨rfl, by omega, by omega, rfl⟩))))
      · rw [if_neg c2]; exact .inr (.inr (.inr (.inr (.inr (.inr (.inl ⟨rfl, by omega, by omega, rfl⟩))))))
  · subst h
    rw [Int.mul_add] at hx
    rw [if_neg (show ¬ qk + 1 - qk = -1 by omega), if_pos (show qk + 1 - qk = 1 by omega)]
    by_cases c1 : rx = rk
    · rw [if_pos c1]; exact .inr (.inr (.inr (.inr (.inr (.inr (.inr (.inr (.inl ⟨rfl, by omega, rfl⟩))))))))
    · rw [if_neg c1]
      by_cases c2 : rx < rk
      · rw [if_pos c2]; exact .inr (.inr (.inr (.inr (.inr (.inr (.inr (.inl ⟨rfl, by omega, by omega, rfl⟩)))))))
      · rw [if_neg c2]; exact .inr (.inr (.inr (.inr (.inr (.inr (.inr (.inr (.inr (.inl ⟨rfl, by omega, rfl⟩)))))))))
/-- membership in each group by comparing numbers -/
theorem group_due {x k e : Int} (he : 0 < e) : (placeS x k e ∈ groupS "any") ∧ (placeS x k e ∈ groupS "near" ↔ (-e ≤ x - k ∧ x - k ≤ e)) ∧ (placeS x k e ∈ groupS "far" ↔ ¬ (-e ≤ x - k ∧ x - k ≤ e)) ∧ (placeS x k e ∈ groupS "less" ↔ x < k) ∧ (placeS x k e ∈ groupS "more" ↔ k < x) ∧
    (placeS x k e ∈ groupS "under" ↔ x < k - e) ∧ (placeS x k e ∈ groupS "over" ↔ k + e < x) ∧ (placeS x k e ∈ groupS "cell" ↔ x / e = k / e) ∧ ¬ (placeS x k e ∈ groupS "none") ∧ (placeS x k e = "=" ↔ x = k) := by
  rcases place_rel (x := x) (k := k) he with ⟨p, h⟩ | ⟨p, h⟩ | ⟨p, h⟩ | ⟨p, h⟩ | ⟨p, h⟩ | ⟨p, h⟩ | ⟨p, h⟩ | ⟨p, h⟩ | ⟨p, h⟩ | ⟨p, h⟩ | ⟨p, h⟩ <;> rw [p] <;>
    refine ⟨by decide +kernel, ?_, ?_, ?_, ?_, ?_, ?_, ?_, by decide +kernel, ?_⟩ <;>
    first
      | exact iff_of_true (by decide +kernel) (by omega)
      | exact iff_of_false (by decide +kernel) (by omega)
theorem GN_group : ∀ {n : Str}, n ∈ GN → isGroupB n = true := by decide +kernel
end NL
namespace NL
open PySem L2
/-! ### loops as plain data -/
def ALPHA : List Nat := ("abcdefghijklmnopqrstuvwxyz" : Str).cps.toList
def isNameB (z : Str) : Bool := decide (1 ≤ z.length) && decide (z.length ≤ 8) && z.cps.toList.all fun c => decide (c ∈ ALPHA)
structure Rule where
  st : Str
  gs : List Str
  wd : Str
  kp : Bool
  nx : Str
def wfRule (r : Rule) : Bool := isNameB r.st && isNameB r.wd && isNameB r.nx && decide (0 < r.gs.length) && r.gs.all isGroupB
def addS (acc : List Str) (z : Str) : List Str := if z ∈ acc then acc else acc ++ [z]
def statesF (acc : List Str) (rs : List Rule) : List Str := rs.foldl (fun acc r => addS (addS acc r.st) r.nx) acc
def statesR (rs : List Rule) : List Str := statesF [] rs
theorem addS_len (acc : List Str) (z : Str) : acc.length ≤ (addS acc z).length ∧ (addS acc z).length ≤ acc.length + 1 := by
  unfold addS; split
  · omega
  · rw [List.length_append]; simp
theorem addS_nodup {acc : List Str} {z : Str} (h : acc.Nodup) : (addS acc z).Nodup := by
  unfold addS; split
  · exact h
  · rename_i hz; exact nd_snoc h hz
theorem addS_mem {acc : List Str} {z y : Str} : y ∈ addS acc z ↔ y ∈ acc ∨ y = z := by
  unfold addS; split
  · rename_i hz
    constructor
    · exact .inl
    · rintro (h | h)
      · exact h
      · rw [h]; exact hz
  · rw [List.mem_append, List.mem_singleton]
theorem statesF_snoc (acc : List Str) (rs : List Rule) (r : Rule) : statesF acc (rs ++ [r]) = addS (addS (statesF acc rs) r.st) r.nx := by
  unfold statesF; rw [List.foldl_append]; rfl
theorem statesF_nodup {acc : List Str} (h : acc.Nodup) : ∀ rs : List Rule, (statesF acc rs).Nodup := fun rs => by
  unfold statesF
  induction rs generalizing acc with
  | nil => exact h
  | cons r rs ih => exact ih (addS_nodup (addS_nodup h))
theorem statesR_nodup (rs : List Rule) : (statesR rs).Nodup := statesF_nodup List.nodup_nil rs
theorem statesF_le (acc : List Str) : ∀ rs : List Rule, acc.length ≤ (statesF acc rs).length := fun rs => by
  unfold statesF
  induction rs generalizing acc with
  | nil => exact Nat.le_refl _
  | cons r rs ih =>
    refine Nat.le_trans ?_ (ih _)
    exact Nat.le_trans (addS_len acc r.st).1 (addS_len _ r.nx).1
theorem statesR_take (rs : List Rule) (n : Nat) : (statesR (rs.take n)).length ≤ (statesR rs).length := by
  conv => rhs; rw [← List.take_append_drop n rs]
  unfold statesR statesF
  rw [List.foldl_append]
  exact statesF_le _ _
theorem statesF_bound (acc : List Str) : ∀ rs : List Rule, (statesF acc rs).length ≤ acc.length + 2 * rs.length := fun rs => by
  unfold statesF
  induction rs generalizing acc with
  | nil => simp
  | cons r rs ih =>
    have h1 := (addS_len acc r.st).2
    have h2 := (addS_len (addS acc r.st) r.nx).2
    have := ih (addS (addS acc r.st) r.nx)
    simp only [List.foldl_cons, List.length_cons] at *
    omega
theorem statesF_mem {z : Str} : ∀ {rs : List Rule} {acc : List Str}, z ∈ statesF acc rs ↔ z ∈ acc ∨ ∃ r ∈ rs, z = r.st ∨ z = r.nx := by
  intro rs
  induction rs with
  | nil => intro acc; simp [statesF]
  | cons r rs ih =>
    intro acc
    show z ∈ statesF (addS (addS acc r.st) r.nx) rs ↔ _
    rw [ih, addS_mem, addS_mem]
    constructor
    · rintro (((h | h) | h) | ⟨r', h1, h2⟩)
      · exact .inl h
      · exact .inr ⟨r, List.mem_cons_self, .inl h⟩
      · exact .inr ⟨r, List.mem_cons_self, .inr h⟩
      · exact .inr ⟨r', List.mem_cons_of_mem _ h1, h2⟩
    · rintro (h | ⟨r', h1, h2⟩)
      · exact .inl (.inl (.inl h))
      · rcases List.mem_cons.mp h1 with rfl | h1
        · rcases h2 with h2 | h2
          · exact .inl (.inl (.inr h2))
          · exact .inl (.inr h2)
        · exact .inr ⟨r', h1, h2⟩
/-- the loop's rules are right: there are some, at most 40, at most 6 states -/
def wfRules (rs : List Rule) : Prop := 0 < rs.length ∧ rs.length ≤ 40 ∧ (∀ r ∈ rs, wfRule r = true) ∧ (statesR rs).length ≤ 6
/-! ### which rule is used -/
def fitsG (p g : Str) : Bool := if g = "none" then decide (p = "none") else decide (p ∈ groupS g)
def Rule.fits (r : Rule) (p : Str) : Bool := r.gs.any (fitsG p)
def hitR (s p : Str) (r : Rule) : Bool := decide (r.st = s) && r.fits p
def fitIdx (rs : List Rule) (s p : Str) : Option Nat := rs.findIdx? (hitR s p)
def usedR (rs : List Rule) (s p : Str) : Str × Bool × Str := match rs.find? (hitR s p) with
  | none => (("pass" : Str), false, s)
  | some r => (r.wd, r.kp, r.nx)
theorem fitIdx_snoc (rs : List Rule) (r : Rule) (s p : Str) : fitIdx (rs ++ [r]) s p = match fitIdx rs s p with | some i => some i | none => if hitR s p r = true then some rs.length else none := by
  unfold fitIdx
  rw [List.findIdx?_append]
  cases rs.findIdx? (hitR s p) with
  | some i => rfl
  | none =>
    show Option.map _ (List.findIdx? (hitR s p) [r]) = _
    rw [List.findIdx?_cons]
    split <;> simp
theorem fit_some {rs : List Rule} {s p : Str} {i : Nat} (h : fitIdx rs s p = some i) : ∃ r, rs[i]? = some r ∧ usedR rs s p = (r.wd, r.kp, r.nx) := by
  unfold fitIdx at h
  obtain ⟨hi, h1, h2⟩ := List.findIdx?_eq_some_iff_getElem.mp h
  refine ⟨rs[i], List.getElem?_eq_getElem hi, ?_⟩
  have : rs.find? (hitR s p) = some rs[i] := by
    rw [List.find?_eq_some_iff_getElem]
    exact ⟨h1, i, hi, rfl, fun j hj => by simpa using h2 j hj⟩
  unfold usedR; rw [this]
theorem fit_none {rs : List Rule} {s p : Str} (h : fitIdx rs s p = none) : usedR rs s p = (("pass" : Str), false, s) := by
  unfold fitIdx at h
  have : rs.find? (hitR s p) = none := by
    rw [List.find?_eq_none]
    intro x hx
    have := List.findIdx?_eq_none_iff.mp h x hx
    simpa using this
  unfold usedR; rw [this]
theorem used_state {rs : List Rule} {s p : Str} (hs : s ∈ statesR rs) : (usedR rs s p).2.2 ∈ statesR rs := by
  unfold usedR
  cases h : rs.find? (hitR s p) with
  | none => exact hs
  | some r => exact statesF_mem.mpr (.inr ⟨r, List.mem_of_find?_eq_some h, .inr rfl⟩)
/-! ### runs -/
structure RS where
  st : Str
  words : List Str
  keeps : List Bool
  kept : List Int
def whereS (kept : List Int) (x e : Int) : Str := match kept.getLast? with
  | none => "none"
  | some k => placeS x k e
def runStep (rs : List Rule) (e : Int) (s : RS) (x : Int) : RS :=
  let u := usedR rs s.st (whereS s.kept x e)
  ⟨u.2.2, s.words ++ [u.1], s.keeps ++ [u.2.1], if u.2.1 = true then s.kept ++ [x] else s.kept⟩
def startR (rs : List Rule) : Str := match rs with
  | [] => ""
  | r :: _ => r.st
def runR (rs : List Rule) (e : Int) (row : List Int) : RS := row.foldl (runStep rs e) ⟨startR rs, [], [], []⟩
theorem runR_snoc (rs : List Rule) (e : Int) (row : List Int) (x : Int) : runR rs e (row ++ [x]) = runStep rs e (runR rs e row) x := by
  unfold runR; rw [List.foldl_append]; rfl
theorem run_len (rs : List Rule) (e : Int) : ∀ row : List Int, (runR rs e row).words.length = row.length ∧ (runR rs e row).keeps.length = row.length ∧ (runR rs e row).kept.length ≤ row.length := by
  intro row
  suffices h : ∀ (s : RS), (row.foldl (runStep rs e) s).words.length = s.words.length + row.length ∧ (row.foldl (runStep rs e) s).keeps.length = s.keeps.length + row.length ∧ (row.foldl (runStep rs e) s).kept.length ≤ s.kept.length + row.length by
    have := h ⟨startR rs, [], [], []⟩
    simpa [runR] using this
  induction row with
  | nil => intro s; simp
  | cons x row ih =>
    intro s
    have := ih (runStep rs e s x)
    simp only [List.foldl_cons, List.length_cons]
    obtain ⟨h1, h2, h3⟩ := this
    have k1 : (runStep rs e s x).words.length = s.words.length + 1 := by simp [runStep]
    have k2 : (runStep rs e s x).keeps.length = s.keeps.length + 1 := by simp [runStep]
    have k3 : (runStep rs e s x).kept.length ≤ s.kept.length + 1 := by
      simp only [runStep]; split
      · simp
      · omega
    omega
theorem run_kept (rs : List Rule) (e : Int) (row : List Int) : ∀ x ∈ (runR rs e row).kept, x ∈ row := by
  suffices h : ∀ (s : RS), ∀ x ∈ (row.foldl (runStep rs e) s).kept, x ∈ s.kept ∨ x ∈ row by
    intro x hx
    rcases h _ x hx with h | h
    · exact nomatch h
    · exact h
  induction row with
  | nil => intro s x hx; exact .inl hx
  | cons y row ih =>
    intro s x hx
    rcases ih _ x hx with h | h
    · simp only [runStep] at h
      split at h
      · rcases List.mem_append.mp h with h | h
        · exact .inl h
        · exact .inr (by rw [List.mem_singleton.mp h]; exact List.mem_cons_self)
      · exact .inl h
    · exact .inr (List.mem_cons_of_mem _ h)
theorem run_state (rs : List Rule) (e : Int) (hr : 0 < rs.length) (row : List Int) : (runR rs e row).st ∈ statesR rs := by
  have h0 : startR rs ∈ statesR rs := by
    cases rs with
    | nil => simp at hr
    | cons r rs => exact statesF_mem.mpr (.inr ⟨r, List.mem_cons_self, .inl rfl⟩)
  suffices h : ∀ (s : RS), s.st ∈ statesR rs → (row.foldl (runStep rs e) s).st ∈ statesR rs by exact h _ h0
  induction row with
  | nil => intro s hs; exact hs
  | cons y row ih => intro s hs; exact ih _ (used_state hs)
/-! ### the law's own look at rules -/
def fitsL (p g : Str) : Bool := decide (g = p) || decide (p ∈ groupS g)
def PN : List Str := "none" :: PL
theorem groupS_PL : ∀ {p : Str}, p ∈ PL → groupS p = [p] := fun {p} h => by unfold groupS; rw [if_pos h]
theorem fits_eq {p g : Str} (hp : p ∈ PN) : fitsL p g = fitsG p g := by
  unfold fitsL fitsG
  by_cases hg : g = "none"
  · subst hg
    rw [if_pos rfl]
    have : groupS "none" = [] := by decide +kernel
    rw [this]
    simp only [List.not_mem_nil, decide_false, Bool.or_false]
    exact decide_eq_decide.mpr ⟨fun h => h.symm, fun h => h.symm⟩
  · rw [if_neg hg]
    by_cases h : g = p
    · subst h
      rcases List.mem_cons.mp hp with h | h
      · exact absurd h hg
      · rw [groupS_PL h]; simp
    · rw [decide_eq_false h, Bool.false_or]
theorem used_law {rs : List Rule} {s p : Str} (hp : p ∈ PN) : rs.find? (fun r => decide (r.st = s) && r.gs.any (fitsL p)) = rs.find? (hitR s p) := by
  congr 1
  funext r
  unfold hitR Rule.fits
  have : (fitsL p) = fitsG p := funext fun g => fits_eq hp
  rw [this]
theorem where_PN (kept : List Int) (x e : Int) (he : 0 < e) : whereS kept x e ∈ PN := by
  unfold whereS
  cases kept.getLast? with
  | none => exact List.mem_cons_self
  | some k => exact List.mem_cons_of_mem _ (placeS_mem he)
end NL
namespace NL
open PySem L2
/-! ### slices of a list or a tuple -/
def rSlSeq (K : PySem.W.Frag) : V → Option Int → Option Int → Hp → VK → Prop := fun x lo hi H Q => ∃ a xs, x = .ref a ∧ Sq K H a xs ∧ ∀ p H', Same H H' → Sq K H' p (cutV xs lo hi) → Q (.ref p) H'
theorem sl_seq {X : Cx} : SlR X (rSlSeq X.K) := by
  intro pins s σ H x v vl vu lo hi sl Q I rx hs pl pu h
  obtain ⟨a, xs, rfl, hq, q⟩ := h
  rcases hq with hq | hq
  · exact sl_list pins s σ H _ v vl vu lo hi sl Q I rx hs pl pu ⟨a, xs, rfl, hq, fun p hp => q p _ (same_new hp) (Sq.lst upd_same)⟩
  · refine sl_tupA pins s σ H _ v vl vu lo hi sl Q I rx hs pl pu ⟨a, xs, rfl, hq, fun hw => q a H (Same.refl _) ?_, fun _ p hp => q p _ (same_new hp) (Sq.tup upd_same)⟩
    have e : cutV xs lo hi = xs := by unfold cutV; rw [hw.1, hw.2]; simp
    rw [e]; exact .inr hq
def rSlTup (K : PySem.W.Frag) : V → Option Int → Option Int → Hp → VK → Prop := fun x lo hi H Q => ∃ a xs, x = .ref a ∧ SqT K H a xs ∧ ∀ p H', Same H H' → SqT K H' p (cutV xs lo hi) → Q (.ref p) H'
theorem sl_tupS {X : Cx} : SlR X (rSlTup X.K) := by
  intro pins s σ H x v vl vu lo hi sl Q I rx hs pl pu h
  obtain ⟨a, xs, rfl, hq, q⟩ := h
  refine sl_tupA pins s σ H _ v vl vu lo hi sl Q I rx hs pl pu ⟨a, xs, rfl, hq, fun hw => q a H (Same.refl _) ?_, fun _ p hp => q p _ (same_new hp) (SqT.of upd_same)⟩
  have e : cutV xs lo hi = xs := by unfold cutV; rw [hw.1, hw.2]; simp
  rw [e]; exact hq
theorem cut_to (xs : List V) (n : Nat) : cutV xs none (some (n : Int)) = xs.take n := by
  unfold cutV
  rw [HT.sIx_none, HT.sIx_nat]
  simp [List.take_eq_take_iff]
theorem cut_from (xs : List V) (n : Nat) : cutV xs (some (n : Int)) none = xs.drop n := by
  unfold cutV
  rw [HT.sIx_none, HT.sIx_nat]
  apply List.ext_getElem?
  intro i
  rw [List.getElem?_take]
  simp only [List.getElem?_drop]
  split
  · by_cases h : n ≤ xs.length
    · rw [Nat.min_eq_left h]
    · rw [List.getElem?_eq_none (by omega), List.getElem?_eq_none (by omega)]
  · rw [List.getElem?_eq_none (by omega)]
/-! ### rules, in the heap -/
def RuleAt (K : PySem.W.Frag) (H : Hp) (v : V) (r : Rule) : Prop := ∃ t g, v = .ref t ∧ Sq K H t [.str r.st, .ref g, .str r.wd, .bl r.kp, .str r.nx] ∧ Sq K H g (r.gs.map V.str)
def RuleT (K : PySem.W.Frag) (H : Hp) (v : V) (r : Rule) : Prop := ∃ t g, v = .ref t ∧ SqT K H t [.str r.st, .ref g, .str r.wd, .bl r.kp, .str r.nx] ∧ SqT K H g (r.gs.map V.str)
def RulesAt (K : PySem.W.Frag) (H : Hp) (a : Addr) (rs : List Rule) : Prop := ∃ vs, Sq K H a vs ∧ Paired (RuleAt K H) vs rs
def RulesT (K : PySem.W.Frag) (H : Hp) (a : Addr) (rs : List Rule) : Prop := ∃ vs, SqT K H a vs ∧ Paired (RuleT K H) vs rs
section
variable {K : PySem.W.Frag} {H H' : Hp}
theorem RuleAt.same {v : V} {r : Rule} (s : Same H H') (h : RuleAt K H v r) : RuleAt K H' v r := by
  obtain ⟨t, g, e, h1, h2⟩ := h; exact ⟨t, g, e, h1.same s, h2.same s⟩
theorem RuleT.same {v : V} {r : Rule} (s : Same H H') (h : RuleT K H v r) : RuleT K H' v r := by
  obtain ⟨t, g, e, h1, h2⟩ := h; exact ⟨t, g, e, SqT_same s h1, SqT_same s h2⟩
theorem RuleT.at {v : V} {r : Rule} (h : RuleT K H v r) : RuleAt K H v r := by
  obtain ⟨t, g, e, h1, h2⟩ := h; exact ⟨t, g, e, .inr h1, .inr h2⟩
theorem RulesAt.same {a : Addr} {rs : List Rule} (s : Same H H') (h : RulesAt K H a rs) : RulesAt K H' a rs := by
  obtain ⟨vs, h1, h2⟩ := h; exact ⟨vs, h1.same s, Paired.mapP h2 fun _ _ => RuleAt.same s⟩
theorem RulesT.same {a : Addr} {rs : List Rule} (s : Same H H') (h : RulesT K H a rs) : RulesT K H' a rs := by
  obtain ⟨vs, h1, h2⟩ := h; exact ⟨vs, SqT_same s h1, Paired.mapP h2 fun _ _ => RuleT.same s⟩
theorem RulesT.at {a : Addr} {rs : List Rule} (h : RulesT K H a rs) : RulesAt K H a rs := by
  obtain ⟨vs, h1, h2⟩ := h; exact ⟨vs, .inr h1, Paired.mapP h2 fun _ _ => RuleT.at⟩
end
theorem paired_gety {α β : Type} {R : α → β → Prop} : ∀ {xs : List α} {ys : List β} {i : Nat} {y : β}, Paired R xs ys → ys[i]? = some y → ∃ x, xs[i]? = some x ∧ R x y
  | _, _, _, _, .nil, e => by simp at e
  | _, _, 0, _, .cons r _, e => by simp at e; subst e; exact ⟨_, rfl, r⟩
  | _, _, i + 1, x, .cons _ t, e => by
    obtain ⟨u, h1, h2⟩ := paired_gety (i := i) (y := x) t (by simpa using e)
    exact ⟨u, by simpa using h1, h2⟩
theorem paired_take {α β : Type} {R : α → β → Prop} : ∀ {xs : List α} {ys : List β} (n : Nat), Paired R xs ys → Paired R (xs.take n) (ys.take n)
  | _, _, 0, _ => .nil
  | _, _, _ + 1, .nil => .nil
  | _, _, n + 1, .cons r t => .cons r (paired_take n t)
theorem paired_snoc {α β : Type} {R : α → β → Prop} : ∀ {xs : List α} {ys : List β} {x : α} {y : β}, Paired R xs ys → R x y → Paired R (xs ++ [x]) (ys ++ [y])
  | _, _, _, _, .nil, h => .cons h .nil
  | _, _, _, _, .cons r t, h => .cons r (paired_snoc t h)
theorem paired_append {α β : Type} {R : α → β → Prop} : ∀ {xs xs' : List α} {ys ys' : List β}, Paired R xs ys → Paired R xs' ys' → Paired R (xs ++ xs') (ys ++ ys')
  | _, _, _, _, .nil, h => h
  | _, _, _, _, .cons r t, h => .cons r (paired_append t h)
theorem lock_same {H H' : Hp} {d : Addr} {u o : HO} (h : H d = some u) (s : Same (upd H d o) H') : Same H (upd H' d u) := fun c x hc => by
  by_cases e : c = d
  · subst e; rw [h] at hc; rw [upd_same]; exact hc
  · rw [upd_ne e]; exact s c x (by rw [upd_ne e]; exact hc)
theorem nd_take {zs : List Str} {i : Nat} {z : Str} (h : zs.Nodup) (hz : zs[i]? = some z) : z ∉ zs.take i := by
  have e := take_snoc hz
  have h2 : (zs.take i ++ [z]).Nodup := by rw [← e]; exact h.sublist (List.take_sublist _ _)
  intro hm
  rw [List.nodup_append] at h2
  exact h2.2.2 z hm z (List.mem_singleton_self _) rfl
/-! ### the dict of states -/
def stD (zs : List Str) : List (Key × V) := zs.map fun z => (Sum.inr z, V.bl true)
theorem stD_val (zs : List Str) (z : Str) : valV (stD zs) (Sum.inr z) = if z ∈ zs then some (.bl true) else none := by
  induction zs with
  | nil => rfl
  | cons y zs ih =>
    show valV ((Sum.inr y, V.bl true) :: stD zs) _ = _
    by_cases h : y = z
    · subst h; rw [valV_pos rfl, if_pos List.mem_cons_self]
    · rw [valV_neg (fun e => h (Sum.inr.inj e)), ih]
      by_cases h2 : z ∈ zs
      · rw [if_pos h2, if_pos (List.mem_cons_of_mem _ h2)]
      · rw [if_neg h2, if_neg]
        intro hm
        rcases List.mem_cons.mp hm with e | e
        · exact h e.symm
        · exact h2 e
theorem stD_put (zs : List Str) (z : Str) : putK (stD zs) (Sum.inr z) (.bl true) = stD (addS zs z) := by
  unfold addS
  by_cases h : z ∈ zs
  · rw [if_pos h]
    unfold putK
    have e : ((stD zs).any fun kv => decide (kv.1 = Sum.inr z)) = true := by rw [valV_any, stD_val, if_pos h]; rfl
    rw [if_pos e]
    unfold stD
    rw [List.map_map]
    apply List.map_congr_left
    intro y _
    show (if Sum.inr y = (Sum.inr z : Key) then _ else _) = _
    split <;> rfl
  · rw [if_neg h, putK_new _ (by rw [stD_val, if_neg h])]
    unfold stD; rw [List.map_append]; rfl
/-! ### tuple(x), x a list or a tuple -/
def rTupSeq (K : PySem.W.Frag) : List V → Hp → VK → Prop := fun xs H Q => ∃ p ys, xs = [.ref p] ∧ Sq K H p ys ∧ ∀ l H', Same H H' → SqT K H' l ys → Q (.ref l) H'
def rTupOf (K : PySem.W.Frag) : List V → Hp → VK → Prop := fun xs H Q => ∃ p ys, xs = [.ref p] ∧ ((SqL K H p ys ∧ ∀ l, H l = none → Q (.ref l) (upd H l (.tup ys))) ∨ (SqT K H p ys ∧ Q (.ref p) H))
def rLenSeq (K : PySem.W.Frag) : List V → Hp → VK → Prop := fun xs H Q => ∃ p ys, xs = [.ref p] ∧ (SqL K H p ys ∨ SqT K H p ys) ∧ Q (.int ys.length) H
def rLenV (K : PySem.W.Frag) : List V → Hp → VK → Prop := fun xs H Q => ∃ x n, xs = [x] ∧ LenV K x H n ∧ Q (.int n) H
def rListOf (K : PySem.W.Frag) : List V → Hp → VK → Prop := fun xs H Q => ∃ p ys, xs = [.ref p] ∧ (SqL K H p ys ∨ SqT K H p ys) ∧ ∀ l, H l = none → Q (.ref l) (upd H l (.lst ys))
theorem call_tuple_seq {X : Cx} : CallR X (.type "tuple") (rTupSeq X.K) := by
  intro pins s σ H xs us Q I r h
  obtain ⟨p, ys, rfl, hq, q⟩ := h
  refine call_tuple_of pins s σ H _ us Q I r ⟨p, ys, rfl, ?_⟩
  rcases hq with hq | hq
  · exact .inl ⟨hq, fun l hl => q l _ (same_new hl) (SqT.of upd_same)⟩
  · exact .inr ⟨hq, q p H (Same.refl _) hq⟩
/-- no tuple, locked or not -/
def noTup (u : HO) : Prop := (∀ xs, u ≠ .tup xs) ∧ ∀ o xs, u ≠ .frz o (.tup xs)
theorem noTup_lst {xs : List V} : noTup (.lst xs) := ⟨fun _ z => (nomatch z), fun _ _ z => (nomatch z)⟩
theorem noTup_dK {xs : List (Key × V)} : noTup (.dK xs) := ⟨fun _ z => (nomatch z), fun _ _ z => (nomatch z)⟩
theorem noTup_dT {xs : List (List Key × V)} : noTup (.dT xs) := ⟨fun _ z => (nomatch z), fun _ _ z => (nomatch z)⟩
theorem noTup_ins {C dx : Addr} {fs : List (Str × V)} : noTup (.ins C dx fs) := ⟨fun _ z => (nomatch z), fun _ _ z => (nomatch z)⟩
section
variable {K : PySem.W.Frag} {H : Hp} {D : Addr} {u o : HO}
theorem SqT_skip {a : Addr} {xs : List V} (hD : H D = some u) (hu : noTup u) (h : SqT K H a xs) : SqT K (upd H D o) a xs := by
  rcases h with (h | ⟨ob, h⟩) | h
  · refine .inl (.inl (upd_skip (fun e => ?_) h))
    subst e; rw [hD] at h; exact hu.1 _ (Option.some.inj h)
  · refine .inl (.inr ⟨ob, upd_skip (fun e => ?_) h⟩)
    subst e; rw [hD] at h; exact hu.2 _ _ (Option.some.inj h)
  · exact .inr h
theorem RuleT.skip {v : V} {r : Rule} (hD : H D = some u) (hu : noTup u) (h : RuleT K H v r) : RuleT K (upd H D o) v r := by
  obtain ⟨t, g, e, h1, h2⟩ := h; exact ⟨t, g, e, SqT_skip hD hu h1, SqT_skip hD hu h2⟩
theorem RulesT.skip {a : Addr} {rs : List Rule} (hD : H D = some u) (hu : noTup u) (h : RulesT K H a rs) : RulesT K (upd H D o) a rs := by
  obtain ⟨vs, h1, h2⟩ := h; exact ⟨vs, SqT_skip hD hu h1, Paired.mapP h2 fun _ _ => RuleT.skip hD hu⟩
theorem But.skip {H' : Hp} {p q : Addr} (b : But p H H') (n : H q = none) : But p H (L2.upd H' q o) := fun c x hc h => upd_skip (ne_of_none h n) (b c x hc h)
end
/-! ### answers -/
def ansD (ans : List (Str × Str)) : List (Key × V) := ans.map fun p => (Sum.inr p.1, V.str p.2)
def ansOf (ans : List (Str × Str)) (s : Str) : Str := (ans.lookup s).getD ""
def ansV (rs : List Rule) (ans : List (Str × Str)) : List (Key × V) := (statesR rs).map fun s => (Sum.inr s, V.str (ansOf ans s))
theorem ansD_val (ans : List (Str × Str)) (z : Str) : valV (ansD ans) (Sum.inr z) = (ans.lookup z).map V.str := by
  induction ans with
  | nil => rfl
  | cons p ans ih =>
    obtain ⟨x, y⟩ := p
    show valV ((Sum.inr x, V.str y) :: ansD ans) _ = _
    rw [List.lookup_cons]
    by_cases h : z = x
    · subst h; rw [valV_pos rfl]; simp
    · rw [valV_neg (fun e => h (Sum.inr.inj e).symm), ih]
      have : (z == x) = false := by simpa using h
      rw [this]
theorem ansD_get (ans : List (Str × Str)) (z : Str) : ((ans.lookup z).map V.str).getD (.str "") = .str (ansOf ans z) := by
  unfold ansOf; cases ans.lookup z <;> rfl
theorem mapD_val (f : Str → Str) (zs : List Str) (z : Str) : valV (zs.map fun s => ((Sum.inr s : Key), V.str (f s))) (Sum.inr z) = if z ∈ zs then some (.str (f z)) else none := by
  induction zs with
  | nil => rfl
  | cons y zs ih =>
    rw [List.map_cons]
    by_cases h : y = z
    · subst h; rw [valV_pos rfl, if_pos List.mem_cons_self]
    · rw [valV_neg (fun e => h (Sum.inr.inj e)), ih]
      by_cases h2 : z ∈ zs
      · rw [if_pos h2, if_pos (List.mem_cons_of_mem _ h2)]
      · rw [if_neg h2, if_neg]
        intro hm
        rcases List.mem_cons.mp hm with e | e
        · exact h e.symm
        · exact h2 e
/-- the answers are right: for states alone, names or the empty text -/
def ansOk (rs : List Rule) (ans : List (Str × Str)) : Prop := (∀ p ∈ ans, p.1 ∈ statesR rs ∧ (p.2 = "" ∨ isNameB p.2 = true)) ∧ ans.length ≤ 50
theorem ansOk_of {rs : List Rule} {ans : List (Str × Str)} (h : ansOk rs ans) (z : Str) : ansOf ans z = "" ∨ isNameB (ansOf ans z) = true := by
  unfold ansOf
  cases e : ans.lookup z with
  | none => exact .inl rfl
  | some y =>
    have hm : (z, y) ∈ ans := by
      clear h
      induction ans with
      | nil => simp at e
      | cons p ans ih =>
        obtain ⟨a, b⟩ := p
        rw [List.lookup_cons] at e
        by_cases hz : (z == a) = true
        · rw [hz] at e
          have : b = y := Option.some.inj e
          rw [← this, eq_of_beq hz]; exact List.mem_cons_self
        · have hz : (z == a) = false := by simpa using hz
          rw [hz] at e
          exact List.mem_cons_of_mem _ (ih e)
    exact (h.1 _ hm).2
/-! ### the table of a loop -/
def placesG (g : Str) : List Str := if g = "none" then ["none"] else groupS g
theorem fitsG_places (p g : Str) : fitsG p g = decide (p ∈ placesG g) := by
  unfold fitsG placesG
  split
  · simp
  · rfl
def tabF (rs : List Rule) (i : Nat) (st : Str) (acc : List Str) (s p : Str) : Option Nat := match fitIdx (rs.take i) s p with
  | some k => some k
  | none => if s = st ∧ p ∈ acc then some i else none
def TabIs (tab : List (List Key × V)) (f : Str → Str → Option Nat) : Prop := ∀ s p : Str, valV tab [Sum.inr s, Sum.inr p] = (f s p).map fun (k : Nat) => V.int (k : Int)
theorem tabF_nil (rs : List Rule) (i : Nat) (st : Str) : tabF rs i st [] = fitIdx (rs.take i) := by
  funext s p; unfold tabF; cases fitIdx (rs.take i) s p <;> simp
theorem tab_end {rs : List Rule} {i : Nat} {r : Rule} (h : rs[i]? = some r) : tabF rs i r.st (r.gs.flatMap placesG) = fitIdx (rs.take (i + 1)) := by
  funext s p
  rw [take_snoc h, fitIdx_snoc]
  unfold tabF
  cases fitIdx (rs.take i) s p with
  | some k => rfl
  | none =>
    have hl : (rs.take i).length = i := by
      rw [List.length_take]
      have := (List.getElem?_eq_some_iff.mp h).1
      omega
    rw [hl]
    show (if _ then _ else _) = if _ then _ else _
    congr 1
    apply propext
    unfold hitR Rule.fits
    simp only [Bool.and_eq_true, decide_eq_true_eq, List.any_eq_true, List.mem_flatMap, fitsG_places]
    exact ⟨fun ⟨h1, h2⟩ => ⟨h1.symm, h2⟩, fun ⟨h1, h2⟩ => ⟨h1.symm, h2⟩⟩
theorem tab_some {tab : List (List Key × V)} {rs : List Rule} {i : Nat} {st : Str} {acc : List Str} {p : Str} {v : V} (h : TabIs tab (tabF rs i st acc)) (hv : valV tab [Sum.inr st, Sum.inr p] = some v) : TabIs tab (tabF rs i st (acc ++ [p])) := by
  intro s q
  rw [h s q]
  congr 1
  have := (h st p).symm.trans hv
  unfold tabF at this ⊢
  cases e : fitIdx (rs.take i) s q with
  | some k => rfl
  | none =>
    show (if _ then _ else _) = if _ then _ else _
    by_cases hs : s = st ∧ q = p
    · obtain ⟨rfl, rfl⟩ := hs
      rw [e] at this
      by_cases hm : q ∈ acc
      · rw [if_pos ⟨rfl, hm⟩, if_pos ⟨rfl, List.mem_append_left _ hm⟩]
      · exfalso
        rw [show (match (none : Option Nat) with | some k => some k | none => if s = s ∧ q ∈ acc then some i else none) = if s = s ∧ q ∈ acc then some i else none from rfl, if_neg (fun z => hm z.2)] at this
        exact nomatch this
    · congr 1
      apply propext
      rw [List.mem_append, List.mem_singleton]
      exact ⟨fun ⟨h1, h2⟩ => ⟨h1, .inl h2⟩, fun ⟨h1, h2⟩ => ⟨h1, h2.resolve_right fun z => hs ⟨h1, z⟩⟩⟩
theorem tab_none {tab : List (List Key × V)} {rs : List Rule} {i : Nat} {st : Str} {acc : List Str} {p : Str} (h : TabIs tab (tabF rs i st acc)) (hv : valV tab [Sum.inr st, Sum.inr p] = none) : TabIs (putK tab [Sum.inr st, Sum.inr p] (.int (i : Int))) (tabF rs i st (acc ++ [p])) := by
  intro s q
  rw [valV_put]
  have hn := (h st p).symm.trans hv
  by_cases hs : s = st ∧ q = p
  · obtain ⟨rfl, rfl⟩ := hs
    rw [if_pos rfl]
    unfold tabF at hn ⊢
    cases e : fitIdx (rs.take i) s q with
    | some k => rw [e] at hn; exact nomatch hn
    | none =>
      show _ = (if _ then _ else _ : Option Nat).map _
      rw [if_pos ⟨rfl, List.mem_append_right _ (List.mem_singleton_self _)⟩]; rfl
  · rw [if_neg (fun e => hs (by injection e with e1 e2; injection e2 with e2 _; exact ⟨(Sum.inr.inj e1), (Sum.inr.inj e2)⟩)), h s q]
    congr 1
    unfold tabF
    cases e : fitIdx (rs.take i) s q with
    | some k => rfl
    | none =>
      show (if _ then _ else _) = if _ then _ else _
      congr 1
      apply propext
      rw [List.mem_append, List.mem_singleton]
      exact ⟨fun ⟨h1, h2⟩ => ⟨h1, .inl h2⟩, fun ⟨h1, h2⟩ => ⟨h1, h2.resolve_right fun z => hs ⟨h1, z⟩⟩⟩
theorem placesG_len (g : Str) (h : isGroupB g = true) : (placesG g).length ≤ 11 := by
  unfold placesG
  split
  · decide
  · unfold groupS
    split
    · show 1 ≤ 11; decide
    · unfold isGroupB at h
      rename_i _ hz
      rw [decide_eq_false hz, Bool.false_or] at h
      obtain ⟨ys, hy⟩ := Option.isSome_iff_exists.mp h
      rw [hy]
      have : ∀ q ∈ LG, q.2.length ≤ 11 := by decide +kernel
      have hm : ∃ x, (x, ys) ∈ LG := by
        clear h this
        generalize LG = l at hy
        induction l with
        | nil => simp at hy
        | cons p l ih =>
          obtain ⟨a, b⟩ := p
          rw [List.lookup_cons] at hy
          split at hy
          · exact ⟨a, by rw [Option.some.inj hy]; exact List.mem_cons_self⟩
          · obtain ⟨x, hx⟩ := ih hy; exact ⟨x, List.mem_cons_of_mem _ hx⟩
      obtain ⟨x, hx⟩ := hm
      exact this _ hx
theorem flat_len {gs : List Str} (h : ∀ g ∈ gs, isGroupB g = true) : (gs.flatMap placesG).length ≤ 11 * gs.length := by
  induction gs with
  | nil => simp
  | cons g gs ih =>
    rw [List.flatMap_cons, List.length_append, List.length_cons]
    have h1 := placesG_len g (h g List.mem_cons_self)
    have h2 := ih fun x hx => h x (List.mem_cons_of_mem _ hx)
    omega
/-! ### a loop, in the heap -/
def LoopAt (K : PySem.W.Frag) (C : Addr) (H : Hp) (p : Addr) (rs : List Rule) (ans : List (Str × Str)) : Prop :=
  ∃ (dx ra rd rt : Addr) (tab : List (List Key × V)), H p = some (.ins C dx [("own_rules", .ref ra), ("own_answers", .ref rd), ("table", .ref rt)]) ∧ RulesT K H ra rs ∧ H rd = some (.dK (ansV rs ans)) ∧ H rt = some (.dT tab) ∧ TabIs tab (fitIdx rs)
theorem LoopAt.same {K : PySem.W.Frag} {C : Addr} {H H' : Hp} {p : Addr} {rs : List Rule} {ans : List (Str × Str)} (s : Same H H') (h : LoopAt K C H p rs ans) : LoopAt K C H' p rs ans := by
  obtain ⟨dx, ra, rd, rt, tab, h1, h2, h3, h4, h5⟩ := h
  exact ⟨dx, ra, rd, rt, tab, s _ _ h1, h2.same s, s _ _ h3, s _ _ h4, h5⟩
/-! ### a run, in the heap -/
def RunAt (K : PySem.W.Frag) (C : Addr) (H : Hp) (p : Addr) (r : RS) (an : Str) : Prop :=
  ∃ (dx a b c : Addr), H p = some (.ins C dx [("words", .ref a), ("keeps", .ref b), ("kept", .ref c), ("state", .str r.st), ("answer", .str an)]) ∧ H a = some (.tup (r.words.map V.str)) ∧ H b = some (.tup (r.keeps.map V.bl)) ∧ H c = some (.tup (r.kept.map V.int))
theorem RunAt.same {K : PySem.W.Frag} {C : Addr} {H H' : Hp} {p : Addr} {r : RS} {an : Str} (s : Same H H') (h : RunAt K C H p r an) : RunAt K C H' p r an := by
  obtain ⟨dx, a, b, c, h1, h2, h3, h4⟩ := h
  exact ⟨dx, a, b, c, s _ _ h1, s _ _ h2, s _ _ h3, s _ _ h4⟩
theorem But.both {p : Addr} {H H' : Hp} (b : But p H H') (h : ∀ o, H p = some o → H' p = some o) : Same H H' := fun c x hc => by
  by_cases e : c = p
  · subst e; exact h x hc
  · exact b c x e hc
def lastV (ks : List Int) : V := match ks.getLast? with
  | none => .non
  | some k => .int k
theorem atI_last {xs : List V} {x : V} (h : xs.getLast? = some x) : atI xs (-1) = some x := by
  have hne : xs ≠ [] := fun e => by rw [e] at h; exact nomatch h
  have hl : 0 < xs.length := by cases xs with | nil => exact absurd rfl hne | cons _ _ => simp
  rw [List.getLast?_eq_getElem?] at h
  have e : ixN xs.length (-1) = some (xs.length - 1) := by
    unfold ixN
    split <;> first | omega | (split <;> first | omega | (congr 1; omega))
  unfold atI; rw [e]; exact h
/-- a row that stands in the heap -/
def RowAt (H : Hp) (a : Addr) (xs : List V) : Prop := H a = some (.lst xs) ∨ H a = some (.tup xs)
theorem RowAt.sq {K : PySem.W.Frag} {H : Hp} {a : Addr} {xs : List V} (h : RowAt H a xs) : Sq K H a xs := by
  rcases h with h | h
  · exact Sq.lst h
  · exact Sq.tup h
theorem RowAt.same {H H' : Hp} {a : Addr} {xs : List V} (s : Same H H') (h : RowAt H a xs) : RowAt H' a xs := by
  rcases h with h | h
  · exact .inl (s _ _ h)
  · exact .inr (s _ _ h)
theorem RowAt.stays {H H1 H' : Hp} {a : Addr} {xs : List V} (h : RowAt H a xs) (s1 : Same H H1) (s2 : Same H H') {o : HO} (ho : H1 a = some o) : H' a = some o := by
  rcases h with h | h
  · have := (s1 _ _ h).symm.trans ho
    rw [← this]; exact s2 _ _ h
  · have := (s1 _ _ h).symm.trans ho
    rw [← this]; exact s2 _ _ h
end NL
/-! len(x), x == y by a class's own methods -/
namespace NL
open PySem L2
section
variable {X : Cx} {CX : CXT} {n : Nat} {f C : Addr} {fd : FuncData} {ps : List Str} {sp : Sp} {E : XK}
/-- a call of an own method from within a builtin -/
theorem run_own (F : FnOk X.prog X.w X.K X.mg X.base CX n f fd ps sp) {A : Around} (hroom : Room n A) (hfr : A.frames = X.A.frames) (hb : Binds X.K fd ps []) (hx : Passes CX X E) {pins : List (Addr × Obj)} {s : Shared} {σ : L2.St} {H : Hp} {vs : List V} {us : List Value} {Q : VK}
    (I : Inv X pins σ H s) (r : Vals vs us) (h : sp vs H Q E) : wpAny (model X.prog X.w) A (call (.ref f) us) (EP X pins σ Q) X.xe s := by
  have e0 : Env0 X.prog X.w X.K X.mg X.base A X.stack s H := by
    have e := I.env0
    exact ⟨by rw [hfr]; exact e.frames, e.mod, e.bs, e.bsz, e.funs, e.frf, e.hok, e.bare⟩
  have hl := F.len _ _ _ _ h
  have hl2 := r.length
  refine wpAny_call (codeAny_mono (F.run A X.stack s H ⟨us, []⟩ us vs _ E hroom e0 (by
    have := hb s us I.kIn (by simp only [List.append_nil]; omega)
    simpa using this) r h) fun rr s' hq => ?_)
  cases rr with
  | error e => exact hx pins σ H s e s' I hq
  | ok fl =>
    cases fl with
    | ret w =>
      obtain ⟨z, H', I', rz, q⟩ := I.after hq
      exact ⟨z, H', I', rz, q⟩
    | next => exact False.elim hq
    | brk => exact False.elim hq
    | cont => exact False.elim hq
def rLenO (C : Addr) (sp : Sp) (E : XK) : List V → Hp → VK → Prop := fun xs H Q => ∃ a dx fs, xs = [.ref a] ∧ H a = some (.ins C dx fs) ∧ sp [.ref a] H (fun v H' => ∃ i : Int, v = .int i ∧ (0 ≤ i ∧ i < 2 ^ 63) ∧ Q (.int i) H') E
theorem call_lenO (F : FnOk X.prog X.w X.K X.mg X.base CX n f fd ps sp) (hroom : Room (n + 1) X.A) (M : Meth X.K C "__len__" f) (hb : Binds X.K fd ps []) (hx : Passes CX X E) : CallR X (.builtin "len") (rLenO C sp E) := by
  intro pins s σ H xs us Q I r h
  obtain ⟨a, dx, fs, rfl, ha, h⟩ := h
  obtain ⟨u, rfl, rx⟩ := vals1 r
  cases rx
  obtain ⟨mA, J, _⟩ := ins_get I.hok ha
  obtain ⟨od, J, _⟩ := J.look
  obtain ⟨m, hF⟩ := I.fr
  refine PySem.W.len_K hF I.ok.mod.kin J M.at_ M.fn (wpAny_mono (run_own F hroom.in1 rfl hb hx I r h) (fun v s' q => ?_) fun _ _ e => e)
  obtain ⟨z, H', I', rz, i, rfl, hi, q⟩ := q
  obtain ⟨t, rfl⟩ := rz
  exact ⟨hi, .int i, H', I'.tok _, ⟨_, rfl⟩, q⟩
/-- x == y, x of the class at C, y of the same class or any value with a look -/
def rEqO (C : Addr) (sp : Sp) (E : XK) : R2 := fun x y H Q => ∃ a dx fs b dy gs, x = .ref a ∧ y = .ref b ∧ H a = some (.ins C dx fs) ∧ H b = some (.ins C dy gs) ∧ sp [.ref a, .ref b] H (fun v H' => ∃ i : Bool, v = .bl i ∧ Q (.bl i) H') E
theorem op_eqO (F : FnOk X.prog X.w X.K X.mg X.base CX n f fd ps sp) (hroom : Room n X.A) (M : Meth X.K C "__eq__" f) (hb : Binds X.K fd ps []) (hx : Passes CX X E) : OpR X (compareOp .Eq) (rEqO C sp E) := by
  intro pins s σ H x y v u Q I rx ry hq
  obtain ⟨a, dx, fs, b, dy, gs, rfl, rfl, ha, hb', h⟩ := hq
  show wpAny (model X.prog X.w) X.A (richCompare .Eq v u) (EP X pins σ Q) X.xe s
  cases rx
  cases ry
  obtain ⟨mA, J, _⟩ := ins_get I.hok ha
  obtain ⟨mB, J', _⟩ := ins_get I.hok hb'
  obtain ⟨od, J, _⟩ := J.look
  obtain ⟨od', J', _⟩ := J'.look
  obtain ⟨m, hF⟩ := I.fr
  refine PySem.W.cmp_K (op := .Eq) (tb := .ref C) hroom.units0 hF I.ok.mod.kin J J'.type (by simp [PySem.W.notFirst]) M.at_ M.fn ?_
  have r2 : Vals [V.ref a, V.ref b] [Value.ref a, Value.ref b] := .cons rfl (.cons rfl .nil)
  refine wpAny_mono (run_own F hroom rfl hb hx I r2 h) (fun v s' q => ?_) fun _ _ e => e
  obtain ⟨z, H', I', rz, i, rfl, q⟩ := q
  cases rz
  exact ⟨.bl i, H', I', rfl, q⟩
end
end NL
/-! d.update(e), both with keys that are ints and texts -/
namespace NL
open PySem L2
def tDUpd (td ty : TE) : TE := fun σ H Q => td σ H fun x H1 => ∃ a, x = .ref a ∧ IsD H1 a ∧ ty σ H1 fun y H2 => ∃ (b : Addr) (kvs more : List (Key × V)), y = .ref b ∧ a ≠ b ∧ H2 a = some (.dK kvs) ∧ H2 b = some (.dK more) ∧ kvs.length + more.length ≤ sizeLine ∧ Q .non (upd H2 a (.dK (mergeK kvs more)))
theorem pe_dupd {X : Cx} {o e : Expr} {td ty : TE} {apos cpos : Pos} (ho : PE X o td) (he : PE X e ty) (m : M1 X o "update" apos e cpos) : PE X (.Call (.Attribute o "update" apos) [e] [] cpos) (tDUpd td ty) := by
  refine ⟨fun pins s σ H Q I h => ?_⟩
  refine wpAny_Call_method m.base m.few m.line PySem.F.plainAttrs_dict PySem.F.slot_dict_update PySem.F.type_dict_update (thn (ho.run pins s σ H _ I h) fun u s1 ⟨x, H1, I1, rx, a, ex, d, q1⟩ => ?_)
  subst ex
  obtain rfl : u = Value.ref a := rx
  obtain ⟨t1, t2, _⟩ := isD_at I1 d
  refine ⟨t1, t2, ?_⟩
  rw [m.trees]
  refine Calls.callWith_builtin rfl (Calls.evalArgs_plain (Calls.spliced_cons (thn (he.run pins s1 σ H1 _ I1 q1) fun iv s2 ⟨y, H2, I2, ry, b, kvs, more, ey, hne, ea, eb, hz, q⟩ => Calls.spliced_nil ?_)))
  subst ey
  obtain rfl : iv = Value.ref b := ry
  obtain ⟨z1, l1, vs, rel, dd⟩ := dk_of I2.hok ea
  obtain ⟨z2, l2, ws, rel2, dd2⟩ := dk_of I2.hok eb
  refine call_meetsIn PySem.F.slot_dict_update dd.typeIs PySem.F.entry_dict_update (PySem.F.args_dict_update_2 _ _) (meets_dict_update (mixKind X.prog X.w) a b hne l2)
    ⟨vs, ws, dd, dd2, (by rw [← Paired.length rel, ← Paired.length rel2]; exact hz), fun h' hmm _ hs => ?_⟩
  have hz2 : (mergeK kvs more).length ≤ sizeLine := Nat.le_trans (length_mergeK more kvs) hz
  have hex : ∃ q, h'.get? a = some q := by obtain ⟨o, es, ep, hq, _⟩ := id hmm; exact ⟨_, hq⟩
  exact ⟨.non, _, d_write (t' := s2.toks) I2 (by rw [ea]; exact True.intro) hs hex (dk_new hz2 l1 (KV.merge rel2 rel) hmm), rfl, q⟩
end NL
namespace NL
open PySem L2
/-! ### drawn names -/
theorem isName_of {z : Str} (h1 : 1 ≤ z.cps.toList.length) (h2 : z.cps.toList.length ≤ 8) (h3 : ∀ c ∈ z.cps.toList, c ∈ ALPHA) : isNameB z = true := by
  unfold isNameB
  have e : z.length = z.cps.toList.length := by simp [Str.length]
  rw [e, decide_eq_true h1, decide_eq_true h2, Bool.true_and, Bool.true_and, List.all_eq_true]
  intro c hc; exact decide_eq_true (h3 c hc)
theorem name_len {z : Str} (h : isNameB z = true) : 1 ≤ z.length ∧ z.length ≤ 8 := by
  unfold isNameB at h
  simp only [Bool.and_eq_true, decide_eq_true_eq] at h
  exact h.1
def oneS (c : Nat) : Str := ⟨#[c]⟩
theorem joinL_ones : ∀ cs : List Nat, TL.joinL [] (cs.map fun c => [c]) = cs
  | [] => rfl
  | [c] => rfl
  | c :: d :: r => by
    show [c] ++ ([] ++ TL.joinL [] ((d :: r).map fun c => [c])) = c :: d :: r
    rw [joinL_ones (d :: r)]; rfl
theorem join_cps (cs : List Nat) : (Txt.join "" (cs.map oneS)).cps.toList = cs := by
  have e := TL.tl_join "" (cs.map oneS)
  rw [← TL.join_eq] at e
  have e2 : (cs.map oneS).map TL.tl = cs.map fun c => [c] := by rw [List.map_map]; rfl
  rw [e2] at e
  have e3 : TL.tl "" = [] := rfl
  rw [e3, joinL_ones] at e
  exact e
theorem ones_sum : ∀ cs : List Nat, ((cs.map oneS).map (·.length)).sum = cs.length
  | [] => rfl
  | c :: cs => by
    show 1 + ((cs.map oneS).map (·.length)).sum = cs.length + 1
    rw [ones_sum cs]; omega
theorem join_name {cs : List Nat} (h1 : 1 ≤ cs.length) (h2 : cs.length ≤ 8) (h3 : ∀ c ∈ cs, c ∈ ALPHA) : isNameB (Txt.join "" (cs.map oneS)) = true :=
  isName_of (by rw [join_cps]; exact h1) (by rw [join_cps]; exact h2) (by rw [join_cps]; exact h3)
theorem q_name {cs : List Nat} (h1 : 1 ≤ cs.length) (h2 : cs.length ≤ 8) (h3 : ∀ c ∈ cs, c ∈ ALPHA) : isNameB ("q" ++ cutS (Txt.join "" (cs.map oneS)) (some 1) none) = true := by
  have el : (Txt.join "" (cs.map oneS)).length = cs.length := by
    have := congrArg List.length (join_cps cs); simpa [Str.length] using this
  have e : ("q" ++ cutS (Txt.join "" (cs.map oneS)) (some 1) none : Str).cps.toList = 113 :: cs.drop 1 := by
    show ((("q" : Str).cps ++ (cutS (Txt.join "" (cs.map oneS)) (some 1) none).cps)).toList = _
    rw [Array.toList_append]
    unfold cutS
    rw [join_cps, el, HT.sIx_none, show (1 : Int) = ((1 : Nat) : Int) from rfl, HT.sIx_nat]
    show [113] ++ _ = _
    rw [Nat.min_eq_left (by omega)]
    simp only [List.singleton_append, List.cons.injEq, true_and]
    rw [List.take_of_length_le (by rw [List.length_drop]; omega)]
  refine isName_of ?_ ?_ ?_
  · rw [e]; simp
  · rw [e, List.length_cons, List.length_drop]; omega
  · rw [e]; intro c hc
    rcases List.mem_cons.mp hc with rfl | hc
    · decide +kernel
    · exact h3 c (List.mem_of_mem_drop hc)
def ZS : List Str := [("za" : Str), "zb", "zc", "zd", "ze", "zf", "zg", "zh", "zi", "zj", "zk", "zl", "zm", "zn", "zo", "zp", "zq"]
theorem ZS_names : ∀ z ∈ ZS, isNameB z = true := by decide +kernel
theorem ZS_nodup : ZS.Nodup := by decide +kernel
theorem nodup_len : ∀ {xs ys : List Str}, xs.Nodup → (∀ x ∈ xs, x ∈ ys) → xs.length ≤ ys.length
  | [], _, _, _ => Nat.zero_le _
  | x :: xs, ys, h, hs => by
    rw [List.nodup_cons] at h
    have hx := hs x List.mem_cons_self
    have := nodup_len (xs := xs) (ys := ys.erase x) h.2 fun y hy => by
      have hne : y ≠ x := fun e => h.1 (e ▸ hy)
      exact (List.mem_erase_of_ne hne).mpr (hs y (List.mem_cons_of_mem _ hy))
    rw [List.length_erase_of_mem hx] at this
    have hp : 0 < ys.length := List.length_pos_of_mem hx
    rw [List.length_cons]; omega
theorem z_free {ts : List Str} (h : ts.length ≤ 16) : ∃ z r, ZS.filter (fun z => !decide (z ∈ ts)) = z :: r ∧ isNameB z = true ∧ z ∉ ts := by
  cases e : ZS.filter (fun z => !decide (z ∈ ts)) with
  | nil =>
    exfalso
    have := nodup_len ZS_nodup (ys := ts) fun x hx => by
      have := List.filter_eq_nil_iff.mp e x hx
      simpa using this
    have hz : ZS.length = 17 := rfl
    omega
  | cons z r =>
    have hm : z ∈ ZS.filter (fun z => !decide (z ∈ ts)) := by rw [e]; exact List.mem_cons_self
    obtain ⟨h1, h2⟩ := List.mem_filter.mp hm
    exact ⟨z, r, rfl, ZS_names z h1, by simpa using h2⟩
/-! ### the law's own groups -/
def groupL (z : Str) : List Str := (LG.lookup z).getD [z]
theorem groupL_eq {z : Str} (h : isGroupB z = true) : groupL z = groupS z := by
  unfold groupL groupS
  by_cases hp : z ∈ PL
  · rw [if_pos hp]
    have : ∀ z ∈ PL, LG.lookup z = none := by decide +kernel
    rw [this z hp]; rfl
  · rw [if_neg hp]
    unfold isGroupB at h
    rw [decide_eq_false hp, Bool.false_or] at h
    obtain ⟨ys, hy⟩ := Option.isSome_iff_exists.mp h
    rw [hy]; rfl
/-! ### the law's own rules: a list of tuples, with lists of groups -/
def RuleL (H : Hp) (v : V) (r : Rule) : Prop := ∃ t g, v = .ref t ∧ H t = some (.tup [.str r.st, .ref g, .str r.wd, .bl r.kp, .str r.nx]) ∧ H g = some (.lst (r.gs.map V.str))
def RulesL (H : Hp) (a : Addr) (rs : List Rule) : Prop := ∃ vs, H a = some (.lst vs) ∧ Paired (RuleL H) vs rs
section
variable {K : PySem.W.Frag} {H H' : Hp}
theorem RuleL.same {v : V} {r : Rule} (s : Same H H') (h : RuleL H v r) : RuleL H' v r := by
  obtain ⟨t, g, e, h1, h2⟩ := h; exact ⟨t, g, e, s _ _ h1, s _ _ h2⟩
theorem RuleL.at {v : V} {r : Rule} (h : RuleL H v r) : RuleAt K H v r := by
  obtain ⟨t, g, e, h1, h2⟩ := h; exact ⟨t, g, e, Sq.tup h1, Sq.lst h2⟩
theorem RulesL.same {a : Addr} {rs : List Rule} (s : Same H H') (h : RulesL H a rs) : RulesL H' a rs := by
  obtain ⟨vs, h1, h2⟩ := h; exact ⟨vs, s _ _ h1, Paired.mapP h2 fun _ _ => RuleL.same s⟩
theorem RulesL.at {a : Addr} {rs : List Rule} (h : RulesL H a rs) : RulesAt K H a rs := by
  obtain ⟨vs, h1, h2⟩ := h; exact ⟨vs, Sq.lst h1, Paired.mapP h2 fun _ _ => RuleL.at⟩
end
theorem find_step {α : Type} {P : α → Bool} {rs : List α} {i : Nat} {r : α} (hr : rs[i]? = some r) (h : (rs.take i).find? P = none) : (rs.take (i + 1)).find? P = if P r = true then some r else none := by
  rw [take_snoc hr, List.find?_append, h]
  show List.find? P [r] = _
  rw [List.find?_cons]
  cases P r <;> rfl
theorem find_whole {α : Type} {P : α → Bool} {rs : List α} {i : Nat} {r : α} (h : (rs.take i).find? P = some r) : rs.find? P = some r := by
  conv => lhs; rw [← List.take_append_drop i rs]
  rw [List.find?_append, h]; rfl
theorem hit_law {s p : Str} {r : Rule} (hp : p ∈ PN) : (decide (r.st = s) && r.gs.any (fitsL p)) = hitR s p r := by
  unfold hitR Rule.fits
  have : (fitsL p) = fitsG p := funext fun g => fits_eq hp
  rw [this]
/-! ### dicts of lists -/
theorem mergeK_fresh : ∀ {more acc : List (Key × V)}, ((acc ++ more).map (·.1)).Nodup → mergeK acc more = acc ++ more
  | [], acc, _ => by rw [List.append_nil]; rfl
  | (k, v) :: more, acc, h => by
    have hn : valV acc k = none := by
      cases e : valV acc k with
      | none => rfl
      | some w =>
        exfalso
        have : (acc.any fun kv => decide (kv.1 = k)) = true := by rw [valV_any, e]; rfl
        obtain ⟨x, hx, he⟩ := List.any_eq_true.mp this
        rw [List.map_append, List.map_cons, List.nodup_append] at h
        exact h.2.2 x.1 (List.mem_map.mpr ⟨x, hx, rfl⟩) k List.mem_cons_self (of_decide_eq_true he)
    show mergeK (putK acc k v) more = _
    rw [putK_new v hn, mergeK_fresh (by rw [List.append_assoc]; exact h), List.append_assoc]; rfl
def PartR (H : Hp) (kv : Key × V) (q : Str × List Str) : Prop := kv.1 = Sum.inr q.1 ∧ ∃ a, kv.2 = .ref a ∧ H a = some (.lst (q.2.map V.str))
theorem PartR.same {H H' : Hp} {kv : Key × V} {q : Str × List Str} (s : Same H H') (h : PartR H kv q) : PartR H' kv q := by
  obtain ⟨e, a, h1, h2⟩ := h; exact ⟨e, a, h1, s _ _ h2⟩
theorem parts_get {H : Hp} (z : Str) : ∀ {kvs : List (Key × V)} {lg : List (Str × List Str)}, Paired (PartR H) kvs lg →
    (lg.lookup z = none ∧ valV kvs (Sum.inr z) = none) ∨ ∃ ys a, lg.lookup z = some ys ∧ valV kvs (Sum.inr z) = some (.ref a) ∧ H a = some (.lst (ys.map V.str))
  | _, _, .nil => .inl ⟨rfl, rfl⟩
  | (k, v) :: kvs, (n, ys) :: lg, .cons ⟨e, a, h1, h2⟩ t => by
    have e : k = Sum.inr n := e
    subst e
    have h1 : v = .ref a := h1
    subst h1
    rw [List.lookup_cons]
    by_cases h : z = n
    · subst h
      rw [valV_pos rfl]
      have : (z == z) = true := by simp
      rw [this]
      exact .inr ⟨ys, a, rfl, rfl, h2⟩
    · rw [valV_neg (fun e => h (Sum.inr.inj e).symm)]
      have : (z == n) = false := by simpa using h
      rw [this]
      exact parts_get z t
/-! ### ints and bools as data -/
theorem canLay_ints : ∀ zs : List Int, PyData.canLayAll0 (zs.map PyData.int) = true
  | [] => rfl
  | z :: zs => by show (true && PyData.canLayAll0 (zs.map PyData.int)) = true; rw [canLay_ints zs]; rfl
theorem canLay_bools : ∀ zs : List Bool, PyData.canLayAll0 (zs.map PyData.bool) = true
  | [] => rfl
  | z :: zs => by show (true && PyData.canLayAll0 (zs.map PyData.bool)) = true; rw [canLay_bools zs]; rfl
theorem depth_ints : ∀ zs : List Int, PyData.depthAll (zs.map PyData.int) = 0
  | [] => rfl
  | z :: zs => by show max 0 (PyData.depthAll (zs.map PyData.int)) = 0; rw [depth_ints zs]; rfl
theorem depth_bools : ∀ zs : List Bool, PyData.depthAll (zs.map PyData.bool) = 0
  | [] => rfl
  | z :: zs => by show max 0 (PyData.depthAll (zs.map PyData.bool)) = 0; rw [depth_bools zs]; rfl
theorem shapedL_ints (zs : List Int) : SeqAt.shaped (.list (zs.map .int)) = true :=
  shaped_of (canLay_ints zs) (by show PyData.depthAll (zs.map PyData.int) + 1 ≤ 64; rw [depth_ints]; decide)
theorem shapedL_bools (zs : List Bool) : SeqAt.shaped (.list (zs.map .bool)) = true :=
  shaped_of (canLay_bools zs) (by show PyData.depthAll (zs.map PyData.bool) + 1 ≤ 64; rw [depth_bools]; decide)
theorem dpAll_bool {K : PySem.W.Frag} {H : Hp} : ∀ zs : List Bool, DpAll K H (zs.map V.bl) (zs.map PyData.bool)
  | [] => .nil
  | z :: zs => .cons (.bl z) (dpAll_bool zs)
theorem eqv_nil (zs : List Int) : PyData.eqv (.list (zs.map .int)) (.list []) = decide (zs = []) := by
  cases zs <;> rfl
theorem name_ok {z : Str} (h : isNameB z = true) : PyData.strOk z = true := by
  unfold isNameB at h
  simp only [Bool.and_eq_true, List.all_eq_true, decide_eq_true_eq] at h
  unfold PyData.strOk
  rw [Array.all_eq_true_iff_forall_mem]
  intro c hc
  have h1 := h.2 c (by simpa using hc)
  have : ∀ c ∈ ALPHA, decide (c < 0x110000) = true := by decide +kernel
  exact this c h1
/-! ### drawn rules -/
def N19 : List Str := GN.take 8 ++ PL
theorem N19_group : ∀ z ∈ N19, isGroupB z = true := by decide +kernel
def W3 : List Str := [("new" : Str), "old", "pass"]
theorem W3_name : ∀ z ∈ W3, isNameB z = true := by decide +kernel
/-- rules as the law draws them: of at most `many` states, at most `most` rules -/
structure Drawn (rs : List Rule) (many most : Int) : Prop where
  pos : 0 < rs.length
  few : (rs.length : Int) ≤ most
  wf : ∀ r ∈ rs, wfRule r = true
  gs : ∀ r ∈ rs, r.gs.length ≤ 4
  wd : ∀ r ∈ rs, r.wd ∈ W3
  st : ((statesR rs).length : Int) ≤ many
theorem Drawn.rules {rs : List Rule} {many most : Int} (h : Drawn rs many most) (h1 : many ≤ 6) (h2 : most ≤ 40) : wfRules rs :=
  ⟨h.pos, by have := h.few; omega, h.wf, by have := h.st; omega⟩
theorem Drawn.groups {rs : List Rule} {many most : Int} (h : Drawn rs many most) : ∀ r ∈ rs, r.gs.length ≤ 100 ∧ ∀ g ∈ r.gs, isGroupB g = true := fun r hr => by
  have h1 := h.gs r hr
  have h2 := h.wf r hr
  unfold wfRule at h2
  simp only [Bool.and_eq_true] at h2
  exact ⟨by omega, List.all_eq_true.mp h2.2⟩
theorem wfRule_of {r : Rule} (h1 : isNameB r.st = true) (h2 : isNameB r.wd = true) (h3 : isNameB r.nx = true) (h4 : 0 < r.gs.length) (h5 : ∀ g ∈ r.gs, isGroupB g = true) : wfRule r = true := by
  unfold wfRule
  rw [h1, h2, h3, decide_eq_true h4, List.all_eq_true.mpr h5]; rfl
theorem states_sub {rs : List Rule} {zs : List Str} (h : ∀ r ∈ rs, r.st ∈ zs ∧ r.nx ∈ zs) : (statesR rs).length ≤ zs.length := by
  refine nodup_len (statesR_nodup rs) fun x hx => ?_
  rcases statesF_mem.mp hx with h0 | ⟨r, hr, e | e⟩
  · exact nomatch h0
  · rw [e]; exact (h r hr).1
  · rw [e]; exact (h r hr).2
/-- two things put aside -/
def hide2 (H : Hp) (p q : Addr) : Hp := NL.hide (NL.hide H p) q
theorem hide2_at {H : Hp} {p q c : Addr} (h1 : c ≠ p) (h2 : c ≠ q) : hide2 H p q c = H c := by unfold hide2; rw [hide_at h2, hide_at h1]
theorem hide2_some {H : Hp} {p q c : Addr} {o : HO} (h : hide2 H p q c = some o) : c ≠ p ∧ c ≠ q ∧ H c = some o := by
  unfold hide2 at h
  by_cases e : c = q
  · rw [e, hide_self] at h; cases h
  · rw [hide_at e] at h
    by_cases e2 : c = p
    · rw [e2, hide_self] at h; cases h
    · rw [hide_at e2] at h; exact ⟨e2, e, h⟩
theorem hide2_same {H H' : Hp} {p q : Addr} (h : ∀ c o, c ≠ p → c ≠ q → H c = some o → H' c = some o) : Same (hide2 H p q) (hide2 H' p q) := fun c o hc => by
  obtain ⟨h1, h2, h3⟩ := hide2_some hc
  rw [hide2_at h1 h2]; exact h c o h1 h2 h3
theorem ansD_snoc {ans : List (Str × Str)} {z v : Str} (h : z ∉ ans.map (·.1)) : putK (ansD ans) (Sum.inr z) (.str v) = ansD (ans ++ [(z, v)]) := by
  have e : ans.lookup z = none := by
    induction ans with
    | nil => rfl
    | cons p ans ih =>
      obtain ⟨a, b⟩ := p
      rw [List.map_cons, List.mem_cons, not_or] at h
      rw [List.lookup_cons]
      have : (z == a) = false := by simpa using h.1
      rw [this]; exact ih h.2
  rw [putK_new _ (by rw [ansD_val, e]; rfl)]
  unfold ansD; rw [List.map_append]; rfl
/-! ### facts beside the source -/
theorem SqT_hide {K : PySem.W.Frag} {H : Hp} {p a : Addr} {xs : List V} {u : HO} (hp : H p = some u) (hu : noTup u) (h : SqT K H a xs) : SqT K (NL.hide H p) a xs := by
  rcases h with (h | ⟨o, h⟩) | h
  · exact .inl (.inl (hide_put h fun e => by subst e; rw [hp] at h; exact hu.1 _ (Option.some.inj h)))
  · exact .inl (.inr ⟨o, hide_put h fun e => by subst e; rw [hp] at h; exact hu.2 _ _ (Option.some.inj h)⟩)
  · exact .inr h
theorem LoopAt.hide {K : PySem.W.Frag} {C : Addr} {H : Hp} {p q : Addr} {ys : List V} {rs : List Rule} {ans : List (Str × Str)} (hp : H p = some (.lst ys)) (h : LoopAt K C H q rs ans) : LoopAt K C (NL.hide H p) q rs ans := by
  obtain ⟨dx, ra, rd, rt, tab, h1, ⟨vs, h2, h3⟩, h4, h5, h6⟩ := h
  refine ⟨dx, ra, rd, rt, tab, hide_put h1 (ne_of h1 hp fun z => nomatch z), ⟨vs, SqT_hide hp noTup_lst h2, Paired.mapP h3 fun _ _ ⟨t, g, e, k1, k2⟩ => ⟨t, g, e, SqT_hide hp noTup_lst k1, SqT_hide hp noTup_lst k2⟩⟩, hide_put h4 (ne_of h4 hp fun z => nomatch z), hide_put h5 (ne_of h5 hp fun z => nomatch z), h6⟩
theorem RunAt.hide {K : PySem.W.Frag} {C : Addr} {H : Hp} {p q : Addr} {ys : List V} {r : RS} {an : Str} (hp : H p = some (.lst ys)) (h : RunAt K C H q r an) : RunAt K C (NL.hide H p) q r an := by
  obtain ⟨dx, a, b, c, h1, h2, h3, h4⟩ := h
  exact ⟨dx, a, b, c, hide_put h1 (ne_of h1 hp fun z => nomatch z), hide_put h2 (ne_of h2 hp fun z => nomatch z), hide_put h3 (ne_of h3 hp fun z => nomatch z), hide_put h4 (ne_of h4 hp fun z => nomatch z)⟩
theorem Src.lst {H : Hp} {p : Addr} {c : Int} (h : Src H p c) : ∃ ys, H p = some (.lst ys) := by obtain ⟨_, _, e, _⟩ := h; exact ⟨_, e⟩
theorem run_words (rs : List Rule) (e : Int) (row : List Int) : ∀ w ∈ (runR rs e row).words, w = ("pass" : Str) ∨ ∃ r ∈ rs, w = r.wd := by
  suffices h : ∀ (s : RS), ∀ w ∈ (row.foldl (runStep rs e) s).words, w ∈ s.words ∨ w = ("pass" : Str) ∨ ∃ r ∈ rs, w = r.wd by
    intro w hw
    rcases h _ w hw with h | h
    · exact nomatch h
    · exact h
  induction row with
  | nil => intro s w hw; exact .inl hw
  | cons y row ih =>
    intro s w hw
    rcases ih _ w hw with h | h
    · simp only [runStep] at h
      rcases List.mem_append.mp h with h | h
      · exact .inl h
      · refine .inr ?_
        have e2 := List.mem_singleton.mp h
        unfold usedR at e2
        cases hf : rs.find? (hitR s.st (whereS s.kept y e)) with
        | none => rw [hf] at e2; exact .inl e2
        | some r => rw [hf] at e2; exact .inr ⟨r, List.mem_of_find?_eq_some hf, e2⟩
    · exact .inr h
theorem Drawn.words {rs : List Rule} {many most : Int} (h : Drawn rs many most) (e : Int) (row : List Int) : ∀ w ∈ (runR rs e row).words, PyData.strOk w = true := fun w hw => by
  rcases run_words rs e row w hw with rfl | ⟨r, hr, rfl⟩
  · decide +kernel
  · exact name_ok (W3_name _ (h.wd r hr))
theorem state_name {rs : List Rule} (hw : ∀ r ∈ rs, wfRule r = true) {z : Str} (h : z ∈ statesR rs) : isNameB z = true := by
  rcases statesF_mem.mp h with h0 | ⟨r, hr, e | e⟩
  · exact nomatch h0
  · have := hw r hr
    unfold wfRule at this
    simp only [Bool.and_eq_true] at this
    rw [e]; exact this.1.1.1.1
  · have := hw r hr
    unfold wfRule at this
    simp only [Bool.and_eq_true] at this
    rw [e]; exact this.1.1.2
theorem ans_ok {rs : List Rule} {ans : List (Str × Str)} (h : ansOk rs ans) (z : Str) : PyData.strOk (ansOf ans z) = true := by
  rcases ansOk_of h z with e | e
  · rw [e]; decide +kernel
  · exact name_ok e
def lastD (ks : List Int) : PyData := match ks.getLast? with
  | none => .none
  | some k => .int k
theorem last_dp {K : PySem.W.Frag} {H : Hp} (ks : List Int) : Dp K H (lastV ks) (lastD ks) := by
  unfold lastV lastD
  cases ks.getLast? with
  | none => exact .non
  | some k => exact .int k
theorem told_shaped {ks : List Int} {a b : Str} (h1 : PyData.strOk a = true) (h2 : PyData.strOk b = true) : SeqAt.shaped (.list [lastD ks, .str a, .str b]) = true := by
  have : (lastD ks).canLay0 = true ∧ (lastD ks).depth = 0 := by
    unfold lastD; cases ks.getLast? <;> exact ⟨rfl, rfl⟩
  refine shaped_of ?_ ?_
  · show ((lastD ks).canLay0 && (PyData.strOk a && (PyData.strOk b && true))) = true
    rw [this.1, h1, h2]; rfl
  · show max (lastD ks).depth (max 0 (max 0 0)) + 1 ≤ 64
    rw [this.2]; decide
theorem len_rep {α : Type} (k : Nat) (xs : List α) : (List.replicate k xs).flatten.length = k * xs.length := by
  induction k with
  | zero => simp
  | succ k ih => rw [List.replicate_succ, List.flatten_cons, List.length_append, ih, Nat.succ_mul, Nat.add_comm]
/-! ### lists of data -/
def fineD (d : PyData) : Prop := d.canLay0 = true ∧ d.depth ≤ 10
theorem fine_all : ∀ {ds : List PyData}, (∀ d ∈ ds, fineD d) → PyData.canLayAll0 ds = true ∧ PyData.depthAll ds ≤ 10
  | [], _ => ⟨rfl, Nat.zero_le _⟩
  | d :: ds, h => by
    obtain ⟨h1, h2⟩ := fine_all fun x hx => h x (List.mem_cons_of_mem _ hx)
    obtain ⟨h3, h4⟩ := h d List.mem_cons_self
    refine ⟨?_, ?_⟩
    · show (d.canLay0 && PyData.canLayAll0 ds) = true
      rw [h3, h1]; rfl
    · show max d.depth (PyData.depthAll ds) ≤ 10
      omega
theorem shapedL_of {ds : List PyData} (h : ∀ d ∈ ds, fineD d) : SeqAt.shaped (.list ds) = true :=
  shaped_of (fine_all h).1 (by show PyData.depthAll ds + 1 ≤ 64; have := (fine_all h).2; omega)
theorem shapedT_of {ds : List PyData} (h : ∀ d ∈ ds, fineD d) : SeqAt.shaped (.tuple ds) = true :=
  shaped_of (fine_all h).1 (by show PyData.depthAll ds + 1 ≤ 64; have := (fine_all h).2; omega)
theorem fine_tup_strs {zs : List Str} (h : ∀ z ∈ zs, PyData.strOk z = true) : fineD (.tuple (zs.map .str)) := ⟨canLay_strs h, by show PyData.depthAll (zs.map PyData.str) + 1 ≤ 10; rw [depth_strs]; decide⟩
theorem fine_tup_ints (zs : List Int) : fineD (.tuple (zs.map .int)) := ⟨canLay_ints zs, by show PyData.depthAll (zs.map PyData.int) + 1 ≤ 10; rw [depth_ints]; decide⟩
theorem fine_tup_bools (zs : List Bool) : fineD (.tuple (zs.map .bool)) := ⟨canLay_bools zs, by show PyData.depthAll (zs.map PyData.bool) + 1 ≤ 10; rw [depth_bools]; decide⟩
theorem fine_list_strs {zs : List Str} (h : ∀ z ∈ zs, PyData.strOk z = true) : fineD (.list (zs.map .str)) := ⟨canLay_strs h, by show PyData.depthAll (zs.map PyData.str) + 1 ≤ 10; rw [depth_strs]; decide⟩
theorem fine_list_ints (zs : List Int) : fineD (.list (zs.map .int)) := ⟨canLay_ints zs, by show PyData.depthAll (zs.map PyData.int) + 1 ≤ 10; rw [depth_ints]; decide⟩
theorem fine_list_bools (zs : List Bool) : fineD (.list (zs.map .bool)) := ⟨canLay_bools zs, by show PyData.depthAll (zs.map PyData.bool) + 1 ≤ 10; rw [depth_bools]; decide⟩
theorem fine_str {z : Str} (h : PyData.strOk z = true) : fineD (.str z) := ⟨h, Nat.zero_le _⟩
theorem fine_int (z : Int) : fineD (.int z) := ⟨rfl, Nat.zero_le _⟩
theorem fine_none : fineD .none := ⟨rfl, Nat.zero_le _⟩
theorem fine_last (ks : List Int) : fineD (lastD ks) := by
  unfold lastD; cases ks.getLast? <;> exact ⟨rfl, Nat.zero_le _⟩
theorem fine_nil {d : PyData} (h : d ∈ ([] : List PyData)) : fineD d := nomatch h
theorem fine_cons {d : PyData} {ds : List PyData} (h : fineD d) (h2 : ∀ x ∈ ds, fineD x) : ∀ x ∈ d :: ds, fineD x := fun x hx => by
  rcases List.mem_cons.mp hx with rfl | hx
  · exact h
  · exact h2 x hx
end NL
/-! ### the data layer: defs read as plain functions over data, no heap in sight -/
namespace NL
open PySem L2
inductive D where
  | non
  | bl (b : Bool)
  | int (i : Int)
  | str (z : Str)
  | lst (ds : List D)
  | tup (ds : List D)
  | dct (kvs : List (Key × D))
  | dcT (kvs : List (List Key × D))
  | loop (rs : List Rule) (ans : List (Str × Str))
  | run (r : RS) (an : Str)
  | src
  | set (ns : List Int)
  | cls
  | obj (c : Str) (fs : List (Str × D))
  | loc (a : Addr)
/-- cells that are changed by whoever knows their place -/
inductive MC where
  | lst (ds : List D)
  | dK (es : List (Key × D))
  | dT (es : List (List Key × D))
  | obj (c : Str) (dx : Addr) (fs : List (Str × D))
  | tab (q : Str)
  | dX (es : List (D × D))
/-- the source's state, and what is known of the cells that are changed -/
structure SrcT where
  g : Int
  s : Int
  c : Int
  m : Addr → Option MC := fun _ => none
/-- the source's place; what a def began with -/
structure Fr where
  p : Option Addr
  B0 : Hp
  H0 : Hp
  v : Bool := false
  M0 : Addr → Option MC := fun _ => none
/-- what is written: the classes' places -/
structure Gm where
  K : PySem.W.Frag
  cl : Addr
  cr : Addr
  ec : Nat → Addr
  ef : Nat → Str
  w : World
  oc : Str → Addr
  v : Bool := false
  fx : Option Fr := none
def SrcAt (H : Hp) (q : Addr) (S : SrcT) : Prop := H q = some (.lst [.int S.g, .int S.s, .int S.c]) ∧ 0 ≤ S.s ∧ S.s < 2147483647 ∧ 0 ≤ S.c
mutual
inductive DV (G : Gm) (p : Option Addr) (B : Hp) : V → D → Prop
  | non : DV G p B .non .non
  | bl (b : Bool) : DV G p B (.bl b) (.bl b)
  | int (i : Int) : DV G p B (.int i) (.int i)
  | str (z : Str) : DV G p B (.str z) (.str z)
  | lst {a : Addr} {xs : List V} {ds : List D} : B a = some (.lst xs) → DVs G p B xs ds → DV G p B (.ref a) (.lst ds)
  | tup {a : Addr} {xs : List V} {ds : List D} : SqT G.K B a xs → DVs G p B xs ds → DV G p B (.ref a) (.tup ds)
  | dct {a : Addr} {kvs : List (Key × V)} {es : List (Key × D)} : B a = some (.dK kvs) → kvs.map Prod.fst = es.map Prod.fst → DVs G p B (kvs.map Prod.snd) (es.map Prod.snd) → DV G p B (.ref a) (.dct es)
  | dcT {a : Addr} {kvs : List (List Key × V)} {es : List (List Key × D)} : B a = some (.dT kvs) → kvs.map Prod.fst = es.map Prod.fst → DVs G p B (kvs.map Prod.snd) (es.map Prod.snd) → DV G p B (.ref a) (.dcT es)
  | loop {a : Addr} {rs : List Rule} {ans : List (Str × Str)} : LoopAt G.K G.cl B a rs ans → DV G p B (.ref a) (.loop rs ans)
  | run {a : Addr} {r : RS} {an : Str} : RunAt G.K G.cr B a r an → DV G p B (.ref a) (.run r an)
  | src {q : Addr} : p = some q → DV G p B (.ref q) .src
  | set {a : Addr} {M : Int → Bool} {ns : List Int} : B a = some (SetO G.w a M ns.length) → (∀ k, M k = true ↔ k ∈ ns) → ns.Nodup → DV G p B (.ref a) (.set ns)
  | cls : DV G p B (.ref G.cl) .cls
  | obj {a dx : Addr} {c : Str} {kvs : List (Str × V)} {fs : List (Str × D)} : B a = some (.ins (G.oc c) dx kvs) → kvs.map Prod.fst = fs.map Prod.fst → DVs G p B (kvs.map Prod.snd) (fs.map Prod.snd) → DV G p B (.ref a) (.obj c fs)
  | loc (a : Addr) : DV G p B (.ref a) (.loc a)
inductive DVs (G : Gm) (p : Option Addr) (B : Hp) : List V → List D → Prop
  | nil : DVs G p B [] []
  | cons {v : V} {vs : List V} {d : D} {ds : List D} : DV G p B v d → DVs G p B vs ds → DVs G p B (v :: vs) (d :: ds)
end
section
variable {G : Gm} {p : Option Addr} {B B' : Hp}
mutual
theorem DV.same (s : Same B B') : ∀ {v : V} {d : D}, DV G p B v d → DV G p B' v d
  | _, _, .non => .non
  | _, _, .bl b => .bl b
  | _, _, .int i => .int i
  | _, _, .str z => .str z
  | _, _, .lst h hs => .lst (s _ _ h) (DVs.same s hs)
  | _, _, .tup h hs => .tup (SqT_same s h) (DVs.same s hs)
  | _, _, .dct h e hs => .dct (s _ _ h) e (DVs.same s hs)
  | _, _, .dcT h e hs => .dcT (s _ _ h) e (DVs.same s hs)
  | _, _, .loop h => .loop (h.same s)
  | _, _, .run h => .run (h.same s)
  | _, _, .src h => .src h
  | _, _, .set h h2 h3 => .set (s _ _ h) h2 h3
  | _, _, .cls => .cls
  | _, _, .obj h e hs => .obj (s _ _ h) e (DVs.same s hs)
  | _, _, .loc a => .loc a
theorem DVs.same (s : Same B B') : ∀ {vs : List V} {ds : List D}, DVs G p B vs ds → DVs G p B' vs ds
  | _, _, .nil => .nil
  | _, _, .cons h hs => .cons (DV.same s h) (DVs.same s hs)
end
theorem DVs.len {vs : List V} {ds : List D} (h : DVs G p B vs ds) : vs.length = ds.length := by
  induction ds generalizing vs with
  | nil => cases h; rfl
  | cons d ds ih => cases h with | cons h hs => simp [ih hs]
theorem DVs.get {i : Nat} {d : D} : ∀ {vs : List V} {ds : List D}, DVs G p B vs ds → ds[i]? = some d → ∃ v, vs[i]? = some v ∧ DV G p B v d := by
  induction i with
  | zero => intro vs ds h e; cases h with | nil => simp at e | cons h hs => simp at e; subst e; exact ⟨_, rfl, h⟩
  | succ i ih => intro vs ds h e; cases h with | nil => simp at e | cons h hs => simpa using ih hs (by simpa using e)
theorem DVs.getV {i : Nat} {v : V} : ∀ {vs : List V} {ds : List D}, DVs G p B vs ds → vs[i]? = some v → ∃ d, ds[i]? = some d ∧ DV G p B v d := by
  induction i with
  | zero => intro vs ds h e; cases h with | nil => simp at e | cons h hs => simp at e; subst e; exact ⟨_, rfl, h⟩
  | succ i ih => intro vs ds h e; cases h with | nil => simp at e | cons h hs => simpa using ih hs (by simpa using e)
theorem DVs.append {vs us : List V} {ds es : List D} (h : DVs G p B vs ds) (h2 : DVs G p B us es) : DVs G p B (vs ++ us) (ds ++ es) := by
  induction ds generalizing vs with
  | nil => cases h; exact h2
  | cons d ds ih => cases h with | cons h hs => exact .cons h (ih hs)
theorem DVs.drop {vs : List V} {ds : List D} (n : Nat) (h : DVs G p B vs ds) : DVs G p B (vs.drop n) (ds.drop n) := by
  induction n generalizing vs ds with
  | zero => exact h
  | succ n ih => cases h with | nil => exact .nil | cons h hs => exact ih hs
theorem DVs.take {vs : List V} {ds : List D} (n : Nat) (h : DVs G p B vs ds) : DVs G p B (vs.take n) (ds.take n) := by
  induction n generalizing vs ds with
  | zero => exact .nil
  | succ n ih => cases h with | nil => exact .nil | cons h hs => exact .cons h (ih hs)
end
/-! ### where one stands -/
/-- what is changed in place -/
def mutO : HO → Prop
  | .lst _ => True
  | .dK _ => True
  | .dT _ => True
  | .set _ _ => True
  | .ext _ => True
  | .ins _ _ _ => True
  | .tbl _ => True
  | _ => False
/-- kinds of things that cells are -/
def mutM : HO → Bool
  | .lst _ => true
  | .dK _ => true
  | .dT _ => true
  | .ins _ _ _ => true
  | .tbl _ => true
  | .ext _ => true
  | _ => false
abbrev Env := List (Option D)
/-- an owned thing's content -/
def DO (G : Gm) (p : Option Addr) (B : Hp) (o : HO) (d : D) : Prop := match o, d with
  | .lst vs, .lst ds => DVs G p B vs ds
  | .dK kvs, .dct es => kvs.map Prod.fst = es.map Prod.fst ∧ DVs G p B (kvs.map Prod.snd) (es.map Prod.snd)
  | .dT kvs, .dcT es => kvs.map Prod.fst = es.map Prod.fst ∧ DVs G p B (kvs.map Prod.snd) (es.map Prod.snd)
  | _, _ => False
theorem DO.same {G : Gm} {p : Option Addr} {B B' : Hp} {o : HO} {d : D} (s : Same B B') (h : DO G p B o d) : DO G p B' o d := by
  unfold DO at h ⊢
  split at h
  · exact DVs.same s h
  · exact ⟨h.1, DVs.same s h.2⟩
  · exact ⟨h.1, DVs.same s h.2⟩
  · exact h.elim
theorem DO.dv {G : Gm} {p : Option Addr} {B : Hp} {o : HO} {d : D} {a : Addr} (h : DO G p B o d) (e : B a = some o) : DV G p B (.ref a) d := by
  unfold DO at h
  split at h
  · exact .lst e h
  · exact .dct e h.1 h.2
  · exact .dcT e h.1 h.2
  · exact h.elim
theorem DO.mut {G : Gm} {p : Option Addr} {B : Hp} {o : HO} {d : D} (h : DO G p B o d) : mutO o := by
  unfold DO at h
  split at h
  · exact True.intro
  · exact True.intro
  · exact True.intro
  · exact h.elim
/-! data as keys -/
def keyB : D → Option NestedKey
  | .non => some .none
  | .bl b => some (.num (if b = true then 1 else 0))
  | .int i => some (.num i)
  | .str z => some (.text z)
  | _ => none
def tupsD : D → Option (List D)
  | .tup ds => some ds
  | _ => none
def keyM (f : D → Option NestedKey) : List D → Option (List NestedKey)
  | [] => some []
  | d :: ds => (f d).bind fun k => (keyM f ds).bind fun ks => some (k :: ks)
def keyL : Nat → D → Option NestedKey
  | 0, d => keyB d
  | n + 1, d => if (tupsD d).isSome = true then ((tupsD d).bind fun ds => keyM (keyL n) ds).map .tup else keyB d
def keyN (d : D) : Option NestedKey := keyL 6 d
theorem keyB_at {G : Gm} {p : Option Addr} {B : Hp} {v : V} {d : D} {k : NestedKey} (h : DV G p B v d) (e : keyB d = some k) : KyAt G.K B v k ∧ k.depth = 0 := by
  cases h with
  | non => cases e; exact ⟨.non, rfl⟩
  | bl b => cases e; exact ⟨.bl b, rfl⟩
  | int i => cases e; exact ⟨.int i, rfl⟩
  | str z => cases e; exact ⟨.str z, rfl⟩
  | _ => cases e
theorem keyM_at {G : Gm} {p : Option Addr} {B : Hp} {f : D → Option NestedKey} {n : Nat} (hf : ∀ v d k, DV G p B v d → f d = some k → KyAt G.K B v k ∧ k.depth ≤ n) : ∀ {vs : List V} {ds : List D} {ks : List NestedKey}, DVs G p B vs ds → keyM f ds = some ks → KysAt G.K B vs ks ∧ NestedKey.depthAll ks ≤ n
  | _, _, _, .nil, e => by cases e; exact ⟨.nil, Nat.zero_le _⟩
  | _, _, _, .cons h hs, e => by
    unfold keyM at e
    obtain ⟨k, h1, e⟩ := Option.bind_eq_some_iff.mp e
    obtain ⟨ks, h2, e⟩ := Option.bind_eq_some_iff.mp e
    cases e
    obtain ⟨q1, q2⟩ := hf _ _ _ h h1
    obtain ⟨q3, q4⟩ := keyM_at hf hs h2
    refine ⟨.cons q1 q3, ?_⟩
    rw [NestedKey.depthAll]; omega
theorem keyL_at {G : Gm} {p : Option Addr} {B : Hp} : ∀ (n : Nat) {v : V} {d : D} {k : NestedKey}, DV G p B v d → keyL n d = some k → KyAt G.K B v k ∧ k.depth ≤ n
  | 0, v, d, k, h, e => by
    unfold keyL at e
    obtain ⟨q1, q2⟩ := keyB_at h e
    exact ⟨q1, by omega⟩
  | n + 1, v, d, k, h, e => by
    unfold keyL at e
    split at e
    · obtain ⟨ks, e, e2⟩ := Option.map_eq_some_iff.mp e
      obtain ⟨ds, h1, h2⟩ := Option.bind_eq_some_iff.mp e
      subst e2
      cases h with
      | tup ha hs =>
        cases h1
        obtain ⟨q1, q2⟩ := keyM_at (fun v d k h e => keyL_at n h e) hs h2
        refine ⟨.tup ha q1, ?_⟩
        rw [NestedKey.depth]; omega
      | _ => cases h1
    · obtain ⟨q1, q2⟩ := keyB_at h e
      exact ⟨q1, by omega⟩
theorem keyN_at {G : Gm} {p : Option Addr} {B : Hp} {v : V} {d : D} {k : NestedKey} (h : DV G p B v d) (e : keyN d = some k) : KyAt G.K B v k := (keyL_at 6 h e).1
theorem keyN_8 {G : Gm} {p : Option Addr} {B : Hp} {v : V} {d : D} {k : NestedKey} (h : DV G p B v d) (e : keyN d = some k) : k.depth ≤ 8 := by have := (keyL_at 6 h e).2; omega
/-- entries as data -/
abbrev ERel (G : Gm) (p : Option Addr) (B : Hp) : List XE → List (D × D) → Prop := Paired fun (x : XE) (e : D × D) => keyN e.1 = some x.1 ∧ DV G p B x.2.1 e.1 ∧ DV G p B x.2.2 e.2
theorem ERel.same {G : Gm} {p : Option Addr} {B B' : Hp} (s : Same B B') {xs : List XE} {es : List (D × D)} (h : ERel G p B xs es) : ERel G p B' xs es := Paired.mapP h fun _ _ q => ⟨q.1, q.2.1.same s, q.2.2.same s⟩
theorem ERel.keys {G : Gm} {p : Option Addr} {B : Hp} : ∀ {xs : List XE} {es : List (D × D)}, ERel G p B xs es → KeysX G.K B xs
  | _, _, .nil => fun _ h => nomatch h
  | _, _, .cons r t => fun z hz => by
    rcases List.mem_cons.mp hz with e | q
    · rw [e]; exact keyN_at r.2.1 r.1
    · exact ERel.keys t z q
/-- what stands in a cell -/
def MemAt (G : Gm) (p : Option Addr) (B H : Hp) (a : Addr) : MC → Prop
  | .lst ds => ∃ vs, H a = some (.lst vs) ∧ DVs G p B vs ds
  | .dK es => ∃ kvs, H a = some (.dK kvs) ∧ kvs.map Prod.fst = es.map Prod.fst ∧ DVs G p B (kvs.map Prod.snd) (es.map Prod.snd)
  | .dT es => ∃ kvs, H a = some (.dT kvs) ∧ kvs.map Prod.fst = es.map Prod.fst ∧ DVs G p B (kvs.map Prod.snd) (es.map Prod.snd)
  | .obj c dx fs => ∃ kvs, H a = some (.ins (G.oc c) dx kvs) ∧ kvs.map Prod.fst = fs.map Prod.fst ∧ DVs G p B (kvs.map Prod.snd) (fs.map Prod.snd)
  | .dX es => ∃ ep xs, H a = some (GX G.w a ep xs) ∧ ERel G p B xs es
  | .tab q => ∃ ps : Array PySem.Value, H a = some (.tbl ps) ∧ PySem.TriplesOk ps.toList ∧ ∀ (pos : PySem.Pos) (cv : PySem.Value), PySem.codeAmong pos ps.toList = some cv → ∃ c, cv = .ref c ∧ B c = some (LamX.CodeO c q)
theorem MemAt.move {G : Gm} {p : Option Addr} {B H B' H' : Hp} {a : Addr} {c : MC} (s : Same B B') (e : ∀ o, H a = some o → H' a = some o) (h : MemAt G p B H a c) : MemAt G p B' H' a c := by
  cases c with
  | lst ds => obtain ⟨vs, h1, h2⟩ := h; exact ⟨vs, e _ h1, DVs.same s h2⟩
  | dK es => obtain ⟨vs, h1, h2, h3⟩ := h; exact ⟨vs, e _ h1, h2, DVs.same s h3⟩
  | dT es => obtain ⟨vs, h1, h2, h3⟩ := h; exact ⟨vs, e _ h1, h2, DVs.same s h3⟩
  | obj c dx fs => obtain ⟨vs, h1, h2, h3⟩ := h; exact ⟨vs, e _ h1, h2, DVs.same s h3⟩
  | dX es => obtain ⟨ep, xs, h1, h2⟩ := h; exact ⟨ep, xs, e _ h1, h2.same s⟩
  | tab q => obtain ⟨ps, h1, h2, h3⟩ := h; exact ⟨ps, e _ h1, h2, fun pos cv hc => let ⟨c, e1, e2⟩ := h3 pos cv hc; ⟨c, e1, s _ _ e2⟩⟩
theorem MemAt.some {G : Gm} {p : Option Addr} {B H : Hp} {a : Addr} {c : MC} (h : MemAt G p B H a c) : ∃ o, H a = some o ∧ mutM o = true := by
  cases c with
  | lst ds => obtain ⟨vs, h1, _⟩ := h; exact ⟨_, h1, rfl⟩
  | dK es => obtain ⟨vs, h1, _⟩ := h; exact ⟨_, h1, rfl⟩
  | dT es => obtain ⟨vs, h1, _⟩ := h; exact ⟨_, h1, rfl⟩
  | obj c dx fs => obtain ⟨vs, h1, _⟩ := h; exact ⟨_, h1, rfl⟩
  | dX es => obtain ⟨ep, xs, h1, _⟩ := h; exact ⟨_, h1, rfl⟩
  | tab q => obtain ⟨vs, h1, _⟩ := h; exact ⟨_, h1, rfl⟩
/-- the cells: they stand apart from all that is shared -/
def MemOk (G : Gm) (φ : Fr) (B H : Hp) (S : SrcT) : Prop := G.v = true → ∀ a c, S.m a = some c → MemAt G φ.p B H a c ∧ B a = none ∧ φ.p ≠ some a ∧ (φ.M0 a ≠ none ∨ φ.H0 a = none)
structure Rep (G : Gm) (φ : Fr) (O : List Nat) (σ : L2.St) (B H : Hp) (ρ : Env) (S : SrcT) : Prop where
  sub : Same B H
  fr : ∀ a o, φ.p ≠ some a → φ.M0 a = none → φ.H0 a = some o → H a = some o
  cl : ∀ a o, B a = some o → mutO o → φ.B0 a = some o ∨ φ.H0 a = none
  src : ∀ q, φ.p = some q → B q = none ∧ SrcAt H q S
  b0 : Same φ.B0 B
  len : σ.length = ρ.length
  val : ∀ i d, i ∉ O → ρ[i]? = some (some d) → ∃ v, σ[i]? = some (some v) ∧ DV G φ.p B v d
  own : ∀ i, i ∈ O → ∃ a o d, ρ[i]? = some (some d) ∧ σ[i]? = some (some (.ref a)) ∧ H a = some o ∧ B a = none ∧ φ.H0 a = none ∧ φ.p ≠ some a ∧ DO G φ.p B o d
  dis : ∀ i j, i ∈ O → j ∈ O → i ≠ j → σ[i]? ≠ σ[j]?
  al : ∀ a, H a = none → φ.H0 a = none
  mem : MemOk G φ B H S
  vv : φ.v = G.v ∧ (G.v = false → ∀ f, G.fx = some f → φ = f)
  nov : ∀ i, i ∈ O → G.v = false
def hideP (p : Option Addr) (H : Hp) : Hp := fun c => if p = some c then none else H c
theorem hideP_same {p : Option Addr} {H : Hp} : Same (hideP p H) H := fun c x h => by
  unfold hideP at h; split at h
  · cases h
  · exact h
theorem hideP_at {p : Option Addr} {H : Hp} {a : Addr} (h : p ≠ some a) : hideP p H a = H a := if_neg h
/-- from one place of a def to a later one -/
structure Go (φ : Fr) (B H B' H' : Hp) : Prop where
  b : Same B B'
  h : φ.v = false → Same (hideP φ.p H) (hideP φ.p H')
  n : ∀ a o, B' a = some o → mutO o → B a = some o ∨ H a = none
  d : ∀ a, H' a = none → H a = none
theorem Go.refl {φ : Fr} {B H : Hp} : Go φ B H B H := ⟨Same.refl _, fun _ => Same.refl _, fun _ _ h _ => .inl h, fun _ h => h⟩
theorem Go.trans {φ : Fr} {B H B1 H1 B2 H2 : Hp} (x : Go φ B H B1 H1) (y : Go φ B1 H1 B2 H2) : Go φ B H B2 H2 := by
  refine ⟨x.b.trans y.b, fun v => (x.h v).trans (y.h v), fun a o h hm => ?_, fun a h => x.d a (y.d a h)⟩
  rcases y.n a o h hm with k | k
  · exact x.n a o k hm
  · exact .inr (x.d a k)
/-- the heap that a value's data is told over: true: as it is now, the owned ones among it -/
def bs (m : Bool) (φ : Fr) (B H : Hp) : Hp := if (m && !φ.v) = true then hideP φ.p H else B
theorem Go.bs {φ : Fr} {B H B' H' : Hp} (m : Bool) (g : Go φ B H B' H') : Same (bs m φ B H) (NL.bs m φ B' H') := by
  unfold NL.bs; split
  · rename_i hm
    simp only [Bool.and_eq_true, Bool.not_eq_true'] at hm
    exact g.h hm.2
  · exact g.b
section
variable {G : Gm} {φ : Fr} {O : List Nat} {σ : L2.St} {B H : Hp} {ρ : Env} {S : SrcT}
theorem Rep.bh (R : Rep G φ O σ B H ρ S) : Same B (hideP φ.p H) := fun c x h => by
  by_cases e : φ.p = some c
  · rw [(R.src c e).1] at h; cases h
  · rw [hideP_at e]; exact R.sub c x h
theorem Rep.bsH (R : Rep G φ O σ B H ρ S) (m : Bool) : Same (bs m φ B H) H := by
  unfold bs; split
  · exact hideP_same
  · exact R.sub
theorem Rep.bbs (R : Rep G φ O σ B H ρ S) (m : Bool) : Same B (bs m φ B H) := by
  unfold bs; split
  · exact R.bh
  · exact Same.refl _
theorem Rep.bs_p (R : Rep G φ O σ B H ρ S) (m : Bool) {q : Addr} (e : φ.p = some q) : bs m φ B H q = none := by
  unfold bs; split
  · unfold hideP; rw [if_pos e]
  · exact (R.src q e).1
/-- a new object, put among what is shared -/
theorem Rep.new (R : Rep G φ O σ B H ρ S) {a : Addr} {o : HO} (n : H a = none) : Rep G φ O σ (upd B a o) (upd H a o) ρ S ∧ Go φ B H (upd B a o) (upd H a o) ∧ φ.p ≠ some a := by
  have np : φ.p ≠ some a := fun e => by have := (R.src a e).2.1; rw [n] at this; cases this
  have nB : B a = none := by
    cases h : B a with
    | none => rfl
    | some x => rw [R.sub _ _ h] at n; cases n
  have n0 : φ.H0 a = none := R.al a n
  refine ⟨⟨?_, ?_, ?_, ?_, ?_, R.len, ?_, ?_, R.dis, fun c h => R.al c (upd_no h), ?_, R.vv, R.nov⟩, ⟨same_new nB, fun _ => ?_, fun c x h hm => ?_, fun c h => upd_no h⟩, np⟩
  · intro c x h
    by_cases e : c = a
    · subst e; rw [upd_same] at h ⊢; exact h
    · rw [upd_ne e] at h ⊢; exact R.sub _ _ h
  · exact fun c x hp hm h => upd_keep (R.fr c x hp hm h) n
  · intro c x h hm
    by_cases e : c = a
    · subst e; exact .inr n0
    · rw [upd_ne e] at h; exact R.cl _ _ h hm
  · intro q hq
    have e : q ≠ a := fun e => np (e ▸ hq)
    obtain ⟨h1, h2, h3⟩ := R.src q hq
    exact ⟨by rw [upd_ne e]; exact h1, by rw [upd_ne e]; exact h2, h3⟩
  · exact R.b0.trans (same_new nB)
  · intro i d hi h
    obtain ⟨v, h1, h2⟩ := R.val i d hi h
    exact ⟨v, h1, h2.same (same_new nB)⟩
  · intro i hi
    obtain ⟨b, o', d, h1, h2, h3, h4, h5, h6, h7⟩ := R.own i hi
    have e : b ≠ a := fun e => by rw [e, n] at h3; cases h3
    exact ⟨b, o', d, h1, h2, by rw [upd_ne e]; exact h3, by rw [upd_ne e]; exact h4, h5, h6, h7.same (same_new nB)⟩
  · intro hv b c hc
    obtain ⟨h1, h2, h3, h4⟩ := R.mem hv b c hc
    obtain ⟨x, hx, _⟩ := h1.some
    have e : b ≠ a := fun e => by rw [e, n] at hx; cases hx
    exact ⟨h1.move (same_new nB) fun o h => upd_keep h n, by rw [upd_ne e]; exact h2, h3, h4⟩
  · intro c x h
    by_cases e : c = a
    · subst e
      rw [hideP_at np, n] at h; cases h
    · unfold hideP at h ⊢
      rw [upd_ne e]; exact h
  · by_cases e : c = a
    · subst e; exact .inr n
    · rw [upd_ne e] at h; exact .inl h
theorem bs_new (m : Bool) {a : Addr} {o : HO} (np : φ.p ≠ some a) : bs m φ (upd B a o) (upd H a o) a = some o := by
  unfold bs; split
  · rw [hideP_at np]; exact upd_same
  · exact upd_same
/-- a new object that nothing shares -/
theorem Rep.newN (R : Rep G φ O σ B H ρ S) {a : Addr} {o : HO} (n : H a = none) : Rep G φ O σ B (upd H a o) ρ S ∧ Go φ B H B (upd H a o) ∧ B a = none ∧ φ.H0 a = none ∧ φ.p ≠ some a := by
  obtain ⟨r, g, np⟩ := R.new (o := o) n
  have nB : B a = none := by
    cases h : B a with
    | none => rfl
    | some x => rw [R.sub _ _ h] at n; cases n
  have n0 : φ.H0 a = none := R.al a n
  refine ⟨⟨?_, r.fr, R.cl, fun q hq => ⟨(R.src q hq).1, (r.src q hq).2⟩, R.b0, R.len, R.val, ?_, R.dis, r.al, ?_, R.vv, R.nov⟩, ⟨Same.refl _, g.h, fun _ _ h _ => .inl h, g.d⟩, nB, n0, np⟩
  · exact fun c x h => upd_keep (R.sub _ _ h) n
  · intro i hi
    obtain ⟨b, o', d, h1, h2, h3, h4, h5, h6, h7⟩ := R.own i hi
    exact ⟨b, o', d, h1, h2, upd_keep h3 n, h4, h5, h6, h7⟩
  · intro hv b c hc
    obtain ⟨h1, h2, h3, h4⟩ := R.mem hv b c hc
    exact ⟨h1.move (Same.refl _) fun o h => upd_keep h n, h2, h3, h4⟩
end
/-! ### results -/
inductive Rs (α : Type) where
  | bad
  | exc (c : Nat) (d : Option D) (S : SrcT)
  | ok (a : α) (S : SrcT)
  | all (p : Addr → Prop) (k : Addr → Rs α)
noncomputable def Rs.bind {α β : Type} (r : Rs α) (k : α → SrcT → Rs β) : Rs β := Rs.rec (motive := fun _ => Rs β) .bad (fun c d S => .exc c d S) (fun a S => k a S) (fun p _ ih => .all p ih) r
/-- an exception's class and dict -/
def ExnAt (G : Gm) (p : Option Addr) (B H : Hp) (c : Nat) (d : Option D) (cv : Value) (od : Option Addr) : Prop := cv = .ref (G.ec c) ∧ match d with
  | none => od = none
  | some d => ∃ dx v, od = some dx ∧ H dx = some (.xd [(G.ef c, v)]) ∧ DV G p B v d
def XP (G : Gm) (φ : Fr) (E : XK) (B H : Hp) (c : Nat) (d : Option D) (S : SrcT) : Prop := ∀ B' H' cv od, Go φ B H B' H' → Rep G φ [] [] B' H' [] S → ExnAt G φ.p B' H' c d cv od → E cv od H'
theorem XP.go {G : Gm} {φ : Fr} {E : XK} {B H B1 H1 : Hp} {c : Nat} {d : Option D} {S : SrcT} (g : Go φ B H B1 H1) (h : XP G φ E B H c d S) : XP G φ E B1 H1 c d S := fun B' H' cv od g' => h B' H' cv od (g.trans g')
section
variable {ω α β : Type}
abbrev Rel (ω α : Type) := Option Addr → Hp → ω → α → Prop
def Pg (G : Gm) (φ : Fr) (m : Bool) (O : List Nat) (E : XK) (σ : L2.St) (ρ : Env) (rel : Rel ω α) (B H : Hp) (r : Rs α) (Q : ω → Hp → Prop) : Prop := match r with
  | .bad => False
  | .exc c d S => XP G φ E B H c d S
  | .ok a S => ∀ w B' H', Go φ B H B' H' → Rep G φ O σ B' H' ρ S → rel φ.p (bs m φ B' H') w a → Q w H'
  | .all p k => ∀ x, p x → Pg G φ m O E σ ρ rel B H (k x) Q
def tG (G : Gm) (m : Bool) (O : List Nat) (E : XK) (rel : Rel ω α) (F : Env → SrcT → Rs α) : L2.St → Hp → (ω → Hp → Prop) → Prop := fun σ H Q => ∃ φ B ρ S, Rep G φ O σ B H ρ S ∧ Pg G φ m O E σ ρ rel B H (F ρ S) Q
variable {G : Gm} {φ : Fr} {m m' : Bool} {O : List Nat} {E : XK} {σ : L2.St} {ρ : Env} {rel : Rel ω α} {B H B1 H1 : Hp}
theorem Pg.go {r : Rs α} {Q : ω → Hp → Prop} (g : Go φ B H B1 H1) (h : Pg G φ m O E σ ρ rel B H r Q) : Pg G φ m O E σ ρ rel B1 H1 r Q := by
  induction r with
  | bad => exact h
  | exc c d S => exact XP.go g h
  | ok a S => exact fun w B' H' g' => h w B' H' (g.trans g')
  | all p k ih => exact fun x px => ih x (h x px)
theorem Pg.bind {ω' : Type} {rel' : Rel ω' β} {r : Rs β} {k : β → SrcT → Rs α} {Q : ω → Hp → Prop} {Q' : ω' → Hp → Prop} (h : Pg G φ m O E σ ρ rel B H (r.bind k) Q)
    (hk : ∀ d S w B1 H1, Go φ B H B1 H1 → Rep G φ O σ B1 H1 ρ S → rel' φ.p (bs m' φ B1 H1) w d → Pg G φ m O E σ ρ rel B1 H1 (k d S) Q → Q' w H1) : Pg G φ m' O E σ ρ rel' B H r Q' := by
  induction r with
  | bad => exact h
  | exc c d S => exact h
  | ok a S => exact fun w B' H' g R hw => hk a S w B' H' g R hw (Pg.go g h)
  | all p f ih => exact fun x px => ih x (h x px)
/-- a weaker wish -/
theorem Pg.imp {ω' : Type} {rel' : Rel ω' α} {r : Rs α} {Q : ω → Hp → Prop} {Q' : ω' → Hp → Prop} (h : Pg G φ m O E σ ρ rel B H r Q)
    (hk : ∀ d S w B1 H1, Go φ B H B1 H1 → Rep G φ O σ B1 H1 ρ S → rel' φ.p (bs m' φ B1 H1) w d → (∀ w' B' H', Go φ B H B' H' → Rep G φ O σ B' H' ρ S → rel φ.p (bs m φ B' H') w' d → Q w' H') → Q' w H1) : Pg G φ m' O E σ ρ rel' B H r Q' := by
  induction r with
  | bad => exact h
  | exc c d S => exact h
  | ok a S => exact fun w B' H' g R hw => hk a S w B' H' g R hw h
  | all p f ih => exact fun x px => ih x (h x px)
theorem Pg.ok {a : α} {S : SrcT} {Q : ω → Hp → Prop} {w : ω} (h : Pg G φ m O E σ ρ rel B H (.ok a S) Q) (R : Rep G φ O σ B H ρ S) (hw : rel φ.p (bs m φ B H) w a) : Q w H := h w B H Go.refl R hw
theorem Rep.ownv {S : SrcT} {i : Nat} (R : Rep G φ O σ B H ρ S) (hi : i ∈ O) : φ.v = false := R.vv.1.trans (R.nov i hi)
theorem bs_true (hv : φ.v = false) : bs true φ B H = hideP φ.p H := by unfold bs; rw [hv]; rfl
/-- what a plain function gives -/
def Rs.sat {α : Type} (r : Rs α) (P : α → SrcT → Prop) : Prop := match r with
  | .ok a S => P a S
  | .all p k => ∀ x, p x → (k x).sat P
  | _ => False
/-- all ends are so -/
def Rs.each {α : Type} (r : Rs α) (P : α → Prop) : Prop := match r with
  | .bad => True
  | .exc _ _ _ => True
  | .ok a _ => P a
  | .all _ k => ∀ x, (k x).each P
theorem Rs.each.bind {α β : Type} {P : β → Prop} {r : Rs α} {k : α → SrcT → Rs β} {P0 : α → Prop} (h : r.each P0) (hk : ∀ a S, P0 a → (k a S).each P) : (r.bind k).each P := by
  induction r with
  | bad => exact True.intro
  | exc c d S => exact True.intro
  | ok a S => exact hk a S h
  | all p f ih => exact fun x => ih x (h x)
theorem Rs.each.triv {α : Type} (r : Rs α) : r.each fun _ => True := by
  induction r with
  | bad => exact True.intro
  | exc c d S => exact True.intro
  | ok a S => exact True.intro
  | all p f ih => exact fun x => ih x
theorem Pg.bindE {ω' : Type} {rel' : Rel ω' β} {r : Rs β} {k : β → SrcT → Rs α} {Q : ω → Hp → Prop} {Q' : ω' → Hp → Prop} {P0 : β → Prop} (he : r.each P0) (h : Pg G φ m O E σ ρ rel B H (r.bind k) Q)
    (hk : ∀ d S w B1 H1, P0 d → Go φ B H B1 H1 → Rep G φ O σ B1 H1 ρ S → rel' φ.p (bs m' φ B1 H1) w d → Pg G φ m O E σ ρ rel B1 H1 (k d S) Q → Q' w H1) : Pg G φ m' O E σ ρ rel' B H r Q' := by
  induction r with
  | bad => exact h
  | exc c d S => exact h
  | ok a S => exact fun w B' H' g R hw => hk a S w B' H' he g R hw (Pg.go g h)
  | all p f ih => exact fun x px => ih x (he x) (h x px)
end
abbrev Ex := Env → SrcT → Rs D
abbrev Exs := Env → SrcT → Rs (List D)
abbrev Tst := Env → SrcT → Rs Bool
abbrev tD (G : Gm) (m : Bool) (O : List Nat) (E : XK) (F : Ex) : TE := tG G m O E (DV G) F
abbrev tDs (G : Gm) (m : Bool) (O : List Nat) (E : XK) (F : Exs) : TA := tG G m O E (DVs G) F
abbrev tBt (G : Gm) (O : List Nat) (E : XK) (F : Tst) : TT := tG G true O E (fun _ _ b a => b = a) F
theorem _root_.L2.PE.mono {X : Cx} {e : Expr} {t t' : TE} (h : PE X e t) (s : ∀ σ H Q, t' σ H Q → t σ H Q) : PE X e t' := ⟨fun pins s0 σ H Q I hw => h.run pins s0 σ H Q I (s σ H Q hw)⟩
theorem _root_.L2.PT.mono {X : Cx} {e : Expr} {t t' : TT} (h : PT X e t) (s : ∀ σ H Q, t' σ H Q → t σ H Q) : PT X e t' := ⟨fun pins s0 σ H Q I hw => h.run pins s0 σ H Q I (s σ H Q hw)⟩
theorem _root_.L2.PW.mono {X : Cx} {e : Expr} {t t' : TT} (h : PW X e t) (s : ∀ σ H Q, t' σ H Q → t σ H Q) : PW X e t' := ⟨fun wh pins s0 σ H Q I hw => h.run wh pins s0 σ H Q I (s σ H Q hw)⟩
theorem _root_.L2.PA.mono {X : Cx} {es : List Expr} {t t' : TA} (h : PA X es t) (s : ∀ σ H Q, t' σ H Q → t σ H Q) : PA X es t' := ⟨fun pos pins s0 σ H Q I hw => h.run pos pins s0 σ H Q I (s σ H Q hw)⟩
theorem _root_.L2.PS.mono {X : Cx} {st : Stmt} {t t' : TS} (h : PS X st t) (s : ∀ E σ H, t' E σ H → t E σ H) : PS X st t' := ⟨fun pins s0 σ H D I hw => h.run pins s0 σ H D I (s D σ H hw)⟩
theorem _root_.L2.PSs.mono {X : Cx} {st : List Stmt} {t t' : TS} (h : PSs X st t) (s : ∀ E σ H, t' E σ H → t E σ H) : PSs X st t' := ⟨fun pins s0 σ H D I hw => h.run pins s0 σ H D I (s D σ H hw)⟩
end NL
/-! ### the data layer: expressions -/
namespace NL
noncomputable section
open PySem L2
def isSc : D → Bool
  | .non => true
  | .bl _ => true
  | .int _ => true
  | .str _ => true
  | _ => false
def cF (d : D) : Ex := fun _ S => .ok d S
def vF (i : Nat) : Ex := fun ρ S => match ρ[i]? with
  | some (some d) => .ok d S
  | _ => .bad
def nilF : Exs := fun _ S => .ok [] S
def consF (F : Ex) (Fs : Exs) : Exs := fun ρ S => (F ρ S).bind fun d S1 => (Fs ρ S1).bind fun ds S2 => .ok (d :: ds) S2
def optF (o : Option D) (S : SrcT) : Rs D := match o with
  | none => .bad
  | some d => .ok d S
def scF (F : Ex) : Ex := fun ρ S => (F ρ S).bind fun d S1 => if isSc d = true then .ok d S1 else .bad
def binF (op : D → D → Option D) (F1 F2 : Ex) : Ex := fun ρ S => (F1 ρ S).bind fun d1 S1 => (F2 ρ S1).bind fun d2 S2 => optF (op d1 d2) S2
def unF (op : D → Option D) (F : Ex) : Ex := fun ρ S => (F ρ S).bind fun d1 S1 => optF (op d1) S1
def argF (f : List D → Option D) (Fs : Exs) : Ex := fun ρ S => (Fs ρ S).bind fun ds S1 => optF (f ds) S1
def lstF (Fs : Exs) : Ex := fun ρ S => (Fs ρ S).bind fun ds S1 => .ok (.lst ds) S1
def tupF (Fs : Exs) : Ex := fun ρ S => (Fs ρ S).bind fun ds S1 => .ok (.tup ds) S1
def callF (f : List D → SrcT → Rs D) (Fs : Exs) : Ex := fun ρ S => (Fs ρ S).bind f
def iteF (c : Tst) (F1 F2 : Ex) : Ex := fun ρ S => (c ρ S).bind fun b S1 => if b = true then F1 ρ S1 else F2 ρ S1
section
variable {G : Gm} {p p' : Option Addr} {B B' H : Hp}
theorem DV.sc {v : V} {d : D} (hs : isSc d = true) (h : DV G p B v d) : DV G p' B' v d := by
  cases h with
  | non => exact .non
  | bl b => exact .bl b
  | int i => exact .int i
  | str z => exact .str z
  | _ => cases hs
end
section
variable {X : Cx} {G : Gm} {m m' : Bool} {O : List Nat} {E : XK} {e : Expr} {es : List Expr} {F F1 F2 : Ex} {Fs : Exs}
theorem de_const {v : V} {d : D} (h : PE X e (tC v)) (hd : ∀ p B, DV G p B v d) : PE X e (tD G m O E (cF d)) :=
  h.mono fun σ H Q ⟨φ, B, ρ, S, R, hp⟩ => Pg.ok hp R (hd _ _)
theorem de_int {i : Int} {j pos} : PE X (.Constant (.int i) j pos) (tD G m O E (cF (.int i))) := de_const pe_int fun _ _ => .int i
theorem de_str {z : Str} {j pos} : PE X (.Constant (.str z) j pos) (tD G m O E (cF (.str z))) := de_const pe_str fun _ _ => .str z
theorem de_bl {b : Bool} {j pos} : PE X (.Constant (.bool b) j pos) (tD G m O E (cF (.bl b))) := de_const pe_bl fun _ _ => .bl b
theorem de_non {j pos} : PE X (.Constant .none j pos) (tD G m O E (cF .non)) := de_const pe_non fun _ _ => .non
theorem de_var {i : Nat} (h : PE X e (tVar i)) (hi : m = true ∨ i ∉ O) : PE X e (tD G m O E (vF i)) := by
  refine h.mono fun σ H Q ⟨φ, B, ρ, S, R, hp⟩ => ?_
  unfold vF at hp
  split at hp
  · rename_i d hd
    by_cases ho : i ∈ O
    · obtain ⟨a, o, d', h1, h2, h3, h4, h5, h6, h7⟩ := R.own i ho
      have e1 : d' = d := by rw [hd] at h1; exact (Option.some.inj (Option.some.inj h1)).symm
      subst e1
      refine ⟨.ref a, h2, Pg.ok hp R ?_⟩
      rcases hi with hi | hi
      · subst hi
        rw [bs_true (R.ownv ho)]
        exact (h7.same R.bh).dv (by rw [hideP_at h6]; exact h3)
      · exact absurd ho hi
    · obtain ⟨v, h1, h2⟩ := R.val i d ho hd
      exact ⟨v, h1, Pg.ok hp R (h2.same (R.bbs m))⟩
  · exact hp.elim
theorem de_coe (h : PE X e (tD G false O E F)) : PE X e (tD G true O E F) := by
  refine h.mono fun σ H Q ⟨φ, B, ρ, S, R, hp⟩ => ⟨φ, B, ρ, S, R, ?_⟩
  exact Pg.imp hp fun d S1 w B' H' g R' hw q => q w B' H' g R' (DV.same (R'.bbs true) hw)
theorem de_sc (h : PE X e (tD G true O E F)) : PE X e (tD G m O E (scF F)) := by
  refine h.mono fun σ H Q ⟨φ, B, ρ, S, R, hp⟩ => ⟨φ, B, ρ, S, R, ?_⟩
  refine Pg.bind hp fun d S1 w B1 H1 g R1 hw h1 => ?_
  split at h1
  · rename_i hs; exact Pg.ok h1 R1 (hw.sc hs)
  · exact h1.elim
/-- written lists of arguments -/
structure DA (X : Cx) (es : List Expr) (G : Gm) (m : Bool) (O : List Nat) (E : XK) (Fs : Exs) : Prop where
  pa : PA X es (tDs G m O E Fs)
  len : ∀ ρ S, (Fs ρ S).each fun ds => ds.length = es.length
theorem da_nil : DA X [] G m O E nilF := ⟨pa_nil.mono fun σ H Q ⟨φ, B, ρ, S, R, hp⟩ => Pg.ok hp R .nil, fun ρ S => rfl⟩
theorem da_cons (ha : PE X e (tD G m O E F)) (hr : DA X es G m O E Fs) (hs : starEach (e :: es) X.env = (false, eval e X.env) :: starEach es X.env := by rfl) : DA X (e :: es) G m O E (consF F Fs) := by
  refine ⟨(pa_cons ha hr.pa hs).mono fun σ H Q ⟨φ, B, ρ, S, R, hp⟩ => ⟨φ, B, ρ, S, R, ?_⟩, fun ρ S => ?_⟩
  · refine Pg.bind hp fun d S1 w B1 H1 g R1 hw h1 => ⟨φ, B1, ρ, S1, R1, ?_⟩
    refine Pg.bind h1 fun ds S2 ws B2 H2 g2 R2 hws h2 => Pg.ok h2 R2 (.cons (hw.same (g2.bs m)) hws)
  · unfold consF
    refine (Rs.each.triv (F ρ S)).bind fun d S1 _ => (hr.len ρ S1).bind fun ds S2 hl => ?_
    show (d :: ds).length = _
    rw [List.length_cons, List.length_cons, hl]
/-- what a two-place rule must give -/
def Bin2 (G : Gm) (m m' : Bool) (r : R2) (op : D → D → Option D) : Prop := ∀ {φ : Fr} {O : List Nat} {σ : L2.St} {B H : Hp} {ρ : Env} {S : SrcT} {v1 v2 : V} {d1 d2 d : D} {Q : VK}, Rep G φ O σ B H ρ S → DV G φ.p (bs m φ B H) v1 d1 → DV G φ.p (bs m φ B H) v2 d2 → op d1 d2 = some d →
  (∀ v B' H', Go φ B H B' H' → Rep G φ O σ B' H' ρ S → DV G φ.p (bs m' φ B' H') v d → Q v H') → r v1 v2 H Q
theorem Pg.opt {φ : Fr} {σ : L2.St} {ρ : Env} {B H : Hp} {o : Option D} {S : SrcT} {Q : VK} (h : Pg G φ m O E σ ρ (DV G) B H (optF o S) Q) : ∃ d, o = some d ∧ ∀ v B' H', Go φ B H B' H' → Rep G φ O σ B' H' ρ S → DV G φ.p (bs m φ B' H') v d → Q v H' := by
  cases o with
  | none => exact h.elim
  | some d => exact ⟨d, rfl, h⟩
theorem de_bin {r : R2} {op : D → D → Option D} (hb : Bin2 G m m' r op) (h : PE X e (tOp r (tD G m O E F1) (tD G m O E F2))) : PE X e (tD G m' O E (binF op F1 F2)) := by
  refine h.mono fun σ H Q ⟨φ, B, ρ, S, R, hp⟩ => ⟨φ, B, ρ, S, R, ?_⟩
  refine Pg.bind hp fun d1 S1 v1 B1 H1 g R1 hw h1 => ⟨φ, B1, ρ, S1, R1, ?_⟩
  refine Pg.bind h1 fun d2 S2 v2 B2 H2 g2 R2 hw2 h2 => ?_
  obtain ⟨d, e, q⟩ := h2.opt
  exact hb R2 (hw.same (g2.bs m)) hw2 e q
def Un1 (G : Gm) (m m' : Bool) (r : V → Hp → VK → Prop) (op : D → Option D) : Prop := ∀ {φ : Fr} {O : List Nat} {σ : L2.St} {B H : Hp} {ρ : Env} {S : SrcT} {v1 : V} {d1 d : D} {Q : VK}, Rep G φ O σ B H ρ S → DV G φ.p (bs m φ B H) v1 d1 → op d1 = some d →
  (∀ v B' H', Go φ B H B' H' → Rep G φ O σ B' H' ρ S → DV G φ.p (bs m' φ B' H') v d → Q v H') → r v1 H Q
theorem de_un {r : V → Hp → VK → Prop} {op : D → Option D} (hb : Un1 G m m' r op) (h : PE X e (tUn r (tD G m O E F1))) : PE X e (tD G m' O E (unF op F1)) := by
  refine h.mono fun σ H Q ⟨φ, B, ρ, S, R, hp⟩ => ⟨φ, B, ρ, S, R, ?_⟩
  refine Pg.bind hp fun d1 S1 v1 B1 H1 g R1 hw h1 => ?_
  obtain ⟨d, e, q⟩ := h1.opt
  exact hb R1 hw e q
def ArgN (G : Gm) (m m' : Bool) (r : List V → Hp → VK → Prop) (f : List D → Option D) : Prop := ∀ {φ : Fr} {O : List Nat} {σ : L2.St} {B H : Hp} {ρ : Env} {S : SrcT} {vs : List V} {ds : List D} {d : D} {Q : VK}, Rep G φ O σ B H ρ S → DVs G φ.p (bs m φ B H) vs ds → f ds = some d →
  (∀ v B' H', Go φ B H B' H' → Rep G φ O σ B' H' ρ S → DV G φ.p (bs m' φ B' H') v d → Q v H') → r vs H Q
theorem de_arg {r : List V → Hp → VK → Prop} {f : List D → Option D} (hb : ArgN G m m' r f) (h : PE X e (tCB r (tDs G m O E Fs))) : PE X e (tD G m' O E (argF f Fs)) := by
  refine h.mono fun σ H Q ⟨φ, B, ρ, S, R, hp⟩ => ⟨φ, B, ρ, S, R, ?_⟩
  refine Pg.bind hp fun d1 S1 v1 B1 H1 g R1 hw h1 => ?_
  obtain ⟨d, e, q⟩ := h1.opt
  exact hb R1 hw e q
/-! ints, texts, sequences -/
def W60 : Int := 1000000000000000000000000000000000000000000000000000000000000
def okI (i : Int) : Bool := decide (-1000000000000000000000000000000000000000000000000000000000000 ≤ i) && decide (i ≤ 1000000000000000000000000000000000000000000000000000000000000)
theorem okI_lt {i : Int} (h : okI i = true) : i.natAbs < 2 ^ 250 := by
  unfold okI at h
  simp only [Bool.and_eq_true, decide_eq_true_eq] at h
  have : i.natAbs ≤ 1000000000000000000000000000000000000000000000000000000000000 := by omega
  exact Nat.lt_of_le_of_lt this (by decide +kernel)
def addD : D → D → Option D
  | .int a, .int b => some (.int (a + b))
  | .str a, .str b => if a.length + b.length ≤ 100000 then some (.str (a ++ b)) else none
  | .lst a, .lst b => if a.length + b.length ≤ 100000 then some (.lst (a ++ b)) else none
  | .tup a, .tup b => if a.length + b.length ≤ 100000 then some (.tup (a ++ b)) else none
  | _, _ => none
def subD : D → D → Option D
  | .int a, .int b => some (.int (a - b))
  | _, _ => none
def mulD : D → D → Option D
  | .int a, .int b => if (okI a && okI b) = true then some (.int (a * b)) else none
  | _, _ => none
def modD : D → D → Option D
  | .int a, .int b => if 0 < b then some (.int (a % b)) else none
  | _, _ => none
def fdivD : D → D → Option D
  | .int a, .int b => if 0 < b ∧ okI b = true then some (.int (a / b)) else none
  | _, _ => none
def powD : D → D → Option D
  | .int a, .int b => if 0 ≤ b ∧ b ≤ 1000 ∧ -1000000000 ≤ a ∧ a ≤ 1000000000 then some (.int (a ^ b.toNat)) else none
  | _, _ => none
theorem OpR.or {f : Value → Value → Sem Value} {r r' : R2} (h : OpR X f r) (h' : OpR X f r') : OpR X f (fun x y H Q => r x y H Q ∨ r' x y H Q) := by
  intro pins s σ H x y v u Q I rx ry q
  rcases q with q | q
  · exact h pins s σ H x y v u Q I rx ry q
  · exact h' pins s σ H x y v u Q I rx ry q
theorem CallR.or {f : Value} {r r' : List V → Hp → VK → Prop} (h : CallR X f r) (h' : CallR X f r') : CallR X f (fun xs H Q => r xs H Q ∨ r' xs H Q) := by
  intro pins s σ H xs us Q I rx q
  rcases q with q | q
  · exact h pins s σ H xs us Q I rx q
  · exact h' pins s σ H xs us Q I rx q
abbrev rAddS : R2 := fun x y H Q => ∃ i j, x = .str i ∧ y = .str j ∧ i.length + j.length ≤ sizeLine ∧ Q (.str (i ++ j)) H
def rAddA (K : PySem.W.Frag) : R2 := fun x y H Q => (rI0 (fun i j => .int (i + j)) x y H Q ∨ rAddS x y H Q) ∨ (rCat x y H Q ∨ rCatA K x y H Q)
theorem op_addA (hK : X.K = G.K := by rfl) : OpR X (binaryOp .Add) (rAddA G.K) := by
  rw [← hK]
  exact ((op_add (X := X)).or op_add_str).or ((op_cat (X := X)).or op_catA)
theorem sq_bs {φ : Fr} {O : List Nat} {σ : L2.St} {B H : Hp} {ρ : Env} {S : SrcT} (R : Rep G φ O σ B H ρ S) {K : PySem.W.Frag} {a : Addr} {xs : List V} (h : SqT K (bs m φ B H) a xs) : SqT K H a xs := SqT_same (R.bsH m) h
theorem bin_add : Bin2 G m m (rAddA G.K) addD := by
  intro φ O σ B H ρ S v1 v2 d1 d2 d Q R h1 h2 e q
  unfold addD at e
  split at e
  · cases h1; cases h2; cases e
    exact .inl (.inl ⟨_, _, rfl, rfl, q _ _ _ Go.refl R (.int _)⟩)
  · split at e
    · rename_i hl
      cases h1; cases h2; cases e
      exact .inl (.inr ⟨_, _, rfl, rfl, sz100k hl, q _ _ _ Go.refl R (.str _)⟩)
    · cases e
  · split at e
    · rename_i hl
      cases h1 with | lst ha hs => cases h2 with | lst hb ht =>
      cases e
      refine .inr (.inl ⟨_, _, _, _, rfl, rfl, R.bsH m _ _ ha, R.bsH m _ _ hb, sz100k (by rw [hs.len, ht.len]; exact hl), fun a na => ?_⟩)
      obtain ⟨R', g, np⟩ := R.new na
      exact q _ _ _ g R' (.lst (bs_new m np) ((hs.append ht).same (g.bs m)))
    · cases e
  · split at e
    · rename_i hl
      cases h1 with | tup ha hs => cases h2 with | tup hb ht =>
      cases e
      refine .inr (.inr ⟨_, _, _, _, rfl, rfl, sq_bs R ha, sq_bs R hb, sz100k (by rw [hs.len, ht.len]; exact hl), fun hx => ?_, fun hx hy => ?_, fun hx hy a na => ?_⟩)
      · subst hx
        cases hs
        exact q _ _ _ Go.refl R (.tup hb ht)
      · subst hy
        cases ht
        rw [List.append_nil] at *
        exact q _ _ _ Go.refl R (.tup ha hs)
      · obtain ⟨R', g, np⟩ := R.new na
        exact q _ _ _ g R' (.tup (SqT.of (bs_new m np)) ((hs.append ht).same (g.bs m)))
    · cases e
  · cases e
theorem bin_sub : Bin2 G m m' (rI0 fun i j => .int (i - j)) subD := by
  intro φ O σ B H ρ S v1 v2 d1 d2 d Q R h1 h2 e q
  unfold subD at e
  split at e
  · cases h1; cases h2; cases e
    exact ⟨_, _, rfl, rfl, q _ _ _ Go.refl R (.int _)⟩
  · cases e
theorem bin_mul : Bin2 G m m' (rI CMulW fun i j => .int (i * j)) mulD := by
  intro φ O σ B H ρ S v1 v2 d1 d2 d Q R h1 h2 e q
  unfold mulD at e
  split at e
  · split at e
    · rename_i hc
      simp only [Bool.and_eq_true] at hc
      cases h1; cases h2; cases e
      exact ⟨_, _, rfl, rfl, wide_mul (okI_lt hc.1) (okI_lt hc.2) (by decide) (by decide) (by decide), q _ _ _ Go.refl R (.int _)⟩
    · cases e
  · cases e
theorem bin_mod : Bin2 G m m' (rI (fun _ j => 0 < j) fun i j => .int (i % j)) modD := by
  intro φ O σ B H ρ S v1 v2 d1 d2 d Q R h1 h2 e q
  unfold modD at e
  split at e
  · split at e
    · rename_i hc
      cases h1; cases h2; cases e
      exact ⟨_, _, rfl, rfl, hc, q _ _ _ Go.refl R (.int _)⟩
    · cases e
  · cases e
theorem bin_fdiv : Bin2 G m m' (rI CDivW fun i j => .int (i / j)) fdivD := by
  intro φ O σ B H ρ S v1 v2 d1 d2 d Q R h1 h2 e q
  unfold fdivD at e
  split at e
  · split at e
    · rename_i hc
      cases h1; cases h2; cases e
      exact ⟨_, _, rfl, rfl, wide_div hc.1 (okI_lt hc.2) (by decide) (by decide), q _ _ _ Go.refl R (.int _)⟩
    · cases e
  · cases e
theorem bin_pow : Bin2 G m m' (rI CPow fun i j => .int (i ^ j.toNat)) powD := by
  intro φ O σ B H ρ S v1 v2 d1 d2 d Q R h1 h2 e q
  unfold powD at e
  split at e
  · split at e
    · rename_i hc
      cases h1; cases h2; cases e
      exact ⟨_, _, rfl, rfl, ⟨hc.1, by omega, by omega⟩, q _ _ _ Go.refl R (.int _)⟩
    · cases e
  · cases e
/-! displays -/
theorem de_tup {x1} {pos : Pos} (h : DA X es G m O E Fs) (hl : es.length ≤ 1000) : PE X (.Tuple es x1 pos) (tD G m O E (tupF Fs)) := by
  refine (pe_tup h.pa).mono fun σ H Q ⟨φ, B, ρ, S, R, hp⟩ => ⟨φ, B, ρ, S, R, ?_⟩
  unfold tupF at hp
  refine Pg.bindE (h.len ρ S) hp fun ds S1 ws B1 H1 hlen g R1 hws h1 => ?_
  have hlw : ws.length ≤ 1000 := by rw [hws.len, hlen]; exact hl
  refine ⟨sz1000 hlw, fun a na => ?_⟩
  obtain ⟨R', g', np⟩ := R1.new na
  exact (Pg.go g' h1).ok R' (.tup (SqT.of (bs_new m np)) (hws.same (g'.bs m)))
end
end
end NL
/-! ### the data layer: comparisons, tests, items, slices, built-ins, calls -/
namespace NL
noncomputable section
open PySem L2
mutual
def toP : D → Option PyData
  | .non => some .none
  | .bl b => some (.bool b)
  | .int i => some (.int i)
  | .str z => some (.str z)
  | .lst ds => (toPs ds).map .list
  | .tup ds => (toPs ds).map .tuple
  | .dct _ => none
  | .dcT _ => none
  | .loop _ _ => none
  | .run _ _ => none
  | .src => none
  | .set _ => none
  | .cls => none
  | .obj _ _ => none
  | .loc _ => none
def toPs : List D → Option (List PyData)
  | [] => some []
  | d :: ds => match toP d, toPs ds with
    | some p, some ps => some (p :: ps)
    | _, _ => none
end
section
variable {G : Gm} {p : Option Addr} {B : Hp}
mutual
theorem DV.dp : ∀ {v : V} {d : D}, DV G p B v d → ∀ {e : PyData}, toP d = some e → Dp G.K B v e
  | _, _, .non, e, h => by rw [toP] at h; cases h; exact .non
  | _, _, .bl b, e, h => by rw [toP] at h; cases h; exact .bl b
  | _, _, .int i, e, h => by rw [toP] at h; cases h; exact .int i
  | _, _, .str z, e, h => by rw [toP] at h; cases h; exact .str z
  | _, _, .lst h1 hs, e, h => by
    rw [toP] at h
    obtain ⟨ps, h2, rfl⟩ := Option.map_eq_some_iff.mp h
    exact .lst (SqL.of h1) (DVs.dp hs h2)
  | _, _, .tup h1 hs, e, h => by
    rw [toP] at h
    obtain ⟨ps, h2, rfl⟩ := Option.map_eq_some_iff.mp h
    exact .tup h1 (DVs.dp hs h2)
  | _, _, .dct _ _ _, e, h => by rw [toP] at h; exact nomatch h
  | _, _, .dcT _ _ _, e, h => by rw [toP] at h; exact nomatch h
  | _, _, .loop _, e, h => by rw [toP] at h; exact nomatch h
  | _, _, .run _, e, h => by rw [toP] at h; exact nomatch h
  | _, _, .src _, e, h => by rw [toP] at h; exact nomatch h
  | _, _, .set _ _ _, e, h => by rw [toP] at h; exact nomatch h
  | _, _, .cls, e, h => by rw [toP] at h; exact nomatch h
  | _, _, .obj _ _ _, e, h => by rw [toP] at h; exact nomatch h
  | _, _, .loc _, e, h => by rw [toP] at h; exact nomatch h
theorem DVs.dp : ∀ {vs : List V} {ds : List D}, DVs G p B vs ds → ∀ {es : List PyData}, toPs ds = some es → DpAll G.K B vs es
  | _, _, .nil, es, h => by rw [toPs] at h; cases h; exact .nil
  | _, _, .cons h1 hs, es, h => by
    rw [toPs] at h
    split at h
    · rename_i q qs h2 h3
      cases h
      exact .cons (DV.dp h1 h2) (DVs.dp hs h3)
    · cases h
end
end
def eqD (neg : Bool) (d1 d2 : D) : Option D := match toP d1, toP d2 with
  | some p1, some p2 => if (SeqAt.shaped p1 && SeqAt.shaped p2) = true then some (.bl (if neg then !PyData.eqv p1 p2 else PyData.eqv p1 p2)) else none
  | _, _ => none
def cmpD (fi : Int → Int → Bool) (fs : List Nat → List Nat → Bool) : D → D → Option D
  | .int a, .int b => some (.bl (fi a b))
  | .str a, .str b => some (.bl (fs a.cps.toList b.cps.toList))
  | _, _ => none
def ltD : D → D → Option D := cmpD (fun a b => decide (a < b)) (fun a b => decide (a < b))
def leD : D → D → Option D := cmpD (fun a b => decide (a ≤ b)) (fun a b => !decide (b < a))
def gtD : D → D → Option D := cmpD (fun a b => decide (b < a)) (fun a b => decide (b < a))
def geD : D → D → Option D := cmpD (fun a b => decide (b ≤ a)) (fun a b => !decide (a < b))
def isNon : D → Bool
  | .non => true
  | _ => false
def isND (neg : Bool) : D → D → Option D
  | d, .non => some (.bl (if neg then !isNon d else isNon d))
  | _, _ => none
def vOf : D → V
  | .bl b => .bl b
  | .int i => .int i
  | .str z => .str z
  | _ => .non
def seqD : D → Option (List D)
  | .lst ds => some ds
  | .tup ds => some ds
  | _ => none
def inD (neg : Bool) (x c : D) : Option D := match seqD c with
  | some ds => if (isSc x && ds.all isSc) = true then some (.bl (if neg then !inV (vOf x) (ds.map vOf) else inV (vOf x) (ds.map vOf))) else none
  | none => none
def idxD : D → D → Option D
  | .lst ds, .int i => atI ds i
  | .tup ds, .int i => atI ds i
  | .str z, .int i => if z.length ≤ 100000 then (atI z.cps.toList i).map fun c => .str ⟨#[c]⟩ else none
  | _, _ => none
section
variable {X : Cx} {G : Gm} {m m' : Bool} {O : List Nat} {E : XK} {e : Expr} {es : List Expr} {F F1 F2 : Ex} {Fs : Exs}
section
variable {φ : Fr} {σ : L2.St} {B H : Hp} {ρ : Env} {S : SrcT}
theorem dv_H (R : Rep G φ O σ B H ρ S) {v : V} {d : D} (h : DV G φ.p (bs m φ B H) v d) : DV G φ.p H v d := h.same (R.bsH m)
theorem dvs_H (R : Rep G φ O σ B H ρ S) {v : List V} {d : List D} (h : DVs G φ.p (bs m φ B H) v d) : DVs G φ.p H v d := h.same (R.bsH m)
end
theorem op_eqG (hu : X.A.units + 64 < cLine) (hK : X.K = G.K := by rfl) : OpR X (compareOp .Eq) (rEqD G.K) := by rw [← hK]; exact op_eqD hu
theorem op_neG (hu : X.A.units + 64 < cLine) (hK : X.K = G.K := by rfl) : OpR X (compareOp .NotEq) (rNeD G.K) := by rw [← hK]; exact op_neD hu
theorem bin_eq : Bin2 G m m' (rEqD G.K) (eqD false) := by
  intro φ O σ B H ρ S v1 v2 d1 d2 d Q R h1 h2 e q
  unfold eqD at e
  split at e
  · rename_i p1 p2 e1 e2
    split at e
    · rename_i hs
      simp only [Bool.and_eq_true] at hs
      cases e
      exact ⟨p1, p2, (dv_H R h1).dp e1, (dv_H R h2).dp e2, hs.1, hs.2, q _ _ _ Go.refl R (.bl _)⟩
    · cases e
  · cases e
theorem bin_ne : Bin2 G m m' (rNeD G.K) (eqD true) := by
  intro φ O σ B H ρ S v1 v2 d1 d2 d Q R h1 h2 e q
  unfold eqD at e
  split at e
  · rename_i p1 p2 e1 e2
    split at e
    · rename_i hs
      simp only [Bool.and_eq_true] at hs
      cases e
      exact ⟨p1, p2, (dv_H R h1).dp e1, (dv_H R h2).dp e2, hs.1, hs.2, q _ _ _ Go.refl R (.bl _)⟩
    · cases e
  · cases e
abbrev rCmpS (fs : List Nat → List Nat → Bool) : R2 := fun x y H Q => ∃ i j, x = .str i ∧ y = .str j ∧ Q (.bl (fs i.cps.toList j.cps.toList)) H
def rCmpA (fi : Int → Int → Bool) (fs : List Nat → List Nat → Bool) : R2 := fun x y H Q => rI0 (fun i j => .bl (fi i j)) x y H Q ∨ rCmpS fs x y H Q
theorem bin_cmp {fi : Int → Int → Bool} {fs : List Nat → List Nat → Bool} : Bin2 G m m' (rCmpA fi fs) (cmpD fi fs) := by
  intro φ O σ B H ρ S v1 v2 d1 d2 d Q R h1 h2 e q
  unfold cmpD at e
  split at e
  · cases h1; cases h2; cases e
    exact .inl ⟨_, _, rfl, rfl, q _ _ _ Go.refl R (.bl _)⟩
  · cases h1; cases h2; cases e
    exact .inr ⟨_, _, rfl, rfl, q _ _ _ Go.refl R (.bl _)⟩
  · cases e
theorem op_ltA : OpR X (compareOp .Lt) (rCmpA (fun a b => decide (a < b)) (fun a b => decide (a < b))) := (op_lt (X := X)).or op_lt_str
theorem op_leA : OpR X (compareOp .LtE) (rCmpA (fun a b => decide (a ≤ b)) (fun a b => !decide (b < a))) := (op_le (X := X)).or op_le_str
theorem op_gtA : OpR X (compareOp .Gt) (rCmpA (fun a b => decide (b < a)) (fun a b => decide (b < a))) := (op_gt (X := X)).or op_gt_str
theorem op_geA : OpR X (compareOp .GtE) (rCmpA (fun a b => decide (b ≤ a)) (fun a b => !decide (a < b))) := (op_ge (X := X)).or op_ge_str
theorem non_iff {p : Option Addr} {B : Hp} {v : V} {d : D} (h : DV G p B v d) : decide (v = .non) = isNon d := by
  cases h <;> first | rfl | exact decide_eq_false (fun z => nomatch z)
theorem bin_isN : Bin2 G m m' (fun x y H Q => y = .non ∧ Q (.bl (decide (x = .non))) H) (isND false) := by
  intro φ O σ B H ρ S v1 v2 d1 d2 d Q R h1 h2 e q
  unfold isND at e
  split at e
  · cases h2; cases e
    refine ⟨rfl, ?_⟩
    rw [non_iff h1]
    exact q _ _ _ Go.refl R (.bl _)
  · cases e
theorem bin_notN : Bin2 G m m' (fun x y H Q => y = .non ∧ Q (.bl (!decide (x = .non))) H) (isND true) := by
  intro φ O σ B H ρ S v1 v2 d1 d2 d Q R h1 h2 e q
  unfold isND at e
  split at e
  · cases h2; cases e
    refine ⟨rfl, ?_⟩
    rw [non_iff h1]
    exact q _ _ _ Go.refl R (.bl _)
  · cases e
theorem vOf_of {p : Option Addr} {B : Hp} {v : V} {d : D} (hs : isSc d = true) (h : DV G p B v d) : v = vOf d ∧ flatV v = true := by
  cases h <;> first | exact ⟨rfl, rfl⟩ | cases hs
theorem vOfs_of {p : Option Addr} {B : Hp} {vs : List V} {ds : List D} (hs : ds.all isSc = true) (h : DVs G p B vs ds) : vs = ds.map vOf ∧ vs.all flatV = true := by
  induction ds generalizing vs with
  | nil => cases h; exact ⟨rfl, rfl⟩
  | cons d ds ih =>
    cases h with
    | cons h1 h2 =>
      simp only [List.all_cons, Bool.and_eq_true] at hs
      obtain ⟨a1, a2⟩ := vOf_of hs.1 h1
      obtain ⟨b1, b2⟩ := ih hs.2 h2
      refine ⟨by rw [List.map_cons, ← a1, ← b1], ?_⟩
      rw [List.all_cons, a2, b2]; rfl
theorem sq_of {p : Option Addr} {B : Hp} {v : V} {c : D} {ds : List D} (hc : seqD c = some ds) (h : DV G p B v c) : ∃ a xs, v = .ref a ∧ (SqL G.K B a xs ∨ SqT G.K B a xs) ∧ DVs G p B xs ds := by
  cases h <;> first | (unfold seqD at hc; cases hc; done) | skip
  · rename_i a xs ds' h1 h2
    cases hc
    exact ⟨a, xs, rfl, .inl (SqL.of h1), h2⟩
  · rename_i a xs ds' h1 h2
    cases hc
    exact ⟨a, xs, rfl, .inr h1, h2⟩
theorem bin_in {neg : Bool} : Bin2 G m m' (rIn G.K neg) (inD neg) := by
  intro φ O σ B H ρ S v1 v2 d1 d2 d Q R h1 h2 e q
  unfold inD at e
  split at e
  · rename_i ds hc
    split at e
    · rename_i hs
      simp only [Bool.and_eq_true] at hs
      cases e
      obtain ⟨a, xs, rfl, hq, hd⟩ := sq_of hc (dv_H R h2)
      obtain ⟨e1, f1⟩ := vOf_of hs.1 h1
      obtain ⟨e2, f2⟩ := vOfs_of hs.2 hd
      refine ⟨a, xs, rfl, hq, f1, f2, ?_⟩
      rw [e1, e2]
      exact q _ _ _ Go.refl R (.bl _)
    · cases e
  · cases e
theorem op_inG (hK : X.K = G.K := by rfl) : OpR X (compareOp .In) (rIn G.K false) := by rw [← hK]; exact op_in_seq
theorem op_notInG (hK : X.K = G.K := by rfl) : OpR X (compareOp .NotIn) (rIn G.K true) := by rw [← hK]; exact op_notIn_seq
theorem ix_G (hK : X.K = G.K := by rfl) : IxR X (rIx G.K) := by rw [← hK]; exact ix_seq
theorem dvs_at {p : Option Addr} {B : Hp} {vs : List V} {ds : List D} {i : Int} {d : D} (h : DVs G p B vs ds) (e : atI ds i = some d) : ∃ v, atI vs i = some v ∧ DV G p B v d := by
  unfold atI at e ⊢
  rw [h.len]
  cases hj : ixN ds.length i with
  | none => rw [hj] at e; cases e
  | some j =>
    rw [hj] at e
    exact h.get e
theorem bin_ix : Bin2 G m m (rIx G.K) idxD := by
  intro φ O σ B H ρ S v1 v2 d1 d2 d Q R h1 h2 e q
  unfold idxD at e
  split at e
  · cases h1 with | lst ha hs =>
    cases h2
    obtain ⟨v, hv, dv⟩ := dvs_at hs e
    exact .inl ⟨_, _, _, _, rfl, rfl, SqL.of (R.bsH m _ _ ha), hv, q _ _ _ Go.refl R dv⟩
  · cases h1 with | tup ha hs =>
    cases h2
    obtain ⟨v, hv, dv⟩ := dvs_at hs e
    exact .inr (.inl ⟨_, _, _, _, rfl, rfl, sq_bs R ha, hv, q _ _ _ Go.refl R dv⟩)
  · split at e
    · rename_i hl
      cases h1; cases h2
      obtain ⟨c, hc, rfl⟩ := Option.map_eq_some_iff.mp e
      exact .inr (.inr ⟨_, _, _, rfl, rfl, sz100k hl, hc, q _ _ _ Go.refl R (.str _)⟩)
    · cases e
  · cases e
/-- xs[i], xs a list of this def's own: its items are shared ones -/
def idxOF (i : Nat) (F : Ex) : Ex := fun ρ S => (F ρ S).bind fun d S1 => match ρ[i]? with
  | some (some c) => optF (idxD c d) S1
  | _ => .bad
theorem de_ixO {i : Nat} {a b : Expr} {pos : Pos} (hi : i ∈ O) (ha : PE X a (tVar i)) (hb : PE X b (tD G true O E F)) (hs : PlainIx b) (hK : X.K = G.K := by rfl) : PE X (.Subscript a b pos) (tD G m O E (idxOF i F)) := by
  refine (pe_ix (ix_G (G := G) hK) ha hb hs).mono fun σ H Q ⟨φ, B, ρ, S, R, hp⟩ => ?_
  obtain ⟨l, o, c, h1, h2, h3, h4, h5, h6, h7⟩ := R.own i hi
  refine ⟨.ref l, h2, φ, B, ρ, S, R, ?_⟩
  refine Pg.bind hp fun d S1 w B1 H1 g R1 hw hp1 => ?_
  rw [h1] at hp1
  obtain ⟨r, hr, q⟩ := Pg.opt (show Pg G φ m O E σ ρ (DV G) B1 H1 (optF (idxD c d) S1) Q from hp1)
  have ho := h7.same g.b
  have hH : H1 l = some o := by
    have := g.h (R.ownv hi) l o (by rw [hideP_at h6]; exact h3)
    rw [hideP_at h6] at this; exact this
  unfold idxD at hr
  split at hr
  · cases hw
    unfold DO at ho
    split at ho
    · rename_i vs ds heq
      cases heq
      obtain ⟨v, hv, dv⟩ := dvs_at ho hr
      exact .inl ⟨_, _, _, _, rfl, rfl, SqL.of hH, hv, q _ _ _ Go.refl R1 (dv.same (R1.bbs m))⟩
    · rename_i heq; cases heq
    · rename_i heq; cases heq
    · exact ho.elim
  · unfold DO at ho
    split at ho
    · rename_i heq; cases heq
    · rename_i heq; cases heq
    · rename_i heq; cases heq
    · exact ho.elim
  · unfold DO at ho
    split at ho
    · rename_i heq; cases heq
    · rename_i heq; cases heq
    · rename_i heq; cases heq
    · exact ho.elim
  · cases hr
/-! bools, tests -/
def andF (F1 F2 : Ex) : Ex := fun ρ S => (F1 ρ S).bind fun d S1 => match d with
  | .bl true => F2 ρ S1
  | .bl false => .ok (.bl false) S1
  | _ => .bad
def orF (F1 F2 : Ex) : Ex := fun ρ S => (F1 ρ S).bind fun d S1 => match d with
  | .bl true => .ok (.bl true) S1
  | .bl false => F2 ρ S1
  | _ => .bad
def notD : D → Option D
  | .bl b => some (.bl !b)
  | _ => none
def truD : D → Option Bool
  | .non => some false
  | .bl b => some b
  | .int i => some (i != 0)
  | .str z => if z.length ≤ 100000 then some ((z.length : Int) != 0) else none
  | .lst ds => some (!ds.isEmpty)
  | .tup ds => some (!ds.isEmpty)
  | .dct ds => some (!ds.isEmpty)
  | _ => none
def tstF (F : Ex) : Tst := fun ρ S => (F ρ S).bind fun d S1 => match truD d with
  | some b => .ok b S1
  | none => .bad
def andT (c1 c2 : Tst) : Tst := fun ρ S => (c1 ρ S).bind fun b S1 => if b = true then c2 ρ S1 else .ok false S1
def orT (c1 c2 : Tst) : Tst := fun ρ S => (c1 ρ S).bind fun b S1 => if b = true then .ok true S1 else c2 ρ S1
def notT (c : Tst) : Tst := fun ρ S => (c ρ S).bind fun b S1 => .ok (!b) S1
theorem de_and (h : PE X e (tAndV (tD G true O E F1) (tD G m O E F2))) : PE X e (tD G m O E (andF F1 F2)) := by
  refine h.mono fun σ H Q ⟨φ, B, ρ, S, R, hp⟩ => ⟨φ, B, ρ, S, R, ?_⟩
  refine Pg.bind hp fun d S1 w B1 H1 g R1 hw h1 => ?_
  cases hw with
  | bl b =>
    refine ⟨b, rfl, ?_⟩
    cases b with
    | true => rw [if_pos rfl]; exact ⟨φ, B1, ρ, S1, R1, h1⟩
    | false => rw [if_neg (by decide)]; exact Pg.ok h1 R1 (.bl _)
  | _ => exact h1.elim
theorem de_or (h : PE X e (tOrV (tD G true O E F1) (tD G m O E F2))) : PE X e (tD G m O E (orF F1 F2)) := by
  refine h.mono fun σ H Q ⟨φ, B, ρ, S, R, hp⟩ => ⟨φ, B, ρ, S, R, ?_⟩
  refine Pg.bind hp fun d S1 w B1 H1 g R1 hw h1 => ?_
  cases hw with
  | bl b =>
    refine ⟨b, rfl, ?_⟩
    cases b with
    | true => rw [if_pos rfl]; exact Pg.ok h1 R1 (.bl _)
    | false => rw [if_neg (by decide)]; exact ⟨φ, B1, ρ, S1, R1, h1⟩
  | _ => exact h1.elim
theorem de_not (h : PE X e (tNotV (tD G true O E F))) : PE X e (tD G m O E (unF notD F)) := by
  refine h.mono fun σ H Q ⟨φ, B, ρ, S, R, hp⟩ => ⟨φ, B, ρ, S, R, ?_⟩
  refine Pg.bind hp fun d S1 w B1 H1 g R1 hw h1 => ?_
  obtain ⟨r, hr, q⟩ := h1.opt
  cases hw with
  | bl b => cases hr; exact ⟨b, rfl, q _ _ _ Go.refl R1 (.bl _)⟩
  | _ => cases hr
theorem tru_dv {p : Option Addr} {H : Hp} {v : V} {d : D} {b : Bool} (h : DV G p H v d) (e : truD d = some b) : TruV G.K v H b := by
  cases h with
  | non => cases e; rfl
  | bl b => cases e; rfl
  | int i => cases e; rfl
  | str z =>
    unfold truD at e
    dsimp only at e
    split at e
    · rename_i hl; cases e; exact ⟨sz100k hl, rfl⟩
    · cases e
  | lst h1 h2 =>
    cases e
    refine .inl ⟨_, SqL.of h1, ?_⟩
    cases h2 <;> rfl
  | tup h1 h2 =>
    cases e
    refine .inr (.inl ⟨_, h1, ?_⟩)
    cases h2 <;> rfl
  | dct h1 he h2 =>
    cases e
    refine .inr (.inr ⟨_, h1, ?_⟩)
    rename_i a kvs es
    cases kvs <;> cases es <;> first | rfl | (simp at he; done)
  | _ => cases e
theorem dt_val (h : PE X e (tD G true O E F)) (he : ∀ whole, isTrue e X.env whole = (do let v ← whole; standAt e.pos; holding [v] (truthy v)) := by intro _; rfl) (hK : X.K = G.K := by rfl) : PT X e (tBt G O E (tstF F)) := by
  refine (pt_truth h he).mono fun σ H Q ⟨φ, B, ρ, S, R, hp⟩ => ⟨φ, B, ρ, S, R, ?_⟩
  refine Pg.bind hp fun d S1 w B1 H1 g R1 hw h1 => ?_
  split at h1
  · rename_i b hb
    rw [hK]
    exact ⟨b, tru_dv (dv_H R1 hw) hb, Pg.ok h1 R1 rfl⟩
  · exact h1.elim
section
variable {c1 c2 : Tst}
theorem dw_and {pos : Pos} {a b : Expr} {rest : List Expr} (ha : PT X a (tBt G O E c1)) (hb : PW X (.BoolOp .And (b :: rest) pos) (tBt G O E c2)) : PW X (.BoolOp .And (a :: b :: rest) pos) (tBt G O E (andT c1 c2)) := by
  refine (pw_and ha hb).mono fun σ H Q ⟨φ, B, ρ, S, R, hp⟩ => ⟨φ, B, ρ, S, R, ?_⟩
  refine Pg.bind hp fun d S1 w B1 H1 g R1 hw h1 => ?_
  have hw : w = d := hw
  subst hw
  cases w with
  | true => exact ⟨φ, B1, ρ, S1, R1, h1⟩
  | false => exact Pg.ok h1 R1 rfl
theorem dw_or {pos : Pos} {a b : Expr} {rest : List Expr} (ha : PT X a (tBt G O E c1)) (hb : PW X (.BoolOp .Or (b :: rest) pos) (tBt G O E c2)) : PW X (.BoolOp .Or (a :: b :: rest) pos) (tBt G O E (orT c1 c2)) := by
  refine (pw_or ha hb).mono fun σ H Q ⟨φ, B, ρ, S, R, hp⟩ => ⟨φ, B, ρ, S, R, ?_⟩
  refine Pg.bind hp fun d S1 w B1 H1 g R1 hw h1 => ?_
  have hw : w = d := hw
  subst hw
  cases w with
  | true => exact Pg.ok h1 R1 rfl
  | false => exact ⟨φ, B1, ρ, S1, R1, h1⟩
theorem dt_not {pos : Pos} {a : Expr} (ha : PT X a (tBt G O E c1)) : PT X (.UnaryOp .Not a pos) (tBt G O E (notT c1)) := by
  refine (pt_not ha).mono fun σ H Q ⟨φ, B, ρ, S, R, hp⟩ => ⟨φ, B, ρ, S, R, ?_⟩
  refine Pg.bind hp fun d S1 w B1 H1 g R1 hw h1 => ?_
  have hw : w = d := hw
  subst hw
  exact Pg.ok h1 R1 rfl
theorem de_if {pos : Pos} {c a b : Expr} (hc : PT X c (tBt G O E c1)) (ha : PE X a (tD G m O E F1)) (hb : PE X b (tD G m O E F2)) : PE X (.IfExp c a b pos) (tD G m O E (iteF c1 F1 F2)) := by
  refine (pe_ifExp hc ha hb).mono fun σ H Q ⟨φ, B, ρ, S, R, hp⟩ => ⟨φ, B, ρ, S, R, ?_⟩
  refine Pg.bind hp fun d S1 w B1 H1 g R1 hw h1 => ?_
  have hw : w = d := hw
  subst hw
  split at h1
  · rename_i hb; rw [if_pos hb]; exact ⟨φ, B1, ρ, S1, R1, h1⟩
  · rename_i hb; rw [if_neg hb]; exact ⟨φ, B1, ρ, S1, R1, h1⟩
end
/-! a call of a def of the program -/
def spPost (G : Gm) (p : Option Addr) (B H : Hp) (Q : VK) (E : XK) : Rs D → Prop
  | .bad => False
  | .exc c d S' => ∀ B' H' cv od, Same B B' → Same B' H' → (∀ a o, p ≠ some a → H a = some o → H' a = some o) → (∀ a o, B' a = some o → mutO o → B a = some o ∨ H a = none) → (∀ q, p = some q → B' q = none ∧ SrcAt H' q S') → ExnAt G p B' H' c d cv od → E cv od H'
  | .ok d S' => ∀ v B' H', Same B B' → Same B' H' → (∀ a o, p ≠ some a → H a = some o → H' a = some o) → (∀ a o, B' a = some o → mutO o → B a = some o ∨ H a = none) → (∀ q, p = some q → B' q = none ∧ SrcAt H' q S') → DV G p B' v d → Q v H'
  | .all p0 k => ∀ x, p0 x → spPost G p B H Q E (k x)
def spD (G : Gm) (f : List D → SrcT → Rs D) : Sp := fun vs H Q E => ∃ p B ds S, Same B H ∧ (∀ q, p = some q → B q = none ∧ SrcAt H q S) ∧ DVs G p B vs ds ∧ spPost G p B H Q E (f ds S)
/-- behind a call -/
theorem Rep.after {φ : Fr} {σ : L2.St} {B H : Hp} {ρ : Env} {S S' : SrcT} (R : Rep G φ O σ B H ρ S) (m : Bool) {Bc H' : Hp} (h1 : Same (bs m φ B H) Bc) (h2 : Same Bc H') (h3 : ∀ a o, φ.p ≠ some a → H a = some o → H' a = some o)
    (h4 : ∀ a o, Bc a = some o → mutO o → bs m φ B H a = some o ∨ H a = none) (h5 : ∀ q, φ.p = some q → Bc q = none ∧ SrcAt H' q S') (hv : G.v = false := by rfl) : ∃ B', Go φ B H B' H' ∧ Rep G φ O σ B' H' ρ S' ∧ Same Bc (bs m φ B' H') := by
  have hv2 : φ.v = false := R.vv.1.trans hv
  have gh : Same (hideP φ.p H) (hideP φ.p H') := fun c x h => by
    by_cases e : φ.p = some c
    · unfold hideP at h; rw [if_pos e] at h; cases h
    · rw [hideP_at e] at h ⊢; exact h3 c x e h
  have gd : ∀ a, H' a = none → H a = none := fun a h => by
    cases k : H a with
    | none => rfl
    | some x =>
      by_cases e : φ.p = some a
      · rw [(h5 a e).2.1] at h; cases h
      · rw [h3 a x e k] at h; cases h
  have hm : ∀ {B' : Hp}, MemOk G φ B' H' S' := fun hv3 => by rw [hv] at hv3; cases hv3
  cases m with
  | true =>
    rw [bs_true hv2] at h1 h4
    refine ⟨B, ⟨Same.refl _, fun _ => gh, fun _ _ h _ => .inl h, gd⟩, ⟨?_, fun a o hp hm h => h3 a o hp (R.fr a o hp hm h), R.cl, fun q hq => ⟨(R.src q hq).1, (h5 q hq).2⟩, R.b0, R.len, R.val, ?_, R.dis, fun a h => R.al a (gd a h), hm, R.vv, R.nov⟩, ?_⟩
    · exact fun c x h => h2 c x (h1 c x (R.bh c x h))
    · intro i hi
      obtain ⟨a, o, d, k1, k2, k3, k4, k5, k6, k7⟩ := R.own i hi
      exact ⟨a, o, d, k1, k2, h3 a o k6 k3, k4, k5, k6, k7⟩
    · rw [bs_true hv2]
      intro c x h
      by_cases e : φ.p = some c
      · rw [(h5 c e).1] at h; cases h
      · show hideP φ.p H' c = some x
        rw [hideP_at e]; exact h2 c x h
  | false =>
    have h1 : Same B Bc := h1
    have h4 : ∀ a o, Bc a = some o → mutO o → B a = some o ∨ H a = none := h4
    refine ⟨Bc, ⟨h1, fun _ => gh, h4, gd⟩, ⟨h2, fun a o hp hm h => h3 a o hp (R.fr a o hp hm h), ?_, h5, R.b0.trans h1, R.len, ?_, ?_, R.dis, fun a h => R.al a (gd a h), hm, R.vv, R.nov⟩, Same.refl _⟩
    · intro a o h hm
      rcases h4 a o h hm with k | k
      · exact R.cl a o k hm
      · exact .inr (R.al a k)
    · intro i d hi h
      obtain ⟨v, k1, k2⟩ := R.val i d hi h
      exact ⟨v, k1, k2.same h1⟩
    · intro i hi
      obtain ⟨a, o, d, k1, k2, k3, k4, k5, k6, k7⟩ := R.own i hi
      have hH' := h3 a o k6 k3
      refine ⟨a, o, d, k1, k2, hH', ?_, k5, k6, k7.same h1⟩
      cases h : Bc a with
      | none => rfl
      | some x =>
        have hx : x = o := by
          have := h2 a x h
          rw [hH'] at this; exact (Option.some.inj this).symm
        rcases h4 a x h (hx ▸ k7.mut) with k | k
        · rw [k4] at k; cases k
        · rw [k3] at k; cases k
theorem Rep.bare {φ : Fr} {σ : L2.St} {B H : Hp} {ρ : Env} {S : SrcT} (R : Rep G φ O σ B H ρ S) : Rep G φ [] [] B H [] S :=
  ⟨R.sub, R.fr, R.cl, R.src, R.b0, rfl, fun i d _ h => (by simp at h), fun i h => (nomatch h), fun i j h => (nomatch h), R.al, R.mem, R.vv, fun i h => (nomatch h)⟩
def noX {α : Type} : Rs α → Rs α
  | .ok a S => .ok a S
  | .all p k => .all p fun x => noX (k x)
  | _ => .bad
def callN (f : List D → SrcT → Rs D) (Fs : Exs) : Ex := fun ρ S => (Fs ρ S).bind fun ds S1 => noX (f ds S1)
theorem sp_call {φ : Fr} {σ : L2.St} {B H : Hp} {ρ : Env} {S : SrcT} {f : List D → SrcT → Rs D} {vs : List V} {ds : List D} {Q : VK} (R : Rep G φ O σ B H ρ S) (hv : DVs G φ.p (bs false φ B H) vs ds) (h : Pg G φ false O E σ ρ (DV G) B H (f ds S) Q) (hv0 : G.v = false := by rfl) : spD G f vs H Q E := by
  refine ⟨φ.p, bs false φ B H, ds, S, R.bsH false, fun q hq => ⟨R.bs_p false hq, (R.src q hq).2⟩, hv, ?_⟩
  generalize f ds S = r at h ⊢
  induction r with
  | bad => exact h
  | exc c d S' =>
    intro B' H' cv od h1 h2 h3 h4 h5 hx
    obtain ⟨B2, g, R2, hb⟩ := R.after false h1 h2 h3 h4 h5 hv0
    exact h B2 H' cv od g R2.bare (by
        obtain ⟨e1, e2⟩ := hx
        refine ⟨e1, ?_⟩
        cases d with
        | none => trivial
        | some d =>
          obtain ⟨dx, v, k1, k2, k3⟩ := e2
          exact ⟨dx, v, k1, k2, k3.same hb⟩)
  | ok d S' =>
    intro v B' H' h1 h2 h3 h4 h5 hd
    obtain ⟨B2, g, R2, hb⟩ := R.after false h1 h2 h3 h4 h5 hv0
    exact h v B2 H' g R2 (hd.same hb)
  | all p k ih => exact fun x px => ih x (h x px)
theorem sp_callN {φ : Fr} {σ : L2.St} {B H : Hp} {ρ : Env} {S : SrcT} {f : List D → SrcT → Rs D} {vs : List V} {ds : List D} {Q : VK} {E' : XK} (R : Rep G φ O σ B H ρ S) (hv : DVs G φ.p (bs true φ B H) vs ds) (h : Pg G φ true O E σ ρ (DV G) B H (noX (f ds S)) Q) (hv0 : G.v = false := by rfl) : spD G f vs H Q E' := by
  refine ⟨φ.p, bs true φ B H, ds, S, R.bsH true, fun q hq => ⟨R.bs_p true hq, (R.src q hq).2⟩, hv, ?_⟩
  generalize f ds S = r at h ⊢
  induction r with
  | bad => exact h
  | exc c d S' => exact h.elim
  | ok d S' =>
    intro v B' H' h1 h2 h3 h4 h5 hd
    obtain ⟨B2, g, R2, hb⟩ := R.after true h1 h2 h3 h4 h5 hv0
    exact h v B2 H' g R2 (hd.same hb)
  | all p k ih => exact fun x px => ih x (h x px)
theorem de_call {f : List D → SrcT → Rs D} (h : PE X e (tCall (spD G f) [] E (tDs G false O E Fs))) (hv0 : G.v = false := by rfl) : PE X e (tD G false O E (callF f Fs)) := by
  refine h.mono fun σ H Q ⟨φ, B, ρ, S, R, hp⟩ => ⟨φ, B, ρ, S, R, ?_⟩
  refine Pg.bind hp fun d S1 w B1 H1 g R1 hw h1 => ?_
  rw [List.append_nil]
  exact sp_call R1 hw h1 hv0
theorem de_callN {f : List D → SrcT → Rs D} {E' : XK} (h : PE X e (tCall (spD G f) [] E' (tDs G true O E Fs))) (hv0 : G.v = false := by rfl) : PE X e (tD G true O E (callN f Fs)) := by
  refine h.mono fun σ H Q ⟨φ, B, ρ, S, R, hp⟩ => ⟨φ, B, ρ, S, R, ?_⟩
  refine Pg.bind hp fun d S1 w B1 H1 g R1 hw h1 => ?_
  rw [List.append_nil]
  exact sp_callN R1 hw h1 hv0
end
end
end NL
/-! ### the data layer: slices, built-ins, new lists, walks, comprehensions -/
namespace NL
noncomputable section
open PySem L2
/-! slices -/
def cutD (ds : List D) (lo hi : Option Int) : List D := (ds.drop (HT.sIx ds.length 0 lo)).take (HT.sIx ds.length ds.length hi - HT.sIx ds.length 0 lo)
def sliceD : D → Option Int → Option Int → Option D
  | .lst ds, lo, hi => some (.lst (cutD ds lo hi))
  | .tup ds, lo, hi => some (.tup (cutD ds lo hi))
  | .str z, lo, hi => if z.length ≤ 100000 then some (.str (cutS z lo hi)) else none
  | _, _, _ => none
abbrev Exo := Env → SrcT → Rs (Option Int)
def noF : Exo := fun _ S => .ok none S
def someF (F : Ex) : Exo := fun ρ S => (F ρ S).bind fun d S1 => match d with
  | .int i => .ok (some i) S1
  | _ => .bad
def slF (F : Ex) (L U : Exo) : Ex := fun ρ S => (F ρ S).bind fun d S1 => (L ρ S1).bind fun lo S2 => (U ρ S2).bind fun hi S3 => optF (sliceD d lo hi) S3
section
variable {X : Cx} {G : Gm} {m m' : Bool} {O : List Nat} {E : XK} {e : Expr} {es : List Expr} {F F1 F2 : Ex} {Fs : Exs} {L U : Exo}
abbrev tO (G : Gm) (O : List Nat) (E : XK) (F : Exo) : TO := tG G true O E (fun _ _ b a => b = a) F
theorem _root_.L2.PO.mono {X : Cx} {e : Option Expr} {t t' : TO} (h : PO X e t) (s : ∀ σ H Q, t' σ H Q → t σ H Q) : PO X e t' := ⟨fun pins s0 σ H Q I hw => h.run pins s0 σ H Q I (s σ H Q hw)⟩
theorem do_none : PO X none (tO G O E noF) := po_none.mono fun σ H Q ⟨φ, B, ρ, S, R, hp⟩ => Pg.ok hp R rfl
theorem do_some (h : PE X e (tD G true O E F)) : PO X (some e) (tO G O E (someF F)) := by
  refine (po_some h).mono fun σ H Q ⟨φ, B, ρ, S, R, hp⟩ => ⟨φ, B, ρ, S, R, ?_⟩
  refine Pg.bind hp fun d S1 w B1 H1 g R1 hw h1 => ?_
  cases hw with
  | int i => exact ⟨i, rfl, Pg.ok h1 R1 rfl⟩
  | _ => exact h1.elim
theorem dvs_cut {p : Option Addr} {B : Hp} {vs : List V} {ds : List D} (lo hi : Option Int) (h : DVs G p B vs ds) : DVs G p B (cutV vs lo hi) (cutD ds lo hi) := by
  unfold cutV cutD
  rw [h.len]
  exact (h.drop _).take _
def rSlG (K : PySem.W.Frag) : V → Option Int → Option Int → Hp → VK → Prop := fun x lo hi H Q => rSlL K x lo hi H Q ∨ (rSlA K x lo hi H Q ∨ rSlS x lo hi H Q)
theorem sl_G (hK : X.K = G.K := by rfl) : SlR X (rSlG G.K) := by rw [← hK]; exact (sl_list (X := X)).or ((sl_tupA (X := X)).or sl_str)
theorem de_slice {pos p2 : Pos} {lo hi : Option Expr} (h : PE X (.Subscript e (.Slice lo hi none p2) pos) (tSl (rSlG G.K) (tD G m O E F) (tO G O E L) (tO G O E U))) : PE X (.Subscript e (.Slice lo hi none p2) pos) (tD G m O E (slF F L U)) := by
  refine h.mono fun σ H Q ⟨φ, B, ρ, S, R, hp⟩ => ⟨φ, B, ρ, S, R, ?_⟩
  refine Pg.bind hp fun d S1 w B1 H1 g1 R1 hw h1 => ⟨φ, B1, ρ, S1, R1, ?_⟩
  refine Pg.bind h1 fun l S2 wl B2 H2 g2 R2 hwl h2 => ⟨φ, B2, ρ, S2, R2, ?_⟩
  refine Pg.bind h2 fun u S3 wu B3 H3 g3 R3 hwu h3 => ?_
  have hwl : wl = l := hwl
  have hwu : wu = u := hwu
  subst hwl; subst hwu
  obtain ⟨r, hr, q⟩ := h3.opt
  have hw := hw.same ((g2.trans g3).bs m)
  unfold sliceD at hr
  split at hr
  · cases hw with | lst ha hs =>
    cases hr
    refine .inl ⟨_, _, rfl, SqL.of (R3.bsH m _ _ ha), fun a na => ?_⟩
    obtain ⟨R', g, np⟩ := R3.new na
    exact q _ _ _ g R' (.lst (bs_new m np) ((dvs_cut _ _ hs).same (g.bs m)))
  · cases hw with | tup ha hs =>
    cases hr
    refine .inr (.inl ⟨_, _, rfl, sq_bs R3 ha, fun hw => ?_, fun _ a na => ?_⟩)
    · have hc := dvs_cut (lo := wl) (hi := wu) hs
      have e1 : ∀ xs : List V, (HT.sIx xs.length 0 wl = 0 ∧ HT.sIx xs.length xs.length wu = xs.length) → cutV xs wl wu = xs := fun xs hx => by
        unfold cutV; rw [hx.1, hx.2]; simp
      rw [e1 _ hw] at hc
      exact q _ _ _ Go.refl R3 (.tup ha hc)
    · obtain ⟨R', g, np⟩ := R3.new na
      exact q _ _ _ g R' (.tup (SqT.of (bs_new m np)) ((dvs_cut _ _ hs).same (g.bs m)))
  · split at hr
    · rename_i hl
      cases hw; cases hr
      exact .inr (.inr ⟨_, rfl, sz100k hl, q _ _ _ Go.refl R3 (.str _)⟩)
    · cases hr
  · cases hr
/-! built-ins -/
def lenD : List D → Option D
  | [.lst ds] => some (.int ds.length)
  | [.tup ds] => some (.int ds.length)
  | [.str z] => if z.length ≤ 100000 then some (.int z.length) else none
  | [.dct kvs] => some (.int kvs.length)
  | _ => none
def rLenG (K : PySem.W.Frag) : List V → Hp → VK → Prop := fun xs H Q => (∃ x n, xs = [x] ∧ LenV K x H n ∧ Q (.int n) H) ∨ (∃ a kvs, xs = [V.ref a] ∧ H a = some (.dK kvs) ∧ Q (.int kvs.length) H)
theorem call_lenG (hK : X.K = G.K := by rfl) : CallR X (.builtin "len") (rLenG G.K) := by rw [← hK]; exact (call_len (X := X)).or call_lenD
theorem arg_len : ArgN G m m' (rLenG G.K) lenD := by
  intro φ O σ B H ρ S vs ds d Q R hv e q
  unfold lenD at e
  split at e
  · cases hv with | cons h1 h2 => cases h2; cases h1 with | lst ha hs =>
    cases e
    refine .inl ⟨_, _, rfl, .inl ⟨_, SqL.of (R.bsH m _ _ ha), rfl⟩, ?_⟩
    rw [hs.len]; exact q _ _ _ Go.refl R (.int _)
  · cases hv with | cons h1 h2 => cases h2; cases h1 with | tup ha hs =>
    cases e
    refine .inl ⟨_, _, rfl, .inr ⟨_, sq_bs R ha, rfl⟩, ?_⟩
    rw [hs.len]; exact q _ _ _ Go.refl R (.int _)
  · split at e
    · rename_i hl
      cases hv with | cons h1 h2 =>
      cases h2; cases h1
      cases e
      exact .inl ⟨_, _, rfl, ⟨sz100k hl, rfl⟩, q _ _ _ Go.refl R (.int _)⟩
    · cases e
  · cases hv with | cons h1 h2 => cases h2; cases h1 with | dct ha he hs =>
    cases e
    refine .inr ⟨_, _, rfl, R.bsH m _ _ ha, ?_⟩
    have : ∀ {α β γ : Type} (l1 : List (γ × α)) (l2 : List (γ × β)), l1.map Prod.fst = l2.map Prod.fst → l1.length = l2.length := fun l1 l2 h => by simpa using congrArg List.length h
    rw [this _ _ he]; exact q _ _ _ Go.refl R (.int _)
  · cases e
def intD : List D → Option D
  | [.int i] => some (.int i)
  | [.bl b] => some (.int (if b then 1 else 0))
  | _ => none
def absD : List D → Option D
  | [.int i] => some (.int (if i < 0 then -i else i))
  | _ => none
def max2D : List D → Option D
  | [.int i, .int j] => some (.int (if j > i then j else i))
  | _ => none
def min2D : List D → Option D
  | [.int i, .int j] => some (.int (if j < i then j else i))
  | _ => none
abbrev rAbs : List V → Hp → VK → Prop := fun xs H Q => ∃ i, xs = [.int i] ∧ Q (.int (if i < 0 then -i else i)) H
theorem arg_abs : ArgN G m m' rAbs absD := by
  intro φ O σ B H ρ S vs ds d Q R hv e q
  unfold absD at e
  split at e
  · cases hv with | cons h1 h2 => cases h2; cases h1; cases e; exact ⟨_, rfl, q _ _ _ Go.refl R (.int _)⟩
  · cases e
abbrev rMax2 : List V → Hp → VK → Prop := fun xs H Q => ∃ i j, xs = [.int i, .int j] ∧ Q (.int (if j > i then j else i)) H
abbrev rMin2 : List V → Hp → VK → Prop := fun xs H Q => ∃ i j, xs = [.int i, .int j] ∧ Q (.int (if j < i then j else i)) H
theorem arg_max2 : ArgN G m m' rMax2 max2D := by
  intro φ O σ B H ρ S vs ds d Q R hv e q
  unfold max2D at e
  split at e
  · cases hv with | cons h1 h2 => cases h2 with | cons h2 h3 => cases h3; cases h1; cases h2; cases e; exact ⟨_, _, rfl, q _ _ _ Go.refl R (.int _)⟩
  · cases e
theorem arg_min2 : ArgN G m m' rMin2 min2D := by
  intro φ O σ B H ρ S vs ds d Q R hv e q
  unfold min2D at e
  split at e
  · cases hv with | cons h1 h2 => cases h2 with | cons h2 h3 => cases h3; cases h1; cases h2; cases e; exact ⟨_, _, rfl, q _ _ _ Go.refl R (.int _)⟩
  · cases e
def boolsD : List D → Option (List Bool)
  | [] => some []
  | .bl b :: ds => (boolsD ds).map (b :: ·)
  | _ => none
def intsD : List D → Option (List Int)
  | [] => some []
  | .int i :: ds => (intsD ds).map (i :: ·)
  | _ => none
def strsD : List D → Option (List Str)
  | [] => some []
  | .str i :: ds => (strsD ds).map (i :: ·)
  | _ => none
theorem bools_of {p : Option Addr} {B : Hp} : ∀ {ds : List D} {vs : List V} {bs : List Bool}, boolsD ds = some bs → DVs G p B vs ds → vs = bs.map V.bl := by
  intro ds
  induction ds with
  | nil => intro vs bs h hv; cases hv; cases h; rfl
  | cons d ds ih =>
    intro vs bs h hv
    cases hv with | cons h1 h2 =>
    unfold boolsD at h
    split at h
    · rename_i heq; cases heq
    · rename_i b ds' heq
      cases heq
      obtain ⟨bs', h3, rfl⟩ := Option.map_eq_some_iff.mp h
      cases h1
      rw [ih h3 h2]; rfl
    · cases h
theorem ints_of {p : Option Addr} {B : Hp} : ∀ {ds : List D} {vs : List V} {bs : List Int}, intsD ds = some bs → DVs G p B vs ds → vs = bs.map V.int := by
  intro ds
  induction ds with
  | nil => intro vs bs h hv; cases hv; cases h; rfl
  | cons d ds ih =>
    intro vs bs h hv
    cases hv with | cons h1 h2 =>
    unfold intsD at h
    split at h
    · rename_i heq; cases heq
    · rename_i b ds' heq
      cases heq
      obtain ⟨bs', h3, rfl⟩ := Option.map_eq_some_iff.mp h
      cases h1
      rw [ih h3 h2]; rfl
    · cases h
theorem strs_of {p : Option Addr} {B : Hp} : ∀ {ds : List D} {vs : List V} {bs : List Str}, strsD ds = some bs → DVs G p B vs ds → vs = bs.map V.str := by
  intro ds
  induction ds with
  | nil => intro vs bs h hv; cases hv; cases h; rfl
  | cons d ds ih =>
    intro vs bs h hv
    cases hv with | cons h1 h2 =>
    unfold strsD at h
    split at h
    · rename_i heq; cases heq
    · rename_i b ds' heq
      cases heq
      obtain ⟨bs', h3, rfl⟩ := Option.map_eq_some_iff.mp h
      cases h1
      rw [ih h3 h2]; rfl
    · cases h
theorem boolsD_map : ∀ bs : List Bool, boolsD (bs.map D.bl) = some bs
  | [] => rfl
  | b :: bs => by rw [List.map_cons, boolsD, boolsD_map bs]; rfl
theorem intsD_map : ∀ bs : List Int, intsD (bs.map D.int) = some bs
  | [] => rfl
  | b :: bs => by rw [List.map_cons, intsD, intsD_map bs]; rfl
theorem strsD_map : ∀ bs : List Str, strsD (bs.map D.str) = some bs
  | [] => rfl
  | b :: bs => by rw [List.map_cons, strsD, strsD_map bs]; rfl
def allD : List D → Option D
  | [.lst ds] => (boolsD ds).map fun bs => .bl (bs.all id)
  | _ => none
def anyD : List D → Option D
  | [.lst ds] => (boolsD ds).map fun bs => .bl (bs.any id)
  | _ => none
def sumD : List D → Option D
  | [.lst ds] => (intsD ds).map fun bs => .int bs.sum
  | _ => none
theorem arg_all : ArgN G m m' (rAll G.K) allD := by
  intro φ O σ B H ρ S vs ds d Q R hv e q
  unfold allD at e
  split at e
  · cases hv with | cons h1 h2 => cases h2; cases h1 with | lst ha hs =>
    obtain ⟨bl, h3, rfl⟩ := Option.map_eq_some_iff.mp e
    refine ⟨_, bl, rfl, ?_, q _ _ _ Go.refl R (.bl _)⟩
    rw [← bools_of h3 hs]; exact SqL.of (R.bsH m _ _ ha)
  · cases e
theorem arg_any : ArgN G m m' (rAny G.K) anyD := by
  intro φ O σ B H ρ S vs ds d Q R hv e q
  unfold anyD at e
  split at e
  · cases hv with | cons h1 h2 => cases h2; cases h1 with | lst ha hs =>
    obtain ⟨bl, h3, rfl⟩ := Option.map_eq_some_iff.mp e
    refine ⟨_, bl, rfl, ?_, q _ _ _ Go.refl R (.bl _)⟩
    rw [← bools_of h3 hs]; exact SqL.of (R.bsH m _ _ ha)
  · cases e
theorem arg_sum : ArgN G m m' (rSum G.K) sumD := by
  intro φ O σ B H ρ S vs ds d Q R hv e q
  unfold sumD at e
  split at e
  · cases hv with | cons h1 h2 => cases h2; cases h1 with | lst ha hs =>
    obtain ⟨bl, h3, rfl⟩ := Option.map_eq_some_iff.mp e
    refine ⟨_, bl, rfl, ?_, q _ _ _ Go.refl R (.int _)⟩
    rw [← ints_of h3 hs]; exact SqL.of (R.bsH m _ _ ha)
  · cases e
theorem call_allG (hc : X.calm = true) (hK : X.K = G.K := by rfl) : CallR X (.builtin "all") (rAll G.K) := by rw [← hK]; exact cr_all hc
theorem call_anyG (hc : X.calm = true) (hK : X.K = G.K := by rfl) : CallR X (.builtin "any") (rAny G.K) := by rw [← hK]; exact cr_any hc
theorem call_sumG (hc : X.calm = true) (hK : X.K = G.K := by rfl) : CallR X (.builtin "sum") (rSum G.K) := by rw [← hK]; exact cr_sum hc
/-- the greatest of ints -/
def maxL : List Int → Int
  | [] => 0
  | [x] => x
  | x :: y :: r => max x (maxL (y :: r))
def minL : List Int → Int
  | [] => 0
  | [x] => x
  | x :: y :: r => min x (minL (y :: r))
theorem maxL_spec : ∀ {l : List Int}, l ≠ [] → maxL l ∈ l ∧ ∀ x ∈ l, x ≤ maxL l
  | [], h => absurd rfl h
  | [x], _ => ⟨List.mem_cons_self, fun y hy => by rw [List.mem_singleton.mp hy]; exact Int.le_refl _⟩
  | x :: y :: r, _ => by
    obtain ⟨h1, h2⟩ := maxL_spec (l := y :: r) (by simp)
    rw [maxL]
    refine ⟨?_, ?_⟩
    · by_cases h : x ≤ maxL (y :: r)
      · rw [Int.max_eq_right h]; exact List.mem_cons_of_mem _ h1
      · rw [Int.max_eq_left (by omega)]; exact List.mem_cons_self
    · intro z hz
      rcases List.mem_cons.mp hz with rfl | hz
      · exact Int.le_max_left _ _
      · exact Int.le_trans (h2 z hz) (Int.le_max_right _ _)
theorem minL_spec : ∀ {l : List Int}, l ≠ [] → minL l ∈ l ∧ ∀ x ∈ l, minL l ≤ x
  | [], h => absurd rfl h
  | [x], _ => ⟨List.mem_cons_self, fun y hy => by rw [List.mem_singleton.mp hy]; exact Int.le_refl _⟩
  | x :: y :: r, _ => by
    obtain ⟨h1, h2⟩ := minL_spec (l := y :: r) (by simp)
    rw [minL]
    refine ⟨?_, ?_⟩
    · by_cases h : minL (y :: r) ≤ x
      · rw [Int.min_eq_right h]; exact List.mem_cons_of_mem _ h1
      · rw [Int.min_eq_left (by omega)]; exact List.mem_cons_self
    · intro z hz
      rcases List.mem_cons.mp hz with rfl | hz
      · exact Int.min_le_left _ _
      · exact Int.le_trans (Int.min_le_right _ _) (h2 z hz)
def maxD : List D → Option D
  | [.lst ds] => match intsD ds with
    | some (x :: r) => some (.int (maxL (x :: r)))
    | _ => none
  | _ => none
def minD : List D → Option D
  | [.lst ds] => match intsD ds with
    | some (x :: r) => some (.int (minL (x :: r)))
    | _ => none
  | _ => none
theorem arg_max : ArgN G m m' (rMax G.K) maxD := by
  intro φ O σ B H ρ S vs ds d Q R hv e q
  unfold maxD at e
  split at e
  · cases hv with | cons h1 h2 =>
    cases h2; cases h1 with | lst ha hs =>
    split at e
    · rename_i x r hi
      cases e
      refine ⟨_, x :: r, rfl, ?_, by simp, fun k k1 k2 => ?_⟩
      · rw [← ints_of hi hs]; exact SqL.of (R.bsH m _ _ ha)
      · obtain ⟨s1, s2⟩ := maxL_spec (l := x :: r) (by simp)
        have : k = maxL (x :: r) := Int.le_antisymm (s2 k k1) (k2 _ s1)
        rw [this]; exact q _ _ _ Go.refl R (.int _)
    · cases e
  · cases e
theorem arg_min : ArgN G m m' (rMin G.K) minD := by
  intro φ O σ B H ρ S vs ds d Q R hv e q
  unfold minD at e
  split at e
  · cases hv with | cons h1 h2 =>
    cases h2; cases h1 with | lst ha hs =>
    split at e
    · rename_i x r hi
      cases e
      refine ⟨_, x :: r, rfl, ?_, by simp, fun k k1 k2 => ?_⟩
      · rw [← ints_of hi hs]; exact SqL.of (R.bsH m _ _ ha)
      · obtain ⟨s1, s2⟩ := minL_spec (l := x :: r) (by simp)
        have : k = minL (x :: r) := Int.le_antisymm (k2 _ s1) (s2 k k1)
        rw [this]; exact q _ _ _ Go.refl R (.int _)
    · cases e
  · cases e
theorem call_maxG (hc : X.calm = true) (hK : X.K = G.K := by rfl) : CallR X (.builtin "max") (rMax G.K) := by rw [← hK]; exact cr_max hc
theorem call_minG (hc : X.calm = true) (hK : X.K = G.K := by rfl) : CallR X (.builtin "min") (rMin G.K) := by rw [← hK]; exact cr_min hc
end
end
end NL
/-! ### the data layer: new objects of one's own -/
namespace NL
noncomputable section
open PySem L2
section
variable {X : Cx} {G : Gm} {m m' : Bool} {O : List Nat} {E : XK} {e : Expr} {es : List Expr} {F F1 F2 : Ex} {Fs : Exs}
variable {φ : Fr} {σ : L2.St} {B H : Hp} {ρ : Env} {S : SrcT}
/-- a new object, not yet shared -/
structure New (G : Gm) (φ : Fr) (O : List Nat) (σ : L2.St) (m : Bool) (B H : Hp) (S : SrcT) (a : Addr) (o : HO) (d : D) : Prop where
  at' : H a = some o
  nB : B a = none
  n0 : φ.H0 a = none
  np : φ.p ≠ some a
  dis : ∀ i, i ∈ O → σ[i]? ≠ some (some (.ref a))
  dat : DO G φ.p (bs m φ B H) o d
  nm : G.v = true → S.m a = none
def PgN (G : Gm) (φ : Fr) (m : Bool) (O : List Nat) (E : XK) (σ : L2.St) (ρ : Env) (B H : Hp) (r : Rs D) (Q : VK) : Prop := match r with
  | .bad => False
  | .exc c d S => XP G φ E B H c d S
  | .ok d S => ∀ a o B' H', Go φ B H B' H' → Rep G φ O σ B' H' ρ S → New G φ O σ m B' H' S a o d → H a = none → Q (.ref a) H'
  | .all p k => ∀ x, p x → PgN G φ m O E σ ρ B H (k x) Q
def tN (G : Gm) (m : Bool) (O : List Nat) (E : XK) (F : Ex) : TE := fun σ H Q => ∃ φ B ρ S, Rep G φ O σ B H ρ S ∧ PgN G φ m O E σ ρ B H (F ρ S) Q
theorem PgN.go {B1 H1 : Hp} {r : Rs D} {Q : VK} (g : Go φ B H B1 H1) (h : PgN G φ m O E σ ρ B H r Q) : PgN G φ m O E σ ρ B1 H1 r Q := by
  induction r with
  | bad => exact h
  | exc c d S => exact XP.go g h
  | ok a S => exact fun w o B' H' g' R' n' hn => h w o B' H' (g.trans g') R' n' (g.d _ hn)
  | all p k ih => exact fun x px => ih x (h x px)
theorem PgN.bind {ω' β : Type} {rel' : Rel ω' β} {r : Rs β} {k : β → SrcT → Rs D} {Q : VK} {Q' : ω' → Hp → Prop} (h : PgN G φ m O E σ ρ B H (r.bind k) Q)
    (hk : ∀ d S w B1 H1, Go φ B H B1 H1 → Rep G φ O σ B1 H1 ρ S → rel' φ.p (bs m' φ B1 H1) w d → PgN G φ m O E σ ρ B1 H1 (k d S) Q → Q' w H1) : Pg G φ m' O E σ ρ rel' B H r Q' := by
  induction r with
  | bad => exact h
  | exc c d S => exact h
  | ok a S => exact fun w B' H' g R hw => hk a S w B' H' g R hw (PgN.go g h)
  | all p k ih => exact fun x px => ih x (h x px)
theorem PgN.bindE {ω' β : Type} {rel' : Rel ω' β} {r : Rs β} {k : β → SrcT → Rs D} {Q : VK} {Q' : ω' → Hp → Prop} {P0 : β → Prop} (he : r.each P0) (h : PgN G φ m O E σ ρ B H (r.bind k) Q)
    (hk : ∀ d S w B1 H1, P0 d → Go φ B H B1 H1 → Rep G φ O σ B1 H1 ρ S → rel' φ.p (bs m' φ B1 H1) w d → PgN G φ m O E σ ρ B1 H1 (k d S) Q → Q' w H1) : Pg G φ m' O E σ ρ rel' B H r Q' := by
  induction r with
  | bad => exact h
  | exc c d S => exact h
  | ok a S => exact fun w B' H' g R hw => hk a S w B' H' he g R hw (PgN.go g h)
  | all p k ih => exact fun x px => ih x (he x) (h x px)
theorem Rep.attach (R : Rep G φ O σ B H ρ S) {a : Addr} {o : HO} {d : D} (n : New G φ O σ m B H S a o d) : Rep G φ O σ (upd B a o) H ρ S ∧ DV G φ.p (bs m φ (upd B a o) H) (.ref a) d := by
  have sB : Same B (upd B a o) := same_new n.nB
  refine ⟨⟨?_, R.fr, ?_, ?_, R.b0.trans sB, R.len, ?_, ?_, R.dis, R.al, ?_, R.vv, R.nov⟩, ?_⟩
  · intro c x h
    by_cases e : c = a
    · subst e; rw [upd_same] at h; rw [← h]; exact n.at'
    · rw [upd_ne e] at h; exact R.sub c x h
  · intro c x h hm
    by_cases e : c = a
    · subst e; exact .inr n.n0
    · rw [upd_ne e] at h; exact R.cl c x h hm
  · intro q hq
    have e : q ≠ a := fun e => n.np (e ▸ hq)
    exact ⟨by rw [upd_ne e]; exact (R.src q hq).1, (R.src q hq).2⟩
  · intro i d hi h
    obtain ⟨v, k1, k2⟩ := R.val i d hi h
    exact ⟨v, k1, k2.same sB⟩
  · intro i hi
    obtain ⟨b, o', d', k1, k2, k3, k4, k5, k6, k7⟩ := R.own i hi
    have e : b ≠ a := fun e => n.dis i hi (e ▸ k2)
    exact ⟨b, o', d', k1, k2, k3, by rw [upd_ne e]; exact k4, k5, k6, k7.same sB⟩
  · intro hv b c hc
    obtain ⟨h1, h2, h3, h4⟩ := R.mem hv b c hc
    have e : b ≠ a := fun e => by rw [e, n.nm hv] at hc; cases hc
    exact ⟨h1.move sB fun o h => h, by rw [upd_ne e]; exact h2, h3, h4⟩
  · have hs : Same (bs m φ B H) (bs m φ (upd B a o) H) := by
      unfold bs; split
      · exact Same.refl _
      · exact sB
    refine (n.dat.same hs).dv ?_
    unfold bs; split
    · rw [hideP_at n.np]; exact n.at'
    · exact upd_same
theorem PgN.of {r : Rs D} {Q : VK} (h : Pg G φ m O E σ ρ (DV G) B H r Q) : PgN G φ m O E σ ρ B H r Q := by
  induction r with
  | bad => exact h
  | exc c d S => exact h
  | ok d S1 =>
    intro a o B' H' g R' n hn
    obtain ⟨R2, dv⟩ := R'.attach n
    refine h (.ref a) (upd B' a o) H' ⟨g.b.trans (same_new n.nB), g.h, fun c x h hm => ?_, g.d⟩ R2 dv
    by_cases e : c = a
    · subst e; exact .inr hn
    · rw [upd_ne e] at h; exact g.n c x h hm
  | all p k ih => exact fun x px => ih x (h x px)
theorem de_ofN (h : PE X e (tN G m O E F)) : PE X e (tD G m O E F) := h.mono fun σ H Q ⟨φ, B, ρ, S, R, hp⟩ => ⟨φ, B, ρ, S, R, PgN.of hp⟩
/-- a list (or dict) laid at a free place -/
theorem Rep.newO (R : Rep G φ O σ B H ρ S) {a : Addr} {o : HO} {d : D} (n : H a = none) (hd : DO G φ.p (bs m φ B H) o d) : Rep G φ O σ B (upd H a o) ρ S ∧ Go φ B H B (upd H a o) ∧ New G φ O σ m B (upd H a o) S a o d := by
  obtain ⟨R', g, nB, n0, np⟩ := R.newN (o := o) n
  refine ⟨R', g, ⟨upd_same, nB, n0, np, fun i hi h => ?_, hd.same (g.bs m), fun hv => ?_⟩⟩
  · obtain ⟨b, o', d', k1, k2, k3, _⟩ := R.own i hi
    rw [k2] at h
    have e : b = a := by injection h with h; injection h with h; injection h
    rw [e, n] at k3; cases k3
  · cases hc : S.m a with
    | none => rfl
    | some c =>
      obtain ⟨x, hx, _⟩ := (R.mem hv a c hc).1.some
      rw [n] at hx; cases hx
theorem de_lstN {pos : Pos} (h : DA X es G m O E Fs) (hl : es.length ≤ 1000) : PE X (.List es pos) (tN G m O E (lstF Fs)) := by
  refine (pe_lst h.pa).mono fun σ H Q ⟨φ, B, ρ, S, R, hp⟩ => ⟨φ, B, ρ, S, R, ?_⟩
  unfold lstF at hp
  refine PgN.bindE (h.len ρ S) hp fun ds S1 ws B1 H1 hlen g R1 hws h1 => ?_
  have hlw : ws.length ≤ 1000 := by rw [hws.len, hlen]; exact hl
  refine ⟨sz1000 hlw, fun a na => ?_⟩
  obtain ⟨R', g', n'⟩ := R1.newO (m := m) (o := .lst ws) (d := .lst ds) na hws
  exact h1 a _ B1 _ g' R' n' na
theorem de_lst {pos : Pos} (h : DA X es G m O E Fs) (hl : es.length ≤ 1000) : PE X (.List es pos) (tD G m O E (lstF Fs)) := de_ofN (de_lstN h hl)
/-- a new list: xs + ys -/
def catD : D → D → Option D
  | .lst a, .lst b => if a.length + b.length ≤ 100000 then some (.lst (a ++ b)) else none
  | _, _ => none
theorem PgN.opt {o : Option D} {Q : VK} (h : PgN G φ m O E σ ρ B H (optF o S) Q) : ∃ d, o = some d ∧ ∀ a o B' H', Go φ B H B' H' → Rep G φ O σ B' H' ρ S → New G φ O σ m B' H' S a o d → H a = none → Q (.ref a) H' := by
  cases o with
  | none => exact h.elim
  | some d => exact ⟨d, rfl, h⟩
theorem de_catN (h : PE X e (tOp rCat (tD G m O E F1) (tD G m O E F2))) : PE X e (tN G m O E (binF catD F1 F2)) := by
  refine h.mono fun σ H Q ⟨φ, B, ρ, S, R, hp⟩ => ⟨φ, B, ρ, S, R, ?_⟩
  refine PgN.bind hp fun d1 S1 v1 B1 H1 g R1 hw h1 => ⟨φ, B1, ρ, S1, R1, ?_⟩
  refine PgN.bind h1 fun d2 S2 v2 B2 H2 g2 R2 hw2 h2 => ?_
  obtain ⟨d, e, q⟩ := h2.opt
  have hw := hw.same (g2.bs m)
  unfold catD at e
  split at e
  · split at e
    · rename_i hl
      cases hw with | lst ha hs => cases hw2 with | lst hb ht =>
      cases e
      refine ⟨_, _, _, _, rfl, rfl, R2.bsH m _ _ ha, R2.bsH m _ _ hb, sz100k (by rw [hs.len, ht.len]; exact hl), fun a na => ?_⟩
      obtain ⟨R', g', n'⟩ := R2.newO (m := m) (o := .lst _) (d := .lst _) na (hs.append ht)
      exact q a _ B2 _ g' R' n' na
    · cases e
  · cases e
/-- list(x); sorted(x) -/
def listD : List D → Option D
  | [.lst ds] => some (.lst ds)
  | [.tup ds] => some (.lst ds)
  | _ => none
def ArgNN (G : Gm) (m m' : Bool) (r : List V → Hp → VK → Prop) (f : List D → Option D) : Prop := ∀ {φ : Fr} {O : List Nat} {σ : L2.St} {B H : Hp} {ρ : Env} {S : SrcT} {vs : List V} {ds : List D} {d : D} {Q : VK}, Rep G φ O σ B H ρ S → DVs G φ.p (bs m φ B H) vs ds → f ds = some d →
  (∀ a o B' H', Go φ B H B' H' → Rep G φ O σ B' H' ρ S → New G φ O σ m' B' H' S a o d → H a = none → Q (.ref a) H') → r vs H Q
theorem de_argN {r : List V → Hp → VK → Prop} {f : List D → Option D} (hb : ArgNN G m m' r f) (h : PE X e (tCB r (tDs G m O E Fs))) : PE X e (tN G m' O E (argF f Fs)) := by
  refine h.mono fun σ H Q ⟨φ, B, ρ, S, R, hp⟩ => ⟨φ, B, ρ, S, R, ?_⟩
  refine PgN.bind hp fun d1 S1 v1 B1 H1 g R1 hw h1 => ?_
  obtain ⟨d, e, q⟩ := h1.opt
  exact hb R1 hw e q
theorem call_listG (hK : X.K = G.K := by rfl) : CallR X (.type "list") (rListOf G.K) := by rw [← hK]; exact call_list_of
theorem arg_listN : ArgNN G m m (rListOf G.K) listD := by
  intro φ O σ B H ρ S vs ds d Q R hv e q
  unfold listD at e
  split at e
  · cases hv with | cons h1 h2 =>
    cases h2; cases h1 with | lst ha hs =>
    cases e
    refine ⟨_, _, rfl, .inl (SqL.of (R.bsH m _ _ ha)), fun a na => ?_⟩
    obtain ⟨R', g', n'⟩ := R.newO (m := m) (o := .lst _) (d := .lst _) na hs
    exact q a _ B _ g' R' n' na
  · cases hv with | cons h1 h2 =>
    cases h2; cases h1 with | tup ha hs =>
    cases e
    refine ⟨_, _, rfl, .inr (sq_bs R ha), fun a na => ?_⟩
    obtain ⟨R', g', n'⟩ := R.newO (m := m) (o := .lst _) (d := .lst _) na hs
    exact q a _ B _ g' R' n' na
  · cases e
/-- tuple(x) -/
def tupleD : List D → Option D
  | [.lst ds] => some (.tup ds)
  | [.tup ds] => some (.tup ds)
  | _ => none
theorem call_tupleG (hK : X.K = G.K := by rfl) : CallR X (.type "tuple") (rTupOf G.K) := by rw [← hK]; exact call_tuple_of
theorem arg_tuple : ArgN G m m (rTupOf G.K) tupleD := by
  intro φ O σ B H ρ S vs ds d Q R hv e q
  unfold tupleD at e
  split at e
  · cases hv with | cons h1 h2 =>
    cases h2; cases h1 with | lst ha hs =>
    cases e
    refine ⟨_, _, rfl, .inl ⟨SqL.of (R.bsH m _ _ ha), fun a na => ?_⟩⟩
    obtain ⟨R', g, np⟩ := R.new na
    exact q _ _ _ g R' (.tup (SqT.of (bs_new m np)) (hs.same (g.bs m)))
  · cases hv with | cons h1 h2 =>
    cases h2; cases h1 with | tup ha hs =>
    cases e
    exact ⟨_, _, rfl, .inr ⟨sq_bs R ha, q _ _ _ Go.refl R (.tup ha hs)⟩⟩
  · cases e
/-! sorted -/
def insI (x : Int) : List Int → List Int
  | [] => [x]
  | y :: r => if x ≤ y then x :: y :: r else y :: insI x r
def sortI : List Int → List Int
  | [] => []
  | x :: r => insI x (sortI r)
theorem insI_perm (x : Int) : ∀ l, (insI x l).Perm (x :: l)
  | [] => .refl _
  | y :: r => by
    rw [insI]; split
    · exact .refl _
    · exact ((insI_perm x r).cons y).trans (.swap x y r)
theorem sortI_perm : ∀ l, (sortI l).Perm l
  | [] => .refl _
  | x :: r => (insI_perm x (sortI r)).trans ((sortI_perm r).cons x)
theorem insI_sorted (x : Int) : ∀ {l : List Int}, l.Pairwise (· ≤ ·) → (insI x l).Pairwise (· ≤ ·)
  | [], _ => by simp [insI]
  | y :: r, h => by
    rw [insI]; split
    · rename_i hxy
      refine List.pairwise_cons.mpr ⟨fun z hz => ?_, h⟩
      rcases List.mem_cons.mp hz with rfl | hz
      · exact hxy
      · exact Int.le_trans hxy ((List.pairwise_cons.mp h).1 z hz)
    · rename_i hxy
      obtain ⟨h1, h2⟩ := List.pairwise_cons.mp h
      refine List.pairwise_cons.mpr ⟨fun z hz => ?_, insI_sorted x h2⟩
      rcases List.mem_cons.mp ((insI_perm x r).mem_iff.mp hz) with rfl | hz
      · omega
      · exact h1 z hz
theorem sortI_sorted : ∀ l, (sortI l).Pairwise (· ≤ ·)
  | [] => .nil
  | x :: r => insI_sorted x (sortI_sorted r)
theorem sort_unique {l l' : List Int} (p : l.Perm l') (h : l.Pairwise (· ≤ ·)) (h' : l'.Pairwise (· ≤ ·)) : l = l' :=
  p.eq_of_pairwise (fun a b _ _ h1 h2 => Int.le_antisymm h1 h2) h h'
def sortedD : List D → Option D
  | [.lst ds] => (intsD ds).map fun ns => .lst ((sortI ns).map D.int)
  | _ => none
theorem call_sortG (hK : X.K = G.K := by rfl) : CallR X (.builtin "sorted") (rSortedI G.K) := by rw [← hK]; exact cr_sortedI
theorem dvs_ints {p : Option Addr} : ∀ ns : List Int, DVs G p B (ns.map V.int) (ns.map D.int)
  | [] => .nil
  | n :: ns => .cons (.int n) (dvs_ints ns)
theorem arg_sortN : ArgNN G m m' (rSortedI G.K) sortedD := by
  intro φ O σ B H ρ S vs ds d Q R hv e q
  unfold sortedD at e
  split at e
  · cases hv with | cons h1 h2 =>
    cases h2; cases h1 with | lst ha hs =>
    obtain ⟨ns, h3, rfl⟩ := Option.map_eq_some_iff.mp e
    refine ⟨_, ns, rfl, ?_, fun ns' a pm so na => ?_⟩
    · rw [← ints_of h3 hs]; exact SqL.of (R.bsH m _ _ ha)
    · have : ns' = sortI ns := sort_unique (pm.trans (sortI_perm ns).symm) so (sortI_sorted ns)
      subst this
      obtain ⟨R', g', n'⟩ := R.newO (m := m') (o := .lst _) (d := .lst _) na (dvs_ints (sortI ns))
      exact q a _ B _ g' R' n' na
  · cases e
end
end
end NL
/-! ### the data layer: walks, targets, comprehensions -/
namespace NL
noncomputable section
open PySem L2
theorem _root_.L2.PI.mono {X : Cx} {tg e : Expr} {t t' : TI} (h : PI X tg e t) (s : ∀ σ H Q, t' σ H Q → t σ H Q) : PI X tg e t' := ⟨fun pins s0 σ H Q I hw => h.run pins s0 σ H Q I (s σ H Q hw)⟩
theorem _root_.L2.PG.mono {X : Cx} {tg : Expr} {t t' : TG} (h : PG X tg t) (s : ∀ v σ H Q, t' v σ H Q → t v σ H Q) : PG X tg t' := ⟨fun pins s0 σ H v u Q I r hw => h.run pins s0 σ H v u Q I r (s v σ H Q hw)⟩
theorem _root_.L2.PGs.mono {X : Cx} {tg : List Expr} {t t' : TGs} (h : PGs X tg t) (s : ∀ v σ H Q, t' v σ H Q → t v σ H Q) : PGs X tg t' := ⟨fun pins s0 σ H v u Q I r hw => h.run pins s0 σ H v u Q I r (s v σ H Q hw)⟩
theorem _root_.L2.PTs.mono {X : Cx} {e : List Expr} {t t' : TT} (h : PTs X e t) (s : ∀ σ H Q, t' σ H Q → t σ H Q) : PTs X e t' := ⟨fun pins s0 σ H Q I hw => h.run pins s0 σ H Q I (s σ H Q hw)⟩
/-- what a turn gives -/
def YD (G : Gm) (p : Option Addr) (B : Hp) (ds : List D) : Nat → Hp → V → Hp → Prop := fun i H x H' => ∃ d, ds[i]? = some d ∧ ((H' = H ∧ DV G p B x d) ∨ ∃ T o, x = .ref T ∧ H T = none ∧ H' = upd H T o ∧ ∀ B2, Same B B2 → B2 T = none → DV G p (upd B2 T o) x d)
structure DWalk (G : Gm) (p : Option Addr) (B : Hp) (J : It) (ds : List D) : Prop where
  ex : ∃ Gd : Hp → Prop, (∀ H, Same B H → Gd H) ∧ Walk J ds.length Gd (YD G p B ds)
abbrev tI (G : Gm) (O : List Nat) (E : XK) (F : Exs) : TI := tG G false O E (DWalk G) F
def iSeq2 (K : PySem.W.Frag) (tl : TE) : TI := fun σ H R => tl σ H fun x H1 => ∃ a xs, x = .ref a ∧ ((SqL K H1 a xs ∧ R (Itl K a) H1) ∨ (SqT K H1 a xs ∧ R (Itt K a) H1))
section
variable {X : Cx}
theorem pi_seq2 {tg l : Expr} {tl : TE} (hl : PE X l tl) : PI X tg l (iSeq2 X.K tl) := by
  refine ⟨fun pins s σ H R I h => ?_⟩
  refine thn (hl.run pins s σ H _ I h) fun v s1 ⟨x, H1, I1, r1, q1⟩ => ?_
  obtain ⟨a, xs, e, hq⟩ := q1
  subst e
  cases r1
  rcases hq with ⟨hq, q⟩ | ⟨hq, q⟩
  · obtain ⟨its, rv, p, hz⟩ := I1.list hq
    refine wpAny_pyIter_list p.isList ?_
    refine ⟨s1.heap.objs.size, [s1.heap.objs.size], _, _, H1, rfl, I1.kept (t' := s1.toks) fun b o e => Heap.get?_push_of_some _ e, turn_list a _, ⟨_, Heap.get?_push_size _ rfl, rfl, rfl⟩, fun b hb => ?_, q⟩
    have e : b = s1.heap.objs.size := by simpa using hb
    subst e
    exact I1.fpOk (Nat.le_refl _) (I1.hok.fresh (Nat.le_refl _))
  · obtain ⟨its, rv, p, hz⟩ := I1.tuple hq
    refine wpAny_pyIter_tuple (show s1.heap.IsTuple a its.toArray from p) ?_
    refine ⟨s1.heap.objs.size, [s1.heap.objs.size], _, _, H1, rfl, I1.kept (t' := s1.toks) fun b o e => Heap.get?_push_of_some _ e, turn_tuple a _, ⟨_, Heap.get?_push_size _ rfl, rfl, rfl⟩, fun b hb => ?_, q⟩
    have e : b = s1.heap.objs.size := by simpa using hb
    subst e
    exact I1.fpOk (Nat.le_refl _) (I1.hok.fresh (Nat.le_refl _))
end
def seqF (F : Ex) : Exs := fun ρ S => (F ρ S).bind fun d S1 => match seqD d with
  | some ds => .ok ds S1
  | none => .bad
def rngD (lo : Int) (n : Nat) : List D := (List.range n).map fun i : Nat => D.int (lo + (i : Int))
def okR (i : Int) : Bool := decide (-1000000000000 ≤ i) && decide (i ≤ 1000000000000)
def rng1F (Fs : Exs) : Exs := fun ρ S => (Fs ρ S).bind fun ds S1 => match ds with
  | [.int j] => if okR j = true then .ok (rngD 0 j.toNat) S1 else .bad
  | _ => .bad
def rng2F (Fs : Exs) : Exs := fun ρ S => (Fs ρ S).bind fun ds S1 => match ds with
  | [.int i, .int j] => if (okR i && okR j) = true then .ok (rngD i (j - i).toNat) S1 else .bad
  | _ => .bad
def signsD (z : Str) : List D := z.cps.toList.map fun c => D.str ⟨#[c]⟩
def strF (F : Ex) : Exs := fun ρ S => (F ρ S).bind fun d S1 => match d with
  | .str z => .ok (signsD z) S1
  | _ => .bad
section
variable {X : Cx} {G : Gm} {m m' : Bool} {O : List Nat} {E : XK} {e tg : Expr} {es : List Expr} {F F1 F2 : Ex} {Fs : Exs}
variable {φ : Fr} {σ : L2.St} {B H : Hp} {ρ : Env} {S : SrcT}
theorem di_seq (h : PE X e (tD G false O E F)) (hK : X.K = G.K := by rfl) : PI X tg e (tI G O E (seqF F)) := by
  refine (pi_seq2 h).mono fun σ H R' ⟨φ, B, ρ, S, R, hp⟩ => ⟨φ, B, ρ, S, R, ?_⟩
  rw [hK]
  refine Pg.bind hp fun d S1 w B1 H1 g1 R1 hw h1 => ?_
  have hw : DV G φ.p B1 w d := hw
  cases hw with
  | lst ha hs =>
    refine ⟨_, _, rfl, .inl ⟨SqL.of (R1.sub _ _ ha), Pg.ok h1 R1 ⟨fun H2 => SqL G.K H2 _ _, fun H2 s2 => SqL.of (s2 _ _ ha), ?_⟩⟩⟩
    rw [← hs.len]
    refine walk_list.mono (fun _ h => h) fun i H3 x H4 hi _ y => ?_
    obtain ⟨e1, e2⟩ := y
    obtain ⟨d', k1, k2⟩ := hs.getV e2
    exact ⟨d', k1, .inl ⟨e1, k2⟩⟩
  | tup ha hs =>
    refine ⟨_, _, rfl, .inr ⟨SqT_same R1.sub ha, Pg.ok h1 R1 ⟨fun H2 => SqT G.K H2 _ _, fun H2 s2 => SqT_same s2 ha, ?_⟩⟩⟩
    rw [← hs.len]
    refine walk_tup.mono (fun _ h => h) fun i H3 x H4 hi _ y => ?_
    obtain ⟨e1, e2⟩ := y
    obtain ⟨d', k1, k2⟩ := hs.getV e2
    exact ⟨d', k1, .inl ⟨e1, k2⟩⟩
  | _ => exact h1.elim
theorem rngD_get (lo : Int) (n i : Nat) (h : i < n) : (rngD lo n)[i]? = some (.int (lo + (i : Int))) := by
  unfold rngD; rw [List.getElem?_map, List.getElem?_range h]; rfl
theorem rng_walk {p : Option Addr} {lo : Int} {n : Nat} : DWalk G p B (Itr lo n) (rngD lo n) := by
  refine ⟨fun _ => True, fun _ _ => True.intro, ?_⟩
  have el : (rngD lo n).length = n := by unfold rngD; simp
  rw [el]
  refine walk_range.mono (fun _ h => h) fun i H3 x H4 hi _ y => ?_
  obtain ⟨e1, e2⟩ := y
  exact ⟨_, rngD_get lo n i hi, .inl ⟨e1, e2 ▸ .int _⟩⟩
theorem di_rng1 (h : PI X tg e (iRng1 (tDs G true O E Fs))) : PI X tg e (tI G O E (rng1F Fs)) := by
  refine h.mono fun σ H R' ⟨φ, B, ρ, S, R, hp⟩ => ⟨φ, B, ρ, S, R, ?_⟩
  refine Pg.bind hp fun d S1 w B1 H1 g1 R1 hw h1 => ?_
  split at h1
  · split at h1
    · rename_i j hj
      unfold okR at hj; simp only [Bool.and_eq_true, decide_eq_true_eq] at hj
      cases hw with | cons k1 k2 =>
      cases k2; cases k1
      exact ⟨j, rfl, by omega, by omega, Pg.ok h1 R1 rng_walk⟩
    · exact h1.elim
  · exact h1.elim
theorem di_rng2 (h : PI X tg e (iRng2 (tDs G true O E Fs))) : PI X tg e (tI G O E (rng2F Fs)) := by
  refine h.mono fun σ H R' ⟨φ, B, ρ, S, R, hp⟩ => ⟨φ, B, ρ, S, R, ?_⟩
  refine Pg.bind hp fun d S1 w B1 H1 g1 R1 hw h1 => ?_
  split at h1
  · split at h1
    · rename_i i j hj
      unfold okR at hj; simp only [Bool.and_eq_true, decide_eq_true_eq] at hj
      cases hw with | cons k1 k2 =>
      cases k2 with | cons k2 k3 =>
      cases k3; cases k1; cases k2
      exact ⟨i, j, rfl, ⟨by omega, by omega, by omega, by omega⟩, Pg.ok h1 R1 rng_walk⟩
    · exact h1.elim
  · exact h1.elim
theorem di_str (h : PE X e (tD G true O E F)) : PI X tg e (tI G O E (strF F)) := by
  refine (pi_str h).mono fun σ H R' ⟨φ, B, ρ, S, R, hp⟩ => ⟨φ, B, ρ, S, R, ?_⟩
  refine Pg.bind hp fun d S1 w B1 H1 g1 R1 hw h1 => ?_
  cases hw with
  | str z =>
    refine ⟨z, rfl, Pg.ok h1 R1 ⟨fun _ => True, fun _ _ => True.intro, ?_⟩⟩
    have el : (signsD z).length = z.cps.size := by unfold signsD; simp
    rw [el]
    refine walk_str.mono (fun _ h => h) fun i H3 x H4 hi _ y => ?_
    obtain ⟨e1, c, e2, rfl⟩ := y
    refine ⟨.str ⟨#[c]⟩, ?_, .inl ⟨e1, .str _⟩⟩
    unfold signsD
    rw [List.getElem?_map]
    have : z.cps.toList[i]? = some c := by simpa using e2
    rw [this]; rfl
  | _ => exact h1.elim
/-! pairs -/
def enumD (ds : List D) : List D := (List.range ds.length).zipWith (fun (i : Nat) d => D.tup [.int (i : Int), d]) ds
def zipD (a b : List D) : List D := a.zipWith (fun x y => D.tup [x, y]) b
theorem pair_YD {p : Option Addr} {ds : List D} {i : Nat} {H H' : Hp} {x : V} {d1 d2 : D} {xs ys : Nat → Option V} (hd : ds[i]? = some (.tup [d1, d2])) (hx : ∀ v, xs i = some v → DV G p B v d1) (hy : ∀ v, ys i = some v → DV G p B v d2) (y : YPair xs ys i H x H') : YD G p B ds i H x H' := by
  obtain ⟨T, a, b, rfl, nT, e, h1, h2⟩ := y
  refine ⟨_, hd, .inr ⟨T, _, rfl, nT, e, fun B2 s2 n2 => ?_⟩⟩
  have s3 := s2.trans (same_new (o := .tup [a, b]) n2)
  exact .tup (SqT.of upd_same) (.cons ((hx a h1).same s3) (.cons ((hy b h2).same s3) .nil))
theorem enumD_get {ds : List D} {i : Nat} {d : D} (h : ds[i]? = some d) : (enumD ds)[i]? = some (.tup [.int (i : Int), d]) := by
  have hi : i < ds.length := (List.getElem?_eq_some_iff.mp h).1
  unfold enumD
  rw [List.getElem?_zipWith, List.getElem?_range hi, h]
theorem enumD_len (ds : List D) : (enumD ds).length = ds.length := by unfold enumD; simp
theorem zipD_get {a b : List D} {i : Nat} {x y : D} (h : a[i]? = some x) (h2 : b[i]? = some y) : (zipD a b)[i]? = some (.tup [x, y]) := by
  unfold zipD
  rw [List.getElem?_zipWith, h, h2]
theorem zipD_len (a b : List D) : (zipD a b).length = min a.length b.length := by unfold zipD; simp
def enumF (Fs : Exs) : Exs := fun ρ S => (Fs ρ S).bind fun ds S1 => match ds with
  | [.lst ds] => .ok (enumD ds) S1
  | _ => .bad
def enumTF (Fs : Exs) : Exs := fun ρ S => (Fs ρ S).bind fun ds S1 => match ds with
  | [.tup ds] => .ok (enumD ds) S1
  | _ => .bad
def zipF (Fs : Exs) : Exs := fun ρ S => (Fs ρ S).bind fun ds S1 => match ds with
  | [.lst a, .lst b] => .ok (zipD a b) S1
  | _ => .bad
theorem di_enum (h : PI X tg e (iEnum X.K (tDs G false O E Fs))) (hK : X.K = G.K := by rfl) : PI X tg e (tI G O E (enumF Fs)) := by
  refine h.mono fun σ H R' ⟨φ, B, ρ, S, R, hp⟩ => ⟨φ, B, ρ, S, R, ?_⟩
  rw [hK]
  refine Pg.bind hp fun d S1 w B1 H1 g1 R1 hw h1 => ?_
  split at h1
  · cases hw with | cons k1 k2 =>
    cases k2; cases k1 with | lst ha hs =>
    have ha : B1 _ = some _ := ha
    have hs : DVs G φ.p B1 _ _ := hs
    refine ⟨_, _, rfl, SqL.of (R1.sub _ _ ha), Pg.ok h1 R1 ⟨fun H2 => SqL G.K H2 _ _, fun H2 s2 => SqL.of (s2 _ _ ha), ?_⟩⟩
    rw [enumD_len, ← hs.len]
    refine walk_enum.mono (fun _ h => h) fun i H3 x H4 hi _ y => ?_
    obtain ⟨d, hd⟩ : ∃ d, (_ : List D)[i]? = some d := ⟨_, List.getElem?_eq_getElem (hs.len ▸ hi)⟩
    refine pair_YD (enumD_get hd) (fun v hv => ?_) (fun v hv => ?_) y
    · cases hv; exact .int _
    · obtain ⟨d', k1, k2⟩ := hs.getV hv
      rw [hd] at k1; cases k1; exact k2
  · exact h1.elim
theorem di_zip (h : PI X tg e (iZip X.K (tDs G false O E Fs))) (hK : X.K = G.K := by rfl) : PI X tg e (tI G O E (zipF Fs)) := by
  refine h.mono fun σ H R' ⟨φ, B, ρ, S, R, hp⟩ => ⟨φ, B, ρ, S, R, ?_⟩
  rw [hK]
  refine Pg.bind hp fun d S1 w B1 H1 g1 R1 hw h1 => ?_
  split at h1
  · cases hw with | cons k1 k2 =>
    cases k2 with | cons k2 k3 =>
    cases k3; cases k1 with | lst ha hs => cases k2 with | lst hb ht =>
    have ha : B1 _ = some _ := ha
    have hb : B1 _ = some _ := hb
    have hs : DVs G φ.p B1 _ _ := hs
    have ht : DVs G φ.p B1 _ _ := ht
    refine ⟨_, _, _, _, rfl, SqL.of (R1.sub _ _ ha), SqL.of (R1.sub _ _ hb), Pg.ok h1 R1 ⟨fun H2 => SqL G.K H2 _ _ ∧ SqL G.K H2 _ _, fun H2 s2 => ⟨SqL.of (s2 _ _ ha), SqL.of (s2 _ _ hb)⟩, ?_⟩⟩
    rw [zipD_len]
    refine (walk_zip (by rw [hs.len, ht.len])).mono (fun _ h => h) fun i H3 x H4 hi _ y => ?_
    obtain ⟨d1, hd1⟩ : ∃ d, (_ : List D)[i]? = some d := ⟨_, List.getElem?_eq_getElem (Nat.lt_of_lt_of_le hi (Nat.min_le_left _ _))⟩
    obtain ⟨d2, hd2⟩ : ∃ d, (_ : List D)[i]? = some d := ⟨_, List.getElem?_eq_getElem (Nat.lt_of_lt_of_le hi (Nat.min_le_right _ _))⟩
    refine pair_YD (zipD_get hd1 hd2) (fun v hv => ?_) (fun v hv => ?_) y
    · obtain ⟨d', k1, k2⟩ := hs.getV hv
      rw [hd1] at k1; cases k1; exact k2
    · obtain ⟨d', k1, k2⟩ := ht.getV hv
      rw [hd2] at k1; cases k1; exact k2
  · exact h1.elim
end
end
end NL
/-! ### the data layer: targets, comprehensions -/
namespace NL
noncomputable section
open PySem L2
section
variable {X : Cx} {G : Gm} {m m' : Bool} {O O2 : List Nat} {E : XK} {e tg : Expr} {es : List Expr} {F F1 F2 : Ex} {Fs : Exs}
variable {φ : Fr} {σ σ2 : L2.St} {B H B' H' : Hp} {ρ ρ2 : Env} {S S' : SrcT}
theorem Go.at {a : Addr} {o : HO} (g : Go φ B H B' H') (hv : φ.v = false) (np : φ.p ≠ some a) (h : H a = some o) : H' a = some o := by
  have := g.h hv a o (by rw [hideP_at np]; exact h)
  rw [hideP_at np] at this; exact this
/-- slots at a later place -/
theorem Rep.move (R : Rep G φ O σ B H ρ S) (g : Go φ B H B' H') (R' : Rep G φ O2 σ2 B' H' ρ2 S') : Rep G φ O σ B' H' ρ S' := by
  refine ⟨R'.sub, R'.fr, R'.cl, R'.src, R'.b0, R.len, ?_, ?_, R.dis, R'.al, R'.mem, R.vv, R.nov⟩
  · intro i d hi h
    obtain ⟨v, k1, k2⟩ := R.val i d hi h
    exact ⟨v, k1, k2.same g.b⟩
  · intro i hi
    obtain ⟨a, o, d, k1, k2, k3, k4, k5, k6, k7⟩ := R.own i hi
    have hH' := g.at (R.ownv hi) k6 k3
    refine ⟨a, o, d, k1, k2, hH', ?_, k5, k6, k7.same g.b⟩
    cases h : B' a with
    | none => rfl
    | some x =>
      have hx : x = o := by
        have := R'.sub a x h
        rw [hH'] at this; exact (Option.some.inj this).symm
      rcases g.n a x h (hx ▸ k7.mut) with k | k
      · rw [k4] at k; cases k
      · rw [k3] at k; cases k
/-- what no one shares is changed -/
theorem Rep.poke (R : Rep G φ O σ B H ρ S) {a : Addr} {o : HO} (nB : B a = none) (n0 : φ.H0 a = none) (np : φ.p ≠ some a) (hd : ∀ i, i ∈ O → σ[i]? ≠ some (some (.ref a))) (hm : G.v = true → S.m a = none) : Rep G φ O σ B (upd H a o) ρ S := by
  refine ⟨?_, ?_, R.cl, ?_, R.b0, R.len, R.val, ?_, R.dis, fun c h => R.al c (upd_no h), ?_, R.vv, R.nov⟩
  · intro c x h
    have e : c ≠ a := fun e => by rw [e, nB] at h; cases h
    rw [upd_ne e]; exact R.sub c x h
  · intro c x hp hm h
    have e : c ≠ a := fun e => by rw [e, n0] at h; cases h
    rw [upd_ne e]; exact R.fr c x hp hm h
  · intro q hq
    have e : q ≠ a := fun e => np (e ▸ hq)
    obtain ⟨h1, h2, h3⟩ := R.src q hq
    exact ⟨h1, by rw [upd_ne e]; exact h2, h3⟩
  · intro i hi
    obtain ⟨b, o', d, k1, k2, k3, k4, k5, k6, k7⟩ := R.own i hi
    have e : b ≠ a := fun e => hd i hi (e ▸ k2)
    exact ⟨b, o', d, k1, k2, by rw [upd_ne e]; exact k3, k4, k5, k6, k7⟩
  · intro hv b c hc
    obtain ⟨h1, h2, h3, h4⟩ := R.mem hv b c hc
    have e : b ≠ a := fun e => by rw [e, hm hv] at hc; cases hc
    exact ⟨h1.move (Same.refl _) fun o h => by rw [upd_ne e]; exact h, h2, h3, h4⟩
theorem Rep.set (R : Rep G φ O σ B H ρ S) {i : Nat} {v : V} {d : D} (hi : i ∉ O) (h : DV G φ.p B v d) : Rep G φ O (σ.set i (some v)) B H (ρ.set i (some d)) S := by
  refine ⟨R.sub, R.fr, R.cl, R.src, R.b0, by rw [List.length_set, List.length_set]; exact R.len, ?_, ?_, ?_, R.al, R.mem, R.vv, R.nov⟩
  · intro j d' hj hd
    by_cases e : i = j
    · subst e
      rw [List.getElem?_set] at hd ⊢
      rw [if_pos rfl] at hd ⊢
      split at hd
      · rename_i hl
        rw [if_pos (by rw [R.len]; exact hl)]
        cases hd
        exact ⟨v, rfl, h⟩
      · cases hd
    · rw [List.getElem?_set_ne e] at hd ⊢
      exact R.val j d' hj hd
  · intro j hj
    have e : i ≠ j := fun e => hi (e ▸ hj)
    rw [List.getElem?_set_ne e, List.getElem?_set_ne e]
    exact R.own j hj
  · intro j k hj hk
    have e : i ≠ j := fun e => hi (e ▸ hj)
    have e2 : i ≠ k := fun e => hi (e ▸ hk)
    rw [List.getElem?_set_ne e, List.getElem?_set_ne e2]
    exact R.dis j k hj hk
theorem Rep.unset (R : Rep G φ O σ B H ρ S) {i : Nat} (hi : i ∉ O) : Rep G φ O (σ.set i none) B H (ρ.set i none) S := by
  refine ⟨R.sub, R.fr, R.cl, R.src, R.b0, by rw [List.length_set, List.length_set]; exact R.len, ?_, ?_, ?_, R.al, R.mem, R.vv, R.nov⟩
  · intro j d' hj hd
    by_cases e : i = j
    · subst e
      rw [List.getElem?_set] at hd
      rw [if_pos rfl] at hd
      split at hd
      · cases hd
      · cases hd
    · rw [List.getElem?_set_ne e] at hd ⊢
      exact R.val j d' hj hd
  · intro j hj
    have e : i ≠ j := fun e => hi (e ▸ hj)
    rw [List.getElem?_set_ne e, List.getElem?_set_ne e]
    exact R.own j hj
  · intro j k hj hk
    have e : i ≠ j := fun e => hi (e ▸ hj)
    have e2 : i ≠ k := fun e => hi (e ▸ hk)
    rw [List.getElem?_set_ne e, List.getElem?_set_ne e2]
    exact R.dis j k hj hk
def wipeE (ρ : Env) : List Nat → Env
  | [] => ρ
  | v :: vs => (wipeE ρ vs).set v none
theorem Rep.wipe (R : Rep G φ O σ B H ρ S) : ∀ {vs : List Nat}, (∀ i, i ∈ vs → i ∉ O) → Rep G φ O (L2.wipe σ vs) B H (wipeE ρ vs) S
  | [], _ => R
  | v :: vs, h => (Rep.wipe R fun i hi => h i (List.mem_cons_of_mem _ hi)).unset (h v List.mem_cons_self)
theorem wipe_get (σ : L2.St) : ∀ (vs : List Nat) (k : Nat), (L2.wipe σ vs)[k]? = if k ∈ vs then (if k < σ.length then some none else none) else σ[k]?
  | [], k => by simp [L2.wipe]
  | v :: vs, k => by
    show ((L2.wipe σ vs).set v none)[k]? = _
    rw [List.getElem?_set]
    by_cases e : v = k
    · subst e
      rw [if_pos rfl, wipe_length, if_pos List.mem_cons_self]
    · rw [if_neg e, wipe_get σ vs k]
      have e2 : ¬ k = v := fun q => e q.symm
      simp [e2]
/-! targets -/
/-- the slots is may be other -/
def Frm (is : List Nat) (σ σ' : L2.St) : Prop := σ'.length = σ.length ∧ ∀ k, k ∉ is → σ'[k]? = σ[k]?
theorem Frm.wipe {is vs : List Nat} (h : Frm is (L2.wipe σ vs) σ2) (hs : ∀ k, k ∈ is → k ∈ vs) : L2.wipe σ2 vs = L2.wipe σ vs := by
  apply List.ext_getElem?
  intro k
  have hl : σ2.length = σ.length := by rw [h.1, wipe_length]
  rw [wipe_get, wipe_get, hl]
  split
  · rfl
  · rename_i hk
    rw [h.2 k (fun q => hk (hs k q)), wipe_get, if_neg hk]
abbrev Tgt := D → Env → Option Env
abbrev Tgts := List D → Env → Option Env
def tTg (G : Gm) (O is : List Nat) (g : Tgt) : TG := fun v σ H Q => ∃ φ B ρ S d ρ', Rep G φ O σ B H ρ S ∧ DV G φ.p B v d ∧ g d ρ = some ρ' ∧ ∀ σ', Rep G φ O σ' B H ρ' S → Frm is σ σ' → Q σ' H
def tTgs (G : Gm) (O is : List Nat) (g : Tgts) : TGs := fun vs σ H Q => ∃ φ B ρ S ds ρ', Rep G φ O σ B H ρ S ∧ DVs G φ.p B vs ds ∧ g ds ρ = some ρ' ∧ ∀ σ', Rep G φ O σ' B H ρ' S → Frm is σ σ' → Q σ' H
def gN (i : Nat) : Tgt := fun d ρ => some (ρ.set i (some d))
def gsNil : Tgts := fun ds ρ => match ds with
  | [] => some ρ
  | _ => none
def gsCons (g : Tgt) (gs : Tgts) : Tgts := fun ds ρ => match ds with
  | d :: ds => (g d ρ).bind fun ρ1 => gs ds ρ1
  | [] => none
def gT (n : Nat) (gs : Tgts) : Tgt := fun d ρ => match seqD d with
  | some ds => if ds.length = n then gs ds ρ else none
  | none => none
theorem dg_name {i : Nat} (h : PG X tg (gName i)) (hi : i ∉ O) : PG X tg (tTg G O [i] (gN i)) := by
  refine h.mono fun v σ H Q ⟨φ, B, ρ, S, d, ρ', R, hd, hg, q⟩ => ?_
  cases hg
  refine q _ (R.set hi hd) ⟨by rw [List.length_set], fun k hk => ?_⟩
  rw [List.getElem?_set_ne]
  intro e; exact hk (e ▸ List.mem_cons_self)
theorem Frm.trans {is js : List Nat} {σ1 σ2 σ3 : L2.St} (h : Frm is σ1 σ2) (h2 : Frm js σ2 σ3) : Frm (is ++ js) σ1 σ3 :=
  ⟨h2.1.trans h.1, fun k hk => by rw [h2.2 k (fun q => hk (List.mem_append_right _ q)), h.2 k (fun q => hk (List.mem_append_left _ q))]⟩
theorem dgs_nil : PGs X [] (tTgs G O [] gsNil) := by
  refine pgs_nil.mono fun vs σ H Q ⟨φ, B, ρ, S, ds, ρ', R, hd, hg, q⟩ => ?_
  unfold gsNil at hg
  split at hg
  · cases hg; cases hd; exact ⟨rfl, q _ R ⟨rfl, fun _ _ => rfl⟩⟩
  · cases hg
theorem dgs_cons {is js : List Nat} {g : Tgt} {gs : Tgts} (h1 : PG X e (tTg G O is g)) (h2 : PGs X es (tTgs G O js gs)) (hs : (assignEach (e :: es) X.env).map (·.2) = assign e X.env :: (assignEach es X.env).map (·.2) := by rfl) : PGs X (e :: es) (tTgs G O (is ++ js) (gsCons g gs)) := by
  refine (pgs_cons h1 h2 hs).mono fun vs σ H Q ⟨φ, B, ρ, S, ds, ρ', R, hd, hg, q⟩ => ?_
  unfold gsCons at hg
  split at hg
  · cases hd with | cons k1 k2 =>
    cases hg1 : g _ ρ with
    | none => rw [hg1] at hg; cases hg
    | some ρ1 =>
      rw [hg1] at hg
      refine ⟨_, _, rfl, φ, B, ρ, S, _, ρ1, R, k1, hg1, fun σ1 R1 f1 => ?_⟩
      exact ⟨φ, B, ρ1, S, _, ρ', R1, k2, hg, fun σ2 R2 f2 => q σ2 R2 (f1.trans f2)⟩
  · cases hg
theorem dg_tup {k n : Nat} {is : List Nat} {gs : Tgts} {pos : Pos} (hc : X.calm = true) (h : PGs X es (tTgs G O is gs)) (hn : (assignEach es X.env).length = n := by rfl) (hst : (assignEach es X.env).findIdx? (·.1) = none := by rfl) (hK : X.K = G.K := by rfl) : PG X (.Tuple es k pos) (tTg G O is (gT n gs)) := by
  refine (pg_seq hc h hn hst).mono fun v σ H Q ⟨φ, B, ρ, S, d, ρ', R, hd, hg, q⟩ => ?_
  rw [hK]
  unfold gT at hg
  split at hg
  · rename_i ds hds
    split at hg
    · rename_i hl
      obtain ⟨a, xs, rfl, hq, hs⟩ := sq_of hds hd
      refine ⟨a, xs, rfl, ?_, by rw [hs.len]; exact hl, φ, B, ρ, S, ds, ρ', R, hs, hg, q⟩
      rcases hq with hq | hq
      · exact .inl (R.sub.seq hq)
      · exact .inr (SqT_same R.sub hq)
    · cases hg
  · cases hg
/-! comprehensions -/
def yesT : Tst := fun _ S => .ok true S
theorem dts_nil : PTs X [] (tBt G O E yesT) := pts_nil.mono fun σ H Q ⟨φ, B, ρ, S, R, hp⟩ => Pg.ok hp R rfl
def lcGo (g : Tgt) (c : Tst) (Fe : Ex) (ρ : Env) : List D → SrcT → Rs (List D)
  | [], S => .ok [] S
  | d :: ds, S => match g d ρ with
    | none => .bad
    | some ρ' => (c ρ' S).bind fun b S1 => if b = true then (Fe ρ' S1).bind fun y S2 => (lcGo g c Fe ρ ds S2).bind fun ys S3 => .ok (y :: ys) S3 else lcGo g c Fe ρ ds S1
def lcF (is : List Nat) (FI : Exs) (g : Tgt) (c : Tst) (Fe : Ex) : Ex := fun ρ S => (FI ρ S).bind fun ds S1 => if ds.length ≤ 100000 then (lcGo g c Fe (wipeE ρ is) ds S1).bind fun ys S2 => .ok (.lst ys) S2 else .bad
theorem Rs.bind_assoc {α β γ : Type} (r : Rs α) (f : α → SrcT → Rs β) (g : β → SrcT → Rs γ) : (r.bind f).bind g = r.bind fun a S => (f a S).bind g := by
  induction r with
  | all p k ih => show Rs.all p _ = Rs.all p _; congr 1; funext x; exact ih x
  | _ => rfl
/-- the turn's item is put among what is shared -/
theorem yield_rep (R : Rep G φ O σ B H ρ S) {B1 : Hp} (hs : Same B1 B) {ds : List D} {i : Nat} {x : V} {H' : Hp} (y : YD G φ.p B1 ds i H x H') : ∃ d B', ds[i]? = some d ∧ Rep G φ O σ B' H' ρ S ∧ Go φ B H B' H' ∧ DV G φ.p B' x d := by
  obtain ⟨d, hd, h | ⟨T, o, rfl, nT, rfl, h⟩⟩ := y
  · obtain ⟨rfl, h⟩ := h
    exact ⟨d, B, hd, R, Go.refl, h.same hs⟩
  · obtain ⟨R', g, np⟩ := R.new (o := o) nT
    have nB : B T = none := by
      cases k : B T with
      | none => rfl
      | some x => rw [R.sub _ _ k] at nT; cases nT
    exact ⟨d, _, hd, R', g, h B hs nB⟩
theorem lc_imp {is js : List Nat} {FI : Exs} {g : Tgt} {c : Tst} {Fe : Ex} (hO : ∀ i, i ∈ is → i ∉ O) (hj : ∀ i, i ∈ js → i ∈ is) (σ : L2.St) (H : Hp) (Q : VK) (h : tN G m O E (lcF is FI g c Fe) σ H Q) (hv0 : G.v = false := by rfl) : tLc (tI G O E FI) (tTg G O js g) (tBt G O E c) (tD G false O E Fe) is σ H Q := by
  obtain ⟨φ, B, ρ, S, R, hp⟩ := h
  refine ⟨φ, B, ρ, S, R, ?_⟩
  refine PgN.bind hp fun ds S1 J B1 H1 g1 R1 hJ h1 => fun A nA => ?_
  split at h1
  case isFalse => exact h1.elim
  rename_i hdl
  have hJ : DWalk G φ.p B1 J ds := hJ
  obtain ⟨Gd, hGd, W⟩ := hJ
  have npA : φ.p ≠ some A := fun e => by have := (R1.src A e).2.1; rw [nA] at this; cases this
  have n0A : φ.H0 A = none := R1.al A nA
  have hv1 : φ.v = false := R1.vv.1.trans hv0
  have Rw := R1.wipe (vs := is) hO
  have disA : ∀ i, i ∈ O → σ[i]? ≠ some (some (.ref A)) := fun i hi hk => by
    obtain ⟨b, o', d', k1, k2, k3, _⟩ := R1.own i hi
    rw [k2] at hk
    have e : b = A := by injection hk with hk; injection hk with hk; injection hk
    rw [e, nA] at k3; cases k3
  have disW : ∀ i, i ∈ O → (L2.wipe σ is)[i]? ≠ some (some (.ref A)) := fun i hi hk => by
    obtain ⟨b, o', d', k1, k2, k3, _⟩ := Rw.own i hi
    rw [k2] at hk
    have e : b = A := by injection hk with hk; injection hk with hk; injection hk
    rw [e, nA] at k3; cases k3
  refine lc_it W (fun i H' => ∃ Bi Si acc vs, Rep G φ O (L2.wipe σ is) Bi H' (wipeE ρ is) Si ∧ Go φ B1 H1 Bi H' ∧ H' A = some (.lst vs) ∧ DVs G φ.p Bi vs acc ∧ acc.length ≤ i ∧ Bi A = none ∧ PgN G φ m O E σ ρ B1 H1 ((lcGo g c Fe (wipeE ρ is) (ds.drop i) Si).bind fun ys S => .ok (.lst (acc ++ ys)) S) Q) ?_ ?_ ?_ ?_
  · obtain ⟨Rn, gn, nB, _, _⟩ := Rw.newN (o := .lst []) nA
    exact ⟨B1, S1, [], [], Rn, gn, upd_same, .nil, Nat.le_refl _, nB, h1⟩
  · rintro i H' hi ⟨Bi, Si, acc, vs, Ri, gi, _⟩
    exact hGd H' (gi.b.trans Ri.sub)
  · rintro i x H2 H3 hi ⟨Bi, Si, acc, vs, Ri, gi, hA, hvs, hl, nBA, hp'⟩ y
    obtain ⟨d, B2, hd, R2, g2, dv⟩ := yield_rep Ri gi.b y
    have hdrop : ds.drop i = d :: ds.drop (i + 1) := by
      have hi' := (List.getElem?_eq_some_iff.mp hd)
      rw [List.drop_eq_getElem_cons hi'.1, hi'.2]
    rw [hdrop] at hp'
    rw [lcGo] at hp'
    have hp2 := hp'
    cases hg : g d (wipeE ρ is) with
    | none => rw [hg] at hp2; exact hp2.elim
    | some ρ' =>
      rw [hg] at hp2
      refine ⟨φ, B2, wipeE ρ is, Si, d, ρ', R2, dv, hg, fun σ' R' fr => ⟨fr.wipe hj, φ, B2, ρ', Si, R', ?_⟩⟩
      dsimp only at hp2
      rw [Rs.bind_assoc] at hp2
      have keepA : ∀ {Bx Hx By Hy : Hp} {Sy : SrcT} {Oy : List Nat} {σy : L2.St} {ρy : Env}, Go φ Bx Hx By Hy → Rep G φ Oy σy By Hy ρy Sy → ∀ {us : List V}, Hx A = some (.lst us) → Bx A = none → Hy A = some (.lst us) ∧ By A = none := fun {Bx Hx By Hy Sy Oy σy ρy} gx Ry {us} hx nx => by
        have h1 := gx.at hv1 npA hx
        refine ⟨h1, ?_⟩
        cases k : By A with
        | none => rfl
        | some z =>
          have hz := Ry.sub A z k
          rw [h1] at hz
          cases hz
          rcases gx.n A _ k True.intro with q | q
          · rw [nx] at q; cases q
          · rw [hx] at q; cases q
      obtain ⟨hA2, nA2⟩ := keepA g2 R2 hA nBA
      have hvs2 := hvs.same g2.b
      have g12 := gi.trans g2
      generalize c ρ' Si = rc at hp2
      induction rc with
      | bad => exact hp2.elim
      | exc cc dd SS => exact XP.go g12 hp2
      | all p0 k0 ih => exact fun x px => ih x (hp2 x px)
      | ok b S3 =>
        intro bw B3 H4 g3 R3 hbw
        have hbw : bw = b := hbw
        subst hbw
        obtain ⟨hA3, nA3⟩ := keepA g3 R3 hA2 nA2
        have hp3 := hp2
        have Rw3 : Rep G φ O (L2.wipe σ is) B3 H4 (wipeE ρ is) S3 := Rw.move (g12.trans g3) R3
        cases bw with
        | false =>
          rw [if_neg (by decide)]
          exact ⟨B3, S3, acc, vs, Rw3, g12.trans g3, hA3, hvs2.same g3.b, by omega, nA3, hp3⟩
        | true =>
          rw [if_pos rfl]
          simp only [Rs.bind, if_true] at hp3
          refine ⟨φ, B3, ρ', S3, R3, ?_⟩
          generalize Fe ρ' S3 = rf at hp3
          induction rf with
          | bad => exact hp3.elim
          | exc cc dd SS => exact XP.go (g12.trans g3) hp3
          | all p0 k0 ih => exact fun x px => ih x (hp3 x px)
          | ok yd S4 =>
            intro yv B4 H5 g4 R4 hyv
            have hyv : DV G φ.p B4 yv yd := hyv
            obtain ⟨hA4, nA4⟩ := keepA g4 R4 hA3 nA3
            have hp4 := hp3
            have hvs4 := (hvs2.same g3.b).same g4.b
            refine ⟨vs, hA4, sz100k_lt (by rw [hvs4.len]; omega), ?_⟩
            have Rw4 : Rep G φ O (L2.wipe σ is) B4 H5 (wipeE ρ is) S4 := Rw.move ((g12.trans g3).trans g4) R4
            have gA := (g12.trans g3).trans g4
            have g5 : Go φ B1 H1 B4 (upd H5 A (.lst (vs ++ [yv]))) := by
              refine ⟨gA.b, fun hv q z hz => ?_, gA.n, fun q hq => gA.d q (upd_no hq)⟩
              have hz2 := gA.h hv q z hz
              have e : q ≠ A := fun e => by rw [e, hideP_at npA, nA] at hz; cases hz
              unfold hideP at hz2 ⊢
              rw [upd_ne e]; exact hz2
            refine ⟨B4, S4, acc ++ [yd], vs ++ [yv], Rw4.poke nA4 n0A npA disW (fun hv => by rw [hv0] at hv; cases hv), g5, upd_same, hvs4.append (.cons hyv .nil), by rw [List.length_append]; simp; omega, nA4, ?_⟩
            have e5 : ((lcGo g c Fe (wipeE ρ is) (ds.drop (i + 1)) S4).bind fun ys S => Rs.ok (D.lst (acc ++ [yd] ++ ys)) S) = ((lcGo g c Fe (wipeE ρ is) (ds.drop (i + 1)) S4).bind fun ys S3 => Rs.ok (yd :: ys) S3).bind (fun ys S => Rs.ok (D.lst (acc ++ ys)) S) := by
              rw [Rs.bind_assoc]; congr 1; funext ys S; simp [Rs.bind]
            rw [e5]; exact hp4
  · rintro H' ⟨Bi, Si, acc, vs, Ri, gi, hA, hvs, hl, nBA, hp'⟩
    rw [List.drop_length] at hp'
    have hp' : PgN G φ m O E σ ρ B1 H1 (.ok (.lst (acc ++ [])) Si) Q := hp'
    rw [List.append_nil] at hp'
    exact hp' A _ Bi H' gi (R1.move gi Ri) ⟨hA, nBA, n0A, npA, disA, DVs.same (Ri.bbs m) hvs, fun hv => by rw [hv0] at hv; cases hv⟩ nA
theorem de_lcN {is js : List Nat} {FI : Exs} {g : Tgt} {c : Tst} {Fe : Ex} (hO : ∀ i, i ∈ is → i ∉ O) (hj : ∀ i, i ∈ js → i ∈ is) (h : PE X e (tLc (tI G O E FI) (tTg G O js g) (tBt G O E c) (tD G false O E Fe) is)) (hv0 : G.v = false := by rfl) : PE X e (tN G m O E (lcF is FI g c Fe)) := h.mono fun σ H Q hw => lc_imp hO hj σ H Q hw hv0
end
end
end NL
/-! ### the data layer: statements, defs -/
namespace NL
noncomputable section
open PySem L2
inductive Fl where
  | nx
  | brk
  | cont
  | ret (d : D)
abbrev Sx := Env → SrcT → Rs (Fl × Env)
def XS (G : Gm) (φ : Fr) (E : XK) (B : Hp) (c : Nat) (d : Option D) (S : SrcT) : Prop := ∀ B' H' cv od, Same B B' → Rep G φ [] [] B' H' [] S → ExnAt G φ.p B' H' c d cv od → E cv od H'
def PostS (G : Gm) (φ : Fr) (O' Ol : List Nat) (E : XK) (D : Ends) (B : Hp) (r : Rs (Fl × Env)) : Prop := match r with
  | .bad => False
  | .exc c d S => XS G φ E B c d S
  | .ok (.nx, ρ') S => ∀ σ' B' H', Same B B' → Rep G φ O' σ' B' H' ρ' S → D.nx σ' H'
  | .ok (.brk, ρ') S => ∀ σ' B' H', Same B B' → Rep G φ Ol σ' B' H' ρ' S → D.bk σ' H'
  | .ok (.cont, ρ') S => ∀ σ' B' H', Same B B' → Rep G φ Ol σ' B' H' ρ' S → D.ct σ' H'
  | .ok (.ret d, _) S => ∀ v B' H', Same B B' → Rep G φ [] [] B' H' [] S → DV G φ.p B' v d → D.rt v H'
  | .all p k => ∀ x, p x → PostS G φ O' Ol E D B (k x)
def tS (G : Gm) (O O' Ol : List Nat) (E : XK) (F : Sx) : TS := fun D σ H => ∃ φ B ρ S, Rep G φ O σ B H ρ S ∧ PostS G φ O' Ol E D B (F ρ S)
section
variable {X : Cx} {G : Gm} {m m' : Bool} {O O1 O2 O' Ol : List Nat} {E : XK} {e tg : Expr} {es : List Expr} {F F1 F2 : Ex} {Fs : Exs}
variable {φ : Fr} {σ σ2 : L2.St} {B H B' H' : Hp} {ρ ρ2 : Env} {S S' : SrcT} {st : Stmt} {sts rest : List Stmt} {A A1 A2 : Sx}
theorem PostS.same {D : Ends} {r : Rs (Fl × Env)} (s : Same B B') (h : PostS G φ O' Ol E D B r) : PostS G φ O' Ol E D B' r := by
  induction r with
  | bad => exact h
  | exc c d S => exact fun B2 H2 cv od s2 => h B2 H2 cv od (s.trans s2)
  | ok q S =>
    match q, h with
    | (.nx, ρ'), h => exact fun σ' B2 H2 s2 => h σ' B2 H2 (s.trans s2)
    | (.brk, ρ'), h => exact fun σ' B2 H2 s2 => h σ' B2 H2 (s.trans s2)
    | (.cont, ρ'), h => exact fun σ' B2 H2 s2 => h σ' B2 H2 (s.trans s2)
    | (.ret d, ρ'), h => exact fun v B2 H2 s2 => h v B2 H2 (s.trans s2)
  | all p k ih => exact fun x px => ih x (h x px)
/-- an expression ahead of a statement's end -/
theorem PostS.bind {ω β : Type} {rel : Rel ω β} {D : Ends} {r : Rs β} {k : β → SrcT → Rs (Fl × Env)} {Q : ω → Hp → Prop} (h : PostS G φ O' Ol E D B (r.bind k))
    (hk : ∀ d S w B1 H1, Go φ B H B1 H1 → Rep G φ O σ B1 H1 ρ S → rel φ.p (bs m φ B1 H1) w d → PostS G φ O' Ol E D B1 (k d S) → Q w H1) : Pg G φ m O E σ ρ rel B H r Q := by
  induction r with
  | bad => exact h
  | exc c d S => exact fun B2 H2 cv od g => h B2 H2 cv od g.b
  | ok a S => exact fun w B1 H1 g R hw => hk a S w B1 H1 g R hw (PostS.same g.b h)
  | all p f ih => exact fun x px => ih x (h x px)
theorem PostS.bindN {D : Ends} {r : Rs NL.D} {k : NL.D → SrcT → Rs (Fl × Env)} {Q : VK} (h : PostS G φ O' Ol E D B (r.bind k))
    (hk : ∀ d S a o B1 H1, Go φ B H B1 H1 → Rep G φ O σ B1 H1 ρ S → New G φ O σ m B1 H1 S a o d → PostS G φ O' Ol E D B1 (k d S) → Q (.ref a) H1) : PgN G φ m O E σ ρ B H r Q := by
  induction r with
  | bad => exact h
  | exc c d S => exact fun B2 H2 cv od g => h B2 H2 cv od g.b
  | ok d S => exact fun a o B1 H1 g R n _ => hk d S a o B1 H1 g R n (PostS.same g.b h)
  | all p f ih => exact fun x px => ih x (h x px)
/-- a block ahead of a block's end -/
theorem PostS.seq {β : Type} {D D' : Ends} {O1 Ol1 : List Nat} {r : Rs (Fl × Env)} {k : Fl × Env → SrcT → Rs (Fl × Env)} (h : PostS G φ O' Ol E D B (r.bind k))
    (hn : ∀ ρ' S σ' B' H', Same B B' → Rep G φ O1 σ' B' H' ρ' S → PostS G φ O' Ol E D B' (k (.nx, ρ') S) → D'.nx σ' H')
    (hb : ∀ ρ' S σ' B' H', Same B B' → Rep G φ Ol1 σ' B' H' ρ' S → PostS G φ O' Ol E D B' (k (.brk, ρ') S) → D'.bk σ' H')
    (hc : ∀ ρ' S σ' B' H', Same B B' → Rep G φ Ol1 σ' B' H' ρ' S → PostS G φ O' Ol E D B' (k (.cont, ρ') S) → D'.ct σ' H')
    (hr : ∀ ρ' d S v B' H', Same B B' → Rep G φ [] [] B' H' [] S → DV G φ.p B' v d → PostS G φ O' Ol E D B' (k (.ret d, ρ') S) → D'.rt v H') : PostS G φ O1 Ol1 E D' B r := by
  induction r with
  | bad => exact h
  | exc c d S => exact h
  | ok q S =>
    match q, h with
    | (.nx, ρ'), h => exact fun σ' B' H' s R => hn ρ' S σ' B' H' s R (PostS.same s h)
    | (.brk, ρ'), h => exact fun σ' B' H' s R => hb ρ' S σ' B' H' s R (PostS.same s h)
    | (.cont, ρ'), h => exact fun σ' B' H' s R => hc ρ' S σ' B' H' s R (PostS.same s h)
    | (.ret d, ρ'), h => exact fun v B' H' s R hv => hr ρ' d S v B' H' s R hv (PostS.same s h)
  | all p f ih => exact fun x px => ih x (h x px)
theorem Rs.bind_ret {α : Type} (r : Rs α) : (r.bind fun q S => .ok q S) = r := by
  induction r with
  | all p k ih => show Rs.all p _ = Rs.all p _; congr 1; funext x; exact ih x
  | _ => rfl
def nilS : Sx := fun ρ S => .ok (.nx, ρ) S
def brkS : Sx := fun ρ S => .ok (.brk, ρ) S
def contS : Sx := fun ρ S => .ok (.cont, ρ) S
def seqS (A1 A2 : Sx) : Sx := fun ρ S => (A1 ρ S).bind fun r S1 => match r with
  | (.nx, ρ1) => A2 ρ1 S1
  | r => .ok r S1
theorem ds_nil : PSs X [] (tS G O O Ol E nilS) := pss_nil.mono fun D σ H ⟨φ, B, ρ, S, R, hp⟩ => hp σ B H (Same.refl _) R
theorem ds_pass {pos : Pos} : PS X (.Pass pos) (tS G O O Ol E nilS) := ps_pass.mono fun D σ H ⟨φ, B, ρ, S, R, hp⟩ => hp σ B H (Same.refl _) R
theorem ds_break {pos : Pos} : PS X (.Break pos) (tS G O O' O E brkS) := ps_break.mono fun D σ H ⟨φ, B, ρ, S, R, hp⟩ => hp σ B H (Same.refl _) R
theorem ds_cont {pos : Pos} : PS X (.Continue pos) (tS G O O' O E contS) := ps_continue.mono fun D σ H ⟨φ, B, ρ, S, R, hp⟩ => hp σ B H (Same.refl _) R
theorem ds_one (h : PS X st (tS G O O' Ol E A)) : PSs X [st] (tS G O O' Ol E A) := pss_one h
theorem ds_cons (h1 : PS X st (tS G O O1 Ol E A1)) (h2 : PSs X rest (tS G O1 O' Ol E A2)) : PSs X (st :: rest) (tS G O O' Ol E (seqS A1 A2)) := by
  refine (pss_cons h1 h2).mono fun D σ H ⟨φ, B, ρ, S, R, hp⟩ => ⟨φ, B, ρ, S, R, ?_⟩
  unfold seqS at hp
  exact PostS.seq (β := Unit) hp (fun ρ' S σ' B' H' s R' h => ⟨φ, B', ρ', S, R', h⟩) (fun ρ' S σ' B' H' s R' h => h σ' B' H' (Same.refl _) R') (fun ρ' S σ' B' H' s R' h => h σ' B' H' (Same.refl _) R') (fun ρ' d S v B' H' s R' hv h => h v B' H' (Same.refl _) R' hv)
def retS (F : Ex) : Sx := fun ρ S => (F ρ S).bind fun d S1 => .ok (.ret d, ρ) S1
theorem ds_ret {pos : Pos} (h : PE X e (tD G false O E F)) : PS X (.Return (some e) pos) (tS G O O' Ol E (retS F)) := by
  refine (ps_ret h).mono fun D σ H ⟨φ, B, ρ, S, R, hp⟩ => ⟨φ, B, ρ, S, R, ?_⟩
  exact PostS.bind hp fun d S1 w B1 H1 g R1 hw h1 => h1 w B1 H1 (Same.refl _) R1.bare hw
theorem ds_retN {pos : Pos} : PS X (.Return none pos) (tS G O O' Ol E (retS (cF .non))) := by
  refine ps_retN.mono fun D σ H ⟨φ, B, ρ, S, R, hp⟩ => ?_
  exact hp .non B H (Same.refl _) R.bare .non
def exprS (F : Ex) : Sx := fun ρ S => (F ρ S).bind fun _ S1 => .ok (.nx, ρ) S1
theorem ds_expr (h : PS X st (tDrop (tD G true O E F))) : PS X st (tS G O O Ol E (exprS F)) := by
  refine h.mono fun D σ H ⟨φ, B, ρ, S, R, hp⟩ => ⟨φ, B, ρ, S, R, ?_⟩
  exact PostS.bind hp fun d S1 w B1 H1 g R1 hw h1 => h1 σ B1 H1 (Same.refl _) R1
/-! owned slots -/
def offO (O : List Nat) (i : Nat) : List Nat := O.filter fun j => j != i
theorem mem_off {i j : Nat} : j ∈ offO O i ↔ j ∈ O ∧ j ≠ i := by unfold offO; simp
theorem Rep.drop1 (R : Rep G φ O σ B H ρ S) (i : Nat) : ∃ B', Same B B' ∧ Rep G φ (offO O i) σ B' H ρ S := by
  by_cases hi : i ∈ O
  · obtain ⟨a, o, d, k1, k2, k3, k4, k5, k6, k7⟩ := R.own i hi
    have sB : Same B (upd B a o) := same_new k4
    refine ⟨upd B a o, sB, ⟨?_, R.fr, ?_, ?_, R.b0.trans sB, R.len, ?_, ?_, ?_, R.al, (fun hv => by rw [R.nov i hi] at hv; cases hv), R.vv, fun j hj => R.nov j (mem_off.mp hj).1⟩⟩
    · intro c x h
      by_cases e : c = a
      · subst e; rw [upd_same] at h; rw [← h]; exact k3
      · rw [upd_ne e] at h; exact R.sub c x h
    · intro c x h hm
      by_cases e : c = a
      · subst e; exact .inr k5
      · rw [upd_ne e] at h; exact R.cl c x h hm
    · intro q hq
      have e : q ≠ a := fun e => k6 (e ▸ hq)
      exact ⟨by rw [upd_ne e]; exact (R.src q hq).1, (R.src q hq).2⟩
    · intro j d' hj hd
      by_cases e : j = i
      · subst e
        rw [k1] at hd; cases hd
        exact ⟨.ref a, k2, (k7.same sB).dv upd_same⟩
      · obtain ⟨v, q1, q2⟩ := R.val j d' (fun q => hj (mem_off.mpr ⟨q, e⟩)) hd
        exact ⟨v, q1, q2.same sB⟩
    · intro j hj
      obtain ⟨hj, e⟩ := mem_off.mp hj
      obtain ⟨b, o', d', q1, q2, q3, q4, q5, q6, q7⟩ := R.own j hj
      have e2 : b ≠ a := fun e2 => R.dis j i hj hi e (by rw [q2, k2, e2])
      exact ⟨b, o', d', q1, q2, q3, by rw [upd_ne e2]; exact q4, q5, q6, q7.same sB⟩
    · intro j k hj hk
      exact R.dis j k (mem_off.mp hj).1 (mem_off.mp hk).1
  · refine ⟨B, Same.refl _, ⟨R.sub, R.fr, R.cl, R.src, R.b0, R.len, fun j d hj hd => R.val j d (fun q => hj (mem_off.mpr ⟨q, fun e => hi (e ▸ q)⟩)) hd, fun j hj => R.own j (mem_off.mp hj).1, fun j k hj hk => R.dis j k (mem_off.mp hj).1 (mem_off.mp hk).1, R.al, R.mem, R.vv, fun j hj => R.nov j (mem_off.mp hj).1⟩⟩
/-- from here on slot i's list is shared (it is changed no more) -/
theorem ds_frz (i : Nat) (hO : O2 = offO O i) (h : PSs X sts (tS G O2 O' Ol E A)) : PSs X sts (tS G O O' Ol E A) := by
  subst hO
  refine h.mono fun D σ H ⟨φ, B, ρ, S, R, hp⟩ => ?_
  obtain ⟨B', s, R'⟩ := R.drop1 i
  exact ⟨φ, B', ρ, S, R', hp.same s⟩
/-- .. at the end of a block -/
theorem ds_end (i : Nat) (hO : O2 = offO O' i) (h : PSs X sts (tS G O O' Ol E A)) : PSs X sts (tS G O O2 Ol E A) := by
  subst hO
  refine h.mono fun D σ H ⟨φ, B, ρ, S, R, hp⟩ => ⟨φ, B, ρ, S, R, ?_⟩
  have hp : PostS G φ (offO O' i) Ol E D B ((A ρ S).bind fun q S => .ok q S) := by rw [Rs.bind_ret]; exact hp
  refine PostS.seq (β := Unit) hp (fun ρ' S σ' B' H' s R' h => ?_) (fun ρ' S σ' B' H' s R' h => h σ' B' H' (Same.refl _) R') (fun ρ' S σ' B' H' s R' h => h σ' B' H' (Same.refl _) R') (fun ρ' d S v B' H' s R' hv h => h v B' H' (Same.refl _) R' hv)
  obtain ⟨B2, s2, R2⟩ := R'.drop1 i
  exact h σ' B2 H' s2 R2
def setS (i : Nat) (F : Ex) : Sx := fun ρ S => (F ρ S).bind fun d S1 => .ok (.nx, ρ.set i (some d)) S1
theorem ds_set {i : Nat} (hO : O' = offO O i) (h : PS X st (tAsg (tD G false O E F) (gName i))) : PS X st (tS G O O' Ol E (setS i F)) := by
  subst hO
  refine h.mono fun D σ H ⟨φ, B, ρ, S, R, hp⟩ => ⟨φ, B, ρ, S, R, ?_⟩
  refine PostS.bind hp fun d S1 w B1 H1 g R1 hw h1 => ?_
  obtain ⟨B2, s2, R2⟩ := R1.drop1 i
  have hw : DV G φ.p B1 w d := hw
  exact h1 _ B2 H1 s2 (R2.set (fun q => (mem_off.mp q).2 rfl) (hw.same s2))
theorem Rep.setO (R : Rep G φ O σ B H ρ S) {i : Nat} {a : Addr} {o : HO} {d : NL.D} (hi : i ∉ O) (hl : i < ρ.length) (n : New G φ O σ false B H S a o d) (hv0 : G.v = false) : Rep G φ (i :: O) (σ.set i (some (.ref a))) B H (ρ.set i (some d)) S := by
  refine ⟨R.sub, R.fr, R.cl, R.src, R.b0, by rw [List.length_set, List.length_set]; exact R.len, ?_, ?_, ?_, R.al, R.mem, R.vv, fun _ _ => hv0⟩
  · intro j d' hj hd
    have e : i ≠ j := fun e => hj (e ▸ List.mem_cons_self)
    rw [List.getElem?_set_ne e] at hd ⊢
    exact R.val j d' (fun q => hj (List.mem_cons_of_mem _ q)) hd
  · intro j hj
    by_cases e : i = j
    · subst e
      rw [List.getElem?_set, List.getElem?_set, if_pos rfl, if_pos rfl, if_pos hl, if_pos (by rw [R.len]; exact hl)]
      exact ⟨a, o, d, rfl, rfl, n.at', n.nB, n.n0, n.np, n.dat⟩
    · rw [List.getElem?_set_ne e, List.getElem?_set_ne e]
      rcases List.mem_cons.mp hj with q | q
      · exact absurd q.symm e
      · exact R.own j q
  · intro j k hj hk hjk
    have ha : ∀ x, x ∈ O → i ≠ x → (σ.set i (some (V.ref a)))[i]? ≠ (σ.set i (some (V.ref a)))[x]? := fun x hx e => by
      rw [List.getElem?_set_ne e, List.getElem?_set, if_pos rfl, if_pos (by rw [R.len]; exact hl)]
      exact fun q => n.dis x hx q.symm
    rcases List.mem_cons.mp hj with rfl | hj'
    · rcases List.mem_cons.mp hk with rfl | hk'
      · exact absurd rfl hjk
      · exact ha k hk' hjk
    · rcases List.mem_cons.mp hk with rfl | hk'
      · exact fun q => ha j hj' (Ne.symm hjk) q.symm
      · by_cases e : i = j
        · subst e
          exact ha k hk' hjk
        · by_cases e2 : i = k
          · subst e2; exact fun q => ha j hj' e q.symm
          · rw [List.getElem?_set_ne e, List.getElem?_set_ne e2]; exact R.dis j k hj' hk' hjk
def setN (i : Nat) (F : Ex) : Sx := fun ρ S => (F ρ S).bind fun d S1 => if i < ρ.length then .ok (.nx, ρ.set i (some d)) S1 else .bad
theorem ds_setN {i : Nat} (hi : i ∉ O) (hO : O' = i :: O) (h : PS X st (tAsg (tN G false O E F) (gName i))) (hv0 : G.v = false := by rfl) : PS X st (tS G O O' Ol E (setN i F)) := by
  subst hO
  refine h.mono fun D σ H ⟨φ, B, ρ, S, R, hp⟩ => ⟨φ, B, ρ, S, R, ?_⟩
  refine PostS.bindN hp fun d S1 a o B1 H1 g R1 n h1 => ?_
  split at h1
  · rename_i hl; exact h1 _ B1 H1 (Same.refl _) (R1.setO hi hl n hv0)
  · exact h1.elim
theorem _root_.L2.PS.asg_mono {X : Cx} {st : Stmt} {t t' : TE} {g : TG} (h : PS X st (tAsg t g)) (s : ∀ σ H Q, t' σ H Q → t σ H Q) : PS X st (tAsg t' g) := h.mono fun D σ H hw => s σ H _ hw
def asgS (F : Ex) (g : Tgt) : Sx := fun ρ S => (F ρ S).bind fun d S1 => match g d ρ with
  | some ρ' => .ok (.nx, ρ') S1
  | none => .bad
theorem ds_asg {is : List Nat} {g : Tgt} (h : PS X st (tAsg (tD G false O E F) (tTg G O is g))) : PS X st (tS G O O Ol E (asgS F g)) := by
  refine h.mono fun D σ H ⟨φ, B, ρ, S, R, hp⟩ => ⟨φ, B, ρ, S, R, ?_⟩
  refine PostS.bind hp fun d S1 w B1 H1 g' R1 hw h1 => ?_
  split at h1
  · rename_i ρ' hg
    exact ⟨φ, B1, ρ, S1, d, ρ', R1, hw, hg, fun σ' R' _ => h1 σ' B1 H1 (Same.refl _) R'⟩
  · exact h1.elim
def parS (i j : Nat) (Fs : Exs) : Sx := fun ρ S => (Fs ρ S).bind fun ds S1 => match ds with
  | [a, b] => .ok (.nx, (ρ.set i (some a)).set j (some b)) S1
  | _ => .bad
theorem ds_par {i j : Nat} (hi : i ∉ O) (hj : j ∉ O) (h : PS X st (tPar i j (tDs G false O E Fs))) : PS X st (tS G O O Ol E (parS i j Fs)) := by
  refine h.mono fun D σ H ⟨φ, B, ρ, S, R, hp⟩ => ⟨φ, B, ρ, S, R, ?_⟩
  refine PostS.bind hp fun ds S1 w B1 H1 g' R1 hw h1 => ?_
  split at h1
  · cases hw with | cons k1 k2 =>
    cases k2 with | cons k2 k3 =>
    cases k3
    exact ⟨_, _, rfl, h1 _ B1 H1 (Same.refl _) ((R1.set hi k1).set hj k2)⟩
  · exact h1.elim
def iteS (c : Tst) (A1 A2 : Sx) : Sx := fun ρ S => (c ρ S).bind fun b S1 => if b = true then A1 ρ S1 else A2 ρ S1
theorem ds_if {c : Expr} {a b : List Stmt} {pos : Pos} {c1 : Tst} (hc : PT X c (tBt G O E c1)) (ha : PSs X a (tS G O O' Ol E A1)) (hb : PSs X b (tS G O O' Ol E A2)) : PS X (.If c a b pos) (tS G O O' Ol E (iteS c1 A1 A2)) := by
  refine (ps_if hc ha hb).mono fun D σ H ⟨φ, B, ρ, S, R, hp⟩ => ⟨φ, B, ρ, S, R, ?_⟩
  refine PostS.bind hp fun d S1 w B1 H1 g' R1 hw h1 => ?_
  have hw : w = d := hw
  subst hw
  split at h1
  · rename_i hb; rw [if_pos hb]; exact ⟨φ, B1, ρ, S1, R1, h1⟩
  · rename_i hb; rw [if_neg hb]; exact ⟨φ, B1, ρ, S1, R1, h1⟩
/-! loops -/
def forGo (g : Tgt) (A : Sx) : List NL.D → Env → SrcT → Rs (Fl × Env)
  | [], ρ, S => .ok (.nx, ρ) S
  | d :: ds, ρ, S => match g d ρ with
    | none => .bad
    | some ρ1 => (A ρ1 S).bind fun r S1 => match r with
      | (.nx, ρ2) => forGo g A ds ρ2 S1
      | (.cont, ρ2) => forGo g A ds ρ2 S1
      | (.brk, ρ2) => .ok (.nx, ρ2) S1
      | (.ret d, ρ2) => .ok (.ret d, ρ2) S1
def forS (FI : Exs) (g : Tgt) (A : Sx) : Sx := fun ρ S => (FI ρ S).bind fun ds S1 => forGo g A ds ρ S1
theorem ds_for {is : List Nat} {FI : Exs} {g : Tgt} (h : PS X st (tFor (tI G O E FI) (tTg G O is g) (tS G O O O E A))) : PS X st (tS G O O Ol E (forS FI g A)) := by
  refine h.mono fun D σ H ⟨φ, B, ρ, S, R, hp⟩ => ⟨φ, B, ρ, S, R, ?_⟩
  refine PostS.bind hp fun ds S1 J B1 H1 g1 R1 hJ h1 => ?_
  have hJ : DWalk G φ.p B1 J ds := hJ
  obtain ⟨Gd, hGd, W⟩ := hJ
  refine for_it W (fun i σ H => ∃ Bi ρi Si, Rep G φ O σ Bi H ρi Si ∧ Same B1 Bi ∧ PostS G φ O Ol E D Bi (forGo g A (ds.drop i) ρi Si)) ?_ ?_ ?_ ?_
  · exact ⟨B1, ρ, S1, R1, Same.refl _, h1⟩
  · rintro i σ H' hi ⟨Bi, ρi, Si, Ri, si, _⟩
    exact hGd H' (si.trans Ri.sub)
  · rintro i x σ H2 H3 hi ⟨Bi, ρi, Si, Ri, si, hp'⟩ y
    obtain ⟨d, B2, hd, R2, g2, dv⟩ := yield_rep Ri si y
    have hdrop : ds.drop i = d :: ds.drop (i + 1) := by
      have hi' := (List.getElem?_eq_some_iff.mp hd)
      rw [List.drop_eq_getElem_cons hi'.1, hi'.2]
    rw [hdrop, forGo] at hp'
    have hp2 := PostS.same g2.b hp'
    have s12 := si.trans g2.b
    cases hg : g d ρi with
    | none => rw [hg] at hp2; exact hp2.elim
    | some ρ' =>
      rw [hg] at hp2
      refine ⟨φ, B2, ρi, Si, d, ρ', R2, dv, hg, fun σ' R' fr => ⟨φ, B2, ρ', Si, R', ?_⟩⟩
      dsimp only at hp2
      exact PostS.seq (β := Unit) hp2 (fun ρ1 S1 σ'' B'' H'' s'' R'' h => ⟨B'', ρ1, S1, R'', s12.trans s'', h⟩) (fun ρ1 S1 σ'' B'' H'' s'' R'' h => h σ'' B'' H'' (Same.refl _) R'') (fun ρ1 S1 σ'' B'' H'' s'' R'' h => ⟨B'', ρ1, S1, R'', s12.trans s'', h⟩) (fun ρ1 d S1 v B'' H'' s'' R'' hv h => h v B'' H'' (Same.refl _) R'' hv)
  · rintro σ H' ⟨Bi, ρi, Si, Ri, si, hp'⟩
    rw [List.drop_length] at hp'
    exact hp' σ Bi H' (Same.refl _) Ri
/-! a list of this def's own grows -/
theorem Rep.pokeO (R : Rep G φ O σ B H ρ S) {i : Nat} {a : Addr} {o : HO} {d : NL.D} (hi : i ∈ O) (h2 : σ[i]? = some (some (.ref a))) (hd : DO G φ.p B o d) : Rep G φ O σ B (upd H a o) (ρ.set i (some d)) S := by
  obtain ⟨a', o', d', k1, k2, k3, k4, k5, k6, k7⟩ := R.own i hi
  have ea : a' = a := by rw [h2] at k2; injection k2 with k2; injection k2 with k2; injection k2 with k2; exact k2.symm
  subst ea
  have hl : i < ρ.length := (List.getElem?_eq_some_iff.mp k1).1
  refine ⟨?_, ?_, R.cl, ?_, R.b0, by rw [List.length_set]; exact R.len, ?_, ?_, R.dis, fun c h => R.al c (upd_no h), (fun hv => by rw [R.nov i hi] at hv; cases hv), R.vv, R.nov⟩
  · intro c x h
    have e : c ≠ a' := fun e => by rw [e, k4] at h; cases h
    rw [upd_ne e]; exact R.sub c x h
  · intro c x hp hm h
    have e : c ≠ a' := fun e => by rw [e, k5] at h; cases h
    rw [upd_ne e]; exact R.fr c x hp hm h
  · intro q hq
    have e : q ≠ a' := fun e => k6 (e ▸ hq)
    obtain ⟨h1, h2, h3⟩ := R.src q hq
    exact ⟨h1, by rw [upd_ne e]; exact h2, h3⟩
  · intro j d2 hj hd2
    have e : i ≠ j := fun e => hj (e ▸ hi)
    rw [List.getElem?_set_ne e] at hd2
    exact R.val j d2 hj hd2
  · intro j hj
    by_cases e : i = j
    · subst e
      rw [List.getElem?_set, if_pos rfl, if_pos hl]
      exact ⟨a', o, d, rfl, k2, upd_same, k4, k5, k6, hd⟩
    · rw [List.getElem?_set_ne e]
      obtain ⟨b, o2, d2, q1, q2, q3, q4, q5, q6, q7⟩ := R.own j hj
      have e2 : b ≠ a' := fun e2 => R.dis i j hi hj e (by rw [q2, k2, e2])
      exact ⟨b, o2, d2, q1, q2, by rw [upd_ne e2]; exact q3, q4, q5, q6, q7⟩
def appS (i : Nat) (F : Ex) : Sx := fun ρ S => match ρ[i]? with
  | some (some (.lst ds)) => (F ρ S).bind fun d S1 => if ds.length < 100000 then .ok (.nx, ρ.set i (some (.lst (ds ++ [d])))) S1 else .bad
  | _ => .bad
theorem ds_app {i : Nat} (hi : i ∈ O) (h : PS X st (tDrop (tBM X.K "list" rAppend (tVar i) (tDs G false O E (consF F nilF))))) (hK : X.K = G.K := by rfl) : PS X st (tS G O O Ol E (appS i F)) := by
  refine h.mono fun D σ H ⟨φ, B, ρ, S, R, hp⟩ => ?_
  obtain ⟨a, o, d0, k1, k2, k3, k4, k5, k6, k7⟩ := R.own i hi
  -- what stands there is a list, or nothing is promised
  by_cases hd : ∃ ds0, d0 = NL.D.lst ds0
  · obtain ⟨ds0, rfl⟩ := hd
    have ho : ∃ us, o = .lst us ∧ DVs G φ.p B us ds0 := by
      unfold DO at k7
      split at k7
      · rename_i us ds1 he; cases he; exact ⟨us, rfl, k7⟩
      · rename_i he; cases he
      · rename_i he; cases he
      · exact k7.elim
    obtain ⟨us, rfl, hu⟩ := ho
    refine ⟨.ref a, k2, .inl ⟨rfl, us, SqL.of k3⟩, φ, B, ρ, S, R, ?_⟩
    have hp : PostS G φ O Ol E D B (((consF F nilF) ρ S).bind fun ds S1 => match ds with
      | [d] => if ds0.length < 100000 then .ok (.nx, ρ.set i (some (.lst (ds0 ++ [d])))) S1 else .bad
      | _ => .bad) := by
      unfold appS at hp
      unfold consF nilF
      rw [k1] at hp
      rw [Rs.bind_assoc]
      exact hp
    refine PostS.bind hp fun ds S1 w B1 H1 g R1 hw h1 => ?_
    split at h1
    · split at h1
      · rename_i hlen
        cases hw with | cons q1 q2 =>
        cases q2
        have q1 : DV G φ.p B1 _ _ := q1
        have hH1 := g.at (R.ownv hi) k6 k3
        refine ⟨a, us, _, rfl, rfl, hH1, sz100k_lt (by rw [hu.len]; exact hlen), ?_⟩
        exact h1 σ B1 _ (Same.refl _) (R1.pokeO hi k2 ((hu.same g.b).append (.cons q1 .nil)))
      · exact h1.elim
    · exact h1.elim
  · exfalso
    unfold appS at hp
    rw [k1] at hp
    cases d0 with
    | lst ds => exact hd ⟨ds, rfl⟩
    | _ => exact hp
/-! defs -/
def fnF (n N : Nat) (A : Sx) : List NL.D → SrcT → Rs NL.D := fun ds S => if ds.length = n then (A (ds.map some ++ List.replicate (N - n) none) S).bind fun r S1 => match r with
  | (.ret d, _) => .ok d S1
  | (.nx, _) => .ok .non S1
  | _ => .bad
  else .bad
theorem fn_len {n N : Nat} {vs : List V} {Q : VK} (h : spD G (fnF n N A) vs H Q E) : vs.length = n := by
  obtain ⟨p, B, ds, S, h1, h2, h3, h4⟩ := h
  rw [h3.len]
  unfold fnF at h4
  by_cases hn : ds.length = n
  · exact hn
  · rw [if_neg hn] at h4; exact h4.elim
theorem fn_read {n : Nat} {Ns : List Str} {vs : List V} {Q : VK} (h : spD G (fnF n Ns.length A) vs H Q E) (hv0 : G.v = false := by rfl) (hfx : G.fx = none := by rfl) : tS G [] O' Ol E A { nx := fun _ H' => Q .non H', rt := Q } (L2.start Ns vs) H := by
  have hlen := fn_len h
  obtain ⟨p, B, ds, S, h1, h2, h3, h4⟩ := h
  have hl : ds.length = n := by rw [← h3.len]; exact hlen
  unfold fnF at h4
  rw [if_pos hl] at h4
  refine ⟨{ p := p, B0 := B, H0 := H }, B, ds.map some ++ List.replicate (Ns.length - n) none, S, ⟨h1, fun a o _ _ h => h, fun a o h _ => .inl h, h2, Same.refl _, ?_, ?_, fun i hi => (nomatch hi), fun i j hi => (nomatch hi), fun a h => h, (fun hv => by rw [hv0] at hv; cases hv), ⟨hv0.symm, fun _ f hf => by rw [hfx] at hf; cases hf⟩, fun i hi => (nomatch hi)⟩, ?_⟩
  · unfold L2.start; simp [h3.len, hl]
  · intro i d _ hd
    unfold L2.start
    rw [hlen]
    by_cases hi : i < ds.length
    · rw [List.getElem?_append_left (by simpa using hi), List.getElem?_map] at hd
      obtain ⟨d', hd', hd''⟩ := Option.map_eq_some_iff.mp hd
      cases hd''
      obtain ⟨v, k1, k2⟩ := h3.get hd'
      refine ⟨v, ?_, k2⟩
      rw [List.getElem?_append_left (by rw [List.length_map, h3.len]; exact hi), List.getElem?_map, k1]; rfl
    · rw [List.getElem?_append_right (by simpa using hi)] at hd
      obtain ⟨_, hd2⟩ := List.getElem?_eq_some_iff.mp hd
      rw [List.getElem_replicate] at hd2; cases hd2
  · generalize A (ds.map some ++ List.replicate (Ns.length - n) none) S = r at h4
    induction r with
    | bad => exact h4
    | exc c d S' => exact fun B' H' cv od s R' hx => h4 B' H' cv od s R'.sub (fun a o hp h => R'.fr a o hp rfl h) (fun a o h hm => R'.cl a o h hm) R'.src hx
    | all p0 k ih => exact fun x px => ih x (h4 x px)
    | ok q S' =>
      match q, h4 with
      | (.nx, _), h4 => exact fun σ' B' H' s R' => h4 .non B' H' s R'.sub (fun a o hp h => R'.fr a o hp rfl h) (fun a o h hm => R'.cl a o h hm) R'.src .non
      | (.brk, _), h4 => exact h4.elim
      | (.cont, _), h4 => exact h4.elim
      | (.ret d, _), h4 => exact fun v B' H' s R' hd => h4 v B' H' s R'.sub (fun a o hp h => R'.fr a o hp rfl h) (fun a o h hm => R'.cl a o h hm) R'.src hd
end
end
end NL
/-! ### the data layer: more rules -/
namespace NL
noncomputable section
open PySem L2
section
variable {X : Cx} {G : Gm} {m m' : Bool} {O O1 O2 O' Ol : List Nat} {E : XK} {e tg : Expr} {es : List Expr} {F F1 F2 F3 : Ex} {Fs : Exs}
variable {φ : Fr} {σ σ2 : L2.St} {B H B' H' : Hp} {ρ ρ2 : Env} {S S' : SrcT} {st : Stmt} {sts rest : List Stmt} {A A1 A2 : Sx}
theorem ofN_imp {σ : L2.St} {H : Hp} {Q : VK} (h : tD G m O E F σ H Q) : tN G m O E F σ H Q := by
  obtain ⟨φ, B, ρ, S, R, hp⟩ := h
  refine ⟨φ, B, ρ, S, R, ?_⟩
  exact PgN.of hp
theorem de_call0 {f : List D → SrcT → Rs D} (h : PE X e (tCall (spD G f) [] E tNil)) (hv0 : G.v = false := by rfl) : PE X e (tD G false O E (callF f nilF)) := by
  refine h.mono fun σ H Q ⟨φ, B, ρ, S, R, hp⟩ => ?_
  exact sp_call (vs := []) (ds := []) R .nil hp hv0
def badS : Sx := fun _ _ => .bad
theorem ds_never : PS X st (tS G O O' Ol E badS) := ps_never.mono fun D σ H ⟨φ, B, ρ, S, R, hp⟩ => hp
theorem ds_doc {x j pos pos'} : PS X (.Expr (.Constant (.str x) j pos) pos') (tS G O O Ol E nilS) := ps_doc.mono fun D σ H ⟨φ, B, ρ, S, R, hp⟩ => hp σ B H (Same.refl _) R
theorem dvs_strs {p : Option Addr} : ∀ ns : List Str, DVs G p B (ns.map V.str) (ns.map D.str)
  | [] => .nil
  | n :: ns => .cons (.str n) (dvs_strs ns)
theorem dvs_bools {p : Option Addr} : ∀ ns : List Bool, DVs G p B (ns.map V.bl) (ns.map D.bl)
  | [] => .nil
  | n :: ns => .cons (.bl n) (dvs_bools ns)
def negD : D → Option D
  | .int i => some (.int (-i))
  | _ => none
theorem un_negD : Un1 G m m' (rU fun i => .int (-i)) negD := by
  intro φ O σ B H ρ S v1 d1 d Q R h1 e q
  unfold negD at e
  split at e
  · cases h1; cases e; exact ⟨_, rfl, q _ _ _ Go.refl R (.int _)⟩
  · cases e
def blT (F : Ex) : Tst := fun ρ S => (F ρ S).bind fun d S1 => match d with
  | .bl b => .ok b S1
  | _ => .bad
theorem Pg.blT {rel : Rel V D} {Q : Bool → Hp → Prop} {r : Rs D} (h : Pg G φ true O E σ ρ (fun _ _ b a => b = a) B H (r.bind fun d S1 => match d with
  | .bl b => Rs.ok b S1
  | _ => .bad) Q) : Pg G φ true O E σ ρ (DV G) B H r fun x H' => ∃ k, x = .bl k ∧ Q k H' := by
  refine Pg.bind h fun d S1 w B1 H1 g R1 hw h1 => ?_
  cases hw with
  | bl b => exact ⟨b, rfl, Pg.ok h1 R1 rfl⟩
  | _ => exact h1.elim
theorem dt_cmp {r : R2} {op : D → D → Option D} (hb : Bin2 G true true r op) (h : PT X e (tTest (tOp r (tD G true O E F1) (tD G true O E F2)))) : PT X e (tBt G O E (blT (binF op F1 F2))) := by
  refine h.mono fun σ H Q ⟨φ, B, ρ, S, R, hp⟩ => ⟨φ, B, ρ, S, R, ?_⟩
  have hp := Pg.blT (rel := DV G) hp
  refine Pg.bind hp fun d1 S1 v1 B1 H1 g R1 hw h1 => ⟨φ, B1, ρ, S1, R1, ?_⟩
  refine Pg.bind h1 fun d2 S2 v2 B2 H2 g2 R2 hw2 h2 => ?_
  obtain ⟨d, e, q⟩ := h2.opt
  exact hb R2 (hw.same (g2.bs true)) hw2 e q
/-! a < b < c -/
def chF (op op' : D → D → Option D) (F1 F2 F3 : Ex) : Ex := fun ρ S => (F1 ρ S).bind fun d1 S1 => (F2 ρ S1).bind fun d2 S2 => match op d1 d2 with
  | some (.bl true) => (F3 ρ S2).bind fun d3 S3 => optF (op' d2 d3) S3
  | some (.bl false) => .ok (.bl false) S2
  | _ => .bad
theorem chain_imp {r r' : R2} {op op' : D → D → Option D} (hb : Bin2 G true true r op) (hb' : Bin2 G true m r' op') (R : Rep G φ O σ B H ρ S) {Q : VK} (hp : Pg G φ m O E σ ρ (DV G) B H (chF op op' F1 F2 F3 ρ S) Q) : tChain r r' (tD G true O E F1) (tD G true O E F2) (tD G true O E F3) σ H Q := by
  refine ⟨φ, B, ρ, S, R, ?_⟩
  refine Pg.bind hp fun d1 S1 v1 B1 H1 g R1 hw h1 => ⟨φ, B1, ρ, S1, R1, ?_⟩
  refine Pg.bind h1 fun d2 S2 v2 B2 H2 g2 R2 hw2 h2 => ?_
  split at h2
  · rename_i e1
    refine hb R2 (hw.same (g2.bs true)) hw2 e1 fun v B3 H3 g3 R3 dv => ?_
    cases dv
    refine ⟨true, rfl, ?_⟩
    rw [if_pos rfl]
    refine ⟨φ, B3, ρ, S2, R3, ?_⟩
    refine Pg.bind (Pg.go g3 h2) fun d3 S3 v3 B4 H4 g4 R4 hw3 h4 => ?_
    obtain ⟨d, e, q⟩ := h4.opt
    exact hb' R4 ((hw2.same (g3.bs true)).same (g4.bs true)) hw3 e q
  · rename_i e1
    refine hb R2 (hw.same (g2.bs true)) hw2 e1 fun v B3 H3 g3 R3 dv => ?_
    cases dv
    refine ⟨false, rfl, ?_⟩
    rw [if_neg (by decide)]
    exact (Pg.go g3 h2).ok R3 (.bl _)
  · exact h2.elim
theorem de_chain {r r' : R2} {op op' : D → D → Option D} (hb : Bin2 G true true r op) (hb' : Bin2 G true m r' op') (h : PE X e (tChain r r' (tD G true O E F1) (tD G true O E F2) (tD G true O E F3))) : PE X e (tD G m O E (chF op op' F1 F2 F3)) :=
  h.mono fun σ H Q ⟨φ, B, ρ, S, R, hp⟩ => chain_imp hb hb' R hp
theorem dt_chain {r r' : R2} {op op' : D → D → Option D} (hb : Bin2 G true true r op) (hb' : Bin2 G true true r' op') (h : PT X e (tTest (tChain r r' (tD G true O E F1) (tD G true O E F2) (tD G true O E F3)))) : PT X e (tBt G O E (blT (chF op op' F1 F2 F3))) :=
  h.mono fun σ H Q ⟨φ, B, ρ, S, R, hp⟩ => chain_imp hb hb' R (Pg.blT (rel := DV G) hp)
abbrev rInt1 : List V → Hp → VK → Prop := fun xs H Q => (∃ i, xs = [.int i] ∧ Q (.int i) H) ∨ ∃ k, xs = [.bl k] ∧ Q (.int (if k then 1 else 0)) H
theorem arg_int : ArgN G m m' rInt1 intD := by
  intro φ O σ B H ρ S vs ds d Q R hv e q
  unfold intD at e
  split at e
  · cases hv with | cons h1 h2 =>
    cases h2; cases h1; cases e; exact .inl ⟨_, rfl, q _ _ _ Go.refl R (.int _)⟩
  · cases hv with | cons h1 h2 =>
    cases h2; cases h1; cases e; exact .inr ⟨_, rfl, q _ _ _ Go.refl R (.int _)⟩
  · cases e
/-! runs -/
def runD : Str → D → Option D := fun f d => match d with
  | .run r an => if f = "words" then some (.tup (r.words.map D.str)) else if f = "keeps" then some (.tup (r.keeps.map D.bl)) else if f = "kept" then some (.tup (r.kept.map D.int)) else if f = "state" then some (.str r.st) else if f = "answer" then some (.str an) else none
  | _ => none
theorem de_run {f : Str} (hc : Cls G.K G.cr) (hn : NoAttr G.K G.cr f) (h : PE X e (tFld X.K (tD G m O E F) f)) (hK : X.K = G.K := by rfl) : PE X e (tD G m O E (unF (runD f) F)) := by
  refine h.mono fun σ H Q ⟨φ, B, ρ, S, R, hp⟩ => ⟨φ, B, ρ, S, R, ?_⟩
  rw [hK]
  refine Pg.bind hp fun d S1 w B1 H1 g R1 hw h1 => ?_
  obtain ⟨r, hr, q⟩ := h1.opt
  cases hw with
  | run hrun =>
    obtain ⟨dx, a, b, c, k1, k2, k3, k4⟩ := hrun
    have hb := R1.bsH m
    unfold runD at hr
    dsimp only at hr
    rename_i aa rr an2
    split at hr
    · rename_i e; subst e; cases hr
      exact ⟨aa, G.cr, dx, _, .ref a, rfl, hb _ _ k1, hc, hn, rfl, q _ _ _ Go.refl R1 (.tup (SqT.of k2) (dvs_strs _))⟩
    · split at hr
      · rename_i e; subst e; cases hr
        exact ⟨aa, G.cr, dx, _, .ref b, rfl, hb _ _ k1, hc, hn, rfl, q _ _ _ Go.refl R1 (.tup (SqT.of k3) (dvs_bools _))⟩
      · split at hr
        · rename_i e; subst e; cases hr
          exact ⟨aa, G.cr, dx, _, .ref c, rfl, hb _ _ k1, hc, hn, rfl, q _ _ _ Go.refl R1 (.tup (SqT.of k4) (dvs_ints _))⟩
        · split at hr
          · rename_i e; subst e; cases hr
            exact ⟨aa, G.cr, dx, _, _, rfl, hb _ _ k1, hc, hn, rfl, q _ _ _ Go.refl R1 (.str _)⟩
          · split at hr
            · rename_i e; subst e; cases hr
              exact ⟨aa, G.cr, dx, _, _, rfl, hb _ _ k1, hc, hn, rfl, q _ _ _ Go.refl R1 (.str _)⟩
            · cases hr
  | _ => cases hr
/-! isinstance -/
def isInt : D → Option D
  | .non => some (.bl false)
  | .bl _ => some (.bl true)
  | .int _ => some (.bl true)
  | .str _ => some (.bl false)
  | .lst _ => some (.bl false)
  | .tup _ => some (.bl false)
  | .dct _ => some (.bl false)
  | .dcT _ => some (.bl false)
  | _ => none
theorem de_isInt (h : PE X e (tCB (rIsi X.K) (tCons (tD G true O E F) (tCons (tC (.ty "int")) tNil)))) (hK : X.K = G.K := by rfl) : PE X e (tD G m O E (unF isInt F)) := by
  refine h.mono fun σ H Q ⟨φ, B, ρ, S, R, hp⟩ => ⟨φ, B, ρ, S, R, ?_⟩
  rw [hK]
  refine Pg.bind hp fun d S1 w B1 H1 g R1 hw h1 => ?_
  obtain ⟨r, hr, q⟩ := h1.opt
  have hw := dv_H R1 hw
  cases hw with
  | non => cases hr; exact ⟨_, _, _, _, false, rfl, .ty _, TyX.base TyOf.non, kit_ty (by decide +kernel), q _ _ _ Go.refl R1 (.bl _)⟩
  | bl b => cases hr; exact ⟨_, _, _, _, true, rfl, .ty _, TyX.base (TyOf.bl _), kit_ty (by decide +kernel), q _ _ _ Go.refl R1 (.bl _)⟩
  | int b => cases hr; exact ⟨_, _, _, _, true, rfl, .ty _, TyX.base (TyOf.int _), kit_ty (by decide +kernel), q _ _ _ Go.refl R1 (.bl _)⟩
  | str b => cases hr; exact ⟨_, _, _, _, false, rfl, .ty _, TyX.base (TyOf.str _), kit_ty (by decide +kernel), q _ _ _ Go.refl R1 (.bl _)⟩
  | lst ha hs => cases hr; exact ⟨_, _, _, _, false, rfl, .ty _, TyX.base (TyOf.lst ha), kit_ty (by decide +kernel), q _ _ _ Go.refl R1 (.bl _)⟩
  | tup ha hs => cases hr; exact ⟨_, _, _, _, false, rfl, .ty _, SqT.tyx ha, kit_ty (by decide +kernel), q _ _ _ Go.refl R1 (.bl _)⟩
  | dct ha _ hs => cases hr; exact ⟨_, _, _, _, false, rfl, .ty _, TyX.base (TyOf.dK ha), kit_ty (by decide +kernel), q _ _ _ Go.refl R1 (.bl _)⟩
  | dcT ha _ hs => cases hr; exact ⟨_, _, _, _, false, rfl, .ty _, TyX.base (TyOf.dT ha), kit_ty (by decide +kernel), q _ _ _ Go.refl R1 (.bl _)⟩
  | _ => cases hr
def isBool : D → Option D
  | .non => some (.bl false)
  | .bl _ => some (.bl true)
  | .int _ => some (.bl false)
  | .str _ => some (.bl false)
  | .lst _ => some (.bl false)
  | .tup _ => some (.bl false)
  | .dct _ => some (.bl false)
  | .dcT _ => some (.bl false)
  | _ => none
theorem de_isBool (h : PE X e (tCB (rIsi X.K) (tCons (tD G true O E F) (tCons (tC (.ty "bool")) tNil)))) (hK : X.K = G.K := by rfl) : PE X e (tD G m O E (unF isBool F)) := by
  refine h.mono fun σ H Q ⟨φ, B, ρ, S, R, hp⟩ => ⟨φ, B, ρ, S, R, ?_⟩
  rw [hK]
  refine Pg.bind hp fun d S1 w B1 H1 g R1 hw h1 => ?_
  obtain ⟨r, hr, q⟩ := h1.opt
  have hw := dv_H R1 hw
  cases hw with
  | non => cases hr; exact ⟨_, _, _, _, false, rfl, .ty _, TyX.base TyOf.non, kit_ty (by decide +kernel), q _ _ _ Go.refl R1 (.bl _)⟩
  | bl b => cases hr; exact ⟨_, _, _, _, true, rfl, .ty _, TyX.base (TyOf.bl _), kit_ty (by decide +kernel), q _ _ _ Go.refl R1 (.bl _)⟩
  | int b => cases hr; exact ⟨_, _, _, _, false, rfl, .ty _, TyX.base (TyOf.int _), kit_ty (by decide +kernel), q _ _ _ Go.refl R1 (.bl _)⟩
  | str b => cases hr; exact ⟨_, _, _, _, false, rfl, .ty _, TyX.base (TyOf.str _), kit_ty (by decide +kernel), q _ _ _ Go.refl R1 (.bl _)⟩
  | lst ha hs => cases hr; exact ⟨_, _, _, _, false, rfl, .ty _, TyX.base (TyOf.lst ha), kit_ty (by decide +kernel), q _ _ _ Go.refl R1 (.bl _)⟩
  | tup ha hs => cases hr; exact ⟨_, _, _, _, false, rfl, .ty _, SqT.tyx ha, kit_ty (by decide +kernel), q _ _ _ Go.refl R1 (.bl _)⟩
  | dct ha _ hs => cases hr; exact ⟨_, _, _, _, false, rfl, .ty _, TyX.base (TyOf.dK ha), kit_ty (by decide +kernel), q _ _ _ Go.refl R1 (.bl _)⟩
  | dcT ha _ hs => cases hr; exact ⟨_, _, _, _, false, rfl, .ty _, TyX.base (TyOf.dT ha), kit_ty (by decide +kernel), q _ _ _ Go.refl R1 (.bl _)⟩
  | _ => cases hr
def isStr : D → Option D
  | .non => some (.bl false)
  | .bl _ => some (.bl false)
  | .int _ => some (.bl false)
  | .str _ => some (.bl true)
  | .lst _ => some (.bl false)
  | .tup _ => some (.bl false)
  | .dct _ => some (.bl false)
  | .dcT _ => some (.bl false)
  | _ => none
theorem de_isStr (h : PE X e (tCB (rIsi X.K) (tCons (tD G true O E F) (tCons (tC (.ty "str")) tNil)))) (hK : X.K = G.K := by rfl) : PE X e (tD G m O E (unF isStr F)) := by
  refine h.mono fun σ H Q ⟨φ, B, ρ, S, R, hp⟩ => ⟨φ, B, ρ, S, R, ?_⟩
  rw [hK]
  refine Pg.bind hp fun d S1 w B1 H1 g R1 hw h1 => ?_
  obtain ⟨r, hr, q⟩ := h1.opt
  have hw := dv_H R1 hw
  cases hw with
  | non => cases hr; exact ⟨_, _, _, _, false, rfl, .ty _, TyX.base TyOf.non, kit_ty (by decide +kernel), q _ _ _ Go.refl R1 (.bl _)⟩
  | bl b => cases hr; exact ⟨_, _, _, _, false, rfl, .ty _, TyX.base (TyOf.bl _), kit_ty (by decide +kernel), q _ _ _ Go.refl R1 (.bl _)⟩
  | int b => cases hr; exact ⟨_, _, _, _, false, rfl, .ty _, TyX.base (TyOf.int _), kit_ty (by decide +kernel), q _ _ _ Go.refl R1 (.bl _)⟩
  | str b => cases hr; exact ⟨_, _, _, _, true, rfl, .ty _, TyX.base (TyOf.str _), kit_ty (by decide +kernel), q _ _ _ Go.refl R1 (.bl _)⟩
  | lst ha hs => cases hr; exact ⟨_, _, _, _, false, rfl, .ty _, TyX.base (TyOf.lst ha), kit_ty (by decide +kernel), q _ _ _ Go.refl R1 (.bl _)⟩
  | tup ha hs => cases hr; exact ⟨_, _, _, _, false, rfl, .ty _, SqT.tyx ha, kit_ty (by decide +kernel), q _ _ _ Go.refl R1 (.bl _)⟩
  | dct ha _ hs => cases hr; exact ⟨_, _, _, _, false, rfl, .ty _, TyX.base (TyOf.dK ha), kit_ty (by decide +kernel), q _ _ _ Go.refl R1 (.bl _)⟩
  | dcT ha _ hs => cases hr; exact ⟨_, _, _, _, false, rfl, .ty _, TyX.base (TyOf.dT ha), kit_ty (by decide +kernel), q _ _ _ Go.refl R1 (.bl _)⟩
  | _ => cases hr
def isList : D → Option D
  | .non => some (.bl false)
  | .bl _ => some (.bl false)
  | .int _ => some (.bl false)
  | .str _ => some (.bl false)
  | .lst _ => some (.bl true)
  | .tup _ => some (.bl false)
  | .dct _ => some (.bl false)
  | .dcT _ => some (.bl false)
  | _ => none
theorem de_isList (h : PE X e (tCB (rIsi X.K) (tCons (tD G true O E F) (tCons (tC (.ty "list")) tNil)))) (hK : X.K = G.K := by rfl) : PE X e (tD G m O E (unF isList F)) := by
  refine h.mono fun σ H Q ⟨φ, B, ρ, S, R, hp⟩ => ⟨φ, B, ρ, S, R, ?_⟩
  rw [hK]
  refine Pg.bind hp fun d S1 w B1 H1 g R1 hw h1 => ?_
  obtain ⟨r, hr, q⟩ := h1.opt
  have hw := dv_H R1 hw
  cases hw with
  | non => cases hr; exact ⟨_, _, _, _, false, rfl, .ty _, TyX.base TyOf.non, kit_ty (by decide +kernel), q _ _ _ Go.refl R1 (.bl _)⟩
  | bl b => cases hr; exact ⟨_, _, _, _, false, rfl, .ty _, TyX.base (TyOf.bl _), kit_ty (by decide +kernel), q _ _ _ Go.refl R1 (.bl _)⟩
  | int b => cases hr; exact ⟨_, _, _, _, false, rfl, .ty _, TyX.base (TyOf.int _), kit_ty (by decide +kernel), q _ _ _ Go.refl R1 (.bl _)⟩
  | str b => cases hr; exact ⟨_, _, _, _, false, rfl, .ty _, TyX.base (TyOf.str _), kit_ty (by decide +kernel), q _ _ _ Go.refl R1 (.bl _)⟩
  | lst ha hs => cases hr; exact ⟨_, _, _, _, true, rfl, .ty _, TyX.base (TyOf.lst ha), kit_ty (by decide +kernel), q _ _ _ Go.refl R1 (.bl _)⟩
  | tup ha hs => cases hr; exact ⟨_, _, _, _, false, rfl, .ty _, SqT.tyx ha, kit_ty (by decide +kernel), q _ _ _ Go.refl R1 (.bl _)⟩
  | dct ha _ hs => cases hr; exact ⟨_, _, _, _, false, rfl, .ty _, TyX.base (TyOf.dK ha), kit_ty (by decide +kernel), q _ _ _ Go.refl R1 (.bl _)⟩
  | dcT ha _ hs => cases hr; exact ⟨_, _, _, _, false, rfl, .ty _, TyX.base (TyOf.dT ha), kit_ty (by decide +kernel), q _ _ _ Go.refl R1 (.bl _)⟩
  | _ => cases hr
def isTup : D → Option D
  | .non => some (.bl false)
  | .bl _ => some (.bl false)
  | .int _ => some (.bl false)
  | .str _ => some (.bl false)
  | .lst _ => some (.bl false)
  | .tup _ => some (.bl true)
  | .dct _ => some (.bl false)
  | .dcT _ => some (.bl false)
  | _ => none
theorem de_isTup (h : PE X e (tCB (rIsi X.K) (tCons (tD G true O E F) (tCons (tC (.ty "tuple")) tNil)))) (hK : X.K = G.K := by rfl) : PE X e (tD G m O E (unF isTup F)) := by
  refine h.mono fun σ H Q ⟨φ, B, ρ, S, R, hp⟩ => ⟨φ, B, ρ, S, R, ?_⟩
  rw [hK]
  refine Pg.bind hp fun d S1 w B1 H1 g R1 hw h1 => ?_
  obtain ⟨r, hr, q⟩ := h1.opt
  have hw := dv_H R1 hw
  cases hw with
  | non => cases hr; exact ⟨_, _, _, _, false, rfl, .ty _, TyX.base TyOf.non, kit_ty (by decide +kernel), q _ _ _ Go.refl R1 (.bl _)⟩
  | bl b => cases hr; exact ⟨_, _, _, _, false, rfl, .ty _, TyX.base (TyOf.bl _), kit_ty (by decide +kernel), q _ _ _ Go.refl R1 (.bl _)⟩
  | int b => cases hr; exact ⟨_, _, _, _, false, rfl, .ty _, TyX.base (TyOf.int _), kit_ty (by decide +kernel), q _ _ _ Go.refl R1 (.bl _)⟩
  | str b => cases hr; exact ⟨_, _, _, _, false, rfl, .ty _, TyX.base (TyOf.str _), kit_ty (by decide +kernel), q _ _ _ Go.refl R1 (.bl _)⟩
  | lst ha hs => cases hr; exact ⟨_, _, _, _, false, rfl, .ty _, TyX.base (TyOf.lst ha), kit_ty (by decide +kernel), q _ _ _ Go.refl R1 (.bl _)⟩
  | tup ha hs => cases hr; exact ⟨_, _, _, _, true, rfl, .ty _, SqT.tyx ha, kit_ty (by decide +kernel), q _ _ _ Go.refl R1 (.bl _)⟩
  | dct ha _ hs => cases hr; exact ⟨_, _, _, _, false, rfl, .ty _, TyX.base (TyOf.dK ha), kit_ty (by decide +kernel), q _ _ _ Go.refl R1 (.bl _)⟩
  | dcT ha _ hs => cases hr; exact ⟨_, _, _, _, false, rfl, .ty _, TyX.base (TyOf.dT ha), kit_ty (by decide +kernel), q _ _ _ Go.refl R1 (.bl _)⟩
  | _ => cases hr
def isSq : D → Option D
  | .non => some (.bl false)
  | .bl _ => some (.bl false)
  | .int _ => some (.bl false)
  | .str _ => some (.bl false)
  | .lst _ => some (.bl true)
  | .tup _ => some (.bl true)
  | .dct _ => some (.bl false)
  | .dcT _ => some (.bl false)
  | _ => none
theorem any2 {K : PySem.W.Frag} {t : String} {b1 b2 : Bool} (h1 : kitB t "list" = some b1) (h2 : kitB t "tuple" = some b2) : PySem.W.kitAny K (.type t) [.type "list", .type "tuple"] = some (b1 || b2) := by
  refine kitAny_cons (b := b1) (kit_ty h1) (fun e => ?_) (fun e => by rw [e]; rfl)
  rw [e]
  exact kitAny_cons (b := b2) (kit_ty h2) (fun e => by rw [e]; rfl) (fun e => by rw [e]; rfl)
theorem de_isSq (h : PE X e (tCB (rIsiT X.K) (tCons (tD G true O E F) (tCons (tTup (tCons (tC (.ty "list")) (tCons (tC (.ty "tuple")) tNil))) tNil)))) (hK : X.K = G.K := by rfl) : PE X e (tD G m O E (unF isSq F)) := by
  refine h.mono fun σ H Q ⟨φ, B, ρ, S, R, hp⟩ => ⟨φ, B, ρ, S, R, ?_⟩
  rw [hK]
  refine Pg.bind hp fun d S1 w B1 H1 g R1 hw h1 => ?_
  obtain ⟨r, hr, q⟩ := h1.opt
  refine ⟨by decide, fun tp ntp => ?_⟩
  obtain ⟨R2, g2, np⟩ := R1.new (o := .tup [.ty "list", .ty "tuple"]) ntp
  have hw := dv_H R2 (hw.same (g2.bs true))
  have fin : ∀ (t : String) (b1 b2 : Bool), TyX G.K (upd H1 tp (.tup [.ty "list", .ty "tuple"])) w (.type t) → kitB t "list" = some b1 → kitB t "tuple" = some b2 → r = .bl (b1 || b2) → rIsiT G.K [w, .ref tp] (upd H1 tp (.tup [.ty "list", .ty "tuple"])) Q := fun t b1 b2 ht k1 k2 er => by
    subst er
    exact ⟨w, tp, _, _, [.type "list", .type "tuple"], _, rfl, upd_same, .cons (.ty _) (.cons (.ty _) .nil), ht, any2 k1 k2, q _ _ _ g2 R2 (.bl _)⟩
  cases hw with
  | non => cases hr; exact fin _ false false (TyX.base TyOf.non) (by decide +kernel) (by decide +kernel) rfl
  | bl b => cases hr; exact fin _ false false (TyX.base (TyOf.bl _)) (by decide +kernel) (by decide +kernel) rfl
  | int b => cases hr; exact fin _ false false (TyX.base (TyOf.int _)) (by decide +kernel) (by decide +kernel) rfl
  | str b => cases hr; exact fin _ false false (TyX.base (TyOf.str _)) (by decide +kernel) (by decide +kernel) rfl
  | lst ha hs => cases hr; exact fin _ true false (TyX.base (TyOf.lst ha)) (by decide +kernel) (by decide +kernel) rfl
  | tup ha hs => cases hr; exact fin _ false true (SqT.tyx ha) (by decide +kernel) (by decide +kernel) rfl
  | dct ha _ hs => cases hr; exact fin _ false false (TyX.base (TyOf.dK ha)) (by decide +kernel) (by decide +kernel) rfl
  | dcT ha _ hs => cases hr; exact fin _ false false (TyX.base (TyOf.dT ha)) (by decide +kernel) (by decide +kernel) rfl
  | _ => cases hr
theorem ds_lcN {i : Nat} {is js : List Nat} {FI : Exs} {g : Tgt} {c : Tst} {Fe : Ex} (hi : i ∉ O) (hO' : O' = i :: O) (hO : ∀ i, i ∈ is → i ∉ O) (hj : ∀ i, i ∈ js → i ∈ is) (h : PS X st (tAsg (tLc (tI G O E FI) (tTg G O js g) (tBt G O E c) (tD G false O E Fe) is) (gName i))) (hv0 : G.v = false := by rfl) : PS X st (tS G O O' Ol E (setN i (lcF is FI g c Fe))) :=
  ds_setN hi hO' (h.asg_mono fun σ H Q hw => lc_imp hO hj σ H Q hw hv0) hv0
theorem ds_lc {i : Nat} {is js : List Nat} {FI : Exs} {g : Tgt} {c : Tst} {Fe : Ex} (hO' : O' = offO O i) (hO : ∀ i, i ∈ is → i ∉ O) (hj : ∀ i, i ∈ js → i ∈ is) (h : PS X st (tAsg (tLc (tI G O E FI) (tTg G O js g) (tBt G O E c) (tD G false O E Fe) is) (gName i))) (hv0 : G.v = false := by rfl) : PS X st (tS G O O' Ol E (setS i (lcF is FI g c Fe))) :=
  ds_set hO' (h.asg_mono fun σ H Q h => lc_imp (m := false) hO hj σ H Q (ofN_imp h) hv0)
end
end
end NL
/-! ### the data layer: the source, the law's own beginning and end -/
namespace NL
noncomputable section
open PySem L2
def drawV (S : SrcT) (m : Int) : Int := if 1 < S.g then S.g % m else ((S.s + 7919 * (S.c + 1)) ^ (5 : Int).toNat % 2147483629 * 48271 + 16807 * (S.c + 1) * (S.c + 1) + 11) ^ (3 : Int).toNat % 1000000007 % m
def drawS (S : SrcT) (m : Int) : SrcT := { S with g := if 1 < S.g then S.g / m else S.g, c := S.c + 1 }
def f__law_draw : List D → SrcT → Rs D := fun ds S => match ds with
  | [.src, .int m] => if (decide (0 < m) && decide (m < 1000000) && decide (S.c ≤ 990000)) = true then .ok (.int (drawV S m)) (drawS S m) else .bad
  | _ => .bad
theorem draw_ok {S : SrcT} {m : Int} (h0 : 0 < m) (h1 : m < 1000000) (hc : S.c ≤ 990000) : ∃ r S', f__law_draw [.src, .int m] S = .ok (.int r) S' ∧ 0 ≤ r ∧ r < m ∧ S'.c = S.c + 1 := by
  refine ⟨drawV S m, drawS S m, ?_, ?_, ?_, rfl⟩
  · show (if _ then _ else _) = _
    rw [if_pos (by simp [h0, h1, hc])]
  · unfold drawV; split <;> exact Int.emod_nonneg _ (by omega)
  · unfold drawV; split <;> exact Int.emod_lt_of_pos _ h0
section
variable {X : Cx} {G : Gm} {O O' Ol : List Nat} {E : XK} {A : Sx} {Q : VK} {nxP : L2.St → Hp → Prop} {H : Hp} {p a : Addr} {k : Nat}
/-- behind the law's first row -/
theorem law_readS {v0 : Option V} (hs : Src H p 0) (hQ : ∀ H', Q (.bl true) H') (hl : ∀ S : SrcT, S.c = 0 → (A (none :: some .src :: List.replicate k none) S).sat fun r _ => ∃ ρ', r = (.ret (.bl true), ρ')) (hv0 : G.v = false := by rfl) (hfx : G.fx = none := by rfl) : tS G [] O' Ol E A { nx := nxP, rt := Q } (v0 :: some (.ref p) :: List.replicate k none) H := by
  obtain ⟨g, s, h1, h2, h3, _⟩ := hs
  have he := hl { g := g, s := s, c := 0 } rfl
  refine ⟨{ p := some p, B0 := fun _ => none, H0 := H }, fun _ => none, none :: some .src :: List.replicate k none, { g := g, s := s, c := 0 }, ⟨fun _ _ h => (nomatch h), fun _ _ _ _ h => h, fun _ _ h => (nomatch h), fun q hq => ?_, fun _ _ h => (nomatch h), by simp, fun i d _ hd => ?_, fun i hi => (nomatch hi), fun i j hi => (nomatch hi), fun a h => h, (fun hv => by rw [hv0] at hv; cases hv), ⟨hv0.symm, fun _ f hf => by rw [hfx] at hf; cases hf⟩, fun i hi => (nomatch hi)⟩, ?_⟩
  · cases hq; exact ⟨rfl, h1, h2, h3, Int.le_refl _⟩
  · match i with
    | 0 => cases hd
    | 1 => cases hd; exact ⟨.ref p, rfl, .src rfl⟩
    | i + 2 =>
      have hd : (List.replicate k (none : Option D))[i]? = some (some d) := hd
      obtain ⟨_, hd2⟩ := List.getElem?_eq_some_iff.mp hd
      rw [List.getElem_replicate] at hd2; cases hd2
  · generalize A (none :: some .src :: List.replicate k none) { g := g, s := s, c := 0 } = r at he
    induction r with
    | bad => exact he.elim
    | exc _ _ _ => exact he.elim
    | all p0 f ih => exact fun x px => ih x (he x px)
    | ok q S =>
      obtain ⟨ρ', rfl⟩ := he
      intro v B' H' _ _ hv
      cases hv
      exact hQ H'
theorem law_read {v0 : Option V} (hs : Src H p 0) (hQ : ∀ H', Q (.bl true) H') (hl : ∀ S : SrcT, S.c = 0 → ∃ ρ' S', A (none :: some .src :: List.replicate k none) S = .ok (.ret (.bl true), ρ') S') (hv0 : G.v = false := by rfl) (hfx : G.fx = none := by rfl) : tS G [] O' Ol E A { nx := nxP, rt := Q } (v0 :: some (.ref p) :: List.replicate k none) H :=
  law_readS hs hQ (fun S hS => by
    obtain ⟨ρ', S', e⟩ := hl S hS
    rw [e]; exact ⟨ρ', rfl⟩) hv0 hfx
end
end
end NL
/-! ### the data layer: loops and runs -/
namespace NL
noncomputable section
open PySem L2
open Classical in
/-- what is shared behind a call that is told in the heap's own words: N are new places -/
noncomputable def grow (B H' : Hp) (N : List Addr) : Hp := fun a => match B a with
  | some o => some o
  | none => match H' a with
    | some o => if ¬ mutO o ∨ a ∈ N then some o else none
    | none => none
section
variable {G : Gm} {p : Option Addr} {B H H' : Hp} {N : List Addr} {S : SrcT}
theorem grow_b : Same B (grow B H' N) := fun a o h => by unfold grow; rw [h]
theorem grow_h (hB : Same B H) (hp : ∀ q, p = some q → B q = none) (fr : ∀ a o, p ≠ some a → H a = some o → H' a = some o) : Same (grow B H' N) H' := fun a o h => by
  unfold grow at h
  split at h
  · rename_i o' e
    cases h
    refine fr a o (fun q => ?_) (hB a o e)
    rw [hp a q] at e; cases e
  · split at h
    · rename_i o' e'
      split at h
      · cases h; exact e'
      · cases h
    · cases h
theorem grow_at (hB : Same B H) (hp : ∀ q, p = some q → B q = none) (fr : ∀ a o, p ≠ some a → H a = some o → H' a = some o) {a : Addr} {o : HO} (h : H' a = some o) (hm : ¬ mutO o ∨ a ∈ N) : grow B H' N a = some o := by
  unfold grow
  split
  · rename_i o' e
    have h2 := fr a o' (fun q => by rw [hp a q] at e; cases e) (hB a o' e)
    rw [h] at h2; rw [h2]
  · rw [h]; dsimp only; rw [if_pos hm]
theorem grow_cl (hN : ∀ a, a ∈ N → H a = none) {a : Addr} {o : HO} (h : grow B H' N a = some o) (hm : mutO o) : B a = some o ∨ H a = none := by
  unfold grow at h
  split at h
  · rename_i o' e; cases h; exact .inl e
  · split at h
    · split at h
      · rename_i hk
        cases h
        rcases hk with hk | hk
        · exact absurd hm hk
        · exact .inr (hN a hk)
      · cases h
    · cases h
theorem grow_p {q : Addr} (hq : B q = none) (hs : SrcAt H' q S) (hn : q ∉ N) : grow B H' N q = none := by
  unfold grow
  rw [hq]; dsimp only
  rw [hs.1]; dsimp only
  rw [if_neg]
  rintro (h | h)
  · exact h True.intro
  · exact hn h
theorem grow_sqT (hB : Same B H) (hp : ∀ q, p = some q → B q = none) (fr : ∀ a o, p ≠ some a → H a = some o → H' a = some o) {K : PySem.W.Frag} {a : Addr} {xs : List V} (h : SqT K H' a xs) : SqT K (grow B H' N) a xs := by
  rcases h with (h | ⟨o, h⟩) | h
  · exact .inl (.inl (grow_at hB hp fr h (.inl (fun z => z))))
  · exact .inl (.inr ⟨o, grow_at hB hp fr h (.inl (fun z => z))⟩)
  · exact .inr h
end
/-! runs -/
def bnd30 (i : Int) : Bool := decide (-1000000000000000000000000000000 < i) && decide (i < 1000000000000000000000000000000)
def wfB (rs : List Rule) : Bool := decide (0 < rs.length) && decide (rs.length ≤ 40) && rs.all wfRule && decide ((statesR rs).length ≤ 6)
theorem wfB_iff {rs : List Rule} : wfB rs = true ↔ wfRules rs := by
  unfold wfB wfRules
  simp only [Bool.and_eq_true, decide_eq_true_eq, List.all_eq_true, and_assoc]
def f_run : List D → SrcT → Rs D := fun ds S => match ds with
  | [.loop rs ans, .lst ns, .int e] => match intsD ns with
    | some ns => if (wfB rs && decide (ns.length ≤ 1000) && ns.all bnd30 && decide (1 ≤ e) && bnd30 e) = true then .ok (.run (runR rs e ns) (ansOf ans (runR rs e ns).st)) S else .bad
    | none => .bad
  | _ => .bad
theorem f_run_ok {rs : List Rule} {ans : List (Str × Str)} {ns : List Int} {e : Int} {S : SrcT} (h1 : wfRules rs) (h2 : ns.length ≤ 1000) (h3 : ∀ i ∈ ns, -1000000000000000000000000000000 < i ∧ i < 1000000000000000000000000000000) (h4 : 1 ≤ e) (h5 : e < 1000000000000000000000000000000) :
    f_run [.loop rs ans, .lst (ns.map D.int), .int e] S = .ok (.run (runR rs e ns) (ansOf ans (runR rs e ns).st)) S := by
  show (match intsD (ns.map D.int) with | some ns => _ | none => _) = _
  rw [intsD_map]
  dsimp only
  rw [if_pos]
  have : ns.all bnd30 = true := by
    rw [List.all_eq_true]; intro i hi
    unfold bnd30; have := h3 i hi; simp [this]
  rw [wfB_iff.mpr h1, this]
  unfold bnd30
  simp [h2, h4, h5]; omega
theorem f_run_cases (ds : List D) (S : SrcT) : f_run ds S = .bad ∨ ∃ rs ans nds ns e, ds = [.loop rs ans, .lst nds, .int e] ∧ intsD nds = some ns ∧ wfRules rs ∧ ns.length ≤ 1000 ∧ (∀ i ∈ ns, -1000000000000000000000000000000 < i ∧ i < 1000000000000000000000000000000) ∧ 1 ≤ e ∧ e < 1000000000000000000000000000000 ∧ f_run ds S = .ok (.run (runR rs e ns) (ansOf ans (runR rs e ns).st)) S := by
  unfold f_run
  split
  · rename_i rs ans nds e
    split
    · rename_i ns hn
      split
      · rename_i hc
        simp only [Bool.and_eq_true, decide_eq_true_eq, List.all_eq_true] at hc
        obtain ⟨⟨⟨⟨c1, c2⟩, c3⟩, c4⟩, c5⟩ := hc
        have eb : ∀ i, bnd30 i = true → -1000000000000000000000000000000 < i ∧ i < 1000000000000000000000000000000 := fun i hi => by
          unfold bnd30 at hi; simpa only [Bool.and_eq_true, decide_eq_true_eq] using hi
        exact .inr ⟨rs, ans, nds, ns, e, rfl, hn, wfB_iff.mp c1, c2, fun i hi => eb i (c3 i hi), c4, (eb e c5).2, rfl⟩
      · exact .inl rfl
    · exact .inl rfl
  · exact .inl rfl
/-- loops that are made -/
def ruleD : D → Option Rule := fun d => match seqD d with
  | some [.str st, g, .str wd, .bl kp, .str nx] => match seqD g with
    | some gs => (strsD gs).map fun zs => ⟨st, zs, wd, kp, nx⟩
    | none => none
  | _ => none
def rulesD : List D → Option (List Rule)
  | [] => some []
  | d :: ds => match ruleD d, rulesD ds with
    | some r, some rs => some (r :: rs)
    | _, _ => none
def ansE : List (Key × D) → Option (List (Str × Str))
  | [] => some []
  | (.inr k, .str z) :: r => (ansE r).map fun s => (k, z) :: s
  | _ => none
def okRules (rs : List Rule) (ans : List (Str × Str)) : Prop := wfRules rs ∧ (∀ r ∈ rs, r.gs.length ≤ 100) ∧ ansOk rs ans
def spLoopInit (K : PySem.W.Frag) (C : Addr) : Sp := fun vs H Q _ => ∃ (self a dx : Addr) (av : V) (rs : List Rule) (ans : List (Str × Str)), vs = [.ref self, .ref a, av] ∧ H self = some (.ins C dx []) ∧ RulesAt K H a rs ∧ wfRules rs ∧ (∀ r ∈ rs, r.gs.length ≤ 100) ∧ ansOk rs ans ∧
  ((av = .non ∧ ans = []) ∨ ∃ d, av = .ref d ∧ H d = some (.dK (ansD ans))) ∧ ∀ H' (rd rt : Addr), But self H H' → H rd = none → H rt = none → (∃ (dx ra : Addr) (tab : List (List Key × V)), H' self = some (.ins C dx [("own_rules", .ref ra), ("own_answers", .ref rd), ("table", .ref rt)]) ∧ RulesT K H' ra rs ∧ H' rd = some (.dK (ansV rs ans)) ∧ H' rt = some (.dT tab) ∧ TabIs tab (fitIdx rs)) → Q .non H'
open Classical in
noncomputable def mkLoop (rs : List Rule) (ans : List (Str × Str)) (S : SrcT) : Rs D := if okRules rs ans then .ok (.loop rs ans) S else .bad
noncomputable def f_Loop : List D → SrcT → Rs D := fun ds S => match ds with
  | [r, a] => match seqD r with
    | some rds => match rulesD rds, a with
      | some rs, .non => mkLoop rs [] S
      | some rs, .dct es => match ansE es with
        | some ans => mkLoop rs ans S
        | none => .bad
      | _, _ => .bad
    | none => .bad
  | _ => .bad
noncomputable def f_Loop1 : List D → SrcT → Rs D := fun ds S => f_Loop (ds ++ [.non]) S
section
variable {G : Gm} {p : Option Addr} {B H H' : Hp}
theorem ruleAt_of {v : V} {d : D} {r : Rule} (hd : DV G p B v d) (h : ruleD d = some r) : RuleAt G.K B v r := by
  unfold ruleD at h
  split at h
  · rename_i st g wd kp nx hs
    split at h
    · rename_i gs hg
      obtain ⟨zs, hz, rfl⟩ := Option.map_eq_some_iff.mp h
      obtain ⟨a, xs, rfl, hq, hx⟩ := sq_of hs hd
      cases hx with | cons k1 hx =>
      cases hx with | cons k2 hx =>
      cases hx with | cons k3 hx =>
      cases hx with | cons k4 hx =>
      cases hx with | cons k5 hx =>
      cases hx; cases k1; cases k3; cases k4; cases k5
      obtain ⟨b, ys, rfl, hq2, hy⟩ := sq_of hg k2
      refine ⟨a, b, rfl, hq, ?_⟩
      rw [← strs_of hz hy]; exact hq2
    · cases h
  · cases h
theorem rulesAt_of : ∀ {vs : List V} {ds : List D} {rs : List Rule}, DVs G p B vs ds → rulesD ds = some rs → Paired (RuleAt G.K B) vs rs := by
  intro vs ds
  induction ds generalizing vs with
  | nil => intro rs hv h; cases hv; cases h; exact .nil
  | cons d ds ih =>
    intro rs hv h
    cases hv with | cons h1 h2 =>
    unfold rulesD at h
    split at h
    · rename_i r rs' e1 e2
      cases h
      exact .cons (ruleAt_of h1 e1) (ih h2 e2)
    · cases h
theorem ansD_of : ∀ {kvs : List (Key × V)} {es : List (Key × D)} {ans : List (Str × Str)}, kvs.map Prod.fst = es.map Prod.fst → DVs G p B (kvs.map Prod.snd) (es.map Prod.snd) → ansE es = some ans → kvs = ansD ans := by
  intro kvs es
  induction es generalizing kvs with
  | nil =>
    intro ans h1 h2 h3
    cases h3
    cases kvs with
    | nil => rfl
    | cons _ _ => cases h1
  | cons e es ih =>
    intro ans h1 h2 h3
    cases kvs with
    | nil => cases h1
    | cons kv kvs =>
      unfold ansE at h3
      split at h3
      · rename_i heq; cases heq
      · rename_i k z r heq
        cases heq
        obtain ⟨s, h4, rfl⟩ := Option.map_eq_some_iff.mp h3
        rw [List.map_cons, List.map_cons] at h1 h2
        injection h1 with e1 e2
        cases h2 with | cons h5 h6 =>
        obtain ⟨k', v'⟩ := kv
        dsimp only at e1 h5
        cases h5
        subst e1
        rw [ih e2 h6 h4]
        rfl
      · cases h3
end
section
variable {X : Cx} {G : Gm} {m m' : Bool} {O : List Nat} {E : XK} {e : Expr} {F : Ex} {Fs : Exs}
theorem make_imp {φ : Fr} {σ : L2.St} {B1 H1 : Hp} {ρ : Env} {S1 : SrcT} {Q : VK} {vs : List V} {ds : List D} (R1 : Rep G φ O σ B1 H1 ρ S1) (hw : DVs G φ.p B1 vs ds) (h1 : Pg G φ false O E σ ρ (DV G) B1 H1 (f_Loop ds S1) Q)
    (x dx : Addr) (nx : H1 x = none) (ndx : H1 dx = none) (ne : dx ≠ x) (hv0 : G.v = false := by rfl) : spLoopInit G.K G.cl (.ref x :: vs) (upd (upd H1 dx (.own x)) x (.ins G.cl dx [])) (fun v H2 => v = .non ∧ Q (.ref x) H2) E := by
  have smL : Same H1 (upd (upd H1 dx (.own x)) x (.ins G.cl dx [])) := (same_new ndx).trans (same_new (by rw [upd_ne ne.symm]; exact nx))
  have fin : ∀ (rs : List Rule) (ans : List (Str × Str)) (a : Addr) (av : V), vs = [.ref a, av] → RulesAt G.K B1 a rs → ((av = .non ∧ ans = []) ∨ ∃ d, av = .ref d ∧ B1 d = some (.dK (ansD ans))) → Pg G φ false O E σ ρ (DV G) B1 H1 (mkLoop rs ans S1) Q → spLoopInit G.K G.cl (.ref x :: vs) (upd (upd H1 dx (.own x)) x (.ins G.cl dx [])) (fun v H2 => v = .non ∧ Q (.ref x) H2) E := fun rs ans a av ev hR hav hp => by
    subst ev
    unfold mkLoop at hp
    split at hp
    · rename_i hok
      refine ⟨x, a, dx, av, rs, ans, rfl, upd_same, (hR.same R1.sub).same smL, hok.1, hok.2.1, hok.2.2, ?_, fun H' rd rt bt nrd nrt hL => ⟨rfl, ?_⟩⟩
      · rcases hav with hav | ⟨d, rfl, hd⟩
        · exact .inl hav
        · exact .inr ⟨d, rfl, smL _ _ (R1.sub _ _ hd)⟩
      · have npx : φ.p ≠ some x := fun e => by have := (R1.src x e).2.1; rw [nx] at this; cases this
        have fr : ∀ a o, φ.p ≠ some a → H1 a = some o → H' a = some o := fun a o _ h => bt a o (ne_of_none h nx) (smL a o h)
        have hpB : ∀ q, φ.p = some q → B1 q = none := fun q hq => (R1.src q hq).1
        have nrd1 : H1 rd = none := by
          cases k : H1 rd with
          | none => rfl
          | some o => rw [smL _ _ k] at nrd; cases nrd
        have nrt1 : H1 rt = none := by
          cases k : H1 rt with
          | none => rfl
          | some o => rw [smL _ _ k] at nrt; cases nrt
        have srcH : ∀ q, φ.p = some q → SrcAt H' q S1 := fun q hq => by
          have h0 := (R1.src q hq).2
          refine ⟨bt q _ (fun e => npx (e ▸ hq)) (smL _ _ h0.1), h0.2⟩
        have hN : ∀ a, a ∈ [x, rd, rt] → H1 a = none := fun a ha => by
          rcases List.mem_cons.mp ha with rfl | ha
          · exact nx
          rcases List.mem_cons.mp ha with rfl | ha
          · exact nrd1
          · rw [List.mem_singleton.mp ha]; exact nrt1
        obtain ⟨B2, g2, R2, hb⟩ := R1.after false (S' := S1) (Bc := grow B1 H' [x, rd, rt]) grow_b (grow_h R1.sub hpB fr) fr (fun a o h hm => grow_cl hN h hm) (fun q hq => ⟨grow_p (hpB q hq) (srcH q hq) (fun hm => by
          have := hN q hm
          rw [(R1.src q hq).2.1] at this; cases this), srcH q hq⟩) hv0
        refine hp (.ref x) B2 H' g2 R2 (DV.same hb (.loop ?_))
        obtain ⟨dx', ra, tab, k1, ⟨ws, k2, k3⟩, k4, k5, k6⟩ := hL
        have at' : ∀ {a : Addr} {o : HO}, H' a = some o → (¬ mutO o ∨ a ∈ [x, rd, rt]) → grow B1 H' [x, rd, rt] a = some o := fun h hm => grow_at R1.sub hpB fr h hm
        refine ⟨dx', ra, rd, rt, tab, at' k1 (.inr List.mem_cons_self), ⟨ws, grow_sqT R1.sub hpB fr k2, Paired.mapP k3 fun _ _ ⟨t, g, e, q1, q2⟩ => ⟨t, g, e, grow_sqT R1.sub hpB fr q1, grow_sqT R1.sub hpB fr q2⟩⟩, at' k4 (.inr (List.mem_cons_of_mem _ List.mem_cons_self)), at' k5 (.inr (List.mem_cons_of_mem _ (List.mem_cons_of_mem _ List.mem_cons_self))), k6⟩
    · exact hp.elim
  unfold f_Loop at h1
  split at h1
  · rename_i r a
    split at h1
    · rename_i rds hs
      cases hw with | cons w1 w2 =>
      cases w2 with | cons w2 w3 =>
      cases w3
      obtain ⟨ra, xs, rfl, hq, hx⟩ := sq_of hs w1
      split at h1
      · rename_i rs hr
        cases w2
        exact fin rs [] ra .non rfl ⟨xs, hq, rulesAt_of hx hr⟩ (.inl ⟨rfl, rfl⟩) h1
      · rename_i rs es hr
        split at h1
        · rename_i ans ha
          cases w2 with | dct k1 k2 k3 =>
          exact fin rs ans ra _ rfl ⟨xs, hq, rulesAt_of hx hr⟩ (.inr ⟨_, rfl, by rw [← ansD_of k2 k3 ha]; exact k1⟩) h1
        · exact h1.elim
      · exact h1.elim
    · exact h1.elim
  · exact h1.elim
theorem de_Loop (h : PE X e (tMake G.cl (spLoopInit G.K G.cl) [] E (tDs G false O E Fs))) (hv0 : G.v = false := by rfl) : PE X e (tD G false O E (callF f_Loop Fs)) := by
  refine h.mono fun σ H Q ⟨φ, B, ρ, S, R, hp⟩ => ⟨φ, B, ρ, S, R, ?_⟩
  refine Pg.bind hp fun ds S1 vs B1 H1 g1 R1 hw h1 => fun x dx nx ndx ne => ?_
  rw [List.append_nil]
  exact make_imp R1 hw h1 x dx nx ndx ne hv0
theorem de_Loop1 (h : PE X e (tMake G.cl (spLoopInit G.K G.cl) [.non] E (tDs G false O E Fs))) (hv0 : G.v = false := by rfl) : PE X e (tD G false O E (callF f_Loop1 Fs)) := by
  refine h.mono fun σ H Q ⟨φ, B, ρ, S, R, hp⟩ => ⟨φ, B, ρ, S, R, ?_⟩
  refine Pg.bind hp fun ds S1 vs B1 H1 g1 R1 hw h1 => fun x dx nx ndx ne => ?_
  have hw : DVs G φ.p B1 vs ds := hw
  exact make_imp R1 (hw.append (.cons .non .nil)) h1 x dx nx ndx ne hv0
/-- run.last -/
def lastDD : D → Option D
  | .run r _ => some (match r.kept.getLast? with
    | some k => .int k
    | none => .non)
  | _ => none
theorem de_last {sp : Sp} (hsp : ∀ (H : Hp) (Q : VK) (p : Addr) (r : RS) (an : Str), RunAt G.K G.cr H p r an → Q (match r.kept.getLast? with | some k => V.int k | none => V.non) H → sp [.ref p] H Q E) (h : PE X e (tProp G.cr sp [] E (tD G true O E F))) : PE X e (tD G m O E (unF lastDD F)) := by
  refine h.mono fun σ H Q ⟨φ, B, ρ, S, R, hp⟩ => ⟨φ, B, ρ, S, R, ?_⟩
  refine Pg.bind hp fun d S1 w B1 H1 g R1 hw h1 => ?_
  obtain ⟨r, hr, q⟩ := h1.opt
  have hw := dv_H R1 hw
  cases hw with
  | run hrun =>
    cases hr
    obtain ⟨dx, a, b, c, k1, k2, k3, k4⟩ := id hrun
    refine ⟨_, dx, _, rfl, k1, hsp _ _ _ _ _ hrun ?_⟩
    split
    · rename_i k hk; rw [hk] at q; exact q _ _ _ Go.refl R1 (.int _)
    · rename_i hk; rw [hk] at q; exact q _ _ _ Go.refl R1 .non
  | _ => cases hr
end
end
end NL
/-! ### the data layer: joined texts, lists that are changed, dicts -/
namespace NL
noncomputable section
open PySem L2
def keyD : D → Option Key
  | .int i => some (.inl i)
  | .str z => some (.inr z)
  | _ => none
def valE {κ : Type} [DecidableEq κ] (es : List (κ × D)) (k : κ) : Option D := (es.find? fun kv => decide (kv.1 = k)).map (·.2)
def putE {κ : Type} [DecidableEq κ] (es : List (κ × D)) (k : κ) (d : D) : List (κ × D) :=
  if (es.any fun kv => decide (kv.1 = k)) = true then es.map (fun kv => if kv.1 = k then (kv.1, d) else kv) else es ++ [(k, d)]
section
variable {G : Gm} {p : Option Addr} {B : Hp} {κ : Type} [DecidableEq κ]
theorem dk_val {k : κ} : ∀ {kvs : List (κ × V)} {es : List (κ × D)}, kvs.map Prod.fst = es.map Prod.fst → DVs G p B (kvs.map Prod.snd) (es.map Prod.snd) → (valV kvs k = none ∧ valE es k = none) ∨ ∃ v d, valV kvs k = some v ∧ valE es k = some d ∧ DV G p B v d := by
  intro kvs es
  induction es generalizing kvs with
  | nil =>
    intro h1 h2
    cases kvs with
    | nil => exact .inl ⟨rfl, rfl⟩
    | cons _ _ => cases h1
  | cons e es ih =>
    intro h1 h2
    cases kvs with
    | nil => cases h1
    | cons kv kvs =>
      rw [List.map_cons, List.map_cons] at h1 h2
      injection h1 with e1 e2
      cases h2 with | cons h3 h4 =>
      by_cases hk : e.1 = k
      · refine .inr ⟨kv.2, e.2, valV_pos (e1.trans hk), ?_, h3⟩
        unfold valE; simp [List.find?_cons, hk]
      · rw [valV_neg (fun q => hk (e1 ▸ q))]
        have : valE (e :: es) k = valE es k := by unfold valE; simp [List.find?_cons, hk]
        rw [this]
        exact ih e2 h4
theorem dk_any {k : κ} : ∀ {kvs : List (κ × V)} {es : List (κ × D)}, kvs.map Prod.fst = es.map Prod.fst → (kvs.any fun kv => decide (kv.1 = k)) = (es.any fun kv => decide (kv.1 = k)) := by
  intro kvs es h
  have e1 : (kvs.any fun kv => decide (kv.1 = k)) = (kvs.map Prod.fst).any fun x => decide (x = k) := by rw [List.any_map]; rfl
  have e2 : (es.any fun kv => decide (kv.1 = k)) = (es.map Prod.fst).any fun x => decide (x = k) := by rw [List.any_map]; rfl
  rw [e1, e2, h]
theorem dk_put {k : κ} {v : V} {d : D} {kvs : List (κ × V)} {es : List (κ × D)} (h1 : kvs.map Prod.fst = es.map Prod.fst) (h2 : DVs G p B (kvs.map Prod.snd) (es.map Prod.snd)) (hv : DV G p B v d) :
    (putK kvs k v).map Prod.fst = (putE es k d).map Prod.fst ∧ DVs G p B ((putK kvs k v).map Prod.snd) ((putE es k d).map Prod.snd) := by
  unfold putK putE
  rw [dk_any h1]
  split
  · rename_i ha
    have key : ∀ {kvs : List (κ × V)} {es : List (κ × D)}, kvs.map Prod.fst = es.map Prod.fst → DVs G p B (kvs.map Prod.snd) (es.map Prod.snd) → (kvs.map (fun kv => if kv.1 = k then (kv.1, v) else kv)).map Prod.fst = (es.map (fun kv => if kv.1 = k then (kv.1, d) else kv)).map Prod.fst ∧ DVs G p B ((kvs.map (fun kv => if kv.1 = k then (kv.1, v) else kv)).map Prod.snd) ((es.map (fun kv => if kv.1 = k then (kv.1, d) else kv)).map Prod.snd) := by
      intro kvs es
      induction es generalizing kvs with
      | nil =>
        intro h1 h2
        cases kvs with
        | nil => exact ⟨rfl, .nil⟩
        | cons _ _ => cases h1
      | cons e es ih =>
        intro h1 h2
        cases kvs with
        | nil => cases h1
        | cons kv kvs =>
          rw [List.map_cons, List.map_cons] at h1 h2
          injection h1 with e1 e2
          cases h2 with | cons h3 h4 =>
          obtain ⟨i1, i2⟩ := ih e2 h4
          rw [List.map_cons, List.map_cons, List.map_cons, List.map_cons, List.map_cons, List.map_cons, i1]
          by_cases hk : e.1 = k
          · rw [if_pos (e1.trans hk), if_pos hk]
            exact ⟨by rw [e1], .cons hv i2⟩
          · rw [if_neg (fun q => hk (e1 ▸ q)), if_neg hk]
            exact ⟨by rw [e1], .cons h3 i2⟩
    exact key h1 h2
  · rw [List.map_append, List.map_append, List.map_append, List.map_append, h1]
    exact ⟨rfl, h2.append (.cons hv .nil)⟩
theorem key_dv {v : V} {d : D} {k : Key} (h : DV G p B v d) (e : keyD d = some k) : v = kV k := by
  cases h <;> first | (cases e; rfl) | cases e
end
section
variable {X : Cx} {G : Gm} {m m' : Bool} {O O' Ol : List Nat} {E : XK} {e o i : Expr} {es : List Expr} {F F1 F2 F3 : Ex} {Fs : Exs} {st : Stmt}
/-! joined -/
def joinD : D → D → Option D
  | .str a, c => match seqD c with
    | some ds => match strsD ds with
      | some ys => if (ys.map (·.length)).sum + ys.length * a.length ≤ 100000 then some (.str (Txt.join a ys)) else none
      | none => none
    | none => none
  | _, _ => none
abbrev rJoin (K : PySem.W.Frag) : V → List V → Hp → VK → Prop := fun x xs H Q => ∃ a p, ∃ ys : List Str, x = .str a ∧ xs = [.ref p] ∧ (SqL K H p (ys.map V.str) ∨ SqT K H p (ys.map V.str)) ∧ (ys.map (·.length)).sum + ys.length * a.length ≤ 16777216 ∧ Q (.str (Txt.join a ys)) H
theorem de_join (h : PE X e (tM1 (rJoin X.K) (tC (.str z)) (tD G true O E F2))) (hK : X.K = G.K := by rfl) : PE X e (tD G m O E (unF (joinD (.str z)) F2)) := by
  refine h.mono fun σ H Q ⟨φ, B, ρ, S, R, hp⟩ => ⟨⟨_, rfl⟩, φ, B, ρ, S, R, ?_⟩
  rw [hK]
  refine Pg.bind hp fun d S1 w B1 H1 g R1 hw h1 => ?_
  obtain ⟨r, hr, q⟩ := h1.opt
  have hw := dv_H R1 hw
  unfold joinD at hr
  dsimp only at hr
  split at hr
  · rename_i ds hs
    split at hr
    · rename_i ys hy
      split at hr
      · rename_i hl
        cases hr
        obtain ⟨a, xs, rfl, hq, hx⟩ := sq_of hs hw
        refine ⟨_, a, ys, rfl, rfl, ?_, Nat.le_trans hl (by decide), q _ _ _ Go.refl R1 (.str _)⟩
        rw [← strs_of hy hx]; exact hq
      · cases hr
    · cases hr
  · cases hr
/-! xs.insert(i, e), xs of this def's own -/
def insS (i : Nat) (Fs : Exs) : Sx := fun ρ S => match ρ[i]? with
  | some (some (.lst ds)) => (Fs ρ S).bind fun as S1 => match as with
    | [.int k, d] => if ds.length < 100000 ∧ 0 ≤ k ∧ k ≤ 1000000 then .ok (.nx, ρ.set i (some (.lst (ds.take k.toNat ++ [d] ++ ds.drop k.toNat)))) S1 else .bad
    | _ => .bad
  | _ => .bad
theorem own_lst {φ : Fr} {B : Hp} {oo : HO} {ds0 : List D} (k7 : DO G φ.p B oo (.lst ds0)) : ∃ us, oo = .lst us ∧ DVs G φ.p B us ds0 := by
  unfold DO at k7
  split at k7
  · rename_i us ds1 he; cases he; exact ⟨us, rfl, k7⟩
  · rename_i he; cases he
  · rename_i he; cases he
  · exact k7.elim
theorem own_dct {φ : Fr} {B : Hp} {oo : HO} {ds0 : List (Key × D)} (k7 : DO G φ.p B oo (.dct ds0)) : ∃ us, oo = .dK us ∧ us.map Prod.fst = ds0.map Prod.fst ∧ DVs G φ.p B (us.map Prod.snd) (ds0.map Prod.snd) := by
  unfold DO at k7
  split at k7
  · rename_i us ds1 he; cases he
  · rename_i us ds1 he; cases he; exact ⟨us, rfl, k7⟩
  · rename_i he; cases he
  · exact k7.elim
abbrev rIns : V → List V → Hp → VK → Prop := fun x vs H Q => ∃ (l : Addr) (xs : List V) (i : Int) (y : V), x = .ref l ∧ vs = [.int i, y] ∧ H l = some (.lst xs) ∧ xs.length < sizeLine ∧ 0 ≤ i ∧ i < 2 ^ 63 ∧ Q .non (upd H l (.lst (xs.take i.toNat ++ [y] ++ xs.drop i.toNat)))
theorem ds_ins {i : Nat} (hi : i ∈ O) (h : PS X st (tDrop (tBM X.K "list" rIns (tVar i) (tDs G false O E Fs)))) : PS X st (tS G O O Ol E (insS i Fs)) := by
  refine h.mono fun D σ H ⟨φ, B, ρ, S, R, hp⟩ => ?_
  obtain ⟨a, o, d0, k1, k2, k3, k4, k5, k6, k7⟩ := R.own i hi
  unfold insS at hp
  rw [k1] at hp
  cases d0 with
  | lst ds0 =>
    obtain ⟨us, rfl, hu⟩ := own_lst k7
    refine ⟨.ref a, k2, .inl ⟨rfl, us, SqL.of k3⟩, φ, B, ρ, S, R, ?_⟩
    refine PostS.bind hp fun ds S1 w B1 H1 g R1 hw h1 => ?_
    split at h1
    · split at h1
      · rename_i hlen
        cases hw with | cons q1 q2 =>
        cases q2 with | cons q2 q3 =>
        cases q3; cases q1
        have q2 : DV G φ.p B1 _ _ := q2
        refine ⟨a, us, _, _, rfl, rfl, g.at (R.ownv hi) k6 k3, sz100k_lt (by rw [hu.len]; exact hlen.1), hlen.2.1, by omega, ?_⟩
        have hu1 := hu.same g.b
        exact h1 σ B1 _ (Same.refl _) (R1.pokeO hi k2 (((hu1.take _).append (.cons q2 .nil)).append (hu1.drop _)))
      · exact h1.elim
    · exact h1.elim
  | _ => exact hp.elim
/-! dicts -/
theorem de_dnewN {pos : Pos} : PE X (.Dict [] [] pos) (tN G m O E (cF (.dct []))) := by
  refine pe_dnewK.mono fun σ H Q ⟨φ, B, ρ, S, R, hp⟩ => fun a na => ?_
  obtain ⟨R', g', n'⟩ := R.newO (m := m) (o := .dK []) (d := .dct []) na ⟨rfl, .nil⟩
  exact hp a _ B _ g' R' n' na
def putS (i : Nat) (Fk Fv : Ex) : Sx := fun ρ S => match ρ[i]? with
  | some (some (.dct es)) => (Fv ρ S).bind fun v S1 => (Fk ρ S1).bind fun k S2 => match keyD k with
    | some k => if es.length < 100000 then .ok (.nx, ρ.set i (some (.dct (putE es k v)))) S2 else .bad
    | none => .bad
  | _ => .bad
theorem ds_put {i : Nat} (hi : i ∈ O) (h : PS X st (sDPut (tVar i) (tD G true O E F1) (tD G false O E F2))) : PS X st (tS G O O Ol E (putS i F1 F2)) := by
  refine h.mono fun D σ H ⟨φ, B, ρ, S, R, hp⟩ => ?_
  obtain ⟨a, o, d0, k1, k2, k3, k4, k5, k6, k7⟩ := R.own i hi
  unfold putS at hp
  rw [k1] at hp
  cases d0 with
  | dct es =>
    obtain ⟨us, rfl, hu1, hu2⟩ := own_dct k7
    refine ⟨φ, B, ρ, S, R, ?_⟩
    refine PostS.bind hp fun v S1 w B1 H1 g R1 hw h1 => ?_
    refine ⟨.ref a, k2, φ, B1, ρ, S1, R1, ?_⟩
    refine PostS.bind h1 fun k S2 wk B2 H2 g2 R2 hwk h2 => ?_
    split at h2
    · rename_i kk hk
      split at h2
      · rename_i hlen
        have ek := key_dv hwk hk
        subst ek
        have hH := (g.trans g2).at (R.ownv hi) k6 k3
        have hlu : us.length = es.length := by simpa using congrArg List.length hu1
        refine ⟨a, _, rfl, DPut.k hH (sz100k_lt (by rw [hlu]; exact hlen)), ?_⟩
        have hw2 : DV G φ.p B2 w v := DV.same g2.b hw
        exact h2 σ B2 _ (Same.refl _) (R2.pokeO hi k2 (dk_put hu1 (hu2.same (g.trans g2).b) hw2))
      · exact h2.elim
    · exact h2.elim
  | _ => exact hp.elim
def get2F (F1 F2 F3 : Ex) : Ex := fun ρ S => (F1 ρ S).bind fun c S1 => match c with
  | .dct es => (F2 ρ S1).bind fun k S2 => (F3 ρ S2).bind fun x S3 => match keyD k with
    | some k => .ok ((valE es k).getD x) S3
    | none => .bad
  | _ => .bad
theorem de_get2 (h : PE X e (tDGet2 (tD G m O E F1) (tD G true O E F2) (tD G m O E F3))) : PE X e (tD G m O E (get2F F1 F2 F3)) := by
  refine h.mono fun σ H Q ⟨φ, B, ρ, S, R, hp⟩ => ⟨φ, B, ρ, S, R, ?_⟩
  refine Pg.bind hp fun c S1 w B1 H1 g R1 hw h1 => ?_
  cases hw with
  | dct ha he hs =>
    refine ⟨_, rfl, .inl ⟨_, .inl (R1.bsH m _ _ ha)⟩, φ, B1, ρ, S1, R1, ?_⟩
    refine Pg.bind h1 fun k S2 wk B2 H2 g2 R2 hwk h2 => ⟨φ, B2, ρ, S2, R2, ?_⟩
    refine Pg.bind h2 fun x S3 wx B3 H3 g3 R3 hwx h3 => ?_
    split at h3
    · rename_i kk hk
      have ek := key_dv hwk hk
      subst ek
      have hb := (g2.trans g3).bs m
      refine ⟨_, DGet.k (R3.bsH m _ _ (hb _ _ ha)), ?_⟩
      rcases dk_val (k := kk) he (hs.same hb) with ⟨e1, e2⟩ | ⟨v, d, e1, e2, dv⟩
      · rw [e1]; rw [e2] at h3; exact Pg.ok h3 R3 hwx
      · rw [e1]; rw [e2] at h3; exact Pg.ok h3 R3 dv
    · exact h3.elim
  | _ => exact h1.elim
def dgetF (F1 F2 : Ex) : Ex := fun ρ S => (F1 ρ S).bind fun c S1 => match c with
  | .dct es => (F2 ρ S1).bind fun k S2 => match keyD k with
    | some k => optF (valE es k) S2
    | none => .bad
  | _ => .bad
theorem de_dget (h : PE X e (tDGet (tD G m O E F1) (tD G true O E F2))) : PE X e (tD G m O E (dgetF F1 F2)) := by
  refine h.mono fun σ H Q ⟨φ, B, ρ, S, R, hp⟩ => ⟨φ, B, ρ, S, R, ?_⟩
  refine Pg.bind hp fun c S1 w B1 H1 g R1 hw h1 => ?_
  cases hw with
  | dct ha he hs =>
    refine ⟨φ, B1, ρ, S1, R1, ?_⟩
    refine Pg.bind h1 fun k S2 wk B2 H2 g2 R2 hwk h2 => ?_
    split at h2
    · rename_i kk hk
      have ek := key_dv hwk hk
      subst ek
      have hb := g2.bs m
      obtain ⟨d, hd, q⟩ := h2.opt
      rcases dk_val (k := kk) he (hs.same hb) with ⟨e1, e2⟩ | ⟨v, d', e1, e2, dv⟩
      · rw [e2] at hd; cases hd
      · rw [e2] at hd; cases hd
        exact ⟨_, v, rfl, e1 ▸ DGet.k (R2.bsH m _ _ (hb _ _ ha)), q _ _ _ Go.refl R2 dv⟩
    · exact h2.elim
  | _ => exact h1.elim
end
end
end NL
/-! ### {e for x in xs}: a comprehension that makes a set of any kind of things, told by two words: the new set, and what adding asks -/
namespace NL
noncomputable section
open PySem PySem.Spec PyProof.Rows L2
/-- a set that nothing is in -/
abbrev emptySetObj (w : World) : Obj := { cls := .type "set", dict := none, data := .set #[] 0 (.fresh 0 0 (!w.params.followText "set-order")) }
abbrev AddW := Addr → V → Hp → (Hp → Prop) → Prop
def tScG (fresh : Addr → HO) (add : AddW) (wi : TI) (g : TG) (tt : TT) (te : TE) (vs : List Nat) : TE := fun σ H Q =>
  wi σ H fun J H1 => ∀ A, H1 A = none → ∃ W : Nat → Nat → Hp → Prop,
    (∃ m, W 0 m (upd H1 A (fresh A))) ∧
    ∀ i m H, W i m H → (J.stop i H ∧ Q (.ref A) H) ∨
      (J.go i H ∧ ∃ Nx : Hp → Prop, (∀ H', Nx H' → ∃ m', m' < m ∧ W (i + 1) m' H') ∧
        ∀ x H', J.yld i H x H' → g x (wipe σ vs) H' fun σ2 H2 =>
          wipe σ2 vs = wipe σ vs ∧ tt σ2 H2 fun b H3 => if b = true then te σ2 H3 fun y H4 => add A y H4 Nx else Nx H3)
/-- the two words are true of the machine -/
structure SetWords (P : Program) (w : World) (K : PySem.W.Frag) (fresh : Addr → HO) (add : AddW) : Prop where
  new : ∀ (H : Hp) (h : Heap), ObjOk P w H (h.push (emptySetObj w)) h.objs.size (fresh h.objs.size)
  put : ∀ (X : Cx), X.prog = P → X.w = w → X.K = K → X.A.units + 65 < cLine → ∀ (pins : List (Addr × Obj)) (σ : L2.St) (H : Hp) (s : Shared) (A : Addr) (y : V) (z : Value) (N : Hp → Prop) (Q : Value → Shared → Prop) (E : Value → Shared → Prop),
    Inv X pins σ H s → RelV y z → add A y H N → (∀ H' s', Inv X pins σ H' s' → N H' → Q .none s') → wpAny (model X.prog X.w) X.A (call (.builtin "set.add") [.ref A, z]) Q E s
section
variable {X : Cx} {fresh : Addr → HO} {add : AddW} {elt tg iter : Expr} {ifs : List Expr} {scope : Scope} {own : List (Str × Nat)} {pos : Pos} {wi : TI} {g : TG} {tt : TT} {te : TE}
abbrev inBlk (X : Cx) (scope : Scope) (P : Cx → Prop) : Prop := ∀ (s : Shared) (H : Hp) (C : Addr) (cl : List (Str × Addr)) (fp : List Addr), P (X.blk s H scope (compEnvC scope cl C X.env) fp)
theorem pe_scG (hu : X.A.units + 65 < cLine) (sw : SetWords X.prog X.w X.K fresh add) (calm : X.calm = true) (nd : X.N.Nodup) (pi : PI X tg iter wi) (blk : BlkOk X.N X.env.scope scope own)
    (pg : inBlk X scope fun Y => PG Y tg g) (pt : inBlk X scope fun Y => PTs Y ifs tt) (pe : inBlk X scope fun Y => PE Y elt te)
    (fold : ∀ x, foldedSetIterable iter X.env x = pure x := by intro _; rfl) : PE X (.SetComp elt [⟨tg, iter, ifs, 0⟩] scope pos) (tScG fresh add wi g tt te (own.map (·.2))) := by
  refine ⟨fun pins s σ H Q I want => ?_⟩
  rw [PpSet.eval_SetComp]
  have cells : ∀ y ∈ scope.names, y.2 = .free → ∃ c, X.env.cells.lookup y.1 = some c := fun y hy e => by
    rcases blk.free y hy e with k | k
    · exact I.ok.has _ (.inl k)
    · exact I.ok.has _ (.inr k)
  refine wpAny_comprehension_free rfl fold (closure_ok cells) blk.kind (fun y hy e => by rw [blk.uniq y hy, e]) ?_
  refine thn (pi.run pins s σ H _ I want) fun _ s1 got => thn got fun _ s2 walk => ?_
  obtain ⟨it, fp, tn, J, H2, rfl, I2, T, at2, fp2, rest⟩ := walk
  refine PpSet.newSet_ok (newEnv_comp ?_)
  generalize eA : s2.heap.objs.size = A
  have freeA : H2 A = none := I2.hok.fresh (Nat.le_of_eq eA)
  obtain ⟨W, ⟨m0, start⟩, turn⟩ := rest A freeA
  generalize es3 : ({ s2 with heap := s2.heap.push (emptySetObj X.w) } : Shared) = s3
  have heap3 : s3.heap = s2.heap.push (emptySetObj X.w) := by rw [← es3]
  have I3 : Inv X pins σ (upd H2 A (fresh A)) s3 := by
    rw [← es3]
    refine I2.laid (t' := s2.toks) (fun b o e => Heap.get?_push_of_some _ e) (Nat.le_of_eq eA) ?_
    rw [← eA]; exact sw.new _ _
  have fp3 : ∀ b ∈ fp, FpOk X pins (upd H2 A (fresh A)) b ∧ b < s3.heap.objs.size := fun b hb => by
    obtain ⟨o, ho, _⟩ := T.obj _ _ at2 b hb
    have lt := Heap.lt_size ho
    refine ⟨⟨?_, (fp2 b hb).2⟩, by rw [heap3, Heap.size_push]; exact Nat.lt_succ_of_lt lt⟩
    rw [upd_ne (by rw [← eA]; exact Nat.ne_of_lt lt)]
    exact (fp2 b hb).1
  have at3 : tn 0 s3.heap := T.keep _ _ _ at2 fun b _ o e => by rw [heap3]; exact Heap.get?_push_of_some _ e
  have I4 := block_start I3 blk nd fp3
  have none3 : ∀ b ∈ fp, (upd H2 A (fresh A)) b = none := fun b hb => (fp3 b hb).1.1
  generalize eH3 : upd H2 A (fresh A) = H3 at I3 I4 start none3 fp3
  have qg := pg s3 H3 s3.heap.objs.size (cellsFrom (s3.heap.objs.size + 1) scope.names (cloFrom X.env.cells scope.names [])) fp
  have qt := pt s3 H3 s3.heap.objs.size (cellsFrom (s3.heap.objs.size + 1) scope.names (cloFrom X.env.cells scope.names [])) fp
  have qe := pe s3 H3 s3.heap.objs.size (cellsFrom (s3.heap.objs.size + 1) scope.names (cloFrom X.env.cells scope.names [])) fp
  show codeAny _ _ (.compStart _ 0 _ _ (compEnvC scope (cellsFrom (s3.heap.objs.size + 1) scope.names (cloFrom X.env.cells scope.names [])) s3.heap.objs.size X.env)) (compPost _ _ X.xe none (EP X pins σ Q) _ s3.heap.objs.size) _
  generalize eC : compEnvC scope (cellsFrom (s3.heap.objs.size + 1) scope.names (cloFrom X.env.cells scope.names [])) s3.heap.objs.size X.env = ce at I4 qg qt qe ⊢
  have locals : ce.locals = s3.heap.objs.size := by subst eC; rfl
  generalize es4 : ({ s3 with heap := pushCells (s3.heap.push { cls := .type "dict", data := .dict #[] }) scope.names } : Shared) = s4 at I4 ⊢
  have at4 : tn 0 s4.heap := T.keep _ _ _ at3 fun b _ o e => by rw [← es4]; exact pushCells_keeps _ _ _ _ (Heap.get?_push_of_some _ e)
  have stay : ∀ {σ' : L2.St} {H' : Hp} {s' : Shared}, Inv (X.blk s3 H3 scope ce fp) [] σ' H' s' → (∀ b ∈ fp, H' b = none) → ∀ b ∈ fp, FpOk (X.blk s3 H3 scope ce fp) [] H' b := fun {σ' H' s'} J' hn b hb =>
    ⟨hn b hb, (J'.ok.exf b hb).1, J'.ok.exfs b hb, .inl hb, fun x c e => (J'.ok.exf b hb).2 x c e, fun p hp => absurd (show p ∈ ([] : List (Addr × Obj)) ++ [] from hp) (by simp)⟩
  have loop : codeAny (model X.prog X.w) X.A (.compLoop (.SetComp elt [⟨tg, iter, ifs, 0⟩] scope pos) 0 (.ref it) (.ref A) ce) (compPost (model X.prog X.w) X.A X.xe none (EP X pins σ Q) (.ref A) s3.heap.objs.size) s4 := by
    refine PpSet.compLoopS_any (fun n s' => ∃ i H', Inv (X.blk s3 H3 scope ce fp) [] (wipe σ (own.map (·.2))) H' s' ∧ tn i s'.heap ∧ (∀ b ∈ fp, H' b = none) ∧ W i n H') ?_ m0 ⟨0, H3, I4, at4, none3, start⟩
    rintro n s5 ⟨i, H5, I5, at5, none5, w5⟩
    rcases turn i n H5 w5 with ⟨stop, fin⟩ | ⟨go, Nx, less, step⟩
    · refine thnF (T.done (X.blk s3 H3 scope ce fp) rfl rfl rfl calm i [] s5 _ H5 (fun _ _ => False) I5 (stay I5 none5) at5 stop) fun r s6 ⟨er, I6⟩ => ?_
      subst er
      have back : Inv X pins σ H5 s6 := I3.call' (ch := fp) I6.os I6.base I6.hok I6.bare fun b hb => by
        obtain ⟨⟨_, a1, _, a3, a4, a5⟩, _⟩ := fp3 b hb
        exact ⟨a3, a1, a4, a5⟩
      have freeC : H5 s3.heap.objs.size = none := by
        have z : H5 ce.locals = none := I6.free
        rw [locals] at z; exact z
      obtain ⟨mm, ns, _⟩ := I6.loc
      have ns : s6.heap.Ns ce.locals mm := ns
      rw [locals] at ns
      obtain ⟨f0, f1, f2, f3, f4, f5⟩ := I3.fpOk (Nat.le_refl _) freeC
      exact ⟨mm, ns, fun h'' sb => ⟨.ref A, H5, back.turned (t' := s6.toks) (fun b o hb e => (sb.2 b hb).trans e) f0 f1 f3 f4 f5, rfl, fin⟩⟩
    · refine thnF (T.item (X.blk s3 H3 scope ce fp) rfl rfl rfl calm i [] s5 _ H5 (fun _ _ => False) I5 (stay I5 none5) at5 go) fun r s6 ⟨u, er, got6⟩ => ?_
      subst er
      refine thnF got6 fun _ s7 ⟨x, H7, I7, rx, yx, at7, none7⟩ => ?_
      have held := I7.pinned (stay I7 none7) (T.obj _ _ at7)
      refine thnF (qg.run _ s7 _ H7 x u _ held rx (step x H7 yx)) fun _ s8 ⟨σ8, H8, I8, wiped, next8⟩ => ?_
      refine thnF (qt.run _ s8 σ8 H8 _ I8 next8) fun b s9 ⟨H9, I9, next9⟩ => ?_
      have close : ∀ {s' : Shared} {H' : Hp}, Inv (X.blk s3 H3 scope ce fp) ([] ++ pinsAt fp s7.heap) σ8 H' s' → Nx H' → ∃ k, k < n ∧ ∃ i H', Inv (X.blk s3 H3 scope ce fp) [] (wipe σ (own.map (·.2))) H' s' ∧ tn i s'.heap ∧ (∀ b ∈ fp, H' b = none) ∧ W i k H' := fun {s' H'} I' nx => by
        obtain ⟨k, lt, w'⟩ := less H' nx
        have kept : ∀ b ∈ fp, ∀ o, s7.heap.get? b = some o → s'.heap.get? b = some o ∧ H' b = none := fun b hb o e => by
          have z := I'.pin (b, o) (List.mem_append_right _ (List.mem_append_right _ (mem_pinsAt hb e)))
          exact ⟨z.1, z.2.1⟩
        have len8 : (wipe σ (own.map (·.2))).length = σ8.length := by rw [← wiped, wipe_length]
        refine ⟨k, lt, i + 1, H', (I'.unpinned (pins := [])).weak len8 (fun j v e => ?_), T.keep _ _ _ at7 fun b hb o e => (kept b hb o e).1, fun b hb => ?_, w'⟩
        · rw [← wiped] at e; exact (wipe_some e).1
        · obtain ⟨o, e, _⟩ := T.obj _ _ at7 b hb
          exact (kept b hb o e).2
      cases b with
      | false => exact close I9 next9
      | true =>
        refine thnF (qe.run _ s9 σ8 H9 _ I9 next9) fun z s10 ⟨y, H10, I10, ry, nx⟩ => ?_
        exact sw.put (X.blk s3 H3 scope ce fp) rfl rfl rfl hu _ σ8 H10 s10 A y z Nx _ _ I10 ry nx fun H' s' I' n' => close I' n'
  exact PpSet.codeAny_compStart_set loop (T.self X.A 0 _ _ _ at4 loop)
theorem sc_it {J : It} {n : Nat} {Gd : Hp → Prop} {Y : Nat → Hp → V → Hp → Prop} (wk : Walk J n Gd Y) {vs : List Nat} {σ : L2.St} {H1 : Hp} {A : Addr} {Qd : Hp → Prop} (Pv : Nat → Hp → Prop) (h0 : Pv 0 (upd H1 A (fresh A))) (hG : ∀ i H, i ≤ n → Pv i H → Gd H)
    (hs : ∀ i x H H', i < n → Pv i H → Y i H x H' → g x (wipe σ vs) H' fun σ2 H2 => wipe σ2 vs = wipe σ vs ∧ tt σ2 H2 fun b H3 => if b = true then te σ2 H3 fun y H4 => add A y H4 (Pv (i + 1)) else Pv (i + 1) H3)
    (hd : ∀ H, Pv n H → Qd H) : ∃ W : Nat → Nat → Hp → Prop, (∃ m, W 0 m (upd H1 A (fresh A))) ∧ ∀ i m H, W i m H → (J.stop i H ∧ Qd H) ∨
      (J.go i H ∧ ∃ Nx : Hp → Prop, (∀ H', Nx H' → ∃ m', m' < m ∧ W (i + 1) m' H') ∧ ∀ x H', J.yld i H x H' → g x (wipe σ vs) H' fun σ2 H2 => wipe σ2 vs = wipe σ vs ∧ tt σ2 H2 fun b H3 => if b = true then te σ2 H3 fun y H4 => add A y H4 Nx else Nx H3) := by
  refine ⟨fun i m H => m + i = n ∧ Pv i H, ⟨n, by omega, h0⟩, ?_⟩
  rintro i m H ⟨hm, p⟩
  have q := hG i H (by omega) p
  rcases Nat.lt_or_ge i n with lt | ge
  · exact .inr ⟨wk.goes i H lt q, Pv (i + 1), fun H' p' => ⟨m - 1, by omega, by omega, p'⟩, fun x H' y => hs i x H H' lt p (wk.yields i H x H' lt q y)⟩
  · have e : i = n := by omega
    subst e
    exact .inl ⟨wk.stops H q, hd H p⟩
/-! ints -/
def addI (w : World) : AddW := fun A y H N => ∃ (k : Int) (S : Int → Bool) (n : Nat), y = .int k ∧ H A = some (SetO w A S n) ∧ n + 1 < scanBound ∧ N (upd H A (SetO w A (fun j => S j || decide (j = k)) (if S k = true then n else n + 1)))
theorem setWordsI (P : Program) (w : World) (K : PySem.W.Frag) : SetWords P w K (fun A => SetO w A (fun _ => false) 0) (addI w) := by
  refine ⟨fun H h => setO_new (setR_fresh w), fun X eP ew _ _ pins σ H s A y z N Q E I ry hadd fin => ?_⟩
  subst eP; subst ew
  obtain ⟨k, S, n, rfl, hA, room, hN⟩ := hadd
  obtain ⟨tk, rfl⟩ := ry
  refine setR_add (setO_get I hA) room fun h' sb new => ?_
  have there : ∃ u, h'.get? A = some u := by
    have ⟨o, _, _, _, ho, _⟩ := new
    exact ⟨o, ho⟩
  exact fin _ _ (I.write (e := A) (t' := s.toks + 1) (by rw [hA]; trivial) (.inl rfl) (fun b u hb hu => (sb.2 b hb).trans hu) there (setO_new new)) hN
end
end
end NL
/-! ### the data layer: sets of ints, dict comprehensions -/
namespace NL
noncomputable section
open PySem L2
def insI' (acc : List Int) (k : Int) : List Int := if k ∈ acc then acc else acc ++ [k]
/-- the different ones, in the order in which they come -/
def ddI (ns : List Int) : List Int := ns.foldl insI' []
theorem insI'_mem {acc : List Int} {k j : Int} : j ∈ insI' acc k ↔ j ∈ acc ∨ j = k := by
  unfold insI'; split
  · rename_i h
    constructor
    · exact .inl
    · rintro (q | q)
      · exact q
      · rw [q]; exact h
  · rw [List.mem_append, List.mem_singleton]
theorem insI'_nodup {acc : List Int} {k : Int} (h : acc.Nodup) : (insI' acc k).Nodup := by
  unfold insI'; split
  · exact h
  · rename_i hk
    rw [List.nodup_append]
    refine ⟨h, by simp, fun a ha b hb => ?_⟩
    rw [List.mem_singleton.mp hb]
    exact fun e => hk (e ▸ ha)
theorem insI'_len {acc : List Int} {k : Int} : (insI' acc k).length = if k ∈ acc then acc.length else acc.length + 1 := by
  unfold insI'; split <;> simp
theorem dd_fold : ∀ (ns acc : List Int), (∀ j, j ∈ ns.foldl insI' acc ↔ j ∈ acc ∨ j ∈ ns) ∧ (acc.Nodup → (ns.foldl insI' acc).Nodup)
  | [], acc => ⟨fun j => by simp, fun h => h⟩
  | k :: ns, acc => by
    obtain ⟨h1, h2⟩ := dd_fold ns (insI' acc k)
    refine ⟨fun j => ?_, fun h => h2 (insI'_nodup h)⟩
    rw [List.foldl_cons, h1, insI'_mem, List.mem_cons, or_assoc]
theorem ddI_mem {ns : List Int} {j : Int} : j ∈ ddI ns ↔ j ∈ ns := by
  unfold ddI; rw [(dd_fold ns []).1]; simp
theorem ddI_nodup (ns : List Int) : (ddI ns).Nodup := (dd_fold ns []).2 List.nodup_nil
def scGo (g : Tgt) (c : Tst) (Fe : Ex) (ρ : Env) : List D → SrcT → Rs (List Int)
  | [], S => .ok [] S
  | d :: ds, S => match g d ρ with
    | none => .bad
    | some ρ' => (c ρ' S).bind fun b S1 => if b = true then (Fe ρ' S1).bind fun y S2 => match y with
        | .int k => (scGo g c Fe ρ ds S2).bind fun ys S3 => .ok (k :: ys) S3
        | _ => .bad
      else scGo g c Fe ρ ds S1
def setCF (is : List Nat) (FI : Exs) (g : Tgt) (c : Tst) (Fe : Ex) : Ex := fun ρ S => (FI ρ S).bind fun ds S1 => if ds.length ≤ 4000 then (scGo g c Fe (wipeE ρ is) ds S1).bind fun ys S2 => .ok (.set (ddI ys)) S2 else .bad
section
variable {X : Cx} {G : Gm} {m m' : Bool} {O O' Ol : List Nat} {E : XK} {e tg : Expr} {F F1 F2 : Ex} {Fs : Exs}
variable {φ : Fr} {σ : L2.St} {B H : Hp} {ρ : Env} {S : SrcT}
/-- a new object of any kind is shared -/
theorem Rep.share (R : Rep G φ O σ B H ρ S) {a : Addr} {o : HO} (ha : H a = some o) (nB : B a = none) (n0 : φ.H0 a = none) (np : φ.p ≠ some a) (hd : ∀ i, i ∈ O → σ[i]? ≠ some (some (.ref a))) (hm : G.v = true → S.m a = none) : Rep G φ O σ (upd B a o) H ρ S := by
  have sB : Same B (upd B a o) := same_new nB
  refine ⟨?_, R.fr, ?_, ?_, R.b0.trans sB, R.len, ?_, ?_, R.dis, R.al, ?_, R.vv, R.nov⟩
  · intro c x h
    by_cases e : c = a
    · subst e; rw [upd_same] at h; rw [← h]; exact ha
    · rw [upd_ne e] at h; exact R.sub c x h
  · intro c x h hm
    by_cases e : c = a
    · subst e; exact .inr n0
    · rw [upd_ne e] at h; exact R.cl c x h hm
  · intro q hq
    have e : q ≠ a := fun e => np (e ▸ hq)
    exact ⟨by rw [upd_ne e]; exact (R.src q hq).1, (R.src q hq).2⟩
  · intro i d hi h
    obtain ⟨v, k1, k2⟩ := R.val i d hi h
    exact ⟨v, k1, k2.same sB⟩
  · intro i hi
    obtain ⟨b, o', d', k1, k2, k3, k4, k5, k6, k7⟩ := R.own i hi
    have e : b ≠ a := fun e => hd i hi (e ▸ k2)
    exact ⟨b, o', d', k1, k2, k3, by rw [upd_ne e]; exact k4, k5, k6, k7.same sB⟩
  · intro hv b c hc
    obtain ⟨h1, h2, h3, h4⟩ := R.mem hv b c hc
    have e : b ≠ a := fun e => by rw [e, hm hv] at hc; cases hc
    exact ⟨h1.move sB fun o h => h, by rw [upd_ne e]; exact h2, h3, h4⟩
theorem de_setC {is js : List Nat} {FI : Exs} {g : Tgt} {c : Tst} {Fe : Ex} (hO : ∀ i, i ∈ is → i ∉ O) (hj : ∀ i, i ∈ js → i ∈ is) (h : PE X e (tScG (fun A => SetO X.w A (fun _ => false) 0) (addI X.w) (tI G O E FI) (tTg G O js g) (tBt G O E c) (tD G true O E Fe) is)) (hw : X.w = G.w := by rfl) (hv0 : G.v = false := by rfl) : PE X e (tD G m O E (setCF is FI g c Fe)) := by
  refine h.mono fun σ H Q ⟨φ, B, ρ, S, R, hp⟩ => ⟨φ, B, ρ, S, R, ?_⟩
  rw [hw]
  refine Pg.bind hp fun ds S1 J B1 H1 g1 R1 hJ h1 => fun A nA => ?_
  split at h1
  case isFalse => exact h1.elim
  rename_i hdl
  have hJ : DWalk G φ.p B1 J ds := hJ
  obtain ⟨Gd, hGd, W⟩ := hJ
  have npA : φ.p ≠ some A := fun e => by have := (R1.src A e).2.1; rw [nA] at this; cases this
  have n0A : φ.H0 A = none := R1.al A nA
  have hv1 : φ.v = false := R1.vv.1.trans hv0
  have nBA : B1 A = none := by
    cases k : B1 A with
    | none => rfl
    | some x => rw [R1.sub _ _ k] at nA; cases nA
  have Rw := R1.wipe (vs := is) hO
  have disA : ∀ {σ' : L2.St} {ρ' : Env}, Rep G φ O σ' B1 H1 ρ' S1 → ∀ i, i ∈ O → σ'[i]? ≠ some (some (.ref A)) := fun {σ' ρ'} R' i hi hk => by
    obtain ⟨b, o', d', k1, k2, k3, _⟩ := R'.own i hi
    rw [k2] at hk
    have e : b = A := by injection hk with hk; injection hk with hk; injection hk
    rw [e, nA] at k3; cases k3
  have keepA : ∀ {Bx Hx By Hy : Hp} {Sy : SrcT} {Oy : List Nat} {σy : L2.St} {ρy : Env}, Go φ Bx Hx By Hy → Rep G φ Oy σy By Hy ρy Sy → ∀ {M : Int → Bool} {n : Nat}, Hx A = some (SetO G.w A M n) → Bx A = none → Hy A = some (SetO G.w A M n) ∧ By A = none := fun {Bx Hx By Hy Sy Oy σy ρy} gx Ry {M n} hx nx => by
    have h1 := gx.at hv1 npA hx
    refine ⟨h1, ?_⟩
    cases k : By A with
    | none => rfl
    | some z =>
      have hz := Ry.sub A z k
      rw [h1] at hz
      cases hz
      rcases gx.n A _ k True.intro with q | q
      · rw [nx] at q; cases q
      · rw [hx] at q; cases q
  refine sc_it (fresh := fun A => SetO G.w A (fun _ => false) 0) (add := addI G.w) (g := tTg G O js g) (tt := tBt G O E c) (te := tD G true O E Fe) (vs := is) (σ := σ) (A := A) (Qd := fun H => Q (.ref A) H) W (fun i H' => ∃ Bi Si acc M, Rep G φ O (L2.wipe σ is) Bi H' (wipeE ρ is) Si ∧ Go φ B1 H1 Bi H' ∧ H' A = some (SetO G.w A M acc.length) ∧ (∀ k, M k = true ↔ k ∈ acc) ∧ acc.Nodup ∧ acc.length ≤ i ∧ Bi A = none ∧ Pg G φ m O E σ ρ (DV G) B1 H1 ((scGo g c Fe (wipeE ρ is) (ds.drop i) Si).bind fun ys S => .ok (.set (ys.foldl insI' acc)) S) Q) ?_ ?_ ?_ ?_
  · obtain ⟨Rn, gn, nB, _, _⟩ := Rw.newN (o := SetO G.w A (fun _ => false) 0) nA
    exact ⟨B1, S1, [], fun _ => false, Rn, gn, upd_same, fun k => by simp, List.nodup_nil, Nat.le_refl _, nB, h1⟩
  · rintro i H' hi ⟨Bi, Si, acc, M, Ri, gi, _⟩
    exact hGd H' (gi.b.trans Ri.sub)
  · rintro i x H2 H3 hi ⟨Bi, Si, acc, M, Ri, gi, hA, hM, hnd, hl, nBi, hp'⟩ y
    obtain ⟨d, B2, hd, R2, g2, dv⟩ := yield_rep Ri gi.b y
    have hdrop : ds.drop i = d :: ds.drop (i + 1) := by
      have hi' := (List.getElem?_eq_some_iff.mp hd)
      rw [List.drop_eq_getElem_cons hi'.1, hi'.2]
    rw [hdrop] at hp'
    rw [scGo] at hp'
    cases hg : g d (wipeE ρ is) with
    | none => rw [hg] at hp'; exact hp'.elim
    | some ρ' =>
      rw [hg] at hp'
      refine ⟨φ, B2, wipeE ρ is, Si, d, ρ', R2, dv, hg, fun σ' R' fr => ⟨fr.wipe hj, φ, B2, ρ', Si, R', ?_⟩⟩
      dsimp only at hp'
      rw [Rs.bind_assoc] at hp'
      obtain ⟨hA2, nA2⟩ := keepA g2 R2 hA nBi
      have g12 := gi.trans g2
      generalize c ρ' Si = r_hc at hp'
      induction r_hc with
      | bad => exact hp'.elim
      | exc cc dd SS => exact XP.go g12 hp'
      | all p0 k0 ih => exact fun x px => ih x (hp' x px)
      | ok b S3 =>
        intro bw B3 H4 g3 R3 hbw
        have hbw : bw = b := hbw
        subst hbw
        obtain ⟨hA3, nA3⟩ := keepA g3 R3 hA2 nA2
        cases bw with
        | false =>
          rw [if_neg (by decide)]
          exact ⟨B3, S3, acc, M, Rw.move (g12.trans g3) R3, g12.trans g3, hA3, hM, hnd, by omega, nA3, hp'⟩
        | true =>
          rw [if_pos rfl]
          simp only [Rs.bind, if_true] at hp'
          refine ⟨φ, B3, ρ', S3, R3, ?_⟩
          generalize Fe ρ' S3 = r_hf at hp'
          induction r_hf with
          | bad => exact hp'.elim
          | exc cc dd SS => exact XP.go (g12.trans g3) hp'
          | all p0 k0 ih => exact fun x px => ih x (hp' x px)
          | ok yd S4 =>
            intro yv B4 H5 g4 R4 hyv
            obtain ⟨hA4, nA4⟩ := keepA g4 R4 hA3 nA3
            cases hyv with
            | int k =>
              have gA := (g12.trans g3).trans g4
              have dW : ∀ i, i ∈ O → (L2.wipe σ is)[i]? ≠ some (some (.ref A)) := disA Rw
              have lim : acc.length + 1 < scanBound := Nat.lt_of_le_of_lt (show acc.length + 1 ≤ 4001 by omega) (by decide)
              refine ⟨k, M, acc.length, rfl, hA4, lim, B4, S4, insI' acc k, fun j => M j || decide (j = k), (Rw.move gA R4).poke nA4 n0A npA dW (fun hv => by rw [hv0] at hv; cases hv), ?_, ?_, fun j => ?_, insI'_nodup hnd, ?_, nA4, ?_⟩
              · refine ⟨gA.b, fun hv q z hz => ?_, gA.n, fun q hq => gA.d q (upd_no hq)⟩
                have hz2 := gA.h hv q z hz
                have e : q ≠ A := fun e => by rw [e, hideP_at npA, nA] at hz; cases hz
                unfold hideP at hz2 ⊢
                rw [upd_ne e]; exact hz2
              · rw [upd_same, insI'_len]
                by_cases hk : k ∈ acc
                · rw [if_pos ((hM k).mpr hk), if_pos hk]
                · rw [if_neg (fun q => hk ((hM k).mp q)), if_neg hk]
              · rw [insI'_mem, Bool.or_eq_true, hM, decide_eq_true_eq]
              · rw [insI'_len]; split <;> omega
              · have e5 : ((scGo g c Fe (wipeE ρ is) (ds.drop (i + 1)) S4).bind fun ys S => Rs.ok (D.set (ys.foldl insI' (insI' acc k))) S) = ((scGo g c Fe (wipeE ρ is) (ds.drop (i + 1)) S4).bind fun ys S3 => Rs.ok (k :: ys) S3).bind (fun ys S => Rs.ok (D.set (ys.foldl insI' acc)) S) := by
                  rw [Rs.bind_assoc]; rfl
                rw [e5]; exact hp'
            | _ => exact hp'.elim
  · rintro H' ⟨Bi, Si, acc, M, Ri, gi, hA, hM, hnd, hl, nBi, hp'⟩
    rw [List.drop_length] at hp'
    have hp' : Pg G φ m O E σ ρ (DV G) B1 H1 (.ok (.set acc) Si) Q := hp'
    have Re := (R1.move gi Ri).share hA nBi n0A npA (disA R1) (fun hv => by rw [hv0] at hv; cases hv)
    refine hp' (.ref A) (upd Bi A (SetO G.w A M acc.length)) H' ⟨gi.b.trans (same_new nBi), gi.h, fun q x hq hm => ?_, gi.d⟩ Re (.set ?_ hM hnd)
    · by_cases e : q = A
      · subst e; exact .inr nA
      · rw [upd_ne e] at hq; exact gi.n q x hq hm
    · unfold bs; split
      · rw [hideP_at npA]; exact hA
      · exact upd_same
end
end
end NL
/-! ### the data layer: dict comprehensions, built-ins on sets -/
namespace NL
noncomputable section
open PySem L2
theorem dc_it {J : It} {n : Nat} {Gd : Hp → Prop} {Y : Nat → Hp → V → Hp → Prop} {g : TG} {tt : TT} {tk tv : TE} (wk : Walk J n Gd Y) {vs : List Nat} {σ : L2.St} {H1 : Hp} {A : Addr} {Qd : Hp → Prop} (Pv : Nat → Hp → Prop) (h0 : Pv 0 (upd H1 A (.dK []))) (hG : ∀ i H, i ≤ n → Pv i H → Gd H)
    (hs : ∀ i x H H', i < n → Pv i H → Y i H x H' → g x (wipe σ vs) H' fun σ2 H2 => wipe σ2 vs = wipe σ vs ∧ tt σ2 H2 fun b H3 => if b = true then tk σ2 H3 fun y H4 => tv σ2 H4 fun z H5 => ∃ kvs k, y = kV k ∧ H5 A = some (.dK kvs) ∧ kvs.length < sizeLine ∧ Pv (i + 1) (upd H5 A (.dK (putK kvs k z))) else Pv (i + 1) H3)
    (hd : ∀ H, Pv n H → Qd H) : ∃ W : Nat → Nat → Hp → Prop, (∃ m, W 0 m (upd H1 A (.dK []))) ∧ ∀ i m H, W i m H → (J.stop i H ∧ Qd H) ∨
      (J.go i H ∧ ∃ Nx : Hp → Prop, (∀ H', Nx H' → ∃ m', m' < m ∧ W (i + 1) m' H') ∧ ∀ x H', J.yld i H x H' → g x (wipe σ vs) H' fun σ2 H2 => wipe σ2 vs = wipe σ vs ∧ tt σ2 H2 fun b H3 => if b = true then tk σ2 H3 fun y H4 => tv σ2 H4 fun z H5 => ∃ kvs k, y = kV k ∧ H5 A = some (.dK kvs) ∧ kvs.length < sizeLine ∧ Nx (upd H5 A (.dK (putK kvs k z))) else Nx H3) := by
  refine ⟨fun i m H => m + i = n ∧ Pv i H, ⟨n, by omega, h0⟩, ?_⟩
  rintro i m H ⟨hm, p⟩
  have q := hG i H (by omega) p
  rcases Nat.lt_or_ge i n with lt | ge
  · exact .inr ⟨wk.goes i H lt q, Pv (i + 1), fun H' p' => ⟨m - 1, by omega, by omega, p'⟩, fun x H' y => hs i x H H' lt p (wk.yields i H x H' lt q y)⟩
  · have e : i = n := by omega
    subst e
    exact .inl ⟨wk.stops H q, hd H p⟩
def dcGo (g : Tgt) (c : Tst) (Fk Fv : Ex) (ρ : Env) : List D → SrcT → Rs (List (Key × D))
  | [], S => .ok [] S
  | d :: ds, S => match g d ρ with
    | none => .bad
    | some ρ' => (c ρ' S).bind fun b S1 => if b = true then (Fk ρ' S1).bind fun y S2 => (Fv ρ' S2).bind fun z S3 => match keyD y with
        | some k => (dcGo g c Fk Fv ρ ds S3).bind fun ys S4 => .ok ((k, z) :: ys) S4
        | none => .bad
      else dcGo g c Fk Fv ρ ds S1
def putsE (acc ys : List (Key × D)) : List (Key × D) := ys.foldl (fun es kv => putE es kv.1 kv.2) acc
def dctCF (is : List Nat) (FI : Exs) (g : Tgt) (c : Tst) (Fk Fv : Ex) : Ex := fun ρ S => (FI ρ S).bind fun ds S1 => if ds.length ≤ 4000 then (dcGo g c Fk Fv (wipeE ρ is) ds S1).bind fun ys S2 => .ok (.dct (putsE [] ys)) S2 else .bad
theorem putE_len {es : List (Key × D)} {k : Key} {d : D} : (putE es k d).length ≤ es.length + 1 := by
  unfold putE; split <;> simp
section
variable {X : Cx} {G : Gm} {m m' : Bool} {O O' Ol : List Nat} {E : XK} {e tg : Expr} {F F1 F2 : Ex} {Fs : Exs}
variable {φ : Fr} {σ : L2.St} {B H : Hp} {ρ : Env} {S : SrcT}
theorem de_dctC {is js : List Nat} {FI : Exs} {g : Tgt} {c : Tst} {Fk Fv : Ex} (hO : ∀ i, i ∈ is → i ∉ O) (hj : ∀ i, i ∈ js → i ∈ is) (h : PE X e (tDc (tI G O E FI) (tTg G O js g) (tBt G O E c) (tD G true O E Fk) (tD G false O E Fv) is)) (hv0 : G.v = false := by rfl) : PE X e (tD G m O E (dctCF is FI g c Fk Fv)) := by
  refine h.mono fun σ H Q ⟨φ, B, ρ, S, R, hp⟩ => ⟨φ, B, ρ, S, R, ?_⟩
  refine Pg.bind hp fun ds S1 J B1 H1 g1 R1 hJ h1 => fun A nA => ?_
  split at h1
  case isFalse => exact h1.elim
  rename_i hdl
  have hJ : DWalk G φ.p B1 J ds := hJ
  obtain ⟨Gd, hGd, W⟩ := hJ
  have npA : φ.p ≠ some A := fun e => by have := (R1.src A e).2.1; rw [nA] at this; cases this
  have n0A : φ.H0 A = none := R1.al A nA
  have hv1 : φ.v = false := R1.vv.1.trans hv0
  have nBA : B1 A = none := by
    cases k : B1 A with
    | none => rfl
    | some x => rw [R1.sub _ _ k] at nA; cases nA
  have Rw := R1.wipe (vs := is) hO
  have disA : ∀ {σ' : L2.St} {ρ' : Env}, Rep G φ O σ' B1 H1 ρ' S1 → ∀ i, i ∈ O → σ'[i]? ≠ some (some (.ref A)) := fun {σ' ρ'} R' i hi hk => by
    obtain ⟨b, o', d', k1, k2, k3, _⟩ := R'.own i hi
    rw [k2] at hk
    have e : b = A := by injection hk with hk; injection hk with hk; injection hk
    rw [e, nA] at k3; cases k3
  have keepA : ∀ {Bx Hx By Hy : Hp} {Sy : SrcT} {Oy : List Nat} {σy : L2.St} {ρy : Env}, Go φ Bx Hx By Hy → Rep G φ Oy σy By Hy ρy Sy → ∀ {kvs : List (Key × V)}, Hx A = some (.dK kvs) → Bx A = none → Hy A = some (.dK kvs) ∧ By A = none := fun {Bx Hx By Hy Sy Oy σy ρy} gx Ry {kvs} hx nx => by
    have h1 := gx.at hv1 npA hx
    refine ⟨h1, ?_⟩
    cases k : By A with
    | none => rfl
    | some z =>
      have hz := Ry.sub A z k
      rw [h1] at hz
      cases hz
      rcases gx.n A _ k True.intro with q | q
      · rw [nx] at q; cases q
      · rw [hx] at q; cases q
  refine dc_it (g := tTg G O js g) (tt := tBt G O E c) (tk := tD G true O E Fk) (tv := tD G false O E Fv) (vs := is) (σ := σ) (A := A) (Qd := fun H => Q (.ref A) H) W (fun i H' => ∃ Bi Si acc kvs, Rep G φ O (L2.wipe σ is) Bi H' (wipeE ρ is) Si ∧ Go φ B1 H1 Bi H' ∧ H' A = some (.dK kvs) ∧ kvs.map Prod.fst = acc.map Prod.fst ∧ DVs G φ.p Bi (kvs.map Prod.snd) (acc.map Prod.snd) ∧ acc.length ≤ i ∧ Bi A = none ∧ Pg G φ m O E σ ρ (DV G) B1 H1 ((dcGo g c Fk Fv (wipeE ρ is) (ds.drop i) Si).bind fun ys S => .ok (.dct (putsE acc ys)) S) Q) ?_ ?_ ?_ ?_
  · obtain ⟨Rn, gn, nB, _, _⟩ := Rw.newN (o := .dK []) nA
    exact ⟨B1, S1, [], [], Rn, gn, upd_same, rfl, .nil, Nat.le_refl _, nB, h1⟩
  · rintro i H' hi ⟨Bi, Si, acc, kvs, Ri, gi, _⟩
    exact hGd H' (gi.b.trans Ri.sub)
  · rintro i x H2 H3 hi ⟨Bi, Si, acc, kvs, Ri, gi, hA, hM, hnd, hl, nBi, hp'⟩ y
    obtain ⟨d, B2, hd, R2, g2, dv⟩ := yield_rep Ri gi.b y
    have hdrop : ds.drop i = d :: ds.drop (i + 1) := by
      have hi' := (List.getElem?_eq_some_iff.mp hd)
      rw [List.drop_eq_getElem_cons hi'.1, hi'.2]
    rw [hdrop] at hp'
    rw [dcGo] at hp'
    cases hg : g d (wipeE ρ is) with
    | none => rw [hg] at hp'; exact hp'.elim
    | some ρ' =>
      rw [hg] at hp'
      refine ⟨φ, B2, wipeE ρ is, Si, d, ρ', R2, dv, hg, fun σ' R' fr => ⟨fr.wipe hj, φ, B2, ρ', Si, R', ?_⟩⟩
      dsimp only at hp'
      rw [Rs.bind_assoc] at hp'
      obtain ⟨hA2, nA2⟩ := keepA g2 R2 hA nBi
      have g12 := gi.trans g2
      have hnd2 := hnd.same g2.b
      generalize c ρ' Si = r_hc at hp'
      induction r_hc with
      | bad => exact hp'.elim
      | exc cc dd SS => exact XP.go g12 hp'
      | all p0 k0 ih => exact fun x px => ih x (hp' x px)
      | ok b S3 =>
        intro bw B3 H4 g3 R3 hbw
        have hbw : bw = b := hbw
        subst hbw
        obtain ⟨hA3, nA3⟩ := keepA g3 R3 hA2 nA2
        have hnd3 := hnd2.same g3.b
        cases bw with
        | false =>
          rw [if_neg (by decide)]
          exact ⟨B3, S3, acc, kvs, Rw.move (g12.trans g3) R3, g12.trans g3, hA3, hM, hnd3, by omega, nA3, hp'⟩
        | true =>
          rw [if_pos rfl]
          simp only [Rs.bind, if_true] at hp'
          refine ⟨φ, B3, ρ', S3, R3, ?_⟩
          generalize Fk ρ' S3 = r_hf at hp'
          induction r_hf with
          | bad => exact hp'.elim
          | exc cc dd SS => exact XP.go (g12.trans g3) hp'
          | all p0 k0 ih => exact fun x px => ih x (hp' x px)
          | ok yd S4 =>
            intro yv B4 H5 g4 R4 hyv
            obtain ⟨hA4, nA4⟩ := keepA g4 R4 hA3 nA3
            have hnd4 := hnd3.same g4.b
            refine ⟨φ, B4, ρ', S4, R4, ?_⟩
            change Pg G φ m O E σ ρ (DV G) B1 H1 (((Fv ρ' S4).bind fun z S3 => _).bind _) Q at hp'
            generalize Fv ρ' S4 = r_hf2 at hp'
            induction r_hf2 with
            | bad => exact hp'.elim
            | exc cc dd SS => exact XP.go ((g12.trans g3).trans g4) hp'
            | all p0 k0 ih => exact fun x px => ih x (hp' x px)
            | ok zd S5 =>
              intro zv B5 H6 g5 R5 hzv
              have hzv : DV G φ.p B5 zv zd := hzv
              obtain ⟨hA5, nA5⟩ := keepA g5 R5 hA4 nA4
              have hnd5 := hnd4.same g5.b
              have hp' : Pg G φ m O E σ ρ (DV G) B1 H1 (Rs.bind (match keyD yd with | some k => (dcGo g c Fk Fv (wipeE ρ is) (ds.drop (i + 1)) S5).bind fun ys S4 => .ok ((k, zd) :: ys) S4 | none => .bad) fun ys S => .ok (.dct (putsE acc ys)) S) Q := hp'
              cases hk : keyD yd with
              | none => rw [hk] at hp'; exact hp'.elim
              | some kk =>
                rw [hk] at hp'
                dsimp only at hp'
                have gA := ((g12.trans g3).trans g4).trans g5
                have dW : ∀ i, i ∈ O → (L2.wipe σ is)[i]? ≠ some (some (.ref A)) := disA Rw
                have hlk : kvs.length = acc.length := by simpa using congrArg List.length hM
                obtain ⟨q1, q2⟩ := dk_put (k := kk) hM hnd5 hzv
                refine ⟨kvs, kk, key_dv hyv hk, hA5, sz100k_lt (by omega), B5, S5, putE acc kk zd, putK kvs kk zv, (Rw.move gA R5).poke nA5 n0A npA dW (fun hv => by rw [hv0] at hv; cases hv), ?_, upd_same, q1, q2, ?_, nA5, ?_⟩
                · refine ⟨gA.b, fun hv q z hz => ?_, gA.n, fun q hq => gA.d q (upd_no hq)⟩
                  have hz2 := gA.h hv q z hz
                  have e : q ≠ A := fun e => by rw [e, hideP_at npA, nA] at hz; cases hz
                  unfold hideP at hz2 ⊢
                  rw [upd_ne e]; exact hz2
                · have := putE_len (es := acc) (k := kk) (d := zd); omega
                · have e5 : ((dcGo g c Fk Fv (wipeE ρ is) (ds.drop (i + 1)) S5).bind fun ys S => Rs.ok (D.dct (putsE (putE acc kk zd) ys)) S) = ((dcGo g c Fk Fv (wipeE ρ is) (ds.drop (i + 1)) S5).bind fun ys S3 => Rs.ok ((kk, zd) :: ys) S3).bind (fun ys S => Rs.ok (D.dct (putsE acc ys)) S) := by
                    rw [Rs.bind_assoc]; rfl
                  rw [e5]; exact hp'
  · rintro H' ⟨Bi, Si, acc, kvs, Ri, gi, hA, hM, hnd, hl, nBi, hp'⟩
    rw [List.drop_length] at hp'
    have hp' : Pg G φ m O E σ ρ (DV G) B1 H1 (.ok (.dct acc) Si) Q := hp'
    have Re := (R1.move gi Ri).share hA nBi n0A npA (disA R1) (fun hv => by rw [hv0] at hv; cases hv)
    refine hp' (.ref A) (upd Bi A (.dK kvs)) H' ⟨gi.b.trans (same_new nBi), gi.h, fun q x hq hm => ?_, gi.d⟩ Re ?_
    · by_cases e : q = A
      · subst e; exact .inr nA
      · rw [upd_ne e] at hq; exact gi.n q x hq hm
    · refine .dct ?_ hM (hnd.same ((same_new nBi).trans (Re.bbs m)))
      unfold bs; split
      · rw [hideP_at npA]; exact hA
      · exact upd_same
end
end
end NL
/-! ### the data layer: sorted(set), len(set), extend, index, list(range) -/
namespace NL
noncomputable section
open PySem PySem.Spec PyProof.Rows L2
section
variable {X : Cx} {G : Gm} {m m' : Bool} {O O' Ol : List Nat} {E : XK} {e tg : Expr} {F F1 F2 : Ex} {Fs : Exs} {st : Stmt}
/-! sorted(set) -/
def sortedSetD : List D → Option D
  | [.set ns] => if ns.length < 64 then some (.lst ((sortI ns).map D.int)) else none
  | _ => none
theorem sorted_of_set {ns l : List Int} (hn : ns.Nodup) (h1 : l.Pairwise (· < ·)) (h2 : ∀ k, k ∈ l ↔ k ∈ ns) : l = sortI ns := by
  have hl : l.Nodup := h1.imp (fun {a b} h => by omega)
  have pm : l.Perm ns := (List.perm_ext_iff_of_nodup hl hn).mpr h2
  exact sort_unique (pm.trans (sortI_perm ns).symm) (h1.imp (fun {a b} h => by omega)) (sortI_sorted ns)
theorem call_sortSetG (hc : X.calm = true) (hw : X.w = G.w := by rfl) : CallR X (.builtin "sorted") (rSortedSet G.w) := by rw [← hw]; exact cr_sortedSet hc
theorem arg_sortSetN : ArgNN G m m' (rSortedSet G.w) sortedSetD := by
  intro φ O σ B H ρ S vs ds d Q R hv e q
  unfold sortedSetD at e
  split at e
  · split at e
    · rename_i ns hl
      cases hv with | cons h1 h2 =>
      cases h2; cases h1 with | set ha hM hn =>
      cases e
      refine ⟨_, _, _, rfl, R.bsH m _ _ ha, hl, fun l p h1 h2 h3 hp => ?_⟩
      have el := sorted_of_set hn h1 (fun k => (h2 k).trans (hM k))
      subst el
      obtain ⟨R', g', n'⟩ := R.newO (m := m') (o := .lst ((sortI ns).map V.int)) (d := .lst ((sortI ns).map D.int)) hp (dvs_ints _)
      exact q p _ B _ g' R' n' hp
    · cases e
  · cases e
/-! len(set) -/
def rLenSet (w : World) : List V → Hp → VK → Prop := fun xs H Q => ∃ (a : Addr) (M : Int → Bool) (n : Nat), xs = [V.ref a] ∧ H a = some (SetO w a M n) ∧ n ≤ 100000 ∧ Q (.int n) H
theorem call_lenSet : CallR X (.builtin "len") (rLenSet X.w) := by
  intro pins s σ H vs us Q I r h
  obtain ⟨a, M, n, rfl, ha, hn, q⟩ := h
  have R := setO_get I ha
  rw [Vals.ref1 r]
  have hS : s.heap.SetOf (intKind X.prog X.w) a M n := R.setOf
  obtain ⟨o, es, ep, t, ho, hex, hd, _, _, _, hf, hsz⟩ := hS
  exact call_len_set ho hex hd hf (by rw [hsz]; omega) ⟨.int n, H, I.tok _, ⟨_, by rw [hsz]⟩, q⟩
theorem call_lenSetG (hw : X.w = G.w := by rfl) : CallR X (.builtin "len") (rLenSet G.w) := by rw [← hw]; exact call_lenSet
def lenSetD : List D → Option D
  | [.set ns] => if ns.length ≤ 100000 then some (.int ns.length) else none
  | _ => none
theorem arg_lenSet : ArgN G m m' (rLenSet G.w) lenSetD := by
  intro φ O σ B H ρ S vs ds d Q R hv e q
  unfold lenSetD at e
  split at e
  · split at e
    · rename_i ns hl
      cases hv with | cons h1 h2 =>
      cases h2; cases h1 with | set ha hM hn =>
      cases e
      exact ⟨_, _, _, rfl, R.bsH m _ _ ha, hl, q _ _ _ Go.refl R (.int _)⟩
    · cases e
  · cases e
/-! len(set(xs)), xs a list of ints, equal ones told once -/
theorem firstMet_dd : ∀ (ns : List Int) (n : Nat), n ≤ ns.length → PyProof.Rows.firstMet (fun i => ns.getD i 0) n = ddI (ns.take n)
  | ns, 0, _ => rfl
  | ns, n + 1, h => by
    rw [PyProof.Rows.firstMet_succ, firstMet_dd ns n (by omega)]
    have hlt : n < ns.length := h
    have e1 : ns.take (n + 1) = ns.take n ++ [ns.getD n 0] := by
      rw [List.take_succ_eq_append_getElem hlt]; simp [List.getD, hlt]
    rw [e1]
    unfold ddI
    rw [List.foldl_append]
    show step_dedup _ _ = insI' _ _
    unfold insI' step_dedup
    simp
def tLenSetD (K : PySem.W.Frag) (ta : TE) : TE := fun σ H Q => ta σ H fun x H1 => ∃ (l : Addr) (ns : List Int), x = .ref l ∧ SqL K H1 l (ns.map V.int) ∧ ns.length ≤ 4000 ∧ Q (.int ((ddI ns).length : Nat)) H1
theorem ddI_len (ns : List Int) : (ddI ns).length ≤ ns.length := by
  have : ∀ (l acc : List Int), (l.foldl insI' acc).length ≤ acc.length + l.length := by
    intro l
    induction l with
    | nil => intro acc; simp
    | cons x l ih =>
      intro acc
      rw [List.foldl_cons]
      have h1 := ih (insI' acc x)
      rw [insI'_len] at h1
      rw [List.length_cons]
      split at h1 <;> omega
  have h := this ns []
  rw [List.length_nil, Nat.zero_add] at h
  exact h
theorem pe_lenSetD {a : Expr} {ta : TE} {p p2 q pos : Pos} (hg : Gl X "len") (hm : X.mg "len" = none) (hg2 : Gl X "set") (hm2 : X.mg "set" = none) (ha : PE X a ta) (hc : X.calm = true := by rfl)
    (na : starEach [a] X.env = (false, eval a X.env) :: starEach [] X.env := by rfl) : PE X (.Call (.Name "len" p) [.Call (.Name "set" p2) [a] [] q] [] pos) (tLenSetD X.K ta) := by
  refine ⟨fun pins s σ H Q I h => ?_⟩
  refine Call_ (ld_blt I hg hm boot_len ?_)
  refine PyProof.Rows.callWith_builtin1 (PyProof.Rows.args_cons ?_ rfl) rfl rfl
  refine Call_ (ld_blt I hg2 hm2 boot_set ?_)
  refine PyProof.Rows.callWith_type1 (PyProof.Rows.args_cons (thn (ha.run pins s σ H _ I h) fun v s1 ⟨x, H1, I1, r1, q1⟩ => PyProof.Rows.args_nil ?_) na) na rfl
  obtain ⟨l, ns, rfl, hq, hl, q1⟩ := q1
  cases r1
  obtain ⟨its, r, pl, hz⟩ := I1.list hq
  have hlen : its.toArray.size = ns.length := by rw [List.size_toArray, ← r.length, List.length_map]
  refine call_set_list (I1.ok.hd hc) pl.isList (by simpa using RZ.intsAre_vals r) (by rw [hlen]; unfold scanBound; omega) fun h' tk hS hk => ?_
  refine PyProof.Rows.args_nil ?_
  rw [hlen, firstMet_dd ns ns.length (Nat.le_refl _), List.take_length] at hS
  obtain ⟨o, es, ep, t, ho, hex, hd, _, _, _, hf, hn⟩ := hS
  have I2 : Inv X pins σ H1 { s1 with heap := h', toks := tk } := I1.kept fun b o e => hk b o (Heap.lt_size e) e
  have hdl := ddI_len ns
  exact call_len_set ho hex hd hf (by rw [hn]; omega) ⟨.int (ddI ns).length, H1, I2.tok _, ⟨_, by rw [hn]⟩, q1⟩
def lenSetLD : D → Option D
  | .lst ds => match intsD ds with
    | some ns => if ns.length ≤ 4000 then some (.int (ddI ns).length) else none
    | none => none
  | _ => none
theorem de_lenSet (h : PE X e (tLenSetD X.K (tD G m O E F))) (hK : X.K = G.K := by rfl) : PE X e (tD G m' O E (unF lenSetLD F)) := by
  refine h.mono fun σ H Q ⟨φ, B, ρ, S, R, hp⟩ => ⟨φ, B, ρ, S, R, ?_⟩
  rw [hK]
  refine Pg.bind hp fun d S1 w B1 H1 g R1 hw h1 => ?_
  obtain ⟨r, hr, q⟩ := h1.opt
  have hw := dv_H R1 hw
  unfold lenSetLD at hr
  split at hr
  · split at hr
    · rename_i ns hns
      split at hr
      · rename_i hl
        cases hr
        cases hw with | lst ha hs =>
        exact ⟨_, ns, rfl, by rw [← ints_of hns hs]; exact SqL.of ha, hl, q _ _ _ Go.refl R1 (.int _)⟩
      · cases hr
    · cases hr
  · cases hr
/-! xs.extend(e), xs of this def's own -/
def extS (i : Nat) (F : Ex) : Sx := fun ρ S => match ρ[i]? with
  | some (some (.lst ds)) => (F ρ S).bind fun d S1 => match d with
    | .lst es => if ds.length + es.length ≤ 100000 then .ok (.nx, ρ.set i (some (.lst (ds ++ es)))) S1 else .bad
    | _ => .bad
  | _ => .bad
theorem ds_ext {i : Nat} (hi : i ∈ O) (h : PS X st (tDrop (tBM X.K "list" rExtend (tVar i) (tDs G false O E (consF F nilF))))) : PS X st (tS G O O Ol E (extS i F)) := by
  refine h.mono fun D σ H ⟨φ, B, ρ, S, R, hp⟩ => ?_
  obtain ⟨a, o, d0, k1, k2, k3, k4, k5, k6, k7⟩ := R.own i hi
  unfold extS at hp
  rw [k1] at hp
  cases d0 with
  | lst ds0 =>
    obtain ⟨us, rfl, hu⟩ := own_lst k7
    refine ⟨.ref a, k2, .inl ⟨rfl, us, SqL.of k3⟩, φ, B, ρ, S, R, ?_⟩
    have hp : PostS G φ O Ol E D B (((consF F nilF) ρ S).bind fun ds S1 => match ds with
      | [d] => (match d with
        | .lst es => if ds0.length + es.length ≤ 100000 then .ok (.nx, ρ.set i (some (.lst (ds0 ++ es)))) S1 else .bad
        | _ => .bad)
      | _ => .bad) := by
      unfold consF nilF
      rw [Rs.bind_assoc]
      exact hp
    refine PostS.bind hp fun ds S1 w B1 H1 g R1 hw h1 => ?_
    split at h1
    · cases hw with | cons q1 q2 =>
      cases q2
      have q1 : DV G φ.p B1 _ _ := q1
      cases q1 with
      | lst hb hs =>
        dsimp only at h1
        split at h1
        · rename_i hlen
          refine ⟨a, _, us, _, rfl, rfl, g.at (R.ownv hi) k6 k3, R1.sub _ _ hb, Nat.le_trans (by rw [hu.len, hs.len]; exact hlen) (by decide : 100000 ≤ sizeLine), ?_⟩
          exact h1 σ B1 _ (Same.refl _) (R1.pokeO hi k2 ((hu.same g.b).append hs))
        · exact h1.elim
      | _ => exact h1.elim
    · exact h1.elim
  | _ => exact hp.elim
/-! xs.index(x), plain things -/
def idxOfD (c x : D) : Option D := match c with
  | .lst ds => if (isSc x && ds.all isSc) = true then (ds.findIdx? fun z => eqV (vOf z) (vOf x)).map fun j => .int (j : Nat) else none
  | _ => none
def idxOfF (F1 F2 : Ex) : Ex := fun ρ S => (F1 ρ S).bind fun c S1 => match c with
  | .lst _ => (F2 ρ S1).bind fun x S2 => optF (idxOfD c x) S2
  | _ => .bad
theorem de_index (h : PE X e (tBM X.K "list" (rIndex X.K) (tD G true O E F1) (tDs G true O E (consF F2 nilF)))) (hK : X.K = G.K := by rfl) : PE X e (tD G m O E (idxOfF F1 F2)) := by
  refine h.mono fun σ H Q ⟨φ, B, ρ, S, R, hp⟩ => ⟨φ, B, ρ, S, R, ?_⟩
  rw [hK]
  refine Pg.bind hp fun c S1 w B1 H1 g R1 hw h1 => ?_
  cases hw with
  | lst ha hs =>
    rename_i a xs ds
    refine ⟨.inl ⟨rfl, xs, SqL.of (R1.bsH _ _ _ ha)⟩, φ, B1, ρ, S1, R1, ?_⟩
    have h1 : Pg G φ m O E σ ρ (DV G) B1 H1 (((consF F2 nilF) ρ S1).bind fun as S2 => match as with
      | [x] => optF (idxOfD (.lst ds) x) S2
      | _ => .bad) Q := by
      unfold consF nilF
      rw [Rs.bind_assoc]
      exact h1
    refine Pg.bind h1 fun as S2 wx B2 H2 g2 R2 hwx h2 => ?_
    split at h2
    · cases hwx with | cons q1 q2 =>
      cases q2
      obtain ⟨r, hr, q⟩ := h2.opt
      unfold idxOfD at hr
      dsimp only at hr
      split at hr
      · rename_i hsc
        simp only [Bool.and_eq_true] at hsc
        obtain ⟨j, hj, rfl⟩ := Option.map_eq_some_iff.mp hr
        obtain ⟨e1, f1⟩ := vOf_of hsc.1 q1
        have hs2 := hs.same (g2.bs true)
        obtain ⟨e2, f2⟩ := vOfs_of hsc.2 hs2
        rw [List.findIdx?_eq_some_iff_getElem] at hj
        obtain ⟨hlt, hjt, hjn⟩ := hj
        have hlt2 : j < xs.length := by rw [hs.len]; exact hlt
        refine ⟨_, xs, _, j, xs[j], rfl, rfl, SqL.of (R2.bsH _ _ _ ((g2.bs true) _ _ ha)), f1, f2, List.getElem?_eq_getElem hlt2, ?_, ?_, q _ _ _ Go.refl R2 (.int _)⟩
        · subst e1 e2
          simpa using hjt
        · intro k z hk hz
          subst e1 e2
          have := hjn k hk
          rw [List.getElem?_map, List.getElem?_eq_getElem (by omega)] at hz
          cases hz
          simpa using this
      · cases hr
    · exact h2.elim
  | _ => exact h1.elim
/-! list(range(n)) -/
def lstRgF (F : Ex) : Ex := fun ρ S => (F ρ S).bind fun d S1 => match d with
  | .int n => if 0 ≤ n ∧ n ≤ 100000 then .ok (.lst (rngD 0 n.toNat)) S1 else .bad
  | _ => .bad
theorem de_lstRg (h : PE X e (tLstRg (tRg1 (tD G true O E F)))) : PE X e (tN G m O E (lstRgF F)) := by
  refine h.mono fun σ H Q ⟨φ, B, ρ, S, R, hp⟩ => ⟨φ, B, ρ, S, R, ?_⟩
  refine PgN.bind hp fun d S1 w B1 H1 g R1 hw h1 => ?_
  split at h1
  · split at h1
    · rename_i n hn
      cases hw
      refine ⟨_, rfl, RgOk.of_le (by omega) (by omega) (by omega) hn.1, fun a na => ?_⟩
      have e : rgV 0 n = (List.range n.toNat).map fun i => V.int (i : Nat) := by unfold rgV; simp
      rw [e]
      have hd : DVs G φ.p (bs m φ B1 H1) ((List.range n.toNat).map fun i => V.int (i : Nat)) (rngD 0 n.toNat) := by
        unfold rngD
        have : ∀ l : List Nat, DVs G φ.p (bs m φ B1 H1) (l.map fun i => V.int (i : Nat)) (l.map fun i => D.int (0 + (i : Nat))) := by
          intro l
          induction l with
          | nil => exact .nil
          | cons x l ih => refine .cons ?_ ih; show DV G φ.p _ (V.int (x : Nat)) (D.int (0 + (x : Nat))); rw [Int.zero_add]; exact .int _
        exact this _
      obtain ⟨R', g', n'⟩ := R1.newO (m := m) (o := .lst _) (d := .lst _) na hd
      exact h1 a _ B1 _ g' R' n' na
    · exact h1.elim
  · exact h1.elim
end
end
end NL
/-! ### the data layer: return [left.pop(e) for x in xs], left a list of this def's own -/
namespace NL
noncomputable section
open PySem L2
def popGo (g : Tgt) (i : Nat) (F : Ex) : List D → Env → SrcT → Rs (List D)
  | [], _, S => .ok [] S
  | d :: ds, ρ, S => match g d ρ with
    | none => .bad
    | some ρ' => match ρ[i]? with
      | some (some (.lst xs)) => (F ρ' S).bind fun k S1 => match k with
        | .int j => if 0 ≤ j ∧ j ≤ 1000000 then match xs[j.toNat]? with
            | some y => (popGo g i F ds (ρ.set i (some (.lst (xs.eraseIdx j.toNat)))) S1).bind fun ys S2 => .ok (y :: ys) S2
            | none => .bad
          else .bad
        | _ => .bad
      | _ => .bad
def popS (is : List Nat) (FI : Exs) (g : Tgt) (i : Nat) (F : Ex) : Sx := fun ρ S => (FI ρ S).bind fun ds S1 => if ds.length ≤ 4000 then (popGo g i F ds (wipeE ρ is) S1).bind fun ys S2 => .ok (.ret (.lst ys), ρ) S2 else .bad
theorem DVs.erase {G : Gm} {p : Option Addr} {B : Hp} : ∀ {vs : List V} {ds : List D} (n : Nat), DVs G p B vs ds → DVs G p B (vs.eraseIdx n) (ds.eraseIdx n)
  | [], [], n, .nil => by cases n <;> exact .nil
  | _ :: _, _ :: _, 0, .cons h hs => hs
  | _ :: _, _ :: _, n + 1, .cons h hs => .cons h (DVs.erase n hs)
section
variable {X : Cx} {G : Gm} {m m' : Bool} {O O' Ol : List Nat} {E : XK} {e tg : Expr} {F F1 F2 : Ex} {Fs : Exs} {st : Stmt}
variable {φ : Fr} {σ : L2.St} {B H : Hp} {ρ : Env} {S : SrcT}
theorem ds_retPop {is js : List Nat} {FI : Exs} {g : Tgt} {i : Nat} {pos : Pos} {K : PySem.W.Frag} (hi : i ∈ O) (hii : i ∉ is) (hO : ∀ i, i ∈ is → i ∉ O) (hj : ∀ i, i ∈ js → i ∈ is)
    (h : PE X e (tLc (tI G O E FI) (tTg G O js g) (tBt G O E yesT) (tBM K "list" rPopAt (tVar i) (tDs G true O E (consF F nilF))) is)) : PS X (.Return (some e) pos) (tS G O O' Ol E (popS is FI g i F)) := by
  refine (ps_ret h).mono fun D σ H ⟨φ, B, ρ, S, R, hp⟩ => ⟨φ, B, ρ, S, R, ?_⟩
  refine PostS.bind hp fun ds S1 J B1 H1 g1 R1 hJ h1 => fun A nA => ?_
  split at h1
  case isFalse => exact h1.elim
  rename_i hdl
  have hJ : DWalk G φ.p B1 J ds := hJ
  obtain ⟨Gd, hGd, W⟩ := hJ
  have npA : φ.p ≠ some A := fun e => by have := (R1.src A e).2.1; rw [nA] at this; cases this
  have n0A : φ.H0 A = none := R1.al A nA
  have hv0 : G.v = false := R1.nov i hi
  have hv1 : φ.v = false := R1.vv.1.trans hv0
  have nBA : B1 A = none := by
    cases k : B1 A with
    | none => rfl
    | some x => rw [R1.sub _ _ k] at nA; cases nA
  have Rw := R1.wipe (vs := is) hO
  have disW : ∀ i, i ∈ O → (L2.wipe σ is)[i]? ≠ some (some (.ref A)) := fun i hi hk => by
    obtain ⟨b, o', d', k1, k2, k3, _⟩ := Rw.own i hi
    rw [k2] at hk
    have e : b = A := by injection hk with hk; injection hk with hk; injection hk
    rw [e, nA] at k3; cases k3
  have keepA : ∀ {Bx Hx By Hy : Hp} {Sy : SrcT} {Oy : List Nat} {σy : L2.St} {ρy : Env}, Go φ Bx Hx By Hy → Rep G φ Oy σy By Hy ρy Sy → ∀ {us : List V}, Hx A = some (.lst us) → Bx A = none → Hy A = some (.lst us) ∧ By A = none := fun {Bx Hx By Hy Sy Oy σy ρy} gx Ry {us} hx nx => by
    have h1 := gx.at hv1 npA hx
    refine ⟨h1, ?_⟩
    cases k : By A with
    | none => rfl
    | some z =>
      have hz := Ry.sub A z k
      rw [h1] at hz
      cases hz
      rcases gx.n A _ k True.intro with q | q
      · rw [nx] at q; cases q
      · rw [hx] at q; cases q
  refine lc_it W (fun n H' => ∃ Bi Si ρi acc vs, Rep G φ O (L2.wipe σ is) Bi H' ρi Si ∧ Same B1 Bi ∧ H' A = some (.lst vs) ∧ DVs G φ.p Bi vs acc ∧ acc.length ≤ n ∧ Bi A = none ∧ PostS G φ O' Ol E D Bi ((popGo g i F (ds.drop n) ρi Si).bind fun ys S => .ok (.ret (.lst (acc ++ ys)), ρ) S)) ?_ ?_ ?_ ?_
  · obtain ⟨Rn, gn, nB, _, _⟩ := Rw.newN (o := .lst []) nA
    exact ⟨B1, S1, _, [], [], Rn, Same.refl _, upd_same, .nil, Nat.le_refl _, nB, h1⟩
  · rintro n H' hn ⟨Bi, Si, ρi, acc, vs, Ri, gi, _⟩
    exact hGd H' (gi.trans Ri.sub)
  · rintro n x H2 H3 hn ⟨Bi, Si, ρi, acc, vs, Ri, gi, hA, hvs, hl, nBA, hp'⟩ y
    obtain ⟨d, B2, hd, R2, g2, dv⟩ := yield_rep Ri gi y
    have hdrop : ds.drop n = d :: ds.drop (n + 1) := by
      have hi' := (List.getElem?_eq_some_iff.mp hd)
      rw [List.drop_eq_getElem_cons hi'.1, hi'.2]
    rw [hdrop, popGo] at hp'
    cases hg : g d ρi with
    | none => rw [hg] at hp'; exact hp'.elim
    | some ρ' =>
      rw [hg] at hp'
      dsimp only at hp'
      refine ⟨φ, B2, ρi, Si, d, ρ', R2, dv, hg, fun σ' R' fr => ⟨fr.wipe hj, φ, B2, ρ', Si, R', ?_⟩⟩
      intro bw B3 H4 g3 R3 hbw
      have hbw : bw = true := hbw
      subst hbw
      rw [if_pos rfl]
      obtain ⟨hA2, nA2⟩ := keepA g2 R2 hA nBA
      obtain ⟨hA3, nA3⟩ := keepA g3 R3 hA2 nA2
      have g23 := g2.trans g3
      -- the list that is popped from
      obtain ⟨a, o, d0, k1, k2, k3, k4, k5, k6, k7⟩ := Ri.own i hi
      rw [k1] at hp'
      cases d0 with
      | lst xs =>
        dsimp only at hp'
        obtain ⟨us, rfl, hu⟩ := own_lst k7
        have k2' : σ'[i]? = some (some (.ref a)) := by
          obtain ⟨b, o', d', q1, q2, q3, _⟩ := R'.own i hi
          have e2 : (L2.wipe σ' is)[i]? = (L2.wipe σ is)[i]? := by rw [fr.wipe hj]
          rw [wipe_out hii, k2] at e2
          exact e2
        have haA : a ≠ A := fun e => disW i hi (e ▸ k2)
        refine ⟨.ref a, k2', .inl ⟨rfl, us, SqL.of (g23.at (R.ownv hi) k6 k3)⟩, φ, B3, ρ', Si, R3, ?_⟩
        rw [Rs.bind_assoc] at hp'
        have hp2 : PostS G φ O' Ol E D B3 (((consF F nilF) ρ' Si).bind fun as S2 => match as with
          | [k] => (match k with
            | .int j => if 0 ≤ j ∧ j ≤ 1000000 then match xs[j.toNat]? with
                | some y => (popGo g i F (ds.drop (n + 1)) (ρi.set i (some (.lst (xs.eraseIdx j.toNat)))) S2).bind fun ys S2 => .ok (y :: ys) S2
                | none => .bad
              else .bad
            | _ => .bad : Rs (List NL.D)).bind fun ys S => .ok (.ret (.lst (acc ++ ys)), ρ) S
          | _ => .bad) := by
          unfold consF nilF
          rw [Rs.bind_assoc]
          exact PostS.same g23.b hp'
        refine PostS.bind hp2 fun as S4 w4 B4 H5 g4 R4 hw h2 => ?_
        split at h2
        · cases hw with | cons q1 q2 =>
          cases q2
          cases q1 with
          | int j =>
            dsimp only at h2
            split at h2
            · rename_i hj2
              cases hy : xs[j.toNat]? with
              | none => rw [hy] at h2; exact h2.elim
              | some yd =>
                rw [hy] at h2
                dsimp only at h2
                obtain ⟨hA4, nA4⟩ := keepA g4 R4 hA3 nA3
                have g34 := g23.trans g4
                have hu4 := hu.same g34.b
                obtain ⟨yv, hyv, dyv⟩ := hu4.get hy
                have hlt : j.toNat < us.length := (List.getElem?_eq_some_iff.mp hyv).1
                refine ⟨a, us, j, j.toNat, yv, rfl, rfl, g34.at (R.ownv hi) k6 k3, by omega, by omega, ?_, hyv, ?_⟩
                · have hneg : ¬ j < 0 := by omega
                  have hin : (decide (0 ≤ j) && decide (j < (us.length : Int))) = true := by simp; omega
                  unfold seqIndex?
                  simp only [hneg, if_false]
                  rw [hin]; rfl
                have Rm := Ri.move g34 R4
                have Rp := Rm.pokeO (o := .lst (us.eraseIdx j.toNat)) (d := .lst (xs.eraseIdx j.toNat)) hi k2 (DVs.erase j.toNat hu4)
                refine ⟨vs, by rw [upd_ne (Ne.symm haA)]; exact hA4, sz100k_lt (by rw [hvs.len]; omega), ?_⟩
                refine ⟨B4, S4, _, acc ++ [yd], vs ++ [yv], Rp.poke nA4 n0A npA disW (fun hv => by rw [hv0] at hv; cases hv), gi.trans g34.b, upd_same, (hvs.same g34.b).append (.cons dyv .nil), by rw [List.length_append]; simp; omega, nA4, ?_⟩
                have e5 : ((popGo g i F (ds.drop (n + 1)) (ρi.set i (some (.lst (xs.eraseIdx j.toNat)))) S4).bind fun ys S => Rs.ok (Fl.ret (NL.D.lst (acc ++ [yd] ++ ys)), ρ) S) = ((popGo g i F (ds.drop (n + 1)) (ρi.set i (some (.lst (xs.eraseIdx j.toNat)))) S4).bind fun ys S3 => Rs.ok (yd :: ys) S3).bind (fun ys S => Rs.ok (Fl.ret (NL.D.lst (acc ++ ys)), ρ) S) := by
                  rw [Rs.bind_assoc]; congr 1; funext ys S; simp [Rs.bind]
                rw [e5]; exact h2
            · exact h2.elim
          | _ => exact h2.elim
        · exact h2.elim
      | _ => exact hp'.elim
  · rintro H' ⟨Bi, Si, ρi, acc, vs, Ri, gi, hA, hvs, hl, nBi, hp'⟩
    rw [List.drop_length] at hp'
    have hp' : PostS G φ O' Ol E D Bi (.ok (.ret (.lst (acc ++ [])), ρ) Si) := hp'
    rw [List.append_nil] at hp'
    have Re := Ri.share hA nBi n0A npA disW (fun hv => by rw [hv0] at hv; cases hv)
    exact hp' (.ref A) (upd Bi A (.lst vs)) H' (same_new nBi) Re.bare (.lst upd_same (hvs.same (same_new nBi)))
end
end
end NL
/-! ### the data layer: several names at once, some of them owned -/
namespace NL
noncomputable section
open PySem L2
section
variable {X : Cx} {G : Gm} {m m' : Bool} {O O1 O2 O' Ol : List Nat} {E : XK} {e tg : Expr} {es : List Expr} {F F1 F2 : Ex} {Fs : Exs}
variable {φ : Fr} {σ σ2 : L2.St} {B H B' H' H0 : Hp} {ρ ρ2 : Env} {S S' : SrcT} {st : Stmt}
theorem New.go {a : Addr} {o : HO} {d : NL.D} (n : New G φ O σ false B H S a o d) (g : Go φ B H B' H') (sub : Same B' H') (hv0 : G.v = false) (hv1 : φ.v = false) : New G φ O σ false B' H' S' a o d := by
  have at2 : H' a = some o := by
    have := g.h hv1 a o (by rw [hideP_at n.np]; exact n.at')
    rw [hideP_at n.np] at this; exact this
  have dat2 : DO G φ.p B o d := n.dat
  refine ⟨at2, ?_, n.n0, n.np, n.dis, DO.same g.b dat2, fun hv => by rw [hv0] at hv; cases hv⟩
  cases hb : B' a with
  | none => rfl
  | some o' =>
    have e : o' = o := by have := sub a o' hb; rw [at2] at this; exact (Option.some.inj this).symm
    subst e
    rcases g.n a o' hb dat2.mut with q | q
    · rw [n.nB] at q; cases q
    · rw [n.at'] at q; cases q
/-- values, some of them new -/
inductive MX (G : Gm) (φ : Fr) (O : List Nat) (σ : L2.St) (B H H0 : Hp) : List Bool → List V → List NL.D → List Addr → Prop
  | nil : MX G φ O σ B H H0 [] [] [] []
  | old {v : V} {d : NL.D} {ks : List Bool} {vs : List V} {ds : List NL.D} {as : List Addr} : DV G φ.p B v d → MX G φ O σ B H H0 ks vs ds as → MX G φ O σ B H H0 (false :: ks) (v :: vs) (d :: ds) as
  | new {a : Addr} {o : HO} {d : NL.D} {ks : List Bool} {vs : List V} {ds : List NL.D} {as : List Addr} {S : SrcT} : New G φ O σ false B H S a o d → H0 a = none → a ∉ as → MX G φ O σ B H H0 ks vs ds as → MX G φ O σ B H H0 (true :: ks) (.ref a :: vs) (d :: ds) (a :: as)
theorem MX.go {ks : List Bool} {vs : List V} {ds : List NL.D} {as : List Addr} (x : MX G φ O σ B H H0 ks vs ds as) (g : Go φ B H B' H') (sub : Same B' H') (hv0 : G.v = false) (hv1 : φ.v = false) : MX G φ O σ B' H' H0 ks vs ds as := by
  induction x with
  | nil => exact .nil
  | old hd _ ih => exact .old (hd.same g.b) ih
  | new n h0 hn _ ih => exact .new (S := ⟨0, 0, 0, fun _ => none⟩) (n.go g sub hv0 hv1) h0 hn ih
theorem MX.start {H1 : Hp} {ks : List Bool} {vs : List V} {ds : List NL.D} {as : List Addr} (x : MX G φ O σ B H H0 ks vs ds as) (g : ∀ a, H0 a = none → H1 a = none) : MX G φ O σ B H H1 ks vs ds as := by
  induction x with
  | nil => exact .nil
  | old hd _ ih => exact .old hd ih
  | new n h0 hn _ ih => exact .new n (g _ h0) hn ih
theorem MX.free {ks : List Bool} {vs : List V} {ds : List NL.D} {as : List Addr} (x : MX G φ O σ B H H0 ks vs ds as) : ∀ a ∈ as, H0 a = none := by
  induction x with
  | nil => exact fun a h => nomatch h
  | old hd _ ih => exact ih
  | new n h0 hn _ ih =>
    intro a h
    rcases List.mem_cons.mp h with h | h
    · rw [h]; exact h0
    · exact ih a h
theorem MX.len {ks : List Bool} {vs : List V} {ds : List NL.D} {as : List Addr} (x : MX G φ O σ B H H0 ks vs ds as) : vs.length = ks.length ∧ ds.length = ks.length := by
  induction x with
  | nil => exact ⟨rfl, rfl⟩
  | old hd _ ih => exact ⟨congrArg Nat.succ ih.1, congrArg Nat.succ ih.2⟩
  | new n h0 hn _ ih => exact ⟨congrArg Nat.succ ih.1, congrArg Nat.succ ih.2⟩
def PgM (G : Gm) (φ : Fr) (O : List Nat) (E : XK) (σ : L2.St) (ρ : Env) (B H : Hp) (ks : List Bool) (r : Rs (List NL.D)) (Q : List V → Hp → Prop) : Prop := match r with
  | .bad => False
  | .exc c d S => XP G φ E B H c d S
  | .ok ds S' => ∀ vs as B' H', Go φ B H B' H' → Rep G φ O σ B' H' ρ S' → MX G φ O σ B' H' H ks vs ds as → Q vs H'
  | .all p k => ∀ x, p x → PgM G φ O E σ ρ B H ks (k x) Q
def tMx (G : Gm) (O : List Nat) (E : XK) (ks : List Bool) (Fs : Exs) : TA := fun σ H Q => ∃ φ B ρ S, Rep G φ O σ B H ρ S ∧ PgM G φ O E σ ρ B H ks (Fs ρ S) Q
theorem PgM.go {B1 H1 : Hp} {ks : List Bool} {r : Rs (List NL.D)} {Q : List V → Hp → Prop} (g : Go φ B H B1 H1) (h : PgM G φ O E σ ρ B H ks r Q) : PgM G φ O E σ ρ B1 H1 ks r Q := by
  induction r with
  | bad => exact h
  | exc c d S => exact XP.go g h
  | ok ds S => exact fun vs as B' H' g2 R x => h vs as B' H' (g.trans g2) R (x.start g.d)
  | all p k ih => exact fun x px => ih x (h x px)
theorem dm_nil : PA X [] (tMx G O E [] nilF) := pa_nil.mono fun σ H Q ⟨φ, B, ρ, S, R, hp⟩ => hp [] [] B H Go.refl R .nil
theorem dm_old {ks : List Bool} (ha : PE X e (tD G false O E F)) (hr : PA X es (tMx G O E ks Fs)) (hs : starEach (e :: es) X.env = (false, eval e X.env) :: starEach es X.env := by rfl) : PA X (e :: es) (tMx G O E (false :: ks) (consF F Fs)) := by
  refine (pa_cons ha hr hs).mono fun σ H Q ⟨φ, B, ρ, S, R, hp⟩ => ⟨φ, B, ρ, S, R, ?_⟩
  unfold consF at hp
  generalize F ρ S = r1 at hp
  induction r1 with
  | bad => exact hp
  | exc c d S => exact hp
  | all p k ih => exact fun x px => ih x (hp x px)
  | ok d S1 =>
    intro w B1 H1 g R1 hw
    refine ⟨φ, B1, ρ, S1, R1, ?_⟩
    replace hp : PgM G φ O E σ ρ B H (false :: ks) ((Fs ρ S1).bind fun ds S2 => .ok (d :: ds) S2) Q := hp
    generalize Fs ρ S1 = r2 at hp
    induction r2 with
    | bad => exact hp
    | exc c d S => exact XP.go g hp
    | all p k ih => exact fun x px => ih x (hp x px)
    | ok ds S2 =>
      intro vs as B2 H2 g2 R2 x
      exact hp (w :: vs) as B2 H2 (g.trans g2) R2 (.old (DV.same g2.b hw) (x.start g.d))
theorem dm_new {ks : List Bool} (ha : PE X e (tN G false O E F)) (hr : PA X es (tMx G O E ks Fs)) (hs : starEach (e :: es) X.env = (false, eval e X.env) :: starEach es X.env := by rfl) (hv0 : G.v = false := by rfl) : PA X (e :: es) (tMx G O E (true :: ks) (consF F Fs)) := by
  refine (pa_cons ha hr hs).mono fun σ H Q ⟨φ, B, ρ, S, R, hp⟩ => ⟨φ, B, ρ, S, R, ?_⟩
  unfold consF at hp
  generalize F ρ S = r1 at hp
  induction r1 with
  | bad => exact hp
  | exc c d S => exact hp
  | all p k ih => exact fun x px => ih x (hp x px)
  | ok d S1 =>
    intro a o B1 H1 g R1 n h0
    refine ⟨φ, B1, ρ, S1, R1, ?_⟩
    replace hp : PgM G φ O E σ ρ B H (true :: ks) ((Fs ρ S1).bind fun ds S2 => .ok (d :: ds) S2) Q := hp
    generalize Fs ρ S1 = r2 at hp
    induction r2 with
    | bad => exact hp
    | exc c d S => exact XP.go g hp
    | all p k ih => exact fun x px => ih x (hp x px)
    | ok ds S2 =>
      intro vs as B2 H2 g2 R2 x
      refine hp (.ref a :: vs) (a :: as) B2 H2 (g.trans g2) R2 (.new (S := S2) (n.go g2 R2.sub hv0 (R.vv.1.trans hv0)) h0 (fun q => ?_) (x.start g.d))
      have := x.free a q
      rw [n.at'] at this; cases this
/-! the stores -/
def setsE : List Nat → List NL.D → Env → Env
  | i :: is, d :: ds, ρ => setsE is ds (ρ.set i (some d))
  | _, _, ρ => ρ
def setsV : List Nat → List V → L2.St → L2.St
  | i :: is, v :: vs, σ => setsV is vs (σ.set i (some v))
  | _, _, σ => σ
def ownL : List Nat → List Bool → List Nat → List Nat
  | i :: is, true :: ks, O => ownL is ks (i :: O)
  | _ :: is, false :: ks, O => ownL is ks O
  | _, _, O => O
theorem MX.setOld {i : Nat} {u : Option V} {ks : List Bool} {vs : List V} {ds : List NL.D} {as : List Addr} (x : MX G φ O σ B H H0 ks vs ds as) (hi : i ∉ O) : MX G φ O (σ.set i u) B H H0 ks vs ds as := by
  induction x with
  | nil => exact .nil
  | old hd _ ih => exact .old hd ih
  | new n h0 hn _ ih =>
    refine .new ⟨n.at', n.nB, n.n0, n.np, fun j hj => ?_, n.dat, n.nm⟩ h0 hn ih
    have e : i ≠ j := fun e => hi (e ▸ hj)
    rw [List.getElem?_set_ne e]; exact n.dis j hj
theorem MX.setNew {i : Nat} {a : Addr} {ks : List Bool} {vs : List V} {ds : List NL.D} {as : List Addr} (x : MX G φ O σ B H H0 ks vs ds as) (hi : i ∉ O) (hn : a ∉ as) (hil : i < σ.length) : MX G φ (i :: O) (σ.set i (some (.ref a))) B H H0 ks vs ds as := by
  induction x with
  | nil => exact .nil
  | old hd _ ih => exact .old hd (ih hn)
  | new n2 h2 hn2 _ ih =>
    refine .new ⟨n2.at', n2.nB, n2.n0, n2.np, fun j hj => ?_, n2.dat, n2.nm⟩ h2 hn2 (ih fun q => hn (List.mem_cons_of_mem _ q))
    by_cases e : i = j
    · subst e
      rw [List.getElem?_set, if_pos rfl, if_pos hil]
      intro q
      have e2 := V.ref.inj (Option.some.inj (Option.some.inj q))
      exact hn (e2 ▸ List.mem_cons_self)
    · rw [List.getElem?_set_ne e]
      rcases List.mem_cons.mp hj with q | q
      · exact absurd q.symm e
      · exact n2.dis j q
theorem Rep.sets (hv0 : G.v = false) : ∀ {is : List Nat} {ks : List Bool} {vs : List V} {ds : List NL.D} {as : List Addr} {O : List Nat} {σ : L2.St} {ρ : Env}, Rep G φ O σ B H ρ S → MX G φ O σ B H H0 ks vs ds as → is.length = ks.length → is.Nodup → (∀ i ∈ is, i ∉ O) → (∀ i ∈ is, i < ρ.length) → Rep G φ (ownL is ks O) (setsV is vs σ) B H (setsE is ds ρ) S := by
  intro is
  induction is with
  | nil => intro ks vs ds as O σ ρ R x hl _ _ _; cases x with
    | nil => exact R
    | old => cases hl
    | new => cases hl
  | cons i is ih =>
    intro ks vs ds as O σ ρ R x hl hnd hO hr
    obtain ⟨hni, hnd⟩ := List.nodup_cons.mp hnd
    have hi := hO i List.mem_cons_self
    have hil := hr i List.mem_cons_self
    have hr' : ∀ d, ∀ j ∈ is, j < (ρ.set i d).length := fun d j hj => by rw [List.length_set]; exact hr j (List.mem_cons_of_mem _ hj)
    cases x with
    | nil => cases hl
    | old hd x => exact ih (R.set hi hd) (x.setOld hi) (Nat.succ.inj hl) hnd (fun j hj => hO j (List.mem_cons_of_mem _ hj)) (hr' _)
    | new n h0 hn x =>
      refine ih (R.setO hi hil ⟨n.at', n.nB, n.n0, n.np, n.dis, n.dat, fun hv => by rw [hv0] at hv; cases hv⟩ hv0) (x.setNew hi hn (by rw [R.len]; exact hil)) (Nat.succ.inj hl) hnd (fun j hj q => ?_) (hr' _)
      rcases List.mem_cons.mp q with q | q
      · exact hni (q ▸ hj)
      · exact hO j (List.mem_cons_of_mem _ hj) q
def mulS (is : List Nat) (Fs : Exs) : Sx := fun ρ S => (Fs ρ S).bind fun ds S1 => if (is.all fun i => decide (i < ρ.length)) = true then .ok (.nx, setsE is ds ρ) S1 else .bad
theorem mul_post (hv0 : G.v = false) {is : List Nat} {ks : List Bool} {Ol' : List Nat} {D : Ends} {Q : List V → Hp → Prop} (hl : is.length = ks.length) (hnd : is.Nodup) (hO : ∀ i ∈ is, i ∉ O) (R : Rep G φ O σ B H ρ S) (hp : PostS G φ (ownL is ks O) Ol' E D B (mulS is Fs ρ S))
    (hQ : ∀ vs ds as B' H' S', Go φ B H B' H' → Rep G φ O σ B' H' ρ S' → MX G φ O σ B' H' H ks vs ds as → (∀ B2 H2, Go φ B' H' B2 H2 → Rep G φ O σ B2 H2 ρ S' → D.nx (setsV is vs σ) H2) → Q vs H') : tMx G O E ks Fs σ H Q := by
  refine ⟨φ, B, ρ, S, R, ?_⟩
  unfold mulS at hp
  generalize Fs ρ S = r1 at hp
  induction r1 with
  | bad => exact hp
  | exc c d S => exact fun B2 H2 cv od g => hp B2 H2 cv od g.b
  | all p k ih => exact fun x px => ih x (hp x px)
  | ok ds S1 =>
    replace hp : PostS G φ (ownL is ks O) Ol' E D B (if (is.all fun i => decide (i < ρ.length)) = true then .ok (.nx, setsE is ds ρ) S1 else .bad) := hp
    split at hp
    · rename_i ha
      have hr : ∀ i ∈ is, i < ρ.length := fun i hi => of_decide_eq_true (List.all_eq_true.mp ha i hi)
      intro vs as B' H' g R' x
      refine hQ vs ds as B' H' S1 g R' x fun B2 H2 g2 R2 => ?_
      exact hp _ B2 H2 (g.b.trans g2.b) (R2.sets hv0 (x.go g2 R2.sub hv0 (R.vv.1.trans hv0)) hl hnd hO hr)
    · exact hp.elim
theorem ds_mul2 {i j : Nat} {k1 k2 : Bool} (hO : O' = ownL [i, j] [k1, k2] O) (hnd : [i, j].Nodup) (hn : ∀ x ∈ [i, j], x ∉ O) (h : PS X st (tPar i j (tMx G O E [k1, k2] Fs))) (hv0 : G.v = false := by rfl) : PS X st (tS G O O' Ol E (mulS [i, j] Fs)) := by
  subst hO
  refine h.mono fun D σ H ⟨φ, B, ρ, S, R, hp⟩ => ?_
  refine mul_post hv0 rfl hnd hn R hp fun vs ds as B' H' S' g R' x hD => ?_
  match vs, x.len.1 with
  | [v, w], _ => exact ⟨v, w, rfl, hD B' H' Go.refl R'⟩
theorem ds_mul3 {i j l : Nat} {k1 k2 k3 : Bool} (hO : O' = ownL [i, j, l] [k1, k2, k3] O) (hnd : [i, j, l].Nodup) (hn : ∀ x ∈ [i, j, l], x ∉ O) (h : PS X st (tPar3 i j l (tMx G O E [k1, k2, k3] Fs))) (hv0 : G.v = false := by rfl) : PS X st (tS G O O' Ol E (mulS [i, j, l] Fs)) := by
  subst hO
  refine h.mono fun D σ H ⟨φ, B, ρ, S, R, hp⟩ => ?_
  refine mul_post hv0 rfl hnd hn R hp fun vs ds as B' H' S' g R' x hD => ?_
  match vs, x.len.1 with
  | [u, v, w], _ => exact ⟨u, v, w, rfl, hD B' H' Go.refl R'⟩
def gNames : List Nat → TGs
  | [] => gNil
  | i :: is => gCons (gName i) (gNames is)
theorem gNames_of : ∀ {is : List Nat} {vs : List V} {σ : L2.St} {H : Hp} {Q : L2.St → Hp → Prop}, vs.length = is.length → Q (setsV is vs σ) H → gNames is vs σ H Q
  | [], [], _, _, _, _, q => ⟨rfl, q⟩
  | i :: is, v :: vs, σ, H, Q, hl, q => ⟨v, vs, rfl, gNames_of (Nat.succ.inj hl) q⟩
theorem ds_mulT {is : List Nat} {ks : List Bool} {n : Nat} (hl : is.length = ks.length) (hl2 : ks.length = n) (h1000 : n ≤ 1000) (hO : O' = ownL is ks O) (hnd : is.Nodup) (hn : ∀ x ∈ is, x ∉ O) (h : PS X st (tAsg (tTup (tMx G O E ks Fs)) (gTup G.K n (gNames is)))) (hv0 : G.v = false := by rfl) : PS X st (tS G O O' Ol E (mulS is Fs)) := by
  subst hO
  refine h.mono fun D σ H ⟨φ, B, ρ, S, R, hp⟩ => ?_
  refine mul_post hv0 hl hnd hn R hp fun vs ds as B' H' S' g R' x hD => ?_
  have hv : vs.length = n := by rw [x.len.1, hl2]
  refine ⟨sz1000 (by rw [hv]; exact h1000), fun p np => ?_⟩
  obtain ⟨R2, g2, _⟩ := R'.newN (o := .tup vs) np
  exact ⟨p, vs, rfl, SqT.of upd_same, hv, gNames_of (by rw [hv, hl, hl2]) (hD _ _ g2 R2)⟩
end
end
end NL
/-! ### the data layer: a def that gives a new list and a number; the caller owns the list -/
namespace NL
noncomputable section
open PySem L2
section
variable {X : Cx} {G : Gm} {m m' : Bool} {O O1 O2 O' Ol : List Nat} {E : XK} {e tg : Expr} {es : List Expr} {F F1 F2 : Ex} {Fs : Exs}
variable {φ : Fr} {σ σ2 : L2.St} {B H B' H' H0 : Hp} {ρ ρ2 : Env} {S S' : SrcT} {st : Stmt} {sts rest : List Stmt} {A A1 A2 : Sx}
/-- the promise: a pair of a list that is new and shared by nothing, and a number -/
def spPostF (G : Gm) (p : Option Addr) (B H : Hp) (Q : VK) (E : XK) : Rs D → Prop
  | .bad => False
  | .exc c d S' => ∀ B' H' cv od, Same B B' → Same B' H' → (∀ a o, p ≠ some a → H a = some o → H' a = some o) → (∀ a o, B' a = some o → mutO o → B a = some o ∨ H a = none) → (∀ q, p = some q → B' q = none ∧ SrcAt H' q S') → ExnAt G p B' H' c d cv od → E cv od H'
  | .ok (.tup [.lst es, .int k]) S' => ∀ t a xs B' H', Same B B' → Same B' H' → (∀ a o, p ≠ some a → H a = some o → H' a = some o) → (∀ a o, B' a = some o → mutO o → B a = some o ∨ H a = none) → (∀ q, p = some q → B' q = none ∧ SrcAt H' q S') →
      H' t = some (.tup [.ref a, .int k]) → H' a = some (.lst xs) → B' a = none → H a = none → p ≠ some a → DVs G p B' xs es → Q (.ref t) H'
  | .ok _ _ => False
  | .all p0 k => ∀ x, p0 x → spPostF G p B H Q E (k x)
def spDF (G : Gm) (f : List D → SrcT → Rs D) : Sp := fun vs H Q E => ∃ p B ds S, Same B H ∧ (∀ q, p = some q → B q = none ∧ SrcAt H q S) ∧ DVs G p B vs ds ∧ spPostF G p B H Q E (f ds S)
def PostF (G : Gm) (φ : Fr) (E : XK) (D : Ends) (B : Hp) (r : Rs (Fl × Env)) : Prop := match r with
  | .bad => False
  | .exc c d S => XS G φ E B c d S
  | .ok (.ret (.tup [.lst es, .int k]), _) S => ∀ t a xs B' H', Same B B' → Rep G φ [] [] B' H' [] S → H' t = some (.tup [.ref a, .int k]) → H' a = some (.lst xs) → B' a = none → φ.H0 a = none → φ.p ≠ some a → DVs G φ.p B' xs es → D.rt (.ref t) H'
  | .all p k => ∀ x, p x → PostF G φ E D B (k x)
  | _ => False
def tSF (G : Gm) (O : List Nat) (E : XK) (F : Sx) : TS := fun D σ H => ∃ φ B ρ S, Rep G φ O σ B H ρ S ∧ PostF G φ E D B (F ρ S)
theorem PostF.same {D : Ends} {r : Rs (Fl × Env)} (s : Same B B') (h : PostF G φ E D B r) : PostF G φ E D B' r := by
  induction r with
  | bad => exact h
  | exc c d S => exact fun B2 H2 cv od s2 => h B2 H2 cv od (s.trans s2)
  | all p k ih => exact fun x px => ih x (h x px)
  | ok q S =>
    unfold PostF at h ⊢
    split at h
    · exact h
    · rename_i e; cases e
    · exact fun t a xs B2 H2 s2 => h t a xs B2 H2 (s.trans s2)
    · rename_i e; cases e
    · exact h.elim
def NoRet (A : Sx) : Prop := ∀ ρ S, (A ρ S).each fun r => match r with
  | (.nx, _) => True
  | _ => False
theorem nr_expr : NoRet (exprS F) := fun ρ S => by unfold exprS; exact (Rs.each.triv (F ρ S)).bind fun _ _ _ => True.intro
theorem nr_set {i : Nat} : NoRet (setS i F) := fun ρ S => by unfold setS; exact (Rs.each.triv (F ρ S)).bind fun _ _ _ => True.intro
theorem nr_asg {g : Tgt} : NoRet (asgS F g) := fun ρ S => by
  unfold asgS
  refine (Rs.each.triv (F ρ S)).bind fun d _ _ => ?_
  cases g d ρ <;> exact True.intro
theorem ds_consF (hn : NoRet A1) (h1 : PS X st (tS G O O1 [] E A1)) (h2 : PSs X rest (tSF G O1 E A2)) : PSs X (st :: rest) (tSF G O E (seqS A1 A2)) := by
  refine (pss_cons h1 h2).mono fun D σ H ⟨φ, B, ρ, S, R, hp⟩ => ⟨φ, B, ρ, S, R, ?_⟩
  have hn := hn ρ S
  unfold seqS at hp
  generalize A1 ρ S = r at hp hn
  induction r with
  | bad => exact hp
  | exc c d S => exact hp
  | all p k ih => exact fun x px => ih x (hp x px) (hn x)
  | ok q S1 =>
    match q, hp, hn with
    | (.nx, ρ1), hp, _ => exact fun σ' B' H' s R' => ⟨φ, B', ρ1, S1, R', PostF.same s hp⟩
    | (.brk, _), _, hn => exact hn.elim
    | (.cont, _), _, hn => exact hn.elim
    | (.ret _, _), _, hn => exact hn.elim
theorem ds_oneF (h : PS X st (tSF G O E A)) : PSs X [st] (tSF G O E A) := pss_one h
theorem ds_retF {pos p2 : Pos} {k : Nat} {e1 e2 : Expr} (h : PA X [e1, e2] (tMx G O E [true, false] Fs)) (hv0 : G.v = false := by rfl) : PS X (.Return (some (.Tuple [e1, e2] k p2)) pos) (tSF G O E (retS (tupF Fs))) := by
  refine (ps_ret (pe_tup h)).mono fun D σ H ⟨φ, B, ρ, S, R, hp⟩ => ⟨φ, B, ρ, S, R, ?_⟩
  unfold retS tupF at hp
  generalize Fs ρ S = r1 at hp
  induction r1 with
  | bad => exact hp
  | exc c d S => exact fun B2 H2 cv od g => hp B2 H2 cv od g.b
  | all p k ih => exact fun x px => ih x (hp x px)
  | ok ds S1 =>
    intro vs as B1 H1 g R1 x
    have hl := x.len.1
    refine ⟨sz1000 (by rw [hl]; decide), fun t nt => ?_⟩
    obtain ⟨R2, g2, _⟩ := R1.newN (o := .tup vs) nt
    have x2 := x.go g2 R2.sub hv0 (R.vv.1.trans hv0)
    cases x2 with
    | new n h0 hna x3 =>
      cases x3 with
      | old hd x4 =>
        cases x4
        rename_i a o d S0 v d2
        have hp : PostF G φ E D B (Rs.ok (Fl.ret (NL.D.tup [d, d2]), ρ) S1) := hp
        cases d <;> first | exact (show False from hp).elim | skip
        cases d2 <;> first | exact (show False from hp).elim | skip
        cases hd
        have hdo : DO G φ.p B1 o _ := n.dat
        cases o <;> first | exact (show False from hdo).elim | skip
        exact hp t a _ B1 _ (g.b.trans g2.b) R2.bare upd_same n.at' n.nB n.n0 n.np hdo
theorem fn_lenF {n N : Nat} {vs : List V} {Q : VK} (h : spDF G (fnF n N A) vs H Q E) : vs.length = n := by
  obtain ⟨p, B, ds, S, h1, h2, h3, h4⟩ := h
  rw [h3.len]
  unfold fnF at h4
  by_cases hn : ds.length = n
  · exact hn
  · rw [if_neg hn] at h4; exact h4.elim
theorem fn_readF {n : Nat} {Ns : List Str} {vs : List V} {Q : VK} (h : spDF G (fnF n Ns.length A) vs H Q E) (hv0 : G.v = false := by rfl) (hfx : G.fx = none := by rfl) : tSF G [] E A { nx := fun _ H' => Q .non H', rt := Q } (L2.start Ns vs) H := by
  have hlen := fn_lenF h
  obtain ⟨p, B, ds, S, h1, h2, h3, h4⟩ := h
  have hl : ds.length = n := by rw [← h3.len]; exact hlen
  unfold fnF at h4
  rw [if_pos hl] at h4
  refine ⟨{ p := p, B0 := B, H0 := H }, B, ds.map some ++ List.replicate (Ns.length - n) none, S, ⟨h1, fun a o _ _ h => h, fun a o h _ => .inl h, h2, Same.refl _, ?_, ?_, fun i hi => (nomatch hi), fun i j hi => (nomatch hi), fun a h => h, (fun hv => by rw [hv0] at hv; cases hv), ⟨hv0.symm, fun _ f hf => by rw [hfx] at hf; cases hf⟩, fun i hi => (nomatch hi)⟩, ?_⟩
  · unfold L2.start; simp [h3.len, hl]
  · intro i d _ hd
    unfold L2.start
    rw [hlen]
    by_cases hi : i < ds.length
    · rw [List.getElem?_append_left (by simpa using hi), List.getElem?_map] at hd
      obtain ⟨d', hd', hd''⟩ := Option.map_eq_some_iff.mp hd
      cases hd''
      obtain ⟨v, k1, k2⟩ := h3.get hd'
      refine ⟨v, ?_, k2⟩
      rw [List.getElem?_append_left (by rw [List.length_map, h3.len]; exact hi), List.getElem?_map, k1]; rfl
    · rw [List.getElem?_append_right (by simpa using hi)] at hd
      obtain ⟨_, hd2⟩ := List.getElem?_eq_some_iff.mp hd
      rw [List.getElem_replicate] at hd2; cases hd2
  · generalize A (ds.map some ++ List.replicate (Ns.length - n) none) S = r at h4
    induction r with
    | bad => exact h4
    | exc c d S' => exact fun B' H' cv od s R' hx => h4 B' H' cv od s R'.sub (fun a o hp h => R'.fr a o hp rfl h) (fun a o h hm => R'.cl a o h hm) R'.src hx
    | all p0 k ih => exact fun x px => ih x (h4 x px)
    | ok q S' =>
      match q, h4 with
      | (.nx, _), h4 => exact h4.elim
      | (.brk, _), h4 => exact h4.elim
      | (.cont, _), h4 => exact h4.elim
      | (.ret d, _), h4 =>
        unfold PostF
        have h4 : spPostF G p B H Q E (Rs.ok d S') := h4
        unfold spPostF at h4
        split at h4
        · exact h4.elim
        · rename_i q; cases q
        · rename_i q; cases q
          exact fun t a xs B' H' s R' k1 k2 k3 k4 k5 k6 => h4 t a xs B' H' s R'.sub (fun a o hp h => R'.fr a o hp rfl h) (fun a o h hm => R'.cl a o h hm) R'.src k1 k2 k3 k4 k5 k6
        · exact h4.elim
        · rename_i q; cases q
/-- behind a call: the shared ones are the callee's -/
theorem Rep.afterB (R : Rep G φ O σ B H ρ S) {Bc : Hp} (h1 : Same B Bc) (h2 : Same Bc H') (h3 : ∀ a o, φ.p ≠ some a → H a = some o → H' a = some o)
    (h4 : ∀ a o, Bc a = some o → mutO o → B a = some o ∨ H a = none) (h5 : ∀ q, φ.p = some q → Bc q = none ∧ SrcAt H' q S') (hv0 : G.v = false) : Go φ B H Bc H' ∧ Rep G φ O σ Bc H' ρ S' := by
  have gd : ∀ a, H' a = none → H a = none := fun a h => by
    cases k : H a with
    | none => rfl
    | some x =>
      by_cases e : φ.p = some a
      · rw [(h5 a e).2.1] at h; cases h
      · rw [h3 a x e k] at h; cases h
  refine ⟨⟨h1, fun _ c x h => ?_, h4, gd⟩, ⟨h2, fun a o hp hm h => h3 a o hp (R.fr a o hp hm h), fun a o h hm => ?_, h5, R.b0.trans h1, R.len, fun i d hi h => ?_, fun i hi => ?_, R.dis, fun a h => R.al a (gd a h), (fun hv => by rw [hv0] at hv; cases hv), R.vv, R.nov⟩⟩
  · by_cases e : φ.p = some c
    · unfold hideP at h; rw [if_pos e] at h; cases h
    · rw [hideP_at e] at h ⊢; exact h3 c x e h
  · rcases h4 a o h hm with k | k
    · exact R.cl a o k hm
    · exact .inr (R.al a k)
  · obtain ⟨v, k1, k2⟩ := R.val i d hi h
    exact ⟨v, k1, k2.same h1⟩
  · obtain ⟨a, o, d, k1, k2, k3, k4, k5, k6, k7⟩ := R.own i hi
    have hH' := h3 a o k6 k3
    refine ⟨a, o, d, k1, k2, hH', ?_, k5, k6, k7.same h1⟩
    cases h : Bc a with
    | none => rfl
    | some x =>
      have hx : x = o := by
        have := h2 a x h
        rw [hH'] at this; exact (Option.some.inj this).symm
      rcases h4 a x h (hx ▸ k7.mut) with k | k
      · rw [k4] at k; cases k
      · rw [k3] at k; cases k
def freS (i j : Nat) (f : List NL.D → SrcT → Rs NL.D) (Fs : Exs) : Sx := fun ρ S => (Fs ρ S).bind fun ds S1 => (f ds S1).bind fun d S2 => match d with
  | .tup [.lst es, .int k] => if (decide (i < ρ.length) && decide (j < ρ.length)) = true then .ok (.nx, (ρ.set i (some (.lst es))).set j (some (.int k))) S2 else .bad
  | _ => .bad
theorem ds_asgF {i j : Nat} {f : List NL.D → SrcT → Rs NL.D} (hO : O' = i :: O) (hi : i ∉ O) (hj : j ∉ O) (hij : i ≠ j) (h : PS X st (tAsg (tCall (spDF G f) [] E (tDs G false O E Fs)) (gTup X.K 2 (gNames [i, j])))) (hv0 : G.v = false := by rfl) :
    PS X st (tS G O O' Ol E (freS i j f Fs)) := by
  subst hO
  refine h.mono fun D σ H ⟨φ, B, ρ, S, R, hp⟩ => ⟨φ, B, ρ, S, R, ?_⟩
  unfold freS at hp
  generalize Fs ρ S = r1 at hp
  induction r1 with
  | bad => exact hp
  | exc c d S => exact fun B2 H2 cv od g => hp B2 H2 cv od g.b
  | all p k ih => exact fun x px => ih x (hp x px)
  | ok ds S1 =>
    intro vs B1 H1 g R1 hv
    rw [List.append_nil]
    refine ⟨φ.p, B1, ds, S1, R1.sub, R1.src, hv, ?_⟩
    replace hp : PostS G φ (i :: O) Ol E D B ((f ds S1).bind fun d S2 => match d with
      | .tup [.lst es, .int k] => if (decide (i < ρ.length) && decide (j < ρ.length)) = true then .ok (.nx, (ρ.set i (some (.lst es))).set j (some (.int k))) S2 else .bad
      | _ => .bad) := hp
    generalize f ds S1 = r2 at hp
    induction r2 with
    | bad => exact hp
    | exc c d S' =>
      intro B' H' cv od k1 k2 k3 k4 k5 hx
      obtain ⟨g2, R2⟩ := R1.afterB k1 k2 k3 k4 k5 hv0
      exact hp B' H' cv od (g.b.trans g2.b) R2.bare hx
    | all p k ih => exact fun x px => ih x (hp x px)
    | ok d S' =>
      replace hp : PostS G φ (i :: O) Ol E D B (match (generalizing := false) d with
        | .tup [.lst es, .int k] => if (decide (i < ρ.length) && decide (j < ρ.length)) = true then .ok (.nx, (ρ.set i (some (.lst es))).set j (some (.int k))) S' else .bad
        | _ => .bad) := hp
      split at hp
      · rename_i es k
        split at hp
        · rename_i hl
          simp only [Bool.and_eq_true, decide_eq_true_eq] at hl
          intro t a xs B' H' k1 k2 k3 k4 k5 e1 e2 e3 e4 e5 e6
          obtain ⟨g2, R2⟩ := R1.afterB k1 k2 k3 k4 k5 hv0
          have n0 : φ.H0 a = none := R1.al a e4
          have nw : New G φ O σ false B' H' S' a (.lst xs) (.lst es) := by
            refine ⟨e2, e3, n0, e5, fun x hx => ?_, e6, fun hv => by rw [hv0] at hv; cases hv⟩
            obtain ⟨c, o, d, q1, q2, q3, q4, q5, q6, q7⟩ := R1.own x hx
            rw [q2]
            intro q
            have e := V.ref.inj (Option.some.inj (Option.some.inj q))
            rw [e] at q3; rw [e4] at q3; cases q3
          refine ⟨t, _, rfl, SqT.of e1, rfl, gNames_of rfl ?_⟩
          refine hp _ B' H' (g.b.trans g2.b) ?_
          refine Rep.set (R2.setO hi hl.1 nw hv0) (fun q => ?_) (.int k)
          rcases List.mem_cons.mp q with q | q
          · exact hij q.symm
          · exact hj q
        · exact hp.elim
      · exact hp.elim
end
end
end NL
/-! ### zip of a list and a tuple -/
namespace NL
noncomputable section
open PySem L2 PySem.Spec PyProof.Rows
/-- a list and a tuple, item by item, in new pairs -/
def ItzM (K : PySem.W.Frag) (a b : Addr) : It :=
  ⟨fun i H => ∃ (us vs : List V) (u v : V), SqL K H a us ∧ SqT K H b vs ∧ us[i]? = some u ∧ vs[i]? = some v,
   fun i H r H' => ∃ T u v, r = .ref T ∧ H T = none ∧ H' = upd H T (.tup [u, v]) ∧ (∀ us, SqL K H a us → us[i]? = some u) ∧ ∀ vs, SqT K H b vs → vs[i]? = some v,
   fun i H => ∃ us vs : List V, SqL K H a us ∧ SqT K H b vs ∧ i ≤ us.length ∧ i ≤ vs.length ∧ (i = us.length ∨ i = vs.length)⟩
theorem fp5 {z t o i j c : Addr} (h : c ∈ [z, t, o, i, j]) : c = z ∨ c = t ∨ c = o ∨ c = i ∨ c = j := by simpa using h
theorem turn_zipM {P : Program} {w : World} {K : PySem.W.Frag} {elts : List Expr} {kk : Nat} {tpos : Pos} {a b z t o i j : Addr} (D : ZipSep2 z t o i j [i, a] [j, b]) (hia : a ≠ i) (hjb : b ≠ j) :
    Turn P w K (.Tuple elts kk tpos) (ItzM K a b) [z, t, o, i, j] z (fun n h => IsZip h z t o .none ∧ IsTupOf2 h t (.ref i) (.ref j) ∧ (∃ x y, IsTupOf2 h o x y) ∧ h.IsListIter i a n ∧ h.IsTupleIter j b n) where
  mem := List.mem_cons_self
  obj := fun n h st c hc => by
    obtain ⟨s1, s2, ⟨x, y, s3⟩, ⟨o1, e1, _, d1⟩, ⟨o2, e2, _, d2⟩⟩ := st
    rcases fp5 hc with rfl | rfl | rfl | rfl | rfl
    · exact ⟨_, s1, fun v q => nomatch q⟩
    · exact ⟨_, s2, fun v q => nomatch q⟩
    · exact ⟨_, s3, fun v q => nomatch q⟩
    · exact ⟨o1, e1, fun v q => by rw [d1] at q; cases q⟩
    · exact ⟨o2, e2, fun v q => by rw [d2] at q; cases q⟩
  keep := fun n h h' st k => by
    obtain ⟨s1, s2, ⟨x, y, s3⟩, s4, s5⟩ := st
    exact ⟨k z (by simp) _ s1, k t (by simp) _ s2, ⟨x, y, k o (by simp) _ s3⟩, s4.at fun r q => k i (by simp) r q, s5.at fun r q => k j (by simp) r q⟩
  item := by
    intro X hP hw hK hc n pins s σ H E I hf st hg
    subst hP hw hK
    obtain ⟨s1, s2, ⟨x0, y0, s3⟩, s4, s5⟩ := st
    obtain ⟨us, vs, u, v, qu, qv, hu, hv⟩ := hg
    obtain ⟨is, ri, pi, _⟩ := I.list qu
    obtain ⟨js, rj, pj, _⟩ := I.tuple qv
    obtain ⟨gu, hgu, ru⟩ := ri.get hu
    obtain ⟨gv, hgv, rv⟩ := rj.get hv
    have zl : z < s.heap.objs.size := Heap.lt_size s1
    have nu : n < is.toArray.size := by have := (List.getElem?_eq_some_iff.mp hgu).1; simpa using this
    have nv : n < js.toArray.size := by have := (List.getElem?_eq_some_iff.mp hgv).1; simpa using this
    have hh : X.A.handled = none := I.ok.hd hc
    refine wpAny_pyNext_zipD2_item (n1 := is.toArray.size) (n2 := js.toArray.size) D (Draws.list (show X.A.in1.handled = none from hh) i a hia is.toArray) (Draws.tuple (show X.A.in1.handled = none from hh) j b hjb js.toArray) s1 s2 s3 ⟨s4, pi.isList⟩ ⟨s5, pj⟩ nu nv fun x1 x2 h' tk p1 p2 z' o' d1 d2 hT hsz hk => ?_
    have e1 : x1 = gu := by have p1 : is.toArray[n]? = some x1 := p1; rw [List.getElem?_toArray, hgu] at p1; exact (Option.some.inj p1).symm
    have e2 : x2 = gv := by have p2 : js.toArray[n]? = some x2 := p2; rw [List.getElem?_toArray, hgv] at p2; exact (Option.some.inj p2).symm
    subst e1 e2
    refine ⟨_, rfl, wpAny_letOwnedTupleGo_zip (s := { s with heap := h', toks := tk }) z' fun h'' z'' sb => ?_⟩
    have hT2 : h''.get? s.heap.objs.size = some { cls := .type "tuple", data := .seq #[x1, x2] } := (sb.2 _ (Nat.ne_of_gt zl)).trans hT
    have nw : ObjOk X.prog X.w (upd H s.heap.objs.size (.tup [u, v])) h'' s.heap.objs.size (.tup [u, v]) := ⟨by show 2 ≤ sizeLine; decide, [x1, x2], .cons ru (.cons rv .nil), ⟨_, hT2, rfl, _, rfl⟩⟩
    have nin : ∀ c, c ∉ [z, t, o, i, j] → c ≠ z ∧ c ≠ o ∧ c ≠ i ∧ c ≠ j := fun c hb => ⟨fun q => hb (by simp [q]), fun q => hb (by simp [q]), fun q => hb (by simp [q]), fun q => hb (by simp [q])⟩
    have I1 : Inv X pins σ (upd H s.heap.objs.size (.tup [u, v])) { s with heap := h'', toks := tk } :=
      I.turnedNew (t' := tk) (ch := [z, t, o, i, j]) (fun c r hb q => (sb.2 c (nin c hb).1).trans (hk c r (nin c hb).1 (nin c hb).2.1 (nin c hb).2.2.1 (nin c hb).2.2.2 q)) hf (Nat.le_refl _) nw
    refine ⟨.ref s.heap.objs.size, _, I1, rfl, ⟨_, u, v, rfl, I.hok.fresh (Nat.le_refl _), rfl, fun l hl => by rw [I.list_inj hl qu]; exact hu, fun l hl => by rw [I.tuple_inj hl qv]; exact hv⟩, ⟨z'', ?_, ⟨x1, x2, ?_⟩, ?_, ?_⟩, fun c hcm => ?_⟩
    · exact (sb.2 _ D.TIz).trans (hk _ _ D.TIz D.TITO D.TIi1 D.TIi2 s2)
    · exact (sb.2 _ D.TOz).trans o'
    · exact d1.1.at fun r q => (sb.2 _ D.zi1.symm).trans q
    · exact d2.1.at fun r q => (sb.2 _ D.zi2.symm).trans q
    · have hlt : c < s.heap.objs.size := by
        rcases fp5 hcm with q | q | q | q | q
        · rw [q]; exact zl
        · rw [q]; exact Heap.lt_size s2
        · rw [q]; exact Heap.lt_size s3
        · rw [q]; obtain ⟨_, e1, _⟩ := s4; exact Heap.lt_size e1
        · rw [q]; obtain ⟨_, e2, _⟩ := s5; exact Heap.lt_size e2
      rw [upd_ne (Nat.ne_of_lt hlt)]; exact (hf c hcm).1
  done := by
    intro X hP hw hK hc n pins s σ H E I hf st hg
    subst hP hw hK
    obtain ⟨s1, s2, ⟨x0, y0, s3⟩, s4, s5⟩ := st
    obtain ⟨us, vs, qu, qv, l1, l2, he⟩ := hg
    obtain ⟨is, ri, pi, _⟩ := I.list qu
    obtain ⟨js, rj, pj, _⟩ := I.tuple qv
    have k1 : is.toArray.size = us.length := by rw [List.size_toArray, ri.length]
    have k2 : js.toArray.size = vs.length := by rw [List.size_toArray, rj.length]
    have hh : X.A.handled = none := I.ok.hd hc
    refine wpAny_pyNext_zipD2_end (n1 := is.toArray.size) (n2 := js.toArray.size) D (Draws.list (show X.A.in1.handled = none from hh) i a hia is.toArray) (Draws.tuple (show X.A.in1.handled = none from hh) j b hjb js.toArray) s1 s2 s3 ⟨s4, pi.isList⟩ ⟨s5, pj⟩ (by omega) (by omega) (by omega) fun h' tk hk => ⟨rfl, I.turnedL (t' := tk) (ch := [z, t, o, i, j]) (fun c r hb q => ?_) hf⟩
    exact hk c r (fun q => hb (by simp [q])) (fun q => hb (by simp [q])) (fun q => hb (by simp [q])) (fun q => hb (by simp [q])) q
  self := fun A n s Q E st h => wpAny_pyIter_zip st.1 h
theorem sep5 {n a b : Nat} (la : a < n) (lb : b < n) : ZipSep2 (n + 4) (n + 2) (n + 3) n (n + 1) [n, a] [n + 1, b] := by
  have key : ∀ {c x y : Nat}, c ≠ x → c ≠ y → c ∉ ([x, y] : List Nat) := fun h1 h2 q => by
    rcases List.mem_cons.mp q with q | q
    · exact h1 q
    · exact h2 (List.mem_singleton.mp q)
  have ne : ∀ {x y : Nat}, x < y ∨ y < x → x ≠ y := fun h q => by omega
  exact ⟨ne (x := n + 2) (y := n + 4) (by omega), ne (x := n + 3) (y := n + 4) (by omega), ne (x := n + 2) (y := n + 3) (by omega), ne (x := n + 2) (y := n) (by omega), List.mem_cons_self, key (c := n + 4) (x := n) (y := a) (by omega) (by omega), key (c := n + 3) (x := n) (y := a) (by omega) (by omega), ne (x := n + 2) (y := n + 1) (by omega), List.mem_cons_self, key (c := n + 4) (x := n + 1) (y := b) (by omega) (by omega), key (c := n + 3) (x := n + 1) (y := b) (by omega) (by omega), key (c := n) (x := n + 1) (y := b) (by omega) (by omega), key (c := n + 1) (x := n) (y := a) (by omega) (by omega)⟩
def iZipM (K : PySem.W.Frag) (ta : TA) : TI := fun σ H R => ta σ H fun vs H1 => ∃ a b xs ys, vs = [.ref a, .ref b] ∧ SqL K H1 a xs ∧ SqT K H1 b ys ∧ R (ItzM K a b) H1
theorem pi_zipM {X : Cx} {e e2 : Expr} {ta : TA} {p pos tpos : Pos} {elts : List Expr} {kk : Nat} (hg : Gl X "zip") (hm : X.mg "zip" = none) (ha : PA X [e, e2] ta)
    (hs : starEach [e, e2] X.env = (false, eval e X.env) :: starEach [e2] X.env := by rfl) (hp : (backTo pos (starEach [e2] X.env)).any (·.1) = false := by rfl) :
    PI X (.Tuple elts kk tpos) (.Call (.Name "zip" p) [e, e2] [] pos) (iZipM X.K ta) := by
  refine ⟨fun pins s σ H R I h => ?_⟩
  refine Call_ (ld_blt I hg hm PyProof.Rows.boot_zip (PyProof.Rows.callWith_type1 (thn (ha.run pos pins s σ H _ I h) fun us s1 ⟨vs, H1, I1, r1, q1⟩ => ?_) hs hp))
  obtain ⟨a, b, xs, ys, rfl, qx, qy, q⟩ := q1
  obtain ⟨_, _, rfl, ra, rb⟩ : ∃ u1 u2, us = [u1, u2] ∧ RelV (.ref a) u1 ∧ RelV (.ref b) u2 := by
    cases r1 with | cons r rr => cases rr with | cons r' rr => cases rr; exact ⟨_, _, rfl, r, r'⟩
  cases ra
  cases rb
  obtain ⟨is, ri, pi, _⟩ := I1.list qx
  obtain ⟨js, rj, pj, _⟩ := I1.tuple qy
  obtain ⟨o1, ho1, _⟩ := id pi.isList
  obtain ⟨o2, ho2, _⟩ := id pj
  have la := Heap.lt_size ho1
  have lb := Heap.lt_size ho2
  refine zip_begins2 (begins_list a is.toArray) (begins_tuple b js.toArray) pi.isList pj fun h' hz ht ho g1 g2 hsz hk => wpAny_pyIter_zip hz ?_
  have I2 : Inv X pins σ H1 { s1 with heap := h' } := I1.kept (t' := s1.toks) hk
  refine ⟨s1.heap.objs.size + 4, [s1.heap.objs.size + 4, s1.heap.objs.size + 2, s1.heap.objs.size + 3, s1.heap.objs.size, s1.heap.objs.size + 1], _, _, H1, rfl, I2, turn_zipM (sep5 la lb) (Nat.ne_of_lt la) (Nat.ne_of_lt (Nat.lt_succ_of_lt lb)), ⟨hz, ht, ⟨_, _, ho⟩, ⟨_, g1, rfl, rfl⟩, ⟨_, g2, rfl, rfl⟩⟩, fun c hc => ?_, q⟩
  have hle : s1.heap.objs.size ≤ c := by
    rcases fp5 hc with z | z | z | z | z <;> rw [z] <;> first | exact Nat.le_refl _ | exact Nat.le_add_right _ _
  exact I1.fpOk hle (I1.hok.fresh hle)
theorem walk_zipM {K : PySem.W.Frag} {a b : Addr} {xs ys : List V} {n : Nat} (hn : n = min xs.length ys.length) : Walk (ItzM K a b) n (fun H => SqL K H a xs ∧ SqT K H b ys) (YPair (fun i => xs[i]?) (fun i => ys[i]?)) := by
  refine ⟨fun i H hi q => ?_, fun H q => ⟨xs, ys, q.1, q.2, by omega, by omega, by omega⟩, fun i H v H' hi q y => ?_⟩
  · have l1 : i < xs.length := by omega
    have l2 : i < ys.length := by omega
    exact ⟨xs, ys, _, _, q.1, q.2, List.getElem?_eq_getElem l1, List.getElem?_eq_getElem l2⟩
  · obtain ⟨T, u, z, k1, k2, k3, k4, k5⟩ := y
    exact ⟨T, u, z, k1, k2, k3, k4 xs q.1, k5 ys q.2⟩
def zipMF (Fs : Exs) : Exs := fun ρ S => (Fs ρ S).bind fun ds S1 => match ds with
  | [.lst a, .tup b] => .ok (zipD a b) S1
  | _ => .bad
section
variable {X : Cx} {G : Gm} {m m' : Bool} {O : List Nat} {E : XK} {e tg : Expr} {es : List Expr} {Fs : Exs}
theorem di_zipM (h : PI X tg e (iZipM X.K (tDs G false O E Fs))) (hK : X.K = G.K := by rfl) : PI X tg e (tI G O E (zipMF Fs)) := by
  refine h.mono fun σ H R' ⟨φ, B, ρ, S, R, hp⟩ => ⟨φ, B, ρ, S, R, ?_⟩
  rw [hK]
  refine Pg.bind hp fun d S1 w B1 H1 g1 R1 hw h1 => ?_
  split at h1
  · cases hw with | cons k1 k2 =>
    cases k2 with | cons k2 k3 =>
    cases k3; cases k1 with | lst ha hs => cases k2 with | tup hb ht =>
    have ha : B1 _ = some _ := ha
    have hb : SqT G.K B1 _ _ := hb
    have hs : DVs G φ.p B1 _ _ := hs
    have ht : DVs G φ.p B1 _ _ := ht
    refine ⟨_, _, _, _, rfl, SqL.of (R1.sub _ _ ha), SqT_same R1.sub hb, Pg.ok h1 R1 ⟨fun H2 => SqL G.K H2 _ _ ∧ SqT G.K H2 _ _, fun H2 s2 => ⟨SqL.of (s2 _ _ ha), SqT_same s2 hb⟩, ?_⟩⟩
    rw [zipD_len]
    refine (walk_zipM (by rw [hs.len, ht.len])).mono (fun _ h => h) fun i H3 x H4 hi _ y => ?_
    obtain ⟨d1, hd1⟩ : ∃ d, (_ : List D)[i]? = some d := ⟨_, List.getElem?_eq_getElem (Nat.lt_of_lt_of_le hi (Nat.min_le_left _ _))⟩
    obtain ⟨d2, hd2⟩ : ∃ d, (_ : List D)[i]? = some d := ⟨_, List.getElem?_eq_getElem (Nat.lt_of_lt_of_le hi (Nat.min_le_right _ _))⟩
    refine pair_YD (zipD_get hd1 hd2) (fun v hv => ?_) (fun v hv => ?_) y
    · obtain ⟨d', k1, k2⟩ := hs.getV hv
      rw [hd1] at k1; cases k1; exact k2
    · obtain ⟨d', k1, k2⟩ := ht.getV hv
      rw [hd2] at k1; cases k1; exact k2
  · exact h1.elim
end
end
end NL
/-! ### x == y, x != y by a class's own __eq__, y of any type -/
namespace NL
noncomputable section
open PySem L2 PySem.Spec PyProof.Rows
section
variable {M : Model} {prog : Program} {w : World} {A : Around} {E : Value → Shared → Prop} {s : Shared} {K : PySem.W.Frag} {x C : Addr} {ox : Obj} {od : Option Obj} {b : Value}
theorem ne_bound {us : List Value} {Q : Option Value → Shared → Prop} (kin : K.In s.heap) (J : PySem.W.InstAt s.heap x ox C od) (hs : PySem.W.findIn K (.ref C) "__ne__" = some (some (.builtin "object.__ne__")))
    (h : wpAny M A (call (.builtin "object.__ne__") (.ref x :: us)) (fun v => Q (some v)) E s) : wpAny M A (callSpecialIfBound? (.ref x) "__ne__" us) Q E s := by
  simp only [callSpecialIfBound?, bindSpecialIfBound?]
  refine wpAny_holding (wpAny_bind (wpAny_bind (wpAny_bind (J.type.here ((PySem.W.looks_findIn kin hs).here ?_)))))
  have last : wpAny M A (call (.builtin "object.__ne__") ([.ref x] ++ us) >>= fun v => pure (some v)) Q E s := wpAny_bind (wpAny_mono h (fun v s' q => wpAny_pure q) fun _ _ q => q)
  refine wpAny_bind (wpAny_askSetting (wpAny_ite ?_))
  split
  · exact wpAny_bind (wpAny_of_eq (F.cmp_object.ne.bind _) (wpAny_pure (by exact last)))
  · exact wpAny_tryCatch (wpAny_bind (wpAny_of_eq (F.cmp_object.ne.bind _) (wpAny_pure (by exact last))))
theorem ne_entry {Q : Fin → Shared → Prop} (hu : A.units < cLine) (h : wpAny M A (callSpecialIfBound? (.ref x) "__eq__" [b]) (fun r s' => ∃ i : Bool, r = some (.bool i) ∧ Q (.done (.ret (.bool (!i)))) s') E s) :
    wpAny M A (Builtin.«object.__ne__» ⟨[.ref x, b], []⟩) Q E s := by
  unfold Builtin.«object.__ne__»
  refine wpAny_bind (wpAny_pure ?_)
  refine wpAny_bind (wpAny_cRoomFor hu ?_)
  refine wpAny_bind (wpAny_mono h (fun r s' q => ?_) fun _ _ q => q)
  obtain ⟨i, rfl, q⟩ := q
  refine wpAny_bind (wpAny_truthy_bool ?_)
  exact wpAny_pure q
end
/-- what a class of the program must be: no __ne__ of its own, instances with a dict, a plain class -/
structure OwnC (K : PySem.W.Frag) (C : Addr) : Prop where
  ha : PySem.W.findIn K (.ref C) "__class__" = some (some (.builtin "object.__class__"))
  hn : PySem.W.specialIn K (.builtin "object.__class__") "__get__" = some (some (.builtin "getset_descriptor.__get__"))
  htk : PySem.W.takesIn K (.builtin "object.__class__") = some true
  hm : PySem.W.mroIn K C (.type "object") = some true
  hc : PySem.W.isClsIn K C = true
  ht : PySem.W.typeIn K (.ref C) = some (.type "type")
  ne : PySem.W.findIn K (.ref C) "__ne__" = some (some (.builtin "object.__ne__"))
/-- isinstance of a value of a built-in type, an own class asked -/
theorem kit_own {K : PySem.W.Frag} {C : Addr} {T : String} {ms : List Value} (h : OwnC K C) (e : fastBuiltinMro T = some ms) (hm : ms.contains (.ref C) = false) : PySem.W.kitOne K (.type T) (.ref C) = some false := by
  have hne : ((Value.type T) == .ref C) = false := by
    cases q : ((Value.type T) == .ref C) with
    | false => rfl
    | true => exact nomatch (eq_of_beq q)
  unfold PySem.W.kitOne PySem.W.kitCls
  rw [hne, if_neg Bool.false_ne_true]
  dsimp only
  rw [if_pos (by rw [show (PySem.W.clsIn K C).isSome = true from h.hc, h.ht, Bool.true_and]; exact beq_self_eq_true _)]
  show (fastBuiltinMro T).map (·.contains (.ref C)) = some false
  rw [e, Option.map_some, hm]
theorem first_own {K : PySem.W.Frag} {C : Addr} {T : String} {ms : List Value} (e : fastBuiltinMro T = some ms) (hm : ms.contains (.ref C) = false) : PySem.W.notFirst K C (.type T) = true := by
  unfold PySem.W.notFirst
  have q : PySem.W.subIn K (.type T) (.ref C) = some false := by
    show (fastBuiltinMro T).map (·.contains (.ref C)) = some false
    rw [e, Option.map_some, hm]
  rw [q]; simp
section
variable {X : Cx} {CX : CXT} {n : Nat} {f C : Addr} {fd : FuncData} {ps : List Str} {sp : Sp} {E : XK}
/-- x == y, x != y, x of the class at C -/
def rCmpO (neg : Bool) (K : PySem.W.Frag) (C : Addr) (sp : Sp) (E : XK) : R2 := fun x y H Q => ∃ a dx fs t, x = .ref a ∧ H a = some (.ins C dx fs) ∧ TyX K H y t ∧ PySem.W.notFirst K C t = true ∧ sp [.ref a, y] H (fun v H' => ∃ i : Bool, v = .bl i ∧ Q (.bl (if neg then !i else i)) H') E
theorem op_eqC (F : FnOk X.prog X.w X.K X.mg X.base CX n f fd ps sp) (hroom : Room n X.A) (M : Meth X.K C "__eq__" f) (hb : Binds X.K fd ps []) (hx : Passes CX X E) : OpR X (compareOp .Eq) (rCmpO false X.K C sp E) := by
  intro pins s σ H x y v u Q I rx ry hq
  obtain ⟨a, dx, fs, t, rfl, ha, ht, hn, h⟩ := hq
  show wpAny (model X.prog X.w) X.A (richCompare .Eq v u) (EP X pins σ Q) X.xe s
  cases rx
  obtain ⟨mA, J, _⟩ := ins_get I.hok ha
  obtain ⟨od, J, _⟩ := J.look
  obtain ⟨m, hF⟩ := I.fr
  obtain ⟨PP, kx, hP, _⟩ := kit_of I ry ht
  refine PySem.W.cmp_K (op := .Eq) (tb := t) hroom.units0 hF I.ok.mod.kin J (kx.ty _ _ I.kIn hP) hn M.at_ M.fn ?_
  have r2 : Vals [V.ref a, y] [Value.ref a, u] := .cons rfl (.cons ry .nil)
  refine wpAny_mono (run_own F hroom rfl hb hx I r2 h) (fun v s' q => ?_) fun _ _ e => e
  obtain ⟨z, H', I', rz, i, rfl, q⟩ := q
  cases rz
  exact ⟨.bl i, H', I', rfl, q⟩
theorem op_neC (oc : OwnC X.K C) (Fo : FnOk X.prog X.w X.K X.mg X.base CX n f fd ps sp) (hroom : Room (n + 1) X.A) (M : Meth X.K C "__eq__" f) (hb : Binds X.K fd ps []) (hx : Passes CX X E) : OpR X (compareOp .NotEq) (rCmpO true X.K C sp E) := by
  intro pins s σ H x y v u Q I rx ry hq
  obtain ⟨a, dx, fs, t, rfl, ha, ht, hn, h⟩ := hq
  show wpAny (model X.prog X.w) X.A (richCompare .NotEq v u) (EP X pins σ Q) X.xe s
  cases rx
  obtain ⟨mA, J, _⟩ := ins_get I.hok ha
  obtain ⟨od, J, _⟩ := J.look
  obtain ⟨m, hF⟩ := I.fr
  obtain ⟨PP, kx, hP, _⟩ := kit_of I ry ht
  have r2 : Vals [V.ref a, y] [Value.ref a, u] := .cons rfl (.cons ry .nil)
  have hu0 : X.A.units < cLine := hroom.units0
  have hu1 : X.A.in1.units < cLine := hroom.in1.units0
  have inner : wpAny (model X.prog X.w) X.A (tryCompare (.ref a) "__ne__" u) (fun r s' => ∃ w, r = some w ∧ EP X pins σ Q w s') X.xe s := by
    unfold tryCompare
    refine wpAny_bind (ne_bound I.kIn J oc.ne ?_)
    refine wpAny_call (codeAny_call_builtin F.cmp_object.ne.plain F.cmpEntry_ne (PySem.W.check_slot F.cmpKind_ne F.cmpSplit_ne (J.type.andThen (PySem.W.looks_mroIn I.kIn oc.hm)) (F.cmpArgs_ne _ _) (ne_entry hu1 ?_)))
    refine PySem.W.ifBound_K I.kIn J M.at_ M.fn ?_
    refine wpAny_mono (run_own Fo hroom.in1 rfl hb hx I r2 h) (fun v s' q => ?_) fun _ _ e => e
    obtain ⟨z, H', I', rz, i, rfl, q⟩ := q
    cases rz
    exact ⟨i, rfl, wpAny_pure ⟨_, rfl, .bl (!i), H', I', rfl, q⟩⟩
  simp only [richCompare, cmpInfo_NotEq, oneThing_ref]
  refine wpAny_holding (wpAny_bind (wpAny_cRoomFor hu0 ?_))
  refine wpAny_bind (J.type.here (wpAny_bind ((kx.ty _ _ I.kIn hP).here ?_)))
  split
  · rename_i q
    have e : PySem.W.subIn X.K t (.ref C) = some false := by
      rcases Bool.or_eq_true_iff.mp hn with e | e
      · rw [beq_iff_eq.mp e] at q; simp at q
      · exact beq_iff_eq.mp e
    refine wpAny_bind ((PySem.W.looks_subIn I.kIn e).here ?_)
    simp only [Bool.false_eq_true, if_false]
    refine wpAny_bind (wpAny_mono inner (fun r s' z => ?_) fun _ _ e => e)
    obtain ⟨w, rfl, q⟩ := z
    exact wpAny_pure q
  · refine wpAny_bind (wpAny_pure ?_)
    simp only [Bool.false_eq_true, if_false]
    refine wpAny_bind (wpAny_mono inner (fun r s' z => ?_) fun _ _ e => e)
    obtain ⟨w, rfl, q⟩ := z
    exact wpAny_pure q
end
/-! the data layer -/
def isRunK : D → Bool
  | .run _ _ => true
  | _ => false
def isLoopK : D → Bool
  | .loop _ _ => true
  | _ => false
/-- data of a built-in type -/
def baseK : D → Bool
  | .non => true
  | .bl _ => true
  | .int _ => true
  | .str _ => true
  | .lst _ => true
  | .tup _ => true
  | .dct _ => true
  | .dcT _ => true
  | _ => false
/-- p tells the data that stand for instances of the class at C -/
def InsK (G : Gm) (C : Addr) (p : D → Bool) : Prop := ∀ {q : Option Addr} {B : Hp} {v : V} {d : D}, DV G q B v d → p d = true → ∃ a dx fs, v = .ref a ∧ B a = some (.ins C dx fs)
theorem insRun {G : Gm} : InsK G G.cr isRunK := fun h hp => by
  cases h with
  | run h => obtain ⟨dx, a, b, c, h1, _⟩ := h; exact ⟨_, _, _, rfl, h1⟩
  | _ => cases hp
theorem insLoop {G : Gm} : InsK G G.cl isLoopK := fun h hp => by
  cases h with
  | loop h => obtain ⟨dx, ra, rd, rt, tab, h1, _⟩ := h; exact ⟨_, _, _, rfl, h1⟩
  | _ => cases hp
theorem base_ty {G : Gm} {q : Option Addr} {B : Hp} {v : V} {d : D} {C : Addr} (h : DV G q B v d) (hb : baseK d = true) : ∃ T ms, TyX G.K B v (.type T) ∧ fastBuiltinMro T = some ms ∧ ms.contains (.ref C) = false := by
  have e : ∀ T : String, (fastBuiltinMro T).isSome = true → ∀ ms, fastBuiltinMro T = some ms → (ms.all fun m => match m with | .type _ => true | _ => false) = true → ∃ ms, fastBuiltinMro T = some ms ∧ ms.contains (.ref C) = false := fun T _ ms e1 e2 => ⟨ms, e1, by
    cases hc : ms.contains (.ref C) with
    | false => rfl
    | true =>
      rw [List.contains_iff_exists_mem_beq] at hc
      obtain ⟨y, hy, hye⟩ := hc
      have := List.all_eq_true.mp e2 y hy
      rw [← eq_of_beq hye] at this
      exact nomatch this⟩
  cases h with
  | non => obtain ⟨ms, h1, h2⟩ := e "NoneType" (by decide +kernel) [.type "NoneType", .type "object"] (by decide +kernel) (by decide +kernel); exact ⟨_, ms, TyX.base TyOf.non, h1, h2⟩
  | bl b => obtain ⟨ms, h1, h2⟩ := e "bool" (by decide +kernel) [.type "bool", .type "int", .type "object"] (by decide +kernel) (by decide +kernel); exact ⟨_, ms, TyX.base (TyOf.bl _), h1, h2⟩
  | int b => obtain ⟨ms, h1, h2⟩ := e "int" (by decide +kernel) [.type "int", .type "object"] (by decide +kernel) (by decide +kernel); exact ⟨_, ms, TyX.base (TyOf.int _), h1, h2⟩
  | str b => obtain ⟨ms, h1, h2⟩ := e "str" (by decide +kernel) [.type "str", .type "object"] (by decide +kernel) (by decide +kernel); exact ⟨_, ms, TyX.base (TyOf.str _), h1, h2⟩
  | lst ha hs => obtain ⟨ms, h1, h2⟩ := e "list" (by decide +kernel) [.type "list", .type "object"] (by decide +kernel) (by decide +kernel); exact ⟨_, ms, TyX.base (TyOf.lst ha), h1, h2⟩
  | tup ha hs => obtain ⟨ms, h1, h2⟩ := e "tuple" (by decide +kernel) [.type "tuple", .type "object"] (by decide +kernel) (by decide +kernel); exact ⟨_, ms, SqT.tyx ha, h1, h2⟩
  | dct ha _ hs => obtain ⟨ms, h1, h2⟩ := e "dict" (by decide +kernel) [.type "dict", .type "object"] (by decide +kernel) (by decide +kernel); exact ⟨_, ms, TyX.base (TyOf.dK ha), h1, h2⟩
  | dcT ha _ hs => obtain ⟨ms, h1, h2⟩ := e "dict" (by decide +kernel) [.type "dict", .type "object"] (by decide +kernel) (by decide +kernel); exact ⟨_, ms, TyX.base (TyOf.dT ha), h1, h2⟩
  | _ => cases hb
section
variable {X : Cx} {G : Gm} {m : Bool} {O : List Nat} {E E' : XK} {e : Expr} {es : List Expr} {F F1 F2 : Ex} {Fs : Exs} {C : Addr} {p : D → Bool}
def isOwnD (p : D → Bool) : D → Option D := fun d => if p d = true then some (.bl true) else if baseK d = true then some (.bl false) else none
theorem de_isOwn (hp : InsK G C p) (cl : Cls G.K C) (oc : OwnC G.K C) (h : PE X e (tCB (rIsi X.K) (tCons (tD G true O E F) (tCons (tC (.ref C)) tNil)))) (hK : X.K = G.K := by rfl) : PE X e (tD G m O E (unF (isOwnD p) F)) := by
  refine h.mono fun σ H Q ⟨φ, B, ρ, S, R, hp'⟩ => ⟨φ, B, ρ, S, R, ?_⟩
  rw [hK]
  refine Pg.bind hp' fun d S1 w B1 H1 g R1 hw h1 => ?_
  obtain ⟨r, hr, q⟩ := h1.opt
  have hw := dv_H R1 hw
  unfold isOwnD at hr
  split at hr
  · rename_i hk
    cases hr
    obtain ⟨a, dx, fs, rfl, ha⟩ := hp hw hk
    exact ⟨_, _, _, _, true, rfl, .own C, TyX.base (TyOf.ins ha cl oc.ha oc.hn oc.htk oc.hm), if_pos (beq_self_eq_true _), q _ _ _ Go.refl R1 (.bl _)⟩
  · split at hr
    · rename_i hk
      cases hr
      obtain ⟨T, ms, t1, t2, t3⟩ := base_ty (C := C) hw hk
      exact ⟨_, _, _, _, false, rfl, .own C, t1, kit_own oc t2 t3, q _ _ _ Go.refl R1 (.bl _)⟩
    · cases hr
def eqOF (neg : Bool) (p : D → Bool) (f : List D → SrcT → Rs D) (F1 F2 : Ex) : Ex := fun ρ S => (F1 ρ S).bind fun d1 S1 => (F2 ρ S1).bind fun d2 S2 => if (p d1 && (p d2 || baseK d2)) = true then (noX (f [d1, d2] S2)).bind fun r S3 => match r with
    | .bl b => .ok (.bl (if neg then !b else b)) S3
    | _ => .bad
  else .bad
theorem de_eqO {neg : Bool} {f : List D → SrcT → Rs D} (hp : InsK G C p) (cl : Cls G.K C) (oc : OwnC G.K C) (h : PE X e (tOp (rCmpO neg X.K C (spD G f) E') (tD G true O E F1) (tD G true O E F2))) (hK : X.K = G.K := by rfl) (hv0 : G.v = false := by rfl) : PE X e (tD G m O E (eqOF neg p f F1 F2)) := by
  refine h.mono fun σ H Q ⟨φ, B, ρ, S, R, hq⟩ => ⟨φ, B, ρ, S, R, ?_⟩
  rw [hK]
  refine Pg.bind hq fun d1 S1 v1 B1 H1 g R1 hw h1 => ⟨φ, B1, ρ, S1, R1, ?_⟩
  refine Pg.bind h1 fun d2 S2 v2 B2 H2 g2 R2 hw2 h2 => ?_
  split at h2
  · rename_i hk
    simp only [Bool.and_eq_true, Bool.or_eq_true] at hk
    have hw1 := hw.same (g2.bs true)
    obtain ⟨a, dx, fs, rfl, ha⟩ := hp (dv_H R2 hw1) hk.1
    obtain ⟨t, ht, hn⟩ : ∃ t, TyX G.K H2 v2 t ∧ PySem.W.notFirst G.K C t = true := by
      rcases hk.2 with k | k
      · obtain ⟨a2, dx2, fs2, rfl, ha2⟩ := hp (dv_H R2 hw2) k
        exact ⟨_, TyX.base (TyOf.ins ha2 cl oc.ha oc.hn oc.htk oc.hm), by unfold PySem.W.notFirst; simp⟩
      · obtain ⟨T, ms, t1, t2, t3⟩ := base_ty (C := C) (dv_H R2 hw2) k
        exact ⟨_, t1, first_own t2 t3⟩
    refine ⟨a, dx, fs, t, rfl, ha, ht, hn, sp_callN (E := E) R2 (.cons hw1 (.cons hw2 .nil)) ?_ hv0⟩
    refine Pg.bind h2 fun r S3 v B3 H3 g3 R3 hw3 h3 => ?_
    split at h3
    · cases hw3; exact ⟨_, rfl, Pg.ok h3 R3 (.bl _)⟩
    · exact h3.elim
  · exact h2.elim
theorem dt_eqO {neg : Bool} {f : List D → SrcT → Rs D} (hp : InsK G C p) (cl : Cls G.K C) (oc : OwnC G.K C) (h : PT X e (tTest (tOp (rCmpO neg X.K C (spD G f) E') (tD G true O E F1) (tD G true O E F2)))) (hK : X.K = G.K := by rfl) (hv0 : G.v = false := by rfl) : PT X e (tBt G O E (blT (eqOF neg p f F1 F2))) := by
  refine h.mono fun σ H Q ⟨φ, B, ρ, S, R, hq⟩ => ⟨φ, B, ρ, S, R, ?_⟩
  rw [hK]
  have hq := Pg.blT (rel := DV G) hq
  refine Pg.bind hq fun d1 S1 v1 B1 H1 g R1 hw h1 => ⟨φ, B1, ρ, S1, R1, ?_⟩
  refine Pg.bind h1 fun d2 S2 v2 B2 H2 g2 R2 hw2 h2 => ?_
  split at h2
  · rename_i hk
    simp only [Bool.and_eq_true, Bool.or_eq_true] at hk
    have hw1 := hw.same (g2.bs true)
    obtain ⟨a, dx, fs, rfl, ha⟩ := hp (dv_H R2 hw1) hk.1
    obtain ⟨t, ht, hn⟩ : ∃ t, TyX G.K H2 v2 t ∧ PySem.W.notFirst G.K C t = true := by
      rcases hk.2 with k | k
      · obtain ⟨a2, dx2, fs2, rfl, ha2⟩ := hp (dv_H R2 hw2) k
        exact ⟨_, TyX.base (TyOf.ins ha2 cl oc.ha oc.hn oc.htk oc.hm), by unfold PySem.W.notFirst; simp⟩
      · obtain ⟨T, ms, t1, t2, t3⟩ := base_ty (C := C) (dv_H R2 hw2) k
        exact ⟨_, t1, first_own t2 t3⟩
    refine ⟨a, dx, fs, t, rfl, ha, ht, hn, sp_callN (E := E) R2 (.cons hw1 (.cons hw2 .nil)) ?_ hv0⟩
    refine Pg.bind h2 fun r S3 v B3 H3 g3 R3 hw3 h3 => ?_
    split at h3
    · cases hw3; exact ⟨_, rfl, Pg.ok h3 R3 (.bl _)⟩
    · exact h3.elim
  · exact h2.elim
def lenOF (p : D → Bool) (f : List D → SrcT → Rs D) (F : Ex) : Ex := fun ρ S => (F ρ S).bind fun d S1 => if p d = true then (noX (f [d] S1)).bind fun r S2 => match r with
    | .int i => if (decide (0 ≤ i) && okR i) = true then .ok (.int i) S2 else .bad
    | _ => .bad
  else .bad
theorem de_lenO {f : List D → SrcT → Rs D} (hp : InsK G C p) (h : PE X e (tCB (rLenO C (spD G f) E') (tCons (tD G true O E F) tNil))) (hv0 : G.v = false := by rfl) : PE X e (tD G m O E (lenOF p f F)) := by
  refine h.mono fun σ H Q ⟨φ, B, ρ, S, R, hq⟩ => ⟨φ, B, ρ, S, R, ?_⟩
  refine Pg.bind hq fun d S1 w B1 H1 g R1 hw h1 => ?_
  split at h1
  · rename_i hk
    obtain ⟨a, dx, fs, rfl, ha⟩ := hp (dv_H R1 hw) hk
    refine ⟨a, dx, fs, rfl, ha, sp_callN (E := E) R1 (.cons hw .nil) ?_ hv0⟩
    refine Pg.bind h1 fun r S3 v B3 H3 g3 R3 hw3 h3 => ?_
    split at h3
    · split at h3
      · rename_i hi
        unfold okR at hi
        simp only [Bool.and_eq_true, decide_eq_true_eq] at hi
        cases hw3; exact ⟨_, rfl, ⟨hi.1, Int.lt_of_le_of_lt hi.2.2 (by decide)⟩, Pg.ok h3 R3 (.int _)⟩
      · exact h3.elim
    · exact h3.elim
  · exact h1.elim
end
end
end NL
/-! ### enumerate(xs, start=k), xs a list -/
namespace NL
noncomputable section
open PySem L2 PySem.Spec PyProof.Rows
/-- the list at a, each item in a new pair with its number, from k on -/
def IteK (K : PySem.W.Frag) (a : Addr) (k : Int) : It :=
  ⟨fun i H => ∃ (us : List V) (u : V), SqL K H a us ∧ us[i]? = some u, fun i H v H' => ∃ T u, v = .ref T ∧ H T = none ∧ H' = upd H T (.tup [.int (k + (i : Nat)), u]) ∧ ∀ us, SqL K H a us → us[i]? = some u, fun i H => ∃ us : List V, SqL K H a us ∧ us.length = i⟩
theorem turn_enumK {P : Program} {w : World} {K : PySem.W.Frag} {elts : List Expr} {kk : Nat} {tpos : Pos} (k : Int) (a e it : Addr) (hai : a ≠ it) (hae : a ≠ e) :
    Turn P w K (.Tuple elts kk tpos) (IteK K a k) [e, it] e (fun i h => (∃ old, IsEnum h e it (k + (i : Nat)) old) ∧ h.IsListIter it a i ∧ e ≠ it) where
  mem := List.mem_cons_self
  obj := fun i h st b hb => by
    obtain ⟨⟨old, he⟩, ⟨o, ho, hc, hd⟩, _⟩ := st
    have e' : b = e ∨ b = it := by simpa using hb
    rcases e' with rfl | rfl
    · exact ⟨_, he, fun v q => nomatch q⟩
    · exact ⟨o, ho, fun v q => by rw [hd] at q; cases q⟩
  keep := fun i h h' st kp => by
    obtain ⟨⟨old, he⟩, hi, hne⟩ := st
    exact ⟨⟨old, kp e (by simp) _ he⟩, hi.at fun o q => kp it (by simp) o q, hne⟩
  item := by
    intro X hP hw hK hc i pins s σ H E I hf st hg
    subst hP hw hK
    obtain ⟨⟨old, he⟩, hit, hne⟩ := st
    obtain ⟨us, u, hq, hx⟩ := hg
    obtain ⟨its, rv, p, hz⟩ := I.list hq
    obtain ⟨y, hy, ry⟩ := rv.get hx
    have le : e < s.heap.objs.size := Heap.lt_size he
    have li : it < s.heap.objs.size := by obtain ⟨_, q, _⟩ := hit; exact Heap.lt_size q
    have hh : X.A.in1.handled = none := I.ok.hd hc
    have hi : i < its.toArray.size := by have := (List.getElem?_eq_some_iff.mp hy).1; simpa using this
    refine wpAny_pyNext_enum_itemC (Draws.list hh it a hai its.toArray) he ⟨hit, p.isList⟩ hi hne (by simp [hne, Ne.symm hae]) fun x' h' tk hP ho hit' hT hsz hk => ?_
    have hxu : x' = y := by
      have h1 : its.toArray[i]? = some x' := hP
      rw [List.getElem?_toArray, hy] at h1; exact (Option.some.inj h1).symm
    subst hxu
    refine ⟨_, rfl, wpAny_letOwnedTupleGo_enum (s := { s with heap := h', toks := tk + 1 }) ho fun h'' he' sb => ?_⟩
    have hT2 : h''.get? s.heap.objs.size = some { cls := .type "tuple", data := .seq #[.int (k + (i : Nat)) tk, x'] } := (sb.2 _ (Nat.ne_of_gt le)).trans hT
    have nw : ObjOk X.prog X.w (upd H s.heap.objs.size (.tup [.int (k + (i : Nat)), u])) h'' s.heap.objs.size (.tup [.int (k + (i : Nat)), u]) := ⟨by show 2 ≤ sizeLine; decide, [.int (k + (i : Nat)) tk, x'], .cons ⟨_, rfl⟩ (.cons ry .nil), ⟨_, hT2, rfl, _, rfl⟩⟩
    have I1 : Inv X pins σ (upd H s.heap.objs.size (.tup [.int (k + (i : Nat)), u])) { s with heap := h'', toks := tk + 1 } :=
      I.turnedNew (ch := [e, it]) (fun b ob hb q => (sb.2 b (fun z => hb (by simp [z]))).trans (hk b ob (fun z => hb (by simp [z])) (fun z => hb (by simp [z])) q)) hf (Nat.le_refl _) nw
    refine ⟨.ref s.heap.objs.size, _, I1, rfl, ⟨_, u, rfl, I.hok.fresh (Nat.le_refl _), rfl, fun ys hy => by rw [I.list_inj hy hq]; exact hx⟩, ⟨⟨x', ?_⟩, hit'.1.at fun o q => (sb.2 it (Ne.symm hne)).trans q, hne⟩, fun b hb => ?_⟩
    · rw [show k + ((i + 1 : Nat) : Int) = k + (i : Int) + 1 by omega]; exact he'
    · have hb' : b < s.heap.objs.size := by
        have e' : b = e ∨ b = it := by simpa using hb
        rcases e' with z | z
        · rw [z]; exact le
        · rw [z]; exact li
      rw [upd_ne (Nat.ne_of_lt hb')]; exact (hf b hb).1
  done := by
    intro X hP hw hK hc i pins s σ H E I hf st hg
    subst hP hw hK
    obtain ⟨⟨old, he⟩, hit, hne⟩ := st
    obtain ⟨us, hq, hx⟩ := hg
    obtain ⟨its, rv, p, hz⟩ := I.list hq
    obtain ⟨f0, f1, f2, f3, f4, f5⟩ := hf it (by simp)
    have hl : its.toArray.size = i := by rw [List.size_toArray, ← rv.length, hx]
    have hh : X.A.in1.handled = none := I.ok.hd hc
    exact wpAny_pyNext_enum_endD (Draws.list hh it a hai its.toArray) he (by rw [hl]; exact ⟨hit, p.isList⟩) fun h' eb => ⟨rfl, I.turned (t' := s.toks) (fun b o hb q => eb b o hb q) f0 f1 f3 f4 f5⟩
  self := fun A i s Q E st h => let ⟨⟨_, he⟩, _⟩ := st; wpAny_pyIter_enum he h
theorem walk_enumK {K : PySem.W.Frag} {a : Addr} {k : Int} {xs : List V} : Walk (IteK K a k) xs.length (fun H => SqL K H a xs) (YPair (fun i => some (.int (k + (i : Nat)))) (fun i => xs[i]?)) where
  goes := fun i H hi h => ⟨xs, xs[i], h, List.getElem?_eq_getElem hi⟩
  stops := fun H h => ⟨xs, h, rfl⟩
  yields := fun i H x H' hi h ⟨T, y, h1, h2, h3, h4⟩ => ⟨T, _, y, h1, h2, h3, rfl, h4 xs h⟩
section
variable {M : Model} {A : Around} {E : Value → Shared → Prop} {s : Shared} {env : PySem.Env}
theorem callWith_tyKw {pos : Pos} {T : String} {e : Expr} {kws : List Keyword} {Q : Value → Shared → Prop}
    (h : wpAny M A (spliced (backTo pos (starEach [e] env))) (fun vs s1 => wpAny M A (evalAll ((backToKw pos (keywordEach kws env)).map (·.2)))
      (fun kvs s2 => wpAny M A (call (.type T) vs (((backToKw pos (keywordEach kws env)).filterMap (·.1)).zip kvs)) Q E s2) E s1) E s)
    (he : backTo pos (starEach [e] env) = [(false, eval e env)] := by rfl)
    (hplain : (backTo pos (starEach [e] env)).any (·.1) = false := by rfl)
    (hall : (backToKw pos (keywordEach kws env)).all (·.1.isSome) = true := by rfl)
    (hkw : (backToKw pos (keywordEach kws env)).any (·.1.isNone) = false := by rfl) :
    wpAny M A (callWith pos (.type T) [] (backTo pos (starEach [e] env)) (backToKw pos (keywordEach kws env))) Q E s := by
  rw [he] at h hplain ⊢
  unfold callWith
  refine wpAny_bind (wpAny_holding (wpAny_mono (evalArgs_kwB (Q := fun a s2 => wpAny M A (call (.type T) ([] ++ a.pos) a.kw) Q E s2) hall h) (fun a s1 h1 => wpAny_bind (wpAny_standAt ?_)) fun _ _ x => x))
  simp only [hplain, hkw, Bool.or_false]
  refine wpAny_bind (wpAny_pure ?_)
  exact wpAny_bind (wpAny_mono h1 (fun r s2 hr => wpAny_bind (wpAny_holding (wpAny_point (wpAny_pure hr)))) fun _ _ x => x)
end
def iEnumK (K : PySem.W.Frag) (k : Int) (ta : TA) : TI := fun σ H R => ta σ H fun vs H1 => ∃ a xs, vs = [.ref a] ∧ SqL K H1 a xs ∧ R (IteK K a k) H1
theorem pi_enumK {X : Cx} {e : Expr} {ta : TA} {p pos tpos cp kp : Pos} {jj : Nat} {elts : List Expr} {kk : Nat} {k : Int} (hk0 : -(2 ^ 63) ≤ k) (hk1 : k < 2 ^ 63) (hg : Gl X "enumerate") (hm : X.mg "enumerate" = none) (ha : PA X [e] ta) (hs : starEach [e] X.env = [(false, eval e X.env)] := by rfl)
    (hb : backTo pos (starEach [e] X.env) = [(false, eval e X.env)] := by rfl) :
    PI X (.Tuple elts kk tpos) (.Call (.Name "enumerate" p) [e] [⟨some "start", .Constant (.int k) jj cp, kp⟩] pos) (iEnumK X.K k ta) := by
  refine ⟨fun pins s σ H R I h => ?_⟩
  refine wpAny_Call_Name_kw (ld_blt I hg hm boot_enumerate ?_ (by decide) (by decide))
  refine callWith_tyKw (thn (ha.run pos pins s σ H _ I h) fun us s1 ⟨vs, H1, I1, r1, q1⟩ => ?_) hb (by rw [hb]; rfl)
  have hk := (pk_cons (nm := some "start") (kpos := kp) (pe_int (X := X) (i := k) (j := jj) (pos := cp)) pk_nil).run pos pins s1 σ H1 (fun ws H2 => ws = [.int k] ∧ H2 = H1) I1 ⟨rfl, rfl⟩
  refine thn hk fun ws s2 ⟨zs, H2, I2, r2, e1, e2⟩ => ?_
  subst e1 e2
  obtain ⟨a, xs, rfl, hq, q⟩ := q1
  obtain ⟨u, rfl, ru⟩ := vals1 r1
  obtain ⟨y, rfl, ry⟩ := vals1 r2
  cases ru
  obtain ⟨t, rfl⟩ := ry
  obtain ⟨its, rv, p', hz⟩ := I2.list hq
  obtain ⟨o1, ho1, _⟩ := id p'.isList
  have hal := Heap.lt_size ho1
  show wpAny _ _ (call (.type "enumerate") [.ref a] [(Str.ofString "start", .int k t)]) _ _ s2
  refine enum_begins_start (begins_list a its.toArray) p'.isList hk0 hk1 fun h' he hit hsz hk => wpAny_pyIter_enum he ?_
  have I3 : Inv X pins σ H2 { s2 with heap := h' } := I2.kept (t' := s2.toks) hk
  refine ⟨s2.heap.objs.size + 1, [s2.heap.objs.size + 1, s2.heap.objs.size], _, _, H2, rfl, I3, turn_enumK k a (s2.heap.objs.size + 1) s2.heap.objs.size (Nat.ne_of_lt hal) (Nat.ne_of_lt (Nat.lt_succ_of_lt hal)), ⟨⟨.none, by rw [show k + ((0 : Nat) : Int) = k by omega]; exact he⟩, ⟨_, hit, rfl, rfl⟩, Nat.succ_ne_self _⟩, fun b hb => ?_, q⟩
  have e' : b = s2.heap.objs.size + 1 ∨ b = s2.heap.objs.size := by simpa using hb
  have hle : s2.heap.objs.size ≤ b := by
    rcases e' with z | z
    · rw [z]; exact Nat.le_add_right _ _
    · rw [z]; exact Nat.le_refl _
  exact I2.fpOk hle (I2.hok.fresh hle)
/-! data -/
def enumKD (k : Int) (ds : List D) : List D := (List.range ds.length).zipWith (fun (i : Nat) d => D.tup [.int (k + (i : Int)), d]) ds
theorem enumKD_get {k : Int} {ds : List D} {i : Nat} {d : D} (h : ds[i]? = some d) : (enumKD k ds)[i]? = some (.tup [.int (k + (i : Int)), d]) := by
  have hi : i < ds.length := (List.getElem?_eq_some_iff.mp h).1
  unfold enumKD
  rw [List.getElem?_zipWith, List.getElem?_range hi, h]
theorem enumKD_len (k : Int) (ds : List D) : (enumKD k ds).length = ds.length := by unfold enumKD; simp
def enumKF (k : Int) (Fs : Exs) : Exs := fun ρ S => (Fs ρ S).bind fun ds S1 => match ds with
  | [.lst ds] => .ok (enumKD k ds) S1
  | _ => .bad
section
variable {X : Cx} {G : Gm} {O : List Nat} {E : XK} {e tg : Expr} {Fs : Exs}
theorem di_enumK {k : Int} (h : PI X tg e (iEnumK X.K k (tDs G false O E Fs))) (hK : X.K = G.K := by rfl) : PI X tg e (tI G O E (enumKF k Fs)) := by
  refine h.mono fun σ H R' ⟨φ, B, ρ, S, R, hp⟩ => ⟨φ, B, ρ, S, R, ?_⟩
  rw [hK]
  refine Pg.bind hp fun d S1 w B1 H1 g1 R1 hw h1 => ?_
  split at h1
  · cases hw with | cons k1 k2 =>
    cases k2; cases k1 with | lst ha hs =>
    have ha : B1 _ = some _ := ha
    have hs : DVs G φ.p B1 _ _ := hs
    refine ⟨_, _, rfl, SqL.of (R1.sub _ _ ha), Pg.ok h1 R1 ⟨fun H2 => SqL G.K H2 _ _, fun H2 s2 => SqL.of (s2 _ _ ha), ?_⟩⟩
    rw [enumKD_len, ← hs.len]
    refine walk_enumK.mono (fun _ h => h) fun i H3 x H4 hi _ y => ?_
    obtain ⟨d, hd⟩ : ∃ d, (_ : List D)[i]? = some d := ⟨_, List.getElem?_eq_getElem (hs.len ▸ hi)⟩
    refine pair_YD (enumKD_get hd) (fun v hv => ?_) (fun v hv => ?_) y
    · cases hv; exact .int _
    · obtain ⟨d', k1, k2⟩ := hs.getV hv
      rw [hd] at k1; cases k1; exact k2
  · exact h1.elim
end
end
end NL
/-! ### the data layer: texts cut, classmethods -/
namespace NL
noncomputable section
open PySem L2 ClX
def splitF (F1 F2 : Ex) : Ex := fun ρ S => (F1 ρ S).bind fun d1 S1 => match d1 with
  | .str a => (F2 ρ S1).bind fun d2 S2 => match d2 with
    | .str b => if (!(b.length == 0) && decide (a.length ≤ 100000)) = true then .ok (.lst ((Txt.split a b).map D.str)) S2 else .bad
    | _ => .bad
  | _ => .bad
def partF (F1 F2 : Ex) : Ex := fun ρ S => (F1 ρ S).bind fun d1 S1 => match d1 with
  | .str a => (F2 ρ S1).bind fun d2 S2 => match d2 with
    | .str b => if (!(b.length == 0) && decide (a.length ≤ 100000)) = true then .ok (.tup [.str (Txt.partition a b).1, .str (Txt.partition a b).2.1, .str (Txt.partition a b).2.2]) S2 else .bad
    | _ => .bad
  | _ => .bad
section
variable {X : Cx} {G : Gm} {m m' : Bool} {O O' Ol : List Nat} {E : XK} {e tg : Expr} {es : List Expr} {F F1 F2 : Ex} {Fs : Exs}
theorem de_splitN (h : PE X e (tM1 (fun x xs H Q => ∃ a b, x = .str a ∧ xs = [.str b] ∧ (b.length == 0) = false ∧ a.length + 2 ≤ sizeLine ∧ rNewStrs (Txt.split a b) H Q) (tD G true O E F1) (tD G true O E F2))) : PE X e (tN G m O E (splitF F1 F2)) := by
  refine h.mono fun σ H Q ⟨φ, B, ρ, S, R, hp⟩ => ⟨φ, B, ρ, S, R, ?_⟩
  refine PgN.bind hp fun d1 S1 v1 B1 H1 g R1 hw h1 => ?_
  split at h1
  · cases hw
    refine ⟨⟨_, rfl⟩, φ, B1, ρ, S1, R1, ?_⟩
    refine PgN.bind h1 fun d2 S2 v2 B2 H2 g2 R2 hw2 h2 => ?_
    split at h2
    · cases hw2
      split at h2
      · rename_i hc
        simp only [Bool.and_eq_true, Bool.not_eq_true', decide_eq_true_eq] at hc
        refine ⟨_, _, rfl, rfl, hc.1, by have := sz100k hc.2; unfold sizeLine at *; omega, fun a na => ?_⟩
        obtain ⟨R', g', n'⟩ := R2.newO (m := m) (o := .lst _) (d := .lst _) na (dvs_strs _)
        exact h2 a _ B2 _ g' R' n' na
      · exact h2.elim
    · exact h2.elim
  · exact h1.elim
theorem de_part (h : PE X e (tM1 (fun x xs H Q => ∃ a b, x = .str a ∧ xs = [.str b] ∧ (b.length == 0) = false ∧ a.length ≤ sizeLine ∧ ∀ p, H p = none → Q (.ref p) (upd H p (.tup [.str (Txt.partition a b).1, .str (Txt.partition a b).2.1, .str (Txt.partition a b).2.2]))) (tD G true O E F1) (tD G true O E F2))) : PE X e (tD G m O E (partF F1 F2)) := by
  refine h.mono fun σ H Q ⟨φ, B, ρ, S, R, hp⟩ => ⟨φ, B, ρ, S, R, ?_⟩
  refine Pg.bind hp fun d1 S1 v1 B1 H1 g R1 hw h1 => ?_
  split at h1
  · cases hw
    refine ⟨⟨_, rfl⟩, φ, B1, ρ, S1, R1, ?_⟩
    refine Pg.bind h1 fun d2 S2 v2 B2 H2 g2 R2 hw2 h2 => ?_
    split at h2
    · cases hw2
      split at h2
      · rename_i hc
        simp only [Bool.and_eq_true, Bool.not_eq_true', decide_eq_true_eq] at hc
        refine ⟨_, _, rfl, rfl, hc.1, sz100k hc.2, fun a na => ?_⟩
        obtain ⟨R', g', np⟩ := R2.new na
        exact (Pg.go g' h2).ok R' (.tup (SqT.of (bs_new m np)) (.cons (.str _) (.cons (.str _) (.cons (.str _) .nil))))
      · exact h2.elim
    · exact h2.elim
  · exact h1.elim
/-! what the old layer promised -/
theorem Rep.more {φ : Fr} {σ : L2.St} {B H H' : Hp} {ρ : Env} {S : SrcT} (R : Rep G φ O σ B H ρ S) (sm : Same H H') : Go φ B H B H' ∧ Rep G φ O σ B H' ρ S := by
  have gd : ∀ a, H' a = none → H a = none := fun a h => by
    cases k : H a with
    | none => rfl
    | some x => rw [sm a x k] at h; cases h
  refine ⟨⟨Same.refl _, fun _ c x h => ?_, fun a o h _ => .inl h, gd⟩, ⟨R.sub.trans sm, fun a o hp hm h => sm _ _ (R.fr a o hp hm h), R.cl, fun q hq => ⟨(R.src q hq).1, sm _ _ (R.src q hq).2.1, (R.src q hq).2.2⟩, R.b0, R.len, R.val, fun i hi => ?_, R.dis, fun a h => R.al a (gd a h), fun hv b c hc => ?_, R.vv, R.nov⟩⟩
  · unfold hideP at h ⊢
    split at h
    · cases h
    · rename_i e
      rw [if_neg e]; exact sm _ _ h
  · obtain ⟨a, o, d, h1, h2, h3, h4, h5, h6, h7⟩ := R.own i hi
    exact ⟨a, o, d, h1, h2, sm _ _ h3, h4, h5, h6, h7⟩
  · obtain ⟨h1, h2, h3, h4⟩ := R.mem hv b c hc
    exact ⟨h1.move (Same.refl _) fun o h => sm _ _ h, h2, h3, h4⟩
theorem Rep.found {φ : Fr} {σ : L2.St} {B H H' : Hp} {ρ : Env} {S : SrcT} (R : Rep G φ O σ B H ρ S) {a : Addr} {o : HO} {d : D} (n : H a = none) (h : H' a = some o) (hd : DO G φ.p (bs m φ B H') o d) : New G φ O σ m B H' S a o d := by
  have np : φ.p ≠ some a := fun e => by have := (R.src a e).2.1; rw [n] at this; cases this
  refine ⟨h, ?_, R.al a n, np, fun i hi => ?_, hd, fun hv => ?_⟩
  · cases k : B a with
    | none => rfl
    | some x => rw [R.sub _ _ k] at n; cases n
  · obtain ⟨b, o', d', k1, k2, k3, k4, k5, k6, k7⟩ := R.own i hi
    rw [k2]
    intro q
    have e := V.ref.inj (Option.some.inj (Option.some.inj q))
    rw [e, n] at k3; cases k3
  · cases hc : S.m a with
    | none => rfl
    | some c =>
      obtain ⟨x, hx, _⟩ := (R.mem hv a c hc).1.some
      rw [n] at hx; cases hx
def spStates (K : PySem.W.Frag) : Sp := fun vs H Q _ => ∃ (a : Addr) (rs : List Rule), vs = [.ref a] ∧ RulesAt K H a rs ∧ rs.length ≤ 1000 ∧ ∀ (H' : Hp) (p : Addr), Same H H' → H p = none → H' p = some (.lst ((statesR rs).map V.str)) → Q (.ref p) H'
def spName : Sp := fun vs H Q _ => ∃ z : Str, vs = [.str z] ∧ z.length ≤ 10000 ∧ ∀ H', Same H H' → Q (.bl (isNameB z)) H'
def spInvalid (K : PySem.W.Frag) : Sp := fun vs H Q _ => ∃ (a : Addr) (rs : List Rule), vs = [.ref a] ∧ RulesAt K H a rs ∧ wfRules rs ∧ (∀ r ∈ rs, r.gs.length ≤ 100) ∧ ∀ H', Same H H' → Q (.int 0) H'
def f_states_of : List D → SrcT → Rs D := fun ds S => match ds with
  | [.lst rds] => match rulesD rds with
    | some rs => if rs.length ≤ 1000 then .ok (.lst ((statesR rs).map D.str)) S else .bad
    | none => .bad
  | _ => .bad
def f_is_name : List D → SrcT → Rs D := fun ds S => match ds with
  | [.str z] => if z.length ≤ 10000 then .ok (.bl (isNameB z)) S else .bad
  | _ => .bad
open Classical in
noncomputable def f_invalid_rule : List D → SrcT → Rs D := fun ds S => match ds with
  | [.lst rds] => match rulesD rds with
    | some rs => if wfRules rs ∧ ∀ r ∈ rs, r.gs.length ≤ 100 then .ok (.int 0) S else .bad
    | none => .bad
  | _ => .bad
theorem de_statesN {E' : XK} (h : PE X e (tCall (spStates G.K) [] E' (tDs G true O E Fs))) : PE X e (tN G m O E (callF f_states_of Fs)) := by
  refine h.mono fun σ H Q ⟨φ, B, ρ, S, R, hp⟩ => ⟨φ, B, ρ, S, R, ?_⟩
  refine PgN.bind hp fun ds S1 vs B1 H1 g R1 hw h1 => ?_
  rw [List.append_nil]
  unfold f_states_of at h1
  split at h1
  · split at h1
    · rename_i rds rs hr
      split at h1
      · rename_i hl
        have hw := dvs_H R1 hw
        cases hw with | cons w1 w2 =>
        cases w2
        cases w1 with | lst ha hs =>
        refine ⟨_, rs, rfl, ⟨_, .inl (SqL.of ha), rulesAt_of hs hr⟩, hl, fun H' p sm np hH => ?_⟩
        obtain ⟨g2, R2⟩ := R1.more sm
        exact h1 p _ B1 H' g2 R2 (R1.found np hH (dvs_strs _)) np
      · exact h1.elim
    · exact h1.elim
  · exact h1.elim
theorem de_isName {E' : XK} (h : PE X e (tCall spName [] E' (tDs G true O E Fs))) : PE X e (tD G m O E (callF f_is_name Fs)) := by
  refine h.mono fun σ H Q ⟨φ, B, ρ, S, R, hp⟩ => ⟨φ, B, ρ, S, R, ?_⟩
  refine Pg.bind hp fun ds S1 vs B1 H1 g R1 hw h1 => ?_
  rw [List.append_nil]
  unfold f_is_name at h1
  split at h1
  · split at h1
    · rename_i hl
      cases hw with | cons w1 w2 =>
      cases w2; cases w1
      refine ⟨_, rfl, hl, fun H' sm => ?_⟩
      obtain ⟨g2, R2⟩ := R1.more sm
      exact (Pg.go g2 h1).ok R2 (.bl _)
    · exact h1.elim
  · exact h1.elim
theorem de_invalid {E' : XK} (h : PE X e (tCall (spInvalid G.K) [] E' (tDs G true O E Fs))) : PE X e (tD G m O E (callF f_invalid_rule Fs)) := by
  refine h.mono fun σ H Q ⟨φ, B, ρ, S, R, hp⟩ => ⟨φ, B, ρ, S, R, ?_⟩
  refine Pg.bind hp fun ds S1 vs B1 H1 g R1 hw h1 => ?_
  rw [List.append_nil]
  unfold f_invalid_rule at h1
  split at h1
  · split at h1
    · rename_i rds rs hr
      split at h1
      · rename_i hl
        have hw := dvs_H R1 hw
        cases hw with | cons w1 w2 =>
        cases w2
        cases w1 with | lst ha hs =>
        refine ⟨_, rs, rfl, ⟨_, .inl (SqL.of ha), rulesAt_of hs hr⟩, hl.1, hl.2, fun H' sm => ?_⟩
        obtain ⟨g2, R2⟩ := R1.more sm
        exact (Pg.go g2 h1).ok R2 (.int _)
      · exact h1.elim
    · exact h1.elim
  · exact h1.elim
/-! the class's own call, C.m(..) and cls(..) -/
def callC (f : List D → SrcT → Rs D) (Fs : Exs) : Ex := fun ρ S => (Fs ρ S).bind fun ds S1 => f (.cls :: ds) S1
theorem de_cmeth {f : List D → SrcT → Rs D} (h : PE X e (tCMeth G.cl (fun vs H Q E => spD G f (vs ++ []) H Q E) E (tC (.ref G.cl)) (tDs G false O E Fs))) (hv0 : G.v = false := by rfl) : PE X e (tD G false O E (callC f Fs)) := by
  refine h.mono fun σ H Q ⟨φ, B, ρ, S, R, hp⟩ => ⟨rfl, φ, B, ρ, S, R, ?_⟩
  refine Pg.bind hp fun ds S1 vs B1 H1 g R1 hw h1 => ?_
  show spD G f (V.ref G.cl :: vs ++ []) H1 Q E
  rw [List.append_nil]
  exact sp_call R1 (.cons .cls hw) h1 hv0
def callL (F0 : Ex) (f : List D → SrcT → Rs D) (Fs : Exs) : Ex := fun ρ S => (F0 ρ S).bind fun d S1 => match d with
  | .cls => (Fs ρ S1).bind f
  | _ => .bad
theorem pe_makeL {CX : CXT} {k : Nat} {f C : Addr} {fd : FuncData} {ps : List Str} {sp : Sp} {ds : List Value} {dvs : List V} {x : Str} {p pos : Pos} {to : TE} {t : TA} (M : Mk X.K C f) (Fo : FnOk X.prog X.w X.K X.mg X.base CX k f fd ps sp) (hr : Room (k + 1) X.A) (ho : PE X (.Name x p) to) (hb : Binds X.K fd ps ds) (hd : Vals dvs ds) (hx : Passes CX X E)
    (ha : PA X (e :: es) t) (he : starEach (e :: es) X.env = (false, eval e X.env) :: starEach es X.env := by rfl) (hpl : (backTo pos (starEach es X.env)).any (·.1) = false := by rfl) :
    PE X (.Call (.Name x p) (e :: es) [] pos) (fun σ H Q => to σ H fun v H1 => v = .ref C ∧ tMake C sp dvs E t σ H1 Q) := by
  refine ⟨fun pins s σ H Q I h => ?_⟩
  refine wpAny_Call_Name_kw (thn (ho.run pins s σ H _ I h) fun u s1 ⟨y, H1, I1, ry, ey, q⟩ => ?_)
  subst ey
  obtain rfl : u = Value.ref C := ry
  refine PySem.W.callWith_K (h₀ := X.base) I1.ok.mod.kin M.kp (thn (ha.run pos pins s1 σ H1 _ I1 q) fun us s2 ⟨vs, H2, I2, r, q2⟩ => ⟨I2.kIn, ?_⟩) he hpl
  exact run_make M Fo hr hb hd hx I2 r q2
theorem de_LoopL {F0 : Ex} (h : PE X e (fun σ H Q => tD G true O E F0 σ H fun v H1 => v = .ref G.cl ∧ tMake G.cl (spLoopInit G.K G.cl) [] E (tDs G false O E Fs) σ H1 Q)) (hv0 : G.v = false := by rfl) : PE X e (tD G false O E (callL F0 f_Loop Fs)) := by
  refine h.mono fun σ H Q ⟨φ, B, ρ, S, R, hp⟩ => ⟨φ, B, ρ, S, R, ?_⟩
  refine Pg.bind hp fun d S0 v B0 H0 g0 R0 hv h0 => ?_
  split at h0
  · cases hv
    refine ⟨rfl, φ, B0, ρ, S0, R0, ?_⟩
    refine Pg.bind h0 fun ds S1 vs B1 H1 g1 R1 hw h1 => fun x dx nx ndx ne => ?_
    rw [List.append_nil]
    exact make_imp R1 hw h1 x dx nx ndx ne hv0
  · exact h0.elim
/-! a dict and {} -/
def rEqE (neg : Bool) : R2 := fun x y H Q => ∃ a b ks, x = .ref a ∧ y = .ref b ∧ H a = some (.dK ks) ∧ H b = some (.dK []) ∧ Q (.bl (if neg then !ks.isEmpty else ks.isEmpty)) H
theorem op_eqE (hu : X.A.units < cLine) : OpR X (compareOp .Eq) (rEqE false) := by
  intro pins s σ H x y v u Q I rx ry h
  obtain ⟨a, b, ks, rfl, rfl, ea, eb, q⟩ := h
  cases ks with
  | nil => exact op_eq_dictA hu pins s σ H _ _ v u Q I rx ry ⟨a, b, [], [], rfl, rfl, ea, eb, rfl, fun p hp => (nomatch hp), q⟩
  | cons k ks =>
    obtain rfl : v = Value.ref a := rx
    obtain rfl : u = Value.ref b := ry
    obtain ⟨_, ya, va, ra, da⟩ := (show ObjOk X.prog X.w H s.heap a (.dK (k :: ks)) from I.hok a _ ea)
    obtain ⟨_, yb, vb, rb, db⟩ := (show ObjOk X.prog X.w H s.heap b (.dK []) from I.hok b _ eb)
    have hl : va.length ≠ vb.length := by rw [← ra.length, ← rb.length]; simp
    exact PySem.W.keq_eq (knd := mixKind X.prog X.w) (r := true) ya yb da db hu (fun e => absurd e hl) (fin_bl I q (by simp [hl]))
theorem op_neE (hu : X.A.units < cLine) : OpR X (compareOp .NotEq) (rEqE true) := by
  intro pins s σ H x y v u Q I rx ry h
  obtain ⟨a, b, ks, rfl, rfl, ea, eb, q⟩ := h
  cases ks with
  | nil => exact op_ne_dictA hu pins s σ H _ _ v u Q I rx ry ⟨a, b, [], [], rfl, rfl, ea, eb, rfl, fun p hp => (nomatch hp), q⟩
  | cons k ks =>
    obtain rfl : v = Value.ref a := rx
    obtain rfl : u = Value.ref b := ry
    obtain ⟨_, ya, va, ra, da⟩ := (show ObjOk X.prog X.w H s.heap a (.dK (k :: ks)) from I.hok a _ ea)
    obtain ⟨_, yb, vb, rb, db⟩ := (show ObjOk X.prog X.w H s.heap b (.dK []) from I.hok b _ eb)
    have hl : va.length ≠ vb.length := by rw [← ra.length, ← rb.length]; simp
    exact PySem.W.keq_ne (knd := mixKind X.prog X.w) (r := true) ya yb da db hu (fun e => absurd e hl) (fin_bl I q (by simp [hl]))
def eqED (neg : Bool) : D → D → Option D
  | .dct es, .dct [] => some (.bl (if neg then !es.isEmpty else es.isEmpty))
  | _, _ => none
theorem bin_eqE {neg : Bool} : Bin2 G true m' (rEqE neg) (eqED neg) := by
  intro φ O σ B H ρ S v1 v2 d1 d2 d Q R h1 h2 e q
  have h1 := dv_H R h1
  have h2 := dv_H R h2
  unfold eqED at e
  split at e
  · cases e
    cases h1 with | dct ha hk hs =>
    cases h2 with | dct hb hk2 hs2 =>
    rename_i es a1 ks1 a2 ks2
    have e2 : ks2 = [] := List.map_eq_nil_iff.mp hk2
    subst e2
    have e3 : ks1.isEmpty = es.isEmpty := by
      cases es with
      | nil => rw [List.map_eq_nil_iff.mp hk]; rfl
      | cons x es => cases ks1 with
        | nil => simp at hk
        | cons y ks1 => rfl
    exact ⟨_, _, _, rfl, rfl, ha, hb, by rw [e3]; exact q _ _ _ Go.refl R (.bl _)⟩
  · cases e
/-! a sign in a text -/
def inSD (neg : Bool) : D → D → Option D
  | .str a, .str z => match a.cps.toList with
    | [c] => some (.bl (if neg then !decide (c ∈ z.cps.toList) else decide (c ∈ z.cps.toList)))
    | _ => none
  | _, _ => none
theorem one_sign {a : Str} {c : Nat} (h : a.cps.toList = [c]) : a = ⟨#[c]⟩ := Str.ext' (Array.toList_inj.mp (by rw [h]))
theorem bin_inS : Bin2 G true m' (fun x y H Q => ∃ (c : Nat) (z : Str), x = .str ⟨#[c]⟩ ∧ y = .str z ∧ Q (.bl (decide (c ∈ z.cps.toList))) H) (inSD false) := by
  intro φ O σ B H ρ S v1 v2 d1 d2 d Q R h1 h2 e q
  unfold inSD at e
  split at e
  · split at e
    · rename_i hc
      cases h1; cases h2; cases e
      exact ⟨_, _, by rw [one_sign hc], rfl, q _ _ _ Go.refl R (.bl _)⟩
    · cases e
  · cases e
theorem bin_notInS : Bin2 G true m' (fun x y H Q => ∃ (c : Nat) (z : Str), x = .str ⟨#[c]⟩ ∧ y = .str z ∧ Q (.bl (!decide (c ∈ z.cps.toList))) H) (inSD true) := by
  intro φ O σ B H ρ S v1 v2 d1 d2 d Q R h1 h2 e q
  unfold inSD at e
  split at e
  · split at e
    · rename_i hc
      cases h1; cases h2; cases e
      exact ⟨_, _, by rw [one_sign hc], rfl, q _ _ _ Go.refl R (.bl _)⟩
    · cases e
  · cases e
end
end
end NL
/-! ### what a plain function of the data layer gives -/
namespace NL
noncomputable section
open PySem L2
section
variable {α β : Type} {P : α → SrcT → Prop} {Q : β → SrcT → Prop} {S : SrcT}
theorem sat_ok {a : α} : (Rs.ok a S).sat P ↔ P a S := Iff.rfl
theorem sat_bind {r : Rs β} {k : β → SrcT → Rs α} : (r.bind k).sat P ↔ r.sat fun b S => (k b S).sat P := by
  induction r with
  | all p f ih => exact ⟨fun h x px => (ih x).mp (h x px), fun h x px => (ih x).mpr (h x px)⟩
  | _ => exact Iff.rfl
theorem Rs.sat.mono {r : Rs α} {P' : α → SrcT → Prop} (h : r.sat P) (hp : ∀ a S, P a S → P' a S) : r.sat P' := by
  induction r with
  | ok a S => exact hp a S h
  | bad => exact h
  | exc _ _ _ => exact h
  | all p f ih => exact fun x px => ih x (h x px)
theorem bind_ok {a : β} {k : β → SrcT → Rs α} : (Rs.ok a S).bind k = k a S := rfl
theorem bind_bad {k : β → SrcT → Rs α} : (Rs.bad).bind k = .bad := rfl
end
theorem draw_sat {P : D → SrcT → Prop} {S : SrcT} {m : Int} (h0 : 0 < m) (h1 : m < 1000000) (hc : S.c ≤ 990000) (h : ∀ r S', 0 ≤ r → r < m → S'.c = S.c + 1 → P (.int r) S') : (f__law_draw [.src, .int m] S).sat P := by
  obtain ⟨r, S', e, r0, r1, c1⟩ := draw_ok h0 h1 hc
  rw [e]; exact h r S' r0 r1 c1
theorem optF_some {d : D} {S : SrcT} : optF (some d) S = .ok d S := rfl
theorem optF_none {S : SrcT} : optF none S = .bad := rfl
theorem atI_ex {α : Type} {xs : List α} {r : Int} (h0 : 0 ≤ r) (h1 : r < (xs.length : Int)) : ∃ v, atI xs r = some v ∧ v ∈ xs := atI_mem h0 h1
/-! a list is walked -/
theorem for_sat {g : Tgt} {A : Sx} {P : Fl × Env → SrcT → Prop} (I : Nat → Env → SrcT → Prop) {ds : List D}
    (hs : ∀ i d ρ S, ds[i]? = some d → I i ρ S → ∃ ρ1, g d ρ = some ρ1 ∧ (A ρ1 S).sat fun r S' => match r with
      | (.nx, ρ2) => I (i + 1) ρ2 S'
      | (.cont, ρ2) => I (i + 1) ρ2 S'
      | (.brk, ρ2) => P (.nx, ρ2) S'
      | (.ret d, ρ2) => P (.ret d, ρ2) S')
    (he : ∀ ρ S, I ds.length ρ S → P (.nx, ρ) S) {ρ : Env} {S : SrcT} (h0 : I 0 ρ S) : (forGo g A ds ρ S).sat P := by
  have key : ∀ (n i : Nat) (ρ : Env) (S : SrcT), i + n = ds.length → I i ρ S → (forGo g A (ds.drop i) ρ S).sat P := by
    intro n
    induction n with
    | zero =>
      intro i ρ S hi h
      rw [List.drop_eq_nil_of_le (by omega)]
      have : i = ds.length := by omega
      subst this
      exact he ρ S h
    | succ n ih =>
      intro i ρ S hi h
      have hlt : i < ds.length := by omega
      rw [List.drop_eq_getElem_cons hlt, forGo]
      obtain ⟨ρ1, e1, h1⟩ := hs i ds[i] ρ S (List.getElem?_eq_getElem hlt) h
      rw [e1]
      dsimp only
      rw [sat_bind]
      refine h1.mono fun r S' hr => ?_
      match r, hr with
      | (.nx, ρ2), hr => exact ih (i + 1) ρ2 S' (by omega) hr
      | (.cont, ρ2), hr => exact ih (i + 1) ρ2 S' (by omega) hr
      | (.brk, ρ2), hr => exact hr
      | (.ret d, ρ2), hr => exact hr
  simpa using key ds.length 0 ρ S (by omega) h0
/-- a comprehension without a test -/
theorem lc_sat {g : Tgt} {c : Tst} {Fe : Ex} {ρ : Env} {P : List D → SrcT → Prop} (I : Nat → List D → SrcT → Prop) {ds : List D}
    (hs : ∀ i d acc S, ds[i]? = some d → I i acc S → ∃ ρ1, g d ρ = some ρ1 ∧ (c ρ1 S).sat fun b S1 => if b = true then (Fe ρ1 S1).sat fun y S2 => I (i + 1) (acc ++ [y]) S2 else I (i + 1) acc S1)
    (he : ∀ acc S, I ds.length acc S → P acc S) {S : SrcT} (h0 : I 0 [] S) : (lcGo g c Fe ρ ds S).sat P := by
  have key : ∀ (n i : Nat) (acc : List D) (S : SrcT), i + n = ds.length → I i acc S → (lcGo g c Fe ρ (ds.drop i) S).sat fun ys S' => P (acc ++ ys) S' := by
    intro n
    induction n with
    | zero =>
      intro i acc S hi h
      rw [List.drop_eq_nil_of_le (by omega)]
      have : i = ds.length := by omega
      subst this
      show P (acc ++ []) S
      rw [List.append_nil]; exact he acc S h
    | succ n ih =>
      intro i acc S hi h
      have hlt : i < ds.length := by omega
      rw [List.drop_eq_getElem_cons hlt, lcGo]
      obtain ⟨ρ1, e1, h1⟩ := hs i ds[i] acc S (List.getElem?_eq_getElem hlt) h
      rw [e1]
      dsimp only
      rw [sat_bind]
      refine h1.mono fun b S1 hb => ?_
      cases b with
      | false => exact ih (i + 1) acc S1 (by omega) hb
      | true =>
        simp only [if_true] at hb ⊢
        rw [sat_bind]
        refine hb.mono fun y S2 hy => ?_
        rw [sat_bind]
        refine (ih (i + 1) (acc ++ [y]) S2 (by omega) hy).mono fun ys S3 hq => ?_
        show P (acc ++ y :: ys) S3
        simpa using hq
  simpa using key ds.length 0 [] S (by omega) h0
/-! one step -/
section
variable {ρ : Env} {S : SrcT} {F F1 F2 F3 : Ex} {Fs : Exs} {L U : Exo} {A A1 A2 : Sx} {c c1 c2 : Tst} {i j n N : Nat} {P : D → SrcT → Prop} {Ps : List D → SrcT → Prop} {PS : Fl × Env → SrcT → Prop} {Pb : Bool → SrcT → Prop}
theorem fnF_sat {ds : List D} (hl : ds.length = n) (h : (A (ds.map some ++ List.replicate (N - n) none) S).sat fun r S' => match r with
  | (.ret d, _) => P d S'
  | (.nx, _) => P .non S'
  | _ => False) : (fnF n N A ds S).sat P := by
  unfold fnF
  rw [if_pos hl, sat_bind]
  refine h.mono fun r S' hr => ?_
  match r, hr with
  | (.ret d, _), hr => exact hr
  | (.nx, _), hr => exact hr
theorem seqS_sat (h : (A1 ρ S).sat fun r S1 => match r with
  | (.nx, ρ1) => (A2 ρ1 S1).sat PS
  | r => PS r S1) : (seqS A1 A2 ρ S).sat PS := by
  unfold seqS
  rw [sat_bind]
  refine h.mono fun r S' hr => ?_
  match r, hr with
  | (.ret d, _), hr => exact hr
  | (.nx, _), hr => exact hr
  | (.brk, _), hr => exact hr
  | (.cont, _), hr => exact hr
theorem nilS_sat (h : PS (.nx, ρ) S) : (nilS ρ S).sat PS := h
theorem brkS_sat (h : PS (.brk, ρ) S) : (brkS ρ S).sat PS := h
theorem contS_sat (h : PS (.cont, ρ) S) : (contS ρ S).sat PS := h
theorem setS_sat (h : (F ρ S).sat fun d S1 => PS (.nx, ρ.set i (some d)) S1) : (setS i F ρ S).sat PS := by unfold setS; rw [sat_bind]; exact h
theorem setN_sat (hi : i < ρ.length) (h : (F ρ S).sat fun d S1 => PS (.nx, ρ.set i (some d)) S1) : (setN i F ρ S).sat PS := by
  unfold setN; rw [sat_bind]
  refine h.mono fun d S1 hd => ?_
  rw [if_pos hi]; exact hd
theorem retS_sat (h : (F ρ S).sat fun d S1 => PS (.ret d, ρ) S1) : (retS F ρ S).sat PS := by unfold retS; rw [sat_bind]; exact h
theorem exprS_sat (h : (F ρ S).sat fun _ S1 => PS (.nx, ρ) S1) : (exprS F ρ S).sat PS := by unfold exprS; rw [sat_bind]; exact h
theorem asgS_sat {g : Tgt} (h : (F ρ S).sat fun d S1 => ∃ ρ', g d ρ = some ρ' ∧ PS (.nx, ρ') S1) : (asgS F g ρ S).sat PS := by
  unfold asgS; rw [sat_bind]
  refine h.mono fun d S1 ⟨ρ', e, hd⟩ => ?_
  rw [e]; exact hd
theorem parS_sat (h : (Fs ρ S).sat fun ds S1 => ∃ a b, ds = [a, b] ∧ PS (.nx, (ρ.set i (some a)).set j (some b)) S1) : (parS i j Fs ρ S).sat PS := by
  unfold parS; rw [sat_bind]
  refine h.mono fun ds S1 ⟨a, b, e, hd⟩ => ?_
  subst e; exact hd
theorem iteS_sat (h : (c ρ S).sat fun b S1 => if b = true then (A1 ρ S1).sat PS else (A2 ρ S1).sat PS) : (iteS c A1 A2 ρ S).sat PS := by
  unfold iteS; rw [sat_bind]
  refine h.mono fun b S1 hb => ?_
  cases b with
  | true => exact hb
  | false => exact hb
theorem appS_sat {ds : List D} (hi : ρ[i]? = some (some (.lst ds))) (hl : ds.length < 100000) (h : (F ρ S).sat fun d S1 => PS (.nx, ρ.set i (some (.lst (ds ++ [d])))) S1) : (appS i F ρ S).sat PS := by
  unfold appS; rw [hi]; dsimp only; rw [sat_bind]
  refine h.mono fun d S1 hd => ?_
  rw [if_pos hl]; exact hd
theorem insS_sat {ds : List D} (hi : ρ[i]? = some (some (.lst ds))) (hl : ds.length < 100000) (h : (Fs ρ S).sat fun as S1 => ∃ k d, as = [.int k, d] ∧ 0 ≤ k ∧ k ≤ 1000000 ∧ PS (.nx, ρ.set i (some (.lst (ds.take k.toNat ++ [d] ++ ds.drop k.toNat)))) S1) : (insS i Fs ρ S).sat PS := by
  unfold insS; rw [hi]; dsimp only; rw [sat_bind]
  refine h.mono fun as S1 ⟨k, d, e, h0, h1, hd⟩ => ?_
  subst e
  dsimp only
  rw [if_pos ⟨hl, h0, h1⟩]; exact hd
theorem putS_sat {es : List (Key × D)} (hi : ρ[i]? = some (some (.dct es))) (hl : es.length < 100000) (h : (F2 ρ S).sat fun v S1 => (F1 ρ S1).sat fun k S2 => ∃ kk, keyD k = some kk ∧ PS (.nx, ρ.set i (some (.dct (putE es kk v)))) S2) : (putS i F1 F2 ρ S).sat PS := by
  unfold putS; rw [hi]; dsimp only; rw [sat_bind]
  refine h.mono fun v S1 h1 => ?_
  rw [sat_bind]
  refine h1.mono fun k S2 ⟨kk, e, hd⟩ => ?_
  rw [e]; dsimp only; rw [if_pos hl]; exact hd
theorem forS_sat {FI : Exs} {g : Tgt} (h : (FI ρ S).sat fun ds S1 => (forGo g A ds ρ S1).sat PS) : (forS FI g A ρ S).sat PS := by unfold forS; rw [sat_bind]; exact h
theorem cF_sat {d : D} (h : P d S) : (cF d ρ S).sat P := h
theorem vF_sat {d : D} (hi : ρ[i]? = some (some d)) (h : P d S) : (vF i ρ S).sat P := by unfold vF; rw [hi]; exact h
theorem nilF_sat (h : Ps [] S) : (nilF ρ S).sat Ps := h
theorem consF_sat (h : (F ρ S).sat fun d S1 => (Fs ρ S1).sat fun ds S2 => Ps (d :: ds) S2) : (consF F Fs ρ S).sat Ps := by
  unfold consF; rw [sat_bind]
  refine h.mono fun d S1 h1 => ?_
  rw [sat_bind]; exact h1
theorem scF_sat (h : (F ρ S).sat fun d S1 => isSc d = true ∧ P d S1) : (scF F ρ S).sat P := by
  unfold scF; rw [sat_bind]
  refine h.mono fun d S1 ⟨e, h1⟩ => ?_
  rw [if_pos e]; exact h1
theorem binF_sat {op : D → D → Option D} (h : (F1 ρ S).sat fun d1 S1 => (F2 ρ S1).sat fun d2 S2 => ∃ d, op d1 d2 = some d ∧ P d S2) : (binF op F1 F2 ρ S).sat P := by
  unfold binF; rw [sat_bind]
  refine h.mono fun d1 S1 h1 => ?_
  rw [sat_bind]
  refine h1.mono fun d2 S2 ⟨d, e, h2⟩ => ?_
  rw [e]; exact h2
theorem unF_sat {op : D → Option D} (h : (F ρ S).sat fun d1 S1 => ∃ d, op d1 = some d ∧ P d S1) : (unF op F ρ S).sat P := by
  unfold unF; rw [sat_bind]
  refine h.mono fun d1 S1 ⟨d, e, h2⟩ => ?_
  rw [e]; exact h2
theorem argF_sat {f : List D → Option D} (h : (Fs ρ S).sat fun ds S1 => ∃ d, f ds = some d ∧ P d S1) : (argF f Fs ρ S).sat P := by
  unfold argF; rw [sat_bind]
  refine h.mono fun d1 S1 ⟨d, e, h2⟩ => ?_
  rw [e]; exact h2
theorem lstF_sat (h : (Fs ρ S).sat fun ds S1 => P (.lst ds) S1) : (lstF Fs ρ S).sat P := by unfold lstF; rw [sat_bind]; exact h
theorem tupF_sat (h : (Fs ρ S).sat fun ds S1 => P (.tup ds) S1) : (tupF Fs ρ S).sat P := by unfold tupF; rw [sat_bind]; exact h
theorem callF_sat {f : List D → SrcT → Rs D} (h : (Fs ρ S).sat fun ds S1 => (f ds S1).sat P) : (callF f Fs ρ S).sat P := by unfold callF; rw [sat_bind]; exact h
theorem callN_sat {f : List D → SrcT → Rs D} (h : (Fs ρ S).sat fun ds S1 => (f ds S1).sat P) : (callN f Fs ρ S).sat P := by
  unfold callN; rw [sat_bind]
  refine h.mono fun ds S1 h1 => ?_
  generalize f ds S1 = r at h1
  induction r with
  | ok a S => exact h1
  | bad => exact h1
  | exc _ _ _ => exact h1
  | all p f ih => exact fun x px => ih x (h1 x px)
theorem iteF_sat (h : (c ρ S).sat fun b S1 => if b = true then (F1 ρ S1).sat P else (F2 ρ S1).sat P) : (iteF c F1 F2 ρ S).sat P := by
  unfold iteF; rw [sat_bind]
  refine h.mono fun b S1 hb => ?_
  cases b with
  | true => exact hb
  | false => exact hb
theorem idxOF_sat {cc : D} (hi : ρ[i]? = some (some cc)) (h : (F ρ S).sat fun d S1 => ∃ r, idxD cc d = some r ∧ P r S1) : (idxOF i F ρ S).sat P := by
  unfold idxOF; rw [sat_bind]
  refine h.mono fun d S1 ⟨r, e, h1⟩ => ?_
  rw [hi]; dsimp only; rw [e]; exact h1
theorem andF_sat (h : (F1 ρ S).sat fun d S1 => ∃ b, d = .bl b ∧ if b = true then (F2 ρ S1).sat P else P (.bl false) S1) : (andF F1 F2 ρ S).sat P := by
  unfold andF; rw [sat_bind]
  refine h.mono fun d S1 ⟨b, e, h1⟩ => ?_
  subst e
  cases b with
  | true => exact h1
  | false => exact h1
theorem orF_sat (h : (F1 ρ S).sat fun d S1 => ∃ b, d = .bl b ∧ if b = true then P (.bl true) S1 else (F2 ρ S1).sat P) : (orF F1 F2 ρ S).sat P := by
  unfold orF; rw [sat_bind]
  refine h.mono fun d S1 ⟨b, e, h1⟩ => ?_
  subst e
  cases b with
  | true => exact h1
  | false => exact h1
theorem tstF_sat (h : (F ρ S).sat fun d S1 => ∃ b, truD d = some b ∧ Pb b S1) : (tstF F ρ S).sat Pb := by
  unfold tstF; rw [sat_bind]
  refine h.mono fun d S1 ⟨b, e, h1⟩ => ?_
  rw [e]; exact h1
theorem blT_sat (h : (F ρ S).sat fun d S1 => ∃ b, d = .bl b ∧ Pb b S1) : (blT F ρ S).sat Pb := by
  unfold blT; rw [sat_bind]
  refine h.mono fun d S1 ⟨b, e, h1⟩ => ?_
  subst e; exact h1
theorem andT_sat (h : (c1 ρ S).sat fun b S1 => if b = true then (c2 ρ S1).sat Pb else Pb false S1) : (andT c1 c2 ρ S).sat Pb := by
  unfold andT; rw [sat_bind]
  refine h.mono fun b S1 h1 => ?_
  cases b with
  | true => exact h1
  | false => exact h1
theorem orT_sat (h : (c1 ρ S).sat fun b S1 => if b = true then Pb true S1 else (c2 ρ S1).sat Pb) : (orT c1 c2 ρ S).sat Pb := by
  unfold orT; rw [sat_bind]
  refine h.mono fun b S1 h1 => ?_
  cases b with
  | true => exact h1
  | false => exact h1
theorem notT_sat (h : (c ρ S).sat fun b S1 => Pb (!b) S1) : (notT c ρ S).sat Pb := by unfold notT; rw [sat_bind]; exact h
theorem yesT_sat (h : Pb true S) : (yesT ρ S).sat Pb := h
theorem chF_sat {op op' : D → D → Option D} (h : (F1 ρ S).sat fun d1 S1 => (F2 ρ S1).sat fun d2 S2 => ∃ b, op d1 d2 = some (.bl b) ∧ if b = true then (F3 ρ S2).sat fun d3 S3 => ∃ d, op' d2 d3 = some d ∧ P d S3 else P (.bl false) S2) : (chF op op' F1 F2 F3 ρ S).sat P := by
  unfold chF; rw [sat_bind]
  refine h.mono fun d1 S1 h1 => ?_
  rw [sat_bind]
  refine h1.mono fun d2 S2 ⟨b, e, h2⟩ => ?_
  rw [e]
  cases b with
  | true =>
    dsimp only
    rw [sat_bind]
    refine h2.mono fun d3 S3 ⟨d, e2, h3⟩ => ?_
    rw [e2]; exact h3
  | false => exact h2
theorem noF_sat {Po : Option Int → SrcT → Prop} (h : Po none S) : (noF ρ S).sat Po := h
theorem someF_sat {Po : Option Int → SrcT → Prop} (h : (F ρ S).sat fun d S1 => ∃ k, d = .int k ∧ Po (some k) S1) : (someF F ρ S).sat Po := by
  unfold someF; rw [sat_bind]
  refine h.mono fun d S1 ⟨k, e, h1⟩ => ?_
  subst e; exact h1
theorem slF_sat (h : (F ρ S).sat fun d S1 => (L ρ S1).sat fun lo S2 => (U ρ S2).sat fun hi S3 => ∃ r, sliceD d lo hi = some r ∧ P r S3) : (slF F L U ρ S).sat P := by
  unfold slF; rw [sat_bind]
  refine h.mono fun d S1 h1 => ?_
  rw [sat_bind]
  refine h1.mono fun lo S2 h2 => ?_
  rw [sat_bind]
  refine h2.mono fun hi S3 ⟨r, e, h3⟩ => ?_
  rw [e]; exact h3
theorem lcF_sat {is : List Nat} {FI : Exs} {g : Tgt} {Fe : Ex} (h : (FI ρ S).sat fun ds S1 => ds.length ≤ 100000 ∧ (lcGo g c Fe (wipeE ρ is) ds S1).sat fun ys S2 => P (.lst ys) S2) : (lcF is FI g c Fe ρ S).sat P := by
  unfold lcF; rw [sat_bind]
  refine h.mono fun ds S1 ⟨hl, h1⟩ => ?_
  rw [if_pos hl, sat_bind]; exact h1
theorem seqF_sat (h : (F ρ S).sat fun d S1 => ∃ ds, seqD d = some ds ∧ Ps ds S1) : (seqF F ρ S).sat Ps := by
  unfold seqF; rw [sat_bind]
  refine h.mono fun d S1 ⟨ds, e, h1⟩ => ?_
  rw [e]; exact h1
theorem rng1F_sat (h : (Fs ρ S).sat fun ds S1 => ∃ k, ds = [.int k] ∧ okR k = true ∧ Ps (rngD 0 k.toNat) S1) : (rng1F Fs ρ S).sat Ps := by
  unfold rng1F; rw [sat_bind]
  refine h.mono fun d S1 ⟨k, e, hk, h1⟩ => ?_
  subst e; dsimp only; rw [if_pos hk]; exact h1
theorem rng2F_sat (h : (Fs ρ S).sat fun ds S1 => ∃ i k, ds = [.int i, .int k] ∧ okR i = true ∧ okR k = true ∧ Ps (rngD i (k - i).toNat) S1) : (rng2F Fs ρ S).sat Ps := by
  unfold rng2F; rw [sat_bind]
  refine h.mono fun d S1 ⟨i, k, e, hi, hk, h1⟩ => ?_
  subst e; dsimp only; rw [if_pos (by rw [hi, hk]; rfl)]; exact h1
theorem strF_sat (h : (F ρ S).sat fun d S1 => ∃ z, d = .str z ∧ Ps (signsD z) S1) : (strF F ρ S).sat Ps := by
  unfold strF; rw [sat_bind]
  refine h.mono fun d S1 ⟨z, e, h1⟩ => ?_
  subst e; exact h1
theorem zipF_sat (h : (Fs ρ S).sat fun ds S1 => ∃ a b, ds = [.lst a, .lst b] ∧ Ps (zipD a b) S1) : (zipF Fs ρ S).sat Ps := by
  unfold zipF; rw [sat_bind]
  refine h.mono fun d S1 ⟨a, b, e, h1⟩ => ?_
  subst e; exact h1
theorem enumF_sat (h : (Fs ρ S).sat fun ds S1 => ∃ a, ds = [.lst a] ∧ Ps (enumD a) S1) : (enumF Fs ρ S).sat Ps := by
  unfold enumF; rw [sat_bind]
  refine h.mono fun d S1 ⟨a, e, h1⟩ => ?_
  subst e; exact h1
theorem get2F_sat (h : (F1 ρ S).sat fun c S1 => ∃ es, c = .dct es ∧ (F2 ρ S1).sat fun k S2 => (F3 ρ S2).sat fun x S3 => ∃ kk, keyD k = some kk ∧ P ((valE es kk).getD x) S3) : (get2F F1 F2 F3 ρ S).sat P := by
  unfold get2F; rw [sat_bind]
  refine h.mono fun c S1 ⟨es, e, h1⟩ => ?_
  subst e; dsimp only; rw [sat_bind]
  refine h1.mono fun k S2 h2 => ?_
  rw [sat_bind]
  refine h2.mono fun x S3 ⟨kk, e, h3⟩ => ?_
  rw [e]; exact h3
end
theorem okR_of {k : Int} (h0 : -1000000000000 ≤ k) (h1 : k ≤ 1000000000000) : okR k = true := by unfold okR; simp [h0, h1]
theorem okI_of {k : Int} (h0 : -1000000000000000000000000000000000000000000000000000000000000 ≤ k) (h1 : k ≤ 1000000000000000000000000000000000000000000000000000000000000) : okI k = true := by unfold okI; simp [h0, h1]
theorem rngD_len (lo : Int) (n : Nat) : (rngD lo n).length = n := by unfold rngD; simp
theorem rngD_at {lo : Int} {n i : Nat} {d : D} (h : (rngD lo n)[i]? = some d) : i < n ∧ d = .int (lo + (i : Int)) := by
  have hi : i < n := by have := (List.getElem?_eq_some_iff.mp h).1; rw [rngD_len] at this; exact this
  rw [rngD_get lo n i hi] at h
  exact ⟨hi, (Option.some.inj h).symm⟩
theorem if_nt {A B : Prop} (h : B) : if (!true) = true then A else B := h
theorem if_f {A B : Prop} (h : B) : if false = true then A else B := h
theorem if_nf {A B : Prop} (h : A) : if (!false) = true then A else B := h
theorem if_t {A B : Prop} (h : A) : if true = true then A else B := h
/-- a comprehension that draws nothing -/
theorem lc_filtM {α : Type} {g : Tgt} {c : Tst} {Fe : Ex} {ρ : Env} {S : SrcT} {P : List D → SrcT → Prop} {xs : List α} {φ : α → D} (p : α → Bool) (f : α → D)
    (hs : ∀ x ∈ xs, ∃ ρ1, g (φ x) ρ = some ρ1 ∧ (c ρ1 S).sat (fun b S1 => b = p x ∧ S1 = S) ∧ (p x = true → (Fe ρ1 S).sat fun y S2 => y = f x ∧ S2 = S)) (hP : P ((xs.filter p).map f) S) : (lcGo g c Fe ρ (xs.map φ) S).sat P := by
  refine lc_sat (fun i acc S' => acc = ((xs.take i).filter p).map f ∧ S' = S) ?_ ?_ ⟨rfl, rfl⟩
  · rintro i d acc S1 hd ⟨rfl, rfl⟩
    rw [List.getElem?_map] at hd
    obtain ⟨x, hx, rfl⟩ := Option.map_eq_some_iff.mp hd
    obtain ⟨ρ1, h1, h2, h3⟩ := hs x (List.mem_of_getElem? hx)
    refine ⟨ρ1, h1, h2.mono ?_⟩
    rintro b S2 ⟨rfl, rfl⟩
    rw [take_snoc hx, List.filter_append]
    by_cases hp : p x = true
    · rw [if_pos hp]
      refine (h3 hp).mono ?_
      rintro y S3 ⟨rfl, rfl⟩
      refine ⟨?_, rfl⟩
      simp [List.filter, hp]
    · rw [if_neg hp]
      have hp : p x = false := by simpa using hp
      refine ⟨?_, rfl⟩
      simp [List.filter, hp]
  · rintro acc S1 ⟨rfl, rfl⟩
    rw [List.length_map, List.take_length]; exact hP
theorem lc_mapM {α : Type} {g : Tgt} {c : Tst} {Fe : Ex} {ρ : Env} {S : SrcT} {P : List D → SrcT → Prop} {xs : List α} {φ : α → D} (f : α → D)
    (hs : ∀ x ∈ xs, ∃ ρ1, g (φ x) ρ = some ρ1 ∧ (c ρ1 S).sat (fun b S1 => b = true ∧ S1 = S) ∧ (Fe ρ1 S).sat fun y S2 => y = f x ∧ S2 = S) (hP : P (xs.map f) S) : (lcGo g c Fe ρ (xs.map φ) S).sat P :=
  lc_filtM (fun _ => true) f (fun x hx => by
    obtain ⟨ρ1, h1, h2, h3⟩ := hs x hx
    exact ⟨ρ1, h1, h2, fun _ => h3⟩) (by rw [List.filter_eq_self.mpr (fun _ _ => rfl)]; exact hP)
end
end NL
/-! ### what a plain function gives: sets, dicts -/
namespace NL
noncomputable section
open PySem L2
section
variable {ρ : Env} {S : SrcT} {F F1 F2 F3 Fk Fv Fe : Ex} {Fs FI : Exs} {g : Tgt} {c : Tst} {is : List Nat} {i j n N : Nat} {P : D → SrcT → Prop} {Ps : List D → SrcT → Prop} {PS : Fl × Env → SrcT → Prop} {Pb : Bool → SrcT → Prop}
theorem zipMF_sat (h : (Fs ρ S).sat fun ds S1 => ∃ a b, ds = [.lst a, .tup b] ∧ Ps (zipD a b) S1) : (zipMF Fs ρ S).sat Ps := by
  unfold zipMF; rw [sat_bind]
  refine Rs.sat.mono h fun ds S1 ⟨a, b, e, h⟩ => ?_
  subst e; exact h
theorem freS_sat {f : List D → SrcT → Rs D} (hi : i < ρ.length) (hj : j < ρ.length) (h : (Fs ρ S).sat fun ds S1 => (f ds S1).sat fun d S2 => ∃ es k, d = .tup [.lst es, .int k] ∧ PS (.nx, (ρ.set i (some (.lst es))).set j (some (.int k))) S2) : (freS i j f Fs ρ S).sat PS := by
  unfold freS; rw [sat_bind]
  refine Rs.sat.mono h fun ds S1 h => ?_
  rw [sat_bind]
  refine Rs.sat.mono h fun d S2 h => ?_
  obtain ⟨es, k, rfl, h⟩ := h
  show Rs.sat (if _ then _ else _) _
  rw [if_pos (by rw [decide_eq_true hi, decide_eq_true hj]; rfl)]; exact h
theorem mulS_sat {ks : List Nat} (hr : (ks.all fun i => decide (i < ρ.length)) = true) (h : (Fs ρ S).sat fun ds S1 => PS (.nx, setsE ks ds ρ) S1) : (mulS ks Fs ρ S).sat PS := by
  unfold mulS; rw [sat_bind]
  refine Rs.sat.mono h fun ds S1 h => ?_
  rw [if_pos hr]; exact h
/-- x == y by an own __eq__ -/
def OkEq (p : D → Bool) (f : List D → SrcT → Rs D) (d1 d2 : D) (S : SrcT) (P : Bool → SrcT → Prop) : Prop := (p d1 && (p d2 || baseK d2)) = true ∧ (f [d1, d2] S).sat fun r S3 => ∃ b, r = .bl b ∧ P b S3
theorem OkEq.mk {p : D → Bool} {f : List D → SrcT → Rs D} {d1 d2 : D} {P : Bool → SrcT → Prop} (h : (p d1 && (p d2 || baseK d2)) = true) (h2 : (f [d1, d2] S).sat fun r S3 => ∃ b, r = .bl b ∧ P b S3) : OkEq p f d1 d2 S P := ⟨h, h2⟩
theorem eqOF_sat {neg : Bool} {p : D → Bool} {f : List D → SrcT → Rs D} (h : (F1 ρ S).sat fun d1 S1 => (F2 ρ S1).sat fun d2 S2 => OkEq p f d1 d2 S2 fun b S3 => P (.bl (if neg then !b else b)) S3) : (eqOF neg p f F1 F2 ρ S).sat P := by
  unfold eqOF; rw [sat_bind]
  refine Rs.sat.mono h fun d1 S1 h => ?_
  rw [sat_bind]
  refine Rs.sat.mono h fun d2 S2 h => ?_
  obtain ⟨h0, h⟩ := h
  rw [if_pos h0]
  generalize f [d1, d2] S2 = r at h ⊢
  induction r with
  | ok a S => obtain ⟨b, rfl, hP⟩ := h; exact hP
  | bad => exact h
  | exc _ _ _ => exact h
  | all p f ih => exact fun x px => ih x (h x px)
/-- len(x) by an own __len__ -/
def OkLen (p : D → Bool) (f : List D → SrcT → Rs D) (d : D) (S : SrcT) (P : Int → SrcT → Prop) : Prop := p d = true ∧ (f [d] S).sat fun r S2 => ∃ i : Int, r = .int i ∧ 0 ≤ i ∧ i < 1000000 ∧ P i S2
theorem OkLen.mk {p : D → Bool} {f : List D → SrcT → Rs D} {d : D} {P : Int → SrcT → Prop} (h : p d = true) (h2 : (f [d] S).sat fun r S2 => ∃ i : Int, r = .int i ∧ 0 ≤ i ∧ i < 1000000 ∧ P i S2) : OkLen p f d S P := ⟨h, h2⟩
theorem lenOF_sat {p : D → Bool} {f : List D → SrcT → Rs D} (h : (F ρ S).sat fun d S1 => OkLen p f d S1 fun i S2 => P (.int i) S2) : (lenOF p f F ρ S).sat P := by
  unfold lenOF; rw [sat_bind]
  refine Rs.sat.mono h fun d1 S1 h => ?_
  obtain ⟨h0, h⟩ := h
  rw [if_pos h0]
  generalize f [d1] S1 = r at h ⊢
  induction r with
  | ok a S =>
    obtain ⟨i, rfl, i0, i1, hP⟩ := h
    show Rs.sat (if (decide (0 ≤ i) && okR i) = true then _ else _) _
    rw [if_pos (by rw [decide_eq_true i0, okR_of (by omega) (by omega)]; rfl)]; exact hP
  | bad => exact h
  | exc _ _ _ => exact h
  | all p f ih => exact fun x px => ih x (h x px)
theorem splitF_sat (h : (F1 ρ S).sat fun d1 S1 => ∃ a, d1 = .str a ∧ (F2 ρ S1).sat fun d2 S2 => ∃ b, d2 = .str b ∧ (!(b.length == 0) && decide (a.length ≤ 100000)) = true ∧ P (.lst ((Txt.split a b).map D.str)) S2) : (splitF F1 F2 ρ S).sat P := by
  unfold splitF; rw [sat_bind]
  refine Rs.sat.mono h fun d1 S1 h => ?_
  obtain ⟨a, rfl, h⟩ := h
  show Rs.sat ((F2 ρ S1).bind _) P
  rw [sat_bind]
  refine Rs.sat.mono h fun d2 S2 h => ?_
  obtain ⟨b, rfl, hc, h⟩ := h
  show Rs.sat (if _ then _ else _) P
  rw [if_pos hc]; exact h
theorem partF_sat (h : (F1 ρ S).sat fun d1 S1 => ∃ a, d1 = .str a ∧ (F2 ρ S1).sat fun d2 S2 => ∃ b, d2 = .str b ∧ (!(b.length == 0) && decide (a.length ≤ 100000)) = true ∧ P (.tup [.str (Txt.partition a b).1, .str (Txt.partition a b).2.1, .str (Txt.partition a b).2.2]) S2) : (partF F1 F2 ρ S).sat P := by
  unfold partF; rw [sat_bind]
  refine Rs.sat.mono h fun d1 S1 h => ?_
  obtain ⟨a, rfl, h⟩ := h
  show Rs.sat ((F2 ρ S1).bind _) P
  rw [sat_bind]
  refine Rs.sat.mono h fun d2 S2 h => ?_
  obtain ⟨b, rfl, hc, h⟩ := h
  show Rs.sat (if _ then _ else _) P
  rw [if_pos hc]; exact h
theorem callC_sat {f : List D → SrcT → Rs D} (h : (Fs ρ S).sat fun ds S1 => (f (.cls :: ds) S1).sat P) : (callC f Fs ρ S).sat P := by unfold callC; rw [sat_bind]; exact h
theorem callL_sat {F0 : Ex} {f : List D → SrcT → Rs D} (h : (F0 ρ S).sat fun d S1 => d = .cls ∧ (Fs ρ S1).sat fun ds S2 => (f ds S2).sat P) : (callL F0 f Fs ρ S).sat P := by
  unfold callL; rw [sat_bind]
  refine Rs.sat.mono h fun d S1 h => ?_
  obtain ⟨rfl, h⟩ := h
  show Rs.sat ((Fs ρ S1).bind f) P
  rw [sat_bind]; exact h
theorem enumKF_sat {k : Int} (h : (Fs ρ S).sat fun ds S1 => ∃ a, ds = [.lst a] ∧ Ps (enumKD k a) S1) : (enumKF k Fs ρ S).sat Ps := by
  unfold enumKF; rw [sat_bind]
  refine Rs.sat.mono h fun d S1 ⟨a, e, h1⟩ => ?_
  subst e; exact h1
theorem setCF_sat (h : (FI ρ S).sat fun ds S1 => ds.length ≤ 4000 ∧ (scGo g c Fe (wipeE ρ is) ds S1).sat fun ys S2 => P (.set (ddI ys)) S2) : (setCF is FI g c Fe ρ S).sat P := by
  unfold setCF; rw [sat_bind]
  refine h.mono fun ds S1 ⟨h1, h2⟩ => ?_
  rw [if_pos h1, sat_bind]; exact h2
theorem dctCF_sat (h : (FI ρ S).sat fun ds S1 => ds.length ≤ 4000 ∧ (dcGo g c Fk Fv (wipeE ρ is) ds S1).sat fun ys S2 => P (.dct (putsE [] ys)) S2) : (dctCF is FI g c Fk Fv ρ S).sat P := by
  unfold dctCF; rw [sat_bind]
  refine h.mono fun ds S1 ⟨h1, h2⟩ => ?_
  rw [if_pos h1, sat_bind]; exact h2
theorem dgetF_sat (h : (F1 ρ S).sat fun cc S1 => ∃ es, cc = .dct es ∧ (F2 ρ S1).sat fun k S2 => ∃ kk d, keyD k = some kk ∧ valE es kk = some d ∧ P d S2) : (dgetF F1 F2 ρ S).sat P := by
  unfold dgetF; rw [sat_bind]
  refine h.mono fun cc S1 ⟨es, e, h2⟩ => ?_
  subst e
  dsimp only
  rw [sat_bind]
  refine h2.mono fun k S2 ⟨kk, d, e1, e2, hp⟩ => ?_
  rw [e1]; dsimp only; rw [e2]; exact hp
theorem extS_sat {ds : List D} (hi : ρ[i]? = some (some (.lst ds))) (h : (F ρ S).sat fun d S1 => ∃ es, d = .lst es ∧ ds.length + es.length ≤ 100000 ∧ PS (.nx, ρ.set i (some (.lst (ds ++ es)))) S1) : (extS i F ρ S).sat PS := by
  unfold extS; rw [hi]; dsimp only; rw [sat_bind]
  refine h.mono fun d S1 ⟨es, e, hl, hp⟩ => ?_
  subst e
  dsimp only
  rw [if_pos hl]; exact hp
theorem idxOfF_sat (h : (F1 ρ S).sat fun cc S1 => ∃ ds, cc = .lst ds ∧ (F2 ρ S1).sat fun x S2 => ∃ r, idxOfD (.lst ds) x = some r ∧ P r S2) : (idxOfF F1 F2 ρ S).sat P := by
  unfold idxOfF; rw [sat_bind]
  refine h.mono fun cc S1 ⟨ds, e, h2⟩ => ?_
  subst e
  dsimp only
  rw [sat_bind]
  refine h2.mono fun x S2 ⟨r, e1, hp⟩ => ?_
  rw [e1]; exact hp
theorem lstRgF_sat (h : (F ρ S).sat fun d S1 => ∃ k : Int, d = .int k ∧ 0 ≤ k ∧ k ≤ 100000 ∧ P (.lst (rngD 0 k.toNat)) S1) : (lstRgF F ρ S).sat P := by
  unfold lstRgF; rw [sat_bind]
  refine h.mono fun d S1 ⟨k, e, h1, h2, hp⟩ => ?_
  subst e
  dsimp only
  rw [if_pos ⟨h1, h2⟩]; exact hp
theorem popS_sat (h : (FI ρ S).sat fun ds S1 => ds.length ≤ 4000 ∧ (popGo g i F ds (wipeE ρ is) S1).sat fun ys S2 => PS (.ret (.lst ys), ρ) S2) : (popS is FI g i F ρ S).sat PS := by
  unfold popS; rw [sat_bind]
  refine h.mono fun ds S1 ⟨h1, h2⟩ => ?_
  rw [if_pos h1, sat_bind]; exact h2
theorem pop_step {d : D} {ds : List D} {ρ' : Env} {xs : List D} {Pl : List D → SrcT → Prop} (hg : g d ρ = some ρ') (hi : ρ[i]? = some (some (.lst xs)))
    (h : (F ρ' S).sat fun k S1 => ∃ j : Int, k = .int j ∧ 0 ≤ j ∧ j ≤ 1000000 ∧ ∃ y, xs[j.toNat]? = some y ∧ (popGo g i F ds (ρ.set i (some (.lst (xs.eraseIdx j.toNat)))) S1).sat fun ys S2 => Pl (y :: ys) S2) : (popGo g i F (d :: ds) ρ S).sat Pl := by
  rw [popGo, hg]
  dsimp only
  rw [hi]
  dsimp only
  rw [sat_bind]
  refine h.mono fun k S1 ⟨j, e, h1, h2, y, h3, h4⟩ => ?_
  subst e
  dsimp only
  rw [if_pos ⟨h1, h2⟩, h3]
  dsimp only
  rw [sat_bind]; exact h4
theorem sc_mapM {α : Type} {Pi : List Int → SrcT → Prop} {φ : α → D} (f : α → Int) : ∀ {xs : List α},
    (∀ x ∈ xs, ∃ ρ1, g (φ x) ρ = some ρ1 ∧ (c ρ1 S).sat (fun b S1 => b = true ∧ S1 = S) ∧ (Fe ρ1 S).sat fun y S2 => y = .int (f x) ∧ S2 = S) → Pi (xs.map f) S → (scGo g c Fe ρ (xs.map φ) S).sat Pi := by
  intro xs
  induction xs generalizing Pi with
  | nil => intro _ h; exact h
  | cons x xs ih =>
    intro hs hP
    obtain ⟨ρ1, h1, h2, h3⟩ := hs x List.mem_cons_self
    rw [List.map_cons, scGo, h1]
    dsimp only
    rw [sat_bind]
    refine h2.mono ?_
    rintro b S1 ⟨rfl, rfl⟩
    rw [if_pos rfl, sat_bind]
    refine h3.mono ?_
    rintro y S2 ⟨rfl, rfl⟩
    dsimp only
    rw [sat_bind]
    exact ih (Pi := fun ys S3 => Pi (f x :: ys) S3) (fun x hx => hs x (List.mem_cons_of_mem _ hx)) hP
theorem dc_mapM {α : Type} {Pi : List (Key × D) → SrcT → Prop} {φ : α → D} (fk : α → Key) (fv : α → D) : ∀ {xs : List α},
    (∀ x ∈ xs, ∃ ρ1, g (φ x) ρ = some ρ1 ∧ (c ρ1 S).sat (fun b S1 => b = true ∧ S1 = S) ∧ ((Fk ρ1 S).sat fun y S2 => keyD y = some (fk x) ∧ S2 = S) ∧ (Fv ρ1 S).sat fun y S2 => y = fv x ∧ S2 = S) → Pi (xs.map fun x => (fk x, fv x)) S → (dcGo g c Fk Fv ρ (xs.map φ) S).sat Pi := by
  intro xs
  induction xs generalizing Pi with
  | nil => intro _ h; exact h
  | cons x xs ih =>
    intro hs hP
    obtain ⟨ρ1, h1, h2, h3, h4⟩ := hs x List.mem_cons_self
    rw [List.map_cons, dcGo, h1]
    dsimp only
    rw [sat_bind]
    refine h2.mono ?_
    rintro b S1 ⟨rfl, rfl⟩
    rw [if_pos rfl, sat_bind]
    refine h3.mono ?_
    rintro y S2 ⟨hk, rfl⟩
    rw [sat_bind]
    refine h4.mono ?_
    rintro z S3 ⟨rfl, rfl⟩
    rw [hk]
    dsimp only
    rw [sat_bind]
    exact ih (Pi := fun ys S3 => Pi ((fk x, fv x) :: ys) S3) (fun x hx => hs x (List.mem_cons_of_mem _ hx)) hP
end
/-- keys that are all different -/
theorem puts_new : ∀ {ys acc : List (Key × D)}, ((acc ++ ys).map Prod.fst).Nodup → putsE acc ys = acc ++ ys
  | [], acc, _ => by simp [putsE]
  | y :: ys, acc, h => by
    have e : putE acc y.1 y.2 = acc ++ [y] := by
      unfold putE
      rw [if_neg]
      intro hk
      simp only [List.map_append, List.map_cons] at h
      have hk : y.1 ∈ acc.map Prod.fst := by simpa using hk
      exact (List.nodup_append.mp h).2.2 _ hk _ List.mem_cons_self rfl
    show putsE (putE acc y.1 y.2) ys = _
    rw [e, puts_new (by rw [List.append_assoc]; exact h), List.append_assoc]; rfl
end
end NL
/-! ### equal data, slices, loops and runs as data -/
namespace Law
open PySem L2 NL
/-- a rule as data -/
def rD (r : Rule) : D := .tup [.str r.st, .lst (r.gs.map .str), .str r.wd, .bl r.kp, .str r.nx]
/-- answers as data -/
def ansM (ans : List (Str × Str)) : List (Key × D) := ans.map fun q => (Sum.inr q.1, D.str q.2)
theorem ansE_M : ∀ ans : List (Str × Str), ansE (ansM ans) = some ans
  | [] => rfl
  | (x, y) :: r => by
    show (ansE (ansM r)).map _ = _
    rw [ansE_M r]; rfl
theorem putE_M {ans : List (Str × Str)} {z v : Str} (h : z ∉ ans.map (·.1)) : putE (ansM ans) (Sum.inr z) (.str v) = ansM (ans ++ [(z, v)]) := by
  unfold putE
  rw [if_neg]
  · unfold ansM; rw [List.map_append]; rfl
  · intro ha
    obtain ⟨kv, h1, h2⟩ := List.any_eq_true.mp ha
    unfold ansM at h1
    obtain ⟨q, hq, rfl⟩ := List.mem_map.mp h1
    simp only [decide_eq_true_eq, Sum.inr.injEq] at h2
    exact h (h2 ▸ List.mem_map_of_mem hq)
def Y3 : List Str := [("yes" : Str), "no", "even"]
theorem toPs_ints : ∀ ns : List Int, toPs (ns.map D.int) = some (ns.map PyData.int)
  | [] => rfl
  | n :: ns => by rw [List.map_cons, toPs, toPs_ints ns]; rfl
theorem toPs_strs : ∀ ns : List Str, toPs (ns.map D.str) = some (ns.map PyData.str)
  | [] => rfl
  | n :: ns => by rw [List.map_cons, toPs, toPs_strs ns]; rfl
theorem toPs_bools : ∀ ns : List Bool, toPs (ns.map D.bl) = some (ns.map PyData.bool)
  | [] => rfl
  | n :: ns => by rw [List.map_cons, toPs, toPs_bools ns]; rfl
theorem eqD_nil (neg : Bool) (ns : List Int) : eqD neg (.lst (ns.map .int)) (.lst []) = some (.bl (if neg then !decide (ns = []) else decide (ns = []))) := by
  have e1 : toP (.lst (ns.map .int)) = some (.list (ns.map .int)) := by rw [toP, toPs_ints]; rfl
  have e2 : toP (.lst []) = some (.list []) := rfl
  unfold eqD
  rw [e1, e2]
  dsimp only
  rw [if_pos (by rw [shapedL_ints]; rfl), eqv_nil]
/-! equal data, slices, loops, runs -/
def fineN (n : Nat) (d : D) : Prop := ∃ p, toP d = some p ∧ p.canLay0 = true ∧ p.depth ≤ n
theorem fineN.mono {n k : Nat} {d : D} (h : fineN n d) (hk : n ≤ k) : fineN k d := by
  obtain ⟨p, h1, h2, h3⟩ := h; exact ⟨p, h1, h2, Nat.le_trans h3 hk⟩
theorem fine_all {n : Nat} : ∀ {ds : List D}, (∀ d ∈ ds, fineN n d) → ∃ ps, toPs ds = some ps ∧ PyData.canLayAll0 ps = true ∧ PyData.depthAll ps ≤ n
  | [], _ => ⟨[], rfl, rfl, Nat.zero_le _⟩
  | d :: ds, h => by
    obtain ⟨p, h1, h2, h3⟩ := h d List.mem_cons_self
    obtain ⟨ps, k1, k2, k3⟩ := fine_all (n := n) fun x hx => h x (List.mem_cons_of_mem _ hx)
    refine ⟨p :: ps, by rw [toPs, h1, k1], ?_, ?_⟩
    · show (p.canLay0 && PyData.canLayAll0 ps) = true
      rw [h2, k2]; rfl
    · show max p.depth (PyData.depthAll ps) ≤ n
      exact Nat.max_le.mpr ⟨h3, k3⟩
theorem fineL {n : Nat} {ds : List D} (h : ∀ d ∈ ds, fineN n d) : fineN (n + 1) (.lst ds) := by
  obtain ⟨ps, h1, h2, h3⟩ := fine_all h
  exact ⟨.list ps, by rw [toP, h1]; rfl, h2, Nat.succ_le_succ h3⟩
theorem fineT {n : Nat} {ds : List D} (h : ∀ d ∈ ds, fineN n d) : fineN (n + 1) (.tup ds) := by
  obtain ⟨ps, h1, h2, h3⟩ := fine_all h
  exact ⟨.tuple ps, by rw [toP, h1]; rfl, h2, Nat.succ_le_succ h3⟩
theorem fineS {n : Nat} {z : Str} (h : PyData.strOk z = true) : fineN n (.str z) := ⟨.str z, rfl, h, Nat.zero_le _⟩
theorem fineI {n : Nat} (i : Int) : fineN n (.int i) := ⟨.int i, rfl, rfl, Nat.zero_le _⟩
theorem fineB {n : Nat} (i : Bool) : fineN n (.bl i) := ⟨.bool i, rfl, rfl, Nat.zero_le _⟩
theorem fineO {n : Nat} : fineN n .non := ⟨.none, rfl, rfl, Nat.zero_le _⟩
theorem fineTS {zs : List Str} (h : ∀ z ∈ zs, PyData.strOk z = true) : fineN 1 (.tup (zs.map .str)) := fineT (n := 0) fun d hd => by
  obtain ⟨z, hz, rfl⟩ := List.mem_map.mp hd; exact fineS (h z hz)
theorem fineTB (zs : List Bool) : fineN 1 (.tup (zs.map .bl)) := fineT (n := 0) fun d hd => by
  obtain ⟨z, hz, rfl⟩ := List.mem_map.mp hd; exact fineB z
theorem fineTI (zs : List Int) : fineN 1 (.tup (zs.map .int)) := fineT (n := 0) fun d hd => by
  obtain ⟨z, hz, rfl⟩ := List.mem_map.mp hd; exact fineI z
theorem fineLI (zs : List Int) : fineN 1 (.lst (zs.map .int)) := fineL (n := 0) fun d hd => by
  obtain ⟨z, hz, rfl⟩ := List.mem_map.mp hd; exact fineI z
theorem fineLB (zs : List Bool) : fineN 1 (.lst (zs.map .bl)) := fineL (n := 0) fun d hd => by
  obtain ⟨z, hz, rfl⟩ := List.mem_map.mp hd; exact fineB z
theorem fineLS {zs : List Str} (h : ∀ z ∈ zs, PyData.strOk z = true) : fineN 1 (.lst (zs.map .str)) := fineL (n := 0) fun d hd => by
  obtain ⟨z, hz, rfl⟩ := List.mem_map.mp hd; exact fineS (h z hz)
theorem fine_nil {n : Nat} : ∀ d ∈ ([] : List D), fineN n d := fun d hd => (nomatch hd)
theorem fine_cons {n : Nat} {d : D} {ds : List D} (h : fineN n d) (h2 : ∀ x ∈ ds, fineN n x) : ∀ x ∈ d :: ds, fineN n x := fun x hx => by
  rcases List.mem_cons.mp hx with rfl | hx
  · exact h
  · exact h2 x hx
/-- == and != of equal data -/
theorem eqD_same {neg : Bool} {d1 d2 : D} (e : d1 = d2) (h : fineN 60 d1) : eqD neg d1 d2 = some (.bl (!neg)) := by
  subst e
  obtain ⟨p, h1, h2, h3⟩ := h
  have hs : SeqAt.shaped p = true := shaped_of h2 (by omega)
  unfold eqD
  rw [h1]
  dsimp only
  rw [if_pos (by rw [hs]; rfl), eqv_same hs]
  cases neg <;> rfl
theorem eqv_strs {a b : Str} : PyData.eqv (.str a) (.str b) = decide (a = b) := by
  by_cases h : a = b
  · subst h; simp [PyData.eqv]
  · simp [PyData.eqv, h]
theorem eqv_ints {a b : Int} : PyData.eqv (.int a) (.int b) = decide (a = b) := by
  by_cases h : a = b
  · subst h; simp [PyData.eqv]
  · simp [PyData.eqv, h]
theorem eqD_str {neg : Bool} {a b : Str} (ha : PyData.strOk a = true) (hb : PyData.strOk b = true) : eqD neg (.str a) (.str b) = some (.bl (if neg then !decide (a = b) else decide (a = b))) := by
  have s : ∀ z : Str, PyData.strOk z = true → SeqAt.shaped (.str z) = true := fun z h => shaped_of h (Nat.zero_le _)
  show (if _ then some (D.bl (if neg then !PyData.eqv (.str a) (.str b) else PyData.eqv (.str a) (.str b))) else none) = _
  rw [if_pos (by rw [s a ha, s b hb]; rfl), eqv_strs]
theorem eqD_int {neg : Bool} {a b : Int} : eqD neg (.int a) (.int b) = some (.bl (if neg then !decide (a = b) else decide (a = b))) := by
  show some (D.bl (if neg then !PyData.eqv (.int a) (.int b) else PyData.eqv (.int a) (.int b))) = _
  rw [eqv_ints]
theorem cutD_to (ds : List D) (n : Nat) : cutD ds none (some (n : Int)) = ds.take n := by
  unfold cutD
  rw [HT.sIx_none, HT.sIx_nat]
  simp [List.take_eq_take_iff]
theorem cutD_from (ds : List D) (n : Nat) : cutD ds (some (n : Int)) none = ds.drop n := by
  unfold cutD
  rw [HT.sIx_none, HT.sIx_nat]
  apply List.ext_getElem?
  intro i
  rw [List.getElem?_take]
  simp only [List.getElem?_drop]
  split
  · by_cases h : n ≤ ds.length
    · rw [Nat.min_eq_left h]
    · rw [List.getElem?_eq_none (by omega), List.getElem?_eq_none (by omega)]
  · rw [List.getElem?_eq_none (by omega)]
theorem rulesD_map : ∀ rs : List Rule, rulesD (rs.map rD) = some rs
  | [] => rfl
  | r :: rs => by
    have h1 : ruleD (rD r) = some r := by
      show (strsD (r.gs.map D.str)).map _ = _
      rw [strsD_map]; rfl
    rw [List.map_cons, rulesD, h1, rulesD_map rs]
theorem loop_sat {P : D → SrcT → Prop} {S : SrcT} {rs : List Rule} {ans : List (Str × Str)} (h : okRules rs ans) (hp : P (.loop rs ans) S) : (f_Loop [.lst (rs.map rD), .dct (ansM ans)] S).sat P := by
  have e : f_Loop [.lst (rs.map rD), .dct (ansM ans)] S = mkLoop rs ans S := by
    show (match rulesD (rs.map rD), D.dct (ansM ans) with | some rs, .non => _ | some rs, .dct es => (match ansE es with | some ans => mkLoop rs ans S | none => .bad) | _, _ => _) = _
    rw [rulesD_map]
    dsimp only
    rw [ansE_M]
  rw [e]
  unfold mkLoop
  rw [if_pos h]; exact hp
theorem loop1_sat {P : D → SrcT → Prop} {S : SrcT} {rs : List Rule} {ds : List D} (e : ds = rs.map rD) (h : okRules rs []) (hp : P (.loop rs []) S) : (f_Loop1 [.lst ds] S).sat P := by
  subst e
  have e : f_Loop1 [.lst (rs.map rD)] S = mkLoop rs [] S := by
    show (match rulesD (rs.map rD), D.non with | some rs, .non => mkLoop rs [] S | some rs, .dct es => _ | _, _ => _) = _
    rw [rulesD_map]
  rw [e]
  unfold mkLoop
  rw [if_pos h]; exact hp
theorem run_sat {P : D → SrcT → Prop} {S : SrcT} {rs : List Rule} {ans : List (Str × Str)} {ns : List Int} {e : Int} {ds : List D} (ed : ds = ns.map D.int) (h1 : wfRules rs) (h2 : ns.length ≤ 1000) (h3 : ∀ i ∈ ns, -1000000000000000000000000000000 < i ∧ i < 1000000000000000000000000000000) (h4 : 1 ≤ e) (h5 : e < 1000000000000000000000000000000)
    (hp : P (.run (runR rs e ns) (ansOf ans (runR rs e ns).st)) S) : (f_run [.loop rs ans, .lst ds, .int e] S).sat P := by
  subst ed
  rw [f_run_ok h1 h2 h3 h4 h5]; exact hp
end Law
/-! ### x in c, where the items are data of any depth -/
namespace NL
noncomputable section
open PySem L2 PySem.Spec PyProof.Rows
section
variable {X : Cx} {G : Gm} {m m' : Bool}
def rInX (K : PySem.W.Frag) (neg : Bool) : R2 := fun x y H Q => ∃ d c ds, Dp K H x d ∧ Dp K H y c ∧ (c = .list ds ∨ c = .tuple ds) ∧ SeqAt.shaped d = true ∧ PyData.canLayAll0 ds = true ∧ Q (.bl (if neg then !ds.any fun z => PyData.eqv z d else ds.any fun z => PyData.eqv z d)) H
theorem op_inX (hu : X.A.units + 65 < cLine) : OpR X (compareOp .In) (rInX X.K false) := by
  intro pins s σ H x y v u Q I rx ry h
  obtain ⟨d, c, ds, hd, he, hc, sd, se, q⟩ := h
  obtain ⟨as, r1⟩ := Dp.reads I d x v hd rx
  obtain ⟨bs, r2⟩ := Dp.reads I c y u he ry
  rcases hc with rfl | rfl
  · exact SeqAt.in_list_reads r2 r1 se (SeqAt.canLay_of_shaped sd) (room_in_shaped sd hu) ⟨.bl _, H, I, rfl, q⟩
  · exact SeqAt.in_tuple_reads r2 r1 se (SeqAt.canLay_of_shaped sd) (room_in_shaped sd hu) ⟨.bl _, H, I, rfl, q⟩
theorem op_notInX (hu : X.A.units + 65 < cLine) : OpR X (compareOp .NotIn) (rInX X.K true) := by
  intro pins s σ H x y v u Q I rx ry h
  obtain ⟨d, c, ds, hd, he, hc, sd, se, q⟩ := h
  obtain ⟨as, r1⟩ := Dp.reads I d x v hd rx
  obtain ⟨bs, r2⟩ := Dp.reads I c y u he ry
  rcases hc with rfl | rfl
  · exact SeqAt.notIn_list_reads r2 r1 se (SeqAt.canLay_of_shaped sd) (room_in_shaped sd hu) ⟨.bl _, H, I, rfl, q⟩
  · exact SeqAt.notIn_tuple_reads r2 r1 se (SeqAt.canLay_of_shaped sd) (room_in_shaped sd hu) ⟨.bl _, H, I, rfl, q⟩
theorem hu65 {A : Around} {k : Nat} (hr : Room k A) : A.units + 65 < cLine := by have := hr.un; omega
def inXD (neg : Bool) (x c : D) : Option D := match toP x, seqD c with
  | some p, some ds => match toPs ds with
    | some ps => if (SeqAt.shaped p && PyData.canLayAll0 ps) = true then some (.bl (if neg then !ps.any fun z => PyData.eqv z p else ps.any fun z => PyData.eqv z p)) else none
    | none => none
  | _, _ => none
theorem bin_inX {neg : Bool} : Bin2 G m m' (rInX G.K neg) (inXD neg) := by
  intro φ O σ B H ρ S v1 v2 d1 d2 d Q R h1 h2 e q
  unfold inXD at e
  split at e
  · rename_i p ds e1 e2
    split at e
    · rename_i ps e3
      split at e
      · rename_i hs
        simp only [Bool.and_eq_true] at hs
        cases e
        have hq : ∃ c, toP d2 = some c ∧ (c = .list ps ∨ c = .tuple ps) := by
          cases d2 with
          | lst es => cases e2; exact ⟨.list ps, by rw [toP, e3]; rfl, .inl rfl⟩
          | tup es => cases e2; exact ⟨.tuple ps, by rw [toP, e3]; rfl, .inr rfl⟩
          | _ => cases e2
        obtain ⟨c, hc, hcc⟩ := hq
        exact ⟨p, c, ps, (dv_H R h1).dp e1, (dv_H R h2).dp hc, hcc, hs.1, hs.2, q _ _ _ Go.refl R (.bl _)⟩
      · cases e
    · cases e
  · cases e
theorem op_inXG (hu : X.A.units + 65 < cLine) (hK : X.K = G.K := by rfl) : OpR X (compareOp .In) (rInX G.K false) := by rw [← hK]; exact op_inX hu
theorem op_notInXG (hu : X.A.units + 65 < cLine) (hK : X.K = G.K := by rfl) : OpR X (compareOp .NotIn) (rInX G.K true) := by rw [← hK]; exact op_notInX hu
end
/-! plain -/
theorem inX_scalar {neg : Bool} {x c : D} {ds : List D} {p : PyData} {ps : List PyData} (hx : toP x = some p) (hc : seqD c = some ds) (hp : toPs ds = some ps) (h1 : SeqAt.shaped p = true) (h2 : PyData.canLayAll0 ps = true) : inXD neg x c = some (.bl (if neg then !ps.any fun z => PyData.eqv z p else ps.any fun z => PyData.eqv z p)) := by
  unfold inXD
  rw [hx, hc]; dsimp only; rw [hp]; dsimp only
  rw [if_pos (by rw [h1, h2]; rfl)]
end
end NL
/-! ### a comprehension within a comprehension -/
namespace NL
noncomputable section
open PySem L2
theorem lookup_relE {env : PySem.Env} : ∀ {names : List (Str × NameKind)} {x : Str}, names.lookup x = some .cell ∨ names.lookup x = some .free →
    (names.map fun (n, k) => if (k == NameKind.free && env.scope.kind == .function && env.kindOf n == some .cell) then (n, NameKind.cell) else (n, k)).lookup x = some .cell ∨
    (names.map fun (n, k) => if (k == NameKind.free && env.scope.kind == .function && env.kindOf n == some .cell) then (n, NameKind.cell) else (n, k)).lookup x = some .free
  | [], _, h => by simp at h
  | (n, k) :: r, x, h => by
    have ih := @lookup_relE env r x
    show List.lookup x ((if (k == NameKind.free && env.scope.kind == .function && env.kindOf n == some .cell) = true then (n, NameKind.cell) else (n, k)) :: (r.map _)) = _ ∨ List.lookup x ((if (k == NameKind.free && env.scope.kind == .function && env.kindOf n == some .cell) = true then (n, NameKind.cell) else (n, k)) :: (r.map _)) = _
    cases hx : x == n with
    | true =>
      simp only [List.lookup_cons, hx] at h
      by_cases hc : (k == NameKind.free && env.scope.kind == .function && env.kindOf n == some .cell) = true
      · rw [if_pos hc]; simp only [List.lookup_cons, hx]; exact .inl trivial
      · rw [if_neg hc]; simp only [List.lookup_cons, hx]; exact h
    | false =>
      simp only [List.lookup_cons, hx] at h
      by_cases hc : (k == NameKind.free && env.scope.kind == .function && env.kindOf n == some .cell) = true
      · rw [if_pos hc]; simp only [List.lookup_cons, hx]; exact ih h
      · rw [if_neg hc]; simp only [List.lookup_cons, hx]; exact ih h
theorem blkOk_nest {X : Cx} {s : Shared} {H : Hp} {C : Addr} {cl : List (Str × Addr)} {fp : List Addr} {N : List Str} {sc scope : Scope} {own : List (Str × Nat)} (hN : X.N = N) (h : blkC N sc scope own = true) :
    BlkOk (X.blk s H sc (compEnvC sc cl C X.env) fp).N (X.blk s H sc (compEnvC sc cl C X.env) fp).env.scope scope own := by
  have b := blkOk_by h
  exact ⟨b.kind, b.uniq, fun p hp => by rw [show (X.blk s H sc (compEnvC sc cl C X.env) fp).N = N from hN]; exact b.ix p hp, fun y hy e => lookup_relE (b.free y hy e), fun y hy e => by rw [show (X.blk s H sc (compEnvC sc cl C X.env) fp).N = N from hN]; exact b.own y hy e⟩
end
end NL
/-! ### f-strings, a display with a star, the fields of a loop, the lines of its answers -/
namespace NL
noncomputable section
open PySem L2
section
variable {G : Gm} {φ : Fr} {m : Bool} {O : List Nat} {E : XK} {σ : L2.St} {ρ : Env} {B H : Hp} {S : SrcT} {X : Cx} {e : Expr} {es : List Expr} {F : Ex} {Fs : Exs}
/-- {x} in an f-string -/
def fmtD : D → Option D
  | .str z => if z.length ≤ 100000 then some (.str z) else none
  | .int i => if i.natAbs.log2 < 1920 then some (.str (toString i)) else none
  | _ => none
theorem de_fmt (h : PE X e (tFmt (tD G m O E F))) : PE X e (tD G m O E (unF fmtD F)) := by
  refine h.mono fun σ H Q ⟨φ, B, ρ, S, R, hp⟩ => ⟨φ, B, ρ, S, R, ?_⟩
  refine Pg.bind hp fun d S1 w B1 H1 g R1 hw h1 => ?_
  obtain ⟨r, hr, q⟩ := h1.opt
  cases d with
  | str z =>
    cases hw
    unfold fmtD at hr
    dsimp only at hr
    split at hr
    · rename_i hz
      cases hr
      exact .inl ⟨z, rfl, Nat.le_trans hz (by decide), q _ _ _ Go.refl R1 (.str _)⟩
    · cases hr
  | int i =>
    cases hw
    unfold fmtD at hr
    dsimp only at hr
    split at hr
    · rename_i hz
      cases hr
      exact .inr ⟨i, rfl, hz, q _ _ _ Go.refl R1 (.str _)⟩
    · cases hr
  | _ => cases hr
/-- the texts one behind the other -/
def jnF : List Ex → Str → Env → SrcT → Rs D
  | [], acc, _, S => .ok (.str acc) S
  | F :: Fs, acc, ρ, S => (F ρ S).bind fun d S1 => match d with
    | .str z => if (acc ++ z).length ≤ 100000 then jnF Fs (acc ++ z) ρ S1 else .bad
    | _ => .bad
def joinF (Fs : List Ex) : Ex := jnF Fs Str.empty
theorem jn_imp {Q : VK} : ∀ (Fs : List Ex) (acc : Str) {B H : Hp} {S : SrcT}, Rep G φ O σ B H ρ S → Pg G φ m O E σ ρ (DV G) B H (jnF Fs acc ρ S) Q → tJs (Fs.map (tD G m O E)) acc σ H fun out H1 => Q (.str out) H1
  | [], acc, B, H, S, R, h => h _ _ _ Go.refl R (.str _)
  | F :: Fs, acc, B, H, S, R, h => by
    refine ⟨φ, B, ρ, S, R, ?_⟩
    unfold jnF at h
    refine Pg.bind h fun d S1 w B1 H1 g R1 hw h1 => ?_
    cases d with
    | str z =>
      cases hw
      dsimp only at h1
      split at h1
      · rename_i hz
        exact ⟨z, rfl, Nat.le_trans hz (by decide), jn_imp Fs _ R1 h1⟩
      · exact h1.elim
    | _ => exact h1.elim
theorem de_joined {v1 v2 : Expr} {rest : List Expr} {Fs : List Ex} {pos : Pos} (h : PJ X (v1 :: v2 :: rest) (Fs.map (tD G m O E))) : PE X (.JoinedStr (v1 :: v2 :: rest) pos) (tD G m O E (joinF Fs)) := by
  refine (pe_joined h).mono fun σ H Q ⟨φ, B, ρ, S, R, hp⟩ => ?_
  exact jn_imp Fs _ R hp
/-- [.., *xs] -/
def seqItems : D → Option (List D)
  | .tup ds => some ds
  | .lst ds => some ds
  | _ => none
def starF (F : Ex) (Fs : Exs) : Exs := fun ρ S => (F ρ S).bind fun d S1 => match seqItems d with
  | some ds => (Fs ρ S1).bind fun es S2 => .ok (ds ++ es) S2
  | none => .bad
theorem pa_starD {p : Pos} (he : PE X e (tD G m O E F)) (hr : PA X es (tDs G m O E Fs)) (hs : starEach (.Starred e p :: es) X.env = (true, eval e X.env) :: starEach es X.env := by rfl) (hK : X.K = G.K := by rfl) : PA X (.Starred e p :: es) (tDs G m O E (starF F Fs)) := by
  refine (StX.pa_star he hr hs).mono fun σ H Q ⟨φ, B, ρ, S, R, hp⟩ => ⟨φ, B, ρ, S, R, ?_⟩
  rw [hK]
  unfold starF at hp
  refine Pg.bind hp fun d S1 w B1 H1 g R1 hw h1 => ?_
  cases d with
  | lst ds =>
    cases hw with
    | lst hb hs =>
      refine ⟨_, _, rfl, .inr (SqL.of (R1.bsH m _ _ hb)), φ, B1, ρ, S1, R1, ?_⟩
      refine Pg.bind (show Pg G φ m O E σ ρ (DVs G) B1 H1 ((Fs ρ S1).bind fun es S2 => .ok (ds ++ es) S2) Q from h1) fun ds2 S2 ws B2 H2 g2 R2 hw2 h2 => ?_
      exact h2 _ _ _ Go.refl R2 ((DVs.same (g2.bs m) hs).append hw2)
  | tup ds =>
    cases hw with
    | tup hb hs =>
      refine ⟨_, _, rfl, .inl (SqT_same (R1.bsH m) hb), φ, B1, ρ, S1, R1, ?_⟩
      refine Pg.bind (show Pg G φ m O E σ ρ (DVs G) B1 H1 ((Fs ρ S1).bind fun es S2 => .ok (ds ++ es) S2) Q from h1) fun ds2 S2 ws B2 H2 g2 R2 hw2 h2 => ?_
      exact h2 _ _ _ Go.refl R2 ((DVs.same (g2.bs m) hs).append hw2)
  | _ => exact h1.elim
theorem pa_consD (ha : PE X e (tD G m O E F)) (hr : PA X es (tDs G m O E Fs)) (hs : starEach (e :: es) X.env = (false, eval e X.env) :: starEach es X.env := by rfl) : PA X (e :: es) (tDs G m O E (consF F Fs)) := by
  refine (pa_cons ha hr hs).mono fun σ H Q ⟨φ, B, ρ, S, R, hp⟩ => ⟨φ, B, ρ, S, R, ?_⟩
  refine Pg.bind hp fun d S1 w B1 H1 g R1 hw h1 => ⟨φ, B1, ρ, S1, R1, ?_⟩
  refine Pg.bind h1 fun ds S2 ws B2 H2 g2 R2 hws h2 => Pg.ok h2 R2 (.cons (hw.same (g2.bs m)) hws)
/-- a display of at most 1000 items -/
def lstSF (Fs : Exs) : Ex := fun ρ S => (Fs ρ S).bind fun ds S1 => if ds.length ≤ 1000 then .ok (.lst ds) S1 else .bad
theorem de_lstSN {pos : Pos} (h : PA X es (tDs G m O E Fs)) : PE X (.List es pos) (tN G m O E (lstSF Fs)) := by
  refine (pe_lst h).mono fun σ H Q ⟨φ, B, ρ, S, R, hp⟩ => ⟨φ, B, ρ, S, R, ?_⟩
  unfold lstSF at hp
  refine PgN.bind hp fun ds S1 ws B1 H1 g R1 hws h1 => ?_
  split at h1
  · rename_i hl
    have hlw : ws.length ≤ 1000 := by rw [hws.len]; exact hl
    refine ⟨sz1000 hlw, fun a na => ?_⟩
    obtain ⟨R', g', n'⟩ := R1.newO (m := m) (o := .lst ws) (d := .lst ds) na hws
    exact h1 a _ B1 _ g' R' n' na
  · exact h1.elim
/-! ### the fields of a loop -/
/-- a rule of a loop, as data -/
def rTD (r : Rule) : D := .tup [.str r.st, .tup (r.gs.map .str), .str r.wd, .bl r.kp, .str r.nx]
def ansDD (rs : List Rule) (ans : List (Str × Str)) : List (Key × D) := (statesR rs).map fun s => (Sum.inr s, D.str (ansOf ans s))
def loopFD (f : Str) : D → Option D
  | .loop rs ans => if f = "own_rules" then some (.tup (rs.map rTD)) else if f = "own_answers" then some (.dct (ansDD rs ans)) else none
  | _ => none
theorem rules_dv {p : Option Addr} {B : Hp} {vs : List V} {rs : List Rule} (h : Paired (RuleT G.K B) vs rs) : DVs G p B vs (rs.map rTD) := by
  induction h with
  | nil => exact .nil
  | cons r _ ih =>
    obtain ⟨t, g, rfl, h1, h2⟩ := r
    exact .cons (.tup h1 (.cons (.str _) (.cons (.tup h2 (dvs_strs _)) (.cons (.str _) (.cons (.bl _) (.cons (.str _) .nil)))))) ih
theorem ansV_fst (rs : List Rule) (ans : List (Str × Str)) : (ansV rs ans).map Prod.fst = (ansDD rs ans).map Prod.fst := by
  unfold ansV ansDD
  rw [List.map_map, List.map_map]; rfl
theorem ansV_snd {p : Option Addr} {B : Hp} (rs : List Rule) (ans : List (Str × Str)) : DVs G p B ((ansV rs ans).map Prod.snd) ((ansDD rs ans).map Prod.snd) := by
  unfold ansV ansDD
  rw [List.map_map, List.map_map]
  generalize statesR rs = l
  induction l with
  | nil => exact .nil
  | cons a l ih => exact .cons (.str _) ih
theorem de_loopF {f : Str} (hc : Cls G.K G.cl) (hn : NoAttr G.K G.cl f) (h : PE X e (tFld X.K (tD G m O E F) f)) (hK : X.K = G.K := by rfl) : PE X e (tD G m O E (unF (loopFD f) F)) := by
  refine h.mono fun σ H Q ⟨φ, B, ρ, S, R, hp⟩ => ⟨φ, B, ρ, S, R, ?_⟩
  rw [hK]
  refine Pg.bind hp fun d S1 w B1 H1 g R1 hw h1 => ?_
  obtain ⟨r, hr, q⟩ := h1.opt
  cases hw with
  | loop hl =>
    obtain ⟨dx, ra, rd, rt, tab, k1, ⟨vs, k2, k3⟩, k4, k5, k6⟩ := hl
    have hb := R1.bsH m
    unfold loopFD at hr
    dsimp only at hr
    rename_i aa rr an2
    split at hr
    · rename_i e; subst e; cases hr
      exact ⟨aa, G.cl, dx, _, .ref ra, rfl, hb _ _ k1, hc, hn, rfl, q _ _ _ Go.refl R1 (.tup k2 (rules_dv k3))⟩
    · split at hr
      · rename_i e; subst e; cases hr
        exact ⟨aa, G.cl, dx, _, .ref rd, rfl, hb _ _ k1, hc, hn, rfl, q _ _ _ Go.refl R1 (.dct k4 (ansV_fst _ _) (ansV_snd _ _))⟩
      · cases hr
  | _ => cases hr
/-! ### the lines of the answers: a comprehension over a dict's items -/
theorem Rep.ext {H' : Hp} (R : Rep G φ O σ B H ρ S) (s : Same H H') : Rep G φ O σ B H' ρ S ∧ Go φ B H B H' := ⟨(R.more s).2, (R.more s).1⟩
theorem Rep.newX {H' : Hp} {a : Addr} {o : HO} {d : D} (R : Rep G φ O σ B H ρ S) (na : H a = none) (ha : H' a = some o) (hd : DO G φ.p (bs m φ B H') o d) : New G φ O σ m B H' S a o d := R.found na ha hd
def ansLine (x y : Str) : Str := ("answer " : Str) ++ x ++ " " ++ y
def ansLines (rs : List Rule) (ans : List (Str × Str)) : List Str := ((statesR rs).filter fun s => decide (ansOf ans s ≠ "")).map fun s => ansLine s (ansOf ans s)
def ansLinesOf (ans : List (Str × Str)) (l : List Str) : List Str := (l.filter fun s => decide (ansOf ans s ≠ "")).map fun s => ansLine s (ansOf ans s)
def ansLnF (k i j : Nat) : Ex := fun ρ S => match ρ[k]? with
  | some (some (.loop rs ans)) => if i < ρ.length ∧ j < ρ.length ∧ (statesR rs).length ≤ 1000 ∧ (∀ s ∈ statesR rs, s.length ≤ 1000 ∧ (ansOf ans s).length ≤ 1000) then .ok (.lst ((ansLines rs ans).map .str)) S else .bad
  | _ => .bad
theorem wipe2 (σ : L2.St) (i j : Nat) (x y : Option V) : wipe (((wipe σ [i, j]).set i x).set j y) [i, j] = wipe σ [i, j] := by
  apply List.ext_getElem?
  intro k
  rw [wipe_get, wipe_get]
  have hl : (((wipe σ [i, j]).set i x).set j y).length = σ.length := by rw [List.length_set, List.length_set, wipe_length]
  rw [hl]
  by_cases h : k ∈ [i, j]
  · rw [if_pos h, if_pos h]
  · rw [if_neg h, if_neg h]
    have hi : i ≠ k := fun e => h (by simp [e])
    have hj : j ≠ k := fun e => h (by simp [e])
    rw [List.getElem?_set_ne hj, List.getElem?_set_ne hi, wipe_get, if_neg h]
theorem take_snocT {α : Type} {l : List α} {n : Nat} {x : α} (h : l[n]? = some x) : l.take (n + 1) = l.take n ++ [x] := by
  rw [List.take_add_one, h]; rfl
theorem ansLinesOf_snoc (ans : List (Str × Str)) (l : List Str) (s : Str) : ansLinesOf ans (l ++ [s]) = if ansOf ans s ≠ "" then ansLinesOf ans l ++ [ansLine s (ansOf ans s)] else ansLinesOf ans l := by
  unfold ansLinesOf
  rw [List.filter_append]
  by_cases h : ansOf ans s ≠ ""
  · rw [if_pos h, List.filter_cons_of_pos (by simpa using h), List.map_append]; rfl
  · rw [if_neg h, List.filter_cons_of_neg (by simpa using h), List.filter_nil, List.append_nil]
theorem de_ansN {k i j : Nat} {tt : TT} {te : TE} (hk : k ∉ O) (hij : i ≠ j) (hc : Cls G.K G.cl) (hn : NoAttr G.K G.cl "own_answers")
    (ht : ∀ σ H Q z, σ[j]? = some (some (.str z)) → Q (decide (z ≠ "")) H → tt σ H Q)
    (he : ∀ σ H Q x y, σ[i]? = some (some (.str x)) → σ[j]? = some (some (.str y)) → x.length ≤ 1000 → y.length ≤ 1000 → Q (.str (ansLine x y)) H → te σ H Q)
    (hki : k ≠ i) (hkj : k ≠ j) (h : PE X e (tLockE (tLc (iItems (tFld X.K (tVar k) "own_answers")) (gTup X.K 2 (gCons (gName i) (gCons (gName j) gNil))) tt te [i, j]))) (hK : X.K = G.K := by rfl) : PE X e (tN G m O E (ansLnF k i j)) := by
  refine h.mono fun σ H Q ⟨φ, B, ρ, S, R, hp⟩ => ?_
  rw [hK]
  unfold ansLnF at hp
  split at hp
  · rename_i rs ans hk0
    split at hp
    · rename_i hcond
      obtain ⟨hi, hj, hl, hz⟩ := hcond
      obtain ⟨v, hv, hdv⟩ := R.val k _ hk hk0
      cases hdv with
      | @loop a _ _ hL =>
      obtain ⟨dx, ra, rd, rt, tab, k1, k2, k3, k4, k5⟩ := hL.same R.sub
      refine ⟨rd, .dK (ansV rs ans), k3, True.intro, fun od => ?_⟩
      have ne : a ≠ rd := fun e => by rw [e, k3] at k1; cases k1
      generalize hHL : upd H rd (.frz od (.dK (ansV rs ans))) = HL
      have frzAt : HL rd = some (.frz od (.dK (ansV rs ans))) := by rw [← hHL]; exact upd_same
      have other : ∀ c, c ≠ rd → HL c = H c := fun c hc => by rw [← hHL]; exact upd_ne hc
      refine ⟨_, hv, a, G.cl, dx, _, .ref rd, rfl, by rw [other _ ne]; exact k1, hc, hn, rfl, rd, od, _, rfl, frzAt, fun D hD => ?_⟩
      have nD : H D = none := by
        have : D ≠ rd := fun e => by rw [e, frzAt] at hD; cases hD
        rw [← other _ this]; exact hD
      have hsn : σ.length = ρ.length := R.len
      refine ⟨fun n mm Hc => n ≤ (statesR rs).length ∧ mm = (statesR rs).length - n ∧ Same HL Hc ∧ Hc D = some (.lst ((ansLinesOf ans ((statesR rs).take n)).map V.str)), ⟨_, Nat.zero_le _, rfl, same_new hD, by simp [upd_same, ansLinesOf]⟩, ?_⟩
      rintro n mm Hc ⟨hn1, rfl, hs, hA⟩
      have hlen : (ansV rs ans).length = (statesR rs).length := by unfold ansV; rw [List.length_map]
      by_cases hlt : n < (statesR rs).length
      · refine .inr ⟨⟨hs _ _ frzAt, by rw [hlen]; exact hlt⟩, fun H' => Same HL H' ∧ H' D = some (.lst ((ansLinesOf ans ((statesR rs).take (n + 1))).map V.str)), fun H' hh => ⟨_, (by omega : (statesR rs).length - (n + 1) < _), hlt, rfl, hh⟩, ?_⟩
        rintro x H' ⟨T, kk, vv, hkv, rfl, nT, rfl⟩
        obtain ⟨s, hs0⟩ : ∃ s, (statesR rs)[n]? = some s := ⟨_, List.getElem?_eq_getElem hlt⟩
        have hkv' : (ansV rs ans)[n]? = some (Sum.inr s, V.str (ansOf ans s)) := by unfold ansV; rw [List.getElem?_map, hs0]; rfl
        rw [hkv'] at hkv
        cases hkv
        have hsm : s ∈ statesR rs := List.mem_of_getElem? hs0
        refine ⟨T, _, rfl, SqT.of upd_same, rfl, _, _, rfl, _, _, rfl, rfl, wipe2 _ _ _ _ _, ?_⟩
        have TD : T ≠ D := fun e => by rw [e, hA] at nT; cases nT
        have hsT : Same HL (upd Hc T (.tup [kV (Sum.inr s), V.str (ansOf ans s)])) := fun c x h => upd_keep (hs _ _ h) nT
        have hAT : (upd Hc T (.tup [kV (Sum.inr s), V.str (ansOf ans s)])) D = some (.lst ((ansLinesOf ans ((statesR rs).take n)).map V.str)) := by rw [upd_ne (Ne.symm TD)]; exact hA
        have g1 : (((wipe σ [i, j]).set i (some (kV (Sum.inr s)))).set j (some (V.str (ansOf ans s))))[i]? = some (some (.str s)) := by
          rw [List.getElem?_set_ne (Ne.symm hij), List.getElem?_set_self (by rw [wipe_length, hsn]; exact hi)]; rfl
        have g2 : (((wipe σ [i, j]).set i (some (kV (Sum.inr s)))).set j (some (V.str (ansOf ans s))))[j]? = some (some (.str (ansOf ans s))) := by
          rw [List.getElem?_set_self (by rw [List.length_set, wipe_length, hsn]; exact hj)]
        refine ht _ _ _ _ g2 ?_
        rw [take_snocT hs0, ansLinesOf_snoc]
        by_cases hne : ansOf ans s ≠ ""
        · rw [if_pos hne, decide_eq_true hne, if_pos rfl]
          refine he _ _ _ _ _ g1 g2 (hz s hsm).1 (hz s hsm).2 ⟨_, hAT, ?_, ?_⟩
          · refine small1000 ?_
            rw [List.length_map]
            unfold ansLinesOf
            rw [List.length_map]
            exact Nat.le_trans (List.length_filter_le _ _) (Nat.le_trans (List.length_take_le _ _) (by omega))
          · refine ⟨fun c x h => ?_, by rw [upd_same, List.map_append]; rfl⟩
            have : c ≠ D := fun e => by rw [e, hD] at h; cases h
            rw [upd_ne this]; exact hsT _ _ h
        · rw [if_neg hne, decide_eq_false hne]
          rw [if_neg (by decide)]
          exact ⟨hsT, hAT⟩
      · have e : n = (statesR rs).length := by omega
        subst e
        refine .inl ⟨⟨hs _ _ frzAt, by rw [hlen]; exact Nat.le_refl _⟩, hs _ _ frzAt, ?_⟩
        have sm : Same H (upd Hc rd (.dK (ansV rs ans))) := fun c x h => by
          by_cases e : c = rd
          · rw [e, upd_same]; rw [e, k3] at h; exact h
          · rw [upd_ne e]; exact hs _ _ (by rw [other _ e]; exact h)
        obtain ⟨R', g'⟩ := R.ext sm
        have Drd : D ≠ rd := fun e => by rw [e, frzAt] at hD; cases hD
        refine hp D _ B _ g' R' (R.newX (o := .lst ((ansLines rs ans).map V.str)) nD ?_ ?_) nD
        · rw [upd_ne Drd, hA, List.take_length]; rfl
        · exact show DVs G φ.p _ ((ansLines rs ans).map V.str) ((ansLines rs ans).map NL.D.str) from dvs_strs _
    · exact hp.elim
  · exact hp.elim
end
end
end NL
/-! ### == of lists and dicts with dicts among them -/
namespace NL
noncomputable section
open PySem L2
def deepOk (p : PyData) : Bool := SeqAt.shaped p && decide (p.depth ≤ 60)
def eqS (d1 d2 : D) : Option Bool := match toP d1, toP d2 with
  | some p1, some p2 => if (deepOk p1 && deepOk p2) = true then some (PyData.eqv p1 p2) else none
  | _, _ => none
def eqKs (fs : List (Key × D)) : List (Key × D) → Option Bool
  | [] => some true
  | (k, v) :: r => match valE fs k with
    | none => some false
    | some y => match eqS v y, eqKs fs r with
      | some a, some b => some (a && b)
      | _, _ => none
def eqI (d1 d2 : D) : Option Bool := match d1, d2 with
  | .dct es, .dct fs => if es.length = fs.length then eqKs fs es else some false
  | d1, d2 => eqS d1 d2
/-- within a list: dicts that are unlike are left out -/
def eqJ (d1 d2 : D) : Option Bool := match d1, d2 with
  | .dct es, .dct fs => if eqI (.dct es) (.dct fs) = some true then some true else none
  | d1, d2 => eqS d1 d2
def eqIs : List D → List D → Option Bool
  | [], [] => some true
  | a :: as, b :: bs => match eqJ a b, eqIs as bs with
    | some x, some y => some (x && y)
    | _, _ => none
  | _, _ => none
def eqX (d1 d2 : D) : Option D := match d1, d2 with
  | .lst as, .lst bs => (eqIs as bs).map .bl
  | d1, d2 => (eqI d1 d2).map .bl
section
variable {X : Cx} {pins : List (Addr × Obj)} {σ : L2.St} {H B : Hp} {s : Shared} {G : Gm} {p : Option Addr}
theorem eqS_run (I : Inv X pins σ H s) (hK : X.K = G.K) (hs : Same B H) {A : Around} (hu : A.units + 60 < cLine) {d1 d2 : D} {x y : V} {v u : Value} {b : Bool} (h1 : DV G p B x d1) (h2 : DV G p B y d2) (e : eqS d1 d2 = some b) (rx : RelV x v) (ry : RelV y u) : SeqAt.EqP X.prog X.w A s v u b := by
  unfold eqS at e
  split at e
  · rename_i p1 p2 e1 e2
    split at e
    · rename_i hd
      cases e
      unfold deepOk at hd
      simp only [Bool.and_eq_true, decide_eq_true_eq] at hd
      obtain ⟨⟨a1, a2⟩, b1, b2⟩ := hd
      obtain ⟨as, r1⟩ := Dp.reads I p1 x v (by rw [hK]; exact (h1.same hs).dp e1) rx
      obtain ⟨bs, r2⟩ := Dp.reads I p2 y u (by rw [hK]; exact (h2.same hs).dp e2) ry
      have hm : min p1.depth p2.depth ≤ p1.depth := Nat.min_le_left _ _
      exact (SeqAt.eqAt_reads p1 p2 A s v u as bs r1 r2 (SeqAt.canLay_of_shaped a1) (SeqAt.canLay_of_shaped b1) (by omega)).eqP
    · cases e
  · cases e
theorem eqKs_run (I : Inv X pins σ H s) (hK : X.K = G.K) (hs : Same B H) {A : Around} (hu : A.units + 60 < cLine) {ls : List (Key × V)} {fs : List (Key × D)} (f1 : ls.map Prod.fst = fs.map Prod.fst) (f2 : DVs G p B (ls.map Prod.snd) (fs.map Prod.snd)) {vb : List (Key × Value)} (rb : KV ls vb) :
    ∀ {ks : List (Key × V)} {es : List (Key × D)} {va : List (Key × Value)} {b : Bool}, ks.map Prod.fst = es.map Prod.fst → DVs G p B (ks.map Prod.snd) (es.map Prod.snd) → KV ks va → eqKs fs es = some b → PySem.W.KeqHitsP X.prog X.w A s vb va b := by
  intro ks es va b g1 g2 ra
  unfold KV at ra
  induction ra generalizing es b with
  | nil =>
    intro e
    cases es with
    | nil => cases e; exact .nil
    | cons _ _ => cases g1
  | @cons k q ks qs h t ih =>
    intro e
    cases es with
    | nil => cases g1
    | cons z es =>
      obtain ⟨kk, kv⟩ := k
      obtain ⟨zk, zv⟩ := z
      obtain ⟨key, v⟩ := q
      obtain ⟨h1, h2⟩ := h
      have h1 : kk = key := h1
      simp only [List.map_cons, List.cons.injEq] at g1
      obtain ⟨g1a, g1b⟩ := g1
      cases g2 with
      | cons gv gr =>
      have g1a : kk = zk := g1a
      subst h1 g1a
      unfold eqKs at e
      rcases dk_val (k := kk) f1 f2 with ⟨n1, n2⟩ | ⟨w, d, n1, n2, dv⟩
      · rw [n2] at e
        cases e
        have rr : RelO (valV ls kk) (valueAt vb kk) := rb.val kk
        rw [n1] at rr
        refine .miss ?_
        cases hv : valueAt vb kk with
        | none => rfl
        | some y => rw [hv] at rr; exact rr.elim
      · rw [n2] at e
        dsimp only at e
        have rr : RelO (valV ls kk) (valueAt vb kk) := rb.val kk
        rw [n1] at rr
        obtain ⟨y, hy, ry⟩ := rr.some_of
        split at e
        · rename_i a b e1 e2
          cases e
          exact .hit hy (eqS_run I hK hs hu gv dv e1 h2 ry) (ih g1b gr e2)
        · cases e
theorem eqD_dicts (I : Inv X pins σ H s) (hK : X.K = G.K) (hs : Same B H) {A : Around} (hu : A.units + 61 < cLine) {es fs : List (Key × D)} {b : Bool} {a1 a2 : Addr} (h1 : DV G p B (.ref a1) (.dct es)) (h2 : DV G p B (.ref a2) (.dct fs)) (e : eqI (.dct es) (.dct fs) = some b)
    (E Q : Value → Shared → Prop) (q : Q (.bool b) s) : wpAny (model X.prog X.w) A (richCompare .Eq (.ref a1) (.ref a2)) Q E s := by
  cases h1 with
  | dct ha f1 f2 =>
  cases h2 with
  | dct hb g1 g2 =>
  obtain ⟨_, ya, va, ra, da⟩ := (show ObjOk X.prog X.w H s.heap a1 (.dK _) from I.hok a1 _ (hs _ _ ha))
  obtain ⟨_, yb, vb, rb, db⟩ := (show ObjOk X.prog X.w H s.heap a2 (.dK _) from I.hok a2 _ (hs _ _ hb))
  have l1 : va.length = es.length := by rw [← ra.length]; simpa using congrArg List.length f1
  have l2 : vb.length = fs.length := by rw [← rb.length]; simpa using congrArg List.length g1
  unfold eqI at e
  dsimp only at e
  split at e
  · rename_i hl
    refine PySem.W.rcP_dicts (knd := mixKind X.prog X.w) (r := b) ya yb da db (by omega) (fun _ => eqKs_run I hK hs (A := A.in1) (by show A.units + 1 + 60 < cLine; omega) g1 g2 rb f1 f2 ra e) E Q ?_
    rw [l1, l2, hl]; simpa using q
  · rename_i hl
    cases e
    refine PySem.W.rcP_dicts (knd := mixKind X.prog X.w) (r := true) ya yb da db (by omega) (fun z => absurd (by rw [← l1, ← l2]; exact z) hl) E Q ?_
    rw [l1, l2]
    rw [show (es.length == fs.length) = false from by simpa using hl]
    exact q
theorem eqJ_run (I : Inv X pins σ H s) (hK : X.K = G.K) (hs : Same B H) {A : Around} (hu : A.units + 61 < cLine) {d1 d2 : D} {x y : V} {v u : Value} {b : Bool} (h1 : DV G p B x d1) (h2 : DV G p B y d2) (e : eqJ d1 d2 = some b) (rx : RelV x v) (ry : RelV y u) : SeqAt.EqP X.prog X.w A s v u b := by
  unfold eqJ at e
  split at e
  · rename_i es fs
    split at e
    · rename_i hb
      cases e
      have hx : ∃ a1, x = .ref a1 := by cases h1; exact ⟨_, rfl⟩
      have hy : ∃ a2, y = .ref a2 := by cases h2; exact ⟨_, rfl⟩
      obtain ⟨a1, rfl⟩ := hx
      obtain ⟨a2, rfl⟩ := hy
      cases (show v = Value.ref a1 from rx)
      cases (show u = Value.ref a2 from ry)
      by_cases ea : a1 = a2
      · subst ea
        exact (SeqAt.EqAt.same _).eqP
      · exact SeqAt.eqP_refs ea (eqD_dicts I hK hs hu h1 h2 hb)
    · cases e
  · exact eqS_run I hK hs (by omega) h1 h2 e rx ry
theorem eqIs_run (I : Inv X pins σ H s) (hK : X.K = G.K) (hs : Same B H) {A : Around} (hu : A.units + 61 < cLine) : ∀ {as bs : List D} {b : Bool} {xs ys : List V} {us ws : List Value}, DVs G p B xs as → DVs G p B ys bs → Vals xs us → Vals ys ws → eqIs as bs = some b →
    as.length = bs.length ∧ ∃ e : Nat → Bool, (∀ j (h1 : j < us.length) (h2 : j < ws.length), SeqAt.EqP X.prog X.w A s us[j] ws[j] (e j)) ∧ (List.range us.length).all e = b
  | [], [], b, xs, ys, us, ws, h1, h2, r1, r2, h => by
    cases h1; cases h2; cases r1; cases r2; cases h
    exact ⟨rfl, fun _ => true, fun j h => absurd h (Nat.not_lt_zero j), rfl⟩
  | a :: as, c :: cs, b, xs, ys, us, ws, h1, h2, r1, r2, h => by
    cases h1 with
    | cons g1 gs1 =>
    cases h2 with
    | cons g2 gs2 =>
    cases r1 with
    | cons q1 qs1 =>
    cases r2 with
    | cons q2 qs2 =>
    unfold eqIs at h
    split at h
    · rename_i b1 b2 e1 e2
      cases h
      obtain ⟨hl, e, he, hr⟩ := eqIs_run I hK hs hu gs1 gs2 qs1 qs2 e2
      have hd := eqJ_run I hK hs hu g1 g2 e1 q1 q2
      refine ⟨by simp [hl], fun j => match j with | 0 => b1 | j + 1 => e j, fun j k1 k2 => ?_, ?_⟩
      · cases j with
        | zero => exact hd
        | succ j => exact he j (Nat.lt_of_succ_lt_succ k1) (Nat.lt_of_succ_lt_succ k2)
      · rw [List.length_cons, List.range_succ_eq_map, List.all_cons, List.all_map, ← hr]
        rfl
    · cases h
  | [], _ :: _, _, _, _, _, _, _, _, _, _, h => by cases h
  | _ :: _, [], _, _, _, _, _, _, _, _, _, h => by cases h
/-- x == y, by the data -/
def rEqX (G : Gm) : R2 := fun x y H Q => ∃ p B d1 d2 b, Same B H ∧ DV G p B x d1 ∧ DV G p B y d2 ∧ eqX d1 d2 = some (.bl b) ∧ Q (.bl b) H
theorem op_eqX (hu : X.A.units + 64 < cLine) (hK : X.K = G.K := by rfl) : OpR X (compareOp .Eq) (rEqX G) := by
  intro pins s σ H x y v u Q I rx ry h
  obtain ⟨p, B, d1, d2, b, hs, h1, h2, e, q⟩ := h
  unfold eqX at e
  split at e
  · rename_i as bs
    obtain ⟨b', e', eb⟩ := Option.map_eq_some_iff.mp e
    cases eb
    cases h1 with
    | lst ha hxs =>
    cases h2 with
    | lst hb hys =>
    rename_i aa xs ab ys
    cases (show v = Value.ref aa from rx)
    cases (show u = Value.ref ab from ry)
    obtain ⟨us, r1, p1, _⟩ := I.list (SqL.of (K := X.K) (hs _ _ ha))
    obtain ⟨ws, r2, p2, _⟩ := I.list (SqL.of (K := X.K) (hs _ _ hb))
    obtain ⟨hl, ee, he, hr⟩ := eqIs_run I hK hs (A := X.A.in1) (by show X.A.units + 1 + 61 < cLine; omega) hxs hys r1 r2 e'
    have hsz : us.toArray.size = ws.toArray.size := by
      rw [List.size_toArray, List.size_toArray, ← r1.length, ← r2.length, hxs.len, hys.len]; exact hl
    refine SeqAt.rcP_lists (e := ee) p1.isList p2.isList hsz (by omega) (fun j k1 k2 => ?_) X.xe _ ?_
    · have k := he j (by simpa using k1) (by simpa using k2)
      simpa using k
    · rw [List.size_toArray, hr]
      exact ⟨.bl _, H, I, rfl, q⟩
  · obtain ⟨b', e', eb⟩ := Option.map_eq_some_iff.mp e
    cases eb
    unfold eqI at e'
    split at e'
    · rename_i es fs _
      have hx : ∃ a1, x = .ref a1 := by cases h1; exact ⟨_, rfl⟩
      have hy : ∃ a2, y = .ref a2 := by cases h2; exact ⟨_, rfl⟩
      obtain ⟨a1, rfl⟩ := hx
      obtain ⟨a2, rfl⟩ := hy
      cases (show v = Value.ref a1 from rx)
      cases (show u = Value.ref a2 from ry)
      exact eqD_dicts I hK hs (A := X.A) (by omega) h1 h2 (by unfold eqI; exact e') X.xe _ ⟨.bl _, H, I, rfl, q⟩
    · unfold eqS at e'
      split at e'
      · rename_i p1 p2 e1 e2
        split at e'
        · rename_i hd
          cases e'
          unfold deepOk at hd
          simp only [Bool.and_eq_true, decide_eq_true_eq] at hd
          obtain ⟨⟨a1, a2⟩, b1, b2⟩ := hd
          obtain ⟨as, r1⟩ := Dp.reads I p1 x v (by rw [hK]; exact (h1.same hs).dp e1) rx
          obtain ⟨bs, r2⟩ := Dp.reads I p2 y u (by rw [hK]; exact (h2.same hs).dp e2) ry
          exact SeqAt.compareEq_shaped r1 r2 a1 b1 hu ⟨.bl _, H, I, rfl, q⟩
        · cases e'
      · cases e'
theorem bin_eqX {m m' : Bool} : Bin2 G m m' (rEqX G) eqX := by
  intro φ O σ B H ρ S v1 v2 d1 d2 d Q R h1 h2 e q
  have hb : ∃ b, d = .bl b := by
    unfold eqX at e
    split at e
    · obtain ⟨b, _, eb⟩ := Option.map_eq_some_iff.mp e; exact ⟨b, eb.symm⟩
    · obtain ⟨b, _, eb⟩ := Option.map_eq_some_iff.mp e; exact ⟨b, eb.symm⟩
  obtain ⟨b, rfl⟩ := hb
  exact ⟨φ.p, _, d1, d2, b, R.bsH m, h1, h2, e, q _ _ _ Go.refl R (.bl _)⟩
end
end
end NL
/-! ### methods and properties of own objects, as data -/
namespace NL
noncomputable section
open PySem L2
section
variable {G : Gm} {φ : Fr} {m : Bool} {O : List Nat} {E E' : XK} {σ : L2.St} {ρ : Env} {B H : Hp} {S : SrcT} {X : Cx} {e : Expr} {es : List Expr} {F : Ex} {Fs : Exs} {C : Addr} {p : D → Bool} {mn : Str}
/-- p tells the data that stand for instances of the class at C that have no field m -/
def InsM (G : Gm) (C : Addr) (p : D → Bool) (mn : Str) : Prop := ∀ {q : Option Addr} {B : Hp} {v : V} {d : D}, DV G q B v d → p d = true → ∃ a dx fs, v = .ref a ∧ B a = some (.ins C dx fs) ∧ fs.lookup mn = none
theorem insLoopM (h : (["own_rules", "own_answers", "table"] : List Str).contains mn = false) : InsM G G.cl isLoopK mn := fun hd hp => by
  cases hd with
  | loop hl =>
    obtain ⟨dx, ra, rd, rt, tab, h1, _⟩ := hl
    refine ⟨_, _, _, rfl, h1, ?_⟩
    simp only [List.contains_cons, List.contains_nil, Bool.or_false, Bool.or_eq_false_iff] at h
    simp [List.lookup_cons, h.1, h.2.1, h.2.2]
  | _ => cases hp
def methF (f : List D → SrcT → Rs D) (p : D → Bool) (F : Ex) (Fs : Exs) : Ex := fun ρ S => (F ρ S).bind fun d S1 => if p d = true then (Fs ρ S1).bind fun ds S2 => f (d :: ds) S2 else .bad
def propF (f : List D → SrcT → Rs D) (p : D → Bool) (F : Ex) : Ex := fun ρ S => (F ρ S).bind fun d S1 => if p d = true then f [d] S1 else .bad
theorem de_meth {f : List D → SrcT → Rs D} (hp : InsM G C p mn) (h : PE X e (tMeth C mn (spD G f) [] E (tD G false O E F) (tDs G false O E Fs))) (hv0 : G.v = false := by rfl) : PE X e (tD G false O E (methF f p F Fs)) := by
  refine h.mono fun σ H Q ⟨φ, B, ρ, S, R, hp'⟩ => ⟨φ, B, ρ, S, R, ?_⟩
  refine Pg.bind hp' fun d S1 w B1 H1 g R1 hw h1 => ?_
  split at h1
  · rename_i hd
    obtain ⟨a, dx, fs, rfl, ha, hl⟩ := hp hw hd
    refine ⟨a, dx, fs, rfl, R1.bsH false _ _ ha, hl, φ, B1, ρ, S1, R1, ?_⟩
    refine Pg.bind h1 fun ds S2 ws B2 H2 g2 R2 hws h2 => ?_
    rw [List.append_nil]
    exact sp_call R2 (.cons (hw.same (g2.bs false)) hws) h2 hv0
  · exact h1.elim
theorem de_meth0 {f : List D → SrcT → Rs D} (hp : InsM G C p mn) (h : PE X e (tMeth C mn (spD G f) [] E (tD G false O E F) tNil)) (hv0 : G.v = false := by rfl) : PE X e (tD G false O E (propF f p F)) := by
  refine h.mono fun σ H Q ⟨φ, B, ρ, S, R, hp'⟩ => ⟨φ, B, ρ, S, R, ?_⟩
  refine Pg.bind hp' fun d S1 w B1 H1 g R1 hw h1 => ?_
  split at h1
  · rename_i hd
    obtain ⟨a, dx, fs, rfl, ha, hl⟩ := hp hw hd
    refine ⟨a, dx, fs, rfl, R1.bsH false _ _ ha, hl, ?_⟩
    exact sp_call R1 (.cons hw .nil) h1 hv0
  · exact h1.elim
theorem de_propO {f : List D → SrcT → Rs D} (hp : InsK G C p) (h : PE X e (tProp C (spD G f) [] E (tD G false O E F))) (hv0 : G.v = false := by rfl) : PE X e (tD G false O E (propF f p F)) := by
  refine h.mono fun σ H Q ⟨φ, B, ρ, S, R, hp'⟩ => ⟨φ, B, ρ, S, R, ?_⟩
  refine Pg.bind hp' fun d S1 w B1 H1 g R1 hw h1 => ?_
  split at h1
  · rename_i hd
    obtain ⟨a, dx, fs, rfl, ha⟩ := hp hw hd
    refine ⟨a, dx, fs, rfl, R1.bsH false _ _ ha, ?_⟩
    exact sp_call R1 (.cons hw .nil) h1 hv0
  · exact h1.elim
/-- loop.answers: a new dict -/
theorem de_answersN {sp : Sp} (hsp : ∀ (H : Hp) (Q : VK) (a : Addr) (rs : List Rule) (ans : List (Str × Str)), LoopAt G.K G.cl H a rs ans → (∀ d, H d = none → Q (.ref d) (upd H d (.dK (ansV rs ans)))) → sp [.ref a] H Q E') (h : PE X e (tProp G.cl sp [] E' (tD G m O E F))) : PE X e (tN G m O E (unF (loopFD "own_answers") F)) := by
  refine h.mono fun σ H Q ⟨φ, B, ρ, S, R, hp⟩ => ⟨φ, B, ρ, S, R, ?_⟩
  refine PgN.bind hp fun d S1 w B1 H1 g R1 hw h1 => ?_
  obtain ⟨r, hr, q⟩ := h1.opt
  cases hw with
  | loop hl =>
    cases hr
    obtain ⟨dx, ra, rd, rt, tab, k1, k2⟩ := id hl
    refine ⟨_, dx, _, rfl, R1.bsH m _ _ k1, hsp _ _ _ _ _ (hl.same (R1.bsH m)) fun a na => ?_⟩
    obtain ⟨R', g', n'⟩ := R1.newO (m := m) (o := .dK (ansV _ _)) (d := .dct (ansDD _ _)) na ⟨ansV_fst _ _, ansV_snd _ _⟩
    exact q a _ _ _ g' R' n' na
  | _ => cases hr
/-- list(d): the keys -/
def kyD : Key → D
  | .inl i => .int i
  | .inr z => .str z
def listKD : List D → Option D
  | [.dct es] => if es.length ≤ 1000 then some (.lst (es.map fun q => kyD q.1)) else none
  | _ => none
theorem keys_dv {q : Option Addr} {B : Hp} : ∀ {kvs : List (Key × V)} {es : List (Key × D)}, kvs.map Prod.fst = es.map Prod.fst → DVs G q B (kvs.map fun z => kV z.1) (es.map fun z => kyD z.1)
  | [], [], _ => .nil
  | (k, v) :: kvs, (k2, d) :: es, h => by
    simp only [List.map_cons, List.cons.injEq] at h
    obtain ⟨h1, h2⟩ := h
    have h1 : k = k2 := h1
    subst h1
    refine .cons ?_ (keys_dv h2)
    cases k with
    | inl i => exact .int i
    | inr z => exact .str z
  | [], _ :: _, h => by cases h
  | _ :: _, [], h => by cases h
def rListK : List V → Hp → VK → Prop := fun xs H Q => ∃ (a : Addr) (kvs : List (Key × V)), xs = [.ref a] ∧ Rd H a (.dK kvs) ∧ ∀ p, H p = none → Q (.ref p) (upd H p (.lst (kvs.map fun kv => kV kv.1)))
theorem arg_listKN {m' : Bool} : ArgNN G m m' rListK listKD := by
  intro φ O σ B H ρ S vs ds d Q R hv e q
  unfold listKD at e
  split at e
  · cases hv with | cons h1 h2 =>
    cases h2; cases h1 with | dct ha hf hs =>
    split at e
    · cases e
      refine ⟨_, _, rfl, .inl (R.bsH m _ _ ha), fun a na => ?_⟩
      obtain ⟨R', g', n'⟩ := R.newO (m := m') (o := .lst _) (d := .lst _) na (keys_dv hf)
      exact q a _ _ _ g' R' n' na
    · cases e
  · cases e
theorem call_listKG (hc : X.calm = true) : CallR X (.type "list") rListK := call_listD hc
/-! the two parts of the comprehension of the answers' lines -/
theorem ans_ht {j : Nat} : ∀ (σ : L2.St) (H : Hp) (Q : Bool → Hp → Prop) (z : Str), σ[j]? = some (some (.str z)) → Q (decide (z ≠ "")) H → tTest (tOp rNe (tVar j) (tC (.str ""))) σ H Q := fun σ H Q z h q => by
  refine ⟨_, h, rfl, _, rfl, ?_⟩
  have e : (!decide (V.str z = V.str "")) = decide (z ≠ "") := by
    by_cases hz : z = ""
    · subst hz; simp
    · have : ¬ V.str z = V.str "" := fun e => hz (by injection e)
      simp [hz, this]
  rw [e]; exact q
theorem ans_he {i j : Nat} : ∀ (σ : L2.St) (H : Hp) (Q : VK) (x y : Str), σ[i]? = some (some (.str x)) → σ[j]? = some (some (.str y)) → x.length ≤ 1000 → y.length ≤ 1000 → Q (.str (ansLine x y)) H →
    (fun σ H (Q : VK) => tJs [tC (.str "answer "), tFmt (tVar i), tC (.str " "), tFmt (tVar j)] Str.empty σ H fun out H1 => Q (.str out) H1) σ H Q := fun σ H Q x y h1 h2 l1 l2 q => by
  have big : (100000 : Nat) ≤ sizeLine := by decide
  have a1 : (Str.empty ++ ("answer " : Str)).length = 7 := by decide
  refine ⟨_, rfl, by rw [a1]; omega, _, h1, .inl ⟨x, rfl, by omega, _, rfl, ?_, _, rfl, ?_, _, h2, .inl ⟨y, rfl, by omega, _, rfl, ?_, ?_⟩⟩⟩
  · rw [Str.length_append, a1]; omega
  · rw [Str.length_append, Str.length_append, a1]
    have : (" " : Str).length = 1 := by decide
    omega
  · rw [Str.length_append, Str.length_append, Str.length_append, a1]
    have : (" " : Str).length = 1 := by decide
    omega
  · have e : Str.empty ++ ("answer " : Str) = "answer " := by decide
    rw [e]; exact q
end
end
end NL
/-! ### plain steps: f-strings, stars, methods, properties, == of dicts -/
namespace NL
noncomputable section
open PySem L2 Law
section
variable {ρ : Env} {S : SrcT} {F : Ex} {Fs : Exs} {P : D → SrcT → Prop} {Ps : List D → SrcT → Prop} {p : D → Bool} {f : List D → SrcT → Rs D}
theorem jn_nil {acc : Str} (h : P (.str acc) S) : (jnF [] acc ρ S).sat P := h
theorem jn_cons {acc : Str} {Fl : List Ex} (h : (F ρ S).sat fun d S1 => ∃ z, d = .str z ∧ (acc ++ z).length ≤ 100000 ∧ (jnF Fl (acc ++ z) ρ S1).sat P) : (jnF (F :: Fl) acc ρ S).sat P := by
  unfold jnF; rw [sat_bind]
  refine h.mono fun d S1 ⟨z, e, hz, h1⟩ => ?_
  subst e
  dsimp only
  rw [if_pos hz]; exact h1
theorem joinF_sat {Fl : List Ex} (h : (jnF Fl Str.empty ρ S).sat P) : (joinF Fl ρ S).sat P := h
theorem starF_sat (h : (F ρ S).sat fun d S1 => ∃ ds, seqItems d = some ds ∧ (Fs ρ S1).sat fun es S2 => Ps (ds ++ es) S2) : (starF F Fs ρ S).sat Ps := by
  unfold starF; rw [sat_bind]
  refine h.mono fun d S1 ⟨ds, e, h1⟩ => ?_
  rw [e]; dsimp only; rw [sat_bind]; exact h1
theorem lstSF_sat (h : (Fs ρ S).sat fun ds S1 => ds.length ≤ 1000 ∧ P (.lst ds) S1) : (lstSF Fs ρ S).sat P := by
  unfold lstSF; rw [sat_bind]
  refine h.mono fun ds S1 ⟨e, h1⟩ => ?_
  rw [if_pos e]; exact h1
theorem propF_sat (h : (F ρ S).sat fun d S1 => p d = true ∧ (f [d] S1).sat P) : (propF f p F ρ S).sat P := by
  unfold propF; rw [sat_bind]
  refine h.mono fun ds S1 ⟨e, h1⟩ => ?_
  rw [if_pos e]; exact h1
theorem methF_sat (h : (F ρ S).sat fun d S1 => p d = true ∧ (Fs ρ S1).sat fun ds S2 => (f (d :: ds) S2).sat P) : (methF f p F Fs ρ S).sat P := by
  unfold methF; rw [sat_bind]
  refine h.mono fun ds S1 ⟨e, h1⟩ => ?_
  rw [if_pos e, sat_bind]; exact h1
theorem ansLnF_sat {k i j : Nat} {rs : List Rule} {ans : List (Str × Str)} (hk : ρ[k]? = some (some (.loop rs ans))) (hc : i < ρ.length ∧ j < ρ.length ∧ (statesR rs).length ≤ 1000 ∧ (∀ s ∈ statesR rs, s.length ≤ 1000 ∧ (ansOf ans s).length ≤ 1000)) (h : P (.lst ((ansLines rs ans).map .str)) S) : (ansLnF k i j ρ S).sat P := by
  unfold ansLnF; rw [hk]; dsimp only; rw [if_pos hc]; exact h
end
/-! == -/
theorem eqS_same {d : D} (h : fineN 60 d) : eqS d d = some true := by
  obtain ⟨p, h1, h2, h3⟩ := h
  have hs : SeqAt.shaped p = true := shaped_of h2 (by omega)
  unfold eqS
  rw [h1]
  dsimp only
  have hd : deepOk p = true := by unfold deepOk; rw [hs]; simp [h3]
  rw [hd]
  simp [eqv_same hs]
theorem valE_of {fs : List (Key × D)} {k : Key} {v : D} (nd : (fs.map Prod.fst).Nodup) (h : (k, v) ∈ fs) : valE fs k = some v := by
  induction fs with
  | nil => cases h
  | cons a fs ih =>
    obtain ⟨k2, v2⟩ := a
    rw [List.map_cons, List.nodup_cons] at nd
    unfold valE
    rw [List.find?_cons]
    rcases List.mem_cons.mp h with h | h
    · cases h; simp
    · have ne : k2 ≠ k := fun e => nd.1 (by rw [e]; exact List.mem_map.mpr ⟨(k, v), h, rfl⟩)
      rw [decide_eq_false ne]
      exact ih nd.2 h
theorem eqKs_same {fs : List (Key × D)} (nd : (fs.map Prod.fst).Nodup) : ∀ {es : List (Key × D)}, (∀ q ∈ es, q ∈ fs ∧ fineN 60 q.2) → eqKs fs es = some true
  | [], _ => rfl
  | (k, v) :: es, h => by
    have h1 := h (k, v) List.mem_cons_self
    unfold eqKs
    rw [valE_of nd h1.1]
    dsimp only
    rw [eqS_same h1.2, eqKs_same nd fun q hq => h q (List.mem_cons_of_mem _ hq)]
    rfl
theorem eqI_same {es : List (Key × D)} (nd : (es.map Prod.fst).Nodup) (h : ∀ q ∈ es, fineN 60 q.2) : eqI (.dct es) (.dct es) = some true := by
  unfold eqI
  dsimp only
  rw [if_pos rfl]
  exact eqKs_same nd fun q hq => ⟨hq, h q hq⟩
theorem eqX_dct {es : List (Key × D)} (nd : (es.map Prod.fst).Nodup) (h : ∀ q ∈ es, fineN 60 q.2) : eqX (.dct es) (.dct es) = some (.bl true) := by
  unfold eqX
  dsimp only
  rw [eqI_same nd h]; rfl
/-- what is equal to itself within a list -/
def SelfEq (d : D) : Prop := eqJ d d = some true
theorem self_fine {d : D} (h : fineN 60 d) : SelfEq d := by
  unfold SelfEq eqJ
  split
  · obtain ⟨p, h1, _⟩ := h; cases h1
  · exact eqS_same h
theorem self_dct {es : List (Key × D)} (nd : (es.map Prod.fst).Nodup) (h : ∀ q ∈ es, fineN 60 q.2) : SelfEq (.dct es) := by
  unfold SelfEq eqJ
  dsimp only
  rw [if_pos (eqI_same nd h)]
theorem eqIs_same : ∀ {ds : List D}, (∀ d ∈ ds, SelfEq d) → eqIs ds ds = some true
  | [], _ => rfl
  | d :: ds, h => by
    have h1 : eqJ d d = some true := h d List.mem_cons_self
    unfold eqIs
    rw [h1, eqIs_same fun q hq => h q (List.mem_cons_of_mem _ hq)]
    rfl
theorem eqX_lst {ds : List D} (h : ∀ d ∈ ds, SelfEq d) : eqX (.lst ds) (.lst ds) = some (.bl true) := by
  unfold eqX
  dsimp only
  rw [eqIs_same h]; rfl
theorem ansDD_nodup (rs : List Rule) (ans : List (Str × Str)) : ((ansDD rs ans).map Prod.fst).Nodup := by
  unfold ansDD
  rw [List.map_map]
  have : ∀ l : List Str, l.Nodup → (l.map (Prod.fst ∘ fun s => ((Sum.inr s : Key), D.str (ansOf ans s)))).Nodup := by
    intro l
    induction l with
    | nil => intro _; exact List.nodup_nil
    | cons a l ih =>
      intro h
      rw [List.nodup_cons] at h
      rw [List.map_cons, List.nodup_cons]
      refine ⟨fun hm => h.1 ?_, ih h.2⟩
      obtain ⟨b, hb, e⟩ := List.mem_map.mp hm
      have e : (Sum.inr b : Key) = Sum.inr a := e
      rw [← Sum.inr.inj e]; exact hb
  exact this _ (statesR_nodup rs)
end
end NL
/-! ### written dicts, d.update(e), the table of a loop -/
namespace NL
noncomputable section
open PySem L2
def dispGo (ρ : NL.Env) : List (Ex × Ex) → SrcT → Rs (List (Key × D))
  | [], S => .ok [] S
  | (Fk, Fv) :: r, S => (Fk ρ S).bind fun k S1 => (Fv ρ S1).bind fun v S2 => match keyD k with
    | some kk => (dispGo ρ r S2).bind fun ys S3 => .ok ((kk, v) :: ys) S3
    | none => .bad
def dispF (l : List (Ex × Ex)) : Ex := fun ρ S => (dispGo ρ l S).bind fun ys S1 => if ys.length ≤ 15 then .ok (.dct (putsE [] ys)) S1 else .bad
section
variable {G : Gm} {φ : Fr} {m : Bool} {O O' Ol : List Nat} {E : XK} {σ : L2.St} {ρ : NL.Env} {B H B' H' : Hp} {S : SrcT} {X : Cx} {st : Stmt} {e : Expr} {F F1 F2 : Ex} {Fs : Exs} {pos : Pos}
abbrev relKV (G : Gm) : Rel (List (Key × V)) (List (Key × D)) := fun p B kvs ys => kvs.map Prod.fst = ys.map Prod.fst ∧ DVs G p B (kvs.map Prod.snd) (ys.map Prod.snd)
theorem disp_run : ∀ {l : List (Ex × Ex)} {B H : Hp} {S : SrcT} {Q : List (V × V) → Hp → Prop}, Rep G φ O σ B H ρ S → Pg G φ false O E σ ρ (relKV G) B H (dispGo ρ l S) (fun kvs H' => Q (kvs.map fun kv => (kV kv.1, kv.2)) H') → tPairs (l.map fun q => (tD G true O E q.1, tD G false O E q.2)) σ H Q
  | [], B, H, S, Q, R, hp => hp [] B H Go.refl R ⟨rfl, .nil⟩
  | (Fk, Fv) :: r, B, H, S, Q, R, hp => by
    refine ⟨φ, B, ρ, S, R, ?_⟩
    refine Pg.bind hp fun k S1 x B1 H1 g1 R1 hx h1 => ?_
    refine ⟨φ, B1, ρ, S1, R1, ?_⟩
    refine Pg.bind h1 fun v S2 y B2 H2 g2 R2 hy h2 => ?_
    cases hk : keyD k with
    | none => rw [hk] at h2; exact h2.elim
    | some kk =>
      rw [hk] at h2
      have ex := key_dv hx hk
      subst ex
      refine disp_run R2 ?_
      refine Pg.bind h2 fun ys S3 kvs B3 H3 g3 R3 hkv h3 => ?_
      exact h3 ((kk, y) :: kvs) B3 H3 Go.refl R3 ⟨by rw [List.map_cons, List.map_cons, hkv.1], .cons (hy.same (g3.bs false)) hkv.2⟩
inductive DPs (X : Cx) (G : Gm) (O : List Nat) (E : XK) : List (Option Expr) → List Expr → List (Ex × Ex) → Prop
  | nil : DPs X G O E [] [] []
  | cons {k v : Expr} {Fk Fv : Ex} {ks : List (Option Expr)} {vs : List Expr} {l : List (Ex × Ex)} (hk : PE X k (tD G true O E Fk)) (hv : PE X v (tD G false O E Fv)) (r : DPs X G O E ks vs l) : DPs X G O E (some k :: ks) (v :: vs) ((Fk, Fv) :: l)
theorem DPs.pps {ks : List (Option Expr)} {vs : List Expr} {l : List (Ex × Ex)} (h : DPs X G O E ks vs l) : PPs X pos ks vs (l.map fun q => (tD G true O E q.1, tD G false O E q.2)) := by
  induction h with
  | nil => exact pps_nil
  | cons hk hv _ ih => exact pps_cons hk hv ih
theorem Go.upd_new {a : Addr} {o : HO} (g : Go φ B H B' H') (n : H a = none) : Go φ B H B' (upd H' a o) := by
  refine ⟨g.b, fun hv c x h => ?_, g.n, fun c h => ?_⟩
  · have hc : c ≠ a := fun e => by
      have := hideP_same _ _ h
      rw [e, n] at this; cases this
    have h2 := g.h hv c x h
    unfold hideP at h2 ⊢
    rw [upd_ne hc]; exact h2
  · exact g.d c (by
      by_cases e : c = a
      · rw [e, upd_same] at h; cases h
      · rw [upd_ne e] at h; exact h)
theorem merge_puts {p : Option Addr} {B : Hp} : ∀ {kvs : List (Key × V)} {ys : List (Key × D)} {acc : List (Key × V)} {acd : List (Key × D)}, kvs.map Prod.fst = ys.map Prod.fst → DVs G p B (kvs.map Prod.snd) (ys.map Prod.snd) → acc.map Prod.fst = acd.map Prod.fst → DVs G p B (acc.map Prod.snd) (acd.map Prod.snd) →
    (mergeK acc kvs).map Prod.fst = (putsE acd ys).map Prod.fst ∧ DVs G p B ((mergeK acc kvs).map Prod.snd) ((putsE acd ys).map Prod.snd)
  | [], [], acc, acd, _, _, h1, h2 => ⟨h1, h2⟩
  | [], _ :: _, _, _, e, _, _, _ => by cases e
  | _ :: _, [], _, _, e, _, _, _ => by cases e
  | (k, v) :: kvs, (k2, d) :: ys, acc, acd, e, hv, h1, h2 => by
    simp only [List.map_cons, List.cons.injEq] at e
    obtain ⟨e1, e2⟩ := e
    have e1 : k = k2 := e1
    subst e1
    cases hv with
    | cons hv hr =>
    obtain ⟨q1, q2⟩ := dk_put (k := k) h1 h2 hv
    show (mergeK (putK acc k v) kvs).map Prod.fst = (putsE (putE acd k d) ys).map Prod.fst ∧ DVs G p B ((mergeK (putK acc k v) kvs).map Prod.snd) ((putsE (putE acd k d) ys).map Prod.snd)
    exact merge_puts e2 hr q1 q2
theorem de_dispN {ks : List (Option Expr)} {vs : List Expr} {l : List (Ex × Ex)} (h : DPs X G O E ks vs l) (hall : ks.all (·.isSome) = true) (hl : ks.length = vs.length) (h0 : ks ≠ []) (h15 : ks.length ≤ 15) (hv0 : G.v = false := by rfl) : PE X (.Dict ks vs pos) (tN G false O E (dispF l)) := by
  refine (pe_disp (pos := pos) h.pps hall hl h0 h15).mono fun σ H Q ⟨φ, B, ρ, S, R, hp⟩ => ?_
  intro p np
  obtain ⟨R0, g0, nB, n0, npp⟩ := R.newN (o := .dK []) np
  have dis : ∀ i, i ∈ O → σ[i]? ≠ some (some (.ref p)) := fun i hi hk => by
    obtain ⟨b, o', d', k1, k2, k3, _⟩ := R.own i hi
    rw [k2] at hk
    have e : b = p := by injection hk with hk; injection hk with hk; injection hk
    rw [e, np] at k3; cases k3
  refine disp_run R0 ?_
  unfold dispF at hp
  have hv1 : φ.v = false := R.vv.1.trans hv0
  generalize dispGo ρ l S = r1 at hp ⊢
  induction r1 with
  | bad => exact hp
  | exc c d S1 => exact XP.go g0 hp
  | all p0 k ih => exact fun x px => ih x (hp x px)
  | ok ys S1 =>
    have hp : PgN G φ false O E σ ρ B H (if ys.length ≤ 15 then .ok (.dct (putsE [] ys)) S1 else .bad) Q := hp
    split at hp
    · rename_i hys
      intro kvs B1 H1 g R1 ⟨e1, e2⟩
      have at1 : H1 p = some (.dK []) := g.at hv1 npp upd_same
      have nB1 : B1 p = none := by
        cases hb : B1 p with
        | none => rfl
        | some o =>
          have ho := R1.sub _ _ hb
          rw [at1] at ho
          cases ho
          rcases g.n _ _ hb True.intro with q | q
          · rw [nB] at q; cases q
          · rw [upd_same] at q; cases q
      refine ⟨at1, kvs, rfl, ?_, ?_⟩
      · have := congrArg List.length e1
        rw [List.length_map, List.length_map] at this
        omega
      · have R2 := R1.poke (o := .dK (mergeK [] kvs)) nB1 n0 npp dis (fun hv => by rw [hv0] at hv; cases hv)
        have m2 := merge_puts (acc := []) (acd := []) e1 e2 rfl .nil
        refine hp p _ B1 _ ((g0.trans g).upd_new np) R2 ⟨upd_same, nB1, n0, npp, dis, ?_, fun hv => by rw [hv0] at hv; cases hv⟩ np
        exact ⟨m2.1, m2.2⟩
    · exact hp.elim
theorem de_disp {ks : List (Option Expr)} {vs : List Expr} {l : List (Ex × Ex)} (h : DPs X G O E ks vs l) (hall : ks.all (·.isSome) = true) (hl : ks.length = vs.length) (h0 : ks ≠ []) (h15 : ks.length ≤ 15) (hv0 : G.v = false := by rfl) : PE X (.Dict ks vs pos) (tD G false O E (dispF l)) := de_ofN (de_dispN h hall hl h0 h15 hv0)
/-! d.update(e) of an owned dict -/
def updS (i : Nat) (F : Ex) : Sx := fun ρ S => match ρ[i]? with
  | some (some (.dct es)) => (F ρ S).bind fun d S1 => match d with
    | .dct more => if es.length + more.length ≤ 100000 then .ok (.nx, ρ.set i (some (.dct (putsE es more)))) S1 else .bad
    | _ => .bad
  | _ => .bad
theorem ds_upd {i : Nat} (hi : i ∈ O) (h : PS X st (tDrop (tDUpd (tVar i) (tD G false O E F)))) : PS X st (tS G O O Ol E (updS i F)) := by
  refine h.mono fun En σ H ⟨φ, B, ρ, S, R, hp⟩ => ?_
  unfold updS at hp
  obtain ⟨a, o, d, k1, k2, k3, k4, k5, k6, k7⟩ := R.own i hi
  rw [k1] at hp
  cases d with
  | dct es =>
    obtain ⟨us, rfl, u1, u2⟩ := own_dct k7
    refine ⟨_, k2, a, rfl, .inl ⟨us, .inl k3⟩, φ, B, ρ, S, R, ?_⟩
    refine PostS.bind (show PostS G φ O Ol E En B ((F ρ S).bind fun d S1 => _) from hp) fun d S1 w B1 H1 g R1 hw h1 => ?_
    cases d with
    | dct more =>
      have h1 : PostS G φ O Ol E En B1 (if es.length + more.length ≤ 100000 then .ok (.nx, ρ.set i (some (.dct (putsE es more)))) S1 else .bad) := h1
      split at h1
      · rename_i hlen
        cases hw with
        | @dct b kvs _ hb f1 f2 =>
        have ha1 : H1 a = some (.dK us) := g.at (R.ownv hi) k6 k3
        have hb1 : H1 b = some (.dK kvs) := R1.sub _ _ hb
        have l1 : us.length = es.length := by have := congrArg List.length u1; simpa using this
        have l2 : kvs.length = more.length := by have := congrArg List.length f1; simpa using this
        have nB1 : B1 a = none := by
          obtain ⟨a', o', d', q1, q2, q3, q4, _⟩ := R1.own i hi
          rw [k2] at q2
          have e : a = a' := by injection q2 with q2; injection q2 with q2; injection q2
          rw [e]; exact q4
        have hab : a ≠ b := fun q => by
          have hb' : B1 b = some (.dK kvs) := hb
          rw [← q, nB1] at hb'; cases hb'
        refine ⟨b, us, kvs, rfl, hab, ha1, hb1, Nat.le_trans (by omega) (show 100000 ≤ sizeLine by decide), ?_⟩
        have m2 := merge_puts (G := G) (p := φ.p) (B := B1) f1 f2 u1 (u2.same g.b)
        refine h1 σ B1 _ (Same.refl _) ?_
        exact R1.pokeO hi k2 (show DO G φ.p B1 (.dK (mergeK us kvs)) (.dct (putsE es more)) from ⟨m2.1, m2.2⟩)
      · exact h1.elim
    | _ => exact h1.elim
  | _ => exact hp.elim
/-! loop.table.get((state, place)) -/
def tabGF (F1 : Ex) (Fs : Exs) : Ex := fun ρ S => (F1 ρ S).bind fun d S1 => match d with
  | .loop rs _ => (Fs ρ S1).bind fun ds S2 => match ds with
    | [.str s, .str p] => .ok (match fitIdx rs s p with | some k => .int (k : Nat) | none => .non) S2
    | _ => .bad
  | _ => .bad
theorem de_tab (hc : Cls G.K G.cl) (hn : NoAttr G.K G.cl "table") (h : PE X e (tDGet1 (tFld X.K (tD G true O E F1) "table") (tTup (tDs G true O E Fs)))) (hK : X.K = G.K := by rfl) (hv0 : G.v = false := by rfl) : PE X e (tD G m O E (tabGF F1 Fs)) := by
  refine h.mono fun σ H Q ⟨φ, B, ρ, S, R, hp⟩ => ⟨φ, B, ρ, S, R, ?_⟩
  rw [hK]
  refine Pg.bind hp fun d S1 w B1 H1 g R1 hw h1 => ?_
  cases hw with
  | @loop a rs ans hL =>
    obtain ⟨dx, ra, rd, rt, tab, k1, k2, k3, k4, k5⟩ := hL.same (R1.bsH true)
    refine ⟨a, G.cl, dx, _, .ref rt, rfl, k1, hc, hn, rfl, rt, rfl, .inr ⟨_, .inl k4⟩, φ, B1, ρ, S1, R1, ?_⟩
    refine Pg.bind (show Pg G φ m O E σ ρ (DV G) B1 H1 ((Fs ρ S1).bind fun ds S2 => _) Q from h1) fun ds S2 ws B2 H2 g2 R2 hws h2 => ?_
    have hsh : ∃ s p, ds = [.str s, .str p] := by
      revert h2
      split
      · exact fun _ => ⟨_, _, rfl⟩
      · exact fun h => h.elim
    obtain ⟨s, p, rfl⟩ := hsh
    have hwv : ws = [.str s, .str p] := by
      cases hws with
      | cons q1 q2 =>
        cases q2 with
        | cons q3 q4 =>
          cases q4
          cases q1
          cases q3
          rfl
    subst hwv
    refine ⟨by show 2 ≤ sizeLine; decide, fun b nb => ?_⟩
    have npr : φ.p ≠ some rt := fun e => by
      have := (R1.src rt e).2.1
      rw [k4] at this; cases this
    have k4' : H2 rt = some (.dT tab) := g2.at (R.vv.1.trans hv0) npr k4
    obtain ⟨R3, g3, _⟩ := R2.newN (o := .tup [.str s, .str p]) nb
    refine ⟨_, DGet.t (k := [Sum.inr s, Sum.inr p]) (upd_keep k4' nb) upd_same, ?_⟩
    rw [k5 s p]
    have h2 : Pg G φ m O E σ ρ (DV G) B2 H2 (.ok (match fitIdx rs s p with | some k => D.int (k : Nat) | none => .non) S2) Q := h2
    cases hf : fitIdx rs s p with
    | none =>
      rw [hf] at h2
      exact h2 _ _ _ g3 R3 .non
    | some k =>
      rw [hf] at h2
      exact h2 _ _ _ g3 R3 (.int _)
  | _ => exact h1.elim
/-! Run(words, keeps, kept, state, answer) -/
def mkRunF (Fs : Exs) : Ex := fun ρ S => (Fs ρ S).bind fun ds S1 => match ds with
  | [.lst ws, .lst ks, .lst ns, .str st, .str an] => match strsD ws, boolsD ks, intsD ns with
    | some w, some k, some n => .ok (.run ⟨st, w, k, n⟩ an) S1
    | _, _, _ => .bad
  | _ => .bad
theorem de_mkRun {sp : Sp} {E' : XK} (hsp : ∀ (H : Hp) (Q : VK) (self dx a b c : Addr) (r : RS) (an : Str), H self = some (.ins G.cr dx []) → H a = some (.lst (r.words.map V.str)) → H b = some (.lst (r.keeps.map V.bl)) → H c = some (.lst (r.kept.map V.int)) → (∀ H', But self H H' → RunAt G.K G.cr H' self r an → Q .non H') → sp [.ref self, .ref a, .ref b, .ref c, .str r.st, .str an] H Q E')
    (h : PE X e (tMake G.cr sp [] E' (tDs G true O E Fs))) (hv0 : G.v = false := by rfl) : PE X e (tD G false O E (mkRunF Fs)) := by
  refine h.mono fun σ H Q ⟨φ, B, ρ, S, R, hp⟩ => ⟨φ, B, ρ, S, R, ?_⟩
  unfold mkRunF at hp
  refine Pg.bind hp fun ds S1 ws B1 H1 g R1 hws h1 => fun x dx nx ndx ne => ?_
  rw [List.append_nil]
  revert h1
  split
  · rename_i dw dk dn zst zan
    intro h1
    cases hws with | cons q1 hws =>
    cases hws with | cons q2 hws =>
    cases hws with | cons q3 hws =>
    cases hws with | cons q4 hws =>
    cases hws with | cons q5 hws =>
    cases hws
    cases q1 with | @lst a xa _ a1 a2 =>
    cases q2 with | @lst b xb _ b1 b2 =>
    cases q3 with | @lst c xc _ c1 c2 =>
    cases q4
    cases q5
    revert h1
    split
    · rename_i wl kl nl e1 e2 e3
      intro h1
      have va := strs_of e1 a2
      have vb := bools_of e2 b2
      have vc := ints_of e3 c2
      subst va vb vc
      have smL : Same H1 (upd (upd H1 dx (.own x)) x (.ins G.cr dx [])) := (same_new ndx).trans (same_new (by rw [upd_ne ne.symm]; exact nx))
      have hh := R1.bsH true
      refine hsp _ _ x dx a b c ⟨zst, wl, kl, nl⟩ zan upd_same (smL _ _ (hh _ _ a1)) (smL _ _ (hh _ _ b1)) (smL _ _ (hh _ _ c1)) fun H' bt hR => ⟨rfl, ?_⟩
      have npx : φ.p ≠ some x := fun e => by have := (R1.src x e).2.1; rw [nx] at this; cases this
      have fr : ∀ a o, φ.p ≠ some a → H1 a = some o → H' a = some o := fun a o _ h => bt a o (ne_of_none h nx) (smL a o h)
      have hpB : ∀ q, φ.p = some q → B1 q = none := fun q hq => (R1.src q hq).1
      have srcH : ∀ q, φ.p = some q → SrcAt H' q S1 := fun q hq => by
        have h0 := (R1.src q hq).2
        refine ⟨bt q _ (fun e => npx (e ▸ hq)) (smL _ _ h0.1), h0.2⟩
      have hN : ∀ a, a ∈ ([x] : List Addr) → H1 a = none := fun a ha => by rw [List.mem_singleton.mp ha]; exact nx
      obtain ⟨B2, g2, R2, hb⟩ := R1.after false (S' := S1) (Bc := grow B1 H' [x]) grow_b (grow_h R1.sub hpB fr) fr (fun a o h hm => grow_cl hN h hm) (fun q hq => ⟨grow_p (hpB q hq) (srcH q hq) (fun hm => by
        have := hN q hm
        rw [(R1.src q hq).2.1] at this; cases this), srcH q hq⟩) hv0
      refine h1 (.ref x) B2 H' g2 R2 (DV.same hb (.run ?_))
      obtain ⟨dx', p1, p2, p3, k1, k2, k3, k4⟩ := hR
      have at' : ∀ {a : Addr} {o : HO}, H' a = some o → (¬ mutO o ∨ a ∈ ([x] : List Addr)) → grow B1 H' [x] a = some o := fun h hm => grow_at R1.sub hpB fr h hm
      exact ⟨dx', p1, p2, p3, at' k1 (.inr List.mem_cons_self), at' k2 (.inl fun z => z), at' k3 (.inl fun z => z), at' k4 (.inl fun z => z)⟩
    · exact fun h => h.elim
  · exact fun h => h.elim
/-! isinstance(x, (str, tuple)); xs * n -/
def isST : D → Option D
  | .non => some (.bl false)
  | .bl _ => some (.bl false)
  | .int _ => some (.bl false)
  | .str _ => some (.bl true)
  | .lst _ => some (.bl false)
  | .tup _ => some (.bl true)
  | .dct _ => some (.bl false)
  | .dcT _ => some (.bl false)
  | _ => none
theorem any2g {K : PySem.W.Frag} {t x y : String} {b1 b2 : Bool} (h1 : kitB t x = some b1) (h2 : kitB t y = some b2) : PySem.W.kitAny K (.type t) [.type x, .type y] = some (b1 || b2) := by
  refine kitAny_cons (b := b1) (kit_ty h1) (fun e => ?_) (fun e => by rw [e]; rfl)
  rw [e]
  exact kitAny_cons (b := b2) (kit_ty h2) (fun e => by rw [e]; rfl) (fun e => by rw [e]; rfl)
theorem de_isST (h : PE X e (tCB (rIsiT X.K) (tCons (tD G true O E F) (tCons (tTup (tCons (tC (.ty "str")) (tCons (tC (.ty "tuple")) tNil))) tNil)))) (hK : X.K = G.K := by rfl) : PE X e (tD G m O E (unF isST F)) := by
  refine h.mono fun σ H Q ⟨φ, B, ρ, S, R, hp⟩ => ⟨φ, B, ρ, S, R, ?_⟩
  rw [hK]
  refine Pg.bind hp fun d S1 w B1 H1 g R1 hw h1 => ?_
  obtain ⟨r, hr, q⟩ := h1.opt
  refine ⟨by decide, fun tp ntp => ?_⟩
  obtain ⟨R2, g2, np⟩ := R1.new (o := .tup [.ty "str", .ty "tuple"]) ntp
  have hw := dv_H R2 (hw.same (g2.bs true))
  have fin : ∀ (t : String) (b1 b2 : Bool), TyX G.K (upd H1 tp (.tup [.ty "str", .ty "tuple"])) w (.type t) → kitB t "str" = some b1 → kitB t "tuple" = some b2 → r = .bl (b1 || b2) → rIsiT G.K [w, .ref tp] (upd H1 tp (.tup [.ty "str", .ty "tuple"])) Q := fun t b1 b2 ht k1 k2 er => by
    subst er
    exact ⟨w, tp, _, _, [.type "str", .type "tuple"], _, rfl, upd_same, .cons (.ty _) (.cons (.ty _) .nil), ht, any2g k1 k2, q _ _ _ g2 R2 (.bl _)⟩
  cases hw with
  | non => cases hr; exact fin _ false false (TyX.base TyOf.non) (by decide +kernel) (by decide +kernel) rfl
  | bl b => cases hr; exact fin _ false false (TyX.base (TyOf.bl _)) (by decide +kernel) (by decide +kernel) rfl
  | int b => cases hr; exact fin _ false false (TyX.base (TyOf.int _)) (by decide +kernel) (by decide +kernel) rfl
  | str b => cases hr; exact fin _ true false (TyX.base (TyOf.str _)) (by decide +kernel) (by decide +kernel) rfl
  | lst ha hs => cases hr; exact fin _ false false (TyX.base (TyOf.lst ha)) (by decide +kernel) (by decide +kernel) rfl
  | tup ha hs => cases hr; exact fin _ false true (SqT.tyx ha) (by decide +kernel) (by decide +kernel) rfl
  | dct ha _ hs => cases hr; exact fin _ false false (TyX.base (TyOf.dK ha)) (by decide +kernel) (by decide +kernel) rfl
  | dcT ha _ hs => cases hr; exact fin _ false false (TyX.base (TyOf.dT ha)) (by decide +kernel) (by decide +kernel) rfl
  | _ => cases hr
def repD : D → D → Option D
  | .lst ds, .int k => if (decide (-10000 ≤ k) && (decide (k ≤ 10000) && decide (ds.length ≤ 10))) = true then some (.lst (List.replicate k.toNat ds).flatten) else none
  | _, _ => none
theorem dvs_rep {p : Option Addr} {B : Hp} {vs : List V} {ds : List D} (h : DVs G p B vs ds) : ∀ n : Nat, DVs G p B (List.replicate n vs).flatten (List.replicate n ds).flatten
  | 0 => .nil
  | n + 1 => by rw [List.replicate_succ, List.replicate_succ, List.flatten_cons, List.flatten_cons]; exact h.append (dvs_rep h n)
theorem de_repN (h : PE X e (tOp rRep (tD G m O E F1) (tD G m O E F2))) : PE X e (tN G m O E (binF repD F1 F2)) := by
  refine h.mono fun σ H Q ⟨φ, B, ρ, S, R, hp⟩ => ⟨φ, B, ρ, S, R, ?_⟩
  refine PgN.bind hp fun d1 S1 v1 B1 H1 g R1 hw h1 => ⟨φ, B1, ρ, S1, R1, ?_⟩
  refine PgN.bind h1 fun d2 S2 v2 B2 H2 g2 R2 hw2 h2 => ?_
  obtain ⟨d, e, q⟩ := h2.opt
  have hw := hw.same (g2.bs m)
  unfold repD at e
  split at e
  · split at e
    · rename_i hl
      simp only [Bool.and_eq_true, decide_eq_true_eq] at hl
      obtain ⟨l0, l1, l2⟩ := hl
      cases hw with | @lst aa us _ ha hs =>
      cases hw2 with | int k =>
      cases e
      have lu : us.length ≤ 10 := by rw [hs.len]; exact l2
      refine ⟨_, _, _, rfl, rfl, R2.bsH m _ _ ha, by omega, by omega, ?_, fun a na => ?_⟩
      · exact Nat.le_trans (Nat.mul_le_mul lu (show _ ≤ 10000 by omega)) (by decide)
      · obtain ⟨R', g', n'⟩ := R2.newO (m := m) (o := .lst _) (d := .lst _) na (dvs_rep hs _)
        exact q a _ B2 _ g' R' n' na
    · cases e
  · cases e
end
end
end NL
/-! ### own errors: __init__ says super().__init__(text), then self.f = f -/
namespace NL
open PySem L2
/-- an expression that gives some value and changes nothing that stands -/
def ArgOk (P : Program) (w : World) (e : Expr) (env : PySem.Env) (m : Str → Option Value) : Prop := ∀ (A : Around) (s : Shared) (Q : Value → Shared → Prop) (E : Value → Shared → Prop), s.heap.Ns env.locals m →
  (∀ v s', (∀ b o, s.heap.get? b = some o → s'.heap.get? b = some o) → s'.os = s.os → s'.gens = s.gens → Q v s') → wpAny (model P w) A (eval e env) Q E s
/-- as above, where what stands at h0 stands -/
def ArgOkH (P : Program) (w : World) (h0 : Heap) (e : Expr) (env : PySem.Env) (m : Str → Option Value) : Prop := ∀ (A : Around) (s : Shared) (Q : Value → Shared → Prop) (E : Value → Shared → Prop), A.units + 150 < cLine → s.heap.Ns env.locals m →
  (∀ b o, h0.get? b = some o → s.heap.get? b = some o) → (∀ v s', (∀ b o, s.heap.get? b = some o → s'.heap.get? b = some o) → s'.os = s.os → s'.gens = s.gens → Q v s') → wpAny (model P w) A (eval e env) Q E s
theorem ArgOk.at {P : Program} {w : World} {h0 : Heap} {e : Expr} {env : PySem.Env} {m : Str → Option Value} (h : ArgOk P w e env m) : ArgOkH P w h0 e env m := fun A s Q E _ hn _ q => h A s Q E hn q
theorem arg_str {P : Program} {w : World} {x : Str} {j pos} {env : PySem.Env} {m : Str → Option Value} : ArgOk P w (.Constant (.str x) j pos) env m := fun A s Q E _ h => Calls.Constant_str (h _ _ (fun _ _ q => q) rfl rfl)
section
open PySem.W PySem.Calls PyProof.Rows
variable {prog : Program} {w : World} {A : Around} {E : Value → Shared → Prop} {h : Heap} {g : Array GenState} {d : PySem.Drawn} {t : Nat} {os : OsState}
variable {nm q : Str} {C N : Addr} {bs bm : List Value} {hdct : Bool} {sn : List Str} {sub : List Value} {ab : Bool} {col : Option Bool} {dd : Option Addr} {k0 k1 k2 k3 k5 : Option Value}
/-- super().__init__ of a ValueError, bound, called -/
theorem err_bound {u e t0 : Addr} {rest : List Value} {Q : Value → Shared → Prop}
    (hC : h.get? C = some (excClassObj nm q C N bs bm hdct sn sub ab col dd k0 k1 k2 k3 k5 "ValueError.__new__")) (he : h.get? e = some (HandSPX.excO C t0)) (hu : h.get? u = some (kxs_mw "ValueError.__init__" e)) (hrest : rest.length ≤ sizeLine)
    (hq : ∀ h' t1, (∀ b o, b ≠ e → h.get? b = some o → h'.get? b = some o) → h'.get? e = some (HandSPX.excO C t1) → Q .none ⟨h', g, d, t, os⟩) :
    wpAny (model prog w) A (call (.ref u) rest) Q E ⟨h, g, d, t, os⟩ := by
  refine wpAny_call (codeAny_of_tree ?_)
  show wpAny _ A.in1 (callAny (.ref u) ⟨rest, []⟩) _ _ _
  simp only [callAny]
  refine wpAny_bind (wpAny_load hu ?_)
  simp only [kxs_mw, show (Value.type "method-wrapper" == Value.type "method" || Value.type "method-wrapper" == Value.type "builtin_function_or_method" || Value.type "method-wrapper" == Value.type "method-wrapper") = true by decide, if_true]
  refine W.KFB.if_so (by decide) ?_
  refine wpAny_bind (ESX.check_bound F.excBase_ValueError hC he rfl ?_)
  refine wpAny_bind (wpAny_pure (wpAny_pure ?_))
  refine ⟨Code.quiet_builtin _ (by decide +kernel), codeAny_builtin F.excBase_ValueError.initEntry ?_⟩
  rw [Around.under_plainId F.excBase_ValueError.init.plain _]
  wp_walk
  refine hq _ h.objs.size (fun b o hb ho => ?_) ?_
  · rw [Heap.get?_update_other _ _ (Ne.symm hb)]
    exact Heap.get?_push_of_some _ ho
  · rw [Heap.get?_update_self _ (Heap.get?_push_of_some _ he) rfl]
    rfl
end
/-- what the written part says of an own error's __init__ -/
structure ErrI (P : Program) (K : PySem.W.Frag) (C fI : Addr) (qual : Str) (st : Stmt) (fd : FuncData) : Prop where
  ex : ∃ (oc : Value) (od : Option Addr) (dV kV doc pm : Value) (an : Option Addr) (cda cc : Addr) (ct : Value) (osl : Array (Option Value)) (ccl : Value) (cdd : Option Addr) (vs : Array Value) (ccs : Array (Option Value)) (file : Str) (tf : Tok) (cl : Value) (cld : Option Addr) (csl : Array (Option Value)),
    fd = PySem.W.ksFn "__init__" qual (defArgs st) (defBody st) (defScope st) dV kV doc pm an (.ref cda) ct cc ∧ K.lookup fI = some ⟨oc, od, .func fd, osl⟩ ∧ PySem.W.codeIn K (.ref cda) qual = true ∧
    K.lookup cda = some ⟨ccl, cdd, .fields vs, ccs⟩ ∧ vs[2]? = some (.str file tf) ∧ ((P.main.file : Str) == file) = true ∧ K.lookup cc = some ⟨cl, cld, .cell (some (.ref C)), csl⟩
  oex : OexC K C
  any : PySem.W.nsIn K cStatics "thirdparty.any" = some none
  sup : PySem.W.ks_superIn K C C "__init__" = some (some (.builtin "ValueError.__init__"))
  sub : PySem.W.subIn K (.ref C) (.type "ValueError") = some true
  mro : PySem.W.mroIn K C (.ref C) = some true
  msup : PySem.W.nsIn K mainGlobals "super" = some none
  top : (P.main.scope.names.lookup ("super" : Str)).isSome = false
/-- super().__init__(e) is a plain call -/
def CallPlain (e : Expr) (p0 p1 p2 p3 p4 : Pos) (env : PySem.Env) : Prop := (∃ pl : Sem Bool, eval (.Call (.Attribute (.Call (.Name "super" p0) [] [] p1) "__init__" p2) [e] [] p3) env = (do
  let ov ← attributeBase (.Call (.Name "super" p0) [] [] p1) "__init__" env (eval (.Call (.Name "super" p0) [] [] p1) env)
  standAt p2.atName
  let (f, first) ← holding [ov] (getMethod ov "__init__" pl)
  callWith p3 f first (backTo p3 (starEach [e] env)) [])) ∧ starEach [e] env = [(false, eval e env)] ∧ interactive env = false ∧ swapsWith (.Call (.Attribute (.Call (.Name "super" p0) [] [] p1) "__init__" p2) [e] [] p3) none p4.line env = pure false
/-- the names of such an __init__ -/
structure ErrS (scope : Scope) (params : Arguments) (ps : List Str) : Prop where
  kind : scope.kind = .function
  co : scope.isCoroutine = false
  gen : scope.isGenerator = false
  cell : ∀ x ∈ scope.names, x.2 ≠ .cell
  sup : scope.names.lookup ("super" : Str) = some .globalImplicit
  cls : scope.names.lookup ("__class__" : Str) = some .free
  loc : ∀ x ∈ ps, scope.names.lookup x = some .local
  par : ∃ ar, (params.posonlyargs ++ params.args).head? = some ar ∧ ar.arg = "self"
section
open PySem.W PySem.Calls PyProof.Rows
variable {P : Program} {w : World} {K : PySem.W.Frag} {mg : Str → Option Value} {base : Heap} {A : Around} {outer : List PySem.Env} {s : Shared} {H : Hp}
/-- from the call to behind super().__init__(e) -/
theorem err_head {qual : Str} {params : Arguments} {rest : List Stmt} {scope : Scope} {dV kV doc pm ct oc : Value} {an od : Option Addr} {osl : Array (Option Value)} {fI cc cda C a : Addr} {e : PySem.Expr} {p0 p1 p2 p3 p4 : Pos} {args : Args} {bnd : List (Str × Value)} {R : Result → Shared → Prop}
    {ccl : Value} {cdd : Option Addr} {vs : Array Value} {ccs : Array (Option Value)} {file : Str} {tf : Tok} {cl : Value} {cld : Option Addr} {csl : Array (Option Value)} {ps : List Str}
    (hr : Room 1 A) (e0 : Env0 P w K mg base A outer s H)
    (lk : K.lookup fI = some ⟨oc, od, .func (ksFn "__init__" qual params (.Expr (.Call (.Attribute (.Call (.Name "super" p0) [] [] p1) "__init__" p2) [e] [] p3) p4 :: rest) scope dV kV doc pm an (.ref cda) ct cc), osl⟩)
    (hcd : codeIn K (.ref cda) qual = true) (hcode : K.lookup cda = some ⟨ccl, cdd, .fields vs, ccs⟩) (hvs : vs[2]? = some (.str file tf)) (hfile : ((P.main.file : Str) == file) = true) (hcell : K.lookup cc = some ⟨cl, cld, .cell (some (.ref C)), csl⟩)
    (T : OexC K C) (hany : nsIn K cStatics "thirdparty.any" = some none) (hsup : ks_superIn K C C "__init__" = some (some (.builtin "ValueError.__init__"))) (hsub : subIn K (.ref C) (.type "ValueError") = some true) (hmro : mroIn K C (.ref C) = some true)
    (hms : nsIn K mainGlobals "super" = some none) (htop : (P.main.scope.names.lookup ("super" : Str)).isSome = false) (S : ErrS scope params ps)
    (hbn : bnd.map Prod.fst = ps) (hself : bnd.reverse.lookup ("self" : Str) = some (.ref a)) (hb : BindsTo s (ksFn "__init__" qual params (.Expr (.Call (.Attribute (.Call (.Name "super" p0) [] [] p1) "__init__" p2) [e] [] p3) p4 :: rest) scope dV kV doc pm an (.ref cda) ct cc) args bnd)
    (hev : CallPlain e p0 p1 p2 p3 p4 (ksEnv qual scope s.heap.objs.size fI (.ref cda) cc)) (ha : H a = some (exo a C none)) (harg : ArgOkH P w s.heap e (ksEnv qual scope s.heap.objs.size fI (.ref cda) cc) (fun x => bnd.reverse.lookup x))
    (hq : ∀ (s' : Shared) (t1 : Addr), (∀ b o, b ≠ a → s.heap.get? b = some o → s'.heap.get? b = some o) → s'.heap.get? a = some (HandSPX.excO C t1) → s'.heap.Ns s.heap.objs.size (fun x => bnd.reverse.lookup x) → K.In s'.heap → s'.os = s.os → s'.gens = s.gens →
      PySem.wpAt (model P w) (A.deeper (ksEnv qual scope s.heap.objs.size fI (.ref cda) cc)) (.func (.Expr (.Call (.Attribute (.Call (.Name "super" p0) [] [] p1) "__init__" p2) [e] [] p3) p4 :: rest) (ksEnv qual scope s.heap.objs.size fI (.ref cda) cc)) (execs rest (ksEnv qual scope s.heap.objs.size fI (.ref cda) cc))
        (fun f s' => R (.ok (.ret (match f with | .ret v => v | _ => .none))) s') (fun e s' => wpAny (model P w) (A.deeper (ksEnv qual scope s.heap.objs.size fI (.ref cda) cc)) (leaving (ksEnv qual scope s.heap.objs.size fI (.ref cda) cc) e) (fun _ s'' => R (.error e) s'') (fun e' s'' => R (.error e') s'') s') s') :
    codeAny (model P w) A (.call (.ref fI) args) R s := by
  have KX : K.In s.heap := e0.mod.kin.keeps fun b o e => (e0.bs b o e).1
  have lim : s.heap.NoLimit := e0.mod.nolimit.keeps fun b o e => (e0.bs b o e).1
  obtain ⟨t0, hae⟩ := exo_at e0.hok ha
  obtain ⟨nm, q, N, bs, bm, sn, sub, ab, col, dd, k0, k1, k2, k3, k5, hC, hbm⟩ := T.cls
  have hcl : clsIn K C = some { name := nm, bases := bs, mro := .ref C :: bm, ns := N, qualname := q, hasDict := true, slotNames := sn, subclasses := sub, abstract := ab, collection := col, hasDel := false } := by unfold clsIn; rw [hC] <;> rfl
  refine ks_codeAny_call_defAt (fd := ksFn "__init__" qual params (.Expr (.Call (.Attribute (.Call (.Name "super" p0) [] [] p1) "__init__" p2) [e] [] p3) p4 :: rest) scope dV kV doc pm an (.ref cda) ct cc) (body := .Expr (.Call (.Attribute (.Call (.Name "super" p0) [] [] p1) "__init__" p2) [e] [] p3) p4 :: rest) (binds := bnd) hr.depth (KX _ _ lk) rfl lim (codeRec_of KX hcd) rfl hb S.cell (fun x hx => S.loc _ (by rw [← hbn]; exact List.mem_map.mpr ⟨x, hx, rfl⟩)) (fun h1 hns hk1 => ?_) S.co S.gen S.kind
  obtain ⟨ar, hp1, hp2⟩ := S.par
  have K1 : K.In h1 := KX.keeps hk1
  have hL : ∀ {b : Addr} {o : Obj}, s.heap.get? b = some o → b < s.heap.objs.size := fun q => Heap.lt_size q
  obtain ⟨⟨pl, hev⟩, hst, hin, hsw⟩ := hev
  refine ks_wpAt_execs_cons (ks_wpAt_Expr_any (ks_wpAt_MethodCall (pl := pl) ?_ hev) hin hsw)
  refine ks_wpAt_super_base (env := ksEnv qual scope s.heap.objs.size fI (.ref cda) cc) S.sup S.cls (by decide) rfl (K1 _ _ lk) rfl hp1 rfl (K1 _ _ hcode) rfl hvs hfile htop ?_
  obtain ⟨mb, hbm1, hbm2⟩ := e0.mod.blt
  have up0 : ∀ b o, base.get? b = some o → h1.get? b = some o := fun b o q => hk1 b o (e0.bs b o q).1
  refine ks_loadName_global S.kind S.sup (loadGlobal_builtin (env := ksEnv qual scope s.heap.objs.size fI (.ref cda) cc) (e0.mod.glob.keeps up0) (mg_none_of e0.mod.kin e0.mod.glob hms) (hbm1.keeps up0) ((hbm2 _ (by decide +kernel)).trans PyProof.Rows.Boot.super) ⟨rfl, ?_⟩)
  refine wpAny_loadName_free S.kind S.cls rfl ⟨_, K1 _ _ hcell, rfl⟩ ?_
  refine wpAny_loadName_local S.kind (by rw [hp2]; exact S.loc _ (by
    rw [← hbn]
    have hm := mem_of_lookup hself
    exact List.mem_map.mpr ⟨_, List.mem_reverse.mp hm, rfl⟩)) hns (by rw [hp2]; exact hself) ?_
  refine ks_wpAny_isType_cls (K1 _ _ hC) rfl ⟨rfl, ?_⟩
  have ha1 := hk1 _ _ hae
  refine ks_wpAny_call_super (K1 _ _ hC) rfl ha1 rfl (fun c e => by cases e) (looks_mroIn K1 hmro) (fun h2 eso k2 => ?_)
  have K2 : K.In h2 := K1.keeps k2
  have ha2 := k2 _ _ ha1
  have hne : a ≠ C := fun z => by
    rw [z, KX _ _ hC] at hae
    cases hae
  have hsup' : alongIn K "__init__" (((Value.ref C :: bm).dropWhile (· != .ref C)).drop 1) = some (some (.builtin "ValueError.__init__")) := by
    have z := hsup
    unfold ks_superIn at z
    rw [hcl] at z
    exact z
  have hI : Looks (model P w) h2 (isInstance (.ref a) (.type "ValueError")) true := by
    have I : InstAt h2 a { cls := .ref C, dict := none, data := .fields #[.ref t0, .none, .none, .none, .bool false, .none] } C none := ⟨ha2, rfl, rfl, trivial⟩
    exact I.type.andThen (looks_subIn K2 hsub)
  refine kxs_getMethod kxs_ValueError (D := C) (x := a) (C := C) (l₀ := .ref C :: bm) eso (looks_opaque K2 hany) (fun A Q E s k q => wpAny_bind ((looks_clsIn K2 hcl) A _ E s k (wpAny_pure q))) rfl K2 hsup' hI hne (by decide) ?_
  show wpAny _ _ (callWith p3 _ _ (backTo p3 (starEach [e] (ksEnv qual scope s.heap.objs.size fI (.ref cda) cc))) []) _ _ _
  rw [hst]
  refine kxs_callWith (i := "ValueError.__init__") (x := a) (by rfl) ?_
  refine evalArgs_plain ?_
  refine Calls.spliced_cons (harg _ _ _ _ ?_ ?_ ?_ fun v s3 k3 o3 g3 => Calls.spliced_nil ⟨?_, ?_⟩)
  · have := hr.un
    show A.units + 3 + 150 < cLine
    omega
  · have kk : ∀ b o, h1.get? b = some o → (h2.push (kxs_mw "ValueError.__init__" a)).get? b = some o := fun b o q => Heap.get?_push_of_some _ (k2 b o q)
    exact hns.keeps kk
  · exact fun b o q => Heap.get?_push_of_some _ (k2 b o (hk1 b o q))
  · exact k3 _ _ (Heap.get?_push_size _ rfl)
  · obtain ⟨h3, g3', d3, t3, os3⟩ := s3
    have k13 : ∀ b o, h1.get? b = some o → h3.get? b = some o := fun b o q => k3 b o (Heap.get?_push_of_some _ (k2 b o q))
    refine err_bound (K1.keeps k13 _ _ hC) (k13 _ _ ha1) (k3 _ _ (Heap.get?_push_size _ rfl)) (show 1 ≤ sizeLine by decide) fun h4 t4 k4 e4 => ?_
    have k14 : ∀ b o, b ≠ a → h1.get? b = some o → h4.get? b = some o := fun b o hb q => k4 b o hb (k13 b o q)
    have aC : ∀ c o, K.lookup c = some o → c ≠ a := fun c o q z => by
      have z2 := e0.bs c o (e0.mod.kin _ _ q)
      rw [z, ha] at z2
      cases z2.2
    refine hq ⟨h4, g3', d3, t3, os3⟩ t4 (fun b o hb q => k14 b o hb (hk1 b o q)) e4 ?_ (fun c o q => k14 c o (aC c o q) (K1 c o q)) o3 g3
    obtain ⟨o, es, ep, z1, z2⟩ := hns
    exact ⟨o, es, ep, k14 _ _ (Ne.symm (Nat.ne_of_lt (Heap.lt_size hae))) z1, z2⟩
/-- the end: the error has its dict -/
theorem err_end {a C dx : Addr} {f : Str} {y : V} {u : Value} {s' : Shared} {t1 : Addr} {Q : VK} (e0 : Env0 P w K mg base A outer s H) (ha : H a = some (exo a C none)) (k : ∀ b o, b ≠ a → s.heap.get? b = some o → s'.heap.get? b = some o) (dn : s.heap.objs.size ≤ dx) (dne : dx ≠ a)
    (hx : s'.heap.get? a = some ({ cls := .ref C, dict := some dx, data := .fields #[.ref t1, .none, .none, .none, .bool false, .none] } : Obj)) (hn : s'.heap.Ns1 dx (fun z => if z = f then some u else none)) (ry : RelV y u) (os : s'.os = s.os) (gs : s'.gens = s.gens)
    (q : ∀ dx, H dx = none → dx ≠ a → Q .non (upd (upd H dx (exd dx [(f, y)])) a (exo a C (some dx)))) : CE outer P w H s Q .none s' := by
  have hnd : H dx = none := e0.hok.fresh dn
  have nd : ∀ {b : Addr} {o : Obj}, s.heap.get? b = some o → b ≠ dx := fun {b o} q => Nat.ne_of_lt (Nat.lt_of_lt_of_le (Heap.lt_size q) dn)
  have na : ∀ {b : Addr}, H b = none → b ≠ a := fun {b} n z => by
    rw [z, ha] at n
    cases n
  refine ⟨.non, _, os, by rw [gs]; exact e0.bare, ?_, fun b o qq => ?_, rfl, q dx hnd dne⟩
  · exact {
      keep := fun b o q n _ _ => k b o (na n) q
      slot := fun b o q n _ _ => ⟨o.slots, k b o (na n) q⟩
      free := fun b o q n _ => by rw [upd_ne (na n), upd_ne (nd q)]; exact n
      there := fun b o q _ => by
        by_cases hb : b = a
        · exact ⟨_, by rw [hb]; exact hx⟩
        · exact ⟨o, k b o hb q⟩
      tups := fun b xs q => by rw [upd_ne (at_ne ha q exo_tup), upd_ne (ne_of_none q hnd)]; exact q
      frzs := fun b o v q => by rw [upd_ne (at_ne ha q exo_frz), upd_ne (ne_of_none q hnd)]; exact q
      tbls := fun b ps q => ⟨#[], by rw [upd_ne (at_ne ha q exo_tbl), upd_ne (ne_of_none q hnd), q]; simp⟩ }
  · by_cases hb : b = a
    · subst hb
      rw [upd_same] at qq
      cases qq
      exact exo_ok hx
    · rw [upd_ne hb] at qq
      by_cases hd : b = dx
      · subst hd
        rw [upd_same] at qq
        cases qq
        exact exd_ok hn (relO_put (fs := []) ry fun g => True.intro)
      · rw [upd_ne hd] at qq
        exact (e0.hok b o qq).stay (fun c v hc z => k c v (by
            rcases hc with hc | hc
            · rw [hc]
              exact hb
            · exact at_ne ha hc exo_own) z)
          (fun c hc => by rw [upd_ne (at_ne ha hc exo_own), upd_ne (ne_of_none hc hnd)]; exact hc) (fun c xs hc => by rw [upd_ne (at_ne ha hc exo_tup), upd_ne (ne_of_none hc hnd)]; exact hc)
theorem err_end0 {a C : Addr} {s' : Shared} {t1 : Addr} {Q : VK} (e0 : Env0 P w K mg base A outer s H) (ha : H a = some (exo a C none)) (k : ∀ b o, b ≠ a → s.heap.get? b = some o → s'.heap.get? b = some o)
    (hx : s'.heap.get? a = some (HandSPX.excO C t1)) (os : s'.os = s.os) (gs : s'.gens = s.gens) (q : Q .non H) : CE outer P w H s Q .none s' := by
  have na : ∀ {b : Addr}, H b = none → b ≠ a := fun {b} n z => by
    rw [z, ha] at n
    cases n
  refine ⟨.non, H, os, by rw [gs]; exact e0.bare, ?_, fun b o qq => ?_, rfl, q⟩
  · exact {
      keep := fun b o q n _ _ => k b o (na n) q
      slot := fun b o q n _ _ => ⟨o.slots, k b o (na n) q⟩
      free := fun b o q n _ => n
      there := fun b o q _ => by
        by_cases hb : b = a
        · exact ⟨_, by rw [hb]; exact hx⟩
        · exact ⟨o, k b o hb q⟩
      tups := fun b xs q => q
      frzs := fun b o v q => q
      tbls := fun b ps q => ⟨#[], by rw [q]; simp⟩ }
  · by_cases hb : b = a
    · subst hb
      rw [ha] at qq
      cases qq
      exact exo_ok hx
    · exact (e0.hok b o qq).stay (fun c v hc z => k c v (by
            rcases hc with hc | hc
            · rw [hc]
              exact hb
            · exact at_ne ha hc exo_own) z) (fun c hc => hc) (fun c xs hc => hc)
/-- what __init__(self, f) promises -/
def spErr (C : Addr) (f : Str) : Sp := fun vs H Q _ => ∃ (a : Addr) (y : V), vs = [.ref a, y] ∧ H a = some (exo a C none) ∧ ∀ dx, H dx = none → dx ≠ a → Q .non (upd (upd H dx (exd dx [(f, y)])) a (exo a C (some dx)))
theorem err_ok {C fI : Addr} {qual f : Str} {st : Stmt} {fd : FuncData} {e : PySem.Expr} {p0 p1 p2 p3 p4 p5 p6 p7 p8 : Pos} (I : ErrI P K C fI qual st fd) (S : ErrS (defScope st) (defArgs st) ["self", f])
    (hbody : defBody st = [.Expr (.Call (.Attribute (.Call (.Name "super" p0) [] [] p1) "__init__" p2) [e] [] p3) p4, .Assign [.Attribute (.Name "self" p5) f p6] (.Name f p7) p8])
    (hev : ∀ (L a : Addr) (cd : Value) (cc : Addr), CallPlain e p0 p1 p2 p3 p4 (PySem.W.ksEnv qual (defScope st) L a cd cc)) (hsw : ∀ (L a : Addr) (cd : Value) (cc : Addr), swapsWith (.Name f p7) (some (.Attribute (.Name "self" p5) f p6)) p8.line (PySem.W.ksEnv qual (defScope st) L a cd cc) = pure false)
    (harg : ∀ (L a : Addr) (cd : Value) (cc : Addr) (u1 u2 : Value), ArgOk P w e (PySem.W.ksEnv qual (defScope st) L a cd cc) (fun x => [((f : Str), u2), (("self" : Str), u1)].lookup x))
    (hfs : ((f : Str) == ("self" : Str)) = false) (hd : ((f : Str) == ("__debug__" : Str)) = false) (hno : PySem.W.findIn K (.ref C) f = some none) : FnOk P w K mg base CX0 1 fI fd ["self", f] (spErr C f) := by
  refine ⟨fun vs H Q E h => by obtain ⟨a, y, rfl, _⟩ := h; rfl, fun A outer s H args us vs Q E hr e0 hb hv h => ?_⟩
  obtain ⟨a, y, rfl, ha, hq⟩ := h
  obtain ⟨oc, od, dV, kV, doc, pm, an, cda, cc, ct, osl, ccl, cdd, vs, ccs, file, tf, cl, cld, csl, rfl, lk, hcd, hcode, hvs, hfile, hcell⟩ := I.ex
  cases hv with
  | @cons _ u1 _ ur r1 hv =>
  cases hv with
  | @cons _ u2 _ ur r2 hv =>
  cases hv
  obtain rfl : u1 = Value.ref a := r1
  rw [hbody] at lk hb
  have hself : (List.zip [("self" : Str), f] [Value.ref a, u2]).reverse.lookup ("self" : Str) = some (.ref a) := by
    show List.lookup ("self" : Str) [(f, u2), (("self" : Str), Value.ref a)] = _
    have : (("self" : Str) == f) = false := by rw [← hfs]; exact Bool.beq_comm
    simp [List.lookup, this]
  refine err_head (ps := ["self", f]) (bnd := List.zip [("self" : Str), f] [Value.ref a, u2]) hr e0 lk hcd hcode hvs hfile hcell I.oex I.any I.sup I.sub I.mro I.msup I.top S rfl hself hb (hev _ _ _ _) ha (harg _ _ _ _ _ _).at fun s' t1 k hx hns KX os gs => ?_
  obtain ⟨nm, q, N, bs, bm, sn, sub, ab, col, dd, k0, k1, k2, k3, k5, hC, hbm⟩ := I.oex.cls
  have hcl : clsIn K C = some { name := nm, bases := bs, mro := .ref C :: bm, ns := N, qualname := q, hasDict := true, slotNames := sn, subclasses := sub, abstract := ab, collection := col, hasDel := false } := by unfold clsIn; rw [hC] <;> rfl
  refine ks_wpAt_execs_cons (wpAt_of_wpAny (plainObj_wpAny_Assign_Attribute ?_ (hsw _ _ _ _)))
  have hf : (List.zip [("self" : Str), f] [Value.ref a, u2]).reverse.lookup f = some u2 := by
    show List.lookup f [(f, u2), (("self" : Str), Value.ref a)] = _
    simp [List.lookup]
  refine wpAny_Name (wpAny_loadName_local S.kind (S.loc f (by simp)) hns hf ?_) hd
  refine wpAny_Name (wpAny_loadName_local S.kind (S.loc "self" (by simp)) hns hself ?_) (by decide)
  obtain ⟨h3, g3, d3, t3, os3⟩ := s'
  refine set_plain KX (ox := { cls := .ref C, dict := none, data := .fields #[.ref t1, .none, .none, .none, .bool false, .none] }) (od := none) ⟨hx, rfl, rfl, trivial⟩ I.oex.sa ?_
  refine HandSPX.exc_osa KX hx hcl (show HandSPX.refsVE (.ref C :: bm) = true from hbm) rfl hno (fun h4 tk4 dx k4 dn dne hx4 hn4 => ?_)
  refine wpAt_of_wpAny (wpAny_execs_nil ?_)
  have hsz : s.heap.objs.size ≤ h3.objs.size := by
    obtain ⟨o, es, ep, z1, _⟩ := hns
    exact Nat.le_of_lt (Heap.lt_size z1)
  exact err_end (s' := ⟨h4, g3, d3, tk4, os3⟩) e0 ha (fun b o hb q => k4 b o hb (k b o hb q)) (Nat.le_trans hsz dn) dne hx4 hn4 r2 os gs hq
/-- __init__(self): no field -/
def spErr0 (C : Addr) : Sp := fun vs H Q _ => ∃ (a : Addr), vs = [.ref a] ∧ H a = some (exo a C none) ∧ Q .non H
theorem err_ok0 {C fI : Addr} {qual : Str} {st : Stmt} {fd : FuncData} {e : PySem.Expr} {p0 p1 p2 p3 p4 : Pos} (I : ErrI P K C fI qual st fd) (S : ErrS (defScope st) (defArgs st) ["self"])
    (hbody : defBody st = [.Expr (.Call (.Attribute (.Call (.Name "super" p0) [] [] p1) "__init__" p2) [e] [] p3) p4])
    (hev : ∀ (L a : Addr) (cd : Value) (cc : Addr), CallPlain e p0 p1 p2 p3 p4 (PySem.W.ksEnv qual (defScope st) L a cd cc))
    (harg : ∀ (L a : Addr) (cd : Value) (cc : Addr) (u1 : Value), ArgOk P w e (PySem.W.ksEnv qual (defScope st) L a cd cc) (fun x => [(("self" : Str), u1)].lookup x)) : FnOk P w K mg base CX0 1 fI fd ["self"] (spErr0 C) := by
  refine ⟨fun vs H Q E h => by obtain ⟨a, rfl, _⟩ := h; rfl, fun A outer s H args us vs Q E hr e0 hb hv h => ?_⟩
  obtain ⟨a, rfl, ha, hq⟩ := h
  obtain ⟨oc, od, dV, kV, doc, pm, an, cda, cc, ct, osl, ccl, cdd, vs, ccs, file, tf, cl, cld, csl, rfl, lk, hcd, hcode, hvs, hfile, hcell⟩ := I.ex
  cases hv with
  | @cons _ u1 _ ur r1 hv =>
  cases hv
  obtain rfl : u1 = Value.ref a := r1
  rw [hbody] at lk hb
  refine err_head (ps := ["self"]) (bnd := List.zip [("self" : Str)] [Value.ref a]) hr e0 lk hcd hcode hvs hfile hcell I.oex I.any I.sup I.sub I.mro I.msup I.top S rfl rfl hb (hev _ _ _ _) ha (harg _ _ _ _ _).at fun s' t1 k hx hns KX os gs => ?_
  exact wpAt_of_wpAny (wpAny_execs_nil (err_end0 e0 ha k hx os gs hq))
end
/-- an exception of the one class, looked at for the other -/
theorem exm_of2 {K : PySem.W.Frag} {C S : Addr} {b : Bool} (h1 : PySem.W.subIn K (.ref S) (.type "BaseException") = some true) (h2 : PySem.W.isClsIn K S = true) (h3 : PySem.W.typeIn K (.ref S) = some (.type "type")) (h4 : PySem.W.subIn K (.ref C) (.ref S) = some b) :
    PySem.W.exmOne K (.ref C) (.ref S) = some b := by
  have e1 : (PySem.W.subIn K (.ref S) (.type "BaseException") == some true) = true := by rw [h1] <;> rfl
  have e2 : ((PySem.W.clsIn K S).isSome && PySem.W.typeIn K (.ref S) == some (.type "type")) = true := by
    have h2' : (PySem.W.clsIn K S).isSome = true := h2
    rw [h2', h3] <;> rfl
  show (if (PySem.W.subIn K (.ref S) (.type "BaseException") == some true) = true then (if ((PySem.W.clsIn K S).isSome && PySem.W.typeIn K (.ref S) == some (.type "type")) = true then PySem.W.subIn K (.ref C) (.ref S) else none) else none) = some b
  rw [if_pos e1, if_pos e2]
  exact h4
end NL
/-! ### raise, and calls that may raise -/
namespace NL
noncomputable section
open PySem L2 PySem.Spec PyProof.Rows
section
variable {X : Cx} {p pos : Pos}
/-- C(), C's own __init__(self) making no field -/
def tMkN (C : Addr) (sp : Sp) : L2.St → Hp → XK → Prop := fun σ H Q => ∀ a, H a = none → sp [.ref a] (upd H a (exo a C none)) (fun v H2 => v = .non ∧ H2 = upd H a (exo a C none) ∧ Q (.ref C) none H) (fun _ _ _ => False)
theorem mk_endN {pins : List (Addr × Obj)} {σ : L2.St} {H1 : Hp} {Q : XK} {hp hp2 h2 : Heap} {g1 g2 : Array GenState} {d1 d2 : PySem.Drawn} {t1 t2 : Nat} {os1 os2 : OsState} {a C : Addr} (T : Raises X (.ref C)) (I1 : Inv X pins σ H1 ⟨hp, g1, d1, t1, os1⟩)
    (ha : hp.objs.size ≤ a) (k : ∀ b o, hp.get? b = some o → hp2.get? b = some o) (un : Un (frs X.stack) [] (upd H1 a (exo a C none)) (upd H1 a (exo a C none)) hp2 h2) (hok : HOk X.prog X.w (upd H1 a (exo a C none)) h2) (ho : os2 = os1) (hb : AllBare g2) (q : Q (.ref C) none H1) : MkP X pins σ Q (.ref a) ⟨h2, g2, d2, t2, os2⟩ := by
  obtain ⟨t0, hoe⟩ := exo_at hok upd_same
  have hn : H1 a = none := I1.hok.fresh ha
  obtain ⟨G, g1', g2'⟩ := restrict h2 fun b => decide (b ≠ a)
  have gk : ∀ b, b ≠ a → G.get? b = h2.get? b := fun b hb => g1' b (decide_eq_true hb)
  have ge : G.get? a = none := g2' a (by simp)
  have nha : ∀ {b : Addr} {o : Obj}, hp.get? b = some o → b ≠ a := fun {b o} z => Nat.ne_of_lt (Nat.lt_of_lt_of_le (Heap.lt_size z) ha)
  have up : ∀ {b : Addr}, b ≠ a → H1 b = none → upd H1 a (exo a C none) b = none := fun {b} hb n => by rw [upd_ne hb]; exact n
  have U : Un (frs X.stack) [] H1 H1 hp G := {
    keep := fun b o z n hf hx => by
      rw [gk b (nha z)]
      exact un.keep b o (k b o z) (up (nha z) n) hf hx
    slot := fun b o z n hf hx => by
      rw [gk b (nha z)]
      exact un.slot b o (k b o z) (up (nha z) n) hf hx
    free := fun b o z n hx => n
    there := fun b o z hx => by
      rw [gk b (nha z)]
      exact un.there b o (k b o z) hx
    tups := fun b xs z => z
    frzs := fun b o v z => z
    tbls := fun b ps z => ⟨#[], by rw [z]; simp⟩ }
  have hok3 : HOk X.prog X.w H1 G := fun b o z => by
    have hba : b ≠ a := fun e => by
      rw [e, hn] at z
      cases z
    have z' : upd H1 a (exo a C none) b = some o := by rw [upd_ne hba]; exact z
    have noa : ∀ {c : Addr} {u : HO}, upd H1 a (exo a C none) c = some u → u ≠ exo a C none → c ≠ a := fun {c u} hc hu e => by
      rw [e, upd_same] at hc
      exact hu (Option.some.inj hc).symm
    exact (hok b o z').stay (fun c v hc y => by
        have hca : c ≠ a := by
          rcases hc with hc | hc
          · rw [hc]
            exact hba
          · exact noa hc (fun e => exo_own e.symm)
        rw [gk c hca]
        exact y)
      (fun c hc => by rw [upd_ne (noa hc (fun e => exo_own e.symm))] at hc; exact hc) (fun c xs hc => by rw [upd_ne (noa hc (fun e => exo_tup e.symm))] at hc; exact hc)
  have J : Inv X pins σ H1 ⟨G, g2, d2, t2, os2⟩ := I1.call' (ch := []) ho U hok3 hb (fun b z => absurd z (by simp))
  refine ⟨a, _, _, ⟨G, g2, d2, t2, os2⟩, _, .ref C, none, rfl, J, fun b o z => ?_, ge, hoe, ⟨rfl, rfl⟩, rfl, rfl, hn, rfl, hb, T, q⟩
  by_cases hba : b = a
  · rw [hba, ge] at z
    cases z
  · exact (gk b hba).symm.trans z
theorem pmk_oexN {CX : CXT} {x : Str} {C fI : Addr} {k : Nat} {fd : FuncData} {ps : List Str} {sp : Sp} (T : OexC X.K C) (iC : PySem.W.findIn X.K (.ref C) "__init__" = some (some (.ref fI))) (tI : PySem.W.typeIn X.K (.ref fI) = some (.type "function"))
    (F1 : FnOk X.prog X.w X.K X.mg X.base CX k fI fd ps sp) (hr : Room (k + 1) X.A) (hb : Binds X.K fd ps []) (hx : Passes CX X (fun _ _ _ => False)) (hg : Gl X x) (hm : X.mg x = some (.ref C))
    (hdb : (x == ("__debug__" : Str)) = false := by decide) :
    PMk X (.Call (.Name x p) [] [] pos) (tMkN C sp) := by
  intro pins s σ H Q I h
  obtain ⟨nm, q, N, bs, bm, sn, sub, ab, col, dd, k0, k1, k2, k3, k5, hC, hbm⟩ := T.cls
  refine wpAny_Call_Name_kw (ld_glob I hg hm ?_ hdb)
  refine PySem.W.callWith_K0 I.kIn T.kC ?_
  show wpAny _ _ (call (.ref C) []) _ _ _
  obtain ⟨hp, g, dr, tk, os⟩ := s
  have hsz : hp.objs.size ≤ hp.objs.size + 1 := Nat.le_succ _
  have hn : H (hp.objs.size + 1) = none := I.hok.fresh hsz
  have hq := h (hp.objs.size + 1) hn
  have kk : ∀ b o, hp.get? b = some o → ((hp.push (PySem.W.kdv_tup [])).push (PySem.HandSPX.excO C hp.objs.size)).get? b = some o := fun b o e => Heap.get?_push_of_some _ (Heap.get?_push_of_some _ e)
  have hget : ((hp.push (PySem.W.kdv_tup [])).push (PySem.HandSPX.excO C hp.objs.size)).get? (hp.objs.size + 1) = some (PySem.HandSPX.excO C hp.objs.size) := by heap_get
  have I2 : Inv X pins σ (upd H (hp.objs.size + 1) (exo (hp.objs.size + 1) C none)) ⟨(hp.push (PySem.W.kdv_tup [])).push (PySem.HandSPX.excO C hp.objs.size), g, dr, tk, os⟩ :=
    I.laid (t' := tk) (a := hp.objs.size + 1) (o := exo (hp.objs.size + 1) C none) (h' := (hp.push (PySem.W.kdv_tup [])).push (PySem.HandSPX.excO C hp.objs.size)) kk hsz (exo_ok hget)
  have r2 : Vals [V.ref (hp.objs.size + 1)] [Value.ref (hp.objs.size + 1)] := .cons rfl .nil
  have hl : ([Value.ref (hp.objs.size + 1)] ++ []).length = ps.length := by
    have e := r2.length
    rw [F1.len _ _ _ _ hq] at e
    exact e.symm
  refine wpAny_call (PySem.HandSPX.call_own F.excBase_ValueError (fun Y => PySem.HandSPX.refsVE_contains Y bm hbm) (I.kIn _ _ hC) (PySem.W.looks_findIn I.kIn iC) (fun self => PySem.W.bind_fn I.kIn self tI) (show 0 ≤ sizeLine from Nat.zero_le _)
    (codeAny_mono (F1.run _ X.stack _ _ ⟨[Value.ref (hp.objs.size + 1)], []⟩ [Value.ref (hp.objs.size + 1)] _ _ (fun _ _ _ => False) (hr.make C [] []) (I2.env0.make C [] []) (by simpa using hb _ [Value.ref (hp.objs.size + 1)] I2.kIn hl) r2 hq) fun r s' hq' => ?_))
  cases r with
  | error er => exact hx pins σ _ _ er s' I2 hq'
  | ok fl =>
    cases fl with
    | ret u =>
      obtain ⟨v, H2, os2, bare2, un2, hok2, rv, ev, eH, q2⟩ := hq'
      subst ev
      subst eH
      obtain ⟨h2, g2, d2, t2, os'⟩ := s'
      exact ⟨rv, mk_endN (raises_own T.exC T.tyC) I hsz kk un2 hok2 os2 bare2 q2⟩
    | next => exact False.elim hq'
    | brk => exact False.elim hq'
    | cont => exact False.elim hq'
end
section
variable {G : Gm} {φ : Fr} {m : Bool} {O O' Ol : List Nat} {E : XK} {σ : L2.St} {ρ : NL.Env} {B H : Hp} {S : SrcT} {X : Cx} {st : Stmt} {e : Expr} {F : Ex} {Fs : Exs}
/-- raise C(e) -/
def raiseS (c : Nat) (Fs : Exs) : Sx := fun ρ S => (Fs ρ S).bind fun ds S1 => match ds with
  | [d] => .exc c (some d) S1
  | _ => .bad
def raiseN (c : Nat) : Sx := fun _ S => .exc c none S
theorem ds_raise {c : Nat} {C : Addr} {f : Str} (hC : G.ec c = C) (hf : G.ef c = f) (h : PS X st (fun _ σ H => tMkO C (spErr C f) [] (tDs G false O E Fs) σ H fun cls d H' => E cls d H')) : PS X st (tS G O O' Ol E (raiseS c Fs)) := by
  refine h.mono fun D σ H ⟨φ, B, ρ, S, R, hp⟩ => ?_
  refine ⟨φ, B, ρ, S, R, ?_⟩
  refine PostS.bind hp fun ds S1 ws B1 H1 g R1 hws h1 => ?_
  match ds, hws, h1 with
  | [], _, h1 => exact h1.elim
  | [d], .cons hv .nil, h1 =>
    rename_i v
    refine ⟨by simp, fun a na => ⟨a, v, rfl, upd_same, fun dx ndx ne => ⟨rfl, dx, [(f, v)], upd_same, by rw [upd_ne ne]; exact upd_same, by rw [upd_ne ne] at ndx; exact ndx, ?_⟩⟩⟩
    have ndx' : H1 dx = none := by rw [upd_ne ne] at ndx; exact ndx
    have eH : upd (del (upd (upd (upd H1 a (exo a C none)) dx (exd dx [(f, v)])) a (exo a C (some dx))) a) dx (.xd [(f, v)]) = upd H1 dx (.xd [(f, v)]) := by
      funext b
      by_cases hb : b = dx
      · rw [hb, upd_same, upd_same]
      · rw [upd_ne hb, upd_ne hb]
        by_cases hba : b = a
        · rw [hba, del_same, na]
        · rw [del_ne hba, upd_ne hba, upd_ne hb, upd_ne hba]
    rw [eH]
    have h1 : XS G φ E B1 c (some d) S1 := h1
    obtain ⟨R2, g2, _⟩ := R1.newN (o := .xd [(f, v)]) ndx'
    refine h1 B1 _ _ _ (Same.refl _) R2.bare ⟨by rw [hC], dx, v, rfl, by rw [hf]; exact upd_same, hv⟩
  | _ :: _ :: _, _, h1 => exact h1.elim
theorem ds_raiseN {c : Nat} {C : Addr} (hC : G.ec c = C) (h : PS X st (fun _ σ H => tMkN C (spErr0 C) σ H fun cls d H' => E cls d H')) : PS X st (tS G O O' Ol E (raiseN c)) := by
  refine h.mono fun D σ H ⟨φ, B, ρ, S, R, hp⟩ => ?_
  intro a na
  have h1 : XS G φ E B c none S := hp
  exact ⟨a, rfl, upd_same, rfl, rfl, h1 B H _ _ (Same.refl _) R.bare ⟨by rw [hC], rfl⟩⟩
/-! calls of defs that may raise -/
theorem passF {P : Program} {w : World} {X : Cx} : Passes (L2.CX P w) X (fun _ _ _ => False) := fun _ _ _ _ _ _ _ ⟨_, _, _, _, _, _, _, _, _, _, _, _, h⟩ => h.elim
theorem passE {X : Cx} {W : WX} {E : XK} (tk : Takes X W) (hW : ∀ cls d σ H, E cls d H → W cls d σ H) : Passes (L2.CX X.prog X.w) X E := fun pins σ H s e s' I h => passes_call tk hW pins σ H s e s' I h
/-- a def that may raise, called where it does not -/
theorem de_callQ {f : List D → SrcT → Rs D} {E' : XK} (h : PE X e (tCall (spD G f) [] E' (tDs G false O E Fs))) (hv0 : G.v = false := by rfl) : PE X e (tD G false O E (callN f Fs)) := by
  refine h.mono fun σ H Q ⟨φ, B, ρ, S, R, hp⟩ => ⟨φ, B, ρ, S, R, ?_⟩
  refine Pg.bind hp fun ds S1 ws B1 H1 g R1 hws h1 => ?_
  rw [List.append_nil]
  refine sp_call (E := E') R1 hws ?_ hv0
  revert h1
  generalize f ds S1 = r
  intro h1
  induction r with
  | bad => exact h1
  | exc c d S2 => exact h1.elim
  | ok d S2 => exact h1
  | all p k ih => exact fun x px => ih x (h1 x px)
end
end
end NL
/-! ### own errors whose text is an f-string of their number -/
namespace NL
noncomputable section
open PySem L2
theorem str_app_len (a b : Str) : (a ++ b).length = a.length + b.length := by
  show Array.size (a.cps ++ b.cps) = _
  rw [Array.size_append]; rfl
theorem num_len : ∀ n : Nat, n < 100 → (toString ((n : Nat) : Int) : Str).length ≤ 10 := by decide +kernel
section
open PySem.W PySem.Calls PyProof.Rows
theorem arg_fstr {P : Program} {w : World} {x1 x2 f : Str} {j1 j2 p1 p2 p3 p4 pos} {env : PySem.Env} {m : Str → Option Value} {n : Nat} {tk : Tok} (hf : m f = some (.int (n : Nat) tk)) (hk : env.scope.kind = .function) (hl : env.scope.names.lookup f = some .local) (hd : ((f : Str) == ("__debug__" : Str)) = false)
    (hn : n < 100) (h1 : x1.length ≤ 1000) (h2 : x2.length ≤ 1000) : ArgOk P w (.JoinedStr [.Constant (.str x1) j1 p1, .FormattedValue (.Name f p2) (-1) none p3, .Constant (.str x2) j2 p4] pos) env m := by
  intro A s Q E hns h
  have h0 : (Str.empty).length = 0 := rfl
  have h3 := num_len n hn
  have b : ∀ k, k ≤ 3000 → k ≤ sizeLine := fun k hk => Nat.le_trans hk (by decide)
  refine wpAny_JoinedStr ?_
  have e0 : ∀ (e : PySem.Expr) (es : List PySem.Expr), evalEach (e :: es) env = eval e env :: evalEach es env := fun e es => by first | rfl | simp [evalEach]
  have e1 : evalEach [] env = [] := by first | rfl | simp [evalEach]
  rw [e0, e0, e0, e1]
  refine Calls.Constant_str ?_
  refine ⟨_, _, rfl, ?_, ?_⟩
  · rw [str_app_len]; exact b _ (by omega)
  refine wpAny_FormattedValue_plain (wpAny_Name (wpAny_loadName_local hk hl hns hf ?_) hd)
  have hlog : ∀ n : Nat, n < 100 → ((n : Nat) : Int).natAbs.log2 < 1920 := by decide +kernel
  refine wpAny_formatField_int (hlog n hn) ?_
  refine ⟨_, _, rfl, ?_, ?_⟩
  · rw [str_app_len, str_app_len]; exact b _ (by omega)
  refine Calls.Constant_str ?_
  refine ⟨_, _, rfl, ?_, ?_⟩
  · rw [str_app_len, str_app_len, str_app_len]; exact b _ (by omega)
  refine ⟨?_, ?_⟩
  · rw [str_app_len, str_app_len, str_app_len]; exact b _ (by omega)
  · exact h _ _ (fun _ _ q => q) rfl rfl
variable {P : Program} {w : World} {K : PySem.W.Frag} {mg : Str → Option Value} {base : Heap} {A : Around} {outer : List PySem.Env} {s : Shared} {H : Hp}
/-- what __init__(self, n) promises, of a small number -/
def spErrI (C : Addr) (f : Str) : Sp := fun vs H Q _ => ∃ (a : Addr) (n : Nat), vs = [.ref a, .int (n : Nat)] ∧ n < 100 ∧ H a = some (exo a C none) ∧ ∀ dx, H dx = none → dx ≠ a → Q .non (upd (upd H dx (exd dx [(f, .int (n : Nat))])) a (exo a C (some dx)))
theorem err_okI {C fI : Addr} {qual f : Str} {st : Stmt} {fd : FuncData} {e : PySem.Expr} {p0 p1 p2 p3 p4 p5 p6 p7 p8 : Pos} (I : ErrI P K C fI qual st fd) (S : ErrS (defScope st) (defArgs st) ["self", f])
    (hbody : defBody st = [.Expr (.Call (.Attribute (.Call (.Name "super" p0) [] [] p1) "__init__" p2) [e] [] p3) p4, .Assign [.Attribute (.Name "self" p5) f p6] (.Name f p7) p8])
    (hev : ∀ (L a : Addr) (cd : Value) (cc : Addr), CallPlain e p0 p1 p2 p3 p4 (PySem.W.ksEnv qual (defScope st) L a cd cc)) (hsw : ∀ (L a : Addr) (cd : Value) (cc : Addr), swapsWith (.Name f p7) (some (.Attribute (.Name "self" p5) f p6)) p8.line (PySem.W.ksEnv qual (defScope st) L a cd cc) = pure false)
    (harg : ∀ (L a : Addr) (cd : Value) (cc : Addr) (u1 : Value) (n : Nat) (tk : Tok), n < 100 → ArgOk P w e (PySem.W.ksEnv qual (defScope st) L a cd cc) (fun x => [((f : Str), Value.int (n : Nat) tk), (("self" : Str), u1)].lookup x))
    (hfs : ((f : Str) == ("self" : Str)) = false) (hd : ((f : Str) == ("__debug__" : Str)) = false) (hno : PySem.W.findIn K (.ref C) f = some none) : FnOk P w K mg base CX0 1 fI fd ["self", f] (spErrI C f) := by
  refine ⟨fun vs H Q E h => by obtain ⟨a, n, rfl, _⟩ := h; rfl, fun A outer s H args us vs Q E hr e0 hb hv h => ?_⟩
  obtain ⟨a, n, rfl, hn100, ha, hq⟩ := h
  obtain ⟨oc, od, dV, kV, doc, pm, an, cda, cc, ct, osl, ccl, cdd, vs, ccs, file, tf, cl, cld, csl, rfl, lk, hcd, hcode, hvs, hfile, hcell⟩ := I.ex
  cases hv with
  | @cons _ u1 _ ur r1 hv =>
  cases hv with
  | @cons _ u2 _ ur r2 hv =>
  cases hv
  obtain rfl : u1 = Value.ref a := r1
  obtain ⟨tk, rfl⟩ : ∃ tk, u2 = Value.int (n : Nat) tk := r2
  rw [hbody] at lk hb
  have hself : (List.zip [("self" : Str), f] [Value.ref a, Value.int (n : Nat) tk]).reverse.lookup ("self" : Str) = some (.ref a) := by
    show List.lookup ("self" : Str) [(f, Value.int (n : Nat) tk), (("self" : Str), Value.ref a)] = _
    have : (("self" : Str) == f) = false := by rw [← hfs]; exact Bool.beq_comm
    simp [List.lookup, this]
  refine err_head (ps := ["self", f]) (bnd := List.zip [("self" : Str), f] [Value.ref a, Value.int (n : Nat) tk]) hr e0 lk hcd hcode hvs hfile hcell I.oex I.any I.sup I.sub I.mro I.msup I.top S rfl hself hb (hev _ _ _ _) ha (harg _ _ _ _ _ _ _ hn100).at fun s' t1 k hx hns KX os gs => ?_
  obtain ⟨nm, q, N, bs, bm, sn, sub, ab, col, dd, k0, k1, k2, k3, k5, hC, hbm⟩ := I.oex.cls
  have hcl : clsIn K C = some { name := nm, bases := bs, mro := .ref C :: bm, ns := N, qualname := q, hasDict := true, slotNames := sn, subclasses := sub, abstract := ab, collection := col, hasDel := false } := by unfold clsIn; rw [hC] <;> rfl
  refine ks_wpAt_execs_cons (wpAt_of_wpAny (plainObj_wpAny_Assign_Attribute ?_ (hsw _ _ _ _)))
  have hf : (List.zip [("self" : Str), f] [Value.ref a, Value.int (n : Nat) tk]).reverse.lookup f = some (Value.int (n : Nat) tk) := by
    show List.lookup f [(f, Value.int (n : Nat) tk), (("self" : Str), Value.ref a)] = _
    simp [List.lookup]
  refine wpAny_Name (wpAny_loadName_local S.kind (S.loc f (by simp)) hns hf ?_) hd
  refine wpAny_Name (wpAny_loadName_local S.kind (S.loc "self" (by simp)) hns hself ?_) (by decide)
  obtain ⟨h3, g3, d3, t3, os3⟩ := s'
  refine set_plain KX (ox := { cls := .ref C, dict := none, data := .fields #[.ref t1, .none, .none, .none, .bool false, .none] }) (od := none) ⟨hx, rfl, rfl, trivial⟩ I.oex.sa ?_
  refine HandSPX.exc_osa KX hx hcl (show HandSPX.refsVE (.ref C :: bm) = true from hbm) rfl hno (fun h4 tk4 dx k4 dn dne hx4 hn4 => ?_)
  refine wpAt_of_wpAny (wpAny_execs_nil ?_)
  have hsz : s.heap.objs.size ≤ h3.objs.size := by
    obtain ⟨o, es, ep, z1, _⟩ := hns
    exact Nat.le_of_lt (Heap.lt_size z1)
  exact err_end (s' := ⟨h4, g3, d3, tk4, os3⟩) (y := .int (n : Nat)) e0 ha (fun b o hb q => k4 b o hb (k b o hb q)) (Nat.le_trans hsz dn) dne hx4 hn4 ⟨tk, rfl⟩ os gs hq
end
section
variable {G : Gm} {φ : Fr} {m : Bool} {O O' Ol : List Nat} {E : XK} {σ : L2.St} {ρ : NL.Env} {B H : Hp} {S : SrcT} {X : Cx} {st : Stmt} {e : PySem.Expr} {F : Ex} {Fs : Exs}
/-- raise C(n), n a small number -/
def raiseI (c : Nat) (Fs : Exs) : Sx := fun ρ S => (Fs ρ S).bind fun ds S1 => match ds with
  | [.int i] => if (decide (0 ≤ i) && decide (i < 100)) = true then .exc c (some (.int i)) S1 else .bad
  | _ => .bad
theorem ds_raiseI {c : Nat} {C : Addr} {f : Str} (hC : G.ec c = C) (hf : G.ef c = f) (h : PS X st (fun _ σ H => tMkO C (spErrI C f) [] (tDs G false O E Fs) σ H fun cls d H' => E cls d H')) : PS X st (tS G O O' Ol E (raiseI c Fs)) := by
  refine h.mono fun D σ H ⟨φ, B, ρ, S, R, hp⟩ => ?_
  refine ⟨φ, B, ρ, S, R, ?_⟩
  refine PostS.bind hp fun ds S1 ws B1 H1 g R1 hws h1 => ?_
  split at h1
  · rename_i i
    split at h1
    · rename_i hi
      simp only [Bool.and_eq_true, decide_eq_true_eq] at hi
      obtain ⟨n, rfl⟩ := Int.eq_ofNat_of_zero_le hi.1
      cases hws with | cons hv hw2 =>
      cases hw2; cases hv
      refine ⟨by simp, fun a na => ⟨a, n, rfl, by omega, upd_same, fun dx ndx ne => ⟨rfl, dx, [(f, .int (n : Nat))], upd_same, by rw [upd_ne ne]; exact upd_same, by rw [upd_ne ne] at ndx; exact ndx, ?_⟩⟩⟩
      have ndx' : H1 dx = none := by rw [upd_ne ne] at ndx; exact ndx
      have eH : upd (del (upd (upd (upd H1 a (exo a C none)) dx (exd dx [(f, .int (n : Nat))])) a (exo a C (some dx))) a) dx (.xd [(f, .int (n : Nat))]) = upd H1 dx (.xd [(f, .int (n : Nat))]) := by
        funext b
        by_cases hb : b = dx
        · rw [hb, upd_same, upd_same]
        · rw [upd_ne hb, upd_ne hb]
          by_cases hba : b = a
          · rw [hba, del_same, na]
          · rw [del_ne hba, upd_ne hba, upd_ne hb, upd_ne hba]
      rw [eH]
      have h1 : XS G φ E B1 c (some (.int (n : Nat))) S1 := h1
      obtain ⟨R2, g2, _⟩ := R1.newN (o := .xd [(f, .int (n : Nat))]) ndx'
      exact h1 B1 _ _ _ (Same.refl _) R2.bare ⟨by rw [hC], dx, _, rfl, by rw [hf]; exact upd_same, .int _⟩
    · exact h1.elim
  · exact h1.elim
end
end
end NL
/-! ### try, with clauses of both kinds -/
namespace NL
noncomputable section
open PySem L2 PySem.Spec PyProof.Rows
abbrev TSu := Addr → Value → Option Addr → TS
/-- what the clauses wish of an exception of the body -/
def wMix (K : PySem.W.Frag) (D : Ends) : List (Value × Option Nat × TSu) → WX
  | [] => fun _ _ _ _ => False
  | (c, none, ts) :: r => fun cls d σ H => ∃ b, PySem.W.exmOne K cls c = some b ∧ (b = true → ∀ a, H a = none → ts a cls d D σ H) ∧ (b = false → wMix K D r cls d σ H)
  | (c, some i, ts) :: r => fun cls d σ H => ∃ b, PySem.W.exmOne K cls c = some b ∧ (b = true → ∀ a, H a = none → ts a cls d { nx := fun σ' H' => D.nx (σ'.set i none) H', rt := D.rt, bk := fun σ' H' => D.bk (σ'.set i none) H', ct := fun σ' H' => D.ct (σ'.set i none) H' } (σ.set i (some (.ref a))) H) ∧
    (b = false → wMix K D r cls d σ H)
inductive HdsM (X : Cx) : List ExceptHandler → List (Value × Option Nat × TSu) → Prop
  | nil : HdsM X [] []
  | only {x : Str} {c : Value} {ts : TSu} {b₀ : Stmt} {suite : List Stmt} {np pos' : Pos} {hds : List ExceptHandler} {l : List (Value × Option Nat × TSu)} (hc : Names X x c)
      (hsu : ∀ (a : Addr) (oe : Obj) (cls : Value) (d : Option Addr) (pn : List (Addr × Obj)), Zc cls d oe → (∃ vs, oe.data = .fields vs) → PSs (X.suite a ((a, oe) :: pn)) (b₀ :: suite) (ts a cls d)) (r : HdsM X hds l) :
      HdsM X (.ExceptHandler (some (.Name x np)) none (b₀ :: suite) pos' :: hds) ((c, none, ts) :: l)
  | as {x n : Str} {c : Value} {i : Nat} {ts : TSu} {b₀ : Stmt} {suite : List Stmt} {np pos' : Pos} {hds : List ExceptHandler} {l : List (Value × Option Nat × TSu)} (hi : X.N[i]? = some n) (hln : X.env.kindOf n = some .local) (hc : Names X x c)
      (hsu : ∀ (a : Addr) (oe : Obj) (cls : Value) (d : Option Addr) (pn : List (Addr × Obj)), Zc cls d oe → (∃ vs, oe.data = .fields vs) → PSs (X.suite a ((a, oe) :: pn)) (b₀ :: suite) (ts a cls d)) (r : HdsM X hds l) :
      HdsM X (.ExceptHandler (some (.Name x np)) (some n) (b₀ :: suite) pos' :: hds) ((c, some i, ts) :: l)
section
variable {X : Cx} {body : List Stmt} {h₀ : ExceptHandler} {hds : List ExceptHandler} {l : List (Value × Option Nat × TSu)} {pos : Pos} {tb : WX → TS}
theorem ps_try_mix (hs : X.stack = X.env :: X.outer) (hf : X.env.frame = some X.env.locals) (hN : X.N.Nodup)
    (hb : ∀ (W : WX) (pn : List (Addr × Obj)) (xe : Value → Shared → Prop), Takes (X.tr pn xe) W → PassesOwn (model X.prog X.w) X.A X.env xe → PSs (X.tr pn xe) body (tb W))
    (hh : HdsM X (h₀ :: hds) l) : PS X (.Try body (h₀ :: hds) [] [] pos) (fun D σ H => tb (wMix X.K D l) D σ H) := by
  refine ⟨fun pins s σ H D I h => ?_⟩
  have ok := I.ok
  have hfr : X.A.frames = some (X.env :: X.outer) := by rw [ok.frames, hs]
  refine wpAny_Try_except ?_
  refine wpAny_mono ((hb (wMix X.K D l) (X.pn ++ pins) (fun e s₁ => wpAny (model X.prog X.w) X.A (noteFrame e X.env) (fun _ s₂ => wpAny (model X.prog X.w) X.A (setFlight e none) (fun _ s₃ =>
    wpAny (model X.prog X.w) X.A (handleBy e X.env (h₀ :: hds)) (SP X pins D) X.xe s₃) X.xe s₂) X.xe s₁) (fun u s' xx => ?_) PassesOwn.looking).run [] s σ H D (I.toTry _) h) (fun f s1 hsp => ?_) (fun e s1 he => he)
  · obtain ⟨a, B, sI, pins', σ', H', cls, d, rfl, J', nb, up, sky, na, os, ag, w⟩ := xx
    have J : Inv X pins σ' H' sI := J'.ofTry ok
    have sky' : Sky B (X.env :: X.outer) a (Zc cls d) X.env.locals s'.heap := by rw [← hs]; exact sky
    show wpAny (model X.prog X.w) X.A (noteFrame (.ref a) X.env) _ _ _
    refine Sky.land Zc.steady hfr hf sky' fun h3 fl3 up3 => ?_
    have J3 : Inv X pins σ' H' { s' with heap := h3 } := J.landed nb fl3.1 (up.trans up3) os ag
    obtain ⟨oe3, vs3, he3, hz3, hd3⟩ := fl3.there
    have notFr : ∀ {h : Heap} {o : Obj} {vs : Array Value}, h.FunFrames B (X.env :: X.outer) → h.get? a = some o → o.data = .fields vs → a ∉ frs (X.env :: X.outer) := fun {h o vs} ff e dd hm => by
      obtain ⟨_, o', e', hnf⟩ := ff.mem hm
      rw [e] at e'; cases e'
      exact hnf _ dd
    have nfr := notFr fl3.2.2.1 he3 hd3
    have nL : a ≠ X.env.locals := fun z => nfr (List.mem_filterMap.mpr ⟨X.env, List.mem_cons_self, by rw [hf, z]⟩)
    have nF : a ∉ X.fs := fun hm => by
      obtain ⟨e, he, q⟩ := List.mem_filterMap.mp hm
      exact nfr (List.mem_filterMap.mpr ⟨e, List.mem_cons_of_mem _ he, q⟩)
    have S3 := J3.suite he3 hd3 na nL nF
    have LT : PySem.W.Looks (model X.prog X.w) h3 (typeOf (.ref a)) cls := fun A Q E s k q => wpAny_typeOf_ref (k _ _ he3) (by rw [hz3.1]; exact q)
    have test : ∀ {x : Str} {c : Value} {np : Pos} {Q : Value → Shared → Prop} {E : Value → Shared → Prop}, Names X x c → Q c { s' with heap := h3 } → wpAny (model X.prog X.w) (X.A.mark (some (.ref a))) (eval (.Name x np) X.env) Q E { s' with heap := h3 } := fun {x c np Q E} hc q => by
      obtain ⟨hg, hdbg, hm | ⟨hm, hv, hnn⟩⟩ := hc
      · exact ld_glob (X := X.suite a ((a, oe3) :: (X.pn ++ pins))) S3 hg hm q hdbg
      · exact ld_blt (X := X.suite a ((a, oe3) :: (X.pn ++ pins))) S3 hg hm hv q hnn hdbg
    have go : ∀ {hds' : List ExceptHandler} {l' : List (Value × Option Nat × TSu)}, HdsM X hds' l' → wMix X.K D l' cls d σ' H' →
        wpAny (model X.prog X.w) X.A (handleBy (.ref a) X.env hds') (SP X pins D) X.xe { s' with heap := h3 } := by
      intro hds' l' hk
      induction hk with
      | nil => intro w; exact w.elim
      | @only x c ts b₀ suite np pos' hds2 l2 hc hsu r ih =>
        intro w
        obtain ⟨b, hb1, hyes, hno⟩ := w
        refine wpAny_handleBy_cons (codeAny_handlers_test ?_) (by intro q; cases q)
        have LM := PySem.W.exm_one (M := model X.prog X.w) (J3.kIn) LT hb1
        refine test hc (LM.here ?_)
        cases b with
        | true =>
          refine codeAny_handlers_suite ?_
          refine HandSPX.lands_againZ fl3 fun h4 fl4 up4 => ?_
          have J4 : Inv X pins σ' H' { s' with heap := h4 } := J.landed nb fl4.1 ((up.trans up3).trans up4) os ag
          obtain ⟨oe4, vs4, he4, hz4, hd4⟩ := fl4.there
          have S4 := J4.suite he4 hd4 na nL nF
          refine wpAny_mono ((hsu a oe4 cls d (X.pn ++ pins) hz4 ⟨_, hd4⟩).run [] _ _ H' _ S4 (hyes rfl a na)) (fun f s6 hsp => ?_) (fun _ _ z => False.elim z)
          cases f with
          | next =>
            obtain ⟨σ6, H6, S6, q6⟩ := hsp
            exact ⟨_, _, S6.unsuite ok, q6⟩
          | brk =>
            obtain ⟨σ6, H6, S6, q6⟩ := hsp
            exact ⟨_, _, S6.unsuite ok, q6⟩
          | cont =>
            obtain ⟨σ6, H6, S6, q6⟩ := hsp
            exact ⟨_, _, S6.unsuite ok, q6⟩
          | ret u =>
            obtain ⟨v6, σ6, H6, S6, r6, q6⟩ := hsp
            exact ⟨_, _, _, S6.unsuite ok, r6, q6⟩
        | false =>
          show wpAny _ X.A (handleBy (.ref a) X.env hds2) _ _ _
          exact ih (hno rfl)
      | @as x n c i ts b₀ suite np pos' hds2 l2 hi hln hc hsu r ih =>
        intro w
        obtain ⟨b, hb1, hyes, hno⟩ := w
        have hloc : Loc X.env.scope n := .inl hln
        refine wpAny_handleBy_cons (codeAny_handlers_test ?_) (by intro q; cases q)
        have LM := PySem.W.exm_one (M := model X.prog X.w) (J3.kIn) LT hb1
        refine test hc (LM.here ?_)
        cases b with
        | true =>
          refine codeAny_handlers_suite_as ?_
          refine HandSPX.lands_againZ fl3 fun h4 fl4 up4 => ?_
          have J4 : Inv X pins σ' H' { s' with heap := h4 } := J.landed nb fl4.1 ((up.trans up3).trans up4) os ag
          obtain ⟨oe4, vs4, he4, hz4, hd4⟩ := fl4.there
          have S4 := J4.suite he4 hd4 na nL nF
          refine store_ok (X := X.suite a ((a, oe4) :: (X.pn ++ pins))) (v := .ref a) S4 hN hi hloc rfl (fun s5 S5 => ?_) (.inr hln)
          refine wpAny_mono ((hsu a oe4 cls d (X.pn ++ pins) hz4 ⟨_, hd4⟩).run [] s5 _ H' _ S5 (hyes rfl a na)) (fun f s6 hsp => ?_) (fun _ _ z => False.elim z)
          have end_ : ∀ {σ6 : L2.St} {H6 : Hp} {Q : Shared → Prop}, Inv (X.suite a ((a, oe4) :: (X.pn ++ pins))) [] σ6 H6 s6 → (∀ s7, Inv X pins (σ6.set i none) H6 s7 → Q s7) →
              wpAny (model X.prog X.w) X.A (do bindName X.env n .none; unbindBehindTheSuite X.env n pos') (fun _ s7 => Q s7) X.xe s6 := fun {σ6 H6 Q} S6 hq => gone_ok (S6.unsuite ok) hN hi hln hq
          cases f with
          | next =>
            obtain ⟨σ6, H6, S6, q6⟩ := hsp
            exact end_ S6 fun s7 J7 => ⟨_, _, J7, q6⟩
          | brk =>
            obtain ⟨σ6, H6, S6, q6⟩ := hsp
            exact end_ S6 fun s7 J7 => ⟨_, _, J7, q6⟩
          | cont =>
            obtain ⟨σ6, H6, S6, q6⟩ := hsp
            exact end_ S6 fun s7 J7 => ⟨_, _, J7, q6⟩
          | ret u =>
            obtain ⟨v6, σ6, H6, S6, r6, q6⟩ := hsp
            exact end_ S6 fun s7 J7 => ⟨_, _, _, J7, r6, q6⟩
        | false =>
          show wpAny _ X.A (handleBy (.ref a) X.env hds2) _ _ _
          exact ih (hno rfl)
    exact go hh w
  · cases f with
    | next =>
      obtain ⟨σ', H', J', q⟩ := hsp
      exact wpAny_execs_nil ⟨σ', H', J'.ofTry ok, q⟩
    | brk =>
      obtain ⟨σ', H', J', q⟩ := hsp
      exact ⟨σ', H', J'.ofTry ok, q⟩
    | cont =>
      obtain ⟨σ', H', J', q⟩ := hsp
      exact ⟨σ', H', J'.ofTry ok, q⟩
    | ret u =>
      obtain ⟨v, σ', H', J', r, q⟩ := hsp
      exact ⟨v, σ', H', J'.ofTry ok, r, q⟩
end
end
end NL
/-! ### try, as data -/
namespace NL
noncomputable section
open PySem L2 PySem.Spec PyProof.Rows
section
variable {G : Gm} {φ : Fr} {m : Bool} {O O' Ol L : List Nat} {E : XK} {W : WX} {σ : L2.St} {ρ : NL.Env} {B H B' H' : Hp} {S S' : SrcT} {X : Cx} {st : Stmt} {rest body : List Stmt} {e : Expr} {F : Ex} {Fs : Exs} {A A1 A2 : Sx} {pos : Pos}
theorem Rep.back (R : Rep G φ [] σ B H ρ S) (s : Same B B') (R' : Rep G φ [] [] B' H' [] S') : Rep G φ [] σ B' H' ρ S' :=
  ⟨R'.sub, R'.fr, R'.cl, R'.src, R'.b0, R.len, fun i d hi h => by
    obtain ⟨v, h1, h2⟩ := R.val i d hi h
    exact ⟨v, h1, h2.same s⟩, fun i hi => (nomatch hi), fun i j hi => (nomatch hi), R'.al, R'.mem, R'.vv, fun i hi => (nomatch hi)⟩
theorem Rep.setX (R : Rep G φ [] σ B H ρ S) (i : Nat) (v : V) : Rep G φ [] (σ.set i (some v)) B H (ρ.set i none) S := by
  refine ⟨R.sub, R.fr, R.cl, R.src, R.b0, by rw [List.length_set, List.length_set]; exact R.len, fun j d hj h => ?_, fun i hi => (nomatch hi), fun i j hi => (nomatch hi), R.al, R.mem, R.vv, fun i hi => (nomatch hi)⟩
  by_cases e : i = j
  · subst e
    have hl : i < ρ.length := by
      rcases Nat.lt_or_ge i ρ.length with q | q
      · exact q
      · rw [List.set_eq_of_length_le q, List.getElem?_eq_none q] at h; cases h
    rw [List.getElem?_set_self hl] at h
    cases h
  · rw [List.getElem?_set_ne e] at h ⊢
    exact R.val j d hj h
/-- a clause: the class, the name's slot, the suite -/
abbrev Hdl := Nat × Option Nat × (Option D → Sx)
def hdsF (c : Nat) (d : Option D) (ρ : NL.Env) (S : SrcT) : List Hdl → Rs (Fl × NL.Env)
  | [] => .bad
  | (k, none, A) :: r => if c = k then A d ρ S else hdsF c d ρ S r
  | (k, some i, A) :: r => if c = k then (if i < ρ.length then (A d (ρ.set i none) S).bind fun q S' => .ok (q.1, q.2.set i none) S' else .bad) else hdsF c d ρ S r
def Rs.catch {α : Type} (r : Rs α) (h : Nat → Option D → SrcT → Rs α) : Rs α := match r with
  | .bad => .bad
  | .exc c d S => h c d S
  | .ok a S => .ok a S
  | .all p k => .all p fun x => (k x).catch h
def tryS (L : List Nat) (A : Sx) (hs : List Hdl) : Sx := fun ρ S => (A ρ S).catch fun c d S1 => if c ∈ L then hdsF c d ρ S1 hs else .bad
def tSw (G : Gm) (O O' Ol : List Nat) (W : WX) (A : Sx) : TS := fun D σ H => tS G O O' Ol (fun cls d H' => W cls d σ H') A D σ H
def tDw (G : Gm) (m : Bool) (O : List Nat) (W : WX) (F : Ex) : TE := fun σ H Q => tD G m O (fun cls d H' => W cls d σ H') F σ H Q
/-- what a suite must answer -/
def SuOk (G : Gm) (Ol : List Nat) (k : Nat) (i : Option Nat) (ts : TSu) (A : Option D → Sx) : Prop := ∀ (a : Addr) (cls : Value) (od : Option Addr) (d : Option D) (φ : Fr) (B : Hp) (ρ : NL.Env) (S : SrcT) (En : Ends) (σ : L2.St) (H : Hp) (E : XK), Rep G φ [] σ B H ρ S → ExnAt G φ.p B H k d cls od →
  (∀ j, i = some j → σ[j]? = some (some (.ref a))) → PostS G φ [] Ol E En B (A d ρ S) → ts a cls od En σ H
inductive HdsD (X : Cx) (G : Gm) (Ol L : List Nat) : List ExceptHandler → List Hdl → List (Value × Option Nat × TSu) → Prop
  | nil : HdsD X G Ol L [] [] []
  | only {k : Nat} {A : Option D → Sx} {x : Str} {ts : TSu} {b₀ : Stmt} {suite : List Stmt} {np pos' : Pos} {hds : List ExceptHandler} {l : List Hdl} {t : List (Value × Option Nat × TSu)} (hc : Names X x (.ref (G.ec k))) (hm : ∀ c ∈ L, PySem.W.exmOne X.K (.ref (G.ec c)) (.ref (G.ec k)) = some (decide (c = k)))
      (hsu : ∀ (a : Addr) (oe : Obj) (cls : Value) (d : Option Addr) (pn : List (Addr × Obj)), Zc cls d oe → (∃ vs, oe.data = .fields vs) → PSs (X.suite a ((a, oe) :: pn)) (b₀ :: suite) (ts a cls d)) (ok : SuOk G Ol k none ts A) (r : HdsD X G Ol L hds l t) :
      HdsD X G Ol L (.ExceptHandler (some (.Name x np)) none (b₀ :: suite) pos' :: hds) ((k, none, A) :: l) ((.ref (G.ec k), none, ts) :: t)
  | as {k i : Nat} {A : Option D → Sx} {x n : Str} {ts : TSu} {b₀ : Stmt} {suite : List Stmt} {np pos' : Pos} {hds : List ExceptHandler} {l : List Hdl} {t : List (Value × Option Nat × TSu)} (hio : i ∉ Ol) (hi : X.N[i]? = some n) (hln : X.env.kindOf n = some .local) (hc : Names X x (.ref (G.ec k))) (hm : ∀ c ∈ L, PySem.W.exmOne X.K (.ref (G.ec c)) (.ref (G.ec k)) = some (decide (c = k)))
      (hsu : ∀ (a : Addr) (oe : Obj) (cls : Value) (d : Option Addr) (pn : List (Addr × Obj)), Zc cls d oe → (∃ vs, oe.data = .fields vs) → PSs (X.suite a ((a, oe) :: pn)) (b₀ :: suite) (ts a cls d)) (ok : SuOk G Ol k (some i) ts A) (r : HdsD X G Ol L hds l t) :
      HdsD X G Ol L (.ExceptHandler (some (.Name x np)) (some n) (b₀ :: suite) pos' :: hds) ((k, some i, A) :: l) ((.ref (G.ec k), some i, ts) :: t)
theorem HdsD.mix {hds : List ExceptHandler} {l : List Hdl} {t : List (Value × Option Nat × TSu)} (h : HdsD X G Ol L hds l t) : HdsM X hds t := by
  induction h with
  | nil => exact .nil
  | only hc _ hsu _ _ ih => exact .only hc hsu ih
  | as _ hi hln hc _ hsu _ _ ih => exact .as hi hln hc hsu ih
theorem HdsD.wish {hds : List ExceptHandler} {l : List Hdl} {t : List (Value × Option Nat × TSu)} (h : HdsD X G Ol L hds l t) {c : Nat} (hc : c ∈ L) {d : Option D} {cls : Value} {od : Option Addr} {En : Ends} (R : Rep G φ [] σ B H ρ S) (hx : ExnAt G φ.p B H c d cls od) (hp : PostS G φ [] Ol E En B (hdsF c d ρ S l)) : wMix X.K En t cls od σ H := by
  induction h with
  | nil => exact hp.elim
  | @only k A x ts b₀ suite np pos' hds l t _ hm _ ok _ ih =>
    refine ⟨_, by rw [hx.1]; exact hm c hc, fun hb a na => ?_, fun hb => ?_⟩
    · have e : c = k := of_decide_eq_true hb
      subst e
      unfold hdsF at hp
      rw [if_pos rfl] at hp
      exact ok a cls od d φ B ρ S En σ H E R hx (fun j hj => nomatch hj) hp
    · have e : ¬ c = k := of_decide_eq_false hb
      unfold hdsF at hp
      rw [if_neg e] at hp
      exact ih hp
  | @as k i A x n ts b₀ suite np pos' hds l t hio _ _ _ hm _ ok _ ih =>
    refine ⟨_, by rw [hx.1]; exact hm c hc, fun hb a na => ?_, fun hb => ?_⟩
    · have e : c = k := of_decide_eq_true hb
      subst e
      unfold hdsF at hp
      rw [if_pos rfl] at hp
      split at hp
      · rename_i hi
        refine ok a cls od d φ B (ρ.set i none) S _ _ H E (R.setX i (.ref a)) hx (fun j hj => ?_) ?_
        · cases hj
          rw [List.getElem?_set_self (by rw [R.len]; exact hi)]
        · exact PostS.seq (β := Unit) hp (fun ρ' S σ' B' H' s R' h => h _ B' H' (Same.refl _) (R'.unset (by simp))) (fun ρ' S σ' B' H' s R' h => h _ B' H' (Same.refl _) (R'.unset hio)) (fun ρ' S σ' B' H' s R' h => h _ B' H' (Same.refl _) (R'.unset hio)) (fun ρ' d S v B' H' s R' hv h => h v B' H' (Same.refl _) R' hv)
      · exact hp.elim
    · have e : ¬ c = k := of_decide_eq_false hb
      unfold hdsF at hp
      rw [if_neg e] at hp
      exact ih hp
theorem ds_try {h₀ : ExceptHandler} {hds : List ExceptHandler} {l : List Hdl} {t : List (Value × Option Nat × TSu)} (hs : X.stack = X.env :: X.outer) (hf : X.env.frame = some X.env.locals) (hN : X.N.Nodup)
    (hb : ∀ (W : WX) (pn : List (Addr × Obj)) (xe : Value → Shared → Prop), Takes (X.tr pn xe) W → PSs (X.tr pn xe) body (tSw G [] [] Ol W A)) (hh : HdsD X G Ol L (h₀ :: hds) l t) : PS X (.Try body (h₀ :: hds) [] [] pos) (tS G [] [] Ol E (tryS L A l)) := by
  refine (ps_try_mix hs hf hN (fun W pn xe tk _ => hb W pn xe tk) hh.mix).mono fun En σ H ⟨φ, B, ρ, S, R, hp⟩ => ⟨φ, B, ρ, S, R, ?_⟩
  unfold tryS at hp
  generalize A ρ S = r at hp
  show PostS G φ [] Ol _ En B r
  induction r with
  | bad => exact hp
  | all p k ih => exact fun x px => ih x (hp x px)
  | ok q S1 =>
    obtain ⟨fl, ρ2⟩ := q
    cases fl <;> exact hp
  | exc c d S1 =>
    replace hp : PostS G φ [] Ol E En B (if c ∈ L then hdsF c d ρ S1 l else .bad) := hp
    split at hp
    · rename_i hc
      exact fun B' H' cv od s R' hx => hh.wish hc (R.back s R') hx (PostS.same s hp)
    · exact hp.elim
/-! the body: its first statement may raise -/
/-- arguments do not raise -/
def callW (f : List D → SrcT → Rs D) (Fs : Exs) : Ex := fun ρ S => (noX (Fs ρ S)).bind f
theorem noX_pg {ω α : Type} {rel : Rel ω α} {r : Rs α} {E E' : XK} {β : Type} {rel' : Rel V β} {k : α → SrcT → Rs β} {Q : V → Hp → Prop} {Q' : ω → Hp → Prop} (h : Pg G φ m O E σ ρ rel' B H ((noX r).bind k) Q)
    (hk : ∀ d S w B1 H1, Go φ B H B1 H1 → Rep G φ O σ B1 H1 ρ S → rel φ.p (bs m φ B1 H1) w d → Pg G φ m O E σ ρ rel' B1 H1 (k d S) Q → Q' w H1) : Pg G φ m O E' σ ρ rel B H r Q' := by
  induction r with
  | bad => exact h
  | exc c d S => exact h.elim
  | ok a S => exact fun w B' H' g R hw => hk a S w B' H' g R hw (Pg.go g h)
  | all p f ih => exact fun x px => ih x (h x px)
theorem de_callW {f : List D → SrcT → Rs D} (h : PE X e (tCallS (spD G f) (WE W) (tDs G false O E Fs))) (hv0 : G.v = false := by rfl) : PE X e (tDw G false O W (callW f Fs)) := by
  refine h.mono fun σ H Q ⟨φ, B, ρ, S, R, hp⟩ => ⟨φ, B, ρ, S, R, ?_⟩
  refine noX_pg hp fun ds S1 ws B1 H1 g R1 hws h1 => ?_
  exact sp_call R1 hws h1 hv0
/-- (c, e) -/
def tup2F (d : D) (F : Ex) : Ex := fun ρ S => (F ρ S).bind fun x S1 => .ok (.tup [d, x]) S1
theorem de_tup2W {c : Expr} {v : V} {d : D} {k : Nat} (hc : PE X c (tC v)) (hd : ∀ p B, DV G p B v d) (he : PE X e (tDw G false O W F)) (h1 : starEach [c, e] X.env = (false, eval c X.env) :: starEach [e] X.env := by rfl) (h2 : starEach [e] X.env = (false, eval e X.env) :: starEach [] X.env := by rfl) : PE X (.Tuple [c, e] k pos) (tDw G false O W (tup2F d F)) := by
  refine (pe_tup (pa_cons hc (pa_cons he pa_nil h2) h1)).mono fun σ H Q ⟨φ, B, ρ, S, R, hp⟩ => ?_
  refine ⟨φ, B, ρ, S, R, ?_⟩
  refine Pg.bind hp fun x S1 w B1 H1 g R1 hw hq => ?_
  refine ⟨by show 2 ≤ sizeLine; decide, fun t nt => ?_⟩
  obtain ⟨R', g', np⟩ := R1.new (o := .tup [v, w]) nt
  exact hq _ _ _ g' R' (.tup (SqT.of (bs_new false np)) (.cons (hd _ _) (.cons (hw.same (g'.bs false)) .nil)))
theorem ds_setW {i : Nat} (h : PS X st (tAsg (tDw G false [] W F) (gName i))) : PS X st (tSw G [] [] Ol W (setS i F)) := by
  refine h.mono fun En σ H ⟨φ, B, ρ, S, R, hp⟩ => ⟨φ, B, ρ, S, R, ?_⟩
  refine PostS.bind hp fun d S1 w B1 H1 g R1 hw hq => ?_
  exact hq _ _ _ (Same.refl _) (R1.set (by simp) hw)
theorem ds_exprW (h : PS X st (tDrop (tDw G m [] W F))) : PS X st (tSw G [] [] Ol W (exprS F)) := by
  refine h.mono fun En σ H ⟨φ, B, ρ, S, R, hp⟩ => ⟨φ, B, ρ, S, R, ?_⟩
  refine PostS.bind hp fun d S1 w B1 H1 g R1 hw hq => ?_
  exact hq _ _ _ (Same.refl _) R1
theorem ds_oneW (h : PS X st (tSw G [] [] Ol W A)) : PSs X [st] (tSw G [] [] Ol W A) := pss_one h
/-- what follows does not raise -/
def noXS (A : Sx) : Sx := fun ρ S => noX (A ρ S)
theorem ds_consW (h1 : PS X st (tSw G [] [] Ol W A1)) (h2 : PSs X rest (tS G [] [] Ol E A2)) : PSs X (st :: rest) (tSw G [] [] Ol W (seqS A1 (noXS A2))) := by
  refine (pss_cons h1 h2).mono fun En σ H ⟨φ, B, ρ, S, R, hp⟩ => ⟨φ, B, ρ, S, R, ?_⟩
  unfold seqS at hp
  generalize A1 ρ S = r at hp
  show PostS G φ [] Ol _ _ B r
  induction r with
  | bad => exact hp
  | exc c d S1 => exact hp
  | all p k ih => exact fun x px => ih x (hp x px)
  | ok q S1 =>
    obtain ⟨fl, ρ2⟩ := q
    cases fl with
    | nx =>
      intro σ' B' H' s R'
      refine ⟨φ, B', ρ2, S1, R', ?_⟩
      have hp : PostS G φ [] Ol (fun cls d H' => W cls d σ H') En B (noX (A2 ρ2 S1)) := hp
      generalize A2 ρ2 S1 = r2 at hp
      induction r2 with
      | bad => exact hp
      | exc _ _ _ => exact hp.elim
      | all p k ih => exact fun x px => ih x (hp x px)
      | ok q2 S2 =>
        obtain ⟨fl, ρ3⟩ := q2
        cases fl <;> exact PostS.same (E := E) s hp
    | brk => exact hp
    | cont => exact hp
    | ret d => exact hp
/-! suites -/
theorem su_plain {k : Nat} {i : Option Nat} {A : Sx} {E0 : XK} (h : ∀ {φ : Fr} {B : Hp} {En : Ends} {r : Rs (Fl × NL.Env)} {E : XK}, PostS G φ [] Ol E En B (noX r) → PostS G φ [] Ol E0 En B r) : SuOk G Ol k i (fun _ _ _ => tS G [] [] Ol E0 A) (fun _ => noXS A) := fun a cls od d φ B ρ S En σ H E R hx hi hp => ⟨φ, B, ρ, S, R, h hp⟩
theorem su_noX {E0 : XK} {φ : Fr} {B : Hp} {En : Ends} {r : Rs (Fl × NL.Env)} {E : XK} (h : PostS G φ [] Ol E En B (noX r)) : PostS G φ [] Ol E0 En B r := by
  induction r with
  | bad => exact h
  | exc _ _ _ => exact h.elim
  | all p k ih => exact fun x px => ih x (h x px)
  | ok r S2 =>
    obtain ⟨fl, ρ3⟩ := r
    cases fl <;> exact h
/-- x = (c, e.f) -/
def fldT (j : Nat) (d0 : D) : Option D → Sx := fun d ρ S => match d with
  | some d => .ok (.nx, ρ.set j (some (.tup [d0, d]))) S
  | none => .bad
theorem su_fldT {k i j : Nat} {C : Addr} {f : Str} {v0 : V} {d0 : D} (hC : G.ec k = C) (hf : G.ef k = f) (hd0 : ∀ p B, DV G p B v0 d0) :
    SuOk G Ol k (some i) (fun a cls od => tAsg (tTup (tCons (tC v0) (tCons (tXf a cls od C f (tVar i)) tNil))) (gName j)) (fldT j d0) := by
  intro a cls od d φ B ρ S En σ H E R hx hi hp
  obtain ⟨e1, e2⟩ := hx
  cases d with
  | none => exact hp.elim
  | some d =>
    obtain ⟨dx, v, k1, k2, k3⟩ := e2
    refine ⟨_, hi i rfl, rfl, by rw [e1, hC], dx, _, v, k1, k2, by rw [hf]; simp [List.lookup], by show 2 ≤ sizeLine; decide, fun t nt => ?_⟩
    obtain ⟨R', g', np⟩ := R.new (o := .tup [v0, v]) nt
    exact hp _ _ _ g'.b (R'.set (by simp) (.tup (SqT.of upd_same) (.cons (hd0 _ _) (.cons (k3.same g'.b) .nil))))
/-- x = [e.f] -/
def fldL (j : Nat) : Option D → Sx := fun d ρ S => match d with
  | some d => .ok (.nx, ρ.set j (some (.lst [d]))) S
  | none => .bad
theorem su_fldL {k i j : Nat} {C : Addr} {f : Str} (hC : G.ec k = C) (hf : G.ef k = f) :
    SuOk G Ol k (some i) (fun a cls od => tAsg (tLst (tCons (tXf a cls od C f (tVar i)) tNil)) (gName j)) (fldL j) := by
  intro a cls od d φ B ρ S En σ H E R hx hi hp
  obtain ⟨e1, e2⟩ := hx
  cases d with
  | none => exact hp.elim
  | some d =>
    obtain ⟨dx, v, k1, k2, k3⟩ := e2
    refine ⟨_, hi i rfl, rfl, by rw [e1, hC], dx, _, v, k1, k2, by rw [hf]; simp [List.lookup], by show 1 ≤ sizeLine; decide, fun t nt => ?_⟩
    obtain ⟨R', g', np⟩ := R.new (o := .lst [v]) nt
    exact hp _ _ _ g'.b (R'.set (by simp) (.lst upd_same (.cons (k3.same g'.b) .nil)))
end
end
end NL
/-! ### plain steps: tables, runs made, written dicts, updates, try -/
namespace NL
noncomputable section
open PySem L2
section
variable {ρ : Env} {S : SrcT} {F F1 : Ex} {Fs : Exs} {A : Sx} {P : D → SrcT → Prop} {PS : Fl × Env → SrcT → Prop} {f : List D → SrcT → Rs D}
theorem tabGF_sat (h : (F1 ρ S).sat fun d S1 => ∃ rs ans, d = .loop rs ans ∧ (Fs ρ S1).sat fun ds S2 => ∃ s p, ds = [.str s, .str p] ∧ P (match fitIdx rs s p with | some k => .int (k : Nat) | none => .non) S2) : (tabGF F1 Fs ρ S).sat P := by
  unfold tabGF; rw [sat_bind]
  refine h.mono fun d S1 ⟨rs, ans, e, h1⟩ => ?_
  subst e
  dsimp only
  rw [sat_bind]
  refine h1.mono fun ds S2 ⟨s, p, e, h2⟩ => ?_
  subst e
  exact h2
theorem mkRunF_sat (h : (Fs ρ S).sat fun ds S1 => ∃ ws ks ns st an, ds = [.lst ws, .lst ks, .lst ns, .str st, .str an] ∧ ∃ w k n, strsD ws = some w ∧ boolsD ks = some k ∧ intsD ns = some n ∧ P (.run ⟨st, w, k, n⟩ an) S1) : (mkRunF Fs ρ S).sat P := by
  unfold mkRunF; rw [sat_bind]
  refine h.mono fun ds S1 ⟨ws, ks, ns, st, an, e, w, k, n, h1, h2, h3, h4⟩ => ?_
  subst e
  dsimp only
  rw [h1, h2, h3]
  exact h4
theorem updS_sat {i : Nat} {es : List (Key × D)} (hi : ρ[i]? = some (some (.dct es))) (h : (F ρ S).sat fun d S1 => ∃ more, d = .dct more ∧ es.length + more.length ≤ 100000 ∧ PS (.nx, ρ.set i (some (.dct (putsE es more)))) S1) : (updS i F ρ S).sat PS := by
  unfold updS; rw [hi]
  dsimp only
  rw [sat_bind]
  refine h.mono fun d S1 ⟨more, e, hl, h1⟩ => ?_
  subst e
  dsimp only
  rw [if_pos hl]; exact h1
theorem noX_sat {α : Type} {r : Rs α} {P : α → SrcT → Prop} (h : r.sat P) : (noX r).sat P := by
  induction r with
  | all p k ih => exact fun x px => ih x (h x px)
  | ok a S => exact h
  | _ => exact h.elim
theorem noXS_sat (h : (A ρ S).sat PS) : (noXS A ρ S).sat PS := noX_sat h
theorem callW_sat (h : (Fs ρ S).sat fun ds S1 => (f ds S1).sat P) : (callW f Fs ρ S).sat P := by unfold callW; rw [sat_bind]; exact noX_sat h
theorem callW_ok {ds : List D} {S1 : SrcT} (h : Fs ρ S = .ok ds S1) : callW f Fs ρ S = f ds S1 := by unfold callW; rw [h]; rfl
theorem tup2F_sat {d : D} (h : (F ρ S).sat fun x S1 => P (.tup [d, x]) S1) : (tup2F d F ρ S).sat P := by unfold tup2F; rw [sat_bind]; exact h
/-- what a plain function gives, or what it raises -/
def Rs.satX {α : Type} (r : Rs α) (P : α → SrcT → Prop) (E : Nat → Option D → SrcT → Prop) : Prop := match r with
  | .ok a S => P a S
  | .exc c d S => E c d S
  | .all p k => ∀ x, p x → (k x).satX P E
  | .bad => False
theorem satX_bind {α β : Type} {P : α → SrcT → Prop} {E : Nat → Option D → SrcT → Prop} {r : Rs β} {k : β → SrcT → Rs α} : (r.bind k).satX P E ↔ r.satX (fun b S => (k b S).satX P E) E := by
  induction r with
  | all p f ih => exact ⟨fun h x px => (ih x).mp (h x px), fun h x px => (ih x).mpr (h x px)⟩
  | _ => exact Iff.rfl
theorem Rs.satX.mono {α : Type} {r : Rs α} {P P' : α → SrcT → Prop} {E E' : Nat → Option D → SrcT → Prop} (h : r.satX P E) (hp : ∀ a S, P a S → P' a S) (he : ∀ c d S, E c d S → E' c d S) : r.satX P' E' := by
  induction r with
  | ok a S => exact hp a S h
  | bad => exact h
  | exc c d S => exact he c d S h
  | all p f ih => exact fun x px => ih x (h x px)
theorem satX_of {α : Type} {r : Rs α} {P : α → SrcT → Prop} {E : Nat → Option D → SrcT → Prop} (h : r.sat P) : r.satX P E := by
  induction r with
  | ok a S => exact h
  | bad => exact h
  | exc c d S => exact h.elim
  | all p f ih => exact fun x px => ih x (h x px)
theorem tryS_satX {L : List Nat} {hs : List Hdl} (h : (A ρ S).satX PS fun c d S1 => c ∈ L ∧ (hdsF c d ρ S1 hs).sat PS) : (tryS L A hs ρ S).sat PS := by
  unfold tryS
  generalize A ρ S = r at h ⊢
  induction r with
  | ok q S1 => exact h
  | bad => exact h.elim
  | exc c d S1 => show Rs.sat (if c ∈ L then _ else _) _; rw [if_pos h.1]; exact h.2
  | all p k ih => exact fun x px => ih x (h x px)
theorem tryS_sat {L : List Nat} {hs : List Hdl} (h : (A ρ S).sat PS) : (tryS L A hs ρ S).sat PS := tryS_satX (satX_of h)
theorem tryS_exc {L : List Nat} {hs : List Hdl} {c : Nat} {d : Option D} {S1 : SrcT} (e : A ρ S = .exc c d S1) (hc : c ∈ L) (h : (hdsF c d ρ S1 hs).sat PS) : (tryS L A hs ρ S).sat PS := tryS_satX (by rw [e]; exact ⟨hc, h⟩)
theorem dgo_nil {P : List (Key × D) → SrcT → Prop} (h : P [] S) : (dispGo ρ [] S).sat P := h
theorem dgo_cons {Fk Fv : Ex} {l : List (Ex × Ex)} {P : List (Key × D) → SrcT → Prop} (h : (Fk ρ S).sat fun k S1 => (Fv ρ S1).sat fun v S2 => ∃ kk, keyD k = some kk ∧ (dispGo ρ l S2).sat fun ys S3 => P ((kk, v) :: ys) S3) : (dispGo ρ ((Fk, Fv) :: l) S).sat P := by
  unfold dispGo; rw [sat_bind]
  refine h.mono fun k S1 h1 => ?_
  rw [sat_bind]
  refine h1.mono fun v S2 ⟨kk, hk, h2⟩ => ?_
  rw [hk]; dsimp only
  rw [sat_bind]; exact h2
theorem dispF_sat {l : List (Ex × Ex)} (h : (dispGo ρ l S).sat fun ys S1 => ys.length ≤ 15 ∧ P (.dct (putsE [] ys)) S1) : (dispF l ρ S).sat P := by
  unfold dispF; rw [sat_bind]
  refine h.mono fun ys S1 ⟨hl, h1⟩ => ?_
  rw [if_pos hl]; exact h1
end
end
end NL
/-! ### plain steps where something may be raised -/
namespace NL
noncomputable section
open PySem L2
section
variable {ρ : Env} {S : SrcT} {F F1 F2 : Ex} {Fs FI : Exs} {A A1 A2 : Sx} {c : Tst} {g : Tgt} {i j n N k : Nat} {P : D → SrcT → Prop} {PS : Fl × Env → SrcT → Prop} {E : Nat → Option D → SrcT → Prop} {f : List D → SrcT → Rs D}
theorem fnF_satX {ds : List D} (hl : ds.length = n) (h : (A (ds.map some ++ List.replicate (N - n) none) S).satX (fun r S' => match r with
  | (.ret d, _) => P d S'
  | (.nx, _) => P .non S'
  | _ => False) E) : (fnF n N A ds S).satX P E := by
  unfold fnF
  rw [if_pos hl, satX_bind]
  refine h.mono (fun r S' hr => ?_) fun _ _ _ h => h
  match r, hr with
  | (.ret d, _), hr => exact hr
  | (.nx, _), hr => exact hr
theorem seqS_satX (h : (A1 ρ S).satX (fun r S1 => match r with
  | (.nx, ρ1) => (A2 ρ1 S1).satX PS E
  | r => PS r S1) E) : (seqS A1 A2 ρ S).satX PS E := by
  unfold seqS
  rw [satX_bind]
  refine h.mono (fun r S' hr => ?_) fun _ _ _ h => h
  match r, hr with
  | (.ret d, _), hr => exact hr
  | (.nx, _), hr => exact hr
  | (.brk, _), hr => exact hr
  | (.cont, _), hr => exact hr
theorem nilS_satX (h : PS (.nx, ρ) S) : (nilS ρ S).satX PS E := h
theorem setS_satX (h : (F ρ S).satX (fun d S1 => PS (.nx, ρ.set i (some d)) S1) E) : (setS i F ρ S).satX PS E := by unfold setS; rw [satX_bind]; exact h
theorem retS_satX (h : (F ρ S).satX (fun d S1 => PS (.ret d, ρ) S1) E) : (retS F ρ S).satX PS E := by unfold retS; rw [satX_bind]; exact h
theorem exprS_satX (h : (F ρ S).satX (fun _ S1 => PS (.nx, ρ) S1) E) : (exprS F ρ S).satX PS E := by unfold exprS; rw [satX_bind]; exact h
theorem asgS_satX (h : (F ρ S).satX (fun d S1 => ∃ ρ', g d ρ = some ρ' ∧ PS (.nx, ρ') S1) E) : (asgS F g ρ S).satX PS E := by
  unfold asgS; rw [satX_bind]
  refine h.mono (fun d S1 ⟨ρ', e, hd⟩ => ?_) fun _ _ _ h => h
  rw [e]; exact hd
theorem iteS_satX (h : (c ρ S).sat fun b S1 => if b = true then (A1 ρ S1).satX PS E else (A2 ρ S1).satX PS E) : (iteS c A1 A2 ρ S).satX PS E := by
  unfold iteS; rw [satX_bind]
  refine satX_of (h.mono fun b S1 hb => ?_)
  cases b with
  | true => exact hb
  | false => exact hb
theorem raiseS_satX (h : (Fs ρ S).sat fun ds S1 => ∃ d, ds = [d] ∧ E k (some d) S1) : (raiseS k Fs ρ S).satX PS E := by
  unfold raiseS; rw [satX_bind]
  refine satX_of (h.mono fun ds S1 ⟨d, e, hd⟩ => ?_)
  subst e; exact hd
theorem raiseI_satX (h : (Fs ρ S).sat fun ds S1 => ∃ i : Int, ds = [.int i] ∧ 0 ≤ i ∧ i < 100 ∧ E k (some (.int i)) S1) : (raiseI k Fs ρ S).satX PS E := by
  unfold raiseI; rw [satX_bind]
  refine satX_of (h.mono fun ds S1 ⟨i, e, h0, h1, hd⟩ => ?_)
  subst e
  dsimp only
  rw [if_pos (by rw [decide_eq_true h0, decide_eq_true h1]; rfl)]; exact hd
theorem raiseN_satX (h : E k none S) : (raiseN k ρ S).satX PS E := h
theorem callF_satX (h : (Fs ρ S).sat fun ds S1 => (f ds S1).satX P E) : (callF f Fs ρ S).satX P E := by
  unfold callF; rw [satX_bind]; exact satX_of h
theorem callW_satX (h : (Fs ρ S).sat fun ds S1 => (f ds S1).satX P E) : (callW f Fs ρ S).satX P E := by
  unfold callW; rw [satX_bind]; exact satX_of (noX_sat h)
theorem tup2F_satX {d : D} (h : (F ρ S).satX (fun x S1 => P (.tup [d, x]) S1) E) : (tup2F d F ρ S).satX P E := by unfold tup2F; rw [satX_bind]; exact h
theorem iteF_satX (h : (c ρ S).sat fun b S1 => if b = true then (F1 ρ S1).satX P E else (F2 ρ S1).satX P E) : (iteF c F1 F2 ρ S).satX P E := by
  unfold iteF; rw [satX_bind]
  refine satX_of (h.mono fun b S1 hb => ?_)
  cases b with
  | true => exact hb
  | false => exact hb
theorem noXS_satX (h : (A ρ S).sat PS) : (noXS A ρ S).satX PS E := satX_of (noXS_sat h)
theorem forS_satX (h : (FI ρ S).sat fun ds S1 => (forGo g A ds ρ S1).satX PS E) : (forS FI g A ρ S).satX PS E := by unfold forS; rw [satX_bind]; exact satX_of h
/-- a list is walked, something may be raised -/
theorem for_satX (I : Nat → Env → SrcT → Prop) {ds : List D}
    (hs : ∀ i d ρ S, ds[i]? = some d → I i ρ S → ∃ ρ1, g d ρ = some ρ1 ∧ (A ρ1 S).satX (fun r S' => match r with
      | (.nx, ρ2) => I (i + 1) ρ2 S'
      | (.cont, ρ2) => I (i + 1) ρ2 S'
      | (.brk, ρ2) => PS (.nx, ρ2) S'
      | (.ret d, ρ2) => PS (.ret d, ρ2) S') E)
    (he : ∀ ρ S, I ds.length ρ S → PS (.nx, ρ) S) {ρ : Env} {S : SrcT} (h0 : I 0 ρ S) : (forGo g A ds ρ S).satX PS E := by
  have key : ∀ (n i : Nat) (ρ : Env) (S : SrcT), i + n = ds.length → I i ρ S → (forGo g A (ds.drop i) ρ S).satX PS E := by
    intro n
    induction n with
    | zero =>
      intro i ρ S hi h
      rw [List.drop_eq_nil_of_le (by omega)]
      have : i = ds.length := by omega
      subst this
      exact he ρ S h
    | succ n ih =>
      intro i ρ S hi h
      have hlt : i < ds.length := by omega
      rw [List.drop_eq_getElem_cons hlt, forGo]
      obtain ⟨ρ1, e1, h1⟩ := hs i ds[i] ρ S (List.getElem?_eq_getElem hlt) h
      rw [e1]
      dsimp only
      rw [satX_bind]
      refine h1.mono (fun r S' hr => ?_) fun _ _ _ h => h
      match r, hr with
      | (.nx, ρ2), hr => exact ih (i + 1) ρ2 S' (by omega) hr
      | (.cont, ρ2), hr => exact ih (i + 1) ρ2 S' (by omega) hr
      | (.brk, ρ2), hr => exact hr
      | (.ret d, ρ2), hr => exact hr
  simpa using key ds.length 0 ρ S (by omega) h0
end
end
end NL
/-! ### own errors whose text is an f-string of a value: an int, a text, None, True, a tuple of ints -/
namespace NL
noncomputable section
open PySem L2
def intText (ns : List Int) : List Str := ns.map fun n => (toString n : Str)
section
open PySem.W PySem.Calls PyProof.Rows
def FmtU (h : Heap) (u : Value) : Prop := (∃ i t, u = .int i t ∧ i.natAbs.log2 < 1920 ∧ (toString i : Str).length ≤ 100) ∨ (∃ z t, u = .str z t ∧ z.length ≤ 1000) ∨ u = .none ∨ (∃ b, u = .bool b) ∨
  ∃ (x : Addr) (o : Obj) (items : Array Value) (n : Nat) (ts : List Str), u = .ref x ∧ h.get? x = some o ∧ o.cls = .type "tuple" ∧ o.data = .seq items n ∧ (∀ P w, ReprAll P w items.toList ts) ∧ (tupleText ts).length ≤ 500
theorem fmt_any {P : Program} {w : World} {A : Around} {s : Shared} {E : Value → Shared → Prop} {u : Value} (f : FmtU s.heap u) (hu : A.units + 2 < cLine) {Q : Value → Shared → Prop} (h : ∀ (m : Str) (t tk : Tok), m.length ≤ 1005 → Q (.str m t) { s with toks := tk }) : wpAny (model P w) A (formatField u Str.empty) Q E s := by
  rcases f with ⟨i, t, rfl, h1, h2⟩ | ⟨z, t, rfl, h1⟩ | rfl | ⟨b, rfl⟩ | ⟨x, o, items, n, ts, rfl, ho, hc, hd, hT, hl⟩
  · exact wpAny_formatField_int h1 (h _ _ _ (by omega))
  · refine wpAny_formatField_str (h _ _ s.toks (by omega)) (h _ _ _ (by omega)) (Nat.le_trans h1 (by decide))
  · exact wpAny_formatField_none (h _ _ _ (by decide))
  · exact wpAny_formatField_bool (h _ _ _ (by cases b <;> decide))
  · exact fmt_tuple hu ho hc hd (hT P w) (Nat.le_trans hl (by decide)) fun m t tk hm => h m t tk (by omega)
theorem arg_fany {P : Program} {w : World} {h0 : Heap} {x1 x2 f : Str} {j1 j2 p1 p2 p3 p4 pos} {env : PySem.Env} {m : Str → Option Value} {u : Value} (hf : m f = some u) (hk : env.scope.kind = .function) (hl : env.scope.names.lookup f = some .local) (hd : ((f : Str) == ("__debug__" : Str)) = false)
    (hn : FmtU h0 u) (h1 : x1.length ≤ 1000) (h2 : x2.length ≤ 1000) : ArgOkH P w h0 (.JoinedStr [.Constant (.str x1) j1 p1, .FormattedValue (.Name f p2) (-1) none p3, .Constant (.str x2) j2 p4] pos) env m := by
  intro A s Q E hu hns keep h
  have hn : FmtU s.heap u := by
    rcases hn with a | a | a | a | ⟨x, o, items, n, ts, e, ho, r⟩
    · exact .inl a
    · exact .inr (.inl a)
    · exact .inr (.inr (.inl a))
    · exact .inr (.inr (.inr (.inl a)))
    · exact .inr (.inr (.inr (.inr ⟨x, o, items, n, ts, e, keep _ _ ho, r⟩)))
  have e00 : (Str.empty).length = 0 := rfl
  have b : ∀ k, k ≤ 5000 → k ≤ sizeLine := fun k hk => Nat.le_trans hk (by decide)
  refine wpAny_JoinedStr ?_
  have e0 : ∀ (e : PySem.Expr) (es : List PySem.Expr), evalEach (e :: es) env = eval e env :: evalEach es env := fun e es => by first | rfl | simp [evalEach]
  have e1 : evalEach [] env = [] := by first | rfl | simp [evalEach]
  rw [e0, e0, e0, e1]
  refine Calls.Constant_str ?_
  refine ⟨_, _, rfl, ?_, ?_⟩
  · rw [str_app_len]; exact b _ (by omega)
  refine wpAny_FormattedValue_plain (wpAny_Name (wpAny_loadName_local hk hl hns hf ?_) hd)
  refine fmt_any (s := { s with toks := s.toks + 1 }) hn ?_ fun mm t tk hm => ?_
  · first | omega | (show A.units + 1 + 2 < cLine; omega) | (show A.units + 2 + 2 < cLine; omega)
  refine ⟨_, _, rfl, ?_, ?_⟩
  · rw [str_app_len, str_app_len]; exact b _ (by omega)
  refine Calls.Constant_str ?_
  refine ⟨_, _, rfl, ?_, ?_⟩
  · rw [str_app_len, str_app_len, str_app_len]; exact b _ (by omega)
  refine ⟨?_, ?_⟩
  · rw [str_app_len, str_app_len, str_app_len]; exact b _ (by omega)
  · exact h _ _ (fun _ _ q => q) rfl rfl
variable {P : Program} {w : World} {K : PySem.W.Frag} {mg : Str → Option Value} {base : Heap} {A : Around} {outer : List PySem.Env} {s : Shared} {H : Hp}
def FmtV (K : PySem.W.Frag) (H : Hp) (y : V) : Prop := (∃ i, y = .int i ∧ i.natAbs.log2 < 1920 ∧ (toString i : Str).length ≤ 100) ∨ (∃ z, y = .str z ∧ z.length ≤ 1000) ∨ y = .non ∨ (∃ b, y = .bl b) ∨
  ∃ (x : Addr) (ns : List Int), y = .ref x ∧ SqT K H x (ns.map V.int) ∧ (∀ n ∈ ns, n.natAbs.log2 < 1920) ∧ (tupleText (intText ns)).length ≤ 500
theorem repr_ints {P : Program} {w : World} : ∀ {ns : List Int} {its : List Value}, Vals (ns.map V.int) its → (∀ n ∈ ns, n.natAbs.log2 < 1920) → ReprAll P w its (intText ns)
  | [], _, .nil, _ => .nil
  | n :: ns, _, .cons ⟨t, e⟩ r, h => by
    subst e
    exact .cons (ReprIs.int t (h n List.mem_cons_self)) (repr_ints r fun m hm => h m (List.mem_cons_of_mem _ hm))
theorem fmtU_of (e0 : Env0 P w K mg base A outer s H) {y : V} {u : Value} (r : RelV y u) (f : FmtV K H y) : FmtU s.heap u := by
  rcases f with ⟨i, rfl, h1, h2⟩ | ⟨z, rfl, h1⟩ | rfl | ⟨b, rfl⟩ | ⟨x, ns, rfl, hq, hn, hl⟩
  · obtain ⟨t, rfl⟩ := r
    exact .inl ⟨i, t, rfl, h1, h2⟩
  · obtain ⟨t, rfl⟩ := r
    exact .inr (.inl ⟨z, t, rfl, h1⟩)
  · exact .inr (.inr (.inl r))
  · exact .inr (.inr (.inr (.inl ⟨b, r⟩)))
  · obtain rfl : u = .ref x := r
    have KX : K.In s.heap := e0.mod.kin.keeps fun b o e => (e0.bs b o e).1
    rcases hq with rd | ⟨o, its, n, lk, hc, hd, _, vs⟩
    · obtain ⟨_, its, r, o, e, c, n, d⟩ := rd.ok e0.hok
      exact .inr (.inr (.inr (.inr ⟨x, o, its.toArray, n, intText ns, rfl, e, c, d, fun P w => repr_ints r hn, hl⟩)))
    · exact .inr (.inr (.inr (.inr ⟨x, o, its, n, intText ns, rfl, KX _ _ lk, hc, hd, fun P w => repr_ints vs hn, hl⟩)))
/-- what __init__(self, v) promises, of a value that can be told in a text -/
def spErrA (K : PySem.W.Frag) (C : Addr) (f : Str) : Sp := fun vs H Q _ => ∃ (a : Addr) (y : V), vs = [.ref a, y] ∧ FmtV K H y ∧ H a = some (exo a C none) ∧ ∀ dx, H dx = none → dx ≠ a → Q .non (upd (upd H dx (exd dx [(f, y)])) a (exo a C (some dx)))
theorem err_okA {C fI : Addr} {qual f : Str} {st : Stmt} {fd : FuncData} {e : PySem.Expr} {p0 p1 p2 p3 p4 p5 p6 p7 p8 : Pos} (I : ErrI P K C fI qual st fd) (S : ErrS (defScope st) (defArgs st) ["self", f])
    (hbody : defBody st = [.Expr (.Call (.Attribute (.Call (.Name "super" p0) [] [] p1) "__init__" p2) [e] [] p3) p4, .Assign [.Attribute (.Name "self" p5) f p6] (.Name f p7) p8])
    (hev : ∀ (L a : Addr) (cd : Value) (cc : Addr), CallPlain e p0 p1 p2 p3 p4 (PySem.W.ksEnv qual (defScope st) L a cd cc)) (hsw : ∀ (L a : Addr) (cd : Value) (cc : Addr), swapsWith (.Name f p7) (some (.Attribute (.Name "self" p5) f p6)) p8.line (PySem.W.ksEnv qual (defScope st) L a cd cc) = pure false)
    (harg : ∀ (h0 : Heap) (L a : Addr) (cd : Value) (cc : Addr) (u1 u2 : Value), FmtU h0 u2 → ArgOkH P w h0 e (PySem.W.ksEnv qual (defScope st) L a cd cc) (fun x => [((f : Str), u2), (("self" : Str), u1)].lookup x))
    (hfs : ((f : Str) == ("self" : Str)) = false) (hd : ((f : Str) == ("__debug__" : Str)) = false) (hno : PySem.W.findIn K (.ref C) f = some none) : FnOk P w K mg base CX0 1 fI fd ["self", f] (spErrA K C f) := by
  refine ⟨fun vs H Q E h => by obtain ⟨a, n, rfl, _⟩ := h; rfl, fun A outer s H args us vs Q E hr e0 hb hv h => ?_⟩
  obtain ⟨a, y, rfl, hfm, ha, hq⟩ := h
  obtain ⟨oc, od, dV, kV, doc, pm, an, cda, cc, ct, osl, ccl, cdd, vs, ccs, file, tf, cl, cld, csl, rfl, lk, hcd, hcode, hvs, hfile, hcell⟩ := I.ex
  cases hv with
  | @cons _ u1 _ ur r1 hv =>
  cases hv with
  | @cons _ u2 _ ur r2 hv =>
  cases hv
  obtain rfl : u1 = Value.ref a := r1
  have hfu : FmtU s.heap u2 := fmtU_of e0 r2 hfm
  rw [hbody] at lk hb
  have hself : (List.zip [("self" : Str), f] [Value.ref a, u2]).reverse.lookup ("self" : Str) = some (.ref a) := by
    show List.lookup ("self" : Str) [(f, u2), (("self" : Str), Value.ref a)] = _
    have : (("self" : Str) == f) = false := by rw [← hfs]; exact Bool.beq_comm
    simp [List.lookup, this]
  refine err_head (ps := ["self", f]) (bnd := List.zip [("self" : Str), f] [Value.ref a, u2]) hr e0 lk hcd hcode hvs hfile hcell I.oex I.any I.sup I.sub I.mro I.msup I.top S rfl hself hb (hev _ _ _ _) ha (harg _ _ _ _ _ _ _ hfu) fun s' t1 k hx hns KX os gs => ?_
  obtain ⟨nm, q, N, bs, bm, sn, sub, ab, col, dd, k0, k1, k2, k3, k5, hC, hbm⟩ := I.oex.cls
  have hcl : clsIn K C = some { name := nm, bases := bs, mro := .ref C :: bm, ns := N, qualname := q, hasDict := true, slotNames := sn, subclasses := sub, abstract := ab, collection := col, hasDel := false } := by unfold clsIn; rw [hC] <;> rfl
  refine ks_wpAt_execs_cons (wpAt_of_wpAny (plainObj_wpAny_Assign_Attribute ?_ (hsw _ _ _ _)))
  have hf : (List.zip [("self" : Str), f] [Value.ref a, u2]).reverse.lookup f = some u2 := by
    show List.lookup f [(f, u2), (("self" : Str), Value.ref a)] = _
    simp [List.lookup]
  refine wpAny_Name (wpAny_loadName_local S.kind (S.loc f (by simp)) hns hf ?_) hd
  refine wpAny_Name (wpAny_loadName_local S.kind (S.loc "self" (by simp)) hns hself ?_) (by decide)
  obtain ⟨h3, g3, d3, t3, os3⟩ := s'
  refine set_plain KX (ox := { cls := .ref C, dict := none, data := .fields #[.ref t1, .none, .none, .none, .bool false, .none] }) (od := none) ⟨hx, rfl, rfl, trivial⟩ I.oex.sa ?_
  refine HandSPX.exc_osa KX hx hcl (show HandSPX.refsVE (.ref C :: bm) = true from hbm) rfl hno (fun h4 tk4 dx k4 dn dne hx4 hn4 => ?_)
  refine wpAt_of_wpAny (wpAny_execs_nil ?_)
  have hsz : s.heap.objs.size ≤ h3.objs.size := by
    obtain ⟨o, es, ep, z1, _⟩ := hns
    exact Nat.le_of_lt (Heap.lt_size z1)
  exact err_end (s' := ⟨h4, g3, d3, tk4, os3⟩) e0 ha (fun b o hb q => k4 b o hb (k b o hb q)) (Nat.le_trans hsz dn) dne hx4 hn4 r2 os gs hq
end
section
variable {G : Gm} {φ : Fr} {m : Bool} {O O' Ol : List Nat} {E : XK} {σ : L2.St} {ρ : NL.Env} {B H : Hp} {S : SrcT} {X : Cx} {st : Stmt} {e : PySem.Expr} {F : Ex} {Fs : Exs}
def fmtOkD : D → Bool
  | .int i => decide (i.natAbs.log2 < 1920) && decide ((toString i : Str).length ≤ 100)
  | .str z => decide (z.length ≤ 1000)
  | .non => true
  | .bl _ => true
  | .tup ds => match intsD ds with
    | some ns => ns.all (fun n => decide (n.natAbs.log2 < 1920)) && decide ((tupleText (intText ns)).length ≤ 500)
    | none => false
  | _ => false
theorem ints_sq {p : Option Addr} {B : Hp} : ∀ {ds : List D} {vs : List V} {ns : List Int}, intsD ds = some ns → DVs G p B vs ds → vs = ns.map V.int := ints_of
theorem fmtV_of {K : PySem.W.Frag} (hK : K = G.K) {p : Option Addr} {y : V} {d : D} (h : DV G p B y d) (s : Same B H) (f : fmtOkD d = true) : FmtV K H y := by
  subst hK
  cases d with
  | int i =>
    cases h
    simp only [fmtOkD, Bool.and_eq_true, decide_eq_true_eq] at f
    exact .inl ⟨i, rfl, f.1, f.2⟩
  | str z => cases h; exact .inr (.inl ⟨z, rfl, of_decide_eq_true f⟩)
  | non => cases h; exact .inr (.inr (.inl rfl))
  | bl b => cases h; exact .inr (.inr (.inr (.inl ⟨b, rfl⟩)))
  | tup ds =>
    replace f : (match intsD ds with | some ns => ns.all (fun n => decide (n.natAbs.log2 < 1920)) && decide ((tupleText (intText ns)).length ≤ 500) | none => false) = true := f
    cases e : intsD ds with
    | none => rw [e] at f; cases f
    | some ns =>
      rw [e] at f
      simp only [Bool.and_eq_true, decide_eq_true_eq, List.all_eq_true] at f
      cases h with
      | tup hq hs =>
        rw [ints_sq e hs] at hq
        exact .inr (.inr (.inr (.inr ⟨_, ns, rfl, SqT_same s hq, f.1, f.2⟩)))
  | _ => cases f
/-- raise C(d), d a value that can be told in a text -/
def raiseA (c : Nat) (Fs : Exs) : Sx := fun ρ S => (Fs ρ S).bind fun ds S1 => match ds with
  | [d] => if fmtOkD d = true then .exc c (some d) S1 else .bad
  | _ => .bad
theorem ds_raiseA {c : Nat} {C : Addr} {f : Str} (hC : G.ec c = C) (hf : G.ef c = f) (h : PS X st (fun _ σ H => tMkO C (spErrA X.K C f) [] (tDs G false O E Fs) σ H fun cls d H' => E cls d H')) (hK : X.K = G.K := by rfl) : PS X st (tS G O O' Ol E (raiseA c Fs)) := by
  refine h.mono fun D σ H ⟨φ, B, ρ, S, R, hp⟩ => ?_
  refine ⟨φ, B, ρ, S, R, ?_⟩
  refine PostS.bind hp fun ds S1 ws B1 H1 g R1 hws h1 => ?_
  match ds, hws, h1 with
  | [], _, h1 => exact h1.elim
  | [d], .cons hv .nil, h1 =>
    rename_i v
    dsimp only at h1
    split at h1
    case isFalse => exact h1.elim
    rename_i hfm
    have hv : DV G φ.p B1 v d := hv
    refine ⟨by simp, fun a na => ⟨a, v, rfl, fmtV_of hK hv (R1.sub.trans (same_new na)) hfm, upd_same, fun dx ndx ne => ⟨rfl, dx, [(f, v)], upd_same, by rw [upd_ne ne]; exact upd_same, by rw [upd_ne ne] at ndx; exact ndx, ?_⟩⟩⟩
    have ndx' : H1 dx = none := by rw [upd_ne ne] at ndx; exact ndx
    have eH : upd (del (upd (upd (upd H1 a (exo a C none)) dx (exd dx [(f, v)])) a (exo a C (some dx))) a) dx (.xd [(f, v)]) = upd H1 dx (.xd [(f, v)]) := by
      funext b
      by_cases hb : b = dx
      · rw [hb, upd_same, upd_same]
      · rw [upd_ne hb, upd_ne hb]
        by_cases hba : b = a
        · rw [hba, del_same, na]
        · rw [del_ne hba, upd_ne hba, upd_ne hb, upd_ne hba]
    rw [eH]
    have h1 : XS G φ E B1 c (some d) S1 := h1
    obtain ⟨R2, g2, _⟩ := R1.newN (o := .xd [(f, v)]) ndx'
    refine h1 B1 _ _ _ (Same.refl _) R2.bare ⟨by rw [hC], dx, v, rfl, by rw [hf]; exact upd_same, hv⟩
  | _ :: _ :: _, _, h1 => exact h1.elim
end
end
end NL
/-! ### isinstance of a caught error that has a dict; a clause for a base class -/
namespace NL
noncomputable section
open PySem L2 PySem.Spec PyProof.Rows
section
open PySem.W PySem.Calls
variable {P : Program} {w : World} {A : Around} {E : Value → Shared → Prop} {s : Shared} {K : PySem.W.Frag} {y D : Addr} {oy : Obj} {od : Option Obj}
/-- type(e).__class__, by the type's own data descriptor -/
theorem exc_class (C : ExcC K D) (KX : K.In s.heap) (I : PySem.W.InstAt s.heap y oy D od) {Q : Option Value → Shared → Prop} (hQ : Q (some (.ref D)) { s with toks := s.toks + 1 }) : wpAny (model P w) A (getAttr? (.ref y) "__class__") Q E s := by
  obtain ⟨ga, gt, sb, dc, cl, gg, tk, mo⟩ := C
  have found : findObj K D od "__class__" = some (.bind (.builtin "getset_descriptor.__get__") (.builtin "object.__class__")) := by
    obtain ⟨cd, ecd, _⟩ := any_some dc
    unfold findObj; rw [ecd, Option.bind_some, cl, Option.bind_some]; simp [gg, tk]
  obtain ⟨h0, gs, dr, n, o⟩ := s
  have ty := I.type (M := model P w)
  have l1 := looks_findIn (M := model P w) KX ga
  have l2 := looks_findIn (M := model P w) KX gt
  have l3 := looks_find (M := model P w) KX I found
  have isB : Looks (model P w) h0 (isInstance (.ref y) (.type "BaseException")) true := ty.andThen (looks_subIn KX sb)
  have n1 : (Value.builtin "BaseException.__getattribute__" == Value.builtin "object.__getattribute__") = false := by decide +kernel
  have n2 : (onTheHeap (Value.ref D) && (Value.builtin "BaseException.__getattribute__" == Value.builtin "object.__getattribute__")) = false := by rw [n1]; rfl
  have n3 : (false && onTheHeap (Value.builtin "BaseException.__getattribute__")) = false := rfl
  unfold getAttr? getAttrBy? getAttrBy
  refine wpAny_bind (wpAny_mkText ?_); refine wpAny_bind (wpAny_attempt ?_)
  refine wpAny_holding ?_; refine wpAny_bind (ty.at ?_); refine wpAny_bind (l1.at ?_)
  dsimp only
  rw [n2]
  simp only [Bool.false_eq_true, if_false]
  unfold getAttrByItsOwn hookBefore
  refine wpAny_bind (wp_if_pos rfl (l2.at ?_)); refine wpAny_bind (wpAny_attempt ?_); refine wpAny_holding ?_
  unfold callGetattribute boundAndCalled
  rw [n3]
  simp only [Bool.false_eq_true, if_false]
  rw [PySem.F.excAttr_ValueError.ga.bind (.ref y)]
  refine wpAny_bind (wpAny_pure ?_); dsimp only
  refine wpAny_call ?_
  refine codeAny_call_builtin PySem.F.excAttr_ValueError.ga.plain PySem.F.entry_bexc_ga ?_
  refine check_slot (M := model P w) (s := ⟨h0, gs, dr, n + 1, o⟩) (i := "BaseException.__getattribute__") (owner := "BaseException") (n := "__getattribute__") (by decide +kernel) (by decide +kernel) isB (PySem.F.args_bexc_ga _ _) ?_
  unfold Builtin.«object.__getattribute__»; refine wpAny_bind (wpAny_of_eq (a := ((Value.ref y : Value), [Value.str "__class__" n])) ?_ ?_)
  · first
    | rfl
    | (simp only [slotArgs]; rfl)
  refine wpAny_bind (wpAny_pure ?_); refine wpAny_bind (ty.at ?_); refine wpAny_bind (l3.at ?_)
  dsimp only
  refine wpAny_bind ?_; refine wpAny_holding (wpAny_call ?_)
  refine class_get (s := ⟨h0, gs, dr, n + 1, o⟩) (ox := oy) (od := od) KX I mo ?_
  refine wpAny_pure ?_
  show wpAny (model P w) _ (handedOut (.ref D)) _ _ _
  rw [handedOut_of (v := .ref D) rfl]; first | exact wpAny_pure (wpAny_pure hQ) | exact wpAny_pure hQ | exact wpAny_pure (wpAny_bind (wpAny_pure (wpAny_pure hQ)))
theorem kitX_exc (C : ExcC K D) : KitX K (.ref y) (.ref D) fun h => PySem.W.InstAt h y oy D od where
  ty _ _ _ I := I.type
  it M h KX _ := by
    obtain ⟨cd, ecd, _⟩ := any_some C.hd
    unfold clsIn at ecd
    split at ecd
    case h_2 => cases ecd
    rename_i e0
    exact fun A Q E s k q => by unfold isType loadHead; exact wpAny_bind (wpAny_loadPart (k _ _ (KX _ _ e0)) (wpAny_pure q))
  ne h tp dd its n sl KX e1 := by
    obtain ⟨cd, ecd, _⟩ := any_some C.hd
    refine Bool.eq_false_iff.mpr fun z => ?_
    cases Value.ref.inj (beq_iff_eq.mp z)
    unfold clsIn at ecd
    split at ecd
    case h_2 => cases ecd
    rename_i e0
    cases (KX _ _ e0).symm.trans e1
  ca KX I q := exc_class C KX I q
end
/-- isinstance(e, c), e the caught error, its dict tracked -/
def rIsX (K : PySem.W.Frag) (D a : Addr) (od : Option Addr) : List V → Hp → VK → Prop := fun xs H Q => ∃ (c : V) (cv : Value) (b : Bool), xs = [.ref a, c] ∧ (∀ u, RelV c u → u = cv) ∧ PySem.W.kitOne K (.ref D) cv = some b ∧ (∀ dx, od = some dx → ∃ fs, H dx = some (.xd fs)) ∧ Q (.bl b) H
theorem call_isX {X : Cx} {a D : Addr} {od : Option Addr} {oe : Obj} {pn : List (Addr × Obj)} (C : ExcC X.K D) (hz : Zc (.ref D) od oe) (hf : ∃ vs, oe.data = .fields vs) : CallR (X.suite a ((a, oe) :: pn)) (.builtin "isinstance") (rIsX X.K D a od) := by
  intro pins s σ H xs us Q I r h
  obtain ⟨c, cv, b, rfl, hcv, e, hd, q⟩ := h
  match us, r with
  | [u1, u2], .cons r1 (.cons r2 .nil) =>
  obtain rfl : u1 = .ref a := r1
  obtain rfl := hcv _ r2
  obtain ⟨ha, _⟩ := I.pin (a, oe) (List.mem_append_left _ List.mem_cons_self)
  obtain ⟨vs, hv⟩ := hf
  obtain ⟨ob, J⟩ : ∃ ob, PySem.W.InstAt s.heap a oe D ob := by
    cases od with
    | none => exact ⟨none, ha, hz.1, by unfold PySem.W.notCls; rw [hv], by rw [hz.2]; trivial⟩
    | some dx =>
      obtain ⟨fs, hx⟩ := hd dx rfl
      obtain ⟨mA, hns, _⟩ : ObjOk X.prog X.w H s.heap dx (.xd fs) := I.hok dx _ hx
      obtain ⟨o, es, ep, ho, _⟩ := hns
      exact ⟨some o, ha, hz.1, by unfold PySem.W.notCls; rw [hv], by rw [hz.2]; exact ho⟩
  exact PySem.W.kia_one (kitX_exc C) I.kIn J e (fun z => nomatch z) fun tk => ⟨.bl b, H, I.kept (t' := tk) fun _ _ z => z, rfl, q⟩
/-- as above, whatever the class is -/
def rIsC (K : PySem.W.Frag) (cls : Value) (a : Addr) (od : Option Addr) : List V → Hp → VK → Prop := fun xs H Q => ∃ D, cls = .ref D ∧ ExcC K D ∧ rIsX K D a od xs H Q
theorem call_isC {X : Cx} {a : Addr} {cls : Value} {od : Option Addr} {oe : Obj} {pn : List (Addr × Obj)} (hz : Zc cls od oe) (hf : ∃ vs, oe.data = .fields vs) : CallR (X.suite a ((a, oe) :: pn)) (.builtin "isinstance") (rIsC X.K cls a od) := by
  intro pins s σ H xs us Q I r ⟨D, e, C, h⟩
  subst e
  exact call_isX C hz hf pins s σ H xs us Q I r h
def tIs (K : PySem.W.Frag) (cls : Value) (a : Addr) (od : Option Addr) (i : Nat) (cv : V) : TE := tCB (rIsC K cls a od) (tCons (tVar i) (tCons (tC cv) tNil))
def tIsL (K : PySem.W.Frag) (cls : Value) (a : Addr) (od : Option Addr) (i : Nat) : List V → TA
  | [] => tNil
  | cv :: r => tCons (tIs K cls a od i cv) (tIsL K cls a od i r)
/-- an own error class, or ValueError -/
def clsV (G : Gm) : Option Nat → V
  | some k => .ref (G.ec k)
  | none => .ty "ValueError"
def clsB (c : Nat) : Option Nat → Bool
  | some k => decide (c = k)
  | none => true
/-- what is known of the class number c -/
structure IsOk (K : PySem.W.Frag) (G : Gm) (c : Nat) (L : List (Option Nat)) : Prop where
  ex : ExcC K (G.ec c)
  kit : ∀ o ∈ L, ∃ cv, (∀ u, RelV (clsV G o) u → u = cv) ∧ PySem.W.kitOne K (.ref (G.ec c)) cv = some (clsB c o)
theorem IsOk.sub {K : PySem.W.Frag} {G : Gm} {c : Nat} {L L' : List (Option Nat)} (h : IsOk K G c L) (s : ∀ o ∈ L', o ∈ L) : IsOk K G c L' := ⟨h.ex, fun o ho => h.kit o (s o ho)⟩
section
variable {G : Gm} {K : PySem.W.Frag} {c : Nat} {a : Addr} {od : Option Addr} {i j : Nat} {σ : L2.St} {H : Hp}
theorem isL_ok (hi : σ[i]? = some (some (.ref a))) (hd : ∀ dx, od = some dx → ∃ fs, H dx = some (.xd fs)) : ∀ {L : List (Option Nat)} {Q : List V → Hp → Prop}, IsOk K G c L → Q (L.map fun o => .bl (clsB c o)) H → tIsL K (.ref (G.ec c)) a od i (L.map (clsV G)) σ H Q
  | [], Q, _, q => q
  | o :: L, Q, h, q => by
    obtain ⟨cv, h1, h2⟩ := h.kit o List.mem_cons_self
    exact ⟨.ref a, hi, G.ec c, rfl, h.ex, clsV G o, cv, clsB c o, rfl, h1, h2, hd, isL_ok hi hd (h.sub fun o' ho => List.mem_cons_of_mem _ ho) q⟩
/-- x = [isinstance(e, ..), ..], x = x + [..], three times -/
def tsIs (K : PySem.W.Frag) (G : Gm) (i j : Nat) (M1 M2 M3 M4 : List (Option Nat)) : TSu := fun a cls od =>
  tSeq (tAsg (tLst (tIsL K cls a od i (M1.map (clsV G)))) (gName j)) (tSeq (tAsg (tOp rCat (tVar j) (tLst (tIsL K cls a od i (M2.map (clsV G))))) (gName j))
    (tSeq (tAsg (tOp rCat (tVar j) (tLst (tIsL K cls a od i (M3.map (clsV G))))) (gName j)) (tAsg (tOp rCat (tVar j) (tLst (tIsL K cls a od i (M4.map (clsV G))))) (gName j))))
def isS (j c : Nat) (L : List (Option Nat)) : Sx := fun ρ S => .ok (.nx, ρ.set j (some (.lst (L.map fun o => .bl (clsB c o))))) S
theorem dvs_bls {p : Option Addr} {B : Hp} : ∀ bs : List Bool, DVs G p B (bs.map V.bl) (bs.map D.bl)
  | [] => .nil
  | b :: bs => .cons (.bl b) (dvs_bls bs)
theorem su_is {φ : Fr} {B : Hp} {ρ : NL.Env} {S : SrcT} {Ol : List Nat} {E : XK} {En : Ends} {d : Option D} {cls : Value} {M1 M2 M3 M4 : List (Option Nat)} (R : Rep G φ [] σ B H ρ S) (hx : ExnAt G φ.p B H c d cls od) (hi : σ[i]? = some (some (.ref a))) (ij : i ≠ j) (jl : j < σ.length)
    (ok : IsOk K G c (M1 ++ M2 ++ M3 ++ M4)) (hlen : (M1 ++ M2 ++ M3 ++ M4).length ≤ 100) (hp : PostS G φ [] Ol E En B (isS j c (M1 ++ M2 ++ M3 ++ M4) ρ S)) : tsIs K G i j M1 M2 M3 M4 a cls od En σ H := by
  obtain ⟨rfl, hx⟩ := hx
  have hd : ∀ dx, od = some dx → ∃ fs, H dx = some (.xd fs) := fun dx e => by
    subst e
    cases d with
    | none => cases hx
    | some d =>
      obtain ⟨_, v, e, h, _⟩ := hx
      cases e
      exact ⟨_, h⟩
  have sz : ∀ n, n ≤ 100 → n ≤ sizeLine := fun n h => Nat.le_trans h (by decide)
  simp only [List.length_append] at hlen
  have up : ∀ {H' : Hp} {t : Addr} {o : HO}, H' t = none → (∀ dx, od = some dx → ∃ fs, H' dx = some (.xd fs)) → ∀ dx, od = some dx → ∃ fs, upd H' t o dx = some (.xd fs) := fun {H' t o} n h dx e => by
    obtain ⟨fs, q⟩ := h dx e
    exact ⟨fs, by rw [upd_ne (ne_of_none q n)]; exact q⟩
  have vi : ∀ {σ' : L2.St} {v : V}, σ'[i]? = some (some (.ref a)) → (σ'.set j (some v))[i]? = some (some (.ref a)) := fun {σ' v} h => by rw [List.getElem?_set_ne ij.symm]; exact h
  -- the first
  refine isL_ok hi hd (ok.sub fun o ho => by simp [ho]) ⟨sz _ (by simp; omega), fun t1 n1 => ?_⟩
  have jl1 : j < (σ.set j (some (V.ref t1))).length := by rw [List.length_set]; exact jl
  -- one more
  have more : ∀ {σ' : L2.St} {H' : Hp} {B' : Hp} {L L' : List (Option Nat)} {t : Addr} {Q : L2.St → Hp → Prop}, Rep G φ [] σ B' H' ρ S → σ' = σ.set j (some (V.ref t)) → (∀ dx, od = some dx → ∃ fs, H' dx = some (.xd fs)) → H' t = some (.lst (L.map fun o => .bl (clsB c o))) → L.length + L'.length ≤ 100 → IsOk K G c L' →
      (∀ t' B'' H'', Rep G φ [] σ B'' H'' ρ S → Same B' B'' → (∀ dx, od = some dx → ∃ fs, H'' dx = some (.xd fs)) → H'' t' = some (.lst ((L ++ L').map fun o => .bl (clsB c o))) → B'' t' = some (.lst ((L ++ L').map fun o => .bl (clsB c o))) → Q (σ.set j (some (V.ref t'))) H'') →
      tAsg (tOp rCat (tVar j) (tLst (tIsL K (.ref (G.ec c)) a od i (L'.map (clsV G))))) (gName j) { En with nx := Q } σ' H' := fun {σ' H' B' L L' t Q} R' e hd' hL hl ok' q => by
    subst e
    refine ⟨.ref t, by rw [List.getElem?_set_self jl], ?_⟩
    refine isL_ok (vi hi) hd' ok' ⟨sz _ (by simp; omega), fun t2 n2 => ?_⟩
    obtain ⟨R2, g2, _⟩ := R'.new (o := .lst (L'.map fun o => .bl (clsB c o))) n2
    have ne : t ≠ t2 := ne_of_none hL n2
    refine ⟨t, t2, _, _, rfl, rfl, by rw [upd_ne ne]; exact hL, upd_same, sz _ (by simp; omega), fun t3 n3 => ?_⟩
    obtain ⟨R3, g3, _⟩ := R2.new (o := .lst (((L.map fun o => V.bl (clsB c o)) ++ (L'.map fun o => V.bl (clsB c o))))) n3
    have em : ((L.map fun o => V.bl (clsB c o)) ++ (L'.map fun o => V.bl (clsB c o))) = (L ++ L').map fun o => .bl (clsB c o) := by rw [List.map_append]
    show Q ((σ.set j (some (V.ref t))).set j (some (V.ref t3))) _
    rw [List.set_set]
    exact q t3 _ _ R3 (g2.b.trans g3.b) (up n3 (up n2 hd')) (by rw [upd_same, em]) (by rw [upd_same, em])
  obtain ⟨R1, g1, _⟩ := R.new (o := .lst (M1.map fun o => .bl (clsB c o))) n1
  refine more (L := M1) (L' := M2) R1 rfl (up n1 hd) upd_same (by omega) (ok.sub fun o ho => by simp [ho]) fun t2 B2 H2 R2 s2 hd2 h2 b2 => ?_
  refine more (L := M1 ++ M2) (L' := M3) R2 rfl hd2 h2 (by rw [List.length_append]; omega) (ok.sub fun o ho => by simp [ho]) fun t3 B3 H3 R3 s3 hd3 h3 b3 => ?_
  refine more (L := M1 ++ M2 ++ M3) (L' := M4) (Q := En.nx) R3 rfl hd3 h3 (by rw [List.length_append, List.length_append]; omega) (ok.sub fun o ho => by simp [ho]) fun t4 B4 H4 R4 s4 hd4 h4 b4 => ?_
  refine hp _ B4 H4 (((g1.b.trans s2).trans s3).trans s4) (R4.set (by simp) (.lst b4 ?_))
  have := dvs_bls (G := G) (p := φ.p) (B := B4) ((M1 ++ M2 ++ M3 ++ M4).map (clsB c))
  rw [List.map_map, List.map_map] at this
  exact this
end
/-- a try whose one clause takes every own error: isinstance of it -/
def tryI (L : List Nat) (A : Sx) (i j : Nat) (Ms : List (Option Nat)) : Sx := fun ρ S => (A ρ S).catch fun c _ S1 => if c ∈ L ∧ i < ρ.length ∧ j < ρ.length then (isS j c Ms (ρ.set i none) S1).bind fun q S' => .ok (q.1, q.2.set i none) S' else .bad
section
variable {G : Gm} {Ol L : List Nat} {E : XK} {X : Cx} {A : Sx} {body suite : List Stmt} {b₀ : Stmt} {np pos pos' : Pos} {x n : Str} {i j : Nat} {NE : Addr} {M1 M2 M3 M4 : List (Option Nat)}
theorem ds_tryI (hs : X.stack = X.env :: X.outer) (hf : X.env.frame = some X.env.locals) (hN : X.N.Nodup) (hb : ∀ (W : WX) (pn : List (Addr × Obj)) (xe : Value → Shared → Prop), Takes (X.tr pn xe) W → PSs (X.tr pn xe) body (tSw G [] [] Ol W A))
    (hio : i ∉ Ol) (hi : X.N[i]? = some n) (hln : X.env.kindOf n = some .local) (hc : Names X x (.ref NE)) (hm : ∀ c ∈ L, PySem.W.exmOne X.K (.ref (G.ec c)) (.ref NE) = some true) (ij : i ≠ j)
    (ok : ∀ c ∈ L, IsOk X.K G c (M1 ++ M2 ++ M3 ++ M4)) (hlen : (M1 ++ M2 ++ M3 ++ M4).length ≤ 100)
    (hsu : ∀ (a : Addr) (oe : Obj) (cls : Value) (d : Option Addr) (pn : List (Addr × Obj)), Zc cls d oe → (∃ vs, oe.data = .fields vs) → PSs (X.suite a ((a, oe) :: pn)) (b₀ :: suite) (tsIs X.K G i j M1 M2 M3 M4 a cls d)) :
    PS X (.Try body [.ExceptHandler (some (.Name x np)) (some n) (b₀ :: suite) pos'] [] [] pos) (tS G [] [] Ol E (tryI L A i j (M1 ++ M2 ++ M3 ++ M4))) := by
  refine (ps_try_mix (l := [(.ref NE, some i, tsIs X.K G i j M1 M2 M3 M4)]) hs hf hN (fun W pn xe tk _ => hb W pn xe tk) (.as hi hln hc hsu .nil)).mono fun En σ H ⟨φ, B, ρ, S, R, hp⟩ => ⟨φ, B, ρ, S, R, ?_⟩
  unfold tryI at hp
  generalize A ρ S = r at hp
  show PostS G φ [] Ol _ En B r
  induction r with
  | bad => exact hp
  | all p k ih => exact fun x px => ih x (hp x px)
  | ok q S1 =>
    obtain ⟨fl, ρ2⟩ := q
    cases fl <;> exact hp
  | exc c d S1 =>
    replace hp : PostS G φ [] Ol E En B (if c ∈ L ∧ i < ρ.length ∧ j < ρ.length then (isS j c (M1 ++ M2 ++ M3 ++ M4) (ρ.set i none) S1).bind fun q S' => .ok (q.1, q.2.set i none) S' else .bad) := hp
    split at hp
    case isFalse => exact hp.elim
    rename_i hcl
    intro B' H' cv od s R' hx
    refine ⟨true, by rw [hx.1]; exact hm c hcl.1, fun _ a na => ?_, fun e => nomatch e⟩
    have Rx := (R.back s R').setX i (.ref a)
    have il : i < σ.length := by rw [R.len]; exact hcl.2.1
    have jl : j < σ.length := by rw [R.len]; exact hcl.2.2
    refine su_is (Ol := Ol) (E := E) Rx hx (List.getElem?_set_self il) ij (by rw [List.length_set]; exact jl) (ok c hcl.1) hlen ?_
    exact fun σ' B2 H2 s2 R2 => hp (σ'.set i none) B2 H2 (s.trans s2) (R2.unset (by simp))
end
section
variable {G : Gm} {Ol : List Nat}
/-- x = [c, e.f] -/
def fldLT (j : Nat) (d0 : D) : Option D → Sx := fun d ρ S => match d with
  | some d => .ok (.nx, ρ.set j (some (.lst [d0, d]))) S
  | none => .bad
theorem su_fldLT {k i j : Nat} {C : Addr} {f : Str} {v0 : V} {d0 : D} (hC : G.ec k = C) (hf : G.ef k = f) (hd0 : ∀ p B, DV G p B v0 d0) :
    SuOk G Ol k (some i) (fun a cls od => tAsg (tLst (tCons (tC v0) (tCons (tXf a cls od C f (tVar i)) tNil))) (gName j)) (fldLT j d0) := by
  intro a cls od d φ B ρ S En σ H E R ⟨e1, e2⟩ hi hp
  match d, e2, hp with
  | none, _, hp => exact hp.elim
  | some d, ⟨dx, v, k1, k2, k3⟩, hp =>
    refine ⟨_, hi i rfl, rfl, by rw [e1, hC], dx, _, v, k1, k2, by rw [hf]; simp [List.lookup], by show 2 ≤ sizeLine; decide, fun t nt => ?_⟩
    obtain ⟨R', g', np⟩ := R.new (o := .lst [v0, v]) nt
    exact hp _ _ _ g'.b (R'.set (by simp) (.lst upd_same (.cons (hd0 _ _) (.cons (k3.same g'.b) .nil))))
end
end
end NL
/-! ### own errors made by C(f = e), their field read at once -/
namespace NL
noncomputable section
open PySem L2 PySem.Spec PyProof.Rows
section
open PySem.W PySem.Calls PySem.HandSPX
variable {M : Model} {prog : Program} {w : World} {A : Around} {E : Value → Shared → Prop} {R : Result → Shared → Prop} {h : Heap} {g : Array GenState} {d : PySem.Drawn} {t : Nat} {os : OsState}
variable {nm q : Str} {C N : Addr} {bs bm bmB : List Value} {hdct : Bool} {sn : List Str} {sub : List Value} {ab : Bool} {col : Option Bool} {dd : Option Addr} {k0 k1 k2 k3 k5 : Option Value} {B newId initId : String}
theorem kw_check_new (F : ExcBaseFacts B newId initId bmB) (hT : ∀ X : String, bm.contains (.type X) = bmB.contains (.type X)) {f : Str} {u : Value} {Q : Unit → Shared → Prop}
    (hk : h.get? C = some (excClassObj nm q C N bs bm hdct sn sub ab col dd k0 k1 k2 k3 k5 newId)) (hq : Q () ⟨h, g, d, t, os⟩) : wpAny M A (checkBuiltinCall newId ⟨[.ref C], [(f, u)]⟩) Q E ⟨h, g, d, t, os⟩ := by
  have hin : (Value.ref C :: bm).contains (.type B) = true := by rw [List.contains_cons, hT, F.hasB, Bool.or_true]
  have hst := F.noStar
  simp only [checkBuiltinCall, F.newKind, F.newSplit, F.newRow]
  repeat (first | refine wpAny_loadPart_at hk ?_ | (refine wpAny_isSubtype_exc hk ?_; rw [hin]) | refine wpAny_staticBase_exc hk ?_ | refine wpAny_madeBy_exc hk ?_ | simp only [bne_self_eq_false, Bool.false_eq_true, if_false] | wp_step)
  exact hq
theorem kw_new (F : ExcBaseFacts B newId initId bmB) (hT : ∀ X : String, bm.contains (.type X) = bmB.contains (.type X)) {f : Str} {u : Value}
    (hk : h.get? C = some (excClassObj nm q C N bs bm hdct sn sub ab col dd k0 k1 k2 k3 k5 newId))
    (hq : R (.ok (.ret (.ref (h.objs.size + 1)))) ⟨(h.push (kdv_tup [])).push (excO C h.objs.size), g, d, t, os⟩) :
    codeAny (model prog w) A (.builtin newId ⟨[.ref C], [(f, u)]⟩) R ⟨h, g, d, t, os⟩ := by
  have hen := F.ends
  have c1 : (Value.ref C :: bm).contains (.type B) = true := by rw [List.contains_cons, hT, F.hasB, Bool.or_true]
  have c2 : (Value.ref C :: bm).contains (.type "AttributeError") = false := by rw [List.contains_cons, hT, F.noAttr]; rfl
  have c3 : (Value.ref C :: bm).contains (.type "NameError") = false := by rw [List.contains_cons, hT, F.noName]; rfl
  refine codeAny_builtinAt F.entry ?_
  unfold Builtin.«BaseException.__new__»
  refine PySem.wpAt_bind ?_
  show PySem.wpAt _ _ _ (stack >>= _) _ _ _
  refine PySem.wpAt_bind (PySem.wpAt_stack fun p below => wpAt_of_wpAny ?_)
  wp_walk
  refine PySem.wpAt_of_wpAny ?_
  rw [F.owner]
  repeat (first | with_reducible refine wpAny_madeHere_exc F.canon hk ?_ | with_reducible refine wpAny_loadPart_at hk ?_ | (with_reducible refine wpAny_isSubtype_exc hk ?_; first | rw [c1] | rw [c2] | rw [c3]) | wp_step)
  show R _ _
  rw [Heap.size_push]
  exact hq
theorem kw_type_call (F : ExcBaseFacts B newId initId bmB) (hT : ∀ X : String, bm.contains (.type X) = bmB.contains (.type X)) {f : Str} {u : Value} {fI : Addr} {Q : Fin → Shared → Prop}
    (hk : h.get? C = some (excClassObj nm q C N bs bm hdct sn sub ab col dd k0 k1 k2 k3 k5 newId))
    (hi : W.Looks (model prog w) h (typeLookup (.ref C) "__init__") (some (.ref fI))) (hb : ∀ self, W.Looks (model prog w) h (bindSpecial (.ref fI) self) (.ref fI, [self]))
    (hq : codeAny (model prog w) A (.call (.ref fI) ⟨[.ref (h.objs.size + 1)], [(f, u)]⟩)
      (fun r s' => match r with | .ok (.ret v) => v = .none ∧ Q (.done (.ret (.ref (h.objs.size + 1)))) s' | .ok _ => False | .error e => E e s')
      ⟨(h.push (kdv_tup [])).push (excO C h.objs.size), g, d, t, os⟩) :
    wpAny (model prog w) A (Builtin.«type.__call__» ⟨[.ref C], [(f, u)]⟩) Q E ⟨h, g, d, t, os⟩ := by
  repeat (first | with_reducible refine wpAny_loadPart_at hk ?_ | with_reducible refine wpAny_madeBy_exc hk ?_ | wp_step)
  refine codeAny_call_builtin_code (Code.quiet_builtin _ F.quiet) (kw_check_new F hT hk ?_)
  refine kw_new F hT hk ?_
  show wpAny _ _ _ _ _ _
  have k : ∀ b o, h.get? b = some o → ((h.push (kdv_tup [])).push (excO C h.objs.size)).get? b = some o := fun b o e => Heap.get?_push_of_some _ (Heap.get?_push_of_some _ e)
  have hk1 := k _ _ hk
  have hnew : ((h.push (kdv_tup [])).push (excO C h.objs.size)).get? (h.objs.size + 1) = some (excO C h.objs.size) := by heap_get
  have hself : (Value.ref C :: bm).contains (.ref C) = true := by simp
  have i1 := hi.keeps k
  have b1 := (hb (.ref (h.objs.size + 1))).keeps k
  unfold isInstance
  repeat (first | with_reducible refine wpAny_loadPart_at hnew ?_ | (with_reducible refine wpAny_isSubtype_exc hk1 ?_; rw [hself]) | wp_step)
  show wpAny _ _ (typeLookup (.ref C) _) _ _ _
  refine i1.at ?_
  refine wpAny_holding (wpAny_bind (b1.at ?_))
  refine wpAny_bind (wpAny_call (codeAny_mono hq fun r s' z => ?_))
  rcases r with e | (v | _ | _ | _) <;> first | exact z | exact z.elim | skip
  obtain ⟨rfl, z⟩ := z
  first
    | exact wpAny_pure (wpAny_pure z)
    | (wp_walk; exact z)
theorem kw_call (F : ExcBaseFacts B newId initId bmB) (hT : ∀ X : String, bm.contains (.type X) = bmB.contains (.type X)) {f : Str} {u : Value} {fI : Addr}
    (hk : h.get? C = some (excClassObj nm q C N bs bm hdct sn sub ab col dd k0 k1 k2 k3 k5 newId))
    (hi : W.Looks (model prog w) h (typeLookup (.ref C) "__init__") (some (.ref fI))) (hb : ∀ self, W.Looks (model prog w) h (bindSpecial (.ref fI) self) (.ref fI, [self]))
    (hq : codeAny (model prog w) (A.under (.builtin "type.__call__" ⟨[.ref C], [(f, u)]⟩)) (.call (.ref fI) ⟨[.ref (h.objs.size + 1)], [(f, u)]⟩) (W.InitBack (h.objs.size + 1) R)
      ⟨(h.push (kdv_tup [])).push (excO C h.objs.size), g, d, t, os⟩) :
    codeAny (model prog w) A (.call (.ref C) ⟨[], [(f, u)]⟩) R ⟨h, g, d, t, os⟩ := by
  have f1 := tc_lookup
  have f2 := tc_bind (.ref C)
  have hTy : (⟨h, g, d, t, os⟩ : Shared).TypeIs (.ref C) "type" := ⟨_, hk, rfl⟩
  refine codeAny_of_tree ?_
  show wpAny _ _ (callAny (.ref C) _) _ _ _
  repeat (any_goals (first | assumption | with_reducible refine wpAny_loadPart_at hk ?_ | wp_step))
  refine ⟨rfl, ?_⟩
  refine codeAny_call_builtin_at (Code.quiet_builtin _ (by decide +kernel)) entry_typeCall (wpAny_check_type_call_sub hk (kw_type_call F hT hk hi hb ?_))
  refine codeAny_mono hq fun r s' z => ?_
  rcases r with e | (v | _ | _ | _) <;> exact z
end
/-- C(f = e).f -/
def tKef (C : Addr) (f : Str) (sp : Sp) (te : TE) : TE := fun σ H Q => te σ H fun y H1 => ∀ a, H1 a = none → sp [.ref a, y] (upd H1 a (exo a C none))
  (fun v H2 => v = .non ∧ ∃ (d : Addr) (fs : List (Str × V)) (z : V), H2 a = some (exo a C (some d)) ∧ H2 d = some (exd d fs) ∧ H1 d = none ∧ fs.lookup f = some z ∧ Q z (upd (del H2 a) d (.xd fs))) (fun _ _ _ => False)
section
open PySem.W PySem.Calls
variable {X : Cx} {CX : CXT} {k : Nat} {fI C : Addr} {fd : FuncData} {sp : Sp} {x f : Str} {p pos pos' kpos : Pos} {e : PySem.Expr} {te : TE}
theorem pe_kef (T : OexC X.K C) (XF : XfC X.K C) (hno : findIn X.K (.ref C) f = some none) (iC : findIn X.K (.ref C) "__init__" = some (some (.ref fI))) (tI : typeIn X.K (.ref fI) = some (.type "function"))
    (F1 : FnOk X.prog X.w X.K X.mg X.base CX k fI fd ["self", f] sp) (hr : Room (k + 1) X.A) (hb : ∀ (s : Shared) (u0 u1 : Value), BindsTo s fd ⟨[u0], [(f, u1)]⟩ [(("self" : Str), u0), (f, u1)]) (hx : Passes CX X (fun _ _ _ => False)) (hg : Gl X x) (hm : X.mg x = some (.ref C))
    (he : PE X e te) (hdb : (x == ("__debug__" : Str)) = false := by decide)
    (hbase : attributeBase (.Call (.Name x p) [] [⟨some f, e, kpos⟩] pos) f X.env (eval (.Call (.Name x p) [] [⟨some f, e, kpos⟩] pos) X.env) = eval (.Call (.Name x p) [] [⟨some f, e, kpos⟩] pos) X.env := by rfl) :
    PE X (.Attribute (.Call (.Name x p) [] [⟨some f, e, kpos⟩] pos) f pos') (tKef C f sp te) := by
  refine ⟨fun pins s σ H Q I h => ?_⟩
  refine L2.attr_of hbase ?_
  refine wpAny_Call_Name_kw (ld_glob I hg hm ?_ hdb)
  refine PySem.W.callWith_KW0 (h₀ := X.base) I.ok.mod.kin T.kC rfl ?_ rfl
  refine thn ((pk_cons (nm := some f) (kpos := kpos) he pk_nil).run pos pins s σ H (fun zs H2 => match zs with
    | [y] => ∀ a, H2 a = none → sp [.ref a, y] (upd H2 a (exo a C none)) (fun v H3 => v = .non ∧ ∃ (d : Addr) (fs : List (Str × V)) (z : V), H3 a = some (exo a C (some d)) ∧ H3 d = some (exd d fs) ∧ H2 d = none ∧ fs.lookup f = some z ∧ Q z (upd (del H3 a) d (.xd fs))) (fun _ _ _ => False)
    | _ => False) I h) fun ws s2 ⟨zs, H2, I2, rz, q2⟩ => ⟨I2.kIn, ?_⟩
  obtain ⟨y, rfl⟩ : ∃ y, zs = [y] := by
    match zs, q2 with
    | [y], _ => exact ⟨y, rfl⟩
  obtain ⟨u, rfl, ry⟩ : ∃ u, ws = [u] ∧ RelV y u := by
    cases rz with
    | cons ry h2 => cases h2; exact ⟨_, rfl, ry⟩
  obtain ⟨nm, q, N, bs, bm, sn, sub, ab, col, dd, k0, k1, k2, k3, k5, hC, hbm⟩ := T.cls
  show wpAny _ _ (call (.ref C) [] [(f, u)]) _ _ _
  obtain ⟨hp, g, dr, tk, os⟩ := s2
  have le1 : hp.objs.size ≤ hp.objs.size + 1 := Nat.le_succ _
  have hn : H2 (hp.objs.size + 1) = none := I2.hok.fresh le1
  have hq := q2 (hp.objs.size + 1) hn
  have up : ∀ b o, hp.get? b = some o → ((hp.push (PySem.W.kdv_tup [])).push (PySem.HandSPX.excO C hp.objs.size)).get? b = some o := fun b o e => Heap.get?_push_of_some _ (Heap.get?_push_of_some _ e)
  have hnew : ((hp.push (PySem.W.kdv_tup [])).push (PySem.HandSPX.excO C hp.objs.size)).get? (hp.objs.size + 1) = some (PySem.HandSPX.excO C hp.objs.size) := by heap_get
  have I3 : Inv X pins σ (upd H2 (hp.objs.size + 1) (exo (hp.objs.size + 1) C none)) ⟨(hp.push (PySem.W.kdv_tup [])).push (PySem.HandSPX.excO C hp.objs.size), g, dr, tk, os⟩ :=
    Inv.laid (t' := tk) (a := hp.objs.size + 1) (o := exo (hp.objs.size + 1) C none) (h' := (hp.push (PySem.W.kdv_tup [])).push (PySem.HandSPX.excO C hp.objs.size)) I2 up le1 (exo_ok hnew)
  have r2 : Vals [V.ref (hp.objs.size + 1), y] [Value.ref (hp.objs.size + 1), u] := .cons rfl (.cons ry .nil)
  refine wpAny_call (kw_call PySem.F.excBase_ValueError (fun Y => PySem.HandSPX.refsVE_contains Y bm hbm) (I2.kIn _ _ hC) (PySem.W.looks_findIn I2.kIn iC) (fun self => PySem.W.bind_fn I2.kIn self tI)
    (codeAny_mono (F1.run _ X.stack _ _ ⟨[Value.ref (hp.objs.size + 1)], [(f, u)]⟩ [Value.ref (hp.objs.size + 1), u] _ _ (fun _ _ _ => False) (hr.make C [] [(f, u)]) (I3.env0.make C [] [(f, u)]) (hb _ _ _) r2 hq) fun r s' hq' => ?_))
  cases r with
  | error er => exact hx pins σ _ _ er s' I3 hq'
  | ok fl =>
    cases fl with
    | next => exact False.elim hq'
    | brk => exact False.elim hq'
    | cont => exact False.elim hq'
    | ret u2 =>
      obtain ⟨v, H3, os2, bare2, un2, hok2, rv, ev, d, fs, z, ea, ed, hd1, hl, q3⟩ := hq'
      subst ev
      obtain ⟨h2, g2, d2, t2, os'⟩ := s'
      refine ⟨rv, ?_⟩
      obtain ⟨t0, G, J, kG, ge, hoe, na⟩ := mk_end0 (d2 := d2) (t2 := t2) I2 le1 up un2 hok2 os2 bare2 ea ed hd1
      have hx : ObjOk X.prog X.w (upd (del H3 (hp.objs.size + 1)) d (.xd fs)) G d (.xd fs) := J.hok d _ upd_same
      obtain ⟨mA, hns, hre⟩ := hx
      obtain ⟨od, ho, hlk⟩ := lookIn_ns hns
      obtain ⟨uz, hu, ru⟩ := RelO.some_of (v := z) (o := mA f) (by rw [← hl]; exact hre f)
      have IA : PySem.W.InstAt h2 (hp.objs.size + 1) { cls := .ref C, dict := some d, data := .fields #[.ref t0, .none, .none, .none, .bool false, .none] } C (some od) := ⟨hoe, rfl, by unfold PySem.W.notCls; rfl, kG _ _ ho⟩
      exact HandSPX.exc_get (J.kept (t' := t2) kG).kIn IA XF.ga XF.gg XF.exC (PySem.W.findObj_own XF.hdC hno rfl (by rw [hlk, hu])) (handed_of ru) ⟨z, _, J.kept (t' := t2 + 1) kG, ru, q3⟩
end
section
variable {G : Gm} {φ : Fr} {m : Bool} {O O' Ol : List Nat} {E : XK} {σ : L2.St} {ρ : NL.Env} {B H : Hp} {S : SrcT} {X : Cx} {e : PySem.Expr} {F : Ex}
theorem kef_heap {H1 : Hp} {a dx C : Addr} {f : Str} {v : V} (na : H1 a = none) : upd (del (upd (upd (upd H1 a (exo a C none)) dx (exd dx [(f, v)])) a (exo a C (some dx))) a) dx (.xd [(f, v)]) = upd H1 dx (.xd [(f, v)]) := by
  funext b
  by_cases hb : b = dx
  · rw [hb, upd_same, upd_same]
  · rw [upd_ne hb, upd_ne hb]
    by_cases hba : b = a
    · rw [hba, del_same, na]
    · rw [del_ne hba, upd_ne hba, upd_ne hb, upd_ne hba]
/-- C(f = e).f is what e gives -/
def kefF (F : Ex) : Ex := fun ρ S => (F ρ S).bind fun d S1 => .ok d S1
def kefA (F : Ex) : Ex := fun ρ S => (F ρ S).bind fun d S1 => if fmtOkD d = true then .ok d S1 else .bad
theorem de_kef {C : Addr} {f : Str} (h : PE X e (tKef C f (spErr C f) (tD G m O E F))) : PE X e (tD G m O E (kefF F)) := by
  refine h.mono fun σ H Q ⟨φ, B, ρ, S, R, hp⟩ => ⟨φ, B, ρ, S, R, ?_⟩
  refine Pg.bind hp fun d S1 w B1 H1 g R1 hw hq => fun a na => ⟨a, w, rfl, upd_same, fun dx ndx ne => ⟨rfl, dx, [(f, w)], w, upd_same, by rw [upd_ne ne]; exact upd_same, by rw [upd_ne ne] at ndx; exact ndx, by simp [List.lookup], ?_⟩⟩
  rw [kef_heap na]
  obtain ⟨R2, g2, _⟩ := R1.newN (o := .xd [(f, w)]) (by rw [upd_ne ne] at ndx; exact ndx)
  exact hq w _ _ g2 R2 (DV.same (g2.bs m) hw)
theorem de_kefA {C : Addr} {f : Str} {K : PySem.W.Frag} (hK : K = G.K) (h : PE X e (tKef C f (spErrA K C f) (tD G m O E F))) (hv0 : G.v = false := by rfl) : PE X e (tD G m O E (kefA F)) := by
  refine h.mono fun σ H Q ⟨φ, B, ρ, S, R, hp⟩ => ⟨φ, B, ρ, S, R, ?_⟩
  refine Pg.bind hp fun d S1 w B1 H1 g R1 hw hq => fun a na => ?_
  split at hq
  case isFalse => exact hq.elim
  rename_i hfm
  have hS : Same (bs m φ B1 H1) H1 := R1.bsH m
  refine ⟨a, w, rfl, fmtV_of hK hw (hS.trans (same_new na)) hfm, upd_same, fun dx ndx ne => ⟨rfl, dx, [(f, w)], w, upd_same, by rw [upd_ne ne]; exact upd_same, by rw [upd_ne ne] at ndx; exact ndx, by simp [List.lookup], ?_⟩⟩
  rw [kef_heap na]
  obtain ⟨R2, g2, _⟩ := R1.newN (o := .xd [(f, w)]) (by rw [upd_ne ne] at ndx; exact ndx)
  exact hq w _ _ g2 R2 (DV.same (g2.bs m) hw)
end
/-- isinstance by a class of the program, by ValueError -/
theorem kit_of2 {K : PySem.W.Frag} {C S : Addr} {b : Bool} (h1 : PySem.W.isClsIn K S = true) (h2 : PySem.W.typeIn K (.ref S) = some (.type "type")) (h3 : PySem.W.subIn K (.ref C) (.ref S) = some b) (h4 : PySem.W.subIn K (.ref C) (.ref C) = some true) : PySem.W.kitOne K (.ref C) (.ref S) = some b := by
  unfold PySem.W.kitOne
  split
  case isTrue h =>
    have e : Value.ref C = .ref S := beq_iff_eq.mp h
    cases e
    rw [← h4, h3]
  case isFalse => 
    have e2 : ((PySem.W.clsIn K S).isSome && PySem.W.typeIn K (.ref S) == some (.type "type")) = true := by
      have h1' : (PySem.W.clsIn K S).isSome = true := h1
      rw [h1', h2] <;> rfl
    exact (if_pos e2).trans h3
theorem kitV_of {K : PySem.W.Frag} {C : Addr} (h : PySem.W.subIn K (.ref C) (.type "ValueError") = some true) : PySem.W.kitOne K (.ref C) (.type "ValueError") = some true := by
  unfold PySem.W.kitOne
  rw [if_neg (fun z => by cases beq_iff_eq.mp z)]
  exact (if_pos (e := (none : Option Bool)) (show PySem.W.kitMeta "ValueError" = true by decide +kernel)).trans h
end
end NL
/-! ### ranks of a list of ints -/
namespace Law
open PySem L2 NL
/-- the different ones in order -/
def sd (l : List Int) : List Int := sortI (ddI l)
theorem sd_mem {l : List Int} {x : Int} : x ∈ sd l ↔ x ∈ l := by
  unfold sd; rw [(sortI_perm _).mem_iff, ddI_mem]
theorem sd_nodup (l : List Int) : (sd l).Nodup := (sortI_perm _).nodup_iff.mpr (ddI_nodup l)
theorem sd_len (l : List Int) : (sd l).length = (ddI l).length := (sortI_perm _).length_eq
theorem sd_lt (l : List Int) : (sd l).Pairwise (· < ·) := by
  have h1 := sortI_sorted (ddI l)
  have h2 := sd_nodup l
  have h3 := h1.and h2
  exact h3.imp fun {a b} h => by have := h.1; have := h.2; omega
theorem sd_unique {s l : List Int} (h : s.Pairwise (· < ·)) (hm : ∀ x, x ∈ s ↔ x ∈ l) : s = sd l :=
  sorted_of_set (ddI_nodup l) h fun k => (hm k).trans ddI_mem.symm
/-- the first place -/
def ixI : List Int → Int → Nat
  | [], _ => 0
  | y :: r, x => if y = x then 0 else ixI r x + 1
theorem ixI_lt : ∀ {s : List Int} {x : Int}, x ∈ s → ixI s x < s.length
  | [], x, h => (nomatch h)
  | y :: r, x, h => by
    unfold ixI; split
    · simp
    · rename_i hne
      have := ixI_lt (s := r) (x := x) (by rcases List.mem_cons.mp h with q | q; exact absurd q.symm hne; exact q)
      simp; omega
theorem ixI_get : ∀ {s : List Int} {x : Int}, x ∈ s → s[ixI s x]? = some x
  | [], x, h => (nomatch h)
  | y :: r, x, h => by
    unfold ixI; split
    · rename_i e; simp [e]
    · rename_i hne
      have := ixI_get (s := r) (x := x) (by rcases List.mem_cons.mp h with q | q; exact absurd q.symm hne; exact q)
      simpa using this
theorem ixI_of : ∀ {s : List Int} {i : Nat} {x : Int}, s.Nodup → s[i]? = some x → ixI s x = i
  | [], i, x, _, h => by simp at h
  | y :: r, 0, x, _, h => by simp at h; unfold ixI; rw [if_pos h]
  | y :: r, i + 1, x, hn, h => by
    have h2 : r[i]? = some x := by simpa using h
    have hx : x ∈ r := List.mem_of_getElem? h2
    have hne : y ≠ x := fun e => (List.nodup_cons.mp hn).1 (e ▸ hx)
    unfold ixI; rw [if_neg hne, ixI_of (List.nodup_cons.mp hn).2 h2]
def rgI (w : Nat) : List Int := (List.range w).map fun (i : Nat) => (i : Int)
theorem rgI_len (w : Nat) : (rgI w).length = w := by unfold rgI; simp
theorem rgI_mem {w : Nat} {x : Int} : x ∈ rgI w ↔ 0 ≤ x ∧ x < w := by
  unfold rgI
  rw [List.mem_map]
  constructor
  · rintro ⟨i, hi, rfl⟩; rw [List.mem_range] at hi; omega
  · rintro ⟨h0, h1⟩; exact ⟨x.toNat, by rw [List.mem_range]; omega, by omega⟩
theorem rgI_get {w i : Nat} (h : i < w) : (rgI w)[i]? = some (i : Int) := by
  unfold rgI; rw [List.getElem?_map, List.getElem?_range h]; rfl
theorem rgI_lt (w : Nat) : (rgI w).Pairwise (· < ·) := by
  unfold rgI
  rw [List.pairwise_map]
  exact List.pairwise_lt_range.imp fun {a b} h => by omega
theorem lt_nodup {l : List Int} (h : l.Pairwise (· < ·)) : l.Nodup := h.imp fun {a b} h => by omega
theorem rngD_rgI (w : Nat) : rngD 0 w = (rgI w).map D.int := by
  unfold rngD rgI
  rw [List.map_map]
  refine List.map_congr_left fun i _ => ?_
  show D.int (0 + (i : Int)) = D.int (i : Int)
  rw [Int.zero_add]
/-- the ranks -/
def rk (l : List Int) : List Int := l.map fun x => (ixI (sd l) x : Int)
theorem rk_len (l : List Int) : (rk l).length = l.length := by unfold rk; simp
theorem rk_mem {l : List Int} {x : Int} : x ∈ rk l ↔ 0 ≤ x ∧ x < (sd l).length := by
  unfold rk
  rw [List.mem_map]
  constructor
  · rintro ⟨y, hy, rfl⟩
    have := ixI_lt (sd_mem.mpr hy); omega
  · rintro ⟨h0, h1⟩
    have hlt : x.toNat < (sd l).length := by omega
    have hg : (sd l)[x.toNat]? = some (sd l)[x.toNat] := List.getElem?_eq_getElem hlt
    refine ⟨(sd l)[x.toNat], sd_mem.mp (List.mem_of_getElem? hg), ?_⟩
    rw [ixI_of (sd_nodup l) hg]; omega
theorem sd_rk (l : List Int) : sd (rk l) = rgI (sd l).length := by
  symm
  exact sd_unique (rgI_lt _) fun x => rgI_mem.trans rk_mem.symm
theorem rk_of_range {l : List Int} {w : Nat} (h : sd l = rgI w) : rk l = l := by
  unfold rk
  conv => rhs; rw [← List.map_id l]
  refine List.map_congr_left fun x hx => ?_
  have hm : x ∈ rgI w := by rw [← h]; exact sd_mem.mpr hx
  rw [rgI_mem] at hm
  have hg : (rgI w)[x.toNat]? = some x := by rw [rgI_get (by omega)]; congr 1; omega
  rw [h, ixI_of (lt_nodup (rgI_lt w)) hg]
  show ((x.toNat : Nat) : Int) = x
  omega
theorem rk_rk (l : List Int) : rk (rk l) = rk l := rk_of_range (sd_rk l)
theorem sd_rk_len (l : List Int) : (sd (rk l)).length = (sd l).length := by rw [sd_rk, rgI_len]
theorem sd_len_of_rk {l l' : List Int} (h : rk l = rk l') : (sd l).length = (sd l').length := by rw [← sd_rk_len l, h, sd_rk_len]
theorem sub_len : ∀ {a b : List Int}, a.Nodup → (∀ x ∈ a, x ∈ b) → a.length ≤ b.length
  | [], b, _, _ => by simp
  | x :: a, b, hn, h => by
    obtain ⟨h1, h2⟩ := List.nodup_cons.mp hn
    have := sub_len (a := a) (b := b.erase x) h2 fun y hy => by
      have hne : y ≠ x := fun e => h1 (e ▸ hy)
      exact (List.mem_erase_of_ne hne).mpr (h y (List.mem_cons_of_mem _ hy))
    rw [List.length_erase_of_mem (h x List.mem_cons_self)] at this
    have hp : 0 < b.length := List.length_pos_of_mem (h x List.mem_cons_self)
    simp; omega
theorem sd_len_le {l : List Int} {w : Nat} (h : ∀ x ∈ l, 0 ≤ x ∧ x < w) : (sd l).length ≤ w := by
  have := sub_len (sd_nodup l) (b := rgI w) fun x hx => rgI_mem.mpr (h x (sd_mem.mp hx))
  rwa [rgI_len] at this
theorem sd_len_le' (l : List Int) : (sd l).length ≤ l.length := sub_len (sd_nodup l) fun x hx => sd_mem.mp hx
theorem sd_pos {l : List Int} (h : l ≠ []) : 0 < (sd l).length := by
  cases l with
  | nil => exact absurd rfl h
  | cons x l => exact List.length_pos_of_mem (sd_mem.mpr (List.mem_cons_self (a := x)))
/-! all lists of a length, of the ints below a bound -/
def allR (w : Nat) : Nat → List (List Int)
  | 0 => [[]]
  | n + 1 => (allR w n).flatMap fun rs => (rgI w).map fun r => rs ++ [r]
theorem allR_mem {w : Nat} : ∀ {n : Nat} {l : List Int}, l ∈ allR w n ↔ l.length = n ∧ ∀ x ∈ l, 0 ≤ x ∧ x < w
  | 0, l => by
    rw [allR, List.mem_singleton]
    constructor
    · rintro rfl; exact ⟨rfl, fun x hx => (nomatch hx)⟩
    · rintro ⟨h, _⟩; exact List.length_eq_zero_iff.mp h
  | n + 1, l => by
    rw [allR, List.mem_flatMap]
    constructor
    · rintro ⟨rs, hrs, hl⟩
      obtain ⟨r, hr, rfl⟩ := List.mem_map.mp hl
      obtain ⟨h1, h2⟩ := allR_mem.mp hrs
      refine ⟨by simp [h1], fun x hx => ?_⟩
      rcases List.mem_append.mp hx with q | q
      · exact h2 x q
      · rw [List.mem_singleton.mp q]; exact rgI_mem.mp hr
    · rintro ⟨h1, h2⟩
      have hne : l ≠ [] := fun e => by rw [e] at h1; simp at h1
      have e := List.dropLast_concat_getLast hne
      refine ⟨l.dropLast, allR_mem.mpr ⟨by simp [h1], fun x hx => h2 x (List.dropLast_subset l hx)⟩, List.mem_map.mpr ⟨l.getLast hne, rgI_mem.mpr (h2 _ (List.getLast_mem hne)), e⟩⟩
theorem allR_nodup (w : Nat) : ∀ n, (allR w n).Nodup
  | 0 => by rw [allR]; simp
  | n + 1 => by
    rw [allR]
    unfold List.Nodup
    rw [List.pairwise_flatMap]
    refine ⟨fun rs _ => ?_, ?_⟩
    · rw [List.pairwise_map]
      exact (lt_nodup (rgI_lt w)).imp fun {a b} hab e => hab (by simpa using e)
    · refine (allR_nodup w n).imp fun {a b} hab => ?_
      intro x hx y hy e
      obtain ⟨r, _, rfl⟩ := List.mem_map.mp hx
      obtain ⟨r', _, rfl⟩ := List.mem_map.mp hy
      exact hab (List.append_inj_left' e (by simp))
theorem allR_len (w : Nat) : ∀ n, (allR w n).length = w ^ n
  | 0 => rfl
  | n + 1 => by
    rw [allR, List.length_flatMap]
    have : ((allR w n).map fun a => ((rgI w).map fun r => a ++ [r]).length) = (allR w n).map fun _ => w := List.map_congr_left fun a _ => by rw [List.length_map, rgI_len]
    rw [this, List.map_const', List.sum_replicate_nat, allR_len w n, Nat.pow_succ]
/-! ranks and order -/
theorem ixI_mono {s : List Int} (h : s.Pairwise (· < ·)) {x y : Int} (hx : x ∈ s) (hy : y ∈ s) : ixI s x < ixI s y ↔ x < y := by
  have h1 := ixI_get hx
  have h2 := ixI_get hy
  obtain ⟨l1, e1⟩ := List.getElem?_eq_some_iff.mp h1
  obtain ⟨l2, e2⟩ := List.getElem?_eq_some_iff.mp h2
  have hp := List.pairwise_iff_getElem.mp h
  constructor
  · intro hlt
    have := hp _ _ l1 l2 hlt
    rw [e1, e2] at this; exact this
  · intro hlt
    rcases Nat.lt_trichotomy (ixI s x) (ixI s y) with q | q | q
    · exact q
    · have : x = y := by rw [← e1, ← e2]; simp [q]
      omega
    · have := hp _ _ l2 l1 q
      rw [e1, e2] at this; omega
theorem rk_get {l : List Int} {i : Nat} {x : Int} (h : l[i]? = some x) : (rk l)[i]? = some (ixI (sd l) x : Int) := by
  unfold rk; rw [List.getElem?_map, h]; rfl
/-- two lists in the same order -/
def SameOrd (l r : List Int) : Prop := l.length = r.length ∧ ∀ (i j : Nat) (x y a b : Int), l[i]? = some x → l[j]? = some y → r[i]? = some a → r[j]? = some b → (x < y ↔ a < b)
theorem SameOrd.symm {l r : List Int} (h : SameOrd l r) : SameOrd r l := ⟨h.1.symm, fun i j x y a b h1 h2 h3 h4 => (h.2 i j a b x y h3 h4 h1 h2).symm⟩
theorem SameOrd.trans {l r t : List Int} (h : SameOrd l r) (h2 : SameOrd r t) : SameOrd l t := ⟨h.1.trans h2.1, fun i j x y a b k1 k2 k3 k4 => by
  have li : i < r.length := by rw [← h.1]; exact (List.getElem?_eq_some_iff.mp k1).1
  have lj : j < r.length := by rw [← h.1]; exact (List.getElem?_eq_some_iff.mp k2).1
  exact (h.2 i j x y _ _ k1 k2 (List.getElem?_eq_getElem li) (List.getElem?_eq_getElem lj)).trans (h2.2 i j _ _ a b (List.getElem?_eq_getElem li) (List.getElem?_eq_getElem lj) k3 k4)⟩
theorem rk_ord (l : List Int) : SameOrd l (rk l) := by
  refine ⟨(rk_len l).symm, fun i j x y a b h1 h2 h3 h4 => ?_⟩
  rw [rk_get h1] at h3
  rw [rk_get h2] at h4
  cases h3; cases h4
  have := ixI_mono (sd_lt l) (sd_mem.mpr (List.mem_of_getElem? h1)) (sd_mem.mpr (List.mem_of_getElem? h2))
  omega
/-- what stands in r where x first stands in l -/
def atF (l r : List Int) (x : Int) : Int := r.getD (ixI l x) 0
theorem dense {l r : List Int} {k : Nat} (h : SameOrd l r) (hr : sd r = rgI k) : rk l = r := by
  have hv : ∀ (i : Nat) (x a : Int), l[i]? = some x → r[i]? = some a → atF l r x = a := fun i x a h1 h2 => by
    have hx : x ∈ l := List.mem_of_getElem? h1
    have g1 := ixI_get hx
    have lt : ixI l x < r.length := by rw [← h.1]; exact ixI_lt hx
    have g2 : r[ixI l x]? = some r[ixI l x] := List.getElem?_eq_getElem lt
    have e : atF l r x = r[ixI l x] := by unfold atF; rw [List.getD_eq_getElem?_getD, g2]; rfl
    have o1 := h.2 _ _ _ _ _ _ g1 h1 g2 h2
    have o2 := h.2 _ _ _ _ _ _ h1 g1 h2 g2
    rw [e]; omega
  have ht : (sd l).map (atF l r) = rgI k := by
    rw [← hr]
    refine sd_unique ?_ fun y => ?_
    · rw [List.pairwise_map]
      refine List.Pairwise.imp_of_mem ?_ (sd_lt l)
      intro x y hx hy hxy
      have g1 := ixI_get (sd_mem.mp hx)
      have g2 := ixI_get (sd_mem.mp hy)
      have l1 : ixI l x < r.length := by rw [← h.1]; exact ixI_lt (sd_mem.mp hx)
      have l2 : ixI l y < r.length := by rw [← h.1]; exact ixI_lt (sd_mem.mp hy)
      have q1 := List.getElem?_eq_getElem l1
      have q2 := List.getElem?_eq_getElem l2
      rw [hv _ _ _ g1 q1, hv _ _ _ g2 q2]
      exact (h.2 _ _ _ _ _ _ g1 g2 q1 q2).mp hxy
    · rw [List.mem_map]
      constructor
      · rintro ⟨x, hx, rfl⟩
        have g1 := ixI_get (sd_mem.mp hx)
        have l1 : ixI l x < r.length := by rw [← h.1]; exact ixI_lt (sd_mem.mp hx)
        rw [hv _ _ _ g1 (List.getElem?_eq_getElem l1)]
        exact List.getElem_mem l1
      · intro hy
        obtain ⟨i, hi, e⟩ := List.mem_iff_getElem.mp hy
        have li : i < l.length := by rw [h.1]; exact hi
        exact ⟨l[i], sd_mem.mpr (List.getElem_mem li), hv i _ _ (List.getElem?_eq_getElem li) (by rw [List.getElem?_eq_getElem hi, e])⟩
  apply List.ext_getElem?
  intro i
  by_cases hi : i < l.length
  · have g1 := List.getElem?_eq_getElem hi
    have g2 := List.getElem?_eq_getElem (show i < r.length by rw [← h.1]; exact hi)
    rw [rk_get g1, g2]
    have hm : l[i] ∈ sd l := sd_mem.mpr (List.getElem_mem hi)
    have e1 : ((sd l).map (atF l r))[ixI (sd l) l[i]]? = some (atF l r l[i]) := by rw [List.getElem?_map, ixI_get hm]; rfl
    have hlt : ixI (sd l) l[i] < k := by
      have := ixI_lt hm
      have e2 := congrArg List.length ht
      rw [List.length_map, rgI_len] at e2
      omega
    rw [ht, rgI_get hlt, hv i _ _ g1 g2] at e1
    exact e1
  · rw [List.getElem?_eq_none (by rw [rk_len]; omega), List.getElem?_eq_none (by rw [← h.1]; omega)]
theorem rk_iff {l l' : List Int} : rk l = rk l' ↔ SameOrd l l' := by
  constructor
  · intro h
    exact (rk_ord l).trans (h ▸ (rk_ord l').symm)
  · intro h
    exact dense (h.trans (rk_ord l')) (sd_rk l')
end Law
namespace NL
open PySem L2
/-! ### how a run goes on -/
structure TL4 where
  words : List Str
  keeps : List Bool
  kept : List Int
  st : Str
def whereO (o : Option Int) (x e : Int) : Str := match o with
  | none => "none"
  | some k => placeS x k e
def lastO (o : Option Int) (ks : List Int) : Option Int := match ks.getLast? with
  | none => o
  | some k => some k
def addT (u : Str × Bool × Str) (x : Int) (t : TL4) : TL4 := ⟨u.1 :: t.words, u.2.1 :: t.keeps, if u.2.1 = true then x :: t.kept else t.kept, t.st⟩
def nextO (u : Str × Bool × Str) (x : Int) (o : Option Int) : Option Int := if u.2.1 = true then some x else o
def tailR (rs : List Rule) (e : Int) : Option Int → Str → List Int → TL4
  | _, s, [] => ⟨[], [], [], s⟩
  | o, s, x :: xs => addT (usedR rs s (whereO o x e)) x (tailR rs e (nextO (usedR rs s (whereO o x e)) x o) (usedR rs s (whereO o x e)).2.2 xs)
theorem tail_cons (rs : List Rule) (e : Int) (o : Option Int) (s : Str) (x : Int) (xs : List Int) : tailR rs e o s (x :: xs) = addT (usedR rs s (whereO o x e)) x (tailR rs e (nextO (usedR rs s (whereO o x e)) x o) (usedR rs s (whereO o x e)).2.2 xs) := rfl
theorem run_tail (rs : List Rule) (e : Int) : ∀ (xs : List Int) (s : RS), xs.foldl (runStep rs e) s = ⟨(tailR rs e s.kept.getLast? s.st xs).st, s.words ++ (tailR rs e s.kept.getLast? s.st xs).words, s.keeps ++ (tailR rs e s.kept.getLast? s.st xs).keeps, s.kept ++ (tailR rs e s.kept.getLast? s.st xs).kept⟩
  | [], s => by simp [tailR]
  | x :: xs, s => by
    have hw : whereS s.kept x e = whereO s.kept.getLast? x e := rfl
    obtain ⟨u, hu⟩ : ∃ u, u = usedR rs s.st (whereO s.kept.getLast? x e) := ⟨_, rfl⟩
    have e1 : runStep rs e s x = ⟨u.2.2, s.words ++ [u.1], s.keeps ++ [u.2.1], if u.2.1 = true then s.kept ++ [x] else s.kept⟩ := by
      unfold runStep; rw [hw, ← hu]
    have hl : (if u.2.1 = true then s.kept ++ [x] else s.kept).getLast? = nextO u x s.kept.getLast? := by
      unfold nextO
      split
      · simp
      · rfl
    rw [List.foldl_cons, run_tail rs e xs, e1]
    show RS.mk (tailR rs e (if u.2.1 = true then s.kept ++ [x] else s.kept).getLast? u.2.2 xs).st _ _ _ = _
    rw [hl, tail_cons, ← hu]
    obtain ⟨t, ht⟩ : ∃ t, t = tailR rs e (nextO u x s.kept.getLast?) u.2.2 xs := ⟨_, rfl⟩
    rw [← ht]
    unfold addT
    simp only [List.append_assoc, List.singleton_append]
    congr 1
    split
    · simp
    · rfl
theorem tail_len (rs : List Rule) (e : Int) : ∀ (xs : List Int) (o : Option Int) (s : Str), (tailR rs e o s xs).words.length = xs.length ∧ (tailR rs e o s xs).keeps.length = xs.length
  | [], _, _ => ⟨rfl, rfl⟩
  | x :: xs, o, s => by
    obtain ⟨h1, h2⟩ := tail_len rs e xs (nextO (usedR rs s (whereO o x e)) x o) (usedR rs s (whereO o x e)).2.2
    rw [tail_cons]; unfold addT
    exact ⟨by simp [h1], by simp [h2]⟩
theorem tail_same {rs rs' : List Rule} {e : Int} (he : 0 < e) (h : ∀ s p, p ∈ PN → usedR rs s p = usedR rs' s p) : ∀ (xs : List Int) (o : Option Int) (s : Str), tailR rs e o s xs = tailR rs' e o s xs
  | [], _, _ => rfl
  | x :: xs, o, s => by
    have hp : whereO o x e ∈ PN := by
      cases o with
      | none => exact List.mem_cons_self
      | some k => exact List.mem_cons_of_mem _ (placeS_mem he)
    rw [tail_cons, tail_cons, h s _ hp, tail_same he h xs]
theorem tail_some {rs rs' : List Rule} {e : Int} (he : 0 < e) (h : ∀ s p, p ∈ PL → usedR rs s p = usedR rs' s p) : ∀ (xs : List Int) (k : Int) (s : Str), tailR rs e (some k) s xs = tailR rs' e (some k) s xs
  | [], _, _ => rfl
  | x :: xs, k, s => by
    have hp : whereO (some k) x e ∈ PL := placeS_mem he
    rw [tail_cons, tail_cons, h s _ hp]
    obtain ⟨j, hj⟩ : ∃ j, nextO (usedR rs' s (whereO (some k) x e)) x (some k) = some j := by unfold nextO; split <;> exact ⟨_, rfl⟩
    rw [hj, tail_some he h xs]
/-! ### a run, cut -/
theorem run_cut (rs : List Rule) (e : Int) (row : List Int) (n : Nat) (hn : n ≤ row.length) (r1 : RS) (h1 : r1 = runR rs e (row.take n)) (T : TL4) (hT : T = tailR rs e r1.kept.getLast? r1.st (row.drop n)) :
    (runR rs e row).words.take n = r1.words ∧ (runR rs e row).keeps.take n = r1.keeps ∧ (runR rs e row).kept.take r1.kept.length = r1.kept ∧ (runR rs e row).words.drop n = T.words ∧ (runR rs e row).keeps.drop n = T.keeps ∧ (runR rs e row).kept.drop r1.kept.length = T.kept ∧ (runR rs e row).kept = r1.kept ++ T.kept := by
  have e0 : runR rs e row = (row.drop n).foldl (runStep rs e) r1 := by
    rw [h1]; unfold runR
    rw [← List.foldl_append, List.take_append_drop]
  obtain ⟨l1, l2, _⟩ := run_len rs e (row.take n)
  rw [← h1, List.length_take, Nat.min_eq_left hn] at l1 l2
  rw [e0, run_tail, ← hT]
  refine ⟨?_, ?_, ?_, ?_, ?_, ?_, rfl⟩
  · show (r1.words ++ T.words).take n = _
    rw [← l1, List.take_left]
  · show (r1.keeps ++ T.keeps).take n = _
    rw [← l2, List.take_left]
  · show (r1.kept ++ T.kept).take _ = _
    rw [List.take_left]
  · show (r1.words ++ T.words).drop n = _
    rw [← l1, List.drop_left]
  · show (r1.keeps ++ T.keeps).drop n = _
    rw [← l2, List.drop_left]
  · show (r1.kept ++ T.kept).drop _ = _
    rw [List.drop_left]
theorem run_as_tail (rs : List Rule) (e : Int) (ys : List Int) : (runR rs e ys).words = (tailR rs e none (startR rs) ys).words ∧ (runR rs e ys).keeps = (tailR rs e none (startR rs) ys).keeps ∧ (runR rs e ys).kept = (tailR rs e none (startR rs) ys).kept := by
  unfold runR
  rw [run_tail]
  exact ⟨rfl, rfl, rfl⟩
theorem find_filter_of {α : Type} {P Q : α → Bool} (h : ∀ x, P x = true → Q x = true) : ∀ l : List α, (l.filter Q).find? P = l.find? P
  | [] => rfl
  | x :: l => by
    rw [List.filter_cons, List.find?_cons]
    by_cases hq : Q x = true
    · rw [if_pos hq, List.find?_cons, find_filter_of h l]
    · rw [if_neg hq]
      have hp : P x = false := by
        cases hP : P x with
        | false => rfl
        | true => exact absurd (h x hP) hq
      rw [hp, find_filter_of h l]
theorem find_filter_none {α : Type} {P Q : α → Bool} (h : ∀ x, P x = true → Q x = false) (l : List α) : (l.filter Q).find? P = none := by
  rw [List.find?_eq_none]
  intro x hx hp
  have := (List.mem_filter.mp hx).2
  rw [h x hp] at this; cases this
def startedR (rs : List Rule) (s : Str) : List Rule := rs.filter (fun r => decide (r.st = s)) ++ rs.filter (fun r => !decide (r.st = s))
theorem used_started (rs : List Rule) (s s' p : Str) : usedR (startedR rs s) s' p = usedR rs s' p := by
  unfold usedR startedR
  rw [List.find?_append]
  by_cases e : s' = s
  · subst e
    rw [find_filter_of (fun x hx => by unfold hitR at hx; simp only [Bool.and_eq_true] at hx; exact hx.1), find_filter_none (fun x hx => by
      unfold hitR at hx; simp only [Bool.and_eq_true] at hx; rw [hx.1]; rfl)]
    cases rs.find? (hitR s' p) <;> rfl
  · rw [find_filter_none (fun x hx => by
      unfold hitR at hx; simp only [Bool.and_eq_true, decide_eq_true_eq] at hx
      rw [hx.1]; exact decide_eq_false e), find_filter_of (fun x hx => by
      unfold hitR at hx; simp only [Bool.and_eq_true, decide_eq_true_eq] at hx
      rw [hx.1, decide_eq_false e]; rfl)]
    rfl
theorem tail_pass {rs : List Rule} {s : Str} (h : ∀ p, usedR rs s p = (("pass" : Str), false, s)) (e : Int) : ∀ (ys : List Int) (o : Option Int), (tailR rs e o s ys).words = List.replicate ys.length ("pass" : Str)
  | [], _ => rfl
  | y :: ys, o => by
    rw [tail_cons, h]
    show ("pass" : Str) :: (tailR rs e _ s ys).words = _
    rw [tail_pass h e ys]; rfl
theorem run_ahead {rs : List Rule} {e k : Int} (he : 0 < e) (s : Str) (ys : List Int) :
    (runR (⟨"zzzzzzzz", ["none"], "w", true, s⟩ :: rs) e (k :: ys)).words = ("w" : Str) :: (tailR rs e (some k) s ys).words ∧ (runR (⟨"zzzzzzzz", ["none"], "w", true, s⟩ :: rs) e (k :: ys)).keeps = true :: (tailR rs e (some k) s ys).keeps ∧ (runR (⟨"zzzzzzzz", ["none"], "w", true, s⟩ :: rs) e (k :: ys)).kept = k :: (tailR rs e (some k) s ys).kept := by
  obtain ⟨h1, h2, h3⟩ := run_as_tail (⟨"zzzzzzzz", ["none"], "w", true, s⟩ :: rs) e (k :: ys)
  have hu : usedR (⟨"zzzzzzzz", ["none"], "w", true, s⟩ :: rs) "zzzzzzzz" "none" = (("w" : Str), true, s) := by
    unfold usedR
    rw [List.find?_cons]
    have : hitR "zzzzzzzz" "none" ⟨"zzzzzzzz", ["none"], "w", true, s⟩ = true := by unfold hitR; rw [decide_eq_true rfl]; rfl
    rw [this]
  have hs : tailR (⟨"zzzzzzzz", ["none"], "w", true, s⟩ :: rs) e (some k) s ys = tailR rs e (some k) s ys := by
    refine tail_some he (fun s' p hp => ?_) ys k s
    unfold usedR
    rw [List.find?_cons]
    have : hitR s' p ⟨"zzzzzzzz", ["none"], "w", true, s⟩ = false := by
      unfold hitR Rule.fits
      rw [Bool.and_eq_false_iff]; right
      have h0 : ∀ q ∈ PL, fitsG q "none" = false := by decide +kernel
      show (fitsG p "none" || false) = false
      rw [h0 p hp]; rfl
    rw [this]
  have ht : tailR (⟨"zzzzzzzz", ["none"], "w", true, s⟩ :: rs) e none (startR (⟨"zzzzzzzz", ["none"], "w", true, s⟩ :: rs)) (k :: ys) = addT (("w" : Str), true, s) k (tailR rs e (some k) s ys) := by
    rw [tail_cons]
    show addT (usedR _ "zzzzzzzz" "none") k (tailR _ e (nextO (usedR _ "zzzzzzzz" "none") k none) (usedR _ "zzzzzzzz" "none").2.2 ys) = _
    rw [hu]
    show addT _ k (tailR _ e (some k) s ys) = _
    rw [hs]
  rw [h1, h2, h3, ht]
  exact ⟨rfl, rfl, rfl⟩
end NL
local macro_rules | `(tactic| walk_at "hp") => `(tactic| first | assumption | exact L2.upd_same | (refine NL.upd_keep ?_ (by assumption); walk_at "hp") | (refine NL.upd_skip (by assumption) ?_; walk_at "hp") | (refine NL.But.at (by assumption) (by assumption) ?_; walk_at "hp"))
local macro_rules | `(tactic| walk_at "sq") => `(tactic| first | assumption | exact L2.SqL.of (by walk_at "hp") | exact L2.SqT.of (by walk_at "hp"))
local macro_rules | `(tactic| walk_at "at") => `(tactic| first | rfl | assumption)
local macro_rules | `(tactic| walk_at "ixN") => `(tactic| first | rfl | assumption)
local macro_rules | `(tactic| walk_at "pos") => `(tactic| first | assumption | (show (_ : Int) < _; omega) | decide)
local macro_rules | `(tactic| walk_at "len") => `(tactic| first | exact NL.sz1000 (by decide) | exact NL.sz100k (by decide) | exact NL.sz100k (by omega) | exact NL.sz100k (by simp))
local macro_rules | `(tactic| walk_at "mul") => `(tactic| first | (refine Or.inl ⟨?_, ?_⟩ <;> omega) | (refine Or.inr ⟨?_, ?_⟩ <;> omega))
local macro_rules | `(tactic| walk_at "pow") => `(tactic| first | exact ⟨by decide, by decide, by decide⟩ | exact ⟨by decide, by decide, by omega⟩)
local macro_rules | `(tactic| walk_at "div") => `(tactic| first | assumption | exact L2.wide_div (b := 100) (by omega) (by omega) (by decide) (by decide))
local macro_rules | `(tactic| walk_at "arith") => `(tactic| first | decide | omega)
local macro_rules | `(tactic| walk_at "tyx") => `(tactic| first | exact L2.TyX.base (L2.TyOf.int _) | exact L2.TyX.base (L2.TyOf.str _) | exact L2.TyX.base (L2.TyOf.bl _) | exact L2.TyX.base L2.TyOf.non | exact L2.TyX.base (L2.TyOf.lst (by walk_at "hp")) | exact L2.TyX.base (L2.TyOf.tup (by walk_at "hp")))
local macro_rules | `(tactic| walk_at "dlen") => `(tactic| (apply Nat.lt_of_le_of_lt; (repeat (first | exact NL.dl0 _ (by simp) | apply NL.dl1)); decide))
local macro_rules | `(tactic| walk_at "dval") => `(tactic| (simp only [L2.mergeK, List.foldl_cons, List.foldl_nil, L2.valV_put]; repeat (first | rw [if_pos True.intro] | rw [if_pos rfl] | rw [if_neg (by decide +kernel)])))
local macro_rules | `(tactic| walk_at "s1") => `(tactic| first | (with_reducible refine NL.seqS_sat ?_) | ((with_reducible apply NL.vF_sat); · rfl) | (with_reducible refine NL.nilS_sat ?_) | (with_reducible refine NL.setS_sat ?_) | ((with_reducible refine NL.setN_sat ?_ ?_); · simp) | ((with_reducible refine NL.mulS_sat ?_ ?_); · rfl) | (with_reducible refine NL.freS_sat (by simp) (by simp) ?_) | (with_reducible refine NL.retS_sat ?_) | (with_reducible refine NL.exprS_sat ?_) | (with_reducible refine NL.iteS_sat ?_) | (with_reducible refine NL.forS_sat ?_) | (with_reducible refine NL.cF_sat ?_) | (with_reducible refine NL.nilF_sat ?_) | (with_reducible refine NL.consF_sat ?_) | (with_reducible refine NL.binF_sat ?_) | (with_reducible refine NL.unF_sat ?_) | (with_reducible refine NL.argF_sat ?_) | (with_reducible refine NL.lstF_sat ?_) | (with_reducible refine NL.tupF_sat ?_) | (with_reducible refine NL.callF_sat ?_) | (with_reducible refine NL.callN_sat ?_) | (with_reducible refine NL.iteF_sat ?_) | (with_reducible refine NL.tstF_sat ?_) | (with_reducible refine NL.blT_sat ?_) | (with_reducible refine NL.andT_sat ?_) | (with_reducible refine NL.orT_sat ?_) | (with_reducible refine NL.notT_sat ?_) | (with_reducible refine NL.yesT_sat ?_) | (with_reducible refine NL.chF_sat ?_) | (with_reducible refine NL.noF_sat ?_) | (with_reducible refine NL.someF_sat ?_) | (with_reducible refine NL.slF_sat ?_) | (with_reducible refine NL.lcF_sat ?_) | (with_reducible refine NL.seqF_sat ?_) | (with_reducible refine NL.rng1F_sat ?_) | (with_reducible refine NL.rng2F_sat ?_) | (with_reducible refine NL.strF_sat ?_) | (with_reducible refine NL.zipF_sat ?_) | (with_reducible refine NL.zipMF_sat ?_) | (with_reducible refine NL.splitF_sat ?_) | (with_reducible refine NL.partF_sat ?_) | (with_reducible refine NL.callC_sat ?_) | (with_reducible refine NL.joinF_sat ?_) | (with_reducible refine NL.jn_cons ?_) | (with_reducible refine NL.jn_nil ?_) | (with_reducible refine NL.starF_sat ?_) | (with_reducible refine NL.lstSF_sat ?_) | (with_reducible refine NL.propF_sat ?_) | (with_reducible refine NL.methF_sat ?_) | (with_reducible refine NL.callL_sat ?_) | (with_reducible refine NL.enumKF_sat ?_) | (with_reducible refine NL.eqOF_sat ?_) | (with_reducible refine NL.lenOF_sat ?_) | (with_reducible refine NL.enumF_sat ?_) | (with_reducible refine NL.get2F_sat ?_) | (with_reducible refine NL.setCF_sat ?_) | (with_reducible refine NL.popS_sat ?_) | (with_reducible refine NL.dctCF_sat ?_) | (with_reducible refine NL.dgetF_sat ?_) | (with_reducible refine NL.idxOfF_sat ?_) | (with_reducible refine NL.lstRgF_sat ?_) | ((with_reducible apply NL.extS_sat); · rfl) | (with_reducible refine NL.asgS_sat ?_) | (with_reducible refine NL.parS_sat ?_) | (with_reducible refine NL.scF_sat ?_) | (with_reducible refine NL.andF_sat ?_) | (with_reducible refine NL.orF_sat ?_) | (with_reducible refine NL.brkS_sat ?_) | (with_reducible refine NL.contS_sat ?_) | ((with_reducible apply NL.idxOF_sat); · rfl) | ((with_reducible apply NL.appS_sat); · rfl) | ((with_reducible apply NL.insS_sat); · rfl) | ((with_reducible apply NL.putS_sat); · rfl) | (with_reducible refine NL.tabGF_sat ?_) | (with_reducible refine NL.mkRunF_sat ?_) | (with_reducible refine NL.callW_sat ?_) | (with_reducible refine NL.tup2F_sat ?_) | (with_reducible refine NL.noXS_sat ?_) | (with_reducible refine NL.dispF_sat ?_) | (with_reducible refine NL.dgo_cons ?_) | (with_reducible refine NL.dgo_nil ?_) | ((with_reducible apply NL.updS_sat); · rfl) | refine ⟨_, rfl, ?_⟩ | refine ⟨_, _, rfl, ?_⟩)
local macro_rules | `(tactic| walk_at "st") => `(tactic| (walk_at "s1"; repeat (walk_at "s1")))
local macro_rules | `(tactic| walk_at "s2") => `(tactic| first | (with_reducible refine NL.if_nt ?_) | (with_reducible refine NL.if_f ?_) | (with_reducible refine NL.if_nf ?_) | (with_reducible refine NL.if_t ?_) | walk_at "s1")
local macro_rules | `(tactic| walk_at "sx") => `(tactic| (walk_at "s2"; repeat (walk_at "s2")))
local macro_rules | `(tactic| walk_at "s3") => `(tactic| first | walk_at "s2" | (refine NL.ifT rfl ?_) | (refine NL.ifF rfl ?_))
local macro_rules | `(tactic| walk_at "sd") => `(tactic| (walk_at "s3"; repeat (walk_at "s3")))
local macro_rules | `(tactic| walk_at "e0") => `(tactic| dsimp only [List.map_cons, List.map_nil, List.cons_append, List.nil_append, Nat.reduceSub, List.replicate_succ, List.replicate_zero])
local macro_rules | `(tactic| walk_at "e1") => `(tactic| dsimp only [List.map, List.cons_append, List.nil_append, Nat.reduceSub, List.replicate])
namespace Law
open PySem L2 NL
noncomputable section
def b__law_pick : Sx := (retS (binF idxD (vF 1) (callF f__law_draw (consF (vF 0) (consF (argF lenD (consF (vF 1) nilF)) nilF)))))
def f__law_pick : List D → SrcT → Rs D := fnF 2 2 b__law_pick
def b__law_raised : Sx := (seqS (iteS (blT (binF (eqD false) (vF 0) (cF (.int 0))))
  (raiseS 0 (consF (vF 1) nilF))
  nilS)
  (seqS (iteS (blT (binF (eqD false) (vF 0) (cF (.int 1))))
  (raiseS 1 (consF (vF 1) nilF))
  nilS)
  (seqS (iteS (blT (binF (eqD false) (vF 0) (cF (.int 2))))
  (raiseS 2 (consF (vF 1) nilF))
  nilS)
  (seqS (iteS (blT (binF (eqD false) (vF 0) (cF (.int 3))))
  (raiseA 3 (consF (vF 1) nilF))
  nilS)
  (seqS (iteS (blT (binF (eqD false) (vF 0) (cF (.int 4))))
  (raiseS 4 (consF (vF 1) nilF))
  nilS)
  (seqS (iteS (blT (binF (eqD false) (vF 0) (cF (.int 5))))
  (raiseS 5 (consF (vF 1) nilF))
  nilS)
  (seqS (iteS (blT (binF (eqD false) (vF 0) (cF (.int 6))))
  (raiseS 6 (consF (vF 1) nilF))
  nilS)
  (seqS (iteS (blT (binF (eqD false) (vF 0) (cF (.int 7))))
  (raiseS 7 (consF (vF 1) nilF))
  nilS)
  (seqS (iteS (blT (binF (eqD false) (vF 0) (cF (.int 8))))
  (raiseA 8 (consF (vF 1) nilF))
  nilS)
  (seqS (iteS (blT (binF (eqD false) (vF 0) (cF (.int 9))))
  (raiseN 9)
  nilS)
  (raiseN 10)))))))))))
def f__law_raised : List D → SrcT → Rs D := fnF 2 2 b__law_raised
def b__law_fields : Sx := (seqS (setS 2 (lstF nilF))
  (seqS (tryS [0, 1, 2, 3, 4, 5, 6, 7, 8, 9, 10] (exprS (callW f__law_raised (consF (vF 0) (consF (vF 1) nilF)))) [(0, some 3, (fldLT 2 (.int 0))), (1, some 3, (fldLT 2 (.int 1))), (2, some 3, (fldLT 2 (.int 2))), (3, some 3, (fldLT 2 (.int 3))), (4, some 3, (fldLT 2 (.int 4))), (5, some 3, (fldLT 2 (.int 5))), (6, some 3, (fldLT 2 (.int 6))), (7, some 3, (fldLT 2 (.int 7))), (8, some 3, (fldLT 2 (.int 8))), (9, none, (fun _ => noXS (setS 2 (lstF (consF (cF (.int 9)) (consF (vF 1) nilF)))))), (10, none, (fun _ => noXS (setS 2 (lstF (consF (cF (.int 10)) (consF (vF 1) nilF))))))])
  (retS (vF 2))))
def f__law_fields : List D → SrcT → Rs D := fnF 2 4 b__law_fields
def b__law_caught : Sx := (seqS (setS 2 (lstF nilF))
  (seqS (tryI [0, 1, 2, 3, 4, 5, 6, 7, 8, 9, 10] (exprS (callW f__law_raised (consF (vF 0) (consF (vF 1) nilF)))) 3 2 ([some 0, some 1, some 2] ++ [some 3, some 4, some 5] ++ [some 6, some 7, some 8] ++ [some 9, some 10, none]))
  (retS (binF (eqD false) (vF 2) (binF addD (lcF [4] (rng1F (consF (cF (.int 11)) nilF)) (gN 4) yesT (binF (eqD false) (vF 4) (vF 0))) (lstF (consF (cF (.bl true)) nilF)))))))
def f__law_caught : List D → SrcT → Rs D := fnF 2 5 b__law_caught
def b_law : Sx := (seqS (setS 2 (lstF (consF (binF subD (callF f__law_draw (consF (vF 1) (consF (cF (.int 100)) nilF))) (cF (.int 50))) (consF (cF (.str "a b")) (consF (cF (.str "")) (consF (tupF (consF (cF (.int 1)) (consF (cF (.int 2)) nilF))) (consF (cF .non) (consF (cF (.bl true)) (consF (binF powD (cF (.int 10)) (cF (.int 40))) (consF (tupF nilF) nilF))))))))))
  (seqS (forS (rng1F (consF (cF (.int 11)) nilF)) (gN 3)
  (seqS (setS 4 (callF f__law_pick (consF (vF 1) (consF (vF 2) nilF))))
  (iteS (orT (blT (binF (eqD true) (callF f__law_fields (consF (vF 3) (consF (vF 4) nilF))) (lstF (consF (vF 3) (consF (vF 4) nilF))))) (notT (tstF (callF f__law_caught (consF (vF 3) (consF (vF 4) nilF))))))
  (retS (cF (.bl false)))
  nilS)))
  (seqS (setS 5 (lstF (consF (kefF (cF (.int 5))) (consF (kefF (cF (.str "x"))) (consF (kefF (cF (.int 1))) nilF)))))
  (seqS (setS 5 (binF addD (vF 5) (lstF (consF (kefA (cF (.int 2))) (consF (kefF (cF (.int 3))) (consF (kefF (cF (.int 4))) nilF))))))
  (seqS (setS 5 (binF addD (vF 5) (lstF (consF (kefF (cF (.int 6))) (consF (kefF (cF (.int 7))) (consF (kefA (cF (.int 8))) nilF))))))
  (retS (binF (eqD false) (vF 5) (lstF (consF (cF (.int 5)) (consF (cF (.str "x")) (consF (cF (.int 1)) (consF (cF (.int 2)) (consF (cF (.int 3)) (consF (cF (.int 4)) (consF (cF (.int 6)) (consF (cF (.int 7)) (consF (cF (.int 8)) nilF)))))))))))))))))
end
theorem pick_sat {P : D → SrcT → Prop} {S : SrcT} {ds : List D} (h0 : 0 < ds.length) (h1 : ds.length < 100000) (hc : S.c ≤ 990000) (h : ∀ d S', d ∈ ds → S'.c = S.c + 1 → P d S') : (f__law_pick [.src, .lst ds] S).sat P := by
  refine fnF_sat rfl ?_
  unfold b__law_pick
  walk_at "st"
  refine draw_sat (by omega) (by omega) hc fun r S' r0 r1 c1 => ?_
  obtain ⟨v, hv, hm⟩ := atI_ex r0 r1
  exact ⟨v, hv, h v S' hm c1⟩
/-! k35: each error with values of all sorts -/
def okV (d : D) : Prop := fmtOkD d = true ∧ fineN 40 d
theorem raised_at {d : D} (h : fmtOkD d = true) (S : SrcT) : ∀ c : Nat, c < 11 → f__law_raised [.int (c : Nat), d] S = .exc c (if c < 9 then some d else none) S
  | 0, _ => rfl
  | 1, _ => rfl
  | 2, _ => rfl
  | 3, _ => by
    show Rs.bind (Rs.bind (if fmtOkD d = true then Rs.exc 3 (some d) S else .bad) _) _ = _
    rw [if_pos h]; rfl
  | 4, _ => rfl
  | 5, _ => rfl
  | 6, _ => rfl
  | 7, _ => rfl
  | 8, _ => by
    show Rs.bind (Rs.bind (if fmtOkD d = true then Rs.exc 8 (some d) S else .bad) _) _ = _
    rw [if_pos h]; rfl
  | 9, _ => rfl
  | 10, _ => rfl
  | n + 11, h => by omega
theorem fields_at {d : D} (h : fmtOkD d = true) (S : SrcT) (c : Nat) (hc : c < 11) : f__law_fields [.int (c : Nat), d] S = .ok (.lst [.int (c : Nat), d]) S := by
  have hr := raised_at h S c hc
  unfold f__law_fields fnF b__law_fields
  rw [if_pos (show ([D.int (c : Nat), d] : List D).length = 2 from rfl)]
  have e : tryS [0, 1, 2, 3, 4, 5, 6, 7, 8, 9, 10] (exprS (callW f__law_raised (consF (vF 0) (consF (vF 1) nilF)))) [(0, some 3, (fldLT 2 (.int 0))), (1, some 3, (fldLT 2 (.int 1))), (2, some 3, (fldLT 2 (.int 2))), (3, some 3, (fldLT 2 (.int 3))), (4, some 3, (fldLT 2 (.int 4))), (5, some 3, (fldLT 2 (.int 5))), (6, some 3, (fldLT 2 (.int 6))), (7, some 3, (fldLT 2 (.int 7))), (8, some 3, (fldLT 2 (.int 8))), (9, none, (fun _ => noXS (setS 2 (lstF (consF (cF (.int 9)) (consF (vF 1) nilF)))))), (10, none, (fun _ => noXS (setS 2 (lstF (consF (cF (.int 10)) (consF (vF 1) nilF))))))]
      [some (.int (c : Nat)), some d, some (.lst []), none] S = .ok (.nx, [some (.int (c : Nat)), some d, some (.lst [.int (c : Nat), d]), none]) S := by
    unfold tryS
    have e1 : exprS (callW f__law_raised (consF (vF 0) (consF (vF 1) nilF))) [some (.int (c : Nat)), some d, some (.lst []), none] S = .exc c (if c < 9 then some d else none) S := by
      show Rs.bind (f__law_raised [.int (c : Nat), d] S) _ = _
      rw [hr]; rfl
    rw [e1]
    match c, hc with
    | 0, _ => rfl
    | 1, _ => rfl
    | 2, _ => rfl
    | 3, _ => rfl
    | 4, _ => rfl
    | 5, _ => rfl
    | 6, _ => rfl
    | 7, _ => rfl
    | 8, _ => rfl
    | 9, _ => rfl
    | 10, _ => rfl
    | n + 11, h => omega
  show Rs.bind (seqS _ _ [some (.int (c : Nat)), some d, some (.lst []), none] S) _ = _
  unfold seqS
  rw [e]
  rfl
theorem caught_at {d : D} (h : fmtOkD d = true) (S : SrcT) (c : Nat) (hc : c < 11) : f__law_caught [.int (c : Nat), d] S = .ok (.bl true) S := by
  have hr := raised_at h S c hc
  unfold f__law_caught fnF b__law_caught
  rw [if_pos (show ([D.int (c : Nat), d] : List D).length = 2 from rfl)]
  have e : tryI [0, 1, 2, 3, 4, 5, 6, 7, 8, 9, 10] (exprS (callW f__law_raised (consF (vF 0) (consF (vF 1) nilF)))) 3 2 ([some 0, some 1, some 2] ++ [some 3, some 4, some 5] ++ [some 6, some 7, some 8] ++ [some 9, some 10, none])
      [some (.int (c : Nat)), some d, some (.lst []), none, none] S = .ok (.nx, [some (.int (c : Nat)), some d, some (.lst ((([some 0, some 1, some 2] ++ [some 3, some 4, some 5] ++ [some 6, some 7, some 8] ++ [some 9, some 10, none]) : List (Option Nat)).map fun o => .bl (clsB c o))), none, none]) S := by
    unfold tryI
    have e1 : exprS (callW f__law_raised (consF (vF 0) (consF (vF 1) nilF))) [some (.int (c : Nat)), some d, some (.lst []), none, none] S = .exc c (if c < 9 then some d else none) S := by
      show Rs.bind (f__law_raised [.int (c : Nat), d] S) _ = _
      rw [hr]; rfl
    rw [e1]
    match c, hc with
    | 0, _ => rfl
    | 1, _ => rfl
    | 2, _ => rfl
    | 3, _ => rfl
    | 4, _ => rfl
    | 5, _ => rfl
    | 6, _ => rfl
    | 7, _ => rfl
    | 8, _ => rfl
    | 9, _ => rfl
    | 10, _ => rfl
    | n + 11, h => omega
  show Rs.bind (seqS _ _ [some (.int (c : Nat)), some d, some (.lst []), none, none] S) _ = _
  unfold seqS
  rw [e]
  match c, hc with
  | 0, _ => rfl
  | 1, _ => rfl
  | 2, _ => rfl
  | 3, _ => rfl
  | 4, _ => rfl
  | 5, _ => rfl
  | 6, _ => rfl
  | 7, _ => rfl
  | 8, _ => rfl
  | 9, _ => rfl
  | 10, _ => rfl
  | n + 11, h => omega
theorem fq_nil {α : Type} {P : α → Prop} : ∀ x ∈ ([] : List α), P x := fun _ h => nomatch h
theorem fq_cons {α : Type} {P : α → Prop} {a : α} {l : List α} (h : P a) (t : ∀ x ∈ l, P x) : ∀ x ∈ a :: l, P x := fun x hx => (List.mem_cons.mp hx).elim (fun e => e ▸ h) (t x)
def thingsL (r : Int) (big : D) : List D := [.int (r - 50), .str "a b", .str "", .tup [.int 1, .int 2], .non, .bl true, big, .tup []]
theorem big_ok : ∃ big : D, powD (.int 10) (.int 40) = some big ∧ fmtOkD big = true ∧ fineN 40 big := ⟨.int (10 ^ (40 : Int).toNat), if_pos (e := (none : Option D)) (show (0 ≤ (40 : Int) ∧ (40 : Int) ≤ 1000 ∧ -1000000000 ≤ (10 : Int) ∧ (10 : Int) ≤ 1000000000) by decide), by decide +kernel, fineI _⟩
theorem fmt_small : ∀ n : Fin 100, fmtOkD (.int ((n.val : Int) - 50)) = true := by decide +kernel
theorem things_ok {r : Int} {big : D} (h0 : 0 ≤ r) (h1 : r < 100) (hb : fmtOkD big = true ∧ fineN 40 big) : ∀ d ∈ thingsL r big, fmtOkD d = true ∧ fineN 40 d := by
  refine fq_cons ⟨?_, fineI _⟩ (fq_cons ⟨by decide +kernel, fineS (by decide +kernel)⟩ (fq_cons ⟨by decide +kernel, fineS (by decide +kernel)⟩ (fq_cons ⟨by decide +kernel, ?_⟩ (fq_cons ⟨rfl, fineO⟩ (fq_cons ⟨rfl, fineB _⟩ (fq_cons hb (fq_cons ⟨by decide +kernel, (fineTI []).mono (by decide)⟩ fq_nil)))))))
  · have := fmt_small ⟨r.toNat, by omega⟩
    rw [show ((r.toNat : Nat) : Int) - 50 = r - 50 by omega] at this
    exact this
  · exact (fineTI [1, 2]).mono (by decide)
theorem kefF_sat {F : Ex} {ρ : NL.Env} {S : SrcT} {P : D → SrcT → Prop} (h : (F ρ S).sat P) : (kefF F ρ S).sat P := by
  unfold kefF; rw [sat_bind]; exact h
theorem kefA_sat {F : Ex} {ρ : NL.Env} {S : SrcT} {P : D → SrcT → Prop} (h : (F ρ S).sat fun d S1 => fmtOkD d = true ∧ P d S1) : (kefA F ρ S).sat P := by
  unfold kefA; rw [sat_bind]
  refine h.mono fun d S1 ⟨h1, h2⟩ => ?_
  rw [if_pos h1]; exact h2
theorem law_pure : ∀ S : SrcT, S.c = 0 → (b_law (none :: some .src :: List.replicate 4 none) S).sat fun r _ => ∃ ρ', r = (.ret (.bl true), ρ') := by
  intro S hS
  unfold b_law
  walk_at "st"
  refine draw_sat (by omega) (by omega) (by omega) fun r S1 r0 r1 c1 => ?_
  obtain ⟨big, hbig, okb⟩ := big_ok
  refine cF_sat ⟨.int (r - 50), rfl, ?_⟩
  with_reducible refine consF_sat ?_
  with_reducible refine cF_sat ?_
  with_reducible refine consF_sat ?_
  with_reducible refine cF_sat ?_
  with_reducible refine consF_sat ?_
  with_reducible refine tupF_sat ?_
  with_reducible refine consF_sat ?_
  with_reducible refine cF_sat ?_
  with_reducible refine consF_sat ?_
  with_reducible refine cF_sat ?_
  with_reducible refine nilF_sat ?_
  with_reducible refine consF_sat ?_
  with_reducible refine cF_sat ?_
  with_reducible refine consF_sat ?_
  with_reducible refine cF_sat ?_
  with_reducible refine consF_sat ?_
  with_reducible refine binF_sat ?_
  with_reducible refine cF_sat ?_
  with_reducible refine cF_sat ?_
  refine ⟨big, hbig, ?_⟩
  with_reducible refine consF_sat ?_
  with_reducible refine tupF_sat ?_
  with_reducible refine nilF_sat ?_
  with_reducible refine nilF_sat ?_
  show Rs.sat (seqS _ _ [none, some .src, some (.lst (thingsL r big)), none, none, none] S1) _
  have hth := things_ok r0 r1 okb
  have hlen : (thingsL r big).length = 8 := rfl
  generalize hL : thingsL r big = L at hth hlen
  refine seqS_sat (forS_sat (rng1F_sat (consF_sat (cF_sat (nilF_sat ⟨11, rfl, by decide, ?_⟩)))))
  refine for_sat (fun i ρ S' => (∃ v3 v4, ρ = [none, some .src, some (.lst L), v3, v4, none]) ∧ S'.c ≤ 1 + i) ?_ ?_ ⟨⟨_, _, rfl⟩, by omega⟩
  · rintro i d ρ S' hd ⟨⟨v3, v4, rfl⟩, hc⟩
    obtain ⟨hi, ed⟩ := rngD_at hd
    obtain ⟨c, hc11, rfl⟩ : ∃ c : Nat, c < 11 ∧ d = .int (c : Nat) := ⟨i, hi, by rw [ed, Int.zero_add]⟩
    refine ⟨_, rfl, seqS_sat (setS_sat (callF_sat (consF_sat (vF_sat rfl (consF_sat (vF_sat rfl (nilF_sat ?_)))))))⟩
    refine pick_sat (by omega) (by omega) (by omega) fun x S2 hx c2 => ?_
    obtain ⟨ok1, ok2⟩ := hth x hx
    have fin : fineN 60 (.lst [.int (c : Nat), x]) := (fineL (n := 40) (fine_cons (fineI _) (fine_cons ok2 fine_nil))).mono (by decide)
    refine iteS_sat (orT_sat (blT_sat (binF_sat (callF_sat (consF_sat (vF_sat rfl (consF_sat (vF_sat rfl (nilF_sat ?_)))))))))
    rw [fields_at ok1 S2 c hc11]
    refine lstF_sat (consF_sat (vF_sat rfl (consF_sat (vF_sat rfl (nilF_sat ⟨_, eqD_same rfl fin, _, rfl, NL.ifF rfl ?_⟩)))))
    refine notT_sat (tstF_sat (callF_sat (consF_sat (vF_sat rfl (consF_sat (vF_sat rfl (nilF_sat ?_)))))))
    rw [caught_at ok1 S2 c hc11]
    refine ⟨_, rfl, NL.ifF rfl (nilS_sat ⟨⟨_, _, rfl⟩, by omega⟩)⟩
  rintro ρ S2 ⟨⟨v3, v4, rfl⟩, hc⟩
  refine seqS_sat (setS_sat (lstF_sat (consF_sat (kefF_sat (cF_sat (consF_sat (kefF_sat (cF_sat (consF_sat (kefF_sat (cF_sat (nilF_sat ?_))))))))))))
  refine seqS_sat (setS_sat (binF_sat (vF_sat rfl (lstF_sat (consF_sat (kefA_sat (cF_sat ⟨by decide +kernel, consF_sat (kefF_sat (cF_sat (consF_sat (kefF_sat (cF_sat (nilF_sat ⟨_, rfl, ?_⟩))))))⟩)))))))
  refine seqS_sat (setS_sat (binF_sat (vF_sat rfl (lstF_sat (consF_sat (kefF_sat (cF_sat (consF_sat (kefF_sat (cF_sat (consF_sat (kefA_sat (cF_sat ⟨by decide +kernel, nilF_sat ⟨_, rfl, ?_⟩⟩)))))))))))))
  refine retS_sat (binF_sat (vF_sat rfl (lstF_sat ?_)))
  walk_at "st"
  refine ⟨_, eqD_same rfl ((fineL (n := 0) (fq_cons (fineI _) (fq_cons (fineS (by decide +kernel)) (fq_cons (fineI _) (fq_cons (fineI _) (fq_cons (fineI _) (fq_cons (fineI _) (fq_cons (fineI _) (fq_cons (fineI _) (fq_cons (fineI _) fq_nil)))))))))).mono (by decide)), ?_⟩
  exact ⟨_, rfl⟩
def topS (i : Nat) : Stmt := PySem.Challenge.pw_nearloops_k35_errors_made.main.body.getD i (.Pass ⟨0, 0, 0, 0⟩)
abbrev s__law_source : Stmt := topS 14
abbrev N__law_source : List Str := ["_law_script", "_law_great", "_law_seed", "_law_cell"]
theorem sc__law_source : FnScope N__law_source ["_law_script"] (defScope s__law_source) := ⟨rfl, rfl, rfl, by decide +kernel, rfl, by decide +kernel, by decide +kernel⟩
abbrev s__law_draw : Stmt := topS 15
abbrev N__law_draw : List Str := ["_law_source_here", "_law_many", "_law_digit", "_law_mixed"]
theorem sc__law_draw : FnScope N__law_draw ["_law_source_here", "_law_many"] (defScope s__law_draw) := ⟨rfl, rfl, rfl, by decide +kernel, rfl, by decide +kernel, by decide +kernel⟩
abbrev s__law_pick : Stmt := topS 16
abbrev N__law_pick : List Str := ["_law_source_here", "_law_things"]
theorem sc__law_pick : FnScope N__law_pick ["_law_source_here", "_law_things"] (defScope s__law_pick) := ⟨rfl, rfl, rfl, by decide +kernel, rfl, by decide +kernel, by decide +kernel⟩
abbrev s__law_raised : Stmt := topS 17
abbrev N__law_raised : List Str := ["_law_how", "_law_a"]
theorem sc__law_raised : FnScope N__law_raised ["_law_how", "_law_a"] (defScope s__law_raised) := ⟨rfl, rfl, rfl, by decide +kernel, rfl, by decide +kernel, by decide +kernel⟩
abbrev s__law_fields : Stmt := topS 18
abbrev N__law_fields : List Str := ["_law_how", "_law_a", "_law_found", "e"]
theorem sc__law_fields : FnScope N__law_fields ["_law_how", "_law_a"] (defScope s__law_fields) := ⟨rfl, rfl, rfl, by decide +kernel, rfl, by decide +kernel, by decide +kernel⟩
abbrev s__law_caught : Stmt := topS 19
abbrev N__law_caught : List Str := ["_law_how", "_law_a", "_law_found", "e", "_law_k"]
theorem sc__law_caught : FnScope N__law_caught ["_law_how", "_law_a"] (defScope s__law_caught) := ⟨rfl, rfl, rfl, by decide +kernel, rfl, by decide +kernel, by decide +kernel⟩
abbrev s_law : Stmt := topS 20
abbrev N_law : List Str := ["_law_script", "_law_source_here", "_law_things", "_law_how", "_law_a", "_law_named"]
theorem sc_law : FnScope N_law ["_law_script"] (defScope s_law) := ⟨rfl, rfl, rfl, by decide +kernel, rfl, by decide +kernel, by decide +kernel⟩
abbrev s_BadNumber___init__ : Stmt := inClass (topS 2) 0
abbrev s_BadTolerance___init__ : Stmt := inClass (topS 3) 0
abbrev s_BadGroup___init__ : Stmt := inClass (topS 5) 0
abbrev s_BadLoop___init__ : Stmt := inClass (topS 6) 0
abbrev s_UnknownState___init__ : Stmt := inClass (topS 8) 0
abbrev s_BadAnswer___init__ : Stmt := inClass (topS 9) 0
abbrev s_BadJoint___init__ : Stmt := inClass (topS 10) 0
abbrev s_BadKind___init__ : Stmt := inClass (topS 12) 0
abbrev s_BadWatch___init__ : Stmt := inClass (topS 7) 0
abbrev s_BadRow___init__ : Stmt := inClass (topS 4) 0
abbrev s_BadTable___init__ : Stmt := inClass (topS 11) 0
/-- what the top has written: where each def stands, the names that are still built-in, the constants -/
structure Tx (P : Program) (w : World) (K : PySem.W.Frag) (mg : Str → Option Value) where
  a__law_source : Addr
  fd__law_source : FuncData
  F__law_source : Fun K "_law_source" "_law_source" s__law_source a__law_source fd__law_source
  b__law_source : Binds K fd__law_source ["_law_script"] []
  g__law_source : mg "_law_source" = some (.ref a__law_source)
  a__law_draw : Addr
  fd__law_draw : FuncData
  F__law_draw : Fun K "_law_draw" "_law_draw" s__law_draw a__law_draw fd__law_draw
  b__law_draw : Binds K fd__law_draw ["_law_source_here", "_law_many"] []
  g__law_draw : mg "_law_draw" = some (.ref a__law_draw)
  a__law_pick : Addr
  fd__law_pick : FuncData
  F__law_pick : Fun K "_law_pick" "_law_pick" s__law_pick a__law_pick fd__law_pick
  b__law_pick : Binds K fd__law_pick ["_law_source_here", "_law_things"] []
  g__law_pick : mg "_law_pick" = some (.ref a__law_pick)
  a__law_raised : Addr
  fd__law_raised : FuncData
  F__law_raised : Fun K "_law_raised" "_law_raised" s__law_raised a__law_raised fd__law_raised
  b__law_raised : Binds K fd__law_raised ["_law_how", "_law_a"] []
  g__law_raised : mg "_law_raised" = some (.ref a__law_raised)
  a__law_fields : Addr
  fd__law_fields : FuncData
  F__law_fields : Fun K "_law_fields" "_law_fields" s__law_fields a__law_fields fd__law_fields
  b__law_fields : Binds K fd__law_fields ["_law_how", "_law_a"] []
  g__law_fields : mg "_law_fields" = some (.ref a__law_fields)
  a__law_caught : Addr
  fd__law_caught : FuncData
  F__law_caught : Fun K "_law_caught" "_law_caught" s__law_caught a__law_caught fd__law_caught
  b__law_caught : Binds K fd__law_caught ["_law_how", "_law_a"] []
  g__law_caught : mg "_law_caught" = some (.ref a__law_caught)
  a_law : Addr
  fd_law : FuncData
  F_law : Fun K "law" "law" s_law a_law fd_law
  b_law : Binds K fd_law ["_law_script"] []
  g_law : mg "law" = some (.ref a_law)
  m_len : mg "len" = none
  m_int : mg "int" = none
  m_range : mg "range" = none
  m_isinstance : mg "isinstance" = none
  m_super : mg "super" = none
  m_ValueError : mg "ValueError" = none
  a_BadNumber : Addr
  g_BadNumber : mg "BadNumber" = some (.ref a_BadNumber)
  ei_BadNumber : Addr
  fe_BadNumber : FuncData
  x_BadNumber : NL.ErrI P K a_BadNumber ei_BadNumber "BadNumber.__init__" s_BadNumber___init__ fe_BadNumber
  ii_BadNumber : PySem.W.findIn K (.ref a_BadNumber) "__init__" = some (some (.ref ei_BadNumber))
  ti_BadNumber : PySem.W.typeIn K (.ref ei_BadNumber) = some (.type "function")
  be_BadNumber : Binds K fe_BadNumber ["self", "number"] []
  xf_BadNumber : XfC K a_BadNumber
  nf_BadNumber : PySem.W.findIn K (.ref a_BadNumber) "number" = some none
  a_BadTolerance : Addr
  g_BadTolerance : mg "BadTolerance" = some (.ref a_BadTolerance)
  ei_BadTolerance : Addr
  fe_BadTolerance : FuncData
  x_BadTolerance : NL.ErrI P K a_BadTolerance ei_BadTolerance "BadTolerance.__init__" s_BadTolerance___init__ fe_BadTolerance
  ii_BadTolerance : PySem.W.findIn K (.ref a_BadTolerance) "__init__" = some (some (.ref ei_BadTolerance))
  ti_BadTolerance : PySem.W.typeIn K (.ref ei_BadTolerance) = some (.type "function")
  be_BadTolerance : Binds K fe_BadTolerance ["self", "tolerance"] []
  xf_BadTolerance : XfC K a_BadTolerance
  nf_BadTolerance : PySem.W.findIn K (.ref a_BadTolerance) "tolerance" = some none
  a_BadGroup : Addr
  g_BadGroup : mg "BadGroup" = some (.ref a_BadGroup)
  ei_BadGroup : Addr
  fe_BadGroup : FuncData
  x_BadGroup : NL.ErrI P K a_BadGroup ei_BadGroup "BadGroup.__init__" s_BadGroup___init__ fe_BadGroup
  ii_BadGroup : PySem.W.findIn K (.ref a_BadGroup) "__init__" = some (some (.ref ei_BadGroup))
  ti_BadGroup : PySem.W.typeIn K (.ref ei_BadGroup) = some (.type "function")
  be_BadGroup : Binds K fe_BadGroup ["self", "group"] []
  xf_BadGroup : XfC K a_BadGroup
  nf_BadGroup : PySem.W.findIn K (.ref a_BadGroup) "group" = some none
  a_BadLoop : Addr
  g_BadLoop : mg "BadLoop" = some (.ref a_BadLoop)
  ei_BadLoop : Addr
  fe_BadLoop : FuncData
  x_BadLoop : NL.ErrI P K a_BadLoop ei_BadLoop "BadLoop.__init__" s_BadLoop___init__ fe_BadLoop
  ii_BadLoop : PySem.W.findIn K (.ref a_BadLoop) "__init__" = some (some (.ref ei_BadLoop))
  ti_BadLoop : PySem.W.typeIn K (.ref ei_BadLoop) = some (.type "function")
  be_BadLoop : Binds K fe_BadLoop ["self", "line"] []
  xf_BadLoop : XfC K a_BadLoop
  nf_BadLoop : PySem.W.findIn K (.ref a_BadLoop) "line" = some none
  a_UnknownState : Addr
  g_UnknownState : mg "UnknownState" = some (.ref a_UnknownState)
  ei_UnknownState : Addr
  fe_UnknownState : FuncData
  x_UnknownState : NL.ErrI P K a_UnknownState ei_UnknownState "UnknownState.__init__" s_UnknownState___init__ fe_UnknownState
  ii_UnknownState : PySem.W.findIn K (.ref a_UnknownState) "__init__" = some (some (.ref ei_UnknownState))
  ti_UnknownState : PySem.W.typeIn K (.ref ei_UnknownState) = some (.type "function")
  be_UnknownState : Binds K fe_UnknownState ["self", "state"] []
  xf_UnknownState : XfC K a_UnknownState
  nf_UnknownState : PySem.W.findIn K (.ref a_UnknownState) "state" = some none
  a_BadAnswer : Addr
  g_BadAnswer : mg "BadAnswer" = some (.ref a_BadAnswer)
  ei_BadAnswer : Addr
  fe_BadAnswer : FuncData
  x_BadAnswer : NL.ErrI P K a_BadAnswer ei_BadAnswer "BadAnswer.__init__" s_BadAnswer___init__ fe_BadAnswer
  ii_BadAnswer : PySem.W.findIn K (.ref a_BadAnswer) "__init__" = some (some (.ref ei_BadAnswer))
  ti_BadAnswer : PySem.W.typeIn K (.ref ei_BadAnswer) = some (.type "function")
  be_BadAnswer : Binds K fe_BadAnswer ["self", "answer"] []
  xf_BadAnswer : XfC K a_BadAnswer
  nf_BadAnswer : PySem.W.findIn K (.ref a_BadAnswer) "answer" = some none
  a_BadJoint : Addr
  g_BadJoint : mg "BadJoint" = some (.ref a_BadJoint)
  ei_BadJoint : Addr
  fe_BadJoint : FuncData
  x_BadJoint : NL.ErrI P K a_BadJoint ei_BadJoint "BadJoint.__init__" s_BadJoint___init__ fe_BadJoint
  ii_BadJoint : PySem.W.findIn K (.ref a_BadJoint) "__init__" = some (some (.ref ei_BadJoint))
  ti_BadJoint : PySem.W.typeIn K (.ref ei_BadJoint) = some (.type "function")
  be_BadJoint : Binds K fe_BadJoint ["self", "state"] []
  xf_BadJoint : XfC K a_BadJoint
  nf_BadJoint : PySem.W.findIn K (.ref a_BadJoint) "state" = some none
  a_BadKind : Addr
  g_BadKind : mg "BadKind" = some (.ref a_BadKind)
  ei_BadKind : Addr
  fe_BadKind : FuncData
  x_BadKind : NL.ErrI P K a_BadKind ei_BadKind "BadKind.__init__" s_BadKind___init__ fe_BadKind
  ii_BadKind : PySem.W.findIn K (.ref a_BadKind) "__init__" = some (some (.ref ei_BadKind))
  ti_BadKind : PySem.W.typeIn K (.ref ei_BadKind) = some (.type "function")
  be_BadKind : Binds K fe_BadKind ["self", "by"] []
  xf_BadKind : XfC K a_BadKind
  nf_BadKind : PySem.W.findIn K (.ref a_BadKind) "by" = some none
  a_BadWatch : Addr
  g_BadWatch : mg "BadWatch" = some (.ref a_BadWatch)
  ei_BadWatch : Addr
  fe_BadWatch : FuncData
  x_BadWatch : NL.ErrI P K a_BadWatch ei_BadWatch "BadWatch.__init__" s_BadWatch___init__ fe_BadWatch
  ii_BadWatch : PySem.W.findIn K (.ref a_BadWatch) "__init__" = some (some (.ref ei_BadWatch))
  ti_BadWatch : PySem.W.typeIn K (.ref ei_BadWatch) = some (.type "function")
  be_BadWatch : Binds K fe_BadWatch ["self", "line"] []
  xf_BadWatch : XfC K a_BadWatch
  nf_BadWatch : PySem.W.findIn K (.ref a_BadWatch) "line" = some none
  a_BadRow : Addr
  g_BadRow : mg "BadRow" = some (.ref a_BadRow)
  ei_BadRow : Addr
  fe_BadRow : FuncData
  x_BadRow : NL.ErrI P K a_BadRow ei_BadRow "BadRow.__init__" s_BadRow___init__ fe_BadRow
  ii_BadRow : PySem.W.findIn K (.ref a_BadRow) "__init__" = some (some (.ref ei_BadRow))
  ti_BadRow : PySem.W.typeIn K (.ref ei_BadRow) = some (.type "function")
  be_BadRow : Binds K fe_BadRow ["self"] []
  xf_BadRow : XfC K a_BadRow
  a_BadTable : Addr
  g_BadTable : mg "BadTable" = some (.ref a_BadTable)
  ei_BadTable : Addr
  fe_BadTable : FuncData
  x_BadTable : NL.ErrI P K a_BadTable ei_BadTable "BadTable.__init__" s_BadTable___init__ fe_BadTable
  ii_BadTable : PySem.W.findIn K (.ref a_BadTable) "__init__" = some (some (.ref ei_BadTable))
  ti_BadTable : PySem.W.typeIn K (.ref ei_BadTable) = some (.type "function")
  be_BadTable : Binds K fe_BadTable ["self"] []
  xf_BadTable : XfC K a_BadTable
  a_NearError : Addr
  g_NearError : mg "NearError" = some (.ref a_NearError)
  ex_BadNumber : ExcC K a_BadNumber
  xn_BadNumber : PySem.W.exmOne K (.ref a_BadNumber) (.ref a_NearError) = some true
  kv_BadNumber : PySem.W.kitOne K (.ref a_BadNumber) (.type "ValueError") = some true
  bk_BadNumber : ∀ (s : Shared) (u0 u1 : Value), BindsTo s fe_BadNumber ⟨[u0], [(("number" : Str), u1)]⟩ [(("self" : Str), u0), (("number" : Str), u1)]
  kt_BadNumber_BadNumber : PySem.W.kitOne K (.ref a_BadNumber) (.ref a_BadNumber) = some true
  kt_BadNumber_BadTolerance : PySem.W.kitOne K (.ref a_BadNumber) (.ref a_BadTolerance) = some false
  kt_BadNumber_BadGroup : PySem.W.kitOne K (.ref a_BadNumber) (.ref a_BadGroup) = some false
  kt_BadNumber_BadLoop : PySem.W.kitOne K (.ref a_BadNumber) (.ref a_BadLoop) = some false
  kt_BadNumber_UnknownState : PySem.W.kitOne K (.ref a_BadNumber) (.ref a_UnknownState) = some false
  kt_BadNumber_BadAnswer : PySem.W.kitOne K (.ref a_BadNumber) (.ref a_BadAnswer) = some false
  kt_BadNumber_BadJoint : PySem.W.kitOne K (.ref a_BadNumber) (.ref a_BadJoint) = some false
  kt_BadNumber_BadKind : PySem.W.kitOne K (.ref a_BadNumber) (.ref a_BadKind) = some false
  kt_BadNumber_BadWatch : PySem.W.kitOne K (.ref a_BadNumber) (.ref a_BadWatch) = some false
  kt_BadNumber_BadRow : PySem.W.kitOne K (.ref a_BadNumber) (.ref a_BadRow) = some false
  kt_BadNumber_BadTable : PySem.W.kitOne K (.ref a_BadNumber) (.ref a_BadTable) = some false
  ex_BadTolerance : ExcC K a_BadTolerance
  xn_BadTolerance : PySem.W.exmOne K (.ref a_BadTolerance) (.ref a_NearError) = some true
  kv_BadTolerance : PySem.W.kitOne K (.ref a_BadTolerance) (.type "ValueError") = some true
  bk_BadTolerance : ∀ (s : Shared) (u0 u1 : Value), BindsTo s fe_BadTolerance ⟨[u0], [(("tolerance" : Str), u1)]⟩ [(("self" : Str), u0), (("tolerance" : Str), u1)]
  kt_BadTolerance_BadNumber : PySem.W.kitOne K (.ref a_BadTolerance) (.ref a_BadNumber) = some false
  kt_BadTolerance_BadTolerance : PySem.W.kitOne K (.ref a_BadTolerance) (.ref a_BadTolerance) = some true
  kt_BadTolerance_BadGroup : PySem.W.kitOne K (.ref a_BadTolerance) (.ref a_BadGroup) = some false
  kt_BadTolerance_BadLoop : PySem.W.kitOne K (.ref a_BadTolerance) (.ref a_BadLoop) = some false
  kt_BadTolerance_UnknownState : PySem.W.kitOne K (.ref a_BadTolerance) (.ref a_UnknownState) = some false
  kt_BadTolerance_BadAnswer : PySem.W.kitOne K (.ref a_BadTolerance) (.ref a_BadAnswer) = some false
  kt_BadTolerance_BadJoint : PySem.W.kitOne K (.ref a_BadTolerance) (.ref a_BadJoint) = some false
  kt_BadTolerance_BadKind : PySem.W.kitOne K (.ref a_BadTolerance) (.ref a_BadKind) = some false
  kt_BadTolerance_BadWatch : PySem.W.kitOne K (.ref a_BadTolerance) (.ref a_BadWatch) = some false
  kt_BadTolerance_BadRow : PySem.W.kitOne K (.ref a_BadTolerance) (.ref a_BadRow) = some false
  kt_BadTolerance_BadTable : PySem.W.kitOne K (.ref a_BadTolerance) (.ref a_BadTable) = some false
  ex_BadGroup : ExcC K a_BadGroup
  xn_BadGroup : PySem.W.exmOne K (.ref a_BadGroup) (.ref a_NearError) = some true
  kv_BadGroup : PySem.W.kitOne K (.ref a_BadGroup) (.type "ValueError") = some true
  bk_BadGroup : ∀ (s : Shared) (u0 u1 : Value), BindsTo s fe_BadGroup ⟨[u0], [(("group" : Str), u1)]⟩ [(("self" : Str), u0), (("group" : Str), u1)]
  kt_BadGroup_BadNumber : PySem.W.kitOne K (.ref a_BadGroup) (.ref a_BadNumber) = some false
  kt_BadGroup_BadTolerance : PySem.W.kitOne K (.ref a_BadGroup) (.ref a_BadTolerance) = some false
  kt_BadGroup_BadGroup : PySem.W.kitOne K (.ref a_BadGroup) (.ref a_BadGroup) = some true
  kt_BadGroup_BadLoop : PySem.W.kitOne K (.ref a_BadGroup) (.ref a_BadLoop) = some false
  kt_BadGroup_UnknownState : PySem.W.kitOne K (.ref a_BadGroup) (.ref a_UnknownState) = some false
  kt_BadGroup_BadAnswer : PySem.W.kitOne K (.ref a_BadGroup) (.ref a_BadAnswer) = some false
  kt_BadGroup_BadJoint : PySem.W.kitOne K (.ref a_BadGroup) (.ref a_BadJoint) = some false
  kt_BadGroup_BadKind : PySem.W.kitOne K (.ref a_BadGroup) (.ref a_BadKind) = some false
  kt_BadGroup_BadWatch : PySem.W.kitOne K (.ref a_BadGroup) (.ref a_BadWatch) = some false
  kt_BadGroup_BadRow : PySem.W.kitOne K (.ref a_BadGroup) (.ref a_BadRow) = some false
  kt_BadGroup_BadTable : PySem.W.kitOne K (.ref a_BadGroup) (.ref a_BadTable) = some false
  ex_BadLoop : ExcC K a_BadLoop
  xn_BadLoop : PySem.W.exmOne K (.ref a_BadLoop) (.ref a_NearError) = some true
  kv_BadLoop : PySem.W.kitOne K (.ref a_BadLoop) (.type "ValueError") = some true
  bk_BadLoop : ∀ (s : Shared) (u0 u1 : Value), BindsTo s fe_BadLoop ⟨[u0], [(("line" : Str), u1)]⟩ [(("self" : Str), u0), (("line" : Str), u1)]
  kt_BadLoop_BadNumber : PySem.W.kitOne K (.ref a_BadLoop) (.ref a_BadNumber) = some false
  kt_BadLoop_BadTolerance : PySem.W.kitOne K (.ref a_BadLoop) (.ref a_BadTolerance) = some false
  kt_BadLoop_BadGroup : PySem.W.kitOne K (.ref a_BadLoop) (.ref a_BadGroup) = some false
  kt_BadLoop_BadLoop : PySem.W.kitOne K (.ref a_BadLoop) (.ref a_BadLoop) = some true
  kt_BadLoop_UnknownState : PySem.W.kitOne K (.ref a_BadLoop) (.ref a_UnknownState) = some false
  kt_BadLoop_BadAnswer : PySem.W.kitOne K (.ref a_BadLoop) (.ref a_BadAnswer) = some false
  kt_BadLoop_BadJoint : PySem.W.kitOne K (.ref a_BadLoop) (.ref a_BadJoint) = some false
  kt_BadLoop_BadKind : PySem.W.kitOne K (.ref a_BadLoop) (.ref a_BadKind) = some false
  kt_BadLoop_BadWatch : PySem.W.kitOne K (.ref a_BadLoop) (.ref a_BadWatch) = some false
  kt_BadLoop_BadRow : PySem.W.kitOne K (.ref a_BadLoop) (.ref a_BadRow) = some false
  kt_BadLoop_BadTable : PySem.W.kitOne K (.ref a_BadLoop) (.ref a_BadTable) = some false
  ex_UnknownState : ExcC K a_UnknownState
  xn_UnknownState : PySem.W.exmOne K (.ref a_UnknownState) (.ref a_NearError) = some true
  kv_UnknownState : PySem.W.kitOne K (.ref a_UnknownState) (.type "ValueError") = some true
  bk_UnknownState : ∀ (s : Shared) (u0 u1 : Value), BindsTo s fe_UnknownState ⟨[u0], [(("state" : Str), u1)]⟩ [(("self" : Str), u0), (("state" : Str), u1)]
  kt_UnknownState_BadNumber : PySem.W.kitOne K (.ref a_UnknownState) (.ref a_BadNumber) = some false
  kt_UnknownState_BadTolerance : PySem.W.kitOne K (.ref a_UnknownState) (.ref a_BadTolerance) = some false
  kt_UnknownState_BadGroup : PySem.W.kitOne K (.ref a_UnknownState) (.ref a_BadGroup) = some false
  kt_UnknownState_BadLoop : PySem.W.kitOne K (.ref a_UnknownState) (.ref a_BadLoop) = some false
  kt_UnknownState_UnknownState : PySem.W.kitOne K (.ref a_UnknownState) (.ref a_UnknownState) = some true
  kt_UnknownState_BadAnswer : PySem.W.kitOne K (.ref a_UnknownState) (.ref a_BadAnswer) = some false
  kt_UnknownState_BadJoint : PySem.W.kitOne K (.ref a_UnknownState) (.ref a_BadJoint) = some false
  kt_UnknownState_BadKind : PySem.W.kitOne K (.ref a_UnknownState) (.ref a_BadKind) = some false
  kt_UnknownState_BadWatch : PySem.W.kitOne K (.ref a_UnknownState) (.ref a_BadWatch) = some false
  kt_UnknownState_BadRow : PySem.W.kitOne K (.ref a_UnknownState) (.ref a_BadRow) = some false
  kt_UnknownState_BadTable : PySem.W.kitOne K (.ref a_UnknownState) (.ref a_BadTable) = some false
  ex_BadAnswer : ExcC K a_BadAnswer
  xn_BadAnswer : PySem.W.exmOne K (.ref a_BadAnswer) (.ref a_NearError) = some true
  kv_BadAnswer : PySem.W.kitOne K (.ref a_BadAnswer) (.type "ValueError") = some true
  bk_BadAnswer : ∀ (s : Shared) (u0 u1 : Value), BindsTo s fe_BadAnswer ⟨[u0], [(("answer" : Str), u1)]⟩ [(("self" : Str), u0), (("answer" : Str), u1)]
  kt_BadAnswer_BadNumber : PySem.W.kitOne K (.ref a_BadAnswer) (.ref a_BadNumber) = some false
  kt_BadAnswer_BadTolerance : PySem.W.kitOne K (.ref a_BadAnswer) (.ref a_BadTolerance) = some false
  kt_BadAnswer_BadGroup : PySem.W.kitOne K (.ref a_BadAnswer) (.ref a_BadGroup) = some false
  kt_BadAnswer_BadLoop : PySem.W.kitOne K (.ref a_BadAnswer) (.ref a_BadLoop) = some false
  kt_BadAnswer_UnknownState : PySem.W.kitOne K (.ref a_BadAnswer) (.ref a_UnknownState) = some false
  kt_BadAnswer_BadAnswer : PySem.W.kitOne K (.ref a_BadAnswer) (.ref a_BadAnswer) = some true
  kt_BadAnswer_BadJoint : PySem.W.kitOne K (.ref a_BadAnswer) (.ref a_BadJoint) = some false
  kt_BadAnswer_BadKind : PySem.W.kitOne K (.ref a_BadAnswer) (.ref a_BadKind) = some false
  kt_BadAnswer_BadWatch : PySem.W.kitOne K (.ref a_BadAnswer) (.ref a_BadWatch) = some false
  kt_BadAnswer_BadRow : PySem.W.kitOne K (.ref a_BadAnswer) (.ref a_BadRow) = some false
  kt_BadAnswer_BadTable : PySem.W.kitOne K (.ref a_BadAnswer) (.ref a_BadTable) = some false
  ex_BadJoint : ExcC K a_BadJoint
  xn_BadJoint : PySem.W.exmOne K (.ref a_BadJoint) (.ref a_NearError) = some true
  kv_BadJoint : PySem.W.kitOne K (.ref a_BadJoint) (.type "ValueError") = some true
  bk_BadJoint : ∀ (s : Shared) (u0 u1 : Value), BindsTo s fe_BadJoint ⟨[u0], [(("state" : Str), u1)]⟩ [(("self" : Str), u0), (("state" : Str), u1)]
  kt_BadJoint_BadNumber : PySem.W.kitOne K (.ref a_BadJoint) (.ref a_BadNumber) = some false
  kt_BadJoint_BadTolerance : PySem.W.kitOne K (.ref a_BadJoint) (.ref a_BadTolerance) = some false
  kt_BadJoint_BadGroup : PySem.W.kitOne K (.ref a_BadJoint) (.ref a_BadGroup) = some false
  kt_BadJoint_BadLoop : PySem.W.kitOne K (.ref a_BadJoint) (.ref a_BadLoop) = some false
  kt_BadJoint_UnknownState : PySem.W.kitOne K (.ref a_BadJoint) (.ref a_UnknownState) = some false
  kt_BadJoint_BadAnswer : PySem.W.kitOne K (.ref a_BadJoint) (.ref a_BadAnswer) = some false
  kt_BadJoint_BadJoint : PySem.W.kitOne K (.ref a_BadJoint) (.ref a_BadJoint) = some true
  kt_BadJoint_BadKind : PySem.W.kitOne K (.ref a_BadJoint) (.ref a_BadKind) = some false
  kt_BadJoint_BadWatch : PySem.W.kitOne K (.ref a_BadJoint) (.ref a_BadWatch) = some false
  kt_BadJoint_BadRow : PySem.W.kitOne K (.ref a_BadJoint) (.ref a_BadRow) = some false
  kt_BadJoint_BadTable : PySem.W.kitOne K (.ref a_BadJoint) (.ref a_BadTable) = some false
  ex_BadKind : ExcC K a_BadKind
  xn_BadKind : PySem.W.exmOne K (.ref a_BadKind) (.ref a_NearError) = some true
  kv_BadKind : PySem.W.kitOne K (.ref a_BadKind) (.type "ValueError") = some true
  bk_BadKind : ∀ (s : Shared) (u0 u1 : Value), BindsTo s fe_BadKind ⟨[u0], [(("by" : Str), u1)]⟩ [(("self" : Str), u0), (("by" : Str), u1)]
  kt_BadKind_BadNumber : PySem.W.kitOne K (.ref a_BadKind) (.ref a_BadNumber) = some false
  kt_BadKind_BadTolerance : PySem.W.kitOne K (.ref a_BadKind) (.ref a_BadTolerance) = some false
  kt_BadKind_BadGroup : PySem.W.kitOne K (.ref a_BadKind) (.ref a_BadGroup) = some false
  kt_BadKind_BadLoop : PySem.W.kitOne K (.ref a_BadKind) (.ref a_BadLoop) = some false
  kt_BadKind_UnknownState : PySem.W.kitOne K (.ref a_BadKind) (.ref a_UnknownState) = some false
  kt_BadKind_BadAnswer : PySem.W.kitOne K (.ref a_BadKind) (.ref a_BadAnswer) = some false
  kt_BadKind_BadJoint : PySem.W.kitOne K (.ref a_BadKind) (.ref a_BadJoint) = some false
  kt_BadKind_BadKind : PySem.W.kitOne K (.ref a_BadKind) (.ref a_BadKind) = some true
  kt_BadKind_BadWatch : PySem.W.kitOne K (.ref a_BadKind) (.ref a_BadWatch) = some false
  kt_BadKind_BadRow : PySem.W.kitOne K (.ref a_BadKind) (.ref a_BadRow) = some false
  kt_BadKind_BadTable : PySem.W.kitOne K (.ref a_BadKind) (.ref a_BadTable) = some false
  ex_BadWatch : ExcC K a_BadWatch
  xn_BadWatch : PySem.W.exmOne K (.ref a_BadWatch) (.ref a_NearError) = some true
  kv_BadWatch : PySem.W.kitOne K (.ref a_BadWatch) (.type "ValueError") = some true
  bk_BadWatch : ∀ (s : Shared) (u0 u1 : Value), BindsTo s fe_BadWatch ⟨[u0], [(("line" : Str), u1)]⟩ [(("self" : Str), u0), (("line" : Str), u1)]
  kt_BadWatch_BadNumber : PySem.W.kitOne K (.ref a_BadWatch) (.ref a_BadNumber) = some false
  kt_BadWatch_BadTolerance : PySem.W.kitOne K (.ref a_BadWatch) (.ref a_BadTolerance) = some false
  kt_BadWatch_BadGroup : PySem.W.kitOne K (.ref a_BadWatch) (.ref a_BadGroup) = some false
  kt_BadWatch_BadLoop : PySem.W.kitOne K (.ref a_BadWatch) (.ref a_BadLoop) = some false
  kt_BadWatch_UnknownState : PySem.W.kitOne K (.ref a_BadWatch) (.ref a_UnknownState) = some false
  kt_BadWatch_BadAnswer : PySem.W.kitOne K (.ref a_BadWatch) (.ref a_BadAnswer) = some false
  kt_BadWatch_BadJoint : PySem.W.kitOne K (.ref a_BadWatch) (.ref a_BadJoint) = some false
  kt_BadWatch_BadKind : PySem.W.kitOne K (.ref a_BadWatch) (.ref a_BadKind) = some false
  kt_BadWatch_BadWatch : PySem.W.kitOne K (.ref a_BadWatch) (.ref a_BadWatch) = some true
  kt_BadWatch_BadRow : PySem.W.kitOne K (.ref a_BadWatch) (.ref a_BadRow) = some false
  kt_BadWatch_BadTable : PySem.W.kitOne K (.ref a_BadWatch) (.ref a_BadTable) = some false
  ex_BadRow : ExcC K a_BadRow
  xn_BadRow : PySem.W.exmOne K (.ref a_BadRow) (.ref a_NearError) = some true
  kv_BadRow : PySem.W.kitOne K (.ref a_BadRow) (.type "ValueError") = some true
  kt_BadRow_BadNumber : PySem.W.kitOne K (.ref a_BadRow) (.ref a_BadNumber) = some false
  kt_BadRow_BadTolerance : PySem.W.kitOne K (.ref a_BadRow) (.ref a_BadTolerance) = some false
  kt_BadRow_BadGroup : PySem.W.kitOne K (.ref a_BadRow) (.ref a_BadGroup) = some false
  kt_BadRow_BadLoop : PySem.W.kitOne K (.ref a_BadRow) (.ref a_BadLoop) = some false
  kt_BadRow_UnknownState : PySem.W.kitOne K (.ref a_BadRow) (.ref a_UnknownState) = some false
  kt_BadRow_BadAnswer : PySem.W.kitOne K (.ref a_BadRow) (.ref a_BadAnswer) = some false
  kt_BadRow_BadJoint : PySem.W.kitOne K (.ref a_BadRow) (.ref a_BadJoint) = some false
  kt_BadRow_BadKind : PySem.W.kitOne K (.ref a_BadRow) (.ref a_BadKind) = some false
  kt_BadRow_BadWatch : PySem.W.kitOne K (.ref a_BadRow) (.ref a_BadWatch) = some false
  kt_BadRow_BadRow : PySem.W.kitOne K (.ref a_BadRow) (.ref a_BadRow) = some true
  kt_BadRow_BadTable : PySem.W.kitOne K (.ref a_BadRow) (.ref a_BadTable) = some false
  ex_BadTable : ExcC K a_BadTable
  xn_BadTable : PySem.W.exmOne K (.ref a_BadTable) (.ref a_NearError) = some true
  kv_BadTable : PySem.W.kitOne K (.ref a_BadTable) (.type "ValueError") = some true
  kt_BadTable_BadNumber : PySem.W.kitOne K (.ref a_BadTable) (.ref a_BadNumber) = some false
  kt_BadTable_BadTolerance : PySem.W.kitOne K (.ref a_BadTable) (.ref a_BadTolerance) = some false
  kt_BadTable_BadGroup : PySem.W.kitOne K (.ref a_BadTable) (.ref a_BadGroup) = some false
  kt_BadTable_BadLoop : PySem.W.kitOne K (.ref a_BadTable) (.ref a_BadLoop) = some false
  kt_BadTable_UnknownState : PySem.W.kitOne K (.ref a_BadTable) (.ref a_UnknownState) = some false
  kt_BadTable_BadAnswer : PySem.W.kitOne K (.ref a_BadTable) (.ref a_BadAnswer) = some false
  kt_BadTable_BadJoint : PySem.W.kitOne K (.ref a_BadTable) (.ref a_BadJoint) = some false
  kt_BadTable_BadKind : PySem.W.kitOne K (.ref a_BadTable) (.ref a_BadKind) = some false
  kt_BadTable_BadWatch : PySem.W.kitOne K (.ref a_BadTable) (.ref a_BadWatch) = some false
  kt_BadTable_BadRow : PySem.W.kitOne K (.ref a_BadTable) (.ref a_BadRow) = some false
  kt_BadTable_BadTable : PySem.W.kitOne K (.ref a_BadTable) (.ref a_BadTable) = some true
  xm_BadNumber_BadNumber : PySem.W.exmOne K (.ref a_BadNumber) (.ref a_BadNumber) = some true
  xm_BadNumber_BadTolerance : PySem.W.exmOne K (.ref a_BadNumber) (.ref a_BadTolerance) = some false
  xm_BadNumber_BadGroup : PySem.W.exmOne K (.ref a_BadNumber) (.ref a_BadGroup) = some false
  xm_BadNumber_BadLoop : PySem.W.exmOne K (.ref a_BadNumber) (.ref a_BadLoop) = some false
  xm_BadNumber_UnknownState : PySem.W.exmOne K (.ref a_BadNumber) (.ref a_UnknownState) = some false
  xm_BadNumber_BadAnswer : PySem.W.exmOne K (.ref a_BadNumber) (.ref a_BadAnswer) = some false
  xm_BadNumber_BadJoint : PySem.W.exmOne K (.ref a_BadNumber) (.ref a_BadJoint) = some false
  xm_BadNumber_BadKind : PySem.W.exmOne K (.ref a_BadNumber) (.ref a_BadKind) = some false
  xm_BadNumber_BadWatch : PySem.W.exmOne K (.ref a_BadNumber) (.ref a_BadWatch) = some false
  xm_BadNumber_BadRow : PySem.W.exmOne K (.ref a_BadNumber) (.ref a_BadRow) = some false
  xm_BadNumber_BadTable : PySem.W.exmOne K (.ref a_BadNumber) (.ref a_BadTable) = some false
  xm_BadTolerance_BadNumber : PySem.W.exmOne K (.ref a_BadTolerance) (.ref a_BadNumber) = some false
  xm_BadTolerance_BadTolerance : PySem.W.exmOne K (.ref a_BadTolerance) (.ref a_BadTolerance) = some true
  xm_BadTolerance_BadGroup : PySem.W.exmOne K (.ref a_BadTolerance) (.ref a_BadGroup) = some false
  xm_BadTolerance_BadLoop : PySem.W.exmOne K (.ref a_BadTolerance) (.ref a_BadLoop) = some false
  xm_BadTolerance_UnknownState : PySem.W.exmOne K (.ref a_BadTolerance) (.ref a_UnknownState) = some false
  xm_BadTolerance_BadAnswer : PySem.W.exmOne K (.ref a_BadTolerance) (.ref a_BadAnswer) = some false
  xm_BadTolerance_BadJoint : PySem.W.exmOne K (.ref a_BadTolerance) (.ref a_BadJoint) = some false
  xm_BadTolerance_BadKind : PySem.W.exmOne K (.ref a_BadTolerance) (.ref a_BadKind) = some false
  xm_BadTolerance_BadWatch : PySem.W.exmOne K (.ref a_BadTolerance) (.ref a_BadWatch) = some false
  xm_BadTolerance_BadRow : PySem.W.exmOne K (.ref a_BadTolerance) (.ref a_BadRow) = some false
  xm_BadTolerance_BadTable : PySem.W.exmOne K (.ref a_BadTolerance) (.ref a_BadTable) = some false
  xm_BadGroup_BadNumber : PySem.W.exmOne K (.ref a_BadGroup) (.ref a_BadNumber) = some false
  xm_BadGroup_BadTolerance : PySem.W.exmOne K (.ref a_BadGroup) (.ref a_BadTolerance) = some false
  xm_BadGroup_BadGroup : PySem.W.exmOne K (.ref a_BadGroup) (.ref a_BadGroup) = some true
  xm_BadGroup_BadLoop : PySem.W.exmOne K (.ref a_BadGroup) (.ref a_BadLoop) = some false
  xm_BadGroup_UnknownState : PySem.W.exmOne K (.ref a_BadGroup) (.ref a_UnknownState) = some false
  xm_BadGroup_BadAnswer : PySem.W.exmOne K (.ref a_BadGroup) (.ref a_BadAnswer) = some false
  xm_BadGroup_BadJoint : PySem.W.exmOne K (.ref a_BadGroup) (.ref a_BadJoint) = some false
  xm_BadGroup_BadKind : PySem.W.exmOne K (.ref a_BadGroup) (.ref a_BadKind) = some false
  xm_BadGroup_BadWatch : PySem.W.exmOne K (.ref a_BadGroup) (.ref a_BadWatch) = some false
  xm_BadGroup_BadRow : PySem.W.exmOne K (.ref a_BadGroup) (.ref a_BadRow) = some false
  xm_BadGroup_BadTable : PySem.W.exmOne K (.ref a_BadGroup) (.ref a_BadTable) = some false
  xm_BadLoop_BadNumber : PySem.W.exmOne K (.ref a_BadLoop) (.ref a_BadNumber) = some false
  xm_BadLoop_BadTolerance : PySem.W.exmOne K (.ref a_BadLoop) (.ref a_BadTolerance) = some false
  xm_BadLoop_BadGroup : PySem.W.exmOne K (.ref a_BadLoop) (.ref a_BadGroup) = some false
  xm_BadLoop_BadLoop : PySem.W.exmOne K (.ref a_BadLoop) (.ref a_BadLoop) = some true
  xm_BadLoop_UnknownState : PySem.W.exmOne K (.ref a_BadLoop) (.ref a_UnknownState) = some false
  xm_BadLoop_BadAnswer : PySem.W.exmOne K (.ref a_BadLoop) (.ref a_BadAnswer) = some false
  xm_BadLoop_BadJoint : PySem.W.exmOne K (.ref a_BadLoop) (.ref a_BadJoint) = some false
  xm_BadLoop_BadKind : PySem.W.exmOne K (.ref a_BadLoop) (.ref a_BadKind) = some false
  xm_BadLoop_BadWatch : PySem.W.exmOne K (.ref a_BadLoop) (.ref a_BadWatch) = some false
  xm_BadLoop_BadRow : PySem.W.exmOne K (.ref a_BadLoop) (.ref a_BadRow) = some false
  xm_BadLoop_BadTable : PySem.W.exmOne K (.ref a_BadLoop) (.ref a_BadTable) = some false
  xm_UnknownState_BadNumber : PySem.W.exmOne K (.ref a_UnknownState) (.ref a_BadNumber) = some false
  xm_UnknownState_BadTolerance : PySem.W.exmOne K (.ref a_UnknownState) (.ref a_BadTolerance) = some false
  xm_UnknownState_BadGroup : PySem.W.exmOne K (.ref a_UnknownState) (.ref a_BadGroup) = some false
  xm_UnknownState_BadLoop : PySem.W.exmOne K (.ref a_UnknownState) (.ref a_BadLoop) = some false
  xm_UnknownState_UnknownState : PySem.W.exmOne K (.ref a_UnknownState) (.ref a_UnknownState) = some true
  xm_UnknownState_BadAnswer : PySem.W.exmOne K (.ref a_UnknownState) (.ref a_BadAnswer) = some false
  xm_UnknownState_BadJoint : PySem.W.exmOne K (.ref a_UnknownState) (.ref a_BadJoint) = some false
  xm_UnknownState_BadKind : PySem.W.exmOne K (.ref a_UnknownState) (.ref a_BadKind) = some false
  xm_UnknownState_BadWatch : PySem.W.exmOne K (.ref a_UnknownState) (.ref a_BadWatch) = some false
  xm_UnknownState_BadRow : PySem.W.exmOne K (.ref a_UnknownState) (.ref a_BadRow) = some false
  xm_UnknownState_BadTable : PySem.W.exmOne K (.ref a_UnknownState) (.ref a_BadTable) = some false
  xm_BadAnswer_BadNumber : PySem.W.exmOne K (.ref a_BadAnswer) (.ref a_BadNumber) = some false
  xm_BadAnswer_BadTolerance : PySem.W.exmOne K (.ref a_BadAnswer) (.ref a_BadTolerance) = some false
  xm_BadAnswer_BadGroup : PySem.W.exmOne K (.ref a_BadAnswer) (.ref a_BadGroup) = some false
  xm_BadAnswer_BadLoop : PySem.W.exmOne K (.ref a_BadAnswer) (.ref a_BadLoop) = some false
  xm_BadAnswer_UnknownState : PySem.W.exmOne K (.ref a_BadAnswer) (.ref a_UnknownState) = some false
  xm_BadAnswer_BadAnswer : PySem.W.exmOne K (.ref a_BadAnswer) (.ref a_BadAnswer) = some true
  xm_BadAnswer_BadJoint : PySem.W.exmOne K (.ref a_BadAnswer) (.ref a_BadJoint) = some false
  xm_BadAnswer_BadKind : PySem.W.exmOne K (.ref a_BadAnswer) (.ref a_BadKind) = some false
  xm_BadAnswer_BadWatch : PySem.W.exmOne K (.ref a_BadAnswer) (.ref a_BadWatch) = some false
  xm_BadAnswer_BadRow : PySem.W.exmOne K (.ref a_BadAnswer) (.ref a_BadRow) = some false
  xm_BadAnswer_BadTable : PySem.W.exmOne K (.ref a_BadAnswer) (.ref a_BadTable) = some false
  xm_BadJoint_BadNumber : PySem.W.exmOne K (.ref a_BadJoint) (.ref a_BadNumber) = some false
  xm_BadJoint_BadTolerance : PySem.W.exmOne K (.ref a_BadJoint) (.ref a_BadTolerance) = some false
  xm_BadJoint_BadGroup : PySem.W.exmOne K (.ref a_BadJoint) (.ref a_BadGroup) = some false
  xm_BadJoint_BadLoop : PySem.W.exmOne K (.ref a_BadJoint) (.ref a_BadLoop) = some false
  xm_BadJoint_UnknownState : PySem.W.exmOne K (.ref a_BadJoint) (.ref a_UnknownState) = some false
  xm_BadJoint_BadAnswer : PySem.W.exmOne K (.ref a_BadJoint) (.ref a_BadAnswer) = some false
  xm_BadJoint_BadJoint : PySem.W.exmOne K (.ref a_BadJoint) (.ref a_BadJoint) = some true
  xm_BadJoint_BadKind : PySem.W.exmOne K (.ref a_BadJoint) (.ref a_BadKind) = some false
  xm_BadJoint_BadWatch : PySem.W.exmOne K (.ref a_BadJoint) (.ref a_BadWatch) = some false
  xm_BadJoint_BadRow : PySem.W.exmOne K (.ref a_BadJoint) (.ref a_BadRow) = some false
  xm_BadJoint_BadTable : PySem.W.exmOne K (.ref a_BadJoint) (.ref a_BadTable) = some false
  xm_BadKind_BadNumber : PySem.W.exmOne K (.ref a_BadKind) (.ref a_BadNumber) = some false
  xm_BadKind_BadTolerance : PySem.W.exmOne K (.ref a_BadKind) (.ref a_BadTolerance) = some false
  xm_BadKind_BadGroup : PySem.W.exmOne K (.ref a_BadKind) (.ref a_BadGroup) = some false
  xm_BadKind_BadLoop : PySem.W.exmOne K (.ref a_BadKind) (.ref a_BadLoop) = some false
  xm_BadKind_UnknownState : PySem.W.exmOne K (.ref a_BadKind) (.ref a_UnknownState) = some false
  xm_BadKind_BadAnswer : PySem.W.exmOne K (.ref a_BadKind) (.ref a_BadAnswer) = some false
  xm_BadKind_BadJoint : PySem.W.exmOne K (.ref a_BadKind) (.ref a_BadJoint) = some false
  xm_BadKind_BadKind : PySem.W.exmOne K (.ref a_BadKind) (.ref a_BadKind) = some true
  xm_BadKind_BadWatch : PySem.W.exmOne K (.ref a_BadKind) (.ref a_BadWatch) = some false
  xm_BadKind_BadRow : PySem.W.exmOne K (.ref a_BadKind) (.ref a_BadRow) = some false
  xm_BadKind_BadTable : PySem.W.exmOne K (.ref a_BadKind) (.ref a_BadTable) = some false
  xm_BadWatch_BadNumber : PySem.W.exmOne K (.ref a_BadWatch) (.ref a_BadNumber) = some false
  xm_BadWatch_BadTolerance : PySem.W.exmOne K (.ref a_BadWatch) (.ref a_BadTolerance) = some false
  xm_BadWatch_BadGroup : PySem.W.exmOne K (.ref a_BadWatch) (.ref a_BadGroup) = some false
  xm_BadWatch_BadLoop : PySem.W.exmOne K (.ref a_BadWatch) (.ref a_BadLoop) = some false
  xm_BadWatch_UnknownState : PySem.W.exmOne K (.ref a_BadWatch) (.ref a_UnknownState) = some false
  xm_BadWatch_BadAnswer : PySem.W.exmOne K (.ref a_BadWatch) (.ref a_BadAnswer) = some false
  xm_BadWatch_BadJoint : PySem.W.exmOne K (.ref a_BadWatch) (.ref a_BadJoint) = some false
  xm_BadWatch_BadKind : PySem.W.exmOne K (.ref a_BadWatch) (.ref a_BadKind) = some false
  xm_BadWatch_BadWatch : PySem.W.exmOne K (.ref a_BadWatch) (.ref a_BadWatch) = some true
  xm_BadWatch_BadRow : PySem.W.exmOne K (.ref a_BadWatch) (.ref a_BadRow) = some false
  xm_BadWatch_BadTable : PySem.W.exmOne K (.ref a_BadWatch) (.ref a_BadTable) = some false
  xm_BadRow_BadNumber : PySem.W.exmOne K (.ref a_BadRow) (.ref a_BadNumber) = some false
  xm_BadRow_BadTolerance : PySem.W.exmOne K (.ref a_BadRow) (.ref a_BadTolerance) = some false
  xm_BadRow_BadGroup : PySem.W.exmOne K (.ref a_BadRow) (.ref a_BadGroup) = some false
  xm_BadRow_BadLoop : PySem.W.exmOne K (.ref a_BadRow) (.ref a_BadLoop) = some false
  xm_BadRow_UnknownState : PySem.W.exmOne K (.ref a_BadRow) (.ref a_UnknownState) = some false
  xm_BadRow_BadAnswer : PySem.W.exmOne K (.ref a_BadRow) (.ref a_BadAnswer) = some false
  xm_BadRow_BadJoint : PySem.W.exmOne K (.ref a_BadRow) (.ref a_BadJoint) = some false
  xm_BadRow_BadKind : PySem.W.exmOne K (.ref a_BadRow) (.ref a_BadKind) = some false
  xm_BadRow_BadWatch : PySem.W.exmOne K (.ref a_BadRow) (.ref a_BadWatch) = some false
  xm_BadRow_BadRow : PySem.W.exmOne K (.ref a_BadRow) (.ref a_BadRow) = some true
  xm_BadRow_BadTable : PySem.W.exmOne K (.ref a_BadRow) (.ref a_BadTable) = some false
  xm_BadTable_BadNumber : PySem.W.exmOne K (.ref a_BadTable) (.ref a_BadNumber) = some false
  xm_BadTable_BadTolerance : PySem.W.exmOne K (.ref a_BadTable) (.ref a_BadTolerance) = some false
  xm_BadTable_BadGroup : PySem.W.exmOne K (.ref a_BadTable) (.ref a_BadGroup) = some false
  xm_BadTable_BadLoop : PySem.W.exmOne K (.ref a_BadTable) (.ref a_BadLoop) = some false
  xm_BadTable_UnknownState : PySem.W.exmOne K (.ref a_BadTable) (.ref a_UnknownState) = some false
  xm_BadTable_BadAnswer : PySem.W.exmOne K (.ref a_BadTable) (.ref a_BadAnswer) = some false
  xm_BadTable_BadJoint : PySem.W.exmOne K (.ref a_BadTable) (.ref a_BadJoint) = some false
  xm_BadTable_BadKind : PySem.W.exmOne K (.ref a_BadTable) (.ref a_BadKind) = some false
  xm_BadTable_BadWatch : PySem.W.exmOne K (.ref a_BadTable) (.ref a_BadWatch) = some false
  xm_BadTable_BadRow : PySem.W.exmOne K (.ref a_BadTable) (.ref a_BadRow) = some false
  xm_BadTable_BadTable : PySem.W.exmOne K (.ref a_BadTable) (.ref a_BadTable) = some true
abbrev GG {P : Program} {w : World} {K : PySem.W.Frag} {mg : Str → Option Value} (T : Tx P w K mg) : Gm := ⟨K, 0, 0, fun i => match i with | 0 => T.a_BadNumber | 1 => T.a_BadTolerance | 2 => T.a_BadGroup | 3 => T.a_BadLoop | 4 => T.a_UnknownState | 5 => T.a_BadAnswer | 6 => T.a_BadJoint | 7 => T.a_BadKind | 8 => T.a_BadWatch | 9 => T.a_BadRow | 10 => T.a_BadTable | _ => 0, fun i => match i with | 0 => "number" | 1 => "tolerance" | 2 => "group" | 3 => "line" | 4 => "state" | 5 => "answer" | 6 => "state" | 7 => "by" | 8 => "line" | 9 => "" | 10 => "" | _ => "", w, fun _ => 0, false, none⟩
section
variable {P : Program} {w : World} {K : PySem.W.Frag} {mg : Str → Option Value} {base : Heap}
theorem okE_BadNumber (T : Tx P w K mg) : FnOk P w K mg base CX0 1 T.ei_BadNumber T.fe_BadNumber ["self", "number"] (spErr T.a_BadNumber "number") :=
  err_ok T.x_BadNumber ⟨rfl, rfl, rfl, by decide +kernel, by decide +kernel, by decide +kernel, by decide +kernel, ⟨_, rfl, rfl⟩⟩ rfl (fun _ _ _ _ => ⟨⟨_, rfl⟩, rfl, rfl, rfl⟩) (fun _ _ _ _ => rfl) (fun _ _ _ _ _ _ => arg_str) (by decide) (by decide) T.nf_BadNumber
theorem okE_BadTolerance (T : Tx P w K mg) : FnOk P w K mg base CX0 1 T.ei_BadTolerance T.fe_BadTolerance ["self", "tolerance"] (spErr T.a_BadTolerance "tolerance") :=
  err_ok T.x_BadTolerance ⟨rfl, rfl, rfl, by decide +kernel, by decide +kernel, by decide +kernel, by decide +kernel, ⟨_, rfl, rfl⟩⟩ rfl (fun _ _ _ _ => ⟨⟨_, rfl⟩, rfl, rfl, rfl⟩) (fun _ _ _ _ => rfl) (fun _ _ _ _ _ _ => arg_str) (by decide) (by decide) T.nf_BadTolerance
theorem okE_BadGroup (T : Tx P w K mg) : FnOk P w K mg base CX0 1 T.ei_BadGroup T.fe_BadGroup ["self", "group"] (spErr T.a_BadGroup "group") :=
  err_ok T.x_BadGroup ⟨rfl, rfl, rfl, by decide +kernel, by decide +kernel, by decide +kernel, by decide +kernel, ⟨_, rfl, rfl⟩⟩ rfl (fun _ _ _ _ => ⟨⟨_, rfl⟩, rfl, rfl, rfl⟩) (fun _ _ _ _ => rfl) (fun _ _ _ _ _ _ => arg_str) (by decide) (by decide) T.nf_BadGroup
theorem okE_BadLoop (T : Tx P w K mg) : FnOk P w K mg base CX0 1 T.ei_BadLoop T.fe_BadLoop ["self", "line"] (spErrA K T.a_BadLoop "line") :=
  err_okA T.x_BadLoop ⟨rfl, rfl, rfl, by decide +kernel, by decide +kernel, by decide +kernel, by decide +kernel, ⟨_, rfl, rfl⟩⟩ rfl (fun _ _ _ _ => ⟨⟨_, rfl⟩, rfl, rfl, rfl⟩) (fun _ _ _ _ => rfl) (fun _ _ _ _ _ _ _ hn => arg_fany rfl rfl (show List.lookup ("line" : Str) (defScope s_BadLoop___init__).names = some NameKind.local from by decide +kernel) (by decide) hn (by decide) (by decide)) (by decide) (by decide) T.nf_BadLoop
theorem okE_UnknownState (T : Tx P w K mg) : FnOk P w K mg base CX0 1 T.ei_UnknownState T.fe_UnknownState ["self", "state"] (spErr T.a_UnknownState "state") :=
  err_ok T.x_UnknownState ⟨rfl, rfl, rfl, by decide +kernel, by decide +kernel, by decide +kernel, by decide +kernel, ⟨_, rfl, rfl⟩⟩ rfl (fun _ _ _ _ => ⟨⟨_, rfl⟩, rfl, rfl, rfl⟩) (fun _ _ _ _ => rfl) (fun _ _ _ _ _ _ => arg_str) (by decide) (by decide) T.nf_UnknownState
theorem okE_BadAnswer (T : Tx P w K mg) : FnOk P w K mg base CX0 1 T.ei_BadAnswer T.fe_BadAnswer ["self", "answer"] (spErr T.a_BadAnswer "answer") :=
  err_ok T.x_BadAnswer ⟨rfl, rfl, rfl, by decide +kernel, by decide +kernel, by decide +kernel, by decide +kernel, ⟨_, rfl, rfl⟩⟩ rfl (fun _ _ _ _ => ⟨⟨_, rfl⟩, rfl, rfl, rfl⟩) (fun _ _ _ _ => rfl) (fun _ _ _ _ _ _ => arg_str) (by decide) (by decide) T.nf_BadAnswer
theorem okE_BadJoint (T : Tx P w K mg) : FnOk P w K mg base CX0 1 T.ei_BadJoint T.fe_BadJoint ["self", "state"] (spErr T.a_BadJoint "state") :=
  err_ok T.x_BadJoint ⟨rfl, rfl, rfl, by decide +kernel, by decide +kernel, by decide +kernel, by decide +kernel, ⟨_, rfl, rfl⟩⟩ rfl (fun _ _ _ _ => ⟨⟨_, rfl⟩, rfl, rfl, rfl⟩) (fun _ _ _ _ => rfl) (fun _ _ _ _ _ _ => arg_str) (by decide) (by decide) T.nf_BadJoint
theorem okE_BadKind (T : Tx P w K mg) : FnOk P w K mg base CX0 1 T.ei_BadKind T.fe_BadKind ["self", "by"] (spErr T.a_BadKind "by") :=
  err_ok T.x_BadKind ⟨rfl, rfl, rfl, by decide +kernel, by decide +kernel, by decide +kernel, by decide +kernel, ⟨_, rfl, rfl⟩⟩ rfl (fun _ _ _ _ => ⟨⟨_, rfl⟩, rfl, rfl, rfl⟩) (fun _ _ _ _ => rfl) (fun _ _ _ _ _ _ => arg_str) (by decide) (by decide) T.nf_BadKind
theorem okE_BadWatch (T : Tx P w K mg) : FnOk P w K mg base CX0 1 T.ei_BadWatch T.fe_BadWatch ["self", "line"] (spErrA K T.a_BadWatch "line") :=
  err_okA T.x_BadWatch ⟨rfl, rfl, rfl, by decide +kernel, by decide +kernel, by decide +kernel, by decide +kernel, ⟨_, rfl, rfl⟩⟩ rfl (fun _ _ _ _ => ⟨⟨_, rfl⟩, rfl, rfl, rfl⟩) (fun _ _ _ _ => rfl) (fun _ _ _ _ _ _ _ hn => arg_fany rfl rfl (show List.lookup ("line" : Str) (defScope s_BadWatch___init__).names = some NameKind.local from by decide +kernel) (by decide) hn (by decide) (by decide)) (by decide) (by decide) T.nf_BadWatch
theorem okE_BadRow (T : Tx P w K mg) : FnOk P w K mg base CX0 1 T.ei_BadRow T.fe_BadRow ["self"] (spErr0 T.a_BadRow) :=
  err_ok0 T.x_BadRow ⟨rfl, rfl, rfl, by decide +kernel, by decide +kernel, by decide +kernel, by decide +kernel, ⟨_, rfl, rfl⟩⟩ rfl (fun _ _ _ _ => ⟨⟨_, rfl⟩, rfl, rfl, rfl⟩) (fun _ _ _ _ _ => arg_str)
theorem okE_BadTable (T : Tx P w K mg) : FnOk P w K mg base CX0 1 T.ei_BadTable T.fe_BadTable ["self"] (spErr0 T.a_BadTable) :=
  err_ok0 T.x_BadTable ⟨rfl, rfl, rfl, by decide +kernel, by decide +kernel, by decide +kernel, by decide +kernel, ⟨_, rfl, rfl⟩⟩ rfl (fun _ _ _ _ => ⟨⟨_, rfl⟩, rfl, rfl, rfl⟩) (fun _ _ _ _ _ => arg_str)
theorem xn_all (T : Tx P w K mg) : ∀ c ∈ ([0, 1, 2, 3, 4, 5, 6, 7, 8, 9, 10] : List Nat), PySem.W.exmOne K (.ref ((GG T).ec c)) (.ref T.a_NearError) = some true := List.forall_mem_cons.mpr ⟨T.xn_BadNumber, List.forall_mem_cons.mpr ⟨T.xn_BadTolerance, List.forall_mem_cons.mpr ⟨T.xn_BadGroup, List.forall_mem_cons.mpr ⟨T.xn_BadLoop, List.forall_mem_cons.mpr ⟨T.xn_UnknownState, List.forall_mem_cons.mpr ⟨T.xn_BadAnswer, List.forall_mem_cons.mpr ⟨T.xn_BadJoint, List.forall_mem_cons.mpr ⟨T.xn_BadKind, List.forall_mem_cons.mpr ⟨T.xn_BadWatch, List.forall_mem_cons.mpr ⟨T.xn_BadRow, List.forall_mem_cons.mpr ⟨T.xn_BadTable, fun _ z => nomatch z⟩⟩⟩⟩⟩⟩⟩⟩⟩⟩⟩
theorem isok_BadNumber (T : Tx P w K mg) : IsOk K (GG T) 0 [some 0, some 1, some 2, some 3, some 4, some 5, some 6, some 7, some 8, some 9, some 10, none] := ⟨T.ex_BadNumber, List.forall_mem_cons.mpr ⟨⟨_, fun _ h => h, T.kt_BadNumber_BadNumber⟩, List.forall_mem_cons.mpr ⟨⟨_, fun _ h => h, T.kt_BadNumber_BadTolerance⟩, List.forall_mem_cons.mpr ⟨⟨_, fun _ h => h, T.kt_BadNumber_BadGroup⟩, List.forall_mem_cons.mpr ⟨⟨_, fun _ h => h, T.kt_BadNumber_BadLoop⟩, List.forall_mem_cons.mpr ⟨⟨_, fun _ h => h, T.kt_BadNumber_UnknownState⟩, List.forall_mem_cons.mpr ⟨⟨_, fun _ h => h, T.kt_BadNumber_BadAnswer⟩, List.forall_mem_cons.mpr ⟨⟨_, fun _ h => h, T.kt_BadNumber_BadJoint⟩, List.forall_mem_cons.mpr ⟨⟨_, fun _ h => h, T.kt_BadNumber_BadKind⟩, List.forall_mem_cons.mpr ⟨⟨_, fun _ h => h, T.kt_BadNumber_BadWatch⟩, List.forall_mem_cons.mpr ⟨⟨_, fun _ h => h, T.kt_BadNumber_BadRow⟩, List.forall_mem_cons.mpr ⟨⟨_, fun _ h => h, T.kt_BadNumber_BadTable⟩, List.forall_mem_cons.mpr ⟨⟨_, fun _ h => h, T.kv_BadNumber⟩, fun _ z => nomatch z⟩⟩⟩⟩⟩⟩⟩⟩⟩⟩⟩⟩⟩
theorem isok_BadTolerance (T : Tx P w K mg) : IsOk K (GG T) 1 [some 0, some 1, some 2, some 3, some 4, some 5, some 6, some 7, some 8, some 9, some 10, none] := ⟨T.ex_BadTolerance, List.forall_mem_cons.mpr ⟨⟨_, fun _ h => h, T.kt_BadTolerance_BadNumber⟩, List.forall_mem_cons.mpr ⟨⟨_, fun _ h => h, T.kt_BadTolerance_BadTolerance⟩, List.forall_mem_cons.mpr ⟨⟨_, fun _ h => h, T.kt_BadTolerance_BadGroup⟩, List.forall_mem_cons.mpr ⟨⟨_, fun _ h => h, T.kt_BadTolerance_BadLoop⟩, List.forall_mem_cons.mpr ⟨⟨_, fun _ h => h, T.kt_BadTolerance_UnknownState⟩, List.forall_mem_cons.mpr ⟨⟨_, fun _ h => h, T.kt_BadTolerance_BadAnswer⟩, List.forall_mem_cons.mpr ⟨⟨_, fun _ h => h, T.kt_BadTolerance_BadJoint⟩, List.forall_mem_cons.mpr ⟨⟨_, fun _ h => h, T.kt_BadTolerance_BadKind⟩, List.forall_mem_cons.mpr ⟨⟨_, fun _ h => h, T.kt_BadTolerance_BadWatch⟩, List.forall_mem_cons.mpr ⟨⟨_, fun _ h => h, T.kt_BadTolerance_BadRow⟩, List.forall_mem_cons.mpr ⟨⟨_, fun _ h => h, T.kt_BadTolerance_BadTable⟩, List.forall_mem_cons.mpr ⟨⟨_, fun _ h => h, T.kv_BadTolerance⟩, fun _ z => nomatch z⟩⟩⟩⟩⟩⟩⟩⟩⟩⟩⟩⟩⟩
theorem isok_BadGroup (T : Tx P w K mg) : IsOk K (GG T) 2 [some 0, some 1, some 2, some 3, some 4, some 5, some 6, some 7, some 8, some 9, some 10, none] := ⟨T.ex_BadGroup, List.forall_mem_cons.mpr ⟨⟨_, fun _ h => h, T.kt_BadGroup_BadNumber⟩, List.forall_mem_cons.mpr ⟨⟨_, fun _ h => h, T.kt_BadGroup_BadTolerance⟩, List.forall_mem_cons.mpr ⟨⟨_, fun _ h => h, T.kt_BadGroup_BadGroup⟩, List.forall_mem_cons.mpr ⟨⟨_, fun _ h => h, T.kt_BadGroup_BadLoop⟩, List.forall_mem_cons.mpr ⟨⟨_, fun _ h => h, T.kt_BadGroup_UnknownState⟩, List.forall_mem_cons.mpr ⟨⟨_, fun _ h => h, T.kt_BadGroup_BadAnswer⟩, List.forall_mem_cons.mpr ⟨⟨_, fun _ h => h, T.kt_BadGroup_BadJoint⟩, List.forall_mem_cons.mpr ⟨⟨_, fun _ h => h, T.kt_BadGroup_BadKind⟩, List.forall_mem_cons.mpr ⟨⟨_, fun _ h => h, T.kt_BadGroup_BadWatch⟩, List.forall_mem_cons.mpr ⟨⟨_, fun _ h => h, T.kt_BadGroup_BadRow⟩, List.forall_mem_cons.mpr ⟨⟨_, fun _ h => h, T.kt_BadGroup_BadTable⟩, List.forall_mem_cons.mpr ⟨⟨_, fun _ h => h, T.kv_BadGroup⟩, fun _ z => nomatch z⟩⟩⟩⟩⟩⟩⟩⟩⟩⟩⟩⟩⟩
theorem isok_BadLoop (T : Tx P w K mg) : IsOk K (GG T) 3 [some 0, some 1, some 2, some 3, some 4, some 5, some 6, some 7, some 8, some 9, some 10, none] := ⟨T.ex_BadLoop, List.forall_mem_cons.mpr ⟨⟨_, fun _ h => h, T.kt_BadLoop_BadNumber⟩, List.forall_mem_cons.mpr ⟨⟨_, fun _ h => h, T.kt_BadLoop_BadTolerance⟩, List.forall_mem_cons.mpr ⟨⟨_, fun _ h => h, T.kt_BadLoop_BadGroup⟩, List.forall_mem_cons.mpr ⟨⟨_, fun _ h => h, T.kt_BadLoop_BadLoop⟩, List.forall_mem_cons.mpr ⟨⟨_, fun _ h => h, T.kt_BadLoop_UnknownState⟩, List.forall_mem_cons.mpr ⟨⟨_, fun _ h => h, T.kt_BadLoop_BadAnswer⟩, List.forall_mem_cons.mpr ⟨⟨_, fun _ h => h, T.kt_BadLoop_BadJoint⟩, List.forall_mem_cons.mpr ⟨⟨_, fun _ h => h, T.kt_BadLoop_BadKind⟩, List.forall_mem_cons.mpr ⟨⟨_, fun _ h => h, T.kt_BadLoop_BadWatch⟩, List.forall_mem_cons.mpr ⟨⟨_, fun _ h => h, T.kt_BadLoop_BadRow⟩, List.forall_mem_cons.mpr ⟨⟨_, fun _ h => h, T.kt_BadLoop_BadTable⟩, List.forall_mem_cons.mpr ⟨⟨_, fun _ h => h, T.kv_BadLoop⟩, fun _ z => nomatch z⟩⟩⟩⟩⟩⟩⟩⟩⟩⟩⟩⟩⟩
theorem isok_UnknownState (T : Tx P w K mg) : IsOk K (GG T) 4 [some 0, some 1, some 2, some 3, some 4, some 5, some 6, some 7, some 8, some 9, some 10, none] := ⟨T.ex_UnknownState, List.forall_mem_cons.mpr ⟨⟨_, fun _ h => h, T.kt_UnknownState_BadNumber⟩, List.forall_mem_cons.mpr ⟨⟨_, fun _ h => h, T.kt_UnknownState_BadTolerance⟩, List.forall_mem_cons.mpr ⟨⟨_, fun _ h => h, T.kt_UnknownState_BadGroup⟩, List.forall_mem_cons.mpr ⟨⟨_, fun _ h => h, T.kt_UnknownState_BadLoop⟩, List.forall_mem_cons.mpr ⟨⟨_, fun _ h => h, T.kt_UnknownState_UnknownState⟩, List.forall_mem_cons.mpr ⟨⟨_, fun _ h => h, T.kt_UnknownState_BadAnswer⟩, List.forall_mem_cons.mpr ⟨⟨_, fun _ h => h, T.kt_UnknownState_BadJoint⟩, List.forall_mem_cons.mpr ⟨⟨_, fun _ h => h, T.kt_UnknownState_BadKind⟩, List.forall_mem_cons.mpr ⟨⟨_, fun _ h => h, T.kt_UnknownState_BadWatch⟩, List.forall_mem_cons.mpr ⟨⟨_, fun _ h => h, T.kt_UnknownState_BadRow⟩, List.forall_mem_cons.mpr ⟨⟨_, fun _ h => h, T.kt_UnknownState_BadTable⟩, List.forall_mem_cons.mpr ⟨⟨_, fun _ h => h, T.kv_UnknownState⟩, fun _ z => nomatch z⟩⟩⟩⟩⟩⟩⟩⟩⟩⟩⟩⟩⟩
theorem isok_BadAnswer (T : Tx P w K mg) : IsOk K (GG T) 5 [some 0, some 1, some 2, some 3, some 4, some 5, some 6, some 7, some 8, some 9, some 10, none] := ⟨T.ex_BadAnswer, List.forall_mem_cons.mpr ⟨⟨_, fun _ h => h, T.kt_BadAnswer_BadNumber⟩, List.forall_mem_cons.mpr ⟨⟨_, fun _ h => h, T.kt_BadAnswer_BadTolerance⟩, List.forall_mem_cons.mpr ⟨⟨_, fun _ h => h, T.kt_BadAnswer_BadGroup⟩, List.forall_mem_cons.mpr ⟨⟨_, fun _ h => h, T.kt_BadAnswer_BadLoop⟩, List.forall_mem_cons.mpr ⟨⟨_, fun _ h => h, T.kt_BadAnswer_UnknownState⟩, List.forall_mem_cons.mpr ⟨⟨_, fun _ h => h, T.kt_BadAnswer_BadAnswer⟩, List.forall_mem_cons.mpr ⟨⟨_, fun _ h => h, T.kt_BadAnswer_BadJoint⟩, List.forall_mem_cons.mpr ⟨⟨_, fun _ h => h, T.kt_BadAnswer_BadKind⟩, List.forall_mem_cons.mpr ⟨⟨_, fun _ h => h, T.kt_BadAnswer_BadWatch⟩, List.forall_mem_cons.mpr ⟨⟨_, fun _ h => h, T.kt_BadAnswer_BadRow⟩, List.forall_mem_cons.mpr ⟨⟨_, fun _ h => h, T.kt_BadAnswer_BadTable⟩, List.forall_mem_cons.mpr ⟨⟨_, fun _ h => h, T.kv_BadAnswer⟩, fun _ z => nomatch z⟩⟩⟩⟩⟩⟩⟩⟩⟩⟩⟩⟩⟩
theorem isok_BadJoint (T : Tx P w K mg) : IsOk K (GG T) 6 [some 0, some 1, some 2, some 3, some 4, some 5, some 6, some 7, some 8, some 9, some 10, none] := ⟨T.ex_BadJoint, List.forall_mem_cons.mpr ⟨⟨_, fun _ h => h, T.kt_BadJoint_BadNumber⟩, List.forall_mem_cons.mpr ⟨⟨_, fun _ h => h, T.kt_BadJoint_BadTolerance⟩, List.forall_mem_cons.mpr ⟨⟨_, fun _ h => h, T.kt_BadJoint_BadGroup⟩, List.forall_mem_cons.mpr ⟨⟨_, fun _ h => h, T.kt_BadJoint_BadLoop⟩, List.forall_mem_cons.mpr ⟨⟨_, fun _ h => h, T.kt_BadJoint_UnknownState⟩, List.forall_mem_cons.mpr ⟨⟨_, fun _ h => h, T.kt_BadJoint_BadAnswer⟩, List.forall_mem_cons.mpr ⟨⟨_, fun _ h => h, T.kt_BadJoint_BadJoint⟩, List.forall_mem_cons.mpr ⟨⟨_, fun _ h => h, T.kt_BadJoint_BadKind⟩, List.forall_mem_cons.mpr ⟨⟨_, fun _ h => h, T.kt_BadJoint_BadWatch⟩, List.forall_mem_cons.mpr ⟨⟨_, fun _ h => h, T.kt_BadJoint_BadRow⟩, List.forall_mem_cons.mpr ⟨⟨_, fun _ h => h, T.kt_BadJoint_BadTable⟩, List.forall_mem_cons.mpr ⟨⟨_, fun _ h => h, T.kv_BadJoint⟩, fun _ z => nomatch z⟩⟩⟩⟩⟩⟩⟩⟩⟩⟩⟩⟩⟩
theorem isok_BadKind (T : Tx P w K mg) : IsOk K (GG T) 7 [some 0, some 1, some 2, some 3, some 4, some 5, some 6, some 7, some 8, some 9, some 10, none] := ⟨T.ex_BadKind, List.forall_mem_cons.mpr ⟨⟨_, fun _ h => h, T.kt_BadKind_BadNumber⟩, List.forall_mem_cons.mpr ⟨⟨_, fun _ h => h, T.kt_BadKind_BadTolerance⟩, List.forall_mem_cons.mpr ⟨⟨_, fun _ h => h, T.kt_BadKind_BadGroup⟩, List.forall_mem_cons.mpr ⟨⟨_, fun _ h => h, T.kt_BadKind_BadLoop⟩, List.forall_mem_cons.mpr ⟨⟨_, fun _ h => h, T.kt_BadKind_UnknownState⟩, List.forall_mem_cons.mpr ⟨⟨_, fun _ h => h, T.kt_BadKind_BadAnswer⟩, List.forall_mem_cons.mpr ⟨⟨_, fun _ h => h, T.kt_BadKind_BadJoint⟩, List.forall_mem_cons.mpr ⟨⟨_, fun _ h => h, T.kt_BadKind_BadKind⟩, List.forall_mem_cons.mpr ⟨⟨_, fun _ h => h, T.kt_BadKind_BadWatch⟩, List.forall_mem_cons.mpr ⟨⟨_, fun _ h => h, T.kt_BadKind_BadRow⟩, List.forall_mem_cons.mpr ⟨⟨_, fun _ h => h, T.kt_BadKind_BadTable⟩, List.forall_mem_cons.mpr ⟨⟨_, fun _ h => h, T.kv_BadKind⟩, fun _ z => nomatch z⟩⟩⟩⟩⟩⟩⟩⟩⟩⟩⟩⟩⟩
theorem isok_BadWatch (T : Tx P w K mg) : IsOk K (GG T) 8 [some 0, some 1, some 2, some 3, some 4, some 5, some 6, some 7, some 8, some 9, some 10, none] := ⟨T.ex_BadWatch, List.forall_mem_cons.mpr ⟨⟨_, fun _ h => h, T.kt_BadWatch_BadNumber⟩, List.forall_mem_cons.mpr ⟨⟨_, fun _ h => h, T.kt_BadWatch_BadTolerance⟩, List.forall_mem_cons.mpr ⟨⟨_, fun _ h => h, T.kt_BadWatch_BadGroup⟩, List.forall_mem_cons.mpr ⟨⟨_, fun _ h => h, T.kt_BadWatch_BadLoop⟩, List.forall_mem_cons.mpr ⟨⟨_, fun _ h => h, T.kt_BadWatch_UnknownState⟩, List.forall_mem_cons.mpr ⟨⟨_, fun _ h => h, T.kt_BadWatch_BadAnswer⟩, List.forall_mem_cons.mpr ⟨⟨_, fun _ h => h, T.kt_BadWatch_BadJoint⟩, List.forall_mem_cons.mpr ⟨⟨_, fun _ h => h, T.kt_BadWatch_BadKind⟩, List.forall_mem_cons.mpr ⟨⟨_, fun _ h => h, T.kt_BadWatch_BadWatch⟩, List.forall_mem_cons.mpr ⟨⟨_, fun _ h => h, T.kt_BadWatch_BadRow⟩, List.forall_mem_cons.mpr ⟨⟨_, fun _ h => h, T.kt_BadWatch_BadTable⟩, List.forall_mem_cons.mpr ⟨⟨_, fun _ h => h, T.kv_BadWatch⟩, fun _ z => nomatch z⟩⟩⟩⟩⟩⟩⟩⟩⟩⟩⟩⟩⟩
theorem isok_BadRow (T : Tx P w K mg) : IsOk K (GG T) 9 [some 0, some 1, some 2, some 3, some 4, some 5, some 6, some 7, some 8, some 9, some 10, none] := ⟨T.ex_BadRow, List.forall_mem_cons.mpr ⟨⟨_, fun _ h => h, T.kt_BadRow_BadNumber⟩, List.forall_mem_cons.mpr ⟨⟨_, fun _ h => h, T.kt_BadRow_BadTolerance⟩, List.forall_mem_cons.mpr ⟨⟨_, fun _ h => h, T.kt_BadRow_BadGroup⟩, List.forall_mem_cons.mpr ⟨⟨_, fun _ h => h, T.kt_BadRow_BadLoop⟩, List.forall_mem_cons.mpr ⟨⟨_, fun _ h => h, T.kt_BadRow_UnknownState⟩, List.forall_mem_cons.mpr ⟨⟨_, fun _ h => h, T.kt_BadRow_BadAnswer⟩, List.forall_mem_cons.mpr ⟨⟨_, fun _ h => h, T.kt_BadRow_BadJoint⟩, List.forall_mem_cons.mpr ⟨⟨_, fun _ h => h, T.kt_BadRow_BadKind⟩, List.forall_mem_cons.mpr ⟨⟨_, fun _ h => h, T.kt_BadRow_BadWatch⟩, List.forall_mem_cons.mpr ⟨⟨_, fun _ h => h, T.kt_BadRow_BadRow⟩, List.forall_mem_cons.mpr ⟨⟨_, fun _ h => h, T.kt_BadRow_BadTable⟩, List.forall_mem_cons.mpr ⟨⟨_, fun _ h => h, T.kv_BadRow⟩, fun _ z => nomatch z⟩⟩⟩⟩⟩⟩⟩⟩⟩⟩⟩⟩⟩
theorem isok_BadTable (T : Tx P w K mg) : IsOk K (GG T) 10 [some 0, some 1, some 2, some 3, some 4, some 5, some 6, some 7, some 8, some 9, some 10, none] := ⟨T.ex_BadTable, List.forall_mem_cons.mpr ⟨⟨_, fun _ h => h, T.kt_BadTable_BadNumber⟩, List.forall_mem_cons.mpr ⟨⟨_, fun _ h => h, T.kt_BadTable_BadTolerance⟩, List.forall_mem_cons.mpr ⟨⟨_, fun _ h => h, T.kt_BadTable_BadGroup⟩, List.forall_mem_cons.mpr ⟨⟨_, fun _ h => h, T.kt_BadTable_BadLoop⟩, List.forall_mem_cons.mpr ⟨⟨_, fun _ h => h, T.kt_BadTable_UnknownState⟩, List.forall_mem_cons.mpr ⟨⟨_, fun _ h => h, T.kt_BadTable_BadAnswer⟩, List.forall_mem_cons.mpr ⟨⟨_, fun _ h => h, T.kt_BadTable_BadJoint⟩, List.forall_mem_cons.mpr ⟨⟨_, fun _ h => h, T.kt_BadTable_BadKind⟩, List.forall_mem_cons.mpr ⟨⟨_, fun _ h => h, T.kt_BadTable_BadWatch⟩, List.forall_mem_cons.mpr ⟨⟨_, fun _ h => h, T.kt_BadTable_BadRow⟩, List.forall_mem_cons.mpr ⟨⟨_, fun _ h => h, T.kt_BadTable_BadTable⟩, List.forall_mem_cons.mpr ⟨⟨_, fun _ h => h, T.kv_BadTable⟩, fun _ z => nomatch z⟩⟩⟩⟩⟩⟩⟩⟩⟩⟩⟩⟩⟩
theorem isok_all (T : Tx P w K mg) : ∀ c ∈ ([0, 1, 2, 3, 4, 5, 6, 7, 8, 9, 10] : List Nat), IsOk K (GG T) c [some 0, some 1, some 2, some 3, some 4, some 5, some 6, some 7, some 8, some 9, some 10, none] := List.forall_mem_cons.mpr ⟨isok_BadNumber T, List.forall_mem_cons.mpr ⟨isok_BadTolerance T, List.forall_mem_cons.mpr ⟨isok_BadGroup T, List.forall_mem_cons.mpr ⟨isok_BadLoop T, List.forall_mem_cons.mpr ⟨isok_UnknownState T, List.forall_mem_cons.mpr ⟨isok_BadAnswer T, List.forall_mem_cons.mpr ⟨isok_BadJoint T, List.forall_mem_cons.mpr ⟨isok_BadKind T, List.forall_mem_cons.mpr ⟨isok_BadWatch T, List.forall_mem_cons.mpr ⟨isok_BadRow T, List.forall_mem_cons.mpr ⟨isok_BadTable T, fun _ z => nomatch z⟩⟩⟩⟩⟩⟩⟩⟩⟩⟩⟩
/-- the source that a script makes -/
def sp__law_source (K : PySem.W.Frag) : Sp := fun vs H Q _ => ∃ (a : Addr) (ns : List Int), vs = [.ref a] ∧ SqL K H a (ns.map V.int) ∧
  ∀ (H' : Hp) (p : Addr), Same H H' → H p = none → Src H' p 0 → Q (.ref p) H'
theorem ok__law_source (T : Tx P w K mg) : FnOk P w K mg base CX0 1 T.a__law_source T.fd__law_source ["_law_script"] (sp__law_source K) := by
  refine T.F__law_source.ok sc__law_source (fun vs H Q E h => ?_) (fun cdv A outer s H vs Q E hr h => ?_)
  · obtain ⟨a, ns, rfl, _⟩ := h; rfl
  · obtain ⟨a, ns, rfl, hS, q⟩ := h
    refine ⟨_, ((pss_cons (ps_asg (pe_tup (pa_cons pe_int (pa_cons pe_int pa_nil))) (pg_tup (by rfl) (pgs_cons (pg_name (i := 1) sc__law_source.nd rfl (by first | exact Or.inl rfl | exact Or.inr rfl)) (pgs_cons (pg_name (i := 2) sc__law_source.nd rfl (by first | exact Or.inl rfl | exact Or.inr rfl)) pgs_nil))))
      (pss_cons (ps_for PassesOwn.never rfl (pi_list (pv 0)) (pg_name (i := 3) sc__law_source.nd rfl (by first | exact Or.inl rfl | exact Or.inr rfl))
        (pss_cons (ps_if (PW.pt (pw_and (pt_cmpR (op_eq) (pv 1) pe_int (nomark _)) (pw_and1 (pt_cmpR (op_ge) (pv 3) (pe_op op_pow pe_int pe_int) (nomark _))))) (pss_one (ps_set (i := 1) sc__law_source.nd rfl (by first | exact Or.inl rfl | exact Or.inr rfl) (pv 3))) pss_nil)
      (pss_one (ps_set (i := 2) sc__law_source.nd rfl (by first | exact Or.inl rfl | exact Or.inr rfl) (pe_op op_mod (pe_callTy (call_int1) (by rfl) T.m_int (by decide +kernel) (pa_cons (pe_op op_add (pe_op op_add (pe_op op_mul (pv 2) pe_int) (pv 3)) pe_int) pa_nil)) pe_int)))))
      (pss_one (ps_ret (pe_lst (pa_cons (pv 1) (pa_cons (pv 2) (pa_cons pe_int pa_nil))))))))), ?_⟩
    refine ⟨(by walk_at "len"), fun t nt => ?_⟩
    refine ⟨_, _, rfl, SqT.of upd_same, rfl, _, _, rfl, _, _, rfl, rfl, ?_⟩
    have sm : Same H _ := same_new (o := .tup [.int 0, .int 17]) nt
    have hS := sm.seq hS
    generalize upd H t (.tup [.int 0, .int 17]) = H1 at *
    refine ⟨_, rfl, _, rfl, ⟨_, hS⟩, for_list (K := K) (a := a) (xs := ns.map V.int) (fun i σ H' => ∃ (g z : Int) (c : Option V), σ = [some (.ref a), some (.int g), some (.int z), c] ∧ H' = H1 ∧ 0 ≤ z ∧ z < 2147483647)
      ⟨0, 17, none, rfl, rfl, by decide, by decide⟩ ?_ ?_ ?_⟩
    · rintro i σ H' _ ⟨g, z, c, rfl, rfl, _⟩; exact hS
    · rintro i x σ H' hx ⟨g, z, c, rfl, rfl, z1, z2⟩
      obtain ⟨n, rfl⟩ : ∃ n, x = V.int n := by
        rw [List.getElem?_map] at hx
        cases e : ns[i]? with
        | none => rw [e] at hx; cases hx
        | some n => rw [e] at hx; exact ⟨n, (Option.some.inj hx).symm⟩
      refine ⟨_, rfl, rfl, _, rfl, ?_⟩
      refine ifD (fun c => ?_) (fun c => ?_)
      · refine ⟨_, rfl, _, _, rfl, rfl, (by walk_at "pow"), _, _, rfl, rfl, _, rfl, ?_⟩
        refine ifD (fun c => ?_) (fun c => ?_)
        · refine ⟨_, rfl, ?_⟩
          refine ⟨_, rfl, _, _, rfl, rfl, (by walk_at "mul"), _, rfl, _, _, rfl, rfl, _, _, rfl, rfl, .inl ⟨_, rfl, ?_⟩⟩
          refine ⟨_, _, rfl, rfl, (by walk_at "pos"), ?_⟩
          exact ⟨_, _, _, rfl, rfl, Int.emod_nonneg _ (by decide), Int.emod_lt_of_pos _ (by decide)⟩
        · refine ⟨_, rfl, _, _, rfl, rfl, (by walk_at "mul"), _, rfl, _, _, rfl, rfl, _, _, rfl, rfl, .inl ⟨_, rfl, ?_⟩⟩
          refine ⟨_, _, rfl, rfl, (by walk_at "pos"), ?_⟩
          exact ⟨_, _, _, rfl, rfl, Int.emod_nonneg _ (by decide), Int.emod_lt_of_pos _ (by decide)⟩
      · refine ifF rfl ?_
        refine ⟨_, rfl, _, _, rfl, rfl, (by walk_at "mul"), _, rfl, _, _, rfl, rfl, _, _, rfl, rfl, .inl ⟨_, rfl, ?_⟩⟩
        refine ⟨_, _, rfl, rfl, (by walk_at "pos"), ?_⟩
        exact ⟨_, _, _, rfl, rfl, Int.emod_nonneg _ (by decide), Int.emod_lt_of_pos _ (by decide)⟩
    · rintro σ H' ⟨g, z, c, rfl, rfl, z1, z2⟩
      refine ⟨_, rfl, _, rfl, (by walk_at "len"), fun p np => ?_⟩
      exact q _ p (sm.trans (same_new np)) (sm.free np) ⟨g, z, upd_same, z1, z2, by decide⟩
theorem ok__law_draw (T : Tx P w K mg) : FnOk P w K mg base CX0 1 T.a__law_draw T.fd__law_draw ["_law_source_here", "_law_many"] (spD (GG T) f__law_draw) := by
  refine T.F__law_draw.ok sc__law_draw (fun vs H Q E h => ?_) (fun cdv A outer s H vs Q E hr h => ?_)
  · obtain ⟨p, B, ds, S, h1, h2, h3, h4⟩ := h
    rw [h3.len]
    unfold f__law_draw at h4
    split at h4
    all_goals first | rfl | exact h4.elim
  · obtain ⟨po, B, ds, S, hB, hsrc, hv, h4⟩ := h
    have hds : ∃ m, ds = [.src, .int m] ∧ 0 < m ∧ m < 1000000 ∧ S.c ≤ 990000 := by
      unfold f__law_draw at h4
      split at h4
      all_goals first | exact h4.elim | skip
      rename_i m
      by_cases hc : (decide (0 < m) && decide (m < 1000000) && decide (S.c ≤ 990000)) = true
      · simp only [Bool.and_eq_true, decide_eq_true_eq] at hc; exact ⟨m, rfl, hc.1.1, hc.1.2, hc.2⟩
      · rw [if_neg hc] at h4; exact h4.elim
    obtain ⟨m, rfl, m1, m2, c2⟩ := hds
    have hok : f__law_draw [.src, .int m] S = .ok (.int (drawV S m)) (drawS S m) := by
      show (if _ then _ else _) = _
      rw [if_pos (by simp [m1, m2, c2])]
    rw [hok] at h4
    cases hv with | cons k1 k2 =>
    cases k2 with | cons k2 k3 =>
    cases k3; cases k2
    cases k1 with | src hp0 =>
    rename_i p
    subst hp0
    obtain ⟨nB, hp, z1, z2, c1⟩ := hsrc p rfl
    obtain ⟨g, z, c, mm⟩ := S
    have hp : H p = some (.lst [.int g, .int z, .int c]) := hp
    have z1 : 0 ≤ z := z1
    have z2 : z < 2147483647 := z2
    have c1 : 0 ≤ c := c1
    have c2 : c ≤ 990000 := c2
    have fin : ∀ (g' r : Int), drawV ⟨g, z, c, mm⟩ m = r → drawS ⟨g, z, c, mm⟩ m = ⟨g', z, c + 1, mm⟩ → Q (.int r) (upd H p (.lst [.int g', .int z, .int (c + 1)])) := fun g' r e1 e2 => by
      rw [e1, e2] at h4
      refine h4 (.int r) B _ (Same.refl _) (fun q o hq => ?_) (fun q o hpq hq => ?_) (fun q o hq _ => .inl hq) (fun q hq => ?_) (.int _)
      · have e : q ≠ p := fun e => by rw [e, nB] at hq; cases hq
        rw [upd_ne e]; exact hB q o hq
      · have e : q ≠ p := fun e => hpq (e ▸ rfl)
        rw [upd_ne e]; exact hq
      · cases hq; exact ⟨nB, upd_same, z1, z2, by show 0 ≤ c + 1; omega⟩
    refine ⟨_, ((pss_cons (ps_asg (pe_op op_add (pe_ix ix_list (pv 0) pe_int (fun _ _ => rfl)) pe_int) (pg_sub (pv 0) pe_int set_list))
      (pss_cons (ps_if (pt_cmpR (op_gt) (pe_ix ix_list (pv 0) pe_int (fun _ _ => rfl)) pe_int (nomark _)) (pss_cons (ps_set (i := 2) sc__law_draw.nd rfl (by first | exact Or.inl rfl | exact Or.inr rfl) (pe_op op_mod (pe_callTy (call_int1) (by rfl) T.m_int (by decide +kernel) (pa_cons (pe_ix ix_list (pv 0) pe_int (fun _ _ => rfl)) pa_nil)) (pv 1)))
      (pss_cons (ps_asg (pe_op op_fdivW (pe_ix ix_list (pv 0) pe_int (fun _ _ => rfl)) (pv 1)) (pg_sub (pv 0) pe_int set_list))
      (pss_one (ps_ret (pv 2))))) pss_nil)
      (pss_cons (ps_set (i := 3) sc__law_draw.nd rfl (by first | exact Or.inl rfl | exact Or.inr rfl) (pe_op op_mod (pe_op op_pow (pe_op op_add (pe_ix ix_list (pv 0) pe_int (fun _ _ => rfl)) (pe_op op_mul pe_int (pe_ix ix_list (pv 0) pe_int (fun _ _ => rfl)))) pe_int) pe_int))
      (pss_one (ps_ret (pe_op op_mod (pe_op op_mod (pe_op op_pow (pe_op op_add (pe_op op_add (pe_op op_mul (pv 3) pe_int) (pe_op op_mul (pe_op op_mul pe_int (pe_ix ix_list (pv 0) pe_int (fun _ _ => rfl))) (pe_ix ix_list (pv 0) pe_int (fun _ _ => rfl)))) pe_int) pe_int) pe_int) (pv 1)))))))), ?_⟩
    refine ⟨_, rfl, _, _, _, _, rfl, rfl, (by walk_at "sq"), (by walk_at "at"), _, _, rfl, rfl, _, rfl, _, _, _, _, rfl, rfl, (by walk_at "hp"), (by walk_at "ixN"), ?_⟩
    refine ⟨_, rfl, _, _, _, _, rfl, rfl, (by walk_at "sq"), (by walk_at "at"), _, _, rfl, rfl, _, rfl, ?_⟩
    refine ifD (fun d => ?_) (fun d => ?_)
    · refine ⟨_, rfl, _, _, _, _, rfl, rfl, (by walk_at "sq"), (by walk_at "at"), .inl ⟨_, rfl, ?_⟩⟩
      refine ⟨_, rfl, _, _, rfl, rfl, (by walk_at "pos"), ?_⟩
      refine ⟨_, rfl, _, _, _, _, rfl, rfl, (by walk_at "sq"), (by walk_at "at"), _, rfl, _, _, rfl, rfl, (by walk_at "div"), _, rfl, _, _, _, _, rfl, rfl, (by walk_at "hp"), (by walk_at "ixN"), ?_⟩
      refine ⟨_, rfl, ?_⟩
      rw [L2.upd_upd]
      have d : 1 < g := d
      exact fin _ _ (by unfold drawV; rw [if_pos d]) (by unfold drawS; rw [if_pos d])
    · refine ⟨_, rfl, _, _, _, _, rfl, rfl, (by walk_at "sq"), (by walk_at "at"), _, rfl, _, _, _, _, rfl, rfl, (by walk_at "sq"), (by walk_at "at"), _, _, rfl, rfl, (by walk_at "mul"), _, _, rfl, rfl, _, _, rfl, rfl, ⟨by decide, by decide, by omega⟩, _, _, rfl, rfl, (by walk_at "pos"), ?_⟩
      have hy : ∀ x : Int, 0 ≤ x % 2147483629 ∧ x % 2147483629 < 2147483629 := fun x => ⟨Int.emod_nonneg _ (by decide), Int.emod_lt_of_pos _ (by decide)⟩
      have d : ¬ 1 < g := d
      have ev : drawV ⟨g, z, c, mm⟩ m = ((z + 7919 * (c + 1)) ^ (5 : Int).toNat % 2147483629 * 48271 + 16807 * (c + 1) * (c + 1) + 11) ^ (3 : Int).toNat % 1000000007 % m := by unfold drawV; rw [if_neg d]
      have es : drawS ⟨g, z, c, mm⟩ m = ⟨g, z, c + 1, mm⟩ := by unfold drawS; rw [if_neg d]
      have fin2 := fin _ _ ev es
      obtain ⟨y1, y2⟩ := hy ((z + 7919 * (c + 1)) ^ (5 : Int).toNat)
      have h1 : 16807 * (c + 1) * (c + 1) ≤ 16807 * 1000001 * 1000001 := Int.mul_le_mul (by omega) (by omega) (by omega) (by decide)
      have h0 : 0 ≤ 16807 * (c + 1) * (c + 1) := Int.mul_nonneg (by omega) (by omega)
      refine ⟨_, rfl, _, _, rfl, rfl, (by walk_at "mul"), _, rfl, _, _, _, _, rfl, rfl, (by walk_at "sq"), (by walk_at "at"), _, _, rfl, rfl, (by walk_at "mul"), _, rfl, _, _, _, _, rfl, rfl, (by walk_at "sq"), (by walk_at "at"), _, _, rfl, rfl, (by walk_at "mul"), _, _, rfl, rfl, _, _, rfl, rfl, _, _, rfl, rfl, ⟨by decide, by decide, by omega⟩, _, _, rfl, rfl, (by walk_at "pos"), _, rfl, _, _, rfl, rfl, (by walk_at "pos"), ?_⟩
      exact fin2
theorem ok__law_pick (T : Tx P w K mg) : FnOk P w K mg base CX0 2 T.a__law_pick T.fd__law_pick ["_law_source_here", "_law_things"] (spD (GG T) f__law_pick) := by
  refine T.F__law_pick.ok sc__law_pick (fun vs H Q E h => fn_len h) (fun cdv A outer s H vs Q E hr h => ?_)
  have hu := hu_of hr
  refine ⟨tS (GG T) [] [] [] E b__law_pick, (ds_one (ds_ret (de_bin bin_ix (pe_ix (ix_G (G := (GG T))) (de_var (pv 1) (by decide)) (de_call (pe_call (ok__law_draw T) (hr.mono (by decide)) (by rfl) T.g__law_draw T.F__law_draw.kp T.b__law_draw .nil pass0 (DA.pa (da_cons (de_var (pv 0) (by decide)) (da_cons (de_arg (m := true) arg_len (pe_callB (call_lenG (G := (GG T))) (by rfl) T.m_len (by decide +kernel) (DA.pa (da_cons (de_var (pv 1) (by decide)) da_nil)))) da_nil))))) (fun _ _ => rfl))))), fn_read h⟩
theorem ok__law_raised (T : Tx P w K mg) : FnOk P w K mg base (L2.CX P w) 3 T.a__law_raised T.fd__law_raised ["_law_how", "_law_a"] (spD (GG T) f__law_raised) := by
  refine T.F__law_raised.okX sc__law_raised (fun vs H Q E h => fn_len h) (fun cdv A outer s H vs Q E hr h => ?_)
  have hu := hu_of hr
  refine ⟨tS (GG T) [] [] [] E b__law_raised, (ds_cons (ds_if (dt_cmp bin_eq (pt_cmpR (op_eqG (G := (GG T)) hr.units) (de_var (pv 0) (by decide)) de_int (nomark _))) (ds_one (ds_raise (C := T.a_BadNumber) rfl rfl (ps_raise rfl (takes_of rfl rfl rfl rfl) (pmk_oex T.x_BadNumber.oex T.ii_BadNumber T.ti_BadNumber (okE_BadNumber T) (hr.mono (by decide)) T.be_BadNumber .nil pass0 (by rfl) T.g_BadNumber (DA.pa (da_cons (de_var (pv 1) (by decide)) da_nil)))))) ds_nil)
      (ds_cons (ds_if (dt_cmp bin_eq (pt_cmpR (op_eqG (G := (GG T)) hr.units) (de_var (pv 0) (by decide)) de_int (nomark _))) (ds_one (ds_raise (C := T.a_BadTolerance) rfl rfl (ps_raise rfl (takes_of rfl rfl rfl rfl) (pmk_oex T.x_BadTolerance.oex T.ii_BadTolerance T.ti_BadTolerance (okE_BadTolerance T) (hr.mono (by decide)) T.be_BadTolerance .nil pass0 (by rfl) T.g_BadTolerance (DA.pa (da_cons (de_var (pv 1) (by decide)) da_nil)))))) ds_nil)
      (ds_cons (ds_if (dt_cmp bin_eq (pt_cmpR (op_eqG (G := (GG T)) hr.units) (de_var (pv 0) (by decide)) de_int (nomark _))) (ds_one (ds_raise (C := T.a_BadGroup) rfl rfl (ps_raise rfl (takes_of rfl rfl rfl rfl) (pmk_oex T.x_BadGroup.oex T.ii_BadGroup T.ti_BadGroup (okE_BadGroup T) (hr.mono (by decide)) T.be_BadGroup .nil pass0 (by rfl) T.g_BadGroup (DA.pa (da_cons (de_var (pv 1) (by decide)) da_nil)))))) ds_nil)
      (ds_cons (ds_if (dt_cmp bin_eq (pt_cmpR (op_eqG (G := (GG T)) hr.units) (de_var (pv 0) (by decide)) de_int (nomark _))) (ds_one (ds_raiseA (C := T.a_BadLoop) rfl rfl (ps_raise rfl (takes_of rfl rfl rfl rfl) (pmk_oex T.x_BadLoop.oex T.ii_BadLoop T.ti_BadLoop (okE_BadLoop T) (hr.mono (by decide)) T.be_BadLoop .nil pass0 (by rfl) T.g_BadLoop (DA.pa (da_cons (de_var (pv 1) (by decide)) da_nil)))))) ds_nil)
      (ds_cons (ds_if (dt_cmp bin_eq (pt_cmpR (op_eqG (G := (GG T)) hr.units) (de_var (pv 0) (by decide)) de_int (nomark _))) (ds_one (ds_raise (C := T.a_UnknownState) rfl rfl (ps_raise rfl (takes_of rfl rfl rfl rfl) (pmk_oex T.x_UnknownState.oex T.ii_UnknownState T.ti_UnknownState (okE_UnknownState T) (hr.mono (by decide)) T.be_UnknownState .nil pass0 (by rfl) T.g_UnknownState (DA.pa (da_cons (de_var (pv 1) (by decide)) da_nil)))))) ds_nil)
      (ds_cons (ds_if (dt_cmp bin_eq (pt_cmpR (op_eqG (G := (GG T)) hr.units) (de_var (pv 0) (by decide)) de_int (nomark _))) (ds_one (ds_raise (C := T.a_BadAnswer) rfl rfl (ps_raise rfl (takes_of rfl rfl rfl rfl) (pmk_oex T.x_BadAnswer.oex T.ii_BadAnswer T.ti_BadAnswer (okE_BadAnswer T) (hr.mono (by decide)) T.be_BadAnswer .nil pass0 (by rfl) T.g_BadAnswer (DA.pa (da_cons (de_var (pv 1) (by decide)) da_nil)))))) ds_nil)
      (ds_cons (ds_if (dt_cmp bin_eq (pt_cmpR (op_eqG (G := (GG T)) hr.units) (de_var (pv 0) (by decide)) de_int (nomark _))) (ds_one (ds_raise (C := T.a_BadJoint) rfl rfl (ps_raise rfl (takes_of rfl rfl rfl rfl) (pmk_oex T.x_BadJoint.oex T.ii_BadJoint T.ti_BadJoint (okE_BadJoint T) (hr.mono (by decide)) T.be_BadJoint .nil pass0 (by rfl) T.g_BadJoint (DA.pa (da_cons (de_var (pv 1) (by decide)) da_nil)))))) ds_nil)
      (ds_cons (ds_if (dt_cmp bin_eq (pt_cmpR (op_eqG (G := (GG T)) hr.units) (de_var (pv 0) (by decide)) de_int (nomark _))) (ds_one (ds_raise (C := T.a_BadKind) rfl rfl (ps_raise rfl (takes_of rfl rfl rfl rfl) (pmk_oex T.x_BadKind.oex T.ii_BadKind T.ti_BadKind (okE_BadKind T) (hr.mono (by decide)) T.be_BadKind .nil pass0 (by rfl) T.g_BadKind (DA.pa (da_cons (de_var (pv 1) (by decide)) da_nil)))))) ds_nil)
      (ds_cons (ds_if (dt_cmp bin_eq (pt_cmpR (op_eqG (G := (GG T)) hr.units) (de_var (pv 0) (by decide)) de_int (nomark _))) (ds_one (ds_raiseA (C := T.a_BadWatch) rfl rfl (ps_raise rfl (takes_of rfl rfl rfl rfl) (pmk_oex T.x_BadWatch.oex T.ii_BadWatch T.ti_BadWatch (okE_BadWatch T) (hr.mono (by decide)) T.be_BadWatch .nil pass0 (by rfl) T.g_BadWatch (DA.pa (da_cons (de_var (pv 1) (by decide)) da_nil)))))) ds_nil)
      (ds_cons (ds_if (dt_cmp bin_eq (pt_cmpR (op_eqG (G := (GG T)) hr.units) (de_var (pv 0) (by decide)) de_int (nomark _))) (ds_one (ds_raiseN (C := T.a_BadRow) rfl (ps_raise rfl (takes_of rfl rfl rfl rfl) (pmk_oexN T.x_BadRow.oex T.ii_BadRow T.ti_BadRow (okE_BadRow T) (hr.mono (by decide)) T.be_BadRow pass0 (by rfl) T.g_BadRow)))) ds_nil)
      (ds_one (ds_raiseN (C := T.a_BadTable) rfl (ps_raise rfl (takes_of rfl rfl rfl rfl) (pmk_oexN T.x_BadTable.oex T.ii_BadTable T.ti_BadTable (okE_BadTable T) (hr.mono (by decide)) T.be_BadTable pass0 (by rfl) T.g_BadTable)))))))))))))), fn_read h⟩
theorem ok__law_fields (T : Tx P w K mg) : FnOk P w K mg base CX0 4 T.a__law_fields T.fd__law_fields ["_law_how", "_law_a"] (spD (GG T) f__law_fields) := by
  refine T.F__law_fields.ok sc__law_fields (fun vs H Q E h => fn_len h) (fun cdv A outer s H vs Q E hr h => ?_)
  have hu := hu_of hr
  refine ⟨tS (GG T) [] [] [] E b__law_fields, (ds_cons (ds_set rfl (ps_set (i := 2) sc__law_fields.nd rfl (by first | exact Or.inl rfl | exact Or.inr rfl) (de_lst da_nil (by decide))))
      (ds_cons (ds_try (L := [0, 1, 2, 3, 4, 5, 6, 7, 8, 9, 10]) rfl rfl sc__law_fields.nd (fun W pn xe tk => (ds_oneW (ds_exprW (ps_expr (de_callW (E := fun _ _ _ => False) (pe_callS (ok__law_raised T) (hr.mono (by decide)) (by rfl) T.g__law_raised T.F__law_raised.kp T.b__law_raised (fun σ => passAt tk σ) (DA.pa (da_cons (de_var (pv 0) (by decide)) (da_cons (de_var (pv 1) (by decide)) da_nil))))))))) (HdsD.as (k := 0) (i := 3) (by decide) rfl rfl ⟨by rfl, by decide, .inl T.g_BadNumber⟩ (by intro c hc; simp only [List.mem_cons, List.not_mem_nil, or_false] at hc; rcases hc with rfl | rfl | rfl | rfl | rfl | rfl | rfl | rfl | rfl | rfl | rfl <;> first | exact T.xm_BadNumber_BadNumber | exact T.xm_BadTolerance_BadNumber | exact T.xm_BadGroup_BadNumber | exact T.xm_BadLoop_BadNumber | exact T.xm_UnknownState_BadNumber | exact T.xm_BadAnswer_BadNumber | exact T.xm_BadJoint_BadNumber | exact T.xm_BadKind_BadNumber | exact T.xm_BadWatch_BadNumber | exact T.xm_BadRow_BadNumber | exact T.xm_BadTable_BadNumber) (fun a oe cls d pn hz hf => pss_one (ps_set (i := 2) sc__law_fields.nd rfl (by first | exact Or.inl rfl | exact Or.inr rfl) (pe_lst (pa_cons pe_int (pa_cons (pe_xf T.xf_BadNumber T.nf_BadNumber hz hf (pv 3)) pa_nil))))) (su_fldLT (C := T.a_BadNumber) rfl rfl (fun _ _ => .int _)) (HdsD.as (k := 1) (i := 3) (by decide) rfl rfl ⟨by rfl, by decide, .inl T.g_BadTolerance⟩ (by intro c hc; simp only [List.mem_cons, List.not_mem_nil, or_false] at hc; rcases hc with rfl | rfl | rfl | rfl | rfl | rfl | rfl | rfl | rfl | rfl | rfl <;> first | exact T.xm_BadNumber_BadTolerance | exact T.xm_BadTolerance_BadTolerance | exact T.xm_BadGroup_BadTolerance | exact T.xm_BadLoop_BadTolerance | exact T.xm_UnknownState_BadTolerance | exact T.xm_BadAnswer_BadTolerance | exact T.xm_BadJoint_BadTolerance | exact T.xm_BadKind_BadTolerance | exact T.xm_BadWatch_BadTolerance | exact T.xm_BadRow_BadTolerance | exact T.xm_BadTable_BadTolerance) (fun a oe cls d pn hz hf => pss_one (ps_set (i := 2) sc__law_fields.nd rfl (by first | exact Or.inl rfl | exact Or.inr rfl) (pe_lst (pa_cons pe_int (pa_cons (pe_xf T.xf_BadTolerance T.nf_BadTolerance hz hf (pv 3)) pa_nil))))) (su_fldLT (C := T.a_BadTolerance) rfl rfl (fun _ _ => .int _)) (HdsD.as (k := 2) (i := 3) (by decide) rfl rfl ⟨by rfl, by decide, .inl T.g_BadGroup⟩ (by intro c hc; simp only [List.mem_cons, List.not_mem_nil, or_false] at hc; rcases hc with rfl | rfl | rfl | rfl | rfl | rfl | rfl | rfl | rfl | rfl | rfl <;> first | exact T.xm_BadNumber_BadGroup | exact T.xm_BadTolerance_BadGroup | exact T.xm_BadGroup_BadGroup | exact T.xm_BadLoop_BadGroup | exact T.xm_UnknownState_BadGroup | exact T.xm_BadAnswer_BadGroup | exact T.xm_BadJoint_BadGroup | exact T.xm_BadKind_BadGroup | exact T.xm_BadWatch_BadGroup | exact T.xm_BadRow_BadGroup | exact T.xm_BadTable_BadGroup) (fun a oe cls d pn hz hf => pss_one (ps_set (i := 2) sc__law_fields.nd rfl (by first | exact Or.inl rfl | exact Or.inr rfl) (pe_lst (pa_cons pe_int (pa_cons (pe_xf T.xf_BadGroup T.nf_BadGroup hz hf (pv 3)) pa_nil))))) (su_fldLT (C := T.a_BadGroup) rfl rfl (fun _ _ => .int _)) (HdsD.as (k := 3) (i := 3) (by decide) rfl rfl ⟨by rfl, by decide, .inl T.g_BadLoop⟩ (by intro c hc; simp only [List.mem_cons, List.not_mem_nil, or_false] at hc; rcases hc with rfl | rfl | rfl | rfl | rfl | rfl | rfl | rfl | rfl | rfl | rfl <;> first | exact T.xm_BadNumber_BadLoop | exact T.xm_BadTolerance_BadLoop | exact T.xm_BadGroup_BadLoop | exact T.xm_BadLoop_BadLoop | exact T.xm_UnknownState_BadLoop | exact T.xm_BadAnswer_BadLoop | exact T.xm_BadJoint_BadLoop | exact T.xm_BadKind_BadLoop | exact T.xm_BadWatch_BadLoop | exact T.xm_BadRow_BadLoop | exact T.xm_BadTable_BadLoop) (fun a oe cls d pn hz hf => pss_one (ps_set (i := 2) sc__law_fields.nd rfl (by first | exact Or.inl rfl | exact Or.inr rfl) (pe_lst (pa_cons pe_int (pa_cons (pe_xf T.xf_BadLoop T.nf_BadLoop hz hf (pv 3)) pa_nil))))) (su_fldLT (C := T.a_BadLoop) rfl rfl (fun _ _ => .int _)) (HdsD.as (k := 4) (i := 3) (by decide) rfl rfl ⟨by rfl, by decide, .inl T.g_UnknownState⟩ (by intro c hc; simp only [List.mem_cons, List.not_mem_nil, or_false] at hc; rcases hc with rfl | rfl | rfl | rfl | rfl | rfl | rfl | rfl | rfl | rfl | rfl <;> first | exact T.xm_BadNumber_UnknownState | exact T.xm_BadTolerance_UnknownState | exact T.xm_BadGroup_UnknownState | exact T.xm_BadLoop_UnknownState | exact T.xm_UnknownState_UnknownState | exact T.xm_BadAnswer_UnknownState | exact T.xm_BadJoint_UnknownState | exact T.xm_BadKind_UnknownState | exact T.xm_BadWatch_UnknownState | exact T.xm_BadRow_UnknownState | exact T.xm_BadTable_UnknownState) (fun a oe cls d pn hz hf => pss_one (ps_set (i := 2) sc__law_fields.nd rfl (by first | exact Or.inl rfl | exact Or.inr rfl) (pe_lst (pa_cons pe_int (pa_cons (pe_xf T.xf_UnknownState T.nf_UnknownState hz hf (pv 3)) pa_nil))))) (su_fldLT (C := T.a_UnknownState) rfl rfl (fun _ _ => .int _)) (HdsD.as (k := 5) (i := 3) (by decide) rfl rfl ⟨by rfl, by decide, .inl T.g_BadAnswer⟩ (by intro c hc; simp only [List.mem_cons, List.not_mem_nil, or_false] at hc; rcases hc with rfl | rfl | rfl | rfl | rfl | rfl | rfl | rfl | rfl | rfl | rfl <;> first | exact T.xm_BadNumber_BadAnswer | exact T.xm_BadTolerance_BadAnswer | exact T.xm_BadGroup_BadAnswer | exact T.xm_BadLoop_BadAnswer | exact T.xm_UnknownState_BadAnswer | exact T.xm_BadAnswer_BadAnswer | exact T.xm_BadJoint_BadAnswer | exact T.xm_BadKind_BadAnswer | exact T.xm_BadWatch_BadAnswer | exact T.xm_BadRow_BadAnswer | exact T.xm_BadTable_BadAnswer) (fun a oe cls d pn hz hf => pss_one (ps_set (i := 2) sc__law_fields.nd rfl (by first | exact Or.inl rfl | exact Or.inr rfl) (pe_lst (pa_cons pe_int (pa_cons (pe_xf T.xf_BadAnswer T.nf_BadAnswer hz hf (pv 3)) pa_nil))))) (su_fldLT (C := T.a_BadAnswer) rfl rfl (fun _ _ => .int _)) (HdsD.as (k := 6) (i := 3) (by decide) rfl rfl ⟨by rfl, by decide, .inl T.g_BadJoint⟩ (by intro c hc; simp only [List.mem_cons, List.not_mem_nil, or_false] at hc; rcases hc with rfl | rfl | rfl | rfl | rfl | rfl | rfl | rfl | rfl | rfl | rfl <;> first | exact T.xm_BadNumber_BadJoint | exact T.xm_BadTolerance_BadJoint | exact T.xm_BadGroup_BadJoint | exact T.xm_BadLoop_BadJoint | exact T.xm_UnknownState_BadJoint | exact T.xm_BadAnswer_BadJoint | exact T.xm_BadJoint_BadJoint | exact T.xm_BadKind_BadJoint | exact T.xm_BadWatch_BadJoint | exact T.xm_BadRow_BadJoint | exact T.xm_BadTable_BadJoint) (fun a oe cls d pn hz hf => pss_one (ps_set (i := 2) sc__law_fields.nd rfl (by first | exact Or.inl rfl | exact Or.inr rfl) (pe_lst (pa_cons pe_int (pa_cons (pe_xf T.xf_BadJoint T.nf_BadJoint hz hf (pv 3)) pa_nil))))) (su_fldLT (C := T.a_BadJoint) rfl rfl (fun _ _ => .int _)) (HdsD.as (k := 7) (i := 3) (by decide) rfl rfl ⟨by rfl, by decide, .inl T.g_BadKind⟩ (by intro c hc; simp only [List.mem_cons, List.not_mem_nil, or_false] at hc; rcases hc with rfl | rfl | rfl | rfl | rfl | rfl | rfl | rfl | rfl | rfl | rfl <;> first | exact T.xm_BadNumber_BadKind | exact T.xm_BadTolerance_BadKind | exact T.xm_BadGroup_BadKind | exact T.xm_BadLoop_BadKind | exact T.xm_UnknownState_BadKind | exact T.xm_BadAnswer_BadKind | exact T.xm_BadJoint_BadKind | exact T.xm_BadKind_BadKind | exact T.xm_BadWatch_BadKind | exact T.xm_BadRow_BadKind | exact T.xm_BadTable_BadKind) (fun a oe cls d pn hz hf => pss_one (ps_set (i := 2) sc__law_fields.nd rfl (by first | exact Or.inl rfl | exact Or.inr rfl) (pe_lst (pa_cons pe_int (pa_cons (pe_xf T.xf_BadKind T.nf_BadKind hz hf (pv 3)) pa_nil))))) (su_fldLT (C := T.a_BadKind) rfl rfl (fun _ _ => .int _)) (HdsD.as (k := 8) (i := 3) (by decide) rfl rfl ⟨by rfl, by decide, .inl T.g_BadWatch⟩ (by intro c hc; simp only [List.mem_cons, List.not_mem_nil, or_false] at hc; rcases hc with rfl | rfl | rfl | rfl | rfl | rfl | rfl | rfl | rfl | rfl | rfl <;> first | exact T.xm_BadNumber_BadWatch | exact T.xm_BadTolerance_BadWatch | exact T.xm_BadGroup_BadWatch | exact T.xm_BadLoop_BadWatch | exact T.xm_UnknownState_BadWatch | exact T.xm_BadAnswer_BadWatch | exact T.xm_BadJoint_BadWatch | exact T.xm_BadKind_BadWatch | exact T.xm_BadWatch_BadWatch | exact T.xm_BadRow_BadWatch | exact T.xm_BadTable_BadWatch) (fun a oe cls d pn hz hf => pss_one (ps_set (i := 2) sc__law_fields.nd rfl (by first | exact Or.inl rfl | exact Or.inr rfl) (pe_lst (pa_cons pe_int (pa_cons (pe_xf T.xf_BadWatch T.nf_BadWatch hz hf (pv 3)) pa_nil))))) (su_fldLT (C := T.a_BadWatch) rfl rfl (fun _ _ => .int _)) (HdsD.only (k := 9) ⟨by rfl, by decide, .inl T.g_BadRow⟩ (by intro c hc; simp only [List.mem_cons, List.not_mem_nil, or_false] at hc; rcases hc with rfl | rfl | rfl | rfl | rfl | rfl | rfl | rfl | rfl | rfl | rfl <;> first | exact T.xm_BadNumber_BadRow | exact T.xm_BadTolerance_BadRow | exact T.xm_BadGroup_BadRow | exact T.xm_BadLoop_BadRow | exact T.xm_UnknownState_BadRow | exact T.xm_BadAnswer_BadRow | exact T.xm_BadJoint_BadRow | exact T.xm_BadKind_BadRow | exact T.xm_BadWatch_BadRow | exact T.xm_BadRow_BadRow | exact T.xm_BadTable_BadRow) (fun a oe cls d pn hz hf => (ds_one (ds_set rfl (ps_set (i := 2) sc__law_fields.nd rfl (by first | exact Or.inl rfl | exact Or.inr rfl) (de_lst (da_cons de_int (da_cons (de_var (pv 1) (by decide)) da_nil)) (by decide)))))) (su_plain (E0 := fun _ _ _ => False) su_noX) (HdsD.only (k := 10) ⟨by rfl, by decide, .inl T.g_BadTable⟩ (by intro c hc; simp only [List.mem_cons, List.not_mem_nil, or_false] at hc; rcases hc with rfl | rfl | rfl | rfl | rfl | rfl | rfl | rfl | rfl | rfl | rfl <;> first | exact T.xm_BadNumber_BadTable | exact T.xm_BadTolerance_BadTable | exact T.xm_BadGroup_BadTable | exact T.xm_BadLoop_BadTable | exact T.xm_UnknownState_BadTable | exact T.xm_BadAnswer_BadTable | exact T.xm_BadJoint_BadTable | exact T.xm_BadKind_BadTable | exact T.xm_BadWatch_BadTable | exact T.xm_BadRow_BadTable | exact T.xm_BadTable_BadTable) (fun a oe cls d pn hz hf => (ds_one (ds_set rfl (ps_set (i := 2) sc__law_fields.nd rfl (by first | exact Or.inl rfl | exact Or.inr rfl) (de_lst (da_cons de_int (da_cons (de_var (pv 1) (by decide)) da_nil)) (by decide)))))) (su_plain (E0 := fun _ _ _ => False) su_noX) HdsD.nil))))))))))))
      (ds_one (ds_ret (de_var (pv 2) (by decide)))))), fn_read h⟩
theorem ok__law_caught (T : Tx P w K mg) : FnOk P w K mg base CX0 4 T.a__law_caught T.fd__law_caught ["_law_how", "_law_a"] (spD (GG T) f__law_caught) := by
  refine T.F__law_caught.ok sc__law_caught (fun vs H Q E h => fn_len h) (fun cdv A outer s H vs Q E hr h => ?_)
  have hu := hu_of hr
  refine ⟨tS (GG T) [] [] [] E b__law_caught, (ds_cons (ds_set rfl (ps_set (i := 2) sc__law_caught.nd rfl (by first | exact Or.inl rfl | exact Or.inr rfl) (de_lst da_nil (by decide))))
      (ds_cons (ds_tryI (M1 := [some 0, some 1, some 2]) (M2 := [some 3, some 4, some 5]) (M3 := [some 6, some 7, some 8]) (M4 := [some 9, some 10, none]) (NE := T.a_NearError) rfl rfl sc__law_caught.nd (fun W pn xe tk => (ds_oneW (ds_exprW (ps_expr (de_callW (E := fun _ _ _ => False) (pe_callS (ok__law_raised T) (hr.mono (by decide)) (by rfl) T.g__law_raised T.F__law_raised.kp T.b__law_raised (fun σ => passAt tk σ) (DA.pa (da_cons (de_var (pv 0) (by decide)) (da_cons (de_var (pv 1) (by decide)) da_nil))))))))) (by simp) rfl rfl ⟨by rfl, by decide, .inl T.g_NearError⟩ (xn_all T) (by decide) (isok_all T) (by decide) (fun a oe cls d pn hz hf => (pss_cons (ps_set (i := 2) sc__law_caught.nd rfl (by first | exact Or.inl rfl | exact Or.inr rfl) (pe_lst (pa_cons (pe_callB (call_isC hz hf) (by rfl) T.m_isinstance (by decide +kernel) (pa_cons (pv 3) (pa_cons (pe_glob (by rfl) T.g_BadNumber rfl) pa_nil))) (pa_cons (pe_callB (call_isC hz hf) (by rfl) T.m_isinstance (by decide +kernel) (pa_cons (pv 3) (pa_cons (pe_glob (by rfl) T.g_BadTolerance rfl) pa_nil))) (pa_cons (pe_callB (call_isC hz hf) (by rfl) T.m_isinstance (by decide +kernel) (pa_cons (pv 3) (pa_cons (pe_glob (by rfl) T.g_BadGroup rfl) pa_nil))) pa_nil))))) (pss_cons (ps_set (i := 2) sc__law_caught.nd rfl (by first | exact Or.inl rfl | exact Or.inr rfl) (pe_op op_cat (pv 2) (pe_lst (pa_cons (pe_callB (call_isC hz hf) (by rfl) T.m_isinstance (by decide +kernel) (pa_cons (pv 3) (pa_cons (pe_glob (by rfl) T.g_BadLoop rfl) pa_nil))) (pa_cons (pe_callB (call_isC hz hf) (by rfl) T.m_isinstance (by decide +kernel) (pa_cons (pv 3) (pa_cons (pe_glob (by rfl) T.g_UnknownState rfl) pa_nil))) (pa_cons (pe_callB (call_isC hz hf) (by rfl) T.m_isinstance (by decide +kernel) (pa_cons (pv 3) (pa_cons (pe_glob (by rfl) T.g_BadAnswer rfl) pa_nil))) pa_nil)))))) (pss_cons (ps_set (i := 2) sc__law_caught.nd rfl (by first | exact Or.inl rfl | exact Or.inr rfl) (pe_op op_cat (pv 2) (pe_lst (pa_cons (pe_callB (call_isC hz hf) (by rfl) T.m_isinstance (by decide +kernel) (pa_cons (pv 3) (pa_cons (pe_glob (by rfl) T.g_BadJoint rfl) pa_nil))) (pa_cons (pe_callB (call_isC hz hf) (by rfl) T.m_isinstance (by decide +kernel) (pa_cons (pv 3) (pa_cons (pe_glob (by rfl) T.g_BadKind rfl) pa_nil))) (pa_cons (pe_callB (call_isC hz hf) (by rfl) T.m_isinstance (by decide +kernel) (pa_cons (pv 3) (pa_cons (pe_glob (by rfl) T.g_BadWatch rfl) pa_nil))) pa_nil)))))) (pss_one (ps_set (i := 2) sc__law_caught.nd rfl (by first | exact Or.inl rfl | exact Or.inr rfl) (pe_op op_cat (pv 2) (pe_lst (pa_cons (pe_callB (call_isC hz hf) (by rfl) T.m_isinstance (by decide +kernel) (pa_cons (pv 3) (pa_cons (pe_glob (by rfl) T.g_BadRow rfl) pa_nil))) (pa_cons (pe_callB (call_isC hz hf) (by rfl) T.m_isinstance (by decide +kernel) (pa_cons (pv 3) (pa_cons (pe_glob (by rfl) T.g_BadTable rfl) pa_nil))) (pa_cons (pe_callB (call_isC hz hf) (by rfl) T.m_isinstance (by decide +kernel) (pa_cons (pv 3) (pa_cons (pe_bltn (v := .ty "ValueError") (by rfl) T.m_ValueError (by decide +kernel) rfl) pa_nil))) pa_nil))))))))))))
      (ds_one (ds_ret (de_bin (m := true) bin_eq (pe_cmpR (op_eqG (G := (GG T)) hr.units) (de_var (pv 2) (by decide)) (de_bin bin_add (pe_op (op_addA (G := (GG T))) (de_ofN (de_lcN (by decide) (by decide) (pe_lc (own := [("_law_k", 4)]) (by rfl) sc__law_caught.nd (di_rng1 (pi_range1 rfl T.m_range (DA.pa (da_cons de_int da_nil)))) (blkOk_by (own := [("_law_k", 4)]) (N := N__law_caught) (sc := defScope s__law_caught) (by decide +kernel)) (fun _ _ _ _ _ => (dg_name (pg_name (i := 4) sc__law_caught.nd rfl (by first | exact Or.inl rfl | exact Or.inr rfl)) (by decide))) (fun _ _ _ _ _ => dts_nil) (fun _ _ _ _ _ => (de_bin (m := true) bin_eq (pe_cmpR (op_eqG (G := (GG T)) hr.units) (de_var (pv 4) (by decide)) (de_var (pv 0) (by decide)) (nomark _))))))) (de_lst (da_cons de_bl da_nil) (by decide)))) (nomark _))))))), fn_read h⟩
def sp_law (K : PySem.W.Frag) : Sp := fun vs H Q _ => ∃ (a : Addr) (ns : List Int), vs = [.ref a] ∧ SqL K H a (ns.map V.int) ∧ ns.length ≤ 63 ∧ ∀ H', Q (.bl true) H'
theorem ok_law (T : Tx P w K mg) : FnOk P w K mg base CX0 5 T.a_law T.fd_law ["_law_script"] (sp_law K) := by
  refine T.F_law.ok sc_law (fun vs H Q E h => ?_) (fun cdv A outer s H vs Q E hr h => ?_)
  · obtain ⟨p, c, rfl, _⟩ := h; rfl
  · obtain ⟨a, ns, rfl, hS, hlen, q⟩ := h
    have hu := hu_of hr
    refine ⟨_, pss_cons (ps_set (i := 1) sc_law.nd rfl (by first | exact Or.inl rfl | exact Or.inr rfl) (pe_call (ok__law_source T) (hr.mono (by decide)) rfl T.g__law_source T.F__law_source.kp T.b__law_source .nil pass0 (pa_cons (pv 0) pa_nil)))
      (show PSs _ _ (tS (GG T) [] [] [] E b_law) from (ds_cons (ds_set rfl (ps_set (i := 2) sc_law.nd rfl (by first | exact Or.inl rfl | exact Or.inr rfl) (de_lst (da_cons (de_bin (m := true) bin_sub (pe_op op_sub (de_coe (de_call (pe_call (ok__law_draw T) (hr.mono (by decide)) (by rfl) T.g__law_draw T.F__law_draw.kp T.b__law_draw .nil pass0 (DA.pa (da_cons (de_var (pv 1) (by decide)) (da_cons de_int da_nil)))))) de_int)) (da_cons de_str (da_cons de_str (da_cons (de_tup (da_cons de_int (da_cons de_int da_nil)) (by decide)) (da_cons de_non (da_cons de_bl (da_cons (de_bin (m := true) bin_pow (pe_op op_pow de_int de_int)) (da_cons (de_tup da_nil (by decide)) da_nil)))))))) (by decide))))
      (ds_cons (ds_for (ps_for PassesOwn.never rfl (di_rng1 (pi_range1 rfl T.m_range (DA.pa (da_cons de_int da_nil)))) (dg_name (pg_name (i := 3) sc_law.nd rfl (by first | exact Or.inl rfl | exact Or.inr rfl)) (by decide))
        (ds_cons (ds_set rfl (ps_set (i := 4) sc_law.nd rfl (by first | exact Or.inl rfl | exact Or.inr rfl) (de_call (pe_call (ok__law_pick T) (hr.mono (by decide)) (by rfl) T.g__law_pick T.F__law_pick.kp T.b__law_pick .nil pass0 (DA.pa (da_cons (de_var (pv 1) (by decide)) (da_cons (de_var (pv 2) (by decide)) da_nil)))))))
      (ds_one (ds_if (PW.pt (dw_or (dt_cmp bin_ne (pt_cmpR (op_neG (G := (GG T)) hr.units) (de_coe (de_call (pe_call (ok__law_fields T) (hr.mono (by decide)) (by rfl) T.g__law_fields T.F__law_fields.kp T.b__law_fields .nil pass0 (DA.pa (da_cons (de_var (pv 3) (by decide)) (da_cons (de_var (pv 4) (by decide)) da_nil)))))) (de_lst (da_cons (de_var (pv 3) (by decide)) (da_cons (de_var (pv 4) (by decide)) da_nil)) (by decide)) (nomark _))) (pw_or1 (dt_not (dt_val (de_coe (de_call (pe_call (ok__law_caught T) (hr.mono (by decide)) (by rfl) T.g__law_caught T.F__law_caught.kp T.b__law_caught .nil pass0 (DA.pa (da_cons (de_var (pv 3) (by decide)) (da_cons (de_var (pv 4) (by decide)) da_nil))))))))))) (ds_one (ds_ret de_bl)) ds_nil)))))
      (ds_cons (ds_set rfl (ps_set (i := 5) sc_law.nd rfl (by first | exact Or.inl rfl | exact Or.inr rfl) (de_lst (da_cons (de_kef (C := T.a_BadNumber) (pe_kef T.x_BadNumber.oex T.xf_BadNumber T.nf_BadNumber T.ii_BadNumber T.ti_BadNumber (okE_BadNumber T) (hr.mono (by decide)) T.bk_BadNumber pass0 (by rfl) T.g_BadNumber de_int)) (da_cons (de_kef (C := T.a_BadTolerance) (pe_kef T.x_BadTolerance.oex T.xf_BadTolerance T.nf_BadTolerance T.ii_BadTolerance T.ti_BadTolerance (okE_BadTolerance T) (hr.mono (by decide)) T.bk_BadTolerance pass0 (by rfl) T.g_BadTolerance de_str)) (da_cons (de_kef (C := T.a_BadGroup) (pe_kef T.x_BadGroup.oex T.xf_BadGroup T.nf_BadGroup T.ii_BadGroup T.ti_BadGroup (okE_BadGroup T) (hr.mono (by decide)) T.bk_BadGroup pass0 (by rfl) T.g_BadGroup de_int)) da_nil))) (by decide))))
      (ds_cons (ds_set rfl (ps_set (i := 5) sc_law.nd rfl (by first | exact Or.inl rfl | exact Or.inr rfl) (de_bin bin_add (pe_op (op_addA (G := (GG T))) (de_var (pv 5) (by decide)) (de_lst (da_cons (de_kefA rfl (C := T.a_BadLoop) (pe_kef T.x_BadLoop.oex T.xf_BadLoop T.nf_BadLoop T.ii_BadLoop T.ti_BadLoop (okE_BadLoop T) (hr.mono (by decide)) T.bk_BadLoop pass0 (by rfl) T.g_BadLoop de_int)) (da_cons (de_kef (C := T.a_UnknownState) (pe_kef T.x_UnknownState.oex T.xf_UnknownState T.nf_UnknownState T.ii_UnknownState T.ti_UnknownState (okE_UnknownState T) (hr.mono (by decide)) T.bk_UnknownState pass0 (by rfl) T.g_UnknownState de_int)) (da_cons (de_kef (C := T.a_BadAnswer) (pe_kef T.x_BadAnswer.oex T.xf_BadAnswer T.nf_BadAnswer T.ii_BadAnswer T.ti_BadAnswer (okE_BadAnswer T) (hr.mono (by decide)) T.bk_BadAnswer pass0 (by rfl) T.g_BadAnswer de_int)) da_nil))) (by decide))))))
      (ds_cons (ds_set rfl (ps_set (i := 5) sc_law.nd rfl (by first | exact Or.inl rfl | exact Or.inr rfl) (de_bin bin_add (pe_op (op_addA (G := (GG T))) (de_var (pv 5) (by decide)) (de_lst (da_cons (de_kef (C := T.a_BadJoint) (pe_kef T.x_BadJoint.oex T.xf_BadJoint T.nf_BadJoint T.ii_BadJoint T.ti_BadJoint (okE_BadJoint T) (hr.mono (by decide)) T.bk_BadJoint pass0 (by rfl) T.g_BadJoint de_int)) (da_cons (de_kef (C := T.a_BadKind) (pe_kef T.x_BadKind.oex T.xf_BadKind T.nf_BadKind T.ii_BadKind T.ti_BadKind (okE_BadKind T) (hr.mono (by decide)) T.bk_BadKind pass0 (by rfl) T.g_BadKind de_int)) (da_cons (de_kefA rfl (C := T.a_BadWatch) (pe_kef T.x_BadWatch.oex T.xf_BadWatch T.nf_BadWatch T.ii_BadWatch T.ti_BadWatch (okE_BadWatch T) (hr.mono (by decide)) T.bk_BadWatch pass0 (by rfl) T.g_BadWatch de_int)) da_nil))) (by decide))))))
      (ds_one (ds_ret (de_bin (m := true) bin_eq (pe_cmpR (op_eqG (G := (GG T)) hr.units) (de_var (pv 5) (by decide)) (de_lst (da_cons de_int (da_cons de_str (da_cons de_int (da_cons de_int (da_cons de_int (da_cons de_int (da_cons de_int (da_cons de_int (da_cons de_int da_nil))))))))) (by decide)) (nomark _))))))))))), ?_⟩
    refine ⟨_, rfl, a, ns, rfl, hS, fun H1 p sm np hs1 => ?_⟩
    exact law_readS (k := 4) hs1 q law_pure
end
theorem all_mk {l : PySem.W.OpenLaw} {w : World} {K : PySem.W.Frag} {h : Heap} {mg : Str → Option Value} {fa : Addr} (X : K.In h) (G : h.Ns mainGlobals mg) (hfa : mg "law" = some (.ref fa))
    {od__law_source an__law_source : Option Addr} {sl__law_source : Array (Option Value)} {oc__law_source kV__law_source dc__law_source pm__law_source cd__law_source ct__law_source : Value} {f__law_source : Addr}
    {od__law_draw an__law_draw : Option Addr} {sl__law_draw : Array (Option Value)} {oc__law_draw kV__law_draw dc__law_draw pm__law_draw cd__law_draw ct__law_draw : Value} {f__law_draw : Addr}
    {od__law_pick an__law_pick : Option Addr} {sl__law_pick : Array (Option Value)} {oc__law_pick kV__law_pick dc__law_pick pm__law_pick cd__law_pick ct__law_pick : Value} {f__law_pick : Addr}
    {od__law_raised an__law_raised : Option Addr} {sl__law_raised : Array (Option Value)} {oc__law_raised kV__law_raised dc__law_raised pm__law_raised cd__law_raised ct__law_raised : Value} {f__law_raised : Addr}
    {od__law_fields an__law_fields : Option Addr} {sl__law_fields : Array (Option Value)} {oc__law_fields kV__law_fields dc__law_fields pm__law_fields cd__law_fields ct__law_fields : Value} {f__law_fields : Addr}
    {od__law_caught an__law_caught : Option Addr} {sl__law_caught : Array (Option Value)} {oc__law_caught kV__law_caught dc__law_caught pm__law_caught cd__law_caught ct__law_caught : Value} {f__law_caught : Addr}
    {od_law an_law : Option Addr} {sl_law : Array (Option Value)} {oc_law kV_law dc_law pm_law cd_law ct_law : Value} {f_law : Addr}
    {C_BadNumber ei_BadNumber cda_BadNumber cc_BadNumber NN_BadNumber : Addr} {oce_BadNumber kVe_BadNumber dce_BadNumber pme_BadNumber cte_BadNumber ccl_BadNumber cl_BadNumber : Value} {ode_BadNumber ane_BadNumber cdd_BadNumber cld_BadNumber dd_BadNumber : Option Addr} {osle_BadNumber ccs_BadNumber csl_BadNumber : Array (Option Value)} {vs_BadNumber : Array Value} {file_BadNumber nm_BadNumber qn_BadNumber : Str} {tf_BadNumber : Tok} {bs_BadNumber bm_BadNumber sub_BadNumber : List Value} {sn_BadNumber : List Str} {ab_BadNumber : Bool} {col_BadNumber : Option Bool} {k0_BadNumber k1_BadNumber k2_BadNumber k3_BadNumber k5_BadNumber : Option Value}
    {C_BadTolerance ei_BadTolerance cda_BadTolerance cc_BadTolerance NN_BadTolerance : Addr} {oce_BadTolerance kVe_BadTolerance dce_BadTolerance pme_BadTolerance cte_BadTolerance ccl_BadTolerance cl_BadTolerance : Value} {ode_BadTolerance ane_BadTolerance cdd_BadTolerance cld_BadTolerance dd_BadTolerance : Option Addr} {osle_BadTolerance ccs_BadTolerance csl_BadTolerance : Array (Option Value)} {vs_BadTolerance : Array Value} {file_BadTolerance nm_BadTolerance qn_BadTolerance : Str} {tf_BadTolerance : Tok} {bs_BadTolerance bm_BadTolerance sub_BadTolerance : List Value} {sn_BadTolerance : List Str} {ab_BadTolerance : Bool} {col_BadTolerance : Option Bool} {k0_BadTolerance k1_BadTolerance k2_BadTolerance k3_BadTolerance k5_BadTolerance : Option Value}
    {C_BadGroup ei_BadGroup cda_BadGroup cc_BadGroup NN_BadGroup : Addr} {oce_BadGroup kVe_BadGroup dce_BadGroup pme_BadGroup cte_BadGroup ccl_BadGroup cl_BadGroup : Value} {ode_BadGroup ane_BadGroup cdd_BadGroup cld_BadGroup dd_BadGroup : Option Addr} {osle_BadGroup ccs_BadGroup csl_BadGroup : Array (Option Value)} {vs_BadGroup : Array Value} {file_BadGroup nm_BadGroup qn_BadGroup : Str} {tf_BadGroup : Tok} {bs_BadGroup bm_BadGroup sub_BadGroup : List Value} {sn_BadGroup : List Str} {ab_BadGroup : Bool} {col_BadGroup : Option Bool} {k0_BadGroup k1_BadGroup k2_BadGroup k3_BadGroup k5_BadGroup : Option Value}
    {C_BadLoop ei_BadLoop cda_BadLoop cc_BadLoop NN_BadLoop : Addr} {oce_BadLoop kVe_BadLoop dce_BadLoop pme_BadLoop cte_BadLoop ccl_BadLoop cl_BadLoop : Value} {ode_BadLoop ane_BadLoop cdd_BadLoop cld_BadLoop dd_BadLoop : Option Addr} {osle_BadLoop ccs_BadLoop csl_BadLoop : Array (Option Value)} {vs_BadLoop : Array Value} {file_BadLoop nm_BadLoop qn_BadLoop : Str} {tf_BadLoop : Tok} {bs_BadLoop bm_BadLoop sub_BadLoop : List Value} {sn_BadLoop : List Str} {ab_BadLoop : Bool} {col_BadLoop : Option Bool} {k0_BadLoop k1_BadLoop k2_BadLoop k3_BadLoop k5_BadLoop : Option Value}
    {C_UnknownState ei_UnknownState cda_UnknownState cc_UnknownState NN_UnknownState : Addr} {oce_UnknownState kVe_UnknownState dce_UnknownState pme_UnknownState cte_UnknownState ccl_UnknownState cl_UnknownState : Value} {ode_UnknownState ane_UnknownState cdd_UnknownState cld_UnknownState dd_UnknownState : Option Addr} {osle_UnknownState ccs_UnknownState csl_UnknownState : Array (Option Value)} {vs_UnknownState : Array Value} {file_UnknownState nm_UnknownState qn_UnknownState : Str} {tf_UnknownState : Tok} {bs_UnknownState bm_UnknownState sub_UnknownState : List Value} {sn_UnknownState : List Str} {ab_UnknownState : Bool} {col_UnknownState : Option Bool} {k0_UnknownState k1_UnknownState k2_UnknownState k3_UnknownState k5_UnknownState : Option Value}
    {C_BadAnswer ei_BadAnswer cda_BadAnswer cc_BadAnswer NN_BadAnswer : Addr} {oce_BadAnswer kVe_BadAnswer dce_BadAnswer pme_BadAnswer cte_BadAnswer ccl_BadAnswer cl_BadAnswer : Value} {ode_BadAnswer ane_BadAnswer cdd_BadAnswer cld_BadAnswer dd_BadAnswer : Option Addr} {osle_BadAnswer ccs_BadAnswer csl_BadAnswer : Array (Option Value)} {vs_BadAnswer : Array Value} {file_BadAnswer nm_BadAnswer qn_BadAnswer : Str} {tf_BadAnswer : Tok} {bs_BadAnswer bm_BadAnswer sub_BadAnswer : List Value} {sn_BadAnswer : List Str} {ab_BadAnswer : Bool} {col_BadAnswer : Option Bool} {k0_BadAnswer k1_BadAnswer k2_BadAnswer k3_BadAnswer k5_BadAnswer : Option Value}
    {C_BadJoint ei_BadJoint cda_BadJoint cc_BadJoint NN_BadJoint : Addr} {oce_BadJoint kVe_BadJoint dce_BadJoint pme_BadJoint cte_BadJoint ccl_BadJoint cl_BadJoint : Value} {ode_BadJoint ane_BadJoint cdd_BadJoint cld_BadJoint dd_BadJoint : Option Addr} {osle_BadJoint ccs_BadJoint csl_BadJoint : Array (Option Value)} {vs_BadJoint : Array Value} {file_BadJoint nm_BadJoint qn_BadJoint : Str} {tf_BadJoint : Tok} {bs_BadJoint bm_BadJoint sub_BadJoint : List Value} {sn_BadJoint : List Str} {ab_BadJoint : Bool} {col_BadJoint : Option Bool} {k0_BadJoint k1_BadJoint k2_BadJoint k3_BadJoint k5_BadJoint : Option Value}
    {C_BadKind ei_BadKind cda_BadKind cc_BadKind NN_BadKind : Addr} {oce_BadKind kVe_BadKind dce_BadKind pme_BadKind cte_BadKind ccl_BadKind cl_BadKind : Value} {ode_BadKind ane_BadKind cdd_BadKind cld_BadKind dd_BadKind : Option Addr} {osle_BadKind ccs_BadKind csl_BadKind : Array (Option Value)} {vs_BadKind : Array Value} {file_BadKind nm_BadKind qn_BadKind : Str} {tf_BadKind : Tok} {bs_BadKind bm_BadKind sub_BadKind : List Value} {sn_BadKind : List Str} {ab_BadKind : Bool} {col_BadKind : Option Bool} {k0_BadKind k1_BadKind k2_BadKind k3_BadKind k5_BadKind : Option Value}
    {C_BadWatch ei_BadWatch cda_BadWatch cc_BadWatch NN_BadWatch : Addr} {oce_BadWatch kVe_BadWatch dce_BadWatch pme_BadWatch cte_BadWatch ccl_BadWatch cl_BadWatch : Value} {ode_BadWatch ane_BadWatch cdd_BadWatch cld_BadWatch dd_BadWatch : Option Addr} {osle_BadWatch ccs_BadWatch csl_BadWatch : Array (Option Value)} {vs_BadWatch : Array Value} {file_BadWatch nm_BadWatch qn_BadWatch : Str} {tf_BadWatch : Tok} {bs_BadWatch bm_BadWatch sub_BadWatch : List Value} {sn_BadWatch : List Str} {ab_BadWatch : Bool} {col_BadWatch : Option Bool} {k0_BadWatch k1_BadWatch k2_BadWatch k3_BadWatch k5_BadWatch : Option Value}
    {C_BadRow ei_BadRow cda_BadRow cc_BadRow NN_BadRow : Addr} {oce_BadRow kVe_BadRow dce_BadRow pme_BadRow cte_BadRow ccl_BadRow cl_BadRow : Value} {ode_BadRow ane_BadRow cdd_BadRow cld_BadRow dd_BadRow : Option Addr} {osle_BadRow ccs_BadRow csl_BadRow : Array (Option Value)} {vs_BadRow : Array Value} {file_BadRow nm_BadRow qn_BadRow : Str} {tf_BadRow : Tok} {bs_BadRow bm_BadRow sub_BadRow : List Value} {sn_BadRow : List Str} {ab_BadRow : Bool} {col_BadRow : Option Bool} {k0_BadRow k1_BadRow k2_BadRow k3_BadRow k5_BadRow : Option Value}
    {C_BadTable ei_BadTable cda_BadTable cc_BadTable NN_BadTable : Addr} {oce_BadTable kVe_BadTable dce_BadTable pme_BadTable cte_BadTable ccl_BadTable cl_BadTable : Value} {ode_BadTable ane_BadTable cdd_BadTable cld_BadTable dd_BadTable : Option Addr} {osle_BadTable ccs_BadTable csl_BadTable : Array (Option Value)} {vs_BadTable : Array Value} {file_BadTable nm_BadTable qn_BadTable : Str} {tf_BadTable : Tok} {bs_BadTable bm_BadTable sub_BadTable : List Value} {sn_BadTable : List Str} {ab_BadTable : Bool} {col_BadTable : Option Bool} {k0_BadTable k1_BadTable k2_BadTable k3_BadTable k5_BadTable : Option Value}
    {C_NearError : Addr}
    (a__law_source : PySem.W.nsIn K mainGlobals "_law_source" = some (some (.ref f__law_source)))
    (l__law_source : K.lookup f__law_source = some ⟨oc__law_source, od__law_source, .func (PySem.W.fnOf "_law_source" "_law_source" (defArgs s__law_source) (defBody s__law_source) (defScope s__law_source) .none kV__law_source dc__law_source pm__law_source an__law_source cd__law_source ct__law_source), sl__law_source⟩) (c__law_source : PySem.W.codeIn K cd__law_source "_law_source" = true) (k__law_source : PySem.W.keepIn K (.ref f__law_source) = true)
    (a__law_draw : PySem.W.nsIn K mainGlobals "_law_draw" = some (some (.ref f__law_draw)))
    (l__law_draw : K.lookup f__law_draw = some ⟨oc__law_draw, od__law_draw, .func (PySem.W.fnOf "_law_draw" "_law_draw" (defArgs s__law_draw) (defBody s__law_draw) (defScope s__law_draw) .none kV__law_draw dc__law_draw pm__law_draw an__law_draw cd__law_draw ct__law_draw), sl__law_draw⟩) (c__law_draw : PySem.W.codeIn K cd__law_draw "_law_draw" = true) (k__law_draw : PySem.W.keepIn K (.ref f__law_draw) = true)
    (a__law_pick : PySem.W.nsIn K mainGlobals "_law_pick" = some (some (.ref f__law_pick)))
    (l__law_pick : K.lookup f__law_pick = some ⟨oc__law_pick, od__law_pick, .func (PySem.W.fnOf "_law_pick" "_law_pick" (defArgs s__law_pick) (defBody s__law_pick) (defScope s__law_pick) .none kV__law_pick dc__law_pick pm__law_pick an__law_pick cd__law_pick ct__law_pick), sl__law_pick⟩) (c__law_pick : PySem.W.codeIn K cd__law_pick "_law_pick" = true) (k__law_pick : PySem.W.keepIn K (.ref f__law_pick) = true)
    (a__law_raised : PySem.W.nsIn K mainGlobals "_law_raised" = some (some (.ref f__law_raised)))
    (l__law_raised : K.lookup f__law_raised = some ⟨oc__law_raised, od__law_raised, .func (PySem.W.fnOf "_law_raised" "_law_raised" (defArgs s__law_raised) (defBody s__law_raised) (defScope s__law_raised) .none kV__law_raised dc__law_raised pm__law_raised an__law_raised cd__law_raised ct__law_raised), sl__law_raised⟩) (c__law_raised : PySem.W.codeIn K cd__law_raised "_law_raised" = true) (k__law_raised : PySem.W.keepIn K (.ref f__law_raised) = true)
    (a__law_fields : PySem.W.nsIn K mainGlobals "_law_fields" = some (some (.ref f__law_fields)))
    (l__law_fields : K.lookup f__law_fields = some ⟨oc__law_fields, od__law_fields, .func (PySem.W.fnOf "_law_fields" "_law_fields" (defArgs s__law_fields) (defBody s__law_fields) (defScope s__law_fields) .none kV__law_fields dc__law_fields pm__law_fields an__law_fields cd__law_fields ct__law_fields), sl__law_fields⟩) (c__law_fields : PySem.W.codeIn K cd__law_fields "_law_fields" = true) (k__law_fields : PySem.W.keepIn K (.ref f__law_fields) = true)
    (a__law_caught : PySem.W.nsIn K mainGlobals "_law_caught" = some (some (.ref f__law_caught)))
    (l__law_caught : K.lookup f__law_caught = some ⟨oc__law_caught, od__law_caught, .func (PySem.W.fnOf "_law_caught" "_law_caught" (defArgs s__law_caught) (defBody s__law_caught) (defScope s__law_caught) .none kV__law_caught dc__law_caught pm__law_caught an__law_caught cd__law_caught ct__law_caught), sl__law_caught⟩) (c__law_caught : PySem.W.codeIn K cd__law_caught "_law_caught" = true) (k__law_caught : PySem.W.keepIn K (.ref f__law_caught) = true)
    (a_law : PySem.W.nsIn K mainGlobals "law" = some (some (.ref f_law)))
    (l_law : K.lookup f_law = some ⟨oc_law, od_law, .func (PySem.W.fnOf "law" "law" (defArgs s_law) (defBody s_law) (defScope s_law) .none kV_law dc_law pm_law an_law cd_law ct_law), sl_law⟩) (c_law : PySem.W.codeIn K cd_law "law" = true) (k_law : PySem.W.keepIn K (.ref f_law) = true)
    (gc_BadNumber : PySem.W.nsIn K mainGlobals "BadNumber" = some (some (.ref C_BadNumber))) (xl_BadNumber : K.lookup C_BadNumber = some (excClassObj nm_BadNumber qn_BadNumber C_BadNumber NN_BadNumber bs_BadNumber bm_BadNumber true sn_BadNumber sub_BadNumber ab_BadNumber col_BadNumber dd_BadNumber k0_BadNumber k1_BadNumber k2_BadNumber k3_BadNumber k5_BadNumber "ValueError.__new__")) (rv_BadNumber : PySem.HandSPX.refsVE bm_BadNumber = true) (sa_BadNumber : PySem.W.findIn K (.ref C_BadNumber) "__setattr__" = some (some (.builtin "object.__setattr__"))) (ga_BadNumber : PySem.W.findIn K (.ref C_BadNumber) "__getattribute__" = some (some (.builtin "BaseException.__getattribute__"))) (gg_BadNumber : PySem.W.findIn K (.ref C_BadNumber) "__getattr__" = some none) (nf_BadNumber : PySem.W.findIn K (.ref C_BadNumber) "number" = some none) (ii_BadNumber : PySem.W.findIn K (.ref C_BadNumber) "__init__" = some (some (.ref ei_BadNumber))) (ti_BadNumber : PySem.W.typeIn K (.ref ei_BadNumber) = some (.type "function")) (le_BadNumber : K.lookup ei_BadNumber = some ⟨oce_BadNumber, ode_BadNumber, .func (PySem.W.ksFn "__init__" "BadNumber.__init__" (defArgs s_BadNumber___init__) (defBody s_BadNumber___init__) (defScope s_BadNumber___init__) .none kVe_BadNumber dce_BadNumber pme_BadNumber ane_BadNumber (.ref cda_BadNumber) cte_BadNumber cc_BadNumber), osle_BadNumber⟩) (ce_BadNumber : PySem.W.codeIn K (.ref cda_BadNumber) "BadNumber.__init__" = true) (lc_BadNumber : K.lookup cda_BadNumber = some ⟨ccl_BadNumber, cdd_BadNumber, .fields vs_BadNumber, ccs_BadNumber⟩) (vf_BadNumber : vs_BadNumber[2]? = some (.str file_BadNumber tf_BadNumber)) (ff_BadNumber : ((l.prog.main.file : Str) == file_BadNumber) = true) (lz_BadNumber : K.lookup cc_BadNumber = some ⟨cl_BadNumber, cld_BadNumber, .cell (some (.ref C_BadNumber)), csl_BadNumber⟩) (kc_BadNumber : PySem.W.keepIn K (.ref C_BadNumber) = true) (ec_BadNumber : PySem.W.subIn K (.ref C_BadNumber) (.type "BaseException") = some true) (tc_BadNumber : PySem.W.typeIn K (.ref C_BadNumber) = some (.type "type")) (hd_BadNumber : PySem.W.hasDictIn K C_BadNumber = true) (ic_BadNumber : PySem.W.isClsIn K C_BadNumber = true) (su_BadNumber : PySem.W.ks_superIn K C_BadNumber C_BadNumber "__init__" = some (some (.builtin "ValueError.__init__"))) (sv_BadNumber : PySem.W.subIn K (.ref C_BadNumber) (.type "ValueError") = some true) (mr_BadNumber : PySem.W.mroIn K C_BadNumber (.ref C_BadNumber) = some true)
    (gc_BadTolerance : PySem.W.nsIn K mainGlobals "BadTolerance" = some (some (.ref C_BadTolerance))) (xl_BadTolerance : K.lookup C_BadTolerance = some (excClassObj nm_BadTolerance qn_BadTolerance C_BadTolerance NN_BadTolerance bs_BadTolerance bm_BadTolerance true sn_BadTolerance sub_BadTolerance ab_BadTolerance col_BadTolerance dd_BadTolerance k0_BadTolerance k1_BadTolerance k2_BadTolerance k3_BadTolerance k5_BadTolerance "ValueError.__new__")) (rv_BadTolerance : PySem.HandSPX.refsVE bm_BadTolerance = true) (sa_BadTolerance : PySem.W.findIn K (.ref C_BadTolerance) "__setattr__" = some (some (.builtin "object.__setattr__"))) (ga_BadTolerance : PySem.W.findIn K (.ref C_BadTolerance) "__getattribute__" = some (some (.builtin "BaseException.__getattribute__"))) (gg_BadTolerance : PySem.W.findIn K (.ref C_BadTolerance) "__getattr__" = some none) (nf_BadTolerance : PySem.W.findIn K (.ref C_BadTolerance) "tolerance" = some none) (ii_BadTolerance : PySem.W.findIn K (.ref C_BadTolerance) "__init__" = some (some (.ref ei_BadTolerance))) (ti_BadTolerance : PySem.W.typeIn K (.ref ei_BadTolerance) = some (.type "function")) (le_BadTolerance : K.lookup ei_BadTolerance = some ⟨oce_BadTolerance, ode_BadTolerance, .func (PySem.W.ksFn "__init__" "BadTolerance.__init__" (defArgs s_BadTolerance___init__) (defBody s_BadTolerance___init__) (defScope s_BadTolerance___init__) .none kVe_BadTolerance dce_BadTolerance pme_BadTolerance ane_BadTolerance (.ref cda_BadTolerance) cte_BadTolerance cc_BadTolerance), osle_BadTolerance⟩) (ce_BadTolerance : PySem.W.codeIn K (.ref cda_BadTolerance) "BadTolerance.__init__" = true) (lc_BadTolerance : K.lookup cda_BadTolerance = some ⟨ccl_BadTolerance, cdd_BadTolerance, .fields vs_BadTolerance, ccs_BadTolerance⟩) (vf_BadTolerance : vs_BadTolerance[2]? = some (.str file_BadTolerance tf_BadTolerance)) (ff_BadTolerance : ((l.prog.main.file : Str) == file_BadTolerance) = true) (lz_BadTolerance : K.lookup cc_BadTolerance = some ⟨cl_BadTolerance, cld_BadTolerance, .cell (some (.ref C_BadTolerance)), csl_BadTolerance⟩) (kc_BadTolerance : PySem.W.keepIn K (.ref C_BadTolerance) = true) (ec_BadTolerance : PySem.W.subIn K (.ref C_BadTolerance) (.type "BaseException") = some true) (tc_BadTolerance : PySem.W.typeIn K (.ref C_BadTolerance) = some (.type "type")) (hd_BadTolerance : PySem.W.hasDictIn K C_BadTolerance = true) (ic_BadTolerance : PySem.W.isClsIn K C_BadTolerance = true) (su_BadTolerance : PySem.W.ks_superIn K C_BadTolerance C_BadTolerance "__init__" = some (some (.builtin "ValueError.__init__"))) (sv_BadTolerance : PySem.W.subIn K (.ref C_BadTolerance) (.type "ValueError") = some true) (mr_BadTolerance : PySem.W.mroIn K C_BadTolerance (.ref C_BadTolerance) = some true)
    (gc_BadGroup : PySem.W.nsIn K mainGlobals "BadGroup" = some (some (.ref C_BadGroup))) (xl_BadGroup : K.lookup C_BadGroup = some (excClassObj nm_BadGroup qn_BadGroup C_BadGroup NN_BadGroup bs_BadGroup bm_BadGroup true sn_BadGroup sub_BadGroup ab_BadGroup col_BadGroup dd_BadGroup k0_BadGroup k1_BadGroup k2_BadGroup k3_BadGroup k5_BadGroup "ValueError.__new__")) (rv_BadGroup : PySem.HandSPX.refsVE bm_BadGroup = true) (sa_BadGroup : PySem.W.findIn K (.ref C_BadGroup) "__setattr__" = some (some (.builtin "object.__setattr__"))) (ga_BadGroup : PySem.W.findIn K (.ref C_BadGroup) "__getattribute__" = some (some (.builtin "BaseException.__getattribute__"))) (gg_BadGroup : PySem.W.findIn K (.ref C_BadGroup) "__getattr__" = some none) (nf_BadGroup : PySem.W.findIn K (.ref C_BadGroup) "group" = some none) (ii_BadGroup : PySem.W.findIn K (.ref C_BadGroup) "__init__" = some (some (.ref ei_BadGroup))) (ti_BadGroup : PySem.W.typeIn K (.ref ei_BadGroup) = some (.type "function")) (le_BadGroup : K.lookup ei_BadGroup = some ⟨oce_BadGroup, ode_BadGroup, .func (PySem.W.ksFn "__init__" "BadGroup.__init__" (defArgs s_BadGroup___init__) (defBody s_BadGroup___init__) (defScope s_BadGroup___init__) .none kVe_BadGroup dce_BadGroup pme_BadGroup ane_BadGroup (.ref cda_BadGroup) cte_BadGroup cc_BadGroup), osle_BadGroup⟩) (ce_BadGroup : PySem.W.codeIn K (.ref cda_BadGroup) "BadGroup.__init__" = true) (lc_BadGroup : K.lookup cda_BadGroup = some ⟨ccl_BadGroup, cdd_BadGroup, .fields vs_BadGroup, ccs_BadGroup⟩) (vf_BadGroup : vs_BadGroup[2]? = some (.str file_BadGroup tf_BadGroup)) (ff_BadGroup : ((l.prog.main.file : Str) == file_BadGroup) = true) (lz_BadGroup : K.lookup cc_BadGroup = some ⟨cl_BadGroup, cld_BadGroup, .cell (some (.ref C_BadGroup)), csl_BadGroup⟩) (kc_BadGroup : PySem.W.keepIn K (.ref C_BadGroup) = true) (ec_BadGroup : PySem.W.subIn K (.ref C_BadGroup) (.type "BaseException") = some true) (tc_BadGroup : PySem.W.typeIn K (.ref C_BadGroup) = some (.type "type")) (hd_BadGroup : PySem.W.hasDictIn K C_BadGroup = true) (ic_BadGroup : PySem.W.isClsIn K C_BadGroup = true) (su_BadGroup : PySem.W.ks_superIn K C_BadGroup C_BadGroup "__init__" = some (some (.builtin "ValueError.__init__"))) (sv_BadGroup : PySem.W.subIn K (.ref C_BadGroup) (.type "ValueError") = some true) (mr_BadGroup : PySem.W.mroIn K C_BadGroup (.ref C_BadGroup) = some true)
    (gc_BadLoop : PySem.W.nsIn K mainGlobals "BadLoop" = some (some (.ref C_BadLoop))) (xl_BadLoop : K.lookup C_BadLoop = some (excClassObj nm_BadLoop qn_BadLoop C_BadLoop NN_BadLoop bs_BadLoop bm_BadLoop true sn_BadLoop sub_BadLoop ab_BadLoop col_BadLoop dd_BadLoop k0_BadLoop k1_BadLoop k2_BadLoop k3_BadLoop k5_BadLoop "ValueError.__new__")) (rv_BadLoop : PySem.HandSPX.refsVE bm_BadLoop = true) (sa_BadLoop : PySem.W.findIn K (.ref C_BadLoop) "__setattr__" = some (some (.builtin "object.__setattr__"))) (ga_BadLoop : PySem.W.findIn K (.ref C_BadLoop) "__getattribute__" = some (some (.builtin "BaseException.__getattribute__"))) (gg_BadLoop : PySem.W.findIn K (.ref C_BadLoop) "__getattr__" = some none) (nf_BadLoop : PySem.W.findIn K (.ref C_BadLoop) "line" = some none) (ii_BadLoop : PySem.W.findIn K (.ref C_BadLoop) "__init__" = some (some (.ref ei_BadLoop))) (ti_BadLoop : PySem.W.typeIn K (.ref ei_BadLoop) = some (.type "function")) (le_BadLoop : K.lookup ei_BadLoop = some ⟨oce_BadLoop, ode_BadLoop, .func (PySem.W.ksFn "__init__" "BadLoop.__init__" (defArgs s_BadLoop___init__) (defBody s_BadLoop___init__) (defScope s_BadLoop___init__) .none kVe_BadLoop dce_BadLoop pme_BadLoop ane_BadLoop (.ref cda_BadLoop) cte_BadLoop cc_BadLoop), osle_BadLoop⟩) (ce_BadLoop : PySem.W.codeIn K (.ref cda_BadLoop) "BadLoop.__init__" = true) (lc_BadLoop : K.lookup cda_BadLoop = some ⟨ccl_BadLoop, cdd_BadLoop, .fields vs_BadLoop, ccs_BadLoop⟩) (vf_BadLoop : vs_BadLoop[2]? = some (.str file_BadLoop tf_BadLoop)) (ff_BadLoop : ((l.prog.main.file : Str) == file_BadLoop) = true) (lz_BadLoop : K.lookup cc_BadLoop = some ⟨cl_BadLoop, cld_BadLoop, .cell (some (.ref C_BadLoop)), csl_BadLoop⟩) (kc_BadLoop : PySem.W.keepIn K (.ref C_BadLoop) = true) (ec_BadLoop : PySem.W.subIn K (.ref C_BadLoop) (.type "BaseException") = some true) (tc_BadLoop : PySem.W.typeIn K (.ref C_BadLoop) = some (.type "type")) (hd_BadLoop : PySem.W.hasDictIn K C_BadLoop = true) (ic_BadLoop : PySem.W.isClsIn K C_BadLoop = true) (su_BadLoop : PySem.W.ks_superIn K C_BadLoop C_BadLoop "__init__" = some (some (.builtin "ValueError.__init__"))) (sv_BadLoop : PySem.W.subIn K (.ref C_BadLoop) (.type "ValueError") = some true) (mr_BadLoop : PySem.W.mroIn K C_BadLoop (.ref C_BadLoop) = some true)
    (gc_UnknownState : PySem.W.nsIn K mainGlobals "UnknownState" = some (some (.ref C_UnknownState))) (xl_UnknownState : K.lookup C_UnknownState = some (excClassObj nm_UnknownState qn_UnknownState C_UnknownState NN_UnknownState bs_UnknownState bm_UnknownState true sn_UnknownState sub_UnknownState ab_UnknownState col_UnknownState dd_UnknownState k0_UnknownState k1_UnknownState k2_UnknownState k3_UnknownState k5_UnknownState "ValueError.__new__")) (rv_UnknownState : PySem.HandSPX.refsVE bm_UnknownState = true) (sa_UnknownState : PySem.W.findIn K (.ref C_UnknownState) "__setattr__" = some (some (.builtin "object.__setattr__"))) (ga_UnknownState : PySem.W.findIn K (.ref C_UnknownState) "__getattribute__" = some (some (.builtin "BaseException.__getattribute__"))) (gg_UnknownState : PySem.W.findIn K (.ref C_UnknownState) "__getattr__" = some none) (nf_UnknownState : PySem.W.findIn K (.ref C_UnknownState) "state" = some none) (ii_UnknownState : PySem.W.findIn K (.ref C_UnknownState) "__init__" = some (some (.ref ei_UnknownState))) (ti_UnknownState : PySem.W.typeIn K (.ref ei_UnknownState) = some (.type "function")) (le_UnknownState : K.lookup ei_UnknownState = some ⟨oce_UnknownState, ode_UnknownState, .func (PySem.W.ksFn "__init__" "UnknownState.__init__" (defArgs s_UnknownState___init__) (defBody s_UnknownState___init__) (defScope s_UnknownState___init__) .none kVe_UnknownState dce_UnknownState pme_UnknownState ane_UnknownState (.ref cda_UnknownState) cte_UnknownState cc_UnknownState), osle_UnknownState⟩) (ce_UnknownState : PySem.W.codeIn K (.ref cda_UnknownState) "UnknownState.__init__" = true) (lc_UnknownState : K.lookup cda_UnknownState = some ⟨ccl_UnknownState, cdd_UnknownState, .fields vs_UnknownState, ccs_UnknownState⟩) (vf_UnknownState : vs_UnknownState[2]? = some (.str file_UnknownState tf_UnknownState)) (ff_UnknownState : ((l.prog.main.file : Str) == file_UnknownState) = true) (lz_UnknownState : K.lookup cc_UnknownState = some ⟨cl_UnknownState, cld_UnknownState, .cell (some (.ref C_UnknownState)), csl_UnknownState⟩) (kc_UnknownState : PySem.W.keepIn K (.ref C_UnknownState) = true) (ec_UnknownState : PySem.W.subIn K (.ref C_UnknownState) (.type "BaseException") = some true) (tc_UnknownState : PySem.W.typeIn K (.ref C_UnknownState) = some (.type "type")) (hd_UnknownState : PySem.W.hasDictIn K C_UnknownState = true) (ic_UnknownState : PySem.W.isClsIn K C_UnknownState = true) (su_UnknownState : PySem.W.ks_superIn K C_UnknownState C_UnknownState "__init__" = some (some (.builtin "ValueError.__init__"))) (sv_UnknownState : PySem.W.subIn K (.ref C_UnknownState) (.type "ValueError") = some true) (mr_UnknownState : PySem.W.mroIn K C_UnknownState (.ref C_UnknownState) = some true)
    (gc_BadAnswer : PySem.W.nsIn K mainGlobals "BadAnswer" = some (some (.ref C_BadAnswer))) (xl_BadAnswer : K.lookup C_BadAnswer = some (excClassObj nm_BadAnswer qn_BadAnswer C_BadAnswer NN_BadAnswer bs_BadAnswer bm_BadAnswer true sn_BadAnswer sub_BadAnswer ab_BadAnswer col_BadAnswer dd_BadAnswer k0_BadAnswer k1_BadAnswer k2_BadAnswer k3_BadAnswer k5_BadAnswer "ValueError.__new__")) (rv_BadAnswer : PySem.HandSPX.refsVE bm_BadAnswer = true) (sa_BadAnswer : PySem.W.findIn K (.ref C_BadAnswer) "__setattr__" = some (some (.builtin "object.__setattr__"))) (ga_BadAnswer : PySem.W.findIn K (.ref C_BadAnswer) "__getattribute__" = some (some (.builtin "BaseException.__getattribute__"))) (gg_BadAnswer : PySem.W.findIn K (.ref C_BadAnswer) "__getattr__" = some none) (nf_BadAnswer : PySem.W.findIn K (.ref C_BadAnswer) "answer" = some none) (ii_BadAnswer : PySem.W.findIn K (.ref C_BadAnswer) "__init__" = some (some (.ref ei_BadAnswer))) (ti_BadAnswer : PySem.W.typeIn K (.ref ei_BadAnswer) = some (.type "function")) (le_BadAnswer : K.lookup ei_BadAnswer = some ⟨oce_BadAnswer, ode_BadAnswer, .func (PySem.W.ksFn "__init__" "BadAnswer.__init__" (defArgs s_BadAnswer___init__) (defBody s_BadAnswer___init__) (defScope s_BadAnswer___init__) .none kVe_BadAnswer dce_BadAnswer pme_BadAnswer ane_BadAnswer (.ref cda_BadAnswer) cte_BadAnswer cc_BadAnswer), osle_BadAnswer⟩) (ce_BadAnswer : PySem.W.codeIn K (.ref cda_BadAnswer) "BadAnswer.__init__" = true) (lc_BadAnswer : K.lookup cda_BadAnswer = some ⟨ccl_BadAnswer, cdd_BadAnswer, .fields vs_BadAnswer, ccs_BadAnswer⟩) (vf_BadAnswer : vs_BadAnswer[2]? = some (.str file_BadAnswer tf_BadAnswer)) (ff_BadAnswer : ((l.prog.main.file : Str) == file_BadAnswer) = true) (lz_BadAnswer : K.lookup cc_BadAnswer = some ⟨cl_BadAnswer, cld_BadAnswer, .cell (some (.ref C_BadAnswer)), csl_BadAnswer⟩) (kc_BadAnswer : PySem.W.keepIn K (.ref C_BadAnswer) = true) (ec_BadAnswer : PySem.W.subIn K (.ref C_BadAnswer) (.type "BaseException") = some true) (tc_BadAnswer : PySem.W.typeIn K (.ref C_BadAnswer) = some (.type "type")) (hd_BadAnswer : PySem.W.hasDictIn K C_BadAnswer = true) (ic_BadAnswer : PySem.W.isClsIn K C_BadAnswer = true) (su_BadAnswer : PySem.W.ks_superIn K C_BadAnswer C_BadAnswer "__init__" = some (some (.builtin "ValueError.__init__"))) (sv_BadAnswer : PySem.W.subIn K (.ref C_BadAnswer) (.type "ValueError") = some true) (mr_BadAnswer : PySem.W.mroIn K C_BadAnswer (.ref C_BadAnswer) = some true)
    (gc_BadJoint : PySem.W.nsIn K mainGlobals "BadJoint" = some (some (.ref C_BadJoint))) (xl_BadJoint : K.lookup C_BadJoint = some (excClassObj nm_BadJoint qn_BadJoint C_BadJoint NN_BadJoint bs_BadJoint bm_BadJoint true sn_BadJoint sub_BadJoint ab_BadJoint col_BadJoint dd_BadJoint k0_BadJoint k1_BadJoint k2_BadJoint k3_BadJoint k5_BadJoint "ValueError.__new__")) (rv_BadJoint : PySem.HandSPX.refsVE bm_BadJoint = true) (sa_BadJoint : PySem.W.findIn K (.ref C_BadJoint) "__setattr__" = some (some (.builtin "object.__setattr__"))) (ga_BadJoint : PySem.W.findIn K (.ref C_BadJoint) "__getattribute__" = some (some (.builtin "BaseException.__getattribute__"))) (gg_BadJoint : PySem.W.findIn K (.ref C_BadJoint) "__getattr__" = some none) (nf_BadJoint : PySem.W.findIn K (.ref C_BadJoint) "state" = some none) (ii_BadJoint : PySem.W.findIn K (.ref C_BadJoint) "__init__" = some (some (.ref ei_BadJoint))) (ti_BadJoint : PySem.W.typeIn K (.ref ei_BadJoint) = some (.type "function")) (le_BadJoint : K.lookup ei_BadJoint = some ⟨oce_BadJoint, ode_BadJoint, .func (PySem.W.ksFn "__init__" "BadJoint.__init__" (defArgs s_BadJoint___init__) (defBody s_BadJoint___init__) (defScope s_BadJoint___init__) .none kVe_BadJoint dce_BadJoint pme_BadJoint ane_BadJoint (.ref cda_BadJoint) cte_BadJoint cc_BadJoint), osle_BadJoint⟩) (ce_BadJoint : PySem.W.codeIn K (.ref cda_BadJoint) "BadJoint.__init__" = true) (lc_BadJoint : K.lookup cda_BadJoint = some ⟨ccl_BadJoint, cdd_BadJoint, .fields vs_BadJoint, ccs_BadJoint⟩) (vf_BadJoint : vs_BadJoint[2]? = some (.str file_BadJoint tf_BadJoint)) (ff_BadJoint : ((l.prog.main.file : Str) == file_BadJoint) = true) (lz_BadJoint : K.lookup cc_BadJoint = some ⟨cl_BadJoint, cld_BadJoint, .cell (some (.ref C_BadJoint)), csl_BadJoint⟩) (kc_BadJoint : PySem.W.keepIn K (.ref C_BadJoint) = true) (ec_BadJoint : PySem.W.subIn K (.ref C_BadJoint) (.type "BaseException") = some true) (tc_BadJoint : PySem.W.typeIn K (.ref C_BadJoint) = some (.type "type")) (hd_BadJoint : PySem.W.hasDictIn K C_BadJoint = true) (ic_BadJoint : PySem.W.isClsIn K C_BadJoint = true) (su_BadJoint : PySem.W.ks_superIn K C_BadJoint C_BadJoint "__init__" = some (some (.builtin "ValueError.__init__"))) (sv_BadJoint : PySem.W.subIn K (.ref C_BadJoint) (.type "ValueError") = some true) (mr_BadJoint : PySem.W.mroIn K C_BadJoint (.ref C_BadJoint) = some true)
    (gc_BadKind : PySem.W.nsIn K mainGlobals "BadKind" = some (some (.ref C_BadKind))) (xl_BadKind : K.lookup C_BadKind = some (excClassObj nm_BadKind qn_BadKind C_BadKind NN_BadKind bs_BadKind bm_BadKind true sn_BadKind sub_BadKind ab_BadKind col_BadKind dd_BadKind k0_BadKind k1_BadKind k2_BadKind k3_BadKind k5_BadKind "ValueError.__new__")) (rv_BadKind : PySem.HandSPX.refsVE bm_BadKind = true) (sa_BadKind : PySem.W.findIn K (.ref C_BadKind) "__setattr__" = some (some (.builtin "object.__setattr__"))) (ga_BadKind : PySem.W.findIn K (.ref C_BadKind) "__getattribute__" = some (some (.builtin "BaseException.__getattribute__"))) (gg_BadKind : PySem.W.findIn K (.ref C_BadKind) "__getattr__" = some none) (nf_BadKind : PySem.W.findIn K (.ref C_BadKind) "by" = some none) (ii_BadKind : PySem.W.findIn K (.ref C_BadKind) "__init__" = some (some (.ref ei_BadKind))) (ti_BadKind : PySem.W.typeIn K (.ref ei_BadKind) = some (.type "function")) (le_BadKind : K.lookup ei_BadKind = some ⟨oce_BadKind, ode_BadKind, .func (PySem.W.ksFn "__init__" "BadKind.__init__" (defArgs s_BadKind___init__) (defBody s_BadKind___init__) (defScope s_BadKind___init__) .none kVe_BadKind dce_BadKind pme_BadKind ane_BadKind (.ref cda_BadKind) cte_BadKind cc_BadKind), osle_BadKind⟩) (ce_BadKind : PySem.W.codeIn K (.ref cda_BadKind) "BadKind.__init__" = true) (lc_BadKind : K.lookup cda_BadKind = some ⟨ccl_BadKind, cdd_BadKind, .fields vs_BadKind, ccs_BadKind⟩) (vf_BadKind : vs_BadKind[2]? = some (.str file_BadKind tf_BadKind)) (ff_BadKind : ((l.prog.main.file : Str) == file_BadKind) = true) (lz_BadKind : K.lookup cc_BadKind = some ⟨cl_BadKind, cld_BadKind, .cell (some (.ref C_BadKind)), csl_BadKind⟩) (kc_BadKind : PySem.W.keepIn K (.ref C_BadKind) = true) (ec_BadKind : PySem.W.subIn K (.ref C_BadKind) (.type "BaseException") = some true) (tc_BadKind : PySem.W.typeIn K (.ref C_BadKind) = some (.type "type")) (hd_BadKind : PySem.W.hasDictIn K C_BadKind = true) (ic_BadKind : PySem.W.isClsIn K C_BadKind = true) (su_BadKind : PySem.W.ks_superIn K C_BadKind C_BadKind "__init__" = some (some (.builtin "ValueError.__init__"))) (sv_BadKind : PySem.W.subIn K (.ref C_BadKind) (.type "ValueError") = some true) (mr_BadKind : PySem.W.mroIn K C_BadKind (.ref C_BadKind) = some true)
    (gc_BadWatch : PySem.W.nsIn K mainGlobals "BadWatch" = some (some (.ref C_BadWatch))) (xl_BadWatch : K.lookup C_BadWatch = some (excClassObj nm_BadWatch qn_BadWatch C_BadWatch NN_BadWatch bs_BadWatch bm_BadWatch true sn_BadWatch sub_BadWatch ab_BadWatch col_BadWatch dd_BadWatch k0_BadWatch k1_BadWatch k2_BadWatch k3_BadWatch k5_BadWatch "ValueError.__new__")) (rv_BadWatch : PySem.HandSPX.refsVE bm_BadWatch = true) (sa_BadWatch : PySem.W.findIn K (.ref C_BadWatch) "__setattr__" = some (some (.builtin "object.__setattr__"))) (ga_BadWatch : PySem.W.findIn K (.ref C_BadWatch) "__getattribute__" = some (some (.builtin "BaseException.__getattribute__"))) (gg_BadWatch : PySem.W.findIn K (.ref C_BadWatch) "__getattr__" = some none) (nf_BadWatch : PySem.W.findIn K (.ref C_BadWatch) "line" = some none) (ii_BadWatch : PySem.W.findIn K (.ref C_BadWatch) "__init__" = some (some (.ref ei_BadWatch))) (ti_BadWatch : PySem.W.typeIn K (.ref ei_BadWatch) = some (.type "function")) (le_BadWatch : K.lookup ei_BadWatch = some ⟨oce_BadWatch, ode_BadWatch, .func (PySem.W.ksFn "__init__" "BadWatch.__init__" (defArgs s_BadWatch___init__) (defBody s_BadWatch___init__) (defScope s_BadWatch___init__) .none kVe_BadWatch dce_BadWatch pme_BadWatch ane_BadWatch (.ref cda_BadWatch) cte_BadWatch cc_BadWatch), osle_BadWatch⟩) (ce_BadWatch : PySem.W.codeIn K (.ref cda_BadWatch) "BadWatch.__init__" = true) (lc_BadWatch : K.lookup cda_BadWatch = some ⟨ccl_BadWatch, cdd_BadWatch, .fields vs_BadWatch, ccs_BadWatch⟩) (vf_BadWatch : vs_BadWatch[2]? = some (.str file_BadWatch tf_BadWatch)) (ff_BadWatch : ((l.prog.main.file : Str) == file_BadWatch) = true) (lz_BadWatch : K.lookup cc_BadWatch = some ⟨cl_BadWatch, cld_BadWatch, .cell (some (.ref C_BadWatch)), csl_BadWatch⟩) (kc_BadWatch : PySem.W.keepIn K (.ref C_BadWatch) = true) (ec_BadWatch : PySem.W.subIn K (.ref C_BadWatch) (.type "BaseException") = some true) (tc_BadWatch : PySem.W.typeIn K (.ref C_BadWatch) = some (.type "type")) (hd_BadWatch : PySem.W.hasDictIn K C_BadWatch = true) (ic_BadWatch : PySem.W.isClsIn K C_BadWatch = true) (su_BadWatch : PySem.W.ks_superIn K C_BadWatch C_BadWatch "__init__" = some (some (.builtin "ValueError.__init__"))) (sv_BadWatch : PySem.W.subIn K (.ref C_BadWatch) (.type "ValueError") = some true) (mr_BadWatch : PySem.W.mroIn K C_BadWatch (.ref C_BadWatch) = some true)
    (gc_BadRow : PySem.W.nsIn K mainGlobals "BadRow" = some (some (.ref C_BadRow))) (xl_BadRow : K.lookup C_BadRow = some (excClassObj nm_BadRow qn_BadRow C_BadRow NN_BadRow bs_BadRow bm_BadRow true sn_BadRow sub_BadRow ab_BadRow col_BadRow dd_BadRow k0_BadRow k1_BadRow k2_BadRow k3_BadRow k5_BadRow "ValueError.__new__")) (rv_BadRow : PySem.HandSPX.refsVE bm_BadRow = true) (sa_BadRow : PySem.W.findIn K (.ref C_BadRow) "__setattr__" = some (some (.builtin "object.__setattr__"))) (ga_BadRow : PySem.W.findIn K (.ref C_BadRow) "__getattribute__" = some (some (.builtin "BaseException.__getattribute__"))) (gg_BadRow : PySem.W.findIn K (.ref C_BadRow) "__getattr__" = some none) (ii_BadRow : PySem.W.findIn K (.ref C_BadRow) "__init__" = some (some (.ref ei_BadRow))) (ti_BadRow : PySem.W.typeIn K (.ref ei_BadRow) = some (.type "function")) (le_BadRow : K.lookup ei_BadRow = some ⟨oce_BadRow, ode_BadRow, .func (PySem.W.ksFn "__init__" "BadRow.__init__" (defArgs s_BadRow___init__) (defBody s_BadRow___init__) (defScope s_BadRow___init__) .none kVe_BadRow dce_BadRow pme_BadRow ane_BadRow (.ref cda_BadRow) cte_BadRow cc_BadRow), osle_BadRow⟩) (ce_BadRow : PySem.W.codeIn K (.ref cda_BadRow) "BadRow.__init__" = true) (lc_BadRow : K.lookup cda_BadRow = some ⟨ccl_BadRow, cdd_BadRow, .fields vs_BadRow, ccs_BadRow⟩) (vf_BadRow : vs_BadRow[2]? = some (.str file_BadRow tf_BadRow)) (ff_BadRow : ((l.prog.main.file : Str) == file_BadRow) = true) (lz_BadRow : K.lookup cc_BadRow = some ⟨cl_BadRow, cld_BadRow, .cell (some (.ref C_BadRow)), csl_BadRow⟩) (kc_BadRow : PySem.W.keepIn K (.ref C_BadRow) = true) (ec_BadRow : PySem.W.subIn K (.ref C_BadRow) (.type "BaseException") = some true) (tc_BadRow : PySem.W.typeIn K (.ref C_BadRow) = some (.type "type")) (hd_BadRow : PySem.W.hasDictIn K C_BadRow = true) (ic_BadRow : PySem.W.isClsIn K C_BadRow = true) (su_BadRow : PySem.W.ks_superIn K C_BadRow C_BadRow "__init__" = some (some (.builtin "ValueError.__init__"))) (sv_BadRow : PySem.W.subIn K (.ref C_BadRow) (.type "ValueError") = some true) (mr_BadRow : PySem.W.mroIn K C_BadRow (.ref C_BadRow) = some true)
    (gc_BadTable : PySem.W.nsIn K mainGlobals "BadTable" = some (some (.ref C_BadTable))) (xl_BadTable : K.lookup C_BadTable = some (excClassObj nm_BadTable qn_BadTable C_BadTable NN_BadTable bs_BadTable bm_BadTable true sn_BadTable sub_BadTable ab_BadTable col_BadTable dd_BadTable k0_BadTable k1_BadTable k2_BadTable k3_BadTable k5_BadTable "ValueError.__new__")) (rv_BadTable : PySem.HandSPX.refsVE bm_BadTable = true) (sa_BadTable : PySem.W.findIn K (.ref C_BadTable) "__setattr__" = some (some (.builtin "object.__setattr__"))) (ga_BadTable : PySem.W.findIn K (.ref C_BadTable) "__getattribute__" = some (some (.builtin "BaseException.__getattribute__"))) (gg_BadTable : PySem.W.findIn K (.ref C_BadTable) "__getattr__" = some none) (ii_BadTable : PySem.W.findIn K (.ref C_BadTable) "__init__" = some (some (.ref ei_BadTable))) (ti_BadTable : PySem.W.typeIn K (.ref ei_BadTable) = some (.type "function")) (le_BadTable : K.lookup ei_BadTable = some ⟨oce_BadTable, ode_BadTable, .func (PySem.W.ksFn "__init__" "BadTable.__init__" (defArgs s_BadTable___init__) (defBody s_BadTable___init__) (defScope s_BadTable___init__) .none kVe_BadTable dce_BadTable pme_BadTable ane_BadTable (.ref cda_BadTable) cte_BadTable cc_BadTable), osle_BadTable⟩) (ce_BadTable : PySem.W.codeIn K (.ref cda_BadTable) "BadTable.__init__" = true) (lc_BadTable : K.lookup cda_BadTable = some ⟨ccl_BadTable, cdd_BadTable, .fields vs_BadTable, ccs_BadTable⟩) (vf_BadTable : vs_BadTable[2]? = some (.str file_BadTable tf_BadTable)) (ff_BadTable : ((l.prog.main.file : Str) == file_BadTable) = true) (lz_BadTable : K.lookup cc_BadTable = some ⟨cl_BadTable, cld_BadTable, .cell (some (.ref C_BadTable)), csl_BadTable⟩) (kc_BadTable : PySem.W.keepIn K (.ref C_BadTable) = true) (ec_BadTable : PySem.W.subIn K (.ref C_BadTable) (.type "BaseException") = some true) (tc_BadTable : PySem.W.typeIn K (.ref C_BadTable) = some (.type "type")) (hd_BadTable : PySem.W.hasDictIn K C_BadTable = true) (ic_BadTable : PySem.W.isClsIn K C_BadTable = true) (su_BadTable : PySem.W.ks_superIn K C_BadTable C_BadTable "__init__" = some (some (.builtin "ValueError.__init__"))) (sv_BadTable : PySem.W.subIn K (.ref C_BadTable) (.type "ValueError") = some true) (mr_BadTable : PySem.W.mroIn K C_BadTable (.ref C_BadTable) = some true)
    (xm_BadNumber_BadNumber : PySem.W.subIn K (.ref C_BadNumber) (.ref C_BadNumber) = some true)
    (xm_BadNumber_BadTolerance : PySem.W.subIn K (.ref C_BadNumber) (.ref C_BadTolerance) = some false)
    (xm_BadNumber_BadGroup : PySem.W.subIn K (.ref C_BadNumber) (.ref C_BadGroup) = some false)
    (xm_BadNumber_BadLoop : PySem.W.subIn K (.ref C_BadNumber) (.ref C_BadLoop) = some false)
    (xm_BadNumber_UnknownState : PySem.W.subIn K (.ref C_BadNumber) (.ref C_UnknownState) = some false)
    (xm_BadNumber_BadAnswer : PySem.W.subIn K (.ref C_BadNumber) (.ref C_BadAnswer) = some false)
    (xm_BadNumber_BadJoint : PySem.W.subIn K (.ref C_BadNumber) (.ref C_BadJoint) = some false)
    (xm_BadNumber_BadKind : PySem.W.subIn K (.ref C_BadNumber) (.ref C_BadKind) = some false)
    (xm_BadNumber_BadWatch : PySem.W.subIn K (.ref C_BadNumber) (.ref C_BadWatch) = some false)
    (xm_BadNumber_BadRow : PySem.W.subIn K (.ref C_BadNumber) (.ref C_BadRow) = some false)
    (xm_BadNumber_BadTable : PySem.W.subIn K (.ref C_BadNumber) (.ref C_BadTable) = some false)
    (xm_BadTolerance_BadNumber : PySem.W.subIn K (.ref C_BadTolerance) (.ref C_BadNumber) = some false)
    (xm_BadTolerance_BadTolerance : PySem.W.subIn K (.ref C_BadTolerance) (.ref C_BadTolerance) = some true)
    (xm_BadTolerance_BadGroup : PySem.W.subIn K (.ref C_BadTolerance) (.ref C_BadGroup) = some false)
    (xm_BadTolerance_BadLoop : PySem.W.subIn K (.ref C_BadTolerance) (.ref C_BadLoop) = some false)
    (xm_BadTolerance_UnknownState : PySem.W.subIn K (.ref C_BadTolerance) (.ref C_UnknownState) = some false)
    (xm_BadTolerance_BadAnswer : PySem.W.subIn K (.ref C_BadTolerance) (.ref C_BadAnswer) = some false)
    (xm_BadTolerance_BadJoint : PySem.W.subIn K (.ref C_BadTolerance) (.ref C_BadJoint) = some false)
    (xm_BadTolerance_BadKind : PySem.W.subIn K (.ref C_BadTolerance) (.ref C_BadKind) = some false)
    (xm_BadTolerance_BadWatch : PySem.W.subIn K (.ref C_BadTolerance) (.ref C_BadWatch) = some false)
    (xm_BadTolerance_BadRow : PySem.W.subIn K (.ref C_BadTolerance) (.ref C_BadRow) = some false)
    (xm_BadTolerance_BadTable : PySem.W.subIn K (.ref C_BadTolerance) (.ref C_BadTable) = some false)
    (xm_BadGroup_BadNumber : PySem.W.subIn K (.ref C_BadGroup) (.ref C_BadNumber) = some false)
    (xm_BadGroup_BadTolerance : PySem.W.subIn K (.ref C_BadGroup) (.ref C_BadTolerance) = some false)
    (xm_BadGroup_BadGroup : PySem.W.subIn K (.ref C_BadGroup) (.ref C_BadGroup) = some true)
    (xm_BadGroup_BadLoop : PySem.W.subIn K (.ref C_BadGroup) (.ref C_BadLoop) = some false)
    (xm_BadGroup_UnknownState : PySem.W.subIn K (.ref C_BadGroup) (.ref C_UnknownState) = some false)
    (xm_BadGroup_BadAnswer : PySem.W.subIn K (.ref C_BadGroup) (.ref C_BadAnswer) = some false)
    (xm_BadGroup_BadJoint : PySem.W.subIn K (.ref C_BadGroup) (.ref C_BadJoint) = some false)
    (xm_BadGroup_BadKind : PySem.W.subIn K (.ref C_BadGroup) (.ref C_BadKind) = some false)
    (xm_BadGroup_BadWatch : PySem.W.subIn K (.ref C_BadGroup) (.ref C_BadWatch) = some false)
    (xm_BadGroup_BadRow : PySem.W.subIn K (.ref C_BadGroup) (.ref C_BadRow) = some false)
    (xm_BadGroup_BadTable : PySem.W.subIn K (.ref C_BadGroup) (.ref C_BadTable) = some false)
    (xm_BadLoop_BadNumber : PySem.W.subIn K (.ref C_BadLoop) (.ref C_BadNumber) = some false)
    (xm_BadLoop_BadTolerance : PySem.W.subIn K (.ref C_BadLoop) (.ref C_BadTolerance) = some false)
    (xm_BadLoop_BadGroup : PySem.W.subIn K (.ref C_BadLoop) (.ref C_BadGroup) = some false)
    (xm_BadLoop_BadLoop : PySem.W.subIn K (.ref C_BadLoop) (.ref C_BadLoop) = some true)
    (xm_BadLoop_UnknownState : PySem.W.subIn K (.ref C_BadLoop) (.ref C_UnknownState) = some false)
    (xm_BadLoop_BadAnswer : PySem.W.subIn K (.ref C_BadLoop) (.ref C_BadAnswer) = some false)
    (xm_BadLoop_BadJoint : PySem.W.subIn K (.ref C_BadLoop) (.ref C_BadJoint) = some false)
    (xm_BadLoop_BadKind : PySem.W.subIn K (.ref C_BadLoop) (.ref C_BadKind) = some false)
    (xm_BadLoop_BadWatch : PySem.W.subIn K (.ref C_BadLoop) (.ref C_BadWatch) = some false)
    (xm_BadLoop_BadRow : PySem.W.subIn K (.ref C_BadLoop) (.ref C_BadRow) = some false)
    (xm_BadLoop_BadTable : PySem.W.subIn K (.ref C_BadLoop) (.ref C_BadTable) = some false)
    (xm_UnknownState_BadNumber : PySem.W.subIn K (.ref C_UnknownState) (.ref C_BadNumber) = some false)
    (xm_UnknownState_BadTolerance : PySem.W.subIn K (.ref C_UnknownState) (.ref C_BadTolerance) = some false)
    (xm_UnknownState_BadGroup : PySem.W.subIn K (.ref C_UnknownState) (.ref C_BadGroup) = some false)
    (xm_UnknownState_BadLoop : PySem.W.subIn K (.ref C_UnknownState) (.ref C_BadLoop) = some false)
    (xm_UnknownState_UnknownState : PySem.W.subIn K (.ref C_UnknownState) (.ref C_UnknownState) = some true)
    (xm_UnknownState_BadAnswer : PySem.W.subIn K (.ref C_UnknownState) (.ref C_BadAnswer) = some false)
    (xm_UnknownState_BadJoint : PySem.W.subIn K (.ref C_UnknownState) (.ref C_BadJoint) = some false)
    (xm_UnknownState_BadKind : PySem.W.subIn K (.ref C_UnknownState) (.ref C_BadKind) = some false)
    (xm_UnknownState_BadWatch : PySem.W.subIn K (.ref C_UnknownState) (.ref C_BadWatch) = some false)
    (xm_UnknownState_BadRow : PySem.W.subIn K (.ref C_UnknownState) (.ref C_BadRow) = some false)
    (xm_UnknownState_BadTable : PySem.W.subIn K (.ref C_UnknownState) (.ref C_BadTable) = some false)
    (xm_BadAnswer_BadNumber : PySem.W.subIn K (.ref C_BadAnswer) (.ref C_BadNumber) = some false)
    (xm_BadAnswer_BadTolerance : PySem.W.subIn K (.ref C_BadAnswer) (.ref C_BadTolerance) = some false)
    (xm_BadAnswer_BadGroup : PySem.W.subIn K (.ref C_BadAnswer) (.ref C_BadGroup) = some false)
    (xm_BadAnswer_BadLoop : PySem.W.subIn K (.ref C_BadAnswer) (.ref C_BadLoop) = some false)
    (xm_BadAnswer_UnknownState : PySem.W.subIn K (.ref C_BadAnswer) (.ref C_UnknownState) = some false)
    (xm_BadAnswer_BadAnswer : PySem.W.subIn K (.ref C_BadAnswer) (.ref C_BadAnswer) = some true)
    (xm_BadAnswer_BadJoint : PySem.W.subIn K (.ref C_BadAnswer) (.ref C_BadJoint) = some false)
    (xm_BadAnswer_BadKind : PySem.W.subIn K (.ref C_BadAnswer) (.ref C_BadKind) = some false)
    (xm_BadAnswer_BadWatch : PySem.W.subIn K (.ref C_BadAnswer) (.ref C_BadWatch) = some false)
    (xm_BadAnswer_BadRow : PySem.W.subIn K (.ref C_BadAnswer) (.ref C_BadRow) = some false)
    (xm_BadAnswer_BadTable : PySem.W.subIn K (.ref C_BadAnswer) (.ref C_BadTable) = some false)
    (xm_BadJoint_BadNumber : PySem.W.subIn K (.ref C_BadJoint) (.ref C_BadNumber) = some false)
    (xm_BadJoint_BadTolerance : PySem.W.subIn K (.ref C_BadJoint) (.ref C_BadTolerance) = some false)
    (xm_BadJoint_BadGroup : PySem.W.subIn K (.ref C_BadJoint) (.ref C_BadGroup) = some false)
    (xm_BadJoint_BadLoop : PySem.W.subIn K (.ref C_BadJoint) (.ref C_BadLoop) = some false)
    (xm_BadJoint_UnknownState : PySem.W.subIn K (.ref C_BadJoint) (.ref C_UnknownState) = some false)
    (xm_BadJoint_BadAnswer : PySem.W.subIn K (.ref C_BadJoint) (.ref C_BadAnswer) = some false)
    (xm_BadJoint_BadJoint : PySem.W.subIn K (.ref C_BadJoint) (.ref C_BadJoint) = some true)
    (xm_BadJoint_BadKind : PySem.W.subIn K (.ref C_BadJoint) (.ref C_BadKind) = some false)
    (xm_BadJoint_BadWatch : PySem.W.subIn K (.ref C_BadJoint) (.ref C_BadWatch) = some false)
    (xm_BadJoint_BadRow : PySem.W.subIn K (.ref C_BadJoint) (.ref C_BadRow) = some false)
    (xm_BadJoint_BadTable : PySem.W.subIn K (.ref C_BadJoint) (.ref C_BadTable) = some false)
    (xm_BadKind_BadNumber : PySem.W.subIn K (.ref C_BadKind) (.ref C_BadNumber) = some false)
    (xm_BadKind_BadTolerance : PySem.W.subIn K (.ref C_BadKind) (.ref C_BadTolerance) = some false)
    (xm_BadKind_BadGroup : PySem.W.subIn K (.ref C_BadKind) (.ref C_BadGroup) = some false)
    (xm_BadKind_BadLoop : PySem.W.subIn K (.ref C_BadKind) (.ref C_BadLoop) = some false)
    (xm_BadKind_UnknownState : PySem.W.subIn K (.ref C_BadKind) (.ref C_UnknownState) = some false)
    (xm_BadKind_BadAnswer : PySem.W.subIn K (.ref C_BadKind) (.ref C_BadAnswer) = some false)
    (xm_BadKind_BadJoint : PySem.W.subIn K (.ref C_BadKind) (.ref C_BadJoint) = some false)
    (xm_BadKind_BadKind : PySem.W.subIn K (.ref C_BadKind) (.ref C_BadKind) = some true)
    (xm_BadKind_BadWatch : PySem.W.subIn K (.ref C_BadKind) (.ref C_BadWatch) = some false)
    (xm_BadKind_BadRow : PySem.W.subIn K (.ref C_BadKind) (.ref C_BadRow) = some false)
    (xm_BadKind_BadTable : PySem.W.subIn K (.ref C_BadKind) (.ref C_BadTable) = some false)
    (xm_BadWatch_BadNumber : PySem.W.subIn K (.ref C_BadWatch) (.ref C_BadNumber) = some false)
    (xm_BadWatch_BadTolerance : PySem.W.subIn K (.ref C_BadWatch) (.ref C_BadTolerance) = some false)
    (xm_BadWatch_BadGroup : PySem.W.subIn K (.ref C_BadWatch) (.ref C_BadGroup) = some false)
    (xm_BadWatch_BadLoop : PySem.W.subIn K (.ref C_BadWatch) (.ref C_BadLoop) = some false)
    (xm_BadWatch_UnknownState : PySem.W.subIn K (.ref C_BadWatch) (.ref C_UnknownState) = some false)
    (xm_BadWatch_BadAnswer : PySem.W.subIn K (.ref C_BadWatch) (.ref C_BadAnswer) = some false)
    (xm_BadWatch_BadJoint : PySem.W.subIn K (.ref C_BadWatch) (.ref C_BadJoint) = some false)
    (xm_BadWatch_BadKind : PySem.W.subIn K (.ref C_BadWatch) (.ref C_BadKind) = some false)
    (xm_BadWatch_BadWatch : PySem.W.subIn K (.ref C_BadWatch) (.ref C_BadWatch) = some true)
    (xm_BadWatch_BadRow : PySem.W.subIn K (.ref C_BadWatch) (.ref C_BadRow) = some false)
    (xm_BadWatch_BadTable : PySem.W.subIn K (.ref C_BadWatch) (.ref C_BadTable) = some false)
    (xm_BadRow_BadNumber : PySem.W.subIn K (.ref C_BadRow) (.ref C_BadNumber) = some false)
    (xm_BadRow_BadTolerance : PySem.W.subIn K (.ref C_BadRow) (.ref C_BadTolerance) = some false)
    (xm_BadRow_BadGroup : PySem.W.subIn K (.ref C_BadRow) (.ref C_BadGroup) = some false)
    (xm_BadRow_BadLoop : PySem.W.subIn K (.ref C_BadRow) (.ref C_BadLoop) = some false)
    (xm_BadRow_UnknownState : PySem.W.subIn K (.ref C_BadRow) (.ref C_UnknownState) = some false)
    (xm_BadRow_BadAnswer : PySem.W.subIn K (.ref C_BadRow) (.ref C_BadAnswer) = some false)
    (xm_BadRow_BadJoint : PySem.W.subIn K (.ref C_BadRow) (.ref C_BadJoint) = some false)
    (xm_BadRow_BadKind : PySem.W.subIn K (.ref C_BadRow) (.ref C_BadKind) = some false)
    (xm_BadRow_BadWatch : PySem.W.subIn K (.ref C_BadRow) (.ref C_BadWatch) = some false)
    (xm_BadRow_BadRow : PySem.W.subIn K (.ref C_BadRow) (.ref C_BadRow) = some true)
    (xm_BadRow_BadTable : PySem.W.subIn K (.ref C_BadRow) (.ref C_BadTable) = some false)
    (xm_BadTable_BadNumber : PySem.W.subIn K (.ref C_BadTable) (.ref C_BadNumber) = some false)
    (xm_BadTable_BadTolerance : PySem.W.subIn K (.ref C_BadTable) (.ref C_BadTolerance) = some false)
    (xm_BadTable_BadGroup : PySem.W.subIn K (.ref C_BadTable) (.ref C_BadGroup) = some false)
    (xm_BadTable_BadLoop : PySem.W.subIn K (.ref C_BadTable) (.ref C_BadLoop) = some false)
    (xm_BadTable_UnknownState : PySem.W.subIn K (.ref C_BadTable) (.ref C_UnknownState) = some false)
    (xm_BadTable_BadAnswer : PySem.W.subIn K (.ref C_BadTable) (.ref C_BadAnswer) = some false)
    (xm_BadTable_BadJoint : PySem.W.subIn K (.ref C_BadTable) (.ref C_BadJoint) = some false)
    (xm_BadTable_BadKind : PySem.W.subIn K (.ref C_BadTable) (.ref C_BadKind) = some false)
    (xm_BadTable_BadWatch : PySem.W.subIn K (.ref C_BadTable) (.ref C_BadWatch) = some false)
    (xm_BadTable_BadRow : PySem.W.subIn K (.ref C_BadTable) (.ref C_BadRow) = some false)
    (xm_BadTable_BadTable : PySem.W.subIn K (.ref C_BadTable) (.ref C_BadTable) = some true)
    (gc_NearError : PySem.W.nsIn K mainGlobals "NearError" = some (some (.ref C_NearError))) (ec_NearError : PySem.W.subIn K (.ref C_NearError) (.type "BaseException") = some true) (tc_NearError : PySem.W.typeIn K (.ref C_NearError) = some (.type "type")) (ic_NearError : PySem.W.isClsIn K C_NearError = true) (sp_cls : PySem.W.specialIn K (.builtin "object.__class__") "__get__" = some (some (.builtin "getset_descriptor.__get__"))) (tk_cls : PySem.W.takesIn K (.builtin "object.__class__") = some true)
    (fc_BadNumber : PySem.W.findIn K (.ref C_BadNumber) "__class__" = some (some (.builtin "object.__class__"))) (mo_BadNumber : PySem.W.mroIn K C_BadNumber (.type "object") = some true) (xn_BadNumber : PySem.W.subIn K (.ref C_BadNumber) (.ref C_NearError) = some true)
    (fc_BadTolerance : PySem.W.findIn K (.ref C_BadTolerance) "__class__" = some (some (.builtin "object.__class__"))) (mo_BadTolerance : PySem.W.mroIn K C_BadTolerance (.type "object") = some true) (xn_BadTolerance : PySem.W.subIn K (.ref C_BadTolerance) (.ref C_NearError) = some true)
    (fc_BadGroup : PySem.W.findIn K (.ref C_BadGroup) "__class__" = some (some (.builtin "object.__class__"))) (mo_BadGroup : PySem.W.mroIn K C_BadGroup (.type "object") = some true) (xn_BadGroup : PySem.W.subIn K (.ref C_BadGroup) (.ref C_NearError) = some true)
    (fc_BadLoop : PySem.W.findIn K (.ref C_BadLoop) "__class__" = some (some (.builtin "object.__class__"))) (mo_BadLoop : PySem.W.mroIn K C_BadLoop (.type "object") = some true) (xn_BadLoop : PySem.W.subIn K (.ref C_BadLoop) (.ref C_NearError) = some true)
    (fc_UnknownState : PySem.W.findIn K (.ref C_UnknownState) "__class__" = some (some (.builtin "object.__class__"))) (mo_UnknownState : PySem.W.mroIn K C_UnknownState (.type "object") = some true) (xn_UnknownState : PySem.W.subIn K (.ref C_UnknownState) (.ref C_NearError) = some true)
    (fc_BadAnswer : PySem.W.findIn K (.ref C_BadAnswer) "__class__" = some (some (.builtin "object.__class__"))) (mo_BadAnswer : PySem.W.mroIn K C_BadAnswer (.type "object") = some true) (xn_BadAnswer : PySem.W.subIn K (.ref C_BadAnswer) (.ref C_NearError) = some true)
    (fc_BadJoint : PySem.W.findIn K (.ref C_BadJoint) "__class__" = some (some (.builtin "object.__class__"))) (mo_BadJoint : PySem.W.mroIn K C_BadJoint (.type "object") = some true) (xn_BadJoint : PySem.W.subIn K (.ref C_BadJoint) (.ref C_NearError) = some true)
    (fc_BadKind : PySem.W.findIn K (.ref C_BadKind) "__class__" = some (some (.builtin "object.__class__"))) (mo_BadKind : PySem.W.mroIn K C_BadKind (.type "object") = some true) (xn_BadKind : PySem.W.subIn K (.ref C_BadKind) (.ref C_NearError) = some true)
    (fc_BadWatch : PySem.W.findIn K (.ref C_BadWatch) "__class__" = some (some (.builtin "object.__class__"))) (mo_BadWatch : PySem.W.mroIn K C_BadWatch (.type "object") = some true) (xn_BadWatch : PySem.W.subIn K (.ref C_BadWatch) (.ref C_NearError) = some true)
    (fc_BadRow : PySem.W.findIn K (.ref C_BadRow) "__class__" = some (some (.builtin "object.__class__"))) (mo_BadRow : PySem.W.mroIn K C_BadRow (.type "object") = some true) (xn_BadRow : PySem.W.subIn K (.ref C_BadRow) (.ref C_NearError) = some true)
    (fc_BadTable : PySem.W.findIn K (.ref C_BadTable) "__class__" = some (some (.builtin "object.__class__"))) (mo_BadTable : PySem.W.mroIn K C_BadTable (.type "object") = some true) (xn_BadTable : PySem.W.subIn K (.ref C_BadTable) (.ref C_NearError) = some true)
    (tany : PySem.W.nsIn K cStatics "thirdparty.any" = some none) (msup : PySem.W.nsIn K mainGlobals "super" = some none) (tsup : (l.prog.main.scope.names.lookup ("super" : Str)).isSome = false)
    (m_len : PySem.W.nsIn K mainGlobals "len" = some none)
    (m_int : PySem.W.nsIn K mainGlobals "int" = some none)
    (m_range : PySem.W.nsIn K mainGlobals "range" = some none)
    (m_isinstance : PySem.W.nsIn K mainGlobals "isinstance" = some none)
    (m_super : PySem.W.nsIn K mainGlobals "super" = some none)
    (m_ValueError : PySem.W.nsIn K mainGlobals "ValueError" = some none) :
    ∃ fd : FuncData, (∀ (s : Shared) (v : Value), BindsTo s fd ⟨[v], []⟩ [("_law_script", v)]) ∧ ∀ base : Heap, K.In base → base.Ns mainGlobals mg → FnOk l.prog w K mg base CX0 5 fa fd ["_law_script"] (sp_law K) := by
  have e := hfa.symm.trans (PySem.W.mg_of X G a_law)
  cases e
  have F__law_source := fun_mk (st := s__law_source) l__law_source c__law_source k__law_source
  have b__law_source := F__law_source.binds (ps := ["_law_script"]) fun _ _ _ _ _ _ us hl => match us, hl with | [_], _ => rfl
  have F__law_draw := fun_mk (st := s__law_draw) l__law_draw c__law_draw k__law_draw
  have b__law_draw := F__law_draw.binds (ps := ["_law_source_here", "_law_many"]) fun _ _ _ _ _ _ us hl => match us, hl with | [_, _], _ => rfl
  have F__law_pick := fun_mk (st := s__law_pick) l__law_pick c__law_pick k__law_pick
  have b__law_pick := F__law_pick.binds (ps := ["_law_source_here", "_law_things"]) fun _ _ _ _ _ _ us hl => match us, hl with | [_, _], _ => rfl
  have F__law_raised := fun_mk (st := s__law_raised) l__law_raised c__law_raised k__law_raised
  have b__law_raised := F__law_raised.binds (ps := ["_law_how", "_law_a"]) fun _ _ _ _ _ _ us hl => match us, hl with | [_, _], _ => rfl
  have F__law_fields := fun_mk (st := s__law_fields) l__law_fields c__law_fields k__law_fields
  have b__law_fields := F__law_fields.binds (ps := ["_law_how", "_law_a"]) fun _ _ _ _ _ _ us hl => match us, hl with | [_, _], _ => rfl
  have F__law_caught := fun_mk (st := s__law_caught) l__law_caught c__law_caught k__law_caught
  have b__law_caught := F__law_caught.binds (ps := ["_law_how", "_law_a"]) fun _ _ _ _ _ _ us hl => match us, hl with | [_, _], _ => rfl
  have F_law := fun_mk (st := s_law) l_law c_law k_law
  have b_law := F_law.binds (ps := ["_law_script"]) fun _ _ _ _ _ _ us hl => match us, hl with | [_], _ => rfl
  exact ⟨PySem.W.fnOf "law" "law" (defArgs s_law) (defBody s_law) (defScope s_law) .none kV_law dc_law pm_law an_law cd_law ct_law, fun s v => .of_eq rfl, fun base _ _ => ok_law { a_BadNumber := C_BadNumber, g_BadNumber := PySem.W.mg_of X G gc_BadNumber, ei_BadNumber := ei_BadNumber, fe_BadNumber := _, x_BadNumber := ⟨⟨_, _, _, _, _, _, _, _, _, _, _, _, _, _, _, _, _, _, _, _, rfl, le_BadNumber, ce_BadNumber, lc_BadNumber, vf_BadNumber, ff_BadNumber, lz_BadNumber⟩, ⟨⟨_, _, _, _, _, _, _, _, _, _, _, _, _, _, _, xl_BadNumber, rv_BadNumber⟩, sa_BadNumber, ec_BadNumber, tc_BadNumber, kc_BadNumber⟩, tany, su_BadNumber, sv_BadNumber, mr_BadNumber, msup, tsup⟩, ii_BadNumber := ii_BadNumber, ti_BadNumber := ti_BadNumber, be_BadNumber := fun _ us _ hl => (match us, hl with | [_, _], _ => .of_eq rfl), xf_BadNumber := ⟨ga_BadNumber, gg_BadNumber, ec_BadNumber, hd_BadNumber⟩, nf_BadNumber := nf_BadNumber, a_BadTolerance := C_BadTolerance, g_BadTolerance := PySem.W.mg_of X G gc_BadTolerance, ei_BadTolerance := ei_BadTolerance, fe_BadTolerance := _, x_BadTolerance := ⟨⟨_, _, _, _, _, _, _, _, _, _, _, _, _, _, _, _, _, _, _, _, rfl, le_BadTolerance, ce_BadTolerance, lc_BadTolerance, vf_BadTolerance, ff_BadTolerance, lz_BadTolerance⟩, ⟨⟨_, _, _, _, _, _, _, _, _, _, _, _, _, _, _, xl_BadTolerance, rv_BadTolerance⟩, sa_BadTolerance, ec_BadTolerance, tc_BadTolerance, kc_BadTolerance⟩, tany, su_BadTolerance, sv_BadTolerance, mr_BadTolerance, msup, tsup⟩, ii_BadTolerance := ii_BadTolerance, ti_BadTolerance := ti_BadTolerance, be_BadTolerance := fun _ us _ hl => (match us, hl with | [_, _], _ => .of_eq rfl), xf_BadTolerance := ⟨ga_BadTolerance, gg_BadTolerance, ec_BadTolerance, hd_BadTolerance⟩, nf_BadTolerance := nf_BadTolerance, a_BadGroup := C_BadGroup, g_BadGroup := PySem.W.mg_of X G gc_BadGroup, ei_BadGroup := ei_BadGroup, fe_BadGroup := _, x_BadGroup := ⟨⟨_, _, _, _, _, _, _, _, _, _, _, _, _, _, _, _, _, _, _, _, rfl, le_BadGroup, ce_BadGroup, lc_BadGroup, vf_BadGroup, ff_BadGroup, lz_BadGroup⟩, ⟨⟨_, _, _, _, _, _, _, _, _, _, _, _, _, _, _, xl_BadGroup, rv_BadGroup⟩, sa_BadGroup, ec_BadGroup, tc_BadGroup, kc_BadGroup⟩, tany, su_BadGroup, sv_BadGroup, mr_BadGroup, msup, tsup⟩, ii_BadGroup := ii_BadGroup, ti_BadGroup := ti_BadGroup, be_BadGroup := fun _ us _ hl => (match us, hl with | [_, _], _ => .of_eq rfl), xf_BadGroup := ⟨ga_BadGroup, gg_BadGroup, ec_BadGroup, hd_BadGroup⟩, nf_BadGroup := nf_BadGroup, a_BadLoop := C_BadLoop, g_BadLoop := PySem.W.mg_of X G gc_BadLoop, ei_BadLoop := ei_BadLoop, fe_BadLoop := _, x_BadLoop := ⟨⟨_, _, _, _, _, _, _, _, _, _, _, _, _, _, _, _, _, _, _, _, rfl, le_BadLoop, ce_BadLoop, lc_BadLoop, vf_BadLoop, ff_BadLoop, lz_BadLoop⟩, ⟨⟨_, _, _, _, _, _, _, _, _, _, _, _, _, _, _, xl_BadLoop, rv_BadLoop⟩, sa_BadLoop, ec_BadLoop, tc_BadLoop, kc_BadLoop⟩, tany, su_BadLoop, sv_BadLoop, mr_BadLoop, msup, tsup⟩, ii_BadLoop := ii_BadLoop, ti_BadLoop := ti_BadLoop, be_BadLoop := fun _ us _ hl => (match us, hl with | [_, _], _ => .of_eq rfl), xf_BadLoop := ⟨ga_BadLoop, gg_BadLoop, ec_BadLoop, hd_BadLoop⟩, nf_BadLoop := nf_BadLoop, a_UnknownState := C_UnknownState, g_UnknownState := PySem.W.mg_of X G gc_UnknownState, ei_UnknownState := ei_UnknownState, fe_UnknownState := _, x_UnknownState := ⟨⟨_, _, _, _, _, _, _, _, _, _, _, _, _, _, _, _, _, _, _, _, rfl, le_UnknownState, ce_UnknownState, lc_UnknownState, vf_UnknownState, ff_UnknownState, lz_UnknownState⟩, ⟨⟨_, _, _, _, _, _, _, _, _, _, _, _, _, _, _, xl_UnknownState, rv_UnknownState⟩, sa_UnknownState, ec_UnknownState, tc_UnknownState, kc_UnknownState⟩, tany, su_UnknownState, sv_UnknownState, mr_UnknownState, msup, tsup⟩, ii_UnknownState := ii_UnknownState, ti_UnknownState := ti_UnknownState, be_UnknownState := fun _ us _ hl => (match us, hl with | [_, _], _ => .of_eq rfl), xf_UnknownState := ⟨ga_UnknownState, gg_UnknownState, ec_UnknownState, hd_UnknownState⟩, nf_UnknownState := nf_UnknownState, a_BadAnswer := C_BadAnswer, g_BadAnswer := PySem.W.mg_of X G gc_BadAnswer, ei_BadAnswer := ei_BadAnswer, fe_BadAnswer := _, x_BadAnswer := ⟨⟨_, _, _, _, _, _, _, _, _, _, _, _, _, _, _, _, _, _, _, _, rfl, le_BadAnswer, ce_BadAnswer, lc_BadAnswer, vf_BadAnswer, ff_BadAnswer, lz_BadAnswer⟩, ⟨⟨_, _, _, _, _, _, _, _, _, _, _, _, _, _, _, xl_BadAnswer, rv_BadAnswer⟩, sa_BadAnswer, ec_BadAnswer, tc_BadAnswer, kc_BadAnswer⟩, tany, su_BadAnswer, sv_BadAnswer, mr_BadAnswer, msup, tsup⟩, ii_BadAnswer := ii_BadAnswer, ti_BadAnswer := ti_BadAnswer, be_BadAnswer := fun _ us _ hl => (match us, hl with | [_, _], _ => .of_eq rfl), xf_BadAnswer := ⟨ga_BadAnswer, gg_BadAnswer, ec_BadAnswer, hd_BadAnswer⟩, nf_BadAnswer := nf_BadAnswer, a_BadJoint := C_BadJoint, g_BadJoint := PySem.W.mg_of X G gc_BadJoint, ei_BadJoint := ei_BadJoint, fe_BadJoint := _, x_BadJoint := ⟨⟨_, _, _, _, _, _, _, _, _, _, _, _, _, _, _, _, _, _, _, _, rfl, le_BadJoint, ce_BadJoint, lc_BadJoint, vf_BadJoint, ff_BadJoint, lz_BadJoint⟩, ⟨⟨_, _, _, _, _, _, _, _, _, _, _, _, _, _, _, xl_BadJoint, rv_BadJoint⟩, sa_BadJoint, ec_BadJoint, tc_BadJoint, kc_BadJoint⟩, tany, su_BadJoint, sv_BadJoint, mr_BadJoint, msup, tsup⟩, ii_BadJoint := ii_BadJoint, ti_BadJoint := ti_BadJoint, be_BadJoint := fun _ us _ hl => (match us, hl with | [_, _], _ => .of_eq rfl), xf_BadJoint := ⟨ga_BadJoint, gg_BadJoint, ec_BadJoint, hd_BadJoint⟩, nf_BadJoint := nf_BadJoint, a_BadKind := C_BadKind, g_BadKind := PySem.W.mg_of X G gc_BadKind, ei_BadKind := ei_BadKind, fe_BadKind := _, x_BadKind := ⟨⟨_, _, _, _, _, _, _, _, _, _, _, _, _, _, _, _, _, _, _, _, rfl, le_BadKind, ce_BadKind, lc_BadKind, vf_BadKind, ff_BadKind, lz_BadKind⟩, ⟨⟨_, _, _, _, _, _, _, _, _, _, _, _, _, _, _, xl_BadKind, rv_BadKind⟩, sa_BadKind, ec_BadKind, tc_BadKind, kc_BadKind⟩, tany, su_BadKind, sv_BadKind, mr_BadKind, msup, tsup⟩, ii_BadKind := ii_BadKind, ti_BadKind := ti_BadKind, be_BadKind := fun _ us _ hl => (match us, hl with | [_, _], _ => .of_eq rfl), xf_BadKind := ⟨ga_BadKind, gg_BadKind, ec_BadKind, hd_BadKind⟩, nf_BadKind := nf_BadKind, a_BadWatch := C_BadWatch, g_BadWatch := PySem.W.mg_of X G gc_BadWatch, ei_BadWatch := ei_BadWatch, fe_BadWatch := _, x_BadWatch := ⟨⟨_, _, _, _, _, _, _, _, _, _, _, _, _, _, _, _, _, _, _, _, rfl, le_BadWatch, ce_BadWatch, lc_BadWatch, vf_BadWatch, ff_BadWatch, lz_BadWatch⟩, ⟨⟨_, _, _, _, _, _, _, _, _, _, _, _, _, _, _, xl_BadWatch, rv_BadWatch⟩, sa_BadWatch, ec_BadWatch, tc_BadWatch, kc_BadWatch⟩, tany, su_BadWatch, sv_BadWatch, mr_BadWatch, msup, tsup⟩, ii_BadWatch := ii_BadWatch, ti_BadWatch := ti_BadWatch, be_BadWatch := fun _ us _ hl => (match us, hl with | [_, _], _ => .of_eq rfl), xf_BadWatch := ⟨ga_BadWatch, gg_BadWatch, ec_BadWatch, hd_BadWatch⟩, nf_BadWatch := nf_BadWatch, a_BadRow := C_BadRow, g_BadRow := PySem.W.mg_of X G gc_BadRow, ei_BadRow := ei_BadRow, fe_BadRow := _, x_BadRow := ⟨⟨_, _, _, _, _, _, _, _, _, _, _, _, _, _, _, _, _, _, _, _, rfl, le_BadRow, ce_BadRow, lc_BadRow, vf_BadRow, ff_BadRow, lz_BadRow⟩, ⟨⟨_, _, _, _, _, _, _, _, _, _, _, _, _, _, _, xl_BadRow, rv_BadRow⟩, sa_BadRow, ec_BadRow, tc_BadRow, kc_BadRow⟩, tany, su_BadRow, sv_BadRow, mr_BadRow, msup, tsup⟩, ii_BadRow := ii_BadRow, ti_BadRow := ti_BadRow, be_BadRow := fun _ us _ hl => (match us, hl with | [_], _ => .of_eq rfl), xf_BadRow := ⟨ga_BadRow, gg_BadRow, ec_BadRow, hd_BadRow⟩, a_BadTable := C_BadTable, g_BadTable := PySem.W.mg_of X G gc_BadTable, ei_BadTable := ei_BadTable, fe_BadTable := _, x_BadTable := ⟨⟨_, _, _, _, _, _, _, _, _, _, _, _, _, _, _, _, _, _, _, _, rfl, le_BadTable, ce_BadTable, lc_BadTable, vf_BadTable, ff_BadTable, lz_BadTable⟩, ⟨⟨_, _, _, _, _, _, _, _, _, _, _, _, _, _, _, xl_BadTable, rv_BadTable⟩, sa_BadTable, ec_BadTable, tc_BadTable, kc_BadTable⟩, tany, su_BadTable, sv_BadTable, mr_BadTable, msup, tsup⟩, ii_BadTable := ii_BadTable, ti_BadTable := ti_BadTable, be_BadTable := fun _ us _ hl => (match us, hl with | [_], _ => .of_eq rfl), xf_BadTable := ⟨ga_BadTable, gg_BadTable, ec_BadTable, hd_BadTable⟩, a_NearError := C_NearError, g_NearError := PySem.W.mg_of X G gc_NearError, ex_BadNumber := ⟨ga_BadNumber, gg_BadNumber, ec_BadNumber, hd_BadNumber, fc_BadNumber, sp_cls, tk_cls, mo_BadNumber⟩, xn_BadNumber := NL.exm_of2 ec_NearError ic_NearError tc_NearError xn_BadNumber, kv_BadNumber := NL.kitV_of sv_BadNumber, bk_BadNumber := fun _ _ _ => .of_eq rfl, kt_BadNumber_BadNumber := NL.kit_of2 ic_BadNumber tc_BadNumber xm_BadNumber_BadNumber xm_BadNumber_BadNumber, kt_BadNumber_BadTolerance := NL.kit_of2 ic_BadTolerance tc_BadTolerance xm_BadNumber_BadTolerance xm_BadNumber_BadNumber, kt_BadNumber_BadGroup := NL.kit_of2 ic_BadGroup tc_BadGroup xm_BadNumber_BadGroup xm_BadNumber_BadNumber, kt_BadNumber_BadLoop := NL.kit_of2 ic_BadLoop tc_BadLoop xm_BadNumber_BadLoop xm_BadNumber_BadNumber, kt_BadNumber_UnknownState := NL.kit_of2 ic_UnknownState tc_UnknownState xm_BadNumber_UnknownState xm_BadNumber_BadNumber, kt_BadNumber_BadAnswer := NL.kit_of2 ic_BadAnswer tc_BadAnswer xm_BadNumber_BadAnswer xm_BadNumber_BadNumber, kt_BadNumber_BadJoint := NL.kit_of2 ic_BadJoint tc_BadJoint xm_BadNumber_BadJoint xm_BadNumber_BadNumber, kt_BadNumber_BadKind := NL.kit_of2 ic_BadKind tc_BadKind xm_BadNumber_BadKind xm_BadNumber_BadNumber, kt_BadNumber_BadWatch := NL.kit_of2 ic_BadWatch tc_BadWatch xm_BadNumber_BadWatch xm_BadNumber_BadNumber, kt_BadNumber_BadRow := NL.kit_of2 ic_BadRow tc_BadRow xm_BadNumber_BadRow xm_BadNumber_BadNumber, kt_BadNumber_BadTable := NL.kit_of2 ic_BadTable tc_BadTable xm_BadNumber_BadTable xm_BadNumber_BadNumber, ex_BadTolerance := ⟨ga_BadTolerance, gg_BadTolerance, ec_BadTolerance, hd_BadTolerance, fc_BadTolerance, sp_cls, tk_cls, mo_BadTolerance⟩, xn_BadTolerance := NL.exm_of2 ec_NearError ic_NearError tc_NearError xn_BadTolerance, kv_BadTolerance := NL.kitV_of sv_BadTolerance, bk_BadTolerance := fun _ _ _ => .of_eq rfl, kt_BadTolerance_BadNumber := NL.kit_of2 ic_BadNumber tc_BadNumber xm_BadTolerance_BadNumber xm_BadTolerance_BadTolerance, kt_BadTolerance_BadTolerance := NL.kit_of2 ic_BadTolerance tc_BadTolerance xm_BadTolerance_BadTolerance xm_BadTolerance_BadTolerance, kt_BadTolerance_BadGroup := NL.kit_of2 ic_BadGroup tc_BadGroup xm_BadTolerance_BadGroup xm_BadTolerance_BadTolerance, kt_BadTolerance_BadLoop := NL.kit_of2 ic_BadLoop tc_BadLoop xm_BadTolerance_BadLoop xm_BadTolerance_BadTolerance, kt_BadTolerance_UnknownState := NL.kit_of2 ic_UnknownState tc_UnknownState xm_BadTolerance_UnknownState xm_BadTolerance_BadTolerance, kt_BadTolerance_BadAnswer := NL.kit_of2 ic_BadAnswer tc_BadAnswer xm_BadTolerance_BadAnswer xm_BadTolerance_BadTolerance, kt_BadTolerance_BadJoint := NL.kit_of2 ic_BadJoint tc_BadJoint xm_BadTolerance_BadJoint xm_BadTolerance_BadTolerance, kt_BadTolerance_BadKind := NL.kit_of2 ic_BadKind tc_BadKind xm_BadTolerance_BadKind xm_BadTolerance_BadTolerance, kt_BadTolerance_BadWatch := NL.kit_of2 ic_BadWatch tc_BadWatch xm_BadTolerance_BadWatch xm_BadTolerance_BadTolerance, kt_BadTolerance_BadRow := NL.kit_of2 ic_BadRow tc_BadRow xm_BadTolerance_BadRow xm_BadTolerance_BadTolerance, kt_BadTolerance_BadTable := NL.kit_of2 ic_BadTable tc_BadTable xm_BadTolerance_BadTable xm_BadTolerance_BadTolerance, ex_BadGroup := ⟨ga_BadGroup, gg_BadGroup, ec_BadGroup, hd_BadGroup, fc_BadGroup, sp_cls, tk_cls, mo_BadGroup⟩, xn_BadGroup := NL.exm_of2 ec_NearError ic_NearError tc_NearError xn_BadGroup, kv_BadGroup := NL.kitV_of sv_BadGroup, bk_BadGroup := fun _ _ _ => .of_eq rfl, kt_BadGroup_BadNumber := NL.kit_of2 ic_BadNumber tc_BadNumber xm_BadGroup_BadNumber xm_BadGroup_BadGroup, kt_BadGroup_BadTolerance := NL.kit_of2 ic_BadTolerance tc_BadTolerance xm_BadGroup_BadTolerance xm_BadGroup_BadGroup, kt_BadGroup_BadGroup := NL.kit_of2 ic_BadGroup tc_BadGroup xm_BadGroup_BadGroup xm_BadGroup_BadGroup, kt_BadGroup_BadLoop := NL.kit_of2 ic_BadLoop tc_BadLoop xm_BadGroup_BadLoop xm_BadGroup_BadGroup, kt_BadGroup_UnknownState := NL.kit_of2 ic_UnknownState tc_UnknownState xm_BadGroup_UnknownState xm_BadGroup_BadGroup, kt_BadGroup_BadAnswer := NL.kit_of2 ic_BadAnswer tc_BadAnswer xm_BadGroup_BadAnswer xm_BadGroup_BadGroup, kt_BadGroup_BadJoint := NL.kit_of2 ic_BadJoint tc_BadJoint xm_BadGroup_BadJoint xm_BadGroup_BadGroup, kt_BadGroup_BadKind := NL.kit_of2 ic_BadKind tc_BadKind xm_BadGroup_BadKind xm_BadGroup_BadGroup, kt_BadGroup_BadWatch := NL.kit_of2 ic_BadWatch tc_BadWatch xm_BadGroup_BadWatch xm_BadGroup_BadGroup, kt_BadGroup_BadRow := NL.kit_of2 ic_BadRow tc_BadRow xm_BadGroup_BadRow xm_BadGroup_BadGroup, kt_BadGroup_BadTable := NL.kit_of2 ic_BadTable tc_BadTable xm_BadGroup_BadTable xm_BadGroup_BadGroup, ex_BadLoop := ⟨ga_BadLoop, gg_BadLoop, ec_BadLoop, hd_BadLoop, fc_BadLoop, sp_cls, tk_cls, mo_BadLoop⟩, xn_BadLoop := NL.exm_of2 ec_NearError ic_NearError tc_NearError xn_BadLoop, kv_BadLoop := NL.kitV_of sv_BadLoop, bk_BadLoop := fun _ _ _ => .of_eq rfl, kt_BadLoop_BadNumber := NL.kit_of2 ic_BadNumber tc_BadNumber xm_BadLoop_BadNumber xm_BadLoop_BadLoop, kt_BadLoop_BadTolerance := NL.kit_of2 ic_BadTolerance tc_BadTolerance xm_BadLoop_BadTolerance xm_BadLoop_BadLoop, kt_BadLoop_BadGroup := NL.kit_of2 ic_BadGroup tc_BadGroup xm_BadLoop_BadGroup xm_BadLoop_BadLoop, kt_BadLoop_BadLoop := NL.kit_of2 ic_BadLoop tc_BadLoop xm_BadLoop_BadLoop xm_BadLoop_BadLoop, kt_BadLoop_UnknownState := NL.kit_of2 ic_UnknownState tc_UnknownState xm_BadLoop_UnknownState xm_BadLoop_BadLoop, kt_BadLoop_BadAnswer := NL.kit_of2 ic_BadAnswer tc_BadAnswer xm_BadLoop_BadAnswer xm_BadLoop_BadLoop, kt_BadLoop_BadJoint := NL.kit_of2 ic_BadJoint tc_BadJoint xm_BadLoop_BadJoint xm_BadLoop_BadLoop, kt_BadLoop_BadKind := NL.kit_of2 ic_BadKind tc_BadKind xm_BadLoop_BadKind xm_BadLoop_BadLoop, kt_BadLoop_BadWatch := NL.kit_of2 ic_BadWatch tc_BadWatch xm_BadLoop_BadWatch xm_BadLoop_BadLoop, kt_BadLoop_BadRow := NL.kit_of2 ic_BadRow tc_BadRow xm_BadLoop_BadRow xm_BadLoop_BadLoop, kt_BadLoop_BadTable := NL.kit_of2 ic_BadTable tc_BadTable xm_BadLoop_BadTable xm_BadLoop_BadLoop, ex_UnknownState := ⟨ga_UnknownState, gg_UnknownState, ec_UnknownState, hd_UnknownState, fc_UnknownState, sp_cls, tk_cls, mo_UnknownState⟩, xn_UnknownState := NL.exm_of2 ec_NearError ic_NearError tc_NearError xn_UnknownState, kv_UnknownState := NL.kitV_of sv_UnknownState, bk_UnknownState := fun _ _ _ => .of_eq rfl, kt_UnknownState_BadNumber := NL.kit_of2 ic_BadNumber tc_BadNumber xm_UnknownState_BadNumber xm_UnknownState_UnknownState, kt_UnknownState_BadTolerance := NL.kit_of2 ic_BadTolerance tc_BadTolerance xm_UnknownState_BadTolerance xm_UnknownState_UnknownState, kt_UnknownState_BadGroup := NL.kit_of2 ic_BadGroup tc_BadGroup xm_UnknownState_BadGroup xm_UnknownState_UnknownState, kt_UnknownState_BadLoop := NL.kit_of2 ic_BadLoop tc_BadLoop xm_UnknownState_BadLoop xm_UnknownState_UnknownState, kt_UnknownState_UnknownState := NL.kit_of2 ic_UnknownState tc_UnknownState xm_UnknownState_UnknownState xm_UnknownState_UnknownState, kt_UnknownState_BadAnswer := NL.kit_of2 ic_BadAnswer tc_BadAnswer xm_UnknownState_BadAnswer xm_UnknownState_UnknownState, kt_UnknownState_BadJoint := NL.kit_of2 ic_BadJoint tc_BadJoint xm_UnknownState_BadJoint xm_UnknownState_UnknownState, kt_UnknownState_BadKind := NL.kit_of2 ic_BadKind tc_BadKind xm_UnknownState_BadKind xm_UnknownState_UnknownState, kt_UnknownState_BadWatch := NL.kit_of2 ic_BadWatch tc_BadWatch xm_UnknownState_BadWatch xm_UnknownState_UnknownState, kt_UnknownState_BadRow := NL.kit_of2 ic_BadRow tc_BadRow xm_UnknownState_BadRow xm_UnknownState_UnknownState, kt_UnknownState_BadTable := NL.kit_of2 ic_BadTable tc_BadTable xm_UnknownState_BadTable xm_UnknownState_UnknownState, ex_BadAnswer := ⟨ga_BadAnswer, gg_BadAnswer, ec_BadAnswer, hd_BadAnswer, fc_BadAnswer, sp_cls, tk_cls, mo_BadAnswer⟩, xn_BadAnswer := NL.exm_of2 ec_NearError ic_NearError tc_NearError xn_BadAnswer, kv_BadAnswer := NL.kitV_of sv_BadAnswer, bk_BadAnswer := fun _ _ _ => .of_eq rfl, kt_BadAnswer_BadNumber := NL.kit_of2 ic_BadNumber tc_BadNumber xm_BadAnswer_BadNumber xm_BadAnswer_BadAnswer, kt_BadAnswer_BadTolerance := NL.kit_of2 ic_BadTolerance tc_BadTolerance xm_BadAnswer_BadTolerance xm_BadAnswer_BadAnswer, kt_BadAnswer_BadGroup := NL.kit_of2 ic_BadGroup tc_BadGroup xm_BadAnswer_BadGroup xm_BadAnswer_BadAnswer, kt_BadAnswer_BadLoop := NL.kit_of2 ic_BadLoop tc_BadLoop xm_BadAnswer_BadLoop xm_BadAnswer_BadAnswer, kt_BadAnswer_UnknownState := NL.kit_of2 ic_UnknownState tc_UnknownState xm_BadAnswer_UnknownState xm_BadAnswer_BadAnswer, kt_BadAnswer_BadAnswer := NL.kit_of2 ic_BadAnswer tc_BadAnswer xm_BadAnswer_BadAnswer xm_BadAnswer_BadAnswer, kt_BadAnswer_BadJoint := NL.kit_of2 ic_BadJoint tc_BadJoint xm_BadAnswer_BadJoint xm_BadAnswer_BadAnswer, kt_BadAnswer_BadKind := NL.kit_of2 ic_BadKind tc_BadKind xm_BadAnswer_BadKind xm_BadAnswer_BadAnswer, kt_BadAnswer_BadWatch := NL.kit_of2 ic_BadWatch tc_BadWatch xm_BadAnswer_BadWatch xm_BadAnswer_BadAnswer, kt_BadAnswer_BadRow := NL.kit_of2 ic_BadRow tc_BadRow xm_BadAnswer_BadRow xm_BadAnswer_BadAnswer, kt_BadAnswer_BadTable := NL.kit_of2 ic_BadTable tc_BadTable xm_BadAnswer_BadTable xm_BadAnswer_BadAnswer, ex_BadJoint := ⟨ga_BadJoint, gg_BadJoint, ec_BadJoint, hd_BadJoint, fc_BadJoint, sp_cls, tk_cls, mo_BadJoint⟩, xn_BadJoint := NL.exm_of2 ec_NearError ic_NearError tc_NearError xn_BadJoint, kv_BadJoint := NL.kitV_of sv_BadJoint, bk_BadJoint := fun _ _ _ => .of_eq rfl, kt_BadJoint_BadNumber := NL.kit_of2 ic_BadNumber tc_BadNumber xm_BadJoint_BadNumber xm_BadJoint_BadJoint, kt_BadJoint_BadTolerance := NL.kit_of2 ic_BadTolerance tc_BadTolerance xm_BadJoint_BadTolerance xm_BadJoint_BadJoint, kt_BadJoint_BadGroup := NL.kit_of2 ic_BadGroup tc_BadGroup xm_BadJoint_BadGroup xm_BadJoint_BadJoint, kt_BadJoint_BadLoop := NL.kit_of2 ic_BadLoop tc_BadLoop xm_BadJoint_BadLoop xm_BadJoint_BadJoint, kt_BadJoint_UnknownState := NL.kit_of2 ic_UnknownState tc_UnknownState xm_BadJoint_UnknownState xm_BadJoint_BadJoint, kt_BadJoint_BadAnswer := NL.kit_of2 ic_BadAnswer tc_BadAnswer xm_BadJoint_BadAnswer xm_BadJoint_BadJoint, kt_BadJoint_BadJoint := NL.kit_of2 ic_BadJoint tc_BadJoint xm_BadJoint_BadJoint xm_BadJoint_BadJoint, kt_BadJoint_BadKind := NL.kit_of2 ic_BadKind tc_BadKind xm_BadJoint_BadKind xm_BadJoint_BadJoint, kt_BadJoint_BadWatch := NL.kit_of2 ic_BadWatch tc_BadWatch xm_BadJoint_BadWatch xm_BadJoint_BadJoint, kt_BadJoint_BadRow := NL.kit_of2 ic_BadRow tc_BadRow xm_BadJoint_BadRow xm_BadJoint_BadJoint, kt_BadJoint_BadTable := NL.kit_of2 ic_BadTable tc_BadTable xm_BadJoint_BadTable xm_BadJoint_BadJoint, ex_BadKind := ⟨ga_BadKind, gg_BadKind, ec_BadKind, hd_BadKind, fc_BadKind, sp_cls, tk_cls, mo_BadKind⟩, xn_BadKind := NL.exm_of2 ec_NearError ic_NearError tc_NearError xn_BadKind, kv_BadKind := NL.kitV_of sv_BadKind, bk_BadKind := fun _ _ _ => .of_eq rfl, kt_BadKind_BadNumber := NL.kit_of2 ic_BadNumber tc_BadNumber xm_BadKind_BadNumber xm_BadKind_BadKind, kt_BadKind_BadTolerance := NL.kit_of2 ic_BadTolerance tc_BadTolerance xm_BadKind_BadTolerance xm_BadKind_BadKind, kt_BadKind_BadGroup := NL.kit_of2 ic_BadGroup tc_BadGroup xm_BadKind_BadGroup xm_BadKind_BadKind, kt_BadKind_BadLoop := NL.kit_of2 ic_BadLoop tc_BadLoop xm_BadKind_BadLoop xm_BadKind_BadKind, kt_BadKind_UnknownState := NL.kit_of2 ic_UnknownState tc_UnknownState xm_BadKind_UnknownState xm_BadKind_BadKind, kt_BadKind_BadAnswer := NL.kit_of2 ic_BadAnswer tc_BadAnswer xm_BadKind_BadAnswer xm_BadKind_BadKind, kt_BadKind_BadJoint := NL.kit_of2 ic_BadJoint tc_BadJoint xm_BadKind_BadJoint xm_BadKind_BadKind, kt_BadKind_BadKind := NL.kit_of2 ic_BadKind tc_BadKind xm_BadKind_BadKind xm_BadKind_BadKind, kt_BadKind_BadWatch := NL.kit_of2 ic_BadWatch tc_BadWatch xm_BadKind_BadWatch xm_BadKind_BadKind, kt_BadKind_BadRow := NL.kit_of2 ic_BadRow tc_BadRow xm_BadKind_BadRow xm_BadKind_BadKind, kt_BadKind_BadTable := NL.kit_of2 ic_BadTable tc_BadTable xm_BadKind_BadTable xm_BadKind_BadKind, ex_BadWatch := ⟨ga_BadWatch, gg_BadWatch, ec_BadWatch, hd_BadWatch, fc_BadWatch, sp_cls, tk_cls, mo_BadWatch⟩, xn_BadWatch := NL.exm_of2 ec_NearError ic_NearError tc_NearError xn_BadWatch, kv_BadWatch := NL.kitV_of sv_BadWatch, bk_BadWatch := fun _ _ _ => .of_eq rfl, kt_BadWatch_BadNumber := NL.kit_of2 ic_BadNumber tc_BadNumber xm_BadWatch_BadNumber xm_BadWatch_BadWatch, kt_BadWatch_BadTolerance := NL.kit_of2 ic_BadTolerance tc_BadTolerance xm_BadWatch_BadTolerance xm_BadWatch_BadWatch, kt_BadWatch_BadGroup := NL.kit_of2 ic_BadGroup tc_BadGroup xm_BadWatch_BadGroup xm_BadWatch_BadWatch, kt_BadWatch_BadLoop := NL.kit_of2 ic_BadLoop tc_BadLoop xm_BadWatch_BadLoop xm_BadWatch_BadWatch, kt_BadWatch_UnknownState := NL.kit_of2 ic_UnknownState tc_UnknownState xm_BadWatch_UnknownState xm_BadWatch_BadWatch, kt_BadWatch_BadAnswer := NL.kit_of2 ic_BadAnswer tc_BadAnswer xm_BadWatch_BadAnswer xm_BadWatch_BadWatch, kt_BadWatch_BadJoint := NL.kit_of2 ic_BadJoint tc_BadJoint xm_BadWatch_BadJoint xm_BadWatch_BadWatch, kt_BadWatch_BadKind := NL.kit_of2 ic_BadKind tc_BadKind xm_BadWatch_BadKind xm_BadWatch_BadWatch, kt_BadWatch_BadWatch := NL.kit_of2 ic_BadWatch tc_BadWatch xm_BadWatch_BadWatch xm_BadWatch_BadWatch, kt_BadWatch_BadRow := NL.kit_of2 ic_BadRow tc_BadRow xm_BadWatch_BadRow xm_BadWatch_BadWatch, kt_BadWatch_BadTable := NL.kit_of2 ic_BadTable tc_BadTable xm_BadWatch_BadTable xm_BadWatch_BadWatch, ex_BadRow := ⟨ga_BadRow, gg_BadRow, ec_BadRow, hd_BadRow, fc_BadRow, sp_cls, tk_cls, mo_BadRow⟩, xn_BadRow := NL.exm_of2 ec_NearError ic_NearError tc_NearError xn_BadRow, kv_BadRow := NL.kitV_of sv_BadRow, kt_BadRow_BadNumber := NL.kit_of2 ic_BadNumber tc_BadNumber xm_BadRow_BadNumber xm_BadRow_BadRow, kt_BadRow_BadTolerance := NL.kit_of2 ic_BadTolerance tc_BadTolerance xm_BadRow_BadTolerance xm_BadRow_BadRow, kt_BadRow_BadGroup := NL.kit_of2 ic_BadGroup tc_BadGroup xm_BadRow_BadGroup xm_BadRow_BadRow, kt_BadRow_BadLoop := NL.kit_of2 ic_BadLoop tc_BadLoop xm_BadRow_BadLoop xm_BadRow_BadRow, kt_BadRow_UnknownState := NL.kit_of2 ic_UnknownState tc_UnknownState xm_BadRow_UnknownState xm_BadRow_BadRow, kt_BadRow_BadAnswer := NL.kit_of2 ic_BadAnswer tc_BadAnswer xm_BadRow_BadAnswer xm_BadRow_BadRow, kt_BadRow_BadJoint := NL.kit_of2 ic_BadJoint tc_BadJoint xm_BadRow_BadJoint xm_BadRow_BadRow, kt_BadRow_BadKind := NL.kit_of2 ic_BadKind tc_BadKind xm_BadRow_BadKind xm_BadRow_BadRow, kt_BadRow_BadWatch := NL.kit_of2 ic_BadWatch tc_BadWatch xm_BadRow_BadWatch xm_BadRow_BadRow, kt_BadRow_BadRow := NL.kit_of2 ic_BadRow tc_BadRow xm_BadRow_BadRow xm_BadRow_BadRow, kt_BadRow_BadTable := NL.kit_of2 ic_BadTable tc_BadTable xm_BadRow_BadTable xm_BadRow_BadRow, ex_BadTable := ⟨ga_BadTable, gg_BadTable, ec_BadTable, hd_BadTable, fc_BadTable, sp_cls, tk_cls, mo_BadTable⟩, xn_BadTable := NL.exm_of2 ec_NearError ic_NearError tc_NearError xn_BadTable, kv_BadTable := NL.kitV_of sv_BadTable, kt_BadTable_BadNumber := NL.kit_of2 ic_BadNumber tc_BadNumber xm_BadTable_BadNumber xm_BadTable_BadTable, kt_BadTable_BadTolerance := NL.kit_of2 ic_BadTolerance tc_BadTolerance xm_BadTable_BadTolerance xm_BadTable_BadTable, kt_BadTable_BadGroup := NL.kit_of2 ic_BadGroup tc_BadGroup xm_BadTable_BadGroup xm_BadTable_BadTable, kt_BadTable_BadLoop := NL.kit_of2 ic_BadLoop tc_BadLoop xm_BadTable_BadLoop xm_BadTable_BadTable, kt_BadTable_UnknownState := NL.kit_of2 ic_UnknownState tc_UnknownState xm_BadTable_UnknownState xm_BadTable_BadTable, kt_BadTable_BadAnswer := NL.kit_of2 ic_BadAnswer tc_BadAnswer xm_BadTable_BadAnswer xm_BadTable_BadTable, kt_BadTable_BadJoint := NL.kit_of2 ic_BadJoint tc_BadJoint xm_BadTable_BadJoint xm_BadTable_BadTable, kt_BadTable_BadKind := NL.kit_of2 ic_BadKind tc_BadKind xm_BadTable_BadKind xm_BadTable_BadTable, kt_BadTable_BadWatch := NL.kit_of2 ic_BadWatch tc_BadWatch xm_BadTable_BadWatch xm_BadTable_BadTable, kt_BadTable_BadRow := NL.kit_of2 ic_BadRow tc_BadRow xm_BadTable_BadRow xm_BadTable_BadTable, kt_BadTable_BadTable := NL.kit_of2 ic_BadTable tc_BadTable xm_BadTable_BadTable xm_BadTable_BadTable, xm_BadNumber_BadNumber := NL.exm_of2 ec_BadNumber ic_BadNumber tc_BadNumber xm_BadNumber_BadNumber, xm_BadNumber_BadTolerance := NL.exm_of2 ec_BadTolerance ic_BadTolerance tc_BadTolerance xm_BadNumber_BadTolerance, xm_BadNumber_BadGroup := NL.exm_of2 ec_BadGroup ic_BadGroup tc_BadGroup xm_BadNumber_BadGroup, xm_BadNumber_BadLoop := NL.exm_of2 ec_BadLoop ic_BadLoop tc_BadLoop xm_BadNumber_BadLoop, xm_BadNumber_UnknownState := NL.exm_of2 ec_UnknownState ic_UnknownState tc_UnknownState xm_BadNumber_UnknownState, xm_BadNumber_BadAnswer := NL.exm_of2 ec_BadAnswer ic_BadAnswer tc_BadAnswer xm_BadNumber_BadAnswer, xm_BadNumber_BadJoint := NL.exm_of2 ec_BadJoint ic_BadJoint tc_BadJoint xm_BadNumber_BadJoint, xm_BadNumber_BadKind := NL.exm_of2 ec_BadKind ic_BadKind tc_BadKind xm_BadNumber_BadKind, xm_BadNumber_BadWatch := NL.exm_of2 ec_BadWatch ic_BadWatch tc_BadWatch xm_BadNumber_BadWatch, xm_BadNumber_BadRow := NL.exm_of2 ec_BadRow ic_BadRow tc_BadRow xm_BadNumber_BadRow, xm_BadNumber_BadTable := NL.exm_of2 ec_BadTable ic_BadTable tc_BadTable xm_BadNumber_BadTable, xm_BadTolerance_BadNumber := NL.exm_of2 ec_BadNumber ic_BadNumber tc_BadNumber xm_BadTolerance_BadNumber, xm_BadTolerance_BadTolerance := NL.exm_of2 ec_BadTolerance ic_BadTolerance tc_BadTolerance xm_BadTolerance_BadTolerance, xm_BadTolerance_BadGroup := NL.exm_of2 ec_BadGroup ic_BadGroup tc_BadGroup xm_BadTolerance_BadGroup, xm_BadTolerance_BadLoop := NL.exm_of2 ec_BadLoop ic_BadLoop tc_BadLoop xm_BadTolerance_BadLoop, xm_BadTolerance_UnknownState := NL.exm_of2 ec_UnknownState ic_UnknownState tc_UnknownState xm_BadTolerance_UnknownState, xm_BadTolerance_BadAnswer := NL.exm_of2 ec_BadAnswer ic_BadAnswer tc_BadAnswer xm_BadTolerance_BadAnswer, xm_BadTolerance_BadJoint := NL.exm_of2 ec_BadJoint ic_BadJoint tc_BadJoint xm_BadTolerance_BadJoint, xm_BadTolerance_BadKind := NL.exm_of2 ec_BadKind ic_BadKind tc_BadKind xm_BadTolerance_BadKind, xm_BadTolerance_BadWatch := NL.exm_of2 ec_BadWatch ic_BadWatch tc_BadWatch xm_BadTolerance_BadWatch, xm_BadTolerance_BadRow := NL.exm_of2 ec_BadRow ic_BadRow tc_BadRow xm_BadTolerance_BadRow, xm_BadTolerance_BadTable := NL.exm_of2 ec_BadTable ic_BadTable tc_BadTable xm_BadTolerance_BadTable, xm_BadGroup_BadNumber := NL.exm_of2 ec_BadNumber ic_BadNumber tc_BadNumber xm_BadGroup_BadNumber, xm_BadGroup_BadTolerance := NL.exm_of2 ec_BadTolerance ic_BadTolerance tc_BadTolerance xm_BadGroup_BadTolerance, xm_BadGroup_BadGroup := NL.exm_of2 ec_BadGroup ic_BadGroup tc_BadGroup xm_BadGroup_BadGroup, xm_BadGroup_BadLoop := NL.exm_of2 ec_BadLoop ic_BadLoop tc_BadLoop xm_BadGroup_BadLoop, xm_BadGroup_UnknownState := NL.exm_of2 ec_UnknownState ic_UnknownState tc_UnknownState xm_BadGroup_UnknownState, xm_BadGroup_BadAnswer := NL.exm_of2 ec_BadAnswer ic_BadAnswer tc_BadAnswer xm_BadGroup_BadAnswer, xm_BadGroup_BadJoint := NL.exm_of2 ec_BadJoint ic_BadJoint tc_BadJoint xm_BadGroup_BadJoint, xm_BadGroup_BadKind := NL.exm_of2 ec_BadKind ic_BadKind tc_BadKind xm_BadGroup_BadKind, xm_BadGroup_BadWatch := NL.exm_of2 ec_BadWatch ic_BadWatch tc_BadWatch xm_BadGroup_BadWatch, xm_BadGroup_BadRow := NL.exm_of2 ec_BadRow ic_BadRow tc_BadRow xm_BadGroup_BadRow, xm_BadGroup_BadTable := NL.exm_of2 ec_BadTable ic_BadTable tc_BadTable xm_BadGroup_BadTable, xm_BadLoop_BadNumber := NL.exm_of2 ec_BadNumber ic_BadNumber tc_BadNumber xm_BadLoop_BadNumber, xm_BadLoop_BadTolerance := NL.exm_of2 ec_BadTolerance ic_BadTolerance tc_BadTolerance xm_BadLoop_BadTolerance, xm_BadLoop_BadGroup := NL.exm_of2 ec_BadGroup ic_BadGroup tc_BadGroup xm_BadLoop_BadGroup, xm_BadLoop_BadLoop := NL.exm_of2 ec_BadLoop ic_BadLoop tc_BadLoop xm_BadLoop_BadLoop, xm_BadLoop_UnknownState := NL.exm_of2 ec_UnknownState ic_UnknownState tc_UnknownState xm_BadLoop_UnknownState, xm_BadLoop_BadAnswer := NL.exm_of2 ec_BadAnswer ic_BadAnswer tc_BadAnswer xm_BadLoop_BadAnswer, xm_BadLoop_BadJoint := NL.exm_of2 ec_BadJoint ic_BadJoint tc_BadJoint xm_BadLoop_BadJoint, xm_BadLoop_BadKind := NL.exm_of2 ec_BadKind ic_BadKind tc_BadKind xm_BadLoop_BadKind, xm_BadLoop_BadWatch := NL.exm_of2 ec_BadWatch ic_BadWatch tc_BadWatch xm_BadLoop_BadWatch, xm_BadLoop_BadRow := NL.exm_of2 ec_BadRow ic_BadRow tc_BadRow xm_BadLoop_BadRow, xm_BadLoop_BadTable := NL.exm_of2 ec_BadTable ic_BadTable tc_BadTable xm_BadLoop_BadTable, xm_UnknownState_BadNumber := NL.exm_of2 ec_BadNumber ic_BadNumber tc_BadNumber xm_UnknownState_BadNumber, xm_UnknownState_BadTolerance := NL.exm_of2 ec_BadTolerance ic_BadTolerance tc_BadTolerance xm_UnknownState_BadTolerance, xm_UnknownState_BadGroup := NL.exm_of2 ec_BadGroup ic_BadGroup tc_BadGroup xm_UnknownState_BadGroup, xm_UnknownState_BadLoop := NL.exm_of2 ec_BadLoop ic_BadLoop tc_BadLoop xm_UnknownState_BadLoop, xm_UnknownState_UnknownState := NL.exm_of2 ec_UnknownState ic_UnknownState tc_UnknownState xm_UnknownState_UnknownState, xm_UnknownState_BadAnswer := NL.exm_of2 ec_BadAnswer ic_BadAnswer tc_BadAnswer xm_UnknownState_BadAnswer, xm_UnknownState_BadJoint := NL.exm_of2 ec_BadJoint ic_BadJoint tc_BadJoint xm_UnknownState_BadJoint, xm_UnknownState_BadKind := NL.exm_of2 ec_BadKind ic_BadKind tc_BadKind xm_UnknownState_BadKind, xm_UnknownState_BadWatch := NL.exm_of2 ec_BadWatch ic_BadWatch tc_BadWatch xm_UnknownState_BadWatch, xm_UnknownState_BadRow := NL.exm_of2 ec_BadRow ic_BadRow tc_BadRow xm_UnknownState_BadRow, xm_UnknownState_BadTable := NL.exm_of2 ec_BadTable ic_BadTable tc_BadTable xm_UnknownState_BadTable, xm_BadAnswer_BadNumber := NL.exm_of2 ec_BadNumber ic_BadNumber tc_BadNumber xm_BadAnswer_BadNumber, xm_BadAnswer_BadTolerance := NL.exm_of2 ec_BadTolerance ic_BadTolerance tc_BadTolerance xm_BadAnswer_BadTolerance, xm_BadAnswer_BadGroup := NL.exm_of2 ec_BadGroup ic_BadGroup tc_BadGroup xm_BadAnswer_BadGroup, xm_BadAnswer_BadLoop := NL.exm_of2 ec_BadLoop ic_BadLoop tc_BadLoop xm_BadAnswer_BadLoop, xm_BadAnswer_UnknownState := NL.exm_of2 ec_UnknownState ic_UnknownState tc_UnknownState xm_BadAnswer_UnknownState, xm_BadAnswer_BadAnswer := NL.exm_of2 ec_BadAnswer ic_BadAnswer tc_BadAnswer xm_BadAnswer_BadAnswer, xm_BadAnswer_BadJoint := NL.exm_of2 ec_BadJoint ic_BadJoint tc_BadJoint xm_BadAnswer_BadJoint, xm_BadAnswer_BadKind := NL.exm_of2 ec_BadKind ic_BadKind tc_BadKind xm_BadAnswer_BadKind, xm_BadAnswer_BadWatch := NL.exm_of2 ec_BadWatch ic_BadWatch tc_BadWatch xm_BadAnswer_BadWatch, xm_BadAnswer_BadRow := NL.exm_of2 ec_BadRow ic_BadRow tc_BadRow xm_BadAnswer_BadRow, xm_BadAnswer_BadTable := NL.exm_of2 ec_BadTable ic_BadTable tc_BadTable xm_BadAnswer_BadTable, xm_BadJoint_BadNumber := NL.exm_of2 ec_BadNumber ic_BadNumber tc_BadNumber xm_BadJoint_BadNumber, xm_BadJoint_BadTolerance := NL.exm_of2 ec_BadTolerance ic_BadTolerance tc_BadTolerance xm_BadJoint_BadTolerance, xm_BadJoint_BadGroup := NL.exm_of2 ec_BadGroup ic_BadGroup tc_BadGroup xm_BadJoint_BadGroup, xm_BadJoint_BadLoop := NL.exm_of2 ec_BadLoop ic_BadLoop tc_BadLoop xm_BadJoint_BadLoop, xm_BadJoint_UnknownState := NL.exm_of2 ec_UnknownState ic_UnknownState tc_UnknownState xm_BadJoint_UnknownState, xm_BadJoint_BadAnswer := NL.exm_of2 ec_BadAnswer ic_BadAnswer tc_BadAnswer xm_BadJoint_BadAnswer, xm_BadJoint_BadJoint := NL.exm_of2 ec_BadJoint ic_BadJoint tc_BadJoint xm_BadJoint_BadJoint, xm_BadJoint_BadKind := NL.exm_of2 ec_BadKind ic_BadKind tc_BadKind xm_BadJoint_BadKind, xm_BadJoint_BadWatch := NL.exm_of2 ec_BadWatch ic_BadWatch tc_BadWatch xm_BadJoint_BadWatch, xm_BadJoint_BadRow := NL.exm_of2 ec_BadRow ic_BadRow tc_BadRow xm_BadJoint_BadRow, xm_BadJoint_BadTable := NL.exm_of2 ec_BadTable ic_BadTable tc_BadTable xm_BadJoint_BadTable, xm_BadKind_BadNumber := NL.exm_of2 ec_BadNumber ic_BadNumber tc_BadNumber xm_BadKind_BadNumber, xm_BadKind_BadTolerance := NL.exm_of2 ec_BadTolerance ic_BadTolerance tc_BadTolerance xm_BadKind_BadTolerance, xm_BadKind_BadGroup := NL.exm_of2 ec_BadGroup ic_BadGroup tc_BadGroup xm_BadKind_BadGroup, xm_BadKind_BadLoop := NL.exm_of2 ec_BadLoop ic_BadLoop tc_BadLoop xm_BadKind_BadLoop, xm_BadKind_UnknownState := NL.exm_of2 ec_UnknownState ic_UnknownState tc_UnknownState xm_BadKind_UnknownState, xm_BadKind_BadAnswer := NL.exm_of2 ec_BadAnswer ic_BadAnswer tc_BadAnswer xm_BadKind_BadAnswer, xm_BadKind_BadJoint := NL.exm_of2 ec_BadJoint ic_BadJoint tc_BadJoint xm_BadKind_BadJoint, xm_BadKind_BadKind := NL.exm_of2 ec_BadKind ic_BadKind tc_BadKind xm_BadKind_BadKind, xm_BadKind_BadWatch := NL.exm_of2 ec_BadWatch ic_BadWatch tc_BadWatch xm_BadKind_BadWatch, xm_BadKind_BadRow := NL.exm_of2 ec_BadRow ic_BadRow tc_BadRow xm_BadKind_BadRow, xm_BadKind_BadTable := NL.exm_of2 ec_BadTable ic_BadTable tc_BadTable xm_BadKind_BadTable, xm_BadWatch_BadNumber := NL.exm_of2 ec_BadNumber ic_BadNumber tc_BadNumber xm_BadWatch_BadNumber, xm_BadWatch_BadTolerance := NL.exm_of2 ec_BadTolerance ic_BadTolerance tc_BadTolerance xm_BadWatch_BadTolerance, xm_BadWatch_BadGroup := NL.exm_of2 ec_BadGroup ic_BadGroup tc_BadGroup xm_BadWatch_BadGroup, xm_BadWatch_BadLoop := NL.exm_of2 ec_BadLoop ic_BadLoop tc_BadLoop xm_BadWatch_BadLoop, xm_BadWatch_UnknownState := NL.exm_of2 ec_UnknownState ic_UnknownState tc_UnknownState xm_BadWatch_UnknownState, xm_BadWatch_BadAnswer := NL.exm_of2 ec_BadAnswer ic_BadAnswer tc_BadAnswer xm_BadWatch_BadAnswer, xm_BadWatch_BadJoint := NL.exm_of2 ec_BadJoint ic_BadJoint tc_BadJoint xm_BadWatch_BadJoint, xm_BadWatch_BadKind := NL.exm_of2 ec_BadKind ic_BadKind tc_BadKind xm_BadWatch_BadKind, xm_BadWatch_BadWatch := NL.exm_of2 ec_BadWatch ic_BadWatch tc_BadWatch xm_BadWatch_BadWatch, xm_BadWatch_BadRow := NL.exm_of2 ec_BadRow ic_BadRow tc_BadRow xm_BadWatch_BadRow, xm_BadWatch_BadTable := NL.exm_of2 ec_BadTable ic_BadTable tc_BadTable xm_BadWatch_BadTable, xm_BadRow_BadNumber := NL.exm_of2 ec_BadNumber ic_BadNumber tc_BadNumber xm_BadRow_BadNumber, xm_BadRow_BadTolerance := NL.exm_of2 ec_BadTolerance ic_BadTolerance tc_BadTolerance xm_BadRow_BadTolerance, xm_BadRow_BadGroup := NL.exm_of2 ec_BadGroup ic_BadGroup tc_BadGroup xm_BadRow_BadGroup, xm_BadRow_BadLoop := NL.exm_of2 ec_BadLoop ic_BadLoop tc_BadLoop xm_BadRow_BadLoop, xm_BadRow_UnknownState := NL.exm_of2 ec_UnknownState ic_UnknownState tc_UnknownState xm_BadRow_UnknownState, xm_BadRow_BadAnswer := NL.exm_of2 ec_BadAnswer ic_BadAnswer tc_BadAnswer xm_BadRow_BadAnswer, xm_BadRow_BadJoint := NL.exm_of2 ec_BadJoint ic_BadJoint tc_BadJoint xm_BadRow_BadJoint, xm_BadRow_BadKind := NL.exm_of2 ec_BadKind ic_BadKind tc_BadKind xm_BadRow_BadKind, xm_BadRow_BadWatch := NL.exm_of2 ec_BadWatch ic_BadWatch tc_BadWatch xm_BadRow_BadWatch, xm_BadRow_BadRow := NL.exm_of2 ec_BadRow ic_BadRow tc_BadRow xm_BadRow_BadRow, xm_BadRow_BadTable := NL.exm_of2 ec_BadTable ic_BadTable tc_BadTable xm_BadRow_BadTable, xm_BadTable_BadNumber := NL.exm_of2 ec_BadNumber ic_BadNumber tc_BadNumber xm_BadTable_BadNumber, xm_BadTable_BadTolerance := NL.exm_of2 ec_BadTolerance ic_BadTolerance tc_BadTolerance xm_BadTable_BadTolerance, xm_BadTable_BadGroup := NL.exm_of2 ec_BadGroup ic_BadGroup tc_BadGroup xm_BadTable_BadGroup, xm_BadTable_BadLoop := NL.exm_of2 ec_BadLoop ic_BadLoop tc_BadLoop xm_BadTable_BadLoop, xm_BadTable_UnknownState := NL.exm_of2 ec_UnknownState ic_UnknownState tc_UnknownState xm_BadTable_UnknownState, xm_BadTable_BadAnswer := NL.exm_of2 ec_BadAnswer ic_BadAnswer tc_BadAnswer xm_BadTable_BadAnswer, xm_BadTable_BadJoint := NL.exm_of2 ec_BadJoint ic_BadJoint tc_BadJoint xm_BadTable_BadJoint, xm_BadTable_BadKind := NL.exm_of2 ec_BadKind ic_BadKind tc_BadKind xm_BadTable_BadKind, xm_BadTable_BadWatch := NL.exm_of2 ec_BadWatch ic_BadWatch tc_BadWatch xm_BadTable_BadWatch, xm_BadTable_BadRow := NL.exm_of2 ec_BadRow ic_BadRow tc_BadRow xm_BadTable_BadRow, xm_BadTable_BadTable := NL.exm_of2 ec_BadTable ic_BadTable tc_BadTable xm_BadTable_BadTable, a__law_source := f__law_source, fd__law_source := _, F__law_source := F__law_source, b__law_source := b__law_source, g__law_source := PySem.W.mg_of X G a__law_source, a__law_draw := f__law_draw, fd__law_draw := _, F__law_draw := F__law_draw, b__law_draw := b__law_draw, g__law_draw := PySem.W.mg_of X G a__law_draw, a__law_pick := f__law_pick, fd__law_pick := _, F__law_pick := F__law_pick, b__law_pick := b__law_pick, g__law_pick := PySem.W.mg_of X G a__law_pick, a__law_raised := f__law_raised, fd__law_raised := _, F__law_raised := F__law_raised, b__law_raised := b__law_raised, g__law_raised := PySem.W.mg_of X G a__law_raised, a__law_fields := f__law_fields, fd__law_fields := _, F__law_fields := F__law_fields, b__law_fields := b__law_fields, g__law_fields := PySem.W.mg_of X G a__law_fields, a__law_caught := f__law_caught, fd__law_caught := _, F__law_caught := F__law_caught, b__law_caught := b__law_caught, g__law_caught := PySem.W.mg_of X G a__law_caught, a_law := fa, fd_law := _, F_law := F_law, b_law := b_law, g_law := PySem.W.mg_of X G a_law, m_len := PySem.W.mg_none_of X G m_len, m_int := PySem.W.mg_none_of X G m_int, m_range := PySem.W.mg_none_of X G m_range, m_isinstance := PySem.W.mg_none_of X G m_isinstance, m_super := PySem.W.mg_none_of X G m_super, m_ValueError := PySem.W.mg_none_of X G m_ValueError }⟩
theorem walk {l : PySem.W.OpenLaw} {q : Program} {loose : List Str} {XP : (Str → Option Value) → Heap → Prop} {YP : World → Heap → Prop} {d : DefRec} {K : Params → PySem.W.Frag} (hn : l.most = some 63) (hdf : d.params.defaults = [])
    (hY : ∀ (w : World) (h : Heap), YP w h → (K w.params).In h)
    (F : ∀ (w : World) (mg : Str → Option Value) (fa : Addr) (h : Heap), (K w.params).In h → h.Ns mainGlobals mg → mg d.name = some (.ref fa) →
      ∃ fd : FuncData, (∀ (s : Shared) (u : Value), BindsTo s fd ⟨[u], []⟩ [("_law_script", u)]) ∧ ∀ base : Heap, (K w.params).In base → base.Ns mainGlobals mg → FnOk l.prog w (K w.params) mg base CX0 5 fa fd ["_law_script"] (sp_law (K w.params))) :
    PySem.W.WalkO q loose XP YP l.row.toRowW d [] (fun f vs => PySem.call f vs) :=
  L2.walk_of (n := 63) (k := 5) (x := "_law_script") (CX := fun _ => CX0) (sp := fun w => sp_law (K w.params)) hn (by decide) hdf ⟨rfl, by decide, by decide⟩ hY F (fun _ _ a ns hl _ hS => ⟨a, ns, rfl, hS, hl, fun _ => rfl⟩) fun _ _ _ _ _ z => z
end Law
open PySem PySem.W PyProof.Rows
set_option maxRecDepth 100000 in
set_option maxHeartbeats 0 in
theorem PySem.Challenge.cw_nearloops_k35_errors_made_holds : PySem.Challenge.rw_nearloops_k35_errors_made.Holds := by
  w_on; o_law; k_head; (case hw => w_witness2)
  k_fill
  refine Law.walk (l := PySem.Challenge.rw_nearloops_k35_errors_made) rfl rfl (fun w h Y => PySem.W.kIn_of Y) ?F
  case F =>
    intro w mg fa h KX G hmg
    refine' Law.all_mk KX G hmg ?a__law_source ?l__law_source ?c__law_source ?k__law_source ?a__law_draw ?l__law_draw ?c__law_draw ?k__law_draw ?a__law_pick ?l__law_pick ?c__law_pick ?k__law_pick ?a__law_raised ?l__law_raised ?c__law_raised ?k__law_raised ?a__law_fields ?l__law_fields ?c__law_fields ?k__law_fields ?a__law_caught ?l__law_caught ?c__law_caught ?k__law_caught ?a_law ?l_law ?c_law ?k_law ?gc_BadNumber ?xl_BadNumber ?rv_BadNumber ?sa_BadNumber ?ga_BadNumber ?gg_BadNumber ?nf_BadNumber ?ii_BadNumber ?ti_BadNumber ?le_BadNumber ?ce_BadNumber ?lc_BadNumber ?vf_BadNumber ?ff_BadNumber ?lz_BadNumber ?kc_BadNumber ?ec_BadNumber ?tc_BadNumber ?hd_BadNumber ?ic_BadNumber ?su_BadNumber ?sv_BadNumber ?mr_BadNumber ?gc_BadTolerance ?xl_BadTolerance ?rv_BadTolerance ?sa_BadTolerance ?ga_BadTolerance ?gg_BadTolerance ?nf_BadTolerance ?ii_BadTolerance ?ti_BadTolerance ?le_BadTolerance ?ce_BadTolerance ?lc_BadTolerance ?vf_BadTolerance ?ff_BadTolerance ?lz_BadTolerance ?kc_BadTolerance ?ec_BadTolerance ?tc_BadTolerance ?hd_BadTolerance ?ic_BadTolerance ?su_BadTolerance ?sv_BadTolerance ?mr_BadTolerance ?gc_BadGroup ?xl_BadGroup ?rv_BadGroup ?sa_BadGroup ?ga_BadGroup ?gg_BadGroup ?nf_BadGroup ?ii_BadGroup ?ti_BadGroup ?le_BadGroup ?ce_BadGroup ?lc_BadGroup ?vf_BadGroup ?ff_BadGroup ?lz_BadGroup ?kc_BadGroup ?ec_BadGroup ?tc_BadGroup ?hd_BadGroup ?ic_BadGroup ?su_BadGroup ?sv_BadGroup ?mr_BadGroup ?gc_BadLoop ?xl_BadLoop ?rv_BadLoop ?sa_BadLoop ?ga_BadLoop ?gg_BadLoop ?nf_BadLoop ?ii_BadLoop ?ti_BadLoop ?le_BadLoop ?ce_BadLoop ?lc_BadLoop ?vf_BadLoop ?ff_BadLoop ?lz_BadLoop ?kc_BadLoop ?ec_BadLoop ?tc_BadLoop ?hd_BadLoop ?ic_BadLoop ?su_BadLoop ?sv_BadLoop ?mr_BadLoop ?gc_UnknownState ?xl_UnknownState ?rv_UnknownState ?sa_UnknownState ?ga_UnknownState ?gg_UnknownState ?nf_UnknownState ?ii_UnknownState ?ti_UnknownState ?le_UnknownState ?ce_UnknownState ?lc_UnknownState ?vf_UnknownState ?ff_UnknownState ?lz_UnknownState ?kc_UnknownState ?ec_UnknownState ?tc_UnknownState ?hd_UnknownState ?ic_UnknownState ?su_UnknownState ?sv_UnknownState ?mr_UnknownState ?gc_BadAnswer ?xl_BadAnswer ?rv_BadAnswer ?sa_BadAnswer ?ga_BadAnswer ?gg_BadAnswer ?nf_BadAnswer ?ii_BadAnswer ?ti_BadAnswer ?le_BadAnswer ?ce_BadAnswer ?lc_BadAnswer ?vf_BadAnswer ?ff_BadAnswer ?lz_BadAnswer ?kc_BadAnswer ?ec_BadAnswer ?tc_BadAnswer ?hd_BadAnswer ?ic_BadAnswer ?su_BadAnswer ?sv_BadAnswer ?mr_BadAnswer ?gc_BadJoint ?xl_BadJoint ?rv_BadJoint ?sa_BadJoint ?ga_BadJoint ?gg_BadJoint ?nf_BadJoint ?ii_BadJoint ?ti_BadJoint ?le_BadJoint ?ce_BadJoint ?lc_BadJoint ?vf_BadJoint ?ff_BadJoint ?lz_BadJoint ?kc_BadJoint ?ec_BadJoint ?tc_BadJoint ?hd_BadJoint ?ic_BadJoint ?su_BadJoint ?sv_BadJoint ?mr_BadJoint ?gc_BadKind ?xl_BadKind ?rv_BadKind ?sa_BadKind ?ga_BadKind ?gg_BadKind ?nf_BadKind ?ii_BadKind ?ti_BadKind ?le_BadKind ?ce_BadKind ?lc_BadKind ?vf_BadKind ?ff_BadKind ?lz_BadKind ?kc_BadKind ?ec_BadKind ?tc_BadKind ?hd_BadKind ?ic_BadKind ?su_BadKind ?sv_BadKind ?mr_BadKind ?gc_BadWatch ?xl_BadWatch ?rv_BadWatch ?sa_BadWatch ?ga_BadWatch ?gg_BadWatch ?nf_BadWatch ?ii_BadWatch ?ti_BadWatch ?le_BadWatch ?ce_BadWatch ?lc_BadWatch ?vf_BadWatch ?ff_BadWatch ?lz_BadWatch ?kc_BadWatch ?ec_BadWatch ?tc_BadWatch ?hd_BadWatch ?ic_BadWatch ?su_BadWatch ?sv_BadWatch ?mr_BadWatch ?gc_BadRow ?xl_BadRow ?rv_BadRow ?sa_BadRow ?ga_BadRow ?gg_BadRow ?ii_BadRow ?ti_BadRow ?le_BadRow ?ce_BadRow ?lc_BadRow ?vf_BadRow ?ff_BadRow ?lz_BadRow ?kc_BadRow ?ec_BadRow ?tc_BadRow ?hd_BadRow ?ic_BadRow ?su_BadRow ?sv_BadRow ?mr_BadRow ?gc_BadTable ?xl_BadTable ?rv_BadTable ?sa_BadTable ?ga_BadTable ?gg_BadTable ?ii_BadTable ?ti_BadTable ?le_BadTable ?ce_BadTable ?lc_BadTable ?vf_BadTable ?ff_BadTable ?lz_BadTable ?kc_BadTable ?ec_BadTable ?tc_BadTable ?hd_BadTable ?ic_BadTable ?su_BadTable ?sv_BadTable ?mr_BadTable ?xm_BadNumber_BadNumber ?xm_BadNumber_BadTolerance ?xm_BadNumber_BadGroup ?xm_BadNumber_BadLoop ?xm_BadNumber_UnknownState ?xm_BadNumber_BadAnswer ?xm_BadNumber_BadJoint ?xm_BadNumber_BadKind ?xm_BadNumber_BadWatch ?xm_BadNumber_BadRow ?xm_BadNumber_BadTable ?xm_BadTolerance_BadNumber ?xm_BadTolerance_BadTolerance ?xm_BadTolerance_BadGroup ?xm_BadTolerance_BadLoop ?xm_BadTolerance_UnknownState ?xm_BadTolerance_BadAnswer ?xm_BadTolerance_BadJoint ?xm_BadTolerance_BadKind ?xm_BadTolerance_BadWatch ?xm_BadTolerance_BadRow ?xm_BadTolerance_BadTable ?xm_BadGroup_BadNumber ?xm_BadGroup_BadTolerance ?xm_BadGroup_BadGroup ?xm_BadGroup_BadLoop ?xm_BadGroup_UnknownState ?xm_BadGroup_BadAnswer ?xm_BadGroup_BadJoint ?xm_BadGroup_BadKind ?xm_BadGroup_BadWatch ?xm_BadGroup_BadRow ?xm_BadGroup_BadTable ?xm_BadLoop_BadNumber ?xm_BadLoop_BadTolerance ?xm_BadLoop_BadGroup ?xm_BadLoop_BadLoop ?xm_BadLoop_UnknownState ?xm_BadLoop_BadAnswer ?xm_BadLoop_BadJoint ?xm_BadLoop_BadKind ?xm_BadLoop_BadWatch ?xm_BadLoop_BadRow ?xm_BadLoop_BadTable ?xm_UnknownState_BadNumber ?xm_UnknownState_BadTolerance ?xm_UnknownState_BadGroup ?xm_UnknownState_BadLoop ?xm_UnknownState_UnknownState ?xm_UnknownState_BadAnswer ?xm_UnknownState_BadJoint ?xm_UnknownState_BadKind ?xm_UnknownState_BadWatch ?xm_UnknownState_BadRow ?xm_UnknownState_BadTable ?xm_BadAnswer_BadNumber ?xm_BadAnswer_BadTolerance ?xm_BadAnswer_BadGroup ?xm_BadAnswer_BadLoop ?xm_BadAnswer_UnknownState ?xm_BadAnswer_BadAnswer ?xm_BadAnswer_BadJoint ?xm_BadAnswer_BadKind ?xm_BadAnswer_BadWatch ?xm_BadAnswer_BadRow ?xm_BadAnswer_BadTable ?xm_BadJoint_BadNumber ?xm_BadJoint_BadTolerance ?xm_BadJoint_BadGroup ?xm_BadJoint_BadLoop ?xm_BadJoint_UnknownState ?xm_BadJoint_BadAnswer ?xm_BadJoint_BadJoint ?xm_BadJoint_BadKind ?xm_BadJoint_BadWatch ?xm_BadJoint_BadRow ?xm_BadJoint_BadTable ?xm_BadKind_BadNumber ?xm_BadKind_BadTolerance ?xm_BadKind_BadGroup ?xm_BadKind_BadLoop ?xm_BadKind_UnknownState ?xm_BadKind_BadAnswer ?xm_BadKind_BadJoint ?xm_BadKind_BadKind ?xm_BadKind_BadWatch ?xm_BadKind_BadRow ?xm_BadKind_BadTable ?xm_BadWatch_BadNumber ?xm_BadWatch_BadTolerance ?xm_BadWatch_BadGroup ?xm_BadWatch_BadLoop ?xm_BadWatch_UnknownState ?xm_BadWatch_BadAnswer ?xm_BadWatch_BadJoint ?xm_BadWatch_BadKind ?xm_BadWatch_BadWatch ?xm_BadWatch_BadRow ?xm_BadWatch_BadTable ?xm_BadRow_BadNumber ?xm_BadRow_BadTolerance ?xm_BadRow_BadGroup ?xm_BadRow_BadLoop ?xm_BadRow_UnknownState ?xm_BadRow_BadAnswer ?xm_BadRow_BadJoint ?xm_BadRow_BadKind ?xm_BadRow_BadWatch ?xm_BadRow_BadRow ?xm_BadRow_BadTable ?xm_BadTable_BadNumber ?xm_BadTable_BadTolerance ?xm_BadTable_BadGroup ?xm_BadTable_BadLoop ?xm_BadTable_UnknownState ?xm_BadTable_BadAnswer ?xm_BadTable_BadJoint ?xm_BadTable_BadKind ?xm_BadTable_BadWatch ?xm_BadTable_BadRow ?xm_BadTable_BadTable ?gc_NearError ?ec_NearError ?tc_NearError ?ic_NearError ?sp_cls ?tk_cls ?fc_BadNumber ?mo_BadNumber ?xn_BadNumber ?fc_BadTolerance ?mo_BadTolerance ?xn_BadTolerance ?fc_BadGroup ?mo_BadGroup ?xn_BadGroup ?fc_BadLoop ?mo_BadLoop ?xn_BadLoop ?fc_UnknownState ?mo_UnknownState ?xn_UnknownState ?fc_BadAnswer ?mo_BadAnswer ?xn_BadAnswer ?fc_BadJoint ?mo_BadJoint ?xn_BadJoint ?fc_BadKind ?mo_BadKind ?xn_BadKind ?fc_BadWatch ?mo_BadWatch ?xn_BadWatch ?fc_BadRow ?mo_BadRow ?xn_BadRow ?fc_BadTable ?mo_BadTable ?xn_BadTable ?tany ?msup ?tsup ?m_len ?m_int ?m_range ?m_isinstance ?m_super ?m_ValueError
    (case a__law_source => k_is)
    (case l__law_source => k_is)
    (case c__law_source => k_is)
    (case k__law_source => k_is)
    (case a__law_draw => k_is)
    (case l__law_draw => k_is)
    (case c__law_draw => k_is)
    (case k__law_draw => k_is)
    (case a__law_pick => k_is)
    (case l__law_pick => k_is)
    (case c__law_pick => k_is)
    (case k__law_pick => k_is)
    (case a__law_raised => k_is)
    (case l__law_raised => k_is)
    (case c__law_raised => k_is)
    (case k__law_raised => k_is)
    (case a__law_fields => k_is)
    (case l__law_fields => k_is)
    (case c__law_fields => k_is)
    (case k__law_fields => k_is)
    (case a__law_caught => k_is)
    (case l__law_caught => k_is)
    (case c__law_caught => k_is)
    (case k__law_caught => k_is)
    (case a_law => k_is)
    (case l_law => k_is)
    (case c_law => k_is)
    (case k_law => k_is)
    (case gc_BadNumber => k_is)
    (case xl_BadNumber => k_is)
    (case rv_BadNumber => first | rfl | decide +kernel)
    (case sa_BadNumber => k_is)
    (case ga_BadNumber => k_is)
    (case gg_BadNumber => k_is)
    (case nf_BadNumber => k_is)
    (case ii_BadNumber => k_is)
    (case ti_BadNumber => k_is)
    (case le_BadNumber => k_is)
    (case ce_BadNumber => k_is)
    (case lc_BadNumber => k_is)
    (case vf_BadNumber => rfl)
    (case ff_BadNumber => first | rfl | decide +kernel)
    (case lz_BadNumber => k_is)
    (case kc_BadNumber => k_is)
    (case ec_BadNumber => k_is)
    (case tc_BadNumber => k_is)
    (case hd_BadNumber => k_is)
    (case ic_BadNumber => k_is)
    (case su_BadNumber => ks_is)
    (case sv_BadNumber => k_is)
    (case mr_BadNumber => k_is)
    (case gc_BadTolerance => k_is)
    (case xl_BadTolerance => k_is)
    (case rv_BadTolerance => first | rfl | decide +kernel)
    (case sa_BadTolerance => k_is)
    (case ga_BadTolerance => k_is)
    (case gg_BadTolerance => k_is)
    (case nf_BadTolerance => k_is)
    (case ii_BadTolerance => k_is)
    (case ti_BadTolerance => k_is)
    (case le_BadTolerance => k_is)
    (case ce_BadTolerance => k_is)
    (case lc_BadTolerance => k_is)
    (case vf_BadTolerance => rfl)
    (case ff_BadTolerance => first | rfl | decide +kernel)
    (case lz_BadTolerance => k_is)
    (case kc_BadTolerance => k_is)
    (case ec_BadTolerance => k_is)
    (case tc_BadTolerance => k_is)
    (case hd_BadTolerance => k_is)
    (case ic_BadTolerance => k_is)
    (case su_BadTolerance => ks_is)
    (case sv_BadTolerance => k_is)
    (case mr_BadTolerance => k_is)
    (case gc_BadGroup => k_is)
    (case xl_BadGroup => k_is)
    (case rv_BadGroup => first | rfl | decide +kernel)
    (case sa_BadGroup => k_is)
    (case ga_BadGroup => k_is)
    (case gg_BadGroup => k_is)
    (case nf_BadGroup => k_is)
    (case ii_BadGroup => k_is)
    (case ti_BadGroup => k_is)
    (case le_BadGroup => k_is)
    (case ce_BadGroup => k_is)
    (case lc_BadGroup => k_is)
    (case vf_BadGroup => rfl)
    (case ff_BadGroup => first | rfl | decide +kernel)
    (case lz_BadGroup => k_is)
    (case kc_BadGroup => k_is)
    (case ec_BadGroup => k_is)
    (case tc_BadGroup => k_is)
    (case hd_BadGroup => k_is)
    (case ic_BadGroup => k_is)
    (case su_BadGroup => ks_is)
    (case sv_BadGroup => k_is)
    (case mr_BadGroup => k_is)
    (case gc_BadLoop => k_is)
    (case xl_BadLoop => k_is)
    (case rv_BadLoop => first | rfl | decide +kernel)
    (case sa_BadLoop => k_is)
    (case ga_BadLoop => k_is)
    (case gg_BadLoop => k_is)
    (case nf_BadLoop => k_is)
    (case ii_BadLoop => k_is)
    (case ti_BadLoop => k_is)
    (case le_BadLoop => k_is)
    (case ce_BadLoop => k_is)
    (case lc_BadLoop => k_is)
    (case vf_BadLoop => rfl)
    (case ff_BadLoop => first | rfl | decide +kernel)
    (case lz_BadLoop => k_is)
    (case kc_BadLoop => k_is)
    (case ec_BadLoop => k_is)
    (case tc_BadLoop => k_is)
    (case hd_BadLoop => k_is)
    (case ic_BadLoop => k_is)
    (case su_BadLoop => ks_is)
    (case sv_BadLoop => k_is)
    (case mr_BadLoop => k_is)
    (case gc_UnknownState => k_is)
    (case xl_UnknownState => k_is)
    (case rv_UnknownState => first | rfl | decide +kernel)
    (case sa_UnknownState => k_is)
    (case ga_UnknownState => k_is)
    (case gg_UnknownState => k_is)
    (case nf_UnknownState => k_is)
    (case ii_UnknownState => k_is)
    (case ti_UnknownState => k_is)
    (case le_UnknownState => k_is)
    (case ce_UnknownState => k_is)
    (case lc_UnknownState => k_is)
    (case vf_UnknownState => rfl)
    (case ff_UnknownState => first | rfl | decide +kernel)
    (case lz_UnknownState => k_is)
    (case kc_UnknownState => k_is)
    (case ec_UnknownState => k_is)
    (case tc_UnknownState => k_is)
    (case hd_UnknownState => k_is)
    (case ic_UnknownState => k_is)
    (case su_UnknownState => ks_is)
    (case sv_UnknownState => k_is)
    (case mr_UnknownState => k_is)
    (case gc_BadAnswer => k_is)
    (case xl_BadAnswer => k_is)
    (case rv_BadAnswer => first | rfl | decide +kernel)
    (case sa_BadAnswer => k_is)
    (case ga_BadAnswer => k_is)
    (case gg_BadAnswer => k_is)
    (case nf_BadAnswer => k_is)
    (case ii_BadAnswer => k_is)
    (case ti_BadAnswer => k_is)
    (case le_BadAnswer => k_is)
    (case ce_BadAnswer => k_is)
    (case lc_BadAnswer => k_is)
    (case vf_BadAnswer => rfl)
    (case ff_BadAnswer => first | rfl | decide +kernel)
    (case lz_BadAnswer => k_is)
    (case kc_BadAnswer => k_is)
    (case ec_BadAnswer => k_is)
    (case tc_BadAnswer => k_is)
    (case hd_BadAnswer => k_is)
    (case ic_BadAnswer => k_is)
    (case su_BadAnswer => ks_is)
    (case sv_BadAnswer => k_is)
    (case mr_BadAnswer => k_is)
    (case gc_BadJoint => k_is)
    (case xl_BadJoint => k_is)
    (case rv_BadJoint => first | rfl | decide +kernel)
    (case sa_BadJoint => k_is)
    (case ga_BadJoint => k_is)
    (case gg_BadJoint => k_is)
    (case nf_BadJoint => k_is)
    (case ii_BadJoint => k_is)
    (case ti_BadJoint => k_is)
    (case le_BadJoint => k_is)
    (case ce_BadJoint => k_is)
    (case lc_BadJoint => k_is)
    (case vf_BadJoint => rfl)
    (case ff_BadJoint => first | rfl | decide +kernel)
    (case lz_BadJoint => k_is)
    (case kc_BadJoint => k_is)
    (case ec_BadJoint => k_is)
    (case tc_BadJoint => k_is)
    (case hd_BadJoint => k_is)
    (case ic_BadJoint => k_is)
    (case su_BadJoint => ks_is)
    (case sv_BadJoint => k_is)
    (case mr_BadJoint => k_is)
    (case gc_BadKind => k_is)
    (case xl_BadKind => k_is)
    (case rv_BadKind => first | rfl | decide +kernel)
    (case sa_BadKind => k_is)
    (case ga_BadKind => k_is)
    (case gg_BadKind => k_is)
    (case nf_BadKind => k_is)
    (case ii_BadKind => k_is)
    (case ti_BadKind => k_is)
    (case le_BadKind => k_is)
    (case ce_BadKind => k_is)
    (case lc_BadKind => k_is)
    (case vf_BadKind => rfl)
    (case ff_BadKind => first | rfl | decide +kernel)
    (case lz_BadKind => k_is)
    (case kc_BadKind => k_is)
    (case ec_BadKind => k_is)
    (case tc_BadKind => k_is)
    (case hd_BadKind => k_is)
    (case ic_BadKind => k_is)
    (case su_BadKind => ks_is)
    (case sv_BadKind => k_is)
    (case mr_BadKind => k_is)
    (case gc_BadWatch => k_is)
    (case xl_BadWatch => k_is)
    (case rv_BadWatch => first | rfl | decide +kernel)
    (case sa_BadWatch => k_is)
    (case ga_BadWatch => k_is)
    (case gg_BadWatch => k_is)
    (case nf_BadWatch => k_is)
    (case ii_BadWatch => k_is)
    (case ti_BadWatch => k_is)
    (case le_BadWatch => k_is)
    (case ce_BadWatch => k_is)
    (case lc_BadWatch => k_is)
    (case vf_BadWatch => rfl)
    (case ff_BadWatch => first | rfl | decide +kernel)
    (case lz_BadWatch => k_is)
    (case kc_BadWatch => k_is)
    (case ec_BadWatch => k_is)
    (case tc_BadWatch => k_is)
    (case hd_BadWatch => k_is)
    (case ic_BadWatch => k_is)
    (case su_BadWatch => ks_is)
    (case sv_BadWatch => k_is)
    (case mr_BadWatch => k_is)
    (case gc_BadRow => k_is)
    (case xl_BadRow => k_is)
    (case rv_BadRow => first | rfl | decide +kernel)
    (case sa_BadRow => k_is)
    (case ga_BadRow => k_is)
    (case gg_BadRow => k_is)
    (case ii_BadRow => k_is)
    (case ti_BadRow => k_is)
    (case le_BadRow => k_is)
    (case ce_BadRow => k_is)
    (case lc_BadRow => k_is)
    (case vf_BadRow => rfl)
    (case ff_BadRow => first | rfl | decide +kernel)
    (case lz_BadRow => k_is)
    (case kc_BadRow => k_is)
    (case ec_BadRow => k_is)
    (case tc_BadRow => k_is)
    (case hd_BadRow => k_is)
    (case ic_BadRow => k_is)
    (case su_BadRow => ks_is)
    (case sv_BadRow => k_is)
    (case mr_BadRow => k_is)
    (case gc_BadTable => k_is)
    (case xl_BadTable => k_is)
    (case rv_BadTable => first | rfl | decide +kernel)
    (case sa_BadTable => k_is)
    (case ga_BadTable => k_is)
    (case gg_BadTable => k_is)
    (case ii_BadTable => k_is)
    (case ti_BadTable => k_is)
    (case le_BadTable => k_is)
    (case ce_BadTable => k_is)
    (case lc_BadTable => k_is)
    (case vf_BadTable => rfl)
    (case ff_BadTable => first | rfl | decide +kernel)
    (case lz_BadTable => k_is)
    (case kc_BadTable => k_is)
    (case ec_BadTable => k_is)
    (case tc_BadTable => k_is)
    (case hd_BadTable => k_is)
    (case ic_BadTable => k_is)
    (case su_BadTable => ks_is)
    (case sv_BadTable => k_is)
    (case mr_BadTable => k_is)
    (case xm_BadNumber_BadNumber => k_is)
    (case xm_BadNumber_BadTolerance => k_is)
    (case xm_BadNumber_BadGroup => k_is)
    (case xm_BadNumber_BadLoop => k_is)
    (case xm_BadNumber_UnknownState => k_is)
    (case xm_BadNumber_BadAnswer => k_is)
    (case xm_BadNumber_BadJoint => k_is)
    (case xm_BadNumber_BadKind => k_is)
    (case xm_BadNumber_BadWatch => k_is)
    (case xm_BadNumber_BadRow => k_is)
    (case xm_BadNumber_BadTable => k_is)
    (case xm_BadTolerance_BadNumber => k_is)
    (case xm_BadTolerance_BadTolerance => k_is)
    (case xm_BadTolerance_BadGroup => k_is)
    (case xm_BadTolerance_BadLoop => k_is)
    (case xm_BadTolerance_UnknownState => k_is)
    (case xm_BadTolerance_BadAnswer => k_is)
    (case xm_BadTolerance_BadJoint => k_is)
    (case xm_BadTolerance_BadKind => k_is)
    (case xm_BadTolerance_BadWatch => k_is)
    (case xm_BadTolerance_BadRow => k_is)
    (case xm_BadTolerance_BadTable => k_is)
    (case xm_BadGroup_BadNumber => k_is)
    (case xm_BadGroup_BadTolerance => k_is)
    (case xm_BadGroup_BadGroup => k_is)
    (case xm_BadGroup_BadLoop => k_is)
    (case xm_BadGroup_UnknownState => k_is)
    (case xm_BadGroup_BadAnswer => k_is)
    (case xm_BadGroup_BadJoint => k_is)
    (case xm_BadGroup_BadKind => k_is)
    (case xm_BadGroup_BadWatch => k_is)
    (case xm_BadGroup_BadRow => k_is)
    (case xm_BadGroup_BadTable => k_is)
    (case xm_BadLoop_BadNumber => k_is)
    (case xm_BadLoop_BadTolerance => k_is)
    (case xm_BadLoop_BadGroup => k_is)
    (case xm_BadLoop_BadLoop => k_is)
    (case xm_BadLoop_UnknownState => k_is)
    (case xm_BadLoop_BadAnswer => k_is)
    (case xm_BadLoop_BadJoint => k_is)
    (case xm_BadLoop_BadKind => k_is)
    (case xm_BadLoop_BadWatch => k_is)
    (case xm_BadLoop_BadRow => k_is)
    (case xm_BadLoop_BadTable => k_is)
    (case xm_UnknownState_BadNumber => k_is)
    (case xm_UnknownState_BadTolerance => k_is)
    (case xm_UnknownState_BadGroup => k_is)
    (case xm_UnknownState_BadLoop => k_is)
    (case xm_UnknownState_UnknownState => k_is)
    (case xm_UnknownState_BadAnswer => k_is)
    (case xm_UnknownState_BadJoint => k_is)
    (case xm_UnknownState_BadKind => k_is)
    (case xm_UnknownState_BadWatch => k_is)
    (case xm_UnknownState_BadRow => k_is)
    (case xm_UnknownState_BadTable => k_is)
    (case xm_BadAnswer_BadNumber => k_is)
    (case xm_BadAnswer_BadTolerance => k_is)
    (case xm_BadAnswer_BadGroup => k_is)
    (case xm_BadAnswer_BadLoop => k_is)
    (case xm_BadAnswer_UnknownState => k_is)
    (case xm_BadAnswer_BadAnswer => k_is)
    (case xm_BadAnswer_BadJoint => k_is)
    (case xm_BadAnswer_BadKind => k_is)
    (case xm_BadAnswer_BadWatch => k_is)
    (case xm_BadAnswer_BadRow => k_is)
    (case xm_BadAnswer_BadTable => k_is)
    (case xm_BadJoint_BadNumber => k_is)
    (case xm_BadJoint_BadTolerance => k_is)
    (case xm_BadJoint_BadGroup => k_is)
    (case xm_BadJoint_BadLoop => k_is)
    (case xm_BadJoint_UnknownState => k_is)
    (case xm_BadJoint_BadAnswer => k_is)
    (case xm_BadJoint_BadJoint => k_is)
    (case xm_BadJoint_BadKind => k_is)
    (case xm_BadJoint_BadWatch => k_is)
    (case xm_BadJoint_BadRow => k_is)
    (case xm_BadJoint_BadTable => k_is)
    (case xm_BadKind_BadNumber => k_is)
    (case xm_BadKind_BadTolerance => k_is)
    (case xm_BadKind_BadGroup => k_is)
    (case xm_BadKind_BadLoop => k_is)
    (case xm_BadKind_UnknownState => k_is)
    (case xm_BadKind_BadAnswer => k_is)
    (case xm_BadKind_BadJoint => k_is)
    (case xm_BadKind_BadKind => k_is)
    (case xm_BadKind_BadWatch => k_is)
    (case xm_BadKind_BadRow => k_is)
    (case xm_BadKind_BadTable => k_is)
    (case xm_BadWatch_BadNumber => k_is)
    (case xm_BadWatch_BadTolerance => k_is)
    (case xm_BadWatch_BadGroup => k_is)
    (case xm_BadWatch_BadLoop => k_is)
    (case xm_BadWatch_UnknownState => k_is)
    (case xm_BadWatch_BadAnswer => k_is)
    (case xm_BadWatch_BadJoint => k_is)
    (case xm_BadWatch_BadKind => k_is)
    (case xm_BadWatch_BadWatch => k_is)
    (case xm_BadWatch_BadRow => k_is)
    (case xm_BadWatch_BadTable => k_is)
    (case xm_BadRow_BadNumber => k_is)
    (case xm_BadRow_BadTolerance => k_is)
    (case xm_BadRow_BadGroup => k_is)
    (case xm_BadRow_BadLoop => k_is)
    (case xm_BadRow_UnknownState => k_is)
    (case xm_BadRow_BadAnswer => k_is)
    (case xm_BadRow_BadJoint => k_is)
    (case xm_BadRow_BadKind => k_is)
    (case xm_BadRow_BadWatch => k_is)
    (case xm_BadRow_BadRow => k_is)
    (case xm_BadRow_BadTable => k_is)
    (case xm_BadTable_BadNumber => k_is)
    (case xm_BadTable_BadTolerance => k_is)
    (case xm_BadTable_BadGroup => k_is)
    (case xm_BadTable_BadLoop => k_is)
    (case xm_BadTable_UnknownState => k_is)
    (case xm_BadTable_BadAnswer => k_is)
    (case xm_BadTable_BadJoint => k_is)
    (case xm_BadTable_BadKind => k_is)
    (case xm_BadTable_BadWatch => k_is)
    (case xm_BadTable_BadRow => k_is)
    (case xm_BadTable_BadTable => k_is)
    (case gc_NearError => k_is)
    (case ec_NearError => k_is)
    (case tc_NearError => k_is)
    (case ic_NearError => k_is)
    (case sp_cls => k_is)
    (case tk_cls => k_is)
    (case fc_BadNumber => k_is)
    (case mo_BadNumber => k_is)
    (case xn_BadNumber => k_is)
    (case fc_BadTolerance => k_is)
    (case mo_BadTolerance => k_is)
    (case xn_BadTolerance => k_is)
    (case fc_BadGroup => k_is)
    (case mo_BadGroup => k_is)
    (case xn_BadGroup => k_is)
    (case fc_BadLoop => k_is)
    (case mo_BadLoop => k_is)
    (case xn_BadLoop => k_is)
    (case fc_UnknownState => k_is)
    (case mo_UnknownState => k_is)
    (case xn_UnknownState => k_is)
    (case fc_BadAnswer => k_is)
    (case mo_BadAnswer => k_is)
    (case xn_BadAnswer => k_is)
    (case fc_BadJoint => k_is)
    (case mo_BadJoint => k_is)
    (case xn_BadJoint => k_is)
    (case fc_BadKind => k_is)
    (case mo_BadKind => k_is)
    (case xn_BadKind => k_is)
    (case fc_BadWatch => k_is)
    (case mo_BadWatch => k_is)
    (case xn_BadWatch => k_is)
    (case fc_BadRow => k_is)
    (case mo_BadRow => k_is)
    (case xn_BadRow => k_is)
    (case fc_BadTable => k_is)
    (case mo_BadTable => k_is)
    (case xn_BadTable => k_is)
    (case tany => k_is)
    (case msup => k_is)
    (case tsup => decide +kernel)
    (case m_len => k_is)
    (case m_int => k_is)
    (case m_range => k_is)
    (case m_isinstance => k_is)
    (case m_super => k_is)
    (case m_ValueError => k_is)
#print axioms PySem.Challenge.cw_nearloops_k35_errors_made_holds

